import PyProof.Rows.All
import Wide.All
import OpenK.AllK
import Wide.FinOn
import KE.KStateDown
import HandS.Base
import HandS.Call
import HandS.Exc
import HandS.Defaults
import HandS.Words
import HandS.List
import HandS.Dict
import HandS.More
import HandS.Head0
import HandS.Head1
import HandS.Head2
import HandS.HeadEnd
import HandS.HeadHook1
import HandS.HeadHook2
import HandS.HeadHook3
import HandS.ForMost
import HandS.Wide
import HandS.WideMore
import HandS.Flow
import HandS.IsInst
import HandS.ExcInit
import HandS.Text
import Lean
import KE.KOpsOwn
import KE.KExcHand
import KE.KExcIs
import HandS.Property
import HandS.SlotsOwn
import HandS.MakeKw
import HandS.Style
import HandS.ExcValue
import HandS.ExcIs
import HandS.TupAny
import PyProof.StrOps2
import HandS.ExcOwn
import HandS.WordsExc
import HandS.ExcField
import HandS.Rev
import KE.KRevSl
import HandS.SetKeys
import HandS.SortInts
import KE.KOwnIter
import KE.KDictIter
import HandS.IterNext
import PyProof.TwoTypes
import PyProof.FactsAll.int_1
import PyProof.FactsAll.int_3
import PyProof.FactsAll.int_5
import HandS.ListItems
import HandS.Walk
import HandS.Strs
import PyProof.SeqRoads2
import HandS.Conv
import PySem.Challenge.RW_everyangle_k31_programs_that_are_not_sho
set_option Elab.async false
set_option linter.all false
set_option maxRecDepth 100000
set_option maxHeartbeats 4000000
/-! The head's facts by one kernel run: what is looked at, and what each look says. -/
namespace My
open PySem PySem.Spec PyProof.Rows L2
theorem all_at {l : List Bool} (h : l.all id = true) {i : Nat} {b : Bool} (e : l[i]? = some b) : b = true := List.all_eq_true.mp h b (List.mem_of_getElem? e)
theorem list_at {α : Type} {l m : List α} (e : l = m) {i : Nat} {a b : α} (h1 : l[i]? = some a) (h2 : m[i]? = some b) : a = b := by
  subst e
  rw [h1] at h2
  exact Option.some.inj h2
theorem some_at {α : Type} {o : Option α} (h : o.isSome = true) : ∃ x, o = some x := Option.isSome_iff_exists.mp h
def intC (o : Option (Option Value)) (i : Int) : Bool := match o with
  | some (some (.int j _)) => decide (j = i)
  | _ => false
theorem intC_ok {o : Option (Option Value)} {i : Int} (h : intC o i = true) : ∃ t, o = some (some (.int i t)) := by
  unfold intC at h
  split at h
  · rename_i j t
    exact ⟨t, by rw [of_decide_eq_true h]⟩
  · cases h
def clsC (o : Option ClassData) (m : List Value) : Bool := match o with
  | some cd => decide (cd.mro = m)
  | none => false
theorem clsC_ok {o : Option ClassData} {m : List Value} (h : clsC o m = true) : ∃ cd, o = some cd ∧ cd.mro = m := by
  unfold clsC at h
  split at h
  · exact ⟨_, rfl, of_decide_eq_true h⟩
  · cases h
section
variable {K : PySem.W.Frag}
def fnE (K : PySem.W.Frag) (f : Addr) : He.FnW := match K.lookup f with
  | some ⟨_, _, .func fd, _⟩ => some (fd.name, fd.qualname, fd.params, fd.body, fd.scope, fd.globals, fd.closure, fd.builtins)
  | _ => none
def fnC (K : PySem.W.Frag) (f : Addr) (q : Str) (dV : Value) : Bool := match K.lookup f with
  | some ⟨_, _, .func fd, _⟩ => PySem.W.codeIn K fd.code q && decide (fd.defaults = dV)
  | _ => false
theorem fnE_ok {f : Addr} {x q : Str} {ps : Arguments} {body : List Stmt} {sc : Scope} {dV : Value} (e : fnE K f = some (x, q, ps, .stmts body, sc, mainGlobals, [], builtinsNs)) (c : fnC K f q dV = true) :
    ∃ oc od osl kV doc pm an cdv ct, K.lookup f = some ⟨oc, od, .func (PySem.W.fnOf x q ps body sc dV kV doc pm an cdv ct), osl⟩ ∧ PySem.W.codeIn K cdv q = true := by
  unfold fnC at c
  unfold fnE at e
  cases l : K.lookup f with
  | none =>
    rw [l] at c
    cases c
  | some o =>
    obtain ⟨oc, od, dt, osl⟩ := o
    rw [l] at c e
    cases dt with
    | func fd =>
      obtain ⟨n1, n2, n3, n4, n5, n6, n7, n8, n9, n10, n11, n12, n13, n14, n15⟩ := fd
      have e2 : (some (n1, n2, n3, n4, n5, n6, n7, n15) : He.FnW) = some (x, q, ps, .stmts body, sc, mainGlobals, [], builtinsNs) := e
      simp only [Option.some.injEq, Prod.mk.injEq] at e2
      obtain ⟨h1, h2, h3, h4, h5, h6, h7, h8⟩ := e2
      subst h1 h2 h3 h4 h5 h6 h7 h8
      have c3 : (PySem.W.codeIn K n13 n2 && decide (n8 = dV)) = true := c
      obtain ⟨k1, k2⟩ := He.ba c3
      have k3 := of_decide_eq_true k2
      subst k3
      exact ⟨oc, od, osl, n9, n10, n11, n12, n13, n14, rfl, k1⟩
    | _ => cases c
theorem fun_at {f : Addr} {x q : Str} {st : Stmt} (e : fnE K f = some (x, q, defArgs st, .stmts (defBody st), defScope st, mainGlobals, [], builtinsNs)) (c : fnC K f q .none = true) (k : PySem.W.keepIn K (.ref f) = true) : ∃ fd : FuncData, Fun K x q st f fd := by
  obtain ⟨oc, od, osl, kV, doc, pm, an, cdv, ct, l, h⟩ := fnE_ok e c
  exact ⟨_, ⟨oc, od, kV, doc, pm, an, cdv, ct, osl, rfl, l, h⟩, k⟩
def dtA (K : PySem.W.Frag) (f : Addr) : Addr := match K.lookup f with
  | some ⟨_, _, .func fd, _⟩ => (match fd.defaults with
    | .ref T => T
    | _ => 0)
  | _ => 0
def tupI (K : PySem.W.Frag) (a : Addr) (i : Int) : Bool := match K.lookup a with
  | some ⟨.type c, _, .seq its _, _⟩ => decide (c = "tuple") && (match its.toList with
    | [.int j _] => decide (j = i)
    | _ => false)
  | _ => false
theorem tupI_ok {a : Addr} {i : Int} (h : tupI K a i = true) : ∃ dd t n s, K.lookup a = some ⟨.type "tuple", dd, .seq #[.int i t] n, s⟩ := by
  unfold tupI at h
  split at h
  · rename_i c dd its n s e
    obtain ⟨h1, h2⟩ := He.ba h
    have h3 := of_decide_eq_true h1
    subst h3
    obtain ⟨l⟩ := its
    split at h2
    · rename_i j t e2
      have e3 : l = [.int j t] := e2
      have h4 := of_decide_eq_true h2
      subst e3 h4
      exact ⟨dd, t, n, s, e⟩
    · cases h2
  · cases h
def tupSS (K : PySem.W.Frag) (a : Addr) (x y : Str) : Bool := match K.lookup a with
  | some ⟨.type c, _, .seq its _, _⟩ => decide (c = "tuple") && (match its.toList with
    | [.str u _, .str v _] => decide (u = x) && decide (v = y)
    | _ => false)
  | _ => false
theorem tupSS_ok {a : Addr} {x y : Str} (h : tupSS K a x y = true) : ∃ dd t1 t2 n s, K.lookup a = some ⟨.type "tuple", dd, .seq #[.str x t1, .str y t2] n, s⟩ := by
  unfold tupSS at h
  split at h
  · rename_i c dd its n s e
    obtain ⟨h1, h2⟩ := He.ba h
    have h3 := of_decide_eq_true h1
    subst h3
    obtain ⟨l⟩ := its
    split at h2
    · rename_i u t1 v t2 e2
      have e3 : l = [.str u t1, .str v t2] := e2
      obtain ⟨h4, h5⟩ := He.ba h2
      have h6 := of_decide_eq_true h4
      have h7 := of_decide_eq_true h5
      subst e3 h6 h7
      exact ⟨dd, t1, t2, n, s, e⟩
    · cases h2
  · cases h
end
/-- what the module's names reach in n steps, level by level (with doublets) -/
def hdLv (g : Addr → Option Obj) : Nat → List Addr → List Addr
  | 0, as => as
  | n + 1, as => as ++ hdLv g n (as.flatMap fun a => match g a with
    | some o => He.refsD o
    | none => [])
/-- a fact of every world: at each answer of the one row of the world that the top asks -/
theorem by_row {P : World → Prop} (hf : ∀ w : World, P (w.withFollow "special-get-raises" false)) (ht : ∀ w : World, P (w.withFollow "special-get-raises" true)) (w : World) : P w := PySem.W.byRow2 "special-get-raises" hf ht w
end My

set_option Elab.async false
set_option linter.all false
set_option maxRecDepth 100000
namespace My
open PySem PySem.Spec PyProof.Rows L2

/-! ### a def of the text, by its name -/
structure Has (P : Program) (w : World) (K : PySem.W.Frag) (mg : Str → Option Value) (base : Heap) (x : Str) (k : Nat) (ps : List Str) (sp : Sp) : Prop where
  ex : ∃ f fd, FnOk P w K mg base CX0 k f fd ps sp ∧ mg x = some (.ref f) ∧ PySem.W.keepIn K (.ref f) = true ∧ Binds K fd ps []
theorem Has.mono {P : Program} {w : World} {K : PySem.W.Frag} {mg : Str → Option Value} {base : Heap} {x : Str} {j k : Nat} {ps : List Str} {sp : Sp} (h : Has P w K mg base x j ps sp) (hk : j ≤ k) : Has P w K mg base x k ps sp := by
  obtain ⟨f, fd, F, a, b, c⟩ := h.ex
  exact ⟨f, fd, F.mono hk, a, b, c⟩
section
variable {X : Cx} {k : Nat} {ps : List Str} {sp : Sp} {x : Str} {p pos : Pos} {e : Expr} {es : List Expr} {t : TA}
theorem pe_callH (h : Has X.prog X.w X.K X.mg X.base x k ps sp) (hr : Room k X.A) (ha : PA X (e :: es) t) (hg : Gl X x := by rfl) (hdb : (x == ("__debug__" : Str)) = false := by decide)
   (hs : starEach (e :: es) X.env = (false, eval e X.env) :: starEach es X.env := by rfl) (hplain : (backTo pos (starEach es X.env)).any (·.1) = false := by rfl) :
   PE X (.Call (.Name x p) (e :: es) [] pos) (tCall sp [] E0 t) := by
  obtain ⟨f, fd, F, a, b, c⟩ := h.ex
  exact pe_call F hr hg a b c .nil pass0 ha hdb hs hplain
end
/-- xs[i] read by values, for o[i] op= e -/
theorem pg_list {X : Cx} : PGet X (rIxL X.K) := by
  intro pins s σ H x y v u Q I rx ry h
  obtain ⟨p, xs, i, z, rfl, rfl, hq, he, q⟩ := h
  cases rx
  obtain ⟨t, rfl⟩ := ry
  obtain ⟨its, r, pl, hz⟩ := I.list hq
  obtain ⟨j, h1, h2, h3, h4, h5⟩ := atI_get he
  obtain ⟨w, ew, rw'⟩ := r.get h2
  have hl := r.length
  have hn := line63
  have fin : EP X pins σ Q w s := ⟨z, H, I, rw', q⟩
  by_cases h0 : 0 ≤ i
  · have hj : i.toNat = j := by
      rw [seqIndex_of h0 h5] at h1
      exact Option.some.inj h1
    exact wpAny_getItem_list pl.isList h0 (by omega) (by rw [hj]; simpa using ew) fin
  · have hj : (i + (its.toArray.size : Int)).toNat = j := by
      rw [seqIndex_neg (by omega) h4] at h1
      rw [List.size_toArray, ← hl]
      exact Option.some.inj h1
    exact wpAny_getItem_list_neg pl.isList (by omega) (by rw [List.size_toArray] <;> omega) (by omega) (by rw [hj]; simpa using ew) fin
/-- int(n) of an int, of a truth -/
theorem call_intI {X : Cx} : CallR X (.type "int") (fun xs H Q => ∃ i, xs = [.int i] ∧ Q (.int i) H) := fun pins s σ H xs us Q I r h => call_int1 pins s σ H xs us Q I r (.inl h)
theorem call_intB {X : Cx} : CallR X (.type "int") (fun xs H Q => ∃ k, xs = [.bl k] ∧ Q (.int (if k then 1 else 0)) H) := fun pins s σ H xs us Q I r h => call_int1 pins s σ H xs us Q I r (.inr h)

/-! ### readings, one step at a time -/
section
variable {σ : L2.St} {H : Hp} {Q : VK} {i j : Nat} {v x y : V} {ta tb tc te ti to : TE} {K : PySem.W.Frag}
theorem r_var (e : σ[i]? = some (some v)) (q : Q v H) : tVar i σ H Q := ⟨v, e, q⟩
theorem r_c (q : Q v H) : tC v σ H Q := q
theorem r_op {r : R2} (q : ta σ H fun x H1 => tb σ H1 fun y H2 => r x y H2 Q) : tOp r ta tb σ H Q := q
theorem r_un {r : V → Hp → VK → Prop} (q : ta σ H fun x H1 => r x H1 Q) : tUn r ta σ H Q := q
theorem r_rI {C : Int → Int → Prop} {g : Int → Int → V} {a b : Int} (c : C a b) (q : Q (g a b) H) : rI C g (.int a) (.int b) H Q := ⟨a, b, rfl, rfl, c, q⟩
theorem r_rI0 {g : Int → Int → V} {a b : Int} (q : Q (g a b) H) : rI0 g (.int a) (.int b) H Q := ⟨a, b, rfl, rfl, q⟩
theorem r_rU {g : Int → V} {a : Int} (q : Q (g a) H) : rU g (.int a) H Q := ⟨a, rfl, q⟩
theorem r_eq (s : scal x y = true) (q : Q (.bl (decide (x = y))) H) : rEq x y H Q := ⟨s, q⟩
theorem r_ne (s : scal x y = true) (q : Q (.bl (!decide (x = y))) H) : rNe x y H Q := ⟨s, q⟩
theorem dec_int {a b : Int} : decide (V.int a = V.int b) = decide (a = b) := by
  by_cases h : a = b
  · rw [h]; simp
  · rw [decide_eq_false h, decide_eq_false (fun e => h (V.int.inj e))]
theorem dec_bl {a b : Bool} : decide (V.bl a = V.bl b) = decide (a = b) := by
  by_cases h : a = b
  · rw [h]; simp
  · rw [decide_eq_false h, decide_eq_false (fun e => h (V.bl.inj e))]
theorem dec_str {a b : Str} : decide (V.str a = V.str b) = decide (a = b) := by
  by_cases h : a = b
  · rw [h]; simp
  · rw [decide_eq_false h, decide_eq_false (fun e => h (V.str.inj e))]
theorem r_eqI {a b : Int} (q : Q (.bl (decide (a = b))) H) : rEq (.int a) (.int b) H Q := ⟨rfl, by rw [dec_int]; exact q⟩
theorem r_neI {a b : Int} (q : Q (.bl (!decide (a = b))) H) : rNe (.int a) (.int b) H Q := ⟨rfl, by rw [dec_int]; exact q⟩
theorem r_eqB {a b : Bool} (q : Q (.bl (decide (a = b))) H) : rEq (.bl a) (.bl b) H Q := ⟨rfl, by rw [dec_bl]; exact q⟩
theorem r_neB {a b : Bool} (q : Q (.bl (!decide (a = b))) H) : rNe (.bl a) (.bl b) H Q := ⟨rfl, by rw [dec_bl]; exact q⟩
theorem r_eqS {a b : Str} (q : Q (.bl (decide (a = b))) H) : rEq (.str a) (.str b) H Q := ⟨rfl, by rw [dec_str]; exact q⟩
theorem r_neS {a b : Str} (q : Q (.bl (!decide (a = b))) H) : rNe (.str a) (.str b) H Q := ⟨rfl, by rw [dec_str]; exact q⟩
theorem r_ixL {p : Addr} {xs : List V} {n : Int} (h : SqL K H p xs) (e : atI xs n = some v) (q : Q v H) : rIxL K (.ref p) (.int n) H Q := ⟨p, xs, n, v, rfl, rfl, h, e, q⟩
theorem r_ixT {p : Addr} {xs : List V} {n : Int} (h : SqT K H p xs) (e : atI xs n = some v) (q : Q v H) : rIxT K (.ref p) (.int n) H Q := ⟨p, xs, n, v, rfl, rfl, h, e, q⟩
theorem r_cb {r : List V → Hp → VK → Prop} {t : TA} (q : t σ H fun vs H1 => r vs H1 Q) : tCB r t σ H Q := q
theorem r_call {sp : Sp} {E : XK} {t : TA} (q : t σ H fun vs H1 => sp vs H1 Q E) : tCall sp [] E t σ H Q := by
  unfold tCall
  simpa only [List.append_nil] using q
theorem r_cons {t : TA} {R : List V → Hp → Prop} (q : te σ H fun x H1 => t σ H1 fun xs H2 => R (x :: xs) H2) : tCons te t σ H R := q
theorem r_nil {R : List V → Hp → Prop} (q : R [] H) : tNil σ H R := q
theorem r_lst {t : TA} (q : t σ H fun xs H1 => xs.length ≤ sizeLine ∧ ∀ p, H1 p = none → Q (.ref p) (upd H1 p (.lst xs))) : tLst t σ H Q := q
theorem r_tup {t : TA} (q : t σ H fun xs H1 => xs.length ≤ sizeLine ∧ ∀ p, H1 p = none → Q (.ref p) (upd H1 p (.tup xs))) : tTup t σ H Q := q
theorem small_of {n : Nat} (h : n ≤ 100000) : n ≤ sizeLine := Nat.le_trans h (by decide)
theorem r_new {A : Prop} {n : Nat} (h : n ≤ 100000) (q : A) : n ≤ sizeLine ∧ A := ⟨small_of h, q⟩
theorem r_exbl {b : Bool} {R : Bool → Prop} (q : R b) : ∃ k, V.bl b = V.bl k ∧ R k := ⟨b, rfl, q⟩
theorem r_exint {n : Int} {R : Int → Prop} (q : R n) : ∃ k, [V.int n] = [V.int k] ∧ R k := ⟨n, rfl, q⟩
theorem r_exint2 {n m : Int} {R : Int → Int → Prop} (q : R n m) : ∃ k l, [V.int n, V.int m] = [V.int k, V.int l] ∧ R k l := ⟨n, m, rfl, q⟩
theorem r_exblL {b : Bool} {R : Bool → Prop} (q : R b) : ∃ k, [V.bl b] = [V.bl k] ∧ R k := ⟨b, rfl, q⟩
theorem r_test {t : TE} {R : Bool → Hp → Prop} (q : t σ H fun x H' => ∃ k, x = .bl k ∧ R k H') : tTest t σ H R := q
theorem r_tB {t : TE} {R : Bool → Hp → Prop} (q : t σ H fun x H' => ∃ k, x = .bl k ∧ R k H') : tB t σ H R := q
theorem r_not {t : TT} {R : Bool → Hp → Prop} (q : t σ H fun c H1 => R (!c) H1) : tNot t σ H R := q
theorem r_and {t u : TT} {R : Bool → Hp → Prop} (q : t σ H fun c H1 => if c = true then u σ H1 R else R false H1) : tAnd t u σ H R := q
theorem r_or {t u : TT} {R : Bool → Hp → Prop} (q : t σ H fun c H1 => if c = true then R true H1 else u σ H1 R) : tOr t u σ H R := q
theorem r_andV (q : ta σ H fun x H1 => ∃ c, x = .bl c ∧ if c = true then tb σ H1 Q else Q (.bl false) H1) : tAndV ta tb σ H Q := q
theorem r_orV (q : ta σ H fun x H1 => ∃ c, x = .bl c ∧ if c = true then Q (.bl true) H1 else tb σ H1 Q) : tOrV ta tb σ H Q := q
theorem r_notV (q : ta σ H fun x H1 => ∃ c, x = .bl c ∧ Q (.bl (!c)) H1) : tNotV ta σ H Q := q
theorem r_tif {t : TT} (q : t σ H fun c H1 => if c = true then ta σ H1 Q else tb σ H1 Q) : tIf t ta tb σ H Q := q
theorem r_iteT {A B : Prop} (q : A) : if true = true then A else B := by rw [if_pos rfl]; exact q
theorem r_iteF {A B : Prop} (q : B) : if false = true then A else B := by rw [if_neg Bool.false_ne_true]; exact q
theorem r_ite {b : Bool} {A B : Prop} (q : b = true → A) (q' : b = false → B) : if b = true then A else B := by
  cases b with
  | true => rw [if_pos rfl]; exact q rfl
  | false => rw [if_neg Bool.false_ne_true]; exact q' rfl
theorem r_iteD {c A B : Prop} [Decidable c] (q : c → A) (q' : ¬ c → B) : if decide c = true then A else B := by
  by_cases h : c
  · rw [if_pos (decide_eq_true h)]; exact q h
  · rw [if_neg (by simpa using h)]; exact q' h
theorem r_iteN {c A B : Prop} [Decidable c] (q : ¬ c → A) (q' : c → B) : if (!decide c) = true then A else B := by
  by_cases h : c
  · rw [if_neg (by simpa using h)]; exact q' h
  · rw [if_pos (by simpa using h)]; exact q h
theorem r_iteNT {A B : Prop} (q : B) : if (!true) = true then A else B := r_iteF q
theorem r_iteNF {A B : Prop} (q : A) : if (!false) = true then A else B := r_iteT q
theorem r_iteDT {c A B : Prop} [Decidable c] (h : c) (q : A) : if decide c = true then A else B := by rw [if_pos (decide_eq_true h)]; exact q
theorem r_iteDF {c A B : Prop} [Decidable c] (h : ¬ c) (q : B) : if decide c = true then A else B := by rw [if_neg (by simpa using h)]; exact q
theorem r_iteNDT {c A B : Prop} [Decidable c] (h : ¬ c) (q : A) : if (!decide c) = true then A else B := by rw [if_pos (by simpa using h)]; exact q
theorem r_iteNDF {c A B : Prop} [Decidable c] (h : c) (q : B) : if (!decide c) = true then A else B := by rw [if_neg (by simpa using h)]; exact q
/-- a statement, then the rest, with a word between them -/
def tCutM (t u : TS) : TS := fun D σ H => ∃ Mid : L2.St → Hp → Prop, t { D with nx := Mid } σ H ∧ ∀ σ' H', Mid σ' H' → u D σ' H'
theorem pss_cutM {X : Cx} {st : Stmt} {rest : List Stmt} {t u : TS} (h1 : PS X st t) (h2 : PSs X rest u) : PSs X (st :: rest) (tCutM t u) := by
  refine ⟨fun pins s σ H D I h => ?_⟩
  obtain ⟨Mid, hm, hu⟩ := h
  refine wpAny_execs_cons (thn (h1.run pins s σ H { D with nx := Mid } I hm) fun f s1 q => ?_)
  cases f with
  | next =>
    obtain ⟨σ', H', I', q⟩ := q
    exact h2.run pins s1 σ' H' D I' (hu σ' H' q)
  | ret v => exact q
  | brk => exact q
  | cont => exact q
variable {D : Ends} {t u : TS} {g : TG} {c : TT}
theorem r_cut (Mid : L2.St → Hp → Prop) (h : t { D with nx := Mid } σ H) (q : ∀ σ' H', Mid σ' H' → u D σ' H') : tCutM t u D σ H := ⟨Mid, h, q⟩
theorem r_seq (q : t { D with nx := u D } σ H) : tSeq t u D σ H := q
theorem r_next (q : D.nx σ H) : tNext D σ H := q
theorem r_brk (q : D.bk σ H) : tBreak D σ H := q
theorem r_cont (q : D.ct σ H) : tCont D σ H := q
theorem r_asg (q : te σ H fun x H1 => g x σ H1 D.nx) : tAsg te g D σ H := q
theorem r_gname {R : L2.St → Hp → Prop} (q : R (σ.set i (some v)) H) : gName i v σ H R := q
theorem r_ret (q : te σ H D.rt) : tRet te D σ H := q
theorem r_retN (q : D.rt .non H) : tRetN D σ H := q
theorem r_drop (q : te σ H fun _ H1 => D.nx σ H1) : tDrop te D σ H := q
theorem r_if (q : c σ H fun b H1 => if b = true then t D σ H1 else u D σ H1) : tIfS c t u D σ H := q
theorem r_aug {ip : TIp} (e : σ[i]? = some (some x)) (q : te σ H fun y H1 => ip x y H1 fun z H2 => D.nx (σ.set i (some z)) H2) : tAug i te ip D σ H := ⟨x, e, q⟩
theorem r_ipI {f : Int → Int → Int} {a b : Int} (q : Q (.int (f a b)) H) : ipI f (.int a) (.int b) H Q := ⟨a, b, rfl, rfl, q⟩
theorem r_augS {gt : V → V → Hp → VK → Prop} {ip : TIp} {st : TSet} (q : to σ H fun o H1 => ti σ H1 fun i H2 => gt o i H2 fun x H3 => te σ H3 fun y H4 => ip x y H4 fun z H5 => st o i z H5 fun H6 => D.nx σ H6) : tAugS to ti te gt ip st D σ H := q
theorem r_gsub {st : TSet} {R : L2.St → Hp → Prop} (q : to σ H fun o H1 => ti σ H1 fun i H2 => st o i v H2 fun H3 => R σ H3) : gSub to ti st v σ H R := q
theorem r_setL {p : Addr} {xs : List V} {n : Int} {m : Nat} {R : Hp → Prop} (h : H p = some (.lst xs)) (e : ixN xs.length n = some m) (q : R (upd H p (.lst (xs.set m v)))) : rSetL (.ref p) (.int n) v H R := ⟨p, xs, n, m, rfl, rfl, h, e, q⟩
theorem r_par {i j : Nat} {tas : TA} (q : tas σ H fun vs H1 => ∃ v w, vs = [v, w] ∧ D.nx ((σ.set i (some v)).set j (some w)) H1) : tPar i j tas D σ H := q
theorem r_ex2 {v w : V} {R : V → V → Prop} (q : R v w) : ∃ a b, [v, w] = [a, b] ∧ R a b := ⟨v, w, rfl, q⟩
theorem r_bm {T : String} {r : V → List V → Hp → VK → Prop} {tas : TA} (q : to σ H fun x H1 => tyV K T x H1 ∧ tas σ H1 fun xs H2 => r x xs H2 Q) : tBM K T r to tas σ H Q := q
theorem r_tyL {p : Addr} {xs : List V} {A : Prop} (h : H p = some (.lst xs)) (q : A) : tyV K "list" (.ref p) H ∧ A := ⟨.inl ⟨rfl, _, .inl (.inl h)⟩, q⟩
theorem r_append {p : Addr} {xs : List V} (h : H p = some (.lst xs)) (hl : xs.length < 100000) (q : Q .non (upd H p (.lst (xs ++ [v])))) : rAppend (.ref p) [v] H Q := ⟨p, xs, v, rfl, rfl, h, Nat.lt_of_lt_of_le hl (by decide), q⟩
end

/-- f(k = v, ..): all by name, in the parameters' order -/
def gK (us ws : List Value) : List Value := match us with | [] => ws | _ :: _ => []
def gKV (us ws : List V) : List V := match us with | [] => ws | _ :: _ => []
structure HasK (P : Program) (w : World) (K : PySem.W.Frag) (mg : Str → Option Value) (base : Heap) (x : Str) (k : Nat) (ps : List Str) (sp : Sp) : Prop where
  ex : ∃ f fd, FnOk P w K mg base CX0 k f fd ps sp ∧ mg x = some (.ref f) ∧ PySem.W.keepIn K (.ref f) = true ∧ Binds K fd ps [] ∧ KBinds K fd ps ps gK gKV
theorem HasK.has {P : Program} {w : World} {K : PySem.W.Frag} {mg : Str → Option Value} {base : Heap} {x : Str} {k : Nat} {ps : List Str} {sp : Sp} (h : HasK P w K mg base x k ps sp) : Has P w K mg base x k ps sp := by
  obtain ⟨f, fd, F, a, b, c, _⟩ := h.ex
  exact ⟨f, fd, F, a, b, c⟩
/-! ### isinstance -/
section
variable {H : Hp} {Q : VK} {K : PySem.W.Frag} {x : V}
theorem r_isi {a b : String} {r : Bool} (ty : TyX K H x (.type a)) (k : kitB a b = some r) (q : Q (.bl r) H) : rIsi K [x, .ty b] H Q := ⟨x, .ty b, _, _, r, rfl, .ty b, ty, kit_ty k, q⟩
theorem ty_int {i : Int} : TyX K H (.int i) (.type "int") := .base (.int i)
theorem ty_bl {i : Bool} : TyX K H (.bl i) (.type "bool") := .base (.bl i)
theorem ty_str {i : Str} : TyX K H (.str i) (.type "str") := .base (.str i)
theorem ty_lst {p : Addr} {xs : List V} (h : H p = some (.lst xs)) : TyX K H (.ref p) (.type "list") := .base (.lst h)
theorem ty_tup {p : Addr} {xs : List V} (h : H p = some (.tup xs)) : TyX K H (.ref p) (.type "tuple") := .base (.tup h)
end
section
variable {H : Hp} {Q : VK} {K : PySem.W.Frag}
theorem r_is_int_int {i : Int} (q : Q (.bl true) H) : rIsi K [.int i, .ty "int"] H Q := r_isi ty_int (by decide +kernel) q
theorem r_is_int_bool {i : Int} (q : Q (.bl false) H) : rIsi K [.int i, .ty "bool"] H Q := r_isi ty_int (by decide +kernel) q
theorem r_is_int_str {i : Int} (q : Q (.bl false) H) : rIsi K [.int i, .ty "str"] H Q := r_isi ty_int (by decide +kernel) q
theorem r_is_int_list {i : Int} (q : Q (.bl false) H) : rIsi K [.int i, .ty "list"] H Q := r_isi ty_int (by decide +kernel) q
theorem r_is_int_tuple {i : Int} (q : Q (.bl false) H) : rIsi K [.int i, .ty "tuple"] H Q := r_isi ty_int (by decide +kernel) q
theorem r_is_bool_int {i : Bool} (q : Q (.bl true) H) : rIsi K [.bl i, .ty "int"] H Q := r_isi ty_bl (by decide +kernel) q
theorem r_is_bool_bool {i : Bool} (q : Q (.bl true) H) : rIsi K [.bl i, .ty "bool"] H Q := r_isi ty_bl (by decide +kernel) q
theorem r_is_bool_str {i : Bool} (q : Q (.bl false) H) : rIsi K [.bl i, .ty "str"] H Q := r_isi ty_bl (by decide +kernel) q
theorem r_is_bool_list {i : Bool} (q : Q (.bl false) H) : rIsi K [.bl i, .ty "list"] H Q := r_isi ty_bl (by decide +kernel) q
theorem r_is_bool_tuple {i : Bool} (q : Q (.bl false) H) : rIsi K [.bl i, .ty "tuple"] H Q := r_isi ty_bl (by decide +kernel) q
theorem r_is_str_int {i : Str} (q : Q (.bl false) H) : rIsi K [.str i, .ty "int"] H Q := r_isi ty_str (by decide +kernel) q
theorem r_is_str_bool {i : Str} (q : Q (.bl false) H) : rIsi K [.str i, .ty "bool"] H Q := r_isi ty_str (by decide +kernel) q
theorem r_is_str_str {i : Str} (q : Q (.bl true) H) : rIsi K [.str i, .ty "str"] H Q := r_isi ty_str (by decide +kernel) q
theorem r_is_str_list {i : Str} (q : Q (.bl false) H) : rIsi K [.str i, .ty "list"] H Q := r_isi ty_str (by decide +kernel) q
theorem r_is_str_tuple {i : Str} (q : Q (.bl false) H) : rIsi K [.str i, .ty "tuple"] H Q := r_isi ty_str (by decide +kernel) q
theorem r_is_list_int {p : Addr} {xs : List V}  (h : H p = some (.lst xs)) (q : Q (.bl false) H) : rIsi K [.ref p, .ty "int"] H Q := r_isi (ty_lst h) (by decide +kernel) q
theorem r_is_list_bool {p : Addr} {xs : List V}  (h : H p = some (.lst xs)) (q : Q (.bl false) H) : rIsi K [.ref p, .ty "bool"] H Q := r_isi (ty_lst h) (by decide +kernel) q
theorem r_is_list_str {p : Addr} {xs : List V}  (h : H p = some (.lst xs)) (q : Q (.bl false) H) : rIsi K [.ref p, .ty "str"] H Q := r_isi (ty_lst h) (by decide +kernel) q
theorem r_is_list_list {p : Addr} {xs : List V}  (h : H p = some (.lst xs)) (q : Q (.bl true) H) : rIsi K [.ref p, .ty "list"] H Q := r_isi (ty_lst h) (by decide +kernel) q
theorem r_is_list_tuple {p : Addr} {xs : List V}  (h : H p = some (.lst xs)) (q : Q (.bl false) H) : rIsi K [.ref p, .ty "tuple"] H Q := r_isi (ty_lst h) (by decide +kernel) q
theorem r_is_tuple_int {p : Addr} {xs : List V}  (h : H p = some (.tup xs)) (q : Q (.bl false) H) : rIsi K [.ref p, .ty "int"] H Q := r_isi (ty_tup h) (by decide +kernel) q
theorem r_is_tuple_bool {p : Addr} {xs : List V}  (h : H p = some (.tup xs)) (q : Q (.bl false) H) : rIsi K [.ref p, .ty "bool"] H Q := r_isi (ty_tup h) (by decide +kernel) q
theorem r_is_tuple_str {p : Addr} {xs : List V}  (h : H p = some (.tup xs)) (q : Q (.bl false) H) : rIsi K [.ref p, .ty "str"] H Q := r_isi (ty_tup h) (by decide +kernel) q
theorem r_is_tuple_list {p : Addr} {xs : List V}  (h : H p = some (.tup xs)) (q : Q (.bl false) H) : rIsi K [.ref p, .ty "list"] H Q := r_isi (ty_tup h) (by decide +kernel) q
theorem r_is_tuple_tuple {p : Addr} {xs : List V}  (h : H p = some (.tup xs)) (q : Q (.bl true) H) : rIsi K [.ref p, .ty "tuple"] H Q := r_isi (ty_tup h) (by decide +kernel) q
theorem r_is_NoneType_int  (q : Q (.bl false) H) : rIsi K [.non, .ty "int"] H Q := r_isi (.base .non) (by decide +kernel) q
theorem r_is_NoneType_bool  (q : Q (.bl false) H) : rIsi K [.non, .ty "bool"] H Q := r_isi (.base .non) (by decide +kernel) q
theorem r_is_NoneType_str  (q : Q (.bl false) H) : rIsi K [.non, .ty "str"] H Q := r_isi (.base .non) (by decide +kernel) q
theorem r_is_NoneType_list  (q : Q (.bl false) H) : rIsi K [.non, .ty "list"] H Q := r_isi (.base .non) (by decide +kernel) q
theorem r_is_NoneType_tuple  (q : Q (.bl false) H) : rIsi K [.non, .ty "tuple"] H Q := r_isi (.base .non) (by decide +kernel) q
end
/-! ### slices, sums of lists, len -/
section
variable {σ : L2.St} {H : Hp} {Q : VK} {K : PySem.W.Frag} {te : TE} {p b : Addr} {xs zs : List V}
theorem r_sl {r : V → Option Int → Option Int → Hp → VK → Prop} {tl th : TO} (q : te σ H fun x H1 => tl σ H1 fun l H2 => th σ H2 fun u H3 => r x l u H3 Q) : tSl r te tl th σ H Q := q
theorem r_nopart {R : Option Int → Hp → Prop} (q : R none H) : tNoPart σ H R := q
theorem r_part {R : Option Int → Hp → Prop} (q : te σ H fun x H1 => ∃ i, x = .int i ∧ R (some i) H1) : tPart te σ H R := q
theorem r_exI {n : Int} {R : Int → Prop} (q : R n) : ∃ k, V.int n = V.int k ∧ R k := ⟨n, rfl, q⟩
theorem r_slL {lo hi : Option Int} (h : SqL K H p xs) (q : ∀ c, H c = none → Q (.ref c) (upd H c (.lst (cutV xs lo hi)))) : rSlL K (.ref p) lo hi H Q := ⟨p, xs, rfl, h, q⟩
theorem r_cat (h : H p = some (.lst xs)) (h' : H b = some (.lst zs)) (l : xs.length + zs.length ≤ 100000) (q : ∀ c, H c = none → Q (.ref c) (upd H c (.lst (xs ++ zs)))) : rCat (.ref p) (.ref b) H Q := ⟨p, b, xs, zs, rfl, rfl, h, h', small_of l, q⟩
theorem r_sum {ns : List Int} (h : SqL K H p (ns.map V.int)) (q : Q (.int ns.sum) H) : rSum K [.ref p] H Q := ⟨p, ns, rfl, h, q⟩
def rLen (K : PySem.W.Frag) (xs : List V) (H : Hp) (Q : VK) : Prop := ∃ p ys, xs = [.ref p] ∧ (SqL K H p ys ∨ SqT K H p ys) ∧ Q (.int ys.length) H
theorem call_lenQ {X : Cx} : CallR X (.builtin "len") (rLen X.K) := call_len_seq
theorem r_lenL (h : H p = some (.lst xs)) (q : Q (.int xs.length) H) : rLen K [.ref p] H Q := ⟨p, xs, rfl, .inl (.of h), q⟩
theorem r_lenT (h : H p = some (.tup xs)) (q : Q (.int xs.length) H) : rLen K [.ref p] H Q := ⟨p, xs, rfl, .inr (.of h), q⟩
theorem r_gTup {n : Nat} {t : TGs} {R : L2.St → Hp → Prop} (h : H p = some (.tup xs)) (l : xs.length = n) (q : t xs σ H R) : gTup K n t (.ref p) σ H R := ⟨p, xs, rfl, .of h, l, q⟩
theorem r_gCons {t : TG} {u : TGs} {v : V} {R : L2.St → Hp → Prop} (q : t v σ H fun σ' H' => u xs σ' H' R) : gCons t u (v :: xs) σ H R := ⟨v, xs, rfl, q⟩
theorem r_gNil {R : L2.St → Hp → Prop} (q : R σ H) : gNil [] σ H R := ⟨rfl, q⟩
theorem cut_len (lo hi : Option Int) : (cutV xs lo hi).length ≤ xs.length := by
  unfold cutV
  rw [List.length_take, List.length_drop]
  omega
theorem cut_mem {lo hi : Option Int} {x : V} (h : x ∈ cutV xs lo hi) : x ∈ xs := by
  unfold cutV at h
  exact List.mem_of_mem_drop (List.mem_of_mem_take h)
end
/-! ### loops -/
section
variable {σ : L2.St} {H : Hp} {Q : VK} {K : PySem.W.Frag} {D : Ends} {tb : TS} {g : TG} {c : TT} {p : Addr} {xs : List V}
theorem r_for {wi : TI} (q : wi σ H fun J H1 => ∃ W : Nat → Nat → L2.St → Hp → Prop, (∃ m, W 0 m σ H1) ∧ ∀ i m σ H, W i m σ H →
  (J.stop i H ∧ D.nx σ H) ∨ (J.go i H ∧ ∃ N : L2.St → Hp → Prop, (∀ σ' H', N σ' H' → ∃ m', m' < m ∧ W (i + 1) m' σ' H') ∧ ∀ x H', J.yld i H x H' → g x σ H' fun σ2 H2 => tb { D with nx := N, ct := N, bk := D.nx } σ2 H2)) : tFor wi g tb D σ H := q
theorem r_iList {tl : TE} {R : It → Hp → Prop} (q : tl σ H fun x H1 => ∃ a, x = .ref a ∧ (∃ xs, SqL K H1 a xs) ∧ R (Itl K a) H1) : iList K tl σ H R := q
theorem r_iTup {tl : TE} {R : It → Hp → Prop} (q : tl σ H fun x H1 => ∃ a, x = .ref a ∧ (∃ xs, SqT K H1 a xs) ∧ R (Itt K a) H1) : iTup K tl σ H R := q
theorem r_iR1 {ta : TA} {R : It → Hp → Prop} (q : ta σ H fun vs H1 => ∃ j : Int, vs = [.int j] ∧ -(2 ^ 62) ≤ j ∧ j < 2 ^ 62 ∧ R (Itr 0 j.toNat) H1) : iRng1 ta σ H R := q
theorem r_iR2 {ta : TA} {R : It → Hp → Prop} (q : ta σ H fun vs H1 => ∃ i j : Int, vs = [.int i, .int j] ∧ (-(2 ^ 62) ≤ i ∧ i < 2 ^ 62 ∧ -(2 ^ 62) ≤ j ∧ j < 2 ^ 62) ∧ R (Itr i (j - i).toNat) H1) : iRng2 ta σ H R := q
theorem u_forL (h : SqL K H p xs) (Pv : Nat → L2.St → Hp → Prop) (h0 : Pv 0 σ H) (hl : ∀ i σ H, i ≤ xs.length → Pv i σ H → SqL K H p xs)
    (hs : ∀ i x σ H, xs[i]? = some x → Pv i σ H → g x σ H fun σ2 H2 => tb { D with nx := Pv (i + 1), ct := Pv (i + 1), bk := D.nx } σ2 H2) (hd : ∀ σ H, Pv xs.length σ H → D.nx σ H) :
    ∃ a, V.ref p = .ref a ∧ (∃ xs, SqL K H a xs) ∧ ∃ W : Nat → Nat → L2.St → Hp → Prop, (∃ m, W 0 m σ H) ∧ ∀ i m σ H, W i m σ H →
      ((Itl K a).stop i H ∧ D.nx σ H) ∨ ((Itl K a).go i H ∧ ∃ N : L2.St → Hp → Prop, (∀ σ' H', N σ' H' → ∃ m', m' < m ∧ W (i + 1) m' σ' H') ∧ ∀ x H', (Itl K a).yld i H x H' → g x σ H' fun σ2 H2 => tb { D with nx := N, ct := N, bk := D.nx } σ2 H2) :=
  ⟨p, rfl, ⟨xs, h⟩, for_list Pv h0 hl hs hd⟩
theorem u_forT (h : SqT K H p xs) (Pv : Nat → L2.St → Hp → Prop) (h0 : Pv 0 σ H) (hl : ∀ i σ H, i ≤ xs.length → Pv i σ H → SqT K H p xs)
    (hs : ∀ i x σ H, xs[i]? = some x → Pv i σ H → g x σ H fun σ2 H2 => tb { D with nx := Pv (i + 1), ct := Pv (i + 1), bk := D.nx } σ2 H2) (hd : ∀ σ H, Pv xs.length σ H → D.nx σ H) :
    ∃ a, V.ref p = .ref a ∧ (∃ xs, SqT K H a xs) ∧ ∃ W : Nat → Nat → L2.St → Hp → Prop, (∃ m, W 0 m σ H) ∧ ∀ i m σ H, W i m σ H →
      ((Itt K a).stop i H ∧ D.nx σ H) ∨ ((Itt K a).go i H ∧ ∃ N : L2.St → Hp → Prop, (∀ σ' H', N σ' H' → ∃ m', m' < m ∧ W (i + 1) m' σ' H') ∧ ∀ x H', (Itt K a).yld i H x H' → g x σ H' fun σ2 H2 => tb { D with nx := N, ct := N, bk := D.nx } σ2 H2) :=
  ⟨p, rfl, ⟨xs, h⟩, for_tup Pv h0 hl hs hd⟩
theorem u_for1 {n : Int} (hb : -(2 ^ 62) ≤ n ∧ n < 2 ^ 62) (Pv : Nat → L2.St → Hp → Prop) (h0 : Pv 0 σ H)
    (hs : ∀ (i : Nat) σ H, (i : Int) < n → Pv i σ H → g (.int (i : Int)) σ H fun σ2 H2 => tb { D with nx := Pv (i + 1), ct := Pv (i + 1), bk := D.nx } σ2 H2) (hd : ∀ σ H, Pv n.toNat σ H → D.nx σ H) :
    -(2 ^ 62) ≤ n ∧ n < 2 ^ 62 ∧ ∃ W : Nat → Nat → L2.St → Hp → Prop, (∃ m, W 0 m σ H) ∧ ∀ i m σ H, W i m σ H →
      ((Itr 0 n.toNat).stop i H ∧ D.nx σ H) ∨ ((Itr 0 n.toNat).go i H ∧ ∃ N : L2.St → Hp → Prop, (∀ σ' H', N σ' H' → ∃ m', m' < m ∧ W (i + 1) m' σ' H') ∧ ∀ x H', (Itr 0 n.toNat).yld i H x H' → g x σ H' fun σ2 H2 => tb { D with nx := N, ct := N, bk := D.nx } σ2 H2) :=
  ⟨hb.1, hb.2, for_range Pv h0 (fun i σ H hi p => by rw [Int.zero_add]; exact hs i σ H (by omega) p) hd⟩
/-- [elt for x in ..]: the word speaks of the list so far and of the heap -/
theorem r_lc {wi : TI} {tt : TT} {te : TE} {vs : List Nat} (q : wi σ H fun J H1 => ∀ D, H1 D = none → ∃ W : Nat → Nat → Hp → Prop, (∃ m, W 0 m (upd H1 D (.lst []))) ∧ ∀ i m H, W i m H →
  (J.stop i H ∧ Q (.ref D) H) ∨ (J.go i H ∧ ∃ Nx : Hp → Prop, (∀ H', Nx H' → ∃ m', m' < m ∧ W (i + 1) m' H') ∧ ∀ x H', J.yld i H x H' → g x (wipe σ vs) H' fun σ2 H2 => wipe σ2 vs = wipe σ vs ∧ tt σ2 H2 fun b H3 =>
    if b = true then te σ2 H3 fun y H4 => ∃ acc, H4 D = some (.lst acc) ∧ acc.length < sizeLine ∧ Nx (upd H4 D (.lst (acc ++ [y]))) else Nx H3)) : tLc wi g tt te vs σ H Q := q
theorem r_yes {R : Bool → Hp → Prop} (q : R true H) : tYes σ H R := q
def LcPush (D : Addr) (I : Addr → Nat → List V → Hp → Prop) (i : Nat) (H : Hp) (y : V) : Prop := ∃ acc, H D = some (.lst acc) ∧ acc.length < sizeLine ∧ ∃ acc', (upd H D (.lst (acc ++ [y]))) D = some (.lst acc') ∧ I D (i + 1) acc' (upd H D (.lst (acc ++ [y])))
def LcSkip (D : Addr) (I : Addr → Nat → List V → Hp → Prop) (i : Nat) (H : Hp) : Prop := ∃ acc, H D = some (.lst acc) ∧ I D (i + 1) acc H
theorem u_push {D : Addr} {I : Addr → Nat → List V → Hp → Prop} {i : Nat} {y : V} {acc : List V} (h : H D = some (.lst acc)) (l : acc.length < 100000) (q : I D (i + 1) (acc ++ [y]) (upd H D (.lst (acc ++ [y])))) : LcPush D I i H y :=
  ⟨acc, h, Nat.lt_of_lt_of_le l (by decide), acc ++ [y], upd_same, q⟩
theorem u_skip {D : Addr} {I : Addr → Nat → List V → Hp → Prop} {i : Nat} {acc : List V} (h : H D = some (.lst acc)) (q : I D (i + 1) acc H) : LcSkip D I i H := ⟨acc, h, q⟩
theorem u_lcL {tt : TT} {te : TE} {vs : List Nat} {Qd : Addr → Hp → Prop} (h : SqL K H p xs) (I : Addr → Nat → List V → Hp → Prop) (h0 : ∀ D, H D = none → I D 0 [] (upd H D (.lst [])))
    (hl : ∀ D i acc H', H D = none → H' D = some (.lst acc) → I D i acc H' → SqL K H' p xs)
    (hs : ∀ D i x acc H', H D = none → xs[i]? = some x → H' D = some (.lst acc) → I D i acc H' → g x (wipe σ vs) H' fun σ2 H2 => wipe σ2 vs = wipe σ vs ∧ tt σ2 H2 fun b H3 => if b = true then te σ2 H3 fun y H4 => LcPush D I i H4 y else LcSkip D I i H3)
    (hd : ∀ D acc H', H D = none → H' D = some (.lst acc) → I D xs.length acc H' → Qd D H') :
    ∃ a, V.ref p = .ref a ∧ (∃ xs, SqL K H a xs) ∧ ∀ D, H D = none → ∃ W : Nat → Nat → Hp → Prop, (∃ m, W 0 m (upd H D (.lst []))) ∧ ∀ i m H, W i m H →
      ((Itl K a).stop i H ∧ Qd D H) ∨ ((Itl K a).go i H ∧ ∃ Nx : Hp → Prop, (∀ H', Nx H' → ∃ m', m' < m ∧ W (i + 1) m' H') ∧ ∀ x H', (Itl K a).yld i H x H' → g x (wipe σ vs) H' fun σ2 H2 => wipe σ2 vs = wipe σ vs ∧ tt σ2 H2 fun b H3 =>
        if b = true then te σ2 H3 fun y H4 => ∃ acc, H4 D = some (.lst acc) ∧ acc.length < sizeLine ∧ Nx (upd H4 D (.lst (acc ++ [y]))) else Nx H3) :=
  ⟨p, rfl, ⟨xs, h⟩, fun D hD => lc_list (xs := xs) (fun i H' => ∃ acc, H' D = some (.lst acc) ∧ I D i acc H') ⟨[], upd_same, h0 D hD⟩ (fun i H' _ ⟨acc, e, q⟩ => hl D i acc H' hD e q)
    (fun i x H' hi ⟨acc, e, q⟩ => hs D i x acc H' hD hi e q) fun H' ⟨acc, e, q⟩ => hd D acc H' hD e q⟩
theorem u_lcT {tt : TT} {te : TE} {vs : List Nat} {Qd : Addr → Hp → Prop} (h : SqT K H p xs) (I : Addr → Nat → List V → Hp → Prop) (h0 : ∀ D, H D = none → I D 0 [] (upd H D (.lst [])))
    (hl : ∀ D i acc H', H D = none → H' D = some (.lst acc) → I D i acc H' → SqT K H' p xs)
    (hs : ∀ D i x acc H', H D = none → xs[i]? = some x → H' D = some (.lst acc) → I D i acc H' → g x (wipe σ vs) H' fun σ2 H2 => wipe σ2 vs = wipe σ vs ∧ tt σ2 H2 fun b H3 => if b = true then te σ2 H3 fun y H4 => LcPush D I i H4 y else LcSkip D I i H3)
    (hd : ∀ D acc H', H D = none → H' D = some (.lst acc) → I D xs.length acc H' → Qd D H') :
    ∃ a, V.ref p = .ref a ∧ (∃ xs, SqT K H a xs) ∧ ∀ D, H D = none → ∃ W : Nat → Nat → Hp → Prop, (∃ m, W 0 m (upd H D (.lst []))) ∧ ∀ i m H, W i m H →
      ((Itt K a).stop i H ∧ Qd D H) ∨ ((Itt K a).go i H ∧ ∃ Nx : Hp → Prop, (∀ H', Nx H' → ∃ m', m' < m ∧ W (i + 1) m' H') ∧ ∀ x H', (Itt K a).yld i H x H' → g x (wipe σ vs) H' fun σ2 H2 => wipe σ2 vs = wipe σ vs ∧ tt σ2 H2 fun b H3 =>
        if b = true then te σ2 H3 fun y H4 => ∃ acc, H4 D = some (.lst acc) ∧ acc.length < sizeLine ∧ Nx (upd H4 D (.lst (acc ++ [y]))) else Nx H3) :=
  ⟨p, rfl, ⟨xs, h⟩, fun D hD => lc_tup (xs := xs) (fun i H' => ∃ acc, H' D = some (.lst acc) ∧ I D i acc H') ⟨[], upd_same, h0 D hD⟩ (fun i H' _ ⟨acc, e, q⟩ => hl D i acc H' hD e q)
    (fun i x H' hi ⟨acc, e, q⟩ => hs D i x acc H' hD hi e q) fun H' ⟨acc, e, q⟩ => hd D acc H' hD e q⟩
theorem u_lc1 {tt : TT} {te : TE} {vs : List Nat} {Qd : Addr → Hp → Prop} {n : Int} (hb : -(2 ^ 62) ≤ n ∧ n < 2 ^ 62) (I : Addr → Nat → List V → Hp → Prop) (h0 : ∀ D, H D = none → I D 0 [] (upd H D (.lst [])))
    (hs : ∀ D (i : Nat) acc H', H D = none → (i : Int) < n → H' D = some (.lst acc) → I D i acc H' → g (.int (i : Int)) (wipe σ vs) H' fun σ2 H2 => wipe σ2 vs = wipe σ vs ∧ tt σ2 H2 fun b H3 => if b = true then te σ2 H3 fun y H4 => LcPush D I i H4 y else LcSkip D I i H3)
    (hd : ∀ D acc H', H D = none → H' D = some (.lst acc) → I D n.toNat acc H' → Qd D H') :
    -(2 ^ 62) ≤ n ∧ n < 2 ^ 62 ∧ ∀ D, H D = none → ∃ W : Nat → Nat → Hp → Prop, (∃ m, W 0 m (upd H D (.lst []))) ∧ ∀ i m H, W i m H →
      ((Itr 0 n.toNat).stop i H ∧ Qd D H) ∨ ((Itr 0 n.toNat).go i H ∧ ∃ Nx : Hp → Prop, (∀ H', Nx H' → ∃ m', m' < m ∧ W (i + 1) m' H') ∧ ∀ x H', (Itr 0 n.toNat).yld i H x H' → g x (wipe σ vs) H' fun σ2 H2 => wipe σ2 vs = wipe σ vs ∧ tt σ2 H2 fun b H3 =>
        if b = true then te σ2 H3 fun y H4 => ∃ acc, H4 D = some (.lst acc) ∧ acc.length < sizeLine ∧ Nx (upd H4 D (.lst (acc ++ [y]))) else Nx H3) :=
  ⟨hb.1, hb.2, fun D hD => lc_range (fun i H' => ∃ acc, H' D = some (.lst acc) ∧ I D i acc H') ⟨[], upd_same, h0 D hD⟩
    (fun i H' hi ⟨acc, e, q⟩ => by rw [Int.zero_add]; exact hs D i acc H' hD (by omega) e q) fun H' ⟨acc, e, q⟩ => hd D acc H' hD e q⟩
end
/-! ### heaps -/
/-- the heap at a, in words: looked up through stores -/
theorem h_keep {H : Hp} {a p : Addr} {o u : HO} (h : H a = some u) (n : H p = none) : upd H p o a = some u := (upd_ne (ne_of_none h n)).trans h
/-- all that was tracked but what stands at a -/
def But (a : Addr) (H H' : Hp) : Prop := ∀ b o, b ≠ a → H b = some o → H' b = some o
theorem But.refl (a : Addr) (H : Hp) : But a H H := fun _ _ _ h => h
theorem But.trans {a : Addr} {H H1 H2 : Hp} (h : But a H H1) (k : But a H1 H2) : But a H H2 := fun b o n e => k b o n (h b o n e)
theorem But.new {a p : Addr} {H H' : Hp} {o : HO} (h : But a H H') (n : H' p = none) : But a H (upd H' p o) := fun b u nb e => h_keep (h b u nb e) n
theorem But.self {a : Addr} {H H' : Hp} {o : HO} (h : But a H H') : But a H (upd H' a o) := fun b u nb e => (upd_ne nb).trans (h b u nb e)
theorem But.put {a p : Addr} {H H' : Hp} {o : HO} (h : But a H H') (n : H p = none) : But a H (upd H' p o) := fun b u nb e => (upd_ne (ne_of_none e n)).trans (h b u nb e)
theorem Same.at {H H' : Hp} {a : Addr} {o : HO} (s : Same H H') (h : H a = some o) : H' a = some o := s a o h
theorem But.at {H H' : Hp} {a b : Addr} {o : HO} (s : But b H H') (n : a ≠ b) (h : H a = some o) : H' a = some o := s a o n h
theorem log_small {n : Int} (h : n.natAbs < 2 ^ 8000) : n.natAbs.log2 < 9000 := by
  by_cases h0 : n.natAbs = 0
  · rw [h0]; decide
  · exact Nat.lt_of_lt_of_le ((Nat.log2_lt h0).mpr h) (by decide)
theorem Same.new0 {p : Addr} {H : Hp} {o : HO} (n : H p = none) : Same H (upd H p o) := fun b u e => h_keep e n
theorem Same.new {p : Addr} {H H' : Hp} {o : HO} (h : Same H H') (n : H' p = none) : Same H (upd H' p o) := fun b u e => h_keep (h b u e) n
theorem Same.put {p : Addr} {H H' : Hp} {o : HO} (h : Same H H') (n : H p = none) : Same H (upd H' p o) := fun b u e => (upd_ne (ne_of_none e n)).trans (h b u e)
theorem Same.but {H H' : Hp} (h : Same H H') (a : Addr) : But a H H' := fun b u _ e => h b u e
theorem But.free {a p : Addr} {H H' : Hp} (h : But a H H') (n : p ≠ a) (e : H' p = none) : H p = none := by
  cases q : H p with
  | none => rfl
  | some o => rw [h p o n q] at e; cases e
/-- what is new may change -/
theorem Same.but2 {a : Addr} {H H1 H2 : Hp} (s : Same H H1) (n : H a = none) (b : But a H1 H2) : Same H H2 := fun c o e => b c o (ne_of_none e n) (s c o e)
/-- the law's bag: three ints, the second one small -/
def Bag (H : Hp) (a : Addr) : Prop := ∃ x y z : Int, H a = some (.lst [.int x, .int y, .int z]) ∧ 0 ≤ y ∧ y ≤ 2147483647 ∧ 0 ≤ z
theorem Bag.keep {H : Hp} {a p : Addr} {o : HO} (h : Bag H a) (n : H p = none) : Bag (upd H p o) a := by
  obtain ⟨x, y, z, e, r⟩ := h
  exact ⟨x, y, z, h_keep e n, r⟩
theorem Bag.ne {H : Hp} {a p : Addr} (h : Bag H a) (n : H p = none) : p ≠ a := by
  obtain ⟨x, y, z, e, r⟩ := h
  exact (ne_of_none e n).symm
theorem Bag.same {H H' : Hp} {a : Addr} (h : Bag H a) (s : Same H H') : Bag H' a := by
  obtain ⟨x, y, z, e, r⟩ := h
  exact ⟨x, y, z, s _ _ e, r⟩
def spBagOf : Sp := fun vs H Q _ => ∃ c : Int, vs = [.int c] ∧ ∀ p H', H p = none → Same H H' → Bag H' p → Q (.ref p) H'
def spPick : Sp := fun vs H Q _ => ∃ (a : Addr) (n : Int), vs = [.ref a, .int n] ∧ Bag H a ∧ 0 < n ∧ n ≤ 1000000 ∧ ∀ (r : Int) H', 0 ≤ r → r < n → But a H H' → Bag H' a → Q (.int r) H'
theorem u_pick {H : Hp} {Q : VK} {E : XK} {a : Addr} {n : Int} (h : Bag H a) (n0 : 0 < n) (n1 : n ≤ 1000000) (q : ∀ (r : Int) H', 0 ≤ r → r < n → But a H H' → Bag H' a → Q (.int r) H') : spPick [.ref a, .int n] H Q E := ⟨a, n, rfl, h, n0, n1, q⟩
/-- the law's promise: a list of at most 63 ints goes in, True comes out -/
def spLaw (K : PySem.W.Frag) : Sp := fun vs H Q _ => ∃ (a : Addr) (ns : List Int), vs = [.ref a] ∧ SqL K H a (ns.map V.int) ∧ ns.length ≤ 63 ∧ ∀ H', Q (.bl true) H'
/-- the cells of a law's outer loop are ints -/
theorem cells_int {g : Int} {ns : List Int} {lo hi : Option Int} {i : Nat} {x : V} (h : ([V.int g] ++ cutV (ns.map V.int) lo hi)[i]? = some x) : ∃ c, x = .int c := by
  rcases List.mem_append.mp (List.mem_of_getElem? h) with h | h
  · exact ⟨g, List.mem_singleton.mp h⟩
  · obtain ⟨c, _, e⟩ := List.mem_map.mp (cut_mem h)
    exact ⟨c, e.symm⟩
/-! ### the rules that name the written part, with its name given (a comprehension's block has another context) -/
section
variable {X : Cx} {K : PySem.W.Frag}
theorem ix_listK (h : X.K = K := by rfl) : IxR X (rIxL K) := by subst h; exact ix_list
theorem ix_tupK (h : X.K = K := by rfl) : IxR X (rIxT K) := by subst h; exact ix_tup
theorem call_lenK (h : X.K = K := by rfl) : CallR X (.builtin "len") (rLen K) := by subst h; exact call_lenQ
theorem call_isiKK (h : X.K = K := by rfl) : CallR X (.builtin "isinstance") (rIsi K) := by subst h; exact call_isi
theorem call_sumK (hc : X.calm = true := by rfl) (h : X.K = K := by rfl) : CallR X (.builtin "sum") (rSum K) := by subst h; exact cr_sum hc
theorem call_allK (hc : X.calm = true := by rfl) (h : X.K = K := by rfl) : CallR X (.builtin "all") (rAll K) := by subst h; exact cr_all hc
end
end My

set_option Elab.async false
set_option linter.all false
set_option maxRecDepth 100000
set_option maxHeartbeats 2000000
namespace My
open PySem PySem.Spec PyProof.Rows L2
/-! ### what the head's run looks at: error classes with an own __init__, the keys of a table of words -/
/-- the class at C is an error class with an own __init__, over ValueError (looked at by the head's run) -/
def oexIn (K : PySem.W.Frag) (C : Addr) : Bool := match List.lookup C K with
  | some o => (o.cls == Value.type "type") && (match o.data with
    | .cls cd => (match cd.mro with | .ref C' :: bm => (C' == C) && HandSPX.refsVE bm | _ => false) && cd.hasDict && !cd.hasDel
    | _ => false) && (match o.slots.toList with | [_, _, _, _, v, _] => v == some (.builtin "ValueError.__new__") | _ => false)
  | none => false
theorem oexIn_ok {K : PySem.W.Frag} {C : Addr} (h : oexIn K C = true) : ∃ nm q N bs bm sn sub ab col dd k0 k1 k2 k3 k5, List.lookup C K = some (excClassObj nm q C N bs bm true sn sub ab col dd k0 k1 k2 k3 k5 "ValueError.__new__") ∧ HandSPX.refsVE bm = true := by
  unfold oexIn at h
  cases e : List.lookup C K with
  | none => rw [e] at h; cases h
  | some o =>
    rw [e] at h
    obtain ⟨cls, dd, data, slots⟩ := o
    simp only [Bool.and_eq_true] at h
    obtain ⟨⟨h1, h2⟩, h3⟩ := h
    have h1 : cls = Value.type "type" := eq_of_beq h1
    subst h1
    cases data with
    | cls cd =>
      obtain ⟨nm, bs, mro, N, q, hd, sn, sub, ab, col, del⟩ := cd
      simp only [Bool.and_eq_true] at h2
      obtain ⟨⟨h4, h5⟩, h6⟩ := h2
      subst h5
      have h6 : del = false := by cases del <;> simp_all
      subst h6
      cases mro with
      | nil => cases h4
      | cons v bm =>
        cases v with
        | ref C' =>
          simp only [Bool.and_eq_true] at h4
          obtain rfl : C' = C := eq_of_beq h4.1
          obtain ⟨sl⟩ := slots
          match sl, h3 with
          | [k0, k1, k2, k3, v, k5], h3 =>
            have h3 : v = some (.builtin "ValueError.__new__") := eq_of_beq h3
            subst h3
            exact ⟨nm, q, N, bs, bm, sn, sub, ab, col, dd, k0, k1, k2, k3, k5, rfl, h4.2⟩
        | _ => cases h4
    | _ => cases h2
/-- the table of steps at d has these four words for keys alone -/
def wordsOnly (K : PySem.W.Frag) (d : Addr) : Bool := match List.lookup d K with
  | some ⟨_, _, .dict es _, _⟩ => es.toList.all fun e => ([("go" : Str), "back", "hop", "slip"]).any fun x => e.key.isStr x
  | _ => false
theorem isStr_other {v : Value} {x z : Str} (h : v.isStr x = true) (n : x ≠ z) : v.isStr z = false ∧ ∀ a, v ≠ .ref a := by
  cases v with
  | str s t =>
    refine ⟨?_, fun a e => by cases e⟩
    have h : (s == x) = true := h
    have e : s = x := eq_of_beq h
    show (s == z) = false
    rw [e]
    exact beq_eq_false_iff_ne.mpr n
  | _ => cases h
theorem wordsOnly_out {K : PySem.W.Frag} {d : Addr} (h : wordsOnly K d = true) {z : Str} (n1 : z ≠ "go") (n2 : z ≠ "back") (n3 : z ≠ "hop") (n4 : z ≠ "slip") : PySem.W.nsIn K d z = some none := by
  unfold wordsOnly at h
  unfold PySem.W.nsIn
  cases e : List.lookup d K with
  | none => rw [e] at h; cases h
  | some o =>
    rw [e] at h
    obtain ⟨cls, dd, data, slots⟩ := o
    cases data with
    | dict es ep =>
      simp only at h ⊢
      rw [List.all_eq_true] at h
      have key : ∀ en ∈ es.toList, en.key.isStr z = false ∧ ∀ a, en.key ≠ .ref a := fun en hen => by
        have := h en hen
        simp only [List.any_cons, List.any_nil, Bool.or_false, Bool.or_eq_true] at this
        rcases this with q | q | q | q
        · exact isStr_other q (Ne.symm n1)
        · exact isStr_other q (Ne.symm n2)
        · exact isStr_other q (Ne.symm n3)
        · exact isStr_other q (Ne.symm n4)
      have f : es.toList.find? (fun x => x.key.isStr z) = none := List.find?_eq_none.mpr fun en hen => by rw [(key en hen).1]; decide
      rw [f]
      have g : (es.toList.any fun x => x.refKey) = false := by
        rw [List.any_eq_false]
        intro en hen
        have k2 := (key en hen).2
        show ¬ (match en.key with | .ref a => true | _ => false) = true
        cases hk : en.key with
        | ref a => exact absurd hk (k2 a)
        | _ => simp
      rw [g]
      rfl
    | _ => cases h
theorem isFn_type {K : PySem.W.Frag} {f : Addr} (h : PySem.W.isFn K (.ref f) = true) : PySem.W.typeIn K (.ref f) = some (.type "function") := by
  unfold PySem.W.isFn at h
  simpa using h
end My

set_option Elab.async false
set_option linter.all false
set_option maxRecDepth 400000
namespace My
open PySem PySem.Spec PyProof.Rows L2
/-! ### programs as data -/
inductive Prog where
  | nil
  | step (w n : Str) (r : Prog)
  | turn (k : Int) (r : Prog)
  | rep (k : Int) (b r : Prog)
  | mir (b r : Prog)
namespace Prog
def app : Prog → Prog → Prog
  | .nil, q => q
  | .step w n r, q => .step w n (r.app q)
  | .turn k r, q => .turn k (r.app q)
  | .rep k b r, q => .rep k b (r.app q)
  | .mir b r, q => .mir b (r.app q)
def len : Prog → Nat
  | .nil => 0
  | .step _ _ r => r.len + 1
  | .turn _ r => r.len + 1
  | .rep _ _ r => r.len + 1
  | .mir _ r => r.len + 1
def size : Prog → Int
  | .nil => 0
  | .step _ _ r => 1 + r.size
  | .turn _ r => 1 + r.size
  | .rep k b r => k * b.size + r.size
  | .mir b r => b.size + r.size
def head : Prog → Int
  | .nil => 0
  | .step _ _ r => r.head
  | .turn k r => k + r.head
  | .rep k b r => k * b.head + r.head
  | .mir b r => -b.head + r.head
def times : Nat → Prog → Prog
  | 0, _ => .nil
  | n + 1, p => p.app (times n p)
def unroll : Int → Prog → Prog
  | _, .nil => .nil
  | s, .step w n r => .step w n (unroll s r)
  | s, .turn k r => .turn (s * k) (unroll s r)
  | s, .rep k b r => (times k.toNat (unroll s b)).app (unroll s r)
  | s, .mir b r => (unroll (-s) b).app (unroll s r)
/-- the turns' numbers of a flat program -/
def turns : Prog → List Int
  | .nil => []
  | .step _ _ r => r.turns
  | .turn k r => k :: r.turns
  | .rep _ _ r => r.turns
  | .mir _ r => r.turns
def take : Nat → Prog → Prog
  | 0, _ => .nil
  | _ + 1, .nil => .nil
  | n + 1, .step w m r => .step w m (r.take n)
  | n + 1, .turn k r => .turn k (r.take n)
  | n + 1, .rep k b r => .rep k b (r.take n)
  | n + 1, .mir b r => .mir b (r.take n)
end Prog
def IsWord (w : Str) : Prop := w = "go" ∨ w = "back" ∨ w = "hop" ∨ w = "slip"
/-- one letter from a to z -/
def IsName (n : Str) : Prop := ∃ c : Nat, n = ⟨#[c]⟩ ∧ 97 ≤ c ∧ c ≤ 122
/-- a program nested at most d deep; counts from 1 to C, turns to T of either sign, at most 4000 commands in each repeat or mirror -/
def WfL (L : Nat) (C T : Int) : Nat → Prog → Prop
  | _, .nil => True
  | d, .step w n r => IsWord w ∧ IsName n ∧ WfL L C T d r
  | d, .turn k r => (-T ≤ k ∧ k ≤ T) ∧ WfL L C T d r
  | 0, .rep _ _ _ => False
  | d + 1, .rep k b r => (1 ≤ k ∧ k ≤ C) ∧ (1 ≤ b.len ∧ b.len ≤ L) ∧ WfL L C T d b ∧ WfL L C T (d + 1) r
  | 0, .mir _ _ => False
  | d + 1, .mir b r => (1 ≤ b.len ∧ b.len ≤ L) ∧ WfL L C T d b ∧ WfL L C T (d + 1) r
theorem WfL.app {L : Nat} {C T : Int} : ∀ {d : Nat} {p q : Prog}, WfL L C T d p → WfL L C T d q → WfL L C T d (p.app q)
  | _, .nil, _, _, h => h
  | d, .step w n r, q, h, h' => by
    cases d <;> exact ⟨h.1, h.2.1, WfL.app h.2.2 h'⟩
  | d, .turn k r, q, h, h' => by
    cases d <;> exact ⟨h.1, WfL.app h.2 h'⟩
  | 0, .rep _ _ _, _, h, _ => h.elim
  | d + 1, .rep k b r, q, h, h' => ⟨h.1, h.2.1, h.2.2.1, WfL.app h.2.2.2 h'⟩
  | 0, .mir _ _, _, h, _ => h.elim
  | d + 1, .mir b r, q, h, h' => ⟨h.1, h.2.1, WfL.app h.2.2 h'⟩
theorem WfL.step_iff {L : Nat} {C T : Int} {d : Nat} {w n : Str} {r : Prog} : WfL L C T d (.step w n r) ↔ IsWord w ∧ IsName n ∧ WfL L C T d r := by cases d <;> exact Iff.rfl
theorem WfL.turn_iff {L : Nat} {C T : Int} {d : Nat} {k : Int} {r : Prog} : WfL L C T d (.turn k r) ↔ (-T ≤ k ∧ k ≤ T) ∧ WfL L C T d r := by cases d <;> exact Iff.rfl
theorem WfL.nil {L : Nat} {C T : Int} {d : Nat} : WfL L C T d .nil := by cases d <;> trivial
theorem WfL.mono {L : Nat} {C T C' T' : Int} (hC : C ≤ C') (hT : T ≤ T') : ∀ {d d' : Nat} {p : Prog}, d ≤ d' → WfL L C T d p → WfL L C' T' d' p
  | d, d', .nil, _, _ => WfL.nil
  | d, d', .step w n r, hd, h => WfL.step_iff.mpr ⟨(WfL.step_iff.mp h).1, (WfL.step_iff.mp h).2.1, WfL.mono hC hT hd (WfL.step_iff.mp h).2.2⟩
  | d, d', .turn k r, hd, h => by
    have h := WfL.turn_iff.mp h
    exact WfL.turn_iff.mpr ⟨⟨by omega, by omega⟩, WfL.mono hC hT hd h.2⟩
  | 0, _, .rep _ _ _, _, h => h.elim
  | d + 1, 0, .rep _ _ _, hd, _ => absurd hd (by omega)
  | d + 1, d' + 1, .rep k b r, hd, h => ⟨⟨h.1.1, by have := h.1.2; omega⟩, h.2.1, WfL.mono hC hT (by omega) h.2.2.1, WfL.mono hC hT hd h.2.2.2⟩
  | 0, _, .mir _ _, _, h => h.elim
  | d + 1, 0, .mir _ _, hd, _ => absurd hd (by omega)
  | d + 1, d' + 1, .mir b r, hd, h => ⟨h.1, WfL.mono hC hT (by omega) h.2.1, WfL.mono hC hT hd h.2.2⟩
abbrev Wf := WfL 4000
namespace Prog
theorem app_nil : ∀ p : Prog, p.app .nil = p
  | .nil => rfl
  | .step w n r => by rw [app, app_nil r]
  | .turn k r => by rw [app, app_nil r]
  | .rep k b r => by rw [app, app_nil r]
  | .mir b r => by rw [app, app_nil r]
theorem app_assoc : ∀ p q r : Prog, (p.app q).app r = p.app (q.app r)
  | .nil, _, _ => rfl
  | .step w n p, q, r => by rw [app, app, app, app_assoc p q r]
  | .turn k p, q, r => by rw [app, app, app, app_assoc p q r]
  | .rep k b p, q, r => by rw [app, app, app, app_assoc p q r]
  | .mir b p, q, r => by rw [app, app, app, app_assoc p q r]
theorem len_app : ∀ p q : Prog, (p.app q).len = p.len + q.len
  | .nil, q => by rw [app, len, Nat.zero_add]
  | .step w n p, q => by rw [app, len, len, len_app p q]; omega
  | .turn k p, q => by rw [app, len, len, len_app p q]; omega
  | .rep k b p, q => by rw [app, len, len, len_app p q]; omega
  | .mir b p, q => by rw [app, len, len, len_app p q]; omega
theorem size_app : ∀ p q : Prog, (p.app q).size = p.size + q.size
  | .nil, q => by rw [app, size]; omega
  | .step w n p, q => by rw [app, size, size, size_app p q]; omega
  | .turn k p, q => by rw [app, size, size, size_app p q]; omega
  | .rep k b p, q => by rw [app, size, size, size_app p q]; omega
  | .mir b p, q => by rw [app, size, size, size_app p q]; omega
theorem head_app : ∀ p q : Prog, (p.app q).head = p.head + q.head
  | .nil, q => by rw [app, head]; omega
  | .step w n p, q => by rw [app, head, head, head_app p q]
  | .turn k p, q => by rw [app, head, head, head_app p q]; omega
  | .rep k b p, q => by rw [app, head, head, head_app p q]; omega
  | .mir b p, q => by rw [app, head, head, head_app p q]; omega
theorem turns_app : ∀ p q : Prog, (p.app q).turns = p.turns ++ q.turns
  | .nil, q => by rw [app, turns, List.nil_append]
  | .step w n p, q => by rw [app, turns, turns, turns_app p q]
  | .turn k p, q => by rw [app, turns, turns, turns_app p q, List.cons_append]
  | .rep k b p, q => by rw [app, turns, turns, turns_app p q]
  | .mir b p, q => by rw [app, turns, turns, turns_app p q]
theorem size_nonneg {L : Nat} {C T : Int} : ∀ {d : Nat} {p : Prog}, WfL L C T d p → 0 ≤ p.size
  | _, .nil, _ => by rw [size]; omega
  | d, .step w n r, h => by have := size_nonneg (WfL.step_iff.mp h).2.2; rw [size]; omega
  | d, .turn k r, h => by have := size_nonneg (WfL.turn_iff.mp h).2; rw [size]; omega
  | 0, .rep _ _ _, h => h.elim
  | d + 1, .rep k b r, h => by
    have h1 := size_nonneg h.2.2.1
    have h2 := size_nonneg h.2.2.2
    have h3 : 0 ≤ k * b.size := Int.mul_nonneg (by have := h.1.1; omega) h1
    rw [size]; omega
  | 0, .mir _ _, h => h.elim
  | d + 1, .mir b r, h => by
    have h1 := size_nonneg h.2.1
    have h2 := size_nonneg h.2.2
    rw [size]; omega
theorem len_times (n : Nat) (p : Prog) : (times n p).len = n * p.len := by
  induction n with
  | zero => rw [times, len, Nat.zero_mul]
  | succ n ih => rw [times, len_app, ih, Nat.succ_mul]; omega
theorem times_succ : ∀ (n : Nat) (p : Prog), times (n + 1) p = (times n p).app p
  | 0, p => by show p.app .nil = _; rw [app_nil]; rfl
  | n + 1, p => by
    have ih := times_succ n p
    show p.app (times (n + 1) p) = (p.app (times n p)).app p
    rw [ih, app_assoc]
theorem turns_times (n : Nat) (p : Prog) : (times n p).turns.sum = n * p.turns.sum := by
  induction n with
  | zero => rw [times, turns]; simp
  | succ n ih => rw [times, turns_app, List.sum_append, ih, Int.natCast_succ, Int.add_mul]; omega
/-- unrolled it has as many commands as its size -/
theorem len_unroll {L : Nat} {C T : Int} : ∀ {d : Nat} {p : Prog} (s : Int), WfL L C T d p → ((unroll s p).len : Int) = p.size
  | _, .nil, s, _ => by rw [unroll, len, size]; rfl
  | d, .step w n r, s, h => by have := len_unroll s (WfL.step_iff.mp h).2.2; rw [unroll, len, size]; omega
  | d, .turn k r, s, h => by have := len_unroll s (WfL.turn_iff.mp h).2; rw [unroll, len, size]; omega
  | 0, .rep _ _ _, s, h => h.elim
  | d + 1, .rep k b r, s, h => by
    have h1 := len_unroll s h.2.2.1
    have h2 := len_unroll s h.2.2.2
    have hk := h.1.1
    rw [unroll, len_app, len_times, size, ← h1, ← h2, Int.natCast_add, Int.natCast_mul, Int.toNat_of_nonneg (by omega)]
  | 0, .mir _ _, s, h => h.elim
  | d + 1, .mir b r, s, h => by
    have h1 := len_unroll (-s) h.2.1
    have h2 := len_unroll s h.2.2
    rw [unroll, len_app, size]; omega
/-- the sum of its turns -/
theorem turns_unroll {L : Nat} {C T : Int} : ∀ {d : Nat} {p : Prog} (s : Int), WfL L C T d p → (unroll s p).turns.sum = s * p.head
  | _, .nil, s, _ => by rw [unroll, turns, head]; simp
  | d, .step w n r, s, h => by have := turns_unroll s (WfL.step_iff.mp h).2.2; rw [unroll, turns, head]; omega
  | d, .turn k r, s, h => by have := turns_unroll s (WfL.turn_iff.mp h).2; rw [unroll, turns, head, List.sum_cons, this, Int.mul_add]
  | 0, .rep _ _ _, s, h => h.elim
  | d + 1, .rep k b r, s, h => by
    have h1 := turns_unroll s h.2.2.1
    have h2 := turns_unroll s h.2.2.2
    have hk := h.1.1
    rw [unroll, turns_app, List.sum_append, turns_times, h1, h2, head, Int.toNat_of_nonneg (by omega), Int.mul_add, Int.mul_left_comm]
  | 0, .mir _ _, s, h => h.elim
  | d + 1, .mir b r, s, h => by
    have h1 := turns_unroll (-s) h.2.1
    have h2 := turns_unroll s h.2.2
    rw [unroll, turns_app, List.sum_append, h1, h2, head, Int.mul_add, Int.neg_mul, Int.mul_neg]
/-- a flat program: steps and turns alone -/
theorem wf_times {L : Nat} {C T : Int} {d : Nat} {p : Prog} (h : WfL L C T d p) : ∀ n, WfL L C T d (times n p)
  | 0 => WfL.nil
  | n + 1 => WfL.app h (wf_times h n)
theorem wf_unroll {L : Nat} {C T : Int} : ∀ {d : Nat} {p : Prog} {s : Int}, (s = 1 ∨ s = -1) → WfL L C T d p → WfL L C T 0 (unroll s p)
  | _, .nil, s, _, _ => WfL.nil
  | d, .step w n r, s, hs, h => by
    have h := WfL.step_iff.mp h
    exact WfL.step_iff.mpr ⟨h.1, h.2.1, wf_unroll hs h.2.2⟩
  | d, .turn k r, s, hs, h => by
    have h := WfL.turn_iff.mp h
    refine WfL.turn_iff.mpr ⟨?_, wf_unroll hs h.2⟩
    rcases hs with rfl | rfl <;> omega
  | 0, .rep _ _ _, s, _, h => h.elim
  | d + 1, .rep k b r, s, hs, h => WfL.app (wf_times (wf_unroll hs h.2.2.1) _) (wf_unroll hs h.2.2.2)
  | 0, .mir _ _, s, _, h => h.elim
  | d + 1, .mir b r, s, hs, h => WfL.app (wf_unroll (by omega) h.2.1) (wf_unroll hs h.2.2)
theorem wf_take {L : Nat} {C T : Int} : ∀ {n d : Nat} {p : Prog}, WfL L C T d p → WfL L C T d (p.take n)
  | 0, _, p, _ => WfL.nil
  | n + 1, _, .nil, _ => WfL.nil
  | n + 1, d, .step w m r, h => by
    have h := WfL.step_iff.mp h
    exact WfL.step_iff.mpr ⟨h.1, h.2.1, wf_take h.2.2⟩
  | n + 1, d, .turn k r, h => by
    have h := WfL.turn_iff.mp h
    exact WfL.turn_iff.mpr ⟨h.1, wf_take h.2⟩
  | n + 1, 0, .rep _ _ _, h => h.elim
  | n + 1, d + 1, .rep k b r, h => ⟨h.1, h.2.1, h.2.2.1, wf_take h.2.2.2⟩
  | n + 1, 0, .mir _ _, h => h.elim
  | n + 1, d + 1, .mir b r, h => ⟨h.1, h.2.1, wf_take h.2.2⟩
theorem len_take : ∀ (n : Nat) (p : Prog), (p.take n).len = min n p.len
  | 0, p => by rw [take, len]; omega
  | n + 1, .nil => by rw [take, len]; omega
  | n + 1, .step w m r => by rw [take, len, len, len_take n r]; omega
  | n + 1, .turn k r => by rw [take, len, len, len_take n r]; omega
  | n + 1, .rep k b r => by rw [take, len, len, len_take n r]; omega
  | n + 1, .mir b r => by rw [take, len, len, len_take n r]; omega
theorem len_le_size {L : Nat} {C T : Int} : ∀ {d : Nat} {p : Prog}, WfL L C T d p → (p.len : Int) ≤ p.size
  | _, .nil, _ => by rw [size, len]; omega
  | d, .step w n r, h => by have := len_le_size (WfL.step_iff.mp h).2.2; rw [size, len]; omega
  | d, .turn k r, h => by have := len_le_size (WfL.turn_iff.mp h).2; rw [size, len]; omega
  | 0, .rep _ _ _, h => h.elim
  | d + 1, .rep k b r, h => by
    have h1 := len_le_size h.2.2.1
    have h2 := len_le_size h.2.2.2
    have h3 : 1 * 1 ≤ k * b.size := Int.mul_le_mul h.1.1 (by have := h.2.1.1; omega) (by omega) (by have := h.1.1; omega)
    rw [size, len]; omega
  | 0, .mir _ _, h => h.elim
  | d + 1, .mir b r, h => by
    have h1 := len_le_size h.2.1
    have h2 := len_le_size h.2.2
    have := h.1.1
    rw [size, len]; omega
theorem size_flat {L : Nat} {C T : Int} : ∀ {p : Prog}, WfL L C T 0 p → p.size = p.len
  | .nil, _ => by rw [size, len]; rfl
  | .step w n r, h => by have := size_flat (WfL.step_iff.mp h).2.2; rw [size, len]; omega
  | .turn k r, h => by have := size_flat (WfL.turn_iff.mp h).2; rw [size, len]; omega
  | .rep _ _ _, h => h.elim
  | .mir _ _, h => h.elim
/-- how great a size can be -/
theorem size_le {C T : Int} (hC : 1 ≤ C) : ∀ {d : Nat} {p : Prog}, WfL 4000 C T d p → p.size ≤ p.len * (4000 * C) ^ d
  | _, .nil, _ => by rw [size, len]; simp
  | d, .step w n r, h => by
    have h1 := size_le hC (WfL.step_iff.mp h).2.2
    have h2 : (0 : Int) < (4000 * C) ^ d := Int.pow_pos (by omega)
    rw [size, len, Int.natCast_succ, Int.add_mul, Int.one_mul]; omega
  | d, .turn k r, h => by
    have h1 := size_le hC (WfL.turn_iff.mp h).2
    have h2 : (0 : Int) < (4000 * C) ^ d := Int.pow_pos (by omega)
    rw [size, len, Int.natCast_succ, Int.add_mul, Int.one_mul]; omega
  | 0, .rep _ _ _, h => h.elim
  | d + 1, .rep k b r, h => by
    have h1 := size_le hC h.2.2.1
    have h2 := size_le hC h.2.2.2
    have h0 := size_nonneg h.2.2.1
    have hp : (0 : Int) ≤ (4000 * C) ^ d := Int.le_of_lt (Int.pow_pos (by omega))
    have h3 : b.size ≤ 4000 * (4000 * C) ^ d := Int.le_trans h1 (Int.mul_le_mul_of_nonneg_right (by have := h.2.1.2; omega) hp)
    have h4 : k * b.size ≤ C * (4000 * (4000 * C) ^ d) := Int.mul_le_mul h.1.2 h3 h0 (by omega)
    have h5 : C * (4000 * (4000 * C) ^ d) = (4000 * C) ^ (d + 1) := by rw [Int.pow_succ, Int.mul_comm ((4000 * C) ^ d), ← Int.mul_assoc, Int.mul_comm C]
    rw [size, len, Int.natCast_succ, Int.add_mul, Int.one_mul]; omega
  | 0, .mir _ _, h => h.elim
  | d + 1, .mir b r, h => by
    have h1 := size_le hC h.2.1
    have h2 := size_le hC h.2.2
    have hp : (0 : Int) ≤ (4000 * C) ^ d := Int.le_of_lt (Int.pow_pos (by omega))
    have h3 : b.size ≤ 4000 * (4000 * C) ^ d := Int.le_trans h1 (Int.mul_le_mul_of_nonneg_right (by have := h.1.2; omega) hp)
    have h4 : 1 * (4000 * (4000 * C) ^ d) ≤ C * (4000 * (4000 * C) ^ d) := Int.mul_le_mul_of_nonneg_right hC (Int.mul_nonneg (by omega) hp)
    have h5 : C * (4000 * (4000 * C) ^ d) = (4000 * C) ^ (d + 1) := by rw [Int.pow_succ, Int.mul_comm ((4000 * C) ^ d), ← Int.mul_assoc, Int.mul_comm C]
    rw [size, len, Int.natCast_succ, Int.add_mul, Int.one_mul]; omega
/-- how great a heading can be -/
theorem head_le {L : Nat} {C T : Int} (hC : 1 ≤ C) (hT : 0 ≤ T) : ∀ {d : Nat} {p : Prog}, WfL L C T d p → p.head.natAbs ≤ T * p.size
  | _, .nil, _ => by rw [size, head]; simp
  | d, .step w n r, h => by
    have h1 := head_le hC hT (WfL.step_iff.mp h).2.2
    rw [size, head, Int.mul_add, Int.mul_one]; omega
  | d, .turn k r, h => by
    have h0 := (WfL.turn_iff.mp h).1
    have h1 := head_le hC hT (WfL.turn_iff.mp h).2
    rw [size, head, Int.mul_add, Int.mul_one]; omega
  | 0, .rep _ _ _, h => h.elim
  | d + 1, .rep k b r, h => by
    have h1 := head_le hC hT h.2.2.1
    have h2 := head_le hC hT h.2.2.2
    have h3 : ((k * b.head).natAbs : Int) ≤ T * (k * b.size) := by
      rw [Int.natAbs_mul, Int.natCast_mul, Int.mul_left_comm, Int.natAbs_of_nonneg (show 0 ≤ k by have := h.1.1; omega)]
      exact Int.mul_le_mul_of_nonneg_left h1 (by have := h.1.1; omega)
    rw [size, head, Int.mul_add]; omega
  | 0, .mir _ _, h => h.elim
  | d + 1, .mir b r, h => by
    have h1 := head_le hC hT h.2.1
    have h2 := head_le hC hT h.2.2
    rw [size, head, Int.mul_add]; omega
end Prog
end My

set_option Elab.async false
set_option linter.all false
set_option maxRecDepth 100000
namespace My
open PySem PySem.Spec PyProof.Rows L2
/-! ### programs on the heap -/
/-- the tuples stay -/
def Tk (H H' : Hp) : Prop := ∀ c xs, H c = some (.tup xs) → H' c = some (.tup xs)
theorem Tk.refl (H : Hp) : Tk H H := fun _ _ h => h
theorem Tk.trans {H H1 H2 : Hp} (h : Tk H H1) (k : Tk H1 H2) : Tk H H2 := fun c xs e => k c xs (h c xs e)
theorem Tk.same {H H' : Hp} (h : Same H H') : Tk H H' := fun c xs e => h c _ e
theorem Tk.but {H H' : Hp} {a : Addr} (h : But a H H') (b : Bag H a) : Tk H H' := fun c xs e => by
  obtain ⟨x, y, z, ea, _⟩ := b
  exact h c _ (ne_of e ea (by intro z; cases z)) e
theorem Tk.new {H H' : Hp} {p : Addr} {o : HO} (h : Tk H H') (n : H' p = none) : Tk H (upd H' p o) := fun c xs e => h_keep (h c xs e) n
theorem Tk.lst {H H' : Hp} {p : Addr} {l : List V} {o : HO} (h : Tk H H') (n : H' p = some (.lst l)) : Tk H (upd H' p o) := fun c xs e => (upd_ne (ne_of (h c xs e) n (by intro z; cases z))).trans (h c xs e)
def PrAt (H : Hp) : Prog → List V → Prop
  | .nil, xs => xs = []
  | .step w n r, xs => ∃ c ys, xs = .ref c :: ys ∧ H c = some (.tup [.str w, .str n]) ∧ PrAt H r ys
  | .turn k r, xs => ∃ c ys, xs = .ref c :: ys ∧ H c = some (.tup [.str "turn", .int k]) ∧ PrAt H r ys
  | .rep k b r, xs => ∃ c q zs ys, xs = .ref c :: ys ∧ H c = some (.tup [.str "repeat", .int k, .ref q]) ∧ H q = some (.tup zs) ∧ PrAt H b zs ∧ PrAt H r ys
  | .mir b r, xs => ∃ c q zs ys, xs = .ref c :: ys ∧ H c = some (.tup [.str "mirror", .ref q]) ∧ H q = some (.tup zs) ∧ PrAt H b zs ∧ PrAt H r ys
def PrIs (H : Hp) (a : Addr) (p : Prog) : Prop := ∃ xs, H a = some (.tup xs) ∧ PrAt H p xs
theorem PrAt.tk {H H' : Hp} (t : Tk H H') : ∀ {p : Prog} {xs : List V}, PrAt H p xs → PrAt H' p xs
  | .nil, _, h => h
  | .step w n r, _, ⟨c, ys, e, h1, h2⟩ => ⟨c, ys, e, t _ _ h1, h2.tk t⟩
  | .turn k r, _, ⟨c, ys, e, h1, h2⟩ => ⟨c, ys, e, t _ _ h1, h2.tk t⟩
  | .rep k b r, _, ⟨c, q, zs, ys, e, h1, h2, h3, h4⟩ => ⟨c, q, zs, ys, e, t _ _ h1, t _ _ h2, h3.tk t, h4.tk t⟩
  | .mir b r, _, ⟨c, q, zs, ys, e, h1, h2, h3, h4⟩ => ⟨c, q, zs, ys, e, t _ _ h1, t _ _ h2, h3.tk t, h4.tk t⟩
theorem PrIs.tk {H H' : Hp} {a : Addr} {p : Prog} (h : PrIs H a p) (t : Tk H H') : PrIs H' a p := let ⟨xs, e, q⟩ := h; ⟨xs, t _ _ e, q.tk t⟩
theorem PrAt.length {H : Hp} : ∀ {p : Prog} {xs : List V}, PrAt H p xs → xs.length = p.len
  | .nil, _, h => by rw [show _ = [] from h]; rfl
  | .step w n r, _, ⟨c, ys, e, h1, h2⟩ => by rw [e, List.length_cons, h2.length]; rfl
  | .turn k r, _, ⟨c, ys, e, h1, h2⟩ => by rw [e, List.length_cons, h2.length]; rfl
  | .rep k b r, _, ⟨c, q, zs, ys, e, h1, h2, h3, h4⟩ => by rw [e, List.length_cons, h4.length]; rfl
  | .mir b r, _, ⟨c, q, zs, ys, e, h1, h2, h3, h4⟩ => by rw [e, List.length_cons, h4.length]; rfl
theorem PrAt.app {H : Hp} : ∀ {p q : Prog} {xs ys : List V}, PrAt H p xs → PrAt H q ys → PrAt H (p.app q) (xs ++ ys)
  | .nil, q, xs, ys, h, k => by rw [show xs = [] from h]; exact k
  | .step w n r, q, _, ys, ⟨c, zs, e, h1, h2⟩, k => ⟨c, zs ++ ys, by rw [e]; rfl, h1, h2.app k⟩
  | .turn k' r, q, _, ys, ⟨c, zs, e, h1, h2⟩, k => ⟨c, zs ++ ys, by rw [e]; rfl, h1, h2.app k⟩
  | .rep k' b r, q, _, ys, ⟨c, q', zs, ws, e, h1, h2, h3, h4⟩, k => ⟨c, q', zs, ws ++ ys, by rw [e]; rfl, h1, h2, h3, h4.app k⟩
  | .mir b r, q, _, ys, ⟨c, q', zs, ws, e, h1, h2, h3, h4⟩, k => ⟨c, q', zs, ws ++ ys, by rw [e]; rfl, h1, h2, h3, h4.app k⟩
theorem PrAt.take {H : Hp} : ∀ {n : Nat} {p : Prog} {xs : List V}, PrAt H p xs → PrAt H (p.take n) (xs.take n)
  | 0, p, xs, h => by rw [Prog.take, List.take_zero]; rfl
  | n + 1, .nil, xs, h => by rw [show xs = [] from h, Prog.take, List.take_nil]; rfl
  | n + 1, .step w m r, _, ⟨c, zs, e, h1, h2⟩ => ⟨c, zs.take n, by rw [e, List.take_succ_cons], h1, h2.take⟩
  | n + 1, .turn k r, _, ⟨c, zs, e, h1, h2⟩ => ⟨c, zs.take n, by rw [e, List.take_succ_cons], h1, h2.take⟩
  | n + 1, .rep k b r, _, ⟨c, q', zs, ws, e, h1, h2, h3, h4⟩ => ⟨c, q', zs, ws.take n, by rw [e, List.take_succ_cons], h1, h2, h3, h4.take⟩
  | n + 1, .mir b r, _, ⟨c, q', zs, ws, e, h1, h2, h3, h4⟩ => ⟨c, q', zs, ws.take n, by rw [e, List.take_succ_cons], h1, h2, h3, h4.take⟩
/-- x is the first command of r, r' the rest -/
def First (H : Hp) : Prog → V → Prog → Prop
  | .nil, _, _ => False
  | .step w n r, x, r' => ∃ c, x = .ref c ∧ H c = some (.tup [.str w, .str n]) ∧ r' = r
  | .turn k r, x, r' => ∃ c, x = .ref c ∧ H c = some (.tup [.str "turn", .int k]) ∧ r' = r
  | .rep k b r, x, r' => ∃ c q, x = .ref c ∧ H c = some (.tup [.str "repeat", .int k, .ref q]) ∧ PrIs H q b ∧ r' = r
  | .mir b r, x, r' => ∃ c q, x = .ref c ∧ H c = some (.tup [.str "mirror", .ref q]) ∧ PrIs H q b ∧ r' = r
theorem First.tk {H H' : Hp} {r r' : Prog} {x : V} (h : First H r x r') (t : Tk H H') : First H' r x r' := by
  cases r with
  | nil => exact h.elim
  | step w n r => obtain ⟨c, e, h1, e2⟩ := h; exact ⟨c, e, t _ _ h1, e2⟩
  | turn k r => obtain ⟨c, e, h1, e2⟩ := h; exact ⟨c, e, t _ _ h1, e2⟩
  | rep k b r => obtain ⟨c, q, e, h1, h2, e2⟩ := h; exact ⟨c, q, e, t _ _ h1, h2.tk t, e2⟩
  | mir b r => obtain ⟨c, q, e, h1, h2, e2⟩ := h; exact ⟨c, q, e, t _ _ h1, h2.tk t, e2⟩
theorem PrAt.first {H : Hp} {r : Prog} {x : V} {ys : List V} (h : PrAt H r (x :: ys)) : ∃ r', First H r x r' ∧ PrAt H r' ys := by
  cases r with
  | nil => cases (show (x :: ys) = [] from h)
  | step w n r => obtain ⟨c, zs, e, h1, h2⟩ := h; cases e; exact ⟨r, ⟨c, rfl, h1, rfl⟩, h2⟩
  | turn k r => obtain ⟨c, zs, e, h1, h2⟩ := h; cases e; exact ⟨r, ⟨c, rfl, h1, rfl⟩, h2⟩
  | rep k b r => obtain ⟨c, q, zs, ws, e, h1, h2, h3, h4⟩ := h; cases e; exact ⟨r, ⟨c, q, rfl, h1, ⟨zs, h2, h3⟩, rfl⟩, h4⟩
  | mir b r => obtain ⟨c, q, zs, ws, e, h1, h2, h3, h4⟩ := h; cases e; exact ⟨r, ⟨c, q, rfl, h1, ⟨zs, h2, h3⟩, rfl⟩, h4⟩
theorem PrAt.cons {H : Hp} {r r' : Prog} {x : V} {ys : List V} (h : First H r x r') (k : PrAt H r' ys) : PrAt H r (x :: ys) := by
  cases r with
  | nil => exact h.elim
  | step w n r => obtain ⟨c, rfl, h1, rfl⟩ := h; exact ⟨c, ys, rfl, h1, k⟩
  | turn n r => obtain ⟨c, rfl, h1, rfl⟩ := h; exact ⟨c, ys, rfl, h1, k⟩
  | rep n b r => obtain ⟨c, q, rfl, h1, ⟨zs, h2, h3⟩, rfl⟩ := h; exact ⟨c, q, zs, ys, rfl, h1, h2, h3, k⟩
  | mir b r => obtain ⟨c, q, rfl, h1, ⟨zs, h2, h3⟩, rfl⟩ := h; exact ⟨c, q, zs, ys, rfl, h1, h2, h3, k⟩
theorem drop_cons {α : Type} {xs : List α} {i : Nat} {x : α} (h : xs[i]? = some x) : xs.drop i = x :: xs.drop (i + 1) := by
  obtain ⟨hi, e⟩ := List.getElem?_eq_some_iff.mp h
  rw [← e]
  exact List.drop_eq_getElem_cons hi
section
variable {σ : L2.St} {H : Hp} {K : PySem.W.Frag} {D : Ends} {tb : TS} {g : TG} {a : Addr} {xs : List V} {p : Prog}
/-- for command in program -/
theorem u_forPr (h : H a = some (.tup xs)) (hp : PrAt H p xs) (I : Prog → L2.St → Hp → Prop) (h0 : I p σ H) (hk : ∀ r σ H', I r σ H' → Tk H H')
    (hs : ∀ x r r' σ H', First H' r x r' → I r σ H' → g x σ H' fun σ2 H2 => tb { D with nx := I r', ct := I r', bk := D.nx } σ2 H2) (hd : ∀ σ H', I .nil σ H' → D.nx σ H') :
    ∃ b, V.ref a = .ref b ∧ (∃ xs, SqT K H b xs) ∧ ∃ W : Nat → Nat → L2.St → Hp → Prop, (∃ m, W 0 m σ H) ∧ ∀ i m σ H, W i m σ H →
      ((Itt K b).stop i H ∧ D.nx σ H) ∨ ((Itt K b).go i H ∧ ∃ N : L2.St → Hp → Prop, (∀ σ' H', N σ' H' → ∃ m', m' < m ∧ W (i + 1) m' σ' H') ∧ ∀ x H', (Itt K b).yld i H x H' → g x σ H' fun σ2 H2 => tb { D with nx := N, ct := N, bk := D.nx } σ2 H2) := by
  refine ⟨a, rfl, ⟨xs, .of h⟩, ⟨fun i m σ' H' => m = xs.length - i ∧ i ≤ xs.length ∧ ∃ r, PrAt H r (xs.drop i) ∧ I r σ' H', ⟨xs.length, by simp, Nat.zero_le _, p, hp, h0⟩, ?_⟩⟩
  rintro i m σ' H' ⟨rfl, hi, r, hr, ir⟩
  have hT : SqT K H' a xs := .of (hk _ _ _ ir _ _ h)
  by_cases hlt : i < xs.length
  · have hx : xs[i]? = some xs[i] := List.getElem?_eq_getElem hlt
    rw [drop_cons hx] at hr
    obtain ⟨r', f, hr'⟩ := hr.first
    refine .inr ⟨⟨xs, xs[i], hT, hx⟩, I r', fun σ2 H2 q => ⟨_, by omega, rfl, hlt, r', hr', q⟩, fun x H2 hy => ?_⟩
    obtain ⟨rfl, fx⟩ := hy
    have ex : x = xs[i] := Option.some.inj ((fx xs hT).symm.trans hx)
    subst ex
    exact hs _ r r' _ _ (f.tk (hk _ _ _ ir)) ir
  · have e : i = xs.length := by omega
    subst e
    rw [List.drop_length] at hr
    have hn : r = .nil := by
      cases r with
      | nil => rfl
      | step w n r => obtain ⟨c, zs, e, _⟩ := hr; cases e
      | turn k r => obtain ⟨c, zs, e, _⟩ := hr; cases e
      | rep k b r => obtain ⟨c, q, zs, ws, e, _⟩ := hr; cases e
      | mir b r => obtain ⟨c, q, zs, ws, e, _⟩ := hr; cases e
    subst hn
    exact .inl ⟨⟨xs, hT, Nat.le_refl _⟩, hd _ _ ir⟩
end
theorem cut_take (xs : List V) (n : Nat) : cutV xs none (some (n : Int)) = xs.take n := by
  unfold cutV
  rw [HT.sIx_none, HT.sIx_nat, List.drop_zero, Nat.sub_zero]
  by_cases h : n ≤ xs.length
  · rw [Nat.min_eq_left h]
  · rw [Nat.min_eq_right (by omega), List.take_length, List.take_of_length_le (by omega)]
/-! ### texts -/
section
variable {σ : L2.St} {H : Hp} {Q : VK} {K : PySem.W.Frag} {ta tb tc : TE} {p : Addr}
def rLenS (xs : List V) (H : Hp) (Q : VK) : Prop := ∃ z : Str, xs = [.str z] ∧ z.length ≤ sizeLine ∧ Q (.int z.length) H
theorem call_lenS {X : Cx} : CallR X (.builtin "len") rLenS := call_len_str
theorem r_lenS {z : Str} (l : z.length ≤ 100000) (q : Q (.int z.length) H) : rLenS [.str z] H Q := ⟨z, rfl, small_of l, q⟩
def rLeS : R2 := fun x y H Q => ∃ i j : Str, x = .str i ∧ y = .str j ∧ Q (.bl (!decide (j.cps.toList < i.cps.toList))) H
theorem op_leS {X : Cx} : OpR X (compareOp .LtE) rLeS := op_le_str
theorem r_leS {i j : Str} (q : Q (.bl (!decide (j.cps.toList < i.cps.toList))) H) : rLeS (.str i) (.str j) H Q := ⟨i, j, rfl, rfl, q⟩
theorem r_chain {r r' : R2} (q : ta σ H fun x H1 => tb σ H1 fun y H2 => r x y H2 fun z H3 => ∃ k, z = .bl k ∧ (if k = true then tc σ H3 fun w' H4 => r' y w' H4 Q else Q (.bl false) H3)) : tChain r r' ta tb tc σ H Q := q
theorem r_ixS {z : Str} {n : Int} {c : Nat} (l : z.length ≤ 100000) (e : atI z.cps.toList n = some c) (q : Q (.str ⟨#[c]⟩) H) : rIxS (.str z) (.int n) H Q := ⟨z, n, c, rfl, rfl, small_of l, e, q⟩
theorem r_all {bs : List Bool} (h : SqL K H p (bs.map V.bl)) (q : Q (.bl (bs.all id)) H) : rAll K [.ref p] H Q := ⟨p, bs, rfl, h, q⟩
end
/-! ### tuples and lists of things that stand -/
section
variable {σ : L2.St} {H : Hp} {Q : VK} {K : PySem.W.Frag} {to te : TE} {p b : Addr} {xs ys : List V}
def rTupL (K : PySem.W.Frag) (vs : List V) (H : Hp) (Q : VK) : Prop := ∃ p ys, vs = [.ref p] ∧ SqL K H p ys ∧ ∀ l, H l = none → Q (.ref l) (upd H l (.tup ys))
theorem call_tupL {X : Cx} : CallR X (.type "tuple") (rTupL X.K) := fun pins s σ H xs us Q I r ⟨p, ys, e, h, q⟩ => call_tuple_of pins s σ H xs us Q I r ⟨p, ys, e, .inl ⟨h, q⟩⟩
theorem r_tupL (h : H p = some (.lst xs)) (q : ∀ l, H l = none → Q (.ref l) (upd H l (.tup xs))) : rTupL K [.ref p] H Q := ⟨p, xs, rfl, .of h, q⟩
theorem r_extend (h : H p = some (.lst xs)) (h' : H b = some (.lst ys)) (l : xs.length + ys.length ≤ 16000000) (q : Q .non (upd H p (.lst (xs ++ ys)))) : rExtend (.ref p) [.ref b] H Q := ⟨p, b, xs, ys, rfl, rfl, h, h', Nat.le_trans l (by decide), q⟩
theorem r_appendB {v : V} (h : H p = some (.lst xs)) (hl : xs.length < 16000000) (q : Q .non (upd H p (.lst (xs ++ [v])))) : rAppend (.ref p) [v] H Q := ⟨p, xs, v, rfl, rfl, h, Nat.lt_of_lt_of_le hl (by decide), q⟩
def rListT (K : PySem.W.Frag) (vs : List V) (H : Hp) (Q : VK) : Prop := ∃ p ys, vs = [.ref p] ∧ (SqL K H p ys ∨ SqT K H p ys) ∧ ∀ l, H l = none → Q (.ref l) (upd H l (.lst ys))
theorem call_listT {X : Cx} : CallR X (.type "list") (rListT X.K) := call_list_of
theorem r_listL (h : H p = some (.lst xs)) (q : ∀ l, H l = none → Q (.ref l) (upd H l (.lst xs))) : rListT K [.ref p] H Q := ⟨p, xs, rfl, .inl (.of h), q⟩
theorem r_listT (h : H p = some (.tup xs)) (q : ∀ l, H l = none → Q (.ref l) (upd H l (.lst xs))) : rListT K [.ref p] H Q := ⟨p, xs, rfl, .inr (.of h), q⟩
theorem r_catT (h : H p = some (.tup xs)) (h' : H b = some (.tup ys)) (hx : xs ≠ []) (hy : ys ≠ []) (l : xs.length + ys.length ≤ 100000) (q : ∀ c, H c = none → Q (.ref c) (upd H c (.tup (xs ++ ys)))) : rCatT K (.ref p) (.ref b) H Q :=
  ⟨p, b, xs, ys, rfl, rfl, .of h, .of h', hx, small_of l, fun e => absurd e hy, fun _ => q⟩
theorem r_tM1 {r : V → List V → Hp → VK → Prop} (q : to σ H fun x H1 => (∃ a, x = .str a) ∧ te σ H1 fun y H2 => r x [y] H2 Q) : tM1 r to te σ H Q := q
theorem r_exS {z : Str} {A : Prop} (q : A) : (∃ a, V.str z = V.str a) ∧ A := ⟨⟨z, rfl⟩, q⟩
end
theorem name_len {n : Str} (h : IsName n) : n.length = 1 := by
  obtain ⟨c, rfl, _⟩ := h
  rfl
theorem one_lt {a b : Nat} (h : b ≤ a) : ¬ ([a] : List Nat) < [b] := by
  intro q
  have : a < b := by simpa [List.cons_lt_cons_iff] using q
  omega
theorem letter_a {n : Str} (h : IsName n) : ¬ n.cps.toList < (("a" : Str)).cps.toList := by
  obtain ⟨c, rfl, h1, _⟩ := h
  rw [show (("a" : Str)).cps.toList = [97] by decide +kernel]
  exact one_lt h1
theorem letter_z {n : Str} (h : IsName n) : ¬ (("z" : Str)).cps.toList < n.cps.toList := by
  obtain ⟨c, rfl, _, h2⟩ := h
  rw [show (("z" : Str)).cps.toList = [122] by decide +kernel]
  exact one_lt h2
theorem word_ne {w : Str} (h : IsWord w) : ¬ w = "repeat" ∧ ¬ w = "mirror" ∧ ¬ w = "turn" := by
  rcases h with rfl | rfl | rfl | rfl <;> decide +kernel
def sign1 (c : Nat) : Str := ⟨#[c]⟩
theorem app_toList (x y : Str) : (x ++ y).cps.toList = x.cps.toList ++ y.cps.toList := by
  show (x.cps ++ y.cps).toList = _
  exact Array.toList_append
theorem join_signs {s : Str} (hs : s.cps.toList = []) : ∀ cs : List Nat, (Txt.join s (cs.map sign1)).cps.toList = cs := fun cs => by
  rw [TL.join_eq]
  induction cs with
  | nil => rfl
  | cons c r ih =>
    cases r with
    | nil => rfl
    | cons d r =>
      show (sign1 c ++ s ++ Str.join s ((d :: r).map sign1)).cps.toList = _
      rw [app_toList, app_toList, hs, ih]
      rfl
/-- six letters -/
def Names (z : Str) : Prop := z.cps.toList.length = 6 ∧ ∀ c ∈ z.cps.toList, 97 ≤ c ∧ c ≤ 122
theorem names_at {z : Str} {n : Int} (h : Names z) (h0 : 0 ≤ n) (h1 : n < 6) : ∃ c, atI z.cps.toList n = some c ∧ IsName ⟨#[c]⟩ := by
  have h2 : n.toNat < z.cps.toList.length := by rw [h.1]; omega
  refine ⟨z.cps.toList[n.toNat], ?_, ⟨_, rfl, h.2 _ (List.getElem_mem h2)⟩⟩
  unfold atI ixN
  rw [if_pos h0, if_pos (by rw [h.1]; omega)]
  exact List.getElem?_eq_getElem h2
theorem names_small {z : Str} (h : Names z) : z.length ≤ 100000 := by
  have := h.1
  show z.cps.size ≤ 100000
  rw [Array.length_toList] at this
  omega
theorem letter_at {n : Int} (h0 : 0 ≤ n) (h1 : n < 26) : ∃ c, atI (("abcdefghijklmnopqrstuvwxyz" : Str)).cps.toList n = some c ∧ 97 ≤ c ∧ c ≤ 122 := by
  have hl : (("abcdefghijklmnopqrstuvwxyz" : Str)).cps.toList.length = 26 := by decide +kernel
  have ha : ∀ c ∈ (("abcdefghijklmnopqrstuvwxyz" : Str)).cps.toList, 97 ≤ c ∧ c ≤ 122 := by decide +kernel
  have h2 : n.toNat < (("abcdefghijklmnopqrstuvwxyz" : Str)).cps.toList.length := by rw [hl]; omega
  refine ⟨_, ?_, ha _ (List.getElem_mem h2)⟩
  unfold atI ixN
  rw [if_pos h0, if_pos (by rw [hl]; omega)]
  exact List.getElem?_eq_getElem h2
/-- all but what stands at a and b -/
def But2 (a b : Addr) (H H' : Hp) : Prop := ∀ c o, c ≠ a → c ≠ b → H c = some o → H' c = some o
theorem But2.refl (a b : Addr) (H : Hp) : But2 a b H H := fun _ _ _ _ h => h
theorem But2.trans {a b : Addr} {H H1 H2 : Hp} (h : But2 a b H H1) (k : But2 a b H1 H2) : But2 a b H H2 := fun c o n m e => k c o n m (h c o n m e)
theorem But2.of {a b : Addr} {H H' : Hp} (h : But a H H') : But2 a b H H' := fun c o n _ e => h c o n e
theorem But2.at {a b c : Addr} {H H' : Hp} {o : HO} (h : But2 a b H H') (n : c ≠ a) (m : c ≠ b) (e : H c = some o) : H' c = some o := h c o n m e
theorem But2.new {a b p : Addr} {H H' : Hp} {o : HO} (h : But2 a b H H') (n : H' p = none) : But2 a b H (upd H' p o) := fun c u x y e => h_keep (h c u x y e) n
theorem But2.put {a b p : Addr} {H H' : Hp} {o : HO} (h : But2 a b H H') (n : H p = none) : But2 a b H (upd H' p o) := fun c u x y e => (upd_ne (ne_of_none e n)).trans (h c u x y e)
theorem But2.self {a b : Addr} {H H' : Hp} {o : HO} (h : But2 a b H H') : But2 a b H (upd H' b o) := fun c u x y e => (upd_ne y).trans (h c u x y e)
theorem But2.one {a b : Addr} {H H0 H' : Hp} (s : But a H H0) (n : H b = none) (h : But2 a b H0 H') : But a H H' := fun c o x e => h c o x (ne_of_none e n) (s c o x e)
theorem But2.free {a b p : Addr} {H H' : Hp} (h : But2 a b H H') (n : p ≠ a) (m : p ≠ b) (e : H' p = none) : H p = none := by
  cases q : H p with
  | none => rfl
  | some o => rw [h p o n m q] at e; cases e
theorem Bag.list {H : Hp} {a : Addr} (h : Bag H a) : ∃ l, H a = some (.lst l) ∧ l.length = 3 := by
  obtain ⟨x, y, z, e, _⟩ := h
  exact ⟨_, e, rfl⟩
theorem Bag.upd {H : Hp} {a p : Addr} {o : HO} (h : Bag H a) (n : a ≠ p) : Bag (upd H p o) a := by
  obtain ⟨x, y, z, e, r⟩ := h
  exact ⟨x, y, z, (upd_ne n).trans e, r⟩
/-- the program's table of steps -/
structure StepsAt (K : PySem.W.Frag) (w : World) (mg : Str → Option Value) : Prop where
  ex : ∃ d es n, KDict K w d es n ∧ mg "STEPS" = some (.ref d) ∧ ∀ x : Str, IsWord x → ∃ v, PySem.W.nsIn K d x = some (some v)
/-- the greatest counts and turns -/
def BC : Int := 10 ^ 31
theorem BC_one : 1 ≤ BC := by decide +kernel
theorem mulW_of {a b : Int} (ha : a.natAbs < 2 ^ 100000) (hb : b.natAbs < 2 ^ 100000) : CMulW a b := by
  unfold CMulW
  have h : ∀ {n : Nat}, n < 2 ^ 100000 → n.log2 < 100000 := fun {n} hn => by
    by_cases h0 : n = 0
    · rw [h0]; decide
    · exact (Nat.log2_lt h0).mpr hn
  have := h ha
  have := h hb
  omega
theorem ipow_mono {a : Int} (h : 1 ≤ a) {m n : Nat} (hm : m ≤ n) : a ^ m ≤ a ^ n := by
  obtain ⟨k, rfl⟩ : ∃ k, n = m + k := ⟨n - m, by omega⟩
  rw [Int.pow_add]
  have h1 : 1 ≤ a ^ k := by
    have : (0 : Int) < a ^ k := Int.pow_pos (by omega)
    omega
  have h2 : a ^ m * 1 ≤ a ^ m * a ^ k := Int.mul_le_mul_of_nonneg_left h1 (Int.le_of_lt (Int.pow_pos (by omega)))
  omega
/-- how great the sizes are -/
theorem size_small {d : Nat} {p : Prog} (h : Wf BC BC d p) (hd : d ≤ 20) (hl : p.len ≤ 4000) : p.size ≤ 10 ^ 704 := by
  have h1 := Prog.size_le BC_one h
  have h2 : (4000 * BC) ^ d ≤ (4000 * BC) ^ 20 := ipow_mono (by decide +kernel) hd
  have h3 : (p.len : Int) * (4000 * BC) ^ d ≤ 4000 * (4000 * BC) ^ 20 := Int.mul_le_mul (by omega) h2 (Int.le_of_lt (Int.pow_pos (by decide +kernel))) (by omega)
  exact Int.le_trans h1 (Int.le_trans h3 (by decide +kernel))
theorem size_bits {d : Nat} {p : Prog} (h : Wf BC BC d p) (hd : d ≤ 20) (hl : p.len ≤ 4000) : p.size.natAbs < 2 ^ 100000 := by
  have h1 := size_small h hd hl
  have h0 := Prog.size_nonneg h
  refine Nat.lt_of_le_of_lt (m := 10 ^ 704) ?_ (by decide +kernel)
  have : (p.size.natAbs : Int) ≤ ((10 ^ 704 : Nat) : Int) := by
    rw [Int.natAbs_of_nonneg h0]
    exact h1
  exact Int.ofNat_le.mp this
theorem head_bits {d : Nat} {p : Prog} (h : Wf BC BC d p) (hd : d ≤ 20) (hl : p.len ≤ 4000) : p.head.natAbs < 2 ^ 100000 := by
  have h1 := size_small h hd hl
  have h0 := Prog.head_le BC_one (by decide +kernel) h
  refine Nat.lt_of_le_of_lt (m := 10 ^ 740) ?_ (by decide +kernel)
  have h2 : BC * p.size ≤ BC * 10 ^ 704 := Int.mul_le_mul_of_nonneg_left h1 (by decide +kernel)
  have : (p.head.natAbs : Int) ≤ ((10 ^ 740 : Nat) : Int) := Int.le_trans h0 (Int.le_trans h2 (by decide +kernel))
  exact Int.ofNat_le.mp this
theorem count_bits {k : Int} (h0 : -BC ≤ k) (h1 : k ≤ BC) : k.natAbs < 2 ^ 100000 := by
  refine Nat.lt_of_le_of_lt (m := 10 ^ 31) ?_ (by decide +kernel)
  have : BC = 10 ^ 31 := rfl
  omega
end My

set_option Elab.async false
set_option linter.all false
set_option maxRecDepth 100000
namespace My
open PySem PySem.Spec PyProof.Rows L2
def topS (i : Nat) : Stmt := PySem.Challenge.pw_everyangle_k31_programs_that_are_not_sho.main.body.getD i (.Pass ⟨0, 0, 0, 0⟩)
abbrev s_NotShort___init__ : Stmt := inClass (topS 9) 0
abbrev s_is_integer : Stmt := topS 12
abbrev s_is_term : Stmt := topS 14
abbrev s_summed : Stmt := topS 15
abbrev s_Poly___init__ : Stmt := inClass (topS 16) 0
abbrev s_Poly___len__ : Stmt := inClass (topS 16) 3
abbrev s_is_name : Stmt := topS 27
abbrev s_is_command : Stmt := topS 28
abbrev s_is_program : Stmt := topS 29
abbrev s_check_program : Stmt := topS 30
abbrev s_raw_size : Stmt := topS 31
abbrev s_plain_row : Stmt := topS 32
abbrev s_raw_is_short : Stmt := topS 33
abbrev s_check_short : Stmt := topS 36
abbrev s_raw_steps : Stmt := topS 37
abbrev s_add_step : Stmt := topS 38
abbrev s_place_from : Stmt := topS 39
abbrev s_raw_effect : Stmt := topS 40
abbrev s_raw_places : Stmt := topS 41
abbrev s_raw_strokes : Stmt := topS 42
abbrev s_unrolled : Stmt := topS 43
abbrev s_effect : Stmt := topS 44
abbrev s_places : Stmt := topS 45
abbrev s_strokes : Stmt := topS 46
abbrev s_l_bag_of : Stmt := topS 48
abbrev s_l_pick : Stmt := topS 49
abbrev s_l_great_int : Stmt := topS 50
abbrev s_l_is_int : Stmt := topS 51
abbrev s_l_jar_of : Stmt := topS 52
abbrev s_l_terms_of : Stmt := topS 53
abbrev s_l_times : Stmt := topS 54
abbrev s_l_names : Stmt := topS 55
abbrev s_l_bulk : Stmt := topS 56
abbrev s_l_aim : Stmt := topS 57
abbrev s_l_unroll : Stmt := topS 58
abbrev s_l_row : Stmt := topS 59
abbrev s_l_fits : Stmt := topS 60
abbrev s_l_curt : Stmt := topS 61
abbrev s_l_deep : Stmt := topS 62
abbrev s_l_full : Stmt := topS 63
abbrev s_l_short_three : Stmt := topS 64
abbrev s_l_not_short : Stmt := topS 65
abbrev s_l_no_piece : Stmt := topS 66
abbrev s_l_asked : Stmt := topS 67
abbrev s_l_let : Stmt := topS 68
abbrev s_law : Stmt := topS 69
theorem sc_NotShort___init__ : FnScope ["self", "amount"] ["self", "amount"] (defScope s_NotShort___init__) := ⟨rfl, rfl, rfl, by decide +kernel, rfl, by decide +kernel, by decide +kernel⟩
theorem sc_is_integer : FnScope ["value"] ["value"] (defScope s_is_integer) := ⟨rfl, rfl, rfl, by decide +kernel, rfl, by decide +kernel, by decide +kernel⟩
theorem sc_is_term : FnScope ["value"] ["value"] (defScope s_is_term) := ⟨rfl, rfl, rfl, by decide +kernel, rfl, by decide +kernel, by decide +kernel⟩
theorem sc_summed : FnScope ["terms", "sums", "power", "number"] ["terms"] (defScope s_summed) := ⟨rfl, rfl, rfl, by decide +kernel, rfl, by decide +kernel, by decide +kernel⟩
theorem sc_Poly___init__ : FnScope ["self", "terms", "term"] ["self", "terms"] (defScope s_Poly___init__) := ⟨rfl, rfl, rfl, by decide +kernel, rfl, by decide +kernel, by decide +kernel⟩
theorem sc_Poly___len__ : FnScope ["self"] ["self"] (defScope s_Poly___len__) := ⟨rfl, rfl, rfl, by decide +kernel, rfl, by decide +kernel, by decide +kernel⟩
theorem sc_is_name : FnScope ["value"] ["value"] (defScope s_is_name) := ⟨rfl, rfl, rfl, by decide +kernel, rfl, by decide +kernel, by decide +kernel⟩
theorem sc_is_command : FnScope ["value", "word"] ["value"] (defScope s_is_command) := ⟨rfl, rfl, rfl, by decide +kernel, rfl, by decide +kernel, by decide +kernel⟩
theorem sc_is_program : FnScope ["value", "command"] ["value"] (defScope s_is_program) := ⟨rfl, rfl, rfl, by decide +kernel, rfl, by decide +kernel, by decide +kernel⟩
theorem sc_check_program : FnScope ["value"] ["value"] (defScope s_check_program) := ⟨rfl, rfl, rfl, by decide +kernel, rfl, by decide +kernel, by decide +kernel⟩
theorem sc_raw_size : FnScope ["program", "total", "command"] ["program"] (defScope s_raw_size) := ⟨rfl, rfl, rfl, by decide +kernel, rfl, by decide +kernel, by decide +kernel⟩
theorem sc_plain_row : FnScope ["program", "sign", "row", "command"] ["program", "sign"] (defScope s_plain_row) := ⟨rfl, rfl, rfl, by decide +kernel, rfl, by decide +kernel, by decide +kernel⟩
theorem sc_raw_is_short : FnScope ["program", "now", "command"] ["program"] (defScope s_raw_is_short) := ⟨rfl, rfl, rfl, by decide +kernel, rfl, by decide +kernel, by decide +kernel⟩
theorem sc_check_short : FnScope ["program"] ["program"] (defScope s_check_short) := ⟨rfl, rfl, rfl, by decide +kernel, rfl, by decide +kernel, by decide +kernel⟩
theorem sc_raw_steps : FnScope ["program", "now", "steps", "word", "value"] ["program"] (defScope s_raw_steps) := ⟨rfl, rfl, rfl, by decide +kernel, rfl, by decide +kernel, by decide +kernel⟩
theorem sc_add_step : FnScope ["numbers", "step", "word", "name", "power", "row"] ["numbers", "step"] (defScope s_add_step) := ⟨rfl, rfl, rfl, by decide +kernel, rfl, by decide +kernel, by decide +kernel⟩
theorem sc_place_from : FnScope ["numbers", "found", "name", "poly"] ["numbers"] (defScope s_place_from) := ⟨rfl, rfl, rfl, by decide +kernel, rfl, by decide +kernel, by decide +kernel⟩
theorem sc_raw_effect : FnScope ["program", "now", "steps", "numbers", "step"] ["program"] (defScope s_raw_effect) := ⟨rfl, rfl, rfl, by decide +kernel, rfl, by decide +kernel, by decide +kernel⟩
theorem sc_raw_places : FnScope ["program", "numbers", "found", "step"] ["program"] (defScope s_raw_places) := ⟨rfl, rfl, rfl, by decide +kernel, rfl, by decide +kernel, by decide +kernel⟩
theorem sc_raw_strokes : FnScope ["program", "found", "steps", "strokes", "at", "step"] ["program"] (defScope s_raw_strokes) := ⟨rfl, rfl, rfl, by decide +kernel, rfl, by decide +kernel, by decide +kernel⟩
theorem sc_unrolled : FnScope ["program"] ["program"] (defScope s_unrolled) := ⟨rfl, rfl, rfl, by decide +kernel, rfl, by decide +kernel, by decide +kernel⟩
theorem sc_effect : FnScope ["program"] ["program"] (defScope s_effect) := ⟨rfl, rfl, rfl, by decide +kernel, rfl, by decide +kernel, by decide +kernel⟩
theorem sc_places : FnScope ["program"] ["program"] (defScope s_places) := ⟨rfl, rfl, rfl, by decide +kernel, rfl, by decide +kernel, by decide +kernel⟩
theorem sc_strokes : FnScope ["program"] ["program"] (defScope s_strokes) := ⟨rfl, rfl, rfl, by decide +kernel, rfl, by decide +kernel, by decide +kernel⟩
theorem sc_l_bag_of : FnScope ["_law_cell"] ["_law_cell"] (defScope s_l_bag_of) := ⟨rfl, rfl, rfl, by decide +kernel, rfl, by decide +kernel, by decide +kernel⟩
theorem sc_l_pick : FnScope ["_law_bag", "_law_many", "_law_digit"] ["_law_bag", "_law_many"] (defScope s_l_pick) := ⟨rfl, rfl, rfl, by decide +kernel, rfl, by decide +kernel, by decide +kernel⟩
theorem sc_l_great_int : FnScope ["_law_bag", "_law_digits", "_law_total", "_law_k", "_law_limit"] ["_law_bag", "_law_digits"] (defScope s_l_great_int) := ⟨rfl, rfl, rfl, by decide +kernel, rfl, by decide +kernel, by decide +kernel⟩
theorem sc_l_is_int : FnScope ["_law_thing"] ["_law_thing"] (defScope s_l_is_int) := ⟨rfl, rfl, rfl, by decide +kernel, rfl, by decide +kernel, by decide +kernel⟩
theorem sc_l_jar_of : FnScope ["_law_rows", "_law_jar", "_law_deg", "_law_coef"] ["_law_rows"] (defScope s_l_jar_of) := ⟨rfl, rfl, rfl, by decide +kernel, rfl, by decide +kernel, by decide +kernel⟩
theorem sc_l_terms_of : FnScope ["_law_jar", "_law_deg"] ["_law_jar"] (defScope s_l_terms_of) := ⟨rfl, rfl, rfl, by decide +kernel, rfl, by decide +kernel, by decide +kernel⟩
theorem sc_l_times : FnScope ["_law_one", "_law_two", "_law_jar", "_law_deg", "_law_far"] ["_law_one", "_law_two"] (defScope s_l_times) := ⟨rfl, rfl, rfl, by decide +kernel, rfl, by decide +kernel, by decide +kernel⟩
theorem sc_l_names : FnScope ["_law_bag", "_law_letters", "_law_k"] ["_law_bag"] (defScope s_l_names) := ⟨rfl, rfl, rfl, by decide +kernel, rfl, by decide +kernel, by decide +kernel⟩
theorem sc_l_bulk : FnScope ["_law_piece", "_law_total", "_law_part"] ["_law_piece"] (defScope s_l_bulk) := ⟨rfl, rfl, rfl, by decide +kernel, rfl, by decide +kernel, by decide +kernel⟩
theorem sc_l_aim : FnScope ["_law_piece", "_law_total", "_law_part"] ["_law_piece"] (defScope s_l_aim) := ⟨rfl, rfl, rfl, by decide +kernel, rfl, by decide +kernel, by decide +kernel⟩
theorem sc_l_unroll : FnScope ["_law_piece", "_law_sign", "_law_made", "_law_part", "_law_body", "_law_k"] ["_law_piece", "_law_sign"] (defScope s_l_unroll) := ⟨rfl, rfl, rfl, by decide +kernel, rfl, by decide +kernel, by decide +kernel⟩
theorem sc_l_row : FnScope ["_law_bag", "_law_names_here", "_law_steps", "_law_drawn", "_law_far", "_law_rings", "_law_jar", "_law_k", "_law_row_here", "_law_more", "_law_shift", "_law_todo", "_law_deg", "_law_coef", "_law_made", "_law_now", "_law_at", "_law_who", "_law_sign", "_law_hid"] ["_law_bag", "_law_names_here", "_law_steps", "_law_drawn", "_law_far"] (defScope s_l_row) := ⟨rfl, rfl, rfl, by decide +kernel, rfl, by decide +kernel, by decide +kernel⟩
theorem sc_l_fits : FnScope ["_law_piece", "_law_steps", "_law_drawn", "_law_far", "_law_now", "_law_word", "_law_much"] ["_law_piece", "_law_steps", "_law_drawn", "_law_far"] (defScope s_l_fits) := ⟨rfl, rfl, rfl, by decide +kernel, rfl, by decide +kernel, by decide +kernel⟩
theorem sc_l_curt : FnScope ["_law_bag", "_law_names_here", "_law_steps", "_law_drawn", "_law_far", "_law_piece", "_law_k", "_law_at", "_law_behind", "_law_more", "_law_grown"] ["_law_bag", "_law_names_here", "_law_steps", "_law_drawn", "_law_far"] (defScope s_l_curt) := ⟨rfl, rfl, rfl, by decide +kernel, rfl, by decide +kernel, by decide +kernel⟩
theorem sc_l_deep : FnScope ["_law_bag", "_law_names_here", "_law_much", "_law_word", "_law_piece", "_law_k", "_law_lots"] ["_law_bag", "_law_names_here"] (defScope s_l_deep) := ⟨rfl, rfl, rfl, by decide +kernel, rfl, by decide +kernel, by decide +kernel⟩
theorem sc_l_full : FnScope ["_law_bag", "_law_piece", "_law_names_here", "_law_some", "_law_k", "_law_lots", "_law_more"] ["_law_bag", "_law_piece", "_law_names_here"] (defScope s_l_full) := ⟨rfl, rfl, rfl, by decide +kernel, rfl, by decide +kernel, by decide +kernel⟩
theorem sc_l_short_three : FnScope ["_law_bag", "_law_names_here", "_law_piece"] ["_law_bag", "_law_names_here"] (defScope s_l_short_three) := ⟨rfl, rfl, rfl, by decide +kernel, rfl, by decide +kernel, by decide +kernel⟩
theorem sc_l_not_short : FnScope ["_law_bag", "_law_piece", "_law_names_here", "_law_edge", "_law_step", "_law_way", "_law_lots", "_law_some", "_law_much"] ["_law_bag", "_law_piece", "_law_names_here"] (defScope s_l_not_short) := ⟨rfl, rfl, rfl, by decide +kernel, rfl, by decide +kernel, by decide +kernel⟩
theorem sc_l_no_piece : FnScope ["_law_bag", "_law_piece", "_law_some"] ["_law_bag", "_law_piece"] (defScope s_l_no_piece) := ⟨rfl, rfl, rfl, by decide +kernel, rfl, by decide +kernel, by decide +kernel⟩
theorem sc_l_asked : FnScope ["_law_way", "_law_thing", "_law_caught", "_law_made", "e"] ["_law_way", "_law_thing"] (defScope s_l_asked) := ⟨rfl, rfl, rfl, by decide +kernel, rfl, by decide +kernel, by decide +kernel⟩
theorem sc_l_let : FnScope ["_law_piece", "_law_words", "_law_paces", "_law_drawn", "_law_part"] ["_law_piece"] (defScope s_l_let) := ⟨rfl, rfl, rfl, by decide +kernel, rfl, by decide +kernel, by decide +kernel⟩
theorem sc_law : FnScope ["_law_script", "_law_great", "_law_cell", "_law_bag", "_law_names_here", "_law_some", "_law_good", "_law_row_here", "_law_far", "_law_bulk_here", "_law_way", "_law_piece", "_law_ahead"] ["_law_script"] (defScope s_law) := ⟨rfl, rfl, rfl, by decide +kernel, rfl, by decide +kernel, by decide +kernel⟩
/-- the built-ins that the text calls by their names -/
structure Bl (mg : Str → Option Value) : Prop where
  b_isinstance : mg "isinstance" = none
  b_int : mg "int" = none
  b_bool : mg "bool" = none
  b_str : mg "str" = none
  b_tuple : mg "tuple" = none
  b_list : mg "list" = none
  b_len : mg "len" = none
  b_all : mg "all" = none
  b_range : mg "range" = none
  b_sum : mg "sum" = none
  b_max : mg "max" = none
  b_min : mg "min" = none
end My

set_option Elab.async false
set_option linter.all false
set_option maxRecDepth 100000
set_option maxHeartbeats 0
/-! the head: what is looked at behind the top, the run (printed by head.py) -/
namespace My
open PySem PySem.Spec PyProof.Rows L2
noncomputable section
def hdc0 (K : PySem.W.Frag) : List Bool := [
  He.eqO (PySem.W.nsIn K mainGlobals "Poly") (some (some (.ref (He.ga K "Poly")))),
  PySem.W.plainGet K (He.ga K "Poly") Str.empty,
  PySem.W.hasDictIn K (He.ga K "Poly"),
  PySem.W.plainOver K (He.ga K "Poly"),
  He.eqO (PySem.W.findIn K (.ref (He.ga K "Poly")) "__setattr__") (some (some (.builtin "object.__setattr__"))),
  PySem.W.makesIn K (He.ga K "Poly"),
  PySem.W.keepIn K (.ref (He.ga K "Poly")),
  He.eqO (PySem.W.findIn K (.ref (He.ga K "Poly")) "rows") (some none),
  PySem.W.selfFirst K (He.ga K "Poly"),
  clsC (PySem.W.clsIn K (He.ga K "Poly")) [.ref (He.ga K "Poly"), .type "object"],
  He.eqO (PySem.W.findIn K (.ref (He.ga K "Poly")) "__class__") (some (some (.builtin "object.__class__"))),
  He.eqO (PySem.W.specialIn K (.builtin "object.__class__") "__get__") (some (some (.builtin "getset_descriptor.__get__"))),
  decide (PySem.W.takesIn K (.builtin "object.__class__") = some true),
  decide (PySem.W.mroIn K (He.ga K "Poly") (.type "object") = some true),
  decide (PySem.W.typeIn K (.ref (He.ga K "Poly")) = some (.type "type")),
  decide (PySem.W.subIn K (.type "int") (.ref (He.ga K "Poly")) = some false),
  decide (PySem.W.subIn K (.type "bool") (.ref (He.ga K "Poly")) = some false),
  decide (PySem.W.subIn K (.type "str") (.ref (He.ga K "Poly")) = some false),
  decide (PySem.W.subIn K (.type "list") (.ref (He.ga K "Poly")) = some false),
  decide (PySem.W.subIn K (.type "tuple") (.ref (He.ga K "Poly")) = some false),
  decide (PySem.W.subIn K (.type "NoneType") (.ref (He.ga K "Poly")) = some false),
  decide (PySem.W.subIn K (.ref (He.ga K "Poly")) (.type "int") = some false),
  decide (PySem.W.subIn K (.ref (He.ga K "Poly")) (.type "bool") = some false),
  decide (PySem.W.subIn K (.ref (He.ga K "Poly")) (.type "list") = some false),
  decide (PySem.W.subIn K (.ref (He.ga K "Poly")) (.type "tuple") = some false),
  He.eqO (PySem.W.nsIn K mainGlobals "AngleError") (some (some (.ref (He.ga K "AngleError")))),
  PySem.W.excIn K (He.ga K "AngleError") [.type "ValueError", .type "Exception", .type "BaseException", .type "object"] "ValueError.__new__",
  PySem.W.keepIn K (.ref (He.ga K "AngleError")),
  decide (PySem.W.subIn K (.ref (He.ga K "AngleError")) (.type "BaseException") = some true),
  decide (PySem.W.typeIn K (.ref (He.ga K "AngleError")) = some (.type "type"))]
def hdc1 (K : PySem.W.Frag) : List Bool := [
  He.eqO (PySem.W.findIn K (.ref (He.ga K "AngleError")) "__getattribute__") (some (some (.builtin "BaseException.__getattribute__"))),
  He.eqO (PySem.W.findIn K (.ref (He.ga K "AngleError")) "__getattr__") (some none),
  PySem.W.hasDictIn K (He.ga K "AngleError"),
  He.eqO (PySem.W.findIn K (.ref (He.ga K "AngleError")) "__class__") (some (some (.builtin "object.__class__"))),
  He.eqO (PySem.W.specialIn K (.builtin "object.__class__") "__get__") (some (some (.builtin "getset_descriptor.__get__"))),
  decide (PySem.W.takesIn K (.builtin "object.__class__") = some true),
  decide (PySem.W.mroIn K (He.ga K "AngleError") (.type "object") = some true),
  (PySem.W.clsIn K (He.ga K "AngleError")).isSome,
  He.eqO (PySem.W.nsIn K mainGlobals "InvalidProgram") (some (some (.ref (He.ga K "InvalidProgram")))),
  PySem.W.excIn K (He.ga K "InvalidProgram") [.type "ValueError", .type "Exception", .type "BaseException", .type "object"] "ValueError.__new__",
  PySem.W.keepIn K (.ref (He.ga K "InvalidProgram")),
  decide (PySem.W.subIn K (.ref (He.ga K "InvalidProgram")) (.type "BaseException") = some true),
  decide (PySem.W.typeIn K (.ref (He.ga K "InvalidProgram")) = some (.type "type")),
  He.eqO (PySem.W.findIn K (.ref (He.ga K "InvalidProgram")) "__getattribute__") (some (some (.builtin "BaseException.__getattribute__"))),
  He.eqO (PySem.W.findIn K (.ref (He.ga K "InvalidProgram")) "__getattr__") (some none),
  PySem.W.hasDictIn K (He.ga K "InvalidProgram"),
  He.eqO (PySem.W.findIn K (.ref (He.ga K "InvalidProgram")) "__class__") (some (some (.builtin "object.__class__"))),
  He.eqO (PySem.W.specialIn K (.builtin "object.__class__") "__get__") (some (some (.builtin "getset_descriptor.__get__"))),
  decide (PySem.W.takesIn K (.builtin "object.__class__") = some true),
  decide (PySem.W.mroIn K (He.ga K "InvalidProgram") (.type "object") = some true),
  (PySem.W.clsIn K (He.ga K "InvalidProgram")).isSome,
  He.eqO (PySem.W.nsIn K mainGlobals "InvalidCount") (some (some (.ref (He.ga K "InvalidCount")))),
  PySem.W.excIn K (He.ga K "InvalidCount") [.type "ValueError", .type "Exception", .type "BaseException", .type "object"] "ValueError.__new__",
  PySem.W.keepIn K (.ref (He.ga K "InvalidCount")),
  decide (PySem.W.subIn K (.ref (He.ga K "InvalidCount")) (.type "BaseException") = some true),
  decide (PySem.W.typeIn K (.ref (He.ga K "InvalidCount")) = some (.type "type")),
  He.eqO (PySem.W.findIn K (.ref (He.ga K "InvalidCount")) "__getattribute__") (some (some (.builtin "BaseException.__getattribute__"))),
  He.eqO (PySem.W.findIn K (.ref (He.ga K "InvalidCount")) "__getattr__") (some none),
  PySem.W.hasDictIn K (He.ga K "InvalidCount"),
  He.eqO (PySem.W.findIn K (.ref (He.ga K "InvalidCount")) "__class__") (some (some (.builtin "object.__class__")))]
def hdc2 (K : PySem.W.Frag) : List Bool := [
  He.eqO (PySem.W.specialIn K (.builtin "object.__class__") "__get__") (some (some (.builtin "getset_descriptor.__get__"))),
  decide (PySem.W.takesIn K (.builtin "object.__class__") = some true),
  decide (PySem.W.mroIn K (He.ga K "InvalidCount") (.type "object") = some true),
  (PySem.W.clsIn K (He.ga K "InvalidCount")).isSome,
  He.eqO (PySem.W.nsIn K mainGlobals "InvalidIndex") (some (some (.ref (He.ga K "InvalidIndex")))),
  PySem.W.excIn K (He.ga K "InvalidIndex") [.type "ValueError", .type "Exception", .type "BaseException", .type "object"] "ValueError.__new__",
  PySem.W.keepIn K (.ref (He.ga K "InvalidIndex")),
  decide (PySem.W.subIn K (.ref (He.ga K "InvalidIndex")) (.type "BaseException") = some true),
  decide (PySem.W.typeIn K (.ref (He.ga K "InvalidIndex")) = some (.type "type")),
  He.eqO (PySem.W.findIn K (.ref (He.ga K "InvalidIndex")) "__getattribute__") (some (some (.builtin "BaseException.__getattribute__"))),
  He.eqO (PySem.W.findIn K (.ref (He.ga K "InvalidIndex")) "__getattr__") (some none),
  PySem.W.hasDictIn K (He.ga K "InvalidIndex"),
  He.eqO (PySem.W.findIn K (.ref (He.ga K "InvalidIndex")) "__class__") (some (some (.builtin "object.__class__"))),
  He.eqO (PySem.W.specialIn K (.builtin "object.__class__") "__get__") (some (some (.builtin "getset_descriptor.__get__"))),
  decide (PySem.W.takesIn K (.builtin "object.__class__") = some true),
  decide (PySem.W.mroIn K (He.ga K "InvalidIndex") (.type "object") = some true),
  (PySem.W.clsIn K (He.ga K "InvalidIndex")).isSome,
  He.eqO (PySem.W.nsIn K mainGlobals "NotAChain") (some (some (.ref (He.ga K "NotAChain")))),
  PySem.W.excIn K (He.ga K "NotAChain") [.type "ValueError", .type "Exception", .type "BaseException", .type "object"] "ValueError.__new__",
  PySem.W.keepIn K (.ref (He.ga K "NotAChain")),
  decide (PySem.W.subIn K (.ref (He.ga K "NotAChain")) (.type "BaseException") = some true),
  decide (PySem.W.typeIn K (.ref (He.ga K "NotAChain")) = some (.type "type")),
  He.eqO (PySem.W.findIn K (.ref (He.ga K "NotAChain")) "__getattribute__") (some (some (.builtin "BaseException.__getattribute__"))),
  He.eqO (PySem.W.findIn K (.ref (He.ga K "NotAChain")) "__getattr__") (some none),
  PySem.W.hasDictIn K (He.ga K "NotAChain"),
  He.eqO (PySem.W.findIn K (.ref (He.ga K "NotAChain")) "__class__") (some (some (.builtin "object.__class__"))),
  He.eqO (PySem.W.specialIn K (.builtin "object.__class__") "__get__") (some (some (.builtin "getset_descriptor.__get__"))),
  decide (PySem.W.takesIn K (.builtin "object.__class__") = some true),
  decide (PySem.W.mroIn K (He.ga K "NotAChain") (.type "object") = some true),
  (PySem.W.clsIn K (He.ga K "NotAChain")).isSome]
def hdc3 (K : PySem.W.Frag) : List Bool := [
  He.eqO (PySem.W.nsIn K mainGlobals "NotShort") (some (some (.ref (He.ga K "NotShort")))),
  oexIn K (He.ga K "NotShort"),
  He.eqO (PySem.W.findIn K (.ref (He.ga K "NotShort")) "__setattr__") (some (some (.builtin "object.__setattr__"))),
  PySem.W.keepIn K (.ref (He.ga K "NotShort")),
  decide (PySem.W.subIn K (.ref (He.ga K "NotShort")) (.type "BaseException") = some true),
  decide (PySem.W.typeIn K (.ref (He.ga K "NotShort")) = some (.type "type")),
  He.eqO (PySem.W.findIn K (.ref (He.ga K "NotShort")) "__getattribute__") (some (some (.builtin "BaseException.__getattribute__"))),
  He.eqO (PySem.W.findIn K (.ref (He.ga K "NotShort")) "__getattr__") (some none),
  PySem.W.hasDictIn K (He.ga K "NotShort"),
  He.eqO (PySem.W.findIn K (.ref (He.ga K "NotShort")) "__class__") (some (some (.builtin "object.__class__"))),
  He.eqO (PySem.W.specialIn K (.builtin "object.__class__") "__get__") (some (some (.builtin "getset_descriptor.__get__"))),
  decide (PySem.W.takesIn K (.builtin "object.__class__") = some true),
  decide (PySem.W.mroIn K (He.ga K "NotShort") (.type "object") = some true),
  (PySem.W.clsIn K (He.ga K "NotShort")).isSome,
  He.eqO (PySem.W.findIn K (.ref (He.ga K "NotShort")) "amount") (some none),
  decide (PySem.W.subIn K (.ref (He.ga K "NotShort")) (.ref (He.ga K "AngleError")) = some true),
  decide (PySem.W.subIn K (.ref (He.ga K "NotShort")) (.type "ValueError") = some true),
  decide (PySem.W.subIn K (.ref (He.ga K "InvalidProgram")) (.ref (He.ga K "AngleError")) = some true),
  decide (PySem.W.subIn K (.ref (He.ga K "InvalidProgram")) (.type "ValueError") = some true),
  decide (PySem.W.subIn K (.ref (He.ga K "InvalidProgram")) (.type "tuple") = some false),
  decide (PySem.W.subIn K (.ref (He.ga K "InvalidProgram")) (.ref (He.ga K "NotShort")) = some false),
  decide ((Value.ref (He.ga K "InvalidProgram") == Value.ref (He.ga K "NotShort")) = false),
  decide (PySem.W.subIn K (.ref (He.ga K "NotShort")) (.ref (He.ga K "InvalidProgram")) = some false),
  decide ((Value.ref (He.ga K "NotShort") == Value.ref (He.ga K "InvalidProgram")) = false),
  decide (PySem.W.subIn K (.ref (He.ga K "NotShort")) (.ref (He.ga K "InvalidCount")) = some false),
  decide ((Value.ref (He.ga K "NotShort") == Value.ref (He.ga K "InvalidCount")) = false),
  decide (PySem.W.subIn K (.ref (He.ga K "NotShort")) (.ref (He.ga K "InvalidIndex")) = some false),
  decide ((Value.ref (He.ga K "NotShort") == Value.ref (He.ga K "InvalidIndex")) = false),
  decide (PySem.W.subIn K (.ref (He.ga K "NotShort")) (.ref (He.ga K "NotAChain")) = some false),
  decide ((Value.ref (He.ga K "NotShort") == Value.ref (He.ga K "NotAChain")) = false)]
def hdc4 (K : PySem.W.Frag) : List Bool := [
  decide (PySem.W.subIn K (.ref (He.ga K "InvalidProgram")) (.ref (He.ga K "InvalidCount")) = some false),
  decide ((Value.ref (He.ga K "InvalidProgram") == Value.ref (He.ga K "InvalidCount")) = false),
  decide (PySem.W.subIn K (.ref (He.ga K "InvalidProgram")) (.ref (He.ga K "InvalidIndex")) = some false),
  decide ((Value.ref (He.ga K "InvalidProgram") == Value.ref (He.ga K "InvalidIndex")) = false),
  decide (PySem.W.subIn K (.ref (He.ga K "InvalidProgram")) (.ref (He.ga K "NotAChain")) = some false),
  decide ((Value.ref (He.ga K "InvalidProgram") == Value.ref (He.ga K "NotAChain")) = false),
  He.eqO (PySem.W.nsIn K mainGlobals "_law_bag_of") (some (some (.ref (He.ga K "_law_bag_of")))),
  fnC K (He.ga K "_law_bag_of") "_law_bag_of" .none,
  PySem.W.keepIn K (.ref (He.ga K "_law_bag_of")),
  He.eqO (PySem.W.nsIn K mainGlobals "_law_pick") (some (some (.ref (He.ga K "_law_pick")))),
  fnC K (He.ga K "_law_pick") "_law_pick" .none,
  PySem.W.keepIn K (.ref (He.ga K "_law_pick")),
  He.eqO (PySem.W.nsIn K mainGlobals "_law_names") (some (some (.ref (He.ga K "_law_names")))),
  fnC K (He.ga K "_law_names") "_law_names" .none,
  PySem.W.keepIn K (.ref (He.ga K "_law_names")),
  He.eqO (PySem.W.nsIn K mainGlobals "_law_jar_of") (some (some (.ref (He.ga K "_law_jar_of")))),
  fnC K (He.ga K "_law_jar_of") "_law_jar_of" .none,
  PySem.W.keepIn K (.ref (He.ga K "_law_jar_of")),
  He.eqO (PySem.W.nsIn K mainGlobals "_law_times") (some (some (.ref (He.ga K "_law_times")))),
  fnC K (He.ga K "_law_times") "_law_times" .none,
  PySem.W.keepIn K (.ref (He.ga K "_law_times")),
  He.eqO (PySem.W.nsIn K mainGlobals "_law_terms_of") (some (some (.ref (He.ga K "_law_terms_of")))),
  fnC K (He.ga K "_law_terms_of") "_law_terms_of" .none,
  PySem.W.keepIn K (.ref (He.ga K "_law_terms_of")),
  He.eqO (PySem.W.nsIn K mainGlobals "_law_row") (some (some (.ref (He.ga K "_law_row")))),
  fnC K (He.ga K "_law_row") "_law_row" .none,
  PySem.W.keepIn K (.ref (He.ga K "_law_row")),
  He.eqO (PySem.W.nsIn K mainGlobals "_law_bulk") (some (some (.ref (He.ga K "_law_bulk")))),
  fnC K (He.ga K "_law_bulk") "_law_bulk" .none,
  PySem.W.keepIn K (.ref (He.ga K "_law_bulk"))]
def hdc5 (K : PySem.W.Frag) : List Bool := [
  He.eqO (PySem.W.nsIn K mainGlobals "_law_unroll") (some (some (.ref (He.ga K "_law_unroll")))),
  fnC K (He.ga K "_law_unroll") "_law_unroll" .none,
  PySem.W.keepIn K (.ref (He.ga K "_law_unroll")),
  He.eqO (PySem.W.nsIn K mainGlobals "_law_fits") (some (some (.ref (He.ga K "_law_fits")))),
  fnC K (He.ga K "_law_fits") "_law_fits" .none,
  PySem.W.keepIn K (.ref (He.ga K "_law_fits")),
  He.eqO (PySem.W.nsIn K mainGlobals "_law_curt") (some (some (.ref (He.ga K "_law_curt")))),
  fnC K (He.ga K "_law_curt") "_law_curt" .none,
  PySem.W.keepIn K (.ref (He.ga K "_law_curt")),
  He.eqO (PySem.W.nsIn K mainGlobals "_law_full") (some (some (.ref (He.ga K "_law_full")))),
  fnC K (He.ga K "_law_full") "_law_full" .none,
  PySem.W.keepIn K (.ref (He.ga K "_law_full")),
  He.eqO (PySem.W.nsIn K mainGlobals "_law_deep") (some (some (.ref (He.ga K "_law_deep")))),
  fnC K (He.ga K "_law_deep") "_law_deep" .none,
  PySem.W.keepIn K (.ref (He.ga K "_law_deep")),
  He.eqO (PySem.W.nsIn K mainGlobals "_law_short_three") (some (some (.ref (He.ga K "_law_short_three")))),
  fnC K (He.ga K "_law_short_three") "_law_short_three" .none,
  PySem.W.keepIn K (.ref (He.ga K "_law_short_three")),
  He.eqO (PySem.W.nsIn K mainGlobals "_law_great_int") (some (some (.ref (He.ga K "_law_great_int")))),
  fnC K (He.ga K "_law_great_int") "_law_great_int" .none,
  PySem.W.keepIn K (.ref (He.ga K "_law_great_int")),
  He.eqO (PySem.W.nsIn K mainGlobals "_law_aim") (some (some (.ref (He.ga K "_law_aim")))),
  fnC K (He.ga K "_law_aim") "_law_aim" .none,
  PySem.W.keepIn K (.ref (He.ga K "_law_aim")),
  He.eqO (PySem.W.nsIn K mainGlobals "_law_not_short") (some (some (.ref (He.ga K "_law_not_short")))),
  fnC K (He.ga K "_law_not_short") "_law_not_short" .none,
  PySem.W.keepIn K (.ref (He.ga K "_law_not_short")),
  He.eqO (PySem.W.nsIn K mainGlobals "_law_is_int") (some (some (.ref (He.ga K "_law_is_int")))),
  fnC K (He.ga K "_law_is_int") "_law_is_int" .none,
  PySem.W.keepIn K (.ref (He.ga K "_law_is_int"))]
def hdc6 (K : PySem.W.Frag) : List Bool := [
  He.eqO (PySem.W.nsIn K mainGlobals "is_command") (some (some (.ref (He.ga K "is_command")))),
  fnC K (He.ga K "is_command") "is_command" .none,
  PySem.W.keepIn K (.ref (He.ga K "is_command")),
  He.eqO (PySem.W.nsIn K mainGlobals "is_integer") (some (some (.ref (He.ga K "is_integer")))),
  fnC K (He.ga K "is_integer") "is_integer" .none,
  PySem.W.keepIn K (.ref (He.ga K "is_integer")),
  He.eqO (PySem.W.nsIn K mainGlobals "is_name") (some (some (.ref (He.ga K "is_name")))),
  fnC K (He.ga K "is_name") "is_name" .none,
  PySem.W.keepIn K (.ref (He.ga K "is_name")),
  He.eqO (PySem.W.nsIn K mainGlobals "is_program") (some (some (.ref (He.ga K "is_program")))),
  fnC K (He.ga K "is_program") "is_program" .none,
  PySem.W.keepIn K (.ref (He.ga K "is_program")),
  He.eqO (PySem.W.nsIn K mainGlobals "check_program") (some (some (.ref (He.ga K "check_program")))),
  fnC K (He.ga K "check_program") "check_program" .none,
  PySem.W.keepIn K (.ref (He.ga K "check_program")),
  He.eqO (PySem.W.nsIn K mainGlobals "raw_size") (some (some (.ref (He.ga K "raw_size")))),
  fnC K (He.ga K "raw_size") "raw_size" .none,
  PySem.W.keepIn K (.ref (He.ga K "raw_size")),
  He.eqO (PySem.W.nsIn K mainGlobals "plain_row") (some (some (.ref (He.ga K "plain_row")))),
  fnC K (He.ga K "plain_row") "plain_row" (.ref (dtA K (He.ga K "plain_row"))),
  PySem.W.keepIn K (.ref (He.ga K "plain_row")),
  tupI K (dtA K (He.ga K "plain_row")) 1,
  He.eqO (PySem.W.nsIn K mainGlobals "raw_is_short") (some (some (.ref (He.ga K "raw_is_short")))),
  fnC K (He.ga K "raw_is_short") "raw_is_short" .none,
  PySem.W.keepIn K (.ref (He.ga K "raw_is_short")),
  He.eqO (PySem.W.findIn K (.ref (He.ga K "NotShort")) "__init__") (some (some (.ref (He.ma K (He.ga K "NotShort") "__init__")))),
  PySem.W.isFn K (.ref (He.ma K (He.ga K "NotShort") "__init__")),
  fnC K (He.ma K (He.ga K "NotShort") "__init__") "NotShort.__init__" .none,
  PySem.W.keepIn K (.ref (He.ma K (He.ga K "NotShort") "__init__")),
  He.eqO (PySem.W.nsIn K mainGlobals "check_short") (some (some (.ref (He.ga K "check_short"))))]
def hdc7 (K : PySem.W.Frag) : List Bool := [
  fnC K (He.ga K "check_short") "check_short" .none,
  PySem.W.keepIn K (.ref (He.ga K "check_short")),
  He.eqO (PySem.W.nsIn K mainGlobals "unrolled") (some (some (.ref (He.ga K "unrolled")))),
  fnC K (He.ga K "unrolled") "unrolled" .none,
  PySem.W.keepIn K (.ref (He.ga K "unrolled")),
  He.eqO (PySem.W.nsIn K mainGlobals "raw_steps") (some (some (.ref (He.ga K "raw_steps")))),
  fnC K (He.ga K "raw_steps") "raw_steps" .none,
  PySem.W.keepIn K (.ref (He.ga K "raw_steps")),
  He.eqO (PySem.W.nsIn K mainGlobals "add_step") (some (some (.ref (He.ga K "add_step")))),
  fnC K (He.ga K "add_step") "add_step" .none,
  PySem.W.keepIn K (.ref (He.ga K "add_step")),
  He.eqO (PySem.W.nsIn K mainGlobals "is_term") (some (some (.ref (He.ga K "is_term")))),
  fnC K (He.ga K "is_term") "is_term" .none,
  PySem.W.keepIn K (.ref (He.ga K "is_term")),
  He.eqO (PySem.W.nsIn K mainGlobals "summed") (some (some (.ref (He.ga K "summed")))),
  fnC K (He.ga K "summed") "summed" .none,
  PySem.W.keepIn K (.ref (He.ga K "summed")),
  He.eqO (PySem.W.findIn K (.ref (He.ga K "Poly")) "__init__") (some (some (.ref (He.ma K (He.ga K "Poly") "__init__")))),
  PySem.W.isFn K (.ref (He.ma K (He.ga K "Poly") "__init__")),
  fnC K (He.ma K (He.ga K "Poly") "__init__") "Poly.__init__" .none,
  PySem.W.keepIn K (.ref (He.ma K (He.ga K "Poly") "__init__")),
  He.eqO (PySem.W.findIn K (.ref (He.ga K "Poly")) "__len__") (some (some (.ref (He.ma K (He.ga K "Poly") "__len__")))),
  PySem.W.isFn K (.ref (He.ma K (He.ga K "Poly") "__len__")),
  fnC K (He.ma K (He.ga K "Poly") "__len__") "Poly.__len__" .none,
  PySem.W.keepIn K (.ref (He.ma K (He.ga K "Poly") "__len__")),
  He.eqO (PySem.W.nsIn K mainGlobals "place_from") (some (some (.ref (He.ga K "place_from")))),
  fnC K (He.ga K "place_from") "place_from" .none,
  PySem.W.keepIn K (.ref (He.ga K "place_from")),
  He.eqO (PySem.W.nsIn K mainGlobals "raw_effect") (some (some (.ref (He.ga K "raw_effect")))),
  fnC K (He.ga K "raw_effect") "raw_effect" .none]
def hdc8 (K : PySem.W.Frag) : List Bool := [
  PySem.W.keepIn K (.ref (He.ga K "raw_effect")),
  He.eqO (PySem.W.nsIn K mainGlobals "effect") (some (some (.ref (He.ga K "effect")))),
  fnC K (He.ga K "effect") "effect" .none,
  PySem.W.keepIn K (.ref (He.ga K "effect")),
  He.eqO (PySem.W.nsIn K mainGlobals "raw_places") (some (some (.ref (He.ga K "raw_places")))),
  fnC K (He.ga K "raw_places") "raw_places" .none,
  PySem.W.keepIn K (.ref (He.ga K "raw_places")),
  He.eqO (PySem.W.nsIn K mainGlobals "places") (some (some (.ref (He.ga K "places")))),
  fnC K (He.ga K "places") "places" .none,
  PySem.W.keepIn K (.ref (He.ga K "places")),
  He.eqO (PySem.W.nsIn K mainGlobals "raw_strokes") (some (some (.ref (He.ga K "raw_strokes")))),
  fnC K (He.ga K "raw_strokes") "raw_strokes" .none,
  PySem.W.keepIn K (.ref (He.ga K "raw_strokes")),
  He.eqO (PySem.W.nsIn K mainGlobals "strokes") (some (some (.ref (He.ga K "strokes")))),
  fnC K (He.ga K "strokes") "strokes" .none,
  PySem.W.keepIn K (.ref (He.ga K "strokes")),
  He.eqO (PySem.W.nsIn K mainGlobals "_law_asked") (some (some (.ref (He.ga K "_law_asked")))),
  fnC K (He.ga K "_law_asked") "_law_asked" .none,
  PySem.W.keepIn K (.ref (He.ga K "_law_asked")),
  He.eqO (PySem.W.nsIn K mainGlobals "_law_let") (some (some (.ref (He.ga K "_law_let")))),
  fnC K (He.ga K "_law_let") "_law_let" .none,
  PySem.W.keepIn K (.ref (He.ga K "_law_let")),
  He.eqO (PySem.W.nsIn K mainGlobals "_law_no_piece") (some (some (.ref (He.ga K "_law_no_piece")))),
  fnC K (He.ga K "_law_no_piece") "_law_no_piece" .none,
  PySem.W.keepIn K (.ref (He.ga K "_law_no_piece")),
  He.eqO (PySem.W.nsIn K mainGlobals "law") (some (some (.ref (He.ga K "law")))),
  fnC K (He.ga K "law") "law" .none,
  PySem.W.keepIn K (.ref (He.ga K "law")),
  He.eqO (PySem.W.nsIn K mainGlobals "ValueError") (some none),
  He.eqO (PySem.W.nsIn K mainGlobals "abs") (some none)]
def hdc9 (K : PySem.W.Frag) : List Bool := [
  He.eqO (PySem.W.nsIn K mainGlobals "all") (some none),
  He.eqO (PySem.W.nsIn K mainGlobals "bool") (some none),
  He.eqO (PySem.W.nsIn K mainGlobals "enumerate") (some none),
  He.eqO (PySem.W.nsIn K mainGlobals "int") (some none),
  He.eqO (PySem.W.nsIn K mainGlobals "isinstance") (some none),
  He.eqO (PySem.W.nsIn K mainGlobals "len") (some none),
  He.eqO (PySem.W.nsIn K mainGlobals "list") (some none),
  He.eqO (PySem.W.nsIn K mainGlobals "max") (some none),
  He.eqO (PySem.W.nsIn K mainGlobals "min") (some none),
  He.eqO (PySem.W.nsIn K mainGlobals "range") (some none),
  He.eqO (PySem.W.nsIn K mainGlobals "sorted") (some none),
  He.eqO (PySem.W.nsIn K mainGlobals "str") (some none),
  He.eqO (PySem.W.nsIn K mainGlobals "sum") (some none),
  He.eqO (PySem.W.nsIn K mainGlobals "tuple") (some none),
  He.eqO (PySem.W.nsIn K mainGlobals "STEPS") (some (some (.ref (He.ga K "STEPS")))),
  intC (PySem.W.nsIn K (He.ga K "STEPS") "go") 1,
  intC (PySem.W.nsIn K (He.ga K "STEPS") "back") (-1),
  intC (PySem.W.nsIn K (He.ga K "STEPS") "hop") 1,
  intC (PySem.W.nsIn K (He.ga K "STEPS") "slip") (-1),
  wordsOnly K (He.ga K "STEPS"),
  intC (PySem.W.nsIn K mainGlobals "MOST_COMMANDS") 200,
  intC (PySem.W.nsIn K mainGlobals "MOST_HEADING") 12,
  He.eqO (PySem.W.nsIn K mainGlobals "DRAWN") (some (some (.ref (He.ga K "DRAWN")))),
  tupSS K (He.ga K "DRAWN") "go" "back"]
def hdf0 (K : PySem.W.Frag) : List He.FnW := [fnE K (He.ga K "_law_bag_of"), fnE K (He.ga K "_law_pick"), fnE K (He.ga K "_law_names"), fnE K (He.ga K "_law_jar_of"), fnE K (He.ga K "_law_times"), fnE K (He.ga K "_law_terms_of"), fnE K (He.ga K "_law_row"), fnE K (He.ga K "_law_bulk"), fnE K (He.ga K "_law_unroll"), fnE K (He.ga K "_law_fits"), fnE K (He.ga K "_law_curt"), fnE K (He.ga K "_law_full"), fnE K (He.ga K "_law_deep"), fnE K (He.ga K "_law_short_three"), fnE K (He.ga K "_law_great_int"), fnE K (He.ga K "_law_aim"), fnE K (He.ga K "_law_not_short"), fnE K (He.ga K "_law_is_int"), fnE K (He.ga K "is_command"), fnE K (He.ga K "is_integer"), fnE K (He.ga K "is_name"), fnE K (He.ga K "is_program"), fnE K (He.ga K "check_program"), fnE K (He.ga K "raw_size"), fnE K (He.ga K "plain_row"), fnE K (He.ga K "raw_is_short"), fnE K (He.ma K (He.ga K "NotShort") "__init__"), fnE K (He.ga K "check_short"), fnE K (He.ga K "unrolled"), fnE K (He.ga K "raw_steps")]
def hdv0 : List He.FnW := [
  some ("_law_bag_of", "_law_bag_of", (defArgs s_l_bag_of), .stmts (defBody s_l_bag_of), (defScope s_l_bag_of), mainGlobals, [], builtinsNs),
  some ("_law_pick", "_law_pick", (defArgs s_l_pick), .stmts (defBody s_l_pick), (defScope s_l_pick), mainGlobals, [], builtinsNs),
  some ("_law_names", "_law_names", (defArgs s_l_names), .stmts (defBody s_l_names), (defScope s_l_names), mainGlobals, [], builtinsNs),
  some ("_law_jar_of", "_law_jar_of", (defArgs s_l_jar_of), .stmts (defBody s_l_jar_of), (defScope s_l_jar_of), mainGlobals, [], builtinsNs),
  some ("_law_times", "_law_times", (defArgs s_l_times), .stmts (defBody s_l_times), (defScope s_l_times), mainGlobals, [], builtinsNs),
  some ("_law_terms_of", "_law_terms_of", (defArgs s_l_terms_of), .stmts (defBody s_l_terms_of), (defScope s_l_terms_of), mainGlobals, [], builtinsNs),
  some ("_law_row", "_law_row", (defArgs s_l_row), .stmts (defBody s_l_row), (defScope s_l_row), mainGlobals, [], builtinsNs),
  some ("_law_bulk", "_law_bulk", (defArgs s_l_bulk), .stmts (defBody s_l_bulk), (defScope s_l_bulk), mainGlobals, [], builtinsNs),
  some ("_law_unroll", "_law_unroll", (defArgs s_l_unroll), .stmts (defBody s_l_unroll), (defScope s_l_unroll), mainGlobals, [], builtinsNs),
  some ("_law_fits", "_law_fits", (defArgs s_l_fits), .stmts (defBody s_l_fits), (defScope s_l_fits), mainGlobals, [], builtinsNs),
  some ("_law_curt", "_law_curt", (defArgs s_l_curt), .stmts (defBody s_l_curt), (defScope s_l_curt), mainGlobals, [], builtinsNs),
  some ("_law_full", "_law_full", (defArgs s_l_full), .stmts (defBody s_l_full), (defScope s_l_full), mainGlobals, [], builtinsNs),
  some ("_law_deep", "_law_deep", (defArgs s_l_deep), .stmts (defBody s_l_deep), (defScope s_l_deep), mainGlobals, [], builtinsNs),
  some ("_law_short_three", "_law_short_three", (defArgs s_l_short_three), .stmts (defBody s_l_short_three), (defScope s_l_short_three), mainGlobals, [], builtinsNs),
  some ("_law_great_int", "_law_great_int", (defArgs s_l_great_int), .stmts (defBody s_l_great_int), (defScope s_l_great_int), mainGlobals, [], builtinsNs),
  some ("_law_aim", "_law_aim", (defArgs s_l_aim), .stmts (defBody s_l_aim), (defScope s_l_aim), mainGlobals, [], builtinsNs),
  some ("_law_not_short", "_law_not_short", (defArgs s_l_not_short), .stmts (defBody s_l_not_short), (defScope s_l_not_short), mainGlobals, [], builtinsNs),
  some ("_law_is_int", "_law_is_int", (defArgs s_l_is_int), .stmts (defBody s_l_is_int), (defScope s_l_is_int), mainGlobals, [], builtinsNs),
  some ("is_command", "is_command", (defArgs s_is_command), .stmts (defBody s_is_command), (defScope s_is_command), mainGlobals, [], builtinsNs),
  some ("is_integer", "is_integer", (defArgs s_is_integer), .stmts (defBody s_is_integer), (defScope s_is_integer), mainGlobals, [], builtinsNs),
  some ("is_name", "is_name", (defArgs s_is_name), .stmts (defBody s_is_name), (defScope s_is_name), mainGlobals, [], builtinsNs),
  some ("is_program", "is_program", (defArgs s_is_program), .stmts (defBody s_is_program), (defScope s_is_program), mainGlobals, [], builtinsNs),
  some ("check_program", "check_program", (defArgs s_check_program), .stmts (defBody s_check_program), (defScope s_check_program), mainGlobals, [], builtinsNs),
  some ("raw_size", "raw_size", (defArgs s_raw_size), .stmts (defBody s_raw_size), (defScope s_raw_size), mainGlobals, [], builtinsNs),
  some ("plain_row", "plain_row", (defArgs s_plain_row), .stmts (defBody s_plain_row), (defScope s_plain_row), mainGlobals, [], builtinsNs),
  some ("raw_is_short", "raw_is_short", (defArgs s_raw_is_short), .stmts (defBody s_raw_is_short), (defScope s_raw_is_short), mainGlobals, [], builtinsNs),
  some ("__init__", "NotShort.__init__", (defArgs s_NotShort___init__), .stmts (defBody s_NotShort___init__), (defScope s_NotShort___init__), mainGlobals, [], builtinsNs),
  some ("check_short", "check_short", (defArgs s_check_short), .stmts (defBody s_check_short), (defScope s_check_short), mainGlobals, [], builtinsNs),
  some ("unrolled", "unrolled", (defArgs s_unrolled), .stmts (defBody s_unrolled), (defScope s_unrolled), mainGlobals, [], builtinsNs),
  some ("raw_steps", "raw_steps", (defArgs s_raw_steps), .stmts (defBody s_raw_steps), (defScope s_raw_steps), mainGlobals, [], builtinsNs)]
def hdf1 (K : PySem.W.Frag) : List He.FnW := [fnE K (He.ga K "add_step"), fnE K (He.ga K "is_term"), fnE K (He.ga K "summed"), fnE K (He.ma K (He.ga K "Poly") "__init__"), fnE K (He.ma K (He.ga K "Poly") "__len__"), fnE K (He.ga K "place_from"), fnE K (He.ga K "raw_effect"), fnE K (He.ga K "effect"), fnE K (He.ga K "raw_places"), fnE K (He.ga K "places"), fnE K (He.ga K "raw_strokes"), fnE K (He.ga K "strokes"), fnE K (He.ga K "_law_asked"), fnE K (He.ga K "_law_let"), fnE K (He.ga K "_law_no_piece"), fnE K (He.ga K "law")]
def hdv1 : List He.FnW := [
  some ("add_step", "add_step", (defArgs s_add_step), .stmts (defBody s_add_step), (defScope s_add_step), mainGlobals, [], builtinsNs),
  some ("is_term", "is_term", (defArgs s_is_term), .stmts (defBody s_is_term), (defScope s_is_term), mainGlobals, [], builtinsNs),
  some ("summed", "summed", (defArgs s_summed), .stmts (defBody s_summed), (defScope s_summed), mainGlobals, [], builtinsNs),
  some ("__init__", "Poly.__init__", (defArgs s_Poly___init__), .stmts (defBody s_Poly___init__), (defScope s_Poly___init__), mainGlobals, [], builtinsNs),
  some ("__len__", "Poly.__len__", (defArgs s_Poly___len__), .stmts (defBody s_Poly___len__), (defScope s_Poly___len__), mainGlobals, [], builtinsNs),
  some ("place_from", "place_from", (defArgs s_place_from), .stmts (defBody s_place_from), (defScope s_place_from), mainGlobals, [], builtinsNs),
  some ("raw_effect", "raw_effect", (defArgs s_raw_effect), .stmts (defBody s_raw_effect), (defScope s_raw_effect), mainGlobals, [], builtinsNs),
  some ("effect", "effect", (defArgs s_effect), .stmts (defBody s_effect), (defScope s_effect), mainGlobals, [], builtinsNs),
  some ("raw_places", "raw_places", (defArgs s_raw_places), .stmts (defBody s_raw_places), (defScope s_raw_places), mainGlobals, [], builtinsNs),
  some ("places", "places", (defArgs s_places), .stmts (defBody s_places), (defScope s_places), mainGlobals, [], builtinsNs),
  some ("raw_strokes", "raw_strokes", (defArgs s_raw_strokes), .stmts (defBody s_raw_strokes), (defScope s_raw_strokes), mainGlobals, [], builtinsNs),
  some ("strokes", "strokes", (defArgs s_strokes), .stmts (defBody s_strokes), (defScope s_strokes), mainGlobals, [], builtinsNs),
  some ("_law_asked", "_law_asked", (defArgs s_l_asked), .stmts (defBody s_l_asked), (defScope s_l_asked), mainGlobals, [], builtinsNs),
  some ("_law_let", "_law_let", (defArgs s_l_let), .stmts (defBody s_l_let), (defScope s_l_let), mainGlobals, [], builtinsNs),
  some ("_law_no_piece", "_law_no_piece", (defArgs s_l_no_piece), .stmts (defBody s_l_no_piece), (defScope s_l_no_piece), mainGlobals, [], builtinsNs),
  some ("law", "law", (defArgs s_law), .stmts (defBody s_law), (defScope s_law), mainGlobals, [], builtinsNs)]
def hdt (K : PySem.W.Frag) : List (Option (List (Option (Str × Int)))) := [He.dicW K (He.ga K "STEPS")]
def hdw (w : World) : List (Option (List (Option (Str × Int)))) := [some (He.keysIn w.params ["go", "hop", "back", "slip"])]
abbrev HdA : Type := List Bool × List (List He.FnW) × List (Option (List (Option (Str × Int))))
def hdObs (K : PySem.W.Frag) : HdA := ([(hdc0 K).all id, (hdc1 K).all id, (hdc2 K).all id, (hdc3 K).all id, (hdc4 K).all id, (hdc5 K).all id, (hdc6 K).all id, (hdc7 K).all id, (hdc8 K).all id, (hdc9 K).all id], [hdf0 K, hdf1 K], hdt K)
def hdVal (w : World) : HdA := ([true, true, true, true, true, true, true, true, true, true], [hdv0, hdv1], hdw w)
def hdG (g : Addr → Option Obj) : HdA := hdObs (He.frG g (hdLv g 5 [mainGlobals]))
def hdHook : PySem.W.Hook where
  α := HdA
  obs := fun s => hdG s.heap.get?
  val := hdVal
  says := fun w h => ∃ K : PySem.W.Frag, K.In h ∧ hdObs K = hdVal w
  of := fun _ _ e => ⟨_, He.frG_in, e⟩
  keeps := fun _ _ _ ⟨K, hK, c⟩ k => ⟨K, PySem.W.Frag.In.keeps hK k, c⟩
def hdOb (s : PySem.W.SharedT) : HdA := hdG (HandSHeadRun.getT s)
theorem hdOb_eq (s : PySem.W.SharedT) : hdOb s = hdHook.obs s.abs := by
  have e : HandSHeadRun.getT s = s.abs.heap.get? := funext (HandSHeadRun.getT_eq s)
  show hdG _ = hdG _
  rw [e]
abbrev hdR : PySem.W.OpenRow := PySem.W.OpenLaw.row PySem.Challenge.rw_everyangle_k31_programs_that_are_not_sho
abbrev hdQ : Program := PySem.W.view hdR.prog [69]
def hdn0 : List Str := ["_wall", "AngleError", "InvalidPoly", "InvalidDivisor", "InvalidNumber", "InvalidProgram", "InvalidCount", "InvalidIndex", "NotShort", "NotAChain", "is_integer", "check_number", "is_term", "summed", "Poly", "check_poly", "as_poly", "negative", "product", "check_divisor", "division", "STEPS", "MOST_COMMANDS", "MOST_HEADING", "is_name", "is_command", "is_program", "check_program", "raw_size", "plain_row"]
def hdn1 : List Str := ["raw_is_short", "DRAWN", "check_short", "raw_steps", "add_step", "place_from", "raw_effect", "raw_places", "raw_strokes", "unrolled", "effect", "places", "strokes", "_law_bag_of", "_law_pick", "_law_great_int", "_law_is_int", "_law_jar_of", "_law_terms_of", "_law_times", "_law_names", "_law_bulk", "_law_aim", "_law_unroll", "_law_row", "_law_fits", "_law_curt", "_law_deep", "_law_full", "_law_short_three"]
def hdn2 : List Str := ["_law_not_short", "_law_no_piece", "_law_asked", "_law_let"]
def hdL : List Str := hdn0 ++ hdn1 ++ hdn2
theorem hdRun_f (w : World) : HandSHeadRun.RunEq hdR hdQ hdHook hdOb 9000 hdL (w.withFollow "special-get-raises" false) := by
  intro os
  kernel_rfl
theorem hdRun_t (w : World) : HandSHeadRun.RunEq hdR hdQ hdHook hdOb 9000 hdL (w.withFollow "special-get-raises" true) := by
  intro os
  kernel_rfl
theorem hdRun (w : World) : HandSHeadRun.RunEq hdR hdQ hdHook hdOb 9000 hdL w := by_row hdRun_f hdRun_t w
end
end My
/-! the head itself, early in the text: what the law's def promises is asked for -/
open PySem PySem.Spec PyProof.Rows L2 in
theorem My.hd_law (FF : ∀ (w : World) (K : PySem.W.Frag) (h : Heap) (mg : Str → Option Value) (fa : Addr), K.In h → h.Ns mainGlobals mg → mg "law" = some (.ref fa) → My.hdObs K = My.hdVal w →
    ∃ fd : FuncData, (∀ (s : Shared) (v : Value), BindsTo s fd ⟨[v], []⟩ [("_law_script", v)]) ∧ ∀ base : Heap, K.In base → base.Ns mainGlobals mg → FnOk PySem.Challenge.rw_everyangle_k31_programs_that_are_not_sho.prog w K mg base CX0 33 fa fd ["_law_script"] (My.spLaw K)) : PySem.Challenge.rw_everyangle_k31_programs_that_are_not_sho.Holds := by
  w_on; o_law
  refine HandSHeadRun.head_any (r := PySem.W.OpenLaw.row PySem.Challenge.rw_everyangle_k31_programs_that_are_not_sho) (q := My.hdQ) (H := My.hdHook) (ob := My.hdOb) (M := 9000) (loose := My.hdL) (d := HandSHeadRun.topDef (PySem.W.OpenLaw.row PySem.Challenge.rw_everyangle_k31_programs_that_are_not_sho).prog 69) (kwd := []) My.hdOb_eq
    (by kernel_rfl) (fun s => by kernel_rfl) My.hdRun (by kernel_rfl) (by kernel_rfl) (by kernel_rfl) (by rfl) (by first | assumption | decide +kernel) (by decide +kernel) ⟨rfl, rfl, rfl, rfl, rfl, by decide +kernel⟩ ?hw ?hc
  case hw => w_witness2
  case hc =>
    refine L2.walk_ofE (l := PySem.Challenge.rw_everyangle_k31_programs_that_are_not_sho) (n := 63) (k := 33) (x := "_law_script") (CX := L2.CX0) rfl (by decide) (by kernel_rfl) ⟨rfl, by decide, by decide⟩ ?F (fun _ _ _ _ z => z)
    intro w mg fa h Y G hmg0
    obtain ⟨K, KX, c⟩ := Y
    have hmg : mg ("law" : PySem.Str) = some (.ref fa) := by
      have e : (HandSHeadRun.topDef (PySem.W.OpenLaw.row PySem.Challenge.rw_everyangle_k31_programs_that_are_not_sho).prog 69).name = ("law" : PySem.Str) := by kernel_rfl
      rw [← e]
      exact hmg0
    obtain ⟨fd, hb, hF⟩ := FF w K h mg fa KX G hmg c
    exact ⟨K, fd, My.spLaw K, KX, hb, fun H a ns hl _ hS => ⟨a, ns, rfl, hS, hl, fun _ => rfl⟩, hF⟩

set_option Elab.async false
set_option linter.all false
set_option maxRecDepth 100000
namespace My
open PySem PySem.Spec PyProof.Rows L2
/-! ### methods of own classes, by their names -/
structure HasM (P : Program) (w : World) (K : PySem.W.Frag) (mg : Str → Option Value) (base : Heap) (C : Addr) (m : Str) (k : Nat) (ps : List Str) (sp : Sp) : Prop where
  ex : ∃ f fd, FnOk P w K mg base CX0 k f fd ps sp ∧ Meth K C m f ∧ Binds K fd ps []
theorem HasM.mono {P : Program} {w : World} {K : PySem.W.Frag} {mg : Str → Option Value} {base : Heap} {C : Addr} {m : Str} {j k : Nat} {ps : List Str} {sp : Sp} (h : HasM P w K mg base C m j ps sp) (hk : j ≤ k) : HasM P w K mg base C m k ps sp := by
  obtain ⟨f, fd, F, a, b⟩ := h.ex
  exact ⟨f, fd, F.mono hk, a, b⟩
section
variable {X : Cx} {pins : List (Addr × Obj)} {σ : L2.St} {H : Hp} {s : Shared} {Q : VK} {C : Addr} {m : Str} {k : Nat} {ps : List Str} {sp : Sp} {f : Addr} {fd : FuncData}
theorem run_m1 (F : FnOk X.prog X.w X.K X.mg X.base CX0 k f fd ps sp) (b : Binds X.K fd ps []) (hr : Room (k + 1) X.A) (I : Inv X pins σ H s) {us : List Value} {vs : List V} (r : Vals vs us) (q : sp vs H Q E0) : wpAny (model X.prog X.w) X.A.in1 (call (.ref f) us) (EP X pins σ Q) X.xe s := by
  have hl : us.length = ps.length := by rw [← r.length]; exact F.len _ _ _ _ q
  refine wpAny_call (codeAny_mono (F.run X.A.in1 X.stack s H ⟨us, []⟩ us vs Q E0 hr.in1 I.env0.in1 (by simpa using b s us I.kIn (by simpa using hl)) r q) fun r s' hq => ?_)
  cases r with
  | error e => exact (pass0 (X := X)) pins σ H s e s' I hq
  | ok fl =>
    cases fl with
    | ret u => exact I.after hq
    | next => exact False.elim hq
    | brk => exact False.elim hq
    | cont => exact False.elim hq
/-! ### the types of all values, own errors too -/
structure ExcTy (K : PySem.W.Frag) (D : Addr) : Prop where
  ga : PySem.W.findIn K (.ref D) "__getattribute__" = some (some (.builtin "BaseException.__getattribute__"))
  gt : PySem.W.findIn K (.ref D) "__getattr__" = some none
  sub : PySem.W.subIn K (.ref D) (.type "BaseException") = some true
  dct : PySem.W.hasDictIn K D = true
  cl : PySem.W.findIn K (.ref D) "__class__" = some (some (.builtin "object.__class__"))
  cn : PySem.W.specialIn K (.builtin "object.__class__") "__get__" = some (some (.builtin "getset_descriptor.__get__"))
  ct : PySem.W.takesIn K (.builtin "object.__class__") = some true
  mr : PySem.W.mroIn K D (.type "object") = some true
/-- a caught exception, held as a value -/
def ExV (cls : Value) (d : Option Addr) (a : Addr) : HO := .ext fun h => ∃ (oe : Obj) (vs : Array Value), h.get? a = some oe ∧ Zc cls d oe ∧ oe.data = .fields vs
inductive TyE (K : PySem.W.Frag) (H : Hp) : V → Value → Prop where
  | x {y : V} {t : Value} (h : TyX K H y t) : TyE K H y t
  | exc {p D : Addr} (h : H p = some (ExO (.ref D) p)) (F : ExcTy K D) : TyE K H (.ref p) (.ref D)
  | exv {p D : Addr} (h : H p = some (ExV (.ref D) none p)) (F : ExcTy K D) : TyE K H (.ref p) (.ref D)
  | exd {p D dd : Addr} {fs : List (Str × V)} (h : H p = some (ExV (.ref D) (some dd) p)) (hd : H dd = some (.xd fs)) (F : ExcTy K D) : TyE K H (.ref p) (.ref D)
theorem kit_ofE {y : V} {u t : Value} (I : Inv X pins σ H s) (ry : RelV y u) (ty : TyE X.K H y t) : ∃ P : Heap → Prop, PySem.W.KitX X.K u t P ∧ P s.heap ∧ u ≠ .builtin "__main__.__loader__#opaque" := by
  cases ty with
  | x h => exact kit_of I ry h
  | @exc p D h F =>
    cases ry
    obtain ⟨⟨oe, vs, e, z, d, _⟩, _, _⟩ := I.hok p _ h
    obtain ⟨z1, z2⟩ := z
    have J : PySem.W.InstAt s.heap p oe D none := ⟨e, z1, by unfold PySem.W.notCls; rw [d], by rw [z2]; trivial⟩
    exact ⟨_, PySem.W.handS_kitx_exc F.ga F.gt F.sub F.dct F.cl F.cn F.ct F.mr, J, fun z => nomatch z⟩
  | @exv p D h F =>
    cases ry
    obtain ⟨⟨oe, vs, e, z, d⟩, _, _⟩ := I.hok p _ h
    obtain ⟨z1, z2⟩ := z
    have J : PySem.W.InstAt s.heap p oe D none := ⟨e, z1, by unfold PySem.W.notCls; rw [d], by rw [z2]; trivial⟩
    exact ⟨_, PySem.W.handS_kitx_exc F.ga F.gt F.sub F.dct F.cl F.cn F.ct F.mr, J, fun z => nomatch z⟩
  | @exd p D dd fs h hd F =>
    cases ry
    obtain ⟨⟨oe, vs, e, z, d⟩, _, _⟩ := I.hok p _ h
    obtain ⟨z1, z2⟩ := z
    have hx : ObjOk X.prog X.w H s.heap dd (.xd fs) := I.hok dd _ hd
    obtain ⟨mA, hns, _⟩ := hx
    obtain ⟨od, ho, _⟩ := lookIn_ns hns
    have J : PySem.W.InstAt s.heap p oe D (some od) := ⟨e, z1, by unfold PySem.W.notCls; rw [d], by rw [z2]; exact ho⟩
    exact ⟨_, PySem.W.kitx_exc (by obtain ⟨cd, e, _⟩ := PySem.W.any_some F.dct; rw [e]; rfl) F.ga F.gt F.sub F.cl F.cn F.ct F.mr, J, fun z => nomatch z⟩
/-- isinstance(x, c), one class -/
def rIsiE (K : PySem.W.Frag) : List V → Hp → VK → Prop := fun xs H Q => ∃ (x c : V) (t u : Value) (b : Bool), xs = [x, c] ∧ ClsV c u ∧ TyE K H x t ∧ PySem.W.kitOne K t u = some b ∧ Q (.bl b) H
theorem call_isiE : CallR X (.builtin "isinstance") (rIsiE X.K) := by
  intro pins s σ H xs us Q I r h
  obtain ⟨x, c, t, u, b, rfl, hc, ty, e, q⟩ := h
  obtain ⟨v, w, rfl, rv, rw'⟩ := vals2 r
  cases hc.eq rw'
  obtain ⟨P, k, hP, ne⟩ := kit_ofE I rv ty
  exact PySem.W.kia_one k I.kIn hP e ne fun tk => ⟨.bl b, H, I.tok _, rfl, q⟩
/-- isinstance(x, (c1, c2, ..)) -/
def rIsiTE (K : PySem.W.Frag) : List V → Hp → VK → Prop := fun xs H Q => ∃ (x : V) (tp : Addr) (cs : List V) (t : Value) (us : List Value) (b : Bool), xs = [x, .ref tp] ∧ H tp = some (.tup cs) ∧ Paired ClsV cs us ∧ TyE K H x t ∧ PySem.W.kitAny K t us = some b ∧ Q (.bl b) H
theorem call_isiTE : CallR X (.builtin "isinstance") (rIsiTE X.K) := by
  intro pins s σ H xs us Q I r h
  obtain ⟨x, tp, cs, t, ws, b, rfl, hT, k, ty, e, q⟩ := h
  obtain ⟨u1, u2, rfl, r1, r2⟩ := vals2 r
  cases (show u2 = Value.ref tp from r2)
  obtain ⟨P, Z, p, hx⟩ := kit_ofE I r1 ty
  obtain ⟨_, its, rv, o, h1, h2, n, h3⟩ := (show ObjOk X.prog X.w H s.heap tp (.tup cs) from I.hok tp _ hT)
  have e3 := ClsV.all k rv
  subst e3
  obtain ⟨oc, od, dt, sl⟩ := o
  simp only at h2 h3
  subst h2 h3
  exact PySem.W.kia_tup Z I.kIn p h1 e hx fun tk => ⟨.bl b, H, I.tok tk, rfl, q⟩
/-- len(x) -/
def rLenOwn (C : Addr) (sp : Sp) : List V → Hp → VK → Prop := fun xs H Q => ∃ a dx fs, xs = [.ref a] ∧ H a = some (.ins C dx fs) ∧ sp [.ref a] H (fun v H' => ∃ n : Nat, v = .int n ∧ n ≤ 16000000 ∧ Q v H') E0
theorem call_lenOwn (h : HasM X.prog X.w X.K X.mg X.base C "__len__" k ps sp) (hr : Room (k + 1) X.A) : CallR X (.builtin "len") (rLenOwn C sp) := by
  intro pins s σ H xs us Q I r q
  obtain ⟨f, fd, F, M, b⟩ := h.ex
  obtain ⟨a, dx, fs, rfl, ha, q⟩ := q
  obtain ⟨u, rfl, ru⟩ := r.one
  cases ru
  obtain ⟨mA, O, _⟩ := ins_get I.hok ha
  obtain ⟨od, J, _⟩ := O.look
  obtain ⟨m', hF⟩ := I.fr
  refine PySem.W.len_K hF I.ok.mod.kin J M.at_ M.fn ?_
  refine wpAny_mono (run_m1 (vs := [.ref a]) F b hr I (.cons rfl .nil) q) (fun w s' z => ?_) fun _ _ x => x
  obtain ⟨z, H', I', rz, n, rfl, hn, qz⟩ := z
  obtain ⟨t, rfl⟩ := (show ∃ t, w = Value.int n t from rz)
  exact ⟨⟨by omega, by omega⟩, .int n, H', I'.tok _, ⟨_, rfl⟩, qz⟩
end
end My

set_option Elab.async false
set_option linter.all false
set_option maxRecDepth 100000
namespace My
open PySem PySem.Spec PyProof.Rows L2
/-! ### a def called with fewer values than it has parameters -/
structure HasD (P : Program) (w : World) (K : PySem.W.Frag) (mg : Str → Option Value) (base : Heap) (x : Str) (k : Nat) (ps : List Str) (sp : Sp) (dvs : List V) : Prop where
  ex : ∃ f fd ds, FnOk P w K mg base CX0 k f fd ps sp ∧ mg x = some (.ref f) ∧ PySem.W.keepIn K (.ref f) = true ∧ Binds K fd ps ds ∧ Vals dvs ds
section
variable {X : Cx} {k : Nat} {ps : List Str} {sp : Sp} {x : Str} {p pos : Pos} {e : Expr} {es : List Expr} {t : TA} {dvs : List V}
theorem pe_callHD (h : HasD X.prog X.w X.K X.mg X.base x k ps sp dvs) (hr : Room k X.A) (ha : PA X (e :: es) t) (hg : Gl X x := by rfl) (hdb : (x == ("__debug__" : Str)) = false := by decide)
   (hs : starEach (e :: es) X.env = (false, eval e X.env) :: starEach es X.env := by rfl) (hplain : (backTo pos (starEach es X.env)).any (·.1) = false := by rfl) :
   PE X (.Call (.Name x p) (e :: es) [] pos) (tCall sp dvs E0 t) := by
  obtain ⟨f, fd, ds, F, a, b, c, d⟩ := h.ex
  exact pe_call F hr hg a b c d pass0 ha hdb hs hplain
end
theorem r_callD {sp : Sp} {E : XK} {t : TA} {d : V} {ds : List V} {σ : L2.St} {H : Hp} {Q : VK} (q : t σ H fun vs H1 => sp (vs ++ d :: ds) H1 Q E) : tCall sp (d :: ds) E t σ H Q := q
theorem r_rep {l : Addr} {k : Int} {xs : List V} {H : Hp} {Q : VK} (h : H l = some (.lst xs)) (h1 : 0 ≤ k) (h2 : k < 2 ^ 63) (hz : xs.length * k.toNat ≤ 16000000)
    (q : ∀ p, H p = none → Q (.ref p) (upd H p (.lst (List.replicate k.toNat xs).flatten))) : rRep (.ref l) (.int k) H Q := ⟨l, k, xs, rfl, rfl, h, by omega, h2, Nat.le_trans hz (by decide), q⟩
theorem PrAt.times {H : Hp} {p : Prog} {xs : List V} (h : PrAt H p xs) : ∀ n, PrAt H (Prog.times n p) (List.replicate n xs).flatten
  | 0 => rfl
  | n + 1 => by
    rw [List.replicate_succ, List.flatten_cons]
    exact h.app (h.times n)
def rAbs : List V → Hp → VK → Prop := fun xs H Q => ∃ i, xs = [.int i] ∧ Q (.int (if i < 0 then -i else i)) H
theorem call_absA {X : Cx} : CallR X (.builtin "abs") rAbs := call_abs
theorem r_abs {i : Int} {H : Hp} {Q : VK} (q : Q (.int (if i < 0 then -i else i)) H) : rAbs [.int i] H Q := ⟨i, rfl, q⟩
section
variable {σ : L2.St} {H : Hp} {K : PySem.W.Frag} {D : Ends} {tb : TS} {g : TG} {a : Addr} {xs : List V} {p : Prog}
/-- for command in a list of commands -/
theorem u_forPrL (h : H a = some (.lst xs)) (hp : PrAt H p xs) (I : Prog → L2.St → Hp → Prop) (h0 : I p σ H) (hk : ∀ r σ H', I r σ H' → Tk H H' ∧ H' a = some (.lst xs))
    (hs : ∀ x r r' σ H', First H' r x r' → I r σ H' → g x σ H' fun σ2 H2 => tb { D with nx := I r', ct := I r', bk := D.nx } σ2 H2) (hd : ∀ σ H', I .nil σ H' → D.nx σ H') :
    ∃ b, V.ref a = .ref b ∧ (∃ xs, SqL K H b xs) ∧ ∃ W : Nat → Nat → L2.St → Hp → Prop, (∃ m, W 0 m σ H) ∧ ∀ i m σ H, W i m σ H →
      ((Itl K b).stop i H ∧ D.nx σ H) ∨ ((Itl K b).go i H ∧ ∃ N : L2.St → Hp → Prop, (∀ σ' H', N σ' H' → ∃ m', m' < m ∧ W (i + 1) m' σ' H') ∧ ∀ x H', (Itl K b).yld i H x H' → g x σ H' fun σ2 H2 => tb { D with nx := N, ct := N, bk := D.nx } σ2 H2) := by
  refine ⟨a, rfl, ⟨xs, .of h⟩, ⟨fun i m σ' H' => m = xs.length - i ∧ i ≤ xs.length ∧ ∃ r, PrAt H r (xs.drop i) ∧ I r σ' H', ⟨xs.length, by simp, Nat.zero_le _, p, hp, h0⟩, ?_⟩⟩
  rintro i m σ' H' ⟨rfl, hi, r, hr, ir⟩
  have hT : SqL K H' a xs := .of (hk _ _ _ ir).2
  by_cases hlt : i < xs.length
  · have hx : xs[i]? = some xs[i] := List.getElem?_eq_getElem hlt
    rw [drop_cons hx] at hr
    obtain ⟨r', f, hr'⟩ := hr.first
    refine .inr ⟨⟨xs, xs[i], hT, hx⟩, I r', fun σ2 H2 q => ⟨_, by omega, rfl, hlt, r', hr', q⟩, fun x H2 hy => ?_⟩
    obtain ⟨rfl, fx⟩ := hy
    have ex : x = xs[i] := Option.some.inj ((fx xs hT).symm.trans hx)
    subst ex
    exact hs _ r r' _ _ (f.tk (hk _ _ _ ir).1) ir
  · have e : i = xs.length := by omega
    subst e
    rw [List.drop_length] at hr
    have hn : r = .nil := by
      cases r with
      | nil => rfl
      | step w n r => obtain ⟨c, zs, e, _⟩ := hr; cases e
      | turn k r => obtain ⟨c, zs, e, _⟩ := hr; cases e
      | rep k b r => obtain ⟨c, q, zs, ws, e, _⟩ := hr; cases e
      | mir b r => obtain ⟨c, q, zs, ws, e, _⟩ := hr; cases e
    subst hn
    exact .inl ⟨⟨xs, hT, Nat.le_refl _⟩, hd _ _ ir⟩
end
section
variable {P : Program} {w : World} {K : PySem.W.Frag} {mg : Str → Option Value} {base : Heap} {x qual : Str} {params : Arguments} {body : List Stmt} {scope : Scope} {dvs : List V} {kws : List (Str × V)} {f : Addr} {fd : FuncData}
theorem okD {N ps : List Str} {k : Nat} {sp : Sp} (F : FunD K x qual params body scope dvs kws f fd) (S : FnScope N ps scope) (len : ∀ vs H Q E, sp vs H Q E → vs.length = ps.length)
    (hbody : ∀ (cdv : Value) (A : Around) (outer : List Env) (s : Shared) (H : Hp) (vs : List V) (Q : VK) (E : XK), Room k (A.deeper (envOfC qual scope s.heap.objs.size f cdv)) → sp vs H Q E →
      ∃ t, PSs (cxOf CX0 P w K mg base N qual scope f cdv A outer s H E).nox body t ∧ t { nx := fun _ H' => Q .non H', rt := Q } (start N vs) H) : FnOk P w K mg base CX0 (k + 1) f fd ps sp :=
  F.ok S len fun cdv A outer s H vs Q E hr h => let ⟨t, h, q⟩ := hbody cdv A outer s H vs Q E hr h; ⟨t, h.nox, q⟩
end
/-! ### short programs -/
namespace Prog
/-- no heading on the way of a flat program leaves -12 .. 12 -/
def wayOk : Int → Prog → Bool
  | _, .nil => true
  | n, .step _ _ r => wayOk n r
  | n, .turn k r => if n + k > 12 ∨ n + k < -12 then false else wayOk (n + k) r
  | _, .rep _ _ _ => true
  | _, .mir _ _ => true
def short (p : Prog) : Bool := if p.size > 200 then false else wayOk 0 (unroll 1 p)
end Prog
end My

set_option Elab.async false
set_option linter.all false
set_option maxRecDepth 100000
namespace My
open PySem PySem.Spec PyProof.Rows L2
theorem r_slA {K : PySem.W.Frag} {p : Addr} {xs : List V} {lo hi : Option Int} {H : Hp} {Q : VK} (h : SqT K H p xs) (q1 : HT.sIx xs.length 0 lo = 0 ∧ HT.sIx xs.length xs.length hi = xs.length → Q (.ref p) H)
   (q2 : ¬ (HT.sIx xs.length 0 lo = 0 ∧ HT.sIx xs.length xs.length hi = xs.length) → ∀ c, H c = none → Q (.ref c) (upd H c (.tup (cutV xs lo hi)))) : rSlA K (.ref p) lo hi H Q := ⟨p, xs, rfl, h, q1, q2⟩
theorem r_slAT {K : PySem.W.Frag} {p : Addr} {xs : List V} {m : Int} {n : Nat} {H : Hp} {Q : VK} (h : H p = some (.tup xs)) (e : m = (n : Int)) (q : ∀ c H', Same H H' → H' c = some (.tup (xs.take n)) → Q (.ref c) H') : rSlA K (.ref p) none (some m) H Q := by
  subst e
  refine r_slA (.of h) (fun hw => ?_) (fun _ c hc => ?_)
  · have h2 := hw.2
    rw [HT.sIx_nat] at h2
    exact q p H (Same.refl _) (by rw [List.take_of_length_le (by omega)]; exact h)
  · exact q c _ (Same.new0 hc) (by rw [cut_take]; exact upd_same)
end My

set_option Elab.async false
set_option linter.all false
set_option maxRecDepth 100000
namespace My
open PySem PySem.Spec PyProof.Rows L2
section
variable {H : Hp} {Q : VK} {K : PySem.W.Frag}
theorem r_catAT {a b : Addr} {xs ys : List V} (h : H a = some (.tup xs)) (h' : H b = some (.tup ys)) (l : xs.length + ys.length ≤ 100000) (q : ∀ c H', Same H H' → H' c = some (.tup (xs ++ ys)) → Q (.ref c) H') : rCatA K (.ref a) (.ref b) H Q := by
  refine ⟨a, b, xs, ys, rfl, rfl, .of h, .of h', small_of l, fun e => ?_, fun _ e => ?_, fun _ _ c hc => q c _ (Same.new0 hc) upd_same⟩
  · subst e
    exact q b H (Same.refl _) h'
  · subst e
    exact q a H (Same.refl _) (by rw [List.append_nil]; exact h)
def rIsN : R2 := fun x y H Q => y = .non ∧ Q (.bl (decide (x = .non))) H
theorem op_isNN {X : Cx} : OpR X (compareOp .Is) rIsN := op_isN
theorem r_isNN (q : Q (.bl true) H) : rIsN .non .non H Q := ⟨rfl, by rw [decide_eq_true rfl]; exact q⟩
end
namespace Prog
theorem head_flat {L : Nat} {C T : Int} : ∀ {p : Prog}, WfL L C T 0 p → p.head = p.turns.sum
  | .nil, _ => by rw [head, turns]; rfl
  | .step w n r, h => by rw [head, turns]; exact head_flat (WfL.step_iff.mp h).2.2
  | .turn k r, h => by rw [head, turns, List.sum_cons, head_flat (WfL.turn_iff.mp h).2]
  | .rep _ _ _, h => h.elim
  | .mir _ _, h => h.elim
end Prog
end My

set_option Elab.async false
set_option linter.all false
set_option maxRecDepth 100000
set_option maxHeartbeats 2000000
namespace My
open PySem PySem.Spec PyProof.Rows L2
/-! ### a caught exception, held as a value -/
theorem exV_ok {P : Program} {w : World} {H : Hp} {h : Heap} {a : Addr} {cls : Value} {d : Option Addr} {oe : Obj} {vs : Array Value} (e : h.get? a = some oe) (z : Zc cls d oe) (q : oe.data = .fields vs) : ObjOk P w H h a (ExV cls d a) :=
  ⟨⟨oe, vs, e, z, q⟩, ⟨oe, e⟩, fun _ _ ⟨o, v, q, r⟩ k => ⟨o, v, k o q, r⟩⟩
theorem Un.hold {fs ex : List Addr} {H0 H : Hp} {h0 h : Heap} {a : Addr} {o : HO} (u : Un fs ex H0 H h0 h) (n0 : h0.get? a = none) (n : H a = none) : Un fs ex H0 (upd H a o) h0 h where
  keep := u.keep
  slot := u.slot
  free := fun b ob e nb hx => by rw [upd_ne (fun z => by rw [z, n0] at e; cases e)]; exact u.free b ob e nb hx
  there := u.there
  tups := fun b xs e => (upd_ne (ne_of_none (u.tups b xs e) n)).trans (u.tups b xs e)
  frzs := fun b ob x e => (upd_ne (ne_of_none (u.frzs b ob x e) n)).trans (u.frzs b ob x e)
  tbls := fun b ps e => let ⟨m, q⟩ := u.tbls b ps e; ⟨m, (upd_ne (ne_of_none q n)).trans q⟩
theorem Inv.hold {X : Cx} {pins : List (Addr × Obj)} {σ : L2.St} {H : Hp} {s : Shared} {a : Addr} {oe : Obj} {vs : Array Value} {cls : Value} {d : Option Addr} (I : Inv X ((a, oe) :: pins) σ H s) (hz : Zc cls d oe) (hd : oe.data = .fields vs) (n0 : X.s_0.heap.get? a = none) (np : ∀ p ∈ X.pn ++ pins, p.1 ≠ a) :
    Inv X pins σ (upd H a (ExV cls d a)) s := by
  obtain ⟨ea, na, nl, nf, nc⟩ := I.pin (a, oe) (List.mem_append_right _ List.mem_cons_self)
  refine ⟨I.ok, I.os, I.bare, Un.hold I.base n0 na, I.loc, I.cell, (upd_ne (Ne.symm nl)).trans I.free, fun x c e => ?_, fun p hp => ?_, ?_, I.len⟩
  · have hc : c ≠ a := fun z => by
      obtain ⟨v, o, ho, hd'⟩ := I.cell x c e
      rw [z, ea] at ho
      cases ho
      exact nc v hd'
    exact (upd_ne hc).trans (I.freeC x c e)
  · have hm : p ∈ X.pn ++ (a, oe) :: pins := by
      rcases List.mem_append.mp hp with h | h
      · exact List.mem_append_left _ h
      · exact List.mem_append_right _ (List.mem_cons_of_mem _ h)
    obtain ⟨e1, e2, e3⟩ := I.pin p hm
    exact ⟨e1, (upd_ne (np p hp)).trans e2, e3⟩
  · exact HOk.laidN I.hok (fun _ _ q => q) na (exV_ok ea hz hd)
/-- what the clause 'except x as n' wishes of an exception of the body: slot i is n's; behind the suite the exception is held -/
def wHeld (K : PySem.W.Frag) (c : Value) (i : Nat) (ts : Addr → Value → Option Addr → TS) (Wout : WX) (D : Ends) : WX := fun cls d σ H =>
  ∃ b, PySem.W.exmOne K cls c = some b ∧ (b = true → ∀ a, H a = none → ts a cls d { nx := fun σ' H' => H' a = none → D.nx (σ'.set i none) (upd H' a (ExV cls d a)), rt := D.rt, bk := fun σ' H' => D.bk (σ'.set i none) H', ct := fun σ' H' => D.ct (σ'.set i none) H' } (σ.set i (some (.ref a))) H) ∧
    (b = false → Wout cls d σ H)
section
variable {X : Cx} {x n : Str} {c : Value} {i : Nat} {body suite : List Stmt} {b₀ : Stmt} {np pos pos' : Pos} {tb : WX → TS} {ts : Addr → Value → Option Addr → TS} {Wout : WX}
theorem ps_try_held (hs : X.stack = X.env :: X.outer) (hf : X.env.frame = some X.env.locals) (hex : X.ex = []) (hN : X.N.Nodup) (hi : X.N[i]? = some n) (hln : X.env.kindOf n = some .local) (hc : L2.Names X x c) (tk : Takes X Wout)
    (hb : ∀ (W : WX) (pn : List (Addr × Obj)) (xe : Value → Shared → Prop), Takes (X.tr pn xe) W → PassesOwn (model X.prog X.w) X.A X.env xe → PSs (X.tr pn xe) body (tb W))
    (hsu : ∀ (a : Addr) (oe : Obj) (cls : Value) (d : Option Addr) (pn : List (Addr × Obj)), Zc cls d oe → (∃ vs, oe.data = .fields vs) → PSs (X.suite a ((a, oe) :: pn)) (b₀ :: suite) (ts a cls d)) :
    PS X (.Try body [.ExceptHandler (some (.Name x np)) (some n) (b₀ :: suite) pos'] [] [] pos) (fun D σ H => tb (wHeld X.K c i ts Wout D) D σ H) := by
  refine ⟨fun pins s σ H D I h => ?_⟩
  have ok := I.ok
  have hfr : X.A.frames = some (X.env :: X.outer) := by rw [ok.frames, hs]
  have hloc : Loc X.env.scope n := .inl hln
  refine wpAny_Try_except ?_
  refine wpAny_mono ((hb (wHeld X.K c i ts Wout D) (X.pn ++ pins) (fun e s₁ => wpAny (model X.prog X.w) X.A (noteFrame e X.env) (fun _ s₂ => wpAny (model X.prog X.w) X.A (setFlight e none) (fun _ s₃ =>
    wpAny (model X.prog X.w) X.A (handleBy e X.env [.ExceptHandler (some (.Name x np)) (some n) (b₀ :: suite) pos']) (SP X pins D) X.xe s₃) X.xe s₂) X.xe s₁) (fun u s' xx => ?_) PassesOwn.looking).run [] s σ H D (I.toTry _) h) (fun f s1 hsp => ?_) (fun e s1 he => he)
  · obtain ⟨a, B, sI, pins', σ', H', cls, d, rfl, J', nb, up, sky, na, os, ag, b, hb1, hyes, hno⟩ := xx
    have J : Inv X pins σ' H' sI := J'.ofTry ok
    have sky' : Sky B (X.env :: X.outer) a (Zc cls d) X.env.locals s'.heap := by rw [← hs]; exact sky
    have nB : B.get? a = none := by
      rcases sky with ⟨_, hn, _⟩ | ⟨_, hn, _⟩ | ⟨_, hn, _⟩ <;> exact hn
    show wpAny (model X.prog X.w) X.A (noteFrame (.ref a) X.env) _ _ _
    refine Sky.land Zc.steady hfr hf sky' fun h3 fl3 up3 => ?_
    have J3 : Inv X pins σ' H' { s' with heap := h3 } := J.landed nb fl3.1 (up.trans up3) os ag
    obtain ⟨oe3, vs3, he3, hz3, hd3⟩ := fl3.there
    have notFr : ∀ {h : Heap} {o : Obj} {vs : Array Value}, h.FunFrames B (X.env :: X.outer) → h.get? a = some o → o.data = .fields vs → a ∉ frs (X.env :: X.outer) := fun {h o vs} ff e dd hm => by
      obtain ⟨_, o', e', hnf⟩ := ff.mem hm
      rw [e] at e'; cases e'
      exact hnf _ dd
    have nfr := notFr fl3.2.2.1 he3 hd3
    have nI : sI.heap.get? a = none := by
      cases q : sI.heap.get? a with
      | none => rfl
      | some o =>
        have z := nb a o q (by rw [hs]; exact nfr)
        rw [nB] at z; cases z
    have n0 : X.s_0.heap.get? a = none := by
      cases q : X.s_0.heap.get? a with
      | none => rfl
      | some o =>
        obtain ⟨o', z⟩ := J.base.there a o q (by rw [hex]; exact fun z => nomatch z)
        rw [nI] at z; cases z
    have npn : ∀ p ∈ X.pn ++ pins, p.1 ≠ a := fun p hp z => by
      have q := (J.pin p hp).1
      rw [z, nI] at q; cases q
    have nL : a ≠ X.env.locals := fun z => nfr (List.mem_filterMap.mpr ⟨X.env, List.mem_cons_self, by rw [hf, z]⟩)
    have nF : a ∉ X.fs := fun hm => by
      obtain ⟨e, he, q⟩ := List.mem_filterMap.mp hm
      exact nfr (List.mem_filterMap.mpr ⟨e, List.mem_cons_of_mem _ he, q⟩)
    have S3 := J3.suite he3 hd3 na nL nF
    refine wpAny_handleBy_cons (codeAny_handlers_test ?_) (by intro q; cases q)
    have LT : PySem.W.Looks (model X.prog X.w) h3 (typeOf (.ref a)) cls := fun A Q E s k q => wpAny_typeOf_ref (k _ _ he3) (by rw [hz3.1]; exact q)
    have LM := PySem.W.exm_one (M := model X.prog X.w) (J3.kIn) LT hb1
    have test : ∀ {Q : Value → Shared → Prop} {E : Value → Shared → Prop}, Q c { s' with heap := h3 } → wpAny (model X.prog X.w) (X.A.mark (some (.ref a))) (eval (.Name x np) X.env) Q E { s' with heap := h3 } := fun {Q E} q => by
      obtain ⟨hg, hdbg, hm | ⟨hm, hv, hnn⟩⟩ := hc
      · exact ld_glob (X := X.suite a ((a, oe3) :: (X.pn ++ pins))) S3 hg hm q hdbg
      · exact ld_blt (X := X.suite a ((a, oe3) :: (X.pn ++ pins))) S3 hg hm hv q hnn hdbg
    refine test (LM.here ?_)
    cases b with
    | true =>
      refine codeAny_handlers_suite_as ?_
      refine HandSPX.lands_againZ fl3 fun h4 fl4 up4 => ?_
      have J4 : Inv X pins σ' H' { s' with heap := h4 } := J.landed nb fl4.1 ((up.trans up3).trans up4) os ag
      obtain ⟨oe4, vs4, he4, hz4, hd4⟩ := fl4.there
      have S4 := J4.suite he4 hd4 na nL nF
      refine store_ok (X := X.suite a ((a, oe4) :: (X.pn ++ pins))) (v := .ref a) S4 hN hi hloc rfl (fun s5 S5 => ?_) (.inr hln)
      refine wpAny_mono ((hsu a oe4 cls d (X.pn ++ pins) hz4 ⟨_, hd4⟩).run [] s5 _ H' _ S5 (hyes rfl a na)) (fun f s6 hsp => ?_) (fun _ _ z => False.elim z)
      have end_ : ∀ {σ6 : L2.St} {H6 : Hp} {Q : Shared → Prop}, Inv (X.suite a ((a, oe4) :: (X.pn ++ pins))) [] σ6 H6 s6 → (∀ s7, Inv X ((a, oe4) :: pins) (σ6.set i none) H6 s7 → Q s7) →
          wpAny (model X.prog X.w) X.A (do bindName X.env n .none; unbindBehindTheSuite X.env n pos') (fun _ s7 => Q s7) X.xe s6 := fun {σ6 H6 Q} S6 hq => by
        have J6 : Inv X ((a, oe4) :: pins) σ6 H6 s6 := ⟨ok, S6.os, S6.bare, S6.base, S6.loc, S6.cell, S6.free, S6.freeC, fun p hp => S6.pin p (by
          rw [List.append_nil]
          rcases List.mem_append.mp hp with h | h
          · exact List.mem_cons_of_mem _ (List.mem_append_left _ h)
          · rcases List.mem_cons.mp h with h | h
            · rw [h]; exact List.mem_cons_self
            · exact List.mem_cons_of_mem _ (List.mem_append_right _ h)), S6.hok, S6.len⟩
        exact gone_ok J6 hN hi hln hq
      have drop : ∀ {σ7 : L2.St} {H7 : Hp} {s7 : Shared}, Inv X ((a, oe4) :: pins) σ7 H7 s7 → Inv X pins σ7 H7 s7 := fun J7 => ⟨J7.ok, J7.os, J7.bare, J7.base, J7.loc, J7.cell, J7.free, J7.freeC, fun p hp => J7.pin p (by
          rcases List.mem_append.mp hp with h | h
          · exact List.mem_append_left _ h
          · exact List.mem_append_right _ (List.mem_cons_of_mem _ h)), J7.hok, J7.len⟩
      cases f with
      | next =>
        obtain ⟨σ6, H6, S6, q6⟩ := hsp
        exact end_ S6 fun s7 J7 => ⟨_, _, Inv.hold J7 hz4 hd4 n0 npn, q6 (J7.pin (a, oe4) (List.mem_append_right _ List.mem_cons_self)).2.1⟩
      | brk =>
        obtain ⟨σ6, H6, S6, q6⟩ := hsp
        exact end_ S6 fun s7 J7 => ⟨_, _, drop J7, q6⟩
      | cont =>
        obtain ⟨σ6, H6, S6, q6⟩ := hsp
        exact end_ S6 fun s7 J7 => ⟨_, _, drop J7, q6⟩
      | ret u =>
        obtain ⟨v6, σ6, H6, S6, r6, q6⟩ := hsp
        exact end_ S6 fun s7 J7 => ⟨_, _, _, drop J7, r6, q6⟩
    | false =>
      show wpAny _ X.A (handleBy (.ref a) X.env []) _ _ _
      refine wpAny_handleBy_nil ?_
      obtain ⟨k1, k2, k3, oe, vs, T, oT, ts', he, hz, hd, h1, hr⟩ := id fl3
      unfold PySem.passOn
      refine wpAny_bind (wpAny_field he hd h1 ?_)
      rw [if_neg (show ¬ ((Value.ref T == Value.none) = true) from by simp)]
      have fin : wpAny (model X.prog X.w) X.A (setFlight (.ref a) X.env.frame) (fun _ s4 => wpAny (model X.prog X.w) X.A (throw (.ref a) : Sem Flow) (SP X pins D) X.xe s4) X.xe { s' with heap := h3 } := by
        rw [hf]
        refine HandSPX.setFlight_upZ fl3 fun h4 hh4 up4 => wpAny_throw (tk _ _ ?_)
        exact ⟨a, B, sI, pins, σ', H', cls, d, rfl, J, nb, (up.trans up3).trans up4, .inr (.inr (by rw [hs]; exact hh4)), na, os, ag, hno rfl⟩
      first
        | exact wpAny_bind (wpAny_pure (wpAny_bind fin))
        | exact wpAny_bind fin
  · cases f with
    | next =>
      obtain ⟨σ', H', J', q⟩ := hsp
      exact wpAny_execs_nil ⟨σ', H', J'.ofTry ok, q⟩
    | brk =>
      obtain ⟨σ', H', J', q⟩ := hsp
      exact ⟨σ', H', J'.ofTry ok, q⟩
    | cont =>
      obtain ⟨σ', H', J', q⟩ := hsp
      exact ⟨σ', H', J'.ofTry ok, q⟩
    | ret u =>
      obtain ⟨v, σ', H', J', r, q⟩ := hsp
      exact ⟨v, σ', H', J'.ofTry ok, r, q⟩
end
/-! ### a def that may raise, by its name -/
structure HasX (P : Program) (w : World) (K : PySem.W.Frag) (mg : Str → Option Value) (base : Heap) (x : Str) (k : Nat) (ps : List Str) (sp : Sp) : Prop where
  ex : ∃ f fd, FnOk P w K mg base (L2.CX P w) k f fd ps sp ∧ mg x = some (.ref f) ∧ PySem.W.keepIn K (.ref f) = true ∧ Binds K fd ps []
theorem fnOk_calm {P : Program} {w : World} {K : PySem.W.Frag} {mg : Str → Option Value} {base : Heap} {k : Nat} {f : Addr} {fd : FuncData} {ps : List Str} {sp : Sp} (F : FnOk P w K mg base (L2.CX P w) k f fd ps sp) : FnOk P w K mg base CX0 k f fd ps (fun vs H Q _ => sp vs H Q E0) :=
  ⟨fun vs H Q E q => F.len vs H Q E0 q, fun A outer s H args us vs Q E hr he hb hv hs => codeAny_mono (F.run A outer s H args us vs Q E0 hr he hb hv hs) fun r s' hq => by
    cases r with
    | error e =>
      obtain ⟨_, _, _, _, _, _, _, _, _, _, _, _, z⟩ := hq
      exact z.elim
    | ok fl => cases fl <;> exact hq⟩
theorem HasX.calm {P : Program} {w : World} {K : PySem.W.Frag} {mg : Str → Option Value} {base : Heap} {x : Str} {k : Nat} {ps : List Str} {sp : Sp} (h : HasX P w K mg base x k ps sp) : Has P w K mg base x k ps (fun vs H Q _ => sp vs H Q E0) := by
  obtain ⟨f, fd, F, a, b, c⟩ := h.ex
  exact ⟨f, fd, fnOk_calm F, a, b, c⟩
theorem Has.imp {P : Program} {w : World} {K : PySem.W.Frag} {mg : Str → Option Value} {base : Heap} {x : Str} {k : Nat} {ps : List Str} {sp sp' : Sp} (h : Has P w K mg base x k ps sp) (i : ∀ vs H Q E, sp' vs H Q E → sp vs H Q E) : Has P w K mg base x k ps sp' := by
  obtain ⟨f, fd, F, a, b, c⟩ := h.ex
  exact ⟨f, fd, F.imp i, a, b, c⟩
section
variable {X : Cx} {k : Nat} {ps : List Str} {sp : Sp} {x : Str} {p pos : Pos} {e : Expr} {es : List Expr} {t : TA} {W : WX} {σ : L2.St} {H : Hp} {Q : VK}
theorem pe_callXH (h : HasX X.prog X.w X.K X.mg X.base x k ps sp) (hr : Room k X.A) (tk : Takes X W) (ha : PA X (e :: es) t) (hg : Gl X x := by rfl) (hdb : (x == ("__debug__" : Str)) = false := by decide)
   (hs : starEach (e :: es) X.env = (false, eval e X.env) :: starEach es X.env := by rfl) (hplain : (backTo pos (starEach es X.env)).any (·.1) = false := by rfl) :
   PE X (.Call (.Name x p) (e :: es) [] pos) (tCallS sp (WE W) t) := by
  obtain ⟨f, fd, F, a, b, c⟩ := h.ex
  exact pe_callS F hr hg a b c (fun σ => passAt tk σ) ha hdb hs hplain
theorem r_callX {E : L2.St → XK} (q : t σ H fun vs H1 => sp vs H1 Q (E σ)) : tCallS sp E t σ H Q := q
end
/-! ### .. by keywords, in the parameters' order or turned round -/
def permB {α : Type} (rv : Bool) (l : List α) : List α := if rv then l.reverse else l
structure KW0 (K : PySem.W.Frag) (fd : FuncData) (ps ks : List Str) (rv : Bool) : Prop where
  to : ∀ (s : Shared) (ws : List Value), K.In s.heap → ws.length = ks.length → BindsTo s fd ⟨[], ks.zip ws⟩ (ps.zip (permB rv ws))
theorem kw0 {K : PySem.W.Frag} {fd : FuncData} {ps ks : List Str} {rv : Bool} (h : ∀ (ws : List Value), ws.length = ks.length → bindArgs fd ⟨[], ks.zip ws⟩ = pure (ps.zip (permB rv ws))) : KW0 K fd ps ks rv := ⟨fun _ ws _ hl => .of_eq (h ws hl)⟩
structure HasXK (P : Program) (w : World) (K : PySem.W.Frag) (mg : Str → Option Value) (base : Heap) (x : Str) (k : Nat) (ps ks : List Str) (rv : Bool) (sp : Sp) : Prop where
  ex : ∃ f fd, FnOk P w K mg base (L2.CX P w) k f fd ps sp ∧ mg x = some (.ref f) ∧ PySem.W.keepIn K (.ref f) = true ∧ KW0 K fd ps ks rv
theorem vals_rev : ∀ {vs : List V} {us : List Value}, Vals vs us → Vals vs.reverse us.reverse
  | _, _, .nil => .nil
  | _, _, .cons r t => by
    rw [List.reverse_cons, List.reverse_cons]
    exact Vals.append (vals_rev t) (.cons r .nil)
theorem vals_perm {vs : List V} {us : List Value} (rv : Bool) (h : Vals vs us) : Vals (permB rv vs) (permB rv us) := by
  cases rv with
  | true => exact vals_rev h
  | false => exact h
def tCallXK (sp : Sp) (rv : Bool) (E : L2.St → XK) (tk : TA) : TE := fun σ H Q => tk σ H fun zs H2 => sp (permB rv zs) H2 Q (E σ)
section
variable {X : Cx} {k : Nat} {ps ks : List Str} {rv : Bool} {sp : Sp} {x : Str} {p pos : Pos} {kws : List Keyword} {tkw : TA} {W : WX} {σ : L2.St} {H : Hp} {Q : VK}
theorem permB_len {α : Type} (rv : Bool) (l : List α) : (permB rv l).length = l.length := by cases rv <;> simp [permB]
theorem pe_callXHK (h : HasXK X.prog X.w X.K X.mg X.base x k ps ks rv sp) (hr : Room k X.A) (tk : Takes X W) (hkw : PK X kws tkw) (hk : ks.length = ps.length := by rfl) (hg : Gl X x := by rfl)
    (hall : (backToKw pos (keywordEach kws X.env)).all (·.1.isSome) = true := by rfl) (hks : (backToKw pos (keywordEach kws X.env)).filterMap (·.1) = ks := by rfl) (hdb : (x == ("__debug__" : Str)) = false := by decide)
    (hpl : ((backTo pos (starEach [] X.env)).any (·.1) || (backToKw pos (keywordEach kws X.env)).any (·.1.isNone)) = false := by rfl) : PE X (.Call (.Name x p) [] kws pos) (tCallXK sp rv (WE W) tkw) := by
  obtain ⟨f, fd, F, a, b, kb⟩ := h.ex
  refine ⟨fun pins s σ H Q I h => ?_⟩
  refine wpAny_Call_Name_kw (ld_glob I hg a ?_ hdb)
  refine PySem.W.callWith_KW0 (h₀ := X.base) I.ok.mod.kin b hall (thn (hkw.run pos pins s σ H _ I h) fun ws s2 ⟨zs, H2, I2, rz, q2⟩ => ⟨I2.kIn, ?_⟩) hpl
  rw [hks]
  have q2 : sp (permB rv zs) H2 Q (WE W σ) := q2
  have hl : ws.length = ks.length := by
    have h1 := F.len _ _ _ _ q2
    rw [permB_len] at h1
    rw [← rz.length, h1, hk]
  refine wpAny_call (codeAny_mono (F.run X.A X.stack s2 H2 ⟨[], ks.zip ws⟩ (permB rv ws) (permB rv zs) Q (WE W σ) hr I2.env0 (kb.to s2 ws I2.kIn hl) (vals_perm rv rz) q2) fun r s' hq => ?_)
  cases r with
  | error e => exact tk e s' (XE.of_call I2 (fun _ _ _ h => h) hq)
  | ok fl =>
    cases fl with
    | ret u => exact I2.after hq
    | next => exact False.elim hq
    | brk => exact False.elim hq
    | cont => exact False.elim hq
theorem r_callXK {E : L2.St → XK} (q : tkw σ H fun zs H1 => sp (permB rv zs) H1 Q (E σ)) : tCallXK sp rv E tkw σ H Q := q
end
theorem call_isiEK {X : Cx} {K : PySem.W.Frag} (h : X.K = K := by rfl) : CallR X (.builtin "isinstance") (rIsiE K) := by subst h; exact call_isiE
theorem call_isiTEK {X : Cx} {K : PySem.W.Frag} (h : X.K = K := by rfl) : CallR X (.builtin "isinstance") (rIsiTE K) := by subst h; exact call_isiTE
/-! ### own exception classes -/
structure OwnX (K : PySem.W.Frag) (mg : Str → Option Value) (x : Str) (C : Addr) : Prop where
  xi : PySem.W.excIn K C [.type "ValueError", .type "Exception", .type "BaseException", .type "object"] "ValueError.__new__" = true
  g : mg x = some (.ref C)
  k : PySem.W.keepIn K (.ref C) = true
  b : PySem.W.subIn K (.ref C) (.type "BaseException") = some true
  t : PySem.W.typeIn K (.ref C) = some (.type "type")
  e : ExcTy K C
  cs : ∃ cd, PySem.W.clsIn K C = some cd
theorem OwnX.catch {K : PySem.W.Frag} {mg : Str → Option Value} {x : Str} {C : Addr} {cls : Value} {b : Bool} (h : OwnX K mg x C) (s : PySem.W.subIn K cls (.ref C) = some b) : PySem.W.exmOne K cls (.ref C) = some b := PySem.W.exm_ref h.b h.e.dct h.t s
theorem OwnX.kit {K : PySem.W.Frag} {mg : Str → Option Value} {x : Str} {C : Addr} {cls : Value} {b : Bool} (h : OwnX K mg x C) (s : PySem.W.subIn K cls (.ref C) = some b) (ne : (cls == .ref C) = false) : PySem.W.kitOne K cls (.ref C) = some b := by
  obtain ⟨cd, e⟩ := h.cs
  unfold PySem.W.kitOne PySem.W.kitCls
  rw [ne, if_neg Bool.false_ne_true]
  show (if ((PySem.W.clsIn K C).isSome && PySem.W.typeIn K (.ref C) == some (.type "type")) = true then PySem.W.subIn K cls (.ref C) else none) = some b
  rw [e, h.t, if_pos (by simp)]
  exact s
theorem kit_own {K : PySem.W.Frag} {C : Addr} : PySem.W.kitOne K (.ref C) (.ref C) = some true := by
  unfold PySem.W.kitOne
  rw [if_pos (beq_self_eq_true _)]
/-- an own class, a built-in one -/
theorem kit_ownB {K : PySem.W.Frag} {C : Addr} {T : String} {b : Bool} (s : PySem.W.subIn K (.ref C) (.type T) = some b) (h : PySem.W.kitCls K (.ref C) (.type T) = PySem.W.subIn K (.ref C) (.type T) := by rfl) : PySem.W.kitOne K (.ref C) (.type T) = some b := by
  unfold PySem.W.kitOne
  rw [if_neg (by simp), h]
  exact s
theorem r_isiE' {K : PySem.W.Frag} {H : Hp} {Q : VK} {x c : V} {t u : Value} {b : Bool} (hc : ClsV c u) (ty : TyE K H x t) (e : PySem.W.kitOne K t u = some b) (q : Q (.bl b) H) : rIsiE K [x, c] H Q := ⟨x, c, t, u, b, rfl, hc, ty, e, q⟩
/-- a value that is no integer, or a truth -/
def NotInt (K : PySem.W.Frag) (H : Hp) (v : V) : Prop := ∃ t b1 b2, TyE K H v t ∧ PySem.W.kitOne K t (.type "int") = some b1 ∧ PySem.W.kitOne K t (.type "bool") = some b2 ∧ (b1 && !b2) = false
def NotIntS (K : PySem.W.Frag) (H : Hp) (v : V) : Prop := ∀ H', Same H H' → NotInt K H' v
theorem NotIntS.same {K : PySem.W.Frag} {H H' : Hp} {v : V} (h : NotIntS K H v) (s : Same H H') : NotIntS K H' v := fun H2 s2 => h H2 (s.trans s2)
theorem NotIntS.now {K : PySem.W.Frag} {H : Hp} {v : V} (h : NotIntS K H v) : NotInt K H v := h H (Same.refl H)
section
variable {K : PySem.W.Frag} {H : Hp}
theorem ni_bl (b : Bool) : NotIntS K H (.bl b) := fun _ _ => ⟨_, true, true, .x ty_bl, kit_ty (by decide +kernel), kit_ty (by decide +kernel), rfl⟩
theorem kit_int_int : PySem.W.kitOne K (.type "int") (.type "int") = some true := kit_ty (by decide +kernel)
theorem kit_int_bool : PySem.W.kitOne K (.type "int") (.type "bool") = some false := kit_ty (by decide +kernel)
def spIsIntT (K : PySem.W.Frag) : Sp := fun vs H Q _ => ∃ x t b1 b2, vs = [x] ∧ TyE K H x t ∧ PySem.W.kitOne K t (.type "int") = some b1 ∧ PySem.W.kitOne K t (.type "bool") = some b2 ∧ Q (.bl (b1 && !b2)) H
theorem u_isIntV {Q : VK} {E : XK} {n : Int} (q : Q (.bl true) H) : spIsIntT K [.int n] H Q E := ⟨_, _, true, false, rfl, .x ty_int, kit_int_int, kit_int_bool, q⟩
theorem u_isIntN {Q : VK} {E : XK} {v : V} (h : NotInt K H v) (q : Q (.bl false) H) : spIsIntT K [v] H Q E := by
  obtain ⟨t, b1, b2, ty, k1, k2, e⟩ := h
  exact ⟨v, t, b1, b2, rfl, ty, k1, k2, by rw [e]; exact q⟩
theorem r_isNR {Q : VK} {a : Addr} (q : Q (.bl false) H) : rIsN (.ref a) .non H Q := ⟨rfl, by rw [decide_eq_false (by intro h; cases h)]; exact q⟩
theorem r_isiTE {Q : VK} {x : V} {tp : Addr} {cs : List V} {t : Value} {us : List Value} {b : Bool} (hT : H tp = some (.tup cs)) (hc : Paired ClsV cs us) (ty : TyE K H x t) (e : PySem.W.kitAny K t us = some b) (q : Q (.bl b) H) : rIsiTE K [x, .ref tp] H Q := ⟨x, tp, cs, t, us, b, rfl, hT, hc, ty, e, q⟩
theorem kitAny_cons {t c : Value} {us : List Value} {b : Bool} (h : PySem.W.kitOne K t c = some false) (h2 : PySem.W.kitAny K t us = some b) : PySem.W.kitAny K t (c :: us) = some b := by
  unfold PySem.W.kitAny
  rw [h]
  exact h2
end
end My

set_option Elab.async false
set_option linter.all false
set_option maxRecDepth 100000
set_option maxHeartbeats 2000000
namespace My
open PySem PySem.Spec PyProof.Rows L2
/-! ### a field of an own exception that is held -/
def tFldX (C : Addr) (n : Str) (te : TE) : TE := fun σ H Q => te σ H fun x H1 => ∃ (a dd : Addr) (fs : List (Str × V)) (v : V), x = .ref a ∧ H1 a = some (ExV (.ref C) (some dd) a) ∧ H1 dd = some (.xd fs) ∧ fs.lookup n = some v ∧ Q v H1
section
variable {X : Cx} {C : Addr} {n : Str} {e : Expr} {te : TE} {pos : Pos}
theorem pe_fldX (T : XfC X.K C) (hno : PySem.W.findIn X.K (.ref C) n = some none) (he : PE X e te) (hb : attributeBase e n X.env (eval e X.env) = eval e X.env := by rfl) : PE X (.Attribute e n pos) (tFldX C n te) := by
  refine ⟨fun pins s σ H Q I h => ?_⟩
  refine attr_of hb (thn (he.run pins s σ H _ I h) fun u s1 hh => ?_)
  obtain ⟨x, H1, I1, rx, a, dd, fs, v, ex, ha, hdd, hf, q⟩ := hh
  subst ex
  obtain rfl : u = Value.ref a := rx
  obtain ⟨⟨oe, vs, ea, z, d⟩, _, _⟩ := I1.hok a _ ha
  obtain ⟨z1, z2⟩ := z
  have hx : ObjOk X.prog X.w H1 s1.heap dd (.xd fs) := I1.hok dd _ hdd
  obtain ⟨mA, hns, hr⟩ := hx
  obtain ⟨od, ho, hl⟩ := lookIn_ns hns
  obtain ⟨u, hu, ru⟩ := RelO.some_of (v := v) (o := mA n) (by rw [← hf]; exact hr n)
  have J : PySem.W.InstAt s1.heap a oe C (some od) := ⟨ea, z1, by unfold PySem.W.notCls; rw [d], by rw [z2]; exact ho⟩
  exact HandSPX.exc_get I1.kIn J T.ga T.gg T.exC (PySem.W.findObj_own T.hdC hno rfl (by rw [hl, hu])) (handed_of ru) ⟨v, H1, I1.tok _, ru, q⟩
theorem r_fldX {σ : L2.St} {H : Hp} {Q : VK} (q : te σ H fun x H1 => ∃ (a dd : Addr) (fs : List (Str × V)) (v : V), x = .ref a ∧ H1 a = some (ExV (.ref C) (some dd) a) ∧ H1 dd = some (.xd fs) ∧ fs.lookup n = some v ∧ Q v H1) : tFldX C n te σ H Q := q
end
/-! ### raising an own exception with an own __init__ -/
def spIni (C : Addr) (f : Str) : Sp := fun vs H Q _ => ∃ (a : Addr) (v : V), vs = [.ref a, v] ∧ H a = some (exo a C none) ∧ ∀ dx, H dx = none → dx ≠ a → Q .non (upd (upd H dx (exd dx [(f, v)])) a (exo a C (some dx)))
/-- the facts of such a class; its __init__ keeps one value -/
structure OwnI (P : Program) (w : World) (K : PySem.W.Frag) (mg : Str → Option Value) (base : Heap) (x : Str) (C : Addr) (f : Str) : Prop where
  oex : OexC K C
  ty : ExcTy K C
  fld : XfC K C
  no : PySem.W.findIn K (.ref C) f = some none
  g : mg x = some (.ref C)
  b : PySem.W.subIn K (.ref C) (.type "BaseException") = some true
  t : PySem.W.typeIn K (.ref C) = some (.type "type")
  cs : ∃ cd, PySem.W.clsIn K C = some cd
  ini : ∃ (fI : Addr) (fd : FuncData), PySem.W.findIn K (.ref C) "__init__" = some (some (.ref fI)) ∧ PySem.W.typeIn K (.ref fI) = some (.type "function") ∧ Binds K fd ["self", f] [] ∧ FnOk P w K mg base CX0 1 fI fd ["self", f] (spIni C f)
theorem OwnI.kit {P : Program} {w : World} {K : PySem.W.Frag} {mg : Str → Option Value} {base : Heap} {x f : Str} {C : Addr} {cls : Value} {b : Bool} (h : OwnI P w K mg base x C f) (s : PySem.W.subIn K cls (.ref C) = some b) (ne : (cls == .ref C) = false) : PySem.W.kitOne K cls (.ref C) = some b := by
  obtain ⟨cd, e⟩ := h.cs
  unfold PySem.W.kitOne PySem.W.kitCls
  rw [ne, if_neg Bool.false_ne_true]
  show (if ((PySem.W.clsIn K C).isSome && PySem.W.typeIn K (.ref C) == some (.type "type")) = true then PySem.W.subIn K cls (.ref C) else none) = some b
  rw [e, h.t, if_pos (by simp)]
  exact s
theorem pmk_ownI {X : Cx} {C : Addr} {x f : Str} {e : Expr} {p pos : Pos} {ta : TA} (T : OwnI X.prog X.w X.K X.mg X.base x C f) (hr : Room 2 X.A) (ha : PA X [e] ta) (hg : Gl X x := by rfl) (hdb : (x == ("__debug__" : Str)) = false := by decide)
    (he : starEach (e :: []) X.env = (false, eval e X.env) :: starEach [] X.env := by rfl) (hpl : (backTo pos (starEach [] X.env)).any (·.1) = false := by rfl) : PMk X (.Call (.Name x p) [e] [] pos) (tMkO C (spIni C f) [] ta) := by
  obtain ⟨fI, fd, h1, h2, h3, F⟩ := T.ini
  exact pmk_oex (p := p) (pos := pos) T.oex h1 h2 F hr h3 .nil pass0 hg T.g ha hdb he hpl
section
variable {σ : L2.St} {H : Hp} {C : Addr} {f : Str} {v : V} {Q : XK}
theorem free_updX {H : Hp} {p b : Addr} {o : HO} (h : upd H p o b = none) : H b = none := by
  by_cases e : b = p
  · subst e; rw [upd_same] at h; cases h
  · rwa [upd_ne e] at h
theorem r_mkO {sp : Sp} {ta : TA} (q : ta σ H fun vs H1 => vs.length ≤ 1000 ∧ ∀ a, H1 a = none → sp (.ref a :: (vs ++ [])) (upd H1 a (exo a C none))
    (fun v H2 => v = .non ∧ ∃ (d : Addr) (fs : List (Str × V)), H2 a = some (exo a C (some d)) ∧ H2 d = some (exd d fs) ∧ H1 d = none ∧ Q (.ref C) (some d) (upd (del H2 a) d (.xd fs))) (fun _ _ _ => False)) : tMkO C sp [] ta σ H Q := q
theorem u_mkI (q : ∀ d H', H d = none → Same H H' → H' d = some (.xd [(f, v)]) → Q (.ref C) (some d) H') : [v].length ≤ 1000 ∧ ∀ a, H a = none → spIni C f (.ref a :: ([v] ++ [])) (upd H a (exo a C none))
    (fun v H2 => v = .non ∧ ∃ (d : Addr) (fs : List (Str × V)), H2 a = some (exo a C (some d)) ∧ H2 d = some (exd d fs) ∧ H d = none ∧ Q (.ref C) (some d) (upd (del H2 a) d (.xd fs))) (fun _ _ _ => False) := by
  refine ⟨by simp, fun a na => ⟨a, v, rfl, upd_same, fun dx ndx ne => ⟨rfl, dx, _, upd_same, (upd_ne ne).trans upd_same, free_updX ndx, q dx _ (free_updX ndx) ?_ upd_same⟩⟩⟩
  intro c o e
  have h1 : c ≠ a := ne_of_none e na
  have h2 : c ≠ dx := ne_of_none e (free_updX ndx)
  rw [upd_ne h2]
  show (if c = a then none else _) = _
  rw [if_neg h1, upd_ne h1, upd_ne h2, upd_ne h1]
  exact e
end
end My

set_option Elab.async false
set_option linter.all false
set_option maxRecDepth 100000
namespace My
open PySem PySem.Spec PyProof.Rows L2
/-! ### undone programs -/
namespace Prog
theorem unroll_app (s : Int) : ∀ p q : Prog, unroll s (p.app q) = (unroll s p).app (unroll s q)
  | .nil, q => by rw [app, unroll, app]
  | .step w n p, q => by rw [app, unroll, unroll, unroll_app s p q, app]
  | .turn k p, q => by rw [app, unroll, unroll, unroll_app s p q, app]
  | .rep k b p, q => by rw [app, unroll, unroll, unroll_app s p q, app_assoc]
  | .mir b p, q => by rw [app, unroll, unroll, unroll_app s p q, app_assoc]
end Prog
end My

set_option Elab.async false
set_option linter.all false
set_option maxRecDepth 100000
namespace My
open PySem PySem.Spec PyProof.Rows L2 RT
theorem WfL.split {L : Nat} {C T : Int} : ∀ {d : Nat} {p q : Prog}, WfL L C T d (p.app q) → WfL L C T d p ∧ WfL L C T d q
  | _, .nil, _, h => ⟨WfL.nil, h⟩
  | d, .step w n r, q, h => by
    have h := WfL.step_iff.mp (show WfL L C T d (.step w n (r.app q)) from h)
    exact ⟨WfL.step_iff.mpr ⟨h.1, h.2.1, (WfL.split h.2.2).1⟩, (WfL.split h.2.2).2⟩
  | d, .turn k r, q, h => by
    have h := WfL.turn_iff.mp (show WfL L C T d (.turn k (r.app q)) from h)
    exact ⟨WfL.turn_iff.mpr ⟨h.1, (WfL.split h.2).1⟩, (WfL.split h.2).2⟩
  | 0, .rep _ _ _, _, h => h.elim
  | d + 1, .rep k b r, q, h => by
    have h : (1 ≤ k ∧ k ≤ C) ∧ (1 ≤ b.len ∧ b.len ≤ L) ∧ WfL L C T d b ∧ WfL L C T (d + 1) (r.app q) := h
    exact ⟨⟨h.1, h.2.1, h.2.2.1, (WfL.split h.2.2.2).1⟩, (WfL.split h.2.2.2).2⟩
  | 0, .mir _ _, _, h => h.elim
  | d + 1, .mir b r, q, h => by
    have h : (1 ≤ b.len ∧ b.len ≤ L) ∧ WfL L C T d b ∧ WfL L C T (d + 1) (r.app q) := h
    exact ⟨⟨h.1, h.2.1, (WfL.split h.2.2).1⟩, (WfL.split h.2.2).2⟩
theorem PrAt.split {H : Hp} : ∀ {p q : Prog} {xs : List V}, PrAt H (p.app q) xs → ∃ ys zs, xs = ys ++ zs ∧ PrAt H p ys ∧ PrAt H q zs
  | .nil, q, xs, h => ⟨[], xs, rfl, rfl, h⟩
  | .step w n r, q, xs, h => by
    obtain ⟨c, ys, e, h1, h2⟩ := h
    obtain ⟨us, vs, e2, h3, h4⟩ := PrAt.split (p := r) h2
    exact ⟨.ref c :: us, vs, by rw [e, e2]; rfl, ⟨c, us, rfl, h1, h3⟩, h4⟩
  | .turn k r, q, xs, h => by
    obtain ⟨c, ys, e, h1, h2⟩ := h
    obtain ⟨us, vs, e2, h3, h4⟩ := PrAt.split (p := r) h2
    exact ⟨.ref c :: us, vs, by rw [e, e2]; rfl, ⟨c, us, rfl, h1, h3⟩, h4⟩
  | .rep k b r, q, xs, h => by
    obtain ⟨c, q0, z0, ys, e, h1, h0, hb, h2⟩ := h
    obtain ⟨us, vs, e2, h3, h4⟩ := PrAt.split (p := r) h2
    exact ⟨.ref c :: us, vs, by rw [e, e2]; rfl, ⟨c, q0, z0, us, rfl, h1, h0, hb, h3⟩, h4⟩
  | .mir b r, q, xs, h => by
    obtain ⟨c, q0, z0, ys, e, h1, h0, hb, h2⟩ := h
    obtain ⟨us, vs, e2, h3, h4⟩ := PrAt.split (p := r) h2
    exact ⟨.ref c :: us, vs, by rw [e, e2]; rfl, ⟨c, q0, z0, us, rfl, h1, h0, hb, h3⟩, h4⟩
/-- the last command -/
theorem Prog.snoc : ∀ {p : Prog} {m : Nat}, p.len = m + 1 → ∃ r c : Prog, p = r.app c ∧ r.len = m ∧ c.len = 1
  | .nil, m, h => by cases h
  | .step w n r, m, h => by
    have h : r.len + 1 = m + 1 := h
    cases m with
    | zero => exact ⟨.nil, .step w n r, rfl, rfl, h⟩
    | succ m =>
      obtain ⟨r', c, e, h1, h2⟩ := Prog.snoc (p := r) (m := m) (by omega)
      exact ⟨.step w n r', c, by rw [e]; rfl, by rw [Prog.len, h1], h2⟩
  | .turn k r, m, h => by
    have h : r.len + 1 = m + 1 := h
    cases m with
    | zero => exact ⟨.nil, .turn k r, rfl, rfl, h⟩
    | succ m =>
      obtain ⟨r', c, e, h1, h2⟩ := Prog.snoc (p := r) (m := m) (by omega)
      exact ⟨.turn k r', c, by rw [e]; rfl, by rw [Prog.len, h1], h2⟩
  | .rep k b r, m, h => by
    have h : r.len + 1 = m + 1 := h
    cases m with
    | zero => exact ⟨.nil, .rep k b r, rfl, rfl, h⟩
    | succ m =>
      obtain ⟨r', c, e, h1, h2⟩ := Prog.snoc (p := r) (m := m) (by omega)
      exact ⟨.rep k b r', c, by rw [e]; rfl, by rw [Prog.len, h1], h2⟩
  | .mir b r, m, h => by
    have h : r.len + 1 = m + 1 := h
    cases m with
    | zero => exact ⟨.nil, .mir b r, rfl, rfl, h⟩
    | succ m =>
      obtain ⟨r', c, e, h1, h2⟩ := Prog.snoc (p := r) (m := m) (by omega)
      exact ⟨.mir b r', c, by rw [e]; rfl, by rw [Prog.len, h1], h2⟩
theorem len_zero {p : Prog} (h : p.len = 0) : p = .nil := by cases p <;> first | rfl | cases h
/-- what stands at the place of the last command -/
theorem PrAt.last {H : Hp} {r c s : Prog} {xs : List V} (h : PrAt H (r.app (c.app s)) xs) (hc : c.len = 1) : ∃ x, xs[r.len]? = some x ∧ First H c x .nil := by
  obtain ⟨ys, zs, e, h1, h2⟩ := PrAt.split h
  obtain ⟨us, vs, e2, h3, h4⟩ := PrAt.split (p := c) h2
  have l1 := h1.length
  have l3 := h3.length
  rw [hc] at l3
  match us, l3, h3 with
  | [x], _, h3 =>
    obtain ⟨r', hf, hr⟩ := h3.first
    have e0 : r'.len = 0 := hr.length.symm
    rw [len_zero e0] at hf
    refine ⟨x, ?_, hf⟩
    rw [e, e2, List.getElem?_append_right (by omega), l1, Nat.sub_self]
    rfl
section
variable {σ : L2.St} {H : Hp} {K : PySem.W.Frag} {D : Ends} {tb : TS} {g : TG} {a : Addr} {xs : List V} {p : Prog}
end
end My

set_option Elab.async false
set_option linter.all false
set_option maxRecDepth 100000
namespace My
open PySem PySem.Spec PyProof.Rows L2 HT PySem.Builtin
/-! ### t[::-1], t a tuple -/
section
variable {prog : Program} {w : World} {A : Around} {E : Value → Shared → Prop} {s : Shared}
end
section
variable {X : Cx} {pos : Pos}
end
end My

set_option Elab.async false
set_option linter.all false
set_option maxRecDepth 100000
namespace My
open PySem PySem.Spec PyProof.Rows L2
/-! ### terms: powers and numbers -/
abbrev Terms := List (Int × Int)
/-- the number of a power: the sum of the numbers with it -/
def cof : Terms → Int → Int
  | [], _ => 0
  | p :: l, k => (if p.1 = k then p.2 else 0) + cof l k
/-- ascending powers, no number 0 -/
structure Canon (l : Terms) : Prop where
  asc : l.Pairwise fun p q => p.1 < q.1
  nz : ∀ p ∈ l, p.2 ≠ 0
theorem cof_app : ∀ (l m : Terms) (k : Int), cof (l ++ m) k = cof l k + cof m k
  | [], m, k => by rw [List.nil_append, cof, Int.zero_add]
  | p :: l, m, k => by rw [List.cons_append, cof, cof, cof_app l m k, Int.add_assoc]
theorem cof_none : ∀ {l : Terms} {k : Int}, (∀ p ∈ l, p.1 ≠ k) → cof l k = 0
  | [], _, _ => rfl
  | p :: l, k, h => by
    rw [cof, if_neg (h p List.mem_cons_self), cof_none fun q hq => h q (List.mem_cons_of_mem _ hq), Int.add_zero]
theorem Canon.nil : Canon [] := ⟨.nil, fun _ h => absurd h (by simp)⟩
theorem Canon.tail {p : Int × Int} {l : Terms} (h : Canon (p :: l)) : Canon l := ⟨(List.pairwise_cons.mp h.asc).2, fun q hq => h.nz q (List.mem_cons_of_mem _ hq)⟩
theorem Canon.head {p : Int × Int} {l : Terms} (h : Canon (p :: l)) : cof (p :: l) p.1 = p.2 := by
  rw [cof, if_pos rfl, cof_none fun q hq => by have := (List.pairwise_cons.mp h.asc).1 q hq; omega, Int.add_zero]
theorem Canon.low {p : Int × Int} {l : Terms} (h : Canon (p :: l)) {k : Int} (hk : k < p.1) : cof (p :: l) k = 0 :=
  cof_none fun q hq => by
    rcases List.mem_cons.mp hq with rfl | hq
    · omega
    · have := (List.pairwise_cons.mp h.asc).1 q hq; omega
/-- what the numbers are, the canonical terms are -/
theorem Canon.ext : ∀ {l m : Terms}, Canon l → Canon m → (∀ k, cof l k = cof m k) → l = m
  | [], [], _, _, _ => rfl
  | p :: l, [], h, _, e => absurd ((h.head.symm.trans (e p.1)).trans rfl) (h.nz p List.mem_cons_self)
  | [], q :: m, _, h, e => absurd ((h.head.symm.trans (e q.1).symm).trans rfl) (h.nz q List.mem_cons_self)
  | p :: l, q :: m, h, h', e => by
    have hp := h.nz p List.mem_cons_self
    have hq := h'.nz q List.mem_cons_self
    have e1 : p.1 = q.1 := by
      rcases Int.lt_trichotomy p.1 q.1 with a | a | a
      · have := e p.1
        rw [h.head, h'.low a] at this
        exact absurd this hp
      · exact a
      · have := e q.1
        rw [h'.head, h.low a] at this
        exact absurd this.symm hq
    have e2 : p.2 = q.2 := by
      have := e p.1
      rw [h.head, e1, h'.head] at this
      exact this
    have e3 : p = q := Prod.ext e1 e2
    subst e3
    have e4 : l = m := Canon.ext h.tail h'.tail fun k => by
      have := e k
      rw [cof, cof] at this
      omega
    rw [e4]
theorem Canon.zero {l : Terms} (h : Canon l) (e : ∀ k, cof l k = 0) : l = [] := Canon.ext h Canon.nil e
/-- the terms by ascending keys -/
theorem canon_of {ys : List Int} (h : ys.Pairwise (· < ·)) (f : Int → Int) : Canon ((ys.filter fun k => decide (f k ≠ 0)).map fun k => (k, f k)) := by
  refine ⟨List.pairwise_map.mpr ((h.filter _).imp fun a => a), fun p hp => ?_⟩
  obtain ⟨k, hk, rfl⟩ := List.mem_map.mp hp
  simpa using (List.mem_filter.mp hk).2
theorem cof_of : ∀ {ys : List Int}, ys.Pairwise (· < ·) → ∀ (f : Int → Int) (k : Int), cof ((ys.filter fun k => decide (f k ≠ 0)).map fun k => (k, f k)) k = if k ∈ ys then f k else 0
  | [], _, f, k => by simp [cof]
  | y :: ys, h, f, k => by
    have ih := cof_of (List.pairwise_cons.mp h).2 f k
    have hy := (List.pairwise_cons.mp h).1
    by_cases e : k = y
    · subst e
      have hn : ¬ k ∈ ys := fun hm => by have := hy k hm; omega
      rw [if_neg hn] at ih
      by_cases z : f k = 0
      · rw [List.filter_cons_of_neg (by simpa using z), ih, if_pos (by simp), z]
      · rw [List.filter_cons_of_pos (by simpa using z), List.map_cons, cof, ih, if_pos rfl, if_pos (by simp), Int.add_zero]
    · have em : (k ∈ y :: ys) ↔ k ∈ ys := by simp [e]
      by_cases z : f y = 0
      · rw [List.filter_cons_of_neg (by simpa using z), ih]; simp only [em]
      · rw [List.filter_cons_of_pos (by simpa using z), List.map_cons, cof, ih, if_neg (fun h => e h.symm), Int.zero_add]; simp only [em]
theorem Canon.le_len {l m : Terms} (h : Canon l) : (∀ p ∈ l, p.1 ∈ m.map (·.1)) → l.length ≤ m.length := by
  intro hs
  have nd : (l.map (·.1)).Nodup := (List.pairwise_map.mpr (h.asc.imp fun a => by omega))
  have key : ∀ (xs ys : List Int), xs.Nodup → (∀ x ∈ xs, x ∈ ys) → xs.length ≤ ys.length := by
    intro xs
    induction xs with
    | nil => intro ys _ _; exact Nat.zero_le _
    | cons x xs ih =>
      intro ys hn hs
      have hx := hs x List.mem_cons_self
      obtain ⟨hxn, hn⟩ := List.nodup_cons.mp hn
      have h1 := ih (ys.erase x) hn fun z hz => (List.mem_erase_of_ne (by rintro rfl; exact hxn hz)).mpr (hs z (List.mem_cons_of_mem _ hz))
      rw [List.length_erase_of_mem hx] at h1
      have h2 := List.length_pos_of_mem hx
      rw [List.length_cons]
      omega
  have := key (l.map (·.1)) (m.map (·.1)) nd fun x hx => by
    obtain ⟨p, hp, rfl⟩ := List.mem_map.mp hx
    exact hs p hp
  simpa using this

/-! ### sorted(d), d a dict of int keys, any number of them -/
def rSortDI : List V → Hp → VK → Prop := fun xs H Q => ∃ (a : Addr) (kvs : List (Key × V)) (ks : List Int), xs = [.ref a] ∧ Rd H a (.dK kvs) ∧ kvs.map (·.1) = ks.map Sum.inl ∧
    ∀ (ys : List Int) (p : Addr), ys.Perm ks → ys.Pairwise (· ≤ ·) → H p = none → Q (.ref p) (upd H p (.lst (ys.map V.int)))
theorem call_sortedDA {X : Cx} (hcalm : X.calm = true := by rfl) : CallR X (.builtin "sorted") rSortDI := by
  intro pins s σ H xs us Q I r q
  obtain ⟨a, kvs, ks, ex, hd, hks, q⟩ := q
  subst ex
  obtain ⟨u, eu, rx⟩ := vals1 r
  subst eu
  cases rx
  obtain ⟨z, lo, vs, rel, dd⟩ := dk_rd I.hok hd
  obtain ⟨ep, hat⟩ := dd.dictAt
  have hkeys : vs.map (·.1) = ks.map Sum.inl := rel.keys.symm.trans hks
  have hl : vs.length = ks.length := by
    have e := congrArg List.length hkeys
    rw [List.length_map, List.length_map] at e
    exact e
  have h16 : vs.length ≤ sizeLine := by rw [← rel.length]; exact z
  refine Calls.call_function_entry PyProof.Rows.kind_sorted PyProof.Rows.plain_sorted PyProof.Rows.entry_sorted (PyProof.Rows.args_sorted1 _) ?_
  unfold Builtin.«sorted»
  refine wpAny_bind (m := checkCount "sorted" 1 1 _) (wpAny_pure ?_)
  refine wpAny_bind (PySem.W.kdu_collect (A := X.A.in1) (PySem.W.kdl_dict (knd := mixKind X.prog X.w) (kvs := vs) (ep := ep) lo) (I.ok.hd hcalm) hat h16 fun h' tk acc hk hacc => ?_)
  have hal : acc.toList.length = ks.length := by rw [Array.length_toList, hacc.1, hl]
  have hS : IntsAre acc.toList ks := ints_each hal fun j v e => by
    obtain ⟨k, x, e1, e2⟩ := hacc.2 j v (by rw [← Array.getElem?_toList]; exact e)
    have e3 : (vs.map (·.1))[j]? = some k := by rw [List.getElem?_map, e1]; rfl
    rw [hkeys, List.getElem?_map] at e3
    cases e4 : ks[j]? with
    | none => rw [e4] at e3; cases e3
    | some y =>
      rw [e4] at e3
      have e5 : Sum.inl y = k := Option.some.inj e3
      subst e5
      rcases keyIs_shape (show keyIs (Sum.inl y) v = true from e2) with ⟨i, t, ek, ev⟩ | ⟨z, t, ek, ev⟩
      · cases ek
        exact ⟨y, t, rfl, ev⟩
      · cases ek
  have I1 : Inv X pins σ H { s with heap := h', toks := tk } := I.kept hk
  have h17 : acc.toList.length ≤ sizeLine := by rw [hal, ← hl]; exact h16
  refine wpAny_bind (wpAny_newList ?_ h17)
  have hoL : (h'.push (seqObj "list" acc.toList.toArray 0)).get? h'.objs.size = some (seqObj "list" acc.toList.toArray 0) := Heap.get?_push_size _ rfl
  show wpAny _ _ _ _ _ { s with heap := h'.push (seqObj "list" acc.toList.toArray 0), toks := tk }
  refine wpAny_bind (wpAny_holding (wpAny_call_entry PyProof.Rows.slot_list_sort ⟨_, hoL, rfl⟩ PyProof.Rows.entry_list_sort
    (SrtO.list_sort_ord (s := { s with heap := h'.push (seqObj "list" acc.toList.toArray 0), toks := tk }) SrtO.swo_int hoL h17 (fun h2 => SrtO.ints_sortable hS h2) fun out h1 h2 => ⟨_, rfl, ?_⟩) (PyProof.Rows.args_list_sort _)))
  obtain ⟨k1, k2, k3⟩ := SrtO.ints_out hS h1 h2
  obtain ⟨e', he'⟩ := PyProof.Rows.sortedHeap_at (vs := acc.toList) (out := out.toArray) hoL
  have hlen : ((out.map SrtO.iv).map V.int).length ≤ sizeLine := by
    rw [List.length_map, k2.length_eq, ← hl]
    exact h16
  refine wpAny_pure ⟨_, rfl, .ref h'.objs.size, upd H h'.objs.size (.lst ((out.map SrtO.iv).map V.int)), I1.laid (t' := tk) (fun b u e => ?_) (Nat.le_refl _)
    (show ObjOk X.prog X.w _ _ _ (.lst ((out.map SrtO.iv).map V.int)) from ⟨hlen, out, e', vals_of_ints k1, he'⟩), rfl, q _ _ k2 k3 (I1.hok.fresh (Nat.le_refl _))⟩
  have hb : b < h'.objs.size := Heap.lt_size e
  rw [PyProof.Rows.sortedHeap_old (Nat.ne_of_lt hb) (by rw [size_push']; exact Nat.lt_succ_of_lt hb)]
  exact Heap.get?_push_of_some _ e
/-- sorted(d), texts as keys -/
def rSortDS : List V → Hp → VK → Prop := fun xs H Q => ∃ (a : Addr) (kvs : List (Key × V)) (ks : List Str), xs = [.ref a] ∧ Rd H a (.dK kvs) ∧ kvs.map (·.1) = ks.map Sum.inr ∧ ks.length < 64 ∧
    ∀ ys p, ys.Perm ks → sortedS ys = true → H p = none → Q (.ref p) (upd H p (.lst (ys.map V.str)))
theorem call_sortedDS {X : Cx} (hcalm : X.calm = true := by rfl) : CallR X (.builtin "sorted") rSortDS := call_sortedD hcalm
/-! ### jars: dicts of ints by ints -/
def cfK (kvs : List (Key × V)) (k : Int) : Int := match valV kvs (.inl k) with | some (.int n) => n | _ => 0
structure JarK (kvs : List (Key × V)) : Prop where
  prs : ∀ p ∈ kvs, ∃ k n : Int, p = (Sum.inl k, V.int n)
  nd : (kvs.map (·.1)).Nodup
theorem mem_put {kvs : List (Key × V)} {k : Key} {v : V} {p : Key × V} (h : p ∈ putK kvs k v) : p ∈ kvs ∨ p = (k, v) := by
  unfold putK at h
  split at h
  · obtain ⟨q, hq, e⟩ := List.mem_map.mp h
    split at e
    · rename_i ek; right; rw [← e, ek]
    · left; rw [← e]; exact hq
  · rcases List.mem_append.mp h with h | h
    · exact .inl h
    · exact .inr (List.mem_singleton.mp h)
theorem keys_put (kvs : List (Key × V)) (k : Key) (v : V) : (putK kvs k v).map (·.1) = if (kvs.any fun kv => decide (kv.1 = k)) = true then kvs.map (·.1) else kvs.map (·.1) ++ [k] := by
  unfold putK
  split
  · rw [List.map_map]
    refine List.map_congr_left fun p _ => ?_
    show (if p.1 = k then (p.1, v) else p).1 = p.1
    split <;> rfl
  · rw [List.map_append]; rfl
theorem nodup_put {kvs : List (Key × V)} (h : (kvs.map (·.1)).Nodup) (k : Key) (v : V) : ((putK kvs k v).map (·.1)).Nodup := by
  rw [keys_put]
  split
  · exact h
  · rename_i hn
    refine List.nodup_append.mpr ⟨h, by simp, fun a ha b hb e => hn ?_⟩
    have hb := List.mem_singleton.mp hb
    subst hb
    subst e
    obtain ⟨p, hp, e⟩ := List.mem_map.mp ha
    exact List.any_eq_true.mpr ⟨p, hp, decide_eq_true e⟩
theorem JarK.nil : JarK [] := ⟨fun _ h => absurd h (by simp), by simp⟩
theorem JarK.put {kvs : List (Key × V)} (h : JarK kvs) (k n : Int) : JarK (putK kvs (.inl k) (.int n)) := by
  refine ⟨fun p hp => ?_, nodup_put h.nd _ _⟩
  rcases mem_put hp with h1 | rfl
  · exact h.prs p h1
  · exact ⟨k, n, rfl⟩
theorem cfK_put (kvs : List (Key × V)) (k n j : Int) : cfK (putK kvs (.inl k) (.int n)) j = if j = k then n else cfK kvs j := by
  unfold cfK
  rw [valV_put]
  by_cases e : j = k
  · subst e; rw [if_pos rfl, if_pos rfl]
  · rw [if_neg (fun h => e (Sum.inl.inj h)), if_neg e]
theorem val_mem {kvs : List (Key × V)} {k : Key} {v : V} (h : valV kvs k = some v) : (k, v) ∈ kvs := by
  unfold valV at h
  cases e : kvs.find? fun kv => decide (kv.1 = k) with
  | none => rw [e] at h; cases h
  | some p =>
    rw [e] at h
    have h1 := List.mem_of_find?_eq_some e
    have h2 := List.find?_some e
    have h3 : p.1 = k := of_decide_eq_true h2
    have h4 : p.2 = v := Option.some.inj h
    rw [← h3, ← h4]
    exact h1
theorem val_none {kvs : List (Key × V)} {k : Key} (h : valV kvs k = none) : ∀ p ∈ kvs, p.1 ≠ k := by
  intro p hp e
  unfold valV at h
  have h2 : kvs.find? (fun kv => decide (kv.1 = k)) = none := by
    cases q : kvs.find? (fun kv => decide (kv.1 = k)) with
    | none => rfl
    | some _ => rw [q] at h; cases h
  have := List.find?_eq_none.mp h2 p hp
  exact this (decide_eq_true e)
theorem JarK.val {kvs : List (Key × V)} (h : JarK kvs) (k : Int) : (valV kvs (.inl k)).getD (.int 0) = .int (cfK kvs k) := by
  unfold cfK
  cases e : valV kvs (.inl k) with
  | none => rfl
  | some v =>
    obtain ⟨k', n, e2⟩ := h.prs _ (val_mem e)
    cases e2
    rfl
theorem JarK.some {kvs : List (Key × V)} (h : JarK kvs) {k : Int} (m : Sum.inl k ∈ kvs.map (·.1)) : valV kvs (.inl k) = some (.int (cfK kvs k)) := by
  have hv := h.val k
  cases e : valV kvs (.inl k) with
  | none =>
    obtain ⟨p, hp, ek⟩ := List.mem_map.mp m
    exact absurd ek (val_none e p hp)
  | some v => rw [e] at hv; exact congrArg Option.some hv
theorem JarK.keys {kvs : List (Key × V)} (h : JarK kvs) : ∃ ks : List Int, kvs.map (·.1) = ks.map Sum.inl ∧ ks.Nodup ∧ (∀ k, ¬ k ∈ ks → cfK kvs k = 0) ∧ ks.length = kvs.length := by
  have hex : ∀ {l : List (Key × V)}, (∀ p ∈ l, ∃ k n : Int, p = (Sum.inl k, V.int n)) → ∃ ks : List Int, l.map (·.1) = ks.map Sum.inl := by
    intro l
    induction l with
    | nil => intro _; exact ⟨[], rfl⟩
    | cons p l ih =>
      intro hl
      obtain ⟨k, n, e⟩ := hl p List.mem_cons_self
      obtain ⟨ks, e2⟩ := ih fun q hq => hl q (List.mem_cons_of_mem _ hq)
      exact ⟨k :: ks, by rw [List.map_cons, List.map_cons, e2, e]⟩
  obtain ⟨ks, e⟩ := hex h.prs
  refine ⟨ks, e, ?_, fun k hk => ?_, ?_⟩
  · have := h.nd
    rw [e] at this
    exact (List.pairwise_map.mp this).imp fun a b => a (congrArg Sum.inl b)
  · unfold cfK
    cases q : valV kvs (.inl k) with
    | none => rfl
    | some v =>
      have hm : Sum.inl k ∈ kvs.map (·.1) := List.mem_map.mpr ⟨_, val_mem q, rfl⟩
      rw [e] at hm
      obtain ⟨k', hk', e'⟩ := List.mem_map.mp hm
      cases e'
      exact absurd hk' hk
  · have := congrArg List.length e
    simpa using this.symm
/-- the jar at a: its numbers c, at most n powers -/
def JarAt (H : Hp) (a : Addr) (n : Nat) (c : Int → Int) : Prop := ∃ kvs, H a = some (.dK kvs) ∧ JarK kvs ∧ kvs.length ≤ n ∧ ∀ k, cfK kvs k = c k
theorem JarAt.new {H : Hp} {p : Addr} : JarAt (upd H p (.dK [])) p 0 fun _ => 0 := ⟨[], upd_same, .nil, Nat.le_refl _, fun _ => rfl⟩
theorem JarAt.same {H H' : Hp} {a : Addr} {n : Nat} {c : Int → Int} (h : JarAt H a n c) (s : Same H H') : JarAt H' a n c := let ⟨kvs, e, r⟩ := h; ⟨kvs, s _ _ e, r⟩
theorem JarAt.keep {H : Hp} {a p : Addr} {o : HO} {n : Nat} {c : Int → Int} (h : JarAt H a n c) (q : H p = none) : JarAt (upd H p o) a n c := let ⟨kvs, e, r⟩ := h; ⟨kvs, h_keep e q, r⟩
theorem JarAt.but {H H' : Hp} {a b : Addr} {n : Nat} {c : Int → Int} (h : JarAt H a n c) (ne : a ≠ b) (s : But b H H') : JarAt H' a n c := let ⟨kvs, e, r⟩ := h; ⟨kvs, s _ _ ne e, r⟩
theorem JarAt.ext {H : Hp} {a : Addr} {n : Nat} {c d : Int → Int} (h : JarAt H a n c) (e : ∀ k, c k = d k) : JarAt H a n d := let ⟨kvs, e1, r1, r2, r3⟩ := h; ⟨kvs, e1, r1, r2, fun k => (r3 k).trans (e k)⟩
theorem JarAt.ne {H : Hp} {a p : Addr} {n : Nat} {c : Int → Int} (h : JarAt H a n c) (q : H p = none) : p ≠ a := let ⟨_, e, _⟩ := h; (ne_of_none e q).symm
/-- k is a key of the jar -/
def JarHas (H : Hp) (a : Addr) (k : Int) : Prop := ∃ kvs : List (Key × V), H a = some (.dK kvs) ∧ Sum.inl k ∈ kvs.map (·.1)
theorem JarHas.same {H H' : Hp} {a : Addr} {k : Int} (h : JarHas H a k) (s : Same H H') : JarHas H' a k := let ⟨kvs, e, r⟩ := h; ⟨kvs, s _ _ e, r⟩
def addAt (c : Int → Int) (k v : Int) : Int → Int := fun j => if j = k then v else c j
section
variable {σ : L2.St} {H : Hp} {Q : VK} {K : PySem.W.Frag} {td ty tx tv : TE} {a : Addr} {n : Nat} {c : Int → Int} {D : Ends}
theorem r_dnew (q : ∀ p, H p = none → Q (.ref p) (upd H p (.dK []))) : tDNewK σ H Q := q
theorem r_dget2 (q : td σ H fun x H1 => ∃ a, x = .ref a ∧ IsD H1 a ∧ ty σ H1 fun y H2 => tx σ H2 fun z H3 => ∃ o, DGet H3 a y o ∧ Q (o.getD z) H3) : tDGet2 td ty tx σ H Q := q
theorem r_dget (q : td σ H fun x H1 => ty σ H1 fun y H2 => ∃ a v, x = .ref a ∧ DGet H2 a y (some v) ∧ Q v H2) : tDGet td ty σ H Q := q
theorem r_dput (q : tv σ H fun v H1 => td σ H1 fun x H2 => ty σ H2 fun y H3 => ∃ a H4, x = .ref a ∧ DPut H3 a y v H4 ∧ D.nx σ H4) : sDPut td ty tv D σ H := q
theorem r_dsetd (q : td σ H fun x H1 => ∃ a, x = .ref a ∧ IsD H1 a ∧ ty σ H1 fun y H2 => tx σ H2 fun z H3 => ∃ (kvs : List (Key × V)) (k : Key), H3 a = some (.dK kvs) ∧ y = kV k ∧ kvs.length < sizeLine ∧
  (∀ v, valV kvs k = some v → Q v H3) ∧ (valV kvs k = none → Q z (upd H3 a (.dK (putK kvs k z))))) : tDSetd td ty tx σ H Q := q
theorem r_isD {kvs : List (Key × V)} {R : Addr → Prop} (h : H a = some (.dK kvs)) (q : R a) : ∃ b, V.ref a = .ref b ∧ IsD H b ∧ R b := ⟨a, rfl, .inl ⟨kvs, .inl h⟩, q⟩
theorem JarAt.isD {R : Addr → Prop} (h : JarAt H a n c) (q : R a) : ∃ b, V.ref a = .ref b ∧ IsD H b ∧ R b := let ⟨_, e, _⟩ := h; r_isD e q
theorem JarAt.dget0 (h : JarAt H a n c) (k : Int) : ∃ o, DGet H a (.int k) o ∧ o.getD (.int 0) = .int (c k) := by
  obtain ⟨kvs, e, hk, _, hc⟩ := h
  exact ⟨_, DGet.k (k := .inl k) e, by rw [hk.val, hc]⟩
theorem JarAt.dput {k v : Int} (h : JarAt H a n c) (hn : n ≤ 1000000) : ∃ H', DPut H a (.int k) (.int v) H' ∧ But a H H' ∧ (∀ p, H p = none → p ≠ a → H' p = none) ∧ JarAt H' a (n + 1) (addAt c k v) := by
  obtain ⟨kvs, e, hk, hl, hc⟩ := h
  refine ⟨_, DPut.k (k := .inl k) e (Nat.lt_of_le_of_lt (Nat.le_trans hl hn) (by decide)), But.self (But.refl a H), fun p hp np => (upd_ne np).trans hp, _, upd_same, hk.put k v, ?_, fun j => ?_⟩
  · exact Nat.le_trans (length_putK _ _ _) (by omega)
  · rw [cfK_put, hc]; rfl
theorem JarAt.dget {k : Int} (h : JarAt H a n c) (m : JarHas H a k) : DGet H a (.int k) (some (.int (c k))) := by
  obtain ⟨kvs, e, hk, _, hc⟩ := h
  obtain ⟨kvs', e', hm⟩ := m
  cases e.symm.trans e'
  have := DGet.k (k := .inl k) e
  rw [hk.some hm, hc] at this
  exact this
theorem rSortDJ (h : JarAt H a n c) (q : ∀ (ys : List Int) (p : Addr), ys.Pairwise (· < ·) → (∀ k, ¬ k ∈ ys → c k = 0) → ys.length ≤ n → (∀ k ∈ ys, JarHas H a k) → H p = none → Q (.ref p) (upd H p (.lst (ys.map V.int)))) : rSortDI [.ref a] H Q := by
  obtain ⟨kvs, e, hk, hl, hc⟩ := h
  obtain ⟨ks, e1, e2, e3, e4⟩ := hk.keys
  refine ⟨a, kvs, ks, rfl, .inl e, e1, fun ys p hp hs hn => q ys p ?_ (fun k hy => ?_) ?_ (fun k hy => ?_) hn⟩
  · have nd : ys.Nodup := hp.nodup_iff.mpr e2
    have : ys.Pairwise fun x y => x ≤ y ∧ x ≠ y := List.Pairwise.and hs nd
    exact this.imp fun h => by omega
  · rw [← hc]
    exact e3 k fun hm => hy (hp.mem_iff.mpr hm)
  · rw [hp.length_eq, e4]; exact hl
  · exact ⟨kvs, e, by rw [e1]; exact List.mem_map.mpr ⟨k, hp.mem_iff.mp hy, rfl⟩⟩
end
/-- pairs of ints, laid as tuples -/
def TermsL (H : Hp) : List V → Terms → Prop
  | [], ts => ts = []
  | v :: vs, ts => ∃ b p us, ts = p :: us ∧ v = .ref b ∧ H b = some (.tup [.int p.1, .int p.2]) ∧ TermsL H vs us
theorem TermsL.tk {H H' : Hp} (t : Tk H H') : ∀ {vs : List V} {ts : Terms}, TermsL H vs ts → TermsL H' vs ts
  | [], _, h => h
  | _ :: _, _, ⟨b, p, us, e1, e2, e3, e4⟩ => ⟨b, p, us, e1, e2, t _ _ e3, e4.tk t⟩
theorem TermsL.app {H : Hp} : ∀ {vs ws : List V} {ts us : Terms}, TermsL H vs ts → TermsL H ws us → TermsL H (vs ++ ws) (ts ++ us)
  | [], ws, ts, us, h, h' => by rw [show ts = [] from h]; exact h'
  | _ :: _, ws, _, us, ⟨b, p, qs, e1, e2, e3, e4⟩, h' => ⟨b, p, qs ++ us, by rw [e1]; rfl, e2, e3, e4.app h'⟩
theorem TermsL.length {H : Hp} : ∀ {vs : List V} {ts : Terms}, TermsL H vs ts → vs.length = ts.length
  | [], ts, h => by rw [show ts = [] from h]; rfl
  | _ :: _, _, ⟨b, p, qs, e1, e2, e3, e4⟩ => by rw [e1, List.length_cons, List.length_cons, e4.length]
theorem TermsL.one {H : Hp} {b : Addr} {x y : Int} (h : H b = some (.tup [.int x, .int y])) : TermsL H [.ref b] [(x, y)] := ⟨b, (x, y), [], rfl, rfl, h, rfl⟩
theorem TermsL.at {H : Hp} : ∀ {vs : List V} {ts : Terms} (i : Nat) {v : V}, TermsL H vs ts → vs[i]? = some v → ∃ b p, v = .ref b ∧ ts[i]? = some p ∧ H b = some (.tup [.int p.1, .int p.2])
  | [], _, _, _, _, h => by cases h
  | _ :: _, _, 0, _, ⟨b, p, qs, e1, e2, e3, e4⟩, h => by
    cases h
    exact ⟨b, p, e2, by rw [e1]; rfl, e3⟩
  | _ :: _, _, i + 1, v, ⟨b, p, qs, e1, e2, e3, e4⟩, h => by
    obtain ⟨b', p', x1, x2, x3⟩ := TermsL.at i e4 h
    exact ⟨b', p', x1, by rw [e1]; exact x2, x3⟩
/-- a list of pairs of ints -/
def TermsAt (H : Hp) (l : Addr) (ts : Terms) : Prop := ∃ vs, H l = some (.lst vs) ∧ TermsL H vs ts
theorem TermsAt.same {H H' : Hp} {l : Addr} {ts : Terms} (h : TermsAt H l ts) (s : Same H H') : TermsAt H' l ts := let ⟨vs, e, e2⟩ := h; ⟨vs, s _ _ e, e2.tk (Tk.same s)⟩
theorem TermsAt.nil {H : Hp} {l : Addr} (h : TermsAt H l []) : H l = some (.lst []) := by
  obtain ⟨as, e, e2⟩ := h
  cases as with
  | nil => exact e
  | cons a r => obtain ⟨_, _, _, e, _⟩ := e2; cases e
/-! ### the same as data -/
def pairD (p : Int × Int) : PyData := .tuple [.int p.1, .int p.2]
theorem TermsL.dp {K : PySem.W.Frag} {H : Hp} : ∀ {vs : List V} {ts : Terms}, TermsL H vs ts → DpAll K H vs (ts.map pairD)
  | [], ts, h => by rw [show ts = [] from h]; exact .nil
  | _ :: _, _, ⟨b, p, qs, e1, e2, e3, e4⟩ => by
    subst e1 e2
    exact .cons (.tup (.of e3) (.cons (.int _) (.cons (.int _) .nil))) e4.dp
theorem TermsAt.dp {K : PySem.W.Frag} {H : Hp} {l : Addr} {ts : Terms} (h : TermsAt H l ts) : Dp K H (.ref l) (.list (ts.map pairD)) := let ⟨_, e, e2⟩ := h; .lst (.of e) e2.dp
/-- data that == can walk -/
def Lay (n : Nat) (d : PyData) : Prop := d.canLay0 = true ∧ d.depth ≤ n
theorem Lay.mono {m n : Nat} {d : PyData} (h : Lay m d) (l : m ≤ n) : Lay n d := ⟨h.1, Nat.le_trans h.2 l⟩
theorem layAll {n : Nat} : ∀ {xs : List PyData}, (∀ x ∈ xs, Lay n x) → PyData.canLayAll0 xs = true ∧ PyData.depthAll xs ≤ n
  | [], _ => by simp [PyData.canLayAll0, PyData.depthAll]
  | x :: xs, h => by
    obtain ⟨h1, h2⟩ := h x List.mem_cons_self
    obtain ⟨h3, h4⟩ := layAll fun y hy => h y (List.mem_cons_of_mem _ hy)
    rw [PyData.canLayAll0, PyData.depthAll, h1, h3]
    exact ⟨rfl, Nat.max_le.mpr ⟨h2, h4⟩⟩
theorem Lay.list {n : Nat} {xs : List PyData} (h : ∀ x ∈ xs, Lay n x) : Lay (n + 1) (.list xs) := by
  obtain ⟨h1, h2⟩ := layAll h
  exact ⟨by rw [PyData.canLay0]; exact h1, by rw [PyData.depth]; omega⟩
theorem Lay.tuple {n : Nat} {xs : List PyData} (h : ∀ x ∈ xs, Lay n x) : Lay (n + 1) (.tuple xs) := by
  obtain ⟨h1, h2⟩ := layAll h
  exact ⟨by rw [PyData.canLay0]; exact h1, by rw [PyData.depth]; omega⟩
theorem Lay.int {n : Nat} (i : Int) : Lay n (.int i) := ⟨by simp [PyData.canLay0], by simp [PyData.depth]⟩
theorem Lay.shaped {n : Nat} {d : PyData} (h : Lay n d) (l : n ≤ 64) : SeqAt.shaped d = true := by
  unfold SeqAt.shaped
  rw [h.1, decide_eq_true (Nat.le_trans h.2 l)]
  rfl
theorem free_upd {H : Hp} {p D : Addr} {o : HO} (h : upd H p o D = none) : H D = none := by
  by_cases e : D = p
  · subst e; rw [upd_same] at h; cases h
  · rw [upd_ne e] at h; exact h
theorem free_same {H H' : Hp} {D : Addr} (s : Same H H') (h : H' D = none) : H D = none := by
  cases e : H D with
  | none => rfl
  | some o => rw [s _ _ e] at h; cases h
section
variable {X : Cx} {K : PySem.W.Frag}
theorem op_in_seqK (h : X.K = K := by rfl) : OpR X (compareOp .In) (rIn K false) := by subst h; exact op_in_seq
end
theorem TermsAt.none {H : Hp} {l : Addr} (h : H l = some (.lst [])) : TermsAt H l [] := ⟨[], h, rfl⟩
def spTerms : Sp := fun vs H Q _ => ∃ (a : Addr) (n : Nat) (c : Int → Int), vs = [.ref a] ∧ JarAt H a n c ∧ n ≤ 90000 ∧
  ∀ l ts H', H l = none → Same H H' → Canon ts → (∀ k, cof ts k = c k) → ts.length ≤ n → TermsAt H' l ts → Q (.ref l) H'
/-! ### is not None -/
end My

set_option Elab.async false
set_option linter.all false
set_option maxRecDepth 100000
namespace My
open PySem PySem.Spec PyProof.Rows L2
/-! ### iter(t), t a tuple -/
section
variable {X : Cx} {pins : List (Addr × Obj)} {σ : L2.St} {H : Hp} {s : Shared} {Q : VK} {C : Addr} {m : Str} {k : Nat} {ps : List Str} {sp : Sp} {tg l : Expr} {tl : TE}
end
/-! ### a def whose promise knows the state at its entry -/
section
variable {X : Cx} {pins : List (Addr × Obj)} {σ : L2.St} {H : Hp} {s : Shared} {Q : VK} {C : Addr} {m : Str} {k : Nat} {ps : List Str} {f : Addr} {fd : FuncData} {tg l : Expr} {tl : TE}
/-- for y in x, x an instance of the class at C whose __iter__ gives iter(the tuple of a field) -/
def iOwn (K : PySem.W.Frag) (C : Addr) (fld : Str) (tl : TE) : TI := fun σ H R => tl σ H fun x H1 => ∃ a dx fs b ys, x = .ref a ∧ H1 a = some (.ins C dx fs) ∧ fs.lookup fld = some (.ref b) ∧ SqT K H1 b ys ∧ R (Itt K b) H1
end
end My

set_option Elab.async false
set_option linter.all false
set_option maxRecDepth 100000
namespace PySem.W
open Lean Elab Tactic Meta PySem PySem.Calls PyProof.Rows
section
variable {prog : Program} {w : World} {A : Around} {E : Value → Shared → Prop} {s : Shared} {K : Frag} {x C L f dx : Addr} {h₀ : Heap} {m : Str → Option Value} {nm T : String} {i : Int} {t : Tok}
end
end PySem.W
namespace PySem.W
open Lean Elab Tactic Meta PySem PySem.Calls PyProof.Rows
/-- the class at C stands over object alone -/
def plainMro (K : Frag) (C : Addr) : Bool := (clsIn K C).any fun cd => cd.mro == [.ref C, .type "object"]
section
variable {prog : Program} {w : World} {M : Model} {A : Around} {E : Value → Shared → Prop} {s : Shared} {K : Frag} {x C L f dx : Addr} {h₀ : Heap} {m : Str → Option Value} {nm : String} {ox : Obj} {od : Option Obj}
end
end PySem.W
namespace PySem.W
open Lean Elab Tactic Meta PySem PySem.Calls PyProof.Rows
section
variable {prog : Program} {w : World} {A : Around} {E : Value → Shared → Prop} {s : Shared} {K : Frag} {x C L f dx : Addr} {h₀ : Heap} {m : Str → Option Value} {nm' T : String} {ox : Obj} {od : Option Obj}
end
end PySem.W
namespace My
open PySem PySem.Spec PyProof.Rows L2
section
variable {X : Cx} {pins : List (Addr × Obj)} {σ : L2.St} {H : Hp} {s : Shared} {Q : VK} {C : Addr} {m : Str} {k : Nat} {ps : List Str} {sp : Sp} {f : Addr} {fd : FuncData}
end
end My

set_option Elab.async false
set_option linter.all false
set_option maxRecDepth 100000
namespace My
open PySem PySem.Spec PyProof.Rows L2
/-! ### properties, methods and makings by name -/
structure HasC (P : Program) (w : World) (K : PySem.W.Frag) (mg : Str → Option Value) (base : Heap) (x : Str) (C : Addr) (k : Nat) (ps : List Str) (sp : Sp) : Prop where
  ex : ∃ f fd, FnOk P w K mg base CX0 k f fd ps sp ∧ Mk K C f ∧ mg x = some (.ref C) ∧ Binds K fd ps []
section
variable {X : Cx} {C : Addr} {m x : Str} {k : Nat} {ps : List Str} {sp : Sp} {e o : Expr} {es : List Expr} {p pos apos : Pos} {ta : TE} {t : TA}
theorem pe_makeH (h : HasC X.prog X.w X.K X.mg X.base x C k ps sp) (hr : Room (k + 1) X.A) (ha : PA X (e :: es) t) (hg : Gl X x := by rfl) (hdb : (x == ("__debug__" : Str)) = false := by decide)
    (he : starEach (e :: es) X.env = (false, eval e X.env) :: starEach es X.env := by rfl) (hpl : (backTo pos (starEach es X.env)).any (·.1) = false := by rfl) : PE X (.Call (.Name x p) (e :: es) [] pos) (tMake C sp [] E0 t) := by
  obtain ⟨f, fd, F, M, hm, b⟩ := h.ex
  exact pe_make M F hr hg hm b .nil pass0 ha hdb he hpl
end
section
variable {σ : L2.St} {H : Hp} {Q : VK} {C : Addr} {m : Str} {sp : Sp} {E : XK} {ta : TE} {t : TA} {K : PySem.W.Frag} {f : Str} {R : It → Hp → Prop} {D : Ends} {te : TE}
theorem r_prop (q : ta σ H fun x H1 => ∃ a dx fs, x = .ref a ∧ H1 a = some (.ins C dx fs) ∧ sp [.ref a] H1 Q E) : tProp C sp [] E ta σ H Q := q
theorem r_meth (q : ta σ H fun x H1 => ∃ a dx fs, x = .ref a ∧ H1 a = some (.ins C dx fs) ∧ fs.lookup m = none ∧ t σ H1 fun vs H2 => sp (x :: vs) H2 Q E) : tMeth C m sp [] E ta t σ H Q := by
  unfold tMeth
  simpa only [List.append_nil] using q
theorem r_make (q : t σ H fun vs H1 => ∀ x dx, H1 x = none → H1 dx = none → dx ≠ x → sp (.ref x :: vs) (upd (upd H1 dx (.own x)) x (.ins C dx [])) (fun v H2 => v = .non ∧ Q (.ref x) H2) E) : tMake C sp [] E t σ H Q := by
  unfold tMake
  simpa only [List.append_nil] using q
theorem r_iOwn (q : ta σ H fun x H1 => ∃ a dx fs b ys, x = .ref a ∧ H1 a = some (.ins C dx fs) ∧ fs.lookup f = some (.ref b) ∧ SqT K H1 b ys ∧ R (Itt K b) H1) : iOwn K C f ta σ H R := q
theorem r_sfld (q : te σ H fun v H1 => ta σ H1 fun x H2 => ∃ a C dx fs, x = .ref a ∧ H2 a = some (.ins C dx fs) ∧ Cls K C ∧ NoAttr K C f ∧ fs.length < 1000 ∧ D.nx σ (upd H2 a (.ins C dx (putF f v fs)))) : sFld K ta te f D σ H := q
theorem r_fld (q : ta σ H fun x H1 => ∃ a C dx fs v, x = .ref a ∧ H1 a = some (.ins C dx fs) ∧ Cls K C ∧ NoAttr K C f ∧ fs.lookup f = some v ∧ Q v H1) : tFld K ta f σ H Q := q
end
theorem pe_fldK {X : Cx} {K : PySem.W.Frag} {e : Expr} {f : Str} {pos : Pos} {ta : TE} (he : PE X e ta) (h : X.K = K := by rfl) (hb : attributeBase e f X.env (eval e X.env) = eval e X.env := by rfl) : PE X (.Attribute e f pos) (tFld K ta f) := by subst h; exact pe_fld he hb
section
variable {X : Cx} {K : PySem.W.Frag} {C : Addr} {k : Nat} {ps : List Str} {sp : Sp} {fld : Str} {tg l : Expr} {tl : TE}
end
/-! ### polynomials -/
/-- what the text has made of the class Poly -/
structure PolyT (K : PySem.W.Frag) (mg : Str → Option Value) (C : Addr) : Prop where
  cl : Cls K C
  nR : NoAttr K C "rows"
  mgC : mg "Poly" = some (.ref C)
  self : PySem.W.selfFirst K C = true
  mro : PySem.W.plainMro K C = true
  ca : PySem.W.findIn K (.ref C) "__class__" = some (some (.builtin "object.__class__"))
  cn : PySem.W.specialIn K (.builtin "object.__class__") "__get__" = some (some (.builtin "getset_descriptor.__get__"))
  ct : PySem.W.takesIn K (.builtin "object.__class__") = some true
  cm : PySem.W.mroIn K C (.type "object") = some true
  cs : ∃ cd, PySem.W.clsIn K C = some cd
  ty : PySem.W.typeIn K (.ref C) = some (.type "type")
  sInt : PySem.W.subIn K (.type "int") (.ref C) = some false
  sBool : PySem.W.subIn K (.type "bool") (.ref C) = some false
  sStr : PySem.W.subIn K (.type "str") (.ref C) = some false
  sList : PySem.W.subIn K (.type "list") (.ref C) = some false
  sTup : PySem.W.subIn K (.type "tuple") (.ref C) = some false
  sNone : PySem.W.subIn K (.type "NoneType") (.ref C) = some false
  tInt : PySem.W.subIn K (.ref C) (.type "int") = some false
  tBool : PySem.W.subIn K (.ref C) (.type "bool") = some false
  tList : PySem.W.subIn K (.ref C) (.type "list") = some false
  tTup : PySem.W.subIn K (.ref C) (.type "tuple") = some false
theorem kit_no {K : PySem.W.Frag} {C : Addr} {t : Value} (cs : ∃ cd, PySem.W.clsIn K C = some cd) (ty : PySem.W.typeIn K (.ref C) = some (.type "type")) (s : PySem.W.subIn K t (.ref C) = some false) (ne : (t == .ref C) = false) : PySem.W.kitOne K t (.ref C) = some false := by
  obtain ⟨cd, e⟩ := cs
  unfold PySem.W.kitOne PySem.W.kitCls
  rw [ne, if_neg Bool.false_ne_true]
  show (if ((PySem.W.clsIn K C).isSome && PySem.W.typeIn K (.ref C) == some (.type "type")) = true then PySem.W.subIn K t (.ref C) else none) = some false
  rw [e, ty, if_pos (by simp)]
  exact s
theorem kit_self {K : PySem.W.Frag} {C : Addr} : PySem.W.kitOne K (.ref C) (.ref C) = some true := by
  unfold PySem.W.kitOne
  rw [if_pos (beq_self_eq_true _)]
/-- a polynomial with these terms -/
def PolyAt (C : Addr) (H : Hp) (a : Addr) (ts : Terms) : Prop := ∃ dx r vs, H a = some (.ins C dx [("rows", .ref r)]) ∧ H r = some (.tup vs) ∧ TermsL H vs ts ∧ Canon ts
theorem rows_look {v : V} : ([(("rows" : Str), v)] : List (Str × V)).lookup ("rows" : Str) = some v := by simp [List.lookup]
/-- what is neither a list nor a dict stays -/
def Stay (H H' : Hp) : Prop := ∀ c o, (∀ xs, o ≠ .lst xs) → (∀ kvs, o ≠ .dK kvs) → H c = some o → H' c = some o
theorem Stay.tk {H H' : Hp} (s : Stay H H') : Tk H H' := fun c xs e => s c _ (by intro _ z; cases z) (by intro _ z; cases z) e
theorem Stay.same {H H' : Hp} (s : Same H H') : Stay H H' := fun c o _ _ e => s c o e
theorem Stay.but {H H' : Hp} {a : Addr} {xs : List V} (b : But a H H') (h : H a = some (.lst xs)) : Stay H H' := fun c o n _ e => b c o (by rintro rfl; rw [h] at e; cases e; exact n _ rfl) e
theorem Stay.bag {H H' : Hp} {a : Addr} (b : But a H H') (h : Bag H a) : Stay H H' := let ⟨_, _, _, e, _⟩ := h; Stay.but b e
theorem Stay.trans {H H1 H2 : Hp} (s : Stay H H1) (t : Stay H1 H2) : Stay H H2 := fun c o n m e => t c o n m (s c o n m e)
theorem Stay.refl (H : Hp) : Stay H H := fun _ _ _ _ e => e
theorem Stay.new {H H' : Hp} {p : Addr} {o : HO} (h : Stay H H') (n : H' p = none) : Stay H (upd H' p o) := fun c u x y e => h_keep (h c u x y e) n
theorem Stay.lst {H H' : Hp} {p : Addr} {l : List V} {o : HO} (h : Stay H H') (n : H' p = some (.lst l)) : Stay H (upd H' p o) := fun c u x y e => by
  have q := h c u x y e
  refine (upd_ne ?_).trans q
  rintro rfl
  rw [n] at q
  cases q
  exact x _ rfl
theorem PolyAt.stay {C : Addr} {H H' : Hp} {a : Addr} {ts : Terms} (h : PolyAt C H a ts) (s : Stay H H') : PolyAt C H' a ts := let ⟨dx, r, vs, h1, h2, h3, h4⟩ := h; ⟨dx, r, vs, s _ _ (by intro _ z; cases z) (by intro _ z; cases z) h1, s.tk _ _ h2, h3.tk s.tk, h4⟩
theorem PolyAt.same {C : Addr} {H H' : Hp} {a : Addr} {ts : Terms} (h : PolyAt C H a ts) (s : Same H H') : PolyAt C H' a ts := h.stay (.same s)
section
variable {K : PySem.W.Frag} {mg : Str → Option Value} {C : Addr} {H : Hp} {Q : VK} {a : Addr} {ts : Terms}
theorem ty_poly (T : PolyT K mg C) {dx : Addr} {fs : List (Str × V)} (h : H a = some (.ins C dx fs)) : TyX K H (.ref a) (.ref C) := .base (.ins h T.cl T.ca T.cn T.ct T.cm)
theorem r_isPoly (T : PolyT K mg C) {dx : Addr} {fs : List (Str × V)} (h : H a = some (.ins C dx fs)) (q : Q (.bl true) H) : rIsi K [.ref a, .ref C] H Q := ⟨_, _, _, _, true, rfl, .own C, ty_poly T h, kit_self, q⟩
theorem r_isPolyI (T : PolyT K mg C) {i : Int} (q : Q (.bl false) H) : rIsi K [.int i, .ref C] H Q := ⟨_, _, _, _, false, rfl, .own C, ty_int, kit_no T.cs T.ty T.sInt rfl, q⟩
theorem kit_bi {K : PySem.W.Frag} {C : Addr} {t : String} (m : PySem.W.kitMeta t = true) (s : PySem.W.subIn K (.ref C) (.type t) = some false) : PySem.W.kitOne K (.ref C) (.type t) = some false := by
  unfold PySem.W.kitOne PySem.W.kitCls
  rw [if_neg (by simp)]
  show (if PySem.W.kitMeta t = true then PySem.W.subIn K (.ref C) (.type t) else none) = some false
  rw [if_pos m]
  exact s
theorem r_polyInt (T : PolyT K mg C) {dx : Addr} {fs : List (Str × V)} (h : H a = some (.ins C dx fs)) (q : Q (.bl false) H) : rIsi K [.ref a, .ty "int"] H Q := ⟨_, _, _, _, false, rfl, .ty _, ty_poly T h, kit_bi (by decide +kernel) T.tInt, q⟩
end
theorem u_rowsAt {K : PySem.W.Frag} {mg : Str → Option Value} {C : Addr} {H : Hp} {a : Addr} {dx : Addr} {fv : V} (T : PolyT K mg C) (h : H a = some (.ins C dx [("rows", fv)])) {R : V → Prop} (q : R fv) :
    ∃ b D dx fs v, V.ref a = .ref b ∧ H b = some (.ins D dx fs) ∧ Cls K D ∧ NoAttr K D "rows" ∧ fs.lookup ("rows" : Str) = some v ∧ R v := ⟨a, C, dx, _, fv, rfl, h, T.cl, T.nR, rows_look, q⟩
/-! ### promises -/
def spIsTerm : Sp := fun vs H Q _ => ∃ (p : Addr) (x y : Int), vs = [.ref p] ∧ H p = some (.tup [.int x, .int y]) ∧ Q (.bl true) H
def spSummed : Sp := fun vs H Q _ => ∃ (l : Addr) (ts : Terms), vs = [.ref l] ∧ TermsAt H l ts ∧ ts.length ≤ 90000 ∧
  ∀ r us ws H', H r = none → Same H H' → H' r = some (.tup ws) → TermsL H' ws us → Canon us → (∀ k, cof us k = cof ts k) → us.length ≤ ts.length → Q (.ref r) H'
def spInit (C : Addr) : Sp := fun vs H Q _ => ∃ (x dx l : Addr) (ts : Terms), vs = [.ref x, .ref l] ∧ H x = some (.ins C dx []) ∧ TermsAt H l ts ∧ ts.length ≤ 90000 ∧
  ∀ us H', But x H H' → PolyAt C H' x us → (∀ k, cof us k = cof ts k) → us.length ≤ ts.length → Q .non H'
/-- Poly(..) -/
theorem u_poly {C : Addr} {H : Hp} {R : Addr → Hp → Prop} {E : XK} {l : Addr} {ts : Terms} (h : TermsAt H l ts) (hn : ts.length ≤ 90000) (q : ∀ a us H', H a = none → Same H H' → PolyAt C H' a us → (∀ k, cof us k = cof ts k) → us.length ≤ ts.length → R a H') :
    ∀ x dx, H x = none → H dx = none → dx ≠ x → spInit C [.ref x, .ref l] (upd (upd H dx (.own x)) x (.ins C dx [])) (fun v H2 => v = .non ∧ R x H2) E := by
  intro x dx nx ndx ne
  have s1 : Same H (upd (upd H dx (.own x)) x (.ins C dx [])) := Same.put (Same.new0 ndx) nx
  refine ⟨x, dx, l, ts, rfl, upd_same, h.same s1, hn, fun us H' b hp hc hl => ⟨rfl, ?_⟩⟩
  exact q x us H' nx (Same.but2 s1 nx b) hp hc hl
/-- v stands for the polynomial with the numbers c: a Poly, or an int -/
def IsVal (C : Addr) (H : Hp) (v : V) (c : Int → Int) (n : Nat) : Prop := (∃ a ts, v = .ref a ∧ PolyAt C H a ts ∧ (∀ k, cof ts k = c k) ∧ ts.length ≤ n) ∨ (∃ i, v = .int i ∧ (∀ k, c k = if k = 0 then i else 0) ∧ 1 ≤ n)
theorem IsVal.same {C : Addr} {H H' : Hp} {v : V} {c : Int → Int} {n : Nat} (h : IsVal C H v c n) (s : Same H H') : IsVal C H' v c n := by
  rcases h with ⟨a, ts, e, ha, r⟩ | h
  · exact .inl ⟨a, ts, e, ha.same s, r⟩
  · exact .inr h
def spPLen (C : Addr) : Sp := fun vs H Q _ => ∃ a ts, vs = [.ref a] ∧ PolyAt C H a ts ∧ Q (.int ts.length) H
end My

set_option Elab.async false
set_option linter.all false
set_option maxRecDepth 100000
namespace My
open PySem PySem.Spec PyProof.Rows L2
/-! ### o.m(k = v, ..), C(k = v, ..): all by name -/
structure KB1 (K : PySem.W.Frag) (fd : FuncData) (ps ks : List Str) : Prop where
  to : ∀ (s : Shared) (u : Value) (ws : List Value), K.In s.heap → ws.length = ks.length → BindsTo s fd ⟨[u], ks.zip ws⟩ (ps.zip (u :: ws))
section
variable {X : Cx} {C f : Addr} {fd : FuncData} {m x : Str} {k : Nat} {ps ks : List Str} {sp : Sp} {o : Expr} {kws : List Keyword} {p pos apos : Pos} {ta : TE} {tk : TA}
end
end My

set_option Elab.async false
set_option linter.all false
set_option maxRecDepth 100000
set_option maxHeartbeats 2000000
namespace My
open PySem PySem.Spec PyProof.Rows L2
/-! ### C(..) whose __init__ may raise -/
structure HasCX (P : Program) (w : World) (K : PySem.W.Frag) (mg : Str → Option Value) (base : Heap) (x : Str) (C : Addr) (k : Nat) (ps ks : List Str) (sp : Sp) : Prop where
  ex : ∃ f fd, FnOk P w K mg base (L2.CX P w) k f fd ps sp ∧ Mk K C f ∧ mg x = some (.ref C) ∧ Binds K fd ps [] ∧ KB1 K fd ps ks
theorem HasCX.calm {P : Program} {w : World} {K : PySem.W.Frag} {mg : Str → Option Value} {base : Heap} {x : Str} {C : Addr} {k : Nat} {ps ks : List Str} {sp : Sp} (h : HasCX P w K mg base x C k ps ks sp) : HasC P w K mg base x C k ps (fun vs H Q _ => sp vs H Q E0) := by
  obtain ⟨f, fd, F, a, b, c, _⟩ := h.ex
  exact ⟨f, fd, fnOk_calm F, a, b, c⟩
theorem HasC.imp {P : Program} {w : World} {K : PySem.W.Frag} {mg : Str → Option Value} {base : Heap} {x : Str} {C : Addr} {k : Nat} {ps : List Str} {sp sp' : Sp} (h : HasC P w K mg base x C k ps sp) (i : ∀ vs H Q E, sp' vs H Q E → sp vs H Q E) : HasC P w K mg base x C k ps sp' := by
  obtain ⟨f, fd, F, a, b, c⟩ := h.ex
  exact ⟨f, fd, F.imp i, a, b, c⟩
section
variable {X : Cx} {C f : Addr} {fd : FuncData} {x : Str} {k : Nat} {ps ks : List Str} {sp : Sp} {e : Expr} {es : List Expr} {kws : List Keyword} {p pos : Pos} {t tk : TA} {W : WX} {σ : L2.St} {H : Hp} {Q : VK}
end
/-! ### values that are no terms, no lists of terms -/
section
variable {K : PySem.W.Frag} {H H' : Hp} {v : V}
/-- of a type that is not T -/
def NotTy (K : PySem.W.Frag) (T : String) (H : Hp) (v : V) : Prop := ∃ t, TyE K H v t ∧ PySem.W.kitOne K t (.type T) = some false
def NotTerm (K : PySem.W.Frag) (H : Hp) (v : V) : Prop := NotTy K "tuple" H v ∨ ∃ p xs, v = .ref p ∧ H p = some (.tup xs) ∧ (xs.length ≠ 2 ∧ xs.length ≤ 1000 ∨ ∃ x y, xs = [x, y] ∧ (NotInt K H x ∨ ∃ i, x = .int i ∧ NotInt K H y))
def IsTerm (H : Hp) (v : V) : Prop := ∃ p x y, v = .ref p ∧ H p = some (.tup [.int x, .int y])
def BadList (K : PySem.W.Frag) (H : Hp) (v : V) : Prop := NotTy K "list" H v ∨ ∃ l xs, v = .ref l ∧ H l = some (.lst xs) ∧ xs.length ≤ 1000 ∧ (∀ x ∈ xs, (∀ H', Same H H' → NotTerm K H' x) ∨ IsTerm H x) ∧ ∃ x ∈ xs, ∀ H', Same H H' → NotTerm K H' x
end
end My

set_option Elab.async false
set_option linter.all false
set_option maxRecDepth 100000
set_option maxHeartbeats 2000000
namespace My
open PySem PySem.Spec PyProof.Rows L2
section
variable {K : PySem.W.Frag} {mg : Str → Option Value} {C : Addr} {H H' : Hp} {b p q l D : Addr} {x y v : V} {xs : List V}
theorem nb_tup (hb : Bag H b) (h : H p = some (.tup xs)) : p ≠ b := by
  rintro rfl
  obtain ⟨_, _, _, e, _⟩ := hb
  rw [h] at e; cases e
/-- whatever the bag does, v is no integer, no term, no list of terms -/
def NotIntB (K : PySem.W.Frag) (H : Hp) (b : Addr) (v : V) : Prop := ∀ H', But b H H' → NotInt K H' v
def WrongB (K : PySem.W.Frag) (H : Hp) (b : Addr) (v : V) : Prop := ∀ H', But b H H' → NotTerm K H' v
def BadB (K : PySem.W.Frag) (H : Hp) (b : Addr) (v : V) : Prop := ∀ H', But b H H' → BadList K H' v
theorem NotIntB.but (h : NotIntB K H b v) (s : But b H H') : NotIntB K H' b v := fun H2 s2 => h H2 (s.trans s2)
theorem WrongB.but (h : WrongB K H b v) (s : But b H H') : WrongB K H' b v := fun H2 s2 => h H2 (s.trans s2)
theorem BadB.but (h : BadB K H b v) (s : But b H H') : BadB K H' b v := fun H2 s2 => h H2 (s.trans s2)
theorem BadB.now (h : BadB K H b v) : BadList K H v := h H (But.refl _ _)
theorem WrongB.all (h : WrongB K H b v) : ∀ H', Same H H' → NotTerm K H' v := fun H' s => h H' (Same.but s b)
theorem kk {a c : String} (h : kitB a c = some false) : PySem.W.kitOne K (.type a) (.type c) = some false := kit_ty h
theorem atI_mem {xs : List V} {n : Int} (h0 : 0 ≤ n) (h1 : n < xs.length) : ∃ v, v ∈ xs ∧ atI xs n = some v := by
  have h2 : n.toNat < xs.length := by omega
  refine ⟨xs[n.toNat], List.getElem_mem h2, ?_⟩
  unfold atI ixN
  rw [if_pos h0, if_pos h1]
  exact List.getElem?_eq_getElem h2
/-! ### lists of truths as data -/
end
end My

set_option Elab.async false
set_option linter.all false
set_option maxRecDepth 100000
set_option maxHeartbeats 4000000
namespace My
open PySem PySem.Spec PyProof.Rows L2
/-! ### any values, and whether they are programs -/
/-- the type of v is told, and no one of T -/
def NoTy (K : PySem.W.Frag) (H : Hp) (v : V) (T : String) : Prop := ∃ t, TyE K H v t ∧ PySem.W.kitOne K t (.type T) = some false
/-- what changes are lists and dicts alone, and they stay such -/
def St (H H' : Hp) : Prop := ∀ a o, H a = some o → H' a = some o ∨ (∃ xs ys, o = .lst xs ∧ H' a = some (.lst ys)) ∨ (∃ xs ys, o = .dK xs ∧ H' a = some (.dK ys))
theorem St.refl (H : Hp) : St H H := fun _ _ h => .inl h
theorem St.same {H H' : Hp} (s : Same H H') : St H H' := fun a o h => .inl (s a o h)
theorem St.trans {H H1 H2 : Hp} (s : St H H1) (t : St H1 H2) : St H H2 := fun a o h => by
  rcases s a o h with h1 | ⟨xs, ys, rfl, h1⟩ | ⟨xs, ys, rfl, h1⟩
  · exact t a o h1
  · rcases t a _ h1 with h2 | ⟨xs', ys', e, h2⟩ | ⟨xs', ys', e, h2⟩
    · exact .inr (.inl ⟨xs, ys, rfl, h2⟩)
    · exact .inr (.inl ⟨xs, ys', rfl, h2⟩)
    · cases e
  · rcases t a _ h1 with h2 | ⟨xs', ys', e, h2⟩ | ⟨xs', ys', e, h2⟩
    · exact .inr (.inr ⟨xs, ys, rfl, h2⟩)
    · cases e
    · exact .inr (.inr ⟨xs, ys', rfl, h2⟩)
theorem St.bag {H H' : Hp} {b : Addr} (s : But b H H') (h : Bag H b) (h' : Bag H' b) : St H H' := fun a o e => by
  by_cases z : a = b
  · subst z
    obtain ⟨x, y, z, e1, _⟩ := h
    obtain ⟨x', y', z', e2, _⟩ := h'
    rw [e1] at e; cases e
    exact .inr (.inl ⟨_, _, rfl, e2⟩)
  · exact .inl (s a o z e)
theorem St.tk {H H' : Hp} (s : St H H') : Tk H H' := fun c xs e => by
  rcases s c _ e with h | ⟨_, _, z, _⟩ | ⟨_, _, z, _⟩
  · exact h
  · cases z
  · cases z
theorem St.put {H H' : Hp} {l : Addr} {xs ys : List V} (s : St H H') (h : H' l = some (.lst xs)) : St H (upd H' l (.lst ys)) := s.trans fun a o e => by
  by_cases z : a = l
  · subst z; rw [h] at e; cases e; exact .inr (.inl ⟨_, _, rfl, upd_same⟩)
  · exact .inl ((upd_ne z).trans e)
theorem TyE.st {K : PySem.W.Frag} {H H' : Hp} {v : V} {t : Value} (s : St H H') (h : TyE K H v t) : TyE K H' v t := by
  have key : ∀ {a : Addr} {o : HO}, (∀ xs, o ≠ .lst xs) → (∀ xs, o ≠ .dK xs) → H a = some o → H' a = some o := fun {a o} n m e => by
    rcases s a o e with h | ⟨xs, _, z, _⟩ | ⟨xs, _, z, _⟩
    · exact h
    · exact absurd z (n xs)
    · exact absurd z (m xs)
  cases h with
  | x h =>
    refine .x ?_
    cases h with
    | base h =>
      refine .base ?_
      cases h with
      | non => exact .non
      | bl x => exact .bl x
      | int i => exact .int i
      | str x => exact .str x
      | flt x => exact .flt x
      | lst e =>
        rcases s _ _ e with h | ⟨xs, ys, z, h⟩ | ⟨xs, ys, z, h⟩
        · exact .lst h
        · exact .lst h
        · cases z
      | frz e => exact .frz (key (by intro _ z; cases z) (by intro _ z; cases z) e)
      | tup e => exact .tup (key (by intro _ z; cases z) (by intro _ z; cases z) e)
      | dK e =>
        rcases s _ _ e with h | ⟨xs, ys, z, h⟩ | ⟨xs, ys, z, h⟩
        · exact .dK h
        · cases z
        · exact .dK h
      | dT e => exact .dT (key (by intro _ z; cases z) (by intro _ z; cases z) e)
      | ins e a b c d f => exact .ins (key (by intro _ z; cases z) (by intro _ z; cases z) e) a b c d f
    | byt b => exact .byt b
    | set e => exact .set (key (by intro _ z; cases z) (by intro _ z; cases z) e)
    | kList a b => exact .kList a b
    | kTuple a b => exact .kTuple a b
    | kDict a b => exact .kDict a b
    | fTuple e => exact .fTuple (key (by intro _ z; cases z) (by intro _ z; cases z) e)
    | fDict e => exact .fDict (key (by intro _ z; cases z) (by intro _ z; cases z) e)
  | exc e F => exact .exc (key (by intro _ z; cases z) (by intro _ z; cases z) e) F
  | exv e F => exact .exv (key (by intro _ z; cases z) (by intro _ z; cases z) e) F
  | exd e d F => exact .exd (key (by intro _ z; cases z) (by intro _ z; cases z) e) (key (by intro _ z; cases z) (by intro _ z; cases z) d) F
theorem NoTy.st {K : PySem.W.Frag} {H H' : Hp} {v : V} {T : String} (h : NoTy K H v T) (s : St H H') : NoTy K H' v T := let ⟨t, a, b⟩ := h; ⟨t, a.st s, b⟩
theorem NotInt.st {K : PySem.W.Frag} {H H' : Hp} {v : V} (h : NotInt K H v) (s : St H H') : NotInt K H' v := let ⟨t, b1, b2, a, r⟩ := h; ⟨t, b1, b2, a.st s, r⟩
/-- a value in the place of a name -/
def NmB (K : PySem.W.Frag) (H : Hp) (v : V) (b : Bool) : Prop := (∃ n, v = .str n ∧ n.length ≤ 100000 ∧ ((IsName n ∧ b = true) ∨ (¬ IsName n ∧ b = false))) ∨ (NoTy K H v "str" ∧ b = false)
/-- a value in the place of a command; R tells of a value in the place of a program -/
def CmF (K : PySem.W.Frag) (H : Hp) (R : V → Bool → Prop) (v : V) (b : Bool) : Prop :=
  (NoTy K H v "tuple" ∧ b = false) ∨ ∃ p xs, v = .ref p ∧ H p = some (.tup xs) ∧ xs.length ≤ 16000000 ∧ ((xs.length < 2 ∧ b = false) ∨ ∃ x ys, xs = x :: ys ∧ 1 ≤ ys.length ∧ ((NoTy K H x "str" ∧ b = false) ∨ ∃ w, x = .str w ∧
    ((w = "repeat" ∧ ((ys.length ≠ 2 ∧ b = false) ∨ ∃ c q, ys = [c, q] ∧ ((NotInt K H c ∧ b = false) ∨ ∃ n, c = .int n ∧ ((n < 1 ∧ b = false) ∨ (1 ≤ n ∧ R q b))))) ∨
     (w ≠ "repeat" ∧ ys.length ≠ 1 ∧ b = false) ∨
     (∃ y, ys = [y] ∧ ((w = "turn" ∧ ((NotInt K H y ∧ b = false) ∨ ∃ n, y = .int n ∧ b = true)) ∨ (w = "mirror" ∧ R y b) ∨
       (w ≠ "repeat" ∧ w ≠ "turn" ∧ w ≠ "mirror" ∧ ((¬ IsWord w ∧ b = false) ∨ (IsWord w ∧ NmB K H y b))))))))
/-- a value in the place of a program; R tells of its items -/
def PrF (K : PySem.W.Frag) (H : Hp) (R : V → Bool → Prop) (v : V) (b : Bool) : Prop :=
  (NoTy K H v "tuple" ∧ b = false) ∨ ∃ p xs, v = .ref p ∧ H p = some (.tup xs) ∧ ((xs = [] ∧ b = false) ∨ (1 ≤ xs.length ∧ xs.length ≤ 5000 ∧ ∃ bs : List Bool, Paired R xs bs ∧ b = bs.all id))
/-- at most so deep -/
def PrB (K : PySem.W.Frag) (H : Hp) : Nat → V → Bool → Prop
  | 0, _, _ => False
  | d + 1, v, b => PrF K H (CmF K H (PrB K H d)) v b
section
variable {K : PySem.W.Frag} {H H' : Hp} {R R' : V → Bool → Prop} {v : V} {b : Bool}
theorem NmB.st (h : NmB K H v b) (s : St H H') : NmB K H' v b := h.imp id fun ⟨a, e⟩ => ⟨a.st s, e⟩
theorem CmF.imp (s : St H H') (r : ∀ v b, R v b → R' v b) (h : CmF K H R v b) : CmF K H' R' v b := by
  rcases h with ⟨h, e⟩ | ⟨p, xs, e, hp, l, h⟩
  · exact .inl ⟨h.st s, e⟩
  · refine .inr ⟨p, xs, e, s.tk _ _ hp, l, ?_⟩
    rcases h with h | ⟨x, ys, e1, l1, h⟩
    · exact .inl h
    · refine .inr ⟨x, ys, e1, l1, ?_⟩
      rcases h with ⟨h, eb⟩ | ⟨w, ew, h⟩
      · exact .inl ⟨h.st s, eb⟩
      · refine .inr ⟨w, ew, ?_⟩
        rcases h with ⟨e2, h⟩ | h | ⟨y, ey, h⟩
        · refine .inl ⟨e2, ?_⟩
          rcases h with h | ⟨c, q, e3, h⟩
          · exact .inl h
          · refine .inr ⟨c, q, e3, ?_⟩
            rcases h with ⟨h, eb⟩ | ⟨n, en, h⟩
            · exact .inl ⟨h.st s, eb⟩
            · exact .inr ⟨n, en, h.imp id fun ⟨a, z⟩ => ⟨a, r _ _ z⟩⟩
        · exact .inr (.inl h)
        · refine .inr (.inr ⟨y, ey, ?_⟩)
          rcases h with ⟨e2, h⟩ | ⟨e2, h⟩ | ⟨a, a1, a2, h⟩
          · exact .inl ⟨e2, h.imp (fun ⟨z, eb⟩ => ⟨z.st s, eb⟩) id⟩
          · exact .inr (.inl ⟨e2, r _ _ h⟩)
          · exact .inr (.inr ⟨a, a1, a2, h.imp id fun ⟨z, q⟩ => ⟨z, q.st s⟩⟩)
theorem paired_imp (r : ∀ v b, R v b → R' v b) : ∀ {xs : List V} {bs : List Bool}, Paired R xs bs → Paired R' xs bs
  | _, _, .nil => .nil
  | _, _, .cons a t => .cons (r _ _ a) (paired_imp r t)
theorem PrF.imp (s : St H H') (r : ∀ v b, R v b → R' v b) (h : PrF K H R v b) : PrF K H' R' v b := by
  rcases h with ⟨h, e⟩ | ⟨p, xs, e, hp, h⟩
  · exact .inl ⟨h.st s, e⟩
  · refine .inr ⟨p, xs, e, s.tk _ _ hp, h.imp id fun ⟨l1, l2, bs, hb, eb⟩ => ⟨l1, l2, bs, paired_imp r hb, eb⟩⟩
theorem PrB.st (s : St H H') : ∀ {d : Nat} {v : V} {b : Bool}, PrB K H d v b → PrB K H' d v b
  | 0, _, _, h => h
  | d + 1, _, _, h => PrF.imp s (fun _ _ z => CmF.imp s (fun _ _ y => PrB.st s y) z) h
theorem PrB.up : ∀ {d : Nat} {v : V} {b : Bool}, PrB K H d v b → PrB K H (d + 1) v b
  | 0, _, _, h => h.elim
  | d + 1, _, _, h => PrF.imp (St.refl H) (fun _ _ z => CmF.imp (St.refl H) (fun _ _ y => PrB.up y) z) h
theorem PrB.mono {d e : Nat} (hd : d ≤ e) (h : PrB K H d v b) : PrB K H e v b := by
  induction hd with
  | refl => exact h
  | step _ ih => exact ih.up
/-- the first command of a right program -/
theorem First.cm {C T : Int} {d : Nat} {r r' : Prog} {x : V} (ih : ∀ e, d = e + 1 → ∀ {q : Addr} {p : Prog}, PrIs H q p → Wf C T e p → 1 ≤ p.len → p.len ≤ 4000 → PrB K H d (.ref q) true) (f : First H r x r') (w : Wf C T d r) : CmF K H (PrB K H d) x true := by
  cases r with
  | nil => exact f.elim
  | step w' n r =>
    obtain ⟨c, rfl, h1, rfl⟩ := f
    obtain ⟨w1, w2, w3⟩ := WfL.step_iff.mp w
    obtain ⟨n1, n2, n3⟩ := word_ne w1
    exact .inr ⟨c, _, rfl, h1, by simp, .inr ⟨_, _, rfl, by simp, .inr ⟨w', rfl, .inr (.inr ⟨_, rfl, .inr (.inr ⟨n1, n3, n2, .inr ⟨w1, .inl ⟨n, rfl, by rw [name_len w2]; decide, .inl ⟨w2, rfl⟩⟩⟩⟩)⟩)⟩⟩⟩
  | turn k r =>
    obtain ⟨c, rfl, h1, rfl⟩ := f
    exact .inr ⟨c, _, rfl, h1, by simp, .inr ⟨_, _, rfl, by simp, .inr ⟨_, rfl, .inr (.inr ⟨_, rfl, .inl ⟨rfl, .inr ⟨k, rfl, rfl⟩⟩⟩)⟩⟩⟩
  | rep k b r =>
    obtain ⟨c, q, rfl, h1, h2, rfl⟩ := f
    cases d with
    | zero => exact w.elim
    | succ d =>
      obtain ⟨w1, w2, w3, w4⟩ := w
      exact .inr ⟨c, _, rfl, h1, by simp, .inr ⟨_, _, rfl, by simp, .inr ⟨_, rfl, .inl ⟨rfl, .inr ⟨_, _, rfl, .inr ⟨k, rfl, .inr ⟨w1.1, ih d rfl h2 w3 w2.1 w2.2⟩⟩⟩⟩⟩⟩⟩
  | mir b r =>
    obtain ⟨c, q, rfl, h1, h2, rfl⟩ := f
    cases d with
    | zero => exact w.elim
    | succ d =>
      obtain ⟨w2, w3, w4⟩ := w
      exact .inr ⟨c, _, rfl, h1, by simp, .inr ⟨_, _, rfl, by simp, .inr ⟨_, rfl, .inr (.inr ⟨_, rfl, .inr (.inl ⟨rfl, ih d rfl h2 w3 w2.1 w2.2⟩)⟩)⟩⟩⟩
theorem first_wf' {C T : Int} {d : Nat} {r r' : Prog} {x : V} (h : First H r x r') (w : Wf C T d r) : Wf C T d r' := by
  cases r with
  | nil => exact h.elim
  | step w' n r => obtain ⟨c, rfl, h1, rfl⟩ := h; exact (WfL.step_iff.mp w).2.2
  | turn k r => obtain ⟨c, rfl, h1, rfl⟩ := h; exact (WfL.turn_iff.mp w).2
  | rep k b r =>
    obtain ⟨c, q, rfl, h1, h2, rfl⟩ := h
    cases d with
    | zero => exact w.elim
    | succ d => exact w.2.2.2
  | mir b r =>
    obtain ⟨c, q, rfl, h1, h2, rfl⟩ := h
    cases d with
    | zero => exact w.elim
    | succ d => exact w.2.2
theorem PrAt.cms {C T : Int} {d : Nat} (ih : ∀ e, d = e + 1 → ∀ {q : Addr} {p : Prog}, PrIs H q p → Wf C T e p → 1 ≤ p.len → p.len ≤ 4000 → PrB K H d (.ref q) true) : ∀ (xs : List V) {p : Prog}, PrAt H p xs → Wf C T d p → Paired (CmF K H (PrB K H d)) xs (List.replicate xs.length true)
  | [], _, _, _ => .nil
  | x :: xs, p, hp, w => by
    obtain ⟨r', f, hr⟩ := hp.first
    rw [List.length_cons, List.replicate_succ]
    exact .cons (f.cm ih w) (PrAt.cms ih xs hr (first_wf' f w))
/-- a right program is one -/
theorem PrIs.prB {C T : Int} : ∀ (d : Nat) {q : Addr} {p : Prog}, PrIs H q p → Wf C T d p → 1 ≤ p.len → p.len ≤ 4000 → PrB K H (d + 1) (.ref q) true
  | 0, q, p, ⟨xs, hx, hp⟩, w, l1, l2 => by
    have l := hp.length
    exact .inr ⟨q, xs, rfl, hx, .inr ⟨by omega, by omega, _, PrAt.cms (fun e h => by cases h) xs hp w, by simp⟩⟩
  | d + 1, q, p, ⟨xs, hx, hp⟩, w, l1, l2 => by
    have l := hp.length
    refine .inr ⟨q, xs, rfl, hx, .inr ⟨by omega, by omega, _, PrAt.cms (fun e h => ?_) xs hp w, by simp⟩⟩
    cases h
    exact fun a b c e => PrIs.prB d a b c e
end
end My

set_option Elab.async false
set_option linter.all false
set_option maxRecDepth 100000
namespace My
open PySem PySem.Spec PyProof.Rows L2
/-! ### the way of a flat program -/
def stepSign (w : Str) : Int := if w = "back" ∨ w = "slip" then -1 else 1
namespace Prog
/-- the number of the name n at the power k, the way begun at the heading h -/
def wcf : Int → Prog → Str → Int → Int
  | _, .nil, _, _ => 0
  | h, .step w m r, n, k => (if m = n ∧ h = k then stepSign w else 0) + wcf h r n k
  | h, .turn t r, n, k => wcf (h + t) r n k
  | _, .rep _ _ _, _, _ => 0
  | _, .mir _ _, _, _ => 0
end Prog
/-! ### names: at most 26 -/
theorem names_few {ks : List Str} (h : ∀ n ∈ ks, IsName n) (nd : ks.Nodup) : ks.length < 64 := by
  have hp : ∀ (ks : List Str), (∀ n ∈ ks, IsName n) → ks.Nodup → ∃ cs : List Nat, cs.length = ks.length ∧ cs.Nodup ∧ (∀ c ∈ cs, 97 ≤ c ∧ c ≤ 122 ∧ (⟨#[c]⟩ : Str) ∈ ks) := by
    intro ks
    induction ks with
    | nil => intro _ _; exact ⟨[], rfl, by simp, by simp⟩
    | cons n ks ih =>
      intro h nd
      obtain ⟨hn, nd⟩ := List.nodup_cons.mp nd
      obtain ⟨cs, e1, e2, e3⟩ := ih (fun m hm => h m (List.mem_cons_of_mem _ hm)) nd
      obtain ⟨c, rfl, c1, c2⟩ := h n List.mem_cons_self
      refine ⟨c :: cs, by simp [e1], List.nodup_cons.mpr ⟨fun hc => hn (e3 c hc).2.2, e2⟩, fun d hd => ?_⟩
      rcases List.mem_cons.mp hd with rfl | hd
      · exact ⟨c1, c2, List.mem_cons_self⟩
      · exact ⟨(e3 d hd).1, (e3 d hd).2.1, List.mem_cons_of_mem _ (e3 d hd).2.2⟩
  obtain ⟨cs, e1, e2, e3⟩ := hp ks h nd
  have key : ∀ (xs ys : List Nat), xs.Nodup → (∀ x ∈ xs, x ∈ ys) → xs.length ≤ ys.length := by
    intro xs
    induction xs with
    | nil => intro ys _ _; exact Nat.zero_le _
    | cons x xs ih =>
      intro ys hn hs
      have hx := hs x List.mem_cons_self
      obtain ⟨hxn, hn⟩ := List.nodup_cons.mp hn
      have h1 := ih (ys.erase x) hn fun z hz => (List.mem_erase_of_ne (by rintro rfl; exact hxn hz)).mpr (hs z (List.mem_cons_of_mem _ hz))
      rw [List.length_erase_of_mem hx] at h1
      have h2 := List.length_pos_of_mem hx
      rw [List.length_cons]
      omega
  have := key cs (List.range 123) e2 fun x hx => List.mem_range.mpr (by have := e3 x hx; omega)
  have h2 := key cs ((List.range 26).map (· + 97)) e2 fun x hx => List.mem_map.mpr ⟨x - 97, List.mem_range.mpr (by have := e3 x hx; omega), by have := e3 x hx; omega⟩
  rw [List.length_map, List.length_range] at h2
  omega
/-! ### a dict of jars by names -/
def spotKvs (ws : List (Str × Addr)) : List (Key × V) := ws.map fun e => (Sum.inr e.1, V.ref e.2)
structure Spot (H0 H : Hp) (s : Addr) (N : Nat) (c : Str → Int → Int) (ws : List (Str × Addr)) : Prop where
  at_ : H s = some (.dK (spotKvs ws))
  nd : (ws.map (·.1)).Nodup
  ndA : (ws.map (·.2)).Nodup
  name : ∀ e ∈ ws, IsName e.1
  new : H0 s = none
  news : ∀ e ∈ ws, H0 e.2 = none ∧ e.2 ≠ s
  jars : ∀ e ∈ ws, JarAt H e.2 N (c e.1)
  none_ : ∀ n, ¬ n ∈ ws.map (·.1) → ∀ k, c n k = 0
  same : Same H0 H
theorem JarAt.le {H : Hp} {a : Addr} {n m : Nat} {c : Int → Int} (h : JarAt H a n c) (l : n ≤ m) : JarAt H a m c := let ⟨kvs, e, r1, r2, r3⟩ := h; ⟨kvs, e, r1, Nat.le_trans r2 l, r3⟩
theorem spot_val {ws : List (Str × Addr)} {n : Str} {v : V} (h : valV (spotKvs ws) (.inr n) = some v) : ∃ j, v = .ref j ∧ (n, j) ∈ ws := by
  have := val_mem h
  obtain ⟨e, he, e2⟩ := List.mem_map.mp this
  cases e2
  exact ⟨_, rfl, he⟩
theorem spot_none {ws : List (Str × Addr)} {n : Str} (h : valV (spotKvs ws) (.inr n) = none) : ¬ n ∈ ws.map (·.1) := by
  intro hm
  obtain ⟨e, he, e2⟩ := List.mem_map.mp hm
  exact val_none h (Sum.inr e.1, V.ref e.2) (List.mem_map.mpr ⟨e, he, rfl⟩) (congrArg Sum.inr e2)
theorem spot_some {ws : List (Str × Addr)} {n : Str} (h : n ∈ ws.map (·.1)) : ∃ j, valV (spotKvs ws) (.inr n) = some (.ref j) ∧ (n, j) ∈ ws := by
  cases e : valV (spotKvs ws) (.inr n) with
  | none => exact absurd h (spot_none e)
  | some v =>
    obtain ⟨j, rfl, hj⟩ := spot_val e
    exact ⟨j, rfl, hj⟩
theorem Spot.empty {H : Hp} {s : Addr} (h : H s = none) : Spot H (upd H s (.dK [])) s 0 (fun _ _ => 0) [] :=
  ⟨upd_same, by simp, by simp, by simp, h, by simp, by simp, fun _ _ _ => rfl, Same.new0 h⟩
theorem Spot.later {H0 H H' : Hp} {s : Addr} {N : Nat} {c : Str → Int → Int} {ws : List (Str × Addr)} (h : Spot H0 H s N c ws) (k : Same H H') : Spot H0 H' s N c ws :=
  ⟨k _ _ h.at_, h.nd, h.ndA, h.name, h.new, h.news, fun e he => (h.jars e he).same k, h.none_, h.same.trans k⟩
/-- the name's jar: found or put in -/
theorem Spot.setd {H0 H : Hp} {s d : Addr} {N : Nat} {c : Str → Int → Int} {ws : List (Str × Addr)} {n : Str} {Q : VK} (h : Spot H0 H s N c ws) (hn : IsName n) (hd : H d = none)
    (q : ∀ ws' j H', Spot H0 H' s N c ws' → (n, j) ∈ ws' → (∀ b o, b ≠ s → H b = some o → H' b = some o) → Q (.ref j) H') :
    ∃ (kvs : List (Key × V)) (k : Key), upd H d (.dK []) s = some (.dK kvs) ∧ V.str n = kV k ∧ kvs.length < sizeLine ∧ (∀ v, valV kvs k = some v → Q v (upd H d (.dK []))) ∧ (valV kvs k = none → Q (.ref d) (upd (upd H d (.dK [])) s (.dK (putK kvs k (.ref d))))) := by
  have h1 := h.later (Same.new0 (o := .dK []) hd)
  have few : (spotKvs ws).length < 64 := by
    have := names_few (ks := ws.map (·.1)) (fun n hn => by obtain ⟨e, he, rfl⟩ := List.mem_map.mp hn; exact h.name e he) h.nd
    simpa [spotKvs] using this
  refine ⟨spotKvs ws, .inr n, h1.at_, rfl, Nat.lt_trans few (by decide), fun v hv => ?_, fun hv => ?_⟩
  · obtain ⟨j, rfl, hj⟩ := spot_val hv
    exact q ws j _ h1 hj fun b o _ e => h_keep e hd
  · have hnn := spot_none hv
    have ds : d ≠ s := (ne_of_none h.at_ hd).symm
    rw [putK_new _ hv]
    have e : spotKvs ws ++ [(Sum.inr n, V.ref d)] = spotKvs (ws ++ [(n, d)]) := by simp [spotKvs]
    rw [e]
    refine q (ws ++ [(n, d)]) d _ ⟨upd_same, ?_, ?_, ?_, h.new, ?_, ?_, ?_, ?_⟩ (by simp) fun b o nb eb => (upd_ne nb).trans (h_keep eb hd)
    · rw [List.map_append]
      exact List.nodup_append.mpr ⟨h.nd, by simp, fun a ha b hb eab => by
        have hb := List.mem_singleton.mp hb
        rw [eab, hb] at ha
        exact hnn ha⟩
    · rw [List.map_append]
      refine List.nodup_append.mpr ⟨h.ndA, by simp, fun a ha b hb e => ?_⟩
      have hb := List.mem_singleton.mp hb
      subst hb
      obtain ⟨x, hx, rfl⟩ := List.mem_map.mp ha
      obtain ⟨_, e2, _⟩ := h.jars x hx
      exact absurd e (ne_of_none e2 hd)
    · intro x hx
      rcases List.mem_append.mp hx with hx | hx
      · exact h.name x hx
      · rw [List.mem_singleton.mp hx]; exact hn
    · intro x hx
      rcases List.mem_append.mp hx with hx | hx
      · exact h.news x hx
      · rw [List.mem_singleton.mp hx]
        exact ⟨free_same h.same hd, ds⟩
    · intro x hx
      rcases List.mem_append.mp hx with hx | hx
      · obtain ⟨kvs, e1, r⟩ := h1.jars x hx
        exact ⟨kvs, (upd_ne (h.news x hx).2).trans e1, r⟩
      · rw [List.mem_singleton.mp hx]
        refine ⟨[], (upd_ne ds).trans upd_same, .nil, Nat.zero_le _, fun k => ?_⟩
        exact (h.none_ n hnn k).symm
    · intro m hm k
      refine h.none_ m (fun hc => hm ?_) k
      rw [List.map_append]
      exact List.mem_append.mpr (.inl hc)
    · exact fun b o eb => (upd_ne (ne_of_none eb h.new)).trans (h_keep (h.same _ _ eb) hd)
/-- the name's jar changed -/
theorem Spot.put {H0 H H' : Hp} {s j : Addr} {N : Nat} {c : Str → Int → Int} {ws : List (Str × Addr)} {n : Str} {k v : Int} (h : Spot H0 H s N c ws) (m : (n, j) ∈ ws) (b : But j H H') (hj : JarAt H' j (N + 1) (addAt (c n) k v)) :
    Spot H0 H' s (N + 1) (fun n' k' => if n' = n ∧ k' = k then v else c n' k') ws := by
  have hjs := h.news _ m
  have one : ∀ e ∈ ws, e.1 = n ↔ e.2 = j := by
    intro e he
    constructor
    · intro e1
      have : ∀ (l : List (Str × Addr)), (l.map (·.1)).Nodup → ∀ x ∈ l, ∀ y ∈ l, x.1 = y.1 → x = y := by
        intro l
        induction l with
        | nil => intro _ x hx; cases hx
        | cons z l ih =>
          intro nd x hx y hy exy
          obtain ⟨hz, nd⟩ := List.nodup_cons.mp nd
          rcases List.mem_cons.mp hx with rfl | hx2
          · rcases List.mem_cons.mp hy with rfl | hy2
            · rfl
            · exact absurd (List.mem_map.mpr ⟨y, hy2, exy.symm⟩) hz
          · rcases List.mem_cons.mp hy with rfl | hy2
            · exact absurd (List.mem_map.mpr ⟨x, hx2, exy⟩) hz
            · exact ih nd x hx2 y hy2 exy
      exact congrArg (·.2) (this ws h.nd e he (n, j) m e1)
    · intro e1
      have : ∀ (l : List (Str × Addr)), (l.map (·.2)).Nodup → ∀ x ∈ l, ∀ y ∈ l, x.2 = y.2 → x = y := by
        intro l
        induction l with
        | nil => intro _ x hx; cases hx
        | cons z l ih =>
          intro nd x hx y hy exy
          obtain ⟨hz, nd⟩ := List.nodup_cons.mp nd
          rcases List.mem_cons.mp hx with rfl | hx2
          · rcases List.mem_cons.mp hy with rfl | hy2
            · rfl
            · exact absurd (List.mem_map.mpr ⟨y, hy2, exy.symm⟩) hz
          · rcases List.mem_cons.mp hy with rfl | hy2
            · exact absurd (List.mem_map.mpr ⟨x, hx2, exy⟩) hz
            · exact ih nd x hx2 y hy2 exy
      exact congrArg (·.1) (this ws h.ndA e he (n, j) m e1)
  refine ⟨b _ _ (fun e => hjs.2 e.symm) h.at_, h.nd, h.ndA, h.name, h.new, h.news, fun e he => ?_, fun m' hm k' => ?_, fun x o ex => b _ _ (ne_of_none ex hjs.1) (h.same _ _ ex)⟩
  · by_cases e1 : e.1 = n
    · rw [(one e he).mp e1, e1]
      refine hj.ext fun k' => ?_
      unfold addAt
      by_cases e2 : k' = k
      · rw [if_pos e2, if_pos ⟨rfl, e2⟩]
      · rw [if_neg e2, if_neg fun h => e2 h.2]
    · refine (((h.jars e he).but (fun e2 => e1 ((one e he).mpr e2)) b).le (Nat.le_succ _)).ext fun k' => ?_
      rw [if_neg fun h => e1 h.1]
  · rw [if_neg]
    · exact h.none_ m' hm k'
    · rintro ⟨rfl, _⟩
      exact hm (List.mem_map.mpr ⟨_, m, rfl⟩)
theorem Spot.dget {H0 H : Hp} {s : Addr} {N : Nat} {c : Str → Int → Int} {ws : List (Str × Addr)} {n : Str} {v : V} (h : Spot H0 H s N c ws) (e : valV (spotKvs ws) (.inr n) = some v) : DGet H s (.str n) (some v) := by
  have := DGet.k (k := .inr n) h.at_
  rw [e] at this
  exact this
/-! ### names in sequence -/
def ncode (n : Str) : Nat := n.cps.toList.headD 0
theorem ncode_lt {a b : Str} (ha : IsName a) (hb : IsName b) : ltCps a.cps.toList b.cps.toList = decide (ncode a < ncode b) := by
  obtain ⟨x, rfl, _⟩ := ha
  obtain ⟨y, rfl, _⟩ := hb
  rw [ltCps_eq]
  show decide ([x] < [y]) = decide (x < y)
  by_cases h : x < y
  · rw [decide_eq_true h, decide_eq_true (by simpa [List.cons_lt_cons_iff] using h)]
  · rw [decide_eq_false h, decide_eq_false (by simpa [List.cons_lt_cons_iff] using h)]
theorem ncode_inj {a b : Str} (ha : IsName a) (hb : IsName b) (e : ncode a = ncode b) : a = b := by
  obtain ⟨x, rfl, _⟩ := ha
  obtain ⟨y, rfl, _⟩ := hb
  have e : x = y := e
  rw [e]
theorem rising_names : ∀ {p : Str} {l : List Str}, IsName p → (∀ n ∈ l, IsName n) → risingS p l = true → (∀ n ∈ l, ncode p ≤ ncode n) ∧ l.Pairwise fun a b => ncode a ≤ ncode b
  | p, [], _, _, _ => ⟨by simp, .nil⟩
  | p, x :: r, hp, hl, h => by
    have hx := hl x List.mem_cons_self
    have hr : ∀ n ∈ r, IsName n := fun n hn => hl n (List.mem_cons_of_mem _ hn)
    rw [risingS, Bool.and_eq_true, ncode_lt hx hp] at h
    have h1 : ncode p ≤ ncode x := by
      have := h.1
      simp at this
      exact this
    obtain ⟨h2, h3⟩ := rising_names hx hr h.2
    refine ⟨fun n hn => ?_, List.pairwise_cons.mpr ⟨h2, h3⟩⟩
    rcases List.mem_cons.mp hn with rfl | hn
    · exact h1
    · exact Nat.le_trans h1 (h2 n hn)
theorem sorted_names {l : List Str} (hl : ∀ n ∈ l, IsName n) (nd : l.Nodup) (h : sortedS l = true) : l.Pairwise fun a b => ncode a < ncode b := by
  have h1 : l.Pairwise fun a b => ncode a ≤ ncode b := by
    cases l with
    | nil => exact .nil
    | cons p r =>
      obtain ⟨h1, h2⟩ := rising_names (hl p List.mem_cons_self) (fun n hn => hl n (List.mem_cons_of_mem _ hn)) h
      exact List.pairwise_cons.mpr ⟨h1, h2⟩
  have h2 := List.Pairwise.and h1 nd
  refine h2.imp_of_mem fun {a b} ha hb h => ?_
  have hne : ncode a ≠ ncode b := fun e => h.2 (ncode_inj (hl a ha) (hl b hb) e)
  have := h.1
  omega
theorem asc_ext {α : Type} (f : α → Nat) : ∀ {l m : List α}, l.Pairwise (fun a b => f a < f b) → m.Pairwise (fun a b => f a < f b) → (∀ x, x ∈ l ↔ x ∈ m) → l = m
  | [], [], _, _, _ => rfl
  | a :: l, [], _, _, h => absurd ((h a).mp List.mem_cons_self) (by simp)
  | [], b :: m, _, _, h => absurd ((h b).mpr List.mem_cons_self) (by simp)
  | a :: l, b :: m, hl, hm, h => by
    obtain ⟨h1, h2⟩ := List.pairwise_cons.mp hl
    obtain ⟨h3, h4⟩ := List.pairwise_cons.mp hm
    have e : a = b := by
      rcases List.mem_cons.mp ((h a).mp List.mem_cons_self) with e | ha
      · exact e
      · rcases List.mem_cons.mp ((h b).mpr List.mem_cons_self) with e | hb
        · exact e.symm
        · have := h1 b hb
          have := h3 a ha
          omega
    subst e
    rw [asc_ext f h2 h4 fun x => ⟨fun hx => ?_, fun hx => ?_⟩]
    · rcases List.mem_cons.mp ((h x).mp (List.mem_cons_of_mem _ hx)) with rfl | q
      · exact absurd (h1 _ hx) (Nat.lt_irrefl _)
      · exact q
    · rcases List.mem_cons.mp ((h x).mpr (List.mem_cons_of_mem _ hx)) with rfl | q
      · exact absurd (h3 _ hx) (Nat.lt_irrefl _)
      · exact q
/-! ### places -/
abbrev Pl := List (Str × Terms)
def PlaceL (F : Addr → Prop) (H : Hp) : List V → Pl → Prop
  | [], pl => pl = []
  | v :: vs, pl => ∃ b l e us, pl = e :: us ∧ v = .ref b ∧ H b = some (.tup [.str e.1, .ref l]) ∧ F l ∧ TermsAt H l e.2 ∧ PlaceL F H vs us
section
variable {F : Addr → Prop}
theorem PlaceL.same {H H' : Hp} (t : Same H H') : ∀ {vs : List V} {pl : Pl}, PlaceL F H vs pl → PlaceL F H' vs pl
  | [], _, h => h
  | _ :: _, _, ⟨b, l, e, us, e1, e2, e3, e4, e5, e6⟩ => ⟨b, l, e, us, e1, e2, t _ _ e3, e4, e5.same t, e6.same t⟩
theorem PlaceL.all {H : Hp} : ∀ {vs : List V} {pl : Pl}, PlaceL F H vs pl → PlaceL (fun _ => True) H vs pl
  | [], _, h => h
  | _ :: _, _, ⟨b, l, e, us, e1, e2, e3, e4, e5, e6⟩ => ⟨b, l, e, us, e1, e2, e3, trivial, e5, e6.all⟩
theorem PlaceL.lst {H : Hp} {D : Addr} {acc acc' : List V} (hD : H D = some (.lst acc)) : ∀ {vs : List V} {pl : Pl}, PlaceL (· ≠ D) H vs pl → PlaceL (· ≠ D) (upd H D (.lst acc')) vs pl
  | [], _, h => h
  | _ :: _, _, ⟨b, l, e, us, e1, e2, e3, e4, ⟨ws, e5, e7⟩, e6⟩ => ⟨b, l, e, us, e1, e2, (Tk.refl H).lst hD _ _ e3, e4, ⟨ws, (upd_ne e4).trans e5, e7.tk ((Tk.refl H).lst hD)⟩, e6.lst hD⟩
theorem PlaceL.app {H : Hp} : ∀ {vs ws : List V} {ts us : Pl}, PlaceL F H vs ts → PlaceL F H ws us → PlaceL F H (vs ++ ws) (ts ++ us)
  | [], ws, ts, us, h, h' => by rw [show ts = [] from h]; exact h'
  | _ :: _, ws, _, us, ⟨b, l, e, qs, e1, e2, e3, e4, e5, e6⟩, h' => ⟨b, l, e, qs ++ us, by rw [e1]; rfl, e2, e3, e4, e5, e6.app h'⟩
theorem PlaceL.length {H : Hp} : ∀ {vs : List V} {ts : Pl}, PlaceL F H vs ts → vs.length = ts.length
  | [], ts, h => by rw [show ts = [] from h]; rfl
  | _ :: _, _, ⟨b, l, e, qs, e1, e2, e3, e4, e5, e6⟩ => by rw [e1, List.length_cons, List.length_cons, e6.length]
end
/-- the place of the numbers c -/
structure IsPlace (pl : Pl) (c : Str → Int → Int) : Prop where
  canon : ∀ e ∈ pl, Canon e.2 ∧ e.2 ≠ [] ∧ ∀ k, cof e.2 k = c e.1 k
  names : ∀ e ∈ pl, IsName e.1
  asc : pl.Pairwise fun a b => ncode a.1 < ncode b.1
  rest : ∀ n, ¬ n ∈ pl.map (·.1) → ∀ k, c n k = 0
def PlaceAt (H : Hp) (l : Addr) (pl : Pl) : Prop := ∃ vs, H l = some (.lst vs) ∧ PlaceL (fun _ => True) H vs pl
theorem IsPlace.zero {pl : Pl} {c : Str → Int → Int} (h : IsPlace pl c) (z : ∀ n k, c n k = 0) : pl = [] := by
  cases pl with
  | nil => rfl
  | cons e r =>
    obtain ⟨h1, h2, h3⟩ := h.canon e List.mem_cons_self
    exact absurd (h1.zero fun k => (h3 k).trans (z _ _)) h2
theorem IsPlace.ext {pl ql : Pl} {c : Str → Int → Int} (h : IsPlace pl c) (k : IsPlace ql c) : pl = ql := by
  have key : ∀ {pl ql : Pl}, IsPlace pl c → IsPlace ql c → ∀ x, x ∈ pl → x ∈ ql := by
    intro pl ql h k x hx
    obtain ⟨h1, h2, h3⟩ := h.canon x hx
    have hm : x.1 ∈ ql.map (·.1) := by
      refine Decidable.byContradiction fun hn => h2 (h1.zero fun j => (h3 j).trans (k.rest _ hn j))
    obtain ⟨y, hy, e⟩ := List.mem_map.mp hm
    obtain ⟨k1, _, k3⟩ := k.canon y hy
    have e2 : x.2 = y.2 := h1.ext k1 fun j => by rw [h3, k3, e]
    have : x = y := Prod.ext e.symm e2
    rw [this]; exact hy
  exact asc_ext (fun e => ncode e.1) h.asc k.asc fun x => ⟨key h k x, key k h x⟩
end My

set_option Elab.async false
set_option linter.all false
set_option maxRecDepth 100000
namespace My
open PySem PySem.Spec PyProof.Rows L2
/-! ### for k in d: the dict is locked meanwhile -/
section
variable {σ : L2.St} {H : Hp} {Q : VK} {K : PySem.W.Frag} {td te : TE} {D : Ends} {t tb : TS} {g : TG} {R : It → Hp → Prop}
theorem r_iKeys (q : td σ H fun x H1 => ∃ d o, x = .ref d ∧ ((∃ kvs, H1 d = some (.frz o (.dK kvs)) ∧ R (Itk d o kvs) H1) ∨ ∃ kvs, H1 d = some (.frz o (.dT kvs)) ∧ R (Itkt d o kvs) H1)) : iKeys td σ H R := q
theorem u_keys {d : Addr} {od : Obj} {kvs : List (Key × V)} (I : Nat → L2.St → Hp → Prop) (h0 : I 0 σ H) (hl : ∀ i σ H, I i σ H → H d = some (.frz od (.dK kvs)))
    (hs : ∀ i k v σ H, kvs[i]? = some (k, v) → I i σ H → g (kV k) σ H fun σ2 H2 => tb { D with nx := I (i + 1), ct := I (i + 1), bk := D.nx } σ2 H2) (hd : ∀ σ H, I kvs.length σ H → D.nx σ H) :
    ∃ W : Nat → Nat → L2.St → Hp → Prop, (∃ m, W 0 m σ H) ∧ ∀ i m σ H, W i m σ H →
      ((Itk d od kvs).stop i H ∧ D.nx σ H) ∨ ((Itk d od kvs).go i H ∧ ∃ N : L2.St → Hp → Prop, (∀ σ' H', N σ' H' → ∃ m', m' < m ∧ W (i + 1) m' σ' H') ∧ ∀ x H', (Itk d od kvs).yld i H x H' → g x σ H' fun σ2 H2 => tb { D with nx := N, ct := N, bk := D.nx } σ2 H2) := by
  refine ⟨fun i m σ' H' => m = kvs.length - i ∧ i ≤ kvs.length ∧ I i σ' H', ⟨kvs.length, rfl, Nat.zero_le _, h0⟩, ?_⟩
  rintro i m σ' H' ⟨rfl, hi, ir⟩
  by_cases hlt : i < kvs.length
  · refine .inr ⟨⟨hl _ _ _ ir, hlt⟩, I (i + 1), fun σ2 H2 q => ⟨_, by omega, rfl, hlt, q⟩, fun x H2 hy => ?_⟩
    obtain ⟨rfl, k, v, e, rfl⟩ := hy
    exact hs i k v _ _ e ir
  · have e : i = kvs.length := by omega
    subst e
    exact .inl ⟨⟨hl _ _ _ ir, Nat.le_refl _⟩, hd _ _ ir⟩
end
/-- the jar at a, locked by a walk -/
def JarFz (H : Hp) (a : Addr) (od : Obj) (kvs : List (Key × V)) : Prop := H a = some (.frz od (.dK kvs))
theorem JarFz.dget {H : Hp} {a : Addr} {od : Obj} {kvs : List (Key × V)} {k : Int} (h : H a = some (.frz od (.dK kvs))) (hk : JarK kvs) (m : Sum.inl k ∈ kvs.map (·.1)) : DGet H a (.int k) (some (.int (cfK kvs k))) :=
  .inl ⟨kvs, .inl k, .inr ⟨od, h⟩, rfl, (hk.some m).symm⟩
/-! ### promises of the law's defs -/
def spJarOf : Sp := fun vs H Q _ => ∃ (l : Addr) (ts : Terms), vs = [.ref l] ∧ TermsAt H l ts ∧ ts.length ≤ 90000 ∧ ∀ d H', H d = none → Same H H' → JarAt H' d ts.length (cof ts) → Q (.ref d) H'
end My

set_option Elab.async false
set_option linter.all false
set_option maxRecDepth 100000
namespace My
open PySem PySem.Spec PyProof.Rows L2
theorem TermsL.take {H : Hp} : ∀ {vs : List V} {ts : Terms} (n : Nat), TermsL H vs ts → TermsL H (vs.take n) (ts.take n)
  | [], ts, n, h => by rw [show ts = [] from h]; simp; rfl
  | _ :: _, _, 0, _ => by simp; rfl
  | v :: vs, _, n + 1, ⟨b, p, us, e1, e2, e3, e4⟩ => by
    rw [e1, List.take_succ_cons, List.take_succ_cons]
    exact ⟨b, p, us.take n, rfl, e2, e3, e4.take n⟩
theorem TermsL.drop {H : Hp} : ∀ {vs : List V} {ts : Terms} (n : Nat), TermsL H vs ts → TermsL H (vs.drop n) (ts.drop n)
  | [], ts, n, h => by rw [show ts = [] from h]; simp; rfl
  | _ :: _, _, 0, h => h
  | v :: vs, _, n + 1, ⟨b, p, us, e1, e2, e3, e4⟩ => by
    rw [e1, List.drop_succ_cons, List.drop_succ_cons]
    exact e4.drop n
theorem TermsL.reverse {H : Hp} : ∀ {vs : List V} {ts : Terms}, TermsL H vs ts → TermsL H vs.reverse ts.reverse
  | [], ts, h => by rw [show ts = [] from h]; rfl
  | v :: vs, _, ⟨b, p, us, e1, e2, e3, e4⟩ => by
    rw [e1, List.reverse_cons, List.reverse_cons, e2]
    exact e4.reverse.app (.one e3)
theorem TermsL.some_of {H : Hp} : ∀ {ws : List V}, (∀ x ∈ ws, ∃ (b : Addr) (p : Int × Int), x = .ref b ∧ H b = some (.tup [.int p.1, .int p.2])) → ∃ us, TermsL H ws us
  | [], _ => ⟨[], rfl⟩
  | w :: ws, h => by
    obtain ⟨b, p, e, hb⟩ := h w List.mem_cons_self
    obtain ⟨us, hu⟩ := TermsL.some_of (ws := ws) fun x hx => h x (List.mem_cons_of_mem _ hx)
    exact ⟨p :: us, b, p, us, rfl, e, hb, hu⟩
theorem TermsL.mem {H : Hp} {vs : List V} {ts : Terms} (h : TermsL H vs ts) : ∀ x ∈ vs, ∃ (b : Addr) (p : Int × Int), x = .ref b ∧ H b = some (.tup [.int p.1, .int p.2]) := by
  intro x hx
  obtain ⟨i, hi⟩ := List.getElem?_of_mem hx
  obtain ⟨b, p, e1, e2, e3⟩ := h.at i hi
  exact ⟨b, p, e1, e3⟩
theorem cut_drop (xs : List V) (n : Nat) : cutV xs (some (n : Int)) none = xs.drop n := by
  unfold cutV
  rw [HT.sIx_none, HT.sIx_nat]
  by_cases h : n ≤ xs.length
  · rw [Nat.min_eq_left h, List.take_of_length_le (by rw [List.length_drop]; omega)]
  · rw [Nat.min_eq_right (by omega), List.drop_eq_nil_of_le (Nat.le_refl _), List.take_nil, List.drop_eq_nil_of_le (by omega)]
theorem cut_takeI {xs : List V} {m : Int} (h : 0 ≤ m) : cutV xs none (some m) = xs.take m.toNat := by
  have := cut_take xs m.toNat
  rw [Int.toNat_of_nonneg h] at this
  exact this
theorem cut_dropI {xs : List V} {m : Int} (h : 0 ≤ m) : cutV xs (some m) none = xs.drop m.toNat := by
  have := cut_drop xs m.toNat
  rw [Int.toNat_of_nonneg h] at this
  exact this
/-- a jar of one entry, written -/
theorem jar_one {H : Hp} {p : Addr} {k n : Int} : JarAt (upd H p (.dK (mergeK [] [(.inl k, .int n)]))) p 1 (fun j => if j = k then n else 0) := by
  refine ⟨_, upd_same, (JarK.nil).put k n, Nat.le_refl 1, fun j => ?_⟩
  show cfK (putK [] (.inl k) (.int n)) j = _
  rw [cfK_put]; rfl
end My

set_option Elab.async false
set_option linter.all false
set_option maxRecDepth 100000
namespace My
open PySem PySem.Spec PyProof.Rows L2
theorem JarAt.nb {H : Hp} {a b : Addr} {n : Nat} {c : Int → Int} (h : JarAt H a n c) (hb : Bag H b) : a ≠ b := by
  rintro rfl
  obtain ⟨_, e, _⟩ := h
  obtain ⟨_, _, _, e', _⟩ := hb
  rw [e] at e'
  cases e'
theorem JarAt.bag {H H' : Hp} {a b : Addr} {n : Nat} {c : Int → Int} (h : JarAt H a n c) (s : But b H H') (hb : Bag H b) : JarAt H' a n c := h.but (h.nb hb) s
theorem PolyAt.bag {C : Addr} {H H' : Hp} {a b : Addr} {ts : Terms} (h : PolyAt C H a ts) (s : But b H H') (hb : Bag H b) : PolyAt C H' a ts := h.stay (.bag s hb)
/-- a pair of what was found and the jar that is due -/
def DueAt (C : Addr) (H : Hp) (x : V) : Prop := ∃ (t b d : Addr) (ts : Terms) (n : Nat) (c : Int → Int), x = .ref t ∧ H t = some (.tup [.ref b, .ref d]) ∧ PolyAt C H b ts ∧ JarAt H d n c ∧ (∀ k, cof ts k = c k) ∧ n ≤ 90000 ∧ ts.length ≤ 90000
theorem DueAt.same {C : Addr} {H H' : Hp} {x : V} (h : DueAt C H x) (s : Same H H') : DueAt C H' x := by
  obtain ⟨t, b, d, ts, n, c, e, h1, h2, h3, h4⟩ := h
  exact ⟨t, b, d, ts, n, c, e, s _ _ h1, h2.same s, h3.same s, h4⟩
def DuesL (C : Addr) (H : Hp) (a : Addr) (m : Nat) : Prop := ∃ xs, H a = some (.lst xs) ∧ xs.length = m ∧ ∀ x ∈ xs, DueAt C H x
theorem DuesL.same {C : Addr} {H H' : Hp} {a : Addr} {m : Nat} (h : DuesL C H a m) (s : Same H H') : DuesL C H' a m := by
  obtain ⟨xs, e, h1, h2⟩ := h
  exact ⟨xs, s _ _ e, h1, fun x hx => (h2 x hx).same s⟩
def one0 (i : Int) : Int → Int := fun k => if k = 0 then i else 0
/-- two jars, two polynomials and the jar of one number -/
structure Five (C : Addr) (H : Hp) (j p f one two : Addr) (n1 n2 : Nat) (c1 c2 : Int → Int) (co : Int) (o1 o2 : Terms) : Prop where
  j : JarAt H j n1 c1
  p : JarAt H p n2 c2
  f : JarAt H f 1 (one0 co)
  one : PolyAt C H one o1
  two : PolyAt C H two o2
theorem Five.same {C : Addr} {H H' : Hp} {j p f one two : Addr} {n1 n2 : Nat} {c1 c2 : Int → Int} {co : Int} {o1 o2 : Terms} (h : Five C H j p f one two n1 n2 c1 c2 co o1 o2) (s : Same H H') : Five C H' j p f one two n1 n2 c1 c2 co o1 o2 :=
  ⟨h.j.same s, h.p.same s, h.f.same s, h.one.same s, h.two.same s⟩
section
variable {σ : L2.St} {H : Hp} {Q : VK} {td ty tk tv : TE} {trs : List (TE × TE)}
theorem rl_disp (q : ∀ p, H p = none → tPairs trs σ (upd H p (.dK [])) fun ps H2 => H2 p = some (.dK []) ∧ ∃ kvs : List (Key × V), ps = kvs.map (fun kv => (kV kv.1, kv.2)) ∧ kvs.length ≤ 15 ∧ Q (.ref p) (upd H2 p (.dK (mergeK [] kvs)))) : tDisp trs σ H Q := q
theorem rl_pc {R : List (V × V) → Hp → Prop} (q : tk σ H fun x H1 => tv σ H1 fun y H2 => tPairs trs σ H2 fun ps H3 => R ((x, y) :: ps) H3) : tPairs ((tk, tv) :: trs) σ H R := q
theorem rl_pn {R : List (V × V) → Hp → Prop} (q : R [] H) : tPairs [] σ H R := q
end
end My

set_option Elab.async false
set_option linter.all false
set_option maxRecDepth 100000
namespace My
open PySem PySem.Spec PyProof.Rows L2
/-! ### comprehensions with two loops -/
section
variable {K : PySem.W.Frag} {a p : Addr} {xs : List V} {σ : L2.St} {H : Hp} {D : Addr} {g : TG} {tt : TT} {vs : List Nat}
end
end My

set_option Elab.async false
set_option linter.all false
set_option maxRecDepth 100000
namespace My
open PySem PySem.Spec PyProof.Rows L2
/-! ### products of polynomials, power by power -/
def cmul : Terms → (Int → Int) → Int → Int
  | [], _, _ => 0
  | p :: ts, d, k => p.2 * d (k - p.1) + cmul ts d k
theorem cmul_extr : ∀ (ts : Terms) {d e : Int → Int} (k : Int), (∀ k, d k = e k) → cmul ts d k = cmul ts e k
  | [], _, _, _, _ => rfl
  | p :: ts, d, e, k, h => by rw [cmul, cmul, h, cmul_extr ts k h]
theorem cmul_zero : ∀ (ts : Terms) (k : Int), cmul ts (fun _ => 0) k = 0
  | [], _ => rfl
  | p :: ts, k => by rw [cmul, cmul_zero ts k]; simp
theorem cmul_add : ∀ (ts : Terms) (d e : Int → Int) (k : Int), cmul ts (fun k => d k + e k) k = cmul ts d k + cmul ts e k
  | [], _, _, _ => rfl
  | p :: ts, d, e, k => by rw [cmul, cmul, cmul, cmul_add ts d e k, Int.mul_add]; omega
theorem cmul_delta (q v : Int) : ∀ (ts : Terms) (k : Int), cmul ts (fun k => if q = k then v else 0) k = v * cof ts (k - q)
  | [], k => by rw [cmul, cof]; simp
  | p :: ts, k => by
    rw [cmul, cof, cmul_delta q v ts k, Int.mul_add]
    by_cases h : q = k - p.1
    · rw [if_pos h, if_pos (by omega), Int.mul_comm]
    · rw [if_neg h, if_neg (by omega)]; simp
theorem cmul_comm (ts : Terms) : ∀ (us : Terms) (k : Int), cmul ts (cof us) k = cmul us (cof ts) k
  | [], k => by
    rw [cmul, show (cof [] : Int → Int) = fun _ => 0 from funext fun k => by rw [cof]]
    exact cmul_zero ts k
  | q :: us, k => by
    rw [cmul, ← cmul_comm ts us k, ← cmul_delta q.1 q.2 ts k, ← cmul_add]
    exact cmul_extr ts k fun j => by rw [cof]
theorem cmul_ext {ts ts' us us' : Terms} (h : ∀ k, cof ts k = cof ts' k) (h' : ∀ k, cof us k = cof us' k) (k : Int) : cmul ts (cof us) k = cmul ts' (cof us') k := by
  rw [cmul_extr ts k h', cmul_comm, cmul_extr us' k h, cmul_comm]
open Classical in
/-- the product of two families of numbers (of finitely many that are not 0) -/
noncomputable def mulF (c d : Int → Int) (k : Int) : Int := if h : ∃ ts : Terms, ∀ k, cof ts k = c k then cmul h.choose d k else 0
theorem mulF_of {c d : Int → Int} {ts us : Terms} (h : ∀ k, cof ts k = c k) (h' : ∀ k, cof us k = d k) (k : Int) : mulF c d k = cmul ts (cof us) k := by
  have hx : ∃ ts : Terms, ∀ k, cof ts k = c k := ⟨ts, h⟩
  rw [mulF, dif_pos hx, ← cmul_extr hx.choose k h']
  exact cmul_ext (fun j => (hx.choose_spec j).trans (h j).symm) (fun _ => rfl) k
/-! ### how great the numbers are -/
theorem Canon.at : ∀ {ts : Terms} {p : Int × Int}, Canon ts → p ∈ ts → cof ts p.1 = p.2 := by
  intro ts
  induction ts with
  | nil => intro p _ hp; exact absurd hp (by simp)
  | cons q ts ih =>
    intro p hc hp
    rcases List.mem_cons.mp hp with rfl | hp
    · exact hc.head
    · rw [cof, ih hc.tail hp]
      have h1 := (List.pairwise_cons.mp hc.asc).1 p hp
      rw [if_neg (by omega), Int.zero_add]
theorem Canon.tight {ts l : Terms} (h : Canon ts) (e : ∀ k, cof ts k = cof l k) : ts.length ≤ l.length := by
  refine h.le_len fun p hp => ?_
  have h1 := h.at hp
  have h2 := h.nz p hp
  rw [e] at h1
  refine Decidable.byContradiction fun hn => h2 (h1.symm.trans (cof_none fun q hq hk => hn (List.mem_map.mpr ⟨q, hq, hk⟩)))
theorem Canon.num {ts : Terms} {B : Nat} (h : Canon ts) (b : ∀ k, (cof ts k).natAbs ≤ B) : ∀ p ∈ ts, p.2.natAbs ≤ B := fun p hp => by rw [← h.at hp]; exact b _
/-- small enough to be multiplied -/
def Sm (c : Int → Int) : Prop := ∀ k, (c k).natAbs < 2 ^ 100000
end My

set_option Elab.async false
set_option linter.all false
set_option maxRecDepth 100000
namespace My
open PySem PySem.Spec PyProof.Rows L2
section
variable {σ : L2.St} {H : Hp} {g : TG} {tt : TT} {te : TE} {vs : List Nat}
/-- [elt for k in d], d a dict of int keys under lock -/
theorem u_lcK {d : Addr} {od : Obj} {kvs : List (Key × V)} {ks : List Int} {Qd : Addr → Hp → Prop} (h : H d = some (.frz od (.dK kvs))) (hk : kvs.map (·.1) = ks.map Sum.inl) (I : Addr → Nat → List V → Hp → Prop) (h0 : ∀ D, H D = none → I D 0 [] (upd H D (.lst [])))
    (hl : ∀ D i acc H', H D = none → H' D = some (.lst acc) → I D i acc H' → H' d = some (.frz od (.dK kvs)))
    (hs : ∀ D i q acc H', H D = none → ks[i]? = some q → H' D = some (.lst acc) → I D i acc H' → g (.int q) (wipe σ vs) H' fun σ2 H2 => wipe σ2 vs = wipe σ vs ∧ tt σ2 H2 fun b H3 => if b = true then te σ2 H3 fun y H4 => LcPush D I i H4 y else LcSkip D I i H3)
    (hd : ∀ D acc H', H D = none → H' D = some (.lst acc) → I D ks.length acc H' → Qd D H') :
    ∃ d' o, V.ref d = .ref d' ∧ ((∃ kvs, H d' = some (.frz o (.dK kvs)) ∧ ∀ D, H D = none → ∃ W : Nat → Nat → Hp → Prop, (∃ m, W 0 m (upd H D (.lst []))) ∧ ∀ i m H, W i m H →
      ((Itk d' o kvs).stop i H ∧ Qd D H) ∨ ((Itk d' o kvs).go i H ∧ ∃ Nx : Hp → Prop, (∀ H', Nx H' → ∃ m', m' < m ∧ W (i + 1) m' H') ∧ ∀ x H', (Itk d' o kvs).yld i H x H' → g x (wipe σ vs) H' fun σ2 H2 => wipe σ2 vs = wipe σ vs ∧ tt σ2 H2 fun b H3 =>
        if b = true then te σ2 H3 fun y H4 => ∃ acc, H4 D = some (.lst acc) ∧ acc.length < sizeLine ∧ Nx (upd H4 D (.lst (acc ++ [y]))) else Nx H3)) ∨ ∃ kvs, H d' = some (.frz o (.dT kvs)) ∧ ∀ D, H D = none → ∃ W : Nat → Nat → Hp → Prop, (∃ m, W 0 m (upd H D (.lst []))) ∧ ∀ i m H, W i m H →
      ((Itkt d' o kvs).stop i H ∧ Qd D H) ∨ ((Itkt d' o kvs).go i H ∧ ∃ Nx : Hp → Prop, (∀ H', Nx H' → ∃ m', m' < m ∧ W (i + 1) m' H') ∧ ∀ x H', (Itkt d' o kvs).yld i H x H' → g x (wipe σ vs) H' fun σ2 H2 => wipe σ2 vs = wipe σ vs ∧ tt σ2 H2 fun b H3 =>
        if b = true then te σ2 H3 fun y H4 => ∃ acc, H4 D = some (.lst acc) ∧ acc.length < sizeLine ∧ Nx (upd H4 D (.lst (acc ++ [y]))) else Nx H3)) := by
  refine ⟨d, od, rfl, .inl ⟨kvs, h, fun D hD => ?_⟩⟩
  have hlen : kvs.length = ks.length := by
    have := congrArg List.length hk
    simpa using this
  refine ⟨fun i m H' => m = kvs.length - i ∧ i ≤ kvs.length ∧ ∃ acc, H' D = some (.lst acc) ∧ I D i acc H', ⟨kvs.length, by simp, Nat.zero_le _, [], upd_same, h0 D hD⟩, ?_⟩
  rintro i m H' ⟨rfl, hi, acc, ha, ir⟩
  by_cases hlt : i < kvs.length
  · refine .inr ⟨⟨hl _ _ _ _ hD ha ir, hlt⟩, fun H' => ∃ acc, H' D = some (.lst acc) ∧ I D (i + 1) acc H', fun H2 q => ⟨_, by omega, rfl, hlt, q⟩, fun x H2 hy => ?_⟩
    obtain ⟨rfl, k, v, e, rfl⟩ := hy
    have hks : ks[i]? = some (ks[i]'(by omega)) := List.getElem?_eq_getElem (by omega)
    generalize ks[i]'(by omega) = q at hks
    have ekk : k = .inl q := by
      have h1 : (kvs.map (·.1))[i]? = some k := by rw [List.getElem?_map, e]; rfl
      rw [hk, List.getElem?_map, hks] at h1
      exact (Option.some.inj h1).symm
    subst ekk
    exact hs D i q acc _ hD hks ha ir
  · have e : i = ks.length := by omega
    subst e
    exact .inl ⟨⟨hl _ _ _ _ hD ha ir, by omega⟩, hd D acc _ hD ha ir⟩
end
/-- a jar by its keys -/
theorem JarAt.list {H : Hp} {a : Addr} {n : Nat} {c : Int → Int} (h : JarAt H a n c) : ∃ (kvs : List (Key × V)) (ks : List Int), H a = some (.dK kvs) ∧ JarK kvs ∧ kvs.map (·.1) = ks.map Sum.inl ∧ ks.length ≤ n ∧ (∀ k, cfK kvs k = c k) ∧ ∀ k, cof (ks.map fun q => (q, c q)) k = c k := by
  obtain ⟨kvs, e, hk, hl, hc⟩ := h
  obtain ⟨ks, ek, nd, kz, kl⟩ := hk.keys
  refine ⟨kvs, ks, e, hk, ek, by omega, hc, fun k => ?_⟩
  have key : ∀ (ls : List Int), ls.Nodup → ∀ k, cof (ls.map fun q => (q, c q)) k = if k ∈ ls then c k else 0 := by
    intro ls
    induction ls with
    | nil => intro _ k; rfl
    | cons l ls ih =>
      intro nd k
      have nd' := List.nodup_cons.mp nd
      rw [List.map_cons, cof, ih nd'.2 k]
      by_cases e : l = k
      · subst e; rw [if_pos rfl, if_neg nd'.1, if_pos (by simp)]; omega
      · rw [if_neg e]
        by_cases m : k ∈ ls
        · rw [if_pos m, if_pos (by simp [m])]; omega
        · rw [if_neg m, if_neg (by simp only [List.mem_cons, m, or_false]; exact fun z => e z.symm)]; rfl
  rw [key ks nd k]
  by_cases m : k ∈ ks
  · rw [if_pos m]
  · rw [if_neg m, ← hc]; exact (kz k m).symm
/-- a Poly of a jar's numbers has no more terms than the jar -/
theorem Canon.jar {H : Hp} {a : Addr} {n : Nat} {c : Int → Int} {ts : Terms} (h : JarAt H a n c) (hc : Canon ts) (e : ∀ k, cof ts k = c k) : ts.length ≤ n := by
  obtain ⟨kvs, ks, _, _, _, hl, _, hf⟩ := h.list
  exact Nat.le_trans (hc.tight fun k => (e k).trans (hf k).symm) (by rw [List.length_map]; exact hl)
end My

set_option Elab.async false
set_option linter.all false
set_option maxRecDepth 100000
namespace My
open PySem PySem.Spec PyProof.Rows L2
section
variable {C : Addr} {H : Hp} {Q : VK} {E : XK} {a b : Addr} {ts us : Terms} {σ : L2.St} {m : Str}
theorem unlock_same {H H' : Hp} {d : Addr} {od : Obj} {u : HO} (e : H d = some u) (s : Same (upd H d (.frz od u)) H') : Same H (upd H' d u) := fun x o h => by
  by_cases hx : x = d
  · subst hx
    rw [upd_same, ← h, e]
  · rw [upd_ne hx]
    exact s x o ((upd_ne hx).trans h)
theorem JarAt.mono {H : Hp} {a : Addr} {n m : Nat} {c : Int → Int} (h : JarAt H a n c) (l : n ≤ m) : JarAt H a m c := let ⟨kvs, e, r1, r2, r3⟩ := h; ⟨kvs, e, r1, Nat.le_trans r2 l, r3⟩
end
end My

set_option Elab.async false
set_option linter.all false
set_option maxRecDepth 100000
namespace My
open PySem PySem.Spec PyProof.Rows L2
/-! ### powers -/
theorem cmul_app : ∀ (ts us : Terms) (d : Int → Int) (k : Int), cmul (ts ++ us) d k = cmul ts d k + cmul us d k
  | [], us, d, k => by rw [List.nil_append, cmul, Int.zero_add]
  | p :: ts, us, d, k => by rw [List.cons_append, cmul, cmul, cmul_app ts us d k, Int.add_assoc]
theorem JarAt.upd {H : Hp} {a b : Addr} {n : Nat} {c : Int → Int} {o : HO} (h : JarAt H a n c) (ne : a ≠ b) : JarAt (upd H b o) a n c := let ⟨kvs, e, r⟩ := h; ⟨kvs, (upd_ne ne).trans e, r⟩
def spTimes : Sp := fun vs H Q _ => ∃ (a b : Addr) (n m : Nat) (c d : Int → Int), vs = [.ref a, .ref b] ∧ JarAt H a n c ∧ JarAt H b m d ∧ n * m ≤ 90000 ∧ Sm c ∧ Sm d ∧ ∀ p H', H p = none → Same H H' → JarAt H' p (n * m) (mulF c d) → Q (.ref p) H'
end My

set_option Elab.async false
set_option linter.all false
set_option maxRecDepth 100000
set_option maxHeartbeats 2000000
namespace My
open PySem PySem.Spec PyProof.Rows L2
/-! ### rows of plain commands with headings within bounds -/
namespace Prog
def wayIn (f : Int) : Int → Prog → Prop
  | _, .nil => True
  | h, .step _ _ r => wayIn f h r
  | h, .turn k r => (-f ≤ h + k ∧ h + k ≤ f) ∧ wayIn f (h + k) r
  | _, .rep _ _ _ => False
  | _, .mir _ _ => False
theorem wayIn_app {f : Int} : ∀ {p q : Prog} {h : Int}, wayIn f h p → wayIn f (h + p.head) q → wayIn f h (p.app q)
  | .nil, q, h, _, h2 => by rw [head, Int.add_zero] at h2; exact h2
  | .step w m r, q, h, h1, h2 => wayIn_app (p := r) h1 (by rw [head] at h2; exact h2)
  | .turn k r, q, h, h1, h2 => ⟨h1.1, wayIn_app (p := r) h1.2 (by rw [head, ← Int.add_assoc] at h2; exact h2)⟩
  | .rep k b r, q, h, h1, _ => h1.elim
  | .mir b r, q, h, h1, _ => h1.elim
end Prog
/-! ### numbers by powers, from 0 on -/
theorem cmul_neg {c d : Int → Int} (hc : ∀ k, k < 0 → c k = 0) (hd : ∀ k, k < 0 → d k = 0) : ∀ (ks : List Int) (k : Int), k < 0 → cmul (ks.map fun q => (q, c q)) d k = 0
  | [], k, _ => rfl
  | q :: ks, k, hk => by
    rw [List.map_cons, cmul, cmul_neg hc hd ks k hk, Int.add_zero]
    show c q * d (k - q) = 0
    by_cases hq : q < 0
    · rw [hc q hq, Int.zero_mul]
    · rw [hd _ (by omega), Int.mul_zero]
theorem cmul_at0 {c d : Int → Int} (hc : ∀ k, k < 0 → c k = 0) (hd : ∀ k, k < 0 → d k = 0) : ∀ (ks : List Int), ks.Nodup → cmul (ks.map fun q => (q, c q)) d 0 = if 0 ∈ ks then c 0 * d 0 else 0
  | [], _ => rfl
  | q :: ks, nd => by
    have nd := List.nodup_cons.mp nd
    rw [List.map_cons, cmul, cmul_at0 hc hd ks nd.2]
    show c q * d (0 - q) + _ = _
    by_cases hq : q = 0
    · subst hq
      rw [if_neg nd.1, if_pos (by simp), Int.add_zero]
      rfl
    · have h0 : c q * d (0 - q) = 0 := by
        by_cases h : q < 0
        · rw [hc q h, Int.zero_mul]
        · rw [hd _ (by omega), Int.mul_zero]
      rw [h0, Int.zero_add]
      by_cases h : 0 ∈ ks
      · rw [if_pos h, if_pos (by simp [h])]
      · rw [if_neg h, if_neg (by simp only [List.mem_cons, h, or_false]; exact fun z => hq z.symm)]
/-- the sum over some of the keys is not greater -/
theorem sum_sub (f : Int → Nat) : ∀ (l m : List Int), l.Nodup → (∀ x ∈ l, x ∈ m) → (l.map f).sum ≤ (m.map f).sum
  | [], m, _, _ => by simp
  | x :: l, m, nd, h => by
    have nd := List.nodup_cons.mp nd
    have hx : x ∈ m := h x (by simp)
    obtain ⟨s, t, rfl⟩ := List.append_of_mem hx
    have h2 := sum_sub f l (s ++ t) nd.2 fun y hy => by
      have := h y (by simp [hy])
      simp only [List.mem_append, List.mem_cons] at this ⊢
      rcases this with h | rfl | h
      · exact .inl h
      · exact absurd hy nd.1
      · exact .inr h
    simp only [List.map_append, List.sum_append, List.map_cons, List.sum_cons] at h2 ⊢
    omega
theorem le_sum (f : Int → Nat) : ∀ {l : List Int} {x : Int}, x ∈ l → f x ≤ (l.map f).sum
  | y :: l, x, h => by
    rcases List.mem_cons.mp h with rfl | h
    · simp
    · have := le_sum f h
      simp only [List.map_cons, List.sum_cons]
      omega
theorem sum_abs {c : Int → Int} : ∀ (ks : List Int), (ks.map fun q => ((c q).natAbs : Int)).sum = ((ks.map fun q => (c q).natAbs).sum : Nat)
  | [] => rfl
  | q :: ks => by rw [List.map_cons, List.sum_cons, sum_abs ks, List.map_cons, List.sum_cons, Int.natCast_add]
/-- the terms' sum is not greater than the keys' -/
theorem Canon.asc_nodup {ts : Terms} (h : Canon ts) : (ts.map (·.1)).Nodup := by
  have h1 := h.asc
  rw [List.Nodup, List.pairwise_map]
  exact h1.imp fun {a b} (hab : a.1 < b.1) => by omega
theorem terms_sum {c : Int → Int} {ts : Terms} {ks : List Int} (h : Canon ts) (e : ∀ k, cof ts k = c k) (hz : ∀ k, ¬ k ∈ ks → c k = 0) : (ts.map fun p => p.2.natAbs).sum ≤ (ks.map fun q => (c q).natAbs).sum := by
  have h1 : ts.map (fun p => p.2.natAbs) = (ts.map (·.1)).map fun q => (c q).natAbs := by
    rw [List.map_map]
    refine List.map_congr_left fun p hp => ?_
    show p.2.natAbs = (c p.1).natAbs
    rw [← e, h.at hp]
  rw [h1]
  refine sum_sub _ _ _ h.asc_nodup fun x hx => ?_
  obtain ⟨p, hp, rfl⟩ := List.mem_map.mp hx
  refine Decidable.byContradiction fun hn => h.nz p hp ?_
  rw [← h.at hp, e, hz _ hn]
def enumT (ns : List Int) (i : Nat) : Terms := (List.range i).map fun (j : Nat) => ((j : Int), ns.getD j 0)
theorem enumT_succ (ns : List Int) (i : Nat) : enumT ns (i + 1) = enumT ns i ++ [((i : Int), ns.getD i 0)] := by
  unfold enumT
  rw [List.range_succ, List.map_append]
  rfl
theorem enumT_len (ns : List Int) (i : Nat) : (enumT ns i).length = i := by unfold enumT; simp
theorem cof_enum (ns : List Int) : ∀ (i : Nat) (k : Int), cof (enumT ns i) k = if 0 ≤ k ∧ k < i then ns.getD k.toNat 0 else 0
  | 0, k => by rw [if_neg (by omega)]; rfl
  | i + 1, k => by
    rw [enumT_succ, cof_app, cof_enum ns i k, cof, cof, Int.add_zero]
    show _ + (if (i : Int) = k then ns.getD i 0 else 0) = _
    by_cases h : (i : Int) = k
    · subst h
      rw [if_neg (by omega), if_pos rfl, if_pos (by omega), Int.zero_add]
      rfl
    · rw [if_neg h, Int.add_zero]
      by_cases h2 : 0 ≤ k ∧ k < i
      · rw [if_pos h2, if_pos (by omega)]
      · rw [if_neg h2, if_neg (by omega)]
end My

set_option Elab.async false
set_option linter.all false
set_option maxRecDepth 100000
set_option maxHeartbeats 2000000
namespace My
open PySem PySem.Spec PyProof.Rows L2
/-! ### what the builder of a closed row keeps -/
def Ring (ns : List Int) : Prop := (1 ≤ ns.length ∧ ns.length ≤ 7) ∧ (∀ n ∈ ns, -1 ≤ n ∧ n ≤ 1) ∧ (ns.getD 0 0 = 1 ∨ ns.getD 0 0 = -1)
instance {ns : List Int} : Decidable (Ring ns) := by unfold Ring; infer_instance
def RingV (b : Addr) (H : Hp) (x : V) : Prop := ∃ (a : Addr) (ns : List Int), x = .ref a ∧ a ≠ b ∧ H a = some (.lst (ns.map V.int)) ∧ Ring ns
theorem RingV.but {b : Addr} {H H' : Hp} {x : V} (h : RingV b H x) (s : But b H H') : RingV b H' x := let ⟨a, ns, e, ne, ha, r⟩ := h; ⟨a, ns, e, ne, s _ _ ne ha, r⟩
theorem atI_get {xs : List V} {n : Int} (h0 : 0 ≤ n) (h1 : n < xs.length) : ∃ v, atI xs n = some v ∧ v ∈ xs := by
  have h2 : n.toNat < xs.length := by omega
  refine ⟨xs[n.toNat], ?_, List.getElem_mem h2⟩
  unfold atI ixN
  rw [if_pos h0, if_pos (by omega)]
  exact List.getElem?_eq_getElem h2
theorem atI_ints {ns : List Int} {i : Nat} (h : i < ns.length) : atI (ns.map V.int) (i : Int) = some (.int (ns.getD i 0)) := by
  have e : (ns.map V.int)[i]? = some (.int (ns.getD i 0)) := by simp [h]
  unfold atI ixN
  rw [if_pos (by omega), if_pos (by simpa using h)]
  exact e
structure RowJar (H : Hp) (b j : Addr) (i : Nat) (S F : Int) (c : Int → Int) (ks : List Int) : Prop where
  jar : JarAt H j (7 ^ i) c
  nb : j ≠ b
  neg : ∀ k, k < 0 → c k = 0
  one : c 0 = 1 ∨ c 0 = -1
  key : ∃ kvs, H j = some (.dK kvs) ∧ kvs.map (·.1) = ks.map Sum.inl
  nd : ks.Nodup
  kz : ∀ k, ¬ k ∈ ks → c k = 0
  top : ∀ k ∈ ks, k ≤ F
  sum : (((ks.map fun q => (c q).natAbs).sum : Nat) : Int) ≤ S
section
variable {H H' : Hp} {b j : Addr} {i : Nat} {S F : Int} {c d : Int → Int} {ks : List Int}
theorem RowJar.but (h : RowJar H b j i S F c ks) (s : But b H H') : RowJar H' b j i S F c ks := { h with jar := h.jar.but h.nb s, key := let ⟨kvs, e, r⟩ := h.key; ⟨kvs, s _ _ h.nb e, r⟩ }
theorem RowJar.same (h : RowJar H b j i S F c ks) (s : Same H H') : RowJar H' b j i S F c ks := h.but (Same.but s b)
theorem RowJar.zero (h : RowJar H b j i S F c ks) : 0 ∈ ks := by
  refine Decidable.byContradiction fun hn => ?_
  have := h.kz 0 hn
  rcases h.one with e | e <;> omega
theorem RowJar.le (h : RowJar H b j i S F c ks) (k : Int) : ((c k).natAbs : Int) ≤ S := by
  by_cases m : k ∈ ks
  · have := le_sum (fun q => (c q).natAbs) m
    have := h.sum
    omega
  · rw [h.kz k m]
    have := h.sum
    show (0 : Int) ≤ S
    omega
theorem RowJar.mono (h : RowJar H b j i S F c ks) : RowJar H b j (i + 1) S F c ks := { h with jar := h.jar.mono (by rw [Nat.pow_succ]; omega) }
theorem rowJar_one (nb : j ≠ b) (hS : 1 ≤ S) (hF : 0 ≤ F) : RowJar (upd H j (.dK (mergeK [] [(.inl 0, .int 1)]))) b j 0 S F (fun k => if k = 0 then 1 else 0) [0] where
  jar := jar_one
  nb := nb
  neg := fun k hk => by rw [if_neg (by omega)]
  one := .inl rfl
  key := ⟨_, upd_same, rfl⟩
  nd := by simp
  kz := fun k hk => by rw [if_neg (by simpa using hk)]
  top := fun k hk => by rw [List.mem_singleton.mp hk]; exact hF
  sum := by simpa using hS
/-- the product with a ring, its sums within bounds -/
theorem RowJar.times {p : Addr} {ns : List Int} {kvs : List (Key × V)} {qs : List Int} (h : RowJar H b j i S F c ks) (r : Ring ns) (hp : JarAt H' p (7 ^ (i + 1)) (mulF c (cof (enumT ns ns.length)))) (np : p ≠ b)
    (e : H' p = some (.dK kvs)) (ek : kvs.map (·.1) = qs.map Sum.inl) (nd : qs.Nodup) (kz : ∀ k, ¬ k ∈ qs → mulF c (cof (enumT ns ns.length)) k = 0)
    (top : ∀ k ∈ qs, k ≤ F) (sum : (((qs.map fun q => (mulF c (cof (enumT ns ns.length)) q).natAbs).sum : Nat) : Int) ≤ S) (kf : ∀ k, cof (ks.map fun q => (q, c q)) k = c k) :
    RowJar H' b p (i + 1) S F (mulF c (cof (enumT ns ns.length))) qs := by
  have dneg : ∀ k, k < 0 → cof (enumT ns ns.length) k = 0 := fun k hk => by rw [cof_enum, if_neg (by omega)]
  have d0 : cof (enumT ns ns.length) 0 = 1 ∨ cof (enumT ns ns.length) 0 = -1 := by
    rw [cof_enum, if_pos ⟨Int.le_refl _, by have := r.1.1; omega⟩]
    exact r.2.2
  have hm : ∀ k, mulF c (cof (enumT ns ns.length)) k = cmul (ks.map fun q => (q, c q)) (cof (enumT ns ns.length)) k := fun k => mulF_of kf (fun _ => rfl) k
  refine ⟨hp, np, fun k hk => by rw [hm]; exact cmul_neg h.neg dneg ks k hk, ?_, ⟨kvs, e, ek⟩, nd, kz, top, sum⟩
  rw [hm, cmul_at0 h.neg dneg ks h.nd, if_pos h.zero]
  rcases h.one with e1 | e1 <;> rcases d0 with e2 | e2 <;> rw [e1, e2]
  · exact .inl rfl
  · exact .inr rfl
  · exact .inr rfl
  · exact .inl rfl
end
theorem cof_keys (c : Int → Int) : ∀ (ls : List Int), ls.Nodup → ∀ k, cof (ls.map fun q => (q, c q)) k = if k ∈ ls then c k else 0
  | [], _, k => rfl
  | l :: ls, nd, k => by
    have nd' := List.nodup_cons.mp nd
    rw [List.map_cons, cof, cof_keys c ls nd'.2 k]
    by_cases e : l = k
    · subst e; rw [if_pos rfl, if_neg nd'.1, if_pos (by simp)]; omega
    · rw [if_neg e]
      by_cases m : k ∈ ls
      · rw [if_pos m, if_pos (by simp [m])]; omega
      · rw [if_neg m, if_neg (by simp only [List.mem_cons, m, or_false]; exact fun z => e z.symm)]; rfl
theorem RowJar.kf {H : Hp} {b j : Addr} {i : Nat} {S F : Int} {c : Int → Int} {ks : List Int} (h : RowJar H b j i S F c ks) (k : Int) : cof (ks.map fun q => (q, c q)) k = c k := by
  rw [cof_keys c ks h.nd k]
  by_cases m : k ∈ ks
  · rw [if_pos m]
  · rw [if_neg m, h.kz k m]
theorem Ring.sm {ns : List Int} (r : Ring ns) (k : Int) : (cof (enumT ns ns.length) k).natAbs ≤ 1 := by
  rw [cof_enum]
  split
  · rename_i h
    have hl : k.toNat < ns.length := by omega
    rw [List.getD_eq_getElem?_getD, List.getElem?_eq_getElem hl]
    have := r.2.1 _ (List.getElem_mem hl)
    show (ns[k.toNat]).natAbs ≤ 1
    omega
  · decide
theorem RowJar.times_zero {H : Hp} {b j : Addr} {i : Nat} {S F : Int} {c : Int → Int} {ks qs ns : List Int} (h : RowJar H b j i S F c ks) (r : Ring ns) (kz : ∀ k, ¬ k ∈ qs → mulF c (cof (enumT ns ns.length)) k = 0) : 0 ∈ qs := by
  refine Decidable.byContradiction fun hn => ?_
  have h0 := kz 0 hn
  have dneg : ∀ k, k < 0 → cof (enumT ns ns.length) k = 0 := fun k hk => by rw [cof_enum, if_neg (by omega)]
  have d0 : cof (enumT ns ns.length) 0 = 1 ∨ cof (enumT ns ns.length) 0 = -1 := by
    rw [cof_enum, if_pos ⟨Int.le_refl _, by have := r.1.1; omega⟩]
    exact r.2.2
  have hm : mulF c (cof (enumT ns ns.length)) 0 = cmul (ks.map fun q => (q, c q)) (cof (enumT ns ns.length)) 0 := mulF_of h.kf (fun _ => rfl) 0
  rw [hm, cmul_at0 h.neg dneg ks h.nd, if_pos h.zero] at h0
  rcases h.one with e1 | e1 <;> rcases d0 with e2 | e2 <;> rw [e1, e2] at h0 <;> cases h0
theorem keys_int {kvs : List (Key × V)} {qs : List Int} (ek : kvs.map (·.1) = qs.map Sum.inl) : (kvs.map fun kv => kV kv.1) = qs.map V.int := by
  have h : (kvs.map fun kv => kV kv.1) = (kvs.map (·.1)).map kV := by rw [List.map_map]; rfl
  rw [h, ek, List.map_map]
  rfl
theorem map_inl_inj : ∀ {as bs : List Int}, (as.map Sum.inl : List Key) = bs.map Sum.inl → as = bs
  | [], [], _ => rfl
  | [], _ :: _, h => by cases h
  | _ :: _, [], h => by cases h
  | a :: as, b :: bs, h => by
    rw [List.map_cons, List.map_cons] at h
    injection h with h1 h2
    injection h1 with h1
    rw [h1, map_inl_inj h2]
theorem JarK.nk {kvs : List (Key × V)} {qs : List Int} (hk : JarK kvs) (ek : kvs.map (·.1) = qs.map Sum.inl) : qs.Nodup ∧ ∀ k, ¬ k ∈ qs → cfK kvs k = 0 := by
  obtain ⟨ks, e, nd, kz, _⟩ := hk.keys
  obtain rfl := map_inl_inj (e.symm.trans ek)
  exact ⟨nd, kz⟩
/-- one that is still to be done: heading, name, which way -/
def TodoV (F : Int) (H : Hp) (v : V) : Prop := ∃ (b : Addr) (d : Int) (nm : Str) (s : Int), v = .ref b ∧ H b = some (.tup [.int d, .str nm, .int s]) ∧ -F ≤ d ∧ d ≤ F ∧ IsName nm ∧ (s = 0 ∨ s = 1)
theorem TodoV.tk {F : Int} {H H' : Hp} {v : V} (h : TodoV F H v) (t : Tk H H') : TodoV F H' v := let ⟨b, d, nm, s, e, hb, r⟩ := h; ⟨b, d, nm, s, e, t _ _ hb, r⟩
theorem le_sumA {α : Type} (f : α → Nat) : ∀ {l : List α} {x : α}, x ∈ l → f x ≤ (l.map f).sum
  | y :: l, x, h => by
    rcases List.mem_cons.mp h with rfl | h
    · simp
    · have := le_sumA f h
      simp only [List.map_cons, List.sum_cons]
      omega
structure TdAt (F : Int) (a : Addr) (H H' : Hp) (t : Addr) (vs : List V) : Prop where
  bu : But a H H'
  bg : Bag H' a
  at_ : H' t = some (.lst vs)
  fr : H t = none
  ne : t ≠ a
  all : ∀ v ∈ vs, TodoV F H' v
structure MdAt (F : Int) (a : Addr) (H H' : Hp) (m : Addr) (ms : List V) (p : Prog) (now : Int) (k : Nat) : Prop where
  at_ : H' m = some (.lst ms)
  fr : H m = none
  ne : m ≠ a
  pr : PrAt H' p ms
  wf : WfL 4000 1 (2 * F) 0 p
  wi : p.wayIn F 0
  hd : p.head = now
  n0 : -F ≤ now
  n1 : now ≤ F
  ln : p.len ≤ k
section
variable {F : Int} {a t m c : Addr} {H H' H2 : Hp} {vs ms : List V} {p q : Prog} {now : Int} {k : Nat} {o : HO}
theorem TdAt.pick (h : TdAt F a H H' t vs) (s : But a H' H2) (b : Bag H2 a) : TdAt F a H H2 t vs := ⟨h.bu.trans s, b, s _ _ h.ne h.at_, h.fr, h.ne, fun v hv => (h.all v hv).tk (Tk.but s h.bg)⟩
theorem TdAt.new (h : TdAt F a H H' t vs) (n : H' c = none) : TdAt F a H (upd H' c o) t vs := ⟨h.bu.new n, h.bg.keep n, h_keep h.at_ n, h.fr, h.ne, fun v hv => (h.all v hv).tk ((Tk.refl _).new n)⟩
theorem TdAt.push (h : TdAt F a H H' t vs) {v : V} (hv : TodoV F H' v) : TdAt F a H (upd H' t (.lst (vs ++ [v]))) t (vs ++ [v]) := by
  have tk : Tk H' (upd H' t (.lst (vs ++ [v]))) := (Tk.refl _).lst h.at_
  refine ⟨h.bu.put h.fr, h.bg.upd h.ne.symm, upd_same, h.fr, h.ne, fun x hx => ?_⟩
  rcases List.mem_append.mp hx with hx | hx
  · exact (h.all x hx).tk tk
  · rw [List.mem_singleton.mp hx]
    exact hv.tk tk
theorem TdAt.other (h : TdAt F a H H' t vs) (hm : H' m = some (.lst ms)) (fm : H m = none) (nm : m ≠ a) (tm : t ≠ m) {xs : List V} : TdAt F a H (upd H' m (.lst xs)) t vs :=
  ⟨h.bu.put fm, h.bg.upd nm.symm, (upd_ne tm).trans h.at_, h.fr, h.ne, fun v hv => (h.all v hv).tk ((Tk.refl _).lst hm)⟩
theorem MdAt.pick (h : MdAt F a H H' m ms p now k) (s : But a H' H2) (b : Bag H' a) : MdAt F a H H2 m ms p now k := { h with at_ := s _ _ h.ne h.at_, pr := h.pr.tk (Tk.but s b) }
theorem MdAt.new (h : MdAt F a H H' m ms p now k) (n : H' c = none) : MdAt F a H (upd H' c o) m ms p now k := { h with at_ := h_keep h.at_ n, pr := h.pr.tk ((Tk.refl _).new n) }
theorem MdAt.mono (h : MdAt F a H H' m ms p now k) : MdAt F a H H' m ms p now (k + 1) := { h with ln := Nat.le_succ_of_le h.ln }
theorem MdAt.push (h : MdAt F a H H' m ms p now k) {v : V} (hq : PrAt H' q [v]) (lq : q.len = 1) (wq : WfL 4000 1 (2 * F) 0 q) (iq : q.wayIn F now) {d : Int} (ed : now + q.head = d) (d0 : -F ≤ d) (d1 : d ≤ F) : MdAt F a H (upd H' m (.lst (ms ++ [v]))) m (ms ++ [v]) (p.app q) d (k + 1) := by
  have tk : Tk H' (upd H' m (.lst (ms ++ [v]))) := (Tk.refl _).lst h.at_
  refine ⟨upd_same, h.fr, h.ne, (h.pr.app hq).tk tk, h.wf.app wq, Prog.wayIn_app h.wi ?_, ?_, d0, d1, ?_⟩
  · rw [Int.zero_add, h.hd]; exact iq
  · rw [Prog.head_app, h.hd, ed]
  · rw [Prog.len_app, lq]
    exact Nat.succ_le_succ h.ln
end
theorem word4 {n : Int} (h0 : 0 ≤ n) (h1 : n < 4) : ∃ x : Str, atI [V.str "back", V.str "go", V.str "slip", V.str "hop"] n = some (.str x) ∧ IsWord x := by
  rcases (by omega : n = 0 ∨ n = 1 ∨ n = 2 ∨ n = 3) with rfl | rfl | rfl | rfl
  · exact ⟨_, rfl, .inr (.inl rfl)⟩
  · exact ⟨_, rfl, .inl rfl⟩
  · exact ⟨_, rfl, .inr (.inr (.inr rfl))⟩
  · exact ⟨_, rfl, .inr (.inr (.inl rfl))⟩
theorem abs_int (x : Int) : (if x < 0 then -x else x) = ((x.natAbs : Nat) : Int) := by split <;> omega
end My

set_option Elab.async false
set_option linter.all false
set_option maxRecDepth 100000
set_option maxHeartbeats 2000000
namespace My
open PySem PySem.Spec PyProof.Rows L2
/-! ### short programs: headings within bounds on the whole way -/
namespace Prog
theorem wayIn_app_iff {f : Int} : ∀ {p q : Prog} {h : Int}, wayIn f h (p.app q) ↔ wayIn f h p ∧ wayIn f (h + p.head) q
  | .nil, q, h => by rw [head, Int.add_zero]; exact ⟨fun k => ⟨trivial, k⟩, fun k => k.2⟩
  | .step w m r, q, h => by rw [head]; exact wayIn_app_iff (p := r)
  | .turn k r, q, h => by
    have := wayIn_app_iff (f := f) (p := r) (q := q) (h := h + k)
    rw [head, ← Int.add_assoc]
    exact ⟨fun x => ⟨⟨x.1, (this.mp x.2).1⟩, (this.mp x.2).2⟩, fun x => ⟨x.1.1, this.mpr ⟨x.1.2, x.2⟩⟩⟩
  | .rep k b r, q, h => ⟨fun x => x.elim, fun x => x.1.elim⟩
  | .mir b r, q, h => ⟨fun x => x.elim, fun x => x.1.elim⟩
theorem head_times (p : Prog) : ∀ n : Nat, (times n p).head = n * p.head
  | 0 => by rw [times, head]; simp
  | n + 1 => by
    rw [times, head_app, head_times p n, Int.natCast_succ, Int.add_mul, Int.one_mul]
    omega
theorem head_unroll {L : Nat} {C T : Int} {d : Nat} {p : Prog} {s : Int} (hs : s = 1 ∨ s = -1) (h : WfL L C T d p) : (unroll s p).head = s * p.head := by
  rw [head_flat (wf_unroll hs h), turns_unroll s h]
/-- turned about: each heading with the other sign -/
inductive Neg : Prog → Prog → Prop
  | nil : Neg .nil .nil
  | step {w n : Str} {p q : Prog} : Neg p q → Neg (.step w n p) (.step w n q)
  | turn {k : Int} {p q : Prog} : Neg p q → Neg (.turn k p) (.turn (-k) q)
theorem Neg.app {p q : Prog} (h : Neg p q) {r s : Prog} (h' : Neg r s) : Neg (p.app r) (q.app s) := by
  induction h with
  | nil => exact h'
  | step _ ih => exact .step ih
  | turn _ ih => exact .turn ih
theorem Neg.times {p q : Prog} (h : Neg p q) : ∀ n, Neg (Prog.times n p) (Prog.times n q)
  | 0 => .nil
  | n + 1 => h.app (h.times n)
theorem neg_unroll : ∀ (p : Prog) (s : Int), Neg (unroll s p) (unroll (-s) p)
  | .nil, _ => .nil
  | .step w n r, s => .step (neg_unroll r s)
  | .turn k r, s => by
    rw [unroll, unroll, Int.neg_mul]
    exact .turn (neg_unroll r s)
  | .rep k b r, s => ((neg_unroll b s).times _).app (neg_unroll r s)
  | .mir b r, s => (neg_unroll b (-s)).app (neg_unroll r s)
theorem Neg.way {f : Int} {p q : Prog} (h : Neg p q) : ∀ {k : Int}, wayIn f k p → wayIn f (-k) q := by
  induction h with
  | nil => exact fun _ => trivial
  | step _ ih => exact fun x => ih x
  | turn _ ih =>
    intro k x
    have := ih x.2
    rw [Int.neg_add] at this
    exact ⟨by have := x.1; omega, this⟩
theorem way_neg {f : Int} {p : Prog} {s k : Int} (h : wayIn f k (unroll s p)) : wayIn f (-k) (unroll (-s) p) := (neg_unroll p s).way h
theorem way_times {f : Int} {b : Prog} {h : Int} (w : wayIn f h b) (z : b.head = 0) : ∀ n, wayIn f h (times n b)
  | 0 => trivial
  | n + 1 => wayIn_app_iff.mpr ⟨w, by rw [z, Int.add_zero]; exact way_times w z n⟩
theorem wayOk_of : ∀ {p : Prog} {h : Int}, wayIn 12 h p → wayOk h p = true
  | .nil, _, _ => rfl
  | .step w n r, h, x => wayOk_of (p := r) x
  | .turn k r, h, x => by
    rw [wayOk, if_neg (by have := x.1; omega)]
    exact wayOk_of x.2
  | .rep _ _ _, _, _ => rfl
  | .mir _ _, _, _ => rfl
theorem short_of {p : Prog} (h : p.size ≤ 200) (w : wayIn 12 0 (unroll 1 p)) : p.short = true := by
  rw [short, if_neg (by omega)]
  exact wayOk_of w
theorem unroll_flat {L : Nat} {C T : Int} : ∀ {p : Prog}, WfL L C T 0 p → unroll 1 p = p
  | .nil, _ => rfl
  | .step w n r, h => by rw [unroll, unroll_flat (WfL.step_iff.mp h).2.2]
  | .turn k r, h => by rw [unroll, unroll_flat (WfL.turn_iff.mp h).2, Int.one_mul]
  | .rep _ _ _, h => h.elim
  | .mir _ _, h => h.elim
/-- steps alone -/
def onlySteps : Prog → Prop
  | .nil => True
  | .step _ _ r => onlySteps r
  | .turn _ _ => False
  | .rep _ _ _ => False
  | .mir _ _ => False
theorem onlySteps_app : ∀ {p q : Prog}, onlySteps p → onlySteps q → onlySteps (p.app q)
  | .nil, q, _, h => h
  | .step w n r, q, h, h' => onlySteps_app (p := r) h h'
theorem only_way {f : Int} : ∀ {p : Prog} {h : Int}, onlySteps p → wayIn f h p
  | .nil, _, _ => trivial
  | .step w n r, h, x => only_way (p := r) x
theorem only_head : ∀ {p : Prog}, onlySteps p → p.head = 0
  | .nil, _ => by rw [head]
  | .step w n r, x => by rw [head]; exact only_head (p := r) x
theorem only_unroll : ∀ {p : Prog} (s : Int), onlySteps p → unroll s p = p
  | .nil, _, _ => rfl
  | .step w n r, s, x => by rw [unroll, only_unroll (p := r) s x]
end Prog
/-- a slice of a tuple, the whole one too -/
theorem r_slAG {K : PySem.W.Frag} {p : Addr} {xs : List V} {lo hi : Option Int} {H : Hp} {Q : VK} (h : H p = some (.tup xs)) (q : ∀ c H', Same H H' → H' c = some (.tup (cutV xs lo hi)) → Q (.ref c) H') : rSlA K (.ref p) lo hi H Q := by
  refine r_slA (.of h) (fun e => q p H (Same.refl _) ?_) (fun _ c hc => q c _ (Same.new0 hc) upd_same)
  have e2 : cutV xs lo hi = xs := by
    unfold cutV
    rw [e.1, e.2]
    simp
  rw [e2]
  exact h
/-- a program cut at a place -/
theorem PrAt.cutAt {H : Hp} : ∀ {p : Prog} {xs : List V} (n : Nat), PrAt H p xs → ∃ q r, p = q.app r ∧ PrAt H q (xs.take n) ∧ PrAt H r (xs.drop n)
  | p, xs, 0, h => ⟨.nil, p, rfl, by simp; rfl, by simpa using h⟩
  | .nil, xs, n + 1, h => ⟨.nil, .nil, rfl, by rw [show xs = [] from h]; rfl, by rw [show xs = [] from h]; rfl⟩
  | .step w m r, _, n + 1, ⟨c, ys, e, hc, hr⟩ => by
    subst e
    obtain ⟨q, s, e, h1, h2⟩ := hr.cutAt n
    exact ⟨.step w m q, s, by rw [e]; rfl, ⟨c, _, rfl, hc, h1⟩, h2⟩
  | .turn k r, _, n + 1, ⟨c, ys, e, hc, hr⟩ => by
    subst e
    obtain ⟨q, s, e, h1, h2⟩ := hr.cutAt n
    exact ⟨.turn k q, s, by rw [e]; rfl, ⟨c, _, rfl, hc, h1⟩, h2⟩
  | .rep k b r, _, n + 1, ⟨c, q0, zs, ys, e, hc, hq, hb, hr⟩ => by
    subst e
    obtain ⟨q, s, e, h1, h2⟩ := hr.cutAt n
    exact ⟨.rep k b q, s, by rw [e]; rfl, ⟨c, q0, zs, _, rfl, hc, hq, hb, h1⟩, h2⟩
  | .mir b r, _, n + 1, ⟨c, q0, zs, ys, e, hc, hq, hb, hr⟩ => by
    subst e
    obtain ⟨q, s, e, h1, h2⟩ := hr.cutAt n
    exact ⟨.mir b q, s, by rw [e]; rfl, ⟨c, q0, zs, _, rfl, hc, hq, hb, h1⟩, h2⟩
end My
namespace My
open PySem PySem.Spec PyProof.Rows L2
theorem cut_mid {xs : List V} {a b : Int} (h0 : 0 ≤ a) (h1 : a ≤ b) (h2 : b ≤ xs.length) : cutV xs (some a) (some b) = (xs.drop a.toNat).take (b.toNat - a.toNat) := by
  obtain ⟨m, rfl⟩ := Int.eq_ofNat_of_zero_le h0
  obtain ⟨n, rfl⟩ := Int.eq_ofNat_of_zero_le (Int.le_trans h0 h1)
  unfold cutV
  rw [HT.sIx_nat, HT.sIx_nat, Nat.min_eq_left (by omega), Nat.min_eq_left (by omega)]
  rfl
end My

set_option Elab.async false
set_option linter.all false
set_option maxRecDepth 100000
set_option maxHeartbeats 2000000
namespace My
open PySem PySem.Spec PyProof.Rows L2
theorem r_iEnum {K : PySem.W.Frag} {ta : TA} {σ : L2.St} {H : Hp} {R : It → Hp → Prop} (q : ta σ H fun vs H1 => ∃ a xs, vs = [.ref a] ∧ SqL K H1 a xs ∧ R (Ite K a) H1) : iEnum K ta σ H R := q
/-- for i, x in enumerate(list) -/
theorem u_forE {K : PySem.W.Frag} {σ : L2.St} {H : Hp} {g : TG} {tb : TS} {D : Ends} {p : Addr} {xs : List V} (h : SqL K H p xs) (Pv : Nat → L2.St → Hp → Prop) (h0 : Pv 0 σ H) (hl : ∀ i σ H, i ≤ xs.length → Pv i σ H → SqL K H p xs)
    (hs : ∀ i x T σ H, xs[i]? = some x → Pv i σ H → H T = none → g (.ref T) σ (upd H T (.tup [.int (i : Int), x])) fun σ2 H2 => tb { D with nx := Pv (i + 1), ct := Pv (i + 1), bk := D.nx } σ2 H2) (hd : ∀ σ H, Pv xs.length σ H → D.nx σ H) :
    ∃ a ys, [V.ref p] = [.ref a] ∧ SqL K H a ys ∧ ∃ W : Nat → Nat → L2.St → Hp → Prop, (∃ m, W 0 m σ H) ∧ ∀ i m σ H, W i m σ H →
      ((Ite K a).stop i H ∧ D.nx σ H) ∨ ((Ite K a).go i H ∧ ∃ N : L2.St → Hp → Prop, (∀ σ' H', N σ' H' → ∃ m', m' < m ∧ W (i + 1) m' σ' H') ∧ ∀ x H', (Ite K a).yld i H x H' → g x σ H' fun σ2 H2 => tb { D with nx := N, ct := N, bk := D.nx } σ2 H2) :=
  ⟨p, xs, rfl, h, for_it walk_enum Pv h0 hl (fun i x σ H H' hi pv y => by
    obtain ⟨T, u, v, e1, e2, e3, e4, e5⟩ := y
    subst e1 e3
    cases e4
    exact hs i v T σ H e5 pv e2) hd⟩
/-! ### rows of things -/
def Each {α : Type} (R : V → α → Prop) (vs : List V) (xs : List α) : Prop := vs.length = xs.length ∧ ∀ (i : Nat) (v : V) (x : α), vs[i]? = some v → xs[i]? = some x → R v x
section
variable {α : Type} {R S : V → α → Prop} {vs : List V} {xs : List α}
theorem Each.nil : Each R [] [] := ⟨rfl, fun i v x h => by simp at h⟩
theorem Each.imp (h : Each R vs xs) (k : ∀ v x, x ∈ xs → R v x → S v x) : Each S vs xs := ⟨h.1, fun i v x hv hx => k v x (List.mem_of_getElem? hx) (h.2 i v x hv hx)⟩
theorem Each.app {ws : List V} {ys : List α} (h : Each R vs xs) (k : Each R ws ys) : Each R (vs ++ ws) (xs ++ ys) := by
  refine ⟨by rw [List.length_append, List.length_append, h.1, k.1], fun i v x hv hx => ?_⟩
  by_cases l : i < vs.length
  · rw [List.getElem?_append_left l] at hv
    rw [List.getElem?_append_left (by rw [← h.1]; exact l)] at hx
    exact h.2 i v x hv hx
  · rw [List.getElem?_append_right (by omega)] at hv
    rw [List.getElem?_append_right (by rw [← h.1]; omega), ← h.1] at hx
    exact k.2 _ v x hv hx
theorem Each.one {v : V} {x : α} (k : R v x) : Each R [v] [x] := ⟨rfl, fun i v' x' hv hx => by
  cases i with
  | zero => cases hv; cases hx; exact k
  | succ n => simp at hv⟩
theorem Each.snoc {v : V} {x : α} (h : Each R vs xs) (k : R v x) : Each R (vs ++ [v]) (xs ++ [x]) := h.app (.one k)
theorem Each.cons {v : V} {x : α} (k : R v x) (h : Each R vs xs) : Each R (v :: vs) (x :: xs) := (Each.one k).app h
theorem Each.at (h : Each R vs xs) {i : Nat} {v : V} (hv : vs[i]? = some v) : ∃ x, xs[i]? = some x ∧ R v x := by
  have hi := (List.getElem?_eq_some_iff.mp hv).1
  rw [h.1] at hi
  exact ⟨xs[i], List.getElem?_eq_getElem hi, h.2 i v _ hv (List.getElem?_eq_getElem hi)⟩
theorem Each.get (h : Each R vs xs) {i : Nat} {x : α} (hx : xs[i]? = some x) : ∃ v, vs[i]? = some v ∧ R v x := by
  have hi := (List.getElem?_eq_some_iff.mp hx).1
  rw [← h.1] at hi
  exact ⟨vs[i], List.getElem?_eq_getElem hi, h.2 i _ x (List.getElem?_eq_getElem hi) hx⟩
theorem Each.reverse (h : Each R vs xs) : Each R vs.reverse xs.reverse := by
  refine ⟨by simpa using h.1, fun i v x hv hx => ?_⟩
  have l : i < vs.length := by have := (List.getElem?_eq_some_iff.mp hv).1; simpa using this
  rw [List.getElem?_reverse l] at hv
  rw [List.getElem?_reverse (by rw [← h.1]; exact l), ← h.1] at hx
  exact h.2 _ v x hv hx
theorem Each.drop (h : Each R vs xs) (n : Nat) : Each R (vs.drop n) (xs.drop n) := ⟨by rw [List.length_drop, List.length_drop, h.1], fun i v x hv hx => by
  rw [List.getElem?_drop] at hv hx
  exact h.2 _ v x hv hx⟩
theorem Each.take (h : Each R vs xs) (n : Nat) : Each R (vs.take n) (xs.take n) := ⟨by rw [List.length_take, List.length_take, h.1], fun i v x hv hx => by
  rw [List.getElem?_take] at hv hx
  split at hv
  · rw [if_pos (by assumption)] at hx
    exact h.2 i v x hv hx
  · cases hv⟩
end
/-! ### what is no dict stays -/
def Std (H H' : Hp) : Prop := ∀ c o, (∀ kvs, o ≠ .dK kvs) → H c = some o → H' c = some o
theorem Std.refl (H : Hp) : Std H H := fun _ _ _ h => h
theorem Std.trans {H H1 H2 : Hp} (h : Std H H1) (k : Std H1 H2) : Std H H2 := fun c o n e => k c o n (h c o n e)
theorem Std.of {H H' : Hp} (h : Same H H') : Std H H' := fun c o _ e => h c o e
theorem Std.tk {H H' : Hp} (h : Std H H') : Tk H H' := fun c xs e => h c _ (by intro _ z; cases z) e
theorem Std.lst {H H' : Hp} {a : Addr} {xs : List V} (h : Std H H') (e : H a = some (.lst xs)) : H' a = some (.lst xs) := h a _ (by intro _ z; cases z) e
theorem Std.stay {H H' : Hp} (h : Std H H') : Stay H H' := fun c o _ n e => h c o n e
theorem Std.dk {H H' : Hp} {p : Addr} {kvs : List (Key × V)} {o : HO} (h : Std H H') (n : H' p = some (.dK kvs)) : Std H (upd H' p o) := fun c u x e => by
  have q := h c u x e
  refine (upd_ne ?_).trans q
  rintro rfl
  rw [n] at q
  cases q
  exact x _ rfl
theorem Std.but {H H1 H2 : Hp} {p : Addr} {kvs : List (Key × V)} (h : Std H H1) (n : H1 p = some (.dK kvs)) (b : But p H1 H2) : Std H H2 := fun c u x e => by
  have q := h c u x e
  refine b c u ?_ q
  rintro rfl
  rw [n] at q
  cases q
  exact x _ rfl
theorem Std.new {H H' : Hp} {p : Addr} {o : HO} (h : Std H H') (n : H' p = none) : Std H (upd H' p o) := fun c u x e => h_keep (h c u x e) n
/-- a jar of names under a change of a list -/
theorem Spot.lst {H0 H : Hp} {s l : Addr} {N : Nat} {c : Str → Int → Int} {ws : List (Str × Addr)} {xs : List V} {o : HO} (h : Spot H0 H s N c ws) (n : H0 l = none) (e : H l = some (.lst xs)) : Spot H0 (upd H l o) s N c ws :=
  ⟨(upd_ne (ne_of h.at_ e (by intro z; cases z))).trans h.at_, h.nd, h.ndA, h.name, h.new, h.news, fun x hx => by
    obtain ⟨kvs, e1, r⟩ := h.jars x hx
    exact ⟨kvs, (upd_ne (ne_of e1 e (by intro z; cases z))).trans e1, r⟩, h.none_, Same.put h.same n⟩
/-! ### the steps of a flat program -/
abbrev Stp := Str × Str × Int
namespace Prog
def stps : Int → Prog → List Stp
  | _, .nil => []
  | h, .step w n r => (w, n, h) :: stps h r
  | h, .turn t r => stps (h + t) r
  | _, .rep _ _ _ => []
  | _, .mir _ _ => []
theorem stps_len : ∀ (p : Prog) (h : Int), (stps h p).length ≤ p.len
  | .nil, _ => Nat.le_refl _
  | .step w m r, h => by rw [stps, len, List.length_cons]; exact Nat.succ_le_succ (stps_len r h)
  | .turn t r, h => by rw [stps, len]; exact Nat.le_succ_of_le (stps_len r (h + t))
  | .rep _ _ _, _ => Nat.zero_le _
  | .mir _ _, _ => Nat.zero_le _
theorem stps_ok {L : Nat} {C T : Int} : ∀ {p : Prog} (h : Int), WfL L C T 0 p → ∀ s ∈ stps h p, IsWord s.1 ∧ IsName s.2.1
  | .nil, h, _ => by simp [stps]
  | .step w m r, h, hw => by
    obtain ⟨w1, w2, w3⟩ := WfL.step_iff.mp hw
    intro s hs
    rw [stps] at hs
    rcases List.mem_cons.mp hs with rfl | hs
    · exact ⟨w1, w2⟩
    · exact stps_ok h w3 s hs
  | .turn t r, h, hw => stps_ok (p := r) (h + t) (WfL.turn_iff.mp hw).2
  | .rep _ _ _, h, hw => hw.elim
  | .mir _ _, h, hw => hw.elim
end Prog
/-- a program held at a value -/
def PrC (H : Hp) (v : V) (p : Prog) : Prop := ∃ q, v = .ref q ∧ PrIs H q p
theorem PrC.tk {H H' : Hp} {v : V} {p : Prog} (h : PrC H v p) (t : Tk H H') : PrC H' v p := let ⟨q, e, k⟩ := h; ⟨q, e, k.tk t⟩
/-- what steps add up to: the number of the name n at the power k -/
def stC : List Stp → Str → Int → Int
  | [], _, _ => 0
  | s :: ss, n, k => (if s.2.1 = n ∧ s.2.2 = k then stepSign s.1 else 0) + stC ss n k
theorem stC_app : ∀ (ss ts : List Stp) (n : Str) (k : Int), stC (ss ++ ts) n k = stC ss n k + stC ts n k
  | [], ts, n, k => by rw [List.nil_append, stC, Int.zero_add]
  | s :: ss, ts, n, k => by rw [List.cons_append, stC, stC, stC_app ss ts n k, Int.add_assoc]
theorem stC_stps : ∀ (p : Prog) (h : Int) (n : Str) (k : Int), stC (Prog.stps h p) n k = Prog.wcf h p n k
  | .nil, _, _, _ => rfl
  | .step w m r, h, n, k => by rw [Prog.stps, stC, Prog.wcf, stC_stps r h n k]
  | .turn t r, h, n, k => by rw [Prog.stps, Prog.wcf, stC_stps r (h + t) n k]
  | .rep _ _ _, _, _, _ => rfl
  | .mir _ _, _, _, _ => rfl
/-- one step more -/
def bump (c : Str → Int → Int) (s : Stp) : Str → Int → Int := fun n k => c n k + if s.2.1 = n ∧ s.2.2 = k then stepSign s.1 else 0
theorem stC_snoc (ss : List Stp) (s : Stp) : stC (ss ++ [s]) = bump (stC ss) s := by
  funext n k
  rw [stC_app]
  show _ + (_ + 0) = _
  rw [Int.add_zero]; rfl
theorem stC_snoc' (ss : List Stp) (s : Stp) : stC (ss ++ (some s).toList) = bump (stC ss) s := stC_snoc ss s
def StpC (H : Hp) (v : V) (s : Stp) : Prop := ∃ b, v = .ref b ∧ H b = some (.tup [.str s.1, .str s.2.1, .int s.2.2])
theorem StpC.tk {H H' : Hp} {v : V} {s : Stp} (h : StpC H v s) (t : Tk H H') : StpC H' v s := let ⟨b, e, g⟩ := h; ⟨b, e, t _ _ g⟩
/-! ### places of the program -/
def PlC (C : Addr) (H : Hp) (v : V) (e : Str × Terms) : Prop := ∃ b l, v = .ref b ∧ H b = some (.tup [.str e.1, .ref l]) ∧ PolyAt C H l e.2
theorem PlC.stay {C : Addr} {H H' : Hp} {v : V} {e : Str × Terms} (h : PlC C H v e) (s : Stay H H') : PlC C H' v e := let ⟨b, l, e1, e2, e3⟩ := h; ⟨b, l, e1, s.tk _ _ e2, e3.stay s⟩
def PlaceP (C : Addr) (H : Hp) (l : Addr) (pl : Pl) : Prop := ∃ vs, H l = some (.lst vs) ∧ Each (PlC C H) vs pl
theorem PlaceP.std {C : Addr} {H H' : Hp} {l : Addr} {pl : Pl} (h : PlaceP C H l pl) (s : Std H H') : PlaceP C H' l pl := let ⟨vs, e, k⟩ := h; ⟨vs, s.lst e, k.imp fun v x _ r => r.stay s.stay⟩
theorem PlaceP.same {C : Addr} {H H' : Hp} {l : Addr} {pl : Pl} (h : PlaceP C H l pl) (s : Same H H') : PlaceP C H' l pl := h.std (.of s)
/-- under a change of another list -/
theorem PlaceP.lst {C : Addr} {H : Hp} {l m : Addr} {pl : Pl} {xs : List V} {o : HO} (h : PlaceP C H l pl) (n : l ≠ m) (e : H m = some (.lst xs)) : PlaceP C (upd H m o) l pl := let ⟨vs, e1, k⟩ := h; ⟨vs, (upd_ne n).trans e1, k.imp fun v x _ r => r.stay ((Stay.refl H).lst e)⟩
theorem PlaceL.upd {F : Addr → Prop} {H : Hp} {m : Addr} {xs : List V} {o : HO} (hF : ∀ x, F x → x ≠ m) (e : H m = some (.lst xs)) : ∀ {vs : List V} {pl : Pl}, PlaceL F H vs pl → PlaceL F (upd H m o) vs pl
  | [], _, h => h
  | _ :: _, _, ⟨b, l, e0, us, e1, e2, e3, e4, ⟨ws, e5, e7⟩, e6⟩ => ⟨b, l, e0, us, e1, e2, (Tk.refl H).lst e _ _ e3, e4, ⟨ws, (upd_ne (hF _ e4)).trans e5, e7.tk ((Tk.refl H).lst e)⟩, PlaceL.upd hF e e6⟩
theorem PlaceL.std {F : Addr → Prop} {H H' : Hp} (t : Std H H') : ∀ {vs : List V} {pl : Pl}, PlaceL F H vs pl → PlaceL F H' vs pl
  | [], _, h => h
  | _ :: _, _, ⟨b, l, e0, us, e1, e2, e3, e4, ⟨ws, e5, e7⟩, e6⟩ => ⟨b, l, e0, us, e1, e2, t.tk _ _ e3, e4, ⟨ws, t.lst e5, e7.tk t.tk⟩, PlaceL.std t e6⟩
theorem PlaceL.mono {F G : Addr → Prop} (hF : ∀ x, F x → G x) {H : Hp} : ∀ {vs : List V} {pl : Pl}, PlaceL F H vs pl → PlaceL G H vs pl
  | [], _, h => h
  | _ :: _, _, ⟨b, l, e0, us, e1, e2, e3, e4, e5, e6⟩ => ⟨b, l, e0, us, e1, e2, e3, hF _ e4, e5, PlaceL.mono hF e6⟩
/-- all beginnings of the steps, from none to all -/
def pfx (ss : List Stp) (n : Nat) : List (List Stp) := (List.range n).map ss.take
theorem pfx_succ (ss : List Stp) (n : Nat) : pfx ss (n + 1) = pfx ss n ++ [ss.take n] := by unfold pfx; rw [List.range_succ, List.map_append]; rfl
theorem pfx_len (ss : List Stp) (n : Nat) : (pfx ss n).length = n := by unfold pfx; simp
theorem pfx_get {ss : List Stp} {n i : Nat} (h : i < n) : (pfx ss n)[i]? = some (ss.take i) := by unfold pfx; rw [List.getElem?_map, List.getElem?_range h]; rfl
/-- a place of the program held in a list at l, all new since H -/
def PlR (C : Addr) (H H' : Hp) (l : Addr) (v : V) (ss : List Stp) : Prop := ∃ a pl, v = .ref a ∧ H a = none ∧ a ≠ l ∧ PlaceP C H' a pl ∧ IsPlace pl (stC ss) ∧ (∀ e ∈ pl, e.2.length ≤ 5000) ∧ pl.length < 64
theorem PlR.std {C : Addr} {H H' H2 : Hp} {l : Addr} {v : V} {ss : List Stp} (h : PlR C H H' l v ss) (s : Std H' H2) : PlR C H H2 l v ss := let ⟨a, pl, e, n, ne, hp, r⟩ := h; ⟨a, pl, e, n, ne, hp.std s, r⟩
theorem PlR.lst {C : Addr} {H H' : Hp} {l : Addr} {v : V} {ss : List Stp} {xs : List V} {o : HO} (h : PlR C H H' l v ss) (e : H' l = some (.lst xs)) : PlR C H (L2.upd H' l o) l v ss := let ⟨a, pl, e0, n, ne, hp, r⟩ := h; ⟨a, pl, e0, n, ne, hp.lst ne e, r⟩
/-- a place of the law's own in a list at l, beside the list d -/
def TrR (H' : Hp) (l d : Addr) (v : V) (ss : List Stp) : Prop := ∃ a vs pl, v = .ref a ∧ a ≠ l ∧ a ≠ d ∧ H' a = some (.lst vs) ∧ PlaceL (fun x => x ≠ l ∧ x ≠ d) H' vs pl ∧ IsPlace pl (stC ss)
theorem TrR.std {H' H2 : Hp} {l d : Addr} {v : V} {ss : List Stp} (h : TrR H' l d v ss) (s : Std H' H2) : TrR H2 l d v ss := let ⟨a, vs, pl, e, n, ne, ha, hp, r⟩ := h; ⟨a, vs, pl, e, n, ne, s.lst ha, hp.std s, r⟩
theorem TrR.lst {H' : Hp} {l d m : Addr} {v : V} {ss : List Stp} {xs : List V} {o : HO} (h : TrR H' l d v ss) (hm : m = l ∨ m = d) (e : H' m = some (.lst xs)) : TrR (L2.upd H' m o) l d v ss := by
  obtain ⟨a, vs, pl, e0, n, ne, ha, hp, r⟩ := h
  have am : a ≠ m := by rcases hm with rfl | rfl <;> assumption
  refine ⟨a, vs, pl, e0, n, ne, (upd_ne am).trans ha, hp.upd (fun x hx => ?_) e, r⟩
  rcases hm with rfl | rfl
  · exact hx.1
  · exact hx.2
theorem TrR.place {H' : Hp} {l d : Addr} {v : V} {ss : List Stp} (h : TrR H' l d v ss) : ∃ a pl, v = .ref a ∧ PlaceAt H' a pl ∧ IsPlace pl (stC ss) := let ⟨a, vs, pl, e, _, _, ha, hp, r⟩ := h; ⟨a, pl, e, ⟨vs, ha, hp.all⟩, r⟩
theorem IsPlace.nil : IsPlace [] (stC []) := ⟨by simp, by simp, by simp, fun _ _ _ => rfl⟩
/-- drawn: go or back -/
def isDrawn (s : Stp) : Bool := decide (s.1 = "go" ∨ s.1 = "back")
/-- the names and places in the row of the drawn steps -/
def drw : Nat → List Stp → List (Str × Nat)
  | _, [] => []
  | n, s :: ss => if isDrawn s then (s.2.1, n) :: drw (n + 1) ss else drw (n + 1) ss
theorem drw_app : ∀ (n : Nat) (ss ts : List Stp), drw n (ss ++ ts) = drw n ss ++ drw (n + ss.length) ts
  | n, [], ts => by simp [drw]
  | n, s :: ss, ts => by
    rw [List.cons_append, drw, drw, drw_app, List.length_cons, show n + 1 + ss.length = n + (ss.length + 1) by omega]
    split <;> rfl
theorem drw_snoc (ss : List Stp) (s : Stp) : drw 0 (ss ++ [s]) = drw 0 ss ++ if isDrawn s then [(s.2.1, ss.length)] else [] := by
  rw [drw_app, Nat.zero_add]; rfl
theorem drw_len : ∀ (n : Nat) (ss : List Stp), (drw n ss).length ≤ ss.length
  | _, [] => Nat.le_refl _
  | n, s :: ss => by
    have := drw_len (n + 1) ss
    rw [drw]
    split
    · simp only [List.length_cons]; omega
    · rw [List.length_cons]; omega
def DrC (H : Hp) (v : V) (e : Str × Nat) : Prop := ∃ b, v = .ref b ∧ H b = some (.tup [.str e.1, .int e.2])
theorem DrC.tk {H H' : Hp} {v : V} {e : Str × Nat} (h : DrC H v e) (t : Tk H H') : DrC H' v e := let ⟨b, e1, e2⟩ := h; ⟨b, e1, t _ _ e2⟩
theorem inDrawn {w : Str} (h : IsWord w) : inV (.str w) [.str "go", .str "back"] = decide (w = "go" ∨ w = "back") := by
  rcases h with rfl | rfl | rfl | rfl <;> decide +kernel
theorem PlaceP.but {C : Addr} {H H' : Hp} {l m : Addr} {pl : Pl} {xs : List V} (h : PlaceP C H l pl) (n : l ≠ m) (e : H m = some (.lst xs)) (b : But m H H') : PlaceP C H' l pl := let ⟨vs, e1, k⟩ := h; ⟨vs, b _ _ n e1, k.imp fun v x _ r => r.stay (Stay.but b e)⟩
/-- a stroke of the program in a list at l, all new since H -/
def StR (C : Addr) (ss : List Stp) (H H' : Hp) (l : Addr) (v : V) (e : Str × Nat) : Prop := ∃ b a1 a2 pl1 pl2, v = .ref b ∧ H' b = some (.tup [.str e.1, .ref a1, .ref a2]) ∧ (H a1 = none ∧ H a2 = none ∧ a1 ≠ l ∧ a2 ≠ l) ∧
  (PlaceP C H' a1 pl1 ∧ IsPlace pl1 (stC (ss.take e.2)) ∧ (∀ e ∈ pl1, e.2.length ≤ 5000) ∧ pl1.length < 64) ∧ PlaceP C H' a2 pl2 ∧ IsPlace pl2 (stC (ss.take (e.2 + 1))) ∧ (∀ e ∈ pl2, e.2.length ≤ 5000) ∧ pl2.length < 64
theorem StR.std {C : Addr} {ss : List Stp} {H H' H2 : Hp} {l : Addr} {v : V} {e : Str × Nat} (h : StR C ss H H' l v e) (s : Std H' H2) : StR C ss H H2 l v e := let ⟨b, a1, a2, pl1, pl2, e1, e2, n, ⟨h1, r1⟩, h2, r2⟩ := h; ⟨b, a1, a2, pl1, pl2, e1, s.tk _ _ e2, n, ⟨h1.std s, r1⟩, h2.std s, r2⟩
theorem StR.lst {C : Addr} {ss : List Stp} {H H' : Hp} {l : Addr} {v : V} {e : Str × Nat} {xs : List V} {o : HO} (h : StR C ss H H' l v e) (e0 : H' l = some (.lst xs)) : StR C ss H (L2.upd H' l o) l v e := let ⟨b, a1, a2, pl1, pl2, e1, e2, n, ⟨h1, r1⟩, h2, r2⟩ := h; ⟨b, a1, a2, pl1, pl2, e1, (Tk.refl H').lst e0 _ _ e2, n, ⟨h1.lst n.2.2.1 e0, r1⟩, h2.lst n.2.2.2 e0, r2⟩
/-- the terms of a jar -/
theorem jar_terms {kvs : List (Key × V)} (h : JarK kvs) : ∃ ts : Terms, kvs = ts.map (fun p => (Sum.inl p.1, V.int p.2)) ∧ ∀ k, cof ts k = cfK kvs k := by
  have key : ∀ {kvs : List (Key × V)}, (∀ p ∈ kvs, ∃ k n : Int, p = (Sum.inl k, V.int n)) → (kvs.map (·.1)).Nodup → ∃ ts : Terms, kvs = ts.map (fun p => (Sum.inl p.1, V.int p.2)) ∧ ∀ k, cof ts k = cfK kvs k := by
    intro kvs
    induction kvs with
    | nil => intro _ _; exact ⟨[], rfl, fun k => rfl⟩
    | cons p l ih =>
      intro hl nd
      obtain ⟨k, n, rfl⟩ := hl p List.mem_cons_self
      obtain ⟨hn, nd⟩ := List.nodup_cons.mp nd
      obtain ⟨ts, rfl, hc⟩ := ih (fun q hq => hl q (List.mem_cons_of_mem _ hq)) nd
      refine ⟨(k, n) :: ts, rfl, fun j => ?_⟩
      show (if k = j then n else 0) + cof ts j = _
      rw [hc j]
      unfold cfK valV
      rw [List.find?_cons]
      by_cases e : k = j
      · subst e
        rw [if_pos rfl, decide_eq_true rfl]
        have hz : (ts.map fun p => ((Sum.inl p.1 : Key), V.int p.2)).find? (fun kv => decide (kv.1 = Sum.inl k)) = none := by
          refine List.find?_eq_none.mpr fun q hq hd => hn ?_
          exact List.mem_map.mpr ⟨q, hq, of_decide_eq_true hd⟩
        rw [hz]
        show n + 0 = n
        omega
      · rw [if_neg e, decide_eq_false (fun h => e (Sum.inl.inj h)), Int.zero_add]
  exact key h.prs h.nd
theorem terms_paired {H : Hp} : ∀ {ts : Terms} {as : List Addr}, Paired (fun (t : Addr) (q : Key × V) => H t = some (.tup [kV q.1, q.2])) as (ts.map fun p => ((Sum.inl p.1 : Key), V.int p.2)) → TermsL H (as.map V.ref) ts
  | [], _, h => by cases h; rfl
  | p :: ts, _, h => by
    cases h with
    | cons e r => exact ⟨_, p, ts, rfl, rfl, e, terms_paired r⟩
end My

set_option Elab.async false
set_option linter.all false
set_option maxRecDepth 100000
namespace My
open PySem PySem.Spec PyProof.Rows L2 RT
end My

set_option Elab.async false
set_option linter.all false
set_option maxRecDepth 100000
set_option maxHeartbeats 4000000
namespace My
open PySem PySem.Spec PyProof.Rows L2
/-! ### list.count of a list of strs -/
def eqsJ (k : Str) (v : Value) : Bool := match v with
  | .str n _ => n.cps.toList == k.cps.toList
  | _ => false
theorem eqsJ_gives {k : Str} {t : Tok} : ∀ {us : List Value} {ns : List Str}, StrsAre us ns → ∀ y ∈ us, MeetsSeq.EqGives y (.str k t) (eqsJ k y)
  | _, _, .nil => fun y hy => by cases hy
  | _, _, .cons n t' h => fun y hy => by
    rcases List.mem_cons.mp hy with e | e
    · rw [e]
      exact PySem.SeqRoads2.EqGives.str n k t' t
    · exact eqsJ_gives h y e
theorem eqsJ_count {k : Str} : ∀ {us : List Value} {ns : List Str}, StrsAre us ns → us.countP (eqsJ k) = ns.countP fun n => n.cps.toList == k.cps.toList
  | _, _, .nil => rfl
  | _, _, .cons n t h => by
    have ih := eqsJ_count (k := k) h
    rw [List.countP_cons, List.countP_cons, ih]
    rfl
section
variable {X : Cx}
def rCntJ (K : PySem.W.Frag) : V → List V → Hp → VK → Prop := fun x xs H Q => ∃ (p : Addr) (ns : List Str) (k : Str), x = .ref p ∧ xs = [.str k] ∧ SqL K H p (ns.map V.str) ∧ Q (.int (ns.countP fun n => n.cps.toList == k.cps.toList : Nat)) H
theorem mt_lcountJ : L2.MtR X "list.count" (rCntJ X.K) := by
  intro pins s σ H x xs v us Q I rx rxs h
  obtain ⟨p, ns, k, rfl, rfl, hs, q⟩ := h
  cases rx
  obtain ⟨u, rfl, ru⟩ := rxs.one
  obtain ⟨t, rfl⟩ := ru
  obtain ⟨its, rv, ⟨⟨cls, dd, data, sl⟩, n, ho, hc, hdn, hd⟩, hlen⟩ := I.list hs
  simp only at hc hd
  subst hc hd
  have hi := Vals.strs rv
  refine call_meets PySem.F.slot_list_count ⟨_, ho, rfl⟩ PySem.F.entry_list_count (PySem.F.args_list_count_2 _ _)
    (SeqAt.list_countAt p its.toArray n dd sl (.str k t) (eqsJ k)) ⟨ho, fun y hy => (eqsJ_gives hi y (by simpa using hy)).at _ _, ?_⟩
  have ec : its.toArray.toList.countP (eqsJ k) = ns.countP (fun n => n.cps.toList == k.cps.toList) := eqsJ_count hi
  refine ⟨.int (ns.countP fun n => n.cps.toList == k.cps.toList : Nat), H, I.tok _, ⟨s.toks, ?_⟩, q⟩
  rw [ec]
end
/-! ### the words of a flat program -/
def Prog.wrds : Prog → List Str
  | .nil => []
  | .step w _ r => w :: Prog.wrds r
  | .turn _ r => "turn" :: Prog.wrds r
  | .rep _ _ r => "repeat" :: Prog.wrds r
  | .mir _ r => "mirror" :: Prog.wrds r
theorem Prog.wrds_len : ∀ p : Prog, p.wrds.length = p.len
  | .nil => rfl
  | .step _ _ r => by rw [Prog.wrds, List.length_cons, Prog.wrds_len r]; rfl
  | .turn _ r => by rw [Prog.wrds, List.length_cons, Prog.wrds_len r]; rfl
  | .rep _ _ r => by rw [Prog.wrds, List.length_cons, Prog.wrds_len r]; rfl
  | .mir _ r => by rw [Prog.wrds, List.length_cons, Prog.wrds_len r]; rfl
/-- how often a word stands there -/
def Prog.wcnt (p : Prog) (k : Str) : Nat := p.wrds.countP fun n => n.cps.toList == k.cps.toList
theorem wcnt_cons (w k : Str) (ws : List Str) : (w :: ws).countP (fun n : Str => n.cps.toList == k.cps.toList) = ws.countP (fun n : Str => n.cps.toList == k.cps.toList) + if w.cps.toList == k.cps.toList then 1 else 0 := List.countP_cons
theorem Prog.wcnt_steps {L : Nat} {C T : Int} : ∀ {p : Prog} (h : Int), WfL L C T 0 p → ((stps h p).length : Int) = p.len - p.wcnt "turn"
  | .nil, _, _ => rfl
  | .step w n r, h, hw => by
    have ih := Prog.wcnt_steps h (WfL.step_iff.mp hw).2.2
    have e : (w.cps.toList == (("turn" : Str)).cps.toList) = false := by rcases (WfL.step_iff.mp hw).1 with rfl | rfl | rfl | rfl <;> decide
    unfold Prog.wcnt at ih ⊢
    rw [stps, Prog.wrds, wcnt_cons, e, List.length_cons, Prog.len]
    simp only [Bool.false_eq_true, if_false, Nat.add_zero]
    omega
  | .turn k r, h, hw => by
    have ih := Prog.wcnt_steps (h + k) (WfL.turn_iff.mp hw).2
    have e : ((("turn" : Str)).cps.toList == (("turn" : Str)).cps.toList) = true := by decide
    unfold Prog.wcnt at ih ⊢
    rw [stps, Prog.wrds, wcnt_cons, e, Prog.len]
    simp only [if_true]
    omega
  | .rep _ _ _, _, h => h.elim
  | .mir _ _, _, h => h.elim
theorem drwLen_any : ∀ (n m : Nat) (ss : List Stp), (drw n ss).length = (drw m ss).length
  | _, _, [] => rfl
  | n, m, s :: ss => by
    rw [drw, drw]
    split
    · rw [List.length_cons, List.length_cons, drwLen_any (n + 1) (m + 1) ss]
    · exact drwLen_any (n + 1) (m + 1) ss
theorem Prog.wcnt_drawn {L : Nat} {C T : Int} : ∀ {p : Prog} (h : Int), WfL L C T 0 p → (drw 0 (stps h p)).length = p.wcnt "go" + p.wcnt "back"
  | .nil, _, _ => rfl
  | .step w n r, h, hw => by
    have ih := Prog.wcnt_drawn h (WfL.step_iff.mp hw).2.2
    have e : (if isDrawn (w, n, h) then 1 else 0) = (if w.cps.toList == (("go" : Str)).cps.toList then 1 else 0) + (if w.cps.toList == (("back" : Str)).cps.toList then 1 else 0) := by
      rcases (WfL.step_iff.mp hw).1 with rfl | rfl | rfl | rfl <;> rfl
    unfold Prog.wcnt at ih ⊢
    rw [stps, Prog.wrds, wcnt_cons, wcnt_cons, drw]
    have l := drwLen_any 1 0 (stps h r)
    split
    · rename_i hd
      rw [hd] at e
      simp only [if_true] at e
      rw [List.length_cons, show (0 + 1) = 1 from rfl, l, ih]
      omega
    · rename_i hd
      rw [Bool.not_eq_true] at hd
      rw [hd] at e
      simp only [Bool.false_eq_true, if_false] at e
      rw [show (0 + 1) = 1 from rfl, l, ih]
      omega
  | .turn k r, h, hw => by
    have ih := Prog.wcnt_drawn (h + k) (WfL.turn_iff.mp hw).2
    have e1 : ((("turn" : Str)).cps.toList == (("go" : Str)).cps.toList) = false := by decide
    have e2 : ((("turn" : Str)).cps.toList == (("back" : Str)).cps.toList) = false := by decide
    unfold Prog.wcnt at ih ⊢
    rw [stps, Prog.wrds, wcnt_cons, wcnt_cons, e1, e2, ih]
    rfl
  | .rep _ _ _, _, h => h.elim
  | .mir _ _, _, h => h.elim
/-- what stands at an index of a flat program -/
theorem PrAt.wrd {H : Hp} {L : Nat} {C T : Int} : ∀ {p : Prog} {xs : List V} {i : Nat} {x : V}, WfL L C T 0 p → PrAt H p xs → xs[i]? = some x → ∃ c w ys, x = .ref c ∧ H c = some (.tup (.str w :: ys)) ∧ p.wrds[i]? = some w
  | .nil, _, _, _, _, h, hx => by rw [show _ = [] from h] at hx; cases hx
  | .step w n r, _, i, x, hw, ⟨c, ys, e, h1, h2⟩, hx => by
    subst e
    cases i with
    | zero => cases hx; exact ⟨c, w, _, rfl, h1, rfl⟩
    | succ i => exact PrAt.wrd (p := r) (WfL.step_iff.mp hw).2.2 h2 hx
  | .turn k r, _, i, x, hw, ⟨c, ys, e, h1, h2⟩, hx => by
    subst e
    cases i with
    | zero => cases hx; exact ⟨c, "turn", _, rfl, h1, rfl⟩
    | succ i => exact PrAt.wrd (p := r) (WfL.turn_iff.mp hw).2 h2 hx
  | .rep _ _ _, _, _, _, h, _, _ => h.elim
  | .mir _ _, _, _, _, h, _, _ => h.elim
/-! ### small tuples compared -/
section
variable {K : PySem.W.Frag} {H : Hp} {Q : VK} {a b : Addr}
theorem shaped_short (n : Int) : SeqAt.shaped (.tuple [.str "short", .int n]) = true := (Lay.tuple (n := 1) fun x hx => by
  simp only [List.mem_cons, List.not_mem_nil, or_false] at hx
  rcases hx with rfl | rfl
  · exact ⟨by decide +kernel, by decide +kernel⟩
  · exact ⟨by simp [PyData.canLay0], by simp [PyData.depth]⟩).shaped (by decide)
theorem shaped_one (n : Int) : SeqAt.shaped (.tuple [.int 1, .int n]) = true := (Lay.tuple (n := 1) fun x hx => by
  simp only [List.mem_cons, List.not_mem_nil, or_false] at hx
  rcases hx with rfl | rfl
  · exact ⟨by decide, by decide⟩
  · exact ⟨by simp [PyData.canLay0], by simp [PyData.depth]⟩).shaped (by decide)
theorem shaped_prog : SeqAt.shaped (.tuple [.str "program"]) = true := (Lay.tuple (n := 1) fun x hx => by
  simp only [List.mem_cons, List.not_mem_nil, or_false] at hx
  rcases hx with rfl
  exact ⟨by decide +kernel, by decide +kernel⟩).shaped (by decide)
theorem r_neShort {n m : Int} (h : H a = some (.tup [.str "short", .int n])) (h' : H b = some (.tup [.str "short", .int m])) (e : n = m) (q : Q (.bl false) H) : rNeD K (.ref a) (.ref b) H Q := by
  subst e
  exact ⟨.tuple [.str "short", .int n], .tuple [.str "short", .int n], .tup (.of h) (.cons (.str _) (.cons (.int n) .nil)), .tup (.of h') (.cons (.str _) (.cons (.int n) .nil)), shaped_short n, shaped_short n, by simpa [PyData.eqv, PyData.eqvAll] using q⟩
theorem r_neOneI {n m : Int} (h : H a = some (.tup [.int 1, .int n])) (h' : H b = some (.tup [.int 1, .int m])) (e : n = m) (q : Q (.bl false) H) : rNeD K (.ref a) (.ref b) H Q := by
  subst e
  exact ⟨.tuple [.int 1, .int n], .tuple [.int 1, .int n], .tup (.of h) (.cons (.int 1) (.cons (.int n) .nil)), .tup (.of h') (.cons (.int 1) (.cons (.int n) .nil)), shaped_one n, shaped_one n, by simpa [PyData.eqv, PyData.eqvAll] using q⟩
theorem r_neProg (h : H a = some (.tup [.str "program"])) (h' : H b = some (.tup [.str "program"])) (q : Q (.bl false) H) : rNeD K (.ref a) (.ref b) H Q :=
  ⟨.tuple [.str "program"], .tuple [.str "program"], .tup (.of h) (.cons (.str _) .nil), .tup (.of h') (.cons (.str _) .nil), shaped_prog, shaped_prog, by simpa [PyData.eqv, PyData.eqvAll] using q⟩
end
end My

set_option Elab.async false
set_option linter.all false
set_option maxRecDepth 100000
set_option maxHeartbeats 4000000
namespace My
open PySem PySem.Spec PyProof.Rows L2
/-! ### programs that are not short -/
namespace Prog
theorem wayOk_in {L : Nat} {C T : Int} : ∀ {p : Prog} {h : Int}, WfL L C T 0 p → wayOk h p = true → wayIn 12 h p
  | .nil, _, _, _ => trivial
  | .step w n r, h, hw, x => wayOk_in (p := r) (WfL.step_iff.mp hw).2.2 x
  | .turn k r, h, hw, x => by
    rw [wayOk] at x
    by_cases z : h + k > 12 ∨ h + k < -12
    · rw [if_pos z] at x; cases x
    · rw [if_neg z] at x
      exact ⟨by omega, wayOk_in (WfL.turn_iff.mp hw).2 x⟩
  | .rep _ _ _, _, hw, _ => hw.elim
  | .mir _ _, _, hw, _ => hw.elim
end Prog
def NSh (p : Prog) : Prop := 200 < p.size ∨ ¬ Prog.wayIn 12 0 (Prog.unroll 1 p)
theorem NSh.no {L : Nat} {C T : Int} {d : Nat} {p : Prog} (h : NSh p) (w : WfL L C T d p) : p.short = false := by
  unfold Prog.short
  by_cases z : p.size > 200
  · rw [if_pos z]
  · rw [if_neg z]
    rcases h with h | h
    · exact absurd h z
    · exact Bool.eq_false_iff.mpr fun e => h (Prog.wayOk_in (Prog.wf_unroll (.inl rfl) w) e)
theorem NSh.step {p : Prog} {w n : Str} (h : NSh p) : NSh (.step w n p) := by
  rcases h with h | h
  · left; rw [Prog.size]; omega
  · exact .inr h
theorem NSh.mir {p : Prog} (h : NSh p) : NSh (.mir p .nil) := by
  rcases h with h | h
  · left; rw [Prog.size, Prog.size]; omega
  · right
    intro z
    rw [Prog.unroll, Prog.wayIn_app_iff] at z
    have := Prog.way_neg (s := -1) (k := 0) z.1
    exact h (by simpa using this)
theorem ns0 {k : Int} {w n : Str} (h : 201 ≤ k) (r : Prog) (hr : 0 ≤ r.size) : NSh (.rep k (.step w n .nil) r) := by
  left; rw [Prog.size, Prog.size, Prog.size]; omega
theorem ns1 {k : Int} {w n : Str} {p : Prog} (h : 201 ≤ p.size + k) : NSh (p.app (.mir (.rep k (.step w n .nil) .nil) .nil)) := by
  left; simp only [Prog.size_app, Prog.size, Int.add_zero, Int.mul_one]; omega
theorem ns2 {e : Int} {p r : Prog} (h : 12 < e ∨ e < -12) {L : Nat} {C T : Int} {d : Nat} (w : WfL L C T d p) : NSh (p.app (.turn (e - p.head) r)) := by
  right
  intro z
  rw [Prog.unroll_app, Prog.wayIn_app_iff, Prog.head_unroll (.inl rfl) w] at z
  have := z.2
  rw [Prog.unroll] at this
  have := this.1
  omega
theorem ns3 {e : Int} {b p : Prog} (h : 12 < e ∨ e < -12) : NSh (.mir (.turn e b) p) := by
  right
  intro z
  rw [Prog.unroll, Prog.wayIn_app_iff, Prog.unroll] at z
  have := z.1.1
  omega
theorem ns4 {k m : Int} {w n : Str} {r : Prog} (k1 : 1 ≤ k) (h : 12 < k * m ∨ k * m < -12) : NSh (.rep k (.step w n (.turn m .nil)) r) := by
  right
  intro z
  rw [Prog.unroll, Prog.wayIn_app_iff] at z
  have z := z.1
  obtain ⟨j, hj⟩ : ∃ j : Nat, k = j + 1 := ⟨(k - 1).toNat, by omega⟩
  subst hj
  rw [show ((j : Int) + 1).toNat = j + 1 by omega, Prog.times_succ, Prog.wayIn_app_iff, Prog.head_times] at z
  have z := z.2
  rw [Prog.unroll, Prog.unroll, Prog.unroll, Prog.head, Prog.head, Prog.head] at z
  have z := z.1
  rw [Int.add_mul] at h
  have e : (j : Int) * (1 * m + 0) = j * m := by rw [Int.one_mul, Int.add_zero]
  rw [e] at z
  generalize (j : Int) * m = x at *
  omega
theorem ns5 {k j : Int} {w n w' n' : Str} (h : 101 ≤ k) (h2 : 2 ≤ j) : NSh (.rep k (.rep j (.step w n (.step w' n' .nil)) .nil) .nil) := by
  left
  simp only [Prog.size, Int.add_zero]
  have : 101 * 2 ≤ k * j := Int.mul_le_mul h h2 (by omega) (by omega)
  have e : k * (j * (1 + 1)) = 2 * (k * j) := by rw [show (1 + 1 : Int) = 2 by rfl, ← Int.mul_assoc, Int.mul_comm]
  rw [e]
  omega
end My

set_option Elab.async false
set_option linter.all false
set_option maxRecDepth 100000
set_option maxHeartbeats 4000000
namespace My
open PySem PySem.Spec PyProof.Rows L2
/-! ### values in the place of commands and programs, told one by one -/
section
variable {K : PySem.W.Frag} {H : Hp} {R : V → Bool → Prop} {c p q : Addr} {x y v : V} {xs ys : List V} {b : Bool} {d : Nat} {n : Int} {w : Str}
theorem nt_non {T : String} (h : kitB "NoneType" T = some false) : NoTy K H .non T := ⟨_, .x (.base .non), kit_ty h⟩
theorem nt_bl {T : String} {a : Bool} (h : kitB "bool" T = some false) : NoTy K H (.bl a) T := ⟨_, .x ty_bl, kit_ty h⟩
theorem nt_int {T : String} {a : Int} (h : kitB "int" T = some false) : NoTy K H (.int a) T := ⟨_, .x ty_int, kit_ty h⟩
theorem nt_str {T : String} {a : Str} (h : kitB "str" T = some false) : NoTy K H (.str a) T := ⟨_, .x ty_str, kit_ty h⟩
theorem nt_lst {T : String} (h : kitB "list" T = some false) (e : H p = some (.lst xs)) : NoTy K H (.ref p) T := ⟨_, .x (ty_lst e), kit_ty h⟩
theorem nt_exc {T : String} {D : Addr} (e : H p = some (ExO (.ref D) p)) (F : ExcTy K D) (s : PySem.W.kitOne K (.ref D) (.type T) = some false) : NoTy K H (.ref p) T := ⟨_, .exc e F, s⟩
theorem cm_no (h : NoTy K H v "tuple") : CmF K H R v false := .inl ⟨h, rfl⟩
theorem cm_short (h : H c = some (.tup xs)) (l : xs.length < 2) : CmF K H R (.ref c) false := .inr ⟨c, xs, rfl, h, by omega, .inl ⟨l, rfl⟩⟩
theorem cm_turnB (h : H c = some (.tup [.str "turn", y])) (n : NotInt K H y) : CmF K H R (.ref c) false := .inr ⟨c, _, rfl, h, by simp, .inr ⟨_, _, rfl, by simp, .inr ⟨_, rfl, .inr (.inr ⟨y, rfl, .inl ⟨rfl, .inl ⟨n, rfl⟩⟩⟩)⟩⟩⟩
theorem cm_turn (h : H c = some (.tup [.str "turn", .int n])) : CmF K H R (.ref c) true := .inr ⟨c, _, rfl, h, by simp, .inr ⟨_, _, rfl, by simp, .inr ⟨_, rfl, .inr (.inr ⟨_, rfl, .inl ⟨rfl, .inr ⟨n, rfl, rfl⟩⟩⟩)⟩⟩⟩
theorem cm_step (h : H c = some (.tup [.str w, y])) (hw : IsWord w) (hn : NmB K H y b) : CmF K H R (.ref c) b := by
  obtain ⟨n1, n2, n3⟩ := word_ne hw
  exact .inr ⟨c, _, rfl, h, by simp, .inr ⟨_, _, rfl, by simp, .inr ⟨w, rfl, .inr (.inr ⟨_, rfl, .inr (.inr ⟨n1, n3, n2, .inr ⟨hw, hn⟩⟩)⟩)⟩⟩⟩
theorem cm_word (h : H c = some (.tup [.str w, y])) (n1 : w ≠ "repeat") (n2 : w ≠ "turn") (n3 : w ≠ "mirror") (hw : ¬ IsWord w) : CmF K H R (.ref c) false := .inr ⟨c, _, rfl, h, by simp, .inr ⟨_, _, rfl, by simp, .inr ⟨w, rfl, .inr (.inr ⟨_, rfl, .inr (.inr ⟨n1, n2, n3, .inl ⟨hw, rfl⟩⟩)⟩)⟩⟩⟩
theorem cm_rep0 (h : H c = some (.tup [.str "repeat", .int n, y])) (l : n < 1) : CmF K H R (.ref c) false := .inr ⟨c, _, rfl, h, by simp, .inr ⟨_, _, rfl, by simp, .inr ⟨_, rfl, .inl ⟨rfl, .inr ⟨_, _, rfl, .inr ⟨n, rfl, .inl ⟨l, rfl⟩⟩⟩⟩⟩⟩⟩
theorem cm_repB (h : H c = some (.tup [.str "repeat", x, y])) (l : NotInt K H x) : CmF K H R (.ref c) false := .inr ⟨c, _, rfl, h, by simp, .inr ⟨_, _, rfl, by simp, .inr ⟨_, rfl, .inl ⟨rfl, .inr ⟨_, _, rfl, .inl ⟨l, rfl⟩⟩⟩⟩⟩⟩
theorem cm_rep (h : H c = some (.tup [.str "repeat", .int n, y])) (l : 1 ≤ n) (r : R y b) : CmF K H R (.ref c) b := .inr ⟨c, _, rfl, h, by simp, .inr ⟨_, _, rfl, by simp, .inr ⟨_, rfl, .inl ⟨rfl, .inr ⟨_, _, rfl, .inr ⟨n, rfl, .inr ⟨l, r⟩⟩⟩⟩⟩⟩⟩
theorem cm_mir (h : H c = some (.tup [.str "mirror", y])) (r : R y b) : CmF K H R (.ref c) b := .inr ⟨c, _, rfl, h, by simp, .inr ⟨_, _, rfl, by simp, .inr ⟨_, rfl, .inr (.inr ⟨_, rfl, .inr (.inl ⟨rfl, r⟩)⟩)⟩⟩⟩
theorem cm_len (h : H c = some (.tup (.str w :: ys))) (n1 : w ≠ "repeat") (l : 1 ≤ ys.length) (l2 : ys.length ≠ 1) (l3 : ys.length ≤ 100000) : CmF K H R (.ref c) false := .inr ⟨c, _, rfl, h, by rw [List.length_cons]; omega, .inr ⟨_, ys, rfl, l, .inr ⟨w, rfl, .inr (.inl ⟨n1, l2, rfl⟩)⟩⟩⟩
theorem nm_ok (h : IsName w) : NmB K H (.str w) true := .inl ⟨w, rfl, by rw [name_len h]; decide, .inl ⟨h, rfl⟩⟩
theorem nm_no (h : ¬ IsName w) (l : w.length ≤ 100000) : NmB K H (.str w) false := .inl ⟨w, rfl, l, .inr ⟨h, rfl⟩⟩
theorem pr_no (h : NoTy K H v "tuple") : PrB K H (d + 1) v false := .inl ⟨h, rfl⟩
theorem pr_nil (h : H p = some (.tup [])) : PrB K H (d + 1) (.ref p) false := .inr ⟨p, [], rfl, h, .inl ⟨rfl, rfl⟩⟩
theorem pr_tup {bs : List Bool} (h : H p = some (.tup xs)) (l1 : 1 ≤ xs.length) (l2 : xs.length ≤ 5000) (hb : Paired (CmF K H (PrB K H d)) xs bs) (e : bs.all id = b) : PrB K H (d + 1) (.ref p) b := .inr ⟨p, xs, rfl, h, .inr ⟨l1, l2, bs, hb, e.symm⟩⟩
theorem pr_one (h : H p = some (.tup [x])) (hx : CmF K H (PrB K H d) x false) : PrB K H (d + 1) (.ref p) false := pr_tup h (by simp) (by simp) (.cons hx .nil) rfl
theorem pr_two {a c : Bool} (h : H p = some (.tup [x, y])) (hx : CmF K H (PrB K H d) x a) (hy : CmF K H (PrB K H d) y c) (e : (a && c) = false) : PrB K H (d + 1) (.ref p) false := pr_tup h (by simp) (by simp) (.cons hx (.cons hy .nil)) (by simp [e])
theorem paired_app {α β : Type} {S : α → β → Prop} : ∀ {as cs : List α} {bs ds : List β}, Paired S as bs → Paired S cs ds → Paired S (as ++ cs) (bs ++ ds)
  | _, _, _, _, .nil, h => h
  | _, _, _, _, .cons a t, h => .cons a (paired_app t h)
/-- a right program's items, with a wrong one behind or ahead -/
theorem cms_of {C T : Int} {e : Nat} {g : Prog} (hp : PrAt H g xs) (w : Wf C T e g) (he : e ≤ d) : Paired (CmF K H (PrB K H d)) xs (List.replicate xs.length true) := by
  have h1 : Paired (CmF K H (PrB K H e)) xs (List.replicate xs.length true) := PrAt.cms (fun e' h _ _ a b c f => by subst h; exact PrIs.prB e' a b c f) xs hp w
  exact paired_imp (fun _ _ z => CmF.imp (St.refl H) (fun _ _ y => y.mono he) z) h1
theorem pr_snoc {C T : Int} {e : Nat} {g : Prog} (h : H p = some (.tup (xs ++ [x]))) (hp : PrAt H g xs) (w : Wf C T e g) (he : e ≤ d) (l : g.len ≤ 4000) (hx : CmF K H (PrB K H d) x false) : PrB K H (d + 1) (.ref p) false := by
  have lx := hp.length
  refine pr_tup h (by simp) (by rw [List.length_append, List.length_singleton]; omega) (paired_app (cms_of hp w he) (.cons hx .nil)) ?_
  rw [List.all_append]
  simp
theorem pr_front {C T : Int} {e : Nat} {g : Prog} (h : H p = some (.tup ([x] ++ xs))) (hp : PrAt H g xs) (w : Wf C T e g) (he : e ≤ d) (l : g.len ≤ 4000) (hx : CmF K H (PrB K H d) x false) : PrB K H (d + 1) (.ref p) false := by
  have lx := hp.length
  refine pr_tup h (by simp) (by rw [List.length_append, List.length_singleton]; omega) (paired_app (.cons hx .nil) (cms_of hp w he)) ?_
  rfl
end
theorem not_word {w : Str} (h1 : w ≠ "go") (h2 : w ≠ "back") (h3 : w ≠ "hop") (h4 : w ≠ "slip") : ¬ IsWord w := fun h => by
  rcases h with h | h | h | h
  · exact h1 h
  · exact h2 h
  · exact h3 h
  · exact h4 h
theorem not_name {w : Str} (h : w.length ≠ 1) : ¬ IsName w := fun z => h (name_len z)
theorem not_nameA : ¬ IsName "A" := by
  rintro ⟨c, e, h1, h2⟩
  have e2 : (("A" : Str)).cps.toList = [c] := by rw [e]
  rw [show (("A" : Str)).cps.toList = [65] by decide +kernel] at e2
  have : 65 = c := by simpa using e2
  omega
end My

set_option Elab.async false
set_option linter.all false
set_option maxRecDepth 100000
set_option maxHeartbeats 2000000
namespace My
open PySem PySem.Spec PyProof.Rows L2
namespace Prog
/-- the last heading lies within -/
theorem wayIn_head {L : Nat} {C T : Int} {f : Int} : ∀ {p : Prog} {h : Int}, WfL L C T 0 p → -f ≤ h → h ≤ f → wayIn f h p → -f ≤ h + p.head ∧ h + p.head ≤ f
  | .nil, h, _, a, b, _ => by rw [head]; omega
  | .step w m r, h, hw, a, b, x => wayIn_head (p := r) (WfL.step_iff.mp hw).2.2 a b x
  | .turn t r, h, hw, a, b, x => by
    have x1 := x.1
    have := wayIn_head (p := r) (h := h + t) (WfL.turn_iff.mp hw).2 (by omega) (by omega) x.2
    rw [head]
    omega
  | .rep _ _ _, _, hw, _, _, _ => hw.elim
  | .mir _ _, _, hw, _, _, _ => hw.elim
end Prog
/-! ### places as lists of names and terms -/
/-- an entry (name, list of terms), its list with F -/
def PlF (F : Addr → Prop) (H : Hp) (v : V) (e : Str × Terms) : Prop := ∃ b l, v = .ref b ∧ H b = some (.tup [.str e.1, .ref l]) ∧ F l ∧ TermsAt H l e.2
theorem PlF.same {F : Addr → Prop} {H H' : Hp} {v : V} {e : Str × Terms} (h : PlF F H v e) (s : Same H H') : PlF F H' v e := let ⟨b, l, e1, e2, e3, e4⟩ := h; ⟨b, l, e1, s _ _ e2, e3, e4.same s⟩
theorem PlF.upd {F : Addr → Prop} {H : Hp} {m : Addr} {xs : List V} {o : HO} {v : V} {e : Str × Terms} (h : PlF F H v e) (hF : ∀ x, F x → x ≠ m) (e0 : H m = some (.lst xs)) : PlF F (L2.upd H m o) v e :=
  let ⟨b, l, e1, e2, e3, ⟨ws, e4, e5⟩⟩ := h; ⟨b, l, e1, (Tk.refl H).lst e0 _ _ e2, e3, ⟨ws, (upd_ne (hF _ e3)).trans e4, e5.tk ((Tk.refl H).lst e0)⟩⟩
/-- a place whose lists of terms are new since H -/
def PlaceN (H H' : Hp) (l : Addr) (pl : Pl) : Prop := ∃ vs, H' l = some (.lst vs) ∧ PlaceL (fun x => H x = none) H' vs pl
theorem PlaceN.at {H H' : Hp} {l : Addr} {pl : Pl} (h : PlaceN H H' l pl) : PlaceAt H' l pl := let ⟨vs, e, k⟩ := h; ⟨vs, e, k.all⟩
theorem PlaceN.same {H H' H2 : Hp} {l : Addr} {pl : Pl} (h : PlaceN H H' l pl) (s : Same H' H2) : PlaceN H H2 l pl := let ⟨vs, e, k⟩ := h; ⟨vs, s _ _ e, k.same s⟩
theorem PlaceN.back {H0 H H' : Hp} {l : Addr} {pl : Pl} (h : PlaceN H H' l pl) (s : Same H0 H) : PlaceN H0 H' l pl := let ⟨vs, e, k⟩ := h; ⟨vs, e, k.mono fun x hx => free_same s hx⟩
theorem PlaceL.butl {F : Addr → Prop} {H H' : Hp} {a : Addr} {xs : List V} (hF : ∀ x, F x → x ≠ a) (e : H a = some (.lst xs)) (b : But a H H') : ∀ {vs : List V} {pl : Pl}, PlaceL F H vs pl → PlaceL F H' vs pl
  | [], _, h => h
  | _ :: _, _, ⟨c, l, e0, us, e1, e2, e3, e4, ⟨ws, e5, e7⟩, e6⟩ => by
    have tk : Tk H H' := fun c xs e' => b _ _ (ne_of e' e (by intro z; cases z)) e'
    exact ⟨c, l, e0, us, e1, e2, tk _ _ e3, e4, ⟨ws, b _ _ (hF _ e4) e5, e7.tk tk⟩, PlaceL.butl hF e b e6⟩
/-- beside a drawing -/
theorem PlaceN.bag {H H' H2 : Hp} {l a : Addr} {pl : Pl} (h : PlaceN H H' l pl) (nl : H l = none) (ba : Bag H a) (bb : Bag H' a) (b : But a H' H2) : PlaceN H H2 l pl := by
  obtain ⟨vs, e, k⟩ := h
  obtain ⟨x, y, z, hb, _⟩ := bb
  exact ⟨vs, b _ _ (ba.ne nl) e, k.butl (fun x hx => ba.ne hx) hb b⟩
theorem asc_nodup {pl : Pl} (h : pl.Pairwise fun a b => ncode a.1 < ncode b.1) : (pl.map (·.1)).Nodup := by
  refine List.pairwise_map.mpr (h.imp fun {a b} l e => ?_)
  rw [e] at l
  exact Nat.lt_irrefl _ l
theorem IsPlace.congr {pl : Pl} {c d : Str → Int → Int} (h : IsPlace pl c) (e : ∀ n k, c n k = d n k) : IsPlace pl d := by
  have : c = d := funext fun n => funext fun k => e n k
  rw [← this]; exact h
/-! ### a dict of lists of terms by names -/
def setW (ws : List (Str × Addr)) (n : Str) (a : Addr) : List (Str × Addr) := if n ∈ ws.map (·.1) then ws.map (fun e => if e.1 = n then (n, a) else e) else ws ++ [(n, a)]
theorem setW_put (ws : List (Str × Addr)) (n : Str) (a : Addr) : putK (spotKvs ws) (.inr n) (.ref a) = spotKvs (setW ws n a) := by
  unfold putK setW
  by_cases h : n ∈ ws.map (·.1)
  · have h2 : ((spotKvs ws).any fun kv => decide (kv.1 = Sum.inr n)) = true := by
      obtain ⟨e, he, e2⟩ := List.mem_map.mp h
      exact List.any_eq_true.mpr ⟨(Sum.inr e.1, V.ref e.2), List.mem_map.mpr ⟨e, he, rfl⟩, decide_eq_true (congrArg Sum.inr e2)⟩
    rw [if_pos h2, if_pos h]
    unfold spotKvs
    rw [List.map_map, List.map_map]
    refine List.map_congr_left fun e _ => ?_
    show (if (Sum.inr e.1 : Key) = Sum.inr n then ((Sum.inr e.1 : Key), V.ref a) else (Sum.inr e.1, V.ref e.2)) = ((Sum.inr (if e.1 = n then (n, a) else e).1 : Key), V.ref (if e.1 = n then (n, a) else e).2)
    by_cases q : e.1 = n
    · rw [if_pos (congrArg Sum.inr q), if_pos q, q]
    · rw [if_neg (fun x => q (Sum.inr.inj x)), if_neg q]
  · have h2 : ¬ ((spotKvs ws).any fun kv => decide (kv.1 = Sum.inr n)) = true := by
      intro q
      obtain ⟨p, hp, e⟩ := List.any_eq_true.mp q
      obtain ⟨x, hx, rfl⟩ := List.mem_map.mp hp
      exact h (List.mem_map.mpr ⟨x, hx, Sum.inr.inj (of_decide_eq_true e)⟩)
    rw [if_neg h2, if_neg h]
    unfold spotKvs
    rw [List.map_append]
    rfl
theorem setW_names (ws : List (Str × Addr)) (n : Str) (a : Addr) : (setW ws n a).map (·.1) = if n ∈ ws.map (·.1) then ws.map (·.1) else ws.map (·.1) ++ [n] := by
  unfold setW
  split
  · rw [List.map_map]
    refine List.map_congr_left fun e _ => ?_
    show (if e.1 = n then (n, a) else e).1 = e.1
    by_cases q : e.1 = n
    · rw [if_pos q, q]
    · rw [if_neg q]
  · rw [List.map_append]; rfl
theorem setW_mem {ws : List (Str × Addr)} {n : Str} {a : Addr} {e : Str × Addr} (h : e ∈ setW ws n a) : e = (n, a) ∨ (e ∈ ws ∧ e.1 ≠ n) := by
  unfold setW at h
  split at h
  · obtain ⟨x, hx, e2⟩ := List.mem_map.mp h
    by_cases q : x.1 = n
    · rw [if_pos q] at e2; exact .inl e2.symm
    · rw [if_neg q] at e2; subst e2; exact .inr ⟨hx, q⟩
  · rename_i hn
    rcases List.mem_append.mp h with h | h
    · exact .inr ⟨h, fun q => hn (List.mem_map.mpr ⟨e, h, q⟩)⟩
    · exact .inl (List.mem_singleton.mp h)
structure PotT (H0 H : Hp) (s : Addr) (c : Str → Int → Int) (B : Str → Nat) (ws : List (Str × Addr)) : Prop where
  at_ : H s = some (.dK (spotKvs ws))
  nd : (ws.map (·.1)).Nodup
  name : ∀ e ∈ ws, IsName e.1
  new : H0 s = none
  terms : ∀ e ∈ ws, ∃ ts, TermsAt H e.2 ts ∧ (∀ k, cof ts k = c e.1 k) ∧ Canon ts ∧ ts.length ≤ B e.1
  none_ : ∀ n, ¬ n ∈ ws.map (·.1) → ∀ k, c n k = 0
  same : Same H0 H
theorem PotT.few {H0 H : Hp} {s : Addr} {c : Str → Int → Int} {B : Str → Nat} {ws : List (Str × Addr)} (h : PotT H0 H s c B ws) : ws.length < 64 := by
  have := names_few (ks := ws.map (·.1)) (fun n hn => by obtain ⟨e, he, rfl⟩ := List.mem_map.mp hn; exact h.name e he) h.nd
  simpa using this
theorem PotT.later {H0 H H' : Hp} {s : Addr} {c : Str → Int → Int} {B : Str → Nat} {ws : List (Str × Addr)} (h : PotT H0 H s c B ws) (k : Same H H') : PotT H0 H' s c B ws :=
  ⟨k _ _ h.at_, h.nd, h.name, h.new, fun e he => let ⟨ts, h1, h2⟩ := h.terms e he; ⟨ts, h1.same k, h2⟩, h.none_, h.same.trans k⟩
theorem PotT.le {H0 H : Hp} {s : Addr} {c : Str → Int → Int} {B B' : Str → Nat} {ws : List (Str × Addr)} (h : PotT H0 H s c B ws) (k : ∀ n, B n ≤ B' n) : PotT H0 H s c B' ws :=
  ⟨h.at_, h.nd, h.name, h.new, fun e he => let ⟨ts, h1, h2, h3, h4⟩ := h.terms e he; ⟨ts, h1, h2, h3, Nat.le_trans h4 (k _)⟩, h.none_, h.same⟩
theorem PotT.empty {H : Hp} {s : Addr} {B : Str → Nat} (h : H s = none) : PotT H (upd H s (.dK [])) s (fun _ _ => 0) B [] :=
  ⟨upd_same, by simp, by simp, h, by simp, fun _ _ _ => rfl, Same.new0 h⟩
theorem TermsAt.dk {H : Hp} {a s : Addr} {ts : Terms} {kvs : List (Key × V)} {o : HO} (h : TermsAt H a ts) (e : H s = some (.dK kvs)) : TermsAt (upd H s o) a ts := by
  obtain ⟨vs, e1, e2⟩ := h
  exact ⟨vs, (upd_ne (ne_of e1 e (by intro z; cases z))).trans e1, e2.tk ((Std.refl H).dk e).tk⟩
/-- what the dict has for a name, or an empty list at g -/
theorem PotT.get {H0 H : Hp} {s g : Addr} {c : Str → Int → Int} {B : Str → Nat} {ws : List (Str × Addr)} (h : PotT H0 H s c B ws) (n : Str) (hg : H g = some (.lst [])) : ∃ o a ts, DGet H s (.str n) o ∧ o.getD (.ref g) = .ref a ∧ TermsAt H a ts ∧ (∀ k, cof ts k = c n k) ∧ ts.length ≤ B n := by
  cases e : valV (spotKvs ws) (.inr n) with
  | none =>
    refine ⟨none, g, [], ?_, rfl, ⟨[], hg, rfl⟩, fun k => (h.none_ n (spot_none e) k).symm, Nat.zero_le _⟩
    have := DGet.k (k := .inr n) h.at_
    rw [e] at this
    exact this
  | some v =>
    obtain ⟨j, rfl, hj⟩ := spot_val e
    obtain ⟨ts, h1, h2, h3, h4⟩ := h.terms _ hj
    refine ⟨some (.ref j), j, ts, ?_, rfl, h1, h2, h4⟩
    have := DGet.k (k := .inr n) h.at_
    rw [e] at this
    exact this
theorem PotT.put {H0 H : Hp} {s a : Addr} {c d : Str → Int → Int} {B B' : Str → Nat} {ws : List (Str × Addr)} {n : Str} {ts : Terms} (h : PotT H0 H s c B ws) (hn : IsName n) (ha : TermsAt H a ts) (hc : Canon ts) (hd : ∀ k, cof ts k = d n k) (hk : ∀ m, m ≠ n → ∀ k, d m k = c m k) (hb : ts.length ≤ B' n) (hB : ∀ m, m ≠ n → B m ≤ B' m) :
    PotT H0 (upd H s (.dK (putK (spotKvs ws) (.inr n) (.ref a)))) s d B' (setW ws n a) := by
  rw [setW_put]
  refine ⟨upd_same, ?_, fun e he => ?_, h.new, fun e he => ?_, fun m hm k => ?_, Same.put h.same h.new⟩
  · rw [setW_names]
    split
    · exact h.nd
    · rename_i q
      refine List.nodup_append.mpr ⟨h.nd, by simp, fun x hx y hy e => q ?_⟩
      have hy := List.mem_singleton.mp hy
      subst hy
      rw [← e]; exact hx
  · rcases setW_mem he with rfl | ⟨h1, _⟩
    · exact hn
    · exact h.name e h1
  · rcases setW_mem he with rfl | ⟨h1, h2⟩
    · exact ⟨ts, ha.dk h.at_, hd, hc, hb⟩
    · obtain ⟨us, g1, g2, g3, g4⟩ := h.terms e h1
      exact ⟨us, g1.dk h.at_, fun k => (g2 k).trans (hk _ h2 k).symm, g3, Nat.le_trans g4 (hB _ h2)⟩
  · rw [setW_names] at hm
    have mn : m ≠ n := by
      rintro rfl
      split at hm
      · rename_i q; exact hm q
      · exact hm (List.mem_append.mpr (.inr (List.mem_singleton.mpr rfl)))
    rw [hk m mn]
    refine h.none_ m (fun q => hm ?_) k
    split
    · exact q
    · exact List.mem_append.mpr (.inl q)
end My

set_option Elab.async false
set_option linter.all false
set_option maxRecDepth 100000
set_option maxHeartbeats 8000000
set_option pp.deepTerms false
set_option pp.deepTerms.threshold 12
set_option pp.maxSteps 1200

namespace My
open PySem PySem.Spec PyProof.Rows L2
section
local macro_rules | `(tactic| walk_at "isi") => `(tactic| (first
  | (with_reducible refine r_is_int_int ?_)
  | (with_reducible refine r_is_int_bool ?_)
  | (with_reducible refine r_is_int_str ?_)
  | (with_reducible refine r_is_int_list ?_)
  | (with_reducible refine r_is_int_tuple ?_)
  | (with_reducible refine r_is_bool_int ?_)
  | (with_reducible refine r_is_bool_bool ?_)
  | (with_reducible refine r_is_bool_str ?_)
  | (with_reducible refine r_is_bool_list ?_)
  | (with_reducible refine r_is_bool_tuple ?_)
  | (with_reducible refine r_is_str_int ?_)
  | (with_reducible refine r_is_str_bool ?_)
  | (with_reducible refine r_is_str_str ?_)
  | (with_reducible refine r_is_str_list ?_)
  | (with_reducible refine r_is_str_tuple ?_)
  | ((with_reducible refine r_is_list_int (xs := ?xx) ?hh ?_); (case hh => walk_at "hp"))
  | ((with_reducible refine r_is_list_bool (xs := ?xx) ?hh ?_); (case hh => walk_at "hp"))
  | ((with_reducible refine r_is_list_str (xs := ?xx) ?hh ?_); (case hh => walk_at "hp"))
  | ((with_reducible refine r_is_list_list (xs := ?xx) ?hh ?_); (case hh => walk_at "hp"))
  | ((with_reducible refine r_is_list_tuple (xs := ?xx) ?hh ?_); (case hh => walk_at "hp"))
  | ((with_reducible refine r_is_tuple_int (xs := ?xx) ?hh ?_); (case hh => walk_at "hp"))
  | ((with_reducible refine r_is_tuple_bool (xs := ?xx) ?hh ?_); (case hh => walk_at "hp"))
  | ((with_reducible refine r_is_tuple_str (xs := ?xx) ?hh ?_); (case hh => walk_at "hp"))
  | ((with_reducible refine r_is_tuple_list (xs := ?xx) ?hh ?_); (case hh => walk_at "hp"))
  | ((with_reducible refine r_is_tuple_tuple (xs := ?xx) ?hh ?_); (case hh => walk_at "hp"))
  | (with_reducible refine r_is_NoneType_int ?_)
  | (with_reducible refine r_is_NoneType_bool ?_)
  | (with_reducible refine r_is_NoneType_str ?_)
  | (with_reducible refine r_is_NoneType_list ?_)
  | (with_reducible refine r_is_NoneType_tuple ?_)))
local macro_rules | `(tactic| walk_at "ne") => `(tactic| first | assumption | (refine Ne.symm ?_; assumption) | exact Bag.ne (by assumption) (by assumption) | exact ne_of_none (by assumption) (by assumption))
local macro_rules | `(tactic| walk_at "hp") => `(tactic| (first
  | assumption
  | exact upd_same
  | (refine h_keep ?_ (by assumption); walk_at "hp")
  | (refine (upd_ne (by walk_at "ne")).trans ?_; walk_at "hp")
  | (refine Same.at (by assumption) ?_; walk_at "hp")
  | (refine But.at (by assumption) (by walk_at "ne") ?_; walk_at "hp")
  | (refine But2.at (by assumption) (by walk_at "ne") (by walk_at "ne") ?_; walk_at "hp")))
local macro_rules | `(tactic| walk_at "side") => `(tactic| first | assumption | omega | (refine ⟨?_, ?_⟩ <;> first | assumption | omega | decide) | decide | (refine ⟨by decide, by decide, by decide⟩) | (left; refine ⟨?_, ?_⟩ <;> first | omega | decide) | (right; refine ⟨?_, ?_⟩ <;> first | omega | decide) | (simp; done))
local macro_rules | `(tactic| walk_at "cond") => `(tactic| first | assumption | exact rfl | omega | (simp only [List.length_cons, List.length_nil]; omega) | decide +kernel)
local macro_rules | `(tactic| walk_at "s") => `(tactic| (first
  | ((with_reducible refine r_var (v := ?vv) ?ee ?_); (case ee => exact rfl))
  | (with_reducible refine r_c ?_)
  | (with_reducible refine r_op ?_)
  | (with_reducible refine r_un ?_)
  | (with_reducible refine r_rI0 ?_)
  | ((with_reducible refine r_rI ?cc ?_); (case cc => walk_at "side"))
  | (with_reducible refine r_rU ?_)
  | (with_reducible refine r_eqI ?_)
  | (with_reducible refine r_neI ?_)
  | (with_reducible refine r_eqB ?_)
  | (with_reducible refine r_neB ?_)
  | (with_reducible refine r_eqS ?_)
  | (with_reducible refine r_neS ?_)
  | ((with_reducible refine r_eq ?ee ?_); (case ee => exact rfl))
  | ((with_reducible refine r_ne ?ee ?_); (case ee => exact rfl))
  | ((with_reducible refine r_ixL (v := ?vv) (xs := ?xx) ?hh ?ee ?_); (case hh => (refine SqL.of ?_; walk_at "hp")); (case ee => exact rfl))
  | (with_reducible refine r_cb ?_)
  | (with_reducible refine r_call ?_)
  | (with_reducible refine r_cons ?_)
  | (with_reducible refine r_nil ?_)
  | (with_reducible refine r_lst ?_)
  | (with_reducible refine r_tup ?_)
  | ((with_reducible refine r_new ?cc ?_); (case cc => walk_at "side"))
  | (with_reducible refine r_exbl ?_)
  | (with_reducible refine r_exint ?_)
  | (with_reducible refine r_exint2 ?_)
  | (with_reducible refine r_exblL ?_)
  | (with_reducible refine r_ex2 ?_)
  | (with_reducible refine r_test ?_)
  | (with_reducible refine r_tB ?_)
  | (with_reducible refine r_not ?_)
  | (with_reducible refine r_and ?_)
  | (with_reducible refine r_or ?_)
  | (with_reducible refine r_andV ?_)
  | (with_reducible refine r_orV ?_)
  | (with_reducible refine r_notV ?_)
  | (with_reducible refine r_tif ?_)
  | (with_reducible refine r_iteT ?_)
  | (with_reducible refine r_iteNT ?_)
  | (with_reducible refine r_iteNF ?_)
  | (with_reducible refine r_iteF ?_)
  | (with_reducible refine r_seq ?_)
  | (with_reducible refine r_next ?_)
  | (with_reducible refine r_brk ?_)
  | (with_reducible refine r_cont ?_)
  | (with_reducible refine r_asg ?_)
  | (with_reducible refine r_gname ?_)
  | (with_reducible refine r_ret ?_)
  | (with_reducible refine r_retN ?_)
  | (with_reducible refine r_drop ?_)
  | (with_reducible refine r_if ?_)
  | ((with_reducible refine r_aug (x := ?xx) ?ee ?_); (case ee => exact rfl))
  | (with_reducible refine r_ipI ?_)
  | (with_reducible refine r_augS ?_)
  | (with_reducible refine r_gsub ?_)
  | ((with_reducible refine r_setL (xs := ?xx) (m := ?mm) ?hh ?ee ?_); (case hh => walk_at "hp"); (case ee => exact rfl))
  | (with_reducible refine r_par ?_)
  | (with_reducible refine r_bm ?_)
  | ((with_reducible refine r_tyL (xs := ?xx) ?hh ?_); (case hh => walk_at "hp"))
  | ((with_reducible refine r_append (xs := ?xx) ?hh ?ll ?_); (case hh => walk_at "hp"); (case ll => walk_at "side"))
  | (walk_at "isi")
  | (with_reducible refine r_for ?_)
  | (with_reducible refine r_iList ?_)
  | (with_reducible refine r_iTup ?_)
  | (with_reducible refine r_iR1 ?_)
  | (with_reducible refine r_iR2 ?_)
  | (with_reducible refine r_lc ?_)
  | (with_reducible refine r_yes ?_)
  | ((with_reducible refine r_lenS ?ll ?_); (case ll => walk_at "side"))
  | (with_reducible refine r_leS ?_)
  | (with_reducible refine r_chain ?_)
  | (with_reducible refine r_tM1 ?_)
  | (with_reducible refine r_exS ?_)
  | ((with_reducible refine r_tupL (xs := ?xx) ?hh ?_); (case hh => walk_at "hp"))
  | ((with_reducible refine r_listL (xs := ?xx) ?hh ?_); (case hh => walk_at "hp"))
  | ((with_reducible refine r_listT (xs := ?xx) ?hh ?_); (case hh => walk_at "hp"))
  | ((with_reducible refine r_ixT (v := ?vv) (xs := ?xx) ?hh ?ee ?_); (case hh => (refine SqT.of ?_; walk_at "hp")); (case ee => exact rfl))
  | (with_reducible refine r_sl ?_)
  | (with_reducible refine r_nopart ?_)
  | (with_reducible refine r_part ?_)
  | (with_reducible refine r_exI ?_)
  | ((with_reducible refine r_slL (xs := ?xx) ?hh ?_); (case hh => first | assumption | (refine SqL.of ?_; walk_at "hp") | (refine Same.seq (by assumption) (by assumption))))
  | ((with_reducible refine r_cat (xs := ?xx) (zs := ?zz) ?hh ?ii ?ll ?_); (case hh => walk_at "hp"); (case ii => walk_at "hp"); (case ll => walk_at "side"))
  | ((with_reducible refine r_lenL (xs := ?xx) ?hh ?_); (case hh => walk_at "hp"))
  | ((with_reducible refine r_lenT (xs := ?xx) ?hh ?_); (case hh => walk_at "hp"))
  | ((with_reducible refine r_gTup (xs := ?xx) ?hh ?ll ?_); (case hh => walk_at "hp"); (case ll => exact rfl))
  | (with_reducible refine r_gCons ?_)
  | (with_reducible refine r_gNil ?_)
  | ((with_reducible refine r_iteDT ?cc ?_); (case cc => walk_at "cond"))
  | ((with_reducible refine r_iteDF ?cc ?_); (case cc => walk_at "cond"))
  | ((with_reducible refine r_iteNDT ?cc ?_); (case cc => walk_at "cond"))
  | ((with_reducible refine r_iteNDF ?cc ?_); (case cc => walk_at "cond"))
  ))
local macro_rules | `(tactic| walk_at "go") => `(tactic| repeat (walk_at "s"))
open PySem PySem.Spec PyProof.Rows L2
/-- the program's table of steps, at any word -/
structure StepsB (K : PySem.W.Frag) (w : World) (mg : Str → Option Value) : Prop where
  ex : ∃ d es n, KDict K w d es n ∧ mg "STEPS" = some (.ref d) ∧ (∀ x : Str, IsWord x → ∃ v, PySem.W.nsIn K d x = some (some v)) ∧ ∀ x : Str, ¬ IsWord x → PySem.W.nsIn K d x = some none
def spIsNameA (K : PySem.W.Frag) : Sp := fun vs H Q _ => ∃ v b, vs = [v] ∧ NmB K H v b ∧ Q (.bl b) H
def spIsCmdB (K : PySem.W.Frag) (d : Nat) : Sp := fun vs H Q _ => ∃ v b, vs = [v] ∧ CmF K H (PrB K H d) v b ∧ ∀ H', Same H H' → Q (.bl b) H'
def spIsPrB (K : PySem.W.Frag) (d : Nat) : Sp := fun vs H Q _ => ∃ v b, vs = [v] ∧ PrB K H d v b ∧ ∀ H', Same H H' → Q (.bl b) H'
/-- a program checked: InvalidProgram unless it is one -/
def spCheckPrX (K : PySem.W.Frag) (A : Addr) : Sp := fun vs H Q E => ∃ v, vs = [v] ∧ ((PrB K H 14 v true ∧ ∀ H', Same H H' → Q .non H') ∨ (PrB K H 14 v false ∧ ∀ H', Same H H' → E (.ref A) none H'))
theorem atI_hd {x : V} {ys : List V} : atI (x :: ys) 0 = some x := by
  unfold atI ixN
  rw [if_pos (by decide), if_pos (by simp)]
  rfl
theorem paired_at {α β : Type} {R : α → β → Prop} : ∀ {xs : List α} {ys : List β} {i : Nat} {x : α}, Paired R xs ys → xs[i]? = some x → ∃ y, ys[i]? = some y ∧ R x y
  | _, _, i, _, .nil, h => by cases h
  | _, _, 0, _, .cons a _, h => by cases h; exact ⟨_, rfl, a⟩
  | _, _, i + 1, _, .cons _ t, h => paired_at (i := i) t h
theorem isName_iff {n : Str} : IsName n ↔ n.length = 1 ∧ ¬ n.cps.toList < (("a" : Str)).cps.toList ∧ ¬ (("z" : Str)).cps.toList < n.cps.toList := by
  constructor
  · exact fun h => ⟨name_len h, letter_a h, letter_z h⟩
  · rintro ⟨h1, h2, h3⟩
    obtain ⟨cps⟩ := n
    have h1 : cps.size = 1 := h1
    obtain ⟨c, rfl⟩ : ∃ c, cps = #[c] := by
      obtain ⟨l⟩ := cps
      cases l with
      | nil => simp at h1
      | cons c l =>
        cases l with
        | nil => exact ⟨c, rfl⟩
        | cons d l => simp at h1
    rw [show (("a" : Str)).cps.toList = [97] by decide +kernel] at h2
    rw [show (("z" : Str)).cps.toList = [122] by decide +kernel] at h3
    refine ⟨c, rfl, ?_, ?_⟩
    · refine Decidable.byContradiction fun z => h2 ?_
      show ([c] : List Nat) < [97]
      simp [List.cons_lt_cons_iff]
      omega
    · refine Decidable.byContradiction fun z => h3 ?_
      show ([122] : List Nat) < [c]
      simp [List.cons_lt_cons_iff]
      omega
section
variable {P : Program} {w : World} {K : PySem.W.Frag} {mg : Str → Option Value} {base : Heap} {A_InvalidProgram A_NotShort : Addr}

theorem ok_is_integerB {f : Addr} {fd : FuncData} (F : Fun K "is_integer" "is_integer" s_is_integer f fd) (B : Bl mg) : FnOk P w K mg base CX0 1 f fd ["value"] (spIsIntT K) := by
  refine F.ok sc_is_integer (fun vs H Q E h => ?_) (fun cdv A outer s H vs Q E hr h => ?_)
  · obtain ⟨x, t, b1, b2, rfl, _⟩ := h
    rfl
  · obtain ⟨x, t, b1, b2, rfl, ty, k1, k2, k⟩ := h
    refine ⟨_, (pss_one (ps_ret (pe_and (pe_callB (call_isiEK (K := K)) (by rfl) B.b_isinstance (by decide +kernel) (pa_cons (pv 0) (pa_cons (pe_bltn (v := .ty "int") (by rfl) B.b_int (by decide +kernel) rfl) pa_nil))) (pe_one (pe_not (pe_callB (call_isiEK (K := K)) (by rfl) B.b_isinstance (by decide +kernel) (pa_cons (pv 0) (pa_cons (pe_bltn (v := .ty "bool") (by rfl) B.b_bool (by decide +kernel) rfl) pa_nil)))))))), ?_⟩
    walk_at "go"
    refine r_isiE' (.ty _) ty k1 ?_
    walk_at "go"
    cases b1 with
    | true =>
      walk_at "go"
      refine r_isiE' (.ty _) ty k2 ?_
      walk_at "go"
      exact k
    | false =>
      walk_at "go"
      exact k
theorem ok_is_nameA {f : Addr} {fd : FuncData} (F : Fun K "is_name" "is_name" s_is_name f fd) (B : Bl mg) : FnOk P w K mg base CX0 1 f fd ["value"] (spIsNameA K) := by
  refine F.ok sc_is_name (fun vs H Q E h => ?_) (fun cdv A outer s H vs Q E hr h => ?_)
  · obtain ⟨c, b, rfl, _⟩ := h
    rfl
  · obtain ⟨v, b, rfl, h, k⟩ := h
    refine ⟨_, (pss_one (ps_ret (pe_and (pe_callB (call_isiEK (K := K)) (by rfl) B.b_isinstance (by decide +kernel) (pa_cons (pv 0) (pa_cons (pe_bltn (v := .ty "str") (by rfl) B.b_str (by decide +kernel) rfl) pa_nil))) (pe_and (pe_cmpR op_eq (pe_callB call_lenS (by rfl) B.b_len PySem.boot_len (pa_cons (pv 0) pa_nil)) pe_int (nomark _)) (pe_one (pe_chain op_leS op_leS pe_str (pv 0) pe_str)))))), ?_⟩
    walk_at "go"
    rcases h with ⟨n, rfl, ln, h⟩ | ⟨⟨t, ty, e⟩, rfl⟩
    · refine r_isiE' (b := true) (.ty _) (.x ty_str) (kit_ty (by decide +kernel)) ?_
      walk_at "go"
      haveI : Decidable (IsName n) := Classical.propDecidable _
      have hb : b = decide (IsName n) := by
        rcases h with ⟨h, rfl⟩ | ⟨h, rfl⟩
        · rw [decide_eq_true h]
        · rw [decide_eq_false h]
      subst hb
      refine r_iteD (fun z1 => ?_) (fun z1 => ?_)
      · walk_at "go"
        by_cases z2 : n.cps.toList < (("a" : Str)).cps.toList
        · rw [decide_eq_true z2]
          walk_at "go"
          rw [decide_eq_false (fun z => (isName_iff.mp z).2.1 z2)] at k
          exact k
        · rw [decide_eq_false z2]
          walk_at "go"
          by_cases z3 : (("z" : Str)).cps.toList < n.cps.toList
          · show Q (V.bl !decide _) H
            rw [decide_eq_true z3]
            rw [decide_eq_false (fun z => (isName_iff.mp z).2.2 z3)] at k
            exact k
          · show Q (V.bl !decide _) H
            rw [decide_eq_false z3]
            rw [decide_eq_true (isName_iff.mpr ⟨by omega, z2, z3⟩)] at k
            exact k
      · rw [decide_eq_false (fun z => z1 (by rw [(isName_iff.mp z).1]; rfl))] at k
        exact k
    · refine r_isiE' (.ty _) ty e ?_
      walk_at "go"
      exact k
theorem ok_is_commandB {f : Addr} {fd : FuncData} (d : Nat) (F : Fun K "is_command" "is_command" s_is_command f fd) (B : Bl mg) (S : StepsB K w mg) (h_is_integer : Has P w K mg base "is_integer" 1 ["value"] (spIsIntT K)) (h_is_name : Has P w K mg base "is_name" 1 ["value"] (spIsNameA K))
   (h_is_program : Has P w K mg base "is_program" (2 * d + 1) ["value"] (spIsPrB K d)) : FnOk P w K mg base CX0 (2 * d + 2) f fd ["value"] (spIsCmdB K d) := by
  obtain ⟨sd, es, sn, DK, gS, nS, oS⟩ := S.ex
  refine F.ok sc_is_command (fun vs H Q E h => ?_) (fun cdv A outer s H vs Q E hr h => ?_)
  · obtain ⟨x, b, rfl, _⟩ := h
    rfl
  · obtain ⟨v, b, rfl, h, k⟩ := h
    refine ⟨_, (pss_cons (ps_if (PW.pt (pw_or (pt_not (pt_val (pe_callB (call_isiEK (K := K)) (by rfl) B.b_isinstance (by decide +kernel) (pa_cons (pv 0) (pa_cons (pe_bltn (v := .ty "tuple") (by rfl) B.b_tuple (by decide +kernel) rfl) pa_nil))))) (pw_or (pt_cmpR op_lt (pe_callB (call_lenK (K := K)) (by rfl) B.b_len PySem.boot_len (pa_cons (pv 0) pa_nil)) pe_int (nomark _)) (pw_or1 (pt_not (pt_val (pe_callB (call_isiEK (K := K)) (by rfl) B.b_isinstance (by decide +kernel) (pa_cons (pe_ix (ix_tupK (K := K)) (pv 0) pe_int (fun _ _ => rfl)) (pa_cons (pe_bltn (v := .ty "str") (by rfl) B.b_str (by decide +kernel) rfl) pa_nil)))))))))
    (pss_one (ps_ret pe_bl))
    pss_nil)
    (pss_cons (ps_set (i := 1) sc_is_command.nd rfl (.inl rfl) (pe_ix (ix_tupK (K := K)) (pv 0) pe_int (fun _ _ => rfl)))
    (pss_cons (ps_if (pt_cmpR op_eq (pv 1) pe_str (nomark _))
    (pss_one (ps_ret (pe_and (pe_cmpR op_eq (pe_callB (call_lenK (K := K)) (by rfl) B.b_len PySem.boot_len (pa_cons (pv 0) pa_nil)) pe_int (nomark _)) (pe_and (pe_callH h_is_integer (hr.mono (by first | decide | omega)) (pa_cons (pe_ix (ix_tupK (K := K)) (pv 0) pe_int (fun _ _ => rfl)) pa_nil)) (pe_and (pe_cmpR op_ge (pe_ix (ix_tupK (K := K)) (pv 0) pe_int (fun _ _ => rfl)) pe_int (nomark _)) (pe_one (pe_callH h_is_program (hr.mono (by first | decide | omega)) (pa_cons (pe_ix (ix_tupK (K := K)) (pv 0) pe_int (fun _ _ => rfl)) pa_nil))))))))
    pss_nil)
    (pss_cons (ps_if (pt_cmpR op_ne (pe_callB (call_lenK (K := K)) (by rfl) B.b_len PySem.boot_len (pa_cons (pv 0) pa_nil)) pe_int (nomark _))
    (pss_one (ps_ret pe_bl))
    pss_nil)
    (pss_cons (ps_if (pt_cmpR op_eq (pv 1) pe_str (nomark _))
    (pss_one (ps_ret (pe_callH h_is_integer (hr.mono (by first | decide | omega)) (pa_cons (pe_ix (ix_tupK (K := K)) (pv 0) pe_int (fun _ _ => rfl)) pa_nil))))
    pss_nil)
    (pss_cons (ps_if (pt_cmpR op_eq (pv 1) pe_str (nomark _))
    (pss_one (ps_ret (pe_callH h_is_program (hr.mono (by first | decide | omega)) (pa_cons (pe_ix (ix_tupK (K := K)) (pv 0) pe_int (fun _ _ => rfl)) pa_nil))))
    pss_nil)
    (pss_one (ps_ret (pe_and (pe_cmpR (op_in_kd DK) (pv 1) (pe_glob (v := .ref sd) rfl gS rfl) (by rfl)) (pe_one (pe_callH h_is_name (hr.mono (by first | decide | omega)) (pa_cons (pe_ix (ix_tupK (K := K)) (pv 0) pe_int (fun _ _ => rfl)) pa_nil)))))))))))), ?_⟩
    walk_at "go"
    rcases h with ⟨⟨t, ty, e⟩, rfl⟩ | ⟨p, xs, rfl, hp, lx, h⟩
    · refine r_isiE' (.ty _) ty e ?_
      walk_at "go"
      exact k _ (Same.refl _)
    · refine r_isiE' (b := true) (.ty _) (.x (ty_tup hp)) (kit_ty (by decide +kernel)) ?_
      walk_at "go"
      rcases h with ⟨l2, rfl⟩ | ⟨x, ys, rfl, l1, h⟩
      · refine r_iteDT (by omega) ?_
        walk_at "go"
        exact k _ (Same.refl _)
      have lxs : (x :: ys).length = ys.length + 1 := rfl
      refine r_iteDF (by omega) ?_
      walk_at "go"
      refine r_ixT (v := x) (.of hp) atI_hd ?_
      walk_at "go"
      rcases h with ⟨⟨t, ty, e⟩, rfl⟩ | ⟨wd, rfl, h⟩
      · refine r_isiE' (.ty _) ty e ?_
        walk_at "go"
        exact k _ (Same.refl _)
      refine r_isiE' (b := true) (.ty _) (.x ty_str) (kit_ty (by decide +kernel)) ?_
      walk_at "go"
      refine r_ixT (v := .str wd) (.of hp) atI_hd ?_
      walk_at "go"
      rcases h with ⟨rfl, h⟩ | ⟨n1, l2, rfl⟩ | ⟨y, rfl, h⟩
      · walk_at "go"
        rcases h with ⟨l2, rfl⟩ | ⟨c, q, rfl, h⟩
        · refine r_iteDF (by omega) ?_
          exact k _ (Same.refl _)
        walk_at "go"
        rcases h with ⟨hc, rfl⟩ | ⟨n, rfl, h⟩
        · refine u_isIntN hc ?_
          walk_at "go"
          exact k _ (Same.refl _)
        refine u_isIntV ?_
        walk_at "go"
        rcases h with ⟨hn, rfl⟩ | ⟨hn, h⟩
        · refine r_iteDF (by omega) ?_
          exact k _ (Same.refl _)
        refine r_iteDT (by omega) ?_
        walk_at "go"
        exact ⟨q, b, rfl, h, k⟩
      · refine r_iteDF n1 ?_
        walk_at "go"
        exact k _ (Same.refl _)
      · rcases h with ⟨rfl, h⟩ | ⟨rfl, h⟩ | ⟨n1, n2, n3, h⟩
        · walk_at "go"
          rcases h with ⟨hc, rfl⟩ | ⟨n, rfl, rfl⟩
          · exact u_isIntN hc (k _ (Same.refl _))
          · exact u_isIntV (k _ (Same.refl _))
        · walk_at "go"
          exact ⟨y, b, rfl, h, k⟩
        · walk_at "go"
          rcases h with ⟨hw, rfl⟩ | ⟨hw, h⟩
          · refine ⟨wd, none, rfl, rfl, oS _ hw, ?_⟩
            walk_at "go"
            exact k _ (Same.refl _)
          · obtain ⟨v, hv⟩ := nS _ hw
            refine ⟨wd, some v, rfl, rfl, hv, ?_⟩
            walk_at "go"
            refine ⟨_, rfl, ?_⟩
            walk_at "go"
            exact ⟨y, b, rfl, h, k _ (Same.refl _)⟩
theorem ok_is_programB {f : Addr} {fd : FuncData} (d : Nat) (F : Fun K "is_program" "is_program" s_is_program f fd) (B : Bl mg) (h_is_command : Has P w K mg base "is_command" (2 * d + 2) ["value"] (spIsCmdB K d)) : FnOk P w K mg base CX0 (2 * d + 3) f fd ["value"] (spIsPrB K (d + 1)) := by
  refine F.ok sc_is_program (fun vs H Q E h => ?_) (fun cdv A outer s H vs Q E hr h => ?_)
  · obtain ⟨a, b, rfl, _⟩ := h
    rfl
  · obtain ⟨v, b, rfl, h, k⟩ := h
    refine ⟨_, (pss_one (ps_ret (pe_and (pe_callB (call_isiEK (K := K)) (by rfl) B.b_isinstance (by decide +kernel) (pa_cons (pv 0) (pa_cons (pe_bltn (v := .ty "tuple") (by rfl) B.b_tuple (by decide +kernel) rfl) pa_nil))) (pe_and (pe_cmpR op_gt (pe_callB (call_lenK (K := K)) (by rfl) B.b_len PySem.boot_len (pa_cons (pv 0) pa_nil)) pe_int (nomark _)) (pe_one (pe_callB (call_allK (K := K)) (by rfl) B.b_all (by decide +kernel) (pa_cons (pe_lc (own := [("command", 1)]) rfl sc_is_program.nd (pi_tup (pv 0)) (blkOk_by (N := ["value", "command"]) (sc := defScope s_is_program) (by decide +kernel)) (fun _ _ _ _ _ => (pg_name (i := 1) sc_is_program.nd rfl (.inl rfl))) (fun _ _ _ _ _ => pts_nil) (fun _ _ _ _ _ => (pe_callH h_is_command (hr.mono (by first | decide | omega)) (pa_cons (pv 1) pa_nil)))) pa_nil))))))), ?_⟩
    walk_at "go"
    rcases h with ⟨⟨t, ty, e⟩, rfl⟩ | ⟨p, xs, rfl, hp, h⟩
    · refine r_isiE' (.ty _) ty e ?_
      walk_at "go"
      exact k _ (Same.refl _)
    refine r_isiE' (b := true) (.ty _) (.x (ty_tup hp)) (kit_ty (by decide +kernel)) ?_
    walk_at "go"
    rcases h with ⟨rfl, rfl⟩ | ⟨l1, l2, bs, hb, rfl⟩
    · walk_at "go"
      exact k _ (Same.refl _)
    refine r_iteDT (by omega) ?_
    walk_at "go"
    have lb := hb.length
    refine u_lcT (.of hp) (fun D i acc H' => acc = (bs.take i).map V.bl ∧ Same H H') ?_ ?_ ?_ ?_
    · exact fun D hD => ⟨rfl, Same.new0 hD⟩
    · exact fun D i acc H' _ _ ⟨_, s⟩ => .of (s _ _ hp)
    · rintro D i x acc H' hD hx hacc ⟨rfl, sm⟩
      have hi := (List.getElem?_eq_some_iff.mp hx).1
      obtain ⟨c, hc, hr'⟩ := paired_at hb hx
      walk_at "go"
      refine ⟨rfl, ?_⟩
      walk_at "go"
      refine ⟨x, c, rfl, CmF.imp (St.same sm) (fun _ _ z => z.st (St.same sm)) hr', fun H2 s2 => ?_⟩
      refine u_push (s2 _ _ hacc) (by rw [List.length_map, List.length_take]; omega) ⟨?_, Same.put (sm.trans s2) hD⟩
      rw [List.take_succ, hc, List.map_append]
      rfl
    · rintro D acc H' hD hacc ⟨rfl, sm⟩
      rw [List.take_of_length_le (by omega)] at hacc
      walk_at "go"
      refine r_all (SqL.of hacc) ?_
      exact k _ sm
theorem has_falseB {x : Str} {k : Nat} {f : Addr} {fd : FuncData} {ps : List Str} {sp : Sp} (no : ∀ vs H Q E, ¬ sp vs H Q E) (g : mg x = some (.ref f)) (kp : PySem.W.keepIn K (.ref f) = true) (b : Binds K fd ps []) : Has P w K mg base x k ps sp :=
  ⟨f, fd, ⟨fun _ _ _ _ h => (no _ _ _ _ h).elim, fun _ _ _ _ _ _ _ _ _ _ _ _ _ h => (no _ _ _ _ h).elim⟩, g, kp, b⟩
theorem has_prB {fc fp : Addr} {fdc fdp : FuncData} (Fc : Fun K "is_command" "is_command" s_is_command fc fdc) (Fp : Fun K "is_program" "is_program" s_is_program fp fdp) (B : Bl mg) (S : StepsB K w mg) (h_is_integer : Has P w K mg base "is_integer" 1 ["value"] (spIsIntT K)) (h_is_name : Has P w K mg base "is_name" 1 ["value"] (spIsNameA K))
   (gc : mg "is_command" = some (.ref fc)) (gp : mg "is_program" = some (.ref fp)) (bc : Binds K fdc ["value"] []) (bp : Binds K fdp ["value"] []) : ∀ d, Has P w K mg base "is_program" (2 * d + 1) ["value"] (spIsPrB K d)
  | 0 => has_falseB (fun vs H Q E h => by obtain ⟨v, b, _, h, _⟩ := h; exact h) gp Fp.kp bp
  | d + 1 => ⟨fp, fdp, ok_is_programB d Fp B ⟨fc, fdc, ok_is_commandB d Fc B S h_is_integer h_is_name (has_prB Fc Fp B S h_is_integer h_is_name gc gp bc bp d), gc, Fc.kp, bc⟩, gp, Fp.kp, bp⟩
local macro_rules | `(tactic| walk_at "s") => `(tactic| (first
  | (with_reducible refine r_callX ?_)
  | (with_reducible refine r_callXK ?_)
  ))
theorem ok_check_programX {f : Addr} {fd : FuncData} (F : Fun K "check_program" "check_program" s_check_program f fd) (X_InvalidProgram : OwnX K mg "InvalidProgram" A_InvalidProgram) (h_is_program : Has P w K mg base "is_program" 29 ["value"] (spIsPrB K 14)) : FnOk P w K mg base (L2.CX P w) 30 f fd ["value"] (spCheckPrX K A_InvalidProgram) := by
  refine F.okX sc_check_program (fun vs H Q E h => ?_) (fun cdv A outer s H vs Q E hr h => ?_)
  · obtain ⟨v, rfl, _⟩ := h
    rfl
  · obtain ⟨v, rfl, h⟩ := h
    refine ⟨_, (pss_one (ps_if (pt_not (pt_val (pe_callH h_is_program (hr.mono (by first | decide | omega)) (pa_cons (pv 0) pa_nil))))
    (pss_one (ps_raise rfl (takes_of rfl rfl rfl rfl) (pmk_own PySem.F.excBase_ValueError X_InvalidProgram.xi X_InvalidProgram.g X_InvalidProgram.k (raises_own X_InvalidProgram.b X_InvalidProgram.t) rfl)))
    pss_nil)), ?_⟩
    walk_at "go"
    rcases h with ⟨h, k⟩ | ⟨h, k⟩
    · refine ⟨v, _, rfl, h, fun H' s' => ?_⟩
      walk_at "go"
      exact k _ s'
    · refine ⟨v, _, rfl, h, fun H' s' => ?_⟩
      walk_at "go"
      exact k _ s'
end

set_option Elab.async false
set_option linter.all false
set_option maxRecDepth 100000
set_option maxHeartbeats 4000000

open PySem PySem.Spec PyProof.Rows L2
section
variable {P : Program} {w : World} {K : PySem.W.Frag} {mg : Str → Option Value} {base : Heap}

theorem ok_l_bag_of {f : Addr} {fd : FuncData} (F : Fun K "_law_bag_of" "_law_bag_of" s_l_bag_of f fd) (B : Bl mg) : FnOk P w K mg base CX0 1 f fd ["_law_cell"] spBagOf := by
  refine F.ok sc_l_bag_of (fun vs H Q E h => ?_) (fun cdv A outer s H vs Q E hr h => ?_)
  · obtain ⟨c, rfl, _⟩ := h
    rfl
  · obtain ⟨c, rfl, k⟩ := h
    refine ⟨_, (pss_one (ps_ret (pe_lst (pa_cons (pe_callB (call_max2 rfl) (by rfl) B.b_max (by decide +kernel) (pa_cons pe_int (pa_cons (pe_op op_sub (pv 0) (pe_op op_pow pe_int pe_int)) pa_nil))) (pa_cons (pe_op op_add (pe_op op_mod (pe_callTy call_intI (by rfl) B.b_int (by decide +kernel) (pa_cons (pv 0) pa_nil)) pe_int) pe_int) (pa_cons (pe_op op_mod (pe_callTy call_intI (by rfl) B.b_int (by decide +kernel) (pa_cons (pe_op op_fdivW (pv 0) pe_int) pa_nil)) pe_int) pa_nil)))))), ?_⟩
    walk_at "go"
    intro p np
    exact k p _ np (Same.new0 np) ⟨_, _, _, upd_same, by omega, by omega, by omega⟩
theorem ok_l_pick {f : Addr} {fd : FuncData} (F : Fun K "_law_pick" "_law_pick" s_l_pick f fd) (B : Bl mg) : FnOk P w K mg base CX0 1 f fd ["_law_bag", "_law_many"] spPick := by
  refine F.ok sc_l_pick (fun vs H Q E h => ?_) (fun cdv A outer s H vs Q E hr h => ?_)
  · obtain ⟨a, n, rfl, _⟩ := h
    rfl
  · obtain ⟨a, n, rfl, ⟨x, y, z, hb, y0, y1, z0⟩, n0, n1, k⟩ := h
    have nl : n.natAbs.log2 < 9000 := log_small (Nat.lt_of_le_of_lt (by omega : n.natAbs ≤ 1000000) (by decide +kernel))
    refine ⟨_, (pss_cons (ps_if (pt_cmpR op_gt (pe_ix (ix_listK (K := K)) (pv 0) pe_int (fun _ _ => rfl)) pe_int (nomark _))
    (pss_cons (ps_set (i := 2) sc_l_pick.nd rfl (.inl rfl) (pe_op op_modN (pe_callTy call_intI (by rfl) B.b_int (by decide +kernel) (pa_cons (pe_ix (ix_listK (K := K)) (pv 0) pe_int (fun _ _ => rfl)) pa_nil)) (pv 1)))
    (pss_cons (ps_asg (pe_op op_fdivW (pe_ix (ix_listK (K := K)) (pv 0) pe_int (fun _ _ => rfl)) (pv 1)) (pg_sub (pv 0) pe_int set_list))
    (pss_one (ps_ret (pv 2)))))
    pss_nil)
    (pss_cons (ps_augS (pv 0) pe_int pg_list pe_int ip_add set_list)
    (pss_cons (ps_asg (pe_op op_mod (pe_callTy call_intI (by rfl) B.b_int (by decide +kernel) (pa_cons (pe_op op_add (pe_op op_mul (pe_ix (ix_listK (K := K)) (pv 0) pe_int (fun _ _ => rfl)) pe_int) (pe_op op_mul (pe_ix (ix_listK (K := K)) (pv 0) pe_int (fun _ _ => rfl)) pe_int)) pa_nil)) pe_int) (pg_sub (pv 0) pe_int set_list))
    (pss_one (ps_ret (pe_op op_modN (pe_callTy call_intI (by rfl) B.b_int (by decide +kernel) (pa_cons (pe_op op_fdiv (pe_op op_mod (pe_callTy call_intI (by rfl) B.b_int (by decide +kernel) (pa_cons (pe_op op_mul (pe_ix (ix_listK (K := K)) (pv 0) pe_int (fun _ _ => rfl)) (pe_ix (ix_listK (K := K)) (pv 0) pe_int (fun _ _ => rfl))) pa_nil)) pe_int) pe_int) pa_nil)) (pv 1))))))), ?_⟩
    walk_at "go"
    refine r_iteD (fun hx => ?_) (fun hx => ?_)
    · walk_at "go"
      refine k _ _ (Int.fmod_nonneg_of_pos _ n0) (Int.fmod_lt_of_pos _ n0) (But.self (But.refl _ _)) ⟨_, _, _, upd_same, y0, y1, z0⟩
    · walk_at "go"
      refine k _ _ (Int.fmod_nonneg_of_pos _ n0) (Int.fmod_lt_of_pos _ n0) (But.self (But.self (But.refl _ _))) ⟨_, _, _, upd_same, by omega, by omega, by omega⟩
def spGreat : Sp := fun vs H Q _ => ∃ (a : Addr) (d : Int), vs = [.ref a, .int d] ∧ Bag H a ∧ 0 ≤ d ∧ d ≤ 60 ∧ ∀ (r : Int) H', 0 ≤ r → r < 10 ^ d.toNat → But a H H' → Bag H' a → Q (.int r) H'
theorem ok_l_great_int {f : Addr} {fd : FuncData} (F : Fun K "_law_great_int" "_law_great_int" s_l_great_int f fd) (B : Bl mg) (h_l_pick : Has P w K mg base "_law_pick" 1 ["_law_bag", "_law_many"] spPick) : FnOk P w K mg base CX0 2 f fd ["_law_bag", "_law_digits"] spGreat := by
  refine F.ok sc_l_great_int (fun vs H Q E h => ?_) (fun cdv A outer s H vs Q E hr h => ?_)
  · obtain ⟨a, n, rfl, _⟩ := h
    rfl
  · obtain ⟨a, d, rfl, ba, d0, d1, k⟩ := h
    refine ⟨_, (pss_cons (ps_set (i := 2) sc_l_great_int.nd rfl (.inl rfl) pe_int)
    (pss_cons (ps_for PassesOwn.never rfl (pi_range1 (by rfl) B.b_range (pa_cons pe_int pa_nil)) (pg_name (i := 3) sc_l_great_int.nd rfl (.inl rfl))
    (pss_one (ps_set (i := 2) sc_l_great_int.nd rfl (.inl rfl) (pe_op op_add (pe_op op_mulW (pv 2) (pe_op op_pow pe_int pe_int)) (pe_callH h_l_pick (hr.mono (by first | decide | omega)) (pa_cons (pv 0) (pa_cons (pe_op op_pow pe_int pe_int) pa_nil)))))))
    (pss_cons (ps_set (i := 4) sc_l_great_int.nd rfl (.inl rfl) pe_int)
    (pss_cons (ps_for PassesOwn.never rfl (pi_range1 (by rfl) B.b_range (pa_cons (pv 1) pa_nil)) (pg_name (i := 3) sc_l_great_int.nd rfl (.inl rfl))
    (pss_one (ps_set (i := 4) sc_l_great_int.nd rfl (.inl rfl) (pe_op op_mul (pv 4) pe_int))))
    (pss_one (ps_ret (pe_op op_modN (pe_callTy call_intI (by rfl) B.b_int (by decide +kernel) (pa_cons (pv 2) pa_nil)) (pv 4)))))))), ?_⟩
    walk_at "go"
    refine u_for1 ?_ (fun i σ H' => ∃ (t : Int) (y : Option V), σ = [some (.ref a), some (.int d), some (.int t), y, none] ∧ 0 ≤ t ∧ t < 10 ^ (6 * i) ∧ But a H H' ∧ Bag H' a) ?_ ?_ ?_
    · omega
    · exact ⟨0, none, rfl, by omega, by decide, But.refl _ _, ba⟩
    · rintro i σ H' hi ⟨t, y, rfl, t0, t1, bu, bg⟩
      have t2 : t.natAbs < 2 ^ 100000 := by
        have h1 : (10 : Int) ^ (6 * i) ≤ 10 ^ 42 := ipow_mono (by decide) (by omega)
        refine Nat.lt_of_le_of_lt (m := 10 ^ 42) (by omega) (by decide +kernel)
      have mw : CMulW t (10 ^ Int.toNat 6) := mulW_of t2 (by decide +kernel)
      walk_at "go"
      refine u_pick bg (by decide) (by decide) fun r H2 r0 r1 bu2 b2 => ?_
      walk_at "go"
      refine ⟨_, some (.int i), rfl, ?_, ?_, bu.trans bu2, b2⟩
      · have : 0 ≤ t * 10 ^ Int.toNat 6 := Int.mul_nonneg t0 (by decide)
        omega
      · rw [show 6 * (i + 1) = 6 * i + 6 by omega, Int.pow_add]
        rw [show (10 : Int) ^ Int.toNat 6 = 1000000 by decide] at *
        rw [show (10 : Int) ^ 6 = 1000000 by decide]
        generalize (10 : Int) ^ (6 * i) = X at *
        omega
    · rintro σ H' ⟨t, y, rfl, t0, t1, bu, bg⟩
      walk_at "go"
      refine u_for1 ?_ (fun i σ H2 => ∃ (y : Option V), σ = [some (.ref a), some (.int d), some (.int t), y, some (.int (10 ^ i))] ∧ H2 = H') ?_ ?_ ?_
      · omega
      · exact ⟨y, rfl, rfl⟩
      · rintro i σ H2 hi ⟨y, rfl, rfl⟩
        walk_at "go"
        exact ⟨some (.int i), by rw [Int.pow_succ]; rfl, rfl⟩
      · rintro σ H2 ⟨y, rfl, rfl⟩
        have hp : (0 : Int) < 10 ^ d.toNat := Int.pow_pos (by decide)
        have hp2 : (10 : Int) ^ d.toNat ≠ 0 := by omega
        walk_at "go"
        exact k _ _ (Int.fmod_nonneg_of_pos _ hp) (Int.fmod_lt_of_pos _ hp) bu bg
def spNames : Sp := fun vs H Q _ => ∃ a, vs = [.ref a] ∧ Bag H a ∧ ∀ z H', But a H H' → Bag H' a → Names z → Q (.str z) H'
theorem ok_l_names {f : Addr} {fd : FuncData} (F : Fun K "_law_names" "_law_names" s_l_names f fd) (B : Bl mg) (h_l_pick : Has P w K mg base "_law_pick" 1 ["_law_bag", "_law_many"] spPick) : FnOk P w K mg base CX0 2 f fd ["_law_bag"] spNames := by
  refine F.ok sc_l_names (fun vs H Q E h => ?_) (fun cdv A outer s H vs Q E hr h => ?_)
  · obtain ⟨a, rfl, _⟩ := h
    rfl
  · obtain ⟨a, rfl, ba, k⟩ := h
    refine ⟨_, (pss_cons (ps_set (i := 1) sc_l_names.nd rfl (.inr rfl) pe_str)
    (pss_cons (ps_if (pt_cmpR op_eq (pe_callH h_l_pick (hr.mono (by first | decide | omega)) (pa_cons (pv 0) (pa_cons pe_int pa_nil))) pe_int (nomark _))
    (pss_one (ps_ret pe_str))
    pss_nil)
    (pss_one (ps_ret (pe_join pe_str (pe_lc (own := [("_law_k", 2)]) rfl sc_l_names.nd (pi_range1 (by rfl) B.b_range (pa_cons pe_int pa_nil)) (blkOk_by (N := ["_law_bag", "_law_letters", "_law_k"]) (sc := defScope s_l_names) (by decide +kernel)) (fun _ _ _ _ _ => (pg_name (i := 2) sc_l_names.nd rfl (.inl rfl))) (fun _ _ _ _ _ => pts_nil) (fun _ _ _ _ _ => (pe_ix ix_str (pv 1) (pe_callH h_l_pick (hr.mono (by first | decide | omega)) (pa_cons (pv 0) (pa_cons pe_int pa_nil))) (fun _ _ => rfl))))))))), ?_⟩
    walk_at "go"
    refine u_pick ba (by omega) (by omega) fun r H1 r0 r1 bu1 b1 => ?_
    walk_at "go"
    refine r_iteD (fun hz => ?_) (fun hz => ?_)
    · walk_at "go"
      exact k _ _ bu1 b1 ⟨by decide +kernel, by decide +kernel⟩
    · walk_at "go"
      refine u_lc1 ?_ (fun D i acc H' => (∃ cs : List Nat, acc = (cs.map sign1).map V.str ∧ cs.length = i ∧ ∀ c ∈ cs, 97 ≤ c ∧ c ≤ 122) ∧ But a H1 H' ∧ Bag H' a) ?_ ?_ ?_
      · omega
      · exact fun D hD => ⟨⟨[], rfl, rfl, by simp⟩, But.new (But.refl _ _) hD, b1.keep hD⟩
      · rintro D i acc H' hD hi hacc ⟨⟨cs, rfl, hl, hc⟩, bu, bg⟩
        have nDa : D ≠ a := b1.ne hD
        walk_at "go"
        refine ⟨rfl, ?_⟩
        walk_at "go"
        refine u_pick bg (by omega) (by omega) fun r2 H2 p0 p1 bu2 b2 => ?_
        obtain ⟨c, hc1, hc2, hc3⟩ := letter_at p0 p1
        refine r_ixS (by decide +kernel) hc1 ?_
        have hD2 : H2 D = _ := bu2 _ _ nDa hacc
        refine u_push hD2 (by rw [List.length_map, List.length_map]; omega) ⟨⟨cs ++ [c], ?_, ?_, ?_⟩, But.put (bu.trans bu2) hD, b2.upd nDa.symm⟩
        · rw [List.map_append, List.map_append]
          rfl
        · rw [List.length_append, List.length_singleton, hl]
        · intro d hd
          rcases List.mem_append.mp hd with hd | hd
          · exact hc d hd
          · rw [List.mem_singleton.mp hd]
            exact ⟨hc2, hc3⟩
      · rintro D acc H' hD hacc ⟨⟨cs, rfl, hl, hc⟩, bu, bg⟩
        refine ⟨_, D, cs.map sign1, rfl, rfl, .inl (.of hacc), ?_, ?_⟩
        · rw [List.map_map, List.length_map, hl]
          have : (cs.map (fun c => (sign1 c).length)).sum ≤ 6 := by
            have h1 : ∀ l : List Nat, (l.map (fun c => (sign1 c).length)).sum = l.length := by
              intro l
              induction l with
              | nil => rfl
              | cons c r ih => rw [List.map_cons, List.sum_cons, ih, List.length_cons]; exact Nat.add_comm _ _
            rw [h1, hl]
            omega
          show (cs.map (fun c => (sign1 c).length)).sum + _ ≤ _
          rw [show (("" : Str)).length = 0 by decide +kernel]
          omega
        · refine k _ _ (bu1.trans bu) bg ⟨?_, ?_⟩
          · rw [join_signs (by decide +kernel), hl]
            rfl
          · rw [join_signs (by decide +kernel)]
            exact hc
/-- the bounds of counts and turns by the flag -/
def CB (b : Bool) : Int := if b then BC else 3
def TB (b : Bool) : Int := if b then BC else 12
end

set_option Elab.async false
set_option linter.all false
set_option maxRecDepth 100000
set_option maxHeartbeats 4000000

open PySem PySem.Spec PyProof.Rows L2
section
variable {P : Program} {w : World} {K : PySem.W.Frag} {mg : Str → Option Value} {base : Heap}

def spIsInt : Sp := fun vs H Q _ => ∃ n : Int, vs = [.int n] ∧ Q (.bl true) H
theorem ok_is_integer {f : Addr} {fd : FuncData} (F : Fun K "is_integer" "is_integer" s_is_integer f fd) (B : Bl mg) : FnOk P w K mg base CX0 1 f fd ["value"] spIsInt := by
  refine F.ok sc_is_integer (fun vs H Q E h => ?_) (fun cdv A outer s H vs Q E hr h => ?_)
  · obtain ⟨c, rfl, _⟩ := h
    rfl
  · obtain ⟨c, rfl, k⟩ := h
    refine ⟨_, (pss_one (ps_ret (pe_and (pe_callB (call_isiKK (K := K)) (by rfl) B.b_isinstance (by decide +kernel) (pa_cons (pv 0) (pa_cons (pe_bltn (v := .ty "int") (by rfl) B.b_int (by decide +kernel) rfl) pa_nil))) (pe_one (pe_not (pe_callB (call_isiKK (K := K)) (by rfl) B.b_isinstance (by decide +kernel) (pa_cons (pv 0) (pa_cons (pe_bltn (v := .ty "bool") (by rfl) B.b_bool (by decide +kernel) rfl) pa_nil)))))))), ?_⟩
    walk_at "go"
    exact k
theorem has_false {x : Str} {k : Nat} {f : Addr} {fd : FuncData} {ps : List Str} (g : mg x = some (.ref f)) (kp : PySem.W.keepIn K (.ref f) = true) (b : Binds K fd ps []) : Has P w K mg base x k ps (fun _ _ _ _ => False) :=
  ⟨f, fd, ⟨fun _ _ _ _ h => h.elim, fun _ _ _ _ _ _ _ _ _ _ _ _ _ h => h.elim⟩, g, kp, b⟩
def spNumLt (g : Prog → Int) : Nat → Sp
  | 0 => fun _ _ _ _ => False
  | d + 1 => fun vs H Q _ => ∃ a p, vs = [.ref a] ∧ PrIs H a p ∧ Wf BC BC d p ∧ p.len ≤ 4000 ∧ d ≤ 20 ∧ Q (.int (g p)) H
theorem ok_raw_size {f : Addr} {fd : FuncData} (d : Nat) (F : Fun K "raw_size" "raw_size" s_raw_size f fd) (h_raw_size : Has P w K mg base "raw_size" d ["program"] (spNumLt Prog.size d)) : FnOk P w K mg base CX0 (d + 1) f fd ["program"] (spNumLt Prog.size (d + 1)) := by
  refine F.ok sc_raw_size (fun vs H Q E h => ?_) (fun cdv A outer s H vs Q E hr h => ?_)
  · obtain ⟨a, p, rfl, _⟩ := h
    rfl
  · obtain ⟨a, p, rfl, ⟨xs, hx, hp⟩, hw, l2, d2, k⟩ := h
    refine ⟨_, (pss_cons (ps_set (i := 1) sc_raw_size.nd rfl (.inl rfl) pe_int)
    (pss_cons (ps_for PassesOwn.never rfl (pi_tup (pv 0)) (pg_name (i := 2) sc_raw_size.nd rfl (.inl rfl))
    (pss_one (ps_if (pt_cmpR op_eq (pe_ix (ix_tupK (K := K)) (pv 2) pe_int (fun _ _ => rfl)) pe_str (nomark _))
    (pss_one (ps_aug (i := 1) sc_raw_size.nd rfl (.inl rfl) (pe_op op_mulW (pe_ix (ix_tupK (K := K)) (pv 2) pe_int (fun _ _ => rfl)) (pe_callH h_raw_size (hr.mono (by first | decide | omega)) (pa_cons (pe_ix (ix_tupK (K := K)) (pv 2) pe_int (fun _ _ => rfl)) pa_nil))) ip_add))
    (pss_one (ps_if (pt_cmpR op_eq (pe_ix (ix_tupK (K := K)) (pv 2) pe_int (fun _ _ => rfl)) pe_str (nomark _))
    (pss_one (ps_aug (i := 1) sc_raw_size.nd rfl (.inl rfl) (pe_callH h_raw_size (hr.mono (by first | decide | omega)) (pa_cons (pe_ix (ix_tupK (K := K)) (pv 2) pe_int (fun _ _ => rfl)) pa_nil)) ip_add))
    (pss_one (ps_aug (i := 1) sc_raw_size.nd rfl (.inl rfl) pe_int ip_add)))))))
    (pss_one (ps_ret (pv 1))))), ?_⟩
    walk_at "go"
    refine u_forPr hx hp (fun r σ H' => ∃ (t : Int) (y : Option V), σ = [some (.ref a), some (.int t), y] ∧ H' = H ∧ Wf BC BC d r ∧ t + r.size = p.size) ?_ ?_ ?_ ?_
    · exact ⟨0, none, rfl, rfl, hw, by omega⟩
    · rintro r σ H' ⟨t, y, rfl, rfl, _⟩
      exact Tk.refl _
    · rintro x r r' σ H' hf ⟨t, y, rfl, rfl, hw', e⟩
      cases r with
      | nil => exact hf.elim
      | step w' n r =>
        obtain ⟨c, rfl, h1, rfl⟩ := hf
        obtain ⟨w1, w2, w3⟩ := WfL.step_iff.mp hw'
        obtain ⟨n1, n2, n3⟩ := word_ne w1
        walk_at "go"
        exact ⟨_, _, rfl, rfl, w3, by rw [← e, Prog.size]; omega⟩
      | turn k' r =>
        obtain ⟨c, rfl, h1, rfl⟩ := hf
        walk_at "go"
        exact ⟨_, _, rfl, rfl, (WfL.turn_iff.mp hw').2, by rw [← e, Prog.size]; omega⟩
      | rep k' b r =>
        obtain ⟨c, q, rfl, h1, h2, rfl⟩ := hf
        cases d with
        | zero => exact hw'.elim
        | succ d =>
          obtain ⟨w1, w2, w3, w4⟩ := hw'
          have mw : CMulW k' b.size := mulW_of (count_bits (by have := BC_one; omega) w1.2) (size_bits w3 (by omega) w2.2)
          walk_at "go"
          refine ⟨q, b, rfl, h2, w3, w2.2, by omega, ?_⟩
          walk_at "go"
          exact ⟨_, _, rfl, rfl, w4, by rw [← e, Prog.size]; omega⟩
      | mir b r =>
        obtain ⟨c, q, rfl, h1, h2, rfl⟩ := hf
        cases d with
        | zero => exact hw'.elim
        | succ d =>
          obtain ⟨w2, w3, w4⟩ := hw'
          walk_at "go"
          refine ⟨q, b, rfl, h2, w3, w2.2, by omega, ?_⟩
          walk_at "go"
          exact ⟨_, _, rfl, rfl, w4, by rw [← e, Prog.size]; omega⟩
    · rintro σ H' ⟨t, y, rfl, rfl, _, e⟩
      walk_at "go"
      rw [Prog.size, Int.add_zero] at e
      rw [e]
      exact k
theorem has_size {f : Addr} {fd : FuncData} (F : Fun K "raw_size" "raw_size" s_raw_size f fd) (g : mg "raw_size" = some (.ref f)) (b : Binds K fd ["program"] []) : ∀ d, Has P w K mg base "raw_size" d ["program"] (spNumLt Prog.size d)
  | 0 => has_false g F.kp b
  | d + 1 => ⟨f, fd, ok_raw_size d F (has_size F g b d), g, F.kp, b⟩
end

set_option Elab.async false
set_option linter.all false
set_option maxRecDepth 100000
set_option maxHeartbeats 4000000

open PySem PySem.Spec PyProof.Rows L2
section
variable {P : Program} {w : World} {K : PySem.W.Frag} {mg : Str → Option Value} {base : Heap}

theorem word_at {n : Int} (h0 : 0 ≤ n) (h1 : n < 4) : ∃ x : Str, atI [V.str "go", V.str "back", V.str "hop", V.str "slip"] n = some (.str x) ∧ IsWord x := by
  rcases (by omega : n = 0 ∨ n = 1 ∨ n = 2 ∨ n = 3) with rfl | rfl | rfl | rfl
  · exact ⟨_, rfl, .inl rfl⟩
  · exact ⟨_, rfl, .inr (.inl rfl)⟩
  · exact ⟨_, rfl, .inr (.inr (.inl rfl))⟩
  · exact ⟨_, rfl, .inr (.inr (.inr rfl))⟩
/-- what holds between the turns of the loop that makes a piece -/
structure PcInv (H : Hp) (a o m : Addr) (d : Nat) (b : Bool) (z : Str) (p : Prog) (H' : Hp) : Prop where
  bu : But2 a o H H'
  bg : Bag H' a
  pot : ∃ n' : Int, H' o = some (.lst [.int n', .str z])
  tk : Tk H H'
  lst : ∃ xs, H' m = some (.lst xs) ∧ PrAt H' p xs
  wf : WfL 5 (CB b) (TB b) d p
  sz : p.size ≤ p.len * (5 * CB b) ^ d
section
variable {H H' H'' : Hp} {a o m : Addr} {d : Nat} {b : Bool} {z : Str} {p : Prog}
theorem PcInv.pick (h : PcInv H a o m d b z p H') (noa : o ≠ a) (nma : m ≠ a) (bu : But a H' H'') (bg : Bag H'' a) : PcInv H a o m d b z p H'' := by
  obtain ⟨n', ho⟩ := h.pot
  obtain ⟨xs, hm, hp⟩ := h.lst
  exact ⟨h.bu.trans (.of bu), bg, ⟨n', bu _ _ noa ho⟩, h.tk.trans (Tk.but bu h.bg), ⟨xs, bu _ _ nma hm, hp.tk (Tk.but bu h.bg)⟩, h.wf, h.sz⟩
theorem PcInv.call (h : PcInv H a o m d b z p H') (nma : m ≠ a) (nmo : m ≠ o) (bu : But2 a o H' H'') (bg : Bag H'' a) (pot : ∃ n' : Int, H'' o = some (.lst [.int n', .str z])) (tk : Tk H' H'') : PcInv H a o m d b z p H'' := by
  obtain ⟨xs, hm, hp⟩ := h.lst
  exact ⟨h.bu.trans bu, bg, pot, h.tk.trans tk, ⟨xs, bu _ _ nma nmo hm, hp.tk tk⟩, h.wf, h.sz⟩
theorem PcInv.push {c : Addr} {T xs : List V} {r1 : Prog} (h : PcInv H a o m d b z p H') (nm : H m = none) (nma : m ≠ a) (nmo : m ≠ o) (nc : H' c = none) (hx : H' m = some (.lst xs)) (hf : ∀ H2, Tk H' H2 → H2 c = some (.tup T) → PrAt H2 r1 [.ref c]) (hw : WfL 5 (CB b) (TB b) d r1) (hz : r1.size ≤ r1.len * (5 * CB b) ^ d) :
    PcInv H a o m d b z (p.app r1) (upd (upd H' c (.tup T)) m (.lst (xs ++ [.ref c]))) := by
  obtain ⟨n', ho⟩ := h.pot
  obtain ⟨ys, hm, hp⟩ := h.lst
  obtain rfl : xs = ys := by
    rw [hx] at hm
    injection hm with hm
    injection hm
  have nco : c ≠ o := (ne_of_none ho nc).symm
  have nca : c ≠ a := h.bg.ne nc
  have ncm : c ≠ m := (ne_of_none hx nc).symm
  have t1 : Tk H' (upd H' c (.tup T)) := (Tk.refl _).new nc
  have t2 : Tk H' (upd (upd H' c (.tup T)) m (.lst (xs ++ [.ref c]))) := t1.lst (h_keep hx nc)
  refine ⟨(h.bu.new nc).put nm, (h.bg.keep nc).upd nma.symm, ⟨n', (upd_ne nmo.symm).trans (h_keep ho nc)⟩, h.tk.trans t2, ⟨_, upd_same, (hp.tk t2).app (hf _ t2 ((upd_ne ncm).trans upd_same))⟩, h.wf.app hw, by rw [Prog.size_app, Prog.len_app, Int.natCast_add, Int.add_mul]; have := h.sz; omega⟩
end
end

set_option Elab.async false
set_option linter.all false
set_option maxRecDepth 100000
set_option maxHeartbeats 4000000

open PySem PySem.Spec PyProof.Rows L2
section
variable {P : Program} {w : World} {K : PySem.W.Frag} {mg : Str → Option Value} {base : Heap}

theorem ok_l_is_int {f : Addr} {fd : FuncData} (F : Fun K "_law_is_int" "_law_is_int" s_l_is_int f fd) (B : Bl mg) : FnOk P w K mg base CX0 1 f fd ["_law_thing"] spIsInt := by
  refine F.ok sc_l_is_int (fun vs H Q E h => ?_) (fun cdv A outer s H vs Q E hr h => ?_)
  · obtain ⟨c, rfl, _⟩ := h
    rfl
  · obtain ⟨c, rfl, k⟩ := h
    refine ⟨_, (pss_one (ps_ret (pe_and (pe_callB (call_isiKK (K := K)) (by rfl) B.b_isinstance (by decide +kernel) (pa_cons (pv 0) (pa_cons (pe_bltn (v := .ty "int") (by rfl) B.b_int (by decide +kernel) rfl) pa_nil))) (pe_one (pe_not (pe_callB (call_isiKK (K := K)) (by rfl) B.b_isinstance (by decide +kernel) (pa_cons (pv 0) (pa_cons (pe_bltn (v := .ty "bool") (by rfl) B.b_bool (by decide +kernel) rfl) pa_nil)))))))), ?_⟩
    walk_at "go"
    exact k
theorem ok_l_bulk {f : Addr} {fd : FuncData} (d : Nat) (F : Fun K "_law_bulk" "_law_bulk" s_l_bulk f fd) (h_l_bulk : Has P w K mg base "_law_bulk" d ["_law_piece"] (spNumLt Prog.size d)) : FnOk P w K mg base CX0 (d + 1) f fd ["_law_piece"] (spNumLt Prog.size (d + 1)) := by
  refine F.ok sc_l_bulk (fun vs H Q E h => ?_) (fun cdv A outer s H vs Q E hr h => ?_)
  · obtain ⟨a, p, rfl, _⟩ := h
    rfl
  · obtain ⟨a, p, rfl, ⟨xs, hx, hp⟩, hw, l2, d2, k⟩ := h
    refine ⟨_, (pss_cons (ps_set (i := 1) sc_l_bulk.nd rfl (.inl rfl) pe_int)
    (pss_cons (ps_for PassesOwn.never rfl (pi_tup (pv 0)) (pg_name (i := 2) sc_l_bulk.nd rfl (.inl rfl))
    (pss_one (ps_if (pt_cmpR op_eq (pe_ix (ix_tupK (K := K)) (pv 2) pe_int (fun _ _ => rfl)) pe_str (nomark _))
    (pss_one (ps_set (i := 1) sc_l_bulk.nd rfl (.inl rfl) (pe_op op_add (pv 1) (pe_op op_mulW (pe_ix (ix_tupK (K := K)) (pv 2) pe_int (fun _ _ => rfl)) (pe_callH h_l_bulk (hr.mono (by first | decide | omega)) (pa_cons (pe_ix (ix_tupK (K := K)) (pv 2) pe_int (fun _ _ => rfl)) pa_nil))))))
    (pss_one (ps_if (pt_cmpR op_eq (pe_ix (ix_tupK (K := K)) (pv 2) pe_int (fun _ _ => rfl)) pe_str (nomark _))
    (pss_one (ps_set (i := 1) sc_l_bulk.nd rfl (.inl rfl) (pe_op op_add (pv 1) (pe_callH h_l_bulk (hr.mono (by first | decide | omega)) (pa_cons (pe_ix (ix_tupK (K := K)) (pv 2) pe_int (fun _ _ => rfl)) pa_nil)))))
    (pss_one (ps_set (i := 1) sc_l_bulk.nd rfl (.inl rfl) (pe_op op_add (pv 1) pe_int))))))))
    (pss_one (ps_ret (pv 1))))), ?_⟩
    walk_at "go"
    refine u_forPr hx hp (fun r σ H' => ∃ (t : Int) (y : Option V), σ = [some (.ref a), some (.int t), y] ∧ H' = H ∧ Wf BC BC d r ∧ t + r.size = p.size) ?_ ?_ ?_ ?_
    · exact ⟨0, none, rfl, rfl, hw, by omega⟩
    · rintro r σ H' ⟨t, y, rfl, rfl, _⟩
      exact Tk.refl _
    · rintro x r r' σ H' hf ⟨t, y, rfl, rfl, hw', e⟩
      cases r with
      | nil => exact hf.elim
      | step w' n r =>
        obtain ⟨c, rfl, h1, rfl⟩ := hf
        obtain ⟨w1, w2, w3⟩ := WfL.step_iff.mp hw'
        obtain ⟨n1, n2, n3⟩ := word_ne w1
        walk_at "go"
        exact ⟨_, _, rfl, rfl, w3, by rw [← e, Prog.size]; omega⟩
      | turn k' r =>
        obtain ⟨c, rfl, h1, rfl⟩ := hf
        walk_at "go"
        exact ⟨_, _, rfl, rfl, (WfL.turn_iff.mp hw').2, by rw [← e, Prog.size]; omega⟩
      | rep k' b r =>
        obtain ⟨c, q, rfl, h1, h2, rfl⟩ := hf
        cases d with
        | zero => exact hw'.elim
        | succ d =>
          obtain ⟨w1, w2, w3, w4⟩ := hw'
          have mw : CMulW k' b.size := mulW_of (count_bits (by have := BC_one; omega) w1.2) (size_bits w3 (by omega) w2.2)
          walk_at "go"
          refine ⟨q, b, rfl, h2, w3, w2.2, by omega, ?_⟩
          walk_at "go"
          exact ⟨_, _, rfl, rfl, w4, by rw [← e, Prog.size]; omega⟩
      | mir b r =>
        obtain ⟨c, q, rfl, h1, h2, rfl⟩ := hf
        cases d with
        | zero => exact hw'.elim
        | succ d =>
          obtain ⟨w2, w3, w4⟩ := hw'
          walk_at "go"
          refine ⟨q, b, rfl, h2, w3, w2.2, by omega, ?_⟩
          walk_at "go"
          exact ⟨_, _, rfl, rfl, w4, by rw [← e, Prog.size]; omega⟩
    · rintro σ H' ⟨t, y, rfl, rfl, _, e⟩
      walk_at "go"
      rw [Prog.size, Int.add_zero] at e
      rw [e]
      exact k
theorem has_bulk {f : Addr} {fd : FuncData} (F : Fun K "_law_bulk" "_law_bulk" s_l_bulk f fd) (g : mg "_law_bulk" = some (.ref f)) (b : Binds K fd ["_law_piece"] []) : ∀ d, Has P w K mg base "_law_bulk" d ["_law_piece"] (spNumLt Prog.size d)
  | 0 => has_false g F.kp b
  | d + 1 => ⟨f, fd, ok_l_bulk d F (has_bulk F g b d), g, F.kp, b⟩
theorem ok_l_aim {f : Addr} {fd : FuncData} (d : Nat) (F : Fun K "_law_aim" "_law_aim" s_l_aim f fd) (h_l_aim : Has P w K mg base "_law_aim" d ["_law_piece"] (spNumLt Prog.head d)) : FnOk P w K mg base CX0 (d + 1) f fd ["_law_piece"] (spNumLt Prog.head (d + 1)) := by
  refine F.ok sc_l_aim (fun vs H Q E h => ?_) (fun cdv A outer s H vs Q E hr h => ?_)
  · obtain ⟨a, p, rfl, _⟩ := h
    rfl
  · obtain ⟨a, p, rfl, ⟨xs, hx, hp⟩, hw, l2, d2, k⟩ := h
    refine ⟨_, (pss_cons (ps_set (i := 1) sc_l_aim.nd rfl (.inl rfl) pe_int)
    (pss_cons (ps_for PassesOwn.never rfl (pi_tup (pv 0)) (pg_name (i := 2) sc_l_aim.nd rfl (.inl rfl))
    (pss_one (ps_if (pt_cmpR op_eq (pe_ix (ix_tupK (K := K)) (pv 2) pe_int (fun _ _ => rfl)) pe_str (nomark _))
    (pss_one (ps_set (i := 1) sc_l_aim.nd rfl (.inl rfl) (pe_op op_add (pv 1) (pe_op op_mulW (pe_ix (ix_tupK (K := K)) (pv 2) pe_int (fun _ _ => rfl)) (pe_callH h_l_aim (hr.mono (by first | decide | omega)) (pa_cons (pe_ix (ix_tupK (K := K)) (pv 2) pe_int (fun _ _ => rfl)) pa_nil))))))
    (pss_one (ps_if (pt_cmpR op_eq (pe_ix (ix_tupK (K := K)) (pv 2) pe_int (fun _ _ => rfl)) pe_str (nomark _))
    (pss_one (ps_set (i := 1) sc_l_aim.nd rfl (.inl rfl) (pe_op op_sub (pv 1) (pe_callH h_l_aim (hr.mono (by first | decide | omega)) (pa_cons (pe_ix (ix_tupK (K := K)) (pv 2) pe_int (fun _ _ => rfl)) pa_nil)))))
    (pss_one (ps_if (pt_cmpR op_eq (pe_ix (ix_tupK (K := K)) (pv 2) pe_int (fun _ _ => rfl)) pe_str (nomark _))
    (pss_one (ps_set (i := 1) sc_l_aim.nd rfl (.inl rfl) (pe_op op_add (pv 1) (pe_ix (ix_tupK (K := K)) (pv 2) pe_int (fun _ _ => rfl)))))
    pss_nil)))))))
    (pss_one (ps_ret (pv 1))))), ?_⟩
    walk_at "go"
    refine u_forPr hx hp (fun r σ H' => ∃ (t : Int) (y : Option V), σ = [some (.ref a), some (.int t), y] ∧ H' = H ∧ Wf BC BC d r ∧ t + r.head = p.head) ?_ ?_ ?_ ?_
    · exact ⟨0, none, rfl, rfl, hw, by omega⟩
    · rintro r σ H' ⟨t, y, rfl, rfl, _⟩
      exact Tk.refl _
    · rintro x r r' σ H' hf ⟨t, y, rfl, rfl, hw', e⟩
      cases r with
      | nil => exact hf.elim
      | step w' n r =>
        obtain ⟨c, rfl, h1, rfl⟩ := hf
        obtain ⟨w1, w2, w3⟩ := WfL.step_iff.mp hw'
        obtain ⟨n1, n2, n3⟩ := word_ne w1
        walk_at "go"
        exact ⟨_, _, rfl, rfl, w3, by rw [← e, Prog.head]⟩
      | turn k' r =>
        obtain ⟨c, rfl, h1, rfl⟩ := hf
        walk_at "go"
        exact ⟨_, _, rfl, rfl, (WfL.turn_iff.mp hw').2, by rw [← e, Prog.head]; omega⟩
      | rep k' b r =>
        obtain ⟨c, q, rfl, h1, h2, rfl⟩ := hf
        cases d with
        | zero => exact hw'.elim
        | succ d =>
          obtain ⟨w1, w2, w3, w4⟩ := hw'
          have mw : CMulW k' b.head := mulW_of (count_bits (by have := BC_one; omega) w1.2) (head_bits w3 (by omega) w2.2)
          walk_at "go"
          refine ⟨q, b, rfl, h2, w3, w2.2, by omega, ?_⟩
          walk_at "go"
          exact ⟨_, _, rfl, rfl, w4, by rw [← e, Prog.head]; omega⟩
      | mir b r =>
        obtain ⟨c, q, rfl, h1, h2, rfl⟩ := hf
        cases d with
        | zero => exact hw'.elim
        | succ d =>
          obtain ⟨w2, w3, w4⟩ := hw'
          walk_at "go"
          refine ⟨q, b, rfl, h2, w3, w2.2, by omega, ?_⟩
          walk_at "go"
          exact ⟨_, _, rfl, rfl, w4, by rw [← e, Prog.head]; omega⟩
    · rintro σ H' ⟨t, y, rfl, rfl, _, e⟩
      walk_at "go"
      rw [Prog.head, Int.add_zero] at e
      rw [e]
      exact k
theorem has_aim {f : Addr} {fd : FuncData} (F : Fun K "_law_aim" "_law_aim" s_l_aim f fd) (g : mg "_law_aim" = some (.ref f)) (b : Binds K fd ["_law_piece"] []) : ∀ d, Has P w K mg base "_law_aim" d ["_law_piece"] (spNumLt Prog.head d)
  | 0 => has_false g F.kp b
  | d + 1 => ⟨f, fd, ok_l_aim d F (has_aim F g b d), g, F.kp, b⟩
end

set_option Elab.async false
set_option linter.all false
set_option maxRecDepth 100000
set_option maxHeartbeats 4000000

open PySem PySem.Spec PyProof.Rows L2
section
variable {P : Program} {w : World} {K : PySem.W.Frag} {mg : Str → Option Value} {base : Heap}

def spUnLt : Nat → Sp
  | 0 => fun _ _ _ _ => False
  | d + 1 => fun vs H Q _ => ∃ (a : Addr) (p : Prog) (s : Int), vs = [.ref a, .int s] ∧ (s = 1 ∨ s = -1) ∧ PrIs H a p ∧ Wf BC BC d p ∧ p.size ≤ 4000000 ∧
    ∀ l xs H', H l = none → Same H H' → H' l = some (.lst xs) → PrAt H' (Prog.unroll s p) xs → Q (.ref l) H'
theorem ok_l_unroll {f : Addr} {fd : FuncData} (d : Nat) (F : Fun K "_law_unroll" "_law_unroll" s_l_unroll f fd) (B : Bl mg) (h_l_unroll : Has P w K mg base "_law_unroll" d ["_law_piece", "_law_sign"] (spUnLt d)) : FnOk P w K mg base CX0 (d + 1) f fd ["_law_piece", "_law_sign"] (spUnLt (d + 1)) := by
  refine F.ok sc_l_unroll (fun vs H Q E h => ?_) (fun cdv A outer s H vs Q E hr h => ?_)
  · obtain ⟨a, p, s, rfl, _⟩ := h
    rfl
  · obtain ⟨a, p, sg, rfl, hsg, ⟨xs, hx, hp⟩, hw, hsz, k⟩ := h
    refine ⟨_, (pss_cons (ps_set (i := 2) sc_l_unroll.nd rfl (.inl rfl) (pe_lst pa_nil))
    (pss_cons (ps_for PassesOwn.never rfl (pi_tup (pv 0)) (pg_name (i := 3) sc_l_unroll.nd rfl (.inl rfl))
    (pss_one (ps_if (pt_cmpR op_eq (pe_ix (ix_tupK (K := K)) (pv 3) pe_int (fun _ _ => rfl)) pe_str (nomark _))
    (pss_cons (ps_set (i := 4) sc_l_unroll.nd rfl (.inl rfl) (pe_callH h_l_unroll (hr.mono (by first | decide | omega)) (pa_cons (pe_ix (ix_tupK (K := K)) (pv 3) pe_int (fun _ _ => rfl)) (pa_cons (pv 1) pa_nil))))
    (pss_one (ps_for PassesOwn.never rfl (pi_range1 (by rfl) B.b_range (pa_cons (pe_ix (ix_tupK (K := K)) (pv 3) pe_int (fun _ _ => rfl)) pa_nil)) (pg_name (i := 5) sc_l_unroll.nd rfl (.inl rfl))
    (pss_one (ps_expr (pe_bm PySem.F.plainAttrs_list PySem.F.slot_list_extend PySem.F.type_list_extend mt_extend (pv 2) (pa_cons (pv 4) pa_nil)))))))
    (pss_one (ps_if (pt_cmpR op_eq (pe_ix (ix_tupK (K := K)) (pv 3) pe_int (fun _ _ => rfl)) pe_str (nomark _))
    (pss_one (ps_expr (pe_bm PySem.F.plainAttrs_list PySem.F.slot_list_extend PySem.F.type_list_extend mt_extend (pv 2) (pa_cons (pe_callH h_l_unroll (hr.mono (by first | decide | omega)) (pa_cons (pe_ix (ix_tupK (K := K)) (pv 3) pe_int (fun _ _ => rfl)) (pa_cons (pe_un un_neg (pv 1)) pa_nil))) pa_nil))))
    (pss_one (ps_if (pt_cmpR op_eq (pe_ix (ix_tupK (K := K)) (pv 3) pe_int (fun _ _ => rfl)) pe_str (nomark _))
    (pss_one (ps_expr (pe_bm PySem.F.plainAttrs_list PySem.F.slot_list_append PySem.F.type_list_append mt_append (pv 2) (pa_cons (pe_tup (pa_cons pe_str (pa_cons (pe_op op_mul (pv 1) (pe_ix (ix_tupK (K := K)) (pv 3) pe_int (fun _ _ => rfl))) pa_nil))) pa_nil))))
    (pss_one (ps_expr (pe_bm PySem.F.plainAttrs_list PySem.F.slot_list_append PySem.F.type_list_append mt_append (pv 2) (pa_cons (pv 3) pa_nil)))))))))))
    (pss_one (ps_ret (pv 2))))), ?_⟩
    walk_at "go"
    intro m nm
    walk_at "go"
    have hx0 : upd H m (.lst []) a = some (.tup xs) := h_keep hx nm
    have t0 : Tk H (upd H m (.lst [])) := (Tk.refl H).new nm
    refine u_forPr hx0 (hp.tk t0) (fun r σ H' => ∃ (u : Prog) (ys : List V) (y3 y4 y5 : Option V), σ = [some (.ref a), some (.int sg), some (.ref m), y3, y4, y5] ∧ Wf BC BC d r ∧ u.app (Prog.unroll sg r) = Prog.unroll sg p ∧ (u.len : Int) + r.size = p.size ∧ Same H H' ∧ Tk (upd H m (.lst [])) H' ∧ H' m = some (.lst ys) ∧ PrAt H' u ys) ?_ ?_ ?_ ?_
    · exact ⟨.nil, [], none, none, none, rfl, hw, rfl, by rw [Prog.len]; omega, Same.new0 nm, Tk.refl _, upd_same, rfl⟩
    · rintro r σ H' ⟨u, ys, y3, y4, y5, rfl, _, _, _, _, t, _⟩
      exact t
    · rintro x r r' σ H' hf ⟨u, ys, y3, y4, y5, rfl, hw', eu, es, sm, tk, hm, hu⟩
      have yl : ys.length = u.len := hu.length
      cases r with
      | nil => exact hf.elim
      | step w' n r =>
        obtain ⟨c, rfl, h1, rfl⟩ := hf
        obtain ⟨w1, w2, w3⟩ := WfL.step_iff.mp hw'
        obtain ⟨n1, n2, n3⟩ := word_ne w1
        rw [Prog.size] at es
        have r0 := Prog.size_nonneg w3
        walk_at "go"
        refine r_appendB hm (by omega) ?_
        have t1 : Tk H' (upd H' m (.lst (ys ++ [.ref c]))) := (Tk.refl _).lst hm
        refine ⟨u.app (.step w' n .nil), _, _, _, _, rfl, w3, ?_, ?_, Same.put sm nm, tk.trans t1, upd_same, (hu.tk t1).app ⟨c, [], rfl, t1 _ _ h1, rfl⟩⟩
        · rw [← eu, Prog.app_assoc, Prog.unroll]; rfl
        · rw [Prog.len_app]; show ((u.len + 1 : Nat) : Int) + _ = _; omega
      | turn k' r =>
        obtain ⟨c, rfl, h1, rfl⟩ := hf
        obtain ⟨w1, w3⟩ := WfL.turn_iff.mp hw'
        rw [Prog.size] at es
        have r0 := Prog.size_nonneg w3
        have msg : CMul sg k' := .inl ⟨by omega, by omega⟩
        walk_at "go"
        intro c2 nc2
        walk_at "go"
        refine r_appendB (h_keep hm nc2) (by omega) ?_
        have ncm : c2 ≠ m := (ne_of_none hm nc2).symm
        have t1 : Tk H' (upd (upd H' c2 (.tup [.str "turn", .int (sg * k')])) m (.lst (ys ++ [.ref c2]))) := ((Tk.refl _).new nc2).lst (h_keep hm nc2)
        refine ⟨u.app (.turn (sg * k') .nil), _, _, _, _, rfl, w3, ?_, ?_, Same.put (Same.new sm nc2) nm, tk.trans t1, upd_same, (hu.tk t1).app ⟨c2, [], rfl, (upd_ne ncm).trans upd_same, rfl⟩⟩
        · rw [← eu, Prog.app_assoc, Prog.unroll]; rfl
        · rw [Prog.len_app]; show ((u.len + 1 : Nat) : Int) + _ = _; omega
      | rep k' b r =>
        obtain ⟨c, q, rfl, h1, h2, rfl⟩ := hf
        cases d with
        | zero => exact hw'.elim
        | succ d =>
          obtain ⟨w1, w2, w3, w4⟩ := hw'
          rw [Prog.size] at es
          have r0 := Prog.size_nonneg w4
          have b0 := Prog.size_nonneg w3
          have b1 : 1 * b.size ≤ k' * b.size := Int.mul_le_mul_of_nonneg_right w1.1 b0
          have bl := Prog.len_le_size w3
          have kk : k' * 1 ≤ k' * b.size := Int.mul_le_mul_of_nonneg_left (by omega) (by omega)
          walk_at "go"
          refine ⟨q, b, sg, rfl, hsg, h2, w3, by omega, fun l zs H2 nl s2 hl hz => ?_⟩
          have zl : zs.length = (Prog.unroll sg b).len := hz.length
          have ul := Prog.len_unroll sg w3
          have nlm : l ≠ m := (ne_of_none hm nl).symm
          walk_at "go"
          refine u_for1 ?_ (fun i σ H3 => ∃ (u3 : Prog) (y5 : Option V) (vs : List V), σ = [some (.ref a), some (.int sg), some (.ref m), some (.ref c), some (.ref l), y5] ∧ u3 = u.app (Prog.times i (Prog.unroll sg b)) ∧ Same H H3 ∧ Tk H2 H3 ∧ H3 l = some (.lst zs) ∧ H3 m = some (.lst vs) ∧ PrAt H3 u3 vs) ?_ ?_ ?_
          · omega
          · exact ⟨u, _, ys, rfl, by rw [Prog.times, Prog.app_nil], sm.trans s2, Tk.refl _, hl, s2 _ _ hm, hu.tk (Tk.same s2)⟩
          · rintro i σ H3 hi ⟨u3, y5, vs, rfl, e3, s3, t3, hl3, hm3, hu3⟩
            have vl : vs.length = u3.len := hu3.length
            have i1 : (i : Int) * b.size ≤ k' * b.size := Int.mul_le_mul_of_nonneg_right (by omega) b0
            have ib : ((i * (Prog.unroll sg b).len : Nat) : Int) = (i : Int) * b.size := by rw [Int.natCast_mul, ul]
            rw [e3, Prog.len_app, Prog.len_times] at vl
            walk_at "go"
            refine r_extend hm3 hl3 (by omega) ?_
            have t4 : Tk H3 (upd H3 m (.lst (vs ++ zs))) := (Tk.refl _).lst hm3
            refine ⟨u.app (Prog.times (i + 1) (Prog.unroll sg b)), _, _, rfl, rfl, Same.put s3 nm, t3.trans t4, (upd_ne nlm).trans hl3, upd_same, ?_⟩
            have hz4 := hz.tk (t3.trans t4)
            have := (hu3.tk t4).app hz4
            rw [e3, Prog.app_assoc] at this
            rw [show Prog.times (i + 1) (Prog.unroll sg b) = (Prog.times i (Prog.unroll sg b)).app (Prog.unroll sg b) from Prog.times_succ _ _]
            exact this
          · rintro σ H3 ⟨u3, y5, vs, rfl, e3, s3, t3, hl3, hm3, hu3⟩
            refine ⟨u3, vs, _, _, _, rfl, w4, ?_, ?_, s3, tk.trans ((Tk.same s2).trans t3), hm3, hu3⟩
            · rw [e3, ← eu, Prog.app_assoc, Prog.unroll]
            · rw [e3, Prog.len_app, Prog.len_times, Int.natCast_add, Int.natCast_mul, ul, Int.toNat_of_nonneg (by omega)]
              omega
      | mir b r =>
        obtain ⟨c, q, rfl, h1, h2, rfl⟩ := hf
        cases d with
        | zero => exact hw'.elim
        | succ d =>
          obtain ⟨w2, w3, w4⟩ := hw'
          rw [Prog.size] at es
          have r0 := Prog.size_nonneg w4
          have b0 := Prog.size_nonneg w3
          walk_at "go"
          refine ⟨q, b, -sg, rfl, by omega, h2, w3, by omega, fun l zs H2 nl s2 hl hz => ?_⟩
          have zl : zs.length = (Prog.unroll (-sg) b).len := hz.length
          have ul := Prog.len_unroll (-sg) w3
          have hm2 := s2 _ _ hm
          walk_at "go"
          refine r_extend hm2 hl (by omega) ?_
          have t4 : Tk H2 (upd H2 m (.lst (ys ++ zs))) := (Tk.refl _).lst hm2
          refine ⟨u.app (Prog.unroll (-sg) b), _, _, _, _, rfl, w4, ?_, ?_, Same.put (sm.trans s2) nm, tk.trans ((Tk.same s2).trans t4), upd_same, (hu.tk ((Tk.same s2).trans t4)).app (hz.tk t4)⟩
          · rw [← eu, Prog.app_assoc, Prog.unroll]
          · rw [Prog.len_app]; omega
    · rintro σ H' ⟨u, ys, y3, y4, y5, rfl, hw', eu, es, sm, tk, hm, hu⟩
      rw [Prog.unroll, Prog.app_nil] at eu
      subst eu
      walk_at "go"
      exact k m ys _ nm sm hm hu
theorem has_unroll {f : Addr} {fd : FuncData} (F : Fun K "_law_unroll" "_law_unroll" s_l_unroll f fd) (B : Bl mg) (g : mg "_law_unroll" = some (.ref f)) (b : Binds K fd ["_law_piece", "_law_sign"] []) : ∀ d, Has P w K mg base "_law_unroll" d ["_law_piece", "_law_sign"] (spUnLt d)
  | 0 => has_false g F.kp b
  | d + 1 => ⟨f, fd, ok_l_unroll d F B (has_unroll F B g b d), g, F.kp, b⟩
end

set_option Elab.async false
set_option linter.all false
set_option maxRecDepth 100000
set_option maxHeartbeats 4000000

open PySem PySem.Spec PyProof.Rows L2
section
variable {P : Program} {w : World} {K : PySem.W.Frag} {mg : Str → Option Value} {base : Heap}

local macro_rules | `(tactic| walk_at "s") => `(tactic| (first
  | (with_reducible refine r_callD ?_)
  | (with_reducible refine r_abs ?_)
  ))
theorem ok_plain_row {f : Addr} {fd : FuncData} (d : Nat) {dvs : List V} {kws : List (Str × V)} (F : FunD K "plain_row" "plain_row" (defArgs s_plain_row) (defBody s_plain_row) (defScope s_plain_row) dvs kws f fd) (h_plain_row : Has P w K mg base "plain_row" d ["program", "sign"] (spUnLt d)) : FnOk P w K mg base CX0 (d + 1) f fd ["program", "sign"] (spUnLt (d + 1)) := by
  refine okD F sc_plain_row (fun vs H Q E h => ?_) (fun cdv A outer s H vs Q E hr h => ?_)
  · obtain ⟨a, p, s, rfl, _⟩ := h
    rfl
  · obtain ⟨a, p, sg, rfl, hsg, ⟨xs, hx, hp⟩, hw, hsz, k⟩ := h
    refine ⟨_, (pss_cons (ps_set (i := 2) sc_plain_row.nd rfl (.inl rfl) (pe_lst pa_nil))
    (pss_cons (ps_for PassesOwn.never rfl (pi_tup (pv 0)) (pg_name (i := 3) sc_plain_row.nd rfl (.inl rfl))
    (pss_one (ps_if (pt_cmpR op_eq (pe_ix (ix_tupK (K := K)) (pv 3) pe_int (fun _ _ => rfl)) pe_str (nomark _))
    (pss_one (ps_expr (pe_bm PySem.F.plainAttrs_list PySem.F.slot_list_extend PySem.F.type_list_extend mt_extend (pv 2) (pa_cons (pe_op op_rep (pe_callH h_plain_row (hr.mono (by first | decide | omega)) (pa_cons (pe_ix (ix_tupK (K := K)) (pv 3) pe_int (fun _ _ => rfl)) (pa_cons (pv 1) pa_nil))) (pe_ix (ix_tupK (K := K)) (pv 3) pe_int (fun _ _ => rfl))) pa_nil))))
    (pss_one (ps_if (pt_cmpR op_eq (pe_ix (ix_tupK (K := K)) (pv 3) pe_int (fun _ _ => rfl)) pe_str (nomark _))
    (pss_one (ps_expr (pe_bm PySem.F.plainAttrs_list PySem.F.slot_list_extend PySem.F.type_list_extend mt_extend (pv 2) (pa_cons (pe_callH h_plain_row (hr.mono (by first | decide | omega)) (pa_cons (pe_ix (ix_tupK (K := K)) (pv 3) pe_int (fun _ _ => rfl)) (pa_cons (pe_un un_neg (pv 1)) pa_nil))) pa_nil))))
    (pss_one (ps_if (pt_cmpR op_eq (pe_ix (ix_tupK (K := K)) (pv 3) pe_int (fun _ _ => rfl)) pe_str (nomark _))
    (pss_one (ps_expr (pe_bm PySem.F.plainAttrs_list PySem.F.slot_list_append PySem.F.type_list_append mt_append (pv 2) (pa_cons (pe_tup (pa_cons pe_str (pa_cons (pe_op op_mul (pv 1) (pe_ix (ix_tupK (K := K)) (pv 3) pe_int (fun _ _ => rfl))) pa_nil))) pa_nil))))
    (pss_one (ps_expr (pe_bm PySem.F.plainAttrs_list PySem.F.slot_list_append PySem.F.type_list_append mt_append (pv 2) (pa_cons (pv 3) pa_nil)))))))))))
    (pss_one (ps_ret (pv 2))))), ?_⟩
    walk_at "go"
    intro m nm
    walk_at "go"
    have hx0 : upd H m (.lst []) a = some (.tup xs) := h_keep hx nm
    have t0 : Tk H (upd H m (.lst [])) := (Tk.refl H).new nm
    refine u_forPr hx0 (hp.tk t0) (fun r σ H' => ∃ (u : Prog) (ys : List V) (y3 : Option V), σ = [some (.ref a), some (.int sg), some (.ref m), y3] ∧ Wf BC BC d r ∧ u.app (Prog.unroll sg r) = Prog.unroll sg p ∧ (u.len : Int) + r.size = p.size ∧ Same H H' ∧ Tk (upd H m (.lst [])) H' ∧ H' m = some (.lst ys) ∧ PrAt H' u ys) ?_ ?_ ?_ ?_
    · exact ⟨.nil, [], none, rfl, hw, rfl, by rw [Prog.len]; omega, Same.new0 nm, Tk.refl _, upd_same, rfl⟩
    · rintro r σ H' ⟨u, ys, y3, rfl, _, _, _, _, t, _⟩
      exact t
    · rintro x r r' σ H' hf ⟨u, ys, y3, rfl, hw', eu, es, sm, tk, hm, hu⟩
      have yl : ys.length = u.len := hu.length
      cases r with
      | nil => exact hf.elim
      | step w' n r =>
        obtain ⟨c, rfl, h1, rfl⟩ := hf
        obtain ⟨w1, w2, w3⟩ := WfL.step_iff.mp hw'
        obtain ⟨n1, n2, n3⟩ := word_ne w1
        rw [Prog.size] at es
        have r0 := Prog.size_nonneg w3
        walk_at "go"
        refine r_appendB hm (by omega) ?_
        have t1 : Tk H' (upd H' m (.lst (ys ++ [.ref c]))) := (Tk.refl _).lst hm
        refine ⟨u.app (.step w' n .nil), _, _, rfl, w3, ?_, ?_, Same.put sm nm, tk.trans t1, upd_same, (hu.tk t1).app ⟨c, [], rfl, t1 _ _ h1, rfl⟩⟩
        · rw [← eu, Prog.app_assoc, Prog.unroll]; rfl
        · rw [Prog.len_app]; show ((u.len + 1 : Nat) : Int) + _ = _; omega
      | turn k' r =>
        obtain ⟨c, rfl, h1, rfl⟩ := hf
        obtain ⟨w1, w3⟩ := WfL.turn_iff.mp hw'
        rw [Prog.size] at es
        have r0 := Prog.size_nonneg w3
        have msg : CMul sg k' := .inl ⟨by omega, by omega⟩
        walk_at "go"
        intro c2 nc2
        walk_at "go"
        refine r_appendB (h_keep hm nc2) (by omega) ?_
        have ncm : c2 ≠ m := (ne_of_none hm nc2).symm
        have t1 : Tk H' (upd (upd H' c2 (.tup [.str "turn", .int (sg * k')])) m (.lst (ys ++ [.ref c2]))) := ((Tk.refl _).new nc2).lst (h_keep hm nc2)
        refine ⟨u.app (.turn (sg * k') .nil), _, _, rfl, w3, ?_, ?_, Same.put (Same.new sm nc2) nm, tk.trans t1, upd_same, (hu.tk t1).app ⟨c2, [], rfl, (upd_ne ncm).trans upd_same, rfl⟩⟩
        · rw [← eu, Prog.app_assoc, Prog.unroll]; rfl
        · rw [Prog.len_app]; show ((u.len + 1 : Nat) : Int) + _ = _; omega
      | rep k' b r =>
        obtain ⟨c, q, rfl, h1, h2, rfl⟩ := hf
        cases d with
        | zero => exact hw'.elim
        | succ d =>
          obtain ⟨w1, w2, w3, w4⟩ := hw'
          rw [Prog.size] at es
          have r0 := Prog.size_nonneg w4
          have b0 := Prog.size_nonneg w3
          have b1 : 1 * b.size ≤ k' * b.size := Int.mul_le_mul_of_nonneg_right w1.1 b0
          have bl := Prog.len_le_size w3
          have kk : k' * 1 ≤ k' * b.size := Int.mul_le_mul_of_nonneg_left (by omega) (by omega)
          walk_at "go"
          refine ⟨q, b, sg, rfl, hsg, h2, w3, by omega, fun l zs H2 nl s2 hl hz => ?_⟩
          have zl : zs.length = (Prog.unroll sg b).len := hz.length
          have ul := Prog.len_unroll sg w3
          have hm2 := s2 _ _ hm
          have kb : ((zs.length * k'.toNat : Nat) : Int) = k' * b.size := by rw [Int.natCast_mul, Int.toNat_of_nonneg (by omega), zl, ul, Int.mul_comm]
          walk_at "go"
          refine r_rep hl (by omega) (by omega) (by omega) fun l2 nl2 => ?_
          have nl2m : l2 ≠ m := (ne_of_none hm2 nl2).symm
          have fl : (List.replicate k'.toNat zs).flatten.length = (Prog.times k'.toNat (Prog.unroll sg b)).len := (hz.times _).length
          have fl2 : (List.replicate k'.toNat zs).flatten.length = zs.length * k'.toNat := by rw [fl, Prog.len_times, zl, Nat.mul_comm]
          walk_at "go"
          refine r_extend (h_keep hm2 nl2) upd_same (by omega) ?_
          have t4 : Tk H2 (upd (upd H2 l2 (.lst (List.replicate k'.toNat zs).flatten)) m (.lst (ys ++ (List.replicate k'.toNat zs).flatten))) := ((Tk.refl H2).new nl2).lst (h_keep hm2 nl2)
          refine ⟨u.app (Prog.times k'.toNat (Prog.unroll sg b)), _, _, rfl, w4, ?_, ?_, Same.put (Same.new (sm.trans s2) nl2) nm, tk.trans ((Tk.same s2).trans t4), upd_same, (hu.tk ((Tk.same s2).trans t4)).app ((hz.times _).tk t4)⟩
          · rw [← eu, Prog.app_assoc, Prog.unroll]
          · rw [Prog.len_app, ← fl, fl2, Int.natCast_add]; omega
      | mir b r =>
        obtain ⟨c, q, rfl, h1, h2, rfl⟩ := hf
        cases d with
        | zero => exact hw'.elim
        | succ d =>
          obtain ⟨w2, w3, w4⟩ := hw'
          rw [Prog.size] at es
          have r0 := Prog.size_nonneg w4
          have b0 := Prog.size_nonneg w3
          walk_at "go"
          refine ⟨q, b, -sg, rfl, by omega, h2, w3, by omega, fun l zs H2 nl s2 hl hz => ?_⟩
          have zl : zs.length = (Prog.unroll (-sg) b).len := hz.length
          have ul := Prog.len_unroll (-sg) w3
          have hm2 := s2 _ _ hm
          walk_at "go"
          refine r_extend hm2 hl (by omega) ?_
          have t4 : Tk H2 (upd H2 m (.lst (ys ++ zs))) := (Tk.refl _).lst hm2
          refine ⟨u.app (Prog.unroll (-sg) b), _, _, rfl, w4, ?_, ?_, Same.put (sm.trans s2) nm, tk.trans ((Tk.same s2).trans t4), upd_same, (hu.tk ((Tk.same s2).trans t4)).app (hz.tk t4)⟩
          · rw [← eu, Prog.app_assoc, Prog.unroll]
          · rw [Prog.len_app]; omega
    · rintro σ H' ⟨u, ys, y3, rfl, hw', eu, es, sm, tk, hm, hu⟩
      rw [Prog.unroll, Prog.app_nil] at eu
      subst eu
      walk_at "go"
      exact k m ys _ nm sm hm hu
theorem has_plain_row {f : Addr} {fd : FuncData} {dvs : List V} {kws : List (Str × V)} (F : FunD K "plain_row" "plain_row" (defArgs s_plain_row) (defBody s_plain_row) (defScope s_plain_row) dvs kws f fd) (g : mg "plain_row" = some (.ref f)) (b : Binds K fd ["program", "sign"] []) : ∀ d, Has P w K mg base "plain_row" d ["program", "sign"] (spUnLt d)
  | 0 => has_false g F.kp b
  | d + 1 => ⟨f, fd, ok_plain_row d F (has_plain_row F g b d), g, F.kp, b⟩
def spShort : Sp := fun vs H Q _ => ∃ a p, vs = [.ref a] ∧ PrIs H a p ∧ Wf BC BC 12 p ∧ p.len ≤ 4000 ∧ ∀ H', Same H H' → Q (.bl p.short) H'
theorem ok_raw_is_short {f : Addr} {fd : FuncData} {tMC tMH : Tok} (F : Fun K "raw_is_short" "raw_is_short" s_raw_is_short f fd) (B : Bl mg) (bA : mg "abs" = none) (gMC : mg "MOST_COMMANDS" = some (.int 200 tMC)) (gMH : mg "MOST_HEADING" = some (.int 12 tMH))
    (h_raw_size : Has P w K mg base "raw_size" 13 ["program"] (spNumLt Prog.size 13)) (hd_plain_row : HasD P w K mg base "plain_row" 13 ["program", "sign"] (spUnLt 13) [.int 1]) : FnOk P w K mg base CX0 14 f fd ["program"] spShort := by
  refine F.ok sc_raw_is_short (fun vs H Q E h => ?_) (fun cdv A outer s H vs Q E hr h => ?_)
  · obtain ⟨a, p, rfl, _⟩ := h
    rfl
  · obtain ⟨a, p, rfl, hp, hw, l1, k⟩ := h
    refine ⟨_, (pss_cons (ps_if (pt_cmpR op_gt (pe_callH h_raw_size (hr.mono (by first | decide | omega)) (pa_cons (pv 0) pa_nil)) (pe_glob (v := .int 200) rfl gMC ⟨_, rfl⟩) (nomark _))
    (pss_one (ps_ret pe_bl))
    pss_nil)
    (pss_cons (ps_set (i := 1) sc_raw_is_short.nd rfl (.inl rfl) pe_int)
    (pss_cons (ps_for PassesOwn.never rfl (pi_list (pe_callHD hd_plain_row (hr.mono (by first | decide | omega)) (pa_cons (pv 0) pa_nil))) (pg_name (i := 2) sc_raw_is_short.nd rfl (.inl rfl))
    (pss_one (ps_if (pt_cmpR op_eq (pe_ix (ix_tupK (K := K)) (pv 2) pe_int (fun _ _ => rfl)) pe_str (nomark _))
    (pss_cons (ps_aug (i := 1) sc_raw_is_short.nd rfl (.inl rfl) (pe_ix (ix_tupK (K := K)) (pv 2) pe_int (fun _ _ => rfl)) ip_add)
    (pss_one (ps_if (pt_cmpR op_gt (pe_callB call_absA (by rfl) bA (by decide +kernel) (pa_cons (pv 1) pa_nil)) (pe_glob (v := .int 12) rfl gMH ⟨_, rfl⟩) (nomark _))
    (pss_one (ps_ret pe_bl))
    pss_nil)))
    pss_nil)))
    (pss_one (ps_ret pe_bl))))), ?_⟩
    walk_at "go"
    refine ⟨a, p, rfl, hp, hw, l1, by decide, ?_⟩
    walk_at "go"
    refine r_iteD (fun hz => ?_) (fun hz => ?_)
    · walk_at "go"
      have := k H (Same.refl _)
      rw [Prog.short, if_pos hz] at this
      exact this
    · walk_at "go"
      refine ⟨a, p, 1, rfl, .inl rfl, hp, hw, by omega, fun l xs H1 nl s1 hl hu => ?_⟩
      walk_at "go"
      have wu : Wf BC BC 0 (Prog.unroll 1 p) := Prog.wf_unroll (.inl rfl) hw
      refine u_forPrL hl hu (fun r σ H' => ∃ (n : Int) (y : Option V), σ = [some (.ref a), some (.int n), y] ∧ H' = H1 ∧ Wf BC BC 0 r ∧ Prog.wayOk n r = p.short) ?_ ?_ ?_ ?_
      · exact ⟨0, none, rfl, rfl, wu, by rw [Prog.short, if_neg hz]⟩
      · rintro r σ H' ⟨n, y, rfl, rfl, _⟩
        exact ⟨Tk.refl _, hl⟩
      · rintro x r r' σ H' hf ⟨n, y, rfl, rfl, wr, e⟩
        cases r with
        | nil => exact hf.elim
        | step w' n' r =>
          obtain ⟨c, rfl, h1, rfl⟩ := hf
          obtain ⟨w1, w2, w3⟩ := WfL.step_iff.mp wr
          obtain ⟨n1, n2, n3⟩ := word_ne w1
          walk_at "go"
          exact ⟨_, _, rfl, rfl, w3, by rw [← e, Prog.wayOk]⟩
        | turn k' r =>
          obtain ⟨c, rfl, h1, rfl⟩ := hf
          walk_at "go"
          rw [Prog.wayOk] at e
          refine r_iteD (fun hc => ?_) (fun hc => ?_)
          · walk_at "go"
            have := k H' s1
            rw [← e, if_pos (by split at hc <;> omega)] at this
            exact this
          · walk_at "go"
            rw [if_neg (by split at hc <;> omega)] at e
            exact ⟨_, _, rfl, rfl, (WfL.turn_iff.mp wr).2, e⟩
        | rep k' b r => exact wr.elim
        | mir b r => exact wr.elim
      · rintro σ H' ⟨n, y, rfl, rfl, _, e⟩
        walk_at "go"
        rw [Prog.wayOk] at e
        have := k H' s1
        rw [← e] at this
        exact this
end

set_option Elab.async false
set_option linter.all false
set_option maxRecDepth 100000
set_option maxHeartbeats 8000000
set_option pp.deepTerms false
set_option pp.deepTerms.threshold 12
set_option pp.maxSteps 1200

open PySem PySem.Spec PyProof.Rows L2
/-- a right program, checked for its size and its headings: NotShort with the size, or nothing -/
def spCheckShX (A : Addr) : Sp := fun vs H Q E => ∃ a p, vs = [.ref a] ∧ PrIs H a p ∧ Wf BC BC 12 p ∧ p.len ≤ 4000 ∧ ((p.short = true ∧ ∀ H', Same H H' → Q .non H') ∨
  (p.short = false ∧ ∀ d H', H d = none → Same H H' → H' d = some (.xd [("amount", .int p.size)]) → E (.ref A) (some d) H'))
section
variable {P : Program} {w : World} {K : PySem.W.Frag} {mg : Str → Option Value} {base : Heap} {A_InvalidProgram A_NotShort : Addr}

local macro_rules | `(tactic| walk_at "s") => `(tactic| (first
  | (with_reducible refine r_callX ?_)
  | (with_reducible refine r_callXK ?_)
  | (with_reducible refine r_mkO ?_)
  ))
theorem ok_NotShort_init {f : Addr} {fd : FuncData} (oex : OexC K A_NotShort) (no : PySem.W.findIn K (.ref A_NotShort) "amount" = some none) (F : Fun K "__init__" "NotShort.__init__" s_NotShort___init__ f fd) : FnOk P w K mg base CX0 1 f fd ["self", "amount"] (spIni A_NotShort "amount") := by
  refine F.ok sc_NotShort___init__ (fun vs H Q E h => ?_) (fun cdv A outer s H vs Q E hr h => ?_)
  · obtain ⟨a, v, rfl, _⟩ := h
    rfl
  · obtain ⟨a, v, rfl, ha, k⟩ := h
    refine ⟨_, (pss_one (ps_ost (pv 0) (pv 1))), ?_⟩
    refine r_var rfl ?_
    refine r_var rfl ?_
    refine ⟨a, A_NotShort, rfl, oex, no, .inl ⟨ha, fun dx ndx ne => ?_⟩⟩
    exact k dx ndx ne
theorem ok_check_shortX {f : Addr} {fd : FuncData} (F : Fun K "check_short" "check_short" s_check_short f fd) (XI_NotShort : OwnI P w K mg base "NotShort" A_NotShort "amount") (h_raw_is_short : Has P w K mg base "raw_is_short" 14 ["program"] spShort) (h_raw_size : Has P w K mg base "raw_size" 13 ["program"] (spNumLt Prog.size 13)) : FnOk P w K mg base (L2.CX P w) 15 f fd ["program"] (spCheckShX A_NotShort) := by
  refine F.okX sc_check_short (fun vs H Q E h => ?_) (fun cdv A outer s H vs Q E hr h => ?_)
  · obtain ⟨a, p, rfl, _⟩ := h
    rfl
  · obtain ⟨a, p, rfl, hp, hw, hl, h⟩ := h
    refine ⟨_, (pss_one (ps_if (pt_not (pt_val (pe_callH h_raw_is_short (hr.mono (by first | decide | omega)) (pa_cons (pv 0) pa_nil))))
    (pss_one (ps_raise rfl (takes_of rfl rfl rfl rfl) (pmk_ownI XI_NotShort (hr.mono (by first | decide | omega)) (pa_cons (pe_callH h_raw_size (hr.mono (by first | decide | omega)) (pa_cons (pv 0) pa_nil)) pa_nil))))
    pss_nil)), ?_⟩
    walk_at "go"
    refine ⟨a, p, rfl, hp, hw, hl, fun H1 s1 => ?_⟩
    rcases h with ⟨e, k⟩ | ⟨e, k⟩
    · rw [e]
      walk_at "go"
      exact k H1 s1
    · rw [e]
      walk_at "go"
      refine ⟨a, p, rfl, hp.tk (Tk.same s1), hw, hl, by decide, ?_⟩
      walk_at "go"
      refine u_mkI fun d H2 nd s2 hd => ?_
      exact k d H2 (free_same s1 nd) (s1.trans s2) hd
end

set_option Elab.async false
set_option linter.all false
set_option maxRecDepth 100000
set_option maxHeartbeats 4000000
set_option pp.deepTerms false
set_option pp.deepTerms.threshold 12
set_option pp.maxSteps 1200

open PySem PySem.Spec PyProof.Rows L2 RT
def spRawSteps : Sp := fun vs H Q _ => ∃ a p, vs = [.ref a] ∧ PrIs H a p ∧ Wf BC BC 12 p ∧ p.size ≤ 4000 ∧
  ∀ r l xs H', H l = none → Same H H' → H' r = some (.tup [.int p.head, .ref l]) → H' l = some (.lst xs) → Each (StpC H') xs (Prog.stps 0 (Prog.unroll 1 p)) → Q (.ref r) H'
/-- the program's table of steps -/
structure StepsV (K : PySem.W.Frag) (w : World) (mg : Str → Option Value) : Prop where
  ex : ∃ d, mg "STEPS" = some (.ref d) ∧ ∀ x : Str, IsWord x → KDct K w d x (.int (stepSign x))
def spAddStep : Sp := fun vs H Q _ => ∃ (s t : Addr) (H0 : Hp) (N : Nat) (c : Str → Int → Int) (ws : List (Str × Addr)) (st : Stp), vs = [.ref s, .ref t] ∧ Spot H0 H s N c ws ∧ N ≤ 100000 ∧ H t = some (.tup [.str st.1, .str st.2.1, .int st.2.2]) ∧ IsWord st.1 ∧ IsName st.2.1 ∧
  ∀ ws' H', Spot H0 H' s (N + 1) (bump c st) ws' → Std H H' → Q .non H'
section
variable {P : Program} {w : World} {K : PySem.W.Frag} {mg : Str → Option Value} {base : Heap}

local macro_rules | `(tactic| walk_at "s") => `(tactic| (first
  | (with_reducible refine r_dnew ?_)
  | (with_reducible refine r_dget2 ?_)
  | (with_reducible refine r_dget ?_)
  | (with_reducible refine r_dput ?_)
  | (with_reducible refine r_dsetd ?_)
  | ((with_reducible refine JarAt.isD (n := ?nn) (c := ?cc) ?hh ?_); (case hh => assumption))
  ))

theorem r_ixKv {p : Addr} {z : Str} {v : V} {H : Hp} {Q : VK} (h : KDct K w p z v) (q : Q v H) : rIxD K w (.ref p) (.str z) H Q := ⟨p, z, v, rfl, rfl, h, q⟩
local macro_rules | `(tactic| walk_at "s") => `(tactic| (first
  | (with_reducible refine r_callD ?_)
  | ((with_reducible refine r_ixKv (v := ?vv) ?cc ?_); (case cc => assumption))
  ))
theorem ok_raw_steps {f : Addr} {fd : FuncData} (F : Fun K "raw_steps" "raw_steps" s_raw_steps f fd) (B : Bl mg) (hd_plain_row : HasD P w K mg base "plain_row" 13 ["program", "sign"] (spUnLt 13) [.int 1]) : FnOk P w K mg base CX0 14 f fd ["program"] spRawSteps := by
  refine F.ok sc_raw_steps (fun vs H Q E h => ?_) (fun cdv A outer s H vs Q E hr h => ?_)
  · obtain ⟨a, p, rfl, _⟩ := h
    rfl
  · obtain ⟨a, p, rfl, hq, hw, hz, k⟩ := h
    refine ⟨_, (pss_cons (ps_set (i := 1) sc_raw_steps.nd rfl (.inl rfl) pe_int)
    (pss_cons (ps_set (i := 2) sc_raw_steps.nd rfl (.inl rfl) (pe_lst pa_nil))
    (pss_cons (ps_for PassesOwn.never rfl (pi_list (pe_callHD hd_plain_row (hr.mono (by first | decide | omega)) (pa_cons (pv 0) pa_nil))) (pg_tup (by rfl) (pgs_cons (pg_name (i := 3) sc_raw_steps.nd rfl (.inl rfl)) (pgs_cons (pg_name (i := 4) sc_raw_steps.nd rfl (.inl rfl)) pgs_nil)))
    (pss_one (ps_if (pt_cmpR op_eq (pv 3) pe_str (nomark _))
    (pss_one (ps_aug (i := 1) sc_raw_steps.nd rfl (.inl rfl) (pv 4) ip_add))
    (pss_one (ps_expr (pe_bm PySem.F.plainAttrs_list PySem.F.slot_list_append PySem.F.type_list_append mt_append (pv 2) (pa_cons (pe_tup (pa_cons (pv 3) (pa_cons (pv 4) (pa_cons (pv 1) pa_nil)))) pa_nil)))))))
    (pss_one (ps_ret (pe_tup (pa_cons (pv 1) (pa_cons (pv 2) pa_nil)))))))), ?_⟩
    walk_at "go"
    intro m nm
    walk_at "go"
    have t0 := (Tk.refl H).new nm (o := .lst [])
    have s0 : Same H (upd H m (.lst [])) := Same.new0 nm
    have hm0 : upd H m (.lst []) m = some (.lst []) := upd_same
    generalize upd H m (.lst []) = H0 at *
    refine ⟨a, p, 1, rfl, .inl rfl, hq.tk t0, hw, by omega, fun l xs H1 nl s1 hl1 hp1 => ?_⟩
    have wu : Wf BC BC 0 (Prog.unroll 1 p) := Prog.wf_unroll (.inl rfl) hw
    have lu := Prog.len_unroll 1 hw
    have hu := Prog.head_unroll (s := 1) (.inl rfl) hw
    rw [Int.one_mul] at hu
    have hm1 := s1 _ _ hm0
    have nlm : l ≠ m := by rintro rfl; rw [hm0] at nl; cases nl
    refine u_forPrL hl1 hp1 (fun r σ H' => ∃ (now : Int) (ys : List V) (ss : List Stp) (y3 y4 : Option V), σ = [some (.ref a), some (.int now), some (.ref m), y3, y4] ∧ Wf BC BC 0 r ∧ H' m = some (.lst ys) ∧ Each (StpC H') ys ss ∧ ss ++ Prog.stps now r = Prog.stps 0 (Prog.unroll 1 p) ∧ now + r.head = p.head ∧ But m H1 H' ∧ ss.length + r.len ≤ (Prog.unroll 1 p).len) ?_ ?_ ?_ ?_
    · exact ⟨0, [], [], _, _, rfl, wu, hm1, Each.nil, rfl, by rw [Int.zero_add, hu], But.refl _ _, by simp⟩
    · rintro r σ H' ⟨now, ys, ss, y3, y4, rfl, _, hm, _, _, _, bu, _⟩
      refine ⟨fun c zs e => ?_, bu _ _ nlm hl1⟩
      exact bu _ _ (ne_of e hm1 (by intro z; cases z)) e
    · rintro x r r' σ H' hf ⟨now, ys, ss, y3, y4, rfl, wr, hm, he, es, eh, bu, le⟩
      cases r with
      | nil => exact hf.elim
      | step w' n r =>
        obtain ⟨c, rfl, hc1, rfl⟩ := hf
        obtain ⟨g1, g2, g3⟩ := WfL.step_iff.mp wr
        obtain ⟨n1, n2, n3⟩ := word_ne g1
        have yl := he.1
        rw [Prog.len] at le
        walk_at "go"
        intro t nt
        have tk1 : Tk H' (upd (upd H' t (.tup [.str w', .str n, .int now])) m (.lst (ys ++ [.ref t]))) := ((Tk.refl _).new nt).lst (h_keep hm nt)
        have ntm : t ≠ m := (ne_of_none hm nt).symm
        walk_at "go"
        refine ⟨now, _, ss ++ [(w', n, now)], _, _, rfl, g3, upd_same, ?_, ?_, ?_, (bu.new nt).self, ?_⟩
        · exact (he.imp fun v x _ h => h.tk tk1).snoc ⟨t, rfl, (upd_ne ntm).trans upd_same⟩
        · rw [List.append_assoc]; exact es
        · rw [← eh, Prog.head]
        · rw [List.length_append, List.length_singleton]; omega
      | turn k' r =>
        obtain ⟨c, rfl, hc1, rfl⟩ := hf
        have g3 := (WfL.turn_iff.mp wr).2
        rw [Prog.len] at le
        walk_at "go"
        exact ⟨_, ys, ss, _, _, rfl, g3, hm, he, es, by rw [← eh, Prog.head]; omega, bu, by omega⟩
      | rep k' b r => exact wr.elim
      | mir b r => exact wr.elim
    · rintro σ H' ⟨now, ys, ss, y3, y4, rfl, _, hm, he, es, eh, bu, _⟩
      walk_at "go"
      intro t nt
      have sB : Same H H' := Same.but2 (s0.trans s1) nm bu
      have ee : now = p.head := by rw [← eh, Prog.head]; omega
      subst ee
      have es : ss = Prog.stps 0 (Prog.unroll 1 p) := by rw [← es, Prog.stps, List.append_nil]
      exact k t m ys _ nm (Same.new sB nt) upd_same (h_keep hm nt) (by rw [← es]; exact he.imp fun v x _ h => h.tk ((Tk.refl _).new nt))
theorem ok_add_step {f : Addr} {fd : FuncData} (F : Fun K "add_step" "add_step" s_add_step f fd) (V : StepsV K w mg) : FnOk P w K mg base CX0 1 f fd ["numbers", "step"] spAddStep := by
  obtain ⟨sd, gS, hS⟩ := V.ex
  refine F.ok sc_add_step (fun vs H Q E h => ?_) (fun cdv A outer s H vs Q E hr h => ?_)
  · obtain ⟨s, t, H0, N, c, ws, st, rfl, _⟩ := h
    rfl
  · obtain ⟨sp, t, H0, N, c, ws, st, rfl, hs, hN, ht, w1, w2, k⟩ := h
    refine ⟨_, (pss_cons (ps_asg (pv 1) (pg_tup (by rfl) (pgs_cons (pg_name (i := 2) sc_add_step.nd rfl (.inl rfl)) (pgs_cons (pg_name (i := 3) sc_add_step.nd rfl (.inl rfl)) (pgs_cons (pg_name (i := 4) sc_add_step.nd rfl (.inl rfl)) pgs_nil)))))
    (pss_cons (ps_set (i := 5) sc_add_step.nd rfl (.inl rfl) (pe_dsetd (pv 0) (pv 3) pe_dnewK ⟨rfl, rfl, rfl, rfl⟩))
    (pss_one (ps_dput (hu_of hr) (pv 5) (pv 4) (pe_op op_add (pe_dget2 (hu_of hr) (pv 5) (pv 4) pe_int ⟨rfl, rfl, rfl, rfl⟩) (pe_ix ix_kdict (pe_glob (v := .ref sd) rfl gS rfl) (pv 2) (fun _ _ => rfl))) rfl)))), ?_⟩
    have kd := hS _ w1
    walk_at "go"
    refine r_isD hs.at_ ?_
    walk_at "go"
    intro e ne
    refine hs.setd w2 ne fun ws' j H1 hs1 m1 fr1 => ?_
    have hj1 := hs1.jars _ m1
    walk_at "go"
    walk_at "go"
    obtain ⟨o, g1, g2⟩ := hj1.dget0 st.2.2
    refine ⟨o, g1, ?_⟩
    rw [g2]
    walk_at "go"
    obtain ⟨H4, p1, b1, f1, j1⟩ := hj1.dput (k := st.2.2) (v := c st.2.1 st.2.2 + stepSign st.1) (by omega)
    refine ⟨j, H4, rfl, p1, ?_⟩
    have hs4 := hs1.put m1 b1 j1
    have eb : (fun n' k' => if n' = st.2.1 ∧ k' = st.2.2 then c st.2.1 st.2.2 + stepSign st.1 else c n' k') = bump c st := by
      funext n' k'
      unfold bump
      by_cases h : n' = st.2.1 ∧ k' = st.2.2
      · obtain ⟨rfl, rfl⟩ := h
        rw [if_pos ⟨rfl, rfl⟩, if_pos ⟨rfl, rfl⟩]
      · rw [if_neg h, if_neg (fun x => h ⟨x.1.symm, x.2.symm⟩), Int.add_zero]
    rw [eb] at hs4
    obtain ⟨kvs, ej, _⟩ := hj1
    refine k ws' H4 hs4 (Std.but (fun b o n e => fr1 b o ?_ e) ej b1)
    rintro rfl
    rw [hs.at_] at e
    cases e
    exact n _ rfl
end

set_option Elab.async false
set_option linter.all false
set_option maxRecDepth 100000
set_option maxHeartbeats 4000000

open PySem PySem.Spec PyProof.Rows L2
section
variable {P : Program} {w : World} {K : PySem.W.Frag} {mg : Str → Option Value} {base : Heap} {C : Addr}

local macro_rules | `(tactic| walk_at "s") => `(tactic| (first
  | (with_reducible refine r_dnew ?_)
  | (with_reducible refine r_dget2 ?_)
  | (with_reducible refine r_dget ?_)
  | (with_reducible refine r_dput ?_)
  | (with_reducible refine r_dsetd ?_)
  | ((with_reducible refine JarAt.isD (n := ?nn) (c := ?cc) ?hh ?_); (case hh => assumption))
  ))

local macro_rules | `(tactic| walk_at "s") => `(tactic| (first
  | (with_reducible refine r_prop ?_)
  | (with_reducible refine r_meth ?_)
  | (with_reducible refine r_make ?_)
  | (with_reducible refine r_fld ?_)
  | (with_reducible refine r_sfld ?_)
  | (with_reducible refine r_iOwn ?_)
  | ((with_reducible refine u_rowsAt (mg := ?mm) (C := ?CC) (dx := ?dd) (fv := ?vv) ?tt ?hh ?_); (case tt => assumption); (case hh => walk_at "hp"))
  | ((with_reducible refine r_isPoly (mg := ?mm) (dx := ?dd) (fs := ?ff) ?tt ?hh ?_); (case tt => assumption); (case hh => walk_at "hp"))
  | ((with_reducible refine r_isPolyI (mg := ?mm) ?tt ?_); (case tt => assumption))
  | ((with_reducible refine r_polyInt (mg := ?mm) (C := ?CC) (dx := ?dd) (fs := ?ff) ?tt ?hh ?_); (case tt => assumption); (case hh => walk_at "hp"))
  ))

theorem ok_is_term {f : Addr} {fd : FuncData} (F : Fun K "is_term" "is_term" s_is_term f fd) (B : Bl mg) (h_is_integer : Has P w K mg base "is_integer" 1 ["value"] spIsInt) : FnOk P w K mg base CX0 2 f fd ["value"] spIsTerm := by
  refine F.ok sc_is_term (fun vs H Q E h => ?_) (fun cdv A outer s H vs Q E hr h => ?_)
  · obtain ⟨p, x, y, rfl, _⟩ := h
    rfl
  · obtain ⟨p, x, y, rfl, hp, k⟩ := h
    refine ⟨_, (pss_one (ps_ret (pe_and (pe_callB (call_isiKK (K := K)) (by rfl) B.b_isinstance (by decide +kernel) (pa_cons (pv 0) (pa_cons (pe_bltn (v := .ty "tuple") (by rfl) B.b_tuple (by decide +kernel) rfl) pa_nil))) (pe_and (pe_cmpR op_eq (pe_callB (call_lenK (K := K)) (by rfl) B.b_len PySem.boot_len (pa_cons (pv 0) pa_nil)) pe_int (nomark _)) (pe_and (pe_callH h_is_integer (hr.mono (by first | decide | omega)) (pa_cons (pe_ix (ix_tupK (K := K)) (pv 0) pe_int (fun _ _ => rfl)) pa_nil)) (pe_one (pe_callH h_is_integer (hr.mono (by first | decide | omega)) (pa_cons (pe_ix (ix_tupK (K := K)) (pv 0) pe_int (fun _ _ => rfl)) pa_nil)))))))), ?_⟩
    walk_at "go"
    refine ⟨x, rfl, ?_⟩
    walk_at "go"
    refine ⟨y, rfl, ?_⟩
    walk_at "go"
    exact k
theorem ok_summed {f : Addr} {fd : FuncData} (F : Fun K "summed" "summed" s_summed f fd) (B : Bl mg) (bS : mg "sorted" = none) : FnOk P w K mg base CX0 1 f fd ["terms"] spSummed := by
  refine F.ok sc_summed (fun vs H Q E h => ?_) (fun cdv A outer s H vs Q E hr h => ?_)
  · obtain ⟨l, ts, rfl, _⟩ := h
    rfl
  · obtain ⟨l, ts, rfl, ⟨vs, hl, ht⟩, hn, k⟩ := h
    refine ⟨_, (pss_cons (ps_set (i := 1) sc_summed.nd rfl (.inr rfl) pe_dnewK)
    (pss_cons (ps_for PassesOwn.never rfl (pi_list (pv 0)) (pg_tup (by rfl) (pgs_cons (pg_name (i := 2) sc_summed.nd rfl (.inl rfl)) (pgs_cons (pg_name (i := 3) sc_summed.nd rfl (.inl rfl)) pgs_nil)))
    (pss_one (ps_dput (hu_of hr) (pv 1) (pv 2) (pe_op op_add (pe_dget2 (hu_of hr) (pv 1) (pv 2) pe_int ⟨rfl, rfl, rfl, rfl⟩) (pv 3)) rfl)))
    (pss_one (ps_ret (pe_callTy call_tupL (by rfl) B.b_tuple (by decide +kernel) (pa_cons (pe_lc (own := [("power", 2)]) rfl sc_summed.nd (pi_list (pe_callB call_sortedDA (by rfl) bS (by decide +kernel) (pa_cons (pv 1) pa_nil))) (blkOk_by (N := ["terms", "sums", "power", "number"]) (sc := defScope s_summed) (by decide +kernel)) (fun _ _ _ _ _ => (pg_name (i := 2) sc_summed.nd rfl (.inl rfl))) (fun _ _ _ _ _ => pts_one (pt_cmpR op_ne (pe_dget (hu_of hr) (pv 1) (pv 2) (fun _ _ => rfl)) pe_int (nomark _))) (fun _ _ _ _ _ => (pe_tup (pa_cons (pv 2) (pa_cons (pe_dget (hu_of hr) (pv 1) (pv 2) (fun _ _ => rfl)) pa_nil))))) pa_nil)))))), ?_⟩
    walk_at "go"
    intro d nd
    walk_at "go"
    have hvl := ht.length
    refine u_forL (.of (h_keep hl nd)) (fun i σ H' => ∃ (c : Int → Int) (y2 y3 : Option V), σ = [some (.ref l), some (.ref d), y2, y3] ∧ Same H H' ∧ JarAt H' d i c ∧ (∀ k, c k = cof (ts.take i) k) ∧ i ≤ vs.length) ?_ ?_ ?_ ?_
    · exact ⟨_, _, _, rfl, Same.new0 nd, .new, fun k => rfl, Nat.zero_le _⟩
    · rintro i σ H' _ ⟨c, y2, y3, rfl, sm, _⟩
      exact .of (sm _ _ hl)
    · rintro i x σ H' hx ⟨c, y2, y3, rfl, sm, hj, hc, hi⟩
      obtain ⟨b, p, rfl, hp, hb⟩ := ht.at i hx
      have hi2 := (List.getElem?_eq_some_iff.mp hx).1
      have hb' := sm _ _ hb
      walk_at "go"
      obtain ⟨o, g1, g2⟩ := hj.dget0 p.1
      refine ⟨o, g1, ?_⟩
      rw [g2]
      walk_at "go"
      obtain ⟨H4, p1, b1, f1, j1⟩ := hj.dput (k := p.1) (v := c p.1 + p.2) (by omega)
      refine ⟨d, H4, rfl, p1, _, _, _, rfl, Same.but2 sm nd b1, j1, fun k => ?_, hi2⟩
      have et : ts.take (i + 1) = ts.take i ++ [p] := by rw [List.take_succ, hp]; rfl
      rw [et, cof_app, ← hc]
      unfold addAt
      rw [cof, cof]
      by_cases e : k = p.1
      · subst e; rw [if_pos rfl, if_pos rfl]; omega
      · rw [if_neg e, if_neg (fun h => e h.symm)]; omega
    · rintro σ H' ⟨c, y2, y3, rfl, sm, hj, hc, hi⟩
      rw [List.take_of_length_le (by omega)] at hc
      walk_at "go"
      refine rSortDJ hj fun ys q hys hz hlen hget nq => ?_
      have hj1 := hj.keep (o := .lst (ys.map V.int)) nq
      refine u_lcL (.of upd_same) (fun D i acc H2 => (TermsL H2 acc (((ys.take i).filter fun k => decide (c k ≠ 0)).map fun k => (k, c k)) ∧ i ≤ ys.length) ∧ Same (upd H' q (.lst (ys.map V.int))) H2) ?_ ?_ ?_ ?_
      · exact fun D hD => ⟨⟨rfl, Nat.zero_le _⟩, Same.new0 hD⟩
      · exact fun D i acc H2 _ _ ⟨_, s1⟩ => .of (s1 _ _ upd_same)
      · rintro D i x acc H2 hD hx hacc ⟨⟨ht2, hi0⟩, s1⟩
        rw [List.getElem?_map] at hx
        cases hy : ys[i]? with
        | none => rw [hy] at hx; cases hx
        | some y =>
          rw [hy] at hx
          cases hx
          obtain ⟨hi2, ey⟩ := List.getElem?_eq_some_iff.mp hy
          have hj2 := hj1.same s1
          have et : ys.take (i + 1) = ys.take i ++ [y] := by rw [List.take_succ, hy]; rfl
          have hm2 := (hget y (List.mem_of_getElem? hy)).same ((Same.new0 nq).trans s1)
          walk_at "go"
          refine ⟨rfl, ?_⟩
          walk_at "go"
          refine ⟨d, _, rfl, hj2.dget hm2, ?_⟩
          walk_at "go"
          refine r_ite (fun hb => ?_) (fun hb => ?_)
          · walk_at "go"
            refine ⟨d, _, rfl, hj2.dget hm2, ?_⟩
            walk_at "go"
            intro t nt
            have nz : decide (c y ≠ 0) = true := by simpa using hb
            have al : acc.length ≤ i := by
              rw [ht2.length, List.length_map]
              exact Nat.le_trans (List.length_filter_le _ _) (by rw [List.length_take]; omega)
            refine u_push (h_keep hacc nt) (by omega) ⟨⟨?_, hi2⟩, Same.put (Same.new s1 nt) hD⟩
            have t1 : Tk H2 (upd (upd H2 t (.tup [.int y, .int (c y)])) D (.lst (acc ++ [.ref t]))) := ((Tk.refl _).new nt).lst (h_keep hacc nt)
            rw [et, List.filter_append, List.map_append, List.filter_cons_of_pos (p := fun k => decide (c k ≠ 0)) nz]
            exact (ht2.tk t1).app (.one ((upd_ne (ne_of_none hacc nt).symm).trans upd_same))
          · refine u_skip hacc ⟨⟨?_, hi2⟩, s1⟩
            have nz : ¬ decide (c y ≠ 0) = true := by simpa using hb
            rw [et, List.filter_append, List.filter_cons_of_neg (p := fun k => decide (c k ≠ 0)) nz, List.filter_nil, List.append_nil]
            exact ht2
      · rintro D acc H2 hD hacc ⟨⟨ht2, hi0⟩, s1⟩
        walk_at "go"
        intro r nr
        rw [List.take_of_length_le (by simp)] at ht2
        have sE : Same H (upd H2 r (.tup acc)) := Same.new (sm.trans ((Same.new0 nq).trans s1)) nr
        refine k r _ acc _ (free_same (sm.trans ((Same.new0 nq).trans s1)) nr) sE upd_same (ht2.tk ((Tk.refl _).new nr)) (canon_of hys c) (fun j => ?_) ?_
        · rw [cof_of hys, ← hc]
          by_cases hm : j ∈ ys
          · rw [if_pos hm]
          · rw [if_neg hm, hz j hm]
        · rw [List.length_map]
          exact Nat.le_trans (List.length_filter_le _ _) (by omega)
end

set_option Elab.async false
set_option linter.all false
set_option maxRecDepth 100000
set_option maxHeartbeats 4000000

open PySem PySem.Spec PyProof.Rows L2
section
variable {P : Program} {w : World} {K : PySem.W.Frag} {mg : Str → Option Value} {base : Heap} {C : Addr}

local macro_rules | `(tactic| walk_at "s") => `(tactic| (first
  | (with_reducible refine r_dnew ?_)
  | (with_reducible refine r_dget2 ?_)
  | (with_reducible refine r_dget ?_)
  | (with_reducible refine r_dput ?_)
  | (with_reducible refine r_dsetd ?_)
  | ((with_reducible refine JarAt.isD (n := ?nn) (c := ?cc) ?hh ?_); (case hh => assumption))
  ))

local macro_rules | `(tactic| walk_at "s") => `(tactic| (first
  | (with_reducible refine r_prop ?_)
  | (with_reducible refine r_meth ?_)
  | (with_reducible refine r_make ?_)
  | (with_reducible refine r_fld ?_)
  | (with_reducible refine r_sfld ?_)
  | (with_reducible refine r_iOwn ?_)
  | ((with_reducible refine u_rowsAt (mg := ?mm) (C := ?CC) (dx := ?dd) (fv := ?vv) ?tt ?hh ?_); (case tt => assumption); (case hh => walk_at "hp"))
  | ((with_reducible refine r_isPoly (mg := ?mm) (dx := ?dd) (fs := ?ff) ?tt ?hh ?_); (case tt => assumption); (case hh => walk_at "hp"))
  | ((with_reducible refine r_isPolyI (mg := ?mm) ?tt ?_); (case tt => assumption))
  | ((with_reducible refine r_polyInt (mg := ?mm) (C := ?CC) (dx := ?dd) (fs := ?ff) ?tt ?hh ?_); (case tt => assumption); (case hh => walk_at "hp"))
  ))

theorem ok_Poly_init {f : Addr} {fd : FuncData} (F : Fun K "__init__" "Poly.__init__" s_Poly___init__ f fd) (B : Bl mg) (T : PolyT K mg C) (h_is_term : Has P w K mg base "is_term" 2 ["value"] spIsTerm) (h_summed : Has P w K mg base "summed" 1 ["terms"] spSummed) : FnOk P w K mg base CX0 3 f fd ["self", "terms"] (spInit C) := by
  refine F.ok sc_Poly___init__ (fun vs H Q E h => ?_) (fun cdv A outer s H vs Q E hr h => ?_)
  · obtain ⟨x, dx, l, ts, rfl, _⟩ := h
    rfl
  · obtain ⟨x, dx, l, ts, rfl, hx, ⟨vs, hl, ht⟩, hn, k⟩ := h
    refine ⟨_, (pss_cons (ps_if (PW.pt (pw_or (pt_not (pt_val (pe_callB (call_isiKK (K := K)) (by rfl) B.b_isinstance (by decide +kernel) (pa_cons (pv 1) (pa_cons (pe_bltn (v := .ty "list") (by rfl) B.b_list (by decide +kernel) rfl) pa_nil))))) (pw_or1 (pt_not (pt_val (pe_callB (call_allK (K := K)) (by rfl) B.b_all (by decide +kernel) (pa_cons (pe_lc (own := [("term", 2)]) rfl sc_Poly___init__.nd (pi_list (pv 1)) (blkOk_by (N := ["self", "terms", "term"]) (sc := defScope s_Poly___init__) (by decide +kernel)) (fun _ _ _ _ _ => (pg_name (i := 2) sc_Poly___init__.nd rfl (.inl rfl))) (fun _ _ _ _ _ => pts_nil) (fun _ _ _ _ _ => (pe_callH h_is_term (hr.mono (by first | decide | omega)) (pa_cons (pv 2) pa_nil)))) pa_nil)))))))
    (pss_one ps_never)
    pss_nil)
    (pss_one (ps_fld (pv 0) (pe_callH h_summed (hr.mono (by first | decide | omega)) (pa_cons (pv 1) pa_nil)) rfl))), ?_⟩
    walk_at "go"
    refine u_lcL (.of hl) (fun D i acc H' => (acc = (List.replicate i true).map V.bl ∧ i ≤ vs.length) ∧ Same H H') ?_ ?_ ?_ ?_
    · exact fun D hD => ⟨⟨rfl, by omega⟩, Same.new0 hD⟩
    · exact fun D i acc H' _ _ ⟨_, s1⟩ => .of (s1 _ _ hl)
    · rintro D i v acc H' hD hv hacc ⟨⟨ea, _⟩, sm⟩
      obtain ⟨b, p, rfl, hp, hb⟩ := ht.at i hv
      have hi2 := (List.getElem?_eq_some_iff.mp hv).1
      have hvl := ht.length
      walk_at "go"
      refine ⟨rfl, ?_⟩
      walk_at "go"
      refine ⟨b, p.1, p.2, rfl, sm _ _ hb, ?_⟩
      have al : acc.length = i := by rw [ea]; simp
      refine u_push hacc (by omega) ⟨⟨?_, by omega⟩, Same.put sm hD⟩
      rw [ea, List.replicate_succ', List.map_append]
      rfl
    · rintro D acc H' hD hacc ⟨⟨ea, _⟩, sm⟩
      rw [ea] at hacc
      walk_at "go"
      refine r_all (SqL.of hacc) ?_
      rw [show ((List.replicate vs.length true).all id) = true by simp]
      walk_at "go"
      refine ⟨l, ts, rfl, ⟨vs, sm _ _ hl, ht.tk (Tk.same sm)⟩, hn, fun r us ws H2 nr s2 hr2 hw hc hcof hlen => ?_⟩
      have hx2 : H2 x = some (.ins C dx []) := s2 _ _ (sm _ _ hx)
      walk_at "go"
      refine ⟨x, C, dx, _, rfl, hx2, T.cl, T.nR, by show 0 < 1000; decide, ?_⟩
      refine k us _ (But.self (Same.but (sm.trans s2) x)) ⟨dx, r, ws, upd_same, (upd_ne (ne_of hr2 hx2 (by intro z; cases z))).trans hr2, hw.tk fun c xs e => (upd_ne (ne_of e hx2 (by intro z; cases z))).trans e, hc⟩ hcof hlen
end

set_option Elab.async false
set_option linter.all false
set_option maxRecDepth 100000
set_option maxHeartbeats 4000000

open PySem PySem.Spec PyProof.Rows L2
section
variable {P : Program} {w : World} {K : PySem.W.Frag} {mg : Str → Option Value} {base : Heap} {C : Addr}

local macro_rules | `(tactic| walk_at "s") => `(tactic| (first
  | (with_reducible refine r_dnew ?_)
  | (with_reducible refine r_dget2 ?_)
  | (with_reducible refine r_dget ?_)
  | (with_reducible refine r_dput ?_)
  | (with_reducible refine r_dsetd ?_)
  | ((with_reducible refine JarAt.isD (n := ?nn) (c := ?cc) ?hh ?_); (case hh => assumption))
  ))

local macro_rules | `(tactic| walk_at "s") => `(tactic| (first
  | (with_reducible refine r_prop ?_)
  | (with_reducible refine r_meth ?_)
  | (with_reducible refine r_make ?_)
  | (with_reducible refine r_fld ?_)
  | (with_reducible refine r_sfld ?_)
  | (with_reducible refine r_iOwn ?_)
  | ((with_reducible refine u_rowsAt (mg := ?mm) (C := ?CC) (dx := ?dd) (fv := ?vv) ?tt ?hh ?_); (case tt => assumption); (case hh => walk_at "hp"))
  | ((with_reducible refine r_isPoly (mg := ?mm) (dx := ?dd) (fs := ?ff) ?tt ?hh ?_); (case tt => assumption); (case hh => walk_at "hp"))
  | ((with_reducible refine r_isPolyI (mg := ?mm) ?tt ?_); (case tt => assumption))
  | ((with_reducible refine r_polyInt (mg := ?mm) (C := ?CC) (dx := ?dd) (fs := ?ff) ?tt ?hh ?_); (case tt => assumption); (case hh => walk_at "hp"))
  ))

theorem ok_Poly_len {f : Addr} {fd : FuncData} (F : Fun K "__len__" "Poly.__len__" s_Poly___len__ f fd) (B : Bl mg) (T : PolyT K mg C) : FnOk P w K mg base CX0 1 f fd ["self"] (spPLen C) := by
  refine F.ok sc_Poly___len__ (fun vs H Q E h => ?_) (fun cdv A outer s H vs Q E hr h => ?_)
  · obtain ⟨a, ts, rfl, _⟩ := h
    rfl
  · obtain ⟨a, ts, rfl, ⟨dx, r, vs, g1, hr', ht, hc⟩, k⟩ := h
    refine ⟨_, (pss_one (ps_ret (pe_callB (call_lenK (K := K)) (by rfl) B.b_len PySem.boot_len (pa_cons (pe_fldK (K := K) (pv 0)) pa_nil)))), ?_⟩
    have hl := ht.length
    walk_at "go"
    rw [hl]
    exact k
end

set_option Elab.async false
set_option linter.all false
set_option maxRecDepth 100000
set_option maxHeartbeats 4000000
set_option pp.deepTerms false
set_option pp.deepTerms.threshold 12
set_option pp.maxSteps 1200

open PySem PySem.Spec PyProof.Rows L2 RT
def spPlaceFrom (C : Addr) : Sp := fun vs H Q _ => ∃ (s : Addr) (H0 : Hp) (N : Nat) (c : Str → Int → Int) (ws : List (Str × Addr)), vs = [.ref s] ∧ Spot H0 H s N c ws ∧ N ≤ 5000 ∧
  ∀ l pl H', H l = none → Same H H' → PlaceP C H' l pl → IsPlace pl c → (∀ e ∈ pl, e.2.length ≤ N) → pl.length < 64 → Q (.ref l) H'
def spRawEffect (C : Addr) : Sp := fun vs H Q _ => ∃ a p, vs = [.ref a] ∧ PrIs H a p ∧ Wf BC BC 12 p ∧ p.size ≤ 4000 ∧
  ∀ r l pl H', Same H H' → H l = none → H' r = some (.tup [.int p.head, .ref l]) → PlaceP C H' l pl → IsPlace pl (Prog.wcf 0 (Prog.unroll 1 p)) → (∀ e ∈ pl, (e.2.length : Int) ≤ p.size) → pl.length < 64 → Q (.ref r) H'
section
variable {P : Program} {w : World} {K : PySem.W.Frag} {mg : Str → Option Value} {base : Heap} {C : Addr}

local macro_rules | `(tactic| walk_at "s") => `(tactic| (first
  | (with_reducible refine r_dnew ?_)
  | (with_reducible refine r_dget2 ?_)
  | (with_reducible refine r_dget ?_)
  | (with_reducible refine r_dput ?_)
  | (with_reducible refine r_dsetd ?_)
  | ((with_reducible refine JarAt.isD (n := ?nn) (c := ?cc) ?hh ?_); (case hh => assumption))
  ))

local macro_rules | `(tactic| walk_at "s") => `(tactic| (first
  | (with_reducible refine r_prop ?_)
  | (with_reducible refine r_meth ?_)
  | (with_reducible refine r_make ?_)
  | (with_reducible refine r_fld ?_)
  | (with_reducible refine r_sfld ?_)
  | (with_reducible refine r_iOwn ?_)
  | ((with_reducible refine u_rowsAt (mg := ?mm) (C := ?CC) (dx := ?dd) (fv := ?vv) ?tt ?hh ?_); (case tt => assumption); (case hh => walk_at "hp"))
  | ((with_reducible refine r_isPoly (mg := ?mm) (dx := ?dd) (fs := ?ff) ?tt ?hh ?_); (case tt => assumption); (case hh => walk_at "hp"))
  | ((with_reducible refine r_isPolyI (mg := ?mm) ?tt ?_); (case tt => assumption))
  | ((with_reducible refine r_polyInt (mg := ?mm) (C := ?CC) (dx := ?dd) (fs := ?ff) ?tt ?hh ?_); (case tt => assumption); (case hh => walk_at "hp"))
  ))

theorem r_listItems {te : TE} {σ : L2.St} {H : Hp} {Q : VK} (q : te σ H fun x H1 => LiI.rItemsL x H1 Q) : LiI.tListItems te σ H Q := q
theorem u_items {H : Hp} {a : Addr} {n : Nat} {c : Int → Int} {Q : VK} (h : JarAt H a n c) (q : ∀ p ts H', H p = none → Same H H' → TermsAt H' p ts → ts.length ≤ n → (∀ k, cof ts k = c k) → Q (.ref p) H') : LiI.rItemsL (.ref a) H Q := by
  obtain ⟨kvs, e, hk, hn, hc⟩ := h
  obtain ⟨ts, rfl, ht⟩ := jar_terms hk
  refine ⟨a, _, rfl, e, fun H' p as s1 np ns nd hp hpr => q p ts H' np s1 ⟨_, hp, terms_paired hpr⟩ ?_ fun k => (ht k).trans (hc k)⟩
  rw [List.length_map] at hn
  exact hn
local macro_rules | `(tactic| walk_at "s") => `(tactic| (first
  | (with_reducible refine r_listItems ?_)
  ))
theorem ok_place_from {f : Addr} {fd : FuncData} (F : Fun K "place_from" "place_from" s_place_from f fd) (B : Bl mg) (bS : mg "sorted" = none) (G_Poly : PolyT K mg C) (hc_Poly : HasC P w K mg base "Poly" C 3 ["self", "terms"] (spInit C)) (hm_Poly___len__ : HasM P w K mg base C "__len__" 1 ["self"] (spPLen C)) : FnOk P w K mg base CX0 5 f fd ["numbers"] (spPlaceFrom C) := by
  refine F.ok sc_place_from (fun vs H Q E h => ?_) (fun cdv A outer s H vs Q E hr h => ?_)
  · obtain ⟨s, H0, N, c, ws, rfl, _⟩ := h
    rfl
  · obtain ⟨sp, H0, N, c, ws, rfl, hs, hN, k⟩ := h
    refine ⟨_, (pss_cons (ps_set (i := 1) sc_place_from.nd rfl (.inl rfl) (pe_lst pa_nil))
    (pss_cons (ps_for PassesOwn.never rfl (pi_list (pe_callB call_sortedDS (by rfl) bS (by decide +kernel) (pa_cons (pv 0) pa_nil))) (pg_name (i := 2) sc_place_from.nd rfl (.inl rfl))
    (pss_cons (ps_set (i := 3) sc_place_from.nd rfl (.inl rfl) (pe_makeH hc_Poly (hr.mono (by first | decide | omega)) (pa_cons (LiI.pe_listItems rfl (pe_dget (hu_of hr) (pv 0) (pv 2) (fun _ _ => rfl)) rfl B.b_list (by decide +kernel)) pa_nil)))
    (pss_one (ps_if (pt_cmpR op_gt (pe_callB (call_lenOwn hm_Poly___len__ (hr.mono (by first | decide | omega))) (by rfl) B.b_len PySem.boot_len (pa_cons (pv 3) pa_nil)) pe_int (nomark _))
    (pss_one (ps_expr (pe_bm PySem.F.plainAttrs_list PySem.F.slot_list_append PySem.F.type_list_append mt_append (pv 1) (pa_cons (pe_tup (pa_cons (pv 2) (pa_cons (pv 3) pa_nil))) pa_nil))))
    pss_nil))))
    (pss_one (ps_ret (pv 1))))), ?_⟩
    walk_at "go"
    intro m nm
    have hs0 := hs.later (Same.new0 (o := .lst []) nm)
    walk_at "go"
    have hnm : ∀ n ∈ ws.map (·.1), IsName n := fun n hn => by obtain ⟨e, he, rfl⟩ := List.mem_map.mp hn; exact hs.name e he
    refine ⟨sp, _, ws.map (·.1), rfl, .inl hs0.at_, by simp [spotKvs], names_few hnm hs.nd, fun ys u hys hsr nu => ?_⟩
    have num : u ≠ m := (ne_of_none upd_same nu).symm
    have hs1 := hs0.later (Same.new0 (o := .lst (ys.map V.str)) nu)
    have s01 : Same H (upd (upd H m (.lst [])) u (.lst (ys.map V.str))) := Same.new (Same.new0 nm) nu
    have hu1 : upd (upd H m (.lst [])) u (.lst (ys.map V.str)) u = some (.lst (ys.map V.str)) := upd_same
    have hm1 : upd (upd H m (.lst [])) u (.lst (ys.map V.str)) m = some (.lst []) := h_keep upd_same nu
    generalize upd (upd H m (.lst [])) u (.lst (ys.map V.str)) = H1 at *
    have hlt : ys.length < 64 := by rw [hys.length_eq]; exact names_few hnm hs.nd
    refine u_forL (.of hu1) (fun i σ H2 => ∃ (pl : Pl) (vs : List V) (y2 y3 : Option V), σ = [some (.ref sp), some (.ref m), y2, y3] ∧ H2 u = some (.lst (ys.map V.str)) ∧ H2 m = some (.lst vs) ∧ Each (PlC C H2) vs pl ∧ (∀ e ∈ pl, Canon e.2 ∧ e.2 ≠ [] ∧ (∀ k, cof e.2 k = c e.1 k) ∧ e.2.length ≤ N) ∧ (pl.map (·.1)).Sublist (ys.take i) ∧ (∀ n ∈ ys.take i, (∀ k, c n k = 0) ∨ n ∈ pl.map (·.1)) ∧ Same H H2) ?_ ?_ ?_ ?_
    · exact ⟨[], [], _, _, rfl, hu1, hm1, .nil, by simp, by simp, by simp, s01⟩
    · rintro i σ H2 _ ⟨pl, vs, y2, y3, rfl, h1, _⟩
      exact .of h1
    · rintro i x σ H2 hx ⟨pl, vs, y2, y3, rfl, hu2, hm2, hpl, hcan, hsub, hall, s2⟩
      rw [List.getElem?_map] at hx
      cases hy : ys[i]? with
      | none => rw [hy] at hx; cases hx
      | some y =>
        rw [hy] at hx
        cases hx
        obtain ⟨hi2, ey⟩ := List.getElem?_eq_some_iff.mp hy
        have hs2 := hs.later s2
        have et : ys.take (i + 1) = ys.take i ++ [y] := by rw [List.take_succ, hy]; rfl
        obtain ⟨j, hv, hmj⟩ := spot_some (hys.mem_iff.mp (List.mem_of_getElem? hy))
        walk_at "go"
        refine ⟨sp, _, rfl, hs2.dget hv, ?_⟩
        walk_at "go"
        refine u_items (hs2.jars _ hmj) fun q ts H3 nq s3 ht hlen hcof => ?_
        walk_at "go"
        refine u_poly ht (by omega) fun b us H4 nb s4 hb hcu hl => ?_
        walk_at "go"
        obtain ⟨dxb, rb, vsb, gb, _⟩ := id hb
        refine ⟨b, dxb, _, rfl, gb, b, us, rfl, hb, us.length, rfl, by omega, ?_⟩
        walk_at "go"
        have s34 : Same H2 H4 := s3.trans s4
        have hm4 := s34 _ _ hm2
        have hcan4 : Canon us := by obtain ⟨_, _, _, _, _, _, hc⟩ := hb; exact hc
        have hcc : ∀ k, cof us k = c y k := fun k => (hcu k).trans (hcof k)
        have plen : pl.length ≤ i := by
          rw [← List.length_map (f := (·.1))]
          exact Nat.le_trans hsub.length_le (by rw [List.length_take]; omega)
        have vl := hpl.1
        have hpl4 : Each (PlC C H4) vs pl := hpl.imp fun v x _ r => r.stay (.same s34)
        refine r_iteD (fun h0 => ?_) (fun h0 => ?_)
        · walk_at "go"
          intro t nt
          walk_at "go"
          have ntm : t ≠ m := (ne_of_none hm4 nt).symm
          have st : Stay H4 (upd (upd H4 t (.tup [.str y, .ref b])) m (.lst (vs ++ [.ref t]))) := ((Stay.refl H4).new nt).lst (h_keep hm4 nt)
          refine ⟨pl ++ [(y, us)], _, _, _, rfl, (upd_ne num).trans (h_keep (s34 _ _ hu2) nt), upd_same, ?_, ?_, ?_, ?_, Same.put (Same.new (s2.trans s34) nt) nm⟩
          · exact (hpl4.imp fun v x _ r => r.stay st).snoc ⟨t, b, rfl, (upd_ne ntm).trans upd_same, hb.stay st⟩
          · intro e he
            rcases List.mem_append.mp he with he | he
            · exact hcan e he
            · rw [List.mem_singleton.mp he]
              exact ⟨hcan4, fun (z : us = []) => by rw [z] at h0; simp at h0, hcc, show us.length ≤ N by omega⟩
          · rw [et, List.map_append]
            exact hsub.append (List.Sublist.refl _)
          · intro n hn
            rw [et] at hn
            rw [List.map_append]
            rcases List.mem_append.mp hn with hn | hn
            · rcases hall n hn with h | h
              · exact .inl h
              · exact .inr (List.mem_append.mpr (.inl h))
            · exact .inr (List.mem_append.mpr (.inr hn))
        · walk_at "go"
          have e0 : us = [] := by
            cases us with
            | nil => rfl
            | cons _ _ => exact absurd (by simp) h0
          refine ⟨pl, vs, _, _, rfl, s34 _ _ hu2, hm4, hpl4, hcan, ?_, ?_, s2.trans s34⟩
          · rw [et]
            exact hsub.trans (List.sublist_append_left _ _)
          · intro n hn
            rw [et] at hn
            rcases List.mem_append.mp hn with hn | hn
            · exact hall n hn
            · rw [List.mem_singleton.mp hn]
              exact .inl fun k => by rw [← hcc k, e0]; rfl
    · rintro σ H2 ⟨pl, vs, y2, y3, rfl, hu2, hm2, hpl, hcan, hsub, hall, s2⟩
      walk_at "go"
      rw [List.take_of_length_le (by simp)] at hsub hall
      have hny : ∀ n ∈ ys, IsName n := fun n hn => hnm n (hys.mem_iff.mp hn)
      refine k m pl H2 nm s2 ⟨vs, hm2, hpl⟩ ⟨fun e he => ?_, fun e he => ?_, ?_, fun n hn k => ?_⟩ (fun e he => (hcan e he).2.2.2) ?_
      · obtain ⟨x1, x2, x3, _⟩ := hcan e he
        exact ⟨x1, x2, x3⟩
      · exact hny _ (hsub.subset (List.mem_map.mpr ⟨e, he, rfl⟩))
      · have hpw : (pl.map (·.1)).Pairwise fun a b => ncode a < ncode b := (sorted_names hny (hys.nodup_iff.mpr hs.nd) hsr).sublist hsub
        exact (List.pairwise_map (f := fun e : Str × Terms => e.1) (R := fun a b => ncode a < ncode b)).mp hpw
      · by_cases hm : n ∈ ys
        · rcases hall n hm with h | h
          · exact h k
          · exact absurd h hn
        · exact hs.none_ n (fun h => hm (hys.mem_iff.mpr h)) k
      · rw [← List.length_map (f := (·.1))]
        exact Nat.lt_of_le_of_lt hsub.length_le hlt
theorem ok_raw_effect {f : Addr} {fd : FuncData} (F : Fun K "raw_effect" "raw_effect" s_raw_effect f fd) (B : Bl mg) (h_raw_steps : Has P w K mg base "raw_steps" 14 ["program"] spRawSteps) (h_add_step : Has P w K mg base "add_step" 1 ["numbers", "step"] spAddStep) (h_place_from : Has P w K mg base "place_from" 5 ["numbers"] (spPlaceFrom C)) : FnOk P w K mg base CX0 15 f fd ["program"] (spRawEffect C) := by
  refine F.ok sc_raw_effect (fun vs H Q E h => ?_) (fun cdv A outer s H vs Q E hr h => ?_)
  · obtain ⟨a, p, rfl, _⟩ := h
    rfl
  · obtain ⟨a, p, rfl, hq, hw, hz, k⟩ := h
    refine ⟨_, (pss_cons (ps_asg (pe_callH h_raw_steps (hr.mono (by first | decide | omega)) (pa_cons (pv 0) pa_nil)) (pg_tup (by rfl) (pgs_cons (pg_name (i := 1) sc_raw_effect.nd rfl (.inl rfl)) (pgs_cons (pg_name (i := 2) sc_raw_effect.nd rfl (.inl rfl)) pgs_nil))))
    (pss_cons (ps_set (i := 3) sc_raw_effect.nd rfl (.inl rfl) pe_dnewK)
    (pss_cons (ps_for PassesOwn.never rfl (pi_list (pv 2)) (pg_name (i := 4) sc_raw_effect.nd rfl (.inl rfl))
    (pss_one (ps_expr (pe_callH h_add_step (hr.mono (by first | decide | omega)) (pa_cons (pv 3) (pa_cons (pv 4) pa_nil))))))
    (pss_one (ps_ret (pe_tup (pa_cons (pv 1) (pa_cons (pe_callH h_place_from (hr.mono (by first | decide | omega)) (pa_cons (pv 3) pa_nil)) pa_nil)))))))), ?_⟩
    walk_at "go"
    refine ⟨a, p, rfl, hq, hw, hz, fun r l xs H1 nl0 s1 hr1 hl1 he => ?_⟩
    walk_at "go"
    intro sp nsp
    have wu : Wf BC BC 0 (Prog.unroll 1 p) := Prog.wf_unroll (.inl rfl) hw
    have lu := Prog.len_unroll 1 hw
    have ll := Prog.stps_len (Prog.unroll 1 p) 0
    have hok := Prog.stps_ok 0 wu
    have hl2 : upd H1 sp (.dK []) l = some (.lst xs) := h_keep hl1 nsp
    have el := he.1
    walk_at "go"
    refine u_forL (.of hl2) (fun i σ H' => ∃ (ws : List (Str × Addr)) (y4 : Option V), σ = [some (.ref a), some (.int p.head), some (.ref l), some (.ref sp), y4] ∧ i ≤ xs.length ∧ Spot H1 H' sp i (stC ((Prog.stps 0 (Prog.unroll 1 p)).take i)) ws) ?_ ?_ ?_ ?_
    · exact ⟨[], _, rfl, Nat.zero_le _, Spot.empty nsp⟩
    · rintro i σ H' _ ⟨ws, y4, rfl, _, hs⟩
      exact .of (hs.same _ _ hl1)
    · rintro i x σ H' hx ⟨ws, y4, rfl, hi, hs⟩
      obtain ⟨st, hst, b, rfl, hb⟩ := he.at hx
      have hi2 := (List.getElem?_eq_some_iff.mp hx).1
      obtain ⟨w1, w2⟩ := hok st (List.mem_of_getElem? hst)
      walk_at "go"
      refine ⟨sp, b, H1, i, _, ws, st, rfl, hs, by omega, hs.same _ _ hb, w1, w2, fun ws' H2 hs2 _ => ?_⟩
      walk_at "go"
      refine ⟨ws', _, rfl, hi2, ?_⟩
      rw [List.take_succ, hst, stC_snoc']
      exact hs2
    · rintro σ H' ⟨ws, y4, rfl, _, hs⟩
      rw [el, List.take_length] at hs
      walk_at "go"
      refine ⟨sp, H1, _, _, ws, rfl, hs, by omega, fun l2 pl H2 nl2 s2 hpl his hlen hfew => ?_⟩
      walk_at "go"
      intro t nt
      have ec : stC (Prog.stps 0 (Prog.unroll 1 p)) = Prog.wcf 0 (Prog.unroll 1 p) := funext fun n => funext fun k => stC_stps _ 0 n k
      rw [ec] at his
      have sA : Same H (upd H2 t (.tup [.int p.head, .ref l2])) := Same.new (s1.trans (hs.same.trans s2)) nt
      exact k t l2 pl _ sA (free_same (s1.trans hs.same) nl2) upd_same (hpl.same (Same.new0 nt)) his (fun e he => by have := hlen e he; omega) hfew
end

set_option Elab.async false
set_option linter.all false
set_option maxRecDepth 100000
set_option maxHeartbeats 4000000

open PySem PySem.Spec PyProof.Rows L2
section
variable {P : Program} {w : World} {K : PySem.W.Frag} {mg : Str → Option Value} {base : Heap}

local macro_rules | `(tactic| walk_at "s") => `(tactic| (first
  | (with_reducible refine r_dnew ?_)
  | (with_reducible refine r_dget2 ?_)
  | (with_reducible refine r_dget ?_)
  | (with_reducible refine r_dput ?_)
  | (with_reducible refine r_dsetd ?_)
  | ((with_reducible refine JarAt.isD (n := ?nn) (c := ?cc) ?hh ?_); (case hh => assumption))
  ))

local macro_rules | `(tactic| walk_at "s") => `(tactic| (first
  | (with_reducible refine r_prop ?_)
  | (with_reducible refine r_meth ?_)
  | (with_reducible refine r_make ?_)
  | (with_reducible refine r_fld ?_)
  | (with_reducible refine r_sfld ?_)
  | (with_reducible refine r_iOwn ?_)
  | ((with_reducible refine u_rowsAt (mg := ?mm) (C := ?CC) (dx := ?dd) (fv := ?vv) ?tt ?hh ?_); (case tt => assumption); (case hh => walk_at "hp"))
  | ((with_reducible refine r_isPoly (mg := ?mm) (dx := ?dd) (fs := ?ff) ?tt ?hh ?_); (case tt => assumption); (case hh => walk_at "hp"))
  | ((with_reducible refine r_isPolyI (mg := ?mm) ?tt ?_); (case tt => assumption))
  | ((with_reducible refine r_polyInt (mg := ?mm) (C := ?CC) (dx := ?dd) (fs := ?ff) ?tt ?hh ?_); (case tt => assumption); (case hh => walk_at "hp"))
  ))

local macro_rules | `(tactic| walk_at "s") => `(tactic| (first
  | (with_reducible refine r_iKeys ?_)
  | (with_reducible refine rl_disp ?_)
  | (with_reducible refine rl_pc ?_)
  | (with_reducible refine rl_pn ?_)
  ))
theorem ok_l_jar_of {f : Addr} {fd : FuncData} (F : Fun K "_law_jar_of" "_law_jar_of" s_l_jar_of f fd) : FnOk P w K mg base CX0 1 f fd ["_law_rows"] spJarOf := by
  refine F.ok sc_l_jar_of (fun vs H Q E h => ?_) (fun cdv A outer s H vs Q E hr h => ?_)
  · obtain ⟨l, ts, rfl, _⟩ := h
    rfl
  · obtain ⟨l, ts, rfl, ⟨vs, hl, ht⟩, hn, k⟩ := h
    refine ⟨_, (pss_cons (ps_set (i := 1) sc_l_jar_of.nd rfl (.inl rfl) pe_dnewK)
    (pss_cons (ps_for PassesOwn.never rfl (pi_list (pv 0)) (pg_tup (by rfl) (pgs_cons (pg_name (i := 2) sc_l_jar_of.nd rfl (.inl rfl)) (pgs_cons (pg_name (i := 3) sc_l_jar_of.nd rfl (.inl rfl)) pgs_nil)))
    (pss_one (ps_dput (hu_of hr) (pv 1) (pv 2) (pe_op op_add (pe_dget2 (hu_of hr) (pv 1) (pv 2) pe_int ⟨rfl, rfl, rfl, rfl⟩) (pv 3)) rfl)))
    (pss_one (ps_ret (pv 1))))), ?_⟩
    walk_at "go"
    intro d nd
    walk_at "go"
    have hvl := ht.length
    refine u_forL (.of (h_keep hl nd)) (fun i σ H' => ∃ (c : Int → Int) (y2 y3 : Option V), σ = [some (.ref l), some (.ref d), y2, y3] ∧ Same H H' ∧ JarAt H' d i c ∧ (∀ k, c k = cof (ts.take i) k) ∧ i ≤ vs.length) ?_ ?_ ?_ ?_
    · exact ⟨_, _, _, rfl, Same.new0 nd, .new, fun k => rfl, Nat.zero_le _⟩
    · rintro i σ H' _ ⟨c, y2, y3, rfl, sm, _⟩
      exact .of (sm _ _ hl)
    · rintro i x σ H' hx ⟨c, y2, y3, rfl, sm, hj, hc, hi⟩
      obtain ⟨b, p, rfl, hp, hb⟩ := ht.at i hx
      have hi2 := (List.getElem?_eq_some_iff.mp hx).1
      have hb' := sm _ _ hb
      walk_at "go"
      obtain ⟨o, g1, g2⟩ := hj.dget0 p.1
      refine ⟨o, g1, ?_⟩
      rw [g2]
      walk_at "go"
      obtain ⟨H4, p1, b1, f1, j1⟩ := hj.dput (k := p.1) (v := c p.1 + p.2) (by omega)
      refine ⟨d, H4, rfl, p1, _, _, _, rfl, Same.but2 sm nd b1, j1, fun k => ?_, hi2⟩
      have et : ts.take (i + 1) = ts.take i ++ [p] := by rw [List.take_succ, hp]; rfl
      rw [et, cof_app, ← hc]
      unfold addAt
      rw [cof, cof]
      by_cases e : k = p.1
      · subst e; rw [if_pos rfl, if_pos rfl]; omega
      · rw [if_neg e, if_neg (fun h => e h.symm)]; omega
    · rintro σ H' ⟨c, y2, y3, rfl, sm, hj, hc, hi⟩
      rw [List.take_of_length_le (by omega)] at hc
      walk_at "go"
      rw [hvl] at hj
      exact k d H' nd sm (hj.ext hc)
theorem ok_l_terms_of {f : Addr} {fd : FuncData} (F : Fun K "_law_terms_of" "_law_terms_of" s_l_terms_of f fd) (bS : mg "sorted" = none) : FnOk P w K mg base CX0 1 f fd ["_law_jar"] spTerms := by
  refine F.ok sc_l_terms_of (fun vs H Q E h => ?_) (fun cdv A outer s H vs Q E hr h => ?_)
  · obtain ⟨a, n, c, rfl, _⟩ := h
    rfl
  · obtain ⟨a, n, c, rfl, hj, hn, k⟩ := h
    refine ⟨_, (pss_one (ps_ret (pe_lc (own := [("_law_deg", 1)]) rfl sc_l_terms_of.nd (pi_list (pe_callB call_sortedDA (by rfl) bS (by decide +kernel) (pa_cons (pv 0) pa_nil))) (blkOk_by (N := ["_law_jar", "_law_deg"]) (sc := defScope s_l_terms_of) (by decide +kernel)) (fun _ _ _ _ _ => (pg_name (i := 1) sc_l_terms_of.nd rfl (.inl rfl))) (fun _ _ _ _ _ => pts_one (pt_cmpR op_ne (pe_dget (hu_of hr) (pv 0) (pv 1) (fun _ _ => rfl)) pe_int (nomark _))) (fun _ _ _ _ _ => (pe_tup (pa_cons (pv 1) (pa_cons (pe_dget (hu_of hr) (pv 0) (pv 1) (fun _ _ => rfl)) pa_nil))))))), ?_⟩
    walk_at "go"
    refine rSortDJ hj fun ys p hys hz hlen hget np => ?_
    have hj1 := hj.keep (o := .lst (ys.map V.int)) np
    refine u_lcL (.of upd_same) (fun D i acc H' => (TermsL H' acc (((ys.take i).filter fun k => decide (c k ≠ 0)).map fun k => (k, c k)) ∧ i ≤ ys.length) ∧ Same (upd H p (.lst (ys.map V.int))) H') ?_ ?_ ?_ ?_
    · exact fun D hD => ⟨⟨rfl, Nat.zero_le _⟩, Same.new0 hD⟩
    · exact fun D i acc H' _ _ ⟨_, s1⟩ => .of (s1 _ _ upd_same)
    · rintro D i x acc H' hD hx hacc ⟨⟨ht, hi⟩, s1⟩
      rw [List.getElem?_map] at hx
      cases hy : ys[i]? with
      | none => rw [hy] at hx; cases hx
      | some y =>
        rw [hy] at hx
        cases hx
        obtain ⟨hi2, ey⟩ := List.getElem?_eq_some_iff.mp hy
        have hj2 := hj1.same s1
        have et : ys.take (i + 1) = ys.take i ++ [y] := by rw [List.take_succ, hy]; rfl
        have hm2 := (hget y (List.mem_of_getElem? hy)).same ((Same.new0 np).trans s1)
        walk_at "go"
        refine ⟨rfl, ?_⟩
        walk_at "go"
        refine ⟨a, _, rfl, hj2.dget hm2, ?_⟩
        walk_at "go"
        refine r_ite (fun hb => ?_) (fun hb => ?_)
        · walk_at "go"
          refine ⟨a, _, rfl, hj2.dget hm2, ?_⟩
          walk_at "go"
          intro t nt
          have nz : decide (c y ≠ 0) = true := by simpa using hb
          have al : acc.length ≤ i := by
            rw [ht.length, List.length_map]
            exact Nat.le_trans (List.length_filter_le _ _) (by rw [List.length_take]; omega)
          refine u_push (h_keep hacc nt) (by omega) ⟨⟨?_, hi2⟩, Same.put (Same.new s1 nt) hD⟩
          have t1 : Tk H' (upd (upd H' t (.tup [.int y, .int (c y)])) D (.lst (acc ++ [.ref t]))) := ((Tk.refl _).new nt).lst (h_keep hacc nt)
          rw [et, List.filter_append, List.map_append, List.filter_cons_of_pos (p := fun k => decide (c k ≠ 0)) nz]
          exact (ht.tk t1).app (.one ((upd_ne (ne_of_none hacc nt).symm).trans upd_same))
        · refine u_skip hacc ⟨⟨?_, hi2⟩, s1⟩
          have nz : ¬ decide (c y ≠ 0) = true := by simpa using hb
          rw [et, List.filter_append, List.filter_cons_of_neg (p := fun k => decide (c k ≠ 0)) nz, List.filter_nil, List.append_nil]
          exact ht
    · rintro D acc H' hD hacc ⟨⟨ht, hi⟩, s1⟩
      walk_at "go"
      rw [List.take_of_length_le (by simp)] at ht
      refine k D _ H' ?_ ((Same.new0 np).trans s1) (canon_of hys c) (fun j => ?_) ?_ ⟨_, hacc, ht⟩
      · exact free_upd hD
      · rw [cof_of hys]
        by_cases hm : j ∈ ys
        · rw [if_pos hm]
        · rw [if_neg hm, hz j hm]
      · rw [List.length_map]
        exact Nat.le_trans (List.length_filter_le _ _) hlen
theorem key_at {kvs : List (Key × V)} {ks : List Int} {i : Nat} {kk : Key} {v : V} (ek : kvs.map (·.1) = ks.map Sum.inl) (h : kvs[i]? = some (kk, v)) : ∃ q, ks[i]? = some q ∧ kk = .inl q := by
  have h1 : (kvs.map (·.1))[i]? = some kk := by rw [List.getElem?_map, h]; rfl
  rw [ek, List.getElem?_map] at h1
  cases e : ks[i]? with
  | none => rw [e] at h1; cases h1
  | some q => rw [e] at h1; exact ⟨q, rfl, (Option.some.inj h1).symm⟩
theorem ok_l_times {f : Addr} {fd : FuncData} (F : Fun K "_law_times" "_law_times" s_l_times f fd) : FnOk P w K mg base CX0 1 f fd ["_law_one", "_law_two"] spTimes := by
  refine F.ok sc_l_times (fun vs H Q E h => ?_) (fun cdv A outer s H vs Q E hr h => ?_)
  · obtain ⟨a, b, n, m, c, d, rfl, _⟩ := h
    rfl
  · obtain ⟨a, b, n, m, c, d, rfl, ha, hb, hn, smc, smd, k⟩ := h
    obtain ⟨kvs1, ks1, e1, hk1, ek1, kl1, kc1, kf1⟩ := ha.list
    obtain ⟨kvs2, ks2, e2, hk2, ek2, kl2, kc2, kf2⟩ := hb.list
    have len1 : kvs1.length = ks1.length := by have := congrArg List.length ek1; simpa using this
    have len2 : kvs2.length = ks2.length := by have := congrArg List.length ek2; simpa using this
    by_cases hab : a = b
    · subst hab
      obtain rfl : kvs1 = kvs2 := by rw [e1] at e2; cases e2; rfl
      refine ⟨_, (pss_cons (ps_set (i := 2) sc_l_times.nd rfl (.inl rfl) pe_dnewK)
    (pss_cons (ps_lock (ps_for PassesOwn.never rfl (pi_keys (pv 0)) (pg_name (i := 3) sc_l_times.nd rfl (.inl rfl))
    (pss_one (ps_for PassesOwn.never rfl (pi_keys (pv 1)) (pg_name (i := 4) sc_l_times.nd rfl (.inl rfl))
    (pss_one (ps_if (PW.pt (pw_and (pt_cmpR op_ne (pe_dget (hu_of hr) (pv 0) (pv 3) (fun _ _ => rfl)) pe_int (nomark _)) (pw_and1 (pt_cmpR op_ne (pe_dget (hu_of hr) (pv 1) (pv 4) (fun _ _ => rfl)) pe_int (nomark _)))))
    (pss_one (ps_dput (hu_of hr) (pv 2) (pe_op op_add (pv 3) (pv 4)) (pe_op op_add (pe_dget2 (hu_of hr) (pv 2) (pe_op op_add (pv 3) (pv 4)) pe_int ⟨rfl, rfl, rfl, rfl⟩) (pe_op op_mulW (pe_dget (hu_of hr) (pv 0) (pv 3) (fun _ _ => rfl)) (pe_dget (hu_of hr) (pv 1) (pv 4) (fun _ _ => rfl)))) rfl))
    pss_nil))))))
    (pss_one (ps_ret (pv 2))))), ?_⟩
      walk_at "go"
      intro p np
      walk_at "go"
      have pa : p ≠ a := (ne_of_none e1 np).symm
      refine ⟨a, .dK kvs1, h_keep e1 np, trivial, fun od1 => ?_⟩
      walk_at "go"
      refine ⟨a, od1, rfl, .inl ⟨kvs1, upd_same, ?_⟩⟩
      refine u_keys (fun i σ H' => ∃ y3 y4 : Option V, σ = [some (.ref a), some (.ref a), some (.ref p), y3, y4] ∧ H' a = some (.frz od1 (.dK kvs1)) ∧ (∀ x o, x ≠ a → x ≠ p → H x = some o → H' x = some o) ∧ JarAt H' p (i * m) (fun z => cmul ((ks1.take i).map fun q => (q, c q)) d z) ∧ i ≤ kvs1.length) ?_ ?_ ?_ ?_
      · refine ⟨_, _, rfl, upd_same, fun x o xa xp h => (upd_ne xa).trans ((upd_ne xp).trans h), ?_, Nat.zero_le _⟩
        exact (JarAt.new.upd pa).mono (Nat.zero_le _)
      · rintro i σ H' ⟨y3, y4, rfl, ha', _⟩
        exact ha'
      · rintro i kk v σ H' hkv ⟨y3, y4, rfl, ha', sm, hj', hi⟩
        have hi2 := (List.getElem?_eq_some_iff.mp hkv).1
        obtain ⟨q, hq, rfl⟩ := key_at ek1 hkv
        show gName 3 (.int q) _ _ _
        walk_at "go"
        refine ⟨a, od1, rfl, .inl ⟨kvs1, ha', ?_⟩⟩
        refine u_keys (fun j σ H2 => ∃ y4 : Option V, σ = [some (.ref a), some (.ref a), some (.ref p), some (.int q), y4] ∧ H2 a = some (.frz od1 (.dK kvs1)) ∧ (∀ x o, x ≠ a → x ≠ p → H x = some o → H2 x = some o) ∧ JarAt H2 p (i * m + j) (fun z => cmul ((ks1.take i).map fun q => (q, c q)) d z + c q * cof ((ks2.take j).map fun r => (r, d r)) (z - q)) ∧ j ≤ kvs1.length) ?_ ?_ ?_ ?_
        · refine ⟨_, rfl, ha', sm, ?_, Nat.zero_le _⟩
          exact hj'.ext fun z => by rw [List.take_zero, List.map_nil, cof]; simp
        · rintro j σ H2 ⟨y4, rfl, ha2, _⟩
          exact ha2
        · rintro j kk v2 σ H2 hkv2 ⟨y4, rfl, ha2, sm2, hj2, hjl⟩
          have hj3 := (List.getElem?_eq_some_iff.mp hkv2).1
          have jmn : i * m + j ≤ 1000000 := by have := Nat.mul_le_mul_right m (by omega : i + 1 ≤ n); have : (i + 1) * m = i * m + m := Nat.succ_mul i m; omega
          obtain ⟨r, hr2, rfl⟩ := key_at ek2 hkv2
          have d1 : DGet H2 a (.int q) (some (.int (cfK kvs1 q))) := JarFz.dget ha2 hk1 (by rw [ek1]; exact List.mem_map.mpr ⟨q, List.mem_of_getElem? hq, rfl⟩)
          have d2 : DGet H2 a (.int r) (some (.int (cfK kvs1 r))) := JarFz.dget ha2 hk2 (by rw [ek2]; exact List.mem_map.mpr ⟨r, List.mem_of_getElem? hr2, rfl⟩)
          rw [kc1] at d1
          rw [kc2] at d2
          show gName 4 (.int r) _ _ _
          walk_at "go"
          refine ⟨a, _, rfl, d1, ?_⟩
          walk_at "go"
          have et2 : (ks2.take (j + 1)).map (fun r => (r, d r)) = (ks2.take j).map (fun r => (r, d r)) ++ [(r, d r)] := by rw [List.take_succ, hr2, List.map_append]; rfl
          have stp : ∀ z, cmul ((ks1.take i).map fun q => (q, c q)) d z + c q * cof ((ks2.take (j + 1)).map fun r => (r, d r)) (z - q) = (cmul ((ks1.take i).map fun q => (q, c q)) d z + c q * cof ((ks2.take j).map fun r => (r, d r)) (z - q)) + (if q + r = z then c q * d r else 0) := fun z => by
            rw [et2, cof_app, cof, cof, Int.mul_add]
            show _ + (_ + c q * ((if r = z - q then d r else 0) + 0)) = _
            by_cases hz : q + r = z
            · rw [if_pos hz, if_pos (by omega), Int.add_zero, Int.add_assoc]
            · rw [if_neg hz, if_neg (by omega)]; simp
          have idle : c q * d r = 0 → JarAt H2 p (i * m + (j + 1)) (fun z => cmul ((ks1.take i).map fun q => (q, c q)) d z + c q * cof ((ks2.take (j + 1)).map fun r => (r, d r)) (z - q)) := fun h0 => (hj2.mono (by omega)).ext fun z => by
            rw [stp z, h0]; simp
          refine r_iteN (fun q0 => ?_) (fun q0 => ?_)
          · walk_at "go"
            refine ⟨a, _, rfl, d2, ?_⟩
            walk_at "go"
            refine r_iteN (fun q1 => ?_) (fun q1 => ?_)
            · walk_at "go"
              obtain ⟨o, g1, g2⟩ := hj2.dget0 (q + r)
              refine ⟨o, g1, ?_⟩
              rw [g2]
              have msg : CMulW (c q) (d r) := mulW_of (smc q) (smd r)
              walk_at "go"
              refine ⟨a, _, rfl, d1, ?_⟩
              walk_at "go"
              refine ⟨a, _, rfl, d2, ?_⟩
              walk_at "go"
              obtain ⟨H4, p1, b1, f1, j1⟩ := hj2.dput (k := q + r) (v := (cmul ((ks1.take i).map fun q => (q, c q)) d (q + r) + c q * cof ((ks2.take j).map fun r => (r, d r)) (q + r - q)) + c q * d r) jmn
              refine ⟨p, H4, rfl, p1, _, rfl, b1 _ _ pa.symm ha2, fun x o xa xj ex => b1 _ _ xj (sm2 x o xa xj ex), (j1.mono (by omega)).ext fun z => ?_, hj3⟩
              rw [stp z]
              unfold addAt
              by_cases hz : q + r = z
              · subst hz; simp
              · simp [hz, Ne.symm hz]
            · walk_at "go"
              exact ⟨_, rfl, ha2, sm2, idle (by rw [q1, Int.mul_zero]), hj3⟩
          · walk_at "go"
            exact ⟨_, rfl, ha2, sm2, idle (by rw [q0, Int.zero_mul]), hj3⟩
        · rintro σ H2 ⟨y4, rfl, ha2, sm2, hj2, hjl⟩
          refine ⟨_, _, rfl, ha2, sm2, ?_, hi2⟩
          · refine (hj2.mono ?_).ext fun z => ?_
            · have := Nat.le_trans (Nat.add_le_add_left (by omega : kvs1.length ≤ m) (i * m)) (Nat.le_of_eq (Nat.succ_mul i m).symm); omega
            · rw [List.take_of_length_le (by omega : ks2.length ≤ kvs1.length), kf2, List.take_succ, hq, List.map_append, cmul_app]
              show _ = _ + cmul [(q, c q)] d z
              rw [cmul, cmul]; simp
      · rintro σ H' ⟨y3, y4, rfl, ha', sm, hj', hi⟩
        refine ⟨ha', ?_⟩
        rw [List.take_of_length_le (by omega)] at hj'
        walk_at "go"
        refine k p _ np (fun x o h => ?_) (((hj'.upd pa).mono (Nat.mul_le_mul_right _ (by omega))).ext fun z => ?_)
        · by_cases xa : x = a
          · subst xa; rw [upd_same, ← e1, h]
          · exact (upd_ne xa).trans (sm x o xa (ne_of_none h np) h)
        · rw [mulF_of kf1 kf2]
          exact (cmul_extr _ z kf2).symm
    · refine ⟨_, (pss_cons (ps_set (i := 2) sc_l_times.nd rfl (.inl rfl) pe_dnewK)
    (pss_cons (ps_lock (ps_for PassesOwn.never rfl (pi_keys (pv 0)) (pg_name (i := 3) sc_l_times.nd rfl (.inl rfl))
    (pss_one (ps_lock (ps_for PassesOwn.never rfl (pi_keys (pv 1)) (pg_name (i := 4) sc_l_times.nd rfl (.inl rfl))
    (pss_one (ps_if (PW.pt (pw_and (pt_cmpR op_ne (pe_dget (hu_of hr) (pv 0) (pv 3) (fun _ _ => rfl)) pe_int (nomark _)) (pw_and1 (pt_cmpR op_ne (pe_dget (hu_of hr) (pv 1) (pv 4) (fun _ _ => rfl)) pe_int (nomark _)))))
    (pss_one (ps_dput (hu_of hr) (pv 2) (pe_op op_add (pv 3) (pv 4)) (pe_op op_add (pe_dget2 (hu_of hr) (pv 2) (pe_op op_add (pv 3) (pv 4)) pe_int ⟨rfl, rfl, rfl, rfl⟩) (pe_op op_mulW (pe_dget (hu_of hr) (pv 0) (pv 3) (fun _ _ => rfl)) (pe_dget (hu_of hr) (pv 1) (pv 4) (fun _ _ => rfl)))) rfl))
    pss_nil)))))))
    (pss_one (ps_ret (pv 2))))), ?_⟩
      walk_at "go"
      intro p np
      walk_at "go"
      have pa : p ≠ a := (ne_of_none e1 np).symm
      have pb : p ≠ b := (ne_of_none e2 np).symm
      refine ⟨a, .dK kvs1, h_keep e1 np, trivial, fun od1 => ?_⟩
      walk_at "go"
      refine ⟨a, od1, rfl, .inl ⟨kvs1, upd_same, ?_⟩⟩
      refine u_keys (fun i σ H' => ∃ y3 y4 : Option V, σ = [some (.ref a), some (.ref b), some (.ref p), y3, y4] ∧ H' a = some (.frz od1 (.dK kvs1)) ∧ (∀ x o, x ≠ a → x ≠ p → H x = some o → H' x = some o) ∧ JarAt H' p (i * m) (fun z => cmul ((ks1.take i).map fun q => (q, c q)) d z) ∧ i ≤ kvs1.length) ?_ ?_ ?_ ?_
      · refine ⟨_, _, rfl, upd_same, fun x o xa xp h => (upd_ne xa).trans ((upd_ne xp).trans h), ?_, Nat.zero_le _⟩
        exact (JarAt.new.upd pa).mono (Nat.zero_le _)
      · rintro i σ H' ⟨y3, y4, rfl, ha', _⟩
        exact ha'
      · rintro i kk v σ H' hkv ⟨y3, y4, rfl, ha', sm, hj', hi⟩
        have hi2 := (List.getElem?_eq_some_iff.mp hkv).1
        obtain ⟨q, hq, rfl⟩ := key_at ek1 hkv
        show gName 3 (.int q) _ _ _
        walk_at "go"
        have eb : H' b = some (.dK kvs2) := sm b _ (fun z => hab z.symm) pb.symm e2
        refine ⟨b, .dK kvs2, eb, trivial, fun od2 => ?_⟩
        walk_at "go"
        refine ⟨b, od2, rfl, .inl ⟨kvs2, upd_same, ?_⟩⟩
        refine u_keys (fun j σ H2 => ∃ y4 : Option V, σ = [some (.ref a), some (.ref b), some (.ref p), some (.int q), y4] ∧ H2 b = some (.frz od2 (.dK kvs2)) ∧ H2 a = some (.frz od1 (.dK kvs1)) ∧ (∀ x o, x ≠ a → x ≠ b → x ≠ p → H x = some o → H2 x = some o) ∧ JarAt H2 p (i * m + j) (fun z => cmul ((ks1.take i).map fun q => (q, c q)) d z + c q * cof ((ks2.take j).map fun r => (r, d r)) (z - q)) ∧ j ≤ kvs2.length) ?_ ?_ ?_ ?_
        · refine ⟨_, rfl, upd_same, (upd_ne hab).trans ha', fun x o xa xb xp h => (upd_ne xb).trans (sm x o xa xp h), ?_, Nat.zero_le _⟩
          exact (hj'.upd pb).ext fun z => by rw [List.take_zero, List.map_nil, cof]; simp
        · rintro j σ H2 ⟨y4, rfl, hb2, _⟩
          exact hb2
        · rintro j kk v2 σ H2 hkv2 ⟨y4, rfl, hb2, ha2, sm2, hj2, hjl⟩
          have hj3 := (List.getElem?_eq_some_iff.mp hkv2).1
          have jmn : i * m + j ≤ 1000000 := by have := Nat.mul_le_mul_right m (by omega : i + 1 ≤ n); have : (i + 1) * m = i * m + m := Nat.succ_mul i m; omega
          obtain ⟨r, hr2, rfl⟩ := key_at ek2 hkv2
          have d1 : DGet H2 a (.int q) (some (.int (cfK kvs1 q))) := JarFz.dget ha2 hk1 (by rw [ek1]; exact List.mem_map.mpr ⟨q, List.mem_of_getElem? hq, rfl⟩)
          have d2 : DGet H2 b (.int r) (some (.int (cfK kvs2 r))) := JarFz.dget hb2 hk2 (by rw [ek2]; exact List.mem_map.mpr ⟨r, List.mem_of_getElem? hr2, rfl⟩)
          rw [kc1] at d1
          rw [kc2] at d2
          show gName 4 (.int r) _ _ _
          walk_at "go"
          refine ⟨a, _, rfl, d1, ?_⟩
          walk_at "go"
          have et2 : (ks2.take (j + 1)).map (fun r => (r, d r)) = (ks2.take j).map (fun r => (r, d r)) ++ [(r, d r)] := by rw [List.take_succ, hr2, List.map_append]; rfl
          have stp : ∀ z, cmul ((ks1.take i).map fun q => (q, c q)) d z + c q * cof ((ks2.take (j + 1)).map fun r => (r, d r)) (z - q) = (cmul ((ks1.take i).map fun q => (q, c q)) d z + c q * cof ((ks2.take j).map fun r => (r, d r)) (z - q)) + (if q + r = z then c q * d r else 0) := fun z => by
            rw [et2, cof_app, cof, cof, Int.mul_add]
            show _ + (_ + c q * ((if r = z - q then d r else 0) + 0)) = _
            by_cases hz : q + r = z
            · rw [if_pos hz, if_pos (by omega), Int.add_zero, Int.add_assoc]
            · rw [if_neg hz, if_neg (by omega)]; simp
          have idle : c q * d r = 0 → JarAt H2 p (i * m + (j + 1)) (fun z => cmul ((ks1.take i).map fun q => (q, c q)) d z + c q * cof ((ks2.take (j + 1)).map fun r => (r, d r)) (z - q)) := fun h0 => (hj2.mono (by omega)).ext fun z => by
            rw [stp z, h0]; simp
          refine r_iteN (fun q0 => ?_) (fun q0 => ?_)
          · walk_at "go"
            refine ⟨b, _, rfl, d2, ?_⟩
            walk_at "go"
            refine r_iteN (fun q1 => ?_) (fun q1 => ?_)
            · walk_at "go"
              obtain ⟨o, g1, g2⟩ := hj2.dget0 (q + r)
              refine ⟨o, g1, ?_⟩
              rw [g2]
              have msg : CMulW (c q) (d r) := mulW_of (smc q) (smd r)
              walk_at "go"
              refine ⟨a, _, rfl, d1, ?_⟩
              walk_at "go"
              refine ⟨b, _, rfl, d2, ?_⟩
              walk_at "go"
              obtain ⟨H4, p1, b1, f1, j1⟩ := hj2.dput (k := q + r) (v := (cmul ((ks1.take i).map fun q => (q, c q)) d (q + r) + c q * cof ((ks2.take j).map fun r => (r, d r)) (q + r - q)) + c q * d r) jmn
              refine ⟨p, H4, rfl, p1, _, rfl, b1 _ _ pb.symm hb2, b1 _ _ pa.symm ha2, fun x o xa xb xj ex => b1 _ _ xj (sm2 x o xa xb xj ex), (j1.mono (by omega)).ext fun z => ?_, hj3⟩
              rw [stp z]
              unfold addAt
              by_cases hz : q + r = z
              · subst hz; simp
              · simp [hz, Ne.symm hz]
            · walk_at "go"
              exact ⟨_, rfl, hb2, ha2, sm2, idle (by rw [q1, Int.mul_zero]), hj3⟩
          · walk_at "go"
            exact ⟨_, rfl, hb2, ha2, sm2, idle (by rw [q0, Int.zero_mul]), hj3⟩
        · rintro σ H2 ⟨y4, rfl, hb2, ha2, sm2, hj2, hjl⟩
          refine ⟨hb2, _, _, rfl, (upd_ne hab).trans ha2, fun x o xa xp h => ?_, ?_, hi2⟩
          · by_cases xb : x = b
            · subst xb; rw [upd_same, ← e2, h]
            · exact (upd_ne xb).trans (sm2 x o xa xb xp h)
          · refine ((hj2.upd pb).mono ?_).ext fun z => ?_
            · have := Nat.le_trans (Nat.add_le_add_left (by omega : kvs2.length ≤ m) (i * m)) (Nat.le_of_eq (Nat.succ_mul i m).symm); omega
            · rw [List.take_of_length_le (by omega : ks2.length ≤ kvs2.length), kf2, List.take_succ, hq, List.map_append, cmul_app]
              show _ = _ + cmul [(q, c q)] d z
              rw [cmul, cmul]; simp
      · rintro σ H' ⟨y3, y4, rfl, ha', sm, hj', hi⟩
        refine ⟨ha', ?_⟩
        rw [List.take_of_length_le (by omega)] at hj'
        walk_at "go"
        refine k p _ np (fun x o h => ?_) (((hj'.upd pa).mono (Nat.mul_le_mul_right _ (by omega))).ext fun z => ?_)
        · by_cases xa : x = a
          · subst xa; rw [upd_same, ← e1, h]
          · exact (upd_ne xa).trans (sm x o xa (ne_of_none h np) h)
        · rw [mulF_of kf1 kf2]
          exact (cmul_extr _ z kf2).symm
end

set_option Elab.async false
set_option linter.all false
set_option maxRecDepth 100000
set_option maxHeartbeats 8000000
set_option pp.deepTerms false
set_option pp.deepTerms.threshold 12
set_option pp.maxSteps 1200

open PySem PySem.Spec PyProof.Rows L2
def spRow : Sp := fun vs H Q _ => ∃ (a : Addr) (z : Str) (st dr F : Int), vs = [.ref a, .str z, .int st, .int dr, .int F] ∧ Bag H a ∧ Names z ∧ 1 ≤ st ∧ st ≤ 1000 ∧ 0 ≤ dr ∧ 0 ≤ F ∧ F ≤ 1000 ∧
  ∀ l xs p H', But a H H' → Bag H' a → H l = none → H' l = some (.lst xs) → PrAt H' p xs → WfL 4000 1 (2 * F) 0 p → p.wayIn F 0 → 1 ≤ p.len → (p.len : Int) ≤ 2 * st + 1 → Q (.ref l) H'
section
variable {P : Program} {w : World} {K : PySem.W.Frag} {mg : Str → Option Value} {base : Heap}

local macro_rules | `(tactic| walk_at "s") => `(tactic| (first
  | (with_reducible refine r_dnew ?_)
  | (with_reducible refine r_dget2 ?_)
  | (with_reducible refine r_dget ?_)
  | (with_reducible refine r_dput ?_)
  | (with_reducible refine r_dsetd ?_)
  | ((with_reducible refine JarAt.isD (n := ?nn) (c := ?cc) ?hh ?_); (case hh => assumption))
  ))

local macro_rules | `(tactic| walk_at "s") => `(tactic| (first
  | (with_reducible refine r_prop ?_)
  | (with_reducible refine r_meth ?_)
  | (with_reducible refine r_make ?_)
  | (with_reducible refine r_fld ?_)
  | (with_reducible refine r_sfld ?_)
  | (with_reducible refine r_iOwn ?_)
  | ((with_reducible refine u_rowsAt (mg := ?mm) (C := ?CC) (dx := ?dd) (fv := ?vv) ?tt ?hh ?_); (case tt => assumption); (case hh => walk_at "hp"))
  | ((with_reducible refine r_isPoly (mg := ?mm) (dx := ?dd) (fs := ?ff) ?tt ?hh ?_); (case tt => assumption); (case hh => walk_at "hp"))
  | ((with_reducible refine r_isPolyI (mg := ?mm) ?tt ?_); (case tt => assumption))
  | ((with_reducible refine r_polyInt (mg := ?mm) (C := ?CC) (dx := ?dd) (fs := ?ff) ?tt ?hh ?_); (case tt => assumption); (case hh => walk_at "hp"))
  ))

local macro_rules | `(tactic| walk_at "s") => `(tactic| (first
  | (with_reducible refine r_iKeys ?_)
  | (with_reducible refine rl_disp ?_)
  | (with_reducible refine rl_pc ?_)
  | (with_reducible refine rl_pn ?_)
  ))
theorem ok_l_row {f : Addr} {fd : FuncData} (F : Fun K "_law_row" "_law_row" s_l_row f fd) (B : Bl mg) (bAbs : mg "abs" = none) (h_l_pick : Has P w K mg base "_law_pick" 1 ["_law_bag", "_law_many"] spPick) (h_l_jar_of : Has P w K mg base "_law_jar_of" 1 ["_law_rows"] spJarOf) (h_l_times : Has P w K mg base "_law_times" 1 ["_law_one", "_law_two"] spTimes) (h_l_terms_of : Has P w K mg base "_law_terms_of" 1 ["_law_jar"] spTerms) : FnOk P w K mg base CX0 2 f fd ["_law_bag", "_law_names_here", "_law_steps", "_law_drawn", "_law_far"] spRow := by
  refine F.ok sc_l_row (fun vs H Q E h => ?_) (fun cdv A outer s H vs Q E hr h => ?_)
  · obtain ⟨a, z, st, dr, F, rfl, _⟩ := h
    rfl
  · obtain ⟨a, z, st, dr, F, rfl, ba, hz, st0, st1, dr0, F0, F1, k⟩ := h
    refine ⟨_, (pss_cons (ps_set (i := 5) sc_l_row.nd rfl (.inl rfl) (pe_lst (pa_cons (pe_lst (pa_cons (pe_un un_neg pe_int) (pa_cons pe_int pa_nil))) (pa_cons (pe_lst (pa_cons pe_int (pa_cons pe_int pa_nil))) (pa_cons (pe_lst (pa_cons pe_int (pa_cons pe_int (pa_cons pe_int pa_nil)))) (pa_cons (pe_lst (pa_cons pe_int (pa_cons pe_int (pa_cons pe_int pa_nil)))) (pa_cons (pe_op op_rep (pe_lst (pa_cons pe_int pa_nil)) pe_int) (pa_cons (pe_lst (pa_cons pe_int (pa_cons (pe_un un_neg pe_int) (pa_cons pe_int pa_nil)))) (pa_cons (pe_lst (pa_cons pe_int (pa_cons pe_int (pa_cons pe_int (pa_cons pe_int (pa_cons pe_int pa_nil)))))) (pa_cons (pe_lst (pa_cons pe_int (pa_cons (pe_un un_neg pe_int) (pa_cons pe_int (pa_cons (pe_un un_neg pe_int) (pa_cons pe_int pa_nil)))))) pa_nil))))))))))
    (pss_cutM (ps_set (i := 5) sc_l_row.nd rfl (.inl rfl) (pe_op op_cat (pv 5) (pe_lst (pa_cons (pe_lst (pa_cons pe_int (pa_cons pe_int (pa_cons (pe_un un_neg pe_int) (pa_cons pe_int (pa_cons pe_int pa_nil)))))) (pa_cons (pe_lst (pa_cons pe_int (pa_cons pe_int (pa_cons pe_int (pa_cons pe_int (pa_cons pe_int (pa_cons pe_int (pa_cons pe_int pa_nil)))))))) (pa_cons (pe_lst (pa_cons pe_int (pa_cons pe_int (pa_cons pe_int (pa_cons (pe_un un_neg pe_int) (pa_cons pe_int (pa_cons pe_int (pa_cons pe_int pa_nil)))))))) (pa_cons (pe_op op_rep (pe_lst (pa_cons pe_int pa_nil)) pe_int) pa_nil)))))))
    (pss_cons (ps_set (i := 6) sc_l_row.nd rfl (.inl rfl) (pe_disp (pps_cons pe_int pe_int pps_nil) rfl rfl (fun h => nomatch h) (by decide)))
    (pss_cons (ps_for PassesOwn.never rfl (pi_range1 (by rfl) B.b_range (pa_cons (pe_callH h_l_pick (hr.mono (by first | decide | omega)) (pa_cons (pv 0) (pa_cons pe_int pa_nil))) pa_nil)) (pg_name (i := 7) sc_l_row.nd rfl (.inl rfl))
    (pss_cons (ps_set (i := 8) sc_l_row.nd rfl (.inr rfl) (pe_ix (ix_listK (K := K)) (pv 5) (pe_callH h_l_pick (hr.mono (by first | decide | omega)) (pa_cons (pv 0) (pa_cons pe_int pa_nil))) (fun _ _ => rfl)))
    (pss_cons (ps_set (i := 9) sc_l_row.nd rfl (.inr rfl) (pe_callH h_l_times (hr.mono (by first | decide | omega)) (pa_cons (pv 6) (pa_cons (pe_callH h_l_jar_of (hr.mono (by first | decide | omega)) (pa_cons (pe_lc (own := [("_law_at", 16)]) rfl sc_l_row.nd (pi_range1 (by rfl) B.b_range (pa_cons (pe_callB (call_lenK (K := K)) (by rfl) B.b_len PySem.boot_len (pa_cons (pv 8) pa_nil)) pa_nil)) (blkOk_by (N := ["_law_bag", "_law_names_here", "_law_steps", "_law_drawn", "_law_far", "_law_rings", "_law_jar", "_law_k", "_law_row_here", "_law_more", "_law_shift", "_law_todo", "_law_deg", "_law_coef", "_law_made", "_law_now", "_law_at", "_law_who", "_law_sign", "_law_hid"]) (sc := defScope s_l_row) (by decide +kernel)) (fun _ _ _ _ _ => (pg_name (i := 16) sc_l_row.nd rfl (.inl rfl))) (fun _ _ _ _ _ => pts_nil) (fun _ _ _ _ _ => (pe_tup (pa_cons (pv 16) (pa_cons (pe_ix (ix_listK (K := K)) (pv 8) (pv 16) (fun _ _ => rfl)) pa_nil))))) pa_nil)) pa_nil))))
    (pss_one (ps_if (PW.pt (pw_and (pt_cmpR op_le (pe_callB (call_sumK (K := K)) (by rfl) B.b_sum (by decide +kernel) (pa_cons (pe_lock (pe_lc (own := [("_law_deg", 12)]) rfl sc_l_row.nd (pi_keys (pv 9)) (blkOk_by (N := ["_law_bag", "_law_names_here", "_law_steps", "_law_drawn", "_law_far", "_law_rings", "_law_jar", "_law_k", "_law_row_here", "_law_more", "_law_shift", "_law_todo", "_law_deg", "_law_coef", "_law_made", "_law_now", "_law_at", "_law_who", "_law_sign", "_law_hid"]) (sc := defScope s_l_row) (by decide +kernel)) (fun _ _ _ _ _ => (pg_name (i := 12) sc_l_row.nd rfl (.inl rfl))) (fun _ _ _ _ _ => pts_nil) (fun _ _ _ _ _ => (pe_callB call_absA (by rfl) bAbs (by decide +kernel) (pa_cons (pe_dget (hu_of hr) (pv 9) (pv 12) (fun _ _ => rfl)) pa_nil))))) pa_nil)) (pv 2) (nomark _)) (pw_and1 (pt_cmpR op_le (pe_callB (cr_max rfl) (by rfl) B.b_max (by decide +kernel) (pa_cons (pe_callTy (call_list_dK rfl) (by rfl) B.b_list (by decide +kernel) (pa_cons (pv 9) pa_nil)) pa_nil)) (pv 4) (nomark _)))))
    (pss_one (ps_set (i := 6) sc_l_row.nd rfl (.inl rfl) (pv 9)))
    pss_nil)))))
    (pss_cons (ps_set (i := 10) sc_l_row.nd rfl (.inl rfl) (pe_op op_sub (pe_callH h_l_pick (hr.mono (by first | decide | omega)) (pa_cons (pv 0) (pa_cons (pe_op op_sub (pe_op op_add (pe_op op_mul pe_int (pv 4)) pe_int) (pe_callB (cr_max rfl) (by rfl) B.b_max (by decide +kernel) (pa_cons (pe_callTy (call_list_dK rfl) (by rfl) B.b_list (by decide +kernel) (pa_cons (pv 6) pa_nil)) pa_nil))) pa_nil))) (pv 4)))
    (pss_cons (ps_set (i := 11) sc_l_row.nd rfl (.inl rfl) (pe_lst pa_nil))
    (pss_cons (ps_for PassesOwn.never rfl (pi_list (pe_callH h_l_terms_of (hr.mono (by first | decide | omega)) (pa_cons (pv 6) pa_nil))) (pg_tup (by rfl) (pgs_cons (pg_name (i := 12) sc_l_row.nd rfl (.inl rfl)) (pgs_cons (pg_name (i := 13) sc_l_row.nd rfl (.inl rfl)) pgs_nil)))
    (pss_one (ps_set (i := 11) sc_l_row.nd rfl (.inl rfl) (pe_op op_cat (pv 11) (pe_op op_rep (pe_lst (pa_cons (pe_tup (pa_cons (pe_op op_add (pv 12) (pv 10)) (pa_cons (pe_ix ix_str (pv 1) pe_int (fun _ _ => rfl)) (pa_cons (pe_callTy call_intB (by rfl) B.b_int (by decide +kernel) (pa_cons (pe_cmpR op_gt (pv 13) pe_int (nomark _)) pa_nil)) pa_nil)))) pa_nil)) (pe_callB call_absA (by rfl) bAbs (by decide +kernel) (pa_cons (pv 13) pa_nil)))))))
    (pss_cutM (ps_if (pt_cmpR op_eq (pe_callH h_l_pick (hr.mono (by first | decide | omega)) (pa_cons (pv 0) (pa_cons pe_int pa_nil))) pe_int (nomark _))
    (pss_one (ps_for PassesOwn.never rfl (pi_range1 (by rfl) B.b_range (pa_cons (pe_callH h_l_pick (hr.mono (by first | decide | omega)) (pa_cons (pv 0) (pa_cons (pe_op op_add (pe_op op_sub (pv 2) (pe_callB (call_lenK (K := K)) (by rfl) B.b_len PySem.boot_len (pa_cons (pv 11) pa_nil))) pe_int) pa_nil))) pa_nil)) (pg_name (i := 7) sc_l_row.nd rfl (.inl rfl))
    (pss_one (ps_expr (pe_bm PySem.F.plainAttrs_list PySem.F.slot_list_append PySem.F.type_list_append mt_append (pv 11) (pa_cons (pe_tup (pa_cons (pe_op op_sub (pe_callH h_l_pick (hr.mono (by first | decide | omega)) (pa_cons (pv 0) (pa_cons (pe_op op_add (pe_op op_mul pe_int (pv 4)) pe_int) pa_nil))) (pv 4)) (pa_cons (pe_ix ix_str (pv 1) (pe_callH h_l_pick (hr.mono (by first | decide | omega)) (pa_cons (pv 0) (pa_cons pe_int pa_nil))) (fun _ _ => rfl)) (pa_cons (pe_callH h_l_pick (hr.mono (by first | decide | omega)) (pa_cons (pv 0) (pa_cons pe_int pa_nil))) pa_nil)))) pa_nil))))))
    pss_nil)
    (pss_cons (ps_set (i := 14) sc_l_row.nd rfl (.inl rfl) (pe_lst pa_nil))
    (pss_cons (ps_set (i := 15) sc_l_row.nd rfl (.inl rfl) pe_int)
    (pss_cons (ps_for PassesOwn.never rfl (pi_range1 (by rfl) B.b_range (pa_cons (pe_callB (call_lenK (K := K)) (by rfl) B.b_len PySem.boot_len (pa_cons (pv 11) pa_nil)) pa_nil)) (pg_name (i := 7) sc_l_row.nd rfl (.inl rfl))
    (pss_cons (ps_set (i := 16) sc_l_row.nd rfl (.inl rfl) (pe_callH h_l_pick (hr.mono (by first | decide | omega)) (pa_cons (pv 0) (pa_cons (pe_callB (call_lenK (K := K)) (by rfl) B.b_len PySem.boot_len (pa_cons (pv 11) pa_nil)) pa_nil))))
    (pss_cons (ps_asg (pe_ix (ix_listK (K := K)) (pv 11) (pv 16) (fun _ _ => rfl)) (pg_tup (by rfl) (pgs_cons (pg_name (i := 12) sc_l_row.nd rfl (.inl rfl)) (pgs_cons (pg_name (i := 17) sc_l_row.nd rfl (.inl rfl)) (pgs_cons (pg_name (i := 18) sc_l_row.nd rfl (.inl rfl)) pgs_nil)))))
    (pss_cons (ps_set (i := 11) sc_l_row.nd rfl (.inl rfl) (pe_op op_cat (pe_slice sl_list (pv 11) po_none (po_some (pv 16))) (pe_slice sl_list (pv 11) (po_some (pe_op op_add (pv 16) pe_int)) po_none)))
    (pss_cutM (ps_if (PW.pt (pw_or (pt_cmpR op_ne (pv 12) (pv 15) (nomark _)) (pw_or1 (pt_cmpR op_eq (pe_callH h_l_pick (hr.mono (by first | decide | omega)) (pa_cons (pv 0) (pa_cons pe_int pa_nil))) pe_int (nomark _)))))
    (pss_cons (ps_expr (pe_bm PySem.F.plainAttrs_list PySem.F.slot_list_append PySem.F.type_list_append mt_append (pv 14) (pa_cons (pe_tup (pa_cons pe_str (pa_cons (pe_op op_sub (pv 12) (pv 15)) pa_nil))) pa_nil)))
    (pss_one (ps_set (i := 15) sc_l_row.nd rfl (.inl rfl) (pv 12))))
    pss_nil)
    (pss_cutM (ps_set (i := 19) sc_l_row.nd rfl (.inl rfl) (pe_callTy call_intB (by rfl) B.b_int (by decide +kernel) (pa_cons (pe_or (pe_cmpR op_eq (pv 3) pe_int (nomark _)) (pe_one (pe_cmpR op_eq (pe_callH h_l_pick (hr.mono (by first | decide | omega)) (pa_cons (pv 0) (pa_cons pe_int pa_nil))) pe_int (nomark _)))) pa_nil)))
    (pss_cons (ps_set (i := 3) sc_l_row.nd rfl (.inl rfl) (pe_op op_add (pe_op op_sub (pv 3) pe_int) (pv 19)))
    (pss_one (ps_expr (pe_bm PySem.F.plainAttrs_list PySem.F.slot_list_append PySem.F.type_list_append mt_append (pv 14) (pa_cons (pe_tup (pa_cons (pe_ix (ix_listK (K := K)) (pe_lst (pa_cons pe_str (pa_cons pe_str (pa_cons pe_str (pa_cons pe_str pa_nil))))) (pe_op op_add (pv 18) (pe_op op_mul pe_int (pv 19))) (fun _ _ => rfl)) (pa_cons (pv 17) pa_nil))) pa_nil)))))))))))
    (pss_one (ps_ret (pe_op op_cat (pv 14) (pe_slice sl_list (pe_lst (pa_cons (pe_tup (pa_cons pe_str (pa_cons (pe_op op_sub (pe_op op_sub (pe_callH h_l_pick (hr.mono (by first | decide | omega)) (pa_cons (pv 0) (pa_cons (pe_op op_add (pe_op op_mul pe_int (pv 4)) pe_int) pa_nil))) (pv 4)) (pv 15)) pa_nil))) pa_nil)) po_none (po_some (pe_callH h_l_pick (hr.mono (by first | decide | omega)) (pa_cons (pv 0) (pa_cons pe_int pa_nil))))))))))))))))))), ?_⟩
    walk_at "go"
    intro e0 n0
    walk_at "go"
    intro e1 n1
    walk_at "go"
    intro e2 n2
    walk_at "go"
    intro e3 n3
    walk_at "go"
    intro o4 m4
    walk_at "go"
    refine r_rep (xs := [.int 1]) (by walk_at "hp") (by decide) (by decide) (by decide) fun e4 n4 => ?_
    walk_at "go"
    intro e5 n5
    walk_at "go"
    intro e6 n6
    walk_at "go"
    intro e7 n7
    walk_at "go"
    intro w1 k1
    walk_at "go"
    refine r_cut (fun σ' H' => ∃ (rg : Addr) (xs : List V), σ' = [some (.ref a), some (.str z), some (.int st), some (.int dr), some (.int F), some (.ref rg), none, none, none, none, none, none, none, none, none, none, none, none, none, none] ∧ Same H H' ∧ H' rg = some (.lst xs) ∧ rg ≠ a ∧ xs.length = 12 ∧ ∀ x ∈ xs, RingV a H' x) ?_ ?_
    · walk_at "go"
      intro e8 n8
      walk_at "go"
      intro e9 n9
      walk_at "go"
      intro e10 n10
      walk_at "go"
      intro o11 m11
      walk_at "go"
      refine r_rep (xs := [.int 1]) (by walk_at "hp") (by decide) (by decide) (by decide) fun e11 n11 => ?_
      walk_at "go"
      intro w2 k2
      walk_at "go"
      intro rg nrg
      walk_at "go"
      have sA := (Same.new (Same.new (Same.new (Same.new (Same.new (Same.new (Same.new (Same.new (Same.new (Same.new (Same.new (Same.new (Same.new (Same.new (Same.new (Same.new0 n0 (o := .lst [.int (-1), .int (1)])) n1 (o := .lst [.int (1), .int (1)])) n2 (o := .lst [.int (1), .int (1), .int (1)])) n3 (o := .lst [.int (1), .int (0), .int (1)])) m4 (o := .lst [.int 1])) n4 (o := .lst [.int (1), .int (1), .int (1), .int (1), .int (1)])) n5 (o := .lst [.int (1), .int (-1), .int (1)])) n6 (o := .lst [.int (1), .int (0), .int (0), .int (0), .int (1)])) n7 (o := .lst [.int (1), .int (-1), .int (1), .int (-1), .int (1)])) k1 (o := .lst [.ref e0, .ref e1, .ref e2, .ref e3, .ref e4, .ref e5, .ref e6, .ref e7])) n8 (o := .lst [.int (1), .int (0), .int (-1), .int (0), .int (1)])) n9 (o := .lst [.int (1), .int (0), .int (0), .int (1), .int (0), .int (0), .int (1)])) n10 (o := .lst [.int (1), .int (0), .int (0), .int (-1), .int (0), .int (0), .int (1)])) m11 (o := .lst [.int 1])) n11 (o := .lst [.int (1), .int (1), .int (1), .int (1), .int (1), .int (1), .int (1)])) k2 (o := .lst [.ref e8, .ref e9, .ref e10, .ref e11]))
      refine ⟨rg, _, rfl, Same.new sA nrg, upd_same, (Bag.ne (ba.same sA) nrg), rfl, fun x hx => ?_⟩
      obtain ⟨b1, b2, b3, eb, _⟩ := ba
      simp only [List.cons_append, List.nil_append, List.mem_cons, List.not_mem_nil, or_false] at hx
      rcases hx with rfl | rfl | rfl | rfl | rfl | rfl | rfl | rfl | rfl | rfl | rfl | rfl
      · exact ⟨e0, [-1, 1], rfl, Ne.symm (ne_of_none (o := .lst [.int b1, .int b2, .int b3]) (by walk_at "hp") n0), by walk_at "hp", by decide⟩
      · exact ⟨e1, [1, 1], rfl, Ne.symm (ne_of_none (o := .lst [.int b1, .int b2, .int b3]) (by walk_at "hp") n1), by walk_at "hp", by decide⟩
      · exact ⟨e2, [1, 1, 1], rfl, Ne.symm (ne_of_none (o := .lst [.int b1, .int b2, .int b3]) (by walk_at "hp") n2), by walk_at "hp", by decide⟩
      · exact ⟨e3, [1, 0, 1], rfl, Ne.symm (ne_of_none (o := .lst [.int b1, .int b2, .int b3]) (by walk_at "hp") n3), by walk_at "hp", by decide⟩
      · exact ⟨e4, [1, 1, 1, 1, 1], rfl, Ne.symm (ne_of_none (o := .lst [.int b1, .int b2, .int b3]) (by walk_at "hp") n4), by walk_at "hp", by decide⟩
      · exact ⟨e5, [1, -1, 1], rfl, Ne.symm (ne_of_none (o := .lst [.int b1, .int b2, .int b3]) (by walk_at "hp") n5), by walk_at "hp", by decide⟩
      · exact ⟨e6, [1, 0, 0, 0, 1], rfl, Ne.symm (ne_of_none (o := .lst [.int b1, .int b2, .int b3]) (by walk_at "hp") n6), by walk_at "hp", by decide⟩
      · exact ⟨e7, [1, -1, 1, -1, 1], rfl, Ne.symm (ne_of_none (o := .lst [.int b1, .int b2, .int b3]) (by walk_at "hp") n7), by walk_at "hp", by decide⟩
      · exact ⟨e8, [1, 0, -1, 0, 1], rfl, Ne.symm (ne_of_none (o := .lst [.int b1, .int b2, .int b3]) (by walk_at "hp") n8), by walk_at "hp", by decide⟩
      · exact ⟨e9, [1, 0, 0, 1, 0, 0, 1], rfl, Ne.symm (ne_of_none (o := .lst [.int b1, .int b2, .int b3]) (by walk_at "hp") n9), by walk_at "hp", by decide⟩
      · exact ⟨e10, [1, 0, 0, -1, 0, 0, 1], rfl, Ne.symm (ne_of_none (o := .lst [.int b1, .int b2, .int b3]) (by walk_at "hp") n10), by walk_at "hp", by decide⟩
      · exact ⟨e11, [1, 1, 1, 1, 1, 1, 1], rfl, Ne.symm (ne_of_none (o := .lst [.int b1, .int b2, .int b3]) (by walk_at "hp") n11), by walk_at "hp", by decide⟩
    rintro σ' H1 ⟨rg, xs, rfl, s1, hrg, nrg, lx, hx⟩
    have b1 := ba.same s1
    walk_at "go"
    intro j nj
    walk_at "go"
    refine ⟨upd_same, [(.inl 0, .int 1)], rfl, by simp, ?_⟩
    have nja : j ≠ a := b1.ne nj
    have sj : Same H1 (upd (upd H1 j (.dK [])) j (.dK (mergeK [] [(.inl 0, .int 1)]))) := Same.put (Same.new0 nj) nj
    have rj : RowJar (upd (upd H1 j (.dK [])) j (.dK (mergeK [] [(.inl 0, .int 1)]))) a j 0 st F _ [0] := rowJar_one nja st0 F0
    have bj := b1.same sj
    have hrj := sj _ _ hrg
    have hxj : ∀ x ∈ xs, RingV a (upd (upd H1 j (.dK [])) j (.dK (mergeK [] [(.inl 0, .int 1)]))) x := fun x m => (hx x m).but (Same.but sj a)
    have buj : But a H (upd (upd H1 j (.dK [])) j (.dK (mergeK [] [(.inl 0, .int 1)]))) := Same.but (s1.trans sj) a
    generalize (upd (upd H1 j (.dK [])) j (.dK (mergeK [] [(.inl 0, .int 1)]))) = H2 at *
    walk_at "go"
    refine u_pick bj (by decide) (by decide) fun r H3 r0 r1 bu3 b3 => ?_
    walk_at "go"
    refine u_for1 ?_ (fun i σ H' => ∃ (j : Addr) (c : Int → Int) (ks : List Int) (y7 y8 y9 : Option V), σ = [some (.ref a), some (.str z), some (.int st), some (.int dr), some (.int F), some (.ref rg), some (.ref j), y7, y8, y9, none, none, none, none, none, none, none, none, none, none] ∧ But a H H' ∧ Bag H' a ∧ RowJar H' a j i st F c ks ∧ H' rg = some (.lst xs) ∧ ∀ x ∈ xs, RingV a H' x) ?_ ?_ ?_
    · omega
    · exact ⟨j, _, _, _, _, _, rfl, buj.trans bu3, b3, rj.but bu3, bu3 _ _ nrg hrj, fun x m => (hxj x m).but bu3⟩
    · clear rj hrj hxj bj buj hx hrg sj nja nj b3
      clear j
      rintro i σ H4 hi ⟨j, c, ks, y7, y8, y9, rfl, bu4, b4, rj, hrg, hx⟩
      have i3 : i ≤ 2 := by omega
      walk_at "go"
      refine u_pick b4 (by omega) (by omega) fun q H5 q0 q1 bu5 b5 => ?_
      have rj5 := rj.but bu5
      have hrg5 := bu5 _ _ nrg hrg
      have hx5 : ∀ x ∈ xs, RingV a H5 x := fun x m => (hx x m).but bu5
      have buA := bu4.trans bu5
      clear rj hrg hx bu4 bu5 b4
      clear H4
      obtain ⟨v, hv1, hv2⟩ := atI_get (xs := xs) q0 (by omega)
      obtain ⟨e, ns, rfl, nea, he, rn⟩ := hx5 v hv2
      refine r_ixL (SqL.of hrg5) hv1 ?_
      walk_at "go"
      have ln := rn.1
      have hlm : (ns.map V.int).length = ns.length := List.length_map ..
      refine u_lc1 ?_ (fun D i acc H' => (TermsL H' acc (enumT ns i) ∧ i ≤ ns.length) ∧ Same H5 H') ?_ ?_ ?_
      · omega
      · exact fun D hD => ⟨⟨rfl, Nat.zero_le _⟩, Same.new0 hD⟩
      · rintro D i acc H6 hD hi hacc ⟨⟨ht, hi0⟩, s6⟩
        have hin : i < ns.length := by omega
        have al := ht.length
        rw [enumT_len] at al
        walk_at "go"
        refine ⟨rfl, ?_⟩
        walk_at "go"
        refine r_ixL (SqL.of (s6 _ _ he)) (atI_ints hin) ?_
        walk_at "go"
        intro t nt
        refine u_push (h_keep hacc nt) (by omega) ⟨⟨?_, hin⟩, Same.put (Same.new s6 nt) hD⟩
        have t1 : Tk H6 (upd (upd H6 t (.tup [.int i, .int (ns.getD i 0)])) D (.lst (acc ++ [.ref t]))) := ((Tk.refl _).new nt).lst (h_keep hacc nt)
        rw [enumT_succ]
        exact (ht.tk t1).app (.one ((upd_ne (ne_of_none hacc nt).symm).trans upd_same))
      · rintro D acc H6 hD hacc ⟨⟨ht, hi0⟩, s6⟩
        have et : ((ns.map V.int).length : Int).toNat = ns.length := by omega
        rw [et] at ht
        walk_at "go"
        refine ⟨D, _, rfl, ⟨_, hacc, ht⟩, by rw [enumT_len]; omega, fun d H7 nd s7 jd => ?_⟩
        rw [enumT_len] at jd
        have rj7 := rj5.same (s6.trans s7)
        have jd7 := jd.mono ln.2
        have hb2 : 7 ^ i ≤ 49 := by
          rcases (by omega : i = 0 ∨ i = 1 ∨ i = 2) with rfl | rfl | rfl <;> decide
        refine ⟨j, d, _, _, _, _, rfl, rj7.jar, jd7, by omega, fun k => ?_, fun k => ?_, fun p H8 np s8 jp => ?_⟩
        · have := rj7.le k
          refine Nat.lt_of_le_of_lt (m := 1000) (by omega) (by decide +kernel)
        · exact Nat.lt_of_le_of_lt (rn.sm k) (by decide +kernel)
        walk_at "go"
        obtain ⟨kvs, qs, ep, hk, ek, kl, kc, kf⟩ := jp.list
        refine ⟨p, .dK kvs, ep, trivial, fun od => ?_⟩
        walk_at "go"
        refine u_lcK upd_same ek (fun D i acc H' => (acc = (qs.take i).map (fun q => V.int (((cfK kvs q).natAbs : Nat) : Int)) ∧ i ≤ qs.length) ∧ Same (upd H8 p (.frz od (.dK kvs))) H') ?_ ?_ ?_ ?_
        · exact fun D hD => ⟨⟨rfl, Nat.zero_le _⟩, Same.new0 hD⟩
        · exact fun D i acc H' _ _ ⟨_, s9⟩ => s9 _ _ upd_same
        · rintro D i q acc H9 hD hq hacc ⟨⟨rfl, hi0⟩, s9⟩
          have hi2 := (List.getElem?_eq_some_iff.mp hq).1
          have hd : DGet H9 p (.int q) (some (.int (cfK kvs q))) := JarFz.dget (s9 _ _ upd_same) hk (by rw [ek]; exact List.mem_map.mpr ⟨q, List.mem_of_getElem? hq, rfl⟩)
          walk_at "go"
          refine ⟨rfl, ?_⟩
          walk_at "go"
          refine ⟨p, _, rfl, hd, ?_⟩
          walk_at "go"
          refine r_abs ?_
          rw [abs_int]
          refine u_push hacc (by rw [List.length_map, List.length_take]; omega) ⟨⟨?_, hi2⟩, Same.put s9 hD⟩
          rw [List.take_succ, hq, List.map_append]
          rfl
        · rintro D acc H9 hD hacc ⟨⟨rfl, hi0⟩, s9⟩
          rw [List.take_of_length_le (Nat.le_refl _)] at hacc
          have efz := s9 _ _ (upd_same (H := H8) (a := p) (o := .frz od (.dK kvs)))
          refine ⟨efz, ?_⟩
          have s10 := unlock_same ep s9
          have hD3 : upd H9 p (.dK kvs) D = _ := (upd_ne (fun z => by subst z; rw [efz] at hacc; cases hacc)).trans hacc
          have ep2 : upd H9 p (.dK kvs) p = some (.dK kvs) := upd_same
          generalize upd H9 p (.dK kvs) = H10 at *
          walk_at "go"
          refine r_sum (ns := qs.map fun q => (((cfK kvs q).natAbs : Nat) : Int)) (SqL.of (by rw [hD3, List.map_map]; rfl)) ?_
          walk_at "go"
          have nk := hk.nk ek
          have efz2 : cfK kvs = mulF c (cof (enumT ns ns.length)) := funext kc
          have kz : ∀ k, ¬ k ∈ qs → mulF c (cof (enumT ns ns.length)) k = 0 := fun k m => (kc k).symm.trans (nk.2 k m)
          have z0 := rj7.times_zero rn kz
          have b7 := b5.same (s6.trans s7)
          have npa : p ≠ a := b7.ne np
          have sB : Same H5 H10 := (s6.trans s7).trans (s8.trans s10)
          have jp10 : JarAt H10 p (7 ^ (i + 1)) (mulF c (cof (enumT ns ns.length))) := by
            rw [Nat.pow_succ]
            exact jp.same s10
          have old : RowJar H10 a j (i + 1) st F c ks := (rj5.same sB).mono
          have hrg10 := sB _ _ hrg5
          have hx10 : ∀ x ∈ xs, RingV a H10 x := fun x m => (hx5 x m).but (Same.but sB a)
          have buB := buA.trans (Same.but sB a)
          have b10 := b5.same sB
          refine r_iteD (fun hs => ?_) (fun hs => ?_)
          · walk_at "go"
            refine ⟨p, kvs, rfl, ep2, fun ml nm => ?_⟩
            walk_at "go"
            refine ⟨ml, qs, rfl, SqL.of (by rw [← keys_int ek]; exact upd_same), List.length_pos_of_mem z0, fun m hm hle => ?_⟩
            walk_at "go"
            refine r_iteD (fun ht => ?_) (fun ht => ?_)
            · walk_at "go"
              refine ⟨p, _, qs, _, _, _, rfl, buB.trans (Same.but (Same.new0 nm) a), b10.keep nm, RowJar.same (rj7.times rn jp10 npa ep2 ek nk.1 kz (fun k hk => Int.le_trans (hle k hk) ht) ?_ rj7.kf) (Same.new0 nm), h_keep hrg10 nm, fun x m => (hx10 x m).but (Same.but (Same.new0 nm) a)⟩
              rw [← efz2, ← sum_abs]
              exact hs
            · walk_at "go"
              exact ⟨j, c, ks, _, _, _, rfl, buB.trans (Same.but (Same.new0 nm) a), b10.keep nm, old.same (Same.new0 nm), h_keep hrg10 nm, fun x m => (hx10 x m).but (Same.but (Same.new0 nm) a)⟩
          · walk_at "go"
            exact ⟨j, c, ks, _, _, _, rfl, buB, b10, old, hrg10, hx10⟩
    · clear rj hrj hxj bj buj hx hrg sj nja nj b3
      clear j
      rintro σ H4 ⟨j, c, ks, y7, y8, y9, rfl, bu4, b4, rj4, hrg4, hx4⟩
      walk_at "go"
      obtain ⟨kvs, ej, ek⟩ := rj4.key
      refine ⟨j, kvs, rfl, ej, fun ml nm => ?_⟩
      walk_at "go"
      refine ⟨ml, ks, rfl, SqL.of (by rw [← keys_int ek]; exact upd_same), List.length_pos_of_mem rj4.zero, fun m hm hle => ?_⟩
      have m0 := hle 0 rj4.zero
      have m1 := rj4.top m hm
      walk_at "go"
      refine u_pick (b4.keep nm) (by omega) (by omega) fun q H5 q0 q1 bu5 b5 => ?_
      have rj5 := (rj4.same (Same.new0 nm (o := .lst (kvs.map fun kv => kV kv.1)))).but bu5
      have buA := (bu4.trans (Same.but (Same.new0 nm (o := .lst (kvs.map fun kv => kV kv.1))) a)).trans bu5
      walk_at "go"
      intro t0 n0
      walk_at "go"
      have t0a : t0 ≠ a := b5.ne n0
      have ft : H t0 = none := But.free buA t0a n0
      have r3 : (7 : Nat) ^ r.toNat ≤ 343 := by
        rcases (by omega : r.toNat = 0 ∨ r.toNat = 1 ∨ r.toNat = 2 ∨ r.toNat = 3) with e | e | e | e <;> rw [e] <;> decide
      refine ⟨j, _, c, rfl, (rj5.same (Same.new0 n0)).jar, by omega, fun l ts H6 nl s6 can ec len ⟨vl, hl, htl⟩ => ?_⟩
      have sum_ts := terms_sum can ec rj5.kz
      have sum_st := rj5.sum
      have one_ts : 1 ≤ (ts.map fun p => p.2.natAbs).sum := by
        cases hts : ts with
        | nil =>
          have h0 := ec 0
          rw [hts] at h0
          have h0 : (0 : Int) = c 0 := h0
          rcases rj5.one with e | e <;> omega
        | cons p us =>
          have nz := can.nz p (by rw [hts]; simp)
          rw [List.map_cons, List.sum_cons]
          omega
      have deg_ts : ∀ p ∈ ts, 0 ≤ p.1 ∧ p.1 ≤ m := fun p hp => by
        have nz := can.nz p hp
        rw [← can.at hp, ec] at nz
        refine ⟨?_, ?_⟩
        · refine Decidable.byContradiction fun hn => nz (rj5.neg _ (by omega))
        · refine hle _ (Decidable.byContradiction fun hn => nz (rj5.kz _ hn))
      have b6 : Bag H6 a := (b5.keep n0).same s6
      have bu6 : But a H H6 := (But.new buA n0).trans (Same.but s6 a)
      have ht0 : H6 t0 = some (.lst []) := s6 _ _ upd_same
      have l6 : Same H6 H6 := Same.refl _
      have td0 : TdAt F a H H6 t0 [] := ⟨bu6, b6, ht0, ft, t0a, fun v hv => absurd hv (by simp)⟩
      clear hrg4 hx4 bu4 b4 rj4 rj5 buA bu5 b5
      have hvl := htl.length
      walk_at "go"
      refine u_forL (.of hl) (fun i σ H' => ∃ (t : Addr) (vs : List V) (y12 y13 : Option V), σ = [some (.ref a), some (.str z), some (.int st), some (.int dr), some (.int F), some (.ref rg), some (.ref j), y7, y8, y9, some (.int (q - F)), some (.ref t), y12, y13, none, none, none, none, none, none] ∧ Same H6 H' ∧ TdAt F a H H' t vs ∧ vs.length = ((ts.take i).map fun p => p.2.natAbs).sum ∧ i ≤ vl.length) ?_ ?_ ?_ ?_
      · exact ⟨t0, [], _, _, rfl, l6, td0, rfl, Nat.zero_le _⟩
      · rintro i σ H' _ ⟨t, vs, y12, y13, rfl, s7, _⟩
        exact .of (s7 _ _ hl)
      · rintro i x σ H7 hx ⟨t, vs, y12, y13, rfl, s7, td, lv, hi⟩
        obtain ⟨b, p, rfl, hp, hb⟩ := htl.at i hx
        have hi2 := (List.getElem?_eq_some_iff.mp hx).1
        have hb' := s7 _ _ hb
        have ht := td.at_
        have pm := List.mem_of_getElem? hp
        have dp := deg_ts p pm
        have ap := le_sumA (fun p : Int × Int => p.2.natAbs) pm
        have et : ((ts.take (i + 1)).map fun p => p.2.natAbs).sum = vs.length + p.2.natAbs := by
          rw [List.take_succ, hp, List.map_append, List.sum_append, lv]
          simp
        walk_at "go"
        obtain ⟨c0, hn0, in0⟩ := names_at hz (by decide : (0 : Int) ≤ 0) (by decide)
        refine r_ixS (names_small hz) hn0 ?_
        walk_at "go"
        intro u nu
        walk_at "go"
        intro l2 nl2
        walk_at "go"
        refine r_abs ?_
        rw [abs_int]
        refine r_rep (xs := [.ref u]) upd_same (by omega) (by omega) (by simp only [List.length_cons, List.length_nil]; omega) fun l3 nl3 => ?_
        rw [show (List.replicate ((p.2.natAbs : Nat) : Int).toNat [V.ref u]).flatten = List.replicate p.2.natAbs (V.ref u) by rw [Int.toNat_natCast]; exact List.flatten_replicate_singleton]
        have td3 := ((td.new nu (o := .tup [.int (p.1 + (q - F)), .str ⟨#[c0]⟩, .int (if decide (0 < p.2) = true then 1 else 0)])).new nl2 (o := .lst [.ref u])).new nl3 (o := .lst (List.replicate p.2.natAbs (.ref u)))
        have lr : (List.replicate p.2.natAbs (V.ref u)).length = p.2.natAbs := List.length_replicate
        have ll : vs.length ≤ (ts.map fun p => p.2.natAbs).sum := by
          rw [lv]
          conv => rhs; rw [← List.take_append_drop i ts, List.map_append, List.sum_append]
          omega
        refine r_cat (xs := vs) (zs := List.replicate p.2.natAbs (.ref u)) td3.at_ upd_same (by omega) fun t2 nt2 => ?_
        walk_at "go"
        have s3 := (Same.new (Same.new (Same.new s7 nu (o := .tup [.int (p.1 + (q - F)), .str ⟨#[c0]⟩, .int (if decide (0 < p.2) = true then 1 else 0)])) nl2 (o := .lst [.ref u])) nl3 (o := .lst (List.replicate p.2.natAbs (.ref u))))
        have t2a := td3.bg.ne nt2
        refine ⟨t2, _, _, _, rfl, Same.new s3 nt2, ⟨td3.bu.new nt2, td3.bg.keep nt2, upd_same, But.free td3.bu t2a nt2, t2a, fun v hv => ?_⟩, ?_, hi2⟩
        · rcases List.mem_append.mp hv with hv | hv
          · exact (td3.all v hv).tk ((Tk.refl _).new nt2)
          · rw [List.eq_of_mem_replicate hv]
            refine ⟨u, _, _, _, rfl, by walk_at "hp", by omega, by omega, in0, ?_⟩
            split
            · exact .inr rfl
            · exact .inl rfl
        · rw [List.length_append, lr, et]
      · rintro σ H7 ⟨t, vs, y12, y13, rfl, s7, td, lv, hi⟩
        rw [List.take_of_length_le (by omega)] at lv
        have lst : (vs.length : Int) ≤ st := by omega
        have lv1 : 1 ≤ vs.length := by omega
        clear s7 lv hi td0 htl hl hvl bu6 b6 ht0 l6
        have ht := td.at_
        walk_at "go"
        refine r_cut (fun σ' H' => ∃ (vs : List V) (y7 : Option V), σ' = [some (.ref a), some (.str z), some (.int st), some (.int dr), some (.int F), some (.ref rg), some (.ref j), y7, y8, y9, some (.int (q - F)), some (.ref t), y12, y13, none, none, none, none, none, none] ∧ TdAt F a H H' t vs ∧ (vs.length : Int) ≤ st ∧ 1 ≤ vs.length) ?_ ?_
        · walk_at "go"
          refine u_pick td.bg (by decide) (by decide) fun r2 H8 _ _ bu8 b8 => ?_
          have td8 := td.pick bu8 b8
          have ht8 := td8.at_
          walk_at "go"
          refine r_iteD (fun hc => ?_) (fun hc => ?_)
          · walk_at "go"
            refine u_pick b8 (by omega) (by omega) fun n H9 g0 g1 bu9 b9 => ?_
            walk_at "go"
            refine u_for1 ?_ (fun i σ H' => ∃ (ws : List V) (y7 : Option V), σ = [some (.ref a), some (.str z), some (.int st), some (.int dr), some (.int F), some (.ref rg), some (.ref j), y7, y8, y9, some (.int (q - F)), some (.ref t), y12, y13, none, none, none, none, none, none] ∧ TdAt F a H H' t ws ∧ ws.length ≤ vs.length + i ∧ 1 ≤ ws.length) ?_ ?_ ?_
            · omega
            · exact ⟨vs, _, rfl, td8.pick bu9 b9, Nat.le_refl _, lv1⟩
            · rintro i σ H10 hi ⟨ws, y7, rfl, tdi, li, lw⟩
              have hti := tdi.at_
              walk_at "go"
              refine u_pick tdi.bg (by omega) (by omega) fun u1 H11 c1 c2 bu11 b11 => ?_
              have td11 := tdi.pick bu11 b11
              walk_at "go"
              refine u_pick b11 (by decide) (by decide) fun u2 H12 c3 c4 bu12 b12 => ?_
              have td12 := td11.pick bu12 b12
              obtain ⟨c0, hn0, in0⟩ := names_at hz c3 c4
              refine r_ixS (names_small hz) hn0 ?_
              walk_at "go"
              refine u_pick b12 (by decide) (by decide) fun u3 H13 c5 c6 bu13 b13 => ?_
              have td13 := td12.pick bu13 b13
              walk_at "go"
              intro u nu
              have td14 := td13.new nu (o := .tup [.int (u1 - F), .str ⟨#[c0]⟩, .int u3])
              have ht14 := td14.at_
              walk_at "go"
              refine ⟨_, _, rfl, td14.push ⟨u, _, _, _, rfl, upd_same, by omega, by omega, in0, by omega⟩, ?_, ?_⟩
              · rw [List.length_append]
                show ws.length + 1 ≤ _
                omega
              · rw [List.length_append]
                omega
            · rintro σ H10 ⟨ws, y7, rfl, tdi, li, lw⟩
              walk_at "go"
              exact ⟨ws, _, rfl, tdi, by omega, lw⟩
          · walk_at "go"
            exact ⟨vs, _, rfl, td8, lst, lv1⟩
        clear ht td lst lv1
        clear vs y7
        rintro σ' H8 ⟨vs, y7, rfl, td, lst, lv1⟩
        have ht := td.at_
        walk_at "go"
        intro mm nmm
        have ma := td.bg.ne nmm
        have fm := But.free td.bu ma nmm
        have tm : t ≠ mm := ne_of_none td.at_ nmm
        have md : MdAt F a H (upd H8 mm (.lst [])) mm [] .nil 0 0 := ⟨upd_same, fm, ma, rfl, WfL.nil, trivial, rfl, by omega, F0, Nat.le_refl _⟩
        have td := td.new nmm (o := .lst [])
        have ht := td.at_
        have nvs : vs.length ≤ 1000 := by omega
        walk_at "go"
        refine u_for1 ?_ (fun i σ H' => ∃ (t : Addr) (vs' ms : List V) (p : Prog) (now dr' : Int) (y7 y12 y13 y16 y17 y18 y19 : Option V), σ = [some (.ref a), some (.str z), some (.int st), some (.int dr'), some (.int F), some (.ref rg), some (.ref j), y7, y8, y9, some (.int (q - F)), some (.ref t), y12, y13, some (.ref mm), some (.int now), y16, y17, y18, y19] ∧ TdAt F a H H' t vs' ∧ MdAt F a H H' mm ms p now (2 * i) ∧ vs'.length + i = vs.length ∧ t ≠ mm ∧ 0 ≤ dr' ∧ i ≤ p.len) ?_ ?_ ?_
        · omega
        · exact ⟨t, vs, [], .nil, 0, dr, _, _, _, _, _, _, _, rfl, td, md, rfl, tm, dr0, Nat.zero_le _⟩
        · clear td md tm ht fm nmm
          clear y7
          rintro i σ H8 hi ⟨t, vs', ms, p, now, dr', y7, y12, y13, y16, y17, y18, y19, rfl, td, md, ln, tm, d0, pl⟩
          have ht := td.at_
          have hi2 : i < vs.length := by omega
          walk_at "go"
          refine u_pick td.bg (by omega) (by omega) fun q1 H9 g0 g1 bu9 b9 => ?_
          have td9 := td.pick bu9 b9
          have md9 := md.pick bu9 td.bg
          have ht9 := td9.at_
          obtain ⟨v, hv1, hv2⟩ := atI_get (xs := vs') g0 g1
          obtain ⟨b, d, nm, s, rfl, hb, dl, dh, inm, hs⟩ := td9.all v hv2
          walk_at "go"
          refine r_ixL (SqL.of ht9) hv1 ?_
          walk_at "go"
          intro c1 n1
          walk_at "go"
          intro c2 n2
          have l1 : (cutV vs' none (some q1)).length = q1.toNat := by rw [cut_takeI g0, List.length_take]; omega
          have l2 : (cutV vs' (some (q1 + 1)) none).length = vs'.length - (q1 + 1).toNat := by rw [cut_dropI (by omega), List.length_drop]
          have td11 := (td9.new n1 (o := .lst (cutV vs' none (some q1)))).new n2 (o := .lst (cutV vs' (some (q1 + 1)) none))
          have md11 := (md9.new n1 (o := .lst (cutV vs' none (some q1)))).new n2 (o := .lst (cutV vs' (some (q1 + 1)) none))
          refine r_cat (xs := cutV vs' none (some q1)) (zs := cutV vs' (some (q1 + 1)) none) (by walk_at "hp") upd_same (by omega) fun c3 n3 => ?_
          have c3a := td11.bg.ne n3
          have td12 : TdAt F a H (upd (upd (upd H9 c1 (.lst (cutV vs' none (some q1)))) c2 (.lst (cutV vs' (some (q1 + 1)) none))) c3 (.lst (cutV vs' none (some q1) ++ cutV vs' (some (q1 + 1)) none))) c3 (cutV vs' none (some q1) ++ cutV vs' (some (q1 + 1)) none) := by
            refine ⟨td11.bu.new n3, td11.bg.keep n3, upd_same, But.free td11.bu c3a n3, c3a, fun x hx => (td11.all x ?_).tk ((Tk.refl _).new n3)⟩
            rcases List.mem_append.mp hx with hx | hx <;> exact cut_mem hx
          have md12 := md11.new n3 (o := .lst (cutV vs' none (some q1) ++ cutV vs' (some (q1 + 1)) none))
          have c3m : c3 ≠ mm := (ne_of_none md11.at_ n3).symm
          have lV : (cutV vs' none (some q1) ++ cutV vs' (some (q1 + 1)) none).length + (i + 1) = vs.length := by rw [List.length_append, l1, l2]; omega
          clear td td9 td11 md md9 md11 ht ht9 hb
          clear hv1 hv2 bu9 b9
          generalize upd (upd (upd H9 c1 _) c2 _) c3 _ = H10 at *
          generalize (cutV vs' none (some q1) ++ cutV vs' (some (q1 + 1)) none) = ws at *
          walk_at "go"
          refine r_cut (fun σ' H' => ∃ (ms : List V) (p : Prog), σ' = [some (.ref a), some (.str z), some (.int st), some (.int dr'), some (.int F), some (.ref rg), some (.ref j), some (.int (i : Int)), y8, y9, some (.int (q - F)), some (.ref c3), some (.int d), y13, some (.ref mm), some (.int d), some (.int q1), some (.str nm), some (.int s), y19] ∧ TdAt F a H H' c3 ws ∧ MdAt F a H H' mm ms p d (2 * i + 1) ∧ i ≤ p.len) ?_ ?_
          · have turned : ∀ H', TdAt F a H H' c3 ws → MdAt F a H H' mm ms p now (2 * i) → ∀ c, H' c = none → TdAt F a H (upd (upd H' c (.tup [.str "turn", .int (d - now)])) mm (.lst (ms ++ [.ref c]))) c3 ws ∧ MdAt F a H (upd (upd H' c (.tup [.str "turn", .int (d - now)])) mm (.lst (ms ++ [.ref c]))) mm (ms ++ [.ref c]) (p.app (.turn (d - now) .nil)) d (2 * i + 1) := by
              intro H' td md c nc
              have mn := md.new nc (o := .tup [.str "turn", .int (d - now)])
              refine ⟨(td.new nc).other mn.at_ md.fr md.ne c3m, mn.push (q := .turn (d - now) .nil) ⟨c, [], rfl, upd_same, rfl⟩ rfl (WfL.turn_iff.mpr ⟨by have := md.n0; have := md.n1; omega, WfL.nil⟩) ⟨by omega, trivial⟩ ?_ dl dh⟩
              show now + ((d - now) + 0) = d
              omega
            have hm := md12.at_
            have lm : ms.length = p.len := md12.pr.length
            have lp := md12.ln
            walk_at "go"
            refine r_iteN (fun hne => ?_) (fun heq => ?_)
            · walk_at "go"
              intro c nc
              have nx := turned _ td12 md12 c nc
              walk_at "go"
              exact ⟨_, _, rfl, nx.1, nx.2, by rw [Prog.len_app]; omega⟩
            · subst heq
              walk_at "go"
              refine u_pick td12.bg (by decide) (by decide) fun r9 H11 _ _ bu b11 => ?_
              have td13 := td12.pick bu b11
              have md13 := md12.pick bu td12.bg
              have hm13 := md13.at_
              walk_at "go"
              refine r_iteD (fun hz => ?_) (fun hz => ?_)
              · walk_at "go"
                intro c nc
                have nx := turned _ td13 md13 c nc
                walk_at "go"
                exact ⟨_, _, rfl, nx.1, nx.2, by rw [Prog.len_app]; omega⟩
              · walk_at "go"
                exact ⟨_, _, rfl, td13, md13.mono, pl⟩
          clear td12 md12 pl
          clear ms p
          rintro σ' H11 ⟨ms, p, rfl, td12, md12, pl⟩
          walk_at "go"
          refine r_cut (fun σ' H' => ∃ hd : Int, σ' = [some (.ref a), some (.str z), some (.int st), some (.int dr'), some (.int F), some (.ref rg), some (.ref j), some (.int (i : Int)), y8, y9, some (.int (q - F)), some (.ref c3), some (.int d), y13, some (.ref mm), some (.int d), some (.int q1), some (.str nm), some (.int s), some (.int hd)] ∧ (hd = 0 ∨ hd = 1) ∧ (dr' = 0 → hd = 1) ∧ TdAt F a H H' c3 ws ∧ MdAt F a H H' mm ms p d (2 * i + 1)) ?_ ?_
          · walk_at "go"
            refine r_iteD (fun hz => ?_) (fun hz => ?_)
            · walk_at "go"
              exact ⟨1, rfl, .inr rfl, fun _ => rfl, td12, md12⟩
            · walk_at "go"
              refine u_pick td12.bg (by decide) (by decide) fun r9 H12 _ _ bu b12 => ?_
              have td13 := td12.pick bu b12
              have md13 := md12.pick bu td12.bg
              walk_at "go"
              refine ⟨_, rfl, ?_, fun e => absurd e hz, td13, md13⟩
              split
              · exact .inr rfl
              · exact .inl rfl
          clear td12 md12
          rintro σ' H12 ⟨hd, rfl, h01, hd0, td, md⟩
          have hm := md.at_
          have lm : ms.length = p.len := md.pr.length
          have lp := md.ln
          walk_at "go"
          intro wl nwl
          have td13 := td.new nwl (o := .lst [.str "back", .str "go", .str "slip", .str "hop"])
          have md13 := md.new nwl (o := .lst [.str "back", .str "go", .str "slip", .str "hop"])
          obtain ⟨wd, hw1, hw2⟩ := word4 (n := s + 2 * hd) (by omega) (by omega)
          walk_at "go"
          refine r_ixL (SqL.of upd_same) hw1 ?_
          walk_at "go"
          intro c nc
          have td14 := td13.new nc (o := .tup [.str wd, .str nm])
          have md14 := md13.new nc (o := .tup [.str wd, .str nm])
          have hm14 := md14.at_
          walk_at "go"
          refine ⟨c3, ws, _, _, d, _, _, _, _, _, _, _, _, rfl, td14.other hm14 md.fr md.ne c3m, md14.push (q := .step wd nm .nil) ⟨c, [], rfl, upd_same, rfl⟩ rfl (WfL.step_iff.mpr ⟨hw2, inm, WfL.nil⟩) trivial (Int.add_zero d) dl dh, lV, c3m, by omega, ?_⟩
          rw [Prog.len_app]
          exact Nat.succ_le_succ pl
        · clear td md tm ht fm nmm
          clear y7
          rintro σ H8 ⟨t, vs', ms, p, now, dr', y7, y12, y13, y16, y17, y18, y19, rfl, td, md, ln, tm, d0, pl⟩
          have hm := md.at_
          have lm : ms.length = p.len := md.pr.length
          have lp := md.ln
          have n0 := md.n0
          have n1 := md.n1
          walk_at "go"
          refine u_pick td.bg (by omega) (by omega) fun u1 H9 g0 g1 bu9 b9 => ?_
          have td9 := td.pick bu9 b9
          have md9 := md.pick bu9 td.bg
          walk_at "go"
          intro c nc
          walk_at "go"
          intro l1 nl1
          have td11 := (td9.new nc (o := .tup [.str "turn", .int (u1 - F - now)])).new nl1 (o := .lst [.ref c])
          have md11 := (md9.new nc (o := .tup [.str "turn", .int (u1 - F - now)])).new nl1 (o := .lst [.ref c])
          have hc : (upd (upd H9 c (.tup [.str "turn", .int (u1 - F - now)])) l1 (.lst [.ref c])) c = some (.tup [.str "turn", .int (u1 - F - now)]) := by walk_at "hp"
          have hl1 : (upd (upd H9 c (.tup [.str "turn", .int (u1 - F - now)])) l1 (.lst [.ref c])) l1 = some (.lst [.ref c]) := upd_same
          have l1a : l1 ≠ a := (td9.new nc (o := .tup [.str "turn", .int (u1 - F - now)])).bg.ne nl1
          clear td9 md9 nl1
          generalize upd (upd H9 c _) l1 _ = H11 at *
          walk_at "go"
          refine u_pick td11.bg (by decide) (by decide) fun u2 H12 c0 c1 bu12 b12 => ?_
          have td12 := td11.pick bu12 b12
          have md12 := md11.pick bu12 td11.bg
          have hm12 := md12.at_
          have hc12 := Tk.but bu12 td11.bg _ _ hc
          have hl12 := bu12 _ _ l1a hl1
          walk_at "go"
          intro l2 nl2
          have md13 := md12.new nl2 (o := .lst (cutV [V.ref c] none (some u2)))
          have td13 := td12.new nl2 (o := .lst (cutV [V.ref c] none (some u2)))
          have hc13 := h_keep (o := .lst (cutV [V.ref c] none (some u2))) hc12 nl2
          have lc := cut_len (xs := [V.ref c]) none (some u2)
          have lc : (cutV [V.ref c] none (some u2)).length ≤ 1 := lc
          refine r_cat (xs := ms) (zs := cutV [V.ref c] none (some u2)) md13.at_ upd_same (by omega) fun l3 nl3 => ?_
          walk_at "go"
          have l3a := td13.bg.ne nl3
          have tk := (Tk.refl (upd H12 l2 (.lst (cutV [V.ref c] none (some u2))))).new nl3 (o := .lst (ms ++ cutV [V.ref c] none (some u2)))
          have plen : (p.len : Int) ≤ 2 * st := by omega
          rcases (by omega : u2 = 0 ∨ u2 = 1) with rfl | rfl
          · refine k l3 _ (p.app .nil) _ (td13.bu.new nl3) (td13.bg.keep nl3) (But.free td13.bu l3a nl3) upd_same ((md13.pr.app (show PrAt _ .nil _ by rw [cut_takeI (by decide)]; rfl)).tk tk) (md13.wf.app WfL.nil) (Prog.wayIn_app md13.wi trivial) (by rw [Prog.len_app]; omega) ?_
            rw [Prog.len_app]
            show ((p.len + 0 : Nat) : Int) ≤ _
            omega
          · refine k l3 _ (p.app (.turn (u1 - F - now) .nil)) _ (td13.bu.new nl3) (td13.bg.keep nl3) (But.free td13.bu l3a nl3) upd_same ((md13.pr.app (show PrAt _ (.turn (u1 - F - now) .nil) _ by rw [cut_takeI (by decide)]; exact ⟨c, [], rfl, hc13, rfl⟩)).tk tk) (md13.wf.app (WfL.turn_iff.mpr ⟨by omega, WfL.nil⟩)) (Prog.wayIn_app md13.wi ⟨?_, trivial⟩) (by rw [Prog.len_app]; omega) ?_
            · rw [md13.hd]; omega
            · rw [Prog.len_app]
              show ((p.len + 1 : Nat) : Int) ≤ _
              omega
end

set_option Elab.async false
set_option linter.all false
set_option maxRecDepth 100000
set_option maxHeartbeats 8000000
set_option pp.deepTerms false
set_option pp.deepTerms.threshold 12
set_option pp.maxSteps 1200

open PySem PySem.Spec PyProof.Rows L2
def spFits : Sp := fun vs H Q _ => ∃ (q : Addr) (p : Prog) (st dr F : Int), vs = [.ref q, .int st, .int dr, .int F] ∧ PrIs H q p ∧ Wf BC BC 12 p ∧ p.len ≤ 4000 ∧ ∀ b H', Same H H' → (b = true → p.size ≤ 190 ∧ Prog.wayIn F 0 (Prog.unroll 1 p)) → Q (.bl b) H'
/-- a short program, nested d deep at most -/
structure Curt (d : Nat) (F : Int) (p : Prog) : Prop where
  wf : Wf BC BC d p
  l0 : 1 ≤ p.len
  l1 : p.len ≤ 60
  sz : p.size ≤ 190
  way : Prog.wayIn F 0 (Prog.unroll 1 p)
def spCurt : Sp := fun vs H Q _ => ∃ (a : Addr) (z : Str) (st dr F : Int), vs = [.ref a, .str z, .int st, .int dr, .int F] ∧ Bag H a ∧ Names z ∧ 1 ≤ st ∧ st ≤ 1000 ∧ 0 ≤ dr ∧ 0 ≤ F ∧ F ≤ 1000 ∧
  ∀ q p H', But a H H' → Bag H' a → PrIs H' q p → Curt 3 F p → Q (.ref q) H'
section
variable {P : Program} {w : World} {K : PySem.W.Frag} {mg : Str → Option Value} {base : Heap}

theorem ok_l_fits {f : Addr} {fd : FuncData} (F : Fun K "_law_fits" "_law_fits" s_l_fits f fd) (B : Bl mg) (h_l_bulk : Has P w K mg base "_law_bulk" 13 ["_law_piece"] (spNumLt Prog.size 13)) (h_l_unroll : Has P w K mg base "_law_unroll" 13 ["_law_piece", "_law_sign"] (spUnLt 13)) : FnOk P w K mg base CX0 14 f fd ["_law_piece", "_law_steps", "_law_drawn", "_law_far"] spFits := by
  refine F.ok sc_l_fits (fun vs H Q E h => ?_) (fun cdv A outer s H vs Q E hr h => ?_)
  · obtain ⟨q, p, st, dr, F, rfl, _⟩ := h
    rfl
  · obtain ⟨q, p, st, dr, F, rfl, hq, hw, hl, k⟩ := h
    refine ⟨_, (pss_cons (ps_if (pt_cmpR op_gt (pe_callH h_l_bulk (hr.mono (by first | decide | omega)) (pa_cons (pv 0) pa_nil)) pe_int (nomark _))
    (pss_one (ps_ret pe_bl))
    pss_nil)
    (pss_cons (ps_set (i := 4) sc_l_fits.nd rfl (.inl rfl) pe_int)
    (pss_cons (ps_for PassesOwn.never rfl (pi_list (pe_callH h_l_unroll (hr.mono (by first | decide | omega)) (pa_cons (pv 0) (pa_cons pe_int pa_nil)))) (pg_tup (by rfl) (pgs_cons (pg_name (i := 5) sc_l_fits.nd rfl (.inl rfl)) (pgs_cons (pg_name (i := 6) sc_l_fits.nd rfl (.inl rfl)) pgs_nil)))
    (pss_one (ps_if (pt_cmpR op_eq (pv 5) pe_str (nomark _))
    (pss_cons (ps_set (i := 4) sc_l_fits.nd rfl (.inl rfl) (pe_op op_add (pv 4) (pv 6)))
    (pss_one (ps_if (PW.pt (pw_or (pt_cmpR op_gt (pv 4) (pv 3) (nomark _)) (pw_or1 (pt_cmpR op_lt (pv 4) (pe_un un_neg (pv 3)) (nomark _)))))
    (pss_one (ps_ret pe_bl))
    pss_nil)))
    (pss_cons (ps_set (i := 1) sc_l_fits.nd rfl (.inl rfl) (pe_op op_sub (pv 1) pe_int))
    (pss_one (ps_set (i := 2) sc_l_fits.nd rfl (.inl rfl) (pe_op op_sub (pv 2) (pe_callTy call_intB (by rfl) B.b_int (by decide +kernel) (pa_cons (pe_cmpR op_in_seq (pv 5) (pe_lst (pa_cons pe_str (pa_cons pe_str pa_nil))) (by rfl)) pa_nil)))))))))
    (pss_one (ps_ret (pe_and (pe_cmpR op_ge (pv 1) pe_int (nomark _)) (pe_one (pe_cmpR op_ge (pv 2) pe_int (nomark _))))))))), ?_⟩
    walk_at "go"
    refine ⟨q, p, rfl, hq, hw, hl, by decide, ?_⟩
    walk_at "go"
    refine r_iteD (fun hs => ?_) (fun hs => ?_)
    · walk_at "go"
      exact k false H (Same.refl _) (fun e => by cases e)
    · walk_at "go"
      refine ⟨q, p, 1, rfl, .inl rfl, hq, hw, by omega, fun l xs H1 nl s1 hl1 hp1 => ?_⟩
      have wu : Wf BC BC 0 (Prog.unroll 1 p) := Prog.wf_unroll (.inl rfl) hw
      walk_at "go"
      refine u_forPrL hl1 hp1 (fun r σ H' => ∃ (now st' dr' : Int) (y5 y6 : Option V), σ = [some (.ref q), some (.int st'), some (.int dr'), some (.int F), some (.int now), y5, y6] ∧ Same H1 H' ∧ Wf BC BC 0 r ∧ (Prog.wayIn F now r → Prog.wayIn F 0 (Prog.unroll 1 p))) ?_ ?_ ?_ ?_
      · exact ⟨0, st, dr, _, _, rfl, Same.refl _, wu, id⟩
      · rintro r σ H' ⟨now, st', dr', y5, y6, rfl, sm, _⟩
        exact ⟨Tk.same sm, sm _ _ hl1⟩
      · rintro x r r' σ H' hf ⟨now, st', dr', y5, y6, rfl, sm, wr, hc⟩
        cases r with
        | nil => exact hf.elim
        | step w' n r =>
          obtain ⟨c, rfl, hc1, rfl⟩ := hf
          obtain ⟨g1, g2, g3⟩ := WfL.step_iff.mp wr
          obtain ⟨n1, n2, n3⟩ := word_ne g1
          walk_at "go"
          intro l2 nl2
          walk_at "go"
          refine ⟨l2, _, rfl, .inl (.of upd_same), rfl, rfl, ?_⟩
          walk_at "go"
          exact ⟨now, _, _, _, _, rfl, Same.new sm nl2, g3, fun x => hc x⟩
        | turn k' r =>
          obtain ⟨c, rfl, hc1, rfl⟩ := hf
          have g3 := (WfL.turn_iff.mp wr).2
          walk_at "go"
          refine r_iteD (fun h1 => ?_) (fun h1 => ?_)
          · walk_at "go"
            exact k false H' (s1.trans sm) (fun e => by cases e)
          · walk_at "go"
            refine r_iteD (fun h2 => ?_) (fun h2 => ?_)
            · walk_at "go"
              exact k false H' (s1.trans sm) (fun e => by cases e)
            · walk_at "go"
              exact ⟨now + k', _, _, _, _, rfl, sm, g3, fun x => hc ⟨by omega, x⟩⟩
        | rep k' b' r => exact wr.elim
        | mir b' r => exact wr.elim
      · rintro σ H' ⟨now, st', dr', y5, y6, rfl, sm, wr, hc⟩
        walk_at "go"
        refine r_iteD (fun h1 => ?_) (fun h1 => ?_)
        · walk_at "go"
          exact k _ H' (s1.trans sm) (fun _ => ⟨by omega, hc trivial⟩)
        · walk_at "go"
          exact k _ H' (s1.trans sm) (fun _ => ⟨by omega, hc trivial⟩)
theorem ok_l_curt {f : Addr} {fd : FuncData} (F : Fun K "_law_curt" "_law_curt" s_l_curt f fd) (B : Bl mg) (h_l_pick : Has P w K mg base "_law_pick" 1 ["_law_bag", "_law_many"] spPick) (h_l_row : Has P w K mg base "_law_row" 2 ["_law_bag", "_law_names_here", "_law_steps", "_law_drawn", "_law_far"] spRow) (h_l_fits : Has P w K mg base "_law_fits" 14 ["_law_piece", "_law_steps", "_law_drawn", "_law_far"] spFits) : FnOk P w K mg base CX0 15 f fd ["_law_bag", "_law_names_here", "_law_steps", "_law_drawn", "_law_far"] spCurt := by
  refine F.ok sc_l_curt (fun vs H Q E h => ?_) (fun cdv A outer s H vs Q E hr h => ?_)
  · obtain ⟨a, z, st, dr, F, rfl, _⟩ := h
    rfl
  · obtain ⟨a, z, st, dr, F, rfl, ba, hz, s0, s1, d0, F0, F1, k⟩ := h
    have hBC : BC = 10000000000000000000000000000000 := by decide
    refine ⟨_, (pss_cons (ps_set (i := 5) sc_l_curt.nd rfl (.inl rfl) (pe_callTy call_tupL (by rfl) B.b_tuple (by decide +kernel) (pa_cons (pe_callH h_l_row (hr.mono (by first | decide | omega)) (pa_cons (pv 0) (pa_cons (pv 1) (pa_cons (pe_callB (call_min2 rfl) (by rfl) B.b_min (by decide +kernel) (pa_cons (pv 2) (pa_cons pe_int pa_nil))) (pa_cons (pv 3) (pa_cons (pv 4) pa_nil)))))) pa_nil)))
    (pss_cons (ps_for PassesOwn.never rfl (pi_range1 (by rfl) B.b_range (pa_cons (pe_callH h_l_pick (hr.mono (by first | decide | omega)) (pa_cons (pv 0) (pa_cons pe_int pa_nil))) pa_nil)) (pg_name (i := 6) sc_l_curt.nd rfl (.inl rfl))
    (pss_cons (ps_set (i := 7) sc_l_curt.nd rfl (.inl rfl) (pe_callH h_l_pick (hr.mono (by first | decide | omega)) (pa_cons (pv 0) (pa_cons (pe_callB (call_lenK (K := K)) (by rfl) B.b_len PySem.boot_len (pa_cons (pv 5) pa_nil)) pa_nil))))
    (pss_cons (ps_set (i := 8) sc_l_curt.nd rfl (.inl rfl) (pe_op op_add (pe_op op_add (pv 7) pe_int) (pe_callH h_l_pick (hr.mono (by first | decide | omega)) (pa_cons (pv 0) (pa_cons (pe_op op_sub (pe_callB (call_lenK (K := K)) (by rfl) B.b_len PySem.boot_len (pa_cons (pv 5) pa_nil)) (pv 7)) pa_nil)))))
    (pss_cons (ps_set (i := 9) sc_l_curt.nd rfl (.inl rfl) (pe_tup (pa_cons pe_str (pa_cons (pe_slice sl_tupA (pv 5) (po_some (pv 7)) (po_some (pv 8))) pa_nil))))
    (pss_cutM (ps_if (pt_cmpR op_gt (pe_callH h_l_pick (hr.mono (by first | decide | omega)) (pa_cons (pv 0) (pa_cons pe_int pa_nil))) pe_int (nomark _))
    (pss_one (ps_set (i := 9) sc_l_curt.nd rfl (.inl rfl) (pe_tup (pa_cons pe_str (pa_cons (pe_op op_add pe_int (pe_callH h_l_pick (hr.mono (by first | decide | omega)) (pa_cons (pv 0) (pa_cons pe_int pa_nil)))) (pa_cons (pe_slice sl_tupA (pv 5) (po_some (pv 7)) (po_some (pv 8))) pa_nil))))))
    pss_nil)
    (pss_cons (ps_set (i := 10) sc_l_curt.nd rfl (.inl rfl) (pe_op op_catA (pe_op op_catA (pe_slice sl_tupA (pv 5) po_none (po_some (pv 7))) (pe_tup (pa_cons (pv 9) pa_nil))) (pe_slice sl_tupA (pv 5) (po_some (pv 8)) po_none)))
    (pss_one (ps_if (pt_val (pe_callH h_l_fits (hr.mono (by first | decide | omega)) (pa_cons (pv 10) (pa_cons (pv 2) (pa_cons (pv 3) (pa_cons (pv 4) pa_nil))))))
    (pss_one (ps_set (i := 5) sc_l_curt.nd rfl (.inl rfl) (pv 10)))
    pss_nil))))))))
    (pss_one (ps_ret (pv 5))))), ?_⟩
    walk_at "go"
    refine ⟨a, z, _, dr, F, rfl, ba, hz, ?_, ?_, d0, F0, F1, fun l xs p H1 bu1 b1 nl hl hp wf wi pl0 pl1 => ?_⟩
    · split <;> omega
    · split <;> omega
    have pl2 : p.len ≤ 49 := by
      revert pl1
      split <;> omega
    walk_at "go"
    intro t nt
    have t1 : Tk H1 (upd H1 t (.tup xs)) := (Tk.refl _).new nt
    have b2 := b1.keep nt (o := .tup xs)
    have bu2 := bu1.new nt (o := .tup xs)
    have hq : PrIs (upd H1 t (.tup xs)) t p := ⟨xs, upd_same, hp.tk t1⟩
    clear hl nl b1 bu1 hp t1 nt
    generalize upd H1 t (.tup xs) = H2 at *
    walk_at "go"
    refine u_pick b2 (by decide) (by decide) fun r H3 r0 r1 bu3 b3 => ?_
    walk_at "go"
    refine u_for1 ?_ (fun i σ H' => ∃ (q : Addr) (p : Prog) (y6 y7 y8 y9 y10 : Option V), σ = [some (.ref a), some (.str z), some (.int st), some (.int dr), some (.int F), some (.ref q), y6, y7, y8, y9, y10] ∧ But a H H' ∧ Bag H' a ∧ PrIs H' q p ∧ Curt i F p) ?_ ?_ ?_
    · omega
    · refine ⟨t, p, _, _, _, _, _, rfl, bu2.trans bu3, b3, hq.tk (Tk.but bu3 b2), WfL.mono (by omega) (by omega) (Nat.le_refl _) wf, pl0, by omega, ?_, ?_⟩
      · rw [Prog.size_flat wf]; omega
      · rw [Prog.unroll_flat wf]; exact wi
    · clear hq wf wi pl0 pl1 pl2 bu2 b2 bu3 b3
      clear t p
      rintro i σ H4 hi ⟨q, p, y6, y7, y8, y9, y10, rfl, bu, bg, ⟨xs, hx, hp⟩, cu⟩
      have i3 : i ≤ 2 := by omega
      have xl := hp.length
      have l0 := cu.l0
      have l1 := cu.l1
      walk_at "go"
      refine u_pick bg (by omega) (by omega) fun at_ H5 g0 g1 bu5 b5 => ?_
      have hx5 := Tk.but bu5 bg _ _ hx
      walk_at "go"
      refine u_pick b5 (by omega) (by omega) fun m H6 g2 g3 bu6 b6 => ?_
      have tk6 := (Tk.but bu5 bg).trans (Tk.but bu6 b5)
      have hx6 := tk6 _ _ hx
      have hp6 := hp.tk tk6
      have buA := (bu.trans bu5).trans bu6
      clear hx5 hx hp bu bg bu5 b5 bu6 tk6
      obtain ⟨p1, p4, e1, c1, c4⟩ := hp6.cutAt at_.toNat
      obtain ⟨p2, p3, e2, c2, c3⟩ := c4.cutAt (m.toNat + 1)
      subst e2
      subst e1
      have ecut : cutV xs (some at_) (some (at_ + 1 + m)) = (xs.drop at_.toNat).take (m.toNat + 1) := by
        rw [cut_mid g0 (by omega) (by omega)]
        congr 1
        omega
      have ws := (WfL.split cu.wf)
      have ws2 := WfL.split ws.2
      have lc2 := c2.length
      have lc1 := c1.length
      have lc3 := c3.length
      rw [List.length_take, List.length_drop] at lc2
      rw [List.length_take] at lc1
      rw [List.length_drop, List.length_drop] at lc3
      walk_at "go"
      refine r_slAG hx6 fun s5 H7 s7 hs5 => ?_
      rw [ecut] at hs5
      walk_at "go"
      intro e5 n5
      walk_at "go"
      refine r_cut (fun σ' H' => ∃ (e : Addr) (mm : Prog), σ' = [some (.ref a), some (.str z), some (.int st), some (.int dr), some (.int F), some (.ref q), some (.int (i : Int)), some (.int at_), some (.int (at_ + 1 + m)), some (.ref e), y10] ∧ But a H6 H' ∧ Bag H' a ∧ PrAt H' mm [.ref e] ∧ Wf BC BC (i + 1) mm ∧ mm.len = 1) ?_ ?_
      · have b8 := (b6.same s7).keep n5 (o := .tup [.str "mirror", .ref s5])
        have tk8 : Tk H6 (upd H7 e5 (.tup [.str "mirror", .ref s5])) := (Tk.same s7).new n5
        have bu8 : But a H6 (upd H7 e5 (.tup [.str "mirror", .ref s5])) := (Same.but s7 a).new n5
        have he5 : upd H7 e5 (.tup [.str "mirror", .ref s5]) e5 = some (.tup [.str "mirror", .ref s5]) := upd_same
        have hs8 := h_keep (o := .tup [.str "mirror", .ref s5]) hs5 n5
        have hx8 := tk8 _ _ hx6
        clear n5 hs5
        generalize upd H7 e5 (.tup [.str "mirror", .ref s5]) = H8 at *
        walk_at "go"
        refine u_pick b8 (by decide) (by decide) fun r9 H9 _ _ bu9 b9 => ?_
        have tk9 := Tk.but bu9 b8
        walk_at "go"
        refine r_iteD (fun hc => ?_) (fun hc => ?_)
        · walk_at "go"
          refine u_pick b9 (by decide) (by decide) fun n H10 k0 k1 bu10 b10 => ?_
          have tk10 := tk9.trans (Tk.but bu10 b9)
          have hx10 := tk10 _ _ hx8
          walk_at "go"
          refine r_slAG hx10 fun s11 H11 s12 hs11 => ?_
          rw [ecut] at hs11
          walk_at "go"
          intro e12 n12
          walk_at "go"
          have tk12 : Tk H6 (upd H11 e12 (.tup [.str "repeat", .int (1 + n), .ref s11])) := ((tk8.trans tk10).trans (Tk.same s12)).new n12
          exact ⟨e12, .rep (1 + n) p2 .nil, rfl, (((bu8.trans bu9).trans bu10).trans (Same.but s12 a)).new n12, (b10.same s12).keep n12, ⟨e12, s11, _, [], rfl, upd_same, h_keep hs11 n12, c2.tk tk12, rfl⟩, ⟨⟨by omega, by omega⟩, ⟨by omega, by omega⟩, ws2.1, WfL.nil⟩, rfl⟩
        · walk_at "go"
          exact ⟨e5, .mir p2 .nil, rfl, bu8.trans bu9, b9, ⟨e5, s5, _, [], rfl, tk9 _ _ he5, tk9 _ _ hs8, c2.tk (tk8.trans tk9), rfl⟩, ⟨⟨by omega, by omega⟩, ws2.1, WfL.nil⟩, rfl⟩
      clear hs5 s7
      rintro σ' H7 ⟨e, mm, rfl, bu7, b7, pm, wm, lm⟩
      have tk7 := Tk.but bu7 b6
      have hx7 := tk7 _ _ hx6
      walk_at "go"
      refine r_slAG hx7 fun s8 H8 sm8 hs8 => ?_
      rw [cut_takeI g0] at hs8
      walk_at "go"
      intro e9 n9
      walk_at "go"
      refine r_catAT (xs := xs.take at_.toNat) (ys := [.ref e]) (h_keep hs8 n9) upd_same (by simp; omega) fun s10 H10 sm10 hs10 => ?_
      have hx10 := sm10 _ _ (h_keep (sm8 _ _ hx7) n9)
      walk_at "go"
      refine r_slAG hx10 fun s11 H11 sm11 hs11 => ?_
      rw [cut_dropI (by omega)] at hs11
      walk_at "go"
      refine r_catAT (xs := xs.take at_.toNat ++ [.ref e]) (ys := xs.drop (at_ + 1 + m).toNat) (sm11 _ _ hs10) hs11 (by simp; omega) fun s12 H12 sm12 hs12 => ?_
      walk_at "go"
      have sA : Same H7 H12 := ((Same.new sm8 n9).trans sm10).trans (sm11.trans sm12)
      have tkA := tk7.trans (Tk.same sA)
      have e3 : (xs.drop at_.toNat).drop (m.toNat + 1) = xs.drop (at_ + 1 + m).toNat := by
        rw [List.drop_drop]
        congr 1
        omega
      rw [e3] at c3
      have pg : PrIs H12 s12 ((p1.app mm).app p3) := ⟨_, hs12, ((c1.tk tkA).app (pm.tk (Tk.same sA))).app (c3.tk tkA)⟩
      have wg : Wf BC BC (i + 1) ((p1.app mm).app p3) := ((WfL.mono (Int.le_refl _) (Int.le_refl _) (by omega) ws.1).app wm).app (WfL.mono (Int.le_refl _) (Int.le_refl _) (by omega) ws2.2)
      have lg : ((p1.app mm).app p3).len = p1.len + 1 + p3.len := by rw [Prog.len_app, Prog.len_app, lm]
      have la : (p1.app (p2.app p3)).len = p1.len + (p2.len + p3.len) := by rw [Prog.len_app, Prog.len_app]
      refine ⟨s12, _, st, dr, F, rfl, pg, WfL.mono (Int.le_refl _) (Int.le_refl _) (by omega) wg, by omega, fun b H13 s13 hb => ?_⟩
      have b13 := (b7.same sA).same s13
      have bu13 := ((buA.trans bu7).trans (Same.but sA a)).trans (Same.but s13 a)
      cases b with
      | true =>
        walk_at "go"
        exact ⟨s12, _, _, _, _, _, _, rfl, bu13, b13, pg.tk (Tk.same s13), wg, by omega, by omega, (hb rfl).1, (hb rfl).2⟩
      | false =>
        walk_at "go"
        exact ⟨q, _, _, _, _, _, _, rfl, bu13, b13, ⟨xs, s13 _ _ (tkA _ _ hx6), hp6.tk (tkA.trans (Tk.same s13))⟩, WfL.mono (Int.le_refl _) (Int.le_refl _) (by omega) cu.wf, cu.l0, cu.l1, cu.sz, cu.way⟩
    · rintro σ H4 ⟨q, p, y6, y7, y8, y9, y10, rfl, bu, bg, hq, cu⟩
      walk_at "go"
      exact k q p H4 bu bg hq ⟨WfL.mono (Int.le_refl _) (Int.le_refl _) (by omega) cu.wf, cu.l0, cu.l1, cu.sz, cu.way⟩
end

set_option Elab.async false
set_option linter.all false
set_option maxRecDepth 100000
set_option maxHeartbeats 8000000
set_option pp.deepTerms false
set_option pp.deepTerms.threshold 12
set_option pp.maxSteps 1200

open PySem PySem.Spec PyProof.Rows L2
/-- a short program, nested d deep at most -/
structure Sh (d : Nat) (p : Prog) : Prop where
  wf : Wf BC BC d p
  l0 : 1 ≤ p.len
  l1 : p.len ≤ 61
  sz : p.size ≤ 200
  way : Prog.wayIn 12 0 (Prog.unroll 1 p)
theorem Sh.mono {d e : Nat} {p : Prog} (h : Sh d p) (l : d ≤ e) : Sh e p := { h with wf := WfL.mono (Int.le_refl _) (Int.le_refl _) l h.wf }
/-- .. with the last heading 0 -/
structure Dp0 (d : Nat) (p : Prog) : Prop extends Sh d p where
  hd : p.head = 0
theorem Dp0.mir {d : Nat} {p : Prog} (h : Dp0 d p) : Dp0 (d + 1) (.mir p .nil) where
  wf := ⟨⟨h.l0, by have := h.l1; omega⟩, h.wf, WfL.nil⟩
  l0 := Nat.le_refl 1
  l1 := by show 1 ≤ 61; decide
  sz := by rw [Prog.size, Prog.size]; have := h.sz; omega
  way := by
    have := Prog.way_neg h.way
    rw [Int.neg_zero] at this
    exact Prog.wayIn_app this trivial
  hd := by rw [Prog.head, Prog.head, h.hd]; rfl
theorem Dp0.rep {d : Nat} {p : Prog} (h : Dp0 d p) {k : Int} (k1 : 1 ≤ k) (k2 : k ≤ 2) (z : k * p.size ≤ 200) : Dp0 (d + 1) (.rep k p .nil) where
  wf := ⟨⟨k1, by have : BC = 10000000000000000000000000000000 := by decide
                 omega⟩, ⟨h.l0, by have := h.l1; omega⟩, h.wf, WfL.nil⟩
  l0 := Nat.le_refl 1
  l1 := by show 1 ≤ 61; decide
  sz := by rw [Prog.size, Prog.size]; omega
  way := by
    refine Prog.wayIn_app (Prog.way_times h.way ?_ _) trivial
    rw [Prog.head_unroll (.inl rfl) h.wf, h.hd]
    rfl
  hd := by rw [Prog.head, Prog.head, h.hd]; omega
theorem Dp0.step {d : Nat} {p : Prog} {w n : Str} (h : Dp0 d p) (hw : IsWord w) (hn : IsName n) (l : p.len ≤ 60) (z : p.size < 200) : Dp0 d (.step w n p) where
  wf := WfL.step_iff.mpr ⟨hw, hn, h.wf⟩
  l0 := by rw [Prog.len]; omega
  l1 := by rw [Prog.len]; omega
  sz := by rw [Prog.size]; omega
  way := h.way
  hd := by rw [Prog.head]; exact h.hd
/-- a round of steps behind or ahead -/
theorem Curt.more {d : Nat} {p r : Prog} {k : Int} (h : Curt d 12 p) (hr : Prog.onlySteps r) (wr : Wf BC BC 0 r) (r1 : 1 ≤ r.len) (r2 : r.len ≤ 4) (k1 : 1 ≤ k) (k2 : k ≤ 200) (z : p.size + k * r.len ≤ 200) :
    Sh (d + 1) (p.app (.rep k r .nil)) ∧ Sh (d + 1) ((Prog.rep k r .nil).app p) := by
  have hBC : BC = 10000000000000000000000000000000 := by decide
  have wm : Wf BC BC (d + 1) (.rep k r .nil) := ⟨⟨k1, by omega⟩, ⟨r1, by omega⟩, WfL.mono (Int.le_refl _) (Int.le_refl _) (Nat.zero_le _) wr, WfL.nil⟩
  have wp : Wf BC BC (d + 1) p := WfL.mono (Int.le_refl _) (Int.le_refl _) (Nat.le_succ _) h.wf
  have em : Prog.unroll 1 (.rep k r .nil) = (Prog.times k.toNat r).app .nil := by rw [Prog.unroll, Prog.only_unroll 1 hr]; rfl
  have sm : (Prog.rep k r .nil).size = k * r.len := by rw [Prog.size, Prog.size, Prog.size_flat wr]; omega
  have l0 := h.l0
  have l1 := h.l1
  have wt : ∀ x, Prog.wayIn 12 x ((Prog.times k.toNat r).app .nil) := fun x => Prog.wayIn_app (Prog.way_times (Prog.only_way hr) (Prog.only_head hr) _) trivial
  have ht : ((Prog.times k.toNat r).app .nil).head = 0 := by rw [Prog.head_app, Prog.head_times, Prog.only_head hr, Prog.head]; omega
  refine ⟨⟨wp.app wm, ?_, ?_, ?_, ?_⟩, ⟨wm.app wp, ?_, ?_, ?_, ?_⟩⟩
  · rw [Prog.len_app]; omega
  · rw [Prog.len_app]; show p.len + 1 ≤ 61; omega
  · rw [Prog.size_app, sm]; exact z
  · rw [Prog.unroll_app, em]
    exact Prog.wayIn_app h.way (wt _)
  · rw [Prog.len_app]; omega
  · rw [Prog.len_app]; show 1 + p.len ≤ 61; omega
  · rw [Prog.size_app, sm]; omega
  · rw [Prog.unroll_app, em]
    refine Prog.wayIn_app (wt _) ?_
    rw [ht]
    exact h.way
def spDeep : Sp := fun vs H Q _ => ∃ (a : Addr) (z : Str), vs = [.ref a, .str z] ∧ Bag H a ∧ Names z ∧ ∀ q p H', But a H H' → Bag H' a → PrIs H' q p → Sh 6 p → Q (.ref q) H'
def spFull : Sp := fun vs H Q _ => ∃ (a q : Addr) (p : Prog) (z : Str), vs = [.ref a, .ref q, .str z] ∧ Bag H a ∧ Names z ∧ PrIs H q p ∧ Curt 3 12 p ∧ ∀ q' p' H', But a H H' → Bag H' a → PrIs H' q' p' → Sh 4 p' → Q (.ref q') H'
section
variable {P : Program} {w : World} {K : PySem.W.Frag} {mg : Str → Option Value} {base : Heap}

theorem ok_l_deep {f : Addr} {fd : FuncData} (F : Fun K "_law_deep" "_law_deep" s_l_deep f fd) (B : Bl mg) (h_l_pick : Has P w K mg base "_law_pick" 1 ["_law_bag", "_law_many"] spPick) (h_l_bulk : Has P w K mg base "_law_bulk" 13 ["_law_piece"] (spNumLt Prog.size 13)) : FnOk P w K mg base CX0 14 f fd ["_law_bag", "_law_names_here"] spDeep := by
  refine F.ok sc_l_deep (fun vs H Q E h => ?_) (fun cdv A outer s H vs Q E hr h => ?_)
  · obtain ⟨a, z, rfl, _⟩ := h
    rfl
  · obtain ⟨a, z, rfl, ba, hz, k⟩ := h
    have hBC : BC = 10000000000000000000000000000000 := by decide
    refine ⟨_, (pss_cons (ps_set (i := 2) sc_l_deep.nd rfl (.inl rfl) (pe_op op_sub (pe_callH h_l_pick (hr.mono (by first | decide | omega)) (pa_cons (pv 0) (pa_cons pe_int pa_nil))) pe_int))
    (pss_cons (ps_set (i := 3) sc_l_deep.nd rfl (.inl rfl) (pe_ix (ix_listK (K := K)) (pe_lst (pa_cons pe_str (pa_cons pe_str (pa_cons pe_str (pa_cons pe_str pa_nil))))) (pe_callH h_l_pick (hr.mono (by first | decide | omega)) (pa_cons (pv 0) (pa_cons pe_int pa_nil))) (fun _ _ => rfl)))
    (pss_cons (ps_set (i := 4) sc_l_deep.nd rfl (.inl rfl) (pe_tup (pa_cons (pe_tup (pa_cons pe_str (pa_cons (pv 2) pa_nil))) (pa_cons (pe_tup (pa_cons (pv 3) (pa_cons (pe_ix ix_str (pv 1) pe_int (fun _ _ => rfl)) pa_nil))) (pa_cons (pe_tup (pa_cons pe_str (pa_cons (pe_un un_neg (pv 2)) pa_nil))) pa_nil)))))
    (pss_cons (ps_for PassesOwn.never rfl (pi_range1 (by rfl) B.b_range (pa_cons pe_int pa_nil)) (pg_name (i := 5) sc_l_deep.nd rfl (.inl rfl))
    (pss_cons (ps_set (i := 6) sc_l_deep.nd rfl (.inl rfl) (pe_op op_add pe_int (pe_callH h_l_pick (hr.mono (by first | decide | omega)) (pa_cons (pv 0) (pa_cons pe_int pa_nil)))))
    (pss_cutM (ps_if (pt_cmpR op_eq (pe_callH h_l_pick (hr.mono (by first | decide | omega)) (pa_cons (pv 0) (pa_cons pe_int pa_nil))) pe_int (nomark _))
    (pss_one (ps_set (i := 4) sc_l_deep.nd rfl (.inl rfl) (pe_tup (pa_cons (pe_tup (pa_cons pe_str (pa_cons (pv 4) pa_nil))) pa_nil))))
    (pss_one (ps_if (pt_cmpR op_lt (pe_op op_mul (pv 6) (pe_callH h_l_bulk (hr.mono (by first | decide | omega)) (pa_cons (pv 4) pa_nil))) pe_int (nomark _))
    (pss_one (ps_set (i := 4) sc_l_deep.nd rfl (.inl rfl) (pe_tup (pa_cons (pe_tup (pa_cons pe_str (pa_cons (pv 6) (pa_cons (pv 4) pa_nil)))) pa_nil))))
    (pss_one (ps_set (i := 4) sc_l_deep.nd rfl (.inl rfl) (pe_tup (pa_cons (pe_tup (pa_cons pe_str (pa_cons pe_int (pa_cons (pv 4) pa_nil)))) pa_nil)))))))
    (pss_one (ps_if (PW.pt (pw_and (pt_cmpR op_lt (pe_callH h_l_bulk (hr.mono (by first | decide | omega)) (pa_cons (pv 4) pa_nil)) pe_int (nomark _)) (pw_and1 (pt_cmpR op_eq (pe_callH h_l_pick (hr.mono (by first | decide | omega)) (pa_cons (pv 0) (pa_cons pe_int pa_nil))) pe_int (nomark _)))))
    (pss_one (ps_set (i := 4) sc_l_deep.nd rfl (.inl rfl) (pe_op op_catA (pe_tup (pa_cons (pe_tup (pa_cons (pe_ix (ix_listK (K := K)) (pe_lst (pa_cons pe_str (pa_cons pe_str pa_nil))) (pe_callH h_l_pick (hr.mono (by first | decide | omega)) (pa_cons (pv 0) (pa_cons pe_int pa_nil))) (fun _ _ => rfl)) (pa_cons (pe_ix ix_str (pv 1) (pe_op op_add pe_int (pe_callH h_l_pick (hr.mono (by first | decide | omega)) (pa_cons (pv 0) (pa_cons pe_int pa_nil)))) (fun _ _ => rfl)) pa_nil))) pa_nil)) (pv 4))))
    pss_nil)))))
    (pss_one (ps_ret (pv 4))))))), ?_⟩
    walk_at "go"
    refine u_pick ba (by decide) (by decide) fun m H1 m0 m1 bu1 b1 => ?_
    walk_at "go"
    intro l0 nl0
    walk_at "go"
    have b2 := b1.keep nl0 (o := .lst [.str "go", .str "back", .str "hop", .str "slip"])
    refine u_pick b2 (by decide) (by decide) fun r H3 r0 r1 bu3 b3 => ?_
    obtain ⟨wd, hw1, hw2⟩ := word_at r0 r1
    refine r_ixL (SqL.of (bu3 _ _ (b1.ne nl0) upd_same)) hw1 ?_
    have bu4 := (bu1.new nl0 (o := .lst [.str "go", .str "back", .str "hop", .str "slip"])).trans bu3
    clear bu1 b1 nl0 bu3 b2
    walk_at "go"
    intro e1 n1
    walk_at "go"
    obtain ⟨c0, hn0, in0⟩ := names_at hz (by decide : (0 : Int) ≤ 0) (by decide)
    refine r_ixS (names_small hz) hn0 ?_
    walk_at "go"
    intro e2 n2
    walk_at "go"
    intro e3 n3
    walk_at "go"
    intro e4 n4
    walk_at "go"
    have hq : PrIs (upd (upd (upd (upd H3 e1 (.tup [.str "turn", .int (m - 12)])) e2 (.tup [.str wd, .str ⟨#[c0]⟩])) e3 (.tup [.str "turn", .int (-(m - 12))])) e4 (.tup [.ref e1, .ref e2, .ref e3])) e4 (.turn (m - 12) (.step wd ⟨#[c0]⟩ (.turn (-(m - 12)) .nil))) :=
      ⟨_, upd_same, e1, _, rfl, by walk_at "hp", e2, _, rfl, by walk_at "hp", e3, [], rfl, by walk_at "hp", rfl⟩
    have dp : Dp0 0 (.turn (m - 12) (.step wd ⟨#[c0]⟩ (.turn (-(m - 12)) .nil))) :=
      ⟨⟨⟨⟨by omega, by omega⟩, hw2, in0, ⟨by omega, by omega⟩, trivial⟩, by show 1 ≤ 3; decide, by show 3 ≤ 61; decide, by show (1 : Int) + (1 + (1 + 0)) ≤ 200; decide, ⟨by omega, by omega, trivial⟩⟩, by rw [Prog.head, Prog.head, Prog.head, Prog.head]; omega⟩
    have bu5 := (((bu4.new n1 (o := .tup [.str "turn", .int (m - 12)])).new n2 (o := .tup [.str wd, .str ⟨#[c0]⟩])).new n3 (o := .tup [.str "turn", .int (-(m - 12))])).new n4 (o := .tup [.ref e1, .ref e2, .ref e3])
    have b5 := (((b3.keep n1 (o := .tup [.str "turn", .int (m - 12)])).keep n2 (o := .tup [.str wd, .str ⟨#[c0]⟩])).keep n3 (o := .tup [.str "turn", .int (-(m - 12))])).keep n4 (o := .tup [.ref e1, .ref e2, .ref e3])
    refine u_for1 ?_ (fun i σ H' => ∃ (q : Addr) (p : Prog) (y5 y6 : Option V), σ = [some (.ref a), some (.str z), some (.int (m - 12)), some (.str wd), some (.ref q), y5, y6] ∧ But a H H' ∧ Bag H' a ∧ PrIs H' q p ∧ Dp0 i p) ?_ ?_ ?_
    · decide
    · exact ⟨e4, _, _, _, rfl, bu5, b5, hq, dp⟩
    · clear hq dp bu5 b5 n1 n2 n3 n4 bu4 b3
      rintro i σ H5 hi ⟨q, p, y5, y6, rfl, bu, bg, hq, dp⟩
      walk_at "go"
      refine u_pick bg (by decide) (by decide) fun lo H6 g0 g1 bu6 b6 => ?_
      have hq6 := hq.tk (Tk.but bu6 bg)
      have buA := bu.trans bu6
      clear hq bu bg bu6
      have sz := dp.sz
      have wf12 : Wf BC BC 12 p := WfL.mono (Int.le_refl _) (Int.le_refl _) (by omega) dp.wf
      have l4 : p.len ≤ 4000 := by have := dp.l1; omega
      walk_at "go"
      refine r_cut (fun σ' H' => ∃ (q' : Addr) (p' : Prog), σ' = [some (.ref a), some (.str z), some (.int (m - 12)), some (.str wd), some (.ref q'), some (.int (i : Int)), some (.int (1 + lo))] ∧ But a H H' ∧ Bag H' a ∧ PrIs H' q' p' ∧ Dp0 (i + 1) p' ∧ p'.len = 1) ?_ ?_
      · walk_at "go"
        refine u_pick b6 (by decide) (by decide) fun r7 H7 _ _ bu7 b7 => ?_
        obtain ⟨xs, hx, hp⟩ := hq6.tk (Tk.but bu7 b6)
        have buB := buA.trans bu7
        walk_at "go"
        refine r_iteD (fun hc => ?_) (fun hc => ?_)
        · walk_at "go"
          intro e1 n1
          walk_at "go"
          intro e2 n2
          walk_at "go"
          exact ⟨e2, .mir p .nil, rfl, (buB.new n1).new n2, (b7.keep n1).keep n2, ⟨_, upd_same, e1, q, xs, [], rfl, by walk_at "hp", by walk_at "hp", hp.tk (((Tk.refl _).new n1).new n2), rfl⟩, dp.mir, rfl⟩
        · walk_at "go"
          refine ⟨q, p, rfl, ⟨xs, hx, hp⟩, wf12, l4, by decide, ?_⟩
          walk_at "go"
          refine r_iteD (fun hk => ?_) (fun hk => ?_)
          · walk_at "go"
            intro e1 n1
            walk_at "go"
            intro e2 n2
            walk_at "go"
            exact ⟨e2, .rep (1 + lo) p .nil, rfl, (buB.new n1).new n2, (b7.keep n1).keep n2, ⟨_, upd_same, e1, q, xs, [], rfl, by walk_at "hp", by walk_at "hp", hp.tk (((Tk.refl _).new n1).new n2), rfl⟩, dp.rep (by omega) (by omega) (by omega), rfl⟩
          · walk_at "go"
            intro e1 n1
            walk_at "go"
            intro e2 n2
            walk_at "go"
            exact ⟨e2, .rep 1 p .nil, rfl, (buB.new n1).new n2, (b7.keep n1).keep n2, ⟨_, upd_same, e1, q, xs, [], rfl, by walk_at "hp", by walk_at "hp", hp.tk (((Tk.refl _).new n1).new n2), rfl⟩, dp.rep (by decide) (by decide) (by omega), rfl⟩
      clear hq6 b6 buA dp sz wf12 l4
      clear p
      rintro σ' H7 ⟨q, p, rfl, buB, b7, ⟨xs, hx, hp⟩, dp, l1⟩
      have wf12 : Wf BC BC 12 p := WfL.mono (Int.le_refl _) (Int.le_refl _) (by omega) dp.wf
      walk_at "go"
      refine ⟨q, p, rfl, ⟨xs, hx, hp⟩, wf12, by omega, by decide, ?_⟩
      walk_at "go"
      refine r_iteD (fun hs => ?_) (fun hs => ?_)
      · walk_at "go"
        refine u_pick b7 (by decide) (by decide) fun r7 H8 _ _ bu8 b8 => ?_
        have tk8 := Tk.but bu8 b7
        have buC := buB.trans bu8
        walk_at "go"
        refine r_iteD (fun hc => ?_) (fun hc => ?_)
        · walk_at "go"
          intro l5 nl5
          walk_at "go"
          have b9 := b8.keep nl5 (o := .lst [.str "hop", .str "back"])
          refine u_pick b9 (by decide) (by decide) fun r9 H10 k0 k1 bu10 b10 => ?_
          obtain ⟨wd2, hw3, hw4⟩ : ∃ v : Str, atI [V.str "hop", V.str "back"] r9 = some (.str v) ∧ IsWord v := by
            rcases (by omega : r9 = 0 ∨ r9 = 1) with rfl | rfl
            · exact ⟨_, rfl, .inr (.inr (.inl rfl))⟩
            · exact ⟨_, rfl, .inr (.inl rfl)⟩
          refine r_ixL (SqL.of (bu10 _ _ (b8.ne nl5) upd_same)) hw3 ?_
          walk_at "go"
          refine u_pick b10 (by decide) (by decide) fun r10 H11 k2 k3 bu11 b11 => ?_
          walk_at "go"
          obtain ⟨nm, hn1, hn2⟩ := names_at hz (by omega : 0 ≤ 1 + r10) (by omega)
          refine r_ixS (names_small hz) hn1 ?_
          have t11 := (tk8.new nl5 (o := .lst [.str "hop", .str "back"])).trans ((Tk.but bu10 b9).trans (Tk.but bu11 b10))
          have buI := ((buC.new nl5 (o := .lst [.str "hop", .str "back"])).trans bu10).trans bu11
          have hx11 := t11 _ _ hx
          have xl := hp.length
          walk_at "go"
          intro e1 n1
          walk_at "go"
          intro e2 n2
          walk_at "go"
          refine r_catAT (xs := [.ref e1]) (ys := xs) upd_same (by walk_at "hp") (by simp; omega) fun e3 H12 s12 h12 => ?_
          walk_at "go"
          have tk12 := (((Tk.refl H11).new n1 (o := .tup [.str wd2, .str ⟨#[nm]⟩])).new n2 (o := .tup [.ref e1])).trans (Tk.same s12)
          exact ⟨e3, .step wd2 ⟨#[nm]⟩ p, _, _, rfl, ((buI.new n1).new n2).trans (Same.but s12 a), ((b11.keep n1).keep n2).same s12, ⟨_, h12, e1, xs, rfl, s12 _ _ (by walk_at "hp"), hp.tk (t11.trans tk12)⟩, dp.step hw4 hn2 (by omega) hs⟩
        · walk_at "go"
          exact ⟨q, p, _, _, rfl, buC, b8, ⟨xs, tk8 _ _ hx, hp.tk tk8⟩, dp⟩
      · walk_at "go"
        exact ⟨q, p, _, _, rfl, buB, b7, ⟨xs, hx, hp⟩, dp⟩
    · rintro σ H5 ⟨q, p, y5, y6, rfl, bu, bg, hq, dp⟩
      walk_at "go"
      exact k q p H5 bu bg hq dp.toSh
end

set_option Elab.async false
set_option linter.all false
set_option maxRecDepth 100000
set_option maxHeartbeats 8000000
set_option pp.deepTerms false
set_option pp.deepTerms.threshold 12
set_option pp.maxSteps 1200

open PySem PySem.Spec PyProof.Rows L2
def spThree : Sp := fun vs H Q _ => ∃ (a : Addr) (z : Str), vs = [.ref a, .str z] ∧ Bag H a ∧ Names z ∧ ∀ l q1 q2 q3 p1 p2 p3 H', H l = none → But a H H' → Bag H' a → H' l = some (.lst [.ref q1, .ref q2, .ref q3]) → PrIs H' q1 p1 → PrIs H' q2 p2 → PrIs H' q3 p3 → Sh 6 p1 → Sh 6 p2 → Sh 6 p3 → Q (.ref l) H'
theorem step4 {n : Int} (h0 : 0 ≤ n) (h1 : n < 4) : ∃ x : Str, atI [V.str "go", V.str "slip", V.str "back", V.str "hop"] n = some (.str x) ∧ IsWord x := by
  rcases (by omega : n = 0 ∨ n = 1 ∨ n = 2 ∨ n = 3) with rfl | rfl | rfl | rfl
  · exact ⟨_, rfl, .inl rfl⟩
  · exact ⟨_, rfl, .inr (.inr (.inr rfl))⟩
  · exact ⟨_, rfl, .inr (.inl rfl)⟩
  · exact ⟨_, rfl, .inr (.inr (.inl rfl))⟩
section
variable {P : Program} {w : World} {K : PySem.W.Frag} {mg : Str → Option Value} {base : Heap}

theorem ok_l_full {f : Addr} {fd : FuncData} (F : Fun K "_law_full" "_law_full" s_l_full f fd) (B : Bl mg) (h_l_pick : Has P w K mg base "_law_pick" 1 ["_law_bag", "_law_many"] spPick) (h_l_bulk : Has P w K mg base "_law_bulk" 13 ["_law_piece"] (spNumLt Prog.size 13)) : FnOk P w K mg base CX0 14 f fd ["_law_bag", "_law_piece", "_law_names_here"] spFull := by
  refine F.ok sc_l_full (fun vs H Q E h => ?_) (fun cdv A outer s H vs Q E hr h => ?_)
  · obtain ⟨a, q, p, z, rfl, _⟩ := h
    rfl
  · obtain ⟨a, q, p, z, rfl, ba, hz, hq, cu, k⟩ := h
    refine ⟨_, (pss_cons (ps_set (i := 3) sc_l_full.nd rfl (.inl rfl) (pe_lst pa_nil))
    (pss_cons (ps_for PassesOwn.never rfl (pi_range1 (by rfl) B.b_range (pa_cons (pe_ix (ix_listK (K := K)) (pe_lst (pa_cons pe_int (pa_cons pe_int (pa_cons pe_int (pa_cons pe_int (pa_cons pe_int pa_nil)))))) (pe_callH h_l_pick (hr.mono (by first | decide | omega)) (pa_cons (pv 0) (pa_cons pe_int pa_nil))) (fun _ _ => rfl)) pa_nil)) (pg_name (i := 4) sc_l_full.nd rfl (.inl rfl))
    (pss_one (ps_expr (pe_bm PySem.F.plainAttrs_list PySem.F.slot_list_append PySem.F.type_list_append mt_append (pv 3) (pa_cons (pe_tup (pa_cons (pe_ix (ix_listK (K := K)) (pe_lst (pa_cons pe_str (pa_cons pe_str (pa_cons pe_str (pa_cons pe_str pa_nil))))) (pe_callH h_l_pick (hr.mono (by first | decide | omega)) (pa_cons (pv 0) (pa_cons pe_int pa_nil))) (fun _ _ => rfl)) (pa_cons (pe_ix ix_str (pv 2) (pe_callH h_l_pick (hr.mono (by first | decide | omega)) (pa_cons (pv 0) (pa_cons pe_int pa_nil))) (fun _ _ => rfl)) pa_nil))) pa_nil)))))
    (pss_cons (ps_set (i := 5) sc_l_full.nd rfl (.inl rfl) (pe_op op_fdivW (pe_op op_sub (pe_op op_add pe_int (pe_callH h_l_pick (hr.mono (by first | decide | omega)) (pa_cons (pv 0) (pa_cons pe_int pa_nil)))) (pe_callH h_l_bulk (hr.mono (by first | decide | omega)) (pa_cons (pv 1) pa_nil))) (pe_callB (call_lenK (K := K)) (by rfl) B.b_len PySem.boot_len (pa_cons (pv 3) pa_nil))))
    (pss_cons (ps_set (i := 6) sc_l_full.nd rfl (.inl rfl) (pe_tup (pa_cons pe_str (pa_cons (pv 5) (pa_cons (pe_callTy call_tupL (by rfl) B.b_tuple (by decide +kernel) (pa_cons (pv 3) pa_nil)) pa_nil)))))
    (pss_one (ps_ret (pe_ix (ix_tupK (K := K)) (pe_tup (pa_cons (pe_op op_catA (pv 1) (pe_tup (pa_cons (pv 6) pa_nil))) (pa_cons (pe_op op_catA (pe_tup (pa_cons (pv 6) pa_nil)) (pv 1)) pa_nil))) (pe_callH h_l_pick (hr.mono (by first | decide | omega)) (pa_cons (pv 0) (pa_cons pe_int pa_nil))) (fun _ _ => rfl)))))))), ?_⟩
    walk_at "go"
    intro sm ns
    walk_at "go"
    intro l0 nl0
    walk_at "go"
    have sma : sm ≠ a := ba.ne ns
    have b2 := (ba.keep ns (o := .lst [])).keep nl0 (o := .lst [.int 1, .int 1, .int 2, .int 3, .int 4])
    refine u_pick b2 (by decide) (by decide) fun r H3 r0 r1 bu3 b3 => ?_
    obtain ⟨n, hn1, hn2⟩ : ∃ v : Int, atI [V.int 1, V.int 1, V.int 2, V.int 3, V.int 4] r = some (.int v) ∧ (1 ≤ v ∧ v ≤ 4) := by
      rcases (by omega : r = 0 ∨ r = 1 ∨ r = 2 ∨ r = 3 ∨ r = 4) with rfl | rfl | rfl | rfl | rfl
      · exact ⟨_, rfl, by decide⟩
      · exact ⟨_, rfl, by decide⟩
      · exact ⟨_, rfl, by decide⟩
      · exact ⟨_, rfl, by decide⟩
      · exact ⟨_, rfl, by decide⟩
    refine r_ixL (SqL.of (bu3 _ _ ((ba.keep ns).ne nl0) upd_same)) hn1 ?_
    have bu4 : But a H H3 := (((But.refl a H).new ns (o := .lst [])).new nl0 (o := .lst [.int 1, .int 1, .int 2, .int 3, .int 4])).trans bu3
    have hs3 : H3 sm = some (.lst []) := bu3 _ _ sma (h_keep upd_same nl0)
    have tk3 : Tk H H3 := Tk.but bu4 ba
    clear bu3 b2 nl0
    walk_at "go"
    refine u_for1 ?_ (fun i σ H' => ∃ (ws : List V) (rr : Prog) (y4 y5 y6 : Option V), σ = [some (.ref a), some (.ref q), some (.str z), some (.ref sm), y4, y5, y6] ∧ But a H H' ∧ Bag H' a ∧ H' sm = some (.lst ws) ∧ PrAt H' rr ws ∧ Prog.onlySteps rr ∧ Wf BC BC 0 rr ∧ rr.len = i) ?_ ?_ ?_
    · omega
    · exact ⟨[], .nil, _, _, _, rfl, bu4, b3, hs3, rfl, trivial, trivial, rfl⟩
    · clear bu4 hs3 b3 tk3
      rintro i σ H4 hi ⟨ws, rr, y4, y5, y6, rfl, bu, bg, hs, pr, os, wr, lr⟩
      have wl := pr.length
      walk_at "go"
      intro l1 nl1
      walk_at "go"
      have b5 := bg.keep nl1 (o := .lst [.str "go", .str "slip", .str "back", .str "hop"])
      refine u_pick b5 (by decide) (by decide) fun r2 H6 g0 g1 bu6 b6 => ?_
      obtain ⟨wd, hw1, hw2⟩ := step4 g0 g1
      refine r_ixL (SqL.of (bu6 _ _ (bg.ne nl1) upd_same)) hw1 ?_
      walk_at "go"
      refine u_pick b6 (by decide) (by decide) fun r3 H7 g2 g3 bu7 b7 => ?_
      obtain ⟨nm, hm1, hm2⟩ := names_at hz g2 g3
      refine r_ixS (names_small hz) hm1 ?_
      have tk7 := ((Tk.refl H4).new nl1 (o := .lst [.str "go", .str "slip", .str "back", .str "hop"])).trans ((Tk.but bu6 b5).trans (Tk.but bu7 b6))
      have hs7 := bu7 _ _ sma (bu6 _ _ sma (h_keep (o := .lst [.str "go", .str "slip", .str "back", .str "hop"]) hs nl1))
      have buA := ((bu.new nl1 (o := .lst [.str "go", .str "slip", .str "back", .str "hop"])).trans bu6).trans bu7
      walk_at "go"
      intro e1 n1
      walk_at "go"
      have tk8 : Tk H7 (upd (upd H7 e1 (.tup [.str wd, .str ⟨#[nm]⟩])) sm (.lst (ws ++ [.ref e1]))) := ((Tk.refl _).new n1).lst (h_keep hs7 n1)
      exact ⟨_, rr.app (.step wd ⟨#[nm]⟩ .nil), _, _, _, rfl, (buA.new n1).put ns, (b7.keep n1).upd sma.symm, upd_same, (pr.tk (tk7.trans tk8)).app ⟨e1, [], rfl, (upd_ne (ne_of_none hs7 n1).symm).trans upd_same, rfl⟩, Prog.onlySteps_app os trivial, wr.app (WfL.step_iff.mpr ⟨hw2, hm2, WfL.nil⟩), by rw [Prog.len_app, lr]; rfl⟩
    · rintro σ H4 ⟨ws, rr, y4, y5, y6, rfl, bu, bg, hs, pr, os, wr, lr⟩
      have wl := pr.length
      have tk4 := Tk.but bu ba
      walk_at "go"
      refine u_pick bg (by decide) (by decide) fun r2 H5 g0 g1 bu5 b5 => ?_
      have tk5 := tk4.trans (Tk.but bu5 bg)
      have hs5 := bu5 _ _ sma hs
      have pr5 := pr.tk (Tk.but bu5 bg)
      have buB := bu.trans bu5
      walk_at "go"
      refine ⟨q, p, rfl, hq.tk tk5, WfL.mono (Int.le_refl _) (Int.le_refl _) (by decide) cu.wf, by have := cu.l1; omega, by decide, ?_⟩
      walk_at "go"
      have s0 : 0 ≤ p.size := Prog.size_nonneg cu.wf
      have sz := cu.sz
      have l1 := cu.l1
      have l0 := cu.l0
      have wn : ws.length = n.toNat := by omega
      have nl : (ws.length : Int).natAbs.log2 < 9000 := log_small (Nat.lt_of_le_of_lt (by omega : (ws.length : Int).natAbs ≤ 4) (by decide +kernel))
      have wp : (0 : Int) < ws.length := by omega
      refine r_rI (by first | exact ⟨wp, nl⟩ | (refine ⟨?_, ?_⟩ <;> omega) | (unfold CDivW; omega)) ?_
      have d1 : 1 ≤ (198 + r2 - p.size) / (ws.length : Int) := by
        rw [Int.le_ediv_iff_mul_le wp]
        omega
      have d2 : (198 + r2 - p.size) / (ws.length : Int) * ws.length ≤ 198 + r2 - p.size := Int.ediv_mul_le _ (by omega)
      have d3 : (198 + r2 - p.size) / (ws.length : Int) ≤ 200 := Int.le_trans (Int.ediv_le_self _ (by omega)) (by omega)
      generalize (198 + r2 - p.size) / (ws.length : Int) = lots at *
      have mo := cu.more os wr (by omega) (by omega) d1 d3 (by rw [lr, ← wn]; omega)
      walk_at "go"
      intro t1 nt1
      walk_at "go"
      intro e1 n1
      walk_at "go"
      have b7 := (b5.keep nt1 (o := .tup ws)).keep n1 (o := .tup [.str "repeat", .int lots, .ref t1])
      have bu7 := (buB.new nt1 (o := .tup ws)).new n1 (o := .tup [.str "repeat", .int lots, .ref t1])
      have tk7 : Tk H5 (upd (upd H5 t1 (.tup ws)) e1 (.tup [.str "repeat", .int lots, .ref t1])) := ((Tk.refl _).new nt1).new n1
      have he : upd (upd H5 t1 (.tup ws)) e1 (.tup [.str "repeat", .int lots, .ref t1]) e1 = some (.tup [.str "repeat", .int lots, .ref t1]) := upd_same
      have ht1 : upd (upd H5 t1 (.tup ws)) e1 (.tup [.str "repeat", .int lots, .ref t1]) t1 = some (.tup ws) := h_keep upd_same n1
      clear n1 nt1 hs5 b5 buB
      generalize upd (upd H5 t1 (.tup ws)) e1 (.tup [.str "repeat", .int lots, .ref t1]) = H7 at *
      obtain ⟨xs, hx, hp⟩ := hq.tk (tk5.trans tk7)
      have xl := hp.length
      have pr7 := pr5.tk tk7
      intro e2 n2
      walk_at "go"
      refine r_catAT (xs := xs) (ys := [.ref e1]) (h_keep hx n2) upd_same (by simp; omega) fun c1 H8 s8 hc1 => ?_
      have sB := (Same.new0 n2 (o := .tup [.ref e1])).trans s8
      walk_at "go"
      intro e3 n3
      walk_at "go"
      refine r_catAT (xs := [.ref e1]) (ys := xs) upd_same (h_keep (sB _ _ hx) n3) (by simp; omega) fun c2 H9 s9 hc2 => ?_
      have sC := (Same.new0 n3 (o := .tup [.ref e1])).trans s9
      walk_at "go"
      intro tt ntt
      walk_at "go"
      have sD := Same.new (sB.trans sC) ntt (o := .tup [.ref c1, .ref c2])
      have b9 := b7.same sD
      have hc11 := h_keep (o := .tup [.ref c1, .ref c2]) (sC _ _ hc1) ntt
      have hc21 := h_keep (o := .tup [.ref c1, .ref c2]) hc2 ntt
      have htt : upd H9 tt (.tup [.ref c1, .ref c2]) tt = some (.tup [.ref c1, .ref c2]) := upd_same
      generalize upd H9 tt (.tup [.ref c1, .ref c2]) = H10 at *
      refine u_pick b9 (by decide) (by decide) fun r9 H11 k0 k1 bu11 b11 => ?_
      have tkE : Tk H7 H11 := (Tk.same sD).trans (Tk.but bu11 b9)
      have buE : But a H H11 := (bu7.trans (Same.but sD a)).trans bu11
      have pe : PrAt H11 (.rep lots rr .nil) [.ref e1] := ⟨e1, t1, ws, [], rfl, tkE _ _ he, tkE _ _ ht1, pr7.tk tkE, rfl⟩
      have tkF := Tk.but bu11 b9
      rcases (by omega : r9 = 0 ∨ r9 = 1) with rfl | rfl
      · refine r_ixT (SqT.of (tkF _ _ htt)) rfl ?_
        walk_at "go"
        exact k c1 _ H11 buE b11 ⟨_, tkF _ _ hc11, (hp.tk tkE).app pe⟩ mo.1
      · refine r_ixT (SqT.of (tkF _ _ htt)) rfl ?_
        walk_at "go"
        exact k c2 _ H11 buE b11 ⟨_, tkF _ _ hc21, pe.app (hp.tk tkE)⟩ mo.2
theorem ok_l_short_three {f : Addr} {fd : FuncData} (F : Fun K "_law_short_three" "_law_short_three" s_l_short_three f fd) (B : Bl mg) (h_l_curt : Has P w K mg base "_law_curt" 15 ["_law_bag", "_law_names_here", "_law_steps", "_law_drawn", "_law_far"] spCurt) (h_l_full : Has P w K mg base "_law_full" 14 ["_law_bag", "_law_piece", "_law_names_here"] spFull) (h_l_deep : Has P w K mg base "_law_deep" 14 ["_law_bag", "_law_names_here"] spDeep) : FnOk P w K mg base CX0 16 f fd ["_law_bag", "_law_names_here"] spThree := by
  refine F.ok sc_l_short_three (fun vs H Q E h => ?_) (fun cdv A outer s H vs Q E hr h => ?_)
  · obtain ⟨a, z, rfl, _⟩ := h
    rfl
  · obtain ⟨a, z, rfl, ba, hz, k⟩ := h
    refine ⟨_, (pss_cons (ps_set (i := 2) sc_l_short_three.nd rfl (.inl rfl) (pe_callH h_l_curt (hr.mono (by first | decide | omega)) (pa_cons (pv 0) (pa_cons (pv 1) (pa_cons pe_int (pa_cons pe_int (pa_cons pe_int pa_nil)))))))
    (pss_one (ps_ret (pe_lst (pa_cons (pv 2) (pa_cons (pe_callH h_l_full (hr.mono (by first | decide | omega)) (pa_cons (pv 0) (pa_cons (pv 2) (pa_cons (pv 1) pa_nil)))) (pa_cons (pe_callH h_l_deep (hr.mono (by first | decide | omega)) (pa_cons (pv 0) (pa_cons (pv 1) pa_nil))) pa_nil))))))), ?_⟩
    walk_at "go"
    refine ⟨a, z, 60, 60, 12, rfl, ba, hz, by decide, by decide, by decide, by decide, by decide, fun q1 p1 H1 bu1 b1 h1 cu => ?_⟩
    walk_at "go"
    refine ⟨a, q1, p1, z, rfl, b1, hz, h1, cu, fun q2 p2 H2 bu2 b2 h2 sh2 => ?_⟩
    walk_at "go"
    refine ⟨a, z, rfl, b2, hz, fun q3 p3 H3 bu3 b3 h3 sh3 => ?_⟩
    walk_at "go"
    intro l nl
    walk_at "go"
    have bu := (bu1.trans bu2).trans bu3
    have t2 := Tk.but bu2 b1
    have t3 := Tk.but bu3 b2
    have t4 : Tk H3 (upd H3 l (.lst [.ref q1, .ref q2, .ref q3])) := (Tk.refl _).new nl
    have c1 : Sh 6 p1 := ⟨WfL.mono (Int.le_refl _) (Int.le_refl _) (by decide) cu.wf, cu.l0, by have := cu.l1; omega, by have := cu.sz; omega, cu.way⟩
    exact k l q1 q2 q3 p1 p2 p3 _ (But.free bu (b3.ne nl) nl) (bu.new nl) (b3.keep nl) upd_same (((h1.tk t2).tk t3).tk t4) ((h2.tk t3).tk t4) (h3.tk t4) c1 (sh2.mono (by decide)) (sh3.mono (by decide))
end

set_option Elab.async false
set_option linter.all false
set_option maxRecDepth 100000
set_option maxHeartbeats 4000000

open PySem PySem.Spec PyProof.Rows L2 RT
/-- two values with the same content: ints, strs, tuples of such -/
def SameV (H : Hp) : Nat → V → V → Prop
  | 0, _, _ => False
  | n + 1, x, y => (∃ i, x = .int i ∧ y = .int i) ∨ (∃ s, x = .str s ∧ y = .str s) ∨ ∃ a b xs ys, x = .ref a ∧ y = .ref b ∧ H a = some (.tup xs) ∧ H b = some (.tup ys) ∧ xs.length = ys.length ∧ xs.length ≤ 10000 ∧ ∀ (i : Nat) u v, xs[i]? = some u → ys[i]? = some v → SameV H n u v
theorem SameV.tk {H H' : Hp} (t : Tk H H') : ∀ {n : Nat} {x y : V}, SameV H n x y → SameV H' n x y
  | 0, _, _, h => h.elim
  | n + 1, _, _, .inl h => .inl h
  | n + 1, _, _, .inr (.inl h) => .inr (.inl h)
  | n + 1, _, _, .inr (.inr ⟨a, b, xs, ys, h1, h2, h3, h4, h5, h6, h7⟩) => .inr (.inr ⟨a, b, xs, ys, h1, h2, t _ _ h3, t _ _ h4, h5, h6, fun i u v hu hv => (h7 i u v hu hv).tk t⟩)
theorem at_nat {xs : List V} {i : Nat} {x : V} (h : xs[i]? = some x) : atI xs (i : Int) = some x := by
  obtain ⟨hi, _⟩ := List.getElem?_eq_some_iff.mp h
  unfold atI ixN
  rw [if_pos (by omega), if_pos (by omega)]
  exact h
section
variable {P : Program} {w : World} {K : PySem.W.Frag} {mg : Str → Option Value} {base : Heap}

end

set_option Elab.async false
set_option linter.all false
set_option maxRecDepth 100000
open PySem PySem.Spec PyProof.Rows L2 RT
section
variable {P : Program} {w : World} {K : PySem.W.Frag} {mg : Str → Option Value} {base : Heap}
end

set_option Elab.async false
set_option linter.all false
set_option maxRecDepth 100000
set_option maxHeartbeats 8000000
set_option pp.deepTerms false
set_option pp.deepTerms.threshold 12
set_option pp.maxSteps 1200

open PySem PySem.Spec PyProof.Rows L2
def spUnrolled : Sp := fun vs H Q _ => ∃ a p, vs = [.ref a] ∧ PrIs H a p ∧ Sh 12 p ∧ ∀ q H', Same H H' → PrIs H' q (Prog.unroll 1 p) → Q (.ref q) H'
section
variable {P : Program} {w : World} {K : PySem.W.Frag} {mg : Str → Option Value} {base : Heap}

local macro_rules | `(tactic| walk_at "s") => `(tactic| (first
  | (with_reducible refine r_callD ?_)
  ))
end

set_option Elab.async false
set_option linter.all false
set_option maxRecDepth 100000
set_option maxHeartbeats 4000000

open PySem PySem.Spec PyProof.Rows L2
section
variable {P : Program} {w : World} {K : PySem.W.Frag} {mg : Str → Option Value} {base : Heap} {C : Addr}

local macro_rules | `(tactic| walk_at "s") => `(tactic| (first
  | (with_reducible refine r_dnew ?_)
  | (with_reducible refine r_dget2 ?_)
  | (with_reducible refine r_dget ?_)
  | (with_reducible refine r_dput ?_)
  | (with_reducible refine r_dsetd ?_)
  | ((with_reducible refine JarAt.isD (n := ?nn) (c := ?cc) ?hh ?_); (case hh => assumption))
  ))

local macro_rules | `(tactic| walk_at "s") => `(tactic| (first
  | (with_reducible refine r_prop ?_)
  | (with_reducible refine r_meth ?_)
  | (with_reducible refine r_make ?_)
  | (with_reducible refine r_fld ?_)
  | (with_reducible refine r_sfld ?_)
  | (with_reducible refine r_iOwn ?_)
  | ((with_reducible refine u_rowsAt (mg := ?mm) (C := ?CC) (dx := ?dd) (fv := ?vv) ?tt ?hh ?_); (case tt => assumption); (case hh => walk_at "hp"))
  | ((with_reducible refine r_isPoly (mg := ?mm) (dx := ?dd) (fs := ?ff) ?tt ?hh ?_); (case tt => assumption); (case hh => walk_at "hp"))
  | ((with_reducible refine r_isPolyI (mg := ?mm) ?tt ?_); (case tt => assumption))
  | ((with_reducible refine r_polyInt (mg := ?mm) (C := ?CC) (dx := ?dd) (fs := ?ff) ?tt ?hh ?_); (case tt => assumption); (case hh => walk_at "hp"))
  ))

end

set_option Elab.async false
set_option linter.all false
set_option maxRecDepth 100000
set_option maxHeartbeats 4000000
set_option pp.deepTerms false
set_option pp.deepTerms.threshold 12
set_option pp.maxSteps 1200

open PySem PySem.Spec PyProof.Rows L2 RT
def PlD (H : Hp) (v : V) (e : Str × Terms) : Prop := ∃ b l, v = .ref b ∧ H b = some (.tup [.str e.1, .ref l]) ∧ TermsAt H l e.2
theorem PlD.same {H H' : Hp} {v : V} {e : Str × Terms} (h : PlD H v e) (s : Same H H') : PlD H' v e := let ⟨b, l, e1, e2, e3⟩ := h; ⟨b, l, e1, s _ _ e2, e3.same s⟩
theorem PlaceL.each {F : Addr → Prop} {H : Hp} : ∀ {vs : List V} {pl : Pl}, PlaceL F H vs pl → Each (PlD H) vs pl
  | [], pl, h => by rw [show pl = [] from h]; exact .nil
  | _ :: _, _, ⟨b, l, e, us, e1, e2, e3, _, e5, e6⟩ => by
    subst e1
    exact .cons ⟨b, l, e2, e3, e5⟩ e6.each
/-- short, with many commands perhaps -/
structure Shw (d : Nat) (p : Prog) : Prop where
  wf : Wf BC BC d p
  l0 : 1 ≤ p.len
  l1 : p.len ≤ 4000
  sz : p.size ≤ 200
  way : Prog.wayIn 12 0 (Prog.unroll 1 p)
theorem Sh.w {d : Nat} {p : Prog} (h : Sh d p) : Shw d p := ⟨h.wf, h.l0, Nat.le_trans h.l1 (by decide), h.sz, h.way⟩
def spEffect (C : Addr) : Sp := fun vs H Q _ => ∃ a p, vs = [.ref a] ∧ PrIs H a p ∧ Shw 12 p ∧
  ∀ r l pl H', Same H H' → H l = none → H' r = some (.tup [.int p.head, .ref l]) → PlaceP C H' l pl → IsPlace pl (Prog.wcf 0 (Prog.unroll 1 p)) → (∀ e ∈ pl, (e.2.length : Int) ≤ p.size) → pl.length < 64 → Q (.ref r) H'
section
variable {P : Program} {w : World} {K : PySem.W.Frag} {mg : Str → Option Value} {base : Heap} {C : Addr}

local macro_rules | `(tactic| walk_at "s") => `(tactic| (first
  | (with_reducible refine r_dnew ?_)
  | (with_reducible refine r_dget2 ?_)
  | (with_reducible refine r_dget ?_)
  | (with_reducible refine r_dput ?_)
  | (with_reducible refine r_dsetd ?_)
  | ((with_reducible refine JarAt.isD (n := ?nn) (c := ?cc) ?hh ?_); (case hh => assumption))
  ))

local macro_rules | `(tactic| walk_at "s") => `(tactic| (first
  | (with_reducible refine r_prop ?_)
  | (with_reducible refine r_meth ?_)
  | (with_reducible refine r_make ?_)
  | (with_reducible refine r_fld ?_)
  | (with_reducible refine r_sfld ?_)
  | (with_reducible refine r_iOwn ?_)
  | ((with_reducible refine u_rowsAt (mg := ?mm) (C := ?CC) (dx := ?dd) (fv := ?vv) ?tt ?hh ?_); (case tt => assumption); (case hh => walk_at "hp"))
  | ((with_reducible refine r_isPoly (mg := ?mm) (dx := ?dd) (fs := ?ff) ?tt ?hh ?_); (case tt => assumption); (case hh => walk_at "hp"))
  | ((with_reducible refine r_isPolyI (mg := ?mm) ?tt ?_); (case tt => assumption))
  | ((with_reducible refine r_polyInt (mg := ?mm) (C := ?CC) (dx := ?dd) (fs := ?ff) ?tt ?hh ?_); (case tt => assumption); (case hh => walk_at "hp"))
  ))

end

set_option Elab.async false
set_option linter.all false
set_option maxRecDepth 100000
set_option maxHeartbeats 4000000
set_option pp.deepTerms false
set_option pp.deepTerms.threshold 12
set_option pp.maxSteps 1200

open PySem PySem.Spec PyProof.Rows L2 RT
def spRawPlaces (C : Addr) : Sp := fun vs H Q _ => ∃ a p, vs = [.ref a] ∧ PrIs H a p ∧ Wf BC BC 12 p ∧ p.size ≤ 4000 ∧
  ∀ l vs H', H l = none → Same H H' → H' l = some (.lst vs) → Each (PlR C H H' l) vs (pfx (Prog.stps 0 (Prog.unroll 1 p)) ((Prog.stps 0 (Prog.unroll 1 p)).length + 1)) → Q (.ref l) H'
def spPlaces (C : Addr) : Sp := fun vs H Q _ => ∃ a p, vs = [.ref a] ∧ PrIs H a p ∧ Sh 12 p ∧
  ∀ l vs H', H l = none → Same H H' → H' l = some (.lst vs) → Each (PlR C H H' l) vs (pfx (Prog.stps 0 (Prog.unroll 1 p)) ((Prog.stps 0 (Prog.unroll 1 p)).length + 1)) → Q (.ref l) H'
section
variable {P : Program} {w : World} {K : PySem.W.Frag} {mg : Str → Option Value} {base : Heap} {C : Addr}

local macro_rules | `(tactic| walk_at "s") => `(tactic| (first
  | (with_reducible refine r_dnew ?_)
  | (with_reducible refine r_dget2 ?_)
  | (with_reducible refine r_dget ?_)
  | (with_reducible refine r_dput ?_)
  | (with_reducible refine r_dsetd ?_)
  | ((with_reducible refine JarAt.isD (n := ?nn) (c := ?cc) ?hh ?_); (case hh => assumption))
  ))

theorem ok_raw_places {f : Addr} {fd : FuncData} (F : Fun K "raw_places" "raw_places" s_raw_places f fd) (B : Bl mg) (h_raw_steps : Has P w K mg base "raw_steps" 14 ["program"] spRawSteps) (h_add_step : Has P w K mg base "add_step" 1 ["numbers", "step"] spAddStep) (h_place_from : Has P w K mg base "place_from" 5 ["numbers"] (spPlaceFrom C)) : FnOk P w K mg base CX0 15 f fd ["program"] (spRawPlaces C) := by
  refine F.ok sc_raw_places (fun vs H Q E h => ?_) (fun cdv A outer s H vs Q E hr h => ?_)
  · obtain ⟨a, p, rfl, _⟩ := h
    rfl
  · obtain ⟨a, p, rfl, hq, hw, hz, k⟩ := h
    refine ⟨_, (pss_cons (ps_set (i := 1) sc_raw_places.nd rfl (.inl rfl) pe_dnewK)
    (pss_cons (ps_set (i := 2) sc_raw_places.nd rfl (.inl rfl) (pe_lst (pa_cons (pe_lst pa_nil) pa_nil)))
    (pss_cons (ps_for PassesOwn.never rfl (pi_list (pe_ix (ix_tupK (K := K)) (pe_callH h_raw_steps (hr.mono (by first | decide | omega)) (pa_cons (pv 0) pa_nil)) pe_int (fun _ _ => rfl))) (pg_name (i := 3) sc_raw_places.nd rfl (.inl rfl))
    (pss_cons (ps_expr (pe_callH h_add_step (hr.mono (by first | decide | omega)) (pa_cons (pv 1) (pa_cons (pv 3) pa_nil))))
    (pss_one (ps_expr (pe_bm PySem.F.plainAttrs_list PySem.F.slot_list_append PySem.F.type_list_append mt_append (pv 2) (pa_cons (pe_callH h_place_from (hr.mono (by first | decide | omega)) (pa_cons (pv 1) pa_nil)) pa_nil))))))
    (pss_one (ps_ret (pv 2)))))), ?_⟩
    walk_at "go"
    intro sp nsp
    walk_at "go"
    intro e0 ne0
    walk_at "go"
    intro l nl
    walk_at "go"
    have nle : e0 ≠ l := ne_of_none upd_same nl
    have he0 : upd (upd (upd H sp (.dK [])) e0 (.lst [])) l (.lst [.ref e0]) e0 = some (.lst []) := h_keep upd_same nl
    have hl0 : upd (upd (upd H sp (.dK [])) e0 (.lst [])) l (.lst [.ref e0]) l = some (.lst [.ref e0]) := upd_same
    have s01 : Same (upd H sp (.dK [])) (upd (upd (upd H sp (.dK [])) e0 (.lst [])) l (.lst [.ref e0])) := Same.new (Same.new0 ne0) nl
    have spt0 := (Spot.empty nsp).later s01
    have nHe : H e0 = none := free_same (Same.new0 nsp) ne0
    have nHl : H l = none := free_same (Same.new (Same.new0 nsp) ne0) nl
    generalize upd (upd (upd H sp (.dK [])) e0 (.lst [])) l (.lst [.ref e0]) = H1 at *
    refine ⟨a, p, rfl, hq.tk (Tk.same spt0.same), hw, hz, fun r ls xs H2 nls s2 hr2 hls he => ?_⟩
    have spt2 := spt0.later s2
    have hl2 := s2 _ _ hl0
    have lsl : ls ≠ l := (ne_of_none hl0 nls).symm
    walk_at "go"
    have wu : Wf BC BC 0 (Prog.unroll 1 p) := Prog.wf_unroll (.inl rfl) hw
    have lu := Prog.len_unroll 1 hw
    have ll := Prog.stps_len (Prog.unroll 1 p) 0
    have hok := Prog.stps_ok 0 wu
    generalize Prog.stps 0 (Prog.unroll 1 p) = ss at *
    have el := he.1
    refine u_forL (.of hls) (fun i σ H' => ∃ (ws : List (Str × Addr)) (vs : List V) (y3 : Option V), σ = [some (.ref a), some (.ref sp), some (.ref l), y3] ∧ i ≤ xs.length ∧ H' l = some (.lst vs) ∧ Each (PlR C H H' l) vs (pfx ss (i + 1)) ∧ Spot H H' sp i (stC (ss.take i)) ws ∧ H' ls = some (.lst xs) ∧ Tk H2 H') ?_ ?_ ?_ ?_
    · refine ⟨[], [.ref e0], _, rfl, Nat.zero_le _, hl2, .one ⟨e0, [], rfl, nHe, nle, ⟨[], s2 _ _ he0, .nil⟩, IsPlace.nil, by simp, by simp⟩, spt2, hls, Tk.refl _⟩
    · rintro i σ H' _ ⟨ws, vs, y3, rfl, _, _, _, _, h, _⟩
      exact .of h
    · rintro i x σ H' hx ⟨ws, vs, y3, rfl, hi, hl, hv, hs, hls', tk'⟩
      obtain ⟨st, hst, b, rfl, hb⟩ := he.at hx
      have hi2 := (List.getElem?_eq_some_iff.mp hx).1
      obtain ⟨w1, w2⟩ := hok st (List.mem_of_getElem? hst)
      have vl := hv.1
      rw [pfx_len] at vl
      walk_at "go"
      refine ⟨sp, b, H, i, _, ws, st, rfl, hs, by omega, tk' _ _ hb, w1, w2, fun ws' H3 hs3 sd3 => ?_⟩
      have ec : bump (stC (ss.take i)) st = stC (ss.take (i + 1)) := by rw [List.take_succ, hst, stC_snoc']
      rw [ec] at hs3
      have hl3 := sd3.lst hl
      walk_at "go"
      refine ⟨sp, H, _, _, ws', rfl, hs3, by omega, fun a2 pl H4 na2 s4 hpl his hlen hfew => ?_⟩
      have hl4 := s4 _ _ (sd3.lst hl)
      have a2l : a2 ≠ l := (ne_of_none (sd3.lst hl) na2).symm
      walk_at "go"
      refine ⟨ws', _, _, rfl, hi2, upd_same, ?_, (hs3.later s4).lst nHl hl4, (upd_ne lsl).trans (s4 _ _ (sd3.lst hls')), (tk'.trans (sd3.tk.trans (Tk.same s4))).lst hl4⟩
      rw [pfx_succ]
      refine (hv.imp fun v x _ h => ((h.std sd3).std (.of s4)).lst hl4).snoc ?_
      exact PlR.lst ⟨a2, pl, rfl, free_same hs3.same na2, a2l, hpl, his, fun e he => Nat.le_trans (hlen e he) (by omega), hfew⟩ hl4
    · rintro σ H' ⟨ws, vs, y3, rfl, hi, hl, hv, hs, _⟩
      walk_at "go"
      rw [el] at hv
      exact k l vs H' nHl hs.same hl hv
end

set_option Elab.async false
set_option linter.all false
set_option maxRecDepth 100000
set_option maxHeartbeats 4000000

open PySem PySem.Spec PyProof.Rows L2 RT
section
variable {P : Program} {w : World} {K : PySem.W.Frag} {mg : Str → Option Value} {base : Heap}

local macro_rules | `(tactic| walk_at "s") => `(tactic| (first
  | (with_reducible refine r_dnew ?_)
  | (with_reducible refine r_dget2 ?_)
  | (with_reducible refine r_dget ?_)
  | (with_reducible refine r_dput ?_)
  | (with_reducible refine r_dsetd ?_)
  | ((with_reducible refine JarAt.isD (n := ?nn) (c := ?cc) ?hh ?_); (case hh => assumption))
  ))

end

set_option Elab.async false
set_option linter.all false
set_option maxRecDepth 100000
set_option maxHeartbeats 4000000
set_option pp.deepTerms false
set_option pp.deepTerms.threshold 12
set_option pp.maxSteps 1200

open PySem PySem.Spec PyProof.Rows L2 RT
section
variable {P : Program} {w : World} {K : PySem.W.Frag} {mg : Str → Option Value} {base : Heap} {C : Addr}

local macro_rules | `(tactic| walk_at "s") => `(tactic| (first
  | (with_reducible refine r_dnew ?_)
  | (with_reducible refine r_dget2 ?_)
  | (with_reducible refine r_dget ?_)
  | (with_reducible refine r_dput ?_)
  | (with_reducible refine r_dsetd ?_)
  | ((with_reducible refine JarAt.isD (n := ?nn) (c := ?cc) ?hh ?_); (case hh => assumption))
  ))

end

set_option Elab.async false
set_option linter.all false
set_option maxRecDepth 100000
set_option maxHeartbeats 4000000
set_option pp.deepTerms false
set_option pp.deepTerms.threshold 12
set_option pp.maxSteps 1200

open PySem PySem.Spec PyProof.Rows L2 RT
/-- the program's tuple of the drawn words -/
structure DrawnAt (K : PySem.W.Frag) (mg : Str → Option Value) : Prop where
  ex : ∃ d, mg "DRAWN" = some (.ref d) ∧ ∀ H, SqT K H d [.str "go", .str "back"]
def spRawStrokes (C : Addr) : Sp := fun vs H Q _ => ∃ a p, vs = [.ref a] ∧ PrIs H a p ∧ Wf BC BC 12 p ∧ p.size ≤ 4000 ∧
  ∀ l vs H', H l = none → Same H H' → H' l = some (.lst vs) → Each (StR C (Prog.stps 0 (Prog.unroll 1 p)) H H' l) vs (drw 0 (Prog.stps 0 (Prog.unroll 1 p))) → Q (.ref l) H'
def spStrokes (C : Addr) : Sp := fun vs H Q _ => ∃ a p, vs = [.ref a] ∧ PrIs H a p ∧ Sh 12 p ∧
  ∀ l vs H', H l = none → Same H H' → H' l = some (.lst vs) → Each (StR C (Prog.stps 0 (Prog.unroll 1 p)) H H' l) vs (drw 0 (Prog.stps 0 (Prog.unroll 1 p))) → Q (.ref l) H'
section
variable {P : Program} {w : World} {K : PySem.W.Frag} {mg : Str → Option Value} {base : Heap} {C : Addr}

local macro_rules | `(tactic| walk_at "s") => `(tactic| (first
  | (with_reducible refine r_dnew ?_)
  | (with_reducible refine r_dget2 ?_)
  | (with_reducible refine r_dget ?_)
  | (with_reducible refine r_dput ?_)
  | (with_reducible refine r_dsetd ?_)
  | ((with_reducible refine JarAt.isD (n := ?nn) (c := ?cc) ?hh ?_); (case hh => assumption))
  ))

local macro_rules | `(tactic| walk_at "s") => `(tactic| first | with_reducible refine r_iEnum ?_)
theorem ok_raw_strokes {f : Addr} {fd : FuncData} (F : Fun K "raw_strokes" "raw_strokes" s_raw_strokes f fd) (B : Bl mg) (bEnum : mg "enumerate" = none) (DR : DrawnAt K mg) (h_raw_steps : Has P w K mg base "raw_steps" 14 ["program"] spRawSteps) (h_raw_places : Has P w K mg base "raw_places" 15 ["program"] (spRawPlaces C)) : FnOk P w K mg base CX0 16 f fd ["program"] (spRawStrokes C) := by
  obtain ⟨dD, gD, hD⟩ := DR.ex
  refine F.ok sc_raw_strokes (fun vs H Q E h => ?_) (fun cdv A outer s H vs Q E hr h => ?_)
  · obtain ⟨a, p, rfl, _⟩ := h
    rfl
  · obtain ⟨a, p, rfl, hq, hw, hz, k⟩ := h
    refine ⟨_, (pss_cons (ps_set (i := 1) sc_raw_strokes.nd rfl (.inl rfl) (pe_callH h_raw_places (hr.mono (by first | decide | omega)) (pa_cons (pv 0) pa_nil)))
    (pss_cons (ps_set (i := 2) sc_raw_strokes.nd rfl (.inl rfl) (pe_ix (ix_tupK (K := K)) (pe_callH h_raw_steps (hr.mono (by first | decide | omega)) (pa_cons (pv 0) pa_nil)) pe_int (fun _ _ => rfl)))
    (pss_cons (ps_set (i := 3) sc_raw_strokes.nd rfl (.inl rfl) (pe_lst pa_nil))
    (pss_cons (ps_for PassesOwn.never rfl (pi_enum (by rfl) bEnum (pa_cons (pv 2) pa_nil)) (pg_tup (by rfl) (pgs_cons (pg_name (i := 4) sc_raw_strokes.nd rfl (.inl rfl)) (pgs_cons (pg_name (i := 5) sc_raw_strokes.nd rfl (.inl rfl)) pgs_nil)))
    (pss_one (ps_if (pt_cmpR (op_in_seqK (K := K)) (pe_ix (ix_tupK (K := K)) (pv 5) pe_int (fun _ _ => rfl)) (pe_glob (v := .ref dD) rfl gD rfl) (by rfl))
    (pss_one (ps_expr (pe_bm PySem.F.plainAttrs_list PySem.F.slot_list_append PySem.F.type_list_append mt_append (pv 3) (pa_cons (pe_tup (pa_cons (pe_ix (ix_tupK (K := K)) (pv 5) pe_int (fun _ _ => rfl)) (pa_cons (pe_callTy call_listT (by rfl) B.b_list (by decide +kernel) (pa_cons (pe_ix (ix_listK (K := K)) (pv 1) (pv 4) (fun _ _ => rfl)) pa_nil)) (pa_cons (pe_callTy call_listT (by rfl) B.b_list (by decide +kernel) (pa_cons (pe_ix (ix_listK (K := K)) (pv 1) (pe_op op_add (pv 4) pe_int) (fun _ _ => rfl)) pa_nil)) pa_nil)))) pa_nil))))
    pss_nil)))
    (pss_one (ps_ret (pv 3))))))), ?_⟩
    walk_at "go"
    refine ⟨a, p, rfl, hq, hw, hz, fun pl vs H1 npl s1 hpl hv => ?_⟩
    walk_at "go"
    refine ⟨a, p, rfl, hq.tk (Tk.same s1), hw, hz, fun r ls xs H2 nls s2 hr2 hls he => ?_⟩
    walk_at "go"
    intro m nm
    walk_at "go"
    have wu : Wf BC BC 0 (Prog.unroll 1 p) := Prog.wf_unroll (.inl rfl) hw
    have lu := Prog.len_unroll 1 hw
    have ll := Prog.stps_len (Prog.unroll 1 p) 0
    have hok := Prog.stps_ok 0 wu
    generalize Prog.stps 0 (Prog.unroll 1 p) = ss at *
    have el := he.1
    have vl := hv.1
    rw [pfx_len] at vl
    have s3 : Same H2 (upd H2 m (.lst [])) := Same.new0 nm
    have hm3 : upd H2 m (.lst []) m = some (.lst []) := upd_same
    have nHm : H m = none := free_same (s1.trans s2) nm
    have hls3 := s3 _ _ hls
    have hpl3 := s3 _ _ (s2 _ _ hpl)
    have lsm : ls ≠ m := ne_of_none hls nm
    have plm : pl ≠ m := ne_of_none (s2 _ _ hpl) nm
    have he3 : Each (StpC (upd H2 m (.lst []))) xs ss := he.imp fun v x _ h => h.tk (Tk.same s3)
    have hv3 : Each (PlR C H (upd H2 m (.lst [])) pl) vs (pfx ss (ss.length + 1)) := hv.imp fun v x _ h => h.std (.of (s2.trans s3))
    have s03 := s1.trans (s2.trans s3)
    generalize upd H2 m (.lst []) = H3 at *
    refine u_forE (.of hls3) (fun i σ H' => ∃ (ws : List V) (y4 y5 : Option V), σ = [some (.ref a), some (.ref pl), some (.ref ls), some (.ref m), y4, y5] ∧ i ≤ xs.length ∧ H' m = some (.lst ws) ∧ Each (StR C ss H H' m) ws (drw 0 (ss.take i)) ∧ But m H3 H') ?_ ?_ ?_ ?_
    · exact ⟨[], _, _, rfl, Nat.zero_le _, hm3, .nil, But.refl _ _⟩
    · rintro i σ H' _ ⟨ws, y4, y5, rfl, _, _, _, bu⟩
      exact .of (bu _ _ lsm hls3)
    · rintro i x T σ H' hx ⟨ws, y4, y5, rfl, hi, hm', hw', bu⟩ nT
      obtain ⟨st, hst, b, rfl, hb⟩ := he3.at hx
      have hi2 := (List.getElem?_eq_some_iff.mp hx).1
      obtain ⟨w1, w2⟩ := hok st (List.mem_of_getElem? hst)
      have sT : Same H' (upd H' T (.tup [.int (i : Int), .ref b])) := Same.new0 nT
      have hT : upd H' T (.tup [.int (i : Int), .ref b]) T = some (.tup [.int (i : Int), .ref b]) := upd_same
      have bm : b ≠ m := ne_of hb hm3 (by intro z; cases z)
      have hb' := sT _ _ (bu _ _ bm hb)
      have hmT := sT _ _ hm'
      have hplT := sT _ _ (bu _ _ plm hpl3)
      have buT : But m H3 (upd H' T (.tup [.int (i : Int), .ref b])) := bu.new nT
      have hwT : Each (StR C ss H (upd H' T (.tup [.int (i : Int), .ref b])) m) ws (drw 0 (ss.take i)) := hw'.imp fun v x _ h => h.std (.of sT)
      generalize upd H' T (.tup [.int (i : Int), .ref b]) = H4 at *
      have wl := hw'.1
      have wl2 := drw_len 0 (ss.take i)
      rw [List.length_take] at wl2
      walk_at "go"
      refine ⟨dD, _, rfl, .inr (hD _), rfl, rfl, ?_⟩
      rw [inDrawn w1]
      walk_at "go"
      have lt : (ss.take i).length = i := by rw [List.length_take]; omega
      refine r_iteD (fun hdr => ?_) (fun hdr => ?_)
      · have hi1 : i < vs.length := by omega
        have hi3 : i + 1 < vs.length := by omega
        have q1 := hv.at (List.getElem?_eq_getElem hi1)
        have q2 := hv.at (List.getElem?_eq_getElem hi3)
        rw [pfx_get (by omega)] at q1 q2
        obtain ⟨_, e1, a1, pl1, ev1, na1, nal1, hp1, ip1, hle1, hf1⟩ := q1
        obtain ⟨_, e2, a2, pl2, ev2, na2, nal2, hp2, ip2, hle2, hf2⟩ := q2
        cases e1
        cases e2
        have am1 : a1 ≠ m := by obtain ⟨_, e, _⟩ := hp1; exact ne_of_none (s2 _ _ e) nm
        have am2 : a2 ≠ m := by obtain ⟨_, e, _⟩ := hp2; exact ne_of_none (s2 _ _ e) nm
        obtain ⟨v1, hv1, hc1⟩ := (hp1.same (s2.trans s3)).but am1 hm3 buT
        obtain ⟨v2, hv2, hc2⟩ := (hp2.same (s2.trans s3)).but am2 hm3 buT
        have x1 : atI vs (i : Int) = some (.ref a1) := by rw [← ev1]; exact at_nat (List.getElem?_eq_getElem hi1)
        have x2 : atI vs ((i : Int) + 1) = some (.ref a2) := by
          rw [← ev2, show (i : Int) + 1 = ((i + 1 : Nat) : Int) by omega]; exact at_nat (List.getElem?_eq_getElem hi3)
        walk_at "go"
        refine r_ixL (.of hplT) x1 ?_
        walk_at "go"
        intro c1 nc1
        have s5 : Same H4 (upd H4 c1 (.lst v1)) := Same.new0 nc1
        have hc15 : upd H4 c1 (.lst v1) c1 = some (.lst v1) := upd_same
        have c1m : c1 ≠ m := (ne_of_none hmT nc1).symm
        have hpl5 := s5 _ _ hplT
        have hm5 := s5 _ _ hmT
        have hv25 := s5 _ _ hv2
        have hb5 := s5 _ _ hb'
        generalize upd H4 c1 (.lst v1) = H5 at *
        walk_at "go"
        refine r_ixL (.of hpl5) x2 ?_
        walk_at "go"
        intro c2 nc2
        have s6 : Same H5 (upd H5 c2 (.lst v2)) := Same.new0 nc2
        have hc26 : upd H5 c2 (.lst v2) c2 = some (.lst v2) := upd_same
        have c2m : c2 ≠ m := (ne_of_none hm5 nc2).symm
        have hm6 := s6 _ _ hm5
        have hc16 := s6 _ _ hc15
        generalize upd H5 c2 (.lst v2) = H6 at *
        walk_at "go"
        intro t nt
        walk_at "go"
        have s7 : Same H6 (upd H6 t (.tup [.str st.2.1, .ref c1, .ref c2])) := Same.new0 nt
        have ht7 : upd H6 t (.tup [.str st.2.1, .ref c1, .ref c2]) t = some (.tup [.str st.2.1, .ref c1, .ref c2]) := upd_same
        have hm7 := s7 _ _ hm6
        have hc17 := s7 _ _ hc16
        have hc27 := s7 _ _ hc26
        have bu7 : But m H3 (upd (upd H6 t (.tup [.str st.2.1, .ref c1, .ref c2])) m (.lst (ws ++ [.ref t]))) := (buT.trans ((Same.but (s5.trans (s6.trans s7)) m))).self
        have nHc1 : H c1 = none := free_same (Same.but2 s03 nHm buT) nc1
        have nHc2 : H c2 = none := free_same ((Same.but2 s03 nHm buT).trans s5) nc2
        generalize upd H6 t (.tup [.str st.2.1, .ref c1, .ref c2]) = H7 at *
        refine ⟨_, _, _, rfl, hi2, upd_same, ?_, bu7⟩
        rw [List.take_succ, hst]
        show Each _ _ (drw 0 (ss.take i ++ [st]))
        rw [drw_snoc, if_pos (show isDrawn st = true from decide_eq_true hdr), lt]
        have s47 := s5.trans (s6.trans s7)
        refine (hwT.imp fun v x _ h => (h.std (.of s47)).lst hm7).snoc (StR.lst ⟨t, c1, c2, pl1, pl2, rfl, ht7, ⟨nHc1, nHc2, c1m, c2m⟩, ⟨⟨v1, hc17, hc1.imp fun v x _ r => r.stay (.same s47)⟩, ip1, hle1, hf1⟩, ⟨v2, hc27, hc2.imp fun v x _ r => r.stay (.same s47)⟩, ip2, hle2, hf2⟩ hm7)
      · walk_at "go"
        refine ⟨ws, _, _, rfl, hi2, hmT, ?_, buT⟩
        rw [List.take_succ, hst]
        show Each _ _ (drw 0 (ss.take i ++ [st]))
        rw [drw_snoc, if_neg (by simpa [isDrawn] using hdr), List.append_nil]
        exact hwT
    · rintro σ H' ⟨ws, y4, y5, rfl, hi, hm', hw', bu⟩
      walk_at "go"
      rw [el, List.take_length] at hw'
      exact k m ws H' nHm (Same.but2 s03 nHm bu) hm' hw'
end

set_option Elab.async false
set_option linter.all false
set_option maxRecDepth 100000
set_option maxHeartbeats 8000000
set_option pp.deepTerms false
set_option pp.deepTerms.threshold 12
set_option pp.maxSteps 1200

open PySem PySem.Spec PyProof.Rows L2
/-- a function of short programs: for a right one what good says; NotShort with the size for one that is not short, InvalidProgram for what is none -/
def spShX (K : PySem.W.Frag) (A1 A2 : Addr) (good : Sp) : Sp := fun vs H Q E => ∃ v, vs = [v] ∧ (good [v] H Q E ∨
  (∃ a p, v = .ref a ∧ PrIs H a p ∧ Wf BC BC 12 p ∧ 1 ≤ p.len ∧ p.len ≤ 4000 ∧ p.short = false ∧ ∀ d H', H d = none → Same H H' → H' d = some (.xd [("amount", .int p.size)]) → E (.ref A2) (some d) H') ∨
  (PrB K H 14 v false ∧ ∀ H', Same H H' → E (.ref A1) none H'))
section
variable {P : Program} {w : World} {K : PySem.W.Frag} {mg : Str → Option Value} {base : Heap} {C A_InvalidProgram A_NotShort : Addr}

local macro_rules | `(tactic| walk_at "s") => `(tactic| (first
  | (with_reducible refine r_callX ?_)
  | (with_reducible refine r_callXK ?_)
  | (with_reducible refine r_callD ?_)
  ))
theorem sh_checked {K : PySem.W.Frag} {A : Addr} {H : Hp} {Q : VK} {E : XK} {a : Addr} {p : Prog} (hp : PrIs H a p) (hw : Wf BC BC 12 p) (l1 : 1 ≤ p.len) (l2 : p.len ≤ 4000) (k : ∀ H', Same H H' → Q .non H') : spCheckPrX K A [.ref a] H Q E := ⟨_, rfl, .inl ⟨(hp.prB 12 hw l1 l2).mono (by decide), k⟩⟩
theorem ok_unrolledX {f : Addr} {fd : FuncData} (F : Fun K "unrolled" "unrolled" s_unrolled f fd) (B : Bl mg) (hx_check_program : HasX P w K mg base "check_program" 30 ["value"] (spCheckPrX K A_InvalidProgram)) (hx_check_short : HasX P w K mg base "check_short" 15 ["program"] (spCheckShX A_NotShort)) (hd_plain_row : HasD P w K mg base "plain_row" 13 ["program", "sign"] (spUnLt 13) [.int 1]) : FnOk P w K mg base (L2.CX P w) 31 f fd ["program"] (spShX K A_InvalidProgram A_NotShort spUnrolled) := by
  refine F.okX sc_unrolled (fun vs H Q E h => ?_) (fun cdv A outer s H vs Q E hr h => ?_)
  · obtain ⟨v, rfl, _⟩ := h
    rfl
  · obtain ⟨v, rfl, h⟩ := h
    refine ⟨_, (pss_cons (ps_expr (pe_callXH hx_check_program (hr.mono (by first | decide | omega)) (takes_of rfl rfl rfl rfl) (pa_cons (pv 0) pa_nil)))
    (pss_cons (ps_expr (pe_callXH hx_check_short (hr.mono (by first | decide | omega)) (takes_of rfl rfl rfl rfl) (pa_cons (pv 0) pa_nil)))
    (pss_one (ps_ret (pe_callTy call_tupL (by rfl) B.b_tuple (by decide +kernel) (pa_cons (pe_callHD hd_plain_row (hr.mono (by first | decide | omega)) (pa_cons (pv 0) pa_nil)) pa_nil)))))), ?_⟩
    walk_at "go"
    rcases h with ⟨a, p, hv, hq, sh, k⟩ | ⟨a, p, rfl, hq, hw, l1, l2, hs, k⟩ | ⟨hv, k⟩
    · cases hv
      have l1 := sh.l1
      have sz := sh.sz
      refine sh_checked hq sh.wf sh.l0 (by omega) fun H1 s1 => ?_
      walk_at "go"
      refine ⟨a, p, rfl, hq.tk (Tk.same s1), sh.wf, by omega, .inl ⟨Prog.short_of sh.sz sh.way, fun H2 s2 => ?_⟩⟩
      walk_at "go"
      refine ⟨a, p, 1, rfl, .inl rfl, (hq.tk (Tk.same s1)).tk (Tk.same s2), sh.wf, by omega, fun l xs H3 nl s3 hl hp => ?_⟩
      walk_at "go"
      intro t nt
      walk_at "go"
      exact k t _ (Same.new ((s1.trans s2).trans s3) nt) ⟨xs, upd_same, hp.tk ((Tk.refl _).new nt)⟩
    · refine sh_checked hq hw l1 l2 fun H1 s1 => ?_
      walk_at "go"
      exact ⟨a, p, rfl, hq.tk (Tk.same s1), hw, l2, .inr ⟨hs, fun d H2 nd s2 hd => k d H2 (free_same s1 nd) (s1.trans s2) hd⟩⟩
    · exact ⟨_, rfl, .inr ⟨hv, k⟩⟩
theorem ok_effectX {f : Addr} {fd : FuncData} (F : Fun K "effect" "effect" s_effect f fd) (hx_check_program : HasX P w K mg base "check_program" 30 ["value"] (spCheckPrX K A_InvalidProgram)) (hx_check_short : HasX P w K mg base "check_short" 15 ["program"] (spCheckShX A_NotShort)) (h_raw_effect : Has P w K mg base "raw_effect" 15 ["program"] (spRawEffect C)) : FnOk P w K mg base (L2.CX P w) 31 f fd ["program"] (spShX K A_InvalidProgram A_NotShort (spEffect C)) := by
  refine F.okX sc_effect (fun vs H Q E h => ?_) (fun cdv A outer s H vs Q E hr h => ?_)
  · obtain ⟨v, rfl, _⟩ := h
    rfl
  · obtain ⟨v, rfl, h⟩ := h
    refine ⟨_, (pss_cons (ps_expr (pe_callXH hx_check_program (hr.mono (by first | decide | omega)) (takes_of rfl rfl rfl rfl) (pa_cons (pv 0) pa_nil)))
    (pss_cons (ps_expr (pe_callXH hx_check_short (hr.mono (by first | decide | omega)) (takes_of rfl rfl rfl rfl) (pa_cons (pv 0) pa_nil)))
    (pss_one (ps_ret (pe_callH h_raw_effect (hr.mono (by first | decide | omega)) (pa_cons (pv 0) pa_nil)))))), ?_⟩
    walk_at "go"
    rcases h with ⟨a, p, hv, hq, sh, k⟩ | ⟨a, p, rfl, hq, hw, l1, l2, hs, k⟩ | ⟨hv, k⟩
    · cases hv
      have l1 := sh.l1
      have sz := sh.sz
      refine sh_checked hq sh.wf sh.l0 (by omega) fun H1 s1 => ?_
      walk_at "go"
      refine ⟨a, p, rfl, hq.tk (Tk.same s1), sh.wf, by omega, .inl ⟨Prog.short_of sh.sz sh.way, fun H2 s2 => ?_⟩⟩
      walk_at "go"
      refine ⟨a, p, rfl, (hq.tk (Tk.same s1)).tk (Tk.same s2), sh.wf, by omega, fun r l pl H3 s3 nl h1 h2 h3 h4 h5 => ?_⟩
      exact k r l pl H3 ((s1.trans s2).trans s3) (free_same (s1.trans s2) nl) h1 h2 h3 h4 h5
    · refine sh_checked hq hw l1 l2 fun H1 s1 => ?_
      walk_at "go"
      exact ⟨a, p, rfl, hq.tk (Tk.same s1), hw, l2, .inr ⟨hs, fun d H2 nd s2 hd => k d H2 (free_same s1 nd) (s1.trans s2) hd⟩⟩
    · exact ⟨_, rfl, .inr ⟨hv, k⟩⟩
theorem ok_placesX {f : Addr} {fd : FuncData} (F : Fun K "places" "places" s_places f fd) (hx_check_program : HasX P w K mg base "check_program" 30 ["value"] (spCheckPrX K A_InvalidProgram)) (hx_check_short : HasX P w K mg base "check_short" 15 ["program"] (spCheckShX A_NotShort)) (h_raw_places : Has P w K mg base "raw_places" 15 ["program"] (spRawPlaces C)) : FnOk P w K mg base (L2.CX P w) 31 f fd ["program"] (spShX K A_InvalidProgram A_NotShort (spPlaces C)) := by
  refine F.okX sc_places (fun vs H Q E h => ?_) (fun cdv A outer s H vs Q E hr h => ?_)
  · obtain ⟨v, rfl, _⟩ := h
    rfl
  · obtain ⟨v, rfl, h⟩ := h
    refine ⟨_, (pss_cons (ps_expr (pe_callXH hx_check_program (hr.mono (by first | decide | omega)) (takes_of rfl rfl rfl rfl) (pa_cons (pv 0) pa_nil)))
    (pss_cons (ps_expr (pe_callXH hx_check_short (hr.mono (by first | decide | omega)) (takes_of rfl rfl rfl rfl) (pa_cons (pv 0) pa_nil)))
    (pss_one (ps_ret (pe_callH h_raw_places (hr.mono (by first | decide | omega)) (pa_cons (pv 0) pa_nil)))))), ?_⟩
    walk_at "go"
    rcases h with ⟨a, p, hv, hq, sh, k⟩ | ⟨a, p, rfl, hq, hw, l1, l2, hs, k⟩ | ⟨hv, k⟩
    · cases hv
      have l1 := sh.l1
      have sz := sh.sz
      refine sh_checked hq sh.wf sh.l0 (by omega) fun H1 s1 => ?_
      walk_at "go"
      refine ⟨a, p, rfl, hq.tk (Tk.same s1), sh.wf, by omega, .inl ⟨Prog.short_of sh.sz sh.way, fun H2 s2 => ?_⟩⟩
      walk_at "go"
      refine ⟨a, p, rfl, (hq.tk (Tk.same s1)).tk (Tk.same s2), sh.wf, by omega, fun l vs H3 nl s3 hl hv => ?_⟩
      refine k l vs H3 (free_same (s1.trans s2) nl) ((s1.trans s2).trans s3) hl (hv.imp fun v x _ h => ?_)
      obtain ⟨a2, pl, e, n, r⟩ := h
      exact ⟨a2, pl, e, free_same (s1.trans s2) n, r⟩
    · refine sh_checked hq hw l1 l2 fun H1 s1 => ?_
      walk_at "go"
      exact ⟨a, p, rfl, hq.tk (Tk.same s1), hw, l2, .inr ⟨hs, fun d H2 nd s2 hd => k d H2 (free_same s1 nd) (s1.trans s2) hd⟩⟩
    · exact ⟨_, rfl, .inr ⟨hv, k⟩⟩
theorem ok_strokesX {f : Addr} {fd : FuncData} (F : Fun K "strokes" "strokes" s_strokes f fd) (hx_check_program : HasX P w K mg base "check_program" 30 ["value"] (spCheckPrX K A_InvalidProgram)) (hx_check_short : HasX P w K mg base "check_short" 15 ["program"] (spCheckShX A_NotShort)) (h_raw_strokes : Has P w K mg base "raw_strokes" 16 ["program"] (spRawStrokes C)) : FnOk P w K mg base (L2.CX P w) 31 f fd ["program"] (spShX K A_InvalidProgram A_NotShort (spStrokes C)) := by
  refine F.okX sc_strokes (fun vs H Q E h => ?_) (fun cdv A outer s H vs Q E hr h => ?_)
  · obtain ⟨v, rfl, _⟩ := h
    rfl
  · obtain ⟨v, rfl, h⟩ := h
    refine ⟨_, (pss_cons (ps_expr (pe_callXH hx_check_program (hr.mono (by first | decide | omega)) (takes_of rfl rfl rfl rfl) (pa_cons (pv 0) pa_nil)))
    (pss_cons (ps_expr (pe_callXH hx_check_short (hr.mono (by first | decide | omega)) (takes_of rfl rfl rfl rfl) (pa_cons (pv 0) pa_nil)))
    (pss_one (ps_ret (pe_callH h_raw_strokes (hr.mono (by first | decide | omega)) (pa_cons (pv 0) pa_nil)))))), ?_⟩
    walk_at "go"
    rcases h with ⟨a, p, hv, hq, sh, k⟩ | ⟨a, p, rfl, hq, hw, l1, l2, hs, k⟩ | ⟨hv, k⟩
    · cases hv
      have l1 := sh.l1
      have sz := sh.sz
      refine sh_checked hq sh.wf sh.l0 (by omega) fun H1 s1 => ?_
      walk_at "go"
      refine ⟨a, p, rfl, hq.tk (Tk.same s1), sh.wf, by omega, .inl ⟨Prog.short_of sh.sz sh.way, fun H2 s2 => ?_⟩⟩
      walk_at "go"
      refine ⟨a, p, rfl, (hq.tk (Tk.same s1)).tk (Tk.same s2), sh.wf, by omega, fun l vs H3 nl s3 hl hv => ?_⟩
      refine k l vs H3 (free_same (s1.trans s2) nl) ((s1.trans s2).trans s3) hl (hv.imp fun v x _ h => ?_)
      obtain ⟨b, a1, a2, pl1, pl2, e1, e2, n, r⟩ := h
      exact ⟨b, a1, a2, pl1, pl2, e1, e2, ⟨free_same (s1.trans s2) n.1, free_same (s1.trans s2) n.2.1, n.2.2⟩, r⟩
    · refine sh_checked hq hw l1 l2 fun H1 s1 => ?_
      walk_at "go"
      exact ⟨a, p, rfl, hq.tk (Tk.same s1), hw, l2, .inr ⟨hs, fun d H2 nd s2 hd => k d H2 (free_same s1 nd) (s1.trans s2) hd⟩⟩
    · exact ⟨_, rfl, .inr ⟨hv, k⟩⟩
end

set_option Elab.async false
set_option linter.all false
set_option maxRecDepth 100000
set_option maxHeartbeats 8000000
set_option pp.deepTerms false
set_option pp.deepTerms.threshold 12
set_option pp.maxSteps 1200

open PySem PySem.Spec PyProof.Rows L2
/-- what the four functions tell of a short program -/
def letN (p : Prog) : Nat → Int
  | 0 => (Prog.unroll 1 p).len
  | 1 => p.head
  | 2 => (Prog.stps 0 (Prog.unroll 1 p)).length + 1
  | _ => (drw 0 (Prog.stps 0 (Prog.unroll 1 p))).length
def spLet : Sp := fun vs H Q _ => ∃ q p, vs = [.ref q] ∧ PrIs H q p ∧ Sh 12 p ∧ ∀ l t0 t1 t2 t3 H', Same H H' → H' l = some (.lst [.ref t0, .ref t1, .ref t2, .ref t3]) → H' t0 = some (.tup [.int 1, .int (letN p 0)]) → H' t1 = some (.tup [.int 1, .int (letN p 1)]) → H' t2 = some (.tup [.int 1, .int (letN p 2)]) → H' t3 = some (.tup [.int 1, .int (letN p 3)]) → Q (.ref l) H'
section
variable {P : Program} {w : World} {K : PySem.W.Frag} {mg : Str → Option Value} {base : Heap} {C A_AngleError A_InvalidProgram A_InvalidCount A_InvalidIndex A_NotAChain A_NotShort : Addr}

theorem ok_l_let {f : Addr} {fd : FuncData} (F : Fun K "_law_let" "_law_let" s_l_let f fd) (bLen : mg "len" = none) (h_l_unroll : Has P w K mg base "_law_unroll" 13 ["_law_piece", "_law_sign"] (spUnLt 13)) (h_l_aim : Has P w K mg base "_law_aim" 13 ["_law_piece"] (spNumLt Prog.head 13)) : FnOk P w K mg base CX0 14 f fd ["_law_piece"] spLet := by
  refine F.ok sc_l_let (fun vs H Q E h => ?_) (fun cdv A outer s H vs Q E hr h => ?_)
  · obtain ⟨q, p, rfl, _⟩ := h
    rfl
  · obtain ⟨q, p, rfl, hq, sh, k⟩ := h
    have l1 := sh.l1
    have sz := sh.sz
    have wu : Wf BC BC 0 (Prog.unroll 1 p) := Prog.wf_unroll (.inl rfl) sh.wf
    have lu := Prog.len_unroll 1 sh.wf
    have c1 := Prog.wcnt_steps 0 wu
    have c2 := Prog.wcnt_drawn 0 wu
    refine ⟨_, (pss_cons (ps_setLc (i := 1) (own := [("_law_part", 4)]) rfl sc_l_let.nd rfl rfl (sw_true rfl rfl rfl (by decide +kernel)) (pi_list (pe_callH h_l_unroll (hr.mono (by first | decide | omega)) (pa_cons (pv 0) (pa_cons pe_int pa_nil)))) (blkOk_by (N := ["_law_piece", "_law_words", "_law_paces", "_law_drawn", "_law_part"]) (sc := defScope s_l_let) (by decide +kernel)) (fun _ _ _ _ _ => (pg_name (i := 4) sc_l_let.nd rfl (.inl rfl))) (fun _ _ _ _ _ => pts_nil) (fun _ _ _ _ _ => (pe_ix (ix_tupK (K := K)) (pv 4) pe_int (fun _ _ => rfl))))
    (pss_cons (ps_set (i := 2) sc_l_let.nd rfl (.inl rfl) (pe_op op_sub (pe_callB (call_lenK (K := K)) (by rfl) bLen PySem.boot_len (pa_cons (pv 1) pa_nil)) (pe_bm PySem.F.plainAttrs_list PySem.F.slot_list_count PySem.F.type_list_count mt_lcountJ (pv 1) (pa_cons pe_str pa_nil))))
    (pss_cons (ps_set (i := 3) sc_l_let.nd rfl (.inl rfl) (pe_op op_add (pe_bm PySem.F.plainAttrs_list PySem.F.slot_list_count PySem.F.type_list_count mt_lcountJ (pv 1) (pa_cons pe_str pa_nil)) (pe_bm PySem.F.plainAttrs_list PySem.F.slot_list_count PySem.F.type_list_count mt_lcountJ (pv 1) (pa_cons pe_str pa_nil))))
    (pss_one (ps_ret (pe_lst (pa_cons (pe_tup (pa_cons pe_int (pa_cons (pe_callB (call_lenK (K := K)) (by rfl) bLen PySem.boot_len (pa_cons (pv 1) pa_nil)) pa_nil))) (pa_cons (pe_tup (pa_cons pe_int (pa_cons (pe_callH h_l_aim (hr.mono (by first | decide | omega)) (pa_cons (pv 0) pa_nil)) pa_nil))) (pa_cons (pe_tup (pa_cons pe_int (pa_cons (pe_op op_add (pv 2) pe_int) pa_nil))) (pa_cons (pe_tup (pa_cons pe_int (pa_cons (pv 3) pa_nil))) pa_nil)))))))))), ?_⟩
    walk_at "go"
    refine ⟨q, p, 1, rfl, .inl rfl, hq, sh.wf, by omega, fun ul xs H1 nul s1 hul hxs => ?_⟩
    have lxs := hxs.length
    walk_at "go"
    refine u_lcL (.of hul) (fun D i acc H' => acc = ((Prog.unroll 1 p).wrds.take i).map V.str ∧ Same H1 H') ?_ ?_ ?_ ?_
    · exact fun D hD => ⟨rfl, Same.new0 hD⟩
    · exact fun D i acc H' _ _ ⟨_, s⟩ => .of (s _ _ hul)
    · rintro D i x acc H' hD hx hacc ⟨rfl, sm⟩
      obtain ⟨c, wd, ys, rfl, hc, ew⟩ := PrAt.wrd wu hxs hx
      have hc2 := sm _ _ hc
      walk_at "go"
      refine ⟨rfl, ?_⟩
      walk_at "go"
      refine r_ixT (.of hc2) atI_hd ?_
      refine u_push hacc (by rw [List.length_map, List.length_take, Prog.wrds_len]; omega) ⟨?_, Same.put sm hD⟩
      rw [List.take_succ, ew, List.map_append]
      rfl
    · rintro D acc H2 hD hacc ⟨rfl, s2⟩
      rw [List.take_of_length_le (by rw [lxs, Prog.wrds_len]; exact Nat.le_refl _)] at hacc
      have hq2 := hq.tk (Tk.same (s1.trans s2))
      have cnt : ∀ (k : Str) (H' : Hp) (Q : VK), Same H2 H' → Q (.int ((Prog.unroll 1 p).wcnt k : Nat)) H' → rCntJ K (.ref D) [.str k] H' Q := fun k H' Q s q => ⟨D, (Prog.unroll 1 p).wrds, k, rfl, rfl, .of (s _ _ hacc), q⟩
      walk_at "go"
      refine cnt _ _ _ (Same.refl _) ?_
      walk_at "go"
      refine cnt _ _ _ (Same.refl _) ?_
      walk_at "go"
      refine cnt _ _ _ (Same.refl _) ?_
      walk_at "go"
      intro t0 n0
      walk_at "go"
      refine ⟨q, p, rfl, hq2.tk (Tk.same (Same.new0 n0)), sh.wf, by omega, by decide, ?_⟩
      walk_at "go"
      intro t1 n1
      walk_at "go"
      intro t2 n2
      walk_at "go"
      intro t3 n3
      walk_at "go"
      intro l nl
      have e0 : (((Prog.unroll 1 p).wrds.map V.str).length : Int) = letN p 0 := by rw [List.length_map, Prog.wrds_len]; rfl
      have e2 : (((Prog.unroll 1 p).wrds.map V.str).length : Int) - ((Prog.unroll 1 p).wcnt "turn" : Nat) + 1 = letN p 2 := by rw [List.length_map, Prog.wrds_len]; show _ = ((Prog.stps 0 (Prog.unroll 1 p)).length : Int) + 1; omega
      have e3 : ((Prog.unroll 1 p).wcnt "go" : Nat) + (((Prog.unroll 1 p).wcnt "back" : Nat) : Int) = letN p 3 := by show _ = ((drw 0 (Prog.stps 0 (Prog.unroll 1 p))).length : Int); omega
      refine k l t0 t1 t2 t3 _ ((s1.trans s2).trans (Same.new (Same.new (Same.new (Same.new (Same.new0 n0) n1) n2) n3) nl)) upd_same ?_ ?_ ?_ ?_
      · rw [← e0]; walk_at "hp"
      · show _ = some (HO.tup [.int 1, .int p.head]); walk_at "hp"
      · rw [← e2]; walk_at "hp"
      · rw [← e3]; walk_at "hp"
local macro_rules | `(tactic| walk_at "s") => `(tactic| (first
  | (with_reducible refine r_callX ?_)
  | (with_reducible refine r_callXK ?_)
  | ((with_reducible refine r_isNR ?_))
  | ((with_reducible refine r_isNN ?_))
  | (with_reducible refine r_fldX ?_)
  ))
/-- what the law is told of a program at one of the four functions -/
def spAsked4 (K : PySem.W.Frag) : Sp := fun vs H Q _ => ∃ (z : Int) (v : V), vs = [.int z, v] ∧ 0 ≤ z ∧ z < 4 ∧ (
  (∃ q p, v = .ref q ∧ PrIs H q p ∧ Sh 12 p ∧ ∀ t H', Same H H' → H' t = some (.tup [.int 1, .int (letN p z.toNat)]) → Q (.ref t) H') ∨
  (∃ a p, v = .ref a ∧ PrIs H a p ∧ Wf BC BC 12 p ∧ 1 ≤ p.len ∧ p.len ≤ 4000 ∧ p.short = false ∧ ∀ t H', Same H H' → H' t = some (.tup [.str "short", .int p.size]) → Q (.ref t) H') ∨
  (PrB K H 14 v false ∧ ∀ t H', Same H H' → H' t = some (.tup [.str "program"]) → Q (.ref t) H'))
theorem ok_l_asked {f : Addr} {fd : FuncData} (F : Fun K "_law_asked" "_law_asked" s_l_asked f fd) (B : Bl mg) (bLen : mg "len" = none) (bVE : mg "ValueError" = none) (X_AngleError : OwnX K mg "AngleError" A_AngleError) (X_InvalidProgram : OwnX K mg "InvalidProgram" A_InvalidProgram) (X_InvalidCount : OwnX K mg "InvalidCount" A_InvalidCount) (X_InvalidIndex : OwnX K mg "InvalidIndex" A_InvalidIndex) (X_NotAChain : OwnX K mg "NotAChain" A_NotAChain) (XI_NotShort : OwnI P w K mg base "NotShort" A_NotShort "amount")
   (sA : PySem.W.subIn K (.ref A_NotShort) (.ref A_AngleError) = some true) (sV : PySem.W.subIn K (.ref A_NotShort) (.type "ValueError") = some true) (sP : PySem.W.kitOne K (.ref A_NotShort) (.ref A_InvalidProgram) = some false) (sC : PySem.W.kitOne K (.ref A_NotShort) (.ref A_InvalidCount) = some false) (sI : PySem.W.kitOne K (.ref A_NotShort) (.ref A_InvalidIndex) = some false) (sN : PySem.W.kitOne K (.ref A_NotShort) (.ref A_NotAChain) = some false)
   (pA : PySem.W.subIn K (.ref A_InvalidProgram) (.ref A_AngleError) = some true) (pV : PySem.W.subIn K (.ref A_InvalidProgram) (.type "ValueError") = some true) (pS : PySem.W.kitOne K (.ref A_InvalidProgram) (.ref A_NotShort) = some false) (pC : PySem.W.kitOne K (.ref A_InvalidProgram) (.ref A_InvalidCount) = some false) (pI : PySem.W.kitOne K (.ref A_InvalidProgram) (.ref A_InvalidIndex) = some false) (pN : PySem.W.kitOne K (.ref A_InvalidProgram) (.ref A_NotAChain) = some false)
   (h_l_is_int : Has P w K mg base "_law_is_int" 1 ["_law_thing"] spIsInt) (hx_unrolled : HasX P w K mg base "unrolled" 31 ["program"] (spShX K A_InvalidProgram A_NotShort spUnrolled)) (hxk_effect : HasXK P w K mg base "effect" 31 ["program"] ["program"] false (spShX K A_InvalidProgram A_NotShort (spEffect C))) (hx_places : HasX P w K mg base "places" 31 ["program"] (spShX K A_InvalidProgram A_NotShort (spPlaces C))) (hxk_strokes : HasXK P w K mg base "strokes" 31 ["program"] ["program"] false (spShX K A_InvalidProgram A_NotShort (spStrokes C))) : FnOk P w K mg base CX0 32 f fd ["_law_way", "_law_thing"] (spAsked4 K) := by
  refine F.ok sc_l_asked (fun vs H Q E h => ?_) (fun cdv A outer s H vs Q E hr h => ?_)
  · obtain ⟨z, v, rfl, _⟩ := h
    rfl
  · obtain ⟨z, v, rfl, z0, z4, h⟩ := h
    refine ⟨_, (pss_cons (ps_set (i := 2) sc_l_asked.nd rfl (.inl rfl) pe_non)
    (pss_cons (ps_set (i := 3) sc_l_asked.nd rfl (.inl rfl) (pe_tup pa_nil))
    (pss_cutM (ps_try_held (i := 4) rfl rfl rfl sc_l_asked.nd rfl rfl ⟨rfl, by decide, .inl X_AngleError.g⟩ takes0 (fun W pn xe tk _ =>
    (pss_one (ps_if (pt_cmpR op_eq (pv 0) pe_int (nomark _))
    (pss_one (ps_set (i := 3) sc_l_asked.nd rfl (.inl rfl) (pe_callXH hx_unrolled (hr.mono (by first | decide | omega)) tk (pa_cons (pv 1) pa_nil))))
    (pss_one (ps_if (pt_cmpR op_eq (pv 0) pe_int (nomark _))
    (pss_one (ps_set (i := 3) sc_l_asked.nd rfl (.inl rfl) (pe_callXHK hxk_effect (hr.mono (by first | decide | omega)) tk (pk_cons (pv 1) pk_nil))))
    (pss_one (ps_if (pt_cmpR op_eq (pv 0) pe_int (nomark _))
    (pss_one (ps_set (i := 3) sc_l_asked.nd rfl (.inl rfl) (pe_callXH hx_places (hr.mono (by first | decide | omega)) tk (pa_cons (pv 1) pa_nil))))
    (pss_one (ps_set (i := 3) sc_l_asked.nd rfl (.inl rfl) (pe_callXHK hxk_strokes (hr.mono (by first | decide | omega)) tk (pk_cons (pv 1) pk_nil)))))))))))
    (fun a oe cls d pn hz hf => (pss_one (ps_set (i := 2) sc_l_asked.nd rfl (.inl rfl) (pv 4)))))
    (pss_cons (ps_if (pt_cmpR op_isNN (pv 2) pe_non (nomark _))
    (pss_one (ps_ret (pe_tup (pa_cons pe_int (pa_cons (pe_ifExp (pt_cmpR op_eq (pv 0) pe_int (nomark _)) (pe_ix (ix_tupK (K := K)) (pv 3) pe_int (fun _ _ => rfl)) (pe_callB (call_lenK (K := K)) (by rfl) bLen PySem.boot_len (pa_cons (pv 3) pa_nil))) pa_nil)))))
    pss_nil)
    (pss_cons (ps_if (PW.pt (pw_or (pt_not (pt_val (pe_callB (call_isiEK (K := K)) (by rfl) B.b_isinstance (by decide +kernel) (pa_cons (pv 2) (pa_cons (pe_bltn (v := .ty "ValueError") (by rfl) bVE (by decide +kernel) rfl) pa_nil))))) (pw_or1 (pt_val (pe_callB (call_isiTEK (K := K)) (by rfl) B.b_isinstance (by decide +kernel) (pa_cons (pv 2) (pa_cons (pe_tup (pa_cons (pe_glob (v := .ref A_NotAChain) rfl X_NotAChain.g rfl) (pa_cons (pe_glob (v := .ref A_InvalidCount) rfl X_InvalidCount.g rfl) (pa_cons (pe_glob (v := .ref A_InvalidIndex) rfl X_InvalidIndex.g rfl) pa_nil)))) pa_nil)))))))
    (pss_one (ps_ret (pe_tup (pa_cons pe_str pa_nil))))
    pss_nil)
    (pss_cons (ps_if (PW.pt (pw_and (pt_val (pe_callB (call_isiEK (K := K)) (by rfl) B.b_isinstance (by decide +kernel) (pa_cons (pv 2) (pa_cons (pe_glob (v := .ref A_NotShort) rfl XI_NotShort.g rfl) pa_nil)))) (pw_and1 (pt_not (pt_val (pe_callB (call_isiEK (K := K)) (by rfl) B.b_isinstance (by decide +kernel) (pa_cons (pv 2) (pa_cons (pe_glob (v := .ref A_InvalidProgram) rfl X_InvalidProgram.g rfl) pa_nil))))))))
    (pss_one (ps_ret (pe_ifExp (pt_val (pe_callH h_l_is_int (hr.mono (by first | decide | omega)) (pa_cons (pe_fldX XI_NotShort.fld XI_NotShort.no (pv 2)) pa_nil))) (pe_tup (pa_cons pe_str (pa_cons (pe_fldX XI_NotShort.fld XI_NotShort.no (pv 2)) pa_nil))) (pe_tup (pa_cons pe_str pa_nil)))))
    pss_nil)
    (pss_cons (ps_if (PW.pt (pw_or (pt_val (pe_callB (call_isiEK (K := K)) (by rfl) B.b_isinstance (by decide +kernel) (pa_cons (pv 2) (pa_cons (pe_glob (v := .ref A_NotShort) rfl XI_NotShort.g rfl) pa_nil)))) (pw_or1 (pt_not (pt_val (pe_callB (call_isiEK (K := K)) (by rfl) B.b_isinstance (by decide +kernel) (pa_cons (pv 2) (pa_cons (pe_glob (v := .ref A_InvalidProgram) rfl X_InvalidProgram.g rfl) pa_nil))))))))
    (pss_one (ps_ret (pe_tup (pa_cons pe_str pa_nil))))
    pss_nil)
    (pss_one (ps_ret (pe_tup (pa_cons pe_str pa_nil))))))))))), ?_⟩
    walk_at "go"
    intro tp ntp
    walk_at "go"
    have s0 := Same.new0 ntp (o := .tup [])
    have sT : ∀ {H' : Hp}, Same (upd H tp (.tup [])) H' → Same H H' := fun s => s0.trans s
    have up : ∀ {q : Addr} {p : Prog}, PrIs H q p → PrIs (upd H tp (.tup [])) q p := fun h => h.tk (Tk.same s0)
    have upN : ∀ {v : V}, PrB K H 14 v false → PrB K (upd H tp (.tup [])) 14 v false := fun h => h.st (St.same s0)
    generalize upd H tp (.tup []) = H1 at *
    dsimp only
    refine r_cut (fun σ' H' => ∃ (c m : Option V), σ' = [some (.int z), some v, c, m, none] ∧ Same H H' ∧ (
      (∃ q p r, v = .ref q ∧ c = some .non ∧ m = some (.ref r) ∧ PrIs H q p ∧ Sh 12 p ∧ ((z = 1 ∧ ∃ l, H' r = some (.tup [.int p.head, .ref l])) ∨ (z ≠ 1 ∧ ∃ xs, (H' r = some (.lst xs) ∨ H' r = some (.tup xs)) ∧ xs.length ≤ 100000 ∧ (xs.length : Int) = letN p z.toNat)) ∧ ∀ t H', Same H H' → H' t = some (.tup [.int 1, .int (letN p z.toNat)]) → Q (.ref t) H') ∨
      (∃ a d n, c = some (.ref a) ∧ H' a = some (ExV (.ref A_NotShort) (some d) a) ∧ H' d = some (.xd [("amount", .int n)]) ∧ ∀ t H', Same H H' → H' t = some (.tup [.str "short", .int n]) → Q (.ref t) H') ∨
      (∃ a, c = some (.ref a) ∧ H' a = some (ExV (.ref A_InvalidProgram) none a) ∧ ∀ t H', Same H H' → H' t = some (.tup [.str "program"]) → Q (.ref t) H'))) ?_ ?_
    · have hz : z = 0 ∨ z = 1 ∨ z = 2 ∨ z = 3 := by omega
      -- what is raised
      have catS : PySem.W.exmOne K (.ref A_NotShort) (.ref A_AngleError) = some true := X_AngleError.catch sA
      have catP : PySem.W.exmOne K (.ref A_InvalidProgram) (.ref A_AngleError) = some true := X_AngleError.catch pA
      rcases h with ⟨q, p, rfl, hq, sh, k⟩ | ⟨a, p, rfl, hq, hw, l1, l2, hs, k⟩ | ⟨hv, k⟩
      · have szu := Prog.len_unroll 1 sh.wf
        have sz := sh.sz
        rcases hz with rfl | rfl | rfl | rfl
        · walk_at "go"
          refine ⟨_, rfl, .inl ⟨q, p, rfl, up hq, sh, fun r H2 s2 hr2 => ?_⟩⟩
          obtain ⟨xs, hx, hp⟩ := hr2
          have lx := hp.length
          walk_at "go"
          exact ⟨_, _, rfl, sT s2, .inl ⟨q, p, r, rfl, rfl, rfl, hq, sh, .inr ⟨by decide, xs, .inr hx, by omega, by rw [lx]; rfl⟩, k⟩⟩
        · walk_at "go"
          refine ⟨_, rfl, .inl ⟨q, p, rfl, up hq, sh.w, fun r l pl H2 s2 nl hr2 _ _ _ _ => ?_⟩⟩
          walk_at "go"
          exact ⟨_, _, rfl, sT s2, .inl ⟨q, p, r, rfl, rfl, rfl, hq, sh, .inl ⟨rfl, l, hr2⟩, k⟩⟩
        · walk_at "go"
          refine ⟨_, rfl, .inl ⟨q, p, rfl, up hq, sh, fun l vs H2 nl s2 hl he => ?_⟩⟩
          walk_at "go"
          have le := he.1
          rw [pfx_len] at le
          have lst := Prog.stps_len (Prog.unroll 1 p) 0
          exact ⟨_, _, rfl, sT s2, .inl ⟨q, p, l, rfl, rfl, rfl, hq, sh, .inr ⟨by decide, vs, .inl hl, by omega, by rw [le]; rfl⟩, k⟩⟩
        · walk_at "go"
          refine ⟨_, rfl, .inl ⟨q, p, rfl, up hq, sh, fun l vs H2 nl s2 hl he => ?_⟩⟩
          walk_at "go"
          have le := he.1
          have ld := drw_len 0 (Prog.stps 0 (Prog.unroll 1 p))
          have lst := Prog.stps_len (Prog.unroll 1 p) 0
          exact ⟨_, _, rfl, sT s2, .inl ⟨q, p, l, rfl, rfl, rfl, hq, sh, .inr ⟨by decide, vs, .inl hl, by omega, by rw [le]; rfl⟩, k⟩⟩
      · have fin : ∀ (d : Addr) (H2 : Hp) (e : Addr), Same H1 H2 → H2 d = some (.xd [("amount", .int p.size)]) → H2 e = none → ∃ (c m : Option V), [some (.int z), some (.ref a), some (.ref e), some (.ref tp), none] = [some (.int z), some (.ref a), c, m, none] ∧ Same H (upd H2 e (ExV (.ref A_NotShort) (some d) e)) ∧ (
          (∃ q p r, V.ref a = .ref q ∧ c = some .non ∧ m = some (.ref r) ∧ PrIs H q p ∧ Sh 12 p ∧ ((z = 1 ∧ ∃ l, (upd H2 e (ExV (.ref A_NotShort) (some d) e)) r = some (.tup [.int p.head, .ref l])) ∨ (z ≠ 1 ∧ ∃ xs, ((upd H2 e (ExV (.ref A_NotShort) (some d) e)) r = some (.lst xs) ∨ (upd H2 e (ExV (.ref A_NotShort) (some d) e)) r = some (.tup xs)) ∧ xs.length ≤ 100000 ∧ (xs.length : Int) = letN p z.toNat)) ∧ ∀ t H', Same H H' → H' t = some (.tup [.int 1, .int (letN p z.toNat)]) → Q (.ref t) H') ∨
          (∃ a d' n, c = some (.ref a) ∧ (upd H2 e (ExV (.ref A_NotShort) (some d) e)) a = some (ExV (.ref A_NotShort) (some d') a) ∧ (upd H2 e (ExV (.ref A_NotShort) (some d) e)) d' = some (.xd [("amount", .int n)]) ∧ ∀ t H', Same H H' → H' t = some (.tup [.str "short", .int n]) → Q (.ref t) H') ∨
          (∃ a, c = some (.ref a) ∧ (upd H2 e (ExV (.ref A_NotShort) (some d) e)) a = some (ExV (.ref A_InvalidProgram) none a) ∧ ∀ t H', Same H H' → H' t = some (.tup [.str "program"]) → Q (.ref t) H')) := fun d H2 e s2 hd ne =>
          ⟨_, _, rfl, Same.new (sT s2) ne, .inr (.inl ⟨e, d, p.size, rfl, upd_same, h_keep hd ne, k⟩)⟩
        rcases hz with rfl | rfl | rfl | rfl
        · walk_at "go"
          refine ⟨_, rfl, .inr (.inl ⟨a, p, rfl, up hq, hw, l1, l2, hs, fun d H2 nd s2 hd => ⟨true, catS, fun _ e ne => ?_, fun z => nomatch z⟩⟩)⟩
          walk_at "go"
          intro ne2
          exact fin d H2 e s2 hd ne
        · walk_at "go"
          refine ⟨_, rfl, .inr (.inl ⟨a, p, rfl, up hq, hw, l1, l2, hs, fun d H2 nd s2 hd => ⟨true, catS, fun _ e ne => ?_, fun z => nomatch z⟩⟩)⟩
          walk_at "go"
          intro ne2
          exact fin d H2 e s2 hd ne
        · walk_at "go"
          refine ⟨_, rfl, .inr (.inl ⟨a, p, rfl, up hq, hw, l1, l2, hs, fun d H2 nd s2 hd => ⟨true, catS, fun _ e ne => ?_, fun z => nomatch z⟩⟩)⟩
          walk_at "go"
          intro ne2
          exact fin d H2 e s2 hd ne
        · walk_at "go"
          refine ⟨_, rfl, .inr (.inl ⟨a, p, rfl, up hq, hw, l1, l2, hs, fun d H2 nd s2 hd => ⟨true, catS, fun _ e ne => ?_, fun z => nomatch z⟩⟩)⟩
          walk_at "go"
          intro ne2
          exact fin d H2 e s2 hd ne
      · rcases hz with rfl | rfl | rfl | rfl
        · walk_at "go"
          refine ⟨_, rfl, .inr (.inr ⟨upN hv, fun H2 s2 => ⟨true, catP, fun _ e ne => ?_, fun z => nomatch z⟩⟩)⟩
          walk_at "go"
          intro ne2
          exact ⟨_, _, rfl, Same.new (sT s2) ne, .inr (.inr ⟨e, rfl, upd_same, k⟩)⟩
        · walk_at "go"
          refine ⟨_, rfl, .inr (.inr ⟨upN hv, fun H2 s2 => ⟨true, catP, fun _ e ne => ?_, fun z => nomatch z⟩⟩)⟩
          walk_at "go"
          intro ne2
          exact ⟨_, _, rfl, Same.new (sT s2) ne, .inr (.inr ⟨e, rfl, upd_same, k⟩)⟩
        · walk_at "go"
          refine ⟨_, rfl, .inr (.inr ⟨upN hv, fun H2 s2 => ⟨true, catP, fun _ e ne => ?_, fun z => nomatch z⟩⟩)⟩
          walk_at "go"
          intro ne2
          exact ⟨_, _, rfl, Same.new (sT s2) ne, .inr (.inr ⟨e, rfl, upd_same, k⟩)⟩
        · walk_at "go"
          refine ⟨_, rfl, .inr (.inr ⟨upN hv, fun H2 s2 => ⟨true, catP, fun _ e ne => ?_, fun z => nomatch z⟩⟩)⟩
          walk_at "go"
          intro ne2
          exact ⟨_, _, rfl, Same.new (sT s2) ne, .inr (.inr ⟨e, rfl, upd_same, k⟩)⟩
    rintro σ' H2 ⟨c, m, rfl, s2, h⟩
    rcases h with ⟨q, p, r, rfl, rfl, rfl, hq, sh, h, k⟩ | ⟨a, d, n, rfl, ha, hd, k⟩ | ⟨a, rfl, ha, k⟩
    · walk_at "go"
      rcases h with ⟨rfl, l, hr2⟩ | ⟨hz, xs, hx, lx, en⟩
      · walk_at "go"
        intro t nt
        exact k t _ (s2.trans (Same.new0 nt)) upd_same
      · walk_at "go"
        rcases hx with hx | hx
        · walk_at "go"
          intro t nt
          exact k t _ (s2.trans (Same.new0 nt)) (by rw [← en]; exact upd_same)
        · walk_at "go"
          intro t nt
          exact k t _ (s2.trans (Same.new0 nt)) (by rw [← en]; exact upd_same)
    · walk_at "go"
      refine r_isiE' (.ty _) (.exd ha hd XI_NotShort.ty) (kit_ownB sV) ?_
      walk_at "go"
      intro tq ntq
      walk_at "go"
      have s3 := Same.new0 ntq (o := .tup [.ref A_NotAChain, .ref A_InvalidCount, .ref A_InvalidIndex])
      refine r_isiTE (us := [.ref A_NotAChain, .ref A_InvalidCount, .ref A_InvalidIndex]) (b := false) upd_same (.cons (.own _) (.cons (.own _) (.cons (.own _) .nil))) (.exd (s3 _ _ ha) (s3 _ _ hd) XI_NotShort.ty) (kitAny_cons sN (kitAny_cons sC (kitAny_cons sI rfl))) ?_
      replace ha := s3 _ _ ha
      replace hd := s3 _ _ hd
      have s23 := s2.trans s3
      generalize upd H2 tq _ = H3 at *
      walk_at "go"
      refine r_isiE' (.own _) (.exd ha hd XI_NotShort.ty) kit_own ?_
      walk_at "go"
      refine r_isiE' (.own _) (.exd ha hd XI_NotShort.ty) sP ?_
      walk_at "go"
      refine ⟨a, d, _, .int n, rfl, ha, hd, rfl, ?_⟩
      walk_at "go"
      refine ⟨n, rfl, ?_⟩
      walk_at "go"
      refine ⟨a, d, _, .int n, rfl, ha, hd, rfl, ?_⟩
      walk_at "go"
      intro t nt
      exact k t _ (s23.trans (Same.new0 nt)) upd_same
    · walk_at "go"
      refine r_isiE' (.ty _) (.exv ha X_InvalidProgram.e) (kit_ownB pV) ?_
      walk_at "go"
      intro tq ntq
      walk_at "go"
      have s3 := Same.new0 ntq (o := .tup [.ref A_NotAChain, .ref A_InvalidCount, .ref A_InvalidIndex])
      refine r_isiTE (us := [.ref A_NotAChain, .ref A_InvalidCount, .ref A_InvalidIndex]) (b := false) upd_same (.cons (.own _) (.cons (.own _) (.cons (.own _) .nil))) (.exv (s3 _ _ ha) X_InvalidProgram.e) (kitAny_cons pN (kitAny_cons pC (kitAny_cons pI rfl))) ?_
      replace ha := s3 _ _ ha
      have s23 := s2.trans s3
      generalize upd H2 tq _ = H3 at *
      walk_at "go"
      refine r_isiE' (.own _) (.exv ha X_InvalidProgram.e) pS ?_
      walk_at "go"
      refine r_isiE' (.own _) (.exv ha X_InvalidProgram.e) pS ?_
      walk_at "go"
      refine r_isiE' (.own _) (.exv ha X_InvalidProgram.e) kit_own ?_
      walk_at "go"
      intro t nt
      exact k t _ (s23.trans (Same.new0 nt)) upd_same
end

set_option Elab.async false
set_option linter.all false
set_option maxRecDepth 100000
set_option maxHeartbeats 8000000
set_option pp.deepTerms false
set_option pp.deepTerms.threshold 12
set_option pp.maxSteps 1200

open PySem PySem.Spec PyProof.Rows L2
def spNotShort : Sp := fun vs H Q _ => ∃ (b q : Addr) (z : Str) (p : Prog), vs = [.ref b, .ref q, .str z] ∧ Bag H b ∧ Names z ∧ PrIs H q p ∧ Wf BC BC 0 p ∧ 1 ≤ p.len ∧ p.len ≤ 40 ∧ -1000 ≤ p.head ∧ p.head ≤ 1000 ∧
  ∀ q2 p2 H', But b H H' → Bag H' b → PrIs H' q2 p2 → Wf BC BC 3 p2 → 1 ≤ p2.len → p2.len ≤ 42 → NSh p2 → Q (.ref q2) H'
section
variable {P : Program} {w : World} {K : PySem.W.Frag} {mg : Str → Option Value} {base : Heap}

theorem ok_l_not_short {f : Addr} {fd : FuncData} (F : Fun K "_law_not_short" "_law_not_short" s_l_not_short f fd) (B : Bl mg) (h_l_pick : Has P w K mg base "_law_pick" 1 ["_law_bag", "_law_many"] spPick) (h_l_great_int : Has P w K mg base "_law_great_int" 2 ["_law_bag", "_law_digits"] spGreat) (h_l_bulk : Has P w K mg base "_law_bulk" 13 ["_law_piece"] (spNumLt Prog.size 13)) (h_l_aim : Has P w K mg base "_law_aim" 13 ["_law_piece"] (spNumLt Prog.head 13)) : FnOk P w K mg base CX0 14 f fd ["_law_bag", "_law_piece", "_law_names_here"] spNotShort := by
  refine F.ok sc_l_not_short (fun vs H Q E h => ?_) (fun cdv A outer s H vs Q E hr h => ?_)
  · obtain ⟨b, q, z, p, rfl, _⟩ := h
    rfl
  · obtain ⟨b, q, z, p, rfl, hb, hz, hq, hw, l1, l2, d1, d2, k⟩ := h
    have hBC : BC = 10000000000000000000000000000000 := by decide
    refine ⟨_, (pss_cutM (ps_set (i := 3) sc_l_not_short.nd rfl (.inl rfl) (pe_ix (ix_listK (K := K)) (pe_lst (pa_cons pe_int (pa_cons (pe_un un_neg pe_int) (pa_cons (pe_op op_add pe_int (pe_callH h_l_pick (hr.mono (by first | decide | omega)) (pa_cons (pv 0) (pa_cons pe_int pa_nil)))) (pa_cons (pe_op op_sub (pe_un un_neg pe_int) (pe_callH h_l_great_int (hr.mono (by first | decide | omega)) (pa_cons (pv 0) (pa_cons pe_int pa_nil)))) (pa_cons (pe_op op_pow pe_int pe_int) pa_nil)))))) (pe_callH h_l_pick (hr.mono (by first | decide | omega)) (pa_cons (pv 0) (pa_cons pe_int pa_nil))) (fun _ _ => rfl)))
    (pss_cutM (ps_set (i := 4) sc_l_not_short.nd rfl (.inl rfl) (pe_tup (pa_cons (pe_ix (ix_listK (K := K)) (pe_lst (pa_cons pe_str (pa_cons pe_str (pa_cons pe_str (pa_cons pe_str pa_nil))))) (pe_callH h_l_pick (hr.mono (by first | decide | omega)) (pa_cons (pv 0) (pa_cons pe_int pa_nil))) (fun _ _ => rfl)) (pa_cons (pe_ix ix_str (pv 2) pe_int (fun _ _ => rfl)) pa_nil))))
    (pss_cons (ps_set (i := 5) sc_l_not_short.nd rfl (.inl rfl) (pe_callH h_l_pick (hr.mono (by first | decide | omega)) (pa_cons (pv 0) (pa_cons pe_int pa_nil))))
    (pss_cons (ps_if (pt_cmpR op_eq (pv 5) pe_int (nomark _))
    (pss_cutM (ps_set (i := 6) sc_l_not_short.nd rfl (.inl rfl) (pe_op op_add pe_int (pe_ix (ix_listK (K := K)) (pe_lst (pa_cons pe_int (pa_cons pe_int (pa_cons (pe_callH h_l_pick (hr.mono (by first | decide | omega)) (pa_cons (pv 0) (pa_cons pe_int pa_nil))) (pa_cons (pe_callH h_l_great_int (hr.mono (by first | decide | omega)) (pa_cons (pv 0) (pa_cons pe_int pa_nil))) pa_nil))))) (pe_callH h_l_pick (hr.mono (by first | decide | omega)) (pa_cons (pv 0) (pa_cons pe_int pa_nil))) (fun _ _ => rfl))))
    (pss_one (ps_ret (pe_tup (pa_cons (pe_tup (pa_cons pe_str (pa_cons (pv 6) (pa_cons (pe_tup (pa_cons (pv 4) pa_nil)) pa_nil)))) pa_nil)))))
    pss_nil)
    (pss_cons (ps_if (pt_cmpR op_eq (pv 5) pe_int (nomark _))
    (pss_cons (ps_set (i := 6) sc_l_not_short.nd rfl (.inl rfl) (pe_op op_sub (pe_op op_add pe_int (pe_callH h_l_pick (hr.mono (by first | decide | omega)) (pa_cons (pv 0) (pa_cons pe_int pa_nil)))) (pe_callH h_l_bulk (hr.mono (by first | decide | omega)) (pa_cons (pv 1) pa_nil))))
    (pss_one (ps_ret (pe_op op_catA (pv 1) (pe_tup (pa_cons (pe_tup (pa_cons pe_str (pa_cons (pe_tup (pa_cons (pe_tup (pa_cons pe_str (pa_cons (pv 6) (pa_cons (pe_tup (pa_cons (pv 4) pa_nil)) pa_nil)))) pa_nil)) pa_nil))) pa_nil))))))
    pss_nil)
    (pss_cons (ps_if (pt_cmpR op_eq (pv 5) pe_int (nomark _))
    (pss_one (ps_ret (pe_op op_catA (pv 1) (pe_tup (pa_cons (pe_tup (pa_cons pe_str (pa_cons (pe_op op_sub (pv 3) (pe_callH h_l_aim (hr.mono (by first | decide | omega)) (pa_cons (pv 1) pa_nil))) pa_nil))) (pa_cons (pe_tup (pa_cons pe_str (pa_cons (pe_un un_neg (pv 3)) pa_nil))) pa_nil))))))
    pss_nil)
    (pss_cons (ps_if (pt_cmpR op_eq (pv 5) pe_int (nomark _))
    (pss_one (ps_ret (pe_op op_catA (pe_tup (pa_cons (pe_tup (pa_cons pe_str (pa_cons (pe_tup (pa_cons (pe_tup (pa_cons pe_str (pa_cons (pv 3) pa_nil))) (pa_cons (pv 4) (pa_cons (pe_tup (pa_cons pe_str (pa_cons (pe_un un_neg (pv 3)) pa_nil))) pa_nil)))) pa_nil))) pa_nil)) (pv 1))))
    pss_nil)
    (pss_cons (ps_if (pt_cmpR op_eq (pv 5) pe_int (nomark _))
    (pss_cons (ps_set (i := 7) sc_l_not_short.nd rfl (.inl rfl) (pe_lst (pa_cons (pe_tup (pa_cons pe_int (pa_cons pe_int pa_nil))) (pa_cons (pe_tup (pa_cons pe_int (pa_cons (pe_op op_add pe_int (pe_callH h_l_pick (hr.mono (by first | decide | omega)) (pa_cons (pv 0) (pa_cons pe_int pa_nil)))) pa_nil))) (pa_cons (pe_tup (pa_cons pe_int (pa_cons pe_int pa_nil))) (pa_cons (pe_tup (pa_cons pe_int (pa_cons pe_int pa_nil))) (pa_cons (pe_tup (pa_cons pe_int (pa_cons pe_int pa_nil))) (pa_cons (pe_tup (pa_cons pe_int (pa_cons pe_int pa_nil))) (pa_cons (pe_tup (pa_cons pe_int (pa_cons pe_int pa_nil))) (pa_cons (pe_tup (pa_cons pe_int (pa_cons pe_int pa_nil))) pa_nil))))))))))
    (pss_cutM (ps_asg (pe_ix (ix_listK (K := K)) (pv 7) (pe_callH h_l_pick (hr.mono (by first | decide | omega)) (pa_cons (pv 0) (pa_cons pe_int pa_nil))) (fun _ _ => rfl)) (pg_tup (by rfl) (pgs_cons (pg_name (i := 6) sc_l_not_short.nd rfl (.inl rfl)) (pgs_cons (pg_name (i := 8) sc_l_not_short.nd rfl (.inl rfl)) pgs_nil))))
    (pss_cutM (ps_set (i := 8) sc_l_not_short.nd rfl (.inl rfl) (pe_op op_mul (pv 8) (pe_ix (ix_listK (K := K)) (pe_lst (pa_cons pe_int (pa_cons (pe_un un_neg pe_int) pa_nil))) (pe_callH h_l_pick (hr.mono (by first | decide | omega)) (pa_cons (pv 0) (pa_cons pe_int pa_nil))) (fun _ _ => rfl))))
    (pss_one (ps_ret (pe_slice sl_tupA (pe_tup (pa_cons (pe_tup (pa_cons pe_str (pa_cons (pv 6) (pa_cons (pe_tup (pa_cons (pv 4) (pa_cons (pe_tup (pa_cons pe_str (pa_cons (pv 8) pa_nil))) pa_nil))) pa_nil)))) (pa_cons (pe_tup (pa_cons pe_str (pa_cons (pe_op op_mul (pe_un un_neg (pv 6)) (pv 8)) pa_nil))) pa_nil))) po_none (po_some (pe_op op_add pe_int (pe_callH h_l_pick (hr.mono (by first | decide | omega)) (pa_cons (pv 0) (pa_cons pe_int pa_nil)))))))))))
    pss_nil)
    (pss_one (ps_ret (pe_tup (pa_cons (pe_tup (pa_cons pe_str (pa_cons (pe_op op_add pe_int (pe_callH h_l_great_int (hr.mono (by first | decide | omega)) (pa_cons (pv 0) (pa_cons pe_int pa_nil)))) (pa_cons (pe_tup (pa_cons (pe_tup (pa_cons pe_str (pa_cons (pe_op op_add pe_int (pe_callH h_l_pick (hr.mono (by first | decide | omega)) (pa_cons (pv 0) (pa_cons pe_int pa_nil)))) (pa_cons (pe_tup (pa_cons (pv 4) (pa_cons (pv 4) pa_nil))) pa_nil)))) pa_nil)) pa_nil)))) pa_nil)))))))))))), ?_⟩
    have hw3 : Wf BC BC 3 p := WfL.mono (Int.le_refl _) (Int.le_refl _) (by decide) hw
    walk_at "go"
    refine r_cut (fun σ' H' => ∃ e : Int, σ' = [some (.ref b), some (.ref q), some (.str z), some (.int e), none, none, none, none, none] ∧ But b H H' ∧ Bag H' b ∧ (12 < e ∨ e < -12) ∧ -(10 ^ 30) ≤ e ∧ e ≤ 10 ^ 30) ?_ ?_
    · walk_at "go"
      refine u_pick hb (by decide) (by decide) fun x1 H1 x10 x11 bu1 b1 => ?_
      walk_at "go"
      refine ⟨b, 29, rfl, b1, by decide, by decide, fun x2 H2 x20 x21 bu2 b2 => ?_⟩
      walk_at "go"
      intro l nl
      have lb := b2.ne nl
      have b3 := b2.keep nl (o := .lst [.int 13, .int (-13), .int (13 + x1), .int (-13 - x2), .int (10 ^ Int.toNat 29)])
      walk_at "go"
      refine u_pick b3 (by decide) (by decide) fun x3 H3 x30 x31 bu3 b4 => ?_
      have buA := ((bu1.trans bu2).new nl (o := .lst [.int 13, .int (-13), .int (13 + x1), .int (-13 - x2), .int (10 ^ Int.toNat 29)])).trans bu3
      have x21 : x2 < 10 ^ 29 := x21
      obtain ⟨e, he, e1, e2, e3⟩ : ∃ e : Int, atI [V.int 13, V.int (-13), V.int (13 + x1), V.int (-13 - x2), V.int (10 ^ Int.toNat 29)] x3 = some (.int e) ∧ (12 < e ∨ e < -12) ∧ -(10 ^ 30) ≤ e ∧ e ≤ 10 ^ 30 := by
        rcases (by omega : x3 = 0 ∨ x3 = 1 ∨ x3 = 2 ∨ x3 = 3 ∨ x3 = 4) with rfl | rfl | rfl | rfl | rfl
        · exact ⟨_, rfl, by decide, by decide, by decide⟩
        · exact ⟨_, rfl, by decide, by decide, by decide⟩
        · exact ⟨_, rfl, by omega, by omega, by omega⟩
        · exact ⟨_, rfl, by omega, by omega, by omega⟩
        · exact ⟨_, rfl, by decide, by decide, by decide⟩
      refine r_ixL (SqL.of (bu3 _ _ lb upd_same)) he ?_
      walk_at "go"
      exact ⟨e, rfl, buA, b4, e1, e2, e3⟩
    rintro σ' H1 ⟨e, rfl, bu1, b1, e1, e2, e3⟩
    walk_at "go"
    refine r_cut (fun σ' H' => ∃ (c : Addr) (wd nm : Str), σ' = [some (.ref b), some (.ref q), some (.str z), some (.int e), some (.ref c), none, none, none, none] ∧ But b H H' ∧ Bag H' b ∧ H' c = some (.tup [.str wd, .str nm]) ∧ IsWord wd ∧ IsName nm) ?_ ?_
    · walk_at "go"
      intro l nl
      walk_at "go"
      have b2 := b1.keep nl (o := .lst [.str "go", .str "back", .str "hop", .str "slip"])
      refine u_pick b2 (by decide) (by decide) fun r H3 r0 r1 bu3 b3 => ?_
      obtain ⟨wd, hw1, hw2⟩ := word_at r0 r1
      refine r_ixL (SqL.of (bu3 _ _ (b1.ne nl) upd_same)) hw1 ?_
      walk_at "go"
      obtain ⟨c0, hn0, in0⟩ := names_at hz (by decide : (0 : Int) ≤ 1) (by decide)
      refine r_ixS (names_small hz) hn0 ?_
      walk_at "go"
      intro c nc
      exact ⟨c, wd, _, rfl, ((bu1.new nl (o := .lst [.str "go", .str "back", .str "hop", .str "slip"])).trans bu3).new nc (o := .tup [.str wd, .str ⟨#[c0]⟩]), b3.keep nc, upd_same, hw2, in0⟩
    rintro σ' H2 ⟨c, wd, nm, rfl, bu2, b2, hc, hwd, hnm⟩
    have hq2 := hq.tk (Tk.but bu2 hb)
    clear bu1 b1
    walk_at "go"
    refine u_pick b2 (by decide) (by decide) fun x3 H3 x30 x31 bu3 b3 => ?_
    have tk3 := Tk.but bu3 b2
    replace hq2 := hq2.tk tk3
    replace hc := tk3 _ _ hc
    have buA := bu2.trans bu3
    have ws : ∀ {d : Nat} {r : Prog}, Wf BC BC d r → Wf BC BC d (.step wd nm r) := fun h => WfL.step_iff.mpr ⟨hwd, hnm, h⟩
    clear bu2 bu3 b2 tk3
    walk_at "go"
    have fin : ∀ {q2 : Addr} {p2 : Prog} {H' : Hp}, But b H3 H' → Bag H' b → PrIs H' q2 p2 → Wf BC BC 3 p2 → 1 ≤ p2.len → p2.len ≤ 42 → NSh p2 → Q (.ref q2) H' := fun bu bg a1 a2 a3 a4 a5 => k _ _ _ (buA.trans bu) bg a1 a2 a3 a4 a5
    clear k
    have b3ne := fun {H' : Hp} {x : Addr} (bg : Bag H' b) (n : H' x = none) => bg.ne n
    refine r_iteD (fun z0 => ?_) (fun z0 => ?_)
    · walk_at "go"
      refine r_cut (fun σ' H' => ∃ n : Int, σ' = [some (.ref b), some (.ref q), some (.str z), some (.int e), some (.ref c), some (.int x3), some (.int n), none, none] ∧ But b H3 H' ∧ Bag H' b ∧ 201 ≤ n ∧ n ≤ 10 ^ 30) ?_ ?_
      · walk_at "go"
        refine u_pick b3 (by decide) (by decide) fun x1 H4 x10 x11 bu4 b4 => ?_
        walk_at "go"
        refine ⟨b, 29, rfl, b4, by decide, by decide, fun x2 H5 x20 x21 bu5 b5 => ?_⟩
        have x21 : x2 < 10 ^ 29 := x21
        walk_at "go"
        intro l nl
        have lb := b5.ne nl
        have b6 := b5.keep nl (o := .lst [.int 0, .int 1, .int x1, .int x2])
        walk_at "go"
        refine u_pick b6 (by decide) (by decide) fun y H6 y0 y1 bu6 b7 => ?_
        obtain ⟨m, hm, m0, m1⟩ : ∃ m : Int, atI [V.int 0, V.int 1, V.int x1, V.int x2] y = some (.int m) ∧ 0 ≤ m ∧ m < 10 ^ 29 := by
          rcases (by omega : y = 0 ∨ y = 1 ∨ y = 2 ∨ y = 3) with rfl | rfl | rfl | rfl
          · exact ⟨_, rfl, by decide, by decide⟩
          · exact ⟨_, rfl, by decide, by decide⟩
          · exact ⟨_, rfl, by omega, by omega⟩
          · exact ⟨_, rfl, by omega, by omega⟩
        refine r_ixL (SqL.of (bu6 _ _ lb upd_same)) hm ?_
        walk_at "go"
        exact ⟨201 + m, rfl, ((bu4.trans bu5).new nl (o := .lst [.int 0, .int 1, .int x1, .int x2])).trans bu6, b7, by omega, by omega⟩
      rintro σ' H4 ⟨n, rfl, bu4, b4, n1, n2⟩
      have hc4 := Tk.but bu4 b3 _ _ hc
      walk_at "go"
      intro t1 nt1
      walk_at "go"
      intro t2 nt2
      walk_at "go"
      intro t3 nt3
      have w0 : Wf BC BC 3 (.rep n (.step wd nm .nil) .nil) := ⟨⟨by omega, by omega⟩, ⟨by simp [Prog.len], by simp [Prog.len]⟩, ws WfL.nil, WfL.nil⟩
      refine fin (p2 := .rep n (.step wd nm .nil) .nil) (((bu4.new nt1).new nt2).new nt3) (((b4.keep nt1).keep nt2).keep nt3) ⟨_, upd_same, t2, t1, [.ref c], [], rfl, by walk_at "hp", by walk_at "hp", ⟨c, [], rfl, by walk_at "hp", rfl⟩, rfl⟩ w0 (by simp [Prog.len]) (by simp [Prog.len]) (ns0 n1 _ (by decide))
    walk_at "go"
    refine r_iteD (fun z1 => ?_) (fun z1 => ?_)
    · walk_at "go"
      refine u_pick b3 (by decide) (by decide) fun x1 H4 x10 x11 bu4 b4 => ?_
      have hq4 := hq2.tk (Tk.but bu4 b3)
      have hc4 := Tk.but bu4 b3 _ _ hc
      walk_at "go"
      refine ⟨q, p, rfl, hq4, WfL.mono (Int.le_refl _) (Int.le_refl _) (by decide) hw, by omega, by decide, ?_⟩
      have hsz := Prog.size_flat hw
      walk_at "go"
      intro t1 nt1
      walk_at "go"
      intro t2 nt2
      walk_at "go"
      intro t3 nt3
      walk_at "go"
      intro t4 nt4
      walk_at "go"
      intro t5 nt5
      have s5 := Same.new (Same.new (Same.new (Same.new (Same.new0 nt1) nt2) nt3) nt4) nt5 (o := .tup [.ref t4])
      have b5 := b4.same s5
      have bu5 := bu4.trans (Same.but s5 b)
      obtain ⟨xs, hx, hp⟩ := hq4.tk (Tk.same s5)
      have hi : PrAt (upd (upd (upd (upd (upd H4 t1 (.tup [.ref c])) t2 (.tup [.str "repeat", .int (201 + x1 - p.size), .ref t1])) t3 (.tup [.ref t2])) t4 (.tup [.str "mirror", .ref t3])) t5 (.tup [.ref t4])) (.mir (.rep (201 + x1 - p.size) (.step wd nm .nil) .nil) .nil) [.ref t4] :=
        ⟨t4, t3, [.ref t2], [], rfl, by walk_at "hp", by walk_at "hp", ⟨t2, t1, [.ref c], [], rfl, by walk_at "hp", by walk_at "hp", ⟨c, [], rfl, by walk_at "hp", rfl⟩, rfl⟩, rfl⟩
      have hpl := hp.length
      refine r_catAT hx upd_same (by simp; omega) fun q2 H5 sx hq2' => ?_
      have w0 : Wf BC BC 3 (.mir (.rep (201 + x1 - p.size) (.step wd nm .nil) .nil) .nil) := ⟨⟨by simp [Prog.len], by simp [Prog.len]⟩, ⟨⟨by omega, by omega⟩, ⟨by simp [Prog.len], by simp [Prog.len]⟩, ws WfL.nil, WfL.nil⟩, WfL.nil⟩
      refine fin (bu5.trans (Same.but sx b)) (b5.same sx) ⟨_, hq2', (hp.app hi).tk (Tk.same sx)⟩ (hw3.app w0) (by rw [Prog.len_app]; omega) (by rw [Prog.len_app]; show p.len + 1 ≤ 42; omega) (ns1 (by omega))
    walk_at "go"
    refine r_iteD (fun z2 => ?_) (fun z2 => ?_)
    · walk_at "go"
      refine ⟨q, p, rfl, hq2, WfL.mono (Int.le_refl _) (Int.le_refl _) (by decide) hw, by omega, by decide, ?_⟩
      walk_at "go"
      intro t1 nt1
      walk_at "go"
      intro t2 nt2
      walk_at "go"
      intro t3 nt3
      have s5 := Same.new (Same.new (Same.new0 nt1) nt2) nt3 (o := .tup [.ref t1, .ref t2])
      have b5 := b3.same s5
      obtain ⟨xs, hx, hp⟩ := hq2.tk (Tk.same s5)
      have hi : PrAt (upd (upd (upd H3 t1 (.tup [.str "turn", .int (e - p.head)])) t2 (.tup [.str "turn", .int (-e)])) t3 (.tup [.ref t1, .ref t2])) (.turn (e - p.head) (.turn (-e) .nil)) [.ref t1, .ref t2] :=
        ⟨t1, [.ref t2], rfl, by walk_at "hp", t2, [], rfl, by walk_at "hp", rfl⟩
      have hpl := hp.length
      refine r_catAT hx upd_same (by simp; omega) fun q2 H5 sx hq2' => ?_
      have w0 : Wf BC BC 3 (.turn (e - p.head) (.turn (-e) .nil)) := ⟨⟨by omega, by omega⟩, ⟨by omega, by omega⟩, WfL.nil⟩
      refine fin (Same.but (s5.trans sx) b) (b5.same sx) ⟨_, hq2', (hp.app hi).tk (Tk.same sx)⟩ (hw3.app w0) (by rw [Prog.len_app]; omega) (by rw [Prog.len_app]; show p.len + 2 ≤ 42; omega) (ns2 e1 hw)
    walk_at "go"
    refine r_iteD (fun z3 => ?_) (fun z3 => ?_)
    · walk_at "go"
      intro t1 nt1
      walk_at "go"
      intro t2 nt2
      walk_at "go"
      intro t3 nt3
      walk_at "go"
      intro t4 nt4
      walk_at "go"
      intro t5 nt5
      have s5 := Same.new (Same.new (Same.new (Same.new (Same.new0 nt1) nt2) nt3) nt4) nt5 (o := .tup [.ref t4])
      have b5 := b3.same s5
      obtain ⟨xs, hx, hp⟩ := hq2.tk (Tk.same s5)
      have hi : PrAt (upd (upd (upd (upd (upd H3 t1 (.tup [.str "turn", .int e])) t2 (.tup [.str "turn", .int (-e)])) t3 (.tup [.ref t1, .ref c, .ref t2])) t4 (.tup [.str "mirror", .ref t3])) t5 (.tup [.ref t4])) (.mir (.turn e (.step wd nm (.turn (-e) .nil))) .nil) [.ref t4] :=
        ⟨t4, t3, [.ref t1, .ref c, .ref t2], [], rfl, by walk_at "hp", by walk_at "hp", ⟨t1, _, rfl, by walk_at "hp", c, _, rfl, by walk_at "hp", t2, [], rfl, by walk_at "hp", rfl⟩, rfl⟩
      have hpl := hp.length
      walk_at "go"
      refine r_catAT upd_same hx (by simp; omega) fun q2 H5 sx hq2' => ?_
      have w1 : Wf BC BC 2 (.turn e (.step wd nm (.turn (-e) .nil))) := ⟨⟨by omega, by omega⟩, ws ⟨⟨by omega, by omega⟩, WfL.nil⟩⟩
      have w0 : Wf BC BC 3 (.mir (.turn e (.step wd nm (.turn (-e) .nil))) .nil) := ⟨⟨by simp [Prog.len], by simp [Prog.len]⟩, w1, WfL.nil⟩
      refine fin (Same.but (s5.trans sx) b) (b5.same sx) ⟨_, hq2', (hi.app hp).tk (Tk.same sx)⟩ (w0.app hw3) (by rw [Prog.len_app]; omega) (by rw [Prog.len_app]; show 1 + p.len ≤ 42; omega) (ns3 e1)
    walk_at "go"
    refine r_iteD (fun z4 => ?_) (fun z4 => ?_)
    · walk_at "go"
      intro u1 nu1
      walk_at "go"
      refine u_pick (b3.keep nu1) (by decide) (by decide) fun x1 H4 x10 x11 bu4 b4 => ?_
      have hu1 := bu4 _ _ (b3.ne nu1) (upd_same (H := H3) (a := u1) (o := .tup [.int 2, .int 7]))
      have buB := ((But.refl b H3).new nu1 (o := .tup [.int 2, .int 7])).trans bu4
      have hc4 := buB _ _ (nb_tup b3 hc) hc
      clear bu4
      walk_at "go"
      intro u2 nu2
      walk_at "go"
      intro u3 nu3
      walk_at "go"
      intro u4 nu4
      walk_at "go"
      intro u5 nu5
      walk_at "go"
      intro u6 nu6
      walk_at "go"
      intro u7 nu7
      walk_at "go"
      intro u8 nu8
      walk_at "go"
      intro u9 nu9
      walk_at "go"
      refine r_cut (fun σ' H' => ∃ (y7 : Option V) (n m : Int), σ' = [some (.ref b), some (.ref q), some (.str z), some (.int e), some (.ref c), some (.int x3), some (.int n), y7, some (.int m)] ∧ But b H3 H' ∧ Bag H' b ∧ 1 ≤ n ∧ n ≤ 13 ∧ 12 < n * m ∧ 1 ≤ m ∧ m ≤ 12) ?_ ?_
      · walk_at "go"
        have s9 := Same.new (Same.new (Same.new (Same.new (Same.new (Same.new (Same.new (Same.new0 nu2) nu3) nu4) nu5) nu6) nu7) nu8) nu9 (o := .lst [.ref u1, .ref u2, .ref u3, .ref u4, .ref u5, .ref u6, .ref u7, .ref u8])
        have b9 := b4.same s9
        have u9b := (b4.same (Same.new (Same.new (Same.new (Same.new (Same.new (Same.new (Same.new0 nu2) nu3) nu4) nu5) nu6) nu7) nu8)).ne nu9
        have g1 := s9 _ _ hu1
        have hall : ∀ (y : Int), 0 ≤ y → y < 8 → ∃ (u : Addr) (n m : Int), atI [V.ref u1, .ref u2, .ref u3, .ref u4, .ref u5, .ref u6, .ref u7, .ref u8] y = some (.ref u) ∧ (upd (upd (upd (upd (upd (upd (upd (upd H4 u2 (.tup [.int 2, .int (7 + x1)])) u3 (.tup [.int 3, .int 5])) u4 (.tup [.int 3, .int 6])) u5 (.tup [.int 4, .int 4])) u6 (.tup [.int 5, .int 3])) u7 (.tup [.int 7, .int 2])) u8 (.tup [.int 13, .int 1])) u9 (.lst [.ref u1, .ref u2, .ref u3, .ref u4, .ref u5, .ref u6, .ref u7, .ref u8])) u = some (.tup [.int n, .int m]) ∧ 1 ≤ n ∧ n ≤ 13 ∧ 12 < n * m ∧ 1 ≤ m ∧ m ≤ 12 := fun y y0 y1 => by
          rcases (by omega : y = 0 ∨ y = 1 ∨ y = 2 ∨ y = 3 ∨ y = 4 ∨ y = 5 ∨ y = 6 ∨ y = 7) with rfl | rfl | rfl | rfl | rfl | rfl | rfl | rfl
          · exact ⟨u1, 2, 7, rfl, g1, by decide, by decide, by decide, by decide, by decide⟩
          · exact ⟨u2, 2, 7 + x1, rfl, by walk_at "hp", by decide, by decide, by omega, by omega, by omega⟩
          · exact ⟨u3, 3, 5, rfl, by walk_at "hp", by decide, by decide, by decide, by decide, by decide⟩
          · exact ⟨u4, 3, 6, rfl, by walk_at "hp", by decide, by decide, by decide, by decide, by decide⟩
          · exact ⟨u5, 4, 4, rfl, by walk_at "hp", by decide, by decide, by decide, by decide, by decide⟩
          · exact ⟨u6, 5, 3, rfl, by walk_at "hp", by decide, by decide, by decide, by decide, by decide⟩
          · exact ⟨u7, 7, 2, rfl, by walk_at "hp", by decide, by decide, by decide, by decide, by decide⟩
          · exact ⟨u8, 13, 1, rfl, by walk_at "hp", by decide, by decide, by decide, by decide, by decide⟩
        have bu9 := buB.trans (Same.but s9 b)
        have e9 := upd_same (H := (upd (upd (upd (upd (upd (upd (upd H4 u2 (.tup [.int 2, .int (7 + x1)])) u3 (.tup [.int 3, .int 5])) u4 (.tup [.int 3, .int 6])) u5 (.tup [.int 4, .int 4])) u6 (.tup [.int 5, .int 3])) u7 (.tup [.int 7, .int 2])) u8 (.tup [.int 13, .int 1]))) (a := u9) (o := .lst [.ref u1, .ref u2, .ref u3, .ref u4, .ref u5, .ref u6, .ref u7, .ref u8])
        generalize upd _ u9 _ = H9 at *
        refine u_pick b9 (by decide) (by decide) fun y H5 y0 y1 bu5 b5 => ?_
        obtain ⟨u, n, m, hu, hn, n1, n2, nm1, m1, m2⟩ := hall y y0 y1
        refine r_ixL (SqL.of (bu5 _ _ u9b e9)) hu ?_
        have hu5 := bu5 _ _ (nb_tup b9 hn) hn
        walk_at "go"
        exact ⟨_, n, m, rfl, bu9.trans bu5, b5, n1, n2, nm1, m1, m2⟩
      clear hu1 hc4 buB nu1 nu2 nu3 nu4 nu5 nu6 nu7 nu8 nu9 b4
      rintro σ' H4 ⟨y7, n, m, rfl, bu4, b4, n1, n2, nm1, m1, m2⟩
      walk_at "go"
      refine r_cut (fun σ' H' => ∃ (m' : Int), σ' = [some (.ref b), some (.ref q), some (.str z), some (.int e), some (.ref c), some (.int x3), some (.int n), y7, some (.int m')] ∧ But b H3 H' ∧ Bag H' b ∧ (m' = m ∨ m' = -m)) ?_ ?_
      · walk_at "go"
        intro l nl
        have lb := b4.ne nl
        have b6 := b4.keep nl (o := .lst [.int 1, .int (-1)])
        walk_at "go"
        refine u_pick b6 (by decide) (by decide) fun y H6 y0 y1 bu6 b7 => ?_
        obtain ⟨s, hs, hs2⟩ : ∃ s : Int, atI [V.int 1, V.int (-1)] y = some (.int s) ∧ (s = 1 ∨ s = -1) := by
          rcases (by omega : y = 0 ∨ y = 1) with rfl | rfl
          · exact ⟨_, rfl, .inl rfl⟩
          · exact ⟨_, rfl, .inr rfl⟩
        refine r_ixL (SqL.of (bu6 _ _ lb upd_same)) hs ?_
        walk_at "go"
        exact ⟨m * s, rfl, (bu4.new nl (o := .lst [.int 1, .int (-1)])).trans bu6, b7, by rcases hs2 with rfl | rfl <;> omega⟩
      rintro σ' H5 ⟨m', rfl, bu5, b5, hm'⟩
      have nm2 : 12 < n * m' ∨ n * m' < -12 := by
        rcases hm' with rfl | rfl
        · exact .inl nm1
        · right; rw [Int.mul_neg]; omega
      have m3 : -12 ≤ m' ∧ m' ≤ 12 := by omega
      have nm3 : -1000 ≤ -n * m' ∧ -n * m' ≤ 1000 := by
        have : (-n * m').natAbs ≤ 13 * 12 := by rw [Int.natAbs_mul]; exact Nat.mul_le_mul (by omega) (by omega)
        omega
      have hc5 := bu5 _ _ (nb_tup b3 hc) hc
      clear bu4 b4
      walk_at "go"
      intro t1 nt1
      walk_at "go"
      intro t2 nt2
      walk_at "go"
      intro t3 nt3
      walk_at "go"
      intro t4 nt4
      walk_at "go"
      intro t5 nt5
      walk_at "go"
      have s5 := Same.new (Same.new (Same.new (Same.new (Same.new0 nt1) nt2) nt3) nt4) nt5 (o := .tup [.ref t3, .ref t4])
      have b6 := b5.same s5
      have bu6 := bu5.trans (Same.but s5 b)
      have e5 : (upd (upd (upd (upd (upd H5 t1 (.tup [.str "turn", .int m'])) t2 (.tup [.ref c, .ref t1])) t3 (.tup [.str "repeat", .int n, .ref t2])) t4 (.tup [.str "turn", .int (-n * m')])) t5 (.tup [.ref t3, .ref t4])) t5 = some (.tup [.ref t3, .ref t4]) := upd_same
      have hi : PrAt (upd (upd (upd (upd (upd H5 t1 (.tup [.str "turn", .int m'])) t2 (.tup [.ref c, .ref t1])) t3 (.tup [.str "repeat", .int n, .ref t2])) t4 (.tup [.str "turn", .int (-n * m')])) t5 (.tup [.ref t3, .ref t4])) (.rep n (.step wd nm (.turn m' .nil)) (.turn (-n * m') .nil)) [.ref t3, .ref t4] :=
        ⟨t3, t2, [.ref c, .ref t1], [.ref t4], rfl, by walk_at "hp", by walk_at "hp", ⟨c, _, rfl, by walk_at "hp", t1, [], rfl, by walk_at "hp", rfl⟩, t4, [], rfl, by walk_at "hp", rfl⟩
      generalize upd _ t5 _ = H6 at *
      refine u_pick b6 (by decide) (by decide) fun y H7 y0 y1 bu7 b7 => ?_
      have tk7 := Tk.but bu7 b6
      obtain ⟨j, hj⟩ : ∃ j : Nat, 1 + y = j := ⟨(1 + y).toNat, by omega⟩
      walk_at "go"
      rw [hj]
      refine r_slAT (tk7 _ _ e5) rfl fun q2 H8 sx hq2' => ?_
      have w1 : Wf BC BC 2 (.step wd nm (.turn m' .nil)) := ws ⟨⟨by omega, by omega⟩, WfL.nil⟩
      have w0 : Wf BC BC 3 (.rep n (.step wd nm (.turn m' .nil)) (.turn (-n * m') .nil)) := ⟨⟨by omega, by omega⟩, ⟨by simp [Prog.len], by simp [Prog.len]⟩, w1, ⟨by omega, by omega⟩, WfL.nil⟩
      have hns : NSh (Prog.take j (.rep n (.step wd nm (.turn m' .nil)) (.turn (-n * m') .nil))) := by
        rcases (by omega : j = 1 ∨ j = 2) with rfl | rfl
        · exact ns4 n1 nm2
        · exact ns4 n1 nm2
      have hln : 1 ≤ (Prog.take j (.rep n (.step wd nm (.turn m' .nil)) (.turn (-n * m') .nil))).len ∧ (Prog.take j (.rep n (.step wd nm (.turn m' .nil)) (.turn (-n * m') .nil))).len ≤ 42 := by
        rw [Prog.len_take]
        show 1 ≤ min j 2 ∧ min j 2 ≤ 42
        omega
      exact fin ((bu6.trans bu7).trans (Same.but sx b)) (b7.same sx) ⟨_, hq2', ((hi.tk tk7).take).tk (Tk.same sx)⟩ (Prog.wf_take w0) hln.1 hln.2 hns
    · walk_at "go"
      refine ⟨b, 29, rfl, b3, by decide, by decide, fun x1 H4 x10 x11 bu4 b4 => ?_⟩
      have x11 : x1 < 10 ^ 29 := x11
      walk_at "go"
      refine u_pick b4 (by decide) (by decide) fun x2 H5 x20 x21 bu5 b5 => ?_
      have buB := bu4.trans bu5
      have hc5 := buB _ _ (nb_tup b3 hc) hc
      walk_at "go"
      intro t1 nt1
      walk_at "go"
      intro t2 nt2
      walk_at "go"
      intro t3 nt3
      walk_at "go"
      intro t4 nt4
      walk_at "go"
      intro t5 nt5
      have s5 := Same.new (Same.new (Same.new (Same.new (Same.new0 nt1) nt2) nt3) nt4) nt5 (o := .tup [.ref t4])
      have w2 : Wf BC BC 1 (.step wd nm (.step wd nm .nil)) := ws (ws WfL.nil)
      have w1 : Wf BC BC 2 (.rep (2 + x2) (.step wd nm (.step wd nm .nil)) .nil) := ⟨⟨by omega, by omega⟩, ⟨by simp [Prog.len], by simp [Prog.len]⟩, w2, WfL.nil⟩
      have w0 : Wf BC BC 3 (.rep (101 + x1) (.rep (2 + x2) (.step wd nm (.step wd nm .nil)) .nil) .nil) := ⟨⟨by omega, by omega⟩, ⟨by simp [Prog.len], by simp [Prog.len]⟩, w1, WfL.nil⟩
      refine fin (p2 := .rep (101 + x1) (.rep (2 + x2) (.step wd nm (.step wd nm .nil)) .nil) .nil) (buB.trans (Same.but s5 b)) (b5.same s5) ⟨_, upd_same, t4, t3, [.ref t2], [], rfl, by walk_at "hp", by walk_at "hp", ⟨t2, t1, [.ref c, .ref c], [], rfl, by walk_at "hp", by walk_at "hp", ⟨c, _, rfl, by walk_at "hp", c, _, rfl, by walk_at "hp", rfl⟩, rfl⟩, rfl⟩ w0 (by simp [Prog.len]) (by simp [Prog.len]) (ns5 (by omega) (by omega))
end

set_option Elab.async false
set_option linter.all false
set_option maxRecDepth 100000
set_option maxHeartbeats 16000000
set_option pp.deepTerms false
set_option pp.deepTerms.threshold 12
set_option pp.maxSteps 1200

open PySem PySem.Spec PyProof.Rows L2
/-- a value that is no program -/
def spNoPiece (K : PySem.W.Frag) : Sp := fun vs H Q _ => ∃ b q p, vs = [.ref b, .ref q] ∧ Bag H b ∧ PrIs H q p ∧ Wf BC BC 12 p ∧ 1 ≤ p.len ∧ p.len ≤ 4000 ∧ ∀ v H', But b H H' → Bag H' b → PrB K H' 14 v false → Q v H'
theorem isName_aX : IsName "a" := ⟨97, rfl, by decide, by decide⟩
section
variable {P : Program} {w : World} {K : PySem.W.Frag} {mg : Str → Option Value} {base : Heap} {A_InvalidProgram A_NotShort : Addr}

theorem ok_l_no_piece {f : Addr} {fd : FuncData} (F : Fun K "_law_no_piece" "_law_no_piece" s_l_no_piece f fd) (bLen : mg "len" = none) (bList : mg "list" = none) (X_InvalidProgram : OwnX K mg "InvalidProgram" A_InvalidProgram) (uT : PySem.W.subIn K (.ref A_InvalidProgram) (.type "tuple") = some false)
   (h_l_pick : Has P w K mg base "_law_pick" 1 ["_law_bag", "_law_many"] spPick) : FnOk P w K mg base CX0 2 f fd ["_law_bag", "_law_piece"] (spNoPiece K) := by
  refine F.ok sc_l_no_piece (fun vs H Q E h => ?_) (fun cdv A outer s H vs Q E hr h => ?_)
  · obtain ⟨b, q, p, rfl, _⟩ := h
    rfl
  · obtain ⟨b, q, p, rfl, hb, hq, hw, hl1, hlen, k⟩ := h
    have hpr0 : PrB K H 13 (.ref q) true := hq.prB 12 hw hl1 hlen
    obtain ⟨xs0, hxs, hp0⟩ := hq
    have lx0 := hp0.length
    have xs0ne : xs0 ≠ [] := by rintro rfl; simp at lx0; omega
    have hxs1 := hxs
    refine ⟨_, (pss_cutM (ps_set (i := 2) sc_l_no_piece.nd rfl (.inl rfl) (pe_lst (pa_cons pe_non (pa_cons pe_bl (pa_cons pe_int (pa_cons pe_int (pa_cons pe_str (pa_cons pe_str (pa_cons (pe_tup pa_nil) (pa_cons (pe_lst pa_nil) (pa_cons (pe_callTy call_listT (by rfl) bList (by decide +kernel) (pa_cons (pv 1) pa_nil)) (pa_cons (pe_lst (pa_cons (pv 1) pa_nil)) (pa_cons (pe_tup (pa_cons (pe_callTy call_listT (by rfl) bList (by decide +kernel) (pa_cons (pv 1) pa_nil)) pa_nil)) (pa_cons (pe_op op_catT (pv 1) (pe_tup (pa_cons pe_non pa_nil))) (pa_cons pe_str pa_nil)))))))))))))))
    (pss_cutM (ps_set (i := 2) sc_l_no_piece.nd rfl (.inl rfl) (pe_op op_cat (pv 2) (pe_lst (pa_cons (pe_exc1 PySem.F.excBase_ValueError X_InvalidProgram.xi X_InvalidProgram.g X_InvalidProgram.k rfl pe_str) (pa_cons (pe_tup (pa_cons pe_str (pa_cons pe_str pa_nil))) (pa_cons (pe_tup (pa_cons pe_str (pa_cons pe_int pa_nil))) (pa_cons (pe_tup (pa_cons (pe_tup (pa_cons pe_str (pa_cons pe_int pa_nil))) (pa_cons (pe_tup (pa_cons pe_str pa_nil)) pa_nil))) (pa_cons (pe_op op_rep (pe_lst (pa_cons pe_non pa_nil)) pe_int) (pa_cons (pe_tup (pa_cons pe_int (pa_cons pe_int pa_nil))) pa_nil)))))))))
    (pss_cutM (ps_set (i := 2) sc_l_no_piece.nd rfl (.inl rfl) (pe_op op_cat (pv 2) (pe_lst (pa_cons (pe_op op_catT (pv 1) (pe_tup (pa_cons (pe_tup (pa_cons pe_str (pa_cons pe_bl pa_nil))) pa_nil))) (pa_cons (pe_op op_catT (pv 1) (pe_tup (pa_cons (pe_tup (pa_cons pe_str (pa_cons pe_int (pa_cons (pv 1) pa_nil)))) pa_nil))) (pa_cons (pe_op op_catT (pv 1) (pe_tup (pa_cons (pe_tup (pa_cons pe_str (pa_cons pe_str pa_nil))) pa_nil))) pa_nil))))))
    (pss_cutM (ps_set (i := 2) sc_l_no_piece.nd rfl (.inl rfl) (pe_op op_cat (pv 2) (pe_lst (pa_cons (pe_tup (pa_cons (pe_tup (pa_cons pe_str (pa_cons pe_int (pa_cons (pe_tup pa_nil) pa_nil)))) pa_nil)) (pa_cons (pe_tup (pa_cons (pe_tup (pa_cons pe_str (pa_cons (pe_callTy call_listT (by rfl) bList (by decide +kernel) (pa_cons (pv 1) pa_nil)) pa_nil))) pa_nil)) (pa_cons (pe_tup (pa_cons (pe_tup (pa_cons pe_str (pa_cons pe_str pa_nil))) pa_nil)) (pa_cons (pe_tup (pa_cons (pe_tup (pa_cons pe_str (pa_cons pe_str pa_nil))) pa_nil)) (pa_cons (pe_op op_catT (pe_tup (pa_cons pe_non pa_nil)) (pv 1)) pa_nil))))))))
    (pss_cutM (ps_set (i := 2) sc_l_no_piece.nd rfl (.inl rfl) (pe_op op_cat (pv 2) (pe_lst (pa_cons (pe_tup (pa_cons (pe_tup (pa_cons pe_str (pa_cons pe_bl (pa_cons (pv 1) pa_nil)))) pa_nil)) (pa_cons (pe_tup (pa_cons (pe_tup (pa_cons pe_str (pa_cons (pv 1) (pa_cons pe_int pa_nil)))) pa_nil)) (pa_cons (pe_tup (pa_cons (pe_tup (pa_cons pe_str (pa_cons pe_str pa_nil))) pa_nil)) (pa_cons (pe_tup (pa_cons (pe_tup (pa_cons pe_str pa_nil)) pa_nil)) (pa_cons (pe_tup (pa_cons (pe_lst (pa_cons pe_str (pa_cons pe_str pa_nil))) pa_nil)) pa_nil))))))))
    (pss_cutM (ps_set (i := 2) sc_l_no_piece.nd rfl (.inl rfl) (pe_op op_cat (pv 2) (pe_lst (pa_cons (pe_tup (pa_cons (pe_tup (pa_cons pe_str (pa_cons (pe_op op_pow pe_int pe_int) (pa_cons (pv 1) pa_nil)))) (pa_cons (pe_tup (pa_cons pe_str (pa_cons pe_str pa_nil))) pa_nil))) (pa_cons (pe_tup (pa_cons (pe_tup (pa_cons pe_str (pa_cons pe_int (pa_cons (pe_tup (pa_cons (pe_tup (pa_cons pe_str (pa_cons pe_str pa_nil))) pa_nil)) pa_nil)))) pa_nil)) (pa_cons (pe_tup (pa_cons (pe_tup (pa_cons pe_str (pa_cons pe_str pa_nil))) (pa_cons pe_int pa_nil))) pa_nil))))))
    (pss_cutM (ps_set (i := 2) sc_l_no_piece.nd rfl (.inl rfl) (pe_op op_cat (pv 2) (pe_lst (pa_cons (pe_tup (pa_cons (pe_tup (pa_cons pe_str (pa_cons pe_int pa_nil))) (pa_cons (pe_tup (pa_cons pe_str (pa_cons pe_str pa_nil))) pa_nil))) (pa_cons (pe_tup (pa_cons (pe_tup (pa_cons pe_str (pa_cons (pe_un un_neg (pe_op op_pow pe_int pe_int)) pa_nil))) (pa_cons pe_non pa_nil))) (pa_cons (pe_op op_catT (pv 1) (pe_tup (pa_cons (pe_tup (pa_cons pe_str (pa_cons (pe_tup pa_nil) pa_nil))) pa_nil))) pa_nil))))))
    (pss_one (ps_ret (pe_ix (ix_listK (K := K)) (pv 2) (pe_callH h_l_pick (hr.mono (by first | decide | omega)) (pa_cons (pv 0) (pa_cons (pe_callB (call_lenK (K := K)) (by rfl) bLen PySem.boot_len (pa_cons (pv 2) pa_nil)) pa_nil))) (fun _ _ => rfl))))))))))), ?_⟩
    walk_at "go"
    refine r_cut (fun σ' H' => ∃ (l : Addr) (xs : List V), σ' = [some (.ref b), some (.ref q), some (.ref l)] ∧ Same H H' ∧ H l = none ∧ H' l = some (.lst xs) ∧ xs.length = 13 ∧ ∀ v ∈ xs, PrB K H' 14 v false) ?_ ?_
    · walk_at "go"
      intro e1 n1
      walk_at "go"
      intro e2 n2
      walk_at "go"
      intro e3 n3
      walk_at "go"
      intro e4 n4
      walk_at "go"
      intro e5 n5
      walk_at "go"
      intro e6 n6
      walk_at "go"
      intro e7 n7
      walk_at "go"
      refine r_catT (xs := xs0) (ys := [.non]) (by walk_at "hp") (by walk_at "hp") xs0ne (by simp) (by simp; omega) fun e8 n8 => ?_
      walk_at "go"
      intro e9 n9
      walk_at "go"
      have sA := (Same.new (Same.new (Same.new (Same.new (Same.new (Same.new (Same.new (Same.new (Same.new0 n1 ) n2 ) n3 ) n4 ) n5 ) n6 ) n7 ) n8 ) n9 (o := .lst [.non, .bl true, .int 0, .int 1, .str "", .str "go a", .ref e1, .ref e2, .ref e3, .ref e4, .ref e6, .ref e8, .str "go"]))
      have nl2 := free_same (Same.new (Same.new (Same.new (Same.new (Same.new (Same.new (Same.new (Same.new0 n1 ) n2 ) n3 ) n4 ) n5 ) n6 ) n7 ) n8 (o := .tup (xs0 ++ [.non]))) n9
      have hpx := hp0.tk (Tk.same (sA))
      have hpr := hpr0.st (St.same (sA))
      refine ⟨e9, _, rfl, sA, nl2, upd_same, by simp, fun v hv => ?_⟩
      simp only [List.mem_cons, List.not_mem_nil, or_false] at hv
      rcases hv with rfl | rfl | rfl | rfl | rfl | rfl | rfl | rfl | rfl | rfl | rfl | rfl | rfl
      · exact pr_no (nt_non (by decide +kernel))
      · exact pr_no (nt_bl (by decide +kernel))
      · exact pr_no (nt_int (by decide +kernel))
      · exact pr_no (nt_int (by decide +kernel))
      · exact pr_no (nt_str (by decide +kernel))
      · exact pr_no (nt_str (by decide +kernel))
      · exact pr_nil (by walk_at "hp")
      · exact pr_no (nt_lst (xs := []) (by decide +kernel) (by walk_at "hp"))
      · exact pr_no (nt_lst (xs := xs0) (by decide +kernel) (by walk_at "hp"))
      · exact pr_no (nt_lst (xs := [.ref q]) (by decide +kernel) (by walk_at "hp"))
      · exact pr_one (x := .ref e5) (by walk_at "hp") (cm_no (nt_lst (xs := xs0) (by decide +kernel) (by walk_at "hp")))
      · exact pr_snoc (xs := xs0) (x := .non) (by walk_at "hp") hpx hw (by decide) hlen (cm_no (nt_non (by decide +kernel)))
      · exact pr_no (nt_str (by decide +kernel))
    rintro σ' H1 ⟨l, xs, rfl, s1, nl, hl, ln, hw0⟩
    have hxs1 := s1 _ _ hxs
    walk_at "go"
    refine r_cut (fun σ' H' => ∃ (l : Addr) (xs : List V), σ' = [some (.ref b), some (.ref q), some (.ref l)] ∧ Same H H' ∧ H l = none ∧ H' l = some (.lst xs) ∧ xs.length = 19 ∧ ∀ v ∈ xs, PrB K H' 14 v false) ?_ ?_
    · walk_at "go"
      intro e1 n1
      walk_at "go"
      intro e2 n2
      walk_at "go"
      intro e3 n3
      walk_at "go"
      intro e4 n4
      walk_at "go"
      intro e5 n5
      walk_at "go"
      intro e6 n6
      walk_at "go"
      intro e7 n7
      walk_at "go"
      refine r_rep (xs := [.non]) upd_same (by decide) (by decide) (by decide) fun e8 n8 => ?_
      walk_at "go"
      intro e9 n9
      walk_at "go"
      intro e10 n10
      walk_at "go"
      refine r_cat (xs := xs) (by walk_at "hp") upd_same (by simp only [List.length_cons, List.length_nil]; omega) fun e11 n11 => ?_
      walk_at "go"
      have sA := (Same.new (Same.new (Same.new (Same.new (Same.new (Same.new (Same.new (Same.new (Same.new (Same.new (Same.new0 n1 ) n2 ) n3 ) n4 ) n5 ) n6 ) n7 ) n8 ) n9 ) n10 ) n11 (o := .lst (xs ++ [.ref e1, .ref e2, .ref e3, .ref e6, .ref e8, .ref e9])))
      have nl2 := free_same (Same.new (Same.new (Same.new (Same.new (Same.new (Same.new (Same.new (Same.new (Same.new (Same.new0 n1 ) n2 ) n3 ) n4 ) n5 ) n6 ) n7 ) n8 ) n9 ) n10 (o := .lst [.ref e1, .ref e2, .ref e3, .ref e6, .ref e8, .ref e9])) n11
      have hpx := hp0.tk (Tk.same (s1.trans sA))
      have hpr := hpr0.st (St.same (s1.trans sA))
      refine ⟨e11, _, rfl, s1.trans sA, free_same s1 nl2, upd_same, by simp; omega, fun v hv => ?_⟩
      rcases List.mem_append.mp hv with hv | hv
      · exact (hw0 v hv).st (St.same sA)
      simp only [List.mem_cons, List.not_mem_nil, or_false] at hv
      rcases hv with rfl | rfl | rfl | rfl | rfl | rfl
      · exact pr_no (nt_exc (by walk_at "hp") X_InvalidProgram.e (kit_ownB uT))
      · exact pr_two (x := .str "go") (y := .str "a") (a := false) (c := false) (by walk_at "hp") (cm_no (nt_str (by decide +kernel))) (cm_no (nt_str (by decide +kernel))) rfl
      · exact pr_two (x := .str "turn") (y := .int 1) (a := false) (c := false) (by walk_at "hp") (cm_no (nt_str (by decide +kernel))) (cm_no (nt_int (by decide +kernel))) rfl
      · exact pr_two (x := .ref e4) (y := .ref e5) (a := true) (c := false) (by walk_at "hp") (cm_turn (n := 1) (by walk_at "hp")) (cm_short (xs := [.str "go"]) (by walk_at "hp") (by simp)) rfl
      · exact pr_no (nt_lst (xs := (List.replicate (299 : Int).toNat [V.non]).flatten) (by decide +kernel) (by walk_at "hp"))
      · exact pr_two (x := .int 1) (y := .int 2) (a := false) (c := false) (by walk_at "hp") (cm_no (nt_int (by decide +kernel))) (cm_no (nt_int (by decide +kernel))) rfl
    clear hw0 ln nl hl s1
    clear l xs
    rintro σ' H1 ⟨l, xs, rfl, s1, nl, hl, ln, hw0⟩
    have hxs1 := s1 _ _ hxs
    walk_at "go"
    refine r_cut (fun σ' H' => ∃ (l : Addr) (xs : List V), σ' = [some (.ref b), some (.ref q), some (.ref l)] ∧ Same H H' ∧ H l = none ∧ H' l = some (.lst xs) ∧ xs.length = 22 ∧ ∀ v ∈ xs, PrB K H' 14 v false) ?_ ?_
    · walk_at "go"
      intro e1 n1
      walk_at "go"
      intro e2 n2
      walk_at "go"
      refine r_catT (xs := xs0) (ys := [.ref e1]) (by walk_at "hp") (by walk_at "hp") xs0ne (by simp) (by simp; omega) fun e3 n3 => ?_
      walk_at "go"
      intro e4 n4
      walk_at "go"
      intro e5 n5
      walk_at "go"
      refine r_catT (xs := xs0) (ys := [.ref e4]) (by walk_at "hp") (by walk_at "hp") xs0ne (by simp) (by simp; omega) fun e6 n6 => ?_
      walk_at "go"
      intro e7 n7
      walk_at "go"
      intro e8 n8
      walk_at "go"
      refine r_catT (xs := xs0) (ys := [.ref e7]) (by walk_at "hp") (by walk_at "hp") xs0ne (by simp) (by simp; omega) fun e9 n9 => ?_
      walk_at "go"
      intro e10 n10
      walk_at "go"
      refine r_cat (xs := xs) (by walk_at "hp") upd_same (by simp only [List.length_cons, List.length_nil]; omega) fun e11 n11 => ?_
      walk_at "go"
      have sA := (Same.new (Same.new (Same.new (Same.new (Same.new (Same.new (Same.new (Same.new (Same.new (Same.new (Same.new0 n1 ) n2 ) n3 ) n4 ) n5 ) n6 ) n7 ) n8 ) n9 ) n10 ) n11 (o := .lst (xs ++ [.ref e3, .ref e6, .ref e9])))
      have nl2 := free_same (Same.new (Same.new (Same.new (Same.new (Same.new (Same.new (Same.new (Same.new (Same.new (Same.new0 n1 ) n2 ) n3 ) n4 ) n5 ) n6 ) n7 ) n8 ) n9 ) n10 (o := .lst [.ref e3, .ref e6, .ref e9])) n11
      have hpx := hp0.tk (Tk.same (s1.trans sA))
      have hpr := hpr0.st (St.same (s1.trans sA))
      refine ⟨e11, _, rfl, s1.trans sA, free_same s1 nl2, upd_same, by simp; omega, fun v hv => ?_⟩
      rcases List.mem_append.mp hv with hv | hv
      · exact (hw0 v hv).st (St.same sA)
      simp only [List.mem_cons, List.not_mem_nil, or_false] at hv
      rcases hv with rfl | rfl | rfl
      · exact pr_snoc (xs := xs0) (x := .ref e1) (by walk_at "hp") hpx hw (by decide) hlen (cm_turnB (y := .bl true) (by walk_at "hp") (ni_bl _).now)
      · exact pr_snoc (xs := xs0) (x := .ref e4) (by walk_at "hp") hpx hw (by decide) hlen (cm_rep0 (n := 0) (y := .ref q) (by walk_at "hp") (by decide))
      · exact pr_snoc (xs := xs0) (x := .ref e7) (by walk_at "hp") hpx hw (by decide) hlen (cm_step (w := "go") (y := .str "A") (b := false) (by walk_at "hp") (.inl rfl) (nm_no not_nameA (by decide +kernel)))
    clear hw0 ln nl hl s1
    clear l xs
    rintro σ' H1 ⟨l, xs, rfl, s1, nl, hl, ln, hw0⟩
    have hxs1 := s1 _ _ hxs
    walk_at "go"
    refine r_cut (fun σ' H' => ∃ (l : Addr) (xs : List V), σ' = [some (.ref b), some (.ref q), some (.ref l)] ∧ Same H H' ∧ H l = none ∧ H' l = some (.lst xs) ∧ xs.length = 27 ∧ ∀ v ∈ xs, PrB K H' 14 v false) ?_ ?_
    · walk_at "go"
      intro e1 n1
      walk_at "go"
      intro e2 n2
      walk_at "go"
      intro e3 n3
      walk_at "go"
      intro e4 n4
      walk_at "go"
      intro e5 n5
      walk_at "go"
      intro e6 n6
      walk_at "go"
      intro e7 n7
      walk_at "go"
      intro e8 n8
      walk_at "go"
      intro e9 n9
      walk_at "go"
      intro e10 n10
      walk_at "go"
      intro e11 n11
      walk_at "go"
      refine r_catT (xs := [.non]) (ys := xs0) (by walk_at "hp") (by walk_at "hp") (by simp) xs0ne (by simp; omega) fun e12 n12 => ?_
      walk_at "go"
      intro e13 n13
      walk_at "go"
      refine r_cat (xs := xs) (by walk_at "hp") upd_same (by simp only [List.length_cons, List.length_nil]; omega) fun e14 n14 => ?_
      walk_at "go"
      have sA := (Same.new (Same.new (Same.new (Same.new (Same.new (Same.new (Same.new (Same.new (Same.new (Same.new (Same.new (Same.new (Same.new (Same.new0 n1 ) n2 ) n3 ) n4 ) n5 ) n6 ) n7 ) n8 ) n9 ) n10 ) n11 ) n12 ) n13 ) n14 (o := .lst (xs ++ [.ref e3, .ref e6, .ref e8, .ref e10, .ref e12])))
      have nl2 := free_same (Same.new (Same.new (Same.new (Same.new (Same.new (Same.new (Same.new (Same.new (Same.new (Same.new (Same.new (Same.new (Same.new0 n1 ) n2 ) n3 ) n4 ) n5 ) n6 ) n7 ) n8 ) n9 ) n10 ) n11 ) n12 ) n13 (o := .lst [.ref e3, .ref e6, .ref e8, .ref e10, .ref e12])) n14
      have hpx := hp0.tk (Tk.same (s1.trans sA))
      have hpr := hpr0.st (St.same (s1.trans sA))
      refine ⟨e14, _, rfl, s1.trans sA, free_same s1 nl2, upd_same, by simp; omega, fun v hv => ?_⟩
      rcases List.mem_append.mp hv with hv | hv
      · exact (hw0 v hv).st (St.same sA)
      simp only [List.mem_cons, List.not_mem_nil, or_false] at hv
      rcases hv with rfl | rfl | rfl | rfl | rfl
      · exact pr_one (x := .ref e2) (by walk_at "hp") (cm_rep (n := 2) (y := .ref e1) (by walk_at "hp") (by decide +kernel) (pr_nil (by walk_at "hp")))
      · exact pr_one (x := .ref e5) (by walk_at "hp") (cm_mir (y := .ref e4) (by walk_at "hp") (pr_no (nt_lst (xs := xs0) (by decide +kernel) (by walk_at "hp"))))
      · exact pr_one (x := .ref e7) (by walk_at "hp") (cm_step (w := "go") (y := .str "ab") (b := false) (by walk_at "hp") (.inl rfl) (nm_no (not_name (by decide +kernel)) (by decide +kernel)))
      · exact pr_one (x := .ref e9) (by walk_at "hp") (cm_word (w := "GO") (y := .str "a") (by walk_at "hp") (by decide +kernel) (by decide +kernel) (by decide +kernel) (not_word (by decide +kernel) (by decide +kernel) (by decide +kernel) (by decide +kernel)))
      · exact pr_front (xs := xs0) (x := .non) (by walk_at "hp") hpx hw (by decide) hlen (cm_no (nt_non (by decide +kernel)))
    clear hw0 ln nl hl s1
    clear l xs
    rintro σ' H1 ⟨l, xs, rfl, s1, nl, hl, ln, hw0⟩
    have hxs1 := s1 _ _ hxs
    walk_at "go"
    refine r_cut (fun σ' H' => ∃ (l : Addr) (xs : List V), σ' = [some (.ref b), some (.ref q), some (.ref l)] ∧ Same H H' ∧ H l = none ∧ H' l = some (.lst xs) ∧ xs.length = 32 ∧ ∀ v ∈ xs, PrB K H' 14 v false) ?_ ?_
    · walk_at "go"
      intro e1 n1
      walk_at "go"
      intro e2 n2
      walk_at "go"
      intro e3 n3
      walk_at "go"
      intro e4 n4
      walk_at "go"
      intro e5 n5
      walk_at "go"
      intro e6 n6
      walk_at "go"
      intro e7 n7
      walk_at "go"
      intro e8 n8
      walk_at "go"
      intro e9 n9
      walk_at "go"
      intro e10 n10
      walk_at "go"
      intro e11 n11
      walk_at "go"
      refine r_cat (xs := xs) (by walk_at "hp") upd_same (by simp only [List.length_cons, List.length_nil]; omega) fun e12 n12 => ?_
      walk_at "go"
      have sA := (Same.new (Same.new (Same.new (Same.new (Same.new (Same.new (Same.new (Same.new (Same.new (Same.new (Same.new (Same.new0 n1 ) n2 ) n3 ) n4 ) n5 ) n6 ) n7 ) n8 ) n9 ) n10 ) n11 ) n12 (o := .lst (xs ++ [.ref e2, .ref e4, .ref e6, .ref e8, .ref e10])))
      have nl2 := free_same (Same.new (Same.new (Same.new (Same.new (Same.new (Same.new (Same.new (Same.new (Same.new (Same.new (Same.new0 n1 ) n2 ) n3 ) n4 ) n5 ) n6 ) n7 ) n8 ) n9 ) n10 ) n11 (o := .lst [.ref e2, .ref e4, .ref e6, .ref e8, .ref e10])) n12
      have hpx := hp0.tk (Tk.same (s1.trans sA))
      have hpr := hpr0.st (St.same (s1.trans sA))
      refine ⟨e12, _, rfl, s1.trans sA, free_same s1 nl2, upd_same, by simp; omega, fun v hv => ?_⟩
      rcases List.mem_append.mp hv with hv | hv
      · exact (hw0 v hv).st (St.same sA)
      simp only [List.mem_cons, List.not_mem_nil, or_false] at hv
      rcases hv with rfl | rfl | rfl | rfl | rfl
      · exact pr_one (x := .ref e1) (by walk_at "hp") (cm_repB (x := .bl true) (y := .ref q) (by walk_at "hp") (ni_bl _).now)
      · exact pr_one (x := .ref e3) (by walk_at "hp") (cm_len (ys := [.ref q, .int 1]) (by walk_at "hp") (by decide +kernel) (by simp) (by simp) (by simp))
      · exact pr_one (x := .ref e5) (by walk_at "hp") (cm_step (w := "go") (y := .str "") (b := false) (by walk_at "hp") (.inl rfl) (nm_no (not_name (by decide +kernel)) (by decide +kernel)))
      · exact pr_one (x := .ref e7) (by walk_at "hp") (cm_short (xs := [.str "turn"]) (by walk_at "hp") (by simp))
      · exact pr_one (x := .ref e9) (by walk_at "hp") (cm_no (nt_lst (xs := [.str "go", .str "a"]) (by decide +kernel) (by walk_at "hp")))
    clear hw0 ln nl hl s1
    clear l xs
    rintro σ' H1 ⟨l, xs, rfl, s1, nl, hl, ln, hw0⟩
    have hxs1 := s1 _ _ hxs
    walk_at "go"
    refine r_cut (fun σ' H' => ∃ (l : Addr) (xs : List V), σ' = [some (.ref b), some (.ref q), some (.ref l)] ∧ Same H H' ∧ H l = none ∧ H' l = some (.lst xs) ∧ xs.length = 35 ∧ ∀ v ∈ xs, PrB K H' 14 v false) ?_ ?_
    · walk_at "go"
      intro e1 n1
      walk_at "go"
      intro e2 n2
      walk_at "go"
      intro e3 n3
      walk_at "go"
      intro e4 n4
      walk_at "go"
      intro e5 n5
      walk_at "go"
      intro e6 n6
      walk_at "go"
      intro e7 n7
      walk_at "go"
      intro e8 n8
      walk_at "go"
      intro e9 n9
      walk_at "go"
      intro e10 n10
      walk_at "go"
      refine r_cat (xs := xs) (by walk_at "hp") upd_same (by simp only [List.length_cons, List.length_nil]; omega) fun e11 n11 => ?_
      walk_at "go"
      have sA := (Same.new (Same.new (Same.new (Same.new (Same.new (Same.new (Same.new (Same.new (Same.new (Same.new (Same.new0 n1 ) n2 ) n3 ) n4 ) n5 ) n6 ) n7 ) n8 ) n9 ) n10 ) n11 (o := .lst (xs ++ [.ref e3, .ref e7, .ref e9])))
      have nl2 := free_same (Same.new (Same.new (Same.new (Same.new (Same.new (Same.new (Same.new (Same.new (Same.new (Same.new0 n1 ) n2 ) n3 ) n4 ) n5 ) n6 ) n7 ) n8 ) n9 ) n10 (o := .lst [.ref e3, .ref e7, .ref e9])) n11
      have hpx := hp0.tk (Tk.same (s1.trans sA))
      have hpr := hpr0.st (St.same (s1.trans sA))
      refine ⟨e11, _, rfl, s1.trans sA, free_same s1 nl2, upd_same, by simp; omega, fun v hv => ?_⟩
      rcases List.mem_append.mp hv with hv | hv
      · exact (hw0 v hv).st (St.same sA)
      simp only [List.mem_cons, List.not_mem_nil, or_false] at hv
      rcases hv with rfl | rfl | rfl
      · exact pr_two (x := .ref e1) (y := .ref e2) (a := true) (c := false) (by walk_at "hp") (cm_rep (n := ((10 : Int) ^ (30 : Nat))) (y := .ref q) (by walk_at "hp") (by decide +kernel) (hpr.mono (by decide))) (cm_word (w := "goo") (y := .str "a") (by walk_at "hp") (by decide +kernel) (by decide +kernel) (by decide +kernel) (not_word (by decide +kernel) (by decide +kernel) (by decide +kernel) (by decide +kernel))) rfl
      · exact pr_one (x := .ref e6) (by walk_at "hp") (cm_rep (n := 201) (y := .ref e5) (by walk_at "hp") (by decide +kernel) (pr_one (x := .ref e4) (by walk_at "hp") (cm_step (w := "go") (y := .str "A") (b := false) (by walk_at "hp") (.inl rfl) (nm_no not_nameA (by decide +kernel)))))
      · exact pr_two (x := .ref e8) (y := .int 1) (a := true) (c := false) (by walk_at "hp") (cm_step (w := "go") (y := .str "a") (b := true) (by walk_at "hp") (.inl rfl) (nm_ok isName_aX)) (cm_no (nt_int (by decide +kernel))) rfl
    clear hw0 ln nl hl s1
    clear l xs
    rintro σ' H1 ⟨l, xs, rfl, s1, nl, hl, ln, hw0⟩
    have hxs1 := s1 _ _ hxs
    walk_at "go"
    refine r_cut (fun σ' H' => ∃ (l : Addr) (xs : List V), σ' = [some (.ref b), some (.ref q), some (.ref l)] ∧ Same H H' ∧ H l = none ∧ H' l = some (.lst xs) ∧ xs.length = 38 ∧ ∀ v ∈ xs, PrB K H' 14 v false) ?_ ?_
    · walk_at "go"
      intro e1 n1
      walk_at "go"
      intro e2 n2
      walk_at "go"
      intro e3 n3
      walk_at "go"
      intro e4 n4
      walk_at "go"
      intro e5 n5
      walk_at "go"
      intro e6 n6
      walk_at "go"
      intro e7 n7
      walk_at "go"
      intro e8 n8
      walk_at "go"
      refine r_catT (xs := xs0) (ys := [.ref e7]) (by walk_at "hp") (by walk_at "hp") xs0ne (by simp) (by simp; omega) fun e9 n9 => ?_
      walk_at "go"
      intro e10 n10
      walk_at "go"
      refine r_cat (xs := xs) (by walk_at "hp") upd_same (by simp only [List.length_cons, List.length_nil]; omega) fun e11 n11 => ?_
      walk_at "go"
      have sA := (Same.new (Same.new (Same.new (Same.new (Same.new (Same.new (Same.new (Same.new (Same.new (Same.new (Same.new0 n1 ) n2 ) n3 ) n4 ) n5 ) n6 ) n7 ) n8 ) n9 ) n10 ) n11 (o := .lst (xs ++ [.ref e3, .ref e5, .ref e9])))
      have nl2 := free_same (Same.new (Same.new (Same.new (Same.new (Same.new (Same.new (Same.new (Same.new (Same.new (Same.new0 n1 ) n2 ) n3 ) n4 ) n5 ) n6 ) n7 ) n8 ) n9 ) n10 (o := .lst [.ref e3, .ref e5, .ref e9])) n11
      have hpx := hp0.tk (Tk.same (s1.trans sA))
      have hpr := hpr0.st (St.same (s1.trans sA))
      refine ⟨e11, _, rfl, s1.trans sA, free_same s1 nl2, upd_same, by simp; omega, fun v hv => ?_⟩
      rcases List.mem_append.mp hv with hv | hv
      · exact (hw0 v hv).st (St.same sA)
      simp only [List.mem_cons, List.not_mem_nil, or_false] at hv
      rcases hv with rfl | rfl | rfl
      · exact pr_two (x := .ref e1) (y := .ref e2) (a := true) (c := false) (by walk_at "hp") (cm_turn (n := 13) (by walk_at "hp")) (cm_step (w := "go") (y := .str "ab") (b := false) (by walk_at "hp") (.inl rfl) (nm_no (not_name (by decide +kernel)) (by decide +kernel))) rfl
      · exact pr_two (x := .ref e4) (y := .non) (a := true) (c := false) (by walk_at "hp") (cm_turn (n := (-(10 : Int) ^ (30 : Nat))) (by walk_at "hp")) (cm_no (nt_non (by decide +kernel))) rfl
      · exact pr_snoc (xs := xs0) (x := .ref e7) (by walk_at "hp") hpx hw (by decide) hlen (cm_mir (y := .ref e6) (by walk_at "hp") (pr_nil (by walk_at "hp")))
    clear hw0 ln nl hl s1
    clear l xs
    rintro σ' H1 ⟨l, xs, rfl, s1, nl, hl, ln, hw0⟩
    have hxs1 := s1 _ _ hxs
    walk_at "go"
    refine u_pick (hb.same s1) (by omega) (by omega) fun r H2 r0 r1 bu b2 => ?_
    have hl2 := bu _ _ (hb.ne nl) hl
    obtain ⟨v, hv, ev⟩ := atI_mem (xs := xs) r0 (by omega)
    walk_at "go"
    refine r_ixL (.of hl2) ev ?_
    walk_at "go"
    exact k v H2 ((Same.but s1 b).trans bu) b2 ((hw0 v hv).st (St.bag bu (hb.same s1) b2))
end

set_option Elab.async false
set_option linter.all false
set_option maxRecDepth 100000
set_option maxHeartbeats 8000000
set_option pp.deepTerms false
set_option pp.deepTerms.threshold 12
set_option pp.maxSteps 1200

open PySem PySem.Spec PyProof.Rows L2
theorem Prog.wayIn_take {f : Int} : ∀ {p : Prog} {h : Int} (n : Nat), wayIn f h p → wayIn f h (p.take n)
  | p, h, 0, _ => by rw [take]; trivial
  | .nil, h, n + 1, _ => by rw [take]; trivial
  | .step w m r, h, n + 1, x => by rw [take]; exact wayIn_take (p := r) n x
  | .turn k r, h, n + 1, x => by rw [take]; exact ⟨x.1, wayIn_take n x.2⟩
  | .rep _ _ _, _, _ + 1, x => x.elim
  | .mir _ _, _, _ + 1, x => x.elim
/-- the first so many plain commands of a short program -/
theorem Sh.cut {d n : Nat} {p : Prog} (h : Sh d p) (n1 : 1 ≤ n) (n2 : n ≤ 40) : Wf BC BC 0 ((Prog.unroll 1 p).take n) ∧ 1 ≤ ((Prog.unroll 1 p).take n).len ∧ ((Prog.unroll 1 p).take n).len ≤ n ∧ -1000 ≤ ((Prog.unroll 1 p).take n).head ∧ ((Prog.unroll 1 p).take n).head ≤ 1000 := by
  have wu : Wf BC BC 0 (Prog.unroll 1 p) := Prog.wf_unroll (.inl rfl) h.wf
  have lu := Prog.len_unroll 1 h.wf
  have sp := Prog.len_le_size h.wf
  have l0 := h.l0
  have wt : Wf BC BC 0 ((Prog.unroll 1 p).take n) := Prog.wf_take wu
  have hh := Prog.wayIn_head wt (by decide) (by decide) (Prog.wayIn_take n h.way)
  refine ⟨wt, ?_, ?_, by omega, by omega⟩
  · rw [Prog.len_take]; omega
  · rw [Prog.len_take]; omega
structure K31 (H1 H : Hp) (b : Addr) : Prop where
  bu : But b H1 H
  bag : Bag H b
theorem K31.same {H1 H H' : Hp} {b : Addr} (h : K31 H1 H b) (s : Same H H') : K31 H1 H' b := ⟨h.bu.trans (Same.but s b), h.bag.same s⟩
theorem K31.but {H1 H H' : Hp} {b : Addr} (h : K31 H1 H b) (s : But b H H') (bg : Bag H' b) : K31 H1 H' b := ⟨h.bu.trans s, bg⟩
section
variable {P : Program} {w : World} {K : PySem.W.Frag} {mg : Str → Option Value} {base : Heap}

theorem ok_law {f : Addr} {fd : FuncData} (F : Fun K "law" "law" s_law f fd) (B : Bl mg) (bTuple : mg "tuple" = none) (bRange : mg "range" = none) (h_l_bag_of : Has P w K mg base "_law_bag_of" 1 ["_law_cell"] spBagOf) (h_l_pick : Has P w K mg base "_law_pick" 1 ["_law_bag", "_law_many"] spPick) (h_l_names : Has P w K mg base "_law_names" 2 ["_law_bag"] spNames)
   (h_l_short_three : Has P w K mg base "_law_short_three" 16 ["_law_bag", "_law_names_here"] spThree) (h_l_unroll : Has P w K mg base "_law_unroll" 13 ["_law_piece", "_law_sign"] (spUnLt 13)) (h_l_not_short : Has P w K mg base "_law_not_short" 14 ["_law_bag", "_law_piece", "_law_names_here"] spNotShort) (h_l_bulk : Has P w K mg base "_law_bulk" 13 ["_law_piece"] (spNumLt Prog.size 13))
   (h_l_asked : Has P w K mg base "_law_asked" 32 ["_law_way", "_law_thing"] (spAsked4 K)) (h_l_let : Has P w K mg base "_law_let" 14 ["_law_piece"] spLet) (h_l_no_piece : Has P w K mg base "_law_no_piece" 2 ["_law_bag", "_law_piece"] (spNoPiece K)) : FnOk P w K mg base CX0 33 f fd ["_law_script"] (spLaw K) := by
  refine F.ok sc_law (fun vs H Q E h => ?_) (fun cdv A outer s H vs Q E hr h => ?_)
  · obtain ⟨a, ns, rfl, _⟩ := h
    rfl
  · obtain ⟨a, ns, rfl, hS, hlen, k⟩ := h
    refine ⟨_, (pss_cons (ps_set (i := 1) sc_law.nd rfl (.inl rfl) pe_int)
    (pss_cons (ps_for PassesOwn.never rfl (pi_list (pe_op op_cat (pe_lst (pa_cons (pv 1) pa_nil)) (pe_slice sl_list (pv 0) po_none (po_some pe_int)))) (pg_name (i := 2) sc_law.nd rfl (.inl rfl))
    (pss_cons (ps_set (i := 3) sc_law.nd rfl (.inl rfl) (pe_callH h_l_bag_of (hr.mono (by first | decide | omega)) (pa_cons (pv 2) pa_nil)))
    (pss_cons (ps_set (i := 4) sc_law.nd rfl (.inl rfl) (pe_callH h_l_names (hr.mono (by first | decide | omega)) (pa_cons (pv 3) pa_nil)))
    (pss_cons (ps_set (i := 5) sc_law.nd rfl (.inl rfl) (pe_callH h_l_short_three (hr.mono (by first | decide | omega)) (pa_cons (pv 3) (pa_cons (pv 4) pa_nil))))
    (pss_cons (ps_set (i := 6) sc_law.nd rfl (.inl rfl) (pe_ix (ix_listK (K := K)) (pv 5) (pe_callH h_l_pick (hr.mono (by first | decide | omega)) (pa_cons (pv 3) (pa_cons pe_int pa_nil))) (fun _ _ => rfl)))
    (pss_cons (ps_set (i := 7) sc_law.nd rfl (.inl rfl) (pe_callH h_l_unroll (hr.mono (by first | decide | omega)) (pa_cons (pe_ix (ix_listK (K := K)) (pv 5) pe_int (fun _ _ => rfl)) (pa_cons pe_int pa_nil))))
    (pss_cons (ps_set (i := 8) sc_law.nd rfl (.inl rfl) (pe_callH h_l_not_short (hr.mono (by first | decide | omega)) (pa_cons (pv 3) (pa_cons (pe_callTy call_tupL (by rfl) bTuple (by decide +kernel) (pa_cons (pe_slice sl_list (pv 7) po_none (po_some pe_int)) pa_nil)) (pa_cons (pv 4) pa_nil)))))
    (pss_cutM (ps_set (i := 9) sc_law.nd rfl (.inl rfl) (pe_callH h_l_bulk (hr.mono (by first | decide | omega)) (pa_cons (pv 8) pa_nil)))
    (pss_cutM (ps_for PassesOwn.never rfl (pi_range1 (by rfl) bRange (pa_cons pe_int pa_nil)) (pg_name (i := 10) sc_law.nd rfl (.inl rfl))
    (pss_cons (ps_if (PW.pt (pw_or (pt_cmpR (op_neD hr.units) (pe_callH h_l_asked (hr.mono (by first | decide | omega)) (pa_cons (pv 10) (pa_cons (pv 8) pa_nil))) (pe_tup (pa_cons pe_str (pa_cons (pv 9) pa_nil))) (nomark _)) (pw_or1 (pt_cmpR (op_neD hr.units) (pe_callH h_l_asked (hr.mono (by first | decide | omega)) (pa_cons (pv 10) (pa_cons (pv 6) pa_nil))) (pe_ix (ix_listK (K := K)) (pe_callH h_l_let (hr.mono (by first | decide | omega)) (pa_cons (pv 6) pa_nil)) (pv 10) (fun _ _ => rfl)) (nomark _)))))
    (pss_one (ps_ret pe_bl))
    pss_nil)
    (pss_one (ps_for PassesOwn.never rfl (pi_tup (pe_tup (pa_cons (pe_callTy call_tupL (by rfl) bTuple (by decide +kernel) (pa_cons (pe_slice sl_list (pv 7) po_none (po_some pe_int)) pa_nil)) (pa_cons (pv 8) pa_nil)))) (pg_name (i := 11) sc_law.nd rfl (.inl rfl))
    (pss_one (ps_if (pt_cmpR (op_neD hr.units) (pe_callH h_l_asked (hr.mono (by first | decide | omega)) (pa_cons (pv 10) (pa_cons (pe_callH h_l_no_piece (hr.mono (by first | decide | omega)) (pa_cons (pv 3) (pa_cons (pv 11) pa_nil))) pa_nil))) (pe_tup (pa_cons pe_str pa_nil)) (nomark _))
    (pss_one (ps_ret pe_bl))
    pss_nil))))))
    (pss_cons (ps_set (i := 8) sc_law.nd rfl (.inl rfl) (pe_callH h_l_not_short (hr.mono (by first | decide | omega)) (pa_cons (pv 3) (pa_cons (pe_callTy call_tupL (by rfl) bTuple (by decide +kernel) (pa_cons (pe_slice sl_list (pv 7) po_none (po_some pe_int)) pa_nil)) (pa_cons (pv 4) pa_nil)))))
    (pss_cutM (ps_set (i := 12) sc_law.nd rfl (.inl rfl) (pe_slice sl_tupA (pe_tup (pa_cons (pe_tup (pa_cons pe_str (pa_cons (pe_ix ix_str (pv 4) pe_int (fun _ _ => rfl)) pa_nil))) (pa_cons (pe_tup (pa_cons pe_str (pa_cons (pe_ix ix_str (pv 4) pe_int (fun _ _ => rfl)) pa_nil))) pa_nil))) po_none (po_some (pe_op op_add pe_int (pe_callH h_l_pick (hr.mono (by first | decide | omega)) (pa_cons (pv 3) (pa_cons pe_int pa_nil)))))))
    (pss_one (ps_for PassesOwn.never rfl (pi_tup (pe_tup (pa_cons (pv 8) (pa_cons (pe_op op_catA (pv 12) (pv 8)) (pa_cons (pe_tup (pa_cons (pe_tup (pa_cons pe_str (pa_cons (pv 8) pa_nil))) pa_nil)) pa_nil))))) (pg_name (i := 11) sc_law.nd rfl (.inl rfl))
    (pss_one (ps_if (pt_cmpR (op_neD hr.units) (pe_callH h_l_asked (hr.mono (by first | decide | omega)) (pa_cons (pe_callH h_l_pick (hr.mono (by first | decide | omega)) (pa_cons (pv 3) (pa_cons pe_int pa_nil))) (pa_cons (pv 11) pa_nil))) (pe_tup (pa_cons pe_str (pa_cons (pe_callH h_l_bulk (hr.mono (by first | decide | omega)) (pa_cons (pv 11) pa_nil)) pa_nil))) (nomark _))
    (pss_one (ps_ret pe_bl))
    pss_nil)))))))))))))))
    (pss_one (ps_ret pe_bl)))), ?_⟩
    walk_at "go"
    intro g ng
    walk_at "go"
    refine r_slL ((Same.new0 ng).seq hS) ?_
    intro c nc0
    refine r_cat (xs := [.int _]) (zs := cutV (ns.map V.int) none (some 6)) (by walk_at "hp") upd_same ?_ ?_
    · have := cut_len (xs := ns.map V.int) none (some 6)
      rw [List.length_map] at this
      simp
      omega
    intro l nl
    have sl : ∀ H', Same (upd (upd (upd H g (HO.lst [V.int 217220614060081917079855769140939426604753033029251091203756699118622530823807214160695811002939])) c (.lst (cutV (ns.map V.int) none (some 6)))) l (.lst ([V.int 217220614060081917079855769140939426604753033029251091203756699118622530823807214160695811002939] ++ cutV (ns.map V.int) none (some 6)))) H' → H' l = some (.lst ([V.int 217220614060081917079855769140939426604753033029251091203756699118622530823807214160695811002939] ++ cutV (ns.map V.int) none (some 6))) := fun H' sm => sm _ _ upd_same
    generalize upd (upd (upd H g _) c _) l _ = H0 at *
    refine u_forL (SqL.of (sl H0 (Same.refl _))) (fun i σ H' => ∃ y0 y1 y2 y3 y4 y5 y6 y7 y8 y9 y10 y11 y12 : Option V, σ = [y0, y1, y2, y3, y4, y5, y6, y7, y8, y9, y10, y11, y12] ∧ Same H0 H') ⟨_, _, _, _, _, _, _, _, _, _, _, _, _, rfl, Same.refl _⟩ ?_ ?_ ?_
    · rintro i σ H' _ ⟨y0, y1, y2, y3, y4, y5, y6, y7, y8, y9, y10, y11, y12, rfl, sm⟩
      exact SqL.of (sl H' sm)
    · rintro i x σ H'0 hx ⟨y0, y1, y2, y3, y4, y5, y6, y7, y8, y9, y10, y11, y12, rfl, sm⟩
      obtain ⟨cell, rfl⟩ := cells_int hx
      walk_at "go"
      refine ⟨cell, rfl, fun b H1 nb s1 b1 => ?_⟩
      have kk : K31 H'0 H1 b := ⟨Same.but s1 b, b1⟩
      have fin : ∀ {H2 : Hp}, K31 H'0 H2 b → Same H0 H2 := fun h => sm.trans (Same.but2 (Same.refl _) nb h.bu)
      clear s1 b1
      walk_at "go"
      refine ⟨b, rfl, kk.bag, fun z H2 bu2 b2 hz => ?_⟩
      replace kk := kk.but bu2 b2
      walk_at "go"
      refine ⟨b, z, rfl, b2, hz, fun ls q1 q2 q3 p1 p2 p3 H3 nls bu3 b3 els hq1 hq2 hq3 sh1 sh2 sh3 => ?_⟩
      replace kk := kk.but bu3 b3
      have lsb : ls ≠ b := by
        rintro rfl
        obtain ⟨_, _, _, e, _⟩ := b2
        rw [nls] at e
        cases e
      clear bu2 bu3 nls
      walk_at "go"
      refine u_pick b3 (by decide) (by decide) fun r3 H4 r30 r31 bu4 b4 => ?_
      have tk4 := Tk.but bu4 b3
      replace kk := kk.but bu4 b4
      replace els := bu4 _ _ lsb els
      replace hq1 := hq1.tk tk4
      obtain ⟨qg, pg, eg, hqg, shg⟩ : ∃ qg pg, atI [V.ref q1, .ref q2, .ref q3] r3 = some (.ref qg) ∧ PrIs H4 qg pg ∧ Sh 6 pg := by
        rcases (by omega : r3 = 0 ∨ r3 = 1 ∨ r3 = 2) with rfl | rfl | rfl
        · exact ⟨q1, p1, rfl, hq1, sh1⟩
        · exact ⟨q2, p2, rfl, hq2.tk tk4, sh2⟩
        · exact ⟨q3, p3, rfl, hq3.tk tk4, sh3⟩
      clear hq2 hq3 sh2 sh3 tk4 bu4 b3
      refine r_ixL (.of els) eg ?_
      walk_at "go"
      refine ⟨q1, p1, 1, rfl, .inl rfl, hq1, WfL.mono (Int.le_refl _) (Int.le_refl _) (by decide) sh1.wf, by have := sh1.sz; omega, fun l2 xs H5 nl2 s5 el2 hxs => ?_⟩
      have l2b := kk.bag.ne nl2
      replace kk := kk.same s5
      replace hqg := hqg.tk (Tk.same s5)
      clear s5 nl2 els eg r30 r31 hq1
      walk_at "go"
      intro l3 nl3
      walk_at "go"
      intro q4 nq4
      have s6 := Same.new (Same.new0 nl3 (o := .lst (cutV xs none (some 40)))) nq4 (o := .tup (cutV xs none (some 40)))
      have e4 : (upd (upd H5 l3 (.lst (cutV xs none (some 40)))) q4 (.tup (cutV xs none (some 40)))) q4 = some (.tup (cutV xs none (some 40))) := upd_same
      have hq4 : PrIs (upd (upd H5 l3 (.lst (cutV xs none (some 40)))) q4 (.tup (cutV xs none (some 40)))) q4 ((Prog.unroll 1 p1).take 40) := by
        refine ⟨_, upd_same, ?_⟩
        have h := (hxs.tk (Tk.same s6)).take (n := 40)
        rw [← cut_take] at h
        exact h
      replace kk := kk.same s6
      replace hqg := hqg.tk (Tk.same s6)
      replace el2 := s6 _ _ el2
      replace hxs := hxs.tk (Tk.same s6)
      generalize upd (upd H5 l3 _) q4 _ = H6 at *
      clear e4 s6 nl3 nq4
      clear H5
      obtain ⟨c1, c2, c3, c4, c5⟩ := sh1.cut (n := 40) (by decide) (by decide)
      walk_at "go"
      refine ⟨b, q4, z, _, rfl, kk.bag, hz, hq4, c1, c2, c3, c4, c5, fun qf pf H7 bu7 b7 hqf wf lf1 lf2 nsf => ?_⟩
      have tk7 := Tk.but bu7 kk.bag
      replace kk := kk.but bu7 b7
      replace hqg := hqg.tk tk7
      replace el2 := bu7 _ _ l2b el2
      replace hxs := hxs.tk tk7
      have nsf' := nsf.no wf
      clear hq4 c1 c2 c3 c4 c5 tk7 bu7 b7
      have wf12 : Wf BC BC 12 pf := WfL.mono (Int.le_refl _) (Int.le_refl _) (by decide) wf
      try dsimp only
      refine r_cut (fun σ H' => σ = [y0, y1, some (.int cell), some (.ref b), some (.str z), some (.ref ls), some (.ref qg), some (.ref l2), some (.ref qf), some (.int pf.size), y10, y11, y12] ∧ H' = H7) ?_ ?_
      · walk_at "go"
        refine ⟨qf, pf, rfl, hqf, wf12, by omega, by decide, ?_⟩
        walk_at "go"
        exact ⟨rfl, rfl⟩
      rintro σ Hx ⟨rfl, rfl⟩
      try dsimp only
      refine r_cut (fun σ H' => ∃ y10 y11 : Option V, σ = [y0, y1, some (.int cell), some (.ref b), some (.str z), some (.ref ls), some (.ref qg), some (.ref l2), some (.ref qf), some (.int pf.size), y10, y11, y12] ∧ K31 H'0 H' b ∧ PrIs H' qf pf ∧ H' l2 = some (.lst xs) ∧ PrAt H' (Prog.unroll 1 p1) xs) ?_ ?_
      · walk_at "go"
        refine u_for1 ⟨by decide, by decide⟩ (fun i σ H' => ∃ y10 y11 : Option V, σ = [y0, y1, some (.int cell), some (.ref b), some (.str z), some (.ref ls), some (.ref qg), some (.ref l2), some (.ref qf), some (.int pf.size), y10, y11, y12] ∧ K31 H'0 H' b ∧ PrIs H' qf pf ∧ PrIs H' qg pg ∧ H' l2 = some (.lst xs) ∧ PrAt H' (Prog.unroll 1 p1) xs) ⟨_, _, rfl, kk, hqf, hqg, el2, hxs⟩ ?_ ?_
        · clear kk hqf hqg el2 hxs
          rintro i σ H8 hi ⟨y10, y11, rfl, kk, hqf, hqg, el2, hxs⟩
          walk_at "go"
          refine ⟨i, _, rfl, by omega, by omega, .inr (.inl ⟨qf, pf, rfl, hqf, wf12, lf1, by omega, nsf', fun t1 H9 s9 et1 => ?_⟩)⟩
          walk_at "go"
          intro t2 nt2
          have s10 := s9.trans (Same.new0 nt2 (o := .tup [.str "short", .int pf.size]))
          refine r_neShort (h_keep et1 nt2) upd_same rfl ?_
          replace kk := kk.same s10
          replace hqf := hqf.tk (Tk.same s10)
          replace hqg := hqg.tk (Tk.same s10)
          replace el2 := s10 _ _ el2
          replace hxs := hxs.tk (Tk.same s10)
          generalize upd H9 t2 (.tup [.str "short", .int pf.size]) = Ha at *
          clear s10 et1 s9 nt2
          clear H8
          walk_at "go"
          refine ⟨i, _, rfl, by omega, by omega, .inl ⟨qg, pg, rfl, hqg, shg.mono (by decide), fun t3 Hb sb et3 => ?_⟩⟩
          replace kk := kk.same sb
          replace hqf := hqf.tk (Tk.same sb)
          replace hqg := hqg.tk (Tk.same sb)
          replace el2 := sb _ _ el2
          replace hxs := hxs.tk (Tk.same sb)
          walk_at "go"
          refine ⟨qg, pg, rfl, hqg, shg.mono (by decide), fun lt u0 u1 u2 u3 Hc sc elt eu0 eu1 eu2 eu3 => ?_⟩
          replace kk := kk.same sc
          replace hqf := hqf.tk (Tk.same sc)
          replace hqg := hqg.tk (Tk.same sc)
          replace el2 := sc _ _ el2
          replace hxs := hxs.tk (Tk.same sc)
          replace et3 := sc _ _ et3
          obtain ⟨u, eu, hu⟩ : ∃ u, atI [V.ref u0, .ref u1, .ref u2, .ref u3] (i : Int) = some (.ref u) ∧ Hc u = some (.tup [.int 1, .int (letN pg (i : Int).toNat)]) := by
            rcases (by omega : i = 0 ∨ i = 1 ∨ i = 2 ∨ i = 3) with rfl | rfl | rfl | rfl
            · exact ⟨u0, rfl, eu0⟩
            · exact ⟨u1, rfl, eu1⟩
            · exact ⟨u2, rfl, eu2⟩
            · exact ⟨u3, rfl, eu3⟩
          clear eu0 eu1 eu2 eu3
          walk_at "go"
          refine r_ixL (.of elt) eu ?_
          refine r_neOneI et3 hu rfl ?_
          clear elt eu hu et3 sb sc
          clear Ha Hb
          walk_at "go"
          intro l3 nl3
          walk_at "go"
          intro q4 nq4
          have s6 := Same.new (Same.new0 nl3 (o := .lst (cutV xs none (some 6)))) nq4 (o := .tup (cutV xs none (some 6)))
          have hq4 : PrIs (upd (upd Hc l3 (.lst (cutV xs none (some 6)))) q4 (.tup (cutV xs none (some 6)))) q4 ((Prog.unroll 1 p1).take 6) := by
            refine ⟨_, upd_same, ?_⟩
            have h := (hxs.tk (Tk.same s6)).take (n := 6)
            rw [← cut_take] at h
            exact h
          replace kk := kk.same s6
          replace hqf := hqf.tk (Tk.same s6)
          replace hqg := hqg.tk (Tk.same s6)
          replace el2 := s6 _ _ el2
          replace hxs := hxs.tk (Tk.same s6)
          generalize upd (upd Hc l3 _) q4 _ = H6 at *
          clear s6 nl3 nq4
          clear Hc
          obtain ⟨c1, c2, c3, c4, c5⟩ := sh1.cut (n := 6) (by decide) (by decide)
          walk_at "go"
          intro tt ntt
          have sy := Same.new0 ntt (o := .tup [.ref q4, .ref qf])
          have ett : upd H6 tt (.tup [.ref q4, .ref qf]) tt = some (.tup [.ref q4, .ref qf]) := upd_same
          replace kk := kk.same sy
          replace hq4 := hq4.tk (Tk.same sy)
          replace hqf := hqf.tk (Tk.same sy)
          replace hqg := hqg.tk (Tk.same sy)
          replace el2 := sy _ _ el2
          replace hxs := hxs.tk (Tk.same sy)
          generalize upd H6 tt (.tup [.ref q4, .ref qf]) = Hd at *
          clear sy ntt
          clear H6
          walk_at "go"
          refine u_forT (.of ett) (fun j σ H' => ∃ y11 : Option V, σ = [y0, y1, some (.int cell), some (.ref b), some (.str z), some (.ref ls), some (.ref qg), some (.ref l2), some (.ref qf), some (.int pf.size), some (.int i), y11, y12] ∧ But b Hd H' ∧ Bag H' b) ⟨_, rfl, But.refl _ _, kk.bag⟩ ?_ ?_ ?_
          · rintro j σ H' _ ⟨y11, rfl, bu, bg⟩
            exact .of (Tk.but bu kk.bag _ _ ett)
          · rintro j x σ H' hx ⟨y11, rfl, bu, bg⟩
            have tk := Tk.but bu kk.bag
            obtain ⟨qx, px, rfl, hqx, wx, lx1, lx2⟩ : ∃ qx px, x = .ref qx ∧ PrIs H' qx px ∧ Wf BC BC 12 px ∧ 1 ≤ px.len ∧ px.len ≤ 4000 := by
              have hm := List.mem_of_getElem? hx
              simp only [List.mem_cons, List.not_mem_nil, or_false] at hm
              rcases hm with rfl | rfl
              · exact ⟨q4, _, rfl, hq4.tk tk, WfL.mono (Int.le_refl _) (Int.le_refl _) (by decide) c1, c2, by omega⟩
              · exact ⟨qf, pf, rfl, hqf.tk tk, wf12, lf1, by omega⟩
            walk_at "go"
            refine ⟨b, qx, px, rfl, bg, hqx, wx, lx1, lx2, fun v He bue bge hv => ?_⟩
            walk_at "go"
            refine ⟨i, v, rfl, by omega, by omega, .inr (.inr ⟨hv, fun t4 Hf sf et4 => ?_⟩)⟩
            walk_at "go"
            intro t5 nt5
            refine r_neProg (h_keep et4 nt5) upd_same ?_
            walk_at "go"
            have sg := sf.trans (Same.new0 nt5 (o := .tup [.str "program"]))
            exact ⟨_, rfl, (bu.trans bue).trans (Same.but sg b), bge.same sg⟩
          · rintro σ H' ⟨y11, rfl, bu, bg⟩
            have tk := Tk.but bu kk.bag
            exact ⟨_, _, rfl, kk.but bu bg, hqf.tk tk, hqg.tk tk, bu _ _ l2b el2, hxs.tk tk⟩
        · rintro σ H' ⟨y10, y11, rfl, kk, hqf, hqg, el2, hxs⟩
          exact ⟨_, _, rfl, kk, hqf, el2, hxs⟩
      clear kk hqf hqg el2 hxs
      rintro σ H8 ⟨z10, z11, rfl, kk, hqf, el2, hxs⟩
      clear nsf' wf12 hqf nsf wf lf1 lf2
      walk_at "go"
      intro l3 nl3
      walk_at "go"
      intro q4 nq4
      have s6 := Same.new (Same.new0 nl3 (o := .lst (cutV xs none (some 30)))) nq4 (o := .tup (cutV xs none (some 30)))
      have hq4 : PrIs (upd (upd H8 l3 (.lst (cutV xs none (some 30)))) q4 (.tup (cutV xs none (some 30)))) q4 ((Prog.unroll 1 p1).take 30) := by
        refine ⟨_, upd_same, ?_⟩
        have h := (hxs.tk (Tk.same s6)).take (n := 30)
        rw [← cut_take] at h
        exact h
      replace kk := kk.same s6
      generalize upd (upd H8 l3 _) q4 _ = H6 at *
      clear s6 nl3 nq4 el2 hxs
      clear H8
      obtain ⟨c1, c2, c3, c4, c5⟩ := sh1.cut (n := 30) (by decide) (by decide)
      walk_at "go"
      refine ⟨b, q4, z, _, rfl, kk.bag, hz, hq4, c1, c2, by omega, c4, c5, fun q5 p5 H9 bu9 b9 hq5 wf lf1 lf2 nsf => ?_⟩
      replace kk := kk.but bu9 b9
      clear hq4 c1 c2 c3 c4 c5 bu9 b9
      clear H6
      try dsimp only
      refine r_cut (fun σ H' => ∃ (q6 : Addr) (p6 : Prog), σ = [y0, y1, some (.int cell), some (.ref b), some (.str z), some (.ref ls), some (.ref qg), some (.ref l2), some (.ref q5), some (.int pf.size), z10, z11, some (.ref q6)] ∧ K31 H'0 H' b ∧ PrIs H' q5 p5 ∧ PrIs H' q6 (p6) ∧ Wf BC BC 3 p6 ∧ p6.len ≤ 2 ∧ NSh (p6.app p5)) ?_ ?_
      · walk_at "go"
        obtain ⟨n0, hn0, in0⟩ := names_at hz (by decide : (0 : Int) ≤ 0) (by decide)
        obtain ⟨n1, hn1, in1⟩ := names_at hz (by decide : (0 : Int) ≤ 1) (by decide)
        refine r_ixS (names_small hz) hn0 ?_
        walk_at "go"
        intro e1 ne1
        walk_at "go"
        refine r_ixS (names_small hz) hn1 ?_
        walk_at "go"
        intro e2 ne2
        walk_at "go"
        intro e3 ne3
        walk_at "go"
        have s3 := Same.new (Same.new (Same.new0 ne1) ne2) ne3 (o := .tup [.ref e1, .ref e2])
        have g3 : (upd (upd (upd H9 e1 (.tup [.str "go", .str ⟨#[n0]⟩])) e2 (.tup [.str "slip", .str ⟨#[n1]⟩])) e3 (.tup [.ref e1, .ref e2])) e3 = some (.tup [.ref e1, .ref e2]) := upd_same
        have hp3 : PrAt (upd (upd (upd H9 e1 (.tup [.str "go", .str ⟨#[n0]⟩])) e2 (.tup [.str "slip", .str ⟨#[n1]⟩])) e3 (.tup [.ref e1, .ref e2])) (.step "go" ⟨#[n0]⟩ (.step "slip" ⟨#[n1]⟩ .nil)) [.ref e1, .ref e2] := ⟨e1, _, rfl, by walk_at "hp", e2, _, rfl, by walk_at "hp", rfl⟩
        replace kk := kk.same s3
        replace hq5 := hq5.tk (Tk.same s3)
        generalize upd _ e3 _ = Ha at *
        refine u_pick kk.bag (by decide) (by decide) fun y Hb y0 y1 bub bb => ?_
        have tkb := Tk.but bub kk.bag
        obtain ⟨j, hj⟩ : ∃ j : Nat, 1 + y = j := ⟨(1 + y).toNat, by omega⟩
        walk_at "go"
        rw [hj]
        refine r_slAT (tkb _ _ g3) rfl fun q6 Hc sc hq6 => ?_
        walk_at "go"
        have w0 : Wf BC BC 3 (.step "go" ⟨#[n0]⟩ (.step "slip" ⟨#[n1]⟩ .nil)) := WfL.step_iff.mpr ⟨.inl rfl, in0, WfL.step_iff.mpr ⟨.inr (.inr (.inr rfl)), in1, WfL.nil⟩⟩
        refine ⟨q6, Prog.take j (.step "go" ⟨#[n0]⟩ (.step "slip" ⟨#[n1]⟩ .nil)), rfl, (kk.but bub bb).same sc, (hq5.tk tkb).tk (Tk.same sc), ⟨_, hq6, ((hp3.tk tkb).take).tk (Tk.same sc)⟩, Prog.wf_take w0, by rw [Prog.len_take]; show min j 2 ≤ 2; omega, ?_⟩
        rcases (by omega : j = 1 ∨ j = 2) with rfl | rfl
        · exact nsf.step
        · exact nsf.step.step
      clear kk hq5
      rintro σ Ha ⟨q6, p6, rfl, kk, hq5, hq6, w6, l6, ns6⟩
      obtain ⟨xs5, ex5, hp5⟩ := id hq5
      obtain ⟨xs6, ex6, hp6⟩ := hq6
      have le5 := hp5.length
      have le6 := hp6.length
      walk_at "go"
      refine r_catAT ex6 ex5 (by omega) fun q7 Hb sb eq7 => ?_
      have hq7 : PrIs Hb q7 (p6.app p5) := ⟨_, eq7, (hp6.app hp5).tk (Tk.same sb)⟩
      replace kk := kk.same sb
      replace hq5 := hq5.tk (Tk.same sb)
      clear ex5 hp5 ex6 hp6 eq7 sb
      walk_at "go"
      intro t1 nt1
      walk_at "go"
      intro q8 nq8
      have s8 := Same.new (Same.new0 nt1 (o := .tup [.str "mirror", .ref q5])) nq8 (o := .tup [.ref t1])
      obtain ⟨xs5, ex5, hp5⟩ := hq5.tk (Tk.same s8)
      have hq8 : PrIs (upd (upd Hb t1 (.tup [.str "mirror", .ref q5])) q8 (.tup [.ref t1])) q8 (.mir p5 .nil) := ⟨_, upd_same, t1, q5, xs5, [], rfl, by walk_at "hp", ex5, hp5, rfl⟩
      replace kk := kk.same s8
      replace hq5 := hq5.tk (Tk.same s8)
      replace hq7 := hq7.tk (Tk.same s8)
      generalize upd (upd Hb t1 _) q8 _ = Hc at *
      clear ex5 hp5 s8 nt1 nq8
      walk_at "go"
      intro tt ntt
      have sy := Same.new0 ntt (o := .tup [.ref q5, .ref q7, .ref q8])
      have ett : upd Hc tt (.tup [.ref q5, .ref q7, .ref q8]) tt = some (.tup [.ref q5, .ref q7, .ref q8]) := upd_same
      replace kk := kk.same sy
      replace hq5 := hq5.tk (Tk.same sy)
      replace hq7 := hq7.tk (Tk.same sy)
      replace hq8 := hq8.tk (Tk.same sy)
      generalize upd Hc tt (.tup [.ref q5, .ref q7, .ref q8]) = Hd at *
      clear sy ntt
      walk_at "go"
      refine u_forT (.of ett) (fun j σ H' => ∃ y11 : Option V, σ = [y0, y1, some (.int cell), some (.ref b), some (.str z), some (.ref ls), some (.ref qg), some (.ref l2), some (.ref q5), some (.int pf.size), z10, y11, some (.ref q6)] ∧ But b Hd H' ∧ Bag H' b) ⟨_, rfl, But.refl _ _, kk.bag⟩ ?_ ?_ ?_
      · rintro j σ H' _ ⟨y11, rfl, bu, bg⟩
        exact .of (Tk.but bu kk.bag _ _ ett)
      · rintro j x σ H' hx ⟨y11, rfl, bu, bg⟩
        have tk := Tk.but bu kk.bag
        obtain ⟨qx, px, rfl, hqx, wx, lx1, lx2, nx⟩ : ∃ qx px, x = .ref qx ∧ PrIs H' qx px ∧ Wf BC BC 12 px ∧ 1 ≤ px.len ∧ px.len ≤ 4000 ∧ NSh px := by
          have hm := List.mem_of_getElem? hx
          simp only [List.mem_cons, List.not_mem_nil, or_false] at hm
          rcases hm with rfl | rfl | rfl
          · exact ⟨q5, _, rfl, hq5.tk tk, WfL.mono (Int.le_refl _) (Int.le_refl _) (by decide) wf, lf1, by omega, nsf⟩
          · exact ⟨q7, _, rfl, hq7.tk tk, WfL.mono (Int.le_refl _) (Int.le_refl _) (by decide) (w6.app wf), by rw [Prog.len_app]; omega, by rw [Prog.len_app]; omega, ns6⟩
          · have w8 : Wf BC BC 4 (.mir p5 .nil) := ⟨⟨lf1, by omega⟩, wf, WfL.nil⟩
            exact ⟨q8, _, rfl, hq8.tk tk, WfL.mono (Int.le_refl _) (Int.le_refl _) (by decide) w8, by show 1 ≤ 1; decide, by show 1 ≤ 4000; decide, nsf.mir⟩
        walk_at "go"
        refine u_pick bg (by decide) (by decide) fun y He y0 y1 bue bge => ?_
        have tke := Tk.but bue bg
        walk_at "go"
        refine ⟨y, _, rfl, y0, y1, .inr (.inl ⟨qx, px, rfl, hqx.tk tke, wx, lx1, lx2, nx.no wx, fun t4 Hf sf et4 => ?_⟩)⟩
        walk_at "go"
        refine ⟨qx, px, rfl, (hqx.tk tke).tk (Tk.same sf), wx, lx2, by decide, ?_⟩
        walk_at "go"
        intro t5 nt5
        refine r_neShort (h_keep et4 nt5) upd_same rfl ?_
        walk_at "go"
        have sg := sf.trans (Same.new0 nt5 (o := .tup [.str "short", .int px.size]))
        exact ⟨_, rfl, (bu.trans bue).trans (Same.but sg b), bge.same sg⟩
      · rintro σ H' ⟨y11, rfl, bu, bg⟩
        exact ⟨_, _, _, _, _, _, _, _, _, _, _, _, _, rfl, fin (kk.but bu bg)⟩
    · rintro σ H' ⟨y0, y1, y2, y3, y4, y5, y6, y7, y8, y9, y10, y11, y12, rfl, sm⟩
      walk_at "go"
      exact k H'
end

set_option Elab.async false
set_option linter.all false
set_option maxRecDepth 100000
set_option maxHeartbeats 8000000

open PySem PySem.Spec PyProof.Rows L2
structure BlA (mg : Str → Option Value) : Prop where
  b_ValueError : mg "ValueError" = none
  b_abs : mg "abs" = none
  b_enumerate : mg "enumerate" = none
  b_sorted : mg "sorted" = none
theorem all_mk {l : PySem.W.OpenLaw} {w : World} {K : PySem.W.Frag} {h : Heap} {mg : Str → Option Value} {fa f1 f2 f3 f4 f5 f6 f7 f8 f9 f10 f11 f12 f13 f14 f15 f16 f17 f18 f19 f20 f21 f22 f23 f24 f25 f26 f27 f28 f29 f30 f31 f32 f33 f34 f35 f36 f37 f38 f39 f40 f41 f42 f43 f44 f45 f46 : Addr} (X : K.In h) (G : h.Ns mainGlobals mg) (hfa : mg "law" = some (.ref fa))
    {od25 an25 od38 an38 od42 an42 od46 an46 : Option Addr} {sl25 sl38 sl42 sl46 : Array (Option Value)} {oc25 kV25 dc25 pm25 cd25 ct25 oc38 kV38 dc38 pm38 cd38 ct38 oc42 kV42 dc42 pm42 cd42 ct42 oc46 kV46 dc46 pm46 cd46 ct46 : Value}
    {C : Addr} {cdP : ClassData} {dS : Addr} {esS : Array DictEntry} {nS : Nat} {t1S t2S t3S t4S : Tok} {tMC tMH : Tok} {dDR : Addr} {t1DR t2DR : Tok} {nDR : Nat} {sDR : Array (Option Value)} {ddDR : Option Addr} {A_AngleError : Addr} {cd_AngleError : ClassData} {A_InvalidProgram : Addr} {cd_InvalidProgram : ClassData} {A_InvalidCount : Addr} {cd_InvalidCount : ClassData} {A_InvalidIndex : Addr} {cd_InvalidIndex : ClassData} {A_NotAChain : Addr} {cd_NotAChain : ClassData} {A_NotShort : Addr} {cd_NotShort : ClassData}
    {DT25 : Addr} {dt25_0 : Tok} {dn25 : Nat} {ds25 : Array (Option Value)} {dd25 : Option Addr}
    (aC : PySem.W.nsIn K mainGlobals "Poly" = some (some (.ref C)))
    (pgP : PySem.W.plainGet K C Str.empty = true)
    (hdP : PySem.W.hasDictIn K C = true)
    (poP : PySem.W.plainOver K C = true)
    (saP : PySem.W.findIn K (.ref C) "__setattr__" = some (some (.builtin "object.__setattr__")))
    (mk_Poly : PySem.W.makesIn K C = true)
    (kc_Poly : PySem.W.keepIn K (.ref C) = true)
    (nRP : PySem.W.findIn K (.ref C) "rows" = some none)
    (sfP : PySem.W.selfFirst K C = true)
    (icP : PySem.W.clsIn K C = some cdP)
    (moP : cdP.mro = [.ref C, .type "object"])
    (caP : PySem.W.findIn K (.ref C) "__class__" = some (some (.builtin "object.__class__")))
    (cnP : PySem.W.specialIn K (.builtin "object.__class__") "__get__" = some (some (.builtin "getset_descriptor.__get__")))
    (ctP : PySem.W.takesIn K (.builtin "object.__class__") = some true)
    (cmP : PySem.W.mroIn K C (.type "object") = some true)
    (tyP : PySem.W.typeIn K (.ref C) = some (.type "type"))
    (s1P : PySem.W.subIn K (.type "int") (.ref C) = some false)
    (s2P : PySem.W.subIn K (.type "bool") (.ref C) = some false)
    (s3P : PySem.W.subIn K (.type "str") (.ref C) = some false)
    (s4P : PySem.W.subIn K (.type "list") (.ref C) = some false)
    (s5P : PySem.W.subIn K (.type "tuple") (.ref C) = some false)
    (s6P : PySem.W.subIn K (.type "NoneType") (.ref C) = some false)
    (t1P : PySem.W.subIn K (.ref C) (.type "int") = some false)
    (t2P : PySem.W.subIn K (.ref C) (.type "bool") = some false)
    (t3P : PySem.W.subIn K (.ref C) (.type "list") = some false)
    (t4P : PySem.W.subIn K (.ref C) (.type "tuple") = some false)
    (xAngleErrorg : PySem.W.nsIn K mainGlobals "AngleError" = some (some (.ref A_AngleError)))
    (xAngleErrorxi : PySem.W.excIn K A_AngleError [.type "ValueError", .type "Exception", .type "BaseException", .type "object"] "ValueError.__new__" = true)
    (xAngleErrork : PySem.W.keepIn K (.ref A_AngleError) = true)
    (xAngleErrorb : PySem.W.subIn K (.ref A_AngleError) (.type "BaseException") = some true)
    (xAngleErrort : PySem.W.typeIn K (.ref A_AngleError) = some (.type "type"))
    (xAngleErrorga : PySem.W.findIn K (.ref A_AngleError) "__getattribute__" = some (some (.builtin "BaseException.__getattribute__")))
    (xAngleErrorgt : PySem.W.findIn K (.ref A_AngleError) "__getattr__" = some none)
    (xAngleErrord : PySem.W.hasDictIn K A_AngleError = true)
    (xAngleErrorcl : PySem.W.findIn K (.ref A_AngleError) "__class__" = some (some (.builtin "object.__class__")))
    (xAngleErrorcn : PySem.W.specialIn K (.builtin "object.__class__") "__get__" = some (some (.builtin "getset_descriptor.__get__")))
    (xAngleErrorct : PySem.W.takesIn K (.builtin "object.__class__") = some true)
    (xAngleErrormr : PySem.W.mroIn K A_AngleError (.type "object") = some true)
    (xAngleErrorcs : PySem.W.clsIn K A_AngleError = some cd_AngleError)
    (xInvalidProgramg : PySem.W.nsIn K mainGlobals "InvalidProgram" = some (some (.ref A_InvalidProgram)))
    (xInvalidProgramxi : PySem.W.excIn K A_InvalidProgram [.type "ValueError", .type "Exception", .type "BaseException", .type "object"] "ValueError.__new__" = true)
    (xInvalidProgramk : PySem.W.keepIn K (.ref A_InvalidProgram) = true)
    (xInvalidProgramb : PySem.W.subIn K (.ref A_InvalidProgram) (.type "BaseException") = some true)
    (xInvalidProgramt : PySem.W.typeIn K (.ref A_InvalidProgram) = some (.type "type"))
    (xInvalidProgramga : PySem.W.findIn K (.ref A_InvalidProgram) "__getattribute__" = some (some (.builtin "BaseException.__getattribute__")))
    (xInvalidProgramgt : PySem.W.findIn K (.ref A_InvalidProgram) "__getattr__" = some none)
    (xInvalidProgramd : PySem.W.hasDictIn K A_InvalidProgram = true)
    (xInvalidProgramcl : PySem.W.findIn K (.ref A_InvalidProgram) "__class__" = some (some (.builtin "object.__class__")))
    (xInvalidProgramcn : PySem.W.specialIn K (.builtin "object.__class__") "__get__" = some (some (.builtin "getset_descriptor.__get__")))
    (xInvalidProgramct : PySem.W.takesIn K (.builtin "object.__class__") = some true)
    (xInvalidProgrammr : PySem.W.mroIn K A_InvalidProgram (.type "object") = some true)
    (xInvalidProgramcs : PySem.W.clsIn K A_InvalidProgram = some cd_InvalidProgram)
    (xInvalidCountg : PySem.W.nsIn K mainGlobals "InvalidCount" = some (some (.ref A_InvalidCount)))
    (xInvalidCountxi : PySem.W.excIn K A_InvalidCount [.type "ValueError", .type "Exception", .type "BaseException", .type "object"] "ValueError.__new__" = true)
    (xInvalidCountk : PySem.W.keepIn K (.ref A_InvalidCount) = true)
    (xInvalidCountb : PySem.W.subIn K (.ref A_InvalidCount) (.type "BaseException") = some true)
    (xInvalidCountt : PySem.W.typeIn K (.ref A_InvalidCount) = some (.type "type"))
    (xInvalidCountga : PySem.W.findIn K (.ref A_InvalidCount) "__getattribute__" = some (some (.builtin "BaseException.__getattribute__")))
    (xInvalidCountgt : PySem.W.findIn K (.ref A_InvalidCount) "__getattr__" = some none)
    (xInvalidCountd : PySem.W.hasDictIn K A_InvalidCount = true)
    (xInvalidCountcl : PySem.W.findIn K (.ref A_InvalidCount) "__class__" = some (some (.builtin "object.__class__")))
    (xInvalidCountcn : PySem.W.specialIn K (.builtin "object.__class__") "__get__" = some (some (.builtin "getset_descriptor.__get__")))
    (xInvalidCountct : PySem.W.takesIn K (.builtin "object.__class__") = some true)
    (xInvalidCountmr : PySem.W.mroIn K A_InvalidCount (.type "object") = some true)
    (xInvalidCountcs : PySem.W.clsIn K A_InvalidCount = some cd_InvalidCount)
    (xInvalidIndexg : PySem.W.nsIn K mainGlobals "InvalidIndex" = some (some (.ref A_InvalidIndex)))
    (xInvalidIndexxi : PySem.W.excIn K A_InvalidIndex [.type "ValueError", .type "Exception", .type "BaseException", .type "object"] "ValueError.__new__" = true)
    (xInvalidIndexk : PySem.W.keepIn K (.ref A_InvalidIndex) = true)
    (xInvalidIndexb : PySem.W.subIn K (.ref A_InvalidIndex) (.type "BaseException") = some true)
    (xInvalidIndext : PySem.W.typeIn K (.ref A_InvalidIndex) = some (.type "type"))
    (xInvalidIndexga : PySem.W.findIn K (.ref A_InvalidIndex) "__getattribute__" = some (some (.builtin "BaseException.__getattribute__")))
    (xInvalidIndexgt : PySem.W.findIn K (.ref A_InvalidIndex) "__getattr__" = some none)
    (xInvalidIndexd : PySem.W.hasDictIn K A_InvalidIndex = true)
    (xInvalidIndexcl : PySem.W.findIn K (.ref A_InvalidIndex) "__class__" = some (some (.builtin "object.__class__")))
    (xInvalidIndexcn : PySem.W.specialIn K (.builtin "object.__class__") "__get__" = some (some (.builtin "getset_descriptor.__get__")))
    (xInvalidIndexct : PySem.W.takesIn K (.builtin "object.__class__") = some true)
    (xInvalidIndexmr : PySem.W.mroIn K A_InvalidIndex (.type "object") = some true)
    (xInvalidIndexcs : PySem.W.clsIn K A_InvalidIndex = some cd_InvalidIndex)
    (xNotAChaing : PySem.W.nsIn K mainGlobals "NotAChain" = some (some (.ref A_NotAChain)))
    (xNotAChainxi : PySem.W.excIn K A_NotAChain [.type "ValueError", .type "Exception", .type "BaseException", .type "object"] "ValueError.__new__" = true)
    (xNotAChaink : PySem.W.keepIn K (.ref A_NotAChain) = true)
    (xNotAChainb : PySem.W.subIn K (.ref A_NotAChain) (.type "BaseException") = some true)
    (xNotAChaint : PySem.W.typeIn K (.ref A_NotAChain) = some (.type "type"))
    (xNotAChainga : PySem.W.findIn K (.ref A_NotAChain) "__getattribute__" = some (some (.builtin "BaseException.__getattribute__")))
    (xNotAChaingt : PySem.W.findIn K (.ref A_NotAChain) "__getattr__" = some none)
    (xNotAChaind : PySem.W.hasDictIn K A_NotAChain = true)
    (xNotAChaincl : PySem.W.findIn K (.ref A_NotAChain) "__class__" = some (some (.builtin "object.__class__")))
    (xNotAChaincn : PySem.W.specialIn K (.builtin "object.__class__") "__get__" = some (some (.builtin "getset_descriptor.__get__")))
    (xNotAChainct : PySem.W.takesIn K (.builtin "object.__class__") = some true)
    (xNotAChainmr : PySem.W.mroIn K A_NotAChain (.type "object") = some true)
    (xNotAChaincs : PySem.W.clsIn K A_NotAChain = some cd_NotAChain)
    (yNotShortg : PySem.W.nsIn K mainGlobals "NotShort" = some (some (.ref A_NotShort)))
    (yNotShortoe : oexIn K A_NotShort = true)
    (yNotShortsa : PySem.W.findIn K (.ref A_NotShort) "__setattr__" = some (some (.builtin "object.__setattr__")))
    (yNotShortk : PySem.W.keepIn K (.ref A_NotShort) = true)
    (yNotShortb : PySem.W.subIn K (.ref A_NotShort) (.type "BaseException") = some true)
    (yNotShortt : PySem.W.typeIn K (.ref A_NotShort) = some (.type "type"))
    (yNotShortga : PySem.W.findIn K (.ref A_NotShort) "__getattribute__" = some (some (.builtin "BaseException.__getattribute__")))
    (yNotShortgt : PySem.W.findIn K (.ref A_NotShort) "__getattr__" = some none)
    (yNotShortd : PySem.W.hasDictIn K A_NotShort = true)
    (yNotShortcl : PySem.W.findIn K (.ref A_NotShort) "__class__" = some (some (.builtin "object.__class__")))
    (yNotShortcn : PySem.W.specialIn K (.builtin "object.__class__") "__get__" = some (some (.builtin "getset_descriptor.__get__")))
    (yNotShortct : PySem.W.takesIn K (.builtin "object.__class__") = some true)
    (yNotShortmr : PySem.W.mroIn K A_NotShort (.type "object") = some true)
    (yNotShortcs : PySem.W.clsIn K A_NotShort = some cd_NotShort)
    (yNotShortno : PySem.W.findIn K (.ref A_NotShort) "amount" = some none)
    (uNotShort_AngleError : PySem.W.subIn K (.ref A_NotShort) (.ref A_AngleError) = some true)
    (uNotShort_TValueError : PySem.W.subIn K (.ref A_NotShort) (.type "ValueError") = some true)
    (uInvalidProgram_AngleError : PySem.W.subIn K (.ref A_InvalidProgram) (.ref A_AngleError) = some true)
    (uInvalidProgram_TValueError : PySem.W.subIn K (.ref A_InvalidProgram) (.type "ValueError") = some true)
    (uInvalidProgram_Ttuple : PySem.W.subIn K (.ref A_InvalidProgram) (.type "tuple") = some false)
    (uInvalidProgram_NotShort : PySem.W.subIn K (.ref A_InvalidProgram) (.ref A_NotShort) = some false)
    (uInvalidProgram_NotShortn : (Value.ref A_InvalidProgram == Value.ref A_NotShort) = false)
    (uNotShort_InvalidProgram : PySem.W.subIn K (.ref A_NotShort) (.ref A_InvalidProgram) = some false)
    (uNotShort_InvalidProgramn : (Value.ref A_NotShort == Value.ref A_InvalidProgram) = false)
    (uNotShort_InvalidCount : PySem.W.subIn K (.ref A_NotShort) (.ref A_InvalidCount) = some false)
    (uNotShort_InvalidCountn : (Value.ref A_NotShort == Value.ref A_InvalidCount) = false)
    (uNotShort_InvalidIndex : PySem.W.subIn K (.ref A_NotShort) (.ref A_InvalidIndex) = some false)
    (uNotShort_InvalidIndexn : (Value.ref A_NotShort == Value.ref A_InvalidIndex) = false)
    (uNotShort_NotAChain : PySem.W.subIn K (.ref A_NotShort) (.ref A_NotAChain) = some false)
    (uNotShort_NotAChainn : (Value.ref A_NotShort == Value.ref A_NotAChain) = false)
    (uInvalidProgram_InvalidCount : PySem.W.subIn K (.ref A_InvalidProgram) (.ref A_InvalidCount) = some false)
    (uInvalidProgram_InvalidCountn : (Value.ref A_InvalidProgram == Value.ref A_InvalidCount) = false)
    (uInvalidProgram_InvalidIndex : PySem.W.subIn K (.ref A_InvalidProgram) (.ref A_InvalidIndex) = some false)
    (uInvalidProgram_InvalidIndexn : (Value.ref A_InvalidProgram == Value.ref A_InvalidIndex) = false)
    (uInvalidProgram_NotAChain : PySem.W.subIn K (.ref A_InvalidProgram) (.ref A_NotAChain) = some false)
    (uInvalidProgram_NotAChainn : (Value.ref A_InvalidProgram == Value.ref A_NotAChain) = false)
    (a1 : PySem.W.nsIn K mainGlobals "_law_bag_of" = some (some (.ref f1)))  (k1 : PySem.W.keepIn K (.ref f1) = true) (E1 : ∃ fd : FuncData, Fun K "_law_bag_of" "_law_bag_of" s_l_bag_of f1 fd)
    (a2 : PySem.W.nsIn K mainGlobals "_law_pick" = some (some (.ref f2)))  (k2 : PySem.W.keepIn K (.ref f2) = true) (E2 : ∃ fd : FuncData, Fun K "_law_pick" "_law_pick" s_l_pick f2 fd)
    (a3 : PySem.W.nsIn K mainGlobals "_law_names" = some (some (.ref f3)))  (k3 : PySem.W.keepIn K (.ref f3) = true) (E3 : ∃ fd : FuncData, Fun K "_law_names" "_law_names" s_l_names f3 fd)
    (a4 : PySem.W.nsIn K mainGlobals "_law_jar_of" = some (some (.ref f4)))  (k4 : PySem.W.keepIn K (.ref f4) = true) (E4 : ∃ fd : FuncData, Fun K "_law_jar_of" "_law_jar_of" s_l_jar_of f4 fd)
    (a5 : PySem.W.nsIn K mainGlobals "_law_times" = some (some (.ref f5)))  (k5 : PySem.W.keepIn K (.ref f5) = true) (E5 : ∃ fd : FuncData, Fun K "_law_times" "_law_times" s_l_times f5 fd)
    (a6 : PySem.W.nsIn K mainGlobals "_law_terms_of" = some (some (.ref f6)))  (k6 : PySem.W.keepIn K (.ref f6) = true) (E6 : ∃ fd : FuncData, Fun K "_law_terms_of" "_law_terms_of" s_l_terms_of f6 fd)
    (a7 : PySem.W.nsIn K mainGlobals "_law_row" = some (some (.ref f7)))  (k7 : PySem.W.keepIn K (.ref f7) = true) (E7 : ∃ fd : FuncData, Fun K "_law_row" "_law_row" s_l_row f7 fd)
    (a8 : PySem.W.nsIn K mainGlobals "_law_bulk" = some (some (.ref f8)))  (k8 : PySem.W.keepIn K (.ref f8) = true) (E8 : ∃ fd : FuncData, Fun K "_law_bulk" "_law_bulk" s_l_bulk f8 fd)
    (a9 : PySem.W.nsIn K mainGlobals "_law_unroll" = some (some (.ref f9)))  (k9 : PySem.W.keepIn K (.ref f9) = true) (E9 : ∃ fd : FuncData, Fun K "_law_unroll" "_law_unroll" s_l_unroll f9 fd)
    (a10 : PySem.W.nsIn K mainGlobals "_law_fits" = some (some (.ref f10)))  (k10 : PySem.W.keepIn K (.ref f10) = true) (E10 : ∃ fd : FuncData, Fun K "_law_fits" "_law_fits" s_l_fits f10 fd)
    (a11 : PySem.W.nsIn K mainGlobals "_law_curt" = some (some (.ref f11)))  (k11 : PySem.W.keepIn K (.ref f11) = true) (E11 : ∃ fd : FuncData, Fun K "_law_curt" "_law_curt" s_l_curt f11 fd)
    (a12 : PySem.W.nsIn K mainGlobals "_law_full" = some (some (.ref f12)))  (k12 : PySem.W.keepIn K (.ref f12) = true) (E12 : ∃ fd : FuncData, Fun K "_law_full" "_law_full" s_l_full f12 fd)
    (a13 : PySem.W.nsIn K mainGlobals "_law_deep" = some (some (.ref f13)))  (k13 : PySem.W.keepIn K (.ref f13) = true) (E13 : ∃ fd : FuncData, Fun K "_law_deep" "_law_deep" s_l_deep f13 fd)
    (a14 : PySem.W.nsIn K mainGlobals "_law_short_three" = some (some (.ref f14)))  (k14 : PySem.W.keepIn K (.ref f14) = true) (E14 : ∃ fd : FuncData, Fun K "_law_short_three" "_law_short_three" s_l_short_three f14 fd)
    (a15 : PySem.W.nsIn K mainGlobals "_law_great_int" = some (some (.ref f15)))  (k15 : PySem.W.keepIn K (.ref f15) = true) (E15 : ∃ fd : FuncData, Fun K "_law_great_int" "_law_great_int" s_l_great_int f15 fd)
    (a16 : PySem.W.nsIn K mainGlobals "_law_aim" = some (some (.ref f16)))  (k16 : PySem.W.keepIn K (.ref f16) = true) (E16 : ∃ fd : FuncData, Fun K "_law_aim" "_law_aim" s_l_aim f16 fd)
    (a17 : PySem.W.nsIn K mainGlobals "_law_not_short" = some (some (.ref f17)))  (k17 : PySem.W.keepIn K (.ref f17) = true) (E17 : ∃ fd : FuncData, Fun K "_law_not_short" "_law_not_short" s_l_not_short f17 fd)
    (a18 : PySem.W.nsIn K mainGlobals "_law_is_int" = some (some (.ref f18)))  (k18 : PySem.W.keepIn K (.ref f18) = true) (E18 : ∃ fd : FuncData, Fun K "_law_is_int" "_law_is_int" s_l_is_int f18 fd)
    (a19 : PySem.W.nsIn K mainGlobals "is_command" = some (some (.ref f19)))  (k19 : PySem.W.keepIn K (.ref f19) = true) (E19 : ∃ fd : FuncData, Fun K "is_command" "is_command" s_is_command f19 fd)
    (a20 : PySem.W.nsIn K mainGlobals "is_integer" = some (some (.ref f20)))  (k20 : PySem.W.keepIn K (.ref f20) = true) (E20 : ∃ fd : FuncData, Fun K "is_integer" "is_integer" s_is_integer f20 fd)
    (a21 : PySem.W.nsIn K mainGlobals "is_name" = some (some (.ref f21)))  (k21 : PySem.W.keepIn K (.ref f21) = true) (E21 : ∃ fd : FuncData, Fun K "is_name" "is_name" s_is_name f21 fd)
    (a22 : PySem.W.nsIn K mainGlobals "is_program" = some (some (.ref f22)))  (k22 : PySem.W.keepIn K (.ref f22) = true) (E22 : ∃ fd : FuncData, Fun K "is_program" "is_program" s_is_program f22 fd)
    (a23 : PySem.W.nsIn K mainGlobals "check_program" = some (some (.ref f23)))  (k23 : PySem.W.keepIn K (.ref f23) = true) (E23 : ∃ fd : FuncData, Fun K "check_program" "check_program" s_check_program f23 fd)
    (a24 : PySem.W.nsIn K mainGlobals "raw_size" = some (some (.ref f24)))  (k24 : PySem.W.keepIn K (.ref f24) = true) (E24 : ∃ fd : FuncData, Fun K "raw_size" "raw_size" s_raw_size f24 fd)
    (a25 : PySem.W.nsIn K mainGlobals "plain_row" = some (some (.ref f25))) (l25 : K.lookup f25 = some ⟨oc25, od25, .func (PySem.W.fnOf "plain_row" "plain_row" (defArgs s_plain_row) (defBody s_plain_row) (defScope s_plain_row) (.ref DT25) kV25 dc25 pm25 an25 cd25 ct25), sl25⟩) (c25 : PySem.W.codeIn K cd25 "plain_row" = true) (k25 : PySem.W.keepIn K (.ref f25) = true)
    (d25 : K.lookup DT25 = some ⟨.type "tuple", dd25, .seq #[.int 1 dt25_0] dn25, ds25⟩)
    (a26 : PySem.W.nsIn K mainGlobals "raw_is_short" = some (some (.ref f26)))  (k26 : PySem.W.keepIn K (.ref f26) = true) (E26 : ∃ fd : FuncData, Fun K "raw_is_short" "raw_is_short" s_raw_is_short f26 fd)
    (a27 : PySem.W.findIn K (.ref A_NotShort) "__init__" = some (some (.ref f27))) (i27 : PySem.W.isFn K (.ref f27) = true)
     (k27 : PySem.W.keepIn K (.ref f27) = true) (E27 : ∃ fd : FuncData, Fun K "__init__" "NotShort.__init__" s_NotShort___init__ f27 fd)
    (a28 : PySem.W.nsIn K mainGlobals "check_short" = some (some (.ref f28)))  (k28 : PySem.W.keepIn K (.ref f28) = true) (E28 : ∃ fd : FuncData, Fun K "check_short" "check_short" s_check_short f28 fd)
    (a29 : PySem.W.nsIn K mainGlobals "unrolled" = some (some (.ref f29)))  (k29 : PySem.W.keepIn K (.ref f29) = true) (E29 : ∃ fd : FuncData, Fun K "unrolled" "unrolled" s_unrolled f29 fd)
    (a30 : PySem.W.nsIn K mainGlobals "raw_steps" = some (some (.ref f30)))  (k30 : PySem.W.keepIn K (.ref f30) = true) (E30 : ∃ fd : FuncData, Fun K "raw_steps" "raw_steps" s_raw_steps f30 fd)
    (a31 : PySem.W.nsIn K mainGlobals "add_step" = some (some (.ref f31)))  (k31 : PySem.W.keepIn K (.ref f31) = true) (E31 : ∃ fd : FuncData, Fun K "add_step" "add_step" s_add_step f31 fd)
    (a32 : PySem.W.nsIn K mainGlobals "is_term" = some (some (.ref f32)))  (k32 : PySem.W.keepIn K (.ref f32) = true) (E32 : ∃ fd : FuncData, Fun K "is_term" "is_term" s_is_term f32 fd)
    (a33 : PySem.W.nsIn K mainGlobals "summed" = some (some (.ref f33)))  (k33 : PySem.W.keepIn K (.ref f33) = true) (E33 : ∃ fd : FuncData, Fun K "summed" "summed" s_summed f33 fd)
    (a34 : PySem.W.findIn K (.ref C) "__init__" = some (some (.ref f34))) (i34 : PySem.W.isFn K (.ref f34) = true)
     (k34 : PySem.W.keepIn K (.ref f34) = true) (E34 : ∃ fd : FuncData, Fun K "__init__" "Poly.__init__" s_Poly___init__ f34 fd)
    (a35 : PySem.W.findIn K (.ref C) "__len__" = some (some (.ref f35))) (i35 : PySem.W.isFn K (.ref f35) = true)
     (k35 : PySem.W.keepIn K (.ref f35) = true) (E35 : ∃ fd : FuncData, Fun K "__len__" "Poly.__len__" s_Poly___len__ f35 fd)
    (a36 : PySem.W.nsIn K mainGlobals "place_from" = some (some (.ref f36)))  (k36 : PySem.W.keepIn K (.ref f36) = true) (E36 : ∃ fd : FuncData, Fun K "place_from" "place_from" s_place_from f36 fd)
    (a37 : PySem.W.nsIn K mainGlobals "raw_effect" = some (some (.ref f37)))  (k37 : PySem.W.keepIn K (.ref f37) = true) (E37 : ∃ fd : FuncData, Fun K "raw_effect" "raw_effect" s_raw_effect f37 fd)
    (a38 : PySem.W.nsIn K mainGlobals "effect" = some (some (.ref f38))) (l38 : K.lookup f38 = some ⟨oc38, od38, .func (PySem.W.fnOf "effect" "effect" (defArgs s_effect) (defBody s_effect) (defScope s_effect) .none kV38 dc38 pm38 an38 cd38 ct38), sl38⟩) (c38 : PySem.W.codeIn K cd38 "effect" = true) (k38 : PySem.W.keepIn K (.ref f38) = true)
    (a39 : PySem.W.nsIn K mainGlobals "raw_places" = some (some (.ref f39)))  (k39 : PySem.W.keepIn K (.ref f39) = true) (E39 : ∃ fd : FuncData, Fun K "raw_places" "raw_places" s_raw_places f39 fd)
    (a40 : PySem.W.nsIn K mainGlobals "places" = some (some (.ref f40)))  (k40 : PySem.W.keepIn K (.ref f40) = true) (E40 : ∃ fd : FuncData, Fun K "places" "places" s_places f40 fd)
    (a41 : PySem.W.nsIn K mainGlobals "raw_strokes" = some (some (.ref f41)))  (k41 : PySem.W.keepIn K (.ref f41) = true) (E41 : ∃ fd : FuncData, Fun K "raw_strokes" "raw_strokes" s_raw_strokes f41 fd)
    (a42 : PySem.W.nsIn K mainGlobals "strokes" = some (some (.ref f42))) (l42 : K.lookup f42 = some ⟨oc42, od42, .func (PySem.W.fnOf "strokes" "strokes" (defArgs s_strokes) (defBody s_strokes) (defScope s_strokes) .none kV42 dc42 pm42 an42 cd42 ct42), sl42⟩) (c42 : PySem.W.codeIn K cd42 "strokes" = true) (k42 : PySem.W.keepIn K (.ref f42) = true)
    (a43 : PySem.W.nsIn K mainGlobals "_law_asked" = some (some (.ref f43)))  (k43 : PySem.W.keepIn K (.ref f43) = true) (E43 : ∃ fd : FuncData, Fun K "_law_asked" "_law_asked" s_l_asked f43 fd)
    (a44 : PySem.W.nsIn K mainGlobals "_law_let" = some (some (.ref f44)))  (k44 : PySem.W.keepIn K (.ref f44) = true) (E44 : ∃ fd : FuncData, Fun K "_law_let" "_law_let" s_l_let f44 fd)
    (a45 : PySem.W.nsIn K mainGlobals "_law_no_piece" = some (some (.ref f45)))  (k45 : PySem.W.keepIn K (.ref f45) = true) (E45 : ∃ fd : FuncData, Fun K "_law_no_piece" "_law_no_piece" s_l_no_piece f45 fd)
    (a46 : PySem.W.nsIn K mainGlobals "law" = some (some (.ref f46))) (l46 : K.lookup f46 = some ⟨oc46, od46, .func (PySem.W.fnOf "law" "law" (defArgs s_law) (defBody s_law) (defScope s_law) .none kV46 dc46 pm46 an46 cd46 ct46), sl46⟩) (c46 : PySem.W.codeIn K cd46 "law" = true) (k46 : PySem.W.keepIn K (.ref f46) = true)
    (z_ValueError : PySem.W.nsIn K mainGlobals "ValueError" = some none) (z_abs : PySem.W.nsIn K mainGlobals "abs" = some none) (z_all : PySem.W.nsIn K mainGlobals "all" = some none) (z_bool : PySem.W.nsIn K mainGlobals "bool" = some none) (z_enumerate : PySem.W.nsIn K mainGlobals "enumerate" = some none) (z_int : PySem.W.nsIn K mainGlobals "int" = some none) (z_isinstance : PySem.W.nsIn K mainGlobals "isinstance" = some none) (z_len : PySem.W.nsIn K mainGlobals "len" = some none) (z_list : PySem.W.nsIn K mainGlobals "list" = some none) (z_max : PySem.W.nsIn K mainGlobals "max" = some none) (z_min : PySem.W.nsIn K mainGlobals "min" = some none) (z_range : PySem.W.nsIn K mainGlobals "range" = some none) (z_sorted : PySem.W.nsIn K mainGlobals "sorted" = some none) (z_str : PySem.W.nsIn K mainGlobals "str" = some none) (z_sum : PySem.W.nsIn K mainGlobals "sum" = some none) (z_tuple : PySem.W.nsIn K mainGlobals "tuple" = some none)
    (aS : PySem.W.nsIn K mainGlobals "STEPS" = some (some (.ref dS)))
    (lS : K.lookup dS = some ⟨.type "dict", none, .dict esS nS, #[]⟩)
    (kS : PySem.W.KeysLit w.params esS.toList)
    (oS : (dS == sysModules) = false)
    (e1S : PySem.W.nsIn K dS "go" = some (some (.int 1 t1S)))
    (e2S : PySem.W.nsIn K dS "back" = some (some (.int (-1) t2S)))
    (e3S : PySem.W.nsIn K dS "hop" = some (some (.int 1 t3S)))
    (e4S : PySem.W.nsIn K dS "slip" = some (some (.int (-1) t4S)))
    (wS : wordsOnly K dS = true)
    (mMC : PySem.W.nsIn K mainGlobals "MOST_COMMANDS" = some (some (.int 200 tMC)))
    (mMH : PySem.W.nsIn K mainGlobals "MOST_HEADING" = some (some (.int 12 tMH)))
    (aDR : PySem.W.nsIn K mainGlobals "DRAWN" = some (some (.ref dDR)))
    (lDR : K.lookup dDR = some ⟨.type "tuple", ddDR, .seq #[.str "go" t1DR, .str "back" t2DR] nDR, sDR⟩)
    : ∃ fd : FuncData, (∀ (s : Shared) (v : Value), BindsTo s fd ⟨[v], []⟩ [("_law_script", v)]) ∧ ∀ base : Heap, K.In base → base.Ns mainGlobals mg → FnOk l.prog w K mg base CX0 33 fa fd ["_law_script"] (spLaw K) := by
  cases (hfa.symm.trans (PySem.W.mg_of X G a46))
  obtain ⟨_, F_l_bag_of⟩ := E1
  have b_l_bag_of := F_l_bag_of.binds (ps := ["_law_cell"]) fun _ _ _ _ _ _ us hl => match us, hl with | [_], _ => rfl
  obtain ⟨_, F_l_pick⟩ := E2
  have b_l_pick := F_l_pick.binds (ps := ["_law_bag", "_law_many"]) fun _ _ _ _ _ _ us hl => match us, hl with | [_, _], _ => rfl
  obtain ⟨_, F_l_names⟩ := E3
  have b_l_names := F_l_names.binds (ps := ["_law_bag"]) fun _ _ _ _ _ _ us hl => match us, hl with | [_], _ => rfl
  obtain ⟨_, F_l_jar_of⟩ := E4
  have b_l_jar_of := F_l_jar_of.binds (ps := ["_law_rows"]) fun _ _ _ _ _ _ us hl => match us, hl with | [_], _ => rfl
  obtain ⟨_, F_l_times⟩ := E5
  have b_l_times := F_l_times.binds (ps := ["_law_one", "_law_two"]) fun _ _ _ _ _ _ us hl => match us, hl with | [_, _], _ => rfl
  obtain ⟨_, F_l_terms_of⟩ := E6
  have b_l_terms_of := F_l_terms_of.binds (ps := ["_law_jar"]) fun _ _ _ _ _ _ us hl => match us, hl with | [_], _ => rfl
  obtain ⟨_, F_l_row⟩ := E7
  have b_l_row := F_l_row.binds (ps := ["_law_bag", "_law_names_here", "_law_steps", "_law_drawn", "_law_far"]) fun _ _ _ _ _ _ us hl => match us, hl with | [_, _, _, _, _], _ => rfl
  obtain ⟨_, F_l_bulk⟩ := E8
  have b_l_bulk := F_l_bulk.binds (ps := ["_law_piece"]) fun _ _ _ _ _ _ us hl => match us, hl with | [_], _ => rfl
  obtain ⟨_, F_l_unroll⟩ := E9
  have b_l_unroll := F_l_unroll.binds (ps := ["_law_piece", "_law_sign"]) fun _ _ _ _ _ _ us hl => match us, hl with | [_, _], _ => rfl
  obtain ⟨_, F_l_fits⟩ := E10
  have b_l_fits := F_l_fits.binds (ps := ["_law_piece", "_law_steps", "_law_drawn", "_law_far"]) fun _ _ _ _ _ _ us hl => match us, hl with | [_, _, _, _], _ => rfl
  obtain ⟨_, F_l_curt⟩ := E11
  have b_l_curt := F_l_curt.binds (ps := ["_law_bag", "_law_names_here", "_law_steps", "_law_drawn", "_law_far"]) fun _ _ _ _ _ _ us hl => match us, hl with | [_, _, _, _, _], _ => rfl
  obtain ⟨_, F_l_full⟩ := E12
  have b_l_full := F_l_full.binds (ps := ["_law_bag", "_law_piece", "_law_names_here"]) fun _ _ _ _ _ _ us hl => match us, hl with | [_, _, _], _ => rfl
  obtain ⟨_, F_l_deep⟩ := E13
  have b_l_deep := F_l_deep.binds (ps := ["_law_bag", "_law_names_here"]) fun _ _ _ _ _ _ us hl => match us, hl with | [_, _], _ => rfl
  obtain ⟨_, F_l_short_three⟩ := E14
  have b_l_short_three := F_l_short_three.binds (ps := ["_law_bag", "_law_names_here"]) fun _ _ _ _ _ _ us hl => match us, hl with | [_, _], _ => rfl
  obtain ⟨_, F_l_great_int⟩ := E15
  have b_l_great_int := F_l_great_int.binds (ps := ["_law_bag", "_law_digits"]) fun _ _ _ _ _ _ us hl => match us, hl with | [_, _], _ => rfl
  obtain ⟨_, F_l_aim⟩ := E16
  have b_l_aim := F_l_aim.binds (ps := ["_law_piece"]) fun _ _ _ _ _ _ us hl => match us, hl with | [_], _ => rfl
  obtain ⟨_, F_l_not_short⟩ := E17
  have b_l_not_short := F_l_not_short.binds (ps := ["_law_bag", "_law_piece", "_law_names_here"]) fun _ _ _ _ _ _ us hl => match us, hl with | [_, _, _], _ => rfl
  obtain ⟨_, F_l_is_int⟩ := E18
  have b_l_is_int := F_l_is_int.binds (ps := ["_law_thing"]) fun _ _ _ _ _ _ us hl => match us, hl with | [_], _ => rfl
  obtain ⟨_, F_is_command⟩ := E19
  have b_is_command := F_is_command.binds (ps := ["value"]) fun _ _ _ _ _ _ us hl => match us, hl with | [_], _ => rfl
  obtain ⟨_, F_is_integer⟩ := E20
  have b_is_integer := F_is_integer.binds (ps := ["value"]) fun _ _ _ _ _ _ us hl => match us, hl with | [_], _ => rfl
  obtain ⟨_, F_is_name⟩ := E21
  have b_is_name := F_is_name.binds (ps := ["value"]) fun _ _ _ _ _ _ us hl => match us, hl with | [_], _ => rfl
  obtain ⟨_, F_is_program⟩ := E22
  have b_is_program := F_is_program.binds (ps := ["value"]) fun _ _ _ _ _ _ us hl => match us, hl with | [_], _ => rfl
  obtain ⟨_, F_check_program⟩ := E23
  have b_check_program := F_check_program.binds (ps := ["value"]) fun _ _ _ _ _ _ us hl => match us, hl with | [_], _ => rfl
  obtain ⟨_, F_raw_size⟩ := E24
  have b_raw_size := F_raw_size.binds (ps := ["program"]) fun _ _ _ _ _ _ us hl => match us, hl with | [_], _ => rfl
  have F_plain_row : FunD K "plain_row" "plain_row" (defArgs s_plain_row) (defBody s_plain_row) (defScope s_plain_row) [.int 1] [] f25 (PySem.W.fnOf "plain_row" "plain_row" (defArgs s_plain_row) (defBody s_plain_row) (defScope s_plain_row) (.ref DT25) kV25 dc25 pm25 an25 cd25 ct25) := ⟨⟨_, _, _, _, _, _, _, _, _, _, rfl, l25, c25, .inr ⟨by simp, DT25, _, [_], dn25, rfl, d25, rfl, .cons ⟨_, rfl⟩ (.nil)⟩, .inl rfl⟩, k25⟩
  obtain ⟨dsplain_row_1, vdplain_row_1, bdplain_row_1⟩ := F_plain_row.binds1 (ps := ["program", "sign"]) 1 0 (by simp) (by simp) fun _ _ _ _ _ _ _ us its hl hi => match us, its, hl, hi with | [_], [_], _, _ => ⟨_, rfl, rfl⟩
  obtain ⟨dsplain_row_2, vdplain_row_2, bdplain_row_2⟩ := F_plain_row.binds1 (ps := ["program", "sign"]) 2 1 (by simp) (by simp) fun _ _ _ _ _ _ _ us its hl hi => match us, its, hl, hi with | [_, _], [_], _, _ => ⟨_, rfl, rfl⟩
  have b_plain_row : Binds K (PySem.W.fnOf "plain_row" "plain_row" (defArgs s_plain_row) (defBody s_plain_row) (defScope s_plain_row) (.ref DT25) kV25 dc25 pm25 an25 cd25 ct25) ["program", "sign"] [] := by cases vdplain_row_2; exact bdplain_row_2
  obtain ⟨_, F_raw_is_short⟩ := E26
  have b_raw_is_short := F_raw_is_short.binds (ps := ["program"]) fun _ _ _ _ _ _ us hl => match us, hl with | [_], _ => rfl
  obtain ⟨_, F_NotShort___init__⟩ := E27
  have b_NotShort___init__ := F_NotShort___init__.binds (ps := ["self", "amount"]) fun _ _ _ _ _ _ us hl => match us, hl with | [_, _], _ => rfl
  obtain ⟨_, F_check_short⟩ := E28
  have b_check_short := F_check_short.binds (ps := ["program"]) fun _ _ _ _ _ _ us hl => match us, hl with | [_], _ => rfl
  obtain ⟨_, F_unrolled⟩ := E29
  have b_unrolled := F_unrolled.binds (ps := ["program"]) fun _ _ _ _ _ _ us hl => match us, hl with | [_], _ => rfl
  obtain ⟨_, F_raw_steps⟩ := E30
  have b_raw_steps := F_raw_steps.binds (ps := ["program"]) fun _ _ _ _ _ _ us hl => match us, hl with | [_], _ => rfl
  obtain ⟨_, F_add_step⟩ := E31
  have b_add_step := F_add_step.binds (ps := ["numbers", "step"]) fun _ _ _ _ _ _ us hl => match us, hl with | [_, _], _ => rfl
  obtain ⟨_, F_is_term⟩ := E32
  have b_is_term := F_is_term.binds (ps := ["value"]) fun _ _ _ _ _ _ us hl => match us, hl with | [_], _ => rfl
  obtain ⟨_, F_summed⟩ := E33
  have b_summed := F_summed.binds (ps := ["terms"]) fun _ _ _ _ _ _ us hl => match us, hl with | [_], _ => rfl
  obtain ⟨_, F_Poly___init__⟩ := E34
  have b_Poly___init__ := F_Poly___init__.binds (ps := ["self", "terms"]) fun _ _ _ _ _ _ us hl => match us, hl with | [_, _], _ => rfl
  obtain ⟨_, F_Poly___len__⟩ := E35
  have b_Poly___len__ := F_Poly___len__.binds (ps := ["self"]) fun _ _ _ _ _ _ us hl => match us, hl with | [_], _ => rfl
  obtain ⟨_, F_place_from⟩ := E36
  have b_place_from := F_place_from.binds (ps := ["numbers"]) fun _ _ _ _ _ _ us hl => match us, hl with | [_], _ => rfl
  obtain ⟨_, F_raw_effect⟩ := E37
  have b_raw_effect := F_raw_effect.binds (ps := ["program"]) fun _ _ _ _ _ _ us hl => match us, hl with | [_], _ => rfl
  have F_effect := fun_mk (st := s_effect) l38 c38 k38
  have b_effect := F_effect.binds (ps := ["program"]) fun _ _ _ _ _ _ us hl => match us, hl with | [_], _ => rfl
  obtain ⟨_, F_raw_places⟩ := E39
  have b_raw_places := F_raw_places.binds (ps := ["program"]) fun _ _ _ _ _ _ us hl => match us, hl with | [_], _ => rfl
  obtain ⟨_, F_places⟩ := E40
  have b_places := F_places.binds (ps := ["program"]) fun _ _ _ _ _ _ us hl => match us, hl with | [_], _ => rfl
  obtain ⟨_, F_raw_strokes⟩ := E41
  have b_raw_strokes := F_raw_strokes.binds (ps := ["program"]) fun _ _ _ _ _ _ us hl => match us, hl with | [_], _ => rfl
  have F_strokes := fun_mk (st := s_strokes) l42 c42 k42
  have b_strokes := F_strokes.binds (ps := ["program"]) fun _ _ _ _ _ _ us hl => match us, hl with | [_], _ => rfl
  obtain ⟨_, F_l_asked⟩ := E43
  have b_l_asked := F_l_asked.binds (ps := ["_law_way", "_law_thing"]) fun _ _ _ _ _ _ us hl => match us, hl with | [_, _], _ => rfl
  obtain ⟨_, F_l_let⟩ := E44
  have b_l_let := F_l_let.binds (ps := ["_law_piece"]) fun _ _ _ _ _ _ us hl => match us, hl with | [_], _ => rfl
  obtain ⟨_, F_l_no_piece⟩ := E45
  have b_l_no_piece := F_l_no_piece.binds (ps := ["_law_bag", "_law_piece"]) fun _ _ _ _ _ _ us hl => match us, hl with | [_, _], _ => rfl
  have F_law := fun_mk (st := s_law) l46 c46 k46
  have B_Bl : Bl mg := ⟨PySem.W.mg_none_of X G z_isinstance, PySem.W.mg_none_of X G z_int, PySem.W.mg_none_of X G z_bool, PySem.W.mg_none_of X G z_str, PySem.W.mg_none_of X G z_tuple, PySem.W.mg_none_of X G z_list, PySem.W.mg_none_of X G z_len, PySem.W.mg_none_of X G z_all, PySem.W.mg_none_of X G z_range, PySem.W.mg_none_of X G z_sum, PySem.W.mg_none_of X G z_max, PySem.W.mg_none_of X G z_min⟩
  have B_BlA : BlA mg := ⟨PySem.W.mg_none_of X G z_ValueError, PySem.W.mg_none_of X G z_abs, PySem.W.mg_none_of X G z_enumerate, PySem.W.mg_none_of X G z_sorted⟩
  refine ⟨PySem.W.fnOf "law" "law" (defArgs s_law) (defBody s_law) (defScope s_law) .none kV46 dc46 pm46 an46 cd46 ct46, fun s v => .of_eq rfl, fun base _ _ => ?_⟩
  have g_Poly := PySem.W.mg_of X G aC
  have G_Poly : PolyT K mg C := ⟨⟨pgP, hdP, poP, saP⟩, nRP, g_Poly, sfP, by unfold PySem.W.plainMro; rw [icP]; simp [moP], caP, cnP, ctP, cmP, ⟨_, icP⟩, tyP, s1P, s2P, s3P, s4P, s5P, s6P, t1P, t2P, t3P, t4P⟩
  have S : StepsAt K w mg := ⟨dS, esS, nS, ⟨lS, kS, oS⟩, PySem.W.mg_of X G aS, fun x hx => hx.elim (fun h => ⟨_, h ▸ e1S⟩) fun hx => hx.elim (fun h => ⟨_, h ▸ e2S⟩) fun hx => hx.elim (fun h => ⟨_, h ▸ e3S⟩) fun h => ⟨_, h ▸ e4S⟩⟩
  have SV : StepsV K w mg := ⟨dS, PySem.W.mg_of X G aS, fun x hx => by
    rcases hx with rfl | rfl | rfl | rfl
    · rw [show stepSign "go" = 1 by decide]; exact ⟨esS, nS, _, lS, kS, e1S, ⟨_, rfl⟩⟩
    · rw [show stepSign "back" = -1 by decide]; exact ⟨esS, nS, _, lS, kS, e2S, ⟨_, rfl⟩⟩
    · rw [show stepSign "hop" = 1 by decide]; exact ⟨esS, nS, _, lS, kS, e3S, ⟨_, rfl⟩⟩
    · rw [show stepSign "slip" = -1 by decide]; exact ⟨esS, nS, _, lS, kS, e4S, ⟨_, rfl⟩⟩⟩
  have SB : StepsB K w mg := ⟨dS, esS, nS, ⟨lS, kS, oS⟩, PySem.W.mg_of X G aS, (fun x hx => hx.elim (fun h => ⟨_, h ▸ e1S⟩) fun hx => hx.elim (fun h => ⟨_, h ▸ e2S⟩) fun hx => hx.elim (fun h => ⟨_, h ▸ e3S⟩) fun h => ⟨_, h ▸ e4S⟩), fun x nx => wordsOnly_out wS (fun z => nx (.inl z)) (fun z => nx (.inr (.inl z))) (fun z => nx (.inr (.inr (.inl z)))) (fun z => nx (.inr (.inr (.inr z))))⟩
  have gMC := PySem.W.mg_of X G mMC
  have gMH := PySem.W.mg_of X G mMH
  have DR : DrawnAt K mg := ⟨dDR, PySem.W.mg_of X G aDR, fun H => .inr ⟨_, _, _, lDR, rfl, rfl, by show 2 ≤ sizeLine; decide, .cons ⟨_, rfl⟩ (.cons ⟨_, rfl⟩ .nil)⟩⟩
  have X_AngleError : OwnX K mg "AngleError" A_AngleError := ⟨xAngleErrorxi, PySem.W.mg_of X G xAngleErrorg, xAngleErrork, xAngleErrorb, xAngleErrort, ⟨xAngleErrorga, xAngleErrorgt, xAngleErrorb, xAngleErrord, xAngleErrorcl, xAngleErrorcn, xAngleErrorct, xAngleErrormr⟩, ⟨_, xAngleErrorcs⟩⟩
  have X_InvalidProgram : OwnX K mg "InvalidProgram" A_InvalidProgram := ⟨xInvalidProgramxi, PySem.W.mg_of X G xInvalidProgramg, xInvalidProgramk, xInvalidProgramb, xInvalidProgramt, ⟨xInvalidProgramga, xInvalidProgramgt, xInvalidProgramb, xInvalidProgramd, xInvalidProgramcl, xInvalidProgramcn, xInvalidProgramct, xInvalidProgrammr⟩, ⟨_, xInvalidProgramcs⟩⟩
  have X_InvalidCount : OwnX K mg "InvalidCount" A_InvalidCount := ⟨xInvalidCountxi, PySem.W.mg_of X G xInvalidCountg, xInvalidCountk, xInvalidCountb, xInvalidCountt, ⟨xInvalidCountga, xInvalidCountgt, xInvalidCountb, xInvalidCountd, xInvalidCountcl, xInvalidCountcn, xInvalidCountct, xInvalidCountmr⟩, ⟨_, xInvalidCountcs⟩⟩
  have X_InvalidIndex : OwnX K mg "InvalidIndex" A_InvalidIndex := ⟨xInvalidIndexxi, PySem.W.mg_of X G xInvalidIndexg, xInvalidIndexk, xInvalidIndexb, xInvalidIndext, ⟨xInvalidIndexga, xInvalidIndexgt, xInvalidIndexb, xInvalidIndexd, xInvalidIndexcl, xInvalidIndexcn, xInvalidIndexct, xInvalidIndexmr⟩, ⟨_, xInvalidIndexcs⟩⟩
  have X_NotAChain : OwnX K mg "NotAChain" A_NotAChain := ⟨xNotAChainxi, PySem.W.mg_of X G xNotAChaing, xNotAChaink, xNotAChainb, xNotAChaint, ⟨xNotAChainga, xNotAChaingt, xNotAChainb, xNotAChaind, xNotAChaincl, xNotAChaincn, xNotAChainct, xNotAChainmr⟩, ⟨_, xNotAChaincs⟩⟩
  have g_l_bag_of := PySem.W.mg_of X G a1
  have g_l_pick := PySem.W.mg_of X G a2
  have g_l_names := PySem.W.mg_of X G a3
  have g_l_jar_of := PySem.W.mg_of X G a4
  have g_l_times := PySem.W.mg_of X G a5
  have g_l_terms_of := PySem.W.mg_of X G a6
  have g_l_row := PySem.W.mg_of X G a7
  have g_l_bulk := PySem.W.mg_of X G a8
  have g_l_unroll := PySem.W.mg_of X G a9
  have g_l_fits := PySem.W.mg_of X G a10
  have g_l_curt := PySem.W.mg_of X G a11
  have g_l_full := PySem.W.mg_of X G a12
  have g_l_deep := PySem.W.mg_of X G a13
  have g_l_short_three := PySem.W.mg_of X G a14
  have g_l_great_int := PySem.W.mg_of X G a15
  have g_l_aim := PySem.W.mg_of X G a16
  have g_l_not_short := PySem.W.mg_of X G a17
  have g_l_is_int := PySem.W.mg_of X G a18
  have g_is_command := PySem.W.mg_of X G a19
  have g_is_integer := PySem.W.mg_of X G a20
  have g_is_name := PySem.W.mg_of X G a21
  have g_is_program := PySem.W.mg_of X G a22
  have g_check_program := PySem.W.mg_of X G a23
  have g_raw_size := PySem.W.mg_of X G a24
  have g_plain_row := PySem.W.mg_of X G a25
  have g_raw_is_short := PySem.W.mg_of X G a26
  have g_check_short := PySem.W.mg_of X G a28
  have g_unrolled := PySem.W.mg_of X G a29
  have g_raw_steps := PySem.W.mg_of X G a30
  have g_add_step := PySem.W.mg_of X G a31
  have g_is_term := PySem.W.mg_of X G a32
  have g_summed := PySem.W.mg_of X G a33
  have g_place_from := PySem.W.mg_of X G a36
  have g_raw_effect := PySem.W.mg_of X G a37
  have g_effect := PySem.W.mg_of X G a38
  have g_raw_places := PySem.W.mg_of X G a39
  have g_places := PySem.W.mg_of X G a40
  have g_raw_strokes := PySem.W.mg_of X G a41
  have g_strokes := PySem.W.mg_of X G a42
  have g_l_asked := PySem.W.mg_of X G a43
  have g_l_let := PySem.W.mg_of X G a44
  have g_l_no_piece := PySem.W.mg_of X G a45
  have g_law := PySem.W.mg_of X G a46
  have h_l_bag_of : Has l.prog w K mg base "_law_bag_of" 1 ["_law_cell"] spBagOf := ⟨_, _, ok_l_bag_of F_l_bag_of B_Bl, PySem.W.mg_of X G a1, k1, b_l_bag_of⟩
  have h_l_pick : Has l.prog w K mg base "_law_pick" 1 ["_law_bag", "_law_many"] spPick := ⟨_, _, ok_l_pick F_l_pick B_Bl, PySem.W.mg_of X G a2, k2, b_l_pick⟩
  have h_l_names : Has l.prog w K mg base "_law_names" 2 ["_law_bag"] spNames := ⟨_, _, ok_l_names F_l_names B_Bl h_l_pick, PySem.W.mg_of X G a3, k3, b_l_names⟩
  have h_l_jar_of : Has l.prog w K mg base "_law_jar_of" 1 ["_law_rows"] spJarOf := ⟨_, _, ok_l_jar_of F_l_jar_of, PySem.W.mg_of X G a4, k4, b_l_jar_of⟩
  have h_l_times : Has l.prog w K mg base "_law_times" 1 ["_law_one", "_law_two"] spTimes := ⟨_, _, ok_l_times F_l_times, PySem.W.mg_of X G a5, k5, b_l_times⟩
  have h_l_terms_of : Has l.prog w K mg base "_law_terms_of" 1 ["_law_jar"] spTerms := ⟨_, _, ok_l_terms_of F_l_terms_of B_BlA.b_sorted, PySem.W.mg_of X G a6, k6, b_l_terms_of⟩
  have h_l_row : Has l.prog w K mg base "_law_row" 2 ["_law_bag", "_law_names_here", "_law_steps", "_law_drawn", "_law_far"] spRow := ⟨_, _, ok_l_row F_l_row B_Bl B_BlA.b_abs h_l_pick h_l_jar_of h_l_times h_l_terms_of, PySem.W.mg_of X G a7, k7, b_l_row⟩
  have h_l_bulk : Has l.prog w K mg base "_law_bulk" 13 ["_law_piece"] (spNumLt Prog.size 13) := has_bulk F_l_bulk g_l_bulk b_l_bulk 13
  have h_l_unroll : Has l.prog w K mg base "_law_unroll" 13 ["_law_piece", "_law_sign"] (spUnLt 13) := has_unroll F_l_unroll B_Bl g_l_unroll b_l_unroll 13
  have h_l_fits : Has l.prog w K mg base "_law_fits" 14 ["_law_piece", "_law_steps", "_law_drawn", "_law_far"] spFits := ⟨_, _, ok_l_fits F_l_fits B_Bl h_l_bulk h_l_unroll, PySem.W.mg_of X G a10, k10, b_l_fits⟩
  have h_l_curt : Has l.prog w K mg base "_law_curt" 15 ["_law_bag", "_law_names_here", "_law_steps", "_law_drawn", "_law_far"] spCurt := ⟨_, _, ok_l_curt F_l_curt B_Bl h_l_pick h_l_row h_l_fits, PySem.W.mg_of X G a11, k11, b_l_curt⟩
  have h_l_full : Has l.prog w K mg base "_law_full" 14 ["_law_bag", "_law_piece", "_law_names_here"] spFull := ⟨_, _, ok_l_full F_l_full B_Bl h_l_pick h_l_bulk, PySem.W.mg_of X G a12, k12, b_l_full⟩
  have h_l_deep : Has l.prog w K mg base "_law_deep" 14 ["_law_bag", "_law_names_here"] spDeep := ⟨_, _, ok_l_deep F_l_deep B_Bl h_l_pick h_l_bulk, PySem.W.mg_of X G a13, k13, b_l_deep⟩
  have h_l_short_three : Has l.prog w K mg base "_law_short_three" 16 ["_law_bag", "_law_names_here"] spThree := ⟨_, _, ok_l_short_three F_l_short_three B_Bl h_l_curt h_l_full h_l_deep, PySem.W.mg_of X G a14, k14, b_l_short_three⟩
  have h_l_great_int : Has l.prog w K mg base "_law_great_int" 2 ["_law_bag", "_law_digits"] spGreat := ⟨_, _, ok_l_great_int F_l_great_int B_Bl h_l_pick, PySem.W.mg_of X G a15, k15, b_l_great_int⟩
  have h_l_aim : Has l.prog w K mg base "_law_aim" 13 ["_law_piece"] (spNumLt Prog.head 13) := has_aim F_l_aim g_l_aim b_l_aim 13
  have h_l_not_short : Has l.prog w K mg base "_law_not_short" 14 ["_law_bag", "_law_piece", "_law_names_here"] spNotShort := ⟨_, _, ok_l_not_short F_l_not_short B_Bl h_l_pick h_l_great_int h_l_bulk h_l_aim, PySem.W.mg_of X G a17, k17, b_l_not_short⟩
  have h_l_is_int : Has l.prog w K mg base "_law_is_int" 1 ["_law_thing"] spIsInt := ⟨_, _, ok_l_is_int F_l_is_int B_Bl, PySem.W.mg_of X G a18, k18, b_l_is_int⟩
  have h_is_integer : Has l.prog w K mg base "is_integer" 1 ["value"] spIsInt := ⟨_, _, ok_is_integer F_is_integer B_Bl, g_is_integer, F_is_integer.kp, b_is_integer⟩
  have h_is_integerT : Has l.prog w K mg base "is_integer" 1 ["value"] (spIsIntT K) := ⟨_, _, ok_is_integerB F_is_integer B_Bl, g_is_integer, F_is_integer.kp, b_is_integer⟩
  have h_is_name : Has l.prog w K mg base "is_name" 1 ["value"] (spIsNameA K) := ⟨_, _, ok_is_nameA F_is_name B_Bl, PySem.W.mg_of X G a21, k21, b_is_name⟩
  have h_is_program : Has l.prog w K mg base "is_program" 29 ["value"] (spIsPrB K 14) := has_prB F_is_command F_is_program B_Bl SB h_is_integerT h_is_name g_is_command g_is_program b_is_command b_is_program 14
  have hx_check_program : HasX l.prog w K mg base "check_program" 30 ["value"] (spCheckPrX K A_InvalidProgram) := ⟨_, _, ok_check_programX F_check_program X_InvalidProgram h_is_program, g_check_program, F_check_program.kp, b_check_program⟩
  have h_raw_size : Has l.prog w K mg base "raw_size" 13 ["program"] (spNumLt Prog.size 13) := has_size F_raw_size g_raw_size b_raw_size 13
  have hd_plain_row : HasD l.prog w K mg base "plain_row" 13 ["program", "sign"] (spUnLt 13) [.int 1] := ⟨_, _, _, ok_plain_row 12 F_plain_row (has_plain_row F_plain_row g_plain_row b_plain_row 12), g_plain_row, F_plain_row.kp, bdplain_row_1, vdplain_row_1⟩
  have h_raw_is_short : Has l.prog w K mg base "raw_is_short" 14 ["program"] spShort := ⟨_, _, ok_raw_is_short F_raw_is_short B_Bl B_BlA.b_abs gMC gMH h_raw_size hd_plain_row, PySem.W.mg_of X G a26, k26, b_raw_is_short⟩
  have XI_NotShort : OwnI l.prog w K mg base "NotShort" A_NotShort "amount" := ⟨⟨oexIn_ok yNotShortoe, yNotShortsa, yNotShortb, yNotShortt, yNotShortk⟩, ⟨yNotShortga, yNotShortgt, yNotShortb, yNotShortd, yNotShortcl, yNotShortcn, yNotShortct, yNotShortmr⟩, ⟨yNotShortga, yNotShortgt, yNotShortb, yNotShortd⟩, yNotShortno, PySem.W.mg_of X G yNotShortg, yNotShortb, yNotShortt, ⟨_, yNotShortcs⟩, ⟨_, _, a27, isFn_type i27, b_NotShort___init__, ok_NotShort_init ⟨oexIn_ok yNotShortoe, yNotShortsa, yNotShortb, yNotShortt, yNotShortk⟩ yNotShortno F_NotShort___init__⟩⟩
  have hx_check_short : HasX l.prog w K mg base "check_short" 15 ["program"] (spCheckShX A_NotShort) := ⟨_, _, ok_check_shortX F_check_short XI_NotShort h_raw_is_short h_raw_size, g_check_short, F_check_short.kp, b_check_short⟩
  have hx_unrolled : HasX l.prog w K mg base "unrolled" 31 ["program"] (spShX K A_InvalidProgram A_NotShort spUnrolled) := ⟨_, _, ok_unrolledX F_unrolled B_Bl hx_check_program hx_check_short hd_plain_row, g_unrolled, F_unrolled.kp, b_unrolled⟩
  have h_raw_steps : Has l.prog w K mg base "raw_steps" 14 ["program"] spRawSteps := ⟨_, _, ok_raw_steps F_raw_steps B_Bl hd_plain_row, PySem.W.mg_of X G a30, k30, b_raw_steps⟩
  have h_add_step : Has l.prog w K mg base "add_step" 1 ["numbers", "step"] spAddStep := ⟨_, _, ok_add_step F_add_step SV, PySem.W.mg_of X G a31, k31, b_add_step⟩
  have h_is_term : Has l.prog w K mg base "is_term" 2 ["value"] spIsTerm := ⟨_, _, ok_is_term F_is_term B_Bl h_is_integer, PySem.W.mg_of X G a32, k32, b_is_term⟩
  have h_summed : Has l.prog w K mg base "summed" 1 ["terms"] spSummed := ⟨_, _, ok_summed F_summed B_Bl B_BlA.b_sorted, PySem.W.mg_of X G a33, k33, b_summed⟩
  have hc_Poly : HasC l.prog w K mg base "Poly" C 3 ["self", "terms"] (spInit C) := ⟨_, _, ok_Poly_init F_Poly___init__ B_Bl G_Poly h_is_term h_summed, ⟨mk_Poly, a34, i34, kc_Poly⟩, g_Poly, b_Poly___init__⟩
  have hm_Poly___len__ : HasM l.prog w K mg base C "__len__" 1 ["self"] (spPLen C) := ⟨_, _, ok_Poly_len F_Poly___len__ B_Bl G_Poly, ⟨a35, i35, k35⟩, b_Poly___len__⟩
  have h_place_from : Has l.prog w K mg base "place_from" 5 ["numbers"] (spPlaceFrom C) := ⟨_, _, ok_place_from F_place_from B_Bl B_BlA.b_sorted G_Poly hc_Poly hm_Poly___len__, PySem.W.mg_of X G a36, k36, b_place_from⟩
  have h_raw_effect : Has l.prog w K mg base "raw_effect" 15 ["program"] (spRawEffect C) := ⟨_, _, ok_raw_effect F_raw_effect B_Bl h_raw_steps h_add_step h_place_from, PySem.W.mg_of X G a37, k37, b_raw_effect⟩
  have hxk_effect : HasXK l.prog w K mg base "effect" 31 ["program"] ["program"] false (spShX K A_InvalidProgram A_NotShort (spEffect C)) := ⟨_, _, ok_effectX F_effect hx_check_program hx_check_short h_raw_effect, g_effect, F_effect.kp, kw0 (fun ws hl => match ws, hl with | [_], _ => rfl)⟩
  have h_raw_places : Has l.prog w K mg base "raw_places" 15 ["program"] (spRawPlaces C) := ⟨_, _, ok_raw_places F_raw_places B_Bl h_raw_steps h_add_step h_place_from, PySem.W.mg_of X G a39, k39, b_raw_places⟩
  have hx_places : HasX l.prog w K mg base "places" 31 ["program"] (spShX K A_InvalidProgram A_NotShort (spPlaces C)) := ⟨_, _, ok_placesX F_places hx_check_program hx_check_short h_raw_places, g_places, F_places.kp, b_places⟩
  have h_raw_strokes : Has l.prog w K mg base "raw_strokes" 16 ["program"] (spRawStrokes C) := ⟨_, _, ok_raw_strokes F_raw_strokes B_Bl B_BlA.b_enumerate DR h_raw_steps h_raw_places, PySem.W.mg_of X G a41, k41, b_raw_strokes⟩
  have hxk_strokes : HasXK l.prog w K mg base "strokes" 31 ["program"] ["program"] false (spShX K A_InvalidProgram A_NotShort (spStrokes C)) := ⟨_, _, ok_strokesX F_strokes hx_check_program hx_check_short h_raw_strokes, g_strokes, F_strokes.kp, kw0 (fun ws hl => match ws, hl with | [_], _ => rfl)⟩
  have h_l_asked : Has l.prog w K mg base "_law_asked" 32 ["_law_way", "_law_thing"] (spAsked4 K) := ⟨_, _, ok_l_asked F_l_asked B_Bl B_Bl.b_len B_BlA.b_ValueError X_AngleError X_InvalidProgram X_InvalidCount X_InvalidIndex X_NotAChain XI_NotShort uNotShort_AngleError uNotShort_TValueError (X_InvalidProgram.kit uNotShort_InvalidProgram uNotShort_InvalidProgramn) (X_InvalidCount.kit uNotShort_InvalidCount uNotShort_InvalidCountn) (X_InvalidIndex.kit uNotShort_InvalidIndex uNotShort_InvalidIndexn) (X_NotAChain.kit uNotShort_NotAChain uNotShort_NotAChainn) uInvalidProgram_AngleError uInvalidProgram_TValueError (XI_NotShort.kit uInvalidProgram_NotShort uInvalidProgram_NotShortn) (X_InvalidCount.kit uInvalidProgram_InvalidCount uInvalidProgram_InvalidCountn) (X_InvalidIndex.kit uInvalidProgram_InvalidIndex uInvalidProgram_InvalidIndexn) (X_NotAChain.kit uInvalidProgram_NotAChain uInvalidProgram_NotAChainn) h_l_is_int hx_unrolled hxk_effect hx_places hxk_strokes, PySem.W.mg_of X G a43, k43, b_l_asked⟩
  have h_l_let : Has l.prog w K mg base "_law_let" 14 ["_law_piece"] spLet := ⟨_, _, ok_l_let F_l_let B_Bl.b_len h_l_unroll h_l_aim, PySem.W.mg_of X G a44, k44, b_l_let⟩
  have h_l_no_piece : Has l.prog w K mg base "_law_no_piece" 2 ["_law_bag", "_law_piece"] (spNoPiece K) := ⟨_, _, ok_l_no_piece F_l_no_piece B_Bl.b_len B_Bl.b_list X_InvalidProgram uInvalidProgram_Ttuple h_l_pick, PySem.W.mg_of X G a45, k45, b_l_no_piece⟩
  exact ok_law F_law B_Bl B_Bl.b_tuple B_Bl.b_range h_l_bag_of h_l_pick h_l_names h_l_short_three h_l_unroll h_l_not_short h_l_bulk h_l_asked h_l_let h_l_no_piece
theorem hd_facts {l : PySem.W.OpenLaw} {w : World} {K : PySem.W.Frag} {h : Heap} {mg : Str → Option Value} {fa : Addr} (X : K.In h) (G : h.Ns mainGlobals mg) (hfa : mg "law" = some (.ref fa)) (c : hdObs K = hdVal w)
    : ∃ fd : FuncData, (∀ (s : Shared) (v : Value), BindsTo s fd ⟨[v], []⟩ [("_law_script", v)]) ∧ ∀ base : Heap, K.In base → base.Ns mainGlobals mg → FnOk l.prog w K mg base CX0 33 fa fd ["_law_script"] (spLaw K) := by
  have c1 := congrArg (fun z : HdA => z.1) c
  have c2 := congrArg (fun z : HdA => z.2.1) c
  have pt : hdt K = hdw w := congrArg (fun z : HdA => z.2.2) c
  have q0 : (hdc0 K).all id = true := list_at c1 (i := 0) rfl rfl
  have q1 : (hdc1 K).all id = true := list_at c1 (i := 1) rfl rfl
  have q2 : (hdc2 K).all id = true := list_at c1 (i := 2) rfl rfl
  have q3 : (hdc3 K).all id = true := list_at c1 (i := 3) rfl rfl
  have q4 : (hdc4 K).all id = true := list_at c1 (i := 4) rfl rfl
  have q5 : (hdc5 K).all id = true := list_at c1 (i := 5) rfl rfl
  have q6 : (hdc6 K).all id = true := list_at c1 (i := 6) rfl rfl
  have q7 : (hdc7 K).all id = true := list_at c1 (i := 7) rfl rfl
  have q8 : (hdc8 K).all id = true := list_at c1 (i := 8) rfl rfl
  have q9 : (hdc9 K).all id = true := list_at c1 (i := 9) rfl rfl
  have p0 : hdf0 K = hdv0 := list_at c2 (i := 0) rfl rfl
  have p1 : hdf1 K = hdv1 := list_at c2 (i := 1) rfl rfl
  clear c c1 c2
  have aC : PySem.W.nsIn K mainGlobals "Poly" = some (some (.ref (He.ga K "Poly"))) := He.eqO_ok (all_at q0 (i := 0) rfl)
  have pgP : PySem.W.plainGet K (He.ga K "Poly") Str.empty = true := (all_at q0 (i := 1) rfl)
  have hdP : PySem.W.hasDictIn K (He.ga K "Poly") = true := (all_at q0 (i := 2) rfl)
  have poP : PySem.W.plainOver K (He.ga K "Poly") = true := (all_at q0 (i := 3) rfl)
  have saP : PySem.W.findIn K (.ref (He.ga K "Poly")) "__setattr__" = some (some (.builtin "object.__setattr__")) := He.eqO_ok (all_at q0 (i := 4) rfl)
  have mk_Poly : PySem.W.makesIn K (He.ga K "Poly") = true := (all_at q0 (i := 5) rfl)
  have kc_Poly : PySem.W.keepIn K (.ref (He.ga K "Poly")) = true := (all_at q0 (i := 6) rfl)
  have nRP : PySem.W.findIn K (.ref (He.ga K "Poly")) "rows" = some none := He.eqO_ok (all_at q0 (i := 7) rfl)
  have sfP : PySem.W.selfFirst K (He.ga K "Poly") = true := (all_at q0 (i := 8) rfl)
  obtain ⟨cdP, icP, moP⟩ := clsC_ok (all_at q0 (i := 9) rfl)
  have caP : PySem.W.findIn K (.ref (He.ga K "Poly")) "__class__" = some (some (.builtin "object.__class__")) := He.eqO_ok (all_at q0 (i := 10) rfl)
  have cnP : PySem.W.specialIn K (.builtin "object.__class__") "__get__" = some (some (.builtin "getset_descriptor.__get__")) := He.eqO_ok (all_at q0 (i := 11) rfl)
  have ctP : PySem.W.takesIn K (.builtin "object.__class__") = some true := of_decide_eq_true (all_at q0 (i := 12) rfl)
  have cmP : PySem.W.mroIn K (He.ga K "Poly") (.type "object") = some true := of_decide_eq_true (all_at q0 (i := 13) rfl)
  have tyP : PySem.W.typeIn K (.ref (He.ga K "Poly")) = some (.type "type") := of_decide_eq_true (all_at q0 (i := 14) rfl)
  have s1P : PySem.W.subIn K (.type "int") (.ref (He.ga K "Poly")) = some false := of_decide_eq_true (all_at q0 (i := 15) rfl)
  have s2P : PySem.W.subIn K (.type "bool") (.ref (He.ga K "Poly")) = some false := of_decide_eq_true (all_at q0 (i := 16) rfl)
  have s3P : PySem.W.subIn K (.type "str") (.ref (He.ga K "Poly")) = some false := of_decide_eq_true (all_at q0 (i := 17) rfl)
  have s4P : PySem.W.subIn K (.type "list") (.ref (He.ga K "Poly")) = some false := of_decide_eq_true (all_at q0 (i := 18) rfl)
  have s5P : PySem.W.subIn K (.type "tuple") (.ref (He.ga K "Poly")) = some false := of_decide_eq_true (all_at q0 (i := 19) rfl)
  have s6P : PySem.W.subIn K (.type "NoneType") (.ref (He.ga K "Poly")) = some false := of_decide_eq_true (all_at q0 (i := 20) rfl)
  have t1P : PySem.W.subIn K (.ref (He.ga K "Poly")) (.type "int") = some false := of_decide_eq_true (all_at q0 (i := 21) rfl)
  have t2P : PySem.W.subIn K (.ref (He.ga K "Poly")) (.type "bool") = some false := of_decide_eq_true (all_at q0 (i := 22) rfl)
  have t3P : PySem.W.subIn K (.ref (He.ga K "Poly")) (.type "list") = some false := of_decide_eq_true (all_at q0 (i := 23) rfl)
  have t4P : PySem.W.subIn K (.ref (He.ga K "Poly")) (.type "tuple") = some false := of_decide_eq_true (all_at q0 (i := 24) rfl)
  have xAngleErrorg : PySem.W.nsIn K mainGlobals "AngleError" = some (some (.ref (He.ga K "AngleError"))) := He.eqO_ok (all_at q0 (i := 25) rfl)
  have xAngleErrorxi : PySem.W.excIn K (He.ga K "AngleError") [.type "ValueError", .type "Exception", .type "BaseException", .type "object"] "ValueError.__new__" = true := (all_at q0 (i := 26) rfl)
  have xAngleErrork : PySem.W.keepIn K (.ref (He.ga K "AngleError")) = true := (all_at q0 (i := 27) rfl)
  have xAngleErrorb : PySem.W.subIn K (.ref (He.ga K "AngleError")) (.type "BaseException") = some true := of_decide_eq_true (all_at q0 (i := 28) rfl)
  have xAngleErrort : PySem.W.typeIn K (.ref (He.ga K "AngleError")) = some (.type "type") := of_decide_eq_true (all_at q0 (i := 29) rfl)
  have xAngleErrorga : PySem.W.findIn K (.ref (He.ga K "AngleError")) "__getattribute__" = some (some (.builtin "BaseException.__getattribute__")) := He.eqO_ok (all_at q1 (i := 0) rfl)
  have xAngleErrorgt : PySem.W.findIn K (.ref (He.ga K "AngleError")) "__getattr__" = some none := He.eqO_ok (all_at q1 (i := 1) rfl)
  have xAngleErrord : PySem.W.hasDictIn K (He.ga K "AngleError") = true := (all_at q1 (i := 2) rfl)
  have xAngleErrorcl : PySem.W.findIn K (.ref (He.ga K "AngleError")) "__class__" = some (some (.builtin "object.__class__")) := He.eqO_ok (all_at q1 (i := 3) rfl)
  have xAngleErrorcn : PySem.W.specialIn K (.builtin "object.__class__") "__get__" = some (some (.builtin "getset_descriptor.__get__")) := He.eqO_ok (all_at q1 (i := 4) rfl)
  have xAngleErrorct : PySem.W.takesIn K (.builtin "object.__class__") = some true := of_decide_eq_true (all_at q1 (i := 5) rfl)
  have xAngleErrormr : PySem.W.mroIn K (He.ga K "AngleError") (.type "object") = some true := of_decide_eq_true (all_at q1 (i := 6) rfl)
  obtain ⟨cd_AngleError, xAngleErrorcs⟩ := some_at (all_at q1 (i := 7) rfl)
  have xInvalidProgramg : PySem.W.nsIn K mainGlobals "InvalidProgram" = some (some (.ref (He.ga K "InvalidProgram"))) := He.eqO_ok (all_at q1 (i := 8) rfl)
  have xInvalidProgramxi : PySem.W.excIn K (He.ga K "InvalidProgram") [.type "ValueError", .type "Exception", .type "BaseException", .type "object"] "ValueError.__new__" = true := (all_at q1 (i := 9) rfl)
  have xInvalidProgramk : PySem.W.keepIn K (.ref (He.ga K "InvalidProgram")) = true := (all_at q1 (i := 10) rfl)
  have xInvalidProgramb : PySem.W.subIn K (.ref (He.ga K "InvalidProgram")) (.type "BaseException") = some true := of_decide_eq_true (all_at q1 (i := 11) rfl)
  have xInvalidProgramt : PySem.W.typeIn K (.ref (He.ga K "InvalidProgram")) = some (.type "type") := of_decide_eq_true (all_at q1 (i := 12) rfl)
  have xInvalidProgramga : PySem.W.findIn K (.ref (He.ga K "InvalidProgram")) "__getattribute__" = some (some (.builtin "BaseException.__getattribute__")) := He.eqO_ok (all_at q1 (i := 13) rfl)
  have xInvalidProgramgt : PySem.W.findIn K (.ref (He.ga K "InvalidProgram")) "__getattr__" = some none := He.eqO_ok (all_at q1 (i := 14) rfl)
  have xInvalidProgramd : PySem.W.hasDictIn K (He.ga K "InvalidProgram") = true := (all_at q1 (i := 15) rfl)
  have xInvalidProgramcl : PySem.W.findIn K (.ref (He.ga K "InvalidProgram")) "__class__" = some (some (.builtin "object.__class__")) := He.eqO_ok (all_at q1 (i := 16) rfl)
  have xInvalidProgramcn : PySem.W.specialIn K (.builtin "object.__class__") "__get__" = some (some (.builtin "getset_descriptor.__get__")) := He.eqO_ok (all_at q1 (i := 17) rfl)
  have xInvalidProgramct : PySem.W.takesIn K (.builtin "object.__class__") = some true := of_decide_eq_true (all_at q1 (i := 18) rfl)
  have xInvalidProgrammr : PySem.W.mroIn K (He.ga K "InvalidProgram") (.type "object") = some true := of_decide_eq_true (all_at q1 (i := 19) rfl)
  obtain ⟨cd_InvalidProgram, xInvalidProgramcs⟩ := some_at (all_at q1 (i := 20) rfl)
  have xInvalidCountg : PySem.W.nsIn K mainGlobals "InvalidCount" = some (some (.ref (He.ga K "InvalidCount"))) := He.eqO_ok (all_at q1 (i := 21) rfl)
  have xInvalidCountxi : PySem.W.excIn K (He.ga K "InvalidCount") [.type "ValueError", .type "Exception", .type "BaseException", .type "object"] "ValueError.__new__" = true := (all_at q1 (i := 22) rfl)
  have xInvalidCountk : PySem.W.keepIn K (.ref (He.ga K "InvalidCount")) = true := (all_at q1 (i := 23) rfl)
  have xInvalidCountb : PySem.W.subIn K (.ref (He.ga K "InvalidCount")) (.type "BaseException") = some true := of_decide_eq_true (all_at q1 (i := 24) rfl)
  have xInvalidCountt : PySem.W.typeIn K (.ref (He.ga K "InvalidCount")) = some (.type "type") := of_decide_eq_true (all_at q1 (i := 25) rfl)
  have xInvalidCountga : PySem.W.findIn K (.ref (He.ga K "InvalidCount")) "__getattribute__" = some (some (.builtin "BaseException.__getattribute__")) := He.eqO_ok (all_at q1 (i := 26) rfl)
  have xInvalidCountgt : PySem.W.findIn K (.ref (He.ga K "InvalidCount")) "__getattr__" = some none := He.eqO_ok (all_at q1 (i := 27) rfl)
  have xInvalidCountd : PySem.W.hasDictIn K (He.ga K "InvalidCount") = true := (all_at q1 (i := 28) rfl)
  have xInvalidCountcl : PySem.W.findIn K (.ref (He.ga K "InvalidCount")) "__class__" = some (some (.builtin "object.__class__")) := He.eqO_ok (all_at q1 (i := 29) rfl)
  have xInvalidCountcn : PySem.W.specialIn K (.builtin "object.__class__") "__get__" = some (some (.builtin "getset_descriptor.__get__")) := He.eqO_ok (all_at q2 (i := 0) rfl)
  have xInvalidCountct : PySem.W.takesIn K (.builtin "object.__class__") = some true := of_decide_eq_true (all_at q2 (i := 1) rfl)
  have xInvalidCountmr : PySem.W.mroIn K (He.ga K "InvalidCount") (.type "object") = some true := of_decide_eq_true (all_at q2 (i := 2) rfl)
  obtain ⟨cd_InvalidCount, xInvalidCountcs⟩ := some_at (all_at q2 (i := 3) rfl)
  have xInvalidIndexg : PySem.W.nsIn K mainGlobals "InvalidIndex" = some (some (.ref (He.ga K "InvalidIndex"))) := He.eqO_ok (all_at q2 (i := 4) rfl)
  have xInvalidIndexxi : PySem.W.excIn K (He.ga K "InvalidIndex") [.type "ValueError", .type "Exception", .type "BaseException", .type "object"] "ValueError.__new__" = true := (all_at q2 (i := 5) rfl)
  have xInvalidIndexk : PySem.W.keepIn K (.ref (He.ga K "InvalidIndex")) = true := (all_at q2 (i := 6) rfl)
  have xInvalidIndexb : PySem.W.subIn K (.ref (He.ga K "InvalidIndex")) (.type "BaseException") = some true := of_decide_eq_true (all_at q2 (i := 7) rfl)
  have xInvalidIndext : PySem.W.typeIn K (.ref (He.ga K "InvalidIndex")) = some (.type "type") := of_decide_eq_true (all_at q2 (i := 8) rfl)
  have xInvalidIndexga : PySem.W.findIn K (.ref (He.ga K "InvalidIndex")) "__getattribute__" = some (some (.builtin "BaseException.__getattribute__")) := He.eqO_ok (all_at q2 (i := 9) rfl)
  have xInvalidIndexgt : PySem.W.findIn K (.ref (He.ga K "InvalidIndex")) "__getattr__" = some none := He.eqO_ok (all_at q2 (i := 10) rfl)
  have xInvalidIndexd : PySem.W.hasDictIn K (He.ga K "InvalidIndex") = true := (all_at q2 (i := 11) rfl)
  have xInvalidIndexcl : PySem.W.findIn K (.ref (He.ga K "InvalidIndex")) "__class__" = some (some (.builtin "object.__class__")) := He.eqO_ok (all_at q2 (i := 12) rfl)
  have xInvalidIndexcn : PySem.W.specialIn K (.builtin "object.__class__") "__get__" = some (some (.builtin "getset_descriptor.__get__")) := He.eqO_ok (all_at q2 (i := 13) rfl)
  have xInvalidIndexct : PySem.W.takesIn K (.builtin "object.__class__") = some true := of_decide_eq_true (all_at q2 (i := 14) rfl)
  have xInvalidIndexmr : PySem.W.mroIn K (He.ga K "InvalidIndex") (.type "object") = some true := of_decide_eq_true (all_at q2 (i := 15) rfl)
  obtain ⟨cd_InvalidIndex, xInvalidIndexcs⟩ := some_at (all_at q2 (i := 16) rfl)
  have xNotAChaing : PySem.W.nsIn K mainGlobals "NotAChain" = some (some (.ref (He.ga K "NotAChain"))) := He.eqO_ok (all_at q2 (i := 17) rfl)
  have xNotAChainxi : PySem.W.excIn K (He.ga K "NotAChain") [.type "ValueError", .type "Exception", .type "BaseException", .type "object"] "ValueError.__new__" = true := (all_at q2 (i := 18) rfl)
  have xNotAChaink : PySem.W.keepIn K (.ref (He.ga K "NotAChain")) = true := (all_at q2 (i := 19) rfl)
  have xNotAChainb : PySem.W.subIn K (.ref (He.ga K "NotAChain")) (.type "BaseException") = some true := of_decide_eq_true (all_at q2 (i := 20) rfl)
  have xNotAChaint : PySem.W.typeIn K (.ref (He.ga K "NotAChain")) = some (.type "type") := of_decide_eq_true (all_at q2 (i := 21) rfl)
  have xNotAChainga : PySem.W.findIn K (.ref (He.ga K "NotAChain")) "__getattribute__" = some (some (.builtin "BaseException.__getattribute__")) := He.eqO_ok (all_at q2 (i := 22) rfl)
  have xNotAChaingt : PySem.W.findIn K (.ref (He.ga K "NotAChain")) "__getattr__" = some none := He.eqO_ok (all_at q2 (i := 23) rfl)
  have xNotAChaind : PySem.W.hasDictIn K (He.ga K "NotAChain") = true := (all_at q2 (i := 24) rfl)
  have xNotAChaincl : PySem.W.findIn K (.ref (He.ga K "NotAChain")) "__class__" = some (some (.builtin "object.__class__")) := He.eqO_ok (all_at q2 (i := 25) rfl)
  have xNotAChaincn : PySem.W.specialIn K (.builtin "object.__class__") "__get__" = some (some (.builtin "getset_descriptor.__get__")) := He.eqO_ok (all_at q2 (i := 26) rfl)
  have xNotAChainct : PySem.W.takesIn K (.builtin "object.__class__") = some true := of_decide_eq_true (all_at q2 (i := 27) rfl)
  have xNotAChainmr : PySem.W.mroIn K (He.ga K "NotAChain") (.type "object") = some true := of_decide_eq_true (all_at q2 (i := 28) rfl)
  obtain ⟨cd_NotAChain, xNotAChaincs⟩ := some_at (all_at q2 (i := 29) rfl)
  have yNotShortg : PySem.W.nsIn K mainGlobals "NotShort" = some (some (.ref (He.ga K "NotShort"))) := He.eqO_ok (all_at q3 (i := 0) rfl)
  have yNotShortoe : oexIn K (He.ga K "NotShort") = true := (all_at q3 (i := 1) rfl)
  have yNotShortsa : PySem.W.findIn K (.ref (He.ga K "NotShort")) "__setattr__" = some (some (.builtin "object.__setattr__")) := He.eqO_ok (all_at q3 (i := 2) rfl)
  have yNotShortk : PySem.W.keepIn K (.ref (He.ga K "NotShort")) = true := (all_at q3 (i := 3) rfl)
  have yNotShortb : PySem.W.subIn K (.ref (He.ga K "NotShort")) (.type "BaseException") = some true := of_decide_eq_true (all_at q3 (i := 4) rfl)
  have yNotShortt : PySem.W.typeIn K (.ref (He.ga K "NotShort")) = some (.type "type") := of_decide_eq_true (all_at q3 (i := 5) rfl)
  have yNotShortga : PySem.W.findIn K (.ref (He.ga K "NotShort")) "__getattribute__" = some (some (.builtin "BaseException.__getattribute__")) := He.eqO_ok (all_at q3 (i := 6) rfl)
  have yNotShortgt : PySem.W.findIn K (.ref (He.ga K "NotShort")) "__getattr__" = some none := He.eqO_ok (all_at q3 (i := 7) rfl)
  have yNotShortd : PySem.W.hasDictIn K (He.ga K "NotShort") = true := (all_at q3 (i := 8) rfl)
  have yNotShortcl : PySem.W.findIn K (.ref (He.ga K "NotShort")) "__class__" = some (some (.builtin "object.__class__")) := He.eqO_ok (all_at q3 (i := 9) rfl)
  have yNotShortcn : PySem.W.specialIn K (.builtin "object.__class__") "__get__" = some (some (.builtin "getset_descriptor.__get__")) := He.eqO_ok (all_at q3 (i := 10) rfl)
  have yNotShortct : PySem.W.takesIn K (.builtin "object.__class__") = some true := of_decide_eq_true (all_at q3 (i := 11) rfl)
  have yNotShortmr : PySem.W.mroIn K (He.ga K "NotShort") (.type "object") = some true := of_decide_eq_true (all_at q3 (i := 12) rfl)
  obtain ⟨cd_NotShort, yNotShortcs⟩ := some_at (all_at q3 (i := 13) rfl)
  have yNotShortno : PySem.W.findIn K (.ref (He.ga K "NotShort")) "amount" = some none := He.eqO_ok (all_at q3 (i := 14) rfl)
  have uNotShort_AngleError : PySem.W.subIn K (.ref (He.ga K "NotShort")) (.ref (He.ga K "AngleError")) = some true := of_decide_eq_true (all_at q3 (i := 15) rfl)
  have uNotShort_TValueError : PySem.W.subIn K (.ref (He.ga K "NotShort")) (.type "ValueError") = some true := of_decide_eq_true (all_at q3 (i := 16) rfl)
  have uInvalidProgram_AngleError : PySem.W.subIn K (.ref (He.ga K "InvalidProgram")) (.ref (He.ga K "AngleError")) = some true := of_decide_eq_true (all_at q3 (i := 17) rfl)
  have uInvalidProgram_TValueError : PySem.W.subIn K (.ref (He.ga K "InvalidProgram")) (.type "ValueError") = some true := of_decide_eq_true (all_at q3 (i := 18) rfl)
  have uInvalidProgram_Ttuple : PySem.W.subIn K (.ref (He.ga K "InvalidProgram")) (.type "tuple") = some false := of_decide_eq_true (all_at q3 (i := 19) rfl)
  have uInvalidProgram_NotShort : PySem.W.subIn K (.ref (He.ga K "InvalidProgram")) (.ref (He.ga K "NotShort")) = some false := of_decide_eq_true (all_at q3 (i := 20) rfl)
  have uInvalidProgram_NotShortn : (Value.ref (He.ga K "InvalidProgram") == Value.ref (He.ga K "NotShort")) = false := of_decide_eq_true (all_at q3 (i := 21) rfl)
  have uNotShort_InvalidProgram : PySem.W.subIn K (.ref (He.ga K "NotShort")) (.ref (He.ga K "InvalidProgram")) = some false := of_decide_eq_true (all_at q3 (i := 22) rfl)
  have uNotShort_InvalidProgramn : (Value.ref (He.ga K "NotShort") == Value.ref (He.ga K "InvalidProgram")) = false := of_decide_eq_true (all_at q3 (i := 23) rfl)
  have uNotShort_InvalidCount : PySem.W.subIn K (.ref (He.ga K "NotShort")) (.ref (He.ga K "InvalidCount")) = some false := of_decide_eq_true (all_at q3 (i := 24) rfl)
  have uNotShort_InvalidCountn : (Value.ref (He.ga K "NotShort") == Value.ref (He.ga K "InvalidCount")) = false := of_decide_eq_true (all_at q3 (i := 25) rfl)
  have uNotShort_InvalidIndex : PySem.W.subIn K (.ref (He.ga K "NotShort")) (.ref (He.ga K "InvalidIndex")) = some false := of_decide_eq_true (all_at q3 (i := 26) rfl)
  have uNotShort_InvalidIndexn : (Value.ref (He.ga K "NotShort") == Value.ref (He.ga K "InvalidIndex")) = false := of_decide_eq_true (all_at q3 (i := 27) rfl)
  have uNotShort_NotAChain : PySem.W.subIn K (.ref (He.ga K "NotShort")) (.ref (He.ga K "NotAChain")) = some false := of_decide_eq_true (all_at q3 (i := 28) rfl)
  have uNotShort_NotAChainn : (Value.ref (He.ga K "NotShort") == Value.ref (He.ga K "NotAChain")) = false := of_decide_eq_true (all_at q3 (i := 29) rfl)
  have uInvalidProgram_InvalidCount : PySem.W.subIn K (.ref (He.ga K "InvalidProgram")) (.ref (He.ga K "InvalidCount")) = some false := of_decide_eq_true (all_at q4 (i := 0) rfl)
  have uInvalidProgram_InvalidCountn : (Value.ref (He.ga K "InvalidProgram") == Value.ref (He.ga K "InvalidCount")) = false := of_decide_eq_true (all_at q4 (i := 1) rfl)
  have uInvalidProgram_InvalidIndex : PySem.W.subIn K (.ref (He.ga K "InvalidProgram")) (.ref (He.ga K "InvalidIndex")) = some false := of_decide_eq_true (all_at q4 (i := 2) rfl)
  have uInvalidProgram_InvalidIndexn : (Value.ref (He.ga K "InvalidProgram") == Value.ref (He.ga K "InvalidIndex")) = false := of_decide_eq_true (all_at q4 (i := 3) rfl)
  have uInvalidProgram_NotAChain : PySem.W.subIn K (.ref (He.ga K "InvalidProgram")) (.ref (He.ga K "NotAChain")) = some false := of_decide_eq_true (all_at q4 (i := 4) rfl)
  have uInvalidProgram_NotAChainn : (Value.ref (He.ga K "InvalidProgram") == Value.ref (He.ga K "NotAChain")) = false := of_decide_eq_true (all_at q4 (i := 5) rfl)
  have a1 : PySem.W.nsIn K mainGlobals "_law_bag_of" = some (some (.ref (He.ga K "_law_bag_of"))) := He.eqO_ok (all_at q4 (i := 6) rfl)
  have k1 : PySem.W.keepIn K (.ref (He.ga K "_law_bag_of")) = true := (all_at q4 (i := 8) rfl)
  have E1 : ∃ fd : FuncData, Fun K "_law_bag_of" "_law_bag_of" s_l_bag_of (He.ga K "_law_bag_of") fd := fun_at (list_at p0 (i := 0) rfl rfl) (all_at q4 (i := 7) rfl) k1
  have a2 : PySem.W.nsIn K mainGlobals "_law_pick" = some (some (.ref (He.ga K "_law_pick"))) := He.eqO_ok (all_at q4 (i := 9) rfl)
  have k2 : PySem.W.keepIn K (.ref (He.ga K "_law_pick")) = true := (all_at q4 (i := 11) rfl)
  have E2 : ∃ fd : FuncData, Fun K "_law_pick" "_law_pick" s_l_pick (He.ga K "_law_pick") fd := fun_at (list_at p0 (i := 1) rfl rfl) (all_at q4 (i := 10) rfl) k2
  have a3 : PySem.W.nsIn K mainGlobals "_law_names" = some (some (.ref (He.ga K "_law_names"))) := He.eqO_ok (all_at q4 (i := 12) rfl)
  have k3 : PySem.W.keepIn K (.ref (He.ga K "_law_names")) = true := (all_at q4 (i := 14) rfl)
  have E3 : ∃ fd : FuncData, Fun K "_law_names" "_law_names" s_l_names (He.ga K "_law_names") fd := fun_at (list_at p0 (i := 2) rfl rfl) (all_at q4 (i := 13) rfl) k3
  have a4 : PySem.W.nsIn K mainGlobals "_law_jar_of" = some (some (.ref (He.ga K "_law_jar_of"))) := He.eqO_ok (all_at q4 (i := 15) rfl)
  have k4 : PySem.W.keepIn K (.ref (He.ga K "_law_jar_of")) = true := (all_at q4 (i := 17) rfl)
  have E4 : ∃ fd : FuncData, Fun K "_law_jar_of" "_law_jar_of" s_l_jar_of (He.ga K "_law_jar_of") fd := fun_at (list_at p0 (i := 3) rfl rfl) (all_at q4 (i := 16) rfl) k4
  have a5 : PySem.W.nsIn K mainGlobals "_law_times" = some (some (.ref (He.ga K "_law_times"))) := He.eqO_ok (all_at q4 (i := 18) rfl)
  have k5 : PySem.W.keepIn K (.ref (He.ga K "_law_times")) = true := (all_at q4 (i := 20) rfl)
  have E5 : ∃ fd : FuncData, Fun K "_law_times" "_law_times" s_l_times (He.ga K "_law_times") fd := fun_at (list_at p0 (i := 4) rfl rfl) (all_at q4 (i := 19) rfl) k5
  have a6 : PySem.W.nsIn K mainGlobals "_law_terms_of" = some (some (.ref (He.ga K "_law_terms_of"))) := He.eqO_ok (all_at q4 (i := 21) rfl)
  have k6 : PySem.W.keepIn K (.ref (He.ga K "_law_terms_of")) = true := (all_at q4 (i := 23) rfl)
  have E6 : ∃ fd : FuncData, Fun K "_law_terms_of" "_law_terms_of" s_l_terms_of (He.ga K "_law_terms_of") fd := fun_at (list_at p0 (i := 5) rfl rfl) (all_at q4 (i := 22) rfl) k6
  have a7 : PySem.W.nsIn K mainGlobals "_law_row" = some (some (.ref (He.ga K "_law_row"))) := He.eqO_ok (all_at q4 (i := 24) rfl)
  have k7 : PySem.W.keepIn K (.ref (He.ga K "_law_row")) = true := (all_at q4 (i := 26) rfl)
  have E7 : ∃ fd : FuncData, Fun K "_law_row" "_law_row" s_l_row (He.ga K "_law_row") fd := fun_at (list_at p0 (i := 6) rfl rfl) (all_at q4 (i := 25) rfl) k7
  have a8 : PySem.W.nsIn K mainGlobals "_law_bulk" = some (some (.ref (He.ga K "_law_bulk"))) := He.eqO_ok (all_at q4 (i := 27) rfl)
  have k8 : PySem.W.keepIn K (.ref (He.ga K "_law_bulk")) = true := (all_at q4 (i := 29) rfl)
  have E8 : ∃ fd : FuncData, Fun K "_law_bulk" "_law_bulk" s_l_bulk (He.ga K "_law_bulk") fd := fun_at (list_at p0 (i := 7) rfl rfl) (all_at q4 (i := 28) rfl) k8
  have a9 : PySem.W.nsIn K mainGlobals "_law_unroll" = some (some (.ref (He.ga K "_law_unroll"))) := He.eqO_ok (all_at q5 (i := 0) rfl)
  have k9 : PySem.W.keepIn K (.ref (He.ga K "_law_unroll")) = true := (all_at q5 (i := 2) rfl)
  have E9 : ∃ fd : FuncData, Fun K "_law_unroll" "_law_unroll" s_l_unroll (He.ga K "_law_unroll") fd := fun_at (list_at p0 (i := 8) rfl rfl) (all_at q5 (i := 1) rfl) k9
  have a10 : PySem.W.nsIn K mainGlobals "_law_fits" = some (some (.ref (He.ga K "_law_fits"))) := He.eqO_ok (all_at q5 (i := 3) rfl)
  have k10 : PySem.W.keepIn K (.ref (He.ga K "_law_fits")) = true := (all_at q5 (i := 5) rfl)
  have E10 : ∃ fd : FuncData, Fun K "_law_fits" "_law_fits" s_l_fits (He.ga K "_law_fits") fd := fun_at (list_at p0 (i := 9) rfl rfl) (all_at q5 (i := 4) rfl) k10
  have a11 : PySem.W.nsIn K mainGlobals "_law_curt" = some (some (.ref (He.ga K "_law_curt"))) := He.eqO_ok (all_at q5 (i := 6) rfl)
  have k11 : PySem.W.keepIn K (.ref (He.ga K "_law_curt")) = true := (all_at q5 (i := 8) rfl)
  have E11 : ∃ fd : FuncData, Fun K "_law_curt" "_law_curt" s_l_curt (He.ga K "_law_curt") fd := fun_at (list_at p0 (i := 10) rfl rfl) (all_at q5 (i := 7) rfl) k11
  have a12 : PySem.W.nsIn K mainGlobals "_law_full" = some (some (.ref (He.ga K "_law_full"))) := He.eqO_ok (all_at q5 (i := 9) rfl)
  have k12 : PySem.W.keepIn K (.ref (He.ga K "_law_full")) = true := (all_at q5 (i := 11) rfl)
  have E12 : ∃ fd : FuncData, Fun K "_law_full" "_law_full" s_l_full (He.ga K "_law_full") fd := fun_at (list_at p0 (i := 11) rfl rfl) (all_at q5 (i := 10) rfl) k12
  have a13 : PySem.W.nsIn K mainGlobals "_law_deep" = some (some (.ref (He.ga K "_law_deep"))) := He.eqO_ok (all_at q5 (i := 12) rfl)
  have k13 : PySem.W.keepIn K (.ref (He.ga K "_law_deep")) = true := (all_at q5 (i := 14) rfl)
  have E13 : ∃ fd : FuncData, Fun K "_law_deep" "_law_deep" s_l_deep (He.ga K "_law_deep") fd := fun_at (list_at p0 (i := 12) rfl rfl) (all_at q5 (i := 13) rfl) k13
  have a14 : PySem.W.nsIn K mainGlobals "_law_short_three" = some (some (.ref (He.ga K "_law_short_three"))) := He.eqO_ok (all_at q5 (i := 15) rfl)
  have k14 : PySem.W.keepIn K (.ref (He.ga K "_law_short_three")) = true := (all_at q5 (i := 17) rfl)
  have E14 : ∃ fd : FuncData, Fun K "_law_short_three" "_law_short_three" s_l_short_three (He.ga K "_law_short_three") fd := fun_at (list_at p0 (i := 13) rfl rfl) (all_at q5 (i := 16) rfl) k14
  have a15 : PySem.W.nsIn K mainGlobals "_law_great_int" = some (some (.ref (He.ga K "_law_great_int"))) := He.eqO_ok (all_at q5 (i := 18) rfl)
  have k15 : PySem.W.keepIn K (.ref (He.ga K "_law_great_int")) = true := (all_at q5 (i := 20) rfl)
  have E15 : ∃ fd : FuncData, Fun K "_law_great_int" "_law_great_int" s_l_great_int (He.ga K "_law_great_int") fd := fun_at (list_at p0 (i := 14) rfl rfl) (all_at q5 (i := 19) rfl) k15
  have a16 : PySem.W.nsIn K mainGlobals "_law_aim" = some (some (.ref (He.ga K "_law_aim"))) := He.eqO_ok (all_at q5 (i := 21) rfl)
  have k16 : PySem.W.keepIn K (.ref (He.ga K "_law_aim")) = true := (all_at q5 (i := 23) rfl)
  have E16 : ∃ fd : FuncData, Fun K "_law_aim" "_law_aim" s_l_aim (He.ga K "_law_aim") fd := fun_at (list_at p0 (i := 15) rfl rfl) (all_at q5 (i := 22) rfl) k16
  have a17 : PySem.W.nsIn K mainGlobals "_law_not_short" = some (some (.ref (He.ga K "_law_not_short"))) := He.eqO_ok (all_at q5 (i := 24) rfl)
  have k17 : PySem.W.keepIn K (.ref (He.ga K "_law_not_short")) = true := (all_at q5 (i := 26) rfl)
  have E17 : ∃ fd : FuncData, Fun K "_law_not_short" "_law_not_short" s_l_not_short (He.ga K "_law_not_short") fd := fun_at (list_at p0 (i := 16) rfl rfl) (all_at q5 (i := 25) rfl) k17
  have a18 : PySem.W.nsIn K mainGlobals "_law_is_int" = some (some (.ref (He.ga K "_law_is_int"))) := He.eqO_ok (all_at q5 (i := 27) rfl)
  have k18 : PySem.W.keepIn K (.ref (He.ga K "_law_is_int")) = true := (all_at q5 (i := 29) rfl)
  have E18 : ∃ fd : FuncData, Fun K "_law_is_int" "_law_is_int" s_l_is_int (He.ga K "_law_is_int") fd := fun_at (list_at p0 (i := 17) rfl rfl) (all_at q5 (i := 28) rfl) k18
  have a19 : PySem.W.nsIn K mainGlobals "is_command" = some (some (.ref (He.ga K "is_command"))) := He.eqO_ok (all_at q6 (i := 0) rfl)
  have k19 : PySem.W.keepIn K (.ref (He.ga K "is_command")) = true := (all_at q6 (i := 2) rfl)
  have E19 : ∃ fd : FuncData, Fun K "is_command" "is_command" s_is_command (He.ga K "is_command") fd := fun_at (list_at p0 (i := 18) rfl rfl) (all_at q6 (i := 1) rfl) k19
  have a20 : PySem.W.nsIn K mainGlobals "is_integer" = some (some (.ref (He.ga K "is_integer"))) := He.eqO_ok (all_at q6 (i := 3) rfl)
  have k20 : PySem.W.keepIn K (.ref (He.ga K "is_integer")) = true := (all_at q6 (i := 5) rfl)
  have E20 : ∃ fd : FuncData, Fun K "is_integer" "is_integer" s_is_integer (He.ga K "is_integer") fd := fun_at (list_at p0 (i := 19) rfl rfl) (all_at q6 (i := 4) rfl) k20
  have a21 : PySem.W.nsIn K mainGlobals "is_name" = some (some (.ref (He.ga K "is_name"))) := He.eqO_ok (all_at q6 (i := 6) rfl)
  have k21 : PySem.W.keepIn K (.ref (He.ga K "is_name")) = true := (all_at q6 (i := 8) rfl)
  have E21 : ∃ fd : FuncData, Fun K "is_name" "is_name" s_is_name (He.ga K "is_name") fd := fun_at (list_at p0 (i := 20) rfl rfl) (all_at q6 (i := 7) rfl) k21
  have a22 : PySem.W.nsIn K mainGlobals "is_program" = some (some (.ref (He.ga K "is_program"))) := He.eqO_ok (all_at q6 (i := 9) rfl)
  have k22 : PySem.W.keepIn K (.ref (He.ga K "is_program")) = true := (all_at q6 (i := 11) rfl)
  have E22 : ∃ fd : FuncData, Fun K "is_program" "is_program" s_is_program (He.ga K "is_program") fd := fun_at (list_at p0 (i := 21) rfl rfl) (all_at q6 (i := 10) rfl) k22
  have a23 : PySem.W.nsIn K mainGlobals "check_program" = some (some (.ref (He.ga K "check_program"))) := He.eqO_ok (all_at q6 (i := 12) rfl)
  have k23 : PySem.W.keepIn K (.ref (He.ga K "check_program")) = true := (all_at q6 (i := 14) rfl)
  have E23 : ∃ fd : FuncData, Fun K "check_program" "check_program" s_check_program (He.ga K "check_program") fd := fun_at (list_at p0 (i := 22) rfl rfl) (all_at q6 (i := 13) rfl) k23
  have a24 : PySem.W.nsIn K mainGlobals "raw_size" = some (some (.ref (He.ga K "raw_size"))) := He.eqO_ok (all_at q6 (i := 15) rfl)
  have k24 : PySem.W.keepIn K (.ref (He.ga K "raw_size")) = true := (all_at q6 (i := 17) rfl)
  have E24 : ∃ fd : FuncData, Fun K "raw_size" "raw_size" s_raw_size (He.ga K "raw_size") fd := fun_at (list_at p0 (i := 23) rfl rfl) (all_at q6 (i := 16) rfl) k24
  have a25 : PySem.W.nsIn K mainGlobals "plain_row" = some (some (.ref (He.ga K "plain_row"))) := He.eqO_ok (all_at q6 (i := 18) rfl)
  obtain ⟨oc25, od25, sl25, kV25, dc25, pm25, an25, cd25, ct25, l25, c25⟩ := fnE_ok (dV := (.ref (dtA K (He.ga K "plain_row")))) (list_at p0 (i := 24) rfl rfl : fnE K (He.ga K "plain_row") = (some ("plain_row", "plain_row", (defArgs s_plain_row), .stmts (defBody s_plain_row), (defScope s_plain_row), mainGlobals, [], builtinsNs) : He.FnW)) (all_at q6 (i := 19) rfl)
  have k25 : PySem.W.keepIn K (.ref (He.ga K "plain_row")) = true := (all_at q6 (i := 20) rfl)
  obtain ⟨dd25, dt25_0, dn25, ds25, d25⟩ := tupI_ok (all_at q6 (i := 21) rfl)
  have a26 : PySem.W.nsIn K mainGlobals "raw_is_short" = some (some (.ref (He.ga K "raw_is_short"))) := He.eqO_ok (all_at q6 (i := 22) rfl)
  have k26 : PySem.W.keepIn K (.ref (He.ga K "raw_is_short")) = true := (all_at q6 (i := 24) rfl)
  have E26 : ∃ fd : FuncData, Fun K "raw_is_short" "raw_is_short" s_raw_is_short (He.ga K "raw_is_short") fd := fun_at (list_at p0 (i := 25) rfl rfl) (all_at q6 (i := 23) rfl) k26
  have a27 : PySem.W.findIn K (.ref (He.ga K "NotShort")) "__init__" = some (some (.ref (He.ma K (He.ga K "NotShort") "__init__"))) := He.eqO_ok (all_at q6 (i := 25) rfl)
  have i27 : PySem.W.isFn K (.ref (He.ma K (He.ga K "NotShort") "__init__")) = true := (all_at q6 (i := 26) rfl)
  have k27 : PySem.W.keepIn K (.ref (He.ma K (He.ga K "NotShort") "__init__")) = true := (all_at q6 (i := 28) rfl)
  have E27 : ∃ fd : FuncData, Fun K "__init__" "NotShort.__init__" s_NotShort___init__ (He.ma K (He.ga K "NotShort") "__init__") fd := fun_at (list_at p0 (i := 26) rfl rfl) (all_at q6 (i := 27) rfl) k27
  have a28 : PySem.W.nsIn K mainGlobals "check_short" = some (some (.ref (He.ga K "check_short"))) := He.eqO_ok (all_at q6 (i := 29) rfl)
  have k28 : PySem.W.keepIn K (.ref (He.ga K "check_short")) = true := (all_at q7 (i := 1) rfl)
  have E28 : ∃ fd : FuncData, Fun K "check_short" "check_short" s_check_short (He.ga K "check_short") fd := fun_at (list_at p0 (i := 27) rfl rfl) (all_at q7 (i := 0) rfl) k28
  have a29 : PySem.W.nsIn K mainGlobals "unrolled" = some (some (.ref (He.ga K "unrolled"))) := He.eqO_ok (all_at q7 (i := 2) rfl)
  have k29 : PySem.W.keepIn K (.ref (He.ga K "unrolled")) = true := (all_at q7 (i := 4) rfl)
  have E29 : ∃ fd : FuncData, Fun K "unrolled" "unrolled" s_unrolled (He.ga K "unrolled") fd := fun_at (list_at p0 (i := 28) rfl rfl) (all_at q7 (i := 3) rfl) k29
  have a30 : PySem.W.nsIn K mainGlobals "raw_steps" = some (some (.ref (He.ga K "raw_steps"))) := He.eqO_ok (all_at q7 (i := 5) rfl)
  have k30 : PySem.W.keepIn K (.ref (He.ga K "raw_steps")) = true := (all_at q7 (i := 7) rfl)
  have E30 : ∃ fd : FuncData, Fun K "raw_steps" "raw_steps" s_raw_steps (He.ga K "raw_steps") fd := fun_at (list_at p0 (i := 29) rfl rfl) (all_at q7 (i := 6) rfl) k30
  have a31 : PySem.W.nsIn K mainGlobals "add_step" = some (some (.ref (He.ga K "add_step"))) := He.eqO_ok (all_at q7 (i := 8) rfl)
  have k31 : PySem.W.keepIn K (.ref (He.ga K "add_step")) = true := (all_at q7 (i := 10) rfl)
  have E31 : ∃ fd : FuncData, Fun K "add_step" "add_step" s_add_step (He.ga K "add_step") fd := fun_at (list_at p1 (i := 0) rfl rfl) (all_at q7 (i := 9) rfl) k31
  have a32 : PySem.W.nsIn K mainGlobals "is_term" = some (some (.ref (He.ga K "is_term"))) := He.eqO_ok (all_at q7 (i := 11) rfl)
  have k32 : PySem.W.keepIn K (.ref (He.ga K "is_term")) = true := (all_at q7 (i := 13) rfl)
  have E32 : ∃ fd : FuncData, Fun K "is_term" "is_term" s_is_term (He.ga K "is_term") fd := fun_at (list_at p1 (i := 1) rfl rfl) (all_at q7 (i := 12) rfl) k32
  have a33 : PySem.W.nsIn K mainGlobals "summed" = some (some (.ref (He.ga K "summed"))) := He.eqO_ok (all_at q7 (i := 14) rfl)
  have k33 : PySem.W.keepIn K (.ref (He.ga K "summed")) = true := (all_at q7 (i := 16) rfl)
  have E33 : ∃ fd : FuncData, Fun K "summed" "summed" s_summed (He.ga K "summed") fd := fun_at (list_at p1 (i := 2) rfl rfl) (all_at q7 (i := 15) rfl) k33
  have a34 : PySem.W.findIn K (.ref (He.ga K "Poly")) "__init__" = some (some (.ref (He.ma K (He.ga K "Poly") "__init__"))) := He.eqO_ok (all_at q7 (i := 17) rfl)
  have i34 : PySem.W.isFn K (.ref (He.ma K (He.ga K "Poly") "__init__")) = true := (all_at q7 (i := 18) rfl)
  have k34 : PySem.W.keepIn K (.ref (He.ma K (He.ga K "Poly") "__init__")) = true := (all_at q7 (i := 20) rfl)
  have E34 : ∃ fd : FuncData, Fun K "__init__" "Poly.__init__" s_Poly___init__ (He.ma K (He.ga K "Poly") "__init__") fd := fun_at (list_at p1 (i := 3) rfl rfl) (all_at q7 (i := 19) rfl) k34
  have a35 : PySem.W.findIn K (.ref (He.ga K "Poly")) "__len__" = some (some (.ref (He.ma K (He.ga K "Poly") "__len__"))) := He.eqO_ok (all_at q7 (i := 21) rfl)
  have i35 : PySem.W.isFn K (.ref (He.ma K (He.ga K "Poly") "__len__")) = true := (all_at q7 (i := 22) rfl)
  have k35 : PySem.W.keepIn K (.ref (He.ma K (He.ga K "Poly") "__len__")) = true := (all_at q7 (i := 24) rfl)
  have E35 : ∃ fd : FuncData, Fun K "__len__" "Poly.__len__" s_Poly___len__ (He.ma K (He.ga K "Poly") "__len__") fd := fun_at (list_at p1 (i := 4) rfl rfl) (all_at q7 (i := 23) rfl) k35
  have a36 : PySem.W.nsIn K mainGlobals "place_from" = some (some (.ref (He.ga K "place_from"))) := He.eqO_ok (all_at q7 (i := 25) rfl)
  have k36 : PySem.W.keepIn K (.ref (He.ga K "place_from")) = true := (all_at q7 (i := 27) rfl)
  have E36 : ∃ fd : FuncData, Fun K "place_from" "place_from" s_place_from (He.ga K "place_from") fd := fun_at (list_at p1 (i := 5) rfl rfl) (all_at q7 (i := 26) rfl) k36
  have a37 : PySem.W.nsIn K mainGlobals "raw_effect" = some (some (.ref (He.ga K "raw_effect"))) := He.eqO_ok (all_at q7 (i := 28) rfl)
  have k37 : PySem.W.keepIn K (.ref (He.ga K "raw_effect")) = true := (all_at q8 (i := 0) rfl)
  have E37 : ∃ fd : FuncData, Fun K "raw_effect" "raw_effect" s_raw_effect (He.ga K "raw_effect") fd := fun_at (list_at p1 (i := 6) rfl rfl) (all_at q7 (i := 29) rfl) k37
  have a38 : PySem.W.nsIn K mainGlobals "effect" = some (some (.ref (He.ga K "effect"))) := He.eqO_ok (all_at q8 (i := 1) rfl)
  obtain ⟨oc38, od38, sl38, kV38, dc38, pm38, an38, cd38, ct38, l38, c38⟩ := fnE_ok (dV := .none) (list_at p1 (i := 7) rfl rfl : fnE K (He.ga K "effect") = (some ("effect", "effect", (defArgs s_effect), .stmts (defBody s_effect), (defScope s_effect), mainGlobals, [], builtinsNs) : He.FnW)) (all_at q8 (i := 2) rfl)
  have k38 : PySem.W.keepIn K (.ref (He.ga K "effect")) = true := (all_at q8 (i := 3) rfl)
  have a39 : PySem.W.nsIn K mainGlobals "raw_places" = some (some (.ref (He.ga K "raw_places"))) := He.eqO_ok (all_at q8 (i := 4) rfl)
  have k39 : PySem.W.keepIn K (.ref (He.ga K "raw_places")) = true := (all_at q8 (i := 6) rfl)
  have E39 : ∃ fd : FuncData, Fun K "raw_places" "raw_places" s_raw_places (He.ga K "raw_places") fd := fun_at (list_at p1 (i := 8) rfl rfl) (all_at q8 (i := 5) rfl) k39
  have a40 : PySem.W.nsIn K mainGlobals "places" = some (some (.ref (He.ga K "places"))) := He.eqO_ok (all_at q8 (i := 7) rfl)
  have k40 : PySem.W.keepIn K (.ref (He.ga K "places")) = true := (all_at q8 (i := 9) rfl)
  have E40 : ∃ fd : FuncData, Fun K "places" "places" s_places (He.ga K "places") fd := fun_at (list_at p1 (i := 9) rfl rfl) (all_at q8 (i := 8) rfl) k40
  have a41 : PySem.W.nsIn K mainGlobals "raw_strokes" = some (some (.ref (He.ga K "raw_strokes"))) := He.eqO_ok (all_at q8 (i := 10) rfl)
  have k41 : PySem.W.keepIn K (.ref (He.ga K "raw_strokes")) = true := (all_at q8 (i := 12) rfl)
  have E41 : ∃ fd : FuncData, Fun K "raw_strokes" "raw_strokes" s_raw_strokes (He.ga K "raw_strokes") fd := fun_at (list_at p1 (i := 10) rfl rfl) (all_at q8 (i := 11) rfl) k41
  have a42 : PySem.W.nsIn K mainGlobals "strokes" = some (some (.ref (He.ga K "strokes"))) := He.eqO_ok (all_at q8 (i := 13) rfl)
  obtain ⟨oc42, od42, sl42, kV42, dc42, pm42, an42, cd42, ct42, l42, c42⟩ := fnE_ok (dV := .none) (list_at p1 (i := 11) rfl rfl : fnE K (He.ga K "strokes") = (some ("strokes", "strokes", (defArgs s_strokes), .stmts (defBody s_strokes), (defScope s_strokes), mainGlobals, [], builtinsNs) : He.FnW)) (all_at q8 (i := 14) rfl)
  have k42 : PySem.W.keepIn K (.ref (He.ga K "strokes")) = true := (all_at q8 (i := 15) rfl)
  have a43 : PySem.W.nsIn K mainGlobals "_law_asked" = some (some (.ref (He.ga K "_law_asked"))) := He.eqO_ok (all_at q8 (i := 16) rfl)
  have k43 : PySem.W.keepIn K (.ref (He.ga K "_law_asked")) = true := (all_at q8 (i := 18) rfl)
  have E43 : ∃ fd : FuncData, Fun K "_law_asked" "_law_asked" s_l_asked (He.ga K "_law_asked") fd := fun_at (list_at p1 (i := 12) rfl rfl) (all_at q8 (i := 17) rfl) k43
  have a44 : PySem.W.nsIn K mainGlobals "_law_let" = some (some (.ref (He.ga K "_law_let"))) := He.eqO_ok (all_at q8 (i := 19) rfl)
  have k44 : PySem.W.keepIn K (.ref (He.ga K "_law_let")) = true := (all_at q8 (i := 21) rfl)
  have E44 : ∃ fd : FuncData, Fun K "_law_let" "_law_let" s_l_let (He.ga K "_law_let") fd := fun_at (list_at p1 (i := 13) rfl rfl) (all_at q8 (i := 20) rfl) k44
  have a45 : PySem.W.nsIn K mainGlobals "_law_no_piece" = some (some (.ref (He.ga K "_law_no_piece"))) := He.eqO_ok (all_at q8 (i := 22) rfl)
  have k45 : PySem.W.keepIn K (.ref (He.ga K "_law_no_piece")) = true := (all_at q8 (i := 24) rfl)
  have E45 : ∃ fd : FuncData, Fun K "_law_no_piece" "_law_no_piece" s_l_no_piece (He.ga K "_law_no_piece") fd := fun_at (list_at p1 (i := 14) rfl rfl) (all_at q8 (i := 23) rfl) k45
  have a46 : PySem.W.nsIn K mainGlobals "law" = some (some (.ref (He.ga K "law"))) := He.eqO_ok (all_at q8 (i := 25) rfl)
  obtain ⟨oc46, od46, sl46, kV46, dc46, pm46, an46, cd46, ct46, l46, c46⟩ := fnE_ok (dV := .none) (list_at p1 (i := 15) rfl rfl : fnE K (He.ga K "law") = (some ("law", "law", (defArgs s_law), .stmts (defBody s_law), (defScope s_law), mainGlobals, [], builtinsNs) : He.FnW)) (all_at q8 (i := 26) rfl)
  have k46 : PySem.W.keepIn K (.ref (He.ga K "law")) = true := (all_at q8 (i := 27) rfl)
  have z_ValueError : PySem.W.nsIn K mainGlobals "ValueError" = some none := He.eqO_ok (all_at q8 (i := 28) rfl)
  have z_abs : PySem.W.nsIn K mainGlobals "abs" = some none := He.eqO_ok (all_at q8 (i := 29) rfl)
  have z_all : PySem.W.nsIn K mainGlobals "all" = some none := He.eqO_ok (all_at q9 (i := 0) rfl)
  have z_bool : PySem.W.nsIn K mainGlobals "bool" = some none := He.eqO_ok (all_at q9 (i := 1) rfl)
  have z_enumerate : PySem.W.nsIn K mainGlobals "enumerate" = some none := He.eqO_ok (all_at q9 (i := 2) rfl)
  have z_int : PySem.W.nsIn K mainGlobals "int" = some none := He.eqO_ok (all_at q9 (i := 3) rfl)
  have z_isinstance : PySem.W.nsIn K mainGlobals "isinstance" = some none := He.eqO_ok (all_at q9 (i := 4) rfl)
  have z_len : PySem.W.nsIn K mainGlobals "len" = some none := He.eqO_ok (all_at q9 (i := 5) rfl)
  have z_list : PySem.W.nsIn K mainGlobals "list" = some none := He.eqO_ok (all_at q9 (i := 6) rfl)
  have z_max : PySem.W.nsIn K mainGlobals "max" = some none := He.eqO_ok (all_at q9 (i := 7) rfl)
  have z_min : PySem.W.nsIn K mainGlobals "min" = some none := He.eqO_ok (all_at q9 (i := 8) rfl)
  have z_range : PySem.W.nsIn K mainGlobals "range" = some none := He.eqO_ok (all_at q9 (i := 9) rfl)
  have z_sorted : PySem.W.nsIn K mainGlobals "sorted" = some none := He.eqO_ok (all_at q9 (i := 10) rfl)
  have z_str : PySem.W.nsIn K mainGlobals "str" = some none := He.eqO_ok (all_at q9 (i := 11) rfl)
  have z_sum : PySem.W.nsIn K mainGlobals "sum" = some none := He.eqO_ok (all_at q9 (i := 12) rfl)
  have z_tuple : PySem.W.nsIn K mainGlobals "tuple" = some none := He.eqO_ok (all_at q9 (i := 13) rfl)
  have aS : PySem.W.nsIn K mainGlobals "STEPS" = some (some (.ref (He.ga K "STEPS"))) := He.eqO_ok (all_at q9 (i := 14) rfl)
  obtain ⟨esS, nS, ⟨lS, kS, oS⟩⟩ := He.dicW_ok (list_at pt (i := 0) rfl rfl : He.dicW K (He.ga K "STEPS") = some (He.keysIn w.params ["go", "hop", "back", "slip"]))
  obtain ⟨t1S, e1S⟩ := intC_ok (all_at q9 (i := 15) rfl)
  obtain ⟨t2S, e2S⟩ := intC_ok (all_at q9 (i := 16) rfl)
  obtain ⟨t3S, e3S⟩ := intC_ok (all_at q9 (i := 17) rfl)
  obtain ⟨t4S, e4S⟩ := intC_ok (all_at q9 (i := 18) rfl)
  have wS : wordsOnly K (He.ga K "STEPS") = true := (all_at q9 (i := 19) rfl)
  obtain ⟨tMC, mMC⟩ := intC_ok (all_at q9 (i := 20) rfl)
  obtain ⟨tMH, mMH⟩ := intC_ok (all_at q9 (i := 21) rfl)
  have aDR : PySem.W.nsIn K mainGlobals "DRAWN" = some (some (.ref (He.ga K "DRAWN"))) := He.eqO_ok (all_at q9 (i := 22) rfl)
  obtain ⟨ddDR, t1DR, t2DR, nDR, sDR, lDR⟩ := tupSS_ok (all_at q9 (i := 23) rfl)
  exact all_mk X G hfa aC pgP hdP poP saP mk_Poly kc_Poly nRP sfP icP moP caP cnP ctP cmP tyP s1P s2P s3P s4P s5P s6P t1P t2P t3P t4P xAngleErrorg xAngleErrorxi xAngleErrork xAngleErrorb xAngleErrort xAngleErrorga xAngleErrorgt xAngleErrord xAngleErrorcl xAngleErrorcn xAngleErrorct xAngleErrormr xAngleErrorcs xInvalidProgramg xInvalidProgramxi xInvalidProgramk xInvalidProgramb xInvalidProgramt xInvalidProgramga xInvalidProgramgt xInvalidProgramd xInvalidProgramcl xInvalidProgramcn xInvalidProgramct xInvalidProgrammr xInvalidProgramcs xInvalidCountg xInvalidCountxi xInvalidCountk xInvalidCountb xInvalidCountt xInvalidCountga xInvalidCountgt xInvalidCountd xInvalidCountcl xInvalidCountcn xInvalidCountct xInvalidCountmr xInvalidCountcs xInvalidIndexg xInvalidIndexxi xInvalidIndexk xInvalidIndexb xInvalidIndext xInvalidIndexga xInvalidIndexgt xInvalidIndexd xInvalidIndexcl xInvalidIndexcn xInvalidIndexct xInvalidIndexmr xInvalidIndexcs xNotAChaing xNotAChainxi xNotAChaink xNotAChainb xNotAChaint xNotAChainga xNotAChaingt xNotAChaind xNotAChaincl xNotAChaincn xNotAChainct xNotAChainmr xNotAChaincs yNotShortg yNotShortoe yNotShortsa yNotShortk yNotShortb yNotShortt yNotShortga yNotShortgt yNotShortd yNotShortcl yNotShortcn yNotShortct yNotShortmr yNotShortcs yNotShortno uNotShort_AngleError uNotShort_TValueError uInvalidProgram_AngleError uInvalidProgram_TValueError uInvalidProgram_Ttuple uInvalidProgram_NotShort uInvalidProgram_NotShortn uNotShort_InvalidProgram uNotShort_InvalidProgramn uNotShort_InvalidCount uNotShort_InvalidCountn uNotShort_InvalidIndex uNotShort_InvalidIndexn uNotShort_NotAChain uNotShort_NotAChainn uInvalidProgram_InvalidCount uInvalidProgram_InvalidCountn uInvalidProgram_InvalidIndex uInvalidProgram_InvalidIndexn uInvalidProgram_NotAChain uInvalidProgram_NotAChainn a1 k1 E1 a2 k2 E2 a3 k3 E3 a4 k4 E4 a5 k5 E5 a6 k6 E6 a7 k7 E7 a8 k8 E8 a9 k9 E9 a10 k10 E10 a11 k11 E11 a12 k12 E12 a13 k13 E13 a14 k14 E14 a15 k15 E15 a16 k16 E16 a17 k17 E17 a18 k18 E18 a19 k19 E19 a20 k20 E20 a21 k21 E21 a22 k22 E22 a23 k23 E23 a24 k24 E24 a25 l25 c25 k25 d25 a26 k26 E26 a27 i27 k27 E27 a28 k28 E28 a29 k29 E29 a30 k30 E30 a31 k31 E31 a32 k32 E32 a33 k33 E33 a34 i34 k34 E34 a35 i35 k35 E35 a36 k36 E36 a37 k37 E37 a38 l38 c38 k38 a39 k39 E39 a40 k40 E40 a41 k41 E41 a42 l42 c42 k42 a43 k43 E43 a44 k44 E44 a45 k45 E45 a46 l46 c46 k46 z_ValueError z_abs z_all z_bool z_enumerate z_int z_isinstance z_len z_list z_max z_min z_range z_sorted z_str z_sum z_tuple aS lS kS oS e1S e2S e3S e4S wS mMC mMH aDR lDR
end
end My
open PySem PySem.W PyProof.Rows
set_option maxRecDepth 100000 in
theorem PySem.Challenge.cw_everyangle_k31_programs_that_are_not_sho_holds : PySem.Challenge.rw_everyangle_k31_programs_that_are_not_sho.Holds := by
  exact My.hd_law fun w K h mg fa KX G hfa c => My.hd_facts (l := PySem.Challenge.rw_everyangle_k31_programs_that_are_not_sho) KX G hfa c
