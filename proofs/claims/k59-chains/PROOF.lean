import PyProof.Rows.All
import Wide.All
import OpenK.AllK
import Wide.FinOn
import KE.KStateDown
import HandS.Base
import HandS.Call
import HandS.Exc
import HandS.Defaults
import HandS.Words
import HandS.List
import HandS.Dict
import HandS.More
import HandS.Head0
import HandS.Head1
import HandS.Head2
import HandS.HeadEnd
import HandS.HeadHook1
import HandS.HeadHook2
import HandS.HeadHook3
import HandS.ForMost
import HandS.Wide
import HandS.WideMore
import HandS.Flow
import HandS.IsInst
import HandS.Text
import Lean
import HandS.Walk
import KE.GoesMore
import HandS.TupAny
import PyProof.StrOps2
import HandS.Rev
import HandS.Style
import KE.KRevSl
import HandS.SetKeys
import HandS.SortInts
import KE.KOpsOwn
import HandS.Property
import HandS.SlotsOwn
import HandS.MakeKw
import HandS.ExcValue
import HandS.ExcIs
import HandS.ExcOwn
import HandS.WordsExc
import KE.KOwnIter
import KE.KDictIter
import HandS.IterNext
import PyProof.TwoTypes
import PyProof.FactsAll.int_1
import PyProof.FactsAll.int_3
import PyProof.FactsAll.int_5
import HandS.ListItems
import HandS.WideBits
import HandS.DictComp
import HandS.Set
import HandS.SetFor
import HandS.Strs
import PyProof.Rows.SortShellAny
import KE.DatumOrd
import KE.DataMinMax
import HandS.SortKw
import HandS.Records
import HandS.Small
import HandS.DeepEq
import HandS.Conv
import KE.KEqDict
import PySem.Challenge.RW_everyangle_k59_chains
set_option Elab.async false
set_option linter.all false
set_option maxRecDepth 100000
set_option maxHeartbeats 4000000
/-! The head's facts by one kernel run: what is looked at, and what each look says. -/
namespace My
open PySem PySem.Spec PyProof.Rows L2
theorem all_at {l : List Bool} (h : l.all id = true) {i : Nat} {b : Bool} (e : l[i]? = some b) : b = true := List.all_eq_true.mp h b (List.mem_of_getElem? e)
theorem list_at {α : Type} {l m : List α} (e : l = m) {i : Nat} {a b : α} (h1 : l[i]? = some a) (h2 : m[i]? = some b) : a = b := by
  subst e
  rw [h1] at h2
  exact Option.some.inj h2
def intC (o : Option (Option Value)) (i : Int) : Bool := match o with
  | some (some (.int j _)) => decide (j = i)
  | _ => false
theorem intC_ok {o : Option (Option Value)} {i : Int} (h : intC o i = true) : ∃ t, o = some (some (.int i t)) := by
  unfold intC at h
  split at h
  · rename_i j t
    exact ⟨t, by rw [of_decide_eq_true h]⟩
  · cases h
def clsC (o : Option ClassData) (m : List Value) : Bool := match o with
  | some cd => decide (cd.mro = m)
  | none => false
theorem clsC_ok {o : Option ClassData} {m : List Value} (h : clsC o m = true) : ∃ cd, o = some cd ∧ cd.mro = m := by
  unfold clsC at h
  split at h
  · exact ⟨_, rfl, of_decide_eq_true h⟩
  · cases h
section
variable {K : PySem.W.Frag}
def fnE (K : PySem.W.Frag) (f : Addr) : He.FnW := match K.lookup f with
  | some ⟨_, _, .func fd, _⟩ => some (fd.name, fd.qualname, fd.params, fd.body, fd.scope, fd.globals, fd.closure, fd.builtins)
  | _ => none
def fnC (K : PySem.W.Frag) (f : Addr) (q : Str) (dV : Value) : Bool := match K.lookup f with
  | some ⟨_, _, .func fd, _⟩ => PySem.W.codeIn K fd.code q && decide (fd.defaults = dV)
  | _ => false
theorem fnE_ok {f : Addr} {x q : Str} {ps : Arguments} {body : List Stmt} {sc : Scope} {dV : Value} (e : fnE K f = some (x, q, ps, .stmts body, sc, mainGlobals, [], builtinsNs)) (c : fnC K f q dV = true) :
    ∃ oc od osl kV doc pm an cdv ct, K.lookup f = some ⟨oc, od, .func (PySem.W.fnOf x q ps body sc dV kV doc pm an cdv ct), osl⟩ ∧ PySem.W.codeIn K cdv q = true := by
  unfold fnC at c
  unfold fnE at e
  cases l : K.lookup f with
  | none =>
    rw [l] at c
    cases c
  | some o =>
    obtain ⟨oc, od, dt, osl⟩ := o
    rw [l] at c e
    cases dt with
    | func fd =>
      obtain ⟨n1, n2, n3, n4, n5, n6, n7, n8, n9, n10, n11, n12, n13, n14, n15⟩ := fd
      have e2 : (some (n1, n2, n3, n4, n5, n6, n7, n15) : He.FnW) = some (x, q, ps, .stmts body, sc, mainGlobals, [], builtinsNs) := e
      simp only [Option.some.injEq, Prod.mk.injEq] at e2
      obtain ⟨h1, h2, h3, h4, h5, h6, h7, h8⟩ := e2
      subst h1 h2 h3 h4 h5 h6 h7 h8
      have c3 : (PySem.W.codeIn K n13 n2 && decide (n8 = dV)) = true := c
      obtain ⟨k1, k2⟩ := He.ba c3
      have k3 := of_decide_eq_true k2
      subst k3
      exact ⟨oc, od, osl, n9, n10, n11, n12, n13, n14, rfl, k1⟩
    | _ => cases c
theorem fun_at {f : Addr} {x q : Str} {st : Stmt} (e : fnE K f = some (x, q, defArgs st, .stmts (defBody st), defScope st, mainGlobals, [], builtinsNs)) (c : fnC K f q .none = true) (k : PySem.W.keepIn K (.ref f) = true) : ∃ fd : FuncData, Fun K x q st f fd := by
  obtain ⟨oc, od, osl, kV, doc, pm, an, cdv, ct, l, h⟩ := fnE_ok e c
  exact ⟨_, ⟨oc, od, kV, doc, pm, an, cdv, ct, osl, rfl, l, h⟩, k⟩
def dtA (K : PySem.W.Frag) (f : Addr) : Addr := match K.lookup f with
  | some ⟨_, _, .func fd, _⟩ => (match fd.defaults with
    | .ref T => T
    | _ => 0)
  | _ => 0
def prF (K : PySem.W.Frag) (p : Addr) : Addr := match PySem.W.recIn K p "property" with
  | some (.ref f :: _) => f
  | _ => 0
def prR (K : PySem.W.Frag) (p : Addr) : List Value := match PySem.W.recIn K p "property" with
  | some (.ref _ :: r) => r
  | _ => []
def prC (K : PySem.W.Frag) (p : Addr) : Bool := match PySem.W.recIn K p "property" with
  | some (.ref _ :: _) => true
  | _ => false
theorem prC_ok {p : Addr} (h : prC K p = true) : PySem.W.recIn K p "property" = some (.ref (prF K p) :: prR K p) := by
  unfold prC at h
  unfold prF prR
  cases e : PySem.W.recIn K p "property" with
  | none =>
    rw [e] at h
    cases h
  | some l =>
    rw [e] at h
    cases l with
    | nil => cases h
    | cons v r =>
      cases v with
      | ref f => rfl
      | _ => cases h
def tupI (K : PySem.W.Frag) (a : Addr) (i : Int) : Bool := match K.lookup a with
  | some ⟨.type c, _, .seq its _, _⟩ => decide (c = "tuple") && (match its.toList with
    | [.int j _] => decide (j = i)
    | _ => false)
  | _ => false
theorem tupI_ok {a : Addr} {i : Int} (h : tupI K a i = true) : ∃ dd t n s, K.lookup a = some ⟨.type "tuple", dd, .seq #[.int i t] n, s⟩ := by
  unfold tupI at h
  split at h
  · rename_i c dd its n s e
    obtain ⟨h1, h2⟩ := He.ba h
    have h3 := of_decide_eq_true h1
    subst h3
    obtain ⟨l⟩ := its
    split at h2
    · rename_i j t e2
      have e3 : l = [.int j t] := e2
      have h4 := of_decide_eq_true h2
      subst e3 h4
      exact ⟨dd, t, n, s, e⟩
    · cases h2
  · cases h
end
/-- what the module's names reach in n steps, level by level (with doublets) -/
def hdLv (g : Addr → Option Obj) : Nat → List Addr → List Addr
  | 0, as => as
  | n + 1, as => as ++ hdLv g n (as.flatMap fun a => match g a with
    | some o => He.refsD o
    | none => [])
/-- a fact of every world: at each answer of the one row of the world that the top asks -/
theorem by_row {P : World → Prop} (hf : ∀ w : World, P (w.withFollow "special-get-raises" false)) (ht : ∀ w : World, P (w.withFollow "special-get-raises" true)) (w : World) : P w := PySem.W.byRow2 "special-get-raises" hf ht w
end My

set_option Elab.async false
set_option linter.all false
set_option maxRecDepth 100000
namespace My
open PySem PySem.Spec PyProof.Rows L2

/-! ### a def of the text, by its name -/
structure Has (P : Program) (w : World) (K : PySem.W.Frag) (mg : Str → Option Value) (base : Heap) (x : Str) (k : Nat) (ps : List Str) (sp : Sp) : Prop where
  ex : ∃ f fd, FnOk P w K mg base CX0 k f fd ps sp ∧ mg x = some (.ref f) ∧ PySem.W.keepIn K (.ref f) = true ∧ Binds K fd ps []
theorem Has.mono {P : Program} {w : World} {K : PySem.W.Frag} {mg : Str → Option Value} {base : Heap} {x : Str} {j k : Nat} {ps : List Str} {sp : Sp} (h : Has P w K mg base x j ps sp) (hk : j ≤ k) : Has P w K mg base x k ps sp := by
  obtain ⟨f, fd, F, a, b, c⟩ := h.ex
  exact ⟨f, fd, F.mono hk, a, b, c⟩
section
variable {X : Cx} {k : Nat} {ps : List Str} {sp : Sp} {x : Str} {p pos : Pos} {e : Expr} {es : List Expr} {t : TA}
theorem pe_callH (h : Has X.prog X.w X.K X.mg X.base x k ps sp) (hr : Room k X.A) (ha : PA X (e :: es) t) (hg : Gl X x := by rfl) (hdb : (x == ("__debug__" : Str)) = false := by decide)
   (hs : starEach (e :: es) X.env = (false, eval e X.env) :: starEach es X.env := by rfl) (hplain : (backTo pos (starEach es X.env)).any (·.1) = false := by rfl) :
   PE X (.Call (.Name x p) (e :: es) [] pos) (tCall sp [] E0 t) := by
  obtain ⟨f, fd, F, a, b, c⟩ := h.ex
  exact pe_call F hr hg a b c .nil pass0 ha hdb hs hplain
end
/-- int(n) of an int, of a truth -/
theorem call_intI {X : Cx} : CallR X (.type "int") (fun xs H Q => ∃ i, xs = [.int i] ∧ Q (.int i) H) := fun pins s σ H xs us Q I r h => call_int1 pins s σ H xs us Q I r (.inl h)
/-! ### readings, one step at a time -/
section
variable {σ : L2.St} {H : Hp} {Q : VK} {i j : Nat} {v x y : V} {ta tb tc te ti to : TE} {K : PySem.W.Frag}
theorem r_var (e : σ[i]? = some (some v)) (q : Q v H) : tVar i σ H Q := ⟨v, e, q⟩
theorem r_c (q : Q v H) : tC v σ H Q := q
theorem r_op {r : R2} (q : ta σ H fun x H1 => tb σ H1 fun y H2 => r x y H2 Q) : tOp r ta tb σ H Q := q
theorem r_un {r : V → Hp → VK → Prop} (q : ta σ H fun x H1 => r x H1 Q) : tUn r ta σ H Q := q
theorem r_rI {C : Int → Int → Prop} {g : Int → Int → V} {a b : Int} (c : C a b) (q : Q (g a b) H) : rI C g (.int a) (.int b) H Q := ⟨a, b, rfl, rfl, c, q⟩
theorem r_rI0 {g : Int → Int → V} {a b : Int} (q : Q (g a b) H) : rI0 g (.int a) (.int b) H Q := ⟨a, b, rfl, rfl, q⟩
theorem r_rU {g : Int → V} {a : Int} (q : Q (g a) H) : rU g (.int a) H Q := ⟨a, rfl, q⟩
theorem r_eq (s : scal x y = true) (q : Q (.bl (decide (x = y))) H) : rEq x y H Q := ⟨s, q⟩
theorem r_ne (s : scal x y = true) (q : Q (.bl (!decide (x = y))) H) : rNe x y H Q := ⟨s, q⟩
theorem dec_int {a b : Int} : decide (V.int a = V.int b) = decide (a = b) := by
  by_cases h : a = b
  · rw [h]; simp
  · rw [decide_eq_false h, decide_eq_false (fun e => h (V.int.inj e))]
theorem dec_bl {a b : Bool} : decide (V.bl a = V.bl b) = decide (a = b) := by
  by_cases h : a = b
  · rw [h]; simp
  · rw [decide_eq_false h, decide_eq_false (fun e => h (V.bl.inj e))]
theorem dec_str {a b : Str} : decide (V.str a = V.str b) = decide (a = b) := by
  by_cases h : a = b
  · rw [h]; simp
  · rw [decide_eq_false h, decide_eq_false (fun e => h (V.str.inj e))]
theorem r_eqI {a b : Int} (q : Q (.bl (decide (a = b))) H) : rEq (.int a) (.int b) H Q := ⟨rfl, by rw [dec_int]; exact q⟩
theorem r_neI {a b : Int} (q : Q (.bl (!decide (a = b))) H) : rNe (.int a) (.int b) H Q := ⟨rfl, by rw [dec_int]; exact q⟩
theorem r_eqB {a b : Bool} (q : Q (.bl (decide (a = b))) H) : rEq (.bl a) (.bl b) H Q := ⟨rfl, by rw [dec_bl]; exact q⟩
theorem r_neB {a b : Bool} (q : Q (.bl (!decide (a = b))) H) : rNe (.bl a) (.bl b) H Q := ⟨rfl, by rw [dec_bl]; exact q⟩
theorem r_eqS {a b : Str} (q : Q (.bl (decide (a = b))) H) : rEq (.str a) (.str b) H Q := ⟨rfl, by rw [dec_str]; exact q⟩
theorem r_neS {a b : Str} (q : Q (.bl (!decide (a = b))) H) : rNe (.str a) (.str b) H Q := ⟨rfl, by rw [dec_str]; exact q⟩
theorem r_ixL {p : Addr} {xs : List V} {n : Int} (h : SqL K H p xs) (e : atI xs n = some v) (q : Q v H) : rIxL K (.ref p) (.int n) H Q := ⟨p, xs, n, v, rfl, rfl, h, e, q⟩
theorem r_ixT {p : Addr} {xs : List V} {n : Int} (h : SqT K H p xs) (e : atI xs n = some v) (q : Q v H) : rIxT K (.ref p) (.int n) H Q := ⟨p, xs, n, v, rfl, rfl, h, e, q⟩
theorem r_cb {r : List V → Hp → VK → Prop} {t : TA} (q : t σ H fun vs H1 => r vs H1 Q) : tCB r t σ H Q := q
theorem r_call {sp : Sp} {E : XK} {t : TA} (q : t σ H fun vs H1 => sp vs H1 Q E) : tCall sp [] E t σ H Q := by
  unfold tCall
  simpa only [List.append_nil] using q
theorem r_cons {t : TA} {R : List V → Hp → Prop} (q : te σ H fun x H1 => t σ H1 fun xs H2 => R (x :: xs) H2) : tCons te t σ H R := q
theorem r_nil {R : List V → Hp → Prop} (q : R [] H) : tNil σ H R := q
theorem r_lst {t : TA} (q : t σ H fun xs H1 => xs.length ≤ sizeLine ∧ ∀ p, H1 p = none → Q (.ref p) (upd H1 p (.lst xs))) : tLst t σ H Q := q
theorem r_tup {t : TA} (q : t σ H fun xs H1 => xs.length ≤ sizeLine ∧ ∀ p, H1 p = none → Q (.ref p) (upd H1 p (.tup xs))) : tTup t σ H Q := q
theorem small_of {n : Nat} (h : n ≤ 100000) : n ≤ sizeLine := Nat.le_trans h (by decide)
theorem r_new {A : Prop} {n : Nat} (h : n ≤ 100000) (q : A) : n ≤ sizeLine ∧ A := ⟨small_of h, q⟩
theorem r_exbl {b : Bool} {R : Bool → Prop} (q : R b) : ∃ k, V.bl b = V.bl k ∧ R k := ⟨b, rfl, q⟩
theorem r_exint {n : Int} {R : Int → Prop} (q : R n) : ∃ k, [V.int n] = [V.int k] ∧ R k := ⟨n, rfl, q⟩
theorem r_exint2 {n m : Int} {R : Int → Int → Prop} (q : R n m) : ∃ k l, [V.int n, V.int m] = [V.int k, V.int l] ∧ R k l := ⟨n, m, rfl, q⟩
theorem r_exblL {b : Bool} {R : Bool → Prop} (q : R b) : ∃ k, [V.bl b] = [V.bl k] ∧ R k := ⟨b, rfl, q⟩
theorem r_test {t : TE} {R : Bool → Hp → Prop} (q : t σ H fun x H' => ∃ k, x = .bl k ∧ R k H') : tTest t σ H R := q
theorem r_tB {t : TE} {R : Bool → Hp → Prop} (q : t σ H fun x H' => ∃ k, x = .bl k ∧ R k H') : tB t σ H R := q
theorem r_not {t : TT} {R : Bool → Hp → Prop} (q : t σ H fun c H1 => R (!c) H1) : tNot t σ H R := q
theorem r_and {t u : TT} {R : Bool → Hp → Prop} (q : t σ H fun c H1 => if c = true then u σ H1 R else R false H1) : tAnd t u σ H R := q
theorem r_or {t u : TT} {R : Bool → Hp → Prop} (q : t σ H fun c H1 => if c = true then R true H1 else u σ H1 R) : tOr t u σ H R := q
theorem r_andV (q : ta σ H fun x H1 => ∃ c, x = .bl c ∧ if c = true then tb σ H1 Q else Q (.bl false) H1) : tAndV ta tb σ H Q := q
theorem r_orV (q : ta σ H fun x H1 => ∃ c, x = .bl c ∧ if c = true then Q (.bl true) H1 else tb σ H1 Q) : tOrV ta tb σ H Q := q
theorem r_notV (q : ta σ H fun x H1 => ∃ c, x = .bl c ∧ Q (.bl (!c)) H1) : tNotV ta σ H Q := q
theorem r_tif {t : TT} (q : t σ H fun c H1 => if c = true then ta σ H1 Q else tb σ H1 Q) : tIf t ta tb σ H Q := q
theorem r_iteT {A B : Prop} (q : A) : if true = true then A else B := by rw [if_pos rfl]; exact q
theorem r_iteF {A B : Prop} (q : B) : if false = true then A else B := by rw [if_neg Bool.false_ne_true]; exact q
theorem r_ite {b : Bool} {A B : Prop} (q : b = true → A) (q' : b = false → B) : if b = true then A else B := by
  cases b with
  | true => rw [if_pos rfl]; exact q rfl
  | false => rw [if_neg Bool.false_ne_true]; exact q' rfl
theorem r_iteD {c A B : Prop} [Decidable c] (q : c → A) (q' : ¬ c → B) : if decide c = true then A else B := by
  by_cases h : c
  · rw [if_pos (decide_eq_true h)]; exact q h
  · rw [if_neg (by simpa using h)]; exact q' h
theorem r_iteN {c A B : Prop} [Decidable c] (q : ¬ c → A) (q' : c → B) : if (!decide c) = true then A else B := by
  by_cases h : c
  · rw [if_neg (by simpa using h)]; exact q' h
  · rw [if_pos (by simpa using h)]; exact q h
theorem r_iteNT {A B : Prop} (q : B) : if (!true) = true then A else B := r_iteF q
theorem r_iteNF {A B : Prop} (q : A) : if (!false) = true then A else B := r_iteT q
theorem r_iteDT {c A B : Prop} [Decidable c] (h : c) (q : A) : if decide c = true then A else B := by rw [if_pos (decide_eq_true h)]; exact q
theorem r_iteDF {c A B : Prop} [Decidable c] (h : ¬ c) (q : B) : if decide c = true then A else B := by rw [if_neg (by simpa using h)]; exact q
theorem r_iteNDT {c A B : Prop} [Decidable c] (h : ¬ c) (q : A) : if (!decide c) = true then A else B := by rw [if_pos (by simpa using h)]; exact q
theorem r_iteNDF {c A B : Prop} [Decidable c] (h : c) (q : B) : if (!decide c) = true then A else B := by rw [if_neg (by simpa using h)]; exact q
/-- a statement, then the rest, with a word between them -/
def tCutM (t u : TS) : TS := fun D σ H => ∃ Mid : L2.St → Hp → Prop, t { D with nx := Mid } σ H ∧ ∀ σ' H', Mid σ' H' → u D σ' H'
theorem pss_cutM {X : Cx} {st : Stmt} {rest : List Stmt} {t u : TS} (h1 : PS X st t) (h2 : PSs X rest u) : PSs X (st :: rest) (tCutM t u) := by
  refine ⟨fun pins s σ H D I h => ?_⟩
  obtain ⟨Mid, hm, hu⟩ := h
  refine wpAny_execs_cons (thn (h1.run pins s σ H { D with nx := Mid } I hm) fun f s1 q => ?_)
  cases f with
  | next =>
    obtain ⟨σ', H', I', q⟩ := q
    exact h2.run pins s1 σ' H' D I' (hu σ' H' q)
  | ret v => exact q
  | brk => exact q
  | cont => exact q
variable {D : Ends} {t u : TS} {g : TG} {c : TT}
theorem r_cut (Mid : L2.St → Hp → Prop) (h : t { D with nx := Mid } σ H) (q : ∀ σ' H', Mid σ' H' → u D σ' H') : tCutM t u D σ H := ⟨Mid, h, q⟩
theorem r_seq (q : t { D with nx := u D } σ H) : tSeq t u D σ H := q
theorem r_next (q : D.nx σ H) : tNext D σ H := q
theorem r_brk (q : D.bk σ H) : tBreak D σ H := q
theorem r_cont (q : D.ct σ H) : tCont D σ H := q
theorem r_asg (q : te σ H fun x H1 => g x σ H1 D.nx) : tAsg te g D σ H := q
theorem r_gname {R : L2.St → Hp → Prop} (q : R (σ.set i (some v)) H) : gName i v σ H R := q
theorem r_ret (q : te σ H D.rt) : tRet te D σ H := q
theorem r_retN (q : D.rt .non H) : tRetN D σ H := q
theorem r_drop (q : te σ H fun _ H1 => D.nx σ H1) : tDrop te D σ H := q
theorem r_if (q : c σ H fun b H1 => if b = true then t D σ H1 else u D σ H1) : tIfS c t u D σ H := q
theorem r_aug {ip : TIp} (e : σ[i]? = some (some x)) (q : te σ H fun y H1 => ip x y H1 fun z H2 => D.nx (σ.set i (some z)) H2) : tAug i te ip D σ H := ⟨x, e, q⟩
theorem r_ipI {f : Int → Int → Int} {a b : Int} (q : Q (.int (f a b)) H) : ipI f (.int a) (.int b) H Q := ⟨a, b, rfl, rfl, q⟩
theorem r_augS {gt : V → V → Hp → VK → Prop} {ip : TIp} {st : TSet} (q : to σ H fun o H1 => ti σ H1 fun i H2 => gt o i H2 fun x H3 => te σ H3 fun y H4 => ip x y H4 fun z H5 => st o i z H5 fun H6 => D.nx σ H6) : tAugS to ti te gt ip st D σ H := q
theorem r_gsub {st : TSet} {R : L2.St → Hp → Prop} (q : to σ H fun o H1 => ti σ H1 fun i H2 => st o i v H2 fun H3 => R σ H3) : gSub to ti st v σ H R := q
theorem r_setL {p : Addr} {xs : List V} {n : Int} {m : Nat} {R : Hp → Prop} (h : H p = some (.lst xs)) (e : ixN xs.length n = some m) (q : R (upd H p (.lst (xs.set m v)))) : rSetL (.ref p) (.int n) v H R := ⟨p, xs, n, m, rfl, rfl, h, e, q⟩
theorem r_par {i j : Nat} {tas : TA} (q : tas σ H fun vs H1 => ∃ v w, vs = [v, w] ∧ D.nx ((σ.set i (some v)).set j (some w)) H1) : tPar i j tas D σ H := q
theorem r_ex2 {v w : V} {R : V → V → Prop} (q : R v w) : ∃ a b, [v, w] = [a, b] ∧ R a b := ⟨v, w, rfl, q⟩
theorem r_bm {T : String} {r : V → List V → Hp → VK → Prop} {tas : TA} (q : to σ H fun x H1 => tyV K T x H1 ∧ tas σ H1 fun xs H2 => r x xs H2 Q) : tBM K T r to tas σ H Q := q
theorem r_tyL {p : Addr} {xs : List V} {A : Prop} (h : H p = some (.lst xs)) (q : A) : tyV K "list" (.ref p) H ∧ A := ⟨.inl ⟨rfl, _, .inl (.inl h)⟩, q⟩
theorem r_append {p : Addr} {xs : List V} (h : H p = some (.lst xs)) (hl : xs.length < 100000) (q : Q .non (upd H p (.lst (xs ++ [v])))) : rAppend (.ref p) [v] H Q := ⟨p, xs, v, rfl, rfl, h, Nat.lt_of_lt_of_le hl (by decide), q⟩
end

/-- f(k = v, ..): all by name, in the parameters' order -/
def gK (us ws : List Value) : List Value := match us with | [] => ws | _ :: _ => []
def gKV (us ws : List V) : List V := match us with | [] => ws | _ :: _ => []
structure HasK (P : Program) (w : World) (K : PySem.W.Frag) (mg : Str → Option Value) (base : Heap) (x : Str) (k : Nat) (ps : List Str) (sp : Sp) : Prop where
  ex : ∃ f fd, FnOk P w K mg base CX0 k f fd ps sp ∧ mg x = some (.ref f) ∧ PySem.W.keepIn K (.ref f) = true ∧ Binds K fd ps [] ∧ KBinds K fd ps ps gK gKV
theorem HasK.has {P : Program} {w : World} {K : PySem.W.Frag} {mg : Str → Option Value} {base : Heap} {x : Str} {k : Nat} {ps : List Str} {sp : Sp} (h : HasK P w K mg base x k ps sp) : Has P w K mg base x k ps sp := by
  obtain ⟨f, fd, F, a, b, c, _⟩ := h.ex
  exact ⟨f, fd, F, a, b, c⟩
theorem kbinds {K : PySem.W.Frag} {fd : FuncData} {ps : List Str} (h : ∀ ws : List Value, ws.length = ps.length → bindArgs fd ⟨[], ps.zip ws⟩ = pure (ps.zip ws)) (h0 : ps ≠ []) : KBinds K fd ps ps gK gKV := ⟨fun s us ws _ hl => by
  cases us with
  | nil => exact .of_eq (h ws hl)
  | cons u r => exact absurd (List.length_eq_zero_iff.mp hl.symm) h0, fun r rz => by
  cases r with
  | nil => exact rz
  | cons _ _ => exact .nil⟩
theorem pe_callHK {X : Cx} {k : Nat} {ps : List Str} {sp : Sp} {x : Str} {p pos : Pos} {kws : List Keyword} {tk : TA} (h : HasK X.prog X.w X.K X.mg X.base x k ps sp) (hr : Room k X.A) (hkw : PK X kws tk) (hg : Gl X x := by rfl)
    (hall : (backToKw pos (keywordEach kws X.env)).all (·.1.isSome) = true := by rfl) (hks : (backToKw pos (keywordEach kws X.env)).filterMap (·.1) = ps := by rfl) (hdb : (x == ("__debug__" : Str)) = false := by decide)
    (hpl : ((backTo pos (starEach [] X.env)).any (·.1) || (backToKw pos (keywordEach kws X.env)).any (·.1.isNone)) = false := by rfl) : PE X (.Call (.Name x p) [] kws pos) (tCall sp [] E0 tk) := by
  obtain ⟨f, fd, F, a, b, c, kb⟩ := h.ex
  refine ⟨fun pins s σ H Q I h => ?_⟩
  refine wpAny_Call_Name_kw (ld_glob I hg a ?_ hdb)
  refine PySem.W.callWith_KW0 (h₀ := X.base) I.ok.mod.kin b hall (thn (hkw.run pos pins s σ H _ I h) fun ws s2 ⟨zs, H2, I2, rz, q2⟩ => ⟨I2.kIn, ?_⟩) hpl
  rw [hks]
  have q2 : sp (zs ++ []) H2 Q E0 := q2
  rw [List.append_nil] at q2
  exact run_fnk (us := []) (vs := []) F hr kb pass0 I2 .nil rz q2

/-! ### isinstance -/
section
variable {H : Hp} {Q : VK} {K : PySem.W.Frag} {x : V}
theorem r_isi {a b : String} {r : Bool} (ty : TyX K H x (.type a)) (k : kitB a b = some r) (q : Q (.bl r) H) : rIsi K [x, .ty b] H Q := ⟨x, .ty b, _, _, r, rfl, .ty b, ty, kit_ty k, q⟩
theorem ty_int {i : Int} : TyX K H (.int i) (.type "int") := .base (.int i)
theorem ty_bl {i : Bool} : TyX K H (.bl i) (.type "bool") := .base (.bl i)
theorem ty_str {i : Str} : TyX K H (.str i) (.type "str") := .base (.str i)
theorem ty_lst {p : Addr} {xs : List V} (h : H p = some (.lst xs)) : TyX K H (.ref p) (.type "list") := .base (.lst h)
theorem ty_tup {p : Addr} {xs : List V} (h : H p = some (.tup xs)) : TyX K H (.ref p) (.type "tuple") := .base (.tup h)
end
section
variable {H : Hp} {Q : VK} {K : PySem.W.Frag}
theorem r_is_int_int {i : Int} (q : Q (.bl true) H) : rIsi K [.int i, .ty "int"] H Q := r_isi ty_int (by decide +kernel) q
theorem r_is_int_bool {i : Int} (q : Q (.bl false) H) : rIsi K [.int i, .ty "bool"] H Q := r_isi ty_int (by decide +kernel) q
theorem r_is_int_str {i : Int} (q : Q (.bl false) H) : rIsi K [.int i, .ty "str"] H Q := r_isi ty_int (by decide +kernel) q
theorem r_is_int_list {i : Int} (q : Q (.bl false) H) : rIsi K [.int i, .ty "list"] H Q := r_isi ty_int (by decide +kernel) q
theorem r_is_int_tuple {i : Int} (q : Q (.bl false) H) : rIsi K [.int i, .ty "tuple"] H Q := r_isi ty_int (by decide +kernel) q
theorem r_is_bool_int {i : Bool} (q : Q (.bl true) H) : rIsi K [.bl i, .ty "int"] H Q := r_isi ty_bl (by decide +kernel) q
theorem r_is_bool_bool {i : Bool} (q : Q (.bl true) H) : rIsi K [.bl i, .ty "bool"] H Q := r_isi ty_bl (by decide +kernel) q
theorem r_is_bool_str {i : Bool} (q : Q (.bl false) H) : rIsi K [.bl i, .ty "str"] H Q := r_isi ty_bl (by decide +kernel) q
theorem r_is_bool_list {i : Bool} (q : Q (.bl false) H) : rIsi K [.bl i, .ty "list"] H Q := r_isi ty_bl (by decide +kernel) q
theorem r_is_bool_tuple {i : Bool} (q : Q (.bl false) H) : rIsi K [.bl i, .ty "tuple"] H Q := r_isi ty_bl (by decide +kernel) q
theorem r_is_str_int {i : Str} (q : Q (.bl false) H) : rIsi K [.str i, .ty "int"] H Q := r_isi ty_str (by decide +kernel) q
theorem r_is_str_bool {i : Str} (q : Q (.bl false) H) : rIsi K [.str i, .ty "bool"] H Q := r_isi ty_str (by decide +kernel) q
theorem r_is_str_str {i : Str} (q : Q (.bl true) H) : rIsi K [.str i, .ty "str"] H Q := r_isi ty_str (by decide +kernel) q
theorem r_is_str_list {i : Str} (q : Q (.bl false) H) : rIsi K [.str i, .ty "list"] H Q := r_isi ty_str (by decide +kernel) q
theorem r_is_str_tuple {i : Str} (q : Q (.bl false) H) : rIsi K [.str i, .ty "tuple"] H Q := r_isi ty_str (by decide +kernel) q
theorem r_is_list_int {p : Addr} {xs : List V}  (h : H p = some (.lst xs)) (q : Q (.bl false) H) : rIsi K [.ref p, .ty "int"] H Q := r_isi (ty_lst h) (by decide +kernel) q
theorem r_is_list_bool {p : Addr} {xs : List V}  (h : H p = some (.lst xs)) (q : Q (.bl false) H) : rIsi K [.ref p, .ty "bool"] H Q := r_isi (ty_lst h) (by decide +kernel) q
theorem r_is_list_str {p : Addr} {xs : List V}  (h : H p = some (.lst xs)) (q : Q (.bl false) H) : rIsi K [.ref p, .ty "str"] H Q := r_isi (ty_lst h) (by decide +kernel) q
theorem r_is_list_list {p : Addr} {xs : List V}  (h : H p = some (.lst xs)) (q : Q (.bl true) H) : rIsi K [.ref p, .ty "list"] H Q := r_isi (ty_lst h) (by decide +kernel) q
theorem r_is_list_tuple {p : Addr} {xs : List V}  (h : H p = some (.lst xs)) (q : Q (.bl false) H) : rIsi K [.ref p, .ty "tuple"] H Q := r_isi (ty_lst h) (by decide +kernel) q
theorem r_is_tuple_int {p : Addr} {xs : List V}  (h : H p = some (.tup xs)) (q : Q (.bl false) H) : rIsi K [.ref p, .ty "int"] H Q := r_isi (ty_tup h) (by decide +kernel) q
theorem r_is_tuple_bool {p : Addr} {xs : List V}  (h : H p = some (.tup xs)) (q : Q (.bl false) H) : rIsi K [.ref p, .ty "bool"] H Q := r_isi (ty_tup h) (by decide +kernel) q
theorem r_is_tuple_str {p : Addr} {xs : List V}  (h : H p = some (.tup xs)) (q : Q (.bl false) H) : rIsi K [.ref p, .ty "str"] H Q := r_isi (ty_tup h) (by decide +kernel) q
theorem r_is_tuple_list {p : Addr} {xs : List V}  (h : H p = some (.tup xs)) (q : Q (.bl false) H) : rIsi K [.ref p, .ty "list"] H Q := r_isi (ty_tup h) (by decide +kernel) q
theorem r_is_tuple_tuple {p : Addr} {xs : List V}  (h : H p = some (.tup xs)) (q : Q (.bl true) H) : rIsi K [.ref p, .ty "tuple"] H Q := r_isi (ty_tup h) (by decide +kernel) q
theorem r_is_NoneType_int  (q : Q (.bl false) H) : rIsi K [.non, .ty "int"] H Q := r_isi (.base .non) (by decide +kernel) q
theorem r_is_NoneType_bool  (q : Q (.bl false) H) : rIsi K [.non, .ty "bool"] H Q := r_isi (.base .non) (by decide +kernel) q
theorem r_is_NoneType_str  (q : Q (.bl false) H) : rIsi K [.non, .ty "str"] H Q := r_isi (.base .non) (by decide +kernel) q
theorem r_is_NoneType_list  (q : Q (.bl false) H) : rIsi K [.non, .ty "list"] H Q := r_isi (.base .non) (by decide +kernel) q
theorem r_is_NoneType_tuple  (q : Q (.bl false) H) : rIsi K [.non, .ty "tuple"] H Q := r_isi (.base .non) (by decide +kernel) q
end
/-! ### slices, sums of lists, len -/
section
variable {σ : L2.St} {H : Hp} {Q : VK} {K : PySem.W.Frag} {te : TE} {p b : Addr} {xs zs : List V}
theorem r_sl {r : V → Option Int → Option Int → Hp → VK → Prop} {tl th : TO} (q : te σ H fun x H1 => tl σ H1 fun l H2 => th σ H2 fun u H3 => r x l u H3 Q) : tSl r te tl th σ H Q := q
theorem r_nopart {R : Option Int → Hp → Prop} (q : R none H) : tNoPart σ H R := q
theorem r_part {R : Option Int → Hp → Prop} (q : te σ H fun x H1 => ∃ i, x = .int i ∧ R (some i) H1) : tPart te σ H R := q
theorem r_exI {n : Int} {R : Int → Prop} (q : R n) : ∃ k, V.int n = V.int k ∧ R k := ⟨n, rfl, q⟩
theorem r_slL {lo hi : Option Int} (h : SqL K H p xs) (q : ∀ c, H c = none → Q (.ref c) (upd H c (.lst (cutV xs lo hi)))) : rSlL K (.ref p) lo hi H Q := ⟨p, xs, rfl, h, q⟩
theorem r_cat (h : H p = some (.lst xs)) (h' : H b = some (.lst zs)) (l : xs.length + zs.length ≤ 100000) (q : ∀ c, H c = none → Q (.ref c) (upd H c (.lst (xs ++ zs)))) : rCat (.ref p) (.ref b) H Q := ⟨p, b, xs, zs, rfl, rfl, h, h', small_of l, q⟩
theorem r_sum {ns : List Int} (h : SqL K H p (ns.map V.int)) (q : Q (.int ns.sum) H) : rSum K [.ref p] H Q := ⟨p, ns, rfl, h, q⟩
def rLen (K : PySem.W.Frag) (xs : List V) (H : Hp) (Q : VK) : Prop := ∃ p ys, xs = [.ref p] ∧ (SqL K H p ys ∨ SqT K H p ys) ∧ Q (.int ys.length) H
theorem call_lenQ {X : Cx} : CallR X (.builtin "len") (rLen X.K) := call_len_seq
theorem r_lenL (h : H p = some (.lst xs)) (q : Q (.int xs.length) H) : rLen K [.ref p] H Q := ⟨p, xs, rfl, .inl (.of h), q⟩
theorem r_lenT (h : H p = some (.tup xs)) (q : Q (.int xs.length) H) : rLen K [.ref p] H Q := ⟨p, xs, rfl, .inr (.of h), q⟩
theorem r_gTup {n : Nat} {t : TGs} {R : L2.St → Hp → Prop} (h : H p = some (.tup xs)) (l : xs.length = n) (q : t xs σ H R) : gTup K n t (.ref p) σ H R := ⟨p, xs, rfl, .of h, l, q⟩
theorem r_gCons {t : TG} {u : TGs} {v : V} {R : L2.St → Hp → Prop} (q : t v σ H fun σ' H' => u xs σ' H' R) : gCons t u (v :: xs) σ H R := ⟨v, xs, rfl, q⟩
theorem r_gNil {R : L2.St → Hp → Prop} (q : R σ H) : gNil [] σ H R := ⟨rfl, q⟩
theorem cut_len (lo hi : Option Int) : (cutV xs lo hi).length ≤ xs.length := by
  unfold cutV
  rw [List.length_take, List.length_drop]
  omega
theorem cut_mem {lo hi : Option Int} {x : V} (h : x ∈ cutV xs lo hi) : x ∈ xs := by
  unfold cutV at h
  exact List.mem_of_mem_drop (List.mem_of_mem_take h)
end
/-! ### loops -/
section
variable {σ : L2.St} {H : Hp} {Q : VK} {K : PySem.W.Frag} {D : Ends} {tb : TS} {g : TG} {c : TT} {p : Addr} {xs : List V}
theorem r_for {wi : TI} (q : wi σ H fun J H1 => ∃ W : Nat → Nat → L2.St → Hp → Prop, (∃ m, W 0 m σ H1) ∧ ∀ i m σ H, W i m σ H →
  (J.stop i H ∧ D.nx σ H) ∨ (J.go i H ∧ ∃ N : L2.St → Hp → Prop, (∀ σ' H', N σ' H' → ∃ m', m' < m ∧ W (i + 1) m' σ' H') ∧ ∀ x H', J.yld i H x H' → g x σ H' fun σ2 H2 => tb { D with nx := N, ct := N, bk := D.nx } σ2 H2)) : tFor wi g tb D σ H := q
theorem r_iList {tl : TE} {R : It → Hp → Prop} (q : tl σ H fun x H1 => ∃ a, x = .ref a ∧ (∃ xs, SqL K H1 a xs) ∧ R (Itl K a) H1) : iList K tl σ H R := q
theorem r_iTup {tl : TE} {R : It → Hp → Prop} (q : tl σ H fun x H1 => ∃ a, x = .ref a ∧ (∃ xs, SqT K H1 a xs) ∧ R (Itt K a) H1) : iTup K tl σ H R := q
theorem r_iR1 {ta : TA} {R : It → Hp → Prop} (q : ta σ H fun vs H1 => ∃ j : Int, vs = [.int j] ∧ -(2 ^ 62) ≤ j ∧ j < 2 ^ 62 ∧ R (Itr 0 j.toNat) H1) : iRng1 ta σ H R := q
theorem r_iR2 {ta : TA} {R : It → Hp → Prop} (q : ta σ H fun vs H1 => ∃ i j : Int, vs = [.int i, .int j] ∧ (-(2 ^ 62) ≤ i ∧ i < 2 ^ 62 ∧ -(2 ^ 62) ≤ j ∧ j < 2 ^ 62) ∧ R (Itr i (j - i).toNat) H1) : iRng2 ta σ H R := q
theorem u_forL (h : SqL K H p xs) (Pv : Nat → L2.St → Hp → Prop) (h0 : Pv 0 σ H) (hl : ∀ i σ H, i ≤ xs.length → Pv i σ H → SqL K H p xs)
    (hs : ∀ i x σ H, xs[i]? = some x → Pv i σ H → g x σ H fun σ2 H2 => tb { D with nx := Pv (i + 1), ct := Pv (i + 1), bk := D.nx } σ2 H2) (hd : ∀ σ H, Pv xs.length σ H → D.nx σ H) :
    ∃ a, V.ref p = .ref a ∧ (∃ xs, SqL K H a xs) ∧ ∃ W : Nat → Nat → L2.St → Hp → Prop, (∃ m, W 0 m σ H) ∧ ∀ i m σ H, W i m σ H →
      ((Itl K a).stop i H ∧ D.nx σ H) ∨ ((Itl K a).go i H ∧ ∃ N : L2.St → Hp → Prop, (∀ σ' H', N σ' H' → ∃ m', m' < m ∧ W (i + 1) m' σ' H') ∧ ∀ x H', (Itl K a).yld i H x H' → g x σ H' fun σ2 H2 => tb { D with nx := N, ct := N, bk := D.nx } σ2 H2) :=
  ⟨p, rfl, ⟨xs, h⟩, for_list Pv h0 hl hs hd⟩
theorem u_for1 {n : Int} (hb : -(2 ^ 62) ≤ n ∧ n < 2 ^ 62) (Pv : Nat → L2.St → Hp → Prop) (h0 : Pv 0 σ H)
    (hs : ∀ (i : Nat) σ H, (i : Int) < n → Pv i σ H → g (.int (i : Int)) σ H fun σ2 H2 => tb { D with nx := Pv (i + 1), ct := Pv (i + 1), bk := D.nx } σ2 H2) (hd : ∀ σ H, Pv n.toNat σ H → D.nx σ H) :
    -(2 ^ 62) ≤ n ∧ n < 2 ^ 62 ∧ ∃ W : Nat → Nat → L2.St → Hp → Prop, (∃ m, W 0 m σ H) ∧ ∀ i m σ H, W i m σ H →
      ((Itr 0 n.toNat).stop i H ∧ D.nx σ H) ∨ ((Itr 0 n.toNat).go i H ∧ ∃ N : L2.St → Hp → Prop, (∀ σ' H', N σ' H' → ∃ m', m' < m ∧ W (i + 1) m' σ' H') ∧ ∀ x H', (Itr 0 n.toNat).yld i H x H' → g x σ H' fun σ2 H2 => tb { D with nx := N, ct := N, bk := D.nx } σ2 H2) :=
  ⟨hb.1, hb.2, for_range Pv h0 (fun i σ H hi p => by rw [Int.zero_add]; exact hs i σ H (by omega) p) hd⟩
/-- [elt for x in ..]: the word speaks of the list so far and of the heap -/
theorem r_lc {wi : TI} {tt : TT} {te : TE} {vs : List Nat} (q : wi σ H fun J H1 => ∀ D, H1 D = none → ∃ W : Nat → Nat → Hp → Prop, (∃ m, W 0 m (upd H1 D (.lst []))) ∧ ∀ i m H, W i m H →
  (J.stop i H ∧ Q (.ref D) H) ∨ (J.go i H ∧ ∃ Nx : Hp → Prop, (∀ H', Nx H' → ∃ m', m' < m ∧ W (i + 1) m' H') ∧ ∀ x H', J.yld i H x H' → g x (wipe σ vs) H' fun σ2 H2 => wipe σ2 vs = wipe σ vs ∧ tt σ2 H2 fun b H3 =>
    if b = true then te σ2 H3 fun y H4 => ∃ acc, H4 D = some (.lst acc) ∧ acc.length < sizeLine ∧ Nx (upd H4 D (.lst (acc ++ [y]))) else Nx H3)) : tLc wi g tt te vs σ H Q := q
theorem r_yes {R : Bool → Hp → Prop} (q : R true H) : tYes σ H R := q
def LcPush (D : Addr) (I : Addr → Nat → List V → Hp → Prop) (i : Nat) (H : Hp) (y : V) : Prop := ∃ acc, H D = some (.lst acc) ∧ acc.length < sizeLine ∧ ∃ acc', (upd H D (.lst (acc ++ [y]))) D = some (.lst acc') ∧ I D (i + 1) acc' (upd H D (.lst (acc ++ [y])))
def LcSkip (D : Addr) (I : Addr → Nat → List V → Hp → Prop) (i : Nat) (H : Hp) : Prop := ∃ acc, H D = some (.lst acc) ∧ I D (i + 1) acc H
theorem u_push {D : Addr} {I : Addr → Nat → List V → Hp → Prop} {i : Nat} {y : V} {acc : List V} (h : H D = some (.lst acc)) (l : acc.length < 100000) (q : I D (i + 1) (acc ++ [y]) (upd H D (.lst (acc ++ [y])))) : LcPush D I i H y :=
  ⟨acc, h, Nat.lt_of_lt_of_le l (by decide), acc ++ [y], upd_same, q⟩
theorem u_skip {D : Addr} {I : Addr → Nat → List V → Hp → Prop} {i : Nat} {acc : List V} (h : H D = some (.lst acc)) (q : I D (i + 1) acc H) : LcSkip D I i H := ⟨acc, h, q⟩
theorem u_lcL {tt : TT} {te : TE} {vs : List Nat} {Qd : Addr → Hp → Prop} (h : SqL K H p xs) (I : Addr → Nat → List V → Hp → Prop) (h0 : ∀ D, H D = none → I D 0 [] (upd H D (.lst [])))
    (hl : ∀ D i acc H', H D = none → H' D = some (.lst acc) → I D i acc H' → SqL K H' p xs)
    (hs : ∀ D i x acc H', H D = none → xs[i]? = some x → H' D = some (.lst acc) → I D i acc H' → g x (wipe σ vs) H' fun σ2 H2 => wipe σ2 vs = wipe σ vs ∧ tt σ2 H2 fun b H3 => if b = true then te σ2 H3 fun y H4 => LcPush D I i H4 y else LcSkip D I i H3)
    (hd : ∀ D acc H', H D = none → H' D = some (.lst acc) → I D xs.length acc H' → Qd D H') :
    ∃ a, V.ref p = .ref a ∧ (∃ xs, SqL K H a xs) ∧ ∀ D, H D = none → ∃ W : Nat → Nat → Hp → Prop, (∃ m, W 0 m (upd H D (.lst []))) ∧ ∀ i m H, W i m H →
      ((Itl K a).stop i H ∧ Qd D H) ∨ ((Itl K a).go i H ∧ ∃ Nx : Hp → Prop, (∀ H', Nx H' → ∃ m', m' < m ∧ W (i + 1) m' H') ∧ ∀ x H', (Itl K a).yld i H x H' → g x (wipe σ vs) H' fun σ2 H2 => wipe σ2 vs = wipe σ vs ∧ tt σ2 H2 fun b H3 =>
        if b = true then te σ2 H3 fun y H4 => ∃ acc, H4 D = some (.lst acc) ∧ acc.length < sizeLine ∧ Nx (upd H4 D (.lst (acc ++ [y]))) else Nx H3) :=
  ⟨p, rfl, ⟨xs, h⟩, fun D hD => lc_list (xs := xs) (fun i H' => ∃ acc, H' D = some (.lst acc) ∧ I D i acc H') ⟨[], upd_same, h0 D hD⟩ (fun i H' _ ⟨acc, e, q⟩ => hl D i acc H' hD e q)
    (fun i x H' hi ⟨acc, e, q⟩ => hs D i x acc H' hD hi e q) fun H' ⟨acc, e, q⟩ => hd D acc H' hD e q⟩
theorem u_lcT {tt : TT} {te : TE} {vs : List Nat} {Qd : Addr → Hp → Prop} (h : SqT K H p xs) (I : Addr → Nat → List V → Hp → Prop) (h0 : ∀ D, H D = none → I D 0 [] (upd H D (.lst [])))
    (hl : ∀ D i acc H', H D = none → H' D = some (.lst acc) → I D i acc H' → SqT K H' p xs)
    (hs : ∀ D i x acc H', H D = none → xs[i]? = some x → H' D = some (.lst acc) → I D i acc H' → g x (wipe σ vs) H' fun σ2 H2 => wipe σ2 vs = wipe σ vs ∧ tt σ2 H2 fun b H3 => if b = true then te σ2 H3 fun y H4 => LcPush D I i H4 y else LcSkip D I i H3)
    (hd : ∀ D acc H', H D = none → H' D = some (.lst acc) → I D xs.length acc H' → Qd D H') :
    ∃ a, V.ref p = .ref a ∧ (∃ xs, SqT K H a xs) ∧ ∀ D, H D = none → ∃ W : Nat → Nat → Hp → Prop, (∃ m, W 0 m (upd H D (.lst []))) ∧ ∀ i m H, W i m H →
      ((Itt K a).stop i H ∧ Qd D H) ∨ ((Itt K a).go i H ∧ ∃ Nx : Hp → Prop, (∀ H', Nx H' → ∃ m', m' < m ∧ W (i + 1) m' H') ∧ ∀ x H', (Itt K a).yld i H x H' → g x (wipe σ vs) H' fun σ2 H2 => wipe σ2 vs = wipe σ vs ∧ tt σ2 H2 fun b H3 =>
        if b = true then te σ2 H3 fun y H4 => ∃ acc, H4 D = some (.lst acc) ∧ acc.length < sizeLine ∧ Nx (upd H4 D (.lst (acc ++ [y]))) else Nx H3) :=
  ⟨p, rfl, ⟨xs, h⟩, fun D hD => lc_tup (xs := xs) (fun i H' => ∃ acc, H' D = some (.lst acc) ∧ I D i acc H') ⟨[], upd_same, h0 D hD⟩ (fun i H' _ ⟨acc, e, q⟩ => hl D i acc H' hD e q)
    (fun i x H' hi ⟨acc, e, q⟩ => hs D i x acc H' hD hi e q) fun H' ⟨acc, e, q⟩ => hd D acc H' hD e q⟩
theorem u_lc1 {tt : TT} {te : TE} {vs : List Nat} {Qd : Addr → Hp → Prop} {n : Int} (hb : -(2 ^ 62) ≤ n ∧ n < 2 ^ 62) (I : Addr → Nat → List V → Hp → Prop) (h0 : ∀ D, H D = none → I D 0 [] (upd H D (.lst [])))
    (hs : ∀ D (i : Nat) acc H', H D = none → (i : Int) < n → H' D = some (.lst acc) → I D i acc H' → g (.int (i : Int)) (wipe σ vs) H' fun σ2 H2 => wipe σ2 vs = wipe σ vs ∧ tt σ2 H2 fun b H3 => if b = true then te σ2 H3 fun y H4 => LcPush D I i H4 y else LcSkip D I i H3)
    (hd : ∀ D acc H', H D = none → H' D = some (.lst acc) → I D n.toNat acc H' → Qd D H') :
    -(2 ^ 62) ≤ n ∧ n < 2 ^ 62 ∧ ∀ D, H D = none → ∃ W : Nat → Nat → Hp → Prop, (∃ m, W 0 m (upd H D (.lst []))) ∧ ∀ i m H, W i m H →
      ((Itr 0 n.toNat).stop i H ∧ Qd D H) ∨ ((Itr 0 n.toNat).go i H ∧ ∃ Nx : Hp → Prop, (∀ H', Nx H' → ∃ m', m' < m ∧ W (i + 1) m' H') ∧ ∀ x H', (Itr 0 n.toNat).yld i H x H' → g x (wipe σ vs) H' fun σ2 H2 => wipe σ2 vs = wipe σ vs ∧ tt σ2 H2 fun b H3 =>
        if b = true then te σ2 H3 fun y H4 => ∃ acc, H4 D = some (.lst acc) ∧ acc.length < sizeLine ∧ Nx (upd H4 D (.lst (acc ++ [y]))) else Nx H3) :=
  ⟨hb.1, hb.2, fun D hD => lc_range (fun i H' => ∃ acc, H' D = some (.lst acc) ∧ I D i acc H') ⟨[], upd_same, h0 D hD⟩
    (fun i H' hi ⟨acc, e, q⟩ => by rw [Int.zero_add]; exact hs D i acc H' hD (by omega) e q) fun H' ⟨acc, e, q⟩ => hd D acc H' hD e q⟩
end
/-! ### heaps -/
/-- the heap at a, in words: looked up through stores -/
theorem h_keep {H : Hp} {a p : Addr} {o u : HO} (h : H a = some u) (n : H p = none) : upd H p o a = some u := (upd_ne (ne_of_none h n)).trans h
/-- all that was tracked but what stands at a -/
def But (a : Addr) (H H' : Hp) : Prop := ∀ b o, b ≠ a → H b = some o → H' b = some o
theorem But.refl (a : Addr) (H : Hp) : But a H H := fun _ _ _ h => h
theorem But.trans {a : Addr} {H H1 H2 : Hp} (h : But a H H1) (k : But a H1 H2) : But a H H2 := fun b o n e => k b o n (h b o n e)
theorem But.new {a p : Addr} {H H' : Hp} {o : HO} (h : But a H H') (n : H' p = none) : But a H (upd H' p o) := fun b u nb e => h_keep (h b u nb e) n
theorem But.self {a : Addr} {H H' : Hp} {o : HO} (h : But a H H') : But a H (upd H' a o) := fun b u nb e => (upd_ne nb).trans (h b u nb e)
theorem But.put {a p : Addr} {H H' : Hp} {o : HO} (h : But a H H') (n : H p = none) : But a H (upd H' p o) := fun b u nb e => (upd_ne (ne_of_none e n)).trans (h b u nb e)
def vints (l : List Nat) : List V := l.map fun (k : Nat) => V.int (k : Int)
theorem vints_app (l m : List Nat) : vints (l ++ m) = vints l ++ vints m := List.map_append
theorem vints_len (l : List Nat) : (vints l).length = l.length := List.length_map _
theorem Same.at {H H' : Hp} {a : Addr} {o : HO} (s : Same H H') (h : H a = some o) : H' a = some o := s a o h
theorem But.at {H H' : Hp} {a b : Addr} {o : HO} (s : But b H H') (n : a ≠ b) (h : H a = some o) : H' a = some o := s a o n h
theorem log_small {n : Int} (h : n.natAbs < 2 ^ 8000) : n.natAbs.log2 < 9000 := by
  by_cases h0 : n.natAbs = 0
  · rw [h0]; decide
  · exact Nat.lt_of_lt_of_le ((Nat.log2_lt h0).mpr h) (by decide)
theorem Same.new0 {p : Addr} {H : Hp} {o : HO} (n : H p = none) : Same H (upd H p o) := fun b u e => h_keep e n
theorem Same.new {p : Addr} {H H' : Hp} {o : HO} (h : Same H H') (n : H' p = none) : Same H (upd H' p o) := fun b u e => h_keep (h b u e) n
theorem Same.put {p : Addr} {H H' : Hp} {o : HO} (h : Same H H') (n : H p = none) : Same H (upd H' p o) := fun b u e => (upd_ne (ne_of_none e n)).trans (h b u e)
theorem Same.but {H H' : Hp} (h : Same H H') (a : Addr) : But a H H' := fun b u _ e => h b u e
theorem But.free {a p : Addr} {H H' : Hp} (h : But a H H') (n : p ≠ a) (e : H' p = none) : H p = none := by
  cases q : H p with
  | none => rfl
  | some o => rw [h p o n q] at e; cases e
/-- what is new may change -/
theorem Same.but2 {a : Addr} {H H1 H2 : Hp} (s : Same H H1) (n : H a = none) (b : But a H1 H2) : Same H H2 := fun c o e => b c o (ne_of_none e n) (s c o e)
/-- the law's bag: three ints, the second one small -/
def Bag (H : Hp) (a : Addr) : Prop := ∃ x y z : Int, H a = some (.lst [.int x, .int y, .int z]) ∧ 0 ≤ y ∧ y ≤ 170141183460469231731687303715884105727 ∧ 0 ≤ z
theorem Bag.keep {H : Hp} {a p : Addr} {o : HO} (h : Bag H a) (n : H p = none) : Bag (upd H p o) a := by
  obtain ⟨x, y, z, e, r⟩ := h
  exact ⟨x, y, z, h_keep e n, r⟩
theorem Bag.ne {H : Hp} {a p : Addr} (h : Bag H a) (n : H p = none) : p ≠ a := by
  obtain ⟨x, y, z, e, r⟩ := h
  exact (ne_of_none e n).symm
theorem Bag.same {H H' : Hp} {a : Addr} (h : Bag H a) (s : Same H H') : Bag H' a := by
  obtain ⟨x, y, z, e, r⟩ := h
  exact ⟨x, y, z, s _ _ e, r⟩
def spBagOf : Sp := fun vs H Q _ => ∃ c : Int, vs = [.int c] ∧ ∀ p H', H p = none → Same H H' → Bag H' p → Q (.ref p) H'
/-- the law's promise: a list of at most 63 ints goes in, True comes out -/
def spLaw (K : PySem.W.Frag) : Sp := fun vs H Q _ => ∃ (a : Addr) (ns : List Int), vs = [.ref a] ∧ SqL K H a (ns.map V.int) ∧ ns.length ≤ 63 ∧ ∀ H', Q (.bl true) H'
/-- the cells of a law's outer loop are ints -/
theorem cells_int {g : Int} {ns : List Int} {lo hi : Option Int} {i : Nat} {x : V} (h : ([V.int g] ++ cutV (ns.map V.int) lo hi)[i]? = some x) : ∃ c, x = .int c := by
  rcases List.mem_append.mp (List.mem_of_getElem? h) with h | h
  · exact ⟨g, List.mem_singleton.mp h⟩
  · obtain ⟨c, _, e⟩ := List.mem_map.mp (cut_mem h)
    exact ⟨c, e.symm⟩
/-! ### the rules that name the written part, with its name given (a comprehension's block has another context) -/
section
variable {X : Cx} {K : PySem.W.Frag}
theorem ix_listK (h : X.K = K := by rfl) : IxR X (rIxL K) := by subst h; exact ix_list
theorem ix_tupK (h : X.K = K := by rfl) : IxR X (rIxT K) := by subst h; exact ix_tup
theorem call_lenK (h : X.K = K := by rfl) : CallR X (.builtin "len") (rLen K) := by subst h; exact call_lenQ
theorem call_isiKK (h : X.K = K := by rfl) : CallR X (.builtin "isinstance") (rIsi K) := by subst h; exact call_isi
theorem call_sumK (hc : X.calm = true := by rfl) (h : X.K = K := by rfl) : CallR X (.builtin "sum") (rSum K) := by subst h; exact cr_sum hc
theorem call_allK (hc : X.calm = true := by rfl) (h : X.K = K := by rfl) : CallR X (.builtin "all") (rAll K) := by subst h; exact cr_all hc
end
end My

set_option Elab.async false
set_option linter.all false
set_option maxRecDepth 400000
namespace My
open PySem PySem.Spec PyProof.Rows L2
/-! ### programs as data -/
inductive Prog where
  | nil
  | step (w n : Str) (r : Prog)
  | turn (k : Int) (r : Prog)
  | rep (k : Int) (b r : Prog)
  | mir (b r : Prog)
namespace Prog
def app : Prog → Prog → Prog
  | .nil, q => q
  | .step w n r, q => .step w n (r.app q)
  | .turn k r, q => .turn k (r.app q)
  | .rep k b r, q => .rep k b (r.app q)
  | .mir b r, q => .mir b (r.app q)
def len : Prog → Nat
  | .nil => 0
  | .step _ _ r => r.len + 1
  | .turn _ r => r.len + 1
  | .rep _ _ r => r.len + 1
  | .mir _ r => r.len + 1
def size : Prog → Int
  | .nil => 0
  | .step _ _ r => 1 + r.size
  | .turn _ r => 1 + r.size
  | .rep k b r => k * b.size + r.size
  | .mir b r => b.size + r.size
def head : Prog → Int
  | .nil => 0
  | .step _ _ r => r.head
  | .turn k r => k + r.head
  | .rep k b r => k * b.head + r.head
  | .mir b r => -b.head + r.head
def times : Nat → Prog → Prog
  | 0, _ => .nil
  | n + 1, p => p.app (times n p)
def unroll : Int → Prog → Prog
  | _, .nil => .nil
  | s, .step w n r => .step w n (unroll s r)
  | s, .turn k r => .turn (s * k) (unroll s r)
  | s, .rep k b r => (times k.toNat (unroll s b)).app (unroll s r)
  | s, .mir b r => (unroll (-s) b).app (unroll s r)
/-- the turns' numbers of a flat program -/
def turns : Prog → List Int
  | .nil => []
  | .step _ _ r => r.turns
  | .turn k r => k :: r.turns
  | .rep _ _ r => r.turns
  | .mir _ r => r.turns
def take : Nat → Prog → Prog
  | 0, _ => .nil
  | _ + 1, .nil => .nil
  | n + 1, .step w m r => .step w m (r.take n)
  | n + 1, .turn k r => .turn k (r.take n)
  | n + 1, .rep k b r => .rep k b (r.take n)
  | n + 1, .mir b r => .mir b (r.take n)
end Prog
def IsWord (w : Str) : Prop := w = "go" ∨ w = "back" ∨ w = "hop" ∨ w = "slip"
/-- one letter from a to z -/
def IsName (n : Str) : Prop := ∃ c : Nat, n = ⟨#[c]⟩ ∧ 97 ≤ c ∧ c ≤ 122
/-- a program nested at most d deep; counts from 1 to C, turns to T of either sign, at most 4000 commands in each repeat or mirror -/
def WfL (L : Nat) (C T : Int) : Nat → Prog → Prop
  | _, .nil => True
  | d, .step w n r => IsWord w ∧ IsName n ∧ WfL L C T d r
  | d, .turn k r => (-T ≤ k ∧ k ≤ T) ∧ WfL L C T d r
  | 0, .rep _ _ _ => False
  | d + 1, .rep k b r => (1 ≤ k ∧ k ≤ C) ∧ (1 ≤ b.len ∧ b.len ≤ L) ∧ WfL L C T d b ∧ WfL L C T (d + 1) r
  | 0, .mir _ _ => False
  | d + 1, .mir b r => (1 ≤ b.len ∧ b.len ≤ L) ∧ WfL L C T d b ∧ WfL L C T (d + 1) r
theorem WfL.app {L : Nat} {C T : Int} : ∀ {d : Nat} {p q : Prog}, WfL L C T d p → WfL L C T d q → WfL L C T d (p.app q)
  | _, .nil, _, _, h => h
  | d, .step w n r, q, h, h' => by
    cases d <;> exact ⟨h.1, h.2.1, WfL.app h.2.2 h'⟩
  | d, .turn k r, q, h, h' => by
    cases d <;> exact ⟨h.1, WfL.app h.2 h'⟩
  | 0, .rep _ _ _, _, h, _ => h.elim
  | d + 1, .rep k b r, q, h, h' => ⟨h.1, h.2.1, h.2.2.1, WfL.app h.2.2.2 h'⟩
  | 0, .mir _ _, _, h, _ => h.elim
  | d + 1, .mir b r, q, h, h' => ⟨h.1, h.2.1, WfL.app h.2.2 h'⟩
theorem WfL.step_iff {L : Nat} {C T : Int} {d : Nat} {w n : Str} {r : Prog} : WfL L C T d (.step w n r) ↔ IsWord w ∧ IsName n ∧ WfL L C T d r := by cases d <;> exact Iff.rfl
theorem WfL.turn_iff {L : Nat} {C T : Int} {d : Nat} {k : Int} {r : Prog} : WfL L C T d (.turn k r) ↔ (-T ≤ k ∧ k ≤ T) ∧ WfL L C T d r := by cases d <;> exact Iff.rfl
theorem WfL.nil {L : Nat} {C T : Int} {d : Nat} : WfL L C T d .nil := by cases d <;> trivial
theorem WfL.mono {L : Nat} {C T C' T' : Int} (hC : C ≤ C') (hT : T ≤ T') : ∀ {d d' : Nat} {p : Prog}, d ≤ d' → WfL L C T d p → WfL L C' T' d' p
  | d, d', .nil, _, _ => WfL.nil
  | d, d', .step w n r, hd, h => WfL.step_iff.mpr ⟨(WfL.step_iff.mp h).1, (WfL.step_iff.mp h).2.1, WfL.mono hC hT hd (WfL.step_iff.mp h).2.2⟩
  | d, d', .turn k r, hd, h => by
    have h := WfL.turn_iff.mp h
    exact WfL.turn_iff.mpr ⟨⟨by omega, by omega⟩, WfL.mono hC hT hd h.2⟩
  | 0, _, .rep _ _ _, _, h => h.elim
  | d + 1, 0, .rep _ _ _, hd, _ => absurd hd (by omega)
  | d + 1, d' + 1, .rep k b r, hd, h => ⟨⟨h.1.1, by have := h.1.2; omega⟩, h.2.1, WfL.mono hC hT (by omega) h.2.2.1, WfL.mono hC hT hd h.2.2.2⟩
  | 0, _, .mir _ _, _, h => h.elim
  | d + 1, 0, .mir _ _, hd, _ => absurd hd (by omega)
  | d + 1, d' + 1, .mir b r, hd, h => ⟨h.1, WfL.mono hC hT (by omega) h.2.1, WfL.mono hC hT hd h.2.2⟩
abbrev Wf := WfL 4000
theorem WfL.wide {L L' : Nat} {C T : Int} (hL : L ≤ L') : ∀ {d : Nat} {p : Prog}, WfL L C T d p → WfL L' C T d p
  | d, .nil, _ => WfL.nil
  | d, .step w n r, h => WfL.step_iff.mpr ⟨(WfL.step_iff.mp h).1, (WfL.step_iff.mp h).2.1, WfL.wide hL (WfL.step_iff.mp h).2.2⟩
  | d, .turn k r, h => WfL.turn_iff.mpr ⟨(WfL.turn_iff.mp h).1, WfL.wide hL (WfL.turn_iff.mp h).2⟩
  | 0, .rep _ _ _, h => h.elim
  | d + 1, .rep k b r, h => ⟨h.1, ⟨h.2.1.1, Nat.le_trans h.2.1.2 hL⟩, WfL.wide hL h.2.2.1, WfL.wide hL h.2.2.2⟩
  | 0, .mir _ _, h => h.elim
  | d + 1, .mir b r, h => ⟨⟨h.1.1, Nat.le_trans h.1.2 hL⟩, WfL.wide hL h.2.1, WfL.wide hL h.2.2⟩
namespace Prog
theorem app_nil : ∀ p : Prog, p.app .nil = p
  | .nil => rfl
  | .step w n r => by rw [app, app_nil r]
  | .turn k r => by rw [app, app_nil r]
  | .rep k b r => by rw [app, app_nil r]
  | .mir b r => by rw [app, app_nil r]
theorem app_assoc : ∀ p q r : Prog, (p.app q).app r = p.app (q.app r)
  | .nil, _, _ => rfl
  | .step w n p, q, r => by rw [app, app, app, app_assoc p q r]
  | .turn k p, q, r => by rw [app, app, app, app_assoc p q r]
  | .rep k b p, q, r => by rw [app, app, app, app_assoc p q r]
  | .mir b p, q, r => by rw [app, app, app, app_assoc p q r]
theorem len_app : ∀ p q : Prog, (p.app q).len = p.len + q.len
  | .nil, q => by rw [app, len, Nat.zero_add]
  | .step w n p, q => by rw [app, len, len, len_app p q]; omega
  | .turn k p, q => by rw [app, len, len, len_app p q]; omega
  | .rep k b p, q => by rw [app, len, len, len_app p q]; omega
  | .mir b p, q => by rw [app, len, len, len_app p q]; omega
theorem size_app : ∀ p q : Prog, (p.app q).size = p.size + q.size
  | .nil, q => by rw [app, size]; omega
  | .step w n p, q => by rw [app, size, size, size_app p q]; omega
  | .turn k p, q => by rw [app, size, size, size_app p q]; omega
  | .rep k b p, q => by rw [app, size, size, size_app p q]; omega
  | .mir b p, q => by rw [app, size, size, size_app p q]; omega
theorem head_app : ∀ p q : Prog, (p.app q).head = p.head + q.head
  | .nil, q => by rw [app, head]; omega
  | .step w n p, q => by rw [app, head, head, head_app p q]
  | .turn k p, q => by rw [app, head, head, head_app p q]; omega
  | .rep k b p, q => by rw [app, head, head, head_app p q]; omega
  | .mir b p, q => by rw [app, head, head, head_app p q]; omega
theorem turns_app : ∀ p q : Prog, (p.app q).turns = p.turns ++ q.turns
  | .nil, q => by rw [app, turns, List.nil_append]
  | .step w n p, q => by rw [app, turns, turns, turns_app p q]
  | .turn k p, q => by rw [app, turns, turns, turns_app p q, List.cons_append]
  | .rep k b p, q => by rw [app, turns, turns, turns_app p q]
  | .mir b p, q => by rw [app, turns, turns, turns_app p q]
theorem size_nonneg {L : Nat} {C T : Int} : ∀ {d : Nat} {p : Prog}, WfL L C T d p → 0 ≤ p.size
  | _, .nil, _ => by rw [size]; omega
  | d, .step w n r, h => by have := size_nonneg (WfL.step_iff.mp h).2.2; rw [size]; omega
  | d, .turn k r, h => by have := size_nonneg (WfL.turn_iff.mp h).2; rw [size]; omega
  | 0, .rep _ _ _, h => h.elim
  | d + 1, .rep k b r, h => by
    have h1 := size_nonneg h.2.2.1
    have h2 := size_nonneg h.2.2.2
    have h3 : 0 ≤ k * b.size := Int.mul_nonneg (by have := h.1.1; omega) h1
    rw [size]; omega
  | 0, .mir _ _, h => h.elim
  | d + 1, .mir b r, h => by
    have h1 := size_nonneg h.2.1
    have h2 := size_nonneg h.2.2
    rw [size]; omega
theorem len_times (n : Nat) (p : Prog) : (times n p).len = n * p.len := by
  induction n with
  | zero => rw [times, len, Nat.zero_mul]
  | succ n ih => rw [times, len_app, ih, Nat.succ_mul]; omega
theorem turns_times (n : Nat) (p : Prog) : (times n p).turns.sum = n * p.turns.sum := by
  induction n with
  | zero => rw [times, turns]; simp
  | succ n ih => rw [times, turns_app, List.sum_append, ih, Int.natCast_succ, Int.add_mul]; omega
/-- unrolled it has as many commands as its size -/
theorem len_unroll {L : Nat} {C T : Int} : ∀ {d : Nat} {p : Prog} (s : Int), WfL L C T d p → ((unroll s p).len : Int) = p.size
  | _, .nil, s, _ => by rw [unroll, len, size]; rfl
  | d, .step w n r, s, h => by have := len_unroll s (WfL.step_iff.mp h).2.2; rw [unroll, len, size]; omega
  | d, .turn k r, s, h => by have := len_unroll s (WfL.turn_iff.mp h).2; rw [unroll, len, size]; omega
  | 0, .rep _ _ _, s, h => h.elim
  | d + 1, .rep k b r, s, h => by
    have h1 := len_unroll s h.2.2.1
    have h2 := len_unroll s h.2.2.2
    have hk := h.1.1
    rw [unroll, len_app, len_times, size, ← h1, ← h2, Int.natCast_add, Int.natCast_mul, Int.toNat_of_nonneg (by omega)]
  | 0, .mir _ _, s, h => h.elim
  | d + 1, .mir b r, s, h => by
    have h1 := len_unroll (-s) h.2.1
    have h2 := len_unroll s h.2.2
    rw [unroll, len_app, size]; omega
/-- the sum of its turns -/
theorem turns_unroll {L : Nat} {C T : Int} : ∀ {d : Nat} {p : Prog} (s : Int), WfL L C T d p → (unroll s p).turns.sum = s * p.head
  | _, .nil, s, _ => by rw [unroll, turns, head]; simp
  | d, .step w n r, s, h => by have := turns_unroll s (WfL.step_iff.mp h).2.2; rw [unroll, turns, head]; omega
  | d, .turn k r, s, h => by have := turns_unroll s (WfL.turn_iff.mp h).2; rw [unroll, turns, head, List.sum_cons, this, Int.mul_add]
  | 0, .rep _ _ _, s, h => h.elim
  | d + 1, .rep k b r, s, h => by
    have h1 := turns_unroll s h.2.2.1
    have h2 := turns_unroll s h.2.2.2
    have hk := h.1.1
    rw [unroll, turns_app, List.sum_append, turns_times, h1, h2, head, Int.toNat_of_nonneg (by omega), Int.mul_add, Int.mul_left_comm]
  | 0, .mir _ _, s, h => h.elim
  | d + 1, .mir b r, s, h => by
    have h1 := turns_unroll (-s) h.2.1
    have h2 := turns_unroll s h.2.2
    rw [unroll, turns_app, List.sum_append, h1, h2, head, Int.mul_add, Int.neg_mul, Int.mul_neg]
/-- a flat program: steps and turns alone -/
theorem wf_times {L : Nat} {C T : Int} {d : Nat} {p : Prog} (h : WfL L C T d p) : ∀ n, WfL L C T d (times n p)
  | 0 => WfL.nil
  | n + 1 => WfL.app h (wf_times h n)
theorem wf_unroll {L : Nat} {C T : Int} : ∀ {d : Nat} {p : Prog} {s : Int}, (s = 1 ∨ s = -1) → WfL L C T d p → WfL L C T 0 (unroll s p)
  | _, .nil, s, _, _ => WfL.nil
  | d, .step w n r, s, hs, h => by
    have h := WfL.step_iff.mp h
    exact WfL.step_iff.mpr ⟨h.1, h.2.1, wf_unroll hs h.2.2⟩
  | d, .turn k r, s, hs, h => by
    have h := WfL.turn_iff.mp h
    refine WfL.turn_iff.mpr ⟨?_, wf_unroll hs h.2⟩
    rcases hs with rfl | rfl <;> omega
  | 0, .rep _ _ _, s, _, h => h.elim
  | d + 1, .rep k b r, s, hs, h => WfL.app (wf_times (wf_unroll hs h.2.2.1) _) (wf_unroll hs h.2.2.2)
  | 0, .mir _ _, s, _, h => h.elim
  | d + 1, .mir b r, s, hs, h => WfL.app (wf_unroll (by omega) h.2.1) (wf_unroll hs h.2.2)
theorem len_le_size {L : Nat} {C T : Int} : ∀ {d : Nat} {p : Prog}, WfL L C T d p → (p.len : Int) ≤ p.size
  | _, .nil, _ => by rw [size, len]; omega
  | d, .step w n r, h => by have := len_le_size (WfL.step_iff.mp h).2.2; rw [size, len]; omega
  | d, .turn k r, h => by have := len_le_size (WfL.turn_iff.mp h).2; rw [size, len]; omega
  | 0, .rep _ _ _, h => h.elim
  | d + 1, .rep k b r, h => by
    have h1 := len_le_size h.2.2.1
    have h2 := len_le_size h.2.2.2
    have h3 : 1 * 1 ≤ k * b.size := Int.mul_le_mul h.1.1 (by have := h.2.1.1; omega) (by omega) (by have := h.1.1; omega)
    rw [size, len]; omega
  | 0, .mir _ _, h => h.elim
  | d + 1, .mir b r, h => by
    have h1 := len_le_size h.2.1
    have h2 := len_le_size h.2.2
    have := h.1.1
    rw [size, len]; omega
theorem size_flat {L : Nat} {C T : Int} : ∀ {p : Prog}, WfL L C T 0 p → p.size = p.len
  | .nil, _ => by rw [size, len]; rfl
  | .step w n r, h => by have := size_flat (WfL.step_iff.mp h).2.2; rw [size, len]; omega
  | .turn k r, h => by have := size_flat (WfL.turn_iff.mp h).2; rw [size, len]; omega
  | .rep _ _ _, h => h.elim
  | .mir _ _, h => h.elim
/-- how great a size can be -/
theorem size_le {C T : Int} (hC : 1 ≤ C) : ∀ {d : Nat} {p : Prog}, WfL 4000 C T d p → p.size ≤ p.len * (4000 * C) ^ d
  | _, .nil, _ => by rw [size, len]; simp
  | d, .step w n r, h => by
    have h1 := size_le hC (WfL.step_iff.mp h).2.2
    have h2 : (0 : Int) < (4000 * C) ^ d := Int.pow_pos (by omega)
    rw [size, len, Int.natCast_succ, Int.add_mul, Int.one_mul]; omega
  | d, .turn k r, h => by
    have h1 := size_le hC (WfL.turn_iff.mp h).2
    have h2 : (0 : Int) < (4000 * C) ^ d := Int.pow_pos (by omega)
    rw [size, len, Int.natCast_succ, Int.add_mul, Int.one_mul]; omega
  | 0, .rep _ _ _, h => h.elim
  | d + 1, .rep k b r, h => by
    have h1 := size_le hC h.2.2.1
    have h2 := size_le hC h.2.2.2
    have h0 := size_nonneg h.2.2.1
    have hp : (0 : Int) ≤ (4000 * C) ^ d := Int.le_of_lt (Int.pow_pos (by omega))
    have h3 : b.size ≤ 4000 * (4000 * C) ^ d := Int.le_trans h1 (Int.mul_le_mul_of_nonneg_right (by have := h.2.1.2; omega) hp)
    have h4 : k * b.size ≤ C * (4000 * (4000 * C) ^ d) := Int.mul_le_mul h.1.2 h3 h0 (by omega)
    have h5 : C * (4000 * (4000 * C) ^ d) = (4000 * C) ^ (d + 1) := by rw [Int.pow_succ, Int.mul_comm ((4000 * C) ^ d), ← Int.mul_assoc, Int.mul_comm C]
    rw [size, len, Int.natCast_succ, Int.add_mul, Int.one_mul]; omega
  | 0, .mir _ _, h => h.elim
  | d + 1, .mir b r, h => by
    have h1 := size_le hC h.2.1
    have h2 := size_le hC h.2.2
    have hp : (0 : Int) ≤ (4000 * C) ^ d := Int.le_of_lt (Int.pow_pos (by omega))
    have h3 : b.size ≤ 4000 * (4000 * C) ^ d := Int.le_trans h1 (Int.mul_le_mul_of_nonneg_right (by have := h.1.2; omega) hp)
    have h4 : 1 * (4000 * (4000 * C) ^ d) ≤ C * (4000 * (4000 * C) ^ d) := Int.mul_le_mul_of_nonneg_right hC (Int.mul_nonneg (by omega) hp)
    have h5 : C * (4000 * (4000 * C) ^ d) = (4000 * C) ^ (d + 1) := by rw [Int.pow_succ, Int.mul_comm ((4000 * C) ^ d), ← Int.mul_assoc, Int.mul_comm C]
    rw [size, len, Int.natCast_succ, Int.add_mul, Int.one_mul]; omega
/-- how great a heading can be -/
theorem head_le {L : Nat} {C T : Int} (hC : 1 ≤ C) (hT : 0 ≤ T) : ∀ {d : Nat} {p : Prog}, WfL L C T d p → p.head.natAbs ≤ T * p.size
  | _, .nil, _ => by rw [size, head]; simp
  | d, .step w n r, h => by
    have h1 := head_le hC hT (WfL.step_iff.mp h).2.2
    rw [size, head, Int.mul_add, Int.mul_one]; omega
  | d, .turn k r, h => by
    have h0 := (WfL.turn_iff.mp h).1
    have h1 := head_le hC hT (WfL.turn_iff.mp h).2
    rw [size, head, Int.mul_add, Int.mul_one]; omega
  | 0, .rep _ _ _, h => h.elim
  | d + 1, .rep k b r, h => by
    have h1 := head_le hC hT h.2.2.1
    have h2 := head_le hC hT h.2.2.2
    have h3 : ((k * b.head).natAbs : Int) ≤ T * (k * b.size) := by
      rw [Int.natAbs_mul, Int.natCast_mul, Int.mul_left_comm, Int.natAbs_of_nonneg (show 0 ≤ k by have := h.1.1; omega)]
      exact Int.mul_le_mul_of_nonneg_left h1 (by have := h.1.1; omega)
    rw [size, head, Int.mul_add]; omega
  | 0, .mir _ _, h => h.elim
  | d + 1, .mir b r, h => by
    have h1 := head_le hC hT h.2.1
    have h2 := head_le hC hT h.2.2
    rw [size, head, Int.mul_add]; omega
end Prog
end My

set_option Elab.async false
set_option linter.all false
set_option maxRecDepth 100000
namespace My
open PySem PySem.Spec PyProof.Rows L2
/-! ### programs on the heap -/
/-- the tuples stay -/
def Tk (H H' : Hp) : Prop := ∀ c xs, H c = some (.tup xs) → H' c = some (.tup xs)
theorem Tk.refl (H : Hp) : Tk H H := fun _ _ h => h
theorem Tk.trans {H H1 H2 : Hp} (h : Tk H H1) (k : Tk H1 H2) : Tk H H2 := fun c xs e => k c xs (h c xs e)
theorem Tk.same {H H' : Hp} (h : Same H H') : Tk H H' := fun c xs e => h c _ e
theorem Tk.but {H H' : Hp} {a : Addr} (h : But a H H') (b : Bag H a) : Tk H H' := fun c xs e => by
  obtain ⟨x, y, z, ea, _⟩ := b
  exact h c _ (ne_of e ea (by intro z; cases z)) e
theorem Tk.new {H H' : Hp} {p : Addr} {o : HO} (h : Tk H H') (n : H' p = none) : Tk H (upd H' p o) := fun c xs e => h_keep (h c xs e) n
theorem Tk.lst {H H' : Hp} {p : Addr} {l : List V} {o : HO} (h : Tk H H') (n : H' p = some (.lst l)) : Tk H (upd H' p o) := fun c xs e => (upd_ne (ne_of (h c xs e) n (by intro z; cases z))).trans (h c xs e)
def PrAt (H : Hp) : Prog → List V → Prop
  | .nil, xs => xs = []
  | .step w n r, xs => ∃ c ys, xs = .ref c :: ys ∧ H c = some (.tup [.str w, .str n]) ∧ PrAt H r ys
  | .turn k r, xs => ∃ c ys, xs = .ref c :: ys ∧ H c = some (.tup [.str "turn", .int k]) ∧ PrAt H r ys
  | .rep k b r, xs => ∃ c q zs ys, xs = .ref c :: ys ∧ H c = some (.tup [.str "repeat", .int k, .ref q]) ∧ H q = some (.tup zs) ∧ PrAt H b zs ∧ PrAt H r ys
  | .mir b r, xs => ∃ c q zs ys, xs = .ref c :: ys ∧ H c = some (.tup [.str "mirror", .ref q]) ∧ H q = some (.tup zs) ∧ PrAt H b zs ∧ PrAt H r ys
def PrIs (H : Hp) (a : Addr) (p : Prog) : Prop := ∃ xs, H a = some (.tup xs) ∧ PrAt H p xs
theorem PrAt.tk {H H' : Hp} (t : Tk H H') : ∀ {p : Prog} {xs : List V}, PrAt H p xs → PrAt H' p xs
  | .nil, _, h => h
  | .step w n r, _, ⟨c, ys, e, h1, h2⟩ => ⟨c, ys, e, t _ _ h1, h2.tk t⟩
  | .turn k r, _, ⟨c, ys, e, h1, h2⟩ => ⟨c, ys, e, t _ _ h1, h2.tk t⟩
  | .rep k b r, _, ⟨c, q, zs, ys, e, h1, h2, h3, h4⟩ => ⟨c, q, zs, ys, e, t _ _ h1, t _ _ h2, h3.tk t, h4.tk t⟩
  | .mir b r, _, ⟨c, q, zs, ys, e, h1, h2, h3, h4⟩ => ⟨c, q, zs, ys, e, t _ _ h1, t _ _ h2, h3.tk t, h4.tk t⟩
theorem PrIs.tk {H H' : Hp} {a : Addr} {p : Prog} (h : PrIs H a p) (t : Tk H H') : PrIs H' a p := let ⟨xs, e, q⟩ := h; ⟨xs, t _ _ e, q.tk t⟩
theorem PrAt.length {H : Hp} : ∀ {p : Prog} {xs : List V}, PrAt H p xs → xs.length = p.len
  | .nil, _, h => by rw [show _ = [] from h]; rfl
  | .step w n r, _, ⟨c, ys, e, h1, h2⟩ => by rw [e, List.length_cons, h2.length]; rfl
  | .turn k r, _, ⟨c, ys, e, h1, h2⟩ => by rw [e, List.length_cons, h2.length]; rfl
  | .rep k b r, _, ⟨c, q, zs, ys, e, h1, h2, h3, h4⟩ => by rw [e, List.length_cons, h4.length]; rfl
  | .mir b r, _, ⟨c, q, zs, ys, e, h1, h2, h3, h4⟩ => by rw [e, List.length_cons, h4.length]; rfl
theorem PrAt.app {H : Hp} : ∀ {p q : Prog} {xs ys : List V}, PrAt H p xs → PrAt H q ys → PrAt H (p.app q) (xs ++ ys)
  | .nil, q, xs, ys, h, k => by rw [show xs = [] from h]; exact k
  | .step w n r, q, _, ys, ⟨c, zs, e, h1, h2⟩, k => ⟨c, zs ++ ys, by rw [e]; rfl, h1, h2.app k⟩
  | .turn k' r, q, _, ys, ⟨c, zs, e, h1, h2⟩, k => ⟨c, zs ++ ys, by rw [e]; rfl, h1, h2.app k⟩
  | .rep k' b r, q, _, ys, ⟨c, q', zs, ws, e, h1, h2, h3, h4⟩, k => ⟨c, q', zs, ws ++ ys, by rw [e]; rfl, h1, h2, h3, h4.app k⟩
  | .mir b r, q, _, ys, ⟨c, q', zs, ws, e, h1, h2, h3, h4⟩, k => ⟨c, q', zs, ws ++ ys, by rw [e]; rfl, h1, h2, h3, h4.app k⟩
theorem PrAt.take {H : Hp} : ∀ {n : Nat} {p : Prog} {xs : List V}, PrAt H p xs → PrAt H (p.take n) (xs.take n)
  | 0, p, xs, h => by rw [Prog.take, List.take_zero]; rfl
  | n + 1, .nil, xs, h => by rw [show xs = [] from h, Prog.take, List.take_nil]; rfl
  | n + 1, .step w m r, _, ⟨c, zs, e, h1, h2⟩ => ⟨c, zs.take n, by rw [e, List.take_succ_cons], h1, h2.take⟩
  | n + 1, .turn k r, _, ⟨c, zs, e, h1, h2⟩ => ⟨c, zs.take n, by rw [e, List.take_succ_cons], h1, h2.take⟩
  | n + 1, .rep k b r, _, ⟨c, q', zs, ws, e, h1, h2, h3, h4⟩ => ⟨c, q', zs, ws.take n, by rw [e, List.take_succ_cons], h1, h2, h3, h4.take⟩
  | n + 1, .mir b r, _, ⟨c, q', zs, ws, e, h1, h2, h3, h4⟩ => ⟨c, q', zs, ws.take n, by rw [e, List.take_succ_cons], h1, h2, h3, h4.take⟩
/-- x is the first command of r, r' the rest -/
def First (H : Hp) : Prog → V → Prog → Prop
  | .nil, _, _ => False
  | .step w n r, x, r' => ∃ c, x = .ref c ∧ H c = some (.tup [.str w, .str n]) ∧ r' = r
  | .turn k r, x, r' => ∃ c, x = .ref c ∧ H c = some (.tup [.str "turn", .int k]) ∧ r' = r
  | .rep k b r, x, r' => ∃ c q, x = .ref c ∧ H c = some (.tup [.str "repeat", .int k, .ref q]) ∧ PrIs H q b ∧ r' = r
  | .mir b r, x, r' => ∃ c q, x = .ref c ∧ H c = some (.tup [.str "mirror", .ref q]) ∧ PrIs H q b ∧ r' = r
theorem First.tk {H H' : Hp} {r r' : Prog} {x : V} (h : First H r x r') (t : Tk H H') : First H' r x r' := by
  cases r with
  | nil => exact h.elim
  | step w n r => obtain ⟨c, e, h1, e2⟩ := h; exact ⟨c, e, t _ _ h1, e2⟩
  | turn k r => obtain ⟨c, e, h1, e2⟩ := h; exact ⟨c, e, t _ _ h1, e2⟩
  | rep k b r => obtain ⟨c, q, e, h1, h2, e2⟩ := h; exact ⟨c, q, e, t _ _ h1, h2.tk t, e2⟩
  | mir b r => obtain ⟨c, q, e, h1, h2, e2⟩ := h; exact ⟨c, q, e, t _ _ h1, h2.tk t, e2⟩
theorem PrAt.first {H : Hp} {r : Prog} {x : V} {ys : List V} (h : PrAt H r (x :: ys)) : ∃ r', First H r x r' ∧ PrAt H r' ys := by
  cases r with
  | nil => cases (show (x :: ys) = [] from h)
  | step w n r => obtain ⟨c, zs, e, h1, h2⟩ := h; cases e; exact ⟨r, ⟨c, rfl, h1, rfl⟩, h2⟩
  | turn k r => obtain ⟨c, zs, e, h1, h2⟩ := h; cases e; exact ⟨r, ⟨c, rfl, h1, rfl⟩, h2⟩
  | rep k b r => obtain ⟨c, q, zs, ws, e, h1, h2, h3, h4⟩ := h; cases e; exact ⟨r, ⟨c, q, rfl, h1, ⟨zs, h2, h3⟩, rfl⟩, h4⟩
  | mir b r => obtain ⟨c, q, zs, ws, e, h1, h2, h3, h4⟩ := h; cases e; exact ⟨r, ⟨c, q, rfl, h1, ⟨zs, h2, h3⟩, rfl⟩, h4⟩
theorem PrAt.cons {H : Hp} {r r' : Prog} {x : V} {ys : List V} (h : First H r x r') (k : PrAt H r' ys) : PrAt H r (x :: ys) := by
  cases r with
  | nil => exact h.elim
  | step w n r => obtain ⟨c, rfl, h1, rfl⟩ := h; exact ⟨c, ys, rfl, h1, k⟩
  | turn n r => obtain ⟨c, rfl, h1, rfl⟩ := h; exact ⟨c, ys, rfl, h1, k⟩
  | rep n b r => obtain ⟨c, q, rfl, h1, ⟨zs, h2, h3⟩, rfl⟩ := h; exact ⟨c, q, zs, ys, rfl, h1, h2, h3, k⟩
  | mir b r => obtain ⟨c, q, rfl, h1, ⟨zs, h2, h3⟩, rfl⟩ := h; exact ⟨c, q, zs, ys, rfl, h1, h2, h3, k⟩
theorem drop_cons {α : Type} {xs : List α} {i : Nat} {x : α} (h : xs[i]? = some x) : xs.drop i = x :: xs.drop (i + 1) := by
  obtain ⟨hi, e⟩ := List.getElem?_eq_some_iff.mp h
  rw [← e]
  exact List.drop_eq_getElem_cons hi
section
variable {σ : L2.St} {H : Hp} {K : PySem.W.Frag} {D : Ends} {tb : TS} {g : TG} {a : Addr} {xs : List V} {p : Prog}
/-- for command in program -/
theorem u_forPr (h : H a = some (.tup xs)) (hp : PrAt H p xs) (I : Prog → L2.St → Hp → Prop) (h0 : I p σ H) (hk : ∀ r σ H', I r σ H' → Tk H H')
    (hs : ∀ x r r' σ H', First H' r x r' → I r σ H' → g x σ H' fun σ2 H2 => tb { D with nx := I r', ct := I r', bk := D.nx } σ2 H2) (hd : ∀ σ H', I .nil σ H' → D.nx σ H') :
    ∃ b, V.ref a = .ref b ∧ (∃ xs, SqT K H b xs) ∧ ∃ W : Nat → Nat → L2.St → Hp → Prop, (∃ m, W 0 m σ H) ∧ ∀ i m σ H, W i m σ H →
      ((Itt K b).stop i H ∧ D.nx σ H) ∨ ((Itt K b).go i H ∧ ∃ N : L2.St → Hp → Prop, (∀ σ' H', N σ' H' → ∃ m', m' < m ∧ W (i + 1) m' σ' H') ∧ ∀ x H', (Itt K b).yld i H x H' → g x σ H' fun σ2 H2 => tb { D with nx := N, ct := N, bk := D.nx } σ2 H2) := by
  refine ⟨a, rfl, ⟨xs, .of h⟩, ⟨fun i m σ' H' => m = xs.length - i ∧ i ≤ xs.length ∧ ∃ r, PrAt H r (xs.drop i) ∧ I r σ' H', ⟨xs.length, by simp, Nat.zero_le _, p, hp, h0⟩, ?_⟩⟩
  rintro i m σ' H' ⟨rfl, hi, r, hr, ir⟩
  have hT : SqT K H' a xs := .of (hk _ _ _ ir _ _ h)
  by_cases hlt : i < xs.length
  · have hx : xs[i]? = some xs[i] := List.getElem?_eq_getElem hlt
    rw [drop_cons hx] at hr
    obtain ⟨r', f, hr'⟩ := hr.first
    refine .inr ⟨⟨xs, xs[i], hT, hx⟩, I r', fun σ2 H2 q => ⟨_, by omega, rfl, hlt, r', hr', q⟩, fun x H2 hy => ?_⟩
    obtain ⟨rfl, fx⟩ := hy
    have ex : x = xs[i] := Option.some.inj ((fx xs hT).symm.trans hx)
    subst ex
    exact hs _ r r' _ _ (f.tk (hk _ _ _ ir)) ir
  · have e : i = xs.length := by omega
    subst e
    rw [List.drop_length] at hr
    have hn : r = .nil := by
      cases r with
      | nil => rfl
      | step w n r => obtain ⟨c, zs, e, _⟩ := hr; cases e
      | turn k r => obtain ⟨c, zs, e, _⟩ := hr; cases e
      | rep k b r => obtain ⟨c, q, zs, ws, e, _⟩ := hr; cases e
      | mir b r => obtain ⟨c, q, zs, ws, e, _⟩ := hr; cases e
    subst hn
    exact .inl ⟨⟨xs, hT, Nat.le_refl _⟩, hd _ _ ir⟩
/-- [.. for command in program] -/
theorem u_lcPr {tt : TT} {te : TE} {vs : List Nat} {Qd : Addr → Hp → Prop} (h : H a = some (.tup xs)) (hp : PrAt H p xs) (I : Addr → Prog → List V → Hp → Prop) (h0 : ∀ D, H D = none → I D p [] (upd H D (.lst [])))
    (hk : ∀ D r acc H', H D = none → I D r acc H' → Tk H H')
    (hs : ∀ D x r r' acc H', H D = none → First H' r x r' → H' D = some (.lst acc) → I D r acc H' → g x (wipe σ vs) H' fun σ2 H2 => wipe σ2 vs = wipe σ vs ∧ tt σ2 H2 fun b H3 => if b = true then te σ2 H3 fun y H4 => LcPush D (fun D _ acc H' => I D r' acc H') 0 H4 y else LcSkip D (fun D _ acc H' => I D r' acc H') 0 H3)
    (hd : ∀ D acc H', H D = none → H' D = some (.lst acc) → I D .nil acc H' → Qd D H') :
    ∃ b, V.ref a = .ref b ∧ (∃ xs, SqT K H b xs) ∧ ∀ D, H D = none → ∃ W : Nat → Nat → Hp → Prop, (∃ m, W 0 m (upd H D (.lst []))) ∧ ∀ i m H, W i m H →
      ((Itt K b).stop i H ∧ Qd D H) ∨ ((Itt K b).go i H ∧ ∃ Nx : Hp → Prop, (∀ H', Nx H' → ∃ m', m' < m ∧ W (i + 1) m' H') ∧ ∀ x H', (Itt K b).yld i H x H' → g x (wipe σ vs) H' fun σ2 H2 => wipe σ2 vs = wipe σ vs ∧ tt σ2 H2 fun b H3 =>
        if b = true then te σ2 H3 fun y H4 => ∃ acc, H4 D = some (.lst acc) ∧ acc.length < sizeLine ∧ Nx (upd H4 D (.lst (acc ++ [y]))) else Nx H3) := by
  refine ⟨a, rfl, ⟨xs, .of h⟩, fun D hD => ⟨fun i m H' => m = xs.length - i ∧ i ≤ xs.length ∧ ∃ r acc, PrAt H r (xs.drop i) ∧ H' D = some (.lst acc) ∧ I D r acc H', ⟨xs.length, by simp, Nat.zero_le _, p, [], hp, upd_same, h0 D hD⟩, ?_⟩⟩
  rintro i m H' ⟨rfl, hi, r, acc, hr, ha, ir⟩
  have hT : SqT K H' a xs := .of (hk _ _ _ _ hD ir _ _ h)
  by_cases hlt : i < xs.length
  · have hx : xs[i]? = some xs[i] := List.getElem?_eq_getElem hlt
    rw [drop_cons hx] at hr
    obtain ⟨r', f, hr'⟩ := hr.first
    refine .inr ⟨⟨xs, xs[i], hT, hx⟩, fun H2 => ∃ acc, H2 D = some (.lst acc) ∧ I D r' acc H2, fun H2 ⟨acc', h1, q⟩ => ⟨_, by omega, rfl, hlt, r', acc', hr', h1, q⟩, fun x H2 hy => ?_⟩
    obtain ⟨rfl, fx⟩ := hy
    have ex : x = xs[i] := Option.some.inj ((fx xs hT).symm.trans hx)
    subst ex
    exact hs D _ r r' acc _ hD (f.tk (hk _ _ _ _ hD ir)) ha ir
  · have e : i = xs.length := by omega
    subst e
    rw [List.drop_length] at hr
    have hn : r = .nil := by
      cases r with
      | nil => rfl
      | step w n r => obtain ⟨c, zs, e, _⟩ := hr; cases e
      | turn k r => obtain ⟨c, zs, e, _⟩ := hr; cases e
      | rep k b r => obtain ⟨c, q, zs, ws, e, _⟩ := hr; cases e
      | mir b r => obtain ⟨c, q, zs, ws, e, _⟩ := hr; cases e
    subst hn
    exact .inl ⟨⟨xs, hT, Nat.le_refl _⟩, hd _ _ _ hD ha ir⟩
end
theorem cut_take (xs : List V) (n : Nat) : cutV xs none (some (n : Int)) = xs.take n := by
  unfold cutV
  rw [HT.sIx_none, HT.sIx_nat, List.drop_zero, Nat.sub_zero]
  by_cases h : n ≤ xs.length
  · rw [Nat.min_eq_left h]
  · rw [Nat.min_eq_right (by omega), List.take_length, List.take_of_length_le (by omega)]
/-! ### texts -/
section
variable {σ : L2.St} {H : Hp} {Q : VK} {K : PySem.W.Frag} {ta tb tc : TE} {p : Addr}
def rLenS (xs : List V) (H : Hp) (Q : VK) : Prop := ∃ z : Str, xs = [.str z] ∧ z.length ≤ sizeLine ∧ Q (.int z.length) H
theorem call_lenS {X : Cx} : CallR X (.builtin "len") rLenS := call_len_str
theorem r_lenS {z : Str} (l : z.length ≤ 100000) (q : Q (.int z.length) H) : rLenS [.str z] H Q := ⟨z, rfl, small_of l, q⟩
def rLeS : R2 := fun x y H Q => ∃ i j : Str, x = .str i ∧ y = .str j ∧ Q (.bl (!decide (j.cps.toList < i.cps.toList))) H
theorem op_leS {X : Cx} : OpR X (compareOp .LtE) rLeS := op_le_str
theorem r_leS {i j : Str} (q : Q (.bl (!decide (j.cps.toList < i.cps.toList))) H) : rLeS (.str i) (.str j) H Q := ⟨i, j, rfl, rfl, q⟩
theorem r_chain {r r' : R2} (q : ta σ H fun x H1 => tb σ H1 fun y H2 => r x y H2 fun z H3 => ∃ k, z = .bl k ∧ (if k = true then tc σ H3 fun w' H4 => r' y w' H4 Q else Q (.bl false) H3)) : tChain r r' ta tb tc σ H Q := q
theorem r_ixS {z : Str} {n : Int} {c : Nat} (l : z.length ≤ 100000) (e : atI z.cps.toList n = some c) (q : Q (.str ⟨#[c]⟩) H) : rIxS (.str z) (.int n) H Q := ⟨z, n, c, rfl, rfl, small_of l, e, q⟩
theorem r_all {bs : List Bool} (h : SqL K H p (bs.map V.bl)) (q : Q (.bl (bs.all id)) H) : rAll K [.ref p] H Q := ⟨p, bs, rfl, h, q⟩
end
/-! ### tuples and lists of things that stand -/
section
variable {σ : L2.St} {H : Hp} {Q : VK} {K : PySem.W.Frag} {to te : TE} {p b : Addr} {xs ys : List V}
def rTupL (K : PySem.W.Frag) (vs : List V) (H : Hp) (Q : VK) : Prop := ∃ p ys, vs = [.ref p] ∧ SqL K H p ys ∧ ∀ l, H l = none → Q (.ref l) (upd H l (.tup ys))
theorem call_tupL {X : Cx} : CallR X (.type "tuple") (rTupL X.K) := fun pins s σ H xs us Q I r ⟨p, ys, e, h, q⟩ => call_tuple_of pins s σ H xs us Q I r ⟨p, ys, e, .inl ⟨h, q⟩⟩
theorem r_tupL (h : H p = some (.lst xs)) (q : ∀ l, H l = none → Q (.ref l) (upd H l (.tup xs))) : rTupL K [.ref p] H Q := ⟨p, xs, rfl, .of h, q⟩
theorem r_extend (h : H p = some (.lst xs)) (h' : H b = some (.lst ys)) (l : xs.length + ys.length ≤ 16000000) (q : Q .non (upd H p (.lst (xs ++ ys)))) : rExtend (.ref p) [.ref b] H Q := ⟨p, b, xs, ys, rfl, rfl, h, h', Nat.le_trans l (by decide), q⟩
theorem r_appendB {v : V} (h : H p = some (.lst xs)) (hl : xs.length < 16000000) (q : Q .non (upd H p (.lst (xs ++ [v])))) : rAppend (.ref p) [v] H Q := ⟨p, xs, v, rfl, rfl, h, Nat.lt_of_lt_of_le hl (by decide), q⟩
def rListT (K : PySem.W.Frag) (vs : List V) (H : Hp) (Q : VK) : Prop := ∃ p ys, vs = [.ref p] ∧ (SqL K H p ys ∨ SqT K H p ys) ∧ ∀ l, H l = none → Q (.ref l) (upd H l (.lst ys))
theorem call_listT {X : Cx} : CallR X (.type "list") (rListT X.K) := call_list_of
theorem r_listL (h : H p = some (.lst xs)) (q : ∀ l, H l = none → Q (.ref l) (upd H l (.lst xs))) : rListT K [.ref p] H Q := ⟨p, xs, rfl, .inl (.of h), q⟩
theorem r_listT (h : H p = some (.tup xs)) (q : ∀ l, H l = none → Q (.ref l) (upd H l (.lst xs))) : rListT K [.ref p] H Q := ⟨p, xs, rfl, .inr (.of h), q⟩
theorem r_tM1 {r : V → List V → Hp → VK → Prop} (q : to σ H fun x H1 => (∃ a, x = .str a) ∧ te σ H1 fun y H2 => r x [y] H2 Q) : tM1 r to te σ H Q := q
theorem r_exS {z : Str} {A : Prop} (q : A) : (∃ a, V.str z = V.str a) ∧ A := ⟨⟨z, rfl⟩, q⟩
end
theorem name_len {n : Str} (h : IsName n) : n.length = 1 := by
  obtain ⟨c, rfl, _⟩ := h
  rfl
theorem one_lt {a b : Nat} (h : b ≤ a) : ¬ ([a] : List Nat) < [b] := by
  intro q
  have : a < b := by simpa [List.cons_lt_cons_iff] using q
  omega
theorem letter_a {n : Str} (h : IsName n) : ¬ n.cps.toList < (("a" : Str)).cps.toList := by
  obtain ⟨c, rfl, h1, _⟩ := h
  rw [show (("a" : Str)).cps.toList = [97] by decide +kernel]
  exact one_lt h1
theorem letter_z {n : Str} (h : IsName n) : ¬ (("z" : Str)).cps.toList < n.cps.toList := by
  obtain ⟨c, rfl, _, h2⟩ := h
  rw [show (("z" : Str)).cps.toList = [122] by decide +kernel]
  exact one_lt h2
theorem word_ne {w : Str} (h : IsWord w) : ¬ w = "repeat" ∧ ¬ w = "mirror" ∧ ¬ w = "turn" := by
  rcases h with rfl | rfl | rfl | rfl <;> decide +kernel
/-- six letters -/
def Names (z : Str) : Prop := z.cps.toList.length = 6 ∧ ∀ c ∈ z.cps.toList, 97 ≤ c ∧ c ≤ 122
theorem letter_at {n : Int} (h0 : 0 ≤ n) (h1 : n < 26) : ∃ c, atI (("abcdefghijklmnopqrstuvwxyz" : Str)).cps.toList n = some c ∧ 97 ≤ c ∧ c ≤ 122 := by
  have hl : (("abcdefghijklmnopqrstuvwxyz" : Str)).cps.toList.length = 26 := by decide +kernel
  have ha : ∀ c ∈ (("abcdefghijklmnopqrstuvwxyz" : Str)).cps.toList, 97 ≤ c ∧ c ≤ 122 := by decide +kernel
  have h2 : n.toNat < (("abcdefghijklmnopqrstuvwxyz" : Str)).cps.toList.length := by rw [hl]; omega
  refine ⟨_, ?_, ha _ (List.getElem_mem h2)⟩
  unfold atI ixN
  rw [if_pos h0, if_pos (by rw [hl]; omega)]
  exact List.getElem?_eq_getElem h2
/-- all but what stands at a and b -/
def But2 (a b : Addr) (H H' : Hp) : Prop := ∀ c o, c ≠ a → c ≠ b → H c = some o → H' c = some o
theorem But2.refl (a b : Addr) (H : Hp) : But2 a b H H := fun _ _ _ _ h => h
theorem But2.trans {a b : Addr} {H H1 H2 : Hp} (h : But2 a b H H1) (k : But2 a b H1 H2) : But2 a b H H2 := fun c o n m e => k c o n m (h c o n m e)
theorem But2.of {a b : Addr} {H H' : Hp} (h : But a H H') : But2 a b H H' := fun c o n _ e => h c o n e
theorem But2.at {a b c : Addr} {H H' : Hp} {o : HO} (h : But2 a b H H') (n : c ≠ a) (m : c ≠ b) (e : H c = some o) : H' c = some o := h c o n m e
theorem But2.new {a b p : Addr} {H H' : Hp} {o : HO} (h : But2 a b H H') (n : H' p = none) : But2 a b H (upd H' p o) := fun c u x y e => h_keep (h c u x y e) n
theorem But2.put {a b p : Addr} {H H' : Hp} {o : HO} (h : But2 a b H H') (n : H p = none) : But2 a b H (upd H' p o) := fun c u x y e => (upd_ne (ne_of_none e n)).trans (h c u x y e)
theorem But2.self {a b : Addr} {H H' : Hp} {o : HO} (h : But2 a b H H') : But2 a b H (upd H' b o) := fun c u x y e => (upd_ne y).trans (h c u x y e)
theorem But2.one {a b : Addr} {H H0 H' : Hp} (s : But a H H0) (n : H b = none) (h : But2 a b H0 H') : But a H H' := fun c o x e => h c o x (ne_of_none e n) (s c o x e)
theorem But2.free {a b p : Addr} {H H' : Hp} (h : But2 a b H H') (n : p ≠ a) (m : p ≠ b) (e : H' p = none) : H p = none := by
  cases q : H p with
  | none => rfl
  | some o => rw [h p o n m q] at e; cases e
theorem Bag.list {H : Hp} {a : Addr} (h : Bag H a) : ∃ l, H a = some (.lst l) ∧ l.length = 3 := by
  obtain ⟨x, y, z, e, _⟩ := h
  exact ⟨_, e, rfl⟩
theorem Bag.upd {H : Hp} {a p : Addr} {o : HO} (h : Bag H a) (n : a ≠ p) : Bag (upd H p o) a := by
  obtain ⟨x, y, z, e, r⟩ := h
  exact ⟨x, y, z, (upd_ne n).trans e, r⟩
/-- the program's table of steps -/
structure StepsAt (K : PySem.W.Frag) (w : World) (mg : Str → Option Value) : Prop where
  ex : ∃ d es n, KDict K w d es n ∧ mg "STEPS" = some (.ref d) ∧ ∀ x : Str, IsWord x → ∃ v, PySem.W.nsIn K d x = some (some v)
/-- the greatest counts and turns -/
def BC : Int := 10 ^ 31
theorem BC_one : 1 ≤ BC := by decide +kernel
theorem mulW_of {a b : Int} (ha : a.natAbs < 2 ^ 100000) (hb : b.natAbs < 2 ^ 100000) : CMulW a b := by
  unfold CMulW
  have h : ∀ {n : Nat}, n < 2 ^ 100000 → n.log2 < 100000 := fun {n} hn => by
    by_cases h0 : n = 0
    · rw [h0]; decide
    · exact (Nat.log2_lt h0).mpr hn
  have := h ha
  have := h hb
  omega
theorem ipow_mono {a : Int} (h : 1 ≤ a) {m n : Nat} (hm : m ≤ n) : a ^ m ≤ a ^ n := by
  obtain ⟨k, rfl⟩ : ∃ k, n = m + k := ⟨n - m, by omega⟩
  rw [Int.pow_add]
  have h1 : 1 ≤ a ^ k := by
    have : (0 : Int) < a ^ k := Int.pow_pos (by omega)
    omega
  have h2 : a ^ m * 1 ≤ a ^ m * a ^ k := Int.mul_le_mul_of_nonneg_left h1 (Int.le_of_lt (Int.pow_pos (by omega)))
  omega
/-- how great the sizes are -/
theorem size_small {d : Nat} {p : Prog} (h : Wf BC BC d p) (hd : d ≤ 20) (hl : p.len ≤ 4000) : p.size ≤ 10 ^ 704 := by
  have h1 := Prog.size_le BC_one h
  have h2 : (4000 * BC) ^ d ≤ (4000 * BC) ^ 20 := ipow_mono (by decide +kernel) hd
  have h3 : (p.len : Int) * (4000 * BC) ^ d ≤ 4000 * (4000 * BC) ^ 20 := Int.mul_le_mul (by omega) h2 (Int.le_of_lt (Int.pow_pos (by decide +kernel))) (by omega)
  exact Int.le_trans h1 (Int.le_trans h3 (by decide +kernel))
theorem size_bits {d : Nat} {p : Prog} (h : Wf BC BC d p) (hd : d ≤ 20) (hl : p.len ≤ 4000) : p.size.natAbs < 2 ^ 100000 := by
  have h1 := size_small h hd hl
  have h0 := Prog.size_nonneg h
  refine Nat.lt_of_le_of_lt (m := 10 ^ 704) ?_ (by decide +kernel)
  have : (p.size.natAbs : Int) ≤ ((10 ^ 704 : Nat) : Int) := by
    rw [Int.natAbs_of_nonneg h0]
    exact h1
  exact Int.ofNat_le.mp this
theorem head_bits {d : Nat} {p : Prog} (h : Wf BC BC d p) (hd : d ≤ 20) (hl : p.len ≤ 4000) : p.head.natAbs < 2 ^ 100000 := by
  have h1 := size_small h hd hl
  have h0 := Prog.head_le BC_one (by decide +kernel) h
  refine Nat.lt_of_le_of_lt (m := 10 ^ 740) ?_ (by decide +kernel)
  have h2 : BC * p.size ≤ BC * 10 ^ 704 := Int.mul_le_mul_of_nonneg_left h1 (by decide +kernel)
  have : (p.head.natAbs : Int) ≤ ((10 ^ 740 : Nat) : Int) := Int.le_trans h0 (Int.le_trans h2 (by decide +kernel))
  exact Int.ofNat_le.mp this
theorem count_bits {k : Int} (h0 : -BC ≤ k) (h1 : k ≤ BC) : k.natAbs < 2 ^ 100000 := by
  refine Nat.lt_of_le_of_lt (m := 10 ^ 31) ?_ (by decide +kernel)
  have : BC = 10 ^ 31 := rfl
  omega
end My

set_option Elab.async false
set_option linter.all false
set_option maxRecDepth 100000
namespace My
open PySem PySem.Spec PyProof.Rows L2
def topS (i : Nat) : Stmt := PySem.Challenge.pw_everyangle_k59_chains.main.body.getD i (.Pass ⟨0, 0, 0, 0⟩)
abbrev s_is_integer : Stmt := topS 9
abbrev s_is_term : Stmt := topS 11
abbrev s_summed : Stmt := topS 12
abbrev s_Poly___init__ : Stmt := inClass (topS 13) 0
abbrev s_Poly_terms : Stmt := inClass (topS 13) 1
abbrev s_Poly___len__ : Stmt := inClass (topS 13) 3
abbrev s_Poly_mirrored : Stmt := inClass (topS 13) 16
abbrev s_is_name : Stmt := topS 24
abbrev s_is_command : Stmt := topS 25
abbrev s_is_program : Stmt := topS 26
abbrev s_check_program : Stmt := topS 27
abbrev s_raw_size : Stmt := topS 28
abbrev s_raw_heading : Stmt := topS 29
abbrev s_plain_row : Stmt := topS 30
abbrev s_raw_is_short : Stmt := topS 31
abbrev s_raw_steps : Stmt := topS 33
abbrev s_add_step : Stmt := topS 34
abbrev s_place_from : Stmt := topS 35
abbrev s_raw_effect : Stmt := topS 36
abbrev s_turn_sum : Stmt := topS 38
abbrev s_raw_chain : Stmt := topS 39
abbrev s_checked_chain : Stmt := topS 40
abbrev s_chain : Stmt := topS 41
abbrev s_l_pot : Stmt := topS 43
abbrev s_l_take : Stmt := topS 44
abbrev s_l_one_step : Stmt := topS 45
abbrev s_l_bits : Stmt := topS 46
abbrev s_l_ring_of : Stmt := topS 47
abbrev s_l_plain : Stmt := topS 48
abbrev s_l_bulk : Stmt := topS 49
abbrev s_l_sign : Stmt := topS 50
abbrev s_l_fits : Stmt := topS 51
abbrev s_l_seed : Stmt := topS 52
abbrev s_l_often : Stmt := topS 53
abbrev s_l_turns : Stmt := topS 54
abbrev s_l_summed : Stmt := topS 55
abbrev s_l_upside : Stmt := topS 56
abbrev s_l_round : Stmt := topS 57
abbrev s_l_wraps : Stmt := topS 58
abbrev s_l_wrapped : Stmt := topS 59
abbrev s_l_chained : Stmt := topS 60
abbrev s_l_whole_number : Stmt := topS 61
abbrev s_l_place_rows : Stmt := topS 62
abbrev s_l_told_chain : Stmt := topS 63
abbrev s_l_last : Stmt := topS 64
abbrev s_l_small : Stmt := topS 65
abbrev s_l_less : Stmt := topS 66
abbrev s_law : Stmt := topS 67
theorem sc_is_integer : FnScope ["value"] ["value"] (defScope s_is_integer) := ⟨rfl, rfl, rfl, by decide +kernel, rfl, by decide +kernel, by decide +kernel⟩
theorem sc_is_term : FnScope ["value"] ["value"] (defScope s_is_term) := ⟨rfl, rfl, rfl, by decide +kernel, rfl, by decide +kernel, by decide +kernel⟩
theorem sc_summed : FnScope ["terms", "sums", "power", "number"] ["terms"] (defScope s_summed) := ⟨rfl, rfl, rfl, by decide +kernel, rfl, by decide +kernel, by decide +kernel⟩
theorem sc_Poly___init__ : FnScope ["self", "terms", "term"] ["self", "terms"] (defScope s_Poly___init__) := ⟨rfl, rfl, rfl, by decide +kernel, rfl, by decide +kernel, by decide +kernel⟩
theorem sc_Poly_terms : FnScope ["self"] ["self"] (defScope s_Poly_terms) := ⟨rfl, rfl, rfl, by decide +kernel, rfl, by decide +kernel, by decide +kernel⟩
theorem sc_Poly___len__ : FnScope ["self"] ["self"] (defScope s_Poly___len__) := ⟨rfl, rfl, rfl, by decide +kernel, rfl, by decide +kernel, by decide +kernel⟩
theorem sc_Poly_mirrored : FnScope ["self", "power", "number"] ["self"] (defScope s_Poly_mirrored) := ⟨rfl, rfl, rfl, by decide +kernel, rfl, by decide +kernel, by decide +kernel⟩
theorem sc_is_name : FnScope ["value"] ["value"] (defScope s_is_name) := ⟨rfl, rfl, rfl, by decide +kernel, rfl, by decide +kernel, by decide +kernel⟩
theorem sc_is_command : FnScope ["value", "word"] ["value"] (defScope s_is_command) := ⟨rfl, rfl, rfl, by decide +kernel, rfl, by decide +kernel, by decide +kernel⟩
theorem sc_is_program : FnScope ["value", "command"] ["value"] (defScope s_is_program) := ⟨rfl, rfl, rfl, by decide +kernel, rfl, by decide +kernel, by decide +kernel⟩
theorem sc_check_program : FnScope ["value"] ["value"] (defScope s_check_program) := ⟨rfl, rfl, rfl, by decide +kernel, rfl, by decide +kernel, by decide +kernel⟩
theorem sc_raw_size : FnScope ["program", "total", "command"] ["program"] (defScope s_raw_size) := ⟨rfl, rfl, rfl, by decide +kernel, rfl, by decide +kernel, by decide +kernel⟩
theorem sc_raw_heading : FnScope ["program", "total", "command"] ["program"] (defScope s_raw_heading) := ⟨rfl, rfl, rfl, by decide +kernel, rfl, by decide +kernel, by decide +kernel⟩
theorem sc_plain_row : FnScope ["program", "sign", "row", "command"] ["program", "sign"] (defScope s_plain_row) := ⟨rfl, rfl, rfl, by decide +kernel, rfl, by decide +kernel, by decide +kernel⟩
theorem sc_raw_is_short : FnScope ["program", "now", "command"] ["program"] (defScope s_raw_is_short) := ⟨rfl, rfl, rfl, by decide +kernel, rfl, by decide +kernel, by decide +kernel⟩
theorem sc_raw_steps : FnScope ["program", "now", "steps", "word", "value"] ["program"] (defScope s_raw_steps) := ⟨rfl, rfl, rfl, by decide +kernel, rfl, by decide +kernel, by decide +kernel⟩
theorem sc_add_step : FnScope ["numbers", "step", "word", "name", "power", "row"] ["numbers", "step"] (defScope s_add_step) := ⟨rfl, rfl, rfl, by decide +kernel, rfl, by decide +kernel, by decide +kernel⟩
theorem sc_place_from : FnScope ["numbers", "found", "name", "poly"] ["numbers"] (defScope s_place_from) := ⟨rfl, rfl, rfl, by decide +kernel, rfl, by decide +kernel, by decide +kernel⟩
theorem sc_raw_effect : FnScope ["program", "now", "steps", "numbers", "step"] ["program"] (defScope s_raw_effect) := ⟨rfl, rfl, rfl, by decide +kernel, rfl, by decide +kernel, by decide +kernel⟩
theorem sc_turn_sum : FnScope ["commands", "command"] ["commands"] (defScope s_turn_sum) := ⟨rfl, rfl, rfl, by decide +kernel, rfl, by decide +kernel, by decide +kernel⟩
theorem sc_raw_chain : FnScope ["program", "aim", "place", "spots", "command", "inner", "shift", "factors", "core", "k", "number", "turn", "name", "poly"] ["program"] (defScope s_raw_chain) := ⟨rfl, rfl, rfl, by decide +kernel, rfl, by decide +kernel, by decide +kernel⟩
theorem sc_checked_chain : FnScope ["program", "found"] ["program"] (defScope s_checked_chain) := ⟨rfl, rfl, rfl, by decide +kernel, rfl, by decide +kernel, by decide +kernel⟩
theorem sc_chain : FnScope ["program"] ["program"] (defScope s_chain) := ⟨rfl, rfl, rfl, by decide +kernel, rfl, by decide +kernel, by decide +kernel⟩
theorem sc_l_pot : FnScope ["_law_cell"] ["_law_cell"] (defScope s_l_pot) := ⟨rfl, rfl, rfl, by decide +kernel, rfl, by decide +kernel, by decide +kernel⟩
theorem sc_l_take : FnScope ["_law_pot_here", "_law_many", "_law_taken", "_law_blend"] ["_law_pot_here", "_law_many"] (defScope s_l_take) := ⟨rfl, rfl, rfl, by decide +kernel, rfl, by decide +kernel, by decide +kernel⟩
theorem sc_l_one_step : FnScope ["_law_pot_here", "_law_signs", "_law_word"] ["_law_pot_here", "_law_signs"] (defScope s_l_one_step) := ⟨rfl, rfl, rfl, by decide +kernel, rfl, by decide +kernel, by decide +kernel⟩
theorem sc_l_bits : FnScope ["_law_pot_here", "_law_signs", "_law_most", "_law_bound", "_law_found", "_law_aim", "_law_k", "_law_reach", "_law_goal"] ["_law_pot_here", "_law_signs", "_law_most", "_law_bound"] (defScope s_l_bits) := ⟨rfl, rfl, rfl, by decide +kernel, rfl, by decide +kernel, by decide +kernel⟩
theorem sc_l_ring_of : FnScope ["_law_pot_here", "_law_signs", "_law_most", "_law_bound", "_law_often_here", "_law_turn"] ["_law_pot_here", "_law_signs", "_law_most", "_law_bound"] (defScope s_l_ring_of) := ⟨rfl, rfl, rfl, by decide +kernel, rfl, by decide +kernel, by decide +kernel⟩
theorem sc_l_plain : FnScope ["_law_track", "_law_side", "_law_found", "_law_command"] ["_law_track", "_law_side"] (defScope s_l_plain) := ⟨rfl, rfl, rfl, by decide +kernel, rfl, by decide +kernel, by decide +kernel⟩
theorem sc_l_bulk : FnScope ["_law_track", "_law_total", "_law_command"] ["_law_track"] (defScope s_l_bulk) := ⟨rfl, rfl, rfl, by decide +kernel, rfl, by decide +kernel, by decide +kernel⟩
theorem sc_l_sign : FnScope ["_law_word"] ["_law_word"] (defScope s_l_sign) := ⟨rfl, rfl, rfl, by decide +kernel, rfl, by decide +kernel, by decide +kernel⟩
theorem sc_l_fits : FnScope ["_law_track", "_law_aim", "_law_command"] ["_law_track"] (defScope s_l_fits) := ⟨rfl, rfl, rfl, by decide +kernel, rfl, by decide +kernel, by decide +kernel⟩
theorem sc_l_seed : FnScope ["_law_track", "_law_aim", "_law_rows"] ["_law_track"] (defScope s_l_seed) := ⟨rfl, rfl, rfl, by decide +kernel, rfl, by decide +kernel, by decide +kernel⟩
theorem sc_l_often : FnScope ["_law_pot_here", "_law_kind", "_law_some", "_law_far"] ["_law_pot_here", "_law_kind"] (defScope s_l_often) := ⟨rfl, rfl, rfl, by decide +kernel, rfl, by decide +kernel, by decide +kernel⟩
theorem sc_l_turns : FnScope ["_law_pot_here", "_law_most", "_law_kind", "_law_found", "_law_k", "_law_much"] ["_law_pot_here", "_law_most", "_law_kind"] (defScope s_l_turns) := ⟨rfl, rfl, rfl, by decide +kernel, rfl, by decide +kernel, by decide +kernel⟩
theorem sc_l_summed : FnScope ["_law_commands", "_law_command"] ["_law_commands"] (defScope s_l_summed) := ⟨rfl, rfl, rfl, by decide +kernel, rfl, by decide +kernel, by decide +kernel⟩
theorem sc_l_upside : FnScope ["_law_rows", "_law_found", "_law_sign_here", "_law_row", "_law_spot"] ["_law_rows"] (defScope s_l_upside) := ⟨rfl, rfl, rfl, by decide +kernel, rfl, by decide +kernel, by decide +kernel⟩
theorem sc_l_round : FnScope ["_law_made", "_law_ahead", "_law_often_here", "_law_behind", "_law_more", "_law_track", "_law_factors", "_law_found", "_law_one", "_law_turn"] ["_law_made", "_law_ahead", "_law_often_here", "_law_behind"] (defScope s_l_round) := ⟨rfl, rfl, rfl, by decide +kernel, rfl, by decide +kernel, by decide +kernel⟩
theorem sc_l_wraps : FnScope ["_law_pot_here", "_law_most", "_law_kind", "_law_found", "_law_k", "_law_often_here"] ["_law_pot_here", "_law_most", "_law_kind"] (defScope s_l_wraps) := ⟨rfl, rfl, rfl, by decide +kernel, rfl, by decide +kernel, by decide +kernel⟩
theorem sc_l_wrapped : FnScope ["_law_made", "_law_wraps_here", "_law_ahead", "_law_often_here", "_law_behind"] ["_law_made", "_law_wraps_here"] (defScope s_l_wrapped) := ⟨rfl, rfl, rfl, by decide +kernel, rfl, by decide +kernel, by decide +kernel⟩
theorem sc_l_chained : FnScope ["_law_pot_here", "_law_most", "_law_kind", "_law_track", "_law_wraps_here", "_law_command"] ["_law_pot_here", "_law_most", "_law_kind"] (defScope s_l_chained) := ⟨rfl, rfl, rfl, by decide +kernel, rfl, by decide +kernel, by decide +kernel⟩
theorem sc_l_whole_number : FnScope ["_law_value"] ["_law_value"] (defScope s_l_whole_number) := ⟨rfl, rfl, rfl, by decide +kernel, rfl, by decide +kernel, by decide +kernel⟩
theorem sc_l_place_rows : FnScope ["_law_found", "_law_rows", "_law_last_here", "_law_pair", "_law_row", "_law_spot", "_law_much"] ["_law_found"] (defScope s_l_place_rows) := ⟨rfl, rfl, rfl, by decide +kernel, rfl, by decide +kernel, by decide +kernel⟩
theorem sc_l_told_chain : FnScope ["_law_found", "_law_pair", "_law_rows"] ["_law_found"] (defScope s_l_told_chain) := ⟨rfl, rfl, rfl, by decide +kernel, rfl, by decide +kernel, by decide +kernel⟩
theorem sc_l_last : FnScope ["_law_track", "_law_aim", "_law_rows", "_law_word", "_law_what", "_law_row"] ["_law_track"] (defScope s_l_last) := ⟨rfl, rfl, rfl, by decide +kernel, rfl, by decide +kernel, by decide +kernel⟩
theorem sc_l_small : FnScope ["_law_pot_here", "_law_signs", "_law_way", "_law_turn", "_law_found", "_law_sign_here", "_law_k"] ["_law_pot_here"] (defScope s_l_small) := ⟨rfl, rfl, rfl, by decide +kernel, rfl, by decide +kernel, by decide +kernel⟩
theorem sc_l_less : FnScope ["_law_one", "_law_two", "_law_found", "_law_sign_here", "_law_row", "_law_mine", "_law_other", "_law_spot", "_law_much"] ["_law_one", "_law_two"] (defScope s_l_less) := ⟨rfl, rfl, rfl, by decide +kernel, rfl, by decide +kernel, by decide +kernel⟩
theorem sc_law : FnScope ["_law_script", "_law_great", "_law_cell", "_law_pot_here", "_law_made", "_law_due", "_law_found"] ["_law_script"] (defScope s_law) := ⟨rfl, rfl, rfl, by decide +kernel, rfl, by decide +kernel, by decide +kernel⟩
/-- the built-ins that the text calls by their names -/
structure Bl (mg : Str → Option Value) : Prop where
  b_isinstance : mg "isinstance" = none
  b_int : mg "int" = none
  b_bool : mg "bool" = none
  b_str : mg "str" = none
  b_tuple : mg "tuple" = none
  b_list : mg "list" = none
  b_len : mg "len" = none
  b_all : mg "all" = none
  b_range : mg "range" = none
  b_sum : mg "sum" = none
  b_max : mg "max" = none
  b_min : mg "min" = none
end My

set_option Elab.async false
set_option linter.all false
set_option maxRecDepth 100000
set_option maxHeartbeats 0
/-! the head: what is looked at behind the top, the run (printed by head.py) -/
namespace My
open PySem PySem.Spec PyProof.Rows L2
noncomputable section
def hdc0 (K : PySem.W.Frag) : List Bool := [
  He.eqO (PySem.W.nsIn K mainGlobals "Poly") (some (some (.ref (He.ga K "Poly")))),
  PySem.W.plainGet K (He.ga K "Poly") Str.empty,
  PySem.W.hasDictIn K (He.ga K "Poly"),
  PySem.W.plainOver K (He.ga K "Poly"),
  He.eqO (PySem.W.findIn K (.ref (He.ga K "Poly")) "__setattr__") (some (some (.builtin "object.__setattr__"))),
  PySem.W.makesIn K (He.ga K "Poly"),
  PySem.W.keepIn K (.ref (He.ga K "Poly")),
  He.eqO (PySem.W.findIn K (.ref (He.ga K "Poly")) "rows") (some none),
  PySem.W.selfFirst K (He.ga K "Poly"),
  clsC (PySem.W.clsIn K (He.ga K "Poly")) [.ref (He.ga K "Poly"), .type "object"],
  He.eqO (PySem.W.findIn K (.ref (He.ga K "Poly")) "__class__") (some (some (.builtin "object.__class__"))),
  He.eqO (PySem.W.specialIn K (.builtin "object.__class__") "__get__") (some (some (.builtin "getset_descriptor.__get__"))),
  decide (PySem.W.takesIn K (.builtin "object.__class__") = some true),
  decide (PySem.W.mroIn K (He.ga K "Poly") (.type "object") = some true),
  decide (PySem.W.typeIn K (.ref (He.ga K "Poly")) = some (.type "type")),
  decide (PySem.W.subIn K (.type "int") (.ref (He.ga K "Poly")) = some false),
  decide (PySem.W.subIn K (.type "bool") (.ref (He.ga K "Poly")) = some false),
  decide (PySem.W.subIn K (.type "str") (.ref (He.ga K "Poly")) = some false),
  decide (PySem.W.subIn K (.type "list") (.ref (He.ga K "Poly")) = some false),
  decide (PySem.W.subIn K (.type "tuple") (.ref (He.ga K "Poly")) = some false),
  decide (PySem.W.subIn K (.type "NoneType") (.ref (He.ga K "Poly")) = some false),
  decide (PySem.W.subIn K (.ref (He.ga K "Poly")) (.type "int") = some false),
  decide (PySem.W.subIn K (.ref (He.ga K "Poly")) (.type "bool") = some false),
  decide (PySem.W.subIn K (.ref (He.ga K "Poly")) (.type "list") = some false),
  decide (PySem.W.subIn K (.ref (He.ga K "Poly")) (.type "tuple") = some false),
  He.eqO (PySem.W.nsIn K mainGlobals "is_integer") (some (some (.ref (He.ga K "is_integer")))),
  fnC K (He.ga K "is_integer") "is_integer" .none,
  PySem.W.keepIn K (.ref (He.ga K "is_integer")),
  He.eqO (PySem.W.nsIn K mainGlobals "is_term") (some (some (.ref (He.ga K "is_term")))),
  fnC K (He.ga K "is_term") "is_term" .none]
def hdc1 (K : PySem.W.Frag) : List Bool := [
  PySem.W.keepIn K (.ref (He.ga K "is_term")),
  He.eqO (PySem.W.nsIn K mainGlobals "summed") (some (some (.ref (He.ga K "summed")))),
  fnC K (He.ga K "summed") "summed" .none,
  PySem.W.keepIn K (.ref (He.ga K "summed")),
  He.eqO (PySem.W.findIn K (.ref (He.ga K "Poly")) "__init__") (some (some (.ref (He.ma K (He.ga K "Poly") "__init__")))),
  PySem.W.isFn K (.ref (He.ma K (He.ga K "Poly") "__init__")),
  fnC K (He.ma K (He.ga K "Poly") "__init__") "Poly.__init__" .none,
  PySem.W.keepIn K (.ref (He.ma K (He.ga K "Poly") "__init__")),
  He.eqO (PySem.W.nsIn K mainGlobals "_law_pot") (some (some (.ref (He.ga K "_law_pot")))),
  fnC K (He.ga K "_law_pot") "_law_pot" .none,
  PySem.W.keepIn K (.ref (He.ga K "_law_pot")),
  He.eqO (PySem.W.nsIn K mainGlobals "_law_take") (some (some (.ref (He.ga K "_law_take")))),
  fnC K (He.ga K "_law_take") "_law_take" .none,
  PySem.W.keepIn K (.ref (He.ga K "_law_take")),
  He.eqO (PySem.W.nsIn K mainGlobals "_law_one_step") (some (some (.ref (He.ga K "_law_one_step")))),
  fnC K (He.ga K "_law_one_step") "_law_one_step" .none,
  PySem.W.keepIn K (.ref (He.ga K "_law_one_step")),
  He.eqO (PySem.W.nsIn K mainGlobals "_law_bits") (some (some (.ref (He.ga K "_law_bits")))),
  fnC K (He.ga K "_law_bits") "_law_bits" .none,
  PySem.W.keepIn K (.ref (He.ga K "_law_bits")),
  He.eqO (PySem.W.nsIn K mainGlobals "_law_ring_of") (some (some (.ref (He.ga K "_law_ring_of")))),
  fnC K (He.ga K "_law_ring_of") "_law_ring_of" .none,
  PySem.W.keepIn K (.ref (He.ga K "_law_ring_of")),
  He.eqO (PySem.W.nsIn K mainGlobals "_law_small") (some (some (.ref (He.ga K "_law_small")))),
  fnC K (He.ga K "_law_small") "_law_small" .none,
  PySem.W.keepIn K (.ref (He.ga K "_law_small")),
  He.eqO (PySem.W.nsIn K mainGlobals "_law_often") (some (some (.ref (He.ga K "_law_often")))),
  fnC K (He.ga K "_law_often") "_law_often" .none,
  PySem.W.keepIn K (.ref (He.ga K "_law_often")),
  He.eqO (PySem.W.nsIn K mainGlobals "_law_turns") (some (some (.ref (He.ga K "_law_turns"))))]
def hdc2 (K : PySem.W.Frag) : List Bool := [
  fnC K (He.ga K "_law_turns") "_law_turns" .none,
  PySem.W.keepIn K (.ref (He.ga K "_law_turns")),
  He.eqO (PySem.W.nsIn K mainGlobals "_law_wraps") (some (some (.ref (He.ga K "_law_wraps")))),
  fnC K (He.ga K "_law_wraps") "_law_wraps" .none,
  PySem.W.keepIn K (.ref (He.ga K "_law_wraps")),
  He.eqO (PySem.W.nsIn K mainGlobals "_law_plain") (some (some (.ref (He.ga K "_law_plain")))),
  fnC K (He.ga K "_law_plain") "_law_plain" .none,
  PySem.W.keepIn K (.ref (He.ga K "_law_plain")),
  He.eqO (PySem.W.nsIn K mainGlobals "_law_sign") (some (some (.ref (He.ga K "_law_sign")))),
  fnC K (He.ga K "_law_sign") "_law_sign" .none,
  PySem.W.keepIn K (.ref (He.ga K "_law_sign")),
  He.eqO (PySem.W.nsIn K mainGlobals "_law_less") (some (some (.ref (He.ga K "_law_less")))),
  fnC K (He.ga K "_law_less") "_law_less" .none,
  PySem.W.keepIn K (.ref (He.ga K "_law_less")),
  He.eqO (PySem.W.nsIn K mainGlobals "_law_last") (some (some (.ref (He.ga K "_law_last")))),
  fnC K (He.ga K "_law_last") "_law_last" .none,
  PySem.W.keepIn K (.ref (He.ga K "_law_last")),
  He.eqO (PySem.W.nsIn K mainGlobals "_law_seed") (some (some (.ref (He.ga K "_law_seed")))),
  fnC K (He.ga K "_law_seed") "_law_seed" .none,
  PySem.W.keepIn K (.ref (He.ga K "_law_seed")),
  He.eqO (PySem.W.nsIn K mainGlobals "_law_summed") (some (some (.ref (He.ga K "_law_summed")))),
  fnC K (He.ga K "_law_summed") "_law_summed" .none,
  PySem.W.keepIn K (.ref (He.ga K "_law_summed")),
  He.eqO (PySem.W.nsIn K mainGlobals "_law_upside") (some (some (.ref (He.ga K "_law_upside")))),
  fnC K (He.ga K "_law_upside") "_law_upside" .none,
  PySem.W.keepIn K (.ref (He.ga K "_law_upside")),
  He.eqO (PySem.W.nsIn K mainGlobals "_law_bulk") (some (some (.ref (He.ga K "_law_bulk")))),
  fnC K (He.ga K "_law_bulk") "_law_bulk" .none,
  PySem.W.keepIn K (.ref (He.ga K "_law_bulk")),
  He.eqO (PySem.W.nsIn K mainGlobals "_law_fits") (some (some (.ref (He.ga K "_law_fits"))))]
def hdc3 (K : PySem.W.Frag) : List Bool := [
  fnC K (He.ga K "_law_fits") "_law_fits" .none,
  PySem.W.keepIn K (.ref (He.ga K "_law_fits")),
  He.eqO (PySem.W.nsIn K mainGlobals "_law_round") (some (some (.ref (He.ga K "_law_round")))),
  fnC K (He.ga K "_law_round") "_law_round" .none,
  PySem.W.keepIn K (.ref (He.ga K "_law_round")),
  He.eqO (PySem.W.nsIn K mainGlobals "_law_wrapped") (some (some (.ref (He.ga K "_law_wrapped")))),
  fnC K (He.ga K "_law_wrapped") "_law_wrapped" .none,
  PySem.W.keepIn K (.ref (He.ga K "_law_wrapped")),
  He.eqO (PySem.W.nsIn K mainGlobals "_law_chained") (some (some (.ref (He.ga K "_law_chained")))),
  fnC K (He.ga K "_law_chained") "_law_chained" .none,
  PySem.W.keepIn K (.ref (He.ga K "_law_chained")),
  He.eqO (PySem.W.nsIn K mainGlobals "is_command") (some (some (.ref (He.ga K "is_command")))),
  fnC K (He.ga K "is_command") "is_command" .none,
  PySem.W.keepIn K (.ref (He.ga K "is_command")),
  He.eqO (PySem.W.nsIn K mainGlobals "is_name") (some (some (.ref (He.ga K "is_name")))),
  fnC K (He.ga K "is_name") "is_name" .none,
  PySem.W.keepIn K (.ref (He.ga K "is_name")),
  He.eqO (PySem.W.nsIn K mainGlobals "is_program") (some (some (.ref (He.ga K "is_program")))),
  fnC K (He.ga K "is_program") "is_program" .none,
  PySem.W.keepIn K (.ref (He.ga K "is_program")),
  He.eqO (PySem.W.nsIn K mainGlobals "check_program") (some (some (.ref (He.ga K "check_program")))),
  fnC K (He.ga K "check_program") "check_program" .none,
  PySem.W.keepIn K (.ref (He.ga K "check_program")),
  He.eqO (PySem.W.nsIn K mainGlobals "raw_size") (some (some (.ref (He.ga K "raw_size")))),
  fnC K (He.ga K "raw_size") "raw_size" .none,
  PySem.W.keepIn K (.ref (He.ga K "raw_size")),
  He.eqO (PySem.W.nsIn K mainGlobals "plain_row") (some (some (.ref (He.ga K "plain_row")))),
  fnC K (He.ga K "plain_row") "plain_row" (.ref (dtA K (He.ga K "plain_row"))),
  PySem.W.keepIn K (.ref (He.ga K "plain_row")),
  tupI K (dtA K (He.ga K "plain_row")) 1]
def hdc4 (K : PySem.W.Frag) : List Bool := [
  He.eqO (PySem.W.nsIn K mainGlobals "raw_is_short") (some (some (.ref (He.ga K "raw_is_short")))),
  fnC K (He.ga K "raw_is_short") "raw_is_short" .none,
  PySem.W.keepIn K (.ref (He.ga K "raw_is_short")),
  He.eqO (PySem.W.nsIn K mainGlobals "raw_steps") (some (some (.ref (He.ga K "raw_steps")))),
  fnC K (He.ga K "raw_steps") "raw_steps" .none,
  PySem.W.keepIn K (.ref (He.ga K "raw_steps")),
  He.eqO (PySem.W.nsIn K mainGlobals "add_step") (some (some (.ref (He.ga K "add_step")))),
  fnC K (He.ga K "add_step") "add_step" .none,
  PySem.W.keepIn K (.ref (He.ga K "add_step")),
  He.eqO (PySem.W.findIn K (.ref (He.ga K "Poly")) "__len__") (some (some (.ref (He.ma K (He.ga K "Poly") "__len__")))),
  PySem.W.isFn K (.ref (He.ma K (He.ga K "Poly") "__len__")),
  fnC K (He.ma K (He.ga K "Poly") "__len__") "Poly.__len__" .none,
  PySem.W.keepIn K (.ref (He.ma K (He.ga K "Poly") "__len__")),
  He.eqO (PySem.W.nsIn K mainGlobals "place_from") (some (some (.ref (He.ga K "place_from")))),
  fnC K (He.ga K "place_from") "place_from" .none,
  PySem.W.keepIn K (.ref (He.ga K "place_from")),
  He.eqO (PySem.W.nsIn K mainGlobals "raw_effect") (some (some (.ref (He.ga K "raw_effect")))),
  fnC K (He.ga K "raw_effect") "raw_effect" .none,
  PySem.W.keepIn K (.ref (He.ga K "raw_effect")),
  He.eqO (PySem.W.nsIn K mainGlobals "raw_heading") (some (some (.ref (He.ga K "raw_heading")))),
  fnC K (He.ga K "raw_heading") "raw_heading" .none,
  PySem.W.keepIn K (.ref (He.ga K "raw_heading")),
  He.eqO (PySem.W.nsIn K mainGlobals "turn_sum") (some (some (.ref (He.ga K "turn_sum")))),
  fnC K (He.ga K "turn_sum") "turn_sum" .none,
  PySem.W.keepIn K (.ref (He.ga K "turn_sum")),
  He.eqO (PySem.W.findIn K (.ref (He.ga K "Poly")) "mirrored") (some (some (.ref (He.ma K (He.ga K "Poly") "mirrored")))),
  PySem.W.isFn K (.ref (He.ma K (He.ga K "Poly") "mirrored")),
  fnC K (He.ma K (He.ga K "Poly") "mirrored") "Poly.mirrored" .none,
  PySem.W.keepIn K (.ref (He.ma K (He.ga K "Poly") "mirrored")),
  He.eqO (PySem.W.nsIn K mainGlobals "raw_chain") (some (some (.ref (He.ga K "raw_chain"))))]
def hdc5 (K : PySem.W.Frag) : List Bool := [
  fnC K (He.ga K "raw_chain") "raw_chain" .none,
  PySem.W.keepIn K (.ref (He.ga K "raw_chain")),
  He.eqO (PySem.W.nsIn K mainGlobals "checked_chain") (some (some (.ref (He.ga K "checked_chain")))),
  fnC K (He.ga K "checked_chain") "checked_chain" .none,
  PySem.W.keepIn K (.ref (He.ga K "checked_chain")),
  He.eqO (PySem.W.nsIn K mainGlobals "chain") (some (some (.ref (He.ga K "chain")))),
  fnC K (He.ga K "chain") "chain" .none,
  PySem.W.keepIn K (.ref (He.ga K "chain")),
  He.eqO (PySem.W.nsIn K mainGlobals "_law_whole_number") (some (some (.ref (He.ga K "_law_whole_number")))),
  fnC K (He.ga K "_law_whole_number") "_law_whole_number" .none,
  PySem.W.keepIn K (.ref (He.ga K "_law_whole_number")),
  He.eqO (PySem.W.findIn K (.ref (He.ga K "Poly")) "terms") (some (some (.ref (He.ma K (He.ga K "Poly") "terms")))),
  He.eqO (PySem.W.specialIn K (.ref (He.ma K (He.ga K "Poly") "terms")) "__get__") (some (some (.builtin "property.__get__"))),
  decide (PySem.W.takesIn K (.ref (He.ma K (He.ga K "Poly") "terms")) = some true),
  prC K (He.ma K (He.ga K "Poly") "terms"),
  fnC K (prF K (He.ma K (He.ga K "Poly") "terms")) "Poly.terms" .none,
  PySem.W.keepIn K (.ref (prF K (He.ma K (He.ga K "Poly") "terms"))),
  He.eqO (PySem.W.nsIn K mainGlobals "_law_place_rows") (some (some (.ref (He.ga K "_law_place_rows")))),
  fnC K (He.ga K "_law_place_rows") "_law_place_rows" .none,
  PySem.W.keepIn K (.ref (He.ga K "_law_place_rows")),
  He.eqO (PySem.W.nsIn K mainGlobals "_law_told_chain") (some (some (.ref (He.ga K "_law_told_chain")))),
  fnC K (He.ga K "_law_told_chain") "_law_told_chain" .none,
  PySem.W.keepIn K (.ref (He.ga K "_law_told_chain")),
  He.eqO (PySem.W.nsIn K mainGlobals "law") (some (some (.ref (He.ga K "law")))),
  fnC K (He.ga K "law") "law" .none,
  PySem.W.keepIn K (.ref (He.ga K "law")),
  He.eqO (PySem.W.nsIn K mainGlobals "abs") (some none),
  He.eqO (PySem.W.nsIn K mainGlobals "all") (some none),
  He.eqO (PySem.W.nsIn K mainGlobals "bool") (some none),
  He.eqO (PySem.W.nsIn K mainGlobals "enumerate") (some none)]
def hdc6 (K : PySem.W.Frag) : List Bool := [
  He.eqO (PySem.W.nsIn K mainGlobals "int") (some none),
  He.eqO (PySem.W.nsIn K mainGlobals "isinstance") (some none),
  He.eqO (PySem.W.nsIn K mainGlobals "len") (some none),
  He.eqO (PySem.W.nsIn K mainGlobals "list") (some none),
  He.eqO (PySem.W.nsIn K mainGlobals "max") (some none),
  He.eqO (PySem.W.nsIn K mainGlobals "min") (some none),
  He.eqO (PySem.W.nsIn K mainGlobals "range") (some none),
  He.eqO (PySem.W.nsIn K mainGlobals "sorted") (some none),
  He.eqO (PySem.W.nsIn K mainGlobals "str") (some none),
  He.eqO (PySem.W.nsIn K mainGlobals "sum") (some none),
  He.eqO (PySem.W.nsIn K mainGlobals "tuple") (some none),
  He.eqO (PySem.W.nsIn K mainGlobals "STEPS") (some (some (.ref (He.ga K "STEPS")))),
  intC (PySem.W.nsIn K (He.ga K "STEPS") "go") 1,
  intC (PySem.W.nsIn K (He.ga K "STEPS") "back") (-1),
  intC (PySem.W.nsIn K (He.ga K "STEPS") "hop") 1,
  intC (PySem.W.nsIn K (He.ga K "STEPS") "slip") (-1),
  intC (PySem.W.nsIn K mainGlobals "MOST_COMMANDS") 200,
  intC (PySem.W.nsIn K mainGlobals "MOST_HEADING") 12]
def hdf0 (K : PySem.W.Frag) : List He.FnW := [fnE K (He.ga K "is_integer"), fnE K (He.ga K "is_term"), fnE K (He.ga K "summed"), fnE K (He.ma K (He.ga K "Poly") "__init__"), fnE K (He.ga K "_law_pot"), fnE K (He.ga K "_law_take"), fnE K (He.ga K "_law_one_step"), fnE K (He.ga K "_law_bits"), fnE K (He.ga K "_law_ring_of"), fnE K (He.ga K "_law_small"), fnE K (He.ga K "_law_often"), fnE K (He.ga K "_law_turns"), fnE K (He.ga K "_law_wraps"), fnE K (He.ga K "_law_plain"), fnE K (He.ga K "_law_sign"), fnE K (He.ga K "_law_less"), fnE K (He.ga K "_law_last"), fnE K (He.ga K "_law_seed"), fnE K (He.ga K "_law_summed"), fnE K (He.ga K "_law_upside"), fnE K (He.ga K "_law_bulk"), fnE K (He.ga K "_law_fits"), fnE K (He.ga K "_law_round"), fnE K (He.ga K "_law_wrapped"), fnE K (He.ga K "_law_chained"), fnE K (He.ga K "is_command"), fnE K (He.ga K "is_name"), fnE K (He.ga K "is_program"), fnE K (He.ga K "check_program"), fnE K (He.ga K "raw_size")]
def hdv0 : List He.FnW := [
  some ("is_integer", "is_integer", (defArgs s_is_integer), .stmts (defBody s_is_integer), (defScope s_is_integer), mainGlobals, [], builtinsNs),
  some ("is_term", "is_term", (defArgs s_is_term), .stmts (defBody s_is_term), (defScope s_is_term), mainGlobals, [], builtinsNs),
  some ("summed", "summed", (defArgs s_summed), .stmts (defBody s_summed), (defScope s_summed), mainGlobals, [], builtinsNs),
  some ("__init__", "Poly.__init__", (defArgs s_Poly___init__), .stmts (defBody s_Poly___init__), (defScope s_Poly___init__), mainGlobals, [], builtinsNs),
  some ("_law_pot", "_law_pot", (defArgs s_l_pot), .stmts (defBody s_l_pot), (defScope s_l_pot), mainGlobals, [], builtinsNs),
  some ("_law_take", "_law_take", (defArgs s_l_take), .stmts (defBody s_l_take), (defScope s_l_take), mainGlobals, [], builtinsNs),
  some ("_law_one_step", "_law_one_step", (defArgs s_l_one_step), .stmts (defBody s_l_one_step), (defScope s_l_one_step), mainGlobals, [], builtinsNs),
  some ("_law_bits", "_law_bits", (defArgs s_l_bits), .stmts (defBody s_l_bits), (defScope s_l_bits), mainGlobals, [], builtinsNs),
  some ("_law_ring_of", "_law_ring_of", (defArgs s_l_ring_of), .stmts (defBody s_l_ring_of), (defScope s_l_ring_of), mainGlobals, [], builtinsNs),
  some ("_law_small", "_law_small", (defArgs s_l_small), .stmts (defBody s_l_small), (defScope s_l_small), mainGlobals, [], builtinsNs),
  some ("_law_often", "_law_often", (defArgs s_l_often), .stmts (defBody s_l_often), (defScope s_l_often), mainGlobals, [], builtinsNs),
  some ("_law_turns", "_law_turns", (defArgs s_l_turns), .stmts (defBody s_l_turns), (defScope s_l_turns), mainGlobals, [], builtinsNs),
  some ("_law_wraps", "_law_wraps", (defArgs s_l_wraps), .stmts (defBody s_l_wraps), (defScope s_l_wraps), mainGlobals, [], builtinsNs),
  some ("_law_plain", "_law_plain", (defArgs s_l_plain), .stmts (defBody s_l_plain), (defScope s_l_plain), mainGlobals, [], builtinsNs),
  some ("_law_sign", "_law_sign", (defArgs s_l_sign), .stmts (defBody s_l_sign), (defScope s_l_sign), mainGlobals, [], builtinsNs),
  some ("_law_less", "_law_less", (defArgs s_l_less), .stmts (defBody s_l_less), (defScope s_l_less), mainGlobals, [], builtinsNs),
  some ("_law_last", "_law_last", (defArgs s_l_last), .stmts (defBody s_l_last), (defScope s_l_last), mainGlobals, [], builtinsNs),
  some ("_law_seed", "_law_seed", (defArgs s_l_seed), .stmts (defBody s_l_seed), (defScope s_l_seed), mainGlobals, [], builtinsNs),
  some ("_law_summed", "_law_summed", (defArgs s_l_summed), .stmts (defBody s_l_summed), (defScope s_l_summed), mainGlobals, [], builtinsNs),
  some ("_law_upside", "_law_upside", (defArgs s_l_upside), .stmts (defBody s_l_upside), (defScope s_l_upside), mainGlobals, [], builtinsNs),
  some ("_law_bulk", "_law_bulk", (defArgs s_l_bulk), .stmts (defBody s_l_bulk), (defScope s_l_bulk), mainGlobals, [], builtinsNs),
  some ("_law_fits", "_law_fits", (defArgs s_l_fits), .stmts (defBody s_l_fits), (defScope s_l_fits), mainGlobals, [], builtinsNs),
  some ("_law_round", "_law_round", (defArgs s_l_round), .stmts (defBody s_l_round), (defScope s_l_round), mainGlobals, [], builtinsNs),
  some ("_law_wrapped", "_law_wrapped", (defArgs s_l_wrapped), .stmts (defBody s_l_wrapped), (defScope s_l_wrapped), mainGlobals, [], builtinsNs),
  some ("_law_chained", "_law_chained", (defArgs s_l_chained), .stmts (defBody s_l_chained), (defScope s_l_chained), mainGlobals, [], builtinsNs),
  some ("is_command", "is_command", (defArgs s_is_command), .stmts (defBody s_is_command), (defScope s_is_command), mainGlobals, [], builtinsNs),
  some ("is_name", "is_name", (defArgs s_is_name), .stmts (defBody s_is_name), (defScope s_is_name), mainGlobals, [], builtinsNs),
  some ("is_program", "is_program", (defArgs s_is_program), .stmts (defBody s_is_program), (defScope s_is_program), mainGlobals, [], builtinsNs),
  some ("check_program", "check_program", (defArgs s_check_program), .stmts (defBody s_check_program), (defScope s_check_program), mainGlobals, [], builtinsNs),
  some ("raw_size", "raw_size", (defArgs s_raw_size), .stmts (defBody s_raw_size), (defScope s_raw_size), mainGlobals, [], builtinsNs)]
def hdf1 (K : PySem.W.Frag) : List He.FnW := [fnE K (He.ga K "plain_row"), fnE K (He.ga K "raw_is_short"), fnE K (He.ga K "raw_steps"), fnE K (He.ga K "add_step"), fnE K (He.ma K (He.ga K "Poly") "__len__"), fnE K (He.ga K "place_from"), fnE K (He.ga K "raw_effect"), fnE K (He.ga K "raw_heading"), fnE K (He.ga K "turn_sum"), fnE K (He.ma K (He.ga K "Poly") "mirrored"), fnE K (He.ga K "raw_chain"), fnE K (He.ga K "checked_chain"), fnE K (He.ga K "chain"), fnE K (He.ga K "_law_whole_number"), fnE K (prF K (He.ma K (He.ga K "Poly") "terms")), fnE K (He.ga K "_law_place_rows"), fnE K (He.ga K "_law_told_chain"), fnE K (He.ga K "law")]
def hdv1 : List He.FnW := [
  some ("plain_row", "plain_row", (defArgs s_plain_row), .stmts (defBody s_plain_row), (defScope s_plain_row), mainGlobals, [], builtinsNs),
  some ("raw_is_short", "raw_is_short", (defArgs s_raw_is_short), .stmts (defBody s_raw_is_short), (defScope s_raw_is_short), mainGlobals, [], builtinsNs),
  some ("raw_steps", "raw_steps", (defArgs s_raw_steps), .stmts (defBody s_raw_steps), (defScope s_raw_steps), mainGlobals, [], builtinsNs),
  some ("add_step", "add_step", (defArgs s_add_step), .stmts (defBody s_add_step), (defScope s_add_step), mainGlobals, [], builtinsNs),
  some ("__len__", "Poly.__len__", (defArgs s_Poly___len__), .stmts (defBody s_Poly___len__), (defScope s_Poly___len__), mainGlobals, [], builtinsNs),
  some ("place_from", "place_from", (defArgs s_place_from), .stmts (defBody s_place_from), (defScope s_place_from), mainGlobals, [], builtinsNs),
  some ("raw_effect", "raw_effect", (defArgs s_raw_effect), .stmts (defBody s_raw_effect), (defScope s_raw_effect), mainGlobals, [], builtinsNs),
  some ("raw_heading", "raw_heading", (defArgs s_raw_heading), .stmts (defBody s_raw_heading), (defScope s_raw_heading), mainGlobals, [], builtinsNs),
  some ("turn_sum", "turn_sum", (defArgs s_turn_sum), .stmts (defBody s_turn_sum), (defScope s_turn_sum), mainGlobals, [], builtinsNs),
  some ("mirrored", "Poly.mirrored", (defArgs s_Poly_mirrored), .stmts (defBody s_Poly_mirrored), (defScope s_Poly_mirrored), mainGlobals, [], builtinsNs),
  some ("raw_chain", "raw_chain", (defArgs s_raw_chain), .stmts (defBody s_raw_chain), (defScope s_raw_chain), mainGlobals, [], builtinsNs),
  some ("checked_chain", "checked_chain", (defArgs s_checked_chain), .stmts (defBody s_checked_chain), (defScope s_checked_chain), mainGlobals, [], builtinsNs),
  some ("chain", "chain", (defArgs s_chain), .stmts (defBody s_chain), (defScope s_chain), mainGlobals, [], builtinsNs),
  some ("_law_whole_number", "_law_whole_number", (defArgs s_l_whole_number), .stmts (defBody s_l_whole_number), (defScope s_l_whole_number), mainGlobals, [], builtinsNs),
  some ("terms", "Poly.terms", (defArgs s_Poly_terms), .stmts (defBody s_Poly_terms), (defScope s_Poly_terms), mainGlobals, [], builtinsNs),
  some ("_law_place_rows", "_law_place_rows", (defArgs s_l_place_rows), .stmts (defBody s_l_place_rows), (defScope s_l_place_rows), mainGlobals, [], builtinsNs),
  some ("_law_told_chain", "_law_told_chain", (defArgs s_l_told_chain), .stmts (defBody s_l_told_chain), (defScope s_l_told_chain), mainGlobals, [], builtinsNs),
  some ("law", "law", (defArgs s_law), .stmts (defBody s_law), (defScope s_law), mainGlobals, [], builtinsNs)]
def hdt (K : PySem.W.Frag) : List (Option (List (Option (Str × Int)))) := [He.dicW K (He.ga K "STEPS")]
def hdw (w : World) : List (Option (List (Option (Str × Int)))) := [some (He.keysIn w.params ["go", "hop", "back", "slip"])]
abbrev HdA : Type := List Bool × List (List He.FnW) × List (Option (List (Option (Str × Int))))
def hdObs (K : PySem.W.Frag) : HdA := ([(hdc0 K).all id, (hdc1 K).all id, (hdc2 K).all id, (hdc3 K).all id, (hdc4 K).all id, (hdc5 K).all id, (hdc6 K).all id], [hdf0 K, hdf1 K], hdt K)
def hdVal (w : World) : HdA := ([true, true, true, true, true, true, true], [hdv0, hdv1], hdw w)
def hdG (g : Addr → Option Obj) : HdA := hdObs (He.frG g (hdLv g 5 [mainGlobals]))
def hdHook : PySem.W.Hook where
  α := HdA
  obs := fun s => hdG s.heap.get?
  val := hdVal
  says := fun w h => ∃ K : PySem.W.Frag, K.In h ∧ hdObs K = hdVal w
  of := fun _ _ e => ⟨_, He.frG_in, e⟩
  keeps := fun _ _ _ ⟨K, hK, c⟩ k => ⟨K, PySem.W.Frag.In.keeps hK k, c⟩
def hdOb (s : PySem.W.SharedT) : HdA := hdG (HandSHeadRun.getT s)
theorem hdOb_eq (s : PySem.W.SharedT) : hdOb s = hdHook.obs s.abs := by
  have e : HandSHeadRun.getT s = s.abs.heap.get? := funext (HandSHeadRun.getT_eq s)
  show hdG _ = hdG _
  rw [e]
abbrev hdR : PySem.W.OpenRow := PySem.W.OpenLaw.row PySem.Challenge.rw_everyangle_k59_chains
abbrev hdQ : Program := PySem.W.view hdR.prog [67]
def hdn0 : List Str := ["_wall", "AngleError", "InvalidPoly", "InvalidDivisor", "InvalidNumber", "InvalidProgram", "NotAChain", "is_integer", "check_number", "is_term", "summed", "Poly", "check_poly", "as_poly", "negative", "product", "check_divisor", "division", "STEPS", "MOST_COMMANDS", "MOST_HEADING", "is_name", "is_command", "is_program", "check_program", "raw_size", "raw_heading", "plain_row", "raw_is_short", "raw_steps"]
def hdn1 : List Str := ["add_step", "place_from", "raw_effect", "turn_sum", "raw_chain", "checked_chain", "chain", "_law_pot", "_law_take", "_law_one_step", "_law_bits", "_law_ring_of", "_law_plain", "_law_bulk", "_law_sign", "_law_fits", "_law_seed", "_law_often", "_law_turns", "_law_summed", "_law_upside", "_law_round", "_law_wraps", "_law_wrapped", "_law_chained", "_law_whole_number", "_law_place_rows", "_law_told_chain", "_law_last", "_law_small"]
def hdn2 : List Str := ["_law_less"]
def hdL : List Str := hdn0 ++ hdn1 ++ hdn2
theorem hdRun_f (w : World) : HandSHeadRun.RunEq hdR hdQ hdHook hdOb 9000 hdL (w.withFollow "special-get-raises" false) := by
  intro os
  kernel_rfl
theorem hdRun_t (w : World) : HandSHeadRun.RunEq hdR hdQ hdHook hdOb 9000 hdL (w.withFollow "special-get-raises" true) := by
  intro os
  kernel_rfl
theorem hdRun (w : World) : HandSHeadRun.RunEq hdR hdQ hdHook hdOb 9000 hdL w := by_row hdRun_f hdRun_t w
end
end My
/-! the head itself, early in the text: what the law's def promises is asked for -/
open PySem PySem.Spec PyProof.Rows L2 in
theorem My.hd_law (FF : ∀ (w : World) (K : PySem.W.Frag) (h : Heap) (mg : Str → Option Value) (fa : Addr), K.In h → h.Ns mainGlobals mg → mg "law" = some (.ref fa) → My.hdObs K = My.hdVal w →
    ∃ fd : FuncData, (∀ (s : Shared) (v : Value), BindsTo s fd ⟨[v], []⟩ [("_law_script", v)]) ∧ ∀ base : Heap, K.In base → base.Ns mainGlobals mg → FnOk PySem.Challenge.rw_everyangle_k59_chains.prog w K mg base CX0 31 fa fd ["_law_script"] (My.spLaw K)) : PySem.Challenge.rw_everyangle_k59_chains.Holds := by
  w_on; o_law
  refine HandSHeadRun.head_any (r := PySem.W.OpenLaw.row PySem.Challenge.rw_everyangle_k59_chains) (q := My.hdQ) (H := My.hdHook) (ob := My.hdOb) (M := 9000) (loose := My.hdL) (d := HandSHeadRun.topDef (PySem.W.OpenLaw.row PySem.Challenge.rw_everyangle_k59_chains).prog 67) (kwd := []) My.hdOb_eq
    (by kernel_rfl) (fun s => by kernel_rfl) My.hdRun (by kernel_rfl) (by kernel_rfl) (by kernel_rfl) (by rfl) (by first | assumption | decide +kernel) (by decide +kernel) ⟨rfl, rfl, rfl, rfl, rfl, by decide +kernel⟩ ?hw ?hc
  case hw => w_witness2
  case hc =>
    refine L2.walk_ofE (l := PySem.Challenge.rw_everyangle_k59_chains) (n := 63) (k := 31) (x := "_law_script") (CX := L2.CX0) rfl (by decide) (by kernel_rfl) ⟨rfl, by decide, by decide⟩ ?F (fun _ _ _ _ z => z)
    intro w mg fa h Y G hmg0
    obtain ⟨K, KX, c⟩ := Y
    have hmg : mg ("law" : PySem.Str) = some (.ref fa) := by
      have e : (HandSHeadRun.topDef (PySem.W.OpenLaw.row PySem.Challenge.rw_everyangle_k59_chains).prog 67).name = ("law" : PySem.Str) := by kernel_rfl
      rw [← e]
      exact hmg0
    obtain ⟨fd, hb, hF⟩ := FF w K h mg fa KX G hmg c
    exact ⟨K, fd, My.spLaw K, KX, hb, fun H a ns hl _ hS => ⟨a, ns, rfl, hS, hl, fun _ => rfl⟩, hF⟩

set_option Elab.async false
set_option linter.all false
set_option maxRecDepth 100000
set_option maxHeartbeats 1000000
/-! enumerate(tuple) in a for or a comprehension: the kit has it of a list alone -/
namespace My
open PySem
open PySem.AutoSeq1 (wpAny_loadPart')
theorem meets_enumerate_newT (l : Addr) (items : Array Value) (n : Nat) (dct : Option Addr) (sl : Array (Option Value)) :
    Meets (Builtin.«enumerate.__new__» ⟨[.type "enumerate", .ref l], []⟩) (fun _ R s => s.heap.get? l = some { cls := .type "tuple", dict := dct, data := .seq items n, slots := sl } ∧
      R (.ok (.ret (.ref (s.heap.push { cls := .type "tuple_iterator", data := .fields #[.ref l, .int 0 0] }).objs.size)))
        { s with heap := (s.heap.push { cls := .type "tuple_iterator", data := .fields #[.ref l, .int 0 0] }).push { cls := .type "enumerate", data := .fields #[.none, .bool false, .ref s.heap.objs.size, rawInt 0, .none, .none] } }) :=
  .of_wp fun prog w A R s h => by
    obtain ⟨hp, g, d, tk, os⟩ := s; obtain ⟨hl, h⟩ := h
    have hsub := sub_enumerate
    have hL : Heap.IsTuple (Shared.heap ⟨hp, g, d, tk, os⟩) l items := ⟨_, hl, rfl, n, rfl⟩
    wp_walk using wpAny_loadPart' hl
    refine wpAny_stack_any fun st => wpAny_pure ?_
    split
    · rename_i c _ _ _ _ _
      cases (c == Value.type "enumerate")
      · wp_walk using wpAny_loadPart' hl, wpAny_pyIter_tuple hL
        exact ⟨_, rfl, h⟩
      · wp_walk using wpAny_loadPart' hl, wpAny_pyIter_tuple hL
        exact ⟨_, rfl, h⟩
    · wp_walk using wpAny_loadPart' hl, wpAny_pyIter_tuple hL
      exact ⟨_, rfl, h⟩
section
variable {prog : Program} {w : World} {A : Around} {E : Value → Shared → Prop} {s : Shared}
theorem call_enumerate_tuple {l : Addr} {items : Array Value} {Q : Value → Shared → Prop} (hL : s.heap.IsTuple l items)
    (h : ∀ h', IsEnum h' (s.heap.objs.size + 1) s.heap.objs.size 0 .none → h'.IsTupleIter s.heap.objs.size l 0 → h'.objs.size = s.heap.objs.size + 2 →
      (∀ b o, s.heap.get? b = some o → h'.get? b = some o) → Q (.ref (s.heap.objs.size + 1)) { s with heap := h' }) :
    wpAny (model prog w) A (call (.type "enumerate") [.ref l]) Q E s := by
  obtain ⟨⟨c, dct, dt, sl⟩, hl, hc, n, hd⟩ := hL
  replace hc : c = .type "tuple" := hc
  replace hd : dt = .seq items n := hd
  subst hc hd
  refine callType_new F.called_enumerate (by decide) (F.typeCall_enumerate_1 _) (F.newCall_enumerate_1 _) (fun obj => F.args_object_init_2 obj _) F.entry_enumerate_new
    (meets_enumerate_newT l items n dct sl) ⟨hl, ?_⟩
  have hz : (s.heap.push { cls := .type "tuple_iterator", data := .fields #[.ref l, .int 0 0] }).objs.size = s.heap.objs.size + 1 := Heap.size_push ..
  show _ ∧ _
  rw [hz]
  have he : IsEnum ((s.heap.push { cls := .type "tuple_iterator", data := .fields #[.ref l, .int 0 0] }).push
      { cls := .type "enumerate", data := .fields #[.none, .bool false, .ref s.heap.objs.size, rawInt 0, .none, .none] }) (s.heap.objs.size + 1) s.heap.objs.size 0 .none := by
    have := Heap.get?_push_size (s.heap.push { cls := .type "tuple_iterator", data := .fields #[.ref l, .int 0 0] })
      (o := { cls := .type "enumerate", data := .fields #[.none, .bool false, .ref s.heap.objs.size, rawInt 0, .none, .none] }) rfl
    rw [hz] at this; exact this
  refine ⟨⟨_, he, rfl⟩, h _ he ⟨_, Heap.get?_push_of_some _ (Heap.get?_push_size _ rfl), rfl, rfl⟩ (by rw [Heap.size_push, hz]) fun b o x => Heap.get?_push_of_some _ (Heap.get?_push_of_some _ x)⟩
end
theorem pyNext_enum_endT {prog : Program} {w : World} {A : Around} {E : Value → Shared → Prop} {s : Shared} {e it t : Addr} {i : Nat} {items : Array Value} {k : Int} {old : Value} {Q : Option Value → Shared → Prop} (hh : A.in1.handled = none)
    (he : IsEnum s.heap e it k old) (hit : s.heap.IsTupleIter it t i) (ht : s.heap.IsTuple t items) (hx : items[i]? = none)
    (hQ : ∀ h', Heap.ExtBut it s.heap h' → Q none { s with heap := h' }) : wpAny (model prog w) A (pyNext (.ref e)) Q E s := by
  have hT : s.TypeIs (.ref e) "enumerate" := ⟨_, he, rfl⟩
  unfold pyNext
  refine wpAny_bind (wpAny_attempt (wpAny_callSpecial?_slot (name := Str.ofString "__next__") hT F.slot_enumerate_next
    (wpAny_call_entry F.slot_enumerate_next hT F.entry_enumerate_next ?_ (F.args_enumerate_next_1 _))))
  show wpAny _ _ (field (.ref e) 2 >>= _) _ _ _
  refine wpAny_bind (wpAny_field he rfl (x := .ref it) rfl ?_)
  refine wpAny_bind (wpAny_nextOf_tuple_end hh hit ht hx fun h' x he' hx' => ?_)
  obtain ⟨o, ho, hc⟩ := hx'
  refine wpAny_bind (wpAny_isInstance (T := "StopIteration") (b := true) ⟨o, ho, hc⟩ isSubtype_stop ?_)
  exact wpAny_pure (hQ _ he')
open PySem.Spec PyProof.Rows L2
/-- the tuple at a, each item in a new pair with its place -/
def IteT (K : PySem.W.Frag) (a : Addr) : It :=
  ⟨fun i H => ∃ (xs : List V) (x : V), SqT K H a xs ∧ xs[i]? = some x, fun i H v H' => ∃ T x, v = .ref T ∧ H T = none ∧ H' = upd H T (.tup [.int (i : Nat), x]) ∧ ∀ xs, SqT K H a xs → xs[i]? = some x, fun i H => ∃ xs : List V, SqT K H a xs ∧ xs.length ≤ i⟩
theorem turn_enumT {P : Program} {w : World} {K : PySem.W.Frag} {elts : List Expr} {kk : Nat} {tpos : Pos} (a e it : Addr) (ha : a ≠ it) (hea : e ≠ a) :
    Turn P w K (.Tuple elts kk tpos) (IteT K a) [e, it] e (fun i h => (∃ old, IsEnum h e it ((i : Nat) : Int) old) ∧ h.IsTupleIter it a i ∧ e ≠ it) where
  mem := by simp
  obj := fun i h st b hb => by
    obtain ⟨⟨old, he⟩, ⟨o, ho, hc, hd⟩, _⟩ := st
    have e' : b = e ∨ b = it := by simpa using hb
    rcases e' with z | z
    · rw [z]; exact ⟨_, he, fun v q => nomatch q⟩
    · rw [z]; exact ⟨o, ho, fun v q => by rw [hd] at q; cases q⟩
  keep := fun i h h' st k => let ⟨⟨old, he⟩, hi, hne⟩ := st; ⟨⟨old, k e (by simp) _ he⟩, hi.at fun o q => k it (by simp) o q, hne⟩
  item := by
    intro X hP hw hK hc i pins s σ H E I hf st hg
    subst hP hw hK
    obtain ⟨⟨old, he⟩, hit, hne⟩ := st
    obtain ⟨xs, x, hq, hx⟩ := hg
    obtain ⟨its, rv, p, hz⟩ := I.tuple hq
    obtain ⟨u, hu, ru⟩ := rv.get hx
    have hel : e < s.heap.objs.size := Heap.lt_size he
    have hil : it < s.heap.objs.size := by obtain ⟨_, q, _⟩ := hit; exact Heap.lt_size q
    have hT0 : s.heap.IsTuple a its.toArray := p
    have D := Draws.tuple (prog := X.prog) (w := X.w) (A := X.A.in1) (I.ok.hd hc) it a ha its.toArray
    have hlen : i < its.toArray.size := by
      have := List.getElem?_eq_some_iff.mp hu
      obtain ⟨l, _⟩ := this
      simpa using l
    refine wpAny_pyNext_enum_itemD D he ⟨hit, hT0⟩ hlen hne (by simp [hne, hea]) fun x' h' tk hPx ho hst' hT hsz hk => ?_
    obtain ⟨hit', hT1⟩ := hst'
    obtain rfl : x' = u := by
      have h1 : its.toArray[i]? = some x' := hPx
      rw [List.getElem?_toArray, hu] at h1
      exact (Option.some.inj h1).symm
    refine ⟨_, rfl, wpAny_letOwnedTupleGo_enum (s := { s with heap := h', toks := tk + 1 }) ho fun h'' he' sb => ?_⟩
    have hT2 : h''.get? s.heap.objs.size = some { cls := .type "tuple", data := .seq #[.int i tk, x'] } := (sb.2 _ (Nat.ne_of_gt hel)).trans hT
    have new : ObjOk X.prog X.w (upd H s.heap.objs.size (.tup [.int (i : Nat), x])) h'' s.heap.objs.size (.tup [.int (i : Nat), x]) :=
      ⟨by show 2 ≤ sizeLine; decide, [.int i tk, x'], .cons ⟨_, rfl⟩ (.cons ru .nil), ⟨_, hT2, rfl, _, rfl⟩⟩
    have I1 : Inv X pins σ (upd H s.heap.objs.size (.tup [.int (i : Nat), x])) { s with heap := h'', toks := tk + 1 } :=
      I.turnedNew (ch := [e, it]) (fun b ob hb q => (sb.2 b (fun z => hb (by simp [z]))).trans (hk b ob (fun z => hb (by simp [z])) (fun z => hb (by simp [z])) q)) hf (Nat.le_refl _) new
    refine ⟨.ref s.heap.objs.size, _, I1, rfl, ⟨_, x, rfl, I.hok.fresh (Nat.le_refl _), rfl, fun ys hy => by rw [I.tuple_inj hy hq]; exact hx⟩, ⟨⟨x', ?_⟩, hit'.at fun o q => (sb.2 it (Ne.symm hne)).trans q, hne⟩, fun b hb => ?_⟩
    · have e1 : ((i + 1 : Nat) : Int) = (i : Int) + 1 := by omega
      rw [e1]; exact he'
    · have hb' : b < s.heap.objs.size := by
        have e' : b = e ∨ b = it := by simpa using hb
        rcases e' with z | z
        · rw [z]; exact hel
        · rw [z]; exact hil
      rw [upd_ne (Nat.ne_of_lt hb')]
      exact (hf b hb).1
  done := by
    intro X hP hw hK hc i pins s σ H E I hf st hg
    subst hP hw hK
    obtain ⟨⟨old, he⟩, hit, hne⟩ := st
    obtain ⟨xs, hq, hx⟩ := hg
    obtain ⟨its, rv, p, hz⟩ := I.tuple hq
    obtain ⟨f0, f1, f2, f3, f4, f5⟩ := hf it (by simp)
    have hl := rv.length
    have hT0 : s.heap.IsTuple a its.toArray := p
    exact pyNext_enum_endT (I.ok.hd hc) he hit hT0 (by simp; omega) fun h' eb => ⟨rfl, I.turned (t' := s.toks) (fun b o hb q => eb b o hb q) f0 f1 f3 f4 f5⟩
  self := fun A i s Q E st h => let ⟨⟨_, he⟩, _⟩ := st; wpAny_pyIter_enum he h
def iEnumT (K : PySem.W.Frag) (ta : TA) : TI := fun σ H R => ta σ H fun vs H1 => ∃ a xs, vs = [.ref a] ∧ SqT K H1 a xs ∧ R (IteT K a) H1
theorem pi_enumT {X : Cx} {e : Expr} {ta : TA} {p pos tpos : Pos} {elts : List Expr} {kk : Nat} (hg : Gl X "enumerate") (hm : X.mg "enumerate" = none) (ha : PA X [e] ta) (hs : starEach [e] X.env = [(false, eval e X.env)] := by rfl) :
    PI X (.Tuple elts kk tpos) (.Call (.Name "enumerate" p) [e] [] pos) (iEnumT X.K ta) := by
  refine ⟨fun pins s σ H R I h => ?_⟩
  refine Call_ (ld_blt I hg hm boot_enumerate (PyProof.Rows.callWith_type1 (thn (ha.run pos pins s σ H _ I h) fun us s1 ⟨vs, H1, I1, r1, q1⟩ => ?_) hs rfl))
  obtain ⟨a, xs, ex, hq, q⟩ := q1
  subst ex
  cases r1 with
  | cons r rr =>
    cases rr
    cases r
    obtain ⟨its, rv, p', hz⟩ := I1.tuple hq
    have hT0 : s1.heap.IsTuple a its.toArray := p'
    have hal : a < s1.heap.objs.size := by obtain ⟨_, q, _⟩ := hT0; exact Heap.lt_size q
    refine call_enumerate_tuple hT0 fun h' he hit hsz hk => wpAny_pyIter_enum he ?_
    have I2 : Inv X pins σ H1 { s1 with heap := h' } := I1.kept (t' := s1.toks) hk
    refine ⟨s1.heap.objs.size + 1, [s1.heap.objs.size + 1, s1.heap.objs.size], _, _, H1, rfl, I2, turn_enumT a (s1.heap.objs.size + 1) s1.heap.objs.size (Nat.ne_of_lt hal) (Nat.ne_of_gt (Nat.lt_succ_of_lt hal)), ⟨⟨.none, he⟩, hit, Nat.succ_ne_self _⟩, fun b hb => ?_, q⟩
    have e' : b = s1.heap.objs.size + 1 ∨ b = s1.heap.objs.size := by simpa using hb
    have hle : s1.heap.objs.size ≤ b := by
      rcases e' with z | z
      · rw [z]; exact Nat.le_add_right _ _
      · rw [z]; exact Nat.le_refl _
    exact I1.fpOk hle (I1.hok.fresh hle)
theorem r_iEnumT {K : PySem.W.Frag} {ta : TA} {σ : L2.St} {H : Hp} {R : It → Hp → Prop} (q : ta σ H fun vs H1 => ∃ a xs, vs = [.ref a] ∧ SqT K H1 a xs ∧ R (IteT K a) H1) : iEnumT K ta σ H R := q
theorem walk_enumT {K : PySem.W.Frag} {a : Addr} {xs : List V} : Walk (IteT K a) xs.length (fun H => SqT K H a xs) (YPair (fun i => some (.int (i : Nat))) (fun i => xs[i]?)) := by
  refine ⟨fun i _ hi q => ⟨xs, xs[i], q, by simp [hi]⟩, fun _ q => ⟨xs, q, Nat.le_refl _⟩, fun i H v H' _ q y => ?_⟩
  obtain ⟨T, x, h1, h2, h3, h4⟩ := y
  exact ⟨T, .int (i : Nat), x, h1, h2, h3, rfl, h4 xs q⟩
end My

set_option Elab.async false
set_option linter.all false
set_option maxRecDepth 100000
namespace My
open PySem PySem.Spec PyProof.Rows L2
/-! ### a def called with fewer values than it has parameters -/
structure HasD (P : Program) (w : World) (K : PySem.W.Frag) (mg : Str → Option Value) (base : Heap) (x : Str) (k : Nat) (ps : List Str) (sp : Sp) (dvs : List V) : Prop where
  ex : ∃ f fd ds, FnOk P w K mg base CX0 k f fd ps sp ∧ mg x = some (.ref f) ∧ PySem.W.keepIn K (.ref f) = true ∧ Binds K fd ps ds ∧ Vals dvs ds
section
variable {X : Cx} {k : Nat} {ps : List Str} {sp : Sp} {x : Str} {p pos : Pos} {e : Expr} {es : List Expr} {t : TA} {dvs : List V}
theorem pe_callHD (h : HasD X.prog X.w X.K X.mg X.base x k ps sp dvs) (hr : Room k X.A) (ha : PA X (e :: es) t) (hg : Gl X x := by rfl) (hdb : (x == ("__debug__" : Str)) = false := by decide)
   (hs : starEach (e :: es) X.env = (false, eval e X.env) :: starEach es X.env := by rfl) (hplain : (backTo pos (starEach es X.env)).any (·.1) = false := by rfl) :
   PE X (.Call (.Name x p) (e :: es) [] pos) (tCall sp dvs E0 t) := by
  obtain ⟨f, fd, ds, F, a, b, c, d⟩ := h.ex
  exact pe_call F hr hg a b c d pass0 ha hdb hs hplain
end
theorem r_callD {sp : Sp} {E : XK} {t : TA} {d : V} {ds : List V} {σ : L2.St} {H : Hp} {Q : VK} (q : t σ H fun vs H1 => sp (vs ++ d :: ds) H1 Q E) : tCall sp (d :: ds) E t σ H Q := q
theorem r_rep {l : Addr} {k : Int} {xs : List V} {H : Hp} {Q : VK} (h : H l = some (.lst xs)) (h1 : 0 ≤ k) (h2 : k < 2 ^ 63) (hz : xs.length * k.toNat ≤ 16000000)
    (q : ∀ p, H p = none → Q (.ref p) (upd H p (.lst (List.replicate k.toNat xs).flatten))) : rRep (.ref l) (.int k) H Q := ⟨l, k, xs, rfl, rfl, h, by omega, h2, Nat.le_trans hz (by decide), q⟩
theorem PrAt.times {H : Hp} {p : Prog} {xs : List V} (h : PrAt H p xs) : ∀ n, PrAt H (Prog.times n p) (List.replicate n xs).flatten
  | 0 => rfl
  | n + 1 => by
    rw [List.replicate_succ, List.flatten_cons]
    exact h.app (h.times n)
def rAbs : List V → Hp → VK → Prop := fun xs H Q => ∃ i, xs = [.int i] ∧ Q (.int (if i < 0 then -i else i)) H
theorem call_absA {X : Cx} : CallR X (.builtin "abs") rAbs := call_abs
theorem r_abs {i : Int} {H : Hp} {Q : VK} (q : Q (.int (if i < 0 then -i else i)) H) : rAbs [.int i] H Q := ⟨i, rfl, q⟩
section
variable {σ : L2.St} {H : Hp} {K : PySem.W.Frag} {D : Ends} {tb : TS} {g : TG} {a : Addr} {xs : List V} {p : Prog}
/-- for command in a list of commands -/
theorem u_forPrL (h : H a = some (.lst xs)) (hp : PrAt H p xs) (I : Prog → L2.St → Hp → Prop) (h0 : I p σ H) (hk : ∀ r σ H', I r σ H' → Tk H H' ∧ H' a = some (.lst xs))
    (hs : ∀ x r r' σ H', First H' r x r' → I r σ H' → g x σ H' fun σ2 H2 => tb { D with nx := I r', ct := I r', bk := D.nx } σ2 H2) (hd : ∀ σ H', I .nil σ H' → D.nx σ H') :
    ∃ b, V.ref a = .ref b ∧ (∃ xs, SqL K H b xs) ∧ ∃ W : Nat → Nat → L2.St → Hp → Prop, (∃ m, W 0 m σ H) ∧ ∀ i m σ H, W i m σ H →
      ((Itl K b).stop i H ∧ D.nx σ H) ∨ ((Itl K b).go i H ∧ ∃ N : L2.St → Hp → Prop, (∀ σ' H', N σ' H' → ∃ m', m' < m ∧ W (i + 1) m' σ' H') ∧ ∀ x H', (Itl K b).yld i H x H' → g x σ H' fun σ2 H2 => tb { D with nx := N, ct := N, bk := D.nx } σ2 H2) := by
  refine ⟨a, rfl, ⟨xs, .of h⟩, ⟨fun i m σ' H' => m = xs.length - i ∧ i ≤ xs.length ∧ ∃ r, PrAt H r (xs.drop i) ∧ I r σ' H', ⟨xs.length, by simp, Nat.zero_le _, p, hp, h0⟩, ?_⟩⟩
  rintro i m σ' H' ⟨rfl, hi, r, hr, ir⟩
  have hT : SqL K H' a xs := .of (hk _ _ _ ir).2
  by_cases hlt : i < xs.length
  · have hx : xs[i]? = some xs[i] := List.getElem?_eq_getElem hlt
    rw [drop_cons hx] at hr
    obtain ⟨r', f, hr'⟩ := hr.first
    refine .inr ⟨⟨xs, xs[i], hT, hx⟩, I r', fun σ2 H2 q => ⟨_, by omega, rfl, hlt, r', hr', q⟩, fun x H2 hy => ?_⟩
    obtain ⟨rfl, fx⟩ := hy
    have ex : x = xs[i] := Option.some.inj ((fx xs hT).symm.trans hx)
    subst ex
    exact hs _ r r' _ _ (f.tk (hk _ _ _ ir).1) ir
  · have e : i = xs.length := by omega
    subst e
    rw [List.drop_length] at hr
    have hn : r = .nil := by
      cases r with
      | nil => rfl
      | step w n r => obtain ⟨c, zs, e, _⟩ := hr; cases e
      | turn k r => obtain ⟨c, zs, e, _⟩ := hr; cases e
      | rep k b r => obtain ⟨c, q, zs, ws, e, _⟩ := hr; cases e
      | mir b r => obtain ⟨c, q, zs, ws, e, _⟩ := hr; cases e
    subst hn
    exact .inl ⟨⟨xs, hT, Nat.le_refl _⟩, hd _ _ ir⟩
end
section
variable {P : Program} {w : World} {K : PySem.W.Frag} {mg : Str → Option Value} {base : Heap} {x qual : Str} {params : Arguments} {body : List Stmt} {scope : Scope} {dvs : List V} {kws : List (Str × V)} {f : Addr} {fd : FuncData}
theorem okD {N ps : List Str} {k : Nat} {sp : Sp} (F : FunD K x qual params body scope dvs kws f fd) (S : FnScope N ps scope) (len : ∀ vs H Q E, sp vs H Q E → vs.length = ps.length)
    (hbody : ∀ (cdv : Value) (A : Around) (outer : List Env) (s : Shared) (H : Hp) (vs : List V) (Q : VK) (E : XK), Room k (A.deeper (envOfC qual scope s.heap.objs.size f cdv)) → sp vs H Q E →
      ∃ t, PSs (cxOf CX0 P w K mg base N qual scope f cdv A outer s H E).nox body t ∧ t { nx := fun _ H' => Q .non H', rt := Q } (start N vs) H) : FnOk P w K mg base CX0 (k + 1) f fd ps sp :=
  F.ok S len fun cdv A outer s H vs Q E hr h => let ⟨t, h, q⟩ := hbody cdv A outer s H vs Q E hr h; ⟨t, h.nox, q⟩
end
/-! ### short programs -/
namespace Prog
/-- no heading on the way of a flat program leaves -12 .. 12 -/
def wayOk : Int → Prog → Bool
  | _, .nil => true
  | n, .step _ _ r => wayOk n r
  | n, .turn k r => if n + k > 12 ∨ n + k < -12 then false else wayOk (n + k) r
  | _, .rep _ _ _ => true
  | _, .mir _ _ => true
def short (p : Prog) : Bool := if p.size > 200 then false else wayOk 0 (unroll 1 p)
end Prog
end My

set_option Elab.async false
set_option linter.all false
set_option maxRecDepth 100000
namespace My
open PySem PySem.Spec PyProof.Rows L2
theorem r_slA {K : PySem.W.Frag} {p : Addr} {xs : List V} {lo hi : Option Int} {H : Hp} {Q : VK} (h : SqT K H p xs) (q1 : HT.sIx xs.length 0 lo = 0 ∧ HT.sIx xs.length xs.length hi = xs.length → Q (.ref p) H)
   (q2 : ¬ (HT.sIx xs.length 0 lo = 0 ∧ HT.sIx xs.length xs.length hi = xs.length) → ∀ c, H c = none → Q (.ref c) (upd H c (.tup (cutV xs lo hi)))) : rSlA K (.ref p) lo hi H Q := ⟨p, xs, rfl, h, q1, q2⟩
theorem r_slAT {K : PySem.W.Frag} {p : Addr} {xs : List V} {m : Int} {n : Nat} {H : Hp} {Q : VK} (h : H p = some (.tup xs)) (e : m = (n : Int)) (q : ∀ c H', Same H H' → H' c = some (.tup (xs.take n)) → Q (.ref c) H') : rSlA K (.ref p) none (some m) H Q := by
  subst e
  refine r_slA (.of h) (fun hw => ?_) (fun _ c hc => ?_)
  · have h2 := hw.2
    rw [HT.sIx_nat] at h2
    exact q p H (Same.refl _) (by rw [List.take_of_length_le (by omega)]; exact h)
  · exact q c _ (Same.new0 hc) (by rw [cut_take]; exact upd_same)
end My

set_option Elab.async false
set_option linter.all false
set_option maxRecDepth 100000
namespace My
open PySem PySem.Spec PyProof.Rows L2
section
variable {H : Hp} {Q : VK} {K : PySem.W.Frag}
theorem r_catAT {a b : Addr} {xs ys : List V} (h : H a = some (.tup xs)) (h' : H b = some (.tup ys)) (l : xs.length + ys.length ≤ 100000) (q : ∀ c H', Same H H' → H' c = some (.tup (xs ++ ys)) → Q (.ref c) H') : rCatA K (.ref a) (.ref b) H Q := by
  refine ⟨a, b, xs, ys, rfl, rfl, .of h, .of h', small_of l, fun e => ?_, fun _ e => ?_, fun _ _ c hc => q c _ (Same.new0 hc) upd_same⟩
  · subst e
    exact q b H (Same.refl _) h'
  · subst e
    exact q a H (Same.refl _) (by rw [List.append_nil]; exact h)
def rIsN : R2 := fun x y H Q => y = .non ∧ Q (.bl (decide (x = .non))) H
theorem op_isNN {X : Cx} : OpR X (compareOp .Is) rIsN := op_isN
theorem r_isNN (q : Q (.bl true) H) : rIsN .non .non H Q := ⟨rfl, by rw [decide_eq_true rfl]; exact q⟩
end
namespace Prog
theorem head_flat {L : Nat} {C T : Int} : ∀ {p : Prog}, WfL L C T 0 p → p.head = p.turns.sum
  | .nil, _ => by rw [head, turns]; rfl
  | .step w n r, h => by rw [head, turns]; exact head_flat (WfL.step_iff.mp h).2.2
  | .turn k r, h => by rw [head, turns, List.sum_cons, head_flat (WfL.turn_iff.mp h).2]
  | .rep _ _ _, h => h.elim
  | .mir _ _, h => h.elim
end Prog
end My

set_option Elab.async false
set_option linter.all false
set_option maxRecDepth 100000
namespace My
open PySem PySem.Spec PyProof.Rows L2
/-! ### undone programs -/
namespace Prog
theorem unroll_app (s : Int) : ∀ p q : Prog, unroll s (p.app q) = (unroll s p).app (unroll s q)
  | .nil, q => by rw [app, unroll, app]
  | .step w n p, q => by rw [app, unroll, unroll, unroll_app s p q, app]
  | .turn k p, q => by rw [app, unroll, unroll, unroll_app s p q, app]
  | .rep k b p, q => by rw [app, unroll, unroll, unroll_app s p q, app_assoc]
  | .mir b p, q => by rw [app, unroll, unroll, unroll_app s p q, app_assoc]
end Prog
end My

set_option Elab.async false
set_option linter.all false
set_option maxRecDepth 100000
namespace My
open PySem PySem.Spec PyProof.Rows L2 RT
theorem WfL.split {L : Nat} {C T : Int} : ∀ {d : Nat} {p q : Prog}, WfL L C T d (p.app q) → WfL L C T d p ∧ WfL L C T d q
  | _, .nil, _, h => ⟨WfL.nil, h⟩
  | d, .step w n r, q, h => by
    have h := WfL.step_iff.mp (show WfL L C T d (.step w n (r.app q)) from h)
    exact ⟨WfL.step_iff.mpr ⟨h.1, h.2.1, (WfL.split h.2.2).1⟩, (WfL.split h.2.2).2⟩
  | d, .turn k r, q, h => by
    have h := WfL.turn_iff.mp (show WfL L C T d (.turn k (r.app q)) from h)
    exact ⟨WfL.turn_iff.mpr ⟨h.1, (WfL.split h.2).1⟩, (WfL.split h.2).2⟩
  | 0, .rep _ _ _, _, h => h.elim
  | d + 1, .rep k b r, q, h => by
    have h : (1 ≤ k ∧ k ≤ C) ∧ (1 ≤ b.len ∧ b.len ≤ L) ∧ WfL L C T d b ∧ WfL L C T (d + 1) (r.app q) := h
    exact ⟨⟨h.1, h.2.1, h.2.2.1, (WfL.split h.2.2.2).1⟩, (WfL.split h.2.2.2).2⟩
  | 0, .mir _ _, _, h => h.elim
  | d + 1, .mir b r, q, h => by
    have h : (1 ≤ b.len ∧ b.len ≤ L) ∧ WfL L C T d b ∧ WfL L C T (d + 1) (r.app q) := h
    exact ⟨⟨h.1, h.2.1, (WfL.split h.2.2).1⟩, (WfL.split h.2.2).2⟩
theorem PrAt.split {H : Hp} : ∀ {p q : Prog} {xs : List V}, PrAt H (p.app q) xs → ∃ ys zs, xs = ys ++ zs ∧ PrAt H p ys ∧ PrAt H q zs
  | .nil, q, xs, h => ⟨[], xs, rfl, rfl, h⟩
  | .step w n r, q, xs, h => by
    obtain ⟨c, ys, e, h1, h2⟩ := h
    obtain ⟨us, vs, e2, h3, h4⟩ := PrAt.split (p := r) h2
    exact ⟨.ref c :: us, vs, by rw [e, e2]; rfl, ⟨c, us, rfl, h1, h3⟩, h4⟩
  | .turn k r, q, xs, h => by
    obtain ⟨c, ys, e, h1, h2⟩ := h
    obtain ⟨us, vs, e2, h3, h4⟩ := PrAt.split (p := r) h2
    exact ⟨.ref c :: us, vs, by rw [e, e2]; rfl, ⟨c, us, rfl, h1, h3⟩, h4⟩
  | .rep k b r, q, xs, h => by
    obtain ⟨c, q0, z0, ys, e, h1, h0, hb, h2⟩ := h
    obtain ⟨us, vs, e2, h3, h4⟩ := PrAt.split (p := r) h2
    exact ⟨.ref c :: us, vs, by rw [e, e2]; rfl, ⟨c, q0, z0, us, rfl, h1, h0, hb, h3⟩, h4⟩
  | .mir b r, q, xs, h => by
    obtain ⟨c, q0, z0, ys, e, h1, h0, hb, h2⟩ := h
    obtain ⟨us, vs, e2, h3, h4⟩ := PrAt.split (p := r) h2
    exact ⟨.ref c :: us, vs, by rw [e, e2]; rfl, ⟨c, q0, z0, us, rfl, h1, h0, hb, h3⟩, h4⟩
/-- the last command -/
theorem Prog.snoc : ∀ {p : Prog} {m : Nat}, p.len = m + 1 → ∃ r c : Prog, p = r.app c ∧ r.len = m ∧ c.len = 1
  | .nil, m, h => by cases h
  | .step w n r, m, h => by
    have h : r.len + 1 = m + 1 := h
    cases m with
    | zero => exact ⟨.nil, .step w n r, rfl, rfl, h⟩
    | succ m =>
      obtain ⟨r', c, e, h1, h2⟩ := Prog.snoc (p := r) (m := m) (by omega)
      exact ⟨.step w n r', c, by rw [e]; rfl, by rw [Prog.len, h1], h2⟩
  | .turn k r, m, h => by
    have h : r.len + 1 = m + 1 := h
    cases m with
    | zero => exact ⟨.nil, .turn k r, rfl, rfl, h⟩
    | succ m =>
      obtain ⟨r', c, e, h1, h2⟩ := Prog.snoc (p := r) (m := m) (by omega)
      exact ⟨.turn k r', c, by rw [e]; rfl, by rw [Prog.len, h1], h2⟩
  | .rep k b r, m, h => by
    have h : r.len + 1 = m + 1 := h
    cases m with
    | zero => exact ⟨.nil, .rep k b r, rfl, rfl, h⟩
    | succ m =>
      obtain ⟨r', c, e, h1, h2⟩ := Prog.snoc (p := r) (m := m) (by omega)
      exact ⟨.rep k b r', c, by rw [e]; rfl, by rw [Prog.len, h1], h2⟩
  | .mir b r, m, h => by
    have h : r.len + 1 = m + 1 := h
    cases m with
    | zero => exact ⟨.nil, .mir b r, rfl, rfl, h⟩
    | succ m =>
      obtain ⟨r', c, e, h1, h2⟩ := Prog.snoc (p := r) (m := m) (by omega)
      exact ⟨.mir b r', c, by rw [e]; rfl, by rw [Prog.len, h1], h2⟩
theorem len_zero {p : Prog} (h : p.len = 0) : p = .nil := by cases p <;> first | rfl | cases h
/-- what stands at the place of the last command -/
theorem PrAt.last {H : Hp} {r c s : Prog} {xs : List V} (h : PrAt H (r.app (c.app s)) xs) (hc : c.len = 1) : ∃ x, xs[r.len]? = some x ∧ First H c x .nil := by
  obtain ⟨ys, zs, e, h1, h2⟩ := PrAt.split h
  obtain ⟨us, vs, e2, h3, h4⟩ := PrAt.split (p := c) h2
  have l1 := h1.length
  have l3 := h3.length
  rw [hc] at l3
  match us, l3, h3 with
  | [x], _, h3 =>
    obtain ⟨r', hf, hr⟩ := h3.first
    have e0 : r'.len = 0 := hr.length.symm
    rw [len_zero e0] at hf
    refine ⟨x, ?_, hf⟩
    rw [e, e2, List.getElem?_append_right (by omega), l1, Nat.sub_self]
    rfl
section
variable {σ : L2.St} {H : Hp} {K : PySem.W.Frag} {D : Ends} {tb : TS} {g : TG} {a : Addr} {xs : List V} {p : Prog}
theorem r_iRev {te : TE} {R : It → Hp → Prop} (q : te σ H fun v H1 => ∃ (a : Addr) (xs : List V), v = .ref a ∧ ((SqL K H1 a xs ∧ R (Itv K a xs.length) H1) ∨ (SqT K H1 a xs ∧ R (ItvT K a xs.length) H1))) : iRevA K te σ H R := q
end
end My

set_option Elab.async false
set_option linter.all false
set_option maxRecDepth 100000
namespace My
open PySem PySem.Spec PyProof.Rows L2 HT PySem.Builtin
/-! ### t[::-1], t a tuple -/
section
variable {prog : Program} {w : World} {A : Around} {E : Value → Shared → Prop} {s : Shared}
end
section
variable {X : Cx} {pos : Pos}
end
end My

set_option Elab.async false
set_option linter.all false
set_option maxRecDepth 100000
namespace My
open PySem PySem.Spec PyProof.Rows L2
/-! ### terms: powers and numbers -/
abbrev Terms := List (Int × Int)
/-- the number of a power: the sum of the numbers with it -/
def cof : Terms → Int → Int
  | [], _ => 0
  | p :: l, k => (if p.1 = k then p.2 else 0) + cof l k
/-- ascending powers, no number 0 -/
structure Canon (l : Terms) : Prop where
  asc : l.Pairwise fun p q => p.1 < q.1
  nz : ∀ p ∈ l, p.2 ≠ 0
theorem cof_app : ∀ (l m : Terms) (k : Int), cof (l ++ m) k = cof l k + cof m k
  | [], m, k => by rw [List.nil_append, cof, Int.zero_add]
  | p :: l, m, k => by rw [List.cons_append, cof, cof, cof_app l m k, Int.add_assoc]
theorem cof_none : ∀ {l : Terms} {k : Int}, (∀ p ∈ l, p.1 ≠ k) → cof l k = 0
  | [], _, _ => rfl
  | p :: l, k, h => by
    rw [cof, if_neg (h p List.mem_cons_self), cof_none fun q hq => h q (List.mem_cons_of_mem _ hq), Int.add_zero]
theorem Canon.nil : Canon [] := ⟨.nil, fun _ h => absurd h (by simp)⟩
theorem Canon.tail {p : Int × Int} {l : Terms} (h : Canon (p :: l)) : Canon l := ⟨(List.pairwise_cons.mp h.asc).2, fun q hq => h.nz q (List.mem_cons_of_mem _ hq)⟩
theorem Canon.head {p : Int × Int} {l : Terms} (h : Canon (p :: l)) : cof (p :: l) p.1 = p.2 := by
  rw [cof, if_pos rfl, cof_none fun q hq => by have := (List.pairwise_cons.mp h.asc).1 q hq; omega, Int.add_zero]
theorem Canon.low {p : Int × Int} {l : Terms} (h : Canon (p :: l)) {k : Int} (hk : k < p.1) : cof (p :: l) k = 0 :=
  cof_none fun q hq => by
    rcases List.mem_cons.mp hq with rfl | hq
    · omega
    · have := (List.pairwise_cons.mp h.asc).1 q hq; omega
/-- what the numbers are, the canonical terms are -/
theorem Canon.ext : ∀ {l m : Terms}, Canon l → Canon m → (∀ k, cof l k = cof m k) → l = m
  | [], [], _, _, _ => rfl
  | p :: l, [], h, _, e => absurd ((h.head.symm.trans (e p.1)).trans rfl) (h.nz p List.mem_cons_self)
  | [], q :: m, _, h, e => absurd ((h.head.symm.trans (e q.1).symm).trans rfl) (h.nz q List.mem_cons_self)
  | p :: l, q :: m, h, h', e => by
    have hp := h.nz p List.mem_cons_self
    have hq := h'.nz q List.mem_cons_self
    have e1 : p.1 = q.1 := by
      rcases Int.lt_trichotomy p.1 q.1 with a | a | a
      · have := e p.1
        rw [h.head, h'.low a] at this
        exact absurd this hp
      · exact a
      · have := e q.1
        rw [h'.head, h.low a] at this
        exact absurd this.symm hq
    have e2 : p.2 = q.2 := by
      have := e p.1
      rw [h.head, e1, h'.head] at this
      exact this
    have e3 : p = q := Prod.ext e1 e2
    subst e3
    have e4 : l = m := Canon.ext h.tail h'.tail fun k => by
      have := e k
      rw [cof, cof] at this
      omega
    rw [e4]
theorem Canon.zero {l : Terms} (h : Canon l) (e : ∀ k, cof l k = 0) : l = [] := Canon.ext h Canon.nil e
/-- the terms by ascending keys -/
theorem canon_of {ys : List Int} (h : ys.Pairwise (· < ·)) (f : Int → Int) : Canon ((ys.filter fun k => decide (f k ≠ 0)).map fun k => (k, f k)) := by
  refine ⟨List.pairwise_map.mpr ((h.filter _).imp fun a => a), fun p hp => ?_⟩
  obtain ⟨k, hk, rfl⟩ := List.mem_map.mp hp
  simpa using (List.mem_filter.mp hk).2
theorem cof_of : ∀ {ys : List Int}, ys.Pairwise (· < ·) → ∀ (f : Int → Int) (k : Int), cof ((ys.filter fun k => decide (f k ≠ 0)).map fun k => (k, f k)) k = if k ∈ ys then f k else 0
  | [], _, f, k => by simp [cof]
  | y :: ys, h, f, k => by
    have ih := cof_of (List.pairwise_cons.mp h).2 f k
    have hy := (List.pairwise_cons.mp h).1
    by_cases e : k = y
    · subst e
      have hn : ¬ k ∈ ys := fun hm => by have := hy k hm; omega
      rw [if_neg hn] at ih
      by_cases z : f k = 0
      · rw [List.filter_cons_of_neg (by simpa using z), ih, if_pos (by simp), z]
      · rw [List.filter_cons_of_pos (by simpa using z), List.map_cons, cof, ih, if_pos rfl, if_pos (by simp), Int.add_zero]
    · have em : (k ∈ y :: ys) ↔ k ∈ ys := by simp [e]
      by_cases z : f y = 0
      · rw [List.filter_cons_of_neg (by simpa using z), ih]; simp only [em]
      · rw [List.filter_cons_of_pos (by simpa using z), List.map_cons, cof, ih, if_neg (fun h => e h.symm), Int.zero_add]; simp only [em]
theorem Canon.le_len {l m : Terms} (h : Canon l) : (∀ p ∈ l, p.1 ∈ m.map (·.1)) → l.length ≤ m.length := by
  intro hs
  have nd : (l.map (·.1)).Nodup := (List.pairwise_map.mpr (h.asc.imp fun a => by omega))
  have key : ∀ (xs ys : List Int), xs.Nodup → (∀ x ∈ xs, x ∈ ys) → xs.length ≤ ys.length := by
    intro xs
    induction xs with
    | nil => intro ys _ _; exact Nat.zero_le _
    | cons x xs ih =>
      intro ys hn hs
      have hx := hs x List.mem_cons_self
      obtain ⟨hxn, hn⟩ := List.nodup_cons.mp hn
      have h1 := ih (ys.erase x) hn fun z hz => (List.mem_erase_of_ne (by rintro rfl; exact hxn hz)).mpr (hs z (List.mem_cons_of_mem _ hz))
      rw [List.length_erase_of_mem hx] at h1
      have h2 := List.length_pos_of_mem hx
      rw [List.length_cons]
      omega
  have := key (l.map (·.1)) (m.map (·.1)) nd fun x hx => by
    obtain ⟨p, hp, rfl⟩ := List.mem_map.mp hx
    exact hs p hp
  simpa using this

/-! ### sorted(d), d a dict of int keys, any number of them -/
def rSortDI : List V → Hp → VK → Prop := fun xs H Q => ∃ (a : Addr) (kvs : List (Key × V)) (ks : List Int), xs = [.ref a] ∧ Rd H a (.dK kvs) ∧ kvs.map (·.1) = ks.map Sum.inl ∧
    ∀ (ys : List Int) (p : Addr), ys.Perm ks → ys.Pairwise (· ≤ ·) → H p = none → Q (.ref p) (upd H p (.lst (ys.map V.int)))
theorem call_sortedDA {X : Cx} (hcalm : X.calm = true := by rfl) : CallR X (.builtin "sorted") rSortDI := by
  intro pins s σ H xs us Q I r q
  obtain ⟨a, kvs, ks, ex, hd, hks, q⟩ := q
  subst ex
  obtain ⟨u, eu, rx⟩ := vals1 r
  subst eu
  cases rx
  obtain ⟨z, lo, vs, rel, dd⟩ := dk_rd I.hok hd
  obtain ⟨ep, hat⟩ := dd.dictAt
  have hkeys : vs.map (·.1) = ks.map Sum.inl := rel.keys.symm.trans hks
  have hl : vs.length = ks.length := by
    have e := congrArg List.length hkeys
    rw [List.length_map, List.length_map] at e
    exact e
  have h16 : vs.length ≤ sizeLine := by rw [← rel.length]; exact z
  refine Calls.call_function_entry PyProof.Rows.kind_sorted PyProof.Rows.plain_sorted PyProof.Rows.entry_sorted (PyProof.Rows.args_sorted1 _) ?_
  unfold Builtin.«sorted»
  refine wpAny_bind (m := checkCount "sorted" 1 1 _) (wpAny_pure ?_)
  refine wpAny_bind (PySem.W.kdu_collect (A := X.A.in1) (PySem.W.kdl_dict (knd := mixKind X.prog X.w) (kvs := vs) (ep := ep) lo) (I.ok.hd hcalm) hat h16 fun h' tk acc hk hacc => ?_)
  have hal : acc.toList.length = ks.length := by rw [Array.length_toList, hacc.1, hl]
  have hS : IntsAre acc.toList ks := ints_each hal fun j v e => by
    obtain ⟨k, x, e1, e2⟩ := hacc.2 j v (by rw [← Array.getElem?_toList]; exact e)
    have e3 : (vs.map (·.1))[j]? = some k := by rw [List.getElem?_map, e1]; rfl
    rw [hkeys, List.getElem?_map] at e3
    cases e4 : ks[j]? with
    | none => rw [e4] at e3; cases e3
    | some y =>
      rw [e4] at e3
      have e5 : Sum.inl y = k := Option.some.inj e3
      subst e5
      rcases keyIs_shape (show keyIs (Sum.inl y) v = true from e2) with ⟨i, t, ek, ev⟩ | ⟨z, t, ek, ev⟩
      · cases ek
        exact ⟨y, t, rfl, ev⟩
      · cases ek
  have I1 : Inv X pins σ H { s with heap := h', toks := tk } := I.kept hk
  have h17 : acc.toList.length ≤ sizeLine := by rw [hal, ← hl]; exact h16
  refine wpAny_bind (wpAny_newList ?_ h17)
  have hoL : (h'.push (seqObj "list" acc.toList.toArray 0)).get? h'.objs.size = some (seqObj "list" acc.toList.toArray 0) := Heap.get?_push_size _ rfl
  show wpAny _ _ _ _ _ { s with heap := h'.push (seqObj "list" acc.toList.toArray 0), toks := tk }
  refine wpAny_bind (wpAny_holding (wpAny_call_entry PyProof.Rows.slot_list_sort ⟨_, hoL, rfl⟩ PyProof.Rows.entry_list_sort
    (SrtO.list_sort_ord (s := { s with heap := h'.push (seqObj "list" acc.toList.toArray 0), toks := tk }) SrtO.swo_int hoL h17 (fun h2 => SrtO.ints_sortable hS h2) fun out h1 h2 => ⟨_, rfl, ?_⟩) (PyProof.Rows.args_list_sort _)))
  obtain ⟨k1, k2, k3⟩ := SrtO.ints_out hS h1 h2
  obtain ⟨e', he'⟩ := PyProof.Rows.sortedHeap_at (vs := acc.toList) (out := out.toArray) hoL
  have hlen : ((out.map SrtO.iv).map V.int).length ≤ sizeLine := by
    rw [List.length_map, k2.length_eq, ← hl]
    exact h16
  refine wpAny_pure ⟨_, rfl, .ref h'.objs.size, upd H h'.objs.size (.lst ((out.map SrtO.iv).map V.int)), I1.laid (t' := tk) (fun b u e => ?_) (Nat.le_refl _)
    (show ObjOk X.prog X.w _ _ _ (.lst ((out.map SrtO.iv).map V.int)) from ⟨hlen, out, e', vals_of_ints k1, he'⟩), rfl, q _ _ k2 k3 (I1.hok.fresh (Nat.le_refl _))⟩
  have hb : b < h'.objs.size := Heap.lt_size e
  rw [PyProof.Rows.sortedHeap_old (Nat.ne_of_lt hb) (by rw [size_push']; exact Nat.lt_succ_of_lt hb)]
  exact Heap.get?_push_of_some _ e
/-- sorted(d), texts as keys -/
def rSortDS : List V → Hp → VK → Prop := fun xs H Q => ∃ (a : Addr) (kvs : List (Key × V)) (ks : List Str), xs = [.ref a] ∧ Rd H a (.dK kvs) ∧ kvs.map (·.1) = ks.map Sum.inr ∧ ks.length < 64 ∧
    ∀ ys p, ys.Perm ks → sortedS ys = true → H p = none → Q (.ref p) (upd H p (.lst (ys.map V.str)))
theorem call_sortedDS {X : Cx} (hcalm : X.calm = true := by rfl) : CallR X (.builtin "sorted") rSortDS := call_sortedD hcalm
/-! ### jars: dicts of ints by ints -/
def cfK (kvs : List (Key × V)) (k : Int) : Int := match valV kvs (.inl k) with | some (.int n) => n | _ => 0
structure JarK (kvs : List (Key × V)) : Prop where
  prs : ∀ p ∈ kvs, ∃ k n : Int, p = (Sum.inl k, V.int n)
  nd : (kvs.map (·.1)).Nodup
theorem mem_put {kvs : List (Key × V)} {k : Key} {v : V} {p : Key × V} (h : p ∈ putK kvs k v) : p ∈ kvs ∨ p = (k, v) := by
  unfold putK at h
  split at h
  · obtain ⟨q, hq, e⟩ := List.mem_map.mp h
    split at e
    · rename_i ek; right; rw [← e, ek]
    · left; rw [← e]; exact hq
  · rcases List.mem_append.mp h with h | h
    · exact .inl h
    · exact .inr (List.mem_singleton.mp h)
theorem keys_put (kvs : List (Key × V)) (k : Key) (v : V) : (putK kvs k v).map (·.1) = if (kvs.any fun kv => decide (kv.1 = k)) = true then kvs.map (·.1) else kvs.map (·.1) ++ [k] := by
  unfold putK
  split
  · rw [List.map_map]
    refine List.map_congr_left fun p _ => ?_
    show (if p.1 = k then (p.1, v) else p).1 = p.1
    split <;> rfl
  · rw [List.map_append]; rfl
theorem nodup_put {kvs : List (Key × V)} (h : (kvs.map (·.1)).Nodup) (k : Key) (v : V) : ((putK kvs k v).map (·.1)).Nodup := by
  rw [keys_put]
  split
  · exact h
  · rename_i hn
    refine List.nodup_append.mpr ⟨h, by simp, fun a ha b hb e => hn ?_⟩
    have hb := List.mem_singleton.mp hb
    subst hb
    subst e
    obtain ⟨p, hp, e⟩ := List.mem_map.mp ha
    exact List.any_eq_true.mpr ⟨p, hp, decide_eq_true e⟩
theorem JarK.nil : JarK [] := ⟨fun _ h => absurd h (by simp), by simp⟩
theorem JarK.put {kvs : List (Key × V)} (h : JarK kvs) (k n : Int) : JarK (putK kvs (.inl k) (.int n)) := by
  refine ⟨fun p hp => ?_, nodup_put h.nd _ _⟩
  rcases mem_put hp with h1 | rfl
  · exact h.prs p h1
  · exact ⟨k, n, rfl⟩
theorem cfK_put (kvs : List (Key × V)) (k n j : Int) : cfK (putK kvs (.inl k) (.int n)) j = if j = k then n else cfK kvs j := by
  unfold cfK
  rw [valV_put]
  by_cases e : j = k
  · subst e; rw [if_pos rfl, if_pos rfl]
  · rw [if_neg (fun h => e (Sum.inl.inj h)), if_neg e]
theorem val_mem {kvs : List (Key × V)} {k : Key} {v : V} (h : valV kvs k = some v) : (k, v) ∈ kvs := by
  unfold valV at h
  cases e : kvs.find? fun kv => decide (kv.1 = k) with
  | none => rw [e] at h; cases h
  | some p =>
    rw [e] at h
    have h1 := List.mem_of_find?_eq_some e
    have h2 := List.find?_some e
    have h3 : p.1 = k := of_decide_eq_true h2
    have h4 : p.2 = v := Option.some.inj h
    rw [← h3, ← h4]
    exact h1
theorem val_none {kvs : List (Key × V)} {k : Key} (h : valV kvs k = none) : ∀ p ∈ kvs, p.1 ≠ k := by
  intro p hp e
  unfold valV at h
  have h2 : kvs.find? (fun kv => decide (kv.1 = k)) = none := by
    cases q : kvs.find? (fun kv => decide (kv.1 = k)) with
    | none => rfl
    | some _ => rw [q] at h; cases h
  have := List.find?_eq_none.mp h2 p hp
  exact this (decide_eq_true e)
theorem JarK.val {kvs : List (Key × V)} (h : JarK kvs) (k : Int) : (valV kvs (.inl k)).getD (.int 0) = .int (cfK kvs k) := by
  unfold cfK
  cases e : valV kvs (.inl k) with
  | none => rfl
  | some v =>
    obtain ⟨k', n, e2⟩ := h.prs _ (val_mem e)
    cases e2
    rfl
theorem JarK.some {kvs : List (Key × V)} (h : JarK kvs) {k : Int} (m : Sum.inl k ∈ kvs.map (·.1)) : valV kvs (.inl k) = some (.int (cfK kvs k)) := by
  have hv := h.val k
  cases e : valV kvs (.inl k) with
  | none =>
    obtain ⟨p, hp, ek⟩ := List.mem_map.mp m
    exact absurd ek (val_none e p hp)
  | some v => rw [e] at hv; exact congrArg Option.some hv
theorem JarK.keys {kvs : List (Key × V)} (h : JarK kvs) : ∃ ks : List Int, kvs.map (·.1) = ks.map Sum.inl ∧ ks.Nodup ∧ (∀ k, ¬ k ∈ ks → cfK kvs k = 0) ∧ ks.length = kvs.length := by
  have hex : ∀ {l : List (Key × V)}, (∀ p ∈ l, ∃ k n : Int, p = (Sum.inl k, V.int n)) → ∃ ks : List Int, l.map (·.1) = ks.map Sum.inl := by
    intro l
    induction l with
    | nil => intro _; exact ⟨[], rfl⟩
    | cons p l ih =>
      intro hl
      obtain ⟨k, n, e⟩ := hl p List.mem_cons_self
      obtain ⟨ks, e2⟩ := ih fun q hq => hl q (List.mem_cons_of_mem _ hq)
      exact ⟨k :: ks, by rw [List.map_cons, List.map_cons, e2, e]⟩
  obtain ⟨ks, e⟩ := hex h.prs
  refine ⟨ks, e, ?_, fun k hk => ?_, ?_⟩
  · have := h.nd
    rw [e] at this
    exact (List.pairwise_map.mp this).imp fun a b => a (congrArg Sum.inl b)
  · unfold cfK
    cases q : valV kvs (.inl k) with
    | none => rfl
    | some v =>
      have hm : Sum.inl k ∈ kvs.map (·.1) := List.mem_map.mpr ⟨_, val_mem q, rfl⟩
      rw [e] at hm
      obtain ⟨k', hk', e'⟩ := List.mem_map.mp hm
      cases e'
      exact absurd hk' hk
  · have := congrArg List.length e
    simpa using this.symm
/-- the jar at a: its numbers c, at most n powers -/
def JarAt (H : Hp) (a : Addr) (n : Nat) (c : Int → Int) : Prop := ∃ kvs, H a = some (.dK kvs) ∧ JarK kvs ∧ kvs.length ≤ n ∧ ∀ k, cfK kvs k = c k
theorem JarAt.new {H : Hp} {p : Addr} : JarAt (upd H p (.dK [])) p 0 fun _ => 0 := ⟨[], upd_same, .nil, Nat.le_refl _, fun _ => rfl⟩
theorem JarAt.same {H H' : Hp} {a : Addr} {n : Nat} {c : Int → Int} (h : JarAt H a n c) (s : Same H H') : JarAt H' a n c := let ⟨kvs, e, r⟩ := h; ⟨kvs, s _ _ e, r⟩
theorem JarAt.keep {H : Hp} {a p : Addr} {o : HO} {n : Nat} {c : Int → Int} (h : JarAt H a n c) (q : H p = none) : JarAt (upd H p o) a n c := let ⟨kvs, e, r⟩ := h; ⟨kvs, h_keep e q, r⟩
theorem JarAt.but {H H' : Hp} {a b : Addr} {n : Nat} {c : Int → Int} (h : JarAt H a n c) (ne : a ≠ b) (s : But b H H') : JarAt H' a n c := let ⟨kvs, e, r⟩ := h; ⟨kvs, s _ _ ne e, r⟩
theorem JarAt.ext {H : Hp} {a : Addr} {n : Nat} {c d : Int → Int} (h : JarAt H a n c) (e : ∀ k, c k = d k) : JarAt H a n d := let ⟨kvs, e1, r1, r2, r3⟩ := h; ⟨kvs, e1, r1, r2, fun k => (r3 k).trans (e k)⟩
theorem JarAt.ne {H : Hp} {a p : Addr} {n : Nat} {c : Int → Int} (h : JarAt H a n c) (q : H p = none) : p ≠ a := let ⟨_, e, _⟩ := h; (ne_of_none e q).symm
/-- k is a key of the jar -/
def JarHas (H : Hp) (a : Addr) (k : Int) : Prop := ∃ kvs : List (Key × V), H a = some (.dK kvs) ∧ Sum.inl k ∈ kvs.map (·.1)
theorem JarHas.same {H H' : Hp} {a : Addr} {k : Int} (h : JarHas H a k) (s : Same H H') : JarHas H' a k := let ⟨kvs, e, r⟩ := h; ⟨kvs, s _ _ e, r⟩
def addAt (c : Int → Int) (k v : Int) : Int → Int := fun j => if j = k then v else c j
section
variable {σ : L2.St} {H : Hp} {Q : VK} {K : PySem.W.Frag} {td ty tx tv : TE} {a : Addr} {n : Nat} {c : Int → Int} {D : Ends}
theorem r_dnew (q : ∀ p, H p = none → Q (.ref p) (upd H p (.dK []))) : tDNewK σ H Q := q
theorem r_dget2 (q : td σ H fun x H1 => ∃ a, x = .ref a ∧ IsD H1 a ∧ ty σ H1 fun y H2 => tx σ H2 fun z H3 => ∃ o, DGet H3 a y o ∧ Q (o.getD z) H3) : tDGet2 td ty tx σ H Q := q
theorem r_dget (q : td σ H fun x H1 => ty σ H1 fun y H2 => ∃ a v, x = .ref a ∧ DGet H2 a y (some v) ∧ Q v H2) : tDGet td ty σ H Q := q
theorem r_dput (q : tv σ H fun v H1 => td σ H1 fun x H2 => ty σ H2 fun y H3 => ∃ a H4, x = .ref a ∧ DPut H3 a y v H4 ∧ D.nx σ H4) : sDPut td ty tv D σ H := q
theorem r_dsetd (q : td σ H fun x H1 => ∃ a, x = .ref a ∧ IsD H1 a ∧ ty σ H1 fun y H2 => tx σ H2 fun z H3 => ∃ (kvs : List (Key × V)) (k : Key), H3 a = some (.dK kvs) ∧ y = kV k ∧ kvs.length < sizeLine ∧
  (∀ v, valV kvs k = some v → Q v H3) ∧ (valV kvs k = none → Q z (upd H3 a (.dK (putK kvs k z))))) : tDSetd td ty tx σ H Q := q
theorem r_isD {kvs : List (Key × V)} {R : Addr → Prop} (h : H a = some (.dK kvs)) (q : R a) : ∃ b, V.ref a = .ref b ∧ IsD H b ∧ R b := ⟨a, rfl, .inl ⟨kvs, .inl h⟩, q⟩
theorem JarAt.isD {R : Addr → Prop} (h : JarAt H a n c) (q : R a) : ∃ b, V.ref a = .ref b ∧ IsD H b ∧ R b := let ⟨_, e, _⟩ := h; r_isD e q
theorem JarAt.dget0 (h : JarAt H a n c) (k : Int) : ∃ o, DGet H a (.int k) o ∧ o.getD (.int 0) = .int (c k) := by
  obtain ⟨kvs, e, hk, _, hc⟩ := h
  exact ⟨_, DGet.k (k := .inl k) e, by rw [hk.val, hc]⟩
theorem JarAt.dput {k v : Int} (h : JarAt H a n c) (hn : n ≤ 1000000) : ∃ H', DPut H a (.int k) (.int v) H' ∧ But a H H' ∧ (∀ p, H p = none → p ≠ a → H' p = none) ∧ JarAt H' a (n + 1) (addAt c k v) := by
  obtain ⟨kvs, e, hk, hl, hc⟩ := h
  refine ⟨_, DPut.k (k := .inl k) e (Nat.lt_of_le_of_lt (Nat.le_trans hl hn) (by decide)), But.self (But.refl a H), fun p hp np => (upd_ne np).trans hp, _, upd_same, hk.put k v, ?_, fun j => ?_⟩
  · exact Nat.le_trans (length_putK _ _ _) (by omega)
  · rw [cfK_put, hc]; rfl
theorem JarAt.dget {k : Int} (h : JarAt H a n c) (m : JarHas H a k) : DGet H a (.int k) (some (.int (c k))) := by
  obtain ⟨kvs, e, hk, _, hc⟩ := h
  obtain ⟨kvs', e', hm⟩ := m
  cases e.symm.trans e'
  have := DGet.k (k := .inl k) e
  rw [hk.some hm, hc] at this
  exact this
theorem rSortDJ (h : JarAt H a n c) (q : ∀ (ys : List Int) (p : Addr), ys.Pairwise (· < ·) → (∀ k, ¬ k ∈ ys → c k = 0) → ys.length ≤ n → (∀ k ∈ ys, JarHas H a k) → H p = none → Q (.ref p) (upd H p (.lst (ys.map V.int)))) : rSortDI [.ref a] H Q := by
  obtain ⟨kvs, e, hk, hl, hc⟩ := h
  obtain ⟨ks, e1, e2, e3, e4⟩ := hk.keys
  refine ⟨a, kvs, ks, rfl, .inl e, e1, fun ys p hp hs hn => q ys p ?_ (fun k hy => ?_) ?_ (fun k hy => ?_) hn⟩
  · have nd : ys.Nodup := hp.nodup_iff.mpr e2
    have : ys.Pairwise fun x y => x ≤ y ∧ x ≠ y := List.Pairwise.and hs nd
    exact this.imp fun h => by omega
  · rw [← hc]
    exact e3 k fun hm => hy (hp.mem_iff.mpr hm)
  · rw [hp.length_eq, e4]; exact hl
  · exact ⟨kvs, e, by rw [e1]; exact List.mem_map.mpr ⟨k, hp.mem_iff.mp hy, rfl⟩⟩
end
/-- pairs of ints, laid as tuples -/
def TermsL (H : Hp) : List V → Terms → Prop
  | [], ts => ts = []
  | v :: vs, ts => ∃ b p us, ts = p :: us ∧ v = .ref b ∧ H b = some (.tup [.int p.1, .int p.2]) ∧ TermsL H vs us
theorem TermsL.tk {H H' : Hp} (t : Tk H H') : ∀ {vs : List V} {ts : Terms}, TermsL H vs ts → TermsL H' vs ts
  | [], _, h => h
  | _ :: _, _, ⟨b, p, us, e1, e2, e3, e4⟩ => ⟨b, p, us, e1, e2, t _ _ e3, e4.tk t⟩
theorem TermsL.app {H : Hp} : ∀ {vs ws : List V} {ts us : Terms}, TermsL H vs ts → TermsL H ws us → TermsL H (vs ++ ws) (ts ++ us)
  | [], ws, ts, us, h, h' => by rw [show ts = [] from h]; exact h'
  | _ :: _, ws, _, us, ⟨b, p, qs, e1, e2, e3, e4⟩, h' => ⟨b, p, qs ++ us, by rw [e1]; rfl, e2, e3, e4.app h'⟩
theorem TermsL.length {H : Hp} : ∀ {vs : List V} {ts : Terms}, TermsL H vs ts → vs.length = ts.length
  | [], ts, h => by rw [show ts = [] from h]; rfl
  | _ :: _, _, ⟨b, p, qs, e1, e2, e3, e4⟩ => by rw [e1, List.length_cons, List.length_cons, e4.length]
theorem TermsL.one {H : Hp} {b : Addr} {x y : Int} (h : H b = some (.tup [.int x, .int y])) : TermsL H [.ref b] [(x, y)] := ⟨b, (x, y), [], rfl, rfl, h, rfl⟩
theorem TermsL.at {H : Hp} : ∀ {vs : List V} {ts : Terms} (i : Nat) {v : V}, TermsL H vs ts → vs[i]? = some v → ∃ b p, v = .ref b ∧ ts[i]? = some p ∧ H b = some (.tup [.int p.1, .int p.2])
  | [], _, _, _, _, h => by cases h
  | _ :: _, _, 0, _, ⟨b, p, qs, e1, e2, e3, e4⟩, h => by
    cases h
    exact ⟨b, p, e2, by rw [e1]; rfl, e3⟩
  | _ :: _, _, i + 1, v, ⟨b, p, qs, e1, e2, e3, e4⟩, h => by
    obtain ⟨b', p', x1, x2, x3⟩ := TermsL.at i e4 h
    exact ⟨b', p', x1, by rw [e1]; exact x2, x3⟩
/-- a list of pairs of ints -/
def TermsAt (H : Hp) (l : Addr) (ts : Terms) : Prop := ∃ vs, H l = some (.lst vs) ∧ TermsL H vs ts
theorem TermsAt.same {H H' : Hp} {l : Addr} {ts : Terms} (h : TermsAt H l ts) (s : Same H H') : TermsAt H' l ts := let ⟨vs, e, e2⟩ := h; ⟨vs, s _ _ e, e2.tk (Tk.same s)⟩
theorem TermsAt.nil {H : Hp} {l : Addr} (h : TermsAt H l []) : H l = some (.lst []) := by
  obtain ⟨as, e, e2⟩ := h
  cases as with
  | nil => exact e
  | cons a r => obtain ⟨_, _, _, e, _⟩ := e2; cases e
/-! ### the same as data -/
def pairD (p : Int × Int) : PyData := .tuple [.int p.1, .int p.2]
theorem TermsL.dp {K : PySem.W.Frag} {H : Hp} : ∀ {vs : List V} {ts : Terms}, TermsL H vs ts → DpAll K H vs (ts.map pairD)
  | [], ts, h => by rw [show ts = [] from h]; exact .nil
  | _ :: _, _, ⟨b, p, qs, e1, e2, e3, e4⟩ => by
    subst e1 e2
    exact .cons (.tup (.of e3) (.cons (.int _) (.cons (.int _) .nil))) e4.dp
theorem TermsAt.dp {K : PySem.W.Frag} {H : Hp} {l : Addr} {ts : Terms} (h : TermsAt H l ts) : Dp K H (.ref l) (.list (ts.map pairD)) := let ⟨_, e, e2⟩ := h; .lst (.of e) e2.dp
theorem eqv_pair (p q : Int × Int) : PyData.eqv (pairD p) (pairD q) = decide (p = q) := by
  obtain ⟨a, b⟩ := p
  obtain ⟨c, d⟩ := q
  have e : decide ((a, b) = (c, d)) = (decide (a = c) && decide (b = d)) := by
    rw [← Bool.decide_and]
    simp
  rw [e]
  simp [pairD, PyData.eqv, PyData.eqvAll]
  by_cases h1 : a = c <;> by_cases h2 : b = d <;> simp [h1, h2]
theorem eqvAll_pairs : ∀ (ts us : Terms), PyData.eqvAll (ts.map pairD) (us.map pairD) = decide (ts = us)
  | [], [] => by simp [PyData.eqvAll]
  | [], _ :: _ => by simp [PyData.eqvAll]
  | _ :: _, [] => by simp [PyData.eqvAll]
  | p :: ts, q :: us => by
    rw [List.map_cons, List.map_cons, PyData.eqvAll, eqv_pair, eqvAll_pairs ts us, ← Bool.decide_and]
    simp
theorem eqv_terms (ts us : Terms) : PyData.eqv (.list (ts.map pairD)) (.list (us.map pairD)) = decide (ts = us) := by
  rw [PyData.eqv]; exact eqvAll_pairs ts us
/-- data that == can walk -/
def Lay (n : Nat) (d : PyData) : Prop := d.canLay0 = true ∧ d.depth ≤ n
theorem Lay.mono {m n : Nat} {d : PyData} (h : Lay m d) (l : m ≤ n) : Lay n d := ⟨h.1, Nat.le_trans h.2 l⟩
theorem layAll {n : Nat} : ∀ {xs : List PyData}, (∀ x ∈ xs, Lay n x) → PyData.canLayAll0 xs = true ∧ PyData.depthAll xs ≤ n
  | [], _ => by simp [PyData.canLayAll0, PyData.depthAll]
  | x :: xs, h => by
    obtain ⟨h1, h2⟩ := h x List.mem_cons_self
    obtain ⟨h3, h4⟩ := layAll fun y hy => h y (List.mem_cons_of_mem _ hy)
    rw [PyData.canLayAll0, PyData.depthAll, h1, h3]
    exact ⟨rfl, Nat.max_le.mpr ⟨h2, h4⟩⟩
theorem Lay.list {n : Nat} {xs : List PyData} (h : ∀ x ∈ xs, Lay n x) : Lay (n + 1) (.list xs) := by
  obtain ⟨h1, h2⟩ := layAll h
  exact ⟨by rw [PyData.canLay0]; exact h1, by rw [PyData.depth]; omega⟩
theorem Lay.tuple {n : Nat} {xs : List PyData} (h : ∀ x ∈ xs, Lay n x) : Lay (n + 1) (.tuple xs) := by
  obtain ⟨h1, h2⟩ := layAll h
  exact ⟨by rw [PyData.canLay0]; exact h1, by rw [PyData.depth]; omega⟩
theorem Lay.int {n : Nat} (i : Int) : Lay n (.int i) := ⟨by simp [PyData.canLay0], by simp [PyData.depth]⟩
theorem Lay.shaped {n : Nat} {d : PyData} (h : Lay n d) (l : n ≤ 64) : SeqAt.shaped d = true := by
  unfold SeqAt.shaped
  rw [h.1, decide_eq_true (Nat.le_trans h.2 l)]
  rfl
theorem lay_pair (p : Int × Int) : Lay 1 (pairD p) := Lay.tuple fun x hx => by
  rcases List.mem_cons.mp hx with rfl | hx
  · exact .int _
  · rcases List.mem_cons.mp hx with rfl | hx
    · exact .int _
    · cases hx
theorem lay_terms (ts : Terms) : Lay 2 (.list (ts.map pairD)) := Lay.list fun x hx => by
  obtain ⟨p, _, rfl⟩ := List.mem_map.mp hx
  exact lay_pair p
theorem shaped_terms (ts : Terms) : SeqAt.shaped (.list (ts.map pairD)) = true := (lay_terms ts).shaped (by decide)
theorem free_same {H H' : Hp} {D : Addr} (s : Same H H') (h : H' D = none) : H D = none := by
  cases e : H D with
  | none => rfl
  | some o => rw [s _ _ e] at h; cases h
section
variable {X : Cx} {K : PySem.W.Frag}
theorem op_eqDK (hu : X.A.units + 64 < cLine) (h : X.K = K := by rfl) : OpR X (compareOp .Eq) (rEqD K) := by subst h; exact op_eqD hu
theorem op_neDK (hu : X.A.units + 64 < cLine) (h : X.K = K := by rfl) : OpR X (compareOp .NotEq) (rNeD K) := by subst h; exact op_neD hu
theorem op_in_seqK (h : X.K = K := by rfl) : OpR X (compareOp .In) (rIn K false) := by subst h; exact op_in_seq
theorem op_notIn_seqK (h : X.K = K := by rfl) : OpR X (compareOp .NotIn) (rIn K true) := by subst h; exact op_notIn_seq
end
theorem r_eqT {K : PySem.W.Frag} {H : Hp} {Q : VK} {l m : Addr} {ts us : Terms} (h : TermsAt H l ts) (h' : TermsAt H m us) (q : Q (.bl (decide (ts = us))) H) : rEqD K (.ref l) (.ref m) H Q :=
  ⟨_, _, h.dp, h'.dp, shaped_terms ts, shaped_terms us, by rw [eqv_terms]; exact q⟩
theorem TermsAt.none {H : Hp} {l : Addr} (h : H l = some (.lst [])) : TermsAt H l [] := ⟨[], h, rfl⟩
/-! ### is not None -/
end My

set_option Elab.async false
set_option linter.all false
set_option maxRecDepth 100000
namespace My
open PySem PySem.Spec PyProof.Rows L2
/-! ### the way of a flat program -/
def stepSign (w : Str) : Int := if w = "back" ∨ w = "slip" then -1 else 1
namespace Prog
/-- the number of the name n at the power k, the way begun at the heading h -/
def wcf : Int → Prog → Str → Int → Int
  | _, .nil, _, _ => 0
  | h, .step w m r, n, k => (if m = n ∧ h = k then stepSign w else 0) + wcf h r n k
  | h, .turn t r, n, k => wcf (h + t) r n k
  | _, .rep _ _ _, _, _ => 0
  | _, .mir _ _, _, _ => 0
end Prog
/-! ### names: at most 26 -/
theorem names_few {ks : List Str} (h : ∀ n ∈ ks, IsName n) (nd : ks.Nodup) : ks.length < 64 := by
  have hp : ∀ (ks : List Str), (∀ n ∈ ks, IsName n) → ks.Nodup → ∃ cs : List Nat, cs.length = ks.length ∧ cs.Nodup ∧ (∀ c ∈ cs, 97 ≤ c ∧ c ≤ 122 ∧ (⟨#[c]⟩ : Str) ∈ ks) := by
    intro ks
    induction ks with
    | nil => intro _ _; exact ⟨[], rfl, by simp, by simp⟩
    | cons n ks ih =>
      intro h nd
      obtain ⟨hn, nd⟩ := List.nodup_cons.mp nd
      obtain ⟨cs, e1, e2, e3⟩ := ih (fun m hm => h m (List.mem_cons_of_mem _ hm)) nd
      obtain ⟨c, rfl, c1, c2⟩ := h n List.mem_cons_self
      refine ⟨c :: cs, by simp [e1], List.nodup_cons.mpr ⟨fun hc => hn (e3 c hc).2.2, e2⟩, fun d hd => ?_⟩
      rcases List.mem_cons.mp hd with rfl | hd
      · exact ⟨c1, c2, List.mem_cons_self⟩
      · exact ⟨(e3 d hd).1, (e3 d hd).2.1, List.mem_cons_of_mem _ (e3 d hd).2.2⟩
  obtain ⟨cs, e1, e2, e3⟩ := hp ks h nd
  have key : ∀ (xs ys : List Nat), xs.Nodup → (∀ x ∈ xs, x ∈ ys) → xs.length ≤ ys.length := by
    intro xs
    induction xs with
    | nil => intro ys _ _; exact Nat.zero_le _
    | cons x xs ih =>
      intro ys hn hs
      have hx := hs x List.mem_cons_self
      obtain ⟨hxn, hn⟩ := List.nodup_cons.mp hn
      have h1 := ih (ys.erase x) hn fun z hz => (List.mem_erase_of_ne (by rintro rfl; exact hxn hz)).mpr (hs z (List.mem_cons_of_mem _ hz))
      rw [List.length_erase_of_mem hx] at h1
      have h2 := List.length_pos_of_mem hx
      rw [List.length_cons]
      omega
  have := key cs (List.range 123) e2 fun x hx => List.mem_range.mpr (by have := e3 x hx; omega)
  have h2 := key cs ((List.range 26).map (· + 97)) e2 fun x hx => List.mem_map.mpr ⟨x - 97, List.mem_range.mpr (by have := e3 x hx; omega), by have := e3 x hx; omega⟩
  rw [List.length_map, List.length_range] at h2
  omega
/-! ### a dict of jars by names -/
def spotKvs (ws : List (Str × Addr)) : List (Key × V) := ws.map fun e => (Sum.inr e.1, V.ref e.2)
structure Spot (H0 H : Hp) (s : Addr) (N : Nat) (c : Str → Int → Int) (ws : List (Str × Addr)) : Prop where
  at_ : H s = some (.dK (spotKvs ws))
  nd : (ws.map (·.1)).Nodup
  ndA : (ws.map (·.2)).Nodup
  name : ∀ e ∈ ws, IsName e.1
  new : H0 s = none
  news : ∀ e ∈ ws, H0 e.2 = none ∧ e.2 ≠ s
  jars : ∀ e ∈ ws, JarAt H e.2 N (c e.1)
  none_ : ∀ n, ¬ n ∈ ws.map (·.1) → ∀ k, c n k = 0
  same : Same H0 H
theorem JarAt.le {H : Hp} {a : Addr} {n m : Nat} {c : Int → Int} (h : JarAt H a n c) (l : n ≤ m) : JarAt H a m c := let ⟨kvs, e, r1, r2, r3⟩ := h; ⟨kvs, e, r1, Nat.le_trans r2 l, r3⟩
theorem spot_val {ws : List (Str × Addr)} {n : Str} {v : V} (h : valV (spotKvs ws) (.inr n) = some v) : ∃ j, v = .ref j ∧ (n, j) ∈ ws := by
  have := val_mem h
  obtain ⟨e, he, e2⟩ := List.mem_map.mp this
  cases e2
  exact ⟨_, rfl, he⟩
theorem spot_none {ws : List (Str × Addr)} {n : Str} (h : valV (spotKvs ws) (.inr n) = none) : ¬ n ∈ ws.map (·.1) := by
  intro hm
  obtain ⟨e, he, e2⟩ := List.mem_map.mp hm
  exact val_none h (Sum.inr e.1, V.ref e.2) (List.mem_map.mpr ⟨e, he, rfl⟩) (congrArg Sum.inr e2)
theorem spot_some {ws : List (Str × Addr)} {n : Str} (h : n ∈ ws.map (·.1)) : ∃ j, valV (spotKvs ws) (.inr n) = some (.ref j) ∧ (n, j) ∈ ws := by
  cases e : valV (spotKvs ws) (.inr n) with
  | none => exact absurd h (spot_none e)
  | some v =>
    obtain ⟨j, rfl, hj⟩ := spot_val e
    exact ⟨j, rfl, hj⟩
theorem Spot.empty {H : Hp} {s : Addr} (h : H s = none) : Spot H (upd H s (.dK [])) s 0 (fun _ _ => 0) [] :=
  ⟨upd_same, by simp, by simp, by simp, h, by simp, by simp, fun _ _ _ => rfl, Same.new0 h⟩
theorem Spot.later {H0 H H' : Hp} {s : Addr} {N : Nat} {c : Str → Int → Int} {ws : List (Str × Addr)} (h : Spot H0 H s N c ws) (k : Same H H') : Spot H0 H' s N c ws :=
  ⟨k _ _ h.at_, h.nd, h.ndA, h.name, h.new, h.news, fun e he => (h.jars e he).same k, h.none_, h.same.trans k⟩
/-- the name's jar: found or put in -/
theorem Spot.setd {H0 H : Hp} {s d : Addr} {N : Nat} {c : Str → Int → Int} {ws : List (Str × Addr)} {n : Str} {Q : VK} (h : Spot H0 H s N c ws) (hn : IsName n) (hd : H d = none)
    (q : ∀ ws' j H', Spot H0 H' s N c ws' → (n, j) ∈ ws' → (∀ b o, b ≠ s → H b = some o → H' b = some o) → Q (.ref j) H') :
    ∃ (kvs : List (Key × V)) (k : Key), upd H d (.dK []) s = some (.dK kvs) ∧ V.str n = kV k ∧ kvs.length < sizeLine ∧ (∀ v, valV kvs k = some v → Q v (upd H d (.dK []))) ∧ (valV kvs k = none → Q (.ref d) (upd (upd H d (.dK [])) s (.dK (putK kvs k (.ref d))))) := by
  have h1 := h.later (Same.new0 (o := .dK []) hd)
  have few : (spotKvs ws).length < 64 := by
    have := names_few (ks := ws.map (·.1)) (fun n hn => by obtain ⟨e, he, rfl⟩ := List.mem_map.mp hn; exact h.name e he) h.nd
    simpa [spotKvs] using this
  refine ⟨spotKvs ws, .inr n, h1.at_, rfl, Nat.lt_trans few (by decide), fun v hv => ?_, fun hv => ?_⟩
  · obtain ⟨j, rfl, hj⟩ := spot_val hv
    exact q ws j _ h1 hj fun b o _ e => h_keep e hd
  · have hnn := spot_none hv
    have ds : d ≠ s := (ne_of_none h.at_ hd).symm
    rw [putK_new _ hv]
    have e : spotKvs ws ++ [(Sum.inr n, V.ref d)] = spotKvs (ws ++ [(n, d)]) := by simp [spotKvs]
    rw [e]
    refine q (ws ++ [(n, d)]) d _ ⟨upd_same, ?_, ?_, ?_, h.new, ?_, ?_, ?_, ?_⟩ (by simp) fun b o nb eb => (upd_ne nb).trans (h_keep eb hd)
    · rw [List.map_append]
      exact List.nodup_append.mpr ⟨h.nd, by simp, fun a ha b hb eab => by
        have hb := List.mem_singleton.mp hb
        rw [eab, hb] at ha
        exact hnn ha⟩
    · rw [List.map_append]
      refine List.nodup_append.mpr ⟨h.ndA, by simp, fun a ha b hb e => ?_⟩
      have hb := List.mem_singleton.mp hb
      subst hb
      obtain ⟨x, hx, rfl⟩ := List.mem_map.mp ha
      obtain ⟨_, e2, _⟩ := h.jars x hx
      exact absurd e (ne_of_none e2 hd)
    · intro x hx
      rcases List.mem_append.mp hx with hx | hx
      · exact h.name x hx
      · rw [List.mem_singleton.mp hx]; exact hn
    · intro x hx
      rcases List.mem_append.mp hx with hx | hx
      · exact h.news x hx
      · rw [List.mem_singleton.mp hx]
        exact ⟨free_same h.same hd, ds⟩
    · intro x hx
      rcases List.mem_append.mp hx with hx | hx
      · obtain ⟨kvs, e1, r⟩ := h1.jars x hx
        exact ⟨kvs, (upd_ne (h.news x hx).2).trans e1, r⟩
      · rw [List.mem_singleton.mp hx]
        refine ⟨[], (upd_ne ds).trans upd_same, .nil, Nat.zero_le _, fun k => ?_⟩
        exact (h.none_ n hnn k).symm
    · intro m hm k
      refine h.none_ m (fun hc => hm ?_) k
      rw [List.map_append]
      exact List.mem_append.mpr (.inl hc)
    · exact fun b o eb => (upd_ne (ne_of_none eb h.new)).trans (h_keep (h.same _ _ eb) hd)
/-- the name's jar changed -/
theorem Spot.put {H0 H H' : Hp} {s j : Addr} {N : Nat} {c : Str → Int → Int} {ws : List (Str × Addr)} {n : Str} {k v : Int} (h : Spot H0 H s N c ws) (m : (n, j) ∈ ws) (b : But j H H') (hj : JarAt H' j (N + 1) (addAt (c n) k v)) :
    Spot H0 H' s (N + 1) (fun n' k' => if n' = n ∧ k' = k then v else c n' k') ws := by
  have hjs := h.news _ m
  have one : ∀ e ∈ ws, e.1 = n ↔ e.2 = j := by
    intro e he
    constructor
    · intro e1
      have : ∀ (l : List (Str × Addr)), (l.map (·.1)).Nodup → ∀ x ∈ l, ∀ y ∈ l, x.1 = y.1 → x = y := by
        intro l
        induction l with
        | nil => intro _ x hx; cases hx
        | cons z l ih =>
          intro nd x hx y hy exy
          obtain ⟨hz, nd⟩ := List.nodup_cons.mp nd
          rcases List.mem_cons.mp hx with rfl | hx2
          · rcases List.mem_cons.mp hy with rfl | hy2
            · rfl
            · exact absurd (List.mem_map.mpr ⟨y, hy2, exy.symm⟩) hz
          · rcases List.mem_cons.mp hy with rfl | hy2
            · exact absurd (List.mem_map.mpr ⟨x, hx2, exy⟩) hz
            · exact ih nd x hx2 y hy2 exy
      exact congrArg (·.2) (this ws h.nd e he (n, j) m e1)
    · intro e1
      have : ∀ (l : List (Str × Addr)), (l.map (·.2)).Nodup → ∀ x ∈ l, ∀ y ∈ l, x.2 = y.2 → x = y := by
        intro l
        induction l with
        | nil => intro _ x hx; cases hx
        | cons z l ih =>
          intro nd x hx y hy exy
          obtain ⟨hz, nd⟩ := List.nodup_cons.mp nd
          rcases List.mem_cons.mp hx with rfl | hx2
          · rcases List.mem_cons.mp hy with rfl | hy2
            · rfl
            · exact absurd (List.mem_map.mpr ⟨y, hy2, exy.symm⟩) hz
          · rcases List.mem_cons.mp hy with rfl | hy2
            · exact absurd (List.mem_map.mpr ⟨x, hx2, exy⟩) hz
            · exact ih nd x hx2 y hy2 exy
      exact congrArg (·.1) (this ws h.ndA e he (n, j) m e1)
  refine ⟨b _ _ (fun e => hjs.2 e.symm) h.at_, h.nd, h.ndA, h.name, h.new, h.news, fun e he => ?_, fun m' hm k' => ?_, fun x o ex => b _ _ (ne_of_none ex hjs.1) (h.same _ _ ex)⟩
  · by_cases e1 : e.1 = n
    · rw [(one e he).mp e1, e1]
      refine hj.ext fun k' => ?_
      unfold addAt
      by_cases e2 : k' = k
      · rw [if_pos e2, if_pos ⟨rfl, e2⟩]
      · rw [if_neg e2, if_neg fun h => e2 h.2]
    · refine (((h.jars e he).but (fun e2 => e1 ((one e he).mpr e2)) b).le (Nat.le_succ _)).ext fun k' => ?_
      rw [if_neg fun h => e1 h.1]
  · rw [if_neg]
    · exact h.none_ m' hm k'
    · rintro ⟨rfl, _⟩
      exact hm (List.mem_map.mpr ⟨_, m, rfl⟩)
theorem Spot.dget {H0 H : Hp} {s : Addr} {N : Nat} {c : Str → Int → Int} {ws : List (Str × Addr)} {n : Str} {v : V} (h : Spot H0 H s N c ws) (e : valV (spotKvs ws) (.inr n) = some v) : DGet H s (.str n) (some v) := by
  have := DGet.k (k := .inr n) h.at_
  rw [e] at this
  exact this
/-! ### names in sequence -/
def ncode (n : Str) : Nat := n.cps.toList.headD 0
theorem ncode_lt {a b : Str} (ha : IsName a) (hb : IsName b) : ltCps a.cps.toList b.cps.toList = decide (ncode a < ncode b) := by
  obtain ⟨x, rfl, _⟩ := ha
  obtain ⟨y, rfl, _⟩ := hb
  rw [ltCps_eq]
  show decide ([x] < [y]) = decide (x < y)
  by_cases h : x < y
  · rw [decide_eq_true h, decide_eq_true (by simpa [List.cons_lt_cons_iff] using h)]
  · rw [decide_eq_false h, decide_eq_false (by simpa [List.cons_lt_cons_iff] using h)]
theorem ncode_inj {a b : Str} (ha : IsName a) (hb : IsName b) (e : ncode a = ncode b) : a = b := by
  obtain ⟨x, rfl, _⟩ := ha
  obtain ⟨y, rfl, _⟩ := hb
  have e : x = y := e
  rw [e]
theorem rising_names : ∀ {p : Str} {l : List Str}, IsName p → (∀ n ∈ l, IsName n) → risingS p l = true → (∀ n ∈ l, ncode p ≤ ncode n) ∧ l.Pairwise fun a b => ncode a ≤ ncode b
  | p, [], _, _, _ => ⟨by simp, .nil⟩
  | p, x :: r, hp, hl, h => by
    have hx := hl x List.mem_cons_self
    have hr : ∀ n ∈ r, IsName n := fun n hn => hl n (List.mem_cons_of_mem _ hn)
    rw [risingS, Bool.and_eq_true, ncode_lt hx hp] at h
    have h1 : ncode p ≤ ncode x := by
      have := h.1
      simp at this
      exact this
    obtain ⟨h2, h3⟩ := rising_names hx hr h.2
    refine ⟨fun n hn => ?_, List.pairwise_cons.mpr ⟨h2, h3⟩⟩
    rcases List.mem_cons.mp hn with rfl | hn
    · exact h1
    · exact Nat.le_trans h1 (h2 n hn)
theorem sorted_names {l : List Str} (hl : ∀ n ∈ l, IsName n) (nd : l.Nodup) (h : sortedS l = true) : l.Pairwise fun a b => ncode a < ncode b := by
  have h1 : l.Pairwise fun a b => ncode a ≤ ncode b := by
    cases l with
    | nil => exact .nil
    | cons p r =>
      obtain ⟨h1, h2⟩ := rising_names (hl p List.mem_cons_self) (fun n hn => hl n (List.mem_cons_of_mem _ hn)) h
      exact List.pairwise_cons.mpr ⟨h1, h2⟩
  have h2 := List.Pairwise.and h1 nd
  refine h2.imp_of_mem fun {a b} ha hb h => ?_
  have hne : ncode a ≠ ncode b := fun e => h.2 (ncode_inj (hl a ha) (hl b hb) e)
  have := h.1
  omega
theorem asc_ext {α : Type} (f : α → Nat) : ∀ {l m : List α}, l.Pairwise (fun a b => f a < f b) → m.Pairwise (fun a b => f a < f b) → (∀ x, x ∈ l ↔ x ∈ m) → l = m
  | [], [], _, _, _ => rfl
  | a :: l, [], _, _, h => absurd ((h a).mp List.mem_cons_self) (by simp)
  | [], b :: m, _, _, h => absurd ((h b).mpr List.mem_cons_self) (by simp)
  | a :: l, b :: m, hl, hm, h => by
    obtain ⟨h1, h2⟩ := List.pairwise_cons.mp hl
    obtain ⟨h3, h4⟩ := List.pairwise_cons.mp hm
    have e : a = b := by
      rcases List.mem_cons.mp ((h a).mp List.mem_cons_self) with e | ha
      · exact e
      · rcases List.mem_cons.mp ((h b).mpr List.mem_cons_self) with e | hb
        · exact e.symm
        · have := h1 b hb
          have := h3 a ha
          omega
    subst e
    rw [asc_ext f h2 h4 fun x => ⟨fun hx => ?_, fun hx => ?_⟩]
    · rcases List.mem_cons.mp ((h x).mp (List.mem_cons_of_mem _ hx)) with rfl | q
      · exact absurd (h1 _ hx) (Nat.lt_irrefl _)
      · exact q
    · rcases List.mem_cons.mp ((h x).mpr (List.mem_cons_of_mem _ hx)) with rfl | q
      · exact absurd (h3 _ hx) (Nat.lt_irrefl _)
      · exact q
/-! ### places -/
abbrev Pl := List (Str × Terms)
def PlaceL (F : Addr → Prop) (H : Hp) : List V → Pl → Prop
  | [], pl => pl = []
  | v :: vs, pl => ∃ b l e us, pl = e :: us ∧ v = .ref b ∧ H b = some (.tup [.str e.1, .ref l]) ∧ F l ∧ TermsAt H l e.2 ∧ PlaceL F H vs us
section
variable {F : Addr → Prop}
theorem PlaceL.same {H H' : Hp} (t : Same H H') : ∀ {vs : List V} {pl : Pl}, PlaceL F H vs pl → PlaceL F H' vs pl
  | [], _, h => h
  | _ :: _, _, ⟨b, l, e, us, e1, e2, e3, e4, e5, e6⟩ => ⟨b, l, e, us, e1, e2, t _ _ e3, e4, e5.same t, e6.same t⟩
theorem PlaceL.all {H : Hp} : ∀ {vs : List V} {pl : Pl}, PlaceL F H vs pl → PlaceL (fun _ => True) H vs pl
  | [], _, h => h
  | _ :: _, _, ⟨b, l, e, us, e1, e2, e3, e4, e5, e6⟩ => ⟨b, l, e, us, e1, e2, e3, trivial, e5, e6.all⟩
theorem PlaceL.lst {H : Hp} {D : Addr} {acc acc' : List V} (hD : H D = some (.lst acc)) : ∀ {vs : List V} {pl : Pl}, PlaceL (· ≠ D) H vs pl → PlaceL (· ≠ D) (upd H D (.lst acc')) vs pl
  | [], _, h => h
  | _ :: _, _, ⟨b, l, e, us, e1, e2, e3, e4, ⟨ws, e5, e7⟩, e6⟩ => ⟨b, l, e, us, e1, e2, (Tk.refl H).lst hD _ _ e3, e4, ⟨ws, (upd_ne e4).trans e5, e7.tk ((Tk.refl H).lst hD)⟩, e6.lst hD⟩
theorem PlaceL.app {H : Hp} : ∀ {vs ws : List V} {ts us : Pl}, PlaceL F H vs ts → PlaceL F H ws us → PlaceL F H (vs ++ ws) (ts ++ us)
  | [], ws, ts, us, h, h' => by rw [show ts = [] from h]; exact h'
  | _ :: _, ws, _, us, ⟨b, l, e, qs, e1, e2, e3, e4, e5, e6⟩, h' => ⟨b, l, e, qs ++ us, by rw [e1]; rfl, e2, e3, e4, e5, e6.app h'⟩
theorem PlaceL.length {H : Hp} : ∀ {vs : List V} {ts : Pl}, PlaceL F H vs ts → vs.length = ts.length
  | [], ts, h => by rw [show ts = [] from h]; rfl
  | _ :: _, _, ⟨b, l, e, qs, e1, e2, e3, e4, e5, e6⟩ => by rw [e1, List.length_cons, List.length_cons, e6.length]
end
/-- the place of the numbers c -/
structure IsPlace (pl : Pl) (c : Str → Int → Int) : Prop where
  canon : ∀ e ∈ pl, Canon e.2 ∧ e.2 ≠ [] ∧ ∀ k, cof e.2 k = c e.1 k
  names : ∀ e ∈ pl, IsName e.1
  asc : pl.Pairwise fun a b => ncode a.1 < ncode b.1
  rest : ∀ n, ¬ n ∈ pl.map (·.1) → ∀ k, c n k = 0
def PlaceAt (H : Hp) (l : Addr) (pl : Pl) : Prop := ∃ vs, H l = some (.lst vs) ∧ PlaceL (fun _ => True) H vs pl
theorem IsPlace.zero {pl : Pl} {c : Str → Int → Int} (h : IsPlace pl c) (z : ∀ n k, c n k = 0) : pl = [] := by
  cases pl with
  | nil => rfl
  | cons e r =>
    obtain ⟨h1, h2, h3⟩ := h.canon e List.mem_cons_self
    exact absurd (h1.zero fun k => (h3 k).trans (z _ _)) h2
theorem IsPlace.ext {pl ql : Pl} {c : Str → Int → Int} (h : IsPlace pl c) (k : IsPlace ql c) : pl = ql := by
  have key : ∀ {pl ql : Pl}, IsPlace pl c → IsPlace ql c → ∀ x, x ∈ pl → x ∈ ql := by
    intro pl ql h k x hx
    obtain ⟨h1, h2, h3⟩ := h.canon x hx
    have hm : x.1 ∈ ql.map (·.1) := by
      refine Decidable.byContradiction fun hn => h2 (h1.zero fun j => (h3 j).trans (k.rest _ hn j))
    obtain ⟨y, hy, e⟩ := List.mem_map.mp hm
    obtain ⟨k1, _, k3⟩ := k.canon y hy
    have e2 : x.2 = y.2 := h1.ext k1 fun j => by rw [h3, k3, e]
    have : x = y := Prod.ext e.symm e2
    rw [this]; exact hy
  exact asc_ext (fun e => ncode e.1) h.asc k.asc fun x => ⟨key h k x, key k h x⟩
end My

set_option Elab.async false
set_option linter.all false
set_option maxRecDepth 100000
namespace My
open PySem PySem.Spec PyProof.Rows L2
/-! ### methods of own classes, by their names -/
structure HasM (P : Program) (w : World) (K : PySem.W.Frag) (mg : Str → Option Value) (base : Heap) (C : Addr) (m : Str) (k : Nat) (ps : List Str) (sp : Sp) : Prop where
  ex : ∃ f fd, FnOk P w K mg base CX0 k f fd ps sp ∧ Meth K C m f ∧ Binds K fd ps []
theorem HasM.mono {P : Program} {w : World} {K : PySem.W.Frag} {mg : Str → Option Value} {base : Heap} {C : Addr} {m : Str} {j k : Nat} {ps : List Str} {sp : Sp} (h : HasM P w K mg base C m j ps sp) (hk : j ≤ k) : HasM P w K mg base C m k ps sp := by
  obtain ⟨f, fd, F, a, b⟩ := h.ex
  exact ⟨f, fd, F.mono hk, a, b⟩
section
variable {X : Cx} {pins : List (Addr × Obj)} {σ : L2.St} {H : Hp} {s : Shared} {Q : VK} {C : Addr} {m : Str} {k : Nat} {ps : List Str} {sp : Sp} {f : Addr} {fd : FuncData}
theorem run_m1 (F : FnOk X.prog X.w X.K X.mg X.base CX0 k f fd ps sp) (b : Binds X.K fd ps []) (hr : Room (k + 1) X.A) (I : Inv X pins σ H s) {us : List Value} {vs : List V} (r : Vals vs us) (q : sp vs H Q E0) : wpAny (model X.prog X.w) X.A.in1 (call (.ref f) us) (EP X pins σ Q) X.xe s := by
  have hl : us.length = ps.length := by rw [← r.length]; exact F.len _ _ _ _ q
  refine wpAny_call (codeAny_mono (F.run X.A.in1 X.stack s H ⟨us, []⟩ us vs Q E0 hr.in1 I.env0.in1 (by simpa using b s us I.kIn (by simpa using hl)) r q) fun r s' hq => ?_)
  cases r with
  | error e => exact (pass0 (X := X)) pins σ H s e s' I hq
  | ok fl =>
    cases fl with
    | ret u => exact I.after hq
    | next => exact False.elim hq
    | brk => exact False.elim hq
    | cont => exact False.elim hq
/-! ### the types of all values, own errors too -/
structure ExcTy (K : PySem.W.Frag) (D : Addr) : Prop where
  ga : PySem.W.findIn K (.ref D) "__getattribute__" = some (some (.builtin "BaseException.__getattribute__"))
  gt : PySem.W.findIn K (.ref D) "__getattr__" = some none
  sub : PySem.W.subIn K (.ref D) (.type "BaseException") = some true
  dct : PySem.W.hasDictIn K D = true
  cl : PySem.W.findIn K (.ref D) "__class__" = some (some (.builtin "object.__class__"))
  cn : PySem.W.specialIn K (.builtin "object.__class__") "__get__" = some (some (.builtin "getset_descriptor.__get__"))
  ct : PySem.W.takesIn K (.builtin "object.__class__") = some true
  mr : PySem.W.mroIn K D (.type "object") = some true
/-- a caught exception, held as a value -/
def ExV (cls : Value) (d : Option Addr) (a : Addr) : HO := .ext fun h => ∃ (oe : Obj) (vs : Array Value), h.get? a = some oe ∧ Zc cls d oe ∧ oe.data = .fields vs
inductive TyE (K : PySem.W.Frag) (H : Hp) : V → Value → Prop where
  | x {y : V} {t : Value} (h : TyX K H y t) : TyE K H y t
  | exc {p D : Addr} (h : H p = some (ExO (.ref D) p)) (F : ExcTy K D) : TyE K H (.ref p) (.ref D)
  | exv {p D : Addr} (h : H p = some (ExV (.ref D) none p)) (F : ExcTy K D) : TyE K H (.ref p) (.ref D)
/-- len(x) -/
def rLenOwn (C : Addr) (sp : Sp) : List V → Hp → VK → Prop := fun xs H Q => ∃ a dx fs, xs = [.ref a] ∧ H a = some (.ins C dx fs) ∧ sp [.ref a] H (fun v H' => ∃ n : Nat, v = .int n ∧ n ≤ 16000000 ∧ Q v H') E0
theorem call_lenOwn (h : HasM X.prog X.w X.K X.mg X.base C "__len__" k ps sp) (hr : Room (k + 1) X.A) : CallR X (.builtin "len") (rLenOwn C sp) := by
  intro pins s σ H xs us Q I r q
  obtain ⟨f, fd, F, M, b⟩ := h.ex
  obtain ⟨a, dx, fs, rfl, ha, q⟩ := q
  obtain ⟨u, rfl, ru⟩ := r.one
  cases ru
  obtain ⟨mA, O, _⟩ := ins_get I.hok ha
  obtain ⟨od, J, _⟩ := O.look
  obtain ⟨m', hF⟩ := I.fr
  refine PySem.W.len_K hF I.ok.mod.kin J M.at_ M.fn ?_
  refine wpAny_mono (run_m1 (vs := [.ref a]) F b hr I (.cons rfl .nil) q) (fun w s' z => ?_) fun _ _ x => x
  obtain ⟨z, H', I', rz, n, rfl, hn, qz⟩ := z
  obtain ⟨t, rfl⟩ := (show ∃ t, w = Value.int n t from rz)
  exact ⟨⟨by omega, by omega⟩, .int n, H', I'.tok _, ⟨_, rfl⟩, qz⟩
end
end My

set_option Elab.async false
set_option linter.all false
set_option maxRecDepth 100000
set_option maxHeartbeats 2000000
namespace My
open PySem PySem.Spec PyProof.Rows L2
/-! ### a caught exception, held as a value -/
section
variable {X : Cx} {x n : Str} {c : Value} {i : Nat} {body suite : List Stmt} {b₀ : Stmt} {np pos pos' : Pos} {tb : WX → TS} {ts : Addr → Value → Option Addr → TS} {Wout : WX}
end
/-! ### a def that may raise, by its name -/
structure HasX (P : Program) (w : World) (K : PySem.W.Frag) (mg : Str → Option Value) (base : Heap) (x : Str) (k : Nat) (ps : List Str) (sp : Sp) : Prop where
  ex : ∃ f fd, FnOk P w K mg base (L2.CX P w) k f fd ps sp ∧ mg x = some (.ref f) ∧ PySem.W.keepIn K (.ref f) = true ∧ Binds K fd ps []
theorem fnOk_calm {P : Program} {w : World} {K : PySem.W.Frag} {mg : Str → Option Value} {base : Heap} {k : Nat} {f : Addr} {fd : FuncData} {ps : List Str} {sp : Sp} (F : FnOk P w K mg base (L2.CX P w) k f fd ps sp) : FnOk P w K mg base CX0 k f fd ps (fun vs H Q _ => sp vs H Q E0) :=
  ⟨fun vs H Q E q => F.len vs H Q E0 q, fun A outer s H args us vs Q E hr he hb hv hs => codeAny_mono (F.run A outer s H args us vs Q E0 hr he hb hv hs) fun r s' hq => by
    cases r with
    | error e =>
      obtain ⟨_, _, _, _, _, _, _, _, _, _, _, _, z⟩ := hq
      exact z.elim
    | ok fl => cases fl <;> exact hq⟩
theorem HasX.calm {P : Program} {w : World} {K : PySem.W.Frag} {mg : Str → Option Value} {base : Heap} {x : Str} {k : Nat} {ps : List Str} {sp : Sp} (h : HasX P w K mg base x k ps sp) : Has P w K mg base x k ps (fun vs H Q _ => sp vs H Q E0) := by
  obtain ⟨f, fd, F, a, b, c⟩ := h.ex
  exact ⟨f, fd, fnOk_calm F, a, b, c⟩
theorem Has.imp {P : Program} {w : World} {K : PySem.W.Frag} {mg : Str → Option Value} {base : Heap} {x : Str} {k : Nat} {ps : List Str} {sp sp' : Sp} (h : Has P w K mg base x k ps sp) (i : ∀ vs H Q E, sp' vs H Q E → sp vs H Q E) : Has P w K mg base x k ps sp' := by
  obtain ⟨f, fd, F, a, b, c⟩ := h.ex
  exact ⟨f, fd, F.imp i, a, b, c⟩
section
variable {X : Cx} {k : Nat} {ps : List Str} {sp : Sp} {x : Str} {p pos : Pos} {e : Expr} {es : List Expr} {t : TA} {W : WX} {σ : L2.St} {H : Hp} {Q : VK}
end
/-! ### .. by keywords, in the parameters' order or turned round -/
section
variable {X : Cx} {k : Nat} {ps ks : List Str} {rv : Bool} {sp : Sp} {x : Str} {p pos : Pos} {kws : List Keyword} {tkw : TA} {W : WX} {σ : L2.St} {H : Hp} {Q : VK}
end
/-! ### own exception classes -/
structure OwnX (K : PySem.W.Frag) (mg : Str → Option Value) (x : Str) (C : Addr) : Prop where
  xi : PySem.W.excIn K C [.type "ValueError", .type "Exception", .type "BaseException", .type "object"] "ValueError.__new__" = true
  g : mg x = some (.ref C)
  k : PySem.W.keepIn K (.ref C) = true
  b : PySem.W.subIn K (.ref C) (.type "BaseException") = some true
  t : PySem.W.typeIn K (.ref C) = some (.type "type")
  e : ExcTy K C
  cs : ∃ cd, PySem.W.clsIn K C = some cd
theorem OwnX.kit {K : PySem.W.Frag} {mg : Str → Option Value} {x : Str} {C : Addr} {cls : Value} {b : Bool} (h : OwnX K mg x C) (s : PySem.W.subIn K cls (.ref C) = some b) (ne : (cls == .ref C) = false) : PySem.W.kitOne K cls (.ref C) = some b := by
  obtain ⟨cd, e⟩ := h.cs
  unfold PySem.W.kitOne PySem.W.kitCls
  rw [ne, if_neg Bool.false_ne_true]
  show (if ((PySem.W.clsIn K C).isSome && PySem.W.typeIn K (.ref C) == some (.type "type")) = true then PySem.W.subIn K cls (.ref C) else none) = some b
  rw [e, h.t, if_pos (by simp)]
  exact s
/-- a value that is no integer, or a truth -/
def NotInt (K : PySem.W.Frag) (H : Hp) (v : V) : Prop := ∃ t b1 b2, TyE K H v t ∧ PySem.W.kitOne K t (.type "int") = some b1 ∧ PySem.W.kitOne K t (.type "bool") = some b2 ∧ (b1 && !b2) = false
def NotIntS (K : PySem.W.Frag) (H : Hp) (v : V) : Prop := ∀ H', Same H H' → NotInt K H' v
theorem NotIntS.same {K : PySem.W.Frag} {H H' : Hp} {v : V} (h : NotIntS K H v) (s : Same H H') : NotIntS K H' v := fun H2 s2 => h H2 (s.trans s2)
theorem NotIntS.now {K : PySem.W.Frag} {H : Hp} {v : V} (h : NotIntS K H v) : NotInt K H v := h H (Same.refl H)
section
variable {K : PySem.W.Frag} {H : Hp}
theorem r_isNR {Q : VK} {a : Addr} (q : Q (.bl false) H) : rIsN (.ref a) .non H Q := ⟨rfl, by rw [decide_eq_false (by intro h; cases h)]; exact q⟩
end
end My

set_option Elab.async false
set_option linter.all false
set_option maxRecDepth 100000
namespace My
open PySem PySem.Spec PyProof.Rows L2
/-! ### iter(t), t a tuple -/
section
variable {X : Cx} {pins : List (Addr × Obj)} {σ : L2.St} {H : Hp} {s : Shared} {Q : VK} {C : Addr} {m : Str} {k : Nat} {ps : List Str} {sp : Sp} {tg l : Expr} {tl : TE}
end
/-! ### a def whose promise knows the state at its entry -/
section
variable {X : Cx} {pins : List (Addr × Obj)} {σ : L2.St} {H : Hp} {s : Shared} {Q : VK} {C : Addr} {m : Str} {k : Nat} {ps : List Str} {f : Addr} {fd : FuncData} {tg l : Expr} {tl : TE}
/-- for y in x, x an instance of the class at C whose __iter__ gives iter(the tuple of a field) -/
def iOwn (K : PySem.W.Frag) (C : Addr) (fld : Str) (tl : TE) : TI := fun σ H R => tl σ H fun x H1 => ∃ a dx fs b ys, x = .ref a ∧ H1 a = some (.ins C dx fs) ∧ fs.lookup fld = some (.ref b) ∧ SqT K H1 b ys ∧ R (Itt K b) H1
end
end My

set_option Elab.async false
set_option linter.all false
set_option maxRecDepth 100000
namespace PySem.W
open Lean Elab Tactic Meta PySem PySem.Calls PyProof.Rows
section
variable {prog : Program} {w : World} {A : Around} {E : Value → Shared → Prop} {s : Shared} {K : Frag} {x C L f dx : Addr} {h₀ : Heap} {m : Str → Option Value} {nm T : String} {i : Int} {t : Tok}
end
end PySem.W
namespace PySem.W
open Lean Elab Tactic Meta PySem PySem.Calls PyProof.Rows
/-- the class at C stands over object alone -/
def plainMro (K : Frag) (C : Addr) : Bool := (clsIn K C).any fun cd => cd.mro == [.ref C, .type "object"]
section
variable {prog : Program} {w : World} {M : Model} {A : Around} {E : Value → Shared → Prop} {s : Shared} {K : Frag} {x C L f dx : Addr} {h₀ : Heap} {m : Str → Option Value} {nm : String} {ox : Obj} {od : Option Obj}
end
end PySem.W
namespace PySem.W
open Lean Elab Tactic Meta PySem PySem.Calls PyProof.Rows
section
variable {prog : Program} {w : World} {A : Around} {E : Value → Shared → Prop} {s : Shared} {K : Frag} {x C L f dx : Addr} {h₀ : Heap} {m : Str → Option Value} {nm' T : String} {ox : Obj} {od : Option Obj}
end
end PySem.W
namespace My
open PySem PySem.Spec PyProof.Rows L2
section
variable {X : Cx} {pins : List (Addr × Obj)} {σ : L2.St} {H : Hp} {s : Shared} {Q : VK} {C : Addr} {m : Str} {k : Nat} {ps : List Str} {sp : Sp} {f : Addr} {fd : FuncData}
end
end My

set_option Elab.async false
set_option linter.all false
set_option maxRecDepth 100000
namespace My
open PySem PySem.Spec PyProof.Rows L2
/-! ### properties, methods and makings by name -/
structure HasP (P : Program) (w : World) (K : PySem.W.Frag) (mg : Str → Option Value) (base : Heap) (C : Addr) (m : Str) (k : Nat) (ps : List Str) (sp : Sp) : Prop where
  ex : ∃ p g fd, FnOk P w K mg base CX0 k g fd ps sp ∧ PropOf K C m p g ∧ Binds K fd ps []
structure HasC (P : Program) (w : World) (K : PySem.W.Frag) (mg : Str → Option Value) (base : Heap) (x : Str) (C : Addr) (k : Nat) (ps : List Str) (sp : Sp) : Prop where
  ex : ∃ f fd, FnOk P w K mg base CX0 k f fd ps sp ∧ Mk K C f ∧ mg x = some (.ref C) ∧ Binds K fd ps []
section
variable {X : Cx} {C : Addr} {m x : Str} {k : Nat} {ps : List Str} {sp : Sp} {e o : Expr} {es : List Expr} {p pos apos : Pos} {ta : TE} {t : TA}
theorem pe_propH (c : Cls X.K C) (h : HasP X.prog X.w X.K X.mg X.base C m k ps sp) (hr : Room (k + 1) X.A) (he : PE X e ta) (hab : attributeBase e m X.env (eval e X.env) = eval e X.env := by rfl) : PE X (.Attribute e m pos) (tProp C sp [] E0 ta) := by
  obtain ⟨p, g, fd, F, hp, b⟩ := h.ex
  exact pe_prop he c hp F hr b .nil pass0 hab
theorem pe_meth0H {pl : Sem Bool} (c : Cls X.K C) (h : HasM X.prog X.w X.K X.mg X.base C m k ps sp) (hr : Room k X.A) (he : PE X o ta)
    (ht : eval (.Call (.Attribute o m apos) [] [] pos) X.env = (do
      let ov ← eval o X.env
      standAt apos.atName
      let (f, first) ← holding [ov] (getMethod ov m pl)
      callWith pos f first (backTo pos (starEach [] X.env)) (backToKw pos (keywordEach [] X.env))) := by rfl) : PE X (.Call (.Attribute o m apos) [] [] pos) (tMeth C m sp [] E0 ta tNil) := by
  obtain ⟨f, fd, F, hm, b⟩ := h.ex
  exact pe_meth0 he c hm F hr b .nil pass0 ht
theorem pe_makeH (h : HasC X.prog X.w X.K X.mg X.base x C k ps sp) (hr : Room (k + 1) X.A) (ha : PA X (e :: es) t) (hg : Gl X x := by rfl) (hdb : (x == ("__debug__" : Str)) = false := by decide)
    (he : starEach (e :: es) X.env = (false, eval e X.env) :: starEach es X.env := by rfl) (hpl : (backTo pos (starEach es X.env)).any (·.1) = false := by rfl) : PE X (.Call (.Name x p) (e :: es) [] pos) (tMake C sp [] E0 t) := by
  obtain ⟨f, fd, F, M, hm, b⟩ := h.ex
  exact pe_make M F hr hg hm b .nil pass0 ha hdb he hpl
end
section
variable {σ : L2.St} {H : Hp} {Q : VK} {C : Addr} {m : Str} {sp : Sp} {E : XK} {ta : TE} {t : TA} {K : PySem.W.Frag} {f : Str} {R : It → Hp → Prop} {D : Ends} {te : TE}
theorem r_prop (q : ta σ H fun x H1 => ∃ a dx fs, x = .ref a ∧ H1 a = some (.ins C dx fs) ∧ sp [.ref a] H1 Q E) : tProp C sp [] E ta σ H Q := q
theorem r_meth (q : ta σ H fun x H1 => ∃ a dx fs, x = .ref a ∧ H1 a = some (.ins C dx fs) ∧ fs.lookup m = none ∧ t σ H1 fun vs H2 => sp (x :: vs) H2 Q E) : tMeth C m sp [] E ta t σ H Q := by
  unfold tMeth
  simpa only [List.append_nil] using q
theorem r_make (q : t σ H fun vs H1 => ∀ x dx, H1 x = none → H1 dx = none → dx ≠ x → sp (.ref x :: vs) (upd (upd H1 dx (.own x)) x (.ins C dx [])) (fun v H2 => v = .non ∧ Q (.ref x) H2) E) : tMake C sp [] E t σ H Q := by
  unfold tMake
  simpa only [List.append_nil] using q
theorem r_iOwn (q : ta σ H fun x H1 => ∃ a dx fs b ys, x = .ref a ∧ H1 a = some (.ins C dx fs) ∧ fs.lookup f = some (.ref b) ∧ SqT K H1 b ys ∧ R (Itt K b) H1) : iOwn K C f ta σ H R := q
theorem r_sfld (q : te σ H fun v H1 => ta σ H1 fun x H2 => ∃ a C dx fs, x = .ref a ∧ H2 a = some (.ins C dx fs) ∧ Cls K C ∧ NoAttr K C f ∧ fs.length < 1000 ∧ D.nx σ (upd H2 a (.ins C dx (putF f v fs)))) : sFld K ta te f D σ H := q
theorem r_fld (q : ta σ H fun x H1 => ∃ a C dx fs v, x = .ref a ∧ H1 a = some (.ins C dx fs) ∧ Cls K C ∧ NoAttr K C f ∧ fs.lookup f = some v ∧ Q v H1) : tFld K ta f σ H Q := q
end
theorem pe_fldK {X : Cx} {K : PySem.W.Frag} {e : Expr} {f : Str} {pos : Pos} {ta : TE} (he : PE X e ta) (h : X.K = K := by rfl) (hb : attributeBase e f X.env (eval e X.env) = eval e X.env := by rfl) : PE X (.Attribute e f pos) (tFld K ta f) := by subst h; exact pe_fld he hb
section
variable {X : Cx} {K : PySem.W.Frag} {C : Addr} {k : Nat} {ps : List Str} {sp : Sp} {fld : Str} {tg l : Expr} {tl : TE}
end
theorem pg_tupK {X : Cx} {K : PySem.W.Frag} {es : List Expr} {k : Nat} {t : TGs} {n : Nat} {pos : Pos} (hc : X.calm = true) (h : PGs X es t) (e : X.K = K := by rfl)
    (hn : (assignEach es X.env).length = n := by rfl) (hst : (assignEach es X.env).findIdx? (·.1) = none := by rfl) : PG X (.Tuple es k pos) (gTup K n t) := by subst e; exact pg_tup hc h hn hst
/-! ### polynomials -/
/-- what the text has made of the class Poly -/
structure PolyT (K : PySem.W.Frag) (mg : Str → Option Value) (C : Addr) : Prop where
  cl : Cls K C
  nR : NoAttr K C "rows"
  mgC : mg "Poly" = some (.ref C)
  self : PySem.W.selfFirst K C = true
  mro : PySem.W.plainMro K C = true
  ca : PySem.W.findIn K (.ref C) "__class__" = some (some (.builtin "object.__class__"))
  cn : PySem.W.specialIn K (.builtin "object.__class__") "__get__" = some (some (.builtin "getset_descriptor.__get__"))
  ct : PySem.W.takesIn K (.builtin "object.__class__") = some true
  cm : PySem.W.mroIn K C (.type "object") = some true
  cs : ∃ cd, PySem.W.clsIn K C = some cd
  ty : PySem.W.typeIn K (.ref C) = some (.type "type")
  sInt : PySem.W.subIn K (.type "int") (.ref C) = some false
  sBool : PySem.W.subIn K (.type "bool") (.ref C) = some false
  sStr : PySem.W.subIn K (.type "str") (.ref C) = some false
  sList : PySem.W.subIn K (.type "list") (.ref C) = some false
  sTup : PySem.W.subIn K (.type "tuple") (.ref C) = some false
  sNone : PySem.W.subIn K (.type "NoneType") (.ref C) = some false
  tInt : PySem.W.subIn K (.ref C) (.type "int") = some false
  tBool : PySem.W.subIn K (.ref C) (.type "bool") = some false
  tList : PySem.W.subIn K (.ref C) (.type "list") = some false
  tTup : PySem.W.subIn K (.ref C) (.type "tuple") = some false
theorem kit_no {K : PySem.W.Frag} {C : Addr} {t : Value} (cs : ∃ cd, PySem.W.clsIn K C = some cd) (ty : PySem.W.typeIn K (.ref C) = some (.type "type")) (s : PySem.W.subIn K t (.ref C) = some false) (ne : (t == .ref C) = false) : PySem.W.kitOne K t (.ref C) = some false := by
  obtain ⟨cd, e⟩ := cs
  unfold PySem.W.kitOne PySem.W.kitCls
  rw [ne, if_neg Bool.false_ne_true]
  show (if ((PySem.W.clsIn K C).isSome && PySem.W.typeIn K (.ref C) == some (.type "type")) = true then PySem.W.subIn K t (.ref C) else none) = some false
  rw [e, ty, if_pos (by simp)]
  exact s
theorem kit_self {K : PySem.W.Frag} {C : Addr} : PySem.W.kitOne K (.ref C) (.ref C) = some true := by
  unfold PySem.W.kitOne
  rw [if_pos (beq_self_eq_true _)]
/-- a polynomial with these terms -/
def PolyAt (C : Addr) (H : Hp) (a : Addr) (ts : Terms) : Prop := ∃ dx r vs, H a = some (.ins C dx [("rows", .ref r)]) ∧ H r = some (.tup vs) ∧ TermsL H vs ts ∧ Canon ts
theorem rows_look {v : V} : ([(("rows" : Str), v)] : List (Str × V)).lookup ("rows" : Str) = some v := by simp [List.lookup]
/-- what is neither a list nor a dict stays -/
def Stay (H H' : Hp) : Prop := ∀ c o, (∀ xs, o ≠ .lst xs) → (∀ kvs, o ≠ .dK kvs) → H c = some o → H' c = some o
theorem Stay.tk {H H' : Hp} (s : Stay H H') : Tk H H' := fun c xs e => s c _ (by intro _ z; cases z) (by intro _ z; cases z) e
theorem Stay.same {H H' : Hp} (s : Same H H') : Stay H H' := fun c o _ _ e => s c o e
theorem Stay.but {H H' : Hp} {a : Addr} {xs : List V} (b : But a H H') (h : H a = some (.lst xs)) : Stay H H' := fun c o n _ e => b c o (by rintro rfl; rw [h] at e; cases e; exact n _ rfl) e
theorem Stay.bag {H H' : Hp} {a : Addr} (b : But a H H') (h : Bag H a) : Stay H H' := let ⟨_, _, _, e, _⟩ := h; Stay.but b e
theorem Stay.trans {H H1 H2 : Hp} (s : Stay H H1) (t : Stay H1 H2) : Stay H H2 := fun c o n m e => t c o n m (s c o n m e)
theorem Stay.refl (H : Hp) : Stay H H := fun _ _ _ _ e => e
theorem Stay.new {H H' : Hp} {p : Addr} {o : HO} (h : Stay H H') (n : H' p = none) : Stay H (upd H' p o) := fun c u x y e => h_keep (h c u x y e) n
theorem Stay.lst {H H' : Hp} {p : Addr} {l : List V} {o : HO} (h : Stay H H') (n : H' p = some (.lst l)) : Stay H (upd H' p o) := fun c u x y e => by
  have q := h c u x y e
  refine (upd_ne ?_).trans q
  rintro rfl
  rw [n] at q
  cases q
  exact x _ rfl
theorem PolyAt.stay {C : Addr} {H H' : Hp} {a : Addr} {ts : Terms} (h : PolyAt C H a ts) (s : Stay H H') : PolyAt C H' a ts := let ⟨dx, r, vs, h1, h2, h3, h4⟩ := h; ⟨dx, r, vs, s _ _ (by intro _ z; cases z) (by intro _ z; cases z) h1, s.tk _ _ h2, h3.tk s.tk, h4⟩
theorem PolyAt.same {C : Addr} {H H' : Hp} {a : Addr} {ts : Terms} (h : PolyAt C H a ts) (s : Same H H') : PolyAt C H' a ts := h.stay (.same s)
section
variable {K : PySem.W.Frag} {mg : Str → Option Value} {C : Addr} {H : Hp} {Q : VK} {a : Addr} {ts : Terms}
theorem ty_poly (T : PolyT K mg C) {dx : Addr} {fs : List (Str × V)} (h : H a = some (.ins C dx fs)) : TyX K H (.ref a) (.ref C) := .base (.ins h T.cl T.ca T.cn T.ct T.cm)
theorem r_isPoly (T : PolyT K mg C) {dx : Addr} {fs : List (Str × V)} (h : H a = some (.ins C dx fs)) (q : Q (.bl true) H) : rIsi K [.ref a, .ref C] H Q := ⟨_, _, _, _, true, rfl, .own C, ty_poly T h, kit_self, q⟩
theorem r_isPolyI (T : PolyT K mg C) {i : Int} (q : Q (.bl false) H) : rIsi K [.int i, .ref C] H Q := ⟨_, _, _, _, false, rfl, .own C, ty_int, kit_no T.cs T.ty T.sInt rfl, q⟩
theorem kit_bi {K : PySem.W.Frag} {C : Addr} {t : String} (m : PySem.W.kitMeta t = true) (s : PySem.W.subIn K (.ref C) (.type t) = some false) : PySem.W.kitOne K (.ref C) (.type t) = some false := by
  unfold PySem.W.kitOne PySem.W.kitCls
  rw [if_neg (by simp)]
  show (if PySem.W.kitMeta t = true then PySem.W.subIn K (.ref C) (.type t) else none) = some false
  rw [if_pos m]
  exact s
theorem r_polyInt (T : PolyT K mg C) {dx : Addr} {fs : List (Str × V)} (h : H a = some (.ins C dx fs)) (q : Q (.bl false) H) : rIsi K [.ref a, .ty "int"] H Q := ⟨_, _, _, _, false, rfl, .ty _, ty_poly T h, kit_bi (by decide +kernel) T.tInt, q⟩
end
theorem u_rowsAt {K : PySem.W.Frag} {mg : Str → Option Value} {C : Addr} {H : Hp} {a : Addr} {dx : Addr} {fv : V} (T : PolyT K mg C) (h : H a = some (.ins C dx [("rows", fv)])) {R : V → Prop} (q : R fv) :
    ∃ b D dx fs v, V.ref a = .ref b ∧ H b = some (.ins D dx fs) ∧ Cls K D ∧ NoAttr K D "rows" ∧ fs.lookup ("rows" : Str) = some v ∧ R v := ⟨a, C, dx, _, fv, rfl, h, T.cl, T.nR, rows_look, q⟩
def negT (ts : Terms) : Terms := ts.map fun p => (p.1, -p.2)
def mirT (ts : Terms) : Terms := ts.map fun p => (-p.1, p.2)
def shiftT (n : Int) (ts : Terms) : Terms := ts.map fun p => (p.1 + n, p.2)
theorem cof_neg : ∀ (ts : Terms) (k : Int), cof (negT ts) k = -cof ts k
  | [], k => rfl
  | p :: ts, k => by
    show (if p.1 = k then -p.2 else 0) + cof (negT ts) k = -((if p.1 = k then p.2 else 0) + cof ts k)
    rw [cof_neg ts k]
    split <;> omega
theorem cof_mir : ∀ (ts : Terms) (k : Int), cof (mirT ts) k = cof ts (-k)
  | [], k => rfl
  | p :: ts, k => by
    show (if -p.1 = k then p.2 else 0) + cof (mirT ts) k = (if p.1 = -k then p.2 else 0) + cof ts (-k)
    rw [cof_mir ts k]
    by_cases h : p.1 = -k
    · rw [if_pos h, if_pos (by omega)]
    · rw [if_neg h, if_neg (by omega)]
theorem cof_shift (n : Int) : ∀ (ts : Terms) (k : Int), cof (shiftT n ts) k = cof ts (k - n)
  | [], k => rfl
  | p :: ts, k => by
    show (if p.1 + n = k then p.2 else 0) + cof (shiftT n ts) k = (if p.1 = k - n then p.2 else 0) + cof ts (k - n)
    rw [cof_shift n ts k]
    by_cases h : p.1 = k - n
    · rw [if_pos h, if_pos (by omega)]
    · rw [if_neg h, if_neg (by omega)]
/-! ### promises -/
def spIsTerm : Sp := fun vs H Q _ => ∃ (p : Addr) (x y : Int), vs = [.ref p] ∧ H p = some (.tup [.int x, .int y]) ∧ Q (.bl true) H
def spSummed : Sp := fun vs H Q _ => ∃ (l : Addr) (ts : Terms), vs = [.ref l] ∧ TermsAt H l ts ∧ ts.length ≤ 90000 ∧
  ∀ r us ws H', H r = none → Same H H' → H' r = some (.tup ws) → TermsL H' ws us → Canon us → (∀ k, cof us k = cof ts k) → us.length ≤ ts.length → Q (.ref r) H'
def spInit (C : Addr) : Sp := fun vs H Q _ => ∃ (x dx l : Addr) (ts : Terms), vs = [.ref x, .ref l] ∧ H x = some (.ins C dx []) ∧ TermsAt H l ts ∧ ts.length ≤ 90000 ∧
  ∀ us H', But x H H' → PolyAt C H' x us → (∀ k, cof us k = cof ts k) → us.length ≤ ts.length → Q .non H'
/-- Poly(..) -/
theorem u_poly {C : Addr} {H : Hp} {R : Addr → Hp → Prop} {E : XK} {l : Addr} {ts : Terms} (h : TermsAt H l ts) (hn : ts.length ≤ 90000) (q : ∀ a us H', H a = none → Same H H' → PolyAt C H' a us → (∀ k, cof us k = cof ts k) → us.length ≤ ts.length → R a H') :
    ∀ x dx, H x = none → H dx = none → dx ≠ x → spInit C [.ref x, .ref l] (upd (upd H dx (.own x)) x (.ins C dx [])) (fun v H2 => v = .non ∧ R x H2) E := by
  intro x dx nx ndx ne
  have s1 : Same H (upd (upd H dx (.own x)) x (.ins C dx [])) := Same.put (Same.new0 ndx) nx
  refine ⟨x, dx, l, ts, rfl, upd_same, h.same s1, hn, fun us H' b hp hc hl => ⟨rfl, ?_⟩⟩
  exact q x us H' nx (Same.but2 s1 nx b) hp hc hl
/-- v stands for the polynomial with the numbers c: a Poly, or an int -/
def IsVal (C : Addr) (H : Hp) (v : V) (c : Int → Int) (n : Nat) : Prop := (∃ a ts, v = .ref a ∧ PolyAt C H a ts ∧ (∀ k, cof ts k = c k) ∧ ts.length ≤ n) ∨ (∃ i, v = .int i ∧ (∀ k, c k = if k = 0 then i else 0) ∧ 1 ≤ n)
theorem IsVal.same {C : Addr} {H H' : Hp} {v : V} {c : Int → Int} {n : Nat} (h : IsVal C H v c n) (s : Same H H') : IsVal C H' v c n := by
  rcases h with ⟨a, ts, e, ha, r⟩ | h
  · exact .inl ⟨a, ts, e, ha.same s, r⟩
  · exact .inr h
/-- a def of one polynomial that gives a new one -/
def spPoly1 (C : Addr) (f : Terms → Int → Int) : Sp := fun vs H Q _ => ∃ a ts, vs = [.ref a] ∧ PolyAt C H a ts ∧ ts.length ≤ 90000 ∧ ∀ b us H', Same H H' → PolyAt C H' b us → (∀ k, cof us k = f ts k) → us.length ≤ ts.length → Q (.ref b) H'
def spGetTerms (C : Addr) : Sp := fun vs H Q _ => ∃ a ts, vs = [.ref a] ∧ PolyAt C H a ts ∧ ∀ l H', H l = none → Same H H' → TermsAt H' l ts → Q (.ref l) H'
def spanOf (ts : Terms) : Int := match ts.head?, ts.getLast? with | some p, some q => q.1 - p.1 | _, _ => 0
def spPLen (C : Addr) : Sp := fun vs H Q _ => ∃ a ts, vs = [.ref a] ∧ PolyAt C H a ts ∧ Q (.int ts.length) H
end My

set_option Elab.async false
set_option linter.all false
set_option maxRecDepth 100000
namespace My
open PySem PySem.Spec PyProof.Rows L2
/-! ### for k in d: the dict is locked meanwhile -/
section
variable {σ : L2.St} {H : Hp} {Q : VK} {K : PySem.W.Frag} {td te : TE} {D : Ends} {t tb : TS} {g : TG} {R : It → Hp → Prop}
theorem r_iKeys (q : td σ H fun x H1 => ∃ d o, x = .ref d ∧ ((∃ kvs, H1 d = some (.frz o (.dK kvs)) ∧ R (Itk d o kvs) H1) ∨ ∃ kvs, H1 d = some (.frz o (.dT kvs)) ∧ R (Itkt d o kvs) H1)) : iKeys td σ H R := q
theorem u_keys {d : Addr} {od : Obj} {kvs : List (Key × V)} (I : Nat → L2.St → Hp → Prop) (h0 : I 0 σ H) (hl : ∀ i σ H, I i σ H → H d = some (.frz od (.dK kvs)))
    (hs : ∀ i k v σ H, kvs[i]? = some (k, v) → I i σ H → g (kV k) σ H fun σ2 H2 => tb { D with nx := I (i + 1), ct := I (i + 1), bk := D.nx } σ2 H2) (hd : ∀ σ H, I kvs.length σ H → D.nx σ H) :
    ∃ W : Nat → Nat → L2.St → Hp → Prop, (∃ m, W 0 m σ H) ∧ ∀ i m σ H, W i m σ H →
      ((Itk d od kvs).stop i H ∧ D.nx σ H) ∨ ((Itk d od kvs).go i H ∧ ∃ N : L2.St → Hp → Prop, (∀ σ' H', N σ' H' → ∃ m', m' < m ∧ W (i + 1) m' σ' H') ∧ ∀ x H', (Itk d od kvs).yld i H x H' → g x σ H' fun σ2 H2 => tb { D with nx := N, ct := N, bk := D.nx } σ2 H2) := by
  refine ⟨fun i m σ' H' => m = kvs.length - i ∧ i ≤ kvs.length ∧ I i σ' H', ⟨kvs.length, rfl, Nat.zero_le _, h0⟩, ?_⟩
  rintro i m σ' H' ⟨rfl, hi, ir⟩
  by_cases hlt : i < kvs.length
  · refine .inr ⟨⟨hl _ _ _ ir, hlt⟩, I (i + 1), fun σ2 H2 q => ⟨_, by omega, rfl, hlt, q⟩, fun x H2 hy => ?_⟩
    obtain ⟨rfl, k, v, e, rfl⟩ := hy
    exact hs i k v _ _ e ir
  · have e : i = kvs.length := by omega
    subst e
    exact .inl ⟨⟨hl _ _ _ ir, Nat.le_refl _⟩, hd _ _ ir⟩
end
/-- the jar at a, locked by a walk -/
def JarFz (H : Hp) (a : Addr) (od : Obj) (kvs : List (Key × V)) : Prop := H a = some (.frz od (.dK kvs))
theorem JarFz.dget {H : Hp} {a : Addr} {od : Obj} {kvs : List (Key × V)} {k : Int} (h : H a = some (.frz od (.dK kvs))) (hk : JarK kvs) (m : Sum.inl k ∈ kvs.map (·.1)) : DGet H a (.int k) (some (.int (cfK kvs k))) :=
  .inl ⟨kvs, .inl k, .inr ⟨od, h⟩, rfl, (hk.some m).symm⟩
/-! ### promises of the law's defs -/
theorem atI_nil_of {xs : List V} {n : Int} {i : Nat} {x : V} (h0 : n = (i : Int)) (h : xs[i]? = some x) : atI xs n = some x := by
  subst h0
  obtain ⟨hi, _⟩ := List.getElem?_eq_some_iff.mp h
  unfold atI ixN
  rw [if_pos (by omega), if_pos (by omega)]
  exact h
end My

set_option Elab.async false
set_option linter.all false
set_option maxRecDepth 100000
namespace My
open PySem PySem.Spec PyProof.Rows L2
theorem TermsL.take {H : Hp} : ∀ {vs : List V} {ts : Terms} (n : Nat), TermsL H vs ts → TermsL H (vs.take n) (ts.take n)
  | [], ts, n, h => by rw [show ts = [] from h]; simp; rfl
  | _ :: _, _, 0, _ => by simp; rfl
  | v :: vs, _, n + 1, ⟨b, p, us, e1, e2, e3, e4⟩ => by
    rw [e1, List.take_succ_cons, List.take_succ_cons]
    exact ⟨b, p, us.take n, rfl, e2, e3, e4.take n⟩
theorem TermsL.drop {H : Hp} : ∀ {vs : List V} {ts : Terms} (n : Nat), TermsL H vs ts → TermsL H (vs.drop n) (ts.drop n)
  | [], ts, n, h => by rw [show ts = [] from h]; simp; rfl
  | _ :: _, _, 0, h => h
  | v :: vs, _, n + 1, ⟨b, p, us, e1, e2, e3, e4⟩ => by
    rw [e1, List.drop_succ_cons, List.drop_succ_cons]
    exact e4.drop n
theorem TermsL.mem {H : Hp} {vs : List V} {ts : Terms} (h : TermsL H vs ts) : ∀ x ∈ vs, ∃ (b : Addr) (p : Int × Int), x = .ref b ∧ H b = some (.tup [.int p.1, .int p.2]) := by
  intro x hx
  obtain ⟨i, hi⟩ := List.getElem?_of_mem hx
  obtain ⟨b, p, e1, e2, e3⟩ := h.at i hi
  exact ⟨b, p, e1, e3⟩
theorem cut_drop (xs : List V) (n : Nat) : cutV xs (some (n : Int)) none = xs.drop n := by
  unfold cutV
  rw [HT.sIx_none, HT.sIx_nat]
  by_cases h : n ≤ xs.length
  · rw [Nat.min_eq_left h, List.take_of_length_le (by rw [List.length_drop]; omega)]
  · rw [Nat.min_eq_right (by omega), List.drop_eq_nil_of_le (Nat.le_refl _), List.take_nil, List.drop_eq_nil_of_le (by omega)]
theorem cut_dropI {xs : List V} {m : Int} (h : 0 ≤ m) : cutV xs (some m) none = xs.drop m.toNat := by
  have := cut_drop xs m.toNat
  rw [Int.toNat_of_nonneg h] at this
  exact this
end My

set_option Elab.async false
set_option linter.all false
set_option maxRecDepth 100000
namespace My
open PySem PySem.Spec PyProof.Rows L2
theorem JarAt.nb {H : Hp} {a b : Addr} {n : Nat} {c : Int → Int} (h : JarAt H a n c) (hb : Bag H b) : a ≠ b := by
  rintro rfl
  obtain ⟨_, e, _⟩ := h
  obtain ⟨_, _, _, e', _⟩ := hb
  rw [e] at e'
  cases e'
theorem JarAt.bag {H H' : Hp} {a b : Addr} {n : Nat} {c : Int → Int} (h : JarAt H a n c) (s : But b H H') (hb : Bag H b) : JarAt H' a n c := h.but (h.nb hb) s
theorem PolyAt.bag {C : Addr} {H H' : Hp} {a b : Addr} {ts : Terms} (h : PolyAt C H a ts) (s : But b H H') (hb : Bag H b) : PolyAt C H' a ts := h.stay (.bag s hb)
/-- a pair of what was found and the jar that is due -/
def DueAt (C : Addr) (H : Hp) (x : V) : Prop := ∃ (t b d : Addr) (ts : Terms) (n : Nat) (c : Int → Int), x = .ref t ∧ H t = some (.tup [.ref b, .ref d]) ∧ PolyAt C H b ts ∧ JarAt H d n c ∧ (∀ k, cof ts k = c k) ∧ n ≤ 90000 ∧ ts.length ≤ 90000
theorem DueAt.same {C : Addr} {H H' : Hp} {x : V} (h : DueAt C H x) (s : Same H H') : DueAt C H' x := by
  obtain ⟨t, b, d, ts, n, c, e, h1, h2, h3, h4⟩ := h
  exact ⟨t, b, d, ts, n, c, e, s _ _ h1, h2.same s, h3.same s, h4⟩
def DuesL (C : Addr) (H : Hp) (a : Addr) (m : Nat) : Prop := ∃ xs, H a = some (.lst xs) ∧ xs.length = m ∧ ∀ x ∈ xs, DueAt C H x
theorem DuesL.same {C : Addr} {H H' : Hp} {a : Addr} {m : Nat} (h : DuesL C H a m) (s : Same H H') : DuesL C H' a m := by
  obtain ⟨xs, e, h1, h2⟩ := h
  exact ⟨xs, s _ _ e, h1, fun x hx => (h2 x hx).same s⟩
def one0 (i : Int) : Int → Int := fun k => if k = 0 then i else 0
/-- two jars, two polynomials and the jar of one number -/
structure Five (C : Addr) (H : Hp) (j p f one two : Addr) (n1 n2 : Nat) (c1 c2 : Int → Int) (co : Int) (o1 o2 : Terms) : Prop where
  j : JarAt H j n1 c1
  p : JarAt H p n2 c2
  f : JarAt H f 1 (one0 co)
  one : PolyAt C H one o1
  two : PolyAt C H two o2
theorem Five.same {C : Addr} {H H' : Hp} {j p f one two : Addr} {n1 n2 : Nat} {c1 c2 : Int → Int} {co : Int} {o1 o2 : Terms} (h : Five C H j p f one two n1 n2 c1 c2 co o1 o2) (s : Same H H') : Five C H' j p f one two n1 n2 c1 c2 co o1 o2 :=
  ⟨h.j.same s, h.p.same s, h.f.same s, h.one.same s, h.two.same s⟩
section
variable {σ : L2.St} {H : Hp} {Q : VK} {td ty tk tv : TE} {trs : List (TE × TE)}
theorem rl_disp (q : ∀ p, H p = none → tPairs trs σ (upd H p (.dK [])) fun ps H2 => H2 p = some (.dK []) ∧ ∃ kvs : List (Key × V), ps = kvs.map (fun kv => (kV kv.1, kv.2)) ∧ kvs.length ≤ 15 ∧ Q (.ref p) (upd H2 p (.dK (mergeK [] kvs)))) : tDisp trs σ H Q := q
theorem rl_pc {R : List (V × V) → Hp → Prop} (q : tk σ H fun x H1 => tv σ H1 fun y H2 => tPairs trs σ H2 fun ps H3 => R ((x, y) :: ps) H3) : tPairs ((tk, tv) :: trs) σ H R := q
theorem rl_pn {R : List (V × V) → Hp → Prop} (q : R [] H) : tPairs [] σ H R := q
end
end My

set_option Elab.async false
set_option linter.all false
set_option maxRecDepth 100000
namespace My
open PySem PySem.Spec PyProof.Rows L2
/-! ### comprehensions with two loops -/
section
variable {K : PySem.W.Frag} {a p : Addr} {xs : List V} {σ : L2.St} {H : Hp} {D : Addr} {g : TG} {tt : TT} {vs : List Nat}
theorem r_lc2 {Q : VK} {wi wi1 : TI} {g1 : TG} {tt1 : TT} {te : TE} {vs1 : List Nat} (q : wi σ H fun J H1 => ∀ D, H1 D = none → ∃ W : Nat → Nat → Hp → Prop, (∃ m, W 0 m (upd H1 D (.lst []))) ∧ ∀ i m H, W i m H →
  (J.stop i H ∧ Q (.ref D) H) ∨ (J.go i H ∧ ∃ Nx : Hp → Prop, (∀ H', Nx H' → ∃ m', m' < m ∧ W (i + 1) m' H') ∧ ∀ x H', J.yld i H x H' → g x (wipe σ vs) H' fun σ2 H2 => wipe σ2 vs = wipe σ vs ∧ tt σ2 H2 fun b H3 =>
    if b = true then wi1 σ2 H3 fun J1 H4 => ∃ W1 : Nat → Nat → Hp → Prop, (∃ m, W1 0 m H4) ∧ ∀ j k H, W1 j k H →
      (J1.stop j H ∧ Nx H) ∨ (J1.go j H ∧ ∃ Nx1 : Hp → Prop, (∀ H', Nx1 H' → ∃ k', k' < k ∧ W1 (j + 1) k' H') ∧ ∀ x H', J1.yld j H x H' → g1 x (wipe σ2 vs1) H' fun σ3 H5 => wipe σ3 vs1 = wipe σ2 vs1 ∧ tt1 σ3 H5 fun b H6 =>
        if b = true then te σ3 H6 fun y H7 => ∃ acc, H7 D = some (.lst acc) ∧ acc.length < sizeLine ∧ Nx1 (upd H7 D (.lst (acc ++ [y]))) else Nx1 H6)
    else Nx H3)) : tLc2 wi g tt wi1 g1 tt1 te vs vs1 σ H Q := q
end
end My

set_option Elab.async false
set_option linter.all false
set_option maxRecDepth 100000
namespace My
open PySem PySem.Spec PyProof.Rows L2
/-! ### products of polynomials, power by power -/
def cmul : Terms → (Int → Int) → Int → Int
  | [], _, _ => 0
  | p :: ts, d, k => p.2 * d (k - p.1) + cmul ts d k
theorem cmul_extr : ∀ (ts : Terms) {d e : Int → Int} (k : Int), (∀ k, d k = e k) → cmul ts d k = cmul ts e k
  | [], _, _, _, _ => rfl
  | p :: ts, d, e, k, h => by rw [cmul, cmul, h, cmul_extr ts k h]
theorem cmul_zero : ∀ (ts : Terms) (k : Int), cmul ts (fun _ => 0) k = 0
  | [], _ => rfl
  | p :: ts, k => by rw [cmul, cmul_zero ts k]; simp
theorem cmul_add : ∀ (ts : Terms) (d e : Int → Int) (k : Int), cmul ts (fun k => d k + e k) k = cmul ts d k + cmul ts e k
  | [], _, _, _ => rfl
  | p :: ts, d, e, k => by rw [cmul, cmul, cmul, cmul_add ts d e k, Int.mul_add]; omega
theorem cmul_delta (q v : Int) : ∀ (ts : Terms) (k : Int), cmul ts (fun k => if q = k then v else 0) k = v * cof ts (k - q)
  | [], k => by rw [cmul, cof]; simp
  | p :: ts, k => by
    rw [cmul, cof, cmul_delta q v ts k, Int.mul_add]
    by_cases h : q = k - p.1
    · rw [if_pos h, if_pos (by omega), Int.mul_comm]
    · rw [if_neg h, if_neg (by omega)]; simp
theorem cmul_comm (ts : Terms) : ∀ (us : Terms) (k : Int), cmul ts (cof us) k = cmul us (cof ts) k
  | [], k => by
    rw [cmul, show (cof [] : Int → Int) = fun _ => 0 from funext fun k => by rw [cof]]
    exact cmul_zero ts k
  | q :: us, k => by
    rw [cmul, ← cmul_comm ts us k, ← cmul_delta q.1 q.2 ts k, ← cmul_add]
    exact cmul_extr ts k fun j => by rw [cof]
theorem cmul_ext {ts ts' us us' : Terms} (h : ∀ k, cof ts k = cof ts' k) (h' : ∀ k, cof us k = cof us' k) (k : Int) : cmul ts (cof us) k = cmul ts' (cof us') k := by
  rw [cmul_extr ts k h', cmul_comm, cmul_extr us' k h, cmul_comm]
open Classical in
/-- the product of two families of numbers (of finitely many that are not 0) -/
noncomputable def mulF (c d : Int → Int) (k : Int) : Int := if h : ∃ ts : Terms, ∀ k, cof ts k = c k then cmul h.choose d k else 0
theorem mulF_of {c d : Int → Int} {ts us : Terms} (h : ∀ k, cof ts k = c k) (h' : ∀ k, cof us k = d k) (k : Int) : mulF c d k = cmul ts (cof us) k := by
  have hx : ∃ ts : Terms, ∀ k, cof ts k = c k := ⟨ts, h⟩
  rw [mulF, dif_pos hx, ← cmul_extr hx.choose k h']
  exact cmul_ext (fun j => (hx.choose_spec j).trans (h j).symm) (fun _ => rfl) k
def rowT (p : Int × Int) (us : Terms) : Terms := us.map fun q => (p.1 + q.1, p.2 * q.2)
def prodT : Terms → Terms → Terms
  | [], _ => []
  | p :: ts, us => rowT p us ++ prodT ts us
theorem cof_row (p : Int × Int) : ∀ (us : Terms) (k : Int), cof (rowT p us) k = p.2 * cof us (k - p.1)
  | [], k => by rw [rowT, List.map_nil, cof, cof]; simp
  | q :: us, k => by
    have e : rowT p (q :: us) = (p.1 + q.1, p.2 * q.2) :: rowT p us := rfl
    rw [e, cof, cof, cof_row p us k, Int.mul_add]
    show (if p.1 + q.1 = k then p.2 * q.2 else 0) + _ = _
    by_cases h : q.1 = k - p.1
    · rw [if_pos h, if_pos (by omega)]
    · rw [if_neg h, if_neg (by omega)]; simp
theorem cof_prod : ∀ (ts us : Terms) (k : Int), cof (prodT ts us) k = cmul ts (cof us) k
  | [], _, _ => rfl
  | p :: ts, us, k => by rw [prodT, cof_app, cof_row, cof_prod ts us k, cmul]
/-! ### how great the numbers are -/
theorem Canon.at : ∀ {ts : Terms} {p : Int × Int}, Canon ts → p ∈ ts → cof ts p.1 = p.2 := by
  intro ts
  induction ts with
  | nil => intro p _ hp; exact absurd hp (by simp)
  | cons q ts ih =>
    intro p hc hp
    rcases List.mem_cons.mp hp with rfl | hp
    · exact hc.head
    · rw [cof, ih hc.tail hp]
      have h1 := (List.pairwise_cons.mp hc.asc).1 p hp
      rw [if_neg (by omega), Int.zero_add]
theorem Canon.tight {ts l : Terms} (h : Canon ts) (e : ∀ k, cof ts k = cof l k) : ts.length ≤ l.length := by
  refine h.le_len fun p hp => ?_
  have h1 := h.at hp
  have h2 := h.nz p hp
  rw [e] at h1
  refine Decidable.byContradiction fun hn => h2 (h1.symm.trans (cof_none fun q hq hk => hn (List.mem_map.mpr ⟨q, hq, hk⟩)))
theorem Canon.num {ts : Terms} {B : Nat} (h : Canon ts) (b : ∀ k, (cof ts k).natAbs ≤ B) : ∀ p ∈ ts, p.2.natAbs ≤ B := fun p hp => by rw [← h.at hp]; exact b _
/-- small enough to be multiplied -/
def Sm (c : Int → Int) : Prop := ∀ k, (c k).natAbs < 2 ^ 100000
end My

set_option Elab.async false
set_option linter.all false
set_option maxRecDepth 100000
namespace My
open PySem PySem.Spec PyProof.Rows L2
section
variable {σ : L2.St} {H : Hp} {g : TG} {tt : TT} {te : TE} {vs : List Nat}
end
/-- a jar by its keys -/
theorem JarAt.list {H : Hp} {a : Addr} {n : Nat} {c : Int → Int} (h : JarAt H a n c) : ∃ (kvs : List (Key × V)) (ks : List Int), H a = some (.dK kvs) ∧ JarK kvs ∧ kvs.map (·.1) = ks.map Sum.inl ∧ ks.length ≤ n ∧ (∀ k, cfK kvs k = c k) ∧ ∀ k, cof (ks.map fun q => (q, c q)) k = c k := by
  obtain ⟨kvs, e, hk, hl, hc⟩ := h
  obtain ⟨ks, ek, nd, kz, kl⟩ := hk.keys
  refine ⟨kvs, ks, e, hk, ek, by omega, hc, fun k => ?_⟩
  have key : ∀ (ls : List Int), ls.Nodup → ∀ k, cof (ls.map fun q => (q, c q)) k = if k ∈ ls then c k else 0 := by
    intro ls
    induction ls with
    | nil => intro _ k; rfl
    | cons l ls ih =>
      intro nd k
      have nd' := List.nodup_cons.mp nd
      rw [List.map_cons, cof, ih nd'.2 k]
      by_cases e : l = k
      · subst e; rw [if_pos rfl, if_neg nd'.1, if_pos (by simp)]; omega
      · rw [if_neg e]
        by_cases m : k ∈ ls
        · rw [if_pos m, if_pos (by simp [m])]; omega
        · rw [if_neg m, if_neg (by simp only [List.mem_cons, m, or_false]; exact fun z => e z.symm)]; rfl
  rw [key ks nd k]
  by_cases m : k ∈ ks
  · rw [if_pos m]
  · rw [if_neg m, ← hc]; exact (kz k m).symm
/-- a Poly of a jar's numbers has no more terms than the jar -/
theorem Canon.jar {H : Hp} {a : Addr} {n : Nat} {c : Int → Int} {ts : Terms} (h : JarAt H a n c) (hc : Canon ts) (e : ∀ k, cof ts k = c k) : ts.length ≤ n := by
  obtain ⟨kvs, ks, _, _, _, hl, _, hf⟩ := h.list
  exact Nat.le_trans (hc.tight fun k => (e k).trans (hf k).symm) (by rw [List.length_map]; exact hl)
end My

set_option Elab.async false
set_option linter.all false
set_option maxRecDepth 100000
namespace My
open PySem PySem.Spec PyProof.Rows L2
section
variable {C : Addr} {H : Hp} {Q : VK} {E : XK} {a b : Addr} {ts us : Terms} {σ : L2.St} {m : Str}
theorem rows_none {α : Type} {v : α} {m : Str} (h : (m == ("rows" : Str)) = false) : List.lookup m [(("rows" : Str), v)] = none := by rw [List.lookup, h]; rfl
/-- o.m() -/
theorem u_meth0 {sp : Sp} (h : PolyAt C H a ts) (hm : (m == ("rows" : Str)) = false) (q : sp [.ref a] H Q E) : ∃ a' dx fs, V.ref a = .ref a' ∧ H a' = some (.ins C dx fs) ∧ fs.lookup m = none ∧ tNil σ H fun vs H2 => sp (.ref a :: vs) H2 Q E := by
  obtain ⟨dx, r, vs, g1, _⟩ := id h
  exact ⟨a, dx, _, rfl, g1, rows_none hm, q⟩
theorem u_poly1 {f : Terms → Int → Int} (h : PolyAt C H a ts) (hn : ts.length ≤ 90000) (q : ∀ b us H', Same H H' → PolyAt C H' b us → (∀ k, cof us k = f ts k) → us.length ≤ ts.length → Q (.ref b) H') : spPoly1 C f [.ref a] H Q E := ⟨a, ts, rfl, h, hn, q⟩
theorem JarAt.mono {H : Hp} {a : Addr} {n m : Nat} {c : Int → Int} (h : JarAt H a n c) (l : n ≤ m) : JarAt H a m c := let ⟨kvs, e, r1, r2, r3⟩ := h; ⟨kvs, e, r1, Nat.le_trans r2 l, r3⟩
end
end My

set_option Elab.async false
set_option linter.all false
set_option maxRecDepth 100000
namespace My
open PySem PySem.Spec PyProof.Rows L2
/-! ### powers -/
theorem JarAt.upd {H : Hp} {a b : Addr} {n : Nat} {c : Int → Int} {o : HO} (h : JarAt H a n c) (ne : a ≠ b) : JarAt (upd H b o) a n c := let ⟨kvs, e, r⟩ := h; ⟨kvs, (upd_ne ne).trans e, r⟩
end My

set_option Elab.async false
set_option linter.all false
set_option maxRecDepth 100000
set_option maxHeartbeats 2000000
namespace My
open PySem PySem.Spec PyProof.Rows L2
/-! ### rows of plain commands with headings within bounds -/
namespace Prog
def wayIn (f : Int) : Int → Prog → Prop
  | _, .nil => True
  | h, .step _ _ r => wayIn f h r
  | h, .turn k r => (-f ≤ h + k ∧ h + k ≤ f) ∧ wayIn f (h + k) r
  | _, .rep _ _ _ => False
  | _, .mir _ _ => False
theorem wayIn_app {f : Int} : ∀ {p q : Prog} {h : Int}, wayIn f h p → wayIn f (h + p.head) q → wayIn f h (p.app q)
  | .nil, q, h, _, h2 => by rw [head, Int.add_zero] at h2; exact h2
  | .step w m r, q, h, h1, h2 => wayIn_app (p := r) h1 (by rw [head] at h2; exact h2)
  | .turn k r, q, h, h1, h2 => ⟨h1.1, wayIn_app (p := r) h1.2 (by rw [head, ← Int.add_assoc] at h2; exact h2)⟩
  | .rep k b r, q, h, h1, _ => h1.elim
  | .mir b r, q, h, h1, _ => h1.elim
end Prog
/-! ### numbers by powers, from 0 on -/
theorem cmul_neg {c d : Int → Int} (hc : ∀ k, k < 0 → c k = 0) (hd : ∀ k, k < 0 → d k = 0) : ∀ (ks : List Int) (k : Int), k < 0 → cmul (ks.map fun q => (q, c q)) d k = 0
  | [], k, _ => rfl
  | q :: ks, k, hk => by
    rw [List.map_cons, cmul, cmul_neg hc hd ks k hk, Int.add_zero]
    show c q * d (k - q) = 0
    by_cases hq : q < 0
    · rw [hc q hq, Int.zero_mul]
    · rw [hd _ (by omega), Int.mul_zero]
theorem cmul_at0 {c d : Int → Int} (hc : ∀ k, k < 0 → c k = 0) (hd : ∀ k, k < 0 → d k = 0) : ∀ (ks : List Int), ks.Nodup → cmul (ks.map fun q => (q, c q)) d 0 = if 0 ∈ ks then c 0 * d 0 else 0
  | [], _ => rfl
  | q :: ks, nd => by
    have nd := List.nodup_cons.mp nd
    rw [List.map_cons, cmul, cmul_at0 hc hd ks nd.2]
    show c q * d (0 - q) + _ = _
    by_cases hq : q = 0
    · subst hq
      rw [if_neg nd.1, if_pos (by simp), Int.add_zero]
      rfl
    · have h0 : c q * d (0 - q) = 0 := by
        by_cases h : q < 0
        · rw [hc q h, Int.zero_mul]
        · rw [hd _ (by omega), Int.mul_zero]
      rw [h0, Int.zero_add]
      by_cases h : 0 ∈ ks
      · rw [if_pos h, if_pos (by simp [h])]
      · rw [if_neg h, if_neg (by simp only [List.mem_cons, h, or_false]; exact fun z => hq z.symm)]
theorem le_sum (f : Int → Nat) : ∀ {l : List Int} {x : Int}, x ∈ l → f x ≤ (l.map f).sum
  | y :: l, x, h => by
    rcases List.mem_cons.mp h with rfl | h
    · simp
    · have := le_sum f h
      simp only [List.map_cons, List.sum_cons]
      omega
/-- the terms' sum is not greater than the keys' -/
theorem Canon.asc_nodup {ts : Terms} (h : Canon ts) : (ts.map (·.1)).Nodup := by
  have h1 := h.asc
  rw [List.Nodup, List.pairwise_map]
  exact h1.imp fun {a b} (hab : a.1 < b.1) => by omega
def enumT (ns : List Int) (i : Nat) : Terms := (List.range i).map fun (j : Nat) => ((j : Int), ns.getD j 0)
theorem enumT_succ (ns : List Int) (i : Nat) : enumT ns (i + 1) = enumT ns i ++ [((i : Int), ns.getD i 0)] := by
  unfold enumT
  rw [List.range_succ, List.map_append]
  rfl
theorem cof_enum (ns : List Int) : ∀ (i : Nat) (k : Int), cof (enumT ns i) k = if 0 ≤ k ∧ k < i then ns.getD k.toNat 0 else 0
  | 0, k => by rw [if_neg (by omega)]; rfl
  | i + 1, k => by
    rw [enumT_succ, cof_app, cof_enum ns i k, cof, cof, Int.add_zero]
    show _ + (if (i : Int) = k then ns.getD i 0 else 0) = _
    by_cases h : (i : Int) = k
    · subst h
      rw [if_neg (by omega), if_pos rfl, if_pos (by omega), Int.zero_add]
      rfl
    · rw [if_neg h, Int.add_zero]
      by_cases h2 : 0 ≤ k ∧ k < i
      · rw [if_pos h2, if_pos (by omega)]
      · rw [if_neg h2, if_neg (by omega)]
end My

set_option Elab.async false
set_option linter.all false
set_option maxRecDepth 100000
set_option maxHeartbeats 2000000
namespace My
open PySem PySem.Spec PyProof.Rows L2
/-! ### what the builder of a closed row keeps -/
def Ring (ns : List Int) : Prop := (1 ≤ ns.length ∧ ns.length ≤ 7) ∧ (∀ n ∈ ns, -1 ≤ n ∧ n ≤ 1) ∧ (ns.getD 0 0 = 1 ∨ ns.getD 0 0 = -1)
instance {ns : List Int} : Decidable (Ring ns) := by unfold Ring; infer_instance
def RingV (b : Addr) (H : Hp) (x : V) : Prop := ∃ (a : Addr) (ns : List Int), x = .ref a ∧ a ≠ b ∧ H a = some (.lst (ns.map V.int)) ∧ Ring ns
theorem RingV.but {b : Addr} {H H' : Hp} {x : V} (h : RingV b H x) (s : But b H H') : RingV b H' x := let ⟨a, ns, e, ne, ha, r⟩ := h; ⟨a, ns, e, ne, s _ _ ne ha, r⟩
theorem atI_get {xs : List V} {n : Int} (h0 : 0 ≤ n) (h1 : n < xs.length) : ∃ v, atI xs n = some v ∧ v ∈ xs := by
  have h2 : n.toNat < xs.length := by omega
  refine ⟨xs[n.toNat], ?_, List.getElem_mem h2⟩
  unfold atI ixN
  rw [if_pos h0, if_pos (by omega)]
  exact List.getElem?_eq_getElem h2
structure RowJar (H : Hp) (b j : Addr) (i : Nat) (S F : Int) (c : Int → Int) (ks : List Int) : Prop where
  jar : JarAt H j (7 ^ i) c
  nb : j ≠ b
  neg : ∀ k, k < 0 → c k = 0
  one : c 0 = 1 ∨ c 0 = -1
  key : ∃ kvs, H j = some (.dK kvs) ∧ kvs.map (·.1) = ks.map Sum.inl
  nd : ks.Nodup
  kz : ∀ k, ¬ k ∈ ks → c k = 0
  top : ∀ k ∈ ks, k ≤ F
  sum : (((ks.map fun q => (c q).natAbs).sum : Nat) : Int) ≤ S
section
variable {H H' : Hp} {b j : Addr} {i : Nat} {S F : Int} {c d : Int → Int} {ks : List Int}
theorem RowJar.but (h : RowJar H b j i S F c ks) (s : But b H H') : RowJar H' b j i S F c ks := { h with jar := h.jar.but h.nb s, key := let ⟨kvs, e, r⟩ := h.key; ⟨kvs, s _ _ h.nb e, r⟩ }
theorem RowJar.same (h : RowJar H b j i S F c ks) (s : Same H H') : RowJar H' b j i S F c ks := h.but (Same.but s b)
theorem RowJar.zero (h : RowJar H b j i S F c ks) : 0 ∈ ks := by
  refine Decidable.byContradiction fun hn => ?_
  have := h.kz 0 hn
  rcases h.one with e | e <;> omega
theorem RowJar.le (h : RowJar H b j i S F c ks) (k : Int) : ((c k).natAbs : Int) ≤ S := by
  by_cases m : k ∈ ks
  · have := le_sum (fun q => (c q).natAbs) m
    have := h.sum
    omega
  · rw [h.kz k m]
    have := h.sum
    show (0 : Int) ≤ S
    omega
theorem RowJar.mono (h : RowJar H b j i S F c ks) : RowJar H b j (i + 1) S F c ks := { h with jar := h.jar.mono (by rw [Nat.pow_succ]; omega) }
/-- the product with a ring, its sums within bounds -/
theorem RowJar.times {p : Addr} {ns : List Int} {kvs : List (Key × V)} {qs : List Int} (h : RowJar H b j i S F c ks) (r : Ring ns) (hp : JarAt H' p (7 ^ (i + 1)) (mulF c (cof (enumT ns ns.length)))) (np : p ≠ b)
    (e : H' p = some (.dK kvs)) (ek : kvs.map (·.1) = qs.map Sum.inl) (nd : qs.Nodup) (kz : ∀ k, ¬ k ∈ qs → mulF c (cof (enumT ns ns.length)) k = 0)
    (top : ∀ k ∈ qs, k ≤ F) (sum : (((qs.map fun q => (mulF c (cof (enumT ns ns.length)) q).natAbs).sum : Nat) : Int) ≤ S) (kf : ∀ k, cof (ks.map fun q => (q, c q)) k = c k) :
    RowJar H' b p (i + 1) S F (mulF c (cof (enumT ns ns.length))) qs := by
  have dneg : ∀ k, k < 0 → cof (enumT ns ns.length) k = 0 := fun k hk => by rw [cof_enum, if_neg (by omega)]
  have d0 : cof (enumT ns ns.length) 0 = 1 ∨ cof (enumT ns ns.length) 0 = -1 := by
    rw [cof_enum, if_pos ⟨Int.le_refl _, by have := r.1.1; omega⟩]
    exact r.2.2
  have hm : ∀ k, mulF c (cof (enumT ns ns.length)) k = cmul (ks.map fun q => (q, c q)) (cof (enumT ns ns.length)) k := fun k => mulF_of kf (fun _ => rfl) k
  refine ⟨hp, np, fun k hk => by rw [hm]; exact cmul_neg h.neg dneg ks k hk, ?_, ⟨kvs, e, ek⟩, nd, kz, top, sum⟩
  rw [hm, cmul_at0 h.neg dneg ks h.nd, if_pos h.zero]
  rcases h.one with e1 | e1 <;> rcases d0 with e2 | e2 <;> rw [e1, e2]
  · exact .inl rfl
  · exact .inr rfl
  · exact .inr rfl
  · exact .inl rfl
end
theorem cof_keys (c : Int → Int) : ∀ (ls : List Int), ls.Nodup → ∀ k, cof (ls.map fun q => (q, c q)) k = if k ∈ ls then c k else 0
  | [], _, k => rfl
  | l :: ls, nd, k => by
    have nd' := List.nodup_cons.mp nd
    rw [List.map_cons, cof, cof_keys c ls nd'.2 k]
    by_cases e : l = k
    · subst e; rw [if_pos rfl, if_neg nd'.1, if_pos (by simp)]; omega
    · rw [if_neg e]
      by_cases m : k ∈ ls
      · rw [if_pos m, if_pos (by simp [m])]; omega
      · rw [if_neg m, if_neg (by simp only [List.mem_cons, m, or_false]; exact fun z => e z.symm)]; rfl
theorem RowJar.kf {H : Hp} {b j : Addr} {i : Nat} {S F : Int} {c : Int → Int} {ks : List Int} (h : RowJar H b j i S F c ks) (k : Int) : cof (ks.map fun q => (q, c q)) k = c k := by
  rw [cof_keys c ks h.nd k]
  by_cases m : k ∈ ks
  · rw [if_pos m]
  · rw [if_neg m, h.kz k m]
theorem Ring.sm {ns : List Int} (r : Ring ns) (k : Int) : (cof (enumT ns ns.length) k).natAbs ≤ 1 := by
  rw [cof_enum]
  split
  · rename_i h
    have hl : k.toNat < ns.length := by omega
    rw [List.getD_eq_getElem?_getD, List.getElem?_eq_getElem hl]
    have := r.2.1 _ (List.getElem_mem hl)
    show (ns[k.toNat]).natAbs ≤ 1
    omega
  · decide
/-- one that is still to be done: heading, name, which way -/
def TodoV (F : Int) (H : Hp) (v : V) : Prop := ∃ (b : Addr) (d : Int) (nm : Str) (s : Int), v = .ref b ∧ H b = some (.tup [.int d, .str nm, .int s]) ∧ -F ≤ d ∧ d ≤ F ∧ IsName nm ∧ (s = 0 ∨ s = 1)
theorem TodoV.tk {F : Int} {H H' : Hp} {v : V} (h : TodoV F H v) (t : Tk H H') : TodoV F H' v := let ⟨b, d, nm, s, e, hb, r⟩ := h; ⟨b, d, nm, s, e, t _ _ hb, r⟩
structure TdAt (F : Int) (a : Addr) (H H' : Hp) (t : Addr) (vs : List V) : Prop where
  bu : But a H H'
  bg : Bag H' a
  at_ : H' t = some (.lst vs)
  fr : H t = none
  ne : t ≠ a
  all : ∀ v ∈ vs, TodoV F H' v
structure MdAt (F : Int) (a : Addr) (H H' : Hp) (m : Addr) (ms : List V) (p : Prog) (now : Int) (k : Nat) : Prop where
  at_ : H' m = some (.lst ms)
  fr : H m = none
  ne : m ≠ a
  pr : PrAt H' p ms
  wf : WfL 4000 1 (2 * F) 0 p
  wi : p.wayIn F 0
  hd : p.head = now
  n0 : -F ≤ now
  n1 : now ≤ F
  ln : p.len ≤ k
section
variable {F : Int} {a t m c : Addr} {H H' H2 : Hp} {vs ms : List V} {p q : Prog} {now : Int} {k : Nat} {o : HO}
theorem TdAt.pick (h : TdAt F a H H' t vs) (s : But a H' H2) (b : Bag H2 a) : TdAt F a H H2 t vs := ⟨h.bu.trans s, b, s _ _ h.ne h.at_, h.fr, h.ne, fun v hv => (h.all v hv).tk (Tk.but s h.bg)⟩
theorem TdAt.new (h : TdAt F a H H' t vs) (n : H' c = none) : TdAt F a H (upd H' c o) t vs := ⟨h.bu.new n, h.bg.keep n, h_keep h.at_ n, h.fr, h.ne, fun v hv => (h.all v hv).tk ((Tk.refl _).new n)⟩
theorem TdAt.push (h : TdAt F a H H' t vs) {v : V} (hv : TodoV F H' v) : TdAt F a H (upd H' t (.lst (vs ++ [v]))) t (vs ++ [v]) := by
  have tk : Tk H' (upd H' t (.lst (vs ++ [v]))) := (Tk.refl _).lst h.at_
  refine ⟨h.bu.put h.fr, h.bg.upd h.ne.symm, upd_same, h.fr, h.ne, fun x hx => ?_⟩
  rcases List.mem_append.mp hx with hx | hx
  · exact (h.all x hx).tk tk
  · rw [List.mem_singleton.mp hx]
    exact hv.tk tk
theorem TdAt.other (h : TdAt F a H H' t vs) (hm : H' m = some (.lst ms)) (fm : H m = none) (nm : m ≠ a) (tm : t ≠ m) {xs : List V} : TdAt F a H (upd H' m (.lst xs)) t vs :=
  ⟨h.bu.put fm, h.bg.upd nm.symm, (upd_ne tm).trans h.at_, h.fr, h.ne, fun v hv => (h.all v hv).tk ((Tk.refl _).lst hm)⟩
theorem MdAt.pick (h : MdAt F a H H' m ms p now k) (s : But a H' H2) (b : Bag H' a) : MdAt F a H H2 m ms p now k := { h with at_ := s _ _ h.ne h.at_, pr := h.pr.tk (Tk.but s b) }
theorem MdAt.new (h : MdAt F a H H' m ms p now k) (n : H' c = none) : MdAt F a H (upd H' c o) m ms p now k := { h with at_ := h_keep h.at_ n, pr := h.pr.tk ((Tk.refl _).new n) }
theorem MdAt.mono (h : MdAt F a H H' m ms p now k) : MdAt F a H H' m ms p now (k + 1) := { h with ln := Nat.le_succ_of_le h.ln }
theorem MdAt.push (h : MdAt F a H H' m ms p now k) {v : V} (hq : PrAt H' q [v]) (lq : q.len = 1) (wq : WfL 4000 1 (2 * F) 0 q) (iq : q.wayIn F now) {d : Int} (ed : now + q.head = d) (d0 : -F ≤ d) (d1 : d ≤ F) : MdAt F a H (upd H' m (.lst (ms ++ [v]))) m (ms ++ [v]) (p.app q) d (k + 1) := by
  have tk : Tk H' (upd H' m (.lst (ms ++ [v]))) := (Tk.refl _).lst h.at_
  refine ⟨upd_same, h.fr, h.ne, (h.pr.app hq).tk tk, h.wf.app wq, Prog.wayIn_app h.wi ?_, ?_, d0, d1, ?_⟩
  · rw [Int.zero_add, h.hd]; exact iq
  · rw [Prog.head_app, h.hd, ed]
  · rw [Prog.len_app, lq]
    exact Nat.succ_le_succ h.ln
end
end My

set_option Elab.async false
set_option linter.all false
set_option maxRecDepth 100000
set_option maxHeartbeats 2000000
namespace My
open PySem PySem.Spec PyProof.Rows L2
/-! ### short programs: headings within bounds on the whole way -/
namespace Prog
theorem head_unroll {L : Nat} {C T : Int} {d : Nat} {p : Prog} {s : Int} (hs : s = 1 ∨ s = -1) (h : WfL L C T d p) : (unroll s p).head = s * p.head := by
  rw [head_flat (wf_unroll hs h), turns_unroll s h]
/-- turned about: each heading with the other sign -/
inductive Neg : Prog → Prog → Prop
  | nil : Neg .nil .nil
  | step {w n : Str} {p q : Prog} : Neg p q → Neg (.step w n p) (.step w n q)
  | turn {k : Int} {p q : Prog} : Neg p q → Neg (.turn k p) (.turn (-k) q)
theorem Neg.app {p q : Prog} (h : Neg p q) {r s : Prog} (h' : Neg r s) : Neg (p.app r) (q.app s) := by
  induction h with
  | nil => exact h'
  | step _ ih => exact .step ih
  | turn _ ih => exact .turn ih
theorem Neg.times {p q : Prog} (h : Neg p q) : ∀ n, Neg (Prog.times n p) (Prog.times n q)
  | 0 => .nil
  | n + 1 => h.app (h.times n)
theorem neg_unroll : ∀ (p : Prog) (s : Int), Neg (unroll s p) (unroll (-s) p)
  | .nil, _ => .nil
  | .step w n r, s => .step (neg_unroll r s)
  | .turn k r, s => by
    rw [unroll, unroll, Int.neg_mul]
    exact .turn (neg_unroll r s)
  | .rep k b r, s => ((neg_unroll b s).times _).app (neg_unroll r s)
  | .mir b r, s => (neg_unroll b (-s)).app (neg_unroll r s)
theorem Neg.way {f : Int} {p q : Prog} (h : Neg p q) : ∀ {k : Int}, wayIn f k p → wayIn f (-k) q := by
  induction h with
  | nil => exact fun _ => trivial
  | step _ ih => exact fun x => ih x
  | turn _ ih =>
    intro k x
    have := ih x.2
    rw [Int.neg_add] at this
    exact ⟨by have := x.1; omega, this⟩
theorem way_neg {f : Int} {p : Prog} {s k : Int} (h : wayIn f k (unroll s p)) : wayIn f (-k) (unroll (-s) p) := (neg_unroll p s).way h
theorem wayOk_of : ∀ {p : Prog} {h : Int}, wayIn 12 h p → wayOk h p = true
  | .nil, _, _ => rfl
  | .step w n r, h, x => wayOk_of (p := r) x
  | .turn k r, h, x => by
    rw [wayOk, if_neg (by have := x.1; omega)]
    exact wayOk_of x.2
  | .rep _ _ _, _, _ => rfl
  | .mir _ _, _, _ => rfl
theorem short_of {p : Prog} (h : p.size ≤ 200) (w : wayIn 12 0 (unroll 1 p)) : p.short = true := by
  rw [short, if_neg (by omega)]
  exact wayOk_of w
theorem unroll_flat {L : Nat} {C T : Int} : ∀ {p : Prog}, WfL L C T 0 p → unroll 1 p = p
  | .nil, _ => rfl
  | .step w n r, h => by rw [unroll, unroll_flat (WfL.step_iff.mp h).2.2]
  | .turn k r, h => by rw [unroll, unroll_flat (WfL.turn_iff.mp h).2, Int.one_mul]
  | .rep _ _ _, h => h.elim
  | .mir _ _, h => h.elim
end Prog
end My
namespace My
open PySem PySem.Spec PyProof.Rows L2
end My

set_option Elab.async false
set_option linter.all false
set_option maxRecDepth 100000
set_option maxHeartbeats 2000000
namespace My
open PySem PySem.Spec PyProof.Rows L2
/-! ### rows of things -/
def Each {α : Type} (R : V → α → Prop) (vs : List V) (xs : List α) : Prop := vs.length = xs.length ∧ ∀ (i : Nat) (v : V) (x : α), vs[i]? = some v → xs[i]? = some x → R v x
section
variable {α : Type} {R S : V → α → Prop} {vs : List V} {xs : List α}
theorem Each.nil : Each R [] [] := ⟨rfl, fun i v x h => by simp at h⟩
theorem Each.imp (h : Each R vs xs) (k : ∀ v x, x ∈ xs → R v x → S v x) : Each S vs xs := ⟨h.1, fun i v x hv hx => k v x (List.mem_of_getElem? hx) (h.2 i v x hv hx)⟩
theorem Each.app {ws : List V} {ys : List α} (h : Each R vs xs) (k : Each R ws ys) : Each R (vs ++ ws) (xs ++ ys) := by
  refine ⟨by rw [List.length_append, List.length_append, h.1, k.1], fun i v x hv hx => ?_⟩
  by_cases l : i < vs.length
  · rw [List.getElem?_append_left l] at hv
    rw [List.getElem?_append_left (by rw [← h.1]; exact l)] at hx
    exact h.2 i v x hv hx
  · rw [List.getElem?_append_right (by omega)] at hv
    rw [List.getElem?_append_right (by rw [← h.1]; omega), ← h.1] at hx
    exact k.2 _ v x hv hx
theorem Each.one {v : V} {x : α} (k : R v x) : Each R [v] [x] := ⟨rfl, fun i v' x' hv hx => by
  cases i with
  | zero => cases hv; cases hx; exact k
  | succ n => simp at hv⟩
theorem Each.snoc {v : V} {x : α} (h : Each R vs xs) (k : R v x) : Each R (vs ++ [v]) (xs ++ [x]) := h.app (.one k)
theorem Each.cons {v : V} {x : α} (k : R v x) (h : Each R vs xs) : Each R (v :: vs) (x :: xs) := (Each.one k).app h
theorem Each.at (h : Each R vs xs) {i : Nat} {v : V} (hv : vs[i]? = some v) : ∃ x, xs[i]? = some x ∧ R v x := by
  have hi := (List.getElem?_eq_some_iff.mp hv).1
  rw [h.1] at hi
  exact ⟨xs[i], List.getElem?_eq_getElem hi, h.2 i v _ hv (List.getElem?_eq_getElem hi)⟩
theorem Each.get (h : Each R vs xs) {i : Nat} {x : α} (hx : xs[i]? = some x) : ∃ v, vs[i]? = some v ∧ R v x := by
  have hi := (List.getElem?_eq_some_iff.mp hx).1
  rw [← h.1] at hi
  exact ⟨vs[i], List.getElem?_eq_getElem hi, h.2 i _ x (List.getElem?_eq_getElem hi) hx⟩
theorem Each.drop (h : Each R vs xs) (n : Nat) : Each R (vs.drop n) (xs.drop n) := ⟨by rw [List.length_drop, List.length_drop, h.1], fun i v x hv hx => by
  rw [List.getElem?_drop] at hv hx
  exact h.2 _ v x hv hx⟩
theorem Each.take (h : Each R vs xs) (n : Nat) : Each R (vs.take n) (xs.take n) := ⟨by rw [List.length_take, List.length_take, h.1], fun i v x hv hx => by
  rw [List.getElem?_take] at hv hx
  split at hv
  · rw [if_pos (by assumption)] at hx
    exact h.2 i v x hv hx
  · cases hv⟩
end
/-! ### what is no dict stays -/
def Std (H H' : Hp) : Prop := ∀ c o, (∀ kvs, o ≠ .dK kvs) → H c = some o → H' c = some o
theorem Std.refl (H : Hp) : Std H H := fun _ _ _ h => h
theorem Std.trans {H H1 H2 : Hp} (h : Std H H1) (k : Std H1 H2) : Std H H2 := fun c o n e => k c o n (h c o n e)
theorem Std.of {H H' : Hp} (h : Same H H') : Std H H' := fun c o _ e => h c o e
theorem Std.tk {H H' : Hp} (h : Std H H') : Tk H H' := fun c xs e => h c _ (by intro _ z; cases z) e
theorem Std.lst {H H' : Hp} {a : Addr} {xs : List V} (h : Std H H') (e : H a = some (.lst xs)) : H' a = some (.lst xs) := h a _ (by intro _ z; cases z) e
theorem Std.stay {H H' : Hp} (h : Std H H') : Stay H H' := fun c o _ n e => h c o n e
theorem Std.dk {H H' : Hp} {p : Addr} {kvs : List (Key × V)} {o : HO} (h : Std H H') (n : H' p = some (.dK kvs)) : Std H (upd H' p o) := fun c u x e => by
  have q := h c u x e
  refine (upd_ne ?_).trans q
  rintro rfl
  rw [n] at q
  cases q
  exact x _ rfl
theorem Std.but {H H1 H2 : Hp} {p : Addr} {kvs : List (Key × V)} (h : Std H H1) (n : H1 p = some (.dK kvs)) (b : But p H1 H2) : Std H H2 := fun c u x e => by
  have q := h c u x e
  refine b c u ?_ q
  rintro rfl
  rw [n] at q
  cases q
  exact x _ rfl
theorem Std.new {H H' : Hp} {p : Addr} {o : HO} (h : Std H H') (n : H' p = none) : Std H (upd H' p o) := fun c u x e => h_keep (h c u x e) n
/-- a jar of names under a change of a list -/
theorem Spot.lst {H0 H : Hp} {s l : Addr} {N : Nat} {c : Str → Int → Int} {ws : List (Str × Addr)} {xs : List V} {o : HO} (h : Spot H0 H s N c ws) (n : H0 l = none) (e : H l = some (.lst xs)) : Spot H0 (upd H l o) s N c ws :=
  ⟨(upd_ne (ne_of h.at_ e (by intro z; cases z))).trans h.at_, h.nd, h.ndA, h.name, h.new, h.news, fun x hx => by
    obtain ⟨kvs, e1, r⟩ := h.jars x hx
    exact ⟨kvs, (upd_ne (ne_of e1 e (by intro z; cases z))).trans e1, r⟩, h.none_, Same.put h.same n⟩
/-! ### the steps of a flat program -/
abbrev Stp := Str × Str × Int
namespace Prog
def stps : Int → Prog → List Stp
  | _, .nil => []
  | h, .step w n r => (w, n, h) :: stps h r
  | h, .turn t r => stps (h + t) r
  | _, .rep _ _ _ => []
  | _, .mir _ _ => []
theorem stps_len : ∀ (p : Prog) (h : Int), (stps h p).length ≤ p.len
  | .nil, _ => Nat.le_refl _
  | .step w m r, h => by rw [stps, len, List.length_cons]; exact Nat.succ_le_succ (stps_len r h)
  | .turn t r, h => by rw [stps, len]; exact Nat.le_succ_of_le (stps_len r (h + t))
  | .rep _ _ _, _ => Nat.zero_le _
  | .mir _ _, _ => Nat.zero_le _
theorem stps_ok {L : Nat} {C T : Int} : ∀ {p : Prog} (h : Int), WfL L C T 0 p → ∀ s ∈ stps h p, IsWord s.1 ∧ IsName s.2.1
  | .nil, h, _ => by simp [stps]
  | .step w m r, h, hw => by
    obtain ⟨w1, w2, w3⟩ := WfL.step_iff.mp hw
    intro s hs
    rw [stps] at hs
    rcases List.mem_cons.mp hs with rfl | hs
    · exact ⟨w1, w2⟩
    · exact stps_ok h w3 s hs
  | .turn t r, h, hw => stps_ok (p := r) (h + t) (WfL.turn_iff.mp hw).2
  | .rep _ _ _, h, hw => hw.elim
  | .mir _ _, h, hw => hw.elim
end Prog
/-- a program held at a value -/
def PrC (H : Hp) (v : V) (p : Prog) : Prop := ∃ q, v = .ref q ∧ PrIs H q p
theorem PrC.tk {H H' : Hp} {v : V} {p : Prog} (h : PrC H v p) (t : Tk H H') : PrC H' v p := let ⟨q, e, k⟩ := h; ⟨q, e, k.tk t⟩
/-- what steps add up to: the number of the name n at the power k -/
def stC : List Stp → Str → Int → Int
  | [], _, _ => 0
  | s :: ss, n, k => (if s.2.1 = n ∧ s.2.2 = k then stepSign s.1 else 0) + stC ss n k
theorem stC_app : ∀ (ss ts : List Stp) (n : Str) (k : Int), stC (ss ++ ts) n k = stC ss n k + stC ts n k
  | [], ts, n, k => by rw [List.nil_append, stC, Int.zero_add]
  | s :: ss, ts, n, k => by rw [List.cons_append, stC, stC, stC_app ss ts n k, Int.add_assoc]
theorem stC_stps : ∀ (p : Prog) (h : Int) (n : Str) (k : Int), stC (Prog.stps h p) n k = Prog.wcf h p n k
  | .nil, _, _, _ => rfl
  | .step w m r, h, n, k => by rw [Prog.stps, stC, Prog.wcf, stC_stps r h n k]
  | .turn t r, h, n, k => by rw [Prog.stps, Prog.wcf, stC_stps r (h + t) n k]
  | .rep _ _ _, _, _, _ => rfl
  | .mir _ _, _, _, _ => rfl
/-- one step more -/
def bump (c : Str → Int → Int) (s : Stp) : Str → Int → Int := fun n k => c n k + if s.2.1 = n ∧ s.2.2 = k then stepSign s.1 else 0
theorem stC_snoc (ss : List Stp) (s : Stp) : stC (ss ++ [s]) = bump (stC ss) s := by
  funext n k
  rw [stC_app]
  show _ + (_ + 0) = _
  rw [Int.add_zero]; rfl
theorem stC_snoc' (ss : List Stp) (s : Stp) : stC (ss ++ (some s).toList) = bump (stC ss) s := stC_snoc ss s
def StpC (H : Hp) (v : V) (s : Stp) : Prop := ∃ b, v = .ref b ∧ H b = some (.tup [.str s.1, .str s.2.1, .int s.2.2])
theorem StpC.tk {H H' : Hp} {v : V} {s : Stp} (h : StpC H v s) (t : Tk H H') : StpC H' v s := let ⟨b, e, g⟩ := h; ⟨b, e, t _ _ g⟩
/-! ### places of the program -/
def PlC (C : Addr) (H : Hp) (v : V) (e : Str × Terms) : Prop := ∃ b l, v = .ref b ∧ H b = some (.tup [.str e.1, .ref l]) ∧ PolyAt C H l e.2
theorem PlC.stay {C : Addr} {H H' : Hp} {v : V} {e : Str × Terms} (h : PlC C H v e) (s : Stay H H') : PlC C H' v e := let ⟨b, l, e1, e2, e3⟩ := h; ⟨b, l, e1, s.tk _ _ e2, e3.stay s⟩
def PlaceP (C : Addr) (H : Hp) (l : Addr) (pl : Pl) : Prop := ∃ vs, H l = some (.lst vs) ∧ Each (PlC C H) vs pl
theorem PlaceP.std {C : Addr} {H H' : Hp} {l : Addr} {pl : Pl} (h : PlaceP C H l pl) (s : Std H H') : PlaceP C H' l pl := let ⟨vs, e, k⟩ := h; ⟨vs, s.lst e, k.imp fun v x _ r => r.stay s.stay⟩
theorem PlaceP.same {C : Addr} {H H' : Hp} {l : Addr} {pl : Pl} (h : PlaceP C H l pl) (s : Same H H') : PlaceP C H' l pl := h.std (.of s)
/-- under a change of another list -/
theorem PlaceP.lst {C : Addr} {H : Hp} {l m : Addr} {pl : Pl} {xs : List V} {o : HO} (h : PlaceP C H l pl) (n : l ≠ m) (e : H m = some (.lst xs)) : PlaceP C (upd H m o) l pl := let ⟨vs, e1, k⟩ := h; ⟨vs, (upd_ne n).trans e1, k.imp fun v x _ r => r.stay ((Stay.refl H).lst e)⟩
theorem PlaceL.upd {F : Addr → Prop} {H : Hp} {m : Addr} {xs : List V} {o : HO} (hF : ∀ x, F x → x ≠ m) (e : H m = some (.lst xs)) : ∀ {vs : List V} {pl : Pl}, PlaceL F H vs pl → PlaceL F (upd H m o) vs pl
  | [], _, h => h
  | _ :: _, _, ⟨b, l, e0, us, e1, e2, e3, e4, ⟨ws, e5, e7⟩, e6⟩ => ⟨b, l, e0, us, e1, e2, (Tk.refl H).lst e _ _ e3, e4, ⟨ws, (upd_ne (hF _ e4)).trans e5, e7.tk ((Tk.refl H).lst e)⟩, PlaceL.upd hF e e6⟩
theorem PlaceL.std {F : Addr → Prop} {H H' : Hp} (t : Std H H') : ∀ {vs : List V} {pl : Pl}, PlaceL F H vs pl → PlaceL F H' vs pl
  | [], _, h => h
  | _ :: _, _, ⟨b, l, e0, us, e1, e2, e3, e4, ⟨ws, e5, e7⟩, e6⟩ => ⟨b, l, e0, us, e1, e2, t.tk _ _ e3, e4, ⟨ws, t.lst e5, e7.tk t.tk⟩, PlaceL.std t e6⟩
theorem PlaceL.mono {F G : Addr → Prop} (hF : ∀ x, F x → G x) {H : Hp} : ∀ {vs : List V} {pl : Pl}, PlaceL F H vs pl → PlaceL G H vs pl
  | [], _, h => h
  | _ :: _, _, ⟨b, l, e0, us, e1, e2, e3, e4, e5, e6⟩ => ⟨b, l, e0, us, e1, e2, e3, hF _ e4, e5, PlaceL.mono hF e6⟩
/-- a place of the program held in a list at l, all new since H -/
def PlR (C : Addr) (H H' : Hp) (l : Addr) (v : V) (ss : List Stp) : Prop := ∃ a pl, v = .ref a ∧ H a = none ∧ a ≠ l ∧ PlaceP C H' a pl ∧ IsPlace pl (stC ss) ∧ (∀ e ∈ pl, e.2.length ≤ 5000) ∧ pl.length < 64
theorem PlR.std {C : Addr} {H H' H2 : Hp} {l : Addr} {v : V} {ss : List Stp} (h : PlR C H H' l v ss) (s : Std H' H2) : PlR C H H2 l v ss := let ⟨a, pl, e, n, ne, hp, r⟩ := h; ⟨a, pl, e, n, ne, hp.std s, r⟩
theorem PlR.lst {C : Addr} {H H' : Hp} {l : Addr} {v : V} {ss : List Stp} {xs : List V} {o : HO} (h : PlR C H H' l v ss) (e : H' l = some (.lst xs)) : PlR C H (L2.upd H' l o) l v ss := let ⟨a, pl, e0, n, ne, hp, r⟩ := h; ⟨a, pl, e0, n, ne, hp.lst ne e, r⟩
/-- a place of the law's own in a list at l, beside the list d -/
def TrR (H' : Hp) (l d : Addr) (v : V) (ss : List Stp) : Prop := ∃ a vs pl, v = .ref a ∧ a ≠ l ∧ a ≠ d ∧ H' a = some (.lst vs) ∧ PlaceL (fun x => x ≠ l ∧ x ≠ d) H' vs pl ∧ IsPlace pl (stC ss)
theorem TrR.std {H' H2 : Hp} {l d : Addr} {v : V} {ss : List Stp} (h : TrR H' l d v ss) (s : Std H' H2) : TrR H2 l d v ss := let ⟨a, vs, pl, e, n, ne, ha, hp, r⟩ := h; ⟨a, vs, pl, e, n, ne, s.lst ha, hp.std s, r⟩
theorem TrR.lst {H' : Hp} {l d m : Addr} {v : V} {ss : List Stp} {xs : List V} {o : HO} (h : TrR H' l d v ss) (hm : m = l ∨ m = d) (e : H' m = some (.lst xs)) : TrR (L2.upd H' m o) l d v ss := by
  obtain ⟨a, vs, pl, e0, n, ne, ha, hp, r⟩ := h
  have am : a ≠ m := by rcases hm with rfl | rfl <;> assumption
  refine ⟨a, vs, pl, e0, n, ne, (upd_ne am).trans ha, hp.upd (fun x hx => ?_) e, r⟩
  rcases hm with rfl | rfl
  · exact hx.1
  · exact hx.2
theorem TrR.place {H' : Hp} {l d : Addr} {v : V} {ss : List Stp} (h : TrR H' l d v ss) : ∃ a pl, v = .ref a ∧ PlaceAt H' a pl ∧ IsPlace pl (stC ss) := let ⟨a, vs, pl, e, _, _, ha, hp, r⟩ := h; ⟨a, pl, e, ⟨vs, ha, hp.all⟩, r⟩
theorem IsPlace.nil : IsPlace [] (stC []) := ⟨by simp, by simp, by simp, fun _ _ _ => rfl⟩
def DrC (H : Hp) (v : V) (e : Str × Nat) : Prop := ∃ b, v = .ref b ∧ H b = some (.tup [.str e.1, .int e.2])
theorem DrC.tk {H H' : Hp} {v : V} {e : Str × Nat} (h : DrC H v e) (t : Tk H H') : DrC H' v e := let ⟨b, e1, e2⟩ := h; ⟨b, e1, t _ _ e2⟩
theorem PlaceP.but {C : Addr} {H H' : Hp} {l m : Addr} {pl : Pl} {xs : List V} (h : PlaceP C H l pl) (n : l ≠ m) (e : H m = some (.lst xs)) (b : But m H H') : PlaceP C H' l pl := let ⟨vs, e1, k⟩ := h; ⟨vs, b _ _ n e1, k.imp fun v x _ r => r.stay (Stay.but b e)⟩
/-- a stroke of the program in a list at l, all new since H -/
def StR (C : Addr) (ss : List Stp) (H H' : Hp) (l : Addr) (v : V) (e : Str × Nat) : Prop := ∃ b a1 a2 pl1 pl2, v = .ref b ∧ H' b = some (.tup [.str e.1, .ref a1, .ref a2]) ∧ (H a1 = none ∧ H a2 = none ∧ a1 ≠ l ∧ a2 ≠ l) ∧
  (PlaceP C H' a1 pl1 ∧ IsPlace pl1 (stC (ss.take e.2)) ∧ (∀ e ∈ pl1, e.2.length ≤ 5000) ∧ pl1.length < 64) ∧ PlaceP C H' a2 pl2 ∧ IsPlace pl2 (stC (ss.take (e.2 + 1))) ∧ (∀ e ∈ pl2, e.2.length ≤ 5000) ∧ pl2.length < 64
theorem StR.std {C : Addr} {ss : List Stp} {H H' H2 : Hp} {l : Addr} {v : V} {e : Str × Nat} (h : StR C ss H H' l v e) (s : Std H' H2) : StR C ss H H2 l v e := let ⟨b, a1, a2, pl1, pl2, e1, e2, n, ⟨h1, r1⟩, h2, r2⟩ := h; ⟨b, a1, a2, pl1, pl2, e1, s.tk _ _ e2, n, ⟨h1.std s, r1⟩, h2.std s, r2⟩
theorem StR.lst {C : Addr} {ss : List Stp} {H H' : Hp} {l : Addr} {v : V} {e : Str × Nat} {xs : List V} {o : HO} (h : StR C ss H H' l v e) (e0 : H' l = some (.lst xs)) : StR C ss H (L2.upd H' l o) l v e := let ⟨b, a1, a2, pl1, pl2, e1, e2, n, ⟨h1, r1⟩, h2, r2⟩ := h; ⟨b, a1, a2, pl1, pl2, e1, (Tk.refl H').lst e0 _ _ e2, n, ⟨h1.lst n.2.2.1 e0, r1⟩, h2.lst n.2.2.2 e0, r2⟩
/-- the terms of a jar -/
theorem jar_terms {kvs : List (Key × V)} (h : JarK kvs) : ∃ ts : Terms, kvs = ts.map (fun p => (Sum.inl p.1, V.int p.2)) ∧ ∀ k, cof ts k = cfK kvs k := by
  have key : ∀ {kvs : List (Key × V)}, (∀ p ∈ kvs, ∃ k n : Int, p = (Sum.inl k, V.int n)) → (kvs.map (·.1)).Nodup → ∃ ts : Terms, kvs = ts.map (fun p => (Sum.inl p.1, V.int p.2)) ∧ ∀ k, cof ts k = cfK kvs k := by
    intro kvs
    induction kvs with
    | nil => intro _ _; exact ⟨[], rfl, fun k => rfl⟩
    | cons p l ih =>
      intro hl nd
      obtain ⟨k, n, rfl⟩ := hl p List.mem_cons_self
      obtain ⟨hn, nd⟩ := List.nodup_cons.mp nd
      obtain ⟨ts, rfl, hc⟩ := ih (fun q hq => hl q (List.mem_cons_of_mem _ hq)) nd
      refine ⟨(k, n) :: ts, rfl, fun j => ?_⟩
      show (if k = j then n else 0) + cof ts j = _
      rw [hc j]
      unfold cfK valV
      rw [List.find?_cons]
      by_cases e : k = j
      · subst e
        rw [if_pos rfl, decide_eq_true rfl]
        have hz : (ts.map fun p => ((Sum.inl p.1 : Key), V.int p.2)).find? (fun kv => decide (kv.1 = Sum.inl k)) = none := by
          refine List.find?_eq_none.mpr fun q hq hd => hn ?_
          exact List.mem_map.mpr ⟨q, hq, of_decide_eq_true hd⟩
        rw [hz]
        show n + 0 = n
        omega
      · rw [if_neg e, decide_eq_false (fun h => e (Sum.inl.inj h)), Int.zero_add]
  exact key h.prs h.nd
theorem terms_paired {H : Hp} : ∀ {ts : Terms} {as : List Addr}, Paired (fun (t : Addr) (q : Key × V) => H t = some (.tup [kV q.1, q.2])) as (ts.map fun p => ((Sum.inl p.1 : Key), V.int p.2)) → TermsL H (as.map V.ref) ts
  | [], _, h => by cases h; rfl
  | p :: ts, _, h => by
    cases h with
    | cons e r => exact ⟨_, p, ts, rfl, rfl, e, terms_paired r⟩
end My

set_option Elab.async false
set_option linter.all false
set_option maxRecDepth 100000
set_option maxHeartbeats 4000000
namespace My
open PySem PySem.Spec PyProof.Rows L2
/-! ### a program parted -/
namespace Prog
def one : Prog → Prog
  | .nil => .nil
  | .step w n _ => .step w n .nil
  | .turn k _ => .turn k .nil
  | .rep k b _ => .rep k b .nil
  | .mir b _ => .mir b .nil
def rest : Prog → Prog
  | .nil => .nil
  | .step _ _ r => r
  | .turn _ r => r
  | .rep _ _ r => r
  | .mir _ r => r
def cutF (q : Int) (b x : Prog) : Prog := if 0 < q then .rep q b x else x
def tl (j : Int) (b : Prog) : Prog := if 1 < j then .rep (j - 1) b .nil else .nil
def part : Prog → Int → Prog × Prog
  | .nil, _ => (.nil, .nil)
  | .step w m r, n => if 1 ≤ n then (.step w m (part r (n - 1)).1, (part r (n - 1)).2) else (.nil, .step w m r)
  | .turn k r, n => if 1 ≤ n then (.turn k (part r (n - 1)).1, (part r (n - 1)).2) else (.nil, .turn k r)
  | .rep k b r, n => if k * b.size ≤ n then (.rep k b (part r (n - k * b.size)).1, (part r (n - k * b.size)).2)
      else if 0 < n then (cutF (n / b.size) b (part b (n % b.size)).1, ((part b (n % b.size)).2.app (tl (k - n / b.size) b)).app r) else (.nil, .rep k b r)
  | .mir b r, n => if b.size ≤ n then (.mir b (part r (n - b.size)).1, (part r (n - b.size)).2)
      else if 0 < n then (.mir (part b n).1 .nil, .mir (part b n).2 r) else (.nil, .mir b r)
theorem one_rest : ∀ p : Prog, p.one.app p.rest = p
  | .nil => rfl
  | .step _ _ _ => rfl
  | .turn _ _ => rfl
  | .rep _ _ _ => rfl
  | .mir _ _ => rfl
structure PartOk (L : Nat) (C T : Int) (d : Nat) (p : Prog) (n : Int) (x : Prog × Prog) : Prop where
  s1 : x.1.size = n
  s2 : x.2.size = p.size - n
  w1 : WfL (L * (d + 1)) C T d x.1
  w2 : WfL (L * (d + 1)) C T d x.2
  l1 : x.1.len ≤ p.len + L * d
  l2 : x.2.len ≤ p.len + L * d
theorem PartOk.cons {L : Nat} {C T : Int} {d : Nat} {p : Prog} {n : Int} {x : Prog × Prog} (c : Prog) (hc : WfL L C T d c) (h : PartOk L C T d p n x) : PartOk L C T d (c.app p) (c.size + n) (c.app x.1, x.2) := by
  obtain ⟨s1, s2, w1, w2, l1, l2⟩ := h
  exact ⟨by rw [size_app, s1], by rw [size_app, s2]; omega, WfL.app (WfL.wide (by rw [Nat.mul_add]; omega) hc) w1, w2, by rw [len_app, len_app]; omega, by rw [len_app]; show x.2.len ≤ _; omega⟩
theorem PartOk.none {L : Nat} {C T : Int} {d : Nat} {p : Prog} (hc : WfL L C T d p) : PartOk L C T d p 0 (.nil, p) :=
  ⟨by rw [size], by show p.size = p.size - 0; omega, WfL.nil, WfL.wide (by rw [Nat.mul_add]; omega) hc, by rw [len]; omega, by show p.len ≤ _; omega⟩
end Prog
theorem First.one {H : Hp} {r r' : Prog} {x : V} (h : First H r x r') : PrAt H r.one [x] ∧ r.rest = r' ∧ r ≠ .nil := by
  cases r with
  | nil => exact h.elim
  | step w n r => obtain ⟨c, e, h1, e2⟩ := h; exact ⟨⟨c, [], by rw [e], h1, rfl⟩, e2.symm, by simp⟩
  | turn k r => obtain ⟨c, e, h1, e2⟩ := h; exact ⟨⟨c, [], by rw [e], h1, rfl⟩, e2.symm, by simp⟩
  | rep k b r => obtain ⟨c, q, e, h1, ⟨zs, h2, h3⟩, e2⟩ := h; exact ⟨⟨c, q, zs, [], by rw [e], h1, h2, h3, rfl⟩, e2.symm, by simp⟩
  | mir b r => obtain ⟨c, q, e, h1, ⟨zs, h2, h3⟩, e2⟩ := h; exact ⟨⟨c, q, zs, [], by rw [e], h1, h2, h3, rfl⟩, e2.symm, by simp⟩
theorem WfL.one {L : Nat} {C T : Int} {d : Nat} {p : Prog} (h : WfL L C T d p) : WfL L C T d p.one ∧ WfL L C T d p.rest := WfL.split (p := p.one) (q := p.rest) (by rw [Prog.one_rest]; exact h)
end My

set_option Elab.async false
set_option linter.all false
set_option maxRecDepth 100000
set_option maxHeartbeats 4000000
namespace My
open PySem PySem.Spec PyProof.Rows L2
/-! ### chains -/
/-- a chain: its heading, the turns ahead of its core, the rounds about it (number, heading), the core's numbers -/
structure Ch where
  aim : Int
  shift : Int
  fac : List (Int × Int)
  core : Str → Int → Int
def Prog.allTurn : Prog → Bool
  | .nil => true
  | .turn _ r => r.allTurn
  | _ => false
def Prog.fin (b : Prog) (x : Option (Int × Option Int × Option Ch)) : Option Ch :=
  if b.short = true then some ⟨b.head, 0, [], Prog.wcf 0 (Prog.unroll 1 b)⟩ else
  match x with
  | some (s, some k, some c) => some ⟨b.head, c.shift + s, c.fac ++ [(k, c.aim)], c.core⟩
  | some (s, none, some c) => some ⟨b.head, -c.shift + s, c.fac.map fun f => (f.1, -f.2), fun n k => c.core n (-k)⟩
  | _ => none
/-- the only command that is no turn: the turns ahead of it, its number (none: a mirror), the chain of its body -/
def Prog.sp : Prog → Option (Int × Option Int × Option Ch)
  | .nil => none
  | .step _ _ _ => none
  | .turn k r => r.sp.map fun x => (k + x.1, x.2)
  | .rep k b r => if r.allTurn = true then some (0, some k, b.fin b.sp) else none
  | .mir b r => if r.allTurn = true then some (0, none, b.fin b.sp) else none
def Prog.chain (p : Prog) : Option Ch := p.fin p.sp
section
variable {p : Prog} {s k : Int} {c : Ch} {n : Option Int}
theorem Prog.chain_short (h : p.short = true) : p.chain = some ⟨p.head, 0, [], Prog.wcf 0 (Prog.unroll 1 p)⟩ := by
  show Prog.fin p p.sp = _
  unfold Prog.fin
  rw [if_pos h]
theorem Prog.chain_none (h : p.short = false) (e : p.sp = none) : p.chain = none := by
  show Prog.fin p p.sp = _
  unfold Prog.fin
  rw [if_neg (by rw [h]; simp), e]
theorem Prog.chain_dead (h : p.short = false) (e : p.sp = some (s, n, none)) : p.chain = none := by
  show Prog.fin p p.sp = _
  unfold Prog.fin
  rw [if_neg (by rw [h]; simp), e]
  cases n <;> rfl
theorem Prog.chain_rep (h : p.short = false) (e : p.sp = some (s, some k, some c)) : p.chain = some ⟨p.head, c.shift + s, c.fac ++ [(k, c.aim)], c.core⟩ := by
  show Prog.fin p p.sp = _
  unfold Prog.fin
  rw [if_neg (by rw [h]; simp), e]
theorem Prog.chain_mir (h : p.short = false) (e : p.sp = some (s, none, some c)) : p.chain = some ⟨p.head, -c.shift + s, c.fac.map fun f => (f.1, -f.2), fun n k => c.core n (-k)⟩ := by
  show Prog.fin p p.sp = _
  unfold Prog.fin
  rw [if_neg (by rw [h]; simp), e]
end
/-- where the commands stand that are no turns -/
def Prog.spots : Prog → Nat → List Nat
  | .nil, _ => []
  | .turn _ r, i => r.spots (i + 1)
  | .step _ _ r, i => i :: r.spots (i + 1)
  | .rep _ _ r, i => i :: r.spots (i + 1)
  | .mir _ r, i => i :: r.spots (i + 1)
theorem Prog.spots_turns : ∀ (p : Prog) (i : Nat), p.allTurn = true ↔ p.spots i = []
  | .nil, _ => by simp [Prog.allTurn, Prog.spots]
  | .turn _ r, i => by rw [Prog.allTurn, Prog.spots]; exact Prog.spots_turns r (i + 1)
  | .step _ _ r, i => by simp [Prog.allTurn, Prog.spots]
  | .rep _ _ r, i => by simp [Prog.allTurn, Prog.spots]
  | .mir _ r, i => by simp [Prog.allTurn, Prog.spots]
theorem Prog.spots_len : ∀ (p : Prog) (i : Nat), (p.spots i).length ≤ p.len
  | .nil, _ => Nat.le_refl _
  | .turn _ r, i => by rw [Prog.spots, Prog.len]; have := Prog.spots_len r (i + 1); omega
  | .step _ _ r, i => by rw [Prog.spots, Prog.len, List.length_cons]; have := Prog.spots_len r (i + 1); omega
  | .rep _ _ r, i => by rw [Prog.spots, Prog.len, List.length_cons]; have := Prog.spots_len r (i + 1); omega
  | .mir _ r, i => by rw [Prog.spots, Prog.len, List.length_cons]; have := Prog.spots_len r (i + 1); omega
/-- not just one: no chain but of a short program -/
theorem Prog.sp_none : ∀ (p : Prog) (i : Nat), (p.spots i).length ≠ 1 → p.sp = none
  | .nil, _, _ => rfl
  | .turn k r, i, h => by rw [Prog.sp, Prog.sp_none r (i + 1) h]; rfl
  | .step _ _ r, i, h => rfl
  | .rep k b r, i, h => by
    rw [Prog.sp, if_neg fun z => h ?_]
    rw [Prog.spots, (Prog.spots_turns r (i + 1)).mp z]; rfl
  | .mir b r, i, h => by
    rw [Prog.sp, if_neg fun z => h ?_]
    rw [Prog.spots, (Prog.spots_turns r (i + 1)).mp z]; rfl
def TurnV (H : Hp) (v : V) (k : Int) : Prop := ∃ t, v = .ref t ∧ H t = some (.tup [.str "turn", .int k])
/-- what stands at the only command that is no turn -/
def OneAt (H : Hp) (d : Nat) (x : V) (s : Int) (y : Option (Int × Option Int × Option Ch)) : Prop :=
  (∃ w n t, x = .ref t ∧ H t = some (.tup [.str w, .str n]) ∧ IsWord w ∧ y = none) ∨
  (∃ k b t q d', x = .ref t ∧ H t = some (.tup [.str "repeat", .int k, .ref q]) ∧ PrIs H q b ∧ d = d' + 1 ∧ Wf BC BC d' b ∧ 1 ≤ b.len ∧ b.len ≤ 4000 ∧ y = some (s, some k, b.chain)) ∨
  (∃ b t q d', x = .ref t ∧ H t = some (.tup [.str "mirror", .ref q]) ∧ PrIs H q b ∧ d = d' + 1 ∧ Wf BC BC d' b ∧ 1 ≤ b.len ∧ b.len ≤ 4000 ∧ y = some (s, none, b.chain))
theorem spots_one {H : Hp} {d : Nat} : ∀ {p : Prog} {xs : List V} {j n : Nat}, PrAt H p xs → Wf BC BC d p → p.spots j = [n] →
    ∃ (pre post : List V) (ks : List Int) (x : V), xs = pre ++ x :: post ∧ n = j + pre.length ∧ Each (TurnV H) pre ks ∧ OneAt H d x ks.sum p.sp
  | .nil, _, _, _, _, _, h => by cases h
  | .turn k r, xs, j, n, hp, hw, h => by
    obtain ⟨c, ys, rfl, h1, h2⟩ := hp
    obtain ⟨pre, post, ks, x, e1, e2, e3, e4⟩ := spots_one h2 (WfL.turn_iff.mp hw).2 h
    refine ⟨.ref c :: pre, post, k :: ks, x, by rw [e1]; rfl, by rw [e2, List.length_cons]; omega, .cons ⟨c, rfl, h1⟩ e3, ?_⟩
    rw [List.sum_cons, Prog.sp]
    rcases e4 with ⟨w, m, t, a1, a2, a3, a4⟩ | ⟨k', b, t, q, d', a1, a2, a3, a4, a5, a6, a7, a8⟩ | ⟨b, t, q, d', a1, a2, a3, a4, a5, a6, a7, a8⟩
    · exact .inl ⟨w, m, t, a1, a2, a3, by rw [a4]; rfl⟩
    · exact .inr (.inl ⟨k', b, t, q, d', a1, a2, a3, a4, a5, a6, a7, by rw [a8]; rfl⟩)
    · exact .inr (.inr ⟨b, t, q, d', a1, a2, a3, a4, a5, a6, a7, by rw [a8]; rfl⟩)
  | .step w m r, xs, j, n, hp, hw, h => by
    obtain ⟨c, ys, rfl, h1, h2⟩ := hp
    rw [Prog.spots] at h
    obtain ⟨rfl, _⟩ := List.cons.inj h
    exact ⟨[], ys, [], .ref c, rfl, rfl, .nil, .inl ⟨w, m, c, rfl, h1, (WfL.step_iff.mp hw).1, rfl⟩⟩
  | .rep k b r, xs, j, n, hp, hw, h => by
    obtain ⟨c, q, zs, ys, rfl, h1, h2, h3, h4⟩ := hp
    rw [Prog.spots] at h
    obtain ⟨rfl, hr⟩ := List.cons.inj h
    cases d with
    | zero => exact hw.elim
    | succ d =>
      obtain ⟨w1, w2, w3, w4⟩ := id hw
      refine ⟨[], ys, [], .ref c, rfl, rfl, .nil, .inr (.inl ⟨k, b, c, q, d, rfl, h1, ⟨zs, h2, h3⟩, rfl, w3, w2.1, w2.2, ?_⟩)⟩
      rw [Prog.sp, if_pos ((Prog.spots_turns r _).mpr hr)]
      rfl
  | .mir b r, xs, j, n, hp, hw, h => by
    obtain ⟨c, q, zs, ys, rfl, h1, h2, h3, h4⟩ := hp
    rw [Prog.spots] at h
    obtain ⟨rfl, hr⟩ := List.cons.inj h
    cases d with
    | zero => exact hw.elim
    | succ d =>
      obtain ⟨w2, w3, w4⟩ := id hw
      refine ⟨[], ys, [], .ref c, rfl, rfl, .nil, .inr (.inr ⟨b, c, q, d, rfl, h1, ⟨zs, h2, h3⟩, rfl, w3, w2.1, w2.2, ?_⟩)⟩
      rw [Prog.sp, if_pos ((Prog.spots_turns r _).mpr hr)]
      rfl
/-! ### a comprehension over enumerate of a tuple -/
theorem u_lcE {K : PySem.W.Frag} {σ : L2.St} {H : Hp} {g : TG} {p : Addr} {xs : List V} {tt : TT} {te : TE} {vs : List Nat} {Qd : Addr → Hp → Prop} (h : SqT K H p xs) (I : Addr → Nat → List V → Hp → Prop) (h0 : ∀ D, H D = none → I D 0 [] (upd H D (.lst [])))
    (hl : ∀ D i acc H', H D = none → H' D = some (.lst acc) → I D i acc H' → SqT K H' p xs)
    (hs : ∀ D i x T acc H', H D = none → xs[i]? = some x → H' D = some (.lst acc) → I D i acc H' → H' T = none → g (.ref T) (wipe σ vs) (upd H' T (.tup [.int (i : Nat), x])) fun σ2 H2 => wipe σ2 vs = wipe σ vs ∧ tt σ2 H2 fun b H3 => if b = true then te σ2 H3 fun y H4 => LcPush D I i H4 y else LcSkip D I i H3)
    (hd : ∀ D acc H', H D = none → H' D = some (.lst acc) → I D xs.length acc H' → Qd D H') :
    ∃ a ys, [V.ref p] = [.ref a] ∧ SqT K H a ys ∧ ∀ D, H D = none → ∃ W : Nat → Nat → Hp → Prop, (∃ m, W 0 m (upd H D (.lst []))) ∧ ∀ i m H, W i m H →
      ((IteT K a).stop i H ∧ Qd D H) ∨ ((IteT K a).go i H ∧ ∃ Nx : Hp → Prop, (∀ H', Nx H' → ∃ m', m' < m ∧ W (i + 1) m' H') ∧ ∀ x H', (IteT K a).yld i H x H' → g x (wipe σ vs) H' fun σ2 H2 => wipe σ2 vs = wipe σ vs ∧ tt σ2 H2 fun b H3 =>
        if b = true then te σ2 H3 fun y H4 => ∃ acc, H4 D = some (.lst acc) ∧ acc.length < sizeLine ∧ Nx (upd H4 D (.lst (acc ++ [y]))) else Nx H3) :=
  ⟨p, xs, rfl, h, fun D hD => lc_it walk_enumT (fun i H' => ∃ acc, H' D = some (.lst acc) ∧ I D i acc H') ⟨[], upd_same, h0 D hD⟩ (fun i H' _ ⟨acc, e, q⟩ => hl D i acc H' hD e q)
    (fun i x H1 H2 hi ⟨acc, e, q⟩ y => by
      obtain ⟨T, u, v, e1, e2, e3, e4, e5⟩ := y
      subst e1 e3
      cases e4
      have := hs D i v T acc H1 hD e5 e q e2
      refine cast ?_ this
      rfl) fun H' ⟨acc, e, q⟩ => hd D acc H' hD e q⟩
end My

set_option Elab.async false
set_option linter.all false
set_option maxRecDepth 100000
set_option maxHeartbeats 4000000
namespace My
open PySem PySem.Spec PyProof.Rows L2
/-! ### draws out of a pot (a bag) -/
def spTake : Sp := fun vs H Q _ => ∃ (a : Addr) (n : Int), vs = [.ref a, .int n] ∧ Bag H a ∧ 0 < n ∧ n ≤ 10000000000000000000000000000000 ∧ ∀ (r : Int) H', 0 ≤ r → r < n → But a H H' → Bag H' a → Q (.int r) H'
theorem u_take {H : Hp} {Q : VK} {E : XK} {a : Addr} {n : Int} (h : Bag H a) (n0 : 0 < n) (n1 : n ≤ 10000000000000000000000000000000) (q : ∀ (r : Int) H', 0 ≤ r → r < n → But a H H' → Bag H' a → Q (.int r) H') : spTake [.ref a, .int n] H Q E := ⟨a, n, rfl, h, n0, n1, q⟩
def spOne : Sp := fun vs H Q _ => ∃ (a l : Addr) (ss : List Str), vs = [.ref a, .ref l] ∧ Bag H a ∧ l ≠ a ∧ H l = some (.lst (ss.map V.str)) ∧ 1 ≤ ss.length ∧ ss.length ≤ 30 ∧ (∀ x ∈ ss, IsName x) ∧ ∀ (t : Addr) (wd n : Str) H', But a H H' → Bag H' a → IsWord wd → IsName n → H' t = some (.tup [.str wd, .str n]) → Q (.ref t) H'
def spOften : Sp := fun vs H Q _ => ∃ (a : Addr) (z : Int), vs = [.ref a, .int z] ∧ Bag H a ∧ ∀ (n : Int) H', 1 ≤ n → n ≤ 1000000000000000000000000000000 → But a H H' → Bag H' a → Q (.int n) H'
/-- a program of turns alone -/
def Prog.turnsOnly : Prog → Prop
  | .nil => True
  | .turn k r => -1000000000000000000000000000000 ≤ k ∧ k ≤ 1000000000000000000000000000000 ∧ Prog.turnsOnly r
  | _ => False
def spTurns : Sp := fun vs H Q _ => ∃ (a : Addr) (m z : Int), vs = [.ref a, .int m, .int z] ∧ Bag H a ∧ 0 ≤ m ∧ m ≤ 100 ∧ ∀ (l : Addr) (xs : List V) (p : Prog) H', But a H H' → Bag H' a → H l = none → H' l = some (.lst xs) → PrAt H' p xs → p.turnsOnly → (p.len : Int) ≤ m → Q (.ref l) H'
theorem turns_app : ∀ {p q : Prog}, p.turnsOnly → q.turnsOnly → (p.app q).turnsOnly
  | .nil, _, _, h => h
  | .turn _ r, _, ⟨a, b, h⟩, g => ⟨a, b, turns_app (p := r) h g⟩
  | .step _ _ _, _, h, _ => h.elim
  | .rep _ _ _, _, h, _ => h.elim
  | .mir _ _, _, h, _ => h.elim
theorem atI_strs {ss : List Str} {n : Int} (h0 : 0 ≤ n) (h1 : n < ss.length) : ∃ x, atI (ss.map V.str) n = some (.str x) ∧ x ∈ ss := by
  obtain ⟨v, e, hv⟩ := atI_get (xs := ss.map V.str) h0 (by rw [List.length_map]; exact h1)
  obtain ⟨x, hx, rfl⟩ := List.mem_map.mp hv
  exact ⟨x, e, hx⟩
end My

set_option Elab.async false
set_option linter.all false
set_option maxRecDepth 100000
set_option maxHeartbeats 4000000
namespace My
open PySem PySem.Spec PyProof.Rows L2
/-! ### bits of programs, drawn -/
def SgAt (H : Hp) (l : Addr) (ss : List Str) : Prop := H l = some (.lst (ss.map V.str)) ∧ 1 ≤ ss.length ∧ ss.length ≤ 30 ∧ ∀ x ∈ ss, IsName x
theorem SgAt.but {H H' : Hp} {a l : Addr} {ss : List Str} (h : SgAt H l ss) (la : l ≠ a) (s : But a H H') : SgAt H' l ss := ⟨s _ _ la h.1, h.2⟩
def spBits : Sp := fun vs H Q _ => ∃ (a l : Addr) (ss : List Str) (m F : Int), vs = [.ref a, .ref l, .int m, .int F] ∧ Bag H a ∧ l ≠ a ∧ SgAt H l ss ∧ 1 ≤ m ∧ m ≤ 100 ∧ 1 ≤ F ∧ F ≤ 12 ∧
  ∀ (l' : Addr) (xs : List V) (p : Prog) H', But a H H' → Bag H' a → H l' = none → H' l' = some (.lst xs) → PrAt H' p xs → WfL 4000 1 (2 * F) 0 p → p.wayIn F 0 → 1 ≤ p.len → (p.len : Int) ≤ 2 * m → Q (.ref l') H'
def spRingOf : Sp := fun vs H Q _ => ∃ (a l : Addr) (ss : List Str) (m F : Int), vs = [.ref a, .ref l, .int m, .int F] ∧ Bag H a ∧ l ≠ a ∧ SgAt H l ss ∧ 0 ≤ m ∧ m ≤ 100 ∧ 1 ≤ F ∧ F ≤ 12 ∧
  ∀ (t : Addr) (wd n : Str) (k u : Int) H', But a H H' → Bag H' a → PrAt H' (.rep k (.step wd n (.turn u .nil)) .nil) [.ref t] → IsWord wd → IsName n → 2 ≤ k → k ≤ 6 → -12 ≤ u → u ≤ 12 → -12 ≤ k * u ∧ k * u ≤ 12 → Q (.ref t) H'
def spPlLt : Nat → Sp
  | 0 => fun _ _ _ _ => False
  | d + 1 => fun vs H Q _ => ∃ (a : Addr) (p : Prog) (s : Int), vs = [.ref a, .int s] ∧ (s = 1 ∨ s = -1) ∧ PrIs H a p ∧ Wf BC BC d p ∧ p.size ≤ 4000 ∧
    ∀ l xs H', H l = none → Same H H' → H' l = some (.lst xs) → PrAt H' (Prog.unroll s p) xs → Q (.ref l) H'
end My

set_option Elab.async false
set_option linter.all false
set_option maxRecDepth 100000
namespace My
open PySem PySem.Spec PyProof.Rows L2
/-! ### a division of polynomials -/
theorem Canon.last : ∀ {ts : Terms} {q : Int × Int}, Canon ts → ts.getLast? = some q → ∀ p ∈ ts, p.1 ≤ q.1
  | [], _, _, _, _, hp => by cases hp
  | [a], q, _, h, p, hp => by
    rw [List.mem_singleton.mp hp]
    simp at h
    rw [h]; exact Int.le_refl _
  | a :: b :: ts, q, hc, h, p, hp => by
    rw [List.getLast?_cons_cons] at h
    have ih := Canon.last hc.tail h
    rcases List.mem_cons.mp hp with rfl | hp
    · have h1 := (List.pairwise_cons.mp hc.asc).1 b (.head _)
      have h2 := ih b (.head _)
      omega
    · exact ih p hp
theorem Canon.high {ts : Terms} {q : Int × Int} (h : Canon ts) (e : ts.getLast? = some q) {k : Int} (hk : q.1 < k) : cof ts k = 0 := cof_none fun p hp z => by have := h.last e p hp; omega
theorem Canon.low' {ts : Terms} {q : Int × Int} (h : Canon ts) (e : ts.head? = some q) {k : Int} (hk : k < q.1) : cof ts k = 0 := by
  cases ts with
  | nil => cases e
  | cons p ts => cases e; exact h.low hk
/-- a polynomial by which one can divide: least power 0, greatest power w, 1 or -1 at both ends -/
structure DivT (ds : Terms) (w : Int) : Prop where
  canon : Canon ds
  lo : ∃ e, ds.head? = some (0, e) ∧ (e = 1 ∨ e = -1)
  hi : ∃ e, ds.getLast? = some (w, e) ∧ (e = 1 ∨ e = -1)
theorem mem_head {α : Type} {l : List α} {x : α} (h : l.head? = some x) : x ∈ l := by cases l with | nil => cases h | cons a l => cases h; exact .head _
theorem DivT.w0 {ds : Terms} {w : Int} (D : DivT ds w) : 0 ≤ w := by
  obtain ⟨e, h, _⟩ := D.lo
  obtain ⟨e', h', _⟩ := D.hi
  exact D.canon.last h' _ (mem_head h)
theorem DivT.neg {ds : Terms} {w k : Int} (D : DivT ds w) (h : k < 0) : cof ds k = 0 := by
  obtain ⟨e, h', _⟩ := D.lo
  exact D.canon.low' h' h
theorem DivT.up {ds : Terms} {w k : Int} (D : DivT ds w) (h : w < k) : cof ds k = 0 := by
  obtain ⟨e, h', _⟩ := D.hi
  exact D.canon.high h' h
theorem supp_mem {ts : Terms} {k : Int} (h : cof ts k ≠ 0) : k ∈ ts.map (·.1) := by
  refine Decidable.byContradiction fun z => h (cof_none fun p hp e => z (List.mem_map.mpr ⟨p, hp, e⟩))
/-- the division under way: the terms so far, what is left -/
structure DivS (c : Int → Int) (ds : Terms) (w lo hi : Int) (n1 i B M : Nat) (T : Terms) (L : Int → Int) : Prop where
  eq : ∀ k, c k = cmul T (cof ds) k + L k
  up : ∀ k, w ≤ k → hi + 1 - i ≤ k → L k = 0
  dn : ∀ k, k < 0 → k < lo + ((i - n1 : Nat) : Int) → L k = 0
  bd : ∀ k, (L k).natAbs ≤ B * (1 + M) ^ i
  tb : ∀ p ∈ T, p.2.natAbs ≤ B * (1 + M) ^ i
theorem DivS.start {c : Int → Int} {ds : Terms} {w lo hi : Int} {n1 B M : Nat} (h1 : ∀ k, hi < k → c k = 0) (h2 : ∀ k, k < lo → c k = 0) (h3 : ∀ k, (c k).natAbs ≤ B) : DivS c ds w lo hi n1 0 B M [] c :=
  ⟨fun k => by rw [cmul]; omega, fun k _ hk => h1 k (by omega), fun k _ hk => h2 k (by simpa using hk), fun k => by simpa using h3 k, fun _ h => by cases h⟩
theorem pow_up (B M i : Nat) : B * (1 + M) ^ i ≤ B * (1 + M) ^ (i + 1) := Nat.mul_le_mul_left _ (Nat.pow_le_pow_right (by omega) (by omega))
theorem DivS.same {c : Int → Int} {ds : Terms} {w lo hi : Int} {n1 i B M : Nat} {T : Terms} {L : Int → Int} (h : DivS c ds w lo hi n1 i B M T L) (hz : (i < n1 → L (hi - i) = 0) ∧ (n1 ≤ i → L (lo + ((i - n1 : Nat) : Int)) = 0)) (hn : n1 = (hi - w + 1).toNat) : DivS c ds w lo hi n1 (i + 1) B M T L := by
  refine ⟨h.eq, fun k h1 h2 => ?_, fun k h1 h2 => ?_, fun k => Nat.le_trans (h.bd k) (pow_up _ _ _), fun p hp => Nat.le_trans (h.tb p hp) (pow_up _ _ _)⟩
  · by_cases e : hi + 1 - i ≤ k
    · exact h.up k h1 e
    · by_cases hi' : i < n1
      · have := hz.1 hi'
        rw [show k = hi - i by omega]; exact this
      · exact h.up k h1 (by omega)
  · by_cases e : k < lo + ((i - n1 : Nat) : Int)
    · exact h.dn k h1 e
    · by_cases hi' : i < n1
      · exact h.dn k h1 (by omega)
      · have := hz.2 (by omega)
        rw [show k = lo + ((i - n1 : Nat) : Int) by omega]; exact this
end My

set_option Elab.async false
set_option linter.all false
set_option maxRecDepth 100000
namespace My
open PySem PySem.Spec PyProof.Rows L2
/-! ### jars whose powers lie within bounds -/
def JarIn (H : Hp) (a : Addr) (lo hi : Int) (c : Int → Int) : Prop := ∃ kvs, H a = some (.dK kvs) ∧ JarK kvs ∧ (∀ p ∈ kvs, ∃ k : Int, p.1 = Sum.inl k ∧ lo ≤ k ∧ k ≤ hi) ∧ ∀ k, cfK kvs k = c k
theorem nodup_le : ∀ {us bs : List Int}, us.Nodup → (∀ k ∈ us, k ∈ bs) → us.length ≤ bs.length
  | [], _, _, _ => Nat.zero_le _
  | u :: us, bs, h, hs => by
    obtain ⟨h1, h2⟩ := List.nodup_cons.mp h
    have hu := hs u (.head _)
    have : us.length ≤ (bs.erase u).length := nodup_le h2 fun k hk => by
      have hne : k ≠ u := by rintro rfl; exact h1 hk
      exact (List.mem_erase_of_ne hne).mpr (hs k (.tail _ hk))
    rw [List.length_erase_of_mem hu] at this
    have : 0 < bs.length := List.length_pos_of_mem hu
    rw [List.length_cons]
    omega
section
variable {H H' : Hp} {a p b : Addr} {lo hi : Int} {c d : Int → Int} {o : HO}
theorem JarIn.new {H : Hp} : JarIn (upd H p (.dK [])) p lo hi fun _ => 0 := ⟨[], upd_same, .nil, fun _ h => absurd h (by simp), fun _ => rfl⟩
theorem JarIn.same (h : JarIn H a lo hi c) (s : Same H H') : JarIn H' a lo hi c := let ⟨kvs, e, r⟩ := h; ⟨kvs, s _ _ e, r⟩
theorem JarIn.upd (h : JarIn H a lo hi c) (ne : a ≠ b) : JarIn (upd H b o) a lo hi c := let ⟨kvs, e, r⟩ := h; ⟨kvs, (upd_ne ne).trans e, r⟩
theorem JarIn.ext (h : JarIn H a lo hi c) (e : ∀ k, c k = d k) : JarIn H a lo hi d := let ⟨kvs, e1, r1, r2, r3⟩ := h; ⟨kvs, e1, r1, r2, fun k => (r3 k).trans (e k)⟩
theorem JarIn.wide {lo' hi' : Int} (h : JarIn H a lo hi c) (l : lo' ≤ lo) (u : hi ≤ hi') : JarIn H a lo' hi' c := let ⟨kvs, e1, r1, r2, r3⟩ := h; ⟨kvs, e1, r1, fun p hp => let ⟨k, a, b, d⟩ := r2 p hp; ⟨k, a, by omega, by omega⟩, r3⟩
theorem JarIn.at (h : JarIn H a lo hi c) : JarAt H a (hi - lo + 1).toNat c := by
  obtain ⟨kvs, e, hk, hb, hc⟩ := h
  refine ⟨kvs, e, hk, ?_, hc⟩
  obtain ⟨ks, e1, e2, e3, e4⟩ := hk.keys
  rw [← e4]
  refine Nat.le_trans (nodup_le (bs := (List.range (hi - lo + 1).toNat).map fun i => lo + (i : Nat)) e2 fun k hk' => ?_) (by rw [List.length_map, List.length_range]; exact Nat.le_refl _)
  have : Sum.inl k ∈ kvs.map (·.1) := by rw [e1]; exact List.mem_map.mpr ⟨k, hk', rfl⟩
  obtain ⟨q, hq, eq⟩ := List.mem_map.mp this
  obtain ⟨k', e5, l, u⟩ := hb q hq
  rw [eq] at e5
  cases e5
  exact List.mem_map.mpr ⟨(k - lo).toNat, List.mem_range.mpr (by omega), by omega⟩
theorem JarIn.isD {R : Addr → Prop} (h : JarIn H a lo hi c) (q : R a) : ∃ b, V.ref a = .ref b ∧ IsD H b ∧ R b := h.at.isD q
theorem JarIn.dget0 (h : JarIn H a lo hi c) (k : Int) : ∃ o, DGet H a (.int k) o ∧ o.getD (.int 0) = .int (c k) := h.at.dget0 k
theorem JarIn.dput {k v : Int} (h : JarIn H a lo hi c) (l : lo ≤ k) (u : k ≤ hi) (w : hi - lo ≤ 90000) : ∃ H', DPut H a (.int k) (.int v) H' ∧ But a H H' ∧ (∀ p, H p = none → p ≠ a → H' p = none) ∧ JarIn H' a lo hi (addAt c k v) := by
  have hn : (hi - lo + 1).toNat ≤ 1000000 := by omega
  obtain ⟨kvs0, e0, _, hl, _⟩ := h.at
  obtain ⟨kvs, e, hk, hb, hc⟩ := h
  cases e0.symm.trans e
  refine ⟨_, DPut.k (k := .inl k) e (Nat.lt_of_le_of_lt (Nat.le_trans hl hn) (by decide)), But.self (But.refl a H), fun p hp np => (upd_ne np).trans hp, _, upd_same, hk.put k v, fun q hq => ?_, fun j => ?_⟩
  · rcases mem_put hq with hq | rfl
    · exact hb q hq
    · exact ⟨k, rfl, l, u⟩
  · rw [cfK_put, hc]; rfl
end
def foldT (n : Int) (ts : Terms) : Terms := ts.map fun q => (q.1 % n, q.2)
theorem cof_foldT_low {n : Int} (h : 1 ≤ n) {ts : Terms} {k : Int} (hk : k < 0 ∨ n ≤ k) : cof (foldT n ts) k = 0 := cof_none fun p hp e => by
  obtain ⟨q, _, rfl⟩ := List.mem_map.mp hp
  have := Int.emod_nonneg q.1 (b := n) (by omega)
  have := Int.emod_lt_of_pos q.1 (b := n) (by omega)
  have : q.1 % n = k := e
  omega
end My

set_option Elab.async false
set_option linter.all false
set_option maxRecDepth 100000
set_option maxHeartbeats 2000000
namespace My
open PySem PySem.Spec PyProof.Rows L2
/-! ### max(d), d a dict of int keys -/
/-- the greatest power of a jar -/
def JarMax (H : Hp) (a : Addr) (w : Int) : Prop := ∃ kvs : List (Key × V), H a = some (.dK kvs) ∧ JarK kvs ∧ Sum.inl w ∈ kvs.map (·.1) ∧ ∀ p ∈ kvs, ∃ k : Int, p.1 = Sum.inl k ∧ k ≤ w
theorem JarMax.same {H H' : Hp} {a : Addr} {w : Int} (h : JarMax H a w) (s : Same H H') : JarMax H' a w := let ⟨kvs, e, r⟩ := h; ⟨kvs, s _ _ e, r⟩
theorem JarIn.max {H : Hp} {a : Addr} {lo w : Int} {c : Int → Int} (h : JarIn H a lo w c) (nz : c w ≠ 0) : JarMax H a w := by
  obtain ⟨kvs, e, hk, hb, hc⟩ := h
  refine ⟨kvs, e, hk, ?_, fun p hp => let ⟨k, e1, _, e2⟩ := hb p hp; ⟨k, e1, e2⟩⟩
  refine Classical.byContradiction fun z => nz ?_
  rw [← hc]
  unfold cfK
  cases hv : valV kvs (Sum.inl w) with
  | none => rfl
  | some v => exact absurd (List.mem_map.mpr ⟨_, val_mem hv, rfl⟩) z
end My

set_option Elab.async false
set_option linter.all false
set_option maxRecDepth 100000
namespace My
open PySem PySem.Spec PyProof.Rows L2
/-! ### jars whose keys are told -/
def JarS (H : Hp) (a : Addr) (n : Nat) (S : Int → Prop) (c : Int → Int) : Prop := ∃ kvs, H a = some (.dK kvs) ∧ JarK kvs ∧ kvs.length ≤ n ∧ (∀ p ∈ kvs, ∃ k : Int, p.1 = Sum.inl k ∧ S k) ∧ ∀ k, cfK kvs k = c k
section
variable {H H' : Hp} {a p b : Addr} {n : Nat} {S T : Int → Prop} {c d : Int → Int} {o : HO}
theorem JarS.new {H : Hp} : JarS (upd H p (.dK [])) p 0 S fun _ => 0 := ⟨[], upd_same, .nil, Nat.le_refl _, fun _ h => absurd h (by simp), fun _ => rfl⟩
theorem JarS.same (h : JarS H a n S c) (s : Same H H') : JarS H' a n S c := let ⟨kvs, e, r⟩ := h; ⟨kvs, s _ _ e, r⟩
theorem JarS.but (h : JarS H a n S c) (ne : a ≠ b) (s : But b H H') : JarS H' a n S c := let ⟨kvs, e, r⟩ := h; ⟨kvs, s _ _ ne e, r⟩
theorem JarS.upd (h : JarS H a n S c) (ne : a ≠ b) : JarS (upd H b o) a n S c := let ⟨kvs, e, r⟩ := h; ⟨kvs, (upd_ne ne).trans e, r⟩
theorem JarS.ext (h : JarS H a n S c) (e : ∀ k, c k = d k) : JarS H a n S d := let ⟨kvs, e1, r1, r2, r3, r4⟩ := h; ⟨kvs, e1, r1, r2, r3, fun k => (r4 k).trans (e k)⟩
theorem JarS.mono {m : Nat} (h : JarS H a n S c) (l : n ≤ m) : JarS H a m S c := let ⟨kvs, e1, r1, r2, r3⟩ := h; ⟨kvs, e1, r1, Nat.le_trans r2 l, r3⟩
theorem JarS.wide (h : JarS H a n S c) (s : ∀ k, S k → T k) : JarS H a n T c := let ⟨kvs, e1, r1, r2, r3, r4⟩ := h; ⟨kvs, e1, r1, r2, fun p hp => let ⟨k, e, q⟩ := r3 p hp; ⟨k, e, s k q⟩, r4⟩
theorem JarS.at (h : JarS H a n S c) : JarAt H a n c := let ⟨kvs, e, r1, r2, _, r4⟩ := h; ⟨kvs, e, r1, r2, r4⟩
theorem JarS.in {lo hi : Int} (h : JarS H a n S c) (s : ∀ k, S k → lo ≤ k ∧ k ≤ hi) : JarIn H a lo hi c := let ⟨kvs, e, r1, _, r3, r4⟩ := h; ⟨kvs, e, r1, fun p hp => let ⟨k, e, q⟩ := r3 p hp; ⟨k, e, s k q⟩, r4⟩
theorem JarS.isD {R : Addr → Prop} (h : JarS H a n S c) (q : R a) : ∃ b, V.ref a = .ref b ∧ IsD H b ∧ R b := h.at.isD q
theorem JarS.dget0 (h : JarS H a n S c) (k : Int) : ∃ o, DGet H a (.int k) o ∧ o.getD (.int 0) = .int (c k) := h.at.dget0 k
theorem JarS.dput {k v : Int} (h : JarS H a n S c) (s : S k) (hn : n ≤ 1000000) : ∃ H', DPut H a (.int k) (.int v) H' ∧ But a H H' ∧ (∀ p, H p = none → p ≠ a → H' p = none) ∧ JarS H' a (n + 1) S (addAt c k v) := by
  obtain ⟨kvs, e, hk, hl, hb, hc⟩ := h
  refine ⟨_, DPut.k (k := .inl k) e (Nat.lt_of_le_of_lt (Nat.le_trans hl hn) (by decide)), But.self (But.refl a H), fun p hp np => (upd_ne np).trans hp, _, upd_same, hk.put k v, ?_, fun q hq => ?_, fun j => ?_⟩
  · exact Nat.le_trans (length_putK _ _ _) (by omega)
  · rcases mem_put hq with hq | rfl
    · exact hb q hq
    · exact ⟨k, rfl, s⟩
  · rw [cfK_put, hc]; rfl
theorem JarS.supp (h : JarS H a n S c) {k : Int} (hk : c k ≠ 0) : S k := by
  obtain ⟨kvs, e, hj, hl, hb, hc⟩ := h
  rw [← hc] at hk
  unfold cfK at hk
  cases hv : valV kvs (Sum.inl k) with
  | none => rw [hv] at hk; exact absurd rfl hk
  | some v =>
    obtain ⟨k', e', s⟩ := hb _ (val_mem hv)
    cases e'
    exact s
theorem JarS.free (h : JarS H a n S c) (q : H p = none) : p ≠ a := h.at.ne q
end
theorem JarIn.s {H : Hp} {a : Addr} {lo hi : Int} {c : Int → Int} (h : JarIn H a lo hi c) : JarS H a (hi - lo + 1).toNat (fun k => lo ≤ k ∧ k ≤ hi) c := by
  obtain ⟨kvs, e, hk, hl, hc⟩ := h.at
  obtain ⟨kvs', e', hk', hb, hc'⟩ := h
  cases e.symm.trans e'
  exact ⟨kvs, e, hk, hl, hb, hc⟩
/-! ### the numbers of a divisor -/
structure DivC (c : Int → Int) (w : Int) (M : Nat) : Prop where
  w0 : 0 ≤ w
  e0 : c 0 = 1 ∨ c 0 = -1
  ew : c w = 1 ∨ c w = -1
  low : ∀ k, k < 0 → c k = 0
  high : ∀ k, w < k → c k = 0
  bd : ∀ k, (c k).natAbs ≤ M
theorem DivC.mono {c : Int → Int} {w : Int} {M N : Nat} (h : DivC c w M) (l : M ≤ N) : DivC c w N := ⟨h.w0, h.e0, h.ew, h.low, h.high, fun k => Nat.le_trans (h.bd k) l⟩
/-- a divisor of the law: the polynomial, its dict -/
def BaseAt (C : Addr) (H : Hp) (r j : Addr) (w : Int) (c : Int → Int) (M : Nat) : Prop := (∃ ds, PolyAt C H r ds ∧ ∀ k, cof ds k = c k) ∧ JarIn H j 0 w c ∧ DivC c w M
theorem BaseAt.same {C : Addr} {H H' : Hp} {r j : Addr} {w : Int} {c : Int → Int} {M : Nat} (h : BaseAt C H r j w c M) (s : Same H H') : BaseAt C H' r j w c M := let ⟨⟨ds, a, b⟩, j, d⟩ := h; ⟨⟨ds, a.same s, b⟩, j.same s, d⟩
theorem JarIn.but {H H' : Hp} {a b : Addr} {lo hi : Int} {c : Int → Int} (h : JarIn H a lo hi c) (ne : a ≠ b) (s : But b H H') : JarIn H' a lo hi c := let ⟨kvs, e, r⟩ := h; ⟨kvs, s _ _ ne e, r⟩
theorem JarIn.nb {H : Hp} {a b : Addr} {lo hi : Int} {c : Int → Int} (h : JarIn H a lo hi c) (g : Bag H b) : a ≠ b := by
  obtain ⟨kvs, e, _⟩ := h
  obtain ⟨x, y, z, e', _⟩ := g
  rintro rfl
  rw [e] at e'
  cases e'
theorem BaseAt.but {C : Addr} {H H' : Hp} {r j b : Addr} {w : Int} {c : Int → Int} {M : Nat} (h : BaseAt C H r j w c M) (g : Bag H b) (s : But b H H') : BaseAt C H' r j w c M := let ⟨⟨ds, a, e⟩, j, d⟩ := h; ⟨⟨ds, a.stay (Stay.bag s g), e⟩, j.but (j.nb g) s, d⟩
/-- the tuple of a quotient and a rest -/
def Parts (C : Addr) (H : Hp) (t : Addr) (qs rs : Terms) : Prop := ∃ q r, H t = some (.tup [.ref q, .ref r]) ∧ PolyAt C H q qs ∧ PolyAt C H r rs
theorem Parts.same {C : Addr} {H H' : Hp} {t : Addr} {qs rs : Terms} (h : Parts C H t qs rs) (s : Same H H') : Parts C H' t qs rs := let ⟨q, r, a, b, c⟩ := h; ⟨q, r, s _ _ a, b.same s, c.same s⟩
end My

set_option Elab.async false
set_option linter.all false
set_option maxRecDepth 100000
namespace M11
def strip : Nat → Nat → Nat → Nat
  | 0, l, _ => l
  | f + 1, l, d => if l % d = 0 then strip f (l / d) d else l
def pf : Nat → Nat → Nat → List Nat
  | 0, _, _ => []
  | f + 1, l, d => if d * d ≤ l then (if l % d = 0 then d :: pf f (strip 14 l d) (d + 1) else pf f l (d + 1)) else (if 1 < l then [l] else [])
def primes (n : Nat) : List Nat := pf 200 n 2
def phi (n : Nat) : Nat := (primes n).foldl (fun r p => r / p * (p - 1)) n
end M11

set_option Elab.async false
set_option linter.all false
set_option maxRecDepth 100000
namespace My
open PySem PySem.Spec PyProof.Rows L2
section
variable {X : Cx}
end
/-! ### jars by their entries -/
def jarK (ks : List Int) (c : Int → Int) : List (Key × V) := ks.map fun q => (Sum.inl q, V.int (c q))
theorem jarK_at {ks : List Int} {c : Int → Int} {i : Nat} {k : Key} {v : V} (h : (jarK ks c)[i]? = some (k, v)) : ∃ q, ks[i]? = some q ∧ k = .inl q ∧ v = .int (c q) := by
  unfold jarK at h
  rw [List.getElem?_map] at h
  cases e : ks[i]? with
  | none => rw [e] at h; cases h
  | some q => rw [e] at h; cases h; exact ⟨q, rfl, rfl, rfl⟩
theorem jarK_len (ks : List Int) (c : Int → Int) : (jarK ks c).length = ks.length := List.length_map _
theorem val_of_mem : ∀ {kvs : List (Key × V)}, (kvs.map (·.1)).Nodup → ∀ {k : Key} {v : V}, (k, v) ∈ kvs → valV kvs k = some v
  | [], _, _, _, h => by cases h
  | p :: l, nd, k, v, h => by
    rw [List.map_cons] at nd
    obtain ⟨h1, h2⟩ := List.nodup_cons.mp nd
    unfold valV
    rw [List.find?_cons]
    by_cases e : p.1 = k
    · rw [decide_eq_true e]
      rcases List.mem_cons.mp h with h | h
      · rw [← h]; rfl
      · exact absurd (List.mem_map.mpr ⟨_, h, rfl⟩) (by rw [e] at h1; exact h1)
    · rw [decide_eq_false e]
      rcases List.mem_cons.mp h with h | h
      · exact absurd (by rw [← h]) e
      · exact val_of_mem h2 h
theorem JarK.ents {kvs : List (Key × V)} (h : JarK kvs) {ks : List Int} (hk : kvs.map (·.1) = ks.map Sum.inl) : kvs = jarK ks (cfK kvs) := by
  have hl : kvs.length = ks.length := by have := congrArg List.length hk; simpa using this
  refine List.ext_getElem? fun i => ?_
  unfold jarK
  rw [List.getElem?_map]
  by_cases hi : i < kvs.length
  · rw [List.getElem?_eq_getElem hi, List.getElem?_eq_getElem (show i < ks.length by omega)]
    have h1 : (kvs.map (·.1))[i]? = Option.some (Sum.inl (ks[i]'(by omega)) : Key) := by rw [hk, List.getElem?_map, List.getElem?_eq_getElem (show i < ks.length by omega)]; rfl
    rw [List.getElem?_map, List.getElem?_eq_getElem hi] at h1
    have h2 : kvs[i].1 = Sum.inl (ks[i]'(by omega)) := Option.some.inj h1
    have hm : kvs[i] ∈ kvs := List.getElem_mem _
    obtain ⟨k, n, e⟩ := h.prs _ hm
    rw [e] at h2 hm
    have h3 : k = ks[i]'(by omega) := Sum.inl.inj h2
    have h5 := val_of_mem h.nd hm
    have h4 : cfK kvs k = n := by unfold cfK; rw [h5]
    rw [e, ← h3]
    show Option.some (Sum.inl k, V.int n) = Option.some (Sum.inl k, V.int (cfK kvs k))
    rw [h4]
  · rw [List.getElem?_eq_none (by omega), List.getElem?_eq_none (by omega)]
    rfl
theorem JarIn.items {H : Hp} {a : Addr} {lo hi : Int} {c : Int → Int} (h : JarIn H a lo hi c) : ∃ ks : List Int, H a = some (.dK (jarK ks c)) ∧ ks.Nodup ∧ (∀ k ∈ ks, lo ≤ k ∧ k ≤ hi) ∧ ∀ k, ¬ k ∈ ks → c k = 0 := by
  obtain ⟨kvs, e, hk, hb, hc⟩ := h
  obtain ⟨ks, e1, e2, e3, e4⟩ := hk.keys
  have e5 := hk.ents e1
  have e6 : jarK ks (cfK kvs) = jarK ks c := List.map_congr_left fun q _ => by rw [hc]
  refine ⟨ks, by rw [e, ← e6, ← e5], e2, fun k hk' => ?_, fun k hk' => by rw [← hc]; exact e3 k hk'⟩
  have : Sum.inl k ∈ kvs.map (·.1) := by rw [e1]; exact List.mem_map.mpr ⟨k, hk', rfl⟩
  obtain ⟨q, hq, eq⟩ := List.mem_map.mp this
  obtain ⟨k', e7, l, u⟩ := hb q hq
  rw [eq] at e7
  cases e7
  exact ⟨l, u⟩
theorem jarK_keys (ks : List Int) (c : Int → Int) : (jarK ks c).map (·.1) = ks.map Sum.inl := by unfold jarK; rw [List.map_map]; rfl
theorem jarK_jar {ks : List Int} (nd : ks.Nodup) (c : Int → Int) : JarK (jarK ks c) := ⟨fun p hp => by
  obtain ⟨q, _, rfl⟩ := List.mem_map.mp hp
  exact ⟨_, _, rfl⟩, by rw [jarK_keys]; exact List.pairwise_map.mpr (nd.imp fun a z => a (Sum.inl.inj z))⟩
theorem JarIn.of {H : Hp} {a : Addr} {lo hi : Int} {c : Int → Int} {ks : List Int} (h : H a = some (.dK (jarK ks c))) (nd : ks.Nodup) (b : ∀ k ∈ ks, lo ≤ k ∧ k ≤ hi) (z : ∀ k, ¬ k ∈ ks → c k = 0) : JarIn H a lo hi c := by
  have J := jarK_jar nd c
  refine ⟨_, h, J, fun p hp => ?_, fun k => ?_⟩
  · obtain ⟨q, hq, rfl⟩ := List.mem_map.mp hp
    exact ⟨q, rfl, (b q hq).1, (b q hq).2⟩
  · by_cases e : k ∈ ks
    · have hm : (Sum.inl k, V.int (c k)) ∈ jarK ks c := List.mem_map.mpr ⟨k, e, rfl⟩
      unfold cfK
      rw [val_of_mem J.nd hm]
    · obtain ⟨ks', e1, _, e3, _⟩ := J.keys
      rw [jarK_keys] at e1
      have e2 : ks = ks' := by
        have := congrArg (List.map fun k : Key => match k with | .inl q => q | .inr _ => 0) e1
        rw [List.map_map, List.map_map] at this
        exact (List.map_id ks).symm.trans (this.trans (List.map_id ks'))
      rw [z k e]
      exact e3 k (by rw [← e2]; exact e)
/-- a jar without numbers 0 -/
def JarE (H : Hp) (a : Addr) (n : Nat) (c : Int → Int) : Prop := ∃ ks : List Int, H a = some (.dK (jarK ks c)) ∧ ks.Nodup ∧ (∀ k ∈ ks, 0 ≤ k ∧ k < n ∧ c k ≠ 0) ∧ ∀ k, ¬ k ∈ ks → c k = 0
theorem JarE.same {H H' : Hp} {a : Addr} {n : Nat} {c : Int → Int} (h : JarE H a n c) (s : Same H H') : JarE H' a n c := let ⟨ks, e, r⟩ := h; ⟨ks, s _ _ e, r⟩
theorem JarE.at {H : Hp} {a : Addr} {n : Nat} {c : Int → Int} (h : JarE H a n c) : JarIn H a 0 ((n : Int) - 1) c := let ⟨ks, e, nd, b, z⟩ := h; .of e nd (fun k hk => ⟨(b k hk).1, by have := (b k hk).2.1; omega⟩) z
section
variable {σ : L2.St} {H : Hp} {Q : VK} {td te : TE} {R : It → Hp → Prop} {D : Ends} {g : TG} {tb : TS} {d : Addr} {od : Obj} {ks : List Int} {c : Int → Int}
end
/-! ### rows by what the powers leave -/
def stepF (n s : Nat) (c : Int → Int) : Int → Int := fun k => if 0 ≤ k ∧ k < n then c k - c ((k + s) % n) else 0
def foldR (n : Nat) (ps : List Nat) (c : Int → Int) : Int → Int := ps.foldl (fun c p => stepF n (n / p) c) c
theorem foldR_out {n : Nat} {c : Int → Int} (h : ∀ k : Int, ¬ (0 ≤ k ∧ k < n) → c k = 0) : ∀ (ps : List Nat) (k : Int), ¬ (0 ≤ k ∧ k < n) → foldR n ps c k = 0
  | [], k, z => h k z
  | p :: ps, k, z => foldR_out (c := stepF n (n / p) c) (fun (k : Int) z => if_neg z) ps k z
theorem Same.unlock {H H' : Hp} {t : Addr} {o u : HO} (h : H t = some u) (s : Same (upd H t o) H') : Same H (upd H' t u) := fun x w e => by
  by_cases hx : x = t
  · subst hx; rw [upd_same, ← e, h]
  · rw [upd_ne hx]; exact s x w ((upd_ne hx).trans e)
theorem But.unlock {H H' : Hp} {t b : Addr} {o u : HO} (h : H t = some u) (s : But b (upd H t o) H') : But b H (upd H' t u) := fun x w nb e => by
  by_cases hx : x = t
  · subst hx; rw [upd_same, ← e, h]
  · rw [upd_ne hx]; exact s x w nb ((upd_ne hx).trans e)
theorem key_len {ks : List Int} {n : Nat} (nd : ks.Nodup) (b : ∀ k ∈ ks, 0 ≤ k ∧ k ≤ (n : Int) - 1) : ks.length ≤ n := by
  have := nodup_le (bs := (List.range n).map fun i => ((i : Nat) : Int)) nd fun k hk => List.mem_map.mpr ⟨k.toNat, List.mem_range.mpr (by have := b k hk; omega), by have := b k hk; omega⟩
  rwa [List.length_map, List.length_range] at this
/-! ### zero at an order -/
def rowL (n : Nat) (ts : Terms) : List Int := (List.range n).map fun i => foldR n (M11.primes n) (cof (foldT n ts)) ((i : Nat) : Int)
theorem rowR_out {n : Nat} (n1 : 1 ≤ n) (ts : Terms) (ps : List Nat) (k : Int) (h : ¬ (0 ≤ k ∧ k < n)) : foldR n ps (cof (foldT n ts)) k = 0 :=
  foldR_out (fun k h => cof_foldT_low (by omega) (by omega)) ps k h
theorem rowL_zero {n : Nat} (n1 : 1 ≤ n) (ts : Terms) : (rowL n ts).all (· == 0) = true ↔ ∀ k, foldR n (M11.primes n) (cof (foldT n ts)) k = 0 := by
  rw [List.all_eq_true]
  constructor
  · intro h k
    by_cases e : 0 ≤ k ∧ k < n
    · have := h _ (List.mem_map.mpr ⟨k.toNat, List.mem_range.mpr (by omega), rfl⟩)
      rw [show ((k.toNat : Nat) : Int) = k by omega] at this
      exact beq_iff_eq.mp this
    · exact rowR_out n1 ts _ k e
  · intro h x hx
    obtain ⟨i, _, rfl⟩ := List.mem_map.mp hx
    exact beq_iff_eq.mpr (h _)
theorem JarE.len {H : Hp} {a : Addr} {n : Nat} {ts : Terms} (n1 : 1 ≤ n) (h : JarE H a n (foldR n (M11.primes n) (cof (foldT n ts)))) : ∃ kvs : List (Key × V), H a = some (.dK kvs) ∧ kvs.length ≤ n ∧ decide ((kvs.length : Int) = 0) = (rowL n ts).all (· == 0) := by
  obtain ⟨ks, e, nd, b, z⟩ := h
  refine ⟨_, e, by rw [jarK_len]; exact key_len nd fun k hk => ⟨(b k hk).1, by have := (b k hk).2.1; omega⟩, ?_⟩
  rw [jarK_len, Bool.eq_iff_iff, rowL_zero n1, decide_eq_true_iff]
  constructor
  · intro h k
    refine z k fun hk => ?_
    have := List.length_pos_of_mem hk
    omega
  · intro h
    cases ks with
    | nil => rfl
    | cons k l => exact absurd (h k) (b k (.head _)).2.2
/-! ### sums over terms -/
def sumT (f : Int → Int) : Terms → Int
  | [] => 0
  | p :: ts => p.2 * f p.1 + sumT f ts
theorem sumT_app (f : Int → Int) : ∀ (ts us : Terms), sumT f (ts ++ us) = sumT f ts + sumT f us
  | [], us => by rw [List.nil_append, sumT]; omega
  | p :: ts, us => by rw [List.cons_append, sumT, sumT, sumT_app f ts us]; omega
theorem sumT_neg (f : Int → Int) : ∀ (ts : Terms), sumT f (negT ts) = -sumT f ts
  | [] => rfl
  | p :: ts => by
    show -p.2 * f p.1 + sumT f (negT ts) = -(p.2 * f p.1 + sumT f ts)
    rw [sumT_neg f ts, Int.neg_mul]; omega
theorem sumT_part (f : Int → Int) (k : Int) : ∀ (ts : Terms), sumT f ts = cof ts k * f k + sumT f (ts.filter fun p => decide (p.1 ≠ k))
  | [] => by rw [cof]; simp [sumT]
  | p :: ts => by
    have ih := sumT_part f k ts
    rw [sumT, cof]
    by_cases e : p.1 = k
    · rw [if_pos e, List.filter_cons_of_neg (by simpa using e), ih, e, Int.add_mul]; omega
    · rw [if_neg e, List.filter_cons_of_pos (by simpa using e), sumT, ih, Int.zero_add]; omega
theorem cof_part (k : Int) : ∀ (ts : Terms) (j : Int), cof (ts.filter fun p => decide (p.1 ≠ k)) j = if j = k then 0 else cof ts j
  | [], j => by show (0 : Int) = if j = k then 0 else 0; split <;> rfl
  | p :: ts, j => by
    have ih := cof_part k ts j
    by_cases e : p.1 = k
    · rw [List.filter_cons_of_neg (by simpa using e), ih, cof]
      by_cases z : j = k
      · rw [if_pos z, if_pos z]
      · rw [if_neg z, if_neg z, if_neg (by omega)]; omega
    · rw [List.filter_cons_of_pos (by simpa using e), cof, ih, cof]
      by_cases z : j = k
      · rw [if_pos z, if_pos z, if_neg (by omega)]; rfl
      · rw [if_neg z, if_neg z]
theorem sumT_zero (f : Int → Int) : ∀ (n : Nat) (ts : Terms), ts.length ≤ n → (∀ k, cof ts k = 0) → sumT f ts = 0
  | _, [], _, _ => rfl
  | 0, p :: ts, h, _ => by simp at h
  | n + 1, p :: ts, h, z => by
    rw [sumT_part f p.1, z, List.filter_cons_of_neg (by simp), sumT_zero f n _ (Nat.le_trans (List.length_filter_le _ _) (by rw [List.length_cons] at h; omega)) (fun k => ?_)]
    · omega
    · have h1 := cof_part p.1 (p :: ts) k
      rw [List.filter_cons_of_neg (by simp)] at h1
      rw [h1, z]
      split <;> rfl
theorem sumT_ext (f : Int → Int) {ts us : Terms} (h : ∀ k, cof ts k = cof us k) : sumT f ts = sumT f us := by
  have := sumT_zero f _ (ts ++ negT us) (Nat.le_refl _) fun k => by rw [cof_app, cof_neg, h]; omega
  rw [sumT_app, sumT_neg] at this
  omega
theorem cof_foldT (n k : Int) : ∀ (ts : Terms), cof (foldT n ts) k = sumT (fun j => if j % n = k then 1 else 0) ts
  | [] => rfl
  | p :: ts => by
    show (if p.1 % n = k then p.2 else 0) + cof (foldT n ts) k = p.2 * (if p.1 % n = k then 1 else 0) + _
    rw [cof_foldT n k ts]
    by_cases e : p.1 % n = k
    · rw [if_pos e, if_pos e]; omega
    · rw [if_neg e, if_neg e]; omega
theorem foldT_ext {n : Int} {ts us : Terms} (h : ∀ k, cof ts k = cof us k) (k : Int) : cof (foldT n ts) k = cof (foldT n us) k := by
  rw [cof_foldT, cof_foldT]; exact sumT_ext _ h
theorem foldR_ext {n : Nat} : ∀ (ps : List Nat) {c d : Int → Int}, (∀ k, c k = d k) → ∀ k, foldR n ps c k = foldR n ps d k
  | [], _, _, h, k => h k
  | p :: ps, c, d, h, k => foldR_ext ps (c := stepF n (n / p) c) (d := stepF n (n / p) d) (fun k => by unfold stepF; rw [h, h]) k
end My

set_option Elab.async false
set_option linter.all false
set_option maxRecDepth 100000
namespace My
/-! ### for each order a prime number and an element of this order (printed by mk_LibFy.py) -/
end My

set_option Elab.async false
set_option linter.all false
set_option maxRecDepth 100000
namespace My
/-! ### rows of numbers, from the power 0 on -/
end My

set_option Elab.async false
set_option linter.all false
set_option maxRecDepth 100000
namespace My
open PySem PySem.Spec PyProof.Rows L2
/-! ### the rows of the ring polynomials -/
theorem DivT.of {ts : Terms} {w : Int} (hc : Canon ts) (h0 : cof ts 0 = 1 ∨ cof ts 0 = -1) (hw : cof ts w = 1 ∨ cof ts w = -1) (lo : ∀ k, k < 0 → cof ts k = 0) (hi : ∀ k, w < k → cof ts k = 0) : DivT ts w := by
  have m0 : (0 : Int) ∈ ts.map (·.1) := supp_mem (by rcases h0 with e | e <;> rw [e] <;> decide)
  have mw : w ∈ ts.map (·.1) := supp_mem (by rcases hw with e | e <;> rw [e] <;> decide)
  have ne : ts ≠ [] := by rintro rfl; cases m0
  have low : ∀ p ∈ ts, 0 ≤ p.1 := fun p hp => Int.not_lt.mp fun z => hc.nz p hp (by rw [← hc.at hp]; exact lo _ z)
  have high : ∀ p ∈ ts, p.1 ≤ w := fun p hp => Int.not_lt.mp fun z => hc.nz p hp (by rw [← hc.at hp]; exact hi _ z)
  refine ⟨hc, ?_, ?_⟩
  · cases hh : ts.head? with
    | none => exact absurd (List.head?_eq_none_iff.mp hh) ne
    | some p =>
      have pm := mem_head hh
      have p0 : p.1 = 0 := by
        refine Decidable.byContradiction fun z => ?_
        have := low p pm
        have := hc.low' hh (k := 0) (by omega)
        rcases h0 with e | e <;> omega
      refine ⟨p.2, ?_, ?_⟩
      · rw [← p0]
      · rw [← hc.at pm, p0]; exact h0
  · cases hh : ts.getLast? with
    | none => exact absurd (List.getLast?_eq_none_iff.mp hh) ne
    | some p =>
      have pm := List.mem_of_getLast? hh
      have p0 : p.1 = w := by
        refine Decidable.byContradiction fun z => ?_
        have := high p pm
        have := hc.high hh (k := w) (by omega)
        rcases hw with e | e <;> omega
      refine ⟨p.2, ?_, ?_⟩
      · rw [← p0]
      · rw [← hc.at pm, p0]; exact hw
end My

set_option Elab.async false
set_option linter.all false
set_option maxRecDepth 100000
namespace My
open PySem PySem.Spec PyProof.Rows L2
/-! ### a folded row of zeros: no less than phi wide -/
/-! polynomials as lists, from the power 0 on -/
/-! powers of a root -/
section
variable {L r : Int} {n : Nat}
end
theorem sumT_congr {f g : Int → Int} : ∀ {ts : Terms}, (∀ p ∈ ts, f p.1 = g p.1) → sumT f ts = sumT g ts
  | [], _ => rfl
  | p :: ts, h => by rw [sumT, sumT, h p (.head _), sumT_congr fun q hq => h q (.tail _ hq)]
theorem sumT_map (f : Int → Int) (m : Int → Int) (s : Int) : ∀ ts : Terms, sumT f (ts.map fun q => (m q.1, s * q.2)) = s * sumT (fun k => f (m k)) ts
  | [] => by simp [sumT]
  | p :: ts => by rw [List.map_cons, sumT, sumT, sumT_map f m s ts]; grind
/-! the fold, on terms -/
def tStep (n s : Nat) (ts : Terms) : Terms := ts ++ ts.map fun q => ((q.1 - s) % (n : Int), -1 * q.2)
def InN (n : Nat) (ts : Terms) : Prop := ∀ p ∈ ts, 0 ≤ p.1 ∧ p.1 < n
theorem InN.step {n : Nat} (n1 : 1 ≤ n) {ts : Terms} (h : InN n ts) (s : Nat) : InN n (tStep n s ts) := fun p hp => by
  rcases List.mem_append.mp hp with hp | hp
  · exact h p hp
  · obtain ⟨q, _, rfl⟩ := List.mem_map.mp hp
    exact ⟨Int.emod_nonneg _ (by omega), Int.emod_lt_of_pos _ (by omega)⟩
theorem InN.fold {n : Nat} (n1 : 1 ≤ n) (ts : Terms) : InN n (foldT n ts) := fun p hp => by
  obtain ⟨q, _, rfl⟩ := List.mem_map.mp hp
  exact ⟨Int.emod_nonneg _ (by omega), Int.emod_lt_of_pos _ (by omega)⟩
section
variable {L r : Int} {n : Nat}
end
/-! ### the certificate of an order -/
section
variable {n : Nat} {L g : Int}
end
end My

set_option Elab.async false
set_option linter.all false
set_option maxRecDepth 100000
namespace My
open PySem PySem.Spec PyProof.Rows L2
/-! ### o.m(k = v, ..), C(k = v, ..): all by name -/
structure KB1 (K : PySem.W.Frag) (fd : FuncData) (ps ks : List Str) : Prop where
  to : ∀ (s : Shared) (u : Value) (ws : List Value), K.In s.heap → ws.length = ks.length → BindsTo s fd ⟨[u], ks.zip ws⟩ (ps.zip (u :: ws))
section
variable {X : Cx} {C f : Addr} {fd : FuncData} {m x : Str} {k : Nat} {ps ks : List Str} {sp : Sp} {o : Expr} {kws : List Keyword} {p pos apos : Pos} {ta : TE} {tk : TA}
end
end My

set_option Elab.async false
set_option linter.all false
set_option maxRecDepth 100000
set_option maxHeartbeats 2000000
namespace My
open PySem PySem.Spec PyProof.Rows L2
/-! ### C(..) whose __init__ may raise -/
structure HasCX (P : Program) (w : World) (K : PySem.W.Frag) (mg : Str → Option Value) (base : Heap) (x : Str) (C : Addr) (k : Nat) (ps ks : List Str) (sp : Sp) : Prop where
  ex : ∃ f fd, FnOk P w K mg base (L2.CX P w) k f fd ps sp ∧ Mk K C f ∧ mg x = some (.ref C) ∧ Binds K fd ps [] ∧ KB1 K fd ps ks
theorem HasCX.calm {P : Program} {w : World} {K : PySem.W.Frag} {mg : Str → Option Value} {base : Heap} {x : Str} {C : Addr} {k : Nat} {ps ks : List Str} {sp : Sp} (h : HasCX P w K mg base x C k ps ks sp) : HasC P w K mg base x C k ps (fun vs H Q _ => sp vs H Q E0) := by
  obtain ⟨f, fd, F, a, b, c, _⟩ := h.ex
  exact ⟨f, fd, fnOk_calm F, a, b, c⟩
theorem HasC.imp {P : Program} {w : World} {K : PySem.W.Frag} {mg : Str → Option Value} {base : Heap} {x : Str} {C : Addr} {k : Nat} {ps : List Str} {sp sp' : Sp} (h : HasC P w K mg base x C k ps sp) (i : ∀ vs H Q E, sp' vs H Q E → sp vs H Q E) : HasC P w K mg base x C k ps sp' := by
  obtain ⟨f, fd, F, a, b, c⟩ := h.ex
  exact ⟨f, fd, F.imp i, a, b, c⟩
section
variable {X : Cx} {C f : Addr} {fd : FuncData} {x : Str} {k : Nat} {ps ks : List Str} {sp : Sp} {e : Expr} {es : List Expr} {kws : List Keyword} {p pos : Pos} {t tk : TA} {W : WX} {σ : L2.St} {H : Hp} {Q : VK}
end
/-! ### values that are no terms, no lists of terms -/
section
variable {K : PySem.W.Frag} {H H' : Hp} {v : V}
/-- of a type that is not T -/
def NotTy (K : PySem.W.Frag) (T : String) (H : Hp) (v : V) : Prop := ∃ t, TyE K H v t ∧ PySem.W.kitOne K t (.type T) = some false
def NotTerm (K : PySem.W.Frag) (H : Hp) (v : V) : Prop := NotTy K "tuple" H v ∨ ∃ p xs, v = .ref p ∧ H p = some (.tup xs) ∧ (xs.length ≠ 2 ∧ xs.length ≤ 1000 ∨ ∃ x y, xs = [x, y] ∧ (NotInt K H x ∨ ∃ i, x = .int i ∧ NotInt K H y))
def IsTerm (H : Hp) (v : V) : Prop := ∃ p x y, v = .ref p ∧ H p = some (.tup [.int x, .int y])
def BadList (K : PySem.W.Frag) (H : Hp) (v : V) : Prop := NotTy K "list" H v ∨ ∃ l xs, v = .ref l ∧ H l = some (.lst xs) ∧ xs.length ≤ 1000 ∧ (∀ x ∈ xs, (∀ H', Same H H' → NotTerm K H' x) ∨ IsTerm H x) ∧ ∃ x ∈ xs, ∀ H', Same H H' → NotTerm K H' x
end
end My

set_option Elab.async false
set_option linter.all false
set_option maxRecDepth 100000
set_option maxHeartbeats 2000000
namespace My
open PySem PySem.Spec PyProof.Rows L2
section
variable {K : PySem.W.Frag} {mg : Str → Option Value} {C : Addr} {H H' : Hp} {b p q l D : Addr} {x y v : V} {xs : List V}
/-- whatever the bag does, v is no integer, no term, no list of terms -/
def NotIntB (K : PySem.W.Frag) (H : Hp) (b : Addr) (v : V) : Prop := ∀ H', But b H H' → NotInt K H' v
def WrongB (K : PySem.W.Frag) (H : Hp) (b : Addr) (v : V) : Prop := ∀ H', But b H H' → NotTerm K H' v
def BadB (K : PySem.W.Frag) (H : Hp) (b : Addr) (v : V) : Prop := ∀ H', But b H H' → BadList K H' v
theorem NotIntB.but (h : NotIntB K H b v) (s : But b H H') : NotIntB K H' b v := fun H2 s2 => h H2 (s.trans s2)
theorem WrongB.but (h : WrongB K H b v) (s : But b H H') : WrongB K H' b v := fun H2 s2 => h H2 (s.trans s2)
theorem BadB.but (h : BadB K H b v) (s : But b H H') : BadB K H' b v := fun H2 s2 => h H2 (s.trans s2)
theorem BadB.now (h : BadB K H b v) : BadList K H v := h H (But.refl _ _)
theorem WrongB.all (h : WrongB K H b v) : ∀ H', Same H H' → NotTerm K H' v := fun H' s => h H' (Same.but s b)
theorem kk {a c : String} (h : kitB a c = some false) : PySem.W.kitOne K (.type a) (.type c) = some false := kit_ty h
/-! ### lists of truths as data -/
end
end My

set_option Elab.async false
set_option linter.all false
set_option maxRecDepth 100000
namespace My
open PySem PySem.Spec PyProof.Rows L2
/-! ### numbers within bounds -/
structure Numb (c : Int → Int) (N : Int) (B : Nat) : Prop where
  supp : ∀ k, c k ≠ 0 → -N ≤ k ∧ k ≤ N
  bd : ∀ k, (c k).natAbs ≤ B
  tm : ∃ ts : Terms, ∀ k, cof ts k = c k
theorem Numb.mono {c : Int → Int} {N N' : Int} {B B' : Nat} (h : Numb c N B) (n : N ≤ N') (b : B ≤ B') : Numb c N' B' := ⟨fun k hk => by have := h.supp k hk; omega, fun k => Nat.le_trans (h.bd k) b, h.tm⟩
theorem Numb.ext {c d : Int → Int} {N : Int} {B : Nat} (h : Numb c N B) (e : ∀ k, c k = d k) : Numb d N B := by rwa [show d = c from funext fun k => (e k).symm]
theorem Numb.len {c : Int → Int} {N : Int} {B : Nat} {ts : Terms} (h : Numb c N B) (hc : Canon ts) (e : ∀ k, cof ts k = c k) : ts.length ≤ (2 * N + 1).toNat := by
  have : ts.length ≤ ((List.range (2 * N + 1).toNat).map fun i => (((i : Nat) : Int) - N, (0 : Int))).length := hc.le_len fun p hp => by
    have := h.supp p.1 (by rw [← e, hc.at hp]; exact hc.nz p hp)
    rw [List.map_map]
    exact List.mem_map.mpr ⟨(p.1 + N).toNat, List.mem_range.mpr (by omega), show ((p.1 + N).toNat : Int) - N = p.1 by omega⟩
  rwa [List.length_map, List.length_range] at this
theorem Numb.sm {c : Int → Int} {N : Int} {B : Nat} (h : Numb c N B) (b : B ≤ 10 ^ 1000) : Sm c := fun k => Nat.lt_of_le_of_lt (Nat.le_trans (h.bd k) b) (by decide +kernel)
theorem Numb.shift {c : Int → Int} {N s M : Int} {B : Nat} (h : Numb c N B) (a : -M ≤ s) (b : s ≤ M) : Numb (fun k => c (k - s)) (N + M) B := ⟨fun k hk => by have := h.supp _ hk; omega, fun k => h.bd _, by
  obtain ⟨ts, e⟩ := h.tm
  exact ⟨shiftT s ts, fun k => (cof_shift s ts k).trans (e _)⟩⟩
theorem Numb.add {c d : Int → Int} {N M : Int} {B D : Nat} (h : Numb c N B) (g : Numb d M D) (l : M ≤ N) : Numb (fun k => c k + d k) N (B + D) := ⟨fun k hk => by
  by_cases e : c k = 0
  · have := g.supp k (fun z => hk (by rw [e, z]; rfl)); omega
  · exact h.supp k e, fun k => by have := h.bd k; have := g.bd k; omega, by
  obtain ⟨ts, e⟩ := h.tm
  obtain ⟨us, f⟩ := g.tm
  exact ⟨ts ++ us, fun k => by rw [cof_app, e, f]⟩⟩
theorem DivC.len {c : Int → Int} {w : Int} {M : Nat} {ts : Terms} (h : DivC c w M) (hc : Canon ts) (e : ∀ k, cof ts k = c k) : ts.length ≤ (w + 1).toNat := by
  have w0 := h.w0
  have : ts.length ≤ ((List.range (w + 1).toNat).map fun i => (((i : Nat) : Int), (0 : Int))).length := hc.le_len fun p hp => by
    have nz : c p.1 ≠ 0 := by rw [← e, hc.at hp]; exact hc.nz p hp
    have : ¬ p.1 < 0 := fun z => nz (h.low _ z)
    have : ¬ w < p.1 := fun z => nz (h.high _ z)
    rw [List.map_map]
    exact List.mem_map.mpr ⟨p.1.toNat, List.mem_range.mpr (by omega), show ((p.1.toNat : Nat) : Int) = p.1 by omega⟩
  rwa [List.length_map, List.length_range] at this
section
variable {C : Addr} {H : Hp} {Q : VK} {E : XK} {a r j : Addr} {ts : Terms} {w N : Int} {c cb : Int → Int} {B : Nat}
end
/-! ### products of three -/
/-- one of the things that are divided: a Poly, its dict, the quotient's dict where it is known -/
def Item5 (C : Addr) (cb : Int → Int) (H : Hp) (v : V) : Prop := ∃ (t p jj : Addr) (ts : Terms) (n : Nat) (c : Int → Int) (due : V), v = .ref t ∧ H t = some (.tup [.ref p, .ref jj, due]) ∧ PolyAt C H p ts ∧ (∀ k, cof ts k = c k) ∧ JarAt H jj n c ∧ n ≤ 90000 ∧ Numb c 100 (10 ^ 60) ∧
  (due = .non ∨ ∃ (dj : Addr) (nd : Nat) (cd : Int → Int), due = .ref dj ∧ JarAt H dj nd cd ∧ nd ≤ 90000 ∧ (∃ td, ∀ k, cof td k = cd k) ∧ ∀ k, c k = mulF cb cd k)
theorem Item5.same {C : Addr} {cb : Int → Int} {H H' : Hp} {v : V} (h : Item5 C cb H v) (s : Same H H') : Item5 C cb H' v := by
  obtain ⟨t, p, jj, ts, n, c, due, e, h1, h2, h3, h4, h5, h6, h7⟩ := h
  refine ⟨t, p, jj, ts, n, c, due, e, s _ _ h1, h2.same s, h3, h4.same s, h5, h6, ?_⟩
  rcases h7 with h7 | ⟨dj, nd, cd, e, h8, r⟩
  · exact .inl h7
  · exact .inr ⟨dj, nd, cd, e, h8.same s, r⟩
end My

set_option Elab.async false
set_option linter.all false
set_option maxRecDepth 100000
namespace My
open PySem PySem.Spec PyProof.Rows L2
/-! ### polynomials acting on rows -/
/-- zero at an order: the row is one of zeros -/
def Zr (n : Nat) (ts : Terms) : Prop := ∀ k, foldR n (M11.primes n) (cof (foldT n ts)) k = 0
theorem Zr.ext {n : Nat} {ts us : Terms} (h : Zr n ts) (e : ∀ k, cof ts k = cof us k) : Zr n us := fun k => by
  rw [← foldR_ext _ (foldT_ext e) k]; exact h k
def mulN (n : Nat) (f : Terms) (c : Int → Int) : Int → Int := fun k => if 0 ≤ k ∧ k < n then sumT (fun d => c ((k - d) % n)) f else 0
theorem sumT_sub (f g : Int → Int) : ∀ ts : Terms, sumT (fun k => f k - g k) ts = sumT f ts - sumT g ts
  | [] => rfl
  | p :: ts => by rw [sumT, sumT, sumT, sumT_sub f g ts, Int.mul_sub]; omega
theorem mod_in {n : Nat} (n1 : 1 ≤ n) (x : Int) : 0 ≤ x % (n : Int) ∧ x % (n : Int) < n := ⟨Int.emod_nonneg _ (by omega), Int.emod_lt_of_pos _ (by omega)⟩
theorem step_mul {n : Nat} (n1 : 1 ≤ n) (s : Nat) (f : Terms) (c : Int → Int) (k : Int) : stepF n s (mulN n f c) k = mulN n f (stepF n s c) k := by
  unfold stepF mulN
  by_cases e : 0 ≤ k ∧ k < n
  · rw [if_pos e, if_pos e, if_pos e, if_pos (mod_in n1 _), ← sumT_sub]
    refine sumT_congr fun p _ => ?_
    show c ((k - p.1) % (n : Int)) - c (((k + (s : Int)) % (n : Int) - p.1) % n) = if 0 ≤ (k - p.1) % (n : Int) ∧ (k - p.1) % (n : Int) < n then c ((k - p.1) % (n : Int)) - c (((k - p.1) % (n : Int) + s) % n) else 0
    rw [if_pos (mod_in n1 _)]
    have h1 : ((k + (s : Int)) % (n : Int) - p.1) % n = ((k - p.1) % n + s) % n := by
      rw [Int.emod_sub_emod, Int.emod_add_emod]
      congr 1
      omega
    rw [h1]
  · rw [if_neg e, if_neg e]
theorem foldR_mulN {n : Nat} (n1 : 1 ≤ n) (f : Terms) : ∀ (ps : List Nat) (c : Int → Int) (k : Int), foldR n ps (mulN n f c) k = mulN n f (foldR n ps c) k
  | [], _, _ => rfl
  | p :: ps, c, k => by
    show foldR n ps (stepF n (n / p) (mulN n f c)) k = mulN n f (foldR n ps (stepF n (n / p) c)) k
    rw [foldR_ext ps (step_mul n1 (n / p) f c)]
    exact foldR_mulN n1 f ps _ k
theorem sumT_row (h : Int → Int) (p : Int × Int) : ∀ us : Terms, sumT h (rowT p us) = p.2 * sumT (fun e => h (p.1 + e)) us
  | [] => by simp [rowT, sumT]
  | q :: us => by
    have ih := sumT_row h p us
    show p.2 * q.2 * h (p.1 + q.1) + sumT h (rowT p us) = p.2 * (q.2 * h (p.1 + q.1) + sumT (fun e => h (p.1 + e)) us)
    rw [ih, Int.mul_add, Int.mul_assoc]
theorem sumT_prod (h : Int → Int) : ∀ (f g : Terms), sumT h (prodT f g) = sumT (fun d => sumT (fun e => h (d + e)) g) f
  | [], _ => rfl
  | p :: f, g => by rw [prodT, sumT_app, sumT_row, sumT_prod h f g, sumT]
theorem cof_foldT_prod {n : Nat} (n1 : 1 ≤ n) (f g : Terms) (k : Int) : cof (foldT n (prodT f g)) k = mulN n f (cof (foldT n g)) k := by
  unfold mulN
  by_cases e : 0 ≤ k ∧ k < n
  · rw [if_pos e, cof_foldT, sumT_prod]
    refine sumT_congr fun p _ => ?_
    rw [cof_foldT]
    refine sumT_congr fun q _ => ?_
    have key : (p.1 + q.1) % (n : Int) = k ↔ q.1 % n = (k - p.1) % n := by
      constructor
      · intro z
        rw [← z, Int.emod_sub_emod]
        congr 1
        omega
      · intro z
        have h1 : (p.1 + q.1) % (n : Int) = (p.1 + (k - p.1)) % n := by rw [← Int.add_emod_emod, z, Int.add_emod_emod]
        rw [h1, show p.1 + (k - p.1) = k by omega]
        exact Int.emod_eq_of_lt e.1 e.2
    by_cases z : (p.1 + q.1) % (n : Int) = k
    · rw [if_pos z, if_pos (key.mp z)]
    · rw [if_neg z, if_neg fun y => z (key.mpr y)]
  · rw [if_neg e]
    exact cof_foldT_low (by omega) (by omega)
theorem fold_prod {n : Nat} (n1 : 1 ≤ n) (f g : Terms) (k : Int) : foldR n (M11.primes n) (cof (foldT n (prodT f g))) k = mulN n f (foldR n (M11.primes n) (cof (foldT n g))) k := by
  rw [foldR_ext _ (cof_foldT_prod n1 f g), foldR_mulN n1]
theorem sumT_zeros : ∀ (ts : Terms), sumT (fun _ => 0) ts = 0
  | [] => rfl
  | p :: ts => by rw [sumT, sumT_zeros ts]; omega
theorem Zr.prod {n : Nat} (n1 : 1 ≤ n) {g : Terms} (h : Zr n g) (f : Terms) : Zr n (prodT f g) := fun k => by
  rw [fold_prod n1]
  unfold mulN
  split
  · exact (sumT_congr (f := fun d => foldR n (M11.primes n) (cof (foldT n g)) ((k - d) % n)) (g := fun _ => 0) fun p _ => h _).trans (sumT_zeros f)
  · rfl
/-! ### a number greater than all others together -/
structure Heavy (f : Terms) : Prop where
  ex : ∃ (D v : Int) (rest : Terms), (∀ k, cof f k = cof ((D, v) :: rest) k) ∧ (rest.map fun p => p.2.natAbs).sum < v.natAbs
theorem sumT_le {h : Int → Int} {M : Nat} (b : ∀ k, (h k).natAbs ≤ M) : ∀ ts : Terms, (sumT h ts).natAbs ≤ (ts.map fun p => p.2.natAbs).sum * M
  | [] => by simp [sumT]
  | p :: ts => by
    have ih := sumT_le b ts
    rw [sumT, List.map_cons, List.sum_cons, Nat.add_mul]
    have h1 : (p.2 * h p.1).natAbs ≤ p.2.natAbs * M := by rw [Int.natAbs_mul]; exact Nat.mul_le_mul_left _ (b _)
    omega
theorem max_at (u : Int → Int) : ∀ n : Nat, 1 ≤ n → ∃ i : Nat, i < n ∧ ∀ j : Nat, j < n → (u j).natAbs ≤ (u i).natAbs
  | 0, h => by omega
  | 1, _ => ⟨0, by omega, fun j hj => by rw [show j = 0 by omega]; exact Nat.le_refl _⟩
  | n + 2, _ => by
    obtain ⟨i, hi, h⟩ := max_at u (n + 1) (by omega)
    by_cases e : (u ((n + 1 : Nat) : Int)).natAbs ≤ (u i).natAbs
    · exact ⟨i, by omega, fun j hj => by
        by_cases z : j = n + 1
        · rw [z]; exact e
        · exact h j (by omega)⟩
    · exact ⟨n + 1, by omega, fun j hj => by
        by_cases z : j = n + 1
        · rw [z]; exact Nat.le_refl _
        · have := h j (by omega); omega⟩
theorem Heavy.zero {f g : Terms} (hf : Heavy f) {n : Nat} (n1 : 1 ≤ n) (h : Zr n (prodT f g)) : Zr n g := by
  obtain ⟨D, v, rest, e, hv⟩ := hf.ex
  have hu : ∀ k, mulN n f (foldR n (M11.primes n) (cof (foldT n g))) k = 0 := fun k => by rw [← fold_prod n1]; exact h k
  have hout := fun k => rowR_out n1 g (M11.primes n) k
  show ∀ k, foldR n (M11.primes n) (cof (foldT n g)) k = 0
  generalize foldR n (M11.primes n) (cof (foldT n g)) = u at *
  obtain ⟨i, hi, hmax⟩ := max_at u n n1
  have hall : ∀ k, (u k).natAbs ≤ (u i).natAbs := fun k => by
    by_cases z : 0 ≤ k ∧ k < n
    · have := hmax k.toNat (by omega)
      rwa [show ((k.toNat : Nat) : Int) = k by omega] at this
    · rw [hout k z]; omega
  have h1 := hu (((i : Int) + D) % n)
  unfold mulN at h1
  rw [if_pos (mod_in n1 _), sumT_ext _ e, sumT] at h1
  have h2 : ((((i : Int) + D) % (n : Int)) - D) % n = i := by
    rw [Int.emod_sub_emod, show (i : Int) + D - D = i by omega]
    exact Int.emod_eq_of_lt (by omega) (by omega)
  rw [show (D, v).1 = D from rfl, h2] at h1
  have h3 := sumT_le (h := fun d => u ((((i : Int) + D) % (n : Int) - d) % n)) (fun k => hall _) rest
  have h4 : (v * u i).natAbs ≤ (rest.map fun p => p.2.natAbs).sum * (u i).natAbs := by
    have : v * u i = -sumT (fun d => u ((((i : Int) + D) % (n : Int) - d) % n)) rest := by
      have h5 : (D, v).2 * u i = v * u i := rfl
      omega
    rw [this, Int.natAbs_neg]
    exact h3
  rw [Int.natAbs_mul] at h4
  have h5 : (u i).natAbs = 0 := by
    refine Decidable.byContradiction fun z => ?_
    have := Nat.mul_lt_mul_of_pos_right hv (by omega : 0 < (u i).natAbs)
    omega
  intro k
  have := hall k
  omega
theorem Heavy.one (D v : Int) (h : v ≠ 0) : Heavy [(D, v)] := ⟨⟨D, v, [], fun _ => rfl, by simp; omega⟩⟩
theorem Heavy.ext {f g : Terms} (h : Heavy f) (e : ∀ k, cof f k = cof g k) : Heavy g := let ⟨⟨D, v, r, e1, e2⟩⟩ := h; ⟨⟨D, v, r, fun k => (e k).symm.trans (e1 k), e2⟩⟩
theorem heavy_iff {f g : Terms} (hf : Heavy f) {n : Nat} (n1 : 1 ≤ n) : Zr n (prodT f g) ↔ Zr n g := ⟨hf.zero n1, fun h => h.prod n1 f⟩
theorem Zr_shift {n : Nat} (n1 : 1 ≤ n) (s : Int) (g : Terms) : Zr n (shiftT s g) ↔ Zr n g := by
  have e : ∀ k, cof (prodT [(s, 1)] g) k = cof (shiftT s g) k := fun k => by
    rw [cof_prod, cmul, cmul, cof_shift]
    show 1 * cof g (k - s) + 0 = _
    omega
  refine Iff.trans ?_ (heavy_iff (Heavy.one s 1 (by decide)) n1)
  exact ⟨fun h => h.ext fun k => (e k).symm, fun h => h.ext e⟩
theorem Zr_neg {n : Nat} (n1 : 1 ≤ n) (g : Terms) : Zr n (negT g) ↔ Zr n g := by
  have e : ∀ k, cof (prodT [(0, -1)] g) k = cof (negT g) k := fun k => by
    rw [cof_prod, cmul, cmul, cof_neg]
    show -1 * cof g (k - 0) + 0 = _
    rw [Int.sub_zero]; omega
  refine Iff.trans ?_ (heavy_iff (Heavy.one 0 (-1) (by decide)) n1)
  exact ⟨fun h => h.ext fun k => (e k).symm, fun h => h.ext e⟩
/-! ### the mirror -/
def RevOf (n : Nat) (c d : Int → Int) : Prop := ∃ (σ t : Int), (σ = 1 ∨ σ = -1) ∧ (∀ k : Int, 0 ≤ k → k < n → d k = σ * c ((-(k + t)) % n)) ∧ ∀ k : Int, ¬ (0 ≤ k ∧ k < n) → d k = 0
theorem RevOf.step {n : Nat} (n1 : 1 ≤ n) {c d : Int → Int} (h : RevOf n c d) (s : Nat) : RevOf n (stepF n s c) (stepF n s d) := by
  obtain ⟨σ, t, hs, hd, ho⟩ := h
  refine ⟨-σ, t + s, by omega, fun k k0 k1 => ?_, fun k hk => if_neg hk⟩
  have m := mod_in n1 (k + s)
  have mj := mod_in n1 (-(k + (t + s)))
  unfold stepF
  rw [if_pos ⟨k0, k1⟩, if_pos mj, hd k k0 k1, hd _ m.1 m.2]
  have e1 : (-((k + (s : Int)) % (n : Int) + t)) % n = (-(k + (t + s))) % n := by
    rw [show -((k + (s : Int)) % (n : Int) + t) = -t - (k + s) % n by omega, Int.sub_emod_emod]
    congr 1
    omega
  have e2 : ((-(k + (t + (s : Int)))) % (n : Int) + s) % n = (-(k + t)) % n := by
    rw [Int.emod_add_emod]
    congr 1
    omega
  rw [e1, e2]
  rcases hs with rfl | rfl <;> omega
theorem RevOf.fold {n : Nat} (n1 : 1 ≤ n) : ∀ (ps : List Nat) {c d : Int → Int}, RevOf n c d → RevOf n (foldR n ps c) (foldR n ps d)
  | [], _, _, h => h
  | p :: ps, c, d, h => RevOf.fold n1 ps (h.step n1 (n / p))
theorem revOf_mir {n : Nat} (n1 : 1 ≤ n) (ts : Terms) : RevOf n (cof (foldT n ts)) (cof (foldT n (mirT ts))) := by
  refine ⟨1, 0, .inl rfl, fun k k0 k1 => ?_, fun k hk => cof_foldT_low (by omega) (by omega)⟩
  rw [Int.one_mul, Int.add_zero, cof_foldT, cof_foldT]
  have e : mirT ts = ts.map fun q => ((fun j => -j) q.1, 1 * q.2) := List.map_congr_left fun q _ => by rw [Int.one_mul]
  rw [e, sumT_map _ (fun j => -j) 1 ts, Int.one_mul]
  refine sumT_congr fun p _ => ?_
  have key : (-p.1) % (n : Int) = k ↔ p.1 % n = (-k) % n := by
    constructor
    · intro z
      rw [← z, show -(-p.1 % (n : Int)) = 0 - (-p.1) % n by omega, Int.sub_emod_emod]
      congr 1
      omega
    · intro z
      have h1 : (-p.1) % (n : Int) = (0 - (-k)) % n := by
        rw [← Int.sub_emod_emod, ← z, Int.sub_emod_emod]
        congr 1
        omega
      rw [h1, show 0 - -k = k by omega]
      exact Int.emod_eq_of_lt k0 k1
  by_cases z : (-p.1) % (n : Int) = k
  · rw [if_pos z, if_pos (key.mp z)]
  · rw [if_neg z, if_neg fun y => z (key.mpr y)]
theorem Zr.mir {n : Nat} (n1 : 1 ≤ n) {ts : Terms} (h : Zr n ts) : Zr n (mirT ts) := fun k => by
  obtain ⟨σ, t, _, h1, h2⟩ := (revOf_mir n1 ts).fold n1 (M11.primes n)
  by_cases e : 0 ≤ k ∧ k < n
  · rw [h1 k e.1 e.2, h]; omega
  · exact h2 k e
theorem mir_mir (ts : Terms) : mirT (mirT ts) = ts := by
  unfold mirT
  rw [List.map_map]
  exact (List.map_congr_left fun p _ => by show (- -p.1, p.2) = p; rw [Int.neg_neg]).trans (List.map_id' ts)
theorem Zr_mir {n : Nat} (n1 : 1 ≤ n) (ts : Terms) : Zr n (mirT ts) ↔ Zr n ts := ⟨fun h => by have := h.mir n1; rwa [mir_mir] at this, fun h => h.mir n1⟩
/-! ### what is zero is wide enough; so it is told -/
end My

set_option Elab.async false
set_option linter.all false
set_option maxRecDepth 100000
set_option maxHeartbeats 4000000
namespace My
open PySem PySem.Spec PyProof.Rows L2
section
variable {P : Program} {w : World} {A : Around} {E : Value → Shared → Prop} {s : Shared}
end
end My

set_option Elab.async false
set_option linter.all false
set_option maxRecDepth 100000
set_option maxHeartbeats 4000000
namespace My
open PySem PySem.Spec PyProof.Rows L2
section
variable {X : Cx}
end
end My

set_option Elab.async false
set_option linter.all false
set_option maxRecDepth 100000
set_option maxHeartbeats 4000000
namespace My
open PySem PySem.Spec PyProof.Rows L2
/-! ### sets of texts: what LibOt and LibOs have for ints -/
abbrev kS (P : Program) (w : World) := PySem.strKind P w
def txtOf (e : Int × Value) : Str := match e.2 with | .str k _ => k | _ => Str.empty
def TxtE (P : Program) (w : World) (e : Int × Value) : Prop := ∃ k tk, e.2 = Value.str k tk ∧ e.1 = (kS P w).hash k
/-- the set of texts at a -/
def TxtSet (P : Program) (w : World) (h : Heap) (a : Addr) (S : Str → Bool) (n : Nat) : Prop :=
  ∃ o es ep t, h.get? a = some o ∧ o.ExactSet ∧ o.data = .set es ep t ∧ (∀ e ∈ es.toList, TxtE P w e) ∧ (es.toList.map txtOf).Nodup ∧ (∀ k, S k = true ↔ k ∈ es.toList.map txtOf) ∧
    es.size < scanBound ∧ t.fits es.size = true ∧ es.size = n ∧ Ris t.place.toList ∧ (w.params.followText "set-order" = true ∨ t.led = true)
section
variable {P : Program} {w : World} {h h' : Heap} {a : Addr} {S : Str → Bool} {n : Nat}
theorem TxtSet.at (R : TxtSet P w h a S n) (k : ∀ o, h.get? a = some o → h'.get? a = some o) : TxtSet P w h' a S n := by
  obtain ⟨o, es, ep, t, ho, r⟩ := R
  exact ⟨o, es, ep, t, k o ho, r⟩
theorem TxtSet.congr {S' : Str → Bool} (R : TxtSet P w h a S n) (e : ∀ k, S' k = S k) : TxtSet P w h a S' n := by
  obtain rfl : S' = S := funext e
  exact R
end
section
variable {P : Program} {w : World} {A : Around} {E : Value → Shared → Prop} {s : Shared} {a : Addr} {S : Str → Bool} {n : Nat}
end
section
variable {X : Cx}
end
end My

set_option Elab.async false
set_option linter.all false
set_option maxRecDepth 100000
set_option maxHeartbeats 2000000
namespace My
open PySem PySem.Spec PyProof.Rows L2
namespace Prog
theorem wayIn_mono {f g : Int} (l : f ≤ g) : ∀ {p : Prog} {h : Int}, wayIn f h p → wayIn g h p
  | .nil, _, _ => trivial
  | .step w m r, h, x => wayIn_mono l (p := r) x
  | .turn t r, h, x => ⟨by have := x.1; omega, wayIn_mono l (p := r) x.2⟩
  | .rep _ _ _, _, x => x.elim
  | .mir _ _, _, x => x.elim
theorem wayIn_shift {f g d : Int} (h1 : -g ≤ d) (h2 : d ≤ g) : ∀ {p : Prog} {h : Int}, wayIn f h p → wayIn (f + g) (h + d) p
  | .nil, _, _ => trivial
  | .step w m r, h, x => wayIn_shift h1 h2 (p := r) x
  | .turn t r, h, x => by
    have e : h + d + t = h + t + d := by omega
    have x1 := x.1
    refine ⟨by omega, ?_⟩
    rw [e]
    exact wayIn_shift h1 h2 (p := r) x.2
  | .rep _ _ _, _, x => x.elim
  | .mir _ _, _, x => x.elim
/-- the last heading lies within -/
theorem wayIn_head {L : Nat} {C T : Int} {f : Int} : ∀ {p : Prog} {h : Int}, WfL L C T 0 p → -f ≤ h → h ≤ f → wayIn f h p → -f ≤ h + p.head ∧ h + p.head ≤ f
  | .nil, h, _, a, b, _ => by rw [head]; omega
  | .step w m r, h, hw, a, b, x => wayIn_head (p := r) (WfL.step_iff.mp hw).2.2 a b x
  | .turn t r, h, hw, a, b, x => by
    have x1 := x.1
    have := wayIn_head (p := r) (h := h + t) (WfL.turn_iff.mp hw).2 (by omega) (by omega) x.2
    rw [head]
    omega
  | .rep _ _ _, _, hw, _, _, _ => hw.elim
  | .mir _ _, _, hw, _, _, _ => hw.elim
end Prog
/-! ### places as lists of names and terms -/
/-- an entry (name, list of terms), its list with F -/
def PlF (F : Addr → Prop) (H : Hp) (v : V) (e : Str × Terms) : Prop := ∃ b l, v = .ref b ∧ H b = some (.tup [.str e.1, .ref l]) ∧ F l ∧ TermsAt H l e.2
theorem PlF.same {F : Addr → Prop} {H H' : Hp} {v : V} {e : Str × Terms} (h : PlF F H v e) (s : Same H H') : PlF F H' v e := let ⟨b, l, e1, e2, e3, e4⟩ := h; ⟨b, l, e1, s _ _ e2, e3, e4.same s⟩
theorem PlF.upd {F : Addr → Prop} {H : Hp} {m : Addr} {xs : List V} {o : HO} {v : V} {e : Str × Terms} (h : PlF F H v e) (hF : ∀ x, F x → x ≠ m) (e0 : H m = some (.lst xs)) : PlF F (L2.upd H m o) v e :=
  let ⟨b, l, e1, e2, e3, ⟨ws, e4, e5⟩⟩ := h; ⟨b, l, e1, (Tk.refl H).lst e0 _ _ e2, e3, ⟨ws, (upd_ne (hF _ e3)).trans e4, e5.tk ((Tk.refl H).lst e0)⟩⟩
/-- a place whose lists of terms are new since H -/
def PlaceN (H H' : Hp) (l : Addr) (pl : Pl) : Prop := ∃ vs, H' l = some (.lst vs) ∧ PlaceL (fun x => H x = none) H' vs pl
theorem PlaceN.at {H H' : Hp} {l : Addr} {pl : Pl} (h : PlaceN H H' l pl) : PlaceAt H' l pl := let ⟨vs, e, k⟩ := h; ⟨vs, e, k.all⟩
theorem PlaceN.same {H H' H2 : Hp} {l : Addr} {pl : Pl} (h : PlaceN H H' l pl) (s : Same H' H2) : PlaceN H H2 l pl := let ⟨vs, e, k⟩ := h; ⟨vs, s _ _ e, k.same s⟩
theorem PlaceN.back {H0 H H' : Hp} {l : Addr} {pl : Pl} (h : PlaceN H H' l pl) (s : Same H0 H) : PlaceN H0 H' l pl := let ⟨vs, e, k⟩ := h; ⟨vs, e, k.mono fun x hx => free_same s hx⟩
theorem PlaceL.butl {F : Addr → Prop} {H H' : Hp} {a : Addr} {xs : List V} (hF : ∀ x, F x → x ≠ a) (e : H a = some (.lst xs)) (b : But a H H') : ∀ {vs : List V} {pl : Pl}, PlaceL F H vs pl → PlaceL F H' vs pl
  | [], _, h => h
  | _ :: _, _, ⟨c, l, e0, us, e1, e2, e3, e4, ⟨ws, e5, e7⟩, e6⟩ => by
    have tk : Tk H H' := fun c xs e' => b _ _ (ne_of e' e (by intro z; cases z)) e'
    exact ⟨c, l, e0, us, e1, e2, tk _ _ e3, e4, ⟨ws, b _ _ (hF _ e4) e5, e7.tk tk⟩, PlaceL.butl hF e b e6⟩
/-- beside a drawing -/
theorem PlaceN.bag {H H' H2 : Hp} {l a : Addr} {pl : Pl} (h : PlaceN H H' l pl) (nl : H l = none) (ba : Bag H a) (bb : Bag H' a) (b : But a H' H2) : PlaceN H H2 l pl := by
  obtain ⟨vs, e, k⟩ := h
  obtain ⟨x, y, z, hb, _⟩ := bb
  exact ⟨vs, b _ _ (ba.ne nl) e, k.butl (fun x hx => ba.ne hx) hb b⟩
theorem asc_nodup {pl : Pl} (h : pl.Pairwise fun a b => ncode a.1 < ncode b.1) : (pl.map (·.1)).Nodup := by
  refine List.pairwise_map.mpr (h.imp fun {a b} l e => ?_)
  rw [e] at l
  exact Nat.lt_irrefl _ l
theorem IsPlace.congr {pl : Pl} {c d : Str → Int → Int} (h : IsPlace pl c) (e : ∀ n k, c n k = d n k) : IsPlace pl d := by
  have : c = d := funext fun n => funext fun k => e n k
  rw [← this]; exact h
/-! ### a dict of lists of terms by names -/
def setW (ws : List (Str × Addr)) (n : Str) (a : Addr) : List (Str × Addr) := if n ∈ ws.map (·.1) then ws.map (fun e => if e.1 = n then (n, a) else e) else ws ++ [(n, a)]
theorem setW_put (ws : List (Str × Addr)) (n : Str) (a : Addr) : putK (spotKvs ws) (.inr n) (.ref a) = spotKvs (setW ws n a) := by
  unfold putK setW
  by_cases h : n ∈ ws.map (·.1)
  · have h2 : ((spotKvs ws).any fun kv => decide (kv.1 = Sum.inr n)) = true := by
      obtain ⟨e, he, e2⟩ := List.mem_map.mp h
      exact List.any_eq_true.mpr ⟨(Sum.inr e.1, V.ref e.2), List.mem_map.mpr ⟨e, he, rfl⟩, decide_eq_true (congrArg Sum.inr e2)⟩
    rw [if_pos h2, if_pos h]
    unfold spotKvs
    rw [List.map_map, List.map_map]
    refine List.map_congr_left fun e _ => ?_
    show (if (Sum.inr e.1 : Key) = Sum.inr n then ((Sum.inr e.1 : Key), V.ref a) else (Sum.inr e.1, V.ref e.2)) = ((Sum.inr (if e.1 = n then (n, a) else e).1 : Key), V.ref (if e.1 = n then (n, a) else e).2)
    by_cases q : e.1 = n
    · rw [if_pos (congrArg Sum.inr q), if_pos q, q]
    · rw [if_neg (fun x => q (Sum.inr.inj x)), if_neg q]
  · have h2 : ¬ ((spotKvs ws).any fun kv => decide (kv.1 = Sum.inr n)) = true := by
      intro q
      obtain ⟨p, hp, e⟩ := List.any_eq_true.mp q
      obtain ⟨x, hx, rfl⟩ := List.mem_map.mp hp
      exact h (List.mem_map.mpr ⟨x, hx, Sum.inr.inj (of_decide_eq_true e)⟩)
    rw [if_neg h2, if_neg h]
    unfold spotKvs
    rw [List.map_append]
    rfl
theorem setW_names (ws : List (Str × Addr)) (n : Str) (a : Addr) : (setW ws n a).map (·.1) = if n ∈ ws.map (·.1) then ws.map (·.1) else ws.map (·.1) ++ [n] := by
  unfold setW
  split
  · rw [List.map_map]
    refine List.map_congr_left fun e _ => ?_
    show (if e.1 = n then (n, a) else e).1 = e.1
    by_cases q : e.1 = n
    · rw [if_pos q, q]
    · rw [if_neg q]
  · rw [List.map_append]; rfl
theorem setW_mem {ws : List (Str × Addr)} {n : Str} {a : Addr} {e : Str × Addr} (h : e ∈ setW ws n a) : e = (n, a) ∨ (e ∈ ws ∧ e.1 ≠ n) := by
  unfold setW at h
  split at h
  · obtain ⟨x, hx, e2⟩ := List.mem_map.mp h
    by_cases q : x.1 = n
    · rw [if_pos q] at e2; exact .inl e2.symm
    · rw [if_neg q] at e2; subst e2; exact .inr ⟨hx, q⟩
  · rename_i hn
    rcases List.mem_append.mp h with h | h
    · exact .inr ⟨h, fun q => hn (List.mem_map.mpr ⟨e, h, q⟩)⟩
    · exact .inl (List.mem_singleton.mp h)
structure PotT (H0 H : Hp) (s : Addr) (c : Str → Int → Int) (B : Str → Nat) (ws : List (Str × Addr)) : Prop where
  at_ : H s = some (.dK (spotKvs ws))
  nd : (ws.map (·.1)).Nodup
  name : ∀ e ∈ ws, IsName e.1
  new : H0 s = none
  terms : ∀ e ∈ ws, ∃ ts, TermsAt H e.2 ts ∧ (∀ k, cof ts k = c e.1 k) ∧ Canon ts ∧ ts.length ≤ B e.1
  none_ : ∀ n, ¬ n ∈ ws.map (·.1) → ∀ k, c n k = 0
  same : Same H0 H
theorem PotT.few {H0 H : Hp} {s : Addr} {c : Str → Int → Int} {B : Str → Nat} {ws : List (Str × Addr)} (h : PotT H0 H s c B ws) : ws.length < 64 := by
  have := names_few (ks := ws.map (·.1)) (fun n hn => by obtain ⟨e, he, rfl⟩ := List.mem_map.mp hn; exact h.name e he) h.nd
  simpa using this
theorem PotT.later {H0 H H' : Hp} {s : Addr} {c : Str → Int → Int} {B : Str → Nat} {ws : List (Str × Addr)} (h : PotT H0 H s c B ws) (k : Same H H') : PotT H0 H' s c B ws :=
  ⟨k _ _ h.at_, h.nd, h.name, h.new, fun e he => let ⟨ts, h1, h2⟩ := h.terms e he; ⟨ts, h1.same k, h2⟩, h.none_, h.same.trans k⟩
theorem PotT.le {H0 H : Hp} {s : Addr} {c : Str → Int → Int} {B B' : Str → Nat} {ws : List (Str × Addr)} (h : PotT H0 H s c B ws) (k : ∀ n, B n ≤ B' n) : PotT H0 H s c B' ws :=
  ⟨h.at_, h.nd, h.name, h.new, fun e he => let ⟨ts, h1, h2, h3, h4⟩ := h.terms e he; ⟨ts, h1, h2, h3, Nat.le_trans h4 (k _)⟩, h.none_, h.same⟩
theorem PotT.empty {H : Hp} {s : Addr} {B : Str → Nat} (h : H s = none) : PotT H (upd H s (.dK [])) s (fun _ _ => 0) B [] :=
  ⟨upd_same, by simp, by simp, h, by simp, fun _ _ _ => rfl, Same.new0 h⟩
theorem TermsAt.dk {H : Hp} {a s : Addr} {ts : Terms} {kvs : List (Key × V)} {o : HO} (h : TermsAt H a ts) (e : H s = some (.dK kvs)) : TermsAt (upd H s o) a ts := by
  obtain ⟨vs, e1, e2⟩ := h
  exact ⟨vs, (upd_ne (ne_of e1 e (by intro z; cases z))).trans e1, e2.tk ((Std.refl H).dk e).tk⟩
/-- what the dict has for a name, or an empty list at g -/
theorem PotT.get {H0 H : Hp} {s g : Addr} {c : Str → Int → Int} {B : Str → Nat} {ws : List (Str × Addr)} (h : PotT H0 H s c B ws) (n : Str) (hg : H g = some (.lst [])) : ∃ o a ts, DGet H s (.str n) o ∧ o.getD (.ref g) = .ref a ∧ TermsAt H a ts ∧ (∀ k, cof ts k = c n k) ∧ ts.length ≤ B n := by
  cases e : valV (spotKvs ws) (.inr n) with
  | none =>
    refine ⟨none, g, [], ?_, rfl, ⟨[], hg, rfl⟩, fun k => (h.none_ n (spot_none e) k).symm, Nat.zero_le _⟩
    have := DGet.k (k := .inr n) h.at_
    rw [e] at this
    exact this
  | some v =>
    obtain ⟨j, rfl, hj⟩ := spot_val e
    obtain ⟨ts, h1, h2, h3, h4⟩ := h.terms _ hj
    refine ⟨some (.ref j), j, ts, ?_, rfl, h1, h2, h4⟩
    have := DGet.k (k := .inr n) h.at_
    rw [e] at this
    exact this
theorem PotT.put {H0 H : Hp} {s a : Addr} {c d : Str → Int → Int} {B B' : Str → Nat} {ws : List (Str × Addr)} {n : Str} {ts : Terms} (h : PotT H0 H s c B ws) (hn : IsName n) (ha : TermsAt H a ts) (hc : Canon ts) (hd : ∀ k, cof ts k = d n k) (hk : ∀ m, m ≠ n → ∀ k, d m k = c m k) (hb : ts.length ≤ B' n) (hB : ∀ m, m ≠ n → B m ≤ B' m) :
    PotT H0 (upd H s (.dK (putK (spotKvs ws) (.inr n) (.ref a)))) s d B' (setW ws n a) := by
  rw [setW_put]
  refine ⟨upd_same, ?_, fun e he => ?_, h.new, fun e he => ?_, fun m hm k => ?_, Same.put h.same h.new⟩
  · rw [setW_names]
    split
    · exact h.nd
    · rename_i q
      refine List.nodup_append.mpr ⟨h.nd, by simp, fun x hx y hy e => q ?_⟩
      have hy := List.mem_singleton.mp hy
      subst hy
      rw [← e]; exact hx
  · rcases setW_mem he with rfl | ⟨h1, _⟩
    · exact hn
    · exact h.name e h1
  · rcases setW_mem he with rfl | ⟨h1, h2⟩
    · exact ⟨ts, ha.dk h.at_, hd, hc, hb⟩
    · obtain ⟨us, g1, g2, g3, g4⟩ := h.terms e h1
      exact ⟨us, g1.dk h.at_, fun k => (g2 k).trans (hk _ h2 k).symm, g3, Nat.le_trans g4 (hB _ h2)⟩
  · rw [setW_names] at hm
    have mn : m ≠ n := by
      rintro rfl
      split at hm
      · rename_i q; exact hm q
      · exact hm (List.mem_append.mpr (.inr (List.mem_singleton.mpr rfl)))
    rw [hk m mn]
    refine h.none_ m (fun q => hm ?_) k
    split
    · exact q
    · exact List.mem_append.mpr (.inl q)
end My

set_option Elab.async false
set_option linter.all false
set_option maxRecDepth 100000
namespace My
open PySem PySem.Spec PyProof.Rows L2
/-! ### a call by keywords in the turned sequence -/
/-! ### lists of ints compared -/
theorem eqv_ints : ∀ bs cs : List Int, PyData.eqvAll (bs.map PyData.int) (cs.map PyData.int) = decide (bs = cs)
  | [], [] => by simp [PyData.eqvAll]
  | [], _ :: _ => by simp [PyData.eqvAll]
  | _ :: _, [] => by simp [PyData.eqvAll]
  | c :: bs, d :: cs => by
    rw [List.map_cons, List.map_cons, PyData.eqvAll, eqv_ints bs cs]
    by_cases e : c = d <;> by_cases f : bs = cs <;> simp [PyData.eqv, e, f]
section
variable {K : PySem.W.Frag} {H : Hp}
theorem dp_ints : ∀ bs : List Int, DpAll K H (bs.map V.int) (bs.map PyData.int)
  | [] => .nil
  | c :: bs => .cons (.int c) (dp_ints bs)
theorem shaped_ints (bs : List Int) : SeqAt.shaped (.list (bs.map PyData.int)) = true := (Lay.list (n := 1) fun x hx => by
  obtain ⟨c, _, rfl⟩ := List.mem_map.mp hx
  exact ⟨by simp [PyData.canLay0], by simp [PyData.depth]⟩).shaped (by decide)
theorem r_neIs {Q : VK} {l m : Addr} {bs cs : List Int} (h : H l = some (.lst (bs.map V.int))) (h' : H m = some (.lst (cs.map V.int))) (q : Q (.bl (!decide (bs = cs))) H) : rNeD K (.ref l) (.ref m) H Q :=
  ⟨_, _, .lst (.of h) (dp_ints bs), .lst (.of h') (dp_ints cs), shaped_ints bs, shaped_ints cs, by rw [PyData.eqv, eqv_ints]; exact q⟩
end
end My

set_option Elab.async false
set_option linter.all false
set_option maxRecDepth 100000
set_option maxHeartbeats 4000000
namespace My
open PySem PySem.Spec PyProof.Rows L2
section
variable {prog : Program} {w : World} {A : Around} {E : Value → Shared → Prop} {s : Shared} {K : PySem.W.Frag} {x C L f : Addr} {h₀ : Heap} {m : Str → Option Value} {ox : Obj} {od : Option Obj}
end
section
variable {X : Cx} {pins : List (Addr × Obj)} {σ : L2.St} {H : Hp} {s : Shared} {Q : VK} {C : Addr} {m : Str} {k : Nat} {ps : List Str} {sp : Sp} {f : Addr} {fd : FuncData}
end
end My

set_option Elab.async false
set_option linter.all false
set_option maxRecDepth 100000
set_option pp.deepTerms false
set_option pp.deepTerms.threshold 12
set_option pp.maxSteps 1200
namespace My
open PySem PySem.Spec PyProof.Rows L2
/-! ### sets of orders -/
abbrev ordF (r : Addr) (b : Bool) : List (Str × V) := [("rows", .ref r), ("outside", .bl b)]
/-- a set of orders: the ascending list us, or all but these -/
def OrdAt (C : Addr) (H : Hp) (a : Addr) (us : List Int) (b : Bool) : Prop := ∃ dx r, H a = some (.ins C dx (ordF r b)) ∧ H r = some (.tup (us.map V.int)) ∧ us.Pairwise (· < ·) ∧ (∀ n ∈ us, 1 ≤ n) ∧ us.length ≤ 4000
theorem OrdAt.stay {C : Addr} {H H' : Hp} {a : Addr} {us : List Int} {b : Bool} (h : OrdAt C H a us b) (s : Stay H H') : OrdAt C H' a us b := let ⟨dx, r, h1, h2, h3⟩ := h; ⟨dx, r, s _ _ (by intro _ z; cases z) (by intro _ z; cases z) h1, s.tk _ _ h2, h3⟩
theorem OrdAt.same {C : Addr} {H H' : Hp} {a : Addr} {us : List Int} {b : Bool} (h : OrdAt C H a us b) (s : Same H H') : OrdAt C H' a us b := h.stay (.same s)
theorem OrdAt.asc {C : Addr} {H : Hp} {a : Addr} {us : List Int} {b : Bool} (h : OrdAt C H a us b) : us.Pairwise (· < ·) := let ⟨_, _, _, _, h3, _⟩ := h; h3
theorem OrdAt.pos {C : Addr} {H : Hp} {a : Addr} {us : List Int} {b : Bool} (h : OrdAt C H a us b) : ∀ n ∈ us, 1 ≤ n := let ⟨_, _, _, _, _, h4, _⟩ := h; h4
theorem OrdAt.len {C : Addr} {H : Hp} {a : Addr} {us : List Int} {b : Bool} (h : OrdAt C H a us b) : us.length ≤ 4000 := let ⟨_, _, _, _, _, _, h5⟩ := h; h5
/-! ### plain facts -/
section
variable {K : PySem.W.Frag} {mg : Str → Option Value} {C : Addr} {H : Hp} {Q : VK} {a : Addr} {us vs : List Int} {b c : Bool}
end
/-! ### promises -/
/-! ### the law's own -/
end My

set_option Elab.async false
set_option linter.all false
set_option maxRecDepth 100000
namespace My
open PySem PySem.Spec PyProof.Rows L2
/-! ### makings with defaults and keywords -/
section
variable {X : Cx} {C : Addr} {x : Str} {k n : Nat} {ps ks : List Str} {sp : Sp} {e : Expr} {es : List Expr} {p pos : Pos} {t tk : TA} {dvs : List V} {gV : List V → List V → List V} {kws : List Keyword}
end
section
variable {σ : L2.St} {H : Hp} {Q : VK} {C : Addr} {sp : Sp} {E : XK} {t tk : TA} {d : V} {ds : List V} {n m : Nat} {gV : List V → List V → List V}
/-! ### readings -/
end
end My

set_option Elab.async false
set_option linter.all false
set_option maxRecDepth 100000
namespace My
open PySem PySem.Spec PyProof.Rows L2
/-! ### lists of orders by a test -/
end My

set_option Elab.async false
set_option linter.all false
set_option maxRecDepth 100000
namespace My
open PySem PySem.Spec PyProof.Rows L2
/-! ### any(list of ints) -/
section
variable {X : Cx}
end
end My

set_option Elab.async false
set_option linter.all false
set_option maxRecDepth 100000
set_option maxHeartbeats 4000000
namespace My
open PySem PySem.Spec PyProof.Rows L2
/-! ### xs == [] of any list -/
section
variable {prog : Program} {w : World}
end
/-! ### dict(list of pairs with names) -/
/-- the dict of a place: its names and the addresses of its polynomials -/
def namD (nas : List (Str × Addr)) : List (Key × V) := nas.map fun e => (Sum.inr e.1, V.ref e.2)
theorem namD_val : ∀ (nas : List (Str × Addr)) (n : Str), (nas.map (·.1)).Nodup → (∀ a, (n, a) ∈ nas → valV (namD nas) (.inr n) = some (.ref a)) ∧ (¬ n ∈ nas.map (·.1) → valV (namD nas) (.inr n) = none)
  | [], n, _ => ⟨fun _ h => (by simp at h), fun _ => rfl⟩
  | e :: nas, n, nd => by
    obtain ⟨h1, h2⟩ := List.nodup_cons.mp (by rw [List.map_cons] at nd; exact nd)
    obtain ⟨i1, i2⟩ := namD_val nas n h2
    by_cases q : e.1 = n
    · subst q
      refine ⟨fun a ha => ?_, fun h => absurd (List.mem_map.mpr ⟨e, .head _, rfl⟩) h⟩
      rcases List.mem_cons.mp ha with z | z
      · rw [namD, List.map_cons, valV_pos rfl, ← z]
      · exact absurd (List.mem_map.mpr ⟨_, z, rfl⟩) h1
    · have q' : ¬ (Sum.inr e.1 : Key) = Sum.inr n := fun z => q (Sum.inr.inj z)
      refine ⟨fun a ha => ?_, fun h => ?_⟩
      · rcases List.mem_cons.mp ha with z | z
        · exact absurd (by rw [← z]) q
        · rw [namD, List.map_cons, valV_neg q']; exact i1 a z
      · rw [namD, List.map_cons, valV_neg q']
        exact i2 fun z => h (by rw [List.map_cons]; exact List.mem_cons_of_mem _ z)
theorem namD_keys (nas : List (Str × Addr)) : ((namD nas).map fun kv => kV kv.1) = (nas.map (·.1)).map V.str := by
  unfold namD
  rw [List.map_map, List.map_map]
  rfl
/-- the names of a place and where its polynomials stand -/
def PlN (C : Addr) (H : Hp) (nas : List (Str × Addr)) (pl : Pl) : Prop := nas.map (·.1) = pl.map (·.1) ∧ ∀ n a, (n, a) ∈ nas → ∃ ts, (n, ts) ∈ pl ∧ PolyAt C H a ts
theorem PlN.stay {C : Addr} {H H' : Hp} {nas : List (Str × Addr)} {pl : Pl} (h : PlN C H nas pl) (s : Stay H H') : PlN C H' nas pl := ⟨h.1, fun n a m => let ⟨ts, t, p⟩ := h.2 n a m; ⟨ts, t, p.stay s⟩⟩
/-- the place of the numbers c, zeros allowed -/
structure IsPl0 (pl : Pl) (c : Str → Int → Int) : Prop where
  canon : ∀ e ∈ pl, Canon e.2 ∧ ∀ k, cof e.2 k = c e.1 k
  names : ∀ e ∈ pl, IsName e.1
  asc : pl.Pairwise fun a b => ncode a.1 < ncode b.1
  rest : ∀ n, ¬ n ∈ pl.map (·.1) → ∀ k, c n k = 0
theorem IsPl0.nd {pl : Pl} {c : Str → Int → Int} (h : IsPl0 pl c) : (pl.map (·.1)).Nodup := by
  rw [List.nodup_iff_pairwise_ne, List.pairwise_map]
  exact h.asc.imp fun z e => by rw [e] at z; exact absurd z (Nat.lt_irrefl _)
theorem u_listN {H : Hp} {Q : VK} {d : Addr} {nas : List (Str × Addr)} (h : H d = some (.dK (namD nas))) (q : ∀ l, H l = none → Q (.ref l) (upd H l (.lst ((nas.map (·.1)).map V.str)))) : rListD [.ref d] H Q :=
  ⟨d, _, rfl, h, fun p np => by rw [namD_keys]; exact q p np⟩
theorem map_atS {ns : List Str} {i : Nat} {x : V} (h : (ns.map V.str)[i]? = some x) : ∃ n, ns[i]? = some n ∧ x = .str n ∧ i + 1 ≤ ns.length := by
  rw [List.getElem?_map] at h
  cases e : ns[i]? with
  | none => rw [e] at h; cases h
  | some n =>
    rw [e] at h
    cases h
    exact ⟨n, rfl, rfl, (List.getElem?_eq_some_iff.mp e).1⟩
/-- what get with a default tells -/
theorem PlN.get {C : Addr} {H : Hp} {nas : List (Str × Addr)} {pl : Pl} {c : Str → Int → Int} {d e : Addr} (h : PlN C H nas pl) (ip : IsPl0 pl c) (hd : H d = some (.dK (namD nas))) (n : Str) {us : Terms} (he : PolyAt C H e us) (hu : ∀ k, cof us k = 0) :
    ∃ o a ts, DGet H d (.str n) o ∧ o.getD (.ref e) = .ref a ∧ PolyAt C H a ts ∧ ∀ k, cof ts k = c n k := by
  have nd : (nas.map (·.1)).Nodup := by rw [h.1]; exact ip.nd
  obtain ⟨v1, v2⟩ := namD_val nas n nd
  by_cases m : n ∈ nas.map (·.1)
  · obtain ⟨⟨n', a⟩, hm, rfl⟩ := List.mem_map.mp m
    obtain ⟨ts, t, hp⟩ := h.2 _ a hm
    exact ⟨_, a, ts, by have := DGet.k hd (k := .inr n'); rw [v1 a hm] at this; exact this, rfl, hp, (ip.canon _ t).2⟩
  · refine ⟨none, e, us, by have := DGet.k hd (k := .inr n); rw [v2 m] at this; exact this, rfl, he, fun k => ?_⟩
    rw [hu k, ip.rest n (by rw [← h.1]; exact m) k]
/-! ### sets of names -/
/-! ### the orders at which a place is zero -/
def ZrF (n : Nat) (c : Int → Int) : Prop := ∀ ts : Terms, (∀ k, cof ts k = c k) → Zr n ts
theorem foldR_zero (n : Nat) : ∀ (ps : List Nat) (k : Int), foldR n ps (fun _ => 0) k = 0
  | [], _ => rfl
  | p :: ps, k => by
    show foldR n ps (stepF n (n / p) fun _ => 0) k = 0
    rw [foldR_ext ps (d := fun _ => 0) (fun k => by unfold stepF; split <;> rfl) k]
    exact foldR_zero n ps k
theorem Zr_nil (n : Nat) : Zr n [] := fun k => by
  rw [foldR_ext (M11.primes n) (c := cof (foldT n [])) (d := fun _ => 0) (fun k => rfl) k]
  exact foldR_zero n _ k
/-- us and b tell the orders at which all of c is zero -/
def CyOf (c : Str → Int → Int) (us : List Int) (b : Bool) : Prop := (b = true ↔ ∀ nm k, c nm k = 0) ∧ ∀ k : Int, k ∈ us ↔ b = false ∧ ∃ n : Nat, k = n ∧ 1 ≤ n ∧ n ≤ 300 ∧ ∀ nm, ZrF n (c nm)
theorem CyOf.same {c : Str → Int → Int} {us vs : List Int} {b d : Bool} (h : CyOf c us b) (k : CyOf c vs d) : b = d ∧ ∀ x, x ∈ us ↔ x ∈ vs := by
  have e : b = d := by rw [Bool.eq_iff_iff, h.1, k.1]
  subst e
  exact ⟨rfl, fun x => (h.2 x).trans (k.2 x).symm⟩
theorem CyOf.congr {c d : Str → Int → Int} {us : List Int} {b : Bool} (h : CyOf c us b) (e : ∀ n k, c n k = d n k) : CyOf d us b := by
  obtain rfl : c = d := funext fun n => funext (e n)
  exact h
theorem CyOf.neg {c d : Str → Int → Int} {us : List Int} {b : Bool} (h : CyOf (fun n k => c n k - d n k) us b) : CyOf (fun n k => d n k - c n k) us b := by
  refine ⟨h.1.trans ⟨fun z n k => by have : c n k - d n k = 0 := z n k; show d n k - c n k = 0; omega, fun z n k => by have : d n k - c n k = 0 := z n k; show c n k - d n k = 0; omega⟩, fun k => (h.2 k).trans (and_congr_right fun _ => exists_congr fun n => and_congr_right fun _ => and_congr_right fun n1 => and_congr_right fun _ => forall_congr' fun nm => ?_)⟩
  constructor
  · intro z ts e
    have := z (negT ts) fun k => by rw [cof_neg, e]; show -(d nm k - c nm k) = c nm k - d nm k; omega
    exact (Zr_neg n1 ts).mp this
  · intro z ts e
    have := z (negT ts) fun k => by rw [cof_neg, e]; show -(c nm k - d nm k) = d nm k - c nm k; omega
    exact (Zr_neg n1 ts).mp this
theorem span_supp {ts : Terms} {lo hi : Int} (hc : Canon ts) (h : ∀ k, cof ts k ≠ 0 → lo ≤ k ∧ k ≤ hi) (lh : lo ≤ hi) : spanOf ts ≤ hi - lo := by
  unfold spanOf
  cases hh : ts.head? with
  | none => show (0 : Int) ≤ _; omega
  | some p =>
    cases hl : ts.getLast? with
    | none => show (0 : Int) ≤ _; omega
    | some q =>
      have nz : ∀ r ∈ ts, lo ≤ r.1 ∧ r.1 ≤ hi := fun r hr => h r.1 (by rw [hc.at hr]; exact hc.nz r hr)
      have h1 := nz p (List.mem_of_mem_head? hh)
      have h2 := nz q (List.mem_of_getLast? hl)
      show q.1 - p.1 ≤ _
      omega
theorem len_supp {ts : Terms} {lo : Int} {N : Nat} (hc : Canon ts) (h : ∀ k, cof ts k ≠ 0 → lo ≤ k ∧ k ≤ lo + N - 1) : ts.length ≤ N := by
  have nd : (ts.map fun p => p.1 - lo).Nodup := by
    rw [List.nodup_iff_pairwise_ne, List.pairwise_map]
    exact hc.asc.imp fun z e => by omega
  have := key_len (n := N) nd fun k hk => by
    obtain ⟨p, hp, rfl⟩ := List.mem_map.mp hk
    have := h p.1 (by rw [hc.at hp]; exact hc.nz p hp)
    omega
  rwa [List.length_map] at this
def PlJ (H : Hp) (v : V) (e : Str × Terms) : Prop := ∃ b l, v = .ref b ∧ H b = some (.tup [.str e.1, .ref l]) ∧ TermsAt H l e.2
theorem PlJ.same {H H' : Hp} {v : V} {e : Str × Terms} (h : PlJ H v e) (s : Same H H') : PlJ H' v e := let ⟨b, l, e1, e2, t⟩ := h; ⟨b, l, e1, s _ _ e2, t.same s⟩
/-! ### promises -/
def Narrow (c : Str → Int → Int) : Prop := ∀ nm k, c nm k ≠ 0 → -24 ≤ k ∧ k ≤ 24
theorem Narrow.span {c d : Str → Int → Int} (h : Narrow c) (g : Narrow d) {ts : Terms} {nm : Str} (hc : Canon ts) (e : ∀ k, cof ts k = c nm k - d nm k) : spanOf ts ≤ 60 ∧ ts.length ≤ 49 := by
  have hs : ∀ k, cof ts k ≠ 0 → -24 ≤ k ∧ k ≤ 24 := fun k hk => by
    rw [e k] at hk
    by_cases z : c nm k = 0
    · exact g nm k fun y => hk (by omega)
    · exact h nm k z
  exact ⟨Int.le_trans (span_supp hc hs (by decide)) (by decide), len_supp (lo := -24) (N := 49) hc fun k hk => by have := hs k hk; omega⟩
theorem Narrow.len {c : Str → Int → Int} (h : Narrow c) {ts : Terms} {nm : Str} (hc : Canon ts) (e : ∀ k, cof ts k = c nm k) : ts.length ≤ 49 := (h.span (d := fun _ _ => 0) (nm := nm) (fun _ _ z => absurd rfl z) hc fun k => by rw [e]; omega).2
def JarL (H : Hp) (v : V) (ts : Terms) : Prop := ∃ a m, v = .ref a ∧ JarAt H a m (cof ts) ∧ m ≤ 90000
theorem JarL.same {H H' : Hp} {v : V} {ts : Terms} (h : JarL H v ts) (s : Same H H') : JarL H' v ts := let ⟨a, m, e, j, l⟩ := h; ⟨a, m, e, j.same s, l⟩
def JarsAt (H : Hp) (l : Addr) (gs : List Terms) : Prop := ∃ vs, H l = some (.lst vs) ∧ Each (JarL H) vs gs
theorem JarsAt.same {H H' : Hp} {l : Addr} {gs : List Terms} (h : JarsAt H l gs) (s : Same H H') : JarsAt H' l gs := let ⟨vs, e, k⟩ := h; ⟨vs, s _ _ e, k.imp fun _ _ _ r => r.same s⟩
def CyAt (H : Hp) (t : Addr) (us : List Int) (b : Bool) : Prop := ∃ l, H t = some (.tup [.ref l, .bl b]) ∧ H l = some (.lst (us.map V.int)) ∧ us.length ≤ 4000
theorem CyAt.same {H H' : Hp} {t : Addr} {us : List Int} {b : Bool} (h : CyAt H t us b) (s : Same H H') : CyAt H' t us b := let ⟨l, e1, e2, e3⟩ := h; ⟨l, s _ _ e1, s _ _ e2, e3⟩
def CyL (H : Hp) (t l : Addr) (us : List Int) (b : Bool) : Prop := H t = some (.tup [.ref l, .bl b]) ∧ H l = some (.lst (us.map V.int)) ∧ us.length ≤ 4000
theorem CyL.same {H H' : Hp} {t l : Addr} {us : List Int} {b : Bool} (h : CyL H t l us b) (s : Same H H') : CyL H' t l us b := ⟨s _ _ h.1, s _ _ h.2.1, h.2.2⟩
theorem CyL.but {H H' : Hp} {t l m : Addr} {us : List Int} {b : Bool} {xs : List V} (h : CyL H t l us b) (n : l ≠ m) (e : H m = some (.lst xs)) (s : But m H H') : CyL H' t l us b := ⟨s _ _ (by rintro rfl; rw [h.1] at e; cases e) h.1, s _ _ n h.2.1, h.2.2⟩
end My

set_option Elab.async false
set_option linter.all false
set_option maxRecDepth 100000
set_option maxHeartbeats 4000000
namespace My
open PySem PySem.Spec PyProof.Rows L2
namespace Prog
end Prog
theorem PrAt.put {H : Hp} {q d r : Prog} {xs : List V} {n : Nat} {y : V} (hn : n < xs.length) (h1 : PrAt H q (xs.take n)) (hy : First H d y .nil) (h2 : PrAt H r (xs.drop (n + 1))) : PrAt H (q.app (d.app r)) (xs.set n y) := by
  rw [List.set_eq_take_append_cons_drop, if_pos hn]
  have : PrAt H d [y] := PrAt.cons hy rfl
  exact h1.app (this.app h2)
theorem Names.len {z : Str} (h : Names z) : z.length = 6 := by rw [← h.1]; simp [Str.length]
end My

set_option Elab.async false
set_option linter.all false
set_option maxRecDepth 100000
set_option maxHeartbeats 4000000
namespace My
open PySem PySem.Spec PyProof.Rows L2
/-! ### rows: a dict of jars whose keys lie below an order -/
theorem spot_one1 : ∀ (l : List (Str × Addr)), (l.map (·.1)).Nodup → ∀ x ∈ l, ∀ y ∈ l, x.1 = y.1 → x = y := by
  intro l
  induction l with
  | nil => intro _ x hx; cases hx
  | cons z l ih =>
    intro nd x hx y hy exy
    obtain ⟨hz, nd⟩ := List.nodup_cons.mp nd
    rcases List.mem_cons.mp hx with rfl | hx2
    · rcases List.mem_cons.mp hy with rfl | hy2
      · rfl
      · exact absurd (List.mem_map.mpr ⟨y, hy2, exy.symm⟩) hz
    · rcases List.mem_cons.mp hy with rfl | hy2
      · exact absurd (List.mem_map.mpr ⟨x, hx2, exy⟩) hz
      · exact ih nd x hx2 y hy2 exy
theorem spot_one2 : ∀ (l : List (Str × Addr)), (l.map (·.2)).Nodup → ∀ x ∈ l, ∀ y ∈ l, x.2 = y.2 → x = y := by
  intro l
  induction l with
  | nil => intro _ x hx; cases hx
  | cons z l ih =>
    intro nd x hx y hy exy
    obtain ⟨hz, nd⟩ := List.nodup_cons.mp nd
    rcases List.mem_cons.mp hx with rfl | hx2
    · rcases List.mem_cons.mp hy with rfl | hy2
      · rfl
      · exact absurd (List.mem_map.mpr ⟨y, hy2, exy.symm⟩) hz
    · rcases List.mem_cons.mp hy with rfl | hy2
      · exact absurd (List.mem_map.mpr ⟨x, hx2, exy⟩) hz
      · exact ih nd x hx2 y hy2 exy
/-- rows at s: the jars' keys lie below the order o -/
structure RwsAt (H : Hp) (s : Addr) (o : Nat) (c : Str → Int → Int) (ws : List (Str × Addr)) : Prop where
  at_ : H s = some (.dK (spotKvs ws))
  nd : (ws.map (·.1)).Nodup
  ndA : (ws.map (·.2)).Nodup
  name : ∀ e ∈ ws, IsName e.1
  ne : ∀ e ∈ ws, e.2 ≠ s
  jars : ∀ e ∈ ws, JarIn H e.2 0 ((o : Int) - 1) (c e.1)
  none_ : ∀ n, ¬ n ∈ ws.map (·.1) → ∀ k, c n k = 0
section
variable {H H' : Hp} {s : Addr} {o : Nat} {c : Str → Int → Int} {ws : List (Str × Addr)}
theorem RwsAt.few (h : RwsAt H s o c ws) : ws.length < 64 := by
  have := names_few (ks := ws.map (·.1)) (fun n hn => by obtain ⟨e, he, rfl⟩ := List.mem_map.mp hn; exact h.name e he) h.nd
  simpa using this
theorem RwsAt.empty : RwsAt (upd H s (.dK [])) s o (fun _ _ => 0) [] :=
  ⟨upd_same, by simp, by simp, by simp, by simp, by simp, fun _ _ _ => rfl⟩
/-- all objects of the rows stay -/
theorem RwsAt.keep (h : RwsAt H s o c ws) (k : H' s = H s) (kj : ∀ e ∈ ws, ∀ u, H e.2 = some u → H' e.2 = some u) : RwsAt H' s o c ws :=
  ⟨k.trans h.at_, h.nd, h.ndA, h.name, h.ne, fun e he => let ⟨kvs, e1, r⟩ := h.jars e he; ⟨kvs, kj e he _ e1, r⟩, h.none_⟩
theorem RwsAt.later (h : RwsAt H s o c ws) (k : Same H H') : RwsAt H' s o c ws := h.keep ((k _ _ h.at_).trans h.at_.symm) fun e _ u x => k _ _ x
theorem RwsAt.congr {d : Str → Int → Int} (h : RwsAt H s o c ws) (e : ∀ n k, c n k = d n k) : RwsAt H s o d ws := by
  obtain rfl : c = d := funext fun n => funext (e n)
  exact h
theorem RwsAt.out (h : RwsAt H s o c ws) (n : Str) (k : Int) (hk : ¬ (0 ≤ k ∧ k < o)) : c n k = 0 := by
  by_cases m : n ∈ ws.map (·.1)
  · obtain ⟨e, he, rfl⟩ := List.mem_map.mp m
    obtain ⟨ks, _, _, b, z⟩ := (h.jars e he).items
    refine z k fun hm => hk ?_
    have := b k hm
    omega
  · exact h.none_ n m k
/-- the name's jar: found or put in -/
theorem RwsAt.setd {d : Addr} {n : Str} {Q : VK} (h : RwsAt H s o c ws) (hn : IsName n) (hd : H d = none)
    (q : ∀ ws' j H', RwsAt H' s o c ws' → (n, j) ∈ ws' → (∀ b u, b ≠ s → H b = some u → H' b = some u) → (∀ e ∈ ws', e ∈ ws ∨ H e.2 = none) → (∀ e ∈ ws, e ∈ ws') → Q (.ref j) H') :
    ∃ (kvs : List (Key × V)) (k : Key), upd H d (.dK []) s = some (.dK kvs) ∧ V.str n = kV k ∧ kvs.length < sizeLine ∧ (∀ v, valV kvs k = some v → Q v (upd H d (.dK []))) ∧ (valV kvs k = none → Q (.ref d) (upd (upd H d (.dK [])) s (.dK (putK kvs k (.ref d))))) := by
  have h1 := h.later (Same.new0 (o := .dK []) hd)
  have few : (spotKvs ws).length < 64 := by have := h.few; simpa [spotKvs] using this
  have ds : d ≠ s := (ne_of_none h.at_ hd).symm
  refine ⟨spotKvs ws, .inr n, h1.at_, rfl, Nat.lt_trans few (by decide), fun v hv => ?_, fun hv => ?_⟩
  · obtain ⟨j, rfl, hj⟩ := spot_val hv
    exact q ws j _ h1 hj (fun b u _ e => h_keep e hd) (fun e he => .inl he) fun e he => he
  · have hnn := spot_none hv
    rw [putK_new _ hv]
    have e : spotKvs ws ++ [(Sum.inr n, V.ref d)] = spotKvs (ws ++ [(n, d)]) := by simp [spotKvs]
    rw [e]
    refine q (ws ++ [(n, d)]) d _ ⟨upd_same, ?_, ?_, ?_, ?_, ?_, ?_⟩ (by simp) (fun b u nb eb => (upd_ne nb).trans (h_keep eb hd)) ?_ fun e he => List.mem_append_left _ he
    · rw [List.map_append]
      exact List.nodup_append.mpr ⟨h.nd, by simp, fun a ha b hb eab => by
        have hb := List.mem_singleton.mp hb
        rw [eab, hb] at ha
        exact hnn ha⟩
    · rw [List.map_append]
      refine List.nodup_append.mpr ⟨h.ndA, by simp, fun a ha b hb e => ?_⟩
      have hb := List.mem_singleton.mp hb
      subst hb
      obtain ⟨x, hx, rfl⟩ := List.mem_map.mp ha
      obtain ⟨_, e2, _⟩ := h.jars x hx
      exact absurd e (ne_of_none e2 hd)
    · intro x hx
      rcases List.mem_append.mp hx with hx | hx
      · exact h.name x hx
      · rw [List.mem_singleton.mp hx]; exact hn
    · intro x hx
      rcases List.mem_append.mp hx with hx | hx
      · exact h.ne x hx
      · rw [List.mem_singleton.mp hx]; exact ds
    · intro x hx
      rcases List.mem_append.mp hx with hx | hx
      · exact (h1.jars x hx).upd (h.ne x hx)
      · rw [List.mem_singleton.mp hx]
        exact ((JarIn.new (p := d) (H := H)).upd ds).ext fun k => (h.none_ n hnn k).symm
    · intro m hm k
      refine h.none_ m (fun hc => hm ?_) k
      rw [List.map_append]
      exact List.mem_append.mpr (.inl hc)
    · intro x hx
      rcases List.mem_append.mp hx with hx | hx
      · exact .inl hx
      · rw [List.mem_singleton.mp hx]; exact .inr hd
/-- the name's jar changed -/
theorem RwsAt.put {j : Addr} {n : Str} {e : Int → Int} (h : RwsAt H s o c ws) (m : (n, j) ∈ ws) (b : But j H H') (hj : JarIn H' j 0 ((o : Int) - 1) e) : RwsAt H' s o (fun n' k' => if n' = n then e k' else c n' k') ws := by
  refine ⟨b _ _ (fun e => h.ne _ m e.symm) h.at_, h.nd, h.ndA, h.name, h.ne, fun x hx => ?_, fun m' hm k' => ?_⟩
  · by_cases e1 : x.1 = n
    · have e2 : x = (n, j) := spot_one1 ws h.nd x hx (n, j) m e1
      rw [e2]
      exact hj.ext fun k' => by rw [if_pos rfl]
    · have e2 : x.2 ≠ j := fun z => e1 (congrArg (·.1) (spot_one2 ws h.ndA x hx (n, j) m z))
      obtain ⟨kvs, e3, r⟩ := h.jars x hx
      exact JarIn.ext ⟨kvs, b _ _ e2 e3, r⟩ fun k' => by rw [if_neg e1]
  · rw [if_neg]
    · exact h.none_ m' hm k'
    · rintro rfl
      exact hm (List.mem_map.mpr ⟨_, m, rfl⟩)
theorem RwsAt.dget {n : Str} {v : V} (h : RwsAt H s o c ws) (e : valV (spotKvs ws) (.inr n) = some v) : DGet H s (.str n) (some v) := by
  have := DGet.k (k := .inr n) h.at_
  rw [e] at this
  exact this
end
/-! ### walks over a dict of jars -/
section
variable {σ : L2.St} {H : Hp} {Q : VK} {td te : TE} {R : It → Hp → Prop} {D : Ends} {g : TG} {tb : TS} {d : Addr} {od : Obj} {ws : List (Str × Addr)}
end
/-! ### rows turned -/
end My

set_option Elab.async false
set_option linter.all false
set_option maxRecDepth 100000
set_option maxHeartbeats 4000000
namespace My
open PySem PySem.Spec PyProof.Rows L2
/-! ### zero at an order, by numbers -/
theorem foldR_add {n : Nat} : ∀ (ps : List Nat) (c d : Int → Int) (k : Int), foldR n ps (fun k => c k + d k) k = foldR n ps c k + foldR n ps d k
  | [], _, _, _ => rfl
  | p :: ps, c, d, k => by
    show foldR n ps (stepF n (n / p) fun k => c k + d k) k = foldR n ps (stepF n (n / p) c) k + foldR n ps (stepF n (n / p) d) k
    rw [← foldR_add ps]
    refine foldR_ext ps (fun k => ?_) k
    unfold stepF
    split <;> (try dsimp only) <;> omega
theorem foldT_app (n : Int) (ts us : Terms) : foldT n (ts ++ us) = foldT n ts ++ foldT n us := List.map_append ..
theorem Zr.app {n : Nat} {ts us : Terms} (h : Zr n ts) (g : Zr n us) : Zr n (ts ++ us) := fun k => by
  rw [foldR_ext (M11.primes n) (c := cof (foldT n (ts ++ us))) (d := fun k => cof (foldT n ts) k + cof (foldT n us) k) (fun k => by rw [foldT_app, cof_app]) k, foldR_add, h, g]
  rfl
def Cz (n : Nat) (c : Int → Int) : Prop := ∃ ts : Terms, (∀ k, cof ts k = c k) ∧ Zr n ts
section
variable {n : Nat} {c d : Int → Int}
theorem Cz.ext (h : Cz n c) (e : ∀ k, d k = c k) : Cz n d := let ⟨ts, a, b⟩ := h; ⟨ts, fun k => (a k).trans (e k).symm, b⟩
theorem Cz.zero : Cz n fun _ => 0 := ⟨[], fun _ => rfl, Zr_nil n⟩
theorem Cz.add (h : Cz n c) (g : Cz n d) : Cz n fun k => c k + d k := let ⟨ts, a, b⟩ := h; let ⟨us, a2, b2⟩ := g; ⟨ts ++ us, fun k => by rw [cof_app, a, a2], b.app b2⟩
theorem Cz.neg (n1 : 1 ≤ n) (h : Cz n c) : Cz n fun k => -c k := let ⟨ts, a, b⟩ := h; ⟨negT ts, fun k => by rw [cof_neg, a], (Zr_neg n1 ts).mpr b⟩
theorem Cz.shift (n1 : 1 ≤ n) (h : Cz n c) (s : Int) : Cz n fun k => c (k - s) := let ⟨ts, a, b⟩ := h; ⟨shiftT s ts, fun k => by rw [cof_shift, a], (Zr_shift n1 s ts).mpr b⟩
theorem Cz.mir (n1 : 1 ≤ n) (h : Cz n c) : Cz n fun k => c (-k) := let ⟨ts, a, b⟩ := h; ⟨mirT ts, fun k => by rw [cof_mir, a], (Zr_mir n1 ts).mpr b⟩
theorem Cz.zr (h : Cz n c) {ts : Terms} (e : ∀ k, cof ts k = c k) : Zr n ts := let ⟨_, a, b⟩ := h; b.ext fun k => (a k).trans (e k).symm
theorem Cz.of {ts : Terms} (h : Zr n ts) (e : ∀ k, cof ts k = c k) : Cz n c := ⟨ts, e, h⟩
end
/-- congruent at an order -/
def Cg (n : Nat) (c d : Int → Int) : Prop := Cz n fun k => c k - d k
section
variable {n : Nat} {c d e f : Int → Int}
theorem Cg.refl : Cg n c c := Cz.zero.ext fun k => Int.sub_self _
theorem Cg.of_eq (h : ∀ k, c k = d k) : Cg n c d := Cz.zero.ext fun k => by rw [h k]; exact Int.sub_self _
theorem Cg.symm (n1 : 1 ≤ n) (h : Cg n c d) : Cg n d c := (Cz.neg n1 h).ext fun k => by (try dsimp only); omega
theorem Cg.trans (h : Cg n c d) (g : Cg n d e) : Cg n c e := (Cz.add h g).ext fun k => by (try dsimp only); omega
theorem Cg.add (h : Cg n c d) (g : Cg n e f) : Cg n (fun k => c k + e k) (fun k => d k + f k) := (Cz.add h g).ext fun k => by (try dsimp only); omega
theorem Cg.sub (n1 : 1 ≤ n) (h : Cg n c d) (g : Cg n e f) : Cg n (fun k => c k - e k) (fun k => d k - f k) := (Cz.add h (Cz.neg n1 g)).ext fun k => by (try dsimp only); omega
theorem Cg.shift (n1 : 1 ≤ n) (h : Cg n c d) (s : Int) : Cg n (fun k => c (k - s)) (fun k => d (k - s)) := Cz.shift n1 h s
theorem Cg.mir (n1 : 1 ≤ n) (h : Cg n c d) : Cg n (fun k => c (-k)) (fun k => d (-k)) := Cz.mir n1 h
theorem Cg.zr (n1 : 1 ≤ n) (h : Cg n c d) {ts us : Terms} (e1 : ∀ k, cof ts k = c k) (e2 : ∀ k, cof us k = d k) : Zr n ts ↔ Zr n us := by
  constructor
  · intro z
    exact (Cz.add (Cz.of z e1) (Cg.symm n1 h)).zr fun k => (e2 k).trans (by (try dsimp only); omega)
  · intro z
    exact (Cz.add (Cz.of z e2) h).zr fun k => (e1 k).trans (by (try dsimp only); omega)
end
/-! ### powers at what they leave -/
/-! ### rounds -/
/-! ### all turned ones together are zero -/
/-- sums over a range -/
def sR (f : Nat → Int) : Nat → Int
  | 0 => 0
  | m + 1 => sR f m + f m
/-- for each turn a prime whose step it reaches -/
def reachB (n t : Nat) : Bool := t % n == 0 || (M11.primes n).any fun p => (List.range n).any fun m => (m * t) % n == (n / p) % n
theorem reach_all : ((List.range 61).all fun n => n == 0 || (List.range n).all fun t => reachB n t) = true := by decide +kernel
theorem reach {n : Nat} (n1 : 1 ≤ n) (n2 : n ≤ 60) {t : Int} (h : ¬ t % (n : Int) = 0) : ∃ p ∈ M11.primes n, ∃ m : Nat, ((m : Int) * t) % (n : Int) = ((n / p : Nat) : Int) % n := by
  obtain ⟨u, hu⟩ : ∃ u : Nat, t % (n : Int) = u := ⟨(t % n).toNat, by have := mod_in n1 t; omega⟩
  have m1 := mod_in n1 t
  have hb := List.all_eq_true.mp reach_all n (List.mem_range.mpr (by omega))
  rw [Bool.or_eq_true, beq_iff_eq] at hb
  rcases hb with hb | hb
  · omega
  have hb := List.all_eq_true.mp hb u (List.mem_range.mpr (by omega))
  unfold reachB at hb
  rw [Bool.or_eq_true, beq_iff_eq] at hb
  rcases hb with hb | hb
  · exfalso
    rw [Nat.mod_eq_of_lt (by omega)] at hb
    omega
  obtain ⟨p, hp, hb⟩ := List.any_eq_true.mp hb
  obtain ⟨m, _, hb⟩ := List.any_eq_true.mp hb
  refine ⟨p, hp, m, ?_⟩
  have hb := beq_iff_eq.mp hb
  have e1 : ((m : Int) * t) % (n : Int) = (((m * u) % n : Nat) : Int) := by
    rw [Int.mul_emod, hu, Int.natCast_emod, Int.natCast_mul, Int.mul_emod ((m : Nat) : Int) ((u : Nat) : Int), Int.emod_eq_of_lt (a := ((u : Nat) : Int)) (by omega) (by omega)]
  rw [e1, hb, Int.natCast_emod]
end My

set_option Elab.async false
set_option linter.all false
set_option maxRecDepth 100000
set_option maxHeartbeats 4000000
namespace My
open PySem PySem.Spec PyProof.Rows L2
/-! ### the mirrored row -/
/-! ### bounds -/
/-! ### the dict of rows made by a comprehension -/
structure DcI (H1 H' : Hp) (D : Addr) (o : Nat) (r : Str → Int → Int) (ns : List Str) (ws : List (Str × Addr)) : Prop where
  at_ : H' D = some (.dK (spotKvs ws))
  ns : ws.map (·.1) = ns
  ndA : (ws.map (·.2)).Nodup
  ne : ∀ e ∈ ws, e.2 ≠ D
  jars : ∀ e ∈ ws, JarIn H' e.2 0 ((o : Int) - 1) (r e.1)
  news : ∀ e ∈ ws, H1 e.2 = none
  same : Same H1 H'
section
variable {H1 H' H2 : Hp} {D : Addr} {o : Nat} {r : Str → Int → Int} {ns : List Str} {ws : List (Str × Addr)}
theorem DcI.empty (hD : H1 D = none) : DcI H1 (upd H1 D (.dK [])) D o r [] [] := ⟨upd_same, rfl, by simp, by simp, by simp, by simp, Same.new0 hD⟩
theorem spot_fresh {ws : List (Str × Addr)} {n : Str} (h : ¬ n ∈ ws.map (·.1)) : valV (spotKvs ws) (.inr n) = none := by
  cases e : valV (spotKvs ws) (.inr n) with
  | none => rfl
  | some v =>
    obtain ⟨j, _, m⟩ := spot_val e
    exact absurd (List.mem_map.mpr ⟨_, m, rfl⟩) h
theorem DcI.push {n : Str} {d : Addr} (h : DcI H1 H' D o r ns ws) (hD : H1 D = none) (hn : ¬ n ∈ ns) (s : Same H' H2) (hd : H' d = none) (hj : JarIn H2 d 0 ((o : Int) - 1) (r n)) :
    DcI H1 (upd H2 D (.dK (putK (spotKvs ws) (.inr n) (.ref d)))) D o r (ns ++ [n]) (ws ++ [(n, d)]) := by
  have hv := spot_fresh (ws := ws) (n := n) (by rw [h.ns]; exact hn)
  have ds : d ≠ D := (ne_of_none h.at_ hd).symm
  have e : spotKvs ws ++ [(Sum.inr n, V.ref d)] = spotKvs (ws ++ [(n, d)]) := by simp [spotKvs]
  rw [putK_new _ hv, e]
  refine ⟨upd_same, by rw [List.map_append, h.ns]; rfl, ?_, fun x hx => ?_, fun x hx => ?_, fun x hx => ?_, Same.put (h.same.trans s) hD⟩
  · rw [List.map_append]
    refine List.nodup_append.mpr ⟨h.ndA, by simp, fun a ha b hb e => ?_⟩
    have hb := List.mem_singleton.mp hb
    subst hb
    obtain ⟨x, hx, rfl⟩ := List.mem_map.mp ha
    obtain ⟨_, e2, _⟩ := h.jars x hx
    exact absurd e (ne_of_none e2 hd)
  · rcases List.mem_append.mp hx with hx | hx
    · exact h.ne x hx
    · rw [List.mem_singleton.mp hx]; exact ds
  · rcases List.mem_append.mp hx with hx | hx
    · exact ((h.jars x hx).same s).upd (h.ne x hx)
    · rw [List.mem_singleton.mp hx]; exact hj.upd ds
  · rcases List.mem_append.mp hx with hx | hx
    · exact h.news x hx
    · rw [List.mem_singleton.mp hx]; exact free_same h.same hd
theorem DcI.rows (h : DcI H1 H' D o r ns ws) (nd : ns.Nodup) (nm : ∀ n ∈ ns, IsName n) (z : ∀ n, ¬ n ∈ ns → ∀ k, r n k = 0) : RwsAt H' D o r ws :=
  ⟨h.at_, by rw [h.ns]; exact nd, h.ndA, fun e he => nm _ (by rw [← h.ns]; exact List.mem_map.mpr ⟨e, he, rfl⟩), h.ne, h.jars, fun n hn => z n (by rw [← h.ns]; exact hn)⟩
end
/-! ### what a state tells -/
end My

set_option Elab.async false
set_option linter.all false
set_option maxRecDepth 100000
set_option maxHeartbeats 4000000
namespace My
open PySem PySem.Spec PyProof.Rows L2
/-! ### the law's rows: a dict from names to lists of as many numbers as the order -/
def rowF (o : Nat) (c : Int → Int) : List Int := (List.range o).map fun i => c ((i : Nat) : Int)
theorem rowF_congr {o : Nat} {c d : Int → Int} (h : ∀ k : Int, 0 ≤ k → k < o → c k = d k) : rowF o c = rowF o d := by
  unfold rowF
  refine List.map_congr_left fun i hi => h i (by omega) ?_
  have := List.mem_range.mp hi
  omega
structure LrAt (H : Hp) (s : Addr) (o : Nat) (r : Str → Int → Int) (ws : List (Str × Addr)) : Prop where
  at_ : H s = some (.dK (namD ws))
  nd : (ws.map (·.1)).Nodup
  name : ∀ e ∈ ws, IsName e.1
  rows : ∀ e ∈ ws, H e.2 = some (.lst ((rowF o (r e.1)).map V.int))
  none_ : ∀ n, ¬ n ∈ ws.map (·.1) → ∀ k, r n k = 0
  out : ∀ n (k : Int), ¬ (0 ≤ k ∧ k < o) → r n k = 0
section
variable {H H' : Hp} {s : Addr} {o : Nat} {r : Str → Int → Int} {ws : List (Str × Addr)}
theorem LrAt.later (h : LrAt H s o r ws) (k : Same H H') : LrAt H' s o r ws := ⟨k _ _ h.at_, h.nd, h.name, fun e he => k _ _ (h.rows e he), h.none_, h.out⟩
theorem LrAt.but {l : Addr} {xs : List V} (h : LrAt H s o r ws) (k : But l H H') (n1 : l ≠ s) (n2 : ∀ e ∈ ws, l ≠ e.2) : LrAt H' s o r ws := ⟨k _ _ n1.symm h.at_, h.nd, h.name, fun e he => k _ _ (n2 e he).symm (h.rows e he), h.none_, h.out⟩
theorem LrAt.congr {q : Str → Int → Int} (h : LrAt H s o r ws) (e : ∀ n k, r n k = q n k) : LrAt H s o q ws := by
  obtain rfl : r = q := funext fun n => funext (e n)
  exact h
theorem LrAt.few (h : LrAt H s o r ws) : ws.length < 64 := by
  have := names_few (ks := ws.map (·.1)) (fun n hn => by obtain ⟨e, he, rfl⟩ := List.mem_map.mp hn; exact h.name e he) h.nd
  simpa using this
theorem LrAt.get (h : LrAt H s o r ws) (n : Str) {g : Addr} (hg : H g = some (.lst ((rowF o fun _ => 0).map V.int))) :
    ∃ u a, DGet H s (.str n) u ∧ u.getD (.ref g) = .ref a ∧ H a = some (.lst ((rowF o (r n)).map V.int)) := by
  obtain ⟨v1, v2⟩ := namD_val ws n h.nd
  by_cases m : n ∈ ws.map (·.1)
  · obtain ⟨⟨n', a⟩, hm, rfl⟩ := List.mem_map.mp m
    exact ⟨_, a, by have := DGet.k h.at_ (k := .inr n'); rw [v1 a hm] at this; exact this, rfl, h.rows _ hm⟩
  · refine ⟨none, g, by have := DGet.k h.at_ (k := .inr n); rw [v2 m] at this; exact this, rfl, ?_⟩
    rw [hg, rowF_congr fun k _ _ => (h.none_ n m k).symm]
end
/-- the rows so far: names done, all lists new -/
structure LrI (H1 H' : Hp) (D : Addr) (o : Nat) (r : Str → Int → Int) (ns : List Str) (ws : List (Str × Addr)) : Prop where
  at_ : H' D = some (.dK (namD ws))
  ns : ws.map (·.1) = ns
  rows : ∀ e ∈ ws, H' e.2 = some (.lst ((rowF o (r e.1)).map V.int))
  same : Same H1 H'
section
variable {H1 H' H2 : Hp} {D : Addr} {o : Nat} {r : Str → Int → Int} {ns : List Str} {ws : List (Str × Addr)}
theorem LrI.empty (hD : H1 D = none) : LrI H1 (upd H1 D (.dK [])) D o r [] [] := ⟨upd_same, rfl, by simp, Same.new0 hD⟩
theorem LrI.later (h : LrI H1 H' D o r ns ws) (k : Same H' H2) : LrI H1 H2 D o r ns ws := ⟨k _ _ h.at_, h.ns, fun e he => k _ _ (h.rows e he), h.same.trans k⟩
theorem namD_fresh {n : Str} (h : ¬ n ∈ ws.map (·.1)) : valV (namD ws) (.inr n) = none := by
  induction ws with
  | nil => rfl
  | cons e ws ih =>
    rw [List.map_cons] at h
    rw [namD, List.map_cons, valV_neg fun z => h (by rw [← Sum.inr.inj z]; exact List.mem_cons_self)]
    exact ih fun z => h (List.mem_cons_of_mem _ z)
theorem namD_put {n : Str} {d : Addr} (hm : H' D = some (.dK (namD ws))) (hl : ws.length ≤ 1000) (hn : ¬ n ∈ ws.map (·.1)) : DPut H' D (.str n) (.ref d) (upd H' D (.dK (namD (ws ++ [(n, d)])))) := by
  have e : putK (namD ws) (.inr n) (.ref d) = namD (ws ++ [(n, d)]) := by
    rw [putK_new _ (namD_fresh hn)]
    simp [namD]
  rw [← e]
  refine DPut.k (k := .inr n) hm (Nat.lt_of_le_of_lt (m := 1000) ?_ (by decide))
  rw [namD, List.length_map]
  exact hl
theorem namD_rows {n : Str} {d : Addr} {f : Str → List V} (hm : H' D = some (.dK (namD ws))) (hr : ∀ e ∈ ws, H' e.2 = some (.lst (f e.1))) (hd : H' d = some (.lst (f n))) : ∀ e ∈ ws ++ [(n, d)], (upd H' D (.dK (namD (ws ++ [(n, d)])))) e.2 = some (.lst (f e.1)) := fun x hx => by
  rcases List.mem_append.mp hx with hx | hx
  · exact (upd_ne (ne_of (hr x hx) hm (by intro z; cases z))).trans (hr x hx)
  · rw [List.mem_singleton.mp hx]
    exact (upd_ne (ne_of hd hm (by intro z; cases z))).trans hd
theorem LrI.push {n : Str} {d : Addr} (h : LrI H1 H' D o r ns ws) (hl : ns.length ≤ 1000) (hD : H1 D = none) (hn : ¬ n ∈ ns) (hd : H' d = some (.lst ((rowF o (r n)).map V.int))) :
    DPut H' D (.str n) (.ref d) (upd H' D (.dK (namD (ws ++ [(n, d)])))) ∧ LrI H1 (upd H' D (.dK (namD (ws ++ [(n, d)])))) D o r (ns ++ [n]) (ws ++ [(n, d)]) := by
  have hw := congrArg List.length h.ns
  rw [List.length_map] at hw
  exact ⟨namD_put h.at_ (by omega) (by rw [h.ns]; exact hn), upd_same, by rw [List.map_append, h.ns]; rfl, namD_rows (f := fun n => (rowF o (r n)).map V.int) h.at_ h.rows hd, Same.put h.same hD⟩
end
end My

set_option Elab.async false
set_option linter.all false
set_option maxRecDepth 100000
set_option maxHeartbeats 1000000
/-! dict != {} -/
namespace My
open PySem PySem.W PySem.Spec PyProof.Rows L2
def rNeDE : R2 := fun x y H Q => ∃ a b kvs, x = .ref a ∧ y = .ref b ∧ H a = some (.dK kvs) ∧ H b = some (.dK []) ∧ Q (.bl (!decide (kvs = []))) H
theorem op_neDE {X : Cx} (hu64 : X.A.units + 64 < cLine) : OpR X (compareOp .NotEq) rNeDE := by
  have hu : X.A.units < cLine := by omega
  intro pins s σ H x y v u Q I rx ry hq
  obtain ⟨a, b, kvs, rfl, rfl, ha, hb, q⟩ := hq
  cases (show v = Value.ref a from rx)
  cases (show u = Value.ref b from ry)
  obtain ⟨_, sa, va, kva, da⟩ := dk_of I.hok ha
  obtain ⟨_, sb, vb, kvb, db⟩ := dk_of I.hok hb
  cases kvb
  cases kvs with
  | nil =>
    cases kva
    refine keq_ne (r := true) sa sb da db hu (fun _ => .nil) ?_
    exact ⟨.bl false, H, I, rfl, q⟩
  | cons z zs =>
    cases kva
    refine keq_ne (r := true) sa sb da db hu (fun h => by simp at h) ?_
    refine ⟨.bl true, H, I, rfl, ?_⟩
    exact q
theorem r_neDE {H : Hp} {Q : VK} {a b : Addr} {kvs : List (Key × V)} (ha : H a = some (.dK kvs)) (hb : H b = some (.dK [])) (q : Q (.bl (!decide (kvs = []))) H) : rNeDE (.ref a) (.ref b) H Q := ⟨a, b, kvs, rfl, rfl, ha, hb, q⟩
end My

set_option Elab.async false
set_option linter.all false
set_option maxRecDepth 100000
set_option maxHeartbeats 4000000
namespace My
open PySem PySem.Spec PyProof.Rows L2
/-! ### programs, drawn -/
def spWholeI : Sp := fun vs H Q _ => ∃ n : Int, vs = [.int n] ∧ Q (.bl true) H
theorem turns_wf : ∀ {p : Prog}, p.turnsOnly → Wf BC BC 0 p
  | .nil, _ => WfL.nil
  | .turn k r, ⟨h1, h2, h⟩ => by
    have hBC : BC = 10000000000000000000000000000000 := by decide
    exact WfL.turn_iff.mpr ⟨⟨by omega, by omega⟩, turns_wf (p := r) h⟩
  | .step _ _ _, h => h.elim
  | .rep _ _ _, h => h.elim
  | .mir _ _, h => h.elim
end My

set_option Elab.async false
set_option linter.all false
set_option maxRecDepth 100000
set_option maxHeartbeats 4000000
namespace My
open PySem PySem.Spec PyProof.Rows L2
/-! ### small short programs -/
structure Sml (p : Prog) : Prop where
  wf : Wf BC BC 1 p
  l0 : 1 ≤ p.len
  l1 : p.len ≤ 100
  sz : p.size ≤ 150
  way : Prog.wayIn 12 0 (Prog.unroll 1 p)
theorem BC_is : BC = 10000000000000000000000000000000 := by decide
theorem Sml.short {p : Prog} (h : Sml p) : p.short = true := Prog.short_of (by have := h.sz; omega) h.way
theorem Sml.head {p : Prog} (h : Sml p) : -12 ≤ p.head ∧ p.head ≤ 12 := by
  have w := Prog.wayIn_head (h := 0) (Prog.wf_unroll (s := 1) (.inl rfl) h.wf) (by decide) (by decide) h.way
  rw [Prog.head_unroll (.inl rfl) h.wf] at w
  omega
/-- with one more turn behind -/
theorem Sml.turn {p : Prog} {k : Int} (h : Sml p) (k0 : -12 ≤ p.head + k) (k1 : p.head + k ≤ 12) : Wf BC BC 1 (p.app (.turn k .nil)) ∧ 1 ≤ (p.app (.turn k .nil)).len ∧ (p.app (.turn k .nil)).len ≤ 101 ∧ (p.app (.turn k .nil)).short = true ∧ (p.app (.turn k .nil)).head = p.head + k := by
  have e := h.head
  have b := BC_is
  have l0 := h.l0
  have l1 := h.l1
  have sz := h.sz
  refine ⟨WfL.app h.wf (WfL.turn_iff.mpr ⟨by omega, WfL.nil⟩), by rw [Prog.len_app]; omega, by rw [Prog.len_app]; show p.len + 1 ≤ 101; omega, Prog.short_of (by rw [Prog.size_app]; show p.size + (1 + 0) ≤ 200; omega) ?_, by rw [Prog.head_app]; show p.head + (k + 0) = _; omega⟩
  rw [Prog.unroll_app]
  refine Prog.wayIn_app h.way ?_
  rw [Prog.head_unroll (.inl rfl) h.wf, Prog.unroll]
  exact ⟨by omega, trivial⟩
theorem Sml.flat {p : Prog} (hw : WfL 4000 1 24 0 p) (l0 : 1 ≤ p.len) (l1 : p.len ≤ 100) (w : Prog.wayIn 12 0 p) : Sml p := by
  have b := BC_is
  refine ⟨WfL.mono (by omega) (by omega) (Nat.zero_le _) hw, l0, l1, by rw [Prog.size_flat hw]; omega, by rw [Prog.unroll_flat hw]; exact w⟩
theorem ring_way {w m : Str} {u : Int} : ∀ (n : Nat) (h : Int), (∀ j : Nat, j ≤ n → -12 ≤ h + j * u ∧ h + j * u ≤ 12) → Prog.wayIn 12 h (Prog.times n (.step w m (.turn u .nil)))
  | 0, _, _ => trivial
  | n + 1, h, hb => by
    refine ⟨by have := hb 1 (by omega); omega, ?_⟩
    refine ring_way n (h + u) fun j hj => ?_
    have := hb (j + 1) (by omega)
    rw [Int.natCast_add, Int.add_mul] at this
    omega
theorem Sml.ring {wd m : Str} {k u : Int} (iw : IsWord wd) (im : IsName m) (k0 : 2 ≤ k) (k1 : k ≤ 6) (hu : -12 ≤ k * u ∧ k * u ≤ 12) (u0 : -12 ≤ u) (u1 : u ≤ 12) : Sml (.rep k (.step wd m (.turn u .nil)) .nil) := by
  have b := BC_is
  refine ⟨⟨by omega, ⟨by show 1 ≤ 2; decide, by show 2 ≤ 4000; decide⟩, WfL.step_iff.mpr ⟨iw, im, WfL.turn_iff.mpr ⟨by omega, WfL.nil⟩⟩, WfL.nil⟩, by show 1 ≤ 1; decide, by show 1 ≤ 100; decide, by show k * (1 + (1 + 0)) + 0 ≤ 150; omega, ?_⟩
  rw [Prog.unroll, Prog.unroll, Prog.unroll, Prog.unroll, Prog.unroll, Int.one_mul, Prog.app_nil]
  refine ring_way k.toNat 0 fun j hj => ?_
  have h1 : (j : Int) ≤ k := by omega
  by_cases z : 0 ≤ u
  · have h2 : (j : Int) * u ≤ k * u := Int.mul_le_mul_of_nonneg_right h1 z
    have h3 : 0 ≤ (j : Int) * u := Int.mul_nonneg (by omega) z
    omega
  · have h2 : k * u ≤ (j : Int) * u := Int.mul_le_mul_of_nonpos_right h1 (by omega)
    have h3 : (j : Int) * u ≤ 0 := Int.mul_nonpos_of_nonneg_of_nonpos (by omega) (by omega)
    omega
theorem Sml.mirr {p q : Prog} (hp : WfL 4000 1 8 0 p) (hq : WfL 4000 1 8 0 q) (l0 : 1 ≤ p.len) (l1 : p.len ≤ 40) (m1 : q.len ≤ 40) (wp : Prog.wayIn 4 0 p) (wq : Prog.wayIn 4 0 q) : Sml (.mir p q) := by
  have b := BC_is
  have h4 := Prog.wayIn_head (h := 0) hp (by decide) (by decide) wp
  refine ⟨⟨⟨l0, by omega⟩, WfL.mono (by omega) (by omega) (Nat.zero_le _) hp, WfL.mono (by omega) (by omega) (Nat.zero_le _) hq⟩, by show 1 ≤ q.len + 1; omega, by show q.len + 1 ≤ 100; omega, by show p.size + q.size ≤ 150; rw [Prog.size_flat hp, Prog.size_flat hq]; omega, ?_⟩
  rw [Prog.unroll]
  have w1 : Prog.wayIn 4 0 (Prog.unroll (-1) p) := by
    have := Prog.way_neg (s := 1) (k := 0) (f := 4) (p := p) (by rw [Prog.unroll_flat hp]; exact wp)
    rwa [Int.neg_zero] at this
  refine Prog.wayIn_app (Prog.wayIn_mono (by decide) w1) ?_
  rw [Prog.head_unroll (.inr rfl) hp, Prog.unroll_flat hq]
  exact Prog.wayIn_mono (f := 4 + 4) (by decide) (Prog.wayIn_shift (by omega) (by omega) wq)
def spSmallT : Sp := fun vs H Q _ => ∃ a : Addr, vs = [.ref a] ∧ Bag H a ∧ ∀ q p H', But a H H' → Bag H' a → PrIs H' q p → Sml p → Q (.ref q) H'
/-- pairs of steps: what is there leads back to the heading 0 -/
structure Prs (p : Prog) : Prop where
  wf : WfL 4000 1 24 0 p
  hd : p.head = 0
  way : Prog.wayIn 12 0 p
theorem Prs.nil : Prs .nil := ⟨WfL.nil, rfl, trivial⟩
theorem Prs.more {p : Prog} {m : Str} {t : Int} (h : Prs p) (im : IsName m) (t0 : 1 ≤ t) (t1 : t ≤ 6) : Prs (p.app (.step "go" m (.turn t (.step "go" m (.turn (-t) .nil))))) := by
  refine ⟨WfL.app h.wf (WfL.step_iff.mpr ⟨.inl rfl, im, WfL.turn_iff.mpr ⟨by omega, WfL.step_iff.mpr ⟨.inl rfl, im, WfL.turn_iff.mpr ⟨by omega, WfL.nil⟩⟩⟩⟩), ?_, ?_⟩
  · rw [Prog.head_app, h.hd]
    show 0 + (t + (-t + 0)) = 0
    omega
  · refine Prog.wayIn_app h.way ?_
    rw [h.hd]
    exact ⟨by omega, ⟨by omega, trivial⟩⟩
theorem Prs.step {p : Prog} {m : Str} (h : Prs p) (im : IsName m) : Prs (p.app (.step "go" m .nil)) :=
  ⟨WfL.app h.wf (WfL.step_iff.mpr ⟨.inl rfl, im, WfL.nil⟩), by rw [Prog.head_app, h.hd]; rfl, Prog.wayIn_app h.way (by rw [h.hd]; trivial)⟩
end My

set_option Elab.async false
set_option linter.all false
set_option maxRecDepth 100000
set_option maxHeartbeats 1000000
/-! tuples whose items are equal, dicts among them: != -/
namespace My
open PySem PySem.Spec PyProof.Rows L2
section
variable {prog : Program} {w : World} {A : Around} {s : Shared} {l b : Addr} {items items2 : Array Value}
theorem ne_tupP (hl : s.heap.IsTuple l items) (hb : s.heap.IsTuple b items2) (hz : items.size = items2.size) (hu : A.units < cLine)
    (he : ∀ (j : Nat) (h1 : j < items.size) (h2 : j < items2.size), SeqAt.EqP prog w A.in1 s items[j] items2[j] true) (E Q : Value → Shared → Prop) (q : Q (.bool false) s) : wpAny (model prog w) A (richCompare .NotEq (.ref l) (.ref b)) Q E s := by
  have tl : s.TypeIs (.ref l) "tuple" := by
    obtain ⟨o1, g1, c1, n1, d1⟩ := hl
    exact ⟨o1, g1, c1⟩
  have tb : s.TypeIs (.ref b) "tuple" := by
    obtain ⟨o1, g1, c1, n1, d1⟩ := hb
    exact ⟨o1, g1, c1⟩
  refine wpAny_richCompare_same_room tl tb F.slot_tuple_ne ?_ hu
  refine wpAny_call_entry F.slot_tuple_ne tl F.entry_tuple_ne ?_ (F.args_tuple_ne_2 _ _)
  obtain ⟨⟨c1, dd1, da1, sl1⟩, g1, rfl, n1, rfl⟩ := hl
  obtain ⟨⟨c2, dd2, da2, sl2⟩, g2, rfl, n2, rfl⟩ := hb
  obtain ⟨hp, g, d, tk, os⟩ := s
  refine wpAny_bind ?_
  unfold slotArgs
  refine wpAny_ite_false rfl (wpAny_ite_false rfl (wpAny_pure ?_))
  refine wpAny_bind (wpAny_isInstance (T := "tuple") ?_ F.sub_tuple_tuple ?_)
  · exact tb
  refine wpAny_ite_false rfl ?_
  refine wpAny_bind ?_
  unfold Builtin.Tuple.tupleItemsOf
  refine wpAny_bind ?_
  unfold seqItems?
  refine wpAny_bind (wpAny_load' g1 (wpAny_pure (wpAny_pure ?_)))
  refine wpAny_bind ?_
  refine wpAny_bind (wpAny_bind (wpAny_load' g2 (wpAny_pure (wpAny_pure ?_))))
  refine wpAny_bind ?_
  refine wpAny_forIn_list _ (fun rest b s' => b.1 = none ∧ s' = ⟨hp, g, d, tk, os⟩ ∧ ∃ k, rest = (items.toList.zip items2.toList).drop k) _ ?_ ?_ _ _ ⟨rfl, rfl, 0, rfl⟩
  · rintro ⟨x, y⟩ rest ⟨r, u⟩ s' ⟨h1, rfl, k, hk⟩
    have hk0 : (items.toList.zip items2.toList)[k]? = some (x, y) := by
      have := congrArg (fun l => l[0]?) hk
      simpa using this.symm
    have hk1 : rest = (items.toList.zip items2.toList).drop (k + 1) := by
      have := congrArg List.tail hk
      simpa using this
    obtain ⟨e1, e2⟩ := List.getElem?_zip_eq_some.mp hk0
    obtain ⟨l1, e1⟩ := List.getElem?_eq_some_iff.mp e1
    obtain ⟨l2, e2⟩ := List.getElem?_eq_some_iff.mp e2
    have q1 := he k (by simpa using l1) (by simpa using l2)
    rw [show items[k]'(by simpa using l1) = x from by simpa using e1, show items2[k]'(by simpa using l2) = y from by simpa using e2] at q1
    refine wpAny_bind (q1 _ _ ?_)
    refine wpAny_ite_false rfl (wpAny_pure ?_)
    exact ⟨rfl, rfl, k + 1, hk1⟩
  · rintro ⟨r, u⟩ s' ⟨h1, rfl, _⟩
    cases h1
    refine wpAny_pure ⟨_, rfl, (fun z => nomatch z), ?_⟩
    show Q (.bool (items.size != items2.size)) _
    rw [hz, show (items2.size != items2.size) = false by simp]
    exact q
theorem eq_tupP (hl : s.heap.IsTuple l items) (hb : s.heap.IsTuple b items2) (hz : items.size = items2.size) (hu : A.units < cLine)
    (he : ∀ (j : Nat) (h1 : j < items.size) (h2 : j < items2.size), SeqAt.EqP prog w A.in1 s items[j] items2[j] true) (E Q : Value → Shared → Prop) (q : Q (.bool true) s) : wpAny (model prog w) A (richCompare .Eq (.ref l) (.ref b)) Q E s := by
  have tl : s.TypeIs (.ref l) "tuple" := by
    obtain ⟨o1, g1, c1, n1, d1⟩ := hl
    exact ⟨o1, g1, c1⟩
  have tb : s.TypeIs (.ref b) "tuple" := by
    obtain ⟨o1, g1, c1, n1, d1⟩ := hb
    exact ⟨o1, g1, c1⟩
  refine wpAny_richCompare_same_room tl tb F.slot_tuple_eq ?_ hu
  refine wpAny_call_entry F.slot_tuple_eq tl F.entry_tuple_eq ?_ (F.args_tuple_eq_2 _ _)
  obtain ⟨⟨c1, dd1, da1, sl1⟩, g1, rfl, n1, rfl⟩ := hl
  obtain ⟨⟨c2, dd2, da2, sl2⟩, g2, rfl, n2, rfl⟩ := hb
  obtain ⟨hp, g, d, tk, os⟩ := s
  refine wpAny_bind ?_
  unfold slotArgs
  refine wpAny_ite_false rfl (wpAny_ite_false rfl (wpAny_pure ?_))
  refine wpAny_bind (wpAny_isInstance (T := "tuple") ?_ F.sub_tuple_tuple ?_)
  · exact tb
  refine wpAny_ite_false rfl ?_
  refine wpAny_bind ?_
  unfold Builtin.Tuple.tupleItemsOf
  refine wpAny_bind ?_
  unfold seqItems?
  refine wpAny_bind (wpAny_load' g1 (wpAny_pure (wpAny_pure ?_)))
  refine wpAny_bind ?_
  refine wpAny_bind (wpAny_bind (wpAny_load' g2 (wpAny_pure (wpAny_pure ?_))))
  refine wpAny_bind ?_
  refine wpAny_forIn_list _ (fun rest b s' => b.1 = none ∧ s' = ⟨hp, g, d, tk, os⟩ ∧ ∃ k, rest = (items.toList.zip items2.toList).drop k) _ ?_ ?_ _ _ ⟨rfl, rfl, 0, rfl⟩
  · rintro ⟨x, y⟩ rest ⟨r, u⟩ s' ⟨h1, rfl, k, hk⟩
    have hk0 : (items.toList.zip items2.toList)[k]? = some (x, y) := by
      have := congrArg (fun l => l[0]?) hk
      simpa using this.symm
    have hk1 : rest = (items.toList.zip items2.toList).drop (k + 1) := by
      have := congrArg List.tail hk
      simpa using this
    obtain ⟨e1, e2⟩ := List.getElem?_zip_eq_some.mp hk0
    obtain ⟨l1, e1⟩ := List.getElem?_eq_some_iff.mp e1
    obtain ⟨l2, e2⟩ := List.getElem?_eq_some_iff.mp e2
    have q1 := he k (by simpa using l1) (by simpa using l2)
    rw [show items[k]'(by simpa using l1) = x from by simpa using e1, show items2[k]'(by simpa using l2) = y from by simpa using e2] at q1
    refine wpAny_bind (q1 _ _ ?_)
    refine wpAny_ite_false rfl (wpAny_pure ?_)
    exact ⟨rfl, rfl, k + 1, hk1⟩
  · rintro ⟨r, u⟩ s' ⟨h1, rfl, _⟩
    cases h1
    refine wpAny_pure ⟨_, rfl, (fun z => nomatch z), ?_⟩
    show Q (.bool (items.size == items2.size)) _
    rw [hz, show (items2.size == items2.size) = true by simp]
    exact q
end
/-- equal data at unlike places: numbers and texts, lists, tuples, dicts -/
def EqN (H : Hp) : Nat → V → V → Prop
  | 0 => fun x y => x = y ∧ flatB x = true
  | n + 1 => fun x y => (x = y ∧ flatB x = true) ∨ (∃ a, x = .ref a ∧ y = .ref a) ∨ ∃ a b, x = .ref a ∧ y = .ref b ∧ a ≠ b ∧
      ((∃ xs ys, H a = some (.lst xs) ∧ H b = some (.lst ys) ∧ Paired (EqN H n) xs ys) ∨ (∃ xs ys, H a = some (.tup xs) ∧ H b = some (.tup ys) ∧ Paired (EqN H n) xs ys) ∨
       (∃ ks ls, H a = some (.dK ks) ∧ H b = some (.dK ls) ∧ ks.length = ls.length ∧ ∀ p ∈ ks, ∃ u, valV ls p.1 = some u ∧ EqN H n p.2 u))
/-- the reading of != for a tuple that is equal -/
def rNeN : R2 := fun x y H Q => ∃ a b xs ys n, x = .ref a ∧ y = .ref b ∧ H a = some (.tup xs) ∧ H b = some (.tup ys) ∧ n ≤ 20 ∧ Paired (EqN H n) xs ys ∧ Q (.bl false) H
theorem nq_len {α β : Type} {R : α → β → Prop} : ∀ {xs : List α} {ys : List β}, Paired R xs ys → xs.length = ys.length
  | _, _, .nil => rfl
  | _, _, .cons _ h => by rw [List.length_cons, List.length_cons, nq_len h]
section
variable {X : Cx} {pins : List (Addr × Obj)} {σ : L2.St} {H : Hp} {s : Shared}
theorem lst_at (I : L2.Inv X pins σ H s) {a : Addr} {xs : List V} (h : H a = some (.lst xs)) : ∃ its : Array Value, s.heap.IsList a its ∧ Vals xs its.toList := by
  obtain ⟨_, its, n, hv, hg⟩ : xs.length ≤ sizeLine ∧ ∃ its n, Vals xs its ∧ s.heap.get? a = some { cls := Value.type "list", data := Data.seq its.toArray n } := I.hok a _ h
  exact ⟨its.toArray, ⟨_, hg, rfl, n, rfl⟩, hv⟩
theorem tup_at (I : L2.Inv X pins σ H s) {a : Addr} {xs : List V} (h : H a = some (.tup xs)) : ∃ its : Array Value, s.heap.IsTuple a its ∧ Vals xs its.toList := by
  obtain ⟨_, its, hv, hg⟩ : xs.length ≤ sizeLine ∧ ∃ its, Vals xs its ∧ IsTup s.heap a its.toArray := I.hok a _ h
  exact ⟨its.toArray, hg, hv⟩
theorem vals_run {A : Around} {F : V → V → Prop} (ih : ∀ x y v u, F x y → L2.RelV x v → L2.RelV y u → SeqAt.EqP X.prog X.w A s v u true) {xs ys : List V} {its jts : Array Value} (hp : Paired F xs ys) (h1 : Vals xs its.toList) (h2 : Vals ys jts.toList) :
    its.size = jts.size ∧ ∀ (j : Nat) (h1 : j < its.size) (h2 : j < jts.size), SeqAt.EqP X.prog X.w A s its[j] jts[j] true := by
  have l1 : xs.length = its.size := by rw [h1.length, Array.length_toList]
  have l2 : ys.length = jts.size := by rw [h2.length, Array.length_toList]
  have l3 := nq_len hp
  refine ⟨by omega, fun j a b => ?_⟩
  have := items_run ih hp h1 h2 j (by rw [Array.length_toList]; exact a) (by rw [Array.length_toList]; exact b)
  simpa using this
theorem eqN_run (I : L2.Inv X pins σ H s) : ∀ (n : Nat) (A : Around), A.units + n + 1 < cLine → ∀ (x y : V) (v u : Value), EqN H n x y → L2.RelV x v → L2.RelV y u → SeqAt.EqP X.prog X.w A s v u true
  | 0, A, hu, x, y, v, u, h, r1, r2 => eqV_run I 1 A (by omega) x y v u (.inl h) r1 r2
  | n + 1, A, hu, x, y, v, u, h, r1, r2 => by
    rcases h with h | ⟨a, rfl, rfl⟩ | ⟨a, b, rfl, rfl, nab, h⟩
    · exact eqV_run I 1 A (by omega) x y v u (.inl h) r1 r2
    · cases (show v = Value.ref a from r1)
      cases (show u = Value.ref a from r2)
      exact (SeqAt.EqAt.same _).eqP
    · cases (show v = Value.ref a from r1)
      cases (show u = Value.ref b from r2)
      have hu1 : A.in1.units + n + 1 < cLine := by rw [Around.in1_units]; omega
      have ih := eqN_run I n A.in1 hu1
      refine SeqAt.eqP_refs nab fun E Q q => ?_
      rcases h with ⟨xs, ys, h1, h2, hp⟩ | ⟨xs, ys, h1, h2, hp⟩ | ⟨ks, ls, h1, h2, hl, hp⟩
      · obtain ⟨its, i1, v1⟩ := lst_at I h1
        obtain ⟨jts, i2, v2⟩ := lst_at I h2
        obtain ⟨e1, e2⟩ := vals_run ih hp v1 v2
        exact SeqAt.rcP_lists (e := fun _ => true) i1 i2 e1 (by omega) e2 E Q (by rw [show (List.range its.size).all (fun _ => true) = true by rw [List.all_eq_true]; exact fun _ _ => rfl]; exact q)
      · obtain ⟨its, i1, v1⟩ := tup_at I h1
        obtain ⟨jts, i2, v2⟩ := tup_at I h2
        obtain ⟨e1, e2⟩ := vals_run ih hp v1 v2
        exact eq_tupP i1 i2 e1 (by omega) e2 E Q q
      · obtain ⟨_, sa, va, kva, da⟩ := dk_of I.hok h1
        obtain ⟨_, sb, vb, kvb, db⟩ := dk_of I.hok h2
        refine PySem.W.rcP_dicts (r := true) sa sb da db (by omega) (fun _ => hits_run ih kvb kva hp) E Q ?_
        rw [← nq_len kva, ← nq_len kvb, hl]
        simpa using q
theorem op_neN {X : Cx} (hu64 : X.A.units + 64 < cLine) : OpR X (compareOp .NotEq) rNeN := by
  intro pins s σ H x y v u Q I rx ry hq
  obtain ⟨a, b, xs, ys, n, rfl, rfl, ha, hb, hn, hp, q⟩ := hq
  cases (show v = Value.ref a from rx)
  cases (show u = Value.ref b from ry)
  obtain ⟨its, i1, v1⟩ := tup_at I ha
  obtain ⟨jts, i2, v2⟩ := tup_at I hb
  obtain ⟨e1, e2⟩ := vals_run (eqN_run I n X.A.in1 (by rw [Around.in1_units]; omega)) hp v1 v2
  exact ne_tupP i1 i2 e1 (by omega) e2 _ _ ⟨.bl false, H, I, rfl, q⟩
end
theorem r_neN {H : Hp} {Q : VK} {a b : Addr} {xs ys : List V} (n : Nat) (ha : H a = some (.tup xs)) (hb : H b = some (.tup ys)) (hn : n ≤ 20) (hp : Paired (EqN H n) xs ys) (q : Q (.bl false) H) : rNeN (.ref a) (.ref b) H Q := ⟨a, b, xs, ys, n, rfl, rfl, ha, hb, hn, hp, q⟩
end My

set_option Elab.async false
set_option linter.all false
set_option maxRecDepth 100000
set_option maxHeartbeats 4000000

namespace My
open PySem PySem.Spec PyProof.Rows L2
section
local macro_rules | `(tactic| walk_at "isi") => `(tactic| (first
  | (with_reducible refine r_is_int_int ?_)
  | (with_reducible refine r_is_int_bool ?_)
  | (with_reducible refine r_is_int_str ?_)
  | (with_reducible refine r_is_int_list ?_)
  | (with_reducible refine r_is_int_tuple ?_)
  | (with_reducible refine r_is_bool_int ?_)
  | (with_reducible refine r_is_bool_bool ?_)
  | (with_reducible refine r_is_bool_str ?_)
  | (with_reducible refine r_is_bool_list ?_)
  | (with_reducible refine r_is_bool_tuple ?_)
  | (with_reducible refine r_is_str_int ?_)
  | (with_reducible refine r_is_str_bool ?_)
  | (with_reducible refine r_is_str_str ?_)
  | (with_reducible refine r_is_str_list ?_)
  | (with_reducible refine r_is_str_tuple ?_)
  | ((with_reducible refine r_is_list_int (xs := ?xx) ?hh ?_); (case hh => walk_at "hp"))
  | ((with_reducible refine r_is_list_bool (xs := ?xx) ?hh ?_); (case hh => walk_at "hp"))
  | ((with_reducible refine r_is_list_str (xs := ?xx) ?hh ?_); (case hh => walk_at "hp"))
  | ((with_reducible refine r_is_list_list (xs := ?xx) ?hh ?_); (case hh => walk_at "hp"))
  | ((with_reducible refine r_is_list_tuple (xs := ?xx) ?hh ?_); (case hh => walk_at "hp"))
  | ((with_reducible refine r_is_tuple_int (xs := ?xx) ?hh ?_); (case hh => walk_at "hp"))
  | ((with_reducible refine r_is_tuple_bool (xs := ?xx) ?hh ?_); (case hh => walk_at "hp"))
  | ((with_reducible refine r_is_tuple_str (xs := ?xx) ?hh ?_); (case hh => walk_at "hp"))
  | ((with_reducible refine r_is_tuple_list (xs := ?xx) ?hh ?_); (case hh => walk_at "hp"))
  | ((with_reducible refine r_is_tuple_tuple (xs := ?xx) ?hh ?_); (case hh => walk_at "hp"))
  | (with_reducible refine r_is_NoneType_int ?_)
  | (with_reducible refine r_is_NoneType_bool ?_)
  | (with_reducible refine r_is_NoneType_str ?_)
  | (with_reducible refine r_is_NoneType_list ?_)
  | (with_reducible refine r_is_NoneType_tuple ?_)))
local macro_rules | `(tactic| walk_at "ne") => `(tactic| first | assumption | (refine Ne.symm ?_; assumption) | exact Bag.ne (by assumption) (by assumption) | exact ne_of_none (by assumption) (by assumption))
local macro_rules | `(tactic| walk_at "hp") => `(tactic| (first
  | assumption
  | exact upd_same
  | (refine h_keep ?_ (by assumption); walk_at "hp")
  | (refine (upd_ne (by walk_at "ne")).trans ?_; walk_at "hp")
  | (refine Same.at (by assumption) ?_; walk_at "hp")
  | (refine But.at (by assumption) (by walk_at "ne") ?_; walk_at "hp")
  | (refine But2.at (by assumption) (by walk_at "ne") (by walk_at "ne") ?_; walk_at "hp")))
local macro_rules | `(tactic| walk_at "side") => `(tactic| first | assumption | omega | (refine ⟨?_, ?_⟩ <;> first | assumption | omega | decide) | decide | (refine ⟨by decide, by decide, by decide⟩) | (left; refine ⟨?_, ?_⟩ <;> first | omega | decide) | (right; refine ⟨?_, ?_⟩ <;> first | omega | decide) | (simp; done))
local macro_rules | `(tactic| walk_at "cond") => `(tactic| first | assumption | exact rfl | omega | (simp only [List.length_cons, List.length_nil]; omega) | decide +kernel)
local macro_rules | `(tactic| walk_at "s") => `(tactic| (first
  | ((with_reducible refine r_var (v := ?vv) ?ee ?_); (case ee => exact rfl))
  | (with_reducible refine r_c ?_)
  | (with_reducible refine r_op ?_)
  | (with_reducible refine r_un ?_)
  | (with_reducible refine r_rI0 ?_)
  | ((with_reducible refine r_rI ?cc ?_); (case cc => walk_at "side"))
  | (with_reducible refine r_rU ?_)
  | (with_reducible refine r_eqI ?_)
  | (with_reducible refine r_neI ?_)
  | (with_reducible refine r_eqB ?_)
  | (with_reducible refine r_neB ?_)
  | (with_reducible refine r_eqS ?_)
  | (with_reducible refine r_neS ?_)
  | ((with_reducible refine r_eq ?ee ?_); (case ee => exact rfl))
  | ((with_reducible refine r_ne ?ee ?_); (case ee => exact rfl))
  | ((with_reducible refine r_ixL (v := ?vv) (xs := ?xx) ?hh ?ee ?_); (case hh => (refine SqL.of ?_; walk_at "hp")); (case ee => exact rfl))
  | (with_reducible refine r_cb ?_)
  | (with_reducible refine r_call ?_)
  | (with_reducible refine r_cons ?_)
  | (with_reducible refine r_nil ?_)
  | (with_reducible refine r_lst ?_)
  | (with_reducible refine r_tup ?_)
  | ((with_reducible refine r_new ?cc ?_); (case cc => walk_at "side"))
  | (with_reducible refine r_exbl ?_)
  | (with_reducible refine r_exint ?_)
  | (with_reducible refine r_exint2 ?_)
  | (with_reducible refine r_exblL ?_)
  | (with_reducible refine r_ex2 ?_)
  | (with_reducible refine r_test ?_)
  | (with_reducible refine r_tB ?_)
  | (with_reducible refine r_not ?_)
  | (with_reducible refine r_and ?_)
  | (with_reducible refine r_or ?_)
  | (with_reducible refine r_andV ?_)
  | (with_reducible refine r_orV ?_)
  | (with_reducible refine r_notV ?_)
  | (with_reducible refine r_tif ?_)
  | (with_reducible refine r_iteT ?_)
  | (with_reducible refine r_iteNT ?_)
  | (with_reducible refine r_iteNF ?_)
  | (with_reducible refine r_iteF ?_)
  | (with_reducible refine r_seq ?_)
  | (with_reducible refine r_next ?_)
  | (with_reducible refine r_brk ?_)
  | (with_reducible refine r_cont ?_)
  | (with_reducible refine r_asg ?_)
  | (with_reducible refine r_gname ?_)
  | (with_reducible refine r_ret ?_)
  | (with_reducible refine r_retN ?_)
  | (with_reducible refine r_drop ?_)
  | (with_reducible refine r_if ?_)
  | ((with_reducible refine r_aug (x := ?xx) ?ee ?_); (case ee => exact rfl))
  | (with_reducible refine r_ipI ?_)
  | (with_reducible refine r_augS ?_)
  | (with_reducible refine r_gsub ?_)
  | ((with_reducible refine r_setL (xs := ?xx) (m := ?mm) ?hh ?ee ?_); (case hh => walk_at "hp"); (case ee => exact rfl))
  | (with_reducible refine r_par ?_)
  | (with_reducible refine r_bm ?_)
  | ((with_reducible refine r_tyL (xs := ?xx) ?hh ?_); (case hh => walk_at "hp"))
  | ((with_reducible refine r_append (xs := ?xx) ?hh ?ll ?_); (case hh => walk_at "hp"); (case ll => walk_at "side"))
  | (walk_at "isi")
  | (with_reducible refine r_for ?_)
  | (with_reducible refine r_iList ?_)
  | (with_reducible refine r_iTup ?_)
  | (with_reducible refine r_iR1 ?_)
  | (with_reducible refine r_iR2 ?_)
  | (with_reducible refine r_lc ?_)
  | (with_reducible refine r_yes ?_)
  | ((with_reducible refine r_lenS ?ll ?_); (case ll => walk_at "side"))
  | (with_reducible refine r_leS ?_)
  | (with_reducible refine r_chain ?_)
  | (with_reducible refine r_tM1 ?_)
  | (with_reducible refine r_exS ?_)
  | ((with_reducible refine r_tupL (xs := ?xx) ?hh ?_); (case hh => walk_at "hp"))
  | ((with_reducible refine r_listL (xs := ?xx) ?hh ?_); (case hh => walk_at "hp"))
  | ((with_reducible refine r_listT (xs := ?xx) ?hh ?_); (case hh => walk_at "hp"))
  | ((with_reducible refine r_ixT (v := ?vv) (xs := ?xx) ?hh ?ee ?_); (case hh => (refine SqT.of ?_; walk_at "hp")); (case ee => exact rfl))
  | (with_reducible refine r_sl ?_)
  | (with_reducible refine r_nopart ?_)
  | (with_reducible refine r_part ?_)
  | (with_reducible refine r_exI ?_)
  | ((with_reducible refine r_slL (xs := ?xx) ?hh ?_); (case hh => first | assumption | (refine SqL.of ?_; walk_at "hp") | (refine Same.seq (by assumption) (by assumption))))
  | ((with_reducible refine r_cat (xs := ?xx) (zs := ?zz) ?hh ?ii ?ll ?_); (case hh => walk_at "hp"); (case ii => walk_at "hp"); (case ll => walk_at "side"))
  | ((with_reducible refine r_lenL (xs := ?xx) ?hh ?_); (case hh => walk_at "hp"))
  | ((with_reducible refine r_lenT (xs := ?xx) ?hh ?_); (case hh => walk_at "hp"))
  | ((with_reducible refine r_gTup (xs := ?xx) ?hh ?ll ?_); (case hh => walk_at "hp"); (case ll => exact rfl))
  | (with_reducible refine r_gCons ?_)
  | (with_reducible refine r_gNil ?_)
  | ((with_reducible refine r_iteDT ?cc ?_); (case cc => walk_at "cond"))
  | ((with_reducible refine r_iteDF ?cc ?_); (case cc => walk_at "cond"))
  | ((with_reducible refine r_iteNDT ?cc ?_); (case cc => walk_at "cond"))
  | ((with_reducible refine r_iteNDF ?cc ?_); (case cc => walk_at "cond"))
  ))
local macro_rules | `(tactic| walk_at "go") => `(tactic| repeat (walk_at "s"))
open PySem PySem.Spec PyProof.Rows L2
section
variable {P : Program} {w : World} {K : PySem.W.Frag} {mg : Str → Option Value} {base : Heap}

/-- the bounds of counts and turns by the flag -/
def CB (b : Bool) : Int := if b then BC else 3
def TB (b : Bool) : Int := if b then BC else 12
end

set_option Elab.async false
set_option linter.all false
set_option maxRecDepth 100000
set_option maxHeartbeats 4000000

open PySem PySem.Spec PyProof.Rows L2
section
variable {P : Program} {w : World} {K : PySem.W.Frag} {mg : Str → Option Value} {base : Heap}

def spIsInt : Sp := fun vs H Q _ => ∃ n : Int, vs = [.int n] ∧ Q (.bl true) H
theorem ok_is_integer {f : Addr} {fd : FuncData} (F : Fun K "is_integer" "is_integer" s_is_integer f fd) (B : Bl mg) : FnOk P w K mg base CX0 1 f fd ["value"] spIsInt := by
  refine F.ok sc_is_integer (fun vs H Q E h => ?_) (fun cdv A outer s H vs Q E hr h => ?_)
  · obtain ⟨c, rfl, _⟩ := h
    rfl
  · obtain ⟨c, rfl, k⟩ := h
    refine ⟨_, (pss_one (ps_ret (pe_and (pe_callB (call_isiKK (K := K)) (by rfl) B.b_isinstance (by decide +kernel) (pa_cons (pv 0) (pa_cons (pe_bltn (v := .ty "int") (by rfl) B.b_int (by decide +kernel) rfl) pa_nil))) (pe_one (pe_not (pe_callB (call_isiKK (K := K)) (by rfl) B.b_isinstance (by decide +kernel) (pa_cons (pv 0) (pa_cons (pe_bltn (v := .ty "bool") (by rfl) B.b_bool (by decide +kernel) rfl) pa_nil)))))))), ?_⟩
    walk_at "go"
    exact k
def spIsName : Sp := fun vs H Q _ => ∃ n : Str, vs = [.str n] ∧ IsName n ∧ Q (.bl true) H
theorem ok_is_name {f : Addr} {fd : FuncData} (F : Fun K "is_name" "is_name" s_is_name f fd) (B : Bl mg) : FnOk P w K mg base CX0 1 f fd ["value"] spIsName := by
  refine F.ok sc_is_name (fun vs H Q E h => ?_) (fun cdv A outer s H vs Q E hr h => ?_)
  · obtain ⟨c, rfl, _⟩ := h
    rfl
  · obtain ⟨c, rfl, hn, k⟩ := h
    have h1 := name_len hn
    have h2 := letter_a hn
    have h3 := letter_z hn
    refine ⟨_, (pss_one (ps_ret (pe_and (pe_callB (call_isiKK (K := K)) (by rfl) B.b_isinstance (by decide +kernel) (pa_cons (pv 0) (pa_cons (pe_bltn (v := .ty "str") (by rfl) B.b_str (by decide +kernel) rfl) pa_nil))) (pe_and (pe_cmpR op_eq (pe_callB call_lenS (by rfl) B.b_len PySem.boot_len (pa_cons (pv 0) pa_nil)) pe_int (nomark _)) (pe_one (pe_chain op_leS op_leS pe_str (pv 0) pe_str)))))), ?_⟩
    walk_at "go"
    show Q (V.bl !decide _) H
    rw [decide_eq_false h3]
    exact k
def spIsCmd (d : Nat) : Sp := fun vs H Q _ => ∃ x r r', vs = [x] ∧ First H r x r' ∧ Wf BC BC d r ∧ ∀ H', Same H H' → Q (.bl true) H'
def spIsPr (d : Nat) : Sp := fun vs H Q _ => ∃ a p, vs = [.ref a] ∧ PrIs H a p ∧ Wf BC BC d p ∧ 1 ≤ p.len ∧ p.len ≤ 4000 ∧ ∀ H', Same H H' → Q (.bl true) H'
def spIsPrLt : Nat → Sp
  | 0 => fun _ _ _ _ => False
  | d + 1 => spIsPr d
theorem first_wf {H : Hp} {C T : Int} {d : Nat} {r r' : Prog} {x : V} (h : First H r x r') (w : Wf C T d r) : Wf C T d r' := by
  cases r with
  | nil => exact h.elim
  | step w' n r => obtain ⟨c, rfl, h1, rfl⟩ := h; exact (WfL.step_iff.mp w).2.2
  | turn k r => obtain ⟨c, rfl, h1, rfl⟩ := h; exact (WfL.turn_iff.mp w).2
  | rep k b r =>
    obtain ⟨c, q, rfl, h1, h2, rfl⟩ := h
    cases d with
    | zero => exact w.elim
    | succ d => exact w.2.2.2
  | mir b r =>
    obtain ⟨c, q, rfl, h1, h2, rfl⟩ := h
    cases d with
    | zero => exact w.elim
    | succ d => exact w.2.2
theorem ok_is_command {f : Addr} {fd : FuncData} (d : Nat) (F : Fun K "is_command" "is_command" s_is_command f fd) (B : Bl mg) (S : StepsAt K w mg) (h_is_integer : Has P w K mg base "is_integer" 1 ["value"] spIsInt) (h_is_name : Has P w K mg base "is_name" 1 ["value"] spIsName)
   (h_is_program : Has P w K mg base "is_program" (2 * d + 1) ["value"] (spIsPrLt d)) : FnOk P w K mg base CX0 (2 * d + 2) f fd ["value"] (spIsCmd d) := by
  obtain ⟨sd, es, sn, DK, gS, nS⟩ := S.ex
  refine F.ok sc_is_command (fun vs H Q E h => ?_) (fun cdv A outer s H vs Q E hr h => ?_)
  · obtain ⟨x, r, r', rfl, _⟩ := h
    rfl
  · obtain ⟨x, r, r', rfl, hf, hw, k⟩ := h
    refine ⟨_, (pss_cons (ps_if (PW.pt (pw_or (pt_not (pt_val (pe_callB (call_isiKK (K := K)) (by rfl) B.b_isinstance (by decide +kernel) (pa_cons (pv 0) (pa_cons (pe_bltn (v := .ty "tuple") (by rfl) B.b_tuple (by decide +kernel) rfl) pa_nil))))) (pw_or (pt_cmpR op_lt (pe_callB (call_lenK (K := K)) (by rfl) B.b_len PySem.boot_len (pa_cons (pv 0) pa_nil)) pe_int (nomark _)) (pw_or1 (pt_not (pt_val (pe_callB (call_isiKK (K := K)) (by rfl) B.b_isinstance (by decide +kernel) (pa_cons (pe_ix (ix_tupK (K := K)) (pv 0) pe_int (fun _ _ => rfl)) (pa_cons (pe_bltn (v := .ty "str") (by rfl) B.b_str (by decide +kernel) rfl) pa_nil)))))))))
    (pss_one (ps_ret pe_bl))
    pss_nil)
    (pss_cons (ps_set (i := 1) sc_is_command.nd rfl (.inl rfl) (pe_ix (ix_tupK (K := K)) (pv 0) pe_int (fun _ _ => rfl)))
    (pss_cons (ps_if (pt_cmpR op_eq (pv 1) pe_str (nomark _))
    (pss_one (ps_ret (pe_and (pe_cmpR op_eq (pe_callB (call_lenK (K := K)) (by rfl) B.b_len PySem.boot_len (pa_cons (pv 0) pa_nil)) pe_int (nomark _)) (pe_and (pe_callH h_is_integer (hr.mono (by first | decide | omega)) (pa_cons (pe_ix (ix_tupK (K := K)) (pv 0) pe_int (fun _ _ => rfl)) pa_nil)) (pe_and (pe_cmpR op_ge (pe_ix (ix_tupK (K := K)) (pv 0) pe_int (fun _ _ => rfl)) pe_int (nomark _)) (pe_one (pe_callH h_is_program (hr.mono (by first | decide | omega)) (pa_cons (pe_ix (ix_tupK (K := K)) (pv 0) pe_int (fun _ _ => rfl)) pa_nil))))))))
    pss_nil)
    (pss_cons (ps_if (pt_cmpR op_ne (pe_callB (call_lenK (K := K)) (by rfl) B.b_len PySem.boot_len (pa_cons (pv 0) pa_nil)) pe_int (nomark _))
    (pss_one (ps_ret pe_bl))
    pss_nil)
    (pss_cons (ps_if (pt_cmpR op_eq (pv 1) pe_str (nomark _))
    (pss_one (ps_ret (pe_callH h_is_integer (hr.mono (by first | decide | omega)) (pa_cons (pe_ix (ix_tupK (K := K)) (pv 0) pe_int (fun _ _ => rfl)) pa_nil))))
    pss_nil)
    (pss_cons (ps_if (pt_cmpR op_eq (pv 1) pe_str (nomark _))
    (pss_one (ps_ret (pe_callH h_is_program (hr.mono (by first | decide | omega)) (pa_cons (pe_ix (ix_tupK (K := K)) (pv 0) pe_int (fun _ _ => rfl)) pa_nil))))
    pss_nil)
    (pss_one (ps_ret (pe_and (pe_cmpR (op_in_kd DK) (pv 1) (pe_glob (v := .ref sd) rfl gS rfl) (by rfl)) (pe_one (pe_callH h_is_name (hr.mono (by first | decide | omega)) (pa_cons (pe_ix (ix_tupK (K := K)) (pv 0) pe_int (fun _ _ => rfl)) pa_nil)))))))))))), ?_⟩
    cases r with
    | nil => exact hf.elim
    | step w' n r =>
      obtain ⟨c, rfl, h1, rfl⟩ := hf
      obtain ⟨w1, w2, w3⟩ := WfL.step_iff.mp hw
      obtain ⟨n1, n2, n3⟩ := word_ne w1
      walk_at "go"
      obtain ⟨v, hv⟩ := nS _ w1
      refine ⟨w', some v, rfl, rfl, hv, ?_⟩
      walk_at "go"
      refine ⟨_, rfl, ?_⟩
      walk_at "go"
      refine ⟨n, rfl, w2, ?_⟩
      exact k _ (Same.refl _)
    | turn k' r =>
      obtain ⟨c, rfl, h1, rfl⟩ := hf
      walk_at "go"
      refine ⟨k', rfl, ?_⟩
      exact k _ (Same.refl _)
    | rep k' b r =>
      obtain ⟨c, q, rfl, h1, h2, rfl⟩ := hf
      cases d with
      | zero => exact hw.elim
      | succ d =>
        obtain ⟨w1, w2, w3, w4⟩ := hw
        walk_at "go"
        refine ⟨k', rfl, ?_⟩
        walk_at "go"
        exact ⟨q, b, rfl, h2, w3, w2.1, w2.2, k⟩
    | mir b r =>
      obtain ⟨c, q, rfl, h1, h2, rfl⟩ := hf
      cases d with
      | zero => exact hw.elim
      | succ d =>
        obtain ⟨w2, w3, w4⟩ := hw
        walk_at "go"
        exact ⟨q, b, rfl, h2, w3, w2.1, w2.2, k⟩
theorem ok_is_program {f : Addr} {fd : FuncData} (d : Nat) (F : Fun K "is_program" "is_program" s_is_program f fd) (B : Bl mg) (h_is_command : Has P w K mg base "is_command" (2 * d + 2) ["value"] (spIsCmd d)) : FnOk P w K mg base CX0 (2 * d + 3) f fd ["value"] (spIsPr d) := by
  refine F.ok sc_is_program (fun vs H Q E h => ?_) (fun cdv A outer s H vs Q E hr h => ?_)
  · obtain ⟨a, p, rfl, _⟩ := h
    rfl
  · obtain ⟨a, p, rfl, ⟨xs, hx, hp⟩, hw, l1, l2, k⟩ := h
    have hl := hp.length
    refine ⟨_, (pss_one (ps_ret (pe_and (pe_callB (call_isiKK (K := K)) (by rfl) B.b_isinstance (by decide +kernel) (pa_cons (pv 0) (pa_cons (pe_bltn (v := .ty "tuple") (by rfl) B.b_tuple (by decide +kernel) rfl) pa_nil))) (pe_and (pe_cmpR op_gt (pe_callB (call_lenK (K := K)) (by rfl) B.b_len PySem.boot_len (pa_cons (pv 0) pa_nil)) pe_int (nomark _)) (pe_one (pe_callB (call_allK (K := K)) (by rfl) B.b_all (by decide +kernel) (pa_cons (pe_lc (own := [("command", 1)]) rfl sc_is_program.nd (pi_tup (pv 0)) (blkOk_by (N := ["value", "command"]) (sc := defScope s_is_program) (by decide +kernel)) (fun _ _ _ _ _ => (pg_name (i := 1) sc_is_program.nd rfl (.inl rfl))) (fun _ _ _ _ _ => pts_nil) (fun _ _ _ _ _ => (pe_callH h_is_command (hr.mono (by first | decide | omega)) (pa_cons (pv 1) pa_nil)))) pa_nil))))))), ?_⟩
    walk_at "go"
    refine u_lcPr hx hp (fun D r acc H' => (acc = (List.replicate acc.length true).map V.bl ∧ acc.length + r.len = p.len) ∧ Same H H' ∧ Wf BC BC d r) ?_ ?_ ?_ ?_
    · exact fun D hD => ⟨⟨rfl, by simp⟩, Same.new0 hD, hw⟩
    · rintro D r acc H' hD ⟨_, sm, _⟩
      exact Tk.same sm
    · rintro D x r r' acc H' hD hf hacc ⟨⟨ha, hn⟩, sm, hw'⟩
      have hlen : r.len = r'.len + 1 := by
        cases r with
        | nil => exact hf.elim
        | step w' n r => obtain ⟨c, rfl, h1, rfl⟩ := hf; rfl
        | turn k r => obtain ⟨c, rfl, h1, rfl⟩ := hf; rfl
        | rep k b r => obtain ⟨c, q, rfl, h1, h2, rfl⟩ := hf; rfl
        | mir b r => obtain ⟨c, q, rfl, h1, h2, rfl⟩ := hf; rfl
      walk_at "go"
      refine ⟨rfl, ?_⟩
      walk_at "go"
      refine ⟨x, r, r', rfl, hf, hw', fun H2 s2 => ?_⟩
      refine u_push (s2 _ _ hacc) (by omega) ⟨⟨?_, ?_⟩, Same.put (sm.trans s2) hD, first_wf hf hw'⟩
      · rw [List.length_append, List.length_singleton, List.replicate_succ', List.map_append, ← ha]
        rfl
      · rw [List.length_append, List.length_singleton]
        omega
    · rintro D acc H' hD hacc ⟨⟨ha, hn⟩, sm, _⟩
      walk_at "go"
      rw [ha] at hacc
      refine r_all (SqL.of hacc) ?_
      rw [show ((List.replicate acc.length true).all id) = true by simp]
      exact k _ sm
theorem has_false {x : Str} {k : Nat} {f : Addr} {fd : FuncData} {ps : List Str} (g : mg x = some (.ref f)) (kp : PySem.W.keepIn K (.ref f) = true) (b : Binds K fd ps []) : Has P w K mg base x k ps (fun _ _ _ _ => False) :=
  ⟨f, fd, ⟨fun _ _ _ _ h => h.elim, fun _ _ _ _ _ _ _ _ _ _ _ _ _ h => h.elim⟩, g, kp, b⟩
theorem has_pr {fc fp : Addr} {fdc fdp : FuncData} (Fc : Fun K "is_command" "is_command" s_is_command fc fdc) (Fp : Fun K "is_program" "is_program" s_is_program fp fdp) (B : Bl mg) (S : StepsAt K w mg) (h_is_integer : Has P w K mg base "is_integer" 1 ["value"] spIsInt) (h_is_name : Has P w K mg base "is_name" 1 ["value"] spIsName)
   (gc : mg "is_command" = some (.ref fc)) (gp : mg "is_program" = some (.ref fp)) (bc : Binds K fdc ["value"] []) (bp : Binds K fdp ["value"] []) : ∀ d, Has P w K mg base "is_program" (2 * d + 1) ["value"] (spIsPrLt d)
  | 0 => has_false gp Fp.kp bp
  | d + 1 => ⟨fp, fdp, ok_is_program d Fp B ⟨fc, fdc, ok_is_command d Fc B S h_is_integer h_is_name (has_pr Fc Fp B S h_is_integer h_is_name gc gp bc bp d), gc, Fc.kp, bc⟩, gp, Fp.kp, bp⟩
/-- a program as the package's functions want it -/
def Good (H : Hp) (a : Addr) (p : Prog) : Prop := PrIs H a p ∧ Wf BC BC 12 p ∧ 1 ≤ p.len ∧ p.len ≤ 4000
def spCheckPr : Sp := fun vs H Q _ => ∃ a p, vs = [.ref a] ∧ Good H a p ∧ ∀ H', Same H H' → Q .non H'
theorem ok_check_program {f : Addr} {fd : FuncData} (F : Fun K "check_program" "check_program" s_check_program f fd) (h_is_program : Has P w K mg base "is_program" 27 ["value"] (spIsPr 12)) : FnOk P w K mg base CX0 28 f fd ["value"] spCheckPr := by
  refine F.ok sc_check_program (fun vs H Q E h => ?_) (fun cdv A outer s H vs Q E hr h => ?_)
  · obtain ⟨c, p, rfl, _⟩ := h
    rfl
  · obtain ⟨c, p, rfl, hg, k⟩ := h
    refine ⟨_, (pss_one (ps_if (pt_not (pt_val (pe_callH h_is_program (hr.mono (by first | decide | omega)) (pa_cons (pv 0) pa_nil))))
    (pss_one ps_never)
    pss_nil)), ?_⟩
    walk_at "go"
    refine ⟨c, p, rfl, hg.1, hg.2.1, hg.2.2.1, hg.2.2.2, fun H' s' => ?_⟩
    walk_at "go"
    exact k _ s'
def spNumLt (g : Prog → Int) : Nat → Sp
  | 0 => fun _ _ _ _ => False
  | d + 1 => fun vs H Q _ => ∃ a p, vs = [.ref a] ∧ PrIs H a p ∧ Wf BC BC d p ∧ p.len ≤ 4000 ∧ d ≤ 20 ∧ Q (.int (g p)) H
theorem ok_raw_size {f : Addr} {fd : FuncData} (d : Nat) (F : Fun K "raw_size" "raw_size" s_raw_size f fd) (h_raw_size : Has P w K mg base "raw_size" d ["program"] (spNumLt Prog.size d)) : FnOk P w K mg base CX0 (d + 1) f fd ["program"] (spNumLt Prog.size (d + 1)) := by
  refine F.ok sc_raw_size (fun vs H Q E h => ?_) (fun cdv A outer s H vs Q E hr h => ?_)
  · obtain ⟨a, p, rfl, _⟩ := h
    rfl
  · obtain ⟨a, p, rfl, ⟨xs, hx, hp⟩, hw, l2, d2, k⟩ := h
    refine ⟨_, (pss_cons (ps_set (i := 1) sc_raw_size.nd rfl (.inl rfl) pe_int)
    (pss_cons (ps_for PassesOwn.never rfl (pi_tup (pv 0)) (pg_name (i := 2) sc_raw_size.nd rfl (.inl rfl))
    (pss_one (ps_if (pt_cmpR op_eq (pe_ix (ix_tupK (K := K)) (pv 2) pe_int (fun _ _ => rfl)) pe_str (nomark _))
    (pss_one (ps_aug (i := 1) sc_raw_size.nd rfl (.inl rfl) (pe_op op_mulW (pe_ix (ix_tupK (K := K)) (pv 2) pe_int (fun _ _ => rfl)) (pe_callH h_raw_size (hr.mono (by first | decide | omega)) (pa_cons (pe_ix (ix_tupK (K := K)) (pv 2) pe_int (fun _ _ => rfl)) pa_nil))) ip_add))
    (pss_one (ps_if (pt_cmpR op_eq (pe_ix (ix_tupK (K := K)) (pv 2) pe_int (fun _ _ => rfl)) pe_str (nomark _))
    (pss_one (ps_aug (i := 1) sc_raw_size.nd rfl (.inl rfl) (pe_callH h_raw_size (hr.mono (by first | decide | omega)) (pa_cons (pe_ix (ix_tupK (K := K)) (pv 2) pe_int (fun _ _ => rfl)) pa_nil)) ip_add))
    (pss_one (ps_aug (i := 1) sc_raw_size.nd rfl (.inl rfl) pe_int ip_add)))))))
    (pss_one (ps_ret (pv 1))))), ?_⟩
    walk_at "go"
    refine u_forPr hx hp (fun r σ H' => ∃ (t : Int) (y : Option V), σ = [some (.ref a), some (.int t), y] ∧ H' = H ∧ Wf BC BC d r ∧ t + r.size = p.size) ?_ ?_ ?_ ?_
    · exact ⟨0, none, rfl, rfl, hw, by omega⟩
    · rintro r σ H' ⟨t, y, rfl, rfl, _⟩
      exact Tk.refl _
    · rintro x r r' σ H' hf ⟨t, y, rfl, rfl, hw', e⟩
      cases r with
      | nil => exact hf.elim
      | step w' n r =>
        obtain ⟨c, rfl, h1, rfl⟩ := hf
        obtain ⟨w1, w2, w3⟩ := WfL.step_iff.mp hw'
        obtain ⟨n1, n2, n3⟩ := word_ne w1
        walk_at "go"
        exact ⟨_, _, rfl, rfl, w3, by rw [← e, Prog.size]; omega⟩
      | turn k' r =>
        obtain ⟨c, rfl, h1, rfl⟩ := hf
        walk_at "go"
        exact ⟨_, _, rfl, rfl, (WfL.turn_iff.mp hw').2, by rw [← e, Prog.size]; omega⟩
      | rep k' b r =>
        obtain ⟨c, q, rfl, h1, h2, rfl⟩ := hf
        cases d with
        | zero => exact hw'.elim
        | succ d =>
          obtain ⟨w1, w2, w3, w4⟩ := hw'
          have mw : CMulW k' b.size := mulW_of (count_bits (by have := BC_one; omega) w1.2) (size_bits w3 (by omega) w2.2)
          walk_at "go"
          refine ⟨q, b, rfl, h2, w3, w2.2, by omega, ?_⟩
          walk_at "go"
          exact ⟨_, _, rfl, rfl, w4, by rw [← e, Prog.size]; omega⟩
      | mir b r =>
        obtain ⟨c, q, rfl, h1, h2, rfl⟩ := hf
        cases d with
        | zero => exact hw'.elim
        | succ d =>
          obtain ⟨w2, w3, w4⟩ := hw'
          walk_at "go"
          refine ⟨q, b, rfl, h2, w3, w2.2, by omega, ?_⟩
          walk_at "go"
          exact ⟨_, _, rfl, rfl, w4, by rw [← e, Prog.size]; omega⟩
    · rintro σ H' ⟨t, y, rfl, rfl, _, e⟩
      walk_at "go"
      rw [Prog.size, Int.add_zero] at e
      rw [e]
      exact k
theorem has_size {f : Addr} {fd : FuncData} (F : Fun K "raw_size" "raw_size" s_raw_size f fd) (g : mg "raw_size" = some (.ref f)) (b : Binds K fd ["program"] []) : ∀ d, Has P w K mg base "raw_size" d ["program"] (spNumLt Prog.size d)
  | 0 => has_false g F.kp b
  | d + 1 => ⟨f, fd, ok_raw_size d F (has_size F g b d), g, F.kp, b⟩
theorem ok_raw_heading {f : Addr} {fd : FuncData} (d : Nat) (F : Fun K "raw_heading" "raw_heading" s_raw_heading f fd) (h_raw_heading : Has P w K mg base "raw_heading" d ["program"] (spNumLt Prog.head d)) : FnOk P w K mg base CX0 (d + 1) f fd ["program"] (spNumLt Prog.head (d + 1)) := by
  refine F.ok sc_raw_heading (fun vs H Q E h => ?_) (fun cdv A outer s H vs Q E hr h => ?_)
  · obtain ⟨a, p, rfl, _⟩ := h
    rfl
  · obtain ⟨a, p, rfl, ⟨xs, hx, hp⟩, hw, l2, d2, k⟩ := h
    refine ⟨_, (pss_cons (ps_set (i := 1) sc_raw_heading.nd rfl (.inl rfl) pe_int)
    (pss_cons (ps_for PassesOwn.never rfl (pi_tup (pv 0)) (pg_name (i := 2) sc_raw_heading.nd rfl (.inl rfl))
    (pss_one (ps_if (pt_cmpR op_eq (pe_ix (ix_tupK (K := K)) (pv 2) pe_int (fun _ _ => rfl)) pe_str (nomark _))
    (pss_one (ps_aug (i := 1) sc_raw_heading.nd rfl (.inl rfl) (pe_op op_mulW (pe_ix (ix_tupK (K := K)) (pv 2) pe_int (fun _ _ => rfl)) (pe_callH h_raw_heading (hr.mono (by first | decide | omega)) (pa_cons (pe_ix (ix_tupK (K := K)) (pv 2) pe_int (fun _ _ => rfl)) pa_nil))) ip_add))
    (pss_one (ps_if (pt_cmpR op_eq (pe_ix (ix_tupK (K := K)) (pv 2) pe_int (fun _ _ => rfl)) pe_str (nomark _))
    (pss_one (ps_aug (i := 1) sc_raw_heading.nd rfl (.inl rfl) (pe_callH h_raw_heading (hr.mono (by first | decide | omega)) (pa_cons (pe_ix (ix_tupK (K := K)) (pv 2) pe_int (fun _ _ => rfl)) pa_nil)) ip_sub))
    (pss_one (ps_if (pt_cmpR op_eq (pe_ix (ix_tupK (K := K)) (pv 2) pe_int (fun _ _ => rfl)) pe_str (nomark _))
    (pss_one (ps_aug (i := 1) sc_raw_heading.nd rfl (.inl rfl) (pe_ix (ix_tupK (K := K)) (pv 2) pe_int (fun _ _ => rfl)) ip_add))
    pss_nil)))))))
    (pss_one (ps_ret (pv 1))))), ?_⟩
    walk_at "go"
    refine u_forPr hx hp (fun r σ H' => ∃ (t : Int) (y : Option V), σ = [some (.ref a), some (.int t), y] ∧ H' = H ∧ Wf BC BC d r ∧ t + r.head = p.head) ?_ ?_ ?_ ?_
    · exact ⟨0, none, rfl, rfl, hw, by omega⟩
    · rintro r σ H' ⟨t, y, rfl, rfl, _⟩
      exact Tk.refl _
    · rintro x r r' σ H' hf ⟨t, y, rfl, rfl, hw', e⟩
      cases r with
      | nil => exact hf.elim
      | step w' n r =>
        obtain ⟨c, rfl, h1, rfl⟩ := hf
        obtain ⟨w1, w2, w3⟩ := WfL.step_iff.mp hw'
        obtain ⟨n1, n2, n3⟩ := word_ne w1
        walk_at "go"
        exact ⟨_, _, rfl, rfl, w3, by rw [← e, Prog.head]⟩
      | turn k' r =>
        obtain ⟨c, rfl, h1, rfl⟩ := hf
        walk_at "go"
        exact ⟨_, _, rfl, rfl, (WfL.turn_iff.mp hw').2, by rw [← e, Prog.head]; omega⟩
      | rep k' b r =>
        obtain ⟨c, q, rfl, h1, h2, rfl⟩ := hf
        cases d with
        | zero => exact hw'.elim
        | succ d =>
          obtain ⟨w1, w2, w3, w4⟩ := hw'
          have mw : CMulW k' b.head := mulW_of (count_bits (by have := BC_one; omega) w1.2) (head_bits w3 (by omega) w2.2)
          walk_at "go"
          refine ⟨q, b, rfl, h2, w3, w2.2, by omega, ?_⟩
          walk_at "go"
          exact ⟨_, _, rfl, rfl, w4, by rw [← e, Prog.head]; omega⟩
      | mir b r =>
        obtain ⟨c, q, rfl, h1, h2, rfl⟩ := hf
        cases d with
        | zero => exact hw'.elim
        | succ d =>
          obtain ⟨w2, w3, w4⟩ := hw'
          walk_at "go"
          refine ⟨q, b, rfl, h2, w3, w2.2, by omega, ?_⟩
          walk_at "go"
          exact ⟨_, _, rfl, rfl, w4, by rw [← e, Prog.head]; omega⟩
    · rintro σ H' ⟨t, y, rfl, rfl, _, e⟩
      walk_at "go"
      rw [Prog.head, Int.add_zero] at e
      rw [e]
      exact k
theorem has_head {f : Addr} {fd : FuncData} (F : Fun K "raw_heading" "raw_heading" s_raw_heading f fd) (g : mg "raw_heading" = some (.ref f)) (b : Binds K fd ["program"] []) : ∀ d, Has P w K mg base "raw_heading" d ["program"] (spNumLt Prog.head d)
  | 0 => has_false g F.kp b
  | d + 1 => ⟨f, fd, ok_raw_heading d F (has_head F g b d), g, F.kp, b⟩
end

set_option Elab.async false
set_option linter.all false
set_option maxRecDepth 100000
set_option maxHeartbeats 4000000

open PySem PySem.Spec PyProof.Rows L2
section
variable {P : Program} {w : World} {K : PySem.W.Frag} {mg : Str → Option Value} {base : Heap}

/-- what holds between the turns of the loop that makes a piece -/
structure PcInv (H : Hp) (a o m : Addr) (d : Nat) (b : Bool) (z : Str) (p : Prog) (H' : Hp) : Prop where
  bu : But2 a o H H'
  bg : Bag H' a
  pot : ∃ n' : Int, H' o = some (.lst [.int n', .str z])
  tk : Tk H H'
  lst : ∃ xs, H' m = some (.lst xs) ∧ PrAt H' p xs
  wf : WfL 5 (CB b) (TB b) d p
  sz : p.size ≤ p.len * (5 * CB b) ^ d
section
variable {H H' H'' : Hp} {a o m : Addr} {d : Nat} {b : Bool} {z : Str} {p : Prog}
theorem PcInv.pick (h : PcInv H a o m d b z p H') (noa : o ≠ a) (nma : m ≠ a) (bu : But a H' H'') (bg : Bag H'' a) : PcInv H a o m d b z p H'' := by
  obtain ⟨n', ho⟩ := h.pot
  obtain ⟨xs, hm, hp⟩ := h.lst
  exact ⟨h.bu.trans (.of bu), bg, ⟨n', bu _ _ noa ho⟩, h.tk.trans (Tk.but bu h.bg), ⟨xs, bu _ _ nma hm, hp.tk (Tk.but bu h.bg)⟩, h.wf, h.sz⟩
theorem PcInv.call (h : PcInv H a o m d b z p H') (nma : m ≠ a) (nmo : m ≠ o) (bu : But2 a o H' H'') (bg : Bag H'' a) (pot : ∃ n' : Int, H'' o = some (.lst [.int n', .str z])) (tk : Tk H' H'') : PcInv H a o m d b z p H'' := by
  obtain ⟨xs, hm, hp⟩ := h.lst
  exact ⟨h.bu.trans bu, bg, pot, h.tk.trans tk, ⟨xs, bu _ _ nma nmo hm, hp.tk tk⟩, h.wf, h.sz⟩
theorem PcInv.less (h : PcInv H a o m d b z p H') (noa : o ≠ a) (nmo : m ≠ o) (n : Int) : PcInv H a o m d b z p (upd H' o (.lst [.int n, .str z])) := by
  obtain ⟨n', ho⟩ := h.pot
  obtain ⟨xs, hm, hp⟩ := h.lst
  have t : Tk H' (upd H' o (.lst [.int n, .str z])) := (Tk.refl _).lst ho
  exact ⟨h.bu.self, h.bg.upd noa.symm, ⟨n, upd_same⟩, h.tk.trans t, ⟨xs, (upd_ne nmo).trans hm, hp.tk t⟩, h.wf, h.sz⟩
theorem PcInv.push {c : Addr} {T xs : List V} {r1 : Prog} (h : PcInv H a o m d b z p H') (nm : H m = none) (nma : m ≠ a) (nmo : m ≠ o) (nc : H' c = none) (hx : H' m = some (.lst xs)) (hf : ∀ H2, Tk H' H2 → H2 c = some (.tup T) → PrAt H2 r1 [.ref c]) (hw : WfL 5 (CB b) (TB b) d r1) (hz : r1.size ≤ r1.len * (5 * CB b) ^ d) :
    PcInv H a o m d b z (p.app r1) (upd (upd H' c (.tup T)) m (.lst (xs ++ [.ref c]))) := by
  obtain ⟨n', ho⟩ := h.pot
  obtain ⟨ys, hm, hp⟩ := h.lst
  obtain rfl : xs = ys := by
    rw [hx] at hm
    injection hm with hm
    injection hm
  have nco : c ≠ o := (ne_of_none ho nc).symm
  have nca : c ≠ a := h.bg.ne nc
  have ncm : c ≠ m := (ne_of_none hx nc).symm
  have t1 : Tk H' (upd H' c (.tup T)) := (Tk.refl _).new nc
  have t2 : Tk H' (upd (upd H' c (.tup T)) m (.lst (xs ++ [.ref c]))) := t1.lst (h_keep hx nc)
  refine ⟨(h.bu.new nc).put nm, (h.bg.keep nc).upd nma.symm, ⟨n', (upd_ne nmo.symm).trans (h_keep ho nc)⟩, h.tk.trans t2, ⟨_, upd_same, (hp.tk t2).app (hf _ t2 ((upd_ne ncm).trans upd_same))⟩, h.wf.app hw, by rw [Prog.size_app, Prog.len_app, Int.natCast_add, Int.add_mul]; have := h.sz; omega⟩
end
end

set_option Elab.async false
set_option linter.all false
set_option maxRecDepth 100000
set_option maxHeartbeats 4000000

open PySem PySem.Spec PyProof.Rows L2
section
variable {P : Program} {w : World} {K : PySem.W.Frag} {mg : Str → Option Value} {base : Heap}

theorem ok_l_bulk {f : Addr} {fd : FuncData} (d : Nat) (F : Fun K "_law_bulk" "_law_bulk" s_l_bulk f fd) (h_l_bulk : Has P w K mg base "_law_bulk" d ["_law_track"] (spNumLt Prog.size d)) : FnOk P w K mg base CX0 (d + 1) f fd ["_law_track"] (spNumLt Prog.size (d + 1)) := by
  refine F.ok sc_l_bulk (fun vs H Q E h => ?_) (fun cdv A outer s H vs Q E hr h => ?_)
  · obtain ⟨a, p, rfl, _⟩ := h
    rfl
  · obtain ⟨a, p, rfl, ⟨xs, hx, hp⟩, hw, l2, d2, k⟩ := h
    refine ⟨_, (pss_cons (ps_set (i := 1) sc_l_bulk.nd rfl (.inl rfl) pe_int)
    (pss_cons (ps_for PassesOwn.never rfl (pi_tup (pv 0)) (pg_name (i := 2) sc_l_bulk.nd rfl (.inl rfl))
    (pss_one (ps_if (pt_cmpR op_eq (pe_ix (ix_tupK (K := K)) (pv 2) pe_int (fun _ _ => rfl)) pe_str (nomark _))
    (pss_one (ps_set (i := 1) sc_l_bulk.nd rfl (.inl rfl) (pe_op op_add (pv 1) (pe_op op_mulW (pe_ix (ix_tupK (K := K)) (pv 2) pe_int (fun _ _ => rfl)) (pe_callH h_l_bulk (hr.mono (by first | decide | omega)) (pa_cons (pe_ix (ix_tupK (K := K)) (pv 2) pe_int (fun _ _ => rfl)) pa_nil))))))
    (pss_one (ps_if (pt_cmpR op_eq (pe_ix (ix_tupK (K := K)) (pv 2) pe_int (fun _ _ => rfl)) pe_str (nomark _))
    (pss_one (ps_set (i := 1) sc_l_bulk.nd rfl (.inl rfl) (pe_op op_add (pv 1) (pe_callH h_l_bulk (hr.mono (by first | decide | omega)) (pa_cons (pe_ix (ix_tupK (K := K)) (pv 2) pe_int (fun _ _ => rfl)) pa_nil)))))
    (pss_one (ps_set (i := 1) sc_l_bulk.nd rfl (.inl rfl) (pe_op op_add (pv 1) pe_int))))))))
    (pss_one (ps_ret (pv 1))))), ?_⟩
    walk_at "go"
    refine u_forPr hx hp (fun r σ H' => ∃ (t : Int) (y : Option V), σ = [some (.ref a), some (.int t), y] ∧ H' = H ∧ Wf BC BC d r ∧ t + r.size = p.size) ?_ ?_ ?_ ?_
    · exact ⟨0, none, rfl, rfl, hw, by omega⟩
    · rintro r σ H' ⟨t, y, rfl, rfl, _⟩
      exact Tk.refl _
    · rintro x r r' σ H' hf ⟨t, y, rfl, rfl, hw', e⟩
      cases r with
      | nil => exact hf.elim
      | step w' n r =>
        obtain ⟨c, rfl, h1, rfl⟩ := hf
        obtain ⟨w1, w2, w3⟩ := WfL.step_iff.mp hw'
        obtain ⟨n1, n2, n3⟩ := word_ne w1
        walk_at "go"
        exact ⟨_, _, rfl, rfl, w3, by rw [← e, Prog.size]; omega⟩
      | turn k' r =>
        obtain ⟨c, rfl, h1, rfl⟩ := hf
        walk_at "go"
        exact ⟨_, _, rfl, rfl, (WfL.turn_iff.mp hw').2, by rw [← e, Prog.size]; omega⟩
      | rep k' b r =>
        obtain ⟨c, q, rfl, h1, h2, rfl⟩ := hf
        cases d with
        | zero => exact hw'.elim
        | succ d =>
          obtain ⟨w1, w2, w3, w4⟩ := hw'
          have mw : CMulW k' b.size := mulW_of (count_bits (by have := BC_one; omega) w1.2) (size_bits w3 (by omega) w2.2)
          walk_at "go"
          refine ⟨q, b, rfl, h2, w3, w2.2, by omega, ?_⟩
          walk_at "go"
          exact ⟨_, _, rfl, rfl, w4, by rw [← e, Prog.size]; omega⟩
      | mir b r =>
        obtain ⟨c, q, rfl, h1, h2, rfl⟩ := hf
        cases d with
        | zero => exact hw'.elim
        | succ d =>
          obtain ⟨w2, w3, w4⟩ := hw'
          walk_at "go"
          refine ⟨q, b, rfl, h2, w3, w2.2, by omega, ?_⟩
          walk_at "go"
          exact ⟨_, _, rfl, rfl, w4, by rw [← e, Prog.size]; omega⟩
    · rintro σ H' ⟨t, y, rfl, rfl, _, e⟩
      walk_at "go"
      rw [Prog.size, Int.add_zero] at e
      rw [e]
      exact k
theorem has_bulk {f : Addr} {fd : FuncData} (F : Fun K "_law_bulk" "_law_bulk" s_l_bulk f fd) (g : mg "_law_bulk" = some (.ref f)) (b : Binds K fd ["_law_track"] []) : ∀ d, Has P w K mg base "_law_bulk" d ["_law_track"] (spNumLt Prog.size d)
  | 0 => has_false g F.kp b
  | d + 1 => ⟨f, fd, ok_l_bulk d F (has_bulk F g b d), g, F.kp, b⟩
end

set_option Elab.async false
set_option linter.all false
set_option maxRecDepth 100000
set_option maxHeartbeats 4000000

open PySem PySem.Spec PyProof.Rows L2
section
variable {P : Program} {w : World} {K : PySem.W.Frag} {mg : Str → Option Value} {base : Heap}

def spUnLt : Nat → Sp
  | 0 => fun _ _ _ _ => False
  | d + 1 => fun vs H Q _ => ∃ (a : Addr) (p : Prog) (s : Int), vs = [.ref a, .int s] ∧ (s = 1 ∨ s = -1) ∧ PrIs H a p ∧ Wf BC BC d p ∧ p.size ≤ 4000000 ∧
    ∀ l xs H', H l = none → Same H H' → H' l = some (.lst xs) → PrAt H' (Prog.unroll s p) xs → Q (.ref l) H'
end

set_option Elab.async false
set_option linter.all false
set_option maxRecDepth 100000
set_option maxHeartbeats 4000000

open PySem PySem.Spec PyProof.Rows L2
section
variable {P : Program} {w : World} {K : PySem.W.Frag} {mg : Str → Option Value} {base : Heap}

local macro_rules | `(tactic| walk_at "s") => `(tactic| (first
  | (with_reducible refine r_callD ?_)
  | (with_reducible refine r_abs ?_)
  ))
theorem ok_plain_row {f : Addr} {fd : FuncData} (d : Nat) {dvs : List V} {kws : List (Str × V)} (F : FunD K "plain_row" "plain_row" (defArgs s_plain_row) (defBody s_plain_row) (defScope s_plain_row) dvs kws f fd) (h_plain_row : Has P w K mg base "plain_row" d ["program", "sign"] (spUnLt d)) : FnOk P w K mg base CX0 (d + 1) f fd ["program", "sign"] (spUnLt (d + 1)) := by
  refine okD F sc_plain_row (fun vs H Q E h => ?_) (fun cdv A outer s H vs Q E hr h => ?_)
  · obtain ⟨a, p, s, rfl, _⟩ := h
    rfl
  · obtain ⟨a, p, sg, rfl, hsg, ⟨xs, hx, hp⟩, hw, hsz, k⟩ := h
    refine ⟨_, (pss_cons (ps_set (i := 2) sc_plain_row.nd rfl (.inl rfl) (pe_lst pa_nil))
    (pss_cons (ps_for PassesOwn.never rfl (pi_tup (pv 0)) (pg_name (i := 3) sc_plain_row.nd rfl (.inl rfl))
    (pss_one (ps_if (pt_cmpR op_eq (pe_ix (ix_tupK (K := K)) (pv 3) pe_int (fun _ _ => rfl)) pe_str (nomark _))
    (pss_one (ps_expr (pe_bm PySem.F.plainAttrs_list PySem.F.slot_list_extend PySem.F.type_list_extend mt_extend (pv 2) (pa_cons (pe_op op_rep (pe_callH h_plain_row (hr.mono (by first | decide | omega)) (pa_cons (pe_ix (ix_tupK (K := K)) (pv 3) pe_int (fun _ _ => rfl)) (pa_cons (pv 1) pa_nil))) (pe_ix (ix_tupK (K := K)) (pv 3) pe_int (fun _ _ => rfl))) pa_nil))))
    (pss_one (ps_if (pt_cmpR op_eq (pe_ix (ix_tupK (K := K)) (pv 3) pe_int (fun _ _ => rfl)) pe_str (nomark _))
    (pss_one (ps_expr (pe_bm PySem.F.plainAttrs_list PySem.F.slot_list_extend PySem.F.type_list_extend mt_extend (pv 2) (pa_cons (pe_callH h_plain_row (hr.mono (by first | decide | omega)) (pa_cons (pe_ix (ix_tupK (K := K)) (pv 3) pe_int (fun _ _ => rfl)) (pa_cons (pe_un un_neg (pv 1)) pa_nil))) pa_nil))))
    (pss_one (ps_if (pt_cmpR op_eq (pe_ix (ix_tupK (K := K)) (pv 3) pe_int (fun _ _ => rfl)) pe_str (nomark _))
    (pss_one (ps_expr (pe_bm PySem.F.plainAttrs_list PySem.F.slot_list_append PySem.F.type_list_append mt_append (pv 2) (pa_cons (pe_tup (pa_cons pe_str (pa_cons (pe_op op_mul (pv 1) (pe_ix (ix_tupK (K := K)) (pv 3) pe_int (fun _ _ => rfl))) pa_nil))) pa_nil))))
    (pss_one (ps_expr (pe_bm PySem.F.plainAttrs_list PySem.F.slot_list_append PySem.F.type_list_append mt_append (pv 2) (pa_cons (pv 3) pa_nil)))))))))))
    (pss_one (ps_ret (pv 2))))), ?_⟩
    walk_at "go"
    intro m nm
    walk_at "go"
    have hx0 : upd H m (.lst []) a = some (.tup xs) := h_keep hx nm
    have t0 : Tk H (upd H m (.lst [])) := (Tk.refl H).new nm
    refine u_forPr hx0 (hp.tk t0) (fun r σ H' => ∃ (u : Prog) (ys : List V) (y3 : Option V), σ = [some (.ref a), some (.int sg), some (.ref m), y3] ∧ Wf BC BC d r ∧ u.app (Prog.unroll sg r) = Prog.unroll sg p ∧ (u.len : Int) + r.size = p.size ∧ Same H H' ∧ Tk (upd H m (.lst [])) H' ∧ H' m = some (.lst ys) ∧ PrAt H' u ys) ?_ ?_ ?_ ?_
    · exact ⟨.nil, [], none, rfl, hw, rfl, by rw [Prog.len]; omega, Same.new0 nm, Tk.refl _, upd_same, rfl⟩
    · rintro r σ H' ⟨u, ys, y3, rfl, _, _, _, _, t, _⟩
      exact t
    · rintro x r r' σ H' hf ⟨u, ys, y3, rfl, hw', eu, es, sm, tk, hm, hu⟩
      have yl : ys.length = u.len := hu.length
      cases r with
      | nil => exact hf.elim
      | step w' n r =>
        obtain ⟨c, rfl, h1, rfl⟩ := hf
        obtain ⟨w1, w2, w3⟩ := WfL.step_iff.mp hw'
        obtain ⟨n1, n2, n3⟩ := word_ne w1
        rw [Prog.size] at es
        have r0 := Prog.size_nonneg w3
        walk_at "go"
        refine r_appendB hm (by omega) ?_
        have t1 : Tk H' (upd H' m (.lst (ys ++ [.ref c]))) := (Tk.refl _).lst hm
        refine ⟨u.app (.step w' n .nil), _, _, rfl, w3, ?_, ?_, Same.put sm nm, tk.trans t1, upd_same, (hu.tk t1).app ⟨c, [], rfl, t1 _ _ h1, rfl⟩⟩
        · rw [← eu, Prog.app_assoc, Prog.unroll]; rfl
        · rw [Prog.len_app]; show ((u.len + 1 : Nat) : Int) + _ = _; omega
      | turn k' r =>
        obtain ⟨c, rfl, h1, rfl⟩ := hf
        obtain ⟨w1, w3⟩ := WfL.turn_iff.mp hw'
        rw [Prog.size] at es
        have r0 := Prog.size_nonneg w3
        have msg : CMul sg k' := .inl ⟨by omega, by omega⟩
        walk_at "go"
        intro c2 nc2
        walk_at "go"
        refine r_appendB (h_keep hm nc2) (by omega) ?_
        have ncm : c2 ≠ m := (ne_of_none hm nc2).symm
        have t1 : Tk H' (upd (upd H' c2 (.tup [.str "turn", .int (sg * k')])) m (.lst (ys ++ [.ref c2]))) := ((Tk.refl _).new nc2).lst (h_keep hm nc2)
        refine ⟨u.app (.turn (sg * k') .nil), _, _, rfl, w3, ?_, ?_, Same.put (Same.new sm nc2) nm, tk.trans t1, upd_same, (hu.tk t1).app ⟨c2, [], rfl, (upd_ne ncm).trans upd_same, rfl⟩⟩
        · rw [← eu, Prog.app_assoc, Prog.unroll]; rfl
        · rw [Prog.len_app]; show ((u.len + 1 : Nat) : Int) + _ = _; omega
      | rep k' b r =>
        obtain ⟨c, q, rfl, h1, h2, rfl⟩ := hf
        cases d with
        | zero => exact hw'.elim
        | succ d =>
          obtain ⟨w1, w2, w3, w4⟩ := hw'
          rw [Prog.size] at es
          have r0 := Prog.size_nonneg w4
          have b0 := Prog.size_nonneg w3
          have b1 : 1 * b.size ≤ k' * b.size := Int.mul_le_mul_of_nonneg_right w1.1 b0
          have bl := Prog.len_le_size w3
          have kk : k' * 1 ≤ k' * b.size := Int.mul_le_mul_of_nonneg_left (by omega) (by omega)
          walk_at "go"
          refine ⟨q, b, sg, rfl, hsg, h2, w3, by omega, fun l zs H2 nl s2 hl hz => ?_⟩
          have zl : zs.length = (Prog.unroll sg b).len := hz.length
          have ul := Prog.len_unroll sg w3
          have hm2 := s2 _ _ hm
          have kb : ((zs.length * k'.toNat : Nat) : Int) = k' * b.size := by rw [Int.natCast_mul, Int.toNat_of_nonneg (by omega), zl, ul, Int.mul_comm]
          walk_at "go"
          refine r_rep hl (by omega) (by omega) (by omega) fun l2 nl2 => ?_
          have nl2m : l2 ≠ m := (ne_of_none hm2 nl2).symm
          have fl : (List.replicate k'.toNat zs).flatten.length = (Prog.times k'.toNat (Prog.unroll sg b)).len := (hz.times _).length
          have fl2 : (List.replicate k'.toNat zs).flatten.length = zs.length * k'.toNat := by rw [fl, Prog.len_times, zl, Nat.mul_comm]
          walk_at "go"
          refine r_extend (h_keep hm2 nl2) upd_same (by omega) ?_
          have t4 : Tk H2 (upd (upd H2 l2 (.lst (List.replicate k'.toNat zs).flatten)) m (.lst (ys ++ (List.replicate k'.toNat zs).flatten))) := ((Tk.refl H2).new nl2).lst (h_keep hm2 nl2)
          refine ⟨u.app (Prog.times k'.toNat (Prog.unroll sg b)), _, _, rfl, w4, ?_, ?_, Same.put (Same.new (sm.trans s2) nl2) nm, tk.trans ((Tk.same s2).trans t4), upd_same, (hu.tk ((Tk.same s2).trans t4)).app ((hz.times _).tk t4)⟩
          · rw [← eu, Prog.app_assoc, Prog.unroll]
          · rw [Prog.len_app, ← fl, fl2, Int.natCast_add]; omega
      | mir b r =>
        obtain ⟨c, q, rfl, h1, h2, rfl⟩ := hf
        cases d with
        | zero => exact hw'.elim
        | succ d =>
          obtain ⟨w2, w3, w4⟩ := hw'
          rw [Prog.size] at es
          have r0 := Prog.size_nonneg w4
          have b0 := Prog.size_nonneg w3
          walk_at "go"
          refine ⟨q, b, -sg, rfl, by omega, h2, w3, by omega, fun l zs H2 nl s2 hl hz => ?_⟩
          have zl : zs.length = (Prog.unroll (-sg) b).len := hz.length
          have ul := Prog.len_unroll (-sg) w3
          have hm2 := s2 _ _ hm
          walk_at "go"
          refine r_extend hm2 hl (by omega) ?_
          have t4 : Tk H2 (upd H2 m (.lst (ys ++ zs))) := (Tk.refl _).lst hm2
          refine ⟨u.app (Prog.unroll (-sg) b), _, _, rfl, w4, ?_, ?_, Same.put (sm.trans s2) nm, tk.trans ((Tk.same s2).trans t4), upd_same, (hu.tk ((Tk.same s2).trans t4)).app (hz.tk t4)⟩
          · rw [← eu, Prog.app_assoc, Prog.unroll]
          · rw [Prog.len_app]; omega
    · rintro σ H' ⟨u, ys, y3, rfl, hw', eu, es, sm, tk, hm, hu⟩
      rw [Prog.unroll, Prog.app_nil] at eu
      subst eu
      walk_at "go"
      exact k m ys _ nm sm hm hu
theorem has_plain_row {f : Addr} {fd : FuncData} {dvs : List V} {kws : List (Str × V)} (F : FunD K "plain_row" "plain_row" (defArgs s_plain_row) (defBody s_plain_row) (defScope s_plain_row) dvs kws f fd) (g : mg "plain_row" = some (.ref f)) (b : Binds K fd ["program", "sign"] []) : ∀ d, Has P w K mg base "plain_row" d ["program", "sign"] (spUnLt d)
  | 0 => has_false g F.kp b
  | d + 1 => ⟨f, fd, ok_plain_row d F (has_plain_row F g b d), g, F.kp, b⟩
def spShort : Sp := fun vs H Q _ => ∃ a p, vs = [.ref a] ∧ PrIs H a p ∧ Wf BC BC 12 p ∧ p.len ≤ 4000 ∧ ∀ H', Same H H' → Q (.bl p.short) H'
theorem ok_raw_is_short {f : Addr} {fd : FuncData} {tMC tMH : Tok} (F : Fun K "raw_is_short" "raw_is_short" s_raw_is_short f fd) (B : Bl mg) (bA : mg "abs" = none) (gMC : mg "MOST_COMMANDS" = some (.int 200 tMC)) (gMH : mg "MOST_HEADING" = some (.int 12 tMH))
    (h_raw_size : Has P w K mg base "raw_size" 13 ["program"] (spNumLt Prog.size 13)) (hd_plain_row : HasD P w K mg base "plain_row" 13 ["program", "sign"] (spUnLt 13) [.int 1]) : FnOk P w K mg base CX0 14 f fd ["program"] spShort := by
  refine F.ok sc_raw_is_short (fun vs H Q E h => ?_) (fun cdv A outer s H vs Q E hr h => ?_)
  · obtain ⟨a, p, rfl, _⟩ := h
    rfl
  · obtain ⟨a, p, rfl, hp, hw, l1, k⟩ := h
    refine ⟨_, (pss_cons (ps_if (pt_cmpR op_gt (pe_callH h_raw_size (hr.mono (by first | decide | omega)) (pa_cons (pv 0) pa_nil)) (pe_glob (v := .int 200) rfl gMC ⟨_, rfl⟩) (nomark _))
    (pss_one (ps_ret pe_bl))
    pss_nil)
    (pss_cons (ps_set (i := 1) sc_raw_is_short.nd rfl (.inl rfl) pe_int)
    (pss_cons (ps_for PassesOwn.never rfl (pi_list (pe_callHD hd_plain_row (hr.mono (by first | decide | omega)) (pa_cons (pv 0) pa_nil))) (pg_name (i := 2) sc_raw_is_short.nd rfl (.inl rfl))
    (pss_one (ps_if (pt_cmpR op_eq (pe_ix (ix_tupK (K := K)) (pv 2) pe_int (fun _ _ => rfl)) pe_str (nomark _))
    (pss_cons (ps_aug (i := 1) sc_raw_is_short.nd rfl (.inl rfl) (pe_ix (ix_tupK (K := K)) (pv 2) pe_int (fun _ _ => rfl)) ip_add)
    (pss_one (ps_if (pt_cmpR op_gt (pe_callB call_absA (by rfl) bA (by decide +kernel) (pa_cons (pv 1) pa_nil)) (pe_glob (v := .int 12) rfl gMH ⟨_, rfl⟩) (nomark _))
    (pss_one (ps_ret pe_bl))
    pss_nil)))
    pss_nil)))
    (pss_one (ps_ret pe_bl))))), ?_⟩
    walk_at "go"
    refine ⟨a, p, rfl, hp, hw, l1, by decide, ?_⟩
    walk_at "go"
    refine r_iteD (fun hz => ?_) (fun hz => ?_)
    · walk_at "go"
      have := k H (Same.refl _)
      rw [Prog.short, if_pos hz] at this
      exact this
    · walk_at "go"
      refine ⟨a, p, 1, rfl, .inl rfl, hp, hw, by omega, fun l xs H1 nl s1 hl hu => ?_⟩
      walk_at "go"
      have wu : Wf BC BC 0 (Prog.unroll 1 p) := Prog.wf_unroll (.inl rfl) hw
      refine u_forPrL hl hu (fun r σ H' => ∃ (n : Int) (y : Option V), σ = [some (.ref a), some (.int n), y] ∧ H' = H1 ∧ Wf BC BC 0 r ∧ Prog.wayOk n r = p.short) ?_ ?_ ?_ ?_
      · exact ⟨0, none, rfl, rfl, wu, by rw [Prog.short, if_neg hz]⟩
      · rintro r σ H' ⟨n, y, rfl, rfl, _⟩
        exact ⟨Tk.refl _, hl⟩
      · rintro x r r' σ H' hf ⟨n, y, rfl, rfl, wr, e⟩
        cases r with
        | nil => exact hf.elim
        | step w' n' r =>
          obtain ⟨c, rfl, h1, rfl⟩ := hf
          obtain ⟨w1, w2, w3⟩ := WfL.step_iff.mp wr
          obtain ⟨n1, n2, n3⟩ := word_ne w1
          walk_at "go"
          exact ⟨_, _, rfl, rfl, w3, by rw [← e, Prog.wayOk]⟩
        | turn k' r =>
          obtain ⟨c, rfl, h1, rfl⟩ := hf
          walk_at "go"
          rw [Prog.wayOk] at e
          refine r_iteD (fun hc => ?_) (fun hc => ?_)
          · walk_at "go"
            have := k H' s1
            rw [← e, if_pos (by split at hc <;> omega)] at this
            exact this
          · walk_at "go"
            rw [if_neg (by split at hc <;> omega)] at e
            exact ⟨_, _, rfl, rfl, (WfL.turn_iff.mp wr).2, e⟩
        | rep k' b r => exact wr.elim
        | mir b r => exact wr.elim
      · rintro σ H' ⟨n, y, rfl, rfl, _, e⟩
        walk_at "go"
        rw [Prog.wayOk] at e
        have := k H' s1
        rw [← e] at this
        exact this
end

set_option Elab.async false
set_option linter.all false
set_option maxRecDepth 100000
set_option maxHeartbeats 4000000
set_option pp.deepTerms false
set_option pp.deepTerms.threshold 12
set_option pp.maxSteps 1200

open PySem PySem.Spec PyProof.Rows L2 RT
def spRawSteps : Sp := fun vs H Q _ => ∃ a p, vs = [.ref a] ∧ PrIs H a p ∧ Wf BC BC 12 p ∧ p.size ≤ 4000 ∧
  ∀ r l xs H', H l = none → Same H H' → H' r = some (.tup [.int p.head, .ref l]) → H' l = some (.lst xs) → Each (StpC H') xs (Prog.stps 0 (Prog.unroll 1 p)) → Q (.ref r) H'
/-- the program's table of steps -/
structure StepsV (K : PySem.W.Frag) (w : World) (mg : Str → Option Value) : Prop where
  ex : ∃ d, mg "STEPS" = some (.ref d) ∧ ∀ x : Str, IsWord x → KDct K w d x (.int (stepSign x))
def spAddStep : Sp := fun vs H Q _ => ∃ (s t : Addr) (H0 : Hp) (N : Nat) (c : Str → Int → Int) (ws : List (Str × Addr)) (st : Stp), vs = [.ref s, .ref t] ∧ Spot H0 H s N c ws ∧ N ≤ 100000 ∧ H t = some (.tup [.str st.1, .str st.2.1, .int st.2.2]) ∧ IsWord st.1 ∧ IsName st.2.1 ∧
  ∀ ws' H', Spot H0 H' s (N + 1) (bump c st) ws' → Std H H' → Q .non H'
section
variable {P : Program} {w : World} {K : PySem.W.Frag} {mg : Str → Option Value} {base : Heap}

local macro_rules | `(tactic| walk_at "s") => `(tactic| (first
  | (with_reducible refine r_dnew ?_)
  | (with_reducible refine r_dget2 ?_)
  | (with_reducible refine r_dget ?_)
  | (with_reducible refine r_dput ?_)
  | (with_reducible refine r_dsetd ?_)
  | ((with_reducible refine JarAt.isD (n := ?nn) (c := ?cc) ?hh ?_); (case hh => assumption))
  ))

theorem r_ixKv {p : Addr} {z : Str} {v : V} {H : Hp} {Q : VK} (h : KDct K w p z v) (q : Q v H) : rIxD K w (.ref p) (.str z) H Q := ⟨p, z, v, rfl, rfl, h, q⟩
local macro_rules | `(tactic| walk_at "s") => `(tactic| (first
  | (with_reducible refine r_callD ?_)
  | ((with_reducible refine r_ixKv (v := ?vv) ?cc ?_); (case cc => assumption))
  ))
theorem ok_raw_steps {f : Addr} {fd : FuncData} (F : Fun K "raw_steps" "raw_steps" s_raw_steps f fd) (B : Bl mg) (hd_plain_row : HasD P w K mg base "plain_row" 13 ["program", "sign"] (spUnLt 13) [.int 1]) : FnOk P w K mg base CX0 14 f fd ["program"] spRawSteps := by
  refine F.ok sc_raw_steps (fun vs H Q E h => ?_) (fun cdv A outer s H vs Q E hr h => ?_)
  · obtain ⟨a, p, rfl, _⟩ := h
    rfl
  · obtain ⟨a, p, rfl, hq, hw, hz, k⟩ := h
    refine ⟨_, (pss_cons (ps_set (i := 1) sc_raw_steps.nd rfl (.inl rfl) pe_int)
    (pss_cons (ps_set (i := 2) sc_raw_steps.nd rfl (.inl rfl) (pe_lst pa_nil))
    (pss_cons (ps_for PassesOwn.never rfl (pi_list (pe_callHD hd_plain_row (hr.mono (by first | decide | omega)) (pa_cons (pv 0) pa_nil))) (pg_tup (by rfl) (pgs_cons (pg_name (i := 3) sc_raw_steps.nd rfl (.inl rfl)) (pgs_cons (pg_name (i := 4) sc_raw_steps.nd rfl (.inl rfl)) pgs_nil)))
    (pss_one (ps_if (pt_cmpR op_eq (pv 3) pe_str (nomark _))
    (pss_one (ps_aug (i := 1) sc_raw_steps.nd rfl (.inl rfl) (pv 4) ip_add))
    (pss_one (ps_expr (pe_bm PySem.F.plainAttrs_list PySem.F.slot_list_append PySem.F.type_list_append mt_append (pv 2) (pa_cons (pe_tup (pa_cons (pv 3) (pa_cons (pv 4) (pa_cons (pv 1) pa_nil)))) pa_nil)))))))
    (pss_one (ps_ret (pe_tup (pa_cons (pv 1) (pa_cons (pv 2) pa_nil)))))))), ?_⟩
    walk_at "go"
    intro m nm
    walk_at "go"
    have t0 := (Tk.refl H).new nm (o := .lst [])
    have s0 : Same H (upd H m (.lst [])) := Same.new0 nm
    have hm0 : upd H m (.lst []) m = some (.lst []) := upd_same
    generalize upd H m (.lst []) = H0 at *
    refine ⟨a, p, 1, rfl, .inl rfl, hq.tk t0, hw, by omega, fun l xs H1 nl s1 hl1 hp1 => ?_⟩
    have wu : Wf BC BC 0 (Prog.unroll 1 p) := Prog.wf_unroll (.inl rfl) hw
    have lu := Prog.len_unroll 1 hw
    have hu := Prog.head_unroll (s := 1) (.inl rfl) hw
    rw [Int.one_mul] at hu
    have hm1 := s1 _ _ hm0
    have nlm : l ≠ m := by rintro rfl; rw [hm0] at nl; cases nl
    refine u_forPrL hl1 hp1 (fun r σ H' => ∃ (now : Int) (ys : List V) (ss : List Stp) (y3 y4 : Option V), σ = [some (.ref a), some (.int now), some (.ref m), y3, y4] ∧ Wf BC BC 0 r ∧ H' m = some (.lst ys) ∧ Each (StpC H') ys ss ∧ ss ++ Prog.stps now r = Prog.stps 0 (Prog.unroll 1 p) ∧ now + r.head = p.head ∧ But m H1 H' ∧ ss.length + r.len ≤ (Prog.unroll 1 p).len) ?_ ?_ ?_ ?_
    · exact ⟨0, [], [], _, _, rfl, wu, hm1, Each.nil, rfl, by rw [Int.zero_add, hu], But.refl _ _, by simp⟩
    · rintro r σ H' ⟨now, ys, ss, y3, y4, rfl, _, hm, _, _, _, bu, _⟩
      refine ⟨fun c zs e => ?_, bu _ _ nlm hl1⟩
      exact bu _ _ (ne_of e hm1 (by intro z; cases z)) e
    · rintro x r r' σ H' hf ⟨now, ys, ss, y3, y4, rfl, wr, hm, he, es, eh, bu, le⟩
      cases r with
      | nil => exact hf.elim
      | step w' n r =>
        obtain ⟨c, rfl, hc1, rfl⟩ := hf
        obtain ⟨g1, g2, g3⟩ := WfL.step_iff.mp wr
        obtain ⟨n1, n2, n3⟩ := word_ne g1
        have yl := he.1
        rw [Prog.len] at le
        walk_at "go"
        intro t nt
        have tk1 : Tk H' (upd (upd H' t (.tup [.str w', .str n, .int now])) m (.lst (ys ++ [.ref t]))) := ((Tk.refl _).new nt).lst (h_keep hm nt)
        have ntm : t ≠ m := (ne_of_none hm nt).symm
        walk_at "go"
        refine ⟨now, _, ss ++ [(w', n, now)], _, _, rfl, g3, upd_same, ?_, ?_, ?_, (bu.new nt).self, ?_⟩
        · exact (he.imp fun v x _ h => h.tk tk1).snoc ⟨t, rfl, (upd_ne ntm).trans upd_same⟩
        · rw [List.append_assoc]; exact es
        · rw [← eh, Prog.head]
        · rw [List.length_append, List.length_singleton]; omega
      | turn k' r =>
        obtain ⟨c, rfl, hc1, rfl⟩ := hf
        have g3 := (WfL.turn_iff.mp wr).2
        rw [Prog.len] at le
        walk_at "go"
        exact ⟨_, ys, ss, _, _, rfl, g3, hm, he, es, by rw [← eh, Prog.head]; omega, bu, by omega⟩
      | rep k' b r => exact wr.elim
      | mir b r => exact wr.elim
    · rintro σ H' ⟨now, ys, ss, y3, y4, rfl, _, hm, he, es, eh, bu, _⟩
      walk_at "go"
      intro t nt
      have sB : Same H H' := Same.but2 (s0.trans s1) nm bu
      have ee : now = p.head := by rw [← eh, Prog.head]; omega
      subst ee
      have es : ss = Prog.stps 0 (Prog.unroll 1 p) := by rw [← es, Prog.stps, List.append_nil]
      exact k t m ys _ nm (Same.new sB nt) upd_same (h_keep hm nt) (by rw [← es]; exact he.imp fun v x _ h => h.tk ((Tk.refl _).new nt))
theorem ok_add_step {f : Addr} {fd : FuncData} (F : Fun K "add_step" "add_step" s_add_step f fd) (V : StepsV K w mg) : FnOk P w K mg base CX0 1 f fd ["numbers", "step"] spAddStep := by
  obtain ⟨sd, gS, hS⟩ := V.ex
  refine F.ok sc_add_step (fun vs H Q E h => ?_) (fun cdv A outer s H vs Q E hr h => ?_)
  · obtain ⟨s, t, H0, N, c, ws, st, rfl, _⟩ := h
    rfl
  · obtain ⟨sp, t, H0, N, c, ws, st, rfl, hs, hN, ht, w1, w2, k⟩ := h
    refine ⟨_, (pss_cons (ps_asg (pv 1) (pg_tup (by rfl) (pgs_cons (pg_name (i := 2) sc_add_step.nd rfl (.inl rfl)) (pgs_cons (pg_name (i := 3) sc_add_step.nd rfl (.inl rfl)) (pgs_cons (pg_name (i := 4) sc_add_step.nd rfl (.inl rfl)) pgs_nil)))))
    (pss_cons (ps_set (i := 5) sc_add_step.nd rfl (.inl rfl) (pe_dsetd (pv 0) (pv 3) pe_dnewK ⟨rfl, rfl, rfl, rfl⟩))
    (pss_one (ps_dput (hu_of hr) (pv 5) (pv 4) (pe_op op_add (pe_dget2 (hu_of hr) (pv 5) (pv 4) pe_int ⟨rfl, rfl, rfl, rfl⟩) (pe_ix ix_kdict (pe_glob (v := .ref sd) rfl gS rfl) (pv 2) (fun _ _ => rfl))) rfl)))), ?_⟩
    have kd := hS _ w1
    walk_at "go"
    refine r_isD hs.at_ ?_
    walk_at "go"
    intro e ne
    refine hs.setd w2 ne fun ws' j H1 hs1 m1 fr1 => ?_
    have hj1 := hs1.jars _ m1
    walk_at "go"
    walk_at "go"
    obtain ⟨o, g1, g2⟩ := hj1.dget0 st.2.2
    refine ⟨o, g1, ?_⟩
    rw [g2]
    walk_at "go"
    obtain ⟨H4, p1, b1, f1, j1⟩ := hj1.dput (k := st.2.2) (v := c st.2.1 st.2.2 + stepSign st.1) (by omega)
    refine ⟨j, H4, rfl, p1, ?_⟩
    have hs4 := hs1.put m1 b1 j1
    have eb : (fun n' k' => if n' = st.2.1 ∧ k' = st.2.2 then c st.2.1 st.2.2 + stepSign st.1 else c n' k') = bump c st := by
      funext n' k'
      unfold bump
      by_cases h : n' = st.2.1 ∧ k' = st.2.2
      · obtain ⟨rfl, rfl⟩ := h
        rw [if_pos ⟨rfl, rfl⟩, if_pos ⟨rfl, rfl⟩]
      · rw [if_neg h, if_neg (fun x => h ⟨x.1.symm, x.2.symm⟩), Int.add_zero]
    rw [eb] at hs4
    obtain ⟨kvs, ej, _⟩ := hj1
    refine k ws' H4 hs4 (Std.but (fun b o n e => fr1 b o ?_ e) ej b1)
    rintro rfl
    rw [hs.at_] at e
    cases e
    exact n _ rfl
end

set_option Elab.async false
set_option linter.all false
set_option maxRecDepth 100000
set_option maxHeartbeats 4000000

open PySem PySem.Spec PyProof.Rows L2
section
variable {P : Program} {w : World} {K : PySem.W.Frag} {mg : Str → Option Value} {base : Heap} {C : Addr}

local macro_rules | `(tactic| walk_at "s") => `(tactic| (first
  | (with_reducible refine r_dnew ?_)
  | (with_reducible refine r_dget2 ?_)
  | (with_reducible refine r_dget ?_)
  | (with_reducible refine r_dput ?_)
  | (with_reducible refine r_dsetd ?_)
  | ((with_reducible refine JarAt.isD (n := ?nn) (c := ?cc) ?hh ?_); (case hh => assumption))
  ))

local macro_rules | `(tactic| walk_at "s") => `(tactic| (first
  | (with_reducible refine r_prop ?_)
  | (with_reducible refine r_meth ?_)
  | (with_reducible refine r_make ?_)
  | (with_reducible refine r_fld ?_)
  | (with_reducible refine r_sfld ?_)
  | (with_reducible refine r_iOwn ?_)
  | ((with_reducible refine u_rowsAt (mg := ?mm) (C := ?CC) (dx := ?dd) (fv := ?vv) ?tt ?hh ?_); (case tt => assumption); (case hh => walk_at "hp"))
  | ((with_reducible refine r_isPoly (mg := ?mm) (dx := ?dd) (fs := ?ff) ?tt ?hh ?_); (case tt => assumption); (case hh => walk_at "hp"))
  | ((with_reducible refine r_isPolyI (mg := ?mm) ?tt ?_); (case tt => assumption))
  | ((with_reducible refine r_polyInt (mg := ?mm) (C := ?CC) (dx := ?dd) (fs := ?ff) ?tt ?hh ?_); (case tt => assumption); (case hh => walk_at "hp"))
  ))

theorem ok_is_term {f : Addr} {fd : FuncData} (F : Fun K "is_term" "is_term" s_is_term f fd) (B : Bl mg) (h_is_integer : Has P w K mg base "is_integer" 1 ["value"] spIsInt) : FnOk P w K mg base CX0 2 f fd ["value"] spIsTerm := by
  refine F.ok sc_is_term (fun vs H Q E h => ?_) (fun cdv A outer s H vs Q E hr h => ?_)
  · obtain ⟨p, x, y, rfl, _⟩ := h
    rfl
  · obtain ⟨p, x, y, rfl, hp, k⟩ := h
    refine ⟨_, (pss_one (ps_ret (pe_and (pe_callB (call_isiKK (K := K)) (by rfl) B.b_isinstance (by decide +kernel) (pa_cons (pv 0) (pa_cons (pe_bltn (v := .ty "tuple") (by rfl) B.b_tuple (by decide +kernel) rfl) pa_nil))) (pe_and (pe_cmpR op_eq (pe_callB (call_lenK (K := K)) (by rfl) B.b_len PySem.boot_len (pa_cons (pv 0) pa_nil)) pe_int (nomark _)) (pe_and (pe_callH h_is_integer (hr.mono (by first | decide | omega)) (pa_cons (pe_ix (ix_tupK (K := K)) (pv 0) pe_int (fun _ _ => rfl)) pa_nil)) (pe_one (pe_callH h_is_integer (hr.mono (by first | decide | omega)) (pa_cons (pe_ix (ix_tupK (K := K)) (pv 0) pe_int (fun _ _ => rfl)) pa_nil)))))))), ?_⟩
    walk_at "go"
    refine ⟨x, rfl, ?_⟩
    walk_at "go"
    refine ⟨y, rfl, ?_⟩
    walk_at "go"
    exact k
theorem ok_summed {f : Addr} {fd : FuncData} (F : Fun K "summed" "summed" s_summed f fd) (B : Bl mg) (bS : mg "sorted" = none) : FnOk P w K mg base CX0 1 f fd ["terms"] spSummed := by
  refine F.ok sc_summed (fun vs H Q E h => ?_) (fun cdv A outer s H vs Q E hr h => ?_)
  · obtain ⟨l, ts, rfl, _⟩ := h
    rfl
  · obtain ⟨l, ts, rfl, ⟨vs, hl, ht⟩, hn, k⟩ := h
    refine ⟨_, (pss_cons (ps_set (i := 1) sc_summed.nd rfl (.inr rfl) pe_dnewK)
    (pss_cons (ps_for PassesOwn.never rfl (pi_list (pv 0)) (pg_tup (by rfl) (pgs_cons (pg_name (i := 2) sc_summed.nd rfl (.inl rfl)) (pgs_cons (pg_name (i := 3) sc_summed.nd rfl (.inl rfl)) pgs_nil)))
    (pss_one (ps_dput (hu_of hr) (pv 1) (pv 2) (pe_op op_add (pe_dget2 (hu_of hr) (pv 1) (pv 2) pe_int ⟨rfl, rfl, rfl, rfl⟩) (pv 3)) rfl)))
    (pss_one (ps_ret (pe_callTy call_tupL (by rfl) B.b_tuple (by decide +kernel) (pa_cons (pe_lc (own := [("power", 2)]) rfl sc_summed.nd (pi_list (pe_callB call_sortedDA (by rfl) bS (by decide +kernel) (pa_cons (pv 1) pa_nil))) (blkOk_by (N := ["terms", "sums", "power", "number"]) (sc := defScope s_summed) (by decide +kernel)) (fun _ _ _ _ _ => (pg_name (i := 2) sc_summed.nd rfl (.inl rfl))) (fun _ _ _ _ _ => pts_one (pt_cmpR op_ne (pe_dget (hu_of hr) (pv 1) (pv 2) (fun _ _ => rfl)) pe_int (nomark _))) (fun _ _ _ _ _ => (pe_tup (pa_cons (pv 2) (pa_cons (pe_dget (hu_of hr) (pv 1) (pv 2) (fun _ _ => rfl)) pa_nil))))) pa_nil)))))), ?_⟩
    walk_at "go"
    intro d nd
    walk_at "go"
    have hvl := ht.length
    refine u_forL (.of (h_keep hl nd)) (fun i σ H' => ∃ (c : Int → Int) (y2 y3 : Option V), σ = [some (.ref l), some (.ref d), y2, y3] ∧ Same H H' ∧ JarAt H' d i c ∧ (∀ k, c k = cof (ts.take i) k) ∧ i ≤ vs.length) ?_ ?_ ?_ ?_
    · exact ⟨_, _, _, rfl, Same.new0 nd, .new, fun k => rfl, Nat.zero_le _⟩
    · rintro i σ H' _ ⟨c, y2, y3, rfl, sm, _⟩
      exact .of (sm _ _ hl)
    · rintro i x σ H' hx ⟨c, y2, y3, rfl, sm, hj, hc, hi⟩
      obtain ⟨b, p, rfl, hp, hb⟩ := ht.at i hx
      have hi2 := (List.getElem?_eq_some_iff.mp hx).1
      have hb' := sm _ _ hb
      walk_at "go"
      obtain ⟨o, g1, g2⟩ := hj.dget0 p.1
      refine ⟨o, g1, ?_⟩
      rw [g2]
      walk_at "go"
      obtain ⟨H4, p1, b1, f1, j1⟩ := hj.dput (k := p.1) (v := c p.1 + p.2) (by omega)
      refine ⟨d, H4, rfl, p1, _, _, _, rfl, Same.but2 sm nd b1, j1, fun k => ?_, hi2⟩
      have et : ts.take (i + 1) = ts.take i ++ [p] := by rw [List.take_succ, hp]; rfl
      rw [et, cof_app, ← hc]
      unfold addAt
      rw [cof, cof]
      by_cases e : k = p.1
      · subst e; rw [if_pos rfl, if_pos rfl]; omega
      · rw [if_neg e, if_neg (fun h => e h.symm)]; omega
    · rintro σ H' ⟨c, y2, y3, rfl, sm, hj, hc, hi⟩
      rw [List.take_of_length_le (by omega)] at hc
      walk_at "go"
      refine rSortDJ hj fun ys q hys hz hlen hget nq => ?_
      have hj1 := hj.keep (o := .lst (ys.map V.int)) nq
      refine u_lcL (.of upd_same) (fun D i acc H2 => (TermsL H2 acc (((ys.take i).filter fun k => decide (c k ≠ 0)).map fun k => (k, c k)) ∧ i ≤ ys.length) ∧ Same (upd H' q (.lst (ys.map V.int))) H2) ?_ ?_ ?_ ?_
      · exact fun D hD => ⟨⟨rfl, Nat.zero_le _⟩, Same.new0 hD⟩
      · exact fun D i acc H2 _ _ ⟨_, s1⟩ => .of (s1 _ _ upd_same)
      · rintro D i x acc H2 hD hx hacc ⟨⟨ht2, hi0⟩, s1⟩
        rw [List.getElem?_map] at hx
        cases hy : ys[i]? with
        | none => rw [hy] at hx; cases hx
        | some y =>
          rw [hy] at hx
          cases hx
          obtain ⟨hi2, ey⟩ := List.getElem?_eq_some_iff.mp hy
          have hj2 := hj1.same s1
          have et : ys.take (i + 1) = ys.take i ++ [y] := by rw [List.take_succ, hy]; rfl
          have hm2 := (hget y (List.mem_of_getElem? hy)).same ((Same.new0 nq).trans s1)
          walk_at "go"
          refine ⟨rfl, ?_⟩
          walk_at "go"
          refine ⟨d, _, rfl, hj2.dget hm2, ?_⟩
          walk_at "go"
          refine r_ite (fun hb => ?_) (fun hb => ?_)
          · walk_at "go"
            refine ⟨d, _, rfl, hj2.dget hm2, ?_⟩
            walk_at "go"
            intro t nt
            have nz : decide (c y ≠ 0) = true := by simpa using hb
            have al : acc.length ≤ i := by
              rw [ht2.length, List.length_map]
              exact Nat.le_trans (List.length_filter_le _ _) (by rw [List.length_take]; omega)
            refine u_push (h_keep hacc nt) (by omega) ⟨⟨?_, hi2⟩, Same.put (Same.new s1 nt) hD⟩
            have t1 : Tk H2 (upd (upd H2 t (.tup [.int y, .int (c y)])) D (.lst (acc ++ [.ref t]))) := ((Tk.refl _).new nt).lst (h_keep hacc nt)
            rw [et, List.filter_append, List.map_append, List.filter_cons_of_pos (p := fun k => decide (c k ≠ 0)) nz]
            exact (ht2.tk t1).app (.one ((upd_ne (ne_of_none hacc nt).symm).trans upd_same))
          · refine u_skip hacc ⟨⟨?_, hi2⟩, s1⟩
            have nz : ¬ decide (c y ≠ 0) = true := by simpa using hb
            rw [et, List.filter_append, List.filter_cons_of_neg (p := fun k => decide (c k ≠ 0)) nz, List.filter_nil, List.append_nil]
            exact ht2
      · rintro D acc H2 hD hacc ⟨⟨ht2, hi0⟩, s1⟩
        walk_at "go"
        intro r nr
        rw [List.take_of_length_le (by simp)] at ht2
        have sE : Same H (upd H2 r (.tup acc)) := Same.new (sm.trans ((Same.new0 nq).trans s1)) nr
        refine k r _ acc _ (free_same (sm.trans ((Same.new0 nq).trans s1)) nr) sE upd_same (ht2.tk ((Tk.refl _).new nr)) (canon_of hys c) (fun j => ?_) ?_
        · rw [cof_of hys, ← hc]
          by_cases hm : j ∈ ys
          · rw [if_pos hm]
          · rw [if_neg hm, hz j hm]
        · rw [List.length_map]
          exact Nat.le_trans (List.length_filter_le _ _) (by omega)
end

set_option Elab.async false
set_option linter.all false
set_option maxRecDepth 100000
set_option maxHeartbeats 4000000

open PySem PySem.Spec PyProof.Rows L2
section
variable {P : Program} {w : World} {K : PySem.W.Frag} {mg : Str → Option Value} {base : Heap} {C : Addr}

local macro_rules | `(tactic| walk_at "s") => `(tactic| (first
  | (with_reducible refine r_dnew ?_)
  | (with_reducible refine r_dget2 ?_)
  | (with_reducible refine r_dget ?_)
  | (with_reducible refine r_dput ?_)
  | (with_reducible refine r_dsetd ?_)
  | ((with_reducible refine JarAt.isD (n := ?nn) (c := ?cc) ?hh ?_); (case hh => assumption))
  ))

local macro_rules | `(tactic| walk_at "s") => `(tactic| (first
  | (with_reducible refine r_prop ?_)
  | (with_reducible refine r_meth ?_)
  | (with_reducible refine r_make ?_)
  | (with_reducible refine r_fld ?_)
  | (with_reducible refine r_sfld ?_)
  | (with_reducible refine r_iOwn ?_)
  | ((with_reducible refine u_rowsAt (mg := ?mm) (C := ?CC) (dx := ?dd) (fv := ?vv) ?tt ?hh ?_); (case tt => assumption); (case hh => walk_at "hp"))
  | ((with_reducible refine r_isPoly (mg := ?mm) (dx := ?dd) (fs := ?ff) ?tt ?hh ?_); (case tt => assumption); (case hh => walk_at "hp"))
  | ((with_reducible refine r_isPolyI (mg := ?mm) ?tt ?_); (case tt => assumption))
  | ((with_reducible refine r_polyInt (mg := ?mm) (C := ?CC) (dx := ?dd) (fs := ?ff) ?tt ?hh ?_); (case tt => assumption); (case hh => walk_at "hp"))
  ))

theorem ok_Poly_init {f : Addr} {fd : FuncData} (F : Fun K "__init__" "Poly.__init__" s_Poly___init__ f fd) (B : Bl mg) (T : PolyT K mg C) (h_is_term : Has P w K mg base "is_term" 2 ["value"] spIsTerm) (h_summed : Has P w K mg base "summed" 1 ["terms"] spSummed) : FnOk P w K mg base CX0 3 f fd ["self", "terms"] (spInit C) := by
  refine F.ok sc_Poly___init__ (fun vs H Q E h => ?_) (fun cdv A outer s H vs Q E hr h => ?_)
  · obtain ⟨x, dx, l, ts, rfl, _⟩ := h
    rfl
  · obtain ⟨x, dx, l, ts, rfl, hx, ⟨vs, hl, ht⟩, hn, k⟩ := h
    refine ⟨_, (pss_cons (ps_if (PW.pt (pw_or (pt_not (pt_val (pe_callB (call_isiKK (K := K)) (by rfl) B.b_isinstance (by decide +kernel) (pa_cons (pv 1) (pa_cons (pe_bltn (v := .ty "list") (by rfl) B.b_list (by decide +kernel) rfl) pa_nil))))) (pw_or1 (pt_not (pt_val (pe_callB (call_allK (K := K)) (by rfl) B.b_all (by decide +kernel) (pa_cons (pe_lc (own := [("term", 2)]) rfl sc_Poly___init__.nd (pi_list (pv 1)) (blkOk_by (N := ["self", "terms", "term"]) (sc := defScope s_Poly___init__) (by decide +kernel)) (fun _ _ _ _ _ => (pg_name (i := 2) sc_Poly___init__.nd rfl (.inl rfl))) (fun _ _ _ _ _ => pts_nil) (fun _ _ _ _ _ => (pe_callH h_is_term (hr.mono (by first | decide | omega)) (pa_cons (pv 2) pa_nil)))) pa_nil)))))))
    (pss_one ps_never)
    pss_nil)
    (pss_one (ps_fld (pv 0) (pe_callH h_summed (hr.mono (by first | decide | omega)) (pa_cons (pv 1) pa_nil)) rfl))), ?_⟩
    walk_at "go"
    refine u_lcL (.of hl) (fun D i acc H' => (acc = (List.replicate i true).map V.bl ∧ i ≤ vs.length) ∧ Same H H') ?_ ?_ ?_ ?_
    · exact fun D hD => ⟨⟨rfl, by omega⟩, Same.new0 hD⟩
    · exact fun D i acc H' _ _ ⟨_, s1⟩ => .of (s1 _ _ hl)
    · rintro D i v acc H' hD hv hacc ⟨⟨ea, _⟩, sm⟩
      obtain ⟨b, p, rfl, hp, hb⟩ := ht.at i hv
      have hi2 := (List.getElem?_eq_some_iff.mp hv).1
      have hvl := ht.length
      walk_at "go"
      refine ⟨rfl, ?_⟩
      walk_at "go"
      refine ⟨b, p.1, p.2, rfl, sm _ _ hb, ?_⟩
      have al : acc.length = i := by rw [ea]; simp
      refine u_push hacc (by omega) ⟨⟨?_, by omega⟩, Same.put sm hD⟩
      rw [ea, List.replicate_succ', List.map_append]
      rfl
    · rintro D acc H' hD hacc ⟨⟨ea, _⟩, sm⟩
      rw [ea] at hacc
      walk_at "go"
      refine r_all (SqL.of hacc) ?_
      rw [show ((List.replicate vs.length true).all id) = true by simp]
      walk_at "go"
      refine ⟨l, ts, rfl, ⟨vs, sm _ _ hl, ht.tk (Tk.same sm)⟩, hn, fun r us ws H2 nr s2 hr2 hw hc hcof hlen => ?_⟩
      have hx2 : H2 x = some (.ins C dx []) := s2 _ _ (sm _ _ hx)
      walk_at "go"
      refine ⟨x, C, dx, _, rfl, hx2, T.cl, T.nR, by show 0 < 1000; decide, ?_⟩
      refine k us _ (But.self (Same.but (sm.trans s2) x)) ⟨dx, r, ws, upd_same, (upd_ne (ne_of hr2 hx2 (by intro z; cases z))).trans hr2, hw.tk fun c xs e => (upd_ne (ne_of e hx2 (by intro z; cases z))).trans e, hc⟩ hcof hlen
end

set_option Elab.async false
set_option linter.all false
set_option maxRecDepth 100000
set_option maxHeartbeats 4000000

open PySem PySem.Spec PyProof.Rows L2
section
variable {P : Program} {w : World} {K : PySem.W.Frag} {mg : Str → Option Value} {base : Heap} {C : Addr}

local macro_rules | `(tactic| walk_at "s") => `(tactic| (first
  | (with_reducible refine r_dnew ?_)
  | (with_reducible refine r_dget2 ?_)
  | (with_reducible refine r_dget ?_)
  | (with_reducible refine r_dput ?_)
  | (with_reducible refine r_dsetd ?_)
  | ((with_reducible refine JarAt.isD (n := ?nn) (c := ?cc) ?hh ?_); (case hh => assumption))
  ))

local macro_rules | `(tactic| walk_at "s") => `(tactic| (first
  | (with_reducible refine r_prop ?_)
  | (with_reducible refine r_meth ?_)
  | (with_reducible refine r_make ?_)
  | (with_reducible refine r_fld ?_)
  | (with_reducible refine r_sfld ?_)
  | (with_reducible refine r_iOwn ?_)
  | ((with_reducible refine u_rowsAt (mg := ?mm) (C := ?CC) (dx := ?dd) (fv := ?vv) ?tt ?hh ?_); (case tt => assumption); (case hh => walk_at "hp"))
  | ((with_reducible refine r_isPoly (mg := ?mm) (dx := ?dd) (fs := ?ff) ?tt ?hh ?_); (case tt => assumption); (case hh => walk_at "hp"))
  | ((with_reducible refine r_isPolyI (mg := ?mm) ?tt ?_); (case tt => assumption))
  | ((with_reducible refine r_polyInt (mg := ?mm) (C := ?CC) (dx := ?dd) (fs := ?ff) ?tt ?hh ?_); (case tt => assumption); (case hh => walk_at "hp"))
  ))

theorem ok_Poly_terms {f : Addr} {fd : FuncData} (F : Fun K "terms" "Poly.terms" s_Poly_terms f fd) (B : Bl mg) (T : PolyT K mg C) : FnOk P w K mg base CX0 1 f fd ["self"] (spGetTerms C) := by
  refine F.ok sc_Poly_terms (fun vs H Q E h => ?_) (fun cdv A outer s H vs Q E hr h => ?_)
  · obtain ⟨a, ts, rfl, _⟩ := h
    rfl
  · obtain ⟨a, ts, rfl, ⟨dx, r, vs, g1, hr', ht, hc⟩, k⟩ := h
    refine ⟨_, (pss_one (ps_ret (pe_callTy call_listT (by rfl) B.b_list (by decide +kernel) (pa_cons (pe_fldK (K := K) (pv 0)) pa_nil)))), ?_⟩
    walk_at "go"
    intro l nl
    exact k l _ nl (Same.new0 nl) ⟨vs, upd_same, ht.tk ((Tk.refl _).new nl)⟩
theorem ok_Poly_len {f : Addr} {fd : FuncData} (F : Fun K "__len__" "Poly.__len__" s_Poly___len__ f fd) (B : Bl mg) (T : PolyT K mg C) : FnOk P w K mg base CX0 1 f fd ["self"] (spPLen C) := by
  refine F.ok sc_Poly___len__ (fun vs H Q E h => ?_) (fun cdv A outer s H vs Q E hr h => ?_)
  · obtain ⟨a, ts, rfl, _⟩ := h
    rfl
  · obtain ⟨a, ts, rfl, ⟨dx, r, vs, g1, hr', ht, hc⟩, k⟩ := h
    refine ⟨_, (pss_one (ps_ret (pe_callB (call_lenK (K := K)) (by rfl) B.b_len PySem.boot_len (pa_cons (pe_fldK (K := K) (pv 0)) pa_nil)))), ?_⟩
    have hl := ht.length
    walk_at "go"
    rw [hl]
    exact k
end

set_option Elab.async false
set_option linter.all false
set_option maxRecDepth 100000
set_option maxHeartbeats 4000000
set_option pp.deepTerms false
set_option pp.deepTerms.threshold 12
set_option pp.maxSteps 1200

open PySem PySem.Spec PyProof.Rows L2 RT
def spPlaceFrom (C : Addr) : Sp := fun vs H Q _ => ∃ (s : Addr) (H0 : Hp) (N : Nat) (c : Str → Int → Int) (ws : List (Str × Addr)), vs = [.ref s] ∧ Spot H0 H s N c ws ∧ N ≤ 5000 ∧
  ∀ l pl H', H l = none → Same H H' → PlaceP C H' l pl → IsPlace pl c → (∀ e ∈ pl, e.2.length ≤ N) → pl.length < 64 → Q (.ref l) H'
def spRawEffect (C : Addr) : Sp := fun vs H Q _ => ∃ a p, vs = [.ref a] ∧ PrIs H a p ∧ Wf BC BC 12 p ∧ p.size ≤ 4000 ∧
  ∀ r l pl H', Same H H' → H l = none → H' r = some (.tup [.int p.head, .ref l]) → PlaceP C H' l pl → IsPlace pl (Prog.wcf 0 (Prog.unroll 1 p)) → (∀ e ∈ pl, (e.2.length : Int) ≤ p.size) → pl.length < 64 → Q (.ref r) H'
section
variable {P : Program} {w : World} {K : PySem.W.Frag} {mg : Str → Option Value} {base : Heap} {C : Addr}

local macro_rules | `(tactic| walk_at "s") => `(tactic| (first
  | (with_reducible refine r_dnew ?_)
  | (with_reducible refine r_dget2 ?_)
  | (with_reducible refine r_dget ?_)
  | (with_reducible refine r_dput ?_)
  | (with_reducible refine r_dsetd ?_)
  | ((with_reducible refine JarAt.isD (n := ?nn) (c := ?cc) ?hh ?_); (case hh => assumption))
  ))

local macro_rules | `(tactic| walk_at "s") => `(tactic| (first
  | (with_reducible refine r_prop ?_)
  | (with_reducible refine r_meth ?_)
  | (with_reducible refine r_make ?_)
  | (with_reducible refine r_fld ?_)
  | (with_reducible refine r_sfld ?_)
  | (with_reducible refine r_iOwn ?_)
  | ((with_reducible refine u_rowsAt (mg := ?mm) (C := ?CC) (dx := ?dd) (fv := ?vv) ?tt ?hh ?_); (case tt => assumption); (case hh => walk_at "hp"))
  | ((with_reducible refine r_isPoly (mg := ?mm) (dx := ?dd) (fs := ?ff) ?tt ?hh ?_); (case tt => assumption); (case hh => walk_at "hp"))
  | ((with_reducible refine r_isPolyI (mg := ?mm) ?tt ?_); (case tt => assumption))
  | ((with_reducible refine r_polyInt (mg := ?mm) (C := ?CC) (dx := ?dd) (fs := ?ff) ?tt ?hh ?_); (case tt => assumption); (case hh => walk_at "hp"))
  ))

theorem r_listItems {te : TE} {σ : L2.St} {H : Hp} {Q : VK} (q : te σ H fun x H1 => LiI.rItemsL x H1 Q) : LiI.tListItems te σ H Q := q
theorem u_items {H : Hp} {a : Addr} {n : Nat} {c : Int → Int} {Q : VK} (h : JarAt H a n c) (q : ∀ p ts H', H p = none → Same H H' → TermsAt H' p ts → ts.length ≤ n → (∀ k, cof ts k = c k) → Q (.ref p) H') : LiI.rItemsL (.ref a) H Q := by
  obtain ⟨kvs, e, hk, hn, hc⟩ := h
  obtain ⟨ts, rfl, ht⟩ := jar_terms hk
  refine ⟨a, _, rfl, e, fun H' p as s1 np ns nd hp hpr => q p ts H' np s1 ⟨_, hp, terms_paired hpr⟩ ?_ fun k => (ht k).trans (hc k)⟩
  rw [List.length_map] at hn
  exact hn
local macro_rules | `(tactic| walk_at "s") => `(tactic| (first
  | (with_reducible refine r_listItems ?_)
  ))
theorem ok_place_from {f : Addr} {fd : FuncData} (F : Fun K "place_from" "place_from" s_place_from f fd) (B : Bl mg) (bS : mg "sorted" = none) (G_Poly : PolyT K mg C) (hc_Poly : HasC P w K mg base "Poly" C 3 ["self", "terms"] (spInit C)) (hm_Poly___len__ : HasM P w K mg base C "__len__" 1 ["self"] (spPLen C)) : FnOk P w K mg base CX0 5 f fd ["numbers"] (spPlaceFrom C) := by
  refine F.ok sc_place_from (fun vs H Q E h => ?_) (fun cdv A outer s H vs Q E hr h => ?_)
  · obtain ⟨s, H0, N, c, ws, rfl, _⟩ := h
    rfl
  · obtain ⟨sp, H0, N, c, ws, rfl, hs, hN, k⟩ := h
    refine ⟨_, (pss_cons (ps_set (i := 1) sc_place_from.nd rfl (.inl rfl) (pe_lst pa_nil))
    (pss_cons (ps_for PassesOwn.never rfl (pi_list (pe_callB call_sortedDS (by rfl) bS (by decide +kernel) (pa_cons (pv 0) pa_nil))) (pg_name (i := 2) sc_place_from.nd rfl (.inl rfl))
    (pss_cons (ps_set (i := 3) sc_place_from.nd rfl (.inl rfl) (pe_makeH hc_Poly (hr.mono (by first | decide | omega)) (pa_cons (LiI.pe_listItems rfl (pe_dget (hu_of hr) (pv 0) (pv 2) (fun _ _ => rfl)) rfl B.b_list (by decide +kernel)) pa_nil)))
    (pss_one (ps_if (pt_cmpR op_gt (pe_callB (call_lenOwn hm_Poly___len__ (hr.mono (by first | decide | omega))) (by rfl) B.b_len PySem.boot_len (pa_cons (pv 3) pa_nil)) pe_int (nomark _))
    (pss_one (ps_expr (pe_bm PySem.F.plainAttrs_list PySem.F.slot_list_append PySem.F.type_list_append mt_append (pv 1) (pa_cons (pe_tup (pa_cons (pv 2) (pa_cons (pv 3) pa_nil))) pa_nil))))
    pss_nil))))
    (pss_one (ps_ret (pv 1))))), ?_⟩
    walk_at "go"
    intro m nm
    have hs0 := hs.later (Same.new0 (o := .lst []) nm)
    walk_at "go"
    have hnm : ∀ n ∈ ws.map (·.1), IsName n := fun n hn => by obtain ⟨e, he, rfl⟩ := List.mem_map.mp hn; exact hs.name e he
    refine ⟨sp, _, ws.map (·.1), rfl, .inl hs0.at_, by simp [spotKvs], names_few hnm hs.nd, fun ys u hys hsr nu => ?_⟩
    have num : u ≠ m := (ne_of_none upd_same nu).symm
    have hs1 := hs0.later (Same.new0 (o := .lst (ys.map V.str)) nu)
    have s01 : Same H (upd (upd H m (.lst [])) u (.lst (ys.map V.str))) := Same.new (Same.new0 nm) nu
    have hu1 : upd (upd H m (.lst [])) u (.lst (ys.map V.str)) u = some (.lst (ys.map V.str)) := upd_same
    have hm1 : upd (upd H m (.lst [])) u (.lst (ys.map V.str)) m = some (.lst []) := h_keep upd_same nu
    generalize upd (upd H m (.lst [])) u (.lst (ys.map V.str)) = H1 at *
    have hlt : ys.length < 64 := by rw [hys.length_eq]; exact names_few hnm hs.nd
    refine u_forL (.of hu1) (fun i σ H2 => ∃ (pl : Pl) (vs : List V) (y2 y3 : Option V), σ = [some (.ref sp), some (.ref m), y2, y3] ∧ H2 u = some (.lst (ys.map V.str)) ∧ H2 m = some (.lst vs) ∧ Each (PlC C H2) vs pl ∧ (∀ e ∈ pl, Canon e.2 ∧ e.2 ≠ [] ∧ (∀ k, cof e.2 k = c e.1 k) ∧ e.2.length ≤ N) ∧ (pl.map (·.1)).Sublist (ys.take i) ∧ (∀ n ∈ ys.take i, (∀ k, c n k = 0) ∨ n ∈ pl.map (·.1)) ∧ Same H H2) ?_ ?_ ?_ ?_
    · exact ⟨[], [], _, _, rfl, hu1, hm1, .nil, by simp, by simp, by simp, s01⟩
    · rintro i σ H2 _ ⟨pl, vs, y2, y3, rfl, h1, _⟩
      exact .of h1
    · rintro i x σ H2 hx ⟨pl, vs, y2, y3, rfl, hu2, hm2, hpl, hcan, hsub, hall, s2⟩
      rw [List.getElem?_map] at hx
      cases hy : ys[i]? with
      | none => rw [hy] at hx; cases hx
      | some y =>
        rw [hy] at hx
        cases hx
        obtain ⟨hi2, ey⟩ := List.getElem?_eq_some_iff.mp hy
        have hs2 := hs.later s2
        have et : ys.take (i + 1) = ys.take i ++ [y] := by rw [List.take_succ, hy]; rfl
        obtain ⟨j, hv, hmj⟩ := spot_some (hys.mem_iff.mp (List.mem_of_getElem? hy))
        walk_at "go"
        refine ⟨sp, _, rfl, hs2.dget hv, ?_⟩
        walk_at "go"
        refine u_items (hs2.jars _ hmj) fun q ts H3 nq s3 ht hlen hcof => ?_
        walk_at "go"
        refine u_poly ht (by omega) fun b us H4 nb s4 hb hcu hl => ?_
        walk_at "go"
        obtain ⟨dxb, rb, vsb, gb, _⟩ := id hb
        refine ⟨b, dxb, _, rfl, gb, b, us, rfl, hb, us.length, rfl, by omega, ?_⟩
        walk_at "go"
        have s34 : Same H2 H4 := s3.trans s4
        have hm4 := s34 _ _ hm2
        have hcan4 : Canon us := by obtain ⟨_, _, _, _, _, _, hc⟩ := hb; exact hc
        have hcc : ∀ k, cof us k = c y k := fun k => (hcu k).trans (hcof k)
        have plen : pl.length ≤ i := by
          rw [← List.length_map (f := (·.1))]
          exact Nat.le_trans hsub.length_le (by rw [List.length_take]; omega)
        have vl := hpl.1
        have hpl4 : Each (PlC C H4) vs pl := hpl.imp fun v x _ r => r.stay (.same s34)
        refine r_iteD (fun h0 => ?_) (fun h0 => ?_)
        · walk_at "go"
          intro t nt
          walk_at "go"
          have ntm : t ≠ m := (ne_of_none hm4 nt).symm
          have st : Stay H4 (upd (upd H4 t (.tup [.str y, .ref b])) m (.lst (vs ++ [.ref t]))) := ((Stay.refl H4).new nt).lst (h_keep hm4 nt)
          refine ⟨pl ++ [(y, us)], _, _, _, rfl, (upd_ne num).trans (h_keep (s34 _ _ hu2) nt), upd_same, ?_, ?_, ?_, ?_, Same.put (Same.new (s2.trans s34) nt) nm⟩
          · exact (hpl4.imp fun v x _ r => r.stay st).snoc ⟨t, b, rfl, (upd_ne ntm).trans upd_same, hb.stay st⟩
          · intro e he
            rcases List.mem_append.mp he with he | he
            · exact hcan e he
            · rw [List.mem_singleton.mp he]
              exact ⟨hcan4, fun (z : us = []) => by rw [z] at h0; simp at h0, hcc, show us.length ≤ N by omega⟩
          · rw [et, List.map_append]
            exact hsub.append (List.Sublist.refl _)
          · intro n hn
            rw [et] at hn
            rw [List.map_append]
            rcases List.mem_append.mp hn with hn | hn
            · rcases hall n hn with h | h
              · exact .inl h
              · exact .inr (List.mem_append.mpr (.inl h))
            · exact .inr (List.mem_append.mpr (.inr hn))
        · walk_at "go"
          have e0 : us = [] := by
            cases us with
            | nil => rfl
            | cons _ _ => exact absurd (by simp) h0
          refine ⟨pl, vs, _, _, rfl, s34 _ _ hu2, hm4, hpl4, hcan, ?_, ?_, s2.trans s34⟩
          · rw [et]
            exact hsub.trans (List.sublist_append_left _ _)
          · intro n hn
            rw [et] at hn
            rcases List.mem_append.mp hn with hn | hn
            · exact hall n hn
            · rw [List.mem_singleton.mp hn]
              exact .inl fun k => by rw [← hcc k, e0]; rfl
    · rintro σ H2 ⟨pl, vs, y2, y3, rfl, hu2, hm2, hpl, hcan, hsub, hall, s2⟩
      walk_at "go"
      rw [List.take_of_length_le (by simp)] at hsub hall
      have hny : ∀ n ∈ ys, IsName n := fun n hn => hnm n (hys.mem_iff.mp hn)
      refine k m pl H2 nm s2 ⟨vs, hm2, hpl⟩ ⟨fun e he => ?_, fun e he => ?_, ?_, fun n hn k => ?_⟩ (fun e he => (hcan e he).2.2.2) ?_
      · obtain ⟨x1, x2, x3, _⟩ := hcan e he
        exact ⟨x1, x2, x3⟩
      · exact hny _ (hsub.subset (List.mem_map.mpr ⟨e, he, rfl⟩))
      · have hpw : (pl.map (·.1)).Pairwise fun a b => ncode a < ncode b := (sorted_names hny (hys.nodup_iff.mpr hs.nd) hsr).sublist hsub
        exact (List.pairwise_map (f := fun e : Str × Terms => e.1) (R := fun a b => ncode a < ncode b)).mp hpw
      · by_cases hm : n ∈ ys
        · rcases hall n hm with h | h
          · exact h k
          · exact absurd h hn
        · exact hs.none_ n (fun h => hm (hys.mem_iff.mpr h)) k
      · rw [← List.length_map (f := (·.1))]
        exact Nat.lt_of_le_of_lt hsub.length_le hlt
theorem ok_raw_effect {f : Addr} {fd : FuncData} (F : Fun K "raw_effect" "raw_effect" s_raw_effect f fd) (B : Bl mg) (h_raw_steps : Has P w K mg base "raw_steps" 14 ["program"] spRawSteps) (h_add_step : Has P w K mg base "add_step" 1 ["numbers", "step"] spAddStep) (h_place_from : Has P w K mg base "place_from" 5 ["numbers"] (spPlaceFrom C)) : FnOk P w K mg base CX0 15 f fd ["program"] (spRawEffect C) := by
  refine F.ok sc_raw_effect (fun vs H Q E h => ?_) (fun cdv A outer s H vs Q E hr h => ?_)
  · obtain ⟨a, p, rfl, _⟩ := h
    rfl
  · obtain ⟨a, p, rfl, hq, hw, hz, k⟩ := h
    refine ⟨_, (pss_cons (ps_asg (pe_callH h_raw_steps (hr.mono (by first | decide | omega)) (pa_cons (pv 0) pa_nil)) (pg_tup (by rfl) (pgs_cons (pg_name (i := 1) sc_raw_effect.nd rfl (.inl rfl)) (pgs_cons (pg_name (i := 2) sc_raw_effect.nd rfl (.inl rfl)) pgs_nil))))
    (pss_cons (ps_set (i := 3) sc_raw_effect.nd rfl (.inl rfl) pe_dnewK)
    (pss_cons (ps_for PassesOwn.never rfl (pi_list (pv 2)) (pg_name (i := 4) sc_raw_effect.nd rfl (.inl rfl))
    (pss_one (ps_expr (pe_callH h_add_step (hr.mono (by first | decide | omega)) (pa_cons (pv 3) (pa_cons (pv 4) pa_nil))))))
    (pss_one (ps_ret (pe_tup (pa_cons (pv 1) (pa_cons (pe_callH h_place_from (hr.mono (by first | decide | omega)) (pa_cons (pv 3) pa_nil)) pa_nil)))))))), ?_⟩
    walk_at "go"
    refine ⟨a, p, rfl, hq, hw, hz, fun r l xs H1 nl0 s1 hr1 hl1 he => ?_⟩
    walk_at "go"
    intro sp nsp
    have wu : Wf BC BC 0 (Prog.unroll 1 p) := Prog.wf_unroll (.inl rfl) hw
    have lu := Prog.len_unroll 1 hw
    have ll := Prog.stps_len (Prog.unroll 1 p) 0
    have hok := Prog.stps_ok 0 wu
    have hl2 : upd H1 sp (.dK []) l = some (.lst xs) := h_keep hl1 nsp
    have el := he.1
    walk_at "go"
    refine u_forL (.of hl2) (fun i σ H' => ∃ (ws : List (Str × Addr)) (y4 : Option V), σ = [some (.ref a), some (.int p.head), some (.ref l), some (.ref sp), y4] ∧ i ≤ xs.length ∧ Spot H1 H' sp i (stC ((Prog.stps 0 (Prog.unroll 1 p)).take i)) ws) ?_ ?_ ?_ ?_
    · exact ⟨[], _, rfl, Nat.zero_le _, Spot.empty nsp⟩
    · rintro i σ H' _ ⟨ws, y4, rfl, _, hs⟩
      exact .of (hs.same _ _ hl1)
    · rintro i x σ H' hx ⟨ws, y4, rfl, hi, hs⟩
      obtain ⟨st, hst, b, rfl, hb⟩ := he.at hx
      have hi2 := (List.getElem?_eq_some_iff.mp hx).1
      obtain ⟨w1, w2⟩ := hok st (List.mem_of_getElem? hst)
      walk_at "go"
      refine ⟨sp, b, H1, i, _, ws, st, rfl, hs, by omega, hs.same _ _ hb, w1, w2, fun ws' H2 hs2 _ => ?_⟩
      walk_at "go"
      refine ⟨ws', _, rfl, hi2, ?_⟩
      rw [List.take_succ, hst, stC_snoc']
      exact hs2
    · rintro σ H' ⟨ws, y4, rfl, _, hs⟩
      rw [el, List.take_length] at hs
      walk_at "go"
      refine ⟨sp, H1, _, _, ws, rfl, hs, by omega, fun l2 pl H2 nl2 s2 hpl his hlen hfew => ?_⟩
      walk_at "go"
      intro t nt
      have ec : stC (Prog.stps 0 (Prog.unroll 1 p)) = Prog.wcf 0 (Prog.unroll 1 p) := funext fun n => funext fun k => stC_stps _ 0 n k
      rw [ec] at his
      have sA : Same H (upd H2 t (.tup [.int p.head, .ref l2])) := Same.new (s1.trans (hs.same.trans s2)) nt
      exact k t l2 pl _ sA (free_same (s1.trans hs.same) nl2) upd_same (hpl.same (Same.new0 nt)) his (fun e he => by have := hlen e he; omega) hfew
end

set_option Elab.async false
set_option linter.all false
set_option maxRecDepth 100000
set_option maxHeartbeats 4000000

open PySem PySem.Spec PyProof.Rows L2
section
variable {P : Program} {w : World} {K : PySem.W.Frag} {mg : Str → Option Value} {base : Heap} {C : Addr}

local macro_rules | `(tactic| walk_at "s") => `(tactic| (first
  | (with_reducible refine r_dnew ?_)
  | (with_reducible refine r_dget2 ?_)
  | (with_reducible refine r_dget ?_)
  | (with_reducible refine r_dput ?_)
  | (with_reducible refine r_dsetd ?_)
  | ((with_reducible refine JarAt.isD (n := ?nn) (c := ?cc) ?hh ?_); (case hh => assumption))
  ))

local macro_rules | `(tactic| walk_at "s") => `(tactic| (first
  | (with_reducible refine r_prop ?_)
  | (with_reducible refine r_meth ?_)
  | (with_reducible refine r_make ?_)
  | (with_reducible refine r_fld ?_)
  | (with_reducible refine r_sfld ?_)
  | (with_reducible refine r_iOwn ?_)
  | ((with_reducible refine u_rowsAt (mg := ?mm) (C := ?CC) (dx := ?dd) (fv := ?vv) ?tt ?hh ?_); (case tt => assumption); (case hh => walk_at "hp"))
  | ((with_reducible refine r_isPoly (mg := ?mm) (dx := ?dd) (fs := ?ff) ?tt ?hh ?_); (case tt => assumption); (case hh => walk_at "hp"))
  | ((with_reducible refine r_isPolyI (mg := ?mm) ?tt ?_); (case tt => assumption))
  | ((with_reducible refine r_polyInt (mg := ?mm) (C := ?CC) (dx := ?dd) (fs := ?ff) ?tt ?hh ?_); (case tt => assumption); (case hh => walk_at "hp"))
  ))

end

set_option Elab.async false
set_option linter.all false
set_option maxRecDepth 100000
set_option maxHeartbeats 4000000

open PySem PySem.Spec PyProof.Rows L2
section
variable {P : Program} {w : World} {K : PySem.W.Frag} {mg : Str → Option Value} {base : Heap} {C : Addr}

local macro_rules | `(tactic| walk_at "s") => `(tactic| (first
  | (with_reducible refine r_dnew ?_)
  | (with_reducible refine r_dget2 ?_)
  | (with_reducible refine r_dget ?_)
  | (with_reducible refine r_dput ?_)
  | (with_reducible refine r_dsetd ?_)
  | ((with_reducible refine JarAt.isD (n := ?nn) (c := ?cc) ?hh ?_); (case hh => assumption))
  ))

local macro_rules | `(tactic| walk_at "s") => `(tactic| (first
  | (with_reducible refine r_prop ?_)
  | (with_reducible refine r_meth ?_)
  | (with_reducible refine r_make ?_)
  | (with_reducible refine r_fld ?_)
  | (with_reducible refine r_sfld ?_)
  | (with_reducible refine r_iOwn ?_)
  | ((with_reducible refine u_rowsAt (mg := ?mm) (C := ?CC) (dx := ?dd) (fv := ?vv) ?tt ?hh ?_); (case tt => assumption); (case hh => walk_at "hp"))
  | ((with_reducible refine r_isPoly (mg := ?mm) (dx := ?dd) (fs := ?ff) ?tt ?hh ?_); (case tt => assumption); (case hh => walk_at "hp"))
  | ((with_reducible refine r_isPolyI (mg := ?mm) ?tt ?_); (case tt => assumption))
  | ((with_reducible refine r_polyInt (mg := ?mm) (C := ?CC) (dx := ?dd) (fs := ?ff) ?tt ?hh ?_); (case tt => assumption); (case hh => walk_at "hp"))
  ))

theorem ok_Poly_mirrored {f : Addr} {fd : FuncData} (F : Fun K "mirrored" "Poly.mirrored" s_Poly_mirrored f fd) (B : Bl mg) (G_Poly : PolyT K mg C) (hc_Poly : HasC P w K mg base "Poly" C 3 ["self", "terms"] (spInit C)) : FnOk P w K mg base CX0 5 f fd ["self"] (spPoly1 C fun ts k => cof ts (-k)) := by
  refine F.ok sc_Poly_mirrored (fun vs H Q E h => ?_) (fun cdv A outer s H vs Q E hr h => ?_)
  · obtain ⟨a, ts, rfl, _⟩ := h
    rfl
  · obtain ⟨a, ts, rfl, ⟨dx, r, vs, g1, hr', ht, hc⟩, hn, k⟩ := h
    refine ⟨_, (pss_one (ps_ret (pe_makeH hc_Poly (hr.mono (by first | decide | omega)) (pa_cons (pe_lc (g := (gTup K 2 (gCons (gName 1) (gCons (gName 2) gNil)))) (own := [("power", 1), ("number", 2)]) rfl sc_Poly_mirrored.nd (pi_tup (pe_fldK (K := K) (pv 0))) (blkOk_by (N := ["self", "power", "number"]) (sc := defScope s_Poly_mirrored) (by decide +kernel)) (fun _ _ _ _ _ => (pg_tupK (K := K) rfl (pgs_cons (pg_name (i := 1) sc_Poly_mirrored.nd rfl (.inl rfl)) (pgs_cons (pg_name (i := 2) sc_Poly_mirrored.nd rfl (.inl rfl)) pgs_nil)))) (fun _ _ _ _ _ => pts_nil) (fun _ _ _ _ _ => (pe_tup (pa_cons (pe_un un_neg (pv 1)) (pa_cons (pv 2) pa_nil))))) pa_nil)))), ?_⟩
    have hvl := ht.length
    walk_at "go"
    refine u_lcT (.of hr') (fun D i acc H2 => (TermsL H2 acc (mirT (ts.take i)) ∧ i ≤ vs.length) ∧ Same H H2) ?_ ?_ ?_ ?_
    · exact fun D hD => ⟨⟨rfl, Nat.zero_le _⟩, Same.new0 hD⟩
    · exact fun D i acc H2 _ _ ⟨_, s1⟩ => .of (s1 _ _ hr')
    · rintro D i x acc H2 hD hx hacc ⟨⟨ht2, hi0⟩, s1⟩
      obtain ⟨b, p, rfl, hp, hb⟩ := ht.at i hx
      have hi2 := (List.getElem?_eq_some_iff.mp hx).1
      have hb2 := s1 _ _ hb
      have et : ts.take (i + 1) = ts.take i ++ [p] := by rw [List.take_succ, hp]; rfl
      have al : acc.length ≤ i := by
        rw [ht2.length, mirT, List.length_map, List.length_take]; omega
      walk_at "go"
      refine ⟨rfl, ?_⟩
      walk_at "go"
      intro t nt
      refine u_push (h_keep hacc nt) (by omega) ⟨⟨?_, hi2⟩, Same.put (Same.new s1 nt) hD⟩
      have t1 : Tk H2 (upd (upd H2 t (.tup [.int (-p.1), .int p.2])) D (.lst (acc ++ [.ref t]))) := ((Tk.refl _).new nt).lst (h_keep hacc nt)
      rw [et, mirT, List.map_append]
      exact (ht2.tk t1).app (.one ((upd_ne (ne_of_none hacc nt).symm).trans upd_same))
    · rintro D acc H2 hD hacc ⟨⟨ht2, hi0⟩, s1⟩
      rw [List.take_of_length_le (by omega)] at ht2
      walk_at "go"
      refine u_poly (l := D) (ts := mirT ts) ⟨acc, hacc, ht2⟩ (by rw [mirT, List.length_map]; exact hn) fun b us H3 nb s3 hb hcu hl => ?_
      exact k b us H3 (s1.trans s3) hb (fun j => (hcu j).trans (cof_mir ts j)) (by rw [mirT, List.length_map] at hl; exact hl)
end

set_option Elab.async false
set_option linter.all false
set_option maxRecDepth 100000
set_option maxHeartbeats 8000000
set_option pp.deepTerms false
set_option pp.deepTerms.threshold 12
set_option pp.maxSteps 1200

open PySem PySem.Spec PyProof.Rows L2
def spTurnSum : Sp := fun vs H Q _ => ∃ (a : Addr) (xs : List V) (ks : List Int), vs = [.ref a] ∧ H a = some (.tup xs) ∧ Each (TurnV H) xs ks ∧ xs.length ≤ 4000 ∧ ∀ H', Same H H' → Q (.int ks.sum) H'
def FacAt (H : Hp) (l : Addr) (fac : List (Int × Int)) : Prop := ∃ vs, H l = some (.lst vs) ∧ Each (fun v (f : Int × Int) => ∃ t, v = .ref t ∧ H t = some (.tup [.int f.1, .int f.2])) vs fac
def CoreAt (C : Addr) (H : Hp) (l : Addr) (core : Str → Int → Int) : Prop := ∃ pl, PlaceP C H l pl ∧ IsPlace pl core ∧ pl.length < 64 ∧ ∀ e ∈ pl, e.2.length ≤ 200
/-- what raw_chain gives -/
def ChV (C : Addr) (H : Hp) (d : Nat) (v : V) : Option Ch → Prop
  | none => v = .non
  | some c => ∃ t lf lc, v = .ref t ∧ H t = some (.tup [.int c.aim, .int c.shift, .ref lf, .ref lc]) ∧ FacAt H lf c.fac ∧ CoreAt C H lc c.core ∧ c.fac.length ≤ d
/-- the lists of what is told are new -/
def FrV (H H' : Hp) (v : V) : Prop := ∀ t a s lf lc, v = .ref t → H' t = some (.tup [a, s, .ref lf, .ref lc]) → H lf = none ∧ H lc = none ∧ lf ≠ lc
theorem FrV.non {H H' : Hp} : FrV H H' .non := fun t a s lf lc e => by cases e
theorem FrV.mk {H H' : Hp} {t lf lc : Addr} {a s : V} (e : H' t = some (.tup [a, s, .ref lf, .ref lc])) (h1 : H lf = none) (h2 : H lc = none) (h3 : lf ≠ lc) : FrV H H' (.ref t) := fun t' a' s' lf' lc' e' g => by
  cases e'
  rw [e] at g
  cases g
  exact ⟨h1, h2, h3⟩
def spChain (C : Addr) : Nat → Sp
  | 0 => fun _ _ _ _ => False
  | d + 1 => fun vs H Q _ => ∃ (a : Addr) (p : Prog), vs = [.ref a] ∧ PrIs H a p ∧ Wf BC BC d p ∧ 1 ≤ p.len ∧ p.len ≤ 4000 ∧ d ≤ 12 ∧ ∀ v H', Same H H' → ChV C H' d v p.chain → FrV H H' v → Q v H'
theorem EachC {α : Type} {R : V → α → Prop} {v : V} {x : α} {vs : List V} {xs : List α} (h : R v x) (hs : Each R vs xs) : Each R (v :: vs) (x :: xs) := by
  refine ⟨by rw [List.length_cons, List.length_cons, hs.1], fun i a b ha hb => ?_⟩
  cases i with
  | zero => cases ha; cases hb; exact h
  | succ i => exact hs.2 i a b ha hb
theorem FacAt.same {H H' : Hp} {l : Addr} {fac : List (Int × Int)} (h : FacAt H l fac) (s : Same H H') : FacAt H' l fac := let ⟨vs, e, k⟩ := h; ⟨vs, s _ _ e, k.imp fun v f _ ⟨t, e1, e2⟩ => ⟨t, e1, s _ _ e2⟩⟩
theorem CoreAt.same {C : Addr} {H H' : Hp} {l : Addr} {c : Str → Int → Int} (h : CoreAt C H l c) (s : Same H H') : CoreAt C H' l c := let ⟨pl, e, k⟩ := h; ⟨pl, e.same s, k⟩
def FacV (H : Hp) (v : V) (f : Int × Int) : Prop := ∃ t, v = .ref t ∧ H t = some (.tup [.int f.1, .int f.2])
theorem FacV.tk {H H' : Hp} {v : V} {f : Int × Int} (h : FacV H v f) (t : Tk H H') : FacV H' v f := let ⟨b, e1, e2⟩ := h; ⟨b, e1, t _ _ e2⟩
theorem PlC.stayC {C : Addr} {H H' : Hp} {v : V} {e : Str × Terms} (h : PlC C H v e) (s : Stay H H') : PlC C H' v e := let ⟨b, l, e1, e2, e3⟩ := h; ⟨b, l, e1, s.tk _ _ e2, e3.stay s⟩
def MirE (e e' : Str × Terms) : Prop := e'.1 = e.1 ∧ Canon e'.2 ∧ (∀ k, cof e'.2 k = cof e.2 (-k)) ∧ e'.2.length ≤ e.2.length
theorem IsPlace.mirE {pl pl' : Pl} {c : Str → Int → Int} (h : IsPlace pl c) (hl : pl'.length = pl.length) (hm : ∀ (j : Nat) e e', pl[j]? = some e → pl'[j]? = some e' → MirE e e') : IsPlace pl' fun n k => c n (-k) := by
  have names : pl'.map (·.1) = pl.map (·.1) := by
    refine List.ext_getElem? fun j => ?_
    rw [List.getElem?_map, List.getElem?_map]
    by_cases y : j < pl.length
    · have e1 := List.getElem?_eq_getElem y
      have e2 := List.getElem?_eq_getElem (show j < pl'.length by omega)
      rw [e1, e2]
      exact congrArg some (hm j _ _ e1 e2).1
    · rw [List.getElem?_eq_none (by omega), List.getElem?_eq_none (by omega)]
  have get : ∀ e' ∈ pl', ∃ e ∈ pl, MirE e e' := fun e' he => by
    obtain ⟨j, hj⟩ := List.mem_iff_getElem?.mp he
    have y : j < pl.length := by
      refine Decidable.byContradiction fun z => ?_
      rw [List.getElem?_eq_none (by omega)] at hj
      cases hj
    exact ⟨pl[j], List.getElem_mem y, hm j _ _ (List.getElem?_eq_getElem y) hj⟩
  refine ⟨fun e' he => ?_, fun e' he => ?_, ?_, fun n hn k => ?_⟩
  · obtain ⟨e, hm1, m1, m2, m3, _⟩ := get e' he
    obtain ⟨c1, c2, c3⟩ := h.canon e hm1
    refine ⟨m2, fun z => c2 (c1.ext (m := []) Canon.nil fun k => ?_), fun k => by rw [m3, c3, m1]⟩
    have := m3 (-k)
    rw [z, Int.neg_neg] at this
    exact this.symm
  · obtain ⟨e, hm1, m1, _⟩ := get e' he
    rw [m1]
    exact h.names e hm1
  · have h1 : (pl.map (·.1)).Pairwise fun a b => ncode a < ncode b := List.pairwise_map.mpr h.asc
    rw [← names] at h1
    exact (List.pairwise_map (R := fun a b => ncode a < ncode b)).mp h1
  · exact h.rest n (by rw [← names]; exact hn) _
theorem r_notInT {K : PySem.W.Frag} {H : Hp} {Q : VK} {l : Addr} {w : Str} {zs : List Str} (h : H l = some (.tup (zs.map V.str))) (q : Q (.bl (!inV (.str w) (zs.map V.str))) H) : rIn K true (.str w) (.ref l) H Q :=
  ⟨l, _, rfl, .inr (.of h), rfl, by rw [List.all_eq_true]; intro x hx; obtain ⟨_, _, rfl⟩ := List.mem_map.mp hx; rfl, q⟩
section
variable {P : Program} {w : World} {K : PySem.W.Frag} {mg : Str → Option Value} {base : Heap} {C : Addr}

local macro_rules | `(tactic| walk_at "s") => `(tactic| (first
  | (with_reducible refine r_dnew ?_)
  | (with_reducible refine r_dget2 ?_)
  | (with_reducible refine r_dget ?_)
  | (with_reducible refine r_dput ?_)
  | (with_reducible refine r_dsetd ?_)
  | ((with_reducible refine JarAt.isD (n := ?nn) (c := ?cc) ?hh ?_); (case hh => assumption))
  ))

local macro_rules | `(tactic| walk_at "s") => `(tactic| (first
  | (with_reducible refine r_iEnumT ?_)
  | (with_reducible refine r_meth ?_)
  | ((with_reducible refine r_isNR ?_))
  | ((with_reducible refine r_isNN ?_))
  ))
theorem ok_turn_sum {f : Addr} {fd : FuncData} (F : Fun K "turn_sum" "turn_sum" s_turn_sum f fd) (bSum : mg "sum" = none) : FnOk P w K mg base CX0 1 f fd ["commands"] spTurnSum := by
  refine F.ok sc_turn_sum (fun vs H Q E h => ?_) (fun cdv A outer s H vs Q E hr h => ?_)
  · obtain ⟨a, xs, ks, rfl, _⟩ := h
    rfl
  · obtain ⟨a, xs, ks, rfl, ha, he, hl, k⟩ := h
    refine ⟨_, (pss_one (ps_ret (pe_callB (call_sumK (K := K)) (by rfl) bSum (by decide +kernel) (pa_cons (pe_lc (own := [("command", 1)]) rfl sc_turn_sum.nd (pi_tup (pv 0)) (blkOk_by (N := ["commands", "command"]) (sc := defScope s_turn_sum) (by decide +kernel)) (fun _ _ _ _ _ => (pg_name (i := 1) sc_turn_sum.nd rfl (.inl rfl))) (fun _ _ _ _ _ => pts_nil) (fun _ _ _ _ _ => (pe_ix (ix_tupK (K := K)) (pv 1) pe_int (fun _ _ => rfl)))) pa_nil)))), ?_⟩
    walk_at "go"
    refine u_lcT (SqT.of ha) (fun D i acc H' => acc = (ks.take i).map V.int ∧ Same H H') ?_ ?_ ?_ ?_
    · exact fun D hD => ⟨rfl, Same.new0 hD⟩
    · rintro D i acc H' hD hacc ⟨_, s1⟩
      exact SqT.of (s1 _ _ ha)
    · rintro D i x acc H' hD hx hacc ⟨rfl, s1⟩
      have hi : i < xs.length := by
        refine Decidable.byContradiction fun z => ?_
        rw [List.getElem?_eq_none (by omega)] at hx
        cases hx
      obtain ⟨k', hk⟩ : ∃ k', ks[i]? = some k' := ⟨ks[i]'(by rw [← he.1]; exact hi), List.getElem?_eq_getElem _⟩
      obtain ⟨t, rfl, ht⟩ := he.2 i x k' hx hk
      have ht' := s1 _ _ ht
      walk_at "go"
      refine ⟨rfl, ?_⟩
      walk_at "go"
      refine u_push hacc (by rw [List.length_map, List.length_take]; omega) ⟨?_, Same.put s1 hD⟩
      rw [List.take_add_one, hk, List.map_append]
      rfl
    · rintro D acc H' hD hacc ⟨rfl, s1⟩
      walk_at "go"
      rw [he.1, List.take_length] at hacc
      refine r_sum (.of hacc) ?_
      walk_at "go"
      exact k _ s1
theorem ok_raw_chain {f : Addr} {fd : FuncData} (d : Nat) (F : Fun K "raw_chain" "raw_chain" s_raw_chain f fd) (bLen : mg "len" = none) (bEnum : mg "enumerate" = none) (G_Poly : PolyT K mg C) (h_raw_is_short : Has P w K mg base "raw_is_short" 14 ["program"] spShort) (h_raw_effect : Has P w K mg base "raw_effect" 15 ["program"] (spRawEffect C)) (h_raw_heading : Has P w K mg base "raw_heading" 13 ["program"] (spNumLt Prog.head 13))
   (h_turn_sum : Has P w K mg base "turn_sum" 1 ["commands"] spTurnSum) (hm_Poly_mirrored : HasM P w K mg base C "mirrored" 5 ["self"] (spPoly1 C fun ts k => cof ts (-k))) (h_raw_chain : Has P w K mg base "raw_chain" (d + 15) ["program"] (spChain C d)) : FnOk P w K mg base CX0 (d + 16) f fd ["program"] (spChain C (d + 1)) := by
  refine F.ok sc_raw_chain (fun vs H Q E h => ?_) (fun cdv A outer s H vs Q E hr h => ?_)
  · obtain ⟨a, p, rfl, _⟩ := h
    rfl
  · obtain ⟨a, p, rfl, ⟨xs, hx, hp⟩, hw, l0, l1, d12, k⟩ := h
    refine ⟨_, (pss_cons (ps_if (pt_val (pe_callH h_raw_is_short (hr.mono (by first | decide | omega)) (pa_cons (pv 0) pa_nil)))
    (pss_cons (ps_asg (pe_callH h_raw_effect (hr.mono (by first | decide | omega)) (pa_cons (pv 0) pa_nil)) (pg_tup (by rfl) (pgs_cons (pg_name (i := 1) sc_raw_chain.nd rfl (.inl rfl)) (pgs_cons (pg_name (i := 2) sc_raw_chain.nd rfl (.inl rfl)) pgs_nil))))
    (pss_one (ps_ret (pe_tup (pa_cons (pv 1) (pa_cons pe_int (pa_cons (pe_lst pa_nil) (pa_cons (pv 2) pa_nil))))))))
    pss_nil)
    (pss_cons (ps_setLc (i := 3) (g := (gTup K 2 (gCons (gName 9) (gCons (gName 4) gNil)))) (own := [("k", 9), ("command", 4)]) rfl sc_raw_chain.nd rfl rfl (sw_true rfl rfl rfl (by decide +kernel)) (pi_enumT (by rfl) bEnum (pa_cons (pv 0) pa_nil)) (blkOk_by (N := ["program", "aim", "place", "spots", "command", "inner", "shift", "factors", "core", "k", "number", "turn", "name", "poly"]) (sc := defScope s_raw_chain) (by decide +kernel)) (fun _ _ _ _ _ => (pg_tupK (K := K) rfl (pgs_cons (pg_name (i := 9) sc_raw_chain.nd rfl (.inl rfl)) (pgs_cons (pg_name (i := 4) sc_raw_chain.nd rfl (.inl rfl)) pgs_nil)))) (fun _ _ _ _ _ => pts_one (pt_cmpR op_ne (pe_ix (ix_tupK (K := K)) (pv 4) pe_int (fun _ _ => rfl)) pe_str (nomark _))) (fun _ _ _ _ _ => (pv 9)))
    (pss_cons (ps_if (PW.pt (pw_or (pt_cmpR op_ne (pe_callB (call_lenK (K := K)) (by rfl) bLen PySem.boot_len (pa_cons (pv 3) pa_nil)) pe_int (nomark _)) (pw_or1 (pt_cmpR (op_notIn_seqK (K := K)) (pe_ix (ix_tupK (K := K)) (pe_ix (ix_tupK (K := K)) (pv 0) (pe_ix (ix_listK (K := K)) (pv 3) pe_int (fun _ _ => rfl)) (fun _ _ => rfl)) pe_int (fun _ _ => rfl)) (pe_tup (pa_cons pe_str (pa_cons pe_str pa_nil))) (by rfl)))))
    (pss_one (ps_ret pe_non))
    pss_nil)
    (pss_cons (ps_set (i := 4) sc_raw_chain.nd rfl (.inl rfl) (pe_ix (ix_tupK (K := K)) (pv 0) (pe_ix (ix_listK (K := K)) (pv 3) pe_int (fun _ _ => rfl)) (fun _ _ => rfl)))
    (pss_cons (ps_set (i := 5) sc_raw_chain.nd rfl (.inl rfl) (pe_callH h_raw_chain (hr.mono (by first | decide | omega)) (pa_cons (pe_ix (ix_tupK (K := K)) (pv 4) (pe_un un_neg pe_int) (fun _ _ => rfl)) pa_nil)))
    (pss_cons (ps_if (pt_cmpR op_isNN (pv 5) pe_non (nomark _))
    (pss_one (ps_ret pe_non))
    pss_nil)
    (pss_cutM (ps_asg (pv 5) (pg_tup (by rfl) (pgs_cons (pg_name (i := 1) sc_raw_chain.nd rfl (.inl rfl)) (pgs_cons (pg_name (i := 6) sc_raw_chain.nd rfl (.inl rfl)) (pgs_cons (pg_name (i := 7) sc_raw_chain.nd rfl (.inl rfl)) (pgs_cons (pg_name (i := 8) sc_raw_chain.nd rfl (.inl rfl)) pgs_nil))))))
    (pss_cons (ps_if (pt_cmpR op_eq (pe_ix (ix_tupK (K := K)) (pv 4) pe_int (fun _ _ => rfl)) pe_str (nomark _))
    (pss_cons (ps_set (i := 6) sc_raw_chain.nd rfl (.inl rfl) (pe_un un_neg (pv 6)))
    (pss_cons (ps_setLc (i := 7) (g := (gTup K 2 (gCons (gName 10) (gCons (gName 11) gNil)))) (own := [("number", 10), ("turn", 11)]) rfl sc_raw_chain.nd rfl rfl (sw_true rfl rfl rfl (by decide +kernel)) (pi_list (pv 7)) (blkOk_by (N := ["program", "aim", "place", "spots", "command", "inner", "shift", "factors", "core", "k", "number", "turn", "name", "poly"]) (sc := defScope s_raw_chain) (by decide +kernel)) (fun _ _ _ _ _ => (pg_tupK (K := K) rfl (pgs_cons (pg_name (i := 10) sc_raw_chain.nd rfl (.inl rfl)) (pgs_cons (pg_name (i := 11) sc_raw_chain.nd rfl (.inl rfl)) pgs_nil)))) (fun _ _ _ _ _ => pts_nil) (fun _ _ _ _ _ => (pe_tup (pa_cons (pv 10) (pa_cons (pe_un un_neg (pv 11)) pa_nil)))))
    (pss_one (ps_setLc (i := 8) (g := (gTup K 2 (gCons (gName 12) (gCons (gName 13) gNil)))) (own := [("name", 12), ("poly", 13)]) rfl sc_raw_chain.nd rfl rfl (sw_true rfl rfl rfl (by decide +kernel)) (pi_list (pv 8)) (blkOk_by (N := ["program", "aim", "place", "spots", "command", "inner", "shift", "factors", "core", "k", "number", "turn", "name", "poly"]) (sc := defScope s_raw_chain) (by decide +kernel)) (fun _ _ _ _ _ => (pg_tupK (K := K) rfl (pgs_cons (pg_name (i := 12) sc_raw_chain.nd rfl (.inl rfl)) (pgs_cons (pg_name (i := 13) sc_raw_chain.nd rfl (.inl rfl)) pgs_nil)))) (fun _ _ _ _ _ => pts_nil) (fun _ _ _ _ _ => (pe_tup (pa_cons (pv 12) (pa_cons (pe_meth0H G_Poly.cl hm_Poly_mirrored (hr.mono (by first | decide | omega)) (pv 13)) pa_nil))))))))
    (pss_one (ps_set (i := 7) sc_raw_chain.nd rfl (.inl rfl) (pe_op op_cat (pv 7) (pe_lst (pa_cons (pe_tup (pa_cons (pe_ix (ix_tupK (K := K)) (pv 4) pe_int (fun _ _ => rfl)) (pa_cons (pv 1) pa_nil))) pa_nil))))))
    (pss_one (ps_ret (pe_tup (pa_cons (pe_callH h_raw_heading (hr.mono (by first | decide | omega)) (pa_cons (pv 0) pa_nil)) (pa_cons (pe_op op_add (pv 6) (pe_callH h_turn_sum (hr.mono (by first | decide | omega)) (pa_cons (pe_slice sl_tupA (pv 0) po_none (po_some (pe_ix (ix_listK (K := K)) (pv 3) pe_int (fun _ _ => rfl)))) pa_nil))) (pa_cons (pv 7) (pa_cons (pv 8) pa_nil))))))))))))))), ?_⟩
    walk_at "go"
    have hq : PrIs H a p := ⟨xs, hx, hp⟩
    have hw12 : Wf BC BC 12 p := WfL.mono (Int.le_refl _) (Int.le_refl _) d12 hw
    refine ⟨a, p, rfl, hq, hw12, l1, fun H1 s1 => ?_⟩
    walk_at "go"
    cases hsh : p.short with
    | true =>
      have hsz : p.size ≤ 200 := by
        unfold Prog.short at hsh
        split at hsh
        · cases hsh
        · omega
      walk_at "go"
      refine ⟨a, p, rfl, hq.tk (Tk.same s1), hw12, by omega, fun r l pl H2 s2 nl hr hpl ip hlen plen => ?_⟩
      walk_at "go"
      intro l2 nl2
      walk_at "go"
      intro t nt
      have sT : Same H2 (upd (upd H2 l2 (.lst [])) t (.tup [.int p.head, .int 0, .ref l2, .ref l])) := Same.new (Same.new0 nl2) nt
      refine k _ _ ((s1.trans s2).trans sT) ?_ (FrV.mk upd_same (free_same (s1.trans s2) nl2) (free_same s1 nl) (by obtain ⟨ws, ew, _⟩ := hpl; exact (ne_of_none ew nl2).symm))
      rw [Prog.chain_short hsh]
      exact ⟨t, l2, l, rfl, upd_same, ⟨[], h_keep upd_same nt, .nil⟩, ⟨pl, hpl.same sT, ip, plen, fun e he => by have := hlen e he; omega⟩, Nat.zero_le _⟩
    | false =>
      walk_at "go"
      refine u_lcE (SqT.of (s1 _ _ hx)) (fun D i acc H' => ∃ (r : Prog) (dn : List Nat), PrAt H' r (xs.drop i) ∧ acc = vints dn ∧ p.spots 0 = dn ++ r.spots i ∧ Wf BC BC d r ∧ Same H1 H') ?_ ?_ ?_ ?_
      · exact fun D hD => ⟨p, [], hp.tk (Tk.same (s1.trans (Same.new0 hD))), rfl, rfl, hw, Same.new0 hD⟩
      · rintro D i acc H' hD hacc ⟨r, dn, _, _, _, _, sm⟩
        exact SqT.of (sm _ _ (s1 _ _ hx))
      · rintro D i x T acc H' hD hxi hacc ⟨r, dn, hr, rfl, es, wr, sm⟩ nT
        have ed : xs.drop i = x :: xs.drop (i + 1) := by
          obtain ⟨hlt, e⟩ := List.getElem?_eq_some_iff.mp hxi
          rw [List.drop_eq_getElem_cons hlt, e]
        rw [ed] at hr
        have sT := Same.new0 (o := .tup [.int (i : Nat), x]) nT
        have hT : (upd H' T (.tup [.int (i : Nat), x])) T = some (.tup [.int (i : Nat), x]) := upd_same
        have hac := sT _ _ hacc
        have dl : (vints dn).length < 100000 := by
          rw [vints_len]
          have h1 := Prog.spots_len p 0
          rw [es, List.length_append] at h1
          omega
        cases r with
        | nil => cases hr
        | turn kk r =>
          obtain ⟨c, ys, e, h1, h2⟩ := hr
          obtain ⟨rfl, rfl⟩ := List.cons.inj e
          have h1' := sT _ _ h1
          walk_at "go"
          refine ⟨rfl, ?_⟩
          walk_at "go"
          refine u_skip hac ⟨r, dn, h2.tk (Tk.same sT), rfl, es, (WfL.turn_iff.mp wr).2, sm.trans sT⟩
        | step w' n r =>
          obtain ⟨c, ys, e, h1, h2⟩ := hr
          obtain ⟨rfl, rfl⟩ := List.cons.inj e
          obtain ⟨n1, n2, n3⟩ := word_ne (WfL.step_iff.mp wr).1
          have h1' := sT _ _ h1
          walk_at "go"
          refine ⟨rfl, ?_⟩
          walk_at "go"
          refine u_push hac dl ⟨r, dn ++ [i], h2.tk ((Tk.same sT).lst hac), by rw [vints_app]; rfl, by rw [es, Prog.spots, List.append_assoc]; rfl, (WfL.step_iff.mp wr).2.2, Same.put (sm.trans sT) hD⟩
        | rep k' b r =>
          obtain ⟨c, q, zs, ys, e, h1, h2, h3, h4⟩ := hr
          obtain ⟨rfl, rfl⟩ := List.cons.inj e
          have h1' := sT _ _ h1
          have wr' : Wf BC BC d r := by
            cases d with
            | zero => exact wr.elim
            | succ d => obtain ⟨_, _, _, w4⟩ := id wr; exact w4
          walk_at "go"
          refine ⟨rfl, ?_⟩
          walk_at "go"
          refine u_push hac dl ⟨r, dn ++ [i], h4.tk ((Tk.same sT).lst hac), by rw [vints_app]; rfl, by rw [es, Prog.spots, List.append_assoc]; rfl, wr', Same.put (sm.trans sT) hD⟩
        | mir b r =>
          obtain ⟨c, q, zs, ys, e, h1, h2, h3, h4⟩ := hr
          obtain ⟨rfl, rfl⟩ := List.cons.inj e
          have h1' := sT _ _ h1
          have wr' : Wf BC BC d r := by
            cases d with
            | zero => exact wr.elim
            | succ d => obtain ⟨_, _, w4⟩ := id wr; exact w4
          walk_at "go"
          refine ⟨rfl, ?_⟩
          walk_at "go"
          refine u_push hac dl ⟨r, dn ++ [i], h4.tk ((Tk.same sT).lst hac), by rw [vints_app]; rfl, by rw [es, Prog.spots, List.append_assoc]; rfl, wr', Same.put (sm.trans sT) hD⟩
      · rintro D acc H2 hD hacc ⟨r, dn, hr, rfl, es, wr, sm⟩
        rw [List.drop_length] at hr
        obtain rfl : r = .nil := by cases r <;> first | rfl | (obtain ⟨_, _, z, _⟩ := hr; exact nomatch z) | (obtain ⟨_, _, _, _, z, _⟩ := hr; exact nomatch z)
        rw [Prog.spots, List.append_nil] at es
        have s2 := s1.trans sm
        walk_at "go"
        by_cases hl : dn.length = 1
        · obtain ⟨n, rfl⟩ := List.length_eq_one_iff.mp hl
          obtain ⟨pre, post, ks, x, rfl, en, hks, one⟩ := spots_one (hp.tk (Tk.same s2)) hw es
          have hx2 := s2 _ _ hx
          have hat : atI (pre ++ x :: post) (n : Int) = some x := atI_nil_of (i := pre.length) (by omega) (by rw [List.getElem?_append_right (Nat.le_refl _), Nat.sub_self]; rfl)
          have pl : (pre ++ x :: post).length ≤ 4000 := by rw [hp.length]; exact l1
          rw [List.length_append] at pl
          rw [show (!decide (((vints [n]).length : Int) = 1)) = false by simp [vints_len]]
          walk_at "go"
          refine r_ixT (SqT.of hx2) hat ?_
          rcases one with ⟨wd, nm, tc, rfl, htc, iw, esp⟩ | ⟨kk, b, tc, qb, d', rfl, htc, hb, rfl, wb, b0, b1, esp⟩ | ⟨b, tc, qb, d', rfl, htc, hb, rfl, wb, b0, b1, esp⟩
          · walk_at "go"
            intro tt ntt
            refine r_notInT (zs := ["repeat", "mirror"]) upd_same ?_
            rw [show inV (.str wd) ((["repeat", "mirror"] : List Str).map V.str) = false by rcases iw with rfl | rfl | rfl | rfl <;> decide +kernel]
            walk_at "go"
            refine k _ _ (s2.trans (Same.new0 ntt)) ?_ FrV.non
            rw [Prog.chain_none hsh esp]
            rfl
          · walk_at "go"
            intro tt ntt
            refine r_notInT (zs := ["repeat", "mirror"]) upd_same ?_
            rw [show inV (.str "repeat") ((["repeat", "mirror"] : List Str).map V.str) = true by decide +kernel]
            have sA := Same.new0 (o := .tup ((["repeat", "mirror"] : List Str).map V.str)) ntt
            have s3 := s2.trans sA
            have hD3 := sA _ _ hacc
            have htc3 := sA _ _ htc
            have hx3 := sA _ _ hx2
            have hb3 := hb.tk (Tk.same sA)
            walk_at "go"
            refine r_ixT (SqT.of hx3) hat ?_
            walk_at "go"
            refine ⟨qb, b, rfl, hb3, wb, b0, b1, by omega, fun v H4 s4 hv fr4 => ?_⟩
            have s5 := s3.trans s4
            have hD4 := s4 _ _ hD3
            have htc4 := s4 _ _ htc3
            have hx4 := s4 _ _ hx3
            have hq4 := hq.tk (Tk.same s5)
            cases hc : b.chain with
            | none =>
              rw [hc] at hv
              obtain rfl : v = .non := hv
              walk_at "go"
              refine k _ _ s5 ?_ FrV.non
              rw [Prog.chain_dead hsh (by rw [esp, hc])]
              rfl
            | some c =>
              rw [hc] at hv
              obtain ⟨tv, lf, lc, rfl, htv, ⟨fvs, hf, ef⟩, hcore, fl⟩ := hv
              walk_at "go"
              refine r_cut (fun σ' H' => σ' = [some (.ref a), some (.int c.aim), none, some (.ref D), some (.ref tc), some (.ref tv), some (.int c.shift), some (.ref lf), some (.ref lc), none, none, none, none, none] ∧ H4 = H') ?_ ?_
              · walk_at "go"
                exact ⟨rfl, rfl⟩
              rintro σ' H' ⟨rfl, rfl⟩
              try dsimp only
              walk_at "go"
              intro f1 nf1
              walk_at "go"
              intro l5 nl5
              have fvl : fvs.length ≤ 12 := by rw [ef.1]; omega
              refine r_cat (h_keep (h_keep hf nf1) nl5) upd_same (by simp; omega) fun l6 nl6 => ?_
              have sB : Same H4 (upd (upd (upd H4 f1 (.tup [.int kk, .int c.aim])) l5 (.lst [.ref f1])) l6 (.lst (fvs ++ [.ref f1]))) := Same.new (Same.new (Same.new0 nf1) nl5) nl6
              have hf1 : (upd (upd (upd H4 f1 (.tup [.int kk, .int c.aim])) l5 (.lst [.ref f1])) l6 (.lst (fvs ++ [.ref f1]))) f1 = some (.tup [.int kk, .int c.aim]) := h_keep (h_keep upd_same nl5) nl6
              have hl6 : (upd (upd (upd H4 f1 (.tup [.int kk, .int c.aim])) l5 (.lst [.ref f1])) l6 (.lst (fvs ++ [.ref f1]))) l6 = some (.lst (fvs ++ [.ref f1])) := upd_same
              have ne6 : l6 ≠ lc := by obtain ⟨pl, ⟨ws, ew, _⟩, _⟩ := hcore; exact (ne_of_none ((Same.new (Same.new0 nf1 (o := .tup [.int kk, .int c.aim])) nl5 (o := .lst [.ref f1])) _ _ ew) nl6).symm
              have free6 : H l6 = none := free_same s5 (free_same (Same.new (Same.new0 nf1) nl5) nl6)
              generalize upd (upd (upd H4 f1 _) l5 _) l6 _ = H5 at *
              have fac5 : FacAt H5 l6 (c.fac ++ [(kk, c.aim)]) := ⟨_, hl6, Each.app (ef.imp fun v f _ ⟨t, e1, e2⟩ => ⟨t, e1, sB _ _ e2⟩) (EachC ⟨f1, rfl, hf1⟩ .nil)⟩
              have hx5 := sB _ _ hx4
              have hq5 := hq4.tk (Tk.same sB)
              have core5 := hcore.same sB
              clear hl6 hf1 hf ef
              walk_at "go"
              refine ⟨a, p, rfl, hq5, hw12, l1, by decide, ?_⟩
              walk_at "go"
              refine r_slAT hx5 (n := n) rfl fun sl H6 s6 hsl => ?_
              rw [show (pre ++ .ref tc :: post).take n = pre by rw [en]; simp] at hsl
              walk_at "go"
              refine ⟨sl, pre, ks, rfl, hsl, hks.imp fun v f _ ⟨t, e1, e2⟩ => ⟨t, e1, s6 _ _ (sB _ _ (s4 _ _ (sA _ _ e2)))⟩, by omega, fun H7 s7 => ?_⟩
              walk_at "go"
              intro tr ntr
              have s8 := (s6.trans s7).trans (Same.new0 (o := .tup [.int p.head, .int (c.shift + ks.sum), .ref l6, .ref lc]) ntr)
              refine k _ _ ((s5.trans sB).trans s8) ?_ (FrV.mk upd_same free6 (free_same s3 (fr4 _ _ _ _ _ rfl htv).2.1) ne6)
              rw [Prog.chain_rep hsh (by rw [esp, hc])]
              refine ⟨tr, l6, lc, rfl, upd_same, fac5.same s8, core5.same s8, ?_⟩
              show (c.fac ++ [(kk, c.aim)]).length ≤ d' + 1
              rw [List.length_append]
              simp
              omega
          · walk_at "go"
            intro tt ntt
            refine r_notInT (zs := ["repeat", "mirror"]) upd_same ?_
            rw [show inV (.str "mirror") ((["repeat", "mirror"] : List Str).map V.str) = true by decide +kernel]
            have sA := Same.new0 (o := .tup ((["repeat", "mirror"] : List Str).map V.str)) ntt
            have s3 := s2.trans sA
            have hD3 := sA _ _ hacc
            have htc3 := sA _ _ htc
            have hx3 := sA _ _ hx2
            have hb3 := hb.tk (Tk.same sA)
            walk_at "go"
            refine r_ixT (SqT.of hx3) hat ?_
            walk_at "go"
            refine ⟨qb, b, rfl, hb3, wb, b0, b1, by omega, fun v H4 s4 hv fr4 => ?_⟩
            have s5 := s3.trans s4
            have hD4 := s4 _ _ hD3
            have htc4 := s4 _ _ htc3
            have hx4 := s4 _ _ hx3
            have hq4 := hq.tk (Tk.same s5)
            cases hc : b.chain with
            | none =>
              rw [hc] at hv
              obtain rfl : v = .non := hv
              walk_at "go"
              refine k _ _ s5 ?_ FrV.non
              rw [Prog.chain_dead hsh (by rw [esp, hc])]
              rfl
            | some c =>
              rw [hc] at hv
              obtain ⟨tv, lf, lc, rfl, htv, ⟨fvs, hf, ef⟩, ⟨pl', ⟨cvs, hcv, ec⟩, ipl, pll, ple⟩, fl⟩ := hv
              walk_at "go"
              refine r_cut (fun σ' H' => σ' = [some (.ref a), some (.int c.aim), none, some (.ref D), some (.ref tc), some (.ref tv), some (.int c.shift), some (.ref lf), some (.ref lc), none, none, none, none, none] ∧ H4 = H') ?_ ?_
              · walk_at "go"
                exact ⟨rfl, rfl⟩
              rintro σ' H' ⟨rfl, rfl⟩
              try dsimp only
              walk_at "go"
              refine u_lcL (SqL.of hf) (fun D i acc H' => Each (FacV H') acc ((c.fac.take i).map fun f => (f.1, -f.2)) ∧ Same H4 H') ?_ ?_ ?_ ?_
              · exact fun D hD => ⟨.nil, Same.new0 hD⟩
              · rintro D i acc H' hD hacc' ⟨_, sm⟩
                exact SqL.of (sm _ _ hf)
              · rintro D i x acc H' hD hxi hacc' ⟨he, sm⟩
                have hi : i < c.fac.length := by
                  rw [← ef.1]
                  refine Decidable.byContradiction fun z => ?_
                  rw [List.getElem?_eq_none (by omega)] at hxi
                  cases hxi
                have hfi := List.getElem?_eq_getElem hi
                obtain ⟨t, rfl, ht⟩ := ef.2 i x _ hxi hfi
                have ht' := sm _ _ ht
                have al : acc.length ≤ 12 := by
                  rw [he.1, List.length_map, List.length_take]
                  omega
                walk_at "go"
                refine ⟨rfl, ?_⟩
                walk_at "go"
                intro t2 nt2
                have hac2 : (upd H' t2 (.tup [.int c.fac[i].1, .int (-c.fac[i].2)])) D = some (.lst acc) := h_keep hacc' nt2
                have ht2 : (upd H' t2 (.tup [.int c.fac[i].1, .int (-c.fac[i].2)])) t2 = some (.tup [.int c.fac[i].1, .int (-c.fac[i].2)]) := upd_same
                refine u_push hac2 (by omega) ⟨?_, Same.put (sm.trans (Same.new0 nt2)) hD⟩
                rw [List.take_add_one, hfi, List.map_append]
                exact Each.app (he.imp fun v f _ r => r.tk ((Tk.same (Same.new0 nt2)).lst hac2)) (EachC ⟨t2, rfl, (upd_ne (ne_of ht2 hac2 (by intro z; cases z))).trans ht2⟩ .nil)
              · rintro D2 acc H5 hD2 hacc5 ⟨he5, sm5⟩
                rw [ef.1, List.take_length] at he5
                have fac5 : FacAt H5 D2 (c.fac.map fun f => (f.1, -f.2)) := ⟨acc, hacc5, he5⟩
                have hcv5 := sm5 _ _ hcv
                have ec5 := ec.imp fun v e _ r => r.stayC (Stay.same sm5)
                have hx5 := sm5 _ _ hx4
                have hq5 := hq4.tk (Tk.same sm5)
                clear hacc5 he5
                walk_at "go"
                refine u_lcL (SqL.of hcv5) (fun D i acc H' => ∃ ql : Pl, ql.length = i ∧ i ≤ pl'.length ∧ (∀ (j : Nat) e e', pl'[j]? = some e → ql[j]? = some e' → MirE e e') ∧ Each (PlC C H') acc ql ∧ Same H5 H') ?_ ?_ ?_ ?_
                · exact fun D hD => ⟨[], rfl, Nat.zero_le _, fun j e e' _ z => by simp at z, .nil, Same.new0 hD⟩
                · rintro D i acc H' hD hacc' ⟨ql, _, _, _, _, sm⟩
                  exact SqL.of (sm _ _ hcv5)
                · rintro D i x acc H' hD hxi hacc' ⟨ql, qln, qi, qm, qe, sm⟩
                  have hi : i < pl'.length := by
                    rw [← ec.1]
                    refine Decidable.byContradiction fun z => ?_
                    rw [List.getElem?_eq_none (by omega)] at hxi
                    cases hxi
                  have hpi := List.getElem?_eq_getElem hi
                  obtain ⟨bb, l, rfl, hbb, hpo⟩ := (ec5.2 i x _ hxi hpi).stayC (Stay.same sm)
                  have al : acc.length ≤ 64 := by rw [qe.1, qln]; omega
                  have len1 := ple _ (List.getElem_mem hi)
                  walk_at "go"
                  refine ⟨rfl, ?_⟩
                  walk_at "go"
                  refine u_meth0 hpo (by decide +kernel) (u_poly1 hpo (by omega) fun b2 us H2 s2' hb2 hcof hle => ?_)
                  have hac2 := s2' _ _ hacc'
                  walk_at "go"
                  intro t2 nt2
                  have sN := Same.new0 (o := .tup [.str pl'[i].1, .ref b2]) nt2
                  have hac3 := sN _ _ hac2
                  have ht2 : (upd H2 t2 (.tup [.str pl'[i].1, .ref b2])) t2 = some (.tup [.str pl'[i].1, .ref b2]) := upd_same
                  refine u_push hac3 (by omega) ⟨ql ++ [(pl'[i].1, us)], by rw [List.length_append, qln]; rfl, hi, fun j e e' h1 h2 => ?_, ?_, Same.put ((sm.trans s2').trans sN) hD⟩
                  · by_cases y : j < ql.length
                    · rw [List.getElem?_append_left y] at h2
                      exact qm j e e' h1 h2
                    · rw [List.getElem?_append_right (by omega)] at h2
                      have : j = i := by
                        refine Decidable.byContradiction fun z => ?_
                        rw [List.getElem?_eq_none (by simp; omega)] at h2
                        cases h2
                      subst this
                      rw [hpi] at h1
                      obtain rfl := Option.some.inj h1
                      rw [qln, Nat.sub_self] at h2
                      obtain rfl := Option.some.inj h2
                      obtain ⟨_, _, _, _, _, _, cn⟩ := id hb2
                      exact ⟨rfl, cn, hcof, hle⟩
                  · refine Each.app (qe.imp fun v f _ r => r.stayC (((Stay.same s2').trans (Stay.same sN)).lst hac3)) (EachC ⟨t2, b2, rfl, (upd_ne (ne_of ht2 hac3 (by intro z; cases z))).trans ht2, hb2.stay ((Stay.same sN).lst hac3)⟩ .nil)
                · rintro D3 acc H6 hD3 hacc6 ⟨ql, qln, qi, qm, qe, sm6⟩
                  have ne23 : D2 ≠ D3 := by obtain ⟨ws, ew, _⟩ := fac5; exact ne_of_none ew hD3
                  rw [ec.1] at qln
                  have core6 : CoreAt C H6 D3 (fun n k => c.core n (-k)) := ⟨ql, ⟨acc, hacc6, qe⟩, ipl.mirE qln qm, by omega, fun e he => by
                    obtain ⟨j, hj⟩ := List.mem_iff_getElem?.mp he
                    have y : j < pl'.length := by
                      refine Decidable.byContradiction fun z => ?_
                      rw [List.getElem?_eq_none (by omega)] at hj
                      cases hj
                    have := ple _ (List.getElem_mem y)
                    have := (qm j _ _ (List.getElem?_eq_getElem y) hj).2.2.2
                    omega⟩
                  have fac6 := fac5.same sm6
                  have hx6 := sm6 _ _ hx5
                  have hq6 := hq5.tk (Tk.same sm6)
                  clear hacc6 qe
                  walk_at "go"
                  refine ⟨a, p, rfl, hq6, hw12, l1, by decide, ?_⟩
                  walk_at "go"
                  refine r_slAT hx6 (n := n) rfl fun sl H7 s7 hsl => ?_
                  rw [show (pre ++ .ref tc :: post).take n = pre by rw [en]; simp] at hsl
                  walk_at "go"
                  refine ⟨sl, pre, ks, rfl, hsl, hks.imp fun v f _ ⟨t, e1, e2⟩ => ⟨t, e1, s7 _ _ (sm6 _ _ (sm5 _ _ (s4 _ _ (sA _ _ e2))))⟩, by omega, fun H8 s8 => ?_⟩
                  walk_at "go"
                  intro tr ntr
                  have s9 := (s7.trans s8).trans (Same.new0 (o := .tup [.int p.head, .int (-c.shift + ks.sum), .ref D2, .ref D3]) ntr)
                  refine k _ _ ((s5.trans (sm5.trans sm6)).trans s9) ?_ (FrV.mk upd_same (free_same s5 hD2) (free_same (s5.trans sm5) hD3) ne23)
                  rw [Prog.chain_mir hsh (by rw [esp, hc])]
                  refine ⟨tr, D2, D3, rfl, upd_same, fac6.same s9, core6.same s9, ?_⟩
                  show (c.fac.map fun f => (f.1, -f.2)).length ≤ d' + 1
                  rw [List.length_map]
                  omega
        · rw [show (!decide (((vints dn).length : Int) = 1)) = true by rw [vints_len]; simp; omega]
          walk_at "go"
          refine k _ _ s2 ?_ FrV.non
          rw [Prog.chain_none hsh (Prog.sp_none p 0 (by rw [es]; exact hl))]
          rfl
end

set_option Elab.async false
set_option linter.all false
set_option maxRecDepth 100000
set_option maxHeartbeats 8000000
set_option pp.deepTerms false
set_option pp.deepTerms.threshold 12
set_option pp.maxSteps 1200

open PySem PySem.Spec PyProof.Rows L2
theorem Each.terms {H : Hp} : ∀ {vs : List V} {fac : List (Int × Int)}, Each (FacV H) vs fac → TermsL H vs fac
  | [], [], _ => rfl
  | [], _ :: _, h => by cases h.1
  | _ :: _, [], h => by cases h.1
  | v :: vs, f :: fac, h => by
    obtain ⟨t, e1, e2⟩ := h.2 0 v f rfl rfl
    exact ⟨t, f, fac, rfl, e1, e2, Each.terms (vs := vs) (fac := fac) ⟨by have := h.1; simpa using this, fun i a b ha hb => h.2 (i + 1) a b (by simpa using ha) (by simpa using hb)⟩⟩
theorem FacAt.terms {H : Hp} {l : Addr} {fac : List (Int × Int)} (h : FacAt H l fac) : TermsAt H l fac := let ⟨vs, e, k⟩ := h; ⟨vs, e, Each.terms k⟩
/-- a chain that is one -/
def ChIs (C : Addr) (H : Hp) (t : Addr) (c : Ch) : Prop := ∃ lf lc, H t = some (.tup [.int c.aim, .int c.shift, .ref lf, .ref lc]) ∧ FacAt H lf c.fac ∧ CoreAt C H lc c.core ∧ c.fac.length ≤ 12
theorem ChIs.same {C : Addr} {H H' : Hp} {t : Addr} {c : Ch} (h : ChIs C H t c) (s : Same H H') : ChIs C H' t c := let ⟨lf, lc, e, f, g, l⟩ := h; ⟨lf, lc, s _ _ e, f.same s, g.same s, l⟩
def spChecked (C : Addr) : Sp := fun vs H Q _ => ∃ (a : Addr) (p : Prog) (c : Ch), vs = [.ref a] ∧ PrIs H a p ∧ Wf BC BC 12 p ∧ 1 ≤ p.len ∧ p.len ≤ 4000 ∧ p.chain = some c ∧ ∀ t H', Same H H' → ChIs C H' t c → FrV H H' (.ref t) → Q (.ref t) H'
section
variable {P : Program} {w : World} {K : PySem.W.Frag} {mg : Str → Option Value} {base : Heap} {C : Addr}

local macro_rules | `(tactic| walk_at "s") => `(tactic| (first
  | (with_reducible refine r_dnew ?_)
  | (with_reducible refine r_dget2 ?_)
  | (with_reducible refine r_dget ?_)
  | (with_reducible refine r_dput ?_)
  | (with_reducible refine r_dsetd ?_)
  | ((with_reducible refine JarAt.isD (n := ?nn) (c := ?cc) ?hh ?_); (case hh => assumption))
  ))

local macro_rules | `(tactic| walk_at "s") => `(tactic| (first
  | ((with_reducible refine r_isNR ?_))
  | ((with_reducible refine r_isNN ?_))
  ))
theorem has_raw_chain {f : Addr} {fd : FuncData} (F : Fun K "raw_chain" "raw_chain" s_raw_chain f fd) (bLen : mg "len" = none) (bEnum : mg "enumerate" = none) (G_Poly : PolyT K mg C) (h_raw_is_short : Has P w K mg base "raw_is_short" 14 ["program"] spShort) (h_raw_effect : Has P w K mg base "raw_effect" 15 ["program"] (spRawEffect C)) (h_raw_heading : Has P w K mg base "raw_heading" 13 ["program"] (spNumLt Prog.head 13))
   (h_turn_sum : Has P w K mg base "turn_sum" 1 ["commands"] spTurnSum) (hm_Poly_mirrored : HasM P w K mg base C "mirrored" 5 ["self"] (spPoly1 C fun ts k => cof ts (-k))) (g : mg "raw_chain" = some (.ref f)) (b : Binds K fd ["program"] []) : ∀ d, Has P w K mg base "raw_chain" (d + 15) ["program"] (spChain C d)
  | 0 => has_false g F.kp b
  | d + 1 => ⟨f, fd, ok_raw_chain d F bLen bEnum G_Poly h_raw_is_short h_raw_effect h_raw_heading h_turn_sum hm_Poly_mirrored (has_raw_chain F bLen bEnum G_Poly h_raw_is_short h_raw_effect h_raw_heading h_turn_sum hm_Poly_mirrored g b d), g, F.kp, b⟩
theorem ok_checked_chain {f : Addr} {fd : FuncData} (F : Fun K "checked_chain" "checked_chain" s_checked_chain f fd) (h_raw_chain : Has P w K mg base "raw_chain" 28 ["program"] (spChain C 13)) : FnOk P w K mg base CX0 29 f fd ["program"] (spChecked C) := by
  refine F.ok sc_checked_chain (fun vs H Q E h => ?_) (fun cdv A outer s H vs Q E hr h => ?_)
  · obtain ⟨a, p, c, rfl, _⟩ := h
    rfl
  · obtain ⟨a, p, c, rfl, hq, hw, l0, l1, hc, k⟩ := h
    refine ⟨_, (pss_cons (ps_set (i := 1) sc_checked_chain.nd rfl (.inl rfl) (pe_callH h_raw_chain (hr.mono (by first | decide | omega)) (pa_cons (pv 0) pa_nil)))
    (pss_cons (ps_if (pt_cmpR op_isNN (pv 1) pe_non (nomark _))
    (pss_one ps_never)
    pss_nil)
    (pss_one (ps_ret (pv 1))))), ?_⟩
    walk_at "go"
    refine ⟨a, p, rfl, hq, hw, l0, l1, by decide, fun v H1 s1 hv fr => ?_⟩
    rw [hc] at hv
    obtain ⟨t, lf, lc, rfl, e, f1, f2, f3⟩ := hv
    walk_at "go"
    exact k t H1 s1 ⟨lf, lc, e, f1, f2, f3⟩ fr
end

set_option Elab.async false
set_option linter.all false
set_option maxRecDepth 100000
set_option maxHeartbeats 4000000
set_option pp.deepTerms false
set_option pp.deepTerms.threshold 12
set_option pp.maxSteps 1200

open PySem PySem.Spec PyProof.Rows L2
section
variable {P : Program} {w : World} {K : PySem.W.Frag} {mg : Str → Option Value} {base : Heap}

theorem ok_l_pot {f : Addr} {fd : FuncData} (F : Fun K "_law_pot" "_law_pot" s_l_pot f fd) (B : Bl mg) : FnOk P w K mg base CX0 1 f fd ["_law_cell"] spBagOf := by
  refine F.ok sc_l_pot (fun vs H Q E h => ?_) (fun cdv A outer s H vs Q E hr h => ?_)
  · obtain ⟨c, rfl, _⟩ := h
    rfl
  · obtain ⟨c, rfl, k⟩ := h
    refine ⟨_, (pss_one (ps_ret (pe_lst (pa_cons (pe_callB (call_max2 rfl) (by rfl) B.b_max (by decide +kernel) (pa_cons pe_int (pa_cons (pe_op op_sub (pv 0) (pe_op op_pow pe_int pe_int)) pa_nil))) (pa_cons (pe_op op_mod (pe_callTy call_intI (by rfl) B.b_int (by decide +kernel) (pa_cons (pv 0) pa_nil)) pe_int) (pa_cons pe_int pa_nil)))))), ?_⟩
    walk_at "go"
    intro p np
    exact k p _ np (Same.new0 np) ⟨_, _, _, upd_same, by omega, by omega, by omega⟩
theorem ok_l_take {f : Addr} {fd : FuncData} (F : Fun K "_law_take" "_law_take" s_l_take f fd) (B : Bl mg) : FnOk P w K mg base CX0 1 f fd ["_law_pot_here", "_law_many"] spTake := by
  refine F.ok sc_l_take (fun vs H Q E h => ?_) (fun cdv A outer s H vs Q E hr h => ?_)
  · obtain ⟨a, n, rfl, _⟩ := h
    rfl
  · obtain ⟨a, n, rfl, ⟨x, y, z, hb, y0, y1, z0⟩, n0, n1, k⟩ := h
    have nl : n.natAbs.log2 < 9000 := log_small (Nat.lt_of_le_of_lt (by omega : n.natAbs ≤ 10000000000000000000000000000000) (by decide +kernel))
    refine ⟨_, (pss_cons (ps_if (pt_cmpR op_gt (pe_ix (ix_listK (K := K)) (pv 0) pe_int (fun _ _ => rfl)) pe_int (nomark _))
    (pss_cons (ps_set (i := 2) sc_l_take.nd rfl (.inl rfl) (pe_op op_modN (pe_callTy call_intI (by rfl) B.b_int (by decide +kernel) (pa_cons (pe_ix (ix_listK (K := K)) (pv 0) pe_int (fun _ _ => rfl)) pa_nil)) (pv 1)))
    (pss_cons (ps_asg (pe_op op_fdivW (pe_ix (ix_listK (K := K)) (pv 0) pe_int (fun _ _ => rfl)) (pv 1)) (pg_sub (pv 0) pe_int set_list))
    (pss_one (ps_ret (pv 2)))))
    pss_nil)
    (pss_cutM (ps_asg (pe_op op_add (pe_ix (ix_listK (K := K)) (pv 0) pe_int (fun _ _ => rfl)) pe_int) (pg_sub (pv 0) pe_int set_list))
    (pss_cutM (ps_set (i := 3) sc_l_take.nd rfl (.inl rfl) (pe_callTy call_intI (by rfl) B.b_int (by decide +kernel) (pa_cons (pe_op op_add (pe_op op_add (pe_op op_mul (pe_ix (ix_listK (K := K)) (pv 0) pe_int (fun _ _ => rfl)) pe_int) (pe_op op_mul (pe_ix (ix_listK (K := K)) (pv 0) pe_int (fun _ _ => rfl)) pe_int)) pe_int) pa_nil)))
    (pss_cutM (ps_set (i := 3) sc_l_take.nd rfl (.inl rfl) (pe_callTy call_intI (by rfl) B.b_int (by decide +kernel) (pa_cons (pe_op op_mod (pv 3) pe_int) pa_nil)))
    (pss_cutM (ps_set (i := 3) sc_l_take.nd rfl (.inl rfl) (pe_op op_mod (pe_callTy call_intI (by rfl) B.b_int (by decide +kernel) (pa_cons (pe_op op_add (pe_op op_mulW (pv 3) (pv 3)) (pe_ix (ix_listK (K := K)) (pv 0) pe_int (fun _ _ => rfl))) pa_nil)) pe_int))
    (pss_cutM (ps_set (i := 3) sc_l_take.nd rfl (.inl rfl) (pe_op op_mod (pe_callTy call_intI (by rfl) B.b_int (by decide +kernel) (pa_cons (pe_op op_add (pe_op op_add (pe_op op_mul (pe_op op_mulW (pv 3) (pv 3)) (pv 3)) (pe_op op_mul pe_int (pe_ix (ix_listK (K := K)) (pv 0) pe_int (fun _ _ => rfl)))) pe_int) pa_nil)) pe_int))
    (pss_one (ps_ret (pe_op op_modN (pe_callTy call_intI (by rfl) B.b_int (by decide +kernel) (pa_cons (pe_op op_fdiv (pv 3) pe_int) pa_nil)) (pv 1)))))))))), ?_⟩
    walk_at "go"
    refine r_iteD (fun hx => ?_) (fun hx => ?_)
    · walk_at "go"
      refine k _ _ (Int.fmod_nonneg_of_pos _ n0) (Int.fmod_lt_of_pos _ n0) (But.self (But.refl _ _)) ⟨_, _, _, upd_same, y0, y1, z0⟩
    · walk_at "go"
      refine r_cut (fun σ' H' => σ' = [some (.ref a), some (.int n), none, none] ∧ But a H H' ∧ H' a = some (.lst [.int x, .int y, .int (z + 1)])) ?_ ?_
      · walk_at "go"
        exact ⟨rfl, But.self (But.refl _ _), upd_same⟩
      rintro σ' H1 ⟨rfl, bu, hb1⟩
      try dsimp only
      refine r_cut (fun σ' H' => ∃ t : Int, σ' = [some (.ref a), some (.int n), none, some (.int t)] ∧ H' = H1) ?_ ?_
      · walk_at "go"
        exact ⟨_, rfl, rfl⟩
      rintro σ' H' ⟨t, rfl, rfl⟩
      try dsimp only
      refine r_cut (fun σ' H'' => ∃ t : Int, σ' = [some (.ref a), some (.int n), none, some (.int t)] ∧ H'' = H' ∧ 0 ≤ t ∧ t < 618970019642690137449562111) ?_ ?_
      · walk_at "go"
        exact ⟨_, rfl, rfl, by omega, by omega⟩
      clear t
      rintro σ' H1 ⟨t, rfl, rfl, t0, t1⟩
      have mw : CMulW t t := by
        have h1 : t.natAbs < 2 ^ 89 := by omega
        exact wide_mul h1 h1 (by decide) (by decide) (by decide)
      try dsimp only
      refine r_cut (fun σ' H'' => ∃ t : Int, σ' = [some (.ref a), some (.int n), none, some (.int t)] ∧ H'' = H1 ∧ 0 ≤ t ∧ t < 2305843009213693951) ?_ ?_
      · walk_at "go"
        exact ⟨_, rfl, rfl, by omega, by omega⟩
      clear mw t0 t1
      clear t
      rintro σ' H1 ⟨t, rfl, rfl, t0, t1⟩
      have mw : CMulW t t := by
        have h1 : t.natAbs < 2 ^ 89 := by omega
        exact wide_mul h1 h1 (by decide) (by decide) (by decide)
      try dsimp only
      refine r_cut (fun σ' H'' => ∃ t : Int, σ' = [some (.ref a), some (.int n), none, some (.int t)] ∧ H'' = H1) ?_ ?_
      · walk_at "go"
        exact ⟨_, rfl, rfl⟩
      rintro σ' H1 ⟨t, rfl, rfl⟩
      walk_at "go"
      refine k _ _ (Int.fmod_nonneg_of_pos _ n0) (Int.fmod_lt_of_pos _ n0) bu ⟨_, _, _, hb1, y0, y1, by omega⟩
theorem ok_l_one_step {f : Addr} {fd : FuncData} (F : Fun K "_law_one_step" "_law_one_step" s_l_one_step f fd) (B : Bl mg) (h_l_take : Has P w K mg base "_law_take" 1 ["_law_pot_here", "_law_many"] spTake) : FnOk P w K mg base CX0 2 f fd ["_law_pot_here", "_law_signs"] spOne := by
  refine F.ok sc_l_one_step (fun vs H Q E h => ?_) (fun cdv A outer s H vs Q E hr h => ?_)
  · obtain ⟨a, l, ss, rfl, _⟩ := h
    rfl
  · obtain ⟨a, l, ss, rfl, ba, la, hl, l1, l2, nm, k⟩ := h
    refine ⟨_, (pss_cons (ps_set (i := 2) sc_l_one_step.nd rfl (.inl rfl) (pe_ix (ix_listK (K := K)) (pe_lst (pa_cons pe_str (pa_cons pe_str (pa_cons pe_str (pa_cons pe_str (pa_cons pe_str (pa_cons pe_str pa_nil))))))) (pe_callH h_l_take (hr.mono (by first | decide | omega)) (pa_cons (pv 0) (pa_cons pe_int pa_nil))) (fun _ _ => rfl)))
    (pss_one (ps_ret (pe_tup (pa_cons (pv 2) (pa_cons (pe_ix (ix_listK (K := K)) (pv 1) (pe_callH h_l_take (hr.mono (by first | decide | omega)) (pa_cons (pv 0) (pa_cons (pe_callB (call_lenK (K := K)) (by rfl) B.b_len PySem.boot_len (pa_cons (pv 1) pa_nil)) pa_nil))) (fun _ _ => rfl)) pa_nil)))))), ?_⟩
    walk_at "go"
    intro e ne
    have ea : e ≠ a := ba.ne ne
    have he : (upd H e (.lst [.str "go", .str "go", .str "go", .str "back", .str "hop", .str "slip"])) e = some (.lst [.str "go", .str "go", .str "go", .str "back", .str "hop", .str "slip"]) := upd_same
    have b1 := ba.keep ne (o := .lst [.str "go", .str "go", .str "go", .str "back", .str "hop", .str "slip"])
    have bu1 := (But.refl a H).new ne (o := .lst [.str "go", .str "go", .str "go", .str "back", .str "hop", .str "slip"])
    generalize upd H e _ = H1 at *
    walk_at "go"
    refine u_take b1 (by decide) (by decide) fun r H2 r0 r1 bu2 b2 => ?_
    have he2 := bu2 _ _ ea he
    obtain ⟨wd, hw, iw⟩ : ∃ wd : Str, atI [V.str "go", V.str "go", V.str "go", V.str "back", V.str "hop", V.str "slip"] r = some (.str wd) ∧ IsWord wd := by
      rcases (by omega : r = 0 ∨ r = 1 ∨ r = 2 ∨ r = 3 ∨ r = 4 ∨ r = 5) with rfl | rfl | rfl | rfl | rfl | rfl
      · exact ⟨_, rfl, .inl rfl⟩
      · exact ⟨_, rfl, .inl rfl⟩
      · exact ⟨_, rfl, .inl rfl⟩
      · exact ⟨_, rfl, .inr (.inl rfl)⟩
      · exact ⟨_, rfl, .inr (.inr (.inl rfl))⟩
      · exact ⟨_, rfl, .inr (.inr (.inr rfl))⟩
    refine r_ixL (.of he2) hw ?_
    have bu := bu1.trans bu2
    have hl2 := bu _ _ la hl
    walk_at "go"
    refine u_take b2 (by rw [List.length_map]; omega) (by rw [List.length_map]; omega) fun r3 H3 r30 r31 bu3 b3 => ?_
    have hl3 := bu3 _ _ la hl2
    rw [List.length_map] at r31
    obtain ⟨n, hn1, hn2⟩ := atI_strs (ss := ss) r30 r31
    refine r_ixL (.of hl3) hn1 ?_
    walk_at "go"
    intro t nt
    exact k t wd n _ ((bu.trans bu3).new nt) (b3.keep nt) iw (nm n hn2) upd_same
theorem ok_l_often {f : Addr} {fd : FuncData} (F : Fun K "_law_often" "_law_often" s_l_often f fd) (B : Bl mg) (h_l_take : Has P w K mg base "_law_take" 1 ["_law_pot_here", "_law_many"] spTake) : FnOk P w K mg base CX0 2 f fd ["_law_pot_here", "_law_kind"] spOften := by
  refine F.ok sc_l_often (fun vs H Q E h => ?_) (fun cdv A outer s H vs Q E hr h => ?_)
  · obtain ⟨a, z, rfl, _⟩ := h
    rfl
  · obtain ⟨a, z, rfl, ba, k⟩ := h
    refine ⟨_, (pss_cons (ps_set (i := 2) sc_l_often.nd rfl (.inl rfl) (pe_lst (pa_cons (pe_op op_add pe_int (pe_callH h_l_take (hr.mono (by first | decide | omega)) (pa_cons (pv 0) (pa_cons pe_int pa_nil)))) (pa_cons (pe_ix (ix_listK (K := K)) (pe_lst (pa_cons pe_int (pa_cons pe_int (pa_cons pe_int (pa_cons pe_int (pa_cons pe_int (pa_cons pe_int (pa_cons pe_int (pa_cons pe_int pa_nil))))))))) (pe_callH h_l_take (hr.mono (by first | decide | omega)) (pa_cons (pv 0) (pa_cons pe_int pa_nil))) (fun _ _ => rfl)) (pa_cons (pe_op op_add pe_int (pe_callH h_l_take (hr.mono (by first | decide | omega)) (pa_cons (pv 0) (pa_cons pe_int pa_nil)))) pa_nil)))))
    (pss_cons (ps_if (pt_cmpR op_eq (pv 1) pe_int (nomark _))
    (pss_cons (ps_set (i := 3) sc_l_often.nd rfl (.inl rfl) (pe_op op_mul (pe_op op_add pe_int (pe_callH h_l_take (hr.mono (by first | decide | omega)) (pa_cons (pv 0) (pa_cons (pe_op op_sub (pe_op op_pow pe_int pe_int) pe_int) pa_nil)))) (pe_op op_add pe_int (pe_callH h_l_take (hr.mono (by first | decide | omega)) (pa_cons (pv 0) (pa_cons (pe_op op_sub (pe_op op_pow pe_int pe_int) pe_int) pa_nil))))))
    (pss_one (ps_set (i := 2) sc_l_often.nd rfl (.inl rfl) (pe_op op_cat (pv 2) (pe_lst (pa_cons (pe_op op_sub (pe_op op_sub (pe_op op_pow pe_int pe_int) pe_int) (pe_callH h_l_take (hr.mono (by first | decide | omega)) (pa_cons (pv 0) (pa_cons (pe_op op_pow pe_int pe_int) pa_nil)))) (pa_cons (pv 3) (pa_cons (pe_op op_mul (pe_op op_pow pe_int pe_int) (pe_op op_pow pe_int pe_int)) (pa_cons (pe_op op_pow pe_int pe_int) pa_nil)))))))))
    pss_nil)
    (pss_one (ps_ret (pe_ix (ix_listK (K := K)) (pv 2) (pe_callH h_l_take (hr.mono (by first | decide | omega)) (pa_cons (pv 0) (pa_cons (pe_callB (call_lenK (K := K)) (by rfl) B.b_len PySem.boot_len (pa_cons (pv 2) pa_nil)) pa_nil))) (fun _ _ => rfl)))))), ?_⟩
    have e15 : (10 : Int) ^ (Int.toNat 15) = 1000000000000000 := by decide +kernel
    have e30 : (10 : Int) ^ (Int.toNat 30) = 1000000000000000000000000000000 := by decide +kernel
    have e6 : (10 : Int) ^ (Int.toNat 6) = 1000000 := by decide +kernel
    have e2 : (2 : Int) ^ (Int.toNat 20) = 1048576 := by decide +kernel
    have e3 : (3 : Int) ^ (Int.toNat 10) = 59049 := by decide +kernel
    have e20 : (30 : Int) ^ (Int.toNat 20) = 348678440100000000000000000000 := by decide +kernel
    walk_at "go"
    refine u_take ba (by decide) (by decide) fun r1 H1 p10 p11 bu1 b1 => ?_
    walk_at "go"
    intro e ne
    have ea : e ≠ a := b1.ne ne
    have he : (upd H1 e (.lst [.int 2, .int 3, .int 4, .int 6, .int 8, .int 12, .int 30, .int 36])) e = some (.lst [.int 2, .int 3, .int 4, .int 6, .int 8, .int 12, .int 30, .int 36]) := upd_same
    have b2 := b1.keep ne (o := .lst [.int 2, .int 3, .int 4, .int 6, .int 8, .int 12, .int 30, .int 36])
    have bu2 := bu1.new ne (o := .lst [.int 2, .int 3, .int 4, .int 6, .int 8, .int 12, .int 30, .int 36])
    generalize upd H1 e _ = H2 at *
    walk_at "go"
    refine u_take b2 (by decide) (by decide) fun r2 H3 p20 p21 bu3 b3 => ?_
    have he3 := bu3 _ _ ea he
    obtain ⟨v2, hv2, v20, v21⟩ : ∃ v2 : Int, atI [V.int 2, .int 3, .int 4, .int 6, .int 8, .int 12, .int 30, .int 36] r2 = some (.int v2) ∧ 1 ≤ v2 ∧ v2 ≤ 36 := by
      rcases (by omega : r2 = 0 ∨ r2 = 1 ∨ r2 = 2 ∨ r2 = 3 ∨ r2 = 4 ∨ r2 = 5 ∨ r2 = 6 ∨ r2 = 7) with rfl | rfl | rfl | rfl | rfl | rfl | rfl | rfl <;> exact ⟨_, rfl, by decide, by decide⟩
    refine r_ixL (.of he3) hv2 ?_
    walk_at "go"
    refine u_take b3 (by decide) (by decide) fun r3 H4 p30 p31 bu4 b4 => ?_
    walk_at "go"
    intro l nl
    have la : l ≠ a := b4.ne nl
    have hl : (upd H4 l (.lst [.int (1 + r1), .int v2, .int (1 + r3)])) l = some (.lst [.int (1 + r1), .int v2, .int (1 + r3)]) := upd_same
    have b5 := b4.keep nl (o := .lst [.int (1 + r1), .int v2, .int (1 + r3)])
    have bu5 := ((bu2.trans bu3).trans bu4).new nl (o := .lst [.int (1 + r1), .int v2, .int (1 + r3)])
    generalize upd H4 l _ = H5 at *
    clear bu1 bu2 bu3 bu4 b1 b2 b3 b4 he he3 hv2
    walk_at "go"
    refine r_iteD (fun hz => ?_) (fun hz => ?_)
    · walk_at "go"
      rw [e15]
      refine u_take b5 (by decide) (by decide) fun r4 H6 p40 p41 bu6 b6 => ?_
      walk_at "go"
      rw [e15]
      refine u_take b6 (by decide) (by decide) fun r5 H7 p50 p51 bu7 b7 => ?_
      have m1 := Int.mul_le_mul (show 1 + r4 ≤ 999999999999999 by omega) (show 1 + r5 ≤ 999999999999999 by omega) (by omega) (by decide)
      have m0 := Int.mul_pos (show 0 < 1 + r4 by omega) (show 0 < 1 + r5 by omega)
      have hc : CMul (1 + r4) (1 + r5) := .inl ⟨by omega, by omega⟩
      walk_at "go"
      generalize (1 + r4) * (1 + r5) = far at *
      rw [e30, e6]
      refine u_take b7 (by decide) (by decide) fun r6 H8 p60 p61 bu8 b8 => ?_
      walk_at "go"
      rw [e2, e3, e20]
      intro l2 nl2
      have bu58 := (bu6.trans bu7).trans bu8
      have hl8 := bu58 _ _ la hl
      refine r_cat (xs := [.int (1 + r1), .int v2, .int (1 + r3)]) (zs := [.int (1000000000000000000000000000000 - 1 - r6), .int far, .int (1048576 * 59049), .int 348678440100000000000000000000]) (h_keep hl8 nl2) upd_same (by show 7 ≤ 100000; decide) fun l3 nl3 => ?_
      have s8 := Same.new (Same.new0 nl2 (o := .lst [.int (1000000000000000000000000000000 - 1 - r6), .int far, .int (1048576 * 59049), .int 348678440100000000000000000000])) nl3 (o := .lst ([.int (1 + r1), .int v2, .int (1 + r3)] ++ [.int (1000000000000000000000000000000 - 1 - r6), .int far, .int (1048576 * 59049), .int 348678440100000000000000000000]))
      have b9 := b8.same s8
      have l3a : l3 ≠ a := (b8.same (Same.new0 nl2)).ne nl3
      walk_at "go"
      refine u_take b9 (show (0 : Int) < 7 by decide) (show (7 : Int) ≤ _ by decide) fun r7 H9 p70 p71 bu9 b10 => ?_
      have hl9 := bu9 _ _ l3a upd_same
      replace p71 : r7 < 7 := p71
      obtain ⟨n, hn, n0, n1⟩ : ∃ n : Int, atI ([V.int (1 + r1), .int v2, .int (1 + r3)] ++ [.int (1000000000000000000000000000000 - 1 - r6), .int far, .int (1048576 * 59049), .int 348678440100000000000000000000]) r7 = some (.int n) ∧ 1 ≤ n ∧ n ≤ 1000000000000000000000000000000 := by
        rcases (by omega : r7 = 0 ∨ r7 = 1 ∨ r7 = 2 ∨ r7 = 3 ∨ r7 = 4 ∨ r7 = 5 ∨ r7 = 6) with rfl | rfl | rfl | rfl | rfl | rfl | rfl <;> exact ⟨_, rfl, by omega, by omega⟩
      refine r_ixL (.of hl9) hn ?_
      walk_at "go"
      exact k n _ n0 n1 (bu5.trans (bu58.trans ((Same.but s8 a).trans bu9))) b10
    · walk_at "go"
      refine u_take b5 (show (0 : Int) < 3 by decide) (show (3 : Int) ≤ _ by decide) fun r7 H9 p70 p71 bu9 b10 => ?_
      have hl9 := bu9 _ _ la hl
      replace p71 : r7 < 3 := p71
      obtain ⟨n, hn, n0, n1⟩ : ∃ n : Int, atI [V.int (1 + r1), .int v2, .int (1 + r3)] r7 = some (.int n) ∧ 1 ≤ n ∧ n ≤ 1000000000000000000000000000000 := by
        rcases (by omega : r7 = 0 ∨ r7 = 1 ∨ r7 = 2) with rfl | rfl | rfl <;> exact ⟨_, rfl, by omega, by omega⟩
      refine r_ixL (.of hl9) hn ?_
      walk_at "go"
      exact k n _ n0 n1 (bu5.trans bu9) b10
theorem ok_l_turns {f : Addr} {fd : FuncData} (F : Fun K "_law_turns" "_law_turns" s_l_turns f fd) (B : Bl mg) (h_l_take : Has P w K mg base "_law_take" 1 ["_law_pot_here", "_law_many"] spTake) : FnOk P w K mg base CX0 2 f fd ["_law_pot_here", "_law_most", "_law_kind"] spTurns := by
  refine F.ok sc_l_turns (fun vs H Q E h => ?_) (fun cdv A outer s H vs Q E hr h => ?_)
  · obtain ⟨a, m, z, rfl, _⟩ := h
    rfl
  · obtain ⟨a, m, z, rfl, ba, m0, m1, k⟩ := h
    refine ⟨_, (pss_cons (ps_set (i := 3) sc_l_turns.nd rfl (.inl rfl) (pe_lst pa_nil))
    (pss_cons (ps_for PassesOwn.never rfl (pi_range1 (by rfl) B.b_range (pa_cons (pe_callH h_l_take (hr.mono (by first | decide | omega)) (pa_cons (pv 0) (pa_cons (pe_op op_add (pv 1) pe_int) pa_nil))) pa_nil)) (pg_name (i := 4) sc_l_turns.nd rfl (.inl rfl))
    (pss_cons (ps_set (i := 5) sc_l_turns.nd rfl (.inl rfl) (pe_op op_sub (pe_callH h_l_take (hr.mono (by first | decide | omega)) (pa_cons (pv 0) (pa_cons pe_int pa_nil))) pe_int))
    (pss_cons (ps_if (PW.pt (pw_and (pt_cmpR op_eq (pv 2) pe_int (nomark _)) (pw_and1 (pt_cmpR op_eq (pe_callH h_l_take (hr.mono (by first | decide | omega)) (pa_cons (pv 0) (pa_cons pe_int pa_nil))) pe_int (nomark _)))))
    (pss_one (ps_set (i := 5) sc_l_turns.nd rfl (.inl rfl) (pe_op op_mul (pe_ix (ix_listK (K := K)) (pe_lst (pa_cons pe_int (pa_cons (pe_un un_neg pe_int) pa_nil))) (pe_callH h_l_take (hr.mono (by first | decide | omega)) (pa_cons (pv 0) (pa_cons pe_int pa_nil))) (fun _ _ => rfl)) (pe_callH h_l_take (hr.mono (by first | decide | omega)) (pa_cons (pv 0) (pa_cons (pe_op op_add (pe_op op_pow pe_int pe_int) pe_int) pa_nil))))))
    pss_nil)
    (pss_one (ps_expr (pe_bm PySem.F.plainAttrs_list PySem.F.slot_list_append PySem.F.type_list_append mt_append (pv 3) (pa_cons (pe_tup (pa_cons pe_str (pa_cons (pv 5) pa_nil))) pa_nil)))))))
    (pss_one (ps_ret (pv 3))))), ?_⟩
    have e30 : (10 : Int) ^ (Int.toNat 30) = 1000000000000000000000000000000 := by decide +kernel
    walk_at "go"
    intro l nl
    have la : l ≠ a := ba.ne nl
    have hl : (upd H l (.lst [])) l = some (.lst []) := upd_same
    have b1 := ba.keep nl (o := .lst [])
    have bu1 := (But.refl a H).new nl (o := .lst [])
    generalize upd H l _ = H1 at *
    walk_at "go"
    refine u_take b1 (by omega) (by omega) fun r H2 r0 r1 bu2 b2 => ?_
    have hl2 := bu2 _ _ la hl
    walk_at "go"
    refine u_for1 (by omega) (fun i σ H' => ∃ (xs : List V) (p : Prog) (y y2 : Option V), σ = [some (.ref a), some (.int m), some (.int z), some (.ref l), y, y2] ∧ But a H H' ∧ Bag H' a ∧ H' l = some (.lst xs) ∧ PrAt H' p xs ∧ p.turnsOnly ∧ p.len = i) ⟨[], .nil, _, _, rfl, bu1.trans bu2, b2, hl2, rfl, trivial, rfl⟩ ?_ ?_
    · rintro i σ H' hi ⟨xs, p, y, y2, rfl, bu, bg, hl, hp, tp, lp⟩
      have lx := hp.length
      walk_at "go"
      refine u_take bg (by decide) (by decide) fun r2 H3 r20 r21 bu3 b3 => ?_
      have fin : ∀ (u : Int) H4, -1000000000000000000000000000000 ≤ u → u ≤ 1000000000000000000000000000000 → But a H' H4 → Bag H4 a → ∀ c, H4 c = none → ∃ (xs' : List V) (p' : Prog) (y y2 : Option V), [some (V.ref a), some (.int m), some (.int z), some (.ref l), some (.int i), some (.int u)] = [some (.ref a), some (.int m), some (.int z), some (.ref l), y, y2] ∧ But a H (upd (upd H4 c (.tup [.str "turn", .int u])) l (.lst (xs ++ [.ref c]))) ∧ Bag (upd (upd H4 c (.tup [.str "turn", .int u])) l (.lst (xs ++ [.ref c]))) a ∧
          (upd (upd H4 c (.tup [.str "turn", .int u])) l (.lst (xs ++ [.ref c]))) l = some (.lst xs') ∧ PrAt (upd (upd H4 c (.tup [.str "turn", .int u])) l (.lst (xs ++ [.ref c]))) p' xs' ∧ p'.turnsOnly ∧ p'.len = i + 1 := fun u H4 u0 u1 bu4 b4 c nc => by
        have hl4 := bu4 _ _ la hl
        have hc4 : (upd H4 c (.tup [.str "turn", .int u])) l = some (.lst xs) := h_keep hl4 nc
        have tk : Tk (upd H4 c (.tup [.str "turn", .int u])) (upd (upd H4 c (.tup [.str "turn", .int u])) l (.lst (xs ++ [.ref c]))) := (Tk.refl _).lst hc4
        have hp4 : PrAt (upd H4 c (.tup [.str "turn", .int u])) p xs := (hp.tk (Tk.but bu4 bg)).tk ((Tk.refl _).new nc)
        have ht : PrAt (upd H4 c (.tup [.str "turn", .int u])) (.turn u .nil) [.ref c] := ⟨c, [], rfl, upd_same, rfl⟩
        refine ⟨xs ++ [.ref c], p.app (.turn u .nil), _, _, rfl, ((bu.trans bu4).new nc).put nl, (b4.keep nc).upd la.symm, upd_same, (hp4.app ht).tk tk, turns_app tp ⟨u0, u1, trivial⟩, ?_⟩
        rw [Prog.len_app, lp]
        rfl
      walk_at "go"
      refine r_iteD (fun hz => ?_) (fun hz => ?_)
      · walk_at "go"
        refine u_take b3 (by decide) (by decide) fun r4 H4 r40 r41 bu4 b4 => ?_
        walk_at "go"
        refine r_iteD (fun hz2 => ?_) (fun hz2 => ?_)
        · walk_at "go"
          intro e ne
          have ea : e ≠ a := b4.ne ne
          have he : (upd H4 e (.lst [.int 1, .int (-1)])) e = some (.lst [.int 1, .int (-1)]) := upd_same
          have b5 := b4.keep ne (o := .lst [.int 1, .int (-1)])
          have bu5 := (bu3.trans bu4).new ne (o := .lst [.int 1, .int (-1)])
          generalize upd H4 e _ = H5 at *
          walk_at "go"
          refine u_take b5 (by decide) (by decide) fun r5 H6 r50 r51 bu6 b6 => ?_
          have he6 := bu6 _ _ ea he
          obtain ⟨sg, hs, s01⟩ : ∃ sg : Int, atI [V.int 1, .int (-1)] r5 = some (.int sg) ∧ (sg = 1 ∨ sg = -1) := by
            rcases (by omega : r5 = 0 ∨ r5 = 1) with rfl | rfl
            · exact ⟨1, rfl, .inl rfl⟩
            · exact ⟨-1, rfl, .inr rfl⟩
          refine r_ixL (.of he6) hs ?_
          walk_at "go"
          rw [e30]
          refine u_take b6 (by decide) (by decide) fun r6 H7 r60 r61 bu7 b7 => ?_
          have cm : CMul sg r6 := .inl ⟨by omega, by omega⟩
          walk_at "go"
          have hu : -1000000000000000000000000000000 ≤ sg * r6 ∧ sg * r6 ≤ 1000000000000000000000000000000 := by
            rcases s01 with rfl | rfl <;> omega
          intro c nc
          have nx := fin (sg * r6) H7 hu.1 hu.2 ((bu5.trans bu6).trans bu7) b7 c nc
          have hl7 := ((bu5.trans bu6).trans bu7) _ _ la hl
          walk_at "go"
          exact nx
        · walk_at "go"
          intro c nc
          have nx := fin (r2 - 3) H4 (by omega) (by omega) (bu3.trans bu4) b4 c nc
          have hl7 := (bu3.trans bu4) _ _ la hl
          walk_at "go"
          exact nx
      · walk_at "go"
        intro c nc
        have nx := fin (r2 - 3) H3 (by omega) (by omega) bu3 b3 c nc
        have hl7 := bu3 _ _ la hl
        walk_at "go"
        exact nx
    · rintro σ H' ⟨xs, p, y, y2, rfl, bu, bg, hl, hp, tp, lp⟩
      walk_at "go"
      exact k l xs p H' bu bg nl hl hp tp (by omega)
end

set_option Elab.async false
set_option linter.all false
set_option maxRecDepth 100000
set_option maxHeartbeats 4000000

open PySem PySem.Spec PyProof.Rows L2 RT
section
variable {P : Program} {w : World} {K : PySem.W.Frag} {mg : Str → Option Value} {base : Heap}

theorem r_ixK {p : Addr} {z : Str} {v : V} {H : Hp} {Q : VK} (h : KDct K w p z v) (q : Q v H) : rIxD K w (.ref p) (.str z) H Q := ⟨p, z, v, rfl, rfl, h, q⟩
local macro_rules | `(tactic| walk_at "s") => `(tactic| (first
  | (with_reducible refine r_iRev ?_)
  | ((with_reducible refine r_ixK (v := ?vv) ?cc ?_); (case cc => assumption))
  ))
end

set_option Elab.async false
set_option linter.all false
set_option maxRecDepth 100000
set_option maxHeartbeats 4000000

open PySem PySem.Spec PyProof.Rows L2 RT
section
variable {P : Program} {w : World} {K : PySem.W.Frag} {mg : Str → Option Value} {base : Heap}
section
variable {σ : L2.St} {H : Hp} {Q : VK} {td ty tk tv : TE} {trs : List (TE × TE)}
theorem r_disp (q : ∀ p, H p = none → tPairs trs σ (upd H p (.dK [])) fun ps H2 => H2 p = some (.dK []) ∧ ∃ kvs : List (Key × V), ps = kvs.map (fun kv => (kV kv.1, kv.2)) ∧ kvs.length ≤ 15 ∧ Q (.ref p) (upd H2 p (.dK (mergeK [] kvs)))) : tDisp trs σ H Q := q
theorem r_pc {R : List (V × V) → Hp → Prop} (q : tk σ H fun x H1 => tv σ H1 fun y H2 => tPairs trs σ H2 fun ps H3 => R ((x, y) :: ps) H3) : tPairs ((tk, tv) :: trs) σ H R := q
theorem r_pn {R : List (V × V) → Hp → Prop} (q : R [] H) : tPairs [] σ H R := q
end

local macro_rules | `(tactic| walk_at "s") => `(tactic| (first
  | (with_reducible refine r_dget ?_)
  | (with_reducible refine r_disp ?_)
  | (with_reducible refine r_pc ?_)
  | (with_reducible refine r_pn ?_)
  ))
end

set_option Elab.async false
set_option linter.all false
set_option maxRecDepth 100000
set_option maxHeartbeats 4000000
set_option pp.deepTerms false
set_option pp.deepTerms.threshold 12
set_option pp.maxSteps 1200

open PySem PySem.Spec PyProof.Rows L2 RT
section
variable {P : Program} {w : World} {K : PySem.W.Frag} {mg : Str → Option Value} {base : Heap}

local macro_rules | `(tactic| walk_at "s") => `(tactic| (first
  | (with_reducible refine r_dget ?_)
  | (with_reducible refine r_disp ?_)
  | (with_reducible refine r_pc ?_)
  | (with_reducible refine r_pn ?_)
  ))
theorem ok_l_bits {f : Addr} {fd : FuncData} (F : Fun K "_law_bits" "_law_bits" s_l_bits f fd) (B : Bl mg) (h_l_take : Has P w K mg base "_law_take" 1 ["_law_pot_here", "_law_many"] spTake) (h_l_one_step : Has P w K mg base "_law_one_step" 2 ["_law_pot_here", "_law_signs"] spOne) : FnOk P w K mg base CX0 3 f fd ["_law_pot_here", "_law_signs", "_law_most", "_law_bound"] spBits := by
  refine F.ok sc_l_bits (fun vs H Q E h => ?_) (fun cdv A outer s H vs Q E hr h => ?_)
  · obtain ⟨a, l, ss, m, F, rfl, _⟩ := h
    rfl
  · obtain ⟨a, l, ss, m, F, rfl, ba, la, ⟨hl, l1, l2, nm⟩, m0, m1, F0, F1, k⟩ := h
    refine ⟨_, (pss_cons (ps_set (i := 4) sc_l_bits.nd rfl (.inl rfl) (pe_lst pa_nil))
    (pss_cons (ps_set (i := 5) sc_l_bits.nd rfl (.inl rfl) pe_int)
    (pss_cons (ps_for PassesOwn.never rfl (pi_range1 (by rfl) B.b_range (pa_cons (pe_op op_add pe_int (pe_callH h_l_take (hr.mono (by first | decide | omega)) (pa_cons (pv 0) (pa_cons (pv 2) pa_nil)))) pa_nil)) (pg_name (i := 6) sc_l_bits.nd rfl (.inl rfl))
    (pss_cons (ps_expr (pe_bm PySem.F.plainAttrs_list PySem.F.slot_list_append PySem.F.type_list_append mt_append (pv 4) (pa_cons (pe_callH h_l_one_step (hr.mono (by first | decide | omega)) (pa_cons (pv 0) (pa_cons (pv 1) pa_nil))) pa_nil)))
    (pss_cutM (ps_set (i := 7) sc_l_bits.nd rfl (.inl rfl) (pe_ix (ix_listK (K := K)) (pe_lst (pa_cons pe_int (pa_cons pe_int (pa_cons (pv 3) pa_nil)))) (pe_callH h_l_take (hr.mono (by first | decide | omega)) (pa_cons (pv 0) (pa_cons pe_int pa_nil))) (fun _ _ => rfl)))
    (pss_cutM (ps_set (i := 8) sc_l_bits.nd rfl (.inl rfl) (pe_callB (call_max2 rfl) (by rfl) B.b_max (by decide +kernel) (pa_cons (pe_un un_neg (pv 3)) (pa_cons (pe_callB (call_min2 rfl) (by rfl) B.b_min (by decide +kernel) (pa_cons (pv 3) (pa_cons (pe_op op_sub (pe_op op_add (pv 5) (pe_callH h_l_take (hr.mono (by first | decide | omega)) (pa_cons (pv 0) (pa_cons (pe_op op_add (pe_op op_mul pe_int (pv 7)) pe_int) pa_nil)))) (pv 7)) pa_nil))) pa_nil))))
    (pss_cons (ps_if (PW.pt (pw_or (pt_cmpR op_ne (pv 8) (pv 5) (nomark _)) (pw_or1 (pt_cmpR op_eq (pe_callH h_l_take (hr.mono (by first | decide | omega)) (pa_cons (pv 0) (pa_cons pe_int pa_nil))) pe_int (nomark _)))))
    (pss_one (ps_expr (pe_bm PySem.F.plainAttrs_list PySem.F.slot_list_append PySem.F.type_list_append mt_append (pv 4) (pa_cons (pe_tup (pa_cons pe_str (pa_cons (pe_op op_sub (pv 8) (pv 5)) pa_nil))) pa_nil))))
    pss_nil)
    (pss_one (ps_set (i := 5) sc_l_bits.nd rfl (.inl rfl) (pv 8))))))))
    (pss_one (ps_ret (pv 4)))))), ?_⟩
    walk_at "go"
    intro mm nmm
    have ma : mm ≠ a := ba.ne nmm
    have lm : l ≠ mm := ne_of_none hl nmm
    have b1 := ba.keep nmm (o := .lst [])
    have bu1 := (But.refl a H).new nmm (o := .lst [])
    have md : MdAt F a H (upd H mm (.lst [])) mm [] .nil 0 0 := ⟨upd_same, nmm, ma, rfl, WfL.nil, trivial, rfl, by omega, by omega, Nat.le_refl _⟩
    generalize upd H mm (.lst []) = H1 at *
    walk_at "go"
    refine u_take b1 (by omega) (by omega) fun r H2 r0 r1 bu2 b2 => ?_
    have md2 := md.pick bu2 b1
    walk_at "go"
    refine u_for1 (by omega) (fun i σ H' => ∃ (ms : List V) (p : Prog) (now : Int) (y6 y7 y8 : Option V), σ = [some (.ref a), some (.ref l), some (.int m), some (.int F), some (.ref mm), some (.int now), y6, y7, y8] ∧ But a H H' ∧ Bag H' a ∧ MdAt F a H H' mm ms p now (2 * i) ∧ i ≤ p.len) ⟨[], .nil, 0, _, _, _, rfl, bu1.trans bu2, b2, md2, Nat.zero_le _⟩ ?_ ?_
    · clear md md2 b1 b2 bu1 bu2
      rintro i σ H' hi ⟨ms, p, now, y6, y7, y8, rfl, bu, bg, md, pl⟩
      have hm := md.at_
      walk_at "go"
      refine ⟨a, l, ss, rfl, bg, la, bu _ _ la hl, l1, l2, nm, fun t wd n H3 bu3 b3 iw inm ht => ?_⟩
      have md3 := md.pick bu3 bg
      have lms : ms.length = p.len := md3.pr.length
      have lp := md3.ln
      have hm3 := md3.at_
      walk_at "go"
      have md4 := md3.push (q := .step wd n .nil) ⟨t, [], rfl, ht, rfl⟩ rfl (WfL.step_iff.mpr ⟨iw, inm, WfL.nil⟩) trivial (Int.add_zero now) md3.n0 md3.n1
      have b4 : Bag (upd H3 mm (.lst (ms ++ [.ref t]))) a := b3.upd ma.symm
      have bu4 : But a H (upd H3 mm (.lst (ms ++ [.ref t]))) := (bu.trans bu3).put nmm
      have pl4 : i + 1 ≤ (p.app (.step wd n .nil)).len := by rw [Prog.len_app]; exact Nat.succ_le_succ pl
      generalize upd H3 mm (.lst (ms ++ [.ref t])) = H4 at *
      generalize p.app (.step wd n .nil) = p2 at *
      generalize ms ++ [V.ref t] = ms2 at *
      clear md3 md hm3 lms ht bu3 b3 bu bg pl lp hm
      clear p ms H3
      clear H'
      try dsimp only
      refine r_cut (fun σ' H' => ∃ rc : Int, σ' = [some (.ref a), some (.ref l), some (.int m), some (.int F), some (.ref mm), some (.int now), some (.int (i : Int)), some (.int rc), y8] ∧ But a H H' ∧ Bag H' a ∧ MdAt F a H H' mm ms2 p2 now (2 * i + 1) ∧ 1 ≤ rc ∧ rc ≤ 12) ?_ ?_
      · walk_at "go"
        intro e ne
        have ea : e ≠ a := b4.ne ne
        have he : (upd H4 e (.lst [.int 1, .int 2, .int F])) e = some (.lst [.int 1, .int 2, .int F]) := upd_same
        have b5 := b4.keep ne (o := .lst [.int 1, .int 2, .int F])
        have bu5 := bu4.new ne (o := .lst [.int 1, .int 2, .int F])
        have md5 := md4.new ne (o := .lst [.int 1, .int 2, .int F])
        generalize upd H4 e _ = H5 at *
        walk_at "go"
        refine u_take b5 (by decide) (by decide) fun r5 H6 r50 r51 bu6 b6 => ?_
        have he6 := bu6 _ _ ea he
        obtain ⟨rc, hrc, c0, c1⟩ : ∃ rc : Int, atI [V.int 1, .int 2, .int F] r5 = some (.int rc) ∧ 1 ≤ rc ∧ rc ≤ 12 := by
          rcases (by omega : r5 = 0 ∨ r5 = 1 ∨ r5 = 2) with rfl | rfl | rfl
          · exact ⟨1, rfl, by decide, by decide⟩
          · exact ⟨2, rfl, by decide, by decide⟩
          · exact ⟨F, rfl, F0, F1⟩
        refine r_ixL (.of he6) hrc ?_
        walk_at "go"
        exact ⟨rc, rfl, bu5.trans bu6, b6, md5.pick bu6 b5, c0, c1⟩
      clear md4 b4 bu4
      rintro σ' H5 ⟨rc, rfl, bu5, b5, md5, c0, c1⟩
      try dsimp only
      refine r_cut (fun σ' H' => ∃ gl : Int, σ' = [some (.ref a), some (.ref l), some (.int m), some (.int F), some (.ref mm), some (.int now), some (.int (i : Int)), some (.int rc), some (.int gl)] ∧ But a H H' ∧ Bag H' a ∧ MdAt F a H H' mm ms2 p2 now (2 * i + 1) ∧ -F ≤ gl ∧ gl ≤ F) ?_ ?_
      · walk_at "go"
        refine u_take b5 (by omega) (by omega) fun r6 H6 r60 r61 bu6 b6 => ?_
        walk_at "go"
        exact ⟨_, rfl, bu5.trans bu6, b6, md5.pick bu6 b5, by omega, by omega⟩
      clear md5 b5 bu5
      rintro σ' H6 ⟨gl, rfl, bu6, b6, md6, g0, g1⟩
      have lms : ms2.length = p2.len := md6.pr.length
      have lp := md6.ln
      have turned : ∀ H', But a H H' → Bag H' a → MdAt F a H H' mm ms2 p2 now (2 * i + 1) → ∀ c, H' c = none → ∃ (ms : List V) (p : Prog) (now' : Int) (y6 y7 y8 : Option V), [some (V.ref a), some (.ref l), some (.int m), some (.int F), some (.ref mm), some (.int gl), some (.int (i : Int)), some (.int rc), some (.int gl)] = [some (.ref a), some (.ref l), some (.int m), some (.int F), some (.ref mm), some (.int now'), y6, y7, y8] ∧
          But a H (upd (upd H' c (.tup [.str "turn", .int (gl - now)])) mm (.lst (ms2 ++ [.ref c]))) ∧ Bag (upd (upd H' c (.tup [.str "turn", .int (gl - now)])) mm (.lst (ms2 ++ [.ref c]))) a ∧ MdAt F a H (upd (upd H' c (.tup [.str "turn", .int (gl - now)])) mm (.lst (ms2 ++ [.ref c]))) mm ms p now' (2 * (i + 1)) ∧ i + 1 ≤ p.len := by
        intro H' bu bg md c nc
        have mn := md.new nc (o := .tup [.str "turn", .int (gl - now)])
        refine ⟨_, p2.app (.turn (gl - now) .nil), gl, _, _, _, rfl, (bu.new nc).put nmm, (bg.keep nc).upd ma.symm, mn.push (q := .turn (gl - now) .nil) ⟨c, [], rfl, upd_same, rfl⟩ rfl (WfL.turn_iff.mpr ⟨by have := md.n0; have := md.n1; omega, WfL.nil⟩) ⟨by omega, trivial⟩ ?_ g0 g1, by rw [Prog.len_app]; omega⟩
        show now + ((gl - now) + 0) = gl
        omega
      have hm6 := md6.at_
      try dsimp only
      walk_at "go"
      refine r_iteN (fun hne => ?_) (fun heq => ?_)
      · walk_at "go"
        intro c nc
        have nx := turned _ bu6 b6 md6 c nc
        walk_at "go"
        exact nx
      · subst heq
        walk_at "go"
        refine u_take b6 (by decide) (by decide) fun r7 H7 r70 r71 bu7 b7 => ?_
        have md7 := md6.pick bu7 b6
        have hm7 := md7.at_
        walk_at "go"
        refine r_iteD (fun hz => ?_) (fun hz => ?_)
        · walk_at "go"
          intro c nc
          have nx := turned _ (bu6.trans bu7) b7 md7 c nc
          walk_at "go"
          exact nx
        · walk_at "go"
          exact ⟨_, _, _, _, _, _, rfl, bu6.trans bu7, b7, md7.mono, pl4⟩
    · rintro σ H' ⟨ms, p, now, y6, y7, y8, rfl, bu, bg, md, pl⟩
      have lp := md.ln
      walk_at "go"
      exact k mm ms p H' bu bg nmm md.at_ md.pr md.wf md.wi (by omega) (by omega)
theorem ok_l_ring_of {f : Addr} {fd : FuncData} (F : Fun K "_law_ring_of" "_law_ring_of" s_l_ring_of f fd) (B : Bl mg) (h_l_take : Has P w K mg base "_law_take" 1 ["_law_pot_here", "_law_many"] spTake) (h_l_one_step : Has P w K mg base "_law_one_step" 2 ["_law_pot_here", "_law_signs"] spOne) : FnOk P w K mg base CX0 3 f fd ["_law_pot_here", "_law_signs", "_law_most", "_law_bound"] spRingOf := by
  refine F.ok sc_l_ring_of (fun vs H Q E h => ?_) (fun cdv A outer s H vs Q E hr h => ?_)
  · obtain ⟨a, l, ss, m, F, rfl, _⟩ := h
    rfl
  · obtain ⟨a, l, ss, m, F, rfl, ba, la, ⟨hl, l1, l2, nm⟩, m0, m1, F0, F1, k⟩ := h
    refine ⟨_, (pss_cutM (ps_set (i := 4) sc_l_ring_of.nd rfl (.inl rfl) (pe_op op_add pe_int (pe_callH h_l_take (hr.mono (by first | decide | omega)) (pa_cons (pv 0) (pa_cons (pe_callB (call_max2 rfl) (by rfl) B.b_max (by decide +kernel) (pa_cons pe_int (pa_cons (pe_callB (call_min2 rfl) (by rfl) B.b_min (by decide +kernel) (pa_cons pe_int (pa_cons (pe_op op_sub (pv 2) pe_int) pa_nil))) pa_nil))) pa_nil)))))
    (pss_cutM (ps_set (i := 5) sc_l_ring_of.nd rfl (.inl rfl) (pe_op op_add pe_int (pe_callH h_l_take (hr.mono (by first | decide | omega)) (pa_cons (pv 0) (pa_cons (pe_callB (call_max2 rfl) (by rfl) B.b_max (by decide +kernel) (pa_cons pe_int (pa_cons (pe_op op_fdivW (pv 3) (pv 4)) pa_nil))) pa_nil)))))
    (pss_cutM (ps_if (pt_cmpR op_eq (pe_callH h_l_take (hr.mono (by first | decide | omega)) (pa_cons (pv 0) (pa_cons pe_int pa_nil))) pe_int (nomark _))
    (pss_one (ps_set (i := 5) sc_l_ring_of.nd rfl (.inl rfl) (pe_un un_neg (pv 5))))
    pss_nil)
    (pss_one (ps_ret (pe_tup (pa_cons pe_str (pa_cons (pv 4) (pa_cons (pe_tup (pa_cons (pe_callH h_l_one_step (hr.mono (by first | decide | omega)) (pa_cons (pv 0) (pa_cons (pv 1) pa_nil))) (pa_cons (pe_tup (pa_cons pe_str (pa_cons (pv 5) pa_nil))) pa_nil))) pa_nil))))))))), ?_⟩
    walk_at "go"
    refine r_cut (fun σ' H' => ∃ n : Int, σ' = [some (.ref a), some (.ref l), some (.int m), some (.int F), some (.int n), none] ∧ But a H H' ∧ Bag H' a ∧ 2 ≤ n ∧ n ≤ 6) ?_ ?_
    · walk_at "go"
      refine u_take ba (by omega) (by omega) fun r H1 r0 r1 bu b => ?_
      walk_at "go"
      exact ⟨_, rfl, bu, b, by omega, by omega⟩
    rintro σ' H1 ⟨n, rfl, bu1, b1, n0, n1⟩
    have fd0 : 0 ≤ F / n ∧ F / n ≤ 12 := by
      exact ⟨Int.ediv_nonneg (by omega) (by omega), Int.le_trans (Int.ediv_le_self n (by omega)) F1⟩
    have nl : n.natAbs.log2 < 9000 := log_small (Nat.lt_of_le_of_lt (by omega : n.natAbs ≤ 6) (by decide +kernel))
    try dsimp only
    refine r_cut (fun σ' H' => ∃ u : Int, σ' = [some (.ref a), some (.ref l), some (.int m), some (.int F), some (.int n), some (.int u)] ∧ But a H H' ∧ Bag H' a ∧ 1 ≤ u ∧ u ≤ 12 ∧ n * u ≤ 12) ?_ ?_
    · walk_at "go"
      refine u_take b1 (by omega) (by omega) fun r H2 r0 r1 bu b => ?_
      walk_at "go"
      refine ⟨_, rfl, bu1.trans bu, b, by omega, by omega, ?_⟩
      have e1 : n * (F / n) ≤ F := by have := Int.mul_ediv_add_emod F n; have := Int.emod_nonneg F (show n ≠ 0 by omega); omega
      by_cases z : 1 ≤ F / n
      · have : n * (1 + r) ≤ n * (F / n) := Int.mul_le_mul_of_nonneg_left (by omega) (by omega)
        omega
      · have : r = 0 := by omega
        subst this
        omega
    clear bu1 b1 fd0
    rintro σ' H2 ⟨u, rfl, bu2, b2, u0, u1, u2⟩
    try dsimp only
    refine r_cut (fun σ' H' => ∃ u : Int, σ' = [some (.ref a), some (.ref l), some (.int m), some (.int F), some (.int n), some (.int u)] ∧ But a H H' ∧ Bag H' a ∧ -12 ≤ u ∧ u ≤ 12 ∧ -12 ≤ n * u ∧ n * u ≤ 12) ?_ ?_
    · walk_at "go"
      refine u_take b2 (by decide) (by decide) fun r H3 r0 r1 bu b => ?_
      walk_at "go"
      refine r_iteD (fun hz => ?_) (fun hz => ?_)
      · walk_at "go"
        exact ⟨_, rfl, bu2.trans bu, b, by omega, by omega, by have : 0 ≤ n * u := Int.mul_nonneg (by omega) (by omega); first | omega | (rw [Int.mul_neg]; omega), by have : 0 ≤ n * u := Int.mul_nonneg (by omega) (by omega); first | omega | (rw [Int.mul_neg]; omega)⟩
      · walk_at "go"
        exact ⟨_, rfl, bu2.trans bu, b, by omega, by omega, by have : 0 ≤ n * u := Int.mul_nonneg (by omega) (by omega); first | omega | (rw [Int.mul_neg]; omega), by have : 0 ≤ n * u := Int.mul_nonneg (by omega) (by omega); first | omega | (rw [Int.mul_neg]; omega)⟩
    clear bu2 b2 u0 u1 u2
    clear u
    rintro σ' H3 ⟨u, rfl, bu3, b3, u0, u1, u2⟩
    walk_at "go"
    refine ⟨a, l, ss, rfl, b3, la, bu3 _ _ la hl, l1, l2, nm, fun t wd nn H4 bu4 b4 iw inm ht => ?_⟩
    walk_at "go"
    intro t2 nt2
    walk_at "go"
    intro t3 nt3
    walk_at "go"
    intro t4 nt4
    have s4 := Same.new (Same.new (Same.new0 nt2 (o := .tup [.str "turn", .int u])) nt3 (o := .tup [.ref t, .ref t2])) nt4 (o := .tup [.str "repeat", .int n, .ref t3])
    refine k t4 wd nn n u _ ((bu3.trans bu4).trans (Same.but s4 a)) (b4.same s4) ⟨t4, t3, [.ref t, .ref t2], [], rfl, upd_same, h_keep upd_same nt4, ⟨t, _, rfl, s4 _ _ ht, t2, [], rfl, h_keep (h_keep upd_same nt3) nt4, rfl⟩, rfl⟩ iw inm n0 n1 u0 u1 u2
theorem ok_l_plain {f : Addr} {fd : FuncData} (d : Nat) (F : Fun K "_law_plain" "_law_plain" s_l_plain f fd) (B : Bl mg) (h_l_plain : Has P w K mg base "_law_plain" d ["_law_track", "_law_side"] (spPlLt d)) : FnOk P w K mg base CX0 (d + 1) f fd ["_law_track", "_law_side"] (spPlLt (d + 1)) := by
  refine F.ok sc_l_plain (fun vs H Q E h => ?_) (fun cdv A outer s H vs Q E hr h => ?_)
  · obtain ⟨a, p, s, rfl, _⟩ := h
    rfl
  · obtain ⟨a, p, sg, rfl, hsg, ⟨xs, hx, hp⟩, hw, hsz, k⟩ := h
    refine ⟨_, (pss_cons (ps_set (i := 2) sc_l_plain.nd rfl (.inl rfl) (pe_lst pa_nil))
    (pss_cons (ps_for PassesOwn.never rfl (pi_tup (pv 0)) (pg_name (i := 3) sc_l_plain.nd rfl (.inl rfl))
    (pss_one (ps_if (pt_cmpR op_eq (pe_ix (ix_tupK (K := K)) (pv 3) pe_int (fun _ _ => rfl)) pe_str (nomark _))
    (pss_one (ps_set (i := 2) sc_l_plain.nd rfl (.inl rfl) (pe_op op_cat (pv 2) (pe_op op_rep (pe_callH h_l_plain (hr.mono (by first | decide | omega)) (pa_cons (pe_ix (ix_tupK (K := K)) (pv 3) pe_int (fun _ _ => rfl)) (pa_cons (pv 1) pa_nil))) (pe_ix (ix_tupK (K := K)) (pv 3) pe_int (fun _ _ => rfl))))))
    (pss_one (ps_if (pt_cmpR op_eq (pe_ix (ix_tupK (K := K)) (pv 3) pe_int (fun _ _ => rfl)) pe_str (nomark _))
    (pss_one (ps_set (i := 2) sc_l_plain.nd rfl (.inl rfl) (pe_op op_cat (pv 2) (pe_callH h_l_plain (hr.mono (by first | decide | omega)) (pa_cons (pe_ix (ix_tupK (K := K)) (pv 3) pe_int (fun _ _ => rfl)) (pa_cons (pe_un un_neg (pv 1)) pa_nil))))))
    (pss_one (ps_if (pt_cmpR op_eq (pe_ix (ix_tupK (K := K)) (pv 3) pe_int (fun _ _ => rfl)) pe_str (nomark _))
    (pss_one (ps_expr (pe_bm PySem.F.plainAttrs_list PySem.F.slot_list_append PySem.F.type_list_append mt_append (pv 2) (pa_cons (pe_tup (pa_cons pe_str (pa_cons (pe_op op_mul (pv 1) (pe_ix (ix_tupK (K := K)) (pv 3) pe_int (fun _ _ => rfl))) pa_nil))) pa_nil))))
    (pss_one (ps_expr (pe_bm PySem.F.plainAttrs_list PySem.F.slot_list_append PySem.F.type_list_append mt_append (pv 2) (pa_cons (pv 3) pa_nil)))))))))))
    (pss_one (ps_ret (pv 2))))), ?_⟩
    walk_at "go"
    intro m0 nm0
    walk_at "go"
    have hx0 : upd H m0 (.lst []) a = some (.tup xs) := h_keep hx nm0
    have t0 : Tk H (upd H m0 (.lst [])) := (Tk.refl H).new nm0
    refine u_forPr hx0 (hp.tk t0) (fun r σ H' => ∃ (m : Addr) (u : Prog) (ys : List V) (y3 : Option V), σ = [some (.ref a), some (.int sg), some (.ref m), y3] ∧ H m = none ∧ Wf BC BC d r ∧ u.app (Prog.unroll sg r) = Prog.unroll sg p ∧ (u.len : Int) + r.size = p.size ∧ Same H H' ∧ Tk (upd H m0 (.lst [])) H' ∧ H' m = some (.lst ys) ∧ PrAt H' u ys) ?_ ?_ ?_ ?_
    · exact ⟨m0, .nil, [], none, rfl, nm0, hw, rfl, by rw [Prog.len]; omega, Same.new0 nm0, Tk.refl _, upd_same, rfl⟩
    · rintro r σ H' ⟨m, u, ys, y3, rfl, _, _, _, _, _, t, _⟩
      exact t
    · rintro x r r' σ H' hf ⟨m, u, ys, y3, rfl, nm, hw', eu, es, sm, tk, hm, hu⟩
      have yl : ys.length = u.len := hu.length
      cases r with
      | nil => exact hf.elim
      | step w' n r =>
        obtain ⟨c, rfl, h1, rfl⟩ := hf
        obtain ⟨w1, w2, w3⟩ := WfL.step_iff.mp hw'
        obtain ⟨n1, n2, n3⟩ := word_ne w1
        rw [Prog.size] at es
        have r0 := Prog.size_nonneg w3
        walk_at "go"
        have t1 : Tk H' (upd H' m (.lst (ys ++ [.ref c]))) := (Tk.refl _).lst hm
        refine ⟨m, u.app (.step w' n .nil), _, _, rfl, nm, w3, ?_, ?_, Same.put sm nm, tk.trans t1, upd_same, (hu.tk t1).app ⟨c, [], rfl, t1 _ _ h1, rfl⟩⟩
        · rw [← eu, Prog.app_assoc, Prog.unroll]; rfl
        · rw [Prog.len_app]; show ((u.len + 1 : Nat) : Int) + _ = _; omega
      | turn k' r =>
        obtain ⟨c, rfl, h1, rfl⟩ := hf
        obtain ⟨w1, w3⟩ := WfL.turn_iff.mp hw'
        rw [Prog.size] at es
        have r0 := Prog.size_nonneg w3
        have msg : CMul sg k' := .inl ⟨by omega, by omega⟩
        walk_at "go"
        intro c2 nc2
        have hm2 : (upd H' c2 (.tup [.str "turn", .int (sg * k')])) m = some (.lst ys) := h_keep hm nc2
        walk_at "go"
        have ncm : c2 ≠ m := (ne_of_none hm nc2).symm
        have t1 : Tk H' (upd (upd H' c2 (.tup [.str "turn", .int (sg * k')])) m (.lst (ys ++ [.ref c2]))) := ((Tk.refl _).new nc2).lst (h_keep hm nc2)
        refine ⟨m, u.app (.turn (sg * k') .nil), _, _, rfl, nm, w3, ?_, ?_, Same.put (Same.new sm nc2) nm, tk.trans t1, upd_same, (hu.tk t1).app ⟨c2, [], rfl, (upd_ne ncm).trans upd_same, rfl⟩⟩
        · rw [← eu, Prog.app_assoc, Prog.unroll]; rfl
        · rw [Prog.len_app]; show ((u.len + 1 : Nat) : Int) + _ = _; omega
      | rep k' b r =>
        obtain ⟨c, q, rfl, h1, h2, rfl⟩ := hf
        cases d with
        | zero => exact hw'.elim
        | succ d =>
          obtain ⟨w1, w2, w3, w4⟩ := hw'
          rw [Prog.size] at es
          have r0 := Prog.size_nonneg w4
          have b0 := Prog.size_nonneg w3
          have b1 : 1 * b.size ≤ k' * b.size := Int.mul_le_mul_of_nonneg_right w1.1 b0
          have bl := Prog.len_le_size w3
          have kk : k' * 1 ≤ k' * b.size := Int.mul_le_mul_of_nonneg_left (by omega) (by omega)
          walk_at "go"
          refine ⟨q, b, sg, rfl, hsg, h2, w3, by omega, fun l zs H2 nl s2 hl hz => ?_⟩
          have zl : zs.length = (Prog.unroll sg b).len := hz.length
          have ul := Prog.len_unroll sg w3
          have zk : ((zs.length * k'.toNat : Nat) : Int) = k' * b.size := by rw [Int.natCast_mul, zl, ul, Int.toNat_of_nonneg (by omega), Int.mul_comm]
          walk_at "go"
          refine r_rep hl (by omega) (by omega) (by omega) fun l2 nl2 => ?_
          have hz2 : PrAt (upd H2 l2 (.lst (List.replicate k'.toNat zs).flatten)) (Prog.times k'.toNat (Prog.unroll sg b)) (List.replicate k'.toNat zs).flatten := (hz.times k'.toNat).tk ((Tk.refl _).new nl2)
          have zl2 : (List.replicate k'.toNat zs).flatten.length = k'.toNat * zs.length := by rw [hz2.length, Prog.len_times, zl]
          have zl3 : k'.toNat * zs.length = zs.length * k'.toNat := Nat.mul_comm _ _
          have sR := Same.new (sm.trans s2) nl2 (o := .lst (List.replicate k'.toNat zs).flatten)
          refine r_cat (h_keep (s2 _ _ hm) nl2) upd_same (by omega) fun m2 nm2 => ?_
          walk_at "go"
          have s3 := Same.new sR nm2 (o := .lst (ys ++ (List.replicate k'.toNat zs).flatten))
          have tkm : Tk H' (upd (upd H2 l2 (.lst (List.replicate k'.toNat zs).flatten)) m2 (.lst (ys ++ (List.replicate k'.toNat zs).flatten))) := ((Tk.same s2).new nl2).new nm2
          refine ⟨m2, u.app (Prog.times k'.toNat (Prog.unroll sg b)), _, _, rfl, free_same sR nm2, w4, ?_, ?_, s3, tk.trans tkm, upd_same, (hu.tk tkm).app (hz2.tk ((Tk.refl _).new nm2))⟩
          · rw [← eu, Prog.app_assoc, Prog.unroll]
          · rw [Prog.len_app, Prog.len_times, Int.natCast_add, Int.natCast_mul, ul, Int.toNat_of_nonneg (by omega)]
            omega
      | mir b r =>
        obtain ⟨c, q, rfl, h1, h2, rfl⟩ := hf
        cases d with
        | zero => exact hw'.elim
        | succ d =>
          obtain ⟨w2, w3, w4⟩ := hw'
          rw [Prog.size] at es
          have r0 := Prog.size_nonneg w4
          have b0 := Prog.size_nonneg w3
          walk_at "go"
          refine ⟨q, b, -sg, rfl, by omega, h2, w3, by omega, fun l zs H2 nl s2 hl hz => ?_⟩
          have zl : zs.length = (Prog.unroll (-sg) b).len := hz.length
          have ul := Prog.len_unroll (-sg) w3
          walk_at "go"
          intro m2 nm2
          walk_at "go"
          have s3 := Same.new (sm.trans s2) nm2 (o := .lst (ys ++ zs))
          have tkm : Tk H' (upd H2 m2 (.lst (ys ++ zs))) := (Tk.same s2).new nm2
          refine ⟨m2, u.app (Prog.unroll (-sg) b), _, _, rfl, free_same (sm.trans s2) nm2, w4, ?_, ?_, s3, tk.trans tkm, upd_same, (hu.tk tkm).app (hz.tk ((Tk.refl _).new nm2))⟩
          · rw [← eu, Prog.app_assoc, Prog.unroll]
          · rw [Prog.len_app]; omega
    · rintro σ H' ⟨m, u, ys, y3, rfl, nm, hw', eu, es, sm, tk, hm, hu⟩
      rw [Prog.unroll, Prog.app_nil] at eu
      subst eu
      walk_at "go"
      exact k m ys _ nm sm hm hu
theorem has_plain {f : Addr} {fd : FuncData} (F : Fun K "_law_plain" "_law_plain" s_l_plain f fd) (B : Bl mg) (g : mg "_law_plain" = some (.ref f)) (b : Binds K fd ["_law_track", "_law_side"] []) : ∀ d, Has P w K mg base "_law_plain" d ["_law_track", "_law_side"] (spPlLt d)
  | 0 => has_false g F.kp b
  | d + 1 => ⟨f, fd, ok_l_plain d F B (has_plain F B g b d), g, F.kp, b⟩
end

set_option Elab.async false
set_option linter.all false
set_option maxRecDepth 100000
set_option maxHeartbeats 8000000
set_option pp.deepTerms false
set_option pp.deepTerms.threshold 12
set_option pp.maxSteps 1200

open PySem PySem.Spec PyProof.Rows L2
def spSummedL : Sp := fun vs H Q _ => ∃ (a : Addr) (xs : List V) (ks : List Int), vs = [.ref a] ∧ H a = some (.lst xs) ∧ Each (TurnV H) xs ks ∧ xs.length ≤ 4000 ∧ ∀ H', Same H H' → Q (.int ks.sum) H'
theorem turns_each {H : Hp} : ∀ {p : Prog} {xs : List V}, PrAt H p xs → p.turnsOnly → ∃ ks : List Int, Each (TurnV H) xs ks ∧ ks.sum = p.head ∧ p.allTurn = true
  | .nil, xs, h, _ => by
    obtain rfl : xs = [] := h
    exact ⟨[], .nil, rfl, rfl⟩
  | .turn k r, xs, h, t => by
    obtain ⟨c, ys, rfl, h1, h2⟩ := h
    obtain ⟨ks, e1, e2, e3⟩ := turns_each h2 t.2.2
    exact ⟨k :: ks, EachC ⟨c, rfl, h1⟩ e1, by rw [List.sum_cons, e2, Prog.head], by rw [Prog.allTurn]; exact e3⟩
  | .step _ _ _, _, _, t => t.elim
  | .rep _ _ _, _, _, t => t.elim
  | .mir _ _, _, _, t => t.elim
/-- a chain about a chain: rounds (or a mirror) between turns -/
theorem sp_wrapR {a z b : Prog} {k : Int} (ha : a.allTurn = true) (hz : z.allTurn = true) : (a.app (.rep k b z)).sp = some (a.head, some k, b.chain) := by
  induction a with
  | nil =>
    rw [Prog.app, Prog.sp, if_pos hz, Prog.head]
    rfl
  | turn j r ih =>
    rw [Prog.allTurn] at ha
    rw [Prog.app, Prog.sp, ih ha, Prog.head]
    rfl
  | step _ _ _ _ => cases ha
  | rep _ _ _ _ _ => cases ha
  | mir _ _ _ _ => cases ha
theorem sp_wrapM {a z b : Prog} (ha : a.allTurn = true) (hz : z.allTurn = true) : (a.app (.mir b z)).sp = some (a.head, none, b.chain) := by
  induction a with
  | nil =>
    rw [Prog.app, Prog.sp, if_pos hz, Prog.head]
    rfl
  | turn j r ih =>
    rw [Prog.allTurn] at ha
    rw [Prog.app, Prog.sp, ih ha, Prog.head]
    rfl
  | step _ _ _ _ => cases ha
  | rep _ _ _ _ _ => cases ha
  | mir _ _ _ _ => cases ha
section
variable {P : Program} {w : World} {K : PySem.W.Frag} {mg : Str → Option Value} {base : Heap} {C : Addr}

local macro_rules | `(tactic| walk_at "s") => `(tactic| (first
  | (with_reducible refine r_dnew ?_)
  | (with_reducible refine r_dget2 ?_)
  | (with_reducible refine r_dget ?_)
  | (with_reducible refine r_dput ?_)
  | (with_reducible refine r_dsetd ?_)
  | ((with_reducible refine JarAt.isD (n := ?nn) (c := ?cc) ?hh ?_); (case hh => assumption))
  ))

theorem ok_l_fits {f : Addr} {fd : FuncData} (F : Fun K "_law_fits" "_law_fits" s_l_fits f fd) (h_l_bulk : Has P w K mg base "_law_bulk" 13 ["_law_track"] (spNumLt Prog.size 13)) (h_l_plain : Has P w K mg base "_law_plain" 13 ["_law_track", "_law_side"] (spPlLt 13)) : FnOk P w K mg base CX0 14 f fd ["_law_track"] spShort := by
  refine F.ok sc_l_fits (fun vs H Q E h => ?_) (fun cdv A outer s H vs Q E hr h => ?_)
  · obtain ⟨q, p, rfl, _⟩ := h
    rfl
  · obtain ⟨q, p, rfl, hq, hw, hl, k⟩ := h
    refine ⟨_, (pss_cons (ps_if (pt_cmpR op_gt (pe_callH h_l_bulk (hr.mono (by first | decide | omega)) (pa_cons (pv 0) pa_nil)) pe_int (nomark _))
    (pss_one (ps_ret pe_bl))
    pss_nil)
    (pss_cons (ps_set (i := 1) sc_l_fits.nd rfl (.inl rfl) pe_int)
    (pss_cons (ps_for PassesOwn.never rfl (pi_list (pe_callH h_l_plain (hr.mono (by first | decide | omega)) (pa_cons (pv 0) (pa_cons pe_int pa_nil)))) (pg_name (i := 2) sc_l_fits.nd rfl (.inl rfl))
    (pss_one (ps_if (pt_cmpR op_eq (pe_ix (ix_tupK (K := K)) (pv 2) pe_int (fun _ _ => rfl)) pe_str (nomark _))
    (pss_cons (ps_set (i := 1) sc_l_fits.nd rfl (.inl rfl) (pe_op op_add (pv 1) (pe_ix (ix_tupK (K := K)) (pv 2) pe_int (fun _ _ => rfl))))
    (pss_one (ps_if (PW.pt (pw_or (pt_cmpR op_lt (pv 1) (pe_un un_neg pe_int) (nomark _)) (pw_or1 (pt_cmpR op_gt (pv 1) pe_int (nomark _)))))
    (pss_one (ps_ret pe_bl))
    pss_nil)))
    pss_nil)))
    (pss_one (ps_ret pe_bl))))), ?_⟩
    walk_at "go"
    refine ⟨q, p, rfl, hq, hw, hl, by decide, ?_⟩
    walk_at "go"
    refine r_iteD (fun hs => ?_) (fun hs => ?_)
    · walk_at "go"
      have := k H (Same.refl _)
      rw [Prog.short, if_pos hs] at this
      exact this
    · walk_at "go"
      refine ⟨q, p, 1, rfl, .inl rfl, hq, hw, by omega, fun l xs H1 nl s1 hl1 hp1 => ?_⟩
      have wu : Wf BC BC 0 (Prog.unroll 1 p) := Prog.wf_unroll (.inl rfl) hw
      walk_at "go"
      refine u_forPrL hl1 hp1 (fun r σ H' => ∃ (now : Int) (y : Option V), σ = [some (.ref q), some (.int now), y] ∧ Same H1 H' ∧ Wf BC BC 0 r ∧ Prog.wayOk now r = p.short) ?_ ?_ ?_ ?_
      · exact ⟨0, _, rfl, Same.refl _, wu, by rw [Prog.short, if_neg hs]⟩
      · rintro r σ H' ⟨now, y, rfl, sm, _⟩
        exact ⟨Tk.same sm, sm _ _ hl1⟩
      · rintro x r r' σ H' hf ⟨now, y, rfl, sm, wr, e⟩
        cases r with
        | nil => exact hf.elim
        | step w' n r =>
          obtain ⟨c, rfl, hc1, rfl⟩ := hf
          obtain ⟨g1, g2, g3⟩ := WfL.step_iff.mp wr
          obtain ⟨n1, n2, n3⟩ := word_ne g1
          walk_at "go"
          exact ⟨now, _, rfl, sm, g3, by rw [← e, Prog.wayOk]⟩
        | turn k' r =>
          obtain ⟨c, rfl, hc1, rfl⟩ := hf
          have g3 := (WfL.turn_iff.mp wr).2
          rw [Prog.wayOk] at e
          walk_at "go"
          refine r_iteD (fun h1 => ?_) (fun h1 => ?_)
          · walk_at "go"
            have := k H' (s1.trans sm)
            rw [← e, if_pos (by omega)] at this
            exact this
          · walk_at "go"
            refine r_iteD (fun h2 => ?_) (fun h2 => ?_)
            · walk_at "go"
              have := k H' (s1.trans sm)
              rw [← e, if_pos (by omega)] at this
              exact this
            · walk_at "go"
              rw [if_neg (by omega)] at e
              exact ⟨now + k', _, rfl, sm, g3, e⟩
        | rep k' b' r => exact wr.elim
        | mir b' r => exact wr.elim
      · rintro σ H' ⟨now, y, rfl, sm, wr, e⟩
        walk_at "go"
        rw [Prog.wayOk] at e
        have := k H' (s1.trans sm)
        rw [← e] at this
        exact this
theorem ok_l_summed {f : Addr} {fd : FuncData} (F : Fun K "_law_summed" "_law_summed" s_l_summed f fd) (bSum : mg "sum" = none) : FnOk P w K mg base CX0 1 f fd ["_law_commands"] spSummedL := by
  refine F.ok sc_l_summed (fun vs H Q E h => ?_) (fun cdv A outer s H vs Q E hr h => ?_)
  · obtain ⟨a, xs, ks, rfl, _⟩ := h
    rfl
  · obtain ⟨a, xs, ks, rfl, ha, he, hl, k⟩ := h
    refine ⟨_, (pss_one (ps_ret (pe_callB (call_sumK (K := K)) (by rfl) bSum (by decide +kernel) (pa_cons (pe_lc (own := [("_law_command", 1)]) rfl sc_l_summed.nd (pi_list (pv 0)) (blkOk_by (N := ["_law_commands", "_law_command"]) (sc := defScope s_l_summed) (by decide +kernel)) (fun _ _ _ _ _ => (pg_name (i := 1) sc_l_summed.nd rfl (.inl rfl))) (fun _ _ _ _ _ => pts_nil) (fun _ _ _ _ _ => (pe_ix (ix_tupK (K := K)) (pv 1) pe_int (fun _ _ => rfl)))) pa_nil)))), ?_⟩
    walk_at "go"
    refine u_lcL (SqL.of ha) (fun D i acc H' => acc = (ks.take i).map V.int ∧ Same H H') ?_ ?_ ?_ ?_
    · exact fun D hD => ⟨rfl, Same.new0 hD⟩
    · rintro D i acc H' hD hacc ⟨_, s1⟩
      exact SqL.of (s1 _ _ ha)
    · rintro D i x acc H' hD hx hacc ⟨rfl, s1⟩
      have hi : i < xs.length := by
        refine Decidable.byContradiction fun z => ?_
        rw [List.getElem?_eq_none (by omega)] at hx
        cases hx
      obtain ⟨k', hk⟩ : ∃ k', ks[i]? = some k' := ⟨ks[i]'(by rw [← he.1]; exact hi), List.getElem?_eq_getElem _⟩
      obtain ⟨t, rfl, ht⟩ := he.2 i x k' hx hk
      have ht' := s1 _ _ ht
      walk_at "go"
      refine ⟨rfl, ?_⟩
      walk_at "go"
      refine u_push hacc (by rw [List.length_map, List.length_take]; omega) ⟨?_, Same.put s1 hD⟩
      rw [List.take_add_one, hk, List.map_append]
      rfl
    · rintro D acc H' hD hacc ⟨rfl, s1⟩
      walk_at "go"
      rw [he.1, List.take_length] at hacc
      refine r_sum (.of hacc) ?_
      walk_at "go"
      exact k _ s1
end

set_option Elab.async false
set_option linter.all false
set_option maxRecDepth 100000
set_option maxHeartbeats 8000000
set_option pp.deepTerms false
set_option pp.deepTerms.threshold 12
set_option pp.maxSteps 1200

open PySem PySem.Spec PyProof.Rows L2
/-- one wrap about a program: turns, how often (0: a mirror), turns; none of its lists is at b -/
structure Wrap where
  a : Prog
  n : Int
  z : Prog
structure WrapOk (x : Wrap) : Prop where
  ta : x.a.turnsOnly
  tz : x.z.turnsOnly
  la : x.a.len ≤ 5
  lz : x.z.len ≤ 5
  n0 : 0 ≤ x.n
  n1 : x.n ≤ 1000000000000000000000000000001
def WrapV (H : Hp) (b : Addr) (v : V) (x : Wrap) : Prop := ∃ (t la lz : Addr) (xa xz : List V), v = .ref t ∧ la ≠ b ∧ lz ≠ b ∧ H t = some (.tup [.ref la, .int x.n, .ref lz]) ∧ H la = some (.lst xa) ∧ PrAt H x.a xa ∧ H lz = some (.lst xz) ∧ PrAt H x.z xz ∧ WrapOk x
theorem WrapV.bag {H H' : Hp} {b : Addr} {v : V} {x : Wrap} (h : WrapV H b v x) (s : But b H H') (g : Bag H b) : WrapV H' b v x :=
  let ⟨t, la, lz, xa, xz, e, n1, n2, e1, e2, e3, e4, e5, e6⟩ := h
  ⟨t, la, lz, xa, xz, e, n1, n2, Tk.but s g _ _ e1, s _ _ n1 e2, e3.tk (Tk.but s g), s _ _ n2 e4, e5.tk (Tk.but s g), e6⟩
theorem WrapV.same {H H' : Hp} {b : Addr} {v : V} {x : Wrap} (h : WrapV H b v x) (s : Same H H') : WrapV H' b v x :=
  let ⟨t, la, lz, xa, xz, e, n1, n2, e1, e2, e3, e4, e5, e6⟩ := h
  ⟨t, la, lz, xa, xz, e, n1, n2, s _ _ e1, s _ _ e2, e3.tk (Tk.same s), s _ _ e4, e5.tk (Tk.same s), e6⟩
/-- under a change of a list that is none of its own -/
theorem WrapV.put {H : Hp} {b l : Addr} {v : V} {x : Wrap} {xs : List V} {o : HO} (h : ∃ (t la lz : Addr) (xa xz : List V), la ≠ l ∧ lz ≠ l ∧ v = .ref t ∧ la ≠ b ∧ lz ≠ b ∧ H t = some (.tup [.ref la, .int x.n, .ref lz]) ∧ H la = some (.lst xa) ∧ PrAt H x.a xa ∧ H lz = some (.lst xz) ∧ PrAt H x.z xz ∧ WrapOk x) (e : H l = some (.lst xs)) : WrapV (upd H l o) b v x := by
  obtain ⟨t, la, lz, xa, xz, m1, m2, e0, n1, n2, e1, e2, e3, e4, e5, e6⟩ := h
  exact ⟨t, la, lz, xa, xz, e0, n1, n2, (Tk.refl H).lst e _ _ e1, (upd_ne m1).trans e2, e3.tk ((Tk.refl H).lst e), (upd_ne m2).trans e4, e5.tk ((Tk.refl H).lst e), e6⟩
def WrapL (H : Hp) (b l : Addr) (v : V) (x : Wrap) : Prop := ∃ (t la lz : Addr) (xa xz : List V), la ≠ l ∧ lz ≠ l ∧ v = .ref t ∧ la ≠ b ∧ lz ≠ b ∧ H t = some (.tup [.ref la, .int x.n, .ref lz]) ∧ H la = some (.lst xa) ∧ PrAt H x.a xa ∧ H lz = some (.lst xz) ∧ PrAt H x.z xz ∧ WrapOk x
theorem WrapL.v {H : Hp} {b l : Addr} {v : V} {x : Wrap} (h : WrapL H b l v x) : WrapV H b v x :=
  let ⟨t, la, lz, xa, xz, _, _, r⟩ := h
  ⟨t, la, lz, xa, xz, r⟩
theorem WrapL.put {H : Hp} {b l : Addr} {v : V} {x : Wrap} {xs : List V} {o : HO} (h : WrapL H b l v x) (e : H l = some (.lst xs)) : WrapL (upd H l o) b l v x := by
  obtain ⟨t, la, lz, xa, xz, m1, m2, e0, n1, n2, e1, e2, e3, e4, e5, e6⟩ := h
  exact ⟨t, la, lz, xa, xz, m1, m2, e0, n1, n2, (Tk.refl H).lst e _ _ e1, (upd_ne m1).trans e2, e3.tk ((Tk.refl H).lst e), (upd_ne m2).trans e4, e5.tk ((Tk.refl H).lst e), e6⟩
theorem WrapL.bag {H H' : Hp} {b l : Addr} {v : V} {x : Wrap} (h : WrapL H b l v x) (s : But b H H') (g : Bag H b) : WrapL H' b l v x := by
  obtain ⟨t, la, lz, xa, xz, m1, m2, e0, n1, n2, e1, e2, e3, e4, e5, e6⟩ := h
  exact ⟨t, la, lz, xa, xz, m1, m2, e0, n1, n2, Tk.but s g _ _ e1, s _ _ n1 e2, e3.tk (Tk.but s g), s _ _ n2 e4, e5.tk (Tk.but s g), e6⟩
/-- a little under the bounds of a wrap -/
def WrapT (x : Wrap) : Prop := x.n ≤ 1000000000000000000000000000000 ∧ x.a.len ≤ 4 ∧ x.z.len ≤ 4
def spWraps : Sp := fun vs H Q _ => ∃ (a : Addr) (m z : Int), vs = [.ref a, .int m, .int z] ∧ Bag H a ∧ 0 ≤ m ∧ m ≤ 20 ∧ ∀ (l : Addr) (xs : List V) (ws : List Wrap) H', But a H H' → Bag H' a → H l = none → H' l = some (.lst xs) → Each (WrapL H' a l) xs ws → (ws.length : Int) ≤ m → (∀ x ∈ ws, WrapT x) → Q (.ref l) H'
section
variable {P : Program} {w : World} {K : PySem.W.Frag} {mg : Str → Option Value} {base : Heap} {C : Addr}

local macro_rules | `(tactic| walk_at "s") => `(tactic| (first
  | (with_reducible refine r_dnew ?_)
  | (with_reducible refine r_dget2 ?_)
  | (with_reducible refine r_dget ?_)
  | (with_reducible refine r_dput ?_)
  | (with_reducible refine r_dsetd ?_)
  | ((with_reducible refine JarAt.isD (n := ?nn) (c := ?cc) ?hh ?_); (case hh => assumption))
  ))

theorem ok_l_wraps {f : Addr} {fd : FuncData} (F : Fun K "_law_wraps" "_law_wraps" s_l_wraps f fd) (bRange : mg "range" = none) (bInt : mg "int" = none) (h_l_take : Has P w K mg base "_law_take" 1 ["_law_pot_here", "_law_many"] spTake) (h_l_often : Has P w K mg base "_law_often" 2 ["_law_pot_here", "_law_kind"] spOften) (h_l_turns : Has P w K mg base "_law_turns" 2 ["_law_pot_here", "_law_most", "_law_kind"] spTurns) : FnOk P w K mg base CX0 3 f fd ["_law_pot_here", "_law_most", "_law_kind"] spWraps := by
  refine F.ok sc_l_wraps (fun vs H Q E h => ?_) (fun cdv A outer s H vs Q E hr h => ?_)
  · obtain ⟨a, m, z, rfl, _⟩ := h
    rfl
  · obtain ⟨a, m, z, rfl, ba, m0, m1, k⟩ := h
    refine ⟨_, (pss_cons (ps_set (i := 3) sc_l_wraps.nd rfl (.inl rfl) (pe_lst pa_nil))
    (pss_cons (ps_for PassesOwn.never rfl (pi_range1 (by rfl) bRange (pa_cons (pe_callH h_l_take (hr.mono (by first | decide | omega)) (pa_cons (pv 0) (pa_cons (pe_op op_add (pv 1) pe_int) pa_nil))) pa_nil)) (pg_name (i := 4) sc_l_wraps.nd rfl (.inl rfl))
    (pss_cons (ps_set (i := 5) sc_l_wraps.nd rfl (.inl rfl) pe_int)
    (pss_cutM (ps_if (pt_cmpR op_gt (pe_callH h_l_take (hr.mono (by first | decide | omega)) (pa_cons (pv 0) (pa_cons pe_int pa_nil))) pe_int (nomark _))
    (pss_cons (ps_set (i := 5) sc_l_wraps.nd rfl (.inl rfl) (pe_callH h_l_often (hr.mono (by first | decide | omega)) (pa_cons (pv 0) (pa_cons (pv 2) pa_nil))))
    (pss_one (ps_if (pt_cmpR op_gt (pv 4) pe_int (nomark _))
    (pss_one (ps_set (i := 5) sc_l_wraps.nd rfl (.inl rfl) (pe_op op_add pe_int (pe_op op_mod (pe_callTy call_intI (by rfl) bInt (by decide +kernel) (pa_cons (pv 5) pa_nil)) pe_int))))
    pss_nil)))
    pss_nil)
    (pss_one (ps_expr (pe_bm PySem.F.plainAttrs_list PySem.F.slot_list_append PySem.F.type_list_append mt_append (pv 3) (pa_cons (pe_tup (pa_cons (pe_callH h_l_turns (hr.mono (by first | decide | omega)) (pa_cons (pv 0) (pa_cons pe_int (pa_cons (pv 2) pa_nil)))) (pa_cons (pv 5) (pa_cons (pe_callH h_l_turns (hr.mono (by first | decide | omega)) (pa_cons (pv 0) (pa_cons pe_int (pa_cons (pv 2) pa_nil)))) pa_nil)))) pa_nil)))))))
    (pss_one (ps_ret (pv 3))))), ?_⟩
    walk_at "go"
    intro l nl
    have la : l ≠ a := ba.ne nl
    have hl : (upd H l (.lst [])) l = some (.lst []) := upd_same
    have b1 := ba.keep nl (o := .lst [])
    have bu1 := (But.refl a H).new nl (o := .lst [])
    generalize upd H l _ = H1 at *
    walk_at "go"
    refine u_take b1 (by omega) (by omega) fun r H2 r0 r1 bu2 b2 => ?_
    have hl2 := bu2 _ _ la hl
    walk_at "go"
    refine u_for1 (by omega) (fun i σ H' => ∃ (xs : List V) (ws : List Wrap) (y y2 : Option V), σ = [some (.ref a), some (.int m), some (.int z), some (.ref l), y, y2] ∧ But a H H' ∧ Bag H' a ∧ H' l = some (.lst xs) ∧ Each (WrapL H' a l) xs ws ∧ ws.length = i ∧ ∀ x ∈ ws, WrapT x) ⟨[], [], _, _, rfl, bu1.trans bu2, b2, hl2, .nil, rfl, by simp⟩ ?_ ?_
    · rintro i σ H' hi ⟨xs, ws, y, y2, rfl, bu, bg, hl, hw, lw, wt⟩
      walk_at "go"
      refine r_cut (fun σ' H3 => ∃ n : Int, σ' = [some (.ref a), some (.int m), some (.int z), some (.ref l), some (.int i), some (.int n)] ∧ But a H' H3 ∧ Bag H3 a ∧ 0 ≤ n ∧ n ≤ 1000000000000000000000000000000) ?_ ?_
      · walk_at "go"
        refine u_take bg (by decide) (by decide) fun r2 H3 r20 r21 bu3 b3 => ?_
        walk_at "go"
        refine r_iteD (fun hz => ?_) (fun hz => ?_)
        · walk_at "go"
          refine ⟨a, z, rfl, b3, fun n H4 n0 n1 bu4 b4 => ?_⟩
          walk_at "go"
          refine r_iteD (fun h2 => ?_) (fun h2 => ?_)
          · walk_at "go"
            refine ⟨_, rfl, bu3.trans bu4, b4, by omega, by omega⟩
          · walk_at "go"
            refine ⟨_, rfl, bu3.trans bu4, b4, by omega, by omega⟩
        · walk_at "go"
          exact ⟨0, rfl, bu3, b3, by omega, by omega⟩
      rintro σ' H3 ⟨n, rfl, bu3, b3, n0, n1⟩
      have hl3 := bu3 _ _ la hl
      try dsimp only
      walk_at "go"
      refine ⟨a, 3, z, rfl, b3, by decide, by decide, fun l4 x4 p4 H4 bu4 b4 nl4 hl4 hp4 tp4 lp4 => ?_⟩
      have hl4' := bu4 _ _ la hl3
      walk_at "go"
      refine ⟨a, 1, z, rfl, b4, by decide, by decide, fun l5 x5 p5 H5 bu5 b5 nl5 hl5 hp5 tp5 lp5 => ?_⟩
      have a4 := b3.ne nl4
      have a5 := b4.ne nl5
      have hl5' := bu5 _ _ la hl4'
      have hl45 := bu5 _ _ a4 hl4
      have hp45 := hp4.tk (Tk.but bu5 b4)
      walk_at "go"
      intro t nt
      have sT := Same.new0 (o := .tup [.ref l4, .int n, .ref l5]) nt
      have ne4 : l4 ≠ l := (ne_of_none hl3 nl4).symm
      have ne5 : l5 ≠ l := (ne_of_none hl4' nl5).symm
      have hT : (upd H5 t (.tup [.ref l4, .int n, .ref l5])) t = some (.tup [.ref l4, .int n, .ref l5]) := upd_same
      have hlT := sT _ _ hl5'
      have xl : xs.length ≤ 20 := by rw [hw.1]; omega
      walk_at "go"
      have hw5 : Each (WrapL (upd H5 t (.tup [.ref l4, .int n, .ref l5])) a l) xs ws := hw.imp fun v x _ h => by
        have h1 := ((h.bag bu3 bg).bag bu4 b3).bag bu5 b4
        obtain ⟨t', la, lz, xa, xz, m1, m2, e0, n1, n2, e1, e2, e3, e4, e5, e6⟩ := h1
        exact ⟨t', la, lz, xa, xz, m1, m2, e0, n1, n2, sT _ _ e1, sT _ _ e2, e3.tk (Tk.same sT), sT _ _ e4, e5.tk (Tk.same sT), e6⟩
      have hn : WrapL (upd H5 t (.tup [.ref l4, .int n, .ref l5])) a l (.ref t) ⟨p4, n, p5⟩ := ⟨t, l4, l5, x4, x5, ne4, ne5, rfl, a4, a5, hT, sT _ _ hl45, hp45.tk (Tk.same sT), sT _ _ hl5, hp5.tk (Tk.same sT), ⟨tp4, tp5, by show p4.len ≤ 5; omega, by show p5.len ≤ 5; omega, n0, by show n ≤ _; omega⟩⟩
      refine ⟨xs ++ [.ref t], ws ++ [⟨p4, n, p5⟩], _, _, rfl, ((((bu.trans bu3).trans bu4).trans bu5).new nt).put nl, (b5.keep nt).upd la.symm, upd_same, Each.app (hw5.imp fun v x _ h => h.put hlT) (EachC (hn.put hlT) .nil), by rw [List.length_append, lw]; rfl, fun x hx => ?_⟩
      rcases List.mem_append.mp hx with hx | hx
      · exact wt x hx
      · rw [List.mem_singleton.mp hx]
        exact ⟨n1, by show p4.len ≤ 4; omega, by show p5.len ≤ 4; omega⟩
    · rintro σ H' ⟨xs, ws, y, y2, rfl, bu, bg, hl, hw, lw, wt⟩
      walk_at "go"
      exact k l xs ws H' bu bg nl hl hw (by omega) wt
end

set_option Elab.async false
set_option linter.all false
set_option maxRecDepth 100000
set_option maxHeartbeats 4000000

open PySem PySem.Spec PyProof.Rows L2
section
variable {P : Program} {w : World} {K : PySem.W.Frag} {mg : Str → Option Value} {base : Heap} {C : Addr}

local macro_rules | `(tactic| walk_at "s") => `(tactic| (first
  | (with_reducible refine r_dnew ?_)
  | (with_reducible refine r_dget2 ?_)
  | (with_reducible refine r_dget ?_)
  | (with_reducible refine r_dput ?_)
  | (with_reducible refine r_dsetd ?_)
  | ((with_reducible refine JarAt.isD (n := ?nn) (c := ?cc) ?hh ?_); (case hh => assumption))
  ))

local macro_rules | `(tactic| walk_at "s") => `(tactic| (first
  | (with_reducible refine r_prop ?_)
  | (with_reducible refine r_meth ?_)
  | (with_reducible refine r_make ?_)
  | (with_reducible refine r_fld ?_)
  | (with_reducible refine r_sfld ?_)
  | (with_reducible refine r_iOwn ?_)
  | ((with_reducible refine u_rowsAt (mg := ?mm) (C := ?CC) (dx := ?dd) (fv := ?vv) ?tt ?hh ?_); (case tt => assumption); (case hh => walk_at "hp"))
  | ((with_reducible refine r_isPoly (mg := ?mm) (dx := ?dd) (fs := ?ff) ?tt ?hh ?_); (case tt => assumption); (case hh => walk_at "hp"))
  | ((with_reducible refine r_isPolyI (mg := ?mm) ?tt ?_); (case tt => assumption))
  | ((with_reducible refine r_polyInt (mg := ?mm) (C := ?CC) (dx := ?dd) (fs := ?ff) ?tt ?hh ?_); (case tt => assumption); (case hh => walk_at "hp"))
  ))

end

set_option Elab.async false
set_option linter.all false
set_option maxRecDepth 100000
set_option maxHeartbeats 4000000

open PySem PySem.Spec PyProof.Rows L2
section
variable {P : Program} {w : World} {K : PySem.W.Frag} {mg : Str → Option Value} {base : Heap} {C : Addr}

local macro_rules | `(tactic| walk_at "s") => `(tactic| (first
  | (with_reducible refine r_dnew ?_)
  | (with_reducible refine r_dget2 ?_)
  | (with_reducible refine r_dget ?_)
  | (with_reducible refine r_dput ?_)
  | (with_reducible refine r_dsetd ?_)
  | ((with_reducible refine JarAt.isD (n := ?nn) (c := ?cc) ?hh ?_); (case hh => assumption))
  ))

local macro_rules | `(tactic| walk_at "s") => `(tactic| (first
  | (with_reducible refine r_prop ?_)
  | (with_reducible refine r_meth ?_)
  | (with_reducible refine r_make ?_)
  | (with_reducible refine r_fld ?_)
  | (with_reducible refine r_sfld ?_)
  | (with_reducible refine r_iOwn ?_)
  | ((with_reducible refine u_rowsAt (mg := ?mm) (C := ?CC) (dx := ?dd) (fv := ?vv) ?tt ?hh ?_); (case tt => assumption); (case hh => walk_at "hp"))
  | ((with_reducible refine r_isPoly (mg := ?mm) (dx := ?dd) (fs := ?ff) ?tt ?hh ?_); (case tt => assumption); (case hh => walk_at "hp"))
  | ((with_reducible refine r_isPolyI (mg := ?mm) ?tt ?_); (case tt => assumption))
  | ((with_reducible refine r_polyInt (mg := ?mm) (C := ?CC) (dx := ?dd) (fs := ?ff) ?tt ?hh ?_); (case tt => assumption); (case hh => walk_at "hp"))
  ))

local macro_rules | `(tactic| walk_at "s") => `(tactic| (with_reducible refine r_lc2 ?_))
end

set_option Elab.async false
set_option linter.all false
set_option maxRecDepth 100000
set_option maxHeartbeats 4000000

open PySem PySem.Spec PyProof.Rows L2
section
variable {P : Program} {w : World} {K : PySem.W.Frag} {mg : Str → Option Value} {base : Heap} {C : Addr}

local macro_rules | `(tactic| walk_at "s") => `(tactic| (first
  | (with_reducible refine r_dnew ?_)
  | (with_reducible refine r_dget2 ?_)
  | (with_reducible refine r_dget ?_)
  | (with_reducible refine r_dput ?_)
  | (with_reducible refine r_dsetd ?_)
  | ((with_reducible refine JarAt.isD (n := ?nn) (c := ?cc) ?hh ?_); (case hh => assumption))
  ))

local macro_rules | `(tactic| walk_at "s") => `(tactic| (first
  | (with_reducible refine r_prop ?_)
  | (with_reducible refine r_meth ?_)
  | (with_reducible refine r_make ?_)
  | (with_reducible refine r_fld ?_)
  | (with_reducible refine r_sfld ?_)
  | (with_reducible refine r_iOwn ?_)
  | ((with_reducible refine u_rowsAt (mg := ?mm) (C := ?CC) (dx := ?dd) (fv := ?vv) ?tt ?hh ?_); (case tt => assumption); (case hh => walk_at "hp"))
  | ((with_reducible refine r_isPoly (mg := ?mm) (dx := ?dd) (fs := ?ff) ?tt ?hh ?_); (case tt => assumption); (case hh => walk_at "hp"))
  | ((with_reducible refine r_isPolyI (mg := ?mm) ?tt ?_); (case tt => assumption))
  | ((with_reducible refine r_polyInt (mg := ?mm) (C := ?CC) (dx := ?dd) (fs := ?ff) ?tt ?hh ?_); (case tt => assumption); (case hh => walk_at "hp"))
  ))

end

set_option Elab.async false
set_option linter.all false
set_option maxRecDepth 100000
set_option maxHeartbeats 4000000

open PySem PySem.Spec PyProof.Rows L2
section
variable {P : Program} {w : World} {K : PySem.W.Frag} {mg : Str → Option Value} {base : Heap} {C : Addr}

local macro_rules | `(tactic| walk_at "s") => `(tactic| (first
  | (with_reducible refine r_dnew ?_)
  | (with_reducible refine r_dget2 ?_)
  | (with_reducible refine r_dget ?_)
  | (with_reducible refine r_dput ?_)
  | (with_reducible refine r_dsetd ?_)
  | ((with_reducible refine JarAt.isD (n := ?nn) (c := ?cc) ?hh ?_); (case hh => assumption))
  ))

local macro_rules | `(tactic| walk_at "s") => `(tactic| (first
  | (with_reducible refine r_prop ?_)
  | (with_reducible refine r_meth ?_)
  | (with_reducible refine r_make ?_)
  | (with_reducible refine r_fld ?_)
  | (with_reducible refine r_sfld ?_)
  | (with_reducible refine r_iOwn ?_)
  | ((with_reducible refine u_rowsAt (mg := ?mm) (C := ?CC) (dx := ?dd) (fv := ?vv) ?tt ?hh ?_); (case tt => assumption); (case hh => walk_at "hp"))
  | ((with_reducible refine r_isPoly (mg := ?mm) (dx := ?dd) (fs := ?ff) ?tt ?hh ?_); (case tt => assumption); (case hh => walk_at "hp"))
  | ((with_reducible refine r_isPolyI (mg := ?mm) ?tt ?_); (case tt => assumption))
  | ((with_reducible refine r_polyInt (mg := ?mm) (C := ?CC) (dx := ?dd) (fs := ?ff) ?tt ?hh ?_); (case tt => assumption); (case hh => walk_at "hp"))
  ))

end

set_option Elab.async false
set_option linter.all false
set_option maxRecDepth 100000
set_option maxHeartbeats 4000000

open PySem PySem.Spec PyProof.Rows L2
section
variable {P : Program} {w : World} {K : PySem.W.Frag} {mg : Str → Option Value} {base : Heap} {C : Addr}

local macro_rules | `(tactic| walk_at "s") => `(tactic| (first
  | (with_reducible refine r_dnew ?_)
  | (with_reducible refine r_dget2 ?_)
  | (with_reducible refine r_dget ?_)
  | (with_reducible refine r_dput ?_)
  | (with_reducible refine r_dsetd ?_)
  | ((with_reducible refine JarAt.isD (n := ?nn) (c := ?cc) ?hh ?_); (case hh => assumption))
  ))

local macro_rules | `(tactic| walk_at "s") => `(tactic| (first
  | (with_reducible refine r_prop ?_)
  | (with_reducible refine r_meth ?_)
  | (with_reducible refine r_make ?_)
  | (with_reducible refine r_fld ?_)
  | (with_reducible refine r_sfld ?_)
  | (with_reducible refine r_iOwn ?_)
  | ((with_reducible refine u_rowsAt (mg := ?mm) (C := ?CC) (dx := ?dd) (fv := ?vv) ?tt ?hh ?_); (case tt => assumption); (case hh => walk_at "hp"))
  | ((with_reducible refine r_isPoly (mg := ?mm) (dx := ?dd) (fs := ?ff) ?tt ?hh ?_); (case tt => assumption); (case hh => walk_at "hp"))
  | ((with_reducible refine r_isPolyI (mg := ?mm) ?tt ?_); (case tt => assumption))
  | ((with_reducible refine r_polyInt (mg := ?mm) (C := ?CC) (dx := ?dd) (fs := ?ff) ?tt ?hh ?_); (case tt => assumption); (case hh => walk_at "hp"))
  ))

end

set_option Elab.async false
set_option linter.all false
set_option maxRecDepth 100000
set_option maxHeartbeats 4000000

open PySem PySem.Spec PyProof.Rows L2
section
variable {P : Program} {w : World} {K : PySem.W.Frag} {mg : Str → Option Value} {base : Heap} {C : Addr}

local macro_rules | `(tactic| walk_at "s") => `(tactic| (first
  | (with_reducible refine r_dnew ?_)
  | (with_reducible refine r_dget2 ?_)
  | (with_reducible refine r_dget ?_)
  | (with_reducible refine r_dput ?_)
  | (with_reducible refine r_dsetd ?_)
  | ((with_reducible refine JarAt.isD (n := ?nn) (c := ?cc) ?hh ?_); (case hh => assumption))
  ))

local macro_rules | `(tactic| walk_at "s") => `(tactic| (first
  | (with_reducible refine r_prop ?_)
  | (with_reducible refine r_meth ?_)
  | (with_reducible refine r_make ?_)
  | (with_reducible refine r_fld ?_)
  | (with_reducible refine r_sfld ?_)
  | (with_reducible refine r_iOwn ?_)
  | ((with_reducible refine u_rowsAt (mg := ?mm) (C := ?CC) (dx := ?dd) (fv := ?vv) ?tt ?hh ?_); (case tt => assumption); (case hh => walk_at "hp"))
  | ((with_reducible refine r_isPoly (mg := ?mm) (dx := ?dd) (fs := ?ff) ?tt ?hh ?_); (case tt => assumption); (case hh => walk_at "hp"))
  | ((with_reducible refine r_isPolyI (mg := ?mm) ?tt ?_); (case tt => assumption))
  | ((with_reducible refine r_polyInt (mg := ?mm) (C := ?CC) (dx := ?dd) (fs := ?ff) ?tt ?hh ?_); (case tt => assumption); (case hh => walk_at "hp"))
  ))

end

set_option Elab.async false
set_option linter.all false
set_option maxRecDepth 100000
set_option maxHeartbeats 4000000

open PySem PySem.Spec PyProof.Rows L2
section
variable {P : Program} {w : World} {K : PySem.W.Frag} {mg : Str → Option Value} {base : Heap} {C : Addr}

local macro_rules | `(tactic| walk_at "s") => `(tactic| (first
  | (with_reducible refine r_dnew ?_)
  | (with_reducible refine r_dget2 ?_)
  | (with_reducible refine r_dget ?_)
  | (with_reducible refine r_dput ?_)
  | (with_reducible refine r_dsetd ?_)
  | ((with_reducible refine JarAt.isD (n := ?nn) (c := ?cc) ?hh ?_); (case hh => assumption))
  ))

local macro_rules | `(tactic| walk_at "s") => `(tactic| (first
  | (with_reducible refine r_prop ?_)
  | (with_reducible refine r_meth ?_)
  | (with_reducible refine r_make ?_)
  | (with_reducible refine r_fld ?_)
  | (with_reducible refine r_sfld ?_)
  | (with_reducible refine r_iOwn ?_)
  | ((with_reducible refine u_rowsAt (mg := ?mm) (C := ?CC) (dx := ?dd) (fv := ?vv) ?tt ?hh ?_); (case tt => assumption); (case hh => walk_at "hp"))
  | ((with_reducible refine r_isPoly (mg := ?mm) (dx := ?dd) (fs := ?ff) ?tt ?hh ?_); (case tt => assumption); (case hh => walk_at "hp"))
  | ((with_reducible refine r_isPolyI (mg := ?mm) ?tt ?_); (case tt => assumption))
  | ((with_reducible refine r_polyInt (mg := ?mm) (C := ?CC) (dx := ?dd) (fs := ?ff) ?tt ?hh ?_); (case tt => assumption); (case hh => walk_at "hp"))
  ))

local macro_rules | `(tactic| walk_at "s") => `(tactic| (with_reducible refine r_iKeys ?_))
end

set_option Elab.async false
set_option linter.all false
set_option maxRecDepth 100000
set_option maxHeartbeats 4000000

open PySem PySem.Spec PyProof.Rows L2
section
variable {P : Program} {w : World} {K : PySem.W.Frag} {mg : Str → Option Value} {base : Heap} {C : Addr}

local macro_rules | `(tactic| walk_at "s") => `(tactic| (first
  | (with_reducible refine r_dnew ?_)
  | (with_reducible refine r_dget2 ?_)
  | (with_reducible refine r_dget ?_)
  | (with_reducible refine r_dput ?_)
  | (with_reducible refine r_dsetd ?_)
  | ((with_reducible refine JarAt.isD (n := ?nn) (c := ?cc) ?hh ?_); (case hh => assumption))
  ))

local macro_rules | `(tactic| walk_at "s") => `(tactic| (first
  | (with_reducible refine r_prop ?_)
  | (with_reducible refine r_meth ?_)
  | (with_reducible refine r_make ?_)
  | (with_reducible refine r_fld ?_)
  | (with_reducible refine r_sfld ?_)
  | (with_reducible refine r_iOwn ?_)
  | ((with_reducible refine u_rowsAt (mg := ?mm) (C := ?CC) (dx := ?dd) (fv := ?vv) ?tt ?hh ?_); (case tt => assumption); (case hh => walk_at "hp"))
  | ((with_reducible refine r_isPoly (mg := ?mm) (dx := ?dd) (fs := ?ff) ?tt ?hh ?_); (case tt => assumption); (case hh => walk_at "hp"))
  | ((with_reducible refine r_isPolyI (mg := ?mm) ?tt ?_); (case tt => assumption))
  | ((with_reducible refine r_polyInt (mg := ?mm) (C := ?CC) (dx := ?dd) (fs := ?ff) ?tt ?hh ?_); (case tt => assumption); (case hh => walk_at "hp"))
  ))

local macro_rules | `(tactic| walk_at "s") => `(tactic| (first
  | (with_reducible refine r_iKeys ?_)
  | (with_reducible refine rl_disp ?_)
  | (with_reducible refine rl_pc ?_)
  | (with_reducible refine rl_pn ?_)
  ))
end


set_option Elab.async false
set_option linter.all false
set_option maxRecDepth 100000
set_option maxHeartbeats 4000000

open PySem PySem.Spec PyProof.Rows L2 RT
section
variable {P : Program} {w : World} {K : PySem.W.Frag} {mg : Str → Option Value} {base : Heap}

local macro_rules | `(tactic| walk_at "s") => `(tactic| (first
  | (with_reducible refine r_dnew ?_)
  | (with_reducible refine r_dget2 ?_)
  | (with_reducible refine r_dget ?_)
  | (with_reducible refine r_dput ?_)
  | (with_reducible refine r_dsetd ?_)
  | ((with_reducible refine JarAt.isD (n := ?nn) (c := ?cc) ?hh ?_); (case hh => assumption))
  ))

end

set_option Elab.async false
set_option linter.all false
set_option maxRecDepth 100000
set_option maxHeartbeats 8000000
set_option pp.deepTerms false
set_option pp.deepTerms.threshold 12
set_option pp.maxSteps 1200

open PySem PySem.Spec PyProof.Rows L2
/-- a dict of dicts: the numbers of a place -/
structure RwD (H : Hp) (D : Addr) (N : Nat) (c : Str → Int → Int) (ws : List (Str × Addr)) : Prop where
  at_ : H D = some (.dK (spotKvs ws))
  nd : (ws.map (·.1)).Nodup
  name : ∀ e ∈ ws, IsName e.1
  jars : ∀ e ∈ ws, JarAt H e.2 N (c e.1)
  none_ : ∀ n, ¬ n ∈ ws.map (·.1) → ∀ k, c n k = 0
theorem RwD.same {H H' : Hp} {D : Addr} {N : Nat} {c : Str → Int → Int} {ws : List (Str × Addr)} (h : RwD H D N c ws) (s : Same H H') : RwD H' D N c ws := ⟨s _ _ h.at_, h.nd, h.name, fun e he => (h.jars e he).same s, h.none_⟩
/-- a jar that holds no 0, and is not empty -/
def JarX (H : Hp) (a : Addr) (N : Nat) (g : Int → Int) : Prop := JarS H a N (fun k => g k ≠ 0) g ∧ ∃ k, g k ≠ 0
theorem JarX.same {H H' : Hp} {a : Addr} {N : Nat} {g : Int → Int} (h : JarX H a N g) (s : Same H H') : JarX H' a N g := ⟨h.1.same s, h.2⟩
theorem JarX.mono {H : Hp} {a : Addr} {N M : Nat} {g : Int → Int} (h : JarX H a N g) (l : N ≤ M) : JarX H a M g := ⟨h.1.mono l, h.2⟩
theorem JarX.ext {H : Hp} {a : Addr} {N : Nat} {f g : Int → Int} (h : JarX H a N f) (e : ∀ k, f k = g k) : JarX H a N g := by rw [← show f = g from funext e]; exact h
theorem JarX.upd {H : Hp} {a m : Addr} {o : HO} {N : Nat} {g : Int → Int} (h : JarX H a N g) (n : a ≠ m) : JarX (upd H m o) a N g := ⟨h.1.upd n, h.2⟩
/-- just the names and powers whose number is not 0 -/
structure RwX (H : Hp) (D : Addr) (N : Nat) (c : Str → Int → Int) (ws : List (Str × Addr)) : Prop where
  r : RwD H D N c ws
  x : ∀ e ∈ ws, JarX H e.2 N (c e.1)
theorem RwX.same {H H' : Hp} {D : Addr} {N : Nat} {c : Str → Int → Int} {ws : List (Str × Addr)} (h : RwX H D N c ws) (s : Same H H') : RwX H' D N c ws := ⟨h.r.same s, fun e he => (h.x e he).same s⟩
theorem RwX.ext {H : Hp} {D : Addr} {N : Nat} {c d : Str → Int → Int} {ws : List (Str × Addr)} (h : RwX H D N c ws) (e : ∀ n k, c n k = d n k) : RwX H D N d ws := by rw [← show c = d from funext fun n => funext (e n)]; exact h
theorem RwX.le {H : Hp} {D : Addr} {N M : Nat} {c : Str → Int → Int} {ws : List (Str × Addr)} (h : RwX H D N c ws) (l : N ≤ M) : RwX H D M c ws := ⟨⟨h.r.at_, h.r.nd, h.r.name, fun e he => (h.r.jars e he).le l, h.r.none_⟩, fun e he => (h.x e he).mono l⟩
def spSignL : Sp := fun vs H Q _ => ∃ wd : Str, vs = [.str wd] ∧ IsWord wd ∧ ∀ H', Same H H' → Q (.int (stepSign wd)) H'
def spLessR : Sp := fun vs H Q _ => ∃ (a b : Addr) (N M : Nat) (c d : Str → Int → Int) (ws us : List (Str × Addr)), vs = [.ref a, .ref b] ∧ RwD H a N c ws ∧ RwD H b M d us ∧ N ≤ 4000 ∧ M ≤ 4000 ∧
  ∀ D vs H', H D = none → Same H H' → RwX H' D (N + M) (fun n k => c n k - d n k) vs → Q (.ref D) H'
def spLastP : Sp := fun vs H Q _ => ∃ (a : Addr) (p : Prog), vs = [.ref a] ∧ PrIs H a p ∧ Wf BC BC 12 p ∧ p.len ≤ 4000 ∧ p.size ≤ 200 ∧ ∀ t D us H', Same H H' → H' t = some (.tup [.int p.head, .ref D]) → RwX H' D 200 (Prog.wcf 0 (Prog.unroll 1 p)) us → Q (.ref t) H'
section
variable {P : Program} {w : World} {K : PySem.W.Frag} {mg : Str → Option Value} {base : Heap} {C : Addr}

local macro_rules | `(tactic| walk_at "s") => `(tactic| (first
  | (with_reducible refine r_dnew ?_)
  | (with_reducible refine r_dget2 ?_)
  | (with_reducible refine r_dget ?_)
  | (with_reducible refine r_dput ?_)
  | (with_reducible refine r_dsetd ?_)
  | ((with_reducible refine JarAt.isD (n := ?nn) (c := ?cc) ?hh ?_); (case hh => assumption))
  ))

theorem ok_l_last {f : Addr} {fd : FuncData} (F : Fun K "_law_last" "_law_last" s_l_last f fd) (h_l_plain : Has P w K mg base "_law_plain" 13 ["_law_track", "_law_side"] (spPlLt 13)) (h_l_sign : Has P w K mg base "_law_sign" 1 ["_law_word"] spSignL) (h_l_less : Has P w K mg base "_law_less" 1 ["_law_one", "_law_two"] spLessR) : FnOk P w K mg base CX0 14 f fd ["_law_track"] spLastP := by
  refine F.ok sc_l_last (fun vs H Q E h => ?_) (fun cdv A outer s H vs Q E hr h => ?_)
  · obtain ⟨a, p, rfl, _⟩ := h
    rfl
  · obtain ⟨a, p, rfl, hq, hw, hl, hsz, k⟩ := h
    refine ⟨_, (pss_cons (ps_set (i := 1) sc_l_last.nd rfl (.inl rfl) pe_int)
    (pss_cons (ps_set (i := 2) sc_l_last.nd rfl (.inl rfl) pe_dnewK)
    (pss_cons (ps_for PassesOwn.never rfl (pi_list (pe_callH h_l_plain (hr.mono (by first | decide | omega)) (pa_cons (pv 0) (pa_cons pe_int pa_nil)))) (pg_tup (by rfl) (pgs_cons (pg_name (i := 3) sc_l_last.nd rfl (.inl rfl)) (pgs_cons (pg_name (i := 4) sc_l_last.nd rfl (.inl rfl)) pgs_nil)))
    (pss_one (ps_if (pt_cmpR op_eq (pv 3) pe_str (nomark _))
    (pss_one (ps_set (i := 1) sc_l_last.nd rfl (.inl rfl) (pe_op op_add (pv 1) (pv 4))))
    (pss_cons (ps_set (i := 5) sc_l_last.nd rfl (.inl rfl) (pe_dsetd (pv 2) (pv 4) pe_dnewK ⟨rfl, rfl, rfl, rfl⟩))
    (pss_one (ps_dput (hu_of hr) (pv 5) (pv 1) (pe_op op_add (pe_dget2 (hu_of hr) (pv 5) (pv 1) pe_int ⟨rfl, rfl, rfl, rfl⟩) (pe_callH h_l_sign (hr.mono (by first | decide | omega)) (pa_cons (pv 3) pa_nil))) rfl))))))
    (pss_one (ps_ret (pe_tup (pa_cons (pv 1) (pa_cons (pe_callH h_l_less (hr.mono (by first | decide | omega)) (pa_cons (pv 2) (pa_cons pe_dnewK pa_nil))) pa_nil)))))))), ?_⟩
    walk_at "go"
    intro sp nsp
    walk_at "go"
    refine ⟨a, p, 1, rfl, .inl rfl, hq.tk ((Tk.refl H).new nsp), hw, by omega, fun l xs H1 nl s1 hl1 hp1 => ?_⟩
    have wu : Wf BC BC 0 (Prog.unroll 1 p) := Prog.wf_unroll (.inl rfl) hw
    have lu : ((Prog.unroll 1 p).len : Int) ≤ 200 := by
      have := Prog.len_unroll 1 hw
      omega
    have hu : (Prog.unroll 1 p).head = p.head := by rw [Prog.head_unroll (.inl rfl) hw, Int.one_mul]
    have hsp1 : H1 sp = some (.dK []) := s1 _ _ upd_same
    obtain ⟨B, hB⟩ : ∃ B : Hp, B = fun b => if b = sp then none else H1 b := ⟨_, rfl⟩
    have Bne : ∀ b, b ≠ sp → B b = H1 b := fun b z => by rw [hB]; exact if_neg z
    have Bsp : B sp = none := by rw [hB]; exact if_pos rfl
    have toB : Same H B := fun b o e => by
      have z : b ≠ sp := by rintro rfl; rw [nsp] at e; cases e
      rw [Bne b z]
      exact s1 _ _ ((upd_ne z).trans e)
    have hS0 : Spot B H1 sp 0 (fun _ _ => 0) [] := ⟨hsp1, by simp, by simp, by simp, Bsp, by simp, by simp, fun _ _ _ => rfl, fun b o e => by
      by_cases z : b = sp
      · subst z; rw [Bsp] at e; cases e
      · rw [Bne b z] at e; exact e⟩
    have tkB : ∀ H', Same B H' → Tk H1 H' := fun H' sm b ys e => by
      by_cases z : b = sp
      · subst z; rw [hsp1] at e; cases e
      · exact sm _ _ (by rw [Bne b z]; exact e)
    have hlB : B l = some (.lst xs) := by rw [Bne l (ne_of hl1 hsp1 (by intro z; cases z))]; exact hl1
    walk_at "go"
    refine u_forPrL hl1 hp1 (fun r σ H' => ∃ (now : Int) (N : Nat) (c : Str → Int → Int) (ws : List (Str × Addr)) (y3 y4 y5 : Option V), σ = [some (.ref a), some (.int now), some (.ref sp), y3, y4, y5] ∧ Wf BC BC 0 r ∧ Spot B H' sp N c ws ∧
        (∀ n k, c n k + Prog.wcf now r n k = Prog.wcf 0 (Prog.unroll 1 p) n k) ∧ now + r.head = p.head ∧ N + r.len ≤ (Prog.unroll 1 p).len) ?_ ?_ ?_ ?_
    · exact ⟨0, 0, fun _ _ => 0, [], none, none, none, rfl, wu, hS0, fun n k => Int.zero_add _, by rw [hu, Int.zero_add], by omega⟩
    · rintro r σ H' ⟨now, N, c, ws, y3, y4, y5, rfl, _, hs, _, _, _⟩
      exact ⟨tkB _ hs.same, hs.same _ _ hlB⟩
    · rintro x r r' σ H' hf ⟨now, N, c, ws, y3, y4, y5, rfl, hw', hs, hc, hh, hN⟩
      cases r with
      | nil => exact hf.elim
      | step w' n r =>
        obtain ⟨d, rfl, h1, rfl⟩ := hf
        obtain ⟨w1, w2, w3⟩ := WfL.step_iff.mp hw'
        obtain ⟨n1, n2, n3⟩ := word_ne w1
        rw [Prog.len] at hN
        walk_at "go"
        refine r_isD hs.at_ ?_
        walk_at "go"
        intro e ne
        refine hs.setd w2 ne fun ws' j H2 hs1 m1 fr1 => ?_
        have hj1 := hs1.jars _ m1
        walk_at "go"
        obtain ⟨o, g1, g2⟩ := hj1.dget0 now
        refine ⟨o, g1, ?_⟩
        rw [g2]
        walk_at "go"
        refine ⟨w', rfl, w1, fun H3 s3 => ?_⟩
        walk_at "go"
        obtain ⟨H4, p1, b1, f1, j1⟩ := (hj1.same s3).dput (k := now) (v := c n now + stepSign w') (by omega)
        refine ⟨j, H4, rfl, p1, ?_⟩
        refine ⟨now, N + 1, _, ws', _, _, _, rfl, w3, (hs1.later s3).put m1 b1 j1, fun n' k' => ?_, by rw [← hh, Prog.head], by omega⟩
        rw [← hc n' k', Prog.wcf]
        by_cases hnk : n' = n ∧ k' = now
        · obtain ⟨rfl, rfl⟩ := hnk
          rw [if_pos ⟨rfl, rfl⟩, if_pos ⟨rfl, rfl⟩]; omega
        · rw [if_neg hnk, if_neg (fun h => hnk ⟨h.1.symm, h.2.symm⟩)]; omega
      | turn t r =>
        obtain ⟨d, rfl, h1, rfl⟩ := hf
        obtain ⟨w1, w3⟩ := WfL.turn_iff.mp hw'
        walk_at "go"
        exact ⟨_, N, c, ws, _, _, _, rfl, w3, hs, hc, by rw [← hh, Prog.head]; omega, by rw [Prog.len] at hN; omega⟩
      | rep k' b r => exact hw'.elim
      | mir b r => exact hw'.elim
    · rintro σ H' ⟨now, N, c, ws, y3, y4, y5, rfl, hw', hs, hc, hh, hN⟩
      have hcc : ∀ n k, c n k = Prog.wcf 0 (Prog.unroll 1 p) n k := fun n k => by rw [← hc n k, Prog.wcf, Int.add_zero]
      have hh : now = p.head := by rw [← hh, Prog.head, Int.add_zero]
      subst hh
      rw [Prog.len] at hN
      walk_at "go"
      intro e2 ne2
      have s2 := Same.new0 (o := .dK []) ne2
      have hs2 := hs.later s2
      refine ⟨sp, e2, N, 0, c, fun _ _ => 0, ws, [], rfl, ⟨hs2.at_, hs2.nd, hs2.name, hs2.jars, hs2.none_⟩, ⟨upd_same, by simp, by simp, by simp, fun _ _ _ => rfl⟩, by omega, by omega, fun D vs H3 nD s3 hD => ?_⟩
      walk_at "go"
      intro t nt
      have s4 := Same.new0 (o := .tup [.int p.head, .ref D]) nt
      refine k t D vs _ (((toB.trans hs2.same).trans s3).trans s4) upd_same ?_
      exact ((hD.same s4).le (by omega)).ext fun n k => by (try dsimp only); rw [hcc]; omega
end

set_option Elab.async false
set_option linter.all false
set_option maxRecDepth 100000
set_option maxHeartbeats 8000000
set_option pp.deepTerms false
set_option pp.deepTerms.threshold 12
set_option pp.maxSteps 1200

open PySem PySem.Spec PyProof.Rows L2
theorem RwD.few {H : Hp} {D : Addr} {N : Nat} {c : Str → Int → Int} {ws : List (Str × Addr)} (h : RwD H D N c ws) : ws.length < 64 := by
  have := names_few (fun n hn => by obtain ⟨e, he, rfl⟩ := List.mem_map.mp hn; exact h.name e he) h.nd
  rw [List.length_map] at this
  exact this
theorem RwD.get {H : Hp} {D g : Addr} {N : Nat} {c : Str → Int → Int} {ws : List (Str × Addr)} (h : RwD H D N c ws) (y : Str) (hg : H g = some (.dK [])) : ∃ u a, DGet H D (.str y) u ∧ u.getD (.ref g) = .ref a ∧ JarAt H a N (c y) ∧ (a = g ∨ a ∈ ws.map (·.2)) := by
  by_cases m : y ∈ ws.map (·.1)
  · obtain ⟨e, he, rfl⟩ := List.mem_map.mp m
    exact ⟨some (.ref e.2), e.2, .inl ⟨_, .inr e.1, .inl h.at_, rfl, ((namD_val ws e.1 h.nd).1 e.2 he).symm⟩, rfl, h.jars e he, .inr (List.mem_map.mpr ⟨e, he, rfl⟩)⟩
  · exact ⟨none, g, .inl ⟨_, .inr y, .inl h.at_, rfl, ((namD_val ws y h.nd).2 m).symm⟩, rfl, ⟨[], hg, .nil, Nat.zero_le _, fun k => by rw [h.none_ y m]; rfl⟩, .inl rfl⟩
def setA (ws : List (Str × Addr)) (n : Str) (d : Addr) : List (Str × Addr) := ws.map fun e => if e.1 = n then (e.1, d) else e
theorem setA_names (ws : List (Str × Addr)) (n : Str) (d : Addr) : (setA ws n d).map (·.1) = ws.map (·.1) := by
  unfold setA
  rw [List.map_map]
  refine List.map_congr_left fun e _ => ?_
  show (if e.1 = n then (e.1, d) else e).1 = e.1
  split <;> rfl
theorem putK_setA {ws : List (Str × Addr)} {n : Str} {d : Addr} (h : n ∈ ws.map (·.1)) : putK (namD ws) (.inr n) (.ref d) = namD (setA ws n d) := by
  have ha : ((namD ws).any fun kv => decide (kv.1 = (.inr n : Key))) = true := by
    obtain ⟨e, he, rfl⟩ := List.mem_map.mp h
    exact List.any_eq_true.mpr ⟨(.inr e.1, .ref e.2), List.mem_map.mpr ⟨e, he, rfl⟩, decide_eq_true rfl⟩
  unfold putK
  rw [if_pos ha]
  unfold namD setA
  rw [List.map_map, List.map_map]
  refine List.map_congr_left fun e _ => ?_
  show (if (Sum.inr e.1 : Key) = .inr n then ((Sum.inr e.1 : Key), V.ref d) else (Sum.inr e.1, V.ref e.2)) = (Sum.inr (if e.1 = n then (e.1, d) else e).1, V.ref (if e.1 = n then (e.1, d) else e).2)
  by_cases z : e.1 = n
  · rw [if_pos (by rw [z]), if_pos z]
  · rw [if_neg (fun y => z (Sum.inr.inj y)), if_neg z]
/-- rows found so far: each its numbers -/
structure Fnd (H : Hp) (m : Addr) (K : Nat) (f : Str → Int → Int) (vs : List (Str × Addr)) : Prop where
  at_ : H m = some (.dK (namD vs))
  nd : (vs.map (·.1)).Nodup
  name : ∀ e ∈ vs, IsName e.1
  jars : ∀ e ∈ vs, JarX H e.2 K (f e.1) ∧ e.2 ≠ m
theorem Fnd.same {H H' : Hp} {m : Addr} {K : Nat} {f : Str → Int → Int} {vs : List (Str × Addr)} (h : Fnd H m K f vs) (s : Same H H') : Fnd H' m K f vs := ⟨s _ _ h.at_, h.nd, h.name, fun e he => ⟨(h.jars e he).1.same s, (h.jars e he).2⟩⟩
theorem Fnd.few {H : Hp} {m : Addr} {K : Nat} {f : Str → Int → Int} {vs : List (Str × Addr)} (h : Fnd H m K f vs) : vs.length < 64 := by
  have := names_few (fun n hn => by obtain ⟨e, he, rfl⟩ := List.mem_map.mp hn; exact h.name e he) h.nd
  rw [List.length_map] at this
  exact this
theorem Fnd.put {H : Hp} {m d : Addr} {K : Nat} {f : Str → Int → Int} {vs : List (Str × Addr)} {n : Str} (h : Fnd H m K f vs) (hl : vs.length ≤ 900) (nm : IsName n) (hd : JarX H d K (f n)) (dm : d ≠ m) :
    ∃ vs', DPut H m (.str n) (.ref d) (upd H m (.dK (namD vs'))) ∧ Fnd (upd H m (.dK (namD vs'))) m K f vs' ∧ n ∈ vs'.map (·.1) ∧ ∀ x ∈ vs.map (·.1), x ∈ vs'.map (·.1) := by
  have kp : ∀ {a : Addr} {c : Int → Int} {o : HO}, a ≠ m → JarX H a K c → JarX (upd H m o) a K c := fun ne j => j.upd ne
  by_cases y : n ∈ vs.map (·.1)
  · have e := putK_setA (d := d) y
    refine ⟨setA vs n d, ?_, ⟨upd_same, by rw [setA_names]; exact h.nd, fun x hx => ?_, fun x hx => ?_⟩, by rw [setA_names]; exact y, fun x hx => by rw [setA_names]; exact hx⟩
    · rw [← e]
      refine DPut.k (k := .inr n) h.at_ (Nat.lt_of_le_of_lt (m := 1000) ?_ (by decide))
      rw [namD, List.length_map]
      omega
    · have : x.1 ∈ vs.map (·.1) := by rw [← setA_names vs n d]; exact List.mem_map.mpr ⟨x, hx, rfl⟩
      obtain ⟨z, hz, ez⟩ := List.mem_map.mp this
      rw [← ez]
      exact h.name z hz
    · obtain ⟨z, hz, ez⟩ := List.mem_map.mp hx
      by_cases q : z.1 = n
      · rw [if_pos q] at ez
        subst ez
        refine ⟨kp dm ?_, dm⟩
        show JarX H d K (f z.1)
        rw [q]
        exact hd
      · rw [if_neg q] at ez
        subst ez
        exact ⟨kp (h.jars z hz).2 (h.jars z hz).1, (h.jars z hz).2⟩
  · refine ⟨vs ++ [(n, d)], namD_put h.at_ (by omega) y, ⟨upd_same, ?_, fun x hx => ?_, fun x hx => ?_⟩, by simp, fun x hx => by rw [List.map_append]; exact List.mem_append.mpr (.inl hx)⟩
    · rw [List.map_append]
      refine List.nodup_append.mpr ⟨h.nd, by simp, fun a ha b hb => ?_⟩
      simp only [List.map_cons, List.map_nil, List.mem_singleton] at hb
      rw [hb]
      exact fun z => y (by rw [← z]; exact ha)
    · rcases List.mem_append.mp hx with hx | hx
      · exact h.name x hx
      · rw [List.mem_singleton.mp hx]
        exact nm
    · rcases List.mem_append.mp hx with hx | hx
      · exact ⟨kp (h.jars x hx).2 (h.jars x hx).1, (h.jars x hx).2⟩
      · rw [List.mem_singleton.mp hx]
        exact ⟨kp dm hd, dm⟩
section
variable {P : Program} {w : World} {K : PySem.W.Frag} {mg : Str → Option Value} {base : Heap} {C : Addr}

local macro_rules | `(tactic| walk_at "s") => `(tactic| (first
  | (with_reducible refine r_dnew ?_)
  | (with_reducible refine r_dget2 ?_)
  | (with_reducible refine r_dget ?_)
  | (with_reducible refine r_dput ?_)
  | (with_reducible refine r_dsetd ?_)
  | ((with_reducible refine JarAt.isD (n := ?nn) (c := ?cc) ?hh ?_); (case hh => assumption))
  ))

theorem ok_l_less {f : Addr} {fd : FuncData} (F : Fun K "_law_less" "_law_less" s_l_less f fd) (bList : mg "list" = none) : FnOk P w K mg base CX0 1 f fd ["_law_one", "_law_two"] spLessR := by
  refine F.ok sc_l_less (fun vs H Q E h => ?_) (fun cdv A outer s H vs Q E hr h => ?_)
  · obtain ⟨a, b, N, M, c, d, ws, us, rfl, _⟩ := h
    rfl
  · obtain ⟨a, b, N, M, c, d, ws, us, rfl, h1, h2, n1, n2, k⟩ := h
    refine ⟨_, (pss_cons (ps_set (i := 2) sc_l_less.nd rfl (.inl rfl) pe_dnewK)
    (pss_cons (ps_for PassesOwn.never rfl (pi_list (pe_op op_cat (pe_callTy (call_list_dK rfl) (by rfl) bList (by decide +kernel) (pa_cons (pv 0) pa_nil)) (pe_callTy (call_list_dK rfl) (by rfl) bList (by decide +kernel) (pa_cons (pv 1) pa_nil)))) (pg_name (i := 3) sc_l_less.nd rfl (.inl rfl))
    (pss_cons (ps_set (i := 4) sc_l_less.nd rfl (.inl rfl) pe_dnewK)
    (pss_cons (ps_set (i := 5) sc_l_less.nd rfl (.inl rfl) (pe_dget2 (hu_of hr) (pv 0) (pv 3) pe_dnewK ⟨rfl, rfl, rfl, rfl⟩))
    (pss_cons (ps_set (i := 6) sc_l_less.nd rfl (.inl rfl) (pe_dget2 (hu_of hr) (pv 1) (pv 3) pe_dnewK ⟨rfl, rfl, rfl, rfl⟩))
    (pss_cutM (ps_for PassesOwn.never rfl (pi_list (pe_op op_cat (pe_callTy (call_list_dK rfl) (by rfl) bList (by decide +kernel) (pa_cons (pv 5) pa_nil)) (pe_callTy (call_list_dK rfl) (by rfl) bList (by decide +kernel) (pa_cons (pv 6) pa_nil)))) (pg_name (i := 7) sc_l_less.nd rfl (.inl rfl))
    (pss_cons (ps_set (i := 8) sc_l_less.nd rfl (.inl rfl) (pe_op op_sub (pe_dget2 (hu_of hr) (pv 5) (pv 7) pe_int ⟨rfl, rfl, rfl, rfl⟩) (pe_dget2 (hu_of hr) (pv 6) (pv 7) pe_int ⟨rfl, rfl, rfl, rfl⟩)))
    (pss_one (ps_if (pt_cmpR op_ne (pv 8) pe_int (nomark _))
    (pss_one (ps_dput (hu_of hr) (pv 4) (pv 7) (pv 8) rfl))
    pss_nil))))
    (pss_one (ps_if (pt_cmpR (op_neDE hr.units) (pv 4) pe_dnewK (nomark _))
    (pss_one (ps_dput (hu_of hr) (pv 2) (pv 3) (pv 4) rfl))
    pss_nil)))))))
    (pss_one (ps_ret (pv 2))))), ?_⟩
    walk_at "go"
    intro m nm
    have s0 : Same H (upd H m (.dK [])) := Same.new0 nm
    have h1a := h1.same s0
    have h2a := h2.same s0
    have hm0 : (upd H m (.dK [])) m = some (.dK []) := upd_same
    generalize upd H m (.dK []) = H1 at *
    walk_at "go"
    refine u_listN h1a.at_ fun l3 nl3 => ?_
    walk_at "go"
    refine u_listN (h_keep h2a.at_ nl3) fun l4 nl4 => ?_
    walk_at "go"
    refine r_cat (h_keep upd_same nl4) upd_same (by have := h1.few; have := h2.few; simp only [List.length_map]; omega) fun l5 nl5 => ?_
    rw [← List.map_append]
    have sN : Same H1 (upd (upd (upd H1 l3 (.lst ((ws.map (fun e : Str × Addr => e.1)).map V.str))) l4 (.lst ((us.map (fun e : Str × Addr => e.1)).map V.str))) l5 (.lst ((ws.map (fun e : Str × Addr => e.1) ++ us.map (fun e : Str × Addr => e.1)).map V.str))) := Same.new (Same.new (Same.new0 nl3) nl4) nl5
    have hu : (upd (upd (upd H1 l3 (.lst ((ws.map (fun e : Str × Addr => e.1)).map V.str))) l4 (.lst ((us.map (fun e : Str × Addr => e.1)).map V.str))) l5 (.lst ((ws.map (fun e : Str × Addr => e.1) ++ us.map (fun e : Str × Addr => e.1)).map V.str))) l5 = some (.lst ((ws.map (fun e : Str × Addr => e.1) ++ us.map (fun e : Str × Addr => e.1)).map V.str)) := upd_same
    generalize upd (upd (upd H1 l3 _) l4 _) l5 _ = H2 at *
    have hm2 := sN _ _ hm0
    walk_at "go"
    refine u_forL (.of hu) (fun i σ H5 => ∃ (vs : List (Str × Addr)) (y3 y4 y5 y6 y7 y8 : Option V), σ = [some (.ref a), some (.ref b), some (.ref m), y3, y4, y5, y6, y7, y8] ∧ Same H H5 ∧ H5 l5 = some (.lst ((ws.map (fun e : Str × Addr => e.1) ++ us.map (fun e : Str × Addr => e.1)).map V.str)) ∧ Fnd H5 m (N + M) (fun n k => c n k - d n k) vs ∧ ∀ x ∈ (ws.map (·.1) ++ us.map (·.1)).take i, x ∈ vs.map (·.1) ∨ ∀ k, c x k - d x k = 0) ?_ ?_ ?_ ?_
    · exact ⟨[], _, _, _, _, _, _, rfl, s0.trans sN, hu, ⟨hm2, by simp, by simp, by simp⟩, by simp⟩
    · rintro i σ H5 _ ⟨vs, y3, y4, y5, y6, y7, y8, rfl, sm, hu5, fnd, hall⟩
      exact .of hu5
    · rintro i x σ H5 hx ⟨vs, y3, y4, y5, y6, y7, y8, rfl, sm, hu5, fnd, hall⟩
      obtain ⟨y, hy, rfl, hi2⟩ := map_atS hx
      walk_at "go"
      intro rr nrr
      have s6 := Same.new0 (o := .dK []) nrr
      have far1 : ∀ z ∈ ws.map (·.2), z ≠ rr := fun z hz => by
        obtain ⟨e, he, rfl⟩ := List.mem_map.mp hz
        obtain ⟨kvs, e1, _⟩ := h1.jars e he
        exact ne_of_none (sm _ _ e1) nrr
      have far2 : ∀ z ∈ us.map (·.2), z ≠ rr := fun z hz => by
        obtain ⟨e, he, rfl⟩ := List.mem_map.mp hz
        obtain ⟨kvs, e1, _⟩ := h2.jars e he
        exact ne_of_none (sm _ _ e1) nrr
      have sm6 := sm.trans s6
      have hr6 : (upd H5 rr (.dK [])) rr = some (.dK []) := upd_same
      have h16 := h1.same sm6
      have h26 := h2.same sm6
      have hu6 := s6 _ _ hu5
      generalize upd H5 rr (.dK []) = H6 at *
      walk_at "go"
      refine r_isD h16.at_ ?_
      walk_at "go"
      intro g1 ng1
      have s7 := Same.new0 (o := .dK []) ng1
      obtain ⟨u1, a1, dg1, eg1, j1, o1⟩ := (h16.same s7).get y (g := g1) upd_same
      have h27 := h26.same s7
      have ne1 : a1 ≠ rr := by
        rcases o1 with z | z
        · rw [z]; exact (ne_of_none hr6 ng1).symm
        · exact far1 _ z
      have hr7 := s7 _ _ hr6
      generalize upd H6 g1 (.dK []) = H7 at *
      refine ⟨u1, dg1, ?_⟩
      rw [eg1]
      walk_at "go"
      refine r_isD h27.at_ ?_
      walk_at "go"
      intro g2 ng2
      have s8 := Same.new0 (o := .dK []) ng2
      obtain ⟨u2, a2, dg2, eg2, j2, o2⟩ := (h27.same s8).get y (g := g2) upd_same
      have j18 := j1.same s8
      have hr8 := s8 _ _ hr7
      generalize upd H7 g2 (.dK []) = H8 at *
      have ne2 : a2 ≠ rr := by
        rcases o2 with z | z
        · rw [z]; exact (ne_of_none hr7 ng2).symm
        · exact far2 _ z
      have s58 := (s6.trans s7).trans s8
      refine ⟨u2, dg2, ?_⟩
      rw [eg2]
      walk_at "go"
      try dsimp only
      refine r_cut (fun σ' H' => ∃ y7 y8 : Option V, σ' = [some (.ref a), some (.ref b), some (.ref m), some (.str y), some (.ref rr), some (.ref a1), some (.ref a2), y7, y8] ∧ Same H5 H' ∧ JarS H' rr (N + M) (fun k => c y k - d y k ≠ 0) (fun k => c y k - d y k)) ?_ ?_
      · obtain ⟨kv1, ks1, e1, hk1, ek1, kl1, kc1, kf1⟩ := j18.list
        obtain ⟨kv2, ks2, e2, hk2, ek2, kl2, kc2, kf2⟩ := j2.list
        have ekk : ∀ {kvs : List (Key × V)} {ks : List Int}, kvs.map (·.1) = ks.map Sum.inl → (kvs.map fun kv => kV kv.1) = ks.map V.int := fun {kvs ks} e => by
          rw [show (fun kv : Key × V => kV kv.1) = kV ∘ (·.1) from rfl, ← List.map_map, e, List.map_map]
          rfl
        walk_at "go"
        refine ⟨a1, _, rfl, e1, fun p1 np1 => ?_⟩
        rw [ekk ek1]
        walk_at "go"
        refine ⟨a2, _, rfl, h_keep e2 np1, fun p2 np2 => ?_⟩
        rw [ekk ek2]
        walk_at "go"
        refine r_cat (h_keep upd_same np2) upd_same (by rw [List.length_map, List.length_map]; omega) fun p3 np3 => ?_
        rw [← List.map_append]
        have sL : Same H8 (upd (upd (upd H8 p1 (.lst (ks1.map V.int))) p2 (.lst (ks2.map V.int))) p3 (.lst ((ks1 ++ ks2).map V.int))) := Same.new (Same.new (Same.new0 np1) np2) np3
        have hL : (upd (upd (upd H8 p1 (.lst (ks1.map V.int))) p2 (.lst (ks2.map V.int))) p3 (.lst ((ks1 ++ ks2).map V.int))) p3 = some (.lst ((ks1 ++ ks2).map V.int)) := upd_same
        have jr0 : JarS (upd (upd (upd H8 p1 (.lst (ks1.map V.int))) p2 (.lst (ks2.map V.int))) p3 (.lst ((ks1 ++ ks2).map V.int))) rr 0 (fun k => c y k - d y k ≠ 0) (fun _ => 0) := ⟨[], sL _ _ hr8, .nil, Nat.le_refl _, fun p hp => absurd hp (by simp), fun k => rfl⟩
        have j1L := j18.same sL
        have j2L := j2.same sL
        generalize upd (upd (upd H8 p1 _) p2 _) p3 _ = HL at *
        have nL : p3 ≠ rr := by rintro rfl; obtain ⟨_, z, _⟩ := jr0; rw [hL] at z; cases z
        walk_at "go"
        refine u_forL (.of hL) (fun j σ H' => ∃ y7 y8 : Option V, σ = [some (.ref a), some (.ref b), some (.ref m), some (.str y), some (.ref rr), some (.ref a1), some (.ref a2), y7, y8] ∧ But rr HL H' ∧ JarS H' rr j (fun k => c y k - d y k ≠ 0) (fun k => if k ∈ (ks1 ++ ks2).take j then c y k - d y k else 0)) ?_ ?_ ?_ ?_
        · exact ⟨_, _, rfl, But.refl _ _, jr0.ext fun k => by simp⟩
        · rintro j σ H' _ ⟨y7, y8, rfl, bu, _⟩
          exact .of (bu _ _ nL hL)
        · rintro j x σ H' hxj ⟨y7, y8, rfl, bu, jr⟩
          obtain ⟨q, hq, rfl⟩ : ∃ q, (ks1 ++ ks2)[j]? = some q ∧ x = .int q := by
            rw [List.getElem?_map] at hxj
            cases e : (ks1 ++ ks2)[j]? with
            | none => rw [e] at hxj; cases hxj
            | some q => rw [e] at hxj; exact ⟨q, rfl, (Option.some.inj hxj).symm⟩
          have hj : j < (ks1 ++ ks2).length := (List.getElem?_eq_some_iff.mp hq).1
          rw [List.length_append] at hj
          have et : (ks1 ++ ks2).take (j + 1) = (ks1 ++ ks2).take j ++ [q] := by rw [List.take_add_one, hq]; rfl
          walk_at "go"
          refine (j1L.but ne1 bu).isD ?_
          walk_at "go"
          obtain ⟨oo, g1', g2'⟩ := (j1L.but ne1 bu).dget0 q
          refine ⟨oo, g1', ?_⟩
          rw [g2']
          walk_at "go"
          refine (j2L.but ne2 bu).isD ?_
          walk_at "go"
          obtain ⟨oo2, g3', g4'⟩ := (j2L.but ne2 bu).dget0 q
          refine ⟨oo2, g3', ?_⟩
          rw [g4']
          walk_at "go"
          have mem : ∀ k, k ∈ (ks1 ++ ks2).take (j + 1) ↔ k ∈ (ks1 ++ ks2).take j ∨ k = q := fun k => by rw [et, List.mem_append, List.mem_singleton]
          by_cases zq : c y q - d y q = 0
          · rw [decide_eq_true zq]
            walk_at "go"
            refine ⟨_, _, rfl, bu, (jr.mono (Nat.le_succ j)).ext fun k => ?_⟩
            (try dsimp only)
            by_cases z : k ∈ (ks1 ++ ks2).take j
            · rw [if_pos z, if_pos ((mem k).mpr (.inl z))]
            · rw [if_neg z]
              by_cases z2 : k = q
              · subst z2
                rw [if_pos ((mem k).mpr (.inr rfl)), zq]
              · rw [if_neg fun h => ((mem k).mp h).elim z z2]
          · rw [decide_eq_false zq]
            walk_at "go"
            obtain ⟨H9, p1, b1, f1, jj⟩ := jr.dput (k := q) (v := c y q - d y q) zq (by omega)
            refine ⟨rr, H9, rfl, p1, _, _, rfl, bu.trans b1, jj.ext fun k => ?_⟩
            unfold addAt
            by_cases z2 : k = q
            · subst z2
              rw [if_pos rfl, if_pos ((mem k).mpr (.inr rfl))]
            · rw [if_neg z2]
              show (if k ∈ (ks1 ++ ks2).take j then c y k - d y k else 0) = _
              by_cases z : k ∈ (ks1 ++ ks2).take j
              · rw [if_pos z, if_pos ((mem k).mpr (.inl z))]
              · rw [if_neg z, if_neg fun h => ((mem k).mp h).elim z z2]
        · rintro σ H' ⟨y7, y8, rfl, bu, jr⟩
          refine ⟨y7, y8, rfl, Same.but2 ((s58.trans sL)) nrr bu, ?_⟩
          rw [List.length_map, List.take_length] at jr
          refine (jr.mono (by rw [List.length_append]; omega)).ext fun k => ?_
          by_cases z : k ∈ ks1 ++ ks2
          · rw [if_pos z]
          · rw [if_neg z]
            have z1 : c y k = 0 := by
              rw [← kf1 k]
              refine cof_none fun p hp e => z ?_
              obtain ⟨q, hq, rfl⟩ := List.mem_map.mp hp
              rw [← e]
              exact List.mem_append.mpr (.inl hq)
            have z2 : d y k = 0 := by
              rw [← kf2 k]
              refine cof_none fun p hp e => z ?_
              obtain ⟨q, hq, rfl⟩ := List.mem_map.mp hp
              rw [← e]
              exact List.mem_append.mpr (.inr hq)
            rw [z1, z2]
            rfl
      rintro σ' H9 ⟨y7, y8, rfl, s9, j9⟩
      have fnd9 := fnd.same s9
      have j9' := j9
      have hu9 := s9 _ _ hu5
      try dsimp only
      walk_at "go"
      intro e ne
      obtain ⟨kvr, er, hkr, klr, kbr, kcr⟩ := j9
      have sE := Same.new0 (o := .dK []) ne
      refine r_neDE (h_keep er ne) upd_same ?_
      have er2 := sE _ _ er
      have fnd10 := fnd9.same sE
      have j10 := j9'.same sE
      have hu10 := sE _ _ hu9
      generalize upd H9 e (.dK []) = H10 at *
      have et : (ws.map (·.1) ++ us.map (·.1)).take (i + 1) = (ws.map (·.1) ++ us.map (·.1)).take i ++ [y] := by rw [List.take_add_one, hy]; rfl
      have s10 := sm.trans (s9.trans sE)
      by_cases zr : kvr = []
      · rw [decide_eq_true zr]
        walk_at "go"
        refine ⟨vs, _, _, _, _, _, _, rfl, s10, hu10, fnd10, fun x hx => ?_⟩
        rw [et] at hx
        rcases List.mem_append.mp hx with hx | hx
        · exact hall x hx
        · rw [List.mem_singleton.mp hx]
          refine .inr fun k => ?_
          have := kcr k
          rw [zr] at this
          exact this.symm
      · rw [decide_eq_false zr]
        have nmy : IsName y := by
          rcases List.mem_append.mp (List.mem_of_getElem? hy) with hh | hh
          · obtain ⟨e, he, rfl⟩ := List.mem_map.mp hh; exact h1.name e he
          · obtain ⟨e, he, rfl⟩ := List.mem_map.mp hh; exact h2.name e he
        have rm : rr ≠ m := (ne_of_none fnd.at_ nrr).symm
        have jx : ∃ k, c y k - d y k ≠ 0 := by
          cases kvr with
          | nil => exact absurd rfl zr
          | cons p ps =>
            obtain ⟨k, _, hk⟩ := kbr p (List.mem_cons_self ..)
            exact ⟨k, hk⟩
        obtain ⟨vs', dp, f', hin, hsub⟩ := fnd10.put (n := y) (d := rr) (by have := fnd10.few; omega) nmy ⟨j10, jx⟩ rm
        walk_at "go"
        refine ⟨m, _, rfl, dp, vs', _, _, _, _, _, _, rfl, Same.put s10 nm, ?_, f', fun x hx => ?_⟩
        · exact (upd_ne (ne_of hu10 fnd10.at_ (by intro z; cases z))).trans hu10
        · rw [et] at hx
          rcases List.mem_append.mp hx with hx | hx
          · rcases hall x hx with z | z
            · exact .inl (hsub x z)
            · exact .inr z
          · rw [List.mem_singleton.mp hx]
            exact .inl hin
    · rintro σ H5 ⟨vs, y3, y4, y5, y6, y7, y8, rfl, sm, hu5, fnd, hall⟩
      walk_at "go"
      rw [List.length_map, List.take_length] at hall
      refine k m vs H5 nm sm ⟨⟨fnd.at_, fnd.nd, fnd.name, fun e he => (fnd.jars e he).1.1.at, fun n hn z => ?_⟩, fun e he => (fnd.jars e he).1⟩
      by_cases q : n ∈ ws.map (·.1) ++ us.map (·.1)
      · exact ((hall n q).resolve_left hn) z
      · have q1 : ¬ n ∈ ws.map (·.1) := fun h => q (List.mem_append.mpr (.inl h))
        have q2 : ¬ n ∈ us.map (·.1) := fun h => q (List.mem_append.mpr (.inr h))
        rw [h1.none_ n q1, h2.none_ n q2]
        rfl
end

set_option Elab.async false
set_option linter.all false
set_option maxRecDepth 100000
set_option maxHeartbeats 8000000
set_option pp.deepTerms false
set_option pp.deepTerms.threshold 12
set_option pp.maxSteps 1200

open PySem PySem.Spec PyProof.Rows L2
theorem r_inS8 {K : PySem.W.Frag} {H : Hp} {Q : VK} {l : Addr} {w : Str} {zs : List Str} (h : H l = some (.lst (zs.map V.str))) (q : Q (.bl (inV (.str w) (zs.map V.str))) H) : rIn K false (.str w) (.ref l) H Q :=
  ⟨l, _, rfl, .inl (.of h), rfl, List.all_eq_true.mpr fun x hx => by obtain ⟨z, _, rfl⟩ := List.mem_map.mp hx; rfl, by rw [if_neg Bool.false_ne_true]; exact q⟩
/-- a chain as the law makes it: [program, heading, shift, factors, rows] -/
structure MadeAt (H : Hp) (l : Addr) (p : Prog) (c : Ch) : Prop where
  ex : ∃ q lf D us, H l = some (.lst [.ref q, .int p.head, .int c.shift, .ref lf, .ref D]) ∧ PrIs H q p ∧ FacAt H lf c.fac ∧ RwX H D 200 c.core us
  ch : p.chain = some c
  aim : c.aim = p.head
theorem MadeAt.same {H H' : Hp} {l : Addr} {p : Prog} {c : Ch} (h : MadeAt H l p c) (s : Same H H') : MadeAt H' l p c :=
  ⟨let ⟨q, lf, D, us, e1, e2, e3, e4⟩ := h.ex; ⟨q, lf, D, us, s _ _ e1, e2.tk (Tk.same s), e3.same s, e4.same s⟩, h.ch, h.aim⟩
def spSeed : Sp := fun vs H Q _ => ∃ (a : Addr) (p : Prog), vs = [.ref a] ∧ PrIs H a p ∧ Wf BC BC 12 p ∧ p.len ≤ 4000 ∧ p.short = true ∧ ∀ l c H', H l = none → Same H H' → MadeAt H' l p c → Q (.ref l) H'
section
variable {P : Program} {w : World} {K : PySem.W.Frag} {mg : Str → Option Value} {base : Heap} {C : Addr}

local macro_rules | `(tactic| walk_at "s") => `(tactic| (first
  | (with_reducible refine r_dnew ?_)
  | (with_reducible refine r_dget2 ?_)
  | (with_reducible refine r_dget ?_)
  | (with_reducible refine r_dput ?_)
  | (with_reducible refine r_dsetd ?_)
  | ((with_reducible refine JarAt.isD (n := ?nn) (c := ?cc) ?hh ?_); (case hh => assumption))
  ))

theorem ok_l_sign {f : Addr} {fd : FuncData} (F : Fun K "_law_sign" "_law_sign" s_l_sign f fd) : FnOk P w K mg base CX0 1 f fd ["_law_word"] spSignL := by
  refine F.ok sc_l_sign (fun vs H Q E h => ?_) (fun cdv A outer s H vs Q E hr h => ?_)
  · obtain ⟨wd, rfl, _⟩ := h
    rfl
  · obtain ⟨wd, rfl, hw, k⟩ := h
    refine ⟨_, (pss_cons (ps_if (pt_cmpR (op_in_seqK (K := K)) (pv 0) (pe_lst (pa_cons pe_str (pa_cons pe_str pa_nil))) (by rfl))
    (pss_one (ps_ret pe_int))
    pss_nil)
    (pss_one (ps_ret (pe_un un_neg pe_int)))), ?_⟩
    walk_at "go"
    intro l nl
    refine r_inS8 (zs := ["go", "hop"]) upd_same ?_
    rcases hw with rfl | rfl | rfl | rfl
    · rw [show inV (.str "go") ((["go", "hop"] : List Str).map V.str) = true by decide +kernel]
      rw [show stepSign "go" = 1 by decide +kernel] at k
      walk_at "go"
      exact k _ (Same.new0 nl)
    · rw [show inV (.str "back") ((["go", "hop"] : List Str).map V.str) = false by decide +kernel]
      rw [show stepSign "back" = -1 by decide +kernel] at k
      walk_at "go"
      exact k _ (Same.new0 nl)
    · rw [show inV (.str "hop") ((["go", "hop"] : List Str).map V.str) = true by decide +kernel]
      rw [show stepSign "hop" = 1 by decide +kernel] at k
      walk_at "go"
      exact k _ (Same.new0 nl)
    · rw [show inV (.str "slip") ((["go", "hop"] : List Str).map V.str) = false by decide +kernel]
      rw [show stepSign "slip" = -1 by decide +kernel] at k
      walk_at "go"
      exact k _ (Same.new0 nl)
theorem ok_l_seed {f : Addr} {fd : FuncData} (F : Fun K "_law_seed" "_law_seed" s_l_seed f fd) (h_l_last : Has P w K mg base "_law_last" 14 ["_law_track"] spLastP) : FnOk P w K mg base CX0 15 f fd ["_law_track"] spSeed := by
  refine F.ok sc_l_seed (fun vs H Q E h => ?_) (fun cdv A outer s H vs Q E hr h => ?_)
  · obtain ⟨a, p, rfl, _⟩ := h
    rfl
  · obtain ⟨a, p, rfl, hq, hw, hl, hs, k⟩ := h
    have hsz : p.size ≤ 200 := by
      have := hs
      unfold Prog.short at this
      split at this
      · cases this
      · omega
    refine ⟨_, (pss_cons (ps_asg (pe_callH h_l_last (hr.mono (by first | decide | omega)) (pa_cons (pv 0) pa_nil)) (pg_tup (by rfl) (pgs_cons (pg_name (i := 1) sc_l_seed.nd rfl (.inl rfl)) (pgs_cons (pg_name (i := 2) sc_l_seed.nd rfl (.inl rfl)) pgs_nil))))
    (pss_one (ps_ret (pe_lst (pa_cons (pv 0) (pa_cons (pv 1) (pa_cons pe_int (pa_cons (pe_lst pa_nil) (pa_cons (pv 2) pa_nil))))))))), ?_⟩
    walk_at "go"
    refine ⟨a, p, rfl, hq, hw, hl, hsz, fun t D us H1 s1 ht hD => ?_⟩
    walk_at "go"
    intro l1 n1
    walk_at "go"
    intro l2 n2
    have s2 := Same.new (Same.new0 n1 (o := .lst [])) n2 (o := .lst [.ref a, .int p.head, .int 0, .ref l1, .ref D])
    refine k l2 ⟨p.head, 0, [], Prog.wcf 0 (Prog.unroll 1 p)⟩ _ (free_same (s1.trans (Same.new0 n1)) n2) (s1.trans s2) ⟨⟨a, l1, D, us, upd_same, hq.tk (Tk.same (s1.trans s2)), ⟨[], h_keep upd_same n2, .nil⟩, hD.same s2⟩, Prog.chain_short hs, rfl⟩
end

set_option Elab.async false
set_option linter.all false
set_option maxRecDepth 100000
set_option maxHeartbeats 8000000
set_option pp.deepTerms false
set_option pp.deepTerms.threshold 12
set_option pp.maxSteps 1200

open PySem PySem.Spec PyProof.Rows L2
theorem Rd_frz8 {H : Hp} {a : Addr} {od : Obj} {kvs : List (Key × V)} {k : Key} {v : V} (e : H a = some (.frz od (.dK kvs))) (h : valV kvs k = some v) : DGet H a (kV k) (some v) := .inl ⟨kvs, k, .inr ⟨od, e⟩, rfl, h.symm⟩
def spUpside : Sp := fun vs H Q _ => ∃ (D : Addr) (N : Nat) (c : Str → Int → Int) (ws : List (Str × Addr)), vs = [.ref D] ∧ RwX H D N c ws ∧ N ≤ 4000 ∧ ∀ E us H', H E = none → Same H H' → RwX H' E N (fun n k => c n (-k)) us → Q (.ref E) H'
section
variable {P : Program} {w : World} {K : PySem.W.Frag} {mg : Str → Option Value} {base : Heap} {C : Addr}

local macro_rules | `(tactic| walk_at "s") => `(tactic| (first
  | (with_reducible refine r_dnew ?_)
  | (with_reducible refine r_dget2 ?_)
  | (with_reducible refine r_dget ?_)
  | (with_reducible refine r_dput ?_)
  | (with_reducible refine r_dsetd ?_)
  | ((with_reducible refine JarAt.isD (n := ?nn) (c := ?cc) ?hh ?_); (case hh => assumption))
  ))

local macro_rules | `(tactic| walk_at "s") => `(tactic| (first
  | (with_reducible refine r_iKeys ?_)
  ))
theorem ok_l_upside {f : Addr} {fd : FuncData} (F : Fun K "_law_upside" "_law_upside" s_l_upside f fd) : FnOk P w K mg base CX0 1 f fd ["_law_rows"] spUpside := by
  refine F.ok sc_l_upside (fun vs H Q E h => ?_) (fun cdv A outer s H vs Q E hr h => ?_)
  · obtain ⟨D, N, c, ws, rfl, _⟩ := h
    rfl
  · obtain ⟨D, N, c, ws, rfl, hx1, n1, k⟩ := h
    have h1 := hx1.r
    have f1 := h1.few
    refine ⟨_, (pss_cons (ps_set (i := 1) sc_l_upside.nd rfl (.inl rfl) pe_dnewK)
    (pss_cons (ps_lock (ps_for PassesOwn.never rfl (pi_keys (pv 0)) (pg_name (i := 2) sc_l_upside.nd rfl (.inl rfl))
    (pss_cons (ps_set (i := 3) sc_l_upside.nd rfl (.inl rfl) pe_dnewK)
    (pss_cons (ps_lock (ps_for PassesOwn.never rfl (pi_keys (pe_dget (hu_of hr) (pv 0) (pv 2) (fun _ _ => rfl))) (pg_name (i := 4) sc_l_upside.nd rfl (.inl rfl))
    (pss_one (ps_dput (hu_of hr) (pv 3) (pe_un un_neg (pv 4)) (pe_dget (hu_of hr) (pe_dget (hu_of hr) (pv 0) (pv 2) (fun _ _ => rfl)) (pv 4) (fun _ _ => rfl)) rfl))))
    (pss_one (ps_dput (hu_of hr) (pv 1) (pv 2) (pv 3) rfl))))))
    (pss_one (ps_ret (pv 1))))), ?_⟩
    walk_at "go"
    intro m nm
    have s0 : Same H (upd H m (.dK [])) := Same.new0 nm
    have h1a := h1.same s0
    have nmD : m ≠ D := (ne_of_none h1.at_ nm).symm
    have hm0 : (upd H m (.dK [])) m = some (.dK []) := upd_same
    generalize upd H m (.dK []) = H1 at *
    walk_at "go"
    refine ⟨D, _, h1a.at_, trivial, fun od => ?_⟩
    have hlk : (upd H1 D (.frz od (.dK (spotKvs ws)))) D = some (.frz od (.dK (spotKvs ws))) := upd_same
    have unD : ∀ H', But m (upd H1 D (.frz od (.dK (spotKvs ws)))) H' → But m H1 (upd H' D (.dK (spotKvs ws))) := fun H' b => But.unlock h1a.at_ b
    have hm2 : (upd H1 D (.frz od (.dK (spotKvs ws)))) m = some (.dK []) := (upd_ne nmD).trans hm0
    have hrow : ∀ e ∈ ws, JarX (upd H1 D (.frz od (.dK (spotKvs ws)))) e.2 N (c e.1) := fun e he => by
      obtain ⟨kvs, e1, r⟩ := h1a.jars e he
      refine ((hx1.same s0).x e he).upd fun z => ?_
      rw [z, h1a.at_] at e1
      injection e1 with e1
      injection e1 with e1
      obtain ⟨k1, k2, e3⟩ := r.1.prs (.inr e.1, .ref e.2) (by rw [← e1]; exact List.mem_map.mpr ⟨e, he, rfl⟩)
      cases e3
    generalize upd H1 D (.frz od (.dK (spotKvs ws))) = H2 at *
    walk_at "go"
    refine ⟨D, od, rfl, .inl ⟨_, hlk, ?_⟩⟩
    refine u_keys (fun i σ H' => ∃ (vs : List (Str × Addr)) (y2 y3 y4 : Option V), σ = [some (.ref D), some (.ref m), y2, y3, y4] ∧ But m H2 H' ∧ Fnd H' m N (fun n k => c n (-k)) vs ∧ ∀ x ∈ (ws.map (·.1)).take i, x ∈ vs.map (·.1)) ?_ ?_ ?_ ?_
    · exact ⟨[], _, _, _, rfl, But.refl _ _, ⟨hm2, by simp, by simp, by simp⟩, by simp⟩
    · rintro i σ H' ⟨vs, y2, y3, y4, rfl, b, _⟩
      exact b _ _ nmD.symm hlk
    · rintro i kk v σ H' hkv ⟨vs, y2, y3, y4, rfl, b, fnd, hall⟩
      obtain ⟨e, he, rfl, rfl⟩ : ∃ e, ws[i]? = some e ∧ kk = .inr e.1 ∧ v = .ref e.2 := by
        unfold spotKvs at hkv
        rw [List.getElem?_map] at hkv
        cases he : ws[i]? with
        | none => rw [he] at hkv; cases hkv
        | some e => rw [he] at hkv; cases hkv; exact ⟨e, rfl, rfl, rfl⟩
      have em := List.mem_of_getElem? he
      have hfz := b _ _ nmD.symm hlk
      walk_at "go"
      intro rr nrr
      have s3 := Same.new0 (o := .dK []) nrr
      have hfz3 := s3 _ _ hfz
      have hr3 : (upd H' rr (.dK [])) rr = some (.dK []) := upd_same
      have fnd3 := fnd.same s3
      generalize upd H' rr (.dK []) = H3 at *
      walk_at "go"
      have em2 : e.2 ≠ m := by
        obtain ⟨kvs, e1, _⟩ := h1.jars e em
        exact ne_of_none e1 nm
      have jq : JarX H' e.2 N (c e.1) := ⟨(hrow e em).1.but em2 b, (hrow e em).2⟩
      obtain ⟨kv1, ks1, e1, hk1, ek1, kl1, kc1, kf1⟩ := (jq.same s3).1.at.list
      have eD : e.2 ≠ D := by
        intro z
        rw [z, hfz3] at e1
        cases e1
      have er : e.2 ≠ rr := by
        obtain ⟨kvs, e2, _⟩ := jq.1
        exact ne_of_none e2 nrr
      have rD : D ≠ rr := ne_of_none hfz nrr
      refine ⟨e.2, _, e1, trivial, fun od2 => ?_⟩
      have hlk2 : (upd H3 e.2 (.frz od2 (.dK kv1))) e.2 = some (.frz od2 (.dK kv1)) := upd_same
      have hfz4 : (upd H3 e.2 (.frz od2 (.dK kv1))) D = some (.frz od (.dK (spotKvs ws))) := (upd_ne eD.symm).trans hfz3
      have jr4 : JarS (upd H3 e.2 (.frz od2 (.dK kv1))) rr 0 (fun k => c e.1 (-k) ≠ 0) (fun _ => 0) := ⟨[], (upd_ne er.symm).trans hr3, .nil, Nat.le_refl _, fun p hp => absurd hp (by simp), fun k => rfl⟩
      have sup : ∀ q ∈ ks1, c e.1 q ≠ 0 := fun q hq => by
        obtain ⟨kvs, e2, _, _, kb, _⟩ := (jq.same s3).1
        cases e2.symm.trans e1
        have hm : (Sum.inl q : Key) ∈ kv1.map (·.1) := by rw [ek1]; exact List.mem_map.mpr ⟨q, hq, rfl⟩
        obtain ⟨p, hp, ep⟩ := List.mem_map.mp hm
        obtain ⟨k', e4, hk'⟩ := kb p hp
        rw [ep] at e4
        cases e4
        exact hk'
      have unR : ∀ H', But rr (upd H3 e.2 (.frz od2 (.dK kv1))) H' → But rr H3 (upd H' e.2 (.dK kv1)) := fun H' b => But.unlock e1 b
      generalize upd H3 e.2 (.frz od2 (.dK kv1)) = H4 at *
      walk_at "go"
      refine ⟨D, _, rfl, Rd_frz8 (k := .inr e.1) hfz4 ((namD_val ws e.1 h1.nd).1 e.2 em), ?_⟩
      walk_at "go"
      refine ⟨e.2, od2, rfl, .inl ⟨_, hlk2, ?_⟩⟩
      refine u_keys (fun j σ H5 => ∃ (y4 : Option V), σ = [some (.ref D), some (.ref m), some (.str e.1), some (.ref rr), y4] ∧ But rr H4 H5 ∧ JarS H5 rr j (fun k => c e.1 (-k) ≠ 0) (fun k => if -k ∈ ks1.take j then c e.1 (-k) else 0)) ?_ ?_ ?_ ?_
      · exact ⟨_, rfl, But.refl _ _, jr4.ext fun k => by simp⟩
      · rintro j σ H5 ⟨y4, rfl, bu, _⟩
        exact bu _ _ er hlk2
      · rintro j kk v σ H5 hkv2 ⟨y4, rfl, bu, jr⟩
        rw [hk1.ents ek1] at hkv2
        obtain ⟨q, hq, rfl, rfl⟩ := jarK_at hkv2
        have hfz5 := bu _ _ rD hfz4
        have hlk5 := bu _ _ er hlk2
        have hjl : j < ks1.length := (List.getElem?_eq_some_iff.mp hq).1
        have et : ks1.take (j + 1) = ks1.take j ++ [q] := by rw [List.take_add_one, hq]; rfl
        have hvq : valV kv1 (.inl q) = some (.int (c e.1 q)) := by
          refine val_of_mem hk1.nd ?_
          rw [hk1.ents ek1, ← kc1 q]
          exact List.mem_map.mpr ⟨q, List.mem_of_getElem? hq, rfl⟩
        walk_at "go"
        refine ⟨D, _, rfl, Rd_frz8 (k := .inr e.1) hfz5 ((namD_val ws e.1 h1.nd).1 e.2 em), ?_⟩
        walk_at "go"
        refine ⟨e.2, _, rfl, Rd_frz8 (k := .inl q) hlk5 hvq, ?_⟩
        walk_at "go"
        refine ⟨q, rfl, ?_⟩
        walk_at "go"
        obtain ⟨H9, p1, b1, f1, jj⟩ := jr.dput (k := -q) (v := c e.1 q) (by show c e.1 (- -q) ≠ 0; rw [Int.neg_neg]; exact sup q (List.mem_of_getElem? hq)) (by omega)
        refine ⟨rr, H9, rfl, p1, _, rfl, bu.trans b1, jj.ext fun k => ?_⟩
        unfold addAt
        have mem : -k ∈ ks1.take (j + 1) ↔ -k ∈ ks1.take j ∨ -k = q := by rw [et, List.mem_append, List.mem_singleton]
        by_cases z2 : k = -q
        · have z3 : -k = q := by omega
          rw [if_pos z2, if_pos (mem.mpr (.inr z3)), z3]
        · rw [if_neg z2]
          show (if -k ∈ ks1.take j then c e.1 (-k) else 0) = _
          by_cases z : -k ∈ ks1.take j
          · rw [if_pos z, if_pos (mem.mpr (.inl z))]
          · rw [if_neg z, if_neg fun h => (mem.mp h).elim z (by omega)]
      · rintro σ H5 ⟨y4, rfl, bu, jr⟩
        have hq5 := bu _ _ er hlk2
        refine ⟨hq5, ?_⟩
        have s9 := Same.but2 s3 nrr (unR _ bu)
        have wl2 : kv1.length = ks1.length := by have := congrArg List.length ek1; rwa [List.length_map, List.length_map] at this
        rw [wl2, List.take_length] at jr
        have jr9 : JarX (upd H5 e.2 (.dK kv1)) rr N (fun k => c e.1 (-k)) := by
          obtain ⟨k0, hk0⟩ := (hx1.x e em).2
          obtain ⟨kvr, a1, a2, a3, a5, a4⟩ := jr
          refine ⟨⟨kvr, (upd_ne er.symm).trans a1, a2, by omega, a5, fun k => (a4 k).trans ?_⟩, -k0, by show c e.1 (- -k0) ≠ 0; rw [Int.neg_neg]; exact hk0⟩
          show (if -k ∈ ks1 then c e.1 (-k) else 0) = c e.1 (-k)
          by_cases z : -k ∈ ks1
          · rw [if_pos z]
          · rw [if_neg z, ← kf1 (-k)]
            refine (cof_none fun p hp e => z ?_).symm
            obtain ⟨q, hq, rfl⟩ := List.mem_map.mp hp
            rw [← e]
            exact hq
        have fnd9 := fnd.same s9
        have b9 := b.trans (Same.but s9 m)
        generalize upd H5 e.2 (.dK kv1) = H9 at *
        have rm : rr ≠ m := (ne_of_none fnd.at_ nrr).symm
        obtain ⟨vs', dp, f', hin, hsub⟩ := fnd9.put (n := e.1) (d := rr) (by have := fnd9.few; omega) (h1.name e em) jr9 rm
        walk_at "go"
        refine ⟨m, _, rfl, dp, vs', _, _, _, rfl, b9.self, f', fun x hx => ?_⟩
        have et : (ws.map (·.1)).take (i + 1) = (ws.map (·.1)).take i ++ [e.1] := by rw [List.take_add_one, List.getElem?_map, he]; rfl
        rw [et] at hx
        rcases List.mem_append.mp hx with hx | hx
        · exact hsub x (hall x hx)
        · rw [List.mem_singleton.mp hx]
          exact hin
    · rintro σ H' ⟨vs, y2, y3, y4, rfl, b, fnd, hall⟩
      have hD' := b _ _ nmD.symm hlk
      refine ⟨hD', ?_⟩
      walk_at "go"
      have wl : ((spotKvs ws).length) = ws.length := by rw [spotKvs, List.length_map]
      rw [wl, List.take_of_length_le (by rw [List.length_map]; exact Nat.le_refl _)] at hall
      have bu := unD _ b
      refine k m vs _ nm (Same.but2 s0 nm bu) ⟨⟨(upd_ne nmD).trans fnd.at_, fnd.nd, fnd.name, fun e he => ?_, fun n hn z => ?_⟩, fun e he => ?_⟩
      · obtain ⟨kvs, e1, r⟩ := (fnd.jars e he).1.1.at
        by_cases z : e.2 = D
        · rw [z, hD'] at e1; cases e1
        · exact ⟨kvs, (upd_ne z).trans e1, r⟩
      · exact h1.none_ n (fun q => hn (hall n q)) _
      · by_cases z : e.2 = D
        · obtain ⟨kvs, e1, _⟩ := (fnd.jars e he).1.1.at
          rw [z, hD'] at e1; cases e1
        · exact (fnd.jars e he).1.upd z
end

set_option Elab.async false
set_option linter.all false
set_option maxRecDepth 100000
set_option maxHeartbeats 8000000
set_option pp.deepTerms false
set_option pp.deepTerms.threshold 12
set_option pp.maxSteps 1200

open PySem PySem.Spec PyProof.Rows L2
def spRoundW : Sp := fun vs H Q _ => ∃ (l la lz : Addr) (p : Prog) (c : Ch) (x : Wrap) (xa xz : List V) (d : Nat), vs = [.ref l, .ref la, .int x.n, .ref lz] ∧ MadeAt H l p c ∧ Wf BC BC d p ∧ d ≤ 11 ∧ 1 ≤ p.len ∧ p.len ≤ 4000 ∧ c.fac.length ≤ d ∧ WrapOk x ∧ H la = some (.lst xa) ∧ PrAt H x.a xa ∧ H lz = some (.lst xz) ∧ PrAt H x.z xz ∧
  ∀ l' p' c' H', H l' = none → Same H H' → MadeAt H' l' p' c' → Wf BC BC (d + 1) p' → 1 ≤ p'.len → p'.len ≤ 11 → c'.fac.length ≤ d + 1 → Q (.ref l') H'
section
variable {P : Program} {w : World} {K : PySem.W.Frag} {mg : Str → Option Value} {base : Heap} {C : Addr}

local macro_rules | `(tactic| walk_at "s") => `(tactic| (first
  | (with_reducible refine r_dnew ?_)
  | (with_reducible refine r_dget2 ?_)
  | (with_reducible refine r_dget ?_)
  | (with_reducible refine r_dput ?_)
  | (with_reducible refine r_dsetd ?_)
  | ((with_reducible refine JarAt.isD (n := ?nn) (c := ?cc) ?hh ?_); (case hh => assumption))
  ))

theorem ok_l_round {f : Addr} {fd : FuncData} (F : Fun K "_law_round" "_law_round" s_l_round f fd) (bTuple : mg "tuple" = none) (h_l_summed : Has P w K mg base "_law_summed" 1 ["_law_commands"] spSummedL) (h_l_upside : Has P w K mg base "_law_upside" 1 ["_law_rows"] spUpside) (h_l_fits : Has P w K mg base "_law_fits" 14 ["_law_track"] spShort) (h_l_seed : Has P w K mg base "_law_seed" 15 ["_law_track"] spSeed) : FnOk P w K mg base CX0 16 f fd ["_law_made", "_law_ahead", "_law_often_here", "_law_behind"] spRoundW := by
  refine F.ok sc_l_round (fun vs H Q E h => ?_) (fun cdv A outer s H vs Q E hr h => ?_)
  · obtain ⟨l, la, lz, p, c, x, xa, xz, d, rfl, _⟩ := h
    rfl
  · obtain ⟨l, la, lz, p, c, x, xa, xz, d, rfl, hm, hw, d11, plo, plh, fl, wo, ha, hpa, hz, hpz, k⟩ := h
    obtain ⟨q, lf, D, us, eL, hq, hf, hD⟩ := hm.ex
    obtain ⟨kA, eA, sA, tA⟩ := turns_each hpa wo.ta
    obtain ⟨kZ, eZ, sZ, tZ⟩ := turns_each hpz wo.tz
    have xal : xa.length ≤ 5 := by rw [hpa.length]; exact wo.la
    have xzl : xz.length ≤ 5 := by rw [hpz.length]; exact wo.lz
    have hb : p.head.natAbs < 2 ^ 100000 := head_bits hw (by omega) plh
    refine ⟨_, (pss_cons (ps_set (i := 4) sc_l_round.nd rfl (.inl rfl) (pe_callH h_l_summed (hr.mono (by first | decide | omega)) (pa_cons (pv 1) pa_nil)))
    (pss_cutM (ps_if (pt_cmpR op_eq (pv 2) pe_int (nomark _))
    (pss_cons (ps_set (i := 5) sc_l_round.nd rfl (.inl rfl) (pe_callTy call_tupL (by rfl) bTuple (by decide +kernel) (pa_cons (pe_op op_cat (pe_op op_cat (pv 1) (pe_lst (pa_cons (pe_tup (pa_cons pe_str (pa_cons (pe_ix (ix_listK (K := K)) (pv 0) pe_int (fun _ _ => rfl)) pa_nil))) pa_nil))) (pv 3)) pa_nil)))
    (pss_cons (ps_setLc (i := 6) (g := (gTup K 2 (gCons (gName 8) (gCons (gName 9) gNil)))) (own := [("_law_one", 8), ("_law_turn", 9)]) rfl sc_l_round.nd rfl rfl (sw_true rfl rfl rfl (by decide +kernel)) (pi_list (pe_ix (ix_listK (K := K)) (pv 0) pe_int (fun _ _ => rfl))) (blkOk_by (N := ["_law_made", "_law_ahead", "_law_often_here", "_law_behind", "_law_more", "_law_track", "_law_factors", "_law_found", "_law_one", "_law_turn"]) (sc := defScope s_l_round) (by decide +kernel)) (fun _ _ _ _ _ => (pg_tupK (K := K) rfl (pgs_cons (pg_name (i := 8) sc_l_round.nd rfl (.inl rfl)) (pgs_cons (pg_name (i := 9) sc_l_round.nd rfl (.inl rfl)) pgs_nil)))) (fun _ _ _ _ _ => pts_nil) (fun _ _ _ _ _ => (pe_tup (pa_cons (pv 8) (pa_cons (pe_un un_neg (pv 9)) pa_nil)))))
    (pss_one (ps_set (i := 7) sc_l_round.nd rfl (.inl rfl) (pe_lst (pa_cons (pv 5) (pa_cons (pe_op op_add (pe_op op_sub (pv 4) (pe_ix (ix_listK (K := K)) (pv 0) pe_int (fun _ _ => rfl))) (pe_callH h_l_summed (hr.mono (by first | decide | omega)) (pa_cons (pv 3) pa_nil))) (pa_cons (pe_op op_sub (pv 4) (pe_ix (ix_listK (K := K)) (pv 0) pe_int (fun _ _ => rfl))) (pa_cons (pv 6) (pa_cons (pe_callH h_l_upside (hr.mono (by first | decide | omega)) (pa_cons (pe_ix (ix_listK (K := K)) (pv 0) pe_int (fun _ _ => rfl)) pa_nil)) pa_nil))))))))))
    (pss_cons (ps_set (i := 5) sc_l_round.nd rfl (.inl rfl) (pe_callTy call_tupL (by rfl) bTuple (by decide +kernel) (pa_cons (pe_op op_cat (pe_op op_cat (pv 1) (pe_lst (pa_cons (pe_tup (pa_cons pe_str (pa_cons (pv 2) (pa_cons (pe_ix (ix_listK (K := K)) (pv 0) pe_int (fun _ _ => rfl)) pa_nil)))) pa_nil))) (pv 3)) pa_nil)))
    (pss_cons (ps_set (i := 6) sc_l_round.nd rfl (.inl rfl) (pe_op op_cat (pe_ix (ix_listK (K := K)) (pv 0) pe_int (fun _ _ => rfl)) (pe_lst (pa_cons (pe_tup (pa_cons (pv 2) (pa_cons (pe_ix (ix_listK (K := K)) (pv 0) pe_int (fun _ _ => rfl)) pa_nil))) pa_nil))))
    (pss_one (ps_set (i := 7) sc_l_round.nd rfl (.inl rfl) (pe_lst (pa_cons (pv 5) (pa_cons (pe_op op_add (pe_op op_add (pv 4) (pe_op op_mulW (pv 2) (pe_ix (ix_listK (K := K)) (pv 0) pe_int (fun _ _ => rfl)))) (pe_callH h_l_summed (hr.mono (by first | decide | omega)) (pa_cons (pv 3) pa_nil))) (pa_cons (pe_op op_add (pv 4) (pe_ix (ix_listK (K := K)) (pv 0) pe_int (fun _ _ => rfl))) (pa_cons (pv 6) (pa_cons (pe_ix (ix_listK (K := K)) (pv 0) pe_int (fun _ _ => rfl)) pa_nil)))))))))))
    (pss_cons (ps_if (pt_val (pe_callH h_l_fits (hr.mono (by first | decide | omega)) (pa_cons (pv 5) pa_nil)))
    (pss_one (ps_ret (pe_callH h_l_seed (hr.mono (by first | decide | omega)) (pa_cons (pv 5) pa_nil))))
    pss_nil)
    (pss_one (ps_ret (pv 7)))))), ?_⟩
    walk_at "go"
    refine ⟨la, xa, kA, rfl, ha, eA, by omega, fun H1 s1 => ?_⟩
    walk_at "go"
    refine r_cut (fun σ' H' => ∃ (p' : Prog) (c' : Ch) (t fo lf' D' : Addr) (us' : List (Str × Addr)) (y6 : Option V), σ' = [some (.ref l), some (.ref la), some (.int x.n), some (.ref lz), some (.int kA.sum), some (.ref t), y6, some (.ref fo), none, none] ∧ Same H1 H' ∧ H1 fo = none ∧ PrIs H' t p' ∧ Wf BC BC (d + 1) p' ∧ 1 ≤ p'.len ∧ p'.len ≤ 11 ∧
      H' fo = some (.lst [.ref t, .int p'.head, .int c'.shift, .ref lf', .ref D']) ∧ FacAt H' lf' c'.fac ∧ RwX H' D' 200 c'.core us' ∧ (p'.short = false → p'.chain = some c') ∧ c'.aim = p'.head ∧ c'.fac.length ≤ d + 1) ?_ ?_
    · walk_at "go"
      refine r_iteD (fun h0 => ?_) (fun h0 => ?_)
      · walk_at "go"
        intro t1 n1
        walk_at "go"
        intro l1 nl1
        have ha1 := s1 _ _ ha
        have hz1 := s1 _ _ hz
        refine r_cat (h_keep (h_keep ha1 n1) nl1) upd_same (by simp; omega) fun l2 nl2 => ?_
        walk_at "go"
        refine r_cat upd_same (h_keep (h_keep (h_keep hz1 n1) nl1) nl2) (by simp; omega) fun l3 nl3 => ?_
        walk_at "go"
        intro tt ntt
        have sG : Same H1 (upd (upd (upd (upd (upd H1 t1 (.tup [.str "mirror", .ref q])) l1 (.lst [.ref t1])) l2 (.lst (xa ++ [.ref t1]))) l3 (.lst (xa ++ [.ref t1] ++ xz))) tt (.tup (xa ++ [.ref t1] ++ xz))) := Same.new (Same.new (Same.new (Same.new (Same.new0 n1) nl1) nl2) nl3) ntt
        have gt1 : (upd (upd (upd (upd (upd H1 t1 (.tup [.str "mirror", .ref q])) l1 (.lst [.ref t1])) l2 (.lst (xa ++ [.ref t1]))) l3 (.lst (xa ++ [.ref t1] ++ xz))) tt (.tup (xa ++ [.ref t1] ++ xz))) t1 = some (.tup [.str "mirror", .ref q]) := h_keep (h_keep (h_keep (h_keep upd_same nl1) nl2) nl3) ntt
        have gtt : (upd (upd (upd (upd (upd H1 t1 (.tup [.str "mirror", .ref q])) l1 (.lst [.ref t1])) l2 (.lst (xa ++ [.ref t1]))) l3 (.lst (xa ++ [.ref t1] ++ xz))) tt (.tup (xa ++ [.ref t1] ++ xz))) tt = some (.tup (xa ++ [.ref t1] ++ xz)) := upd_same
        generalize upd (upd (upd (upd (upd H1 t1 _) l1 _) l2 _) l3 _) tt _ = G at *
        have s1G := s1.trans sG
        have eLG := s1G _ _ eL
        obtain ⟨fvs, hfv, efv⟩ := hf.same s1G
        have fvl : fvs.length ≤ 12 := by rw [efv.1]; omega
        walk_at "go"
        refine u_lcL (SqL.of hfv) (fun D i acc H' => Each (FacV H') acc ((c.fac.take i).map fun f => (f.1, -f.2)) ∧ Same G H') ?_ ?_ ?_ ?_
        · exact fun D hD => ⟨.nil, Same.new0 hD⟩
        · rintro D i acc H' hD hacc' ⟨_, sm⟩
          exact SqL.of (sm _ _ hfv)
        · rintro D i x' acc H' hD hxi hacc' ⟨he, sm⟩
          have hi : i < c.fac.length := by
            rw [← efv.1]
            refine Decidable.byContradiction fun z => ?_
            rw [List.getElem?_eq_none (by omega)] at hxi
            cases hxi
          have hfi := List.getElem?_eq_getElem hi
          obtain ⟨t, rfl, ht⟩ := efv.2 i x' _ hxi hfi
          have ht' := sm _ _ ht
          have al : acc.length ≤ 12 := by
            rw [he.1, List.length_map, List.length_take]
            omega
          walk_at "go"
          refine ⟨rfl, ?_⟩
          walk_at "go"
          intro t2 nt2
          have hac2 : (upd H' t2 (.tup [.int c.fac[i].1, .int (-c.fac[i].2)])) D = some (.lst acc) := h_keep hacc' nt2
          have ht2 : (upd H' t2 (.tup [.int c.fac[i].1, .int (-c.fac[i].2)])) t2 = some (.tup [.int c.fac[i].1, .int (-c.fac[i].2)]) := upd_same
          refine u_push hac2 (by omega) ⟨?_, Same.put (sm.trans (Same.new0 nt2)) hD⟩
          rw [List.take_add_one, hfi, List.map_append]
          exact Each.app (he.imp fun v f _ r => r.tk ((Tk.same (Same.new0 nt2)).lst hac2)) (EachC ⟨t2, rfl, (upd_ne (ne_of ht2 hac2 (by intro z; cases z))).trans ht2⟩ .nil)
        · rintro D2 acc H5 hD2 hacc5 ⟨he5, sm5⟩
          rw [efv.1, List.take_length] at he5
          have fac5 : FacAt H5 D2 (c.fac.map fun f => (f.1, -f.2)) := ⟨acc, hacc5, he5⟩
          have s15 := s1G.trans sm5
          have eL5 := s15 _ _ eL
          clear hacc5 he5
          walk_at "go"
          refine ⟨lz, xz, kZ, rfl, s15 _ _ hz, eZ.imp fun v f _ ⟨t, e1, e2⟩ => ⟨t, e1, s15 _ _ e2⟩, by omega, fun H6 s6 => ?_⟩
          have s16 := s15.trans s6
          have eL6 := s16 _ _ eL
          walk_at "go"
          refine ⟨D, 200, c.core, us, rfl, hD.same s16, by decide, fun E us' H7 nE s7 hE => ?_⟩
          walk_at "go"
          intro fo nfo
          have s8 := Same.new0 (o := .lst [.ref tt, .int (kA.sum - p.head + kZ.sum), .int (kA.sum - c.shift), .ref D2, .ref E]) nfo
          have sB := ((sm5.trans s6).trans s7)
          have sAll := (sG.trans sB).trans s8
          have s1A := s1.trans sAll
          obtain ⟨zs, hqz, hqp⟩ := hq.tk (Tk.same s1A)
          have hBC : BC = 10000000000000000000000000000000 := by decide
          have hp' : PrIs (upd H7 fo (.lst [.ref tt, .int (kA.sum - p.head + kZ.sum), .int (kA.sum - c.shift), .ref D2, .ref E])) tt (x.a.app (.mir p x.z)) := ⟨xa ++ ([.ref t1] ++ xz), by rw [← List.append_assoc]; exact (sB.trans s8) _ _ gtt, (hpa.tk (Tk.same s1A)).app ⟨t1, q, zs, xz, rfl, (sB.trans s8) _ _ gt1, hqz, hqp, hpz.tk (Tk.same s1A)⟩⟩
          have ehd : (x.a.app (.mir p x.z)).head = kA.sum - p.head + kZ.sum := by
            rw [Prog.head_app, Prog.head, sA, sZ]
            omega
          walk_at "go"
          refine ⟨x.a.app (.mir p x.z), ⟨(x.a.app (.mir p x.z)).head, -c.shift + x.a.head, c.fac.map fun f => (f.1, -f.2), fun n k => c.core n (-k)⟩, tt, fo, D2, E, us', _, rfl, sAll, free_same (sG.trans sB) nfo, hp', ?_, ?_, ?_, ?_, fac5.same ((s6.trans s7).trans s8), hE.same s8, fun hs => Prog.chain_mir hs (by rw [sp_wrapM tA tZ, hm.ch]), rfl, ?_⟩
          · exact WfL.app (WfL.mono (Int.le_refl _) (Int.le_refl _) (Nat.zero_le _) (turns_wf wo.ta)) ⟨⟨plo, plh⟩, hw, WfL.mono (Int.le_refl _) (Int.le_refl _) (Nat.zero_le _) (turns_wf wo.tz)⟩
          · rw [Prog.len_app, Prog.len]; omega
          · have := wo.la; have := wo.lz; rw [Prog.len_app, Prog.len]; omega
          · rw [upd_same, ehd]
            show _ = some (HO.lst [_, _, V.int (-c.shift + x.a.head), _, _])
            rw [sA, show -c.shift + x.a.head = x.a.head - c.shift by omega]
          · show (c.fac.map fun f => (f.1, -f.2)).length ≤ d + 1
            rw [List.length_map]
            omega
      · walk_at "go"
        intro t1 n1
        walk_at "go"
        intro l1 nl1
        have ha1 := s1 _ _ ha
        have hz1 := s1 _ _ hz
        refine r_cat (h_keep (h_keep ha1 n1) nl1) upd_same (by simp; omega) fun l2 nl2 => ?_
        walk_at "go"
        refine r_cat upd_same (h_keep (h_keep (h_keep hz1 n1) nl1) nl2) (by simp; omega) fun l3 nl3 => ?_
        walk_at "go"
        intro tt ntt
        have sG : Same H1 (upd (upd (upd (upd (upd H1 t1 (.tup [.str "repeat", .int x.n, .ref q])) l1 (.lst [.ref t1])) l2 (.lst (xa ++ [.ref t1]))) l3 (.lst (xa ++ [.ref t1] ++ xz))) tt (.tup (xa ++ [.ref t1] ++ xz))) := Same.new (Same.new (Same.new (Same.new (Same.new0 n1) nl1) nl2) nl3) ntt
        have gt1 : (upd (upd (upd (upd (upd H1 t1 (.tup [.str "repeat", .int x.n, .ref q])) l1 (.lst [.ref t1])) l2 (.lst (xa ++ [.ref t1]))) l3 (.lst (xa ++ [.ref t1] ++ xz))) tt (.tup (xa ++ [.ref t1] ++ xz))) t1 = some (.tup [.str "repeat", .int x.n, .ref q]) := h_keep (h_keep (h_keep (h_keep upd_same nl1) nl2) nl3) ntt
        have gtt : (upd (upd (upd (upd (upd H1 t1 (.tup [.str "repeat", .int x.n, .ref q])) l1 (.lst [.ref t1])) l2 (.lst (xa ++ [.ref t1]))) l3 (.lst (xa ++ [.ref t1] ++ xz))) tt (.tup (xa ++ [.ref t1] ++ xz))) tt = some (.tup (xa ++ [.ref t1] ++ xz)) := upd_same
        generalize upd (upd (upd (upd (upd H1 t1 _) l1 _) l2 _) l3 _) tt _ = G at *
        have s1G := s1.trans sG
        have eLG := s1G _ _ eL
        obtain ⟨fvs, hfv, efv⟩ := hf.same s1G
        have fvl : fvs.length ≤ 12 := by rw [efv.1]; omega
        walk_at "go"
        intro f1 nf1
        walk_at "go"
        intro l5 nl5
        refine r_cat (h_keep (h_keep hfv nf1) nl5) upd_same (by simp; omega) fun l6 nl6 => ?_
        have sF : Same G (upd (upd (upd G f1 (.tup [.int x.n, .int p.head])) l5 (.lst [.ref f1])) l6 (.lst (fvs ++ [.ref f1]))) := Same.new (Same.new (Same.new0 nf1) nl5) nl6
        have hf1 : (upd (upd (upd G f1 (.tup [.int x.n, .int p.head])) l5 (.lst [.ref f1])) l6 (.lst (fvs ++ [.ref f1]))) f1 = some (.tup [.int x.n, .int p.head]) := h_keep (h_keep upd_same nl5) nl6
        have hl6 : (upd (upd (upd G f1 (.tup [.int x.n, .int p.head])) l5 (.lst [.ref f1])) l6 (.lst (fvs ++ [.ref f1]))) l6 = some (.lst (fvs ++ [.ref f1])) := upd_same
        generalize upd (upd (upd G f1 _) l5 _) l6 _ = G2 at *
        have fac2 : FacAt G2 l6 (c.fac ++ [(x.n, p.head)]) := ⟨_, hl6, Each.app (efv.imp fun v f _ ⟨t, e1, e2⟩ => ⟨t, e1, sF _ _ e2⟩) (EachC ⟨f1, rfl, hf1⟩ .nil)⟩
        have s1G2 := s1G.trans sF
        have eLG2 := sF _ _ eLG
        have hn : x.n.natAbs < 2 ^ 100000 := by
          have h0 := wo.n0
          have h1 := wo.n1
          exact Nat.lt_of_lt_of_le (show x.n.natAbs < 2 ^ 128 by omega) (Nat.pow_le_pow_right (by decide) (by decide))
        walk_at "go"
        refine r_rI (mulW_of hn hb) ?_
        walk_at "go"
        refine ⟨lz, xz, kZ, rfl, s1G2 _ _ hz, eZ.imp fun v f _ ⟨t, e1, e2⟩ => ⟨t, e1, s1G2 _ _ e2⟩, by omega, fun H5 s5 => ?_⟩
        have eL5 := s5 _ _ eLG2
        walk_at "go"
        intro fo nfo
        have s6 := Same.new0 (o := .lst [.ref tt, .int (kA.sum + x.n * p.head + kZ.sum), .int (kA.sum + c.shift), .ref l6, .ref D]) nfo
        have sAll := (sG.trans sF).trans (s5.trans s6)
        have s1A := s1.trans sAll
        obtain ⟨zs, hqz, hqp⟩ := hq.tk (Tk.same s1A)
        have hn0 := wo.n0
        have hn1 := wo.n1
        have hBC : BC = 10000000000000000000000000000000 := by decide
        have hp' : PrIs (upd H5 fo (.lst [.ref tt, .int (kA.sum + x.n * p.head + kZ.sum), .int (kA.sum + c.shift), .ref l6, .ref D])) tt (x.a.app (.rep x.n p x.z)) := ⟨xa ++ ([.ref t1] ++ xz), by rw [← List.append_assoc]; exact s6 _ _ (s5 _ _ (sF _ _ gtt)), (hpa.tk (Tk.same s1A)).app ⟨t1, q, zs, xz, rfl, s6 _ _ (s5 _ _ (sF _ _ gt1)), hqz, hqp, hpz.tk (Tk.same s1A)⟩⟩
        have ehd : (x.a.app (.rep x.n p x.z)).head = kA.sum + x.n * p.head + kZ.sum := by
          rw [Prog.head_app, Prog.head, sA, sZ]
          omega
        have s5A := s5.trans s6
        walk_at "go"
        refine ⟨x.a.app (.rep x.n p x.z), ⟨(x.a.app (.rep x.n p x.z)).head, c.shift + x.a.head, c.fac ++ [(x.n, c.aim)], c.core⟩, tt, fo, l6, D, us, _, rfl, sAll, free_same ((sG.trans sF).trans s5) nfo, hp', ?_, ?_, ?_, ?_, ?_, hD.same s1A, fun hs => Prog.chain_rep hs (by rw [sp_wrapR tA tZ, hm.ch]), rfl, ?_⟩
        · exact WfL.app (WfL.mono (Int.le_refl _) (Int.le_refl _) (Nat.zero_le _) (turns_wf wo.ta)) ⟨⟨by omega, by omega⟩, ⟨plo, plh⟩, hw, WfL.mono (Int.le_refl _) (Int.le_refl _) (Nat.zero_le _) (turns_wf wo.tz)⟩
        · rw [Prog.len_app, Prog.len]; omega
        · have := wo.la; have := wo.lz; rw [Prog.len_app, Prog.len]; omega
        · rw [upd_same, ehd]
          show _ = some (HO.lst [_, _, V.int (c.shift + x.a.head), _, _])
          rw [sA, Int.add_comm c.shift]
        · show FacAt _ l6 (c.fac ++ [(x.n, c.aim)])
          rw [hm.aim]
          exact fac2.same s5A
        · show (c.fac ++ [(x.n, c.aim)]).length ≤ d + 1
          rw [List.length_append]
          simp
          omega
    rintro σ' H2 ⟨p', c', t, fo, lf', D', us', y6, rfl, s2, nfo, hp', w', pl0, pl1, efo, hf', hD', hch, haim, hfl⟩
    try dsimp only
    walk_at "go"
    refine ⟨t, p', rfl, hp', WfL.mono (Int.le_refl _) (Int.le_refl _) (by omega) w', by omega, fun H3 s3 => ?_⟩
    cases hsh : p'.short with
    | true =>
      walk_at "go"
      refine ⟨t, p', rfl, hp'.tk (Tk.same s3), WfL.mono (Int.le_refl _) (Int.le_refl _) (by omega) w', by omega, hsh, fun l' c2 H4 nl' s4 hm4 => ?_⟩
      walk_at "go"
      have c2f : c2.fac = [] := by
        have := hm4.ch
        rw [Prog.chain_short hsh] at this
        rw [← Option.some.inj this]
      exact k l' p' c2 H4 (free_same (s1.trans (s2.trans s3)) nl') ((s1.trans (s2.trans s3)).trans s4) hm4 w' pl0 pl1 (by rw [c2f]; exact Nat.zero_le _)
    | false =>
      walk_at "go"
      exact k fo p' c' H3 (free_same s1 nfo) (s1.trans (s2.trans s3)) ⟨⟨t, lf', D', us', s3 _ _ efo, hp'.tk (Tk.same s3), hf'.same s3, hD'.same s3⟩, hch hsh, haim⟩ w' pl0 pl1 hfl
end

set_option Elab.async false
set_option linter.all false
set_option maxRecDepth 100000
set_option maxHeartbeats 8000000
set_option pp.deepTerms false
set_option pp.deepTerms.threshold 12
set_option pp.maxSteps 1200

open PySem PySem.Spec PyProof.Rows L2
def spWrapped : Sp := fun vs H Q _ => ∃ (l lw b : Addr) (p : Prog) (c : Ch) (xs : List V) (ws : List Wrap) (d : Nat), vs = [.ref l, .ref lw] ∧ MadeAt H l p c ∧ Wf BC BC d p ∧ d + ws.length ≤ 12 ∧ 1 ≤ p.len ∧ p.len ≤ 4000 ∧ c.fac.length ≤ d ∧ H lw = some (.lst xs) ∧ Each (WrapV H b) xs ws ∧
  ∀ l' p' c' H', Same H H' → MadeAt H' l' p' c' → Wf BC BC (d + ws.length) p' → 1 ≤ p'.len → p'.len ≤ 4000 → c'.fac.length ≤ d + ws.length → Q (.ref l') H'
section
variable {P : Program} {w : World} {K : PySem.W.Frag} {mg : Str → Option Value} {base : Heap} {C : Addr}

local macro_rules | `(tactic| walk_at "s") => `(tactic| (first
  | (with_reducible refine r_dnew ?_)
  | (with_reducible refine r_dget2 ?_)
  | (with_reducible refine r_dget ?_)
  | (with_reducible refine r_dput ?_)
  | (with_reducible refine r_dsetd ?_)
  | ((with_reducible refine JarAt.isD (n := ?nn) (c := ?cc) ?hh ?_); (case hh => assumption))
  ))

theorem ok_l_wrapped {f : Addr} {fd : FuncData} (F : Fun K "_law_wrapped" "_law_wrapped" s_l_wrapped f fd) (h_l_round : Has P w K mg base "_law_round" 16 ["_law_made", "_law_ahead", "_law_often_here", "_law_behind"] spRoundW) : FnOk P w K mg base CX0 17 f fd ["_law_made", "_law_wraps_here"] spWrapped := by
  refine F.ok sc_l_wrapped (fun vs H Q E h => ?_) (fun cdv A outer s H vs Q E hr h => ?_)
  · obtain ⟨l, lw, b, p, c, xs, ws, d, rfl, _⟩ := h
    rfl
  · obtain ⟨l, lw, b, p, c, xs, ws, d, rfl, hm, hw, dw, p0, p1, fl, hlw, hx, k⟩ := h
    refine ⟨_, (pss_cons (ps_for PassesOwn.never rfl (pi_list (pv 1)) (pg_tup (by rfl) (pgs_cons (pg_name (i := 2) sc_l_wrapped.nd rfl (.inl rfl)) (pgs_cons (pg_name (i := 3) sc_l_wrapped.nd rfl (.inl rfl)) (pgs_cons (pg_name (i := 4) sc_l_wrapped.nd rfl (.inl rfl)) pgs_nil))))
    (pss_one (ps_set (i := 0) sc_l_wrapped.nd rfl (.inl rfl) (pe_callH h_l_round (hr.mono (by first | decide | omega)) (pa_cons (pv 0) (pa_cons (pv 2) (pa_cons (pv 3) (pa_cons (pv 4) pa_nil))))))))
    (pss_one (ps_ret (pv 0)))), ?_⟩
    walk_at "go"
    refine u_forL (SqL.of hlw) (fun i σ H' => ∃ (l' : Addr) (p' : Prog) (c' : Ch) (y2 y3 y4 : Option V), σ = [some (.ref l'), some (.ref lw), y2, y3, y4] ∧ Same H H' ∧ MadeAt H' l' p' c' ∧ Wf BC BC (d + i) p' ∧ 1 ≤ p'.len ∧ p'.len ≤ 4000 ∧ c'.fac.length ≤ d + i) ?_ ?_ ?_ ?_
    · exact ⟨l, p, c, _, _, _, rfl, Same.refl _, hm, hw, p0, p1, fl⟩
    · rintro i σ H' _ ⟨l', p', c', y2, y3, y4, rfl, sm, _⟩
      exact SqL.of (sm _ _ hlw)
    · rintro i x σ H' hxi ⟨l', p', c', y2, y3, y4, rfl, sm, hm', hw', p0', p1', fl'⟩
      have hi : i < ws.length := by
        rw [← hx.1]
        refine Decidable.byContradiction fun z => ?_
        rw [List.getElem?_eq_none (by omega)] at hxi
        cases hxi
      obtain ⟨t, la, lz, xa, xz, rfl, n1, n2, e1, e2, e3, e4, e5, e6⟩ := (hx.2 i x _ hxi (List.getElem?_eq_getElem hi)).same sm
      walk_at "go"
      refine ⟨l', la, lz, p', c', ws[i], xa, xz, d + i, rfl, hm', hw', by omega, p0', p1', fl', e6, e2, e3, e4, e5, fun l2 p2 c2 H2 nl2 s2 hm2 hw2 q0 q1 fl2 => ?_⟩
      walk_at "go"
      exact ⟨l2, p2, c2, _, _, _, rfl, sm.trans s2, hm2, hw2, q0, by omega, fl2⟩
    · rintro σ H' ⟨l', p', c', y2, y3, y4, rfl, sm, hm', hw', p0', p1', fl'⟩
      rw [hx.1] at hw' fl'
      walk_at "go"
      exact k l' p' c' H' sm hm' hw' p0' p1' fl'
end

set_option Elab.async false
set_option linter.all false
set_option maxRecDepth 100000
set_option maxHeartbeats 8000000
set_option pp.deepTerms false
set_option pp.deepTerms.threshold 12
set_option pp.maxSteps 1200

open PySem PySem.Spec PyProof.Rows L2
theorem each_of {R : V → Wrap → Prop} : ∀ {xs : List V}, (∀ v ∈ xs, ∃ x, R v x) → ∃ ws, Each R xs ws
  | [], _ => ⟨[], .nil⟩
  | v :: xs, h => by
    obtain ⟨x, hx⟩ := h v (List.mem_cons_self ..)
    obtain ⟨ws, hw⟩ := each_of (xs := xs) fun v hv => h v (List.mem_cons_of_mem _ hv)
    exact ⟨x :: ws, EachC hx hw⟩
theorem Each.some8 {R : V → Wrap → Prop} {xs : List V} {ws : List Wrap} (h : Each R xs ws) : ∀ v ∈ xs, ∃ x, x ∈ ws ∧ R v x := fun v hv => by
  obtain ⟨i, hi⟩ := List.mem_iff_getElem?.mp hv
  have hl : i < ws.length := by
    rw [← h.1]
    refine Decidable.byContradiction fun z => ?_
    rw [List.getElem?_eq_none (by omega)] at hi
    cases hi
  exact ⟨ws[i], List.getElem_mem hl, h.2 i v _ hi (List.getElem?_eq_getElem hl)⟩
theorem WrapL.same {H H' : Hp} {b l : Addr} {v : V} {x : Wrap} (h : WrapL H b l v x) (s : Same H H') : WrapL H' b l v x :=
  let ⟨t, la, lz, xa, xz, m1, m2, e, n1, n2, e1, e2, e3, e4, e5, e6⟩ := h
  ⟨t, la, lz, xa, xz, m1, m2, e, n1, n2, s _ _ e1, s _ _ e2, e3.tk (Tk.same s), s _ _ e4, e5.tk (Tk.same s), e6⟩
section
variable {P : Program} {w : World} {K : PySem.W.Frag} {mg : Str → Option Value} {base : Heap} {C : Addr}

local macro_rules | `(tactic| walk_at "s") => `(tactic| (first
  | (with_reducible refine r_dnew ?_)
  | (with_reducible refine r_dget2 ?_)
  | (with_reducible refine r_dget ?_)
  | (with_reducible refine r_dput ?_)
  | (with_reducible refine r_dsetd ?_)
  | ((with_reducible refine JarAt.isD (n := ?nn) (c := ?cc) ?hh ?_); (case hh => assumption))
  ))

end

set_option Elab.async false
set_option linter.all false
set_option maxRecDepth 100000
set_option maxHeartbeats 8000000
set_option pp.deepTerms false
set_option pp.deepTerms.threshold 12
set_option pp.maxSteps 1200

open PySem PySem.Spec PyProof.Rows L2
section
variable {P : Program} {w : World} {K : PySem.W.Frag} {mg : Str → Option Value} {base : Heap} {C : Addr}

local macro_rules | `(tactic| walk_at "s") => `(tactic| (first
  | (with_reducible refine r_dnew ?_)
  | (with_reducible refine r_dget2 ?_)
  | (with_reducible refine r_dget ?_)
  | (with_reducible refine r_dput ?_)
  | (with_reducible refine r_dsetd ?_)
  | ((with_reducible refine JarAt.isD (n := ?nn) (c := ?cc) ?hh ?_); (case hh => assumption))
  ))

theorem ok_l_small {f : Addr} {fd : FuncData} (F : Fun K "_law_small" "_law_small" s_l_small f fd) (B : Bl mg) (bTuple : mg "tuple" = none) (bRange : mg "range" = none) (h_l_take : Has P w K mg base "_law_take" 1 ["_law_pot_here", "_law_many"] spTake) (h_l_bits : Has P w K mg base "_law_bits" 3 ["_law_pot_here", "_law_signs", "_law_most", "_law_bound"] spBits) (h_l_ring_of : Has P w K mg base "_law_ring_of" 3 ["_law_pot_here", "_law_signs", "_law_most", "_law_bound"] spRingOf) : FnOk P w K mg base CX0 4 f fd ["_law_pot_here"] spSmallT := by
  refine F.ok sc_l_small (fun vs H Q E h => ?_) (fun cdv A outer s H vs Q E hr h => ?_)
  · obtain ⟨a, rfl, _⟩ := h
    rfl
  · obtain ⟨a, rfl, ba, k⟩ := h
    refine ⟨_, (pss_cons (ps_setLc (i := 1) (own := [("_law_k", 6)]) rfl sc_l_small.nd rfl rfl (sw_true rfl rfl rfl (by decide +kernel)) (pi_range1 (by rfl) bRange (pa_cons (pe_ix (ix_listK (K := K)) (pe_lst (pa_cons pe_int (pa_cons pe_int (pa_cons pe_int (pa_cons pe_int pa_nil))))) (pe_callH h_l_take (hr.mono (by first | decide | omega)) (pa_cons (pv 0) (pa_cons pe_int pa_nil))) (fun _ _ => rfl)) pa_nil)) (blkOk_by (N := ["_law_pot_here", "_law_signs", "_law_way", "_law_turn", "_law_found", "_law_sign_here", "_law_k"]) (sc := defScope s_l_small) (by decide +kernel)) (fun _ _ _ _ _ => (pg_name (i := 6) sc_l_small.nd rfl (.inl rfl))) (fun _ _ _ _ _ => pts_nil) (fun _ _ _ _ _ => (pe_ix ix_str pe_str (pe_callH h_l_take (hr.mono (by first | decide | omega)) (pa_cons (pv 0) (pa_cons pe_int pa_nil))) (fun _ _ => rfl))))
    (pss_cons (ps_set (i := 2) sc_l_small.nd rfl (.inl rfl) (pe_callH h_l_take (hr.mono (by first | decide | omega)) (pa_cons (pv 0) (pa_cons pe_int pa_nil))))
    (pss_cons (ps_if (pt_cmpR op_eq (pv 2) pe_int (nomark _))
    (pss_one (ps_ret (pe_tup (pa_cons (pe_tup (pa_cons pe_str (pa_cons (pe_op op_sub (pe_callH h_l_take (hr.mono (by first | decide | omega)) (pa_cons (pv 0) (pa_cons pe_int pa_nil))) pe_int) pa_nil))) pa_nil))))
    pss_nil)
    (pss_cons (ps_if (pt_cmpR op_eq (pv 2) pe_int (nomark _))
    (pss_cons (ps_set (i := 3) sc_l_small.nd rfl (.inl rfl) (pe_op op_add pe_int (pe_callH h_l_take (hr.mono (by first | decide | omega)) (pa_cons (pv 0) (pa_cons pe_int pa_nil)))))
    (pss_cons (ps_set (i := 4) sc_l_small.nd rfl (.inl rfl) (pe_lst pa_nil))
    (pss_cons (ps_for PassesOwn.never rfl (pi_list (pe_slice sl_list (pv 1) (po_some pe_int) po_none)) (pg_name (i := 5) sc_l_small.nd rfl (.inl rfl))
    (pss_one (ps_expr (pe_bm PySem.F.plainAttrs_list PySem.F.slot_list_extend PySem.F.type_list_extend mt_extend (pv 4) (pa_cons (pe_lst (pa_cons (pe_tup (pa_cons pe_str (pa_cons (pv 5) pa_nil))) (pa_cons (pe_tup (pa_cons pe_str (pa_cons (pv 3) pa_nil))) (pa_cons (pe_tup (pa_cons pe_str (pa_cons (pv 5) pa_nil))) (pa_cons (pe_tup (pa_cons pe_str (pa_cons (pe_un un_neg (pv 3)) pa_nil))) pa_nil))))) pa_nil)))))
    (pss_one (ps_ret (pe_callTy call_tupL (by rfl) bTuple (by decide +kernel) (pa_cons (pe_op op_cat (pv 4) (pe_slice sl_list (pe_lst (pa_cons (pe_tup (pa_cons pe_str (pa_cons (pe_ix (ix_listK (K := K)) (pv 1) pe_int (fun _ _ => rfl)) pa_nil))) pa_nil)) po_none (po_some (pe_callH h_l_take (hr.mono (by first | decide | omega)) (pa_cons (pv 0) (pa_cons pe_int pa_nil)))))) pa_nil)))))))
    pss_nil)
    (pss_cons (ps_if (pt_cmpR op_lt (pv 2) pe_int (nomark _))
    (pss_one (ps_ret (pe_callTy call_tupL (by rfl) bTuple (by decide +kernel) (pa_cons (pe_callH h_l_bits (hr.mono (by first | decide | omega)) (pa_cons (pv 0) (pa_cons (pv 1) (pa_cons pe_int (pa_cons pe_int pa_nil))))) pa_nil))))
    pss_nil)
    (pss_cons (ps_if (pt_cmpR op_lt (pv 2) pe_int (nomark _))
    (pss_one (ps_ret (pe_tup (pa_cons (pe_callH h_l_ring_of (hr.mono (by first | decide | omega)) (pa_cons (pv 0) (pa_cons (pv 1) (pa_cons pe_int (pa_cons pe_int pa_nil))))) pa_nil))))
    pss_nil)
    (pss_one (ps_ret (pe_op op_catA (pe_tup (pa_cons (pe_tup (pa_cons pe_str (pa_cons (pe_callTy call_tupL (by rfl) bTuple (by decide +kernel) (pa_cons (pe_callH h_l_bits (hr.mono (by first | decide | omega)) (pa_cons (pv 0) (pa_cons (pv 1) (pa_cons pe_int (pa_cons pe_int pa_nil))))) pa_nil)) pa_nil))) pa_nil)) (pe_callTy call_tupL (by rfl) bTuple (by decide +kernel) (pa_cons (pe_callH h_l_bits (hr.mono (by first | decide | omega)) (pa_cons (pv 0) (pa_cons (pv 1) (pa_cons pe_int (pa_cons pe_int pa_nil))))) pa_nil))))))))))), ?_⟩
    walk_at "go"
    intro e ne
    have ea : e ≠ a := ba.ne ne
    have he : (upd H e (.lst [.int 2, .int 2, .int 2, .int 6])) e = some (.lst [.int 2, .int 2, .int 2, .int 6]) := upd_same
    have b1 := ba.keep ne (o := .lst [.int 2, .int 2, .int 2, .int 6])
    have bu1 := (But.refl a H).new ne (o := .lst [.int 2, .int 2, .int 2, .int 6])
    generalize upd H e _ = H1 at *
    walk_at "go"
    refine u_take b1 (by decide) (by decide) fun r H2 r0 r1 bu2 b2 => ?_
    have he2 := bu2 _ _ ea he
    obtain ⟨nn, hn, n0, n1⟩ : ∃ nn : Int, atI [V.int 2, .int 2, .int 2, .int 6] r = some (.int nn) ∧ 2 ≤ nn ∧ nn ≤ 6 := by
      rcases (by omega : r = 0 ∨ r = 1 ∨ r = 2 ∨ r = 3) with rfl | rfl | rfl | rfl <;> exact ⟨_, rfl, by decide, by decide⟩
    refine r_ixL (.of he2) hn ?_
    have bu := bu1.trans bu2
    clear bu1 bu2 b1 he he2 hn
    walk_at "go"
    refine u_lc1 ⟨by omega, by omega⟩ (fun D i acc H' => ∃ ss : List Str, acc = ss.map V.str ∧ ss.length = i ∧ (∀ x ∈ ss, IsName x) ∧ But a H2 H' ∧ Bag H' a) ?_ ?_ ?_
    · exact fun D nD => ⟨[], rfl, rfl, by simp, (But.refl a H2).new nD, b2.keep nD⟩
    · rintro D i acc H' nD hi hacc ⟨ss, rfl, sl, sn, bu3, b3⟩
      have Da : D ≠ a := b2.ne nD
      walk_at "go"
      refine ⟨rfl, ?_⟩
      walk_at "go"
      refine u_take b3 (by decide) (by decide) fun r2 H4 r20 r21 bu4 b4 => ?_
      obtain ⟨c, hc1, hc2, hc3⟩ := letter_at r20 r21
      refine r_ixS (by decide +kernel) hc1 ?_
      have hac4 := bu4 _ _ Da hacc
      refine u_push hac4 (by rw [List.length_map]; omega) ⟨ss ++ [⟨#[c]⟩], by rw [List.map_append]; rfl, by rw [List.length_append, sl]; rfl, fun x hx => ?_, (bu3.trans bu4).put nD, b4.upd Da.symm⟩
      rcases List.mem_append.mp hx with hx | hx
      · exact sn x hx
      · rw [List.mem_singleton.mp hx]
        exact ⟨c, rfl, hc2, hc3⟩
    · rintro D acc H3 nD hacc ⟨ss, rfl, sl, sn, bu3, b3⟩
      have Da : D ≠ a := b2.ne nD
      have sg : SgAt H3 D ss := ⟨hacc, by omega, by omega, sn⟩
      replace bu := bu.trans bu3
      clear bu3 b2 nD
      walk_at "go"
      refine u_take b3 (by decide) (by decide) fun way H4 w0 w1 bu4 b4 => ?_
      replace bu := bu.trans bu4
      replace sg := sg.but Da bu4
      clear bu4 b3 hacc
      clear H3 H2 ea
      walk_at "go"
      refine r_iteD (fun z0 => ?_) (fun z0 => ?_)
      · walk_at "go"
        refine u_take b4 (by decide) (by decide) fun r2 H5 r20 r21 bu5 b5 => ?_
        walk_at "go"
        intro t nt
        walk_at "go"
        intro t2 nt2
        have sN := Same.new (Same.new0 nt (o := .tup [.str "turn", .int (r2 - 12)])) nt2 (o := .tup [.ref t])
        exact k t2 (.turn (r2 - 12) .nil) _ ((bu.trans bu5).trans (Same.but sN a)) (b5.same sN) ⟨[.ref t], upd_same, t, [], rfl, h_keep upd_same nt2, rfl⟩ (Sml.flat (WfL.turn_iff.mpr ⟨by omega, WfL.nil⟩) (by show 1 ≤ 1; decide) (by show 1 ≤ 100; decide) ⟨by omega, trivial⟩)
      walk_at "go"
      refine r_iteD (fun z1 => ?_) (fun z1 => ?_)
      · walk_at "go"
        refine u_take b4 (by decide) (by decide) fun r2 H5 r20 r21 bu5 b5 => ?_
        replace bu := bu.trans bu5
        replace sg := sg.but Da bu5
        walk_at "go"
        intro l nl
        have la : l ≠ a := b5.ne nl
        have Dl : D ≠ l := ne_of_none sg.1 nl
        have hl : (upd H5 l (.lst [])) l = some (.lst []) := upd_same
        have b6 := b5.keep nl (o := .lst [])
        have sg6 : SgAt (upd H5 l (.lst [])) D ss := ⟨h_keep sg.1 nl, sg.2⟩
        have bu6 := bu.new nl (o := .lst [])
        have nlH : H l = none := But.free bu la nl
        generalize upd H5 l _ = H6 at *
        clear sg b5 bu bu5 b4 nl
        walk_at "go"
        refine r_slL (.of sg6.1) fun c nc => ?_
        have la2 : c ≠ a := b6.ne nc
        have lc : c ≠ l := (ne_of_none hl nc).symm
        have Dc : D ≠ c := ne_of_none sg6.1 nc
        have hc : (upd H6 c (.lst (cutV (ss.map V.str) (some 1) none))) c = some (.lst (cutV (ss.map V.str) (some 1) none)) := upd_same
        have hl7 := h_keep (o := .lst (cutV (ss.map V.str) (some 1) none)) hl nc
        have sg7 : SgAt (upd H6 c (.lst (cutV (ss.map V.str) (some 1) none))) D ss := ⟨h_keep sg6.1 nc, sg6.2⟩
        have b7 := b6.keep nc (o := .lst (cutV (ss.map V.str) (some 1) none))
        have bu7 := bu6.new nc (o := .lst (cutV (ss.map V.str) (some 1) none))
        have cl : (cutV (ss.map V.str) (some 1) none).length ≤ 6 := by
          have := cut_len (xs := ss.map V.str) (some 1) none
          rw [List.length_map] at this
          omega
        have c1 : 1 ≤ (cutV (ss.map V.str) (some 1) none).length := by
          rw [cut_dropI (by decide), List.length_drop, List.length_map]
          omega
        have cm : ∀ (i : Nat) x, (cutV (ss.map V.str) (some 1) none)[i]? = some x → ∃ z, x = .str z ∧ IsName z := fun i x hx => by
          obtain ⟨z, hz, rfl⟩ := List.mem_map.mp (cut_mem (List.mem_of_getElem? hx))
          exact ⟨z, rfl, sn z hz⟩
        generalize upd H6 c _ = H7 at *
        generalize cutV (ss.map V.str) (some 1) none = cs at *
        clear b6 sg6 bu6 hl nc
        clear H6 H5
        refine u_forL (.of hc) (fun i σ H' => ∃ (xs : List V) (p : Prog) (y : Option V), σ = [some (.ref a), some (.ref D), some (.int way), some (.int (1 + r2)), some (.ref l), y, none] ∧ But l H7 H' ∧ H' l = some (.lst xs) ∧ PrAt H' p xs ∧ Prs p ∧ p.len = 4 * i) ?_ ?_ ?_ ?_
        · exact ⟨[], .nil, _, rfl, But.refl _ _, hl7, rfl, Prs.nil, rfl⟩
        · rintro i σ H' _ ⟨xs, p, y, rfl, b, _⟩
          exact SqL.of (b _ _ lc hc)
        · rintro i x σ H' hx ⟨xs, p, y, rfl, b, hl', hp, pp, pl⟩
          obtain ⟨z, rfl, nz⟩ := cm i x hx
          have hi : i < cs.length := by
            refine Decidable.byContradiction fun z => ?_
            rw [List.getElem?_eq_none (by omega)] at hx
            cases hx
          have xl : xs.length = p.len := hp.length
          walk_at "go"
          intro t1 n1
          walk_at "go"
          intro t2 n2
          walk_at "go"
          intro t3 n3
          walk_at "go"
          intro t4 n4
          walk_at "go"
          intro e ne
          have sN := Same.new (Same.new (Same.new (Same.new (Same.new0 n1 (o := .tup [.str "go", .str z])) n2 (o := .tup [.str "turn", .int (1 + r2)])) n3 (o := .tup [.str "go", .str z])) n4 (o := .tup [.str "turn", .int (-(1 + r2))])) ne (o := .lst [.ref t1, .ref t2, .ref t3, .ref t4])
          have hq : PrAt (upd (upd (upd (upd (upd H' t1 (.tup [.str "go", .str z])) t2 (.tup [.str "turn", .int (1 + r2)])) t3 (.tup [.str "go", .str z])) t4 (.tup [.str "turn", .int (-(1 + r2))])) e (.lst [.ref t1, .ref t2, .ref t3, .ref t4])) (.step "go" z (.turn (1 + r2) (.step "go" z (.turn (-(1 + r2)) .nil)))) [.ref t1, .ref t2, .ref t3, .ref t4] :=
            ⟨t1, _, rfl, h_keep (h_keep (h_keep (h_keep upd_same n2) n3) n4) ne, t2, _, rfl, h_keep (h_keep (h_keep upd_same n3) n4) ne, t3, _, rfl, h_keep (h_keep upd_same n4) ne, t4, [], rfl, h_keep upd_same ne, rfl⟩
          have he : (upd (upd (upd (upd (upd H' t1 (.tup [.str "go", .str z])) t2 (.tup [.str "turn", .int (1 + r2)])) t3 (.tup [.str "go", .str z])) t4 (.tup [.str "turn", .int (-(1 + r2))])) e (.lst [.ref t1, .ref t2, .ref t3, .ref t4])) e = some (.lst [.ref t1, .ref t2, .ref t3, .ref t4]) := upd_same
          have hl9 := sN _ _ hl'
          have hp9 := hp.tk (Tk.same sN)
          have b9 := b.trans (Same.but sN l)
          generalize upd (upd (upd (upd (upd H' t1 _) t2 _) t3 _) t4 _) e _ = H9 at *
          walk_at "go"
          refine r_extend hl9 he (by simp; omega) ?_
          walk_at "go"
          refine ⟨_, _, _, rfl, But.self b9, upd_same, (hp9.app hq).tk ((Tk.refl _).lst hl9), pp.more nz (by omega) (by omega), ?_⟩
          rw [Prog.len_app, pl]
          rfl
        · rintro σ H' ⟨xs, p, y, rfl, b, hl', hp, pp, pl⟩
          have b8 : Bag H' a := by
            obtain ⟨x1, x2, x3, g, r⟩ := b7
            exact ⟨x1, x2, x3, b _ _ la.symm g, r⟩
          have sg8 : SgAt H' D ss := ⟨b _ _ Dl sg7.1, sg7.2⟩
          have xl : xs.length = p.len := hp.length
          have bu8 : But a H H' := fun q o nq e => b _ _ (ne_of_none e nlH) (bu7 q o nq e)
          walk_at "go"
          obtain ⟨z, hz, nz⟩ := atI_strs (ss := ss) (n := 0) (by decide) (by omega)
          refine r_ixL (.of sg8.1) hz ?_
          replace nz := sn z nz
          walk_at "go"
          intro t nt
          walk_at "go"
          intro e2 ne2
          have sN := Same.new (Same.new0 nt (o := .tup [.str "go", .str z])) ne2 (o := .lst [.ref t])
          have ht : (upd (upd H' t (.tup [.str "go", .str z])) e2 (.lst [.ref t])) t = some (.tup [.str "go", .str z]) := h_keep upd_same ne2
          have he2 : (upd (upd H' t (.tup [.str "go", .str z])) e2 (.lst [.ref t])) e2 = some (.lst [.ref t]) := upd_same
          have e2a : e2 ≠ a := (b8.keep nt).ne ne2
          have hl9 := sN _ _ hl'
          have hp9 := hp.tk (Tk.same sN)
          have b9 := b8.same sN
          have bu9 := bu8.trans (Same.but sN a)
          generalize upd (upd H' t _) e2 _ = H9 at *
          walk_at "go"
          refine u_take b9 (by decide) (by decide) fun r3 G r30 r31 bu10 b10 => ?_
          have hl10 := bu10 _ _ la hl9
          have hp10 := hp9.tk (Tk.but bu10 b9)
          have he10 := bu10 _ _ e2a he2
          have ht10 := Tk.but bu10 b9 _ _ ht
          have bu11 := bu9.trans bu10
          walk_at "go"
          rcases (by omega : r3 = 0 ∨ r3 = 1) with rfl | rfl
          · intro c2 nc2
            rw [show cutV [V.ref t] none (some 0) = [] from rfl]
            refine r_cat (h_keep hl10 nc2) upd_same (by simp; omega) fun c3 nc3 => ?_
            walk_at "go"
            intro q nq
            walk_at "go"
            have sM := Same.new (Same.new (Same.new0 nc2 (o := .lst [])) nc3 (o := .lst (xs ++ []))) nq (o := .tup (xs ++ []))
            refine k q (p.app .nil) _ (bu11.trans (Same.but sM a)) (b10.same sM) ⟨_, upd_same, (hp10.app (q := .nil) rfl).tk (Tk.same sM)⟩ (Sml.flat (by rw [Prog.app_nil]; exact pp.wf) (by rw [Prog.app_nil]; omega) (by rw [Prog.app_nil]; omega) (by rw [Prog.app_nil]; exact pp.way))
          · intro c2 nc2
            rw [show cutV [V.ref t] none (some 1) = [.ref t] from rfl]
            refine r_cat (h_keep hl10 nc2) upd_same (by simp; omega) fun c3 nc3 => ?_
            walk_at "go"
            intro q nq
            walk_at "go"
            have sM := Same.new (Same.new (Same.new0 nc2 (o := .lst [.ref t])) nc3 (o := .lst (xs ++ [.ref t]))) nq (o := .tup (xs ++ [.ref t]))
            refine k q (p.app (.step "go" z .nil)) _ (bu11.trans (Same.but sM a)) (b10.same sM) ⟨_, upd_same, (hp10.app (q := .step "go" z .nil) ⟨t, [], rfl, ht10, rfl⟩).tk (Tk.same sM)⟩ (Sml.flat (pp.step nz).wf (by rw [Prog.len_app]; omega) (by rw [Prog.len_app]; show p.len + 1 ≤ 100; omega) (pp.step nz).way)
      walk_at "go"
      refine r_iteD (fun z2 => ?_) (fun z2 => ?_)
      · walk_at "go"
        refine ⟨a, D, ss, 6, 12, rfl, b4, Da, sg, by decide, by decide, by decide, by decide, fun l xs p H5 bu5 b5 nl hl hp wp ip p0 p1 => ?_⟩
        walk_at "go"
        intro q nq
        walk_at "go"
        have sN := Same.new0 nq (o := .tup xs)
        exact k q p _ ((bu.trans bu5).trans (Same.but sN a)) (b5.same sN) ⟨xs, upd_same, hp.tk (Tk.same sN)⟩ (Sml.flat wp p0 (by omega) ip)
      walk_at "go"
      refine r_iteD (fun z3 => ?_) (fun z3 => ?_)
      · walk_at "go"
        refine ⟨a, D, ss, 6, 12, rfl, b4, Da, sg, by decide, by decide, by decide, by decide, fun t wd n kk u H5 bu5 b5 hp iw inm k0 k1 u0 u1 u2 => ?_⟩
        walk_at "go"
        intro q nq
        have sN := Same.new0 nq (o := .tup [.ref t])
        exact k q _ _ ((bu.trans bu5).trans (Same.but sN a)) (b5.same sN) ⟨_, upd_same, hp.tk (Tk.same sN)⟩ (Sml.ring iw inm k0 k1 u2 u0 u1)
      · walk_at "go"
        refine ⟨a, D, ss, 3, 4, rfl, b4, Da, sg, by decide, by decide, by decide, by decide, fun l xs p H5 bu5 b5 nl hl hp wp ip p0 p1 => ?_⟩
        replace bu := bu.trans bu5
        replace sg := sg.but Da bu5
        walk_at "go"
        intro q nq
        walk_at "go"
        intro t nt
        walk_at "go"
        intro t2 nt2
        have sN := Same.new (Same.new (Same.new0 nq (o := .tup xs)) nt (o := .tup [.str "mirror", .ref q])) nt2 (o := .tup [.ref t])
        have hq : (upd (upd (upd H5 q (.tup xs)) t (.tup [.str "mirror", .ref q])) t2 (.tup [.ref t])) q = some (.tup xs) := h_keep (h_keep upd_same nt) nt2
        have ht : (upd (upd (upd H5 q (.tup xs)) t (.tup [.str "mirror", .ref q])) t2 (.tup [.ref t])) t = some (.tup [.str "mirror", .ref q]) := h_keep upd_same nt2
        have ht2 : (upd (upd (upd H5 q (.tup xs)) t (.tup [.str "mirror", .ref q])) t2 (.tup [.ref t])) t2 = some (.tup [.ref t]) := upd_same
        have hp6 := hp.tk (Tk.same sN)
        have b6 := b5.same sN
        have sg6 := sg.but Da (Same.but sN a)
        have bu6 := bu.trans (Same.but sN a)
        generalize upd (upd (upd H5 q _) t _) t2 _ = H6 at *
        walk_at "go"
        refine ⟨a, D, ss, 2, 4, rfl, b6, Da, sg6, by decide, by decide, by decide, by decide, fun l3 xs3 p3 H7 bu7 b7 nl3 hl3 hp3 wp3 ip3 q0 q1 => ?_⟩
        have tk7 := Tk.but bu7 b6
        walk_at "go"
        intro q3 nq3
        have xl3 : xs3.length = p3.len := hp3.length
        refine r_catAT (xs := [.ref t]) (ys := xs3) (h_keep (tk7 _ _ ht2) nq3) upd_same (by simp; omega) fun q4 G sG hq4 => ?_
        walk_at "go"
        have sM := (Same.new0 nq3 (o := .tup xs3)).trans sG
        exact k q4 (.mir p p3) _ ((bu6.trans bu7).trans (Same.but sM a)) (b7.same sM) ⟨_, hq4, t, q, xs, xs3, rfl, sM _ _ (tk7 _ _ ht), sM _ _ (tk7 _ _ hq), hp6.tk (tk7.trans (Tk.same sM)), hp3.tk (Tk.same sM)⟩ (Sml.mirr wp wp3 p0 (by omega) (by omega) ip ip3)
end

set_option Elab.async false
set_option linter.all false
set_option maxRecDepth 100000
set_option maxHeartbeats 8000000
set_option pp.deepTerms false
set_option pp.deepTerms.threshold 12
set_option pp.maxSteps 1200
open PySem PySem.Spec PyProof.Rows L2
theorem Bag.noLst {H : Hp} {b l : Addr} {xs : List V} (h : Bag H b) (e : H l = some (.lst xs)) (n : ¬ ∃ x y z : Int, xs = [.int x, .int y, .int z]) : l ≠ b := by
  rintro rfl
  obtain ⟨x, y, z, g, _⟩ := h
  rw [e] at g
  cases g
  exact n ⟨_, _, _, rfl⟩
theorem Bag.noDct {H : Hp} {b l : Addr} {o : List (Key × V)} (h : Bag H b) (e : H l = some (.dK o)) : l ≠ b := by
  rintro rfl
  obtain ⟨x, y, z, g, _⟩ := h
  rw [e] at g
  cases g
theorem FacAt.bag {H H' : Hp} {b l : Addr} {fac : List (Int × Int)} (h : FacAt H l fac) (s : But b H H') (g : Bag H b) : FacAt H' l fac := by
  obtain ⟨vs, e, k⟩ := h
  have nl : l ≠ b := g.noLst e (by
    rintro ⟨x, y, z, rfl⟩
    have hl := k.1
    cases fac with
    | nil => cases hl
    | cons f fs =>
      obtain ⟨t, e0, _⟩ := k.2 0 _ f rfl rfl
      cases e0)
  exact ⟨vs, s _ _ nl e, k.imp fun v f _ ⟨t, e1, e2⟩ => ⟨t, e1, Tk.but s g _ _ e2⟩⟩
theorem JarAt.bag8 {H H' : Hp} {b a : Addr} {n : Nat} {c : Int → Int} (h : JarAt H a n c) (s : But b H H') (g : Bag H b) : JarAt H' a n c := by
  obtain ⟨kvs, e, r⟩ := h
  exact ⟨kvs, s _ _ (g.noDct e) e, r⟩
theorem RwD.bag {H H' : Hp} {b D : Addr} {N : Nat} {c : Str → Int → Int} {ws : List (Str × Addr)} (h : RwD H D N c ws) (s : But b H H') (g : Bag H b) : RwD H' D N c ws :=
  ⟨s _ _ (g.noDct h.at_) h.at_, h.nd, h.name, fun e he => (h.jars e he).bag8 s g, h.none_⟩
theorem RwX.bag {H H' : Hp} {b D : Addr} {N : Nat} {c : Str → Int → Int} {ws : List (Str × Addr)} (h : RwX H D N c ws) (s : But b H H') (g : Bag H b) : RwX H' D N c ws :=
  ⟨h.r.bag s g, fun e he => by
    obtain ⟨kvs, e1, _⟩ := (h.x e he).1
    exact ⟨(h.x e he).1.but (g.noDct e1) s, (h.x e he).2⟩⟩
theorem MadeAt.bag {H H' : Hp} {b l : Addr} {p : Prog} {c : Ch} (h : MadeAt H l p c) (s : But b H H') (g : Bag H b) : MadeAt H' l p c :=
  ⟨let ⟨q, lf, D, us, e1, e2, e3, e4⟩ := h.ex; ⟨q, lf, D, us, s _ _ (g.noLst e1 (by rintro ⟨x, y, z, e⟩; cases e)) e1, e2.tk (Tk.but s g), e3.bag s g, e4.bag s g⟩, h.ch, h.aim⟩
/-- a short program at hand -/
structure Shp (p : Prog) : Prop where
  wf : Wf BC BC 1 p
  l0 : 1 ≤ p.len
  l1 : p.len ≤ 101
  sh : p.short = true
  h0 : -12 ≤ p.head
  h1 : p.head ≤ 12
theorem Sml.shp {p : Prog} (h : Sml p) : Shp p := ⟨h.wf, h.l0, by have := h.l1; omega, h.short, h.head.1, h.head.2⟩
theorem Shp.seed {H : Hp} {l : Addr} {p : Prog} {c : Ch} (h : Shp p) (m : MadeAt H l p c) : c.fac.length ≤ 1 := by
  have := m.ch
  rw [Prog.chain_short h.sh] at this
  rw [← Option.some.inj this]
  exact Nat.zero_le _
/-- a chain at hand -/
structure Mk (H : Hp) (l : Addr) (p : Prog) (c : Ch) : Prop where
  m : MadeAt H l p c
  wf : Wf BC BC 12 p
  l0 : 1 ≤ p.len
  l1 : p.len ≤ 4000

set_option Elab.async false
set_option linter.all false
set_option maxRecDepth 100000
set_option maxHeartbeats 8000000
set_option pp.deepTerms false
set_option pp.deepTerms.threshold 12
set_option pp.maxSteps 1200

open PySem PySem.Spec PyProof.Rows L2
def spChained : Sp := fun vs H Q _ => ∃ (a : Addr) (m z : Int), vs = [.ref a, .int m, .int z] ∧ Bag H a ∧ 0 ≤ m ∧ m ≤ 10 ∧ ∀ l p c H', But a H H' → Bag H' a → Mk H' l p c → Q (.ref l) H'
def spPlaceRows (C : Addr) : Sp := fun vs H Q _ => ∃ (l : Addr) (core : Str → Int → Int), vs = [.ref l] ∧ CoreAt C H l core ∧ ∀ D us H', H D = none → Same H H' → RwX H' D 200 core us → Q (.ref D) H'
def spToldCh (C : Addr) : Sp := fun vs H Q _ => ∃ (t : Addr) (c : Ch), vs = [.ref t] ∧ ChIs C H t c ∧ ∀ u l D us H', H l = none → H D = none → Same H H' → H' u = some (.tup [.int c.aim, .int c.shift, .ref l, .ref D]) → FacAt H' l c.fac → RwX H' D 200 c.core us → Q (.ref u) H'
theorem pr_cmd {H : Hp} : ∀ {p : Prog} {xs : List V}, PrAt H p xs → ∀ x ∈ xs, ∃ t s rest, x = .ref t ∧ H t = some (.tup (.str s :: rest))
  | .nil, xs, h, x, hx => by
    obtain rfl : xs = [] := h
    cases hx
  | .step w n r, xs, h, x, hx => by
    obtain ⟨c, ys, rfl, h1, h2⟩ := h
    rcases List.mem_cons.mp hx with rfl | hx
    · exact ⟨c, w, _, rfl, h1⟩
    · exact pr_cmd h2 x hx
  | .turn k r, xs, h, x, hx => by
    obtain ⟨c, ys, rfl, h1, h2⟩ := h
    rcases List.mem_cons.mp hx with rfl | hx
    · exact ⟨c, _, _, rfl, h1⟩
    · exact pr_cmd h2 x hx
  | .rep k b r, xs, h, x, hx => by
    obtain ⟨c, q, zs, ys, rfl, h1, _, _, h4⟩ := h
    rcases List.mem_cons.mp hx with rfl | hx
    · exact ⟨c, _, _, rfl, h1⟩
    · exact pr_cmd h4 x hx
  | .mir b r, xs, h, x, hx => by
    obtain ⟨c, q, zs, ys, rfl, h1, _, _, h4⟩ := h
    rcases List.mem_cons.mp hx with rfl | hx
    · exact ⟨c, _, _, rfl, h1⟩
    · exact pr_cmd h4 x hx
section
variable {P : Program} {w : World} {K : PySem.W.Frag} {mg : Str → Option Value} {base : Heap} {C : Addr}

local macro_rules | `(tactic| walk_at "s") => `(tactic| (first
  | (with_reducible refine r_dnew ?_)
  | (with_reducible refine r_dget2 ?_)
  | (with_reducible refine r_dget ?_)
  | (with_reducible refine r_dput ?_)
  | (with_reducible refine r_dsetd ?_)
  | ((with_reducible refine JarAt.isD (n := ?nn) (c := ?cc) ?hh ?_); (case hh => assumption))
  ))

local macro_rules | `(tactic| walk_at "s") => `(tactic| (first
  | (with_reducible refine r_prop ?_)
  | (with_reducible refine r_isNR ?_)
  | (with_reducible refine r_isNN ?_)
  ))
theorem ok_l_whole_number {f : Addr} {fd : FuncData} (F : Fun K "_law_whole_number" "_law_whole_number" s_l_whole_number f fd) (bIsi : mg "isinstance" = none) (B : Bl mg) : FnOk P w K mg base CX0 1 f fd ["_law_value"] spWholeI := by
  refine F.ok sc_l_whole_number (fun vs H Q E h => ?_) (fun cdv A outer s H vs Q E hr h => ?_)
  · obtain ⟨n, rfl, _⟩ := h
    rfl
  · obtain ⟨n, rfl, k⟩ := h
    refine ⟨_, (pss_one (ps_ret (pe_and (pe_callB (call_isiKK (K := K)) (by rfl) bIsi (by decide +kernel) (pa_cons (pv 0) (pa_cons (pe_bltn (v := .ty "int") (by rfl) B.b_int (by decide +kernel) rfl) pa_nil))) (pe_one (pe_not (pe_callB (call_isiKK (K := K)) (by rfl) bIsi (by decide +kernel) (pa_cons (pv 0) (pa_cons (pe_bltn (v := .ty "bool") (by rfl) B.b_bool (by decide +kernel) rfl) pa_nil)))))))), ?_⟩
    walk_at "go"
    exact k
theorem ok_l_chained {f : Addr} {fd : FuncData} (F : Fun K "_law_chained" "_law_chained" s_l_chained f fd) (B : Bl mg) (h_l_small : Has P w K mg base "_law_small" 4 ["_law_pot_here"] spSmallT) (h_l_wraps : Has P w K mg base "_law_wraps" 3 ["_law_pot_here", "_law_most", "_law_kind"] spWraps) (h_l_seed : Has P w K mg base "_law_seed" 15 ["_law_track"] spSeed) (h_l_wrapped : Has P w K mg base "_law_wrapped" 17 ["_law_made", "_law_wraps_here"] spWrapped) : FnOk P w K mg base CX0 18 f fd ["_law_pot_here", "_law_most", "_law_kind"] spChained := by
  refine F.ok sc_l_chained (fun vs H Q E h => ?_) (fun cdv A outer s H vs Q E hr h => ?_)
  · obtain ⟨a, m, z, rfl, _⟩ := h
    rfl
  · obtain ⟨a, m, z, rfl, ba, m0, m1, k⟩ := h
    refine ⟨_, (pss_cons (ps_set (i := 3) sc_l_chained.nd rfl (.inl rfl) (pe_callH h_l_small (hr.mono (by first | decide | omega)) (pa_cons (pv 0) pa_nil)))
    (pss_cons (ps_set (i := 4) sc_l_chained.nd rfl (.inl rfl) (pe_callH h_l_wraps (hr.mono (by first | decide | omega)) (pa_cons (pv 0) (pa_cons (pv 1) (pa_cons (pv 2) pa_nil)))))
    (pss_cutM (ps_if (pt_cmpR (op_neDK (K := K) hr.units) (pe_lc (own := [("_law_command", 5)]) rfl sc_l_chained.nd (pi_tup (pv 3)) (blkOk_by (N := ["_law_pot_here", "_law_most", "_law_kind", "_law_track", "_law_wraps_here", "_law_command"]) (sc := defScope s_l_chained) (by decide +kernel)) (fun _ _ _ _ _ => (pg_name (i := 5) sc_l_chained.nd rfl (.inl rfl))) (fun _ _ _ _ _ => pts_one (pt_cmpR (op_in_seqK (K := K)) (pe_ix (ix_tupK (K := K)) (pv 5) pe_int (fun _ _ => rfl)) (pe_lst (pa_cons pe_str (pa_cons pe_str pa_nil))) (by rfl))) (fun _ _ _ _ _ => pe_int)) (pe_lst pa_nil) (nomark _))
    (pss_one (ps_set (i := 4) sc_l_chained.nd rfl (.inl rfl) (pe_slice sl_list (pv 4) po_none (po_some pe_int))))
    pss_nil)
    (pss_one (ps_ret (pe_callH h_l_wrapped (hr.mono (by first | decide | omega)) (pa_cons (pe_callH h_l_seed (hr.mono (by first | decide | omega)) (pa_cons (pv 3) pa_nil)) (pa_cons (pv 4) pa_nil)))))))), ?_⟩
    walk_at "go"
    refine ⟨a, rfl, ba, fun q p H1 bu1 b1 hp sp => ?_⟩
    walk_at "go"
    refine ⟨a, m, z, rfl, b1, m0, by omega, fun lw xs ws H2 bu2 b2 nlw hlw hws wl _ => ?_⟩
    have lwa := b1.ne nlw
    replace hp := hp.tk (Tk.but bu2 b1)
    have bu := bu1.trans bu2
    clear bu1 bu2 b1 nlw
    walk_at "go"
    refine r_cut (fun σ' H' => ∃ (lw : Addr) (xs : List V) (ws : List Wrap), σ' = [some (.ref a), some (.int m), some (.int z), some (.ref q), some (.ref lw), none] ∧ Same H2 H' ∧ H' lw = some (.lst xs) ∧ Each (WrapV H' a) xs ws ∧ ws.length ≤ 10) ?_ ?_
    · obtain ⟨ps, hps, hpr⟩ := hp
      have pl : ps.length ≤ 100 := by rw [hpr.length]; exact sp.l1
      walk_at "go"
      refine u_lcT (SqT.of hps) (fun D i acc H' => (∃ bs : List Int, acc = bs.map V.int) ∧ acc.length ≤ i ∧ Same H2 H') ?_ ?_ ?_ ?_
      · exact fun D hD => ⟨⟨[], rfl⟩, Nat.le_refl _, Same.new0 hD⟩
      · rintro D i acc H' hD hacc ⟨_, _, sm⟩
        exact SqT.of (sm _ _ hps)
      · rintro D i x acc H' hD hx hacc ⟨⟨bs, rfl⟩, al, sm⟩
        have hi : i < ps.length := by
          refine Decidable.byContradiction fun z => ?_
          rw [List.getElem?_eq_none (by omega)] at hx
          cases hx
        obtain ⟨t, wd, rest, rfl, ht⟩ := pr_cmd hpr x (List.mem_of_getElem? hx)
        have ht' := sm _ _ ht
        walk_at "go"
        refine ⟨rfl, ?_⟩
        walk_at "go"
        refine r_ixT (SqT.of ht') (atI_nil_of (i := 0) rfl rfl) ?_
        walk_at "go"
        intro e ne
        have sE := Same.new0 (o := .lst [.str "repeat", .str "mirror"]) ne
        have hac2 := sE _ _ hacc
        refine r_inS8 (zs := ["repeat", "mirror"]) upd_same ?_
        cases inV (.str wd) ((["repeat", "mirror"] : List Str).map V.str) with
        | true =>
          walk_at "go"
          refine u_push hac2 (by omega) ⟨⟨bs ++ [1], by rw [List.map_append]; rfl⟩, by rw [List.length_append]; show _ + 1 ≤ _; omega, Same.put (sm.trans sE) hD⟩
        | false =>
          walk_at "go"
          exact u_skip hac2 ⟨⟨bs, rfl⟩, by omega, sm.trans sE⟩
      · rintro D acc H' hD hacc ⟨⟨bs, rfl⟩, _, sm⟩
        walk_at "go"
        intro e ne
        have sE := Same.new0 (o := .lst []) ne
        refine r_neIs (cs := []) (sE _ _ hacc) upd_same ?_
        have sT := sm.trans sE
        have hlw2 := sT _ _ hlw
        generalize upd H' e _ = H4 at *
        have hws2 := hws.imp fun v x _ h => h.v.same sT
        by_cases z : bs = []
        · rw [decide_eq_true z]
          walk_at "go"
          exact ⟨lw, xs, ws, rfl, sT, hlw2, hws2, by omega⟩
        · rw [decide_eq_false z]
          walk_at "go"
          intro c nc
          walk_at "go"
          have sC := Same.new0 (o := .lst (cutV xs none (some 5))) nc
          have cl := cut_len (xs := xs) none (some 5)
          have xw : xs.length = ws.length := hws.1
          obtain ⟨us, hu⟩ := each_of (R := WrapV (upd H4 c (.lst (cutV xs none (some 5)))) a) (xs := cutV xs none (some 5)) fun v hv => by
            obtain ⟨x, _, h⟩ := hws2.some8 v (cut_mem hv)
            exact ⟨x, h.same sC⟩
          exact ⟨c, _, us, rfl, sT.trans sC, upd_same, hu, by rw [← hu.1]; omega⟩
    rintro σ' H3 ⟨lu, ys, us, rfl, s3, hlu, hus, ul⟩
    have shp := sp.shp
    have l1 := shp.l1
    walk_at "go"
    refine ⟨q, p, rfl, hp.tk (Tk.same s3), WfL.mono (Int.le_refl _) (Int.le_refl _) (by decide) sp.wf, by omega, sp.short, fun l1' c H4 nl s4 hm => ?_⟩
    walk_at "go"
    refine ⟨l1', lu, a, p, c, ys, us, 1, rfl, hm, sp.wf, by omega, sp.l0, by omega, shp.seed hm, s4 _ _ hlu, hus.imp fun v x _ h => h.same s4, fun l' p' c' H5 s5 hm' w' q0 q1 _ => ?_⟩
    have sA := s3.trans (s4.trans s5)
    exact k l' p' c' H5 (bu.trans (Same.but sA a)) (b2.same sA) ⟨hm', WfL.mono (Int.le_refl _) (Int.le_refl _) (by omega) w', q0, q1⟩
theorem ok_l_place_rows {f : Addr} {fd : FuncData} (F : Fun K "_law_place_rows" "_law_place_rows" s_l_place_rows f fd) (bIsi : mg "isinstance" = none) (bLen : mg "len" = none) (B : Bl mg) (G_Poly : PolyT K mg C) (hp_Poly_terms : HasP P w K mg base C "terms" 1 ["self"] (spGetTerms C)) : FnOk P w K mg base CX0 3 f fd ["_law_found"] (spPlaceRows C) := by
  refine F.ok sc_l_place_rows (fun vs H Q E h => ?_) (fun cdv A outer s H vs Q E hr h => ?_)
  · obtain ⟨l, core, rfl, _⟩ := h
    rfl
  · obtain ⟨l, core, rfl, ⟨pl, ⟨vs, hl, hv⟩, ip, pn, pe⟩, k⟩ := h
    refine ⟨_, (pss_cons (ps_if (pt_not (pt_val (pe_callB (call_isiKK (K := K)) (by rfl) bIsi (by decide +kernel) (pa_cons (pv 0) (pa_cons (pe_bltn (v := .ty "list") (by rfl) B.b_list (by decide +kernel) rfl) pa_nil)))))
    (pss_one (ps_ret pe_non))
    pss_nil)
    (pss_cons (ps_set (i := 1) sc_l_place_rows.nd rfl (.inl rfl) pe_dnewK)
    (pss_cons (ps_set (i := 2) sc_l_place_rows.nd rfl (.inl rfl) pe_str)
    (pss_cons (ps_for PassesOwn.never rfl (pi_list (pv 0)) (pg_name (i := 3) sc_l_place_rows.nd rfl (.inl rfl))
    (pss_cons (ps_if (PW.pt (pw_or (pt_not (pt_val (pe_callB (call_isiKK (K := K)) (by rfl) bIsi (by decide +kernel) (pa_cons (pv 3) (pa_cons (pe_bltn (v := .ty "tuple") (by rfl) B.b_tuple (by decide +kernel) rfl) pa_nil))))) (pw_or (pt_cmpR op_ne (pe_callB (call_lenK (K := K)) (by rfl) bLen PySem.boot_len (pa_cons (pv 3) pa_nil)) pe_int (nomark _)) (pw_or1 (pt_not (pt_val (pe_callB (call_isiKK (K := K)) (by rfl) bIsi (by decide +kernel) (pa_cons (pe_ix (ix_tupK (K := K)) (pv 3) pe_int (fun _ _ => rfl)) (pa_cons (pe_bltn (v := .ty "str") (by rfl) B.b_str (by decide +kernel) rfl) pa_nil)))))))))
    (pss_one (ps_ret pe_non))
    pss_nil)
    (pss_cons (ps_if (PW.pt (pw_or (pt_not (pt_val (pe_callB (call_isiKK (K := K)) (by rfl) bIsi (by decide +kernel) (pa_cons (pe_ix (ix_tupK (K := K)) (pv 3) pe_int (fun _ _ => rfl)) (pa_cons (pe_glob (v := .ref C) rfl G_Poly.mgC rfl) pa_nil))))) (pw_or (pt_cmpR op_leS (pe_ix (ix_tupK (K := K)) (pv 3) pe_int (fun _ _ => rfl)) (pv 2) (nomark _)) (pw_or1 (pt_cmpR (op_eqDK (K := K) hr.units) (pe_propH G_Poly.cl hp_Poly_terms (hr.mono (by first | decide | omega)) (pe_ix (ix_tupK (K := K)) (pv 3) pe_int (fun _ _ => rfl))) (pe_lst pa_nil) (nomark _))))))
    (pss_one (ps_ret pe_non))
    pss_nil)
    (pss_cons (ps_set (i := 4) sc_l_place_rows.nd rfl (.inl rfl) pe_dnewK)
    (pss_cons (ps_for PassesOwn.never rfl (pi_list (pe_propH G_Poly.cl hp_Poly_terms (hr.mono (by first | decide | omega)) (pe_ix (ix_tupK (K := K)) (pv 3) pe_int (fun _ _ => rfl)))) (pg_tup (by rfl) (pgs_cons (pg_name (i := 5) sc_l_place_rows.nd rfl (.inl rfl)) (pgs_cons (pg_name (i := 6) sc_l_place_rows.nd rfl (.inl rfl)) pgs_nil)))
    (pss_one (ps_dput (hu_of hr) (pv 4) (pv 5) (pv 6) rfl)))
    (pss_cons (ps_dput (hu_of hr) (pv 1) (pe_ix (ix_tupK (K := K)) (pv 3) pe_int (fun _ _ => rfl)) (pv 4) rfl)
    (pss_one (ps_set (i := 2) sc_l_place_rows.nd rfl (.inl rfl) (pe_ix (ix_tupK (K := K)) (pv 3) pe_int (fun _ _ => rfl))))))))))
    (pss_one (ps_ret (pv 1))))))), ?_⟩
    walk_at "go"
    intro m nm
    have lm : l ≠ m := ne_of_none hl nm
    have vl := hv.1
    have fnd0 : Fnd (upd H m (.dK [])) m 200 core [] := ⟨upd_same, by simp, by simp, by simp⟩
    have s0 := Same.new0 (o := .dK []) nm
    generalize upd H m (.dK []) = H1 at *
    walk_at "go"
    refine u_forL (.of (s0 _ _ hl)) (fun i σ H' => ∃ (us : List (Str × Addr)) (last : Str) (y4 y5 y6 y7 : Option V), σ = [some (.ref l), some (.ref m), some (.str last), y4, y5, y6, y7] ∧ Same H H' ∧ Fnd H' m 200 core us ∧ (∀ e ∈ pl.take i, e.1 ∈ us.map (·.1)) ∧ (last = "" ∨ IsName last ∧ ∀ e ∈ pl.drop i, ncode last < ncode e.1)) ?_ ?_ ?_ ?_
    · exact ⟨[], "", _, _, _, _, rfl, s0, fnd0, by simp, .inl rfl⟩
    · rintro i σ H' _ ⟨us, last, y4, y5, y6, y7, rfl, sm, _⟩
      exact .of (sm _ _ hl)
    · rintro i x σ H' hx ⟨us, last, y4, y5, y6, y7, rfl, sm, fnd, un, hlast⟩
      obtain ⟨e, hpe, b, r, rfl, hb, hp⟩ := hv.at hx
      have hb' := sm _ _ hb
      have hp' := hp.same sm
      obtain ⟨dx, rr, rs, g1, g2⟩ := id hp'
      have em := List.mem_of_getElem? hpe
      obtain ⟨c1, c2, c3⟩ := ip.canon e em
      have ne := ip.names e em
      walk_at "go"
      refine r_isPoly G_Poly g1 ?_
      walk_at "go"
      have hlt : (!decide ((last.cps.toList) < (e.1.cps.toList))) = false := by
        obtain ⟨c, e1, _⟩ := ne
        rcases hlast with rfl | ⟨⟨a, rfl, _⟩, hle⟩
        · rw [e1, show ("" : Str).cps.toList = [] by decide]
          simp
        · have := hle e (List.mem_of_getElem? (i := 0) (by rw [List.getElem?_drop]; exact hpe))
          rw [e1] at this ⊢
          have h2 : a < c := this
          simp [List.cons_lt_cons_iff, h2]
      rw [hlt]
      walk_at "go"
      refine ⟨r, dx, _, rfl, g1, r, e.2, rfl, hp', fun l3 H3 nl3 s3 ht3 => ?_⟩
      walk_at "go"
      intro e0 ne0
      have sE := Same.new0 (o := .lst []) ne0
      refine r_eqT (ts := e.2) (us := []) (ht3.same sE) ⟨[], upd_same, rfl⟩ ?_
      rw [decide_eq_false c2]
      have s34 := s3.trans sE
      have g14 := s34 _ _ g1
      have hp4 := hp'.same s34
      have hb4 := s34 _ _ hb'
      have fnd4 := fnd.same s34
      have sm4 := sm.trans s34
      generalize upd H3 e0 _ = H4 at *
      clear ht3 s3 sE nl3
      walk_at "go"
      intro row nrow
      have sR := Same.new0 (o := .dK []) nrow
      have jr0 : JarS (upd H4 row (.dK [])) row 0 (fun k => core e.1 k ≠ 0) (fun _ => 0) := JarS.new
      have g15 := sR _ _ g14
      have hp5 := hp4.same sR
      have hb5 := sR _ _ hb4
      have fnd5 := fnd4.same sR
      have rm : row ≠ m := (ne_of_none fnd4.at_ nrow).symm
      have nrowH : H row = none := free_same sm4 nrow
      have sm5 := sm4.trans sR
      have nrH' : H' row = none := free_same s34 nrow
      have s35 := s34.trans sR
      generalize upd H4 row _ = H5 at *
      walk_at "go"
      refine ⟨r, dx, _, rfl, g15, r, e.2, rfl, hp5, fun l4 H6 nl4 s6 ⟨ts, hl6, hts⟩ => ?_⟩
      have tl : ts.length = e.2.length := hts.length
      have ple := pe e em
      have jr6 := jr0.same s6
      have lr : l4 ≠ row := by
        obtain ⟨kvs, e9, _⟩ := jr0
        exact (ne_of_none e9 nl4).symm
      walk_at "go"
      refine u_forL (.of hl6) (fun j σ H'' => ∃ (y6 y7 : Option V), σ = [some (.ref l), some (.ref m), some (.str last), some (.ref b), some (.ref row), y6, y7] ∧ But row H6 H'' ∧ JarS H'' row j (fun k => core e.1 k ≠ 0) (fun k => cof (e.2.take j) k)) ?_ ?_ ?_ ?_
      · exact ⟨_, _, rfl, But.refl _ _, jr6⟩
      · rintro j σ H'' _ ⟨y6, y7, rfl, bb, _⟩
        exact .of (bb _ _ lr hl6)
      · rintro j x σ H'' hx ⟨y6, y7, rfl, bb, jr⟩
        have hj : j < ts.length := (List.getElem?_eq_some_iff.mp hx).1
        obtain ⟨c, q, rfl, hq, hc⟩ := hts.at j hx
        have hc' : H'' c = some (.tup [.int q.1, .int q.2]) := by
          refine bb _ _ ?_ hc
          rintro rfl
          obtain ⟨kvs, e9, _⟩ := jr6
          rw [hc] at e9
          cases e9
        have qm := List.mem_of_getElem? hq
        have hqn : core e.1 q.1 ≠ 0 := by rw [← c3, c1.at qm]; exact c1.nz q qm
        have et : e.2.take (j + 1) = e.2.take j ++ [q] := by rw [List.take_succ, hq]; rfl
        walk_at "go"
        obtain ⟨H9, p1, b1, f1, jj⟩ := jr.dput (k := q.1) (v := q.2) hqn (by omega)
        refine ⟨row, H9, rfl, p1, _, _, rfl, bb.trans b1, jj.ext fun k => ?_⟩
        rw [et, cof_app]
        show _ = cof (e.2.take j) k + ((if q.1 = k then q.2 else 0) + 0)
        rw [Int.add_zero]
        unfold addAt
        by_cases z : k = q.1
        · rw [if_pos z, z, if_pos rfl]
          have nd := c1.asc_nodup
          have : cof (e.2.take j) q.1 = 0 := cof_none fun p hp y => by
            have hd : e.2 = e.2.take j ++ e.2.drop j := (List.take_append_drop j e.2).symm
            rw [hd, List.map_append] at nd
            have qd : q ∈ e.2.drop j := List.mem_of_getElem? (i := 0) (by rw [List.getElem?_drop]; exact hq)
            exact (List.nodup_append.mp nd).2.2 p.1 (List.mem_map.mpr ⟨p, hp, rfl⟩) q.1 (List.mem_map.mpr ⟨q, qd, rfl⟩) y
          rw [this, Int.zero_add]
        · rw [if_neg z, if_neg (fun y => z y.symm), Int.add_zero]
      · rintro σ H7 ⟨y6, y7, rfl, bb, jr⟩
        rw [tl, List.take_length] at jr
        have s7 : Same H' H7 := fun p o e => bb _ _ (ne_of_none e nrH') (s6 _ _ (s35 _ _ e))
        have fnd7 := fnd.same s7
        have hb7 := s7 _ _ hb'
        have jx : JarX H7 row 200 (core e.1) := by
          refine ⟨(jr.ext c3).mono (by omega), ?_⟩
          cases ee : e.2 with
          | nil => exact absurd ee c2
          | cons q qs =>
            refine ⟨q.1, ?_⟩
            have qm : q ∈ e.2 := by rw [ee]; exact List.mem_cons_self ..
            rw [← c3, c1.at qm]
            exact c1.nz q qm
        walk_at "go"
        obtain ⟨vs', dp, f', hin, hsub⟩ := fnd7.put (n := e.1) (d := row) (by have := fnd7.few; omega) ne jx rm
        refine ⟨m, _, rfl, dp, ?_⟩
        have bm : b ≠ m := ne_of hb7 fnd7.at_ (by intro z; cases z)
        have hb8 : (upd H7 m (.dK (namD vs'))) b = some (.tup [.str e.1, .ref r]) := (upd_ne bm).trans hb7
        walk_at "go"
        refine ⟨vs', e.1, _, _, _, _, rfl, Same.put (sm.trans s7) nm, f', fun e' he' => ?_, .inr ⟨ne, fun e' he' => ?_⟩⟩
        · rw [List.take_succ, hpe] at he'
          rcases List.mem_append.mp he' with he' | he'
          · exact hsub _ (List.mem_map.mp (un e' he') |> fun ⟨x, hx, ex⟩ => List.mem_map.mpr ⟨x, hx, ex⟩)
          · rw [List.mem_singleton.mp he']
            exact hin
        · have hd : pl.drop i = e :: pl.drop (i + 1) := by
            obtain ⟨hlt, ee⟩ := List.getElem?_eq_some_iff.mp hpe
            rw [List.drop_eq_getElem_cons hlt, ee]
          have := ip.asc.sublist (List.drop_sublist i pl)
          rw [hd] at this
          exact (List.pairwise_cons.mp this).1 e' he'
    · rintro σ H' ⟨us, last, y4, y5, y6, y7, rfl, sm, fnd, un, _⟩
      walk_at "go"
      rw [vl, List.take_length] at un
      refine k m us H' nm sm ⟨⟨fnd.at_, fnd.nd, fnd.name, fun e he => (fnd.jars e he).1.1.at, fun n hn z => ip.rest n (fun y => hn (by obtain ⟨e, he, rfl⟩ := List.mem_map.mp y; exact un e he)) z⟩, fun e he => (fnd.jars e he).1⟩
theorem ok_l_told_chain {f : Addr} {fd : FuncData} (F : Fun K "_law_told_chain" "_law_told_chain" s_l_told_chain f fd) (bIsi : mg "isinstance" = none) (bLen : mg "len" = none) (B : Bl mg) (h_l_whole_number : Has P w K mg base "_law_whole_number" 1 ["_law_value"] spWholeI) (h_l_place_rows : Has P w K mg base "_law_place_rows" 3 ["_law_found"] (spPlaceRows C)) : FnOk P w K mg base CX0 4 f fd ["_law_found"] (spToldCh C) := by
  refine F.ok sc_l_told_chain (fun vs H Q E h => ?_) (fun cdv A outer s H vs Q E hr h => ?_)
  · obtain ⟨t, c, rfl, _⟩ := h
    rfl
  · obtain ⟨t, c, rfl, ⟨lf, lc, ht, ⟨fvs, hf, ef⟩, hcore, fl⟩, k⟩ := h
    refine ⟨_, (pss_cons (ps_if (PW.pt (pw_or (pt_not (pt_val (pe_callB (call_isiKK (K := K)) (by rfl) bIsi (by decide +kernel) (pa_cons (pv 0) (pa_cons (pe_bltn (v := .ty "tuple") (by rfl) B.b_tuple (by decide +kernel) rfl) pa_nil))))) (pw_or (pt_cmpR op_ne (pe_callB (call_lenK (K := K)) (by rfl) bLen PySem.boot_len (pa_cons (pv 0) pa_nil)) pe_int (nomark _)) (pw_or1 (pt_not (pt_val (pe_callB (call_isiKK (K := K)) (by rfl) bIsi (by decide +kernel) (pa_cons (pe_ix (ix_tupK (K := K)) (pv 0) pe_int (fun _ _ => rfl)) (pa_cons (pe_bltn (v := .ty "list") (by rfl) B.b_list (by decide +kernel) rfl) pa_nil)))))))))
    (pss_one (ps_ret pe_non))
    pss_nil)
    (pss_cons (ps_if (PW.pt (pw_or (pt_not (pt_val (pe_callH h_l_whole_number (hr.mono (by first | decide | omega)) (pa_cons (pe_ix (ix_tupK (K := K)) (pv 0) pe_int (fun _ _ => rfl)) pa_nil)))) (pw_or1 (pt_not (pt_val (pe_callH h_l_whole_number (hr.mono (by first | decide | omega)) (pa_cons (pe_ix (ix_tupK (K := K)) (pv 0) pe_int (fun _ _ => rfl)) pa_nil)))))))
    (pss_one (ps_ret pe_non))
    pss_nil)
    (pss_cons (ps_for PassesOwn.never rfl (pi_list (pe_ix (ix_tupK (K := K)) (pv 0) pe_int (fun _ _ => rfl))) (pg_name (i := 1) sc_l_told_chain.nd rfl (.inl rfl))
    (pss_cons (ps_if (PW.pt (pw_or (pt_not (pt_val (pe_callB (call_isiKK (K := K)) (by rfl) bIsi (by decide +kernel) (pa_cons (pv 1) (pa_cons (pe_bltn (v := .ty "tuple") (by rfl) B.b_tuple (by decide +kernel) rfl) pa_nil))))) (pw_or1 (pt_cmpR op_ne (pe_callB (call_lenK (K := K)) (by rfl) bLen PySem.boot_len (pa_cons (pv 1) pa_nil)) pe_int (nomark _)))))
    (pss_one (ps_ret pe_non))
    pss_nil)
    (pss_one (ps_if (PW.pt (pw_or (pt_not (pt_val (pe_callH h_l_whole_number (hr.mono (by first | decide | omega)) (pa_cons (pe_ix (ix_tupK (K := K)) (pv 1) pe_int (fun _ _ => rfl)) pa_nil)))) (pw_or1 (pt_not (pt_val (pe_callH h_l_whole_number (hr.mono (by first | decide | omega)) (pa_cons (pe_ix (ix_tupK (K := K)) (pv 1) pe_int (fun _ _ => rfl)) pa_nil)))))))
    (pss_one (ps_ret pe_non))
    pss_nil))))
    (pss_cons (ps_set (i := 2) sc_l_told_chain.nd rfl (.inl rfl) (pe_callH h_l_place_rows (hr.mono (by first | decide | omega)) (pa_cons (pe_ix (ix_tupK (K := K)) (pv 0) pe_int (fun _ _ => rfl)) pa_nil)))
    (pss_cons (ps_if (pt_cmpR op_isNN (pv 2) pe_non (nomark _))
    (pss_one (ps_ret pe_non))
    pss_nil)
    (pss_one (ps_ret (pe_tup (pa_cons (pe_ix (ix_tupK (K := K)) (pv 0) pe_int (fun _ _ => rfl)) (pa_cons (pe_ix (ix_tupK (K := K)) (pv 0) pe_int (fun _ _ => rfl)) (pa_cons (pe_callTy call_listT (by rfl) B.b_list (by decide +kernel) (pa_cons (pe_ix (ix_tupK (K := K)) (pv 0) pe_int (fun _ _ => rfl)) pa_nil)) (pa_cons (pv 2) pa_nil)))))))))))), ?_⟩
    walk_at "go"
    refine ⟨_, rfl, ?_⟩
    walk_at "go"
    refine ⟨_, rfl, ?_⟩
    walk_at "go"
    refine u_forL (.of hf) (fun i σ H' => ∃ (y1 y2 : Option V), σ = [some (.ref t), y1, y2] ∧ H' = H) ?_ ?_ ?_ ?_
    · exact ⟨_, _, rfl, rfl⟩
    · rintro i σ H' _ ⟨y1, y2, rfl, rfl⟩
      exact .of hf
    · rintro i x σ H' hx ⟨y1, y2, rfl, rfl⟩
      have hi : i < c.fac.length := by
        rw [← ef.1]
        exact (List.getElem?_eq_some_iff.mp hx).1
      obtain ⟨b, rfl, hb⟩ := ef.2 i x _ hx (List.getElem?_eq_getElem hi)
      walk_at "go"
      refine ⟨_, rfl, ?_⟩
      walk_at "go"
      refine ⟨_, rfl, ?_⟩
      walk_at "go"
      exact ⟨_, _, rfl, rfl⟩
    · rintro σ H' ⟨y1, y2, rfl, rfl⟩
      walk_at "go"
      refine ⟨lc, c.core, rfl, hcore, fun D us H1 nD s1 hD => ?_⟩
      have ht1 := s1 _ _ ht
      have hf1 := s1 _ _ hf
      walk_at "go"
      intro l nl
      walk_at "go"
      intro u nu
      have sN := Same.new (Same.new0 nl (o := .lst fvs)) nu (o := .tup [.int c.aim, .int c.shift, .ref l, .ref D])
      exact k u l D us _ (free_same s1 nl) nD (s1.trans sN) upd_same ⟨fvs, h_keep upd_same nu, ef.imp fun v f _ ⟨t, e1, e2⟩ => ⟨t, e1, sN _ _ (s1 _ _ e2)⟩⟩ (hD.same sN)
end

set_option Elab.async false
set_option linter.all false
set_option maxRecDepth 100000
set_option maxHeartbeats 8000000
set_option pp.deepTerms false
set_option pp.deepTerms.threshold 12
set_option pp.maxSteps 1200

open PySem PySem.Spec PyProof.Rows L2
def spChainF (C : Addr) : Sp := fun vs H Q _ => ∃ (a : Addr) (p : Prog) (c : Ch), vs = [.ref a] ∧ Good H a p ∧ p.chain = some c ∧ ∀ t H', Same H H' → ChIs C H' t c → FrV H H' (.ref t) → Q (.ref t) H'
theorem eqN_int {H : Hp} (n : Nat) (i : Int) : EqN H n (.int i) (.int i) := by
  cases n with
  | zero => exact ⟨rfl, rfl⟩
  | succ n => exact .inl ⟨rfl, rfl⟩
theorem eqN_fac {H : Hp} : ∀ {vs ws : List V} {fac : List (Int × Int)}, Each (FacV H) vs fac → Each (FacV H) ws fac → Paired (EqN H 1) vs ws
  | [], [], _, _, _ => .nil
  | [], _ :: _, fac, h, g => by
    have h1 := h.1
    have g1 := g.1
    rw [List.length_nil] at h1
    rw [List.length_cons] at g1
    omega
  | _ :: _, [], fac, h, g => by
    have h1 := h.1
    have g1 := g.1
    rw [List.length_cons] at h1
    rw [List.length_nil] at g1
    omega
  | v :: vs, w :: ws, [], h, g => by cases h.1
  | v :: vs, w :: ws, f :: fac, h, g => by
    refine .cons ?_ (eqN_fac (fac := fac) ⟨by have := h.1; simpa using this, fun i a b ha hb => h.2 (i + 1) a b (by simpa using ha) (by simpa using hb)⟩ ⟨by have := g.1; simpa using this, fun i a b ha hb => g.2 (i + 1) a b (by simpa using ha) (by simpa using hb)⟩)
    obtain ⟨t, rfl, e1⟩ := h.2 0 v f rfl rfl
    obtain ⟨u, rfl, e2⟩ := g.2 0 w f rfl rfl
    by_cases z : t = u
    · subst z
      exact .inr (.inl ⟨t, rfl, rfl⟩)
    · exact .inr (.inr ⟨t, u, rfl, rfl, z, .inr (.inl ⟨_, _, e1, e2, .cons (eqN_int 0 _) (.cons (eqN_int 0 _) .nil)⟩)⟩)
theorem jx_keys {kvs : List (Key × V)} {g : Int → Int} (hk : JarK kvs) (hs : ∀ p ∈ kvs, ∃ k : Int, p.1 = Sum.inl k ∧ g k ≠ 0) (hc : ∀ k, cfK kvs k = g k) : (∀ p ∈ kvs, ∃ k : Int, p = (.inl k, .int (g k)) ∧ g k ≠ 0) ∧ ∀ k, g k ≠ 0 → valV kvs (.inl k) = some (.int (g k)) := by
  have h2 : ∀ k, g k ≠ 0 → valV kvs (.inl k) = some (.int (g k)) := fun k hk0 => by
    have e := hc k
    unfold cfK at e
    cases hv : valV kvs (Sum.inl k) with
    | none => rw [hv] at e; exact absurd e.symm hk0
    | some v =>
      obtain ⟨k', n, ep⟩ := hk.prs _ (val_mem hv)
      cases ep
      rw [hv] at e
      rw [show n = g k from e]
  refine ⟨fun p hp => ?_, h2⟩
  obtain ⟨k, n, rfl⟩ := hk.prs p hp
  obtain ⟨k', e, h0⟩ := hs _ hp
  cases e
  have := val_of_mem hk.nd hp
  rw [h2 k h0] at this
  cases this
  exact ⟨k, rfl, h0⟩
theorem jarX_len {kvs kvs' : List (Key × V)} {g : Int → Int} (hk : JarK kvs) (hk' : JarK kvs') (hs : ∀ p ∈ kvs, ∃ k : Int, p.1 = Sum.inl k ∧ g k ≠ 0) (hs' : ∀ p ∈ kvs', ∃ k : Int, p.1 = Sum.inl k ∧ g k ≠ 0) (hc : ∀ k, cfK kvs k = g k) (hc' : ∀ k, cfK kvs' k = g k) : kvs.length ≤ kvs'.length := by
  have h := List.Nodup.length_le_of_subset (l₁ := kvs.map (·.1)) (l₂ := kvs'.map (·.1)) hk.nd fun x hx => by
    obtain ⟨p, hp, rfl⟩ := List.mem_map.mp hx
    obtain ⟨k, rfl, h0⟩ := (jx_keys hk hs hc).1 p hp
    exact List.mem_map.mpr ⟨_, val_mem ((jx_keys hk' hs' hc').2 k h0), rfl⟩
  rwa [List.length_map, List.length_map] at h
theorem eqN_jar {H : Hp} {a b : Addr} {N M : Nat} {g : Int → Int} (h : JarX H a N g) (h' : JarX H b M g) : EqN H 1 (.ref a) (.ref b) := by
  by_cases z : a = b
  · subst z
    exact .inr (.inl ⟨a, rfl, rfl⟩)
  obtain ⟨⟨kvs, e1, k1, _, s1, c1⟩, _⟩ := h
  obtain ⟨⟨kvs', e2, k2, _, s2, c2⟩, _⟩ := h'
  refine .inr (.inr ⟨a, b, rfl, rfl, z, .inr (.inr ⟨kvs, kvs', e1, e2, Nat.le_antisymm (jarX_len k1 k2 s1 s2 c1 c2) (jarX_len k2 k1 s2 s1 c2 c1), fun p hp => ?_⟩)⟩)
  obtain ⟨k, rfl, h0⟩ := (jx_keys k1 s1 c1).1 p hp
  exact ⟨_, (jx_keys k2 s2 c2).2 k h0, eqN_int 0 _⟩
theorem RwX.sub {H : Hp} {D D' : Addr} {N M : Nat} {c : Str → Int → Int} {ws us : List (Str × Addr)} (h : RwX H D N c ws) (h' : RwX H D' M c us) : ∀ n ∈ ws.map (·.1), n ∈ us.map (·.1) := fun n hn => by
  obtain ⟨e, he, rfl⟩ := List.mem_map.mp hn
  obtain ⟨k, hk⟩ := (h.x e he).2
  exact Decidable.byContradiction fun z => hk (h'.r.none_ e.1 z k)
theorem eqN_rows {H : Hp} {D D' : Addr} {N M : Nat} {c : Str → Int → Int} {ws us : List (Str × Addr)} (h : RwX H D N c ws) (h' : RwX H D' M c us) : EqN H 2 (.ref D) (.ref D') := by
  by_cases z : D = D'
  · subst z
    exact .inr (.inl ⟨D, rfl, rfl⟩)
  have l1 := List.Nodup.length_le_of_subset h.r.nd (h.sub h')
  have l2 := List.Nodup.length_le_of_subset h'.r.nd (h'.sub h)
  rw [List.length_map, List.length_map] at l1 l2
  refine .inr (.inr ⟨D, D', rfl, rfl, z, .inr (.inr ⟨_, _, h.r.at_, h'.r.at_, ?_, fun p hp => ?_⟩)⟩)
  · unfold spotKvs
    rw [List.length_map, List.length_map]
    omega
  · obtain ⟨e, he, rfl⟩ := List.mem_map.mp hp
    obtain ⟨e', he', ee⟩ := List.mem_map.mp (h.sub h' e.1 (List.mem_map.mpr ⟨e, he, rfl⟩))
    refine ⟨.ref e'.2, ?_, ?_⟩
    · have := (namD_val us e'.1 h'.r.nd).1 e'.2 he'
      rw [← ee]
      exact this
    · have j := h'.x e' he'
      rw [ee] at j
      exact eqN_jar (h.x e he) j
section
variable {P : Program} {w : World} {K : PySem.W.Frag} {mg : Str → Option Value} {base : Heap} {C : Addr}

local macro_rules | `(tactic| walk_at "s") => `(tactic| (first
  | (with_reducible refine r_dnew ?_)
  | (with_reducible refine r_dget2 ?_)
  | (with_reducible refine r_dget ?_)
  | (with_reducible refine r_dput ?_)
  | (with_reducible refine r_dsetd ?_)
  | ((with_reducible refine JarAt.isD (n := ?nn) (c := ?cc) ?hh ?_); (case hh => assumption))
  ))

local macro_rules | `(tactic| walk_at "s") => `(tactic| (first
  | (with_reducible refine r_make ?_)
  ))
theorem ok_chain {f : Addr} {fd : FuncData} (F : Fun K "chain" "chain" s_chain f fd) (h_check_program : Has P w K mg base "check_program" 28 ["value"] spCheckPr) (h_checked_chain : Has P w K mg base "checked_chain" 29 ["program"] (spChecked C)) : FnOk P w K mg base CX0 30 f fd ["program"] (spChainF C) := by
  refine F.ok sc_chain (fun vs H Q E h => ?_) (fun cdv A outer s H vs Q E hr h => ?_)
  · obtain ⟨a, p, c, rfl, _⟩ := h
    rfl
  · obtain ⟨a, p, c, rfl, hg, hc, k⟩ := h
    refine ⟨_, (pss_cons (ps_expr (pe_callH h_check_program (hr.mono (by first | decide | omega)) (pa_cons (pv 0) pa_nil)))
    (pss_one (ps_ret (pe_callH h_checked_chain (hr.mono (by first | decide | omega)) (pa_cons (pv 0) pa_nil))))), ?_⟩
    walk_at "go"
    refine ⟨a, p, rfl, hg, fun H1 s1 => ?_⟩
    walk_at "go"
    refine ⟨a, p, c, rfl, hg.1.tk (Tk.same s1), hg.2.1, hg.2.2.1, hg.2.2.2, hc, fun t H2 s2 ht fr => ?_⟩
    exact k t H2 (s1.trans s2) ht fun t' a s lf lc e g => let ⟨x, y, z⟩ := fr t' a s lf lc e g; ⟨free_same s1 x, free_same s1 y, z⟩
theorem ok_law {f : Addr} {fd : FuncData} (F : Fun K "law" "law" s_law f fd) (B : Bl mg) (G_Poly : PolyT K mg C) (hc_Poly : HasC P w K mg base "Poly" C 3 ["self", "terms"] (spInit C)) (h_l_pot : Has P w K mg base "_law_pot" 1 ["_law_cell"] spBagOf) (h_l_take : Has P w K mg base "_law_take" 1 ["_law_pot_here", "_law_many"] spTake) (h_l_chained : Has P w K mg base "_law_chained" 18 ["_law_pot_here", "_law_most", "_law_kind"] spChained) (h_chain : Has P w K mg base "chain" 30 ["program"] (spChainF C)) (hk_chain : HasK P w K mg base "chain" 30 ["program"] (spChainF C)) (h_l_told_chain : Has P w K mg base "_law_told_chain" 4 ["_law_found"] (spToldCh C)) : FnOk P w K mg base CX0 31 f fd ["_law_script"] (spLaw K) := by
  refine F.ok sc_law (fun vs H Q E h => ?_) (fun cdv A outer s H vs Q E hr h => ?_)
  · obtain ⟨a, ns, rfl, _⟩ := h
    rfl
  · obtain ⟨a, ns, rfl, hS, hlen, k⟩ := h
    refine ⟨_, (pss_cons (ps_set (i := 1) sc_law.nd rfl (.inl rfl) pe_int)
    (pss_cons (ps_for PassesOwn.never rfl (pi_list (pe_op op_cat (pe_lst (pa_cons (pv 1) pa_nil)) (pe_slice sl_list (pv 0) po_none (po_some pe_int)))) (pg_name (i := 2) sc_law.nd rfl (.inl rfl))
    (pss_cons (ps_set (i := 3) sc_law.nd rfl (.inl rfl) (pe_callH h_l_pot (hr.mono (by first | decide | omega)) (pa_cons (pv 2) pa_nil)))
    (pss_cons (ps_set (i := 4) sc_law.nd rfl (.inl rfl) (pe_callH h_l_chained (hr.mono (by first | decide | omega)) (pa_cons (pv 3) (pa_cons pe_int (pa_cons (pe_callH h_l_take (hr.mono (by first | decide | omega)) (pa_cons (pv 3) (pa_cons pe_int pa_nil))) pa_nil)))))
    (pss_cons (ps_set (i := 5) sc_law.nd rfl (.inl rfl) (pe_tup (pa_cons (pe_ix (ix_listK (K := K)) (pv 4) pe_int (fun _ _ => rfl)) (pa_cons (pe_ix (ix_listK (K := K)) (pv 4) pe_int (fun _ _ => rfl)) (pa_cons (pe_ix (ix_listK (K := K)) (pv 4) pe_int (fun _ _ => rfl)) (pa_cons (pe_ix (ix_listK (K := K)) (pv 4) pe_int (fun _ _ => rfl)) pa_nil))))))
    (pss_cutM (ps_set (i := 6) sc_law.nd rfl (.inl rfl) (pe_callH h_chain (hr.mono (by first | decide | omega)) (pa_cons (pe_ix (ix_listK (K := K)) (pv 4) pe_int (fun _ _ => rfl)) pa_nil)))
    (pss_cutM (ps_if (pt_cmpR (op_neN hr.units) (pe_callH h_l_told_chain (hr.mono (by first | decide | omega)) (pa_cons (pv 6) pa_nil)) (pv 5) (nomark _))
    (pss_one (ps_ret pe_bl))
    pss_nil)
    (pss_cutM (ps_expr (pe_bm PySem.F.plainAttrs_list PySem.F.slot_list_append PySem.F.type_list_append mt_append (pe_ix (ix_tupK (K := K)) (pv 6) pe_int (fun _ _ => rfl)) (pa_cons (pe_tup (pa_cons pe_int (pa_cons pe_int pa_nil))) pa_nil)))
    (pss_cutM (ps_expr (pe_bm PySem.F.plainAttrs_list PySem.F.slot_list_append PySem.F.type_list_append mt_append (pe_ix (ix_tupK (K := K)) (pv 6) pe_int (fun _ _ => rfl)) (pa_cons (pe_tup (pa_cons pe_str (pa_cons (pe_makeH hc_Poly (hr.mono (by first | decide | omega)) (pa_cons (pe_lst (pa_cons (pe_tup (pa_cons pe_int (pa_cons pe_int pa_nil))) pa_nil)) pa_nil)) pa_nil))) pa_nil)))
    (pss_one (ps_if (pt_cmpR (op_neN hr.units) (pe_callH h_l_told_chain (hr.mono (by first | decide | omega)) (pa_cons (pe_callHK hk_chain (hr.mono (by first | decide | omega)) (pk_cons (pe_ix (ix_listK (K := K)) (pv 4) pe_int (fun _ _ => rfl)) pk_nil)) pa_nil)) (pv 5) (nomark _))
    (pss_one (ps_ret pe_bl))
    pss_nil))))))))))
    (pss_one (ps_ret pe_bl)))), ?_⟩
    walk_at "go"
    intro g ng
    walk_at "go"
    refine r_slL ((Same.new0 ng).seq hS) ?_
    intro c nc
    refine r_cat (xs := [.int _]) (zs := cutV (ns.map V.int) none (some 4)) (by walk_at "hp") upd_same ?_ ?_
    · have := cut_len (xs := ns.map V.int) none (some 4)
      rw [List.length_map] at this
      simp
      omega
    intro l nl
    have sl : ∀ H', Same (upd (upd (upd H g (HO.lst [V.int 951060199621203976012027620332577712563679099664616872881803977752086394649381135231165166920554])) c (.lst (cutV (ns.map V.int) none (some 4)))) l (.lst ([V.int 951060199621203976012027620332577712563679099664616872881803977752086394649381135231165166920554] ++ cutV (ns.map V.int) none (some 4)))) H' → H' l = some (.lst ([V.int 951060199621203976012027620332577712563679099664616872881803977752086394649381135231165166920554] ++ cutV (ns.map V.int) none (some 4))) := fun H' sm => sm _ _ upd_same
    generalize upd (upd (upd H g _) c _) l _ = H0 at *
    refine u_forL (SqL.of (sl H0 (Same.refl _))) (fun i σ H' => ∃ y0 y1 y2 y3 y4 y5 y6 : Option V, σ = [y0, y1, y2, y3, y4, y5, y6] ∧ Same H0 H') ⟨_, _, _, _, _, _, _, rfl, Same.refl _⟩ ?_ ?_ ?_
    · rintro i σ H' _ ⟨y0, y1, y2, y3, y4, y5, y6, rfl, sm⟩
      exact SqL.of (sl H' sm)
    · rintro i x σ H'0 hx ⟨y0, y1, y2, y3, y4, y5, y6, rfl, sm⟩
      obtain ⟨cell, rfl⟩ := cells_int hx
      clear hx
      walk_at "go"
      refine ⟨cell, rfl, fun b H1 nb s1 b1 => ?_⟩
      have fin : ∀ {H2 : Hp}, But b H1 H2 → Same H0 H2 := fun h => sm.trans (Same.but2 s1 nb h)
      walk_at "go"
      refine u_take b1 (by decide) (by decide) fun kind H2 _ _ bu2 b2 => ?_
      walk_at "go"
      refine ⟨b, 6, kind, rfl, b2, by decide, by decide, fun l1 p c H3 bu3 b3 mk => ?_⟩
      replace fin : ∀ {H2 : Hp}, Same H3 H2 → Same H0 H2 := fun s => fin (bu2.trans (bu3.trans (Same.but s b)))
      clear bu2 bu3 b1 b2 s1 nb b3
      obtain ⟨q, lf, D, us, e1, e2, e3, e4⟩ := mk.m.ex
      have hg : Good H3 q p := ⟨e2, mk.wf, mk.l0, mk.l1⟩
      walk_at "go"
      intro du ndu
      have sD := Same.new0 (o := .tup [.int p.head, .int c.shift, .ref lf, .ref D]) ndu
      have hdu : (upd H3 du (.tup [.int p.head, .int c.shift, .ref lf, .ref D])) du = some (.tup [.int p.head, .int c.shift, .ref lf, .ref D]) := upd_same
      have e1' := sD _ _ e1
      have e3' := e3.same sD
      have e4' := e4.same sD
      have hg' : Good (upd H3 du (.tup [.int p.head, .int c.shift, .ref lf, .ref D])) q p := ⟨hg.1.tk (Tk.same sD), hg.2⟩
      replace fin : ∀ {H2 : Hp}, Same (upd H3 du (.tup [.int p.head, .int c.shift, .ref lf, .ref D])) H2 → Same H0 H2 := fun s => fin (sD.trans s)
      generalize upd H3 du _ = H4 at *
      clear sD ndu e1 e3 e4 hg e2
      have due : ∀ {H' : Hp} {u l D2 : Addr} {us2 : List (Str × Addr)}, Same H4 H' → H' u = some (.tup [.int c.aim, .int c.shift, .ref l, .ref D2]) → FacAt H' l c.fac → RwX H' D2 200 c.core us2 → Paired (EqN H' 2) [.int c.aim, .int c.shift, .ref l, .ref D2] [.int p.head, .int c.shift, .ref lf, .ref D] := fun {H' u l D2 us2} s h1 h2 h3 => by
        refine .cons (by rw [mk.m.aim]; exact eqN_int 2 _) (.cons (eqN_int 2 _) (.cons ?_ (.cons (eqN_rows h3 (e4'.same s)) .nil)))
        obtain ⟨fs, f1, f2⟩ := h2
        obtain ⟨gs, g1, g2⟩ := e3'.same s
        by_cases z : l = lf
        · subst z
          exact .inr (.inl ⟨l, rfl, rfl⟩)
        · exact .inr (.inr ⟨l, lf, rfl, rfl, z, .inl ⟨fs, gs, f1, g1, eqN_fac f2 g2⟩⟩)
      walk_at "go"
      refine r_cut (fun σ' H' => ∃ (t : Addr), σ' = [y0, y1, some (.int cell), some (.ref b), some (.ref l1), some (.ref du), some (.ref t)] ∧ Same H4 H' ∧ ChIs C H' t c ∧ FrV H4 H' (.ref t)) ?_ ?_
      · walk_at "go"
        refine ⟨q, p, c, rfl, hg', mk.m.ch, fun t H5 s5 ht fr => ?_⟩
        walk_at "go"
        exact ⟨t, rfl, s5, ht, fr⟩
      rintro σ' H5 ⟨t, rfl, s5, ht, fr⟩
      try dsimp only
      refine r_cut (fun σ' H' => σ' = [y0, y1, some (.int cell), some (.ref b), some (.ref l1), some (.ref du), some (.ref t)] ∧ Same H5 H') ?_ ?_
      · walk_at "go"
        refine ⟨t, c, rfl, ht, fun u l D2 us2 H6 _ _ s6 h1 h2 h3 => ?_⟩
        walk_at "go"
        refine r_neN 2 h1 ((s5.trans s6) _ _ hdu) (by decide) (due (s5.trans s6) h1 h2 h3) ?_
        walk_at "go"
        exact ⟨rfl, s6⟩
      rintro σ' H6 ⟨rfl, s6⟩
      try dsimp only
      obtain ⟨f1, f2, ht1, ⟨fs, hf1, efs⟩, ⟨pl, ⟨ws, hf2, ews⟩, _, pn, _⟩, fl⟩ := ht
      obtain ⟨n1, n2, n12⟩ := fr t _ _ _ _ rfl ht1
      have ht6 := s6 _ _ ht1
      have hf16 := s6 _ _ hf1
      have hf26 := s6 _ _ hf2
      have s46 := s5.trans s6
      have fsl : fs.length ≤ 12 := by rw [efs.1]; exact fl
      have wsl : ws.length < 64 := by rw [ews.1]; exact pn
      clear hf1 hf2 ht1 efs ews fr
      clear s5 s6
      refine r_cut (fun σ' H' => σ' = [y0, y1, some (.int cell), some (.ref b), some (.ref l1), some (.ref du), some (.ref t)] ∧ But f1 H6 H') ?_ ?_
      · walk_at "go"
        intro t2 nt2
        have h9 := h_keep (o := .tup [.int 2, .int 3]) hf16 nt2
        walk_at "go"
        exact ⟨rfl, But.self ((But.refl _ _).new nt2)⟩
      rintro σ' H7 ⟨rfl, bu7⟩
      have tf1 : t ≠ f1 := ne_of ht6 hf16 (by intro z; cases z)
      have ht7 := bu7 _ _ tf1 ht6
      have hf27 := bu7 _ _ n12.symm hf26
      try dsimp only
      refine r_cut (fun σ' H' => σ' = [y0, y1, some (.int cell), some (.ref b), some (.ref l1), some (.ref du), some (.ref t)] ∧ But f2 H7 H') ?_ ?_
      · walk_at "go"
        intro t2 nt2
        walk_at "go"
        intro l2 nl2
        walk_at "go"
        refine u_poly (l := l2) (ts := [(0, 1)]) ⟨[.ref t2], upd_same, .one (h_keep upd_same nl2)⟩ (by decide) fun r0 w0 H8 nr s8 hr0 hc0 hl0 => ?_
        walk_at "go"
        intro t3 nt3
        have sN := ((Same.new (Same.new0 nt2 (o := .tup [.int 0, .int 1])) nl2 (o := .lst [.ref t2])).trans s8).trans (Same.new0 nt3 (o := .tup [.str "z", .ref r0]))
        have h9 := sN _ _ hf27
        walk_at "go"
        exact ⟨rfl, But.self (Same.but sN f2)⟩
      rintro σ' H8 ⟨rfl, bu8⟩
      try dsimp only
      have s48 : Same H4 H8 := fun p o e => bu8 _ _ (ne_of_none e n2) (bu7 _ _ (ne_of_none e n1) (s46 _ _ e))
      have e18 := s48 _ _ e1'
      clear bu7 bu8 ht7 hf27 ht6 hf16 hf26 s46
      walk_at "go"
      refine ⟨q, p, c, rfl, ⟨hg'.1.tk (Tk.same s48), hg'.2⟩, mk.m.ch, fun t9 H9 s9 ht9 _ => ?_⟩
      walk_at "go"
      refine ⟨t9, c, rfl, ht9, fun u l D2 us2 H10 _ _ s10 h1 h2 h3 => ?_⟩
      have sT := s48.trans (s9.trans s10)
      walk_at "go"
      refine r_neN 2 h1 (sT _ _ hdu) (by decide) (due sT h1 h2 h3) ?_
      walk_at "go"
      exact ⟨_, _, _, _, _, _, _, rfl, fin sT⟩
    · rintro σ H' ⟨y0, y1, y2, y3, y4, y5, y6, rfl, sm⟩
      walk_at "go"
      exact k H'
end

set_option Elab.async false
set_option linter.all false
set_option maxRecDepth 100000
set_option maxHeartbeats 8000000

open PySem PySem.Spec PyProof.Rows L2
structure BlA (mg : Str → Option Value) : Prop where
  b_abs : mg "abs" = none
  b_enumerate : mg "enumerate" = none
  b_sorted : mg "sorted" = none
theorem all_mk {l : PySem.W.OpenLaw} {w : World} {K : PySem.W.Frag} {h : Heap} {mg : Str → Option Value} {fa f1 f2 f3 f4 f5 f6 f7 f8 f9 f10 f11 f12 f13 f14 f15 f16 f17 f18 f19 f20 f21 f22 f23 f24 f25 f26 f27 f28 f29 f30 f31 f32 f33 f34 f35 f36 f37 f38 f39 f40 f41 f42 f43 f44 f45 f46 f47 f48 : Addr} (X : K.In h) (G : h.Ns mainGlobals mg) (hfa : mg "law" = some (.ref fa))
    {od31 an31 od43 an43 od48 an48 : Option Addr} {sl31 sl43 sl48 : Array (Option Value)} {oc31 kV31 dc31 pm31 cd31 ct31 oc43 kV43 dc43 pm43 cd43 ct43 oc48 kV48 dc48 pm48 cd48 ct48 : Value}
    {C : Addr} {cdP : ClassData} {dS : Addr} {esS : Array DictEntry} {nS : Nat} {t1S t2S t3S t4S : Tok} {tMC tMH : Tok}
    {DT31 : Addr} {dt31_0 : Tok} {dn31 : Nat} {ds31 : Array (Option Value)} {dd31 : Option Addr}
    (aC : PySem.W.nsIn K mainGlobals "Poly" = some (some (.ref C)))
    (pgP : PySem.W.plainGet K C Str.empty = true)
    (hdP : PySem.W.hasDictIn K C = true)
    (poP : PySem.W.plainOver K C = true)
    (saP : PySem.W.findIn K (.ref C) "__setattr__" = some (some (.builtin "object.__setattr__")))
    (mk_Poly : PySem.W.makesIn K C = true)
    (kc_Poly : PySem.W.keepIn K (.ref C) = true)
    (nRP : PySem.W.findIn K (.ref C) "rows" = some none)
    (sfP : PySem.W.selfFirst K C = true)
    (icP : PySem.W.clsIn K C = some cdP)
    (moP : cdP.mro = [.ref C, .type "object"])
    (caP : PySem.W.findIn K (.ref C) "__class__" = some (some (.builtin "object.__class__")))
    (cnP : PySem.W.specialIn K (.builtin "object.__class__") "__get__" = some (some (.builtin "getset_descriptor.__get__")))
    (ctP : PySem.W.takesIn K (.builtin "object.__class__") = some true)
    (cmP : PySem.W.mroIn K C (.type "object") = some true)
    (tyP : PySem.W.typeIn K (.ref C) = some (.type "type"))
    (s1P : PySem.W.subIn K (.type "int") (.ref C) = some false)
    (s2P : PySem.W.subIn K (.type "bool") (.ref C) = some false)
    (s3P : PySem.W.subIn K (.type "str") (.ref C) = some false)
    (s4P : PySem.W.subIn K (.type "list") (.ref C) = some false)
    (s5P : PySem.W.subIn K (.type "tuple") (.ref C) = some false)
    (s6P : PySem.W.subIn K (.type "NoneType") (.ref C) = some false)
    (t1P : PySem.W.subIn K (.ref C) (.type "int") = some false)
    (t2P : PySem.W.subIn K (.ref C) (.type "bool") = some false)
    (t3P : PySem.W.subIn K (.ref C) (.type "list") = some false)
    (t4P : PySem.W.subIn K (.ref C) (.type "tuple") = some false)
    (a1 : PySem.W.nsIn K mainGlobals "is_integer" = some (some (.ref f1)))  (k1 : PySem.W.keepIn K (.ref f1) = true) (E1 : ∃ fd : FuncData, Fun K "is_integer" "is_integer" s_is_integer f1 fd)
    (a2 : PySem.W.nsIn K mainGlobals "is_term" = some (some (.ref f2)))  (k2 : PySem.W.keepIn K (.ref f2) = true) (E2 : ∃ fd : FuncData, Fun K "is_term" "is_term" s_is_term f2 fd)
    (a3 : PySem.W.nsIn K mainGlobals "summed" = some (some (.ref f3)))  (k3 : PySem.W.keepIn K (.ref f3) = true) (E3 : ∃ fd : FuncData, Fun K "summed" "summed" s_summed f3 fd)
    (a4 : PySem.W.findIn K (.ref C) "__init__" = some (some (.ref f4))) (i4 : PySem.W.isFn K (.ref f4) = true)
     (k4 : PySem.W.keepIn K (.ref f4) = true) (E4 : ∃ fd : FuncData, Fun K "__init__" "Poly.__init__" s_Poly___init__ f4 fd)
    (a5 : PySem.W.nsIn K mainGlobals "_law_pot" = some (some (.ref f5)))  (k5 : PySem.W.keepIn K (.ref f5) = true) (E5 : ∃ fd : FuncData, Fun K "_law_pot" "_law_pot" s_l_pot f5 fd)
    (a6 : PySem.W.nsIn K mainGlobals "_law_take" = some (some (.ref f6)))  (k6 : PySem.W.keepIn K (.ref f6) = true) (E6 : ∃ fd : FuncData, Fun K "_law_take" "_law_take" s_l_take f6 fd)
    (a7 : PySem.W.nsIn K mainGlobals "_law_one_step" = some (some (.ref f7)))  (k7 : PySem.W.keepIn K (.ref f7) = true) (E7 : ∃ fd : FuncData, Fun K "_law_one_step" "_law_one_step" s_l_one_step f7 fd)
    (a8 : PySem.W.nsIn K mainGlobals "_law_bits" = some (some (.ref f8)))  (k8 : PySem.W.keepIn K (.ref f8) = true) (E8 : ∃ fd : FuncData, Fun K "_law_bits" "_law_bits" s_l_bits f8 fd)
    (a9 : PySem.W.nsIn K mainGlobals "_law_ring_of" = some (some (.ref f9)))  (k9 : PySem.W.keepIn K (.ref f9) = true) (E9 : ∃ fd : FuncData, Fun K "_law_ring_of" "_law_ring_of" s_l_ring_of f9 fd)
    (a10 : PySem.W.nsIn K mainGlobals "_law_small" = some (some (.ref f10)))  (k10 : PySem.W.keepIn K (.ref f10) = true) (E10 : ∃ fd : FuncData, Fun K "_law_small" "_law_small" s_l_small f10 fd)
    (a11 : PySem.W.nsIn K mainGlobals "_law_often" = some (some (.ref f11)))  (k11 : PySem.W.keepIn K (.ref f11) = true) (E11 : ∃ fd : FuncData, Fun K "_law_often" "_law_often" s_l_often f11 fd)
    (a12 : PySem.W.nsIn K mainGlobals "_law_turns" = some (some (.ref f12)))  (k12 : PySem.W.keepIn K (.ref f12) = true) (E12 : ∃ fd : FuncData, Fun K "_law_turns" "_law_turns" s_l_turns f12 fd)
    (a13 : PySem.W.nsIn K mainGlobals "_law_wraps" = some (some (.ref f13)))  (k13 : PySem.W.keepIn K (.ref f13) = true) (E13 : ∃ fd : FuncData, Fun K "_law_wraps" "_law_wraps" s_l_wraps f13 fd)
    (a14 : PySem.W.nsIn K mainGlobals "_law_plain" = some (some (.ref f14)))  (k14 : PySem.W.keepIn K (.ref f14) = true) (E14 : ∃ fd : FuncData, Fun K "_law_plain" "_law_plain" s_l_plain f14 fd)
    (a15 : PySem.W.nsIn K mainGlobals "_law_sign" = some (some (.ref f15)))  (k15 : PySem.W.keepIn K (.ref f15) = true) (E15 : ∃ fd : FuncData, Fun K "_law_sign" "_law_sign" s_l_sign f15 fd)
    (a16 : PySem.W.nsIn K mainGlobals "_law_less" = some (some (.ref f16)))  (k16 : PySem.W.keepIn K (.ref f16) = true) (E16 : ∃ fd : FuncData, Fun K "_law_less" "_law_less" s_l_less f16 fd)
    (a17 : PySem.W.nsIn K mainGlobals "_law_last" = some (some (.ref f17)))  (k17 : PySem.W.keepIn K (.ref f17) = true) (E17 : ∃ fd : FuncData, Fun K "_law_last" "_law_last" s_l_last f17 fd)
    (a18 : PySem.W.nsIn K mainGlobals "_law_seed" = some (some (.ref f18)))  (k18 : PySem.W.keepIn K (.ref f18) = true) (E18 : ∃ fd : FuncData, Fun K "_law_seed" "_law_seed" s_l_seed f18 fd)
    (a19 : PySem.W.nsIn K mainGlobals "_law_summed" = some (some (.ref f19)))  (k19 : PySem.W.keepIn K (.ref f19) = true) (E19 : ∃ fd : FuncData, Fun K "_law_summed" "_law_summed" s_l_summed f19 fd)
    (a20 : PySem.W.nsIn K mainGlobals "_law_upside" = some (some (.ref f20)))  (k20 : PySem.W.keepIn K (.ref f20) = true) (E20 : ∃ fd : FuncData, Fun K "_law_upside" "_law_upside" s_l_upside f20 fd)
    (a21 : PySem.W.nsIn K mainGlobals "_law_bulk" = some (some (.ref f21)))  (k21 : PySem.W.keepIn K (.ref f21) = true) (E21 : ∃ fd : FuncData, Fun K "_law_bulk" "_law_bulk" s_l_bulk f21 fd)
    (a22 : PySem.W.nsIn K mainGlobals "_law_fits" = some (some (.ref f22)))  (k22 : PySem.W.keepIn K (.ref f22) = true) (E22 : ∃ fd : FuncData, Fun K "_law_fits" "_law_fits" s_l_fits f22 fd)
    (a23 : PySem.W.nsIn K mainGlobals "_law_round" = some (some (.ref f23)))  (k23 : PySem.W.keepIn K (.ref f23) = true) (E23 : ∃ fd : FuncData, Fun K "_law_round" "_law_round" s_l_round f23 fd)
    (a24 : PySem.W.nsIn K mainGlobals "_law_wrapped" = some (some (.ref f24)))  (k24 : PySem.W.keepIn K (.ref f24) = true) (E24 : ∃ fd : FuncData, Fun K "_law_wrapped" "_law_wrapped" s_l_wrapped f24 fd)
    (a25 : PySem.W.nsIn K mainGlobals "_law_chained" = some (some (.ref f25)))  (k25 : PySem.W.keepIn K (.ref f25) = true) (E25 : ∃ fd : FuncData, Fun K "_law_chained" "_law_chained" s_l_chained f25 fd)
    (a26 : PySem.W.nsIn K mainGlobals "is_command" = some (some (.ref f26)))  (k26 : PySem.W.keepIn K (.ref f26) = true) (E26 : ∃ fd : FuncData, Fun K "is_command" "is_command" s_is_command f26 fd)
    (a27 : PySem.W.nsIn K mainGlobals "is_name" = some (some (.ref f27)))  (k27 : PySem.W.keepIn K (.ref f27) = true) (E27 : ∃ fd : FuncData, Fun K "is_name" "is_name" s_is_name f27 fd)
    (a28 : PySem.W.nsIn K mainGlobals "is_program" = some (some (.ref f28)))  (k28 : PySem.W.keepIn K (.ref f28) = true) (E28 : ∃ fd : FuncData, Fun K "is_program" "is_program" s_is_program f28 fd)
    (a29 : PySem.W.nsIn K mainGlobals "check_program" = some (some (.ref f29)))  (k29 : PySem.W.keepIn K (.ref f29) = true) (E29 : ∃ fd : FuncData, Fun K "check_program" "check_program" s_check_program f29 fd)
    (a30 : PySem.W.nsIn K mainGlobals "raw_size" = some (some (.ref f30)))  (k30 : PySem.W.keepIn K (.ref f30) = true) (E30 : ∃ fd : FuncData, Fun K "raw_size" "raw_size" s_raw_size f30 fd)
    (a31 : PySem.W.nsIn K mainGlobals "plain_row" = some (some (.ref f31))) (l31 : K.lookup f31 = some ⟨oc31, od31, .func (PySem.W.fnOf "plain_row" "plain_row" (defArgs s_plain_row) (defBody s_plain_row) (defScope s_plain_row) (.ref DT31) kV31 dc31 pm31 an31 cd31 ct31), sl31⟩) (c31 : PySem.W.codeIn K cd31 "plain_row" = true) (k31 : PySem.W.keepIn K (.ref f31) = true)
    (d31 : K.lookup DT31 = some ⟨.type "tuple", dd31, .seq #[.int 1 dt31_0] dn31, ds31⟩)
    (a32 : PySem.W.nsIn K mainGlobals "raw_is_short" = some (some (.ref f32)))  (k32 : PySem.W.keepIn K (.ref f32) = true) (E32 : ∃ fd : FuncData, Fun K "raw_is_short" "raw_is_short" s_raw_is_short f32 fd)
    (a33 : PySem.W.nsIn K mainGlobals "raw_steps" = some (some (.ref f33)))  (k33 : PySem.W.keepIn K (.ref f33) = true) (E33 : ∃ fd : FuncData, Fun K "raw_steps" "raw_steps" s_raw_steps f33 fd)
    (a34 : PySem.W.nsIn K mainGlobals "add_step" = some (some (.ref f34)))  (k34 : PySem.W.keepIn K (.ref f34) = true) (E34 : ∃ fd : FuncData, Fun K "add_step" "add_step" s_add_step f34 fd)
    (a35 : PySem.W.findIn K (.ref C) "__len__" = some (some (.ref f35))) (i35 : PySem.W.isFn K (.ref f35) = true)
     (k35 : PySem.W.keepIn K (.ref f35) = true) (E35 : ∃ fd : FuncData, Fun K "__len__" "Poly.__len__" s_Poly___len__ f35 fd)
    (a36 : PySem.W.nsIn K mainGlobals "place_from" = some (some (.ref f36)))  (k36 : PySem.W.keepIn K (.ref f36) = true) (E36 : ∃ fd : FuncData, Fun K "place_from" "place_from" s_place_from f36 fd)
    (a37 : PySem.W.nsIn K mainGlobals "raw_effect" = some (some (.ref f37)))  (k37 : PySem.W.keepIn K (.ref f37) = true) (E37 : ∃ fd : FuncData, Fun K "raw_effect" "raw_effect" s_raw_effect f37 fd)
    (a38 : PySem.W.nsIn K mainGlobals "raw_heading" = some (some (.ref f38)))  (k38 : PySem.W.keepIn K (.ref f38) = true) (E38 : ∃ fd : FuncData, Fun K "raw_heading" "raw_heading" s_raw_heading f38 fd)
    (a39 : PySem.W.nsIn K mainGlobals "turn_sum" = some (some (.ref f39)))  (k39 : PySem.W.keepIn K (.ref f39) = true) (E39 : ∃ fd : FuncData, Fun K "turn_sum" "turn_sum" s_turn_sum f39 fd)
    (a40 : PySem.W.findIn K (.ref C) "mirrored" = some (some (.ref f40))) (i40 : PySem.W.isFn K (.ref f40) = true)
     (k40 : PySem.W.keepIn K (.ref f40) = true) (E40 : ∃ fd : FuncData, Fun K "mirrored" "Poly.mirrored" s_Poly_mirrored f40 fd)
    (a41 : PySem.W.nsIn K mainGlobals "raw_chain" = some (some (.ref f41)))  (k41 : PySem.W.keepIn K (.ref f41) = true) (E41 : ∃ fd : FuncData, Fun K "raw_chain" "raw_chain" s_raw_chain f41 fd)
    (a42 : PySem.W.nsIn K mainGlobals "checked_chain" = some (some (.ref f42)))  (k42 : PySem.W.keepIn K (.ref f42) = true) (E42 : ∃ fd : FuncData, Fun K "checked_chain" "checked_chain" s_checked_chain f42 fd)
    (a43 : PySem.W.nsIn K mainGlobals "chain" = some (some (.ref f43))) (l43 : K.lookup f43 = some ⟨oc43, od43, .func (PySem.W.fnOf "chain" "chain" (defArgs s_chain) (defBody s_chain) (defScope s_chain) .none kV43 dc43 pm43 an43 cd43 ct43), sl43⟩) (c43 : PySem.W.codeIn K cd43 "chain" = true) (k43 : PySem.W.keepIn K (.ref f43) = true)
    (a44 : PySem.W.nsIn K mainGlobals "_law_whole_number" = some (some (.ref f44)))  (k44 : PySem.W.keepIn K (.ref f44) = true) (E44 : ∃ fd : FuncData, Fun K "_law_whole_number" "_law_whole_number" s_l_whole_number f44 fd)
    {p45 : Addr} {rs45 : List Value} (a45 : PySem.W.findIn K (.ref C) "terms" = some (some (.ref p45))) (gp45 : PySem.W.specialIn K (.ref p45) "__get__" = some (some (.builtin "property.__get__"))) (tp45 : PySem.W.takesIn K (.ref p45) = some true) (i45 : PySem.W.recIn K p45 "property" = some (.ref f45 :: rs45))
     (k45 : PySem.W.keepIn K (.ref f45) = true) (E45 : ∃ fd : FuncData, Fun K "terms" "Poly.terms" s_Poly_terms f45 fd)
    (a46 : PySem.W.nsIn K mainGlobals "_law_place_rows" = some (some (.ref f46)))  (k46 : PySem.W.keepIn K (.ref f46) = true) (E46 : ∃ fd : FuncData, Fun K "_law_place_rows" "_law_place_rows" s_l_place_rows f46 fd)
    (a47 : PySem.W.nsIn K mainGlobals "_law_told_chain" = some (some (.ref f47)))  (k47 : PySem.W.keepIn K (.ref f47) = true) (E47 : ∃ fd : FuncData, Fun K "_law_told_chain" "_law_told_chain" s_l_told_chain f47 fd)
    (a48 : PySem.W.nsIn K mainGlobals "law" = some (some (.ref f48))) (l48 : K.lookup f48 = some ⟨oc48, od48, .func (PySem.W.fnOf "law" "law" (defArgs s_law) (defBody s_law) (defScope s_law) .none kV48 dc48 pm48 an48 cd48 ct48), sl48⟩) (c48 : PySem.W.codeIn K cd48 "law" = true) (k48 : PySem.W.keepIn K (.ref f48) = true)
    (z_abs : PySem.W.nsIn K mainGlobals "abs" = some none) (z_all : PySem.W.nsIn K mainGlobals "all" = some none) (z_bool : PySem.W.nsIn K mainGlobals "bool" = some none) (z_enumerate : PySem.W.nsIn K mainGlobals "enumerate" = some none) (z_int : PySem.W.nsIn K mainGlobals "int" = some none) (z_isinstance : PySem.W.nsIn K mainGlobals "isinstance" = some none) (z_len : PySem.W.nsIn K mainGlobals "len" = some none) (z_list : PySem.W.nsIn K mainGlobals "list" = some none) (z_max : PySem.W.nsIn K mainGlobals "max" = some none) (z_min : PySem.W.nsIn K mainGlobals "min" = some none) (z_range : PySem.W.nsIn K mainGlobals "range" = some none) (z_sorted : PySem.W.nsIn K mainGlobals "sorted" = some none) (z_str : PySem.W.nsIn K mainGlobals "str" = some none) (z_sum : PySem.W.nsIn K mainGlobals "sum" = some none) (z_tuple : PySem.W.nsIn K mainGlobals "tuple" = some none)
    (aS : PySem.W.nsIn K mainGlobals "STEPS" = some (some (.ref dS)))
    (lS : K.lookup dS = some ⟨.type "dict", none, .dict esS nS, #[]⟩)
    (kS : PySem.W.KeysLit w.params esS.toList)
    (oS : (dS == sysModules) = false)
    (e1S : PySem.W.nsIn K dS "go" = some (some (.int 1 t1S)))
    (e2S : PySem.W.nsIn K dS "back" = some (some (.int (-1) t2S)))
    (e3S : PySem.W.nsIn K dS "hop" = some (some (.int 1 t3S)))
    (e4S : PySem.W.nsIn K dS "slip" = some (some (.int (-1) t4S)))
    (mMC : PySem.W.nsIn K mainGlobals "MOST_COMMANDS" = some (some (.int 200 tMC)))
    (mMH : PySem.W.nsIn K mainGlobals "MOST_HEADING" = some (some (.int 12 tMH)))
    : ∃ fd : FuncData, (∀ (s : Shared) (v : Value), BindsTo s fd ⟨[v], []⟩ [("_law_script", v)]) ∧ ∀ base : Heap, K.In base → base.Ns mainGlobals mg → FnOk l.prog w K mg base CX0 31 fa fd ["_law_script"] (spLaw K) := by
  cases (hfa.symm.trans (PySem.W.mg_of X G a48))
  obtain ⟨_, F_is_integer⟩ := E1
  have b_is_integer := F_is_integer.binds (ps := ["value"]) fun _ _ _ _ _ _ us hl => match us, hl with | [_], _ => rfl
  obtain ⟨_, F_is_term⟩ := E2
  have b_is_term := F_is_term.binds (ps := ["value"]) fun _ _ _ _ _ _ us hl => match us, hl with | [_], _ => rfl
  obtain ⟨_, F_summed⟩ := E3
  have b_summed := F_summed.binds (ps := ["terms"]) fun _ _ _ _ _ _ us hl => match us, hl with | [_], _ => rfl
  obtain ⟨_, F_Poly___init__⟩ := E4
  have b_Poly___init__ := F_Poly___init__.binds (ps := ["self", "terms"]) fun _ _ _ _ _ _ us hl => match us, hl with | [_, _], _ => rfl
  obtain ⟨_, F_l_pot⟩ := E5
  have b_l_pot := F_l_pot.binds (ps := ["_law_cell"]) fun _ _ _ _ _ _ us hl => match us, hl with | [_], _ => rfl
  obtain ⟨_, F_l_take⟩ := E6
  have b_l_take := F_l_take.binds (ps := ["_law_pot_here", "_law_many"]) fun _ _ _ _ _ _ us hl => match us, hl with | [_, _], _ => rfl
  obtain ⟨_, F_l_one_step⟩ := E7
  have b_l_one_step := F_l_one_step.binds (ps := ["_law_pot_here", "_law_signs"]) fun _ _ _ _ _ _ us hl => match us, hl with | [_, _], _ => rfl
  obtain ⟨_, F_l_bits⟩ := E8
  have b_l_bits := F_l_bits.binds (ps := ["_law_pot_here", "_law_signs", "_law_most", "_law_bound"]) fun _ _ _ _ _ _ us hl => match us, hl with | [_, _, _, _], _ => rfl
  obtain ⟨_, F_l_ring_of⟩ := E9
  have b_l_ring_of := F_l_ring_of.binds (ps := ["_law_pot_here", "_law_signs", "_law_most", "_law_bound"]) fun _ _ _ _ _ _ us hl => match us, hl with | [_, _, _, _], _ => rfl
  obtain ⟨_, F_l_small⟩ := E10
  have b_l_small := F_l_small.binds (ps := ["_law_pot_here"]) fun _ _ _ _ _ _ us hl => match us, hl with | [_], _ => rfl
  obtain ⟨_, F_l_often⟩ := E11
  have b_l_often := F_l_often.binds (ps := ["_law_pot_here", "_law_kind"]) fun _ _ _ _ _ _ us hl => match us, hl with | [_, _], _ => rfl
  obtain ⟨_, F_l_turns⟩ := E12
  have b_l_turns := F_l_turns.binds (ps := ["_law_pot_here", "_law_most", "_law_kind"]) fun _ _ _ _ _ _ us hl => match us, hl with | [_, _, _], _ => rfl
  obtain ⟨_, F_l_wraps⟩ := E13
  have b_l_wraps := F_l_wraps.binds (ps := ["_law_pot_here", "_law_most", "_law_kind"]) fun _ _ _ _ _ _ us hl => match us, hl with | [_, _, _], _ => rfl
  obtain ⟨_, F_l_plain⟩ := E14
  have b_l_plain := F_l_plain.binds (ps := ["_law_track", "_law_side"]) fun _ _ _ _ _ _ us hl => match us, hl with | [_, _], _ => rfl
  obtain ⟨_, F_l_sign⟩ := E15
  have b_l_sign := F_l_sign.binds (ps := ["_law_word"]) fun _ _ _ _ _ _ us hl => match us, hl with | [_], _ => rfl
  obtain ⟨_, F_l_less⟩ := E16
  have b_l_less := F_l_less.binds (ps := ["_law_one", "_law_two"]) fun _ _ _ _ _ _ us hl => match us, hl with | [_, _], _ => rfl
  obtain ⟨_, F_l_last⟩ := E17
  have b_l_last := F_l_last.binds (ps := ["_law_track"]) fun _ _ _ _ _ _ us hl => match us, hl with | [_], _ => rfl
  obtain ⟨_, F_l_seed⟩ := E18
  have b_l_seed := F_l_seed.binds (ps := ["_law_track"]) fun _ _ _ _ _ _ us hl => match us, hl with | [_], _ => rfl
  obtain ⟨_, F_l_summed⟩ := E19
  have b_l_summed := F_l_summed.binds (ps := ["_law_commands"]) fun _ _ _ _ _ _ us hl => match us, hl with | [_], _ => rfl
  obtain ⟨_, F_l_upside⟩ := E20
  have b_l_upside := F_l_upside.binds (ps := ["_law_rows"]) fun _ _ _ _ _ _ us hl => match us, hl with | [_], _ => rfl
  obtain ⟨_, F_l_bulk⟩ := E21
  have b_l_bulk := F_l_bulk.binds (ps := ["_law_track"]) fun _ _ _ _ _ _ us hl => match us, hl with | [_], _ => rfl
  obtain ⟨_, F_l_fits⟩ := E22
  have b_l_fits := F_l_fits.binds (ps := ["_law_track"]) fun _ _ _ _ _ _ us hl => match us, hl with | [_], _ => rfl
  obtain ⟨_, F_l_round⟩ := E23
  have b_l_round := F_l_round.binds (ps := ["_law_made", "_law_ahead", "_law_often_here", "_law_behind"]) fun _ _ _ _ _ _ us hl => match us, hl with | [_, _, _, _], _ => rfl
  obtain ⟨_, F_l_wrapped⟩ := E24
  have b_l_wrapped := F_l_wrapped.binds (ps := ["_law_made", "_law_wraps_here"]) fun _ _ _ _ _ _ us hl => match us, hl with | [_, _], _ => rfl
  obtain ⟨_, F_l_chained⟩ := E25
  have b_l_chained := F_l_chained.binds (ps := ["_law_pot_here", "_law_most", "_law_kind"]) fun _ _ _ _ _ _ us hl => match us, hl with | [_, _, _], _ => rfl
  obtain ⟨_, F_is_command⟩ := E26
  have b_is_command := F_is_command.binds (ps := ["value"]) fun _ _ _ _ _ _ us hl => match us, hl with | [_], _ => rfl
  obtain ⟨_, F_is_name⟩ := E27
  have b_is_name := F_is_name.binds (ps := ["value"]) fun _ _ _ _ _ _ us hl => match us, hl with | [_], _ => rfl
  obtain ⟨_, F_is_program⟩ := E28
  have b_is_program := F_is_program.binds (ps := ["value"]) fun _ _ _ _ _ _ us hl => match us, hl with | [_], _ => rfl
  obtain ⟨_, F_check_program⟩ := E29
  have b_check_program := F_check_program.binds (ps := ["value"]) fun _ _ _ _ _ _ us hl => match us, hl with | [_], _ => rfl
  obtain ⟨_, F_raw_size⟩ := E30
  have b_raw_size := F_raw_size.binds (ps := ["program"]) fun _ _ _ _ _ _ us hl => match us, hl with | [_], _ => rfl
  have F_plain_row : FunD K "plain_row" "plain_row" (defArgs s_plain_row) (defBody s_plain_row) (defScope s_plain_row) [.int 1] [] f31 (PySem.W.fnOf "plain_row" "plain_row" (defArgs s_plain_row) (defBody s_plain_row) (defScope s_plain_row) (.ref DT31) kV31 dc31 pm31 an31 cd31 ct31) := ⟨⟨_, _, _, _, _, _, _, _, _, _, rfl, l31, c31, .inr ⟨by simp, DT31, _, [_], dn31, rfl, d31, rfl, .cons ⟨_, rfl⟩ (.nil)⟩, .inl rfl⟩, k31⟩
  obtain ⟨dsplain_row_1, vdplain_row_1, bdplain_row_1⟩ := F_plain_row.binds1 (ps := ["program", "sign"]) 1 0 (by simp) (by simp) fun _ _ _ _ _ _ _ us its hl hi => match us, its, hl, hi with | [_], [_], _, _ => ⟨_, rfl, rfl⟩
  obtain ⟨dsplain_row_2, vdplain_row_2, bdplain_row_2⟩ := F_plain_row.binds1 (ps := ["program", "sign"]) 2 1 (by simp) (by simp) fun _ _ _ _ _ _ _ us its hl hi => match us, its, hl, hi with | [_, _], [_], _, _ => ⟨_, rfl, rfl⟩
  have b_plain_row : Binds K (PySem.W.fnOf "plain_row" "plain_row" (defArgs s_plain_row) (defBody s_plain_row) (defScope s_plain_row) (.ref DT31) kV31 dc31 pm31 an31 cd31 ct31) ["program", "sign"] [] := by cases vdplain_row_2; exact bdplain_row_2
  obtain ⟨_, F_raw_is_short⟩ := E32
  have b_raw_is_short := F_raw_is_short.binds (ps := ["program"]) fun _ _ _ _ _ _ us hl => match us, hl with | [_], _ => rfl
  obtain ⟨_, F_raw_steps⟩ := E33
  have b_raw_steps := F_raw_steps.binds (ps := ["program"]) fun _ _ _ _ _ _ us hl => match us, hl with | [_], _ => rfl
  obtain ⟨_, F_add_step⟩ := E34
  have b_add_step := F_add_step.binds (ps := ["numbers", "step"]) fun _ _ _ _ _ _ us hl => match us, hl with | [_, _], _ => rfl
  obtain ⟨_, F_Poly___len__⟩ := E35
  have b_Poly___len__ := F_Poly___len__.binds (ps := ["self"]) fun _ _ _ _ _ _ us hl => match us, hl with | [_], _ => rfl
  obtain ⟨_, F_place_from⟩ := E36
  have b_place_from := F_place_from.binds (ps := ["numbers"]) fun _ _ _ _ _ _ us hl => match us, hl with | [_], _ => rfl
  obtain ⟨_, F_raw_effect⟩ := E37
  have b_raw_effect := F_raw_effect.binds (ps := ["program"]) fun _ _ _ _ _ _ us hl => match us, hl with | [_], _ => rfl
  obtain ⟨_, F_raw_heading⟩ := E38
  have b_raw_heading := F_raw_heading.binds (ps := ["program"]) fun _ _ _ _ _ _ us hl => match us, hl with | [_], _ => rfl
  obtain ⟨_, F_turn_sum⟩ := E39
  have b_turn_sum := F_turn_sum.binds (ps := ["commands"]) fun _ _ _ _ _ _ us hl => match us, hl with | [_], _ => rfl
  obtain ⟨_, F_Poly_mirrored⟩ := E40
  have b_Poly_mirrored := F_Poly_mirrored.binds (ps := ["self"]) fun _ _ _ _ _ _ us hl => match us, hl with | [_], _ => rfl
  obtain ⟨_, F_raw_chain⟩ := E41
  have b_raw_chain := F_raw_chain.binds (ps := ["program"]) fun _ _ _ _ _ _ us hl => match us, hl with | [_], _ => rfl
  obtain ⟨_, F_checked_chain⟩ := E42
  have b_checked_chain := F_checked_chain.binds (ps := ["program"]) fun _ _ _ _ _ _ us hl => match us, hl with | [_], _ => rfl
  have F_chain := fun_mk (st := s_chain) l43 c43 k43
  have b_chain := F_chain.binds (ps := ["program"]) fun _ _ _ _ _ _ us hl => match us, hl with | [_], _ => rfl
  obtain ⟨_, F_l_whole_number⟩ := E44
  have b_l_whole_number := F_l_whole_number.binds (ps := ["_law_value"]) fun _ _ _ _ _ _ us hl => match us, hl with | [_], _ => rfl
  obtain ⟨_, F_Poly_terms⟩ := E45
  have b_Poly_terms := F_Poly_terms.binds (ps := ["self"]) fun _ _ _ _ _ _ us hl => match us, hl with | [_], _ => rfl
  obtain ⟨_, F_l_place_rows⟩ := E46
  have b_l_place_rows := F_l_place_rows.binds (ps := ["_law_found"]) fun _ _ _ _ _ _ us hl => match us, hl with | [_], _ => rfl
  obtain ⟨_, F_l_told_chain⟩ := E47
  have b_l_told_chain := F_l_told_chain.binds (ps := ["_law_found"]) fun _ _ _ _ _ _ us hl => match us, hl with | [_], _ => rfl
  have F_law := fun_mk (st := s_law) l48 c48 k48
  have B_Bl : Bl mg := ⟨PySem.W.mg_none_of X G z_isinstance, PySem.W.mg_none_of X G z_int, PySem.W.mg_none_of X G z_bool, PySem.W.mg_none_of X G z_str, PySem.W.mg_none_of X G z_tuple, PySem.W.mg_none_of X G z_list, PySem.W.mg_none_of X G z_len, PySem.W.mg_none_of X G z_all, PySem.W.mg_none_of X G z_range, PySem.W.mg_none_of X G z_sum, PySem.W.mg_none_of X G z_max, PySem.W.mg_none_of X G z_min⟩
  have B_BlA : BlA mg := ⟨PySem.W.mg_none_of X G z_abs, PySem.W.mg_none_of X G z_enumerate, PySem.W.mg_none_of X G z_sorted⟩
  refine ⟨PySem.W.fnOf "law" "law" (defArgs s_law) (defBody s_law) (defScope s_law) .none kV48 dc48 pm48 an48 cd48 ct48, fun s v => .of_eq rfl, fun base _ _ => ?_⟩
  have g_Poly := PySem.W.mg_of X G aC
  have G_Poly : PolyT K mg C := ⟨⟨pgP, hdP, poP, saP⟩, nRP, g_Poly, sfP, by unfold PySem.W.plainMro; rw [icP]; simp [moP], caP, cnP, ctP, cmP, ⟨_, icP⟩, tyP, s1P, s2P, s3P, s4P, s5P, s6P, t1P, t2P, t3P, t4P⟩
  have S : StepsAt K w mg := ⟨dS, esS, nS, ⟨lS, kS, oS⟩, PySem.W.mg_of X G aS, fun x hx => hx.elim (fun h => ⟨_, h ▸ e1S⟩) fun hx => hx.elim (fun h => ⟨_, h ▸ e2S⟩) fun hx => hx.elim (fun h => ⟨_, h ▸ e3S⟩) fun h => ⟨_, h ▸ e4S⟩⟩
  have SV : StepsV K w mg := ⟨dS, PySem.W.mg_of X G aS, fun x hx => by
    rcases hx with rfl | rfl | rfl | rfl
    · rw [show stepSign "go" = 1 by decide]; exact ⟨esS, nS, _, lS, kS, e1S, ⟨_, rfl⟩⟩
    · rw [show stepSign "back" = -1 by decide]; exact ⟨esS, nS, _, lS, kS, e2S, ⟨_, rfl⟩⟩
    · rw [show stepSign "hop" = 1 by decide]; exact ⟨esS, nS, _, lS, kS, e3S, ⟨_, rfl⟩⟩
    · rw [show stepSign "slip" = -1 by decide]; exact ⟨esS, nS, _, lS, kS, e4S, ⟨_, rfl⟩⟩⟩
  have gMC := PySem.W.mg_of X G mMC
  have gMH := PySem.W.mg_of X G mMH
  have g_is_integer := PySem.W.mg_of X G a1
  have g_is_term := PySem.W.mg_of X G a2
  have g_summed := PySem.W.mg_of X G a3
  have g_l_pot := PySem.W.mg_of X G a5
  have g_l_take := PySem.W.mg_of X G a6
  have g_l_one_step := PySem.W.mg_of X G a7
  have g_l_bits := PySem.W.mg_of X G a8
  have g_l_ring_of := PySem.W.mg_of X G a9
  have g_l_small := PySem.W.mg_of X G a10
  have g_l_often := PySem.W.mg_of X G a11
  have g_l_turns := PySem.W.mg_of X G a12
  have g_l_wraps := PySem.W.mg_of X G a13
  have g_l_plain := PySem.W.mg_of X G a14
  have g_l_sign := PySem.W.mg_of X G a15
  have g_l_less := PySem.W.mg_of X G a16
  have g_l_last := PySem.W.mg_of X G a17
  have g_l_seed := PySem.W.mg_of X G a18
  have g_l_summed := PySem.W.mg_of X G a19
  have g_l_upside := PySem.W.mg_of X G a20
  have g_l_bulk := PySem.W.mg_of X G a21
  have g_l_fits := PySem.W.mg_of X G a22
  have g_l_round := PySem.W.mg_of X G a23
  have g_l_wrapped := PySem.W.mg_of X G a24
  have g_l_chained := PySem.W.mg_of X G a25
  have g_is_command := PySem.W.mg_of X G a26
  have g_is_name := PySem.W.mg_of X G a27
  have g_is_program := PySem.W.mg_of X G a28
  have g_check_program := PySem.W.mg_of X G a29
  have g_raw_size := PySem.W.mg_of X G a30
  have g_plain_row := PySem.W.mg_of X G a31
  have g_raw_is_short := PySem.W.mg_of X G a32
  have g_raw_steps := PySem.W.mg_of X G a33
  have g_add_step := PySem.W.mg_of X G a34
  have g_place_from := PySem.W.mg_of X G a36
  have g_raw_effect := PySem.W.mg_of X G a37
  have g_raw_heading := PySem.W.mg_of X G a38
  have g_turn_sum := PySem.W.mg_of X G a39
  have g_raw_chain := PySem.W.mg_of X G a41
  have g_checked_chain := PySem.W.mg_of X G a42
  have g_chain := PySem.W.mg_of X G a43
  have g_l_whole_number := PySem.W.mg_of X G a44
  have g_l_place_rows := PySem.W.mg_of X G a46
  have g_l_told_chain := PySem.W.mg_of X G a47
  have g_law := PySem.W.mg_of X G a48
  have h_is_integer : Has l.prog w K mg base "is_integer" 1 ["value"] spIsInt := ⟨_, _, ok_is_integer F_is_integer B_Bl, PySem.W.mg_of X G a1, k1, b_is_integer⟩
  have h_is_term : Has l.prog w K mg base "is_term" 2 ["value"] spIsTerm := ⟨_, _, ok_is_term F_is_term B_Bl h_is_integer, PySem.W.mg_of X G a2, k2, b_is_term⟩
  have h_summed : Has l.prog w K mg base "summed" 1 ["terms"] spSummed := ⟨_, _, ok_summed F_summed B_Bl B_BlA.b_sorted, PySem.W.mg_of X G a3, k3, b_summed⟩
  have hc_Poly : HasC l.prog w K mg base "Poly" C 3 ["self", "terms"] (spInit C) := ⟨_, _, ok_Poly_init F_Poly___init__ B_Bl G_Poly h_is_term h_summed, ⟨mk_Poly, a4, i4, kc_Poly⟩, g_Poly, b_Poly___init__⟩
  have h_l_pot : Has l.prog w K mg base "_law_pot" 1 ["_law_cell"] spBagOf := ⟨_, _, ok_l_pot F_l_pot B_Bl, PySem.W.mg_of X G a5, k5, b_l_pot⟩
  have h_l_take : Has l.prog w K mg base "_law_take" 1 ["_law_pot_here", "_law_many"] spTake := ⟨_, _, ok_l_take F_l_take B_Bl, PySem.W.mg_of X G a6, k6, b_l_take⟩
  have h_l_one_step : Has l.prog w K mg base "_law_one_step" 2 ["_law_pot_here", "_law_signs"] spOne := ⟨_, _, ok_l_one_step F_l_one_step B_Bl h_l_take, PySem.W.mg_of X G a7, k7, b_l_one_step⟩
  have h_l_bits : Has l.prog w K mg base "_law_bits" 3 ["_law_pot_here", "_law_signs", "_law_most", "_law_bound"] spBits := ⟨_, _, ok_l_bits F_l_bits B_Bl h_l_take h_l_one_step, PySem.W.mg_of X G a8, k8, b_l_bits⟩
  have h_l_ring_of : Has l.prog w K mg base "_law_ring_of" 3 ["_law_pot_here", "_law_signs", "_law_most", "_law_bound"] spRingOf := ⟨_, _, ok_l_ring_of F_l_ring_of B_Bl h_l_take h_l_one_step, PySem.W.mg_of X G a9, k9, b_l_ring_of⟩
  have h_l_small : Has l.prog w K mg base "_law_small" 4 ["_law_pot_here"] spSmallT := ⟨_, _, ok_l_small F_l_small B_Bl B_Bl.b_tuple B_Bl.b_range h_l_take h_l_bits h_l_ring_of, PySem.W.mg_of X G a10, k10, b_l_small⟩
  have h_l_often : Has l.prog w K mg base "_law_often" 2 ["_law_pot_here", "_law_kind"] spOften := ⟨_, _, ok_l_often F_l_often B_Bl h_l_take, PySem.W.mg_of X G a11, k11, b_l_often⟩
  have h_l_turns : Has l.prog w K mg base "_law_turns" 2 ["_law_pot_here", "_law_most", "_law_kind"] spTurns := ⟨_, _, ok_l_turns F_l_turns B_Bl h_l_take, PySem.W.mg_of X G a12, k12, b_l_turns⟩
  have h_l_wraps : Has l.prog w K mg base "_law_wraps" 3 ["_law_pot_here", "_law_most", "_law_kind"] spWraps := ⟨_, _, ok_l_wraps F_l_wraps B_Bl.b_range B_Bl.b_int h_l_take h_l_often h_l_turns, PySem.W.mg_of X G a13, k13, b_l_wraps⟩
  have h_l_plain : Has l.prog w K mg base "_law_plain" 13 ["_law_track", "_law_side"] (spPlLt 13) := has_plain F_l_plain B_Bl g_l_plain b_l_plain 13
  have h_l_sign : Has l.prog w K mg base "_law_sign" 1 ["_law_word"] spSignL := ⟨_, _, ok_l_sign F_l_sign, PySem.W.mg_of X G a15, k15, b_l_sign⟩
  have h_l_less : Has l.prog w K mg base "_law_less" 1 ["_law_one", "_law_two"] spLessR := ⟨_, _, ok_l_less F_l_less B_Bl.b_list, PySem.W.mg_of X G a16, k16, b_l_less⟩
  have h_l_last : Has l.prog w K mg base "_law_last" 14 ["_law_track"] spLastP := ⟨_, _, ok_l_last F_l_last h_l_plain h_l_sign h_l_less, PySem.W.mg_of X G a17, k17, b_l_last⟩
  have h_l_seed : Has l.prog w K mg base "_law_seed" 15 ["_law_track"] spSeed := ⟨_, _, ok_l_seed F_l_seed h_l_last, PySem.W.mg_of X G a18, k18, b_l_seed⟩
  have h_l_summed : Has l.prog w K mg base "_law_summed" 1 ["_law_commands"] spSummedL := ⟨_, _, ok_l_summed F_l_summed B_Bl.b_sum, PySem.W.mg_of X G a19, k19, b_l_summed⟩
  have h_l_upside : Has l.prog w K mg base "_law_upside" 1 ["_law_rows"] spUpside := ⟨_, _, ok_l_upside F_l_upside, PySem.W.mg_of X G a20, k20, b_l_upside⟩
  have h_l_bulk : Has l.prog w K mg base "_law_bulk" 13 ["_law_track"] (spNumLt Prog.size 13) := has_bulk F_l_bulk g_l_bulk b_l_bulk 13
  have h_l_fits : Has l.prog w K mg base "_law_fits" 14 ["_law_track"] spShort := ⟨_, _, ok_l_fits F_l_fits h_l_bulk h_l_plain, PySem.W.mg_of X G a22, k22, b_l_fits⟩
  have h_l_round : Has l.prog w K mg base "_law_round" 16 ["_law_made", "_law_ahead", "_law_often_here", "_law_behind"] spRoundW := ⟨_, _, ok_l_round F_l_round B_Bl.b_tuple h_l_summed h_l_upside h_l_fits h_l_seed, PySem.W.mg_of X G a23, k23, b_l_round⟩
  have h_l_wrapped : Has l.prog w K mg base "_law_wrapped" 17 ["_law_made", "_law_wraps_here"] spWrapped := ⟨_, _, ok_l_wrapped F_l_wrapped h_l_round, PySem.W.mg_of X G a24, k24, b_l_wrapped⟩
  have h_l_chained : Has l.prog w K mg base "_law_chained" 18 ["_law_pot_here", "_law_most", "_law_kind"] spChained := ⟨_, _, ok_l_chained F_l_chained B_Bl h_l_small h_l_wraps h_l_seed h_l_wrapped, PySem.W.mg_of X G a25, k25, b_l_chained⟩
  have h_is_name : Has l.prog w K mg base "is_name" 1 ["value"] spIsName := ⟨_, _, ok_is_name F_is_name B_Bl, PySem.W.mg_of X G a27, k27, b_is_name⟩
  have h_is_program : Has l.prog w K mg base "is_program" 27 ["value"] (spIsPr 12) := has_pr F_is_command F_is_program B_Bl S h_is_integer h_is_name g_is_command g_is_program b_is_command b_is_program 13
  have h_check_program : Has l.prog w K mg base "check_program" 28 ["value"] spCheckPr := ⟨_, _, ok_check_program F_check_program h_is_program, PySem.W.mg_of X G a29, k29, b_check_program⟩
  have h_raw_size : Has l.prog w K mg base "raw_size" 13 ["program"] (spNumLt Prog.size 13) := has_size F_raw_size g_raw_size b_raw_size 13
  have hd_plain_row : HasD l.prog w K mg base "plain_row" 13 ["program", "sign"] (spUnLt 13) [.int 1] := ⟨_, _, _, ok_plain_row 12 F_plain_row (has_plain_row F_plain_row g_plain_row b_plain_row 12), g_plain_row, F_plain_row.kp, bdplain_row_1, vdplain_row_1⟩
  have h_raw_is_short : Has l.prog w K mg base "raw_is_short" 14 ["program"] spShort := ⟨_, _, ok_raw_is_short F_raw_is_short B_Bl B_BlA.b_abs gMC gMH h_raw_size hd_plain_row, PySem.W.mg_of X G a32, k32, b_raw_is_short⟩
  have h_raw_steps : Has l.prog w K mg base "raw_steps" 14 ["program"] spRawSteps := ⟨_, _, ok_raw_steps F_raw_steps B_Bl hd_plain_row, PySem.W.mg_of X G a33, k33, b_raw_steps⟩
  have h_add_step : Has l.prog w K mg base "add_step" 1 ["numbers", "step"] spAddStep := ⟨_, _, ok_add_step F_add_step SV, PySem.W.mg_of X G a34, k34, b_add_step⟩
  have hm_Poly___len__ : HasM l.prog w K mg base C "__len__" 1 ["self"] (spPLen C) := ⟨_, _, ok_Poly_len F_Poly___len__ B_Bl G_Poly, ⟨a35, i35, k35⟩, b_Poly___len__⟩
  have h_place_from : Has l.prog w K mg base "place_from" 5 ["numbers"] (spPlaceFrom C) := ⟨_, _, ok_place_from F_place_from B_Bl B_BlA.b_sorted G_Poly hc_Poly hm_Poly___len__, PySem.W.mg_of X G a36, k36, b_place_from⟩
  have h_raw_effect : Has l.prog w K mg base "raw_effect" 15 ["program"] (spRawEffect C) := ⟨_, _, ok_raw_effect F_raw_effect B_Bl h_raw_steps h_add_step h_place_from, PySem.W.mg_of X G a37, k37, b_raw_effect⟩
  have h_raw_heading : Has l.prog w K mg base "raw_heading" 13 ["program"] (spNumLt Prog.head 13) := has_head F_raw_heading g_raw_heading b_raw_heading 13
  have h_turn_sum : Has l.prog w K mg base "turn_sum" 1 ["commands"] spTurnSum := ⟨_, _, ok_turn_sum F_turn_sum B_Bl.b_sum, PySem.W.mg_of X G a39, k39, b_turn_sum⟩
  have hm_Poly_mirrored : HasM l.prog w K mg base C "mirrored" 5 ["self"] (spPoly1 C fun ts k => cof ts (-k)) := ⟨_, _, ok_Poly_mirrored F_Poly_mirrored B_Bl G_Poly hc_Poly, ⟨a40, i40, k40⟩, b_Poly_mirrored⟩
  have h_raw_chain : Has l.prog w K mg base "raw_chain" 28 ["program"] (spChain C 13) := has_raw_chain F_raw_chain B_Bl.b_len B_BlA.b_enumerate G_Poly h_raw_is_short h_raw_effect h_raw_heading h_turn_sum hm_Poly_mirrored g_raw_chain b_raw_chain 13
  have h_checked_chain : Has l.prog w K mg base "checked_chain" 29 ["program"] (spChecked C) := ⟨_, _, ok_checked_chain F_checked_chain h_raw_chain, PySem.W.mg_of X G a42, k42, b_checked_chain⟩
  have h_chain : Has l.prog w K mg base "chain" 30 ["program"] (spChainF C) := ⟨_, _, ok_chain F_chain h_check_program h_checked_chain, PySem.W.mg_of X G a43, k43, b_chain⟩
  have hk_chain : HasK l.prog w K mg base "chain" 30 ["program"] (spChainF C) := ⟨_, _, ok_chain F_chain h_check_program h_checked_chain, PySem.W.mg_of X G a43, k43, b_chain, kbinds (fun ws hl => match ws, hl with | [_], _ => rfl) (by simp)⟩
  have h_l_whole_number : Has l.prog w K mg base "_law_whole_number" 1 ["_law_value"] spWholeI := ⟨_, _, ok_l_whole_number F_l_whole_number B_Bl.b_isinstance B_Bl, PySem.W.mg_of X G a44, k44, b_l_whole_number⟩
  have hp_Poly_terms : HasP l.prog w K mg base C "terms" 1 ["self"] (spGetTerms C) := ⟨_, _, _, ok_Poly_terms F_Poly_terms B_Bl G_Poly, ⟨a45, gp45, tp45, _, i45⟩, b_Poly_terms⟩
  have h_l_place_rows : Has l.prog w K mg base "_law_place_rows" 3 ["_law_found"] (spPlaceRows C) := ⟨_, _, ok_l_place_rows F_l_place_rows B_Bl.b_isinstance B_Bl.b_len B_Bl G_Poly hp_Poly_terms, PySem.W.mg_of X G a46, k46, b_l_place_rows⟩
  have h_l_told_chain : Has l.prog w K mg base "_law_told_chain" 4 ["_law_found"] (spToldCh C) := ⟨_, _, ok_l_told_chain F_l_told_chain B_Bl.b_isinstance B_Bl.b_len B_Bl h_l_whole_number h_l_place_rows, PySem.W.mg_of X G a47, k47, b_l_told_chain⟩
  exact ok_law F_law B_Bl G_Poly hc_Poly h_l_pot h_l_take h_l_chained h_chain hk_chain h_l_told_chain
theorem hd_facts {l : PySem.W.OpenLaw} {w : World} {K : PySem.W.Frag} {h : Heap} {mg : Str → Option Value} {fa : Addr} (X : K.In h) (G : h.Ns mainGlobals mg) (hfa : mg "law" = some (.ref fa)) (c : hdObs K = hdVal w)
    : ∃ fd : FuncData, (∀ (s : Shared) (v : Value), BindsTo s fd ⟨[v], []⟩ [("_law_script", v)]) ∧ ∀ base : Heap, K.In base → base.Ns mainGlobals mg → FnOk l.prog w K mg base CX0 31 fa fd ["_law_script"] (spLaw K) := by
  have c1 := congrArg (fun z : HdA => z.1) c
  have c2 := congrArg (fun z : HdA => z.2.1) c
  have pt : hdt K = hdw w := congrArg (fun z : HdA => z.2.2) c
  have q0 : (hdc0 K).all id = true := list_at c1 (i := 0) rfl rfl
  have q1 : (hdc1 K).all id = true := list_at c1 (i := 1) rfl rfl
  have q2 : (hdc2 K).all id = true := list_at c1 (i := 2) rfl rfl
  have q3 : (hdc3 K).all id = true := list_at c1 (i := 3) rfl rfl
  have q4 : (hdc4 K).all id = true := list_at c1 (i := 4) rfl rfl
  have q5 : (hdc5 K).all id = true := list_at c1 (i := 5) rfl rfl
  have q6 : (hdc6 K).all id = true := list_at c1 (i := 6) rfl rfl
  have p0 : hdf0 K = hdv0 := list_at c2 (i := 0) rfl rfl
  have p1 : hdf1 K = hdv1 := list_at c2 (i := 1) rfl rfl
  clear c c1 c2
  have aC : PySem.W.nsIn K mainGlobals "Poly" = some (some (.ref (He.ga K "Poly"))) := He.eqO_ok (all_at q0 (i := 0) rfl)
  have pgP : PySem.W.plainGet K (He.ga K "Poly") Str.empty = true := (all_at q0 (i := 1) rfl)
  have hdP : PySem.W.hasDictIn K (He.ga K "Poly") = true := (all_at q0 (i := 2) rfl)
  have poP : PySem.W.plainOver K (He.ga K "Poly") = true := (all_at q0 (i := 3) rfl)
  have saP : PySem.W.findIn K (.ref (He.ga K "Poly")) "__setattr__" = some (some (.builtin "object.__setattr__")) := He.eqO_ok (all_at q0 (i := 4) rfl)
  have mk_Poly : PySem.W.makesIn K (He.ga K "Poly") = true := (all_at q0 (i := 5) rfl)
  have kc_Poly : PySem.W.keepIn K (.ref (He.ga K "Poly")) = true := (all_at q0 (i := 6) rfl)
  have nRP : PySem.W.findIn K (.ref (He.ga K "Poly")) "rows" = some none := He.eqO_ok (all_at q0 (i := 7) rfl)
  have sfP : PySem.W.selfFirst K (He.ga K "Poly") = true := (all_at q0 (i := 8) rfl)
  obtain ⟨cdP, icP, moP⟩ := clsC_ok (all_at q0 (i := 9) rfl)
  have caP : PySem.W.findIn K (.ref (He.ga K "Poly")) "__class__" = some (some (.builtin "object.__class__")) := He.eqO_ok (all_at q0 (i := 10) rfl)
  have cnP : PySem.W.specialIn K (.builtin "object.__class__") "__get__" = some (some (.builtin "getset_descriptor.__get__")) := He.eqO_ok (all_at q0 (i := 11) rfl)
  have ctP : PySem.W.takesIn K (.builtin "object.__class__") = some true := of_decide_eq_true (all_at q0 (i := 12) rfl)
  have cmP : PySem.W.mroIn K (He.ga K "Poly") (.type "object") = some true := of_decide_eq_true (all_at q0 (i := 13) rfl)
  have tyP : PySem.W.typeIn K (.ref (He.ga K "Poly")) = some (.type "type") := of_decide_eq_true (all_at q0 (i := 14) rfl)
  have s1P : PySem.W.subIn K (.type "int") (.ref (He.ga K "Poly")) = some false := of_decide_eq_true (all_at q0 (i := 15) rfl)
  have s2P : PySem.W.subIn K (.type "bool") (.ref (He.ga K "Poly")) = some false := of_decide_eq_true (all_at q0 (i := 16) rfl)
  have s3P : PySem.W.subIn K (.type "str") (.ref (He.ga K "Poly")) = some false := of_decide_eq_true (all_at q0 (i := 17) rfl)
  have s4P : PySem.W.subIn K (.type "list") (.ref (He.ga K "Poly")) = some false := of_decide_eq_true (all_at q0 (i := 18) rfl)
  have s5P : PySem.W.subIn K (.type "tuple") (.ref (He.ga K "Poly")) = some false := of_decide_eq_true (all_at q0 (i := 19) rfl)
  have s6P : PySem.W.subIn K (.type "NoneType") (.ref (He.ga K "Poly")) = some false := of_decide_eq_true (all_at q0 (i := 20) rfl)
  have t1P : PySem.W.subIn K (.ref (He.ga K "Poly")) (.type "int") = some false := of_decide_eq_true (all_at q0 (i := 21) rfl)
  have t2P : PySem.W.subIn K (.ref (He.ga K "Poly")) (.type "bool") = some false := of_decide_eq_true (all_at q0 (i := 22) rfl)
  have t3P : PySem.W.subIn K (.ref (He.ga K "Poly")) (.type "list") = some false := of_decide_eq_true (all_at q0 (i := 23) rfl)
  have t4P : PySem.W.subIn K (.ref (He.ga K "Poly")) (.type "tuple") = some false := of_decide_eq_true (all_at q0 (i := 24) rfl)
  have a1 : PySem.W.nsIn K mainGlobals "is_integer" = some (some (.ref (He.ga K "is_integer"))) := He.eqO_ok (all_at q0 (i := 25) rfl)
  have k1 : PySem.W.keepIn K (.ref (He.ga K "is_integer")) = true := (all_at q0 (i := 27) rfl)
  have E1 : ∃ fd : FuncData, Fun K "is_integer" "is_integer" s_is_integer (He.ga K "is_integer") fd := fun_at (list_at p0 (i := 0) rfl rfl) (all_at q0 (i := 26) rfl) k1
  have a2 : PySem.W.nsIn K mainGlobals "is_term" = some (some (.ref (He.ga K "is_term"))) := He.eqO_ok (all_at q0 (i := 28) rfl)
  have k2 : PySem.W.keepIn K (.ref (He.ga K "is_term")) = true := (all_at q1 (i := 0) rfl)
  have E2 : ∃ fd : FuncData, Fun K "is_term" "is_term" s_is_term (He.ga K "is_term") fd := fun_at (list_at p0 (i := 1) rfl rfl) (all_at q0 (i := 29) rfl) k2
  have a3 : PySem.W.nsIn K mainGlobals "summed" = some (some (.ref (He.ga K "summed"))) := He.eqO_ok (all_at q1 (i := 1) rfl)
  have k3 : PySem.W.keepIn K (.ref (He.ga K "summed")) = true := (all_at q1 (i := 3) rfl)
  have E3 : ∃ fd : FuncData, Fun K "summed" "summed" s_summed (He.ga K "summed") fd := fun_at (list_at p0 (i := 2) rfl rfl) (all_at q1 (i := 2) rfl) k3
  have a4 : PySem.W.findIn K (.ref (He.ga K "Poly")) "__init__" = some (some (.ref (He.ma K (He.ga K "Poly") "__init__"))) := He.eqO_ok (all_at q1 (i := 4) rfl)
  have i4 : PySem.W.isFn K (.ref (He.ma K (He.ga K "Poly") "__init__")) = true := (all_at q1 (i := 5) rfl)
  have k4 : PySem.W.keepIn K (.ref (He.ma K (He.ga K "Poly") "__init__")) = true := (all_at q1 (i := 7) rfl)
  have E4 : ∃ fd : FuncData, Fun K "__init__" "Poly.__init__" s_Poly___init__ (He.ma K (He.ga K "Poly") "__init__") fd := fun_at (list_at p0 (i := 3) rfl rfl) (all_at q1 (i := 6) rfl) k4
  have a5 : PySem.W.nsIn K mainGlobals "_law_pot" = some (some (.ref (He.ga K "_law_pot"))) := He.eqO_ok (all_at q1 (i := 8) rfl)
  have k5 : PySem.W.keepIn K (.ref (He.ga K "_law_pot")) = true := (all_at q1 (i := 10) rfl)
  have E5 : ∃ fd : FuncData, Fun K "_law_pot" "_law_pot" s_l_pot (He.ga K "_law_pot") fd := fun_at (list_at p0 (i := 4) rfl rfl) (all_at q1 (i := 9) rfl) k5
  have a6 : PySem.W.nsIn K mainGlobals "_law_take" = some (some (.ref (He.ga K "_law_take"))) := He.eqO_ok (all_at q1 (i := 11) rfl)
  have k6 : PySem.W.keepIn K (.ref (He.ga K "_law_take")) = true := (all_at q1 (i := 13) rfl)
  have E6 : ∃ fd : FuncData, Fun K "_law_take" "_law_take" s_l_take (He.ga K "_law_take") fd := fun_at (list_at p0 (i := 5) rfl rfl) (all_at q1 (i := 12) rfl) k6
  have a7 : PySem.W.nsIn K mainGlobals "_law_one_step" = some (some (.ref (He.ga K "_law_one_step"))) := He.eqO_ok (all_at q1 (i := 14) rfl)
  have k7 : PySem.W.keepIn K (.ref (He.ga K "_law_one_step")) = true := (all_at q1 (i := 16) rfl)
  have E7 : ∃ fd : FuncData, Fun K "_law_one_step" "_law_one_step" s_l_one_step (He.ga K "_law_one_step") fd := fun_at (list_at p0 (i := 6) rfl rfl) (all_at q1 (i := 15) rfl) k7
  have a8 : PySem.W.nsIn K mainGlobals "_law_bits" = some (some (.ref (He.ga K "_law_bits"))) := He.eqO_ok (all_at q1 (i := 17) rfl)
  have k8 : PySem.W.keepIn K (.ref (He.ga K "_law_bits")) = true := (all_at q1 (i := 19) rfl)
  have E8 : ∃ fd : FuncData, Fun K "_law_bits" "_law_bits" s_l_bits (He.ga K "_law_bits") fd := fun_at (list_at p0 (i := 7) rfl rfl) (all_at q1 (i := 18) rfl) k8
  have a9 : PySem.W.nsIn K mainGlobals "_law_ring_of" = some (some (.ref (He.ga K "_law_ring_of"))) := He.eqO_ok (all_at q1 (i := 20) rfl)
  have k9 : PySem.W.keepIn K (.ref (He.ga K "_law_ring_of")) = true := (all_at q1 (i := 22) rfl)
  have E9 : ∃ fd : FuncData, Fun K "_law_ring_of" "_law_ring_of" s_l_ring_of (He.ga K "_law_ring_of") fd := fun_at (list_at p0 (i := 8) rfl rfl) (all_at q1 (i := 21) rfl) k9
  have a10 : PySem.W.nsIn K mainGlobals "_law_small" = some (some (.ref (He.ga K "_law_small"))) := He.eqO_ok (all_at q1 (i := 23) rfl)
  have k10 : PySem.W.keepIn K (.ref (He.ga K "_law_small")) = true := (all_at q1 (i := 25) rfl)
  have E10 : ∃ fd : FuncData, Fun K "_law_small" "_law_small" s_l_small (He.ga K "_law_small") fd := fun_at (list_at p0 (i := 9) rfl rfl) (all_at q1 (i := 24) rfl) k10
  have a11 : PySem.W.nsIn K mainGlobals "_law_often" = some (some (.ref (He.ga K "_law_often"))) := He.eqO_ok (all_at q1 (i := 26) rfl)
  have k11 : PySem.W.keepIn K (.ref (He.ga K "_law_often")) = true := (all_at q1 (i := 28) rfl)
  have E11 : ∃ fd : FuncData, Fun K "_law_often" "_law_often" s_l_often (He.ga K "_law_often") fd := fun_at (list_at p0 (i := 10) rfl rfl) (all_at q1 (i := 27) rfl) k11
  have a12 : PySem.W.nsIn K mainGlobals "_law_turns" = some (some (.ref (He.ga K "_law_turns"))) := He.eqO_ok (all_at q1 (i := 29) rfl)
  have k12 : PySem.W.keepIn K (.ref (He.ga K "_law_turns")) = true := (all_at q2 (i := 1) rfl)
  have E12 : ∃ fd : FuncData, Fun K "_law_turns" "_law_turns" s_l_turns (He.ga K "_law_turns") fd := fun_at (list_at p0 (i := 11) rfl rfl) (all_at q2 (i := 0) rfl) k12
  have a13 : PySem.W.nsIn K mainGlobals "_law_wraps" = some (some (.ref (He.ga K "_law_wraps"))) := He.eqO_ok (all_at q2 (i := 2) rfl)
  have k13 : PySem.W.keepIn K (.ref (He.ga K "_law_wraps")) = true := (all_at q2 (i := 4) rfl)
  have E13 : ∃ fd : FuncData, Fun K "_law_wraps" "_law_wraps" s_l_wraps (He.ga K "_law_wraps") fd := fun_at (list_at p0 (i := 12) rfl rfl) (all_at q2 (i := 3) rfl) k13
  have a14 : PySem.W.nsIn K mainGlobals "_law_plain" = some (some (.ref (He.ga K "_law_plain"))) := He.eqO_ok (all_at q2 (i := 5) rfl)
  have k14 : PySem.W.keepIn K (.ref (He.ga K "_law_plain")) = true := (all_at q2 (i := 7) rfl)
  have E14 : ∃ fd : FuncData, Fun K "_law_plain" "_law_plain" s_l_plain (He.ga K "_law_plain") fd := fun_at (list_at p0 (i := 13) rfl rfl) (all_at q2 (i := 6) rfl) k14
  have a15 : PySem.W.nsIn K mainGlobals "_law_sign" = some (some (.ref (He.ga K "_law_sign"))) := He.eqO_ok (all_at q2 (i := 8) rfl)
  have k15 : PySem.W.keepIn K (.ref (He.ga K "_law_sign")) = true := (all_at q2 (i := 10) rfl)
  have E15 : ∃ fd : FuncData, Fun K "_law_sign" "_law_sign" s_l_sign (He.ga K "_law_sign") fd := fun_at (list_at p0 (i := 14) rfl rfl) (all_at q2 (i := 9) rfl) k15
  have a16 : PySem.W.nsIn K mainGlobals "_law_less" = some (some (.ref (He.ga K "_law_less"))) := He.eqO_ok (all_at q2 (i := 11) rfl)
  have k16 : PySem.W.keepIn K (.ref (He.ga K "_law_less")) = true := (all_at q2 (i := 13) rfl)
  have E16 : ∃ fd : FuncData, Fun K "_law_less" "_law_less" s_l_less (He.ga K "_law_less") fd := fun_at (list_at p0 (i := 15) rfl rfl) (all_at q2 (i := 12) rfl) k16
  have a17 : PySem.W.nsIn K mainGlobals "_law_last" = some (some (.ref (He.ga K "_law_last"))) := He.eqO_ok (all_at q2 (i := 14) rfl)
  have k17 : PySem.W.keepIn K (.ref (He.ga K "_law_last")) = true := (all_at q2 (i := 16) rfl)
  have E17 : ∃ fd : FuncData, Fun K "_law_last" "_law_last" s_l_last (He.ga K "_law_last") fd := fun_at (list_at p0 (i := 16) rfl rfl) (all_at q2 (i := 15) rfl) k17
  have a18 : PySem.W.nsIn K mainGlobals "_law_seed" = some (some (.ref (He.ga K "_law_seed"))) := He.eqO_ok (all_at q2 (i := 17) rfl)
  have k18 : PySem.W.keepIn K (.ref (He.ga K "_law_seed")) = true := (all_at q2 (i := 19) rfl)
  have E18 : ∃ fd : FuncData, Fun K "_law_seed" "_law_seed" s_l_seed (He.ga K "_law_seed") fd := fun_at (list_at p0 (i := 17) rfl rfl) (all_at q2 (i := 18) rfl) k18
  have a19 : PySem.W.nsIn K mainGlobals "_law_summed" = some (some (.ref (He.ga K "_law_summed"))) := He.eqO_ok (all_at q2 (i := 20) rfl)
  have k19 : PySem.W.keepIn K (.ref (He.ga K "_law_summed")) = true := (all_at q2 (i := 22) rfl)
  have E19 : ∃ fd : FuncData, Fun K "_law_summed" "_law_summed" s_l_summed (He.ga K "_law_summed") fd := fun_at (list_at p0 (i := 18) rfl rfl) (all_at q2 (i := 21) rfl) k19
  have a20 : PySem.W.nsIn K mainGlobals "_law_upside" = some (some (.ref (He.ga K "_law_upside"))) := He.eqO_ok (all_at q2 (i := 23) rfl)
  have k20 : PySem.W.keepIn K (.ref (He.ga K "_law_upside")) = true := (all_at q2 (i := 25) rfl)
  have E20 : ∃ fd : FuncData, Fun K "_law_upside" "_law_upside" s_l_upside (He.ga K "_law_upside") fd := fun_at (list_at p0 (i := 19) rfl rfl) (all_at q2 (i := 24) rfl) k20
  have a21 : PySem.W.nsIn K mainGlobals "_law_bulk" = some (some (.ref (He.ga K "_law_bulk"))) := He.eqO_ok (all_at q2 (i := 26) rfl)
  have k21 : PySem.W.keepIn K (.ref (He.ga K "_law_bulk")) = true := (all_at q2 (i := 28) rfl)
  have E21 : ∃ fd : FuncData, Fun K "_law_bulk" "_law_bulk" s_l_bulk (He.ga K "_law_bulk") fd := fun_at (list_at p0 (i := 20) rfl rfl) (all_at q2 (i := 27) rfl) k21
  have a22 : PySem.W.nsIn K mainGlobals "_law_fits" = some (some (.ref (He.ga K "_law_fits"))) := He.eqO_ok (all_at q2 (i := 29) rfl)
  have k22 : PySem.W.keepIn K (.ref (He.ga K "_law_fits")) = true := (all_at q3 (i := 1) rfl)
  have E22 : ∃ fd : FuncData, Fun K "_law_fits" "_law_fits" s_l_fits (He.ga K "_law_fits") fd := fun_at (list_at p0 (i := 21) rfl rfl) (all_at q3 (i := 0) rfl) k22
  have a23 : PySem.W.nsIn K mainGlobals "_law_round" = some (some (.ref (He.ga K "_law_round"))) := He.eqO_ok (all_at q3 (i := 2) rfl)
  have k23 : PySem.W.keepIn K (.ref (He.ga K "_law_round")) = true := (all_at q3 (i := 4) rfl)
  have E23 : ∃ fd : FuncData, Fun K "_law_round" "_law_round" s_l_round (He.ga K "_law_round") fd := fun_at (list_at p0 (i := 22) rfl rfl) (all_at q3 (i := 3) rfl) k23
  have a24 : PySem.W.nsIn K mainGlobals "_law_wrapped" = some (some (.ref (He.ga K "_law_wrapped"))) := He.eqO_ok (all_at q3 (i := 5) rfl)
  have k24 : PySem.W.keepIn K (.ref (He.ga K "_law_wrapped")) = true := (all_at q3 (i := 7) rfl)
  have E24 : ∃ fd : FuncData, Fun K "_law_wrapped" "_law_wrapped" s_l_wrapped (He.ga K "_law_wrapped") fd := fun_at (list_at p0 (i := 23) rfl rfl) (all_at q3 (i := 6) rfl) k24
  have a25 : PySem.W.nsIn K mainGlobals "_law_chained" = some (some (.ref (He.ga K "_law_chained"))) := He.eqO_ok (all_at q3 (i := 8) rfl)
  have k25 : PySem.W.keepIn K (.ref (He.ga K "_law_chained")) = true := (all_at q3 (i := 10) rfl)
  have E25 : ∃ fd : FuncData, Fun K "_law_chained" "_law_chained" s_l_chained (He.ga K "_law_chained") fd := fun_at (list_at p0 (i := 24) rfl rfl) (all_at q3 (i := 9) rfl) k25
  have a26 : PySem.W.nsIn K mainGlobals "is_command" = some (some (.ref (He.ga K "is_command"))) := He.eqO_ok (all_at q3 (i := 11) rfl)
  have k26 : PySem.W.keepIn K (.ref (He.ga K "is_command")) = true := (all_at q3 (i := 13) rfl)
  have E26 : ∃ fd : FuncData, Fun K "is_command" "is_command" s_is_command (He.ga K "is_command") fd := fun_at (list_at p0 (i := 25) rfl rfl) (all_at q3 (i := 12) rfl) k26
  have a27 : PySem.W.nsIn K mainGlobals "is_name" = some (some (.ref (He.ga K "is_name"))) := He.eqO_ok (all_at q3 (i := 14) rfl)
  have k27 : PySem.W.keepIn K (.ref (He.ga K "is_name")) = true := (all_at q3 (i := 16) rfl)
  have E27 : ∃ fd : FuncData, Fun K "is_name" "is_name" s_is_name (He.ga K "is_name") fd := fun_at (list_at p0 (i := 26) rfl rfl) (all_at q3 (i := 15) rfl) k27
  have a28 : PySem.W.nsIn K mainGlobals "is_program" = some (some (.ref (He.ga K "is_program"))) := He.eqO_ok (all_at q3 (i := 17) rfl)
  have k28 : PySem.W.keepIn K (.ref (He.ga K "is_program")) = true := (all_at q3 (i := 19) rfl)
  have E28 : ∃ fd : FuncData, Fun K "is_program" "is_program" s_is_program (He.ga K "is_program") fd := fun_at (list_at p0 (i := 27) rfl rfl) (all_at q3 (i := 18) rfl) k28
  have a29 : PySem.W.nsIn K mainGlobals "check_program" = some (some (.ref (He.ga K "check_program"))) := He.eqO_ok (all_at q3 (i := 20) rfl)
  have k29 : PySem.W.keepIn K (.ref (He.ga K "check_program")) = true := (all_at q3 (i := 22) rfl)
  have E29 : ∃ fd : FuncData, Fun K "check_program" "check_program" s_check_program (He.ga K "check_program") fd := fun_at (list_at p0 (i := 28) rfl rfl) (all_at q3 (i := 21) rfl) k29
  have a30 : PySem.W.nsIn K mainGlobals "raw_size" = some (some (.ref (He.ga K "raw_size"))) := He.eqO_ok (all_at q3 (i := 23) rfl)
  have k30 : PySem.W.keepIn K (.ref (He.ga K "raw_size")) = true := (all_at q3 (i := 25) rfl)
  have E30 : ∃ fd : FuncData, Fun K "raw_size" "raw_size" s_raw_size (He.ga K "raw_size") fd := fun_at (list_at p0 (i := 29) rfl rfl) (all_at q3 (i := 24) rfl) k30
  have a31 : PySem.W.nsIn K mainGlobals "plain_row" = some (some (.ref (He.ga K "plain_row"))) := He.eqO_ok (all_at q3 (i := 26) rfl)
  obtain ⟨oc31, od31, sl31, kV31, dc31, pm31, an31, cd31, ct31, l31, c31⟩ := fnE_ok (dV := (.ref (dtA K (He.ga K "plain_row")))) (list_at p1 (i := 0) rfl rfl : fnE K (He.ga K "plain_row") = (some ("plain_row", "plain_row", (defArgs s_plain_row), .stmts (defBody s_plain_row), (defScope s_plain_row), mainGlobals, [], builtinsNs) : He.FnW)) (all_at q3 (i := 27) rfl)
  have k31 : PySem.W.keepIn K (.ref (He.ga K "plain_row")) = true := (all_at q3 (i := 28) rfl)
  obtain ⟨dd31, dt31_0, dn31, ds31, d31⟩ := tupI_ok (all_at q3 (i := 29) rfl)
  have a32 : PySem.W.nsIn K mainGlobals "raw_is_short" = some (some (.ref (He.ga K "raw_is_short"))) := He.eqO_ok (all_at q4 (i := 0) rfl)
  have k32 : PySem.W.keepIn K (.ref (He.ga K "raw_is_short")) = true := (all_at q4 (i := 2) rfl)
  have E32 : ∃ fd : FuncData, Fun K "raw_is_short" "raw_is_short" s_raw_is_short (He.ga K "raw_is_short") fd := fun_at (list_at p1 (i := 1) rfl rfl) (all_at q4 (i := 1) rfl) k32
  have a33 : PySem.W.nsIn K mainGlobals "raw_steps" = some (some (.ref (He.ga K "raw_steps"))) := He.eqO_ok (all_at q4 (i := 3) rfl)
  have k33 : PySem.W.keepIn K (.ref (He.ga K "raw_steps")) = true := (all_at q4 (i := 5) rfl)
  have E33 : ∃ fd : FuncData, Fun K "raw_steps" "raw_steps" s_raw_steps (He.ga K "raw_steps") fd := fun_at (list_at p1 (i := 2) rfl rfl) (all_at q4 (i := 4) rfl) k33
  have a34 : PySem.W.nsIn K mainGlobals "add_step" = some (some (.ref (He.ga K "add_step"))) := He.eqO_ok (all_at q4 (i := 6) rfl)
  have k34 : PySem.W.keepIn K (.ref (He.ga K "add_step")) = true := (all_at q4 (i := 8) rfl)
  have E34 : ∃ fd : FuncData, Fun K "add_step" "add_step" s_add_step (He.ga K "add_step") fd := fun_at (list_at p1 (i := 3) rfl rfl) (all_at q4 (i := 7) rfl) k34
  have a35 : PySem.W.findIn K (.ref (He.ga K "Poly")) "__len__" = some (some (.ref (He.ma K (He.ga K "Poly") "__len__"))) := He.eqO_ok (all_at q4 (i := 9) rfl)
  have i35 : PySem.W.isFn K (.ref (He.ma K (He.ga K "Poly") "__len__")) = true := (all_at q4 (i := 10) rfl)
  have k35 : PySem.W.keepIn K (.ref (He.ma K (He.ga K "Poly") "__len__")) = true := (all_at q4 (i := 12) rfl)
  have E35 : ∃ fd : FuncData, Fun K "__len__" "Poly.__len__" s_Poly___len__ (He.ma K (He.ga K "Poly") "__len__") fd := fun_at (list_at p1 (i := 4) rfl rfl) (all_at q4 (i := 11) rfl) k35
  have a36 : PySem.W.nsIn K mainGlobals "place_from" = some (some (.ref (He.ga K "place_from"))) := He.eqO_ok (all_at q4 (i := 13) rfl)
  have k36 : PySem.W.keepIn K (.ref (He.ga K "place_from")) = true := (all_at q4 (i := 15) rfl)
  have E36 : ∃ fd : FuncData, Fun K "place_from" "place_from" s_place_from (He.ga K "place_from") fd := fun_at (list_at p1 (i := 5) rfl rfl) (all_at q4 (i := 14) rfl) k36
  have a37 : PySem.W.nsIn K mainGlobals "raw_effect" = some (some (.ref (He.ga K "raw_effect"))) := He.eqO_ok (all_at q4 (i := 16) rfl)
  have k37 : PySem.W.keepIn K (.ref (He.ga K "raw_effect")) = true := (all_at q4 (i := 18) rfl)
  have E37 : ∃ fd : FuncData, Fun K "raw_effect" "raw_effect" s_raw_effect (He.ga K "raw_effect") fd := fun_at (list_at p1 (i := 6) rfl rfl) (all_at q4 (i := 17) rfl) k37
  have a38 : PySem.W.nsIn K mainGlobals "raw_heading" = some (some (.ref (He.ga K "raw_heading"))) := He.eqO_ok (all_at q4 (i := 19) rfl)
  have k38 : PySem.W.keepIn K (.ref (He.ga K "raw_heading")) = true := (all_at q4 (i := 21) rfl)
  have E38 : ∃ fd : FuncData, Fun K "raw_heading" "raw_heading" s_raw_heading (He.ga K "raw_heading") fd := fun_at (list_at p1 (i := 7) rfl rfl) (all_at q4 (i := 20) rfl) k38
  have a39 : PySem.W.nsIn K mainGlobals "turn_sum" = some (some (.ref (He.ga K "turn_sum"))) := He.eqO_ok (all_at q4 (i := 22) rfl)
  have k39 : PySem.W.keepIn K (.ref (He.ga K "turn_sum")) = true := (all_at q4 (i := 24) rfl)
  have E39 : ∃ fd : FuncData, Fun K "turn_sum" "turn_sum" s_turn_sum (He.ga K "turn_sum") fd := fun_at (list_at p1 (i := 8) rfl rfl) (all_at q4 (i := 23) rfl) k39
  have a40 : PySem.W.findIn K (.ref (He.ga K "Poly")) "mirrored" = some (some (.ref (He.ma K (He.ga K "Poly") "mirrored"))) := He.eqO_ok (all_at q4 (i := 25) rfl)
  have i40 : PySem.W.isFn K (.ref (He.ma K (He.ga K "Poly") "mirrored")) = true := (all_at q4 (i := 26) rfl)
  have k40 : PySem.W.keepIn K (.ref (He.ma K (He.ga K "Poly") "mirrored")) = true := (all_at q4 (i := 28) rfl)
  have E40 : ∃ fd : FuncData, Fun K "mirrored" "Poly.mirrored" s_Poly_mirrored (He.ma K (He.ga K "Poly") "mirrored") fd := fun_at (list_at p1 (i := 9) rfl rfl) (all_at q4 (i := 27) rfl) k40
  have a41 : PySem.W.nsIn K mainGlobals "raw_chain" = some (some (.ref (He.ga K "raw_chain"))) := He.eqO_ok (all_at q4 (i := 29) rfl)
  have k41 : PySem.W.keepIn K (.ref (He.ga K "raw_chain")) = true := (all_at q5 (i := 1) rfl)
  have E41 : ∃ fd : FuncData, Fun K "raw_chain" "raw_chain" s_raw_chain (He.ga K "raw_chain") fd := fun_at (list_at p1 (i := 10) rfl rfl) (all_at q5 (i := 0) rfl) k41
  have a42 : PySem.W.nsIn K mainGlobals "checked_chain" = some (some (.ref (He.ga K "checked_chain"))) := He.eqO_ok (all_at q5 (i := 2) rfl)
  have k42 : PySem.W.keepIn K (.ref (He.ga K "checked_chain")) = true := (all_at q5 (i := 4) rfl)
  have E42 : ∃ fd : FuncData, Fun K "checked_chain" "checked_chain" s_checked_chain (He.ga K "checked_chain") fd := fun_at (list_at p1 (i := 11) rfl rfl) (all_at q5 (i := 3) rfl) k42
  have a43 : PySem.W.nsIn K mainGlobals "chain" = some (some (.ref (He.ga K "chain"))) := He.eqO_ok (all_at q5 (i := 5) rfl)
  obtain ⟨oc43, od43, sl43, kV43, dc43, pm43, an43, cd43, ct43, l43, c43⟩ := fnE_ok (dV := .none) (list_at p1 (i := 12) rfl rfl : fnE K (He.ga K "chain") = (some ("chain", "chain", (defArgs s_chain), .stmts (defBody s_chain), (defScope s_chain), mainGlobals, [], builtinsNs) : He.FnW)) (all_at q5 (i := 6) rfl)
  have k43 : PySem.W.keepIn K (.ref (He.ga K "chain")) = true := (all_at q5 (i := 7) rfl)
  have a44 : PySem.W.nsIn K mainGlobals "_law_whole_number" = some (some (.ref (He.ga K "_law_whole_number"))) := He.eqO_ok (all_at q5 (i := 8) rfl)
  have k44 : PySem.W.keepIn K (.ref (He.ga K "_law_whole_number")) = true := (all_at q5 (i := 10) rfl)
  have E44 : ∃ fd : FuncData, Fun K "_law_whole_number" "_law_whole_number" s_l_whole_number (He.ga K "_law_whole_number") fd := fun_at (list_at p1 (i := 13) rfl rfl) (all_at q5 (i := 9) rfl) k44
  have a45 : PySem.W.findIn K (.ref (He.ga K "Poly")) "terms" = some (some (.ref (He.ma K (He.ga K "Poly") "terms"))) := He.eqO_ok (all_at q5 (i := 11) rfl)
  have gp45 : PySem.W.specialIn K (.ref (He.ma K (He.ga K "Poly") "terms")) "__get__" = some (some (.builtin "property.__get__")) := He.eqO_ok (all_at q5 (i := 12) rfl)
  have tp45 : PySem.W.takesIn K (.ref (He.ma K (He.ga K "Poly") "terms")) = some true := of_decide_eq_true (all_at q5 (i := 13) rfl)
  have i45 : PySem.W.recIn K (He.ma K (He.ga K "Poly") "terms") "property" = some (.ref (prF K (He.ma K (He.ga K "Poly") "terms")) :: (prR K (He.ma K (He.ga K "Poly") "terms"))) := prC_ok (all_at q5 (i := 14) rfl)
  have k45 : PySem.W.keepIn K (.ref (prF K (He.ma K (He.ga K "Poly") "terms"))) = true := (all_at q5 (i := 16) rfl)
  have E45 : ∃ fd : FuncData, Fun K "terms" "Poly.terms" s_Poly_terms (prF K (He.ma K (He.ga K "Poly") "terms")) fd := fun_at (list_at p1 (i := 14) rfl rfl) (all_at q5 (i := 15) rfl) k45
  have a46 : PySem.W.nsIn K mainGlobals "_law_place_rows" = some (some (.ref (He.ga K "_law_place_rows"))) := He.eqO_ok (all_at q5 (i := 17) rfl)
  have k46 : PySem.W.keepIn K (.ref (He.ga K "_law_place_rows")) = true := (all_at q5 (i := 19) rfl)
  have E46 : ∃ fd : FuncData, Fun K "_law_place_rows" "_law_place_rows" s_l_place_rows (He.ga K "_law_place_rows") fd := fun_at (list_at p1 (i := 15) rfl rfl) (all_at q5 (i := 18) rfl) k46
  have a47 : PySem.W.nsIn K mainGlobals "_law_told_chain" = some (some (.ref (He.ga K "_law_told_chain"))) := He.eqO_ok (all_at q5 (i := 20) rfl)
  have k47 : PySem.W.keepIn K (.ref (He.ga K "_law_told_chain")) = true := (all_at q5 (i := 22) rfl)
  have E47 : ∃ fd : FuncData, Fun K "_law_told_chain" "_law_told_chain" s_l_told_chain (He.ga K "_law_told_chain") fd := fun_at (list_at p1 (i := 16) rfl rfl) (all_at q5 (i := 21) rfl) k47
  have a48 : PySem.W.nsIn K mainGlobals "law" = some (some (.ref (He.ga K "law"))) := He.eqO_ok (all_at q5 (i := 23) rfl)
  obtain ⟨oc48, od48, sl48, kV48, dc48, pm48, an48, cd48, ct48, l48, c48⟩ := fnE_ok (dV := .none) (list_at p1 (i := 17) rfl rfl : fnE K (He.ga K "law") = (some ("law", "law", (defArgs s_law), .stmts (defBody s_law), (defScope s_law), mainGlobals, [], builtinsNs) : He.FnW)) (all_at q5 (i := 24) rfl)
  have k48 : PySem.W.keepIn K (.ref (He.ga K "law")) = true := (all_at q5 (i := 25) rfl)
  have z_abs : PySem.W.nsIn K mainGlobals "abs" = some none := He.eqO_ok (all_at q5 (i := 26) rfl)
  have z_all : PySem.W.nsIn K mainGlobals "all" = some none := He.eqO_ok (all_at q5 (i := 27) rfl)
  have z_bool : PySem.W.nsIn K mainGlobals "bool" = some none := He.eqO_ok (all_at q5 (i := 28) rfl)
  have z_enumerate : PySem.W.nsIn K mainGlobals "enumerate" = some none := He.eqO_ok (all_at q5 (i := 29) rfl)
  have z_int : PySem.W.nsIn K mainGlobals "int" = some none := He.eqO_ok (all_at q6 (i := 0) rfl)
  have z_isinstance : PySem.W.nsIn K mainGlobals "isinstance" = some none := He.eqO_ok (all_at q6 (i := 1) rfl)
  have z_len : PySem.W.nsIn K mainGlobals "len" = some none := He.eqO_ok (all_at q6 (i := 2) rfl)
  have z_list : PySem.W.nsIn K mainGlobals "list" = some none := He.eqO_ok (all_at q6 (i := 3) rfl)
  have z_max : PySem.W.nsIn K mainGlobals "max" = some none := He.eqO_ok (all_at q6 (i := 4) rfl)
  have z_min : PySem.W.nsIn K mainGlobals "min" = some none := He.eqO_ok (all_at q6 (i := 5) rfl)
  have z_range : PySem.W.nsIn K mainGlobals "range" = some none := He.eqO_ok (all_at q6 (i := 6) rfl)
  have z_sorted : PySem.W.nsIn K mainGlobals "sorted" = some none := He.eqO_ok (all_at q6 (i := 7) rfl)
  have z_str : PySem.W.nsIn K mainGlobals "str" = some none := He.eqO_ok (all_at q6 (i := 8) rfl)
  have z_sum : PySem.W.nsIn K mainGlobals "sum" = some none := He.eqO_ok (all_at q6 (i := 9) rfl)
  have z_tuple : PySem.W.nsIn K mainGlobals "tuple" = some none := He.eqO_ok (all_at q6 (i := 10) rfl)
  have aS : PySem.W.nsIn K mainGlobals "STEPS" = some (some (.ref (He.ga K "STEPS"))) := He.eqO_ok (all_at q6 (i := 11) rfl)
  obtain ⟨esS, nS, ⟨lS, kS, oS⟩⟩ := He.dicW_ok (list_at pt (i := 0) rfl rfl : He.dicW K (He.ga K "STEPS") = some (He.keysIn w.params ["go", "hop", "back", "slip"]))
  obtain ⟨t1S, e1S⟩ := intC_ok (all_at q6 (i := 12) rfl)
  obtain ⟨t2S, e2S⟩ := intC_ok (all_at q6 (i := 13) rfl)
  obtain ⟨t3S, e3S⟩ := intC_ok (all_at q6 (i := 14) rfl)
  obtain ⟨t4S, e4S⟩ := intC_ok (all_at q6 (i := 15) rfl)
  obtain ⟨tMC, mMC⟩ := intC_ok (all_at q6 (i := 16) rfl)
  obtain ⟨tMH, mMH⟩ := intC_ok (all_at q6 (i := 17) rfl)
  exact all_mk X G hfa aC pgP hdP poP saP mk_Poly kc_Poly nRP sfP icP moP caP cnP ctP cmP tyP s1P s2P s3P s4P s5P s6P t1P t2P t3P t4P a1 k1 E1 a2 k2 E2 a3 k3 E3 a4 i4 k4 E4 a5 k5 E5 a6 k6 E6 a7 k7 E7 a8 k8 E8 a9 k9 E9 a10 k10 E10 a11 k11 E11 a12 k12 E12 a13 k13 E13 a14 k14 E14 a15 k15 E15 a16 k16 E16 a17 k17 E17 a18 k18 E18 a19 k19 E19 a20 k20 E20 a21 k21 E21 a22 k22 E22 a23 k23 E23 a24 k24 E24 a25 k25 E25 a26 k26 E26 a27 k27 E27 a28 k28 E28 a29 k29 E29 a30 k30 E30 a31 l31 c31 k31 d31 a32 k32 E32 a33 k33 E33 a34 k34 E34 a35 i35 k35 E35 a36 k36 E36 a37 k37 E37 a38 k38 E38 a39 k39 E39 a40 i40 k40 E40 a41 k41 E41 a42 k42 E42 a43 l43 c43 k43 a44 k44 E44 a45 gp45 tp45 i45 k45 E45 a46 k46 E46 a47 k47 E47 a48 l48 c48 k48 z_abs z_all z_bool z_enumerate z_int z_isinstance z_len z_list z_max z_min z_range z_sorted z_str z_sum z_tuple aS lS kS oS e1S e2S e3S e4S mMC mMH
end
end My
open PySem PySem.W PyProof.Rows
set_option maxRecDepth 100000 in
theorem PySem.Challenge.cw_everyangle_k59_chains_holds : PySem.Challenge.rw_everyangle_k59_chains.Holds := by
  exact My.hd_law fun w K h mg fa KX G hfa c => My.hd_facts (l := PySem.Challenge.rw_everyangle_k59_chains) KX G hfa c
