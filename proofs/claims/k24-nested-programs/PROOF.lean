import PyProof.Rows.All
import Wide.All
import OpenK.AllK
import Wide.FinOn
import HandS.ForMost
import HandS.Wide
import HandS.WideMore
import HandS.Flow
import HandS.IsInst
import HandS.Text
import HandS.More
import HandS.Defaults
import HandS.TupAny
import PyProof.StrOps2
import PySem.Challenge.RW_everyangle_k24_nested_programs
set_option Elab.async false
set_option linter.all false
set_option maxRecDepth 100000
namespace My
open PySem PySem.Spec PyProof.Rows L2

/-! ### a def of the text, by its name -/
structure Has (P : Program) (w : World) (K : PySem.W.Frag) (mg : Str → Option Value) (base : Heap) (x : Str) (k : Nat) (ps : List Str) (sp : Sp) : Prop where
  ex : ∃ f fd, FnOk P w K mg base CX0 k f fd ps sp ∧ mg x = some (.ref f) ∧ PySem.W.keepIn K (.ref f) = true ∧ Binds K fd ps []
theorem Has.mono {P : Program} {w : World} {K : PySem.W.Frag} {mg : Str → Option Value} {base : Heap} {x : Str} {j k : Nat} {ps : List Str} {sp : Sp} (h : Has P w K mg base x j ps sp) (hk : j ≤ k) : Has P w K mg base x k ps sp := by
  obtain ⟨f, fd, F, a, b, c⟩ := h.ex
  exact ⟨f, fd, F.mono hk, a, b, c⟩
section
variable {X : Cx} {k : Nat} {ps : List Str} {sp : Sp} {x : Str} {p pos : Pos} {e : Expr} {es : List Expr} {t : TA}
theorem pe_callH (h : Has X.prog X.w X.K X.mg X.base x k ps sp) (hr : Room k X.A) (ha : PA X (e :: es) t) (hg : Gl X x := by rfl) (hdb : (x == ("__debug__" : Str)) = false := by decide)
   (hs : starEach (e :: es) X.env = (false, eval e X.env) :: starEach es X.env := by rfl) (hplain : (backTo pos (starEach es X.env)).any (·.1) = false := by rfl) :
   PE X (.Call (.Name x p) (e :: es) [] pos) (tCall sp [] E0 t) := by
  obtain ⟨f, fd, F, a, b, c⟩ := h.ex
  exact pe_call F hr hg a b c .nil pass0 ha hdb hs hplain
theorem pe_callH0 (h : Has X.prog X.w X.K X.mg X.base x k ps sp) (hr : Room k X.A) (hg : Gl X x := by rfl) (hdb : (x == ("__debug__" : Str)) = false := by decide) :
   PE X (.Call (.Name x p) [] [] pos) (tCall sp [] E0 tNil) := by
  obtain ⟨f, fd, F, a, b, c⟩ := h.ex
  exact pe_call0 F hr hg a b c .nil pass0 hdb
end
/-- xs[i] read by values, for o[i] op= e -/
theorem pg_list {X : Cx} : PGet X (rIxL X.K) := by
  intro pins s σ H x y v u Q I rx ry h
  obtain ⟨p, xs, i, z, rfl, rfl, hq, he, q⟩ := h
  cases rx
  obtain ⟨t, rfl⟩ := ry
  obtain ⟨its, r, pl, hz⟩ := I.list hq
  obtain ⟨j, h1, h2, h3, h4, h5⟩ := atI_get he
  obtain ⟨w, ew, rw'⟩ := r.get h2
  have hl := r.length
  have hn := line63
  have fin : EP X pins σ Q w s := ⟨z, H, I, rw', q⟩
  by_cases h0 : 0 ≤ i
  · have hj : i.toNat = j := by
      rw [seqIndex_of h0 h5] at h1
      exact Option.some.inj h1
    exact wpAny_getItem_list pl.isList h0 (by omega) (by rw [hj]; simpa using ew) fin
  · have hj : (i + (its.toArray.size : Int)).toNat = j := by
      rw [seqIndex_neg (by omega) h4] at h1
      rw [List.size_toArray, ← hl]
      exact Option.some.inj h1
    exact wpAny_getItem_list_neg pl.isList (by omega) (by rw [List.size_toArray] <;> omega) (by omega) (by rw [hj]; simpa using ew) fin
/-- int(n) of an int, of a truth -/
theorem call_intI {X : Cx} : CallR X (.type "int") (fun xs H Q => ∃ i, xs = [.int i] ∧ Q (.int i) H) := fun pins s σ H xs us Q I r h => call_int1 pins s σ H xs us Q I r (.inl h)
theorem call_intB {X : Cx} : CallR X (.type "int") (fun xs H Q => ∃ k, xs = [.bl k] ∧ Q (.int (if k then 1 else 0)) H) := fun pins s σ H xs us Q I r h => call_int1 pins s σ H xs us Q I r (.inr h)

/-! ### readings, one step at a time -/
section
variable {σ : L2.St} {H : Hp} {Q : VK} {i j : Nat} {v x y : V} {ta tb tc te ti to : TE} {K : PySem.W.Frag}
theorem r_var (e : σ[i]? = some (some v)) (q : Q v H) : tVar i σ H Q := ⟨v, e, q⟩
theorem r_c (q : Q v H) : tC v σ H Q := q
theorem r_op {r : R2} (q : ta σ H fun x H1 => tb σ H1 fun y H2 => r x y H2 Q) : tOp r ta tb σ H Q := q
theorem r_un {r : V → Hp → VK → Prop} (q : ta σ H fun x H1 => r x H1 Q) : tUn r ta σ H Q := q
theorem r_rI {C : Int → Int → Prop} {g : Int → Int → V} {a b : Int} (c : C a b) (q : Q (g a b) H) : rI C g (.int a) (.int b) H Q := ⟨a, b, rfl, rfl, c, q⟩
theorem r_rI0 {g : Int → Int → V} {a b : Int} (q : Q (g a b) H) : rI0 g (.int a) (.int b) H Q := ⟨a, b, rfl, rfl, q⟩
theorem r_rU {g : Int → V} {a : Int} (q : Q (g a) H) : rU g (.int a) H Q := ⟨a, rfl, q⟩
theorem r_eq (s : scal x y = true) (q : Q (.bl (decide (x = y))) H) : rEq x y H Q := ⟨s, q⟩
theorem r_ne (s : scal x y = true) (q : Q (.bl (!decide (x = y))) H) : rNe x y H Q := ⟨s, q⟩
theorem dec_int {a b : Int} : decide (V.int a = V.int b) = decide (a = b) := by
  by_cases h : a = b
  · rw [h]; simp
  · rw [decide_eq_false h, decide_eq_false (fun e => h (V.int.inj e))]
theorem dec_bl {a b : Bool} : decide (V.bl a = V.bl b) = decide (a = b) := by
  by_cases h : a = b
  · rw [h]; simp
  · rw [decide_eq_false h, decide_eq_false (fun e => h (V.bl.inj e))]
theorem dec_str {a b : Str} : decide (V.str a = V.str b) = decide (a = b) := by
  by_cases h : a = b
  · rw [h]; simp
  · rw [decide_eq_false h, decide_eq_false (fun e => h (V.str.inj e))]
theorem r_eqI {a b : Int} (q : Q (.bl (decide (a = b))) H) : rEq (.int a) (.int b) H Q := ⟨rfl, by rw [dec_int]; exact q⟩
theorem r_neI {a b : Int} (q : Q (.bl (!decide (a = b))) H) : rNe (.int a) (.int b) H Q := ⟨rfl, by rw [dec_int]; exact q⟩
theorem r_eqB {a b : Bool} (q : Q (.bl (decide (a = b))) H) : rEq (.bl a) (.bl b) H Q := ⟨rfl, by rw [dec_bl]; exact q⟩
theorem r_neB {a b : Bool} (q : Q (.bl (!decide (a = b))) H) : rNe (.bl a) (.bl b) H Q := ⟨rfl, by rw [dec_bl]; exact q⟩
theorem r_eqS {a b : Str} (q : Q (.bl (decide (a = b))) H) : rEq (.str a) (.str b) H Q := ⟨rfl, by rw [dec_str]; exact q⟩
theorem r_neS {a b : Str} (q : Q (.bl (!decide (a = b))) H) : rNe (.str a) (.str b) H Q := ⟨rfl, by rw [dec_str]; exact q⟩
theorem r_ixL {p : Addr} {xs : List V} {n : Int} (h : SqL K H p xs) (e : atI xs n = some v) (q : Q v H) : rIxL K (.ref p) (.int n) H Q := ⟨p, xs, n, v, rfl, rfl, h, e, q⟩
theorem r_ixT {p : Addr} {xs : List V} {n : Int} (h : SqT K H p xs) (e : atI xs n = some v) (q : Q v H) : rIxT K (.ref p) (.int n) H Q := ⟨p, xs, n, v, rfl, rfl, h, e, q⟩
theorem r_cb {r : List V → Hp → VK → Prop} {t : TA} (q : t σ H fun vs H1 => r vs H1 Q) : tCB r t σ H Q := q
theorem r_call {sp : Sp} {E : XK} {t : TA} (q : t σ H fun vs H1 => sp vs H1 Q E) : tCall sp [] E t σ H Q := by
  unfold tCall
  simpa only [List.append_nil] using q
theorem r_cons {t : TA} {R : List V → Hp → Prop} (q : te σ H fun x H1 => t σ H1 fun xs H2 => R (x :: xs) H2) : tCons te t σ H R := q
theorem r_nil {R : List V → Hp → Prop} (q : R [] H) : tNil σ H R := q
theorem r_lst {t : TA} (q : t σ H fun xs H1 => xs.length ≤ sizeLine ∧ ∀ p, H1 p = none → Q (.ref p) (upd H1 p (.lst xs))) : tLst t σ H Q := q
theorem r_tup {t : TA} (q : t σ H fun xs H1 => xs.length ≤ sizeLine ∧ ∀ p, H1 p = none → Q (.ref p) (upd H1 p (.tup xs))) : tTup t σ H Q := q
theorem small_of {n : Nat} (h : n ≤ 100000) : n ≤ sizeLine := Nat.le_trans h (by decide)
theorem r_new {A : Prop} {n : Nat} (h : n ≤ 100000) (q : A) : n ≤ sizeLine ∧ A := ⟨small_of h, q⟩
theorem r_exbl {b : Bool} {R : Bool → Prop} (q : R b) : ∃ k, V.bl b = V.bl k ∧ R k := ⟨b, rfl, q⟩
theorem r_exint {n : Int} {R : Int → Prop} (q : R n) : ∃ k, [V.int n] = [V.int k] ∧ R k := ⟨n, rfl, q⟩
theorem r_exint2 {n m : Int} {R : Int → Int → Prop} (q : R n m) : ∃ k l, [V.int n, V.int m] = [V.int k, V.int l] ∧ R k l := ⟨n, m, rfl, q⟩
theorem r_exblL {b : Bool} {R : Bool → Prop} (q : R b) : ∃ k, [V.bl b] = [V.bl k] ∧ R k := ⟨b, rfl, q⟩
theorem r_test {t : TE} {R : Bool → Hp → Prop} (q : t σ H fun x H' => ∃ k, x = .bl k ∧ R k H') : tTest t σ H R := q
theorem r_tB {t : TE} {R : Bool → Hp → Prop} (q : t σ H fun x H' => ∃ k, x = .bl k ∧ R k H') : tB t σ H R := q
theorem r_not {t : TT} {R : Bool → Hp → Prop} (q : t σ H fun c H1 => R (!c) H1) : tNot t σ H R := q
theorem r_and {t u : TT} {R : Bool → Hp → Prop} (q : t σ H fun c H1 => if c = true then u σ H1 R else R false H1) : tAnd t u σ H R := q
theorem r_or {t u : TT} {R : Bool → Hp → Prop} (q : t σ H fun c H1 => if c = true then R true H1 else u σ H1 R) : tOr t u σ H R := q
theorem r_andV (q : ta σ H fun x H1 => ∃ c, x = .bl c ∧ if c = true then tb σ H1 Q else Q (.bl false) H1) : tAndV ta tb σ H Q := q
theorem r_orV (q : ta σ H fun x H1 => ∃ c, x = .bl c ∧ if c = true then Q (.bl true) H1 else tb σ H1 Q) : tOrV ta tb σ H Q := q
theorem r_notV (q : ta σ H fun x H1 => ∃ c, x = .bl c ∧ Q (.bl (!c)) H1) : tNotV ta σ H Q := q
theorem r_tif {t : TT} (q : t σ H fun c H1 => if c = true then ta σ H1 Q else tb σ H1 Q) : tIf t ta tb σ H Q := q
theorem r_iteT {A B : Prop} (q : A) : if true = true then A else B := by rw [if_pos rfl]; exact q
theorem r_iteF {A B : Prop} (q : B) : if false = true then A else B := by rw [if_neg Bool.false_ne_true]; exact q
theorem r_ite {b : Bool} {A B : Prop} (q : b = true → A) (q' : b = false → B) : if b = true then A else B := by
  cases b with
  | true => rw [if_pos rfl]; exact q rfl
  | false => rw [if_neg Bool.false_ne_true]; exact q' rfl
theorem r_iteD {c A B : Prop} [Decidable c] (q : c → A) (q' : ¬ c → B) : if decide c = true then A else B := by
  by_cases h : c
  · rw [if_pos (decide_eq_true h)]; exact q h
  · rw [if_neg (by simpa using h)]; exact q' h
theorem r_iteN {c A B : Prop} [Decidable c] (q : ¬ c → A) (q' : c → B) : if (!decide c) = true then A else B := by
  by_cases h : c
  · rw [if_neg (by simpa using h)]; exact q' h
  · rw [if_pos (by simpa using h)]; exact q h
theorem r_iteNT {A B : Prop} (q : B) : if (!true) = true then A else B := r_iteF q
theorem r_iteNF {A B : Prop} (q : A) : if (!false) = true then A else B := r_iteT q
theorem r_iteDT {c A B : Prop} [Decidable c] (h : c) (q : A) : if decide c = true then A else B := by rw [if_pos (decide_eq_true h)]; exact q
theorem r_iteDF {c A B : Prop} [Decidable c] (h : ¬ c) (q : B) : if decide c = true then A else B := by rw [if_neg (by simpa using h)]; exact q
theorem r_iteNDT {c A B : Prop} [Decidable c] (h : ¬ c) (q : A) : if (!decide c) = true then A else B := by rw [if_pos (by simpa using h)]; exact q
theorem r_iteNDF {c A B : Prop} [Decidable c] (h : c) (q : B) : if (!decide c) = true then A else B := by rw [if_neg (by simpa using h)]; exact q
theorem atI2_0 {x y : V} : atI [x, y] 0 = some x := rfl
theorem atI2_1 {x y : V} : atI [x, y] 1 = some y := rfl
/-- a statement, then the rest, with a word between them -/
def tCutM (t u : TS) : TS := fun D σ H => ∃ Mid : L2.St → Hp → Prop, t { D with nx := Mid } σ H ∧ ∀ σ' H', Mid σ' H' → u D σ' H'
theorem pss_cutM {X : Cx} {st : Stmt} {rest : List Stmt} {t u : TS} (h1 : PS X st t) (h2 : PSs X rest u) : PSs X (st :: rest) (tCutM t u) := by
  refine ⟨fun pins s σ H D I h => ?_⟩
  obtain ⟨Mid, hm, hu⟩ := h
  refine wpAny_execs_cons (thn (h1.run pins s σ H { D with nx := Mid } I hm) fun f s1 q => ?_)
  cases f with
  | next =>
    obtain ⟨σ', H', I', q⟩ := q
    exact h2.run pins s1 σ' H' D I' (hu σ' H' q)
  | ret v => exact q
  | brk => exact q
  | cont => exact q
variable {D : Ends} {t u : TS} {g : TG} {c : TT}
theorem r_cut (Mid : L2.St → Hp → Prop) (h : t { D with nx := Mid } σ H) (q : ∀ σ' H', Mid σ' H' → u D σ' H') : tCutM t u D σ H := ⟨Mid, h, q⟩
theorem r_seq (q : t { D with nx := u D } σ H) : tSeq t u D σ H := q
theorem r_next (q : D.nx σ H) : tNext D σ H := q
theorem r_brk (q : D.bk σ H) : tBreak D σ H := q
theorem r_cont (q : D.ct σ H) : tCont D σ H := q
theorem r_asg (q : te σ H fun x H1 => g x σ H1 D.nx) : tAsg te g D σ H := q
theorem r_gname {R : L2.St → Hp → Prop} (q : R (σ.set i (some v)) H) : gName i v σ H R := q
theorem r_ret (q : te σ H D.rt) : tRet te D σ H := q
theorem r_retN (q : D.rt .non H) : tRetN D σ H := q
theorem r_drop (q : te σ H fun _ H1 => D.nx σ H1) : tDrop te D σ H := q
theorem r_if (q : c σ H fun b H1 => if b = true then t D σ H1 else u D σ H1) : tIfS c t u D σ H := q
theorem r_aug {ip : TIp} (e : σ[i]? = some (some x)) (q : te σ H fun y H1 => ip x y H1 fun z H2 => D.nx (σ.set i (some z)) H2) : tAug i te ip D σ H := ⟨x, e, q⟩
theorem r_ipI {f : Int → Int → Int} {a b : Int} (q : Q (.int (f a b)) H) : ipI f (.int a) (.int b) H Q := ⟨a, b, rfl, rfl, q⟩
theorem r_augS {gt : V → V → Hp → VK → Prop} {ip : TIp} {st : TSet} (q : to σ H fun o H1 => ti σ H1 fun i H2 => gt o i H2 fun x H3 => te σ H3 fun y H4 => ip x y H4 fun z H5 => st o i z H5 fun H6 => D.nx σ H6) : tAugS to ti te gt ip st D σ H := q
theorem r_gsub {st : TSet} {R : L2.St → Hp → Prop} (q : to σ H fun o H1 => ti σ H1 fun i H2 => st o i v H2 fun H3 => R σ H3) : gSub to ti st v σ H R := q
theorem r_setL {p : Addr} {xs : List V} {n : Int} {m : Nat} {R : Hp → Prop} (h : H p = some (.lst xs)) (e : ixN xs.length n = some m) (q : R (upd H p (.lst (xs.set m v)))) : rSetL (.ref p) (.int n) v H R := ⟨p, xs, n, m, rfl, rfl, h, e, q⟩
theorem r_par {i j : Nat} {tas : TA} (q : tas σ H fun vs H1 => ∃ v w, vs = [v, w] ∧ D.nx ((σ.set i (some v)).set j (some w)) H1) : tPar i j tas D σ H := q
theorem r_ex2 {v w : V} {R : V → V → Prop} (q : R v w) : ∃ a b, [v, w] = [a, b] ∧ R a b := ⟨v, w, rfl, q⟩
theorem r_bm {T : String} {r : V → List V → Hp → VK → Prop} {tas : TA} (q : to σ H fun x H1 => tyV K T x H1 ∧ tas σ H1 fun xs H2 => r x xs H2 Q) : tBM K T r to tas σ H Q := q
theorem r_tyL {p : Addr} {xs : List V} {A : Prop} (h : H p = some (.lst xs)) (q : A) : tyV K "list" (.ref p) H ∧ A := ⟨.inl ⟨rfl, _, .inl (.inl h)⟩, q⟩
theorem r_append {p : Addr} {xs : List V} (h : H p = some (.lst xs)) (hl : xs.length < 100000) (q : Q .non (upd H p (.lst (xs ++ [v])))) : rAppend (.ref p) [v] H Q := ⟨p, xs, v, rfl, rfl, h, Nat.lt_of_lt_of_le hl (by decide), q⟩
end

/-- f(k = v, ..): all by name, in the parameters' order -/
def gK (us ws : List Value) : List Value := match us with | [] => ws | _ :: _ => []
def gKV (us ws : List V) : List V := match us with | [] => ws | _ :: _ => []
structure HasK (P : Program) (w : World) (K : PySem.W.Frag) (mg : Str → Option Value) (base : Heap) (x : Str) (k : Nat) (ps : List Str) (sp : Sp) : Prop where
  ex : ∃ f fd, FnOk P w K mg base CX0 k f fd ps sp ∧ mg x = some (.ref f) ∧ PySem.W.keepIn K (.ref f) = true ∧ Binds K fd ps [] ∧ KBinds K fd ps ps gK gKV
theorem HasK.has {P : Program} {w : World} {K : PySem.W.Frag} {mg : Str → Option Value} {base : Heap} {x : Str} {k : Nat} {ps : List Str} {sp : Sp} (h : HasK P w K mg base x k ps sp) : Has P w K mg base x k ps sp := by
  obtain ⟨f, fd, F, a, b, c, _⟩ := h.ex
  exact ⟨f, fd, F, a, b, c⟩
theorem kbinds {K : PySem.W.Frag} {fd : FuncData} {ps : List Str} (h : ∀ ws : List Value, ws.length = ps.length → bindArgs fd ⟨[], ps.zip ws⟩ = pure (ps.zip ws)) (h0 : ps ≠ []) : KBinds K fd ps ps gK gKV := ⟨fun s us ws _ hl => by
  cases us with
  | nil => exact .of_eq (h ws hl)
  | cons u r => exact absurd (List.length_eq_zero_iff.mp hl.symm) h0, fun r rz => by
  cases r with
  | nil => exact rz
  | cons _ _ => exact .nil⟩
theorem pe_callHK {X : Cx} {k : Nat} {ps : List Str} {sp : Sp} {x : Str} {p pos : Pos} {kws : List Keyword} {tk : TA} (h : HasK X.prog X.w X.K X.mg X.base x k ps sp) (hr : Room k X.A) (hkw : PK X kws tk) (hg : Gl X x := by rfl)
    (hall : (backToKw pos (keywordEach kws X.env)).all (·.1.isSome) = true := by rfl) (hks : (backToKw pos (keywordEach kws X.env)).filterMap (·.1) = ps := by rfl) (hdb : (x == ("__debug__" : Str)) = false := by decide)
    (hpl : ((backTo pos (starEach [] X.env)).any (·.1) || (backToKw pos (keywordEach kws X.env)).any (·.1.isNone)) = false := by rfl) : PE X (.Call (.Name x p) [] kws pos) (tCall sp [] E0 tk) := by
  obtain ⟨f, fd, F, a, b, c, kb⟩ := h.ex
  refine ⟨fun pins s σ H Q I h => ?_⟩
  refine wpAny_Call_Name_kw (ld_glob I hg a ?_ hdb)
  refine PySem.W.callWith_KW0 (h₀ := X.base) I.ok.mod.kin b hall (thn (hkw.run pos pins s σ H _ I h) fun ws s2 ⟨zs, H2, I2, rz, q2⟩ => ⟨I2.kIn, ?_⟩) hpl
  rw [hks]
  have q2 : sp (zs ++ []) H2 Q E0 := q2
  rw [List.append_nil] at q2
  exact run_fnk (us := []) (vs := []) F hr kb pass0 I2 .nil rz q2

/-! ### isinstance -/
section
variable {H : Hp} {Q : VK} {K : PySem.W.Frag} {x : V}
theorem r_isi {a b : String} {r : Bool} (ty : TyX K H x (.type a)) (k : kitB a b = some r) (q : Q (.bl r) H) : rIsi K [x, .ty b] H Q := ⟨x, .ty b, _, _, r, rfl, .ty b, ty, kit_ty k, q⟩
theorem ty_int {i : Int} : TyX K H (.int i) (.type "int") := .base (.int i)
theorem ty_bl {i : Bool} : TyX K H (.bl i) (.type "bool") := .base (.bl i)
theorem ty_str {i : Str} : TyX K H (.str i) (.type "str") := .base (.str i)
theorem ty_lst {p : Addr} {xs : List V} (h : H p = some (.lst xs)) : TyX K H (.ref p) (.type "list") := .base (.lst h)
theorem ty_tup {p : Addr} {xs : List V} (h : H p = some (.tup xs)) : TyX K H (.ref p) (.type "tuple") := .base (.tup h)
theorem r_isiI {b : String} {r : Bool} {i : Int} (k : kitB "int" b = some r) (q : Q (.bl r) H) : rIsi K [.int i, .ty b] H Q := r_isi ty_int k q
theorem r_isiB {b : String} {r : Bool} {i : Bool} (k : kitB "bool" b = some r) (q : Q (.bl r) H) : rIsi K [.bl i, .ty b] H Q := r_isi ty_bl k q
theorem r_isiS {b : String} {r : Bool} {i : Str} (k : kitB "str" b = some r) (q : Q (.bl r) H) : rIsi K [.str i, .ty b] H Q := r_isi ty_str k q
theorem r_isiL {b : String} {r : Bool} {p : Addr} {xs : List V} (h : H p = some (.lst xs)) (k : kitB "list" b = some r) (q : Q (.bl r) H) : rIsi K [.ref p, .ty b] H Q := r_isi (ty_lst h) k q
theorem r_isiT {b : String} {r : Bool} {p : Addr} {xs : List V} (h : H p = some (.tup xs)) (k : kitB "tuple" b = some r) (q : Q (.bl r) H) : rIsi K [.ref p, .ty b] H Q := r_isi (ty_tup h) k q
end
section
variable {H : Hp} {Q : VK} {K : PySem.W.Frag}
theorem r_is_int_int {i : Int} (q : Q (.bl true) H) : rIsi K [.int i, .ty "int"] H Q := r_isi ty_int (by decide +kernel) q
theorem r_is_int_bool {i : Int} (q : Q (.bl false) H) : rIsi K [.int i, .ty "bool"] H Q := r_isi ty_int (by decide +kernel) q
theorem r_is_int_str {i : Int} (q : Q (.bl false) H) : rIsi K [.int i, .ty "str"] H Q := r_isi ty_int (by decide +kernel) q
theorem r_is_int_list {i : Int} (q : Q (.bl false) H) : rIsi K [.int i, .ty "list"] H Q := r_isi ty_int (by decide +kernel) q
theorem r_is_int_tuple {i : Int} (q : Q (.bl false) H) : rIsi K [.int i, .ty "tuple"] H Q := r_isi ty_int (by decide +kernel) q
theorem r_is_bool_int {i : Bool} (q : Q (.bl true) H) : rIsi K [.bl i, .ty "int"] H Q := r_isi ty_bl (by decide +kernel) q
theorem r_is_bool_bool {i : Bool} (q : Q (.bl true) H) : rIsi K [.bl i, .ty "bool"] H Q := r_isi ty_bl (by decide +kernel) q
theorem r_is_bool_str {i : Bool} (q : Q (.bl false) H) : rIsi K [.bl i, .ty "str"] H Q := r_isi ty_bl (by decide +kernel) q
theorem r_is_bool_list {i : Bool} (q : Q (.bl false) H) : rIsi K [.bl i, .ty "list"] H Q := r_isi ty_bl (by decide +kernel) q
theorem r_is_bool_tuple {i : Bool} (q : Q (.bl false) H) : rIsi K [.bl i, .ty "tuple"] H Q := r_isi ty_bl (by decide +kernel) q
theorem r_is_str_int {i : Str} (q : Q (.bl false) H) : rIsi K [.str i, .ty "int"] H Q := r_isi ty_str (by decide +kernel) q
theorem r_is_str_bool {i : Str} (q : Q (.bl false) H) : rIsi K [.str i, .ty "bool"] H Q := r_isi ty_str (by decide +kernel) q
theorem r_is_str_str {i : Str} (q : Q (.bl true) H) : rIsi K [.str i, .ty "str"] H Q := r_isi ty_str (by decide +kernel) q
theorem r_is_str_list {i : Str} (q : Q (.bl false) H) : rIsi K [.str i, .ty "list"] H Q := r_isi ty_str (by decide +kernel) q
theorem r_is_str_tuple {i : Str} (q : Q (.bl false) H) : rIsi K [.str i, .ty "tuple"] H Q := r_isi ty_str (by decide +kernel) q
theorem r_is_list_int {p : Addr} {xs : List V}  (h : H p = some (.lst xs)) (q : Q (.bl false) H) : rIsi K [.ref p, .ty "int"] H Q := r_isi (ty_lst h) (by decide +kernel) q
theorem r_is_list_bool {p : Addr} {xs : List V}  (h : H p = some (.lst xs)) (q : Q (.bl false) H) : rIsi K [.ref p, .ty "bool"] H Q := r_isi (ty_lst h) (by decide +kernel) q
theorem r_is_list_str {p : Addr} {xs : List V}  (h : H p = some (.lst xs)) (q : Q (.bl false) H) : rIsi K [.ref p, .ty "str"] H Q := r_isi (ty_lst h) (by decide +kernel) q
theorem r_is_list_list {p : Addr} {xs : List V}  (h : H p = some (.lst xs)) (q : Q (.bl true) H) : rIsi K [.ref p, .ty "list"] H Q := r_isi (ty_lst h) (by decide +kernel) q
theorem r_is_list_tuple {p : Addr} {xs : List V}  (h : H p = some (.lst xs)) (q : Q (.bl false) H) : rIsi K [.ref p, .ty "tuple"] H Q := r_isi (ty_lst h) (by decide +kernel) q
theorem r_is_tuple_int {p : Addr} {xs : List V}  (h : H p = some (.tup xs)) (q : Q (.bl false) H) : rIsi K [.ref p, .ty "int"] H Q := r_isi (ty_tup h) (by decide +kernel) q
theorem r_is_tuple_bool {p : Addr} {xs : List V}  (h : H p = some (.tup xs)) (q : Q (.bl false) H) : rIsi K [.ref p, .ty "bool"] H Q := r_isi (ty_tup h) (by decide +kernel) q
theorem r_is_tuple_str {p : Addr} {xs : List V}  (h : H p = some (.tup xs)) (q : Q (.bl false) H) : rIsi K [.ref p, .ty "str"] H Q := r_isi (ty_tup h) (by decide +kernel) q
theorem r_is_tuple_list {p : Addr} {xs : List V}  (h : H p = some (.tup xs)) (q : Q (.bl false) H) : rIsi K [.ref p, .ty "list"] H Q := r_isi (ty_tup h) (by decide +kernel) q
theorem r_is_tuple_tuple {p : Addr} {xs : List V}  (h : H p = some (.tup xs)) (q : Q (.bl true) H) : rIsi K [.ref p, .ty "tuple"] H Q := r_isi (ty_tup h) (by decide +kernel) q
theorem r_is_NoneType_int  (q : Q (.bl false) H) : rIsi K [.non, .ty "int"] H Q := r_isi (.base .non) (by decide +kernel) q
theorem r_is_NoneType_bool  (q : Q (.bl false) H) : rIsi K [.non, .ty "bool"] H Q := r_isi (.base .non) (by decide +kernel) q
theorem r_is_NoneType_str  (q : Q (.bl false) H) : rIsi K [.non, .ty "str"] H Q := r_isi (.base .non) (by decide +kernel) q
theorem r_is_NoneType_list  (q : Q (.bl false) H) : rIsi K [.non, .ty "list"] H Q := r_isi (.base .non) (by decide +kernel) q
theorem r_is_NoneType_tuple  (q : Q (.bl false) H) : rIsi K [.non, .ty "tuple"] H Q := r_isi (.base .non) (by decide +kernel) q
end
/-! ### slices, sums of lists, len -/
section
variable {σ : L2.St} {H : Hp} {Q : VK} {K : PySem.W.Frag} {te : TE} {p b : Addr} {xs zs : List V}
theorem r_sl {r : V → Option Int → Option Int → Hp → VK → Prop} {tl th : TO} (q : te σ H fun x H1 => tl σ H1 fun l H2 => th σ H2 fun u H3 => r x l u H3 Q) : tSl r te tl th σ H Q := q
theorem r_nopart {R : Option Int → Hp → Prop} (q : R none H) : tNoPart σ H R := q
theorem r_part {R : Option Int → Hp → Prop} (q : te σ H fun x H1 => ∃ i, x = .int i ∧ R (some i) H1) : tPart te σ H R := q
theorem r_exI {n : Int} {R : Int → Prop} (q : R n) : ∃ k, V.int n = V.int k ∧ R k := ⟨n, rfl, q⟩
theorem r_slL {lo hi : Option Int} (h : SqL K H p xs) (q : ∀ c, H c = none → Q (.ref c) (upd H c (.lst (cutV xs lo hi)))) : rSlL K (.ref p) lo hi H Q := ⟨p, xs, rfl, h, q⟩
theorem r_cat (h : H p = some (.lst xs)) (h' : H b = some (.lst zs)) (l : xs.length + zs.length ≤ 100000) (q : ∀ c, H c = none → Q (.ref c) (upd H c (.lst (xs ++ zs)))) : rCat (.ref p) (.ref b) H Q := ⟨p, b, xs, zs, rfl, rfl, h, h', small_of l, q⟩
theorem r_sum {ns : List Int} (h : SqL K H p (ns.map V.int)) (q : Q (.int ns.sum) H) : rSum K [.ref p] H Q := ⟨p, ns, rfl, h, q⟩
def rLen (K : PySem.W.Frag) (xs : List V) (H : Hp) (Q : VK) : Prop := ∃ p ys, xs = [.ref p] ∧ (SqL K H p ys ∨ SqT K H p ys) ∧ Q (.int ys.length) H
theorem call_lenQ {X : Cx} : CallR X (.builtin "len") (rLen X.K) := call_len_seq
theorem r_lenL (h : H p = some (.lst xs)) (q : Q (.int xs.length) H) : rLen K [.ref p] H Q := ⟨p, xs, rfl, .inl (.of h), q⟩
theorem r_lenT (h : H p = some (.tup xs)) (q : Q (.int xs.length) H) : rLen K [.ref p] H Q := ⟨p, xs, rfl, .inr (.of h), q⟩
theorem r_gTup {n : Nat} {t : TGs} {R : L2.St → Hp → Prop} (h : H p = some (.tup xs)) (l : xs.length = n) (q : t xs σ H R) : gTup K n t (.ref p) σ H R := ⟨p, xs, rfl, .of h, l, q⟩
theorem r_gCons {t : TG} {u : TGs} {v : V} {R : L2.St → Hp → Prop} (q : t v σ H fun σ' H' => u xs σ' H' R) : gCons t u (v :: xs) σ H R := ⟨v, xs, rfl, q⟩
theorem r_gNil {R : L2.St → Hp → Prop} (q : R σ H) : gNil [] σ H R := ⟨rfl, q⟩
theorem cut_len (lo hi : Option Int) : (cutV xs lo hi).length ≤ xs.length := by
  unfold cutV
  rw [List.length_take, List.length_drop]
  omega
theorem cut_mem {lo hi : Option Int} {x : V} (h : x ∈ cutV xs lo hi) : x ∈ xs := by
  unfold cutV at h
  exact List.mem_of_mem_drop (List.mem_of_mem_take h)
end
theorem sum_cast (l : List Nat) (f : Nat → Nat) : (l.map fun n => (f n : Int)).sum = ((l.map f).sum : Nat) := by
  induction l with
  | nil => rfl
  | cons a r ih => rw [List.map_cons, List.sum_cons, List.map_cons, List.sum_cons, ih, Int.natCast_add]
/-! ### loops -/
section
variable {σ : L2.St} {H : Hp} {Q : VK} {K : PySem.W.Frag} {D : Ends} {tb : TS} {g : TG} {c : TT} {p : Addr} {xs : List V}
theorem r_for {wi : TI} (q : wi σ H fun J H1 => ∃ W : Nat → Nat → L2.St → Hp → Prop, (∃ m, W 0 m σ H1) ∧ ∀ i m σ H, W i m σ H →
  (J.stop i H ∧ D.nx σ H) ∨ (J.go i H ∧ ∃ N : L2.St → Hp → Prop, (∀ σ' H', N σ' H' → ∃ m', m' < m ∧ W (i + 1) m' σ' H') ∧ ∀ x H', J.yld i H x H' → g x σ H' fun σ2 H2 => tb { D with nx := N, ct := N, bk := D.nx } σ2 H2)) : tFor wi g tb D σ H := q
theorem r_iList {tl : TE} {R : It → Hp → Prop} (q : tl σ H fun x H1 => ∃ a, x = .ref a ∧ (∃ xs, SqL K H1 a xs) ∧ R (Itl K a) H1) : iList K tl σ H R := q
theorem r_iTup {tl : TE} {R : It → Hp → Prop} (q : tl σ H fun x H1 => ∃ a, x = .ref a ∧ (∃ xs, SqT K H1 a xs) ∧ R (Itt K a) H1) : iTup K tl σ H R := q
theorem r_iR1 {ta : TA} {R : It → Hp → Prop} (q : ta σ H fun vs H1 => ∃ j : Int, vs = [.int j] ∧ -(2 ^ 62) ≤ j ∧ j < 2 ^ 62 ∧ R (Itr 0 j.toNat) H1) : iRng1 ta σ H R := q
theorem r_iR2 {ta : TA} {R : It → Hp → Prop} (q : ta σ H fun vs H1 => ∃ i j : Int, vs = [.int i, .int j] ∧ (-(2 ^ 62) ≤ i ∧ i < 2 ^ 62 ∧ -(2 ^ 62) ≤ j ∧ j < 2 ^ 62) ∧ R (Itr i (j - i).toNat) H1) : iRng2 ta σ H R := q
theorem u_forL (h : SqL K H p xs) (Pv : Nat → L2.St → Hp → Prop) (h0 : Pv 0 σ H) (hl : ∀ i σ H, i ≤ xs.length → Pv i σ H → SqL K H p xs)
    (hs : ∀ i x σ H, xs[i]? = some x → Pv i σ H → g x σ H fun σ2 H2 => tb { D with nx := Pv (i + 1), ct := Pv (i + 1), bk := D.nx } σ2 H2) (hd : ∀ σ H, Pv xs.length σ H → D.nx σ H) :
    ∃ a, V.ref p = .ref a ∧ (∃ xs, SqL K H a xs) ∧ ∃ W : Nat → Nat → L2.St → Hp → Prop, (∃ m, W 0 m σ H) ∧ ∀ i m σ H, W i m σ H →
      ((Itl K a).stop i H ∧ D.nx σ H) ∨ ((Itl K a).go i H ∧ ∃ N : L2.St → Hp → Prop, (∀ σ' H', N σ' H' → ∃ m', m' < m ∧ W (i + 1) m' σ' H') ∧ ∀ x H', (Itl K a).yld i H x H' → g x σ H' fun σ2 H2 => tb { D with nx := N, ct := N, bk := D.nx } σ2 H2) :=
  ⟨p, rfl, ⟨xs, h⟩, for_list Pv h0 hl hs hd⟩
theorem u_forT (h : SqT K H p xs) (Pv : Nat → L2.St → Hp → Prop) (h0 : Pv 0 σ H) (hl : ∀ i σ H, i ≤ xs.length → Pv i σ H → SqT K H p xs)
    (hs : ∀ i x σ H, xs[i]? = some x → Pv i σ H → g x σ H fun σ2 H2 => tb { D with nx := Pv (i + 1), ct := Pv (i + 1), bk := D.nx } σ2 H2) (hd : ∀ σ H, Pv xs.length σ H → D.nx σ H) :
    ∃ a, V.ref p = .ref a ∧ (∃ xs, SqT K H a xs) ∧ ∃ W : Nat → Nat → L2.St → Hp → Prop, (∃ m, W 0 m σ H) ∧ ∀ i m σ H, W i m σ H →
      ((Itt K a).stop i H ∧ D.nx σ H) ∨ ((Itt K a).go i H ∧ ∃ N : L2.St → Hp → Prop, (∀ σ' H', N σ' H' → ∃ m', m' < m ∧ W (i + 1) m' σ' H') ∧ ∀ x H', (Itt K a).yld i H x H' → g x σ H' fun σ2 H2 => tb { D with nx := N, ct := N, bk := D.nx } σ2 H2) :=
  ⟨p, rfl, ⟨xs, h⟩, for_tup Pv h0 hl hs hd⟩
theorem u_for1 {n : Int} (hb : -(2 ^ 62) ≤ n ∧ n < 2 ^ 62) (Pv : Nat → L2.St → Hp → Prop) (h0 : Pv 0 σ H)
    (hs : ∀ (i : Nat) σ H, (i : Int) < n → Pv i σ H → g (.int (i : Int)) σ H fun σ2 H2 => tb { D with nx := Pv (i + 1), ct := Pv (i + 1), bk := D.nx } σ2 H2) (hd : ∀ σ H, Pv n.toNat σ H → D.nx σ H) :
    -(2 ^ 62) ≤ n ∧ n < 2 ^ 62 ∧ ∃ W : Nat → Nat → L2.St → Hp → Prop, (∃ m, W 0 m σ H) ∧ ∀ i m σ H, W i m σ H →
      ((Itr 0 n.toNat).stop i H ∧ D.nx σ H) ∨ ((Itr 0 n.toNat).go i H ∧ ∃ N : L2.St → Hp → Prop, (∀ σ' H', N σ' H' → ∃ m', m' < m ∧ W (i + 1) m' σ' H') ∧ ∀ x H', (Itr 0 n.toNat).yld i H x H' → g x σ H' fun σ2 H2 => tb { D with nx := N, ct := N, bk := D.nx } σ2 H2) :=
  ⟨hb.1, hb.2, for_range Pv h0 (fun i σ H hi p => by rw [Int.zero_add]; exact hs i σ H (by omega) p) hd⟩
theorem u_for2 {lo n : Int} (hb : -(2 ^ 62) ≤ lo ∧ lo < 2 ^ 62 ∧ -(2 ^ 62) ≤ n ∧ n < 2 ^ 62) (Pv : Nat → L2.St → Hp → Prop) (h0 : Pv 0 σ H)
    (hs : ∀ (i : Nat) σ H, lo + (i : Int) < n → Pv i σ H → g (.int (lo + (i : Int))) σ H fun σ2 H2 => tb { D with nx := Pv (i + 1), ct := Pv (i + 1), bk := D.nx } σ2 H2) (hd : ∀ σ H, Pv (n - lo).toNat σ H → D.nx σ H) :
    (-(2 ^ 62) ≤ lo ∧ lo < 2 ^ 62 ∧ -(2 ^ 62) ≤ n ∧ n < 2 ^ 62) ∧ ∃ W : Nat → Nat → L2.St → Hp → Prop, (∃ m, W 0 m σ H) ∧ ∀ k m σ H, W k m σ H →
      ((Itr lo (n - lo).toNat).stop k H ∧ D.nx σ H) ∨ ((Itr lo (n - lo).toNat).go k H ∧ ∃ N : L2.St → Hp → Prop, (∀ σ' H', N σ' H' → ∃ m', m' < m ∧ W (k + 1) m' σ' H') ∧ ∀ x H', (Itr lo (n - lo).toNat).yld k H x H' → g x σ H' fun σ2 H2 => tb { D with nx := N, ct := N, bk := D.nx } σ2 H2) :=
  ⟨hb, for_range Pv h0 (fun i σ H hi p => hs i σ H (by omega) p) hd⟩
/-- while: W the word by a number that falls -/
theorem u_while (W : Nat → L2.St → Hp → Prop) (m0 : Nat) (h0 : W m0 σ H) (hs : ∀ m σ H, W m σ H →
  c σ H fun b H1 => if b = true then ∃ N : L2.St → Hp → Prop, (∀ σ' H', N σ' H' → ∃ m', m' < m ∧ W m' σ' H') ∧ tb { D with nx := N, ct := N, bk := D.nx } σ H1 else D.nx σ H1) : tWhile c tb D σ H := ⟨W, ⟨m0, h0⟩, hs⟩
theorem u_turn {W : Nat → L2.St → Hp → Prop} {m : Nat} (q : tb { D with nx := fun σ' H' => ∃ m', m' < m ∧ W m' σ' H', ct := fun σ' H' => ∃ m', m' < m ∧ W m' σ' H', bk := D.nx } σ H) :
  ∃ N : L2.St → Hp → Prop, (∀ σ' H', N σ' H' → ∃ m', m' < m ∧ W m' σ' H') ∧ tb { D with nx := N, ct := N, bk := D.nx } σ H := ⟨_, fun _ _ h => h, q⟩
/-- [elt for x in ..]: the word speaks of the list so far and of the heap -/
theorem r_lc {wi : TI} {tt : TT} {te : TE} {vs : List Nat} (q : wi σ H fun J H1 => ∀ D, H1 D = none → ∃ W : Nat → Nat → Hp → Prop, (∃ m, W 0 m (upd H1 D (.lst []))) ∧ ∀ i m H, W i m H →
  (J.stop i H ∧ Q (.ref D) H) ∨ (J.go i H ∧ ∃ Nx : Hp → Prop, (∀ H', Nx H' → ∃ m', m' < m ∧ W (i + 1) m' H') ∧ ∀ x H', J.yld i H x H' → g x (wipe σ vs) H' fun σ2 H2 => wipe σ2 vs = wipe σ vs ∧ tt σ2 H2 fun b H3 =>
    if b = true then te σ2 H3 fun y H4 => ∃ acc, H4 D = some (.lst acc) ∧ acc.length < sizeLine ∧ Nx (upd H4 D (.lst (acc ++ [y]))) else Nx H3)) : tLc wi g tt te vs σ H Q := q
theorem r_yes {R : Bool → Hp → Prop} (q : R true H) : tYes σ H R := q
def LcPush (D : Addr) (I : Addr → Nat → List V → Hp → Prop) (i : Nat) (H : Hp) (y : V) : Prop := ∃ acc, H D = some (.lst acc) ∧ acc.length < sizeLine ∧ ∃ acc', (upd H D (.lst (acc ++ [y]))) D = some (.lst acc') ∧ I D (i + 1) acc' (upd H D (.lst (acc ++ [y])))
def LcSkip (D : Addr) (I : Addr → Nat → List V → Hp → Prop) (i : Nat) (H : Hp) : Prop := ∃ acc, H D = some (.lst acc) ∧ I D (i + 1) acc H
theorem u_push {D : Addr} {I : Addr → Nat → List V → Hp → Prop} {i : Nat} {y : V} {acc : List V} (h : H D = some (.lst acc)) (l : acc.length < 100000) (q : I D (i + 1) (acc ++ [y]) (upd H D (.lst (acc ++ [y])))) : LcPush D I i H y :=
  ⟨acc, h, Nat.lt_of_lt_of_le l (by decide), acc ++ [y], upd_same, q⟩
theorem u_skip {D : Addr} {I : Addr → Nat → List V → Hp → Prop} {i : Nat} {acc : List V} (h : H D = some (.lst acc)) (q : I D (i + 1) acc H) : LcSkip D I i H := ⟨acc, h, q⟩
theorem u_lcL {tt : TT} {te : TE} {vs : List Nat} {Qd : Addr → Hp → Prop} (h : SqL K H p xs) (I : Addr → Nat → List V → Hp → Prop) (h0 : ∀ D, H D = none → I D 0 [] (upd H D (.lst [])))
    (hl : ∀ D i acc H', H D = none → H' D = some (.lst acc) → I D i acc H' → SqL K H' p xs)
    (hs : ∀ D i x acc H', H D = none → xs[i]? = some x → H' D = some (.lst acc) → I D i acc H' → g x (wipe σ vs) H' fun σ2 H2 => wipe σ2 vs = wipe σ vs ∧ tt σ2 H2 fun b H3 => if b = true then te σ2 H3 fun y H4 => LcPush D I i H4 y else LcSkip D I i H3)
    (hd : ∀ D acc H', H D = none → H' D = some (.lst acc) → I D xs.length acc H' → Qd D H') :
    ∃ a, V.ref p = .ref a ∧ (∃ xs, SqL K H a xs) ∧ ∀ D, H D = none → ∃ W : Nat → Nat → Hp → Prop, (∃ m, W 0 m (upd H D (.lst []))) ∧ ∀ i m H, W i m H →
      ((Itl K a).stop i H ∧ Qd D H) ∨ ((Itl K a).go i H ∧ ∃ Nx : Hp → Prop, (∀ H', Nx H' → ∃ m', m' < m ∧ W (i + 1) m' H') ∧ ∀ x H', (Itl K a).yld i H x H' → g x (wipe σ vs) H' fun σ2 H2 => wipe σ2 vs = wipe σ vs ∧ tt σ2 H2 fun b H3 =>
        if b = true then te σ2 H3 fun y H4 => ∃ acc, H4 D = some (.lst acc) ∧ acc.length < sizeLine ∧ Nx (upd H4 D (.lst (acc ++ [y]))) else Nx H3) :=
  ⟨p, rfl, ⟨xs, h⟩, fun D hD => lc_list (xs := xs) (fun i H' => ∃ acc, H' D = some (.lst acc) ∧ I D i acc H') ⟨[], upd_same, h0 D hD⟩ (fun i H' _ ⟨acc, e, q⟩ => hl D i acc H' hD e q)
    (fun i x H' hi ⟨acc, e, q⟩ => hs D i x acc H' hD hi e q) fun H' ⟨acc, e, q⟩ => hd D acc H' hD e q⟩
theorem u_lcT {tt : TT} {te : TE} {vs : List Nat} {Qd : Addr → Hp → Prop} (h : SqT K H p xs) (I : Addr → Nat → List V → Hp → Prop) (h0 : ∀ D, H D = none → I D 0 [] (upd H D (.lst [])))
    (hl : ∀ D i acc H', H D = none → H' D = some (.lst acc) → I D i acc H' → SqT K H' p xs)
    (hs : ∀ D i x acc H', H D = none → xs[i]? = some x → H' D = some (.lst acc) → I D i acc H' → g x (wipe σ vs) H' fun σ2 H2 => wipe σ2 vs = wipe σ vs ∧ tt σ2 H2 fun b H3 => if b = true then te σ2 H3 fun y H4 => LcPush D I i H4 y else LcSkip D I i H3)
    (hd : ∀ D acc H', H D = none → H' D = some (.lst acc) → I D xs.length acc H' → Qd D H') :
    ∃ a, V.ref p = .ref a ∧ (∃ xs, SqT K H a xs) ∧ ∀ D, H D = none → ∃ W : Nat → Nat → Hp → Prop, (∃ m, W 0 m (upd H D (.lst []))) ∧ ∀ i m H, W i m H →
      ((Itt K a).stop i H ∧ Qd D H) ∨ ((Itt K a).go i H ∧ ∃ Nx : Hp → Prop, (∀ H', Nx H' → ∃ m', m' < m ∧ W (i + 1) m' H') ∧ ∀ x H', (Itt K a).yld i H x H' → g x (wipe σ vs) H' fun σ2 H2 => wipe σ2 vs = wipe σ vs ∧ tt σ2 H2 fun b H3 =>
        if b = true then te σ2 H3 fun y H4 => ∃ acc, H4 D = some (.lst acc) ∧ acc.length < sizeLine ∧ Nx (upd H4 D (.lst (acc ++ [y]))) else Nx H3) :=
  ⟨p, rfl, ⟨xs, h⟩, fun D hD => lc_tup (xs := xs) (fun i H' => ∃ acc, H' D = some (.lst acc) ∧ I D i acc H') ⟨[], upd_same, h0 D hD⟩ (fun i H' _ ⟨acc, e, q⟩ => hl D i acc H' hD e q)
    (fun i x H' hi ⟨acc, e, q⟩ => hs D i x acc H' hD hi e q) fun H' ⟨acc, e, q⟩ => hd D acc H' hD e q⟩
theorem u_lc1 {tt : TT} {te : TE} {vs : List Nat} {Qd : Addr → Hp → Prop} {n : Int} (hb : -(2 ^ 62) ≤ n ∧ n < 2 ^ 62) (I : Addr → Nat → List V → Hp → Prop) (h0 : ∀ D, H D = none → I D 0 [] (upd H D (.lst [])))
    (hs : ∀ D (i : Nat) acc H', H D = none → (i : Int) < n → H' D = some (.lst acc) → I D i acc H' → g (.int (i : Int)) (wipe σ vs) H' fun σ2 H2 => wipe σ2 vs = wipe σ vs ∧ tt σ2 H2 fun b H3 => if b = true then te σ2 H3 fun y H4 => LcPush D I i H4 y else LcSkip D I i H3)
    (hd : ∀ D acc H', H D = none → H' D = some (.lst acc) → I D n.toNat acc H' → Qd D H') :
    -(2 ^ 62) ≤ n ∧ n < 2 ^ 62 ∧ ∀ D, H D = none → ∃ W : Nat → Nat → Hp → Prop, (∃ m, W 0 m (upd H D (.lst []))) ∧ ∀ i m H, W i m H →
      ((Itr 0 n.toNat).stop i H ∧ Qd D H) ∨ ((Itr 0 n.toNat).go i H ∧ ∃ Nx : Hp → Prop, (∀ H', Nx H' → ∃ m', m' < m ∧ W (i + 1) m' H') ∧ ∀ x H', (Itr 0 n.toNat).yld i H x H' → g x (wipe σ vs) H' fun σ2 H2 => wipe σ2 vs = wipe σ vs ∧ tt σ2 H2 fun b H3 =>
        if b = true then te σ2 H3 fun y H4 => ∃ acc, H4 D = some (.lst acc) ∧ acc.length < sizeLine ∧ Nx (upd H4 D (.lst (acc ++ [y]))) else Nx H3) :=
  ⟨hb.1, hb.2, fun D hD => lc_range (fun i H' => ∃ acc, H' D = some (.lst acc) ∧ I D i acc H') ⟨[], upd_same, h0 D hD⟩
    (fun i H' hi ⟨acc, e, q⟩ => by rw [Int.zero_add]; exact hs D i acc H' hD (by omega) e q) fun H' ⟨acc, e, q⟩ => hd D acc H' hD e q⟩
theorem u_lc2 {tt : TT} {te : TE} {vs : List Nat} {Qd : Addr → Hp → Prop} {lo n : Int} (hb : -(2 ^ 62) ≤ lo ∧ lo < 2 ^ 62 ∧ -(2 ^ 62) ≤ n ∧ n < 2 ^ 62) (I : Addr → Nat → List V → Hp → Prop) (h0 : ∀ D, H D = none → I D 0 [] (upd H D (.lst [])))
    (hs : ∀ D (i : Nat) acc H', H D = none → lo + (i : Int) < n → H' D = some (.lst acc) → I D i acc H' → g (.int (lo + (i : Int))) (wipe σ vs) H' fun σ2 H2 => wipe σ2 vs = wipe σ vs ∧ tt σ2 H2 fun b H3 => if b = true then te σ2 H3 fun y H4 => LcPush D I i H4 y else LcSkip D I i H3)
    (hd : ∀ D acc H', H D = none → H' D = some (.lst acc) → I D (n - lo).toNat acc H' → Qd D H') :
    (-(2 ^ 62) ≤ lo ∧ lo < 2 ^ 62 ∧ -(2 ^ 62) ≤ n ∧ n < 2 ^ 62) ∧ ∀ D, H D = none → ∃ W : Nat → Nat → Hp → Prop, (∃ m, W 0 m (upd H D (.lst []))) ∧ ∀ k m H, W k m H →
      ((Itr lo (n - lo).toNat).stop k H ∧ Qd D H) ∨ ((Itr lo (n - lo).toNat).go k H ∧ ∃ Nx : Hp → Prop, (∀ H', Nx H' → ∃ m', m' < m ∧ W (k + 1) m' H') ∧ ∀ x H', (Itr lo (n - lo).toNat).yld k H x H' → g x (wipe σ vs) H' fun σ2 H2 => wipe σ2 vs = wipe σ vs ∧ tt σ2 H2 fun b H3 =>
        if b = true then te σ2 H3 fun y H4 => ∃ acc, H4 D = some (.lst acc) ∧ acc.length < sizeLine ∧ Nx (upd H4 D (.lst (acc ++ [y]))) else Nx H3) :=
  ⟨hb, fun D hD => lc_range (fun i H' => ∃ acc, H' D = some (.lst acc) ∧ I D i acc H') ⟨[], upd_same, h0 D hD⟩
    (fun i H' hi ⟨acc, e, q⟩ => hs D i acc H' hD (by omega) e q) fun H' ⟨acc, e, q⟩ => hd D acc H' hD e q⟩
end
/-! ### heaps -/
/-- the heap at a, in words: looked up through stores -/
theorem h_keep {H : Hp} {a p : Addr} {o u : HO} (h : H a = some u) (n : H p = none) : upd H p o a = some u := (upd_ne (ne_of_none h n)).trans h
theorem h_else {H : Hp} {a p : Addr} {o u w : HO} (h : H a = some u) (h' : H p = some w) (d : u ≠ w) : upd H p o a = some u := (upd_ne (ne_of h h' d)).trans h
/-- all that was tracked but what stands at a -/
def But (a : Addr) (H H' : Hp) : Prop := ∀ b o, b ≠ a → H b = some o → H' b = some o
theorem But.refl (a : Addr) (H : Hp) : But a H H := fun _ _ _ h => h
theorem But.trans {a : Addr} {H H1 H2 : Hp} (h : But a H H1) (k : But a H1 H2) : But a H H2 := fun b o n e => k b o n (h b o n e)
theorem But.new {a p : Addr} {H H' : Hp} {o : HO} (h : But a H H') (n : H' p = none) : But a H (upd H' p o) := fun b u nb e => h_keep (h b u nb e) n
theorem But.self {a : Addr} {H H' : Hp} {o : HO} (h : But a H H') : But a H (upd H' a o) := fun b u nb e => (upd_ne nb).trans (h b u nb e)
theorem But.put {a p : Addr} {H H' : Hp} {o : HO} (h : But a H H') (n : H p = none) : But a H (upd H' p o) := fun b u nb e => (upd_ne (ne_of_none e n)).trans (h b u nb e)
theorem fmod_nat (a b : Nat) : (a : Int).fmod (b : Int) = ((a % b : Nat) : Int) := by
  rw [Int.fmod_eq_emod_of_nonneg _ (Int.natCast_nonneg _), Int.natCast_emod]
theorem fdiv_nat (a b : Nat) : (a : Int) / (b : Int) = ((a / b : Nat) : Int) := (Int.natCast_ediv a b).symm
def vints (l : List Nat) : List V := l.map fun (k : Nat) => V.int (k : Int)
theorem vints_app (l m : List Nat) : vints (l ++ m) = vints l ++ vints m := List.map_append
theorem vints_len (l : List Nat) : (vints l).length = l.length := List.length_map _
theorem atI_vints {l : List Nat} {n : Int} (h0 : 0 ≤ n) (h1 : n < l.length) : ∃ k, k ∈ l ∧ atI (vints l) n = some (.int (k : Int)) := by
  have h2 : n.toNat < l.length := by omega
  refine ⟨l[n.toNat], List.getElem_mem h2, ?_⟩
  unfold atI ixN
  rw [if_pos h0, vints_len, if_pos h1]
  show (vints l)[n.toNat]? = _
  unfold vints
  rw [List.getElem?_map, List.getElem?_eq_getElem h2]
  rfl
theorem vints_get {l : List Nat} {i : Nat} {x : V} (h : (vints l)[i]? = some x) : ∃ k, l[i]? = some k ∧ x = .int (k : Int) := by
  unfold vints at h
  rw [List.getElem?_map] at h
  cases e : l[i]? with
  | none => rw [e] at h; cases h
  | some k => rw [e] at h; exact ⟨k, rfl, (Option.some.inj h).symm⟩
theorem Same.at {H H' : Hp} {a : Addr} {o : HO} (s : Same H H') (h : H a = some o) : H' a = some o := s a o h
theorem But.at {H H' : Hp} {a b : Addr} {o : HO} (s : But b H H') (n : a ≠ b) (h : H a = some o) : H' a = some o := s a o n h
theorem log_small {n : Int} (h : n.natAbs < 2 ^ 8000) : n.natAbs.log2 < 9000 := by
  by_cases h0 : n.natAbs = 0
  · rw [h0]; decide
  · exact Nat.lt_of_lt_of_le ((Nat.log2_lt h0).mpr h) (by decide)
theorem Same.new0 {p : Addr} {H : Hp} {o : HO} (n : H p = none) : Same H (upd H p o) := fun b u e => h_keep e n
theorem Same.new {p : Addr} {H H' : Hp} {o : HO} (h : Same H H') (n : H' p = none) : Same H (upd H' p o) := fun b u e => h_keep (h b u e) n
theorem Same.put {p : Addr} {H H' : Hp} {o : HO} (h : Same H H') (n : H p = none) : Same H (upd H' p o) := fun b u e => (upd_ne (ne_of_none e n)).trans (h b u e)
theorem Same.but {H H' : Hp} (h : Same H H') (a : Addr) : But a H H' := fun b u _ e => h b u e
theorem But.free {a p : Addr} {H H' : Hp} (h : But a H H') (n : p ≠ a) (e : H' p = none) : H p = none := by
  cases q : H p with
  | none => rfl
  | some o => rw [h p o n q] at e; cases e
/-- what is new may change -/
theorem Same.but2 {a : Addr} {H H1 H2 : Hp} (s : Same H H1) (n : H a = none) (b : But a H1 H2) : Same H H2 := fun c o e => b c o (ne_of_none e n) (s c o e)
/-- the law's bag: three ints, the second one small -/
def Bag (H : Hp) (a : Addr) : Prop := ∃ x y z : Int, H a = some (.lst [.int x, .int y, .int z]) ∧ 0 ≤ y ∧ y ≤ 2147483647 ∧ 0 ≤ z
theorem Bag.keep {H : Hp} {a p : Addr} {o : HO} (h : Bag H a) (n : H p = none) : Bag (upd H p o) a := by
  obtain ⟨x, y, z, e, r⟩ := h
  exact ⟨x, y, z, h_keep e n, r⟩
theorem Bag.ne {H : Hp} {a p : Addr} (h : Bag H a) (n : H p = none) : p ≠ a := by
  obtain ⟨x, y, z, e, r⟩ := h
  exact (ne_of_none e n).symm
theorem Bag.same {H H' : Hp} {a : Addr} (h : Bag H a) (s : Same H H') : Bag H' a := by
  obtain ⟨x, y, z, e, r⟩ := h
  exact ⟨x, y, z, s _ _ e, r⟩
def spBagOf : Sp := fun vs H Q _ => ∃ c : Int, vs = [.int c] ∧ ∀ p H', H p = none → Same H H' → Bag H' p → Q (.ref p) H'
def spPick : Sp := fun vs H Q _ => ∃ (a : Addr) (n : Int), vs = [.ref a, .int n] ∧ Bag H a ∧ 0 < n ∧ n ≤ 1000000 ∧ ∀ (r : Int) H', 0 ≤ r → r < n → But a H H' → Bag H' a → Q (.int r) H'
theorem u_pick {H : Hp} {Q : VK} {E : XK} {a : Addr} {n : Int} (h : Bag H a) (n0 : 0 < n) (n1 : n ≤ 1000000) (q : ∀ (r : Int) H', 0 ≤ r → r < n → But a H H' → Bag H' a → Q (.int r) H') : spPick [.ref a, .int n] H Q E := ⟨a, n, rfl, h, n0, n1, q⟩
/-- the law's promise: a list of at most 63 ints goes in, True comes out -/
def spLaw (K : PySem.W.Frag) : Sp := fun vs H Q _ => ∃ (a : Addr) (ns : List Int), vs = [.ref a] ∧ SqL K H a (ns.map V.int) ∧ ns.length ≤ 63 ∧ ∀ H', Q (.bl true) H'
/-- the cells of a law's outer loop are ints -/
theorem cells_int {g : Int} {ns : List Int} {lo hi : Option Int} {i : Nat} {x : V} (h : ([V.int g] ++ cutV (ns.map V.int) lo hi)[i]? = some x) : ∃ c, x = .int c := by
  rcases List.mem_append.mp (List.mem_of_getElem? h) with h | h
  · exact ⟨g, List.mem_singleton.mp h⟩
  · obtain ⟨c, _, e⟩ := List.mem_map.mp (cut_mem h)
    exact ⟨c, e.symm⟩
/-! ### the rules that name the written part, with its name given (a comprehension's block has another context) -/
section
variable {X : Cx} {K : PySem.W.Frag}
theorem ix_listK (h : X.K = K := by rfl) : IxR X (rIxL K) := by subst h; exact ix_list
theorem ix_tupK (h : X.K = K := by rfl) : IxR X (rIxT K) := by subst h; exact ix_tup
theorem call_lenK (h : X.K = K := by rfl) : CallR X (.builtin "len") (rLen K) := by subst h; exact call_lenQ
theorem call_isiKK (h : X.K = K := by rfl) : CallR X (.builtin "isinstance") (rIsi K) := by subst h; exact call_isi
theorem call_sumK (hc : X.calm = true := by rfl) (h : X.K = K := by rfl) : CallR X (.builtin "sum") (rSum K) := by subst h; exact cr_sum hc
theorem call_allK (hc : X.calm = true := by rfl) (h : X.K = K := by rfl) : CallR X (.builtin "all") (rAll K) := by subst h; exact cr_all hc
theorem call_anyK (hc : X.calm = true := by rfl) (h : X.K = K := by rfl) : CallR X (.builtin "any") (rAny K) := by subst h; exact cr_any hc
end
end My

set_option Elab.async false
set_option linter.all false
set_option maxRecDepth 100000
namespace My
open PySem PySem.Spec PyProof.Rows L2
/-! ### programs as data -/
inductive Prog where
  | nil
  | step (w n : Str) (r : Prog)
  | turn (k : Int) (r : Prog)
  | rep (k : Int) (b r : Prog)
  | mir (b r : Prog)
namespace Prog
def app : Prog → Prog → Prog
  | .nil, q => q
  | .step w n r, q => .step w n (r.app q)
  | .turn k r, q => .turn k (r.app q)
  | .rep k b r, q => .rep k b (r.app q)
  | .mir b r, q => .mir b (r.app q)
def len : Prog → Nat
  | .nil => 0
  | .step _ _ r => r.len + 1
  | .turn _ r => r.len + 1
  | .rep _ _ r => r.len + 1
  | .mir _ r => r.len + 1
def size : Prog → Int
  | .nil => 0
  | .step _ _ r => 1 + r.size
  | .turn _ r => 1 + r.size
  | .rep k b r => k * b.size + r.size
  | .mir b r => b.size + r.size
def head : Prog → Int
  | .nil => 0
  | .step _ _ r => r.head
  | .turn k r => k + r.head
  | .rep k b r => k * b.head + r.head
  | .mir b r => -b.head + r.head
def times : Nat → Prog → Prog
  | 0, _ => .nil
  | n + 1, p => p.app (times n p)
def unroll : Int → Prog → Prog
  | _, .nil => .nil
  | s, .step w n r => .step w n (unroll s r)
  | s, .turn k r => .turn (s * k) (unroll s r)
  | s, .rep k b r => (times k.toNat (unroll s b)).app (unroll s r)
  | s, .mir b r => (unroll (-s) b).app (unroll s r)
/-- the turns' numbers of a flat program -/
def turns : Prog → List Int
  | .nil => []
  | .step _ _ r => r.turns
  | .turn k r => k :: r.turns
  | .rep _ _ r => r.turns
  | .mir _ r => r.turns
def take : Nat → Prog → Prog
  | 0, _ => .nil
  | _ + 1, .nil => .nil
  | n + 1, .step w m r => .step w m (r.take n)
  | n + 1, .turn k r => .turn k (r.take n)
  | n + 1, .rep k b r => .rep k b (r.take n)
  | n + 1, .mir b r => .mir b (r.take n)
end Prog
def IsWord (w : Str) : Prop := w = "go" ∨ w = "back" ∨ w = "hop" ∨ w = "slip"
/-- one letter from a to z -/
def IsName (n : Str) : Prop := ∃ c : Nat, n = ⟨#[c]⟩ ∧ 97 ≤ c ∧ c ≤ 122
/-- a program nested at most d deep; counts from 1 to C, turns to T of either sign, at most 1000 commands in each repeat or mirror -/
def Wf (C T : Int) : Nat → Prog → Prop
  | _, .nil => True
  | d, .step w n r => IsWord w ∧ IsName n ∧ Wf C T d r
  | d, .turn k r => (-T ≤ k ∧ k ≤ T) ∧ Wf C T d r
  | 0, .rep _ _ _ => False
  | d + 1, .rep k b r => (1 ≤ k ∧ k ≤ C) ∧ (1 ≤ b.len ∧ b.len ≤ 1000) ∧ Wf C T d b ∧ Wf C T (d + 1) r
  | 0, .mir _ _ => False
  | d + 1, .mir b r => (1 ≤ b.len ∧ b.len ≤ 1000) ∧ Wf C T d b ∧ Wf C T (d + 1) r
theorem Wf.app {C T : Int} : ∀ {d : Nat} {p q : Prog}, Wf C T d p → Wf C T d q → Wf C T d (p.app q)
  | _, .nil, _, _, h => h
  | d, .step w n r, q, h, h' => by
    cases d <;> exact ⟨h.1, h.2.1, Wf.app h.2.2 h'⟩
  | d, .turn k r, q, h, h' => by
    cases d <;> exact ⟨h.1, Wf.app h.2 h'⟩
  | 0, .rep _ _ _, _, h, _ => h.elim
  | d + 1, .rep k b r, q, h, h' => ⟨h.1, h.2.1, h.2.2.1, Wf.app h.2.2.2 h'⟩
  | 0, .mir _ _, _, h, _ => h.elim
  | d + 1, .mir b r, q, h, h' => ⟨h.1, h.2.1, Wf.app h.2.2 h'⟩
theorem Wf.step_iff {C T : Int} {d : Nat} {w n : Str} {r : Prog} : Wf C T d (.step w n r) ↔ IsWord w ∧ IsName n ∧ Wf C T d r := by cases d <;> exact Iff.rfl
theorem Wf.turn_iff {C T : Int} {d : Nat} {k : Int} {r : Prog} : Wf C T d (.turn k r) ↔ (-T ≤ k ∧ k ≤ T) ∧ Wf C T d r := by cases d <;> exact Iff.rfl
theorem Wf.nil {C T : Int} {d : Nat} : Wf C T d .nil := by cases d <;> trivial
theorem Wf.mono {C T C' T' : Int} (hC : C ≤ C') (hT : T ≤ T') : ∀ {d d' : Nat} {p : Prog}, d ≤ d' → Wf C T d p → Wf C' T' d' p
  | d, d', .nil, _, _ => Wf.nil
  | d, d', .step w n r, hd, h => Wf.step_iff.mpr ⟨(Wf.step_iff.mp h).1, (Wf.step_iff.mp h).2.1, Wf.mono hC hT hd (Wf.step_iff.mp h).2.2⟩
  | d, d', .turn k r, hd, h => by
    have h := Wf.turn_iff.mp h
    exact Wf.turn_iff.mpr ⟨⟨by omega, by omega⟩, Wf.mono hC hT hd h.2⟩
  | 0, _, .rep _ _ _, _, h => h.elim
  | d + 1, 0, .rep _ _ _, hd, _ => absurd hd (by omega)
  | d + 1, d' + 1, .rep k b r, hd, h => ⟨⟨h.1.1, by have := h.1.2; omega⟩, h.2.1, Wf.mono hC hT (by omega) h.2.2.1, Wf.mono hC hT hd h.2.2.2⟩
  | 0, _, .mir _ _, _, h => h.elim
  | d + 1, 0, .mir _ _, hd, _ => absurd hd (by omega)
  | d + 1, d' + 1, .mir b r, hd, h => ⟨h.1, Wf.mono hC hT (by omega) h.2.1, Wf.mono hC hT hd h.2.2⟩
namespace Prog
theorem app_nil : ∀ p : Prog, p.app .nil = p
  | .nil => rfl
  | .step w n r => by rw [app, app_nil r]
  | .turn k r => by rw [app, app_nil r]
  | .rep k b r => by rw [app, app_nil r]
  | .mir b r => by rw [app, app_nil r]
theorem app_assoc : ∀ p q r : Prog, (p.app q).app r = p.app (q.app r)
  | .nil, _, _ => rfl
  | .step w n p, q, r => by rw [app, app, app, app_assoc p q r]
  | .turn k p, q, r => by rw [app, app, app, app_assoc p q r]
  | .rep k b p, q, r => by rw [app, app, app, app_assoc p q r]
  | .mir b p, q, r => by rw [app, app, app, app_assoc p q r]
theorem len_app : ∀ p q : Prog, (p.app q).len = p.len + q.len
  | .nil, q => by rw [app, len, Nat.zero_add]
  | .step w n p, q => by rw [app, len, len, len_app p q]; omega
  | .turn k p, q => by rw [app, len, len, len_app p q]; omega
  | .rep k b p, q => by rw [app, len, len, len_app p q]; omega
  | .mir b p, q => by rw [app, len, len, len_app p q]; omega
theorem size_app : ∀ p q : Prog, (p.app q).size = p.size + q.size
  | .nil, q => by rw [app, size]; omega
  | .step w n p, q => by rw [app, size, size, size_app p q]; omega
  | .turn k p, q => by rw [app, size, size, size_app p q]; omega
  | .rep k b p, q => by rw [app, size, size, size_app p q]; omega
  | .mir b p, q => by rw [app, size, size, size_app p q]; omega
theorem head_app : ∀ p q : Prog, (p.app q).head = p.head + q.head
  | .nil, q => by rw [app, head]; omega
  | .step w n p, q => by rw [app, head, head, head_app p q]
  | .turn k p, q => by rw [app, head, head, head_app p q]; omega
  | .rep k b p, q => by rw [app, head, head, head_app p q]; omega
  | .mir b p, q => by rw [app, head, head, head_app p q]; omega
theorem turns_app : ∀ p q : Prog, (p.app q).turns = p.turns ++ q.turns
  | .nil, q => by rw [app, turns, List.nil_append]
  | .step w n p, q => by rw [app, turns, turns, turns_app p q]
  | .turn k p, q => by rw [app, turns, turns, turns_app p q, List.cons_append]
  | .rep k b p, q => by rw [app, turns, turns, turns_app p q]
  | .mir b p, q => by rw [app, turns, turns, turns_app p q]
theorem size_nonneg {C T : Int} : ∀ {d : Nat} {p : Prog}, Wf C T d p → 0 ≤ p.size
  | _, .nil, _ => by rw [size]; omega
  | d, .step w n r, h => by have := size_nonneg (Wf.step_iff.mp h).2.2; rw [size]; omega
  | d, .turn k r, h => by have := size_nonneg (Wf.turn_iff.mp h).2; rw [size]; omega
  | 0, .rep _ _ _, h => h.elim
  | d + 1, .rep k b r, h => by
    have h1 := size_nonneg h.2.2.1
    have h2 := size_nonneg h.2.2.2
    have h3 : 0 ≤ k * b.size := Int.mul_nonneg (by have := h.1.1; omega) h1
    rw [size]; omega
  | 0, .mir _ _, h => h.elim
  | d + 1, .mir b r, h => by
    have h1 := size_nonneg h.2.1
    have h2 := size_nonneg h.2.2
    rw [size]; omega
theorem len_times (n : Nat) (p : Prog) : (times n p).len = n * p.len := by
  induction n with
  | zero => rw [times, len, Nat.zero_mul]
  | succ n ih => rw [times, len_app, ih, Nat.succ_mul]; omega
theorem times_succ : ∀ (n : Nat) (p : Prog), times (n + 1) p = (times n p).app p
  | 0, p => by show p.app .nil = _; rw [app_nil]; rfl
  | n + 1, p => by
    have ih := times_succ n p
    show p.app (times (n + 1) p) = (p.app (times n p)).app p
    rw [ih, app_assoc]
theorem turns_times (n : Nat) (p : Prog) : (times n p).turns.sum = n * p.turns.sum := by
  induction n with
  | zero => rw [times, turns]; simp
  | succ n ih => rw [times, turns_app, List.sum_append, ih, Int.natCast_succ, Int.add_mul]; omega
/-- unrolled it has as many commands as its size -/
theorem len_unroll {C T : Int} : ∀ {d : Nat} {p : Prog} (s : Int), Wf C T d p → ((unroll s p).len : Int) = p.size
  | _, .nil, s, _ => by rw [unroll, len, size]; rfl
  | d, .step w n r, s, h => by have := len_unroll s (Wf.step_iff.mp h).2.2; rw [unroll, len, size]; omega
  | d, .turn k r, s, h => by have := len_unroll s (Wf.turn_iff.mp h).2; rw [unroll, len, size]; omega
  | 0, .rep _ _ _, s, h => h.elim
  | d + 1, .rep k b r, s, h => by
    have h1 := len_unroll s h.2.2.1
    have h2 := len_unroll s h.2.2.2
    have hk := h.1.1
    rw [unroll, len_app, len_times, size, ← h1, ← h2, Int.natCast_add, Int.natCast_mul, Int.toNat_of_nonneg (by omega)]
  | 0, .mir _ _, s, h => h.elim
  | d + 1, .mir b r, s, h => by
    have h1 := len_unroll (-s) h.2.1
    have h2 := len_unroll s h.2.2
    rw [unroll, len_app, size]; omega
/-- the sum of its turns -/
theorem turns_unroll {C T : Int} : ∀ {d : Nat} {p : Prog} (s : Int), Wf C T d p → (unroll s p).turns.sum = s * p.head
  | _, .nil, s, _ => by rw [unroll, turns, head]; simp
  | d, .step w n r, s, h => by have := turns_unroll s (Wf.step_iff.mp h).2.2; rw [unroll, turns, head]; omega
  | d, .turn k r, s, h => by have := turns_unroll s (Wf.turn_iff.mp h).2; rw [unroll, turns, head, List.sum_cons, this, Int.mul_add]
  | 0, .rep _ _ _, s, h => h.elim
  | d + 1, .rep k b r, s, h => by
    have h1 := turns_unroll s h.2.2.1
    have h2 := turns_unroll s h.2.2.2
    have hk := h.1.1
    rw [unroll, turns_app, List.sum_append, turns_times, h1, h2, head, Int.toNat_of_nonneg (by omega), Int.mul_add, Int.mul_left_comm]
  | 0, .mir _ _, s, h => h.elim
  | d + 1, .mir b r, s, h => by
    have h1 := turns_unroll (-s) h.2.1
    have h2 := turns_unroll s h.2.2
    rw [unroll, turns_app, List.sum_append, h1, h2, head, Int.mul_add, Int.neg_mul, Int.mul_neg]
/-- a flat program: steps and turns alone -/
theorem wf_times {C T : Int} {d : Nat} {p : Prog} (h : Wf C T d p) : ∀ n, Wf C T d (times n p)
  | 0 => Wf.nil
  | n + 1 => Wf.app h (wf_times h n)
theorem wf_unroll {C T : Int} : ∀ {d : Nat} {p : Prog} {s : Int}, (s = 1 ∨ s = -1) → Wf C T d p → Wf C T 0 (unroll s p)
  | _, .nil, s, _, _ => Wf.nil
  | d, .step w n r, s, hs, h => by
    have h := Wf.step_iff.mp h
    exact Wf.step_iff.mpr ⟨h.1, h.2.1, wf_unroll hs h.2.2⟩
  | d, .turn k r, s, hs, h => by
    have h := Wf.turn_iff.mp h
    refine Wf.turn_iff.mpr ⟨?_, wf_unroll hs h.2⟩
    rcases hs with rfl | rfl <;> omega
  | 0, .rep _ _ _, s, _, h => h.elim
  | d + 1, .rep k b r, s, hs, h => Wf.app (wf_times (wf_unroll hs h.2.2.1) _) (wf_unroll hs h.2.2.2)
  | 0, .mir _ _, s, _, h => h.elim
  | d + 1, .mir b r, s, hs, h => Wf.app (wf_unroll (by omega) h.2.1) (wf_unroll hs h.2.2)
theorem wf_take {C T : Int} : ∀ {n d : Nat} {p : Prog}, Wf C T d p → Wf C T d (p.take n)
  | 0, _, p, _ => Wf.nil
  | n + 1, _, .nil, _ => Wf.nil
  | n + 1, d, .step w m r, h => by
    have h := Wf.step_iff.mp h
    exact Wf.step_iff.mpr ⟨h.1, h.2.1, wf_take h.2.2⟩
  | n + 1, d, .turn k r, h => by
    have h := Wf.turn_iff.mp h
    exact Wf.turn_iff.mpr ⟨h.1, wf_take h.2⟩
  | n + 1, 0, .rep _ _ _, h => h.elim
  | n + 1, d + 1, .rep k b r, h => ⟨h.1, h.2.1, h.2.2.1, wf_take h.2.2.2⟩
  | n + 1, 0, .mir _ _, h => h.elim
  | n + 1, d + 1, .mir b r, h => ⟨h.1, h.2.1, wf_take h.2.2⟩
theorem len_take : ∀ (n : Nat) (p : Prog), (p.take n).len = min n p.len
  | 0, p => by rw [take, len]; omega
  | n + 1, .nil => by rw [take, len]; omega
  | n + 1, .step w m r => by rw [take, len, len, len_take n r]; omega
  | n + 1, .turn k r => by rw [take, len, len, len_take n r]; omega
  | n + 1, .rep k b r => by rw [take, len, len, len_take n r]; omega
  | n + 1, .mir b r => by rw [take, len, len, len_take n r]; omega
theorem len_le_size {C T : Int} : ∀ {d : Nat} {p : Prog}, Wf C T d p → (p.len : Int) ≤ p.size
  | _, .nil, _ => by rw [size, len]; omega
  | d, .step w n r, h => by have := len_le_size (Wf.step_iff.mp h).2.2; rw [size, len]; omega
  | d, .turn k r, h => by have := len_le_size (Wf.turn_iff.mp h).2; rw [size, len]; omega
  | 0, .rep _ _ _, h => h.elim
  | d + 1, .rep k b r, h => by
    have h1 := len_le_size h.2.2.1
    have h2 := len_le_size h.2.2.2
    have h3 : 1 * 1 ≤ k * b.size := Int.mul_le_mul h.1.1 (by have := h.2.1.1; omega) (by omega) (by have := h.1.1; omega)
    rw [size, len]; omega
  | 0, .mir _ _, h => h.elim
  | d + 1, .mir b r, h => by
    have h1 := len_le_size h.2.1
    have h2 := len_le_size h.2.2
    have := h.1.1
    rw [size, len]; omega
theorem size_flat {C T : Int} : ∀ {p : Prog}, Wf C T 0 p → p.size = p.len
  | .nil, _ => by rw [size, len]; rfl
  | .step w n r, h => by have := size_flat (Wf.step_iff.mp h).2.2; rw [size, len]; omega
  | .turn k r, h => by have := size_flat (Wf.turn_iff.mp h).2; rw [size, len]; omega
  | .rep _ _ _, h => h.elim
  | .mir _ _, h => h.elim
/-- how great a size can be -/
theorem size_le {C T : Int} (hC : 1 ≤ C) : ∀ {d : Nat} {p : Prog}, Wf C T d p → p.size ≤ p.len * (1000 * C) ^ d
  | _, .nil, _ => by rw [size, len]; simp
  | d, .step w n r, h => by
    have h1 := size_le hC (Wf.step_iff.mp h).2.2
    have h2 : (0 : Int) < (1000 * C) ^ d := Int.pow_pos (by omega)
    rw [size, len, Int.natCast_succ, Int.add_mul, Int.one_mul]; omega
  | d, .turn k r, h => by
    have h1 := size_le hC (Wf.turn_iff.mp h).2
    have h2 : (0 : Int) < (1000 * C) ^ d := Int.pow_pos (by omega)
    rw [size, len, Int.natCast_succ, Int.add_mul, Int.one_mul]; omega
  | 0, .rep _ _ _, h => h.elim
  | d + 1, .rep k b r, h => by
    have h1 := size_le hC h.2.2.1
    have h2 := size_le hC h.2.2.2
    have h0 := size_nonneg h.2.2.1
    have hp : (0 : Int) ≤ (1000 * C) ^ d := Int.le_of_lt (Int.pow_pos (by omega))
    have h3 : b.size ≤ 1000 * (1000 * C) ^ d := Int.le_trans h1 (Int.mul_le_mul_of_nonneg_right (by have := h.2.1.2; omega) hp)
    have h4 : k * b.size ≤ C * (1000 * (1000 * C) ^ d) := Int.mul_le_mul h.1.2 h3 h0 (by omega)
    have h5 : C * (1000 * (1000 * C) ^ d) = (1000 * C) ^ (d + 1) := by rw [Int.pow_succ, Int.mul_comm ((1000 * C) ^ d), ← Int.mul_assoc, Int.mul_comm C]
    rw [size, len, Int.natCast_succ, Int.add_mul, Int.one_mul]; omega
  | 0, .mir _ _, h => h.elim
  | d + 1, .mir b r, h => by
    have h1 := size_le hC h.2.1
    have h2 := size_le hC h.2.2
    have hp : (0 : Int) ≤ (1000 * C) ^ d := Int.le_of_lt (Int.pow_pos (by omega))
    have h3 : b.size ≤ 1000 * (1000 * C) ^ d := Int.le_trans h1 (Int.mul_le_mul_of_nonneg_right (by have := h.1.2; omega) hp)
    have h4 : 1 * (1000 * (1000 * C) ^ d) ≤ C * (1000 * (1000 * C) ^ d) := Int.mul_le_mul_of_nonneg_right hC (Int.mul_nonneg (by omega) hp)
    have h5 : C * (1000 * (1000 * C) ^ d) = (1000 * C) ^ (d + 1) := by rw [Int.pow_succ, Int.mul_comm ((1000 * C) ^ d), ← Int.mul_assoc, Int.mul_comm C]
    rw [size, len, Int.natCast_succ, Int.add_mul, Int.one_mul]; omega
/-- how great a heading can be -/
theorem head_le {C T : Int} (hC : 1 ≤ C) (hT : 0 ≤ T) : ∀ {d : Nat} {p : Prog}, Wf C T d p → p.head.natAbs ≤ T * p.size
  | _, .nil, _ => by rw [size, head]; simp
  | d, .step w n r, h => by
    have h1 := head_le hC hT (Wf.step_iff.mp h).2.2
    rw [size, head, Int.mul_add, Int.mul_one]; omega
  | d, .turn k r, h => by
    have h0 := (Wf.turn_iff.mp h).1
    have h1 := head_le hC hT (Wf.turn_iff.mp h).2
    rw [size, head, Int.mul_add, Int.mul_one]; omega
  | 0, .rep _ _ _, h => h.elim
  | d + 1, .rep k b r, h => by
    have h1 := head_le hC hT h.2.2.1
    have h2 := head_le hC hT h.2.2.2
    have h3 : ((k * b.head).natAbs : Int) ≤ T * (k * b.size) := by
      rw [Int.natAbs_mul, Int.natCast_mul, Int.mul_left_comm, Int.natAbs_of_nonneg (show 0 ≤ k by have := h.1.1; omega)]
      exact Int.mul_le_mul_of_nonneg_left h1 (by have := h.1.1; omega)
    rw [size, head, Int.mul_add]; omega
  | 0, .mir _ _, h => h.elim
  | d + 1, .mir b r, h => by
    have h1 := head_le hC hT h.2.1
    have h2 := head_le hC hT h.2.2
    rw [size, head, Int.mul_add]; omega
end Prog
end My

set_option Elab.async false
set_option linter.all false
set_option maxRecDepth 100000
namespace My
open PySem PySem.Spec PyProof.Rows L2
/-! ### programs on the heap -/
/-- the tuples stay -/
def Tk (H H' : Hp) : Prop := ∀ c xs, H c = some (.tup xs) → H' c = some (.tup xs)
theorem Tk.refl (H : Hp) : Tk H H := fun _ _ h => h
theorem Tk.trans {H H1 H2 : Hp} (h : Tk H H1) (k : Tk H1 H2) : Tk H H2 := fun c xs e => k c xs (h c xs e)
theorem Tk.same {H H' : Hp} (h : Same H H') : Tk H H' := fun c xs e => h c _ e
theorem Tk.but {H H' : Hp} {a : Addr} (h : But a H H') (b : Bag H a) : Tk H H' := fun c xs e => by
  obtain ⟨x, y, z, ea, _⟩ := b
  exact h c _ (ne_of e ea (by intro z; cases z)) e
theorem Tk.new {H H' : Hp} {p : Addr} {o : HO} (h : Tk H H') (n : H' p = none) : Tk H (upd H' p o) := fun c xs e => h_keep (h c xs e) n
theorem Tk.lst {H H' : Hp} {p : Addr} {l : List V} {o : HO} (h : Tk H H') (n : H' p = some (.lst l)) : Tk H (upd H' p o) := fun c xs e => (upd_ne (ne_of (h c xs e) n (by intro z; cases z))).trans (h c xs e)
def PrAt (H : Hp) : Prog → List V → Prop
  | .nil, xs => xs = []
  | .step w n r, xs => ∃ c ys, xs = .ref c :: ys ∧ H c = some (.tup [.str w, .str n]) ∧ PrAt H r ys
  | .turn k r, xs => ∃ c ys, xs = .ref c :: ys ∧ H c = some (.tup [.str "turn", .int k]) ∧ PrAt H r ys
  | .rep k b r, xs => ∃ c q zs ys, xs = .ref c :: ys ∧ H c = some (.tup [.str "repeat", .int k, .ref q]) ∧ H q = some (.tup zs) ∧ PrAt H b zs ∧ PrAt H r ys
  | .mir b r, xs => ∃ c q zs ys, xs = .ref c :: ys ∧ H c = some (.tup [.str "mirror", .ref q]) ∧ H q = some (.tup zs) ∧ PrAt H b zs ∧ PrAt H r ys
def PrIs (H : Hp) (a : Addr) (p : Prog) : Prop := ∃ xs, H a = some (.tup xs) ∧ PrAt H p xs
theorem PrAt.tk {H H' : Hp} (t : Tk H H') : ∀ {p : Prog} {xs : List V}, PrAt H p xs → PrAt H' p xs
  | .nil, _, h => h
  | .step w n r, _, ⟨c, ys, e, h1, h2⟩ => ⟨c, ys, e, t _ _ h1, h2.tk t⟩
  | .turn k r, _, ⟨c, ys, e, h1, h2⟩ => ⟨c, ys, e, t _ _ h1, h2.tk t⟩
  | .rep k b r, _, ⟨c, q, zs, ys, e, h1, h2, h3, h4⟩ => ⟨c, q, zs, ys, e, t _ _ h1, t _ _ h2, h3.tk t, h4.tk t⟩
  | .mir b r, _, ⟨c, q, zs, ys, e, h1, h2, h3, h4⟩ => ⟨c, q, zs, ys, e, t _ _ h1, t _ _ h2, h3.tk t, h4.tk t⟩
theorem PrIs.tk {H H' : Hp} {a : Addr} {p : Prog} (h : PrIs H a p) (t : Tk H H') : PrIs H' a p := let ⟨xs, e, q⟩ := h; ⟨xs, t _ _ e, q.tk t⟩
theorem PrAt.length {H : Hp} : ∀ {p : Prog} {xs : List V}, PrAt H p xs → xs.length = p.len
  | .nil, _, h => by rw [show _ = [] from h]; rfl
  | .step w n r, _, ⟨c, ys, e, h1, h2⟩ => by rw [e, List.length_cons, h2.length]; rfl
  | .turn k r, _, ⟨c, ys, e, h1, h2⟩ => by rw [e, List.length_cons, h2.length]; rfl
  | .rep k b r, _, ⟨c, q, zs, ys, e, h1, h2, h3, h4⟩ => by rw [e, List.length_cons, h4.length]; rfl
  | .mir b r, _, ⟨c, q, zs, ys, e, h1, h2, h3, h4⟩ => by rw [e, List.length_cons, h4.length]; rfl
theorem PrAt.app {H : Hp} : ∀ {p q : Prog} {xs ys : List V}, PrAt H p xs → PrAt H q ys → PrAt H (p.app q) (xs ++ ys)
  | .nil, q, xs, ys, h, k => by rw [show xs = [] from h]; exact k
  | .step w n r, q, _, ys, ⟨c, zs, e, h1, h2⟩, k => ⟨c, zs ++ ys, by rw [e]; rfl, h1, h2.app k⟩
  | .turn k' r, q, _, ys, ⟨c, zs, e, h1, h2⟩, k => ⟨c, zs ++ ys, by rw [e]; rfl, h1, h2.app k⟩
  | .rep k' b r, q, _, ys, ⟨c, q', zs, ws, e, h1, h2, h3, h4⟩, k => ⟨c, q', zs, ws ++ ys, by rw [e]; rfl, h1, h2, h3, h4.app k⟩
  | .mir b r, q, _, ys, ⟨c, q', zs, ws, e, h1, h2, h3, h4⟩, k => ⟨c, q', zs, ws ++ ys, by rw [e]; rfl, h1, h2, h3, h4.app k⟩
theorem PrAt.take {H : Hp} : ∀ {n : Nat} {p : Prog} {xs : List V}, PrAt H p xs → PrAt H (p.take n) (xs.take n)
  | 0, p, xs, h => by rw [Prog.take, List.take_zero]; rfl
  | n + 1, .nil, xs, h => by rw [show xs = [] from h, Prog.take, List.take_nil]; rfl
  | n + 1, .step w m r, _, ⟨c, zs, e, h1, h2⟩ => ⟨c, zs.take n, by rw [e, List.take_succ_cons], h1, h2.take⟩
  | n + 1, .turn k r, _, ⟨c, zs, e, h1, h2⟩ => ⟨c, zs.take n, by rw [e, List.take_succ_cons], h1, h2.take⟩
  | n + 1, .rep k b r, _, ⟨c, q', zs, ws, e, h1, h2, h3, h4⟩ => ⟨c, q', zs, ws.take n, by rw [e, List.take_succ_cons], h1, h2, h3, h4.take⟩
  | n + 1, .mir b r, _, ⟨c, q', zs, ws, e, h1, h2, h3, h4⟩ => ⟨c, q', zs, ws.take n, by rw [e, List.take_succ_cons], h1, h2, h3, h4.take⟩
/-- x is the first command of r, r' the rest -/
def First (H : Hp) : Prog → V → Prog → Prop
  | .nil, _, _ => False
  | .step w n r, x, r' => ∃ c, x = .ref c ∧ H c = some (.tup [.str w, .str n]) ∧ r' = r
  | .turn k r, x, r' => ∃ c, x = .ref c ∧ H c = some (.tup [.str "turn", .int k]) ∧ r' = r
  | .rep k b r, x, r' => ∃ c q, x = .ref c ∧ H c = some (.tup [.str "repeat", .int k, .ref q]) ∧ PrIs H q b ∧ r' = r
  | .mir b r, x, r' => ∃ c q, x = .ref c ∧ H c = some (.tup [.str "mirror", .ref q]) ∧ PrIs H q b ∧ r' = r
theorem First.tk {H H' : Hp} {r r' : Prog} {x : V} (h : First H r x r') (t : Tk H H') : First H' r x r' := by
  cases r with
  | nil => exact h.elim
  | step w n r => obtain ⟨c, e, h1, e2⟩ := h; exact ⟨c, e, t _ _ h1, e2⟩
  | turn k r => obtain ⟨c, e, h1, e2⟩ := h; exact ⟨c, e, t _ _ h1, e2⟩
  | rep k b r => obtain ⟨c, q, e, h1, h2, e2⟩ := h; exact ⟨c, q, e, t _ _ h1, h2.tk t, e2⟩
  | mir b r => obtain ⟨c, q, e, h1, h2, e2⟩ := h; exact ⟨c, q, e, t _ _ h1, h2.tk t, e2⟩
theorem PrAt.first {H : Hp} {r : Prog} {x : V} {ys : List V} (h : PrAt H r (x :: ys)) : ∃ r', First H r x r' ∧ PrAt H r' ys := by
  cases r with
  | nil => cases (show (x :: ys) = [] from h)
  | step w n r => obtain ⟨c, zs, e, h1, h2⟩ := h; cases e; exact ⟨r, ⟨c, rfl, h1, rfl⟩, h2⟩
  | turn k r => obtain ⟨c, zs, e, h1, h2⟩ := h; cases e; exact ⟨r, ⟨c, rfl, h1, rfl⟩, h2⟩
  | rep k b r => obtain ⟨c, q, zs, ws, e, h1, h2, h3, h4⟩ := h; cases e; exact ⟨r, ⟨c, q, rfl, h1, ⟨zs, h2, h3⟩, rfl⟩, h4⟩
  | mir b r => obtain ⟨c, q, zs, ws, e, h1, h2, h3, h4⟩ := h; cases e; exact ⟨r, ⟨c, q, rfl, h1, ⟨zs, h2, h3⟩, rfl⟩, h4⟩
theorem PrAt.cons {H : Hp} {r r' : Prog} {x : V} {ys : List V} (h : First H r x r') (k : PrAt H r' ys) : PrAt H r (x :: ys) := by
  cases r with
  | nil => exact h.elim
  | step w n r => obtain ⟨c, rfl, h1, rfl⟩ := h; exact ⟨c, ys, rfl, h1, k⟩
  | turn n r => obtain ⟨c, rfl, h1, rfl⟩ := h; exact ⟨c, ys, rfl, h1, k⟩
  | rep n b r => obtain ⟨c, q, rfl, h1, ⟨zs, h2, h3⟩, rfl⟩ := h; exact ⟨c, q, zs, ys, rfl, h1, h2, h3, k⟩
  | mir b r => obtain ⟨c, q, rfl, h1, ⟨zs, h2, h3⟩, rfl⟩ := h; exact ⟨c, q, zs, ys, rfl, h1, h2, h3, k⟩
theorem drop_cons {α : Type} {xs : List α} {i : Nat} {x : α} (h : xs[i]? = some x) : xs.drop i = x :: xs.drop (i + 1) := by
  obtain ⟨hi, e⟩ := List.getElem?_eq_some_iff.mp h
  rw [← e]
  exact List.drop_eq_getElem_cons hi
section
variable {σ : L2.St} {H : Hp} {K : PySem.W.Frag} {D : Ends} {tb : TS} {g : TG} {a : Addr} {xs : List V} {p : Prog}
/-- for command in program -/
theorem u_forPr (h : H a = some (.tup xs)) (hp : PrAt H p xs) (I : Prog → L2.St → Hp → Prop) (h0 : I p σ H) (hk : ∀ r σ H', I r σ H' → Tk H H')
    (hs : ∀ x r r' σ H', First H' r x r' → I r σ H' → g x σ H' fun σ2 H2 => tb { D with nx := I r', ct := I r', bk := D.nx } σ2 H2) (hd : ∀ σ H', I .nil σ H' → D.nx σ H') :
    ∃ b, V.ref a = .ref b ∧ (∃ xs, SqT K H b xs) ∧ ∃ W : Nat → Nat → L2.St → Hp → Prop, (∃ m, W 0 m σ H) ∧ ∀ i m σ H, W i m σ H →
      ((Itt K b).stop i H ∧ D.nx σ H) ∨ ((Itt K b).go i H ∧ ∃ N : L2.St → Hp → Prop, (∀ σ' H', N σ' H' → ∃ m', m' < m ∧ W (i + 1) m' σ' H') ∧ ∀ x H', (Itt K b).yld i H x H' → g x σ H' fun σ2 H2 => tb { D with nx := N, ct := N, bk := D.nx } σ2 H2) := by
  refine ⟨a, rfl, ⟨xs, .of h⟩, ⟨fun i m σ' H' => m = xs.length - i ∧ i ≤ xs.length ∧ ∃ r, PrAt H r (xs.drop i) ∧ I r σ' H', ⟨xs.length, by simp, Nat.zero_le _, p, hp, h0⟩, ?_⟩⟩
  rintro i m σ' H' ⟨rfl, hi, r, hr, ir⟩
  have hT : SqT K H' a xs := .of (hk _ _ _ ir _ _ h)
  by_cases hlt : i < xs.length
  · have hx : xs[i]? = some xs[i] := List.getElem?_eq_getElem hlt
    rw [drop_cons hx] at hr
    obtain ⟨r', f, hr'⟩ := hr.first
    refine .inr ⟨⟨xs, xs[i], hT, hx⟩, I r', fun σ2 H2 q => ⟨_, by omega, rfl, hlt, r', hr', q⟩, fun x H2 hy => ?_⟩
    obtain ⟨rfl, fx⟩ := hy
    have ex : x = xs[i] := Option.some.inj ((fx xs hT).symm.trans hx)
    subst ex
    exact hs _ r r' _ _ (f.tk (hk _ _ _ ir)) ir
  · have e : i = xs.length := by omega
    subst e
    rw [List.drop_length] at hr
    have hn : r = .nil := by
      cases r with
      | nil => rfl
      | step w n r => obtain ⟨c, zs, e, _⟩ := hr; cases e
      | turn k r => obtain ⟨c, zs, e, _⟩ := hr; cases e
      | rep k b r => obtain ⟨c, q, zs, ws, e, _⟩ := hr; cases e
      | mir b r => obtain ⟨c, q, zs, ws, e, _⟩ := hr; cases e
    subst hn
    exact .inl ⟨⟨xs, hT, Nat.le_refl _⟩, hd _ _ ir⟩
/-- [.. for command in program] -/
theorem u_lcPr {tt : TT} {te : TE} {vs : List Nat} {Qd : Addr → Hp → Prop} (h : H a = some (.tup xs)) (hp : PrAt H p xs) (I : Addr → Prog → List V → Hp → Prop) (h0 : ∀ D, H D = none → I D p [] (upd H D (.lst [])))
    (hk : ∀ D r acc H', H D = none → I D r acc H' → Tk H H')
    (hs : ∀ D x r r' acc H', H D = none → First H' r x r' → H' D = some (.lst acc) → I D r acc H' → g x (wipe σ vs) H' fun σ2 H2 => wipe σ2 vs = wipe σ vs ∧ tt σ2 H2 fun b H3 => if b = true then te σ2 H3 fun y H4 => LcPush D (fun D _ acc H' => I D r' acc H') 0 H4 y else LcSkip D (fun D _ acc H' => I D r' acc H') 0 H3)
    (hd : ∀ D acc H', H D = none → H' D = some (.lst acc) → I D .nil acc H' → Qd D H') :
    ∃ b, V.ref a = .ref b ∧ (∃ xs, SqT K H b xs) ∧ ∀ D, H D = none → ∃ W : Nat → Nat → Hp → Prop, (∃ m, W 0 m (upd H D (.lst []))) ∧ ∀ i m H, W i m H →
      ((Itt K b).stop i H ∧ Qd D H) ∨ ((Itt K b).go i H ∧ ∃ Nx : Hp → Prop, (∀ H', Nx H' → ∃ m', m' < m ∧ W (i + 1) m' H') ∧ ∀ x H', (Itt K b).yld i H x H' → g x (wipe σ vs) H' fun σ2 H2 => wipe σ2 vs = wipe σ vs ∧ tt σ2 H2 fun b H3 =>
        if b = true then te σ2 H3 fun y H4 => ∃ acc, H4 D = some (.lst acc) ∧ acc.length < sizeLine ∧ Nx (upd H4 D (.lst (acc ++ [y]))) else Nx H3) := by
  refine ⟨a, rfl, ⟨xs, .of h⟩, fun D hD => ⟨fun i m H' => m = xs.length - i ∧ i ≤ xs.length ∧ ∃ r acc, PrAt H r (xs.drop i) ∧ H' D = some (.lst acc) ∧ I D r acc H', ⟨xs.length, by simp, Nat.zero_le _, p, [], hp, upd_same, h0 D hD⟩, ?_⟩⟩
  rintro i m H' ⟨rfl, hi, r, acc, hr, ha, ir⟩
  have hT : SqT K H' a xs := .of (hk _ _ _ _ hD ir _ _ h)
  by_cases hlt : i < xs.length
  · have hx : xs[i]? = some xs[i] := List.getElem?_eq_getElem hlt
    rw [drop_cons hx] at hr
    obtain ⟨r', f, hr'⟩ := hr.first
    refine .inr ⟨⟨xs, xs[i], hT, hx⟩, fun H2 => ∃ acc, H2 D = some (.lst acc) ∧ I D r' acc H2, fun H2 ⟨acc', h1, q⟩ => ⟨_, by omega, rfl, hlt, r', acc', hr', h1, q⟩, fun x H2 hy => ?_⟩
    obtain ⟨rfl, fx⟩ := hy
    have ex : x = xs[i] := Option.some.inj ((fx xs hT).symm.trans hx)
    subst ex
    exact hs D _ r r' acc _ hD (f.tk (hk _ _ _ _ hD ir)) ha ir
  · have e : i = xs.length := by omega
    subst e
    rw [List.drop_length] at hr
    have hn : r = .nil := by
      cases r with
      | nil => rfl
      | step w n r => obtain ⟨c, zs, e, _⟩ := hr; cases e
      | turn k r => obtain ⟨c, zs, e, _⟩ := hr; cases e
      | rep k b r => obtain ⟨c, q, zs, ws, e, _⟩ := hr; cases e
      | mir b r => obtain ⟨c, q, zs, ws, e, _⟩ := hr; cases e
    subst hn
    exact .inl ⟨⟨xs, hT, Nat.le_refl _⟩, hd _ _ _ hD ha ir⟩
/-- [.. for command in a list of commands] -/
theorem u_lcPrL {tt : TT} {te : TE} {vs : List Nat} {Qd : Addr → Hp → Prop} (h : H a = some (.lst xs)) (hp : PrAt H p xs) (I : Addr → Prog → List V → Hp → Prop) (h0 : ∀ D, H D = none → I D p [] (upd H D (.lst [])))
    (hk : ∀ D r acc H', H D = none → I D r acc H' → Tk H H' ∧ H' a = some (.lst xs))
    (hs : ∀ D x r r' acc H', H D = none → First H' r x r' → H' D = some (.lst acc) → I D r acc H' → g x (wipe σ vs) H' fun σ2 H2 => wipe σ2 vs = wipe σ vs ∧ tt σ2 H2 fun b H3 => if b = true then te σ2 H3 fun y H4 => LcPush D (fun D _ acc H' => I D r' acc H') 0 H4 y else LcSkip D (fun D _ acc H' => I D r' acc H') 0 H3)
    (hd : ∀ D acc H', H D = none → H' D = some (.lst acc) → I D .nil acc H' → Qd D H') :
    ∃ b, V.ref a = .ref b ∧ (∃ xs, SqL K H b xs) ∧ ∀ D, H D = none → ∃ W : Nat → Nat → Hp → Prop, (∃ m, W 0 m (upd H D (.lst []))) ∧ ∀ i m H, W i m H →
      ((Itl K b).stop i H ∧ Qd D H) ∨ ((Itl K b).go i H ∧ ∃ Nx : Hp → Prop, (∀ H', Nx H' → ∃ m', m' < m ∧ W (i + 1) m' H') ∧ ∀ x H', (Itl K b).yld i H x H' → g x (wipe σ vs) H' fun σ2 H2 => wipe σ2 vs = wipe σ vs ∧ tt σ2 H2 fun b H3 =>
        if b = true then te σ2 H3 fun y H4 => ∃ acc, H4 D = some (.lst acc) ∧ acc.length < sizeLine ∧ Nx (upd H4 D (.lst (acc ++ [y]))) else Nx H3) := by
  refine ⟨a, rfl, ⟨xs, .of h⟩, fun D hD => ⟨fun i m H' => m = xs.length - i ∧ i ≤ xs.length ∧ ∃ r acc, PrAt H r (xs.drop i) ∧ H' D = some (.lst acc) ∧ I D r acc H', ⟨xs.length, by simp, Nat.zero_le _, p, [], hp, upd_same, h0 D hD⟩, ?_⟩⟩
  rintro i m H' ⟨rfl, hi, r, acc, hr, ha, ir⟩
  have hT : SqL K H' a xs := .of (hk _ _ _ _ hD ir).2
  by_cases hlt : i < xs.length
  · have hx : xs[i]? = some xs[i] := List.getElem?_eq_getElem hlt
    rw [drop_cons hx] at hr
    obtain ⟨r', f, hr'⟩ := hr.first
    refine .inr ⟨⟨xs, xs[i], hT, hx⟩, fun H2 => ∃ acc, H2 D = some (.lst acc) ∧ I D r' acc H2, fun H2 ⟨acc', h1, q⟩ => ⟨_, by omega, rfl, hlt, r', acc', hr', h1, q⟩, fun x H2 hy => ?_⟩
    obtain ⟨rfl, fx⟩ := hy
    have ex : x = xs[i] := Option.some.inj ((fx xs hT).symm.trans hx)
    subst ex
    exact hs D _ r r' acc _ hD (f.tk (hk _ _ _ _ hD ir).1) ha ir
  · have e : i = xs.length := by omega
    subst e
    rw [List.drop_length] at hr
    have hn : r = .nil := by
      cases r with
      | nil => rfl
      | step w n r => obtain ⟨c, zs, e, _⟩ := hr; cases e
      | turn k r => obtain ⟨c, zs, e, _⟩ := hr; cases e
      | rep k b r => obtain ⟨c, q, zs, ws, e, _⟩ := hr; cases e
      | mir b r => obtain ⟨c, q, zs, ws, e, _⟩ := hr; cases e
    subst hn
    exact .inl ⟨⟨xs, hT, Nat.le_refl _⟩, hd _ _ _ hD ha ir⟩
end
theorem cut_take (xs : List V) (n : Nat) : cutV xs none (some (n : Int)) = xs.take n := by
  unfold cutV
  rw [HT.sIx_none, HT.sIx_nat, List.drop_zero, Nat.sub_zero]
  by_cases h : n ≤ xs.length
  · rw [Nat.min_eq_left h]
  · rw [Nat.min_eq_right (by omega), List.take_length, List.take_of_length_le (by omega)]
/-! ### texts -/
section
variable {σ : L2.St} {H : Hp} {Q : VK} {K : PySem.W.Frag} {ta tb tc : TE} {p : Addr}
def rLenS (xs : List V) (H : Hp) (Q : VK) : Prop := ∃ z : Str, xs = [.str z] ∧ z.length ≤ sizeLine ∧ Q (.int z.length) H
theorem call_lenS {X : Cx} : CallR X (.builtin "len") rLenS := call_len_str
theorem r_lenS {z : Str} (l : z.length ≤ 100000) (q : Q (.int z.length) H) : rLenS [.str z] H Q := ⟨z, rfl, small_of l, q⟩
def rLeS : R2 := fun x y H Q => ∃ i j : Str, x = .str i ∧ y = .str j ∧ Q (.bl (!decide (j.cps.toList < i.cps.toList))) H
theorem op_leS {X : Cx} : OpR X (compareOp .LtE) rLeS := op_le_str
theorem r_leS {i j : Str} (q : Q (.bl (!decide (j.cps.toList < i.cps.toList))) H) : rLeS (.str i) (.str j) H Q := ⟨i, j, rfl, rfl, q⟩
theorem r_chain {r r' : R2} (q : ta σ H fun x H1 => tb σ H1 fun y H2 => r x y H2 fun z H3 => ∃ k, z = .bl k ∧ (if k = true then tc σ H3 fun w' H4 => r' y w' H4 Q else Q (.bl false) H3)) : tChain r r' ta tb tc σ H Q := q
theorem r_ixS {z : Str} {n : Int} {c : Nat} (l : z.length ≤ 100000) (e : atI z.cps.toList n = some c) (q : Q (.str ⟨#[c]⟩) H) : rIxS (.str z) (.int n) H Q := ⟨z, n, c, rfl, rfl, small_of l, e, q⟩
theorem r_all {bs : List Bool} (h : SqL K H p (bs.map V.bl)) (q : Q (.bl (bs.all id)) H) : rAll K [.ref p] H Q := ⟨p, bs, rfl, h, q⟩
theorem r_any {bs : List Bool} (h : SqL K H p (bs.map V.bl)) (q : Q (.bl (bs.any id)) H) : rAny K [.ref p] H Q := ⟨p, bs, rfl, h, q⟩
end
/-! ### tuples and lists of things that stand -/
section
variable {σ : L2.St} {H : Hp} {Q : VK} {K : PySem.W.Frag} {to te : TE} {p b : Addr} {xs ys : List V}
def rTupL (K : PySem.W.Frag) (vs : List V) (H : Hp) (Q : VK) : Prop := ∃ p ys, vs = [.ref p] ∧ SqL K H p ys ∧ ∀ l, H l = none → Q (.ref l) (upd H l (.tup ys))
theorem call_tupL {X : Cx} : CallR X (.type "tuple") (rTupL X.K) := fun pins s σ H xs us Q I r ⟨p, ys, e, h, q⟩ => call_tuple_of pins s σ H xs us Q I r ⟨p, ys, e, .inl ⟨h, q⟩⟩
theorem r_tupL (h : H p = some (.lst xs)) (q : ∀ l, H l = none → Q (.ref l) (upd H l (.tup xs))) : rTupL K [.ref p] H Q := ⟨p, xs, rfl, .of h, q⟩
theorem r_extend (h : H p = some (.lst xs)) (h' : H b = some (.lst ys)) (l : xs.length + ys.length ≤ 16000000) (q : Q .non (upd H p (.lst (xs ++ ys)))) : rExtend (.ref p) [.ref b] H Q := ⟨p, b, xs, ys, rfl, rfl, h, h', Nat.le_trans l (by decide), q⟩
theorem r_appendB {v : V} (h : H p = some (.lst xs)) (hl : xs.length < 16000000) (q : Q .non (upd H p (.lst (xs ++ [v])))) : rAppend (.ref p) [v] H Q := ⟨p, xs, v, rfl, rfl, h, Nat.lt_of_lt_of_le hl (by decide), q⟩
def rListT (K : PySem.W.Frag) (vs : List V) (H : Hp) (Q : VK) : Prop := ∃ p ys, vs = [.ref p] ∧ (SqL K H p ys ∨ SqT K H p ys) ∧ ∀ l, H l = none → Q (.ref l) (upd H l (.lst ys))
theorem call_listT {X : Cx} : CallR X (.type "list") (rListT X.K) := call_list_of
theorem r_listL (h : H p = some (.lst xs)) (q : ∀ l, H l = none → Q (.ref l) (upd H l (.lst xs))) : rListT K [.ref p] H Q := ⟨p, xs, rfl, .inl (.of h), q⟩
theorem r_listT (h : H p = some (.tup xs)) (q : ∀ l, H l = none → Q (.ref l) (upd H l (.lst xs))) : rListT K [.ref p] H Q := ⟨p, xs, rfl, .inr (.of h), q⟩
theorem r_catT (h : H p = some (.tup xs)) (h' : H b = some (.tup ys)) (hx : xs ≠ []) (hy : ys ≠ []) (l : xs.length + ys.length ≤ 100000) (q : ∀ c, H c = none → Q (.ref c) (upd H c (.tup (xs ++ ys)))) : rCatT K (.ref p) (.ref b) H Q :=
  ⟨p, b, xs, ys, rfl, rfl, .of h, .of h', hx, small_of l, fun e => absurd e hy, fun _ => q⟩
theorem r_tM1 {r : V → List V → Hp → VK → Prop} (q : to σ H fun x H1 => (∃ a, x = .str a) ∧ te σ H1 fun y H2 => r x [y] H2 Q) : tM1 r to te σ H Q := q
theorem r_exS {z : Str} {A : Prop} (q : A) : (∃ a, V.str z = V.str a) ∧ A := ⟨⟨z, rfl⟩, q⟩
end
theorem name_len {n : Str} (h : IsName n) : n.length = 1 := by
  obtain ⟨c, rfl, _⟩ := h
  rfl
theorem one_lt {a b : Nat} (h : b ≤ a) : ¬ ([a] : List Nat) < [b] := by
  intro q
  have : a < b := by simpa [List.cons_lt_cons_iff] using q
  omega
theorem letter_a {n : Str} (h : IsName n) : ¬ n.cps.toList < (("a" : Str)).cps.toList := by
  obtain ⟨c, rfl, h1, _⟩ := h
  rw [show (("a" : Str)).cps.toList = [97] by decide +kernel]
  exact one_lt h1
theorem letter_z {n : Str} (h : IsName n) : ¬ (("z" : Str)).cps.toList < n.cps.toList := by
  obtain ⟨c, rfl, _, h2⟩ := h
  rw [show (("z" : Str)).cps.toList = [122] by decide +kernel]
  exact one_lt h2
theorem word_ne {w : Str} (h : IsWord w) : ¬ w = "repeat" ∧ ¬ w = "mirror" ∧ ¬ w = "turn" := by
  rcases h with rfl | rfl | rfl | rfl <;> decide +kernel
def sign1 (c : Nat) : Str := ⟨#[c]⟩
theorem app_toList (x y : Str) : (x ++ y).cps.toList = x.cps.toList ++ y.cps.toList := by
  show (x.cps ++ y.cps).toList = _
  exact Array.toList_append
theorem join_signs {s : Str} (hs : s.cps.toList = []) : ∀ cs : List Nat, (Txt.join s (cs.map sign1)).cps.toList = cs := fun cs => by
  rw [TL.join_eq]
  induction cs with
  | nil => rfl
  | cons c r ih =>
    cases r with
    | nil => rfl
    | cons d r =>
      show (sign1 c ++ s ++ Str.join s ((d :: r).map sign1)).cps.toList = _
      rw [app_toList, app_toList, hs, ih]
      rfl
/-- six letters -/
def Names (z : Str) : Prop := z.cps.toList.length = 6 ∧ ∀ c ∈ z.cps.toList, 97 ≤ c ∧ c ≤ 122
theorem names_at {z : Str} {n : Int} (h : Names z) (h0 : 0 ≤ n) (h1 : n < 6) : ∃ c, atI z.cps.toList n = some c ∧ IsName ⟨#[c]⟩ := by
  have h2 : n.toNat < z.cps.toList.length := by rw [h.1]; omega
  refine ⟨z.cps.toList[n.toNat], ?_, ⟨_, rfl, h.2 _ (List.getElem_mem h2)⟩⟩
  unfold atI ixN
  rw [if_pos h0, if_pos (by rw [h.1]; omega)]
  exact List.getElem?_eq_getElem h2
theorem names_small {z : Str} (h : Names z) : z.length ≤ 100000 := by
  have := h.1
  show z.cps.size ≤ 100000
  rw [Array.length_toList] at this
  omega
theorem letter_at {n : Int} (h0 : 0 ≤ n) (h1 : n < 26) : ∃ c, atI (("abcdefghijklmnopqrstuvwxyz" : Str)).cps.toList n = some c ∧ 97 ≤ c ∧ c ≤ 122 := by
  have hl : (("abcdefghijklmnopqrstuvwxyz" : Str)).cps.toList.length = 26 := by decide +kernel
  have ha : ∀ c ∈ (("abcdefghijklmnopqrstuvwxyz" : Str)).cps.toList, 97 ≤ c ∧ c ≤ 122 := by decide +kernel
  have h2 : n.toNat < (("abcdefghijklmnopqrstuvwxyz" : Str)).cps.toList.length := by rw [hl]; omega
  refine ⟨_, ?_, ha _ (List.getElem_mem h2)⟩
  unfold atI ixN
  rw [if_pos h0, if_pos (by rw [hl]; omega)]
  exact List.getElem?_eq_getElem h2
/-- all but what stands at a and b -/
def But2 (a b : Addr) (H H' : Hp) : Prop := ∀ c o, c ≠ a → c ≠ b → H c = some o → H' c = some o
theorem But2.refl (a b : Addr) (H : Hp) : But2 a b H H := fun _ _ _ _ h => h
theorem But2.trans {a b : Addr} {H H1 H2 : Hp} (h : But2 a b H H1) (k : But2 a b H1 H2) : But2 a b H H2 := fun c o n m e => k c o n m (h c o n m e)
theorem But2.of {a b : Addr} {H H' : Hp} (h : But a H H') : But2 a b H H' := fun c o n _ e => h c o n e
theorem But2.at {a b c : Addr} {H H' : Hp} {o : HO} (h : But2 a b H H') (n : c ≠ a) (m : c ≠ b) (e : H c = some o) : H' c = some o := h c o n m e
theorem But2.new {a b p : Addr} {H H' : Hp} {o : HO} (h : But2 a b H H') (n : H' p = none) : But2 a b H (upd H' p o) := fun c u x y e => h_keep (h c u x y e) n
theorem But2.put {a b p : Addr} {H H' : Hp} {o : HO} (h : But2 a b H H') (n : H p = none) : But2 a b H (upd H' p o) := fun c u x y e => (upd_ne (ne_of_none e n)).trans (h c u x y e)
theorem But2.self {a b : Addr} {H H' : Hp} {o : HO} (h : But2 a b H H') : But2 a b H (upd H' b o) := fun c u x y e => (upd_ne y).trans (h c u x y e)
theorem But2.one {a b : Addr} {H H0 H' : Hp} (s : But a H H0) (n : H b = none) (h : But2 a b H0 H') : But a H H' := fun c o x e => h c o x (ne_of_none e n) (s c o x e)
theorem But2.free {a b p : Addr} {H H' : Hp} (h : But2 a b H H') (n : p ≠ a) (m : p ≠ b) (e : H' p = none) : H p = none := by
  cases q : H p with
  | none => rfl
  | some o => rw [h p o n m q] at e; cases e
theorem Bag.list {H : Hp} {a : Addr} (h : Bag H a) : ∃ l, H a = some (.lst l) ∧ l.length = 3 := by
  obtain ⟨x, y, z, e, _⟩ := h
  exact ⟨_, e, rfl⟩
theorem Bag.upd {H : Hp} {a p : Addr} {o : HO} (h : Bag H a) (n : a ≠ p) : Bag (upd H p o) a := by
  obtain ⟨x, y, z, e, r⟩ := h
  exact ⟨x, y, z, (upd_ne n).trans e, r⟩
/-- the program's table of steps -/
structure StepsAt (K : PySem.W.Frag) (w : World) (mg : Str → Option Value) : Prop where
  ex : ∃ d es n, KDict K w d es n ∧ mg "STEPS" = some (.ref d) ∧ ∀ x : Str, IsWord x → ∃ v, PySem.W.nsIn K d x = some (some v)
/-- the greatest counts and turns -/
def BC : Int := 10 ^ 31
theorem BC_one : 1 ≤ BC := by decide +kernel
theorem mulW_of {a b : Int} (ha : a.natAbs < 2 ^ 100000) (hb : b.natAbs < 2 ^ 100000) : CMulW a b := by
  unfold CMulW
  have h : ∀ {n : Nat}, n < 2 ^ 100000 → n.log2 < 100000 := fun {n} hn => by
    by_cases h0 : n = 0
    · rw [h0]; decide
    · exact (Nat.log2_lt h0).mpr hn
  have := h ha
  have := h hb
  omega
theorem ipow_mono {a : Int} (h : 1 ≤ a) {m n : Nat} (hm : m ≤ n) : a ^ m ≤ a ^ n := by
  obtain ⟨k, rfl⟩ : ∃ k, n = m + k := ⟨n - m, by omega⟩
  rw [Int.pow_add]
  have h1 : 1 ≤ a ^ k := by
    have : (0 : Int) < a ^ k := Int.pow_pos (by omega)
    omega
  have h2 : a ^ m * 1 ≤ a ^ m * a ^ k := Int.mul_le_mul_of_nonneg_left h1 (Int.le_of_lt (Int.pow_pos (by omega)))
  omega
/-- how great the sizes are -/
theorem size_small {d : Nat} {p : Prog} (h : Wf BC BC d p) (hd : d ≤ 20) (hl : p.len ≤ 1000) : p.size ≤ 10 ^ 683 := by
  have h1 := Prog.size_le BC_one h
  have h2 : (1000 * BC) ^ d ≤ (1000 * BC) ^ 20 := ipow_mono (by decide +kernel) hd
  have h3 : (p.len : Int) * (1000 * BC) ^ d ≤ 1000 * (1000 * BC) ^ 20 := Int.mul_le_mul (by omega) h2 (Int.le_of_lt (Int.pow_pos (by decide +kernel))) (by omega)
  exact Int.le_trans h1 (Int.le_trans h3 (by decide +kernel))
theorem size_bits {d : Nat} {p : Prog} (h : Wf BC BC d p) (hd : d ≤ 20) (hl : p.len ≤ 1000) : p.size.natAbs < 2 ^ 100000 := by
  have h1 := size_small h hd hl
  have h0 := Prog.size_nonneg h
  refine Nat.lt_of_le_of_lt (m := 10 ^ 683) ?_ (by decide +kernel)
  have : (p.size.natAbs : Int) ≤ ((10 ^ 683 : Nat) : Int) := by
    rw [Int.natAbs_of_nonneg h0]
    exact h1
  exact Int.ofNat_le.mp this
theorem head_bits {d : Nat} {p : Prog} (h : Wf BC BC d p) (hd : d ≤ 20) (hl : p.len ≤ 1000) : p.head.natAbs < 2 ^ 100000 := by
  have h1 := size_small h hd hl
  have h0 := Prog.head_le BC_one (by decide +kernel) h
  refine Nat.lt_of_le_of_lt (m := 10 ^ 714) ?_ (by decide +kernel)
  have h2 : BC * p.size ≤ BC * 10 ^ 683 := Int.mul_le_mul_of_nonneg_left h1 (by decide +kernel)
  have : (p.head.natAbs : Int) ≤ ((10 ^ 714 : Nat) : Int) := Int.le_trans h0 (Int.le_trans h2 (by decide +kernel))
  exact Int.ofNat_le.mp this
theorem count_bits {k : Int} (h0 : -BC ≤ k) (h1 : k ≤ BC) : k.natAbs < 2 ^ 100000 := by
  refine Nat.lt_of_le_of_lt (m := 10 ^ 31) ?_ (by decide +kernel)
  have : BC = 10 ^ 31 := rfl
  omega
end My

set_option Elab.async false
set_option linter.all false
set_option maxRecDepth 100000
namespace My
open PySem PySem.Spec PyProof.Rows L2
/-! ### a def called with fewer values than it has parameters -/
structure HasD (P : Program) (w : World) (K : PySem.W.Frag) (mg : Str → Option Value) (base : Heap) (x : Str) (k : Nat) (ps : List Str) (sp : Sp) (dvs : List V) : Prop where
  ex : ∃ f fd ds, FnOk P w K mg base CX0 k f fd ps sp ∧ mg x = some (.ref f) ∧ PySem.W.keepIn K (.ref f) = true ∧ Binds K fd ps ds ∧ Vals dvs ds
section
variable {X : Cx} {k : Nat} {ps : List Str} {sp : Sp} {x : Str} {p pos : Pos} {e : Expr} {es : List Expr} {t : TA} {dvs : List V}
theorem pe_callHD (h : HasD X.prog X.w X.K X.mg X.base x k ps sp dvs) (hr : Room k X.A) (ha : PA X (e :: es) t) (hg : Gl X x := by rfl) (hdb : (x == ("__debug__" : Str)) = false := by decide)
   (hs : starEach (e :: es) X.env = (false, eval e X.env) :: starEach es X.env := by rfl) (hplain : (backTo pos (starEach es X.env)).any (·.1) = false := by rfl) :
   PE X (.Call (.Name x p) (e :: es) [] pos) (tCall sp dvs E0 t) := by
  obtain ⟨f, fd, ds, F, a, b, c, d⟩ := h.ex
  exact pe_call F hr hg a b c d pass0 ha hdb hs hplain
end
theorem r_callD {sp : Sp} {E : XK} {t : TA} {d : V} {ds : List V} {σ : L2.St} {H : Hp} {Q : VK} (q : t σ H fun vs H1 => sp (vs ++ d :: ds) H1 Q E) : tCall sp (d :: ds) E t σ H Q := q
theorem r_rep {l : Addr} {k : Int} {xs : List V} {H : Hp} {Q : VK} (h : H l = some (.lst xs)) (h1 : 0 ≤ k) (h2 : k < 2 ^ 63) (hz : xs.length * k.toNat ≤ 16000000)
    (q : ∀ p, H p = none → Q (.ref p) (upd H p (.lst (List.replicate k.toNat xs).flatten))) : rRep (.ref l) (.int k) H Q := ⟨l, k, xs, rfl, rfl, h, by omega, h2, Nat.le_trans hz (by decide), q⟩
theorem PrAt.times {H : Hp} {p : Prog} {xs : List V} (h : PrAt H p xs) : ∀ n, PrAt H (Prog.times n p) (List.replicate n xs).flatten
  | 0 => rfl
  | n + 1 => by
    rw [List.replicate_succ, List.flatten_cons]
    exact h.app (h.times n)
def rAbs : List V → Hp → VK → Prop := fun xs H Q => ∃ i, xs = [.int i] ∧ Q (.int (if i < 0 then -i else i)) H
theorem call_absA {X : Cx} : CallR X (.builtin "abs") rAbs := call_abs
theorem r_abs {i : Int} {H : Hp} {Q : VK} (q : Q (.int (if i < 0 then -i else i)) H) : rAbs [.int i] H Q := ⟨i, rfl, q⟩
section
variable {σ : L2.St} {H : Hp} {K : PySem.W.Frag} {D : Ends} {tb : TS} {g : TG} {a : Addr} {xs : List V} {p : Prog}
/-- for command in a list of commands -/
theorem u_forPrL (h : H a = some (.lst xs)) (hp : PrAt H p xs) (I : Prog → L2.St → Hp → Prop) (h0 : I p σ H) (hk : ∀ r σ H', I r σ H' → Tk H H' ∧ H' a = some (.lst xs))
    (hs : ∀ x r r' σ H', First H' r x r' → I r σ H' → g x σ H' fun σ2 H2 => tb { D with nx := I r', ct := I r', bk := D.nx } σ2 H2) (hd : ∀ σ H', I .nil σ H' → D.nx σ H') :
    ∃ b, V.ref a = .ref b ∧ (∃ xs, SqL K H b xs) ∧ ∃ W : Nat → Nat → L2.St → Hp → Prop, (∃ m, W 0 m σ H) ∧ ∀ i m σ H, W i m σ H →
      ((Itl K b).stop i H ∧ D.nx σ H) ∨ ((Itl K b).go i H ∧ ∃ N : L2.St → Hp → Prop, (∀ σ' H', N σ' H' → ∃ m', m' < m ∧ W (i + 1) m' σ' H') ∧ ∀ x H', (Itl K b).yld i H x H' → g x σ H' fun σ2 H2 => tb { D with nx := N, ct := N, bk := D.nx } σ2 H2) := by
  refine ⟨a, rfl, ⟨xs, .of h⟩, ⟨fun i m σ' H' => m = xs.length - i ∧ i ≤ xs.length ∧ ∃ r, PrAt H r (xs.drop i) ∧ I r σ' H', ⟨xs.length, by simp, Nat.zero_le _, p, hp, h0⟩, ?_⟩⟩
  rintro i m σ' H' ⟨rfl, hi, r, hr, ir⟩
  have hT : SqL K H' a xs := .of (hk _ _ _ ir).2
  by_cases hlt : i < xs.length
  · have hx : xs[i]? = some xs[i] := List.getElem?_eq_getElem hlt
    rw [drop_cons hx] at hr
    obtain ⟨r', f, hr'⟩ := hr.first
    refine .inr ⟨⟨xs, xs[i], hT, hx⟩, I r', fun σ2 H2 q => ⟨_, by omega, rfl, hlt, r', hr', q⟩, fun x H2 hy => ?_⟩
    obtain ⟨rfl, fx⟩ := hy
    have ex : x = xs[i] := Option.some.inj ((fx xs hT).symm.trans hx)
    subst ex
    exact hs _ r r' _ _ (f.tk (hk _ _ _ ir).1) ir
  · have e : i = xs.length := by omega
    subst e
    rw [List.drop_length] at hr
    have hn : r = .nil := by
      cases r with
      | nil => rfl
      | step w n r => obtain ⟨c, zs, e, _⟩ := hr; cases e
      | turn k r => obtain ⟨c, zs, e, _⟩ := hr; cases e
      | rep k b r => obtain ⟨c, q, zs, ws, e, _⟩ := hr; cases e
      | mir b r => obtain ⟨c, q, zs, ws, e, _⟩ := hr; cases e
    subst hn
    exact .inl ⟨⟨xs, hT, Nat.le_refl _⟩, hd _ _ ir⟩
end
section
variable {P : Program} {w : World} {K : PySem.W.Frag} {mg : Str → Option Value} {base : Heap} {x qual : Str} {params : Arguments} {body : List Stmt} {scope : Scope} {dvs : List V} {kws : List (Str × V)} {f : Addr} {fd : FuncData}
theorem okD {N ps : List Str} {k : Nat} {sp : Sp} (F : FunD K x qual params body scope dvs kws f fd) (S : FnScope N ps scope) (len : ∀ vs H Q E, sp vs H Q E → vs.length = ps.length)
    (hbody : ∀ (cdv : Value) (A : Around) (outer : List Env) (s : Shared) (H : Hp) (vs : List V) (Q : VK) (E : XK), Room k (A.deeper (envOfC qual scope s.heap.objs.size f cdv)) → sp vs H Q E →
      ∃ t, PSs (cxOf CX0 P w K mg base N qual scope f cdv A outer s H E).nox body t ∧ t { nx := fun _ H' => Q .non H', rt := Q } (start N vs) H) : FnOk P w K mg base CX0 (k + 1) f fd ps sp :=
  F.ok S len fun cdv A outer s H vs Q E hr h => let ⟨t, h, q⟩ := hbody cdv A outer s H vs Q E hr h; ⟨t, h.nox, q⟩
end
/-! ### short programs -/
namespace Prog
/-- no heading on the way of a flat program leaves -12 .. 12 -/
def wayOk : Int → Prog → Bool
  | _, .nil => true
  | n, .step _ _ r => wayOk n r
  | n, .turn k r => if n + k > 12 ∨ n + k < -12 then false else wayOk (n + k) r
  | _, .rep _ _ _ => true
  | _, .mir _ _ => true
def short (p : Prog) : Bool := if p.size > 200 then false else wayOk 0 (unroll 1 p)
end Prog
end My

set_option Elab.async false
set_option linter.all false
set_option maxRecDepth 100000
namespace My
open PySem PySem.Spec PyProof.Rows L2
def strRep (z : Str) (n : Nat) : Str := ⟨(List.replicate n z.cps).foldl (· ++ ·) #[]⟩
def rMulS : R2 := fun x y H Q => ∃ (z : Str) (n : Int), x = .str z ∧ y = .int n ∧ (2 ≤ n ∧ n ≤ 100) ∧ (1 ≤ z.length ∧ z.length ≤ 100) ∧ (strRep z n.toNat).length ≤ 100000 ∧ Q (.str (strRep z n.toNat)) H
theorem op_mulS {X : Cx} : OpR X (binaryOp .Mult) rMulS := by
  intro pins s σ H x y v u Q I rx ry h
  obtain ⟨z, n, rfl, rfl, ⟨n1, n2⟩, ⟨z1, z2⟩, hl, q⟩ := h
  obtain ⟨t, rfl⟩ := rx
  obtain ⟨t', rfl⟩ := ry
  have e1 : ¬ n < 1 := by omega
  have e2 : ¬ (n == 1 || z.length == 0) = true := by simp; omega
  refine P.mul_str (by rw [decide_eq_false (by omega), decide_eq_false (by omega)]; rfl) (fun _ _ => ?_) (fun _ _ => ?_) ?_
  · have h1 : (100 : Int) ≤ (2 ^ 63 - 1) / n := Int.le_ediv_of_mul_le (by omega) (by omega)
    omega
  · have h1 : z.length * n.toNat ≤ 100 * 100 := Nat.mul_le_mul z2 (by omega)
    exact decide_eq_false (by rw [sizeLine_eq]; omega)
  · rw [if_neg e1, if_neg e2]
    exact ⟨small_of hl, .str (strRep z n.toNat), H, I.tok _, ⟨_, rfl⟩, q⟩
theorem r_mulS {z : Str} {n : Int} {H : Hp} {Q : VK} (h1 : 2 ≤ n ∧ n ≤ 100) (h2 : 1 ≤ z.length ∧ z.length ≤ 100) (h3 : (strRep z n.toNat).length ≤ 100000) (q : Q (.str (strRep z n.toNat)) H) : rMulS (.str z) (.int n) H Q := ⟨z, n, rfl, rfl, h1, h2, h3, q⟩
theorem r_slA {K : PySem.W.Frag} {p : Addr} {xs : List V} {lo hi : Option Int} {H : Hp} {Q : VK} (h : SqT K H p xs) (q1 : HT.sIx xs.length 0 lo = 0 ∧ HT.sIx xs.length xs.length hi = xs.length → Q (.ref p) H)
   (q2 : ¬ (HT.sIx xs.length 0 lo = 0 ∧ HT.sIx xs.length xs.length hi = xs.length) → ∀ c, H c = none → Q (.ref c) (upd H c (.tup (cutV xs lo hi)))) : rSlA K (.ref p) lo hi H Q := ⟨p, xs, rfl, h, q1, q2⟩
theorem r_slAT {K : PySem.W.Frag} {p : Addr} {xs : List V} {m : Int} {n : Nat} {H : Hp} {Q : VK} (h : H p = some (.tup xs)) (e : m = (n : Int)) (q : ∀ c H', Same H H' → H' c = some (.tup (xs.take n)) → Q (.ref c) H') : rSlA K (.ref p) none (some m) H Q := by
  subst e
  refine r_slA (.of h) (fun hw => ?_) (fun _ c hc => ?_)
  · have h2 := hw.2
    rw [HT.sIx_nat] at h2
    exact q p H (Same.refl _) (by rw [List.take_of_length_le (by omega)]; exact h)
  · exact q c _ (Same.new0 hc) (by rw [cut_take]; exact upd_same)
end My

set_option Elab.async false
set_option linter.all false
set_option maxRecDepth 100000
namespace My
open PySem PySem.Spec PyProof.Rows L2
section
variable {H : Hp} {Q : VK} {K : PySem.W.Frag}
theorem r_catAT {a b : Addr} {xs ys : List V} (h : H a = some (.tup xs)) (h' : H b = some (.tup ys)) (l : xs.length + ys.length ≤ 100000) (q : ∀ c H', Same H H' → H' c = some (.tup (xs ++ ys)) → Q (.ref c) H') : rCatA K (.ref a) (.ref b) H Q := by
  refine ⟨a, b, xs, ys, rfl, rfl, .of h, .of h', small_of l, fun e => ?_, fun _ e => ?_, fun _ _ c hc => q c _ (Same.new0 hc) upd_same⟩
  · subst e
    exact q b H (Same.refl _) h'
  · subst e
    exact q a H (Same.refl _) (by rw [List.append_nil]; exact h)
def rAddS : R2 := fun x y H Q => ∃ i j, x = .str i ∧ y = .str j ∧ i.length + j.length ≤ sizeLine ∧ Q (.str (i ++ j)) H
theorem op_addS {X : Cx} : OpR X (binaryOp .Add) rAddS := op_add_str
theorem r_addS {i j : Str} (l : i.length + j.length ≤ 100000) (q : Q (.str (i ++ j)) H) : rAddS (.str i) (.str j) H Q := ⟨i, j, rfl, rfl, small_of l, q⟩
def rIsN : R2 := fun x y H Q => y = .non ∧ Q (.bl (decide (x = .non))) H
theorem op_isNN {X : Cx} : OpR X (compareOp .Is) rIsN := op_isN
theorem r_isN {n : Int} (q : Q (.bl false) H) : rIsN (.int n) .non H Q := ⟨rfl, by rw [decide_eq_false (by intro h; cases h)]; exact q⟩
theorem r_isNN (q : Q (.bl true) H) : rIsN .non .non H Q := ⟨rfl, by rw [decide_eq_true rfl]; exact q⟩
end
namespace Prog
theorem head_flat {C T : Int} : ∀ {p : Prog}, Wf C T 0 p → p.head = p.turns.sum
  | .nil, _ => by rw [head, turns]; rfl
  | .step w n r, h => by rw [head, turns]; exact head_flat (Wf.step_iff.mp h).2.2
  | .turn k r, h => by rw [head, turns, List.sum_cons, head_flat (Wf.turn_iff.mp h).2]
  | .rep _ _ _, h => h.elim
  | .mir _ _, h => h.elim
end Prog
end My

set_option Elab.async false
set_option linter.all false
set_option maxRecDepth 100000
namespace My
open PySem PySem.Spec PyProof.Rows L2
def topS (i : Nat) : Stmt := PySem.Challenge.pw_everyangle_k24_nested_programs.main.body.getD i (.Pass ⟨0, 0, 0, 0⟩)
abbrev s_is_integer : Stmt := topS 4
abbrev s_is_name : Stmt := topS 9
abbrev s_is_command : Stmt := topS 10
abbrev s_is_program : Stmt := topS 11
abbrev s_check_program : Stmt := topS 12
abbrev s_raw_size : Stmt := topS 13
abbrev s_raw_heading : Stmt := topS 14
abbrev s_plain_row : Stmt := topS 15
abbrev s_raw_is_short : Stmt := topS 16
abbrev s_size : Stmt := topS 17
abbrev s_heading : Stmt := topS 18
abbrev s_is_short : Stmt := topS 19
abbrev s_l_bag_of : Stmt := topS 21
abbrev s_l_pick : Stmt := topS 22
abbrev s_l_great_int : Stmt := topS 23
abbrev s_l_tells : Stmt := topS 24
abbrev s_l_some_turn : Stmt := topS 25
abbrev s_l_some_lots : Stmt := topS 26
abbrev s_l_piece : Stmt := topS 27
abbrev s_l_bulk : Stmt := topS 28
abbrev s_l_aim : Stmt := topS 29
abbrev s_l_unroll : Stmt := topS 30
abbrev s_l_tame : Stmt := topS 31
abbrev s_l_layer : Stmt := topS 32
abbrev s_l_sides : Stmt := topS 33
abbrev s_l_is_short : Stmt := topS 34
abbrev s_law : Stmt := topS 35
theorem sc_is_integer : FnScope ["value"] ["value"] (defScope s_is_integer) := ⟨rfl, rfl, rfl, by decide +kernel, rfl, by decide +kernel, by decide +kernel⟩
theorem sc_is_name : FnScope ["value"] ["value"] (defScope s_is_name) := ⟨rfl, rfl, rfl, by decide +kernel, rfl, by decide +kernel, by decide +kernel⟩
theorem sc_is_command : FnScope ["value", "word"] ["value"] (defScope s_is_command) := ⟨rfl, rfl, rfl, by decide +kernel, rfl, by decide +kernel, by decide +kernel⟩
theorem sc_is_program : FnScope ["value", "command"] ["value"] (defScope s_is_program) := ⟨rfl, rfl, rfl, by decide +kernel, rfl, by decide +kernel, by decide +kernel⟩
theorem sc_check_program : FnScope ["value"] ["value"] (defScope s_check_program) := ⟨rfl, rfl, rfl, by decide +kernel, rfl, by decide +kernel, by decide +kernel⟩
theorem sc_raw_size : FnScope ["program", "total", "command"] ["program"] (defScope s_raw_size) := ⟨rfl, rfl, rfl, by decide +kernel, rfl, by decide +kernel, by decide +kernel⟩
theorem sc_raw_heading : FnScope ["program", "total", "command"] ["program"] (defScope s_raw_heading) := ⟨rfl, rfl, rfl, by decide +kernel, rfl, by decide +kernel, by decide +kernel⟩
theorem sc_plain_row : FnScope ["program", "sign", "row", "command"] ["program", "sign"] (defScope s_plain_row) := ⟨rfl, rfl, rfl, by decide +kernel, rfl, by decide +kernel, by decide +kernel⟩
theorem sc_raw_is_short : FnScope ["program", "now", "command"] ["program"] (defScope s_raw_is_short) := ⟨rfl, rfl, rfl, by decide +kernel, rfl, by decide +kernel, by decide +kernel⟩
theorem sc_size : FnScope ["program"] ["program"] (defScope s_size) := ⟨rfl, rfl, rfl, by decide +kernel, rfl, by decide +kernel, by decide +kernel⟩
theorem sc_heading : FnScope ["program"] ["program"] (defScope s_heading) := ⟨rfl, rfl, rfl, by decide +kernel, rfl, by decide +kernel, by decide +kernel⟩
theorem sc_is_short : FnScope ["program"] ["program"] (defScope s_is_short) := ⟨rfl, rfl, rfl, by decide +kernel, rfl, by decide +kernel, by decide +kernel⟩
theorem sc_l_bag_of : FnScope ["_law_cell"] ["_law_cell"] (defScope s_l_bag_of) := ⟨rfl, rfl, rfl, by decide +kernel, rfl, by decide +kernel, by decide +kernel⟩
theorem sc_l_pick : FnScope ["_law_bag", "_law_many", "_law_digit"] ["_law_bag", "_law_many"] (defScope s_l_pick) := ⟨rfl, rfl, rfl, by decide +kernel, rfl, by decide +kernel, by decide +kernel⟩
theorem sc_l_great_int : FnScope ["_law_bag", "_law_digits", "_law_total", "_law_k", "_law_limit"] ["_law_bag", "_law_digits"] (defScope s_l_great_int) := ⟨rfl, rfl, rfl, by decide +kernel, rfl, by decide +kernel, by decide +kernel⟩
theorem sc_l_tells : FnScope ["_law_found", "_law_due"] ["_law_found", "_law_due"] (defScope s_l_tells) := ⟨rfl, rfl, rfl, by decide +kernel, rfl, by decide +kernel, by decide +kernel⟩
theorem sc_l_some_turn : FnScope ["_law_bag", "_law_wild", "_law_mode", "_law_sign"] ["_law_bag", "_law_wild"] (defScope s_l_some_turn) := ⟨rfl, rfl, rfl, by decide +kernel, rfl, by decide +kernel, by decide +kernel⟩
theorem sc_l_some_lots : FnScope ["_law_bag", "_law_free", "_law_wild", "_law_mode"] ["_law_bag", "_law_free", "_law_wild"] (defScope s_l_some_lots) := ⟨rfl, rfl, rfl, by decide +kernel, rfl, by decide +kernel, by decide +kernel⟩
theorem sc_l_piece : FnScope ["_law_bag", "_law_pot", "_law_deep", "_law_free", "_law_wild", "_law_made", "_law_k", "_law_way", "_law_word", "_law_lots"] ["_law_bag", "_law_pot", "_law_deep", "_law_free", "_law_wild"] (defScope s_l_piece) := ⟨rfl, rfl, rfl, by decide +kernel, rfl, by decide +kernel, by decide +kernel⟩
theorem sc_l_bulk : FnScope ["_law_piece_here", "_law_total", "_law_part"] ["_law_piece_here"] (defScope s_l_bulk) := ⟨rfl, rfl, rfl, by decide +kernel, rfl, by decide +kernel, by decide +kernel⟩
theorem sc_l_aim : FnScope ["_law_piece_here", "_law_total", "_law_part"] ["_law_piece_here"] (defScope s_l_aim) := ⟨rfl, rfl, rfl, by decide +kernel, rfl, by decide +kernel, by decide +kernel⟩
theorem sc_l_unroll : FnScope ["_law_piece_here", "_law_sign", "_law_made", "_law_part", "_law_body", "_law_k"] ["_law_piece_here", "_law_sign"] (defScope s_l_unroll) := ⟨rfl, rfl, rfl, by decide +kernel, rfl, by decide +kernel, by decide +kernel⟩
theorem sc_l_tame : FnScope ["_law_bag", "_law_names", "_law_pot", "_law_piece_here"] ["_law_bag", "_law_names"] (defScope s_l_tame) := ⟨rfl, rfl, rfl, by decide +kernel, rfl, by decide +kernel, by decide +kernel⟩
theorem sc_l_layer : FnScope ["_law_bag", "_law_free", "_law_lots", "_law_ahead", "_law_behind"] ["_law_bag", "_law_free"] (defScope s_l_layer) := ⟨rfl, rfl, rfl, by decide +kernel, rfl, by decide +kernel, by decide +kernel⟩
theorem sc_l_sides : FnScope ["_law_row", "_law_part"] ["_law_row"] (defScope s_l_sides) := ⟨rfl, rfl, rfl, by decide +kernel, rfl, by decide +kernel, by decide +kernel⟩
theorem sc_l_is_short : FnScope ["_law_piece_here", "_law_now", "_law_part"] ["_law_piece_here"] (defScope s_l_is_short) := ⟨rfl, rfl, rfl, by decide +kernel, rfl, by decide +kernel, by decide +kernel⟩
theorem sc_law : FnScope ["_law_script", "_law_great", "_law_cell", "_law_bag", "_law_piece_here", "_law_free", "_law_turn", "_law_lots", "_law_ahead", "_law_behind", "_law_bulk_here", "_law_aim_here"] ["_law_script"] (defScope s_law) := ⟨rfl, rfl, rfl, by decide +kernel, rfl, by decide +kernel, by decide +kernel⟩
/-- the built-ins that the text calls by their names -/
structure Bl (mg : Str → Option Value) : Prop where
  b_isinstance : mg "isinstance" = none
  b_int : mg "int" = none
  b_bool : mg "bool" = none
  b_str : mg "str" = none
  b_tuple : mg "tuple" = none
  b_list : mg "list" = none
  b_len : mg "len" = none
  b_all : mg "all" = none
  b_range : mg "range" = none
  b_sum : mg "sum" = none
  b_max : mg "max" = none
  b_min : mg "min" = none
end My

set_option Elab.async false
set_option linter.all false
set_option maxRecDepth 100000
set_option maxHeartbeats 4000000

namespace My
open PySem PySem.Spec PyProof.Rows L2
section
variable {P : Program} {w : World} {K : PySem.W.Frag} {mg : Str → Option Value} {base : Heap}
local macro_rules | `(tactic| walk_at "isi") => `(tactic| (first
  | (with_reducible refine r_is_int_int ?_)
  | (with_reducible refine r_is_int_bool ?_)
  | (with_reducible refine r_is_int_str ?_)
  | (with_reducible refine r_is_int_list ?_)
  | (with_reducible refine r_is_int_tuple ?_)
  | (with_reducible refine r_is_bool_int ?_)
  | (with_reducible refine r_is_bool_bool ?_)
  | (with_reducible refine r_is_bool_str ?_)
  | (with_reducible refine r_is_bool_list ?_)
  | (with_reducible refine r_is_bool_tuple ?_)
  | (with_reducible refine r_is_str_int ?_)
  | (with_reducible refine r_is_str_bool ?_)
  | (with_reducible refine r_is_str_str ?_)
  | (with_reducible refine r_is_str_list ?_)
  | (with_reducible refine r_is_str_tuple ?_)
  | ((with_reducible refine r_is_list_int (xs := ?xx) ?hh ?_); (case hh => walk_at "hp"))
  | ((with_reducible refine r_is_list_bool (xs := ?xx) ?hh ?_); (case hh => walk_at "hp"))
  | ((with_reducible refine r_is_list_str (xs := ?xx) ?hh ?_); (case hh => walk_at "hp"))
  | ((with_reducible refine r_is_list_list (xs := ?xx) ?hh ?_); (case hh => walk_at "hp"))
  | ((with_reducible refine r_is_list_tuple (xs := ?xx) ?hh ?_); (case hh => walk_at "hp"))
  | ((with_reducible refine r_is_tuple_int (xs := ?xx) ?hh ?_); (case hh => walk_at "hp"))
  | ((with_reducible refine r_is_tuple_bool (xs := ?xx) ?hh ?_); (case hh => walk_at "hp"))
  | ((with_reducible refine r_is_tuple_str (xs := ?xx) ?hh ?_); (case hh => walk_at "hp"))
  | ((with_reducible refine r_is_tuple_list (xs := ?xx) ?hh ?_); (case hh => walk_at "hp"))
  | ((with_reducible refine r_is_tuple_tuple (xs := ?xx) ?hh ?_); (case hh => walk_at "hp"))
  | (with_reducible refine r_is_NoneType_int ?_)
  | (with_reducible refine r_is_NoneType_bool ?_)
  | (with_reducible refine r_is_NoneType_str ?_)
  | (with_reducible refine r_is_NoneType_list ?_)
  | (with_reducible refine r_is_NoneType_tuple ?_)))
local macro_rules | `(tactic| walk_at "ne") => `(tactic| first | assumption | (refine Ne.symm ?_; assumption) | exact Bag.ne (by assumption) (by assumption) | exact ne_of_none (by assumption) (by assumption))
local macro_rules | `(tactic| walk_at "hp") => `(tactic| (first
  | assumption
  | exact upd_same
  | (refine h_keep ?_ (by assumption); walk_at "hp")
  | (refine (upd_ne (by walk_at "ne")).trans ?_; walk_at "hp")
  | (refine Same.at (by assumption) ?_; walk_at "hp")
  | (refine But.at (by assumption) (by walk_at "ne") ?_; walk_at "hp")
  | (refine But2.at (by assumption) (by walk_at "ne") (by walk_at "ne") ?_; walk_at "hp")))
local macro_rules | `(tactic| walk_at "side") => `(tactic| first | assumption | omega | (refine ⟨?_, ?_⟩ <;> first | assumption | omega | decide) | decide | (refine ⟨by decide, by decide, by decide⟩) | (left; refine ⟨?_, ?_⟩ <;> first | omega | decide) | (right; refine ⟨?_, ?_⟩ <;> first | omega | decide) | (simp; done))
local macro_rules | `(tactic| walk_at "cond") => `(tactic| first | assumption | exact rfl | omega | (simp only [List.length_cons, List.length_nil]; omega) | decide +kernel)
local macro_rules | `(tactic| walk_at "s") => `(tactic| (first
  | ((with_reducible refine r_var (v := ?vv) ?ee ?_); (case ee => exact rfl))
  | (with_reducible refine r_c ?_)
  | (with_reducible refine r_op ?_)
  | (with_reducible refine r_un ?_)
  | (with_reducible refine r_rI0 ?_)
  | ((with_reducible refine r_rI ?cc ?_); (case cc => walk_at "side"))
  | (with_reducible refine r_rU ?_)
  | (with_reducible refine r_eqI ?_)
  | (with_reducible refine r_neI ?_)
  | (with_reducible refine r_eqB ?_)
  | (with_reducible refine r_neB ?_)
  | (with_reducible refine r_eqS ?_)
  | (with_reducible refine r_neS ?_)
  | ((with_reducible refine r_eq ?ee ?_); (case ee => exact rfl))
  | ((with_reducible refine r_ne ?ee ?_); (case ee => exact rfl))
  | ((with_reducible refine r_ixL (v := ?vv) (xs := ?xx) ?hh ?ee ?_); (case hh => (refine SqL.of ?_; walk_at "hp")); (case ee => exact rfl))
  | (with_reducible refine r_cb ?_)
  | (with_reducible refine r_call ?_)
  | (with_reducible refine r_cons ?_)
  | (with_reducible refine r_nil ?_)
  | (with_reducible refine r_lst ?_)
  | (with_reducible refine r_tup ?_)
  | ((with_reducible refine r_new ?cc ?_); (case cc => walk_at "side"))
  | (with_reducible refine r_exbl ?_)
  | (with_reducible refine r_exint ?_)
  | (with_reducible refine r_exint2 ?_)
  | (with_reducible refine r_exblL ?_)
  | (with_reducible refine r_ex2 ?_)
  | (with_reducible refine r_test ?_)
  | (with_reducible refine r_tB ?_)
  | (with_reducible refine r_not ?_)
  | (with_reducible refine r_and ?_)
  | (with_reducible refine r_or ?_)
  | (with_reducible refine r_andV ?_)
  | (with_reducible refine r_orV ?_)
  | (with_reducible refine r_notV ?_)
  | (with_reducible refine r_tif ?_)
  | (with_reducible refine r_iteT ?_)
  | (with_reducible refine r_iteNT ?_)
  | (with_reducible refine r_iteNF ?_)
  | (with_reducible refine r_iteF ?_)
  | (with_reducible refine r_seq ?_)
  | (with_reducible refine r_next ?_)
  | (with_reducible refine r_brk ?_)
  | (with_reducible refine r_cont ?_)
  | (with_reducible refine r_asg ?_)
  | (with_reducible refine r_gname ?_)
  | (with_reducible refine r_ret ?_)
  | (with_reducible refine r_retN ?_)
  | (with_reducible refine r_drop ?_)
  | (with_reducible refine r_if ?_)
  | ((with_reducible refine r_aug (x := ?xx) ?ee ?_); (case ee => exact rfl))
  | (with_reducible refine r_ipI ?_)
  | (with_reducible refine r_augS ?_)
  | (with_reducible refine r_gsub ?_)
  | ((with_reducible refine r_setL (xs := ?xx) (m := ?mm) ?hh ?ee ?_); (case hh => walk_at "hp"); (case ee => exact rfl))
  | (with_reducible refine r_par ?_)
  | (with_reducible refine r_bm ?_)
  | ((with_reducible refine r_tyL (xs := ?xx) ?hh ?_); (case hh => walk_at "hp"))
  | ((with_reducible refine r_append (xs := ?xx) ?hh ?ll ?_); (case hh => walk_at "hp"); (case ll => walk_at "side"))
  | (walk_at "isi")
  | (with_reducible refine r_for ?_)
  | (with_reducible refine r_iList ?_)
  | (with_reducible refine r_iTup ?_)
  | (with_reducible refine r_iR1 ?_)
  | (with_reducible refine r_iR2 ?_)
  | (with_reducible refine r_lc ?_)
  | (with_reducible refine r_yes ?_)
  | ((with_reducible refine r_lenS ?ll ?_); (case ll => walk_at "side"))
  | (with_reducible refine r_leS ?_)
  | (with_reducible refine r_chain ?_)
  | (with_reducible refine r_tM1 ?_)
  | (with_reducible refine r_exS ?_)
  | ((with_reducible refine r_tupL (xs := ?xx) ?hh ?_); (case hh => walk_at "hp"))
  | ((with_reducible refine r_listL (xs := ?xx) ?hh ?_); (case hh => walk_at "hp"))
  | ((with_reducible refine r_listT (xs := ?xx) ?hh ?_); (case hh => walk_at "hp"))
  | ((with_reducible refine r_ixT (v := ?vv) (xs := ?xx) ?hh ?ee ?_); (case hh => (refine SqT.of ?_; walk_at "hp")); (case ee => exact rfl))
  | (with_reducible refine r_sl ?_)
  | (with_reducible refine r_nopart ?_)
  | (with_reducible refine r_part ?_)
  | (with_reducible refine r_exI ?_)
  | ((with_reducible refine r_slL (xs := ?xx) ?hh ?_); (case hh => first | assumption | (refine SqL.of ?_; walk_at "hp") | (refine Same.seq (by assumption) (by assumption))))
  | ((with_reducible refine r_cat (xs := ?xx) (zs := ?zz) ?hh ?ii ?ll ?_); (case hh => walk_at "hp"); (case ii => walk_at "hp"); (case ll => walk_at "side"))
  | ((with_reducible refine r_lenL (xs := ?xx) ?hh ?_); (case hh => walk_at "hp"))
  | ((with_reducible refine r_lenT (xs := ?xx) ?hh ?_); (case hh => walk_at "hp"))
  | ((with_reducible refine r_gTup (xs := ?xx) ?hh ?ll ?_); (case hh => walk_at "hp"); (case ll => exact rfl))
  | (with_reducible refine r_gCons ?_)
  | (with_reducible refine r_gNil ?_)
  | ((with_reducible refine r_iteDT ?cc ?_); (case cc => walk_at "cond"))
  | ((with_reducible refine r_iteDF ?cc ?_); (case cc => walk_at "cond"))
  | ((with_reducible refine r_iteNDT ?cc ?_); (case cc => walk_at "cond"))
  | ((with_reducible refine r_iteNDF ?cc ?_); (case cc => walk_at "cond"))
  ))
local macro_rules | `(tactic| walk_at "go") => `(tactic| repeat (walk_at "s"))

def spIsInt : Sp := fun vs H Q _ => ∃ n : Int, vs = [.int n] ∧ Q (.bl true) H
theorem ok_is_integer {f : Addr} {fd : FuncData} (F : Fun K "is_integer" "is_integer" s_is_integer f fd) (B : Bl mg) : FnOk P w K mg base CX0 1 f fd ["value"] spIsInt := by
  refine F.ok sc_is_integer (fun vs H Q E h => ?_) (fun cdv A outer s H vs Q E hr h => ?_)
  · obtain ⟨c, rfl, _⟩ := h
    rfl
  · obtain ⟨c, rfl, k⟩ := h
    refine ⟨_, (pss_one (ps_ret (pe_and (pe_callB (call_isiKK (K := K)) (by rfl) B.b_isinstance (by decide +kernel) (pa_cons (pv 0) (pa_cons (pe_bltn (v := .ty "int") (by rfl) B.b_int (by decide +kernel) rfl) pa_nil))) (pe_one (pe_not (pe_callB (call_isiKK (K := K)) (by rfl) B.b_isinstance (by decide +kernel) (pa_cons (pv 0) (pa_cons (pe_bltn (v := .ty "bool") (by rfl) B.b_bool (by decide +kernel) rfl) pa_nil)))))))), ?_⟩
    walk_at "go"
    exact k
def spIsName : Sp := fun vs H Q _ => ∃ n : Str, vs = [.str n] ∧ IsName n ∧ Q (.bl true) H
theorem ok_is_name {f : Addr} {fd : FuncData} (F : Fun K "is_name" "is_name" s_is_name f fd) (B : Bl mg) : FnOk P w K mg base CX0 1 f fd ["value"] spIsName := by
  refine F.ok sc_is_name (fun vs H Q E h => ?_) (fun cdv A outer s H vs Q E hr h => ?_)
  · obtain ⟨c, rfl, _⟩ := h
    rfl
  · obtain ⟨c, rfl, hn, k⟩ := h
    have h1 := name_len hn
    have h2 := letter_a hn
    have h3 := letter_z hn
    refine ⟨_, (pss_one (ps_ret (pe_and (pe_callB (call_isiKK (K := K)) (by rfl) B.b_isinstance (by decide +kernel) (pa_cons (pv 0) (pa_cons (pe_bltn (v := .ty "str") (by rfl) B.b_str (by decide +kernel) rfl) pa_nil))) (pe_and (pe_cmpR op_eq (pe_callB call_lenS (by rfl) B.b_len PySem.boot_len (pa_cons (pv 0) pa_nil)) pe_int (nomark _)) (pe_one (pe_chain op_leS op_leS pe_str (pv 0) pe_str)))))), ?_⟩
    walk_at "go"
    show Q (V.bl !decide _) H
    rw [decide_eq_false h3]
    exact k
def spIsCmd (d : Nat) : Sp := fun vs H Q _ => ∃ x r r', vs = [x] ∧ First H r x r' ∧ Wf BC BC d r ∧ ∀ H', Same H H' → Q (.bl true) H'
def spIsPr (d : Nat) : Sp := fun vs H Q _ => ∃ a p, vs = [.ref a] ∧ PrIs H a p ∧ Wf BC BC d p ∧ 1 ≤ p.len ∧ p.len ≤ 1000 ∧ ∀ H', Same H H' → Q (.bl true) H'
def spIsPrLt : Nat → Sp
  | 0 => fun _ _ _ _ => False
  | d + 1 => spIsPr d
theorem first_wf {H : Hp} {C T : Int} {d : Nat} {r r' : Prog} {x : V} (h : First H r x r') (w : Wf C T d r) : Wf C T d r' := by
  cases r with
  | nil => exact h.elim
  | step w' n r => obtain ⟨c, rfl, h1, rfl⟩ := h; exact (Wf.step_iff.mp w).2.2
  | turn k r => obtain ⟨c, rfl, h1, rfl⟩ := h; exact (Wf.turn_iff.mp w).2
  | rep k b r =>
    obtain ⟨c, q, rfl, h1, h2, rfl⟩ := h
    cases d with
    | zero => exact w.elim
    | succ d => exact w.2.2.2
  | mir b r =>
    obtain ⟨c, q, rfl, h1, h2, rfl⟩ := h
    cases d with
    | zero => exact w.elim
    | succ d => exact w.2.2
theorem ok_is_command {f : Addr} {fd : FuncData} (d : Nat) (F : Fun K "is_command" "is_command" s_is_command f fd) (B : Bl mg) (S : StepsAt K w mg) (h_is_integer : Has P w K mg base "is_integer" 1 ["value"] spIsInt) (h_is_name : Has P w K mg base "is_name" 1 ["value"] spIsName)
   (h_is_program : Has P w K mg base "is_program" (2 * d + 1) ["value"] (spIsPrLt d)) : FnOk P w K mg base CX0 (2 * d + 2) f fd ["value"] (spIsCmd d) := by
  obtain ⟨sd, es, sn, DK, gS, nS⟩ := S.ex
  refine F.ok sc_is_command (fun vs H Q E h => ?_) (fun cdv A outer s H vs Q E hr h => ?_)
  · obtain ⟨x, r, r', rfl, _⟩ := h
    rfl
  · obtain ⟨x, r, r', rfl, hf, hw, k⟩ := h
    refine ⟨_, (pss_cons (ps_if (PW.pt (pw_or (pt_not (pt_val (pe_callB (call_isiKK (K := K)) (by rfl) B.b_isinstance (by decide +kernel) (pa_cons (pv 0) (pa_cons (pe_bltn (v := .ty "tuple") (by rfl) B.b_tuple (by decide +kernel) rfl) pa_nil))))) (pw_or (pt_cmpR op_lt (pe_callB (call_lenK (K := K)) (by rfl) B.b_len PySem.boot_len (pa_cons (pv 0) pa_nil)) pe_int (nomark _)) (pw_or1 (pt_not (pt_val (pe_callB (call_isiKK (K := K)) (by rfl) B.b_isinstance (by decide +kernel) (pa_cons (pe_ix (ix_tupK (K := K)) (pv 0) pe_int (fun _ _ => rfl)) (pa_cons (pe_bltn (v := .ty "str") (by rfl) B.b_str (by decide +kernel) rfl) pa_nil)))))))))
    (pss_one (ps_ret pe_bl))
    pss_nil)
    (pss_cons (ps_set (i := 1) sc_is_command.nd rfl (.inl rfl) (pe_ix (ix_tupK (K := K)) (pv 0) pe_int (fun _ _ => rfl)))
    (pss_cons (ps_if (pt_cmpR op_eq (pv 1) pe_str (nomark _))
    (pss_one (ps_ret (pe_and (pe_cmpR op_eq (pe_callB (call_lenK (K := K)) (by rfl) B.b_len PySem.boot_len (pa_cons (pv 0) pa_nil)) pe_int (nomark _)) (pe_and (pe_callH h_is_integer (hr.mono (by first | decide | omega)) (pa_cons (pe_ix (ix_tupK (K := K)) (pv 0) pe_int (fun _ _ => rfl)) pa_nil)) (pe_and (pe_cmpR op_ge (pe_ix (ix_tupK (K := K)) (pv 0) pe_int (fun _ _ => rfl)) pe_int (nomark _)) (pe_one (pe_callH h_is_program (hr.mono (by first | decide | omega)) (pa_cons (pe_ix (ix_tupK (K := K)) (pv 0) pe_int (fun _ _ => rfl)) pa_nil))))))))
    pss_nil)
    (pss_cons (ps_if (pt_cmpR op_ne (pe_callB (call_lenK (K := K)) (by rfl) B.b_len PySem.boot_len (pa_cons (pv 0) pa_nil)) pe_int (nomark _))
    (pss_one (ps_ret pe_bl))
    pss_nil)
    (pss_cons (ps_if (pt_cmpR op_eq (pv 1) pe_str (nomark _))
    (pss_one (ps_ret (pe_callH h_is_integer (hr.mono (by first | decide | omega)) (pa_cons (pe_ix (ix_tupK (K := K)) (pv 0) pe_int (fun _ _ => rfl)) pa_nil))))
    pss_nil)
    (pss_cons (ps_if (pt_cmpR op_eq (pv 1) pe_str (nomark _))
    (pss_one (ps_ret (pe_callH h_is_program (hr.mono (by first | decide | omega)) (pa_cons (pe_ix (ix_tupK (K := K)) (pv 0) pe_int (fun _ _ => rfl)) pa_nil))))
    pss_nil)
    (pss_one (ps_ret (pe_and (pe_cmpR (op_in_kd DK) (pv 1) (pe_glob (v := .ref sd) rfl gS rfl) (by rfl)) (pe_one (pe_callH h_is_name (hr.mono (by first | decide | omega)) (pa_cons (pe_ix (ix_tupK (K := K)) (pv 0) pe_int (fun _ _ => rfl)) pa_nil)))))))))))), ?_⟩
    cases r with
    | nil => exact hf.elim
    | step w' n r =>
      obtain ⟨c, rfl, h1, rfl⟩ := hf
      obtain ⟨w1, w2, w3⟩ := Wf.step_iff.mp hw
      obtain ⟨n1, n2, n3⟩ := word_ne w1
      walk_at "go"
      obtain ⟨v, hv⟩ := nS _ w1
      refine ⟨w', some v, rfl, rfl, hv, ?_⟩
      walk_at "go"
      refine ⟨_, rfl, ?_⟩
      walk_at "go"
      refine ⟨n, rfl, w2, ?_⟩
      exact k _ (Same.refl _)
    | turn k' r =>
      obtain ⟨c, rfl, h1, rfl⟩ := hf
      walk_at "go"
      refine ⟨k', rfl, ?_⟩
      exact k _ (Same.refl _)
    | rep k' b r =>
      obtain ⟨c, q, rfl, h1, h2, rfl⟩ := hf
      cases d with
      | zero => exact hw.elim
      | succ d =>
        obtain ⟨w1, w2, w3, w4⟩ := hw
        walk_at "go"
        refine ⟨k', rfl, ?_⟩
        walk_at "go"
        exact ⟨q, b, rfl, h2, w3, w2.1, w2.2, k⟩
    | mir b r =>
      obtain ⟨c, q, rfl, h1, h2, rfl⟩ := hf
      cases d with
      | zero => exact hw.elim
      | succ d =>
        obtain ⟨w2, w3, w4⟩ := hw
        walk_at "go"
        exact ⟨q, b, rfl, h2, w3, w2.1, w2.2, k⟩
theorem ok_is_program {f : Addr} {fd : FuncData} (d : Nat) (F : Fun K "is_program" "is_program" s_is_program f fd) (B : Bl mg) (h_is_command : Has P w K mg base "is_command" (2 * d + 2) ["value"] (spIsCmd d)) : FnOk P w K mg base CX0 (2 * d + 3) f fd ["value"] (spIsPr d) := by
  refine F.ok sc_is_program (fun vs H Q E h => ?_) (fun cdv A outer s H vs Q E hr h => ?_)
  · obtain ⟨a, p, rfl, _⟩ := h
    rfl
  · obtain ⟨a, p, rfl, ⟨xs, hx, hp⟩, hw, l1, l2, k⟩ := h
    have hl := hp.length
    refine ⟨_, (pss_one (ps_ret (pe_and (pe_callB (call_isiKK (K := K)) (by rfl) B.b_isinstance (by decide +kernel) (pa_cons (pv 0) (pa_cons (pe_bltn (v := .ty "tuple") (by rfl) B.b_tuple (by decide +kernel) rfl) pa_nil))) (pe_and (pe_cmpR op_gt (pe_callB (call_lenK (K := K)) (by rfl) B.b_len PySem.boot_len (pa_cons (pv 0) pa_nil)) pe_int (nomark _)) (pe_one (pe_callB (call_allK (K := K)) (by rfl) B.b_all (by decide +kernel) (pa_cons (pe_lc (own := [("command", 1)]) rfl sc_is_program.nd (pi_tup (pv 0)) (blkOk_by (N := ["value", "command"]) (sc := defScope s_is_program) (by decide +kernel)) (fun _ _ _ _ _ => (pg_name (i := 1) sc_is_program.nd rfl (.inl rfl))) (fun _ _ _ _ _ => pts_nil) (fun _ _ _ _ _ => (pe_callH h_is_command (hr.mono (by first | decide | omega)) (pa_cons (pv 1) pa_nil)))) pa_nil))))))), ?_⟩
    walk_at "go"
    refine u_lcPr hx hp (fun D r acc H' => (acc = (List.replicate acc.length true).map V.bl ∧ acc.length + r.len = p.len) ∧ Same H H' ∧ Wf BC BC d r) ?_ ?_ ?_ ?_
    · exact fun D hD => ⟨⟨rfl, by simp⟩, Same.new0 hD, hw⟩
    · rintro D r acc H' hD ⟨_, sm, _⟩
      exact Tk.same sm
    · rintro D x r r' acc H' hD hf hacc ⟨⟨ha, hn⟩, sm, hw'⟩
      have hlen : r.len = r'.len + 1 := by
        cases r with
        | nil => exact hf.elim
        | step w' n r => obtain ⟨c, rfl, h1, rfl⟩ := hf; rfl
        | turn k r => obtain ⟨c, rfl, h1, rfl⟩ := hf; rfl
        | rep k b r => obtain ⟨c, q, rfl, h1, h2, rfl⟩ := hf; rfl
        | mir b r => obtain ⟨c, q, rfl, h1, h2, rfl⟩ := hf; rfl
      walk_at "go"
      refine ⟨rfl, ?_⟩
      walk_at "go"
      refine ⟨x, r, r', rfl, hf, hw', fun H2 s2 => ?_⟩
      refine u_push (s2 _ _ hacc) (by omega) ⟨⟨?_, ?_⟩, Same.put (sm.trans s2) hD, first_wf hf hw'⟩
      · rw [List.length_append, List.length_singleton, List.replicate_succ', List.map_append, ← ha]
        rfl
      · rw [List.length_append, List.length_singleton]
        omega
    · rintro D acc H' hD hacc ⟨⟨ha, hn⟩, sm, _⟩
      walk_at "go"
      rw [ha] at hacc
      refine r_all (SqL.of hacc) ?_
      rw [show ((List.replicate acc.length true).all id) = true by simp]
      exact k _ sm
theorem has_false {x : Str} {k : Nat} {f : Addr} {fd : FuncData} {ps : List Str} (g : mg x = some (.ref f)) (kp : PySem.W.keepIn K (.ref f) = true) (b : Binds K fd ps []) : Has P w K mg base x k ps (fun _ _ _ _ => False) :=
  ⟨f, fd, ⟨fun _ _ _ _ h => h.elim, fun _ _ _ _ _ _ _ _ _ _ _ _ _ h => h.elim⟩, g, kp, b⟩
theorem has_pr {fc fp : Addr} {fdc fdp : FuncData} (Fc : Fun K "is_command" "is_command" s_is_command fc fdc) (Fp : Fun K "is_program" "is_program" s_is_program fp fdp) (B : Bl mg) (S : StepsAt K w mg) (h_is_integer : Has P w K mg base "is_integer" 1 ["value"] spIsInt) (h_is_name : Has P w K mg base "is_name" 1 ["value"] spIsName)
   (gc : mg "is_command" = some (.ref fc)) (gp : mg "is_program" = some (.ref fp)) (bc : Binds K fdc ["value"] []) (bp : Binds K fdp ["value"] []) : ∀ d, Has P w K mg base "is_program" (2 * d + 1) ["value"] (spIsPrLt d)
  | 0 => has_false gp Fp.kp bp
  | d + 1 => ⟨fp, fdp, ok_is_program d Fp B ⟨fc, fdc, ok_is_command d Fc B S h_is_integer h_is_name (has_pr Fc Fp B S h_is_integer h_is_name gc gp bc bp d), gc, Fc.kp, bc⟩, gp, Fp.kp, bp⟩
/-- a program as the package's functions want it -/
def Good (H : Hp) (a : Addr) (p : Prog) : Prop := PrIs H a p ∧ Wf BC BC 12 p ∧ 1 ≤ p.len ∧ p.len ≤ 1000
def spCheckPr : Sp := fun vs H Q _ => ∃ a p, vs = [.ref a] ∧ Good H a p ∧ ∀ H', Same H H' → Q .non H'
theorem ok_check_program {f : Addr} {fd : FuncData} (F : Fun K "check_program" "check_program" s_check_program f fd) (h_is_program : Has P w K mg base "is_program" 27 ["value"] (spIsPr 12)) : FnOk P w K mg base CX0 28 f fd ["value"] spCheckPr := by
  refine F.ok sc_check_program (fun vs H Q E h => ?_) (fun cdv A outer s H vs Q E hr h => ?_)
  · obtain ⟨c, p, rfl, _⟩ := h
    rfl
  · obtain ⟨c, p, rfl, hg, k⟩ := h
    refine ⟨_, (pss_one (ps_if (pt_not (pt_val (pe_callH h_is_program (hr.mono (by first | decide | omega)) (pa_cons (pv 0) pa_nil))))
    (pss_one ps_never)
    pss_nil)), ?_⟩
    walk_at "go"
    refine ⟨c, p, rfl, hg.1, hg.2.1, hg.2.2.1, hg.2.2.2, fun H' s' => ?_⟩
    walk_at "go"
    exact k _ s'
def spNumLt (g : Prog → Int) : Nat → Sp
  | 0 => fun _ _ _ _ => False
  | d + 1 => fun vs H Q _ => ∃ a p, vs = [.ref a] ∧ PrIs H a p ∧ Wf BC BC d p ∧ p.len ≤ 1000 ∧ d ≤ 20 ∧ Q (.int (g p)) H
theorem ok_raw_size {f : Addr} {fd : FuncData} (d : Nat) (F : Fun K "raw_size" "raw_size" s_raw_size f fd) (h_raw_size : Has P w K mg base "raw_size" d ["program"] (spNumLt Prog.size d)) : FnOk P w K mg base CX0 (d + 1) f fd ["program"] (spNumLt Prog.size (d + 1)) := by
  refine F.ok sc_raw_size (fun vs H Q E h => ?_) (fun cdv A outer s H vs Q E hr h => ?_)
  · obtain ⟨a, p, rfl, _⟩ := h
    rfl
  · obtain ⟨a, p, rfl, ⟨xs, hx, hp⟩, hw, l2, d2, k⟩ := h
    refine ⟨_, (pss_cons (ps_set (i := 1) sc_raw_size.nd rfl (.inl rfl) pe_int)
    (pss_cons (ps_for PassesOwn.never rfl (pi_tup (pv 0)) (pg_name (i := 2) sc_raw_size.nd rfl (.inl rfl))
    (pss_one (ps_if (pt_cmpR op_eq (pe_ix (ix_tupK (K := K)) (pv 2) pe_int (fun _ _ => rfl)) pe_str (nomark _))
    (pss_one (ps_aug (i := 1) sc_raw_size.nd rfl (.inl rfl) (pe_op op_mulW (pe_ix (ix_tupK (K := K)) (pv 2) pe_int (fun _ _ => rfl)) (pe_callH h_raw_size (hr.mono (by first | decide | omega)) (pa_cons (pe_ix (ix_tupK (K := K)) (pv 2) pe_int (fun _ _ => rfl)) pa_nil))) ip_add))
    (pss_one (ps_if (pt_cmpR op_eq (pe_ix (ix_tupK (K := K)) (pv 2) pe_int (fun _ _ => rfl)) pe_str (nomark _))
    (pss_one (ps_aug (i := 1) sc_raw_size.nd rfl (.inl rfl) (pe_callH h_raw_size (hr.mono (by first | decide | omega)) (pa_cons (pe_ix (ix_tupK (K := K)) (pv 2) pe_int (fun _ _ => rfl)) pa_nil)) ip_add))
    (pss_one (ps_aug (i := 1) sc_raw_size.nd rfl (.inl rfl) pe_int ip_add)))))))
    (pss_one (ps_ret (pv 1))))), ?_⟩
    walk_at "go"
    refine u_forPr hx hp (fun r σ H' => ∃ (t : Int) (y : Option V), σ = [some (.ref a), some (.int t), y] ∧ H' = H ∧ Wf BC BC d r ∧ t + r.size = p.size) ?_ ?_ ?_ ?_
    · exact ⟨0, none, rfl, rfl, hw, by omega⟩
    · rintro r σ H' ⟨t, y, rfl, rfl, _⟩
      exact Tk.refl _
    · rintro x r r' σ H' hf ⟨t, y, rfl, rfl, hw', e⟩
      cases r with
      | nil => exact hf.elim
      | step w' n r =>
        obtain ⟨c, rfl, h1, rfl⟩ := hf
        obtain ⟨w1, w2, w3⟩ := Wf.step_iff.mp hw'
        obtain ⟨n1, n2, n3⟩ := word_ne w1
        walk_at "go"
        exact ⟨_, _, rfl, rfl, w3, by rw [← e, Prog.size]; omega⟩
      | turn k' r =>
        obtain ⟨c, rfl, h1, rfl⟩ := hf
        walk_at "go"
        exact ⟨_, _, rfl, rfl, (Wf.turn_iff.mp hw').2, by rw [← e, Prog.size]; omega⟩
      | rep k' b r =>
        obtain ⟨c, q, rfl, h1, h2, rfl⟩ := hf
        cases d with
        | zero => exact hw'.elim
        | succ d =>
          obtain ⟨w1, w2, w3, w4⟩ := hw'
          have mw : CMulW k' b.size := mulW_of (count_bits (by have := BC_one; omega) w1.2) (size_bits w3 (by omega) w2.2)
          walk_at "go"
          refine ⟨q, b, rfl, h2, w3, w2.2, by omega, ?_⟩
          walk_at "go"
          exact ⟨_, _, rfl, rfl, w4, by rw [← e, Prog.size]; omega⟩
      | mir b r =>
        obtain ⟨c, q, rfl, h1, h2, rfl⟩ := hf
        cases d with
        | zero => exact hw'.elim
        | succ d =>
          obtain ⟨w2, w3, w4⟩ := hw'
          walk_at "go"
          refine ⟨q, b, rfl, h2, w3, w2.2, by omega, ?_⟩
          walk_at "go"
          exact ⟨_, _, rfl, rfl, w4, by rw [← e, Prog.size]; omega⟩
    · rintro σ H' ⟨t, y, rfl, rfl, _, e⟩
      walk_at "go"
      rw [Prog.size, Int.add_zero] at e
      rw [e]
      exact k
theorem has_size {f : Addr} {fd : FuncData} (F : Fun K "raw_size" "raw_size" s_raw_size f fd) (g : mg "raw_size" = some (.ref f)) (b : Binds K fd ["program"] []) : ∀ d, Has P w K mg base "raw_size" d ["program"] (spNumLt Prog.size d)
  | 0 => has_false g F.kp b
  | d + 1 => ⟨f, fd, ok_raw_size d F (has_size F g b d), g, F.kp, b⟩
theorem ok_raw_heading {f : Addr} {fd : FuncData} (d : Nat) (F : Fun K "raw_heading" "raw_heading" s_raw_heading f fd) (h_raw_heading : Has P w K mg base "raw_heading" d ["program"] (spNumLt Prog.head d)) : FnOk P w K mg base CX0 (d + 1) f fd ["program"] (spNumLt Prog.head (d + 1)) := by
  refine F.ok sc_raw_heading (fun vs H Q E h => ?_) (fun cdv A outer s H vs Q E hr h => ?_)
  · obtain ⟨a, p, rfl, _⟩ := h
    rfl
  · obtain ⟨a, p, rfl, ⟨xs, hx, hp⟩, hw, l2, d2, k⟩ := h
    refine ⟨_, (pss_cons (ps_set (i := 1) sc_raw_heading.nd rfl (.inl rfl) pe_int)
    (pss_cons (ps_for PassesOwn.never rfl (pi_tup (pv 0)) (pg_name (i := 2) sc_raw_heading.nd rfl (.inl rfl))
    (pss_one (ps_if (pt_cmpR op_eq (pe_ix (ix_tupK (K := K)) (pv 2) pe_int (fun _ _ => rfl)) pe_str (nomark _))
    (pss_one (ps_aug (i := 1) sc_raw_heading.nd rfl (.inl rfl) (pe_op op_mulW (pe_ix (ix_tupK (K := K)) (pv 2) pe_int (fun _ _ => rfl)) (pe_callH h_raw_heading (hr.mono (by first | decide | omega)) (pa_cons (pe_ix (ix_tupK (K := K)) (pv 2) pe_int (fun _ _ => rfl)) pa_nil))) ip_add))
    (pss_one (ps_if (pt_cmpR op_eq (pe_ix (ix_tupK (K := K)) (pv 2) pe_int (fun _ _ => rfl)) pe_str (nomark _))
    (pss_one (ps_aug (i := 1) sc_raw_heading.nd rfl (.inl rfl) (pe_callH h_raw_heading (hr.mono (by first | decide | omega)) (pa_cons (pe_ix (ix_tupK (K := K)) (pv 2) pe_int (fun _ _ => rfl)) pa_nil)) ip_sub))
    (pss_one (ps_if (pt_cmpR op_eq (pe_ix (ix_tupK (K := K)) (pv 2) pe_int (fun _ _ => rfl)) pe_str (nomark _))
    (pss_one (ps_aug (i := 1) sc_raw_heading.nd rfl (.inl rfl) (pe_ix (ix_tupK (K := K)) (pv 2) pe_int (fun _ _ => rfl)) ip_add))
    pss_nil)))))))
    (pss_one (ps_ret (pv 1))))), ?_⟩
    walk_at "go"
    refine u_forPr hx hp (fun r σ H' => ∃ (t : Int) (y : Option V), σ = [some (.ref a), some (.int t), y] ∧ H' = H ∧ Wf BC BC d r ∧ t + r.head = p.head) ?_ ?_ ?_ ?_
    · exact ⟨0, none, rfl, rfl, hw, by omega⟩
    · rintro r σ H' ⟨t, y, rfl, rfl, _⟩
      exact Tk.refl _
    · rintro x r r' σ H' hf ⟨t, y, rfl, rfl, hw', e⟩
      cases r with
      | nil => exact hf.elim
      | step w' n r =>
        obtain ⟨c, rfl, h1, rfl⟩ := hf
        obtain ⟨w1, w2, w3⟩ := Wf.step_iff.mp hw'
        obtain ⟨n1, n2, n3⟩ := word_ne w1
        walk_at "go"
        exact ⟨_, _, rfl, rfl, w3, by rw [← e, Prog.head]⟩
      | turn k' r =>
        obtain ⟨c, rfl, h1, rfl⟩ := hf
        walk_at "go"
        exact ⟨_, _, rfl, rfl, (Wf.turn_iff.mp hw').2, by rw [← e, Prog.head]; omega⟩
      | rep k' b r =>
        obtain ⟨c, q, rfl, h1, h2, rfl⟩ := hf
        cases d with
        | zero => exact hw'.elim
        | succ d =>
          obtain ⟨w1, w2, w3, w4⟩ := hw'
          have mw : CMulW k' b.head := mulW_of (count_bits (by have := BC_one; omega) w1.2) (head_bits w3 (by omega) w2.2)
          walk_at "go"
          refine ⟨q, b, rfl, h2, w3, w2.2, by omega, ?_⟩
          walk_at "go"
          exact ⟨_, _, rfl, rfl, w4, by rw [← e, Prog.head]; omega⟩
      | mir b r =>
        obtain ⟨c, q, rfl, h1, h2, rfl⟩ := hf
        cases d with
        | zero => exact hw'.elim
        | succ d =>
          obtain ⟨w2, w3, w4⟩ := hw'
          walk_at "go"
          refine ⟨q, b, rfl, h2, w3, w2.2, by omega, ?_⟩
          walk_at "go"
          exact ⟨_, _, rfl, rfl, w4, by rw [← e, Prog.head]; omega⟩
    · rintro σ H' ⟨t, y, rfl, rfl, _, e⟩
      walk_at "go"
      rw [Prog.head, Int.add_zero] at e
      rw [e]
      exact k
theorem has_head {f : Addr} {fd : FuncData} (F : Fun K "raw_heading" "raw_heading" s_raw_heading f fd) (g : mg "raw_heading" = some (.ref f)) (b : Binds K fd ["program"] []) : ∀ d, Has P w K mg base "raw_heading" d ["program"] (spNumLt Prog.head d)
  | 0 => has_false g F.kp b
  | d + 1 => ⟨f, fd, ok_raw_heading d F (has_head F g b d), g, F.kp, b⟩
def spNum (g : Prog → Int) : Sp := fun vs H Q _ => ∃ a p, vs = [.ref a] ∧ Good H a p ∧ ∀ H', Same H H' → Q (.int (g p)) H'
theorem ok_size {f : Addr} {fd : FuncData} (F : Fun K "size" "size" s_size f fd) (h_check_program : Has P w K mg base "check_program" 28 ["value"] spCheckPr) (h_raw_size : Has P w K mg base "raw_size" 13 ["program"] (spNumLt Prog.size 13)) : FnOk P w K mg base CX0 29 f fd ["program"] (spNum Prog.size) := by
  refine F.ok sc_size (fun vs H Q E h => ?_) (fun cdv A outer s H vs Q E hr h => ?_)
  · obtain ⟨c, p, rfl, _⟩ := h
    rfl
  · obtain ⟨c, p, rfl, hg, k⟩ := h
    refine ⟨_, (pss_cons (ps_expr (pe_callH h_check_program (hr.mono (by first | decide | omega)) (pa_cons (pv 0) pa_nil)))
    (pss_one (ps_ret (pe_callH h_raw_size (hr.mono (by first | decide | omega)) (pa_cons (pv 0) pa_nil))))), ?_⟩
    walk_at "go"
    refine ⟨c, p, rfl, hg, fun H' s' => ?_⟩
    walk_at "go"
    exact ⟨c, p, rfl, hg.1.tk (Tk.same s'), hg.2.1, hg.2.2.2, by decide, k _ s'⟩
theorem ok_heading {f : Addr} {fd : FuncData} (F : Fun K "heading" "heading" s_heading f fd) (h_check_program : Has P w K mg base "check_program" 28 ["value"] spCheckPr) (h_raw_heading : Has P w K mg base "raw_heading" 13 ["program"] (spNumLt Prog.head 13)) : FnOk P w K mg base CX0 29 f fd ["program"] (spNum Prog.head) := by
  refine F.ok sc_heading (fun vs H Q E h => ?_) (fun cdv A outer s H vs Q E hr h => ?_)
  · obtain ⟨c, p, rfl, _⟩ := h
    rfl
  · obtain ⟨c, p, rfl, hg, k⟩ := h
    refine ⟨_, (pss_cons (ps_expr (pe_callH h_check_program (hr.mono (by first | decide | omega)) (pa_cons (pv 0) pa_nil)))
    (pss_one (ps_ret (pe_callH h_raw_heading (hr.mono (by first | decide | omega)) (pa_cons (pv 0) pa_nil))))), ?_⟩
    walk_at "go"
    refine ⟨c, p, rfl, hg, fun H' s' => ?_⟩
    walk_at "go"
    exact ⟨c, p, rfl, hg.1.tk (Tk.same s'), hg.2.1, hg.2.2.2, by decide, k _ s'⟩
end
end My

set_option Elab.async false
set_option linter.all false
set_option maxRecDepth 100000
set_option maxHeartbeats 4000000

namespace My
open PySem PySem.Spec PyProof.Rows L2
section
variable {P : Program} {w : World} {K : PySem.W.Frag} {mg : Str → Option Value} {base : Heap}
local macro_rules | `(tactic| walk_at "isi") => `(tactic| (first
  | (with_reducible refine r_is_int_int ?_)
  | (with_reducible refine r_is_int_bool ?_)
  | (with_reducible refine r_is_int_str ?_)
  | (with_reducible refine r_is_int_list ?_)
  | (with_reducible refine r_is_int_tuple ?_)
  | (with_reducible refine r_is_bool_int ?_)
  | (with_reducible refine r_is_bool_bool ?_)
  | (with_reducible refine r_is_bool_str ?_)
  | (with_reducible refine r_is_bool_list ?_)
  | (with_reducible refine r_is_bool_tuple ?_)
  | (with_reducible refine r_is_str_int ?_)
  | (with_reducible refine r_is_str_bool ?_)
  | (with_reducible refine r_is_str_str ?_)
  | (with_reducible refine r_is_str_list ?_)
  | (with_reducible refine r_is_str_tuple ?_)
  | ((with_reducible refine r_is_list_int (xs := ?xx) ?hh ?_); (case hh => walk_at "hp"))
  | ((with_reducible refine r_is_list_bool (xs := ?xx) ?hh ?_); (case hh => walk_at "hp"))
  | ((with_reducible refine r_is_list_str (xs := ?xx) ?hh ?_); (case hh => walk_at "hp"))
  | ((with_reducible refine r_is_list_list (xs := ?xx) ?hh ?_); (case hh => walk_at "hp"))
  | ((with_reducible refine r_is_list_tuple (xs := ?xx) ?hh ?_); (case hh => walk_at "hp"))
  | ((with_reducible refine r_is_tuple_int (xs := ?xx) ?hh ?_); (case hh => walk_at "hp"))
  | ((with_reducible refine r_is_tuple_bool (xs := ?xx) ?hh ?_); (case hh => walk_at "hp"))
  | ((with_reducible refine r_is_tuple_str (xs := ?xx) ?hh ?_); (case hh => walk_at "hp"))
  | ((with_reducible refine r_is_tuple_list (xs := ?xx) ?hh ?_); (case hh => walk_at "hp"))
  | ((with_reducible refine r_is_tuple_tuple (xs := ?xx) ?hh ?_); (case hh => walk_at "hp"))
  | (with_reducible refine r_is_NoneType_int ?_)
  | (with_reducible refine r_is_NoneType_bool ?_)
  | (with_reducible refine r_is_NoneType_str ?_)
  | (with_reducible refine r_is_NoneType_list ?_)
  | (with_reducible refine r_is_NoneType_tuple ?_)))
local macro_rules | `(tactic| walk_at "ne") => `(tactic| first | assumption | (refine Ne.symm ?_; assumption) | exact Bag.ne (by assumption) (by assumption) | exact ne_of_none (by assumption) (by assumption))
local macro_rules | `(tactic| walk_at "hp") => `(tactic| (first
  | assumption
  | exact upd_same
  | (refine h_keep ?_ (by assumption); walk_at "hp")
  | (refine (upd_ne (by walk_at "ne")).trans ?_; walk_at "hp")
  | (refine Same.at (by assumption) ?_; walk_at "hp")
  | (refine But.at (by assumption) (by walk_at "ne") ?_; walk_at "hp")
  | (refine But2.at (by assumption) (by walk_at "ne") (by walk_at "ne") ?_; walk_at "hp")))
local macro_rules | `(tactic| walk_at "side") => `(tactic| first | assumption | omega | (refine ⟨?_, ?_⟩ <;> first | assumption | omega | decide) | decide | (refine ⟨by decide, by decide, by decide⟩) | (left; refine ⟨?_, ?_⟩ <;> first | omega | decide) | (right; refine ⟨?_, ?_⟩ <;> first | omega | decide) | (simp; done))
local macro_rules | `(tactic| walk_at "cond") => `(tactic| first | assumption | exact rfl | omega | (simp only [List.length_cons, List.length_nil]; omega) | decide +kernel)
local macro_rules | `(tactic| walk_at "s") => `(tactic| (first
  | ((with_reducible refine r_var (v := ?vv) ?ee ?_); (case ee => exact rfl))
  | (with_reducible refine r_c ?_)
  | (with_reducible refine r_op ?_)
  | (with_reducible refine r_un ?_)
  | (with_reducible refine r_rI0 ?_)
  | ((with_reducible refine r_rI ?cc ?_); (case cc => walk_at "side"))
  | (with_reducible refine r_rU ?_)
  | (with_reducible refine r_eqI ?_)
  | (with_reducible refine r_neI ?_)
  | (with_reducible refine r_eqB ?_)
  | (with_reducible refine r_neB ?_)
  | (with_reducible refine r_eqS ?_)
  | (with_reducible refine r_neS ?_)
  | ((with_reducible refine r_eq ?ee ?_); (case ee => exact rfl))
  | ((with_reducible refine r_ne ?ee ?_); (case ee => exact rfl))
  | ((with_reducible refine r_ixL (v := ?vv) (xs := ?xx) ?hh ?ee ?_); (case hh => (refine SqL.of ?_; walk_at "hp")); (case ee => exact rfl))
  | (with_reducible refine r_cb ?_)
  | (with_reducible refine r_call ?_)
  | (with_reducible refine r_cons ?_)
  | (with_reducible refine r_nil ?_)
  | (with_reducible refine r_lst ?_)
  | (with_reducible refine r_tup ?_)
  | ((with_reducible refine r_new ?cc ?_); (case cc => walk_at "side"))
  | (with_reducible refine r_exbl ?_)
  | (with_reducible refine r_exint ?_)
  | (with_reducible refine r_exint2 ?_)
  | (with_reducible refine r_exblL ?_)
  | (with_reducible refine r_ex2 ?_)
  | (with_reducible refine r_test ?_)
  | (with_reducible refine r_tB ?_)
  | (with_reducible refine r_not ?_)
  | (with_reducible refine r_and ?_)
  | (with_reducible refine r_or ?_)
  | (with_reducible refine r_andV ?_)
  | (with_reducible refine r_orV ?_)
  | (with_reducible refine r_notV ?_)
  | (with_reducible refine r_tif ?_)
  | (with_reducible refine r_iteT ?_)
  | (with_reducible refine r_iteNT ?_)
  | (with_reducible refine r_iteNF ?_)
  | (with_reducible refine r_iteF ?_)
  | (with_reducible refine r_seq ?_)
  | (with_reducible refine r_next ?_)
  | (with_reducible refine r_brk ?_)
  | (with_reducible refine r_cont ?_)
  | (with_reducible refine r_asg ?_)
  | (with_reducible refine r_gname ?_)
  | (with_reducible refine r_ret ?_)
  | (with_reducible refine r_retN ?_)
  | (with_reducible refine r_drop ?_)
  | (with_reducible refine r_if ?_)
  | ((with_reducible refine r_aug (x := ?xx) ?ee ?_); (case ee => exact rfl))
  | (with_reducible refine r_ipI ?_)
  | (with_reducible refine r_augS ?_)
  | (with_reducible refine r_gsub ?_)
  | ((with_reducible refine r_setL (xs := ?xx) (m := ?mm) ?hh ?ee ?_); (case hh => walk_at "hp"); (case ee => exact rfl))
  | (with_reducible refine r_par ?_)
  | (with_reducible refine r_bm ?_)
  | ((with_reducible refine r_tyL (xs := ?xx) ?hh ?_); (case hh => walk_at "hp"))
  | ((with_reducible refine r_append (xs := ?xx) ?hh ?ll ?_); (case hh => walk_at "hp"); (case ll => walk_at "side"))
  | (walk_at "isi")
  | (with_reducible refine r_for ?_)
  | (with_reducible refine r_iList ?_)
  | (with_reducible refine r_iTup ?_)
  | (with_reducible refine r_iR1 ?_)
  | (with_reducible refine r_iR2 ?_)
  | (with_reducible refine r_lc ?_)
  | (with_reducible refine r_yes ?_)
  | ((with_reducible refine r_lenS ?ll ?_); (case ll => walk_at "side"))
  | (with_reducible refine r_leS ?_)
  | (with_reducible refine r_chain ?_)
  | (with_reducible refine r_tM1 ?_)
  | (with_reducible refine r_exS ?_)
  | ((with_reducible refine r_tupL (xs := ?xx) ?hh ?_); (case hh => walk_at "hp"))
  | ((with_reducible refine r_listL (xs := ?xx) ?hh ?_); (case hh => walk_at "hp"))
  | ((with_reducible refine r_listT (xs := ?xx) ?hh ?_); (case hh => walk_at "hp"))
  | ((with_reducible refine r_ixT (v := ?vv) (xs := ?xx) ?hh ?ee ?_); (case hh => (refine SqT.of ?_; walk_at "hp")); (case ee => exact rfl))
  | (with_reducible refine r_sl ?_)
  | (with_reducible refine r_nopart ?_)
  | (with_reducible refine r_part ?_)
  | (with_reducible refine r_exI ?_)
  | ((with_reducible refine r_slL (xs := ?xx) ?hh ?_); (case hh => first | assumption | (refine SqL.of ?_; walk_at "hp") | (refine Same.seq (by assumption) (by assumption))))
  | ((with_reducible refine r_cat (xs := ?xx) (zs := ?zz) ?hh ?ii ?ll ?_); (case hh => walk_at "hp"); (case ii => walk_at "hp"); (case ll => walk_at "side"))
  | ((with_reducible refine r_lenL (xs := ?xx) ?hh ?_); (case hh => walk_at "hp"))
  | ((with_reducible refine r_lenT (xs := ?xx) ?hh ?_); (case hh => walk_at "hp"))
  | ((with_reducible refine r_gTup (xs := ?xx) ?hh ?ll ?_); (case hh => walk_at "hp"); (case ll => exact rfl))
  | (with_reducible refine r_gCons ?_)
  | (with_reducible refine r_gNil ?_)
  | ((with_reducible refine r_iteDT ?cc ?_); (case cc => walk_at "cond"))
  | ((with_reducible refine r_iteDF ?cc ?_); (case cc => walk_at "cond"))
  | ((with_reducible refine r_iteNDT ?cc ?_); (case cc => walk_at "cond"))
  | ((with_reducible refine r_iteNDF ?cc ?_); (case cc => walk_at "cond"))
  ))
local macro_rules | `(tactic| walk_at "go") => `(tactic| repeat (walk_at "s"))

theorem ok_l_bag_of {f : Addr} {fd : FuncData} (F : Fun K "_law_bag_of" "_law_bag_of" s_l_bag_of f fd) (B : Bl mg) : FnOk P w K mg base CX0 1 f fd ["_law_cell"] spBagOf := by
  refine F.ok sc_l_bag_of (fun vs H Q E h => ?_) (fun cdv A outer s H vs Q E hr h => ?_)
  · obtain ⟨c, rfl, _⟩ := h
    rfl
  · obtain ⟨c, rfl, k⟩ := h
    refine ⟨_, (pss_one (ps_ret (pe_lst (pa_cons (pe_callB (call_max2 rfl) (by rfl) B.b_max (by decide +kernel) (pa_cons pe_int (pa_cons (pe_op op_sub (pv 0) (pe_op op_pow pe_int pe_int)) pa_nil))) (pa_cons (pe_op op_add (pe_op op_mod (pe_callTy call_intI (by rfl) B.b_int (by decide +kernel) (pa_cons (pv 0) pa_nil)) pe_int) pe_int) (pa_cons (pe_op op_mod (pe_callTy call_intI (by rfl) B.b_int (by decide +kernel) (pa_cons (pe_op op_fdivW (pv 0) pe_int) pa_nil)) pe_int) pa_nil)))))), ?_⟩
    walk_at "go"
    intro p np
    exact k p _ np (Same.new0 np) ⟨_, _, _, upd_same, by omega, by omega, by omega⟩
theorem ok_l_pick {f : Addr} {fd : FuncData} (F : Fun K "_law_pick" "_law_pick" s_l_pick f fd) (B : Bl mg) : FnOk P w K mg base CX0 1 f fd ["_law_bag", "_law_many"] spPick := by
  refine F.ok sc_l_pick (fun vs H Q E h => ?_) (fun cdv A outer s H vs Q E hr h => ?_)
  · obtain ⟨a, n, rfl, _⟩ := h
    rfl
  · obtain ⟨a, n, rfl, ⟨x, y, z, hb, y0, y1, z0⟩, n0, n1, k⟩ := h
    have nl : n.natAbs.log2 < 9000 := log_small (Nat.lt_of_le_of_lt (by omega : n.natAbs ≤ 1000000) (by decide +kernel))
    refine ⟨_, (pss_cons (ps_if (pt_cmpR op_gt (pe_ix (ix_listK (K := K)) (pv 0) pe_int (fun _ _ => rfl)) pe_int (nomark _))
    (pss_cons (ps_set (i := 2) sc_l_pick.nd rfl (.inl rfl) (pe_op op_modN (pe_callTy call_intI (by rfl) B.b_int (by decide +kernel) (pa_cons (pe_ix (ix_listK (K := K)) (pv 0) pe_int (fun _ _ => rfl)) pa_nil)) (pv 1)))
    (pss_cons (ps_asg (pe_op op_fdivW (pe_ix (ix_listK (K := K)) (pv 0) pe_int (fun _ _ => rfl)) (pv 1)) (pg_sub (pv 0) pe_int set_list))
    (pss_one (ps_ret (pv 2)))))
    pss_nil)
    (pss_cons (ps_augS (pv 0) pe_int pg_list pe_int ip_add set_list)
    (pss_cons (ps_asg (pe_op op_mod (pe_callTy call_intI (by rfl) B.b_int (by decide +kernel) (pa_cons (pe_op op_add (pe_op op_mul (pe_ix (ix_listK (K := K)) (pv 0) pe_int (fun _ _ => rfl)) pe_int) (pe_op op_mul (pe_ix (ix_listK (K := K)) (pv 0) pe_int (fun _ _ => rfl)) pe_int)) pa_nil)) pe_int) (pg_sub (pv 0) pe_int set_list))
    (pss_one (ps_ret (pe_op op_modN (pe_callTy call_intI (by rfl) B.b_int (by decide +kernel) (pa_cons (pe_op op_fdiv (pe_op op_mod (pe_callTy call_intI (by rfl) B.b_int (by decide +kernel) (pa_cons (pe_op op_mul (pe_ix (ix_listK (K := K)) (pv 0) pe_int (fun _ _ => rfl)) (pe_ix (ix_listK (K := K)) (pv 0) pe_int (fun _ _ => rfl))) pa_nil)) pe_int) pe_int) pa_nil)) (pv 1))))))), ?_⟩
    walk_at "go"
    refine r_iteD (fun hx => ?_) (fun hx => ?_)
    · walk_at "go"
      refine k _ _ (Int.fmod_nonneg_of_pos _ n0) (Int.fmod_lt_of_pos _ n0) (But.self (But.refl _ _)) ⟨_, _, _, upd_same, y0, y1, z0⟩
    · walk_at "go"
      refine k _ _ (Int.fmod_nonneg_of_pos _ n0) (Int.fmod_lt_of_pos _ n0) (But.self (But.self (But.refl _ _))) ⟨_, _, _, upd_same, by omega, by omega, by omega⟩
def spGreat : Sp := fun vs H Q _ => ∃ (a : Addr) (d : Int), vs = [.ref a, .int d] ∧ Bag H a ∧ 0 ≤ d ∧ d ≤ 60 ∧ ∀ (r : Int) H', 0 ≤ r → r < 10 ^ d.toNat → But a H H' → Bag H' a → Q (.int r) H'
theorem ok_l_great_int {f : Addr} {fd : FuncData} (F : Fun K "_law_great_int" "_law_great_int" s_l_great_int f fd) (B : Bl mg) (h_l_pick : Has P w K mg base "_law_pick" 1 ["_law_bag", "_law_many"] spPick) : FnOk P w K mg base CX0 2 f fd ["_law_bag", "_law_digits"] spGreat := by
  refine F.ok sc_l_great_int (fun vs H Q E h => ?_) (fun cdv A outer s H vs Q E hr h => ?_)
  · obtain ⟨a, n, rfl, _⟩ := h
    rfl
  · obtain ⟨a, d, rfl, ba, d0, d1, k⟩ := h
    refine ⟨_, (pss_cons (ps_set (i := 2) sc_l_great_int.nd rfl (.inl rfl) pe_int)
    (pss_cons (ps_for PassesOwn.never rfl (pi_range1 (by rfl) B.b_range (pa_cons pe_int pa_nil)) (pg_name (i := 3) sc_l_great_int.nd rfl (.inl rfl))
    (pss_one (ps_set (i := 2) sc_l_great_int.nd rfl (.inl rfl) (pe_op op_add (pe_op op_mulW (pv 2) (pe_op op_pow pe_int pe_int)) (pe_callH h_l_pick (hr.mono (by first | decide | omega)) (pa_cons (pv 0) (pa_cons (pe_op op_pow pe_int pe_int) pa_nil)))))))
    (pss_cons (ps_set (i := 4) sc_l_great_int.nd rfl (.inl rfl) pe_int)
    (pss_cons (ps_for PassesOwn.never rfl (pi_range1 (by rfl) B.b_range (pa_cons (pv 1) pa_nil)) (pg_name (i := 3) sc_l_great_int.nd rfl (.inl rfl))
    (pss_one (ps_set (i := 4) sc_l_great_int.nd rfl (.inl rfl) (pe_op op_mul (pv 4) pe_int))))
    (pss_one (ps_ret (pe_op op_modN (pe_callTy call_intI (by rfl) B.b_int (by decide +kernel) (pa_cons (pv 2) pa_nil)) (pv 4)))))))), ?_⟩
    walk_at "go"
    refine u_for1 ?_ (fun i σ H' => ∃ (t : Int) (y : Option V), σ = [some (.ref a), some (.int d), some (.int t), y, none] ∧ 0 ≤ t ∧ t < 10 ^ (6 * i) ∧ But a H H' ∧ Bag H' a) ?_ ?_ ?_
    · omega
    · exact ⟨0, none, rfl, by omega, by decide, But.refl _ _, ba⟩
    · rintro i σ H' hi ⟨t, y, rfl, t0, t1, bu, bg⟩
      have t2 : t.natAbs < 2 ^ 100000 := by
        have h1 : (10 : Int) ^ (6 * i) ≤ 10 ^ 42 := ipow_mono (by decide) (by omega)
        refine Nat.lt_of_le_of_lt (m := 10 ^ 42) (by omega) (by decide +kernel)
      have mw : CMulW t (10 ^ Int.toNat 6) := mulW_of t2 (by decide +kernel)
      walk_at "go"
      refine u_pick bg (by decide) (by decide) fun r H2 r0 r1 bu2 b2 => ?_
      walk_at "go"
      refine ⟨_, some (.int i), rfl, ?_, ?_, bu.trans bu2, b2⟩
      · have : 0 ≤ t * 10 ^ Int.toNat 6 := Int.mul_nonneg t0 (by decide)
        omega
      · rw [show 6 * (i + 1) = 6 * i + 6 by omega, Int.pow_add]
        rw [show (10 : Int) ^ Int.toNat 6 = 1000000 by decide] at *
        rw [show (10 : Int) ^ 6 = 1000000 by decide]
        generalize (10 : Int) ^ (6 * i) = X at *
        omega
    · rintro σ H' ⟨t, y, rfl, t0, t1, bu, bg⟩
      walk_at "go"
      refine u_for1 ?_ (fun i σ H2 => ∃ (y : Option V), σ = [some (.ref a), some (.int d), some (.int t), y, some (.int (10 ^ i))] ∧ H2 = H') ?_ ?_ ?_
      · omega
      · exact ⟨y, rfl, rfl⟩
      · rintro i σ H2 hi ⟨y, rfl, rfl⟩
        walk_at "go"
        exact ⟨some (.int i), by rw [Int.pow_succ]; rfl, rfl⟩
      · rintro σ H2 ⟨y, rfl, rfl⟩
        have hp : (0 : Int) < 10 ^ d.toNat := Int.pow_pos (by decide)
        have hp2 : (10 : Int) ^ d.toNat ≠ 0 := by omega
        walk_at "go"
        exact k _ _ (Int.fmod_nonneg_of_pos _ hp) (Int.fmod_lt_of_pos _ hp) bu bg
def spNames : Sp := fun vs H Q _ => ∃ a, vs = [.ref a] ∧ Bag H a ∧ ∀ z H', But a H H' → Bag H' a → Names z → Q (.str z) H'
/-- the bounds of counts and turns by the flag -/
def CB (b : Bool) : Int := if b then BC else 3
def TB (b : Bool) : Int := if b then BC else 12
def spTurn : Sp := fun vs H Q _ => ∃ (a : Addr) (b : Bool), vs = [.ref a, .bl b] ∧ Bag H a ∧ ∀ (r : Int) H', But a H H' → Bag H' a → -(TB b) ≤ r → r ≤ TB b → Q (.int r) H'
theorem TB_le (b : Bool) : 12 ≤ TB b := by cases b <;> decide +kernel
theorem CB_le (b : Bool) : 3 ≤ CB b := by cases b <;> decide +kernel
theorem ok_l_some_turn {f : Addr} {fd : FuncData} (F : Fun K "_law_some_turn" "_law_some_turn" s_l_some_turn f fd) (B : Bl mg) (h_l_pick : Has P w K mg base "_law_pick" 1 ["_law_bag", "_law_many"] spPick) (h_l_great_int : Has P w K mg base "_law_great_int" 2 ["_law_bag", "_law_digits"] spGreat) : FnOk P w K mg base CX0 3 f fd ["_law_bag", "_law_wild"] spTurn := by
  refine F.ok sc_l_some_turn (fun vs H Q E h => ?_) (fun cdv A outer s H vs Q E hr h => ?_)
  · obtain ⟨a, b, rfl, _⟩ := h
    rfl
  · obtain ⟨a, b, rfl, ba, k⟩ := h
    have tb := TB_le b
    refine ⟨_, (pss_cons (ps_set (i := 2) sc_l_some_turn.nd rfl (.inl rfl) (pe_callH h_l_pick (hr.mono (by first | decide | omega)) (pa_cons (pv 0) (pa_cons pe_int pa_nil))))
    (pss_cons (ps_set (i := 3) sc_l_some_turn.nd rfl (.inl rfl) (pe_op op_sub pe_int (pe_op op_mul pe_int (pe_callH h_l_pick (hr.mono (by first | decide | omega)) (pa_cons (pv 0) (pa_cons pe_int pa_nil))))))
    (pss_cons (ps_if (pt_cmpR op_lt (pv 2) pe_int (nomark _))
    (pss_one (ps_ret (pe_op op_mul (pv 3) (pe_callH h_l_pick (hr.mono (by first | decide | omega)) (pa_cons (pv 0) (pa_cons pe_int pa_nil))))))
    pss_nil)
    (pss_cons (ps_if (PW.pt (pw_or (pt_cmpR op_eq (pv 2) pe_int (nomark _)) (pw_or1 (pt_not (pt_val (pv 1))))))
    (pss_one (ps_ret (pe_op op_mul (pv 3) (pe_callH h_l_pick (hr.mono (by first | decide | omega)) (pa_cons (pv 0) (pa_cons pe_int pa_nil))))))
    pss_nil)
    (pss_one (ps_ret (pe_op op_mul (pv 3) (pe_callH h_l_great_int (hr.mono (by first | decide | omega)) (pa_cons (pv 0) (pa_cons pe_int pa_nil)))))))))), ?_⟩
    walk_at "go"
    refine u_pick ba (by omega) (by omega) fun m H1 m0 m1 bu1 b1 => ?_
    walk_at "go"
    refine u_pick b1 (by omega) (by omega) fun r H2 r0 r1 bu2 b2 => ?_
    obtain ⟨sg, hs, hs2⟩ : ∃ sg : Int, 1 - 2 * r = sg ∧ (sg = 1 ∨ sg = -1) := ⟨_, rfl, by omega⟩
    have msg : ∀ x : Int, CMul sg x := fun x => .inl ⟨by omega, by omega⟩
    walk_at "go"
    rw [hs]
    refine r_iteD (fun hm => ?_) (fun hm => ?_)
    · walk_at "go"
      refine u_pick b2 (by omega) (by omega) fun t H3 t0 t1 bu3 b3 => ?_
      refine r_rI (msg _) ?_
      refine k _ _ (bu1.trans (bu2.trans bu3)) b3 ?_ ?_ <;> (rcases hs2 with h | h <;> rw [h] <;> omega)
    · walk_at "go"
      have fin : ∀ (n : Int) (t : Int) (H3 : Hp), n ≤ TB b → 0 ≤ t → t ≤ n → But a H2 H3 → Bag H3 a → Q (.int (sg * t)) H3 := fun n t H3 h1 h2 h3 bu3 b3 => by
        refine k _ _ (bu1.trans (bu2.trans bu3)) b3 ?_ ?_ <;> (rcases hs2 with h | h <;> rw [h] <;> omega)
      refine r_iteD (fun hm2 => ?_) (fun hm2 => ?_)
      · walk_at "go"
        refine u_pick b2 (by omega) (by omega) fun t H3 t0 t1 bu3 b3 => ?_
        refine r_rI (msg _) ?_
        exact fin 12 t H3 tb t0 (by omega) bu3 b3
      · walk_at "go"
        cases b with
        | false =>
          walk_at "go"
          refine u_pick b2 (by omega) (by omega) fun t H3 t0 t1 bu3 b3 => ?_
          refine r_rI (msg _) ?_
          exact fin 12 t H3 tb t0 (by omega) bu3 b3
        | true =>
          walk_at "go"
          refine ⟨a, 30, rfl, b2, by omega, by omega, fun t H3 t0 t1 bu3 b3 => ?_⟩
          refine r_rI (msg _) ?_
          refine fin BC t H3 (Int.le_refl _) t0 (Int.le_of_lt (Int.lt_of_lt_of_le t1 (by decide +kernel))) bu3 b3
def spLots : Sp := fun vs H Q _ => ∃ (a : Addr) (fr : Int) (b : Bool), vs = [.ref a, .int fr, .bl b] ∧ Bag H a ∧ ∀ (r : Int) H', But a H H' → Bag H' a → 1 ≤ r → r ≤ CB b → Q (.int r) H'
theorem ok_l_some_lots {f : Addr} {fd : FuncData} (F : Fun K "_law_some_lots" "_law_some_lots" s_l_some_lots f fd) (B : Bl mg) (h_l_pick : Has P w K mg base "_law_pick" 1 ["_law_bag", "_law_many"] spPick) (h_l_great_int : Has P w K mg base "_law_great_int" 2 ["_law_bag", "_law_digits"] spGreat) : FnOk P w K mg base CX0 3 f fd ["_law_bag", "_law_free", "_law_wild"] spLots := by
  refine F.ok sc_l_some_lots (fun vs H Q E h => ?_) (fun cdv A outer s H vs Q E hr h => ?_)
  · obtain ⟨a, fr, b, rfl, _⟩ := h
    rfl
  · obtain ⟨a, fr, b, rfl, ba, k⟩ := h
    have cb := CB_le b
    have c3 : (1000 : Int) ≤ BC := by decide +kernel
    have c4 : (10 : Int) ^ 29 + 1000 ≤ BC := by decide +kernel
    refine ⟨_, (pss_cons (ps_set (i := 3) sc_l_some_lots.nd rfl (.inl rfl) (pe_callH h_l_pick (hr.mono (by first | decide | omega)) (pa_cons (pv 0) (pa_cons pe_int pa_nil))))
    (pss_cons (ps_if (PW.pt (pw_or (pt_cmpR op_lt (pv 3) pe_int (nomark _)) (pw_or1 (pt_not (pt_val (pv 2))))))
    (pss_one (ps_ret (pe_op op_add pe_int (pe_callH h_l_pick (hr.mono (by first | decide | omega)) (pa_cons (pv 0) (pa_cons pe_int pa_nil))))))
    pss_nil)
    (pss_cons (ps_if (PW.pt (pw_and (pt_cmpR op_eq (pv 3) pe_int (nomark _)) (pw_and1 (pt_cmpR op_gt (pv 1) pe_int (nomark _)))))
    (pss_one (ps_ret (pe_op op_add pe_int (pe_callH h_l_great_int (hr.mono (by first | decide | omega)) (pa_cons (pv 0) (pa_cons pe_int pa_nil))))))
    pss_nil)
    (pss_one (ps_ret (pe_op op_add pe_int (pe_callH h_l_pick (hr.mono (by first | decide | omega)) (pa_cons (pv 0) (pa_cons pe_int pa_nil))))))))), ?_⟩
    walk_at "go"
    refine u_pick ba (by omega) (by omega) fun m H1 m0 m1 bu1 b1 => ?_
    walk_at "go"
    refine r_iteD (fun hm => ?_) (fun hm => ?_)
    · walk_at "go"
      refine u_pick b1 (by omega) (by omega) fun t H2 t0 t1 bu2 b2 => ?_
      walk_at "go"
      exact k _ _ (bu1.trans bu2) b2 (by omega) (by omega)
    · walk_at "go"
      cases b with
      | false =>
        walk_at "go"
        refine u_pick b1 (by omega) (by omega) fun t H2 t0 t1 bu2 b2 => ?_
        walk_at "go"
        exact k _ _ (bu1.trans bu2) b2 (by omega) (by omega)
      | true =>
        have c5 : CB true = BC := rfl
        walk_at "go"
        have last : ∀ (t : Int) (H2 : Hp), 0 ≤ t → t < 100 → But a H1 H2 → Bag H2 a → Q (.int (1 + t)) H2 := fun t H2 t0 t1 bu2 b2 => k _ _ (bu1.trans bu2) b2 (by omega) (by omega)
        refine r_iteD (fun h3 => ?_) (fun h3 => ?_)
        · walk_at "go"
          refine r_iteD (fun h4 => ?_) (fun h4 => ?_)
          · walk_at "go"
            refine ⟨a, 29, rfl, b1, by omega, by omega, fun t H2 t0 t1 bu2 b2 => ?_⟩
            walk_at "go"
            have t2 : t < 10 ^ 29 := t1
            exact k _ _ (bu1.trans bu2) b2 (by omega) (by omega)
          · walk_at "go"
            refine u_pick b1 (by omega) (by omega) fun t H2 t0 t1 bu2 b2 => ?_
            walk_at "go"
            exact last t H2 t0 t1 bu2 b2
        · walk_at "go"
          refine u_pick b1 (by omega) (by omega) fun t H2 t0 t1 bu2 b2 => ?_
          walk_at "go"
          exact last t H2 t0 t1 bu2 b2
end
end My

set_option Elab.async false
set_option linter.all false
set_option maxRecDepth 100000
set_option maxHeartbeats 4000000

namespace My
open PySem PySem.Spec PyProof.Rows L2
section
variable {P : Program} {w : World} {K : PySem.W.Frag} {mg : Str → Option Value} {base : Heap}
local macro_rules | `(tactic| walk_at "isi") => `(tactic| (first
  | (with_reducible refine r_is_int_int ?_)
  | (with_reducible refine r_is_int_bool ?_)
  | (with_reducible refine r_is_int_str ?_)
  | (with_reducible refine r_is_int_list ?_)
  | (with_reducible refine r_is_int_tuple ?_)
  | (with_reducible refine r_is_bool_int ?_)
  | (with_reducible refine r_is_bool_bool ?_)
  | (with_reducible refine r_is_bool_str ?_)
  | (with_reducible refine r_is_bool_list ?_)
  | (with_reducible refine r_is_bool_tuple ?_)
  | (with_reducible refine r_is_str_int ?_)
  | (with_reducible refine r_is_str_bool ?_)
  | (with_reducible refine r_is_str_str ?_)
  | (with_reducible refine r_is_str_list ?_)
  | (with_reducible refine r_is_str_tuple ?_)
  | ((with_reducible refine r_is_list_int (xs := ?xx) ?hh ?_); (case hh => walk_at "hp"))
  | ((with_reducible refine r_is_list_bool (xs := ?xx) ?hh ?_); (case hh => walk_at "hp"))
  | ((with_reducible refine r_is_list_str (xs := ?xx) ?hh ?_); (case hh => walk_at "hp"))
  | ((with_reducible refine r_is_list_list (xs := ?xx) ?hh ?_); (case hh => walk_at "hp"))
  | ((with_reducible refine r_is_list_tuple (xs := ?xx) ?hh ?_); (case hh => walk_at "hp"))
  | ((with_reducible refine r_is_tuple_int (xs := ?xx) ?hh ?_); (case hh => walk_at "hp"))
  | ((with_reducible refine r_is_tuple_bool (xs := ?xx) ?hh ?_); (case hh => walk_at "hp"))
  | ((with_reducible refine r_is_tuple_str (xs := ?xx) ?hh ?_); (case hh => walk_at "hp"))
  | ((with_reducible refine r_is_tuple_list (xs := ?xx) ?hh ?_); (case hh => walk_at "hp"))
  | ((with_reducible refine r_is_tuple_tuple (xs := ?xx) ?hh ?_); (case hh => walk_at "hp"))
  | (with_reducible refine r_is_NoneType_int ?_)
  | (with_reducible refine r_is_NoneType_bool ?_)
  | (with_reducible refine r_is_NoneType_str ?_)
  | (with_reducible refine r_is_NoneType_list ?_)
  | (with_reducible refine r_is_NoneType_tuple ?_)))
local macro_rules | `(tactic| walk_at "ne") => `(tactic| first | assumption | (refine Ne.symm ?_; assumption) | exact Bag.ne (by assumption) (by assumption) | exact ne_of_none (by assumption) (by assumption))
local macro_rules | `(tactic| walk_at "hp") => `(tactic| (first
  | assumption
  | exact upd_same
  | (refine h_keep ?_ (by assumption); walk_at "hp")
  | (refine (upd_ne (by walk_at "ne")).trans ?_; walk_at "hp")
  | (refine Same.at (by assumption) ?_; walk_at "hp")
  | (refine But.at (by assumption) (by walk_at "ne") ?_; walk_at "hp")
  | (refine But2.at (by assumption) (by walk_at "ne") (by walk_at "ne") ?_; walk_at "hp")))
local macro_rules | `(tactic| walk_at "side") => `(tactic| first | assumption | omega | (refine ⟨?_, ?_⟩ <;> first | assumption | omega | decide) | decide | (refine ⟨by decide, by decide, by decide⟩) | (left; refine ⟨?_, ?_⟩ <;> first | omega | decide) | (right; refine ⟨?_, ?_⟩ <;> first | omega | decide) | (simp; done))
local macro_rules | `(tactic| walk_at "cond") => `(tactic| first | assumption | exact rfl | omega | (simp only [List.length_cons, List.length_nil]; omega) | decide +kernel)
local macro_rules | `(tactic| walk_at "s") => `(tactic| (first
  | ((with_reducible refine r_var (v := ?vv) ?ee ?_); (case ee => exact rfl))
  | (with_reducible refine r_c ?_)
  | (with_reducible refine r_op ?_)
  | (with_reducible refine r_un ?_)
  | (with_reducible refine r_rI0 ?_)
  | ((with_reducible refine r_rI ?cc ?_); (case cc => walk_at "side"))
  | (with_reducible refine r_rU ?_)
  | (with_reducible refine r_eqI ?_)
  | (with_reducible refine r_neI ?_)
  | (with_reducible refine r_eqB ?_)
  | (with_reducible refine r_neB ?_)
  | (with_reducible refine r_eqS ?_)
  | (with_reducible refine r_neS ?_)
  | ((with_reducible refine r_eq ?ee ?_); (case ee => exact rfl))
  | ((with_reducible refine r_ne ?ee ?_); (case ee => exact rfl))
  | ((with_reducible refine r_ixL (v := ?vv) (xs := ?xx) ?hh ?ee ?_); (case hh => (refine SqL.of ?_; walk_at "hp")); (case ee => exact rfl))
  | (with_reducible refine r_cb ?_)
  | (with_reducible refine r_call ?_)
  | (with_reducible refine r_cons ?_)
  | (with_reducible refine r_nil ?_)
  | (with_reducible refine r_lst ?_)
  | (with_reducible refine r_tup ?_)
  | ((with_reducible refine r_new ?cc ?_); (case cc => walk_at "side"))
  | (with_reducible refine r_exbl ?_)
  | (with_reducible refine r_exint ?_)
  | (with_reducible refine r_exint2 ?_)
  | (with_reducible refine r_exblL ?_)
  | (with_reducible refine r_ex2 ?_)
  | (with_reducible refine r_test ?_)
  | (with_reducible refine r_tB ?_)
  | (with_reducible refine r_not ?_)
  | (with_reducible refine r_and ?_)
  | (with_reducible refine r_or ?_)
  | (with_reducible refine r_andV ?_)
  | (with_reducible refine r_orV ?_)
  | (with_reducible refine r_notV ?_)
  | (with_reducible refine r_tif ?_)
  | (with_reducible refine r_iteT ?_)
  | (with_reducible refine r_iteNT ?_)
  | (with_reducible refine r_iteNF ?_)
  | (with_reducible refine r_iteF ?_)
  | (with_reducible refine r_seq ?_)
  | (with_reducible refine r_next ?_)
  | (with_reducible refine r_brk ?_)
  | (with_reducible refine r_cont ?_)
  | (with_reducible refine r_asg ?_)
  | (with_reducible refine r_gname ?_)
  | (with_reducible refine r_ret ?_)
  | (with_reducible refine r_retN ?_)
  | (with_reducible refine r_drop ?_)
  | (with_reducible refine r_if ?_)
  | ((with_reducible refine r_aug (x := ?xx) ?ee ?_); (case ee => exact rfl))
  | (with_reducible refine r_ipI ?_)
  | (with_reducible refine r_augS ?_)
  | (with_reducible refine r_gsub ?_)
  | ((with_reducible refine r_setL (xs := ?xx) (m := ?mm) ?hh ?ee ?_); (case hh => walk_at "hp"); (case ee => exact rfl))
  | (with_reducible refine r_par ?_)
  | (with_reducible refine r_bm ?_)
  | ((with_reducible refine r_tyL (xs := ?xx) ?hh ?_); (case hh => walk_at "hp"))
  | ((with_reducible refine r_append (xs := ?xx) ?hh ?ll ?_); (case hh => walk_at "hp"); (case ll => walk_at "side"))
  | (walk_at "isi")
  | (with_reducible refine r_for ?_)
  | (with_reducible refine r_iList ?_)
  | (with_reducible refine r_iTup ?_)
  | (with_reducible refine r_iR1 ?_)
  | (with_reducible refine r_iR2 ?_)
  | (with_reducible refine r_lc ?_)
  | (with_reducible refine r_yes ?_)
  | ((with_reducible refine r_lenS ?ll ?_); (case ll => walk_at "side"))
  | (with_reducible refine r_leS ?_)
  | (with_reducible refine r_chain ?_)
  | (with_reducible refine r_tM1 ?_)
  | (with_reducible refine r_exS ?_)
  | ((with_reducible refine r_tupL (xs := ?xx) ?hh ?_); (case hh => walk_at "hp"))
  | ((with_reducible refine r_listL (xs := ?xx) ?hh ?_); (case hh => walk_at "hp"))
  | ((with_reducible refine r_listT (xs := ?xx) ?hh ?_); (case hh => walk_at "hp"))
  | ((with_reducible refine r_ixT (v := ?vv) (xs := ?xx) ?hh ?ee ?_); (case hh => (refine SqT.of ?_; walk_at "hp")); (case ee => exact rfl))
  | (with_reducible refine r_sl ?_)
  | (with_reducible refine r_nopart ?_)
  | (with_reducible refine r_part ?_)
  | (with_reducible refine r_exI ?_)
  | ((with_reducible refine r_slL (xs := ?xx) ?hh ?_); (case hh => first | assumption | (refine SqL.of ?_; walk_at "hp") | (refine Same.seq (by assumption) (by assumption))))
  | ((with_reducible refine r_cat (xs := ?xx) (zs := ?zz) ?hh ?ii ?ll ?_); (case hh => walk_at "hp"); (case ii => walk_at "hp"); (case ll => walk_at "side"))
  | ((with_reducible refine r_lenL (xs := ?xx) ?hh ?_); (case hh => walk_at "hp"))
  | ((with_reducible refine r_lenT (xs := ?xx) ?hh ?_); (case hh => walk_at "hp"))
  | ((with_reducible refine r_gTup (xs := ?xx) ?hh ?ll ?_); (case hh => walk_at "hp"); (case ll => exact rfl))
  | (with_reducible refine r_gCons ?_)
  | (with_reducible refine r_gNil ?_)
  | ((with_reducible refine r_iteDT ?cc ?_); (case cc => walk_at "cond"))
  | ((with_reducible refine r_iteDF ?cc ?_); (case cc => walk_at "cond"))
  | ((with_reducible refine r_iteNDT ?cc ?_); (case cc => walk_at "cond"))
  | ((with_reducible refine r_iteNDF ?cc ?_); (case cc => walk_at "cond"))
  ))
local macro_rules | `(tactic| walk_at "go") => `(tactic| repeat (walk_at "s"))

def spPieceLt : Nat → Sp
  | 0 => fun _ _ _ _ => False
  | d + 1 => fun vs H Q _ => ∃ (a o : Addr) (n : Int) (z : Str) (fr : Int) (b : Bool), vs = [.ref a, .ref o, .int (d : Int), .int fr, .bl b] ∧ Bag H a ∧ H o = some (.lst [.int n, .str z]) ∧ Names z ∧
    ∀ q p H', H q = none → But2 a o H H' → Bag H' a → (∃ n' : Int, H' o = some (.lst [.int n', .str z])) → Tk H H' → PrIs H' q p → Wf (CB b) (TB b) d p → 1 ≤ p.len → p.len ≤ 5 → p.size ≤ p.len * (5 * CB b) ^ d → Q (.ref q) H'
theorem word_at {n : Int} (h0 : 0 ≤ n) (h1 : n < 4) : ∃ x : Str, atI [V.str "go", V.str "back", V.str "hop", V.str "slip"] n = some (.str x) ∧ IsWord x := by
  rcases (by omega : n = 0 ∨ n = 1 ∨ n = 2 ∨ n = 3) with rfl | rfl | rfl | rfl
  · exact ⟨_, rfl, .inl rfl⟩
  · exact ⟨_, rfl, .inr (.inl rfl)⟩
  · exact ⟨_, rfl, .inr (.inr (.inl rfl))⟩
  · exact ⟨_, rfl, .inr (.inr (.inr rfl))⟩
/-- what holds between the turns of the loop that makes a piece -/
structure PcInv (H : Hp) (a o m : Addr) (d : Nat) (b : Bool) (z : Str) (p : Prog) (H' : Hp) : Prop where
  bu : But2 a o H H'
  bg : Bag H' a
  pot : ∃ n' : Int, H' o = some (.lst [.int n', .str z])
  tk : Tk H H'
  lst : ∃ xs, H' m = some (.lst xs) ∧ PrAt H' p xs
  wf : Wf (CB b) (TB b) d p
  sz : p.size ≤ p.len * (5 * CB b) ^ d
section
variable {H H' H'' : Hp} {a o m : Addr} {d : Nat} {b : Bool} {z : Str} {p : Prog}
theorem PcInv.pick (h : PcInv H a o m d b z p H') (noa : o ≠ a) (nma : m ≠ a) (bu : But a H' H'') (bg : Bag H'' a) : PcInv H a o m d b z p H'' := by
  obtain ⟨n', ho⟩ := h.pot
  obtain ⟨xs, hm, hp⟩ := h.lst
  exact ⟨h.bu.trans (.of bu), bg, ⟨n', bu _ _ noa ho⟩, h.tk.trans (Tk.but bu h.bg), ⟨xs, bu _ _ nma hm, hp.tk (Tk.but bu h.bg)⟩, h.wf, h.sz⟩
theorem PcInv.call (h : PcInv H a o m d b z p H') (nma : m ≠ a) (nmo : m ≠ o) (bu : But2 a o H' H'') (bg : Bag H'' a) (pot : ∃ n' : Int, H'' o = some (.lst [.int n', .str z])) (tk : Tk H' H'') : PcInv H a o m d b z p H'' := by
  obtain ⟨xs, hm, hp⟩ := h.lst
  exact ⟨h.bu.trans bu, bg, pot, h.tk.trans tk, ⟨xs, bu _ _ nma nmo hm, hp.tk tk⟩, h.wf, h.sz⟩
theorem PcInv.less (h : PcInv H a o m d b z p H') (noa : o ≠ a) (nmo : m ≠ o) (n : Int) : PcInv H a o m d b z p (upd H' o (.lst [.int n, .str z])) := by
  obtain ⟨n', ho⟩ := h.pot
  obtain ⟨xs, hm, hp⟩ := h.lst
  have t : Tk H' (upd H' o (.lst [.int n, .str z])) := (Tk.refl _).lst ho
  exact ⟨h.bu.self, h.bg.upd noa.symm, ⟨n, upd_same⟩, h.tk.trans t, ⟨xs, (upd_ne nmo).trans hm, hp.tk t⟩, h.wf, h.sz⟩
theorem PcInv.push {c : Addr} {T xs : List V} {r1 : Prog} (h : PcInv H a o m d b z p H') (nm : H m = none) (nma : m ≠ a) (nmo : m ≠ o) (nc : H' c = none) (hx : H' m = some (.lst xs)) (hf : ∀ H2, Tk H' H2 → H2 c = some (.tup T) → PrAt H2 r1 [.ref c]) (hw : Wf (CB b) (TB b) d r1) (hz : r1.size ≤ r1.len * (5 * CB b) ^ d) :
    PcInv H a o m d b z (p.app r1) (upd (upd H' c (.tup T)) m (.lst (xs ++ [.ref c]))) := by
  obtain ⟨n', ho⟩ := h.pot
  obtain ⟨ys, hm, hp⟩ := h.lst
  obtain rfl : xs = ys := by
    rw [hx] at hm
    injection hm with hm
    injection hm
  have nco : c ≠ o := (ne_of_none ho nc).symm
  have nca : c ≠ a := h.bg.ne nc
  have ncm : c ≠ m := (ne_of_none hx nc).symm
  have t1 : Tk H' (upd H' c (.tup T)) := (Tk.refl _).new nc
  have t2 : Tk H' (upd (upd H' c (.tup T)) m (.lst (xs ++ [.ref c]))) := t1.lst (h_keep hx nc)
  refine ⟨(h.bu.new nc).put nm, (h.bg.keep nc).upd nma.symm, ⟨n', (upd_ne nmo.symm).trans (h_keep ho nc)⟩, h.tk.trans t2, ⟨_, upd_same, (hp.tk t2).app (hf _ t2 ((upd_ne ncm).trans upd_same))⟩, h.wf.app hw, by rw [Prog.size_app, Prog.len_app, Int.natCast_add, Int.add_mul]; have := h.sz; omega⟩
end
theorem sz1 (b : Bool) (d : Nat) : (1 + 0 : Int) ≤ ((0 + 1 : Nat) : Int) * (5 * CB b) ^ d := by
  have h2 : (0 : Int) < (5 * CB b) ^ d := Int.pow_pos (by have := CB_le b; omega)
  omega
theorem szp {b : Bool} {d : Nat} {s : Int} {n : Nat} (q5 : n ≤ 5) (q6 : s ≤ n * (5 * CB b) ^ d) : s ≤ 5 * (5 * CB b) ^ d := by
  have h2 : (0 : Int) < (5 * CB b) ^ d := Int.pow_pos (by have := CB_le b; omega)
  exact Int.le_trans q6 (Int.mul_le_mul_of_nonneg_right (by omega) (Int.le_of_lt h2))
theorem szr {b : Bool} {d : Nat} {p : Prog} {k : Int} (h1 : 1 ≤ k) (h2 : k ≤ CB b) (q5 : p.len ≤ 5) (q6 : p.size ≤ p.len * (5 * CB b) ^ d) (w : Wf (CB b) (TB b) d p) : k * p.size + 0 ≤ ((0 + 1 : Nat) : Int) * (5 * CB b) ^ (d + 1) := by
  have h3 := szp q5 q6
  have h4 := Prog.size_nonneg w
  have h5 : k * p.size ≤ CB b * (5 * (5 * CB b) ^ d) := Int.mul_le_mul h2 h3 h4 (by omega)
  have h6 : CB b * (5 * (5 * CB b) ^ d) = (5 * CB b) ^ (d + 1) := by rw [Int.pow_succ, Int.mul_comm ((5 * CB b) ^ d), ← Int.mul_assoc, Int.mul_comm (CB b)]
  omega
theorem szm {b : Bool} {d : Nat} {p : Prog} (q5 : p.len ≤ 5) (q6 : p.size ≤ p.len * (5 * CB b) ^ d) : p.size + 0 ≤ ((0 + 1 : Nat) : Int) * (5 * CB b) ^ (d + 1) := by
  have h3 := szp q5 q6
  have h2 : (0 : Int) < (5 * CB b) ^ d := Int.pow_pos (by have := CB_le b; omega)
  have h5 : 1 * (5 * (5 * CB b) ^ d) ≤ CB b * (5 * (5 * CB b) ^ d) := Int.mul_le_mul_of_nonneg_right (by have := CB_le b; omega) (by omega)
  have h6 : CB b * (5 * (5 * CB b) ^ d) = (5 * CB b) ^ (d + 1) := by rw [Int.pow_succ, Int.mul_comm ((5 * CB b) ^ d), ← Int.mul_assoc, Int.mul_comm (CB b)]
  omega
theorem ok_l_piece {f : Addr} {fd : FuncData} (d : Nat) (F : Fun K "_law_piece" "_law_piece" s_l_piece f fd) (B : Bl mg) (h_l_pick : Has P w K mg base "_law_pick" 1 ["_law_bag", "_law_many"] spPick) (h_l_some_turn : Has P w K mg base "_law_some_turn" 3 ["_law_bag", "_law_wild"] spTurn)
   (h_l_some_lots : Has P w K mg base "_law_some_lots" 3 ["_law_bag", "_law_free", "_law_wild"] spLots) (h_l_piece : Has P w K mg base "_law_piece" (d + 3) ["_law_bag", "_law_pot", "_law_deep", "_law_free", "_law_wild"] (spPieceLt d)) :
   FnOk P w K mg base CX0 (d + 4) f fd ["_law_bag", "_law_pot", "_law_deep", "_law_free", "_law_wild"] (spPieceLt (d + 1)) := by
  refine F.ok sc_l_piece (fun vs H Q E h => ?_) (fun cdv A outer s H vs Q E hr h => ?_)
  · obtain ⟨a, o, n, z, fr, b, rfl, _⟩ := h
    rfl
  · obtain ⟨a, o, n, z, fr, b, rfl, ba, ho, hz, k⟩ := h
    have noa : o ≠ a := by
      obtain ⟨l, e, e3⟩ := ba.list
      exact ne_of ho e (by intro h; injection h with h; rw [← h] at e3; cases e3)
    refine ⟨_, (pss_cons (ps_set (i := 5) sc_l_piece.nd rfl (.inl rfl) (pe_lst pa_nil))
    (pss_cutM (ps_for PassesOwn.never rfl (pi_range1 (by rfl) B.b_range (pa_cons (pe_op op_add pe_int (pe_callH h_l_pick (hr.mono (by first | decide | omega)) (pa_cons (pv 0) (pa_cons pe_int pa_nil)))) pa_nil)) (pg_name (i := 6) sc_l_piece.nd rfl (.inl rfl))
    (pss_cons (ps_set (i := 7) sc_l_piece.nd rfl (.inl rfl) (pe_callH h_l_pick (hr.mono (by first | decide | omega)) (pa_cons (pv 0) (pa_cons pe_int pa_nil))))
    (pss_cons (ps_asg (pe_op op_sub (pe_ix (ix_listK (K := K)) (pv 1) pe_int (fun _ _ => rfl)) pe_int) (pg_sub (pv 1) pe_int set_list))
    (pss_cutM (ps_if (PW.pt (pw_or (pt_cmpR op_lt (pv 7) pe_int (nomark _)) (pw_or (pt_cmpR op_eq (pv 2) pe_int (nomark _)) (pw_or1 (pt_cmpR op_lt (pe_ix (ix_listK (K := K)) (pv 1) pe_int (fun _ _ => rfl)) pe_int (nomark _))))))
    (pss_one (ps_if (PW.pt (pw_or (pt_cmpR op_eq (pv 7) pe_int (nomark _)) (pw_or1 (pt_cmpR op_eq (pv 7) pe_int (nomark _)))))
    (pss_one (ps_expr (pe_bm PySem.F.plainAttrs_list PySem.F.slot_list_append PySem.F.type_list_append mt_append (pv 5) (pa_cons (pe_tup (pa_cons pe_str (pa_cons (pe_callH h_l_some_turn (hr.mono (by first | decide | omega)) (pa_cons (pv 0) (pa_cons (pv 4) pa_nil))) pa_nil))) pa_nil))))
    (pss_cons (ps_set (i := 8) sc_l_piece.nd rfl (.inl rfl) (pe_ix (ix_listK (K := K)) (pe_lst (pa_cons pe_str (pa_cons pe_str (pa_cons pe_str (pa_cons pe_str pa_nil))))) (pe_callH h_l_pick (hr.mono (by first | decide | omega)) (pa_cons (pv 0) (pa_cons pe_int pa_nil))) (fun _ _ => rfl)))
    (pss_one (ps_expr (pe_bm PySem.F.plainAttrs_list PySem.F.slot_list_append PySem.F.type_list_append mt_append (pv 5) (pa_cons (pe_tup (pa_cons (pv 8) (pa_cons (pe_ix ix_str (pe_ix (ix_listK (K := K)) (pv 1) pe_int (fun _ _ => rfl)) (pe_callH h_l_pick (hr.mono (by first | decide | omega)) (pa_cons (pv 0) (pa_cons pe_int pa_nil))) (fun _ _ => rfl)) pa_nil))) pa_nil)))))))
    (pss_one (ps_if (pt_cmpR op_eq (pv 7) pe_int (nomark _))
    (pss_cons (ps_set (i := 9) sc_l_piece.nd rfl (.inl rfl) (pe_callH h_l_some_lots (hr.mono (by first | decide | omega)) (pa_cons (pv 0) (pa_cons (pv 3) (pa_cons (pv 4) pa_nil)))))
    (pss_one (ps_expr (pe_bm PySem.F.plainAttrs_list PySem.F.slot_list_append PySem.F.type_list_append mt_append (pv 5) (pa_cons (pe_tup (pa_cons pe_str (pa_cons (pv 9) (pa_cons (pe_callH h_l_piece (hr.mono (by first | decide | omega)) (pa_cons (pv 0) (pa_cons (pv 1) (pa_cons (pe_op op_sub (pv 2) pe_int) (pa_cons (pe_op op_sub (pv 3) (pe_callTy call_intB (by rfl) B.b_int (by decide +kernel) (pa_cons (pe_cmpR op_gt (pv 9) pe_int (nomark _)) pa_nil))) (pa_cons (pv 4) pa_nil)))))) pa_nil)))) pa_nil)))))
    (pss_one (ps_expr (pe_bm PySem.F.plainAttrs_list PySem.F.slot_list_append PySem.F.type_list_append mt_append (pv 5) (pa_cons (pe_tup (pa_cons pe_str (pa_cons (pe_callH h_l_piece (hr.mono (by first | decide | omega)) (pa_cons (pv 0) (pa_cons (pv 1) (pa_cons (pe_op op_sub (pv 2) pe_int) (pa_cons (pv 3) (pa_cons (pv 4) pa_nil)))))) pa_nil))) pa_nil)))))))
    (pss_one (ps_if (pt_cmpR op_lt (pe_ix (ix_listK (K := K)) (pv 1) pe_int (fun _ _ => rfl)) pe_int (nomark _))
    (pss_one ps_break)
    pss_nil))))))
    (pss_one (ps_ret (pe_callTy call_tupL (by rfl) B.b_tuple (by decide +kernel) (pa_cons (pv 5) pa_nil)))))), ?_⟩
    walk_at "go"
    intro m nm
    have nma : m ≠ a := ba.ne nm
    have nmo : m ≠ o := (ne_of_none ho nm).symm
    walk_at "go"
    refine r_cut (fun σ' H' => ∃ p : Prog, σ'[5]? = some (some (.ref m)) ∧ PcInv H a o m d b z p H' ∧ 1 ≤ p.len ∧ p.len ≤ 5) ?_ ?_
    · walk_at "go"
      refine u_pick (ba.keep nm) (by omega) (by omega) fun r H1 r0 r1 bu1 b1 => ?_
      walk_at "go"
      refine u_for1 ?_ (fun i σ H' => ∃ (p : Prog) (y6 y7 y8 y9 : Option V), σ = [some (.ref a), some (.ref o), some (.int (d : Int)), some (.int fr), some (.bl b), some (.ref m), y6, y7, y8, y9] ∧ PcInv H a o m d b z p H' ∧ p.len = i ∧ i ≤ 5) ?_ ?_ ?_
      · omega
      · refine ⟨.nil, none, none, none, none, rfl, ⟨(But2.new (But2.refl _ _ _) nm).trans (But2.of bu1), b1, ⟨n, bu1 _ _ noa (h_keep ho nm)⟩, ((Tk.refl _).new nm).trans (Tk.but bu1 (ba.keep nm)), ⟨[], bu1 _ _ nma upd_same, rfl⟩, Wf.nil, by rw [Prog.size, Prog.len]; simp⟩, rfl, by omega⟩
      · rintro i σ H' hi ⟨p, y6, y7, y8, y9, rfl, iv, pl, i5⟩
        walk_at "go"
        refine u_pick iv.bg (by omega) (by omega) fun way H2 w0 w1 bu2 b2 => ?_
        have iv2 := iv.pick noa nma bu2 b2
        obtain ⟨n2, ho2⟩ := iv2.pot
        walk_at "go"
        have iv3 := iv2.less noa nmo (n2 - 1)
        change tCutM _ _ _ _ (upd H2 o (.lst [.int (n2 - 1), .str z]))
        have ho3 : upd H2 o (.lst [.int (n2 - 1), .str z]) o = some (.lst [.int (n2 - 1), .str z]) := upd_same
        generalize upd H2 o (.lst [.int (n2 - 1), .str z]) = H3 at *
        obtain ⟨xs3, hm3, hp3⟩ := iv3.lst
        refine r_cut (fun σ' H' => ∃ (p : Prog) (y6 y7 y8 y9 : Option V), σ' = [some (.ref a), some (.ref o), some (.int (d : Int)), some (.int fr), some (.bl b), some (.ref m), y6, y7, y8, y9] ∧ PcInv H a o m d b z p H' ∧ p.len = i + 1) ?_ ?_
        · walk_at "go"
          refine r_iteD (fun h1 => ?a1) (fun h1 => ?b1)
          case' b1 =>
            walk_at "go"
            refine r_iteD (fun h2 => ?a2) (fun h2 => ?b2)
          case' b2 =>
            walk_at "go"
            refine r_iteD (fun h3 => ?a3) (fun h3 => ?b3)
          case b3 =>
            walk_at "go"
            cases d with
            | zero => exact absurd rfl h2
            | succ d =>
              have ed : ((d + 1 : Nat) : Int) - 1 = (d : Int) := by omega
              refine r_iteD (fun h4 => ?_) (fun h4 => ?_)
              · walk_at "go"
                refine ⟨a, fr, b, rfl, iv3.bg, fun lots H4 bu4 b4 lo1 lo2 => ?_⟩
                have iv4 := iv3.pick noa nma bu4 b4
                obtain ⟨n4, ho4⟩ := iv4.pot
                obtain ⟨xs, hm, hp⟩ := iv4.lst
                walk_at "go"
                rw [ed]
                refine ⟨a, o, n4, z, _, b, rfl, b4, ho4, hz, fun q p2 H5 nq bu5 b5 po5 tk5 hq w5 q1 q5 q6 => ?_⟩
                have iv5 := iv4.call nma nmo bu5 b5 po5 tk5
                have hm5 : H5 m = some (.lst xs) := bu5 _ _ nma nmo hm
                have xl : xs.length = p.len := hp.length
                walk_at "go"
                intro c nc
                walk_at "go"
                refine ⟨p.app (.rep lots p2 .nil), _, _, _, _, rfl, iv5.push nm nma nmo nc hm5 (fun H6 t6 hc => ⟨c, q, _, [], rfl, hc, t6 _ _ hq.choose_spec.1, hq.choose_spec.2.tk t6, rfl⟩) ⟨⟨lo1, lo2⟩, ⟨q1, by omega⟩, w5, Wf.nil⟩ (szr lo1 lo2 q5 q6 w5), ?_⟩
                rw [Prog.len_app]
                show p.len + 1 = _
                omega
              · walk_at "go"
                rw [ed]
                refine ⟨a, o, n2 - 1, z, _, b, rfl, iv3.bg, ho3, hz, fun q p2 H5 nq bu5 b5 po5 tk5 hq w5 q1 q5 q6 => ?_⟩
                obtain ⟨xs, hm, hp⟩ := iv3.lst
                have iv5 := iv3.call nma nmo bu5 b5 po5 tk5
                have hm5 : H5 m = some (.lst xs) := bu5 _ _ nma nmo hm
                have xl : xs.length = p.len := hp.length
                walk_at "go"
                intro c nc
                walk_at "go"
                refine ⟨p.app (.mir p2 .nil), _, _, _, _, rfl, iv5.push nm nma nmo nc hm5 (fun H6 t6 hc => ⟨c, q, _, [], rfl, hc, t6 _ _ hq.choose_spec.1, hq.choose_spec.2.tk t6, rfl⟩) ⟨⟨q1, by omega⟩, w5, Wf.nil⟩ (szm q5 q6), ?_⟩
                rw [Prog.len_app]
                show p.len + 1 = _
                omega
          case a1 =>
            walk_at "go"
            refine r_iteD (fun h5 => ?_) (fun h5 => ?_)
            · skip
              walk_at "go"
              refine ⟨a, b, rfl, iv3.bg, fun t H4 bu4 b4 t0 t1 => ?_⟩
              have iv4 := iv3.pick noa nma bu4 b4
              obtain ⟨xs, hm, hp⟩ := iv4.lst
              have xl : xs.length = p.len := hp.length
              walk_at "go"
              intro c nc
              walk_at "go"
              refine ⟨p.app (.turn t .nil), _, _, _, _, rfl, iv4.push nm nma nmo nc hm (fun H6 t6 hc => ⟨c, [], rfl, hc, rfl⟩) (Wf.turn_iff.mpr ⟨⟨t0, t1⟩, Wf.nil⟩) (sz1 _ _), ?_⟩
              rw [Prog.len_app]
              show p.len + 1 = _
              omega
            · walk_at "go"
              refine r_iteD (fun h6 => ?_) (fun h6 => ?_)
              · skip
                walk_at "go"
                refine ⟨a, b, rfl, iv3.bg, fun t H4 bu4 b4 t0 t1 => ?_⟩
                have iv4 := iv3.pick noa nma bu4 b4
                obtain ⟨xs, hm, hp⟩ := iv4.lst
                have xl : xs.length = p.len := hp.length
                walk_at "go"
                intro c nc
                walk_at "go"
                refine ⟨p.app (.turn t .nil), _, _, _, _, rfl, iv4.push nm nma nmo nc hm (fun H6 t6 hc => ⟨c, [], rfl, hc, rfl⟩) (Wf.turn_iff.mpr ⟨⟨t0, t1⟩, Wf.nil⟩) (sz1 _ _), ?_⟩
                rw [Prog.len_app]
                show p.len + 1 = _
                omega
              · skip
                walk_at "go"
                intro c nc
                have ivc : PcInv H a o m d b z p (upd H3 c (.lst [.str "go", .str "back", .str "hop", .str "slip"])) := by
                  obtain ⟨xs, hm, hp⟩ := iv3.lst
                  have t := (Tk.refl H3).new nc (o := .lst [.str "go", .str "back", .str "hop", .str "slip"])
                  exact ⟨iv3.bu.new nc, iv3.bg.keep nc, ⟨n2 - 1, h_keep ho3 nc⟩, iv3.tk.trans t, ⟨xs, h_keep hm nc, hp.tk t⟩, iv3.wf, iv3.sz⟩
                have hc0 : upd H3 c (.lst [.str "go", .str "back", .str "hop", .str "slip"]) c = some (.lst [.str "go", .str "back", .str "hop", .str "slip"]) := upd_same
                have nca : c ≠ a := iv3.bg.ne nc
                walk_at "go"
                refine u_pick ivc.bg (by omega) (by omega) fun r4 H4 p0 p1 bu4 b4 => ?_
                have iv4 := ivc.pick noa nma bu4 b4
                have hc4 : H4 c = some (.lst [.str "go", .str "back", .str "hop", .str "slip"]) := bu4 _ _ nca hc0
                obtain ⟨wd, hw1, hw2⟩ := word_at p0 p1
                refine r_ixL (SqL.of hc4) hw1 ?_
                obtain ⟨n4, ho4⟩ := iv4.pot
                obtain ⟨xs4, hm4, hp4⟩ := iv4.lst
                walk_at "go"
                refine u_pick b4 (by omega) (by omega) fun r5 H5 p2 p3 bu5 b5 => ?_
                have iv5 := iv4.pick noa nma bu5 b5
                obtain ⟨nm1, hn1, hn2⟩ := names_at hz p2 p3
                refine r_ixS (names_small hz) hn1 ?_
                obtain ⟨xs, hm, hp⟩ := iv5.lst
                have xl : xs.length = p.len := hp.length
                walk_at "go"
                intro e ne
                walk_at "go"
                refine ⟨p.app (.step wd ⟨#[nm1]⟩ .nil), _, _, _, _, rfl, iv5.push nm nma nmo ne hm (fun H6 t6 hc => ⟨e, [], rfl, hc, rfl⟩) (Wf.step_iff.mpr ⟨hw2, hn2, Wf.nil⟩) (sz1 _ _), ?_⟩
                rw [Prog.len_app]
                show p.len + 1 = _
                omega
          case a2 =>
            walk_at "go"
            intro c nc
            have ivc : PcInv H a o m d b z p (upd H3 c (.lst [.str "go", .str "back", .str "hop", .str "slip"])) := by
              obtain ⟨xs, hm, hp⟩ := iv3.lst
              have t := (Tk.refl H3).new nc (o := .lst [.str "go", .str "back", .str "hop", .str "slip"])
              exact ⟨iv3.bu.new nc, iv3.bg.keep nc, ⟨n2 - 1, h_keep ho3 nc⟩, iv3.tk.trans t, ⟨xs, h_keep hm nc, hp.tk t⟩, iv3.wf, iv3.sz⟩
            have hc0 : upd H3 c (.lst [.str "go", .str "back", .str "hop", .str "slip"]) c = some (.lst [.str "go", .str "back", .str "hop", .str "slip"]) := upd_same
            have nca : c ≠ a := iv3.bg.ne nc
            walk_at "go"
            refine u_pick ivc.bg (by omega) (by omega) fun r4 H4 p0 p1 bu4 b4 => ?_
            have iv4 := ivc.pick noa nma bu4 b4
            have hc4 : H4 c = some (.lst [.str "go", .str "back", .str "hop", .str "slip"]) := bu4 _ _ nca hc0
            obtain ⟨wd, hw1, hw2⟩ := word_at p0 p1
            refine r_ixL (SqL.of hc4) hw1 ?_
            obtain ⟨n4, ho4⟩ := iv4.pot
            obtain ⟨xs4, hm4, hp4⟩ := iv4.lst
            walk_at "go"
            refine u_pick b4 (by omega) (by omega) fun r5 H5 p2 p3 bu5 b5 => ?_
            have iv5 := iv4.pick noa nma bu5 b5
            obtain ⟨nm1, hn1, hn2⟩ := names_at hz p2 p3
            refine r_ixS (names_small hz) hn1 ?_
            obtain ⟨xs, hm, hp⟩ := iv5.lst
            have xl : xs.length = p.len := hp.length
            walk_at "go"
            intro e ne
            walk_at "go"
            refine ⟨p.app (.step wd ⟨#[nm1]⟩ .nil), _, _, _, _, rfl, iv5.push nm nma nmo ne hm (fun H6 t6 hc => ⟨e, [], rfl, hc, rfl⟩) (Wf.step_iff.mpr ⟨hw2, hn2, Wf.nil⟩) (sz1 _ _), ?_⟩
            rw [Prog.len_app]
            show p.len + 1 = _
            omega
          case a3 =>
            walk_at "go"
            intro c nc
            have ivc : PcInv H a o m d b z p (upd H3 c (.lst [.str "go", .str "back", .str "hop", .str "slip"])) := by
              obtain ⟨xs, hm, hp⟩ := iv3.lst
              have t := (Tk.refl H3).new nc (o := .lst [.str "go", .str "back", .str "hop", .str "slip"])
              exact ⟨iv3.bu.new nc, iv3.bg.keep nc, ⟨n2 - 1, h_keep ho3 nc⟩, iv3.tk.trans t, ⟨xs, h_keep hm nc, hp.tk t⟩, iv3.wf, iv3.sz⟩
            have hc0 : upd H3 c (.lst [.str "go", .str "back", .str "hop", .str "slip"]) c = some (.lst [.str "go", .str "back", .str "hop", .str "slip"]) := upd_same
            have nca : c ≠ a := iv3.bg.ne nc
            walk_at "go"
            refine u_pick ivc.bg (by omega) (by omega) fun r4 H4 p0 p1 bu4 b4 => ?_
            have iv4 := ivc.pick noa nma bu4 b4
            have hc4 : H4 c = some (.lst [.str "go", .str "back", .str "hop", .str "slip"]) := bu4 _ _ nca hc0
            obtain ⟨wd, hw1, hw2⟩ := word_at p0 p1
            refine r_ixL (SqL.of hc4) hw1 ?_
            obtain ⟨n4, ho4⟩ := iv4.pot
            obtain ⟨xs4, hm4, hp4⟩ := iv4.lst
            walk_at "go"
            refine u_pick b4 (by omega) (by omega) fun r5 H5 p2 p3 bu5 b5 => ?_
            have iv5 := iv4.pick noa nma bu5 b5
            obtain ⟨nm1, hn1, hn2⟩ := names_at hz p2 p3
            refine r_ixS (names_small hz) hn1 ?_
            obtain ⟨xs, hm, hp⟩ := iv5.lst
            have xl : xs.length = p.len := hp.length
            walk_at "go"
            intro e ne
            walk_at "go"
            refine ⟨p.app (.step wd ⟨#[nm1]⟩ .nil), _, _, _, _, rfl, iv5.push nm nma nmo ne hm (fun H6 t6 hc => ⟨e, [], rfl, hc, rfl⟩) (Wf.step_iff.mpr ⟨hw2, hn2, Wf.nil⟩) (sz1 _ _), ?_⟩
            rw [Prog.len_app]
            show p.len + 1 = _
            omega
        · rintro σ' H' ⟨p, y6, y7, y8, y9, rfl, iv, pl⟩
          obtain ⟨n4, ho4⟩ := iv.pot
          walk_at "go"
          refine r_iteD (fun h6 => ?_) (fun h6 => ?_)
          · walk_at "go"
            exact ⟨p, rfl, iv, by omega, by omega⟩
          · walk_at "go"
            exact ⟨p, _, _, _, _, rfl, iv, pl, by omega⟩
      · rintro σ H' ⟨p, y6, y7, y8, y9, rfl, iv, pl, i5⟩
        exact ⟨p, rfl, iv, by omega, by omega⟩
    · rintro σ' H' ⟨p, hσ, iv, p1, p5⟩
      obtain ⟨xs, hm, hp⟩ := iv.lst
      obtain ⟨n', ho'⟩ := iv.pot
      walk_at "go"
      refine r_var hσ ?_
      walk_at "go"
      intro q nq
      have t := (Tk.refl H').new nq (o := .tup xs)
      exact k q p _ (iv.bu.free (iv.bg.ne nq) (ne_of_none ho' nq).symm nq) (iv.bu.new nq) (iv.bg.keep nq) ⟨n', h_keep ho' nq⟩ (iv.tk.trans t) ⟨xs, upd_same, hp.tk t⟩ iv.wf p1 p5 iv.sz
theorem has_piece {f : Addr} {fd : FuncData} (F : Fun K "_law_piece" "_law_piece" s_l_piece f fd) (g : mg "_law_piece" = some (.ref f)) (bi : Binds K fd ["_law_bag", "_law_pot", "_law_deep", "_law_free", "_law_wild"] []) (B : Bl mg) (h_l_pick : Has P w K mg base "_law_pick" 1 ["_law_bag", "_law_many"] spPick) (h_l_some_turn : Has P w K mg base "_law_some_turn" 3 ["_law_bag", "_law_wild"] spTurn)
   (h_l_some_lots : Has P w K mg base "_law_some_lots" 3 ["_law_bag", "_law_free", "_law_wild"] spLots) : ∀ d, Has P w K mg base "_law_piece" (d + 3) ["_law_bag", "_law_pot", "_law_deep", "_law_free", "_law_wild"] (spPieceLt d)
  | 0 => has_false g F.kp bi
  | d + 1 => ⟨f, fd, ok_l_piece d F B h_l_pick h_l_some_turn h_l_some_lots (has_piece F g bi B h_l_pick h_l_some_turn h_l_some_lots d), g, F.kp, bi⟩
/-- of any depth up to 5 -/
def spPiece : Sp := fun vs H Q E => ∃ d, d ≤ 5 ∧ spPieceLt (d + 1) vs H Q E
theorem ok_l_piece_any {f : Addr} {fd : FuncData} (F : Fun K "_law_piece" "_law_piece" s_l_piece f fd) (g : mg "_law_piece" = some (.ref f)) (bi : Binds K fd ["_law_bag", "_law_pot", "_law_deep", "_law_free", "_law_wild"] []) (B : Bl mg) (h_l_pick : Has P w K mg base "_law_pick" 1 ["_law_bag", "_law_many"] spPick) (h_l_some_turn : Has P w K mg base "_law_some_turn" 3 ["_law_bag", "_law_wild"] spTurn)
   (h_l_some_lots : Has P w K mg base "_law_some_lots" 3 ["_law_bag", "_law_free", "_law_wild"] spLots) : FnOk P w K mg base CX0 9 f fd ["_law_bag", "_law_pot", "_law_deep", "_law_free", "_law_wild"] spPiece := by
  have G : ∀ d, d ≤ 5 → FnOk P w K mg base CX0 9 f fd ["_law_bag", "_law_pot", "_law_deep", "_law_free", "_law_wild"] (spPieceLt (d + 1)) := fun d hd =>
    (ok_l_piece d F B h_l_pick h_l_some_turn h_l_some_lots (has_piece F g bi B h_l_pick h_l_some_turn h_l_some_lots d)).mono (by omega)
  exact ⟨fun vs H Q E ⟨d, hd, h⟩ => (G d hd).len vs H Q E h, fun A outer s H args us vs Q E hr he hb hv ⟨d, hd, h⟩ => (G d hd).run A outer s H args us vs Q E hr he hb hv h⟩
end
end My

set_option Elab.async false
set_option linter.all false
set_option maxRecDepth 100000
set_option maxHeartbeats 4000000

namespace My
open PySem PySem.Spec PyProof.Rows L2
section
variable {P : Program} {w : World} {K : PySem.W.Frag} {mg : Str → Option Value} {base : Heap}
local macro_rules | `(tactic| walk_at "isi") => `(tactic| (first
  | (with_reducible refine r_is_int_int ?_)
  | (with_reducible refine r_is_int_bool ?_)
  | (with_reducible refine r_is_int_str ?_)
  | (with_reducible refine r_is_int_list ?_)
  | (with_reducible refine r_is_int_tuple ?_)
  | (with_reducible refine r_is_bool_int ?_)
  | (with_reducible refine r_is_bool_bool ?_)
  | (with_reducible refine r_is_bool_str ?_)
  | (with_reducible refine r_is_bool_list ?_)
  | (with_reducible refine r_is_bool_tuple ?_)
  | (with_reducible refine r_is_str_int ?_)
  | (with_reducible refine r_is_str_bool ?_)
  | (with_reducible refine r_is_str_str ?_)
  | (with_reducible refine r_is_str_list ?_)
  | (with_reducible refine r_is_str_tuple ?_)
  | ((with_reducible refine r_is_list_int (xs := ?xx) ?hh ?_); (case hh => walk_at "hp"))
  | ((with_reducible refine r_is_list_bool (xs := ?xx) ?hh ?_); (case hh => walk_at "hp"))
  | ((with_reducible refine r_is_list_str (xs := ?xx) ?hh ?_); (case hh => walk_at "hp"))
  | ((with_reducible refine r_is_list_list (xs := ?xx) ?hh ?_); (case hh => walk_at "hp"))
  | ((with_reducible refine r_is_list_tuple (xs := ?xx) ?hh ?_); (case hh => walk_at "hp"))
  | ((with_reducible refine r_is_tuple_int (xs := ?xx) ?hh ?_); (case hh => walk_at "hp"))
  | ((with_reducible refine r_is_tuple_bool (xs := ?xx) ?hh ?_); (case hh => walk_at "hp"))
  | ((with_reducible refine r_is_tuple_str (xs := ?xx) ?hh ?_); (case hh => walk_at "hp"))
  | ((with_reducible refine r_is_tuple_list (xs := ?xx) ?hh ?_); (case hh => walk_at "hp"))
  | ((with_reducible refine r_is_tuple_tuple (xs := ?xx) ?hh ?_); (case hh => walk_at "hp"))
  | (with_reducible refine r_is_NoneType_int ?_)
  | (with_reducible refine r_is_NoneType_bool ?_)
  | (with_reducible refine r_is_NoneType_str ?_)
  | (with_reducible refine r_is_NoneType_list ?_)
  | (with_reducible refine r_is_NoneType_tuple ?_)))
local macro_rules | `(tactic| walk_at "ne") => `(tactic| first | assumption | (refine Ne.symm ?_; assumption) | exact Bag.ne (by assumption) (by assumption) | exact ne_of_none (by assumption) (by assumption))
local macro_rules | `(tactic| walk_at "hp") => `(tactic| (first
  | assumption
  | exact upd_same
  | (refine h_keep ?_ (by assumption); walk_at "hp")
  | (refine (upd_ne (by walk_at "ne")).trans ?_; walk_at "hp")
  | (refine Same.at (by assumption) ?_; walk_at "hp")
  | (refine But.at (by assumption) (by walk_at "ne") ?_; walk_at "hp")
  | (refine But2.at (by assumption) (by walk_at "ne") (by walk_at "ne") ?_; walk_at "hp")))
local macro_rules | `(tactic| walk_at "side") => `(tactic| first | assumption | omega | (refine ⟨?_, ?_⟩ <;> first | assumption | omega | decide) | decide | (refine ⟨by decide, by decide, by decide⟩) | (left; refine ⟨?_, ?_⟩ <;> first | omega | decide) | (right; refine ⟨?_, ?_⟩ <;> first | omega | decide) | (simp; done))
local macro_rules | `(tactic| walk_at "cond") => `(tactic| first | assumption | exact rfl | omega | (simp only [List.length_cons, List.length_nil]; omega) | decide +kernel)
local macro_rules | `(tactic| walk_at "s") => `(tactic| (first
  | ((with_reducible refine r_var (v := ?vv) ?ee ?_); (case ee => exact rfl))
  | (with_reducible refine r_c ?_)
  | (with_reducible refine r_op ?_)
  | (with_reducible refine r_un ?_)
  | (with_reducible refine r_rI0 ?_)
  | ((with_reducible refine r_rI ?cc ?_); (case cc => walk_at "side"))
  | (with_reducible refine r_rU ?_)
  | (with_reducible refine r_eqI ?_)
  | (with_reducible refine r_neI ?_)
  | (with_reducible refine r_eqB ?_)
  | (with_reducible refine r_neB ?_)
  | (with_reducible refine r_eqS ?_)
  | (with_reducible refine r_neS ?_)
  | ((with_reducible refine r_eq ?ee ?_); (case ee => exact rfl))
  | ((with_reducible refine r_ne ?ee ?_); (case ee => exact rfl))
  | ((with_reducible refine r_ixL (v := ?vv) (xs := ?xx) ?hh ?ee ?_); (case hh => (refine SqL.of ?_; walk_at "hp")); (case ee => exact rfl))
  | (with_reducible refine r_cb ?_)
  | (with_reducible refine r_call ?_)
  | (with_reducible refine r_cons ?_)
  | (with_reducible refine r_nil ?_)
  | (with_reducible refine r_lst ?_)
  | (with_reducible refine r_tup ?_)
  | ((with_reducible refine r_new ?cc ?_); (case cc => walk_at "side"))
  | (with_reducible refine r_exbl ?_)
  | (with_reducible refine r_exint ?_)
  | (with_reducible refine r_exint2 ?_)
  | (with_reducible refine r_exblL ?_)
  | (with_reducible refine r_ex2 ?_)
  | (with_reducible refine r_test ?_)
  | (with_reducible refine r_tB ?_)
  | (with_reducible refine r_not ?_)
  | (with_reducible refine r_and ?_)
  | (with_reducible refine r_or ?_)
  | (with_reducible refine r_andV ?_)
  | (with_reducible refine r_orV ?_)
  | (with_reducible refine r_notV ?_)
  | (with_reducible refine r_tif ?_)
  | (with_reducible refine r_iteT ?_)
  | (with_reducible refine r_iteNT ?_)
  | (with_reducible refine r_iteNF ?_)
  | (with_reducible refine r_iteF ?_)
  | (with_reducible refine r_seq ?_)
  | (with_reducible refine r_next ?_)
  | (with_reducible refine r_brk ?_)
  | (with_reducible refine r_cont ?_)
  | (with_reducible refine r_asg ?_)
  | (with_reducible refine r_gname ?_)
  | (with_reducible refine r_ret ?_)
  | (with_reducible refine r_retN ?_)
  | (with_reducible refine r_drop ?_)
  | (with_reducible refine r_if ?_)
  | ((with_reducible refine r_aug (x := ?xx) ?ee ?_); (case ee => exact rfl))
  | (with_reducible refine r_ipI ?_)
  | (with_reducible refine r_augS ?_)
  | (with_reducible refine r_gsub ?_)
  | ((with_reducible refine r_setL (xs := ?xx) (m := ?mm) ?hh ?ee ?_); (case hh => walk_at "hp"); (case ee => exact rfl))
  | (with_reducible refine r_par ?_)
  | (with_reducible refine r_bm ?_)
  | ((with_reducible refine r_tyL (xs := ?xx) ?hh ?_); (case hh => walk_at "hp"))
  | ((with_reducible refine r_append (xs := ?xx) ?hh ?ll ?_); (case hh => walk_at "hp"); (case ll => walk_at "side"))
  | (walk_at "isi")
  | (with_reducible refine r_for ?_)
  | (with_reducible refine r_iList ?_)
  | (with_reducible refine r_iTup ?_)
  | (with_reducible refine r_iR1 ?_)
  | (with_reducible refine r_iR2 ?_)
  | (with_reducible refine r_lc ?_)
  | (with_reducible refine r_yes ?_)
  | ((with_reducible refine r_lenS ?ll ?_); (case ll => walk_at "side"))
  | (with_reducible refine r_leS ?_)
  | (with_reducible refine r_chain ?_)
  | (with_reducible refine r_tM1 ?_)
  | (with_reducible refine r_exS ?_)
  | ((with_reducible refine r_tupL (xs := ?xx) ?hh ?_); (case hh => walk_at "hp"))
  | ((with_reducible refine r_listL (xs := ?xx) ?hh ?_); (case hh => walk_at "hp"))
  | ((with_reducible refine r_listT (xs := ?xx) ?hh ?_); (case hh => walk_at "hp"))
  | ((with_reducible refine r_ixT (v := ?vv) (xs := ?xx) ?hh ?ee ?_); (case hh => (refine SqT.of ?_; walk_at "hp")); (case ee => exact rfl))
  | (with_reducible refine r_sl ?_)
  | (with_reducible refine r_nopart ?_)
  | (with_reducible refine r_part ?_)
  | (with_reducible refine r_exI ?_)
  | ((with_reducible refine r_slL (xs := ?xx) ?hh ?_); (case hh => first | assumption | (refine SqL.of ?_; walk_at "hp") | (refine Same.seq (by assumption) (by assumption))))
  | ((with_reducible refine r_cat (xs := ?xx) (zs := ?zz) ?hh ?ii ?ll ?_); (case hh => walk_at "hp"); (case ii => walk_at "hp"); (case ll => walk_at "side"))
  | ((with_reducible refine r_lenL (xs := ?xx) ?hh ?_); (case hh => walk_at "hp"))
  | ((with_reducible refine r_lenT (xs := ?xx) ?hh ?_); (case hh => walk_at "hp"))
  | ((with_reducible refine r_gTup (xs := ?xx) ?hh ?ll ?_); (case hh => walk_at "hp"); (case ll => exact rfl))
  | (with_reducible refine r_gCons ?_)
  | (with_reducible refine r_gNil ?_)
  | ((with_reducible refine r_iteDT ?cc ?_); (case cc => walk_at "cond"))
  | ((with_reducible refine r_iteDF ?cc ?_); (case cc => walk_at "cond"))
  | ((with_reducible refine r_iteNDT ?cc ?_); (case cc => walk_at "cond"))
  | ((with_reducible refine r_iteNDF ?cc ?_); (case cc => walk_at "cond"))
  ))
local macro_rules | `(tactic| walk_at "go") => `(tactic| repeat (walk_at "s"))

theorem ok_l_bulk {f : Addr} {fd : FuncData} (d : Nat) (F : Fun K "_law_bulk" "_law_bulk" s_l_bulk f fd) (h_l_bulk : Has P w K mg base "_law_bulk" d ["_law_piece_here"] (spNumLt Prog.size d)) : FnOk P w K mg base CX0 (d + 1) f fd ["_law_piece_here"] (spNumLt Prog.size (d + 1)) := by
  refine F.ok sc_l_bulk (fun vs H Q E h => ?_) (fun cdv A outer s H vs Q E hr h => ?_)
  · obtain ⟨a, p, rfl, _⟩ := h
    rfl
  · obtain ⟨a, p, rfl, ⟨xs, hx, hp⟩, hw, l2, d2, k⟩ := h
    refine ⟨_, (pss_cons (ps_set (i := 1) sc_l_bulk.nd rfl (.inl rfl) pe_int)
    (pss_cons (ps_for PassesOwn.never rfl (pi_tup (pv 0)) (pg_name (i := 2) sc_l_bulk.nd rfl (.inl rfl))
    (pss_one (ps_if (pt_cmpR op_eq (pe_ix (ix_tupK (K := K)) (pv 2) pe_int (fun _ _ => rfl)) pe_str (nomark _))
    (pss_one (ps_set (i := 1) sc_l_bulk.nd rfl (.inl rfl) (pe_op op_add (pv 1) (pe_op op_mulW (pe_ix (ix_tupK (K := K)) (pv 2) pe_int (fun _ _ => rfl)) (pe_callH h_l_bulk (hr.mono (by first | decide | omega)) (pa_cons (pe_ix (ix_tupK (K := K)) (pv 2) pe_int (fun _ _ => rfl)) pa_nil))))))
    (pss_one (ps_if (pt_cmpR op_eq (pe_ix (ix_tupK (K := K)) (pv 2) pe_int (fun _ _ => rfl)) pe_str (nomark _))
    (pss_one (ps_set (i := 1) sc_l_bulk.nd rfl (.inl rfl) (pe_op op_add (pv 1) (pe_callH h_l_bulk (hr.mono (by first | decide | omega)) (pa_cons (pe_ix (ix_tupK (K := K)) (pv 2) pe_int (fun _ _ => rfl)) pa_nil)))))
    (pss_one (ps_set (i := 1) sc_l_bulk.nd rfl (.inl rfl) (pe_op op_add (pv 1) pe_int))))))))
    (pss_one (ps_ret (pv 1))))), ?_⟩
    walk_at "go"
    refine u_forPr hx hp (fun r σ H' => ∃ (t : Int) (y : Option V), σ = [some (.ref a), some (.int t), y] ∧ H' = H ∧ Wf BC BC d r ∧ t + r.size = p.size) ?_ ?_ ?_ ?_
    · exact ⟨0, none, rfl, rfl, hw, by omega⟩
    · rintro r σ H' ⟨t, y, rfl, rfl, _⟩
      exact Tk.refl _
    · rintro x r r' σ H' hf ⟨t, y, rfl, rfl, hw', e⟩
      cases r with
      | nil => exact hf.elim
      | step w' n r =>
        obtain ⟨c, rfl, h1, rfl⟩ := hf
        obtain ⟨w1, w2, w3⟩ := Wf.step_iff.mp hw'
        obtain ⟨n1, n2, n3⟩ := word_ne w1
        walk_at "go"
        exact ⟨_, _, rfl, rfl, w3, by rw [← e, Prog.size]; omega⟩
      | turn k' r =>
        obtain ⟨c, rfl, h1, rfl⟩ := hf
        walk_at "go"
        exact ⟨_, _, rfl, rfl, (Wf.turn_iff.mp hw').2, by rw [← e, Prog.size]; omega⟩
      | rep k' b r =>
        obtain ⟨c, q, rfl, h1, h2, rfl⟩ := hf
        cases d with
        | zero => exact hw'.elim
        | succ d =>
          obtain ⟨w1, w2, w3, w4⟩ := hw'
          have mw : CMulW k' b.size := mulW_of (count_bits (by have := BC_one; omega) w1.2) (size_bits w3 (by omega) w2.2)
          walk_at "go"
          refine ⟨q, b, rfl, h2, w3, w2.2, by omega, ?_⟩
          walk_at "go"
          exact ⟨_, _, rfl, rfl, w4, by rw [← e, Prog.size]; omega⟩
      | mir b r =>
        obtain ⟨c, q, rfl, h1, h2, rfl⟩ := hf
        cases d with
        | zero => exact hw'.elim
        | succ d =>
          obtain ⟨w2, w3, w4⟩ := hw'
          walk_at "go"
          refine ⟨q, b, rfl, h2, w3, w2.2, by omega, ?_⟩
          walk_at "go"
          exact ⟨_, _, rfl, rfl, w4, by rw [← e, Prog.size]; omega⟩
    · rintro σ H' ⟨t, y, rfl, rfl, _, e⟩
      walk_at "go"
      rw [Prog.size, Int.add_zero] at e
      rw [e]
      exact k
theorem has_bulk {f : Addr} {fd : FuncData} (F : Fun K "_law_bulk" "_law_bulk" s_l_bulk f fd) (g : mg "_law_bulk" = some (.ref f)) (b : Binds K fd ["_law_piece_here"] []) : ∀ d, Has P w K mg base "_law_bulk" d ["_law_piece_here"] (spNumLt Prog.size d)
  | 0 => has_false g F.kp b
  | d + 1 => ⟨f, fd, ok_l_bulk d F (has_bulk F g b d), g, F.kp, b⟩
theorem ok_l_aim {f : Addr} {fd : FuncData} (d : Nat) (F : Fun K "_law_aim" "_law_aim" s_l_aim f fd) (h_l_aim : Has P w K mg base "_law_aim" d ["_law_piece_here"] (spNumLt Prog.head d)) : FnOk P w K mg base CX0 (d + 1) f fd ["_law_piece_here"] (spNumLt Prog.head (d + 1)) := by
  refine F.ok sc_l_aim (fun vs H Q E h => ?_) (fun cdv A outer s H vs Q E hr h => ?_)
  · obtain ⟨a, p, rfl, _⟩ := h
    rfl
  · obtain ⟨a, p, rfl, ⟨xs, hx, hp⟩, hw, l2, d2, k⟩ := h
    refine ⟨_, (pss_cons (ps_set (i := 1) sc_l_aim.nd rfl (.inl rfl) pe_int)
    (pss_cons (ps_for PassesOwn.never rfl (pi_tup (pv 0)) (pg_name (i := 2) sc_l_aim.nd rfl (.inl rfl))
    (pss_one (ps_if (pt_cmpR op_eq (pe_ix (ix_tupK (K := K)) (pv 2) pe_int (fun _ _ => rfl)) pe_str (nomark _))
    (pss_one (ps_set (i := 1) sc_l_aim.nd rfl (.inl rfl) (pe_op op_add (pv 1) (pe_op op_mulW (pe_ix (ix_tupK (K := K)) (pv 2) pe_int (fun _ _ => rfl)) (pe_callH h_l_aim (hr.mono (by first | decide | omega)) (pa_cons (pe_ix (ix_tupK (K := K)) (pv 2) pe_int (fun _ _ => rfl)) pa_nil))))))
    (pss_one (ps_if (pt_cmpR op_eq (pe_ix (ix_tupK (K := K)) (pv 2) pe_int (fun _ _ => rfl)) pe_str (nomark _))
    (pss_one (ps_set (i := 1) sc_l_aim.nd rfl (.inl rfl) (pe_op op_sub (pv 1) (pe_callH h_l_aim (hr.mono (by first | decide | omega)) (pa_cons (pe_ix (ix_tupK (K := K)) (pv 2) pe_int (fun _ _ => rfl)) pa_nil)))))
    (pss_one (ps_if (pt_cmpR op_eq (pe_ix (ix_tupK (K := K)) (pv 2) pe_int (fun _ _ => rfl)) pe_str (nomark _))
    (pss_one (ps_set (i := 1) sc_l_aim.nd rfl (.inl rfl) (pe_op op_add (pv 1) (pe_ix (ix_tupK (K := K)) (pv 2) pe_int (fun _ _ => rfl)))))
    pss_nil)))))))
    (pss_one (ps_ret (pv 1))))), ?_⟩
    walk_at "go"
    refine u_forPr hx hp (fun r σ H' => ∃ (t : Int) (y : Option V), σ = [some (.ref a), some (.int t), y] ∧ H' = H ∧ Wf BC BC d r ∧ t + r.head = p.head) ?_ ?_ ?_ ?_
    · exact ⟨0, none, rfl, rfl, hw, by omega⟩
    · rintro r σ H' ⟨t, y, rfl, rfl, _⟩
      exact Tk.refl _
    · rintro x r r' σ H' hf ⟨t, y, rfl, rfl, hw', e⟩
      cases r with
      | nil => exact hf.elim
      | step w' n r =>
        obtain ⟨c, rfl, h1, rfl⟩ := hf
        obtain ⟨w1, w2, w3⟩ := Wf.step_iff.mp hw'
        obtain ⟨n1, n2, n3⟩ := word_ne w1
        walk_at "go"
        exact ⟨_, _, rfl, rfl, w3, by rw [← e, Prog.head]⟩
      | turn k' r =>
        obtain ⟨c, rfl, h1, rfl⟩ := hf
        walk_at "go"
        exact ⟨_, _, rfl, rfl, (Wf.turn_iff.mp hw').2, by rw [← e, Prog.head]; omega⟩
      | rep k' b r =>
        obtain ⟨c, q, rfl, h1, h2, rfl⟩ := hf
        cases d with
        | zero => exact hw'.elim
        | succ d =>
          obtain ⟨w1, w2, w3, w4⟩ := hw'
          have mw : CMulW k' b.head := mulW_of (count_bits (by have := BC_one; omega) w1.2) (head_bits w3 (by omega) w2.2)
          walk_at "go"
          refine ⟨q, b, rfl, h2, w3, w2.2, by omega, ?_⟩
          walk_at "go"
          exact ⟨_, _, rfl, rfl, w4, by rw [← e, Prog.head]; omega⟩
      | mir b r =>
        obtain ⟨c, q, rfl, h1, h2, rfl⟩ := hf
        cases d with
        | zero => exact hw'.elim
        | succ d =>
          obtain ⟨w2, w3, w4⟩ := hw'
          walk_at "go"
          refine ⟨q, b, rfl, h2, w3, w2.2, by omega, ?_⟩
          walk_at "go"
          exact ⟨_, _, rfl, rfl, w4, by rw [← e, Prog.head]; omega⟩
    · rintro σ H' ⟨t, y, rfl, rfl, _, e⟩
      walk_at "go"
      rw [Prog.head, Int.add_zero] at e
      rw [e]
      exact k
theorem has_aim {f : Addr} {fd : FuncData} (F : Fun K "_law_aim" "_law_aim" s_l_aim f fd) (g : mg "_law_aim" = some (.ref f)) (b : Binds K fd ["_law_piece_here"] []) : ∀ d, Has P w K mg base "_law_aim" d ["_law_piece_here"] (spNumLt Prog.head d)
  | 0 => has_false g F.kp b
  | d + 1 => ⟨f, fd, ok_l_aim d F (has_aim F g b d), g, F.kp, b⟩
def spWild : Sp := fun vs H Q _ => ∃ (a : Addr) (n : Int) (z : Str), vs = [.ref a, .int n, .str z] ∧ Bag H a ∧ Names z ∧
  ∀ q p H', But a H H' → Bag H' a → Tk H H' → PrIs H' q p → Wf BC BC 6 p → 1 ≤ p.len → p.len ≤ 5 → Q (.ref q) H'
end
end My

set_option Elab.async false
set_option linter.all false
set_option maxRecDepth 100000
set_option maxHeartbeats 4000000

namespace My
open PySem PySem.Spec PyProof.Rows L2
section
variable {P : Program} {w : World} {K : PySem.W.Frag} {mg : Str → Option Value} {base : Heap}
local macro_rules | `(tactic| walk_at "isi") => `(tactic| (first
  | (with_reducible refine r_is_int_int ?_)
  | (with_reducible refine r_is_int_bool ?_)
  | (with_reducible refine r_is_int_str ?_)
  | (with_reducible refine r_is_int_list ?_)
  | (with_reducible refine r_is_int_tuple ?_)
  | (with_reducible refine r_is_bool_int ?_)
  | (with_reducible refine r_is_bool_bool ?_)
  | (with_reducible refine r_is_bool_str ?_)
  | (with_reducible refine r_is_bool_list ?_)
  | (with_reducible refine r_is_bool_tuple ?_)
  | (with_reducible refine r_is_str_int ?_)
  | (with_reducible refine r_is_str_bool ?_)
  | (with_reducible refine r_is_str_str ?_)
  | (with_reducible refine r_is_str_list ?_)
  | (with_reducible refine r_is_str_tuple ?_)
  | ((with_reducible refine r_is_list_int (xs := ?xx) ?hh ?_); (case hh => walk_at "hp"))
  | ((with_reducible refine r_is_list_bool (xs := ?xx) ?hh ?_); (case hh => walk_at "hp"))
  | ((with_reducible refine r_is_list_str (xs := ?xx) ?hh ?_); (case hh => walk_at "hp"))
  | ((with_reducible refine r_is_list_list (xs := ?xx) ?hh ?_); (case hh => walk_at "hp"))
  | ((with_reducible refine r_is_list_tuple (xs := ?xx) ?hh ?_); (case hh => walk_at "hp"))
  | ((with_reducible refine r_is_tuple_int (xs := ?xx) ?hh ?_); (case hh => walk_at "hp"))
  | ((with_reducible refine r_is_tuple_bool (xs := ?xx) ?hh ?_); (case hh => walk_at "hp"))
  | ((with_reducible refine r_is_tuple_str (xs := ?xx) ?hh ?_); (case hh => walk_at "hp"))
  | ((with_reducible refine r_is_tuple_list (xs := ?xx) ?hh ?_); (case hh => walk_at "hp"))
  | ((with_reducible refine r_is_tuple_tuple (xs := ?xx) ?hh ?_); (case hh => walk_at "hp"))
  | (with_reducible refine r_is_NoneType_int ?_)
  | (with_reducible refine r_is_NoneType_bool ?_)
  | (with_reducible refine r_is_NoneType_str ?_)
  | (with_reducible refine r_is_NoneType_list ?_)
  | (with_reducible refine r_is_NoneType_tuple ?_)))
local macro_rules | `(tactic| walk_at "ne") => `(tactic| first | assumption | (refine Ne.symm ?_; assumption) | exact Bag.ne (by assumption) (by assumption) | exact ne_of_none (by assumption) (by assumption))
local macro_rules | `(tactic| walk_at "hp") => `(tactic| (first
  | assumption
  | exact upd_same
  | (refine h_keep ?_ (by assumption); walk_at "hp")
  | (refine (upd_ne (by walk_at "ne")).trans ?_; walk_at "hp")
  | (refine Same.at (by assumption) ?_; walk_at "hp")
  | (refine But.at (by assumption) (by walk_at "ne") ?_; walk_at "hp")
  | (refine But2.at (by assumption) (by walk_at "ne") (by walk_at "ne") ?_; walk_at "hp")))
local macro_rules | `(tactic| walk_at "side") => `(tactic| first | assumption | omega | (refine ⟨?_, ?_⟩ <;> first | assumption | omega | decide) | decide | (refine ⟨by decide, by decide, by decide⟩) | (left; refine ⟨?_, ?_⟩ <;> first | omega | decide) | (right; refine ⟨?_, ?_⟩ <;> first | omega | decide) | (simp; done))
local macro_rules | `(tactic| walk_at "cond") => `(tactic| first | assumption | exact rfl | omega | (simp only [List.length_cons, List.length_nil]; omega) | decide +kernel)
local macro_rules | `(tactic| walk_at "s") => `(tactic| (first
  | ((with_reducible refine r_var (v := ?vv) ?ee ?_); (case ee => exact rfl))
  | (with_reducible refine r_c ?_)
  | (with_reducible refine r_op ?_)
  | (with_reducible refine r_un ?_)
  | (with_reducible refine r_rI0 ?_)
  | ((with_reducible refine r_rI ?cc ?_); (case cc => walk_at "side"))
  | (with_reducible refine r_rU ?_)
  | (with_reducible refine r_eqI ?_)
  | (with_reducible refine r_neI ?_)
  | (with_reducible refine r_eqB ?_)
  | (with_reducible refine r_neB ?_)
  | (with_reducible refine r_eqS ?_)
  | (with_reducible refine r_neS ?_)
  | ((with_reducible refine r_eq ?ee ?_); (case ee => exact rfl))
  | ((with_reducible refine r_ne ?ee ?_); (case ee => exact rfl))
  | ((with_reducible refine r_ixL (v := ?vv) (xs := ?xx) ?hh ?ee ?_); (case hh => (refine SqL.of ?_; walk_at "hp")); (case ee => exact rfl))
  | (with_reducible refine r_cb ?_)
  | (with_reducible refine r_call ?_)
  | (with_reducible refine r_cons ?_)
  | (with_reducible refine r_nil ?_)
  | (with_reducible refine r_lst ?_)
  | (with_reducible refine r_tup ?_)
  | ((with_reducible refine r_new ?cc ?_); (case cc => walk_at "side"))
  | (with_reducible refine r_exbl ?_)
  | (with_reducible refine r_exint ?_)
  | (with_reducible refine r_exint2 ?_)
  | (with_reducible refine r_exblL ?_)
  | (with_reducible refine r_ex2 ?_)
  | (with_reducible refine r_test ?_)
  | (with_reducible refine r_tB ?_)
  | (with_reducible refine r_not ?_)
  | (with_reducible refine r_and ?_)
  | (with_reducible refine r_or ?_)
  | (with_reducible refine r_andV ?_)
  | (with_reducible refine r_orV ?_)
  | (with_reducible refine r_notV ?_)
  | (with_reducible refine r_tif ?_)
  | (with_reducible refine r_iteT ?_)
  | (with_reducible refine r_iteNT ?_)
  | (with_reducible refine r_iteNF ?_)
  | (with_reducible refine r_iteF ?_)
  | (with_reducible refine r_seq ?_)
  | (with_reducible refine r_next ?_)
  | (with_reducible refine r_brk ?_)
  | (with_reducible refine r_cont ?_)
  | (with_reducible refine r_asg ?_)
  | (with_reducible refine r_gname ?_)
  | (with_reducible refine r_ret ?_)
  | (with_reducible refine r_retN ?_)
  | (with_reducible refine r_drop ?_)
  | (with_reducible refine r_if ?_)
  | ((with_reducible refine r_aug (x := ?xx) ?ee ?_); (case ee => exact rfl))
  | (with_reducible refine r_ipI ?_)
  | (with_reducible refine r_augS ?_)
  | (with_reducible refine r_gsub ?_)
  | ((with_reducible refine r_setL (xs := ?xx) (m := ?mm) ?hh ?ee ?_); (case hh => walk_at "hp"); (case ee => exact rfl))
  | (with_reducible refine r_par ?_)
  | (with_reducible refine r_bm ?_)
  | ((with_reducible refine r_tyL (xs := ?xx) ?hh ?_); (case hh => walk_at "hp"))
  | ((with_reducible refine r_append (xs := ?xx) ?hh ?ll ?_); (case hh => walk_at "hp"); (case ll => walk_at "side"))
  | (walk_at "isi")
  | (with_reducible refine r_for ?_)
  | (with_reducible refine r_iList ?_)
  | (with_reducible refine r_iTup ?_)
  | (with_reducible refine r_iR1 ?_)
  | (with_reducible refine r_iR2 ?_)
  | (with_reducible refine r_lc ?_)
  | (with_reducible refine r_yes ?_)
  | ((with_reducible refine r_lenS ?ll ?_); (case ll => walk_at "side"))
  | (with_reducible refine r_leS ?_)
  | (with_reducible refine r_chain ?_)
  | (with_reducible refine r_tM1 ?_)
  | (with_reducible refine r_exS ?_)
  | ((with_reducible refine r_tupL (xs := ?xx) ?hh ?_); (case hh => walk_at "hp"))
  | ((with_reducible refine r_listL (xs := ?xx) ?hh ?_); (case hh => walk_at "hp"))
  | ((with_reducible refine r_listT (xs := ?xx) ?hh ?_); (case hh => walk_at "hp"))
  | ((with_reducible refine r_ixT (v := ?vv) (xs := ?xx) ?hh ?ee ?_); (case hh => (refine SqT.of ?_; walk_at "hp")); (case ee => exact rfl))
  | (with_reducible refine r_sl ?_)
  | (with_reducible refine r_nopart ?_)
  | (with_reducible refine r_part ?_)
  | (with_reducible refine r_exI ?_)
  | ((with_reducible refine r_slL (xs := ?xx) ?hh ?_); (case hh => first | assumption | (refine SqL.of ?_; walk_at "hp") | (refine Same.seq (by assumption) (by assumption))))
  | ((with_reducible refine r_cat (xs := ?xx) (zs := ?zz) ?hh ?ii ?ll ?_); (case hh => walk_at "hp"); (case ii => walk_at "hp"); (case ll => walk_at "side"))
  | ((with_reducible refine r_lenL (xs := ?xx) ?hh ?_); (case hh => walk_at "hp"))
  | ((with_reducible refine r_lenT (xs := ?xx) ?hh ?_); (case hh => walk_at "hp"))
  | ((with_reducible refine r_gTup (xs := ?xx) ?hh ?ll ?_); (case hh => walk_at "hp"); (case ll => exact rfl))
  | (with_reducible refine r_gCons ?_)
  | (with_reducible refine r_gNil ?_)
  | ((with_reducible refine r_iteDT ?cc ?_); (case cc => walk_at "cond"))
  | ((with_reducible refine r_iteDF ?cc ?_); (case cc => walk_at "cond"))
  | ((with_reducible refine r_iteNDT ?cc ?_); (case cc => walk_at "cond"))
  | ((with_reducible refine r_iteNDF ?cc ?_); (case cc => walk_at "cond"))
  ))
local macro_rules | `(tactic| walk_at "go") => `(tactic| repeat (walk_at "s"))

def spUnLt : Nat → Sp
  | 0 => fun _ _ _ _ => False
  | d + 1 => fun vs H Q _ => ∃ (a : Addr) (p : Prog) (s : Int), vs = [.ref a, .int s] ∧ (s = 1 ∨ s = -1) ∧ PrIs H a p ∧ Wf BC BC d p ∧ p.size ≤ 4000000 ∧
    ∀ l xs H', H l = none → Same H H' → H' l = some (.lst xs) → PrAt H' (Prog.unroll s p) xs → Q (.ref l) H'
theorem ok_l_unroll {f : Addr} {fd : FuncData} (d : Nat) (F : Fun K "_law_unroll" "_law_unroll" s_l_unroll f fd) (B : Bl mg) (h_l_unroll : Has P w K mg base "_law_unroll" d ["_law_piece_here", "_law_sign"] (spUnLt d)) : FnOk P w K mg base CX0 (d + 1) f fd ["_law_piece_here", "_law_sign"] (spUnLt (d + 1)) := by
  refine F.ok sc_l_unroll (fun vs H Q E h => ?_) (fun cdv A outer s H vs Q E hr h => ?_)
  · obtain ⟨a, p, s, rfl, _⟩ := h
    rfl
  · obtain ⟨a, p, sg, rfl, hsg, ⟨xs, hx, hp⟩, hw, hsz, k⟩ := h
    refine ⟨_, (pss_cons (ps_set (i := 2) sc_l_unroll.nd rfl (.inl rfl) (pe_lst pa_nil))
    (pss_cons (ps_for PassesOwn.never rfl (pi_tup (pv 0)) (pg_name (i := 3) sc_l_unroll.nd rfl (.inl rfl))
    (pss_one (ps_if (pt_cmpR op_eq (pe_ix (ix_tupK (K := K)) (pv 3) pe_int (fun _ _ => rfl)) pe_str (nomark _))
    (pss_cons (ps_set (i := 4) sc_l_unroll.nd rfl (.inl rfl) (pe_callH h_l_unroll (hr.mono (by first | decide | omega)) (pa_cons (pe_ix (ix_tupK (K := K)) (pv 3) pe_int (fun _ _ => rfl)) (pa_cons (pv 1) pa_nil))))
    (pss_one (ps_for PassesOwn.never rfl (pi_range1 (by rfl) B.b_range (pa_cons (pe_ix (ix_tupK (K := K)) (pv 3) pe_int (fun _ _ => rfl)) pa_nil)) (pg_name (i := 5) sc_l_unroll.nd rfl (.inl rfl))
    (pss_one (ps_expr (pe_bm PySem.F.plainAttrs_list PySem.F.slot_list_extend PySem.F.type_list_extend mt_extend (pv 2) (pa_cons (pv 4) pa_nil)))))))
    (pss_one (ps_if (pt_cmpR op_eq (pe_ix (ix_tupK (K := K)) (pv 3) pe_int (fun _ _ => rfl)) pe_str (nomark _))
    (pss_one (ps_expr (pe_bm PySem.F.plainAttrs_list PySem.F.slot_list_extend PySem.F.type_list_extend mt_extend (pv 2) (pa_cons (pe_callH h_l_unroll (hr.mono (by first | decide | omega)) (pa_cons (pe_ix (ix_tupK (K := K)) (pv 3) pe_int (fun _ _ => rfl)) (pa_cons (pe_un un_neg (pv 1)) pa_nil))) pa_nil))))
    (pss_one (ps_if (pt_cmpR op_eq (pe_ix (ix_tupK (K := K)) (pv 3) pe_int (fun _ _ => rfl)) pe_str (nomark _))
    (pss_one (ps_expr (pe_bm PySem.F.plainAttrs_list PySem.F.slot_list_append PySem.F.type_list_append mt_append (pv 2) (pa_cons (pe_tup (pa_cons pe_str (pa_cons (pe_op op_mul (pv 1) (pe_ix (ix_tupK (K := K)) (pv 3) pe_int (fun _ _ => rfl))) pa_nil))) pa_nil))))
    (pss_one (ps_expr (pe_bm PySem.F.plainAttrs_list PySem.F.slot_list_append PySem.F.type_list_append mt_append (pv 2) (pa_cons (pv 3) pa_nil)))))))))))
    (pss_one (ps_ret (pv 2))))), ?_⟩
    walk_at "go"
    intro m nm
    walk_at "go"
    have hx0 : upd H m (.lst []) a = some (.tup xs) := h_keep hx nm
    have t0 : Tk H (upd H m (.lst [])) := (Tk.refl H).new nm
    refine u_forPr hx0 (hp.tk t0) (fun r σ H' => ∃ (u : Prog) (ys : List V) (y3 y4 y5 : Option V), σ = [some (.ref a), some (.int sg), some (.ref m), y3, y4, y5] ∧ Wf BC BC d r ∧ u.app (Prog.unroll sg r) = Prog.unroll sg p ∧ (u.len : Int) + r.size = p.size ∧ Same H H' ∧ Tk (upd H m (.lst [])) H' ∧ H' m = some (.lst ys) ∧ PrAt H' u ys) ?_ ?_ ?_ ?_
    · exact ⟨.nil, [], none, none, none, rfl, hw, rfl, by rw [Prog.len]; omega, Same.new0 nm, Tk.refl _, upd_same, rfl⟩
    · rintro r σ H' ⟨u, ys, y3, y4, y5, rfl, _, _, _, _, t, _⟩
      exact t
    · rintro x r r' σ H' hf ⟨u, ys, y3, y4, y5, rfl, hw', eu, es, sm, tk, hm, hu⟩
      have yl : ys.length = u.len := hu.length
      cases r with
      | nil => exact hf.elim
      | step w' n r =>
        obtain ⟨c, rfl, h1, rfl⟩ := hf
        obtain ⟨w1, w2, w3⟩ := Wf.step_iff.mp hw'
        obtain ⟨n1, n2, n3⟩ := word_ne w1
        rw [Prog.size] at es
        have r0 := Prog.size_nonneg w3
        walk_at "go"
        refine r_appendB hm (by omega) ?_
        have t1 : Tk H' (upd H' m (.lst (ys ++ [.ref c]))) := (Tk.refl _).lst hm
        refine ⟨u.app (.step w' n .nil), _, _, _, _, rfl, w3, ?_, ?_, Same.put sm nm, tk.trans t1, upd_same, (hu.tk t1).app ⟨c, [], rfl, t1 _ _ h1, rfl⟩⟩
        · rw [← eu, Prog.app_assoc, Prog.unroll]; rfl
        · rw [Prog.len_app]; show ((u.len + 1 : Nat) : Int) + _ = _; omega
      | turn k' r =>
        obtain ⟨c, rfl, h1, rfl⟩ := hf
        obtain ⟨w1, w3⟩ := Wf.turn_iff.mp hw'
        rw [Prog.size] at es
        have r0 := Prog.size_nonneg w3
        have msg : CMul sg k' := .inl ⟨by omega, by omega⟩
        walk_at "go"
        intro c2 nc2
        walk_at "go"
        refine r_appendB (h_keep hm nc2) (by omega) ?_
        have ncm : c2 ≠ m := (ne_of_none hm nc2).symm
        have t1 : Tk H' (upd (upd H' c2 (.tup [.str "turn", .int (sg * k')])) m (.lst (ys ++ [.ref c2]))) := ((Tk.refl _).new nc2).lst (h_keep hm nc2)
        refine ⟨u.app (.turn (sg * k') .nil), _, _, _, _, rfl, w3, ?_, ?_, Same.put (Same.new sm nc2) nm, tk.trans t1, upd_same, (hu.tk t1).app ⟨c2, [], rfl, (upd_ne ncm).trans upd_same, rfl⟩⟩
        · rw [← eu, Prog.app_assoc, Prog.unroll]; rfl
        · rw [Prog.len_app]; show ((u.len + 1 : Nat) : Int) + _ = _; omega
      | rep k' b r =>
        obtain ⟨c, q, rfl, h1, h2, rfl⟩ := hf
        cases d with
        | zero => exact hw'.elim
        | succ d =>
          obtain ⟨w1, w2, w3, w4⟩ := hw'
          rw [Prog.size] at es
          have r0 := Prog.size_nonneg w4
          have b0 := Prog.size_nonneg w3
          have b1 : 1 * b.size ≤ k' * b.size := Int.mul_le_mul_of_nonneg_right w1.1 b0
          have bl := Prog.len_le_size w3
          have kk : k' * 1 ≤ k' * b.size := Int.mul_le_mul_of_nonneg_left (by omega) (by omega)
          walk_at "go"
          refine ⟨q, b, sg, rfl, hsg, h2, w3, by omega, fun l zs H2 nl s2 hl hz => ?_⟩
          have zl : zs.length = (Prog.unroll sg b).len := hz.length
          have ul := Prog.len_unroll sg w3
          have nlm : l ≠ m := (ne_of_none hm nl).symm
          walk_at "go"
          refine u_for1 ?_ (fun i σ H3 => ∃ (u3 : Prog) (y5 : Option V) (vs : List V), σ = [some (.ref a), some (.int sg), some (.ref m), some (.ref c), some (.ref l), y5] ∧ u3 = u.app (Prog.times i (Prog.unroll sg b)) ∧ Same H H3 ∧ Tk H2 H3 ∧ H3 l = some (.lst zs) ∧ H3 m = some (.lst vs) ∧ PrAt H3 u3 vs) ?_ ?_ ?_
          · omega
          · exact ⟨u, _, ys, rfl, by rw [Prog.times, Prog.app_nil], sm.trans s2, Tk.refl _, hl, s2 _ _ hm, hu.tk (Tk.same s2)⟩
          · rintro i σ H3 hi ⟨u3, y5, vs, rfl, e3, s3, t3, hl3, hm3, hu3⟩
            have vl : vs.length = u3.len := hu3.length
            have i1 : (i : Int) * b.size ≤ k' * b.size := Int.mul_le_mul_of_nonneg_right (by omega) b0
            have ib : ((i * (Prog.unroll sg b).len : Nat) : Int) = (i : Int) * b.size := by rw [Int.natCast_mul, ul]
            rw [e3, Prog.len_app, Prog.len_times] at vl
            walk_at "go"
            refine r_extend hm3 hl3 (by omega) ?_
            have t4 : Tk H3 (upd H3 m (.lst (vs ++ zs))) := (Tk.refl _).lst hm3
            refine ⟨u.app (Prog.times (i + 1) (Prog.unroll sg b)), _, _, rfl, rfl, Same.put s3 nm, t3.trans t4, (upd_ne nlm).trans hl3, upd_same, ?_⟩
            have hz4 := hz.tk (t3.trans t4)
            have := (hu3.tk t4).app hz4
            rw [e3, Prog.app_assoc] at this
            rw [show Prog.times (i + 1) (Prog.unroll sg b) = (Prog.times i (Prog.unroll sg b)).app (Prog.unroll sg b) from Prog.times_succ _ _]
            exact this
          · rintro σ H3 ⟨u3, y5, vs, rfl, e3, s3, t3, hl3, hm3, hu3⟩
            refine ⟨u3, vs, _, _, _, rfl, w4, ?_, ?_, s3, tk.trans ((Tk.same s2).trans t3), hm3, hu3⟩
            · rw [e3, ← eu, Prog.app_assoc, Prog.unroll]
            · rw [e3, Prog.len_app, Prog.len_times, Int.natCast_add, Int.natCast_mul, ul, Int.toNat_of_nonneg (by omega)]
              omega
      | mir b r =>
        obtain ⟨c, q, rfl, h1, h2, rfl⟩ := hf
        cases d with
        | zero => exact hw'.elim
        | succ d =>
          obtain ⟨w2, w3, w4⟩ := hw'
          rw [Prog.size] at es
          have r0 := Prog.size_nonneg w4
          have b0 := Prog.size_nonneg w3
          walk_at "go"
          refine ⟨q, b, -sg, rfl, by omega, h2, w3, by omega, fun l zs H2 nl s2 hl hz => ?_⟩
          have zl : zs.length = (Prog.unroll (-sg) b).len := hz.length
          have ul := Prog.len_unroll (-sg) w3
          have hm2 := s2 _ _ hm
          walk_at "go"
          refine r_extend hm2 hl (by omega) ?_
          have t4 : Tk H2 (upd H2 m (.lst (ys ++ zs))) := (Tk.refl _).lst hm2
          refine ⟨u.app (Prog.unroll (-sg) b), _, _, _, _, rfl, w4, ?_, ?_, Same.put (sm.trans s2) nm, tk.trans ((Tk.same s2).trans t4), upd_same, (hu.tk ((Tk.same s2).trans t4)).app (hz.tk t4)⟩
          · rw [← eu, Prog.app_assoc, Prog.unroll]
          · rw [Prog.len_app]; omega
    · rintro σ H' ⟨u, ys, y3, y4, y5, rfl, hw', eu, es, sm, tk, hm, hu⟩
      rw [Prog.unroll, Prog.app_nil] at eu
      subst eu
      walk_at "go"
      exact k m ys _ nm sm hm hu
theorem has_unroll {f : Addr} {fd : FuncData} (F : Fun K "_law_unroll" "_law_unroll" s_l_unroll f fd) (B : Bl mg) (g : mg "_law_unroll" = some (.ref f)) (b : Binds K fd ["_law_piece_here", "_law_sign"] []) : ∀ d, Has P w K mg base "_law_unroll" d ["_law_piece_here", "_law_sign"] (spUnLt d)
  | 0 => has_false g F.kp b
  | d + 1 => ⟨f, fd, ok_l_unroll d F B (has_unroll F B g b d), g, F.kp, b⟩
def spTame : Sp := fun vs H Q _ => ∃ (a : Addr) (z : Str), vs = [.ref a, .str z] ∧ Bag H a ∧ Names z ∧
  ∀ q p H', But a H H' → Bag H' a → Tk H H' → PrIs H' q p → Wf 3 12 6 p → 1 ≤ p.len → p.len ≤ 60 → p.size ≤ 60 → Q (.ref q) H'
theorem ok_l_tame {f : Addr} {fd : FuncData} (F : Fun K "_law_tame" "_law_tame" s_l_tame f fd) (B : Bl mg) (h_l_pick : Has P w K mg base "_law_pick" 1 ["_law_bag", "_law_many"] spPick) (h_l_piece : Has P w K mg base "_law_piece" 9 ["_law_bag", "_law_pot", "_law_deep", "_law_free", "_law_wild"] spPiece)
   (h_l_bulk : Has P w K mg base "_law_bulk" 13 ["_law_piece_here"] (spNumLt Prog.size 13)) (h_l_unroll : Has P w K mg base "_law_unroll" 13 ["_law_piece_here", "_law_sign"] (spUnLt 13)) :
   FnOk P w K mg base CX0 14 f fd ["_law_bag", "_law_names"] spTame := by
  refine F.ok sc_l_tame (fun vs H Q E h => ?_) (fun cdv A outer s H vs Q E hr h => ?_)
  · obtain ⟨a, z, rfl, _⟩ := h
    rfl
  · obtain ⟨a, z, rfl, ba, hz, k⟩ := h
    refine ⟨_, (pss_cons (ps_set (i := 2) sc_l_tame.nd rfl (.inl rfl) (pe_lst (pa_cons (pe_ix (ix_listK (K := K)) (pe_lst (pa_cons pe_int (pa_cons pe_int (pa_cons pe_int pa_nil)))) (pe_callH h_l_pick (hr.mono (by first | decide | omega)) (pa_cons (pv 0) (pa_cons pe_int pa_nil))) (fun _ _ => rfl)) (pa_cons (pv 1) pa_nil))))
    (pss_cons (ps_set (i := 3) sc_l_tame.nd rfl (.inl rfl) (pe_callH h_l_piece (hr.mono (by first | decide | omega)) (pa_cons (pv 0) (pa_cons (pv 2) (pa_cons (pe_ix (ix_listK (K := K)) (pe_lst (pa_cons pe_int (pa_cons pe_int (pa_cons pe_int pa_nil)))) (pe_callH h_l_pick (hr.mono (by first | decide | omega)) (pa_cons (pv 0) (pa_cons pe_int pa_nil))) (fun _ _ => rfl)) (pa_cons pe_int (pa_cons pe_bl pa_nil)))))))
    (pss_cons (ps_if (pt_cmpR op_gt (pe_callH h_l_bulk (hr.mono (by first | decide | omega)) (pa_cons (pv 3) pa_nil)) pe_int (nomark _))
    (pss_one (ps_ret (pe_callTy call_tupL (by rfl) B.b_tuple (by decide +kernel) (pa_cons (pe_slice sl_list (pe_callH h_l_unroll (hr.mono (by first | decide | omega)) (pa_cons (pv 3) (pa_cons pe_int pa_nil))) po_none (po_some pe_int)) pa_nil))))
    pss_nil)
    (pss_one (ps_ret (pv 3)))))), ?_⟩
    walk_at "go"
    intro c nc
    have nca : c ≠ a := ba.ne nc
    walk_at "go"
    refine u_pick (ba.keep nc) (by omega) (by omega) fun r H1 r0 r1 bu1 b1 => ?_
    have hc1 : H1 c = some (.lst [.int 7, .int 12, .int 24]) := bu1 _ _ nca upd_same
    obtain ⟨v, hv⟩ : ∃ v, atI [V.int 7, V.int 12, V.int 24] r = some (.int v) := by
      rcases (by omega : r = 0 ∨ r = 1 ∨ r = 2) with rfl | rfl | rfl <;> exact ⟨_, rfl⟩
    refine r_ixL (SqL.of hc1) hv ?_
    walk_at "go"
    intro o no
    have noa : o ≠ a := b1.ne no
    have bo : Bag (upd H1 o (.lst [.int v, .str z])) a := b1.keep no
    have ho : upd H1 o (.lst [.int v, .str z]) o = some (.lst [.int v, .str z]) := upd_same
    have buo : But a H (upd H1 o (.lst [.int v, .str z])) := (((But.refl a H).new nc).trans bu1).new no
    have tko : Tk H (upd H1 o (.lst [.int v, .str z])) := (((Tk.refl H).new nc).trans (Tk.but bu1 (ba.keep nc))).new no
    have fo : H o = none := But.free (((But.refl a H).new nc).trans bu1) noa no
    change gName _ _ _ (upd H1 o (.lst [.int v, .str z])) _
    generalize upd H1 o (.lst [.int v, .str z]) = H2 at *
    walk_at "go"
    intro e ne
    have nea : e ≠ a := bo.ne ne
    have neo : e ≠ o := (ne_of_none ho ne).symm
    walk_at "go"
    refine u_pick (bo.keep ne) (by omega) (by omega) fun r2 H3 p0 p1 bu3 b3 => ?_
    have he3 : H3 e = some (.lst [.int 0, .int 2, .int 5]) := bu3 _ _ nea upd_same
    have ho3 : H3 o = _ := bu3 _ _ noa (h_keep ho ne)
    obtain ⟨dd, hd, hd5⟩ : ∃ dd : Nat, atI [V.int 0, V.int 2, V.int 5] r2 = some (.int (dd : Int)) ∧ dd ≤ 5 := by
      rcases (by omega : r2 = 0 ∨ r2 = 1 ∨ r2 = 2) with rfl | rfl | rfl
      · exact ⟨0, rfl, by omega⟩
      · exact ⟨2, rfl, by omega⟩
      · exact ⟨5, rfl, by omega⟩
    refine r_ixL (SqL.of he3) hd ?_
    walk_at "go"
    refine ⟨dd, hd5, a, o, _, z, 0, false, rfl, b3, ho3, hz, fun q p H4 nq bu4 b4 po4 tk4 hq w5 q1 q5 q6 => ?_⟩
    have bu34 : But a H H4 := fun x u xa ex => bu4 x u xa (ne_of_none ex fo) (bu3 x u xa (h_keep (buo x u xa ex) ne))
    have tk34 : Tk H H4 := tko.trans (((Tk.refl _).new ne).trans ((Tk.but bu3 (bo.keep ne)).trans tk4))
    have w6 : Wf 3 12 6 p := Wf.mono (by decide +kernel) (by decide +kernel) (by omega) w5
    have w12 : Wf BC BC 12 p := Wf.mono (by decide +kernel) (by decide +kernel) (by omega) w6
    have sz : p.size ≤ 4000000 := by
      have h1 := szp q5 q6
      have h2 : (5 * CB false) ^ dd ≤ (5 * CB false) ^ 5 := ipow_mono (by decide) hd5
      have h3 : (5 : Int) * (5 * CB false) ^ 5 ≤ 4000000 := by decide +kernel
      omega
    walk_at "go"
    refine ⟨q, p, rfl, hq, w12, by omega, by decide, ?_⟩
    walk_at "go"
    refine r_iteD (fun h6 => ?_) (fun h6 => ?_)
    · walk_at "go"
      refine ⟨q, p, 1, rfl, .inl rfl, hq, w12, sz, fun l xs H5 nl s5 hl hx => ?_⟩
      walk_at "go"
      intro x nx
      walk_at "go"
      intro y ny
      have lu := Prog.len_unroll 1 w12
      have t5 : Tk H4 (upd (upd H5 x (.lst (cutV xs none (some 20)))) y (.tup (cutV xs none (some 20)))) := ((Tk.same s5).new nx).new ny
      have t6 : Tk H5 (upd (upd H5 x (.lst (cutV xs none (some 20)))) y (.tup (cutV xs none (some 20)))) := ((Tk.refl _).new nx).new ny
      have hcut : cutV xs none (some 20) = xs.take 20 := cut_take xs 20
      have pt : PrAt (upd (upd H5 x (.lst (cutV xs none (some 20)))) y (.tup (cutV xs none (some 20)))) ((Prog.unroll 1 p).take 20) (cutV xs none (some 20)) := by
        have h := (hx.tk t6).take (n := 20)
        rw [← hcut] at h
        exact h
      have lt := Prog.len_take 20 (Prog.unroll 1 p)
      have wt : Wf 3 12 0 ((Prog.unroll 1 p).take 20) := Prog.wf_take (Prog.wf_unroll (.inl rfl) w6)
      have st : ((Prog.unroll 1 p).take 20).size = ((Prog.unroll 1 p).take 20).len := Prog.size_flat wt
      refine k y _ _ ((bu34.trans (Same.but s5 a)).new nx |>.new ny) ((b4.same s5).keep nx |>.keep ny) (tk34.trans t5) ⟨_, upd_same, pt⟩ (Wf.mono (Int.le_refl _) (Int.le_refl _) (by omega) wt) ?_ ?_ ?_
      · omega
      · omega
      · omega
    · walk_at "go"
      exact k q p _ bu34 b4 tk34 hq w6 q1 (by omega) (by omega)
def spRight : Sp := fun vs H Q _ => ∃ a p, vs = [.ref a] ∧ Good H a p ∧ ∀ H', Same H H' → Q (.bl true) H'
end
end My

set_option Elab.async false
set_option linter.all false
set_option maxRecDepth 100000
set_option maxHeartbeats 4000000

namespace My
open PySem PySem.Spec PyProof.Rows L2
section
variable {P : Program} {w : World} {K : PySem.W.Frag} {mg : Str → Option Value} {base : Heap}
local macro_rules | `(tactic| walk_at "isi") => `(tactic| (first
  | (with_reducible refine r_is_int_int ?_)
  | (with_reducible refine r_is_int_bool ?_)
  | (with_reducible refine r_is_int_str ?_)
  | (with_reducible refine r_is_int_list ?_)
  | (with_reducible refine r_is_int_tuple ?_)
  | (with_reducible refine r_is_bool_int ?_)
  | (with_reducible refine r_is_bool_bool ?_)
  | (with_reducible refine r_is_bool_str ?_)
  | (with_reducible refine r_is_bool_list ?_)
  | (with_reducible refine r_is_bool_tuple ?_)
  | (with_reducible refine r_is_str_int ?_)
  | (with_reducible refine r_is_str_bool ?_)
  | (with_reducible refine r_is_str_str ?_)
  | (with_reducible refine r_is_str_list ?_)
  | (with_reducible refine r_is_str_tuple ?_)
  | ((with_reducible refine r_is_list_int (xs := ?xx) ?hh ?_); (case hh => walk_at "hp"))
  | ((with_reducible refine r_is_list_bool (xs := ?xx) ?hh ?_); (case hh => walk_at "hp"))
  | ((with_reducible refine r_is_list_str (xs := ?xx) ?hh ?_); (case hh => walk_at "hp"))
  | ((with_reducible refine r_is_list_list (xs := ?xx) ?hh ?_); (case hh => walk_at "hp"))
  | ((with_reducible refine r_is_list_tuple (xs := ?xx) ?hh ?_); (case hh => walk_at "hp"))
  | ((with_reducible refine r_is_tuple_int (xs := ?xx) ?hh ?_); (case hh => walk_at "hp"))
  | ((with_reducible refine r_is_tuple_bool (xs := ?xx) ?hh ?_); (case hh => walk_at "hp"))
  | ((with_reducible refine r_is_tuple_str (xs := ?xx) ?hh ?_); (case hh => walk_at "hp"))
  | ((with_reducible refine r_is_tuple_list (xs := ?xx) ?hh ?_); (case hh => walk_at "hp"))
  | ((with_reducible refine r_is_tuple_tuple (xs := ?xx) ?hh ?_); (case hh => walk_at "hp"))
  | (with_reducible refine r_is_NoneType_int ?_)
  | (with_reducible refine r_is_NoneType_bool ?_)
  | (with_reducible refine r_is_NoneType_str ?_)
  | (with_reducible refine r_is_NoneType_list ?_)
  | (with_reducible refine r_is_NoneType_tuple ?_)))
local macro_rules | `(tactic| walk_at "ne") => `(tactic| first | assumption | (refine Ne.symm ?_; assumption) | exact Bag.ne (by assumption) (by assumption) | exact ne_of_none (by assumption) (by assumption))
local macro_rules | `(tactic| walk_at "hp") => `(tactic| (first
  | assumption
  | exact upd_same
  | (refine h_keep ?_ (by assumption); walk_at "hp")
  | (refine (upd_ne (by walk_at "ne")).trans ?_; walk_at "hp")
  | (refine Same.at (by assumption) ?_; walk_at "hp")
  | (refine But.at (by assumption) (by walk_at "ne") ?_; walk_at "hp")
  | (refine But2.at (by assumption) (by walk_at "ne") (by walk_at "ne") ?_; walk_at "hp")))
local macro_rules | `(tactic| walk_at "side") => `(tactic| first | assumption | omega | (refine ⟨?_, ?_⟩ <;> first | assumption | omega | decide) | decide | (refine ⟨by decide, by decide, by decide⟩) | (left; refine ⟨?_, ?_⟩ <;> first | omega | decide) | (right; refine ⟨?_, ?_⟩ <;> first | omega | decide) | (simp; done))
local macro_rules | `(tactic| walk_at "cond") => `(tactic| first | assumption | exact rfl | omega | (simp only [List.length_cons, List.length_nil]; omega) | decide +kernel)
local macro_rules | `(tactic| walk_at "s") => `(tactic| (first
  | ((with_reducible refine r_var (v := ?vv) ?ee ?_); (case ee => exact rfl))
  | (with_reducible refine r_c ?_)
  | (with_reducible refine r_op ?_)
  | (with_reducible refine r_un ?_)
  | (with_reducible refine r_rI0 ?_)
  | ((with_reducible refine r_rI ?cc ?_); (case cc => walk_at "side"))
  | (with_reducible refine r_rU ?_)
  | (with_reducible refine r_eqI ?_)
  | (with_reducible refine r_neI ?_)
  | (with_reducible refine r_eqB ?_)
  | (with_reducible refine r_neB ?_)
  | (with_reducible refine r_eqS ?_)
  | (with_reducible refine r_neS ?_)
  | ((with_reducible refine r_eq ?ee ?_); (case ee => exact rfl))
  | ((with_reducible refine r_ne ?ee ?_); (case ee => exact rfl))
  | ((with_reducible refine r_ixL (v := ?vv) (xs := ?xx) ?hh ?ee ?_); (case hh => (refine SqL.of ?_; walk_at "hp")); (case ee => exact rfl))
  | (with_reducible refine r_cb ?_)
  | (with_reducible refine r_call ?_)
  | (with_reducible refine r_cons ?_)
  | (with_reducible refine r_nil ?_)
  | (with_reducible refine r_lst ?_)
  | (with_reducible refine r_tup ?_)
  | ((with_reducible refine r_new ?cc ?_); (case cc => walk_at "side"))
  | (with_reducible refine r_exbl ?_)
  | (with_reducible refine r_exint ?_)
  | (with_reducible refine r_exint2 ?_)
  | (with_reducible refine r_exblL ?_)
  | (with_reducible refine r_ex2 ?_)
  | (with_reducible refine r_test ?_)
  | (with_reducible refine r_tB ?_)
  | (with_reducible refine r_not ?_)
  | (with_reducible refine r_and ?_)
  | (with_reducible refine r_or ?_)
  | (with_reducible refine r_andV ?_)
  | (with_reducible refine r_orV ?_)
  | (with_reducible refine r_notV ?_)
  | (with_reducible refine r_tif ?_)
  | (with_reducible refine r_iteT ?_)
  | (with_reducible refine r_iteNT ?_)
  | (with_reducible refine r_iteNF ?_)
  | (with_reducible refine r_iteF ?_)
  | (with_reducible refine r_seq ?_)
  | (with_reducible refine r_next ?_)
  | (with_reducible refine r_brk ?_)
  | (with_reducible refine r_cont ?_)
  | (with_reducible refine r_asg ?_)
  | (with_reducible refine r_gname ?_)
  | (with_reducible refine r_ret ?_)
  | (with_reducible refine r_retN ?_)
  | (with_reducible refine r_drop ?_)
  | (with_reducible refine r_if ?_)
  | ((with_reducible refine r_aug (x := ?xx) ?ee ?_); (case ee => exact rfl))
  | (with_reducible refine r_ipI ?_)
  | (with_reducible refine r_augS ?_)
  | (with_reducible refine r_gsub ?_)
  | ((with_reducible refine r_setL (xs := ?xx) (m := ?mm) ?hh ?ee ?_); (case hh => walk_at "hp"); (case ee => exact rfl))
  | (with_reducible refine r_par ?_)
  | (with_reducible refine r_bm ?_)
  | ((with_reducible refine r_tyL (xs := ?xx) ?hh ?_); (case hh => walk_at "hp"))
  | ((with_reducible refine r_append (xs := ?xx) ?hh ?ll ?_); (case hh => walk_at "hp"); (case ll => walk_at "side"))
  | (walk_at "isi")
  | (with_reducible refine r_for ?_)
  | (with_reducible refine r_iList ?_)
  | (with_reducible refine r_iTup ?_)
  | (with_reducible refine r_iR1 ?_)
  | (with_reducible refine r_iR2 ?_)
  | (with_reducible refine r_lc ?_)
  | (with_reducible refine r_yes ?_)
  | ((with_reducible refine r_lenS ?ll ?_); (case ll => walk_at "side"))
  | (with_reducible refine r_leS ?_)
  | (with_reducible refine r_chain ?_)
  | (with_reducible refine r_tM1 ?_)
  | (with_reducible refine r_exS ?_)
  | ((with_reducible refine r_tupL (xs := ?xx) ?hh ?_); (case hh => walk_at "hp"))
  | ((with_reducible refine r_listL (xs := ?xx) ?hh ?_); (case hh => walk_at "hp"))
  | ((with_reducible refine r_listT (xs := ?xx) ?hh ?_); (case hh => walk_at "hp"))
  | ((with_reducible refine r_ixT (v := ?vv) (xs := ?xx) ?hh ?ee ?_); (case hh => (refine SqT.of ?_; walk_at "hp")); (case ee => exact rfl))
  | (with_reducible refine r_sl ?_)
  | (with_reducible refine r_nopart ?_)
  | (with_reducible refine r_part ?_)
  | (with_reducible refine r_exI ?_)
  | ((with_reducible refine r_slL (xs := ?xx) ?hh ?_); (case hh => first | assumption | (refine SqL.of ?_; walk_at "hp") | (refine Same.seq (by assumption) (by assumption))))
  | ((with_reducible refine r_cat (xs := ?xx) (zs := ?zz) ?hh ?ii ?ll ?_); (case hh => walk_at "hp"); (case ii => walk_at "hp"); (case ll => walk_at "side"))
  | ((with_reducible refine r_lenL (xs := ?xx) ?hh ?_); (case hh => walk_at "hp"))
  | ((with_reducible refine r_lenT (xs := ?xx) ?hh ?_); (case hh => walk_at "hp"))
  | ((with_reducible refine r_gTup (xs := ?xx) ?hh ?ll ?_); (case hh => walk_at "hp"); (case ll => exact rfl))
  | (with_reducible refine r_gCons ?_)
  | (with_reducible refine r_gNil ?_)
  | ((with_reducible refine r_iteDT ?cc ?_); (case cc => walk_at "cond"))
  | ((with_reducible refine r_iteDF ?cc ?_); (case cc => walk_at "cond"))
  | ((with_reducible refine r_iteNDT ?cc ?_); (case cc => walk_at "cond"))
  | ((with_reducible refine r_iteNDF ?cc ?_); (case cc => walk_at "cond"))
  ))
local macro_rules | `(tactic| walk_at "go") => `(tactic| repeat (walk_at "s"))

local macro_rules | `(tactic| walk_at "s") => `(tactic| (first
  | (with_reducible refine r_callD ?_)
  | (with_reducible refine r_abs ?_)
  ))
theorem ok_plain_row {f : Addr} {fd : FuncData} (d : Nat) {dvs : List V} {kws : List (Str × V)} (F : FunD K "plain_row" "plain_row" (defArgs s_plain_row) (defBody s_plain_row) (defScope s_plain_row) dvs kws f fd) (h_plain_row : Has P w K mg base "plain_row" d ["program", "sign"] (spUnLt d)) : FnOk P w K mg base CX0 (d + 1) f fd ["program", "sign"] (spUnLt (d + 1)) := by
  refine okD F sc_plain_row (fun vs H Q E h => ?_) (fun cdv A outer s H vs Q E hr h => ?_)
  · obtain ⟨a, p, s, rfl, _⟩ := h
    rfl
  · obtain ⟨a, p, sg, rfl, hsg, ⟨xs, hx, hp⟩, hw, hsz, k⟩ := h
    refine ⟨_, (pss_cons (ps_set (i := 2) sc_plain_row.nd rfl (.inl rfl) (pe_lst pa_nil))
    (pss_cons (ps_for PassesOwn.never rfl (pi_tup (pv 0)) (pg_name (i := 3) sc_plain_row.nd rfl (.inl rfl))
    (pss_one (ps_if (pt_cmpR op_eq (pe_ix (ix_tupK (K := K)) (pv 3) pe_int (fun _ _ => rfl)) pe_str (nomark _))
    (pss_one (ps_expr (pe_bm PySem.F.plainAttrs_list PySem.F.slot_list_extend PySem.F.type_list_extend mt_extend (pv 2) (pa_cons (pe_op op_rep (pe_callH h_plain_row (hr.mono (by first | decide | omega)) (pa_cons (pe_ix (ix_tupK (K := K)) (pv 3) pe_int (fun _ _ => rfl)) (pa_cons (pv 1) pa_nil))) (pe_ix (ix_tupK (K := K)) (pv 3) pe_int (fun _ _ => rfl))) pa_nil))))
    (pss_one (ps_if (pt_cmpR op_eq (pe_ix (ix_tupK (K := K)) (pv 3) pe_int (fun _ _ => rfl)) pe_str (nomark _))
    (pss_one (ps_expr (pe_bm PySem.F.plainAttrs_list PySem.F.slot_list_extend PySem.F.type_list_extend mt_extend (pv 2) (pa_cons (pe_callH h_plain_row (hr.mono (by first | decide | omega)) (pa_cons (pe_ix (ix_tupK (K := K)) (pv 3) pe_int (fun _ _ => rfl)) (pa_cons (pe_un un_neg (pv 1)) pa_nil))) pa_nil))))
    (pss_one (ps_if (pt_cmpR op_eq (pe_ix (ix_tupK (K := K)) (pv 3) pe_int (fun _ _ => rfl)) pe_str (nomark _))
    (pss_one (ps_expr (pe_bm PySem.F.plainAttrs_list PySem.F.slot_list_append PySem.F.type_list_append mt_append (pv 2) (pa_cons (pe_tup (pa_cons pe_str (pa_cons (pe_op op_mul (pv 1) (pe_ix (ix_tupK (K := K)) (pv 3) pe_int (fun _ _ => rfl))) pa_nil))) pa_nil))))
    (pss_one (ps_expr (pe_bm PySem.F.plainAttrs_list PySem.F.slot_list_append PySem.F.type_list_append mt_append (pv 2) (pa_cons (pv 3) pa_nil)))))))))))
    (pss_one (ps_ret (pv 2))))), ?_⟩
    walk_at "go"
    intro m nm
    walk_at "go"
    have hx0 : upd H m (.lst []) a = some (.tup xs) := h_keep hx nm
    have t0 : Tk H (upd H m (.lst [])) := (Tk.refl H).new nm
    refine u_forPr hx0 (hp.tk t0) (fun r σ H' => ∃ (u : Prog) (ys : List V) (y3 : Option V), σ = [some (.ref a), some (.int sg), some (.ref m), y3] ∧ Wf BC BC d r ∧ u.app (Prog.unroll sg r) = Prog.unroll sg p ∧ (u.len : Int) + r.size = p.size ∧ Same H H' ∧ Tk (upd H m (.lst [])) H' ∧ H' m = some (.lst ys) ∧ PrAt H' u ys) ?_ ?_ ?_ ?_
    · exact ⟨.nil, [], none, rfl, hw, rfl, by rw [Prog.len]; omega, Same.new0 nm, Tk.refl _, upd_same, rfl⟩
    · rintro r σ H' ⟨u, ys, y3, rfl, _, _, _, _, t, _⟩
      exact t
    · rintro x r r' σ H' hf ⟨u, ys, y3, rfl, hw', eu, es, sm, tk, hm, hu⟩
      have yl : ys.length = u.len := hu.length
      cases r with
      | nil => exact hf.elim
      | step w' n r =>
        obtain ⟨c, rfl, h1, rfl⟩ := hf
        obtain ⟨w1, w2, w3⟩ := Wf.step_iff.mp hw'
        obtain ⟨n1, n2, n3⟩ := word_ne w1
        rw [Prog.size] at es
        have r0 := Prog.size_nonneg w3
        walk_at "go"
        refine r_appendB hm (by omega) ?_
        have t1 : Tk H' (upd H' m (.lst (ys ++ [.ref c]))) := (Tk.refl _).lst hm
        refine ⟨u.app (.step w' n .nil), _, _, rfl, w3, ?_, ?_, Same.put sm nm, tk.trans t1, upd_same, (hu.tk t1).app ⟨c, [], rfl, t1 _ _ h1, rfl⟩⟩
        · rw [← eu, Prog.app_assoc, Prog.unroll]; rfl
        · rw [Prog.len_app]; show ((u.len + 1 : Nat) : Int) + _ = _; omega
      | turn k' r =>
        obtain ⟨c, rfl, h1, rfl⟩ := hf
        obtain ⟨w1, w3⟩ := Wf.turn_iff.mp hw'
        rw [Prog.size] at es
        have r0 := Prog.size_nonneg w3
        have msg : CMul sg k' := .inl ⟨by omega, by omega⟩
        walk_at "go"
        intro c2 nc2
        walk_at "go"
        refine r_appendB (h_keep hm nc2) (by omega) ?_
        have ncm : c2 ≠ m := (ne_of_none hm nc2).symm
        have t1 : Tk H' (upd (upd H' c2 (.tup [.str "turn", .int (sg * k')])) m (.lst (ys ++ [.ref c2]))) := ((Tk.refl _).new nc2).lst (h_keep hm nc2)
        refine ⟨u.app (.turn (sg * k') .nil), _, _, rfl, w3, ?_, ?_, Same.put (Same.new sm nc2) nm, tk.trans t1, upd_same, (hu.tk t1).app ⟨c2, [], rfl, (upd_ne ncm).trans upd_same, rfl⟩⟩
        · rw [← eu, Prog.app_assoc, Prog.unroll]; rfl
        · rw [Prog.len_app]; show ((u.len + 1 : Nat) : Int) + _ = _; omega
      | rep k' b r =>
        obtain ⟨c, q, rfl, h1, h2, rfl⟩ := hf
        cases d with
        | zero => exact hw'.elim
        | succ d =>
          obtain ⟨w1, w2, w3, w4⟩ := hw'
          rw [Prog.size] at es
          have r0 := Prog.size_nonneg w4
          have b0 := Prog.size_nonneg w3
          have b1 : 1 * b.size ≤ k' * b.size := Int.mul_le_mul_of_nonneg_right w1.1 b0
          have bl := Prog.len_le_size w3
          have kk : k' * 1 ≤ k' * b.size := Int.mul_le_mul_of_nonneg_left (by omega) (by omega)
          walk_at "go"
          refine ⟨q, b, sg, rfl, hsg, h2, w3, by omega, fun l zs H2 nl s2 hl hz => ?_⟩
          have zl : zs.length = (Prog.unroll sg b).len := hz.length
          have ul := Prog.len_unroll sg w3
          have hm2 := s2 _ _ hm
          have kb : ((zs.length * k'.toNat : Nat) : Int) = k' * b.size := by rw [Int.natCast_mul, Int.toNat_of_nonneg (by omega), zl, ul, Int.mul_comm]
          walk_at "go"
          refine r_rep hl (by omega) (by omega) (by omega) fun l2 nl2 => ?_
          have nl2m : l2 ≠ m := (ne_of_none hm2 nl2).symm
          have fl : (List.replicate k'.toNat zs).flatten.length = (Prog.times k'.toNat (Prog.unroll sg b)).len := (hz.times _).length
          have fl2 : (List.replicate k'.toNat zs).flatten.length = zs.length * k'.toNat := by rw [fl, Prog.len_times, zl, Nat.mul_comm]
          walk_at "go"
          refine r_extend (h_keep hm2 nl2) upd_same (by omega) ?_
          have t4 : Tk H2 (upd (upd H2 l2 (.lst (List.replicate k'.toNat zs).flatten)) m (.lst (ys ++ (List.replicate k'.toNat zs).flatten))) := ((Tk.refl H2).new nl2).lst (h_keep hm2 nl2)
          refine ⟨u.app (Prog.times k'.toNat (Prog.unroll sg b)), _, _, rfl, w4, ?_, ?_, Same.put (Same.new (sm.trans s2) nl2) nm, tk.trans ((Tk.same s2).trans t4), upd_same, (hu.tk ((Tk.same s2).trans t4)).app ((hz.times _).tk t4)⟩
          · rw [← eu, Prog.app_assoc, Prog.unroll]
          · rw [Prog.len_app, ← fl, fl2, Int.natCast_add]; omega
      | mir b r =>
        obtain ⟨c, q, rfl, h1, h2, rfl⟩ := hf
        cases d with
        | zero => exact hw'.elim
        | succ d =>
          obtain ⟨w2, w3, w4⟩ := hw'
          rw [Prog.size] at es
          have r0 := Prog.size_nonneg w4
          have b0 := Prog.size_nonneg w3
          walk_at "go"
          refine ⟨q, b, -sg, rfl, by omega, h2, w3, by omega, fun l zs H2 nl s2 hl hz => ?_⟩
          have zl : zs.length = (Prog.unroll (-sg) b).len := hz.length
          have ul := Prog.len_unroll (-sg) w3
          have hm2 := s2 _ _ hm
          walk_at "go"
          refine r_extend hm2 hl (by omega) ?_
          have t4 : Tk H2 (upd H2 m (.lst (ys ++ zs))) := (Tk.refl _).lst hm2
          refine ⟨u.app (Prog.unroll (-sg) b), _, _, rfl, w4, ?_, ?_, Same.put (sm.trans s2) nm, tk.trans ((Tk.same s2).trans t4), upd_same, (hu.tk ((Tk.same s2).trans t4)).app (hz.tk t4)⟩
          · rw [← eu, Prog.app_assoc, Prog.unroll]
          · rw [Prog.len_app]; omega
    · rintro σ H' ⟨u, ys, y3, rfl, hw', eu, es, sm, tk, hm, hu⟩
      rw [Prog.unroll, Prog.app_nil] at eu
      subst eu
      walk_at "go"
      exact k m ys _ nm sm hm hu
theorem has_plain_row {f : Addr} {fd : FuncData} {dvs : List V} {kws : List (Str × V)} (F : FunD K "plain_row" "plain_row" (defArgs s_plain_row) (defBody s_plain_row) (defScope s_plain_row) dvs kws f fd) (g : mg "plain_row" = some (.ref f)) (b : Binds K fd ["program", "sign"] []) : ∀ d, Has P w K mg base "plain_row" d ["program", "sign"] (spUnLt d)
  | 0 => has_false g F.kp b
  | d + 1 => ⟨f, fd, ok_plain_row d F (has_plain_row F g b d), g, F.kp, b⟩
def spShort : Sp := fun vs H Q _ => ∃ a p, vs = [.ref a] ∧ PrIs H a p ∧ Wf BC BC 12 p ∧ p.len ≤ 1000 ∧ ∀ H', Same H H' → Q (.bl p.short) H'
theorem ok_raw_is_short {f : Addr} {fd : FuncData} {tMC tMH : Tok} (F : Fun K "raw_is_short" "raw_is_short" s_raw_is_short f fd) (B : Bl mg) (bA : mg "abs" = none) (gMC : mg "MOST_COMMANDS" = some (.int 200 tMC)) (gMH : mg "MOST_HEADING" = some (.int 12 tMH))
    (h_raw_size : Has P w K mg base "raw_size" 13 ["program"] (spNumLt Prog.size 13)) (hd_plain_row : HasD P w K mg base "plain_row" 13 ["program", "sign"] (spUnLt 13) [.int 1]) : FnOk P w K mg base CX0 14 f fd ["program"] spShort := by
  refine F.ok sc_raw_is_short (fun vs H Q E h => ?_) (fun cdv A outer s H vs Q E hr h => ?_)
  · obtain ⟨a, p, rfl, _⟩ := h
    rfl
  · obtain ⟨a, p, rfl, hp, hw, l1, k⟩ := h
    refine ⟨_, (pss_cons (ps_if (pt_cmpR op_gt (pe_callH h_raw_size (hr.mono (by first | decide | omega)) (pa_cons (pv 0) pa_nil)) (pe_glob (v := .int 200) rfl gMC ⟨_, rfl⟩) (nomark _))
    (pss_one (ps_ret pe_bl))
    pss_nil)
    (pss_cons (ps_set (i := 1) sc_raw_is_short.nd rfl (.inl rfl) pe_int)
    (pss_cons (ps_for PassesOwn.never rfl (pi_list (pe_callHD hd_plain_row (hr.mono (by first | decide | omega)) (pa_cons (pv 0) pa_nil))) (pg_name (i := 2) sc_raw_is_short.nd rfl (.inl rfl))
    (pss_one (ps_if (pt_cmpR op_eq (pe_ix (ix_tupK (K := K)) (pv 2) pe_int (fun _ _ => rfl)) pe_str (nomark _))
    (pss_cons (ps_aug (i := 1) sc_raw_is_short.nd rfl (.inl rfl) (pe_ix (ix_tupK (K := K)) (pv 2) pe_int (fun _ _ => rfl)) ip_add)
    (pss_one (ps_if (pt_cmpR op_gt (pe_callB call_absA (by rfl) bA (by decide +kernel) (pa_cons (pv 1) pa_nil)) (pe_glob (v := .int 12) rfl gMH ⟨_, rfl⟩) (nomark _))
    (pss_one (ps_ret pe_bl))
    pss_nil)))
    pss_nil)))
    (pss_one (ps_ret pe_bl))))), ?_⟩
    walk_at "go"
    refine ⟨a, p, rfl, hp, hw, l1, by decide, ?_⟩
    walk_at "go"
    refine r_iteD (fun hz => ?_) (fun hz => ?_)
    · walk_at "go"
      have := k H (Same.refl _)
      rw [Prog.short, if_pos hz] at this
      exact this
    · walk_at "go"
      refine ⟨a, p, 1, rfl, .inl rfl, hp, hw, by omega, fun l xs H1 nl s1 hl hu => ?_⟩
      walk_at "go"
      have wu : Wf BC BC 0 (Prog.unroll 1 p) := Prog.wf_unroll (.inl rfl) hw
      refine u_forPrL hl hu (fun r σ H' => ∃ (n : Int) (y : Option V), σ = [some (.ref a), some (.int n), y] ∧ H' = H1 ∧ Wf BC BC 0 r ∧ Prog.wayOk n r = p.short) ?_ ?_ ?_ ?_
      · exact ⟨0, none, rfl, rfl, wu, by rw [Prog.short, if_neg hz]⟩
      · rintro r σ H' ⟨n, y, rfl, rfl, _⟩
        exact ⟨Tk.refl _, hl⟩
      · rintro x r r' σ H' hf ⟨n, y, rfl, rfl, wr, e⟩
        cases r with
        | nil => exact hf.elim
        | step w' n' r =>
          obtain ⟨c, rfl, h1, rfl⟩ := hf
          obtain ⟨w1, w2, w3⟩ := Wf.step_iff.mp wr
          obtain ⟨n1, n2, n3⟩ := word_ne w1
          walk_at "go"
          exact ⟨_, _, rfl, rfl, w3, by rw [← e, Prog.wayOk]⟩
        | turn k' r =>
          obtain ⟨c, rfl, h1, rfl⟩ := hf
          walk_at "go"
          rw [Prog.wayOk] at e
          refine r_iteD (fun hc => ?_) (fun hc => ?_)
          · walk_at "go"
            have := k H' s1
            rw [← e, if_pos (by split at hc <;> omega)] at this
            exact this
          · walk_at "go"
            rw [if_neg (by split at hc <;> omega)] at e
            exact ⟨_, _, rfl, rfl, (Wf.turn_iff.mp wr).2, e⟩
        | rep k' b r => exact wr.elim
        | mir b r => exact wr.elim
      · rintro σ H' ⟨n, y, rfl, rfl, _, e⟩
        walk_at "go"
        rw [Prog.wayOk] at e
        have := k H' s1
        rw [← e] at this
        exact this
def spIsShort : Sp := fun vs H Q _ => ∃ a p, vs = [.ref a] ∧ Good H a p ∧ ∀ H', Same H H' → Q (.bl p.short) H'
theorem ok_is_short {f : Addr} {fd : FuncData} (F : Fun K "is_short" "is_short" s_is_short f fd) (h_check_program : Has P w K mg base "check_program" 28 ["value"] spCheckPr) (h_raw_is_short : Has P w K mg base "raw_is_short" 14 ["program"] spShort) : FnOk P w K mg base CX0 29 f fd ["program"] spIsShort := by
  refine F.ok sc_is_short (fun vs H Q E h => ?_) (fun cdv A outer s H vs Q E hr h => ?_)
  · obtain ⟨a, p, rfl, _⟩ := h
    rfl
  · obtain ⟨a, p, rfl, hg, k⟩ := h
    refine ⟨_, (pss_cons (ps_expr (pe_callH h_check_program (hr.mono (by first | decide | omega)) (pa_cons (pv 0) pa_nil)))
    (pss_one (ps_ret (pe_callH h_raw_is_short (hr.mono (by first | decide | omega)) (pa_cons (pv 0) pa_nil))))), ?_⟩
    walk_at "go"
    refine ⟨a, p, rfl, hg, fun H1 s1 => ?_⟩
    walk_at "go"
    exact ⟨a, p, rfl, hg.1.tk (Tk.same s1), hg.2.1, hg.2.2.2, fun H2 s2 => k _ (s1.trans s2)⟩
theorem ok_l_is_short {f : Addr} {fd : FuncData} (F : Fun K "_law_is_short" "_law_is_short" s_l_is_short f fd) (B : Bl mg) (h_l_bulk : Has P w K mg base "_law_bulk" 13 ["_law_piece_here"] (spNumLt Prog.size 13)) (h_l_unroll : Has P w K mg base "_law_unroll" 13 ["_law_piece_here", "_law_sign"] (spUnLt 13)) :
   FnOk P w K mg base CX0 14 f fd ["_law_piece_here"] spShort := by
  refine F.ok sc_l_is_short (fun vs H Q E h => ?_) (fun cdv A outer s H vs Q E hr h => ?_)
  · obtain ⟨a, p, rfl, _⟩ := h
    rfl
  · obtain ⟨a, p, rfl, hp, hw, l1, k⟩ := h
    refine ⟨_, (pss_cons (ps_if (pt_cmpR op_gt (pe_callH h_l_bulk (hr.mono (by first | decide | omega)) (pa_cons (pv 0) pa_nil)) pe_int (nomark _))
    (pss_one (ps_ret pe_bl))
    pss_nil)
    (pss_cons (ps_set (i := 1) sc_l_is_short.nd rfl (.inl rfl) pe_int)
    (pss_cons (ps_for PassesOwn.never rfl (pi_list (pe_callH h_l_unroll (hr.mono (by first | decide | omega)) (pa_cons (pv 0) (pa_cons pe_int pa_nil)))) (pg_name (i := 2) sc_l_is_short.nd rfl (.inl rfl))
    (pss_one (ps_if (pt_cmpR op_eq (pe_ix (ix_tupK (K := K)) (pv 2) pe_int (fun _ _ => rfl)) pe_str (nomark _))
    (pss_cons (ps_set (i := 1) sc_l_is_short.nd rfl (.inl rfl) (pe_op op_add (pv 1) (pe_ix (ix_tupK (K := K)) (pv 2) pe_int (fun _ _ => rfl))))
    (pss_one (ps_if (PW.pt (pw_or (pt_cmpR op_gt (pv 1) pe_int (nomark _)) (pw_or1 (pt_cmpR op_lt (pv 1) (pe_un un_neg pe_int) (nomark _)))))
    (pss_one (ps_ret pe_bl))
    pss_nil)))
    pss_nil)))
    (pss_one (ps_ret pe_bl))))), ?_⟩
    walk_at "go"
    refine ⟨a, p, rfl, hp, hw, l1, by decide, ?_⟩
    walk_at "go"
    refine r_iteD (fun hz => ?_) (fun hz => ?_)
    · walk_at "go"
      have := k H (Same.refl _)
      rw [Prog.short, if_pos hz] at this
      exact this
    · walk_at "go"
      refine ⟨a, p, 1, rfl, .inl rfl, hp, hw, by omega, fun l xs H1 nl s1 hl hu => ?_⟩
      walk_at "go"
      have wu : Wf BC BC 0 (Prog.unroll 1 p) := Prog.wf_unroll (.inl rfl) hw
      refine u_forPrL hl hu (fun r σ H' => ∃ (n : Int) (y : Option V), σ = [some (.ref a), some (.int n), y] ∧ H' = H1 ∧ Wf BC BC 0 r ∧ Prog.wayOk n r = p.short) ?_ ?_ ?_ ?_
      · exact ⟨0, none, rfl, rfl, wu, by rw [Prog.short, if_neg hz]⟩
      · rintro r σ H' ⟨n, y, rfl, rfl, _⟩
        exact ⟨Tk.refl _, hl⟩
      · rintro x r r' σ H' hf ⟨n, y, rfl, rfl, wr, e⟩
        cases r with
        | nil => exact hf.elim
        | step w' n' r =>
          obtain ⟨c, rfl, h1, rfl⟩ := hf
          obtain ⟨w1, w2, w3⟩ := Wf.step_iff.mp wr
          obtain ⟨n1, n2, n3⟩ := word_ne w1
          walk_at "go"
          exact ⟨_, _, rfl, rfl, w3, by rw [← e, Prog.wayOk]⟩
        | turn k' r =>
          obtain ⟨c, rfl, h1, rfl⟩ := hf
          walk_at "go"
          rw [Prog.wayOk] at e
          refine r_iteD (fun hc => ?_) (fun hc => ?_)
          · walk_at "go"
            have := k H' s1
            rw [← e, if_pos (.inl hc)] at this
            exact this
          · walk_at "go"
            refine r_iteD (fun hd => ?_) (fun hd => ?_)
            · walk_at "go"
              have := k H' s1
              rw [← e, if_pos (.inr hd)] at this
              exact this
            · walk_at "go"
              rw [if_neg (by omega)] at e
              exact ⟨_, _, rfl, rfl, (Wf.turn_iff.mp wr).2, e⟩
        | rep k' b r => exact wr.elim
        | mir b r => exact wr.elim
      · rintro σ H' ⟨n, y, rfl, rfl, _, e⟩
        walk_at "go"
        rw [Prog.wayOk] at e
        have := k H' s1
        rw [← e] at this
        exact this
end
end My

set_option Elab.async false
set_option linter.all false
set_option maxRecDepth 100000
set_option maxHeartbeats 4000000

namespace My
open PySem PySem.Spec PyProof.Rows L2
section
variable {P : Program} {w : World} {K : PySem.W.Frag} {mg : Str → Option Value} {base : Heap}
local macro_rules | `(tactic| walk_at "isi") => `(tactic| (first
  | (with_reducible refine r_is_int_int ?_)
  | (with_reducible refine r_is_int_bool ?_)
  | (with_reducible refine r_is_int_str ?_)
  | (with_reducible refine r_is_int_list ?_)
  | (with_reducible refine r_is_int_tuple ?_)
  | (with_reducible refine r_is_bool_int ?_)
  | (with_reducible refine r_is_bool_bool ?_)
  | (with_reducible refine r_is_bool_str ?_)
  | (with_reducible refine r_is_bool_list ?_)
  | (with_reducible refine r_is_bool_tuple ?_)
  | (with_reducible refine r_is_str_int ?_)
  | (with_reducible refine r_is_str_bool ?_)
  | (with_reducible refine r_is_str_str ?_)
  | (with_reducible refine r_is_str_list ?_)
  | (with_reducible refine r_is_str_tuple ?_)
  | ((with_reducible refine r_is_list_int (xs := ?xx) ?hh ?_); (case hh => walk_at "hp"))
  | ((with_reducible refine r_is_list_bool (xs := ?xx) ?hh ?_); (case hh => walk_at "hp"))
  | ((with_reducible refine r_is_list_str (xs := ?xx) ?hh ?_); (case hh => walk_at "hp"))
  | ((with_reducible refine r_is_list_list (xs := ?xx) ?hh ?_); (case hh => walk_at "hp"))
  | ((with_reducible refine r_is_list_tuple (xs := ?xx) ?hh ?_); (case hh => walk_at "hp"))
  | ((with_reducible refine r_is_tuple_int (xs := ?xx) ?hh ?_); (case hh => walk_at "hp"))
  | ((with_reducible refine r_is_tuple_bool (xs := ?xx) ?hh ?_); (case hh => walk_at "hp"))
  | ((with_reducible refine r_is_tuple_str (xs := ?xx) ?hh ?_); (case hh => walk_at "hp"))
  | ((with_reducible refine r_is_tuple_list (xs := ?xx) ?hh ?_); (case hh => walk_at "hp"))
  | ((with_reducible refine r_is_tuple_tuple (xs := ?xx) ?hh ?_); (case hh => walk_at "hp"))
  | (with_reducible refine r_is_NoneType_int ?_)
  | (with_reducible refine r_is_NoneType_bool ?_)
  | (with_reducible refine r_is_NoneType_str ?_)
  | (with_reducible refine r_is_NoneType_list ?_)
  | (with_reducible refine r_is_NoneType_tuple ?_)))
local macro_rules | `(tactic| walk_at "ne") => `(tactic| first | assumption | (refine Ne.symm ?_; assumption) | exact Bag.ne (by assumption) (by assumption) | exact ne_of_none (by assumption) (by assumption))
local macro_rules | `(tactic| walk_at "hp") => `(tactic| (first
  | assumption
  | exact upd_same
  | (refine h_keep ?_ (by assumption); walk_at "hp")
  | (refine (upd_ne (by walk_at "ne")).trans ?_; walk_at "hp")
  | (refine Same.at (by assumption) ?_; walk_at "hp")
  | (refine But.at (by assumption) (by walk_at "ne") ?_; walk_at "hp")
  | (refine But2.at (by assumption) (by walk_at "ne") (by walk_at "ne") ?_; walk_at "hp")))
local macro_rules | `(tactic| walk_at "side") => `(tactic| first | assumption | omega | (refine ⟨?_, ?_⟩ <;> first | assumption | omega | decide) | decide | (refine ⟨by decide, by decide, by decide⟩) | (left; refine ⟨?_, ?_⟩ <;> first | omega | decide) | (right; refine ⟨?_, ?_⟩ <;> first | omega | decide) | (simp; done))
local macro_rules | `(tactic| walk_at "cond") => `(tactic| first | assumption | exact rfl | omega | (simp only [List.length_cons, List.length_nil]; omega) | decide +kernel)
local macro_rules | `(tactic| walk_at "s") => `(tactic| (first
  | ((with_reducible refine r_var (v := ?vv) ?ee ?_); (case ee => exact rfl))
  | (with_reducible refine r_c ?_)
  | (with_reducible refine r_op ?_)
  | (with_reducible refine r_un ?_)
  | (with_reducible refine r_rI0 ?_)
  | ((with_reducible refine r_rI ?cc ?_); (case cc => walk_at "side"))
  | (with_reducible refine r_rU ?_)
  | (with_reducible refine r_eqI ?_)
  | (with_reducible refine r_neI ?_)
  | (with_reducible refine r_eqB ?_)
  | (with_reducible refine r_neB ?_)
  | (with_reducible refine r_eqS ?_)
  | (with_reducible refine r_neS ?_)
  | ((with_reducible refine r_eq ?ee ?_); (case ee => exact rfl))
  | ((with_reducible refine r_ne ?ee ?_); (case ee => exact rfl))
  | ((with_reducible refine r_ixL (v := ?vv) (xs := ?xx) ?hh ?ee ?_); (case hh => (refine SqL.of ?_; walk_at "hp")); (case ee => exact rfl))
  | (with_reducible refine r_cb ?_)
  | (with_reducible refine r_call ?_)
  | (with_reducible refine r_cons ?_)
  | (with_reducible refine r_nil ?_)
  | (with_reducible refine r_lst ?_)
  | (with_reducible refine r_tup ?_)
  | ((with_reducible refine r_new ?cc ?_); (case cc => walk_at "side"))
  | (with_reducible refine r_exbl ?_)
  | (with_reducible refine r_exint ?_)
  | (with_reducible refine r_exint2 ?_)
  | (with_reducible refine r_exblL ?_)
  | (with_reducible refine r_ex2 ?_)
  | (with_reducible refine r_test ?_)
  | (with_reducible refine r_tB ?_)
  | (with_reducible refine r_not ?_)
  | (with_reducible refine r_and ?_)
  | (with_reducible refine r_or ?_)
  | (with_reducible refine r_andV ?_)
  | (with_reducible refine r_orV ?_)
  | (with_reducible refine r_notV ?_)
  | (with_reducible refine r_tif ?_)
  | (with_reducible refine r_iteT ?_)
  | (with_reducible refine r_iteNT ?_)
  | (with_reducible refine r_iteNF ?_)
  | (with_reducible refine r_iteF ?_)
  | (with_reducible refine r_seq ?_)
  | (with_reducible refine r_next ?_)
  | (with_reducible refine r_brk ?_)
  | (with_reducible refine r_cont ?_)
  | (with_reducible refine r_asg ?_)
  | (with_reducible refine r_gname ?_)
  | (with_reducible refine r_ret ?_)
  | (with_reducible refine r_retN ?_)
  | (with_reducible refine r_drop ?_)
  | (with_reducible refine r_if ?_)
  | ((with_reducible refine r_aug (x := ?xx) ?ee ?_); (case ee => exact rfl))
  | (with_reducible refine r_ipI ?_)
  | (with_reducible refine r_augS ?_)
  | (with_reducible refine r_gsub ?_)
  | ((with_reducible refine r_setL (xs := ?xx) (m := ?mm) ?hh ?ee ?_); (case hh => walk_at "hp"); (case ee => exact rfl))
  | (with_reducible refine r_par ?_)
  | (with_reducible refine r_bm ?_)
  | ((with_reducible refine r_tyL (xs := ?xx) ?hh ?_); (case hh => walk_at "hp"))
  | ((with_reducible refine r_append (xs := ?xx) ?hh ?ll ?_); (case hh => walk_at "hp"); (case ll => walk_at "side"))
  | (walk_at "isi")
  | (with_reducible refine r_for ?_)
  | (with_reducible refine r_iList ?_)
  | (with_reducible refine r_iTup ?_)
  | (with_reducible refine r_iR1 ?_)
  | (with_reducible refine r_iR2 ?_)
  | (with_reducible refine r_lc ?_)
  | (with_reducible refine r_yes ?_)
  | ((with_reducible refine r_lenS ?ll ?_); (case ll => walk_at "side"))
  | (with_reducible refine r_leS ?_)
  | (with_reducible refine r_chain ?_)
  | (with_reducible refine r_tM1 ?_)
  | (with_reducible refine r_exS ?_)
  | ((with_reducible refine r_tupL (xs := ?xx) ?hh ?_); (case hh => walk_at "hp"))
  | ((with_reducible refine r_listL (xs := ?xx) ?hh ?_); (case hh => walk_at "hp"))
  | ((with_reducible refine r_listT (xs := ?xx) ?hh ?_); (case hh => walk_at "hp"))
  | ((with_reducible refine r_ixT (v := ?vv) (xs := ?xx) ?hh ?ee ?_); (case hh => (refine SqT.of ?_; walk_at "hp")); (case ee => exact rfl))
  | (with_reducible refine r_sl ?_)
  | (with_reducible refine r_nopart ?_)
  | (with_reducible refine r_part ?_)
  | (with_reducible refine r_exI ?_)
  | ((with_reducible refine r_slL (xs := ?xx) ?hh ?_); (case hh => first | assumption | (refine SqL.of ?_; walk_at "hp") | (refine Same.seq (by assumption) (by assumption))))
  | ((with_reducible refine r_cat (xs := ?xx) (zs := ?zz) ?hh ?ii ?ll ?_); (case hh => walk_at "hp"); (case ii => walk_at "hp"); (case ll => walk_at "side"))
  | ((with_reducible refine r_lenL (xs := ?xx) ?hh ?_); (case hh => walk_at "hp"))
  | ((with_reducible refine r_lenT (xs := ?xx) ?hh ?_); (case hh => walk_at "hp"))
  | ((with_reducible refine r_gTup (xs := ?xx) ?hh ?ll ?_); (case hh => walk_at "hp"); (case ll => exact rfl))
  | (with_reducible refine r_gCons ?_)
  | (with_reducible refine r_gNil ?_)
  | ((with_reducible refine r_iteDT ?cc ?_); (case cc => walk_at "cond"))
  | ((with_reducible refine r_iteDF ?cc ?_); (case cc => walk_at "cond"))
  | ((with_reducible refine r_iteNDT ?cc ?_); (case cc => walk_at "cond"))
  | ((with_reducible refine r_iteNDF ?cc ?_); (case cc => walk_at "cond"))
  ))
local macro_rules | `(tactic| walk_at "go") => `(tactic| repeat (walk_at "s"))

local macro_rules | `(tactic| walk_at "s") => `(tactic| (first
  | (with_reducible refine r_callD ?_)
  | (with_reducible refine r_abs ?_)
  | (with_reducible refine r_isN ?_)
  | (with_reducible refine r_isNN ?_)
  ))
def spTells : Sp := fun vs H Q _ => ∃ a b : Bool, vs = [.bl a, .bl b] ∧ Q (.bl (decide (a = b))) H
theorem ok_l_tells {f : Addr} {fd : FuncData} (F : Fun K "_law_tells" "_law_tells" s_l_tells f fd) (B : Bl mg) : FnOk P w K mg base CX0 1 f fd ["_law_found", "_law_due"] spTells := by
  refine F.ok sc_l_tells (fun vs H Q E h => ?_) (fun cdv A outer s H vs Q E hr h => ?_)
  · obtain ⟨a, b, rfl, _⟩ := h
    rfl
  · obtain ⟨a, b, rfl, k⟩ := h
    refine ⟨_, (pss_one (ps_ret (pe_and (pe_callB (call_isiKK (K := K)) (by rfl) B.b_isinstance (by decide +kernel) (pa_cons (pv 0) (pa_cons (pe_bltn (v := .ty "bool") (by rfl) B.b_bool (by decide +kernel) rfl) pa_nil))) (pe_one (pe_cmpR op_eq (pv 0) (pv 1) (nomark _)))))), ?_⟩
    walk_at "go"
    exact k
def LotsOk (lo : V) : Prop := lo = .non ∨ ∃ n : Int, lo = .int n ∧ 1 ≤ n ∧ n ≤ BC
theorem hop_word : IsWord "hop" := .inr (.inr (.inl rfl))
theorem slip_word : IsWord "slip" := .inr (.inr (.inr rfl))
theorem name_a : IsName "a" := ⟨97, rfl, by decide, by decide⟩
theorem name_b : IsName "b" := ⟨98, rfl, by decide, by decide⟩
def spLayer : Sp := fun vs H Q _ => ∃ (a : Addr) (fr : Int), vs = [.ref a, .int fr] ∧ Bag H a ∧ ∀ t lo x y px py H', But a H H' → Bag H' a → Tk H H' → H' t = some (.tup [lo, .ref x, .ref y]) → LotsOk lo → PrIs H' x px → Wf BC BC 0 px → px.len ≤ 2 → PrIs H' y py → Wf BC BC 0 py → py.len ≤ 2 → Q (.ref t) H'
theorem ok_l_layer {f : Addr} {fd : FuncData} (F : Fun K "_law_layer" "_law_layer" s_l_layer f fd) (B : Bl mg) (h_l_pick : Has P w K mg base "_law_pick" 1 ["_law_bag", "_law_many"] spPick) (h_l_some_turn : Has P w K mg base "_law_some_turn" 3 ["_law_bag", "_law_wild"] spTurn)
   (h_l_some_lots : Has P w K mg base "_law_some_lots" 3 ["_law_bag", "_law_free", "_law_wild"] spLots) : FnOk P w K mg base CX0 4 f fd ["_law_bag", "_law_free"] spLayer := by
  refine F.ok sc_l_layer (fun vs H Q E h => ?_) (fun cdv A outer s H vs Q E hr h => ?_)
  · obtain ⟨a, fr, rfl, _⟩ := h
    rfl
  · obtain ⟨a, fr, rfl, ba, k⟩ := h
    have tb : TB true = BC := rfl
    have tf : TB false = 12 := rfl
    have bc : (1000 : Int) ≤ BC := by decide +kernel
    have hl1 : (Prog.step "slip" "b" .nil).len = 1 := rfl
    refine ⟨_, (pss_cons (ps_set (i := 2) sc_l_layer.nd rfl (.inl rfl) pe_non)
    (pss_cutM (ps_if (pt_cmpR op_gt (pe_callH h_l_pick (hr.mono (by first | decide | omega)) (pa_cons (pv 0) (pa_cons pe_int pa_nil))) pe_int (nomark _))
    (pss_one (ps_set (i := 2) sc_l_layer.nd rfl (.inl rfl) (pe_callH h_l_some_lots (hr.mono (by first | decide | omega)) (pa_cons (pv 0) (pa_cons (pv 1) (pa_cons pe_bl pa_nil))))))
    pss_nil)
    (pss_cons (ps_set (i := 3) sc_l_layer.nd rfl (.inl rfl) (pe_slice sl_tupA (pe_tup (pa_cons (pe_tup (pa_cons pe_str (pa_cons (pe_callH h_l_some_turn (hr.mono (by first | decide | omega)) (pa_cons (pv 0) (pa_cons pe_bl pa_nil))) pa_nil))) (pa_cons (pe_tup (pa_cons pe_str (pa_cons pe_str pa_nil))) pa_nil))) po_none (po_some (pe_callH h_l_pick (hr.mono (by first | decide | omega)) (pa_cons (pv 0) (pa_cons pe_int pa_nil))))))
    (pss_cons (ps_set (i := 4) sc_l_layer.nd rfl (.inl rfl) (pe_slice sl_tupA (pe_tup (pa_cons (pe_tup (pa_cons pe_str (pa_cons pe_str pa_nil))) (pa_cons (pe_tup (pa_cons pe_str (pa_cons (pe_callH h_l_some_turn (hr.mono (by first | decide | omega)) (pa_cons (pv 0) (pa_cons pe_bl pa_nil))) pa_nil))) pa_nil))) po_none (po_some (pe_callH h_l_pick (hr.mono (by first | decide | omega)) (pa_cons (pv 0) (pa_cons pe_int pa_nil))))))
    (pss_one (ps_ret (pe_tup (pa_cons (pv 2) (pa_cons (pv 3) (pa_cons (pv 4) pa_nil)))))))))), ?_⟩
    walk_at "go"
    refine r_cut (fun σ' H' => ∃ lo, σ' = [some (.ref a), some (.int fr), some lo, none, none] ∧ LotsOk lo ∧ But a H H' ∧ Bag H' a ∧ Tk H H') ?_ ?_
    · walk_at "go"
      refine u_pick ba (by omega) (by omega) fun r H1 _ _ bu1 b1 => ?_
      walk_at "go"
      refine r_iteD (fun h1 => ?_) (fun h1 => ?_)
      · walk_at "go"
        refine ⟨a, fr, true, rfl, b1, fun n H2 bu2 b2 lo1 lo2 => ?_⟩
        walk_at "go"
        exact ⟨_, rfl, .inr ⟨n, rfl, lo1, lo2⟩, bu1.trans bu2, b2, (Tk.but bu1 ba).trans (Tk.but bu2 b1)⟩
      · walk_at "go"
        exact ⟨.non, rfl, .inl rfl, bu1, b1, Tk.but bu1 ba⟩
    · rintro σ' H1 ⟨lo, rfl, hlo, bu1, b1, t1⟩
      walk_at "go"
      refine ⟨a, true, rfl, b1, fun n H2 bu2 b2 n0 n1 => ?_⟩
      rw [tb] at n0 n1
      walk_at "go"
      intro c1 f1
      walk_at "go"
      intro c2 f2
      walk_at "go"
      intro c3 f3
      walk_at "go"
      refine u_pick (((b2.keep f1).keep f2).keep f3) (by omega) (by omega) fun r H3 r0 r1 bu3 b3 => ?_
      have t3 : Tk (upd (upd (upd H2 c1 (.tup [.str "turn", .int n])) c2 (.tup [.str "hop", .str "a"])) c3 (.tup [.ref c1, .ref c2])) H3 := Tk.but bu3 (((b2.keep f1).keep f2).keep f3)
      have p3 : PrAt H3 (.turn n (.step "hop" "a" .nil)) [.ref c1, .ref c2] := ⟨c1, _, rfl, t3 _ _ (h_keep (h_keep upd_same f2) f3), c2, [], rfl, t3 _ _ (h_keep upd_same f3), rfl⟩
      have bu13 : But a H H3 := bu1.trans (((((bu2).new f1).new f2).new f3).trans bu3)
      have t13 : Tk H H3 := t1.trans ((Tk.but bu2 b1).trans ((((Tk.refl _).new f1).new f2).new f3 |>.trans t3))
      walk_at "go"
      refine r_slAT (t3 _ _ upd_same) (n := r.toNat) (by omega) fun d1 H4 s4 hd1 => ?_
      have b4 := b3.same s4
      have px := p3.take (n := r.toNat)
      have wx : Wf BC BC 0 ((Prog.turn n (.step "hop" "a" .nil)).take r.toNat) := Prog.wf_take (Wf.turn_iff.mpr ⟨⟨n0, n1⟩, Wf.step_iff.mpr ⟨hop_word, name_a, Wf.nil⟩⟩)
      have lx : ((Prog.turn n (.step "hop" "a" .nil)).take r.toNat).len ≤ 2 := by rw [Prog.len_take]; omega
      generalize (Prog.turn n (.step "hop" "a" .nil)).take r.toNat = px' at *
      walk_at "go"
      intro c4 f4
      walk_at "go"
      refine ⟨a, false, rfl, b4.keep f4, fun m H5 bu5 b5 m0 m1 => ?_⟩
      rw [tf] at m0 m1
      walk_at "go"
      intro c5 f5
      walk_at "go"
      intro c6 f6
      walk_at "go"
      refine u_pick ((b5.keep f5).keep f6) (by omega) (by omega) fun r2 H6 u0 u1 bu6 b6 => ?_
      have t5 : Tk (upd H4 c4 (.tup [.str "slip", .str "b"])) H5 := Tk.but bu5 (b4.keep f4)
      have t6 : Tk (upd (upd H5 c5 (.tup [.str "turn", .int m])) c6 (.tup [.ref c4, .ref c5])) H6 := Tk.but bu6 ((b5.keep f5).keep f6)
      have p6 : PrAt H6 (.step "slip" "b" (.turn m .nil)) [.ref c4, .ref c5] := ⟨c4, _, rfl, t6 _ _ (h_keep (h_keep (t5 _ _ upd_same) f5) f6), c5, [], rfl, t6 _ _ (h_keep upd_same f6), rfl⟩
      have bu46 : But a H4 H6 := ((((((But.refl a H4).new f4).trans bu5).new f5).new f6).trans bu6)
      have t46 : Tk H4 H6 := ((Tk.refl H4).new f4).trans (t5.trans (((Tk.refl H5).new f5).new f6 |>.trans t6))
      walk_at "go"
      refine r_slAT (t6 _ _ upd_same) (n := r2.toNat) (by omega) fun d2 H7 s7 hd2 => ?_
      have py := p6.take (n := r2.toNat)
      have wy : Wf BC BC 0 ((Prog.step "slip" "b" (.turn m .nil)).take r2.toNat) := Prog.wf_take (Wf.step_iff.mpr ⟨slip_word, name_b, Wf.turn_iff.mpr ⟨⟨by omega, by omega⟩, Wf.nil⟩⟩)
      have ly : ((Prog.step "slip" "b" (.turn m .nil)).take r2.toNat).len ≤ 2 := by rw [Prog.len_take]; omega
      generalize (Prog.step "slip" "b" (.turn m .nil)).take r2.toNat = py' at *
      walk_at "go"
      intro t nt
      have tE : Tk H7 (upd H7 t (.tup [lo, .ref d1, .ref d2])) := (Tk.refl _).new nt
      have tD : Tk H4 (upd H7 t (.tup [lo, .ref d1, .ref d2])) := t46.trans ((Tk.same s7).trans tE)
      exact k t lo d1 d2 px' py' _ (((bu13.trans (Same.but s4 a)).trans bu46).trans (Same.but s7 a) |>.new nt) ((b6.same s7).keep nt) (t13.trans ((Tk.same s4).trans tD)) upd_same hlo ⟨_, tD _ _ hd1, px.tk ((Tk.same s4).trans tD)⟩ wx lx ⟨_, tE _ _ hd2, py.tk ((Tk.same s7).trans tE)⟩ wy ly
def spSides : Sp := fun vs H Q _ => ∃ q p, vs = [.ref q] ∧ PrIs H q p ∧ Wf BC BC 0 p ∧ p.len ≤ 100 ∧ ∀ H', Same H H' → Q (.int p.head) H'
theorem ok_l_sides {f : Addr} {fd : FuncData} (F : Fun K "_law_sides" "_law_sides" s_l_sides f fd) (B : Bl mg) : FnOk P w K mg base CX0 1 f fd ["_law_row"] spSides := by
  refine F.ok sc_l_sides (fun vs H Q E h => ?_) (fun cdv A outer s H vs Q E hr h => ?_)
  · obtain ⟨q, p, rfl, _⟩ := h
    rfl
  · obtain ⟨q, p, rfl, ⟨xs, hx, hp⟩, hw, hl, k⟩ := h
    refine ⟨_, (pss_one (ps_ret (pe_callB (call_sumK (K := K)) (by rfl) B.b_sum (by decide +kernel) (pa_cons (pe_lc (own := [("_law_part", 1)]) rfl sc_l_sides.nd (pi_tup (pv 0)) (blkOk_by (N := ["_law_row", "_law_part"]) (sc := defScope s_l_sides) (by decide +kernel)) (fun _ _ _ _ _ => (pg_name (i := 1) sc_l_sides.nd rfl (.inl rfl))) (fun _ _ _ _ _ => pts_one (pt_cmpR op_eq (pe_ix (ix_tupK (K := K)) (pv 1) pe_int (fun _ _ => rfl)) pe_str (nomark _))) (fun _ _ _ _ _ => (pe_ix (ix_tupK (K := K)) (pv 1) pe_int (fun _ _ => rfl)))) pa_nil)))), ?_⟩
    walk_at "go"
    refine u_lcPr hx hp (fun D r acc H' => (∃ ts : List Int, acc = ts.map V.int ∧ ts ++ r.turns = p.turns ∧ ts.length + r.len ≤ 100) ∧ Same H H' ∧ Wf BC BC 0 r) ?_ ?_ ?_ ?_
    · exact fun D hD => ⟨⟨[], rfl, rfl, by simp; omega⟩, Same.new0 hD, hw⟩
    · rintro D r acc H' hD ⟨_, sm', _⟩
      exact Tk.same sm'
    · rintro D x r r' acc H' hD hf hacc ⟨⟨ts, rfl, et, tl⟩, sm', wr⟩
      cases r with
      | nil => exact hf.elim
      | step w' n r =>
        obtain ⟨c, rfl, hc1, rfl⟩ := hf
        obtain ⟨g1, g2, g3⟩ := Wf.step_iff.mp wr
        obtain ⟨n1, n2, n3⟩ := word_ne g1
        walk_at "go"
        refine ⟨rfl, ?_⟩
        walk_at "go"
        rw [Prog.len] at tl
        exact u_skip hacc ⟨⟨ts, rfl, et, by omega⟩, sm', g3⟩
      | turn k' r =>
        obtain ⟨c, rfl, hc1, rfl⟩ := hf
        walk_at "go"
        refine ⟨rfl, ?_⟩
        walk_at "go"
        rw [Prog.len] at tl
        refine u_push hacc (by rw [List.length_map]; omega) ⟨⟨ts ++ [k'], by rw [List.map_append]; rfl, by rw [← et, Prog.turns, List.append_assoc]; rfl, by rw [List.length_append, List.length_singleton]; omega⟩, Same.put sm' hD, (Wf.turn_iff.mp wr).2⟩
      | rep k' b' r => exact wr.elim
      | mir b' r => exact wr.elim
    · rintro D acc H14 hD hacc ⟨⟨ts, rfl, et, tl⟩, s14, _⟩
      rw [Prog.turns, List.append_nil] at et
      have hsum : ts.sum = p.head := by
        rw [et, Prog.head_flat hw]
      walk_at "go"
      refine r_sum (SqL.of hacc) ?_
      rw [hsum]
      exact k _ s14
end
end My

set_option Elab.async false
set_option linter.all false
set_option maxRecDepth 100000
set_option maxHeartbeats 4000000

namespace My
open PySem PySem.Spec PyProof.Rows L2
section
variable {P : Program} {w : World} {K : PySem.W.Frag} {mg : Str → Option Value} {base : Heap}
local macro_rules | `(tactic| walk_at "isi") => `(tactic| (first
  | (with_reducible refine r_is_int_int ?_)
  | (with_reducible refine r_is_int_bool ?_)
  | (with_reducible refine r_is_int_str ?_)
  | (with_reducible refine r_is_int_list ?_)
  | (with_reducible refine r_is_int_tuple ?_)
  | (with_reducible refine r_is_bool_int ?_)
  | (with_reducible refine r_is_bool_bool ?_)
  | (with_reducible refine r_is_bool_str ?_)
  | (with_reducible refine r_is_bool_list ?_)
  | (with_reducible refine r_is_bool_tuple ?_)
  | (with_reducible refine r_is_str_int ?_)
  | (with_reducible refine r_is_str_bool ?_)
  | (with_reducible refine r_is_str_str ?_)
  | (with_reducible refine r_is_str_list ?_)
  | (with_reducible refine r_is_str_tuple ?_)
  | ((with_reducible refine r_is_list_int (xs := ?xx) ?hh ?_); (case hh => walk_at "hp"))
  | ((with_reducible refine r_is_list_bool (xs := ?xx) ?hh ?_); (case hh => walk_at "hp"))
  | ((with_reducible refine r_is_list_str (xs := ?xx) ?hh ?_); (case hh => walk_at "hp"))
  | ((with_reducible refine r_is_list_list (xs := ?xx) ?hh ?_); (case hh => walk_at "hp"))
  | ((with_reducible refine r_is_list_tuple (xs := ?xx) ?hh ?_); (case hh => walk_at "hp"))
  | ((with_reducible refine r_is_tuple_int (xs := ?xx) ?hh ?_); (case hh => walk_at "hp"))
  | ((with_reducible refine r_is_tuple_bool (xs := ?xx) ?hh ?_); (case hh => walk_at "hp"))
  | ((with_reducible refine r_is_tuple_str (xs := ?xx) ?hh ?_); (case hh => walk_at "hp"))
  | ((with_reducible refine r_is_tuple_list (xs := ?xx) ?hh ?_); (case hh => walk_at "hp"))
  | ((with_reducible refine r_is_tuple_tuple (xs := ?xx) ?hh ?_); (case hh => walk_at "hp"))
  | (with_reducible refine r_is_NoneType_int ?_)
  | (with_reducible refine r_is_NoneType_bool ?_)
  | (with_reducible refine r_is_NoneType_str ?_)
  | (with_reducible refine r_is_NoneType_list ?_)
  | (with_reducible refine r_is_NoneType_tuple ?_)))
local macro_rules | `(tactic| walk_at "ne") => `(tactic| first | assumption | (refine Ne.symm ?_; assumption) | exact Bag.ne (by assumption) (by assumption) | exact ne_of_none (by assumption) (by assumption))
local macro_rules | `(tactic| walk_at "hp") => `(tactic| (first
  | assumption
  | exact upd_same
  | (refine h_keep ?_ (by assumption); walk_at "hp")
  | (refine (upd_ne (by walk_at "ne")).trans ?_; walk_at "hp")
  | (refine Same.at (by assumption) ?_; walk_at "hp")
  | (refine But.at (by assumption) (by walk_at "ne") ?_; walk_at "hp")
  | (refine But2.at (by assumption) (by walk_at "ne") (by walk_at "ne") ?_; walk_at "hp")))
local macro_rules | `(tactic| walk_at "side") => `(tactic| first | assumption | omega | (refine ⟨?_, ?_⟩ <;> first | assumption | omega | decide) | decide | (refine ⟨by decide, by decide, by decide⟩) | (left; refine ⟨?_, ?_⟩ <;> first | omega | decide) | (right; refine ⟨?_, ?_⟩ <;> first | omega | decide) | (simp; done))
local macro_rules | `(tactic| walk_at "cond") => `(tactic| first | assumption | exact rfl | omega | (simp only [List.length_cons, List.length_nil]; omega) | decide +kernel)
local macro_rules | `(tactic| walk_at "s") => `(tactic| (first
  | ((with_reducible refine r_var (v := ?vv) ?ee ?_); (case ee => exact rfl))
  | (with_reducible refine r_c ?_)
  | (with_reducible refine r_op ?_)
  | (with_reducible refine r_un ?_)
  | (with_reducible refine r_rI0 ?_)
  | ((with_reducible refine r_rI ?cc ?_); (case cc => walk_at "side"))
  | (with_reducible refine r_rU ?_)
  | (with_reducible refine r_eqI ?_)
  | (with_reducible refine r_neI ?_)
  | (with_reducible refine r_eqB ?_)
  | (with_reducible refine r_neB ?_)
  | (with_reducible refine r_eqS ?_)
  | (with_reducible refine r_neS ?_)
  | ((with_reducible refine r_eq ?ee ?_); (case ee => exact rfl))
  | ((with_reducible refine r_ne ?ee ?_); (case ee => exact rfl))
  | ((with_reducible refine r_ixL (v := ?vv) (xs := ?xx) ?hh ?ee ?_); (case hh => (refine SqL.of ?_; walk_at "hp")); (case ee => exact rfl))
  | (with_reducible refine r_cb ?_)
  | (with_reducible refine r_call ?_)
  | (with_reducible refine r_cons ?_)
  | (with_reducible refine r_nil ?_)
  | (with_reducible refine r_lst ?_)
  | (with_reducible refine r_tup ?_)
  | ((with_reducible refine r_new ?cc ?_); (case cc => walk_at "side"))
  | (with_reducible refine r_exbl ?_)
  | (with_reducible refine r_exint ?_)
  | (with_reducible refine r_exint2 ?_)
  | (with_reducible refine r_exblL ?_)
  | (with_reducible refine r_ex2 ?_)
  | (with_reducible refine r_test ?_)
  | (with_reducible refine r_tB ?_)
  | (with_reducible refine r_not ?_)
  | (with_reducible refine r_and ?_)
  | (with_reducible refine r_or ?_)
  | (with_reducible refine r_andV ?_)
  | (with_reducible refine r_orV ?_)
  | (with_reducible refine r_notV ?_)
  | (with_reducible refine r_tif ?_)
  | (with_reducible refine r_iteT ?_)
  | (with_reducible refine r_iteNT ?_)
  | (with_reducible refine r_iteNF ?_)
  | (with_reducible refine r_iteF ?_)
  | (with_reducible refine r_seq ?_)
  | (with_reducible refine r_next ?_)
  | (with_reducible refine r_brk ?_)
  | (with_reducible refine r_cont ?_)
  | (with_reducible refine r_asg ?_)
  | (with_reducible refine r_gname ?_)
  | (with_reducible refine r_ret ?_)
  | (with_reducible refine r_retN ?_)
  | (with_reducible refine r_drop ?_)
  | (with_reducible refine r_if ?_)
  | ((with_reducible refine r_aug (x := ?xx) ?ee ?_); (case ee => exact rfl))
  | (with_reducible refine r_ipI ?_)
  | (with_reducible refine r_augS ?_)
  | (with_reducible refine r_gsub ?_)
  | ((with_reducible refine r_setL (xs := ?xx) (m := ?mm) ?hh ?ee ?_); (case hh => walk_at "hp"); (case ee => exact rfl))
  | (with_reducible refine r_par ?_)
  | (with_reducible refine r_bm ?_)
  | ((with_reducible refine r_tyL (xs := ?xx) ?hh ?_); (case hh => walk_at "hp"))
  | ((with_reducible refine r_append (xs := ?xx) ?hh ?ll ?_); (case hh => walk_at "hp"); (case ll => walk_at "side"))
  | (walk_at "isi")
  | (with_reducible refine r_for ?_)
  | (with_reducible refine r_iList ?_)
  | (with_reducible refine r_iTup ?_)
  | (with_reducible refine r_iR1 ?_)
  | (with_reducible refine r_iR2 ?_)
  | (with_reducible refine r_lc ?_)
  | (with_reducible refine r_yes ?_)
  | ((with_reducible refine r_lenS ?ll ?_); (case ll => walk_at "side"))
  | (with_reducible refine r_leS ?_)
  | (with_reducible refine r_chain ?_)
  | (with_reducible refine r_tM1 ?_)
  | (with_reducible refine r_exS ?_)
  | ((with_reducible refine r_tupL (xs := ?xx) ?hh ?_); (case hh => walk_at "hp"))
  | ((with_reducible refine r_listL (xs := ?xx) ?hh ?_); (case hh => walk_at "hp"))
  | ((with_reducible refine r_listT (xs := ?xx) ?hh ?_); (case hh => walk_at "hp"))
  | ((with_reducible refine r_ixT (v := ?vv) (xs := ?xx) ?hh ?ee ?_); (case hh => (refine SqT.of ?_; walk_at "hp")); (case ee => exact rfl))
  | (with_reducible refine r_sl ?_)
  | (with_reducible refine r_nopart ?_)
  | (with_reducible refine r_part ?_)
  | (with_reducible refine r_exI ?_)
  | ((with_reducible refine r_slL (xs := ?xx) ?hh ?_); (case hh => first | assumption | (refine SqL.of ?_; walk_at "hp") | (refine Same.seq (by assumption) (by assumption))))
  | ((with_reducible refine r_cat (xs := ?xx) (zs := ?zz) ?hh ?ii ?ll ?_); (case hh => walk_at "hp"); (case ii => walk_at "hp"); (case ll => walk_at "side"))
  | ((with_reducible refine r_lenL (xs := ?xx) ?hh ?_); (case hh => walk_at "hp"))
  | ((with_reducible refine r_lenT (xs := ?xx) ?hh ?_); (case hh => walk_at "hp"))
  | ((with_reducible refine r_gTup (xs := ?xx) ?hh ?ll ?_); (case hh => walk_at "hp"); (case ll => exact rfl))
  | (with_reducible refine r_gCons ?_)
  | (with_reducible refine r_gNil ?_)
  | ((with_reducible refine r_iteDT ?cc ?_); (case cc => walk_at "cond"))
  | ((with_reducible refine r_iteDF ?cc ?_); (case cc => walk_at "cond"))
  | ((with_reducible refine r_iteNDT ?cc ?_); (case cc => walk_at "cond"))
  | ((with_reducible refine r_iteNDF ?cc ?_); (case cc => walk_at "cond"))
  ))
local macro_rules | `(tactic| walk_at "go") => `(tactic| repeat (walk_at "s"))

local macro_rules | `(tactic| walk_at "s") => `(tactic| (first
  | (with_reducible refine r_isN ?_)
  | (with_reducible refine r_isNN ?_)
  | ((with_reducible refine r_addS ?cc ?_); (case cc => decide))
  ))
theorem names_ab : Names (("abab" : Str) ++ ("ab" : Str)) := ⟨by decide, by decide⟩
theorem ok_law {f : Addr} {fd : FuncData} (F : Fun K "law" "law" s_law f fd) (B : Bl mg) (h_l_bag_of : Has P w K mg base "_law_bag_of" 1 ["_law_cell"] spBagOf) (h_l_pick : Has P w K mg base "_law_pick" 1 ["_law_bag", "_law_many"] spPick) (h_l_tells : Has P w K mg base "_law_tells" 1 ["_law_found", "_law_due"] spTells)
   (h_l_tame : Has P w K mg base "_law_tame" 14 ["_law_bag", "_law_names"] spTame) (h_l_is_short : Has P w K mg base "_law_is_short" 14 ["_law_piece_here"] spShort)
   (h_l_unroll : Has P w K mg base "_law_unroll" 13 ["_law_piece_here", "_law_sign"] (spUnLt 13)) (h_l_aim : Has P w K mg base "_law_aim" 13 ["_law_piece_here"] (spNumLt Prog.head 13))
   (h_l_layer : Has P w K mg base "_law_layer" 4 ["_law_bag", "_law_free"] spLayer) (h_l_sides : Has P w K mg base "_law_sides" 1 ["_law_row"] spSides)
   (h_is_short : Has P w K mg base "is_short" 29 ["program"] spIsShort) (h_size : Has P w K mg base "size" 29 ["program"] (spNum Prog.size)) (h_heading : Has P w K mg base "heading" 29 ["program"] (spNum Prog.head)) : FnOk P w K mg base CX0 30 f fd ["_law_script"] (spLaw K) := by
  refine F.ok sc_law (fun vs H Q E h => ?_) (fun cdv A outer s H vs Q E hr h => ?_)
  · obtain ⟨a, ns, rfl, _⟩ := h
    rfl
  · obtain ⟨a, ns, rfl, hS, hlen, k⟩ := h
    have bc : (1000 : Int) ≤ BC := by decide +kernel
    refine ⟨_, (pss_cons (ps_set (i := 1) sc_law.nd rfl (.inl rfl) pe_int)
    (pss_cons (ps_for PassesOwn.never rfl (pi_list (pe_op op_cat (pe_lst (pa_cons (pv 1) pa_nil)) (pe_slice sl_list (pv 0) po_none (po_some pe_int)))) (pg_name (i := 2) sc_law.nd rfl (.inl rfl))
    (pss_cons (ps_set (i := 3) sc_law.nd rfl (.inl rfl) (pe_callH h_l_bag_of (hr.mono (by first | decide | omega)) (pa_cons (pv 2) pa_nil)))
    (pss_cons (ps_set (i := 4) sc_law.nd rfl (.inl rfl) (pe_callTy call_tupL (by rfl) B.b_tuple (by decide +kernel) (pa_cons (pe_slice sl_list (pe_callH h_l_unroll (hr.mono (by first | decide | omega)) (pa_cons (pe_callH h_l_tame (hr.mono (by first | decide | omega)) (pa_cons (pv 3) (pa_cons (pe_op op_addS pe_str pe_str) pa_nil))) (pa_cons pe_int pa_nil))) po_none (po_some pe_int)) pa_nil)))
    (pss_cons (ps_set (i := 5) sc_law.nd rfl (.inl rfl) pe_int)
    (pss_cons (ps_for PassesOwn.never rfl (pi_range1 (by rfl) B.b_range (pa_cons (pe_op op_add pe_int (pe_callH h_l_pick (hr.mono (by first | decide | omega)) (pa_cons (pv 3) (pa_cons pe_int pa_nil)))) pa_nil)) (pg_name (i := 6) sc_law.nd rfl (.inl rfl))
    (pss_cons (ps_asg (pe_callH h_l_layer (hr.mono (by first | decide | omega)) (pa_cons (pv 3) (pa_cons (pv 5) pa_nil))) (pg_tup (by rfl) (pgs_cons (pg_name (i := 7) sc_law.nd rfl (.inl rfl)) (pgs_cons (pg_name (i := 8) sc_law.nd rfl (.inl rfl)) (pgs_cons (pg_name (i := 9) sc_law.nd rfl (.inl rfl)) pgs_nil)))))
    (pss_cons (ps_set (i := 10) sc_law.nd rfl (.inl rfl) (pe_callH h_size (hr.mono (by first | decide | omega)) (pa_cons (pv 4) pa_nil)))
    (pss_cons (ps_set (i := 11) sc_law.nd rfl (.inl rfl) (pe_callH h_heading (hr.mono (by first | decide | omega)) (pa_cons (pv 4) pa_nil)))
    (pss_cons (ps_if (pt_cmpR op_isNN (pv 7) pe_non (nomark _))
    (pss_cons (ps_set (i := 4) sc_law.nd rfl (.inl rfl) (pe_op op_catA (pe_op op_catA (pv 8) (pe_tup (pa_cons (pe_tup (pa_cons pe_str (pa_cons (pv 4) pa_nil))) pa_nil))) (pv 9)))
    (pss_one (ps_set (i := 11) sc_law.nd rfl (.inl rfl) (pe_un un_neg (pv 11)))))
    (pss_cons (ps_set (i := 5) sc_law.nd rfl (.inl rfl) (pe_op op_sub (pv 5) (pe_callTy call_intB (by rfl) B.b_int (by decide +kernel) (pa_cons (pe_cmpR op_gt (pv 7) pe_int (nomark _)) pa_nil))))
    (pss_cons (ps_set (i := 4) sc_law.nd rfl (.inl rfl) (pe_op op_catA (pe_op op_catA (pv 8) (pe_tup (pa_cons (pe_tup (pa_cons pe_str (pa_cons (pv 7) (pa_cons (pv 4) pa_nil)))) pa_nil))) (pv 9)))
    (pss_cons (ps_set (i := 11) sc_law.nd rfl (.inl rfl) (pe_op op_mulW (pv 7) (pv 11)))
    (pss_one (ps_set (i := 10) sc_law.nd rfl (.inl rfl) (pe_op op_mulW (pv 7) (pv 10))))))))
    (pss_cons (ps_if (pt_cmpR op_ne (pe_callH h_size (hr.mono (by first | decide | omega)) (pa_cons (pv 4) pa_nil)) (pe_op op_add (pe_op op_add (pv 10) (pe_callB (call_lenK (K := K)) (by rfl) B.b_len PySem.boot_len (pa_cons (pv 8) pa_nil))) (pe_callB (call_lenK (K := K)) (by rfl) B.b_len PySem.boot_len (pa_cons (pv 9) pa_nil))) (nomark _))
    (pss_one (ps_ret pe_bl))
    pss_nil)
    (pss_cons (ps_if (PW.pt (pw_or (pt_cmpR op_ne (pe_callH h_heading (hr.mono (by first | decide | omega)) (pa_cons (pv 4) pa_nil)) (pe_op op_add (pv 11) (pe_callH h_l_sides (hr.mono (by first | decide | omega)) (pa_cons (pe_op op_catA (pv 8) (pv 9)) pa_nil))) (nomark _)) (pw_or1 (pt_cmpR op_ne (pe_callH h_heading (hr.mono (by first | decide | omega)) (pa_cons (pv 4) pa_nil)) (pe_callH h_l_aim (hr.mono (by first | decide | omega)) (pa_cons (pv 4) pa_nil)) (nomark _)))))
    (pss_one (ps_ret pe_bl))
    pss_nil)
    (pss_one (ps_if (pt_not (pt_val (pe_callH h_l_tells (hr.mono (by first | decide | omega)) (pa_cons (pe_callH h_is_short (hr.mono (by first | decide | omega)) (pa_cons (pv 4) pa_nil)) (pa_cons (pe_callH h_l_is_short (hr.mono (by first | decide | omega)) (pa_cons (pv 4) pa_nil)) pa_nil)))))
    (pss_one (ps_ret pe_bl))
    pss_nil)))))))))
    (pss_cutM (ps_if (PW.pt (pw_and (pt_cmpR op_lt (pv 6) pe_int (nomark _)) (pw_and1 (pt_cmpR op_ne (pe_callH h_heading (hr.mono (by first | decide | omega)) (pa_cons (pe_tup (pa_cons (pe_tup (pa_cons pe_str (pa_cons (pe_tup (pa_cons (pe_tup (pa_cons pe_str (pa_cons (pv 4) pa_nil))) pa_nil)) pa_nil))) pa_nil)) pa_nil)) (pe_callH h_l_aim (hr.mono (by first | decide | omega)) (pa_cons (pv 4) pa_nil)) (nomark _)))))
    (pss_one (ps_ret pe_bl))
    pss_nil)
    (pss_one (ps_if (PW.pt (pw_and (pt_cmpR op_lt (pv 6) pe_int (nomark _)) (pw_and1 (pt_cmpR op_ne (pe_callH h_heading (hr.mono (by first | decide | omega)) (pa_cons (pe_tup (pa_cons (pe_tup (pa_cons pe_str (pa_cons (pv 4) pa_nil))) pa_nil)) pa_nil)) (pe_un un_neg (pe_callH h_l_aim (hr.mono (by first | decide | omega)) (pa_cons (pv 4) pa_nil))) (nomark _)))))
    (pss_one (ps_ret pe_bl))
    pss_nil))))))))
    (pss_one (ps_ret pe_bl)))), ?_⟩
    walk_at "go"
    intro g ng
    walk_at "go"
    refine r_slL ((Same.new0 ng).seq hS) ?_
    intro c nc
    refine r_cat (xs := [.int _]) (zs := cutV (ns.map V.int) none (some 6)) (by walk_at "hp") upd_same ?_ ?_
    · have := cut_len (xs := ns.map V.int) none (some 6)
      rw [List.length_map] at this
      simp
      omega
    intro l nl
    have sl : ∀ H', Same (upd (upd (upd H g (HO.lst [V.int 678702189024564772770123866802741160551516329263973543495755490309392787362948410899606834034145])) c (.lst (cutV (ns.map V.int) none (some 6)))) l (.lst ([V.int 678702189024564772770123866802741160551516329263973543495755490309392787362948410899606834034145] ++ cutV (ns.map V.int) none (some 6)))) H' → H' l = some (.lst ([V.int 678702189024564772770123866802741160551516329263973543495755490309392787362948410899606834034145] ++ cutV (ns.map V.int) none (some 6))) := fun H' sm => sm _ _ upd_same
    generalize upd (upd (upd H g _) c _) l _ = H0 at *
    refine u_forL (SqL.of (sl H0 (Same.refl _))) (fun i σ H' => ∃ y0 y1 y2 y3 y4 y5 y6 y7 y8 y9 y10 y11 : Option V, σ = [y0, y1, y2, y3, y4, y5, y6, y7, y8, y9, y10, y11] ∧ Same H0 H') ⟨_, _, _, _, _, _, _, _, _, _, _, _, rfl, Same.refl _⟩ ?_ ?_ ?_
    · rintro i σ H' _ ⟨y0, y1, y2, y3, y4, y5, y6, y7, y8, y9, y10, y11, rfl, sm⟩
      exact SqL.of (sl H' sm)
    · rintro i x σ H' hx ⟨y0, y1, y2, y3, y4, y5, y6, y7, y8, y9, y10, y11, rfl, sm⟩
      obtain ⟨cell, rfl⟩ := cells_int hx
      walk_at "go"
      refine ⟨cell, rfl, fun b H1 nb s1 b1 => ?_⟩
      walk_at "go"
      have hz := names_ab
      generalize (("abab" : Str) ++ ("ab" : Str)) = z at *
      refine ⟨b, z, rfl, b1, hz, fun q1 p1 H2 bu2 b2 t2 h1 w1 l1 m1 z1 => ?_⟩
      have w12 : Wf BC BC 12 p1 := Wf.mono (by omega) (by omega) (by decide) w1
      walk_at "go"
      refine ⟨q1, p1, 1, rfl, .inl rfl, h1, w12, by omega, fun v ys H3 nv s3 hv hy => ?_⟩
      have wu : Wf BC BC 0 (Prog.unroll 1 p1) := Prog.wf_unroll (.inl rfl) w12
      have lu := Prog.len_unroll 1 w12
      have ls := Prog.len_le_size w12
      walk_at "go"
      intro v2 nv2
      walk_at "go"
      intro v3 nv3
      have t3 : Tk H3 (upd (upd H3 v2 (.lst (cutV ys none (some 20)))) v3 (.tup (cutV ys none (some 20)))) := ((Tk.refl _).new nv2).new nv3
      have hq : PrIs (upd (upd H3 v2 (.lst (cutV ys none (some 20)))) v3 (.tup (cutV ys none (some 20)))) v3 ((Prog.unroll 1 p1).take 20) := ⟨_, upd_same, by
        have h := (hy.tk t3).take (n := 20)
        rw [← cut_take ys 20] at h
        exact h⟩
      have wq : Wf BC BC 0 ((Prog.unroll 1 p1).take 20) := Prog.wf_take wu
      have lq := Prog.len_take 20 (Prog.unroll 1 p1)
      have sq : Same H' (upd (upd H3 v2 (.lst (cutV ys none (some 20)))) v3 (.tup (cutV ys none (some 20)))) := Same.new (Same.new ((Same.but2 s1 nb bu2).trans s3) nv2) nv3
      have bq : Bag (upd (upd H3 v2 (.lst (cutV ys none (some 20)))) v3 (.tup (cutV ys none (some 20)))) b := ((b2.same s3).keep nv2).keep nv3
      generalize upd (upd H3 v2 (.lst (cutV ys none (some 20)))) v3 (.tup (cutV ys none (some 20))) = H4 at *
      have lq1 : 1 ≤ ((Prog.unroll 1 p1).take 20).len := by omega
      have lq2 : ((Prog.unroll 1 p1).take 20).len ≤ 20 := by omega
      generalize (Prog.unroll 1 p1).take 20 = p0 at *
      walk_at "go"
      refine u_pick bq (by omega) (by omega) fun r H5 r0 r1 bu5 b5 => ?_
      have s5 : Same H' H5 := Same.but2 sq nb bu5
      have hq5 := hq.tk (Tk.but bu5 bq)
      walk_at "go"
      refine u_for1 ?_ (fun i σ Hc => ∃ (q : Addr) (p : Prog) (fr : Int) (y6 y7 y8 y9 y10 y11 : Option V), σ = [y0, y1, some (.int cell), some (.ref b), some (.ref q), some (.int fr), y6, y7, y8, y9, y10, y11] ∧ (i = 0 ∨ y6 = some (.int ((i : Int) - 1))) ∧ Same H' Hc ∧ Bag Hc b ∧ PrIs Hc q p ∧ Wf BC BC i p ∧ 1 ≤ p.len ∧ p.len ≤ 20) ?_ ?_ ?_
      · omega
      · exact ⟨_, _, _, _, _, _, _, _, _, rfl, .inl rfl, s5, b5, hq5, wq, lq1, lq2⟩
      · rintro i σ Hc hi ⟨q, p, fr, y6, y7, y8, y9, y10, y11, rfl, _, sC, bC, hp, wp, l1', l2'⟩
        walk_at "go"
        refine ⟨b, fr, rfl, bC, fun t lo x y px py HA bu2 bA t2 ht hlo hx wx lx hy wy ly => ?_⟩
        have hpA := hp.tk t2
        have wp12 : Wf BC BC 12 p := Wf.mono (Int.le_refl _) (Int.le_refl _) (by omega) wp
        walk_at "go"
        refine ⟨q, p, rfl, ⟨hpA, wp12, l1', by omega⟩, fun HB s2 => ?_⟩
        walk_at "go"
        refine ⟨q, p, rfl, ⟨hpA.tk (Tk.same s2), wp12, l1', by omega⟩, fun H6 s4 => ?_⟩
        obtain ⟨xs, hxs, hpx0⟩ := hx
        obtain ⟨ys, hys, hpy0⟩ := hy
        have hxs' : H6 x = some (.tup xs) := s4 _ _ (s2 _ _ hxs)
        have hys : H6 y = some (.tup ys) := s4 _ _ (s2 _ _ hys)
        have hpx := hpx0.tk (Tk.same (s2.trans s4))
        have hpy := hpy0.tk (Tk.same (s2.trans s4))
        have b6 := (bA.same s2).same s4
        have sA : Same H' H6 := (Same.but2 sC nb bu2).trans (s2.trans s4)
        have hp6 : PrIs H6 q p := hpA.tk (Tk.same (s2.trans s4))
        have xl := hpx.length
        have yl := hpy.length
        have zx := Prog.size_flat wx
        have zy := Prog.size_flat wy
        obtain ⟨ps, hps, hpp⟩ := hp6
        rcases hlo with rfl | ⟨n, rfl, n1, n2⟩
        · walk_at "go"
          intro c1 f1
          walk_at "go"
          intro c2 f2
          walk_at "go"
          refine r_catAT (h_keep (h_keep hxs' f1) f2) upd_same (by simp; omega) fun d1 HD sd1 hd1 => ?_
          have sD : Same H6 HD := (Same.new (Same.new0 f1) f2).trans sd1
          walk_at "go"
          refine r_catAT hd1 (sD _ _ hys) (by simp; omega) fun d2 HE sd2 hd2 => ?_
          have sdx : Same H6 HE := sD.trans sd2
          have pP : PrIs HE d2 ((px.app (.mir p .nil)).app py) := ⟨_, hd2, (PrAt.app (q := .mir p .nil) (hpx.tk (Tk.same sdx)) ⟨c1, q, ps, [], rfl, sd2 _ _ (sd1 _ _ (h_keep upd_same f2)), sdx _ _ hps, hpp.tk (Tk.same sdx), rfl⟩).app (hpy.tk (Tk.same sdx))⟩
          have wP' : Wf BC BC (i + 1) ((px.app (.mir p .nil)).app py) := Wf.app (Wf.app (Wf.mono (Int.le_refl _) (Int.le_refl _) (by omega) wx) ⟨⟨l1', by omega⟩, wp, Wf.nil⟩) (Wf.mono (Int.le_refl _) (Int.le_refl _) (by omega) wy)
          have wP : Wf BC BC 12 ((px.app (.mir p .nil)).app py) := Wf.mono (Int.le_refl _) (Int.le_refl _) (by omega) wP'
          have lP : ((px.app (.mir p .nil)).app py).len = px.len + 1 + py.len := by rw [Prog.len_app, Prog.len_app]; rfl
          have e1 : ((px.app (.mir p .nil)).app py).size = p.size + (xs.length : Int) + (ys.length : Int) := by simp only [Prog.size_app, Prog.size]; omega
          have e2 : ((px.app (.mir p .nil)).app py).head = -p.head + (px.app py).head := by simp only [Prog.head_app, Prog.head]; omega
          have lP0 : 1 ≤ ((px.app (.mir p .nil)).app py).len := by omega
          generalize (px.app (.mir p .nil)).app py = P' at *
          have hd2' := hd2
          walk_at "go"
          refine ⟨d2, P', rfl, ⟨pP, wP, lP0, by omega⟩, fun H7 s7 => ?_⟩
          have hx7 : H7 x = some (.tup xs) := s7 _ _ (sdx _ _ hxs')
          have hy7 : H7 y = some (.tup ys) := s7 _ _ (sdx _ _ hys)
          have b7 := (b6.same sdx).same s7
          walk_at "go"
          have pP7 : PrIs H7 d2 P' := pP.tk (Tk.same s7)
          refine ⟨d2, P', rfl, ⟨pP7, wP, lP0, by omega⟩, fun H8 s8 => ?_⟩
          have hx8 : H8 x = some (.tup xs) := s8 _ _ hx7
          have hy8 : H8 y = some (.tup ys) := s8 _ _ hy7
          walk_at "go"
          refine r_catAT hx8 hy8 (by omega) fun d3 H9 s9 hd3 => ?_
          have tt9 : Tk H6 H9 := (Tk.same sdx).trans (Tk.same (s7.trans (s8.trans s9)))
          walk_at "go"
          refine ⟨d3, px.app py, rfl, ⟨_, hd3, (hpx.tk tt9).app (hpy.tk tt9)⟩, wx.app wy, by rw [Prog.len_app]; omega, fun H10 s10 => ?_⟩
          have pP10 : PrIs H10 d2 P' := pP7.tk (Tk.same (s8.trans (s9.trans s10)))
          walk_at "go"
          refine ⟨d2, P', rfl, ⟨pP10, wP, lP0, by omega⟩, fun H11 s11 => ?_⟩
          have pP11 := pP10.tk (Tk.same s11)
          walk_at "go"
          refine ⟨d2, P', rfl, pP11, wP, by omega, by decide, ?_⟩
          walk_at "go"
          refine ⟨d2, P', rfl, ⟨pP11, wP, lP0, by omega⟩, fun H12 s12 => ?_⟩
          have pP12 := pP11.tk (Tk.same s12)
          walk_at "go"
          refine ⟨d2, P', rfl, pP12, wP, by omega, fun H13 s13 => ?_⟩
          walk_at "go"
          refine ⟨_, _, rfl, ?_⟩
          walk_at "go"
          have sE : Same H7 H13 := s8.trans (s9.trans (s10.trans (s11.trans (s12.trans s13))))
          exact ⟨d2, P', _, _, _, _, _, _, _, rfl, .inr (by rw [Int.natCast_succ, Int.add_sub_cancel]), (sA.trans sdx).trans (s7.trans sE), b7.same sE, pP7.tk (Tk.same sE), wP', lP0, by omega⟩
        · have mh : CMulW n p.head := mulW_of (count_bits (by omega) n2) (head_bits wp12 (by decide) (by omega))
          have mz : CMulW n p.size := mulW_of (count_bits (by omega) n2) (size_bits wp12 (by decide) (by omega))
          walk_at "go"
          intro c1 f1
          walk_at "go"
          intro c2 f2
          walk_at "go"
          refine r_catAT (h_keep (h_keep hxs' f1) f2) upd_same (by simp; omega) fun d1 HD sd1 hd1 => ?_
          have sD : Same H6 HD := (Same.new (Same.new0 f1) f2).trans sd1
          walk_at "go"
          refine r_catAT hd1 (sD _ _ hys) (by simp; omega) fun d2 HE sd2 hd2 => ?_
          have sdx : Same H6 HE := sD.trans sd2
          have pP : PrIs HE d2 ((px.app (.rep n p .nil)).app py) := ⟨_, hd2, (PrAt.app (q := .rep n p .nil) (hpx.tk (Tk.same sdx)) ⟨c1, q, ps, [], rfl, sd2 _ _ (sd1 _ _ (h_keep upd_same f2)), sdx _ _ hps, hpp.tk (Tk.same sdx), rfl⟩).app (hpy.tk (Tk.same sdx))⟩
          have wP' : Wf BC BC (i + 1) ((px.app (.rep n p .nil)).app py) := Wf.app (Wf.app (Wf.mono (Int.le_refl _) (Int.le_refl _) (by omega) wx) ⟨⟨n1, n2⟩, ⟨l1', by omega⟩, wp, Wf.nil⟩) (Wf.mono (Int.le_refl _) (Int.le_refl _) (by omega) wy)
          have wP : Wf BC BC 12 ((px.app (.rep n p .nil)).app py) := Wf.mono (Int.le_refl _) (Int.le_refl _) (by omega) wP'
          have lP : ((px.app (.rep n p .nil)).app py).len = px.len + 1 + py.len := by rw [Prog.len_app, Prog.len_app]; rfl
          have e1 : ((px.app (.rep n p .nil)).app py).size = n * p.size + (xs.length : Int) + (ys.length : Int) := by simp only [Prog.size_app, Prog.size]; omega
          have e2 : ((px.app (.rep n p .nil)).app py).head = n * p.head + (px.app py).head := by simp only [Prog.head_app, Prog.head]; omega
          have lP0 : 1 ≤ ((px.app (.rep n p .nil)).app py).len := by omega
          generalize (px.app (.rep n p .nil)).app py = P' at *
          have hd2' := hd2
          walk_at "go"
          refine ⟨d2, P', rfl, ⟨pP, wP, lP0, by omega⟩, fun H7 s7 => ?_⟩
          have hx7 : H7 x = some (.tup xs) := s7 _ _ (sdx _ _ hxs')
          have hy7 : H7 y = some (.tup ys) := s7 _ _ (sdx _ _ hys)
          have b7 := (b6.same sdx).same s7
          walk_at "go"
          have pP7 : PrIs H7 d2 P' := pP.tk (Tk.same s7)
          refine ⟨d2, P', rfl, ⟨pP7, wP, lP0, by omega⟩, fun H8 s8 => ?_⟩
          have hx8 : H8 x = some (.tup xs) := s8 _ _ hx7
          have hy8 : H8 y = some (.tup ys) := s8 _ _ hy7
          walk_at "go"
          refine r_catAT hx8 hy8 (by omega) fun d3 H9 s9 hd3 => ?_
          have tt9 : Tk H6 H9 := (Tk.same sdx).trans (Tk.same (s7.trans (s8.trans s9)))
          walk_at "go"
          refine ⟨d3, px.app py, rfl, ⟨_, hd3, (hpx.tk tt9).app (hpy.tk tt9)⟩, wx.app wy, by rw [Prog.len_app]; omega, fun H10 s10 => ?_⟩
          have pP10 : PrIs H10 d2 P' := pP7.tk (Tk.same (s8.trans (s9.trans s10)))
          walk_at "go"
          refine ⟨d2, P', rfl, ⟨pP10, wP, lP0, by omega⟩, fun H11 s11 => ?_⟩
          have pP11 := pP10.tk (Tk.same s11)
          walk_at "go"
          refine ⟨d2, P', rfl, pP11, wP, by omega, by decide, ?_⟩
          walk_at "go"
          refine ⟨d2, P', rfl, ⟨pP11, wP, lP0, by omega⟩, fun H12 s12 => ?_⟩
          have pP12 := pP11.tk (Tk.same s12)
          walk_at "go"
          refine ⟨d2, P', rfl, pP12, wP, by omega, fun H13 s13 => ?_⟩
          walk_at "go"
          refine ⟨_, _, rfl, ?_⟩
          walk_at "go"
          have sE : Same H7 H13 := s8.trans (s9.trans (s10.trans (s11.trans (s12.trans s13))))
          exact ⟨d2, P', _, _, _, _, _, _, _, rfl, .inr (by rw [Int.natCast_succ, Int.add_sub_cancel]), (sA.trans sdx).trans (s7.trans sE), b7.same sE, pP7.tk (Tk.same sE), wP', lP0, by omega⟩
      · rintro σ Hc ⟨q, p, fr, y6, y7, y8, y9, y10, y11, rfl, hy6, sC, bC, hp, wp, l1', l2'⟩
        rcases hy6 with h | rfl
        · omega
        have wp9 : Wf BC BC 8 p := Wf.mono (Int.le_refl _) (Int.le_refl _) (by omega) wp
        have wp12 : Wf BC BC 12 p := Wf.mono (Int.le_refl _) (Int.le_refl _) (by omega) wp
        obtain ⟨ps, hps, hpp⟩ := hp
        generalize (((1 + r).toNat : Nat) : Int) - 1 = tn at *
        refine r_cut (fun σ' H' => σ' = [y0, y1, some (.int cell), some (.ref b), some (.ref q), some (.int fr), some (.int tn), y7, y8, y9, y10, y11] ∧ Same Hc H') ?_ ?_
        · walk_at "go"
          refine r_iteD (fun h4 => ?_) (fun h4 => ?_)
          · walk_at "go"
            intro c1 f1
            walk_at "go"
            intro c2 f2
            walk_at "go"
            intro c3 f3
            walk_at "go"
            intro c4 f4
            walk_at "go"
            have s4 : Same Hc (upd (upd (upd (upd Hc c1 (.tup [.str "mirror", .ref q])) c2 (.tup [.ref c1])) c3 (.tup [.str "mirror", .ref c2])) c4 (.tup [.ref c3])) := Same.new (Same.new (Same.new (Same.new0 f1) f2) f3) f4
            have hM : PrIs (upd (upd (upd (upd Hc c1 (.tup [.str "mirror", .ref q])) c2 (.tup [.ref c1])) c3 (.tup [.str "mirror", .ref c2])) c4 (.tup [.ref c3])) c4 (.mir (.mir p .nil) .nil) := ⟨_, upd_same, c3, c2, _, [], rfl, h_keep upd_same f4, h_keep (h_keep upd_same f3) f4, ⟨c1, q, ps, [], rfl, h_keep (h_keep (h_keep upd_same f2) f3) f4, s4 _ _ hps, hpp.tk (Tk.same s4), rfl⟩, rfl⟩
            refine ⟨c4, _, rfl, ⟨hM, ⟨⟨by simp [Prog.len], by simp [Prog.len]⟩, ⟨⟨by omega, by omega⟩, Wf.mono (Int.le_refl _) (Int.le_refl _) (by decide) wp9, Wf.nil⟩, Wf.nil⟩, by simp [Prog.len], by simp [Prog.len]⟩, fun H7 s7 => ?_⟩
            walk_at "go"
            refine ⟨q, p, rfl, ⟨ps, s7 _ _ (s4 _ _ hps), hpp.tk (Tk.same (s4.trans s7))⟩, wp12, by omega, by decide, ?_⟩
            have e : (Prog.mir (.mir p .nil) .nil).head = p.head := by simp only [Prog.head]; omega
            walk_at "go"
            exact ⟨rfl, s4.trans s7⟩
          · walk_at "go"
            exact ⟨rfl, Same.refl _⟩
        · rintro σ' H6 ⟨rfl, s6⟩
          have hps6 := s6 _ _ hps
          have hpp6 := hpp.tk (Tk.same s6)
          walk_at "go"
          refine r_iteD (fun h4 => ?_) (fun h4 => ?_)
          · walk_at "go"
            intro c1 f1
            walk_at "go"
            intro c2 f2
            walk_at "go"
            have s4 : Same H6 (upd (upd H6 c1 (.tup [.str "mirror", .ref q])) c2 (.tup [.ref c1])) := Same.new (Same.new0 f1) f2
            have hM : PrIs (upd (upd H6 c1 (.tup [.str "mirror", .ref q])) c2 (.tup [.ref c1])) c2 (.mir p .nil) := ⟨_, upd_same, c1, q, ps, [], rfl, h_keep upd_same f2, s4 _ _ hps6, hpp6.tk (Tk.same s4), rfl⟩
            refine ⟨c2, _, rfl, ⟨hM, ⟨⟨by omega, by omega⟩, Wf.mono (Int.le_refl _) (Int.le_refl _) (by decide) wp9, Wf.nil⟩, by simp [Prog.len], by simp [Prog.len]⟩, fun H7 s7 => ?_⟩
            walk_at "go"
            refine ⟨q, p, rfl, ⟨ps, s7 _ _ (s4 _ _ hps6), hpp6.tk (Tk.same (s4.trans s7))⟩, wp12, by omega, by decide, ?_⟩
            have e : (Prog.mir p .nil).head = -p.head := by simp only [Prog.head]; omega
            walk_at "go"
            exact ⟨_, _, _, _, _, _, _, _, _, _, _, _, rfl, sm.trans (sC.trans (s6.trans (s4.trans s7)))⟩
          · walk_at "go"
            exact ⟨_, _, _, _, _, _, _, _, _, _, _, _, rfl, sm.trans (sC.trans s6)⟩
    · rintro σ H' ⟨y0, y1, y2, y3, y4, y5, y6, y7, y8, y9, y10, y11, rfl, sm⟩
      walk_at "go"
      exact k _
end
end My

set_option Elab.async false
set_option linter.all false
set_option maxRecDepth 100000
set_option maxHeartbeats 4000000

namespace My
open PySem PySem.Spec PyProof.Rows L2
structure BlA (mg : Str → Option Value) : Prop where
  b_abs : mg "abs" = none
theorem all_mk {l : PySem.W.OpenLaw} {w : World} {K : PySem.W.Frag} {h : Heap} {mg : Str → Option Value} {fa f1 f2 f3 f4 f5 f6 f7 f8 f9 f10 f11 f12 f13 f14 f15 f16 f17 f18 f19 f20 f21 f22 f23 f24 f25 f26 f27 : Addr} (X : K.In h) (G : h.Ns mainGlobals mg) (hfa : mg "law" = some (.ref fa))
    {od1 an1 od2 an2 od3 an3 od4 an4 od5 an5 od6 an6 od7 an7 od8 an8 od9 an9 od10 an10 od11 an11 od12 an12 od13 an13 od14 an14 od15 an15 od16 an16 od17 an17 od18 an18 od19 an19 od20 an20 od21 an21 od22 an22 od23 an23 od24 an24 od25 an25 od26 an26 od27 an27 : Option Addr} {sl1 sl2 sl3 sl4 sl5 sl6 sl7 sl8 sl9 sl10 sl11 sl12 sl13 sl14 sl15 sl16 sl17 sl18 sl19 sl20 sl21 sl22 sl23 sl24 sl25 sl26 sl27 : Array (Option Value)} {oc1 kV1 dc1 pm1 cd1 ct1 oc2 kV2 dc2 pm2 cd2 ct2 oc3 kV3 dc3 pm3 cd3 ct3 oc4 kV4 dc4 pm4 cd4 ct4 oc5 kV5 dc5 pm5 cd5 ct5 oc6 kV6 dc6 pm6 cd6 ct6 oc7 kV7 dc7 pm7 cd7 ct7 oc8 kV8 dc8 pm8 cd8 ct8 oc9 kV9 dc9 pm9 cd9 ct9 oc10 kV10 dc10 pm10 cd10 ct10 oc11 kV11 dc11 pm11 cd11 ct11 oc12 kV12 dc12 pm12 cd12 ct12 oc13 kV13 dc13 pm13 cd13 ct13 oc14 kV14 dc14 pm14 cd14 ct14 oc15 kV15 dc15 pm15 cd15 ct15 oc16 kV16 dc16 pm16 cd16 ct16 oc17 kV17 dc17 pm17 cd17 ct17 oc18 kV18 dc18 pm18 cd18 ct18 oc19 kV19 dc19 pm19 cd19 ct19 oc20 kV20 dc20 pm20 cd20 ct20 oc21 kV21 dc21 pm21 cd21 ct21 oc22 kV22 dc22 pm22 cd22 ct22 oc23 kV23 dc23 pm23 cd23 ct23 oc24 kV24 dc24 pm24 cd24 ct24 oc25 kV25 dc25 pm25 cd25 ct25 oc26 kV26 dc26 pm26 cd26 ct26 oc27 kV27 dc27 pm27 cd27 ct27 : Value}
    {dS : Addr} {esS : Array DictEntry} {nS : Nat} {v1S v2S v3S v4S : Value} {tMC tMH : Tok}
    {DT8 : Addr} {dt8_0 : Tok} {dn8 : Nat} {ds8 : Array (Option Value)} {dd8 : Option Addr}
    (a1 : PySem.W.nsIn K mainGlobals "is_integer" = some (some (.ref f1))) (l1 : K.lookup f1 = some ⟨oc1, od1, .func (PySem.W.fnOf "is_integer" "is_integer" (defArgs s_is_integer) (defBody s_is_integer) (defScope s_is_integer) .none kV1 dc1 pm1 an1 cd1 ct1), sl1⟩) (c1 : PySem.W.codeIn K cd1 "is_integer" = true) (k1 : PySem.W.keepIn K (.ref f1) = true)
    (a2 : PySem.W.nsIn K mainGlobals "is_name" = some (some (.ref f2))) (l2 : K.lookup f2 = some ⟨oc2, od2, .func (PySem.W.fnOf "is_name" "is_name" (defArgs s_is_name) (defBody s_is_name) (defScope s_is_name) .none kV2 dc2 pm2 an2 cd2 ct2), sl2⟩) (c2 : PySem.W.codeIn K cd2 "is_name" = true) (k2 : PySem.W.keepIn K (.ref f2) = true)
    (a3 : PySem.W.nsIn K mainGlobals "is_command" = some (some (.ref f3))) (l3 : K.lookup f3 = some ⟨oc3, od3, .func (PySem.W.fnOf "is_command" "is_command" (defArgs s_is_command) (defBody s_is_command) (defScope s_is_command) .none kV3 dc3 pm3 an3 cd3 ct3), sl3⟩) (c3 : PySem.W.codeIn K cd3 "is_command" = true) (k3 : PySem.W.keepIn K (.ref f3) = true)
    (a4 : PySem.W.nsIn K mainGlobals "is_program" = some (some (.ref f4))) (l4 : K.lookup f4 = some ⟨oc4, od4, .func (PySem.W.fnOf "is_program" "is_program" (defArgs s_is_program) (defBody s_is_program) (defScope s_is_program) .none kV4 dc4 pm4 an4 cd4 ct4), sl4⟩) (c4 : PySem.W.codeIn K cd4 "is_program" = true) (k4 : PySem.W.keepIn K (.ref f4) = true)
    (a5 : PySem.W.nsIn K mainGlobals "check_program" = some (some (.ref f5))) (l5 : K.lookup f5 = some ⟨oc5, od5, .func (PySem.W.fnOf "check_program" "check_program" (defArgs s_check_program) (defBody s_check_program) (defScope s_check_program) .none kV5 dc5 pm5 an5 cd5 ct5), sl5⟩) (c5 : PySem.W.codeIn K cd5 "check_program" = true) (k5 : PySem.W.keepIn K (.ref f5) = true)
    (a6 : PySem.W.nsIn K mainGlobals "raw_size" = some (some (.ref f6))) (l6 : K.lookup f6 = some ⟨oc6, od6, .func (PySem.W.fnOf "raw_size" "raw_size" (defArgs s_raw_size) (defBody s_raw_size) (defScope s_raw_size) .none kV6 dc6 pm6 an6 cd6 ct6), sl6⟩) (c6 : PySem.W.codeIn K cd6 "raw_size" = true) (k6 : PySem.W.keepIn K (.ref f6) = true)
    (a7 : PySem.W.nsIn K mainGlobals "raw_heading" = some (some (.ref f7))) (l7 : K.lookup f7 = some ⟨oc7, od7, .func (PySem.W.fnOf "raw_heading" "raw_heading" (defArgs s_raw_heading) (defBody s_raw_heading) (defScope s_raw_heading) .none kV7 dc7 pm7 an7 cd7 ct7), sl7⟩) (c7 : PySem.W.codeIn K cd7 "raw_heading" = true) (k7 : PySem.W.keepIn K (.ref f7) = true)
    (a8 : PySem.W.nsIn K mainGlobals "plain_row" = some (some (.ref f8))) (l8 : K.lookup f8 = some ⟨oc8, od8, .func (PySem.W.fnOf "plain_row" "plain_row" (defArgs s_plain_row) (defBody s_plain_row) (defScope s_plain_row) (.ref DT8) kV8 dc8 pm8 an8 cd8 ct8), sl8⟩) (c8 : PySem.W.codeIn K cd8 "plain_row" = true) (k8 : PySem.W.keepIn K (.ref f8) = true)
    (d8 : K.lookup DT8 = some ⟨.type "tuple", dd8, .seq #[.int 1 dt8_0] dn8, ds8⟩)
    (a9 : PySem.W.nsIn K mainGlobals "raw_is_short" = some (some (.ref f9))) (l9 : K.lookup f9 = some ⟨oc9, od9, .func (PySem.W.fnOf "raw_is_short" "raw_is_short" (defArgs s_raw_is_short) (defBody s_raw_is_short) (defScope s_raw_is_short) .none kV9 dc9 pm9 an9 cd9 ct9), sl9⟩) (c9 : PySem.W.codeIn K cd9 "raw_is_short" = true) (k9 : PySem.W.keepIn K (.ref f9) = true)
    (a10 : PySem.W.nsIn K mainGlobals "size" = some (some (.ref f10))) (l10 : K.lookup f10 = some ⟨oc10, od10, .func (PySem.W.fnOf "size" "size" (defArgs s_size) (defBody s_size) (defScope s_size) .none kV10 dc10 pm10 an10 cd10 ct10), sl10⟩) (c10 : PySem.W.codeIn K cd10 "size" = true) (k10 : PySem.W.keepIn K (.ref f10) = true)
    (a11 : PySem.W.nsIn K mainGlobals "heading" = some (some (.ref f11))) (l11 : K.lookup f11 = some ⟨oc11, od11, .func (PySem.W.fnOf "heading" "heading" (defArgs s_heading) (defBody s_heading) (defScope s_heading) .none kV11 dc11 pm11 an11 cd11 ct11), sl11⟩) (c11 : PySem.W.codeIn K cd11 "heading" = true) (k11 : PySem.W.keepIn K (.ref f11) = true)
    (a12 : PySem.W.nsIn K mainGlobals "is_short" = some (some (.ref f12))) (l12 : K.lookup f12 = some ⟨oc12, od12, .func (PySem.W.fnOf "is_short" "is_short" (defArgs s_is_short) (defBody s_is_short) (defScope s_is_short) .none kV12 dc12 pm12 an12 cd12 ct12), sl12⟩) (c12 : PySem.W.codeIn K cd12 "is_short" = true) (k12 : PySem.W.keepIn K (.ref f12) = true)
    (a13 : PySem.W.nsIn K mainGlobals "_law_bag_of" = some (some (.ref f13))) (l13 : K.lookup f13 = some ⟨oc13, od13, .func (PySem.W.fnOf "_law_bag_of" "_law_bag_of" (defArgs s_l_bag_of) (defBody s_l_bag_of) (defScope s_l_bag_of) .none kV13 dc13 pm13 an13 cd13 ct13), sl13⟩) (c13 : PySem.W.codeIn K cd13 "_law_bag_of" = true) (k13 : PySem.W.keepIn K (.ref f13) = true)
    (a14 : PySem.W.nsIn K mainGlobals "_law_pick" = some (some (.ref f14))) (l14 : K.lookup f14 = some ⟨oc14, od14, .func (PySem.W.fnOf "_law_pick" "_law_pick" (defArgs s_l_pick) (defBody s_l_pick) (defScope s_l_pick) .none kV14 dc14 pm14 an14 cd14 ct14), sl14⟩) (c14 : PySem.W.codeIn K cd14 "_law_pick" = true) (k14 : PySem.W.keepIn K (.ref f14) = true)
    (a15 : PySem.W.nsIn K mainGlobals "_law_great_int" = some (some (.ref f15))) (l15 : K.lookup f15 = some ⟨oc15, od15, .func (PySem.W.fnOf "_law_great_int" "_law_great_int" (defArgs s_l_great_int) (defBody s_l_great_int) (defScope s_l_great_int) .none kV15 dc15 pm15 an15 cd15 ct15), sl15⟩) (c15 : PySem.W.codeIn K cd15 "_law_great_int" = true) (k15 : PySem.W.keepIn K (.ref f15) = true)
    (a16 : PySem.W.nsIn K mainGlobals "_law_tells" = some (some (.ref f16))) (l16 : K.lookup f16 = some ⟨oc16, od16, .func (PySem.W.fnOf "_law_tells" "_law_tells" (defArgs s_l_tells) (defBody s_l_tells) (defScope s_l_tells) .none kV16 dc16 pm16 an16 cd16 ct16), sl16⟩) (c16 : PySem.W.codeIn K cd16 "_law_tells" = true) (k16 : PySem.W.keepIn K (.ref f16) = true)
    (a17 : PySem.W.nsIn K mainGlobals "_law_some_turn" = some (some (.ref f17))) (l17 : K.lookup f17 = some ⟨oc17, od17, .func (PySem.W.fnOf "_law_some_turn" "_law_some_turn" (defArgs s_l_some_turn) (defBody s_l_some_turn) (defScope s_l_some_turn) .none kV17 dc17 pm17 an17 cd17 ct17), sl17⟩) (c17 : PySem.W.codeIn K cd17 "_law_some_turn" = true) (k17 : PySem.W.keepIn K (.ref f17) = true)
    (a18 : PySem.W.nsIn K mainGlobals "_law_some_lots" = some (some (.ref f18))) (l18 : K.lookup f18 = some ⟨oc18, od18, .func (PySem.W.fnOf "_law_some_lots" "_law_some_lots" (defArgs s_l_some_lots) (defBody s_l_some_lots) (defScope s_l_some_lots) .none kV18 dc18 pm18 an18 cd18 ct18), sl18⟩) (c18 : PySem.W.codeIn K cd18 "_law_some_lots" = true) (k18 : PySem.W.keepIn K (.ref f18) = true)
    (a19 : PySem.W.nsIn K mainGlobals "_law_piece" = some (some (.ref f19))) (l19 : K.lookup f19 = some ⟨oc19, od19, .func (PySem.W.fnOf "_law_piece" "_law_piece" (defArgs s_l_piece) (defBody s_l_piece) (defScope s_l_piece) .none kV19 dc19 pm19 an19 cd19 ct19), sl19⟩) (c19 : PySem.W.codeIn K cd19 "_law_piece" = true) (k19 : PySem.W.keepIn K (.ref f19) = true)
    (a20 : PySem.W.nsIn K mainGlobals "_law_bulk" = some (some (.ref f20))) (l20 : K.lookup f20 = some ⟨oc20, od20, .func (PySem.W.fnOf "_law_bulk" "_law_bulk" (defArgs s_l_bulk) (defBody s_l_bulk) (defScope s_l_bulk) .none kV20 dc20 pm20 an20 cd20 ct20), sl20⟩) (c20 : PySem.W.codeIn K cd20 "_law_bulk" = true) (k20 : PySem.W.keepIn K (.ref f20) = true)
    (a21 : PySem.W.nsIn K mainGlobals "_law_aim" = some (some (.ref f21))) (l21 : K.lookup f21 = some ⟨oc21, od21, .func (PySem.W.fnOf "_law_aim" "_law_aim" (defArgs s_l_aim) (defBody s_l_aim) (defScope s_l_aim) .none kV21 dc21 pm21 an21 cd21 ct21), sl21⟩) (c21 : PySem.W.codeIn K cd21 "_law_aim" = true) (k21 : PySem.W.keepIn K (.ref f21) = true)
    (a22 : PySem.W.nsIn K mainGlobals "_law_unroll" = some (some (.ref f22))) (l22 : K.lookup f22 = some ⟨oc22, od22, .func (PySem.W.fnOf "_law_unroll" "_law_unroll" (defArgs s_l_unroll) (defBody s_l_unroll) (defScope s_l_unroll) .none kV22 dc22 pm22 an22 cd22 ct22), sl22⟩) (c22 : PySem.W.codeIn K cd22 "_law_unroll" = true) (k22 : PySem.W.keepIn K (.ref f22) = true)
    (a23 : PySem.W.nsIn K mainGlobals "_law_tame" = some (some (.ref f23))) (l23 : K.lookup f23 = some ⟨oc23, od23, .func (PySem.W.fnOf "_law_tame" "_law_tame" (defArgs s_l_tame) (defBody s_l_tame) (defScope s_l_tame) .none kV23 dc23 pm23 an23 cd23 ct23), sl23⟩) (c23 : PySem.W.codeIn K cd23 "_law_tame" = true) (k23 : PySem.W.keepIn K (.ref f23) = true)
    (a24 : PySem.W.nsIn K mainGlobals "_law_layer" = some (some (.ref f24))) (l24 : K.lookup f24 = some ⟨oc24, od24, .func (PySem.W.fnOf "_law_layer" "_law_layer" (defArgs s_l_layer) (defBody s_l_layer) (defScope s_l_layer) .none kV24 dc24 pm24 an24 cd24 ct24), sl24⟩) (c24 : PySem.W.codeIn K cd24 "_law_layer" = true) (k24 : PySem.W.keepIn K (.ref f24) = true)
    (a25 : PySem.W.nsIn K mainGlobals "_law_sides" = some (some (.ref f25))) (l25 : K.lookup f25 = some ⟨oc25, od25, .func (PySem.W.fnOf "_law_sides" "_law_sides" (defArgs s_l_sides) (defBody s_l_sides) (defScope s_l_sides) .none kV25 dc25 pm25 an25 cd25 ct25), sl25⟩) (c25 : PySem.W.codeIn K cd25 "_law_sides" = true) (k25 : PySem.W.keepIn K (.ref f25) = true)
    (a26 : PySem.W.nsIn K mainGlobals "_law_is_short" = some (some (.ref f26))) (l26 : K.lookup f26 = some ⟨oc26, od26, .func (PySem.W.fnOf "_law_is_short" "_law_is_short" (defArgs s_l_is_short) (defBody s_l_is_short) (defScope s_l_is_short) .none kV26 dc26 pm26 an26 cd26 ct26), sl26⟩) (c26 : PySem.W.codeIn K cd26 "_law_is_short" = true) (k26 : PySem.W.keepIn K (.ref f26) = true)
    (a27 : PySem.W.nsIn K mainGlobals "law" = some (some (.ref f27))) (l27 : K.lookup f27 = some ⟨oc27, od27, .func (PySem.W.fnOf "law" "law" (defArgs s_law) (defBody s_law) (defScope s_law) .none kV27 dc27 pm27 an27 cd27 ct27), sl27⟩) (c27 : PySem.W.codeIn K cd27 "law" = true) (k27 : PySem.W.keepIn K (.ref f27) = true)
    (z_abs : PySem.W.nsIn K mainGlobals "abs" = some none) (z_all : PySem.W.nsIn K mainGlobals "all" = some none) (z_bool : PySem.W.nsIn K mainGlobals "bool" = some none) (z_int : PySem.W.nsIn K mainGlobals "int" = some none) (z_isinstance : PySem.W.nsIn K mainGlobals "isinstance" = some none) (z_len : PySem.W.nsIn K mainGlobals "len" = some none) (z_list : PySem.W.nsIn K mainGlobals "list" = some none) (z_max : PySem.W.nsIn K mainGlobals "max" = some none) (z_min : PySem.W.nsIn K mainGlobals "min" = some none) (z_range : PySem.W.nsIn K mainGlobals "range" = some none) (z_str : PySem.W.nsIn K mainGlobals "str" = some none) (z_sum : PySem.W.nsIn K mainGlobals "sum" = some none) (z_tuple : PySem.W.nsIn K mainGlobals "tuple" = some none)
    (aS : PySem.W.nsIn K mainGlobals "STEPS" = some (some (.ref dS)))
    (lS : K.lookup dS = some ⟨.type "dict", none, .dict esS nS, #[]⟩)
    (kS : PySem.W.KeysLit w.params esS.toList)
    (oS : (dS == sysModules) = false)
    (e1S : PySem.W.nsIn K dS "go" = some (some v1S))
    (e2S : PySem.W.nsIn K dS "back" = some (some v2S))
    (e3S : PySem.W.nsIn K dS "hop" = some (some v3S))
    (e4S : PySem.W.nsIn K dS "slip" = some (some v4S))
    (mMC : PySem.W.nsIn K mainGlobals "MOST_COMMANDS" = some (some (.int 200 tMC)))
    (mMH : PySem.W.nsIn K mainGlobals "MOST_HEADING" = some (some (.int 12 tMH)))
    : ∃ fd : FuncData, (∀ (s : Shared) (v : Value), BindsTo s fd ⟨[v], []⟩ [("_law_script", v)]) ∧ ∀ base : Heap, K.In base → base.Ns mainGlobals mg → FnOk l.prog w K mg base CX0 30 fa fd ["_law_script"] (spLaw K) := by
  cases (hfa.symm.trans (PySem.W.mg_of X G a27))
  have F_is_integer := fun_mk (st := s_is_integer) l1 c1 k1
  have b_is_integer := F_is_integer.binds (ps := ["value"]) fun _ _ _ _ _ _ us hl => match us, hl with | [_], _ => rfl
  have F_is_name := fun_mk (st := s_is_name) l2 c2 k2
  have b_is_name := F_is_name.binds (ps := ["value"]) fun _ _ _ _ _ _ us hl => match us, hl with | [_], _ => rfl
  have F_is_command := fun_mk (st := s_is_command) l3 c3 k3
  have b_is_command := F_is_command.binds (ps := ["value"]) fun _ _ _ _ _ _ us hl => match us, hl with | [_], _ => rfl
  have F_is_program := fun_mk (st := s_is_program) l4 c4 k4
  have b_is_program := F_is_program.binds (ps := ["value"]) fun _ _ _ _ _ _ us hl => match us, hl with | [_], _ => rfl
  have F_check_program := fun_mk (st := s_check_program) l5 c5 k5
  have b_check_program := F_check_program.binds (ps := ["value"]) fun _ _ _ _ _ _ us hl => match us, hl with | [_], _ => rfl
  have F_raw_size := fun_mk (st := s_raw_size) l6 c6 k6
  have b_raw_size := F_raw_size.binds (ps := ["program"]) fun _ _ _ _ _ _ us hl => match us, hl with | [_], _ => rfl
  have F_raw_heading := fun_mk (st := s_raw_heading) l7 c7 k7
  have b_raw_heading := F_raw_heading.binds (ps := ["program"]) fun _ _ _ _ _ _ us hl => match us, hl with | [_], _ => rfl
  have F_plain_row : FunD K "plain_row" "plain_row" (defArgs s_plain_row) (defBody s_plain_row) (defScope s_plain_row) [.int 1] [] f8 (PySem.W.fnOf "plain_row" "plain_row" (defArgs s_plain_row) (defBody s_plain_row) (defScope s_plain_row) (.ref DT8) kV8 dc8 pm8 an8 cd8 ct8) := ⟨⟨_, _, _, _, _, _, _, _, _, _, rfl, l8, c8, .inr ⟨by simp, DT8, _, [_], dn8, rfl, d8, rfl, .cons ⟨_, rfl⟩ (.nil)⟩, .inl rfl⟩, k8⟩
  obtain ⟨dsplain_row_1, vdplain_row_1, bdplain_row_1⟩ := F_plain_row.binds1 (ps := ["program", "sign"]) 1 0 (by simp) (by simp) fun _ _ _ _ _ _ _ us its hl hi => match us, its, hl, hi with | [_], [_], _, _ => ⟨_, rfl, rfl⟩
  obtain ⟨dsplain_row_2, vdplain_row_2, bdplain_row_2⟩ := F_plain_row.binds1 (ps := ["program", "sign"]) 2 1 (by simp) (by simp) fun _ _ _ _ _ _ _ us its hl hi => match us, its, hl, hi with | [_, _], [_], _, _ => ⟨_, rfl, rfl⟩
  have b_plain_row : Binds K (PySem.W.fnOf "plain_row" "plain_row" (defArgs s_plain_row) (defBody s_plain_row) (defScope s_plain_row) (.ref DT8) kV8 dc8 pm8 an8 cd8 ct8) ["program", "sign"] [] := by cases vdplain_row_2; exact bdplain_row_2
  have F_raw_is_short := fun_mk (st := s_raw_is_short) l9 c9 k9
  have b_raw_is_short := F_raw_is_short.binds (ps := ["program"]) fun _ _ _ _ _ _ us hl => match us, hl with | [_], _ => rfl
  have F_size := fun_mk (st := s_size) l10 c10 k10
  have b_size := F_size.binds (ps := ["program"]) fun _ _ _ _ _ _ us hl => match us, hl with | [_], _ => rfl
  have F_heading := fun_mk (st := s_heading) l11 c11 k11
  have b_heading := F_heading.binds (ps := ["program"]) fun _ _ _ _ _ _ us hl => match us, hl with | [_], _ => rfl
  have F_is_short := fun_mk (st := s_is_short) l12 c12 k12
  have b_is_short := F_is_short.binds (ps := ["program"]) fun _ _ _ _ _ _ us hl => match us, hl with | [_], _ => rfl
  have F_l_bag_of := fun_mk (st := s_l_bag_of) l13 c13 k13
  have b_l_bag_of := F_l_bag_of.binds (ps := ["_law_cell"]) fun _ _ _ _ _ _ us hl => match us, hl with | [_], _ => rfl
  have F_l_pick := fun_mk (st := s_l_pick) l14 c14 k14
  have b_l_pick := F_l_pick.binds (ps := ["_law_bag", "_law_many"]) fun _ _ _ _ _ _ us hl => match us, hl with | [_, _], _ => rfl
  have F_l_great_int := fun_mk (st := s_l_great_int) l15 c15 k15
  have b_l_great_int := F_l_great_int.binds (ps := ["_law_bag", "_law_digits"]) fun _ _ _ _ _ _ us hl => match us, hl with | [_, _], _ => rfl
  have F_l_tells := fun_mk (st := s_l_tells) l16 c16 k16
  have b_l_tells := F_l_tells.binds (ps := ["_law_found", "_law_due"]) fun _ _ _ _ _ _ us hl => match us, hl with | [_, _], _ => rfl
  have F_l_some_turn := fun_mk (st := s_l_some_turn) l17 c17 k17
  have b_l_some_turn := F_l_some_turn.binds (ps := ["_law_bag", "_law_wild"]) fun _ _ _ _ _ _ us hl => match us, hl with | [_, _], _ => rfl
  have F_l_some_lots := fun_mk (st := s_l_some_lots) l18 c18 k18
  have b_l_some_lots := F_l_some_lots.binds (ps := ["_law_bag", "_law_free", "_law_wild"]) fun _ _ _ _ _ _ us hl => match us, hl with | [_, _, _], _ => rfl
  have F_l_piece := fun_mk (st := s_l_piece) l19 c19 k19
  have b_l_piece := F_l_piece.binds (ps := ["_law_bag", "_law_pot", "_law_deep", "_law_free", "_law_wild"]) fun _ _ _ _ _ _ us hl => match us, hl with | [_, _, _, _, _], _ => rfl
  have F_l_bulk := fun_mk (st := s_l_bulk) l20 c20 k20
  have b_l_bulk := F_l_bulk.binds (ps := ["_law_piece_here"]) fun _ _ _ _ _ _ us hl => match us, hl with | [_], _ => rfl
  have F_l_aim := fun_mk (st := s_l_aim) l21 c21 k21
  have b_l_aim := F_l_aim.binds (ps := ["_law_piece_here"]) fun _ _ _ _ _ _ us hl => match us, hl with | [_], _ => rfl
  have F_l_unroll := fun_mk (st := s_l_unroll) l22 c22 k22
  have b_l_unroll := F_l_unroll.binds (ps := ["_law_piece_here", "_law_sign"]) fun _ _ _ _ _ _ us hl => match us, hl with | [_, _], _ => rfl
  have F_l_tame := fun_mk (st := s_l_tame) l23 c23 k23
  have b_l_tame := F_l_tame.binds (ps := ["_law_bag", "_law_names"]) fun _ _ _ _ _ _ us hl => match us, hl with | [_, _], _ => rfl
  have F_l_layer := fun_mk (st := s_l_layer) l24 c24 k24
  have b_l_layer := F_l_layer.binds (ps := ["_law_bag", "_law_free"]) fun _ _ _ _ _ _ us hl => match us, hl with | [_, _], _ => rfl
  have F_l_sides := fun_mk (st := s_l_sides) l25 c25 k25
  have b_l_sides := F_l_sides.binds (ps := ["_law_row"]) fun _ _ _ _ _ _ us hl => match us, hl with | [_], _ => rfl
  have F_l_is_short := fun_mk (st := s_l_is_short) l26 c26 k26
  have b_l_is_short := F_l_is_short.binds (ps := ["_law_piece_here"]) fun _ _ _ _ _ _ us hl => match us, hl with | [_], _ => rfl
  have F_law := fun_mk (st := s_law) l27 c27 k27
  have B_Bl : Bl mg := ⟨PySem.W.mg_none_of X G z_isinstance, PySem.W.mg_none_of X G z_int, PySem.W.mg_none_of X G z_bool, PySem.W.mg_none_of X G z_str, PySem.W.mg_none_of X G z_tuple, PySem.W.mg_none_of X G z_list, PySem.W.mg_none_of X G z_len, PySem.W.mg_none_of X G z_all, PySem.W.mg_none_of X G z_range, PySem.W.mg_none_of X G z_sum, PySem.W.mg_none_of X G z_max, PySem.W.mg_none_of X G z_min⟩
  have B_BlA : BlA mg := ⟨PySem.W.mg_none_of X G z_abs⟩
  refine ⟨PySem.W.fnOf "law" "law" (defArgs s_law) (defBody s_law) (defScope s_law) .none kV27 dc27 pm27 an27 cd27 ct27, fun s v => .of_eq rfl, fun base _ _ => ?_⟩
  have S : StepsAt K w mg := ⟨dS, esS, nS, ⟨lS, kS, oS⟩, PySem.W.mg_of X G aS, fun x hx => hx.elim (fun h => ⟨_, h ▸ e1S⟩) fun hx => hx.elim (fun h => ⟨_, h ▸ e2S⟩) fun hx => hx.elim (fun h => ⟨_, h ▸ e3S⟩) fun h => ⟨_, h ▸ e4S⟩⟩
  have gMC := PySem.W.mg_of X G mMC
  have gMH := PySem.W.mg_of X G mMH
  have g_is_integer := PySem.W.mg_of X G a1
  have g_is_name := PySem.W.mg_of X G a2
  have g_is_command := PySem.W.mg_of X G a3
  have g_is_program := PySem.W.mg_of X G a4
  have g_check_program := PySem.W.mg_of X G a5
  have g_raw_size := PySem.W.mg_of X G a6
  have g_raw_heading := PySem.W.mg_of X G a7
  have g_plain_row := PySem.W.mg_of X G a8
  have g_raw_is_short := PySem.W.mg_of X G a9
  have g_size := PySem.W.mg_of X G a10
  have g_heading := PySem.W.mg_of X G a11
  have g_is_short := PySem.W.mg_of X G a12
  have g_l_bag_of := PySem.W.mg_of X G a13
  have g_l_pick := PySem.W.mg_of X G a14
  have g_l_great_int := PySem.W.mg_of X G a15
  have g_l_tells := PySem.W.mg_of X G a16
  have g_l_some_turn := PySem.W.mg_of X G a17
  have g_l_some_lots := PySem.W.mg_of X G a18
  have g_l_piece := PySem.W.mg_of X G a19
  have g_l_bulk := PySem.W.mg_of X G a20
  have g_l_aim := PySem.W.mg_of X G a21
  have g_l_unroll := PySem.W.mg_of X G a22
  have g_l_tame := PySem.W.mg_of X G a23
  have g_l_layer := PySem.W.mg_of X G a24
  have g_l_sides := PySem.W.mg_of X G a25
  have g_l_is_short := PySem.W.mg_of X G a26
  have g_law := PySem.W.mg_of X G a27
  have h_is_integer : Has l.prog w K mg base "is_integer" 1 ["value"] spIsInt := ⟨_, _, ok_is_integer F_is_integer B_Bl, PySem.W.mg_of X G a1, k1, b_is_integer⟩
  have h_is_name : Has l.prog w K mg base "is_name" 1 ["value"] spIsName := ⟨_, _, ok_is_name F_is_name B_Bl, PySem.W.mg_of X G a2, k2, b_is_name⟩
  have h_is_program : Has l.prog w K mg base "is_program" 27 ["value"] (spIsPr 12) := has_pr F_is_command F_is_program B_Bl S h_is_integer h_is_name g_is_command g_is_program b_is_command b_is_program 13
  have h_check_program : Has l.prog w K mg base "check_program" 28 ["value"] spCheckPr := ⟨_, _, ok_check_program F_check_program h_is_program, PySem.W.mg_of X G a5, k5, b_check_program⟩
  have h_raw_size : Has l.prog w K mg base "raw_size" 13 ["program"] (spNumLt Prog.size 13) := has_size F_raw_size g_raw_size b_raw_size 13
  have h_raw_heading : Has l.prog w K mg base "raw_heading" 13 ["program"] (spNumLt Prog.head 13) := has_head F_raw_heading g_raw_heading b_raw_heading 13
  have hd_plain_row : HasD l.prog w K mg base "plain_row" 13 ["program", "sign"] (spUnLt 13) [.int 1] := ⟨_, _, _, ok_plain_row 12 F_plain_row (has_plain_row F_plain_row g_plain_row b_plain_row 12), g_plain_row, F_plain_row.kp, bdplain_row_1, vdplain_row_1⟩
  have h_raw_is_short : Has l.prog w K mg base "raw_is_short" 14 ["program"] spShort := ⟨_, _, ok_raw_is_short F_raw_is_short B_Bl B_BlA.b_abs gMC gMH h_raw_size hd_plain_row, PySem.W.mg_of X G a9, k9, b_raw_is_short⟩
  have h_size : Has l.prog w K mg base "size" 29 ["program"] (spNum Prog.size) := ⟨_, _, ok_size F_size h_check_program h_raw_size, PySem.W.mg_of X G a10, k10, b_size⟩
  have h_heading : Has l.prog w K mg base "heading" 29 ["program"] (spNum Prog.head) := ⟨_, _, ok_heading F_heading h_check_program h_raw_heading, PySem.W.mg_of X G a11, k11, b_heading⟩
  have h_is_short : Has l.prog w K mg base "is_short" 29 ["program"] spIsShort := ⟨_, _, ok_is_short F_is_short h_check_program h_raw_is_short, PySem.W.mg_of X G a12, k12, b_is_short⟩
  have h_l_bag_of : Has l.prog w K mg base "_law_bag_of" 1 ["_law_cell"] spBagOf := ⟨_, _, ok_l_bag_of F_l_bag_of B_Bl, PySem.W.mg_of X G a13, k13, b_l_bag_of⟩
  have h_l_pick : Has l.prog w K mg base "_law_pick" 1 ["_law_bag", "_law_many"] spPick := ⟨_, _, ok_l_pick F_l_pick B_Bl, PySem.W.mg_of X G a14, k14, b_l_pick⟩
  have h_l_great_int : Has l.prog w K mg base "_law_great_int" 2 ["_law_bag", "_law_digits"] spGreat := ⟨_, _, ok_l_great_int F_l_great_int B_Bl h_l_pick, PySem.W.mg_of X G a15, k15, b_l_great_int⟩
  have h_l_tells : Has l.prog w K mg base "_law_tells" 1 ["_law_found", "_law_due"] spTells := ⟨_, _, ok_l_tells F_l_tells B_Bl, PySem.W.mg_of X G a16, k16, b_l_tells⟩
  have h_l_some_turn : Has l.prog w K mg base "_law_some_turn" 3 ["_law_bag", "_law_wild"] spTurn := ⟨_, _, ok_l_some_turn F_l_some_turn B_Bl h_l_pick h_l_great_int, PySem.W.mg_of X G a17, k17, b_l_some_turn⟩
  have h_l_some_lots : Has l.prog w K mg base "_law_some_lots" 3 ["_law_bag", "_law_free", "_law_wild"] spLots := ⟨_, _, ok_l_some_lots F_l_some_lots B_Bl h_l_pick h_l_great_int, PySem.W.mg_of X G a18, k18, b_l_some_lots⟩
  have h_l_piece : Has l.prog w K mg base "_law_piece" 9 ["_law_bag", "_law_pot", "_law_deep", "_law_free", "_law_wild"] spPiece := ⟨_, _, ok_l_piece_any F_l_piece g_l_piece b_l_piece B_Bl h_l_pick h_l_some_turn h_l_some_lots, PySem.W.mg_of X G a19, k19, b_l_piece⟩
  have h_l_bulk : Has l.prog w K mg base "_law_bulk" 13 ["_law_piece_here"] (spNumLt Prog.size 13) := has_bulk F_l_bulk g_l_bulk b_l_bulk 13
  have h_l_aim : Has l.prog w K mg base "_law_aim" 13 ["_law_piece_here"] (spNumLt Prog.head 13) := has_aim F_l_aim g_l_aim b_l_aim 13
  have h_l_unroll : Has l.prog w K mg base "_law_unroll" 13 ["_law_piece_here", "_law_sign"] (spUnLt 13) := has_unroll F_l_unroll B_Bl g_l_unroll b_l_unroll 13
  have h_l_tame : Has l.prog w K mg base "_law_tame" 14 ["_law_bag", "_law_names"] spTame := ⟨_, _, ok_l_tame F_l_tame B_Bl h_l_pick h_l_piece h_l_bulk h_l_unroll, PySem.W.mg_of X G a23, k23, b_l_tame⟩
  have h_l_layer : Has l.prog w K mg base "_law_layer" 4 ["_law_bag", "_law_free"] spLayer := ⟨_, _, ok_l_layer F_l_layer B_Bl h_l_pick h_l_some_turn h_l_some_lots, PySem.W.mg_of X G a24, k24, b_l_layer⟩
  have h_l_sides : Has l.prog w K mg base "_law_sides" 1 ["_law_row"] spSides := ⟨_, _, ok_l_sides F_l_sides B_Bl, PySem.W.mg_of X G a25, k25, b_l_sides⟩
  have h_l_is_short : Has l.prog w K mg base "_law_is_short" 14 ["_law_piece_here"] spShort := ⟨_, _, ok_l_is_short F_l_is_short B_Bl h_l_bulk h_l_unroll, PySem.W.mg_of X G a26, k26, b_l_is_short⟩
  exact ok_law F_law B_Bl h_l_bag_of h_l_pick h_l_tells h_l_tame h_l_is_short h_l_unroll h_l_aim h_l_layer h_l_sides h_is_short h_size h_heading
end My
open PySem PySem.W PyProof.Rows
set_option maxRecDepth 100000 in
set_option maxHeartbeats 0 in
theorem PySem.Challenge.cw_everyangle_k24_nested_programs_holds : PySem.Challenge.rw_everyangle_k24_nested_programs.Holds := by
  w_on; o_law; k_head; (case hw => w_witness2)
  k_fill
  refine L2.walk_of (l := PySem.Challenge.rw_everyangle_k24_nested_programs) (n := 63) (k := 30) (x := "_law_script") (CX := fun _ => L2.CX0) (sp := fun w => My.spLaw _) rfl (by decide) rfl ⟨rfl, by decide, by decide⟩ (fun w h Y => PySem.W.kIn_of Y) ?F (fun _ _ a ns hl _ hS => ⟨a, ns, rfl, hS, hl, fun _ => rfl⟩) (fun _ _ _ _ _ h => h)
  case F =>
    intro w mg fa h KX G hmg
    refine' My.all_mk KX G hmg ?a1 ?l1 ?c1 ?k1 ?a2 ?l2 ?c2 ?k2 ?a3 ?l3 ?c3 ?k3 ?a4 ?l4 ?c4 ?k4 ?a5 ?l5 ?c5 ?k5 ?a6 ?l6 ?c6 ?k6 ?a7 ?l7 ?c7 ?k7 ?a8 ?l8 ?c8 ?k8 ?d8 ?a9 ?l9 ?c9 ?k9 ?a10 ?l10 ?c10 ?k10 ?a11 ?l11 ?c11 ?k11 ?a12 ?l12 ?c12 ?k12 ?a13 ?l13 ?c13 ?k13 ?a14 ?l14 ?c14 ?k14 ?a15 ?l15 ?c15 ?k15 ?a16 ?l16 ?c16 ?k16 ?a17 ?l17 ?c17 ?k17 ?a18 ?l18 ?c18 ?k18 ?a19 ?l19 ?c19 ?k19 ?a20 ?l20 ?c20 ?k20 ?a21 ?l21 ?c21 ?k21 ?a22 ?l22 ?c22 ?k22 ?a23 ?l23 ?c23 ?k23 ?a24 ?l24 ?c24 ?k24 ?a25 ?l25 ?c25 ?k25 ?a26 ?l26 ?c26 ?k26 ?a27 ?l27 ?c27 ?k27 ?z_abs ?z_all ?z_bool ?z_int ?z_isinstance ?z_len ?z_list ?z_max ?z_min ?z_range ?z_str ?z_sum ?z_tuple ?aS ?lS ?kS ?oS ?e1S ?e2S ?e3S ?e4S ?mMC ?mMH
    (case a1 => k_is); (case l1 => k_is); (case c1 => k_is); (case k1 => k_is); (case a2 => k_is); (case l2 => k_is); (case c2 => k_is); (case k2 => k_is); (case a3 => k_is); (case l3 => k_is); (case c3 => k_is); (case k3 => k_is); (case a4 => k_is); (case l4 => k_is); (case c4 => k_is); (case k4 => k_is); (case a5 => k_is); (case l5 => k_is); (case c5 => k_is); (case k5 => k_is); (case a6 => k_is); (case l6 => k_is); (case c6 => k_is); (case k6 => k_is); (case a7 => k_is); (case l7 => k_is); (case c7 => k_is); (case k7 => k_is); (case a8 => k_is); (case l8 => k_is); (case c8 => k_is); (case k8 => k_is); (case d8 => k_is); (case a9 => k_is); (case l9 => k_is); (case c9 => k_is); (case k9 => k_is); (case a10 => k_is); (case l10 => k_is); (case c10 => k_is); (case k10 => k_is); (case a11 => k_is); (case l11 => k_is); (case c11 => k_is); (case k11 => k_is); (case a12 => k_is); (case l12 => k_is); (case c12 => k_is); (case k12 => k_is); (case a13 => k_is); (case l13 => k_is); (case c13 => k_is); (case k13 => k_is); (case a14 => k_is); (case l14 => k_is); (case c14 => k_is); (case k14 => k_is); (case a15 => k_is); (case l15 => k_is); (case c15 => k_is); (case k15 => k_is); (case a16 => k_is); (case l16 => k_is); (case c16 => k_is); (case k16 => k_is); (case a17 => k_is); (case l17 => k_is); (case c17 => k_is); (case k17 => k_is); (case a18 => k_is); (case l18 => k_is); (case c18 => k_is); (case k18 => k_is); (case a19 => k_is); (case l19 => k_is); (case c19 => k_is); (case k19 => k_is); (case a20 => k_is); (case l20 => k_is); (case c20 => k_is); (case k20 => k_is); (case a21 => k_is); (case l21 => k_is); (case c21 => k_is); (case k21 => k_is); (case a22 => k_is); (case l22 => k_is); (case c22 => k_is); (case k22 => k_is); (case a23 => k_is); (case l23 => k_is); (case c23 => k_is); (case k23 => k_is); (case a24 => k_is); (case l24 => k_is); (case c24 => k_is); (case k24 => k_is); (case a25 => k_is); (case l25 => k_is); (case c25 => k_is); (case k25 => k_is); (case a26 => k_is); (case l26 => k_is); (case c26 => k_is); (case k26 => k_is); (case a27 => k_is); (case l27 => k_is); (case c27 => k_is); (case k27 => k_is); (case z_abs => k_is); (case z_all => k_is); (case z_bool => k_is); (case z_int => k_is); (case z_isinstance => k_is); (case z_len => k_is); (case z_list => k_is); (case z_max => k_is); (case z_min => k_is); (case z_range => k_is); (case z_str => k_is); (case z_sum => k_is); (case z_tuple => k_is); (case aS => k_is); (case lS => k_is); (case kS => k_keys); (case oS => decide); (case e1S => k_is); (case e2S => k_is); (case e3S => k_is); (case e4S => k_is); (case mMC => k_is); (case mMH => k_is)
