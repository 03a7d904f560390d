import PyProof.Rows.All
import Wide.All
import OpenK.AllK
import Wide.FinOn
import HandS.ForMost
import HandS.Wide
import HandS.WideMore
import HandS.Flow
import HandS.IsInst
import HandS.Text
import HandS.More
import KE.KOpsOwn
import HandS.Property
import HandS.SlotsOwn
import HandS.MakeKw
import HandS.Style
import HandS.ExcValue
import HandS.ExcIs
import HandS.Defaults
import HandS.TupAny
import PyProof.StrOps2
import HandS.Exc
import HandS.ExcOwn
import HandS.WordsExc
import HandS.Rev
import HandS.List
import KE.KRevSl
import HandS.SetKeys
import HandS.SortInts
import KE.KOwnIter
import KE.KDictIter
import HandS.IterNext
import PyProof.TwoTypes
import PyProof.FactsAll.int_1
import PyProof.FactsAll.int_3
import PyProof.FactsAll.int_5
import KE.DatumOrd
import KE.DataMinMax
import HandS.SortKw
import HandS.Records
import HandS.Small
import HandS.Set
import HandS.SetFor
import HandS.Strs
import HandS.Conv
import PySem.Challenge.RW_everyangle_k17_dividing
set_option Elab.async false
set_option linter.all false
set_option maxRecDepth 100000
namespace My
open PySem PySem.Spec PyProof.Rows L2

/-! ### a def of the text, by its name -/
structure Has (P : Program) (w : World) (K : PySem.W.Frag) (mg : Str → Option Value) (base : Heap) (x : Str) (k : Nat) (ps : List Str) (sp : Sp) : Prop where
  ex : ∃ f fd, FnOk P w K mg base CX0 k f fd ps sp ∧ mg x = some (.ref f) ∧ PySem.W.keepIn K (.ref f) = true ∧ Binds K fd ps []
theorem Has.mono {P : Program} {w : World} {K : PySem.W.Frag} {mg : Str → Option Value} {base : Heap} {x : Str} {j k : Nat} {ps : List Str} {sp : Sp} (h : Has P w K mg base x j ps sp) (hk : j ≤ k) : Has P w K mg base x k ps sp := by
  obtain ⟨f, fd, F, a, b, c⟩ := h.ex
  exact ⟨f, fd, F.mono hk, a, b, c⟩
section
variable {X : Cx} {k : Nat} {ps : List Str} {sp : Sp} {x : Str} {p pos : Pos} {e : Expr} {es : List Expr} {t : TA}
theorem pe_callH (h : Has X.prog X.w X.K X.mg X.base x k ps sp) (hr : Room k X.A) (ha : PA X (e :: es) t) (hg : Gl X x := by rfl) (hdb : (x == ("__debug__" : Str)) = false := by decide)
   (hs : starEach (e :: es) X.env = (false, eval e X.env) :: starEach es X.env := by rfl) (hplain : (backTo pos (starEach es X.env)).any (·.1) = false := by rfl) :
   PE X (.Call (.Name x p) (e :: es) [] pos) (tCall sp [] E0 t) := by
  obtain ⟨f, fd, F, a, b, c⟩ := h.ex
  exact pe_call F hr hg a b c .nil pass0 ha hdb hs hplain
theorem pe_callH0 (h : Has X.prog X.w X.K X.mg X.base x k ps sp) (hr : Room k X.A) (hg : Gl X x := by rfl) (hdb : (x == ("__debug__" : Str)) = false := by decide) :
   PE X (.Call (.Name x p) [] [] pos) (tCall sp [] E0 tNil) := by
  obtain ⟨f, fd, F, a, b, c⟩ := h.ex
  exact pe_call0 F hr hg a b c .nil pass0 hdb
end
/-- xs[i] read by values, for o[i] op= e -/
theorem pg_list {X : Cx} : PGet X (rIxL X.K) := by
  intro pins s σ H x y v u Q I rx ry h
  obtain ⟨p, xs, i, z, rfl, rfl, hq, he, q⟩ := h
  cases rx
  obtain ⟨t, rfl⟩ := ry
  obtain ⟨its, r, pl, hz⟩ := I.list hq
  obtain ⟨j, h1, h2, h3, h4, h5⟩ := atI_get he
  obtain ⟨w, ew, rw'⟩ := r.get h2
  have hl := r.length
  have hn := line63
  have fin : EP X pins σ Q w s := ⟨z, H, I, rw', q⟩
  by_cases h0 : 0 ≤ i
  · have hj : i.toNat = j := by
      rw [seqIndex_of h0 h5] at h1
      exact Option.some.inj h1
    exact wpAny_getItem_list pl.isList h0 (by omega) (by rw [hj]; simpa using ew) fin
  · have hj : (i + (its.toArray.size : Int)).toNat = j := by
      rw [seqIndex_neg (by omega) h4] at h1
      rw [List.size_toArray, ← hl]
      exact Option.some.inj h1
    exact wpAny_getItem_list_neg pl.isList (by omega) (by rw [List.size_toArray] <;> omega) (by omega) (by rw [hj]; simpa using ew) fin
/-- int(n) of an int, of a truth -/
theorem call_intI {X : Cx} : CallR X (.type "int") (fun xs H Q => ∃ i, xs = [.int i] ∧ Q (.int i) H) := fun pins s σ H xs us Q I r h => call_int1 pins s σ H xs us Q I r (.inl h)
theorem call_intB {X : Cx} : CallR X (.type "int") (fun xs H Q => ∃ k, xs = [.bl k] ∧ Q (.int (if k then 1 else 0)) H) := fun pins s σ H xs us Q I r h => call_int1 pins s σ H xs us Q I r (.inr h)

/-! ### readings, one step at a time -/
section
variable {σ : L2.St} {H : Hp} {Q : VK} {i j : Nat} {v x y : V} {ta tb tc te ti to : TE} {K : PySem.W.Frag}
theorem r_var (e : σ[i]? = some (some v)) (q : Q v H) : tVar i σ H Q := ⟨v, e, q⟩
theorem r_c (q : Q v H) : tC v σ H Q := q
theorem r_op {r : R2} (q : ta σ H fun x H1 => tb σ H1 fun y H2 => r x y H2 Q) : tOp r ta tb σ H Q := q
theorem r_un {r : V → Hp → VK → Prop} (q : ta σ H fun x H1 => r x H1 Q) : tUn r ta σ H Q := q
theorem r_rI {C : Int → Int → Prop} {g : Int → Int → V} {a b : Int} (c : C a b) (q : Q (g a b) H) : rI C g (.int a) (.int b) H Q := ⟨a, b, rfl, rfl, c, q⟩
theorem r_rI0 {g : Int → Int → V} {a b : Int} (q : Q (g a b) H) : rI0 g (.int a) (.int b) H Q := ⟨a, b, rfl, rfl, q⟩
theorem r_rU {g : Int → V} {a : Int} (q : Q (g a) H) : rU g (.int a) H Q := ⟨a, rfl, q⟩
theorem r_eq (s : scal x y = true) (q : Q (.bl (decide (x = y))) H) : rEq x y H Q := ⟨s, q⟩
theorem r_ne (s : scal x y = true) (q : Q (.bl (!decide (x = y))) H) : rNe x y H Q := ⟨s, q⟩
theorem dec_int {a b : Int} : decide (V.int a = V.int b) = decide (a = b) := by
  by_cases h : a = b
  · rw [h]; simp
  · rw [decide_eq_false h, decide_eq_false (fun e => h (V.int.inj e))]
theorem dec_bl {a b : Bool} : decide (V.bl a = V.bl b) = decide (a = b) := by
  by_cases h : a = b
  · rw [h]; simp
  · rw [decide_eq_false h, decide_eq_false (fun e => h (V.bl.inj e))]
theorem dec_str {a b : Str} : decide (V.str a = V.str b) = decide (a = b) := by
  by_cases h : a = b
  · rw [h]; simp
  · rw [decide_eq_false h, decide_eq_false (fun e => h (V.str.inj e))]
theorem r_eqI {a b : Int} (q : Q (.bl (decide (a = b))) H) : rEq (.int a) (.int b) H Q := ⟨rfl, by rw [dec_int]; exact q⟩
theorem r_neI {a b : Int} (q : Q (.bl (!decide (a = b))) H) : rNe (.int a) (.int b) H Q := ⟨rfl, by rw [dec_int]; exact q⟩
theorem r_eqB {a b : Bool} (q : Q (.bl (decide (a = b))) H) : rEq (.bl a) (.bl b) H Q := ⟨rfl, by rw [dec_bl]; exact q⟩
theorem r_neB {a b : Bool} (q : Q (.bl (!decide (a = b))) H) : rNe (.bl a) (.bl b) H Q := ⟨rfl, by rw [dec_bl]; exact q⟩
theorem r_eqS {a b : Str} (q : Q (.bl (decide (a = b))) H) : rEq (.str a) (.str b) H Q := ⟨rfl, by rw [dec_str]; exact q⟩
theorem r_neS {a b : Str} (q : Q (.bl (!decide (a = b))) H) : rNe (.str a) (.str b) H Q := ⟨rfl, by rw [dec_str]; exact q⟩
theorem r_ixL {p : Addr} {xs : List V} {n : Int} (h : SqL K H p xs) (e : atI xs n = some v) (q : Q v H) : rIxL K (.ref p) (.int n) H Q := ⟨p, xs, n, v, rfl, rfl, h, e, q⟩
theorem r_ixT {p : Addr} {xs : List V} {n : Int} (h : SqT K H p xs) (e : atI xs n = some v) (q : Q v H) : rIxT K (.ref p) (.int n) H Q := ⟨p, xs, n, v, rfl, rfl, h, e, q⟩
theorem r_cb {r : List V → Hp → VK → Prop} {t : TA} (q : t σ H fun vs H1 => r vs H1 Q) : tCB r t σ H Q := q
theorem r_call {sp : Sp} {E : XK} {t : TA} (q : t σ H fun vs H1 => sp vs H1 Q E) : tCall sp [] E t σ H Q := by
  unfold tCall
  simpa only [List.append_nil] using q
theorem r_cons {t : TA} {R : List V → Hp → Prop} (q : te σ H fun x H1 => t σ H1 fun xs H2 => R (x :: xs) H2) : tCons te t σ H R := q
theorem r_nil {R : List V → Hp → Prop} (q : R [] H) : tNil σ H R := q
theorem r_lst {t : TA} (q : t σ H fun xs H1 => xs.length ≤ sizeLine ∧ ∀ p, H1 p = none → Q (.ref p) (upd H1 p (.lst xs))) : tLst t σ H Q := q
theorem r_tup {t : TA} (q : t σ H fun xs H1 => xs.length ≤ sizeLine ∧ ∀ p, H1 p = none → Q (.ref p) (upd H1 p (.tup xs))) : tTup t σ H Q := q
theorem small_of {n : Nat} (h : n ≤ 100000) : n ≤ sizeLine := Nat.le_trans h (by decide)
theorem r_new {A : Prop} {n : Nat} (h : n ≤ 100000) (q : A) : n ≤ sizeLine ∧ A := ⟨small_of h, q⟩
theorem r_exbl {b : Bool} {R : Bool → Prop} (q : R b) : ∃ k, V.bl b = V.bl k ∧ R k := ⟨b, rfl, q⟩
theorem r_exint {n : Int} {R : Int → Prop} (q : R n) : ∃ k, [V.int n] = [V.int k] ∧ R k := ⟨n, rfl, q⟩
theorem r_exint2 {n m : Int} {R : Int → Int → Prop} (q : R n m) : ∃ k l, [V.int n, V.int m] = [V.int k, V.int l] ∧ R k l := ⟨n, m, rfl, q⟩
theorem r_exblL {b : Bool} {R : Bool → Prop} (q : R b) : ∃ k, [V.bl b] = [V.bl k] ∧ R k := ⟨b, rfl, q⟩
theorem r_test {t : TE} {R : Bool → Hp → Prop} (q : t σ H fun x H' => ∃ k, x = .bl k ∧ R k H') : tTest t σ H R := q
theorem r_tB {t : TE} {R : Bool → Hp → Prop} (q : t σ H fun x H' => ∃ k, x = .bl k ∧ R k H') : tB t σ H R := q
theorem r_not {t : TT} {R : Bool → Hp → Prop} (q : t σ H fun c H1 => R (!c) H1) : tNot t σ H R := q
theorem r_and {t u : TT} {R : Bool → Hp → Prop} (q : t σ H fun c H1 => if c = true then u σ H1 R else R false H1) : tAnd t u σ H R := q
theorem r_or {t u : TT} {R : Bool → Hp → Prop} (q : t σ H fun c H1 => if c = true then R true H1 else u σ H1 R) : tOr t u σ H R := q
theorem r_andV (q : ta σ H fun x H1 => ∃ c, x = .bl c ∧ if c = true then tb σ H1 Q else Q (.bl false) H1) : tAndV ta tb σ H Q := q
theorem r_orV (q : ta σ H fun x H1 => ∃ c, x = .bl c ∧ if c = true then Q (.bl true) H1 else tb σ H1 Q) : tOrV ta tb σ H Q := q
theorem r_notV (q : ta σ H fun x H1 => ∃ c, x = .bl c ∧ Q (.bl (!c)) H1) : tNotV ta σ H Q := q
theorem r_tif {t : TT} (q : t σ H fun c H1 => if c = true then ta σ H1 Q else tb σ H1 Q) : tIf t ta tb σ H Q := q
theorem r_iteT {A B : Prop} (q : A) : if true = true then A else B := by rw [if_pos rfl]; exact q
theorem r_iteF {A B : Prop} (q : B) : if false = true then A else B := by rw [if_neg Bool.false_ne_true]; exact q
theorem r_ite {b : Bool} {A B : Prop} (q : b = true → A) (q' : b = false → B) : if b = true then A else B := by
  cases b with
  | true => rw [if_pos rfl]; exact q rfl
  | false => rw [if_neg Bool.false_ne_true]; exact q' rfl
theorem r_iteD {c A B : Prop} [Decidable c] (q : c → A) (q' : ¬ c → B) : if decide c = true then A else B := by
  by_cases h : c
  · rw [if_pos (decide_eq_true h)]; exact q h
  · rw [if_neg (by simpa using h)]; exact q' h
theorem r_iteN {c A B : Prop} [Decidable c] (q : ¬ c → A) (q' : c → B) : if (!decide c) = true then A else B := by
  by_cases h : c
  · rw [if_neg (by simpa using h)]; exact q' h
  · rw [if_pos (by simpa using h)]; exact q h
theorem r_iteNT {A B : Prop} (q : B) : if (!true) = true then A else B := r_iteF q
theorem r_iteNF {A B : Prop} (q : A) : if (!false) = true then A else B := r_iteT q
theorem r_iteDT {c A B : Prop} [Decidable c] (h : c) (q : A) : if decide c = true then A else B := by rw [if_pos (decide_eq_true h)]; exact q
theorem r_iteDF {c A B : Prop} [Decidable c] (h : ¬ c) (q : B) : if decide c = true then A else B := by rw [if_neg (by simpa using h)]; exact q
theorem r_iteNDT {c A B : Prop} [Decidable c] (h : ¬ c) (q : A) : if (!decide c) = true then A else B := by rw [if_pos (by simpa using h)]; exact q
theorem r_iteNDF {c A B : Prop} [Decidable c] (h : c) (q : B) : if (!decide c) = true then A else B := by rw [if_neg (by simpa using h)]; exact q
theorem atI2_0 {x y : V} : atI [x, y] 0 = some x := rfl
theorem atI2_1 {x y : V} : atI [x, y] 1 = some y := rfl
/-- a statement, then the rest, with a word between them -/
def tCutM (t u : TS) : TS := fun D σ H => ∃ Mid : L2.St → Hp → Prop, t { D with nx := Mid } σ H ∧ ∀ σ' H', Mid σ' H' → u D σ' H'
theorem pss_cutM {X : Cx} {st : Stmt} {rest : List Stmt} {t u : TS} (h1 : PS X st t) (h2 : PSs X rest u) : PSs X (st :: rest) (tCutM t u) := by
  refine ⟨fun pins s σ H D I h => ?_⟩
  obtain ⟨Mid, hm, hu⟩ := h
  refine wpAny_execs_cons (thn (h1.run pins s σ H { D with nx := Mid } I hm) fun f s1 q => ?_)
  cases f with
  | next =>
    obtain ⟨σ', H', I', q⟩ := q
    exact h2.run pins s1 σ' H' D I' (hu σ' H' q)
  | ret v => exact q
  | brk => exact q
  | cont => exact q
variable {D : Ends} {t u : TS} {g : TG} {c : TT}
theorem r_cut (Mid : L2.St → Hp → Prop) (h : t { D with nx := Mid } σ H) (q : ∀ σ' H', Mid σ' H' → u D σ' H') : tCutM t u D σ H := ⟨Mid, h, q⟩
theorem r_seq (q : t { D with nx := u D } σ H) : tSeq t u D σ H := q
theorem r_next (q : D.nx σ H) : tNext D σ H := q
theorem r_brk (q : D.bk σ H) : tBreak D σ H := q
theorem r_cont (q : D.ct σ H) : tCont D σ H := q
theorem r_asg (q : te σ H fun x H1 => g x σ H1 D.nx) : tAsg te g D σ H := q
theorem r_gname {R : L2.St → Hp → Prop} (q : R (σ.set i (some v)) H) : gName i v σ H R := q
theorem r_ret (q : te σ H D.rt) : tRet te D σ H := q
theorem r_retN (q : D.rt .non H) : tRetN D σ H := q
theorem r_drop (q : te σ H fun _ H1 => D.nx σ H1) : tDrop te D σ H := q
theorem r_if (q : c σ H fun b H1 => if b = true then t D σ H1 else u D σ H1) : tIfS c t u D σ H := q
theorem r_aug {ip : TIp} (e : σ[i]? = some (some x)) (q : te σ H fun y H1 => ip x y H1 fun z H2 => D.nx (σ.set i (some z)) H2) : tAug i te ip D σ H := ⟨x, e, q⟩
theorem r_ipI {f : Int → Int → Int} {a b : Int} (q : Q (.int (f a b)) H) : ipI f (.int a) (.int b) H Q := ⟨a, b, rfl, rfl, q⟩
theorem r_augS {gt : V → V → Hp → VK → Prop} {ip : TIp} {st : TSet} (q : to σ H fun o H1 => ti σ H1 fun i H2 => gt o i H2 fun x H3 => te σ H3 fun y H4 => ip x y H4 fun z H5 => st o i z H5 fun H6 => D.nx σ H6) : tAugS to ti te gt ip st D σ H := q
theorem r_gsub {st : TSet} {R : L2.St → Hp → Prop} (q : to σ H fun o H1 => ti σ H1 fun i H2 => st o i v H2 fun H3 => R σ H3) : gSub to ti st v σ H R := q
theorem r_setL {p : Addr} {xs : List V} {n : Int} {m : Nat} {R : Hp → Prop} (h : H p = some (.lst xs)) (e : ixN xs.length n = some m) (q : R (upd H p (.lst (xs.set m v)))) : rSetL (.ref p) (.int n) v H R := ⟨p, xs, n, m, rfl, rfl, h, e, q⟩
theorem r_par {i j : Nat} {tas : TA} (q : tas σ H fun vs H1 => ∃ v w, vs = [v, w] ∧ D.nx ((σ.set i (some v)).set j (some w)) H1) : tPar i j tas D σ H := q
theorem r_ex2 {v w : V} {R : V → V → Prop} (q : R v w) : ∃ a b, [v, w] = [a, b] ∧ R a b := ⟨v, w, rfl, q⟩
theorem r_bm {T : String} {r : V → List V → Hp → VK → Prop} {tas : TA} (q : to σ H fun x H1 => tyV K T x H1 ∧ tas σ H1 fun xs H2 => r x xs H2 Q) : tBM K T r to tas σ H Q := q
theorem r_tyL {p : Addr} {xs : List V} {A : Prop} (h : H p = some (.lst xs)) (q : A) : tyV K "list" (.ref p) H ∧ A := ⟨.inl ⟨rfl, _, .inl (.inl h)⟩, q⟩
theorem r_append {p : Addr} {xs : List V} (h : H p = some (.lst xs)) (hl : xs.length < 100000) (q : Q .non (upd H p (.lst (xs ++ [v])))) : rAppend (.ref p) [v] H Q := ⟨p, xs, v, rfl, rfl, h, Nat.lt_of_lt_of_le hl (by decide), q⟩
end

/-- f(k = v, ..): all by name, in the parameters' order -/
def gK (us ws : List Value) : List Value := match us with | [] => ws | _ :: _ => []
def gKV (us ws : List V) : List V := match us with | [] => ws | _ :: _ => []
structure HasK (P : Program) (w : World) (K : PySem.W.Frag) (mg : Str → Option Value) (base : Heap) (x : Str) (k : Nat) (ps : List Str) (sp : Sp) : Prop where
  ex : ∃ f fd, FnOk P w K mg base CX0 k f fd ps sp ∧ mg x = some (.ref f) ∧ PySem.W.keepIn K (.ref f) = true ∧ Binds K fd ps [] ∧ KBinds K fd ps ps gK gKV
theorem HasK.has {P : Program} {w : World} {K : PySem.W.Frag} {mg : Str → Option Value} {base : Heap} {x : Str} {k : Nat} {ps : List Str} {sp : Sp} (h : HasK P w K mg base x k ps sp) : Has P w K mg base x k ps sp := by
  obtain ⟨f, fd, F, a, b, c, _⟩ := h.ex
  exact ⟨f, fd, F, a, b, c⟩
theorem kbinds {K : PySem.W.Frag} {fd : FuncData} {ps : List Str} (h : ∀ ws : List Value, ws.length = ps.length → bindArgs fd ⟨[], ps.zip ws⟩ = pure (ps.zip ws)) (h0 : ps ≠ []) : KBinds K fd ps ps gK gKV := ⟨fun s us ws _ hl => by
  cases us with
  | nil => exact .of_eq (h ws hl)
  | cons u r => exact absurd (List.length_eq_zero_iff.mp hl.symm) h0, fun r rz => by
  cases r with
  | nil => exact rz
  | cons _ _ => exact .nil⟩
theorem pe_callHK {X : Cx} {k : Nat} {ps : List Str} {sp : Sp} {x : Str} {p pos : Pos} {kws : List Keyword} {tk : TA} (h : HasK X.prog X.w X.K X.mg X.base x k ps sp) (hr : Room k X.A) (hkw : PK X kws tk) (hg : Gl X x := by rfl)
    (hall : (backToKw pos (keywordEach kws X.env)).all (·.1.isSome) = true := by rfl) (hks : (backToKw pos (keywordEach kws X.env)).filterMap (·.1) = ps := by rfl) (hdb : (x == ("__debug__" : Str)) = false := by decide)
    (hpl : ((backTo pos (starEach [] X.env)).any (·.1) || (backToKw pos (keywordEach kws X.env)).any (·.1.isNone)) = false := by rfl) : PE X (.Call (.Name x p) [] kws pos) (tCall sp [] E0 tk) := by
  obtain ⟨f, fd, F, a, b, c, kb⟩ := h.ex
  refine ⟨fun pins s σ H Q I h => ?_⟩
  refine wpAny_Call_Name_kw (ld_glob I hg a ?_ hdb)
  refine PySem.W.callWith_KW0 (h₀ := X.base) I.ok.mod.kin b hall (thn (hkw.run pos pins s σ H _ I h) fun ws s2 ⟨zs, H2, I2, rz, q2⟩ => ⟨I2.kIn, ?_⟩) hpl
  rw [hks]
  have q2 : sp (zs ++ []) H2 Q E0 := q2
  rw [List.append_nil] at q2
  exact run_fnk (us := []) (vs := []) F hr kb pass0 I2 .nil rz q2

/-! ### isinstance -/
section
variable {H : Hp} {Q : VK} {K : PySem.W.Frag} {x : V}
theorem r_isi {a b : String} {r : Bool} (ty : TyX K H x (.type a)) (k : kitB a b = some r) (q : Q (.bl r) H) : rIsi K [x, .ty b] H Q := ⟨x, .ty b, _, _, r, rfl, .ty b, ty, kit_ty k, q⟩
theorem ty_int {i : Int} : TyX K H (.int i) (.type "int") := .base (.int i)
theorem ty_bl {i : Bool} : TyX K H (.bl i) (.type "bool") := .base (.bl i)
theorem ty_str {i : Str} : TyX K H (.str i) (.type "str") := .base (.str i)
theorem ty_lst {p : Addr} {xs : List V} (h : H p = some (.lst xs)) : TyX K H (.ref p) (.type "list") := .base (.lst h)
theorem ty_tup {p : Addr} {xs : List V} (h : H p = some (.tup xs)) : TyX K H (.ref p) (.type "tuple") := .base (.tup h)
theorem r_isiI {b : String} {r : Bool} {i : Int} (k : kitB "int" b = some r) (q : Q (.bl r) H) : rIsi K [.int i, .ty b] H Q := r_isi ty_int k q
theorem r_isiB {b : String} {r : Bool} {i : Bool} (k : kitB "bool" b = some r) (q : Q (.bl r) H) : rIsi K [.bl i, .ty b] H Q := r_isi ty_bl k q
theorem r_isiS {b : String} {r : Bool} {i : Str} (k : kitB "str" b = some r) (q : Q (.bl r) H) : rIsi K [.str i, .ty b] H Q := r_isi ty_str k q
theorem r_isiL {b : String} {r : Bool} {p : Addr} {xs : List V} (h : H p = some (.lst xs)) (k : kitB "list" b = some r) (q : Q (.bl r) H) : rIsi K [.ref p, .ty b] H Q := r_isi (ty_lst h) k q
theorem r_isiT {b : String} {r : Bool} {p : Addr} {xs : List V} (h : H p = some (.tup xs)) (k : kitB "tuple" b = some r) (q : Q (.bl r) H) : rIsi K [.ref p, .ty b] H Q := r_isi (ty_tup h) k q
end
section
variable {H : Hp} {Q : VK} {K : PySem.W.Frag}
theorem r_is_int_int {i : Int} (q : Q (.bl true) H) : rIsi K [.int i, .ty "int"] H Q := r_isi ty_int (by decide +kernel) q
theorem r_is_int_bool {i : Int} (q : Q (.bl false) H) : rIsi K [.int i, .ty "bool"] H Q := r_isi ty_int (by decide +kernel) q
theorem r_is_int_str {i : Int} (q : Q (.bl false) H) : rIsi K [.int i, .ty "str"] H Q := r_isi ty_int (by decide +kernel) q
theorem r_is_int_list {i : Int} (q : Q (.bl false) H) : rIsi K [.int i, .ty "list"] H Q := r_isi ty_int (by decide +kernel) q
theorem r_is_int_tuple {i : Int} (q : Q (.bl false) H) : rIsi K [.int i, .ty "tuple"] H Q := r_isi ty_int (by decide +kernel) q
theorem r_is_bool_int {i : Bool} (q : Q (.bl true) H) : rIsi K [.bl i, .ty "int"] H Q := r_isi ty_bl (by decide +kernel) q
theorem r_is_bool_bool {i : Bool} (q : Q (.bl true) H) : rIsi K [.bl i, .ty "bool"] H Q := r_isi ty_bl (by decide +kernel) q
theorem r_is_bool_str {i : Bool} (q : Q (.bl false) H) : rIsi K [.bl i, .ty "str"] H Q := r_isi ty_bl (by decide +kernel) q
theorem r_is_bool_list {i : Bool} (q : Q (.bl false) H) : rIsi K [.bl i, .ty "list"] H Q := r_isi ty_bl (by decide +kernel) q
theorem r_is_bool_tuple {i : Bool} (q : Q (.bl false) H) : rIsi K [.bl i, .ty "tuple"] H Q := r_isi ty_bl (by decide +kernel) q
theorem r_is_str_int {i : Str} (q : Q (.bl false) H) : rIsi K [.str i, .ty "int"] H Q := r_isi ty_str (by decide +kernel) q
theorem r_is_str_bool {i : Str} (q : Q (.bl false) H) : rIsi K [.str i, .ty "bool"] H Q := r_isi ty_str (by decide +kernel) q
theorem r_is_str_str {i : Str} (q : Q (.bl true) H) : rIsi K [.str i, .ty "str"] H Q := r_isi ty_str (by decide +kernel) q
theorem r_is_str_list {i : Str} (q : Q (.bl false) H) : rIsi K [.str i, .ty "list"] H Q := r_isi ty_str (by decide +kernel) q
theorem r_is_str_tuple {i : Str} (q : Q (.bl false) H) : rIsi K [.str i, .ty "tuple"] H Q := r_isi ty_str (by decide +kernel) q
theorem r_is_list_int {p : Addr} {xs : List V}  (h : H p = some (.lst xs)) (q : Q (.bl false) H) : rIsi K [.ref p, .ty "int"] H Q := r_isi (ty_lst h) (by decide +kernel) q
theorem r_is_list_bool {p : Addr} {xs : List V}  (h : H p = some (.lst xs)) (q : Q (.bl false) H) : rIsi K [.ref p, .ty "bool"] H Q := r_isi (ty_lst h) (by decide +kernel) q
theorem r_is_list_str {p : Addr} {xs : List V}  (h : H p = some (.lst xs)) (q : Q (.bl false) H) : rIsi K [.ref p, .ty "str"] H Q := r_isi (ty_lst h) (by decide +kernel) q
theorem r_is_list_list {p : Addr} {xs : List V}  (h : H p = some (.lst xs)) (q : Q (.bl true) H) : rIsi K [.ref p, .ty "list"] H Q := r_isi (ty_lst h) (by decide +kernel) q
theorem r_is_list_tuple {p : Addr} {xs : List V}  (h : H p = some (.lst xs)) (q : Q (.bl false) H) : rIsi K [.ref p, .ty "tuple"] H Q := r_isi (ty_lst h) (by decide +kernel) q
theorem r_is_tuple_int {p : Addr} {xs : List V}  (h : H p = some (.tup xs)) (q : Q (.bl false) H) : rIsi K [.ref p, .ty "int"] H Q := r_isi (ty_tup h) (by decide +kernel) q
theorem r_is_tuple_bool {p : Addr} {xs : List V}  (h : H p = some (.tup xs)) (q : Q (.bl false) H) : rIsi K [.ref p, .ty "bool"] H Q := r_isi (ty_tup h) (by decide +kernel) q
theorem r_is_tuple_str {p : Addr} {xs : List V}  (h : H p = some (.tup xs)) (q : Q (.bl false) H) : rIsi K [.ref p, .ty "str"] H Q := r_isi (ty_tup h) (by decide +kernel) q
theorem r_is_tuple_list {p : Addr} {xs : List V}  (h : H p = some (.tup xs)) (q : Q (.bl false) H) : rIsi K [.ref p, .ty "list"] H Q := r_isi (ty_tup h) (by decide +kernel) q
theorem r_is_tuple_tuple {p : Addr} {xs : List V}  (h : H p = some (.tup xs)) (q : Q (.bl true) H) : rIsi K [.ref p, .ty "tuple"] H Q := r_isi (ty_tup h) (by decide +kernel) q
theorem r_is_NoneType_int  (q : Q (.bl false) H) : rIsi K [.non, .ty "int"] H Q := r_isi (.base .non) (by decide +kernel) q
theorem r_is_NoneType_bool  (q : Q (.bl false) H) : rIsi K [.non, .ty "bool"] H Q := r_isi (.base .non) (by decide +kernel) q
theorem r_is_NoneType_str  (q : Q (.bl false) H) : rIsi K [.non, .ty "str"] H Q := r_isi (.base .non) (by decide +kernel) q
theorem r_is_NoneType_list  (q : Q (.bl false) H) : rIsi K [.non, .ty "list"] H Q := r_isi (.base .non) (by decide +kernel) q
theorem r_is_NoneType_tuple  (q : Q (.bl false) H) : rIsi K [.non, .ty "tuple"] H Q := r_isi (.base .non) (by decide +kernel) q
end
/-! ### slices, sums of lists, len -/
section
variable {σ : L2.St} {H : Hp} {Q : VK} {K : PySem.W.Frag} {te : TE} {p b : Addr} {xs zs : List V}
theorem r_sl {r : V → Option Int → Option Int → Hp → VK → Prop} {tl th : TO} (q : te σ H fun x H1 => tl σ H1 fun l H2 => th σ H2 fun u H3 => r x l u H3 Q) : tSl r te tl th σ H Q := q
theorem r_nopart {R : Option Int → Hp → Prop} (q : R none H) : tNoPart σ H R := q
theorem r_part {R : Option Int → Hp → Prop} (q : te σ H fun x H1 => ∃ i, x = .int i ∧ R (some i) H1) : tPart te σ H R := q
theorem r_exI {n : Int} {R : Int → Prop} (q : R n) : ∃ k, V.int n = V.int k ∧ R k := ⟨n, rfl, q⟩
theorem r_slL {lo hi : Option Int} (h : SqL K H p xs) (q : ∀ c, H c = none → Q (.ref c) (upd H c (.lst (cutV xs lo hi)))) : rSlL K (.ref p) lo hi H Q := ⟨p, xs, rfl, h, q⟩
theorem r_cat (h : H p = some (.lst xs)) (h' : H b = some (.lst zs)) (l : xs.length + zs.length ≤ 100000) (q : ∀ c, H c = none → Q (.ref c) (upd H c (.lst (xs ++ zs)))) : rCat (.ref p) (.ref b) H Q := ⟨p, b, xs, zs, rfl, rfl, h, h', small_of l, q⟩
theorem r_sum {ns : List Int} (h : SqL K H p (ns.map V.int)) (q : Q (.int ns.sum) H) : rSum K [.ref p] H Q := ⟨p, ns, rfl, h, q⟩
def rLen (K : PySem.W.Frag) (xs : List V) (H : Hp) (Q : VK) : Prop := ∃ p ys, xs = [.ref p] ∧ (SqL K H p ys ∨ SqT K H p ys) ∧ Q (.int ys.length) H
theorem call_lenQ {X : Cx} : CallR X (.builtin "len") (rLen X.K) := call_len_seq
theorem r_lenL (h : H p = some (.lst xs)) (q : Q (.int xs.length) H) : rLen K [.ref p] H Q := ⟨p, xs, rfl, .inl (.of h), q⟩
theorem r_lenT (h : H p = some (.tup xs)) (q : Q (.int xs.length) H) : rLen K [.ref p] H Q := ⟨p, xs, rfl, .inr (.of h), q⟩
theorem r_gTup {n : Nat} {t : TGs} {R : L2.St → Hp → Prop} (h : H p = some (.tup xs)) (l : xs.length = n) (q : t xs σ H R) : gTup K n t (.ref p) σ H R := ⟨p, xs, rfl, .of h, l, q⟩
theorem r_gCons {t : TG} {u : TGs} {v : V} {R : L2.St → Hp → Prop} (q : t v σ H fun σ' H' => u xs σ' H' R) : gCons t u (v :: xs) σ H R := ⟨v, xs, rfl, q⟩
theorem r_gNil {R : L2.St → Hp → Prop} (q : R σ H) : gNil [] σ H R := ⟨rfl, q⟩
theorem cut_len (lo hi : Option Int) : (cutV xs lo hi).length ≤ xs.length := by
  unfold cutV
  rw [List.length_take, List.length_drop]
  omega
theorem cut_mem {lo hi : Option Int} {x : V} (h : x ∈ cutV xs lo hi) : x ∈ xs := by
  unfold cutV at h
  exact List.mem_of_mem_drop (List.mem_of_mem_take h)
end
theorem sum_cast (l : List Nat) (f : Nat → Nat) : (l.map fun n => (f n : Int)).sum = ((l.map f).sum : Nat) := by
  induction l with
  | nil => rfl
  | cons a r ih => rw [List.map_cons, List.sum_cons, List.map_cons, List.sum_cons, ih, Int.natCast_add]
/-! ### loops -/
section
variable {σ : L2.St} {H : Hp} {Q : VK} {K : PySem.W.Frag} {D : Ends} {tb : TS} {g : TG} {c : TT} {p : Addr} {xs : List V}
theorem r_for {wi : TI} (q : wi σ H fun J H1 => ∃ W : Nat → Nat → L2.St → Hp → Prop, (∃ m, W 0 m σ H1) ∧ ∀ i m σ H, W i m σ H →
  (J.stop i H ∧ D.nx σ H) ∨ (J.go i H ∧ ∃ N : L2.St → Hp → Prop, (∀ σ' H', N σ' H' → ∃ m', m' < m ∧ W (i + 1) m' σ' H') ∧ ∀ x H', J.yld i H x H' → g x σ H' fun σ2 H2 => tb { D with nx := N, ct := N, bk := D.nx } σ2 H2)) : tFor wi g tb D σ H := q
theorem r_iList {tl : TE} {R : It → Hp → Prop} (q : tl σ H fun x H1 => ∃ a, x = .ref a ∧ (∃ xs, SqL K H1 a xs) ∧ R (Itl K a) H1) : iList K tl σ H R := q
theorem r_iTup {tl : TE} {R : It → Hp → Prop} (q : tl σ H fun x H1 => ∃ a, x = .ref a ∧ (∃ xs, SqT K H1 a xs) ∧ R (Itt K a) H1) : iTup K tl σ H R := q
theorem r_iR1 {ta : TA} {R : It → Hp → Prop} (q : ta σ H fun vs H1 => ∃ j : Int, vs = [.int j] ∧ -(2 ^ 62) ≤ j ∧ j < 2 ^ 62 ∧ R (Itr 0 j.toNat) H1) : iRng1 ta σ H R := q
theorem r_iR2 {ta : TA} {R : It → Hp → Prop} (q : ta σ H fun vs H1 => ∃ i j : Int, vs = [.int i, .int j] ∧ (-(2 ^ 62) ≤ i ∧ i < 2 ^ 62 ∧ -(2 ^ 62) ≤ j ∧ j < 2 ^ 62) ∧ R (Itr i (j - i).toNat) H1) : iRng2 ta σ H R := q
theorem u_forL (h : SqL K H p xs) (Pv : Nat → L2.St → Hp → Prop) (h0 : Pv 0 σ H) (hl : ∀ i σ H, i ≤ xs.length → Pv i σ H → SqL K H p xs)
    (hs : ∀ i x σ H, xs[i]? = some x → Pv i σ H → g x σ H fun σ2 H2 => tb { D with nx := Pv (i + 1), ct := Pv (i + 1), bk := D.nx } σ2 H2) (hd : ∀ σ H, Pv xs.length σ H → D.nx σ H) :
    ∃ a, V.ref p = .ref a ∧ (∃ xs, SqL K H a xs) ∧ ∃ W : Nat → Nat → L2.St → Hp → Prop, (∃ m, W 0 m σ H) ∧ ∀ i m σ H, W i m σ H →
      ((Itl K a).stop i H ∧ D.nx σ H) ∨ ((Itl K a).go i H ∧ ∃ N : L2.St → Hp → Prop, (∀ σ' H', N σ' H' → ∃ m', m' < m ∧ W (i + 1) m' σ' H') ∧ ∀ x H', (Itl K a).yld i H x H' → g x σ H' fun σ2 H2 => tb { D with nx := N, ct := N, bk := D.nx } σ2 H2) :=
  ⟨p, rfl, ⟨xs, h⟩, for_list Pv h0 hl hs hd⟩
theorem u_forT (h : SqT K H p xs) (Pv : Nat → L2.St → Hp → Prop) (h0 : Pv 0 σ H) (hl : ∀ i σ H, i ≤ xs.length → Pv i σ H → SqT K H p xs)
    (hs : ∀ i x σ H, xs[i]? = some x → Pv i σ H → g x σ H fun σ2 H2 => tb { D with nx := Pv (i + 1), ct := Pv (i + 1), bk := D.nx } σ2 H2) (hd : ∀ σ H, Pv xs.length σ H → D.nx σ H) :
    ∃ a, V.ref p = .ref a ∧ (∃ xs, SqT K H a xs) ∧ ∃ W : Nat → Nat → L2.St → Hp → Prop, (∃ m, W 0 m σ H) ∧ ∀ i m σ H, W i m σ H →
      ((Itt K a).stop i H ∧ D.nx σ H) ∨ ((Itt K a).go i H ∧ ∃ N : L2.St → Hp → Prop, (∀ σ' H', N σ' H' → ∃ m', m' < m ∧ W (i + 1) m' σ' H') ∧ ∀ x H', (Itt K a).yld i H x H' → g x σ H' fun σ2 H2 => tb { D with nx := N, ct := N, bk := D.nx } σ2 H2) :=
  ⟨p, rfl, ⟨xs, h⟩, for_tup Pv h0 hl hs hd⟩
theorem u_for1 {n : Int} (hb : -(2 ^ 62) ≤ n ∧ n < 2 ^ 62) (Pv : Nat → L2.St → Hp → Prop) (h0 : Pv 0 σ H)
    (hs : ∀ (i : Nat) σ H, (i : Int) < n → Pv i σ H → g (.int (i : Int)) σ H fun σ2 H2 => tb { D with nx := Pv (i + 1), ct := Pv (i + 1), bk := D.nx } σ2 H2) (hd : ∀ σ H, Pv n.toNat σ H → D.nx σ H) :
    -(2 ^ 62) ≤ n ∧ n < 2 ^ 62 ∧ ∃ W : Nat → Nat → L2.St → Hp → Prop, (∃ m, W 0 m σ H) ∧ ∀ i m σ H, W i m σ H →
      ((Itr 0 n.toNat).stop i H ∧ D.nx σ H) ∨ ((Itr 0 n.toNat).go i H ∧ ∃ N : L2.St → Hp → Prop, (∀ σ' H', N σ' H' → ∃ m', m' < m ∧ W (i + 1) m' σ' H') ∧ ∀ x H', (Itr 0 n.toNat).yld i H x H' → g x σ H' fun σ2 H2 => tb { D with nx := N, ct := N, bk := D.nx } σ2 H2) :=
  ⟨hb.1, hb.2, for_range Pv h0 (fun i σ H hi p => by rw [Int.zero_add]; exact hs i σ H (by omega) p) hd⟩
theorem u_for2 {lo n : Int} (hb : -(2 ^ 62) ≤ lo ∧ lo < 2 ^ 62 ∧ -(2 ^ 62) ≤ n ∧ n < 2 ^ 62) (Pv : Nat → L2.St → Hp → Prop) (h0 : Pv 0 σ H)
    (hs : ∀ (i : Nat) σ H, lo + (i : Int) < n → Pv i σ H → g (.int (lo + (i : Int))) σ H fun σ2 H2 => tb { D with nx := Pv (i + 1), ct := Pv (i + 1), bk := D.nx } σ2 H2) (hd : ∀ σ H, Pv (n - lo).toNat σ H → D.nx σ H) :
    (-(2 ^ 62) ≤ lo ∧ lo < 2 ^ 62 ∧ -(2 ^ 62) ≤ n ∧ n < 2 ^ 62) ∧ ∃ W : Nat → Nat → L2.St → Hp → Prop, (∃ m, W 0 m σ H) ∧ ∀ k m σ H, W k m σ H →
      ((Itr lo (n - lo).toNat).stop k H ∧ D.nx σ H) ∨ ((Itr lo (n - lo).toNat).go k H ∧ ∃ N : L2.St → Hp → Prop, (∀ σ' H', N σ' H' → ∃ m', m' < m ∧ W (k + 1) m' σ' H') ∧ ∀ x H', (Itr lo (n - lo).toNat).yld k H x H' → g x σ H' fun σ2 H2 => tb { D with nx := N, ct := N, bk := D.nx } σ2 H2) :=
  ⟨hb, for_range Pv h0 (fun i σ H hi p => hs i σ H (by omega) p) hd⟩
/-- while: W the word by a number that falls -/
theorem u_while (W : Nat → L2.St → Hp → Prop) (m0 : Nat) (h0 : W m0 σ H) (hs : ∀ m σ H, W m σ H →
  c σ H fun b H1 => if b = true then ∃ N : L2.St → Hp → Prop, (∀ σ' H', N σ' H' → ∃ m', m' < m ∧ W m' σ' H') ∧ tb { D with nx := N, ct := N, bk := D.nx } σ H1 else D.nx σ H1) : tWhile c tb D σ H := ⟨W, ⟨m0, h0⟩, hs⟩
theorem u_turn {W : Nat → L2.St → Hp → Prop} {m : Nat} (q : tb { D with nx := fun σ' H' => ∃ m', m' < m ∧ W m' σ' H', ct := fun σ' H' => ∃ m', m' < m ∧ W m' σ' H', bk := D.nx } σ H) :
  ∃ N : L2.St → Hp → Prop, (∀ σ' H', N σ' H' → ∃ m', m' < m ∧ W m' σ' H') ∧ tb { D with nx := N, ct := N, bk := D.nx } σ H := ⟨_, fun _ _ h => h, q⟩
/-- [elt for x in ..]: the word speaks of the list so far and of the heap -/
theorem r_lc {wi : TI} {tt : TT} {te : TE} {vs : List Nat} (q : wi σ H fun J H1 => ∀ D, H1 D = none → ∃ W : Nat → Nat → Hp → Prop, (∃ m, W 0 m (upd H1 D (.lst []))) ∧ ∀ i m H, W i m H →
  (J.stop i H ∧ Q (.ref D) H) ∨ (J.go i H ∧ ∃ Nx : Hp → Prop, (∀ H', Nx H' → ∃ m', m' < m ∧ W (i + 1) m' H') ∧ ∀ x H', J.yld i H x H' → g x (wipe σ vs) H' fun σ2 H2 => wipe σ2 vs = wipe σ vs ∧ tt σ2 H2 fun b H3 =>
    if b = true then te σ2 H3 fun y H4 => ∃ acc, H4 D = some (.lst acc) ∧ acc.length < sizeLine ∧ Nx (upd H4 D (.lst (acc ++ [y]))) else Nx H3)) : tLc wi g tt te vs σ H Q := q
theorem r_yes {R : Bool → Hp → Prop} (q : R true H) : tYes σ H R := q
def LcPush (D : Addr) (I : Addr → Nat → List V → Hp → Prop) (i : Nat) (H : Hp) (y : V) : Prop := ∃ acc, H D = some (.lst acc) ∧ acc.length < sizeLine ∧ ∃ acc', (upd H D (.lst (acc ++ [y]))) D = some (.lst acc') ∧ I D (i + 1) acc' (upd H D (.lst (acc ++ [y])))
def LcSkip (D : Addr) (I : Addr → Nat → List V → Hp → Prop) (i : Nat) (H : Hp) : Prop := ∃ acc, H D = some (.lst acc) ∧ I D (i + 1) acc H
theorem u_push {D : Addr} {I : Addr → Nat → List V → Hp → Prop} {i : Nat} {y : V} {acc : List V} (h : H D = some (.lst acc)) (l : acc.length < 100000) (q : I D (i + 1) (acc ++ [y]) (upd H D (.lst (acc ++ [y])))) : LcPush D I i H y :=
  ⟨acc, h, Nat.lt_of_lt_of_le l (by decide), acc ++ [y], upd_same, q⟩
theorem u_skip {D : Addr} {I : Addr → Nat → List V → Hp → Prop} {i : Nat} {acc : List V} (h : H D = some (.lst acc)) (q : I D (i + 1) acc H) : LcSkip D I i H := ⟨acc, h, q⟩
theorem u_lcL {tt : TT} {te : TE} {vs : List Nat} {Qd : Addr → Hp → Prop} (h : SqL K H p xs) (I : Addr → Nat → List V → Hp → Prop) (h0 : ∀ D, H D = none → I D 0 [] (upd H D (.lst [])))
    (hl : ∀ D i acc H', H D = none → H' D = some (.lst acc) → I D i acc H' → SqL K H' p xs)
    (hs : ∀ D i x acc H', H D = none → xs[i]? = some x → H' D = some (.lst acc) → I D i acc H' → g x (wipe σ vs) H' fun σ2 H2 => wipe σ2 vs = wipe σ vs ∧ tt σ2 H2 fun b H3 => if b = true then te σ2 H3 fun y H4 => LcPush D I i H4 y else LcSkip D I i H3)
    (hd : ∀ D acc H', H D = none → H' D = some (.lst acc) → I D xs.length acc H' → Qd D H') :
    ∃ a, V.ref p = .ref a ∧ (∃ xs, SqL K H a xs) ∧ ∀ D, H D = none → ∃ W : Nat → Nat → Hp → Prop, (∃ m, W 0 m (upd H D (.lst []))) ∧ ∀ i m H, W i m H →
      ((Itl K a).stop i H ∧ Qd D H) ∨ ((Itl K a).go i H ∧ ∃ Nx : Hp → Prop, (∀ H', Nx H' → ∃ m', m' < m ∧ W (i + 1) m' H') ∧ ∀ x H', (Itl K a).yld i H x H' → g x (wipe σ vs) H' fun σ2 H2 => wipe σ2 vs = wipe σ vs ∧ tt σ2 H2 fun b H3 =>
        if b = true then te σ2 H3 fun y H4 => ∃ acc, H4 D = some (.lst acc) ∧ acc.length < sizeLine ∧ Nx (upd H4 D (.lst (acc ++ [y]))) else Nx H3) :=
  ⟨p, rfl, ⟨xs, h⟩, fun D hD => lc_list (xs := xs) (fun i H' => ∃ acc, H' D = some (.lst acc) ∧ I D i acc H') ⟨[], upd_same, h0 D hD⟩ (fun i H' _ ⟨acc, e, q⟩ => hl D i acc H' hD e q)
    (fun i x H' hi ⟨acc, e, q⟩ => hs D i x acc H' hD hi e q) fun H' ⟨acc, e, q⟩ => hd D acc H' hD e q⟩
theorem u_lcT {tt : TT} {te : TE} {vs : List Nat} {Qd : Addr → Hp → Prop} (h : SqT K H p xs) (I : Addr → Nat → List V → Hp → Prop) (h0 : ∀ D, H D = none → I D 0 [] (upd H D (.lst [])))
    (hl : ∀ D i acc H', H D = none → H' D = some (.lst acc) → I D i acc H' → SqT K H' p xs)
    (hs : ∀ D i x acc H', H D = none → xs[i]? = some x → H' D = some (.lst acc) → I D i acc H' → g x (wipe σ vs) H' fun σ2 H2 => wipe σ2 vs = wipe σ vs ∧ tt σ2 H2 fun b H3 => if b = true then te σ2 H3 fun y H4 => LcPush D I i H4 y else LcSkip D I i H3)
    (hd : ∀ D acc H', H D = none → H' D = some (.lst acc) → I D xs.length acc H' → Qd D H') :
    ∃ a, V.ref p = .ref a ∧ (∃ xs, SqT K H a xs) ∧ ∀ D, H D = none → ∃ W : Nat → Nat → Hp → Prop, (∃ m, W 0 m (upd H D (.lst []))) ∧ ∀ i m H, W i m H →
      ((Itt K a).stop i H ∧ Qd D H) ∨ ((Itt K a).go i H ∧ ∃ Nx : Hp → Prop, (∀ H', Nx H' → ∃ m', m' < m ∧ W (i + 1) m' H') ∧ ∀ x H', (Itt K a).yld i H x H' → g x (wipe σ vs) H' fun σ2 H2 => wipe σ2 vs = wipe σ vs ∧ tt σ2 H2 fun b H3 =>
        if b = true then te σ2 H3 fun y H4 => ∃ acc, H4 D = some (.lst acc) ∧ acc.length < sizeLine ∧ Nx (upd H4 D (.lst (acc ++ [y]))) else Nx H3) :=
  ⟨p, rfl, ⟨xs, h⟩, fun D hD => lc_tup (xs := xs) (fun i H' => ∃ acc, H' D = some (.lst acc) ∧ I D i acc H') ⟨[], upd_same, h0 D hD⟩ (fun i H' _ ⟨acc, e, q⟩ => hl D i acc H' hD e q)
    (fun i x H' hi ⟨acc, e, q⟩ => hs D i x acc H' hD hi e q) fun H' ⟨acc, e, q⟩ => hd D acc H' hD e q⟩
theorem u_lc1 {tt : TT} {te : TE} {vs : List Nat} {Qd : Addr → Hp → Prop} {n : Int} (hb : -(2 ^ 62) ≤ n ∧ n < 2 ^ 62) (I : Addr → Nat → List V → Hp → Prop) (h0 : ∀ D, H D = none → I D 0 [] (upd H D (.lst [])))
    (hs : ∀ D (i : Nat) acc H', H D = none → (i : Int) < n → H' D = some (.lst acc) → I D i acc H' → g (.int (i : Int)) (wipe σ vs) H' fun σ2 H2 => wipe σ2 vs = wipe σ vs ∧ tt σ2 H2 fun b H3 => if b = true then te σ2 H3 fun y H4 => LcPush D I i H4 y else LcSkip D I i H3)
    (hd : ∀ D acc H', H D = none → H' D = some (.lst acc) → I D n.toNat acc H' → Qd D H') :
    -(2 ^ 62) ≤ n ∧ n < 2 ^ 62 ∧ ∀ D, H D = none → ∃ W : Nat → Nat → Hp → Prop, (∃ m, W 0 m (upd H D (.lst []))) ∧ ∀ i m H, W i m H →
      ((Itr 0 n.toNat).stop i H ∧ Qd D H) ∨ ((Itr 0 n.toNat).go i H ∧ ∃ Nx : Hp → Prop, (∀ H', Nx H' → ∃ m', m' < m ∧ W (i + 1) m' H') ∧ ∀ x H', (Itr 0 n.toNat).yld i H x H' → g x (wipe σ vs) H' fun σ2 H2 => wipe σ2 vs = wipe σ vs ∧ tt σ2 H2 fun b H3 =>
        if b = true then te σ2 H3 fun y H4 => ∃ acc, H4 D = some (.lst acc) ∧ acc.length < sizeLine ∧ Nx (upd H4 D (.lst (acc ++ [y]))) else Nx H3) :=
  ⟨hb.1, hb.2, fun D hD => lc_range (fun i H' => ∃ acc, H' D = some (.lst acc) ∧ I D i acc H') ⟨[], upd_same, h0 D hD⟩
    (fun i H' hi ⟨acc, e, q⟩ => by rw [Int.zero_add]; exact hs D i acc H' hD (by omega) e q) fun H' ⟨acc, e, q⟩ => hd D acc H' hD e q⟩
theorem u_lc2 {tt : TT} {te : TE} {vs : List Nat} {Qd : Addr → Hp → Prop} {lo n : Int} (hb : -(2 ^ 62) ≤ lo ∧ lo < 2 ^ 62 ∧ -(2 ^ 62) ≤ n ∧ n < 2 ^ 62) (I : Addr → Nat → List V → Hp → Prop) (h0 : ∀ D, H D = none → I D 0 [] (upd H D (.lst [])))
    (hs : ∀ D (i : Nat) acc H', H D = none → lo + (i : Int) < n → H' D = some (.lst acc) → I D i acc H' → g (.int (lo + (i : Int))) (wipe σ vs) H' fun σ2 H2 => wipe σ2 vs = wipe σ vs ∧ tt σ2 H2 fun b H3 => if b = true then te σ2 H3 fun y H4 => LcPush D I i H4 y else LcSkip D I i H3)
    (hd : ∀ D acc H', H D = none → H' D = some (.lst acc) → I D (n - lo).toNat acc H' → Qd D H') :
    (-(2 ^ 62) ≤ lo ∧ lo < 2 ^ 62 ∧ -(2 ^ 62) ≤ n ∧ n < 2 ^ 62) ∧ ∀ D, H D = none → ∃ W : Nat → Nat → Hp → Prop, (∃ m, W 0 m (upd H D (.lst []))) ∧ ∀ k m H, W k m H →
      ((Itr lo (n - lo).toNat).stop k H ∧ Qd D H) ∨ ((Itr lo (n - lo).toNat).go k H ∧ ∃ Nx : Hp → Prop, (∀ H', Nx H' → ∃ m', m' < m ∧ W (k + 1) m' H') ∧ ∀ x H', (Itr lo (n - lo).toNat).yld k H x H' → g x (wipe σ vs) H' fun σ2 H2 => wipe σ2 vs = wipe σ vs ∧ tt σ2 H2 fun b H3 =>
        if b = true then te σ2 H3 fun y H4 => ∃ acc, H4 D = some (.lst acc) ∧ acc.length < sizeLine ∧ Nx (upd H4 D (.lst (acc ++ [y]))) else Nx H3) :=
  ⟨hb, fun D hD => lc_range (fun i H' => ∃ acc, H' D = some (.lst acc) ∧ I D i acc H') ⟨[], upd_same, h0 D hD⟩
    (fun i H' hi ⟨acc, e, q⟩ => hs D i acc H' hD (by omega) e q) fun H' ⟨acc, e, q⟩ => hd D acc H' hD e q⟩
end
/-! ### heaps -/
/-- the heap at a, in words: looked up through stores -/
theorem h_keep {H : Hp} {a p : Addr} {o u : HO} (h : H a = some u) (n : H p = none) : upd H p o a = some u := (upd_ne (ne_of_none h n)).trans h
theorem h_else {H : Hp} {a p : Addr} {o u w : HO} (h : H a = some u) (h' : H p = some w) (d : u ≠ w) : upd H p o a = some u := (upd_ne (ne_of h h' d)).trans h
/-- all that was tracked but what stands at a -/
def But (a : Addr) (H H' : Hp) : Prop := ∀ b o, b ≠ a → H b = some o → H' b = some o
theorem But.refl (a : Addr) (H : Hp) : But a H H := fun _ _ _ h => h
theorem But.trans {a : Addr} {H H1 H2 : Hp} (h : But a H H1) (k : But a H1 H2) : But a H H2 := fun b o n e => k b o n (h b o n e)
theorem But.new {a p : Addr} {H H' : Hp} {o : HO} (h : But a H H') (n : H' p = none) : But a H (upd H' p o) := fun b u nb e => h_keep (h b u nb e) n
theorem But.self {a : Addr} {H H' : Hp} {o : HO} (h : But a H H') : But a H (upd H' a o) := fun b u nb e => (upd_ne nb).trans (h b u nb e)
theorem But.put {a p : Addr} {H H' : Hp} {o : HO} (h : But a H H') (n : H p = none) : But a H (upd H' p o) := fun b u nb e => (upd_ne (ne_of_none e n)).trans (h b u nb e)
theorem fmod_nat (a b : Nat) : (a : Int).fmod (b : Int) = ((a % b : Nat) : Int) := by
  rw [Int.fmod_eq_emod_of_nonneg _ (Int.natCast_nonneg _), Int.natCast_emod]
theorem fdiv_nat (a b : Nat) : (a : Int) / (b : Int) = ((a / b : Nat) : Int) := (Int.natCast_ediv a b).symm
def vints (l : List Nat) : List V := l.map fun (k : Nat) => V.int (k : Int)
theorem vints_app (l m : List Nat) : vints (l ++ m) = vints l ++ vints m := List.map_append
theorem vints_len (l : List Nat) : (vints l).length = l.length := List.length_map _
theorem atI_vints {l : List Nat} {n : Int} (h0 : 0 ≤ n) (h1 : n < l.length) : ∃ k, k ∈ l ∧ atI (vints l) n = some (.int (k : Int)) := by
  have h2 : n.toNat < l.length := by omega
  refine ⟨l[n.toNat], List.getElem_mem h2, ?_⟩
  unfold atI ixN
  rw [if_pos h0, vints_len, if_pos h1]
  show (vints l)[n.toNat]? = _
  unfold vints
  rw [List.getElem?_map, List.getElem?_eq_getElem h2]
  rfl
theorem vints_get {l : List Nat} {i : Nat} {x : V} (h : (vints l)[i]? = some x) : ∃ k, l[i]? = some k ∧ x = .int (k : Int) := by
  unfold vints at h
  rw [List.getElem?_map] at h
  cases e : l[i]? with
  | none => rw [e] at h; cases h
  | some k => rw [e] at h; exact ⟨k, rfl, (Option.some.inj h).symm⟩
theorem Same.at {H H' : Hp} {a : Addr} {o : HO} (s : Same H H') (h : H a = some o) : H' a = some o := s a o h
theorem But.at {H H' : Hp} {a b : Addr} {o : HO} (s : But b H H') (n : a ≠ b) (h : H a = some o) : H' a = some o := s a o n h
theorem log_small {n : Int} (h : n.natAbs < 2 ^ 8000) : n.natAbs.log2 < 9000 := by
  by_cases h0 : n.natAbs = 0
  · rw [h0]; decide
  · exact Nat.lt_of_lt_of_le ((Nat.log2_lt h0).mpr h) (by decide)
theorem Same.new0 {p : Addr} {H : Hp} {o : HO} (n : H p = none) : Same H (upd H p o) := fun b u e => h_keep e n
theorem Same.new {p : Addr} {H H' : Hp} {o : HO} (h : Same H H') (n : H' p = none) : Same H (upd H' p o) := fun b u e => h_keep (h b u e) n
theorem Same.put {p : Addr} {H H' : Hp} {o : HO} (h : Same H H') (n : H p = none) : Same H (upd H' p o) := fun b u e => (upd_ne (ne_of_none e n)).trans (h b u e)
theorem Same.but {H H' : Hp} (h : Same H H') (a : Addr) : But a H H' := fun b u _ e => h b u e
theorem But.free {a p : Addr} {H H' : Hp} (h : But a H H') (n : p ≠ a) (e : H' p = none) : H p = none := by
  cases q : H p with
  | none => rfl
  | some o => rw [h p o n q] at e; cases e
/-- what is new may change -/
theorem Same.but2 {a : Addr} {H H1 H2 : Hp} (s : Same H H1) (n : H a = none) (b : But a H1 H2) : Same H H2 := fun c o e => b c o (ne_of_none e n) (s c o e)
/-- the law's bag: three ints, the second one small -/
def Bag (H : Hp) (a : Addr) : Prop := ∃ x y z : Int, H a = some (.lst [.int x, .int y, .int z]) ∧ 0 ≤ y ∧ y ≤ 2147483647 ∧ 0 ≤ z
theorem Bag.keep {H : Hp} {a p : Addr} {o : HO} (h : Bag H a) (n : H p = none) : Bag (upd H p o) a := by
  obtain ⟨x, y, z, e, r⟩ := h
  exact ⟨x, y, z, h_keep e n, r⟩
theorem Bag.ne {H : Hp} {a p : Addr} (h : Bag H a) (n : H p = none) : p ≠ a := by
  obtain ⟨x, y, z, e, r⟩ := h
  exact (ne_of_none e n).symm
theorem Bag.same {H H' : Hp} {a : Addr} (h : Bag H a) (s : Same H H') : Bag H' a := by
  obtain ⟨x, y, z, e, r⟩ := h
  exact ⟨x, y, z, s _ _ e, r⟩
def spBagOf : Sp := fun vs H Q _ => ∃ c : Int, vs = [.int c] ∧ ∀ p H', H p = none → Same H H' → Bag H' p → Q (.ref p) H'
def spPick : Sp := fun vs H Q _ => ∃ (a : Addr) (n : Int), vs = [.ref a, .int n] ∧ Bag H a ∧ 0 < n ∧ n ≤ 1000000 ∧ ∀ (r : Int) H', 0 ≤ r → r < n → But a H H' → Bag H' a → Q (.int r) H'
theorem u_pick {H : Hp} {Q : VK} {E : XK} {a : Addr} {n : Int} (h : Bag H a) (n0 : 0 < n) (n1 : n ≤ 1000000) (q : ∀ (r : Int) H', 0 ≤ r → r < n → But a H H' → Bag H' a → Q (.int r) H') : spPick [.ref a, .int n] H Q E := ⟨a, n, rfl, h, n0, n1, q⟩
/-- the law's promise: a list of at most 63 ints goes in, True comes out -/
def spLaw (K : PySem.W.Frag) : Sp := fun vs H Q _ => ∃ (a : Addr) (ns : List Int), vs = [.ref a] ∧ SqL K H a (ns.map V.int) ∧ ns.length ≤ 63 ∧ ∀ H', Q (.bl true) H'
/-- the cells of a law's outer loop are ints -/
theorem cells_int {g : Int} {ns : List Int} {lo hi : Option Int} {i : Nat} {x : V} (h : ([V.int g] ++ cutV (ns.map V.int) lo hi)[i]? = some x) : ∃ c, x = .int c := by
  rcases List.mem_append.mp (List.mem_of_getElem? h) with h | h
  · exact ⟨g, List.mem_singleton.mp h⟩
  · obtain ⟨c, _, e⟩ := List.mem_map.mp (cut_mem h)
    exact ⟨c, e.symm⟩
/-! ### the rules that name the written part, with its name given (a comprehension's block has another context) -/
section
variable {X : Cx} {K : PySem.W.Frag}
theorem ix_listK (h : X.K = K := by rfl) : IxR X (rIxL K) := by subst h; exact ix_list
theorem ix_tupK (h : X.K = K := by rfl) : IxR X (rIxT K) := by subst h; exact ix_tup
theorem call_lenK (h : X.K = K := by rfl) : CallR X (.builtin "len") (rLen K) := by subst h; exact call_lenQ
theorem call_isiKK (h : X.K = K := by rfl) : CallR X (.builtin "isinstance") (rIsi K) := by subst h; exact call_isi
theorem call_sumK (hc : X.calm = true := by rfl) (h : X.K = K := by rfl) : CallR X (.builtin "sum") (rSum K) := by subst h; exact cr_sum hc
theorem call_allK (hc : X.calm = true := by rfl) (h : X.K = K := by rfl) : CallR X (.builtin "all") (rAll K) := by subst h; exact cr_all hc
theorem call_anyK (hc : X.calm = true := by rfl) (h : X.K = K := by rfl) : CallR X (.builtin "any") (rAny K) := by subst h; exact cr_any hc
end
end My

set_option Elab.async false
set_option linter.all false
set_option maxRecDepth 400000
namespace My
open PySem PySem.Spec PyProof.Rows L2
/-! ### programs as data -/
inductive Prog where
  | nil
  | step (w n : Str) (r : Prog)
  | turn (k : Int) (r : Prog)
  | rep (k : Int) (b r : Prog)
  | mir (b r : Prog)
namespace Prog
def app : Prog → Prog → Prog
  | .nil, q => q
  | .step w n r, q => .step w n (r.app q)
  | .turn k r, q => .turn k (r.app q)
  | .rep k b r, q => .rep k b (r.app q)
  | .mir b r, q => .mir b (r.app q)
def len : Prog → Nat
  | .nil => 0
  | .step _ _ r => r.len + 1
  | .turn _ r => r.len + 1
  | .rep _ _ r => r.len + 1
  | .mir _ r => r.len + 1
def size : Prog → Int
  | .nil => 0
  | .step _ _ r => 1 + r.size
  | .turn _ r => 1 + r.size
  | .rep k b r => k * b.size + r.size
  | .mir b r => b.size + r.size
def head : Prog → Int
  | .nil => 0
  | .step _ _ r => r.head
  | .turn k r => k + r.head
  | .rep k b r => k * b.head + r.head
  | .mir b r => -b.head + r.head
def times : Nat → Prog → Prog
  | 0, _ => .nil
  | n + 1, p => p.app (times n p)
def unroll : Int → Prog → Prog
  | _, .nil => .nil
  | s, .step w n r => .step w n (unroll s r)
  | s, .turn k r => .turn (s * k) (unroll s r)
  | s, .rep k b r => (times k.toNat (unroll s b)).app (unroll s r)
  | s, .mir b r => (unroll (-s) b).app (unroll s r)
/-- the turns' numbers of a flat program -/
def turns : Prog → List Int
  | .nil => []
  | .step _ _ r => r.turns
  | .turn k r => k :: r.turns
  | .rep _ _ r => r.turns
  | .mir _ r => r.turns
def take : Nat → Prog → Prog
  | 0, _ => .nil
  | _ + 1, .nil => .nil
  | n + 1, .step w m r => .step w m (r.take n)
  | n + 1, .turn k r => .turn k (r.take n)
  | n + 1, .rep k b r => .rep k b (r.take n)
  | n + 1, .mir b r => .mir b (r.take n)
end Prog
def IsWord (w : Str) : Prop := w = "go" ∨ w = "back" ∨ w = "hop" ∨ w = "slip"
/-- one letter from a to z -/
def IsName (n : Str) : Prop := ∃ c : Nat, n = ⟨#[c]⟩ ∧ 97 ≤ c ∧ c ≤ 122
/-- a program nested at most d deep; counts from 1 to C, turns to T of either sign, at most 4000 commands in each repeat or mirror -/
def WfL (L : Nat) (C T : Int) : Nat → Prog → Prop
  | _, .nil => True
  | d, .step w n r => IsWord w ∧ IsName n ∧ WfL L C T d r
  | d, .turn k r => (-T ≤ k ∧ k ≤ T) ∧ WfL L C T d r
  | 0, .rep _ _ _ => False
  | d + 1, .rep k b r => (1 ≤ k ∧ k ≤ C) ∧ (1 ≤ b.len ∧ b.len ≤ L) ∧ WfL L C T d b ∧ WfL L C T (d + 1) r
  | 0, .mir _ _ => False
  | d + 1, .mir b r => (1 ≤ b.len ∧ b.len ≤ L) ∧ WfL L C T d b ∧ WfL L C T (d + 1) r
theorem WfL.app {L : Nat} {C T : Int} : ∀ {d : Nat} {p q : Prog}, WfL L C T d p → WfL L C T d q → WfL L C T d (p.app q)
  | _, .nil, _, _, h => h
  | d, .step w n r, q, h, h' => by
    cases d <;> exact ⟨h.1, h.2.1, WfL.app h.2.2 h'⟩
  | d, .turn k r, q, h, h' => by
    cases d <;> exact ⟨h.1, WfL.app h.2 h'⟩
  | 0, .rep _ _ _, _, h, _ => h.elim
  | d + 1, .rep k b r, q, h, h' => ⟨h.1, h.2.1, h.2.2.1, WfL.app h.2.2.2 h'⟩
  | 0, .mir _ _, _, h, _ => h.elim
  | d + 1, .mir b r, q, h, h' => ⟨h.1, h.2.1, WfL.app h.2.2 h'⟩
theorem WfL.step_iff {L : Nat} {C T : Int} {d : Nat} {w n : Str} {r : Prog} : WfL L C T d (.step w n r) ↔ IsWord w ∧ IsName n ∧ WfL L C T d r := by cases d <;> exact Iff.rfl
theorem WfL.turn_iff {L : Nat} {C T : Int} {d : Nat} {k : Int} {r : Prog} : WfL L C T d (.turn k r) ↔ (-T ≤ k ∧ k ≤ T) ∧ WfL L C T d r := by cases d <;> exact Iff.rfl
theorem WfL.nil {L : Nat} {C T : Int} {d : Nat} : WfL L C T d .nil := by cases d <;> trivial
theorem WfL.mono {L : Nat} {C T C' T' : Int} (hC : C ≤ C') (hT : T ≤ T') : ∀ {d d' : Nat} {p : Prog}, d ≤ d' → WfL L C T d p → WfL L C' T' d' p
  | d, d', .nil, _, _ => WfL.nil
  | d, d', .step w n r, hd, h => WfL.step_iff.mpr ⟨(WfL.step_iff.mp h).1, (WfL.step_iff.mp h).2.1, WfL.mono hC hT hd (WfL.step_iff.mp h).2.2⟩
  | d, d', .turn k r, hd, h => by
    have h := WfL.turn_iff.mp h
    exact WfL.turn_iff.mpr ⟨⟨by omega, by omega⟩, WfL.mono hC hT hd h.2⟩
  | 0, _, .rep _ _ _, _, h => h.elim
  | d + 1, 0, .rep _ _ _, hd, _ => absurd hd (by omega)
  | d + 1, d' + 1, .rep k b r, hd, h => ⟨⟨h.1.1, by have := h.1.2; omega⟩, h.2.1, WfL.mono hC hT (by omega) h.2.2.1, WfL.mono hC hT hd h.2.2.2⟩
  | 0, _, .mir _ _, _, h => h.elim
  | d + 1, 0, .mir _ _, hd, _ => absurd hd (by omega)
  | d + 1, d' + 1, .mir b r, hd, h => ⟨h.1, WfL.mono hC hT (by omega) h.2.1, WfL.mono hC hT hd h.2.2⟩
abbrev Wf := WfL 4000
theorem WfL.wide {L L' : Nat} {C T : Int} (hL : L ≤ L') : ∀ {d : Nat} {p : Prog}, WfL L C T d p → WfL L' C T d p
  | d, .nil, _ => WfL.nil
  | d, .step w n r, h => WfL.step_iff.mpr ⟨(WfL.step_iff.mp h).1, (WfL.step_iff.mp h).2.1, WfL.wide hL (WfL.step_iff.mp h).2.2⟩
  | d, .turn k r, h => WfL.turn_iff.mpr ⟨(WfL.turn_iff.mp h).1, WfL.wide hL (WfL.turn_iff.mp h).2⟩
  | 0, .rep _ _ _, h => h.elim
  | d + 1, .rep k b r, h => ⟨h.1, ⟨h.2.1.1, Nat.le_trans h.2.1.2 hL⟩, WfL.wide hL h.2.2.1, WfL.wide hL h.2.2.2⟩
  | 0, .mir _ _, h => h.elim
  | d + 1, .mir b r, h => ⟨⟨h.1.1, Nat.le_trans h.1.2 hL⟩, WfL.wide hL h.2.1, WfL.wide hL h.2.2⟩
namespace Prog
theorem app_nil : ∀ p : Prog, p.app .nil = p
  | .nil => rfl
  | .step w n r => by rw [app, app_nil r]
  | .turn k r => by rw [app, app_nil r]
  | .rep k b r => by rw [app, app_nil r]
  | .mir b r => by rw [app, app_nil r]
theorem app_assoc : ∀ p q r : Prog, (p.app q).app r = p.app (q.app r)
  | .nil, _, _ => rfl
  | .step w n p, q, r => by rw [app, app, app, app_assoc p q r]
  | .turn k p, q, r => by rw [app, app, app, app_assoc p q r]
  | .rep k b p, q, r => by rw [app, app, app, app_assoc p q r]
  | .mir b p, q, r => by rw [app, app, app, app_assoc p q r]
theorem len_app : ∀ p q : Prog, (p.app q).len = p.len + q.len
  | .nil, q => by rw [app, len, Nat.zero_add]
  | .step w n p, q => by rw [app, len, len, len_app p q]; omega
  | .turn k p, q => by rw [app, len, len, len_app p q]; omega
  | .rep k b p, q => by rw [app, len, len, len_app p q]; omega
  | .mir b p, q => by rw [app, len, len, len_app p q]; omega
theorem size_app : ∀ p q : Prog, (p.app q).size = p.size + q.size
  | .nil, q => by rw [app, size]; omega
  | .step w n p, q => by rw [app, size, size, size_app p q]; omega
  | .turn k p, q => by rw [app, size, size, size_app p q]; omega
  | .rep k b p, q => by rw [app, size, size, size_app p q]; omega
  | .mir b p, q => by rw [app, size, size, size_app p q]; omega
theorem head_app : ∀ p q : Prog, (p.app q).head = p.head + q.head
  | .nil, q => by rw [app, head]; omega
  | .step w n p, q => by rw [app, head, head, head_app p q]
  | .turn k p, q => by rw [app, head, head, head_app p q]; omega
  | .rep k b p, q => by rw [app, head, head, head_app p q]; omega
  | .mir b p, q => by rw [app, head, head, head_app p q]; omega
theorem turns_app : ∀ p q : Prog, (p.app q).turns = p.turns ++ q.turns
  | .nil, q => by rw [app, turns, List.nil_append]
  | .step w n p, q => by rw [app, turns, turns, turns_app p q]
  | .turn k p, q => by rw [app, turns, turns, turns_app p q, List.cons_append]
  | .rep k b p, q => by rw [app, turns, turns, turns_app p q]
  | .mir b p, q => by rw [app, turns, turns, turns_app p q]
theorem size_nonneg {L : Nat} {C T : Int} : ∀ {d : Nat} {p : Prog}, WfL L C T d p → 0 ≤ p.size
  | _, .nil, _ => by rw [size]; omega
  | d, .step w n r, h => by have := size_nonneg (WfL.step_iff.mp h).2.2; rw [size]; omega
  | d, .turn k r, h => by have := size_nonneg (WfL.turn_iff.mp h).2; rw [size]; omega
  | 0, .rep _ _ _, h => h.elim
  | d + 1, .rep k b r, h => by
    have h1 := size_nonneg h.2.2.1
    have h2 := size_nonneg h.2.2.2
    have h3 : 0 ≤ k * b.size := Int.mul_nonneg (by have := h.1.1; omega) h1
    rw [size]; omega
  | 0, .mir _ _, h => h.elim
  | d + 1, .mir b r, h => by
    have h1 := size_nonneg h.2.1
    have h2 := size_nonneg h.2.2
    rw [size]; omega
theorem len_times (n : Nat) (p : Prog) : (times n p).len = n * p.len := by
  induction n with
  | zero => rw [times, len, Nat.zero_mul]
  | succ n ih => rw [times, len_app, ih, Nat.succ_mul]; omega
theorem times_succ : ∀ (n : Nat) (p : Prog), times (n + 1) p = (times n p).app p
  | 0, p => by show p.app .nil = _; rw [app_nil]; rfl
  | n + 1, p => by
    have ih := times_succ n p
    show p.app (times (n + 1) p) = (p.app (times n p)).app p
    rw [ih, app_assoc]
theorem turns_times (n : Nat) (p : Prog) : (times n p).turns.sum = n * p.turns.sum := by
  induction n with
  | zero => rw [times, turns]; simp
  | succ n ih => rw [times, turns_app, List.sum_append, ih, Int.natCast_succ, Int.add_mul]; omega
/-- unrolled it has as many commands as its size -/
theorem len_unroll {L : Nat} {C T : Int} : ∀ {d : Nat} {p : Prog} (s : Int), WfL L C T d p → ((unroll s p).len : Int) = p.size
  | _, .nil, s, _ => by rw [unroll, len, size]; rfl
  | d, .step w n r, s, h => by have := len_unroll s (WfL.step_iff.mp h).2.2; rw [unroll, len, size]; omega
  | d, .turn k r, s, h => by have := len_unroll s (WfL.turn_iff.mp h).2; rw [unroll, len, size]; omega
  | 0, .rep _ _ _, s, h => h.elim
  | d + 1, .rep k b r, s, h => by
    have h1 := len_unroll s h.2.2.1
    have h2 := len_unroll s h.2.2.2
    have hk := h.1.1
    rw [unroll, len_app, len_times, size, ← h1, ← h2, Int.natCast_add, Int.natCast_mul, Int.toNat_of_nonneg (by omega)]
  | 0, .mir _ _, s, h => h.elim
  | d + 1, .mir b r, s, h => by
    have h1 := len_unroll (-s) h.2.1
    have h2 := len_unroll s h.2.2
    rw [unroll, len_app, size]; omega
/-- the sum of its turns -/
theorem turns_unroll {L : Nat} {C T : Int} : ∀ {d : Nat} {p : Prog} (s : Int), WfL L C T d p → (unroll s p).turns.sum = s * p.head
  | _, .nil, s, _ => by rw [unroll, turns, head]; simp
  | d, .step w n r, s, h => by have := turns_unroll s (WfL.step_iff.mp h).2.2; rw [unroll, turns, head]; omega
  | d, .turn k r, s, h => by have := turns_unroll s (WfL.turn_iff.mp h).2; rw [unroll, turns, head, List.sum_cons, this, Int.mul_add]
  | 0, .rep _ _ _, s, h => h.elim
  | d + 1, .rep k b r, s, h => by
    have h1 := turns_unroll s h.2.2.1
    have h2 := turns_unroll s h.2.2.2
    have hk := h.1.1
    rw [unroll, turns_app, List.sum_append, turns_times, h1, h2, head, Int.toNat_of_nonneg (by omega), Int.mul_add, Int.mul_left_comm]
  | 0, .mir _ _, s, h => h.elim
  | d + 1, .mir b r, s, h => by
    have h1 := turns_unroll (-s) h.2.1
    have h2 := turns_unroll s h.2.2
    rw [unroll, turns_app, List.sum_append, h1, h2, head, Int.mul_add, Int.neg_mul, Int.mul_neg]
/-- a flat program: steps and turns alone -/
theorem wf_times {L : Nat} {C T : Int} {d : Nat} {p : Prog} (h : WfL L C T d p) : ∀ n, WfL L C T d (times n p)
  | 0 => WfL.nil
  | n + 1 => WfL.app h (wf_times h n)
theorem wf_unroll {L : Nat} {C T : Int} : ∀ {d : Nat} {p : Prog} {s : Int}, (s = 1 ∨ s = -1) → WfL L C T d p → WfL L C T 0 (unroll s p)
  | _, .nil, s, _, _ => WfL.nil
  | d, .step w n r, s, hs, h => by
    have h := WfL.step_iff.mp h
    exact WfL.step_iff.mpr ⟨h.1, h.2.1, wf_unroll hs h.2.2⟩
  | d, .turn k r, s, hs, h => by
    have h := WfL.turn_iff.mp h
    refine WfL.turn_iff.mpr ⟨?_, wf_unroll hs h.2⟩
    rcases hs with rfl | rfl <;> omega
  | 0, .rep _ _ _, s, _, h => h.elim
  | d + 1, .rep k b r, s, hs, h => WfL.app (wf_times (wf_unroll hs h.2.2.1) _) (wf_unroll hs h.2.2.2)
  | 0, .mir _ _, s, _, h => h.elim
  | d + 1, .mir b r, s, hs, h => WfL.app (wf_unroll (by omega) h.2.1) (wf_unroll hs h.2.2)
theorem wf_take {L : Nat} {C T : Int} : ∀ {n d : Nat} {p : Prog}, WfL L C T d p → WfL L C T d (p.take n)
  | 0, _, p, _ => WfL.nil
  | n + 1, _, .nil, _ => WfL.nil
  | n + 1, d, .step w m r, h => by
    have h := WfL.step_iff.mp h
    exact WfL.step_iff.mpr ⟨h.1, h.2.1, wf_take h.2.2⟩
  | n + 1, d, .turn k r, h => by
    have h := WfL.turn_iff.mp h
    exact WfL.turn_iff.mpr ⟨h.1, wf_take h.2⟩
  | n + 1, 0, .rep _ _ _, h => h.elim
  | n + 1, d + 1, .rep k b r, h => ⟨h.1, h.2.1, h.2.2.1, wf_take h.2.2.2⟩
  | n + 1, 0, .mir _ _, h => h.elim
  | n + 1, d + 1, .mir b r, h => ⟨h.1, h.2.1, wf_take h.2.2⟩
theorem len_take : ∀ (n : Nat) (p : Prog), (p.take n).len = min n p.len
  | 0, p => by rw [take, len]; omega
  | n + 1, .nil => by rw [take, len]; omega
  | n + 1, .step w m r => by rw [take, len, len, len_take n r]; omega
  | n + 1, .turn k r => by rw [take, len, len, len_take n r]; omega
  | n + 1, .rep k b r => by rw [take, len, len, len_take n r]; omega
  | n + 1, .mir b r => by rw [take, len, len, len_take n r]; omega
theorem len_le_size {L : Nat} {C T : Int} : ∀ {d : Nat} {p : Prog}, WfL L C T d p → (p.len : Int) ≤ p.size
  | _, .nil, _ => by rw [size, len]; omega
  | d, .step w n r, h => by have := len_le_size (WfL.step_iff.mp h).2.2; rw [size, len]; omega
  | d, .turn k r, h => by have := len_le_size (WfL.turn_iff.mp h).2; rw [size, len]; omega
  | 0, .rep _ _ _, h => h.elim
  | d + 1, .rep k b r, h => by
    have h1 := len_le_size h.2.2.1
    have h2 := len_le_size h.2.2.2
    have h3 : 1 * 1 ≤ k * b.size := Int.mul_le_mul h.1.1 (by have := h.2.1.1; omega) (by omega) (by have := h.1.1; omega)
    rw [size, len]; omega
  | 0, .mir _ _, h => h.elim
  | d + 1, .mir b r, h => by
    have h1 := len_le_size h.2.1
    have h2 := len_le_size h.2.2
    have := h.1.1
    rw [size, len]; omega
theorem size_flat {L : Nat} {C T : Int} : ∀ {p : Prog}, WfL L C T 0 p → p.size = p.len
  | .nil, _ => by rw [size, len]; rfl
  | .step w n r, h => by have := size_flat (WfL.step_iff.mp h).2.2; rw [size, len]; omega
  | .turn k r, h => by have := size_flat (WfL.turn_iff.mp h).2; rw [size, len]; omega
  | .rep _ _ _, h => h.elim
  | .mir _ _, h => h.elim
/-- how great a size can be -/
theorem size_le {C T : Int} (hC : 1 ≤ C) : ∀ {d : Nat} {p : Prog}, WfL 4000 C T d p → p.size ≤ p.len * (4000 * C) ^ d
  | _, .nil, _ => by rw [size, len]; simp
  | d, .step w n r, h => by
    have h1 := size_le hC (WfL.step_iff.mp h).2.2
    have h2 : (0 : Int) < (4000 * C) ^ d := Int.pow_pos (by omega)
    rw [size, len, Int.natCast_succ, Int.add_mul, Int.one_mul]; omega
  | d, .turn k r, h => by
    have h1 := size_le hC (WfL.turn_iff.mp h).2
    have h2 : (0 : Int) < (4000 * C) ^ d := Int.pow_pos (by omega)
    rw [size, len, Int.natCast_succ, Int.add_mul, Int.one_mul]; omega
  | 0, .rep _ _ _, h => h.elim
  | d + 1, .rep k b r, h => by
    have h1 := size_le hC h.2.2.1
    have h2 := size_le hC h.2.2.2
    have h0 := size_nonneg h.2.2.1
    have hp : (0 : Int) ≤ (4000 * C) ^ d := Int.le_of_lt (Int.pow_pos (by omega))
    have h3 : b.size ≤ 4000 * (4000 * C) ^ d := Int.le_trans h1 (Int.mul_le_mul_of_nonneg_right (by have := h.2.1.2; omega) hp)
    have h4 : k * b.size ≤ C * (4000 * (4000 * C) ^ d) := Int.mul_le_mul h.1.2 h3 h0 (by omega)
    have h5 : C * (4000 * (4000 * C) ^ d) = (4000 * C) ^ (d + 1) := by rw [Int.pow_succ, Int.mul_comm ((4000 * C) ^ d), ← Int.mul_assoc, Int.mul_comm C]
    rw [size, len, Int.natCast_succ, Int.add_mul, Int.one_mul]; omega
  | 0, .mir _ _, h => h.elim
  | d + 1, .mir b r, h => by
    have h1 := size_le hC h.2.1
    have h2 := size_le hC h.2.2
    have hp : (0 : Int) ≤ (4000 * C) ^ d := Int.le_of_lt (Int.pow_pos (by omega))
    have h3 : b.size ≤ 4000 * (4000 * C) ^ d := Int.le_trans h1 (Int.mul_le_mul_of_nonneg_right (by have := h.1.2; omega) hp)
    have h4 : 1 * (4000 * (4000 * C) ^ d) ≤ C * (4000 * (4000 * C) ^ d) := Int.mul_le_mul_of_nonneg_right hC (Int.mul_nonneg (by omega) hp)
    have h5 : C * (4000 * (4000 * C) ^ d) = (4000 * C) ^ (d + 1) := by rw [Int.pow_succ, Int.mul_comm ((4000 * C) ^ d), ← Int.mul_assoc, Int.mul_comm C]
    rw [size, len, Int.natCast_succ, Int.add_mul, Int.one_mul]; omega
/-- how great a heading can be -/
theorem head_le {L : Nat} {C T : Int} (hC : 1 ≤ C) (hT : 0 ≤ T) : ∀ {d : Nat} {p : Prog}, WfL L C T d p → p.head.natAbs ≤ T * p.size
  | _, .nil, _ => by rw [size, head]; simp
  | d, .step w n r, h => by
    have h1 := head_le hC hT (WfL.step_iff.mp h).2.2
    rw [size, head, Int.mul_add, Int.mul_one]; omega
  | d, .turn k r, h => by
    have h0 := (WfL.turn_iff.mp h).1
    have h1 := head_le hC hT (WfL.turn_iff.mp h).2
    rw [size, head, Int.mul_add, Int.mul_one]; omega
  | 0, .rep _ _ _, h => h.elim
  | d + 1, .rep k b r, h => by
    have h1 := head_le hC hT h.2.2.1
    have h2 := head_le hC hT h.2.2.2
    have h3 : ((k * b.head).natAbs : Int) ≤ T * (k * b.size) := by
      rw [Int.natAbs_mul, Int.natCast_mul, Int.mul_left_comm, Int.natAbs_of_nonneg (show 0 ≤ k by have := h.1.1; omega)]
      exact Int.mul_le_mul_of_nonneg_left h1 (by have := h.1.1; omega)
    rw [size, head, Int.mul_add]; omega
  | 0, .mir _ _, h => h.elim
  | d + 1, .mir b r, h => by
    have h1 := head_le hC hT h.2.1
    have h2 := head_le hC hT h.2.2
    rw [size, head, Int.mul_add]; omega
end Prog
end My

set_option Elab.async false
set_option linter.all false
set_option maxRecDepth 100000
namespace My
open PySem PySem.Spec PyProof.Rows L2
/-! ### programs on the heap -/
/-- the tuples stay -/
def Tk (H H' : Hp) : Prop := ∀ c xs, H c = some (.tup xs) → H' c = some (.tup xs)
theorem Tk.refl (H : Hp) : Tk H H := fun _ _ h => h
theorem Tk.trans {H H1 H2 : Hp} (h : Tk H H1) (k : Tk H1 H2) : Tk H H2 := fun c xs e => k c xs (h c xs e)
theorem Tk.same {H H' : Hp} (h : Same H H') : Tk H H' := fun c xs e => h c _ e
theorem Tk.but {H H' : Hp} {a : Addr} (h : But a H H') (b : Bag H a) : Tk H H' := fun c xs e => by
  obtain ⟨x, y, z, ea, _⟩ := b
  exact h c _ (ne_of e ea (by intro z; cases z)) e
theorem Tk.new {H H' : Hp} {p : Addr} {o : HO} (h : Tk H H') (n : H' p = none) : Tk H (upd H' p o) := fun c xs e => h_keep (h c xs e) n
theorem Tk.lst {H H' : Hp} {p : Addr} {l : List V} {o : HO} (h : Tk H H') (n : H' p = some (.lst l)) : Tk H (upd H' p o) := fun c xs e => (upd_ne (ne_of (h c xs e) n (by intro z; cases z))).trans (h c xs e)
def PrAt (H : Hp) : Prog → List V → Prop
  | .nil, xs => xs = []
  | .step w n r, xs => ∃ c ys, xs = .ref c :: ys ∧ H c = some (.tup [.str w, .str n]) ∧ PrAt H r ys
  | .turn k r, xs => ∃ c ys, xs = .ref c :: ys ∧ H c = some (.tup [.str "turn", .int k]) ∧ PrAt H r ys
  | .rep k b r, xs => ∃ c q zs ys, xs = .ref c :: ys ∧ H c = some (.tup [.str "repeat", .int k, .ref q]) ∧ H q = some (.tup zs) ∧ PrAt H b zs ∧ PrAt H r ys
  | .mir b r, xs => ∃ c q zs ys, xs = .ref c :: ys ∧ H c = some (.tup [.str "mirror", .ref q]) ∧ H q = some (.tup zs) ∧ PrAt H b zs ∧ PrAt H r ys
def PrIs (H : Hp) (a : Addr) (p : Prog) : Prop := ∃ xs, H a = some (.tup xs) ∧ PrAt H p xs
theorem PrAt.tk {H H' : Hp} (t : Tk H H') : ∀ {p : Prog} {xs : List V}, PrAt H p xs → PrAt H' p xs
  | .nil, _, h => h
  | .step w n r, _, ⟨c, ys, e, h1, h2⟩ => ⟨c, ys, e, t _ _ h1, h2.tk t⟩
  | .turn k r, _, ⟨c, ys, e, h1, h2⟩ => ⟨c, ys, e, t _ _ h1, h2.tk t⟩
  | .rep k b r, _, ⟨c, q, zs, ys, e, h1, h2, h3, h4⟩ => ⟨c, q, zs, ys, e, t _ _ h1, t _ _ h2, h3.tk t, h4.tk t⟩
  | .mir b r, _, ⟨c, q, zs, ys, e, h1, h2, h3, h4⟩ => ⟨c, q, zs, ys, e, t _ _ h1, t _ _ h2, h3.tk t, h4.tk t⟩
theorem PrIs.tk {H H' : Hp} {a : Addr} {p : Prog} (h : PrIs H a p) (t : Tk H H') : PrIs H' a p := let ⟨xs, e, q⟩ := h; ⟨xs, t _ _ e, q.tk t⟩
theorem PrAt.length {H : Hp} : ∀ {p : Prog} {xs : List V}, PrAt H p xs → xs.length = p.len
  | .nil, _, h => by rw [show _ = [] from h]; rfl
  | .step w n r, _, ⟨c, ys, e, h1, h2⟩ => by rw [e, List.length_cons, h2.length]; rfl
  | .turn k r, _, ⟨c, ys, e, h1, h2⟩ => by rw [e, List.length_cons, h2.length]; rfl
  | .rep k b r, _, ⟨c, q, zs, ys, e, h1, h2, h3, h4⟩ => by rw [e, List.length_cons, h4.length]; rfl
  | .mir b r, _, ⟨c, q, zs, ys, e, h1, h2, h3, h4⟩ => by rw [e, List.length_cons, h4.length]; rfl
theorem PrAt.app {H : Hp} : ∀ {p q : Prog} {xs ys : List V}, PrAt H p xs → PrAt H q ys → PrAt H (p.app q) (xs ++ ys)
  | .nil, q, xs, ys, h, k => by rw [show xs = [] from h]; exact k
  | .step w n r, q, _, ys, ⟨c, zs, e, h1, h2⟩, k => ⟨c, zs ++ ys, by rw [e]; rfl, h1, h2.app k⟩
  | .turn k' r, q, _, ys, ⟨c, zs, e, h1, h2⟩, k => ⟨c, zs ++ ys, by rw [e]; rfl, h1, h2.app k⟩
  | .rep k' b r, q, _, ys, ⟨c, q', zs, ws, e, h1, h2, h3, h4⟩, k => ⟨c, q', zs, ws ++ ys, by rw [e]; rfl, h1, h2, h3, h4.app k⟩
  | .mir b r, q, _, ys, ⟨c, q', zs, ws, e, h1, h2, h3, h4⟩, k => ⟨c, q', zs, ws ++ ys, by rw [e]; rfl, h1, h2, h3, h4.app k⟩
theorem PrAt.take {H : Hp} : ∀ {n : Nat} {p : Prog} {xs : List V}, PrAt H p xs → PrAt H (p.take n) (xs.take n)
  | 0, p, xs, h => by rw [Prog.take, List.take_zero]; rfl
  | n + 1, .nil, xs, h => by rw [show xs = [] from h, Prog.take, List.take_nil]; rfl
  | n + 1, .step w m r, _, ⟨c, zs, e, h1, h2⟩ => ⟨c, zs.take n, by rw [e, List.take_succ_cons], h1, h2.take⟩
  | n + 1, .turn k r, _, ⟨c, zs, e, h1, h2⟩ => ⟨c, zs.take n, by rw [e, List.take_succ_cons], h1, h2.take⟩
  | n + 1, .rep k b r, _, ⟨c, q', zs, ws, e, h1, h2, h3, h4⟩ => ⟨c, q', zs, ws.take n, by rw [e, List.take_succ_cons], h1, h2, h3, h4.take⟩
  | n + 1, .mir b r, _, ⟨c, q', zs, ws, e, h1, h2, h3, h4⟩ => ⟨c, q', zs, ws.take n, by rw [e, List.take_succ_cons], h1, h2, h3, h4.take⟩
/-- x is the first command of r, r' the rest -/
def First (H : Hp) : Prog → V → Prog → Prop
  | .nil, _, _ => False
  | .step w n r, x, r' => ∃ c, x = .ref c ∧ H c = some (.tup [.str w, .str n]) ∧ r' = r
  | .turn k r, x, r' => ∃ c, x = .ref c ∧ H c = some (.tup [.str "turn", .int k]) ∧ r' = r
  | .rep k b r, x, r' => ∃ c q, x = .ref c ∧ H c = some (.tup [.str "repeat", .int k, .ref q]) ∧ PrIs H q b ∧ r' = r
  | .mir b r, x, r' => ∃ c q, x = .ref c ∧ H c = some (.tup [.str "mirror", .ref q]) ∧ PrIs H q b ∧ r' = r
theorem First.tk {H H' : Hp} {r r' : Prog} {x : V} (h : First H r x r') (t : Tk H H') : First H' r x r' := by
  cases r with
  | nil => exact h.elim
  | step w n r => obtain ⟨c, e, h1, e2⟩ := h; exact ⟨c, e, t _ _ h1, e2⟩
  | turn k r => obtain ⟨c, e, h1, e2⟩ := h; exact ⟨c, e, t _ _ h1, e2⟩
  | rep k b r => obtain ⟨c, q, e, h1, h2, e2⟩ := h; exact ⟨c, q, e, t _ _ h1, h2.tk t, e2⟩
  | mir b r => obtain ⟨c, q, e, h1, h2, e2⟩ := h; exact ⟨c, q, e, t _ _ h1, h2.tk t, e2⟩
theorem PrAt.first {H : Hp} {r : Prog} {x : V} {ys : List V} (h : PrAt H r (x :: ys)) : ∃ r', First H r x r' ∧ PrAt H r' ys := by
  cases r with
  | nil => cases (show (x :: ys) = [] from h)
  | step w n r => obtain ⟨c, zs, e, h1, h2⟩ := h; cases e; exact ⟨r, ⟨c, rfl, h1, rfl⟩, h2⟩
  | turn k r => obtain ⟨c, zs, e, h1, h2⟩ := h; cases e; exact ⟨r, ⟨c, rfl, h1, rfl⟩, h2⟩
  | rep k b r => obtain ⟨c, q, zs, ws, e, h1, h2, h3, h4⟩ := h; cases e; exact ⟨r, ⟨c, q, rfl, h1, ⟨zs, h2, h3⟩, rfl⟩, h4⟩
  | mir b r => obtain ⟨c, q, zs, ws, e, h1, h2, h3, h4⟩ := h; cases e; exact ⟨r, ⟨c, q, rfl, h1, ⟨zs, h2, h3⟩, rfl⟩, h4⟩
theorem PrAt.cons {H : Hp} {r r' : Prog} {x : V} {ys : List V} (h : First H r x r') (k : PrAt H r' ys) : PrAt H r (x :: ys) := by
  cases r with
  | nil => exact h.elim
  | step w n r => obtain ⟨c, rfl, h1, rfl⟩ := h; exact ⟨c, ys, rfl, h1, k⟩
  | turn n r => obtain ⟨c, rfl, h1, rfl⟩ := h; exact ⟨c, ys, rfl, h1, k⟩
  | rep n b r => obtain ⟨c, q, rfl, h1, ⟨zs, h2, h3⟩, rfl⟩ := h; exact ⟨c, q, zs, ys, rfl, h1, h2, h3, k⟩
  | mir b r => obtain ⟨c, q, rfl, h1, ⟨zs, h2, h3⟩, rfl⟩ := h; exact ⟨c, q, zs, ys, rfl, h1, h2, h3, k⟩
theorem drop_cons {α : Type} {xs : List α} {i : Nat} {x : α} (h : xs[i]? = some x) : xs.drop i = x :: xs.drop (i + 1) := by
  obtain ⟨hi, e⟩ := List.getElem?_eq_some_iff.mp h
  rw [← e]
  exact List.drop_eq_getElem_cons hi
section
variable {σ : L2.St} {H : Hp} {K : PySem.W.Frag} {D : Ends} {tb : TS} {g : TG} {a : Addr} {xs : List V} {p : Prog}
/-- for command in program -/
theorem u_forPr (h : H a = some (.tup xs)) (hp : PrAt H p xs) (I : Prog → L2.St → Hp → Prop) (h0 : I p σ H) (hk : ∀ r σ H', I r σ H' → Tk H H')
    (hs : ∀ x r r' σ H', First H' r x r' → I r σ H' → g x σ H' fun σ2 H2 => tb { D with nx := I r', ct := I r', bk := D.nx } σ2 H2) (hd : ∀ σ H', I .nil σ H' → D.nx σ H') :
    ∃ b, V.ref a = .ref b ∧ (∃ xs, SqT K H b xs) ∧ ∃ W : Nat → Nat → L2.St → Hp → Prop, (∃ m, W 0 m σ H) ∧ ∀ i m σ H, W i m σ H →
      ((Itt K b).stop i H ∧ D.nx σ H) ∨ ((Itt K b).go i H ∧ ∃ N : L2.St → Hp → Prop, (∀ σ' H', N σ' H' → ∃ m', m' < m ∧ W (i + 1) m' σ' H') ∧ ∀ x H', (Itt K b).yld i H x H' → g x σ H' fun σ2 H2 => tb { D with nx := N, ct := N, bk := D.nx } σ2 H2) := by
  refine ⟨a, rfl, ⟨xs, .of h⟩, ⟨fun i m σ' H' => m = xs.length - i ∧ i ≤ xs.length ∧ ∃ r, PrAt H r (xs.drop i) ∧ I r σ' H', ⟨xs.length, by simp, Nat.zero_le _, p, hp, h0⟩, ?_⟩⟩
  rintro i m σ' H' ⟨rfl, hi, r, hr, ir⟩
  have hT : SqT K H' a xs := .of (hk _ _ _ ir _ _ h)
  by_cases hlt : i < xs.length
  · have hx : xs[i]? = some xs[i] := List.getElem?_eq_getElem hlt
    rw [drop_cons hx] at hr
    obtain ⟨r', f, hr'⟩ := hr.first
    refine .inr ⟨⟨xs, xs[i], hT, hx⟩, I r', fun σ2 H2 q => ⟨_, by omega, rfl, hlt, r', hr', q⟩, fun x H2 hy => ?_⟩
    obtain ⟨rfl, fx⟩ := hy
    have ex : x = xs[i] := Option.some.inj ((fx xs hT).symm.trans hx)
    subst ex
    exact hs _ r r' _ _ (f.tk (hk _ _ _ ir)) ir
  · have e : i = xs.length := by omega
    subst e
    rw [List.drop_length] at hr
    have hn : r = .nil := by
      cases r with
      | nil => rfl
      | step w n r => obtain ⟨c, zs, e, _⟩ := hr; cases e
      | turn k r => obtain ⟨c, zs, e, _⟩ := hr; cases e
      | rep k b r => obtain ⟨c, q, zs, ws, e, _⟩ := hr; cases e
      | mir b r => obtain ⟨c, q, zs, ws, e, _⟩ := hr; cases e
    subst hn
    exact .inl ⟨⟨xs, hT, Nat.le_refl _⟩, hd _ _ ir⟩
/-- [.. for command in program] -/
theorem u_lcPr {tt : TT} {te : TE} {vs : List Nat} {Qd : Addr → Hp → Prop} (h : H a = some (.tup xs)) (hp : PrAt H p xs) (I : Addr → Prog → List V → Hp → Prop) (h0 : ∀ D, H D = none → I D p [] (upd H D (.lst [])))
    (hk : ∀ D r acc H', H D = none → I D r acc H' → Tk H H')
    (hs : ∀ D x r r' acc H', H D = none → First H' r x r' → H' D = some (.lst acc) → I D r acc H' → g x (wipe σ vs) H' fun σ2 H2 => wipe σ2 vs = wipe σ vs ∧ tt σ2 H2 fun b H3 => if b = true then te σ2 H3 fun y H4 => LcPush D (fun D _ acc H' => I D r' acc H') 0 H4 y else LcSkip D (fun D _ acc H' => I D r' acc H') 0 H3)
    (hd : ∀ D acc H', H D = none → H' D = some (.lst acc) → I D .nil acc H' → Qd D H') :
    ∃ b, V.ref a = .ref b ∧ (∃ xs, SqT K H b xs) ∧ ∀ D, H D = none → ∃ W : Nat → Nat → Hp → Prop, (∃ m, W 0 m (upd H D (.lst []))) ∧ ∀ i m H, W i m H →
      ((Itt K b).stop i H ∧ Qd D H) ∨ ((Itt K b).go i H ∧ ∃ Nx : Hp → Prop, (∀ H', Nx H' → ∃ m', m' < m ∧ W (i + 1) m' H') ∧ ∀ x H', (Itt K b).yld i H x H' → g x (wipe σ vs) H' fun σ2 H2 => wipe σ2 vs = wipe σ vs ∧ tt σ2 H2 fun b H3 =>
        if b = true then te σ2 H3 fun y H4 => ∃ acc, H4 D = some (.lst acc) ∧ acc.length < sizeLine ∧ Nx (upd H4 D (.lst (acc ++ [y]))) else Nx H3) := by
  refine ⟨a, rfl, ⟨xs, .of h⟩, fun D hD => ⟨fun i m H' => m = xs.length - i ∧ i ≤ xs.length ∧ ∃ r acc, PrAt H r (xs.drop i) ∧ H' D = some (.lst acc) ∧ I D r acc H', ⟨xs.length, by simp, Nat.zero_le _, p, [], hp, upd_same, h0 D hD⟩, ?_⟩⟩
  rintro i m H' ⟨rfl, hi, r, acc, hr, ha, ir⟩
  have hT : SqT K H' a xs := .of (hk _ _ _ _ hD ir _ _ h)
  by_cases hlt : i < xs.length
  · have hx : xs[i]? = some xs[i] := List.getElem?_eq_getElem hlt
    rw [drop_cons hx] at hr
    obtain ⟨r', f, hr'⟩ := hr.first
    refine .inr ⟨⟨xs, xs[i], hT, hx⟩, fun H2 => ∃ acc, H2 D = some (.lst acc) ∧ I D r' acc H2, fun H2 ⟨acc', h1, q⟩ => ⟨_, by omega, rfl, hlt, r', acc', hr', h1, q⟩, fun x H2 hy => ?_⟩
    obtain ⟨rfl, fx⟩ := hy
    have ex : x = xs[i] := Option.some.inj ((fx xs hT).symm.trans hx)
    subst ex
    exact hs D _ r r' acc _ hD (f.tk (hk _ _ _ _ hD ir)) ha ir
  · have e : i = xs.length := by omega
    subst e
    rw [List.drop_length] at hr
    have hn : r = .nil := by
      cases r with
      | nil => rfl
      | step w n r => obtain ⟨c, zs, e, _⟩ := hr; cases e
      | turn k r => obtain ⟨c, zs, e, _⟩ := hr; cases e
      | rep k b r => obtain ⟨c, q, zs, ws, e, _⟩ := hr; cases e
      | mir b r => obtain ⟨c, q, zs, ws, e, _⟩ := hr; cases e
    subst hn
    exact .inl ⟨⟨xs, hT, Nat.le_refl _⟩, hd _ _ _ hD ha ir⟩
/-- [.. for command in a list of commands] -/
theorem u_lcPrL {tt : TT} {te : TE} {vs : List Nat} {Qd : Addr → Hp → Prop} (h : H a = some (.lst xs)) (hp : PrAt H p xs) (I : Addr → Prog → List V → Hp → Prop) (h0 : ∀ D, H D = none → I D p [] (upd H D (.lst [])))
    (hk : ∀ D r acc H', H D = none → I D r acc H' → Tk H H' ∧ H' a = some (.lst xs))
    (hs : ∀ D x r r' acc H', H D = none → First H' r x r' → H' D = some (.lst acc) → I D r acc H' → g x (wipe σ vs) H' fun σ2 H2 => wipe σ2 vs = wipe σ vs ∧ tt σ2 H2 fun b H3 => if b = true then te σ2 H3 fun y H4 => LcPush D (fun D _ acc H' => I D r' acc H') 0 H4 y else LcSkip D (fun D _ acc H' => I D r' acc H') 0 H3)
    (hd : ∀ D acc H', H D = none → H' D = some (.lst acc) → I D .nil acc H' → Qd D H') :
    ∃ b, V.ref a = .ref b ∧ (∃ xs, SqL K H b xs) ∧ ∀ D, H D = none → ∃ W : Nat → Nat → Hp → Prop, (∃ m, W 0 m (upd H D (.lst []))) ∧ ∀ i m H, W i m H →
      ((Itl K b).stop i H ∧ Qd D H) ∨ ((Itl K b).go i H ∧ ∃ Nx : Hp → Prop, (∀ H', Nx H' → ∃ m', m' < m ∧ W (i + 1) m' H') ∧ ∀ x H', (Itl K b).yld i H x H' → g x (wipe σ vs) H' fun σ2 H2 => wipe σ2 vs = wipe σ vs ∧ tt σ2 H2 fun b H3 =>
        if b = true then te σ2 H3 fun y H4 => ∃ acc, H4 D = some (.lst acc) ∧ acc.length < sizeLine ∧ Nx (upd H4 D (.lst (acc ++ [y]))) else Nx H3) := by
  refine ⟨a, rfl, ⟨xs, .of h⟩, fun D hD => ⟨fun i m H' => m = xs.length - i ∧ i ≤ xs.length ∧ ∃ r acc, PrAt H r (xs.drop i) ∧ H' D = some (.lst acc) ∧ I D r acc H', ⟨xs.length, by simp, Nat.zero_le _, p, [], hp, upd_same, h0 D hD⟩, ?_⟩⟩
  rintro i m H' ⟨rfl, hi, r, acc, hr, ha, ir⟩
  have hT : SqL K H' a xs := .of (hk _ _ _ _ hD ir).2
  by_cases hlt : i < xs.length
  · have hx : xs[i]? = some xs[i] := List.getElem?_eq_getElem hlt
    rw [drop_cons hx] at hr
    obtain ⟨r', f, hr'⟩ := hr.first
    refine .inr ⟨⟨xs, xs[i], hT, hx⟩, fun H2 => ∃ acc, H2 D = some (.lst acc) ∧ I D r' acc H2, fun H2 ⟨acc', h1, q⟩ => ⟨_, by omega, rfl, hlt, r', acc', hr', h1, q⟩, fun x H2 hy => ?_⟩
    obtain ⟨rfl, fx⟩ := hy
    have ex : x = xs[i] := Option.some.inj ((fx xs hT).symm.trans hx)
    subst ex
    exact hs D _ r r' acc _ hD (f.tk (hk _ _ _ _ hD ir).1) ha ir
  · have e : i = xs.length := by omega
    subst e
    rw [List.drop_length] at hr
    have hn : r = .nil := by
      cases r with
      | nil => rfl
      | step w n r => obtain ⟨c, zs, e, _⟩ := hr; cases e
      | turn k r => obtain ⟨c, zs, e, _⟩ := hr; cases e
      | rep k b r => obtain ⟨c, q, zs, ws, e, _⟩ := hr; cases e
      | mir b r => obtain ⟨c, q, zs, ws, e, _⟩ := hr; cases e
    subst hn
    exact .inl ⟨⟨xs, hT, Nat.le_refl _⟩, hd _ _ _ hD ha ir⟩
end
theorem cut_take (xs : List V) (n : Nat) : cutV xs none (some (n : Int)) = xs.take n := by
  unfold cutV
  rw [HT.sIx_none, HT.sIx_nat, List.drop_zero, Nat.sub_zero]
  by_cases h : n ≤ xs.length
  · rw [Nat.min_eq_left h]
  · rw [Nat.min_eq_right (by omega), List.take_length, List.take_of_length_le (by omega)]
/-! ### texts -/
section
variable {σ : L2.St} {H : Hp} {Q : VK} {K : PySem.W.Frag} {ta tb tc : TE} {p : Addr}
def rLenS (xs : List V) (H : Hp) (Q : VK) : Prop := ∃ z : Str, xs = [.str z] ∧ z.length ≤ sizeLine ∧ Q (.int z.length) H
theorem call_lenS {X : Cx} : CallR X (.builtin "len") rLenS := call_len_str
theorem r_lenS {z : Str} (l : z.length ≤ 100000) (q : Q (.int z.length) H) : rLenS [.str z] H Q := ⟨z, rfl, small_of l, q⟩
def rLeS : R2 := fun x y H Q => ∃ i j : Str, x = .str i ∧ y = .str j ∧ Q (.bl (!decide (j.cps.toList < i.cps.toList))) H
theorem op_leS {X : Cx} : OpR X (compareOp .LtE) rLeS := op_le_str
theorem r_leS {i j : Str} (q : Q (.bl (!decide (j.cps.toList < i.cps.toList))) H) : rLeS (.str i) (.str j) H Q := ⟨i, j, rfl, rfl, q⟩
theorem r_chain {r r' : R2} (q : ta σ H fun x H1 => tb σ H1 fun y H2 => r x y H2 fun z H3 => ∃ k, z = .bl k ∧ (if k = true then tc σ H3 fun w' H4 => r' y w' H4 Q else Q (.bl false) H3)) : tChain r r' ta tb tc σ H Q := q
theorem r_ixS {z : Str} {n : Int} {c : Nat} (l : z.length ≤ 100000) (e : atI z.cps.toList n = some c) (q : Q (.str ⟨#[c]⟩) H) : rIxS (.str z) (.int n) H Q := ⟨z, n, c, rfl, rfl, small_of l, e, q⟩
theorem r_all {bs : List Bool} (h : SqL K H p (bs.map V.bl)) (q : Q (.bl (bs.all id)) H) : rAll K [.ref p] H Q := ⟨p, bs, rfl, h, q⟩
theorem r_any {bs : List Bool} (h : SqL K H p (bs.map V.bl)) (q : Q (.bl (bs.any id)) H) : rAny K [.ref p] H Q := ⟨p, bs, rfl, h, q⟩
end
/-! ### tuples and lists of things that stand -/
section
variable {σ : L2.St} {H : Hp} {Q : VK} {K : PySem.W.Frag} {to te : TE} {p b : Addr} {xs ys : List V}
def rTupL (K : PySem.W.Frag) (vs : List V) (H : Hp) (Q : VK) : Prop := ∃ p ys, vs = [.ref p] ∧ SqL K H p ys ∧ ∀ l, H l = none → Q (.ref l) (upd H l (.tup ys))
theorem call_tupL {X : Cx} : CallR X (.type "tuple") (rTupL X.K) := fun pins s σ H xs us Q I r ⟨p, ys, e, h, q⟩ => call_tuple_of pins s σ H xs us Q I r ⟨p, ys, e, .inl ⟨h, q⟩⟩
theorem r_tupL (h : H p = some (.lst xs)) (q : ∀ l, H l = none → Q (.ref l) (upd H l (.tup xs))) : rTupL K [.ref p] H Q := ⟨p, xs, rfl, .of h, q⟩
theorem r_extend (h : H p = some (.lst xs)) (h' : H b = some (.lst ys)) (l : xs.length + ys.length ≤ 16000000) (q : Q .non (upd H p (.lst (xs ++ ys)))) : rExtend (.ref p) [.ref b] H Q := ⟨p, b, xs, ys, rfl, rfl, h, h', Nat.le_trans l (by decide), q⟩
theorem r_appendB {v : V} (h : H p = some (.lst xs)) (hl : xs.length < 16000000) (q : Q .non (upd H p (.lst (xs ++ [v])))) : rAppend (.ref p) [v] H Q := ⟨p, xs, v, rfl, rfl, h, Nat.lt_of_lt_of_le hl (by decide), q⟩
def rListT (K : PySem.W.Frag) (vs : List V) (H : Hp) (Q : VK) : Prop := ∃ p ys, vs = [.ref p] ∧ (SqL K H p ys ∨ SqT K H p ys) ∧ ∀ l, H l = none → Q (.ref l) (upd H l (.lst ys))
theorem call_listT {X : Cx} : CallR X (.type "list") (rListT X.K) := call_list_of
theorem r_listL (h : H p = some (.lst xs)) (q : ∀ l, H l = none → Q (.ref l) (upd H l (.lst xs))) : rListT K [.ref p] H Q := ⟨p, xs, rfl, .inl (.of h), q⟩
theorem r_listT (h : H p = some (.tup xs)) (q : ∀ l, H l = none → Q (.ref l) (upd H l (.lst xs))) : rListT K [.ref p] H Q := ⟨p, xs, rfl, .inr (.of h), q⟩
theorem r_catT (h : H p = some (.tup xs)) (h' : H b = some (.tup ys)) (hx : xs ≠ []) (hy : ys ≠ []) (l : xs.length + ys.length ≤ 100000) (q : ∀ c, H c = none → Q (.ref c) (upd H c (.tup (xs ++ ys)))) : rCatT K (.ref p) (.ref b) H Q :=
  ⟨p, b, xs, ys, rfl, rfl, .of h, .of h', hx, small_of l, fun e => absurd e hy, fun _ => q⟩
theorem r_tM1 {r : V → List V → Hp → VK → Prop} (q : to σ H fun x H1 => (∃ a, x = .str a) ∧ te σ H1 fun y H2 => r x [y] H2 Q) : tM1 r to te σ H Q := q
theorem r_exS {z : Str} {A : Prop} (q : A) : (∃ a, V.str z = V.str a) ∧ A := ⟨⟨z, rfl⟩, q⟩
end
theorem name_len {n : Str} (h : IsName n) : n.length = 1 := by
  obtain ⟨c, rfl, _⟩ := h
  rfl
theorem one_lt {a b : Nat} (h : b ≤ a) : ¬ ([a] : List Nat) < [b] := by
  intro q
  have : a < b := by simpa [List.cons_lt_cons_iff] using q
  omega
theorem letter_a {n : Str} (h : IsName n) : ¬ n.cps.toList < (("a" : Str)).cps.toList := by
  obtain ⟨c, rfl, h1, _⟩ := h
  rw [show (("a" : Str)).cps.toList = [97] by decide +kernel]
  exact one_lt h1
theorem letter_z {n : Str} (h : IsName n) : ¬ (("z" : Str)).cps.toList < n.cps.toList := by
  obtain ⟨c, rfl, _, h2⟩ := h
  rw [show (("z" : Str)).cps.toList = [122] by decide +kernel]
  exact one_lt h2
theorem word_ne {w : Str} (h : IsWord w) : ¬ w = "repeat" ∧ ¬ w = "mirror" ∧ ¬ w = "turn" := by
  rcases h with rfl | rfl | rfl | rfl <;> decide +kernel
def sign1 (c : Nat) : Str := ⟨#[c]⟩
theorem app_toList (x y : Str) : (x ++ y).cps.toList = x.cps.toList ++ y.cps.toList := by
  show (x.cps ++ y.cps).toList = _
  exact Array.toList_append
theorem join_signs {s : Str} (hs : s.cps.toList = []) : ∀ cs : List Nat, (Txt.join s (cs.map sign1)).cps.toList = cs := fun cs => by
  rw [TL.join_eq]
  induction cs with
  | nil => rfl
  | cons c r ih =>
    cases r with
    | nil => rfl
    | cons d r =>
      show (sign1 c ++ s ++ Str.join s ((d :: r).map sign1)).cps.toList = _
      rw [app_toList, app_toList, hs, ih]
      rfl
/-- six letters -/
def Names (z : Str) : Prop := z.cps.toList.length = 6 ∧ ∀ c ∈ z.cps.toList, 97 ≤ c ∧ c ≤ 122
theorem names_at {z : Str} {n : Int} (h : Names z) (h0 : 0 ≤ n) (h1 : n < 6) : ∃ c, atI z.cps.toList n = some c ∧ IsName ⟨#[c]⟩ := by
  have h2 : n.toNat < z.cps.toList.length := by rw [h.1]; omega
  refine ⟨z.cps.toList[n.toNat], ?_, ⟨_, rfl, h.2 _ (List.getElem_mem h2)⟩⟩
  unfold atI ixN
  rw [if_pos h0, if_pos (by rw [h.1]; omega)]
  exact List.getElem?_eq_getElem h2
theorem names_small {z : Str} (h : Names z) : z.length ≤ 100000 := by
  have := h.1
  show z.cps.size ≤ 100000
  rw [Array.length_toList] at this
  omega
theorem letter_at {n : Int} (h0 : 0 ≤ n) (h1 : n < 26) : ∃ c, atI (("abcdefghijklmnopqrstuvwxyz" : Str)).cps.toList n = some c ∧ 97 ≤ c ∧ c ≤ 122 := by
  have hl : (("abcdefghijklmnopqrstuvwxyz" : Str)).cps.toList.length = 26 := by decide +kernel
  have ha : ∀ c ∈ (("abcdefghijklmnopqrstuvwxyz" : Str)).cps.toList, 97 ≤ c ∧ c ≤ 122 := by decide +kernel
  have h2 : n.toNat < (("abcdefghijklmnopqrstuvwxyz" : Str)).cps.toList.length := by rw [hl]; omega
  refine ⟨_, ?_, ha _ (List.getElem_mem h2)⟩
  unfold atI ixN
  rw [if_pos h0, if_pos (by rw [hl]; omega)]
  exact List.getElem?_eq_getElem h2
/-- all but what stands at a and b -/
def But2 (a b : Addr) (H H' : Hp) : Prop := ∀ c o, c ≠ a → c ≠ b → H c = some o → H' c = some o
theorem But2.refl (a b : Addr) (H : Hp) : But2 a b H H := fun _ _ _ _ h => h
theorem But2.trans {a b : Addr} {H H1 H2 : Hp} (h : But2 a b H H1) (k : But2 a b H1 H2) : But2 a b H H2 := fun c o n m e => k c o n m (h c o n m e)
theorem But2.of {a b : Addr} {H H' : Hp} (h : But a H H') : But2 a b H H' := fun c o n _ e => h c o n e
theorem But2.at {a b c : Addr} {H H' : Hp} {o : HO} (h : But2 a b H H') (n : c ≠ a) (m : c ≠ b) (e : H c = some o) : H' c = some o := h c o n m e
theorem But2.new {a b p : Addr} {H H' : Hp} {o : HO} (h : But2 a b H H') (n : H' p = none) : But2 a b H (upd H' p o) := fun c u x y e => h_keep (h c u x y e) n
theorem But2.put {a b p : Addr} {H H' : Hp} {o : HO} (h : But2 a b H H') (n : H p = none) : But2 a b H (upd H' p o) := fun c u x y e => (upd_ne (ne_of_none e n)).trans (h c u x y e)
theorem But2.self {a b : Addr} {H H' : Hp} {o : HO} (h : But2 a b H H') : But2 a b H (upd H' b o) := fun c u x y e => (upd_ne y).trans (h c u x y e)
theorem But2.one {a b : Addr} {H H0 H' : Hp} (s : But a H H0) (n : H b = none) (h : But2 a b H0 H') : But a H H' := fun c o x e => h c o x (ne_of_none e n) (s c o x e)
theorem But2.free {a b p : Addr} {H H' : Hp} (h : But2 a b H H') (n : p ≠ a) (m : p ≠ b) (e : H' p = none) : H p = none := by
  cases q : H p with
  | none => rfl
  | some o => rw [h p o n m q] at e; cases e
theorem Bag.list {H : Hp} {a : Addr} (h : Bag H a) : ∃ l, H a = some (.lst l) ∧ l.length = 3 := by
  obtain ⟨x, y, z, e, _⟩ := h
  exact ⟨_, e, rfl⟩
theorem Bag.upd {H : Hp} {a p : Addr} {o : HO} (h : Bag H a) (n : a ≠ p) : Bag (upd H p o) a := by
  obtain ⟨x, y, z, e, r⟩ := h
  exact ⟨x, y, z, (upd_ne n).trans e, r⟩
/-- the program's table of steps -/
structure StepsAt (K : PySem.W.Frag) (w : World) (mg : Str → Option Value) : Prop where
  ex : ∃ d es n, KDict K w d es n ∧ mg "STEPS" = some (.ref d) ∧ ∀ x : Str, IsWord x → ∃ v, PySem.W.nsIn K d x = some (some v)
/-- the greatest counts and turns -/
def BC : Int := 10 ^ 31
theorem BC_one : 1 ≤ BC := by decide +kernel
theorem mulW_of {a b : Int} (ha : a.natAbs < 2 ^ 100000) (hb : b.natAbs < 2 ^ 100000) : CMulW a b := by
  unfold CMulW
  have h : ∀ {n : Nat}, n < 2 ^ 100000 → n.log2 < 100000 := fun {n} hn => by
    by_cases h0 : n = 0
    · rw [h0]; decide
    · exact (Nat.log2_lt h0).mpr hn
  have := h ha
  have := h hb
  omega
theorem ipow_mono {a : Int} (h : 1 ≤ a) {m n : Nat} (hm : m ≤ n) : a ^ m ≤ a ^ n := by
  obtain ⟨k, rfl⟩ : ∃ k, n = m + k := ⟨n - m, by omega⟩
  rw [Int.pow_add]
  have h1 : 1 ≤ a ^ k := by
    have : (0 : Int) < a ^ k := Int.pow_pos (by omega)
    omega
  have h2 : a ^ m * 1 ≤ a ^ m * a ^ k := Int.mul_le_mul_of_nonneg_left h1 (Int.le_of_lt (Int.pow_pos (by omega)))
  omega
/-- how great the sizes are -/
theorem size_small {d : Nat} {p : Prog} (h : Wf BC BC d p) (hd : d ≤ 20) (hl : p.len ≤ 4000) : p.size ≤ 10 ^ 704 := by
  have h1 := Prog.size_le BC_one h
  have h2 : (4000 * BC) ^ d ≤ (4000 * BC) ^ 20 := ipow_mono (by decide +kernel) hd
  have h3 : (p.len : Int) * (4000 * BC) ^ d ≤ 4000 * (4000 * BC) ^ 20 := Int.mul_le_mul (by omega) h2 (Int.le_of_lt (Int.pow_pos (by decide +kernel))) (by omega)
  exact Int.le_trans h1 (Int.le_trans h3 (by decide +kernel))
theorem size_bits {d : Nat} {p : Prog} (h : Wf BC BC d p) (hd : d ≤ 20) (hl : p.len ≤ 4000) : p.size.natAbs < 2 ^ 100000 := by
  have h1 := size_small h hd hl
  have h0 := Prog.size_nonneg h
  refine Nat.lt_of_le_of_lt (m := 10 ^ 704) ?_ (by decide +kernel)
  have : (p.size.natAbs : Int) ≤ ((10 ^ 704 : Nat) : Int) := by
    rw [Int.natAbs_of_nonneg h0]
    exact h1
  exact Int.ofNat_le.mp this
theorem head_bits {d : Nat} {p : Prog} (h : Wf BC BC d p) (hd : d ≤ 20) (hl : p.len ≤ 4000) : p.head.natAbs < 2 ^ 100000 := by
  have h1 := size_small h hd hl
  have h0 := Prog.head_le BC_one (by decide +kernel) h
  refine Nat.lt_of_le_of_lt (m := 10 ^ 740) ?_ (by decide +kernel)
  have h2 : BC * p.size ≤ BC * 10 ^ 704 := Int.mul_le_mul_of_nonneg_left h1 (by decide +kernel)
  have : (p.head.natAbs : Int) ≤ ((10 ^ 740 : Nat) : Int) := Int.le_trans h0 (Int.le_trans h2 (by decide +kernel))
  exact Int.ofNat_le.mp this
theorem count_bits {k : Int} (h0 : -BC ≤ k) (h1 : k ≤ BC) : k.natAbs < 2 ^ 100000 := by
  refine Nat.lt_of_le_of_lt (m := 10 ^ 31) ?_ (by decide +kernel)
  have : BC = 10 ^ 31 := rfl
  omega
end My

set_option Elab.async false
set_option linter.all false
set_option maxRecDepth 100000
namespace My
open PySem PySem.Spec PyProof.Rows L2
def topS (i : Nat) : Stmt := PySem.Challenge.pw_everyangle_k17_dividing.main.body.getD i (.Pass ⟨0, 0, 0, 0⟩)
abbrev s_is_integer : Stmt := topS 5
abbrev s_check_number : Stmt := topS 6
abbrev s_is_order : Stmt := topS 12
abbrev s_Orders___init__ : Stmt := inClass (topS 13) 0
abbrev s_Orders_listed : Stmt := inClass (topS 13) 1
abbrev s_Orders_others : Stmt := inClass (topS 13) 2
abbrev s_Orders_least : Stmt := inClass (topS 13) 3
abbrev s_Orders___len__ : Stmt := inClass (topS 13) 4
abbrev s_Orders___iter__ : Stmt := inClass (topS 13) 5
abbrev s_Orders___contains__ : Stmt := inClass (topS 13) 6
abbrev s_Orders___bool__ : Stmt := inClass (topS 13) 7
abbrev s_Orders___eq__ : Stmt := inClass (topS 13) 8
abbrev s_Orders___or__ : Stmt := inClass (topS 13) 9
abbrev s_Orders___and__ : Stmt := inClass (topS 13) 10
abbrev s_Orders___sub__ : Stmt := inClass (topS 13) 11
abbrev s_Orders___xor__ : Stmt := inClass (topS 13) 12
abbrev s_Orders___invert__ : Stmt := inClass (topS 13) 13
abbrev s_check_orders : Stmt := topS 14
abbrev s_joined : Stmt := topS 15
abbrev s_dividing : Stmt := topS 16
abbrev s_l_bag_of : Stmt := topS 18
abbrev s_l_pick : Stmt := topS 19
abbrev s_l_is_int : Stmt := topS 20
abbrev s_l_tells : Stmt := topS 21
abbrev s_l_held : Stmt := topS 22
abbrev s_l_least_of : Stmt := topS 23
abbrev s_l_is_orders : Stmt := topS 24
abbrev s_l_gcd : Stmt := topS 25
abbrev s_l_built : Stmt := topS 26
abbrev s_law : Stmt := topS 27
theorem sc_is_integer : FnScope ["value"] ["value"] (defScope s_is_integer) := ⟨rfl, rfl, rfl, by decide +kernel, rfl, by decide +kernel, by decide +kernel⟩
theorem sc_check_number : FnScope ["value"] ["value"] (defScope s_check_number) := ⟨rfl, rfl, rfl, by decide +kernel, rfl, by decide +kernel, by decide +kernel⟩
theorem sc_is_order : FnScope ["value"] ["value"] (defScope s_is_order) := ⟨rfl, rfl, rfl, by decide +kernel, rfl, by decide +kernel, by decide +kernel⟩
theorem sc_Orders___init__ : FnScope ["self", "listed", "others", "value"] ["self", "listed", "others"] (defScope s_Orders___init__) := ⟨rfl, rfl, rfl, by decide +kernel, rfl, by decide +kernel, by decide +kernel⟩
theorem sc_Orders_listed : FnScope ["self"] ["self"] (defScope s_Orders_listed) := ⟨rfl, rfl, rfl, by decide +kernel, rfl, by decide +kernel, by decide +kernel⟩
theorem sc_Orders_others : FnScope ["self"] ["self"] (defScope s_Orders_others) := ⟨rfl, rfl, rfl, by decide +kernel, rfl, by decide +kernel, by decide +kernel⟩
theorem sc_Orders_least : FnScope ["self", "first", "order"] ["self"] (defScope s_Orders_least) := ⟨rfl, rfl, rfl, by decide +kernel, rfl, by decide +kernel, by decide +kernel⟩
theorem sc_Orders___len__ : FnScope ["self"] ["self"] (defScope s_Orders___len__) := ⟨rfl, rfl, rfl, by decide +kernel, rfl, by decide +kernel, by decide +kernel⟩
theorem sc_Orders___iter__ : FnScope ["self"] ["self"] (defScope s_Orders___iter__) := ⟨rfl, rfl, rfl, by decide +kernel, rfl, by decide +kernel, by decide +kernel⟩
theorem sc_Orders___contains__ : FnScope ["self", "value"] ["self", "value"] (defScope s_Orders___contains__) := ⟨rfl, rfl, rfl, by decide +kernel, rfl, by decide +kernel, by decide +kernel⟩
theorem sc_Orders___bool__ : FnScope ["self"] ["self"] (defScope s_Orders___bool__) := ⟨rfl, rfl, rfl, by decide +kernel, rfl, by decide +kernel, by decide +kernel⟩
theorem sc_Orders___eq__ : FnScope ["self", "other"] ["self", "other"] (defScope s_Orders___eq__) := ⟨rfl, rfl, rfl, by decide +kernel, rfl, by decide +kernel, by decide +kernel⟩
theorem sc_Orders___or__ : FnScope ["self", "other"] ["self", "other"] (defScope s_Orders___or__) := ⟨rfl, rfl, rfl, by decide +kernel, rfl, by decide +kernel, by decide +kernel⟩
theorem sc_Orders___and__ : FnScope ["self", "other"] ["self", "other"] (defScope s_Orders___and__) := ⟨rfl, rfl, rfl, by decide +kernel, rfl, by decide +kernel, by decide +kernel⟩
theorem sc_Orders___sub__ : FnScope ["self", "other"] ["self", "other"] (defScope s_Orders___sub__) := ⟨rfl, rfl, rfl, by decide +kernel, rfl, by decide +kernel, by decide +kernel⟩
theorem sc_Orders___xor__ : FnScope ["self", "other"] ["self", "other"] (defScope s_Orders___xor__) := ⟨rfl, rfl, rfl, by decide +kernel, rfl, by decide +kernel, by decide +kernel⟩
theorem sc_Orders___invert__ : FnScope ["self"] ["self"] (defScope s_Orders___invert__) := ⟨rfl, rfl, rfl, by decide +kernel, rfl, by decide +kernel, by decide +kernel⟩
theorem sc_check_orders : FnScope ["value"] ["value"] (defScope s_check_orders) := ⟨rfl, rfl, rfl, by decide +kernel, rfl, by decide +kernel, by decide +kernel⟩
theorem sc_joined : FnScope ["one", "two", "table", "outside", "rows", "listed", "order"] ["one", "two", "table"] (defScope s_joined) := ⟨rfl, rfl, rfl, by decide +kernel, rfl, by decide +kernel, by decide +kernel⟩
theorem sc_dividing : FnScope ["number", "found", "wide", "order"] ["number"] (defScope s_dividing) := ⟨rfl, rfl, rfl, by decide +kernel, rfl, by decide +kernel, by decide +kernel⟩
theorem sc_l_bag_of : FnScope ["_law_cell"] ["_law_cell"] (defScope s_l_bag_of) := ⟨rfl, rfl, rfl, by decide +kernel, rfl, by decide +kernel, by decide +kernel⟩
theorem sc_l_pick : FnScope ["_law_bag", "_law_many", "_law_digit"] ["_law_bag", "_law_many"] (defScope s_l_pick) := ⟨rfl, rfl, rfl, by decide +kernel, rfl, by decide +kernel, by decide +kernel⟩
theorem sc_l_is_int : FnScope ["_law_thing"] ["_law_thing"] (defScope s_l_is_int) := ⟨rfl, rfl, rfl, by decide +kernel, rfl, by decide +kernel, by decide +kernel⟩
theorem sc_l_tells : FnScope ["_law_found", "_law_due"] ["_law_found", "_law_due"] (defScope s_l_tells) := ⟨rfl, rfl, rfl, by decide +kernel, rfl, by decide +kernel, by decide +kernel⟩
theorem sc_l_held : FnScope ["_law_rows", "_law_beyond", "_law_one"] ["_law_rows", "_law_beyond", "_law_one"] (defScope s_l_held) := ⟨rfl, rfl, rfl, by decide +kernel, rfl, by decide +kernel, by decide +kernel⟩
theorem sc_l_least_of : FnScope ["_law_rows", "_law_beyond", "_law_first", "_law_one"] ["_law_rows", "_law_beyond"] (defScope s_l_least_of) := ⟨rfl, rfl, rfl, by decide +kernel, rfl, by decide +kernel, by decide +kernel⟩
theorem sc_l_is_orders : FnScope ["_law_found", "_law_rows", "_law_beyond", "_law_due", "_law_told", "_law_first", "_law_probes", "_law_one"] ["_law_found", "_law_rows", "_law_beyond"] (defScope s_l_is_orders) := ⟨rfl, rfl, rfl, by decide +kernel, rfl, by decide +kernel, by decide +kernel⟩
theorem sc_l_gcd : FnScope ["_law_one", "_law_two"] ["_law_one", "_law_two"] (defScope s_l_gcd) := ⟨rfl, rfl, rfl, by decide +kernel, rfl, by decide +kernel, by decide +kernel⟩
theorem sc_l_built : FnScope ["_law_bag", "_law_primes", "_law_made", "_law_some", "_law_k", "_law_one", "_law_each"] ["_law_bag"] (defScope s_l_built) := ⟨rfl, rfl, rfl, by decide +kernel, rfl, by decide +kernel, by decide +kernel⟩
theorem sc_law : FnScope ["_law_script", "_law_great", "_law_cell", "_law_bag", "_law_made", "_law_some", "_law_also", "_law_more", "_law_sign", "_law_told", "_law_one", "_law_any_", "_law_near", "_law_both"] ["_law_script"] (defScope s_law) := ⟨rfl, rfl, rfl, by decide +kernel, rfl, by decide +kernel, by decide +kernel⟩
/-- the built-ins that the text calls by their names -/
structure Bl (mg : Str → Option Value) : Prop where
  b_isinstance : mg "isinstance" = none
  b_int : mg "int" = none
  b_bool : mg "bool" = none
  b_str : mg "str" = none
  b_tuple : mg "tuple" = none
  b_list : mg "list" = none
  b_len : mg "len" = none
  b_all : mg "all" = none
  b_range : mg "range" = none
  b_sum : mg "sum" = none
  b_max : mg "max" = none
  b_min : mg "min" = none
end My

set_option Elab.async false
set_option linter.all false
set_option maxRecDepth 100000
set_option maxHeartbeats 4000000

namespace My
open PySem PySem.Spec PyProof.Rows L2
section
variable {P : Program} {w : World} {K : PySem.W.Frag} {mg : Str → Option Value} {base : Heap}
local macro_rules | `(tactic| walk_at "isi") => `(tactic| (first
  | (with_reducible refine r_is_int_int ?_)
  | (with_reducible refine r_is_int_bool ?_)
  | (with_reducible refine r_is_int_str ?_)
  | (with_reducible refine r_is_int_list ?_)
  | (with_reducible refine r_is_int_tuple ?_)
  | (with_reducible refine r_is_bool_int ?_)
  | (with_reducible refine r_is_bool_bool ?_)
  | (with_reducible refine r_is_bool_str ?_)
  | (with_reducible refine r_is_bool_list ?_)
  | (with_reducible refine r_is_bool_tuple ?_)
  | (with_reducible refine r_is_str_int ?_)
  | (with_reducible refine r_is_str_bool ?_)
  | (with_reducible refine r_is_str_str ?_)
  | (with_reducible refine r_is_str_list ?_)
  | (with_reducible refine r_is_str_tuple ?_)
  | ((with_reducible refine r_is_list_int (xs := ?xx) ?hh ?_); (case hh => walk_at "hp"))
  | ((with_reducible refine r_is_list_bool (xs := ?xx) ?hh ?_); (case hh => walk_at "hp"))
  | ((with_reducible refine r_is_list_str (xs := ?xx) ?hh ?_); (case hh => walk_at "hp"))
  | ((with_reducible refine r_is_list_list (xs := ?xx) ?hh ?_); (case hh => walk_at "hp"))
  | ((with_reducible refine r_is_list_tuple (xs := ?xx) ?hh ?_); (case hh => walk_at "hp"))
  | ((with_reducible refine r_is_tuple_int (xs := ?xx) ?hh ?_); (case hh => walk_at "hp"))
  | ((with_reducible refine r_is_tuple_bool (xs := ?xx) ?hh ?_); (case hh => walk_at "hp"))
  | ((with_reducible refine r_is_tuple_str (xs := ?xx) ?hh ?_); (case hh => walk_at "hp"))
  | ((with_reducible refine r_is_tuple_list (xs := ?xx) ?hh ?_); (case hh => walk_at "hp"))
  | ((with_reducible refine r_is_tuple_tuple (xs := ?xx) ?hh ?_); (case hh => walk_at "hp"))
  | (with_reducible refine r_is_NoneType_int ?_)
  | (with_reducible refine r_is_NoneType_bool ?_)
  | (with_reducible refine r_is_NoneType_str ?_)
  | (with_reducible refine r_is_NoneType_list ?_)
  | (with_reducible refine r_is_NoneType_tuple ?_)))
local macro_rules | `(tactic| walk_at "ne") => `(tactic| first | assumption | (refine Ne.symm ?_; assumption) | exact Bag.ne (by assumption) (by assumption) | exact ne_of_none (by assumption) (by assumption))
local macro_rules | `(tactic| walk_at "hp") => `(tactic| (first
  | assumption
  | exact upd_same
  | (refine h_keep ?_ (by assumption); walk_at "hp")
  | (refine (upd_ne (by walk_at "ne")).trans ?_; walk_at "hp")
  | (refine Same.at (by assumption) ?_; walk_at "hp")
  | (refine But.at (by assumption) (by walk_at "ne") ?_; walk_at "hp")
  | (refine But2.at (by assumption) (by walk_at "ne") (by walk_at "ne") ?_; walk_at "hp")))
local macro_rules | `(tactic| walk_at "side") => `(tactic| first | assumption | omega | (refine ⟨?_, ?_⟩ <;> first | assumption | omega | decide) | decide | (refine ⟨by decide, by decide, by decide⟩) | (left; refine ⟨?_, ?_⟩ <;> first | omega | decide) | (right; refine ⟨?_, ?_⟩ <;> first | omega | decide) | (simp; done))
local macro_rules | `(tactic| walk_at "cond") => `(tactic| first | assumption | exact rfl | omega | (simp only [List.length_cons, List.length_nil]; omega) | decide +kernel)
local macro_rules | `(tactic| walk_at "s") => `(tactic| (first
  | ((with_reducible refine r_var (v := ?vv) ?ee ?_); (case ee => exact rfl))
  | (with_reducible refine r_c ?_)
  | (with_reducible refine r_op ?_)
  | (with_reducible refine r_un ?_)
  | (with_reducible refine r_rI0 ?_)
  | ((with_reducible refine r_rI ?cc ?_); (case cc => walk_at "side"))
  | (with_reducible refine r_rU ?_)
  | (with_reducible refine r_eqI ?_)
  | (with_reducible refine r_neI ?_)
  | (with_reducible refine r_eqB ?_)
  | (with_reducible refine r_neB ?_)
  | (with_reducible refine r_eqS ?_)
  | (with_reducible refine r_neS ?_)
  | ((with_reducible refine r_eq ?ee ?_); (case ee => exact rfl))
  | ((with_reducible refine r_ne ?ee ?_); (case ee => exact rfl))
  | ((with_reducible refine r_ixL (v := ?vv) (xs := ?xx) ?hh ?ee ?_); (case hh => (refine SqL.of ?_; walk_at "hp")); (case ee => exact rfl))
  | (with_reducible refine r_cb ?_)
  | (with_reducible refine r_call ?_)
  | (with_reducible refine r_cons ?_)
  | (with_reducible refine r_nil ?_)
  | (with_reducible refine r_lst ?_)
  | (with_reducible refine r_tup ?_)
  | ((with_reducible refine r_new ?cc ?_); (case cc => walk_at "side"))
  | (with_reducible refine r_exbl ?_)
  | (with_reducible refine r_exint ?_)
  | (with_reducible refine r_exint2 ?_)
  | (with_reducible refine r_exblL ?_)
  | (with_reducible refine r_ex2 ?_)
  | (with_reducible refine r_test ?_)
  | (with_reducible refine r_tB ?_)
  | (with_reducible refine r_not ?_)
  | (with_reducible refine r_and ?_)
  | (with_reducible refine r_or ?_)
  | (with_reducible refine r_andV ?_)
  | (with_reducible refine r_orV ?_)
  | (with_reducible refine r_notV ?_)
  | (with_reducible refine r_tif ?_)
  | (with_reducible refine r_iteT ?_)
  | (with_reducible refine r_iteNT ?_)
  | (with_reducible refine r_iteNF ?_)
  | (with_reducible refine r_iteF ?_)
  | (with_reducible refine r_seq ?_)
  | (with_reducible refine r_next ?_)
  | (with_reducible refine r_brk ?_)
  | (with_reducible refine r_cont ?_)
  | (with_reducible refine r_asg ?_)
  | (with_reducible refine r_gname ?_)
  | (with_reducible refine r_ret ?_)
  | (with_reducible refine r_retN ?_)
  | (with_reducible refine r_drop ?_)
  | (with_reducible refine r_if ?_)
  | ((with_reducible refine r_aug (x := ?xx) ?ee ?_); (case ee => exact rfl))
  | (with_reducible refine r_ipI ?_)
  | (with_reducible refine r_augS ?_)
  | (with_reducible refine r_gsub ?_)
  | ((with_reducible refine r_setL (xs := ?xx) (m := ?mm) ?hh ?ee ?_); (case hh => walk_at "hp"); (case ee => exact rfl))
  | (with_reducible refine r_par ?_)
  | (with_reducible refine r_bm ?_)
  | ((with_reducible refine r_tyL (xs := ?xx) ?hh ?_); (case hh => walk_at "hp"))
  | ((with_reducible refine r_append (xs := ?xx) ?hh ?ll ?_); (case hh => walk_at "hp"); (case ll => walk_at "side"))
  | (walk_at "isi")
  | (with_reducible refine r_for ?_)
  | (with_reducible refine r_iList ?_)
  | (with_reducible refine r_iTup ?_)
  | (with_reducible refine r_iR1 ?_)
  | (with_reducible refine r_iR2 ?_)
  | (with_reducible refine r_lc ?_)
  | (with_reducible refine r_yes ?_)
  | ((with_reducible refine r_lenS ?ll ?_); (case ll => walk_at "side"))
  | (with_reducible refine r_leS ?_)
  | (with_reducible refine r_chain ?_)
  | (with_reducible refine r_tM1 ?_)
  | (with_reducible refine r_exS ?_)
  | ((with_reducible refine r_tupL (xs := ?xx) ?hh ?_); (case hh => walk_at "hp"))
  | ((with_reducible refine r_listL (xs := ?xx) ?hh ?_); (case hh => walk_at "hp"))
  | ((with_reducible refine r_listT (xs := ?xx) ?hh ?_); (case hh => walk_at "hp"))
  | ((with_reducible refine r_ixT (v := ?vv) (xs := ?xx) ?hh ?ee ?_); (case hh => (refine SqT.of ?_; walk_at "hp")); (case ee => exact rfl))
  | (with_reducible refine r_sl ?_)
  | (with_reducible refine r_nopart ?_)
  | (with_reducible refine r_part ?_)
  | (with_reducible refine r_exI ?_)
  | ((with_reducible refine r_slL (xs := ?xx) ?hh ?_); (case hh => first | assumption | (refine SqL.of ?_; walk_at "hp") | (refine Same.seq (by assumption) (by assumption))))
  | ((with_reducible refine r_cat (xs := ?xx) (zs := ?zz) ?hh ?ii ?ll ?_); (case hh => walk_at "hp"); (case ii => walk_at "hp"); (case ll => walk_at "side"))
  | ((with_reducible refine r_lenL (xs := ?xx) ?hh ?_); (case hh => walk_at "hp"))
  | ((with_reducible refine r_lenT (xs := ?xx) ?hh ?_); (case hh => walk_at "hp"))
  | ((with_reducible refine r_gTup (xs := ?xx) ?hh ?ll ?_); (case hh => walk_at "hp"); (case ll => exact rfl))
  | (with_reducible refine r_gCons ?_)
  | (with_reducible refine r_gNil ?_)
  | ((with_reducible refine r_iteDT ?cc ?_); (case cc => walk_at "cond"))
  | ((with_reducible refine r_iteDF ?cc ?_); (case cc => walk_at "cond"))
  | ((with_reducible refine r_iteNDT ?cc ?_); (case cc => walk_at "cond"))
  | ((with_reducible refine r_iteNDF ?cc ?_); (case cc => walk_at "cond"))
  ))
local macro_rules | `(tactic| walk_at "go") => `(tactic| repeat (walk_at "s"))

def spIsInt : Sp := fun vs H Q _ => ∃ n : Int, vs = [.int n] ∧ Q (.bl true) H
theorem ok_is_integer {f : Addr} {fd : FuncData} (F : Fun K "is_integer" "is_integer" s_is_integer f fd) (B : Bl mg) : FnOk P w K mg base CX0 1 f fd ["value"] spIsInt := by
  refine F.ok sc_is_integer (fun vs H Q E h => ?_) (fun cdv A outer s H vs Q E hr h => ?_)
  · obtain ⟨c, rfl, _⟩ := h
    rfl
  · obtain ⟨c, rfl, k⟩ := h
    refine ⟨_, (pss_one (ps_ret (pe_and (pe_callB (call_isiKK (K := K)) (by rfl) B.b_isinstance (by decide +kernel) (pa_cons (pv 0) (pa_cons (pe_bltn (v := .ty "int") (by rfl) B.b_int (by decide +kernel) rfl) pa_nil))) (pe_one (pe_not (pe_callB (call_isiKK (K := K)) (by rfl) B.b_isinstance (by decide +kernel) (pa_cons (pv 0) (pa_cons (pe_bltn (v := .ty "bool") (by rfl) B.b_bool (by decide +kernel) rfl) pa_nil)))))))), ?_⟩
    walk_at "go"
    exact k
theorem ok_l_bag_of {f : Addr} {fd : FuncData} (F : Fun K "_law_bag_of" "_law_bag_of" s_l_bag_of f fd) (B : Bl mg) : FnOk P w K mg base CX0 1 f fd ["_law_cell"] spBagOf := by
  refine F.ok sc_l_bag_of (fun vs H Q E h => ?_) (fun cdv A outer s H vs Q E hr h => ?_)
  · obtain ⟨c, rfl, _⟩ := h
    rfl
  · obtain ⟨c, rfl, k⟩ := h
    refine ⟨_, (pss_one (ps_ret (pe_lst (pa_cons (pe_callB (call_max2 rfl) (by rfl) B.b_max (by decide +kernel) (pa_cons pe_int (pa_cons (pe_op op_sub (pv 0) (pe_op op_pow pe_int pe_int)) pa_nil))) (pa_cons (pe_op op_add (pe_op op_mod (pe_callTy call_intI (by rfl) B.b_int (by decide +kernel) (pa_cons (pv 0) pa_nil)) pe_int) pe_int) (pa_cons (pe_op op_mod (pe_callTy call_intI (by rfl) B.b_int (by decide +kernel) (pa_cons (pe_op op_fdivW (pv 0) pe_int) pa_nil)) pe_int) pa_nil)))))), ?_⟩
    walk_at "go"
    intro p np
    exact k p _ np (Same.new0 np) ⟨_, _, _, upd_same, by omega, by omega, by omega⟩
theorem ok_l_pick {f : Addr} {fd : FuncData} (F : Fun K "_law_pick" "_law_pick" s_l_pick f fd) (B : Bl mg) : FnOk P w K mg base CX0 1 f fd ["_law_bag", "_law_many"] spPick := by
  refine F.ok sc_l_pick (fun vs H Q E h => ?_) (fun cdv A outer s H vs Q E hr h => ?_)
  · obtain ⟨a, n, rfl, _⟩ := h
    rfl
  · obtain ⟨a, n, rfl, ⟨x, y, z, hb, y0, y1, z0⟩, n0, n1, k⟩ := h
    have nl : n.natAbs.log2 < 9000 := log_small (Nat.lt_of_le_of_lt (by omega : n.natAbs ≤ 1000000) (by decide +kernel))
    refine ⟨_, (pss_cons (ps_if (pt_cmpR op_gt (pe_ix (ix_listK (K := K)) (pv 0) pe_int (fun _ _ => rfl)) pe_int (nomark _))
    (pss_cons (ps_set (i := 2) sc_l_pick.nd rfl (.inl rfl) (pe_op op_modN (pe_callTy call_intI (by rfl) B.b_int (by decide +kernel) (pa_cons (pe_ix (ix_listK (K := K)) (pv 0) pe_int (fun _ _ => rfl)) pa_nil)) (pv 1)))
    (pss_cons (ps_asg (pe_op op_fdivW (pe_ix (ix_listK (K := K)) (pv 0) pe_int (fun _ _ => rfl)) (pv 1)) (pg_sub (pv 0) pe_int set_list))
    (pss_one (ps_ret (pv 2)))))
    pss_nil)
    (pss_cons (ps_augS (pv 0) pe_int pg_list pe_int ip_add set_list)
    (pss_cons (ps_asg (pe_op op_mod (pe_callTy call_intI (by rfl) B.b_int (by decide +kernel) (pa_cons (pe_op op_add (pe_op op_mul (pe_ix (ix_listK (K := K)) (pv 0) pe_int (fun _ _ => rfl)) pe_int) (pe_op op_mul (pe_ix (ix_listK (K := K)) (pv 0) pe_int (fun _ _ => rfl)) pe_int)) pa_nil)) pe_int) (pg_sub (pv 0) pe_int set_list))
    (pss_one (ps_ret (pe_op op_modN (pe_callTy call_intI (by rfl) B.b_int (by decide +kernel) (pa_cons (pe_op op_fdiv (pe_op op_mod (pe_callTy call_intI (by rfl) B.b_int (by decide +kernel) (pa_cons (pe_op op_mul (pe_ix (ix_listK (K := K)) (pv 0) pe_int (fun _ _ => rfl)) (pe_ix (ix_listK (K := K)) (pv 0) pe_int (fun _ _ => rfl))) pa_nil)) pe_int) pe_int) pa_nil)) (pv 1))))))), ?_⟩
    walk_at "go"
    refine r_iteD (fun hx => ?_) (fun hx => ?_)
    · walk_at "go"
      refine k _ _ (Int.fmod_nonneg_of_pos _ n0) (Int.fmod_lt_of_pos _ n0) (But.self (But.refl _ _)) ⟨_, _, _, upd_same, y0, y1, z0⟩
    · walk_at "go"
      refine k _ _ (Int.fmod_nonneg_of_pos _ n0) (Int.fmod_lt_of_pos _ n0) (But.self (But.self (But.refl _ _))) ⟨_, _, _, upd_same, by omega, by omega, by omega⟩
def spGreat : Sp := fun vs H Q _ => ∃ (a : Addr) (d : Int), vs = [.ref a, .int d] ∧ Bag H a ∧ 0 ≤ d ∧ d ≤ 60 ∧ ∀ (r : Int) H', 0 ≤ r → r < 10 ^ d.toNat → But a H H' → Bag H' a → Q (.int r) H'
theorem ok_l_is_int {f : Addr} {fd : FuncData} (F : Fun K "_law_is_int" "_law_is_int" s_l_is_int f fd) (B : Bl mg) : FnOk P w K mg base CX0 1 f fd ["_law_thing"] spIsInt := by
  refine F.ok sc_l_is_int (fun vs H Q E h => ?_) (fun cdv A outer s H vs Q E hr h => ?_)
  · obtain ⟨c, rfl, _⟩ := h
    rfl
  · obtain ⟨c, rfl, k⟩ := h
    refine ⟨_, (pss_one (ps_ret (pe_and (pe_callB (call_isiKK (K := K)) (by rfl) B.b_isinstance (by decide +kernel) (pa_cons (pv 0) (pa_cons (pe_bltn (v := .ty "int") (by rfl) B.b_int (by decide +kernel) rfl) pa_nil))) (pe_one (pe_not (pe_callB (call_isiKK (K := K)) (by rfl) B.b_isinstance (by decide +kernel) (pa_cons (pv 0) (pa_cons (pe_bltn (v := .ty "bool") (by rfl) B.b_bool (by decide +kernel) rfl) pa_nil)))))))), ?_⟩
    walk_at "go"
    exact k
end
end My

set_option Elab.async false
set_option linter.all false
set_option maxRecDepth 100000
namespace My
open PySem PySem.Spec PyProof.Rows L2
/-! ### methods of own classes, by their names -/
structure HasM (P : Program) (w : World) (K : PySem.W.Frag) (mg : Str → Option Value) (base : Heap) (C : Addr) (m : Str) (k : Nat) (ps : List Str) (sp : Sp) : Prop where
  ex : ∃ f fd, FnOk P w K mg base CX0 k f fd ps sp ∧ Meth K C m f ∧ Binds K fd ps []
theorem HasM.mono {P : Program} {w : World} {K : PySem.W.Frag} {mg : Str → Option Value} {base : Heap} {C : Addr} {m : Str} {j k : Nat} {ps : List Str} {sp : Sp} (h : HasM P w K mg base C m j ps sp) (hk : j ≤ k) : HasM P w K mg base C m k ps sp := by
  obtain ⟨f, fd, F, a, b⟩ := h.ex
  exact ⟨f, fd, F.mono hk, a, b⟩
section
variable {X : Cx} {pins : List (Addr × Obj)} {σ : L2.St} {H : Hp} {s : Shared} {Q : VK} {C : Addr} {m : Str} {k : Nat} {ps : List Str} {sp : Sp} {f : Addr} {fd : FuncData}
theorem run_m (F : FnOk X.prog X.w X.K X.mg X.base CX0 k f fd ps sp) (b : Binds X.K fd ps []) (hr : Room k X.A) (I : Inv X pins σ H s) {us : List Value} {vs : List V} (r : Vals vs us) (q : sp vs H Q E0) : wpAny (model X.prog X.w) X.A (call (.ref f) us) (EP X pins σ Q) X.xe s :=
  run_fn F hr b .nil pass0 I r (by rw [List.append_nil]; exact q)
theorem run_m1 (F : FnOk X.prog X.w X.K X.mg X.base CX0 k f fd ps sp) (b : Binds X.K fd ps []) (hr : Room (k + 1) X.A) (I : Inv X pins σ H s) {us : List Value} {vs : List V} (r : Vals vs us) (q : sp vs H Q E0) : wpAny (model X.prog X.w) X.A.in1 (call (.ref f) us) (EP X pins σ Q) X.xe s := by
  have hl : us.length = ps.length := by rw [← r.length]; exact F.len _ _ _ _ q
  refine wpAny_call (codeAny_mono (F.run X.A.in1 X.stack s H ⟨us, []⟩ us vs Q E0 hr.in1 I.env0.in1 (by simpa using b s us I.kIn (by simpa using hl)) r q) fun r s' hq => ?_)
  cases r with
  | error e => exact (pass0 (X := X)) pins σ H s e s' I hq
  | ok fl =>
    cases fl with
    | ret u => exact I.after hq
    | next => exact False.elim hq
    | brk => exact False.elim hq
    | cont => exact False.elim hq
/-- x op y, both instances of the class at C -/
def rOwn2 (C : Addr) (sp : Sp) : R2 := fun x y H Q => ∃ a dx fs b dy gs, x = .ref a ∧ y = .ref b ∧ H a = some (.ins C dx fs) ∧ H b = some (.ins C dy gs) ∧ sp [x, y] H Q E0
theorem op_own2 {op : Operator} (h : HasM X.prog X.w X.K X.mg X.base C m k ps sp) (hc : PySem.W.selfFirst X.K C = true) (hr : Room k X.A) (hm : PySem.dunder op.info.2 = m := by rfl) : OpR X (binaryOp op) (rOwn2 C sp) := by
  intro pins s σ H x y v u Q I rx ry q
  obtain ⟨f, fd, F, M, b⟩ := h.ex
  obtain ⟨a, dx, fs, a', dy, gs, rfl, rfl, ha, hb, q⟩ := q
  cases rx
  cases ry
  obtain ⟨mA, O, _⟩ := ins_get I.hok ha
  obtain ⟨od, J, _⟩ := O.look
  obtain ⟨mB, O', _⟩ := ins_get I.hok hb
  obtain ⟨od', J', _⟩ := O'.look
  obtain ⟨m', hF⟩ := I.fr
  refine PySem.W.binop_K hF I.ok.mod.kin J J'.type hc (by rw [hm]; exact M.at_) M.fn ?_
  exact wpAny_mono (run_m (vs := [.ref a, .ref a']) F b hr I (.cons rfl (.cons rfl .nil)) q) (fun w s' ⟨z, H', I', rz, qz⟩ => SlX.cmpback rz ⟨z, H', I', rz, qz⟩) fun _ _ x => x
/-! ### the types of all values, own errors too -/
structure ExcTy (K : PySem.W.Frag) (D : Addr) : Prop where
  ga : PySem.W.findIn K (.ref D) "__getattribute__" = some (some (.builtin "BaseException.__getattribute__"))
  gt : PySem.W.findIn K (.ref D) "__getattr__" = some none
  sub : PySem.W.subIn K (.ref D) (.type "BaseException") = some true
  dct : PySem.W.hasDictIn K D = true
  cl : PySem.W.findIn K (.ref D) "__class__" = some (some (.builtin "object.__class__"))
  cn : PySem.W.specialIn K (.builtin "object.__class__") "__get__" = some (some (.builtin "getset_descriptor.__get__"))
  ct : PySem.W.takesIn K (.builtin "object.__class__") = some true
  mr : PySem.W.mroIn K D (.type "object") = some true
/-- a caught exception, held as a value -/
def ExV (cls : Value) (d : Option Addr) (a : Addr) : HO := .ext fun h => ∃ (oe : Obj) (vs : Array Value), h.get? a = some oe ∧ Zc cls d oe ∧ oe.data = .fields vs
inductive TyE (K : PySem.W.Frag) (H : Hp) : V → Value → Prop where
  | x {y : V} {t : Value} (h : TyX K H y t) : TyE K H y t
  | exc {p D : Addr} (h : H p = some (ExO (.ref D) p)) (F : ExcTy K D) : TyE K H (.ref p) (.ref D)
  | exv {p D : Addr} (h : H p = some (ExV (.ref D) none p)) (F : ExcTy K D) : TyE K H (.ref p) (.ref D)
theorem kit_ofE {y : V} {u t : Value} (I : Inv X pins σ H s) (ry : RelV y u) (ty : TyE X.K H y t) : ∃ P : Heap → Prop, PySem.W.KitX X.K u t P ∧ P s.heap ∧ u ≠ .builtin "__main__.__loader__#opaque" := by
  cases ty with
  | x h => exact kit_of I ry h
  | @exc p D h F =>
    cases ry
    obtain ⟨⟨oe, vs, e, z, d, _⟩, _, _⟩ := I.hok p _ h
    obtain ⟨z1, z2⟩ := z
    have J : PySem.W.InstAt s.heap p oe D none := ⟨e, z1, by unfold PySem.W.notCls; rw [d], by rw [z2]; trivial⟩
    exact ⟨_, PySem.W.handS_kitx_exc F.ga F.gt F.sub F.dct F.cl F.cn F.ct F.mr, J, fun z => nomatch z⟩
  | @exv p D h F =>
    cases ry
    obtain ⟨⟨oe, vs, e, z, d⟩, _, _⟩ := I.hok p _ h
    obtain ⟨z1, z2⟩ := z
    have J : PySem.W.InstAt s.heap p oe D none := ⟨e, z1, by unfold PySem.W.notCls; rw [d], by rw [z2]; trivial⟩
    exact ⟨_, PySem.W.handS_kitx_exc F.ga F.gt F.sub F.dct F.cl F.cn F.ct F.mr, J, fun z => nomatch z⟩
/-- isinstance(x, c), one class -/
def rIsiE (K : PySem.W.Frag) : List V → Hp → VK → Prop := fun xs H Q => ∃ (x c : V) (t u : Value) (b : Bool), xs = [x, c] ∧ ClsV c u ∧ TyE K H x t ∧ PySem.W.kitOne K t u = some b ∧ Q (.bl b) H
theorem call_isiE : CallR X (.builtin "isinstance") (rIsiE X.K) := by
  intro pins s σ H xs us Q I r h
  obtain ⟨x, c, t, u, b, rfl, hc, ty, e, q⟩ := h
  obtain ⟨v, w, rfl, rv, rw'⟩ := vals2 r
  cases hc.eq rw'
  obtain ⟨P, k, hP, ne⟩ := kit_ofE I rv ty
  exact PySem.W.kia_one k I.kIn hP e ne fun tk => ⟨.bl b, H, I.tok _, rfl, q⟩
/-- isinstance(x, (c1, c2, ..)) -/
def rIsiTE (K : PySem.W.Frag) : List V → Hp → VK → Prop := fun xs H Q => ∃ (x : V) (tp : Addr) (cs : List V) (t : Value) (us : List Value) (b : Bool), xs = [x, .ref tp] ∧ H tp = some (.tup cs) ∧ Paired ClsV cs us ∧ TyE K H x t ∧ PySem.W.kitAny K t us = some b ∧ Q (.bl b) H
theorem call_isiTE : CallR X (.builtin "isinstance") (rIsiTE X.K) := by
  intro pins s σ H xs us Q I r h
  obtain ⟨x, tp, cs, t, ws, b, rfl, hT, k, ty, e, q⟩ := h
  obtain ⟨u1, u2, rfl, r1, r2⟩ := vals2 r
  cases (show u2 = Value.ref tp from r2)
  obtain ⟨P, Z, p, hx⟩ := kit_ofE I r1 ty
  obtain ⟨_, its, rv, o, h1, h2, n, h3⟩ := (show ObjOk X.prog X.w H s.heap tp (.tup cs) from I.hok tp _ hT)
  have e3 := ClsV.all k rv
  subst e3
  obtain ⟨oc, od, dt, sl⟩ := o
  simp only at h2 h3
  subst h2 h3
  exact PySem.W.kia_tup Z I.kIn p h1 e hx fun tk => ⟨.bl b, H, I.tok tk, rfl, q⟩
/-- x == y, x an instance of the class at C -/
def rOwnEq (K : PySem.W.Frag) (C : Addr) (sp : Sp) : R2 := fun x y H Q => ∃ a dx fs t, x = .ref a ∧ H a = some (.ins C dx fs) ∧ TyE K H y t ∧ PySem.W.notFirst K C t = true ∧ sp [x, y] H Q E0
theorem op_eqOwn (h : HasM X.prog X.w X.K X.mg X.base C "__eq__" k ps sp) (hr : Room k X.A) : OpR X (compareOp .Eq) (rOwnEq X.K C sp) := by
  intro pins s σ H x y v u Q I rx ry q
  obtain ⟨f, fd, F, M, b⟩ := h.ex
  obtain ⟨a, dx, fs, t, rfl, ha, ty, hn, q⟩ := q
  cases rx
  obtain ⟨mA, O, _⟩ := ins_get I.hok ha
  obtain ⟨od, J, _⟩ := O.look
  obtain ⟨m', hF⟩ := I.fr
  obtain ⟨P, k, hP, _⟩ := kit_ofE I ry ty
  refine PySem.W.cmp_K (op := .Eq) (tb := t) hr.units0 hF I.ok.mod.kin J (k.ty _ _ I.kIn hP) hn M.at_ M.fn ?_
  exact wpAny_mono (run_m (vs := [.ref a, y]) F b hr I (.cons rfl (.cons ry .nil)) q) (fun w s' ⟨z, H', I', rz, qz⟩ => SlX.cmpback rz ⟨z, H', I', rz, qz⟩) fun _ _ x => x
/-- len(x) -/
def rLenOwn (C : Addr) (sp : Sp) : List V → Hp → VK → Prop := fun xs H Q => ∃ a dx fs, xs = [.ref a] ∧ H a = some (.ins C dx fs) ∧ sp [.ref a] H (fun v H' => ∃ n : Nat, v = .int n ∧ n ≤ 16000000 ∧ Q v H') E0
theorem call_lenOwn (h : HasM X.prog X.w X.K X.mg X.base C "__len__" k ps sp) (hr : Room (k + 1) X.A) : CallR X (.builtin "len") (rLenOwn C sp) := by
  intro pins s σ H xs us Q I r q
  obtain ⟨f, fd, F, M, b⟩ := h.ex
  obtain ⟨a, dx, fs, rfl, ha, q⟩ := q
  obtain ⟨u, rfl, ru⟩ := r.one
  cases ru
  obtain ⟨mA, O, _⟩ := ins_get I.hok ha
  obtain ⟨od, J, _⟩ := O.look
  obtain ⟨m', hF⟩ := I.fr
  refine PySem.W.len_K hF I.ok.mod.kin J M.at_ M.fn ?_
  refine wpAny_mono (run_m1 (vs := [.ref a]) F b hr I (.cons rfl .nil) q) (fun w s' z => ?_) fun _ _ x => x
  obtain ⟨z, H', I', rz, n, rfl, hn, qz⟩ := z
  obtain ⟨t, rfl⟩ := (show ∃ t, w = Value.int n t from rz)
  exact ⟨⟨by omega, by omega⟩, .int n, H', I'.tok _, ⟨_, rfl⟩, qz⟩
/-- -x, ~x -/
def rOwn1 (C : Addr) (sp : Sp) : V → Hp → VK → Prop := fun x H Q => ∃ a dx fs, x = .ref a ∧ H a = some (.ins C dx fs) ∧ sp [x] H Q E0
theorem un_negOwn (h : HasM X.prog X.w X.K X.mg X.base C "__neg__" k ps sp) (hr : Room k X.A) : UnR X (unaryOp .USub) (rOwn1 C sp) := by
  intro pins s σ H x v Q I rx q
  obtain ⟨f, fd, F, M, b⟩ := h.ex
  obtain ⟨a, dx, fs, rfl, ha, q⟩ := q
  cases rx
  obtain ⟨mA, O, _⟩ := ins_get I.hok ha
  obtain ⟨od, J, _⟩ := O.look
  obtain ⟨m', hF⟩ := I.fr
  exact PySem.W.ksp_neg hF I.ok.mod.kin J M.at_ M.fn (run_m (vs := [.ref a]) F b hr I (.cons rfl .nil) q)
theorem un_invOwn (h : HasM X.prog X.w X.K X.mg X.base C "__invert__" k ps sp) (hr : Room k X.A) : UnR X (unaryOp .Invert) (rOwn1 C sp) := by
  intro pins s σ H x v Q I rx q
  obtain ⟨f, fd, F, M, b⟩ := h.ex
  obtain ⟨a, dx, fs, rfl, ha, q⟩ := q
  cases rx
  obtain ⟨mA, O, _⟩ := ins_get I.hok ha
  obtain ⟨od, J, _⟩ := O.look
  obtain ⟨m', hF⟩ := I.fr
  exact PySem.W.ksp_inv hF I.ok.mod.kin J M.at_ M.fn (run_m (vs := [.ref a]) F b hr I (.cons rfl .nil) q)
/-- x op n, x an instance of the class at C, n an int -/
structure IntOp (K : PySem.W.Frag) (C : Addr) (nm : String) : Prop where
  rc : ∃ rc, PySem.W.findIn K (.ref C) (dunderR nm) = some rc ∧ (rc = none ∨ ∃ g : Addr, rc = some (.ref g))
  fo : ∃ fo, PySem.W.findIn K (.type "int") (PySem.dunder nm) = some fo
  ro : ∃ ro, PySem.W.findIn K (.type "int") (dunderR nm) = some ro
  sub : PySem.W.subIn K (.type "int") (.ref C) = some false
def rOwnI (C : Addr) (sp : Sp) : R2 := fun x y H Q => ∃ a dx fs i, x = .ref a ∧ y = .int i ∧ H a = some (.ins C dx fs) ∧ sp [x, y] H Q E0
theorem op_ownI {op : Operator} (h : HasM X.prog X.w X.K X.mg X.base C m k ps sp) (hc : PySem.W.selfFirst X.K C = true) (N : IntOp X.K C op.info.2) (hr : Room k X.A) (hm : PySem.dunder op.info.2 = m := by rfl) : OpR X (binaryOp op) (rOwnI C sp) := by
  intro pins s σ H x y v u Q I rx ry q
  obtain ⟨f, fd, F, M, b⟩ := h.ex
  obtain ⟨a, dx, fs, i, rfl, rfl, ha, q⟩ := q
  cases rx
  obtain ⟨t, rfl⟩ := ry
  obtain ⟨mA, O, _⟩ := ins_get I.hok ha
  obtain ⟨od, J, _⟩ := O.look
  obtain ⟨m', hF⟩ := I.fr
  obtain ⟨rc, r1, r2⟩ := N.rc
  obtain ⟨fo, f1⟩ := N.fo
  obtain ⟨ro, o1⟩ := N.ro
  refine PySem.W.ksp_binT (T := "int") hF I.ok.mod.kin J rfl hc (by rw [hm]; exact M.at_) M.fn r1 r2 f1 o1 N.sub ?_
  exact wpAny_mono (run_m (vs := [.ref a, .int i]) F b hr I (.cons rfl (.cons ⟨t, rfl⟩ .nil)) q) (fun w s' ⟨z, H', I', rz, qz⟩ => SlX.cmpback rz ⟨z, H', I', rz, qz⟩) fun _ _ x => x
end
end My

set_option Elab.async false
set_option linter.all false
set_option maxRecDepth 100000
namespace My
open PySem PySem.Spec PyProof.Rows L2
/-! ### a def called with fewer values than it has parameters -/
structure HasD (P : Program) (w : World) (K : PySem.W.Frag) (mg : Str → Option Value) (base : Heap) (x : Str) (k : Nat) (ps : List Str) (sp : Sp) (dvs : List V) : Prop where
  ex : ∃ f fd ds, FnOk P w K mg base CX0 k f fd ps sp ∧ mg x = some (.ref f) ∧ PySem.W.keepIn K (.ref f) = true ∧ Binds K fd ps ds ∧ Vals dvs ds
section
variable {X : Cx} {k : Nat} {ps : List Str} {sp : Sp} {x : Str} {p pos : Pos} {e : Expr} {es : List Expr} {t : TA} {dvs : List V}
theorem pe_callHD (h : HasD X.prog X.w X.K X.mg X.base x k ps sp dvs) (hr : Room k X.A) (ha : PA X (e :: es) t) (hg : Gl X x := by rfl) (hdb : (x == ("__debug__" : Str)) = false := by decide)
   (hs : starEach (e :: es) X.env = (false, eval e X.env) :: starEach es X.env := by rfl) (hplain : (backTo pos (starEach es X.env)).any (·.1) = false := by rfl) :
   PE X (.Call (.Name x p) (e :: es) [] pos) (tCall sp dvs E0 t) := by
  obtain ⟨f, fd, ds, F, a, b, c, d⟩ := h.ex
  exact pe_call F hr hg a b c d pass0 ha hdb hs hplain
end
theorem r_callD {sp : Sp} {E : XK} {t : TA} {d : V} {ds : List V} {σ : L2.St} {H : Hp} {Q : VK} (q : t σ H fun vs H1 => sp (vs ++ d :: ds) H1 Q E) : tCall sp (d :: ds) E t σ H Q := q
theorem r_rep {l : Addr} {k : Int} {xs : List V} {H : Hp} {Q : VK} (h : H l = some (.lst xs)) (h1 : 0 ≤ k) (h2 : k < 2 ^ 63) (hz : xs.length * k.toNat ≤ 16000000)
    (q : ∀ p, H p = none → Q (.ref p) (upd H p (.lst (List.replicate k.toNat xs).flatten))) : rRep (.ref l) (.int k) H Q := ⟨l, k, xs, rfl, rfl, h, by omega, h2, Nat.le_trans hz (by decide), q⟩
theorem PrAt.times {H : Hp} {p : Prog} {xs : List V} (h : PrAt H p xs) : ∀ n, PrAt H (Prog.times n p) (List.replicate n xs).flatten
  | 0 => rfl
  | n + 1 => by
    rw [List.replicate_succ, List.flatten_cons]
    exact h.app (h.times n)
def rAbs : List V → Hp → VK → Prop := fun xs H Q => ∃ i, xs = [.int i] ∧ Q (.int (if i < 0 then -i else i)) H
theorem call_absA {X : Cx} : CallR X (.builtin "abs") rAbs := call_abs
theorem r_abs {i : Int} {H : Hp} {Q : VK} (q : Q (.int (if i < 0 then -i else i)) H) : rAbs [.int i] H Q := ⟨i, rfl, q⟩
section
variable {σ : L2.St} {H : Hp} {K : PySem.W.Frag} {D : Ends} {tb : TS} {g : TG} {a : Addr} {xs : List V} {p : Prog}
/-- for command in a list of commands -/
theorem u_forPrL (h : H a = some (.lst xs)) (hp : PrAt H p xs) (I : Prog → L2.St → Hp → Prop) (h0 : I p σ H) (hk : ∀ r σ H', I r σ H' → Tk H H' ∧ H' a = some (.lst xs))
    (hs : ∀ x r r' σ H', First H' r x r' → I r σ H' → g x σ H' fun σ2 H2 => tb { D with nx := I r', ct := I r', bk := D.nx } σ2 H2) (hd : ∀ σ H', I .nil σ H' → D.nx σ H') :
    ∃ b, V.ref a = .ref b ∧ (∃ xs, SqL K H b xs) ∧ ∃ W : Nat → Nat → L2.St → Hp → Prop, (∃ m, W 0 m σ H) ∧ ∀ i m σ H, W i m σ H →
      ((Itl K b).stop i H ∧ D.nx σ H) ∨ ((Itl K b).go i H ∧ ∃ N : L2.St → Hp → Prop, (∀ σ' H', N σ' H' → ∃ m', m' < m ∧ W (i + 1) m' σ' H') ∧ ∀ x H', (Itl K b).yld i H x H' → g x σ H' fun σ2 H2 => tb { D with nx := N, ct := N, bk := D.nx } σ2 H2) := by
  refine ⟨a, rfl, ⟨xs, .of h⟩, ⟨fun i m σ' H' => m = xs.length - i ∧ i ≤ xs.length ∧ ∃ r, PrAt H r (xs.drop i) ∧ I r σ' H', ⟨xs.length, by simp, Nat.zero_le _, p, hp, h0⟩, ?_⟩⟩
  rintro i m σ' H' ⟨rfl, hi, r, hr, ir⟩
  have hT : SqL K H' a xs := .of (hk _ _ _ ir).2
  by_cases hlt : i < xs.length
  · have hx : xs[i]? = some xs[i] := List.getElem?_eq_getElem hlt
    rw [drop_cons hx] at hr
    obtain ⟨r', f, hr'⟩ := hr.first
    refine .inr ⟨⟨xs, xs[i], hT, hx⟩, I r', fun σ2 H2 q => ⟨_, by omega, rfl, hlt, r', hr', q⟩, fun x H2 hy => ?_⟩
    obtain ⟨rfl, fx⟩ := hy
    have ex : x = xs[i] := Option.some.inj ((fx xs hT).symm.trans hx)
    subst ex
    exact hs _ r r' _ _ (f.tk (hk _ _ _ ir).1) ir
  · have e : i = xs.length := by omega
    subst e
    rw [List.drop_length] at hr
    have hn : r = .nil := by
      cases r with
      | nil => rfl
      | step w n r => obtain ⟨c, zs, e, _⟩ := hr; cases e
      | turn k r => obtain ⟨c, zs, e, _⟩ := hr; cases e
      | rep k b r => obtain ⟨c, q, zs, ws, e, _⟩ := hr; cases e
      | mir b r => obtain ⟨c, q, zs, ws, e, _⟩ := hr; cases e
    subst hn
    exact .inl ⟨⟨xs, hT, Nat.le_refl _⟩, hd _ _ ir⟩
end
section
variable {P : Program} {w : World} {K : PySem.W.Frag} {mg : Str → Option Value} {base : Heap} {x qual : Str} {params : Arguments} {body : List Stmt} {scope : Scope} {dvs : List V} {kws : List (Str × V)} {f : Addr} {fd : FuncData}
theorem okD {N ps : List Str} {k : Nat} {sp : Sp} (F : FunD K x qual params body scope dvs kws f fd) (S : FnScope N ps scope) (len : ∀ vs H Q E, sp vs H Q E → vs.length = ps.length)
    (hbody : ∀ (cdv : Value) (A : Around) (outer : List Env) (s : Shared) (H : Hp) (vs : List V) (Q : VK) (E : XK), Room k (A.deeper (envOfC qual scope s.heap.objs.size f cdv)) → sp vs H Q E →
      ∃ t, PSs (cxOf CX0 P w K mg base N qual scope f cdv A outer s H E).nox body t ∧ t { nx := fun _ H' => Q .non H', rt := Q } (start N vs) H) : FnOk P w K mg base CX0 (k + 1) f fd ps sp :=
  F.ok S len fun cdv A outer s H vs Q E hr h => let ⟨t, h, q⟩ := hbody cdv A outer s H vs Q E hr h; ⟨t, h.nox, q⟩
end
/-! ### short programs -/
namespace Prog
/-- no heading on the way of a flat program leaves -12 .. 12 -/
def wayOk : Int → Prog → Bool
  | _, .nil => true
  | n, .step _ _ r => wayOk n r
  | n, .turn k r => if n + k > 12 ∨ n + k < -12 then false else wayOk (n + k) r
  | _, .rep _ _ _ => true
  | _, .mir _ _ => true
def short (p : Prog) : Bool := if p.size > 200 then false else wayOk 0 (unroll 1 p)
end Prog
end My

set_option Elab.async false
set_option linter.all false
set_option maxRecDepth 100000
namespace My
open PySem PySem.Spec PyProof.Rows L2
def strRep (z : Str) (n : Nat) : Str := ⟨(List.replicate n z.cps).foldl (· ++ ·) #[]⟩
def rMulS : R2 := fun x y H Q => ∃ (z : Str) (n : Int), x = .str z ∧ y = .int n ∧ (2 ≤ n ∧ n ≤ 100) ∧ (1 ≤ z.length ∧ z.length ≤ 100) ∧ (strRep z n.toNat).length ≤ 100000 ∧ Q (.str (strRep z n.toNat)) H
theorem op_mulS {X : Cx} : OpR X (binaryOp .Mult) rMulS := by
  intro pins s σ H x y v u Q I rx ry h
  obtain ⟨z, n, rfl, rfl, ⟨n1, n2⟩, ⟨z1, z2⟩, hl, q⟩ := h
  obtain ⟨t, rfl⟩ := rx
  obtain ⟨t', rfl⟩ := ry
  have e1 : ¬ n < 1 := by omega
  have e2 : ¬ (n == 1 || z.length == 0) = true := by simp; omega
  refine P.mul_str (by rw [decide_eq_false (by omega), decide_eq_false (by omega)]; rfl) (fun _ _ => ?_) (fun _ _ => ?_) ?_
  · have h1 : (100 : Int) ≤ (2 ^ 63 - 1) / n := Int.le_ediv_of_mul_le (by omega) (by omega)
    omega
  · have h1 : z.length * n.toNat ≤ 100 * 100 := Nat.mul_le_mul z2 (by omega)
    exact decide_eq_false (by rw [sizeLine_eq]; omega)
  · rw [if_neg e1, if_neg e2]
    exact ⟨small_of hl, .str (strRep z n.toNat), H, I.tok _, ⟨_, rfl⟩, q⟩
theorem r_mulS {z : Str} {n : Int} {H : Hp} {Q : VK} (h1 : 2 ≤ n ∧ n ≤ 100) (h2 : 1 ≤ z.length ∧ z.length ≤ 100) (h3 : (strRep z n.toNat).length ≤ 100000) (q : Q (.str (strRep z n.toNat)) H) : rMulS (.str z) (.int n) H Q := ⟨z, n, rfl, rfl, h1, h2, h3, q⟩
theorem r_slA {K : PySem.W.Frag} {p : Addr} {xs : List V} {lo hi : Option Int} {H : Hp} {Q : VK} (h : SqT K H p xs) (q1 : HT.sIx xs.length 0 lo = 0 ∧ HT.sIx xs.length xs.length hi = xs.length → Q (.ref p) H)
   (q2 : ¬ (HT.sIx xs.length 0 lo = 0 ∧ HT.sIx xs.length xs.length hi = xs.length) → ∀ c, H c = none → Q (.ref c) (upd H c (.tup (cutV xs lo hi)))) : rSlA K (.ref p) lo hi H Q := ⟨p, xs, rfl, h, q1, q2⟩
theorem r_slAT {K : PySem.W.Frag} {p : Addr} {xs : List V} {m : Int} {n : Nat} {H : Hp} {Q : VK} (h : H p = some (.tup xs)) (e : m = (n : Int)) (q : ∀ c H', Same H H' → H' c = some (.tup (xs.take n)) → Q (.ref c) H') : rSlA K (.ref p) none (some m) H Q := by
  subst e
  refine r_slA (.of h) (fun hw => ?_) (fun _ c hc => ?_)
  · have h2 := hw.2
    rw [HT.sIx_nat] at h2
    exact q p H (Same.refl _) (by rw [List.take_of_length_le (by omega)]; exact h)
  · exact q c _ (Same.new0 hc) (by rw [cut_take]; exact upd_same)
end My

set_option Elab.async false
set_option linter.all false
set_option maxRecDepth 100000
namespace My
open PySem PySem.Spec PyProof.Rows L2
section
variable {H : Hp} {Q : VK} {K : PySem.W.Frag}
theorem r_catAT {a b : Addr} {xs ys : List V} (h : H a = some (.tup xs)) (h' : H b = some (.tup ys)) (l : xs.length + ys.length ≤ 100000) (q : ∀ c H', Same H H' → H' c = some (.tup (xs ++ ys)) → Q (.ref c) H') : rCatA K (.ref a) (.ref b) H Q := by
  refine ⟨a, b, xs, ys, rfl, rfl, .of h, .of h', small_of l, fun e => ?_, fun _ e => ?_, fun _ _ c hc => q c _ (Same.new0 hc) upd_same⟩
  · subst e
    exact q b H (Same.refl _) h'
  · subst e
    exact q a H (Same.refl _) (by rw [List.append_nil]; exact h)
def rAddS : R2 := fun x y H Q => ∃ i j, x = .str i ∧ y = .str j ∧ i.length + j.length ≤ sizeLine ∧ Q (.str (i ++ j)) H
theorem op_addS {X : Cx} : OpR X (binaryOp .Add) rAddS := op_add_str
theorem r_addS {i j : Str} (l : i.length + j.length ≤ 100000) (q : Q (.str (i ++ j)) H) : rAddS (.str i) (.str j) H Q := ⟨i, j, rfl, rfl, small_of l, q⟩
def rIsN : R2 := fun x y H Q => y = .non ∧ Q (.bl (decide (x = .non))) H
theorem op_isNN {X : Cx} : OpR X (compareOp .Is) rIsN := op_isN
theorem r_isN {n : Int} (q : Q (.bl false) H) : rIsN (.int n) .non H Q := ⟨rfl, by rw [decide_eq_false (by intro h; cases h)]; exact q⟩
theorem r_isNN (q : Q (.bl true) H) : rIsN .non .non H Q := ⟨rfl, by rw [decide_eq_true rfl]; exact q⟩
end
namespace Prog
theorem head_flat {L : Nat} {C T : Int} : ∀ {p : Prog}, WfL L C T 0 p → p.head = p.turns.sum
  | .nil, _ => by rw [head, turns]; rfl
  | .step w n r, h => by rw [head, turns]; exact head_flat (WfL.step_iff.mp h).2.2
  | .turn k r, h => by rw [head, turns, List.sum_cons, head_flat (WfL.turn_iff.mp h).2]
  | .rep _ _ _, h => h.elim
  | .mir _ _, h => h.elim
end Prog
end My

set_option Elab.async false
set_option linter.all false
set_option maxRecDepth 100000
set_option maxHeartbeats 2000000
namespace My
open PySem PySem.Spec PyProof.Rows L2
/-! ### a caught exception, held as a value -/
theorem exV_ok {P : Program} {w : World} {H : Hp} {h : Heap} {a : Addr} {cls : Value} {d : Option Addr} {oe : Obj} {vs : Array Value} (e : h.get? a = some oe) (z : Zc cls d oe) (q : oe.data = .fields vs) : ObjOk P w H h a (ExV cls d a) :=
  ⟨⟨oe, vs, e, z, q⟩, ⟨oe, e⟩, fun _ _ ⟨o, v, q, r⟩ k => ⟨o, v, k o q, r⟩⟩
theorem Un.hold {fs ex : List Addr} {H0 H : Hp} {h0 h : Heap} {a : Addr} {o : HO} (u : Un fs ex H0 H h0 h) (n0 : h0.get? a = none) (n : H a = none) : Un fs ex H0 (upd H a o) h0 h where
  keep := u.keep
  slot := u.slot
  free := fun b ob e nb hx => by rw [upd_ne (fun z => by rw [z, n0] at e; cases e)]; exact u.free b ob e nb hx
  there := u.there
  tups := fun b xs e => (upd_ne (ne_of_none (u.tups b xs e) n)).trans (u.tups b xs e)
  frzs := fun b ob x e => (upd_ne (ne_of_none (u.frzs b ob x e) n)).trans (u.frzs b ob x e)
  tbls := fun b ps e => let ⟨m, q⟩ := u.tbls b ps e; ⟨m, (upd_ne (ne_of_none q n)).trans q⟩
theorem Inv.hold {X : Cx} {pins : List (Addr × Obj)} {σ : L2.St} {H : Hp} {s : Shared} {a : Addr} {oe : Obj} {vs : Array Value} {cls : Value} {d : Option Addr} (I : Inv X ((a, oe) :: pins) σ H s) (hz : Zc cls d oe) (hd : oe.data = .fields vs) (n0 : X.s_0.heap.get? a = none) (np : ∀ p ∈ X.pn ++ pins, p.1 ≠ a) :
    Inv X pins σ (upd H a (ExV cls d a)) s := by
  obtain ⟨ea, na, nl, nf, nc⟩ := I.pin (a, oe) (List.mem_append_right _ List.mem_cons_self)
  refine ⟨I.ok, I.os, I.bare, Un.hold I.base n0 na, I.loc, I.cell, (upd_ne (Ne.symm nl)).trans I.free, fun x c e => ?_, fun p hp => ?_, ?_, I.len⟩
  · have hc : c ≠ a := fun z => by
      obtain ⟨v, o, ho, hd'⟩ := I.cell x c e
      rw [z, ea] at ho
      cases ho
      exact nc v hd'
    exact (upd_ne hc).trans (I.freeC x c e)
  · have hm : p ∈ X.pn ++ (a, oe) :: pins := by
      rcases List.mem_append.mp hp with h | h
      · exact List.mem_append_left _ h
      · exact List.mem_append_right _ (List.mem_cons_of_mem _ h)
    obtain ⟨e1, e2, e3⟩ := I.pin p hm
    exact ⟨e1, (upd_ne (np p hp)).trans e2, e3⟩
  · exact HOk.laidN I.hok (fun _ _ q => q) na (exV_ok ea hz hd)
/-- what the clause 'except x as n' wishes of an exception of the body: slot i is n's; behind the suite the exception is held -/
def wHeld (K : PySem.W.Frag) (c : Value) (i : Nat) (ts : Addr → Value → Option Addr → TS) (Wout : WX) (D : Ends) : WX := fun cls d σ H =>
  ∃ b, PySem.W.exmOne K cls c = some b ∧ (b = true → ∀ a, H a = none → ts a cls d { nx := fun σ' H' => H' a = none → D.nx (σ'.set i none) (upd H' a (ExV cls d a)), rt := D.rt, bk := fun σ' H' => D.bk (σ'.set i none) H', ct := fun σ' H' => D.ct (σ'.set i none) H' } (σ.set i (some (.ref a))) H) ∧
    (b = false → Wout cls d σ H)
section
variable {X : Cx} {x n : Str} {c : Value} {i : Nat} {body suite : List Stmt} {b₀ : Stmt} {np pos pos' : Pos} {tb : WX → TS} {ts : Addr → Value → Option Addr → TS} {Wout : WX}
theorem ps_try_held (hs : X.stack = X.env :: X.outer) (hf : X.env.frame = some X.env.locals) (hex : X.ex = []) (hN : X.N.Nodup) (hi : X.N[i]? = some n) (hln : X.env.kindOf n = some .local) (hc : L2.Names X x c) (tk : Takes X Wout)
    (hb : ∀ (W : WX) (pn : List (Addr × Obj)) (xe : Value → Shared → Prop), Takes (X.tr pn xe) W → PassesOwn (model X.prog X.w) X.A X.env xe → PSs (X.tr pn xe) body (tb W))
    (hsu : ∀ (a : Addr) (oe : Obj) (cls : Value) (d : Option Addr) (pn : List (Addr × Obj)), Zc cls d oe → (∃ vs, oe.data = .fields vs) → PSs (X.suite a ((a, oe) :: pn)) (b₀ :: suite) (ts a cls d)) :
    PS X (.Try body [.ExceptHandler (some (.Name x np)) (some n) (b₀ :: suite) pos'] [] [] pos) (fun D σ H => tb (wHeld X.K c i ts Wout D) D σ H) := by
  refine ⟨fun pins s σ H D I h => ?_⟩
  have ok := I.ok
  have hfr : X.A.frames = some (X.env :: X.outer) := by rw [ok.frames, hs]
  have hloc : Loc X.env.scope n := .inl hln
  refine wpAny_Try_except ?_
  refine wpAny_mono ((hb (wHeld X.K c i ts Wout D) (X.pn ++ pins) (fun e s₁ => wpAny (model X.prog X.w) X.A (noteFrame e X.env) (fun _ s₂ => wpAny (model X.prog X.w) X.A (setFlight e none) (fun _ s₃ =>
    wpAny (model X.prog X.w) X.A (handleBy e X.env [.ExceptHandler (some (.Name x np)) (some n) (b₀ :: suite) pos']) (SP X pins D) X.xe s₃) X.xe s₂) X.xe s₁) (fun u s' xx => ?_) PassesOwn.looking).run [] s σ H D (I.toTry _) h) (fun f s1 hsp => ?_) (fun e s1 he => he)
  · obtain ⟨a, B, sI, pins', σ', H', cls, d, rfl, J', nb, up, sky, na, os, ag, b, hb1, hyes, hno⟩ := xx
    have J : Inv X pins σ' H' sI := J'.ofTry ok
    have sky' : Sky B (X.env :: X.outer) a (Zc cls d) X.env.locals s'.heap := by rw [← hs]; exact sky
    have nB : B.get? a = none := by
      rcases sky with ⟨_, hn, _⟩ | ⟨_, hn, _⟩ | ⟨_, hn, _⟩ <;> exact hn
    show wpAny (model X.prog X.w) X.A (noteFrame (.ref a) X.env) _ _ _
    refine Sky.land Zc.steady hfr hf sky' fun h3 fl3 up3 => ?_
    have J3 : Inv X pins σ' H' { s' with heap := h3 } := J.landed nb fl3.1 (up.trans up3) os ag
    obtain ⟨oe3, vs3, he3, hz3, hd3⟩ := fl3.there
    have notFr : ∀ {h : Heap} {o : Obj} {vs : Array Value}, h.FunFrames B (X.env :: X.outer) → h.get? a = some o → o.data = .fields vs → a ∉ frs (X.env :: X.outer) := fun {h o vs} ff e dd hm => by
      obtain ⟨_, o', e', hnf⟩ := ff.mem hm
      rw [e] at e'; cases e'
      exact hnf _ dd
    have nfr := notFr fl3.2.2.1 he3 hd3
    have nI : sI.heap.get? a = none := by
      cases q : sI.heap.get? a with
      | none => rfl
      | some o =>
        have z := nb a o q (by rw [hs]; exact nfr)
        rw [nB] at z; cases z
    have n0 : X.s_0.heap.get? a = none := by
      cases q : X.s_0.heap.get? a with
      | none => rfl
      | some o =>
        obtain ⟨o', z⟩ := J.base.there a o q (by rw [hex]; exact fun z => nomatch z)
        rw [nI] at z; cases z
    have npn : ∀ p ∈ X.pn ++ pins, p.1 ≠ a := fun p hp z => by
      have q := (J.pin p hp).1
      rw [z, nI] at q; cases q
    have nL : a ≠ X.env.locals := fun z => nfr (List.mem_filterMap.mpr ⟨X.env, List.mem_cons_self, by rw [hf, z]⟩)
    have nF : a ∉ X.fs := fun hm => by
      obtain ⟨e, he, q⟩ := List.mem_filterMap.mp hm
      exact nfr (List.mem_filterMap.mpr ⟨e, List.mem_cons_of_mem _ he, q⟩)
    have S3 := J3.suite he3 hd3 na nL nF
    refine wpAny_handleBy_cons (codeAny_handlers_test ?_) (by intro q; cases q)
    have LT : PySem.W.Looks (model X.prog X.w) h3 (typeOf (.ref a)) cls := fun A Q E s k q => wpAny_typeOf_ref (k _ _ he3) (by rw [hz3.1]; exact q)
    have LM := PySem.W.exm_one (M := model X.prog X.w) (J3.kIn) LT hb1
    have test : ∀ {Q : Value → Shared → Prop} {E : Value → Shared → Prop}, Q c { s' with heap := h3 } → wpAny (model X.prog X.w) (X.A.mark (some (.ref a))) (eval (.Name x np) X.env) Q E { s' with heap := h3 } := fun {Q E} q => by
      obtain ⟨hg, hdbg, hm | ⟨hm, hv, hnn⟩⟩ := hc
      · exact ld_glob (X := X.suite a ((a, oe3) :: (X.pn ++ pins))) S3 hg hm q hdbg
      · exact ld_blt (X := X.suite a ((a, oe3) :: (X.pn ++ pins))) S3 hg hm hv q hnn hdbg
    refine test (LM.here ?_)
    cases b with
    | true =>
      refine codeAny_handlers_suite_as ?_
      refine HandSPX.lands_againZ fl3 fun h4 fl4 up4 => ?_
      have J4 : Inv X pins σ' H' { s' with heap := h4 } := J.landed nb fl4.1 ((up.trans up3).trans up4) os ag
      obtain ⟨oe4, vs4, he4, hz4, hd4⟩ := fl4.there
      have S4 := J4.suite he4 hd4 na nL nF
      refine store_ok (X := X.suite a ((a, oe4) :: (X.pn ++ pins))) (v := .ref a) S4 hN hi hloc rfl (fun s5 S5 => ?_) (.inr hln)
      refine wpAny_mono ((hsu a oe4 cls d (X.pn ++ pins) hz4 ⟨_, hd4⟩).run [] s5 _ H' _ S5 (hyes rfl a na)) (fun f s6 hsp => ?_) (fun _ _ z => False.elim z)
      have end_ : ∀ {σ6 : L2.St} {H6 : Hp} {Q : Shared → Prop}, Inv (X.suite a ((a, oe4) :: (X.pn ++ pins))) [] σ6 H6 s6 → (∀ s7, Inv X ((a, oe4) :: pins) (σ6.set i none) H6 s7 → Q s7) →
          wpAny (model X.prog X.w) X.A (do bindName X.env n .none; unbindBehindTheSuite X.env n pos') (fun _ s7 => Q s7) X.xe s6 := fun {σ6 H6 Q} S6 hq => by
        have J6 : Inv X ((a, oe4) :: pins) σ6 H6 s6 := ⟨ok, S6.os, S6.bare, S6.base, S6.loc, S6.cell, S6.free, S6.freeC, fun p hp => S6.pin p (by
          rw [List.append_nil]
          rcases List.mem_append.mp hp with h | h
          · exact List.mem_cons_of_mem _ (List.mem_append_left _ h)
          · rcases List.mem_cons.mp h with h | h
            · rw [h]; exact List.mem_cons_self
            · exact List.mem_cons_of_mem _ (List.mem_append_right _ h)), S6.hok, S6.len⟩
        exact gone_ok J6 hN hi hln hq
      have drop : ∀ {σ7 : L2.St} {H7 : Hp} {s7 : Shared}, Inv X ((a, oe4) :: pins) σ7 H7 s7 → Inv X pins σ7 H7 s7 := fun J7 => ⟨J7.ok, J7.os, J7.bare, J7.base, J7.loc, J7.cell, J7.free, J7.freeC, fun p hp => J7.pin p (by
          rcases List.mem_append.mp hp with h | h
          · exact List.mem_append_left _ h
          · exact List.mem_append_right _ (List.mem_cons_of_mem _ h)), J7.hok, J7.len⟩
      cases f with
      | next =>
        obtain ⟨σ6, H6, S6, q6⟩ := hsp
        exact end_ S6 fun s7 J7 => ⟨_, _, Inv.hold J7 hz4 hd4 n0 npn, q6 (J7.pin (a, oe4) (List.mem_append_right _ List.mem_cons_self)).2.1⟩
      | brk =>
        obtain ⟨σ6, H6, S6, q6⟩ := hsp
        exact end_ S6 fun s7 J7 => ⟨_, _, drop J7, q6⟩
      | cont =>
        obtain ⟨σ6, H6, S6, q6⟩ := hsp
        exact end_ S6 fun s7 J7 => ⟨_, _, drop J7, q6⟩
      | ret u =>
        obtain ⟨v6, σ6, H6, S6, r6, q6⟩ := hsp
        exact end_ S6 fun s7 J7 => ⟨_, _, _, drop J7, r6, q6⟩
    | false =>
      show wpAny _ X.A (handleBy (.ref a) X.env []) _ _ _
      refine wpAny_handleBy_nil ?_
      obtain ⟨k1, k2, k3, oe, vs, T, oT, ts', he, hz, hd, h1, hr⟩ := id fl3
      unfold PySem.passOn
      refine wpAny_bind (wpAny_field he hd h1 ?_)
      rw [if_neg (show ¬ ((Value.ref T == Value.none) = true) from by simp)]
      have fin : wpAny (model X.prog X.w) X.A (setFlight (.ref a) X.env.frame) (fun _ s4 => wpAny (model X.prog X.w) X.A (throw (.ref a) : Sem Flow) (SP X pins D) X.xe s4) X.xe { s' with heap := h3 } := by
        rw [hf]
        refine HandSPX.setFlight_upZ fl3 fun h4 hh4 up4 => wpAny_throw (tk _ _ ?_)
        exact ⟨a, B, sI, pins, σ', H', cls, d, rfl, J, nb, (up.trans up3).trans up4, .inr (.inr (by rw [hs]; exact hh4)), na, os, ag, hno rfl⟩
      first
        | exact wpAny_bind (wpAny_pure (wpAny_bind fin))
        | exact wpAny_bind fin
  · cases f with
    | next =>
      obtain ⟨σ', H', J', q⟩ := hsp
      exact wpAny_execs_nil ⟨σ', H', J'.ofTry ok, q⟩
    | brk =>
      obtain ⟨σ', H', J', q⟩ := hsp
      exact ⟨σ', H', J'.ofTry ok, q⟩
    | cont =>
      obtain ⟨σ', H', J', q⟩ := hsp
      exact ⟨σ', H', J'.ofTry ok, q⟩
    | ret u =>
      obtain ⟨v, σ', H', J', r, q⟩ := hsp
      exact ⟨v, σ', H', J'.ofTry ok, r, q⟩
end
/-! ### a def that may raise, by its name -/
structure HasX (P : Program) (w : World) (K : PySem.W.Frag) (mg : Str → Option Value) (base : Heap) (x : Str) (k : Nat) (ps : List Str) (sp : Sp) : Prop where
  ex : ∃ f fd, FnOk P w K mg base (L2.CX P w) k f fd ps sp ∧ mg x = some (.ref f) ∧ PySem.W.keepIn K (.ref f) = true ∧ Binds K fd ps []
theorem fnOk_calm {P : Program} {w : World} {K : PySem.W.Frag} {mg : Str → Option Value} {base : Heap} {k : Nat} {f : Addr} {fd : FuncData} {ps : List Str} {sp : Sp} (F : FnOk P w K mg base (L2.CX P w) k f fd ps sp) : FnOk P w K mg base CX0 k f fd ps (fun vs H Q _ => sp vs H Q E0) :=
  ⟨fun vs H Q E q => F.len vs H Q E0 q, fun A outer s H args us vs Q E hr he hb hv hs => codeAny_mono (F.run A outer s H args us vs Q E0 hr he hb hv hs) fun r s' hq => by
    cases r with
    | error e =>
      obtain ⟨_, _, _, _, _, _, _, _, _, _, _, _, z⟩ := hq
      exact z.elim
    | ok fl => cases fl <;> exact hq⟩
theorem HasX.calm {P : Program} {w : World} {K : PySem.W.Frag} {mg : Str → Option Value} {base : Heap} {x : Str} {k : Nat} {ps : List Str} {sp : Sp} (h : HasX P w K mg base x k ps sp) : Has P w K mg base x k ps (fun vs H Q _ => sp vs H Q E0) := by
  obtain ⟨f, fd, F, a, b, c⟩ := h.ex
  exact ⟨f, fd, fnOk_calm F, a, b, c⟩
theorem Has.imp {P : Program} {w : World} {K : PySem.W.Frag} {mg : Str → Option Value} {base : Heap} {x : Str} {k : Nat} {ps : List Str} {sp sp' : Sp} (h : Has P w K mg base x k ps sp) (i : ∀ vs H Q E, sp' vs H Q E → sp vs H Q E) : Has P w K mg base x k ps sp' := by
  obtain ⟨f, fd, F, a, b, c⟩ := h.ex
  exact ⟨f, fd, F.imp i, a, b, c⟩
section
variable {X : Cx} {k : Nat} {ps : List Str} {sp : Sp} {x : Str} {p pos : Pos} {e : Expr} {es : List Expr} {t : TA} {W : WX} {σ : L2.St} {H : Hp} {Q : VK}
theorem pe_callXH (h : HasX X.prog X.w X.K X.mg X.base x k ps sp) (hr : Room k X.A) (tk : Takes X W) (ha : PA X (e :: es) t) (hg : Gl X x := by rfl) (hdb : (x == ("__debug__" : Str)) = false := by decide)
   (hs : starEach (e :: es) X.env = (false, eval e X.env) :: starEach es X.env := by rfl) (hplain : (backTo pos (starEach es X.env)).any (·.1) = false := by rfl) :
   PE X (.Call (.Name x p) (e :: es) [] pos) (tCallS sp (WE W) t) := by
  obtain ⟨f, fd, F, a, b, c⟩ := h.ex
  exact pe_callS F hr hg a b c (fun σ => passAt tk σ) ha hdb hs hplain
theorem r_callX {E : L2.St → XK} (q : t σ H fun vs H1 => sp vs H1 Q (E σ)) : tCallS sp E t σ H Q := q
end
/-! ### .. by keywords, in the parameters' order or turned round -/
def permB {α : Type} (rv : Bool) (l : List α) : List α := if rv then l.reverse else l
structure KW0 (K : PySem.W.Frag) (fd : FuncData) (ps ks : List Str) (rv : Bool) : Prop where
  to : ∀ (s : Shared) (ws : List Value), K.In s.heap → ws.length = ks.length → BindsTo s fd ⟨[], ks.zip ws⟩ (ps.zip (permB rv ws))
theorem kw0 {K : PySem.W.Frag} {fd : FuncData} {ps ks : List Str} {rv : Bool} (h : ∀ (ws : List Value), ws.length = ks.length → bindArgs fd ⟨[], ks.zip ws⟩ = pure (ps.zip (permB rv ws))) : KW0 K fd ps ks rv := ⟨fun _ ws _ hl => .of_eq (h ws hl)⟩
structure HasXK (P : Program) (w : World) (K : PySem.W.Frag) (mg : Str → Option Value) (base : Heap) (x : Str) (k : Nat) (ps ks : List Str) (rv : Bool) (sp : Sp) : Prop where
  ex : ∃ f fd, FnOk P w K mg base (L2.CX P w) k f fd ps sp ∧ mg x = some (.ref f) ∧ PySem.W.keepIn K (.ref f) = true ∧ KW0 K fd ps ks rv
theorem vals_rev : ∀ {vs : List V} {us : List Value}, Vals vs us → Vals vs.reverse us.reverse
  | _, _, .nil => .nil
  | _, _, .cons r t => by
    rw [List.reverse_cons, List.reverse_cons]
    exact Vals.append (vals_rev t) (.cons r .nil)
theorem vals_perm {vs : List V} {us : List Value} (rv : Bool) (h : Vals vs us) : Vals (permB rv vs) (permB rv us) := by
  cases rv with
  | true => exact vals_rev h
  | false => exact h
def tCallXK (sp : Sp) (rv : Bool) (E : L2.St → XK) (tk : TA) : TE := fun σ H Q => tk σ H fun zs H2 => sp (permB rv zs) H2 Q (E σ)
section
variable {X : Cx} {k : Nat} {ps ks : List Str} {rv : Bool} {sp : Sp} {x : Str} {p pos : Pos} {kws : List Keyword} {tkw : TA} {W : WX} {σ : L2.St} {H : Hp} {Q : VK}
theorem permB_len {α : Type} (rv : Bool) (l : List α) : (permB rv l).length = l.length := by cases rv <;> simp [permB]
theorem pe_callXHK (h : HasXK X.prog X.w X.K X.mg X.base x k ps ks rv sp) (hr : Room k X.A) (tk : Takes X W) (hkw : PK X kws tkw) (hk : ks.length = ps.length := by rfl) (hg : Gl X x := by rfl)
    (hall : (backToKw pos (keywordEach kws X.env)).all (·.1.isSome) = true := by rfl) (hks : (backToKw pos (keywordEach kws X.env)).filterMap (·.1) = ks := by rfl) (hdb : (x == ("__debug__" : Str)) = false := by decide)
    (hpl : ((backTo pos (starEach [] X.env)).any (·.1) || (backToKw pos (keywordEach kws X.env)).any (·.1.isNone)) = false := by rfl) : PE X (.Call (.Name x p) [] kws pos) (tCallXK sp rv (WE W) tkw) := by
  obtain ⟨f, fd, F, a, b, kb⟩ := h.ex
  refine ⟨fun pins s σ H Q I h => ?_⟩
  refine wpAny_Call_Name_kw (ld_glob I hg a ?_ hdb)
  refine PySem.W.callWith_KW0 (h₀ := X.base) I.ok.mod.kin b hall (thn (hkw.run pos pins s σ H _ I h) fun ws s2 ⟨zs, H2, I2, rz, q2⟩ => ⟨I2.kIn, ?_⟩) hpl
  rw [hks]
  have q2 : sp (permB rv zs) H2 Q (WE W σ) := q2
  have hl : ws.length = ks.length := by
    have h1 := F.len _ _ _ _ q2
    rw [permB_len] at h1
    rw [← rz.length, h1, hk]
  refine wpAny_call (codeAny_mono (F.run X.A X.stack s2 H2 ⟨[], ks.zip ws⟩ (permB rv ws) (permB rv zs) Q (WE W σ) hr I2.env0 (kb.to s2 ws I2.kIn hl) (vals_perm rv rz) q2) fun r s' hq => ?_)
  cases r with
  | error e => exact tk e s' (XE.of_call I2 (fun _ _ _ h => h) hq)
  | ok fl =>
    cases fl with
    | ret u => exact I2.after hq
    | next => exact False.elim hq
    | brk => exact False.elim hq
    | cont => exact False.elim hq
theorem r_callXK {E : L2.St → XK} (q : tkw σ H fun zs H1 => sp (permB rv zs) H1 Q (E σ)) : tCallXK sp rv E tkw σ H Q := q
end
theorem call_isiEK {X : Cx} {K : PySem.W.Frag} (h : X.K = K := by rfl) : CallR X (.builtin "isinstance") (rIsiE K) := by subst h; exact call_isiE
theorem call_isiTEK {X : Cx} {K : PySem.W.Frag} (h : X.K = K := by rfl) : CallR X (.builtin "isinstance") (rIsiTE K) := by subst h; exact call_isiTE
/-! ### own exception classes -/
structure OwnX (K : PySem.W.Frag) (mg : Str → Option Value) (x : Str) (C : Addr) : Prop where
  xi : PySem.W.excIn K C [.type "ValueError", .type "Exception", .type "BaseException", .type "object"] "ValueError.__new__" = true
  g : mg x = some (.ref C)
  k : PySem.W.keepIn K (.ref C) = true
  b : PySem.W.subIn K (.ref C) (.type "BaseException") = some true
  t : PySem.W.typeIn K (.ref C) = some (.type "type")
  e : ExcTy K C
  cs : ∃ cd, PySem.W.clsIn K C = some cd
theorem OwnX.catch {K : PySem.W.Frag} {mg : Str → Option Value} {x : Str} {C : Addr} {cls : Value} {b : Bool} (h : OwnX K mg x C) (s : PySem.W.subIn K cls (.ref C) = some b) : PySem.W.exmOne K cls (.ref C) = some b := PySem.W.exm_ref h.b h.e.dct h.t s
theorem OwnX.kit {K : PySem.W.Frag} {mg : Str → Option Value} {x : Str} {C : Addr} {cls : Value} {b : Bool} (h : OwnX K mg x C) (s : PySem.W.subIn K cls (.ref C) = some b) (ne : (cls == .ref C) = false) : PySem.W.kitOne K cls (.ref C) = some b := by
  obtain ⟨cd, e⟩ := h.cs
  unfold PySem.W.kitOne PySem.W.kitCls
  rw [ne, if_neg Bool.false_ne_true]
  show (if ((PySem.W.clsIn K C).isSome && PySem.W.typeIn K (.ref C) == some (.type "type")) = true then PySem.W.subIn K cls (.ref C) else none) = some b
  rw [e, h.t, if_pos (by simp)]
  exact s
theorem kit_own {K : PySem.W.Frag} {C : Addr} : PySem.W.kitOne K (.ref C) (.ref C) = some true := by
  unfold PySem.W.kitOne
  rw [if_pos (beq_self_eq_true _)]
/-- an own class, a built-in one -/
theorem kit_ownB {K : PySem.W.Frag} {C : Addr} {T : String} {b : Bool} (s : PySem.W.subIn K (.ref C) (.type T) = some b) (h : PySem.W.kitCls K (.ref C) (.type T) = PySem.W.subIn K (.ref C) (.type T) := by rfl) : PySem.W.kitOne K (.ref C) (.type T) = some b := by
  unfold PySem.W.kitOne
  rw [if_neg (by simp), h]
  exact s
theorem r_isiE' {K : PySem.W.Frag} {H : Hp} {Q : VK} {x c : V} {t u : Value} {b : Bool} (hc : ClsV c u) (ty : TyE K H x t) (e : PySem.W.kitOne K t u = some b) (q : Q (.bl b) H) : rIsiE K [x, c] H Q := ⟨x, c, t, u, b, rfl, hc, ty, e, q⟩
/-- a value that is no integer, or a truth -/
def NotInt (K : PySem.W.Frag) (H : Hp) (v : V) : Prop := ∃ t b1 b2, TyE K H v t ∧ PySem.W.kitOne K t (.type "int") = some b1 ∧ PySem.W.kitOne K t (.type "bool") = some b2 ∧ (b1 && !b2) = false
def NotIntS (K : PySem.W.Frag) (H : Hp) (v : V) : Prop := ∀ H', Same H H' → NotInt K H' v
theorem NotIntS.same {K : PySem.W.Frag} {H H' : Hp} {v : V} (h : NotIntS K H v) (s : Same H H') : NotIntS K H' v := fun H2 s2 => h H2 (s.trans s2)
theorem NotIntS.now {K : PySem.W.Frag} {H : Hp} {v : V} (h : NotIntS K H v) : NotInt K H v := h H (Same.refl H)
section
variable {K : PySem.W.Frag} {H : Hp}
theorem ni_bl (b : Bool) : NotIntS K H (.bl b) := fun _ _ => ⟨_, true, true, .x ty_bl, kit_ty (by decide +kernel), kit_ty (by decide +kernel), rfl⟩
theorem ni_str (z : Str) : NotIntS K H (.str z) := fun _ _ => ⟨_, false, false, .x ty_str, kit_ty (by decide +kernel), kit_ty (by decide +kernel), rfl⟩
theorem ni_non : NotIntS K H .non := fun _ _ => ⟨_, false, false, .x (.base .non), kit_ty (by decide +kernel), kit_ty (by decide +kernel), rfl⟩
theorem ni_lst {p : Addr} {xs : List V} (h : H p = some (.lst xs)) : NotIntS K H (.ref p) := fun _ s => ⟨_, false, false, .x (ty_lst (s _ _ h)), kit_ty (by decide +kernel), kit_ty (by decide +kernel), rfl⟩
theorem ni_tup {p : Addr} {xs : List V} (h : H p = some (.tup xs)) : NotIntS K H (.ref p) := fun _ s => ⟨_, false, false, .x (ty_tup (s _ _ h)), kit_ty (by decide +kernel), kit_ty (by decide +kernel), rfl⟩
theorem ni_exc {p D : Addr} (h : H p = some (ExO (.ref D) p)) (F : ExcTy K D) (s1 : PySem.W.subIn K (.ref D) (.type "int") = some false) (s2 : PySem.W.subIn K (.ref D) (.type "bool") = some false) : NotIntS K H (.ref p) := fun _ s => ⟨_, false, false, .exc (s _ _ h) F, kit_ownB s1, kit_ownB s2, rfl⟩
theorem kit_int_int : PySem.W.kitOne K (.type "int") (.type "int") = some true := kit_ty (by decide +kernel)
theorem kit_int_bool : PySem.W.kitOne K (.type "int") (.type "bool") = some false := kit_ty (by decide +kernel)
def spIsIntT (K : PySem.W.Frag) : Sp := fun vs H Q _ => ∃ x t b1 b2, vs = [x] ∧ TyE K H x t ∧ PySem.W.kitOne K t (.type "int") = some b1 ∧ PySem.W.kitOne K t (.type "bool") = some b2 ∧ Q (.bl (b1 && !b2)) H
theorem u_isIntV {Q : VK} {E : XK} {n : Int} (q : Q (.bl true) H) : spIsIntT K [.int n] H Q E := ⟨_, _, true, false, rfl, .x ty_int, kit_int_int, kit_int_bool, q⟩
theorem u_isIntN {Q : VK} {E : XK} {v : V} (h : NotInt K H v) (q : Q (.bl false) H) : spIsIntT K [v] H Q E := by
  obtain ⟨t, b1, b2, ty, k1, k2, e⟩ := h
  exact ⟨v, t, b1, b2, rfl, ty, k1, k2, by rw [e]; exact q⟩
theorem r_isNR {Q : VK} {a : Addr} (q : Q (.bl false) H) : rIsN (.ref a) .non H Q := ⟨rfl, by rw [decide_eq_false (by intro h; cases h)]; exact q⟩
theorem r_isiTE {Q : VK} {x : V} {tp : Addr} {cs : List V} {t : Value} {us : List Value} {b : Bool} (hT : H tp = some (.tup cs)) (hc : Paired ClsV cs us) (ty : TyE K H x t) (e : PySem.W.kitAny K t us = some b) (q : Q (.bl b) H) : rIsiTE K [x, .ref tp] H Q := ⟨x, tp, cs, t, us, b, rfl, hT, hc, ty, e, q⟩
theorem kitAny_cons {t c : Value} {us : List Value} {b : Bool} (h : PySem.W.kitOne K t c = some false) (h2 : PySem.W.kitAny K t us = some b) : PySem.W.kitAny K t (c :: us) = some b := by
  unfold PySem.W.kitAny
  rw [h]
  exact h2
end
end My

set_option Elab.async false
set_option linter.all false
set_option maxRecDepth 100000
namespace My
open PySem PySem.Spec PyProof.Rows L2
/-! ### undone programs -/
def contr (w : Str) : Str := if w = "go" then "back" else if w = "back" then "go" else if w = "hop" then "slip" else "hop"
theorem contr_word {w : Str} (h : IsWord w) : IsWord (contr w) := by
  rcases h with rfl | rfl | rfl | rfl
  · exact .inr (.inl rfl)
  · exact .inl rfl
  · exact .inr (.inr (.inr rfl))
  · exact .inr (.inr (.inl rfl))
theorem contr_contr {w : Str} (h : IsWord w) : contr (contr w) = w := by
  rcases h with rfl | rfl | rfl | rfl <;> rfl
namespace Prog
def undo : Prog → Prog
  | .nil => .nil
  | .step w n r => (undo r).app (.step (contr w) n .nil)
  | .turn k r => (undo r).app (.turn (-k) .nil)
  | .rep k b r => (undo r).app (.rep k (undo b) .nil)
  | .mir b r => (undo r).app (.mir (undo b) .nil)
theorem undo_app : ∀ p q : Prog, undo (p.app q) = (undo q).app (undo p)
  | .nil, q => by rw [app, undo, app_nil]
  | .step w n p, q => by rw [app, undo, undo, undo_app p q, app_assoc]
  | .turn k p, q => by rw [app, undo, undo, undo_app p q, app_assoc]
  | .rep k b p, q => by rw [app, undo, undo, undo_app p q, app_assoc]
  | .mir b p, q => by rw [app, undo, undo, undo_app p q, app_assoc]
theorem unroll_app (s : Int) : ∀ p q : Prog, unroll s (p.app q) = (unroll s p).app (unroll s q)
  | .nil, q => by rw [app, unroll, app]
  | .step w n p, q => by rw [app, unroll, unroll, unroll_app s p q, app]
  | .turn k p, q => by rw [app, unroll, unroll, unroll_app s p q, app]
  | .rep k b p, q => by rw [app, unroll, unroll, unroll_app s p q, app_assoc]
  | .mir b p, q => by rw [app, unroll, unroll, unroll_app s p q, app_assoc]
theorem len_undo : ∀ p : Prog, (undo p).len = p.len
  | .nil => by rw [undo]
  | .step w n r => by rw [undo, len_app, len_undo r]; rfl
  | .turn k r => by rw [undo, len_app, len_undo r]; rfl
  | .rep k b r => by rw [undo, len_app, len_undo r]; rfl
  | .mir b r => by rw [undo, len_app, len_undo r]; rfl
theorem size_undo : ∀ p : Prog, (undo p).size = p.size
  | .nil => by rw [undo]
  | .step w n r => by rw [undo, size_app, size_undo r, size, size, size]; omega
  | .turn k r => by rw [undo, size_app, size_undo r, size, size, size]; omega
  | .rep k b r => by rw [undo, size_app, size_undo r, size, size, size, size_undo b]; omega
  | .mir b r => by rw [undo, size_app, size_undo r, size, size, size, size_undo b]; omega
theorem head_undo : ∀ p : Prog, (undo p).head = -p.head
  | .nil => by rw [undo, head]; rfl
  | .step w n r => by rw [undo, head_app, head_undo r, head, head, head]; omega
  | .turn k r => by rw [undo, head_app, head_undo r, head, head, head]; omega
  | .rep k b r => by rw [undo, head_app, head_undo r, head, head, head, head_undo b, Int.mul_neg]; omega
  | .mir b r => by rw [undo, head_app, head_undo r, head, head, head, head_undo b]; omega
theorem wf_undo {L : Nat} {C T : Int} : ∀ {d : Nat} {p : Prog}, WfL L C T d p → WfL L C T d (undo p)
  | _, .nil, _ => WfL.nil
  | d, .step w n r, h => by
    have h := WfL.step_iff.mp h
    rw [undo]
    exact (wf_undo h.2.2).app (WfL.step_iff.mpr ⟨contr_word h.1, h.2.1, WfL.nil⟩)
  | d, .turn k r, h => by
    have h := WfL.turn_iff.mp h
    rw [undo]
    exact (wf_undo h.2).app (WfL.turn_iff.mpr ⟨⟨by omega, by omega⟩, WfL.nil⟩)
  | 0, .rep _ _ _, h => h.elim
  | d + 1, .rep k b r, h => by
    rw [undo]
    exact (wf_undo h.2.2.2).app ⟨h.1, by rw [len_undo]; exact h.2.1, wf_undo h.2.2.1, WfL.nil⟩
  | 0, .mir _ _, h => h.elim
  | d + 1, .mir b r, h => by
    rw [undo]
    exact (wf_undo h.2.2).app ⟨by rw [len_undo]; exact h.1, wf_undo h.2.1, WfL.nil⟩
theorem undo_undo {L : Nat} {C T : Int} : ∀ {d : Nat} {p : Prog}, WfL L C T d p → undo (undo p) = p
  | _, .nil, _ => by rw [undo, undo]
  | d, .step w n r, h => by
    have h := WfL.step_iff.mp h
    rw [undo, undo_app, undo_undo h.2.2, undo, undo, contr_contr h.1]; rfl
  | d, .turn k r, h => by
    have h := WfL.turn_iff.mp h
    rw [undo, undo_app, undo_undo h.2, undo, undo, Int.neg_neg]; rfl
  | 0, .rep _ _ _, h => h.elim
  | d + 1, .rep k b r, h => by
    rw [undo, undo_app, undo_undo h.2.2.2, undo, undo, undo_undo h.2.2.1]; rfl
  | 0, .mir _ _, h => h.elim
  | d + 1, .mir b r, h => by
    rw [undo, undo_app, undo_undo h.2.2, undo, undo, undo_undo h.2.1]; rfl
theorem undo_times (p : Prog) : ∀ n, undo (times n p) = times n (undo p)
  | 0 => by rw [times, undo, times]
  | n + 1 => by rw [times_succ n (undo p), times, undo_app, undo_times p n]
/-- undone and then unrolled is unrolled and then undone -/
theorem unroll_undo (p : Prog) : ∀ s : Int, unroll s (undo p) = undo (unroll s p) := by
  induction p with
  | nil => intro s; rw [undo, unroll, undo]
  | step w n r ih => intro s; rw [undo, unroll_app, ih, unroll, unroll, unroll, undo]
  | turn k r ih => intro s; rw [undo, unroll_app, ih, unroll, unroll, unroll, undo, Int.mul_neg]
  | rep k b r ihb ih => intro s; rw [undo, unroll_app, ih, unroll, unroll, unroll, app_nil, undo_app, undo_times, ihb]
  | mir b r ihb ih => intro s; rw [undo, unroll_app, ih, unroll, unroll, unroll, app_nil, undo_app, ihb]
end Prog
end My

set_option Elab.async false
set_option linter.all false
set_option maxRecDepth 100000
namespace My
open PySem PySem.Spec PyProof.Rows L2 RT
theorem WfL.split {L : Nat} {C T : Int} : ∀ {d : Nat} {p q : Prog}, WfL L C T d (p.app q) → WfL L C T d p ∧ WfL L C T d q
  | _, .nil, _, h => ⟨WfL.nil, h⟩
  | d, .step w n r, q, h => by
    have h := WfL.step_iff.mp (show WfL L C T d (.step w n (r.app q)) from h)
    exact ⟨WfL.step_iff.mpr ⟨h.1, h.2.1, (WfL.split h.2.2).1⟩, (WfL.split h.2.2).2⟩
  | d, .turn k r, q, h => by
    have h := WfL.turn_iff.mp (show WfL L C T d (.turn k (r.app q)) from h)
    exact ⟨WfL.turn_iff.mpr ⟨h.1, (WfL.split h.2).1⟩, (WfL.split h.2).2⟩
  | 0, .rep _ _ _, _, h => h.elim
  | d + 1, .rep k b r, q, h => by
    have h : (1 ≤ k ∧ k ≤ C) ∧ (1 ≤ b.len ∧ b.len ≤ L) ∧ WfL L C T d b ∧ WfL L C T (d + 1) (r.app q) := h
    exact ⟨⟨h.1, h.2.1, h.2.2.1, (WfL.split h.2.2.2).1⟩, (WfL.split h.2.2.2).2⟩
  | 0, .mir _ _, _, h => h.elim
  | d + 1, .mir b r, q, h => by
    have h : (1 ≤ b.len ∧ b.len ≤ L) ∧ WfL L C T d b ∧ WfL L C T (d + 1) (r.app q) := h
    exact ⟨⟨h.1, h.2.1, (WfL.split h.2.2).1⟩, (WfL.split h.2.2).2⟩
theorem PrAt.split {H : Hp} : ∀ {p q : Prog} {xs : List V}, PrAt H (p.app q) xs → ∃ ys zs, xs = ys ++ zs ∧ PrAt H p ys ∧ PrAt H q zs
  | .nil, q, xs, h => ⟨[], xs, rfl, rfl, h⟩
  | .step w n r, q, xs, h => by
    obtain ⟨c, ys, e, h1, h2⟩ := h
    obtain ⟨us, vs, e2, h3, h4⟩ := PrAt.split (p := r) h2
    exact ⟨.ref c :: us, vs, by rw [e, e2]; rfl, ⟨c, us, rfl, h1, h3⟩, h4⟩
  | .turn k r, q, xs, h => by
    obtain ⟨c, ys, e, h1, h2⟩ := h
    obtain ⟨us, vs, e2, h3, h4⟩ := PrAt.split (p := r) h2
    exact ⟨.ref c :: us, vs, by rw [e, e2]; rfl, ⟨c, us, rfl, h1, h3⟩, h4⟩
  | .rep k b r, q, xs, h => by
    obtain ⟨c, q0, z0, ys, e, h1, h0, hb, h2⟩ := h
    obtain ⟨us, vs, e2, h3, h4⟩ := PrAt.split (p := r) h2
    exact ⟨.ref c :: us, vs, by rw [e, e2]; rfl, ⟨c, q0, z0, us, rfl, h1, h0, hb, h3⟩, h4⟩
  | .mir b r, q, xs, h => by
    obtain ⟨c, q0, z0, ys, e, h1, h0, hb, h2⟩ := h
    obtain ⟨us, vs, e2, h3, h4⟩ := PrAt.split (p := r) h2
    exact ⟨.ref c :: us, vs, by rw [e, e2]; rfl, ⟨c, q0, z0, us, rfl, h1, h0, hb, h3⟩, h4⟩
/-- the last command -/
theorem Prog.snoc : ∀ {p : Prog} {m : Nat}, p.len = m + 1 → ∃ r c : Prog, p = r.app c ∧ r.len = m ∧ c.len = 1
  | .nil, m, h => by cases h
  | .step w n r, m, h => by
    have h : r.len + 1 = m + 1 := h
    cases m with
    | zero => exact ⟨.nil, .step w n r, rfl, rfl, h⟩
    | succ m =>
      obtain ⟨r', c, e, h1, h2⟩ := Prog.snoc (p := r) (m := m) (by omega)
      exact ⟨.step w n r', c, by rw [e]; rfl, by rw [Prog.len, h1], h2⟩
  | .turn k r, m, h => by
    have h : r.len + 1 = m + 1 := h
    cases m with
    | zero => exact ⟨.nil, .turn k r, rfl, rfl, h⟩
    | succ m =>
      obtain ⟨r', c, e, h1, h2⟩ := Prog.snoc (p := r) (m := m) (by omega)
      exact ⟨.turn k r', c, by rw [e]; rfl, by rw [Prog.len, h1], h2⟩
  | .rep k b r, m, h => by
    have h : r.len + 1 = m + 1 := h
    cases m with
    | zero => exact ⟨.nil, .rep k b r, rfl, rfl, h⟩
    | succ m =>
      obtain ⟨r', c, e, h1, h2⟩ := Prog.snoc (p := r) (m := m) (by omega)
      exact ⟨.rep k b r', c, by rw [e]; rfl, by rw [Prog.len, h1], h2⟩
  | .mir b r, m, h => by
    have h : r.len + 1 = m + 1 := h
    cases m with
    | zero => exact ⟨.nil, .mir b r, rfl, rfl, h⟩
    | succ m =>
      obtain ⟨r', c, e, h1, h2⟩ := Prog.snoc (p := r) (m := m) (by omega)
      exact ⟨.mir b r', c, by rw [e]; rfl, by rw [Prog.len, h1], h2⟩
theorem len_zero {p : Prog} (h : p.len = 0) : p = .nil := by cases p <;> first | rfl | cases h
/-- what stands at the place of the last command -/
theorem PrAt.last {H : Hp} {r c s : Prog} {xs : List V} (h : PrAt H (r.app (c.app s)) xs) (hc : c.len = 1) : ∃ x, xs[r.len]? = some x ∧ First H c x .nil := by
  obtain ⟨ys, zs, e, h1, h2⟩ := PrAt.split h
  obtain ⟨us, vs, e2, h3, h4⟩ := PrAt.split (p := c) h2
  have l1 := h1.length
  have l3 := h3.length
  rw [hc] at l3
  match us, l3, h3 with
  | [x], _, h3 =>
    obtain ⟨r', hf, hr⟩ := h3.first
    have e0 : r'.len = 0 := hr.length.symm
    rw [len_zero e0] at hf
    refine ⟨x, ?_, hf⟩
    rw [e, e2, List.getElem?_append_right (by omega), l1, Nat.sub_self]
    rfl
section
variable {σ : L2.St} {H : Hp} {K : PySem.W.Frag} {D : Ends} {tb : TS} {g : TG} {a : Addr} {xs : List V} {p : Prog}
theorem r_iRev {te : TE} {R : It → Hp → Prop} (q : te σ H fun v H1 => ∃ (a : Addr) (xs : List V), v = .ref a ∧ ((SqL K H1 a xs ∧ R (Itv K a xs.length) H1) ∨ (SqT K H1 a xs ∧ R (ItvT K a xs.length) H1))) : iRevA K te σ H R := q
/-- for command in reversed(program) -/
theorem u_forRev (h : H a = some (.tup xs)) (hp : PrAt H p xs) (I : Prog → Prog → L2.St → Hp → Prop) (h0 : I p .nil σ H) (hk : ∀ r s σ H', I r s σ H' → Tk H H')
    (hs : ∀ x r c s σ H', First H' c x .nil → p = r.app (c.app s) → I (r.app c) s σ H' → g x σ H' fun σ2 H2 => tb { D with nx := I r (c.app s), ct := I r (c.app s), bk := D.nx } σ2 H2) (hd : ∀ σ H', I .nil p σ H' → D.nx σ H') :
    ∃ (b : Addr) (xs : List V), V.ref a = .ref b ∧ ((SqL K H b xs ∧ ∃ W : Nat → Nat → L2.St → Hp → Prop, (∃ m, W 0 m σ H) ∧ ∀ i m σ H, W i m σ H →
      ((Itv K b xs.length).stop i H ∧ D.nx σ H) ∨ ((Itv K b xs.length).go i H ∧ ∃ N : L2.St → Hp → Prop, (∀ σ' H', N σ' H' → ∃ m', m' < m ∧ W (i + 1) m' σ' H') ∧ ∀ x H', (Itv K b xs.length).yld i H x H' → g x σ H' fun σ2 H2 => tb { D with nx := N, ct := N, bk := D.nx } σ2 H2)) ∨
     (SqT K H b xs ∧ ∃ W : Nat → Nat → L2.St → Hp → Prop, (∃ m, W 0 m σ H) ∧ ∀ i m σ H, W i m σ H →
      ((ItvT K b xs.length).stop i H ∧ D.nx σ H) ∨ ((ItvT K b xs.length).go i H ∧ ∃ N : L2.St → Hp → Prop, (∀ σ' H', N σ' H' → ∃ m', m' < m ∧ W (i + 1) m' σ' H') ∧ ∀ x H', (ItvT K b xs.length).yld i H x H' → g x σ H' fun σ2 H2 => tb { D with nx := N, ct := N, bk := D.nx } σ2 H2))) := by
  have hl := hp.length
  refine ⟨a, xs, rfl, .inr ⟨.of h, fun i m σ' H' => m = xs.length - i ∧ i ≤ xs.length ∧ ∃ r s, p = r.app s ∧ r.len + i = xs.length ∧ I r s σ' H', ⟨xs.length, rfl, Nat.zero_le _, p, .nil, (Prog.app_nil p).symm, by omega, h0⟩, ?_⟩⟩
  rintro i m σ' H' ⟨rfl, hi, r, s, e, l, ir⟩
  have hT : SqT K H' a xs := .of (hk _ _ _ _ ir _ _ h)
  by_cases hlt : i < xs.length
  · obtain ⟨r', c, e2, l1, l2⟩ := Prog.snoc (p := r) (m := xs.length - 1 - i) (by omega)
    subst e2
    rw [Prog.app_assoc] at e
    have hp2 := hp
    rw [e] at hp2
    obtain ⟨y, hy, hf⟩ := PrAt.last hp2 l2
    rw [l1] at hy
    refine .inr ⟨⟨hlt, xs, y, hT, hy⟩, I r' (c.app s), fun σ2 H2 q => ⟨_, by omega, rfl, hlt, r', c.app s, e, by omega, q⟩, fun x H2 hx => ?_⟩
    obtain ⟨rfl, fx⟩ := hx
    have ex : x = y := Option.some.inj ((fx xs hT).symm.trans hy)
    subst ex
    exact hs _ r' c s _ _ (hf.tk (hk _ _ _ _ ir)) e ir
  · have e0 := len_zero (p := r) (by omega)
    subst e0
    have e : p = s := e
    subst e
    exact .inl ⟨by show xs.length ≤ i; omega, hd _ _ ir⟩
end
end My

set_option Elab.async false
set_option linter.all false
set_option maxRecDepth 100000
namespace My
open PySem PySem.Spec PyProof.Rows L2 HT PySem.Builtin
/-! ### t[::-1], t a tuple -/
section
variable {prog : Program} {w : World} {A : Around} {E : Value → Shared → Prop} {s : Shared}
theorem adjust_rev (n : Nat) : Builtin.Slice.sliceAdjust none none (-1) (n : Int) = ((n : Int) - 1, -1) := by
  unfold Builtin.Slice.sliceAdjust
  simp
theorem places_rev (n : Nat) : Builtin.Slice.slicePlaces ((n : Int) - 1) (-1) (-1) = n := by
  unfold Builtin.Slice.slicePlaces
  have h1 : ¬ ((-1 : Int) > 0) := by omega
  rw [if_neg h1, show (- -1 : Int) = 1 by decide, Int.ediv_one]
  split <;> omega
theorem sliceApplied_rev {sl : Addr} {vs : Value} {n : Nat} {Q : Int × Int × Nat → Shared → Prop} (hs : s.heap.IsSliceOf sl .none .none vs) (ps : IsPart vs (some (-1)))
    (h : Q ((n : Int) - 1, -1, n) s) : wpAny (model prog w) A (Builtin.Slice.sliceApplied (.ref sl) (pure (n : Int))) Q E s := by
  obtain ⟨os, hos, hcs, hds⟩ := id hs
  unfold Builtin.Slice.sliceApplied Builtin.Slice.sliceFields
  refine wpAny_bind (wpAny_bind (wpAny_field hos hds (x := .none) rfl (wpAny_bind (wpAny_field hos hds (x := .none) rfl (wpAny_bind (wpAny_field hos hds (x := vs) rfl (wpAny_pure ?_)))))))
  refine wpAny_bind (HT.slicePart_ ps ?_)
  show wpAny _ _ (if ((-1 : Int) == 0) = true then _ else _) _ _ s
  rw [if_neg (by decide)]
  refine wpAny_bind (slicePart_none (wpAny_bind (slicePart_none (wpAny_bind (wpAny_pure ?_)))))
  show wpAny _ _ (match Builtin.Slice.sliceAdjust none none (-1) (n : Int) with | (lo, hi) => pure (lo, (-1 : Int), Builtin.Slice.slicePlaces lo hi (-1))) _ _ s
  rw [adjust_rev n]
  show wpAny _ _ (pure ((n : Int) - 1, (-1 : Int), Builtin.Slice.slicePlaces ((n : Int) - 1) (-1) (-1))) _ _ s
  rw [places_rev]
  exact wpAny_pure h
theorem pick_rev (xs : Array Value) : ((List.range xs.size).filterMap fun (m : Nat) => xs[(((xs.size : Nat) : Int) - 1 + (m : Int) * (-1)).toNat]?).toArray = xs.toList.reverse.toArray := by
  have e : (List.range xs.size).filterMap (fun (m : Nat) => xs[(((xs.size : Nat) : Int) - 1 + (m : Int) * (-1)).toNat]?) = ((List.range xs.size).map fun k => xs.size - 1 - k).filterMap (xs[·]?) := by
    rw [List.filterMap_map]
    have hc : ∀ (l : List Nat) (f g : Nat → Option Value), (∀ m ∈ l, f m = g m) → l.filterMap f = l.filterMap g := by
      intro l f g hfg
      induction l with
      | nil => rfl
      | cons a l ih => rw [List.filterMap_cons, List.filterMap_cons, hfg a (List.mem_cons_self ..), ih fun m hm => hfg m (List.mem_cons_of_mem _ hm)]
    refine hc _ _ _ fun m hm => ?_
    have := List.mem_range.mp hm
    have h2 : (((xs.size : Nat) : Int) - 1 + (m : Int) * (-1)).toNat = xs.size - 1 - m := by omega
    rw [h2]
    rfl
  rw [e, PySem.W.krv_range, List.filterMap_reverse, PySem.W.krv_all]
theorem getItem_tuple_rev {t sl : Addr} {items : Array Value} {vs : Value} {Q : Value → Shared → Prop} (ht : IsTup s.heap t items) (hs : s.heap.IsSliceOf sl .none .none vs) (ps : IsPart vs (some (-1)))
    (h : Q (.ref s.heap.objs.size) { s with heap := s.heap.push { cls := .type "tuple", data := .seq items.toList.reverse.toArray } })
    (hsz : items.size ≤ sizeLine) : wpAny (model prog w) A (getItem (.ref t) (.ref sl)) Q E s := by
  have htake : sizeOk (.seq items.toList.reverse.toArray) := by
    show items.toList.reverse.toArray.size ≤ sizeLine
    rw [List.size_toArray, List.length_reverse, Array.length_toList]
    exact hsz
  obtain ⟨os, hos, hcs, hds⟩ := id hs
  have hTs : s.TypeIs (.ref sl) "slice" := ⟨os, hos, hcs⟩
  unfold getItem
  try with_reducible refine wpAny_holding ?_
  first | refine wpAny_bind (wpAny_pure ?_) | skip
  refine wpAny_bind (wpAny_sequenceKey ht.typeIs (by decide) ?_)
  refine wpAny_bind (wpAny_callSpecial?_slot (name := Str.ofString "__getitem__") ht.typeIs PyProof.Rows.slot_tuple_getitem
    (wpAny_call_entry PyProof.Rows.slot_tuple_getitem ht.typeIs entry_tuple_getitem ?_ (args_tuple_getitem _ _)))
  show wpAny _ _ (Builtin.Tuple.tupleItemsOf (.ref t) >>= _) _ _ s
  refine wpAny_bind (tupleItemsOf_ ht ?_)
  refine wpAny_bind (wpAny_typeOf hTs ?_)
  rw [if_pos (by decide)]
  refine wpAny_bind (sliceApplied_rev hs ps ?_)
  have hno : ¬ ((((items.size : Nat) : Int) - 1 == 0 && (-1 : Int) == 1 && items.size == items.size) = true) := by
    intro q
    rw [Bool.and_eq_true, Bool.and_eq_true] at q
    exact absurd q.1.2 (by decide)
  show wpAny _ _ (if (((items.size : Nat) : Int) - 1 == 0 && (-1 : Int) == 1 && items.size == items.size) = true then _ else _) _ _ s
  rw [if_neg hno, pick_rev]
  first
    | exact wpAny_bind (m := Builtin.Tuple.tupleExact _) (wpAny_newObj_type (wpAny_pure ⟨_, rfl, wpAny_pure h⟩) htake)
    | exact wpAny_bind (m := Builtin.Tuple.tupleExact _) (wpAny_newObj_type (wpAny_bind (wpAny_pure (wpAny_pure ⟨_, rfl, wpAny_pure h⟩))) htake)
    | exact wpAny_bind (wpAny_bind (m := Builtin.Tuple.tupleExact _) (wpAny_newObj_type (wpAny_pure (wpAny_pure ⟨_, rfl, wpAny_pure h⟩)) htake))
    | exact wpAny_bind (wpAny_bind (m := Builtin.Tuple.tupleExact _) (wpAny_newObj_type (wpAny_pure ⟨_, rfl, wpAny_pure h⟩) htake))
end
section
variable {X : Cx} {pos : Pos}
def tRevT (K : PySem.W.Frag) (te : TE) : TE := fun σ H Q => te σ H fun x H1 => ∃ a xs, x = .ref a ∧ SqT K H1 a xs ∧ ∀ p, H1 p = none → Q (.ref p) (upd H1 p (.tup xs.reverse))
theorem pe_revT {e : Expr} {te : TE} {k : Nat} {p1 p2 p3 pos : Pos} (he : PE X e te) : PE X (.Subscript e (.Slice none none (some (.UnaryOp .USub (.Constant (.int 1) k p1) p2)) p3) pos) (tRevT X.K te) := by
  refine ⟨fun pins s σ H Q I h => ?_⟩
  refine Subscript_ (thn (he.run pins s σ H _ I h) fun v s1 ⟨x, H1, I1, r1, q1⟩ => ?_)
  obtain ⟨a, xs, ex, hx, q⟩ := q1
  subst ex
  cases r1
  have hst : PO X (some (.UnaryOp .USub (.Constant (.int 1) k p1) p2)) (tPart (tUn (rU fun i => .int (-i)) (tC (.int 1)))) := po_some (pe_un un_neg pe_int)
  refine wpAny_Slice (thn (po_none.run pins s1 σ H1 (fun o H2 => o = none ∧ H2 = H1) I1 ⟨rfl, rfl⟩) fun vl s2 ⟨l, H2, I2, pl, el, e2⟩ => ?_)
  subst el e2
  refine thn (po_none.run pins s2 σ H2 (fun o H3 => o = none ∧ H3 = H2) I2 ⟨rfl, rfl⟩) fun vu s3 ⟨u, H3, I3, pu, eu, e3⟩ => ?_
  subst eu e3
  cases pl
  cases pu
  refine thn (hst.run pins s3 σ H3 (fun o H4 => o = some (-1) ∧ H4 = H3) I3 ⟨1, rfl, -1, rfl, rfl, rfl⟩) fun vs s4 ⟨o, H4, I4, ps, eo, e4⟩ => ?_
  subst eo e4
  have I5 : Inv X pins σ H4 { s4 with heap := s4.heap.push { cls := .type "slice", data := .fields #[.none, .none, vs] } } := I4.kept (t' := s4.toks) fun b ob q => Heap.get?_push_of_some _ q
  obtain ⟨its, r, ht, hz⟩ := I5.tuple hx
  have hlen := r.length
  show wpAny (model X.prog X.w) X.A (subscriptTail e (.Slice none none (some (.UnaryOp .USub (.Constant (.int 1) k p1) p2)) p3) (.ref a) (.ref s4.heap.objs.size)) (EP X pins σ Q) X.xe { s4 with heap := s4.heap.push { cls := .type "slice", data := .fields #[.none, .none, vs] } }
  refine tail_any (ops := [.ref a, .ref s4.heap.objs.size]) ht.typeIs (PyProof.Rows.slot_tuple_getitem.lookup) ?_ (by with_unfolding_all rfl)
  refine getItem_tuple_rev ht (Heap.IsSliceOf.new _ .none .none vs) ps ?_ (by rw [List.size_toArray]; omega)
  refine ⟨.ref _, _, I5.laid (t' := s4.toks) (o := .tup xs.reverse) (fun b ob q => Heap.get?_push_of_some _ q) (Nat.le_refl _) ?_, rfl, q _ (I5.hok.fresh (Nat.le_refl _))⟩
  exact ⟨by rw [List.length_reverse]; omega, _, r.reverse, IsTup.new _ _⟩
theorem r_revT {K : PySem.W.Frag} {te : TE} {σ : L2.St} {H : Hp} {Q : VK} (q : te σ H fun x H1 => ∃ a xs, x = .ref a ∧ SqT K H1 a xs ∧ ∀ p, H1 p = none → Q (.ref p) (upd H1 p (.tup xs.reverse))) : tRevT K te σ H Q := q
theorem r_revTT {K : PySem.W.Frag} {H : Hp} {a : Addr} {xs : List V} {R : List V → Addr → Prop} (h : H a = some (.tup xs)) (q : ∀ p, H p = none → R xs p) : ∃ (b : Addr) (ys : List V), V.ref a = .ref b ∧ SqT K H b ys ∧ ∀ p, H p = none → R ys p := ⟨a, xs, rfl, .of h, q⟩
end
end My

set_option Elab.async false
set_option linter.all false
set_option maxRecDepth 100000
namespace My
open PySem PySem.Spec PyProof.Rows L2
/-! ### terms: powers and numbers -/
abbrev Terms := List (Int × Int)
/-- the number of a power: the sum of the numbers with it -/
def cof : Terms → Int → Int
  | [], _ => 0
  | p :: l, k => (if p.1 = k then p.2 else 0) + cof l k
/-- ascending powers, no number 0 -/
structure Canon (l : Terms) : Prop where
  asc : l.Pairwise fun p q => p.1 < q.1
  nz : ∀ p ∈ l, p.2 ≠ 0
theorem cof_app : ∀ (l m : Terms) (k : Int), cof (l ++ m) k = cof l k + cof m k
  | [], m, k => by rw [List.nil_append, cof, Int.zero_add]
  | p :: l, m, k => by rw [List.cons_append, cof, cof, cof_app l m k, Int.add_assoc]
theorem cof_none : ∀ {l : Terms} {k : Int}, (∀ p ∈ l, p.1 ≠ k) → cof l k = 0
  | [], _, _ => rfl
  | p :: l, k, h => by
    rw [cof, if_neg (h p List.mem_cons_self), cof_none fun q hq => h q (List.mem_cons_of_mem _ hq), Int.add_zero]
theorem Canon.nil : Canon [] := ⟨.nil, fun _ h => absurd h (by simp)⟩
theorem Canon.tail {p : Int × Int} {l : Terms} (h : Canon (p :: l)) : Canon l := ⟨(List.pairwise_cons.mp h.asc).2, fun q hq => h.nz q (List.mem_cons_of_mem _ hq)⟩
theorem Canon.head {p : Int × Int} {l : Terms} (h : Canon (p :: l)) : cof (p :: l) p.1 = p.2 := by
  rw [cof, if_pos rfl, cof_none fun q hq => by have := (List.pairwise_cons.mp h.asc).1 q hq; omega, Int.add_zero]
theorem Canon.low {p : Int × Int} {l : Terms} (h : Canon (p :: l)) {k : Int} (hk : k < p.1) : cof (p :: l) k = 0 :=
  cof_none fun q hq => by
    rcases List.mem_cons.mp hq with rfl | hq
    · omega
    · have := (List.pairwise_cons.mp h.asc).1 q hq; omega
/-- what the numbers are, the canonical terms are -/
theorem Canon.ext : ∀ {l m : Terms}, Canon l → Canon m → (∀ k, cof l k = cof m k) → l = m
  | [], [], _, _, _ => rfl
  | p :: l, [], h, _, e => absurd ((h.head.symm.trans (e p.1)).trans rfl) (h.nz p List.mem_cons_self)
  | [], q :: m, _, h, e => absurd ((h.head.symm.trans (e q.1).symm).trans rfl) (h.nz q List.mem_cons_self)
  | p :: l, q :: m, h, h', e => by
    have hp := h.nz p List.mem_cons_self
    have hq := h'.nz q List.mem_cons_self
    have e1 : p.1 = q.1 := by
      rcases Int.lt_trichotomy p.1 q.1 with a | a | a
      · have := e p.1
        rw [h.head, h'.low a] at this
        exact absurd this hp
      · exact a
      · have := e q.1
        rw [h'.head, h.low a] at this
        exact absurd this.symm hq
    have e2 : p.2 = q.2 := by
      have := e p.1
      rw [h.head, e1, h'.head] at this
      exact this
    have e3 : p = q := Prod.ext e1 e2
    subst e3
    have e4 : l = m := Canon.ext h.tail h'.tail fun k => by
      have := e k
      rw [cof, cof] at this
      omega
    rw [e4]
theorem Canon.zero {l : Terms} (h : Canon l) (e : ∀ k, cof l k = 0) : l = [] := Canon.ext h Canon.nil e
/-- the terms by ascending keys -/
theorem canon_of {ys : List Int} (h : ys.Pairwise (· < ·)) (f : Int → Int) : Canon ((ys.filter fun k => decide (f k ≠ 0)).map fun k => (k, f k)) := by
  refine ⟨List.pairwise_map.mpr ((h.filter _).imp fun a => a), fun p hp => ?_⟩
  obtain ⟨k, hk, rfl⟩ := List.mem_map.mp hp
  simpa using (List.mem_filter.mp hk).2
theorem cof_of : ∀ {ys : List Int}, ys.Pairwise (· < ·) → ∀ (f : Int → Int) (k : Int), cof ((ys.filter fun k => decide (f k ≠ 0)).map fun k => (k, f k)) k = if k ∈ ys then f k else 0
  | [], _, f, k => by simp [cof]
  | y :: ys, h, f, k => by
    have ih := cof_of (List.pairwise_cons.mp h).2 f k
    have hy := (List.pairwise_cons.mp h).1
    by_cases e : k = y
    · subst e
      have hn : ¬ k ∈ ys := fun hm => by have := hy k hm; omega
      rw [if_neg hn] at ih
      by_cases z : f k = 0
      · rw [List.filter_cons_of_neg (by simpa using z), ih, if_pos (by simp), z]
      · rw [List.filter_cons_of_pos (by simpa using z), List.map_cons, cof, ih, if_pos rfl, if_pos (by simp), Int.add_zero]
    · have em : (k ∈ y :: ys) ↔ k ∈ ys := by simp [e]
      by_cases z : f y = 0
      · rw [List.filter_cons_of_neg (by simpa using z), ih]; simp only [em]
      · rw [List.filter_cons_of_pos (by simpa using z), List.map_cons, cof, ih, if_neg (fun h => e h.symm), Int.zero_add]; simp only [em]
theorem Canon.le_len {l m : Terms} (h : Canon l) : (∀ p ∈ l, p.1 ∈ m.map (·.1)) → l.length ≤ m.length := by
  intro hs
  have nd : (l.map (·.1)).Nodup := (List.pairwise_map.mpr (h.asc.imp fun a => by omega))
  have key : ∀ (xs ys : List Int), xs.Nodup → (∀ x ∈ xs, x ∈ ys) → xs.length ≤ ys.length := by
    intro xs
    induction xs with
    | nil => intro ys _ _; exact Nat.zero_le _
    | cons x xs ih =>
      intro ys hn hs
      have hx := hs x List.mem_cons_self
      obtain ⟨hxn, hn⟩ := List.nodup_cons.mp hn
      have h1 := ih (ys.erase x) hn fun z hz => (List.mem_erase_of_ne (by rintro rfl; exact hxn hz)).mpr (hs z (List.mem_cons_of_mem _ hz))
      rw [List.length_erase_of_mem hx] at h1
      have h2 := List.length_pos_of_mem hx
      rw [List.length_cons]
      omega
  have := key (l.map (·.1)) (m.map (·.1)) nd fun x hx => by
    obtain ⟨p, hp, rfl⟩ := List.mem_map.mp hx
    exact hs p hp
  simpa using this

/-! ### sorted(d), d a dict of int keys, any number of them -/
def rSortDI : List V → Hp → VK → Prop := fun xs H Q => ∃ (a : Addr) (kvs : List (Key × V)) (ks : List Int), xs = [.ref a] ∧ Rd H a (.dK kvs) ∧ kvs.map (·.1) = ks.map Sum.inl ∧
    ∀ (ys : List Int) (p : Addr), ys.Perm ks → ys.Pairwise (· ≤ ·) → H p = none → Q (.ref p) (upd H p (.lst (ys.map V.int)))
theorem call_sortedDA {X : Cx} (hcalm : X.calm = true := by rfl) : CallR X (.builtin "sorted") rSortDI := by
  intro pins s σ H xs us Q I r q
  obtain ⟨a, kvs, ks, ex, hd, hks, q⟩ := q
  subst ex
  obtain ⟨u, eu, rx⟩ := vals1 r
  subst eu
  cases rx
  obtain ⟨z, lo, vs, rel, dd⟩ := dk_rd I.hok hd
  obtain ⟨ep, hat⟩ := dd.dictAt
  have hkeys : vs.map (·.1) = ks.map Sum.inl := rel.keys.symm.trans hks
  have hl : vs.length = ks.length := by
    have e := congrArg List.length hkeys
    rw [List.length_map, List.length_map] at e
    exact e
  have h16 : vs.length ≤ sizeLine := by rw [← rel.length]; exact z
  refine Calls.call_function_entry PyProof.Rows.kind_sorted PyProof.Rows.plain_sorted PyProof.Rows.entry_sorted (PyProof.Rows.args_sorted1 _) ?_
  unfold Builtin.«sorted»
  refine wpAny_bind (m := checkCount "sorted" 1 1 _) (wpAny_pure ?_)
  refine wpAny_bind (PySem.W.kdu_collect (A := X.A.in1) (PySem.W.kdl_dict (knd := mixKind X.prog X.w) (kvs := vs) (ep := ep) lo) (I.ok.hd hcalm) hat h16 fun h' tk acc hk hacc => ?_)
  have hal : acc.toList.length = ks.length := by rw [Array.length_toList, hacc.1, hl]
  have hS : IntsAre acc.toList ks := ints_each hal fun j v e => by
    obtain ⟨k, x, e1, e2⟩ := hacc.2 j v (by rw [← Array.getElem?_toList]; exact e)
    have e3 : (vs.map (·.1))[j]? = some k := by rw [List.getElem?_map, e1]; rfl
    rw [hkeys, List.getElem?_map] at e3
    cases e4 : ks[j]? with
    | none => rw [e4] at e3; cases e3
    | some y =>
      rw [e4] at e3
      have e5 : Sum.inl y = k := Option.some.inj e3
      subst e5
      rcases keyIs_shape (show keyIs (Sum.inl y) v = true from e2) with ⟨i, t, ek, ev⟩ | ⟨z, t, ek, ev⟩
      · cases ek
        exact ⟨y, t, rfl, ev⟩
      · cases ek
  have I1 : Inv X pins σ H { s with heap := h', toks := tk } := I.kept hk
  have h17 : acc.toList.length ≤ sizeLine := by rw [hal, ← hl]; exact h16
  refine wpAny_bind (wpAny_newList ?_ h17)
  have hoL : (h'.push (seqObj "list" acc.toList.toArray 0)).get? h'.objs.size = some (seqObj "list" acc.toList.toArray 0) := Heap.get?_push_size _ rfl
  show wpAny _ _ _ _ _ { s with heap := h'.push (seqObj "list" acc.toList.toArray 0), toks := tk }
  refine wpAny_bind (wpAny_holding (wpAny_call_entry PyProof.Rows.slot_list_sort ⟨_, hoL, rfl⟩ PyProof.Rows.entry_list_sort
    (SrtO.list_sort_ord (s := { s with heap := h'.push (seqObj "list" acc.toList.toArray 0), toks := tk }) SrtO.swo_int hoL h17 (fun h2 => SrtO.ints_sortable hS h2) fun out h1 h2 => ⟨_, rfl, ?_⟩) (PyProof.Rows.args_list_sort _)))
  obtain ⟨k1, k2, k3⟩ := SrtO.ints_out hS h1 h2
  obtain ⟨e', he'⟩ := PyProof.Rows.sortedHeap_at (vs := acc.toList) (out := out.toArray) hoL
  have hlen : ((out.map SrtO.iv).map V.int).length ≤ sizeLine := by
    rw [List.length_map, k2.length_eq, ← hl]
    exact h16
  refine wpAny_pure ⟨_, rfl, .ref h'.objs.size, upd H h'.objs.size (.lst ((out.map SrtO.iv).map V.int)), I1.laid (t' := tk) (fun b u e => ?_) (Nat.le_refl _)
    (show ObjOk X.prog X.w _ _ _ (.lst ((out.map SrtO.iv).map V.int)) from ⟨hlen, out, e', vals_of_ints k1, he'⟩), rfl, q _ _ k2 k3 (I1.hok.fresh (Nat.le_refl _))⟩
  have hb : b < h'.objs.size := Heap.lt_size e
  rw [PyProof.Rows.sortedHeap_old (Nat.ne_of_lt hb) (by rw [size_push']; exact Nat.lt_succ_of_lt hb)]
  exact Heap.get?_push_of_some _ e
/-- sorted(d), texts as keys -/
def rSortDS : List V → Hp → VK → Prop := fun xs H Q => ∃ (a : Addr) (kvs : List (Key × V)) (ks : List Str), xs = [.ref a] ∧ Rd H a (.dK kvs) ∧ kvs.map (·.1) = ks.map Sum.inr ∧ ks.length < 64 ∧
    ∀ ys p, ys.Perm ks → sortedS ys = true → H p = none → Q (.ref p) (upd H p (.lst (ys.map V.str)))
theorem call_sortedDS {X : Cx} (hcalm : X.calm = true := by rfl) : CallR X (.builtin "sorted") rSortDS := call_sortedD hcalm
/-! ### jars: dicts of ints by ints -/
def cfK (kvs : List (Key × V)) (k : Int) : Int := match valV kvs (.inl k) with | some (.int n) => n | _ => 0
structure JarK (kvs : List (Key × V)) : Prop where
  prs : ∀ p ∈ kvs, ∃ k n : Int, p = (Sum.inl k, V.int n)
  nd : (kvs.map (·.1)).Nodup
theorem mem_put {kvs : List (Key × V)} {k : Key} {v : V} {p : Key × V} (h : p ∈ putK kvs k v) : p ∈ kvs ∨ p = (k, v) := by
  unfold putK at h
  split at h
  · obtain ⟨q, hq, e⟩ := List.mem_map.mp h
    split at e
    · rename_i ek; right; rw [← e, ek]
    · left; rw [← e]; exact hq
  · rcases List.mem_append.mp h with h | h
    · exact .inl h
    · exact .inr (List.mem_singleton.mp h)
theorem keys_put (kvs : List (Key × V)) (k : Key) (v : V) : (putK kvs k v).map (·.1) = if (kvs.any fun kv => decide (kv.1 = k)) = true then kvs.map (·.1) else kvs.map (·.1) ++ [k] := by
  unfold putK
  split
  · rw [List.map_map]
    refine List.map_congr_left fun p _ => ?_
    show (if p.1 = k then (p.1, v) else p).1 = p.1
    split <;> rfl
  · rw [List.map_append]; rfl
theorem nodup_put {kvs : List (Key × V)} (h : (kvs.map (·.1)).Nodup) (k : Key) (v : V) : ((putK kvs k v).map (·.1)).Nodup := by
  rw [keys_put]
  split
  · exact h
  · rename_i hn
    refine List.nodup_append.mpr ⟨h, by simp, fun a ha b hb e => hn ?_⟩
    have hb := List.mem_singleton.mp hb
    subst hb
    subst e
    obtain ⟨p, hp, e⟩ := List.mem_map.mp ha
    exact List.any_eq_true.mpr ⟨p, hp, decide_eq_true e⟩
theorem JarK.nil : JarK [] := ⟨fun _ h => absurd h (by simp), by simp⟩
theorem JarK.put {kvs : List (Key × V)} (h : JarK kvs) (k n : Int) : JarK (putK kvs (.inl k) (.int n)) := by
  refine ⟨fun p hp => ?_, nodup_put h.nd _ _⟩
  rcases mem_put hp with h1 | rfl
  · exact h.prs p h1
  · exact ⟨k, n, rfl⟩
theorem cfK_put (kvs : List (Key × V)) (k n j : Int) : cfK (putK kvs (.inl k) (.int n)) j = if j = k then n else cfK kvs j := by
  unfold cfK
  rw [valV_put]
  by_cases e : j = k
  · subst e; rw [if_pos rfl, if_pos rfl]
  · rw [if_neg (fun h => e (Sum.inl.inj h)), if_neg e]
theorem val_mem {kvs : List (Key × V)} {k : Key} {v : V} (h : valV kvs k = some v) : (k, v) ∈ kvs := by
  unfold valV at h
  cases e : kvs.find? fun kv => decide (kv.1 = k) with
  | none => rw [e] at h; cases h
  | some p =>
    rw [e] at h
    have h1 := List.mem_of_find?_eq_some e
    have h2 := List.find?_some e
    have h3 : p.1 = k := of_decide_eq_true h2
    have h4 : p.2 = v := Option.some.inj h
    rw [← h3, ← h4]
    exact h1
theorem val_none {kvs : List (Key × V)} {k : Key} (h : valV kvs k = none) : ∀ p ∈ kvs, p.1 ≠ k := by
  intro p hp e
  unfold valV at h
  have h2 : kvs.find? (fun kv => decide (kv.1 = k)) = none := by
    cases q : kvs.find? (fun kv => decide (kv.1 = k)) with
    | none => rfl
    | some _ => rw [q] at h; cases h
  have := List.find?_eq_none.mp h2 p hp
  exact this (decide_eq_true e)
theorem JarK.val {kvs : List (Key × V)} (h : JarK kvs) (k : Int) : (valV kvs (.inl k)).getD (.int 0) = .int (cfK kvs k) := by
  unfold cfK
  cases e : valV kvs (.inl k) with
  | none => rfl
  | some v =>
    obtain ⟨k', n, e2⟩ := h.prs _ (val_mem e)
    cases e2
    rfl
theorem JarK.some {kvs : List (Key × V)} (h : JarK kvs) {k : Int} (m : Sum.inl k ∈ kvs.map (·.1)) : valV kvs (.inl k) = some (.int (cfK kvs k)) := by
  have hv := h.val k
  cases e : valV kvs (.inl k) with
  | none =>
    obtain ⟨p, hp, ek⟩ := List.mem_map.mp m
    exact absurd ek (val_none e p hp)
  | some v => rw [e] at hv; exact congrArg Option.some hv
theorem JarK.keys {kvs : List (Key × V)} (h : JarK kvs) : ∃ ks : List Int, kvs.map (·.1) = ks.map Sum.inl ∧ ks.Nodup ∧ (∀ k, ¬ k ∈ ks → cfK kvs k = 0) ∧ ks.length = kvs.length := by
  have hex : ∀ {l : List (Key × V)}, (∀ p ∈ l, ∃ k n : Int, p = (Sum.inl k, V.int n)) → ∃ ks : List Int, l.map (·.1) = ks.map Sum.inl := by
    intro l
    induction l with
    | nil => intro _; exact ⟨[], rfl⟩
    | cons p l ih =>
      intro hl
      obtain ⟨k, n, e⟩ := hl p List.mem_cons_self
      obtain ⟨ks, e2⟩ := ih fun q hq => hl q (List.mem_cons_of_mem _ hq)
      exact ⟨k :: ks, by rw [List.map_cons, List.map_cons, e2, e]⟩
  obtain ⟨ks, e⟩ := hex h.prs
  refine ⟨ks, e, ?_, fun k hk => ?_, ?_⟩
  · have := h.nd
    rw [e] at this
    exact (List.pairwise_map.mp this).imp fun a b => a (congrArg Sum.inl b)
  · unfold cfK
    cases q : valV kvs (.inl k) with
    | none => rfl
    | some v =>
      have hm : Sum.inl k ∈ kvs.map (·.1) := List.mem_map.mpr ⟨_, val_mem q, rfl⟩
      rw [e] at hm
      obtain ⟨k', hk', e'⟩ := List.mem_map.mp hm
      cases e'
      exact absurd hk' hk
  · have := congrArg List.length e
    simpa using this.symm
/-- the jar at a: its numbers c, at most n powers -/
def JarAt (H : Hp) (a : Addr) (n : Nat) (c : Int → Int) : Prop := ∃ kvs, H a = some (.dK kvs) ∧ JarK kvs ∧ kvs.length ≤ n ∧ ∀ k, cfK kvs k = c k
theorem JarAt.new {H : Hp} {p : Addr} : JarAt (upd H p (.dK [])) p 0 fun _ => 0 := ⟨[], upd_same, .nil, Nat.le_refl _, fun _ => rfl⟩
theorem JarAt.same {H H' : Hp} {a : Addr} {n : Nat} {c : Int → Int} (h : JarAt H a n c) (s : Same H H') : JarAt H' a n c := let ⟨kvs, e, r⟩ := h; ⟨kvs, s _ _ e, r⟩
theorem JarAt.keep {H : Hp} {a p : Addr} {o : HO} {n : Nat} {c : Int → Int} (h : JarAt H a n c) (q : H p = none) : JarAt (upd H p o) a n c := let ⟨kvs, e, r⟩ := h; ⟨kvs, h_keep e q, r⟩
theorem JarAt.but {H H' : Hp} {a b : Addr} {n : Nat} {c : Int → Int} (h : JarAt H a n c) (ne : a ≠ b) (s : But b H H') : JarAt H' a n c := let ⟨kvs, e, r⟩ := h; ⟨kvs, s _ _ ne e, r⟩
theorem JarAt.ext {H : Hp} {a : Addr} {n : Nat} {c d : Int → Int} (h : JarAt H a n c) (e : ∀ k, c k = d k) : JarAt H a n d := let ⟨kvs, e1, r1, r2, r3⟩ := h; ⟨kvs, e1, r1, r2, fun k => (r3 k).trans (e k)⟩
theorem JarAt.ne {H : Hp} {a p : Addr} {n : Nat} {c : Int → Int} (h : JarAt H a n c) (q : H p = none) : p ≠ a := let ⟨_, e, _⟩ := h; (ne_of_none e q).symm
/-- k is a key of the jar -/
def JarHas (H : Hp) (a : Addr) (k : Int) : Prop := ∃ kvs : List (Key × V), H a = some (.dK kvs) ∧ Sum.inl k ∈ kvs.map (·.1)
theorem JarHas.same {H H' : Hp} {a : Addr} {k : Int} (h : JarHas H a k) (s : Same H H') : JarHas H' a k := let ⟨kvs, e, r⟩ := h; ⟨kvs, s _ _ e, r⟩
def addAt (c : Int → Int) (k v : Int) : Int → Int := fun j => if j = k then v else c j
section
variable {σ : L2.St} {H : Hp} {Q : VK} {K : PySem.W.Frag} {td ty tx tv : TE} {a : Addr} {n : Nat} {c : Int → Int} {D : Ends}
theorem r_dnew (q : ∀ p, H p = none → Q (.ref p) (upd H p (.dK []))) : tDNewK σ H Q := q
theorem r_dget2 (q : td σ H fun x H1 => ∃ a, x = .ref a ∧ IsD H1 a ∧ ty σ H1 fun y H2 => tx σ H2 fun z H3 => ∃ o, DGet H3 a y o ∧ Q (o.getD z) H3) : tDGet2 td ty tx σ H Q := q
theorem r_dget (q : td σ H fun x H1 => ty σ H1 fun y H2 => ∃ a v, x = .ref a ∧ DGet H2 a y (some v) ∧ Q v H2) : tDGet td ty σ H Q := q
theorem r_dput (q : tv σ H fun v H1 => td σ H1 fun x H2 => ty σ H2 fun y H3 => ∃ a H4, x = .ref a ∧ DPut H3 a y v H4 ∧ D.nx σ H4) : sDPut td ty tv D σ H := q
theorem r_dsetd (q : td σ H fun x H1 => ∃ a, x = .ref a ∧ IsD H1 a ∧ ty σ H1 fun y H2 => tx σ H2 fun z H3 => ∃ (kvs : List (Key × V)) (k : Key), H3 a = some (.dK kvs) ∧ y = kV k ∧ kvs.length < sizeLine ∧
  (∀ v, valV kvs k = some v → Q v H3) ∧ (valV kvs k = none → Q z (upd H3 a (.dK (putK kvs k z))))) : tDSetd td ty tx σ H Q := q
theorem r_isD {kvs : List (Key × V)} {R : Addr → Prop} (h : H a = some (.dK kvs)) (q : R a) : ∃ b, V.ref a = .ref b ∧ IsD H b ∧ R b := ⟨a, rfl, .inl ⟨kvs, .inl h⟩, q⟩
theorem JarAt.isD {R : Addr → Prop} (h : JarAt H a n c) (q : R a) : ∃ b, V.ref a = .ref b ∧ IsD H b ∧ R b := let ⟨_, e, _⟩ := h; r_isD e q
theorem JarAt.dget0 (h : JarAt H a n c) (k : Int) : ∃ o, DGet H a (.int k) o ∧ o.getD (.int 0) = .int (c k) := by
  obtain ⟨kvs, e, hk, _, hc⟩ := h
  exact ⟨_, DGet.k (k := .inl k) e, by rw [hk.val, hc]⟩
theorem JarAt.dput {k v : Int} (h : JarAt H a n c) (hn : n ≤ 1000000) : ∃ H', DPut H a (.int k) (.int v) H' ∧ But a H H' ∧ (∀ p, H p = none → p ≠ a → H' p = none) ∧ JarAt H' a (n + 1) (addAt c k v) := by
  obtain ⟨kvs, e, hk, hl, hc⟩ := h
  refine ⟨_, DPut.k (k := .inl k) e (Nat.lt_of_le_of_lt (Nat.le_trans hl hn) (by decide)), But.self (But.refl a H), fun p hp np => (upd_ne np).trans hp, _, upd_same, hk.put k v, ?_, fun j => ?_⟩
  · exact Nat.le_trans (length_putK _ _ _) (by omega)
  · rw [cfK_put, hc]; rfl
theorem JarAt.dget {k : Int} (h : JarAt H a n c) (m : JarHas H a k) : DGet H a (.int k) (some (.int (c k))) := by
  obtain ⟨kvs, e, hk, _, hc⟩ := h
  obtain ⟨kvs', e', hm⟩ := m
  cases e.symm.trans e'
  have := DGet.k (k := .inl k) e
  rw [hk.some hm, hc] at this
  exact this
theorem rSortDJ (h : JarAt H a n c) (q : ∀ (ys : List Int) (p : Addr), ys.Pairwise (· < ·) → (∀ k, ¬ k ∈ ys → c k = 0) → ys.length ≤ n → (∀ k ∈ ys, JarHas H a k) → H p = none → Q (.ref p) (upd H p (.lst (ys.map V.int)))) : rSortDI [.ref a] H Q := by
  obtain ⟨kvs, e, hk, hl, hc⟩ := h
  obtain ⟨ks, e1, e2, e3, e4⟩ := hk.keys
  refine ⟨a, kvs, ks, rfl, .inl e, e1, fun ys p hp hs hn => q ys p ?_ (fun k hy => ?_) ?_ (fun k hy => ?_) hn⟩
  · have nd : ys.Nodup := hp.nodup_iff.mpr e2
    have : ys.Pairwise fun x y => x ≤ y ∧ x ≠ y := List.Pairwise.and hs nd
    exact this.imp fun h => by omega
  · rw [← hc]
    exact e3 k fun hm => hy (hp.mem_iff.mpr hm)
  · rw [hp.length_eq, e4]; exact hl
  · exact ⟨kvs, e, by rw [e1]; exact List.mem_map.mpr ⟨k, hp.mem_iff.mp hy, rfl⟩⟩
end
/-- pairs of ints, laid as tuples -/
def TermsL (H : Hp) : List V → Terms → Prop
  | [], ts => ts = []
  | v :: vs, ts => ∃ b p us, ts = p :: us ∧ v = .ref b ∧ H b = some (.tup [.int p.1, .int p.2]) ∧ TermsL H vs us
theorem TermsL.tk {H H' : Hp} (t : Tk H H') : ∀ {vs : List V} {ts : Terms}, TermsL H vs ts → TermsL H' vs ts
  | [], _, h => h
  | _ :: _, _, ⟨b, p, us, e1, e2, e3, e4⟩ => ⟨b, p, us, e1, e2, t _ _ e3, e4.tk t⟩
theorem TermsL.app {H : Hp} : ∀ {vs ws : List V} {ts us : Terms}, TermsL H vs ts → TermsL H ws us → TermsL H (vs ++ ws) (ts ++ us)
  | [], ws, ts, us, h, h' => by rw [show ts = [] from h]; exact h'
  | _ :: _, ws, _, us, ⟨b, p, qs, e1, e2, e3, e4⟩, h' => ⟨b, p, qs ++ us, by rw [e1]; rfl, e2, e3, e4.app h'⟩
theorem TermsL.length {H : Hp} : ∀ {vs : List V} {ts : Terms}, TermsL H vs ts → vs.length = ts.length
  | [], ts, h => by rw [show ts = [] from h]; rfl
  | _ :: _, _, ⟨b, p, qs, e1, e2, e3, e4⟩ => by rw [e1, List.length_cons, List.length_cons, e4.length]
theorem TermsL.one {H : Hp} {b : Addr} {x y : Int} (h : H b = some (.tup [.int x, .int y])) : TermsL H [.ref b] [(x, y)] := ⟨b, (x, y), [], rfl, rfl, h, rfl⟩
theorem TermsL.at {H : Hp} : ∀ {vs : List V} {ts : Terms} (i : Nat) {v : V}, TermsL H vs ts → vs[i]? = some v → ∃ b p, v = .ref b ∧ ts[i]? = some p ∧ H b = some (.tup [.int p.1, .int p.2])
  | [], _, _, _, _, h => by cases h
  | _ :: _, _, 0, _, ⟨b, p, qs, e1, e2, e3, e4⟩, h => by
    cases h
    exact ⟨b, p, e2, by rw [e1]; rfl, e3⟩
  | _ :: _, _, i + 1, v, ⟨b, p, qs, e1, e2, e3, e4⟩, h => by
    obtain ⟨b', p', x1, x2, x3⟩ := TermsL.at i e4 h
    exact ⟨b', p', x1, by rw [e1]; exact x2, x3⟩
/-- a list of pairs of ints -/
def TermsAt (H : Hp) (l : Addr) (ts : Terms) : Prop := ∃ vs, H l = some (.lst vs) ∧ TermsL H vs ts
theorem TermsAt.same {H H' : Hp} {l : Addr} {ts : Terms} (h : TermsAt H l ts) (s : Same H H') : TermsAt H' l ts := let ⟨vs, e, e2⟩ := h; ⟨vs, s _ _ e, e2.tk (Tk.same s)⟩
theorem TermsAt.nil {H : Hp} {l : Addr} (h : TermsAt H l []) : H l = some (.lst []) := by
  obtain ⟨as, e, e2⟩ := h
  cases as with
  | nil => exact e
  | cons a r => obtain ⟨_, _, _, e, _⟩ := e2; cases e
/-! ### the same as data -/
def pairD (p : Int × Int) : PyData := .tuple [.int p.1, .int p.2]
theorem TermsL.dp {K : PySem.W.Frag} {H : Hp} : ∀ {vs : List V} {ts : Terms}, TermsL H vs ts → DpAll K H vs (ts.map pairD)
  | [], ts, h => by rw [show ts = [] from h]; exact .nil
  | _ :: _, _, ⟨b, p, qs, e1, e2, e3, e4⟩ => by
    subst e1 e2
    exact .cons (.tup (.of e3) (.cons (.int _) (.cons (.int _) .nil))) e4.dp
theorem TermsAt.dp {K : PySem.W.Frag} {H : Hp} {l : Addr} {ts : Terms} (h : TermsAt H l ts) : Dp K H (.ref l) (.list (ts.map pairD)) := let ⟨_, e, e2⟩ := h; .lst (.of e) e2.dp
theorem eqv_pair (p q : Int × Int) : PyData.eqv (pairD p) (pairD q) = decide (p = q) := by
  obtain ⟨a, b⟩ := p
  obtain ⟨c, d⟩ := q
  have e : decide ((a, b) = (c, d)) = (decide (a = c) && decide (b = d)) := by
    rw [← Bool.decide_and]
    simp
  rw [e]
  simp [pairD, PyData.eqv, PyData.eqvAll]
  by_cases h1 : a = c <;> by_cases h2 : b = d <;> simp [h1, h2]
theorem eqvAll_pairs : ∀ (ts us : Terms), PyData.eqvAll (ts.map pairD) (us.map pairD) = decide (ts = us)
  | [], [] => by simp [PyData.eqvAll]
  | [], _ :: _ => by simp [PyData.eqvAll]
  | _ :: _, [] => by simp [PyData.eqvAll]
  | p :: ts, q :: us => by
    rw [List.map_cons, List.map_cons, PyData.eqvAll, eqv_pair, eqvAll_pairs ts us, ← Bool.decide_and]
    simp
theorem eqv_terms (ts us : Terms) : PyData.eqv (.list (ts.map pairD)) (.list (us.map pairD)) = decide (ts = us) := by
  rw [PyData.eqv]; exact eqvAll_pairs ts us
/-- data that == can walk -/
def Lay (n : Nat) (d : PyData) : Prop := d.canLay0 = true ∧ d.depth ≤ n
theorem Lay.mono {m n : Nat} {d : PyData} (h : Lay m d) (l : m ≤ n) : Lay n d := ⟨h.1, Nat.le_trans h.2 l⟩
theorem layAll {n : Nat} : ∀ {xs : List PyData}, (∀ x ∈ xs, Lay n x) → PyData.canLayAll0 xs = true ∧ PyData.depthAll xs ≤ n
  | [], _ => by simp [PyData.canLayAll0, PyData.depthAll]
  | x :: xs, h => by
    obtain ⟨h1, h2⟩ := h x List.mem_cons_self
    obtain ⟨h3, h4⟩ := layAll fun y hy => h y (List.mem_cons_of_mem _ hy)
    rw [PyData.canLayAll0, PyData.depthAll, h1, h3]
    exact ⟨rfl, Nat.max_le.mpr ⟨h2, h4⟩⟩
theorem Lay.list {n : Nat} {xs : List PyData} (h : ∀ x ∈ xs, Lay n x) : Lay (n + 1) (.list xs) := by
  obtain ⟨h1, h2⟩ := layAll h
  exact ⟨by rw [PyData.canLay0]; exact h1, by rw [PyData.depth]; omega⟩
theorem Lay.tuple {n : Nat} {xs : List PyData} (h : ∀ x ∈ xs, Lay n x) : Lay (n + 1) (.tuple xs) := by
  obtain ⟨h1, h2⟩ := layAll h
  exact ⟨by rw [PyData.canLay0]; exact h1, by rw [PyData.depth]; omega⟩
theorem Lay.int {n : Nat} (i : Int) : Lay n (.int i) := ⟨by simp [PyData.canLay0], by simp [PyData.depth]⟩
theorem Lay.shaped {n : Nat} {d : PyData} (h : Lay n d) (l : n ≤ 64) : SeqAt.shaped d = true := by
  unfold SeqAt.shaped
  rw [h.1, decide_eq_true (Nat.le_trans h.2 l)]
  rfl
theorem lay_pair (p : Int × Int) : Lay 1 (pairD p) := Lay.tuple fun x hx => by
  rcases List.mem_cons.mp hx with rfl | hx
  · exact .int _
  · rcases List.mem_cons.mp hx with rfl | hx
    · exact .int _
    · cases hx
theorem lay_terms (ts : Terms) : Lay 2 (.list (ts.map pairD)) := Lay.list fun x hx => by
  obtain ⟨p, _, rfl⟩ := List.mem_map.mp hx
  exact lay_pair p
theorem shaped_terms (ts : Terms) : SeqAt.shaped (.list (ts.map pairD)) = true := (lay_terms ts).shaped (by decide)
theorem free_upd {H : Hp} {p D : Addr} {o : HO} (h : upd H p o D = none) : H D = none := by
  by_cases e : D = p
  · subst e; rw [upd_same] at h; cases h
  · rw [upd_ne e] at h; exact h
theorem free_same {H H' : Hp} {D : Addr} (s : Same H H') (h : H' D = none) : H D = none := by
  cases e : H D with
  | none => rfl
  | some o => rw [s _ _ e] at h; cases h
section
variable {X : Cx} {K : PySem.W.Frag}
theorem op_eqDK (hu : X.A.units + 64 < cLine) (h : X.K = K := by rfl) : OpR X (compareOp .Eq) (rEqD K) := by subst h; exact op_eqD hu
theorem op_neDK (hu : X.A.units + 64 < cLine) (h : X.K = K := by rfl) : OpR X (compareOp .NotEq) (rNeD K) := by subst h; exact op_neD hu
theorem op_in_seqK (h : X.K = K := by rfl) : OpR X (compareOp .In) (rIn K false) := by subst h; exact op_in_seq
theorem op_notIn_seqK (h : X.K = K := by rfl) : OpR X (compareOp .NotIn) (rIn K true) := by subst h; exact op_notIn_seq
end
theorem r_neT {K : PySem.W.Frag} {H : Hp} {Q : VK} {l m : Addr} {ts us : Terms} (h : TermsAt H l ts) (h' : TermsAt H m us) (q : Q (.bl (!decide (ts = us))) H) : rNeD K (.ref l) (.ref m) H Q :=
  ⟨_, _, h.dp, h'.dp, shaped_terms ts, shaped_terms us, by rw [eqv_terms]; exact q⟩
theorem r_eqT {K : PySem.W.Frag} {H : Hp} {Q : VK} {l m : Addr} {ts us : Terms} (h : TermsAt H l ts) (h' : TermsAt H m us) (q : Q (.bl (decide (ts = us))) H) : rEqD K (.ref l) (.ref m) H Q :=
  ⟨_, _, h.dp, h'.dp, shaped_terms ts, shaped_terms us, by rw [eqv_terms]; exact q⟩
theorem TermsAt.none {H : Hp} {l : Addr} (h : H l = some (.lst [])) : TermsAt H l [] := ⟨[], h, rfl⟩
def spTerms : Sp := fun vs H Q _ => ∃ (a : Addr) (n : Nat) (c : Int → Int), vs = [.ref a] ∧ JarAt H a n c ∧ n ≤ 90000 ∧
  ∀ l ts H', H l = none → Same H H' → Canon ts → (∀ k, cof ts k = c k) → ts.length ≤ n → TermsAt H' l ts → Q (.ref l) H'
end My

set_option Elab.async false
set_option linter.all false
set_option maxRecDepth 100000
namespace My
open PySem PySem.Spec PyProof.Rows L2
/-! ### iter(t), t a tuple -/
def IterO (b p : Addr) : HO := .ext fun h => h.IsTupleIter p b 0
theorem iterO_ok {P : Program} {w : World} {H : Hp} {h : Heap} {b p : Addr} (e : h.IsTupleIter p b 0) : ObjOk P w H h p (IterO b p) := by
  obtain ⟨o, ho, hc, hd⟩ := id e
  exact ⟨e, ⟨o, ho⟩, fun h1 h2 q k => q.at fun o e => k o e⟩
section
variable {X : Cx} {pins : List (Addr × Obj)} {σ : L2.St} {H : Hp} {s : Shared} {Q : VK} {C : Addr} {m : Str} {k : Nat} {ps : List Str} {sp : Sp} {tg l : Expr} {tl : TE}
def rIterT (K : PySem.W.Frag) : List V → Hp → VK → Prop := fun xs H Q => ∃ b ys, xs = [.ref b] ∧ SqT K H b ys ∧ ∀ p, H p = none → Q (.ref p) (upd H p (IterO b p))
theorem call_iterT : CallR X (.builtin "iter") (rIterT X.K) := by
  intro pins s σ H xs us Q I r q
  obtain ⟨b, ys, rfl, hq, q⟩ := q
  obtain ⟨u, rfl, ru⟩ := r.one
  cases ru
  obtain ⟨its, rv, pl, hz⟩ := I.tuple hq
  refine Calls.call_function_entry (by decide +kernel) (by decide +kernel) PySem.W.kdk_entry_iter (PySem.W.kdk_args_iter _) ?_
  unfold Builtin.«iter»
  refine wpAny_bind (m := someArgs "iter" 1 2 _) (wpAny_of_eq (a := [Value.ref b]) (by first | rfl | kernel_rfl!) ?_)
  show wpAny _ _ (pyIter (.ref b) >>= _) _ _ _
  refine wpAny_bind (wpAny_pyIter_tuple (show s.heap.IsTuple b its.toArray from pl) ?_)
  refine wpAny_pure ⟨_, rfl, .ref s.heap.objs.size, upd H s.heap.objs.size (IterO b s.heap.objs.size), I.laid (t' := s.toks) (fun b o e => Heap.get?_push_of_some _ e) (Nat.le_refl _) (iterO_ok ⟨_, Heap.get?_push_size _ rfl, rfl, rfl⟩), rfl, q _ (I.hok.fresh (Nat.le_refl _))⟩
/-- what was tracked at a is tracked no more -/
theorem Inv.forget {a : Addr} {φ : Heap → Prop} (I : Inv X pins σ H s) (ha : H a = some (.ext φ)) : Inv X pins σ (delH H a) s := by
  have neN : ∀ b, H b = none → b ≠ a := fun b e z => by
    rw [z, ha] at e
    cases e
  have neT : ∀ b xs, H b = some (.tup xs) → b ≠ a := fun b xs e z => by
    rw [z, ha] at e
    cases e
  have neF : ∀ b o u, H b = some (.frz o u) → b ≠ a := fun b o u e z => by
    rw [z, ha] at e
    cases e
  have neB : ∀ b ps, H b = some (.tbl ps) → b ≠ a := fun b ps e z => by
    rw [z, ha] at e
    cases e
  have neO : ∀ b c, H b = some (.own c) → b ≠ a := fun b c e z => by
    rw [z, ha] at e
    cases e
  refine ⟨I.ok, I.os, I.bare, ⟨I.base.keep, I.base.slot, fun b o e n hq => ?_, I.base.there, fun b xs e => ?_, fun b o u e => ?_, fun b ps e => ?_⟩, I.loc, I.cell, ?_, fun x c e => ?_, fun p hp => ?_, fun b u e => ?_, I.len⟩
  · have q := I.base.free b o e n hq
    rw [delH_ne (neN b q)]
    exact q
  · have q := I.base.tups b xs e
    rw [delH_ne (neT b xs q)]
    exact q
  · have q := I.base.frzs b o u e
    rw [delH_ne (neF b o u q)]
    exact q
  · obtain ⟨m, q⟩ := I.base.tbls b ps e
    exact ⟨m, by rw [delH_ne (neB b _ q)]; exact q⟩
  · rw [delH_ne (neN _ I.free)]
    exact I.free
  · rw [delH_ne (neN _ (I.freeC x c e))]
    exact I.freeC x c e
  · obtain ⟨e, n, ne, nf, d⟩ := I.pin p hp
    exact ⟨e, by rw [delH_ne (neN _ n)]; exact n, ne, nf, d⟩
  · have hb : b ≠ a := fun z => by
      rw [z, delH_same] at e
      cases e
    rw [delH_ne hb] at e
    refine (I.hok b u e).stay (fun c v hc q => q) (fun c q => ?_) fun c xs q => ?_
    · rw [delH_ne (neO c b q)]
      exact q
    · rw [delH_ne (neT c xs q)]
      exact q
end
/-! ### a def whose promise knows the state at its entry -/
structure FnS (P : Program) (w : World) (K : PySem.W.Frag) (mg : Str → Option Value) (base : Heap) (k : Nat) (f : Addr) (fd : FuncData) (ps : List Str) (sp : Shared → Sp) : Prop where
  len : ∀ s vs H Q E, sp s vs H Q E → vs.length = ps.length
  run : ∀ (A : Around) (outer : List Env) (s : Shared) (H : Hp) (args : Args) (us : List Value) (vs : List V) (Q : VK) (E : XK), Room k A → Env0 P w K mg base A outer s H → BindsTo s fd args (ps.zip us) → Vals vs us → sp s vs H Q E →
    codeAny (model P w) A (.call (.ref f) args) (CR CX0 outer P w H s Q E) s
theorem fnS_of {P : Program} {w : World} {K : PySem.W.Frag} {mg : Str → Option Value} {base : Heap} {k : Nat} {f : Addr} {x qual : Str} {st : Stmt} {fd : FuncData} {N ps : List Str} {sp : Shared → Sp} (F : Fun K x qual st f fd) (S : FnScope N ps (defScope st))
    (len : ∀ s vs H Q E, sp s vs H Q E → vs.length = ps.length)
    (hbody : ∀ (cdv : Value) (A : Around) (outer : List Env) (s : Shared) (H : Hp) (vs : List V) (Q : VK) (E : XK), Room k (A.deeper (envOfC qual (defScope st) s.heap.objs.size f cdv)) → sp s vs H Q E →
      ∃ t, PSs (cxOf CX0 P w K mg base N qual (defScope st) f cdv A outer s H E).nox (defBody st) t ∧ t { nx := fun _ H' => Q .non H', rt := Q } (start N vs) H) : FnS P w K mg base (k + 1) f fd ps sp := by
  obtain ⟨oc, od, kV, doc, pm, an, cdv, ct, osl, rfl, lk, hcd⟩ := F.ex
  refine ⟨len, fun A outer s H args us vs Q E hr e0 hb r hsp => ?_⟩
  have hl := len _ _ _ _ _ hsp
  have KX : K.In s.heap := e0.mod.kin.keeps fun b o e => (e0.bs b o e).1
  have lim : s.heap.NoLimit := e0.mod.nolimit.keeps fun b o e => (e0.bs b o e).1
  have hkind : ∀ y ∈ ps.zip us, (defScope st).names.lookup y.1 = some .local ∨ ((defScope st).names.lookup y.1 = some .cell ∧ ((cellsFrom (s.heap.objs.size + 1) (defScope st).names []).lookup y.1).isSome = true) := fun ⟨n, v⟩ hy => by
    rcases S.par n (List.of_mem_zip hy).1 with q | q
    · exact .inl q
    · exact .inr ⟨q, PySem.W.cellsFrom_some _ _ _ (.inl q)⟩
  refine codeAny_call_function hr.depth (KX _ _ lk) rfl S.co S.gen rfl (PySem.W.codeRec_of KX hcd) (hb _ _ _ _ ?_)
  refine wpAny_newFunctionEnv_cells S.kind hkind fun env he s1 x => ?_
  subst he
  refine ⟨lim.keeps x.toInCall.keep, codeAny_func ?_⟩
  obtain ⟨t, ht, hq⟩ := hbody cdv A outer s H vs Q E (hr.deeper _) hsp
  have ht := ht.nox
  have I : Inv (cxOf CX0 P w K mg base N qual (defScope st) f cdv A outer s H E) [] (start N vs) H s1 := inv_start S hr.hd e0 hl r x
  refine wpAny_mono (ht.run [] s1 (start N vs) H _ I hq) (fun fl s' hs => ?_) fun e s' hs => hs
  have fin : ∀ {σ' : L2.St} {H' : Hp} {v : V} {u : Value}, Inv (cxOf CX0 P w K mg base N qual (defScope st) f cdv A outer s H E) [] σ' H' s' → RelV v u → Q v H' → CE outer P w H s Q u s' :=
    fun {σ' H' v u} J rv q => ⟨v, H', J.os, J.bare, J.base, J.hok, rv, q⟩
  cases fl with
  | ret u =>
    obtain ⟨v, σ', H', J, rv, q⟩ := hs
    exact fin J rv q
  | next =>
    obtain ⟨σ', H', J, q⟩ := hs
    exact fin (v := V.non) (u := Value.none) J rfl q
  | brk =>
    obtain ⟨_, _, _, q⟩ := hs
    exact False.elim q
  | cont =>
    obtain ⟨_, _, _, q⟩ := hs
    exact False.elim q
structure HasS (P : Program) (w : World) (K : PySem.W.Frag) (mg : Str → Option Value) (base : Heap) (C : Addr) (m : Str) (k : Nat) (ps : List Str) (sp : Shared → Sp) : Prop where
  ex : ∃ f fd, FnS P w K mg base k f fd ps sp ∧ Meth K C m f ∧ Binds K fd ps []
section
variable {X : Cx} {pins : List (Addr × Obj)} {σ : L2.St} {H : Hp} {s : Shared} {Q : VK} {C : Addr} {m : Str} {k : Nat} {ps : List Str} {f : Addr} {fd : FuncData} {tg l : Expr} {tl : TE}
theorem run_mS {sp : Shared → Sp} (F : FnS X.prog X.w X.K X.mg X.base k f fd ps sp) (b : Binds X.K fd ps []) (hr : Room k X.A) (I : Inv X pins σ H s) {us : List Value} {vs : List V} (r : Vals vs us) (q : sp s vs H Q E0) : wpAny (model X.prog X.w) X.A (call (.ref f) us) (EP X pins σ Q) X.xe s := by
  have hl : us.length = ps.length := by rw [← r.length]; exact F.len _ _ _ _ _ q
  refine wpAny_call (codeAny_mono (F.run X.A X.stack s H ⟨us, []⟩ us vs Q E0 hr I.env0 (by simpa using b s us I.kIn (by simpa using hl)) r q) fun r s' hq => ?_)
  cases r with
  | error e => exact (pass0 (X := X)) pins σ H s e s' I hq
  | ok fl =>
    cases fl with
    | ret u => exact I.after hq
    | next => exact False.elim hq
    | brk => exact False.elim hq
    | cont => exact False.elim hq
/-- iter(self.t), t a tuple: the new iterator lies behind all that was there at the entry -/
def rIterS (X : Cx) : List V → Hp → VK → Prop := fun xs H Q => ∃ b ys, xs = [.ref b] ∧ SqT X.K H b ys ∧ ∀ p, H p = none → X.s_0.heap.objs.size ≤ p → Q (.ref p) (upd H p (IterO b p))
theorem call_iterS : CallR X (.builtin "iter") (rIterS X) := by
  intro pins s σ H xs us Q I r q
  obtain ⟨b, ys, rfl, hq, q⟩ := q
  obtain ⟨u, rfl, ru⟩ := r.one
  cases ru
  obtain ⟨its, rv, pl, hz⟩ := I.tuple hq
  refine Calls.call_function_entry (by decide +kernel) (by decide +kernel) PySem.W.kdk_entry_iter (PySem.W.kdk_args_iter _) ?_
  unfold Builtin.«iter»
  refine wpAny_bind (m := someArgs "iter" 1 2 _) (wpAny_of_eq (a := [Value.ref b]) (by first | rfl | kernel_rfl!) ?_)
  show wpAny _ _ (pyIter (.ref b) >>= _) _ _ _
  refine wpAny_bind (wpAny_pyIter_tuple (show s.heap.IsTuple b its.toArray from pl) ?_)
  refine wpAny_pure ⟨_, rfl, .ref s.heap.objs.size, upd H s.heap.objs.size (IterO b s.heap.objs.size), I.laid (t' := s.toks) (fun b o e => Heap.get?_push_of_some _ e) (Nat.le_refl _) (iterO_ok ⟨_, Heap.get?_push_size _ rfl, rfl, rfl⟩), rfl, q _ (I.hok.fresh (Nat.le_refl _)) I.sz⟩
/-- what __iter__ promises: iter(the tuple of the field) -/
def spIter (K : PySem.W.Frag) (C : Addr) (fld : Str) : Shared → Sp := fun s vs H Q _ => ∃ a dx fs b ys, vs = [.ref a] ∧ H a = some (.ins C dx fs) ∧ fs.lookup fld = some (.ref b) ∧ SqT K H b ys ∧ ∀ p, H p = none → s.heap.objs.size ≤ p → Q (.ref p) (upd H p (IterO b p))
/-- for y in x, x an instance of the class at C whose __iter__ gives iter(the tuple of a field) -/
def iOwn (K : PySem.W.Frag) (C : Addr) (fld : Str) (tl : TE) : TI := fun σ H R => tl σ H fun x H1 => ∃ a dx fs b ys, x = .ref a ∧ H1 a = some (.ins C dx fs) ∧ fs.lookup fld = some (.ref b) ∧ SqT K H1 b ys ∧ R (Itt K b) H1
theorem pi_own {fld : Str} (hl : PE X l tl) (h : HasS X.prog X.w X.K X.mg X.base C "__iter__" k ps (spIter X.K C fld)) (hr : Room k X.A) : PI X tg l (iOwn X.K C fld tl) := by
  refine ⟨fun pins s σ H R I q => ?_⟩
  obtain ⟨f, fd, F, M, b⟩ := h.ex
  refine thn (hl.run pins s σ H _ I q) fun v s1 ⟨x, H1, I1, r1, q1⟩ => ?_
  obtain ⟨a, dx, fs, t, ys, rfl, ha, hf, ht, q⟩ := q1
  cases r1
  obtain ⟨mA, O, _⟩ := ins_get I1.hok ha
  obtain ⟨od, J, _⟩ := O.look
  obtain ⟨m', hF⟩ := I1.fr
  refine PySem.W.owit_iter hF I1.ok.mod.kin J M.at_ M.fn ?_
  have hsp : spIter X.K C fld s1 [.ref a] H1 (fun v H2 => ∃ p, v = .ref p ∧ s1.heap.objs.size ≤ p ∧ H1 p = none ∧ H2 = upd H1 p (IterO t p)) E0 := ⟨a, dx, fs, t, ys, rfl, ha, hf, ht, fun p np sz => ⟨p, rfl, sz, np, rfl⟩⟩
  refine wpAny_mono (run_mS (vs := [.ref a]) F b hr I1 (.cons rfl .nil) hsp) (fun w s2 z => ?_) fun _ _ x => x
  obtain ⟨z, H2, I2, rz, p, rfl, sz, np, rfl⟩ := z
  cases rz
  obtain ⟨st, _, _⟩ := I2.hok p _ upd_same
  have st : s2.heap.IsTupleIter p t 0 := st
  unfold PySem.W.OwitIt
  refine wpAny_bind (wpAny_typeOf st.typeIs (wpAny_of_eq PySem.F.slot_tuple_iterator_next.lookup ?_))
  have I3 := Inv.forget I2 upd_same
  rw [delH_new np] at I3
  refine ⟨p, [p], _, Itt X.K t, H1, rfl, I3, turn_tuple t p, st, fun c hc => ?_, q⟩
  have e : c = p := by simpa using hc
  subst e
  exact I1.fpOk sz np
end
end My

set_option Elab.async false
set_option linter.all false
set_option maxRecDepth 100000
namespace PySem.W
open Lean Elab Tactic Meta PySem PySem.Calls PyProof.Rows
section
variable {prog : Program} {w : World} {A : Around} {E : Value → Shared → Prop} {s : Shared} {K : Frag} {x C L f dx : Addr} {h₀ : Heap} {m : Str → Option Value} {nm T : String} {i : Int} {t : Tok}
/-- an int's method declines an instance of an own class -/
theorem own_int_declines {name : String} {g : Int → Int → Sem PySem.Fin} {Q : PySem.Fin → Shared → Prop} (ho : s.heap.get? x = some (instObj C dx)) (h : Q (.done (.ret .notImplemented)) s) : wpAny (model prog w) A (Builtin.Int.intBinary name g false ⟨[.int i t, .ref x], []⟩) Q E s := by
  unfold Builtin.Int.intBinary
  refine wpAny_bind (wpAny_of_eq (a := ((Value.int i t : Value), [Value.ref x])) (by first | rfl | (simp only [slotArgs]; rfl)) ?_)
  show wpAny _ _ (Builtin.Int.intOfSelf (.int i t) >>= _) _ _ _
  refine wpAny_bind (wpAny_pure ?_)
  show wpAny _ _ (asInt? (.ref x) >>= _) _ _ _
  unfold asInt?
  refine wpAny_bind (wpAny_bind (wpAny_load ho ?_))
  exact wpAny_pure (wpAny_bind (wpAny_rule (wpAny_pure h)))
theorem own_int_call {id name : String} {g : Int → Int → Sem PySem.Fin} {B : Builtin} {Q : Value → Shared → Prop} (slot : Slot "int" (PySem.dunder nm) id) (entry : entryFor table id = some B) (args : argsOk id ⟨[.int i t, .ref x], []⟩) (hB : B = Builtin.Int.intBinary name g)
    (ho : s.heap.get? x = some (instObj C dx)) (h : Q .notImplemented s) : wpAny (model prog w) A (call (.builtin id) [.int i t, .ref x]) Q E s := by
  refine wpAny_call_entry slot (typeIs_int s i t) entry ?_ args
  subst hB
  exact own_int_declines ho ⟨_, rfl, h⟩
/-- n op x, n an int, x an instance of the class at C: the int's method declines, then the class's reflected one -/
theorem own_radd {op : Operator} {id name : String} {g : Int → Int → Sem PySem.Fin} {B : Builtin} {ox : Obj} {od : Option Obj} {f' : Addr} {ro : Option Value} {Q : Value → Shared → Prop} (F : Fr h₀ L s.heap m) (X₀ : K.In h₀) (I : InstAt s.heap x ox C od) (ho : s.heap.get? x = some (instObj C dx)) (hc : selfFirst K C = true)
    (slot : Slot "int" (PySem.dunder op.info.2) id) (entry : entryFor table id = some B) (args : argsOk id ⟨[.int i t, .ref x], []⟩) (hB : B = Builtin.Int.intBinary name g) (hsq : isSeqSlot (some (.builtin id)) = false)
    (hs : findIn K (.ref C) (PySem.dunder op.info.2) = some (some (.ref f'))) (hr : findIn K (.ref C) (dunderR op.info.2) = some (some (.ref f))) (hf : isFn K (.ref f) = true)
    (h1 : findIn K (.type "int") (PySem.dunder op.info.2) = some (some (.builtin id))) (h2 : findIn K (.type "int") (dunderR op.info.2) = some ro) (hsub : subIn K (.ref C) (.type "int") = some false)
    (h : wpAny (model prog w) A (call (.ref f) [.ref x, .int i t]) (CmpBack Q) E s) : wpAny (model prog w) A (binaryOp op (.int i t) (.ref x)) Q E s := by
  have X := X₀.keeps F.keep
  obtain ⟨cd, rest, hcd, hm⟩ := ksp_first hc
  rcases hi : op.info with ⟨sym, nm'⟩
  rw [hi] at hs hr h1 h2 slot
  dsimp only at hs hr h1 h2 slot
  have one := ksp_try X I hr hf h
  have two : wpAny (model prog w) A (tryMethod (.int i t) (PySem.dunder nm') (.ref x)) (fun r s' => r = none ∧ s' = s) E s :=
    wpAny_tryMethod_declines (typeIs_int s i t) slot (own_int_call slot entry args hB ho ⟨rfl, rfl, rfl⟩)
  obtain ⟨hh, g', d, tt, os⟩ := s
  have L1 : Looks (model prog w) hh (typeOf (.ref x)) (.ref C) := I.type
  have L2 : Looks (model prog w) hh (typeOf (.int i t)) (.type "int") := Looks.of_pure rfl
  have L3 : Looks (model prog w) hh (fillsNumberSlot (.ref C) nm') true := fills_K X hcd hm hs
  have L4 : Looks (model prog w) hh (fillsNumberSlot (.type "int") nm') true := by
    have e := ksp_fillsT (M := model prog w) X h1 h2
    rw [hsq] at e
    exact e
  have L5 : Looks (model prog w) hh (isSubtype (.ref C) (.type "int")) false := looks_subIn X hsub
  have L7 : Looks (model prog w) hh (numberSlotInPython (.type "int") nm') false := Looks.of_pure rfl
  have hne : (Value.type "int" == Value.ref C) = false := Bool.eq_false_iff.mpr fun q => by cases beq_iff_eq.mp q
  simp only [binaryOp, hi]
  refine wpAny_holding (wpAny_bind ?_)
  unfold binaryOp1
  refine wpAny_bind (L2.at (wpAny_bind (L1.at (wpAny_bind (L4.at ?_)))))
  simp only [hne, Bool.false_eq_true, if_false]
  refine wpAny_bind (L3.at ?_)
  simp only [Bool.and_self, if_true]
  refine wpAny_bind (L5.at ?_)
  simp only [Bool.false_eq_true, if_false, pure_bind, Bool.not_false, Bool.and_self, if_true]
  refine wpAny_bind (L7.at ?_)
  simp only [Bool.false_eq_true, if_false, pure_bind]
  refine wpAny_bind (wpAny_mono two (fun r s' hr' => ?_) fun _ _ e => e)
  obtain ⟨rfl, rfl⟩ := hr'
  dsimp only
  refine wpAny_bind (wpAny_mono one (fun r s' hr' => ?_) fun _ _ e => e)
  obtain ⟨v, rfl, hq⟩ := hr'
  dsimp only
  exact wpAny_bind (wpAny_rule (wpAny_pure (wpAny_pure hq)))
end
end PySem.W
namespace PySem.W
open Lean Elab Tactic Meta PySem PySem.Calls PyProof.Rows
/-- the class at C stands over object alone -/
def plainMro (K : Frag) (C : Addr) : Bool := (clsIn K C).any fun cd => cd.mro == [.ref C, .type "object"]
section
variable {prog : Program} {w : World} {M : Model} {A : Around} {E : Value → Shared → Prop} {s : Shared} {K : Frag} {x C L f dx : Addr} {h₀ : Heap} {m : Str → Option Value} {nm : String} {ox : Obj} {od : Option Obj}
theorem own_noI {h : Heap} {add : Bool} (X : K.In h) (hc : plainMro K C = true) (hs : findIn K (.ref C) (dunderI nm) = some none) (ho : findIn K (.type "object") (dunderI nm) = some none) : Looks M h (fillsInplaceSlot (.ref C) nm add) false := by
  intro A Q E s k q
  obtain ⟨cd, hcd, hm⟩ := any_some hc
  have hm := beq_iff_eq.mp hm
  have Lm : Looks M h (mroOf (.ref C)) cd.mro := (looks_clsIn X hcd).andThen (f := fun cd => pure cd.mro) .now
  have Lm' := Lm.keeps k
  obtain ⟨hh, g, d, tt, os⟩ := s
  have X' : K.In hh := X.keeps k
  have L1 : Looks M hh (typeLookup (.ref C) (dunderI nm)) none := looks_findIn X' hs
  have L2 : Looks M hh (typeLookup (.type "object") (dunderI nm)) none := looks_findIn X' ho
  unfold fillsInplaceSlot
  refine wpAny_bind (Lm'.at ?_)
  rw [hm, List.anyM_cons]
  refine wpAny_bind (wpAny_bind (L1.at (wpAny_pure ?_)))
  rw [if_neg Bool.false_ne_true, List.anyM_cons]
  refine wpAny_bind (wpAny_bind (L2.at (wpAny_pure ?_)))
  rw [if_neg Bool.false_ne_true]
  exact wpAny_pure q
theorem own_binop1 {b : Value} {nm' : String} {Q : Option Value → Shared → Prop} (X : K.In s.heap) (I : InstAt s.heap x ox C od) (hb : Looks (model prog w) s.heap (typeOf b) (.ref C)) (hc : selfFirst K C = true)
    (hs : findIn K (.ref C) (PySem.dunder nm') = some (some (.ref f))) (hf : isFn K (.ref f) = true)
    (h : wpAny (model prog w) A (call (.ref f) [.ref x, b]) (CmpBack fun v => Q (some v)) E s) : wpAny (model prog w) A (binaryOp1 nm' (.ref x) b) Q E s := by
  obtain ⟨cd, rest, hcd, hm⟩ := ksp_first hc
  unfold binaryOp1
  refine wpAny_bind (I.type.here (wpAny_bind (hb.here (wpAny_bind ((fills_K X hcd hm hs).here ?_)))))
  simp only [beq_self_eq_true, if_true]
  refine wpAny_bind (wpAny_pure ?_)
  simp only [Bool.and_false, Bool.false_eq_true, if_false, Bool.false_and]
  refine wpAny_bind (wpAny_pure ?_)
  simp only [Bool.false_eq_true, if_false]
  refine wpAny_bind (m := tryMethod (.ref x) _ b) ?_
  unfold tryMethod
  refine wpAny_bind (special_fn X I hs (beq_iff_eq.mp hf) (wpAny_mono h (fun v s' hv => ?_) fun _ _ e => e))
  cases v <;> first | exact hv.elim | exact wpAny_pure (wpAny_pure hv)
/-- x op= b, no own in-place method: x op b -/
theorem own_aug {op : Operator} {b : Value} {Q : Value → Shared → Prop} (F : Fr h₀ L s.heap m) (X₀ : K.In h₀) (I : InstAt s.heap x ox C od) (hb : Looks (model prog w) s.heap (typeOf b) (.ref C)) (hc : selfFirst K C = true) (hp : plainMro K C = true)
    (hs : findIn K (.ref C) (PySem.dunder op.info.2) = some (some (.ref f))) (hf : isFn K (.ref f) = true) (hi : findIn K (.ref C) (dunderI op.info.2) = some none) (ho : findIn K (.type "object") (dunderI op.info.2) = some none)
    (h : wpAny (model prog w) A (call (.ref f) [.ref x, b]) (CmpBack Q) E s) : wpAny (model prog w) A (inplaceOp op (.ref x) b) Q E s := by
  have X := X₀.keeps F.keep
  unfold inplaceOp
  refine wpAny_holding ?_
  refine wpAny_bind (I.type.here (wpAny_bind ((own_noI X hp hi ho).here ?_)))
  simp only [Bool.false_eq_true, if_false, pure_bind]
  refine wpAny_bind (own_binop1 X I hb hc hs hf (wpAny_mono h (fun v s' hv => ?_) fun _ _ e => e))
  cases v <;> first | exact hv.elim | exact wpAny_pure hv
end
end PySem.W
namespace PySem.W
open Lean Elab Tactic Meta PySem PySem.Calls PyProof.Rows
section
variable {prog : Program} {w : World} {A : Around} {E : Value → Shared → Prop} {s : Shared} {K : Frag} {x C L f dx : Addr} {h₀ : Heap} {m : Str → Option Value} {nm' T : String} {ox : Obj} {od : Option Obj}
theorem own_binop1T {b : Value} {fo ro rc : Option Value} {Q : Option Value → Shared → Prop} (X : K.In s.heap) (I : InstAt s.heap x ox C od) (hb : typeOf b = pure (.type T)) (hc : selfFirst K C = true)
    (hs : findIn K (.ref C) (PySem.dunder nm') = some (some (.ref f))) (hf : isFn K (.ref f) = true) (hr : findIn K (.ref C) (dunderR nm') = some rc) (hp : rc = none ∨ ∃ g : Addr, rc = some (.ref g))
    (h1 : findIn K (.type T) (PySem.dunder nm') = some fo) (h2 : findIn K (.type T) (dunderR nm') = some ro) (hsub : subIn K (.type T) (.ref C) = some false)
    (h : wpAny (model prog w) A (call (.ref f) [.ref x, b]) (CmpBack fun v => Q (some v)) E s) : wpAny (model prog w) A (binaryOp1 nm' (.ref x) b) Q E s := by
  obtain ⟨cd, rest, hcd, hm⟩ := ksp_first hc
  have one := ksp_try X I hs hf h
  obtain ⟨hh, g, d, tt, os⟩ := s
  have L1 : Looks (model prog w) hh (typeOf (.ref x)) (.ref C) := I.type
  have L2 : Looks (model prog w) hh (typeOf b) (.type T) := Looks.of_pure hb
  have L3 : Looks (model prog w) hh (fillsNumberSlot (.ref C) nm') true := fills_K X hcd hm hs
  have L4 : Looks (model prog w) hh (fillsNumberSlot (.type T) nm') ((fo.isSome && !isSeqSlot fo) || (ro.isSome && !isSeqSlot ro)) := ksp_fillsT X h1 h2
  have L5 : Looks (model prog w) hh (isSubtype (.type T) (.ref C)) false := looks_subIn X hsub
  have L6 : Looks (model prog w) hh (numberSlotInPython (.ref C) nm') true := ksp_inPy X hs hr hp
  have L7 : Looks (model prog w) hh (numberSlotInPython (.type T) nm') false := Looks.of_pure rfl
  have L8 : Looks (model prog w) hh (typeLookup (.type T) (dunderR nm')) ro := looks_findIn X h2
  generalize ((fo.isSome && !isSeqSlot fo) || (ro.isSome && !isSeqSlot ro)) = right at L4
  have hne : (Value.ref C == Value.type T) = false := Bool.eq_false_iff.mpr fun q => by cases beq_iff_eq.mp q
  unfold binaryOp1
  refine wpAny_bind (L1.at (wpAny_bind (L2.at (wpAny_bind (L3.at ?_)))))
  simp only [hne, Bool.false_eq_true, if_false]
  cases right with
  | false =>
    ksp_lk
    refine wpAny_mono one (fun r s' hr' => ?_) fun _ _ e => e
    obtain ⟨v, rfl, hq⟩ := hr'
    ksp_lk
    exact hq
  | true =>
    ksp_lk
    refine wpAny_mono one (fun r s' hr' => ?_) fun _ _ e => e
    obtain ⟨v, rfl, hq⟩ := hr'
    ksp_lk
    exact hq
theorem own_augT {op : Operator} {b : Value} {fo ro rc : Option Value} {Q : Value → Shared → Prop} (F : Fr h₀ L s.heap m) (X₀ : K.In h₀) (I : InstAt s.heap x ox C od) (hb : typeOf b = pure (.type T)) (hc : selfFirst K C = true) (hpm : plainMro K C = true)
    (hs : findIn K (.ref C) (PySem.dunder op.info.2) = some (some (.ref f))) (hf : isFn K (.ref f) = true) (hr : findIn K (.ref C) (dunderR op.info.2) = some rc) (hp : rc = none ∨ ∃ g : Addr, rc = some (.ref g))
    (h1 : findIn K (.type T) (PySem.dunder op.info.2) = some fo) (h2 : findIn K (.type T) (dunderR op.info.2) = some ro) (hsub : subIn K (.type T) (.ref C) = some false)
    (hi : findIn K (.ref C) (dunderI op.info.2) = some none) (ho : findIn K (.type "object") (dunderI op.info.2) = some none)
    (h : wpAny (model prog w) A (call (.ref f) [.ref x, b]) (CmpBack Q) E s) : wpAny (model prog w) A (inplaceOp op (.ref x) b) Q E s := by
  have X := X₀.keeps F.keep
  unfold inplaceOp
  refine wpAny_holding ?_
  refine wpAny_bind (I.type.here (wpAny_bind ((own_noI X hpm hi ho).here ?_)))
  simp only [Bool.false_eq_true, if_false, pure_bind]
  refine wpAny_bind (own_binop1T X I hb hc hs hf hr hp h1 h2 hsub (wpAny_mono h (fun v s' hv => ?_) fun _ _ e => e))
  cases v <;> first | exact hv.elim | exact wpAny_pure hv
end
end PySem.W
namespace My
open PySem PySem.Spec PyProof.Rows L2
/-- what op= asks of the class besides -/
structure AugOp (K : PySem.W.Frag) (C : Addr) (nm : String) : Prop where
  mro : PySem.W.plainMro K C = true
  no : PySem.W.findIn K (.ref C) (dunderI nm) = some none
  ob : PySem.W.findIn K (.type "object") (dunderI nm) = some none
section
variable {X : Cx} {pins : List (Addr × Obj)} {σ : L2.St} {H : Hp} {s : Shared} {Q : VK} {C : Addr} {m : Str} {k : Nat} {ps : List Str} {sp : Sp} {f : Addr} {fd : FuncData}
theorem ip_own2 {op : Operator} (h : HasM X.prog X.w X.K X.mg X.base C m k ps sp) (hc : PySem.W.selfFirst X.K C = true) (N : AugOp X.K C op.info.2) (hr : Room k X.A) (hm : PySem.dunder op.info.2 = m := by rfl) : PIp X op (rOwn2 C sp) := by
  intro pins s σ H x y v u Q I rx ry q
  obtain ⟨f, fd, F, M, b⟩ := h.ex
  obtain ⟨a, dx, fs, a', dy, gs, rfl, rfl, ha, hb, q⟩ := q
  cases rx
  cases ry
  obtain ⟨mA, O, _⟩ := ins_get I.hok ha
  obtain ⟨od, J, _⟩ := O.look
  obtain ⟨mB, O', _⟩ := ins_get I.hok hb
  obtain ⟨od', J', _⟩ := O'.look
  obtain ⟨m', hF⟩ := I.fr
  refine PySem.W.own_aug hF I.ok.mod.kin J J'.type hc N.mro (by rw [hm]; exact M.at_) M.fn N.no N.ob ?_
  exact wpAny_mono (run_m (vs := [.ref a, .ref a']) F b hr I (.cons rfl (.cons rfl .nil)) q) (fun w s' ⟨z, H', I', rz, qz⟩ => SlX.cmpback rz ⟨z, H', I', rz, qz⟩) fun _ _ x => x
theorem ip_ownI {op : Operator} (h : HasM X.prog X.w X.K X.mg X.base C m k ps sp) (hc : PySem.W.selfFirst X.K C = true) (N : AugOp X.K C op.info.2) (N' : IntOp X.K C op.info.2) (hr : Room k X.A) (hm : PySem.dunder op.info.2 = m := by rfl) : PIp X op (rOwnI C sp) := by
  intro pins s σ H x y v u Q I rx ry q
  obtain ⟨f, fd, F, M, b⟩ := h.ex
  obtain ⟨a, dx, fs, i, rfl, rfl, ha, q⟩ := q
  cases rx
  obtain ⟨t, rfl⟩ := ry
  obtain ⟨mA, O, _⟩ := ins_get I.hok ha
  obtain ⟨od, J, _⟩ := O.look
  obtain ⟨m', hF⟩ := I.fr
  obtain ⟨rc, r1, r2⟩ := N'.rc
  obtain ⟨fo, f1⟩ := N'.fo
  obtain ⟨ro, o1⟩ := N'.ro
  refine PySem.W.own_augT (T := "int") hF I.ok.mod.kin J rfl hc N.mro (by rw [hm]; exact M.at_) M.fn r1 r2 f1 o1 N'.sub N.no N.ob ?_
  exact wpAny_mono (run_m (vs := [.ref a, .int i]) F b hr I (.cons rfl (.cons ⟨t, rfl⟩ .nil)) q) (fun w s' ⟨z, H', I', rz, qz⟩ => SlX.cmpback rz ⟨z, H', I', rz, qz⟩) fun _ _ x => x
/-- n op x, n an int: the class's reflected method -/
structure RevOp (K : PySem.W.Frag) (C : Addr) (nm : String) (id : String) : Prop where
  own : ∃ f' : Addr, PySem.W.findIn K (.ref C) (PySem.dunder nm) = some (some (.ref f'))
  fo : PySem.W.findIn K (.type "int") (PySem.dunder nm) = some (some (.builtin id))
  ro : ∃ ro, PySem.W.findIn K (.type "int") (dunderR nm) = some ro
  sub : PySem.W.subIn K (.ref C) (.type "int") = some false
def rOwnR (C : Addr) (sp : Sp) : R2 := fun x y H Q => ∃ a dx fs i, x = .int i ∧ y = .ref a ∧ H a = some (.ins C dx fs) ∧ sp [y, x] H Q E0
theorem op_rev {op : Operator} {id name : String} {g : Int → Int → Sem PySem.Fin} {B : Builtin} (h : HasM X.prog X.w X.K X.mg X.base C m k ps sp) (hc : PySem.W.selfFirst X.K C = true) (N : RevOp X.K C op.info.2 id) (hr : Room k X.A)
    (slot : Slot "int" (PySem.dunder op.info.2) id) (entry : entryFor table id = some B) (args : ∀ a b, argsOk id ⟨[a, b], []⟩) (hB : B = Builtin.Int.intBinary name g) (hsq : isSeqSlot (some (.builtin id)) = false) (hm : dunderR op.info.2 = m := by rfl) : OpR X (binaryOp op) (rOwnR C sp) := by
  intro pins s σ H x y v u Q I rx ry q
  obtain ⟨f, fd, F, M, b⟩ := h.ex
  obtain ⟨a, dx, fs, i, rfl, rfl, ha, q⟩ := q
  cases ry
  obtain ⟨t, rfl⟩ := rx
  obtain ⟨mA, O, _⟩ := ins_get I.hok ha
  obtain ⟨od, J, _⟩ := O.look
  obtain ⟨m', hF⟩ := I.fr
  obtain ⟨f', o1⟩ := N.own
  obtain ⟨ro, o2⟩ := N.ro
  refine PySem.W.own_radd hF I.ok.mod.kin J O.obj hc slot entry (args _ _) hB hsq o1 (by rw [hm]; exact M.at_) M.fn N.fo o2 N.sub ?_
  exact wpAny_mono (run_m (vs := [.ref a, .int i]) F b hr I (.cons rfl (.cons ⟨t, rfl⟩ .nil)) q) (fun w s' ⟨z, H', I', rz, qz⟩ => SlX.cmpback rz ⟨z, H', I', rz, qz⟩) fun _ _ x => x
theorem op_raddI (h : HasM X.prog X.w X.K X.mg X.base C "__radd__" k ps sp) (hc : PySem.W.selfFirst X.K C = true) (N : RevOp X.K C "add" "int.__add__") (hr : Room k X.A) : OpR X (binaryOp .Add) (rOwnR C sp) :=
  op_rev h hc N hr PySem.F.slot_int_add PySem.F.entry_int_add PySem.F.args_int_add_2 rfl (by decide +kernel)
theorem op_rsubI (h : HasM X.prog X.w X.K X.mg X.base C "__rsub__" k ps sp) (hc : PySem.W.selfFirst X.K C = true) (N : RevOp X.K C "sub" "int.__sub__") (hr : Room k X.A) : OpR X (binaryOp .Sub) (rOwnR C sp) :=
  op_rev h hc N hr PySem.F.slot_int_sub PySem.F.entry_int_sub PySem.F.args_int_sub_2 rfl (by decide +kernel)
theorem op_rmulI (h : HasM X.prog X.w X.K X.mg X.base C "__rmul__" k ps sp) (hc : PySem.W.selfFirst X.K C = true) (N : RevOp X.K C "mul" "int.__mul__") (hr : Room k X.A) : OpR X (binaryOp .Mult) (rOwnR C sp) :=
  op_rev h hc N hr PySem.F.slot_int_mul PySem.F.entry_int_mul PySem.F.args_int_mul_2 rfl (by decide +kernel)
end
end My

set_option Elab.async false
set_option linter.all false
set_option maxRecDepth 100000
namespace My
open PySem PySem.Spec PyProof.Rows L2
/-! ### properties, methods and makings by name -/
structure HasP (P : Program) (w : World) (K : PySem.W.Frag) (mg : Str → Option Value) (base : Heap) (C : Addr) (m : Str) (k : Nat) (ps : List Str) (sp : Sp) : Prop where
  ex : ∃ p g fd, FnOk P w K mg base CX0 k g fd ps sp ∧ PropOf K C m p g ∧ Binds K fd ps []
structure HasC (P : Program) (w : World) (K : PySem.W.Frag) (mg : Str → Option Value) (base : Heap) (x : Str) (C : Addr) (k : Nat) (ps : List Str) (sp : Sp) : Prop where
  ex : ∃ f fd, FnOk P w K mg base CX0 k f fd ps sp ∧ Mk K C f ∧ mg x = some (.ref C) ∧ Binds K fd ps []
section
variable {X : Cx} {C : Addr} {m x : Str} {k : Nat} {ps : List Str} {sp : Sp} {e o : Expr} {es : List Expr} {p pos apos : Pos} {ta : TE} {t : TA}
theorem pe_propH (c : Cls X.K C) (h : HasP X.prog X.w X.K X.mg X.base C m k ps sp) (hr : Room (k + 1) X.A) (he : PE X e ta) (hab : attributeBase e m X.env (eval e X.env) = eval e X.env := by rfl) : PE X (.Attribute e m pos) (tProp C sp [] E0 ta) := by
  obtain ⟨p, g, fd, F, hp, b⟩ := h.ex
  exact pe_prop he c hp F hr b .nil pass0 hab
theorem pe_methH {pl : Sem Bool} (c : Cls X.K C) (h : HasM X.prog X.w X.K X.mg X.base C m k ps sp) (hr : Room k X.A) (he : PE X o ta) (ha : PA X (e :: es) t)
    (hst : starEach (e :: es) X.env = (false, eval e X.env) :: starEach es X.env := by rfl) (hpl : (backTo pos (starEach es X.env)).any (·.1) = false := by rfl)
    (ht : eval (.Call (.Attribute o m apos) (e :: es) [] pos) X.env = (do
      let ov ← eval o X.env
      standAt apos.atName
      let (f, first) ← holding [ov] (getMethod ov m pl)
      callWith pos f first (backTo pos (starEach (e :: es) X.env)) (backToKw pos (keywordEach [] X.env))) := by rfl) : PE X (.Call (.Attribute o m apos) (e :: es) [] pos) (tMeth C m sp [] E0 ta t) := by
  obtain ⟨f, fd, F, hm, b⟩ := h.ex
  exact pe_meth he c hm F hr b .nil pass0 ha hst hpl ht
theorem pe_meth0H {pl : Sem Bool} (c : Cls X.K C) (h : HasM X.prog X.w X.K X.mg X.base C m k ps sp) (hr : Room k X.A) (he : PE X o ta)
    (ht : eval (.Call (.Attribute o m apos) [] [] pos) X.env = (do
      let ov ← eval o X.env
      standAt apos.atName
      let (f, first) ← holding [ov] (getMethod ov m pl)
      callWith pos f first (backTo pos (starEach [] X.env)) (backToKw pos (keywordEach [] X.env))) := by rfl) : PE X (.Call (.Attribute o m apos) [] [] pos) (tMeth C m sp [] E0 ta tNil) := by
  obtain ⟨f, fd, F, hm, b⟩ := h.ex
  exact pe_meth0 he c hm F hr b .nil pass0 ht
theorem pe_makeH (h : HasC X.prog X.w X.K X.mg X.base x C k ps sp) (hr : Room (k + 1) X.A) (ha : PA X (e :: es) t) (hg : Gl X x := by rfl) (hdb : (x == ("__debug__" : Str)) = false := by decide)
    (he : starEach (e :: es) X.env = (false, eval e X.env) :: starEach es X.env := by rfl) (hpl : (backTo pos (starEach es X.env)).any (·.1) = false := by rfl) : PE X (.Call (.Name x p) (e :: es) [] pos) (tMake C sp [] E0 t) := by
  obtain ⟨f, fd, F, M, hm, b⟩ := h.ex
  exact pe_make M F hr hg hm b .nil pass0 ha hdb he hpl
end
section
variable {σ : L2.St} {H : Hp} {Q : VK} {C : Addr} {m : Str} {sp : Sp} {E : XK} {ta : TE} {t : TA} {K : PySem.W.Frag} {f : Str} {R : It → Hp → Prop} {D : Ends} {te : TE}
theorem r_prop (q : ta σ H fun x H1 => ∃ a dx fs, x = .ref a ∧ H1 a = some (.ins C dx fs) ∧ sp [.ref a] H1 Q E) : tProp C sp [] E ta σ H Q := q
theorem r_meth (q : ta σ H fun x H1 => ∃ a dx fs, x = .ref a ∧ H1 a = some (.ins C dx fs) ∧ fs.lookup m = none ∧ t σ H1 fun vs H2 => sp (x :: vs) H2 Q E) : tMeth C m sp [] E ta t σ H Q := by
  unfold tMeth
  simpa only [List.append_nil] using q
theorem r_make (q : t σ H fun vs H1 => ∀ x dx, H1 x = none → H1 dx = none → dx ≠ x → sp (.ref x :: vs) (upd (upd H1 dx (.own x)) x (.ins C dx [])) (fun v H2 => v = .non ∧ Q (.ref x) H2) E) : tMake C sp [] E t σ H Q := by
  unfold tMake
  simpa only [List.append_nil] using q
theorem r_iOwn (q : ta σ H fun x H1 => ∃ a dx fs b ys, x = .ref a ∧ H1 a = some (.ins C dx fs) ∧ fs.lookup f = some (.ref b) ∧ SqT K H1 b ys ∧ R (Itt K b) H1) : iOwn K C f ta σ H R := q
theorem r_sfld (q : te σ H fun v H1 => ta σ H1 fun x H2 => ∃ a C dx fs, x = .ref a ∧ H2 a = some (.ins C dx fs) ∧ Cls K C ∧ NoAttr K C f ∧ fs.length < 1000 ∧ D.nx σ (upd H2 a (.ins C dx (putF f v fs)))) : sFld K ta te f D σ H := q
theorem r_fld (q : ta σ H fun x H1 => ∃ a C dx fs v, x = .ref a ∧ H1 a = some (.ins C dx fs) ∧ Cls K C ∧ NoAttr K C f ∧ fs.lookup f = some v ∧ Q v H1) : tFld K ta f σ H Q := q
end
theorem pe_fldK {X : Cx} {K : PySem.W.Frag} {e : Expr} {f : Str} {pos : Pos} {ta : TE} (he : PE X e ta) (h : X.K = K := by rfl) (hb : attributeBase e f X.env (eval e X.env) = eval e X.env := by rfl) : PE X (.Attribute e f pos) (tFld K ta f) := by subst h; exact pe_fld he hb
section
variable {X : Cx} {K : PySem.W.Frag} {C : Addr} {k : Nat} {ps : List Str} {sp : Sp} {fld : Str} {tg l : Expr} {tl : TE}
theorem op_eqOwnK (h : HasM X.prog X.w X.K X.mg X.base C "__eq__" k ps sp) (hr : Room k X.A) (e : X.K = K := by rfl) : OpR X (compareOp .Eq) (rOwnEq K C sp) := by subst e; exact op_eqOwn h hr
theorem pi_ownK (hl : PE X l tl) (h : HasS X.prog X.w X.K X.mg X.base C "__iter__" k ps (spIter K C fld)) (hr : Room k X.A) (e : X.K = K := by rfl) : PI X tg l (iOwn K C fld tl) := by subst e; exact pi_own hl h hr
end
theorem pg_tupK {X : Cx} {K : PySem.W.Frag} {es : List Expr} {k : Nat} {t : TGs} {n : Nat} {pos : Pos} (hc : X.calm = true) (h : PGs X es t) (e : X.K = K := by rfl)
    (hn : (assignEach es X.env).length = n := by rfl) (hst : (assignEach es X.env).findIdx? (·.1) = none := by rfl) : PG X (.Tuple es k pos) (gTup K n t) := by subst e; exact pg_tup hc h hn hst
/-! ### polynomials -/
/-- what the text has made of the class Poly -/
structure PolyT (K : PySem.W.Frag) (mg : Str → Option Value) (C : Addr) : Prop where
  cl : Cls K C
  nR : NoAttr K C "rows"
  mgC : mg "Poly" = some (.ref C)
  self : PySem.W.selfFirst K C = true
  mro : PySem.W.plainMro K C = true
  ca : PySem.W.findIn K (.ref C) "__class__" = some (some (.builtin "object.__class__"))
  cn : PySem.W.specialIn K (.builtin "object.__class__") "__get__" = some (some (.builtin "getset_descriptor.__get__"))
  ct : PySem.W.takesIn K (.builtin "object.__class__") = some true
  cm : PySem.W.mroIn K C (.type "object") = some true
  cs : ∃ cd, PySem.W.clsIn K C = some cd
  ty : PySem.W.typeIn K (.ref C) = some (.type "type")
  sInt : PySem.W.subIn K (.type "int") (.ref C) = some false
  sBool : PySem.W.subIn K (.type "bool") (.ref C) = some false
  sStr : PySem.W.subIn K (.type "str") (.ref C) = some false
  sList : PySem.W.subIn K (.type "list") (.ref C) = some false
  sTup : PySem.W.subIn K (.type "tuple") (.ref C) = some false
  sNone : PySem.W.subIn K (.type "NoneType") (.ref C) = some false
  tInt : PySem.W.subIn K (.ref C) (.type "int") = some false
  tBool : PySem.W.subIn K (.ref C) (.type "bool") = some false
  tList : PySem.W.subIn K (.ref C) (.type "list") = some false
  tTup : PySem.W.subIn K (.ref C) (.type "tuple") = some false
theorem kit_no {K : PySem.W.Frag} {C : Addr} {t : Value} (cs : ∃ cd, PySem.W.clsIn K C = some cd) (ty : PySem.W.typeIn K (.ref C) = some (.type "type")) (s : PySem.W.subIn K t (.ref C) = some false) (ne : (t == .ref C) = false) : PySem.W.kitOne K t (.ref C) = some false := by
  obtain ⟨cd, e⟩ := cs
  unfold PySem.W.kitOne PySem.W.kitCls
  rw [ne, if_neg Bool.false_ne_true]
  show (if ((PySem.W.clsIn K C).isSome && PySem.W.typeIn K (.ref C) == some (.type "type")) = true then PySem.W.subIn K t (.ref C) else none) = some false
  rw [e, ty, if_pos (by simp)]
  exact s
theorem kit_self {K : PySem.W.Frag} {C : Addr} : PySem.W.kitOne K (.ref C) (.ref C) = some true := by
  unfold PySem.W.kitOne
  rw [if_pos (beq_self_eq_true _)]
/-- a polynomial with these terms -/
def PolyAt (C : Addr) (H : Hp) (a : Addr) (ts : Terms) : Prop := ∃ dx r vs, H a = some (.ins C dx [("rows", .ref r)]) ∧ H r = some (.tup vs) ∧ TermsL H vs ts ∧ Canon ts
theorem rows_look {v : V} : ([(("rows" : Str), v)] : List (Str × V)).lookup ("rows" : Str) = some v := by simp [List.lookup]
theorem rows_put {v : V} : putF "rows" v [] = ([(("rows" : Str), v)] : List (Str × V)) := rfl
/-- what is neither a list nor a dict stays -/
def Stay (H H' : Hp) : Prop := ∀ c o, (∀ xs, o ≠ .lst xs) → (∀ kvs, o ≠ .dK kvs) → H c = some o → H' c = some o
theorem Stay.tk {H H' : Hp} (s : Stay H H') : Tk H H' := fun c xs e => s c _ (by intro _ z; cases z) (by intro _ z; cases z) e
theorem Stay.same {H H' : Hp} (s : Same H H') : Stay H H' := fun c o _ _ e => s c o e
theorem Stay.but {H H' : Hp} {a : Addr} {xs : List V} (b : But a H H') (h : H a = some (.lst xs)) : Stay H H' := fun c o n _ e => b c o (by rintro rfl; rw [h] at e; cases e; exact n _ rfl) e
theorem Stay.bag {H H' : Hp} {a : Addr} (b : But a H H') (h : Bag H a) : Stay H H' := let ⟨_, _, _, e, _⟩ := h; Stay.but b e
theorem Stay.trans {H H1 H2 : Hp} (s : Stay H H1) (t : Stay H1 H2) : Stay H H2 := fun c o n m e => t c o n m (s c o n m e)
theorem Stay.refl (H : Hp) : Stay H H := fun _ _ _ _ e => e
theorem Stay.new {H H' : Hp} {p : Addr} {o : HO} (h : Stay H H') (n : H' p = none) : Stay H (upd H' p o) := fun c u x y e => h_keep (h c u x y e) n
theorem Stay.lst {H H' : Hp} {p : Addr} {l : List V} {o : HO} (h : Stay H H') (n : H' p = some (.lst l)) : Stay H (upd H' p o) := fun c u x y e => by
  have q := h c u x y e
  refine (upd_ne ?_).trans q
  rintro rfl
  rw [n] at q
  cases q
  exact x _ rfl
theorem PolyAt.stay {C : Addr} {H H' : Hp} {a : Addr} {ts : Terms} (h : PolyAt C H a ts) (s : Stay H H') : PolyAt C H' a ts := let ⟨dx, r, vs, h1, h2, h3, h4⟩ := h; ⟨dx, r, vs, s _ _ (by intro _ z; cases z) (by intro _ z; cases z) h1, s.tk _ _ h2, h3.tk s.tk, h4⟩
theorem PolyAt.same {C : Addr} {H H' : Hp} {a : Addr} {ts : Terms} (h : PolyAt C H a ts) (s : Same H H') : PolyAt C H' a ts := h.stay (.same s)
section
variable {K : PySem.W.Frag} {mg : Str → Option Value} {C : Addr} {H : Hp} {Q : VK} {a : Addr} {ts : Terms}
theorem ty_poly (T : PolyT K mg C) {dx : Addr} {fs : List (Str × V)} (h : H a = some (.ins C dx fs)) : TyX K H (.ref a) (.ref C) := .base (.ins h T.cl T.ca T.cn T.ct T.cm)
theorem r_isPoly (T : PolyT K mg C) {dx : Addr} {fs : List (Str × V)} (h : H a = some (.ins C dx fs)) (q : Q (.bl true) H) : rIsi K [.ref a, .ref C] H Q := ⟨_, _, _, _, true, rfl, .own C, ty_poly T h, kit_self, q⟩
theorem r_isPolyI (T : PolyT K mg C) {i : Int} (q : Q (.bl false) H) : rIsi K [.int i, .ref C] H Q := ⟨_, _, _, _, false, rfl, .own C, ty_int, kit_no T.cs T.ty T.sInt rfl, q⟩
theorem kit_bi {K : PySem.W.Frag} {C : Addr} {t : String} (m : PySem.W.kitMeta t = true) (s : PySem.W.subIn K (.ref C) (.type t) = some false) : PySem.W.kitOne K (.ref C) (.type t) = some false := by
  unfold PySem.W.kitOne PySem.W.kitCls
  rw [if_neg (by simp)]
  show (if PySem.W.kitMeta t = true then PySem.W.subIn K (.ref C) (.type t) else none) = some false
  rw [if_pos m]
  exact s
theorem r_polyInt (T : PolyT K mg C) {dx : Addr} {fs : List (Str × V)} (h : H a = some (.ins C dx fs)) (q : Q (.bl false) H) : rIsi K [.ref a, .ty "int"] H Q := ⟨_, _, _, _, false, rfl, .ty _, ty_poly T h, kit_bi (by decide +kernel) T.tInt, q⟩
/-- the field rows -/
theorem u_rows (T : PolyT K mg C) (h : PolyAt C H a ts) {R : V → Prop} (q : ∀ r vs, H r = some (.tup vs) → TermsL H vs ts → Canon ts → R (.ref r)) :
    ∃ b D dx fs v, V.ref a = .ref b ∧ H b = some (.ins D dx fs) ∧ Cls K D ∧ NoAttr K D "rows" ∧ fs.lookup ("rows" : Str) = some v ∧ R v := by
  obtain ⟨dx, r, vs, h1, h2, h3, h4⟩ := h
  exact ⟨a, C, dx, _, .ref r, rfl, h1, T.cl, T.nR, rows_look, q r vs h2 h3 h4⟩
end
theorem u_rowsAt {K : PySem.W.Frag} {mg : Str → Option Value} {C : Addr} {H : Hp} {a : Addr} {dx : Addr} {fv : V} (T : PolyT K mg C) (h : H a = some (.ins C dx [("rows", fv)])) {R : V → Prop} (q : R fv) :
    ∃ b D dx fs v, V.ref a = .ref b ∧ H b = some (.ins D dx fs) ∧ Cls K D ∧ NoAttr K D "rows" ∧ fs.lookup ("rows" : Str) = some v ∧ R v := ⟨a, C, dx, _, fv, rfl, h, T.cl, T.nR, rows_look, q⟩
/-- is_integer of any value -/
theorem u_isInt {K : PySem.W.Frag} {H : Hp} {Q : VK} {E : XK} {i : Int} (q : Q (.bl true) H) : spIsIntT K [.int i] H Q E := ⟨_, _, true, false, rfl, .x ty_int, kit_ty (by decide +kernel), kit_ty (by decide +kernel), q⟩
theorem u_isIntP {K : PySem.W.Frag} {mg : Str → Option Value} {C : Addr} {H : Hp} {Q : VK} {E : XK} {a dx : Addr} {fs : List (Str × V)} (T : PolyT K mg C) (h : H a = some (.ins C dx fs)) (q : Q (.bl false) H) : spIsIntT K [.ref a] H Q E :=
  ⟨_, _, false, false, rfl, .x (ty_poly T h), kit_bi (by decide +kernel) T.tInt, kit_bi (by decide +kernel) T.tBool, q⟩
theorem r_isiE {K : PySem.W.Frag} {H : Hp} {Q : VK} {x c : V} {t u : Value} {b : Bool} (hc : ClsV c u) (ty : TyE K H x t) (k : PySem.W.kitOne K t u = some b) (q : Q (.bl b) H) : rIsiE K [x, c] H Q := ⟨x, c, t, u, b, rfl, hc, ty, k, q⟩
theorem r_eqTT {K : PySem.W.Frag} {H : Hp} {Q : VK} {l m : Addr} {vs ws : List V} {ts us : Terms} (h : H l = some (.tup vs)) (h1 : TermsL H vs ts) (h' : H m = some (.tup ws)) (h2 : TermsL H ws us) (q : Q (.bl (decide (ts = us))) H) : rEqD K (.ref l) (.ref m) H Q := by
  refine ⟨.tuple (ts.map pairD), .tuple (us.map pairD), .tup (.of h) h1.dp, .tup (.of h') h2.dp, (Lay.tuple fun x hx => ?_).shaped (n := 1 + 1) (by decide), (Lay.tuple fun x hx => ?_).shaped (n := 1 + 1) (by decide), ?_⟩
  · obtain ⟨p, _, rfl⟩ := List.mem_map.mp hx
    exact lay_pair p
  · obtain ⟨p, _, rfl⟩ := List.mem_map.mp hx
    exact lay_pair p
  · rw [PyData.eqv, eqvAll_pairs]; exact q
/-- self == y, self a polynomial -/
def spPEq (K : PySem.W.Frag) (C : Addr) : Sp := fun vs H Q _ => ∃ a ts y, vs = [.ref a, y] ∧ PolyAt C H a ts ∧ ((∃ b us, y = .ref b ∧ PolyAt C H b us ∧ Q (.bl (decide (ts = us))) H) ∨ (∃ t, TyE K H y t ∧ PySem.W.kitOne K t (.ref C) = some false ∧ Q (.bl false) H))
def negT (ts : Terms) : Terms := ts.map fun p => (p.1, -p.2)
def mirT (ts : Terms) : Terms := ts.map fun p => (-p.1, p.2)
def shiftT (n : Int) (ts : Terms) : Terms := ts.map fun p => (p.1 + n, p.2)
theorem cof_neg : ∀ (ts : Terms) (k : Int), cof (negT ts) k = -cof ts k
  | [], k => rfl
  | p :: ts, k => by
    show (if p.1 = k then -p.2 else 0) + cof (negT ts) k = -((if p.1 = k then p.2 else 0) + cof ts k)
    rw [cof_neg ts k]
    split <;> omega
theorem cof_mir : ∀ (ts : Terms) (k : Int), cof (mirT ts) k = cof ts (-k)
  | [], k => rfl
  | p :: ts, k => by
    show (if -p.1 = k then p.2 else 0) + cof (mirT ts) k = (if p.1 = -k then p.2 else 0) + cof ts (-k)
    rw [cof_mir ts k]
    by_cases h : p.1 = -k
    · rw [if_pos h, if_pos (by omega)]
    · rw [if_neg h, if_neg (by omega)]
theorem cof_shift (n : Int) : ∀ (ts : Terms) (k : Int), cof (shiftT n ts) k = cof ts (k - n)
  | [], k => rfl
  | p :: ts, k => by
    show (if p.1 + n = k then p.2 else 0) + cof (shiftT n ts) k = (if p.1 = k - n then p.2 else 0) + cof ts (k - n)
    rw [cof_shift n ts k]
    by_cases h : p.1 = k - n
    · rw [if_pos h, if_pos (by omega)]
    · rw [if_neg h, if_neg (by omega)]
/-! ### promises -/
def spIsTerm : Sp := fun vs H Q _ => ∃ (p : Addr) (x y : Int), vs = [.ref p] ∧ H p = some (.tup [.int x, .int y]) ∧ Q (.bl true) H
def spSummed : Sp := fun vs H Q _ => ∃ (l : Addr) (ts : Terms), vs = [.ref l] ∧ TermsAt H l ts ∧ ts.length ≤ 90000 ∧
  ∀ r us ws H', H r = none → Same H H' → H' r = some (.tup ws) → TermsL H' ws us → Canon us → (∀ k, cof us k = cof ts k) → us.length ≤ ts.length → Q (.ref r) H'
def spInit (C : Addr) : Sp := fun vs H Q _ => ∃ (x dx l : Addr) (ts : Terms), vs = [.ref x, .ref l] ∧ H x = some (.ins C dx []) ∧ TermsAt H l ts ∧ ts.length ≤ 90000 ∧
  ∀ us H', But x H H' → PolyAt C H' x us → (∀ k, cof us k = cof ts k) → us.length ≤ ts.length → Q .non H'
/-- Poly(..) -/
theorem u_poly {C : Addr} {H : Hp} {R : Addr → Hp → Prop} {E : XK} {l : Addr} {ts : Terms} (h : TermsAt H l ts) (hn : ts.length ≤ 90000) (q : ∀ a us H', H a = none → Same H H' → PolyAt C H' a us → (∀ k, cof us k = cof ts k) → us.length ≤ ts.length → R a H') :
    ∀ x dx, H x = none → H dx = none → dx ≠ x → spInit C [.ref x, .ref l] (upd (upd H dx (.own x)) x (.ins C dx [])) (fun v H2 => v = .non ∧ R x H2) E := by
  intro x dx nx ndx ne
  have s1 : Same H (upd (upd H dx (.own x)) x (.ins C dx [])) := Same.put (Same.new0 ndx) nx
  refine ⟨x, dx, l, ts, rfl, upd_same, h.same s1, hn, fun us H' b hp hc hl => ⟨rfl, ?_⟩⟩
  exact q x us H' nx (Same.but2 s1 nx b) hp hc hl
/-- v stands for the polynomial with the numbers c: a Poly, or an int -/
def IsVal (C : Addr) (H : Hp) (v : V) (c : Int → Int) (n : Nat) : Prop := (∃ a ts, v = .ref a ∧ PolyAt C H a ts ∧ (∀ k, cof ts k = c k) ∧ ts.length ≤ n) ∨ (∃ i, v = .int i ∧ (∀ k, c k = if k = 0 then i else 0) ∧ 1 ≤ n)
theorem IsVal.same {C : Addr} {H H' : Hp} {v : V} {c : Int → Int} {n : Nat} (h : IsVal C H v c n) (s : Same H H') : IsVal C H' v c n := by
  rcases h with ⟨a, ts, e, ha, r⟩ | h
  · exact .inl ⟨a, ts, e, ha.same s, r⟩
  · exact .inr h
def spAsPoly (C : Addr) : Sp := fun vs H Q _ => ∃ v c n, vs = [v] ∧ IsVal C H v c n ∧ ∀ a ts H', Same H H' → PolyAt C H' a ts → (∀ k, cof ts k = c k) → ts.length ≤ n → Q (.ref a) H'
/-- a def of one polynomial that gives a new one -/
def spPoly1 (C : Addr) (f : Terms → Int → Int) : Sp := fun vs H Q _ => ∃ a ts, vs = [.ref a] ∧ PolyAt C H a ts ∧ ts.length ≤ 90000 ∧ ∀ b us H', Same H H' → PolyAt C H' b us → (∀ k, cof us k = f ts k) → us.length ≤ ts.length → Q (.ref b) H'
/-- an operator: self and a value -/
def spPoly2 (C : Addr) (f : (Int → Int) → (Int → Int) → Int → Int) : Sp := fun vs H Q _ => ∃ a ts v c n, vs = [.ref a, v] ∧ PolyAt C H a ts ∧ IsVal C H v c n ∧ ts.length + n ≤ 90000 ∧ ∀ b us H', Same H H' → PolyAt C H' b us → (∀ k, cof us k = f (cof ts) c k) → us.length ≤ ts.length + n → Q (.ref b) H'
def spGetTerms (C : Addr) : Sp := fun vs H Q _ => ∃ a ts, vs = [.ref a] ∧ PolyAt C H a ts ∧ ∀ l H', H l = none → Same H H' → TermsAt H' l ts → Q (.ref l) H'
def spanOf (ts : Terms) : Int := match ts.head?, ts.getLast? with | some p, some q => q.1 - p.1 | _, _ => 0
def spGetSpan (C : Addr) : Sp := fun vs H Q _ => ∃ a ts, vs = [.ref a] ∧ PolyAt C H a ts ∧ Q (.int (spanOf ts)) H
def spPLen (C : Addr) : Sp := fun vs H Q _ => ∃ a ts, vs = [.ref a] ∧ PolyAt C H a ts ∧ Q (.int ts.length) H
end My

set_option Elab.async false
set_option linter.all false
set_option maxRecDepth 100000
set_option maxHeartbeats 4000000

namespace My
open PySem PySem.Spec PyProof.Rows L2
section
variable {P : Program} {w : World} {K : PySem.W.Frag} {mg : Str → Option Value} {base : Heap} {C : Addr}
local macro_rules | `(tactic| walk_at "isi") => `(tactic| (first
  | (with_reducible refine r_is_int_int ?_)
  | (with_reducible refine r_is_int_bool ?_)
  | (with_reducible refine r_is_int_str ?_)
  | (with_reducible refine r_is_int_list ?_)
  | (with_reducible refine r_is_int_tuple ?_)
  | (with_reducible refine r_is_bool_int ?_)
  | (with_reducible refine r_is_bool_bool ?_)
  | (with_reducible refine r_is_bool_str ?_)
  | (with_reducible refine r_is_bool_list ?_)
  | (with_reducible refine r_is_bool_tuple ?_)
  | (with_reducible refine r_is_str_int ?_)
  | (with_reducible refine r_is_str_bool ?_)
  | (with_reducible refine r_is_str_str ?_)
  | (with_reducible refine r_is_str_list ?_)
  | (with_reducible refine r_is_str_tuple ?_)
  | ((with_reducible refine r_is_list_int (xs := ?xx) ?hh ?_); (case hh => walk_at "hp"))
  | ((with_reducible refine r_is_list_bool (xs := ?xx) ?hh ?_); (case hh => walk_at "hp"))
  | ((with_reducible refine r_is_list_str (xs := ?xx) ?hh ?_); (case hh => walk_at "hp"))
  | ((with_reducible refine r_is_list_list (xs := ?xx) ?hh ?_); (case hh => walk_at "hp"))
  | ((with_reducible refine r_is_list_tuple (xs := ?xx) ?hh ?_); (case hh => walk_at "hp"))
  | ((with_reducible refine r_is_tuple_int (xs := ?xx) ?hh ?_); (case hh => walk_at "hp"))
  | ((with_reducible refine r_is_tuple_bool (xs := ?xx) ?hh ?_); (case hh => walk_at "hp"))
  | ((with_reducible refine r_is_tuple_str (xs := ?xx) ?hh ?_); (case hh => walk_at "hp"))
  | ((with_reducible refine r_is_tuple_list (xs := ?xx) ?hh ?_); (case hh => walk_at "hp"))
  | ((with_reducible refine r_is_tuple_tuple (xs := ?xx) ?hh ?_); (case hh => walk_at "hp"))
  | (with_reducible refine r_is_NoneType_int ?_)
  | (with_reducible refine r_is_NoneType_bool ?_)
  | (with_reducible refine r_is_NoneType_str ?_)
  | (with_reducible refine r_is_NoneType_list ?_)
  | (with_reducible refine r_is_NoneType_tuple ?_)))
local macro_rules | `(tactic| walk_at "ne") => `(tactic| first | assumption | (refine Ne.symm ?_; assumption) | exact Bag.ne (by assumption) (by assumption) | exact ne_of_none (by assumption) (by assumption))
local macro_rules | `(tactic| walk_at "hp") => `(tactic| (first
  | assumption
  | exact upd_same
  | (refine h_keep ?_ (by assumption); walk_at "hp")
  | (refine (upd_ne (by walk_at "ne")).trans ?_; walk_at "hp")
  | (refine Same.at (by assumption) ?_; walk_at "hp")
  | (refine But.at (by assumption) (by walk_at "ne") ?_; walk_at "hp")
  | (refine But2.at (by assumption) (by walk_at "ne") (by walk_at "ne") ?_; walk_at "hp")))
local macro_rules | `(tactic| walk_at "side") => `(tactic| first | assumption | omega | (refine ⟨?_, ?_⟩ <;> first | assumption | omega | decide) | decide | (refine ⟨by decide, by decide, by decide⟩) | (left; refine ⟨?_, ?_⟩ <;> first | omega | decide) | (right; refine ⟨?_, ?_⟩ <;> first | omega | decide) | (simp; done))
local macro_rules | `(tactic| walk_at "cond") => `(tactic| first | assumption | exact rfl | omega | (simp only [List.length_cons, List.length_nil]; omega) | decide +kernel)
local macro_rules | `(tactic| walk_at "s") => `(tactic| (first
  | ((with_reducible refine r_var (v := ?vv) ?ee ?_); (case ee => exact rfl))
  | (with_reducible refine r_c ?_)
  | (with_reducible refine r_op ?_)
  | (with_reducible refine r_un ?_)
  | (with_reducible refine r_rI0 ?_)
  | ((with_reducible refine r_rI ?cc ?_); (case cc => walk_at "side"))
  | (with_reducible refine r_rU ?_)
  | (with_reducible refine r_eqI ?_)
  | (with_reducible refine r_neI ?_)
  | (with_reducible refine r_eqB ?_)
  | (with_reducible refine r_neB ?_)
  | (with_reducible refine r_eqS ?_)
  | (with_reducible refine r_neS ?_)
  | ((with_reducible refine r_eq ?ee ?_); (case ee => exact rfl))
  | ((with_reducible refine r_ne ?ee ?_); (case ee => exact rfl))
  | ((with_reducible refine r_ixL (v := ?vv) (xs := ?xx) ?hh ?ee ?_); (case hh => (refine SqL.of ?_; walk_at "hp")); (case ee => exact rfl))
  | (with_reducible refine r_cb ?_)
  | (with_reducible refine r_call ?_)
  | (with_reducible refine r_cons ?_)
  | (with_reducible refine r_nil ?_)
  | (with_reducible refine r_lst ?_)
  | (with_reducible refine r_tup ?_)
  | ((with_reducible refine r_new ?cc ?_); (case cc => walk_at "side"))
  | (with_reducible refine r_exbl ?_)
  | (with_reducible refine r_exint ?_)
  | (with_reducible refine r_exint2 ?_)
  | (with_reducible refine r_exblL ?_)
  | (with_reducible refine r_ex2 ?_)
  | (with_reducible refine r_test ?_)
  | (with_reducible refine r_tB ?_)
  | (with_reducible refine r_not ?_)
  | (with_reducible refine r_and ?_)
  | (with_reducible refine r_or ?_)
  | (with_reducible refine r_andV ?_)
  | (with_reducible refine r_orV ?_)
  | (with_reducible refine r_notV ?_)
  | (with_reducible refine r_tif ?_)
  | (with_reducible refine r_iteT ?_)
  | (with_reducible refine r_iteNT ?_)
  | (with_reducible refine r_iteNF ?_)
  | (with_reducible refine r_iteF ?_)
  | (with_reducible refine r_seq ?_)
  | (with_reducible refine r_next ?_)
  | (with_reducible refine r_brk ?_)
  | (with_reducible refine r_cont ?_)
  | (with_reducible refine r_asg ?_)
  | (with_reducible refine r_gname ?_)
  | (with_reducible refine r_ret ?_)
  | (with_reducible refine r_retN ?_)
  | (with_reducible refine r_drop ?_)
  | (with_reducible refine r_if ?_)
  | ((with_reducible refine r_aug (x := ?xx) ?ee ?_); (case ee => exact rfl))
  | (with_reducible refine r_ipI ?_)
  | (with_reducible refine r_augS ?_)
  | (with_reducible refine r_gsub ?_)
  | ((with_reducible refine r_setL (xs := ?xx) (m := ?mm) ?hh ?ee ?_); (case hh => walk_at "hp"); (case ee => exact rfl))
  | (with_reducible refine r_par ?_)
  | (with_reducible refine r_bm ?_)
  | ((with_reducible refine r_tyL (xs := ?xx) ?hh ?_); (case hh => walk_at "hp"))
  | ((with_reducible refine r_append (xs := ?xx) ?hh ?ll ?_); (case hh => walk_at "hp"); (case ll => walk_at "side"))
  | (walk_at "isi")
  | (with_reducible refine r_for ?_)
  | (with_reducible refine r_iList ?_)
  | (with_reducible refine r_iTup ?_)
  | (with_reducible refine r_iR1 ?_)
  | (with_reducible refine r_iR2 ?_)
  | (with_reducible refine r_lc ?_)
  | (with_reducible refine r_yes ?_)
  | ((with_reducible refine r_lenS ?ll ?_); (case ll => walk_at "side"))
  | (with_reducible refine r_leS ?_)
  | (with_reducible refine r_chain ?_)
  | (with_reducible refine r_tM1 ?_)
  | (with_reducible refine r_exS ?_)
  | ((with_reducible refine r_tupL (xs := ?xx) ?hh ?_); (case hh => walk_at "hp"))
  | ((with_reducible refine r_listL (xs := ?xx) ?hh ?_); (case hh => walk_at "hp"))
  | ((with_reducible refine r_listT (xs := ?xx) ?hh ?_); (case hh => walk_at "hp"))
  | ((with_reducible refine r_ixT (v := ?vv) (xs := ?xx) ?hh ?ee ?_); (case hh => (refine SqT.of ?_; walk_at "hp")); (case ee => exact rfl))
  | (with_reducible refine r_sl ?_)
  | (with_reducible refine r_nopart ?_)
  | (with_reducible refine r_part ?_)
  | (with_reducible refine r_exI ?_)
  | ((with_reducible refine r_slL (xs := ?xx) ?hh ?_); (case hh => first | assumption | (refine SqL.of ?_; walk_at "hp") | (refine Same.seq (by assumption) (by assumption))))
  | ((with_reducible refine r_cat (xs := ?xx) (zs := ?zz) ?hh ?ii ?ll ?_); (case hh => walk_at "hp"); (case ii => walk_at "hp"); (case ll => walk_at "side"))
  | ((with_reducible refine r_lenL (xs := ?xx) ?hh ?_); (case hh => walk_at "hp"))
  | ((with_reducible refine r_lenT (xs := ?xx) ?hh ?_); (case hh => walk_at "hp"))
  | ((with_reducible refine r_gTup (xs := ?xx) ?hh ?ll ?_); (case hh => walk_at "hp"); (case ll => exact rfl))
  | (with_reducible refine r_gCons ?_)
  | (with_reducible refine r_gNil ?_)
  | ((with_reducible refine r_iteDT ?cc ?_); (case cc => walk_at "cond"))
  | ((with_reducible refine r_iteDF ?cc ?_); (case cc => walk_at "cond"))
  | ((with_reducible refine r_iteNDT ?cc ?_); (case cc => walk_at "cond"))
  | ((with_reducible refine r_iteNDF ?cc ?_); (case cc => walk_at "cond"))
  ))
local macro_rules | `(tactic| walk_at "go") => `(tactic| repeat (walk_at "s"))

local macro_rules | `(tactic| walk_at "s") => `(tactic| (first
  | (with_reducible refine r_dnew ?_)
  | (with_reducible refine r_dget2 ?_)
  | (with_reducible refine r_dget ?_)
  | (with_reducible refine r_dput ?_)
  | (with_reducible refine r_dsetd ?_)
  | ((with_reducible refine JarAt.isD (n := ?nn) (c := ?cc) ?hh ?_); (case hh => assumption))
  ))

local macro_rules | `(tactic| walk_at "s") => `(tactic| (first
  | (with_reducible refine r_prop ?_)
  | (with_reducible refine r_meth ?_)
  | (with_reducible refine r_make ?_)
  | (with_reducible refine r_fld ?_)
  | (with_reducible refine r_sfld ?_)
  | (with_reducible refine r_iOwn ?_)
  | ((with_reducible refine u_rowsAt (mg := ?mm) (C := ?CC) (dx := ?dd) (fv := ?vv) ?tt ?hh ?_); (case tt => assumption); (case hh => walk_at "hp"))
  | ((with_reducible refine r_isPoly (mg := ?mm) (dx := ?dd) (fs := ?ff) ?tt ?hh ?_); (case tt => assumption); (case hh => walk_at "hp"))
  | ((with_reducible refine r_isPolyI (mg := ?mm) ?tt ?_); (case tt => assumption))
  | ((with_reducible refine r_polyInt (mg := ?mm) (C := ?CC) (dx := ?dd) (fs := ?ff) ?tt ?hh ?_); (case tt => assumption); (case hh => walk_at "hp"))
  ))

end
end My

set_option Elab.async false
set_option linter.all false
set_option maxRecDepth 100000
set_option maxHeartbeats 4000000

namespace My
open PySem PySem.Spec PyProof.Rows L2
section
variable {P : Program} {w : World} {K : PySem.W.Frag} {mg : Str → Option Value} {base : Heap} {C : Addr}
local macro_rules | `(tactic| walk_at "isi") => `(tactic| (first
  | (with_reducible refine r_is_int_int ?_)
  | (with_reducible refine r_is_int_bool ?_)
  | (with_reducible refine r_is_int_str ?_)
  | (with_reducible refine r_is_int_list ?_)
  | (with_reducible refine r_is_int_tuple ?_)
  | (with_reducible refine r_is_bool_int ?_)
  | (with_reducible refine r_is_bool_bool ?_)
  | (with_reducible refine r_is_bool_str ?_)
  | (with_reducible refine r_is_bool_list ?_)
  | (with_reducible refine r_is_bool_tuple ?_)
  | (with_reducible refine r_is_str_int ?_)
  | (with_reducible refine r_is_str_bool ?_)
  | (with_reducible refine r_is_str_str ?_)
  | (with_reducible refine r_is_str_list ?_)
  | (with_reducible refine r_is_str_tuple ?_)
  | ((with_reducible refine r_is_list_int (xs := ?xx) ?hh ?_); (case hh => walk_at "hp"))
  | ((with_reducible refine r_is_list_bool (xs := ?xx) ?hh ?_); (case hh => walk_at "hp"))
  | ((with_reducible refine r_is_list_str (xs := ?xx) ?hh ?_); (case hh => walk_at "hp"))
  | ((with_reducible refine r_is_list_list (xs := ?xx) ?hh ?_); (case hh => walk_at "hp"))
  | ((with_reducible refine r_is_list_tuple (xs := ?xx) ?hh ?_); (case hh => walk_at "hp"))
  | ((with_reducible refine r_is_tuple_int (xs := ?xx) ?hh ?_); (case hh => walk_at "hp"))
  | ((with_reducible refine r_is_tuple_bool (xs := ?xx) ?hh ?_); (case hh => walk_at "hp"))
  | ((with_reducible refine r_is_tuple_str (xs := ?xx) ?hh ?_); (case hh => walk_at "hp"))
  | ((with_reducible refine r_is_tuple_list (xs := ?xx) ?hh ?_); (case hh => walk_at "hp"))
  | ((with_reducible refine r_is_tuple_tuple (xs := ?xx) ?hh ?_); (case hh => walk_at "hp"))
  | (with_reducible refine r_is_NoneType_int ?_)
  | (with_reducible refine r_is_NoneType_bool ?_)
  | (with_reducible refine r_is_NoneType_str ?_)
  | (with_reducible refine r_is_NoneType_list ?_)
  | (with_reducible refine r_is_NoneType_tuple ?_)))
local macro_rules | `(tactic| walk_at "ne") => `(tactic| first | assumption | (refine Ne.symm ?_; assumption) | exact Bag.ne (by assumption) (by assumption) | exact ne_of_none (by assumption) (by assumption))
local macro_rules | `(tactic| walk_at "hp") => `(tactic| (first
  | assumption
  | exact upd_same
  | (refine h_keep ?_ (by assumption); walk_at "hp")
  | (refine (upd_ne (by walk_at "ne")).trans ?_; walk_at "hp")
  | (refine Same.at (by assumption) ?_; walk_at "hp")
  | (refine But.at (by assumption) (by walk_at "ne") ?_; walk_at "hp")
  | (refine But2.at (by assumption) (by walk_at "ne") (by walk_at "ne") ?_; walk_at "hp")))
local macro_rules | `(tactic| walk_at "side") => `(tactic| first | assumption | omega | (refine ⟨?_, ?_⟩ <;> first | assumption | omega | decide) | decide | (refine ⟨by decide, by decide, by decide⟩) | (left; refine ⟨?_, ?_⟩ <;> first | omega | decide) | (right; refine ⟨?_, ?_⟩ <;> first | omega | decide) | (simp; done))
local macro_rules | `(tactic| walk_at "cond") => `(tactic| first | assumption | exact rfl | omega | (simp only [List.length_cons, List.length_nil]; omega) | decide +kernel)
local macro_rules | `(tactic| walk_at "s") => `(tactic| (first
  | ((with_reducible refine r_var (v := ?vv) ?ee ?_); (case ee => exact rfl))
  | (with_reducible refine r_c ?_)
  | (with_reducible refine r_op ?_)
  | (with_reducible refine r_un ?_)
  | (with_reducible refine r_rI0 ?_)
  | ((with_reducible refine r_rI ?cc ?_); (case cc => walk_at "side"))
  | (with_reducible refine r_rU ?_)
  | (with_reducible refine r_eqI ?_)
  | (with_reducible refine r_neI ?_)
  | (with_reducible refine r_eqB ?_)
  | (with_reducible refine r_neB ?_)
  | (with_reducible refine r_eqS ?_)
  | (with_reducible refine r_neS ?_)
  | ((with_reducible refine r_eq ?ee ?_); (case ee => exact rfl))
  | ((with_reducible refine r_ne ?ee ?_); (case ee => exact rfl))
  | ((with_reducible refine r_ixL (v := ?vv) (xs := ?xx) ?hh ?ee ?_); (case hh => (refine SqL.of ?_; walk_at "hp")); (case ee => exact rfl))
  | (with_reducible refine r_cb ?_)
  | (with_reducible refine r_call ?_)
  | (with_reducible refine r_cons ?_)
  | (with_reducible refine r_nil ?_)
  | (with_reducible refine r_lst ?_)
  | (with_reducible refine r_tup ?_)
  | ((with_reducible refine r_new ?cc ?_); (case cc => walk_at "side"))
  | (with_reducible refine r_exbl ?_)
  | (with_reducible refine r_exint ?_)
  | (with_reducible refine r_exint2 ?_)
  | (with_reducible refine r_exblL ?_)
  | (with_reducible refine r_ex2 ?_)
  | (with_reducible refine r_test ?_)
  | (with_reducible refine r_tB ?_)
  | (with_reducible refine r_not ?_)
  | (with_reducible refine r_and ?_)
  | (with_reducible refine r_or ?_)
  | (with_reducible refine r_andV ?_)
  | (with_reducible refine r_orV ?_)
  | (with_reducible refine r_notV ?_)
  | (with_reducible refine r_tif ?_)
  | (with_reducible refine r_iteT ?_)
  | (with_reducible refine r_iteNT ?_)
  | (with_reducible refine r_iteNF ?_)
  | (with_reducible refine r_iteF ?_)
  | (with_reducible refine r_seq ?_)
  | (with_reducible refine r_next ?_)
  | (with_reducible refine r_brk ?_)
  | (with_reducible refine r_cont ?_)
  | (with_reducible refine r_asg ?_)
  | (with_reducible refine r_gname ?_)
  | (with_reducible refine r_ret ?_)
  | (with_reducible refine r_retN ?_)
  | (with_reducible refine r_drop ?_)
  | (with_reducible refine r_if ?_)
  | ((with_reducible refine r_aug (x := ?xx) ?ee ?_); (case ee => exact rfl))
  | (with_reducible refine r_ipI ?_)
  | (with_reducible refine r_augS ?_)
  | (with_reducible refine r_gsub ?_)
  | ((with_reducible refine r_setL (xs := ?xx) (m := ?mm) ?hh ?ee ?_); (case hh => walk_at "hp"); (case ee => exact rfl))
  | (with_reducible refine r_par ?_)
  | (with_reducible refine r_bm ?_)
  | ((with_reducible refine r_tyL (xs := ?xx) ?hh ?_); (case hh => walk_at "hp"))
  | ((with_reducible refine r_append (xs := ?xx) ?hh ?ll ?_); (case hh => walk_at "hp"); (case ll => walk_at "side"))
  | (walk_at "isi")
  | (with_reducible refine r_for ?_)
  | (with_reducible refine r_iList ?_)
  | (with_reducible refine r_iTup ?_)
  | (with_reducible refine r_iR1 ?_)
  | (with_reducible refine r_iR2 ?_)
  | (with_reducible refine r_lc ?_)
  | (with_reducible refine r_yes ?_)
  | ((with_reducible refine r_lenS ?ll ?_); (case ll => walk_at "side"))
  | (with_reducible refine r_leS ?_)
  | (with_reducible refine r_chain ?_)
  | (with_reducible refine r_tM1 ?_)
  | (with_reducible refine r_exS ?_)
  | ((with_reducible refine r_tupL (xs := ?xx) ?hh ?_); (case hh => walk_at "hp"))
  | ((with_reducible refine r_listL (xs := ?xx) ?hh ?_); (case hh => walk_at "hp"))
  | ((with_reducible refine r_listT (xs := ?xx) ?hh ?_); (case hh => walk_at "hp"))
  | ((with_reducible refine r_ixT (v := ?vv) (xs := ?xx) ?hh ?ee ?_); (case hh => (refine SqT.of ?_; walk_at "hp")); (case ee => exact rfl))
  | (with_reducible refine r_sl ?_)
  | (with_reducible refine r_nopart ?_)
  | (with_reducible refine r_part ?_)
  | (with_reducible refine r_exI ?_)
  | ((with_reducible refine r_slL (xs := ?xx) ?hh ?_); (case hh => first | assumption | (refine SqL.of ?_; walk_at "hp") | (refine Same.seq (by assumption) (by assumption))))
  | ((with_reducible refine r_cat (xs := ?xx) (zs := ?zz) ?hh ?ii ?ll ?_); (case hh => walk_at "hp"); (case ii => walk_at "hp"); (case ll => walk_at "side"))
  | ((with_reducible refine r_lenL (xs := ?xx) ?hh ?_); (case hh => walk_at "hp"))
  | ((with_reducible refine r_lenT (xs := ?xx) ?hh ?_); (case hh => walk_at "hp"))
  | ((with_reducible refine r_gTup (xs := ?xx) ?hh ?ll ?_); (case hh => walk_at "hp"); (case ll => exact rfl))
  | (with_reducible refine r_gCons ?_)
  | (with_reducible refine r_gNil ?_)
  | ((with_reducible refine r_iteDT ?cc ?_); (case cc => walk_at "cond"))
  | ((with_reducible refine r_iteDF ?cc ?_); (case cc => walk_at "cond"))
  | ((with_reducible refine r_iteNDT ?cc ?_); (case cc => walk_at "cond"))
  | ((with_reducible refine r_iteNDF ?cc ?_); (case cc => walk_at "cond"))
  ))
local macro_rules | `(tactic| walk_at "go") => `(tactic| repeat (walk_at "s"))

local macro_rules | `(tactic| walk_at "s") => `(tactic| (first
  | (with_reducible refine r_dnew ?_)
  | (with_reducible refine r_dget2 ?_)
  | (with_reducible refine r_dget ?_)
  | (with_reducible refine r_dput ?_)
  | (with_reducible refine r_dsetd ?_)
  | ((with_reducible refine JarAt.isD (n := ?nn) (c := ?cc) ?hh ?_); (case hh => assumption))
  ))

local macro_rules | `(tactic| walk_at "s") => `(tactic| (first
  | (with_reducible refine r_prop ?_)
  | (with_reducible refine r_meth ?_)
  | (with_reducible refine r_make ?_)
  | (with_reducible refine r_fld ?_)
  | (with_reducible refine r_sfld ?_)
  | (with_reducible refine r_iOwn ?_)
  | ((with_reducible refine u_rowsAt (mg := ?mm) (C := ?CC) (dx := ?dd) (fv := ?vv) ?tt ?hh ?_); (case tt => assumption); (case hh => walk_at "hp"))
  | ((with_reducible refine r_isPoly (mg := ?mm) (dx := ?dd) (fs := ?ff) ?tt ?hh ?_); (case tt => assumption); (case hh => walk_at "hp"))
  | ((with_reducible refine r_isPolyI (mg := ?mm) ?tt ?_); (case tt => assumption))
  | ((with_reducible refine r_polyInt (mg := ?mm) (C := ?CC) (dx := ?dd) (fs := ?ff) ?tt ?hh ?_); (case tt => assumption); (case hh => walk_at "hp"))
  ))

end
end My

set_option Elab.async false
set_option linter.all false
set_option maxRecDepth 100000
namespace My
open PySem PySem.Spec PyProof.Rows L2
/-! ### a call by keywords in the turned sequence -/
def spRev (sp : Sp) : Sp := fun vs H Q E => sp vs.reverse H Q E
def gR (us ws : List Value) : List Value := match us with | [] => ws.reverse | _ :: _ => []
def gRV (us ws : List V) : List V := match us with | [] => ws.reverse | _ :: _ => []
structure HasKR (P : Program) (w : World) (K : PySem.W.Frag) (mg : Str → Option Value) (base : Heap) (x : Str) (k : Nat) (ps ks : List Str) (sp : Sp) : Prop where
  ex : ∃ f fd, FnOk P w K mg base CX0 k f fd ps sp ∧ mg x = some (.ref f) ∧ PySem.W.keepIn K (.ref f) = true ∧ KBinds K fd ps ks gR gRV
theorem vals_rv : ∀ {vs : List V} {us : List Value}, Vals vs us → Vals vs.reverse us.reverse
  | _, _, .nil => .nil
  | _, _, .cons r t => by
    rw [List.reverse_cons, List.reverse_cons]
    exact Vals.append (vals_rv t) (.cons r .nil)
theorem kbindsR {K : PySem.W.Frag} {fd : FuncData} {ps ks : List Str} (h : ∀ ws : List Value, ws.length = ps.length → bindArgs fd ⟨[], ks.zip ws⟩ = pure (ps.zip ws.reverse)) (h0 : ps ≠ []) : KBinds K fd ps ks gR gRV := ⟨fun s us ws _ hl => by
  cases us with
  | nil => exact .of_eq (h ws (by have : ws.reverse.length = ps.length := hl; rwa [List.length_reverse] at this))
  | cons u r => exact absurd (List.length_eq_zero_iff.mp hl.symm) h0, fun r rz => by
  cases r with
  | nil => exact vals_rv rz
  | cons _ _ => exact .nil⟩
theorem pe_callHR {X : Cx} {k : Nat} {ps ks : List Str} {sp : Sp} {x : Str} {p pos : Pos} {kws : List Keyword} {tk : TA} (h : HasKR X.prog X.w X.K X.mg X.base x k ps ks sp) (hr : Room k X.A) (hkw : PK X kws tk) (hg : Gl X x := by rfl)
    (hall : (backToKw pos (keywordEach kws X.env)).all (·.1.isSome) = true := by rfl) (hks : (backToKw pos (keywordEach kws X.env)).filterMap (·.1) = ks := by rfl) (hdb : (x == ("__debug__" : Str)) = false := by decide)
    (hpl : ((backTo pos (starEach [] X.env)).any (·.1) || (backToKw pos (keywordEach kws X.env)).any (·.1.isNone)) = false := by rfl) : PE X (.Call (.Name x p) [] kws pos) (tCall (spRev sp) [] E0 tk) := by
  obtain ⟨f, fd, F, a, b, kb⟩ := h.ex
  refine ⟨fun pins s σ H Q I h => ?_⟩
  refine wpAny_Call_Name_kw (ld_glob I hg a ?_ hdb)
  refine PySem.W.callWith_KW0 (h₀ := X.base) I.ok.mod.kin b hall (thn (hkw.run pos pins s σ H _ I h) fun ws s2 ⟨zs, H2, I2, rz, q2⟩ => ⟨I2.kIn, ?_⟩) hpl
  rw [hks]
  have q2 : sp (zs ++ []).reverse H2 Q E0 := q2
  rw [List.append_nil] at q2
  exact run_fnk (us := []) (vs := []) F hr kb pass0 I2 .nil rz q2
/-! ### lists of ints compared -/
theorem eqv_ints : ∀ bs cs : List Int, PyData.eqvAll (bs.map PyData.int) (cs.map PyData.int) = decide (bs = cs)
  | [], [] => by simp [PyData.eqvAll]
  | [], _ :: _ => by simp [PyData.eqvAll]
  | _ :: _, [] => by simp [PyData.eqvAll]
  | c :: bs, d :: cs => by
    rw [List.map_cons, List.map_cons, PyData.eqvAll, eqv_ints bs cs]
    by_cases e : c = d <;> by_cases f : bs = cs <;> simp [PyData.eqv, e, f]
section
variable {K : PySem.W.Frag} {H : Hp}
theorem dp_ints : ∀ bs : List Int, DpAll K H (bs.map V.int) (bs.map PyData.int)
  | [] => .nil
  | c :: bs => .cons (.int c) (dp_ints bs)
theorem shaped_ints (bs : List Int) : SeqAt.shaped (.list (bs.map PyData.int)) = true := (Lay.list (n := 1) fun x hx => by
  obtain ⟨c, _, rfl⟩ := List.mem_map.mp hx
  exact ⟨by simp [PyData.canLay0], by simp [PyData.depth]⟩).shaped (by decide)
theorem r_neIs {Q : VK} {l m : Addr} {bs cs : List Int} (h : H l = some (.lst (bs.map V.int))) (h' : H m = some (.lst (cs.map V.int))) (q : Q (.bl (!decide (bs = cs))) H) : rNeD K (.ref l) (.ref m) H Q :=
  ⟨_, _, .lst (.of h) (dp_ints bs), .lst (.of h') (dp_ints cs), shaped_ints bs, shaped_ints cs, by rw [PyData.eqv, eqv_ints]; exact q⟩
end
end My

set_option Elab.async false
set_option linter.all false
set_option maxRecDepth 100000
set_option maxHeartbeats 4000000
namespace My
open PySem PySem.Spec PyProof.Rows L2
section
variable {prog : Program} {w : World} {A : Around} {E : Value → Shared → Prop} {s : Shared} {K : PySem.W.Frag} {x C L f : Addr} {h₀ : Heap} {m : Str → Option Value} {ox : Obj} {od : Option Obj}
/-- y in x, x an instance of an own class with __contains__ that tells a truth -/
theorem contains_K {y : Value} {Q : Value → Shared → Prop} (F : Fr h₀ L s.heap m) (X₀ : K.In h₀) (I : PySem.W.InstAt s.heap x ox C od) (hs : PySem.W.findIn K (.ref C) "__contains__" = some (some (.ref f))) (hf : PySem.W.isFn K (.ref f) = true)
    (h : wpAny (model prog w) A (call (.ref f) [.ref x, y]) (PySem.W.BoolBack fun b s' => Q (.bool b) s') E s) : wpAny (model prog w) A (compareOp .In y (.ref x)) Q E s := by
  have X := X₀.keeps F.keep
  unfold compareOp contains
  refine wpAny_bind (wpAny_holding ?_)
  show wpAny _ _ (specialOf (.ref x) (Str.ofString "__contains__") >>= _) _ _ _
  refine wpAny_bind (wpAny_bind (I.type.here ((PySem.W.looks_findIn X hs).here ?_)))
  show wpAny _ _ (if (some (Value.ref f) == some Value.none) = true then _ else _) _ _ _
  rw [show ((some (Value.ref f) == some Value.none) = false) from rfl]
  simp only [Bool.false_eq_true, if_false]
  unfold callSpecialUnlessNone?
  refine wpAny_bind (wpAny_bind (wpAny_bind (I.type.here ((PySem.W.looks_findIn X hs).here ?_))))
  refine wpAny_holding ?_
  refine wpAny_bind ((PySem.W.bind_fn X _ (beq_iff_eq.mp hf)).here ?_)
  show wpAny _ _ (if (Value.ref f == Value.none) = true then _ else _) _ _ _
  rw [show ((Value.ref f == Value.none) = false) from rfl]
  simp only [Bool.false_eq_true, if_false]
  refine wpAny_bind (wpAny_mono h (fun r s' hr => ?_) fun _ _ y => y)
  cases r <;> first | exact hr.elim | skip
  exact wpAny_pure (wpAny_pure (wpAny_pure hr))
end
section
variable {X : Cx} {pins : List (Addr × Obj)} {σ : L2.St} {H : Hp} {s : Shared} {Q : VK} {C : Addr} {m : Str} {k : Nat} {ps : List Str} {sp : Sp} {f : Addr} {fd : FuncData}
/-- y in x -/
def rInOwn (C : Addr) (sp : Sp) : R2 := fun y x H Q => ∃ a dx fs, x = .ref a ∧ H a = some (.ins C dx fs) ∧ sp [x, y] H (fun v H' => ∃ b, v = .bl b ∧ Q (.bl b) H') E0
theorem op_inOwn (h : HasM X.prog X.w X.K X.mg X.base C "__contains__" k ps sp) (hr : Room k X.A) : OpR X (compareOp .In) (rInOwn C sp) := by
  intro pins s σ H y x u v Q I ry rx q
  obtain ⟨f, fd, F, M, b⟩ := h.ex
  obtain ⟨a, dx, fs, rfl, ha, q⟩ := q
  cases rx
  obtain ⟨mA, O, _⟩ := ins_get I.hok ha
  obtain ⟨od, J, _⟩ := O.look
  obtain ⟨m', hF⟩ := I.fr
  refine contains_K hF I.ok.mod.kin J M.at_ M.fn ?_
  refine wpAny_mono (run_m (vs := [.ref a, y]) F b hr I (.cons rfl (.cons ry .nil)) q) (fun w s' z => ?_) fun _ _ x => x
  obtain ⟨z, H', I', rz, b, rfl, qz⟩ := z
  obtain rfl := (show w = Value.bool b from rz)
  exact ⟨.bl b, H', I', rfl, qz⟩
/-- the truth of x -/
def rTruOwn (C : Addr) (sp : Sp) : V → Hp → (Bool → Hp → Prop) → Prop := fun x H Q => ∃ a dx fs, x = .ref a ∧ H a = some (.ins C dx fs) ∧ sp [x] H (fun v H' => ∃ b, v = .bl b ∧ Q b H') E0
theorem tru_own (h : HasM X.prog X.w X.K X.mg X.base C "__bool__" k ps sp) (hr : Room k X.A) : TruR X (rTruOwn C sp) := by
  intro pins s σ H x v Q I rx q
  obtain ⟨f, fd, F, M, b⟩ := h.ex
  obtain ⟨a, dx, fs, rfl, ha, q⟩ := q
  cases rx
  obtain ⟨mA, O, _⟩ := ins_get I.hok ha
  obtain ⟨od, J, _⟩ := O.look
  obtain ⟨m', hF⟩ := I.fr
  refine PySem.W.truthy_K hF I.ok.mod.kin J M.at_ M.fn ?_
  refine wpAny_mono (run_m (vs := [.ref a]) F b hr I (.cons rfl .nil) q) (fun w s' z => ?_) fun _ _ x => x
  obtain ⟨z, H', I', rz, b, rfl, qz⟩ := z
  obtain rfl := (show w = Value.bool b from rz)
  exact ⟨H', I', qz⟩
theorem run_m2 (F : FnOk X.prog X.w X.K X.mg X.base CX0 k f fd ps sp) (b : Binds X.K fd ps []) (hr : Room (k + 2) X.A) (I : Inv X pins σ H s) {us : List Value} {vs : List V} (r : Vals vs us) (q : sp vs H Q E0) : wpAny (model X.prog X.w) X.A.in1.in1 (call (.ref f) us) (EP X pins σ Q) X.xe s := by
  have hl : us.length = ps.length := by rw [← r.length]; exact F.len _ _ _ _ q
  refine wpAny_call (codeAny_mono (F.run X.A.in1.in1 X.stack s H ⟨us, []⟩ us vs Q E0 hr.in1.in1 I.env0.in1.in1 (by simpa using b s us I.kIn (by simpa using hl)) r q) fun r s' hq => ?_)
  cases r with
  | error e => exact (pass0 (X := X)) pins σ H s e s' I hq
  | ok fl =>
    cases fl with
    | ret u => exact I.after hq
    | next => exact False.elim hq
    | brk => exact False.elim hq
    | cont => exact False.elim hq
theorem bool_new_own {v : Value} {prog : Program} {w : World} {A : Around} {R : PySem.Fin → Shared → Prop} {E : Value → Shared → Prop} {s : Shared}
    (h : wpAny (model prog w) A (truthy v) (fun b s' => R (.done (.ret (.bool b))) s') E s) : wpAny (model prog w) A (Builtin.«bool.__new__» ⟨[.type "bool", v], []⟩) R E s := by
  have f1 := F.conv_sub_bool
  unfold Builtin.«bool.__new__»
  refine wpAny_bind (m := isType _) (wpAny_pure ?_)
  show wpAny _ _ (isSubtype (.type "bool") (.type "bool") >>= _) _ _ _
  rw [f1]
  refine wpAny_bind (m := someArgs "bool" 0 1 _) (wpAny_pure ?_)
  exact wpAny_bind (wpAny_mono h (fun b s' q => wpAny_pure q) fun _ _ x => x)
theorem call_bool_raw {v : Value} {prog : Program} {w : World} {A : Around} {Q : Value → Shared → Prop} {E : Value → Shared → Prop} {s : Shared}
    (h : wpAny (model prog w) A.in1.in1 (truthy v) (fun b s' => Q (.bool b) s') E s) : wpAny (model prog w) A (call (.type "bool") [v]) Q E s := by
  obtain ⟨c, tl, hmro⟩ := F.called_bool.mro
  have hmade := F.called_bool.made
  have hsub := F.called_bool.sub
  refine wpAny_call (codeAny_of_tree ?_)
  show wpAny _ _ (callAny (.type "bool") _) _ _ _
  refine wpAny_pure ⟨Code.quiet_builtin _ (by decide +kernel), codeAny_builtin F.entry_type_call ?_⟩
  rw [Around.under_plain (weight_type_call_type "bool" [v] []) rfl]
  have h1 := F.called_bool.notType
  have h2 := F.called_bool.canCreate
  have h3 := F.typeCall_bool_1 v
  repeat (any_goals (first | assumption | wp_step))
  refine codeAny_mono (codeAny_call_builtin (R := wants (fun r s' => ∃ b, r = .bool b ∧ Q (.bool b) s') E) F.called_bool.plain F.entry_bool_new (wpAny_of_eq (F.newCall_bool_1 v) (bool_new_own ?_))) fun r s₁ hr => ?_
  · exact wpAny_mono h (fun b s' q => ⟨b, rfl, q⟩) fun _ _ x => x
  cases r with
  | error e => exact hr
  | ok fl =>
    cases fl with
    | ret obj =>
      obtain ⟨b, rfl, q⟩ := hr
      have hT : s₁.TypeIs (.bool b) "bool" := PySem.typeIs_bool _ _
      have hli := F.called_bool.init.lookup
      have hbi := F.called_bool.init.bind (.bool b)
      repeat (any_goals (first | assumption | wp_step))
      refine codeAny_mono (codeAny_call_builtin F.called_bool.init.plain F.entry_object_init (F.called_bool.init.check _ _ _ _ _ _ _ _ hT (F.args_object_init_2 _ v) (object_init_meets F.called_bool.init.lookup F.called_bool.made F.newNe_bool prog w A.in1 (wants (fun r s₂ => r = .none ∧ Q (.bool b) s₂) E) s₁ ⟨hT, rfl, q⟩))) fun r₂ s₂ hr₂ => ?_
      cases r₂ with
      | error e => exact hr₂
      | ok fl₂ =>
        cases fl₂ with
        | ret r =>
          obtain ⟨rfl, hq⟩ := hr₂
          repeat (any_goals (first | assumption | wp_step))
        | _ => exact hr₂.elim
    | _ => exact hr.elim
/-- bool(x) -/
def rBoolOwn (C : Addr) (sp : Sp) : List V → Hp → VK → Prop := fun xs H Q => ∃ x, xs = [x] ∧ rTruOwn C sp x H fun b H' => Q (.bl b) H'
theorem call_boolOwn (h : HasM X.prog X.w X.K X.mg X.base C "__bool__" k ps sp) (hr : Room (k + 2) X.A) : CallR X (.type "bool") (rBoolOwn C sp) := by
  intro pins s σ H xs us Q I r q
  obtain ⟨f, fd, F, M, b⟩ := h.ex
  obtain ⟨x, rfl, a, dx, fs, rfl, ha, q⟩ := q
  obtain rfl := Vals.ref1 r
  obtain ⟨mA, O, _⟩ := ins_get I.hok ha
  obtain ⟨od, J, _⟩ := O.look
  obtain ⟨m', hF⟩ := I.fr
  refine call_bool_raw (PySem.W.truthy_K hF I.ok.mod.kin J M.at_ M.fn ?_)
  refine wpAny_mono (run_m2 (vs := [.ref a]) F b hr I (.cons rfl .nil) q) (fun w s' z => ?_) fun _ _ x => x
  obtain ⟨z, H', I', rz, b, rfl, qz⟩ := z
  obtain rfl := (show w = Value.bool b from rz)
  exact ⟨.bl b, H', I', rfl, qz⟩
/-- min(l, default=d), max(l, default=d): l a list of ints -/
def rMinD (K : PySem.W.Frag) (op : Int → Int → Int) : List V → List V → Hp → VK → Prop := fun vs zs H Q => ∃ (a : Addr) (ns : List Int) (d : V), vs = [V.ref a] ∧ zs = [d] ∧ SqL K H a (ns.map V.int) ∧
  match ns with
  | [] => Q d H
  | y :: ys => Q (.int (ys.foldl op y)) H
theorem readsAll_ints {h : Heap} : ∀ {ns : List Int} {us : List Value}, Vals (ns.map V.int) us → PySem.W.HoldAll h us ns
  | [], _, .nil => ⟨[], .nil⟩
  | n :: ns, _, .cons r t => by
    obtain ⟨tk, rfl⟩ := r
    obtain ⟨as, q⟩ := readsAll_ints (h := h) t
    exact ⟨_, .cons (.int n tk) q⟩
theorem holds_int {h : Heap} {v : Value} {n : Int} (r : PySem.W.Holds h v n) : ∃ t, v = .int n t := by
  obtain ⟨as, r⟩ := r
  cases r with
  | int i t => exact ⟨t, rfl⟩
theorem minOf_int (y : Int) (ys : List Int) : PySem.W.minOf y ys = ys.foldl min y := by
  unfold PySem.W.minOf
  congr 1
  funext a b
  show (if decide (b < a) = true then b else a) = min a b
  by_cases z : b < a
  · rw [if_pos (decide_eq_true z)]; omega
  · rw [if_neg (by simpa using z)]; omega
theorem maxOf_int (y : Int) (ys : List Int) : PySem.W.maxOf y ys = ys.foldl max y := by
  unfold PySem.W.maxOf
  congr 1
  funext a b
  show (if decide (a < b) = true then b else a) = max a b
  by_cases z : a < b
  · rw [if_pos (decide_eq_true z)]; omega
  · rw [if_neg (by simpa using z)]; omega
theorem call_minD {k : Nat} (hc : X.calm = true) (hr : Room k X.A) : CallRK X (.builtin "min") [Str.ofString "default"] (rMinD X.K min) := by
  intro pins s σ H vs zs us ws Q I r rz h
  obtain ⟨a, ns, d, rfl, rfl, hs, q⟩ := h
  obtain rfl := Vals.ref1 r
  obtain ⟨w1, rfl, e1⟩ := vals1 rz
  obtain ⟨its, rv, pl, hz⟩ := I.list hs
  have hu : X.A.units + 1 + PySem.W.Datum.depth Int < cLine := by have := hr.un; show X.A.units + 1 + 0 < cLine; omega
  show wpAny _ _ (call (.builtin "min") [.ref a] [(Str.ofString "default", w1)]) _ _ _
  refine PySem.W.min_list_datum_default (α := Int) (xs := ns) (I.ok.hd hc) pl.isList (by simpa using readsAll_ints rv) hu ?_ ?_
  · intro e h' tk kp
    subst e
    exact ⟨d, H, I.kept kp, e1, q⟩
  · intro y ys i v h' tk e hi hv kp
    subst e
    obtain ⟨t, rfl⟩ := holds_int hv
    rw [minOf_int]
    exact ⟨.int _, H, I.kept kp, ⟨t, rfl⟩, q⟩
theorem call_maxD {k : Nat} (hc : X.calm = true) (hr : Room k X.A) : CallRK X (.builtin "max") [Str.ofString "default"] (rMinD X.K max) := by
  intro pins s σ H vs zs us ws Q I r rz h
  obtain ⟨a, ns, d, rfl, rfl, hs, q⟩ := h
  obtain rfl := Vals.ref1 r
  obtain ⟨w1, rfl, e1⟩ := vals1 rz
  obtain ⟨its, rv, pl, hz⟩ := I.list hs
  have hu : X.A.units + 1 + PySem.W.Datum.depth Int < cLine := by have := hr.un; show X.A.units + 1 + 0 < cLine; omega
  show wpAny _ _ (call (.builtin "max") [.ref a] [(Str.ofString "default", w1)]) _ _ _
  refine PySem.W.max_list_datum_default (α := Int) (xs := ns) (I.ok.hd hc) pl.isList (by simpa using readsAll_ints rv) hu ?_ ?_
  · intro e h' tk kp
    subst e
    exact ⟨d, H, I.kept kp, e1, q⟩
  · intro y ys i v h' tk e hi hv kp
    subst e
    obtain ⟨t, rfl⟩ := holds_int hv
    rw [maxOf_int]
    exact ⟨.int _, H, I.kept kp, ⟨t, rfl⟩, q⟩
end
end My

set_option Elab.async false
set_option linter.all false
set_option maxRecDepth 100000
set_option maxHeartbeats 4000000
namespace My
open PySem PySem.Spec PyProof.Rows L2
section
variable {P : Program} {w : World} {A : Around} {E : Value → Shared → Prop} {s : Shared}
set_option maxRecDepth 100000 in
set_option maxHeartbeats 3200000 in
/-- set(a list of ints), as call_set_tupI for a tuple -/
theorem call_set_listI {l : Addr} {items : Array Value} (ns : List Int) {Q : Value → Shared → Prop} (hh : A.handled = none) (hl : s.heap.IsList l items) (hit : IntsAre items.toList ns) (hb : ns.length + 1 < scanBound)
    (h : ∀ (h' : Heap) (tk c : Nat), SetR w h' s.heap.objs.size (fun j => decide (j ∈ ns)) c → c ≤ ns.length → (∀ b o, s.heap.get? b = some o → h'.get? b = some o) → Q (.ref s.heap.objs.size) { s with heap := h', toks := tk }) :
    wpAny (model P w) A (call (.type "set") [.ref l]) Q E s := by
  have hisz : items.size = ns.length := by
    have q := IntsAre.length hit
    rw [Array.length_toList] at q
    exact q
  have ⟨c, tl, hmro⟩ := F.called_set.mro
  have hmade := F.called_set.made
  have hsub := F.called_set.sub
  refine wpAny_call (codeAny_of_tree ?_)
  show wpAny _ _ (callAny (.type "set") _) _ _ _
  refine wpAny_pure ⟨Code.quiet_builtin _ (by decide +kernel), codeAny_builtin F.entry_type_call ?_⟩
  rw [Around.under_plain (weight_type_call_type "set" [.ref l] []) rfl]
  have q1 := F.called_set.notType
  have q2 := F.called_set.canCreate
  have q3 := F.typeCall_set_1 (.ref l)
  repeat (any_goals (first | assumption | wp_step))
  refine codeAny_mono (code_set_led1 (.ref l) (E := E) (Q₁ := fun u s₁ => u = .ref s.heap.objs.size ∧ s₁ = { s with heap := s.heap.push { cls := .type "set", dict := none, data := .set #[] 0 (.fresh 0 0 (!w.params.followText "set-order")) } }) ⟨rfl, rfl⟩) fun r s₁ hr => ?_
  cases r with
  | error e => exact hr
  | ok fl =>
    cases fl with
    | ret u =>
      obtain ⟨rfl, rfl⟩ := hr
      have hS : (s.heap.push { cls := .type "set", dict := none, data := .set #[] 0 (.fresh 0 0 (!w.params.followText "set-order")) }).get? s.heap.objs.size = some { cls := .type "set", dict := none, data := .set #[] 0 (.fresh 0 0 (!w.params.followText "set-order")) } := Heap.get?_push_size _ rfl
      have hT : Shared.TypeIs { s with heap := s.heap.push { cls := .type "set", dict := none, data := .set #[] 0 (.fresh 0 0 (!w.params.followText "set-order")) } } (.ref s.heap.objs.size) "set" := ⟨_, hS, rfl⟩
      have hli := F.called_set.init.lookup
      have hbi := F.called_set.init.bind (.ref s.heap.objs.size)
      repeat (any_goals (first | assumption | wp_step))
      refine codeAny_mono (codeAny_call_builtin (R := wants (fun r s₂ => r = .none ∧ ∃ h' tk c, s₂ = { s with heap := h', toks := tk } ∧ SetR w h' s.heap.objs.size (fun j => decide (j ∈ ns)) c ∧ c ≤ ns.length ∧
          (∀ b o, s.heap.get? b = some o → h'.get? b = some o)) E) F.called_set.init.plain F.entry_set_init (check_set_init_1 hT ?_)) fun r₂ s₂ hr₂ => ?_
      · obtain ⟨ol, hol, hcl, nl, hdl⟩ := hl
        obtain ⟨ocls, odict, odata, oslots⟩ := ol
        simp only at hcl hdl
        subst hcl hdl
        have hol' : (s.heap.push { cls := .type "set", dict := none, data := .set #[] 0 (.fresh 0 0 (!w.params.followText "set-order")) }).get? l = some { cls := .type "list", dict := odict, data := .seq items nl, slots := oslots } := Heap.get?_push_of_some _ hol
        have hsls := F.sub_list_set
        have hslf := F.sub_list_frozenset
        have hne : (Value.type "list" == Value.type "dict") = false := by decide
        have hl1 : (s.heap.push { cls := .type "set", dict := none, data := .set #[] 0 (.fresh 0 0 (!w.params.followText "set-order")) }).IsList l items := ⟨_, hol', rfl, nl, rfl⟩
        unfold Builtin.«set.__init__» noKeywords Builtin.Frozenset.updateFrom
        generalize hPI : pyIter = PI
        wp_walk
        subst hPI
        refine wpAny_pyIter_list hl1 ?_
        refine wpAny_bind (wpAny_runValue ?_)
        have hlS : l < s.heap.objs.size := Heap.lt_size hol
        have hh3 : A.in1.in1.in1.handled = none := by simp [hh]
        have hneI : l ≠ (s.heap.push { cls := .type "set", dict := none, data := .set #[] 0 (.fresh 0 0 (!w.params.followText "set-order")) }).objs.size := by
          rw [Heap.size_push]; exact Nat.ne_of_lt (Nat.lt_succ_of_lt hlS)
        have hSf : s.heap.objs.size ∉ [(s.heap.push { cls := .type "set", dict := none, data := .set #[] 0 (.fresh 0 0 (!w.params.followText "set-order")) }).objs.size, l] := by
          rw [Heap.size_push]; simp only [List.mem_cons, List.mem_singleton, List.not_mem_nil, or_false, not_or]
          exact ⟨Nat.ne_of_lt (Nat.lt_succ_self _), Nat.ne_of_gt hlS⟩
        have hval : ∀ (i : Nat) (v : Value), items[i]? = some v → ∃ k t, ns[i]? = some k ∧ v = .int k t := fun i v hv => by
          have hi : i < ns.length := by rw [← hisz]; exact (Array.getElem?_eq_some_iff.mp hv).1
          have ⟨t, e⟩ := PyProof.Rows.IntsAre.int_at hit i v (by rw [Array.getElem?_toList]; exact hv)
          refine ⟨ns[i], t, List.getElem?_eq_getElem hi, ?_⟩
          rw [e, List.getD_eq_getElem?_getD, List.getElem?_eq_getElem hi] <;> rfl
        refine set_update_ints ((Walks.list hh3 _ l hneI items).toS) s.heap.objs.size
          hSf ns hisz hb hval (items.size - 0) 0 _ (by omega) (Nat.zero_le _)
          ⟨⟨_, Heap.get?_push_size _ rfl, rfl, rfl⟩, (hl1.push _)⟩ ?hS0 ?hR
        case hS0 =>
          exact ⟨0, Nat.le_refl 0, setR_new_at (Heap.get?_push_of_some _ hS)⟩
        case hR =>
          intro s' c' hm hc' hS'
          obtain ⟨h', g2, d', tk', os'⟩ := s'
          have eg : g2 = s.gens := hm.gens
          have ed : d' = s.drawn := hm.drawn
          have eo : os' = s.os := hm.os
          subst eg ed eo
          show wpAny _ _ _ _ _ _
          refine wpAny_pure ?_
          show wpAny _ _ (ret Value.none) _ _ _
          rw [hisz] at hc'
          refine wpAny_pure ⟨rfl, h', tk', c', rfl, hS', hc', fun b o e => ?_⟩
          have hb0 : b < s.heap.objs.size := Heap.lt_size e
          exact hm.heap b o (by
            rw [Heap.size_push]; simp only [List.mem_cons, List.mem_singleton, List.not_mem_nil, or_false, not_or]
            exact ⟨Nat.ne_of_lt hb0, Nat.ne_of_lt (Nat.lt_succ_of_lt hb0)⟩) (Heap.get?_push_of_some _ (Heap.get?_push_of_some _ e))
      · cases r₂ with
        | error e => exact hr₂
        | ok fl₂ =>
          cases fl₂ with
          | ret r =>
            obtain ⟨rfl, h', tk, c', rfl, hS', hc', hk'⟩ := hr₂
            repeat (any_goals (first | assumption | wp_step))
            exact h _ _ _ hS' hc' hk'
          | _ => exact hr₂.elim
    | _ => exact hr.elim
end
end My

set_option Elab.async false
set_option linter.all false
set_option maxRecDepth 100000
set_option maxHeartbeats 4000000
namespace My
open PySem PySem.Spec PyProof.Rows L2
section
variable {X : Cx}
/-- set(list of ints) -/
def rSetOfI (w : World) (K : PySem.W.Frag) : List V → Hp → VK → Prop := fun xs H Q => ∃ (l : Addr) (ns : List Int), xs = [.ref l] ∧ SqL K H l (ns.map V.int) ∧ ns.length ≤ 4000 ∧
  ∀ p c, H p = none → c ≤ ns.length → Q (.ref p) (upd H p (SetO w p (fun j => decide (j ∈ ns)) c))
theorem call_setOfI (hc : X.calm = true := by rfl) : CallR X (.type "set") (rSetOfI X.w X.K) := by
  intro pins s σ H xs us Q I r h
  obtain ⟨l, ns, rfl, hl, hn, q⟩ := h
  rw [Vals.ref1 r]
  obtain ⟨its, rv, p', hz⟩ := I.list hl
  have hit := ints_of_vals rv
  have hlen := IntsAre.length hit
  refine call_set_listI ns (I.ok.hd hc) p'.isList hit (Nat.lt_of_le_of_lt (Nat.succ_le_succ hn) (by decide)) fun h' tk c R hcl k => ?_
  have hp : H s.heap.objs.size = none := I.hok.fresh (Nat.le_refl _)
  exact ⟨.ref _, upd H s.heap.objs.size (SetO X.w s.heap.objs.size (fun j => decide (j ∈ ns)) c), I.laid (t' := tk) k (Nat.le_refl _) (setO_new R), rfl, q _ c hp hcl⟩
/-- sorted(a set of ints) -/
def rSortSet (w : World) : List V → Hp → VK → Prop := fun vs H Q => ∃ (a : Addr) (S : Int → Bool) (n : Nat), vs = [V.ref a] ∧ H a = some (SetO w a S n) ∧
  ∀ (ns : List Int) (p : Addr), ns.Pairwise (· < ·) → (∀ k : Int, k ∈ ns ↔ S k = true) → ns.length = n → H p = none → Q (.ref p) (upd H p (.lst (ns.map V.int)))
theorem call_sortSet (hc : X.calm = true := by rfl) : CallR X (.builtin "sorted") (rSortSet X.w) := by
  intro pins s σ H vs us Q I r h
  obtain ⟨a, S, n, rfl, ha, q⟩ := h
  have R := setO_get I ha
  rw [Vals.ref1 r]
  obtain ⟨o, es, ep, t, ho, hex, hd, g, nd, hm, hb, hf, hn, hr, hl⟩ := R
  refine Calls.call_function_entry PyProof.Rows.kind_sorted PyProof.Rows.plain_sorted PyProof.Rows.entry_sorted (PyProof.Rows.args_sorted1 _) ?_
  unfold Builtin.«sorted»
  refine wpAny_bind (m := checkCount "sorted" 1 1 _) (wpAny_pure ?_)
  refine wpAny_bind (collect_set (A := X.A.in1) (I.ok.hd hc) ⟨o, ho, hex.1, hd⟩ hf hb hr hl fun s1 vs k1 hz g1 o1 pm => ?_)
  have hvl : vs.length = n := by rw [pm.length_eq, List.length_map, Array.length_toList]; exact hn
  have hI : IntsAre vs (vs.map Builtin.Re.reRawOf) := ints_of vs fun v hv => by
    obtain ⟨e, he, z⟩ := List.mem_map.mp (pm.mem_iff.mp hv)
    obtain ⟨k, tk, y, _⟩ := g e he
    exact ⟨k, tk, by rw [← z]; exact y⟩
  have pk : (vs.map Builtin.Re.reRawOf).Perm (es.toList.map keyOf) := by
    have z := pm.map Builtin.Re.reRawOf
    rw [List.map_map] at z
    exact z
  have hs : scanBound = 4096 := rfl
  have h17 : vs.length ≤ sizeLine := by rw [hvl, sizeLine_eq]; omega
  refine wpAny_bind (wpAny_newList ?_ h17)
  have hoL : (s1.heap.push (seqObj "list" vs.toArray 0)).get? s1.heap.objs.size = some (seqObj "list" vs.toArray 0) := Heap.get?_push_size _ rfl
  refine wpAny_bind (wpAny_holding (wpAny_call_entry PyProof.Rows.slot_list_sort ⟨_, hoL, rfl⟩ PyProof.Rows.entry_list_sort
    (SrtO.list_sort_ord SrtO.swo_int hoL h17 (fun h2 => SrtO.ints_sortable hI h2) fun out e1 e2 => ⟨_, rfl, ?_⟩) (PyProof.Rows.args_list_sort _)))
  obtain ⟨j1, j2, j3⟩ := SrtO.ints_out hI e1 e2
  obtain ⟨e', he'⟩ := PyProof.Rows.sortedHeap_at (vs := vs) (out := out.toArray) hoL
  have pn := j2.trans pk
  have hlen : ((out.map SrtO.iv).map V.int).length ≤ sizeLine := by
    rw [List.length_map, j2.length_eq, List.length_map]
    exact h17
  have hn1 : H s1.heap.objs.size = none := I.hok.fresh hz
  have kk : ∀ b u, s.heap.get? b = some u → (PyProof.Rows.sortedHeap (s1.heap.push (seqObj "list" vs.toArray 0)) s1.heap.objs.size vs out.toArray).get? b = some u := fun b u e => by
    have z := k1 b u e
    have hlt := Heap.lt_size z
    rw [PyProof.Rows.sortedHeap_old (Nat.ne_of_lt hlt) (by rw [size_push']; exact Nat.lt_succ_of_lt hlt)]
    exact Heap.get?_push_of_some _ z
  obtain ⟨h0, g0, d0, tk0, os0⟩ := s1
  obtain rfl : g0 = s.gens := g1
  obtain rfl : os0 = s.os := o1
  refine wpAny_pure ⟨_, rfl, .ref h0.objs.size, upd H h0.objs.size (.lst ((out.map SrtO.iv).map V.int)), ?_, rfl, q _ _ (lt_of_le_nodup _ j3 (pn.nodup_iff.mpr nd)) (fun k => by rw [pn.mem_iff, ← hm k]) ?_ hn1⟩
  · have J : Inv X pins σ (upd H h0.objs.size (.lst ((out.map SrtO.iv).map V.int))) { s with heap := PyProof.Rows.sortedHeap (h0.push (seqObj "list" vs.toArray 0)) h0.objs.size vs out.toArray, gens := s.gens, drawn := d0, toks := tk0 } :=
      I.call (ch := []) (Un.laid kk hz hn1) (I.hok.laid kk hz ⟨hlen, out, e', vals_of_ints j1, he'⟩) I.bare (fun _ z => nomatch z)
    exact J
  · rw [pn.length_eq, List.length_map, Array.length_toList]; exact hn
end
end My

set_option Elab.async false
set_option linter.all false
set_option maxRecDepth 100000
namespace My
open PySem PySem.Spec PyProof.Rows L2
/-! ### o.m(k = v, ..), C(k = v, ..): all by name -/
structure KB1 (K : PySem.W.Frag) (fd : FuncData) (ps ks : List Str) : Prop where
  to : ∀ (s : Shared) (u : Value) (ws : List Value), K.In s.heap → ws.length = ks.length → BindsTo s fd ⟨[u], ks.zip ws⟩ (ps.zip (u :: ws))
theorem kb1 {K : PySem.W.Frag} {fd : FuncData} {p0 : Str} {ks : List Str} (h : ∀ (u : Value) (ws : List Value), ws.length = ks.length → bindArgs fd ⟨[u], ks.zip ws⟩ = pure ((p0, u) :: ks.zip ws)) : KB1 K fd (p0 :: ks) ks := ⟨fun _ u ws _ hl => .of_eq (h u ws hl)⟩
structure HasMK (P : Program) (w : World) (K : PySem.W.Frag) (mg : Str → Option Value) (base : Heap) (C : Addr) (m : Str) (k : Nat) (ps ks : List Str) (sp : Sp) : Prop where
  ex : ∃ f fd, FnOk P w K mg base CX0 k f fd ps sp ∧ Meth K C m f ∧ KB1 K fd ps ks
structure HasCK (P : Program) (w : World) (K : PySem.W.Frag) (mg : Str → Option Value) (base : Heap) (x : Str) (C : Addr) (k : Nat) (ps ks : List Str) (sp : Sp) : Prop where
  ex : ∃ f fd, FnOk P w K mg base CX0 k f fd ps sp ∧ Mk K C f ∧ mg x = some (.ref C) ∧ KB1 K fd ps ks
section
variable {X : Cx} {C f : Addr} {fd : FuncData} {m x : Str} {k : Nat} {ps ks : List Str} {sp : Sp} {o : Expr} {kws : List Keyword} {p pos apos : Pos} {ta : TE} {tk : TA}
theorem run_1 {pins : List (Addr × Obj)} {σ : L2.St} {H : Hp} {s : Shared} {Q : VK} {u : Value} {v : V} {ws : List Value} {zs : List V} (F : FnOk X.prog X.w X.K X.mg X.base CX0 k f fd ps sp) (hr : Room k X.A) (hb : KB1 X.K fd ps ks) (hk : ks.length + 1 = ps.length)
    (I : Inv X pins σ H s) (ru : RelV v u) (r : Vals zs ws) (h : sp (v :: zs) H Q E0) : wpAny (model X.prog X.w) X.A (call (.ref f) [u] (ks.zip ws)) (EP X pins σ Q) X.xe s := by
  have hl : ws.length = ks.length := by
    have := F.len _ _ _ _ h
    have := r.length
    simp at *
    omega
  refine wpAny_call (codeAny_mono (F.run X.A X.stack s H ⟨[u], ks.zip ws⟩ (u :: ws) (v :: zs) Q E0 hr I.env0 (hb.to s u ws I.kIn hl) (.cons ru r) h) fun r s' hq => ?_)
  cases r with
  | error e => exact False.elim hq
  | ok fl =>
    cases fl with
    | ret u => exact I.after hq
    | next => exact False.elim hq
    | brk => exact False.elim hq
    | cont => exact False.elim hq
theorem pe_methHK {pl : Sem Bool} (c : Cls X.K C) (h : HasMK X.prog X.w X.K X.mg X.base C m k ps ks sp) (hr : Room k X.A) (he : PE X o ta) (hkw : PK X kws tk) (hk : ks.length + 1 = ps.length := by rfl)
    (hall : (backToKw pos (keywordEach kws X.env)).all (·.1.isSome) = true := by rfl) (hks : (backToKw pos (keywordEach kws X.env)).filterMap (·.1) = ks := by rfl)
    (hpl : ((backTo pos (starEach [] X.env)).any (·.1) || (backToKw pos (keywordEach kws X.env)).any (·.1.isNone)) = false := by rfl)
    (ht : eval (.Call (.Attribute o m apos) [] kws pos) X.env = (do
      let ov ← eval o X.env
      standAt apos.atName
      let (f, first) ← holding [ov] (getMethod ov m pl)
      callWith pos f first (backTo pos (starEach [] X.env)) (backToKw pos (keywordEach kws X.env))) := by rfl) : PE X (.Call (.Attribute o m apos) [] kws pos) (tMeth C m sp [] E0 ta tk) := by
  obtain ⟨f, fd, F, hm, b⟩ := h.ex
  refine ⟨fun pins s σ H Q I h => ?_⟩
  refine PySem.W.methodCall_KW (pl := pl) (thn (he.run pins s σ H _ I h) fun u s1 ⟨x, H1, I1, rx, a, dx, fs, ex, ea, l, q⟩ => ?_) ht
  subst ex
  obtain rfl : u = Value.ref a := rx
  refine getmeth_ok I1 ea c hm l ?_
  refine PySem.W.callWith_KW0 (first := [.ref a]) (h₀ := X.base) I.ok.mod.kin hm.kp hall (thn (hkw.run pos pins s1 σ H1 _ I1 q) fun ws s2 ⟨zs, H2, I2, rz, q2⟩ => ⟨I2.kIn, ?_⟩) hpl
  rw [hks]
  have q2 : sp (.ref a :: (zs ++ [])) H2 Q E0 := q2
  rw [List.append_nil] at q2
  exact run_1 (v := .ref a) F hr b hk I2 (show RelV (V.ref a) (Value.ref a) from rfl) rz q2
theorem pe_makeHK (h : HasCK X.prog X.w X.K X.mg X.base x C k ps ks sp) (hr : Room (k + 1) X.A) (hkw : PK X kws tk) (hk : ks.length + 1 = ps.length := by rfl) (hg : Gl X x := by rfl)
    (hall : (backToKw pos (keywordEach kws X.env)).all (·.1.isSome) = true := by rfl) (hks : (backToKw pos (keywordEach kws X.env)).filterMap (·.1) = ks := by rfl) (hdb : (x == ("__debug__" : Str)) = false := by decide)
    (hpl : ((backTo pos (starEach [] X.env)).any (·.1) || (backToKw pos (keywordEach kws X.env)).any (·.1.isNone)) = false := by rfl) : PE X (.Call (.Name x p) [] kws pos) (tMake C sp [] E0 tk) := by
  obtain ⟨f, fd, F, M, hm, b⟩ := h.ex
  refine ⟨fun pins s σ H Q I h => ?_⟩
  refine wpAny_Call_Name_kw (ld_glob I hg hm ?_ hdb)
  refine PySem.W.callWith_KW0 (h₀ := X.base) I.ok.mod.kin M.kp hall (thn (hkw.run pos pins s σ H _ I h) fun ws s2 ⟨zs, H2, I2, rz, q2⟩ => ⟨I2.kIn, ?_⟩) hpl
  rw [hks]
  have hq := q2 (s2.heap.objs.size + 1) s2.heap.objs.size (I2.hok.fresh (Nat.le_succ _)) (I2.hok.fresh (Nat.le_refl _)) (Nat.ne_of_lt (Nat.lt_succ_self _))
  rw [List.append_nil] at hq
  have I3 := Inv.made (C := C) I2
  have hl : ws.length = ks.length := by
    have := F.len _ _ _ _ hq
    have := rz.length
    simp at *
    omega
  refine wpAny_call (make_map (f := f) I2.kIn M.makes M.init (beq_iff_eq.mp M.fn) (codeAny_mono (F.run _ X.stack _ _ ⟨[Value.ref (s2.heap.objs.size + 1)], ks.zip ws⟩ (Value.ref (s2.heap.objs.size + 1) :: ws) (V.ref (s2.heap.objs.size + 1) :: zs) _ E0 (hr.make C [] (ks.zip ws))
    (I3.env0.make C [] (ks.zip ws)) (b.to _ (Value.ref (s2.heap.objs.size + 1)) ws I3.kIn hl) (.cons (show RelV (V.ref (s2.heap.objs.size + 1)) (Value.ref (s2.heap.objs.size + 1)) from rfl) rz) hq) fun r s' hq' => ?_))
  cases r with
  | error e => exact False.elim hq'
  | ok fl =>
    cases fl with
    | ret u =>
      obtain ⟨v, H', I4, rv, ev, q3⟩ := I3.after hq'
      subst ev
      exact ⟨rv, ⟨V.ref (s2.heap.objs.size + 1), H', I4, rfl, q3⟩⟩
    | next => exact False.elim hq'
    | brk => exact False.elim hq'
    | cont => exact False.elim hq'
end
end My

set_option Elab.async false
set_option linter.all false
set_option maxRecDepth 100000
set_option pp.deepTerms false
set_option pp.deepTerms.threshold 12
set_option pp.maxSteps 1200
namespace My
open PySem PySem.Spec PyProof.Rows L2
/-! ### sets of orders -/
structure OrdT (K : PySem.W.Frag) (mg : Str → Option Value) (C : Addr) : Prop where
  cl : Cls K C
  nR : NoAttr K C "rows"
  nO : NoAttr K C "outside"
  mgC : mg "Orders" = some (.ref C)
  self : PySem.W.selfFirst K C = true
  mro : PySem.W.plainMro K C = true
  ca : PySem.W.findIn K (.ref C) "__class__" = some (some (.builtin "object.__class__"))
  cn : PySem.W.specialIn K (.builtin "object.__class__") "__get__" = some (some (.builtin "getset_descriptor.__get__"))
  ct : PySem.W.takesIn K (.builtin "object.__class__") = some true
  cm : PySem.W.mroIn K C (.type "object") = some true
  cs : ∃ cd, PySem.W.clsIn K C = some cd
  ty : PySem.W.typeIn K (.ref C) = some (.type "type")
  sInt : PySem.W.subIn K (.type "int") (.ref C) = some false
  sBool : PySem.W.subIn K (.type "bool") (.ref C) = some false
  sStr : PySem.W.subIn K (.type "str") (.ref C) = some false
  sList : PySem.W.subIn K (.type "list") (.ref C) = some false
  sTup : PySem.W.subIn K (.type "tuple") (.ref C) = some false
  sNone : PySem.W.subIn K (.type "NoneType") (.ref C) = some false
  tInt : PySem.W.subIn K (.ref C) (.type "int") = some false
  tBool : PySem.W.subIn K (.ref C) (.type "bool") = some false
  tList : PySem.W.subIn K (.ref C) (.type "list") = some false
  tTup : PySem.W.subIn K (.ref C) (.type "tuple") = some false
abbrev ordF (r : Addr) (b : Bool) : List (Str × V) := [("rows", .ref r), ("outside", .bl b)]
/-- a set of orders: the ascending list us, or all but these -/
def OrdAt (C : Addr) (H : Hp) (a : Addr) (us : List Int) (b : Bool) : Prop := ∃ dx r, H a = some (.ins C dx (ordF r b)) ∧ H r = some (.tup (us.map V.int)) ∧ us.Pairwise (· < ·) ∧ (∀ n ∈ us, 1 ≤ n) ∧ us.length ≤ 4000
theorem OrdAt.stay {C : Addr} {H H' : Hp} {a : Addr} {us : List Int} {b : Bool} (h : OrdAt C H a us b) (s : Stay H H') : OrdAt C H' a us b := let ⟨dx, r, h1, h2, h3⟩ := h; ⟨dx, r, s _ _ (by intro _ z; cases z) (by intro _ z; cases z) h1, s.tk _ _ h2, h3⟩
theorem OrdAt.same {C : Addr} {H H' : Hp} {a : Addr} {us : List Int} {b : Bool} (h : OrdAt C H a us b) (s : Same H H') : OrdAt C H' a us b := h.stay (.same s)
theorem OrdAt.asc {C : Addr} {H : Hp} {a : Addr} {us : List Int} {b : Bool} (h : OrdAt C H a us b) : us.Pairwise (· < ·) := let ⟨_, _, _, _, h3, _⟩ := h; h3
theorem OrdAt.pos {C : Addr} {H : Hp} {a : Addr} {us : List Int} {b : Bool} (h : OrdAt C H a us b) : ∀ n ∈ us, 1 ≤ n := let ⟨_, _, _, _, _, h4, _⟩ := h; h4
theorem OrdAt.len {C : Addr} {H : Hp} {a : Addr} {us : List Int} {b : Bool} (h : OrdAt C H a us b) : us.length ≤ 4000 := let ⟨_, _, _, _, _, _, h5⟩ := h; h5
theorem rows_look2 {v u : V} : ([(("rows" : Str), v), (("outside" : Str), u)] : List (Str × V)).lookup ("rows" : Str) = some v := by simp [List.lookup]
theorem out_look {v u : V} : ([(("rows" : Str), v), (("outside" : Str), u)] : List (Str × V)).lookup ("outside" : Str) = some u := by rfl
theorem out_put {v u : V} : putF "outside" u [(("rows" : Str), v)] = ([(("rows" : Str), v), (("outside" : Str), u)] : List (Str × V)) := rfl
/-! ### plain facts -/
theorem asc_ext : ∀ {us vs : List Int}, us.Pairwise (· < ·) → vs.Pairwise (· < ·) → (∀ k, k ∈ us ↔ k ∈ vs) → us = vs
  | [], [], _, _, _ => rfl
  | [], v :: vs, _, _, h => by have := (h v).mpr (.head _); cases this
  | u :: us, [], _, _, h => by have := (h u).mp (.head _); cases this
  | u :: us, v :: vs, hu, hv, h => by
    obtain ⟨hu1, hu2⟩ := List.pairwise_cons.mp hu
    obtain ⟨hv1, hv2⟩ := List.pairwise_cons.mp hv
    have e : u = v := by
      rcases List.mem_cons.mp ((h u).mp (.head _)) with e | e
      · exact e
      · rcases List.mem_cons.mp ((h v).mpr (.head _)) with f | f
        · exact f.symm
        · have := hv1 _ e; have := hu1 _ f; omega
    subst e
    congr 1
    refine asc_ext hu2 hv2 fun k => ⟨fun hk => ?_, fun hk => ?_⟩
    · rcases List.mem_cons.mp ((h k).mp (.tail _ hk)) with e | e
      · subst e; have := hu1 _ hk; omega
      · exact e
    · rcases List.mem_cons.mp ((h k).mpr (.tail _ hk)) with e | e
      · subst e; have := hv1 _ hk; omega
      · exact e
def mexF (f : Int) (us : List Int) : Int := us.foldl (fun f o => if o = f then f + 1 else f) f
/-- the least order -/
def leastV (us : List Int) (b : Bool) : V := if b = true then .int (mexF 1 us) else match us with | [] => .non | y :: _ => .int y
theorem map_at {us : List Int} {i : Nat} {v : V} (h : (us.map V.int)[i]? = some v) : ∃ n, us[i]? = some n ∧ v = .int n ∧ i < us.length := by
  rw [List.getElem?_map] at h
  cases e : us[i]? with
  | none => rw [e] at h; cases h
  | some n => rw [e] at h; cases h; exact ⟨n, rfl, rfl, (List.getElem?_eq_some_iff.mp e).1⟩
theorem take_one {us : List Int} {i : Nat} {n : Int} (h : us[i]? = some n) : us.take (i + 1) = us.take i ++ [n] := by rw [List.take_succ, h]; rfl
theorem mex_take {us : List Int} {i : Nat} {n f : Int} (h : us[i]? = some n) : mexF f (us.take (i + 1)) = if n = mexF f (us.take i) then mexF f (us.take i) + 1 else mexF f (us.take i) := by
  rw [take_one h]
  unfold mexF
  rw [List.foldl_append]
  rfl
theorem fold_min (y : Int) : ∀ ys : List Int, (ys.foldl min y = y ∨ ys.foldl min y ∈ ys) ∧ ys.foldl min y ≤ y ∧ ∀ k ∈ ys, ys.foldl min y ≤ k
  | [] => ⟨.inl rfl, Int.le_refl _, fun _ h => by cases h⟩
  | z :: zs => by
    obtain ⟨a, b, c⟩ := fold_min (min y z) zs
    refine ⟨?_, ?_, fun k hk => ?_⟩
    · rw [List.foldl_cons]
      rcases a with a | a
      · rw [a]
        by_cases e : y ≤ z
        · exact .inl (Int.min_eq_left e)
        · exact .inr (by rw [Int.min_eq_right (by omega)]; exact .head _)
      · exact .inr (.tail _ a)
    · rw [List.foldl_cons]; exact Int.le_trans b (Int.min_le_left _ _)
    · rw [List.foldl_cons]
      rcases List.mem_cons.mp hk with rfl | hk
      · exact Int.le_trans b (Int.min_le_right _ _)
      · exact c k hk
theorem fold_max (y : Int) : ∀ ys : List Int, y ≤ ys.foldl max y ∧ ∀ k ∈ ys, k ≤ ys.foldl max y
  | [] => ⟨Int.le_refl _, fun _ h => by cases h⟩
  | z :: zs => by
    obtain ⟨b, c⟩ := fold_max (max y z) zs
    refine ⟨?_, fun k hk => ?_⟩
    · rw [List.foldl_cons]; exact Int.le_trans (Int.le_max_left _ _) b
    · rw [List.foldl_cons]
      rcases List.mem_cons.mp hk with rfl | hk
      · exact Int.le_trans (Int.le_max_right _ _) b
      · exact c k hk
theorem least_min {us : List Int} {y : Int} {ys : List Int} (h : us.Pairwise (· < ·)) (hm : ∀ k, k ∈ us ↔ k ∈ y :: ys) : leastV us false = .int (ys.foldl min y) := by
  obtain ⟨a, b, c⟩ := fold_min y ys
  have hin : ys.foldl min y ∈ us := (hm _).mpr (by rcases a with a | a <;> first | (rw [a]; exact .head _) | exact .tail _ a)
  cases us with
  | nil => cases hin
  | cons u us =>
    obtain ⟨h1, _⟩ := List.pairwise_cons.mp h
    show V.int u = _
    congr 1
    have l1 : ys.foldl min y ≤ u := by
      rcases List.mem_cons.mp ((hm u).mp (.head _)) with e | e
      · rw [e]; exact b
      · exact c _ e
    rcases List.mem_cons.mp hin with e | e
    · exact e.symm
    · have := h1 _ e; omega
theorem least_cases (us : List Int) (b : Bool) : (∃ n, leastV us b = .int n) ∨ leastV us b = .non := by
  unfold leastV
  split
  · exact .inl ⟨_, rfl⟩
  · cases us with
    | nil => exact .inr rfl
    | cons y ys => exact .inl ⟨y, rfl⟩
theorem ints_all : ∀ {l : List V}, (∀ x ∈ l, ∃ n, x = .int n) → ∃ ns : List Int, l = ns.map V.int
  | [], _ => ⟨[], rfl⟩
  | x :: l, h => by
    obtain ⟨n, rfl⟩ := h x (.head _)
    obtain ⟨ns, rfl⟩ := ints_all fun y hy => h y (.tail _ hy)
    exact ⟨n :: ns, rfl⟩
theorem cut_ints {us : List Int} (lo hi : Option Int) : ∃ ns : List Int, cutV (us.map V.int) lo hi = ns.map V.int ∧ ns.length ≤ us.length := by
  obtain ⟨ns, e⟩ := ints_all (l := cutV (us.map V.int) lo hi) fun x hx => by
    obtain ⟨n, _, rfl⟩ := List.mem_map.mp (cut_mem hx)
    exact ⟨n, rfl⟩
  refine ⟨ns, e, ?_⟩
  have := cut_len (xs := us.map V.int) lo hi
  rw [e, List.length_map, List.length_map] at this
  exact this
theorem flat_ints (us : List Int) : (us.map V.int).all flatV = true := by
  rw [List.all_eq_true]
  intro x hx
  obtain ⟨n, _, rfl⟩ := List.mem_map.mp hx
  rfl
theorem inV_ints (k : Int) : ∀ us : List Int, inV (.int k) (us.map V.int) = decide (k ∈ us)
  | [] => by simp [inV]
  | u :: us => by
    have ih := inV_ints k us
    unfold inV at *
    rw [List.map_cons, List.any_cons, ih]
    show (eqV (.int u) (.int k) || _) = _
    by_cases e : u = k
    · subst e; simp [eqV]
    · have e2 : ¬ k = u := fun z => e z.symm
      simp [eqV, e, e2]
section
variable {K : PySem.W.Frag} {mg : Str → Option Value} {C : Addr} {H : Hp} {Q : VK} {a : Addr} {us vs : List Int} {b c : Bool}
theorem ty_ord (T : OrdT K mg C) {dx : Addr} {fs : List (Str × V)} (h : H a = some (.ins C dx fs)) : TyX K H (.ref a) (.ref C) := .base (.ins h T.cl T.ca T.cn T.ct T.cm)
theorem r_isOrd (T : OrdT K mg C) {dx : Addr} {fs : List (Str × V)} (h : H a = some (.ins C dx fs)) (q : Q (.bl true) H) : rIsi K [.ref a, .ref C] H Q := ⟨_, _, _, _, true, rfl, .own C, ty_ord T h, kit_self, q⟩
theorem ni_ord (T : OrdT K mg C) (h : OrdAt C H a us b) : NotIntS K H (.ref a) := fun _ s => by
  obtain ⟨dx, r, h1, _⟩ := h.same s
  exact ⟨_, false, false, .x (ty_ord T h1), kit_bi (by decide +kernel) T.tInt, kit_bi (by decide +kernel) T.tBool, rfl⟩
theorem r_inT {r : Addr} {k : Int} (h : H r = some (.tup (us.map V.int))) (q : Q (.bl (decide (k ∈ us))) H) : rIn K false (.int k) (.ref r) H Q := ⟨r, _, rfl, .inr (.of h), rfl, flat_ints us, by rw [inV_ints]; exact q⟩
theorem r_inL {r : Addr} {k : Int} (h : H r = some (.lst (us.map V.int))) (q : Q (.bl (decide (k ∈ us))) H) : rIn K false (.int k) (.ref r) H Q := ⟨r, _, rfl, .inl (.of h), rfl, flat_ints us, by rw [inV_ints]; exact q⟩
theorem shaped_intsT (bs : List Int) : SeqAt.shaped (.tuple (bs.map PyData.int)) = true := (Lay.tuple (n := 1) fun x hx => by
  obtain ⟨c, _, rfl⟩ := List.mem_map.mp hx
  exact ⟨by simp [PyData.canLay0], by simp [PyData.depth]⟩).shaped (by decide)
theorem r_eqIT {l m : Addr} (h : H l = some (.tup (us.map V.int))) (h' : H m = some (.tup (vs.map V.int))) (q : Q (.bl (decide (us = vs))) H) : rEqD K (.ref l) (.ref m) H Q :=
  ⟨_, _, .tup (.of h) (dp_ints us), .tup (.of h') (dp_ints vs), shaped_intsT us, shaped_intsT vs, by rw [PyData.eqv, eqv_ints]; exact q⟩
theorem r_eqIs {l m : Addr} (h : H l = some (.lst (us.map V.int))) (h' : H m = some (.lst (vs.map V.int))) (q : Q (.bl (decide (us = vs))) H) : rEqD K (.ref l) (.ref m) H Q :=
  ⟨_, _, .lst (.of h) (dp_ints us), .lst (.of h') (dp_ints vs), shaped_ints us, shaped_ints vs, by rw [PyData.eqv, eqv_ints]; exact q⟩
/-- the fields -/
theorem u_orows (T : OrdT K mg C) {dx r : Addr} (h : H a = some (.ins C dx (ordF r b))) {R : V → Prop} (q : R (.ref r)) :
    ∃ b' D dx fs v, V.ref a = .ref b' ∧ H b' = some (.ins D dx fs) ∧ Cls K D ∧ NoAttr K D "rows" ∧ fs.lookup ("rows" : Str) = some v ∧ R v := ⟨a, C, dx, _, .ref r, rfl, h, T.cl, T.nR, rows_look2, q⟩
theorem u_oout (T : OrdT K mg C) {dx r : Addr} (h : H a = some (.ins C dx (ordF r b))) {R : V → Prop} (q : R (.bl b)) :
    ∃ b' D dx fs v, V.ref a = .ref b' ∧ H b' = some (.ins D dx fs) ∧ Cls K D ∧ NoAttr K D "outside" ∧ fs.lookup ("outside" : Str) = some v ∧ R v := ⟨a, C, dx, _, .bl b, rfl, h, T.cl, T.nO, out_look, q⟩
end
/-! ### promises -/
def spIsOrderT (K : PySem.W.Frag) : Sp := fun vs H Q _ => ∃ x, vs = [x] ∧ ((∃ n, x = .int n ∧ Q (.bl (decide (1 ≤ n))) H) ∨ (NotInt K H x ∧ Q (.bl false) H))
def spOInit (C : Addr) : Sp := fun vs H Q _ => ∃ (x dx l : Addr) (ns : List Int) (b : Bool), vs = [.ref x, .ref l, .bl b] ∧ H x = some (.ins C dx []) ∧ H l = some (.lst (ns.map V.int)) ∧ (∀ n ∈ ns, 1 ≤ n) ∧ ns.length ≤ 4000 ∧
  ∀ us H', But x H H' → OrdAt C H' x us b → (∀ k, k ∈ us ↔ k ∈ ns) → us.length ≤ ns.length → Q .non H'
theorem u_ord {C : Addr} {H : Hp} {R : Addr → Hp → Prop} {E : XK} {l : Addr} {ns : List Int} {b : Bool} (h : H l = some (.lst (ns.map V.int))) (h1 : ∀ n ∈ ns, 1 ≤ n) (hn : ns.length ≤ 4000)
    (q : ∀ a us H', H a = none → Same H H' → OrdAt C H' a us b → (∀ k, k ∈ us ↔ k ∈ ns) → us.length ≤ ns.length → R a H') :
    ∀ x dx, H x = none → H dx = none → dx ≠ x → spOInit C [.ref x, .ref l, .bl b] (upd (upd H dx (.own x)) x (.ins C dx [])) (fun v H2 => v = .non ∧ R x H2) E := by
  intro x dx nx ndx ne
  have s1 : Same H (upd (upd H dx (.own x)) x (.ins C dx [])) := Same.put (Same.new0 ndx) nx
  refine ⟨x, dx, l, ns, b, rfl, upd_same, s1 _ _ h, h1, hn, fun us H' bb hp hc hl => ⟨rfl, ?_⟩⟩
  exact q x us H' nx (Same.but2 s1 nx bb) hp hc hl
def spGetListed (C : Addr) : Sp := fun vs H Q _ => ∃ a us b, vs = [.ref a] ∧ OrdAt C H a us b ∧ ∀ l H', H l = none → Same H H' → H' l = some (.lst (us.map V.int)) → Q (.ref l) H'
def spGetOthers (C : Addr) : Sp := fun vs H Q _ => ∃ a us b, vs = [.ref a] ∧ OrdAt C H a us b ∧ Q (.bl b) H
def spGetLeast (C : Addr) : Sp := fun vs H Q _ => ∃ a us b, vs = [.ref a] ∧ OrdAt C H a us b ∧ Q (leastV us b) H
def spOLen (C : Addr) : Sp := fun vs H Q _ => ∃ a us b, vs = [.ref a] ∧ OrdAt C H a us b ∧ Q (.int us.length) H
def spContains (K : PySem.W.Frag) (C : Addr) : Sp := fun vs H Q _ => ∃ a us b x, vs = [.ref a, x] ∧ OrdAt C H a us b ∧ ((∃ n, x = .int n ∧ Q (.bl (decide (1 ≤ n) && (decide (n ∈ us) != b))) H) ∨ (NotInt K H x ∧ Q (.bl false) H))
def spOBool (C : Addr) : Sp := fun vs H Q _ => ∃ a us b, vs = [.ref a] ∧ OrdAt C H a us b ∧ Q (.bl (b || !us.isEmpty)) H
def spOEq (K : PySem.W.Frag) (C : Addr) : Sp := fun vs H Q _ => ∃ a us b y, vs = [.ref a, y] ∧ OrdAt C H a us b ∧ ((∃ a2 us2 b2, y = .ref a2 ∧ OrdAt C H a2 us2 b2 ∧ Q (.bl (decide (us = us2) && decide (b = b2))) H) ∨ (∃ t, TyE K H y t ∧ PySem.W.kitOne K t (.ref C) = some false ∧ Q (.bl false) H))
/-! ### the law's own -/
def spTellsB : Sp := fun vs H Q _ => ∃ c d : Bool, vs = [.bl c, .bl d] ∧ Q (.bl (decide (c = d))) H
def spHeld : Sp := fun vs H Q _ => ∃ (l : Addr) (ns : List Int) (b : Bool) (k : Int), vs = [.ref l, .bl b, .int k] ∧ H l = some (.lst (ns.map V.int)) ∧ Q (.bl (decide (1 ≤ k) && (decide (k ∈ ns) != b))) H
def spLeastOf : Sp := fun vs H Q _ => ∃ (l : Addr) (ns us : List Int) (b : Bool), vs = [.ref l, .bl b] ∧ H l = some (.lst (ns.map V.int)) ∧ ns.length ≤ 4000 ∧ us.Pairwise (· < ·) ∧ (∀ k, k ∈ us ↔ k ∈ ns) ∧ ∀ H', Same H H' → Q (leastV us b) H'
def spIsOrders (C : Addr) : Sp := fun vs H Q _ => ∃ (a l : Addr) (ns us : List Int) (b : Bool), vs = [.ref a, .ref l, .bl b] ∧ OrdAt C H a us b ∧ H l = some (.lst (ns.map V.int)) ∧ ns.length ≤ 4000 ∧ (∀ k, k ∈ us ↔ k ∈ ns) ∧ ∀ H', Same H H' → Q (.bl true) H'
end My

set_option Elab.async false
set_option linter.all false
set_option maxRecDepth 100000
namespace My
open PySem PySem.Spec PyProof.Rows L2
/-! ### makings with defaults and keywords -/
structure HasCD (P : Program) (w : World) (K : PySem.W.Frag) (mg : Str → Option Value) (base : Heap) (x : Str) (C : Addr) (k : Nat) (ps : List Str) (sp : Sp) (dvs : List V) : Prop where
  ex : ∃ f fd ds, FnOk P w K mg base CX0 k f fd ps sp ∧ Mk K C f ∧ mg x = some (.ref C) ∧ Binds K fd ps ds ∧ Vals dvs ds
structure HasCN (P : Program) (w : World) (K : PySem.W.Frag) (mg : Str → Option Value) (base : Heap) (x : Str) (C : Addr) (k : Nat) (ps : List Str) (n : Nat) (ks : List Str) (gV : List V → List V → List V) (sp : Sp) : Prop where
  ex : ∃ f fd g, FnOk P w K mg base CX0 k f fd ps sp ∧ Mk K C f ∧ mg x = some (.ref C) ∧ KBn K fd ps (n + 1) ks g gV
section
variable {X : Cx} {C : Addr} {x : Str} {k n : Nat} {ps ks : List Str} {sp : Sp} {e : Expr} {es : List Expr} {p pos : Pos} {t tk : TA} {dvs : List V} {gV : List V → List V → List V} {kws : List Keyword}
theorem pe_makeHD (h : HasCD X.prog X.w X.K X.mg X.base x C k ps sp dvs) (hr : Room (k + 1) X.A) (ha : PA X (e :: es) t) (hg : Gl X x := by rfl) (hdb : (x == ("__debug__" : Str)) = false := by decide)
    (he : starEach (e :: es) X.env = (false, eval e X.env) :: starEach es X.env := by rfl) (hpl : (backTo pos (starEach es X.env)).any (·.1) = false := by rfl) : PE X (.Call (.Name x p) (e :: es) [] pos) (tMake C sp dvs E0 t) := by
  obtain ⟨f, fd, ds, F, M, hm, b, d⟩ := h.ex
  exact pe_make M F hr hg hm b d pass0 ha hdb he hpl
theorem pe_makeHN (h : HasCN X.prog X.w X.K X.mg X.base x C k ps n ks gV sp) (hr : Room (k + 1) X.A) (ha : PA X (e :: es) t) (hkw : PK X kws tk) (hg : Gl X x := by rfl)
    (hall : (backToKw pos (keywordEach kws X.env)).all (·.1.isSome) = true := by rfl) (hks : (backToKw pos (keywordEach kws X.env)).filterMap (·.1) = ks := by rfl) (hdb : (x == ("__debug__" : Str)) = false := by decide)
    (he : starEach (e :: es) X.env = (false, eval e X.env) :: starEach es X.env := by rfl) (hpl : ((backTo pos (starEach (e :: es) X.env)).any (·.1) || (backToKw pos (keywordEach kws X.env)).any (·.1.isNone)) = false := by rfl) :
    PE X (.Call (.Name x p) (e :: es) kws pos) (tMakeN C n ks.length sp gV E0 t tk) := by
  obtain ⟨f, fd, g, F, M, hm, b⟩ := h.ex
  exact pe_makeN M F hr hg hm b pass0 ha hkw hall hks hdb he hpl
theorem pe_makeHKN (h : HasCN X.prog X.w X.K X.mg X.base x C k ps 0 ks gV sp) (hr : Room (k + 1) X.A) (hkw : PK X kws tk) (hg : Gl X x := by rfl)
    (hall : (backToKw pos (keywordEach kws X.env)).all (·.1.isSome) = true := by rfl) (hks : (backToKw pos (keywordEach kws X.env)).filterMap (·.1) = ks := by rfl) (hdb : (x == ("__debug__" : Str)) = false := by decide)
    (hpl : ((backTo pos (starEach [] X.env)).any (·.1) || (backToKw pos (keywordEach kws X.env)).any (·.1.isNone)) = false := by rfl) : PE X (.Call (.Name x p) [] kws pos) (tMakeN C 0 ks.length sp gV E0 tNil tk) := by
  obtain ⟨f, fd, g, F, M, hm, b⟩ := h.ex
  refine ⟨fun pins s σ H Q I h => ?_⟩
  refine wpAny_Call_Name_kw (ld_glob I hg hm ?_ hdb)
  refine PySem.W.callWith_KW0 (h₀ := X.base) I.ok.mod.kin M.kp hall (thn (hkw.run pos pins s σ H _ I h) fun ws s2 ⟨zs, H2, I2, rz, l1, l2, q2⟩ => ⟨I2.kIn, ?_⟩) hpl
  rw [hks]
  exact run_makeN M F hr b pass0 I2 .nil rz l1 l2 q2
end
section
variable {σ : L2.St} {H : Hp} {Q : VK} {C : Addr} {sp : Sp} {E : XK} {t tk : TA} {d : V} {ds : List V} {n m : Nat} {gV : List V → List V → List V}
theorem r_makeD (q : t σ H fun vs H1 => ∀ x dx, H1 x = none → H1 dx = none → dx ≠ x → sp (.ref x :: (vs ++ d :: ds)) (upd (upd H1 dx (.own x)) x (.ins C dx [])) (fun v H2 => v = .non ∧ Q (.ref x) H2) E) : tMake C sp (d :: ds) E t σ H Q := q
theorem r_makeN (q : t σ H fun vs H1 => tk σ H1 fun zs H2 => vs.length = n ∧ zs.length = m ∧ ∀ x dx, H2 x = none → H2 dx = none → dx ≠ x → sp (gV (.ref x :: vs) zs) (upd (upd H2 dx (.own x)) x (.ins C dx [])) (fun v H3 => v = .non ∧ Q (.ref x) H3) E) : tMakeN C n m sp gV E t tk σ H Q := q
/-! ### readings -/
theorem r_notBl {a b : Bool} (q : Q (.bl (!decide (a = b))) H) : rNotB (.bl a) (.bl b) H Q := ⟨a, b, rfl, rfl, q⟩
def rNotNN : R2 := fun x y H Q => y = .non ∧ Q (.bl (!decide (x = .non))) H
theorem op_notNN {X : Cx} : OpR X (compareOp .IsNot) rNotNN := op_notN
theorem r_notNI {n : Int} (q : Q (.bl true) H) : rNotNN (.int n) .non H Q := ⟨rfl, by rw [decide_eq_false (by intro h; cases h)]; exact q⟩
theorem r_notNN (q : Q (.bl false) H) : rNotNN .non .non H Q := ⟨rfl, by rw [decide_eq_true rfl]; exact q⟩
theorem r_cbk {r : List V → List V → Hp → VK → Prop} (q : t σ H fun vs H1 => tk σ H1 fun zs H2 => r vs zs H2 Q) : tCKw r t tk σ H Q := q
theorem r_minD0 {K : PySem.W.Frag} {op : Int → Int → Int} {a : Addr} {d : V} (h : H a = some (.lst [])) (q : Q d H) : rMinD K op [.ref a] [d] H Q := ⟨a, [], d, rfl, rfl, .of h, q⟩
theorem r_minD1 {K : PySem.W.Frag} {op : Int → Int → Int} {a : Addr} {y : Int} {ys : List Int} {d : V} (h : H a = some (.lst ((y :: ys).map V.int))) (q : Q (.int (ys.foldl op y)) H) : rMinD K op [.ref a] [d] H Q := ⟨a, y :: ys, d, rfl, rfl, .of h, q⟩
theorem r_setI {w : World} {K : PySem.W.Frag} {l : Addr} {ns : List Int} (h : H l = some (.lst (ns.map V.int))) (hn : ns.length ≤ 4000) (q : ∀ p c, H p = none → c ≤ ns.length → Q (.ref p) (upd H p (SetO w p (fun j => decide (j ∈ ns)) c))) : rSetOfI w K [.ref l] H Q := ⟨l, ns, rfl, .of h, hn, q⟩
end
end My

set_option Elab.async false
set_option linter.all false
set_option maxRecDepth 100000
set_option maxHeartbeats 4000000
set_option pp.deepTerms false
set_option pp.deepTerms.threshold 12
set_option pp.maxSteps 1200

namespace My
open PySem PySem.Spec PyProof.Rows L2
section
variable {P : Program} {w : World} {K : PySem.W.Frag} {mg : Str → Option Value} {base : Heap} {C_Orders : Addr}
local macro_rules | `(tactic| walk_at "isi") => `(tactic| (first
  | (with_reducible refine r_is_int_int ?_)
  | (with_reducible refine r_is_int_bool ?_)
  | (with_reducible refine r_is_int_str ?_)
  | (with_reducible refine r_is_int_list ?_)
  | (with_reducible refine r_is_int_tuple ?_)
  | (with_reducible refine r_is_bool_int ?_)
  | (with_reducible refine r_is_bool_bool ?_)
  | (with_reducible refine r_is_bool_str ?_)
  | (with_reducible refine r_is_bool_list ?_)
  | (with_reducible refine r_is_bool_tuple ?_)
  | (with_reducible refine r_is_str_int ?_)
  | (with_reducible refine r_is_str_bool ?_)
  | (with_reducible refine r_is_str_str ?_)
  | (with_reducible refine r_is_str_list ?_)
  | (with_reducible refine r_is_str_tuple ?_)
  | ((with_reducible refine r_is_list_int (xs := ?xx) ?hh ?_); (case hh => walk_at "hp"))
  | ((with_reducible refine r_is_list_bool (xs := ?xx) ?hh ?_); (case hh => walk_at "hp"))
  | ((with_reducible refine r_is_list_str (xs := ?xx) ?hh ?_); (case hh => walk_at "hp"))
  | ((with_reducible refine r_is_list_list (xs := ?xx) ?hh ?_); (case hh => walk_at "hp"))
  | ((with_reducible refine r_is_list_tuple (xs := ?xx) ?hh ?_); (case hh => walk_at "hp"))
  | ((with_reducible refine r_is_tuple_int (xs := ?xx) ?hh ?_); (case hh => walk_at "hp"))
  | ((with_reducible refine r_is_tuple_bool (xs := ?xx) ?hh ?_); (case hh => walk_at "hp"))
  | ((with_reducible refine r_is_tuple_str (xs := ?xx) ?hh ?_); (case hh => walk_at "hp"))
  | ((with_reducible refine r_is_tuple_list (xs := ?xx) ?hh ?_); (case hh => walk_at "hp"))
  | ((with_reducible refine r_is_tuple_tuple (xs := ?xx) ?hh ?_); (case hh => walk_at "hp"))
  | (with_reducible refine r_is_NoneType_int ?_)
  | (with_reducible refine r_is_NoneType_bool ?_)
  | (with_reducible refine r_is_NoneType_str ?_)
  | (with_reducible refine r_is_NoneType_list ?_)
  | (with_reducible refine r_is_NoneType_tuple ?_)))
local macro_rules | `(tactic| walk_at "ne") => `(tactic| first | assumption | (refine Ne.symm ?_; assumption) | exact Bag.ne (by assumption) (by assumption) | exact ne_of_none (by assumption) (by assumption))
local macro_rules | `(tactic| walk_at "hp") => `(tactic| (first
  | assumption
  | exact upd_same
  | (refine h_keep ?_ (by assumption); walk_at "hp")
  | (refine (upd_ne (by walk_at "ne")).trans ?_; walk_at "hp")
  | (refine Same.at (by assumption) ?_; walk_at "hp")
  | (refine But.at (by assumption) (by walk_at "ne") ?_; walk_at "hp")
  | (refine But2.at (by assumption) (by walk_at "ne") (by walk_at "ne") ?_; walk_at "hp")))
local macro_rules | `(tactic| walk_at "side") => `(tactic| first | assumption | omega | (refine ⟨?_, ?_⟩ <;> first | assumption | omega | decide) | decide | (refine ⟨by decide, by decide, by decide⟩) | (left; refine ⟨?_, ?_⟩ <;> first | omega | decide) | (right; refine ⟨?_, ?_⟩ <;> first | omega | decide) | (simp; done))
local macro_rules | `(tactic| walk_at "cond") => `(tactic| first | assumption | exact rfl | omega | (simp only [List.length_cons, List.length_nil]; omega) | decide +kernel)
local macro_rules | `(tactic| walk_at "s") => `(tactic| (first
  | ((with_reducible refine r_var (v := ?vv) ?ee ?_); (case ee => exact rfl))
  | (with_reducible refine r_c ?_)
  | (with_reducible refine r_op ?_)
  | (with_reducible refine r_un ?_)
  | (with_reducible refine r_rI0 ?_)
  | ((with_reducible refine r_rI ?cc ?_); (case cc => walk_at "side"))
  | (with_reducible refine r_rU ?_)
  | (with_reducible refine r_eqI ?_)
  | (with_reducible refine r_neI ?_)
  | (with_reducible refine r_eqB ?_)
  | (with_reducible refine r_neB ?_)
  | (with_reducible refine r_eqS ?_)
  | (with_reducible refine r_neS ?_)
  | ((with_reducible refine r_eq ?ee ?_); (case ee => exact rfl))
  | ((with_reducible refine r_ne ?ee ?_); (case ee => exact rfl))
  | ((with_reducible refine r_ixL (v := ?vv) (xs := ?xx) ?hh ?ee ?_); (case hh => (refine SqL.of ?_; walk_at "hp")); (case ee => exact rfl))
  | (with_reducible refine r_cb ?_)
  | (with_reducible refine r_call ?_)
  | (with_reducible refine r_cons ?_)
  | (with_reducible refine r_nil ?_)
  | (with_reducible refine r_lst ?_)
  | (with_reducible refine r_tup ?_)
  | ((with_reducible refine r_new ?cc ?_); (case cc => walk_at "side"))
  | (with_reducible refine r_exbl ?_)
  | (with_reducible refine r_exint ?_)
  | (with_reducible refine r_exint2 ?_)
  | (with_reducible refine r_exblL ?_)
  | (with_reducible refine r_ex2 ?_)
  | (with_reducible refine r_test ?_)
  | (with_reducible refine r_tB ?_)
  | (with_reducible refine r_not ?_)
  | (with_reducible refine r_and ?_)
  | (with_reducible refine r_or ?_)
  | (with_reducible refine r_andV ?_)
  | (with_reducible refine r_orV ?_)
  | (with_reducible refine r_notV ?_)
  | (with_reducible refine r_tif ?_)
  | (with_reducible refine r_iteT ?_)
  | (with_reducible refine r_iteNT ?_)
  | (with_reducible refine r_iteNF ?_)
  | (with_reducible refine r_iteF ?_)
  | (with_reducible refine r_seq ?_)
  | (with_reducible refine r_next ?_)
  | (with_reducible refine r_brk ?_)
  | (with_reducible refine r_cont ?_)
  | (with_reducible refine r_asg ?_)
  | (with_reducible refine r_gname ?_)
  | (with_reducible refine r_ret ?_)
  | (with_reducible refine r_retN ?_)
  | (with_reducible refine r_drop ?_)
  | (with_reducible refine r_if ?_)
  | ((with_reducible refine r_aug (x := ?xx) ?ee ?_); (case ee => exact rfl))
  | (with_reducible refine r_ipI ?_)
  | (with_reducible refine r_augS ?_)
  | (with_reducible refine r_gsub ?_)
  | ((with_reducible refine r_setL (xs := ?xx) (m := ?mm) ?hh ?ee ?_); (case hh => walk_at "hp"); (case ee => exact rfl))
  | (with_reducible refine r_par ?_)
  | (with_reducible refine r_bm ?_)
  | ((with_reducible refine r_tyL (xs := ?xx) ?hh ?_); (case hh => walk_at "hp"))
  | ((with_reducible refine r_append (xs := ?xx) ?hh ?ll ?_); (case hh => walk_at "hp"); (case ll => walk_at "side"))
  | (walk_at "isi")
  | (with_reducible refine r_for ?_)
  | (with_reducible refine r_iList ?_)
  | (with_reducible refine r_iTup ?_)
  | (with_reducible refine r_iR1 ?_)
  | (with_reducible refine r_iR2 ?_)
  | (with_reducible refine r_lc ?_)
  | (with_reducible refine r_yes ?_)
  | ((with_reducible refine r_lenS ?ll ?_); (case ll => walk_at "side"))
  | (with_reducible refine r_leS ?_)
  | (with_reducible refine r_chain ?_)
  | (with_reducible refine r_tM1 ?_)
  | (with_reducible refine r_exS ?_)
  | ((with_reducible refine r_tupL (xs := ?xx) ?hh ?_); (case hh => walk_at "hp"))
  | ((with_reducible refine r_listL (xs := ?xx) ?hh ?_); (case hh => walk_at "hp"))
  | ((with_reducible refine r_listT (xs := ?xx) ?hh ?_); (case hh => walk_at "hp"))
  | ((with_reducible refine r_ixT (v := ?vv) (xs := ?xx) ?hh ?ee ?_); (case hh => (refine SqT.of ?_; walk_at "hp")); (case ee => exact rfl))
  | (with_reducible refine r_sl ?_)
  | (with_reducible refine r_nopart ?_)
  | (with_reducible refine r_part ?_)
  | (with_reducible refine r_exI ?_)
  | ((with_reducible refine r_slL (xs := ?xx) ?hh ?_); (case hh => first | assumption | (refine SqL.of ?_; walk_at "hp") | (refine Same.seq (by assumption) (by assumption))))
  | ((with_reducible refine r_cat (xs := ?xx) (zs := ?zz) ?hh ?ii ?ll ?_); (case hh => walk_at "hp"); (case ii => walk_at "hp"); (case ll => walk_at "side"))
  | ((with_reducible refine r_lenL (xs := ?xx) ?hh ?_); (case hh => walk_at "hp"))
  | ((with_reducible refine r_lenT (xs := ?xx) ?hh ?_); (case hh => walk_at "hp"))
  | ((with_reducible refine r_gTup (xs := ?xx) ?hh ?ll ?_); (case hh => walk_at "hp"); (case ll => exact rfl))
  | (with_reducible refine r_gCons ?_)
  | (with_reducible refine r_gNil ?_)
  | ((with_reducible refine r_iteDT ?cc ?_); (case cc => walk_at "cond"))
  | ((with_reducible refine r_iteDF ?cc ?_); (case cc => walk_at "cond"))
  | ((with_reducible refine r_iteNDT ?cc ?_); (case cc => walk_at "cond"))
  | ((with_reducible refine r_iteNDF ?cc ?_); (case cc => walk_at "cond"))
  ))
local macro_rules | `(tactic| walk_at "go") => `(tactic| repeat (walk_at "s"))

local macro_rules | `(tactic| walk_at "s") => `(tactic| (first
  | (with_reducible refine r_dnew ?_)
  | (with_reducible refine r_dget2 ?_)
  | (with_reducible refine r_dget ?_)
  | (with_reducible refine r_dput ?_)
  | (with_reducible refine r_dsetd ?_)
  | ((with_reducible refine JarAt.isD (n := ?nn) (c := ?cc) ?hh ?_); (case hh => assumption))
  ))

local macro_rules | `(tactic| walk_at "s") => `(tactic| (first
  | (with_reducible refine r_prop ?_)
  | (with_reducible refine r_meth ?_)
  | (with_reducible refine r_make ?_)
  | (with_reducible refine r_fld ?_)
  | (with_reducible refine r_sfld ?_)
  | (with_reducible refine r_iOwn ?_)
  | ((with_reducible refine u_rowsAt (mg := ?mm) (C := ?CC) (dx := ?dd) (fv := ?vv) ?tt ?hh ?_); (case tt => assumption); (case hh => walk_at "hp"))
  | ((with_reducible refine r_isPoly (mg := ?mm) (dx := ?dd) (fs := ?ff) ?tt ?hh ?_); (case tt => assumption); (case hh => walk_at "hp"))
  | ((with_reducible refine r_isPolyI (mg := ?mm) ?tt ?_); (case tt => assumption))
  | ((with_reducible refine r_polyInt (mg := ?mm) (C := ?CC) (dx := ?dd) (fs := ?ff) ?tt ?hh ?_); (case tt => assumption); (case hh => walk_at "hp"))
  ))

local macro_rules | `(tactic| walk_at "s") => `(tactic| (first
  | (with_reducible refine r_makeD ?_)
  | (with_reducible refine r_notBl ?_)
  | (with_reducible refine r_makeN ?_)
  | (with_reducible refine r_cbk ?_)
  | ((with_reducible refine u_orows (mg := ?mm) (C := ?CC) (dx := ?dd) (r := ?rr) (b := ?bb) ?tt ?hh ?_); (case tt => assumption); (case hh => walk_at "hp"))
  | ((with_reducible refine u_oout (mg := ?mm) (C := ?CC) (dx := ?dd) (r := ?rr) (b := ?bb) ?tt ?hh ?_); (case tt => assumption); (case hh => walk_at "hp"))
  | ((with_reducible refine r_isOrd (mg := ?mm) (dx := ?dd) (fs := ?ff) ?tt ?hh ?_); (case tt => assumption); (case hh => walk_at "hp"))
  | ((with_reducible refine r_inT (us := ?uu) ?hh ?_); (case hh => walk_at "hp"))
  | ((with_reducible refine r_inL (us := ?uu) ?hh ?_); (case hh => walk_at "hp"))
  ))

theorem ok_is_integerO {f : Addr} {fd : FuncData} (F : Fun K "is_integer" "is_integer" s_is_integer f fd) (B : Bl mg) : FnOk P w K mg base CX0 1 f fd ["value"] (spIsIntT K) := by
  refine F.ok sc_is_integer (fun vs H Q E h => ?_) (fun cdv A outer s H vs Q E hr h => ?_)
  · obtain ⟨x, t, b1, b2, rfl, _⟩ := h
    rfl
  · obtain ⟨x, t, b1, b2, rfl, ty, k1, k2, k⟩ := h
    refine ⟨_, (pss_one (ps_ret (pe_and (pe_callB (call_isiEK (K := K)) (by rfl) B.b_isinstance (by decide +kernel) (pa_cons (pv 0) (pa_cons (pe_bltn (v := .ty "int") (by rfl) B.b_int (by decide +kernel) rfl) pa_nil))) (pe_one (pe_not (pe_callB (call_isiEK (K := K)) (by rfl) B.b_isinstance (by decide +kernel) (pa_cons (pv 0) (pa_cons (pe_bltn (v := .ty "bool") (by rfl) B.b_bool (by decide +kernel) rfl) pa_nil)))))))), ?_⟩
    walk_at "go"
    refine r_isiE (.ty _) ty k1 ?_
    walk_at "go"
    refine r_ite (fun hb => ?_) (fun hb => ?_)
    · subst hb
      walk_at "go"
      refine r_isiE (.ty _) ty k2 ?_
      walk_at "go"
      exact k
    · subst hb
      exact k
theorem ok_is_orderT {f : Addr} {fd : FuncData} (F : Fun K "is_order" "is_order" s_is_order f fd) (h_is_integerT : Has P w K mg base "is_integer" 1 ["value"] (spIsIntT K)) : FnOk P w K mg base CX0 2 f fd ["value"] (spIsOrderT K) := by
  refine F.ok sc_is_order (fun vs H Q E h => ?_) (fun cdv A outer s H vs Q E hr h => ?_)
  · obtain ⟨x, rfl, _⟩ := h
    rfl
  · obtain ⟨x, rfl, h⟩ := h
    have h_is_integer := h_is_integerT
    refine ⟨_, (pss_one (ps_ret (pe_and (pe_callH h_is_integer (hr.mono (by first | decide | omega)) (pa_cons (pv 0) pa_nil)) (pe_one (pe_cmpR op_ge (pv 0) pe_int (nomark _)))))), ?_⟩
    walk_at "go"
    rcases h with ⟨n, rfl, k⟩ | ⟨hn, k⟩
    · refine u_isIntV ?_
      walk_at "go"
      exact k
    · refine u_isIntN hn ?_
      walk_at "go"
      exact k
theorem ok_Orders___init__ {f : Addr} {fd : FuncData} (F : FunD K "__init__" "Orders.__init__" (defArgs s_Orders___init__) (defBody s_Orders___init__) (defScope s_Orders___init__) [.bl false] [] f fd) (B : Bl mg) (bSet : mg "set" = none) (bS : mg "sorted" = none) (G_Orders : OrdT K mg C_Orders) (h_is_order : Has P w K mg base "is_order" 2 ["value"] (spIsOrderT K)) :
   FnOk P w K mg base CX0 4 f fd ["self", "listed", "others"] (spOInit C_Orders) := by
  refine okD F sc_Orders___init__ (fun vs H Q E h => ?_) (fun cdv A outer s H vs Q E hr h => ?_)
  · obtain ⟨x, dx, l, ns, b, rfl, _⟩ := h
    rfl
  · obtain ⟨x, dx, l, ns, b, rfl, hx, hl, hpos, hn, k⟩ := h
    refine ⟨_, (pss_cons (ps_if (PW.pt (pw_or (pt_not (pt_val (pe_callB (call_isiKK (K := K)) (by rfl) B.b_isinstance (by decide +kernel) (pa_cons (pv 1) (pa_cons (pe_bltn (v := .ty "list") (by rfl) B.b_list (by decide +kernel) rfl) pa_nil))))) (pw_or1 (pt_not (pt_val (pe_callB (call_allK (K := K)) (by rfl) B.b_all (by decide +kernel) (pa_cons (pe_lc (own := [("value", 3)]) rfl sc_Orders___init__.nd (pi_list (pv 1)) (blkOk_by (N := ["self", "listed", "others", "value"]) (sc := defScope s_Orders___init__) (by decide +kernel)) (fun _ _ _ _ _ => (pg_name (i := 3) sc_Orders___init__.nd rfl (.inl rfl))) (fun _ _ _ _ _ => pts_nil) (fun _ _ _ _ _ => (pe_callH h_is_order (hr.mono (by first | decide | omega)) (pa_cons (pv 3) pa_nil)))) pa_nil)))))))
    (pss_one ps_never)
    pss_nil)
    (pss_cons (ps_if (pt_not (pt_val (pe_callB (call_isiKK (K := K)) (by rfl) B.b_isinstance (by decide +kernel) (pa_cons (pv 2) (pa_cons (pe_bltn (v := .ty "bool") (by rfl) B.b_bool (by decide +kernel) rfl) pa_nil)))))
    (pss_one ps_never)
    pss_nil)
    (pss_cons (ps_fld (pv 0) (pe_callTy call_tupL (by rfl) B.b_tuple (by decide +kernel) (pa_cons (pe_callB (call_sortSet (by rfl)) (by rfl) bS (by decide +kernel) (pa_cons (pe_callTy (call_setOfI (by rfl)) (by rfl) bSet (by decide +kernel) (pa_cons (pv 1) pa_nil)) pa_nil)) pa_nil)) rfl)
    (pss_one (ps_fld (pv 0) (pv 2) rfl))))), ?_⟩
    walk_at "go"
    refine u_lcL (.of hl) (fun D i acc H' => (acc = (List.replicate i true).map V.bl ∧ i ≤ ns.length) ∧ Same H H') ?_ ?_ ?_ ?_
    · exact fun D hD => ⟨⟨rfl, by omega⟩, Same.new0 hD⟩
    · exact fun D i acc H' _ _ ⟨_, s1⟩ => .of (s1 _ _ hl)
    · rintro D i v acc H' hD hv hacc ⟨⟨ea, _⟩, sm⟩
      rw [List.getElem?_map] at hv
      cases hy : ns[i]? with
      | none => rw [hy] at hv; cases hv
      | some n =>
        rw [hy] at hv
        cases hv
        have hi2 := (List.getElem?_eq_some_iff.mp hy).1
        have n1 := hpos n (List.mem_of_getElem? hy)
        walk_at "go"
        refine ⟨rfl, ?_⟩
        walk_at "go"
        refine ⟨_, rfl, .inl ⟨n, rfl, ?_⟩⟩
        rw [decide_eq_true n1]
        have al : acc.length = i := by rw [ea]; simp
        refine u_push hacc (by omega) ⟨⟨?_, by omega⟩, Same.put sm hD⟩
        rw [ea, List.replicate_succ', List.map_append]
        rfl
    · rintro D acc H' hD hacc ⟨⟨ea, _⟩, sm⟩
      rw [ea] at hacc
      walk_at "go"
      refine r_all (SqL.of hacc) ?_
      rw [show ((List.replicate (ns.map V.int).length true).all id) = true by simp]
      walk_at "go"
      refine r_setI (w := w) (sm _ _ hl) hn fun p c np hc => ?_
      walk_at "go"
      refine ⟨p, _, c, rfl, upd_same, fun us q asc mem len nq => ?_⟩
      walk_at "go"
      intro r nr
      have s2 : Same H (upd (upd (upd H' p (SetO w p (fun j => decide (j ∈ ns)) c)) q (.lst (us.map V.int))) r (.tup (us.map V.int))) := Same.new (Same.new (Same.new sm np) nq) nr
      generalize hX : upd (upd (upd H' p (SetO w p (fun j => decide (j ∈ ns)) c)) q (.lst (us.map V.int))) r (.tup (us.map V.int)) = H2 at *
      have hr2 : H2 r = some (.tup (us.map V.int)) := by rw [← hX]; exact upd_same
      clear hX
      have hx2 : H2 x = some (.ins C_Orders dx []) := s2 _ _ hx
      have nrx : r ≠ x := ne_of hr2 hx2 (by intro z; cases z)
      have mm : ∀ k, k ∈ us ↔ k ∈ ns := fun k => by rw [mem k, decide_eq_true_eq]
      walk_at "go"
      refine ⟨x, C_Orders, dx, _, rfl, hx2, G_Orders.cl, G_Orders.nR, by show 0 < 1000; decide, ?_⟩
      walk_at "go"
      refine ⟨x, C_Orders, dx, _, rfl, upd_same, G_Orders.cl, G_Orders.nO, by show 1 < 1000; decide, ?_⟩
      walk_at "go"
      refine k us _ (But.self (But.self (Same.but s2 x))) ⟨dx, r, by rw [rows_put, out_put]; exact upd_same, (upd_ne nrx).trans ((upd_ne nrx).trans hr2), asc, fun n hn' => hpos n ((mm n).mp hn'), by omega⟩ mm (by omega)
theorem ok_Orders_listed {f : Addr} {fd : FuncData} (F : Fun K "listed" "Orders.listed" s_Orders_listed f fd) (B : Bl mg) (G_Orders : OrdT K mg C_Orders) : FnOk P w K mg base CX0 1 f fd ["self"] (spGetListed C_Orders) := by
  refine F.ok sc_Orders_listed (fun vs H Q E h => ?_) (fun cdv A outer s H vs Q E hr h => ?_)
  · obtain ⟨a, us, b, rfl, _⟩ := h
    rfl
  · obtain ⟨a, us, b, rfl, ⟨dx, r, g1, g2, _⟩, k⟩ := h
    refine ⟨_, (pss_one (ps_ret (pe_callTy call_listT (by rfl) B.b_list (by decide +kernel) (pa_cons (pe_fldK (K := K) (pv 0)) pa_nil)))), ?_⟩
    walk_at "go"
    intro l nl
    exact k l _ nl (Same.new0 nl) upd_same
theorem ok_Orders_others {f : Addr} {fd : FuncData} (F : Fun K "others" "Orders.others" s_Orders_others f fd) (G_Orders : OrdT K mg C_Orders) : FnOk P w K mg base CX0 1 f fd ["self"] (spGetOthers C_Orders) := by
  refine F.ok sc_Orders_others (fun vs H Q E h => ?_) (fun cdv A outer s H vs Q E hr h => ?_)
  · obtain ⟨a, us, b, rfl, _⟩ := h
    rfl
  · obtain ⟨a, us, b, rfl, ⟨dx, r, g1, g2, _⟩, k⟩ := h
    refine ⟨_, (pss_one (ps_ret (pe_fldK (K := K) (pv 0)))), ?_⟩
    walk_at "go"
    exact k
theorem ok_Orders_least {f : Addr} {fd : FuncData} (F : Fun K "least" "Orders.least" s_Orders_least f fd) (B : Bl mg) (G_Orders : OrdT K mg C_Orders) : FnOk P w K mg base CX0 1 f fd ["self"] (spGetLeast C_Orders) := by
  refine F.ok sc_Orders_least (fun vs H Q E h => ?_) (fun cdv A outer s H vs Q E hr h => ?_)
  · obtain ⟨a, us, b, rfl, _⟩ := h
    rfl
  · obtain ⟨a, us, b, rfl, ⟨dx, r, g1, g2, _⟩, k⟩ := h
    refine ⟨_, (pss_cons (ps_if (pt_not (pt_val (pe_fldK (K := K) (pv 0))))
    (pss_one (ps_ret (pe_ifExp (pt_cmpR op_gt (pe_callB (call_lenK (K := K)) (by rfl) B.b_len PySem.boot_len (pa_cons (pe_fldK (K := K) (pv 0)) pa_nil)) pe_int (nomark _)) (pe_ix (ix_tupK (K := K)) (pe_fldK (K := K) (pv 0)) pe_int (fun _ _ => rfl)) pe_non)))
    pss_nil)
    (pss_cons (ps_set (i := 1) sc_Orders_least.nd rfl (.inl rfl) pe_int)
    (pss_cons (ps_for PassesOwn.never rfl (pi_tup (pe_fldK (K := K) (pv 0))) (pg_name (i := 2) sc_Orders_least.nd rfl (.inl rfl))
    (pss_one (ps_if (pt_cmpR op_eq (pv 2) (pv 1) (nomark _))
    (pss_one (ps_aug (i := 1) sc_Orders_least.nd rfl (.inl rfl) pe_int ip_add))
    pss_nil)))
    (pss_one (ps_ret (pv 1)))))), ?_⟩
    walk_at "go"
    refine r_ite (fun hb => ?_) (fun hb => ?_)
    · obtain rfl : b = false := by simpa using hb
      walk_at "go"
      cases us with
      | nil =>
        walk_at "go"
        exact k
      | cons y ys =>
        walk_at "go"
        refine r_iteD (fun h0 => ?_) (fun h0 => absurd (by simp only [List.map_cons, List.length_cons]; omega) h0)
        walk_at "go"
        exact r_ixT (v := .int y) (.of g2) (by simp [atI, ixN]) k
    · obtain rfl : b = true := by simpa using hb
      walk_at "go"
      refine u_forT (.of g2) (fun i σ H' => ∃ y, σ = [some (.ref a), some (.int (mexF 1 (us.take i))), y] ∧ H' = H ∧ i ≤ us.length) ?_ ?_ ?_ ?_
      · exact ⟨none, rfl, rfl, Nat.zero_le _⟩
      · rintro i σ H' _ ⟨y, rfl, rfl, _⟩
        exact .of g2
      · rintro i x σ H' hx ⟨y, rfl, rfl, _⟩
        obtain ⟨n, hn, rfl, hi⟩ := map_at hx
        walk_at "go"
        refine r_iteD (fun h0 => ?_) (fun h0 => ?_)
        · walk_at "go"
          refine ⟨some (.int n), ?_, rfl, hi⟩
          rw [mex_take hn, if_pos h0]
          rfl
        · refine ⟨some (.int n), ?_, rfl, hi⟩
          rw [mex_take hn, if_neg h0]
          rfl
      · rintro σ H' ⟨y, rfl, rfl, _⟩
        rw [List.length_map, List.take_length]
        walk_at "go"
        exact k
theorem ok_Orders___len__ {f : Addr} {fd : FuncData} (F : Fun K "__len__" "Orders.__len__" s_Orders___len__ f fd) (B : Bl mg) (G_Orders : OrdT K mg C_Orders) : FnOk P w K mg base CX0 1 f fd ["self"] (spOLen C_Orders) := by
  refine F.ok sc_Orders___len__ (fun vs H Q E h => ?_) (fun cdv A outer s H vs Q E hr h => ?_)
  · obtain ⟨a, us, b, rfl, _⟩ := h
    rfl
  · obtain ⟨a, us, b, rfl, ⟨dx, r, g1, g2, _⟩, k⟩ := h
    refine ⟨_, (pss_one (ps_ret (pe_callB (call_lenK (K := K)) (by rfl) B.b_len PySem.boot_len (pa_cons (pe_fldK (K := K) (pv 0)) pa_nil)))), ?_⟩
    walk_at "go"
    rw [List.length_map]
    exact k
theorem ok_Orders___iter__ {f : Addr} {fd : FuncData} (F : Fun K "__iter__" "Orders.__iter__" s_Orders___iter__ f fd) (bI : mg "iter" = none) (G_Orders : OrdT K mg C_Orders) : FnS P w K mg base 1 f fd ["self"] (spIter K C_Orders "rows") := by
  refine fnS_of F sc_Orders___iter__ (fun s vs H Q E h => ?_) (fun cdv A outer s H vs Q E hr h => ?_)
  · obtain ⟨a, dx, fs, b, ys, rfl, _⟩ := h
    rfl
  · obtain ⟨a, dx, fs, b, ys, rfl, ha, hf, hy, k⟩ := h
    refine ⟨_, (pss_one (ps_ret (pe_callB call_iterS (by rfl) bI (by decide +kernel) (pa_cons (pe_fldK (K := K) (pv 0)) pa_nil)))), ?_⟩
    walk_at "go"
    refine ⟨a, C_Orders, dx, fs, _, rfl, ha, G_Orders.cl, G_Orders.nR, hf, ?_⟩
    walk_at "go"
    exact ⟨b, ys, rfl, hy, fun p np sz => k p np sz⟩
theorem ok_Orders___contains__ {f : Addr} {fd : FuncData} (F : Fun K "__contains__" "Orders.__contains__" s_Orders___contains__ f fd) (G_Orders : OrdT K mg C_Orders) (h_is_order : Has P w K mg base "is_order" 2 ["value"] (spIsOrderT K)) : FnOk P w K mg base CX0 3 f fd ["self", "value"] (spContains K C_Orders) := by
  refine F.ok sc_Orders___contains__ (fun vs H Q E h => ?_) (fun cdv A outer s H vs Q E hr h => ?_)
  · obtain ⟨a, us, b, x, rfl, _⟩ := h
    rfl
  · obtain ⟨a, us, b, x, rfl, ⟨dx, r, g1, g2, _⟩, k⟩ := h
    refine ⟨_, (pss_one (ps_ret (pe_and (pe_callH h_is_order (hr.mono (by first | decide | omega)) (pa_cons (pv 1) pa_nil)) (pe_one (pe_cmpR op_ne (pe_cmpR (op_in_seqK (K := K)) (pv 1) (pe_fldK (K := K) (pv 0)) (by rfl)) (pe_fldK (K := K) (pv 0)) (nomark _)))))), ?_⟩
    walk_at "go"
    rcases k with ⟨n, rfl, k⟩ | ⟨hn, k⟩
    · refine ⟨_, rfl, .inl ⟨n, rfl, ?_⟩⟩
      walk_at "go"
      refine r_iteD (fun h1 => ?_) (fun h1 => ?_)
      · rw [decide_eq_true h1, Bool.true_and] at k
        walk_at "go"
        rw [show ((!decide (decide (n ∈ us) = b)) = (decide (n ∈ us) != b)) from by cases decide (n ∈ us) <;> cases b <;> rfl]
        exact k
      · rw [decide_eq_false h1, Bool.false_and] at k
        exact k
    · refine ⟨_, rfl, .inr ⟨hn, ?_⟩⟩
      walk_at "go"
      exact k
theorem ok_Orders___bool__ {f : Addr} {fd : FuncData} (F : Fun K "__bool__" "Orders.__bool__" s_Orders___bool__ f fd) (B : Bl mg) (G_Orders : OrdT K mg C_Orders) : FnOk P w K mg base CX0 1 f fd ["self"] (spOBool C_Orders) := by
  refine F.ok sc_Orders___bool__ (fun vs H Q E h => ?_) (fun cdv A outer s H vs Q E hr h => ?_)
  · obtain ⟨a, us, b, rfl, _⟩ := h
    rfl
  · obtain ⟨a, us, b, rfl, ⟨dx, r, g1, g2, _⟩, k⟩ := h
    refine ⟨_, (pss_one (ps_ret (pe_or (pe_callTy call_bool1 (by rfl) B.b_bool (by decide +kernel) (pa_cons (pe_fldK (K := K) (pv 0)) pa_nil)) (pe_one (pe_cmpR op_gt (pe_callB (call_lenK (K := K)) (by rfl) B.b_len PySem.boot_len (pa_cons (pe_fldK (K := K) (pv 0)) pa_nil)) pe_int (nomark _)))))), ?_⟩
    walk_at "go"
    refine .inr ⟨b, rfl, ?_⟩
    walk_at "go"
    refine r_ite (fun hb => ?_) (fun hb => ?_)
    · subst hb
      exact k
    · subst hb
      walk_at "go"
      rw [show decide ((0 : Int) < ((us.map V.int).length : Nat)) = (false || !us.isEmpty) from by cases us <;> simp <;> omega]
      exact k
theorem ok_Orders___eq__ {f : Addr} {fd : FuncData} (F : Fun K "__eq__" "Orders.__eq__" s_Orders___eq__ f fd) (B : Bl mg) (G_Orders : OrdT K mg C_Orders) : FnOk P w K mg base CX0 1 f fd ["self", "other"] (spOEq K C_Orders) := by
  refine F.ok sc_Orders___eq__ (fun vs H Q E h => ?_) (fun cdv A outer s H vs Q E hr h => ?_)
  · obtain ⟨a, us, b, x, rfl, _⟩ := h
    rfl
  · obtain ⟨a, us, b, x, rfl, ⟨dx, r, g1, g2, _⟩, k⟩ := h
    refine ⟨_, (pss_one (ps_ret (pe_and (pe_callB (call_isiEK (K := K)) (by rfl) B.b_isinstance (by decide +kernel) (pa_cons (pv 1) (pa_cons (pe_glob (v := .ref C_Orders) rfl G_Orders.mgC rfl) pa_nil))) (pe_and (pe_cmpR (op_eqDK (K := K) hr.units) (pe_fldK (K := K) (pv 0)) (pe_fldK (K := K) (pv 1)) (nomark _)) (pe_one (pe_cmpR op_eq (pe_fldK (K := K) (pv 0)) (pe_fldK (K := K) (pv 1)) (nomark _))))))), ?_⟩
    walk_at "go"
    rcases k with ⟨a2, us2, b2, rfl, ⟨dx2, r2, q1, q2, _⟩, k⟩ | ⟨t, ty, kn, k⟩
    · refine r_isiE (.own C_Orders) (.x (ty_ord G_Orders q1)) kit_self ?_
      walk_at "go"
      refine r_eqIT g2 q2 ?_
      walk_at "go"
      refine r_iteD (fun h0 => ?_) (fun h0 => ?_)
      · walk_at "go"
        rw [decide_eq_true h0, Bool.true_and] at k
        exact k
      · rw [decide_eq_false h0, Bool.false_and] at k
        exact k
    · refine r_isiE (.own C_Orders) ty kn ?_
      walk_at "go"
      exact k
end
end My

set_option Elab.async false
set_option linter.all false
set_option maxRecDepth 100000
namespace My
open PySem PySem.Spec PyProof.Rows L2
/-! ### for k in d: the dict is locked meanwhile -/
section
variable {σ : L2.St} {H : Hp} {Q : VK} {K : PySem.W.Frag} {td te : TE} {D : Ends} {t tb : TS} {g : TG} {R : It → Hp → Prop}
theorem r_iKeys (q : td σ H fun x H1 => ∃ d o, x = .ref d ∧ ((∃ kvs, H1 d = some (.frz o (.dK kvs)) ∧ R (Itk d o kvs) H1) ∨ ∃ kvs, H1 d = some (.frz o (.dT kvs)) ∧ R (Itkt d o kvs) H1)) : iKeys td σ H R := q
theorem u_keys {d : Addr} {od : Obj} {kvs : List (Key × V)} (I : Nat → L2.St → Hp → Prop) (h0 : I 0 σ H) (hl : ∀ i σ H, I i σ H → H d = some (.frz od (.dK kvs)))
    (hs : ∀ i k v σ H, kvs[i]? = some (k, v) → I i σ H → g (kV k) σ H fun σ2 H2 => tb { D with nx := I (i + 1), ct := I (i + 1), bk := D.nx } σ2 H2) (hd : ∀ σ H, I kvs.length σ H → D.nx σ H) :
    ∃ W : Nat → Nat → L2.St → Hp → Prop, (∃ m, W 0 m σ H) ∧ ∀ i m σ H, W i m σ H →
      ((Itk d od kvs).stop i H ∧ D.nx σ H) ∨ ((Itk d od kvs).go i H ∧ ∃ N : L2.St → Hp → Prop, (∀ σ' H', N σ' H' → ∃ m', m' < m ∧ W (i + 1) m' σ' H') ∧ ∀ x H', (Itk d od kvs).yld i H x H' → g x σ H' fun σ2 H2 => tb { D with nx := N, ct := N, bk := D.nx } σ2 H2) := by
  refine ⟨fun i m σ' H' => m = kvs.length - i ∧ i ≤ kvs.length ∧ I i σ' H', ⟨kvs.length, rfl, Nat.zero_le _, h0⟩, ?_⟩
  rintro i m σ' H' ⟨rfl, hi, ir⟩
  by_cases hlt : i < kvs.length
  · refine .inr ⟨⟨hl _ _ _ ir, hlt⟩, I (i + 1), fun σ2 H2 q => ⟨_, by omega, rfl, hlt, q⟩, fun x H2 hy => ?_⟩
    obtain ⟨rfl, k, v, e, rfl⟩ := hy
    exact hs i k v _ _ e ir
  · have e : i = kvs.length := by omega
    subst e
    exact .inl ⟨⟨hl _ _ _ ir, Nat.le_refl _⟩, hd _ _ ir⟩
end
/-- the jar at a, locked by a walk -/
def JarFz (H : Hp) (a : Addr) (od : Obj) (kvs : List (Key × V)) : Prop := H a = some (.frz od (.dK kvs))
theorem JarFz.dget {H : Hp} {a : Addr} {od : Obj} {kvs : List (Key × V)} {k : Int} (h : H a = some (.frz od (.dK kvs))) (hk : JarK kvs) (m : Sum.inl k ∈ kvs.map (·.1)) : DGet H a (.int k) (some (.int (cfK kvs k))) :=
  .inl ⟨kvs, .inl k, .inr ⟨od, h⟩, rfl, (hk.some m).symm⟩
def rDictC : List V → Hp → VK → Prop := fun xs H Q => ∃ (a : Addr) (kvs : List (Key × V)), xs = [.ref a] ∧ Rd H a (.dK kvs) ∧ ∀ p, H p = none → Q (.ref p) (upd H p (.dK kvs))
theorem call_dictC {X : Cx} : CallR X (.type "dict") rDictC := call_dictD
theorem r_dictC {H : Hp} {Q : VK} {a : Addr} {n : Nat} {c : Int → Int} (h : JarAt H a n c) (q : ∀ p H', H p = none → Same H H' → JarAt H' p n c → Q (.ref p) H') : rDictC [.ref a] H Q := by
  obtain ⟨kvs, e, hk, hl, hc⟩ := h
  exact ⟨a, kvs, rfl, .inl e, fun p np => q p _ np (Same.new0 np) ⟨kvs, upd_same, hk, hl, hc⟩⟩
/-! ### promises of the law's defs -/
def BN : Int := 10 ^ 38
def spSomeInt : Sp := fun vs H Q _ => ∃ a, vs = [.ref a] ∧ Bag H a ∧ ∀ (r : Int) H', -BN ≤ r → r ≤ BN → But a H H' → Bag H' a → Q (.int r) H'
def spPairs : Sp := fun vs H Q _ => ∃ (a : Addr) (m f : Int), vs = [.ref a, .int m, .int f] ∧ Bag H a ∧ 0 ≤ m ∧ m ≤ 1000 ∧ 0 ≤ f ∧ f ≤ 1000 ∧
  ∀ l ts H', H l = none → But a H H' → Bag H' a → TermsAt H' l ts → (ts.length : Int) ≤ m → (∀ p ∈ ts, (-f - 2 ≤ p.1 ∧ p.1 ≤ f + 4) ∧ -BN ≤ p.2 ∧ p.2 ≤ BN) → Q (.ref l) H'
def spJarOf : Sp := fun vs H Q _ => ∃ (l : Addr) (ts : Terms), vs = [.ref l] ∧ TermsAt H l ts ∧ ts.length ≤ 90000 ∧ ∀ d H', H d = none → Same H H' → JarAt H' d ts.length (cof ts) → Q (.ref d) H'
def spIsPoly (C : Addr) : Sp := fun vs H Q _ => ∃ a ts d n c, vs = [.ref a, .ref d] ∧ PolyAt C H a ts ∧ JarAt H d n c ∧ (∀ k, cof ts k = c k) ∧ n ≤ 90000 ∧ ts.length ≤ 90000 ∧ ∀ H', Same H H' → Q (.bl true) H'
def spPlus : Sp := fun vs H Q _ => ∃ (a b : Addr) (n m : Nat) (c e : Int → Int) (s : Int), vs = [.ref a, .ref b, .int s] ∧ (s = 1 ∨ s = -1) ∧ JarAt H a n c ∧ JarAt H b m e ∧ n + m ≤ 90000 ∧
  ∀ d H', H d = none → Same H H' → JarAt H' d (n + m) (fun k => c k + s * e k) → Q (.ref d) H'
def spNear : Sp := fun vs H Q _ => ∃ (a d : Addr) (n : Nat) (c : Int → Int), vs = [.ref a, .ref d] ∧ Bag H a ∧ JarAt H d n c ∧ n ≤ 80000 ∧ ∀ b m e H', H b = none → But a H H' → Bag H' a → JarAt H' b m e → m ≤ n + 2 → Q (.ref b) H'
def spMade (C : Addr) : Sp := fun vs H Q _ => ∃ (a d : Addr) (n : Nat) (c : Int → Int), vs = [.ref a, .ref d] ∧ Bag H a ∧ JarAt H d n c ∧ n ≤ 80000 ∧ ∀ b ts H', But a H H' → Bag H' a → PolyAt C H' b ts → (∀ k, cof ts k = c k) → ts.length ≤ n + 2 → Q (.ref b) H'
theorem atI_nil_of {xs : List V} {n : Int} {i : Nat} {x : V} (h0 : n = (i : Int)) (h : xs[i]? = some x) : atI xs n = some x := by
  subst h0
  obtain ⟨hi, _⟩ := List.getElem?_eq_some_iff.mp h
  unfold atI ixN
  rw [if_pos (by omega), if_pos (by omega)]
  exact h
end My

set_option Elab.async false
set_option linter.all false
set_option maxRecDepth 100000
namespace My
open PySem PySem.Spec PyProof.Rows L2
theorem TermsL.take {H : Hp} : ∀ {vs : List V} {ts : Terms} (n : Nat), TermsL H vs ts → TermsL H (vs.take n) (ts.take n)
  | [], ts, n, h => by rw [show ts = [] from h]; simp; rfl
  | _ :: _, _, 0, _ => by simp; rfl
  | v :: vs, _, n + 1, ⟨b, p, us, e1, e2, e3, e4⟩ => by
    rw [e1, List.take_succ_cons, List.take_succ_cons]
    exact ⟨b, p, us.take n, rfl, e2, e3, e4.take n⟩
theorem TermsL.drop {H : Hp} : ∀ {vs : List V} {ts : Terms} (n : Nat), TermsL H vs ts → TermsL H (vs.drop n) (ts.drop n)
  | [], ts, n, h => by rw [show ts = [] from h]; simp; rfl
  | _ :: _, _, 0, h => h
  | v :: vs, _, n + 1, ⟨b, p, us, e1, e2, e3, e4⟩ => by
    rw [e1, List.drop_succ_cons, List.drop_succ_cons]
    exact e4.drop n
theorem TermsL.reverse {H : Hp} : ∀ {vs : List V} {ts : Terms}, TermsL H vs ts → TermsL H vs.reverse ts.reverse
  | [], ts, h => by rw [show ts = [] from h]; rfl
  | v :: vs, _, ⟨b, p, us, e1, e2, e3, e4⟩ => by
    rw [e1, List.reverse_cons, List.reverse_cons, e2]
    exact e4.reverse.app (.one e3)
theorem TermsL.some_of {H : Hp} : ∀ {ws : List V}, (∀ x ∈ ws, ∃ (b : Addr) (p : Int × Int), x = .ref b ∧ H b = some (.tup [.int p.1, .int p.2])) → ∃ us, TermsL H ws us
  | [], _ => ⟨[], rfl⟩
  | w :: ws, h => by
    obtain ⟨b, p, e, hb⟩ := h w List.mem_cons_self
    obtain ⟨us, hu⟩ := TermsL.some_of (ws := ws) fun x hx => h x (List.mem_cons_of_mem _ hx)
    exact ⟨p :: us, b, p, us, rfl, e, hb, hu⟩
theorem TermsL.mem {H : Hp} {vs : List V} {ts : Terms} (h : TermsL H vs ts) : ∀ x ∈ vs, ∃ (b : Addr) (p : Int × Int), x = .ref b ∧ H b = some (.tup [.int p.1, .int p.2]) := by
  intro x hx
  obtain ⟨i, hi⟩ := List.getElem?_of_mem hx
  obtain ⟨b, p, e1, e2, e3⟩ := h.at i hi
  exact ⟨b, p, e1, e3⟩
theorem cut_drop (xs : List V) (n : Nat) : cutV xs (some (n : Int)) none = xs.drop n := by
  unfold cutV
  rw [HT.sIx_none, HT.sIx_nat]
  by_cases h : n ≤ xs.length
  · rw [Nat.min_eq_left h, List.take_of_length_le (by rw [List.length_drop]; omega)]
  · rw [Nat.min_eq_right (by omega), List.drop_eq_nil_of_le (Nat.le_refl _), List.take_nil, List.drop_eq_nil_of_le (by omega)]
theorem cof_rev : ∀ (ts : Terms) (k : Int), cof ts.reverse k = cof ts k
  | [], k => rfl
  | p :: ts, k => by
    rw [List.reverse_cons, cof_app, cof_rev ts k, cof, cof, cof]; omega
theorem cof_cut (ts : Terms) (n : Nat) (k : Int) : cof (ts.take n) k + cof (ts.drop n) k = cof ts k := by
  rw [← cof_app, List.take_append_drop]
theorem cut_takeI {xs : List V} {m : Int} (h : 0 ≤ m) : cutV xs none (some m) = xs.take m.toNat := by
  have := cut_take xs m.toNat
  rw [Int.toNat_of_nonneg h] at this
  exact this
theorem cut_dropI {xs : List V} {m : Int} (h : 0 ≤ m) : cutV xs (some m) none = xs.drop m.toNat := by
  have := cut_drop xs m.toNat
  rw [Int.toNat_of_nonneg h] at this
  exact this
/-- a jar of one entry, written -/
theorem jar_one {H : Hp} {p : Addr} {k n : Int} : JarAt (upd H p (.dK (mergeK [] [(.inl k, .int n)]))) p 1 (fun j => if j = k then n else 0) := by
  refine ⟨_, upd_same, (JarK.nil).put k n, Nat.le_refl 1, fun j => ?_⟩
  show cfK (putK [] (.inl k) (.int n)) j = _
  rw [cfK_put]; rfl
end My

set_option Elab.async false
set_option linter.all false
set_option maxRecDepth 100000
namespace My
open PySem PySem.Spec PyProof.Rows L2
theorem JarAt.nb {H : Hp} {a b : Addr} {n : Nat} {c : Int → Int} (h : JarAt H a n c) (hb : Bag H b) : a ≠ b := by
  rintro rfl
  obtain ⟨_, e, _⟩ := h
  obtain ⟨_, _, _, e', _⟩ := hb
  rw [e] at e'
  cases e'
theorem JarAt.bag {H H' : Hp} {a b : Addr} {n : Nat} {c : Int → Int} (h : JarAt H a n c) (s : But b H H') (hb : Bag H b) : JarAt H' a n c := h.but (h.nb hb) s
theorem PolyAt.bag {C : Addr} {H H' : Hp} {a b : Addr} {ts : Terms} (h : PolyAt C H a ts) (s : But b H H') (hb : Bag H b) : PolyAt C H' a ts := h.stay (.bag s hb)
/-- a pair of what was found and the jar that is due -/
def DueAt (C : Addr) (H : Hp) (x : V) : Prop := ∃ (t b d : Addr) (ts : Terms) (n : Nat) (c : Int → Int), x = .ref t ∧ H t = some (.tup [.ref b, .ref d]) ∧ PolyAt C H b ts ∧ JarAt H d n c ∧ (∀ k, cof ts k = c k) ∧ n ≤ 90000 ∧ ts.length ≤ 90000
theorem DueAt.same {C : Addr} {H H' : Hp} {x : V} (h : DueAt C H x) (s : Same H H') : DueAt C H' x := by
  obtain ⟨t, b, d, ts, n, c, e, h1, h2, h3, h4⟩ := h
  exact ⟨t, b, d, ts, n, c, e, s _ _ h1, h2.same s, h3.same s, h4⟩
def DuesL (C : Addr) (H : Hp) (a : Addr) (m : Nat) : Prop := ∃ xs, H a = some (.lst xs) ∧ xs.length = m ∧ ∀ x ∈ xs, DueAt C H x
theorem DuesL.same {C : Addr} {H H' : Hp} {a : Addr} {m : Nat} (h : DuesL C H a m) (s : Same H H') : DuesL C H' a m := by
  obtain ⟨xs, e, h1, h2⟩ := h
  exact ⟨xs, s _ _ e, h1, fun x hx => (h2 x hx).same s⟩
/-- a new pair -/
theorem due_new {C : Addr} {H : Hp} {t b d : Addr} {ts : Terms} {n : Nat} {c : Int → Int} (nt : H t = none) (h : PolyAt C H b ts) (hj : JarAt H d n c) (e : ∀ k, cof ts k = c k) (hn : n ≤ 90000) (hl : ts.length ≤ 90000) : DueAt C (upd H t (.tup [.ref b, .ref d])) (.ref t) :=
  ⟨t, b, d, ts, n, c, rfl, upd_same, h.same (Same.new0 nt), hj.keep nt, e, hn, hl⟩
theorem u_own2 {C : Addr} {H : Hp} {Q : VK} {f : (Int → Int) → (Int → Int) → Int → Int} {a b : Addr} {ts us : Terms} (ha : PolyAt C H a ts) (hb : PolyAt C H b us) (hn : ts.length + us.length ≤ 90000)
    (q : ∀ p ws H', Same H H' → PolyAt C H' p ws → (∀ k, cof ws k = f (cof ts) (cof us) k) → ws.length ≤ ts.length + us.length → Q (.ref p) H') : rOwn2 C (spPoly2 C f) (.ref a) (.ref b) H Q := by
  obtain ⟨dx, r, vs, g1, _⟩ := id ha
  obtain ⟨dy, r', vs', g2, _⟩ := id hb
  exact ⟨a, dx, _, b, dy, _, rfl, rfl, g1, g2, a, ts, .ref b, cof us, us.length, rfl, ha, .inl ⟨b, us, rfl, hb, fun _ => rfl, Nat.le_refl _⟩, hn, q⟩
def one0 (i : Int) : Int → Int := fun k => if k = 0 then i else 0
theorem u_ownI {C : Addr} {H : Hp} {Q : VK} {f : (Int → Int) → (Int → Int) → Int → Int} {a : Addr} {i : Int} {ts : Terms} (ha : PolyAt C H a ts) (hn : ts.length + 1 ≤ 90000)
    (q : ∀ p ws H', Same H H' → PolyAt C H' p ws → (∀ k, cof ws k = f (cof ts) (one0 i) k) → ws.length ≤ ts.length + 1 → Q (.ref p) H') : rOwnI C (spPoly2 C f) (.ref a) (.int i) H Q := by
  obtain ⟨dx, r, vs, g1, _⟩ := id ha
  exact ⟨a, dx, _, i, rfl, rfl, g1, a, ts, .int i, one0 i, 1, rfl, ha, .inr ⟨i, rfl, fun _ => rfl, Nat.le_refl _⟩, hn, q⟩
theorem u_ownR {C : Addr} {H : Hp} {Q : VK} {f : (Int → Int) → (Int → Int) → Int → Int} {a : Addr} {i : Int} {ts : Terms} (ha : PolyAt C H a ts) (hn : ts.length + 1 ≤ 90000)
    (q : ∀ p ws H', Same H H' → PolyAt C H' p ws → (∀ k, cof ws k = f (cof ts) (one0 i) k) → ws.length ≤ ts.length + 1 → Q (.ref p) H') : rOwnR C (spPoly2 C f) (.int i) (.ref a) H Q := by
  obtain ⟨dx, r, vs, g1, _⟩ := id ha
  exact ⟨a, dx, _, i, rfl, rfl, g1, a, ts, .int i, one0 i, 1, rfl, ha, .inr ⟨i, rfl, fun _ => rfl, Nat.le_refl _⟩, hn, q⟩
/-- equal polynomials are told equal -/
theorem u_eqSame {K : PySem.W.Frag} {mg : Str → Option Value} {C : Addr} {H : Hp} {Q : VK} {a b : Addr} {ts us : Terms} (T : PolyT K mg C) (ha : PolyAt C H a ts) (hb : PolyAt C H b us) (e : ∀ k, cof ts k = cof us k) (q : Q (.bl true) H) : rOwnEq K C (spPEq K C) (.ref a) (.ref b) H Q := by
  obtain ⟨dx, r, vs, g1, g2, g3, g4⟩ := id ha
  obtain ⟨dy, r', vs', h1, h2, h3, h4⟩ := id hb
  have ee : ts = us := Canon.ext g4 h4 e
  refine ⟨a, dx, _, .ref C, rfl, g1, .x (ty_poly T h1), by simp [PySem.W.notFirst], a, ts, .ref b, rfl, ha, .inl ⟨b, us, rfl, hb, ?_⟩⟩
  rw [decide_eq_true ee]
  exact q
/-- two jars, two polynomials and the jar of one number -/
structure Five (C : Addr) (H : Hp) (j p f one two : Addr) (n1 n2 : Nat) (c1 c2 : Int → Int) (co : Int) (o1 o2 : Terms) : Prop where
  j : JarAt H j n1 c1
  p : JarAt H p n2 c2
  f : JarAt H f 1 (one0 co)
  one : PolyAt C H one o1
  two : PolyAt C H two o2
theorem Five.same {C : Addr} {H H' : Hp} {j p f one two : Addr} {n1 n2 : Nat} {c1 c2 : Int → Int} {co : Int} {o1 o2 : Terms} (h : Five C H j p f one two n1 n2 c1 c2 co o1 o2) (s : Same H H') : Five C H' j p f one two n1 n2 c1 c2 co o1 o2 :=
  ⟨h.j.same s, h.p.same s, h.f.same s, h.one.same s, h.two.same s⟩
theorem dues_new {C : Addr} {H : Hp} {a : Addr} {xs : List V} (na : H a = none) (h : ∀ x ∈ xs, DueAt C H x) : DuesL C (upd H a (.lst xs)) a xs.length :=
  ⟨xs, upd_same, rfl, fun x hx => (h x hx).same (Same.new0 na)⟩
/-- list + list of pairs -/
theorem dues_cat {C : Addr} {H : Hp} {Q : VK} {a b : Addr} {m n : Nat} (ha : DuesL C H a m) (hb : DuesL C H b n) (hn : m + n ≤ 100) (q : ∀ p H', H p = none → Same H H' → DuesL C H' p (m + n) → Q (.ref p) H') : rCat (.ref a) (.ref b) H Q := by
  obtain ⟨xs, e1, f1, g1⟩ := ha
  obtain ⟨zs, e2, f2, g2⟩ := hb
  refine r_cat e1 e2 (by rw [f1, f2]; exact Nat.le_trans hn (by decide)) fun p np => q p _ np (Same.new0 np) ?_
  refine ⟨_, upd_same, by rw [List.length_append, f1, f2], fun x hx => ?_⟩
  rcases List.mem_append.mp hx with h | h
  · exact (g1 x h).same (Same.new0 np)
  · exact (g2 x h).same (Same.new0 np)
section
variable {σ : L2.St} {H : Hp} {Q : VK} {td ty tk tv : TE} {trs : List (TE × TE)}
theorem rl_disp (q : ∀ p, H p = none → tPairs trs σ (upd H p (.dK [])) fun ps H2 => H2 p = some (.dK []) ∧ ∃ kvs : List (Key × V), ps = kvs.map (fun kv => (kV kv.1, kv.2)) ∧ kvs.length ≤ 15 ∧ Q (.ref p) (upd H2 p (.dK (mergeK [] kvs)))) : tDisp trs σ H Q := q
theorem rl_pc {R : List (V × V) → Hp → Prop} (q : tk σ H fun x H1 => tv σ H1 fun y H2 => tPairs trs σ H2 fun ps H3 => R ((x, y) :: ps) H3) : tPairs ((tk, tv) :: trs) σ H R := q
theorem rl_pn {R : List (V × V) → Hp → Prop} (q : R [] H) : tPairs [] σ H R := q
end
end My

set_option Elab.async false
set_option linter.all false
set_option maxRecDepth 100000
set_option maxHeartbeats 4000000
set_option pp.deepTerms false
set_option pp.deepTerms.threshold 12
set_option pp.maxSteps 1200

namespace My
open PySem PySem.Spec PyProof.Rows L2
section
variable {P : Program} {w : World} {K : PySem.W.Frag} {mg : Str → Option Value} {base : Heap} {C_Orders : Addr}
local macro_rules | `(tactic| walk_at "isi") => `(tactic| (first
  | (with_reducible refine r_is_int_int ?_)
  | (with_reducible refine r_is_int_bool ?_)
  | (with_reducible refine r_is_int_str ?_)
  | (with_reducible refine r_is_int_list ?_)
  | (with_reducible refine r_is_int_tuple ?_)
  | (with_reducible refine r_is_bool_int ?_)
  | (with_reducible refine r_is_bool_bool ?_)
  | (with_reducible refine r_is_bool_str ?_)
  | (with_reducible refine r_is_bool_list ?_)
  | (with_reducible refine r_is_bool_tuple ?_)
  | (with_reducible refine r_is_str_int ?_)
  | (with_reducible refine r_is_str_bool ?_)
  | (with_reducible refine r_is_str_str ?_)
  | (with_reducible refine r_is_str_list ?_)
  | (with_reducible refine r_is_str_tuple ?_)
  | ((with_reducible refine r_is_list_int (xs := ?xx) ?hh ?_); (case hh => walk_at "hp"))
  | ((with_reducible refine r_is_list_bool (xs := ?xx) ?hh ?_); (case hh => walk_at "hp"))
  | ((with_reducible refine r_is_list_str (xs := ?xx) ?hh ?_); (case hh => walk_at "hp"))
  | ((with_reducible refine r_is_list_list (xs := ?xx) ?hh ?_); (case hh => walk_at "hp"))
  | ((with_reducible refine r_is_list_tuple (xs := ?xx) ?hh ?_); (case hh => walk_at "hp"))
  | ((with_reducible refine r_is_tuple_int (xs := ?xx) ?hh ?_); (case hh => walk_at "hp"))
  | ((with_reducible refine r_is_tuple_bool (xs := ?xx) ?hh ?_); (case hh => walk_at "hp"))
  | ((with_reducible refine r_is_tuple_str (xs := ?xx) ?hh ?_); (case hh => walk_at "hp"))
  | ((with_reducible refine r_is_tuple_list (xs := ?xx) ?hh ?_); (case hh => walk_at "hp"))
  | ((with_reducible refine r_is_tuple_tuple (xs := ?xx) ?hh ?_); (case hh => walk_at "hp"))
  | (with_reducible refine r_is_NoneType_int ?_)
  | (with_reducible refine r_is_NoneType_bool ?_)
  | (with_reducible refine r_is_NoneType_str ?_)
  | (with_reducible refine r_is_NoneType_list ?_)
  | (with_reducible refine r_is_NoneType_tuple ?_)))
local macro_rules | `(tactic| walk_at "ne") => `(tactic| first | assumption | (refine Ne.symm ?_; assumption) | exact Bag.ne (by assumption) (by assumption) | exact ne_of_none (by assumption) (by assumption))
local macro_rules | `(tactic| walk_at "hp") => `(tactic| (first
  | assumption
  | exact upd_same
  | (refine h_keep ?_ (by assumption); walk_at "hp")
  | (refine (upd_ne (by walk_at "ne")).trans ?_; walk_at "hp")
  | (refine Same.at (by assumption) ?_; walk_at "hp")
  | (refine But.at (by assumption) (by walk_at "ne") ?_; walk_at "hp")
  | (refine But2.at (by assumption) (by walk_at "ne") (by walk_at "ne") ?_; walk_at "hp")))
local macro_rules | `(tactic| walk_at "side") => `(tactic| first | assumption | omega | (refine ⟨?_, ?_⟩ <;> first | assumption | omega | decide) | decide | (refine ⟨by decide, by decide, by decide⟩) | (left; refine ⟨?_, ?_⟩ <;> first | omega | decide) | (right; refine ⟨?_, ?_⟩ <;> first | omega | decide) | (simp; done))
local macro_rules | `(tactic| walk_at "cond") => `(tactic| first | assumption | exact rfl | omega | (simp only [List.length_cons, List.length_nil]; omega) | decide +kernel)
local macro_rules | `(tactic| walk_at "s") => `(tactic| (first
  | ((with_reducible refine r_var (v := ?vv) ?ee ?_); (case ee => exact rfl))
  | (with_reducible refine r_c ?_)
  | (with_reducible refine r_op ?_)
  | (with_reducible refine r_un ?_)
  | (with_reducible refine r_rI0 ?_)
  | ((with_reducible refine r_rI ?cc ?_); (case cc => walk_at "side"))
  | (with_reducible refine r_rU ?_)
  | (with_reducible refine r_eqI ?_)
  | (with_reducible refine r_neI ?_)
  | (with_reducible refine r_eqB ?_)
  | (with_reducible refine r_neB ?_)
  | (with_reducible refine r_eqS ?_)
  | (with_reducible refine r_neS ?_)
  | ((with_reducible refine r_eq ?ee ?_); (case ee => exact rfl))
  | ((with_reducible refine r_ne ?ee ?_); (case ee => exact rfl))
  | ((with_reducible refine r_ixL (v := ?vv) (xs := ?xx) ?hh ?ee ?_); (case hh => (refine SqL.of ?_; walk_at "hp")); (case ee => exact rfl))
  | (with_reducible refine r_cb ?_)
  | (with_reducible refine r_call ?_)
  | (with_reducible refine r_cons ?_)
  | (with_reducible refine r_nil ?_)
  | (with_reducible refine r_lst ?_)
  | (with_reducible refine r_tup ?_)
  | ((with_reducible refine r_new ?cc ?_); (case cc => walk_at "side"))
  | (with_reducible refine r_exbl ?_)
  | (with_reducible refine r_exint ?_)
  | (with_reducible refine r_exint2 ?_)
  | (with_reducible refine r_exblL ?_)
  | (with_reducible refine r_ex2 ?_)
  | (with_reducible refine r_test ?_)
  | (with_reducible refine r_tB ?_)
  | (with_reducible refine r_not ?_)
  | (with_reducible refine r_and ?_)
  | (with_reducible refine r_or ?_)
  | (with_reducible refine r_andV ?_)
  | (with_reducible refine r_orV ?_)
  | (with_reducible refine r_notV ?_)
  | (with_reducible refine r_tif ?_)
  | (with_reducible refine r_iteT ?_)
  | (with_reducible refine r_iteNT ?_)
  | (with_reducible refine r_iteNF ?_)
  | (with_reducible refine r_iteF ?_)
  | (with_reducible refine r_seq ?_)
  | (with_reducible refine r_next ?_)
  | (with_reducible refine r_brk ?_)
  | (with_reducible refine r_cont ?_)
  | (with_reducible refine r_asg ?_)
  | (with_reducible refine r_gname ?_)
  | (with_reducible refine r_ret ?_)
  | (with_reducible refine r_retN ?_)
  | (with_reducible refine r_drop ?_)
  | (with_reducible refine r_if ?_)
  | ((with_reducible refine r_aug (x := ?xx) ?ee ?_); (case ee => exact rfl))
  | (with_reducible refine r_ipI ?_)
  | (with_reducible refine r_augS ?_)
  | (with_reducible refine r_gsub ?_)
  | ((with_reducible refine r_setL (xs := ?xx) (m := ?mm) ?hh ?ee ?_); (case hh => walk_at "hp"); (case ee => exact rfl))
  | (with_reducible refine r_par ?_)
  | (with_reducible refine r_bm ?_)
  | ((with_reducible refine r_tyL (xs := ?xx) ?hh ?_); (case hh => walk_at "hp"))
  | ((with_reducible refine r_append (xs := ?xx) ?hh ?ll ?_); (case hh => walk_at "hp"); (case ll => walk_at "side"))
  | (walk_at "isi")
  | (with_reducible refine r_for ?_)
  | (with_reducible refine r_iList ?_)
  | (with_reducible refine r_iTup ?_)
  | (with_reducible refine r_iR1 ?_)
  | (with_reducible refine r_iR2 ?_)
  | (with_reducible refine r_lc ?_)
  | (with_reducible refine r_yes ?_)
  | ((with_reducible refine r_lenS ?ll ?_); (case ll => walk_at "side"))
  | (with_reducible refine r_leS ?_)
  | (with_reducible refine r_chain ?_)
  | (with_reducible refine r_tM1 ?_)
  | (with_reducible refine r_exS ?_)
  | ((with_reducible refine r_tupL (xs := ?xx) ?hh ?_); (case hh => walk_at "hp"))
  | ((with_reducible refine r_listL (xs := ?xx) ?hh ?_); (case hh => walk_at "hp"))
  | ((with_reducible refine r_listT (xs := ?xx) ?hh ?_); (case hh => walk_at "hp"))
  | ((with_reducible refine r_ixT (v := ?vv) (xs := ?xx) ?hh ?ee ?_); (case hh => (refine SqT.of ?_; walk_at "hp")); (case ee => exact rfl))
  | (with_reducible refine r_sl ?_)
  | (with_reducible refine r_nopart ?_)
  | (with_reducible refine r_part ?_)
  | (with_reducible refine r_exI ?_)
  | ((with_reducible refine r_slL (xs := ?xx) ?hh ?_); (case hh => first | assumption | (refine SqL.of ?_; walk_at "hp") | (refine Same.seq (by assumption) (by assumption))))
  | ((with_reducible refine r_cat (xs := ?xx) (zs := ?zz) ?hh ?ii ?ll ?_); (case hh => walk_at "hp"); (case ii => walk_at "hp"); (case ll => walk_at "side"))
  | ((with_reducible refine r_lenL (xs := ?xx) ?hh ?_); (case hh => walk_at "hp"))
  | ((with_reducible refine r_lenT (xs := ?xx) ?hh ?_); (case hh => walk_at "hp"))
  | ((with_reducible refine r_gTup (xs := ?xx) ?hh ?ll ?_); (case hh => walk_at "hp"); (case ll => exact rfl))
  | (with_reducible refine r_gCons ?_)
  | (with_reducible refine r_gNil ?_)
  | ((with_reducible refine r_iteDT ?cc ?_); (case cc => walk_at "cond"))
  | ((with_reducible refine r_iteDF ?cc ?_); (case cc => walk_at "cond"))
  | ((with_reducible refine r_iteNDT ?cc ?_); (case cc => walk_at "cond"))
  | ((with_reducible refine r_iteNDF ?cc ?_); (case cc => walk_at "cond"))
  ))
local macro_rules | `(tactic| walk_at "go") => `(tactic| repeat (walk_at "s"))

local macro_rules | `(tactic| walk_at "s") => `(tactic| (first
  | (with_reducible refine r_dnew ?_)
  | (with_reducible refine r_dget2 ?_)
  | (with_reducible refine r_dget ?_)
  | (with_reducible refine r_dput ?_)
  | (with_reducible refine r_dsetd ?_)
  | ((with_reducible refine JarAt.isD (n := ?nn) (c := ?cc) ?hh ?_); (case hh => assumption))
  ))

local macro_rules | `(tactic| walk_at "s") => `(tactic| (first
  | (with_reducible refine r_prop ?_)
  | (with_reducible refine r_meth ?_)
  | (with_reducible refine r_make ?_)
  | (with_reducible refine r_fld ?_)
  | (with_reducible refine r_sfld ?_)
  | (with_reducible refine r_iOwn ?_)
  | ((with_reducible refine u_rowsAt (mg := ?mm) (C := ?CC) (dx := ?dd) (fv := ?vv) ?tt ?hh ?_); (case tt => assumption); (case hh => walk_at "hp"))
  | ((with_reducible refine r_isPoly (mg := ?mm) (dx := ?dd) (fs := ?ff) ?tt ?hh ?_); (case tt => assumption); (case hh => walk_at "hp"))
  | ((with_reducible refine r_isPolyI (mg := ?mm) ?tt ?_); (case tt => assumption))
  | ((with_reducible refine r_polyInt (mg := ?mm) (C := ?CC) (dx := ?dd) (fs := ?ff) ?tt ?hh ?_); (case tt => assumption); (case hh => walk_at "hp"))
  ))

local macro_rules | `(tactic| walk_at "s") => `(tactic| (first
  | (with_reducible refine r_makeD ?_)
  | (with_reducible refine r_notBl ?_)
  | (with_reducible refine r_makeN ?_)
  | (with_reducible refine r_cbk ?_)
  | ((with_reducible refine u_orows (mg := ?mm) (C := ?CC) (dx := ?dd) (r := ?rr) (b := ?bb) ?tt ?hh ?_); (case tt => assumption); (case hh => walk_at "hp"))
  | ((with_reducible refine u_oout (mg := ?mm) (C := ?CC) (dx := ?dd) (r := ?rr) (b := ?bb) ?tt ?hh ?_); (case tt => assumption); (case hh => walk_at "hp"))
  | ((with_reducible refine r_isOrd (mg := ?mm) (dx := ?dd) (fs := ?ff) ?tt ?hh ?_); (case tt => assumption); (case hh => walk_at "hp"))
  | ((with_reducible refine r_inT (us := ?uu) ?hh ?_); (case hh => walk_at "hp"))
  | ((with_reducible refine r_inL (us := ?uu) ?hh ?_); (case hh => walk_at "hp"))
  ))

theorem ok_l_is_intT {f : Addr} {fd : FuncData} (F : Fun K "_law_is_int" "_law_is_int" s_l_is_int f fd) (B : Bl mg) : FnOk P w K mg base CX0 1 f fd ["_law_thing"] (spIsIntT K) := by
  refine F.ok sc_l_is_int (fun vs H Q E h => ?_) (fun cdv A outer s H vs Q E hr h => ?_)
  · obtain ⟨x, t, b1, b2, rfl, _⟩ := h
    rfl
  · obtain ⟨x, t, b1, b2, rfl, ty, k1, k2, k⟩ := h
    refine ⟨_, (pss_one (ps_ret (pe_and (pe_callB (call_isiEK (K := K)) (by rfl) B.b_isinstance (by decide +kernel) (pa_cons (pv 0) (pa_cons (pe_bltn (v := .ty "int") (by rfl) B.b_int (by decide +kernel) rfl) pa_nil))) (pe_one (pe_not (pe_callB (call_isiEK (K := K)) (by rfl) B.b_isinstance (by decide +kernel) (pa_cons (pv 0) (pa_cons (pe_bltn (v := .ty "bool") (by rfl) B.b_bool (by decide +kernel) rfl) pa_nil)))))))), ?_⟩
    walk_at "go"
    refine r_isiE (.ty _) ty k1 ?_
    walk_at "go"
    refine r_ite (fun hb => ?_) (fun hb => ?_)
    · subst hb
      walk_at "go"
      refine r_isiE (.ty _) ty k2 ?_
      walk_at "go"
      exact k
    · subst hb
      exact k
theorem ok_l_tells {f : Addr} {fd : FuncData} (F : Fun K "_law_tells" "_law_tells" s_l_tells f fd) (B : Bl mg) : FnOk P w K mg base CX0 1 f fd ["_law_found", "_law_due"] spTellsB := by
  refine F.ok sc_l_tells (fun vs H Q E h => ?_) (fun cdv A outer s H vs Q E hr h => ?_)
  · obtain ⟨c, d, rfl, _⟩ := h
    rfl
  · obtain ⟨c, d, rfl, k⟩ := h
    refine ⟨_, (pss_one (ps_ret (pe_and (pe_callB (call_isiKK (K := K)) (by rfl) B.b_isinstance (by decide +kernel) (pa_cons (pv 0) (pa_cons (pe_bltn (v := .ty "bool") (by rfl) B.b_bool (by decide +kernel) rfl) pa_nil))) (pe_one (pe_cmpR op_eq (pv 0) (pv 1) (nomark _)))))), ?_⟩
    walk_at "go"
    exact k
theorem ok_l_held {f : Addr} {fd : FuncData} (F : Fun K "_law_held" "_law_held" s_l_held f fd) : FnOk P w K mg base CX0 1 f fd ["_law_rows", "_law_beyond", "_law_one"] spHeld := by
  refine F.ok sc_l_held (fun vs H Q E h => ?_) (fun cdv A outer s H vs Q E hr h => ?_)
  · obtain ⟨l, ns, b, n, rfl, _⟩ := h
    rfl
  · obtain ⟨l, ns, b, n, rfl, hl, k⟩ := h
    refine ⟨_, (pss_one (ps_ret (pe_and (pe_cmpR op_ge (pv 2) pe_int (nomark _)) (pe_one (pe_cmpR op_ne (pe_cmpR (op_in_seqK (K := K)) (pv 2) (pv 0) (by rfl)) (pv 1) (nomark _)))))), ?_⟩
    walk_at "go"
    refine r_iteD (fun h1 => ?_) (fun h1 => ?_)
    · rw [decide_eq_true h1, Bool.true_and] at k
      walk_at "go"
      rw [show ((!decide (decide (n ∈ ns) = b)) = (decide (n ∈ ns) != b)) from by cases decide (n ∈ ns) <;> cases b <;> rfl]
      exact k
    · rw [decide_eq_false h1, Bool.false_and] at k
      exact k
theorem ok_l_least_of {f : Addr} {fd : FuncData} (F : Fun K "_law_least_of" "_law_least_of" s_l_least_of f fd) (B : Bl mg) (bSet : mg "set" = none) (bS : mg "sorted" = none) : FnOk P w K mg base CX0 1 f fd ["_law_rows", "_law_beyond"] spLeastOf := by
  refine F.ok sc_l_least_of (fun vs H Q E h => ?_) (fun cdv A outer s H vs Q E hr h => ?_)
  · obtain ⟨l, ns, us, b, rfl, _⟩ := h
    rfl
  · obtain ⟨l, ns, us, b, rfl, hl, hn, asc, mem, k⟩ := h
    refine ⟨_, (pss_cons (ps_if (pt_not (pt_val (pv 1)))
    (pss_one (ps_ret (pe_callBK (call_minD rfl hr) (by rfl) B.b_min (by decide +kernel) (pa_cons (pv 0) pa_nil) (pk_cons pe_non pk_nil))))
    pss_nil)
    (pss_cons (ps_set (i := 2) sc_l_least_of.nd rfl (.inl rfl) pe_int)
    (pss_cons (ps_for PassesOwn.never rfl (pi_list (pe_callB (call_sortSet (by rfl)) (by rfl) bS (by decide +kernel) (pa_cons (pe_callTy (call_setOfI (by rfl)) (by rfl) bSet (by decide +kernel) (pa_cons (pv 0) pa_nil)) pa_nil))) (pg_name (i := 3) sc_l_least_of.nd rfl (.inl rfl))
    (pss_one (ps_if (pt_cmpR op_eq (pv 3) (pv 2) (nomark _))
    (pss_one (ps_set (i := 2) sc_l_least_of.nd rfl (.inl rfl) (pe_op op_add (pv 2) pe_int)))
    pss_nil)))
    (pss_one (ps_ret (pv 2)))))), ?_⟩
    walk_at "go"
    refine r_ite (fun hb => ?_) (fun hb => ?_)
    · obtain rfl : b = false := by simpa using hb
      walk_at "go"
      cases ns with
      | nil =>
        refine r_minD0 hl ?_
        have e : us = [] := List.eq_nil_iff_forall_not_mem.mpr fun x hx => by have := (mem x).mp hx; cases this
        subst e
        exact k _ (Same.refl _)
      | cons y ys =>
        refine r_minD1 hl ?_
        have := k _ (Same.refl _)
        rw [least_min asc mem] at this
        exact this
    · obtain rfl : b = true := by simpa using hb
      walk_at "go"
      refine r_setI (w := w) hl hn fun p c np hc => ?_
      walk_at "go"
      refine ⟨p, _, c, rfl, upd_same, fun us' q asc' mem' len' nq => ?_⟩
      have eu : us' = us := asc_ext asc' asc fun k => by rw [mem' k, decide_eq_true_eq, mem k]
      subst eu
      have s2 : Same H (upd (upd H p (SetO w p (fun j => decide (j ∈ ns)) c)) q (.lst (us'.map V.int))) := Same.new (Same.new0 np) nq
      generalize hX : upd (upd H p (SetO w p (fun j => decide (j ∈ ns)) c)) q (.lst (us'.map V.int)) = H2 at *
      have hq2 : H2 q = some (.lst (us'.map V.int)) := by rw [← hX]; exact upd_same
      clear hX
      refine u_forL (.of hq2) (fun i σ H' => ∃ y, σ = [some (.ref l), some (.bl true), some (.int (mexF 1 (us'.take i))), y] ∧ H' = H2 ∧ i ≤ us'.length) ?_ ?_ ?_ ?_
      · exact ⟨none, rfl, rfl, Nat.zero_le _⟩
      · rintro i σ H' _ ⟨y, rfl, rfl, _⟩
        exact .of hq2
      · rintro i x σ H' hx ⟨y, rfl, rfl, _⟩
        obtain ⟨n, hn, rfl, hi⟩ := map_at hx
        walk_at "go"
        refine r_iteD (fun h0 => ?_) (fun h0 => ?_)
        · walk_at "go"
          refine ⟨some (.int n), ?_, rfl, hi⟩
          rw [mex_take hn, if_pos h0]
          rfl
        · refine ⟨some (.int n), ?_, rfl, hi⟩
          rw [mex_take hn, if_neg h0]
          rfl
      · rintro σ H' ⟨y, rfl, rfl, _⟩
        rw [List.length_map, List.take_length]
        walk_at "go"
        exact k _ s2
theorem ok_l_is_orders {f : Addr} {fd : FuncData} (F : Fun K "_law_is_orders" "_law_is_orders" s_l_is_orders f fd) (B : Bl mg) (bSet : mg "set" = none) (bS : mg "sorted" = none) (G_Orders : OrdT K mg C_Orders) (h_l_is_int : Has P w K mg base "_law_is_int" 1 ["_law_thing"] (spIsIntT K))
   (h_l_tells : Has P w K mg base "_law_tells" 1 ["_law_found", "_law_due"] spTellsB) (h_l_held : Has P w K mg base "_law_held" 1 ["_law_rows", "_law_beyond", "_law_one"] spHeld) (h_l_least_of : Has P w K mg base "_law_least_of" 1 ["_law_rows", "_law_beyond"] spLeastOf)
   (hp_Orders_listed : HasP P w K mg base C_Orders "listed" 1 ["self"] (spGetListed C_Orders)) (hp_Orders_others : HasP P w K mg base C_Orders "others" 1 ["self"] (spGetOthers C_Orders)) (hp_Orders_least : HasP P w K mg base C_Orders "least" 1 ["self"] (spGetLeast C_Orders))
   (hm_Orders___len__ : HasM P w K mg base C_Orders "__len__" 1 ["self"] (spOLen C_Orders)) (hs_Orders___iter__ : HasS P w K mg base C_Orders "__iter__" 1 ["self"] (spIter K C_Orders "rows")) (hm_Orders___contains__ : HasM P w K mg base C_Orders "__contains__" 3 ["self", "value"] (spContains K C_Orders))
   (hm_Orders___bool__ : HasM P w K mg base C_Orders "__bool__" 1 ["self"] (spOBool C_Orders)) : FnOk P w K mg base CX0 4 f fd ["_law_found", "_law_rows", "_law_beyond"] (spIsOrders C_Orders) := by
  refine F.ok sc_l_is_orders (fun vs H Q E h => ?_) (fun cdv A outer s H vs Q E hr h => ?_)
  · obtain ⟨a, l, ns, us, b, rfl, _⟩ := h
    rfl
  · obtain ⟨a, l, ns, us, b, rfl, ha, hl, hn, mem, k⟩ := h
    obtain ⟨dx, r, g1, g2, asc, pos, ulen⟩ := id ha
    refine ⟨_, (pss_cons (ps_if (pt_not (pt_val (pe_callB (call_isiKK (K := K)) (by rfl) B.b_isinstance (by decide +kernel) (pa_cons (pv 0) (pa_cons (pe_glob (v := .ref C_Orders) rfl G_Orders.mgC rfl) pa_nil)))))
    (pss_one (ps_ret pe_bl))
    pss_nil)
    (pss_cons (ps_set (i := 3) sc_l_is_orders.nd rfl (.inr rfl) (pe_callB (call_sortSet (by rfl)) (by rfl) bS (by decide +kernel) (pa_cons (pe_callTy (call_setOfI (by rfl)) (by rfl) bSet (by decide +kernel) (pa_cons (pv 1) pa_nil)) pa_nil)))
    (pss_cons (ps_set (i := 4) sc_l_is_orders.nd rfl (.inl rfl) (pe_propH G_Orders.cl hp_Orders_listed (hr.mono (by first | decide | omega)) (pv 0)))
    (pss_cons (ps_if (PW.pt (pw_or (pt_not (pt_val (pe_callB (call_isiKK (K := K)) (by rfl) B.b_isinstance (by decide +kernel) (pa_cons (pv 4) (pa_cons (pe_bltn (v := .ty "list") (by rfl) B.b_list (by decide +kernel) rfl) pa_nil))))) (pw_or (pt_not (pt_val (pe_callB (call_allK (K := K)) (by rfl) B.b_all (by decide +kernel) (pa_cons (pe_lc (own := [("_law_one", 7)]) rfl sc_l_is_orders.nd (pi_list (pv 4)) (blkOk_by (N := ["_law_found", "_law_rows", "_law_beyond", "_law_due", "_law_told", "_law_first", "_law_probes", "_law_one"]) (sc := defScope s_l_is_orders) (by decide +kernel)) (fun _ _ _ _ _ => (pg_name (i := 7) sc_l_is_orders.nd rfl (.inl rfl))) (fun _ _ _ _ _ => pts_nil) (fun _ _ _ _ _ => (pe_callH h_l_is_int (hr.mono (by first | decide | omega)) (pa_cons (pv 7) pa_nil)))) pa_nil)))) (pw_or1 (pt_cmpR (op_neDK (K := K) hr.units) (pv 4) (pv 3) (nomark _))))))
    (pss_one (ps_ret pe_bl))
    pss_nil)
    (pss_cons (ps_if (PW.pt (pw_or (pt_not (pt_val (pe_callH h_l_tells (hr.mono (by first | decide | omega)) (pa_cons (pe_propH G_Orders.cl hp_Orders_others (hr.mono (by first | decide | omega)) (pv 0)) (pa_cons (pv 2) pa_nil))))) (pw_or (pt_cmpR op_ne (pe_callB (call_lenOwn hm_Orders___len__ (hr.mono (by first | decide | omega))) (by rfl) B.b_len PySem.boot_len (pa_cons (pv 0) pa_nil)) (pe_callB (call_lenK (K := K)) (by rfl) B.b_len PySem.boot_len (pa_cons (pv 3) pa_nil)) (nomark _)) (pw_or1 (pt_cmpR (op_neDK (K := K) hr.units) (pe_lc (own := [("_law_one", 7)]) rfl sc_l_is_orders.nd (pi_ownK (K := K) (pv 0) hs_Orders___iter__ (hr.mono (by first | decide | omega))) (blkOk_by (N := ["_law_found", "_law_rows", "_law_beyond", "_law_due", "_law_told", "_law_first", "_law_probes", "_law_one"]) (sc := defScope s_l_is_orders) (by decide +kernel)) (fun _ _ _ _ _ => (pg_name (i := 7) sc_l_is_orders.nd rfl (.inl rfl))) (fun _ _ _ _ _ => pts_nil) (fun _ _ _ _ _ => (pv 7))) (pv 3) (nomark _))))))
    (pss_one (ps_ret pe_bl))
    pss_nil)
    (pss_cutM (ps_set (i := 5) sc_l_is_orders.nd rfl (.inl rfl) (pe_propH G_Orders.cl hp_Orders_least (hr.mono (by first | decide | omega)) (pv 0)))
    (pss_cutM (ps_if (PW.pt (pw_or (pt_cmpR op_ne (pv 5) (pe_callH h_l_least_of (hr.mono (by first | decide | omega)) (pa_cons (pv 1) (pa_cons (pv 2) pa_nil))) (nomark _)) (pw_or1 (PW.pt (pw_and (pt_cmpR op_notNN (pv 5) pe_non (nomark _)) (pw_and1 (pt_not (pt_val (pe_callH h_l_is_int (hr.mono (by first | decide | omega)) (pa_cons (pv 5) pa_nil))))))))))
    (pss_one (ps_ret pe_bl))
    pss_nil)
    (pss_cutM (ps_expr (pe_bm PySem.F.plainAttrs_list PySem.F.slot_list_append PySem.F.type_list_append mt_append (pv 4) (pa_cons pe_int pa_nil)))
    (pss_cutM (ps_if (PW.pt (pw_or (pt_not (pt_val (pe_callH h_l_tells (hr.mono (by first | decide | omega)) (pa_cons (pe_callTy (call_boolOwn hm_Orders___bool__ (hr.mono (by first | decide | omega))) (by rfl) B.b_bool (by decide +kernel) (pa_cons (pv 0) pa_nil)) (pa_cons (pe_or (pv 2) (pe_one (pe_cmpR (op_neDK (K := K) hr.units) (pv 3) (pe_lst pa_nil) (nomark _)))) pa_nil))))) (pw_or1 (pt_cmpR (op_neDK (K := K) hr.units) (pe_propH G_Orders.cl hp_Orders_listed (hr.mono (by first | decide | omega)) (pv 0)) (pv 3) (nomark _)))))
    (pss_one (ps_ret pe_bl))
    pss_nil)
    (pss_cutM (ps_set (i := 6) sc_l_is_orders.nd rfl (.inl rfl) (pe_op op_cat (pe_op op_cat (pe_slice sl_list (pv 3) po_none (po_some pe_int)) (pe_lc (own := [("_law_one", 7)]) rfl sc_l_is_orders.nd (pi_list (pe_slice sl_list (pv 3) (po_some (pe_un un_neg pe_int)) po_none)) (blkOk_by (N := ["_law_found", "_law_rows", "_law_beyond", "_law_due", "_law_told", "_law_first", "_law_probes", "_law_one"]) (sc := defScope s_l_is_orders) (by decide +kernel)) (fun _ _ _ _ _ => (pg_name (i := 7) sc_l_is_orders.nd rfl (.inl rfl))) (fun _ _ _ _ _ => pts_nil) (fun _ _ _ _ _ => (pe_op op_add (pv 7) pe_int)))) (pe_lst (pa_cons pe_int (pa_cons pe_int (pa_cons (pe_op op_pow pe_int pe_int) (pa_cons pe_int (pa_cons (pe_un un_neg pe_int) pa_nil))))))))
    (pss_one (ps_ret (pe_callB (call_allK (K := K)) (by rfl) B.b_all (by decide +kernel) (pa_cons (pe_lc (own := [("_law_one", 7)]) rfl sc_l_is_orders.nd (pi_list (pv 6)) (blkOk_by (N := ["_law_found", "_law_rows", "_law_beyond", "_law_due", "_law_told", "_law_first", "_law_probes", "_law_one"]) (sc := defScope s_l_is_orders) (by decide +kernel)) (fun _ _ _ _ _ => (pg_name (i := 7) sc_l_is_orders.nd rfl (.inl rfl))) (fun _ _ _ _ _ => pts_nil) (fun _ _ _ _ _ => (pe_callH h_l_tells (hr.mono (by first | decide | omega)) (pa_cons (pe_cmpR (op_inOwn hm_Orders___contains__ (hr.mono (by first | decide | omega))) (pv 7) (pv 0) (by rfl)) (pa_cons (pe_callH h_l_held (hr.mono (by first | decide | omega)) (pa_cons (pv 3) (pa_cons (pv 2) (pa_cons (pv 7) pa_nil)))) pa_nil))))) pa_nil)))))))))))))), ?_⟩
    walk_at "go"
    refine r_setI (w := w) hl hn fun p c np hc => ?_
    walk_at "go"
    refine ⟨p, _, c, rfl, upd_same, fun us' q asc' mem' len' nq => ?_⟩
    have eu : us' = us := asc_ext asc' asc fun k => by rw [mem' k, decide_eq_true_eq, mem k]
    subst eu
    have s2 : Same H (upd (upd H p (SetO w p (fun j => decide (j ∈ ns)) c)) q (.lst (us'.map V.int))) := Same.new (Same.new0 np) nq
    generalize hX : upd (upd H p (SetO w p (fun j => decide (j ∈ ns)) c)) q (.lst (us'.map V.int)) = H2 at *
    have hq2 : H2 q = some (.lst (us'.map V.int)) := by rw [← hX]; exact upd_same
    clear hX
    have ha2 := ha.same s2
    have g12 := s2 _ _ g1
    walk_at "go"
    refine ⟨a, dx, _, rfl, g12, a, us', b, rfl, ha2, fun t H3 nt s3 ht => ?_⟩
    have hq3 := s3 _ _ hq2
    walk_at "go"
    refine u_lcL (.of ht) (fun D i acc H' => (acc = (List.replicate i true).map V.bl ∧ i ≤ us'.length) ∧ Same H3 H') ?_ ?_ ?_ ?_
    · exact fun D hD => ⟨⟨rfl, by omega⟩, Same.new0 hD⟩
    · exact fun D i acc H' _ _ ⟨_, s⟩ => .of (s _ _ ht)
    · rintro D i v acc H' hD hv hacc ⟨⟨ea, _⟩, sm⟩
      obtain ⟨n, hn', rfl, hi2⟩ := map_at hv
      walk_at "go"
      refine ⟨rfl, ?_⟩
      walk_at "go"
      refine u_isIntV ?_
      have al : acc.length = i := by rw [ea]; simp
      refine u_push hacc (by omega) ⟨⟨?_, by omega⟩, Same.put sm hD⟩
      rw [ea, List.replicate_succ', List.map_append]
      rfl
    · rintro D acc H4 hD hacc ⟨⟨ea, _⟩, s4⟩
      rw [ea] at hacc
      have ht4 := s4 _ _ ht
      have hq4 := s4 _ _ hq3
      have s24 : Same H2 H4 := s3.trans s4
      have ha4 := ha2.same s24
      have g14 := s24 _ _ g12
      have g24 := s24 _ _ (s2 _ _ g2)
      walk_at "go"
      refine r_all (SqL.of hacc) ?_
      rw [show ((List.replicate (us'.map V.int).length true).all id) = true by simp]
      walk_at "go"
      refine r_neIs ht4 hq4 ?_
      rw [decide_eq_true rfl]
      walk_at "go"
      refine ⟨a, dx, _, rfl, g14, a, us', b, rfl, ha4, ?_⟩
      walk_at "go"
      refine ⟨b, b, rfl, ?_⟩
      rw [decide_eq_true rfl]
      walk_at "go"
      refine ⟨a, dx, _, rfl, g14, a, us', b, rfl, ha4, us'.length, rfl, by omega, ?_⟩
      walk_at "go"
      rw [List.length_map]
      walk_at "go"
      refine ⟨a, dx, _, r, _, rfl, g14, rows_look2, .of g24, fun D hD => lc_tup (xs := us'.map V.int) (fun i H' => ∃ acc, H' D = some (.lst acc) ∧ acc = (us'.map V.int).take i ∧ i ≤ us'.length ∧ Same H4 H') ⟨[], upd_same, rfl, Nat.zero_le _, Same.new0 hD⟩ (fun i H' _ ⟨_, _, _, _, s⟩ => .of (s _ _ g24)) (fun i x H' hx ⟨acc, hacc, ea, hi, s⟩ => ?_) fun H' ⟨acc, hacc, ea, hi, s⟩ => ?_⟩
      · obtain ⟨n, hn', rfl, hi2⟩ := map_at hx
        walk_at "go"
        refine ⟨rfl, ?_⟩
        walk_at "go"
        refine ⟨acc, hacc, Nat.lt_of_le_of_lt (m := 4000) (by rw [ea, List.length_take, List.length_map]; omega) (by decide), _, upd_same, ?_, hi2, Same.put s hD⟩
        rw [ea, List.take_succ, hx]; rfl
      · rw [List.take_of_length_le (Nat.le_refl _)] at ea
        subst ea
        walk_at "go"
        have hq5 := s _ _ hq4
        refine r_neIs hacc hq5 ?_
        rw [decide_eq_true rfl]
        have s25 := s24.trans s
        have ntq : t ≠ q := by rintro rfl; rw [hq2] at nt; cases nt
        have nt0 : H t = none := by
          cases e : H t with
          | none => rfl
          | some o => have := s2 _ _ e; rw [nt] at this; cases this
        have hl5 := s25 _ _ (s2 _ _ hl)
        have ntl : t ≠ l := by rintro rfl; rw [hl] at nt0; cases nt0
        have ha5 := ha4.same s
        have g15 := s _ _ g14
        generalize hv : leastV us' b = lv
        have hc5 : (∃ n, lv = .int n) ∨ lv = .non := by rw [← hv]; exact least_cases us' b
        have ht5 := s _ _ ht4
        have sH5 : Same H H' := s2.trans s25
        clear hacc hD
        walk_at "go"
        refine r_cut (fun σ' H6 => H6 = H' ∧ σ' = [some (.ref a), some (.ref l), some (.bl b), some (.ref q), some (.ref t), some lv, none, none]) ?_ ?_
        · walk_at "go"
          refine ⟨a, dx, _, rfl, g15, a, us', b, rfl, ha5, ?_⟩
          rw [hv]
          walk_at "go"
          exact ⟨rfl, rfl⟩
        rintro σ' H6 ⟨rfl, rfl⟩
        refine r_cut (fun σ' H' => Same H6 H' ∧ σ' = [some (.ref a), some (.ref l), some (.bl b), some (.ref q), some (.ref t), some lv, none, none]) ?_ ?_
        · walk_at "go"
          refine ⟨l, ns, us', b, rfl, hl5, hn, asc, mem, fun H7 s7 => ?_⟩
          rw [hv]
          refine r_ne (by rcases hc5 with ⟨n, rfl⟩ | rfl <;> rfl) ?_
          rw [decide_eq_true rfl]
          walk_at "go"
          rcases hc5 with ⟨n, rfl⟩ | rfl
          · refine r_notNI ?_
            walk_at "go"
            refine u_isIntV ?_
            walk_at "go"
            exact ⟨s7, rfl⟩
          · refine r_notNN ?_
            walk_at "go"
            exact ⟨s7, rfl⟩
        rintro σ' H7 ⟨s7, rfl⟩
        have ht7 := s7 _ _ ht5
        have sH7 := sH5.trans s7
        refine r_cut (fun σ' H' => Same H H' ∧ H' q = some (.lst (us'.map V.int)) ∧ σ' = [some (.ref a), some (.ref l), some (.bl b), some (.ref q), some (.ref t), some lv, none, none]) ?_ ?_
        · walk_at "go"
          exact ⟨Same.put sH7 nt0, (upd_ne ntq.symm).trans (s7 _ _ hq5), rfl⟩
        clear hq2 hq3 hq4 hq5 s7 ht7 ht5 ht4 ht sH7 hl5 s s4 s3 s24 s25 g15 g14 g24 g12 ha5 ha4 ha2 sH5
        rintro σ' H8 ⟨s8, hq8, rfl⟩
        refine r_cut (fun σ' H' => Same H H' ∧ H' q = some (.lst (us'.map V.int)) ∧ σ' = [some (.ref a), some (.ref l), some (.bl b), some (.ref q), some (.ref t), some lv, none, none]) ?_ ?_
        · have ha8 := ha.same s8
          have g18 := s8 _ _ g1
          walk_at "go"
          refine ⟨_, rfl, a, dx, _, rfl, g18, a, us', b, rfl, ha8, _, rfl, ?_⟩
          walk_at "go"
          cases b with
          | true =>
            walk_at "go"
            refine ⟨_, _, rfl, ?_⟩
            rw [Bool.true_or, decide_eq_true rfl]
            walk_at "go"
            refine ⟨a, dx, _, rfl, g18, a, us', true, rfl, ha8, fun l9 H9 nl9 s9 hl9 => ?_⟩
            walk_at "go"
            refine r_neIs hl9 (s9 _ _ hq8) ?_
            rw [decide_eq_true rfl]
            walk_at "go"
            exact ⟨s8.trans s9, s9 _ _ hq8, rfl⟩
          | false =>
            walk_at "go"
            intro e0 ne0
            have s9 : Same H8 (upd H8 e0 (.lst [])) := Same.new0 ne0
            have he0 : (upd H8 e0 (.lst [])) e0 = some (.lst (([] : List Int).map V.int)) := upd_same
            generalize upd H8 e0 (.lst []) = H9 at *
            refine r_neIs (s9 _ _ hq8) he0 ?_
            walk_at "go"
            refine ⟨_, _, rfl, ?_⟩
            rw [show decide ((false || !us'.isEmpty) = !decide (us' = [])) = true from decide_eq_true (by cases us' <;> simp)]
            walk_at "go"
            refine ⟨a, dx, _, rfl, s9 _ _ g18, a, us', false, rfl, ha8.same s9, fun l9 H10 nl9 s10 hl9 => ?_⟩
            walk_at "go"
            refine r_neIs hl9 (s10 _ _ (s9 _ _ hq8)) ?_
            rw [decide_eq_true rfl]
            walk_at "go"
            exact ⟨s8.trans (s9.trans s10), s10 _ _ (s9 _ _ hq8), rfl⟩
        clear hq8 s8
        rintro σ' H8 ⟨s8, hq8, rfl⟩
        refine r_cut (fun σ' H' => ∃ (p : Addr) (ps : List Int), Same H H' ∧ H' q = some (.lst (us'.map V.int)) ∧ H' p = some (.lst (ps.map V.int)) ∧ ps.length ≤ 8100 ∧ σ' = [some (.ref a), some (.ref l), some (.bl b), some (.ref q), some (.ref t), some lv, some (.ref p), none]) ?_ ?_
        · walk_at "go"
          intro c1 nc1
          obtain ⟨n1, e1, l1⟩ := cut_ints (us := us') none (some 9)
          have sA : Same H8 (upd H8 c1 (.lst (cutV (us'.map V.int) none (some 9)))) := Same.new0 nc1
          have hA : (upd H8 c1 (.lst (cutV (us'.map V.int) none (some 9)))) c1 = some (.lst (n1.map V.int)) := by rw [e1]; exact upd_same
          generalize upd H8 c1 (.lst (cutV (us'.map V.int) none (some 9))) = HA at *
          have hqA := sA _ _ hq8
          walk_at "go"
          intro c2 nc2
          obtain ⟨n2, e2, l2⟩ := cut_ints (us := us') (some (-9)) none
          have sB : Same HA (upd HA c2 (.lst (cutV (us'.map V.int) (some (-9)) none))) := Same.new0 nc2
          have hB : (upd HA c2 (.lst (cutV (us'.map V.int) (some (-9)) none))) c2 = some (.lst (n2.map V.int)) := by rw [e2]; exact upd_same
          generalize upd HA c2 (.lst (cutV (us'.map V.int) (some (-9)) none)) = HB at *
          refine u_lcL (.of hB) (fun D i acc H' => (acc = ((n2.take i).map (· + 1)).map V.int ∧ i ≤ n2.length) ∧ Same HB H') ?_ ?_ ?_ ?_
          · exact fun D hD => ⟨⟨rfl, by omega⟩, Same.new0 hD⟩
          · exact fun D i acc H' _ _ ⟨_, s⟩ => .of (s _ _ hB)
          · rintro D i v acc H' hD hv hacc ⟨⟨ea, _⟩, sm⟩
            obtain ⟨n, hn', rfl, hi2⟩ := map_at hv
            walk_at "go"
            refine ⟨rfl, ?_⟩
            walk_at "go"
            have al : acc.length ≤ i := by rw [ea, List.length_map, List.length_map, List.length_take]; omega
            refine u_push hacc (by omega) ⟨⟨?_, by omega⟩, Same.put sm hD⟩
            rw [ea, take_one hn', List.map_append, List.map_append]
            rfl
          · rintro D acc HC hD hacc ⟨⟨ea, _⟩, sC⟩
            rw [List.length_map, List.take_length] at ea
            subst ea
            have hAC := sC _ _ (sB _ _ hA)
            have hqC := sC _ _ (sB _ _ hqA)
            refine r_cat hAC hacc (by simp only [List.length_map]; omega) fun c3 nc3 => ?_
            rw [← List.map_append]
            have sD : Same HC (upd HC c3 (.lst ((n1 ++ n2.map (· + 1)).map V.int))) := Same.new0 nc3
            have hDD : (upd HC c3 (.lst ((n1 ++ n2.map (· + 1)).map V.int))) c3 = some (.lst ((n1 ++ n2.map (· + 1)).map V.int)) := upd_same
            generalize upd HC c3 (.lst ((n1 ++ n2.map (· + 1)).map V.int)) = HD at *
            walk_at "go"
            intro c4 nc4
            have hD5 : (upd HD c4 (.lst [V.int 1, V.int 2, V.int (10 ^ Int.toNat 30), V.int 0, V.int (-1)])) c4 = some (.lst (([1, 2, 10 ^ Int.toNat 30, 0, -1] : List Int).map V.int)) := upd_same
            have sE : Same HD (upd HD c4 (.lst [V.int 1, V.int 2, V.int (10 ^ Int.toNat 30), V.int 0, V.int (-1)])) := Same.new0 nc4
            generalize upd HD c4 (.lst [V.int 1, V.int 2, V.int (10 ^ Int.toNat 30), V.int 0, V.int (-1)]) = HE at *
            refine r_cat (sE _ _ hDD) hD5 (by simp only [List.length_map, List.length_append, List.length_cons, List.length_nil]; omega) fun c5 nc5 => ?_
            rw [← List.map_append]
            walk_at "go"
            have sAll : Same H8 HE := sA.trans (sB.trans (sC.trans (sD.trans sE)))
            refine ⟨c5, _, s8.trans (sAll.trans (Same.new0 nc5)), (upd_ne (ne_of_none (sAll _ _ hq8) nc5)).trans (sAll _ _ hq8), upd_same, ?_, rfl⟩
            simp only [List.length_append, List.length_map, List.length_cons, List.length_nil]
            omega
        rintro σ' H9 ⟨p, ps, s9, hq9, hp9, hpl, rfl⟩
        have ha9 := ha.same s9
        have g19 := s9 _ _ g1
        walk_at "go"
        refine u_lcL (.of hp9) (fun D i acc H' => (acc = (List.replicate i true).map V.bl ∧ i ≤ ps.length) ∧ Same H9 H') ?_ ?_ ?_ ?_
        · exact fun D hD => ⟨⟨rfl, by omega⟩, Same.new0 hD⟩
        · exact fun D i acc H' _ _ ⟨_, s⟩ => .of (s _ _ hp9)
        · rintro D i v acc H' hD hv hacc ⟨⟨ea, _⟩, sm⟩
          obtain ⟨n, hn', rfl, hi2⟩ := map_at hv
          walk_at "go"
          refine ⟨rfl, ?_⟩
          walk_at "go"
          refine ⟨a, dx, _, rfl, sm _ _ g19, a, us', b, _, rfl, ha9.same sm, .inl ⟨n, rfl, _, rfl, ?_⟩⟩
          walk_at "go"
          refine ⟨q, us', b, n, rfl, sm _ _ hq9, ?_⟩
          walk_at "go"
          refine ⟨_, _, rfl, ?_⟩
          rw [decide_eq_true rfl]
          have al : acc.length = i := by rw [ea]; simp
          refine u_push hacc (by omega) ⟨⟨?_, by omega⟩, Same.put sm hD⟩
          rw [ea, List.replicate_succ', List.map_append]
          rfl
        · rintro D acc H10 hD hacc ⟨⟨ea, _⟩, s10⟩
          rw [ea] at hacc
          walk_at "go"
          refine r_all (SqL.of hacc) ?_
          rw [show ((List.replicate (ps.map V.int).length true).all id) = true by simp]
          exact k _ (s9.trans s10)
end
end My

set_option Elab.async false
set_option linter.all false
set_option maxRecDepth 100000
set_option pp.deepTerms false
set_option pp.deepTerms.threshold 12
set_option pp.maxSteps 1200
namespace My
open PySem PySem.Spec PyProof.Rows L2
/-! ### joined sets -/
def tabV (tf : Bool → Bool → Bool) : List V := [.bl (tf false false), .bl (tf false true), .bl (tf true false), .bl (tf true true)]
/-- a table of the text, by its name -/
structure TabAt (K : PySem.W.Frag) (mg : Str → Option Value) (x : Str) (tf : Bool → Bool → Bool) : Prop where
  ex : ∃ d, mg x = some (.ref d) ∧ ∀ H, SqT K H d (tabV tf)
theorem tab_ix {tf : Bool → Bool → Bool} (a b : Bool) : atI (tabV tf) (2 * (if a then 1 else 0) + (if b then 1 else 0)) = some (.bl (tf a b)) := by
  cases a <;> cases b <;> rfl
/-- whether an order is in the set -/
def inS (us : List Int) (b : Bool) (k : Int) : Bool := decide (k ∈ us) != b
/-- k ≥ 1 is in the set joined by tf -/
def JoinM (tf : Bool → Bool → Bool) (u1 u2 us : List Int) (b1 b2 : Bool) : Prop := ∀ k, k ∈ us ↔ (k ∈ u1 ∨ k ∈ u2) ∧ tf (inS u1 b1 k) (inS u2 b2 k) ≠ tf b1 b2
theorem inS_no {us : List Int} {b : Bool} {k : Int} (h : k ∉ us) : inS us b k = b := by
  unfold inS
  rw [decide_eq_false h]
  cases b <;> rfl
/-- at every order the joined set answers by the table -/
theorem JoinM.inS {tf : Bool → Bool → Bool} {u1 u2 us : List Int} {b1 b2 : Bool} (h : JoinM tf u1 u2 us b1 b2) (k : Int) : inS us (tf b1 b2) k = tf (inS u1 b1 k) (inS u2 b2 k) := by
  by_cases hk : k ∈ u1 ∨ k ∈ u2
  · by_cases ht : tf (My.inS u1 b1 k) (My.inS u2 b2 k) = tf b1 b2
    · have hn : k ∉ us := fun z => ((h k).mp z).2 ht
      rw [inS_no hn, ht]
    · have hn : k ∈ us := (h k).mpr ⟨hk, ht⟩
      show (decide (k ∈ us) != tf b1 b2) = _
      rw [decide_eq_true hn]
      revert ht
      cases tf (My.inS u1 b1 k) (My.inS u2 b2 k) <;> cases tf b1 b2 <;> simp
  · have hn : k ∉ us := fun z => hk ((h k).mp z).1
    rw [inS_no hn, inS_no (fun z => hk (.inl z)), inS_no (fun z => hk (.inr z))]
theorem filt_mem {p : Int → Bool} {us : List Int} {k : Int} : k ∈ us.filter p ↔ k ∈ us ∧ p k = true := List.mem_filter
/-- joined(one, two, table) -/
def spJoined (K : PySem.W.Frag) (C : Addr) : Sp := fun vs H Q _ => ∃ (a1 a2 t : Addr) (u1 u2 : List Int) (b1 b2 : Bool) (tf : Bool → Bool → Bool), vs = [.ref a1, .ref a2, .ref t] ∧ OrdAt C H a1 u1 b1 ∧ OrdAt C H a2 u2 b2 ∧ (∀ H, SqT K H t (tabV tf)) ∧ u1.length + u2.length ≤ 4000 ∧
  ∀ c us H', H c = none → Same H H' → OrdAt C H' c us (tf b1 b2) → JoinM tf u1 u2 us b1 b2 → us.length ≤ u1.length + u2.length → Q (.ref c) H'
/-- one (op) two -/
def spJoin2 (C : Addr) (tf : Bool → Bool → Bool) : Sp := fun vs H Q _ => ∃ (a1 a2 : Addr) (u1 u2 : List Int) (b1 b2 : Bool), vs = [.ref a1, .ref a2] ∧ OrdAt C H a1 u1 b1 ∧ OrdAt C H a2 u2 b2 ∧ u1.length + u2.length ≤ 4000 ∧
  ∀ c us H', H c = none → Same H H' → OrdAt C H' c us (tf b1 b2) → JoinM tf u1 u2 us b1 b2 → us.length ≤ u1.length + u2.length → Q (.ref c) H'
def spInvert (C : Addr) : Sp := fun vs H Q _ => ∃ (a : Addr) (us : List Int) (b : Bool), vs = [.ref a] ∧ OrdAt C H a us b ∧ ∀ c H', H c = none → Same H H' → OrdAt C H' c us (!b) → Q (.ref c) H'
def spChkOrd (C : Addr) : Sp := fun vs H Q _ => ∃ a us b, vs = [.ref a] ∧ OrdAt C H a us b ∧ Q .non H
def tOr2 (a b : Bool) : Bool := a || b
def tAnd2 (a b : Bool) : Bool := a && b
def tSub2 (a b : Bool) : Bool := a && !b
def tXor2 (a b : Bool) : Bool := a != b
/-- an ascending list within a list is not longer -/
theorem asc_le : ∀ {us bs : List Int}, us.Pairwise (· < ·) → (∀ k ∈ us, k ∈ bs) → us.length ≤ bs.length
  | [], _, _, _ => Nat.zero_le _
  | u :: us, bs, h, hs => by
    obtain ⟨h1, h2⟩ := List.pairwise_cons.mp h
    have hu := hs u (.head _)
    have : us.length ≤ (bs.erase u).length := asc_le h2 fun k hk => by
      have hne : k ≠ u := by have := h1 k hk; omega
      exact (List.mem_erase_of_ne hne).mpr (hs k (.tail _ hk))
    rw [List.length_erase_of_mem hu] at this
    have hp := List.length_pos_of_mem hu
    show us.length + 1 ≤ bs.length
    omega
theorem filter_asc {us : List Int} {p : Int → Bool} (h : us.Pairwise (· < ·)) : (us.filter p).Pairwise (· < ·) := h.sublist List.filter_sublist
end My
namespace My
open PySem PySem.Spec PyProof.Rows L2
theorem inS_ext {us vs : List Int} {b : Bool} (h : us.Pairwise (· < ·)) (h' : vs.Pairwise (· < ·)) (e : ∀ k, inS us b k = inS vs b k) : us = vs := by
  refine asc_ext h h' fun k => ?_
  have := e k
  unfold inS at this
  have e2 : decide (k ∈ us) = decide (k ∈ vs) := by revert this; cases decide (k ∈ us) <;> cases decide (k ∈ vs) <;> cases b <;> simp
  rw [← decide_eq_true_iff (p := k ∈ us), e2, decide_eq_true_iff]
theorem inS_not {us : List Int} {b : Bool} {k : Int} : inS us (!b) k = !(inS us b k) := by
  unfold inS
  cases decide (k ∈ us) <;> cases b <;> rfl
theorem inS_congr {us vs : List Int} {b : Bool} {k : Int} (h : k ∈ us ↔ k ∈ vs) : inS us b k = inS vs b k := by
  unfold inS
  rw [show decide (k ∈ us) = decide (k ∈ vs) from decide_eq_decide.mpr h]
theorem JoinM.congr {tf : Bool → Bool → Bool} {u1 u2 us n1 n2 : List Int} {b1 b2 : Bool} (h : JoinM tf n1 n2 us b1 b2) (h1 : ∀ k, k ∈ u1 ↔ k ∈ n1) (h2 : ∀ k, k ∈ u2 ↔ k ∈ n2) : JoinM tf u1 u2 us b1 b2 := fun k => by
  rw [h k, h1, h2, inS_congr (h1 k), inS_congr (h2 k)]
/-- the word of the law -/
def wf (r : Int) : Bool → Bool → Bool := if r = 0 then tOr2 else if r = 1 then tAnd2 else if r = 2 then tSub2 else tXor2
def spWord : Sp := fun vs H Q _ => ∃ (r : Int) (a b : Bool), vs = [.int r, .bl a, .bl b] ∧ Q (.bl (wf r a b)) H
/-- (rows, beyond) -/
def RowsAt (H : Hp) (t l : Addr) (ns : List Int) (b : Bool) : Prop := H t = some (.tup [.ref l, .bl b]) ∧ H l = some (.lst (ns.map V.int))
theorem RowsAt.same {H H' : Hp} {t l : Addr} {ns : List Int} {b : Bool} (h : RowsAt H t l ns b) (s : Same H H') : RowsAt H' t l ns b := ⟨s _ _ h.1, s _ _ h.2⟩
def spJoinedSet : Sp := fun vs H Q _ => ∃ (r : Int) (t1 t2 l1 l2 : Addr) (n1 n2 : List Int) (b1 b2 : Bool), vs = [.int r, .ref t1, .ref t2] ∧ RowsAt H t1 l1 n1 b1 ∧ RowsAt H t2 l2 n2 b2 ∧ (∀ n ∈ n1, 1 ≤ n) ∧ (∀ n ∈ n2, 1 ≤ n) ∧ n1.length + n2.length ≤ 4000 ∧
  ∀ t l ns H', H t = none → H l = none → Same H H' → RowsAt H' t l ns (wf r b1 b2) → ns.Pairwise (· < ·) → JoinM (wf r) n1 n2 ns b1 b2 → Q (.ref t) H'
def spOperated (C : Addr) : Sp := fun vs H Q _ => ∃ (r : Int) (a1 a2 : Addr) (u1 u2 : List Int) (b1 b2 : Bool), vs = [.int r, .ref a1, .ref a2] ∧ OrdAt C H a1 u1 b1 ∧ OrdAt C H a2 u2 b2 ∧ u1.length + u2.length ≤ 4000 ∧
  ∀ c us H', H c = none → Same H H' → OrdAt C H' c us (wf r b1 b2) → JoinM (wf r) u1 u2 us b1 b2 → Q (.ref c) H'
def spMorgan (C : Addr) : Sp := fun vs H Q _ => ∃ (a1 a2 : Addr) (u1 u2 : List Int) (b1 b2 : Bool), vs = [.ref a1, .ref a2] ∧ OrdAt C H a1 u1 b1 ∧ OrdAt C H a2 u2 b2 ∧ u1.length + u2.length ≤ 1000 ∧ ∀ H', Same H H' → Q (.bl true) H'
end My
namespace My
open PySem PySem.Spec PyProof.Rows L2
section
variable {K : PySem.W.Frag} {mg : Str → Option Value} {C : Addr} {H H' : Hp} {Q : VK}
theorem r_isBl {a b : Bool} (q : Q (.bl (decide (a = b))) H) : rIsB (.bl a) (.bl b) H Q := ⟨a, b, rfl, rfl, q⟩
theorem u_oeq2 {a a2 : Addr} {us us2 : List Int} {b b2 : Bool} (T : OrdT K mg C) (ha : OrdAt C H a us b) (hb : OrdAt C H a2 us2 b2) (q : Q (.bl (decide (us = us2) && decide (b = b2))) H) : rOwnEq K C (spOEq K C) (.ref a) (.ref a2) H Q := by
  obtain ⟨dx, r, g1, _⟩ := id ha
  obtain ⟨dy, r', h1, _⟩ := id hb
  exact ⟨a, dx, _, .ref C, rfl, g1, .x (ty_ord T h1), by simp [PySem.W.notFirst], a, us, b, .ref a2, rfl, ha, .inl ⟨a2, us2, b2, rfl, hb, q⟩⟩
theorem u_j2 {a1 a2 : Addr} {u1 u2 : List Int} {b1 b2 : Bool} {tf : Bool → Bool → Bool} (h1 : OrdAt C H a1 u1 b1) (h2 : OrdAt C H a2 u2 b2) (hn : u1.length + u2.length ≤ 4000)
    (q : ∀ c us H', H c = none → Same H H' → OrdAt C H' c us (tf b1 b2) → JoinM tf u1 u2 us b1 b2 → us.length ≤ u1.length + u2.length → Q (.ref c) H') : rOwn2 C (spJoin2 C tf) (.ref a1) (.ref a2) H Q := by
  obtain ⟨d1, r1, g1, _⟩ := id h1
  obtain ⟨d2, r2, g2, _⟩ := id h2
  exact ⟨a1, d1, _, a2, d2, _, rfl, rfl, g1, g2, a1, a2, u1, u2, b1, b2, rfl, h1, h2, hn, q⟩
theorem u_inv {a : Addr} {us : List Int} {b : Bool} (h : OrdAt C H a us b) (q : ∀ c H', H c = none → Same H H' → OrdAt C H' c us (!b) → Q (.ref c) H') : rOwn1 C (spInvert C) (.ref a) H Q := by
  obtain ⟨d1, r1, g1, _⟩ := id h
  exact ⟨a, d1, _, rfl, g1, a, us, b, rfl, h, q⟩
/-! ### the family -/
def MemAt (C : Addr) (bs : List Int) (H : Hp) (b hm : Addr) (v : V) : Prop := ∃ (p o t l : Addr) (us ns : List Int) (bo : Bool), v = .ref p ∧ H p = some (.tup [.ref o, .ref t]) ∧ OrdAt C H o us bo ∧ RowsAt H t l ns bo ∧ (∀ k, k ∈ us ↔ k ∈ ns) ∧ ns.length ≤ 24 ∧ (∀ k ∈ ns, k ∈ bs) ∧ l ≠ b ∧ l ≠ hm
theorem MemAt.but2 {bs : List Int} {b hm : Addr} {v : V} (h : MemAt C bs H b hm v) (hb : ∃ xs, H b = some (.lst xs)) (hh : ∃ xs, H hm = some (.lst xs)) (s : But2 b hm H H') : MemAt C bs H' b hm v := by
  obtain ⟨p, o, t, l, us, ns, bo, rfl, hp, ho, ⟨ht, hl⟩, m, n, i, lb, lh⟩ := h
  obtain ⟨xs, hb⟩ := hb
  obtain ⟨ys, hh⟩ := hh
  have st : Stay H H' := fun c o n _ e => s c o (by rintro rfl; rw [hb] at e; cases e; exact n _ rfl) (by rintro rfl; rw [hh] at e; cases e; exact n _ rfl) e
  exact ⟨p, o, t, l, us, ns, bo, rfl, st.tk _ _ hp, ho.stay st, ⟨st.tk _ _ ht, s _ _ lb lh hl⟩, m, n, i, lb, lh⟩
theorem MemAt.mono {bs cs : List Int} {b hm : Addr} {v : V} (h : MemAt C bs H b hm v) (hs : ∀ k ∈ bs, k ∈ cs) : MemAt C cs H b hm v :=
  let ⟨p, o, t, l, us, ns, bo, e, hp, ho, ht, m, n, i, r⟩ := h; ⟨p, o, t, l, us, ns, bo, e, hp, ho, ht, m, n, fun k hk => hs k (i k hk), r⟩
structure HomeAt (C : Addr) (bs : List Int) (H : Hp) (b hm : Addr) (vs : List V) : Prop where
  bg : Bag H b
  hb : hm ≠ b
  hh : H hm = some (.lst vs)
  mem : ∀ v ∈ vs, MemAt C bs H b hm v
  pos : ∀ k ∈ bs, 1 ≤ k
theorem bag_lst {b : Addr} (h : Bag H b) : ∃ xs, H b = some (.lst xs) := let ⟨_, _, _, e, _⟩ := h; ⟨_, e⟩
theorem HomeAt.same {bs : List Int} {b hm : Addr} {vs : List V} (h : HomeAt C bs H b hm vs) (s : Same H H') : HomeAt C bs H' b hm vs :=
  ⟨h.bg.same s, h.hb, s _ _ h.hh, fun v hv => (h.mem v hv).but2 (bag_lst h.bg) ⟨_, h.hh⟩ fun c o _ _ e => s c o e, h.pos⟩
theorem HomeAt.bag {bs : List Int} {b hm : Addr} {vs : List V} (h : HomeAt C bs H b hm vs) (bu : But b H H') (bg : Bag H' b) : HomeAt C bs H' b hm vs :=
  ⟨bg, h.hb, bu _ _ h.hb h.hh, fun v hv => (h.mem v hv).but2 (bag_lst h.bg) ⟨_, h.hh⟩ (But2.of bu), h.pos⟩
theorem HomeAt.push {bs cs : List Int} {b hm : Addr} {vs : List V} {v : V} (h : HomeAt C bs H b hm vs) (hs : ∀ k ∈ bs, k ∈ cs) (hp : ∀ k ∈ cs, 1 ≤ k) (m : MemAt C cs H b hm v) : HomeAt C cs (upd H hm (.lst (vs ++ [v]))) b hm (vs ++ [v]) := by
  have f : But2 b hm H (upd H hm (.lst (vs ++ [v]))) := fun c o _ n e => (upd_ne n).trans e
  refine ⟨Bag.upd h.bg h.hb.symm, h.hb, upd_same, fun w hw => ?_, hp⟩
  rcases List.mem_append.mp hw with hw | hw
  · exact ((h.mem w hw).mono hs).but2 (bag_lst h.bg) ⟨_, h.hh⟩ f
  · rw [List.mem_singleton.mp hw]
    exact m.but2 (bag_lst h.bg) ⟨_, h.hh⟩ f
theorem at_ok {vs : List V} {r : Int} (h0 : 0 ≤ r) (h1 : r < vs.length) : ∃ v ∈ vs, atI vs r = some v := by
  have hr : r.toNat < vs.length := by omega
  refine ⟨vs[r.toNat], List.getElem_mem hr, ?_⟩
  unfold atI ixN
  rw [if_pos h0, if_pos h1]
  exact List.getElem?_eq_getElem hr
end
end My

set_option Elab.async false
set_option linter.all false
set_option maxRecDepth 100000
set_option maxHeartbeats 4000000
set_option pp.deepTerms false
set_option pp.deepTerms.threshold 12
set_option pp.maxSteps 1200

namespace My
open PySem PySem.Spec PyProof.Rows L2
section
variable {P : Program} {w : World} {K : PySem.W.Frag} {mg : Str → Option Value} {base : Heap} {C_Orders : Addr}
local macro_rules | `(tactic| walk_at "isi") => `(tactic| (first
  | (with_reducible refine r_is_int_int ?_)
  | (with_reducible refine r_is_int_bool ?_)
  | (with_reducible refine r_is_int_str ?_)
  | (with_reducible refine r_is_int_list ?_)
  | (with_reducible refine r_is_int_tuple ?_)
  | (with_reducible refine r_is_bool_int ?_)
  | (with_reducible refine r_is_bool_bool ?_)
  | (with_reducible refine r_is_bool_str ?_)
  | (with_reducible refine r_is_bool_list ?_)
  | (with_reducible refine r_is_bool_tuple ?_)
  | (with_reducible refine r_is_str_int ?_)
  | (with_reducible refine r_is_str_bool ?_)
  | (with_reducible refine r_is_str_str ?_)
  | (with_reducible refine r_is_str_list ?_)
  | (with_reducible refine r_is_str_tuple ?_)
  | ((with_reducible refine r_is_list_int (xs := ?xx) ?hh ?_); (case hh => walk_at "hp"))
  | ((with_reducible refine r_is_list_bool (xs := ?xx) ?hh ?_); (case hh => walk_at "hp"))
  | ((with_reducible refine r_is_list_str (xs := ?xx) ?hh ?_); (case hh => walk_at "hp"))
  | ((with_reducible refine r_is_list_list (xs := ?xx) ?hh ?_); (case hh => walk_at "hp"))
  | ((with_reducible refine r_is_list_tuple (xs := ?xx) ?hh ?_); (case hh => walk_at "hp"))
  | ((with_reducible refine r_is_tuple_int (xs := ?xx) ?hh ?_); (case hh => walk_at "hp"))
  | ((with_reducible refine r_is_tuple_bool (xs := ?xx) ?hh ?_); (case hh => walk_at "hp"))
  | ((with_reducible refine r_is_tuple_str (xs := ?xx) ?hh ?_); (case hh => walk_at "hp"))
  | ((with_reducible refine r_is_tuple_list (xs := ?xx) ?hh ?_); (case hh => walk_at "hp"))
  | ((with_reducible refine r_is_tuple_tuple (xs := ?xx) ?hh ?_); (case hh => walk_at "hp"))
  | (with_reducible refine r_is_NoneType_int ?_)
  | (with_reducible refine r_is_NoneType_bool ?_)
  | (with_reducible refine r_is_NoneType_str ?_)
  | (with_reducible refine r_is_NoneType_list ?_)
  | (with_reducible refine r_is_NoneType_tuple ?_)))
local macro_rules | `(tactic| walk_at "ne") => `(tactic| first | assumption | (refine Ne.symm ?_; assumption) | exact Bag.ne (by assumption) (by assumption) | exact ne_of_none (by assumption) (by assumption))
local macro_rules | `(tactic| walk_at "hp") => `(tactic| (first
  | assumption
  | exact upd_same
  | (refine h_keep ?_ (by assumption); walk_at "hp")
  | (refine (upd_ne (by walk_at "ne")).trans ?_; walk_at "hp")
  | (refine Same.at (by assumption) ?_; walk_at "hp")
  | (refine But.at (by assumption) (by walk_at "ne") ?_; walk_at "hp")
  | (refine But2.at (by assumption) (by walk_at "ne") (by walk_at "ne") ?_; walk_at "hp")))
local macro_rules | `(tactic| walk_at "side") => `(tactic| first | assumption | omega | (refine ⟨?_, ?_⟩ <;> first | assumption | omega | decide) | decide | (refine ⟨by decide, by decide, by decide⟩) | (left; refine ⟨?_, ?_⟩ <;> first | omega | decide) | (right; refine ⟨?_, ?_⟩ <;> first | omega | decide) | (simp; done))
local macro_rules | `(tactic| walk_at "cond") => `(tactic| first | assumption | exact rfl | omega | (simp only [List.length_cons, List.length_nil]; omega) | decide +kernel)
local macro_rules | `(tactic| walk_at "s") => `(tactic| (first
  | ((with_reducible refine r_var (v := ?vv) ?ee ?_); (case ee => exact rfl))
  | (with_reducible refine r_c ?_)
  | (with_reducible refine r_op ?_)
  | (with_reducible refine r_un ?_)
  | (with_reducible refine r_rI0 ?_)
  | ((with_reducible refine r_rI ?cc ?_); (case cc => walk_at "side"))
  | (with_reducible refine r_rU ?_)
  | (with_reducible refine r_eqI ?_)
  | (with_reducible refine r_neI ?_)
  | (with_reducible refine r_eqB ?_)
  | (with_reducible refine r_neB ?_)
  | (with_reducible refine r_eqS ?_)
  | (with_reducible refine r_neS ?_)
  | ((with_reducible refine r_eq ?ee ?_); (case ee => exact rfl))
  | ((with_reducible refine r_ne ?ee ?_); (case ee => exact rfl))
  | ((with_reducible refine r_ixL (v := ?vv) (xs := ?xx) ?hh ?ee ?_); (case hh => (refine SqL.of ?_; walk_at "hp")); (case ee => exact rfl))
  | (with_reducible refine r_cb ?_)
  | (with_reducible refine r_call ?_)
  | (with_reducible refine r_cons ?_)
  | (with_reducible refine r_nil ?_)
  | (with_reducible refine r_lst ?_)
  | (with_reducible refine r_tup ?_)
  | ((with_reducible refine r_new ?cc ?_); (case cc => walk_at "side"))
  | (with_reducible refine r_exbl ?_)
  | (with_reducible refine r_exint ?_)
  | (with_reducible refine r_exint2 ?_)
  | (with_reducible refine r_exblL ?_)
  | (with_reducible refine r_ex2 ?_)
  | (with_reducible refine r_test ?_)
  | (with_reducible refine r_tB ?_)
  | (with_reducible refine r_not ?_)
  | (with_reducible refine r_and ?_)
  | (with_reducible refine r_or ?_)
  | (with_reducible refine r_andV ?_)
  | (with_reducible refine r_orV ?_)
  | (with_reducible refine r_notV ?_)
  | (with_reducible refine r_tif ?_)
  | (with_reducible refine r_iteT ?_)
  | (with_reducible refine r_iteNT ?_)
  | (with_reducible refine r_iteNF ?_)
  | (with_reducible refine r_iteF ?_)
  | (with_reducible refine r_seq ?_)
  | (with_reducible refine r_next ?_)
  | (with_reducible refine r_brk ?_)
  | (with_reducible refine r_cont ?_)
  | (with_reducible refine r_asg ?_)
  | (with_reducible refine r_gname ?_)
  | (with_reducible refine r_ret ?_)
  | (with_reducible refine r_retN ?_)
  | (with_reducible refine r_drop ?_)
  | (with_reducible refine r_if ?_)
  | ((with_reducible refine r_aug (x := ?xx) ?ee ?_); (case ee => exact rfl))
  | (with_reducible refine r_ipI ?_)
  | (with_reducible refine r_augS ?_)
  | (with_reducible refine r_gsub ?_)
  | ((with_reducible refine r_setL (xs := ?xx) (m := ?mm) ?hh ?ee ?_); (case hh => walk_at "hp"); (case ee => exact rfl))
  | (with_reducible refine r_par ?_)
  | (with_reducible refine r_bm ?_)
  | ((with_reducible refine r_tyL (xs := ?xx) ?hh ?_); (case hh => walk_at "hp"))
  | ((with_reducible refine r_append (xs := ?xx) ?hh ?ll ?_); (case hh => walk_at "hp"); (case ll => walk_at "side"))
  | (walk_at "isi")
  | (with_reducible refine r_for ?_)
  | (with_reducible refine r_iList ?_)
  | (with_reducible refine r_iTup ?_)
  | (with_reducible refine r_iR1 ?_)
  | (with_reducible refine r_iR2 ?_)
  | (with_reducible refine r_lc ?_)
  | (with_reducible refine r_yes ?_)
  | ((with_reducible refine r_lenS ?ll ?_); (case ll => walk_at "side"))
  | (with_reducible refine r_leS ?_)
  | (with_reducible refine r_chain ?_)
  | (with_reducible refine r_tM1 ?_)
  | (with_reducible refine r_exS ?_)
  | ((with_reducible refine r_tupL (xs := ?xx) ?hh ?_); (case hh => walk_at "hp"))
  | ((with_reducible refine r_listL (xs := ?xx) ?hh ?_); (case hh => walk_at "hp"))
  | ((with_reducible refine r_listT (xs := ?xx) ?hh ?_); (case hh => walk_at "hp"))
  | ((with_reducible refine r_ixT (v := ?vv) (xs := ?xx) ?hh ?ee ?_); (case hh => (refine SqT.of ?_; walk_at "hp")); (case ee => exact rfl))
  | (with_reducible refine r_sl ?_)
  | (with_reducible refine r_nopart ?_)
  | (with_reducible refine r_part ?_)
  | (with_reducible refine r_exI ?_)
  | ((with_reducible refine r_slL (xs := ?xx) ?hh ?_); (case hh => first | assumption | (refine SqL.of ?_; walk_at "hp") | (refine Same.seq (by assumption) (by assumption))))
  | ((with_reducible refine r_cat (xs := ?xx) (zs := ?zz) ?hh ?ii ?ll ?_); (case hh => walk_at "hp"); (case ii => walk_at "hp"); (case ll => walk_at "side"))
  | ((with_reducible refine r_lenL (xs := ?xx) ?hh ?_); (case hh => walk_at "hp"))
  | ((with_reducible refine r_lenT (xs := ?xx) ?hh ?_); (case hh => walk_at "hp"))
  | ((with_reducible refine r_gTup (xs := ?xx) ?hh ?ll ?_); (case hh => walk_at "hp"); (case ll => exact rfl))
  | (with_reducible refine r_gCons ?_)
  | (with_reducible refine r_gNil ?_)
  | ((with_reducible refine r_iteDT ?cc ?_); (case cc => walk_at "cond"))
  | ((with_reducible refine r_iteDF ?cc ?_); (case cc => walk_at "cond"))
  | ((with_reducible refine r_iteNDT ?cc ?_); (case cc => walk_at "cond"))
  | ((with_reducible refine r_iteNDF ?cc ?_); (case cc => walk_at "cond"))
  ))
local macro_rules | `(tactic| walk_at "go") => `(tactic| repeat (walk_at "s"))

local macro_rules | `(tactic| walk_at "s") => `(tactic| (first
  | (with_reducible refine r_dnew ?_)
  | (with_reducible refine r_dget2 ?_)
  | (with_reducible refine r_dget ?_)
  | (with_reducible refine r_dput ?_)
  | (with_reducible refine r_dsetd ?_)
  | ((with_reducible refine JarAt.isD (n := ?nn) (c := ?cc) ?hh ?_); (case hh => assumption))
  ))

local macro_rules | `(tactic| walk_at "s") => `(tactic| (first
  | (with_reducible refine r_prop ?_)
  | (with_reducible refine r_meth ?_)
  | (with_reducible refine r_make ?_)
  | (with_reducible refine r_fld ?_)
  | (with_reducible refine r_sfld ?_)
  | (with_reducible refine r_iOwn ?_)
  | ((with_reducible refine u_rowsAt (mg := ?mm) (C := ?CC) (dx := ?dd) (fv := ?vv) ?tt ?hh ?_); (case tt => assumption); (case hh => walk_at "hp"))
  | ((with_reducible refine r_isPoly (mg := ?mm) (dx := ?dd) (fs := ?ff) ?tt ?hh ?_); (case tt => assumption); (case hh => walk_at "hp"))
  | ((with_reducible refine r_isPolyI (mg := ?mm) ?tt ?_); (case tt => assumption))
  | ((with_reducible refine r_polyInt (mg := ?mm) (C := ?CC) (dx := ?dd) (fs := ?ff) ?tt ?hh ?_); (case tt => assumption); (case hh => walk_at "hp"))
  ))

local macro_rules | `(tactic| walk_at "s") => `(tactic| (first
  | (with_reducible refine r_makeD ?_)
  | (with_reducible refine r_notBl ?_)
  | (with_reducible refine r_makeN ?_)
  | (with_reducible refine r_cbk ?_)
  | ((with_reducible refine u_orows (mg := ?mm) (C := ?CC) (dx := ?dd) (r := ?rr) (b := ?bb) ?tt ?hh ?_); (case tt => assumption); (case hh => walk_at "hp"))
  | ((with_reducible refine u_oout (mg := ?mm) (C := ?CC) (dx := ?dd) (r := ?rr) (b := ?bb) ?tt ?hh ?_); (case tt => assumption); (case hh => walk_at "hp"))
  | ((with_reducible refine r_isOrd (mg := ?mm) (dx := ?dd) (fs := ?ff) ?tt ?hh ?_); (case tt => assumption); (case hh => walk_at "hp"))
  | ((with_reducible refine r_inT (us := ?uu) ?hh ?_); (case hh => walk_at "hp"))
  | ((with_reducible refine r_inL (us := ?uu) ?hh ?_); (case hh => walk_at "hp"))
  ))

theorem ok_check_orders {f : Addr} {fd : FuncData} (F : Fun K "check_orders" "check_orders" s_check_orders f fd) (B : Bl mg) (G_Orders : OrdT K mg C_Orders) : FnOk P w K mg base CX0 1 f fd ["value"] (spChkOrd C_Orders) := by
  refine F.ok sc_check_orders (fun vs H Q E h => ?_) (fun cdv A outer s H vs Q E hr h => ?_)
  · obtain ⟨a, us, b, rfl, _⟩ := h
    rfl
  · obtain ⟨a, us, b, rfl, ⟨dx, r, g1, g2, _⟩, k⟩ := h
    refine ⟨_, (pss_one (ps_if (pt_not (pt_val (pe_callB (call_isiKK (K := K)) (by rfl) B.b_isinstance (by decide +kernel) (pa_cons (pv 0) (pa_cons (pe_glob (v := .ref C_Orders) rfl G_Orders.mgC rfl) pa_nil)))))
    (pss_one ps_never)
    pss_nil)), ?_⟩
    walk_at "go"
    exact k
theorem ok_joined {f : Addr} {fd : FuncData} (F : Fun K "joined" "joined" s_joined f fd) (B : Bl mg) (bSet : mg "set" = none) (bS : mg "sorted" = none) (G_Orders : OrdT K mg C_Orders) (h_check_orders : Has P w K mg base "check_orders" 1 ["value"] (spChkOrd C_Orders))
   (hc_Orders : HasC P w K mg base "Orders" C_Orders 4 ["self", "listed", "others"] (spOInit C_Orders)) (hm_Orders___contains__ : HasM P w K mg base C_Orders "__contains__" 3 ["self", "value"] (spContains K C_Orders)) : FnOk P w K mg base CX0 6 f fd ["one", "two", "table"] (spJoined K C_Orders) := by
  refine F.ok sc_joined (fun vs H Q E h => ?_) (fun cdv A outer s H vs Q E hr h => ?_)
  · obtain ⟨a1, a2, t, u1, u2, b1, b2, tf, rfl, _⟩ := h
    rfl
  · obtain ⟨a1, a2, t, u1, u2, b1, b2, tf, rfl, h1, h2, ht, hn, k⟩ := h
    obtain ⟨d1, r1, g1, q1, asc1, pos1, _⟩ := id h1
    obtain ⟨d2, r2, g2, q2, asc2, pos2, _⟩ := id h2
    refine ⟨_, (pss_cons (ps_expr (pe_callH h_check_orders (hr.mono (by first | decide | omega)) (pa_cons (pv 1) pa_nil)))
    (pss_cons (ps_set (i := 3) sc_joined.nd rfl (.inr rfl) (pe_ix (ix_tupK (K := K)) (pv 2) (pe_op op_add (pe_op op_mul pe_int (pe_callTy call_intB (by rfl) B.b_int (by decide +kernel) (pa_cons (pe_fldK (K := K) (pv 0)) pa_nil))) (pe_callTy call_intB (by rfl) B.b_int (by decide +kernel) (pa_cons (pe_fldK (K := K) (pv 1)) pa_nil))) (fun _ _ => rfl)))
    (pss_cons (ps_set (i := 4) sc_joined.nd rfl (.inl rfl) (pe_callB (call_sortSet (by rfl)) (by rfl) bS (by decide +kernel) (pa_cons (pe_callTy (call_setOfI (by rfl)) (by rfl) bSet (by decide +kernel) (pa_cons (pe_op op_cat (pe_callTy call_listT (by rfl) B.b_list (by decide +kernel) (pa_cons (pe_fldK (K := K) (pv 0)) pa_nil)) (pe_callTy call_listT (by rfl) B.b_list (by decide +kernel) (pa_cons (pe_fldK (K := K) (pv 1)) pa_nil))) pa_nil)) pa_nil)))
    (pss_cons (ps_setLc (i := 5) (own := [("order", 6)]) rfl sc_joined.nd rfl rfl (sw_true rfl rfl rfl (by decide +kernel)) (pi_list (pv 4)) (blkOk_by (N := ["one", "two", "table", "outside", "rows", "listed", "order"]) (sc := defScope s_joined) (by decide +kernel)) (fun _ _ _ _ _ => (pg_name (i := 6) sc_joined.nd rfl (.inl rfl))) (fun _ _ _ _ _ => pts_one (pt_cmpR op_ne (pe_ix (ix_tupK (K := K)) (pv 2) (pe_op op_add (pe_op op_mul pe_int (pe_callTy call_intB (by rfl) B.b_int (by decide +kernel) (pa_cons (pe_cmpR (op_inOwn hm_Orders___contains__ (hr.mono (by first | decide | omega))) (pv 6) (pv 0) (by rfl)) pa_nil))) (pe_callTy call_intB (by rfl) B.b_int (by decide +kernel) (pa_cons (pe_cmpR (op_inOwn hm_Orders___contains__ (hr.mono (by first | decide | omega))) (pv 6) (pv 1) (by rfl)) pa_nil))) (fun _ _ => rfl)) (pv 3) (nomark _))) (fun _ _ _ _ _ => (pv 6)))
    (pss_one (ps_ret (pe_makeH hc_Orders (hr.mono (by first | decide | omega)) (pa_cons (pv 5) (pa_cons (pv 3) pa_nil))))))))), ?_⟩
    walk_at "go"
    refine ⟨a2, u2, b2, rfl, h2, ?_⟩
    walk_at "go"
    refine r_ixT (ht _) (tab_ix b1 b2) ?_
    walk_at "go"
    intro e1 n1
    walk_at "go"
    intro e2 n2
    refine r_cat (xs := u1.map V.int) (zs := u2.map V.int) (by walk_at "hp") upd_same (by simp only [List.length_map]; omega) fun e3 n3 => ?_
    rw [← List.map_append]
    have s3 : Same H (upd (upd (upd H e1 (.lst (u1.map V.int))) e2 (.lst (u2.map V.int))) e3 (.lst ((u1 ++ u2).map V.int))) := Same.new (Same.new (Same.new0 n1) n2) n3
    have h3 : (upd (upd (upd H e1 (.lst (u1.map V.int))) e2 (.lst (u2.map V.int))) e3 (.lst ((u1 ++ u2).map V.int))) e3 = some (.lst ((u1 ++ u2).map V.int)) := upd_same
    generalize upd (upd (upd H e1 (.lst (u1.map V.int))) e2 (.lst (u2.map V.int))) e3 (.lst ((u1 ++ u2).map V.int)) = H3 at *
    walk_at "go"
    refine r_setI (w := w) h3 (by rw [List.length_append]; omega) fun p c np hc => ?_
    walk_at "go"
    refine ⟨p, _, c, rfl, upd_same, fun rs q asc mem len nq => ?_⟩
    have s4 : Same H3 (upd (upd H3 p (SetO w p (fun j => decide (j ∈ u1 ++ u2)) c)) q (.lst (rs.map V.int))) := Same.new (Same.new0 np) nq
    generalize hX : upd (upd H3 p (SetO w p (fun j => decide (j ∈ u1 ++ u2)) c)) q (.lst (rs.map V.int)) = H4 at *
    have hq : H4 q = some (.lst (rs.map V.int)) := by rw [← hX]; exact upd_same
    clear hX
    have mm : ∀ k, k ∈ rs ↔ k ∈ u1 ∨ k ∈ u2 := fun k => by rw [mem k, decide_eq_true_eq, List.mem_append]
    have sH := s3.trans s4
    have ha1 := h1.same sH
    have ha2 := h2.same sH
    have ga1 := sH _ _ g1
    have ga2 := sH _ _ g2
    rw [List.length_append] at hc
    walk_at "go"
    refine u_lcL (.of hq) (fun D i acc H' => (acc = ((rs.take i).filter fun n => decide (tf (inS u1 b1 n) (inS u2 b2 n) ≠ tf b1 b2)).map V.int ∧ i ≤ rs.length) ∧ Same H4 H') ?_ ?_ ?_ ?_
    · exact fun D hD => ⟨⟨rfl, by omega⟩, Same.new0 hD⟩
    · exact fun D i acc H' _ _ ⟨_, s⟩ => .of (s _ _ hq)
    · rintro D i v acc H' hD hv hacc ⟨⟨ea, _⟩, sm⟩
      obtain ⟨n, hn', rfl, hi2⟩ := map_at hv
      have nn : 1 ≤ n := ((mm n).mp (List.mem_of_getElem? hn')).elim (pos1 n) (pos2 n)
      walk_at "go"
      refine ⟨rfl, ?_⟩
      walk_at "go"
      refine ⟨a1, d1, _, rfl, sm _ _ ga1, a1, u1, b1, _, rfl, ha1.same sm, .inl ⟨n, rfl, _, rfl, ?_⟩⟩
      rw [decide_eq_true nn, Bool.true_and]
      walk_at "go"
      refine ⟨a2, d2, _, rfl, sm _ _ ga2, a2, u2, b2, _, rfl, ha2.same sm, .inl ⟨n, rfl, _, rfl, ?_⟩⟩
      rw [decide_eq_true nn, Bool.true_and]
      walk_at "go"
      refine r_ixT (ht _) (tab_ix (inS u1 b1 n) (inS u2 b2 n)) ?_
      walk_at "go"
      have al : acc.length ≤ i := by
        rw [ea, List.length_map]
        exact Nat.le_trans (List.length_filter_le _ _) (by rw [List.length_take]; omega)
      refine r_iteN (fun he => ?_) (fun he => ?_)
      · walk_at "go"
        refine u_push hacc (by omega) ⟨⟨?_, by omega⟩, Same.put sm hD⟩
        rw [ea, take_one hn', List.filter_append, List.map_append, List.filter_cons_of_pos (p := fun n => decide (tf (inS u1 b1 n) (inS u2 b2 n) ≠ tf b1 b2)) (decide_eq_true he)]
        rfl
      · refine u_skip hacc ⟨⟨?_, by omega⟩, sm⟩
        rw [ea, take_one hn', List.filter_append, List.filter_cons_of_neg (p := fun n => decide (tf (inS u1 b1 n) (inS u2 b2 n) ≠ tf b1 b2)) (by simpa using he), List.filter_nil, List.append_nil]
    · rintro D acc H5 hD hacc ⟨⟨ea, _⟩, s5⟩
      rw [List.length_map, List.take_length] at ea
      subst ea
      walk_at "go"
      have fl := List.length_filter_le (fun n => decide (tf (inS u1 b1 n) (inS u2 b2 n) ≠ tf b1 b2)) rs
      refine u_ord hacc (fun n hn' => ((mm n).mp (List.mem_filter.mp hn').1).elim (pos1 n) (pos2 n)) (by omega) fun z us H6 nz s6 oz mz lz => ?_
      refine k z us H6 (free_same (sH.trans s5) nz) (sH.trans (s5.trans s6)) oz (fun k => ?_) (by omega)
      rw [mz, List.mem_filter, mm, decide_eq_true_eq]
theorem ok_Orders___invert__ {f : Addr} {fd : FuncData} (F : Fun K "__invert__" "Orders.__invert__" s_Orders___invert__ f fd) (B : Bl mg) (G_Orders : OrdT K mg C_Orders) (hc_Orders : HasC P w K mg base "Orders" C_Orders 4 ["self", "listed", "others"] (spOInit C_Orders)) : FnOk P w K mg base CX0 6 f fd ["self"] (spInvert C_Orders) := by
  refine F.ok sc_Orders___invert__ (fun vs H Q E h => ?_) (fun cdv A outer s H vs Q E hr h => ?_)
  · obtain ⟨a, us, b, rfl, _⟩ := h
    rfl
  · obtain ⟨a, us, b, rfl, ha, k⟩ := h
    obtain ⟨dx, r, g1, g2, asc, pos, len⟩ := id ha
    refine ⟨_, (pss_one (ps_ret (pe_makeH hc_Orders (hr.mono (by first | decide | omega)) (pa_cons (pe_callTy call_listT (by rfl) B.b_list (by decide +kernel) (pa_cons (pe_fldK (K := K) (pv 0)) pa_nil)) (pa_cons (pe_not (pe_fldK (K := K) (pv 0))) pa_nil))))), ?_⟩
    walk_at "go"
    intro e ne
    walk_at "go"
    have g1' := (Same.new0 (o := .lst (us.map V.int)) ne) _ _ g1
    walk_at "go"
    refine u_ord upd_same pos len fun c us' H' nc s' oc mc _ => ?_
    have e : us' = us := asc_ext oc.asc asc mc
    subst e
    exact k c H' (free_same (Same.new0 ne) nc) ((Same.new0 ne).trans s') oc
theorem ok_Orders___or__ {f : Addr} {fd : FuncData} (F : Fun K "__or__" "Orders.__or__" s_Orders___or__ f fd) (T_EITHER : TabAt K mg "EITHER" tOr2) (h_joined : Has P w K mg base "joined" 6 ["one", "two", "table"] (spJoined K C_Orders)) : FnOk P w K mg base CX0 7 f fd ["self", "other"] (spJoin2 C_Orders tOr2) := by
  refine F.ok sc_Orders___or__ (fun vs H Q E h => ?_) (fun cdv A outer s H vs Q E hr h => ?_)
  · obtain ⟨a1, a2, u1, u2, b1, b2, rfl, _⟩ := h
    rfl
  · obtain ⟨a1, a2, u1, u2, b1, b2, rfl, h1, h2, hn, k⟩ := h
    obtain ⟨tb, gT, hT⟩ := T_EITHER.ex
    refine ⟨_, (pss_one (ps_ret (pe_callH h_joined (hr.mono (by first | decide | omega)) (pa_cons (pv 0) (pa_cons (pv 1) (pa_cons (pe_glob (v := .ref tb) rfl gT rfl) pa_nil)))))), ?_⟩
    walk_at "go"
    exact ⟨a1, a2, tb, u1, u2, b1, b2, tOr2, rfl, h1, h2, hT, hn, k⟩
theorem ok_Orders___and__ {f : Addr} {fd : FuncData} (F : Fun K "__and__" "Orders.__and__" s_Orders___and__ f fd) (T_BOTH : TabAt K mg "BOTH" tAnd2) (h_joined : Has P w K mg base "joined" 6 ["one", "two", "table"] (spJoined K C_Orders)) : FnOk P w K mg base CX0 7 f fd ["self", "other"] (spJoin2 C_Orders tAnd2) := by
  refine F.ok sc_Orders___and__ (fun vs H Q E h => ?_) (fun cdv A outer s H vs Q E hr h => ?_)
  · obtain ⟨a1, a2, u1, u2, b1, b2, rfl, _⟩ := h
    rfl
  · obtain ⟨a1, a2, u1, u2, b1, b2, rfl, h1, h2, hn, k⟩ := h
    obtain ⟨tb, gT, hT⟩ := T_BOTH.ex
    refine ⟨_, (pss_one (ps_ret (pe_callH h_joined (hr.mono (by first | decide | omega)) (pa_cons (pv 0) (pa_cons (pv 1) (pa_cons (pe_glob (v := .ref tb) rfl gT rfl) pa_nil)))))), ?_⟩
    walk_at "go"
    exact ⟨a1, a2, tb, u1, u2, b1, b2, tAnd2, rfl, h1, h2, hT, hn, k⟩
theorem ok_Orders___sub__ {f : Addr} {fd : FuncData} (F : Fun K "__sub__" "Orders.__sub__" s_Orders___sub__ f fd) (T_FIRST_ALONE : TabAt K mg "FIRST_ALONE" tSub2) (h_joined : Has P w K mg base "joined" 6 ["one", "two", "table"] (spJoined K C_Orders)) : FnOk P w K mg base CX0 7 f fd ["self", "other"] (spJoin2 C_Orders tSub2) := by
  refine F.ok sc_Orders___sub__ (fun vs H Q E h => ?_) (fun cdv A outer s H vs Q E hr h => ?_)
  · obtain ⟨a1, a2, u1, u2, b1, b2, rfl, _⟩ := h
    rfl
  · obtain ⟨a1, a2, u1, u2, b1, b2, rfl, h1, h2, hn, k⟩ := h
    obtain ⟨tb, gT, hT⟩ := T_FIRST_ALONE.ex
    refine ⟨_, (pss_one (ps_ret (pe_callH h_joined (hr.mono (by first | decide | omega)) (pa_cons (pv 0) (pa_cons (pv 1) (pa_cons (pe_glob (v := .ref tb) rfl gT rfl) pa_nil)))))), ?_⟩
    walk_at "go"
    exact ⟨a1, a2, tb, u1, u2, b1, b2, tSub2, rfl, h1, h2, hT, hn, k⟩
theorem ok_Orders___xor__ {f : Addr} {fd : FuncData} (F : Fun K "__xor__" "Orders.__xor__" s_Orders___xor__ f fd) (T_JUST_ONE : TabAt K mg "JUST_ONE" tXor2) (h_joined : Has P w K mg base "joined" 6 ["one", "two", "table"] (spJoined K C_Orders)) : FnOk P w K mg base CX0 7 f fd ["self", "other"] (spJoin2 C_Orders tXor2) := by
  refine F.ok sc_Orders___xor__ (fun vs H Q E h => ?_) (fun cdv A outer s H vs Q E hr h => ?_)
  · obtain ⟨a1, a2, u1, u2, b1, b2, rfl, _⟩ := h
    rfl
  · obtain ⟨a1, a2, u1, u2, b1, b2, rfl, h1, h2, hn, k⟩ := h
    obtain ⟨tb, gT, hT⟩ := T_JUST_ONE.ex
    refine ⟨_, (pss_one (ps_ret (pe_callH h_joined (hr.mono (by first | decide | omega)) (pa_cons (pv 0) (pa_cons (pv 1) (pa_cons (pe_glob (v := .ref tb) rfl gT rfl) pa_nil)))))), ?_⟩
    walk_at "go"
    exact ⟨a1, a2, tb, u1, u2, b1, b2, tXor2, rfl, h1, h2, hT, hn, k⟩
end
end My

set_option Elab.async false
set_option linter.all false
set_option maxRecDepth 100000
set_option pp.deepTerms false
set_option pp.deepTerms.threshold 12
set_option pp.maxSteps 1200
namespace My
open PySem PySem.Spec PyProof.Rows L2
/-! ### divisors -/
def Dvs (N d : Int) (acc : List Int) : Prop := ∀ k, k ∈ acc ↔ 1 ≤ k ∧ k ∣ N ∧ (k < d ∨ N / k < d)
theorem div_of_mul {N k c : Int} (hk : 1 ≤ k) (e : N = k * c) : N / k = c := by rw [e]; exact Int.mul_ediv_cancel_left c (by omega)
theorem Dvs.start (N : Int) (h : 1 ≤ N) : Dvs N 1 [] := by
  intro k
  constructor
  · intro z; cases z
  · rintro ⟨a, ⟨c, e⟩, b⟩
    exfalso
    rcases b with b | b
    · omega
    · rw [div_of_mul a e] at b
      have : N ≤ 0 := by rw [e]; exact Int.mul_nonpos_of_nonneg_of_nonpos (by omega) (by omega)
      omega
theorem Dvs.yes {N d : Int} {acc : List Int} (h : Dvs N d acc) (hN : 1 ≤ N) (hd : 1 ≤ d) (dv : d ∣ N) : Dvs N (d + 1) (acc ++ [d, N / d]) := by
  obtain ⟨c, e⟩ := dv
  have ec := div_of_mul hd e
  have c1 : 1 ≤ c := by
    refine Decidable.byContradiction fun h => ?_
    have : N ≤ 0 := by rw [e]; exact Int.mul_nonpos_of_nonneg_of_nonpos (by omega) (by omega)
    omega
  have ed : N / c = d := div_of_mul c1 (by rw [e, Int.mul_comm])
  intro k
  rw [List.mem_append, h k, ec]
  simp only [List.mem_cons, List.not_mem_nil, or_false]
  constructor
  · rintro (⟨a, b, e'⟩ | rfl | rfl)
    · exact ⟨a, b, by omega⟩
    · exact ⟨hd, ⟨c, e⟩, .inl (by omega)⟩
    · exact ⟨c1, ⟨d, by rw [e, Int.mul_comm]⟩, .inr (by rw [ed]; omega)⟩
  · rintro ⟨a, ⟨j, ej⟩, b⟩
    have eN := div_of_mul a ej
    rw [eN] at b ⊢
    by_cases z : k < d ∨ j < d
    · exact .inl ⟨a, ⟨j, ej⟩, z⟩
    · right
      by_cases z1 : k = d
      · exact .inl z1
      · right
        have : j = d := by omega
        subst this
        rw [← ec, ej]
        exact (Int.mul_ediv_cancel _ (by omega)).symm
theorem Dvs.no {N d : Int} {acc : List Int} (h : Dvs N d acc) (dv : ¬ d ∣ N) : Dvs N (d + 1) acc := by
  intro k
  rw [h k]
  constructor
  · rintro ⟨a, b, e⟩; exact ⟨a, b, by omega⟩
  · rintro ⟨a, ⟨j, ej⟩, b⟩
    have eN := div_of_mul a ej
    refine ⟨a, ⟨j, ej⟩, ?_⟩
    rw [eN] at b ⊢
    by_cases z : k < d ∨ j < d
    · exact z
    · exfalso
      by_cases z1 : k = d
      · exact dv (z1 ▸ ⟨j, ej⟩)
      · have : j = d := by omega
        exact dv (this ▸ ⟨k, by rw [ej, Int.mul_comm]⟩)
theorem Dvs.all {N d : Int} {acc : List Int} (h : Dvs N d acc) (hN : 1 ≤ N) (hd : 1 ≤ d) (z : N < d * d) : ∀ k, k ∈ acc ↔ 1 ≤ k ∧ k ∣ N := by
  intro k
  rw [h k]
  constructor
  · rintro ⟨a, b, _⟩; exact ⟨a, b⟩
  · rintro ⟨a, ⟨j, ej⟩⟩
    refine ⟨a, ⟨j, ej⟩, ?_⟩
    rw [div_of_mul a ej]
    refine Decidable.byContradiction fun y => ?_
    have : d * d ≤ k * j := Int.mul_le_mul (by omega) (by omega) (by omega) (by omega)
    omega
/-- an ascending list of divisors of a number up to 10 ^ 6 has at most 2000 items -/
theorem asc_bound : ∀ (us : List Int) (lo hi : Int), us.Pairwise (· < ·) → (∀ k ∈ us, lo ≤ k ∧ k < hi) → lo ≤ hi → us.length ≤ (hi - lo).toNat
  | [], _, _, _, _, _ => by simp
  | u :: us, lo, hi, hp, hb, hl => by
    obtain ⟨h1, h2⟩ := List.pairwise_cons.mp hp
    have hu := hb u (.head _)
    have := asc_bound us (u + 1) hi h2 (fun k hk => ⟨h1 k hk, (hb k (.tail _ hk)).2⟩) (by omega)
    rw [List.length_cons]
    omega
/-- all members below: by an ascending list without repeats, a sublist of a given one -/
theorem dv_len {N : Int} {us : List Int} (hN : 1 ≤ N) (hN2 : N ≤ 1000000) (hp : us.Pairwise (· < ·)) (hm : ∀ k ∈ us, 1 ≤ k ∧ k ∣ N) : us.length ≤ 2000 := by
  have hs : us.length = (us.filter fun k => decide (k ≤ 1000)).length + (us.filter fun k => !decide (k ≤ 1000)).length := by
    clear hp hm
    induction us with
    | nil => rfl
    | cons u us ih => by_cases h : u ≤ 1000 <;> simp [List.filter_cons, h, ih] <;> omega
  have a : (us.filter fun k => decide (k ≤ 1000)).length ≤ 1000 := by
    have := asc_bound (us.filter fun k => decide (k ≤ 1000)) 1 1001 (hp.filter _) (fun k hk => by
      obtain ⟨h1, h2⟩ := List.mem_filter.mp hk
      have := of_decide_eq_true h2
      exact ⟨(hm k h1).1, by omega⟩) (by decide)
    exact this
  have b : (us.filter fun k => !decide (k ≤ 1000)).length ≤ 1000 := by
    have q : ((us.filter fun k => !decide (k ≤ 1000)).map fun k => -(N / k)).Pairwise (· < ·) := by
      rw [List.pairwise_map]
      refine (hp.filter _).imp_of_mem ?_
      intro x y hx hy hxy
      obtain ⟨x1, x2⟩ := List.mem_filter.mp hx
      obtain ⟨y1, y2⟩ := List.mem_filter.mp hy
      obtain ⟨xp, c, ec⟩ := hm x x1
      obtain ⟨yp, j, ej⟩ := hm y y1
      rw [div_of_mul xp ec, div_of_mul yp ej]
      have hj : j < c := by
        refine Decidable.byContradiction fun z => ?_
        have j1 : 1 ≤ j := by
          refine Decidable.byContradiction fun w => ?_
          have : y * j ≤ 0 := Int.mul_nonpos_of_nonneg_of_nonpos (by omega) (by omega)
          omega
        have : x * c ≤ x * j := Int.mul_le_mul_of_nonneg_left (by omega) (by omega)
        have : x * j < y * j := Int.mul_lt_mul_of_pos_right hxy (by omega)
        omega
      omega
    have := asc_bound _ (-1000) 0 q (fun z hz => by
      obtain ⟨k, hk, rfl⟩ := List.mem_map.mp hz
      obtain ⟨k1, k2⟩ := List.mem_filter.mp hk
      obtain ⟨kp, c, ec⟩ := hm k k1
      rw [div_of_mul kp ec]
      have k3 : ¬ k ≤ 1000 := by simpa using k2
      have c1 : 1 ≤ c := by
        refine Decidable.byContradiction fun w => ?_
        have : k * c ≤ 0 := Int.mul_nonpos_of_nonneg_of_nonpos (by omega) (by omega)
        omega
      have : 1001 * c ≤ k * c := Int.mul_le_mul_of_nonneg_right (by omega) (by omega)
      omega) (by decide)
    rw [List.length_map] at this
    exact this
  omega
/-! ### primes of the law -/
def lawPrimes : List Int := [2, 3, 5, 7, 11, 13, 17, 31, 97, 101, 499, 997, 1009, 5003, 99991, 333323, 999983]
def noDiv (p : Nat) : Bool := (List.range 1000).all fun d => d + 2 ≥ p || (d + 2) * (d + 2) > p || p % (d + 2) != 0
theorem lawPrimes_ok : (lawPrimes.all fun p => noDiv p.toNat && decide (2 ≤ p) && decide (p ≤ 999983)) = true := by decide +kernel
theorem prime_of_noDiv {p : Nat} (hp : noDiv p = true) (h2 : 2 ≤ p) (hb : p ≤ 999983) : ∀ d, d ∣ p → d = 1 ∨ d = p := by
  have key : ∀ d, 2 ≤ d → d < p → d * d ≤ p → ¬ d ∣ p := by
    intro d hd hl hs hv
    have hd3 : d < 1000 := by
      refine Decidable.byContradiction fun z => ?_
      have : 1000 * 1000 ≤ d * d := Nat.mul_le_mul (by omega) (by omega)
      omega
    have := List.all_eq_true.mp hp (d - 2) (List.mem_range.mpr (by omega))
    have e : d - 2 + 2 = d := by omega
    rw [e] at this
    have e2 : p % d = 0 := Nat.mod_eq_zero_of_dvd hv
    simp [e2] at this
    omega
  intro d hv
  have dp : 0 < d := Nat.pos_of_dvd_of_pos hv (by omega)
  have dl := Nat.le_of_dvd (by omega) hv
  refine Decidable.byContradiction fun z => ?_
  obtain ⟨c, e⟩ := hv
  have c0 : c ≠ 0 := by rintro rfl; omega
  have c1 : c ≠ 1 := by rintro rfl; omega
  by_cases hs : d * d ≤ p
  · exact key d (by omega) (by omega) hs ⟨c, e⟩
  · have cd : c < d := by
      refine Decidable.byContradiction fun w => ?_
      have : d * d ≤ d * c := Nat.mul_le_mul_left _ (by omega)
      omega
    have cc : c * c ≤ p := by rw [e]; exact Nat.mul_le_mul_right _ (by omega)
    have : c < p := by omega
    exact key c (by omega) this cc ⟨d, by rw [e, Nat.mul_comm]⟩
theorem lawPrimes_prime {p : Int} (h : p ∈ lawPrimes) : 2 ≤ p ∧ p ≤ 999983 ∧ ∀ d : Int, 1 ≤ d → d ∣ p → d = 1 ∨ d = p := by
  have := List.all_eq_true.mp lawPrimes_ok p h
  simp only [Bool.and_eq_true, decide_eq_true_eq] at this
  obtain ⟨⟨a, b⟩, c⟩ := this
  refine ⟨b, c, fun d hd hv => ?_⟩
  have hv' : d.toNat ∣ p.toNat := by
    obtain ⟨j, rfl⟩ := hv
    have j0 : 0 ≤ j := by
      refine Decidable.byContradiction fun w => ?_
      have : d * j ≤ 0 := Int.mul_nonpos_of_nonneg_of_nonpos (by omega) (by omega)
      omega
    exact ⟨j.toNat, by rw [Int.toNat_mul (by omega) j0]⟩
  rcases prime_of_noDiv a (by omega) (by omega) _ hv' with e | e
  · left; omega
  · right; omega
/-- the divisors of a number times a prime -/
theorem dv_mul_prime {m p k : Int} (hm : 1 ≤ m) (hp : p ∈ lawPrimes) (hk : 1 ≤ k) : k ∣ m * p ↔ k ∣ m ∨ ∃ j, 1 ≤ j ∧ j ∣ m ∧ k = p * j := by
  obtain ⟨p2, _, pp⟩ := lawPrimes_prime hp
  constructor
  · intro h
    by_cases z : p ∣ k
    · right
      obtain ⟨j, rfl⟩ := z
      have j1 : 1 ≤ j := by
        refine Decidable.byContradiction fun w => ?_
        have : p * j ≤ 0 := Int.mul_nonpos_of_nonneg_of_nonpos (by omega) (by omega)
        omega
      refine ⟨j, j1, ?_, rfl⟩
      rw [Int.mul_comm] at h
      exact Int.dvd_of_mul_dvd_mul_right (by omega : p ≠ 0) (by rwa [Int.mul_comm, Int.mul_comm m] at h ⊢) 
    · left
      have g1 : Int.gcd k p = 1 := by
        rcases pp (Int.gcd k p : Int) (by
          have : Int.gcd k p ≠ 0 := fun e => by have := (Int.gcd_eq_zero_iff.mp e).2; omega
          omega) (Int.gcd_dvd_right k p) with e | e
        · omega
        · exact absurd (e ▸ Int.gcd_dvd_left k p) z
      have g2 : (k : Int) ∣ (Int.gcd k (m * p) : Int) := Int.dvd_coe_gcd (Int.dvd_refl k) h
      rw [Int.gcd_mul_left_right_of_gcd_eq_one g1] at g2
      exact Int.dvd_trans g2 (Int.gcd_dvd_right k m)
  · rintro (h | ⟨j, _, ⟨c, rfl⟩, rfl⟩)
    · exact Int.dvd_trans h ⟨p, rfl⟩
    · exact ⟨c, by rw [Int.mul_assoc, Int.mul_comm c p, ← Int.mul_assoc, Int.mul_comm j p]⟩
theorem at_last {us : List Int} (h : us ≠ []) : ∃ z ∈ us, atI (us.map V.int) (-1) = some (.int z) := by
  have hl : 0 < us.length := List.length_pos_iff.mpr h
  refine ⟨us[us.length - 1], List.getElem_mem _, ?_⟩
  unfold atI ixN
  rw [List.length_map, if_neg (by decide), if_pos (by omega), show (-1 + (us.length : Int)).toNat = us.length - 1 by omega]
  show (us.map V.int)[us.length - 1]? = _
  rw [List.getElem?_map, List.getElem?_eq_getElem (by omega)]
  rfl
/-! ### promises -/
/-- the set of the divisors -/
def DvAt (n : Int) (us : List Int) (b : Bool) : Prop := (n = 0 ∧ us = [] ∧ b = true) ∨ (n ≠ 0 ∧ b = false ∧ ∀ k, k ∈ us ↔ 1 ≤ k ∧ k ∣ n)
def spDividing (C : Addr) : Sp := fun vs H Q _ => ∃ n : Int, vs = [.int n] ∧ -1000000 ≤ n ∧ n ≤ 1000000 ∧ ∀ a us b H', H a = none → Same H H' → OrdAt C H' a us b → DvAt n us b → us.length ≤ 2000 → Q (.ref a) H'
theorem u_divN {C : Addr} {H : Hp} {Q : VK} {E : XK} {n : Int} (n0 : n ≠ 0) (lo : -1000000 ≤ n) (hi : n ≤ 1000000) (q : ∀ a us H', H a = none → Same H H' → OrdAt C H' a us false → (∀ k, k ∈ us ↔ 1 ≤ k ∧ k ∣ n) → us.length ≤ 2000 → Q (.ref a) H') : spDividing C [.int n] H Q E := by
  refine ⟨n, rfl, lo, hi, fun a us b H' na s o d l => ?_⟩
  rcases d with ⟨z, _⟩ | ⟨_, rfl, m⟩
  · exact absurd z n0
  · exact q a us H' na s o m l
theorem u_div0 {C : Addr} {H : Hp} {Q : VK} {E : XK} (q : ∀ a H', H a = none → Same H H' → OrdAt C H' a [] true → Q (.ref a) H') : spDividing C [.int 0] H Q E := by
  refine ⟨0, rfl, by decide, by decide, fun a us b H' na s o d l => ?_⟩
  rcases d with ⟨_, rfl, rfl⟩ | ⟨z, _⟩
  · exact q a H' na s o
  · exact absurd rfl z
theorem r_lstRg2 {ta tb : TE} {σ : L2.St} {H : Hp} {Q : VK} (q : ta σ H fun x H1 => tb σ H1 fun y H2 => ∃ i j, x = .int i ∧ y = .int j ∧ RgOk i j ∧ ∀ q, H2 q = none → Q (.ref q) (upd H2 q (.lst (rgV i j)))) : tLstRg (tRg2 ta tb) σ H Q := q
theorem rgV_ints (a b : Int) : rgV a b = ((List.range (b - a).toNat).map fun i => a + (i : Nat)).map V.int := by
  unfold rgV
  rw [List.map_map]
  rfl
def spGcd : Sp := fun vs H Q _ => ∃ a b : Int, vs = [.int a, .int b] ∧ 1 ≤ a ∧ 0 ≤ b ∧ a ≤ 1000000 ∧ b ≤ 1000000 ∧ Q (.int (Int.gcd a b)) H
/-- a number and the list of its divisors -/
def BuiltAt (H : Hp) (t l : Addr) (m : Int) (us : List Int) : Prop := H t = some (.tup [.int m, .ref l]) ∧ H l = some (.lst (us.map V.int)) ∧ 1 ≤ m ∧ m ≤ 1000000 ∧ us.Pairwise (· < ·) ∧ (∀ k, k ∈ us ↔ 1 ≤ k ∧ k ∣ m) ∧ us.length ≤ 2000
def spBuilt : Sp := fun vs H Q _ => ∃ b, vs = [.ref b] ∧ Bag H b ∧ ∀ t l m us H', H l = none → l ≠ b → But b H H' → Bag H' b → BuiltAt H' t l m us → Q (.ref t) H'
end My

set_option Elab.async false
set_option linter.all false
set_option maxRecDepth 100000
set_option maxHeartbeats 8000000
set_option pp.deepTerms false
set_option pp.deepTerms.threshold 12
set_option pp.maxSteps 1200

namespace My
open PySem PySem.Spec PyProof.Rows L2
theorem iabs_eq (n : Int) : (if n < 0 then -n else n) = (n.natAbs : Int) := by split <;> omega
section
variable {P : Program} {w : World} {K : PySem.W.Frag} {mg : Str → Option Value} {base : Heap} {C_Orders : Addr}
local macro_rules | `(tactic| walk_at "isi") => `(tactic| (first
  | (with_reducible refine r_is_int_int ?_)
  | (with_reducible refine r_is_int_bool ?_)
  | (with_reducible refine r_is_int_str ?_)
  | (with_reducible refine r_is_int_list ?_)
  | (with_reducible refine r_is_int_tuple ?_)
  | (with_reducible refine r_is_bool_int ?_)
  | (with_reducible refine r_is_bool_bool ?_)
  | (with_reducible refine r_is_bool_str ?_)
  | (with_reducible refine r_is_bool_list ?_)
  | (with_reducible refine r_is_bool_tuple ?_)
  | (with_reducible refine r_is_str_int ?_)
  | (with_reducible refine r_is_str_bool ?_)
  | (with_reducible refine r_is_str_str ?_)
  | (with_reducible refine r_is_str_list ?_)
  | (with_reducible refine r_is_str_tuple ?_)
  | ((with_reducible refine r_is_list_int (xs := ?xx) ?hh ?_); (case hh => walk_at "hp"))
  | ((with_reducible refine r_is_list_bool (xs := ?xx) ?hh ?_); (case hh => walk_at "hp"))
  | ((with_reducible refine r_is_list_str (xs := ?xx) ?hh ?_); (case hh => walk_at "hp"))
  | ((with_reducible refine r_is_list_list (xs := ?xx) ?hh ?_); (case hh => walk_at "hp"))
  | ((with_reducible refine r_is_list_tuple (xs := ?xx) ?hh ?_); (case hh => walk_at "hp"))
  | ((with_reducible refine r_is_tuple_int (xs := ?xx) ?hh ?_); (case hh => walk_at "hp"))
  | ((with_reducible refine r_is_tuple_bool (xs := ?xx) ?hh ?_); (case hh => walk_at "hp"))
  | ((with_reducible refine r_is_tuple_str (xs := ?xx) ?hh ?_); (case hh => walk_at "hp"))
  | ((with_reducible refine r_is_tuple_list (xs := ?xx) ?hh ?_); (case hh => walk_at "hp"))
  | ((with_reducible refine r_is_tuple_tuple (xs := ?xx) ?hh ?_); (case hh => walk_at "hp"))
  | (with_reducible refine r_is_NoneType_int ?_)
  | (with_reducible refine r_is_NoneType_bool ?_)
  | (with_reducible refine r_is_NoneType_str ?_)
  | (with_reducible refine r_is_NoneType_list ?_)
  | (with_reducible refine r_is_NoneType_tuple ?_)))
local macro_rules | `(tactic| walk_at "ne") => `(tactic| first | assumption | (refine Ne.symm ?_; assumption) | exact Bag.ne (by assumption) (by assumption) | exact ne_of_none (by assumption) (by assumption))
local macro_rules | `(tactic| walk_at "hp") => `(tactic| (first
  | assumption
  | exact upd_same
  | (refine h_keep ?_ (by assumption); walk_at "hp")
  | (refine (upd_ne (by walk_at "ne")).trans ?_; walk_at "hp")
  | (refine Same.at (by assumption) ?_; walk_at "hp")
  | (refine But.at (by assumption) (by walk_at "ne") ?_; walk_at "hp")
  | (refine But2.at (by assumption) (by walk_at "ne") (by walk_at "ne") ?_; walk_at "hp")))
local macro_rules | `(tactic| walk_at "side") => `(tactic| first | assumption | omega | (refine ⟨?_, ?_⟩ <;> first | assumption | omega | decide) | decide | (refine ⟨by decide, by decide, by decide⟩) | (left; refine ⟨?_, ?_⟩ <;> first | omega | decide) | (right; refine ⟨?_, ?_⟩ <;> first | omega | decide) | (simp; done))
local macro_rules | `(tactic| walk_at "cond") => `(tactic| first | assumption | exact rfl | omega | (simp only [List.length_cons, List.length_nil]; omega) | decide +kernel)
local macro_rules | `(tactic| walk_at "s") => `(tactic| (first
  | ((with_reducible refine r_var (v := ?vv) ?ee ?_); (case ee => exact rfl))
  | (with_reducible refine r_c ?_)
  | (with_reducible refine r_op ?_)
  | (with_reducible refine r_un ?_)
  | (with_reducible refine r_rI0 ?_)
  | ((with_reducible refine r_rI ?cc ?_); (case cc => walk_at "side"))
  | (with_reducible refine r_rU ?_)
  | (with_reducible refine r_eqI ?_)
  | (with_reducible refine r_neI ?_)
  | (with_reducible refine r_eqB ?_)
  | (with_reducible refine r_neB ?_)
  | (with_reducible refine r_eqS ?_)
  | (with_reducible refine r_neS ?_)
  | ((with_reducible refine r_eq ?ee ?_); (case ee => exact rfl))
  | ((with_reducible refine r_ne ?ee ?_); (case ee => exact rfl))
  | ((with_reducible refine r_ixL (v := ?vv) (xs := ?xx) ?hh ?ee ?_); (case hh => (refine SqL.of ?_; walk_at "hp")); (case ee => exact rfl))
  | (with_reducible refine r_cb ?_)
  | (with_reducible refine r_call ?_)
  | (with_reducible refine r_cons ?_)
  | (with_reducible refine r_nil ?_)
  | (with_reducible refine r_lst ?_)
  | (with_reducible refine r_tup ?_)
  | ((with_reducible refine r_new ?cc ?_); (case cc => walk_at "side"))
  | (with_reducible refine r_exbl ?_)
  | (with_reducible refine r_exint ?_)
  | (with_reducible refine r_exint2 ?_)
  | (with_reducible refine r_exblL ?_)
  | (with_reducible refine r_ex2 ?_)
  | (with_reducible refine r_test ?_)
  | (with_reducible refine r_tB ?_)
  | (with_reducible refine r_not ?_)
  | (with_reducible refine r_and ?_)
  | (with_reducible refine r_or ?_)
  | (with_reducible refine r_andV ?_)
  | (with_reducible refine r_orV ?_)
  | (with_reducible refine r_notV ?_)
  | (with_reducible refine r_tif ?_)
  | (with_reducible refine r_iteT ?_)
  | (with_reducible refine r_iteNT ?_)
  | (with_reducible refine r_iteNF ?_)
  | (with_reducible refine r_iteF ?_)
  | (with_reducible refine r_seq ?_)
  | (with_reducible refine r_next ?_)
  | (with_reducible refine r_brk ?_)
  | (with_reducible refine r_cont ?_)
  | (with_reducible refine r_asg ?_)
  | (with_reducible refine r_gname ?_)
  | (with_reducible refine r_ret ?_)
  | (with_reducible refine r_retN ?_)
  | (with_reducible refine r_drop ?_)
  | (with_reducible refine r_if ?_)
  | ((with_reducible refine r_aug (x := ?xx) ?ee ?_); (case ee => exact rfl))
  | (with_reducible refine r_ipI ?_)
  | (with_reducible refine r_augS ?_)
  | (with_reducible refine r_gsub ?_)
  | ((with_reducible refine r_setL (xs := ?xx) (m := ?mm) ?hh ?ee ?_); (case hh => walk_at "hp"); (case ee => exact rfl))
  | (with_reducible refine r_par ?_)
  | (with_reducible refine r_bm ?_)
  | ((with_reducible refine r_tyL (xs := ?xx) ?hh ?_); (case hh => walk_at "hp"))
  | ((with_reducible refine r_append (xs := ?xx) ?hh ?ll ?_); (case hh => walk_at "hp"); (case ll => walk_at "side"))
  | (walk_at "isi")
  | (with_reducible refine r_for ?_)
  | (with_reducible refine r_iList ?_)
  | (with_reducible refine r_iTup ?_)
  | (with_reducible refine r_iR1 ?_)
  | (with_reducible refine r_iR2 ?_)
  | (with_reducible refine r_lc ?_)
  | (with_reducible refine r_yes ?_)
  | ((with_reducible refine r_lenS ?ll ?_); (case ll => walk_at "side"))
  | (with_reducible refine r_leS ?_)
  | (with_reducible refine r_chain ?_)
  | (with_reducible refine r_tM1 ?_)
  | (with_reducible refine r_exS ?_)
  | ((with_reducible refine r_tupL (xs := ?xx) ?hh ?_); (case hh => walk_at "hp"))
  | ((with_reducible refine r_listL (xs := ?xx) ?hh ?_); (case hh => walk_at "hp"))
  | ((with_reducible refine r_listT (xs := ?xx) ?hh ?_); (case hh => walk_at "hp"))
  | ((with_reducible refine r_ixT (v := ?vv) (xs := ?xx) ?hh ?ee ?_); (case hh => (refine SqT.of ?_; walk_at "hp")); (case ee => exact rfl))
  | (with_reducible refine r_sl ?_)
  | (with_reducible refine r_nopart ?_)
  | (with_reducible refine r_part ?_)
  | (with_reducible refine r_exI ?_)
  | ((with_reducible refine r_slL (xs := ?xx) ?hh ?_); (case hh => first | assumption | (refine SqL.of ?_; walk_at "hp") | (refine Same.seq (by assumption) (by assumption))))
  | ((with_reducible refine r_cat (xs := ?xx) (zs := ?zz) ?hh ?ii ?ll ?_); (case hh => walk_at "hp"); (case ii => walk_at "hp"); (case ll => walk_at "side"))
  | ((with_reducible refine r_lenL (xs := ?xx) ?hh ?_); (case hh => walk_at "hp"))
  | ((with_reducible refine r_lenT (xs := ?xx) ?hh ?_); (case hh => walk_at "hp"))
  | ((with_reducible refine r_gTup (xs := ?xx) ?hh ?ll ?_); (case hh => walk_at "hp"); (case ll => exact rfl))
  | (with_reducible refine r_gCons ?_)
  | (with_reducible refine r_gNil ?_)
  | ((with_reducible refine r_iteDT ?cc ?_); (case cc => walk_at "cond"))
  | ((with_reducible refine r_iteDF ?cc ?_); (case cc => walk_at "cond"))
  | ((with_reducible refine r_iteNDT ?cc ?_); (case cc => walk_at "cond"))
  | ((with_reducible refine r_iteNDF ?cc ?_); (case cc => walk_at "cond"))
  ))
local macro_rules | `(tactic| walk_at "go") => `(tactic| repeat (walk_at "s"))

local macro_rules | `(tactic| walk_at "s") => `(tactic| (first
  | (with_reducible refine r_dnew ?_)
  | (with_reducible refine r_dget2 ?_)
  | (with_reducible refine r_dget ?_)
  | (with_reducible refine r_dput ?_)
  | (with_reducible refine r_dsetd ?_)
  | ((with_reducible refine JarAt.isD (n := ?nn) (c := ?cc) ?hh ?_); (case hh => assumption))
  ))

local macro_rules | `(tactic| walk_at "s") => `(tactic| (first
  | (with_reducible refine r_prop ?_)
  | (with_reducible refine r_meth ?_)
  | (with_reducible refine r_make ?_)
  | (with_reducible refine r_fld ?_)
  | (with_reducible refine r_sfld ?_)
  | (with_reducible refine r_iOwn ?_)
  | ((with_reducible refine u_rowsAt (mg := ?mm) (C := ?CC) (dx := ?dd) (fv := ?vv) ?tt ?hh ?_); (case tt => assumption); (case hh => walk_at "hp"))
  | ((with_reducible refine r_isPoly (mg := ?mm) (dx := ?dd) (fs := ?ff) ?tt ?hh ?_); (case tt => assumption); (case hh => walk_at "hp"))
  | ((with_reducible refine r_isPolyI (mg := ?mm) ?tt ?_); (case tt => assumption))
  | ((with_reducible refine r_polyInt (mg := ?mm) (C := ?CC) (dx := ?dd) (fs := ?ff) ?tt ?hh ?_); (case tt => assumption); (case hh => walk_at "hp"))
  ))

local macro_rules | `(tactic| walk_at "s") => `(tactic| (first
  | (with_reducible refine r_makeD ?_)
  | (with_reducible refine r_notBl ?_)
  | (with_reducible refine r_makeN ?_)
  | (with_reducible refine r_cbk ?_)
  | ((with_reducible refine u_orows (mg := ?mm) (C := ?CC) (dx := ?dd) (r := ?rr) (b := ?bb) ?tt ?hh ?_); (case tt => assumption); (case hh => walk_at "hp"))
  | ((with_reducible refine u_oout (mg := ?mm) (C := ?CC) (dx := ?dd) (r := ?rr) (b := ?bb) ?tt ?hh ?_); (case tt => assumption); (case hh => walk_at "hp"))
  | ((with_reducible refine r_isOrd (mg := ?mm) (dx := ?dd) (fs := ?ff) ?tt ?hh ?_); (case tt => assumption); (case hh => walk_at "hp"))
  | ((with_reducible refine r_inT (us := ?uu) ?hh ?_); (case hh => walk_at "hp"))
  | ((with_reducible refine r_inL (us := ?uu) ?hh ?_); (case hh => walk_at "hp"))
  ))

def spPNum : Sp := fun vs H Q _ => ∃ n : Int, vs = [.int n] ∧ Q .non H
theorem ok_check_number {f : Addr} {fd : FuncData} (F : Fun K "check_number" "check_number" s_check_number f fd) (B : Bl mg) (h_is_integerT : Has P w K mg base "is_integer" 1 ["value"] (spIsIntT K)) : FnOk P w K mg base CX0 2 f fd ["value"] spPNum := by
  refine F.ok sc_check_number (fun vs H Q E h => ?_) (fun cdv A outer s H vs Q E hr h => ?_)
  · obtain ⟨n, rfl, _⟩ := h
    rfl
  · obtain ⟨n, rfl, k⟩ := h
    have h_is_integer := h_is_integerT
    refine ⟨_, (pss_one (ps_if (pt_not (pt_val (pe_callH h_is_integer (hr.mono (by first | decide | omega)) (pa_cons (pv 0) pa_nil))))
    (pss_one ps_never)
    pss_nil)), ?_⟩
    walk_at "go"
    refine u_isInt ?_
    walk_at "go"
    exact k
theorem ok_dividing {f : Addr} {fd : FuncData} (F : Fun K "dividing" "dividing" s_dividing f fd) (B : Bl mg) (bAbs : mg "abs" = none) (G_Orders : OrdT K mg C_Orders) (h_check_number : Has P w K mg base "check_number" 2 ["value"] spPNum)
   (hc_Orders : HasC P w K mg base "Orders" C_Orders 4 ["self", "listed", "others"] (spOInit C_Orders)) (hcd_Orders : HasCD P w K mg base "Orders" C_Orders 4 ["self", "listed", "others"] (spOInit C_Orders) [.bl false]) : FnOk P w K mg base CX0 6 f fd ["number"] (spDividing C_Orders) := by
  refine F.ok sc_dividing (fun vs H Q E h => ?_) (fun cdv A outer s H vs Q E hr h => ?_)
  · obtain ⟨n, rfl, _⟩ := h
    rfl
  · obtain ⟨n, rfl, nlo, nhi, k⟩ := h
    refine ⟨_, (pss_cons (ps_expr (pe_callH h_check_number (hr.mono (by first | decide | omega)) (pa_cons (pv 0) pa_nil)))
    (pss_cons (ps_if (pt_cmpR op_eq (pv 0) pe_int (nomark _))
    (pss_one (ps_ret (pe_makeH hc_Orders (hr.mono (by first | decide | omega)) (pa_cons (pe_lst pa_nil) (pa_cons pe_bl pa_nil)))))
    pss_nil)
    (pss_cons (ps_set (i := 1) sc_dividing.nd rfl (.inl rfl) (pe_lst pa_nil))
    (pss_cons (ps_set (i := 2) sc_dividing.nd rfl (.inl rfl) (pe_callB call_absA (by rfl) bAbs (by decide +kernel) (pa_cons (pv 0) pa_nil)))
    (pss_cons (ps_set (i := 3) sc_dividing.nd rfl (.inl rfl) pe_int)
    (pss_cons (ps_while PassesOwn.never (pt_cmpR op_le (pe_op op_mul (pv 3) (pv 3)) (pv 2) (nomark _))
    (pss_cons (ps_if (pt_cmpR op_eq (pe_op op_modN (pv 2) (pv 3)) pe_int (nomark _))
    (pss_one (ps_expr (pe_bm PySem.F.plainAttrs_list PySem.F.slot_list_extend PySem.F.type_list_extend mt_extend (pv 1) (pa_cons (pe_lst (pa_cons (pv 3) (pa_cons (pe_op op_fdivW (pv 2) (pv 3)) pa_nil))) pa_nil))))
    pss_nil)
    (pss_one (ps_aug (i := 3) sc_dividing.nd rfl (.inl rfl) pe_int ip_add))))
    (pss_one (ps_ret (pe_makeHD hcd_Orders (hr.mono (by first | decide | omega)) (pa_cons (pv 1) pa_nil)))))))))), ?_⟩
    walk_at "go"
    refine ⟨n, rfl, ?_⟩
    walk_at "go"
    refine r_iteD (fun h0 => ?_) (fun h0 => ?_)
    · walk_at "go"
      intro e ne
      walk_at "go"
      refine u_ord (ns := []) upd_same (by simp) (by simp) fun a us H' na s o m l => ?_
      have e0 : us = [] := List.eq_nil_iff_forall_not_mem.mpr fun z hz => by have := (m z).mp hz; cases this
      exact k a us true H' (free_same (Same.new0 ne) na) ((Same.new0 ne).trans s) o (.inl ⟨h0, e0, rfl⟩) (by rw [e0]; simp)
    walk_at "go"
    intro fo nfo
    walk_at "go"
    refine r_abs ?_
    rw [iabs_eq]
    have hN : 1 ≤ (n.natAbs : Int) := by omega
    have hN2 : (n.natAbs : Int) ≤ 1000000 := by omega
    have hdv : ∀ k : Int, k ∣ (n.natAbs : Int) ↔ k ∣ n := fun k => Int.dvd_natAbs
    generalize (n.natAbs : Int) = N at *
    walk_at "go"
    refine u_while (fun m σ H' => ∃ (d : Int) (acc : List Int), σ = [some (.int n), some (.ref fo), some (.int N), some (.int d)] ∧ (m : Int) + d = 1001 ∧ 1 ≤ d ∧ d ≤ 1001 ∧ Dvs N d acc ∧ (acc.length : Int) ≤ 2 * d ∧ Same H H' ∧ H' fo = some (.lst (acc.map V.int))) 1000 ?_ ?_
    · exact ⟨1, [], rfl, by omega, by omega, by omega, Dvs.start N hN, by simp, Same.new0 nfo, upd_same⟩
    rintro m σ H' ⟨d, acc, rfl, md, d1, d2, inv, al, sm, hf⟩
    have al2 : (acc.map V.int).length ≤ 2002 := by rw [List.length_map]; omega
    walk_at "go"
    refine r_iteD (fun hd => ?_) (fun hd => ?_)
    · refine u_turn ?_
      have dm : d ≤ 1000 := by
        refine Decidable.byContradiction fun h => ?_
        have : 1001 * 1001 ≤ d * d := Int.mul_le_mul (by omega) (by omega) (by omega) (by omega)
        omega
      obtain ⟨m', rfl⟩ : ∃ m', m = m' + 1 := ⟨m - 1, by omega⟩
      walk_at "go"
      rw [Int.fmod_eq_emod_of_nonneg _ (by omega : 0 ≤ d)]
      refine r_iteD (fun hz => ?_) (fun hz => ?_)
      · have hv : d ∣ N := Int.dvd_of_emod_eq_zero hz
        walk_at "go"
        refine r_rI ⟨by omega, log_small (Nat.lt_of_le_of_lt (by omega : d.natAbs ≤ 1001) (by decide +kernel))⟩ ?_
        walk_at "go"
        intro q nq
        have hf2 : (upd H' q (HO.lst [V.int d, V.int (N / d)])) fo = some (.lst (acc.map V.int)) := h_keep hf nq
        walk_at "go"
        refine r_extend hf2 upd_same (by simp only [List.length_cons, List.length_nil]; omega) ?_
        walk_at "go"
        refine ⟨m', by omega, d + 1, acc ++ [d, N / d], rfl, by omega, by omega, by omega, inv.yes hN d1 hv, by rw [List.length_append]; simp only [List.length_cons, List.length_nil]; omega, Same.put (sm.trans (Same.new0 nq)) nfo, ?_⟩
        rw [List.map_append]
        exact upd_same
      · have hv : ¬ d ∣ N := fun z => hz (Int.emod_eq_zero_of_dvd z)
        walk_at "go"
        exact ⟨m', by omega, d + 1, acc, rfl, by omega, by omega, by omega, inv.no hv, by omega, sm, hf⟩
    · walk_at "go"
      refine u_ord (ns := acc) hf (fun z hz => (inv z).mp hz |>.1) (by rw [List.length_map] at al2; omega) fun a us H2 na s o mm l => ?_
      have ma := inv.all hN d1 (by omega)
      have mem : ∀ k, k ∈ us ↔ 1 ≤ k ∧ k ∣ N := fun k => (mm k).trans (ma k)
      exact k a us false H2 (free_same sm na) (sm.trans s) o (.inr ⟨h0, rfl, fun k => by rw [mem, hdv]⟩) (dv_len hN hN2 o.asc fun k hk => (mem k).mp hk)
theorem ok_l_gcd {f : Addr} {fd : FuncData} (F : Fun K "_law_gcd" "_law_gcd" s_l_gcd f fd) (B : Bl mg) (bAbs : mg "abs" = none) : FnOk P w K mg base CX0 1 f fd ["_law_one", "_law_two"] spGcd := by
  refine F.ok sc_l_gcd (fun vs H Q E h => ?_) (fun cdv A outer s H vs Q E hr h => ?_)
  · obtain ⟨a, b, rfl, _⟩ := h
    rfl
  · obtain ⟨a, b, rfl, a1, b0, am, bm, k⟩ := h
    refine ⟨_, (pss_cons (ps_while PassesOwn.never (pt_cmpR op_ne (pv 1) pe_int (nomark _))
    (pss_one (ps_par (by rfl) sc_l_gcd.nd (i := 0) (j := 1) rfl rfl (by decide) rfl rfl (pa_cons (pv 1) (pa_cons (pe_op op_modN (pe_callTy call_intI (by rfl) B.b_int (by decide +kernel) (pa_cons (pv 0) pa_nil)) (pv 1)) pa_nil)) (by rfl))))
    (pss_one (ps_ret (pe_callB call_absA (by rfl) bAbs (by decide +kernel) (pa_cons (pv 0) pa_nil))))), ?_⟩
    walk_at "go"
    refine u_while (fun m σ H' => ∃ x y : Int, σ = [some (.int x), some (.int y)] ∧ 0 ≤ x ∧ 0 ≤ y ∧ x ≤ 1000000 ∧ y ≤ 1000000 ∧ (m : Int) = y ∧ Int.gcd x y = Int.gcd a b ∧ H' = H) b.toNat ⟨a, b, rfl, by omega, b0, am, bm, by omega, rfl, rfl⟩ ?_
    rintro m σ H' ⟨x, y, rfl, x0, y0, xm, ym, rfl, e, rfl⟩
    walk_at "go"
    refine r_iteN (fun hy => ?_) (fun hy => ?_)
    · refine u_turn ?_
      walk_at "go"
      rw [Int.fmod_eq_emod_of_nonneg _ y0]
      have l1 := Int.emod_nonneg x (b := (m : Int)) (by omega)
      have l2 := Int.emod_lt_of_pos x (b := (m : Int)) (by omega)
      refine ⟨(x % m).toNat, by omega, m, x % m, rfl, y0, l1, ym, by omega, by omega, ?_, rfl⟩
      rw [← e, Int.gcd_comm x m]
      obtain ⟨x', rfl⟩ := Int.eq_ofNat_of_zero_le x0
      rw [← Int.natCast_emod, Int.gcd_natCast_natCast, Int.gcd_natCast_natCast, Nat.gcd_comm m (x' % m), ← Nat.gcd_rec m x']
    · walk_at "go"
      refine r_abs ?_
      have : m = 0 := by omega
      subst this
      simp at e
      have e2 : ((Int.gcd a b : Nat) : Int) = x := by omega
      rw [iabs_eq]
      have : (x.natAbs : Int) = x := by omega
      rw [this, ← e2]
      exact k
theorem ok_l_built {f : Addr} {fd : FuncData} (F : Fun K "_law_built" "_law_built" s_l_built f fd) (B : Bl mg) (bSet : mg "set" = none) (bS : mg "sorted" = none) (h_l_pick : Has P w K mg base "_law_pick" 1 ["_law_bag", "_law_many"] spPick) : FnOk P w K mg base CX0 2 f fd ["_law_bag"] spBuilt := by
  refine F.ok sc_l_built (fun vs H Q E h => ?_) (fun cdv A outer s H vs Q E hr h => ?_)
  · obtain ⟨b, rfl, _⟩ := h
    rfl
  · obtain ⟨b, rfl, ba, k⟩ := h
    refine ⟨_, (pss_cons (ps_set (i := 1) sc_l_built.nd rfl (.inl rfl) (pe_lst (pa_cons pe_int (pa_cons pe_int (pa_cons pe_int (pa_cons pe_int (pa_cons pe_int (pa_cons pe_int (pa_cons pe_int (pa_cons pe_int (pa_cons pe_int (pa_cons pe_int (pa_cons pe_int (pa_cons pe_int (pa_cons pe_int (pa_cons pe_int (pa_cons pe_int (pa_cons pe_int (pa_cons pe_int pa_nil)))))))))))))))))))
    (pss_cons (ps_set (i := 2) sc_l_built.nd rfl (.inl rfl) pe_int)
    (pss_cons (ps_set (i := 3) sc_l_built.nd rfl (.inl rfl) (pe_lst (pa_cons pe_int pa_nil)))
    (pss_cons (ps_for PassesOwn.never rfl (pi_range1 (by rfl) B.b_range (pa_cons (pe_callH h_l_pick (hr.mono (by first | decide | omega)) (pa_cons (pv 0) (pa_cons pe_int pa_nil))) pa_nil)) (pg_name (i := 4) sc_l_built.nd rfl (.inl rfl))
    (pss_cons (ps_set (i := 5) sc_l_built.nd rfl (.inr rfl) (pe_ix (ix_listK (K := K)) (pv 1) (pe_ix (ix_listK (K := K)) (pe_lst (pa_cons (pe_callH h_l_pick (hr.mono (by first | decide | omega)) (pa_cons (pv 0) (pa_cons pe_int pa_nil))) (pa_cons (pe_callH h_l_pick (hr.mono (by first | decide | omega)) (pa_cons (pv 0) (pa_cons pe_int pa_nil))) pa_nil))) (pe_callH h_l_pick (hr.mono (by first | decide | omega)) (pa_cons (pv 0) (pa_cons pe_int pa_nil))) (fun _ _ => rfl)) (fun _ _ => rfl)))
    (pss_one (ps_if (pt_cmpR op_le (pe_op op_mul (pv 2) (pv 5)) (pe_op op_pow pe_int pe_int) (nomark _))
    (pss_cons (ps_set (i := 2) sc_l_built.nd rfl (.inl rfl) (pe_op op_mul (pv 2) (pv 5)))
    (pss_one (ps_set (i := 3) sc_l_built.nd rfl (.inl rfl) (pe_callB (call_sortSet (by rfl)) (by rfl) bS (by decide +kernel) (pa_cons (pe_callTy (call_setOfI (by rfl)) (by rfl) bSet (by decide +kernel) (pa_cons (pe_op op_cat (pv 3) (pe_lc (own := [("_law_each", 6)]) rfl sc_l_built.nd (pi_list (pv 3)) (blkOk_by (N := ["_law_bag", "_law_primes", "_law_made", "_law_some", "_law_k", "_law_one", "_law_each"]) (sc := defScope s_l_built) (by decide +kernel)) (fun _ _ _ _ _ => (pg_name (i := 6) sc_l_built.nd rfl (.inl rfl))) (fun _ _ _ _ _ => pts_nil) (fun _ _ _ _ _ => (pe_op op_mul (pv 5) (pv 6))))) pa_nil)) pa_nil)))))
    pss_nil))))
    (pss_one (ps_ret (pe_tup (pa_cons (pv 2) (pa_cons (pv 3) pa_nil))))))))), ?_⟩
    walk_at "go"
    intro pl npl
    walk_at "go"
    intro sl nsl
    have plb := ba.ne npl
    have b1 := ba.keep npl (o := .lst (lawPrimes.map V.int))
    have slb := b1.ne nsl
    have b2 := b1.keep nsl (o := .lst [V.int 1])
    have hpl : (upd (upd H pl (.lst (lawPrimes.map V.int))) sl (.lst [V.int 1])) pl = some (.lst (lawPrimes.map V.int)) := h_keep upd_same nsl
    have hsl : (upd (upd H pl (.lst (lawPrimes.map V.int))) sl (.lst [V.int 1])) sl = some (.lst ([(1 : Int)].map V.int)) := upd_same
    have s2 : Same H (upd (upd H pl (.lst (lawPrimes.map V.int))) sl (.lst [V.int 1])) := Same.new (Same.new0 npl) nsl
    have nsl0 : H sl = none := free_same (Same.new0 npl) nsl
    walk_at "go"
    refine u_pick b2 (by decide) (by decide) fun n H2 n0 n1 bu2 b3 => ?_
    have hpl2 := bu2 _ _ plb hpl
    have hsl2 := bu2 _ _ slb hsl
    walk_at "go"
    refine u_for1 ⟨by omega, by omega⟩ (fun i σ H' => ∃ (sl : Addr) (us : List Int) (m : Int) (y4 y5 y6 : Option V), σ = [some (.ref b), some (.ref pl), some (.int m), some (.ref sl), y4, y5, y6] ∧ H' pl = some (.lst (lawPrimes.map V.int)) ∧ H' sl = some (.lst (us.map V.int)) ∧ H sl = none ∧ sl ≠ b ∧ 1 ≤ m ∧ m ≤ 1000000 ∧ us.Pairwise (· < ·) ∧ (∀ k, k ∈ us ↔ 1 ≤ k ∧ k ∣ m) ∧ But b H H' ∧ Bag H' b) ?_ ?_ ?_
    · refine ⟨sl, [1], 1, _, _, _, rfl, hpl2, hsl2, nsl0, slb, by omega, by omega, by simp, fun k => ?_, (fun c o nc e => bu2 c o nc (s2 c o e)), b3⟩
      constructor
      · intro h
        rw [List.mem_singleton.mp h]
        exact ⟨by omega, Int.dvd_refl _⟩
      · rintro ⟨a, c⟩
        have := Int.le_of_dvd (by omega) c
        exact List.mem_singleton.mpr (by omega)
    · rintro i σ H' hi ⟨sl, us, m, y4, y5, y6, rfl, hp, hs, ns, slb, m1, m2, asc, mem, bu, bg⟩
      have ul := dv_len m1 m2 asc fun k hk => (mem k).mp hk
      walk_at "go"
      refine u_pick bg (by decide) (by decide) fun r1 H3 p0 p1 bu3 b3 => ?_
      have hp3 := bu3 _ _ plb hp
      have hs3 := bu3 _ _ slb hs
      walk_at "go"
      refine u_pick b3 (by decide) (by decide) fun r2 H4 q0 q1 bu4 b4 => ?_
      have hp4 := bu4 _ _ plb hp3
      have hs4 := bu4 _ _ slb hs3
      walk_at "go"
      intro l2 nl2
      have lb2 := b4.ne nl2
      have b5 := b4.keep nl2 (o := .lst [V.int r1, V.int r2])
      walk_at "go"
      refine u_pick b5 (by decide) (by decide) fun r3 H5 t0 t1 bu5 b6 => ?_
      have hp5 := bu5 _ _ plb (h_keep hp4 nl2)
      have hs5 := bu5 _ _ slb (h_keep hs4 nl2)
      have hl5 := bu5 _ _ lb2 upd_same
      have buA : But b H H5 := ((bu.trans (bu3.trans bu4)).new nl2).trans bu5
      have hr : ∃ r, atI [V.int r1, V.int r2] r3 = some (.int r) ∧ 0 ≤ r ∧ r < 17 := by
        rcases (by omega : r3 = 0 ∨ r3 = 1) with rfl | rfl
        · exact ⟨r1, rfl, p0, p1⟩
        · exact ⟨r2, rfl, q0, by omega⟩
      obtain ⟨r, er, r0, r17⟩ := hr
      walk_at "go"
      refine r_ixL (.of hl5) er ?_
      obtain ⟨v, hv, ev⟩ := at_ok (vs := lawPrimes.map V.int) r0 (by rw [List.length_map]; exact r17)
      obtain ⟨p, hpm, rfl⟩ := List.mem_map.mp hv
      refine r_ixL (.of hp5) ev ?_
      obtain ⟨p2, p3, _⟩ := lawPrimes_prime hpm
      clear hl5 er ev hv hp4 hs4 hp3 hs3 bu3 bu4 bu5 b3 b4 b5
      have mp1 : 1 ≤ m * p := by
        have := Int.mul_le_mul_of_nonneg_left p2 (by omega : 0 ≤ m)
        omega
      walk_at "go"
      refine r_iteD (fun hle => ?_) (fun hle => ?_)
      · rw [show (10 : Int) ^ Int.toNat 6 = 1000000 by decide] at hle
        walk_at "go"
        refine u_lcL (.of hs5) (fun D i acc H' => (acc = ((us.take i).map (p * ·)).map V.int ∧ i ≤ us.length) ∧ Same H5 H') ?_ ?_ ?_ ?_
        · exact fun D hD => ⟨⟨rfl, by omega⟩, Same.new0 hD⟩
        · exact fun D i acc H' _ _ ⟨_, s⟩ => .of (s _ _ hs5)
        · rintro D i v acc H' hD hv hacc ⟨⟨ea, _⟩, sm⟩
          obtain ⟨n, hn', rfl, hi2⟩ := map_at hv
          walk_at "go"
          refine ⟨rfl, ?_⟩
          walk_at "go"
          refine u_push hacc (by rw [ea, List.length_map, List.length_map, List.length_take]; omega) ⟨⟨?_, by omega⟩, Same.put sm hD⟩
          rw [ea, take_one hn', List.map_append, List.map_append]
          rfl
        · rintro D acc H6 hD hacc ⟨⟨ea, _⟩, s6⟩
          rw [List.length_map, List.take_length] at ea
          subst ea
          walk_at "go"
          have hs6 := s6 _ _ hs5
          refine r_cat (xs := us.map V.int) (zs := (us.map (p * ·)).map V.int) hs6 hacc (by simp only [List.length_map]; omega) fun e3 n3 => ?_
          rw [← List.map_append]
          walk_at "go"
          refine r_setI (w := w) upd_same (by rw [List.length_append, List.length_map]; omega) fun sp c nsp hc => ?_
          walk_at "go"
          refine ⟨sp, _, c, rfl, upd_same, fun rs q asc2 mem2 len2 nq => ?_⟩
          have s6' : Same H5 (upd (upd H6 e3 (.lst ((us ++ us.map (p * ·)).map V.int))) sp (SetO w sp (fun j => decide (j ∈ us ++ us.map (p * ·))) c)) := Same.new (s6.trans (Same.new0 n3)) nsp
          have s7 : Same H5 (upd (upd (upd H6 e3 (.lst ((us ++ us.map (p * ·)).map V.int))) sp (SetO w sp (fun j => decide (j ∈ us ++ us.map (p * ·))) c)) q (.lst (rs.map V.int))) := Same.new s6' nq
          have nq5 : H q = none := by
            refine Decidable.byContradiction fun z => ?_
            obtain ⟨o, ho⟩ := Option.ne_none_iff_exists'.mp z
            by_cases e : q = b
            · subst e
              obtain ⟨xs, hb⟩ := bag_lst b6
              have := s6' _ _ hb
              rw [this] at nq
              cases nq
            · have := s6' _ _ (buA _ _ e ho)
              rw [this] at nq
              cases nq
          have qb : q ≠ b := (b6.same s6').ne nq
          walk_at "go"
          refine ⟨q, rs, m * p, _, _, _, rfl, s7 _ _ hp5, upd_same, nq5, qb, mp1, hle, asc2, fun k => ?_, (fun c o nc e => s7 c o (buA c o nc e)), b6.same s7⟩
          rw [mem2 k, decide_eq_true_eq, List.mem_append, mem k, List.mem_map]
          constructor
          · rintro (⟨a, c⟩ | ⟨j, hj, rfl⟩)
            · exact ⟨a, (dv_mul_prime m1 hpm a).mpr (.inl c)⟩
            · obtain ⟨j1, j2⟩ := (mem j).mp hj
              have : 1 ≤ p * j := by
                have := Int.mul_le_mul_of_nonneg_left j1 (by omega : 0 ≤ p)
                omega
              exact ⟨this, (dv_mul_prime m1 hpm this).mpr (.inr ⟨j, j1, j2, rfl⟩)⟩
          · rintro ⟨a, c⟩
            rcases (dv_mul_prime m1 hpm a).mp c with c | ⟨j, j1, j2, rfl⟩
            · exact .inl ⟨a, c⟩
            · exact .inr ⟨j, (mem j).mpr ⟨j1, j2⟩, rfl⟩
      · walk_at "go"
        exact ⟨sl, us, m, _, _, _, rfl, hp5, hs5, ns, slb, m1, m2, asc, mem, buA, b6⟩
    · rintro σ H' ⟨sl, us, m, y4, y5, y6, rfl, hp, hs, ns, slb, m1, m2, asc, mem, bu, bg⟩
      walk_at "go"
      intro t nt
      have ul := dv_len m1 m2 asc fun k hk => (mem k).mp hk
      exact k t sl m us _ ns slb (bu.new nt) (bg.keep nt) ⟨upd_same, h_keep hs nt, m1, m2, asc, mem, ul⟩
end
end My

set_option Elab.async false
set_option linter.all false
set_option maxRecDepth 100000
set_option maxHeartbeats 8000000
set_option pp.deepTerms false
set_option pp.deepTerms.threshold 12
set_option pp.maxSteps 1200

namespace My
open PySem PySem.Spec PyProof.Rows L2
def NearM (N d : Int) (ns : List Int) : Prop := ∀ k, k ∈ ns ↔ 1 ≤ k ∧ k < d ∧ k * k ≤ N ∧ k ∣ N
theorem NearM.yes {N d : Int} {ns : List Int} (h : NearM N d ns) (d1 : 1 ≤ d) (h1 : d * d ≤ N) (h2 : d ∣ N) : NearM N (d + 1) (ns ++ [d]) := by
  intro k
  rw [List.mem_append, h k, List.mem_singleton]
  constructor
  · rintro (⟨a, b, c, e⟩ | rfl)
    · exact ⟨a, by omega, c, e⟩
    · exact ⟨d1, by omega, h1, h2⟩
  · rintro ⟨a, b, c, e⟩
    by_cases z : k = d
    · exact .inr z
    · exact .inl ⟨a, by omega, c, e⟩
theorem NearM.no {N d : Int} {ns : List Int} (h : NearM N d ns) (h1 : ¬ (d * d ≤ N ∧ d ∣ N)) : NearM N (d + 1) ns := by
  intro k
  rw [h k]
  constructor
  · rintro ⟨a, b, c, e⟩; exact ⟨a, by omega, c, e⟩
  · rintro ⟨a, b, c, e⟩
    by_cases z : k = d
    · subst z; exact absurd ⟨c, e⟩ h1
    · exact ⟨a, by omega, c, e⟩
theorem NearM.all {N : Int} {ns : List Int} (h : NearM N 1001 ns) (N1 : 1 ≤ N) (N2 : N ≤ 1000000) : ∀ k, 1 ≤ k ∧ k ∣ N ↔ k ∈ ns ++ ns.map (N / ·) := by
  intro k
  have sm : ∀ j : Int, 1 ≤ j → j * j ≤ N → j < 1001 := fun j j1 hj => by
    refine Decidable.byContradiction fun w => ?_
    have : 1001 * 1001 ≤ j * j := Int.mul_le_mul (by omega) (by omega) (by omega) (by omega)
    omega
  rw [List.mem_append, List.mem_map, h k]
  constructor
  · rintro ⟨a, j, ej⟩
    have j1 : 1 ≤ j := by
      refine Decidable.byContradiction fun w => ?_
      have : k * j ≤ 0 := Int.mul_nonpos_of_nonneg_of_nonpos (by omega) (by omega)
      omega
    by_cases z : k * k ≤ N
    · exact .inl ⟨a, sm k a z, z, j, ej⟩
    · right
      have jk : j ≤ k := by
        refine Decidable.byContradiction fun w => ?_
        have : k * k ≤ k * j := Int.mul_le_mul_of_nonneg_left (by omega) (by omega)
        omega
      have jj : j * j ≤ N := by rw [ej]; exact Int.mul_le_mul_of_nonneg_right jk (by omega)
      refine ⟨j, (h j).mpr ⟨j1, sm j j1 jj, jj, k, by rw [ej, Int.mul_comm]⟩, div_of_mul j1 (by rw [ej, Int.mul_comm])⟩
  · rintro (⟨a, _, _, c⟩ | ⟨j, hj, rfl⟩)
    · exact ⟨a, c⟩
    · obtain ⟨j1, _, _, c, ec⟩ := (h j).mp hj
      rw [div_of_mul j1 ec]
      have c1 : 1 ≤ c := by
        refine Decidable.byContradiction fun w => ?_
        have : j * c ≤ 0 := Int.mul_nonpos_of_nonneg_of_nonpos (by omega) (by omega)
        omega
      exact ⟨c1, j, by rw [ec, Int.mul_comm]⟩
theorem and_mem {u1 u2 us : List Int} (h : JoinM tAnd2 u1 u2 us false false) (k : Int) : k ∈ us ↔ k ∈ u1 ∧ k ∈ u2 := by
  have := h.inS k
  unfold inS tAnd2 at this
  simp at this
  rw [Bool.eq_iff_iff] at this
  simpa using this
section
variable {P : Program} {w : World} {K : PySem.W.Frag} {mg : Str → Option Value} {base : Heap} {C_Orders : Addr}
local macro_rules | `(tactic| walk_at "isi") => `(tactic| (first
  | (with_reducible refine r_is_int_int ?_)
  | (with_reducible refine r_is_int_bool ?_)
  | (with_reducible refine r_is_int_str ?_)
  | (with_reducible refine r_is_int_list ?_)
  | (with_reducible refine r_is_int_tuple ?_)
  | (with_reducible refine r_is_bool_int ?_)
  | (with_reducible refine r_is_bool_bool ?_)
  | (with_reducible refine r_is_bool_str ?_)
  | (with_reducible refine r_is_bool_list ?_)
  | (with_reducible refine r_is_bool_tuple ?_)
  | (with_reducible refine r_is_str_int ?_)
  | (with_reducible refine r_is_str_bool ?_)
  | (with_reducible refine r_is_str_str ?_)
  | (with_reducible refine r_is_str_list ?_)
  | (with_reducible refine r_is_str_tuple ?_)
  | ((with_reducible refine r_is_list_int (xs := ?xx) ?hh ?_); (case hh => walk_at "hp"))
  | ((with_reducible refine r_is_list_bool (xs := ?xx) ?hh ?_); (case hh => walk_at "hp"))
  | ((with_reducible refine r_is_list_str (xs := ?xx) ?hh ?_); (case hh => walk_at "hp"))
  | ((with_reducible refine r_is_list_list (xs := ?xx) ?hh ?_); (case hh => walk_at "hp"))
  | ((with_reducible refine r_is_list_tuple (xs := ?xx) ?hh ?_); (case hh => walk_at "hp"))
  | ((with_reducible refine r_is_tuple_int (xs := ?xx) ?hh ?_); (case hh => walk_at "hp"))
  | ((with_reducible refine r_is_tuple_bool (xs := ?xx) ?hh ?_); (case hh => walk_at "hp"))
  | ((with_reducible refine r_is_tuple_str (xs := ?xx) ?hh ?_); (case hh => walk_at "hp"))
  | ((with_reducible refine r_is_tuple_list (xs := ?xx) ?hh ?_); (case hh => walk_at "hp"))
  | ((with_reducible refine r_is_tuple_tuple (xs := ?xx) ?hh ?_); (case hh => walk_at "hp"))
  | (with_reducible refine r_is_NoneType_int ?_)
  | (with_reducible refine r_is_NoneType_bool ?_)
  | (with_reducible refine r_is_NoneType_str ?_)
  | (with_reducible refine r_is_NoneType_list ?_)
  | (with_reducible refine r_is_NoneType_tuple ?_)))
local macro_rules | `(tactic| walk_at "ne") => `(tactic| first | assumption | (refine Ne.symm ?_; assumption) | exact Bag.ne (by assumption) (by assumption) | exact ne_of_none (by assumption) (by assumption))
local macro_rules | `(tactic| walk_at "hp") => `(tactic| (first
  | assumption
  | exact upd_same
  | (refine h_keep ?_ (by assumption); walk_at "hp")
  | (refine (upd_ne (by walk_at "ne")).trans ?_; walk_at "hp")
  | (refine Same.at (by assumption) ?_; walk_at "hp")
  | (refine But.at (by assumption) (by walk_at "ne") ?_; walk_at "hp")
  | (refine But2.at (by assumption) (by walk_at "ne") (by walk_at "ne") ?_; walk_at "hp")))
local macro_rules | `(tactic| walk_at "side") => `(tactic| first | assumption | omega | (refine ⟨?_, ?_⟩ <;> first | assumption | omega | decide) | decide | (refine ⟨by decide, by decide, by decide⟩) | (left; refine ⟨?_, ?_⟩ <;> first | omega | decide) | (right; refine ⟨?_, ?_⟩ <;> first | omega | decide) | (simp; done))
local macro_rules | `(tactic| walk_at "cond") => `(tactic| first | assumption | exact rfl | omega | (simp only [List.length_cons, List.length_nil]; omega) | decide +kernel)
local macro_rules | `(tactic| walk_at "s") => `(tactic| (first
  | ((with_reducible refine r_var (v := ?vv) ?ee ?_); (case ee => exact rfl))
  | (with_reducible refine r_c ?_)
  | (with_reducible refine r_op ?_)
  | (with_reducible refine r_un ?_)
  | (with_reducible refine r_rI0 ?_)
  | ((with_reducible refine r_rI ?cc ?_); (case cc => walk_at "side"))
  | (with_reducible refine r_rU ?_)
  | (with_reducible refine r_eqI ?_)
  | (with_reducible refine r_neI ?_)
  | (with_reducible refine r_eqB ?_)
  | (with_reducible refine r_neB ?_)
  | (with_reducible refine r_eqS ?_)
  | (with_reducible refine r_neS ?_)
  | ((with_reducible refine r_eq ?ee ?_); (case ee => exact rfl))
  | ((with_reducible refine r_ne ?ee ?_); (case ee => exact rfl))
  | ((with_reducible refine r_ixL (v := ?vv) (xs := ?xx) ?hh ?ee ?_); (case hh => (refine SqL.of ?_; walk_at "hp")); (case ee => exact rfl))
  | (with_reducible refine r_cb ?_)
  | (with_reducible refine r_call ?_)
  | (with_reducible refine r_cons ?_)
  | (with_reducible refine r_nil ?_)
  | (with_reducible refine r_lst ?_)
  | (with_reducible refine r_tup ?_)
  | ((with_reducible refine r_new ?cc ?_); (case cc => walk_at "side"))
  | (with_reducible refine r_exbl ?_)
  | (with_reducible refine r_exint ?_)
  | (with_reducible refine r_exint2 ?_)
  | (with_reducible refine r_exblL ?_)
  | (with_reducible refine r_ex2 ?_)
  | (with_reducible refine r_test ?_)
  | (with_reducible refine r_tB ?_)
  | (with_reducible refine r_not ?_)
  | (with_reducible refine r_and ?_)
  | (with_reducible refine r_or ?_)
  | (with_reducible refine r_andV ?_)
  | (with_reducible refine r_orV ?_)
  | (with_reducible refine r_notV ?_)
  | (with_reducible refine r_tif ?_)
  | (with_reducible refine r_iteT ?_)
  | (with_reducible refine r_iteNT ?_)
  | (with_reducible refine r_iteNF ?_)
  | (with_reducible refine r_iteF ?_)
  | (with_reducible refine r_seq ?_)
  | (with_reducible refine r_next ?_)
  | (with_reducible refine r_brk ?_)
  | (with_reducible refine r_cont ?_)
  | (with_reducible refine r_asg ?_)
  | (with_reducible refine r_gname ?_)
  | (with_reducible refine r_ret ?_)
  | (with_reducible refine r_retN ?_)
  | (with_reducible refine r_drop ?_)
  | (with_reducible refine r_if ?_)
  | ((with_reducible refine r_aug (x := ?xx) ?ee ?_); (case ee => exact rfl))
  | (with_reducible refine r_ipI ?_)
  | (with_reducible refine r_augS ?_)
  | (with_reducible refine r_gsub ?_)
  | ((with_reducible refine r_setL (xs := ?xx) (m := ?mm) ?hh ?ee ?_); (case hh => walk_at "hp"); (case ee => exact rfl))
  | (with_reducible refine r_par ?_)
  | (with_reducible refine r_bm ?_)
  | ((with_reducible refine r_tyL (xs := ?xx) ?hh ?_); (case hh => walk_at "hp"))
  | ((with_reducible refine r_append (xs := ?xx) ?hh ?ll ?_); (case hh => walk_at "hp"); (case ll => walk_at "side"))
  | (walk_at "isi")
  | (with_reducible refine r_for ?_)
  | (with_reducible refine r_iList ?_)
  | (with_reducible refine r_iTup ?_)
  | (with_reducible refine r_iR1 ?_)
  | (with_reducible refine r_iR2 ?_)
  | (with_reducible refine r_lc ?_)
  | (with_reducible refine r_yes ?_)
  | ((with_reducible refine r_lenS ?ll ?_); (case ll => walk_at "side"))
  | (with_reducible refine r_leS ?_)
  | (with_reducible refine r_chain ?_)
  | (with_reducible refine r_tM1 ?_)
  | (with_reducible refine r_exS ?_)
  | ((with_reducible refine r_tupL (xs := ?xx) ?hh ?_); (case hh => walk_at "hp"))
  | ((with_reducible refine r_listL (xs := ?xx) ?hh ?_); (case hh => walk_at "hp"))
  | ((with_reducible refine r_listT (xs := ?xx) ?hh ?_); (case hh => walk_at "hp"))
  | ((with_reducible refine r_ixT (v := ?vv) (xs := ?xx) ?hh ?ee ?_); (case hh => (refine SqT.of ?_; walk_at "hp")); (case ee => exact rfl))
  | (with_reducible refine r_sl ?_)
  | (with_reducible refine r_nopart ?_)
  | (with_reducible refine r_part ?_)
  | (with_reducible refine r_exI ?_)
  | ((with_reducible refine r_slL (xs := ?xx) ?hh ?_); (case hh => first | assumption | (refine SqL.of ?_; walk_at "hp") | (refine Same.seq (by assumption) (by assumption))))
  | ((with_reducible refine r_cat (xs := ?xx) (zs := ?zz) ?hh ?ii ?ll ?_); (case hh => walk_at "hp"); (case ii => walk_at "hp"); (case ll => walk_at "side"))
  | ((with_reducible refine r_lenL (xs := ?xx) ?hh ?_); (case hh => walk_at "hp"))
  | ((with_reducible refine r_lenT (xs := ?xx) ?hh ?_); (case hh => walk_at "hp"))
  | ((with_reducible refine r_gTup (xs := ?xx) ?hh ?ll ?_); (case hh => walk_at "hp"); (case ll => exact rfl))
  | (with_reducible refine r_gCons ?_)
  | (with_reducible refine r_gNil ?_)
  | ((with_reducible refine r_iteDT ?cc ?_); (case cc => walk_at "cond"))
  | ((with_reducible refine r_iteDF ?cc ?_); (case cc => walk_at "cond"))
  | ((with_reducible refine r_iteNDT ?cc ?_); (case cc => walk_at "cond"))
  | ((with_reducible refine r_iteNDF ?cc ?_); (case cc => walk_at "cond"))
  ))
local macro_rules | `(tactic| walk_at "go") => `(tactic| repeat (walk_at "s"))

local macro_rules | `(tactic| walk_at "s") => `(tactic| (first
  | (with_reducible refine r_dnew ?_)
  | (with_reducible refine r_dget2 ?_)
  | (with_reducible refine r_dget ?_)
  | (with_reducible refine r_dput ?_)
  | (with_reducible refine r_dsetd ?_)
  | ((with_reducible refine JarAt.isD (n := ?nn) (c := ?cc) ?hh ?_); (case hh => assumption))
  ))

local macro_rules | `(tactic| walk_at "s") => `(tactic| (first
  | (with_reducible refine r_prop ?_)
  | (with_reducible refine r_meth ?_)
  | (with_reducible refine r_make ?_)
  | (with_reducible refine r_fld ?_)
  | (with_reducible refine r_sfld ?_)
  | (with_reducible refine r_iOwn ?_)
  | ((with_reducible refine u_rowsAt (mg := ?mm) (C := ?CC) (dx := ?dd) (fv := ?vv) ?tt ?hh ?_); (case tt => assumption); (case hh => walk_at "hp"))
  | ((with_reducible refine r_isPoly (mg := ?mm) (dx := ?dd) (fs := ?ff) ?tt ?hh ?_); (case tt => assumption); (case hh => walk_at "hp"))
  | ((with_reducible refine r_isPolyI (mg := ?mm) ?tt ?_); (case tt => assumption))
  | ((with_reducible refine r_polyInt (mg := ?mm) (C := ?CC) (dx := ?dd) (fs := ?ff) ?tt ?hh ?_); (case tt => assumption); (case hh => walk_at "hp"))
  ))

local macro_rules | `(tactic| walk_at "s") => `(tactic| (first
  | (with_reducible refine r_makeD ?_)
  | (with_reducible refine r_notBl ?_)
  | (with_reducible refine r_makeN ?_)
  | (with_reducible refine r_cbk ?_)
  | ((with_reducible refine u_orows (mg := ?mm) (C := ?CC) (dx := ?dd) (r := ?rr) (b := ?bb) ?tt ?hh ?_); (case tt => assumption); (case hh => walk_at "hp"))
  | ((with_reducible refine u_oout (mg := ?mm) (C := ?CC) (dx := ?dd) (r := ?rr) (b := ?bb) ?tt ?hh ?_); (case tt => assumption); (case hh => walk_at "hp"))
  | ((with_reducible refine r_isOrd (mg := ?mm) (dx := ?dd) (fs := ?ff) ?tt ?hh ?_); (case tt => assumption); (case hh => walk_at "hp"))
  | ((with_reducible refine r_inT (us := ?uu) ?hh ?_); (case hh => walk_at "hp"))
  | ((with_reducible refine r_inL (us := ?uu) ?hh ?_); (case hh => walk_at "hp"))
  ))

local macro_rules | `(tactic| walk_at "s") => `(tactic| (with_reducible refine r_lstRg2 ?_))
theorem ok_law {f : Addr} {fd : FuncData} (F : Fun K "law" "law" s_law f fd) (B : Bl mg) (G_Orders : OrdT K mg C_Orders)
   (h_l_bag_of : Has P w K mg base "_law_bag_of" 1 ["_law_cell"] spBagOf) (h_l_pick : Has P w K mg base "_law_pick" 1 ["_law_bag", "_law_many"] spPick) (h_l_built : Has P w K mg base "_law_built" 2 ["_law_bag"] spBuilt)
   (h_l_is_orders : Has P w K mg base "_law_is_orders" 4 ["_law_found", "_law_rows", "_law_beyond"] (spIsOrders C_Orders)) (h_l_tells : Has P w K mg base "_law_tells" 1 ["_law_found", "_law_due"] spTellsB) (h_l_gcd : Has P w K mg base "_law_gcd" 1 ["_law_one", "_law_two"] spGcd)
   (h_dividing : Has P w K mg base "dividing" 6 ["number"] (spDividing C_Orders)) (hk_dividing : HasK P w K mg base "dividing" 6 ["number"] (spDividing C_Orders))
   (hm_Orders___and__ : HasM P w K mg base C_Orders "__and__" 7 ["self", "other"] (spJoin2 C_Orders tAnd2)) (hm_Orders___contains__ : HasM P w K mg base C_Orders "__contains__" 3 ["self", "value"] (spContains K C_Orders))
   (hm_Orders___eq__ : HasM P w K mg base C_Orders "__eq__" 1 ["self", "other"] (spOEq K C_Orders)) : FnOk P w K mg base CX0 10 f fd ["_law_script"] (spLaw K) := by
  refine F.ok sc_law (fun vs H Q E h => ?_) (fun cdv A outer s H vs Q E hr h => ?_)
  · obtain ⟨a, ns, rfl, _⟩ := h
    rfl
  · obtain ⟨a, ns, rfl, hS, hlen, k⟩ := h
    refine ⟨_, (pss_cons (ps_set (i := 1) sc_law.nd rfl (.inl rfl) pe_int)
    (pss_cons (ps_for PassesOwn.never rfl (pi_list (pe_op op_cat (pe_lst (pa_cons (pv 1) pa_nil)) (pe_slice sl_list (pv 0) po_none (po_some pe_int)))) (pg_name (i := 2) sc_law.nd rfl (.inl rfl))
    (pss_cons (ps_set (i := 3) sc_law.nd rfl (.inl rfl) (pe_callH h_l_bag_of (hr.mono (by first | decide | omega)) (pa_cons (pv 2) pa_nil)))
    (pss_cons (ps_asg (pe_callH h_l_built (hr.mono (by first | decide | omega)) (pa_cons (pv 3) pa_nil)) (pg_tup (by rfl) (pgs_cons (pg_name (i := 4) sc_law.nd rfl (.inl rfl)) (pgs_cons (pg_name (i := 5) sc_law.nd rfl (.inl rfl)) pgs_nil))))
    (pss_cons (ps_asg (pe_callH h_l_built (hr.mono (by first | decide | omega)) (pa_cons (pv 3) pa_nil)) (pg_tup (by rfl) (pgs_cons (pg_name (i := 6) sc_law.nd rfl (.inl rfl)) (pgs_cons (pg_name (i := 7) sc_law.nd rfl (.inl rfl)) pgs_nil))))
    (pss_cons (ps_set (i := 8) sc_law.nd rfl (.inl rfl) (pe_op op_sub pe_int (pe_op op_mul pe_int (pe_callH h_l_pick (hr.mono (by first | decide | omega)) (pa_cons (pv 3) (pa_cons pe_int pa_nil))))))
    (pss_cons (ps_if (pt_not (pt_val (pe_callH h_l_is_orders (hr.mono (by first | decide | omega)) (pa_cons (pe_callH h_dividing (hr.mono (by first | decide | omega)) (pa_cons (pe_op op_mul (pv 8) (pv 4)) pa_nil)) (pa_cons (pv 5) (pa_cons pe_bl pa_nil))))))
    (pss_one (ps_ret pe_bl))
    pss_nil)
    (pss_cons (ps_if (pt_not (pt_val (pe_callH h_l_is_orders (hr.mono (by first | decide | omega)) (pa_cons (pe_callHK hk_dividing (hr.mono (by first | decide | omega)) (pk_cons (pe_op op_mul (pe_un un_neg (pv 8)) (pv 4)) pk_nil)) (pa_cons (pv 5) (pa_cons pe_bl pa_nil))))))
    (pss_one (ps_ret pe_bl))
    pss_nil)
    (pss_cons (ps_if (pt_not (pt_val (pe_callH h_l_is_orders (hr.mono (by first | decide | omega)) (pa_cons (pe_callH h_dividing (hr.mono (by first | decide | omega)) (pa_cons pe_int pa_nil)) (pa_cons (pe_lst pa_nil) (pa_cons pe_bl pa_nil))))))
    (pss_one (ps_ret pe_bl))
    pss_nil)
    (pss_cons (ps_set (i := 9) sc_law.nd rfl (.inl rfl) (pe_callH h_dividing (hr.mono (by first | decide | omega)) (pa_cons (pv 4) pa_nil)))
    (pss_cons (ps_for PassesOwn.never rfl (pi_list (pe_op op_cat (pe_listRg (by rfl) (by rfl) B.b_list (prg_2 (by rfl) B.b_range pe_int pe_int)) (pe_lst (pa_cons (pv 4) (pa_cons (pe_op op_add (pv 4) pe_int) (pa_cons (pe_op op_fdivW (pv 4) (pe_ix (ix_listK (K := K)) (pv 5) (pe_un un_neg pe_int) (fun _ _ => rfl))) pa_nil)))))) (pg_name (i := 10) sc_law.nd rfl (.inl rfl))
    (pss_one (ps_if (pt_not (pt_val (pe_callH h_l_tells (hr.mono (by first | decide | omega)) (pa_cons (pe_cmpR (op_inOwn hm_Orders___contains__ (hr.mono (by first | decide | omega))) (pv 10) (pv 9) (by rfl)) (pa_cons (pe_cmpR op_eq (pe_op op_modN (pe_callTy call_intI (by rfl) B.b_int (by decide +kernel) (pa_cons (pv 4) pa_nil)) (pv 10)) pe_int (nomark _)) pa_nil)))))
    (pss_one (ps_ret pe_bl))
    pss_nil)))
    (pss_cons (ps_set (i := 11) sc_law.nd rfl (.inr rfl) (pe_op op_add pe_int (pe_callH h_l_pick (hr.mono (by first | decide | omega)) (pa_cons (pv 3) (pa_cons (pe_op op_pow pe_int pe_int) pa_nil)))))
    (pss_cons (ps_setLc (i := 12) (own := [("_law_one", 10)]) rfl sc_law.nd rfl rfl (sw_true rfl rfl rfl (by decide +kernel)) (pi_range2 (by rfl) B.b_range (pa_cons pe_int (pa_cons pe_int pa_nil))) (blkOk_by (N := ["_law_script", "_law_great", "_law_cell", "_law_bag", "_law_made", "_law_some", "_law_also", "_law_more", "_law_sign", "_law_told", "_law_one", "_law_any_", "_law_near", "_law_both"]) (sc := defScope s_law) (by decide +kernel)) (fun _ _ _ _ _ => (pg_name (i := 10) sc_law.nd rfl (.inl rfl))) (fun _ _ _ _ _ => pts_one (PW.pt (pw_and (pt_cmpR op_le (pe_op op_mul (pv 10) (pv 10)) (pv 11) (nomark _)) (pw_and1 (pt_cmpR op_eq (pe_op op_modN (pe_callTy call_intI (by rfl) B.b_int (by decide +kernel) (pa_cons (pv 11) pa_nil)) (pv 10)) pe_int (nomark _)))))) (fun _ _ _ _ _ => (pv 10)))
    (pss_cons (ps_if (pt_not (pt_val (pe_callH h_l_is_orders (hr.mono (by first | decide | omega)) (pa_cons (pe_callH h_dividing (hr.mono (by first | decide | omega)) (pa_cons (pe_un un_neg (pv 11)) pa_nil)) (pa_cons (pe_op op_cat (pv 12) (pe_lc (own := [("_law_one", 10)]) rfl sc_law.nd (pi_list (pv 12)) (blkOk_by (N := ["_law_script", "_law_great", "_law_cell", "_law_bag", "_law_made", "_law_some", "_law_also", "_law_more", "_law_sign", "_law_told", "_law_one", "_law_any_", "_law_near", "_law_both"]) (sc := defScope s_law) (by decide +kernel)) (fun _ _ _ _ _ => (pg_name (i := 10) sc_law.nd rfl (.inl rfl))) (fun _ _ _ _ _ => pts_nil) (fun _ _ _ _ _ => (pe_op op_fdivW (pv 11) (pv 10))))) (pa_cons pe_bl pa_nil))))))
    (pss_one (ps_ret pe_bl))
    pss_nil)
    (pss_cons (ps_set (i := 13) sc_law.nd rfl (.inr rfl) (pe_callH h_l_gcd (hr.mono (by first | decide | omega)) (pa_cons (pv 4) (pa_cons (pv 6) pa_nil))))
    (pss_cons (ps_if (pt_not (pt_val (pe_callH h_l_is_orders (hr.mono (by first | decide | omega)) (pa_cons (pe_op (op_own2 (op := .BitAnd) hm_Orders___and__ G_Orders.self (hr.mono (by first | decide | omega))) (pv 9) (pe_callH h_dividing (hr.mono (by first | decide | omega)) (pa_cons (pv 6) pa_nil))) (pa_cons (pe_lc (own := [("_law_one", 10)]) rfl sc_law.nd (pi_list (pv 5)) (blkOk_by (N := ["_law_script", "_law_great", "_law_cell", "_law_bag", "_law_made", "_law_some", "_law_also", "_law_more", "_law_sign", "_law_told", "_law_one", "_law_any_", "_law_near", "_law_both"]) (sc := defScope s_law) (by decide +kernel)) (fun _ _ _ _ _ => (pg_name (i := 10) sc_law.nd rfl (.inl rfl))) (fun _ _ _ _ _ => pts_one (pt_cmpR op_eq (pe_op op_modN (pe_callTy call_intI (by rfl) B.b_int (by decide +kernel) (pa_cons (pv 13) pa_nil)) (pv 10)) pe_int (nomark _))) (fun _ _ _ _ _ => (pv 10))) (pa_cons pe_bl pa_nil))))))
    (pss_one (ps_ret pe_bl))
    pss_nil)
    (pss_one (ps_if (PW.pt (pw_or (pt_cmpR op_notBl (pe_cmpR (op_eqOwnK (K := K) hm_Orders___eq__ (hr.mono (by first | decide | omega))) (pe_op (op_own2 (op := .BitAnd) hm_Orders___and__ G_Orders.self (hr.mono (by first | decide | omega))) (pe_callH h_dividing (hr.mono (by first | decide | omega)) (pa_cons (pv 4) pa_nil)) (pe_callH h_dividing (hr.mono (by first | decide | omega)) (pa_cons (pv 6) pa_nil))) (pe_callH h_dividing (hr.mono (by first | decide | omega)) (pa_cons (pv 13) pa_nil)) (nomark _)) pe_bl (nomark _)) (pw_or1 (pt_not (pt_val (pe_callH h_l_is_orders (hr.mono (by first | decide | omega)) (pa_cons (pv 9) (pa_cons (pv 5) (pa_cons pe_bl pa_nil)))))))))
    (pss_one (ps_ret pe_bl))
    pss_nil)))))))))))))))))
    (pss_one (ps_ret pe_bl)))), ?_⟩
    walk_at "go"
    intro g ng
    walk_at "go"
    refine r_slL ((Same.new0 ng).seq hS) ?_
    intro c nc
    refine r_cat (xs := [.int _]) (zs := cutV (ns.map V.int) none (some 8)) (by walk_at "hp") upd_same ?_ ?_
    · have := cut_len (xs := ns.map V.int) none (some 8)
      rw [List.length_map] at this
      simp
      omega
    intro l nl
    have sl : ∀ H', Same (upd (upd (upd H g (HO.lst [V.int 150567343712666601136076661135818602501684199609359829239192511071094301060819378195459074221027])) c (.lst (cutV (ns.map V.int) none (some 8)))) l (.lst ([V.int 150567343712666601136076661135818602501684199609359829239192511071094301060819378195459074221027] ++ cutV (ns.map V.int) none (some 8)))) H' → H' l = some (.lst ([V.int 150567343712666601136076661135818602501684199609359829239192511071094301060819378195459074221027] ++ cutV (ns.map V.int) none (some 8))) := fun H' sm => sm _ _ upd_same
    generalize upd (upd (upd H g _) c _) l _ = H0 at *
    refine u_forL (SqL.of (sl H0 (Same.refl _))) (fun i σ H' => ∃ y0 y1 y2 y3 y4 y5 y6 y7 y8 y9 y10 y11 y12 y13 : Option V, σ = [y0, y1, y2, y3, y4, y5, y6, y7, y8, y9, y10, y11, y12, y13] ∧ Same H0 H') ⟨_, _, _, _, _, _, _, _, _, _, _, _, _, _, rfl, Same.refl _⟩ ?_ ?_ ?_
    · rintro i σ H' _ ⟨y0, y1, y2, y3, y4, y5, y6, y7, y8, y9, y10, y11, y12, y13, rfl, sm⟩
      exact SqL.of (sl H' sm)
    · rintro i x σ H0' hx ⟨y0, y1, y2, y3, y4, y5, y6, y7, y8, y9, y10, y11, y12, y13, rfl, sm_⟩
      obtain ⟨cell, rfl⟩ := cells_int hx
      walk_at "go"
      refine ⟨cell, rfl, fun b H1 nb s1 b1 => ?_⟩
      walk_at "go"
      refine ⟨b, rfl, b1, fun t1 l1 m us H2 nl1 lb1 bu2 b2 h1 => ?_⟩
      obtain ⟨ht1, hl1, m1, m2, asc1, mem1, len1⟩ := h1
      walk_at "go"
      refine ⟨b, rfl, b2, fun t2 l2 a2 vs H3 nl2 lb2 bu3 b3 h2 => ?_⟩
      obtain ⟨ht2, hl2, a1, am, asc2, mem2, len2⟩ := h2
      have hl13 := bu3 _ _ lb1 hl1
      walk_at "go"
      refine u_pick b3 (by decide) (by decide) fun s H4 s0 s2 bu4 b4 => ?_
      have hl14 := bu4 _ _ lb1 hl13
      have sA : Same H0' H4 := Same.but2 s1 nb (bu2.trans (bu3.trans bu4))
      clear bu2 bu3 bu4 b1 b2 b3 hl1 hl13 ht1 ht2 hl2
      have hd : ∀ k : Int, k ∣ (1 - 2 * s) * m ↔ k ∣ m := by
        intro k
        rcases (by omega : s = 0 ∨ s = 1) with rfl | rfl
        · rw [show (1 - 2 * 0 : Int) * m = m by omega]
        · rw [show (1 - 2 * 1 : Int) * m = -m by omega]; exact Int.dvd_neg
      have hd' : ∀ k : Int, k ∣ (-(1 - 2 * s)) * m ↔ k ∣ m := by
        intro k
        rcases (by omega : s = 0 ∨ s = 1) with rfl | rfl
        · rw [show (-(1 - 2 * 0) : Int) * m = -m by omega]; exact Int.dvd_neg
        · rw [show (-(1 - 2 * 1) : Int) * m = m by omega]
      have hb : (1 - 2 * s) * m ≠ 0 ∧ -1000000 ≤ (1 - 2 * s) * m ∧ (1 - 2 * s) * m ≤ 1000000 ∧ (-(1 - 2 * s)) * m ≠ 0 ∧ -1000000 ≤ (-(1 - 2 * s)) * m ∧ (-(1 - 2 * s)) * m ≤ 1000000 := by
        rcases (by omega : s = 0 ∨ s = 1) with rfl | rfl <;> omega
      obtain ⟨e1, e2, e3, e4, e5, e6⟩ := hb
      walk_at "go"
      refine u_divN e1 e2 e3 fun o1 u1 H5 no1 s5 oo5 me5 le5 => ?_
      walk_at "go"
      refine ⟨o1, l1, us, u1, false, rfl, oo5, s5 _ _ hl14, by omega, fun k => by rw [me5, hd, mem1], fun H6 s6 => ?_⟩
      have hl16 := s6 _ _ (s5 _ _ hl14)
      clear oo5 me5 le5 no1
      walk_at "go"
      refine u_divN e4 e5 e6 fun o1 u1 H7 no1 s7 oo7 me7 le7 => ?_
      have hl17 := s7 _ _ hl16
      walk_at "go"
      refine ⟨o1, l1, us, u1, false, rfl, oo7, hl17, by omega, fun k => by rw [me7, hd', mem1], fun H8 s8 => ?_⟩
      clear oo7 me7 le7 no1
      walk_at "go"
      refine u_div0 fun o1 H9 no1 s9 oo9 => ?_
      walk_at "go"
      intro e ne
      walk_at "go"
      refine ⟨o1, e, [], [], true, rfl, oo9.same (Same.new0 ne), upd_same, by simp, fun k => Iff.rfl, fun H10 s10 => ?_⟩
      clear oo9 no1
      walk_at "go"
      refine u_divN (by omega) (by omega) (by omega) fun o u4 H11 no1 s11 oo me le4 => ?_
      have sz : Same H4 H11 := s5.trans (s6.trans (s7.trans (s8.trans (s9.trans ((Same.new0 ne).trans (s10.trans s11))))))
      clear s5 s6 s7 s8 s9 s10 s11 hl16 hl17 no1 ne e1 e2 e3 e4 e5 e6 hd hd'
      rename Same H4 H11 => s5
      generalize H11 = H5 at *
      have hl15 := s5 _ _ hl14
      have b5 := b4.same s5
      have sB := sA.trans s5
      clear s5 sA b4 hl14
      walk_at "go"
      refine ⟨1, 41, rfl, rfl, RgOk.of_le (by decide) (by decide) (by decide) (by decide), fun q nq => ?_⟩
      obtain ⟨z, hz, ez⟩ := at_last (us := us) (fun e => by rw [e] at mem1; have := (mem1 1).mpr ⟨by omega, ⟨m, by omega⟩⟩; cases this)
      obtain ⟨z1, c, ec⟩ := (mem1 z).mp hz
      have zm : z ≤ m := Int.le_of_dvd (by omega) ⟨c, ec⟩
      have c1 : 1 ≤ c := by
        refine Decidable.byContradiction fun w => ?_
        have : z * c ≤ 0 := Int.mul_nonpos_of_nonneg_of_nonpos (by omega) (by omega)
        omega
      have hl16 : (upd H5 q (.lst (rgV 1 41))) l1 = some (.lst (us.map V.int)) := h_keep hl15 nq
      walk_at "go"
      refine r_ixL (.of hl16) ez ?_
      walk_at "go"
      refine r_rI ⟨by omega, log_small (Nat.lt_of_le_of_lt (by omega : z.natAbs ≤ 1000000) (by decide +kernel))⟩ ?_
      rw [div_of_mul z1 ec]
      walk_at "go"
      intro q2 nq2
      refine r_cat (xs := rgV 1 41) (zs := [.int m, .int (m + 1), .int c]) (h_keep upd_same nq2) upd_same (by rw [rgV_length]; simp) fun q3 nq3 => ?_
      have s6 : Same H5 (upd (upd (upd H5 q (.lst (rgV 1 41))) q2 (.lst [.int m, .int (m + 1), .int c])) q3 (.lst (rgV 1 41 ++ [.int m, .int (m + 1), .int c]))) := Same.new (Same.new (Same.new0 nq) nq2) nq3
      have hL : (upd (upd (upd H5 q (.lst (rgV 1 41))) q2 (.lst [.int m, .int (m + 1), .int c])) q3 (.lst (rgV 1 41 ++ [.int m, .int (m + 1), .int c]))) q3 = some (.lst (rgV 1 41 ++ [.int m, .int (m + 1), .int c])) := upd_same
      generalize upd (upd (upd H5 q (.lst (rgV 1 41))) q2 (.lst [.int m, .int (m + 1), .int c])) q3 (.lst (rgV 1 41 ++ [.int m, .int (m + 1), .int c])) = H6 at *
      have hin : ∀ v ∈ rgV 1 41 ++ [.int m, .int (m + 1), .int c], ∃ n : Int, v = .int n ∧ 1 ≤ n ∧ n ≤ 1000001 := by
        have cm : c ≤ m := Int.le_of_dvd (by omega) ⟨z, by rw [ec, Int.mul_comm]⟩
        intro v hv
        rcases List.mem_append.mp hv with hv | hv
        · rw [rgV_ints] at hv
          obtain ⟨n, hn, rfl⟩ := List.mem_map.mp hv
          obtain ⟨j, hj, rfl⟩ := List.mem_map.mp hn
          have := List.mem_range.mp hj
          exact ⟨_, rfl, by omega, by omega⟩
        · simp only [List.mem_cons, List.not_mem_nil, or_false] at hv
          rcases hv with rfl | rfl | rfl
          · exact ⟨_, rfl, by omega, by omega⟩
          · exact ⟨_, rfl, by omega, by omega⟩
          · exact ⟨_, rfl, by omega, by omega⟩
      have hl17 := s6 _ _ hl15
      have oo6 := oo.same s6
      have b6 := b5.same s6
      have sC := sB.trans s6
      clear s6 hl16 hl15 oo b5 sB hz ez ec
      generalize rgV 1 41 ++ [.int m, .int (m + 1), .int c] = xs at *
      refine u_forL (.of hL) (fun i σ H' => ∃ (w10 : Option V), Same H6 H' ∧ σ = [y0, y1, some (.int cell), some (.ref b), some (.int m), some (.ref l1), some (.int a2), some (.ref l2), some (.int (1 - 2 * s)), some (.ref o), w10, y11, y12, y13]) ?_ ?_ ?_ ?_
      · exact ⟨_, Same.refl _, rfl⟩
      · rintro i σ H' _ ⟨_, s, _⟩
        exact .of (s _ _ hL)
      · rintro i v σ H' hv ⟨w10, s, rfl⟩
        obtain ⟨n, rfl, n1, n2⟩ := hin v (List.mem_of_getElem? hv)
        have oo7 := oo6.same s
        obtain ⟨d1, r1, g1, _⟩ := id oo7
        walk_at "go"
        refine ⟨o, d1, _, rfl, g1, o, u4, false, _, rfl, oo7, .inl ⟨n, rfl, _, rfl, ?_⟩⟩
        walk_at "go"
        rw [Int.fmod_eq_emod_of_nonneg _ (by omega : 0 ≤ n)]
        walk_at "go"
        have et : (decide (1 ≤ n) && (decide (n ∈ u4) != false)) = decide (m % n = 0) := by
          rw [decide_eq_true n1]
          by_cases hv : n ∣ m
          · rw [decide_eq_true ((me n).mpr ⟨n1, hv⟩), decide_eq_true (Int.emod_eq_zero_of_dvd hv)]; rfl
          · rw [decide_eq_false fun z => hv ((me n).mp z).2, decide_eq_false fun z => hv (Int.dvd_of_emod_eq_zero z)]; rfl
        refine ⟨_, _, rfl, ?_⟩
        rw [decide_eq_true et]
        walk_at "go"
        exact ⟨_, s, rfl⟩
      · rintro σ H7 ⟨w10, s7, rfl⟩
        have hl18 := s7 _ _ hl17
        have oo7 := oo6.same s7
        have b7 := b6.same s7
        have sD := sC.trans s7
        clear s7 hl17 oo6 b6 sC hin hL
        walk_at "go"
        refine u_pick b7 (by decide) (by decide) fun an H8 an0 an1 bu8 b8 => ?_
        rw [show (10 : Int) ^ Int.toNat 6 = 1000000 by decide] at an1
        have hl19 := bu8 _ _ lb1 hl18
        have oo8 := oo7.stay (Stay.bag bu8 b7)
        have sE : Same H0' H8 := Same.but2 sD nb bu8
        clear hl18 oo7 b7 sD
        walk_at "go"
        refine u_lc2 (by decide) (fun D i acc H' => ∃ ns : List Int, (acc = ns.map V.int ∧ NearM (1 + an) (1 + (i : Int)) ns ∧ ns.length ≤ i ∧ i ≤ 1000) ∧ Same H8 H') ?_ ?_ ?_
        · refine fun D hD => ⟨[], ⟨rfl, fun k => ?_, by simp, by omega⟩, Same.new0 hD⟩
          constructor
          · intro z; cases z
          · rintro ⟨a, b, _⟩; omega
        · rintro D i acc H' hD hi hacc ⟨ns, ⟨rfl, hm, hl, _⟩, sm⟩
          walk_at "go"
          refine ⟨rfl, ?_⟩
          walk_at "go"
          have ei : 1 + ((i + 1 : Nat) : Int) = 1 + (i : Int) + 1 := by omega
          refine r_iteD (fun h1 => ?_) (fun h1 => ?_)
          · walk_at "go"
            rw [Int.fmod_eq_emod_of_nonneg _ (by omega)]
            refine r_iteD (fun h2 => ?_) (fun h2 => ?_)
            · walk_at "go"
              refine u_push hacc (by rw [List.length_map]; omega) ⟨ns ++ [1 + (i : Int)], ⟨by rw [List.map_append]; rfl, ?_, by rw [List.length_append, List.length_singleton]; omega, by omega⟩, Same.put sm hD⟩
              rw [ei]
              exact hm.yes (by omega) h1 (Int.dvd_of_emod_eq_zero h2)
            · refine u_skip hacc ⟨ns, ⟨rfl, ?_, by omega, by omega⟩, sm⟩
              rw [ei]
              exact hm.no fun z => h2 (Int.emod_eq_zero_of_dvd z.2)
          · walk_at "go"
            refine u_skip hacc ⟨ns, ⟨rfl, ?_, by omega, by omega⟩, sm⟩
            rw [ei]
            exact hm.no fun z => h1 z.1
        · rintro D acc H9 hD hacc ⟨ns, ⟨rfl, hm, hl, _⟩, s9⟩
          have hm : NearM (1 + an) 1001 ns := hm
          have hl : ns.length ≤ 1000 := hl
          have hl110 := s9 _ _ hl19
          have oo9 := oo8.same s9
          have b9 := b8.same s9
          have sF := sE.trans s9
          clear s9 hl19 oo8 b8 sE
          walk_at "go"
          refine u_divN (by omega) (by omega) (by omega) fun o5 u5 H10 no5 s10 oo10 me10 le10 => ?_
          have hl111 := s10 _ _ hl110
          have hD10 := s10 _ _ hacc
          walk_at "go"
          refine u_lcL (.of hD10) (fun D i acc H' => (acc = ((ns.take i).map ((1 + an) / ·)).map V.int ∧ i ≤ ns.length) ∧ Same H10 H') ?_ ?_ ?_ ?_
          · exact fun D hD => ⟨⟨rfl, by omega⟩, Same.new0 hD⟩
          · exact fun D i acc H' _ _ ⟨_, s⟩ => .of (s _ _ hD10)
          · rintro D2 i v acc H' hD2 hv hacc2 ⟨⟨ea, _⟩, sm⟩
            obtain ⟨n, hn', rfl, hi2⟩ := map_at hv
            walk_at "go"
            refine ⟨rfl, ?_⟩
            walk_at "go"
            obtain ⟨n1, n2, _⟩ := (hm n).mp (List.mem_of_getElem? hn')
            refine r_rI ⟨by omega, log_small (Nat.lt_of_le_of_lt (by omega : n.natAbs ≤ 1001) (by decide +kernel))⟩ ?_
            refine u_push hacc2 (by rw [ea, List.length_map, List.length_map, List.length_take]; omega) ⟨⟨?_, by omega⟩, Same.put sm hD2⟩
            rw [ea, take_one hn', List.map_append, List.map_append]
            rfl
          · rintro D2 acc H11 hD2 hacc2 ⟨⟨ea, _⟩, s11⟩
            rw [List.length_map, List.take_length] at ea
            subst ea
            have hD11 := s11 _ _ hD10
            walk_at "go"
            refine r_cat (xs := ns.map V.int) (zs := (ns.map ((1 + an) / ·)).map V.int) hD11 hacc2 (by simp only [List.length_map]; omega) fun e4 n4 => ?_
            rw [← List.map_append]
            walk_at "go"
            refine ⟨o5, e4, ns ++ ns.map ((1 + an) / ·), u5, false, rfl, oo10.same (s11.trans (Same.new0 n4)), upd_same, by rw [List.length_append, List.length_map]; omega, fun k => by rw [me10, Int.dvd_neg, hm.all (by omega) (by omega)], fun H12 s12 => ?_⟩
            have sN : Same H9 H12 := s10.trans (s11.trans ((Same.new0 n4).trans s12))
            have hl112 := sN _ _ hl110
            have oo12 := oo9.same sN
            have b12 := b9.same sN
            have sG := sF.trans sN
            clear sN s12 s11 s10 hD11 hD10 oo10 me10 le10 hacc2 hacc hm hl hl111 hl110 oo9 b9 sF n4 no5
            walk_at "go"
            refine ⟨m, a2, rfl, m1, by omega, m2, am, ?_⟩
            have hg : ∀ k : Int, k ∣ ((Int.gcd m a2 : Nat) : Int) ↔ k ∣ m ∧ k ∣ a2 := fun k => Int.dvd_coe_gcd_iff
            have g1 : 1 ≤ ((Int.gcd m a2 : Nat) : Int) := by
              have : Int.gcd m a2 ≠ 0 := fun e => by have := (Int.gcd_eq_zero_iff.mp e).1; omega
              omega
            have g2 : ((Int.gcd m a2 : Nat) : Int) ≤ 1000000 := Int.le_trans (Int.le_of_dvd (by omega) (Int.gcd_dvd_left m a2)) m2
            generalize ((Int.gcd m a2 : Nat) : Int) = gg at *
            walk_at "go"
            refine u_divN (by omega) (by omega) (by omega) fun o6 u6 H13 no6 s13 oo6' me6 le6 => ?_
            walk_at "go"
            refine u_j2 (oo12.same s13) oo6' (by omega) fun c7 u7 H14 no7 s14 oo7 j7 l7 => ?_
            have hl114 := s14 _ _ (s13 _ _ hl112)
            walk_at "go"
            refine u_lcL (.of hl114) (fun D i acc H' => (acc = ((us.take i).filter fun n => decide (gg % n = 0)).map V.int ∧ i ≤ us.length) ∧ Same H14 H') ?_ ?_ ?_ ?_
            · exact fun D hD => ⟨⟨rfl, by omega⟩, Same.new0 hD⟩
            · exact fun D i acc H' _ _ ⟨_, s⟩ => .of (s _ _ hl114)
            · rintro D3 i v acc H' hD3 hv hacc3 ⟨⟨ea, _⟩, sm⟩
              obtain ⟨n, hn', rfl, hi2⟩ := map_at hv
              obtain ⟨n1, n2⟩ := (mem1 n).mp (List.mem_of_getElem? hn')
              walk_at "go"
              refine ⟨rfl, ?_⟩
              walk_at "go"
              rw [Int.fmod_eq_emod_of_nonneg _ (by omega)]
              have al : acc.length ≤ i := by
                rw [ea, List.length_map]
                exact Nat.le_trans (List.length_filter_le _ _) (by rw [List.length_take]; omega)
              refine r_iteD (fun he => ?_) (fun he => ?_)
              · walk_at "go"
                refine u_push hacc3 (by omega) ⟨⟨?_, by omega⟩, Same.put sm hD3⟩
                rw [ea, take_one hn', List.filter_append, List.map_append, List.filter_cons_of_pos (p := fun n => decide (gg % n = 0)) (decide_eq_true he)]
                rfl
              · refine u_skip hacc3 ⟨⟨?_, by omega⟩, sm⟩
                rw [ea, take_one hn', List.filter_append, List.filter_cons_of_neg (p := fun n => decide (gg % n = 0)) (by simpa using he), List.filter_nil, List.append_nil]
            · rintro D3 acc H15 hD3 hacc3 ⟨⟨ea, _⟩, s15⟩
              rw [List.length_map, List.take_length] at ea
              subst ea
              walk_at "go"
              have fl := List.length_filter_le (fun n => decide (gg % n = 0)) us
              refine ⟨c7, D3, us.filter fun n => decide (gg % n = 0), u7, false, rfl, oo7.same s15, hacc3, by omega, fun k => ?_, fun H16 s16 => ?_⟩
              · rw [and_mem j7, me, me6, List.mem_filter, mem1, decide_eq_true_eq]
                constructor
                · rintro ⟨⟨a, b⟩, _, c⟩
                  exact ⟨⟨a, b⟩, Int.emod_eq_zero_of_dvd ((hg k).mpr ⟨b, c⟩)⟩
                · rintro ⟨⟨a, b⟩, c⟩
                  exact ⟨⟨a, b⟩, a, ((hg k).mp (Int.dvd_of_emod_eq_zero c)).2⟩
              have sN : Same H12 H16 := s13.trans (s14.trans (s15.trans s16))
              have hl116 := sN _ _ hl112
              have oo16 := oo12.same sN
              have sH := sG.trans sN
              clear sN s16 s15 s14 s13 oo7 j7 l7 oo6' me6 le6 hacc3 hl114 hl112 oo12 b12 sG no6 no7
              walk_at "go"
              refine u_divN (by omega) (by omega) (by omega) fun o8 u8 H17 no8 s17 oo8' me8 le8 => ?_
              walk_at "go"
              refine u_divN (by omega) (by omega) (by omega) fun o9 u9 H18 no9 s18 oo9' me9 le9 => ?_
              walk_at "go"
              refine u_j2 (oo8'.same s18) oo9' (by omega) fun c10 u10 H19 no10 s19 oo10 j10 l10 => ?_
              walk_at "go"
              refine u_divN (by omega) (by omega) (by omega) fun o11 u11 H20 no11 s20 oo11 me11 le11 => ?_
              have eq : u10 = u11 := asc_ext oo10.asc oo11.asc fun k => by
                rw [and_mem j10, me8, me9, me11, hg]
                exact ⟨fun ⟨⟨a, b⟩, _, c⟩ => ⟨a, b, c⟩, fun ⟨a, b, c⟩ => ⟨⟨a, b⟩, a, c⟩⟩
              refine u_oeq2 G_Orders (oo10.same s20) oo11 ?_
              rw [decide_eq_true eq]
              walk_at "go"
              have sN : Same H16 H20 := s17.trans (s18.trans (s19.trans s20))
              refine ⟨o, l1, us, u4, false, rfl, oo16.same sN, sN _ _ hl116, by omega, fun k => by rw [me, mem1], fun H21 s21 => ?_⟩
              walk_at "go"
              exact ⟨_, _, _, _, _, _, _, _, _, _, _, _, _, _, rfl, sm_.trans (sH.trans (sN.trans s21))⟩
    · rintro σ H' ⟨y0, y1, y2, y3, y4, y5, y6, y7, y8, y9, y10, y11, y12, y13, rfl, sm⟩
      walk_at "go"
      exact k _
end
end My

set_option Elab.async false
set_option linter.all false
set_option maxRecDepth 100000
set_option maxHeartbeats 4000000

namespace My
open PySem PySem.Spec PyProof.Rows L2
structure BlA (mg : Str → Option Value) : Prop where
  b_abs : mg "abs" = none
  b_iter : mg "iter" = none
  b_set : mg "set" = none
  b_sorted : mg "sorted" = none
theorem all_mk {l : PySem.W.OpenLaw} {w : World} {K : PySem.W.Frag} {h : Heap} {mg : Str → Option Value} {fa f1 f2 f3 f4 f5 f6 f7 f8 f9 f10 f11 f12 f13 f14 f15 f16 f17 f18 f19 f20 f21 f22 f23 f24 f25 f26 : Addr} (X : K.In h) (G : h.Ns mainGlobals mg) (hfa : mg "law" = some (.ref fa))
    {od1 an1 od2 an2 od3 an3 od4 an4 od5 an5 od6 an6 od7 an7 od8 an8 od9 an9 od10 an10 od11 an11 od12 an12 od13 an13 od14 an14 od15 an15 od16 an16 od17 an17 od18 an18 od19 an19 od20 an20 od21 an21 od22 an22 od23 an23 od24 an24 od25 an25 od26 an26 : Option Addr} {sl1 sl2 sl3 sl4 sl5 sl6 sl7 sl8 sl9 sl10 sl11 sl12 sl13 sl14 sl15 sl16 sl17 sl18 sl19 sl20 sl21 sl22 sl23 sl24 sl25 sl26 : Array (Option Value)} {oc1 kV1 dc1 pm1 cd1 ct1 oc2 kV2 dc2 pm2 cd2 ct2 oc3 kV3 dc3 pm3 cd3 ct3 oc4 kV4 dc4 pm4 cd4 ct4 oc5 kV5 dc5 pm5 cd5 ct5 oc6 kV6 dc6 pm6 cd6 ct6 oc7 kV7 dc7 pm7 cd7 ct7 oc8 kV8 dc8 pm8 cd8 ct8 oc9 kV9 dc9 pm9 cd9 ct9 oc10 kV10 dc10 pm10 cd10 ct10 oc11 kV11 dc11 pm11 cd11 ct11 oc12 kV12 dc12 pm12 cd12 ct12 oc13 kV13 dc13 pm13 cd13 ct13 oc14 kV14 dc14 pm14 cd14 ct14 oc15 kV15 dc15 pm15 cd15 ct15 oc16 kV16 dc16 pm16 cd16 ct16 oc17 kV17 dc17 pm17 cd17 ct17 oc18 kV18 dc18 pm18 cd18 ct18 oc19 kV19 dc19 pm19 cd19 ct19 oc20 kV20 dc20 pm20 cd20 ct20 oc21 kV21 dc21 pm21 cd21 ct21 oc22 kV22 dc22 pm22 cd22 ct22 oc23 kV23 dc23 pm23 cd23 ct23 oc24 kV24 dc24 pm24 cd24 ct24 oc25 kV25 dc25 pm25 cd25 ct25 oc26 kV26 dc26 pm26 cd26 ct26 : Value}
    {C_Orders : Addr} {cdO : ClassData} {dEITHER : Addr} {nEITHER : Nat} {sEITHER : Array (Option Value)} {ddEITHER : Option Addr} {dBOTH : Addr} {nBOTH : Nat} {sBOTH : Array (Option Value)} {ddBOTH : Option Addr} {dFIRST_ALONE : Addr} {nFIRST_ALONE : Nat} {sFIRST_ALONE : Array (Option Value)} {ddFIRST_ALONE : Option Addr} {dJUST_ONE : Addr} {nJUST_ONE : Nat} {sJUST_ONE : Array (Option Value)} {ddJUST_ONE : Option Addr} 
    {DT20 : Addr} {dn20 : Nat} {ds20 : Array (Option Value)} {dd20 : Option Addr}
    (aCO : PySem.W.nsIn K mainGlobals "Orders" = some (some (.ref C_Orders)))
    (pgO : PySem.W.plainGet K C_Orders Str.empty = true)
    (hdO : PySem.W.hasDictIn K C_Orders = true)
    (poO : PySem.W.plainOver K C_Orders = true)
    (saO : PySem.W.findIn K (.ref C_Orders) "__setattr__" = some (some (.builtin "object.__setattr__")))
    (mk_Orders : PySem.W.makesIn K C_Orders = true)
    (kc_Orders : PySem.W.keepIn K (.ref C_Orders) = true)
    (nRO : PySem.W.findIn K (.ref C_Orders) "rows" = some none)
    (nOO : PySem.W.findIn K (.ref C_Orders) "outside" = some none)
    (sfO : PySem.W.selfFirst K C_Orders = true)
    (icO : PySem.W.clsIn K C_Orders = some cdO)
    (moO : cdO.mro = [.ref C_Orders, .type "object"])
    (caO : PySem.W.findIn K (.ref C_Orders) "__class__" = some (some (.builtin "object.__class__")))
    (cnO : PySem.W.specialIn K (.builtin "object.__class__") "__get__" = some (some (.builtin "getset_descriptor.__get__")))
    (ctO : PySem.W.takesIn K (.builtin "object.__class__") = some true)
    (cmO : PySem.W.mroIn K C_Orders (.type "object") = some true)
    (tyO : PySem.W.typeIn K (.ref C_Orders) = some (.type "type"))
    (s1O : PySem.W.subIn K (.type "int") (.ref C_Orders) = some false)
    (s2O : PySem.W.subIn K (.type "bool") (.ref C_Orders) = some false)
    (s3O : PySem.W.subIn K (.type "str") (.ref C_Orders) = some false)
    (s4O : PySem.W.subIn K (.type "list") (.ref C_Orders) = some false)
    (s5O : PySem.W.subIn K (.type "tuple") (.ref C_Orders) = some false)
    (s6O : PySem.W.subIn K (.type "NoneType") (.ref C_Orders) = some false)
    (t1O : PySem.W.subIn K (.ref C_Orders) (.type "int") = some false)
    (t2O : PySem.W.subIn K (.ref C_Orders) (.type "bool") = some false)
    (t3O : PySem.W.subIn K (.ref C_Orders) (.type "list") = some false)
    (t4O : PySem.W.subIn K (.ref C_Orders) (.type "tuple") = some false)
    (a1 : PySem.W.nsIn K mainGlobals "_law_bag_of" = some (some (.ref f1))) (l1 : K.lookup f1 = some ⟨oc1, od1, .func (PySem.W.fnOf "_law_bag_of" "_law_bag_of" (defArgs s_l_bag_of) (defBody s_l_bag_of) (defScope s_l_bag_of) .none kV1 dc1 pm1 an1 cd1 ct1), sl1⟩) (c1 : PySem.W.codeIn K cd1 "_law_bag_of" = true) (k1 : PySem.W.keepIn K (.ref f1) = true)
    (a2 : PySem.W.nsIn K mainGlobals "_law_pick" = some (some (.ref f2))) (l2 : K.lookup f2 = some ⟨oc2, od2, .func (PySem.W.fnOf "_law_pick" "_law_pick" (defArgs s_l_pick) (defBody s_l_pick) (defScope s_l_pick) .none kV2 dc2 pm2 an2 cd2 ct2), sl2⟩) (c2 : PySem.W.codeIn K cd2 "_law_pick" = true) (k2 : PySem.W.keepIn K (.ref f2) = true)
    (a3 : PySem.W.nsIn K mainGlobals "_law_built" = some (some (.ref f3))) (l3 : K.lookup f3 = some ⟨oc3, od3, .func (PySem.W.fnOf "_law_built" "_law_built" (defArgs s_l_built) (defBody s_l_built) (defScope s_l_built) .none kV3 dc3 pm3 an3 cd3 ct3), sl3⟩) (c3 : PySem.W.codeIn K cd3 "_law_built" = true) (k3 : PySem.W.keepIn K (.ref f3) = true)
    (a4 : PySem.W.nsIn K mainGlobals "_law_is_int" = some (some (.ref f4))) (l4 : K.lookup f4 = some ⟨oc4, od4, .func (PySem.W.fnOf "_law_is_int" "_law_is_int" (defArgs s_l_is_int) (defBody s_l_is_int) (defScope s_l_is_int) .none kV4 dc4 pm4 an4 cd4 ct4), sl4⟩) (c4 : PySem.W.codeIn K cd4 "_law_is_int" = true) (k4 : PySem.W.keepIn K (.ref f4) = true)
    (a5 : PySem.W.nsIn K mainGlobals "_law_tells" = some (some (.ref f5))) (l5 : K.lookup f5 = some ⟨oc5, od5, .func (PySem.W.fnOf "_law_tells" "_law_tells" (defArgs s_l_tells) (defBody s_l_tells) (defScope s_l_tells) .none kV5 dc5 pm5 an5 cd5 ct5), sl5⟩) (c5 : PySem.W.codeIn K cd5 "_law_tells" = true) (k5 : PySem.W.keepIn K (.ref f5) = true)
    (a6 : PySem.W.nsIn K mainGlobals "_law_held" = some (some (.ref f6))) (l6 : K.lookup f6 = some ⟨oc6, od6, .func (PySem.W.fnOf "_law_held" "_law_held" (defArgs s_l_held) (defBody s_l_held) (defScope s_l_held) .none kV6 dc6 pm6 an6 cd6 ct6), sl6⟩) (c6 : PySem.W.codeIn K cd6 "_law_held" = true) (k6 : PySem.W.keepIn K (.ref f6) = true)
    (a7 : PySem.W.nsIn K mainGlobals "_law_least_of" = some (some (.ref f7))) (l7 : K.lookup f7 = some ⟨oc7, od7, .func (PySem.W.fnOf "_law_least_of" "_law_least_of" (defArgs s_l_least_of) (defBody s_l_least_of) (defScope s_l_least_of) .none kV7 dc7 pm7 an7 cd7 ct7), sl7⟩) (c7 : PySem.W.codeIn K cd7 "_law_least_of" = true) (k7 : PySem.W.keepIn K (.ref f7) = true)
    {p8 : Addr} {rs8 : List Value} (a8 : PySem.W.findIn K (.ref C_Orders) "listed" = some (some (.ref p8))) (gp8 : PySem.W.specialIn K (.ref p8) "__get__" = some (some (.builtin "property.__get__"))) (tp8 : PySem.W.takesIn K (.ref p8) = some true) (i8 : PySem.W.recIn K p8 "property" = some (.ref f8 :: rs8))
    (l8 : K.lookup f8 = some ⟨oc8, od8, .func (PySem.W.fnOf "listed" "Orders.listed" (defArgs s_Orders_listed) (defBody s_Orders_listed) (defScope s_Orders_listed) .none kV8 dc8 pm8 an8 cd8 ct8), sl8⟩) (c8 : PySem.W.codeIn K cd8 "Orders.listed" = true) (k8 : PySem.W.keepIn K (.ref f8) = true)
    {p9 : Addr} {rs9 : List Value} (a9 : PySem.W.findIn K (.ref C_Orders) "others" = some (some (.ref p9))) (gp9 : PySem.W.specialIn K (.ref p9) "__get__" = some (some (.builtin "property.__get__"))) (tp9 : PySem.W.takesIn K (.ref p9) = some true) (i9 : PySem.W.recIn K p9 "property" = some (.ref f9 :: rs9))
    (l9 : K.lookup f9 = some ⟨oc9, od9, .func (PySem.W.fnOf "others" "Orders.others" (defArgs s_Orders_others) (defBody s_Orders_others) (defScope s_Orders_others) .none kV9 dc9 pm9 an9 cd9 ct9), sl9⟩) (c9 : PySem.W.codeIn K cd9 "Orders.others" = true) (k9 : PySem.W.keepIn K (.ref f9) = true)
    {p10 : Addr} {rs10 : List Value} (a10 : PySem.W.findIn K (.ref C_Orders) "least" = some (some (.ref p10))) (gp10 : PySem.W.specialIn K (.ref p10) "__get__" = some (some (.builtin "property.__get__"))) (tp10 : PySem.W.takesIn K (.ref p10) = some true) (i10 : PySem.W.recIn K p10 "property" = some (.ref f10 :: rs10))
    (l10 : K.lookup f10 = some ⟨oc10, od10, .func (PySem.W.fnOf "least" "Orders.least" (defArgs s_Orders_least) (defBody s_Orders_least) (defScope s_Orders_least) .none kV10 dc10 pm10 an10 cd10 ct10), sl10⟩) (c10 : PySem.W.codeIn K cd10 "Orders.least" = true) (k10 : PySem.W.keepIn K (.ref f10) = true)
    (a11 : PySem.W.findIn K (.ref C_Orders) "__len__" = some (some (.ref f11))) (i11 : PySem.W.isFn K (.ref f11) = true)
    (l11 : K.lookup f11 = some ⟨oc11, od11, .func (PySem.W.fnOf "__len__" "Orders.__len__" (defArgs s_Orders___len__) (defBody s_Orders___len__) (defScope s_Orders___len__) .none kV11 dc11 pm11 an11 cd11 ct11), sl11⟩) (c11 : PySem.W.codeIn K cd11 "Orders.__len__" = true) (k11 : PySem.W.keepIn K (.ref f11) = true)
    (a12 : PySem.W.findIn K (.ref C_Orders) "__iter__" = some (some (.ref f12))) (i12 : PySem.W.isFn K (.ref f12) = true)
    (l12 : K.lookup f12 = some ⟨oc12, od12, .func (PySem.W.fnOf "__iter__" "Orders.__iter__" (defArgs s_Orders___iter__) (defBody s_Orders___iter__) (defScope s_Orders___iter__) .none kV12 dc12 pm12 an12 cd12 ct12), sl12⟩) (c12 : PySem.W.codeIn K cd12 "Orders.__iter__" = true) (k12 : PySem.W.keepIn K (.ref f12) = true)
    (a13 : PySem.W.nsIn K mainGlobals "is_integer" = some (some (.ref f13))) (l13 : K.lookup f13 = some ⟨oc13, od13, .func (PySem.W.fnOf "is_integer" "is_integer" (defArgs s_is_integer) (defBody s_is_integer) (defScope s_is_integer) .none kV13 dc13 pm13 an13 cd13 ct13), sl13⟩) (c13 : PySem.W.codeIn K cd13 "is_integer" = true) (k13 : PySem.W.keepIn K (.ref f13) = true)
    (a14 : PySem.W.nsIn K mainGlobals "is_order" = some (some (.ref f14))) (l14 : K.lookup f14 = some ⟨oc14, od14, .func (PySem.W.fnOf "is_order" "is_order" (defArgs s_is_order) (defBody s_is_order) (defScope s_is_order) .none kV14 dc14 pm14 an14 cd14 ct14), sl14⟩) (c14 : PySem.W.codeIn K cd14 "is_order" = true) (k14 : PySem.W.keepIn K (.ref f14) = true)
    (a15 : PySem.W.findIn K (.ref C_Orders) "__contains__" = some (some (.ref f15))) (i15 : PySem.W.isFn K (.ref f15) = true)
    (l15 : K.lookup f15 = some ⟨oc15, od15, .func (PySem.W.fnOf "__contains__" "Orders.__contains__" (defArgs s_Orders___contains__) (defBody s_Orders___contains__) (defScope s_Orders___contains__) .none kV15 dc15 pm15 an15 cd15 ct15), sl15⟩) (c15 : PySem.W.codeIn K cd15 "Orders.__contains__" = true) (k15 : PySem.W.keepIn K (.ref f15) = true)
    (a16 : PySem.W.findIn K (.ref C_Orders) "__bool__" = some (some (.ref f16))) (i16 : PySem.W.isFn K (.ref f16) = true)
    (l16 : K.lookup f16 = some ⟨oc16, od16, .func (PySem.W.fnOf "__bool__" "Orders.__bool__" (defArgs s_Orders___bool__) (defBody s_Orders___bool__) (defScope s_Orders___bool__) .none kV16 dc16 pm16 an16 cd16 ct16), sl16⟩) (c16 : PySem.W.codeIn K cd16 "Orders.__bool__" = true) (k16 : PySem.W.keepIn K (.ref f16) = true)
    (a17 : PySem.W.nsIn K mainGlobals "_law_is_orders" = some (some (.ref f17))) (l17 : K.lookup f17 = some ⟨oc17, od17, .func (PySem.W.fnOf "_law_is_orders" "_law_is_orders" (defArgs s_l_is_orders) (defBody s_l_is_orders) (defScope s_l_is_orders) .none kV17 dc17 pm17 an17 cd17 ct17), sl17⟩) (c17 : PySem.W.codeIn K cd17 "_law_is_orders" = true) (k17 : PySem.W.keepIn K (.ref f17) = true)
    (a18 : PySem.W.nsIn K mainGlobals "_law_gcd" = some (some (.ref f18))) (l18 : K.lookup f18 = some ⟨oc18, od18, .func (PySem.W.fnOf "_law_gcd" "_law_gcd" (defArgs s_l_gcd) (defBody s_l_gcd) (defScope s_l_gcd) .none kV18 dc18 pm18 an18 cd18 ct18), sl18⟩) (c18 : PySem.W.codeIn K cd18 "_law_gcd" = true) (k18 : PySem.W.keepIn K (.ref f18) = true)
    (a19 : PySem.W.nsIn K mainGlobals "check_number" = some (some (.ref f19))) (l19 : K.lookup f19 = some ⟨oc19, od19, .func (PySem.W.fnOf "check_number" "check_number" (defArgs s_check_number) (defBody s_check_number) (defScope s_check_number) .none kV19 dc19 pm19 an19 cd19 ct19), sl19⟩) (c19 : PySem.W.codeIn K cd19 "check_number" = true) (k19 : PySem.W.keepIn K (.ref f19) = true)
    (a20 : PySem.W.findIn K (.ref C_Orders) "__init__" = some (some (.ref f20))) (i20 : PySem.W.isFn K (.ref f20) = true)
    (l20 : K.lookup f20 = some ⟨oc20, od20, .func (PySem.W.fnOf "__init__" "Orders.__init__" (defArgs s_Orders___init__) (defBody s_Orders___init__) (defScope s_Orders___init__) (.ref DT20) kV20 dc20 pm20 an20 cd20 ct20), sl20⟩) (c20 : PySem.W.codeIn K cd20 "Orders.__init__" = true) (k20 : PySem.W.keepIn K (.ref f20) = true)
    (d20 : K.lookup DT20 = some ⟨.type "tuple", dd20, .seq #[.bool false] dn20, ds20⟩)
    (a21 : PySem.W.nsIn K mainGlobals "dividing" = some (some (.ref f21))) (l21 : K.lookup f21 = some ⟨oc21, od21, .func (PySem.W.fnOf "dividing" "dividing" (defArgs s_dividing) (defBody s_dividing) (defScope s_dividing) .none kV21 dc21 pm21 an21 cd21 ct21), sl21⟩) (c21 : PySem.W.codeIn K cd21 "dividing" = true) (k21 : PySem.W.keepIn K (.ref f21) = true)
    (a22 : PySem.W.nsIn K mainGlobals "check_orders" = some (some (.ref f22))) (l22 : K.lookup f22 = some ⟨oc22, od22, .func (PySem.W.fnOf "check_orders" "check_orders" (defArgs s_check_orders) (defBody s_check_orders) (defScope s_check_orders) .none kV22 dc22 pm22 an22 cd22 ct22), sl22⟩) (c22 : PySem.W.codeIn K cd22 "check_orders" = true) (k22 : PySem.W.keepIn K (.ref f22) = true)
    (a23 : PySem.W.nsIn K mainGlobals "joined" = some (some (.ref f23))) (l23 : K.lookup f23 = some ⟨oc23, od23, .func (PySem.W.fnOf "joined" "joined" (defArgs s_joined) (defBody s_joined) (defScope s_joined) .none kV23 dc23 pm23 an23 cd23 ct23), sl23⟩) (c23 : PySem.W.codeIn K cd23 "joined" = true) (k23 : PySem.W.keepIn K (.ref f23) = true)
    (a24 : PySem.W.findIn K (.ref C_Orders) "__and__" = some (some (.ref f24))) (i24 : PySem.W.isFn K (.ref f24) = true)
    (l24 : K.lookup f24 = some ⟨oc24, od24, .func (PySem.W.fnOf "__and__" "Orders.__and__" (defArgs s_Orders___and__) (defBody s_Orders___and__) (defScope s_Orders___and__) .none kV24 dc24 pm24 an24 cd24 ct24), sl24⟩) (c24 : PySem.W.codeIn K cd24 "Orders.__and__" = true) (k24 : PySem.W.keepIn K (.ref f24) = true)
    (a25 : PySem.W.findIn K (.ref C_Orders) "__eq__" = some (some (.ref f25))) (i25 : PySem.W.isFn K (.ref f25) = true)
    (l25 : K.lookup f25 = some ⟨oc25, od25, .func (PySem.W.fnOf "__eq__" "Orders.__eq__" (defArgs s_Orders___eq__) (defBody s_Orders___eq__) (defScope s_Orders___eq__) .none kV25 dc25 pm25 an25 cd25 ct25), sl25⟩) (c25 : PySem.W.codeIn K cd25 "Orders.__eq__" = true) (k25 : PySem.W.keepIn K (.ref f25) = true)
    (a26 : PySem.W.nsIn K mainGlobals "law" = some (some (.ref f26))) (l26 : K.lookup f26 = some ⟨oc26, od26, .func (PySem.W.fnOf "law" "law" (defArgs s_law) (defBody s_law) (defScope s_law) .none kV26 dc26 pm26 an26 cd26 ct26), sl26⟩) (c26 : PySem.W.codeIn K cd26 "law" = true) (k26 : PySem.W.keepIn K (.ref f26) = true)
    (z_abs : PySem.W.nsIn K mainGlobals "abs" = some none) (z_all : PySem.W.nsIn K mainGlobals "all" = some none) (z_bool : PySem.W.nsIn K mainGlobals "bool" = some none) (z_int : PySem.W.nsIn K mainGlobals "int" = some none) (z_isinstance : PySem.W.nsIn K mainGlobals "isinstance" = some none) (z_iter : PySem.W.nsIn K mainGlobals "iter" = some none) (z_len : PySem.W.nsIn K mainGlobals "len" = some none) (z_list : PySem.W.nsIn K mainGlobals "list" = some none) (z_max : PySem.W.nsIn K mainGlobals "max" = some none) (z_min : PySem.W.nsIn K mainGlobals "min" = some none) (z_range : PySem.W.nsIn K mainGlobals "range" = some none) (z_set : PySem.W.nsIn K mainGlobals "set" = some none) (z_sorted : PySem.W.nsIn K mainGlobals "sorted" = some none) (z_str : PySem.W.nsIn K mainGlobals "str" = some none) (z_sum : PySem.W.nsIn K mainGlobals "sum" = some none) (z_tuple : PySem.W.nsIn K mainGlobals "tuple" = some none)
    (aEITHER : PySem.W.nsIn K mainGlobals "EITHER" = some (some (.ref dEITHER)))
    (lEITHER : K.lookup dEITHER = some ⟨.type "tuple", ddEITHER, .seq #[.bool false, .bool true, .bool true, .bool true] nEITHER, sEITHER⟩)
    (aBOTH : PySem.W.nsIn K mainGlobals "BOTH" = some (some (.ref dBOTH)))
    (lBOTH : K.lookup dBOTH = some ⟨.type "tuple", ddBOTH, .seq #[.bool false, .bool false, .bool false, .bool true] nBOTH, sBOTH⟩)
    (aFIRST_ALONE : PySem.W.nsIn K mainGlobals "FIRST_ALONE" = some (some (.ref dFIRST_ALONE)))
    (lFIRST_ALONE : K.lookup dFIRST_ALONE = some ⟨.type "tuple", ddFIRST_ALONE, .seq #[.bool false, .bool false, .bool true, .bool false] nFIRST_ALONE, sFIRST_ALONE⟩)
    (aJUST_ONE : PySem.W.nsIn K mainGlobals "JUST_ONE" = some (some (.ref dJUST_ONE)))
    (lJUST_ONE : K.lookup dJUST_ONE = some ⟨.type "tuple", ddJUST_ONE, .seq #[.bool false, .bool true, .bool true, .bool false] nJUST_ONE, sJUST_ONE⟩)
    (gaor : PySem.W.findIn K (.ref C_Orders) (dunderI "or") = some none)
    (gbor : PySem.W.findIn K (.type "object") (dunderI "or") = some none)
    (gaand : PySem.W.findIn K (.ref C_Orders) (dunderI "and") = some none)
    (gband : PySem.W.findIn K (.type "object") (dunderI "and") = some none)
    (gasub : PySem.W.findIn K (.ref C_Orders) (dunderI "sub") = some none)
    (gbsub : PySem.W.findIn K (.type "object") (dunderI "sub") = some none)
    (gaxor : PySem.W.findIn K (.ref C_Orders) (dunderI "xor") = some none)
    (gbxor : PySem.W.findIn K (.type "object") (dunderI "xor") = some none)
    : ∃ fd : FuncData, (∀ (s : Shared) (v : Value), BindsTo s fd ⟨[v], []⟩ [("_law_script", v)]) ∧ ∀ base : Heap, K.In base → base.Ns mainGlobals mg → FnOk l.prog w K mg base CX0 10 fa fd ["_law_script"] (spLaw K) := by
  cases (hfa.symm.trans (PySem.W.mg_of X G a26))
  have F_l_bag_of := fun_mk (st := s_l_bag_of) l1 c1 k1
  have b_l_bag_of := F_l_bag_of.binds (ps := ["_law_cell"]) fun _ _ _ _ _ _ us hl => match us, hl with | [_], _ => rfl
  have F_l_pick := fun_mk (st := s_l_pick) l2 c2 k2
  have b_l_pick := F_l_pick.binds (ps := ["_law_bag", "_law_many"]) fun _ _ _ _ _ _ us hl => match us, hl with | [_, _], _ => rfl
  have F_l_built := fun_mk (st := s_l_built) l3 c3 k3
  have b_l_built := F_l_built.binds (ps := ["_law_bag"]) fun _ _ _ _ _ _ us hl => match us, hl with | [_], _ => rfl
  have F_l_is_int := fun_mk (st := s_l_is_int) l4 c4 k4
  have b_l_is_int := F_l_is_int.binds (ps := ["_law_thing"]) fun _ _ _ _ _ _ us hl => match us, hl with | [_], _ => rfl
  have F_l_tells := fun_mk (st := s_l_tells) l5 c5 k5
  have b_l_tells := F_l_tells.binds (ps := ["_law_found", "_law_due"]) fun _ _ _ _ _ _ us hl => match us, hl with | [_, _], _ => rfl
  have F_l_held := fun_mk (st := s_l_held) l6 c6 k6
  have b_l_held := F_l_held.binds (ps := ["_law_rows", "_law_beyond", "_law_one"]) fun _ _ _ _ _ _ us hl => match us, hl with | [_, _, _], _ => rfl
  have F_l_least_of := fun_mk (st := s_l_least_of) l7 c7 k7
  have b_l_least_of := F_l_least_of.binds (ps := ["_law_rows", "_law_beyond"]) fun _ _ _ _ _ _ us hl => match us, hl with | [_, _], _ => rfl
  have F_Orders_listed := fun_mk (st := s_Orders_listed) l8 c8 k8
  have b_Orders_listed := F_Orders_listed.binds (ps := ["self"]) fun _ _ _ _ _ _ us hl => match us, hl with | [_], _ => rfl
  have F_Orders_others := fun_mk (st := s_Orders_others) l9 c9 k9
  have b_Orders_others := F_Orders_others.binds (ps := ["self"]) fun _ _ _ _ _ _ us hl => match us, hl with | [_], _ => rfl
  have F_Orders_least := fun_mk (st := s_Orders_least) l10 c10 k10
  have b_Orders_least := F_Orders_least.binds (ps := ["self"]) fun _ _ _ _ _ _ us hl => match us, hl with | [_], _ => rfl
  have F_Orders___len__ := fun_mk (st := s_Orders___len__) l11 c11 k11
  have b_Orders___len__ := F_Orders___len__.binds (ps := ["self"]) fun _ _ _ _ _ _ us hl => match us, hl with | [_], _ => rfl
  have F_Orders___iter__ := fun_mk (st := s_Orders___iter__) l12 c12 k12
  have b_Orders___iter__ := F_Orders___iter__.binds (ps := ["self"]) fun _ _ _ _ _ _ us hl => match us, hl with | [_], _ => rfl
  have F_is_integer := fun_mk (st := s_is_integer) l13 c13 k13
  have b_is_integer := F_is_integer.binds (ps := ["value"]) fun _ _ _ _ _ _ us hl => match us, hl with | [_], _ => rfl
  have F_is_order := fun_mk (st := s_is_order) l14 c14 k14
  have b_is_order := F_is_order.binds (ps := ["value"]) fun _ _ _ _ _ _ us hl => match us, hl with | [_], _ => rfl
  have F_Orders___contains__ := fun_mk (st := s_Orders___contains__) l15 c15 k15
  have b_Orders___contains__ := F_Orders___contains__.binds (ps := ["self", "value"]) fun _ _ _ _ _ _ us hl => match us, hl with | [_, _], _ => rfl
  have F_Orders___bool__ := fun_mk (st := s_Orders___bool__) l16 c16 k16
  have b_Orders___bool__ := F_Orders___bool__.binds (ps := ["self"]) fun _ _ _ _ _ _ us hl => match us, hl with | [_], _ => rfl
  have F_l_is_orders := fun_mk (st := s_l_is_orders) l17 c17 k17
  have b_l_is_orders := F_l_is_orders.binds (ps := ["_law_found", "_law_rows", "_law_beyond"]) fun _ _ _ _ _ _ us hl => match us, hl with | [_, _, _], _ => rfl
  have F_l_gcd := fun_mk (st := s_l_gcd) l18 c18 k18
  have b_l_gcd := F_l_gcd.binds (ps := ["_law_one", "_law_two"]) fun _ _ _ _ _ _ us hl => match us, hl with | [_, _], _ => rfl
  have F_check_number := fun_mk (st := s_check_number) l19 c19 k19
  have b_check_number := F_check_number.binds (ps := ["value"]) fun _ _ _ _ _ _ us hl => match us, hl with | [_], _ => rfl
  have F_Orders___init__ : FunD K "__init__" "Orders.__init__" (defArgs s_Orders___init__) (defBody s_Orders___init__) (defScope s_Orders___init__) [.bl false] [] f20 (PySem.W.fnOf "__init__" "Orders.__init__" (defArgs s_Orders___init__) (defBody s_Orders___init__) (defScope s_Orders___init__) (.ref DT20) kV20 dc20 pm20 an20 cd20 ct20) := ⟨⟨_, _, _, _, _, _, _, _, _, _, rfl, l20, c20, .inr ⟨by simp, DT20, _, [_], dn20, rfl, d20, rfl, .cons rfl (.nil)⟩, .inl rfl⟩, k20⟩
  obtain ⟨dsOrders___init___2, vdOrders___init___2, bdOrders___init___2⟩ := F_Orders___init__.binds1 (ps := ["self", "listed", "others"]) 2 0 (by simp) (by simp) fun _ _ _ _ _ _ _ us its hl hi => match us, its, hl, hi with | [_, _], [_], _, _ => ⟨_, rfl, rfl⟩
  obtain ⟨dsOrders___init___3, vdOrders___init___3, bdOrders___init___3⟩ := F_Orders___init__.binds1 (ps := ["self", "listed", "others"]) 3 1 (by simp) (by simp) fun _ _ _ _ _ _ _ us its hl hi => match us, its, hl, hi with | [_, _, _], [_], _, _ => ⟨_, rfl, rfl⟩
  have b_Orders___init__ : Binds K (PySem.W.fnOf "__init__" "Orders.__init__" (defArgs s_Orders___init__) (defBody s_Orders___init__) (defScope s_Orders___init__) (.ref DT20) kV20 dc20 pm20 an20 cd20 ct20) ["self", "listed", "others"] [] := by cases vdOrders___init___3; exact bdOrders___init___3
  obtain ⟨itOrders___init__, knOrders___init__⟩ := F_Orders___init__.kbindsD (ps := ["self", "listed", "others"]) 2 ["others"] (fun us its ws => us ++ ws) (by simp) (fun r _ z => r.append z) fun _ _ _ _ _ _ _ us its ws hl hi hw => match us, its, ws, hl, hi, hw with | [_, _], [_], [_], _, _, _ => ⟨_, rfl, rfl⟩
  obtain ⟨iuOrders___init__, krOrders___init__⟩ := F_Orders___init__.kbindsD (ps := ["self", "listed", "others"]) 1 ["others", "listed"] (fun us its ws => us ++ ws.reverse) (by simp) (fun r _ z => r.append (vals_rv z)) fun _ _ _ _ _ _ _ us its ws hl hi hw => match us, its, ws, hl, hi, hw with | [_], [_], [_, _], _, _, _ => ⟨_, rfl, rfl⟩
  have F_dividing := fun_mk (st := s_dividing) l21 c21 k21
  have b_dividing := F_dividing.binds (ps := ["number"]) fun _ _ _ _ _ _ us hl => match us, hl with | [_], _ => rfl
  have F_check_orders := fun_mk (st := s_check_orders) l22 c22 k22
  have b_check_orders := F_check_orders.binds (ps := ["value"]) fun _ _ _ _ _ _ us hl => match us, hl with | [_], _ => rfl
  have F_joined := fun_mk (st := s_joined) l23 c23 k23
  have b_joined := F_joined.binds (ps := ["one", "two", "table"]) fun _ _ _ _ _ _ us hl => match us, hl with | [_, _, _], _ => rfl
  have F_Orders___and__ := fun_mk (st := s_Orders___and__) l24 c24 k24
  have b_Orders___and__ := F_Orders___and__.binds (ps := ["self", "other"]) fun _ _ _ _ _ _ us hl => match us, hl with | [_, _], _ => rfl
  have F_Orders___eq__ := fun_mk (st := s_Orders___eq__) l25 c25 k25
  have b_Orders___eq__ := F_Orders___eq__.binds (ps := ["self", "other"]) fun _ _ _ _ _ _ us hl => match us, hl with | [_, _], _ => rfl
  have F_law := fun_mk (st := s_law) l26 c26 k26
  have B_Bl : Bl mg := ⟨PySem.W.mg_none_of X G z_isinstance, PySem.W.mg_none_of X G z_int, PySem.W.mg_none_of X G z_bool, PySem.W.mg_none_of X G z_str, PySem.W.mg_none_of X G z_tuple, PySem.W.mg_none_of X G z_list, PySem.W.mg_none_of X G z_len, PySem.W.mg_none_of X G z_all, PySem.W.mg_none_of X G z_range, PySem.W.mg_none_of X G z_sum, PySem.W.mg_none_of X G z_max, PySem.W.mg_none_of X G z_min⟩
  have B_BlA : BlA mg := ⟨PySem.W.mg_none_of X G z_abs, PySem.W.mg_none_of X G z_iter, PySem.W.mg_none_of X G z_set, PySem.W.mg_none_of X G z_sorted⟩
  refine ⟨PySem.W.fnOf "law" "law" (defArgs s_law) (defBody s_law) (defScope s_law) .none kV26 dc26 pm26 an26 cd26 ct26, fun s v => .of_eq rfl, fun base _ _ => ?_⟩
  have g_Orders := PySem.W.mg_of X G aCO
  have G_Orders : OrdT K mg C_Orders := ⟨⟨pgO, hdO, poO, saO⟩, nRO, nOO, g_Orders, sfO, by unfold PySem.W.plainMro; rw [icO]; simp [moO], caO, cnO, ctO, cmO, ⟨_, icO⟩, tyO, s1O, s2O, s3O, s4O, s5O, s6O, t1O, t2O, t3O, t4O⟩
  have T_EITHER : TabAt K mg "EITHER" tOr2 := ⟨dEITHER, PySem.W.mg_of X G aEITHER, fun H => .inr ⟨_, _, _, lEITHER, rfl, rfl, by show 4 ≤ sizeLine; decide, .cons rfl (.cons rfl (.cons rfl (.cons rfl .nil)))⟩⟩
  have T_BOTH : TabAt K mg "BOTH" tAnd2 := ⟨dBOTH, PySem.W.mg_of X G aBOTH, fun H => .inr ⟨_, _, _, lBOTH, rfl, rfl, by show 4 ≤ sizeLine; decide, .cons rfl (.cons rfl (.cons rfl (.cons rfl .nil)))⟩⟩
  have T_FIRST_ALONE : TabAt K mg "FIRST_ALONE" tSub2 := ⟨dFIRST_ALONE, PySem.W.mg_of X G aFIRST_ALONE, fun H => .inr ⟨_, _, _, lFIRST_ALONE, rfl, rfl, by show 4 ≤ sizeLine; decide, .cons rfl (.cons rfl (.cons rfl (.cons rfl .nil)))⟩⟩
  have T_JUST_ONE : TabAt K mg "JUST_ONE" tXor2 := ⟨dJUST_ONE, PySem.W.mg_of X G aJUST_ONE, fun H => .inr ⟨_, _, _, lJUST_ONE, rfl, rfl, by show 4 ≤ sizeLine; decide, .cons rfl (.cons rfl (.cons rfl (.cons rfl .nil)))⟩⟩
  have GA_Orders_or : AugOp K C_Orders "or" := ⟨G_Orders.mro, gaor, gbor⟩
  have GA_Orders_and : AugOp K C_Orders "and" := ⟨G_Orders.mro, gaand, gband⟩
  have GA_Orders_sub : AugOp K C_Orders "sub" := ⟨G_Orders.mro, gasub, gbsub⟩
  have GA_Orders_xor : AugOp K C_Orders "xor" := ⟨G_Orders.mro, gaxor, gbxor⟩
  have g_l_bag_of := PySem.W.mg_of X G a1
  have g_l_pick := PySem.W.mg_of X G a2
  have g_l_built := PySem.W.mg_of X G a3
  have g_l_is_int := PySem.W.mg_of X G a4
  have g_l_tells := PySem.W.mg_of X G a5
  have g_l_held := PySem.W.mg_of X G a6
  have g_l_least_of := PySem.W.mg_of X G a7
  have g_is_integer := PySem.W.mg_of X G a13
  have g_is_order := PySem.W.mg_of X G a14
  have g_l_is_orders := PySem.W.mg_of X G a17
  have g_l_gcd := PySem.W.mg_of X G a18
  have g_check_number := PySem.W.mg_of X G a19
  have g_dividing := PySem.W.mg_of X G a21
  have g_check_orders := PySem.W.mg_of X G a22
  have g_joined := PySem.W.mg_of X G a23
  have g_law := PySem.W.mg_of X G a26
  have h_l_bag_of : Has l.prog w K mg base "_law_bag_of" 1 ["_law_cell"] spBagOf := ⟨_, _, ok_l_bag_of F_l_bag_of B_Bl, PySem.W.mg_of X G a1, k1, b_l_bag_of⟩
  have h_l_pick : Has l.prog w K mg base "_law_pick" 1 ["_law_bag", "_law_many"] spPick := ⟨_, _, ok_l_pick F_l_pick B_Bl, PySem.W.mg_of X G a2, k2, b_l_pick⟩
  have h_l_built : Has l.prog w K mg base "_law_built" 2 ["_law_bag"] spBuilt := ⟨_, _, ok_l_built F_l_built B_Bl B_BlA.b_set B_BlA.b_sorted h_l_pick, PySem.W.mg_of X G a3, k3, b_l_built⟩
  have h_l_is_int : Has l.prog w K mg base "_law_is_int" 1 ["_law_thing"] (spIsIntT K) := ⟨_, _, ok_l_is_intT F_l_is_int B_Bl, PySem.W.mg_of X G a4, k4, b_l_is_int⟩
  have h_l_tells : Has l.prog w K mg base "_law_tells" 1 ["_law_found", "_law_due"] spTellsB := ⟨_, _, ok_l_tells F_l_tells B_Bl, PySem.W.mg_of X G a5, k5, b_l_tells⟩
  have h_l_held : Has l.prog w K mg base "_law_held" 1 ["_law_rows", "_law_beyond", "_law_one"] spHeld := ⟨_, _, ok_l_held F_l_held, PySem.W.mg_of X G a6, k6, b_l_held⟩
  have h_l_least_of : Has l.prog w K mg base "_law_least_of" 1 ["_law_rows", "_law_beyond"] spLeastOf := ⟨_, _, ok_l_least_of F_l_least_of B_Bl B_BlA.b_set B_BlA.b_sorted, PySem.W.mg_of X G a7, k7, b_l_least_of⟩
  have hp_Orders_listed : HasP l.prog w K mg base C_Orders "listed" 1 ["self"] (spGetListed C_Orders) := ⟨_, _, _, ok_Orders_listed F_Orders_listed B_Bl G_Orders, ⟨a8, gp8, tp8, _, i8⟩, b_Orders_listed⟩
  have hp_Orders_others : HasP l.prog w K mg base C_Orders "others" 1 ["self"] (spGetOthers C_Orders) := ⟨_, _, _, ok_Orders_others F_Orders_others G_Orders, ⟨a9, gp9, tp9, _, i9⟩, b_Orders_others⟩
  have hp_Orders_least : HasP l.prog w K mg base C_Orders "least" 1 ["self"] (spGetLeast C_Orders) := ⟨_, _, _, ok_Orders_least F_Orders_least B_Bl G_Orders, ⟨a10, gp10, tp10, _, i10⟩, b_Orders_least⟩
  have hm_Orders___len__ : HasM l.prog w K mg base C_Orders "__len__" 1 ["self"] (spOLen C_Orders) := ⟨_, _, ok_Orders___len__ F_Orders___len__ B_Bl G_Orders, ⟨a11, i11, k11⟩, b_Orders___len__⟩
  have hs_Orders___iter__ : HasS l.prog w K mg base C_Orders "__iter__" 1 ["self"] (spIter K C_Orders "rows") := ⟨_, _, ok_Orders___iter__ F_Orders___iter__ B_BlA.b_iter G_Orders, ⟨a12, i12, k12⟩, b_Orders___iter__⟩
  have h_is_integer : Has l.prog w K mg base "is_integer" 1 ["value"] spIsInt := ⟨_, _, ok_is_integer F_is_integer B_Bl, g_is_integer, F_is_integer.kp, b_is_integer⟩
  have h_is_integerT : Has l.prog w K mg base "is_integer" 1 ["value"] (spIsIntT K) := ⟨_, _, ok_is_integerO F_is_integer B_Bl, g_is_integer, F_is_integer.kp, b_is_integer⟩
  have h_is_order : Has l.prog w K mg base "is_order" 2 ["value"] (spIsOrderT K) := ⟨_, _, ok_is_orderT F_is_order h_is_integerT, PySem.W.mg_of X G a14, k14, b_is_order⟩
  have hm_Orders___contains__ : HasM l.prog w K mg base C_Orders "__contains__" 3 ["self", "value"] (spContains K C_Orders) := ⟨_, _, ok_Orders___contains__ F_Orders___contains__ G_Orders h_is_order, ⟨a15, i15, k15⟩, b_Orders___contains__⟩
  have hm_Orders___bool__ : HasM l.prog w K mg base C_Orders "__bool__" 1 ["self"] (spOBool C_Orders) := ⟨_, _, ok_Orders___bool__ F_Orders___bool__ B_Bl G_Orders, ⟨a16, i16, k16⟩, b_Orders___bool__⟩
  have h_l_is_orders : Has l.prog w K mg base "_law_is_orders" 4 ["_law_found", "_law_rows", "_law_beyond"] (spIsOrders C_Orders) := ⟨_, _, ok_l_is_orders F_l_is_orders B_Bl B_BlA.b_set B_BlA.b_sorted G_Orders h_l_is_int h_l_tells h_l_held h_l_least_of hp_Orders_listed hp_Orders_others hp_Orders_least hm_Orders___len__ hs_Orders___iter__ hm_Orders___contains__ hm_Orders___bool__, PySem.W.mg_of X G a17, k17, b_l_is_orders⟩
  have h_l_gcd : Has l.prog w K mg base "_law_gcd" 1 ["_law_one", "_law_two"] spGcd := ⟨_, _, ok_l_gcd F_l_gcd B_Bl B_BlA.b_abs, PySem.W.mg_of X G a18, k18, b_l_gcd⟩
  have h_check_number : Has l.prog w K mg base "check_number" 2 ["value"] spPNum := ⟨_, _, ok_check_number F_check_number B_Bl h_is_integerT, PySem.W.mg_of X G a19, k19, b_check_number⟩
  have hcd_Orders : HasCD l.prog w K mg base "Orders" C_Orders 4 ["self", "listed", "others"] (spOInit C_Orders) [.bl false] := ⟨_, _, _, ok_Orders___init__ F_Orders___init__ B_Bl B_BlA.b_set B_BlA.b_sorted G_Orders h_is_order, ⟨mk_Orders, a20, i20, kc_Orders⟩, g_Orders, bdOrders___init___2, vdOrders___init___2⟩
  have hcn_Orders : HasCN l.prog w K mg base "Orders" C_Orders 4 ["self", "listed", "others"] 1 ["others"] (fun vs zs => vs ++ zs) (spOInit C_Orders) := ⟨_, _, _, ok_Orders___init__ F_Orders___init__ B_Bl B_BlA.b_set B_BlA.b_sorted G_Orders h_is_order, ⟨mk_Orders, a20, i20, kc_Orders⟩, g_Orders, knOrders___init__⟩
  have hckn_Orders : HasCN l.prog w K mg base "Orders" C_Orders 4 ["self", "listed", "others"] 0 ["others", "listed"] (fun vs zs => vs ++ zs.reverse) (spOInit C_Orders) := ⟨_, _, _, ok_Orders___init__ F_Orders___init__ B_Bl B_BlA.b_set B_BlA.b_sorted G_Orders h_is_order, ⟨mk_Orders, a20, i20, kc_Orders⟩, g_Orders, krOrders___init__⟩
  have hc_Orders : HasC l.prog w K mg base "Orders" C_Orders 4 ["self", "listed", "others"] (spOInit C_Orders) := ⟨_, _, ok_Orders___init__ F_Orders___init__ B_Bl B_BlA.b_set B_BlA.b_sorted G_Orders h_is_order, ⟨mk_Orders, a20, i20, kc_Orders⟩, g_Orders, b_Orders___init__⟩
  have h_dividing : Has l.prog w K mg base "dividing" 6 ["number"] (spDividing C_Orders) := ⟨_, _, ok_dividing F_dividing B_Bl B_BlA.b_abs G_Orders h_check_number hc_Orders hcd_Orders, PySem.W.mg_of X G a21, k21, b_dividing⟩
  have hk_dividing : HasK l.prog w K mg base "dividing" 6 ["number"] (spDividing C_Orders) := ⟨_, _, ok_dividing F_dividing B_Bl B_BlA.b_abs G_Orders h_check_number hc_Orders hcd_Orders, PySem.W.mg_of X G a21, k21, b_dividing, kbinds (fun ws hl => match ws, hl with | [_], _ => rfl) (by simp)⟩
  have h_check_orders : Has l.prog w K mg base "check_orders" 1 ["value"] (spChkOrd C_Orders) := ⟨_, _, ok_check_orders F_check_orders B_Bl G_Orders, PySem.W.mg_of X G a22, k22, b_check_orders⟩
  have h_joined : Has l.prog w K mg base "joined" 6 ["one", "two", "table"] (spJoined K C_Orders) := ⟨_, _, ok_joined F_joined B_Bl B_BlA.b_set B_BlA.b_sorted G_Orders h_check_orders hc_Orders hm_Orders___contains__, PySem.W.mg_of X G a23, k23, b_joined⟩
  have hm_Orders___and__ : HasM l.prog w K mg base C_Orders "__and__" 7 ["self", "other"] (spJoin2 C_Orders tAnd2) := ⟨_, _, ok_Orders___and__ F_Orders___and__ T_BOTH h_joined, ⟨a24, i24, k24⟩, b_Orders___and__⟩
  have hm_Orders___eq__ : HasM l.prog w K mg base C_Orders "__eq__" 1 ["self", "other"] (spOEq K C_Orders) := ⟨_, _, ok_Orders___eq__ F_Orders___eq__ B_Bl G_Orders, ⟨a25, i25, k25⟩, b_Orders___eq__⟩
  exact ok_law F_law B_Bl G_Orders h_l_bag_of h_l_pick h_l_built h_l_is_orders h_l_tells h_l_gcd h_dividing hk_dividing hm_Orders___and__ hm_Orders___contains__ hm_Orders___eq__
end My
open PySem PySem.W PyProof.Rows
set_option maxRecDepth 100000 in
set_option maxHeartbeats 0 in
theorem PySem.Challenge.cw_everyangle_k17_dividing_holds : PySem.Challenge.rw_everyangle_k17_dividing.Holds := by
  w_on; o_law; k_head; (case hw => w_witness2)
  k_fill
  refine L2.walk_of (l := PySem.Challenge.rw_everyangle_k17_dividing) (n := 63) (k := 10) (x := "_law_script") (CX := fun _ => L2.CX0) (sp := fun w => My.spLaw _) rfl (by decide) rfl ⟨rfl, by decide, by decide⟩ (fun w h Y => PySem.W.kIn_of Y) ?F (fun _ _ a ns hl _ hS => ⟨a, ns, rfl, hS, hl, fun _ => rfl⟩) (fun _ _ _ _ _ h => h)
  case F =>
    intro w mg fa h KX G hmg
    refine' My.all_mk KX G hmg ?aCO ?pgO ?hdO ?poO ?saO ?mk_Orders ?kc_Orders ?nRO ?nOO ?sfO ?icO ?moO ?caO ?cnO ?ctO ?cmO ?tyO ?s1O ?s2O ?s3O ?s4O ?s5O ?s6O ?t1O ?t2O ?t3O ?t4O ?a1 ?l1 ?c1 ?k1 ?a2 ?l2 ?c2 ?k2 ?a3 ?l3 ?c3 ?k3 ?a4 ?l4 ?c4 ?k4 ?a5 ?l5 ?c5 ?k5 ?a6 ?l6 ?c6 ?k6 ?a7 ?l7 ?c7 ?k7 ?a8 ?gp8 ?tp8 ?i8 ?l8 ?c8 ?k8 ?a9 ?gp9 ?tp9 ?i9 ?l9 ?c9 ?k9 ?a10 ?gp10 ?tp10 ?i10 ?l10 ?c10 ?k10 ?a11 ?i11 ?l11 ?c11 ?k11 ?a12 ?i12 ?l12 ?c12 ?k12 ?a13 ?l13 ?c13 ?k13 ?a14 ?l14 ?c14 ?k14 ?a15 ?i15 ?l15 ?c15 ?k15 ?a16 ?i16 ?l16 ?c16 ?k16 ?a17 ?l17 ?c17 ?k17 ?a18 ?l18 ?c18 ?k18 ?a19 ?l19 ?c19 ?k19 ?a20 ?i20 ?l20 ?c20 ?k20 ?d20 ?a21 ?l21 ?c21 ?k21 ?a22 ?l22 ?c22 ?k22 ?a23 ?l23 ?c23 ?k23 ?a24 ?i24 ?l24 ?c24 ?k24 ?a25 ?i25 ?l25 ?c25 ?k25 ?a26 ?l26 ?c26 ?k26 ?z_abs ?z_all ?z_bool ?z_int ?z_isinstance ?z_iter ?z_len ?z_list ?z_max ?z_min ?z_range ?z_set ?z_sorted ?z_str ?z_sum ?z_tuple ?aEITHER ?lEITHER ?aBOTH ?lBOTH ?aFIRST_ALONE ?lFIRST_ALONE ?aJUST_ONE ?lJUST_ONE ?gaor ?gbor ?gaand ?gband ?gasub ?gbsub ?gaxor ?gbxor
    (case aCO => k_is); (case pgO => k_is); (case hdO => k_is); (case poO => k_is); (case saO => k_is); (case mk_Orders => k_is); (case kc_Orders => k_is); (case nRO => k_is); (case nOO => k_is); (case sfO => k_is); (case icO => k_is); (case moO => rfl); (case caO => k_is); (case cnO => k_is); (case ctO => k_is); (case cmO => k_is); (case tyO => k_is); (case s1O => k_is); (case s2O => k_is); (case s3O => k_is); (case s4O => k_is); (case s5O => k_is); (case s6O => k_is); (case t1O => k_is); (case t2O => k_is); (case t3O => k_is); (case t4O => k_is); (case a1 => k_is); (case l1 => k_is); (case c1 => k_is); (case k1 => k_is); (case a2 => k_is); (case l2 => k_is); (case c2 => k_is); (case k2 => k_is); (case a3 => k_is); (case l3 => k_is); (case c3 => k_is); (case k3 => k_is); (case a4 => k_is); (case l4 => k_is); (case c4 => k_is); (case k4 => k_is); (case a5 => k_is); (case l5 => k_is); (case c5 => k_is); (case k5 => k_is); (case a6 => k_is); (case l6 => k_is); (case c6 => k_is); (case k6 => k_is); (case a7 => k_is); (case l7 => k_is); (case c7 => k_is); (case k7 => k_is); (case a8 => k_is); (case gp8 => k_is); (case tp8 => k_is); (case i8 => k_is); (case l8 => k_is); (case c8 => k_is); (case k8 => k_is); (case a9 => k_is); (case gp9 => k_is); (case tp9 => k_is); (case i9 => k_is); (case l9 => k_is); (case c9 => k_is); (case k9 => k_is); (case a10 => k_is); (case gp10 => k_is); (case tp10 => k_is); (case i10 => k_is); (case l10 => k_is); (case c10 => k_is); (case k10 => k_is); (case a11 => k_is); (case i11 => k_is); (case l11 => k_is); (case c11 => k_is); (case k11 => k_is); (case a12 => k_is); (case i12 => k_is); (case l12 => k_is); (case c12 => k_is); (case k12 => k_is); (case a13 => k_is); (case l13 => k_is); (case c13 => k_is); (case k13 => k_is); (case a14 => k_is); (case l14 => k_is); (case c14 => k_is); (case k14 => k_is); (case a15 => k_is); (case i15 => k_is); (case l15 => k_is); (case c15 => k_is); (case k15 => k_is); (case a16 => k_is); (case i16 => k_is); (case l16 => k_is); (case c16 => k_is); (case k16 => k_is); (case a17 => k_is); (case l17 => k_is); (case c17 => k_is); (case k17 => k_is); (case a18 => k_is); (case l18 => k_is); (case c18 => k_is); (case k18 => k_is); (case a19 => k_is); (case l19 => k_is); (case c19 => k_is); (case k19 => k_is); (case a20 => k_is); (case i20 => k_is); (case l20 => k_is); (case c20 => k_is); (case k20 => k_is); (case d20 => k_is); (case a21 => k_is); (case l21 => k_is); (case c21 => k_is); (case k21 => k_is); (case a22 => k_is); (case l22 => k_is); (case c22 => k_is); (case k22 => k_is); (case a23 => k_is); (case l23 => k_is); (case c23 => k_is); (case k23 => k_is); (case a24 => k_is); (case i24 => k_is); (case l24 => k_is); (case c24 => k_is); (case k24 => k_is); (case a25 => k_is); (case i25 => k_is); (case l25 => k_is); (case c25 => k_is); (case k25 => k_is); (case a26 => k_is); (case l26 => k_is); (case c26 => k_is); (case k26 => k_is); (case z_abs => k_is); (case z_all => k_is); (case z_bool => k_is); (case z_int => k_is); (case z_isinstance => k_is); (case z_iter => k_is); (case z_len => k_is); (case z_list => k_is); (case z_max => k_is); (case z_min => k_is); (case z_range => k_is); (case z_set => k_is); (case z_sorted => k_is); (case z_str => k_is); (case z_sum => k_is); (case z_tuple => k_is); (case aEITHER => k_is); (case lEITHER => k_is); (case aBOTH => k_is); (case lBOTH => k_is); (case aFIRST_ALONE => k_is); (case lFIRST_ALONE => k_is); (case aJUST_ONE => k_is); (case lJUST_ONE => k_is); (case gaor => k_is); (case gbor => k_is); (case gaand => k_is); (case gband => k_is); (case gasub => k_is); (case gbsub => k_is); (case gaxor => k_is); (case gbxor => k_is)
