import PyProof.Rows.All
import Wide.All
import OpenK.AllK
import Wide.FinOn
import HandS.ForMost
import HandS.Wide
import HandS.WideMore
import HandS.Flow
import HandS.IsInst
import HandS.Text
import HandS.More
import KE.KOpsOwn
import HandS.Property
import HandS.SlotsOwn
import HandS.MakeKw
import HandS.Style
import HandS.ExcValue
import HandS.ExcIs
import HandS.Defaults
import HandS.TupAny
import PyProof.StrOps2
import HandS.Exc
import HandS.ExcOwn
import HandS.WordsExc
import HandS.Rev
import HandS.List
import KE.KRevSl
import HandS.SetKeys
import HandS.SortInts
import KE.KOwnIter
import KE.KDictIter
import HandS.IterNext
import PyProof.TwoTypes
import PyProof.FactsAll.int_1
import PyProof.FactsAll.int_3
import PyProof.FactsAll.int_5
import HandS.Conv
import HandS.Iter
import PySem.Challenge.RW_everyangle_k05_whole_divided
set_option Elab.async false
set_option linter.all false
set_option maxRecDepth 100000
namespace My
open PySem PySem.Spec PyProof.Rows L2

/-! ### a def of the text, by its name -/
structure Has (P : Program) (w : World) (K : PySem.W.Frag) (mg : Str → Option Value) (base : Heap) (x : Str) (k : Nat) (ps : List Str) (sp : Sp) : Prop where
  ex : ∃ f fd, FnOk P w K mg base CX0 k f fd ps sp ∧ mg x = some (.ref f) ∧ PySem.W.keepIn K (.ref f) = true ∧ Binds K fd ps []
theorem Has.mono {P : Program} {w : World} {K : PySem.W.Frag} {mg : Str → Option Value} {base : Heap} {x : Str} {j k : Nat} {ps : List Str} {sp : Sp} (h : Has P w K mg base x j ps sp) (hk : j ≤ k) : Has P w K mg base x k ps sp := by
  obtain ⟨f, fd, F, a, b, c⟩ := h.ex
  exact ⟨f, fd, F.mono hk, a, b, c⟩
section
variable {X : Cx} {k : Nat} {ps : List Str} {sp : Sp} {x : Str} {p pos : Pos} {e : Expr} {es : List Expr} {t : TA}
theorem pe_callH (h : Has X.prog X.w X.K X.mg X.base x k ps sp) (hr : Room k X.A) (ha : PA X (e :: es) t) (hg : Gl X x := by rfl) (hdb : (x == ("__debug__" : Str)) = false := by decide)
   (hs : starEach (e :: es) X.env = (false, eval e X.env) :: starEach es X.env := by rfl) (hplain : (backTo pos (starEach es X.env)).any (·.1) = false := by rfl) :
   PE X (.Call (.Name x p) (e :: es) [] pos) (tCall sp [] E0 t) := by
  obtain ⟨f, fd, F, a, b, c⟩ := h.ex
  exact pe_call F hr hg a b c .nil pass0 ha hdb hs hplain
theorem pe_callH0 (h : Has X.prog X.w X.K X.mg X.base x k ps sp) (hr : Room k X.A) (hg : Gl X x := by rfl) (hdb : (x == ("__debug__" : Str)) = false := by decide) :
   PE X (.Call (.Name x p) [] [] pos) (tCall sp [] E0 tNil) := by
  obtain ⟨f, fd, F, a, b, c⟩ := h.ex
  exact pe_call0 F hr hg a b c .nil pass0 hdb
end
/-- xs[i] read by values, for o[i] op= e -/
theorem pg_list {X : Cx} : PGet X (rIxL X.K) := by
  intro pins s σ H x y v u Q I rx ry h
  obtain ⟨p, xs, i, z, rfl, rfl, hq, he, q⟩ := h
  cases rx
  obtain ⟨t, rfl⟩ := ry
  obtain ⟨its, r, pl, hz⟩ := I.list hq
  obtain ⟨j, h1, h2, h3, h4, h5⟩ := atI_get he
  obtain ⟨w, ew, rw'⟩ := r.get h2
  have hl := r.length
  have hn := line63
  have fin : EP X pins σ Q w s := ⟨z, H, I, rw', q⟩
  by_cases h0 : 0 ≤ i
  · have hj : i.toNat = j := by
      rw [seqIndex_of h0 h5] at h1
      exact Option.some.inj h1
    exact wpAny_getItem_list pl.isList h0 (by omega) (by rw [hj]; simpa using ew) fin
  · have hj : (i + (its.toArray.size : Int)).toNat = j := by
      rw [seqIndex_neg (by omega) h4] at h1
      rw [List.size_toArray, ← hl]
      exact Option.some.inj h1
    exact wpAny_getItem_list_neg pl.isList (by omega) (by rw [List.size_toArray] <;> omega) (by omega) (by rw [hj]; simpa using ew) fin
/-- int(n) of an int, of a truth -/
theorem call_intI {X : Cx} : CallR X (.type "int") (fun xs H Q => ∃ i, xs = [.int i] ∧ Q (.int i) H) := fun pins s σ H xs us Q I r h => call_int1 pins s σ H xs us Q I r (.inl h)
theorem call_intB {X : Cx} : CallR X (.type "int") (fun xs H Q => ∃ k, xs = [.bl k] ∧ Q (.int (if k then 1 else 0)) H) := fun pins s σ H xs us Q I r h => call_int1 pins s σ H xs us Q I r (.inr h)

/-! ### readings, one step at a time -/
section
variable {σ : L2.St} {H : Hp} {Q : VK} {i j : Nat} {v x y : V} {ta tb tc te ti to : TE} {K : PySem.W.Frag}
theorem r_var (e : σ[i]? = some (some v)) (q : Q v H) : tVar i σ H Q := ⟨v, e, q⟩
theorem r_c (q : Q v H) : tC v σ H Q := q
theorem r_op {r : R2} (q : ta σ H fun x H1 => tb σ H1 fun y H2 => r x y H2 Q) : tOp r ta tb σ H Q := q
theorem r_un {r : V → Hp → VK → Prop} (q : ta σ H fun x H1 => r x H1 Q) : tUn r ta σ H Q := q
theorem r_rI {C : Int → Int → Prop} {g : Int → Int → V} {a b : Int} (c : C a b) (q : Q (g a b) H) : rI C g (.int a) (.int b) H Q := ⟨a, b, rfl, rfl, c, q⟩
theorem r_rI0 {g : Int → Int → V} {a b : Int} (q : Q (g a b) H) : rI0 g (.int a) (.int b) H Q := ⟨a, b, rfl, rfl, q⟩
theorem r_rU {g : Int → V} {a : Int} (q : Q (g a) H) : rU g (.int a) H Q := ⟨a, rfl, q⟩
theorem r_eq (s : scal x y = true) (q : Q (.bl (decide (x = y))) H) : rEq x y H Q := ⟨s, q⟩
theorem r_ne (s : scal x y = true) (q : Q (.bl (!decide (x = y))) H) : rNe x y H Q := ⟨s, q⟩
theorem dec_int {a b : Int} : decide (V.int a = V.int b) = decide (a = b) := by
  by_cases h : a = b
  · rw [h]; simp
  · rw [decide_eq_false h, decide_eq_false (fun e => h (V.int.inj e))]
theorem dec_bl {a b : Bool} : decide (V.bl a = V.bl b) = decide (a = b) := by
  by_cases h : a = b
  · rw [h]; simp
  · rw [decide_eq_false h, decide_eq_false (fun e => h (V.bl.inj e))]
theorem dec_str {a b : Str} : decide (V.str a = V.str b) = decide (a = b) := by
  by_cases h : a = b
  · rw [h]; simp
  · rw [decide_eq_false h, decide_eq_false (fun e => h (V.str.inj e))]
theorem r_eqI {a b : Int} (q : Q (.bl (decide (a = b))) H) : rEq (.int a) (.int b) H Q := ⟨rfl, by rw [dec_int]; exact q⟩
theorem r_neI {a b : Int} (q : Q (.bl (!decide (a = b))) H) : rNe (.int a) (.int b) H Q := ⟨rfl, by rw [dec_int]; exact q⟩
theorem r_eqB {a b : Bool} (q : Q (.bl (decide (a = b))) H) : rEq (.bl a) (.bl b) H Q := ⟨rfl, by rw [dec_bl]; exact q⟩
theorem r_neB {a b : Bool} (q : Q (.bl (!decide (a = b))) H) : rNe (.bl a) (.bl b) H Q := ⟨rfl, by rw [dec_bl]; exact q⟩
theorem r_eqS {a b : Str} (q : Q (.bl (decide (a = b))) H) : rEq (.str a) (.str b) H Q := ⟨rfl, by rw [dec_str]; exact q⟩
theorem r_neS {a b : Str} (q : Q (.bl (!decide (a = b))) H) : rNe (.str a) (.str b) H Q := ⟨rfl, by rw [dec_str]; exact q⟩
theorem r_ixL {p : Addr} {xs : List V} {n : Int} (h : SqL K H p xs) (e : atI xs n = some v) (q : Q v H) : rIxL K (.ref p) (.int n) H Q := ⟨p, xs, n, v, rfl, rfl, h, e, q⟩
theorem r_ixT {p : Addr} {xs : List V} {n : Int} (h : SqT K H p xs) (e : atI xs n = some v) (q : Q v H) : rIxT K (.ref p) (.int n) H Q := ⟨p, xs, n, v, rfl, rfl, h, e, q⟩
theorem r_cb {r : List V → Hp → VK → Prop} {t : TA} (q : t σ H fun vs H1 => r vs H1 Q) : tCB r t σ H Q := q
theorem r_call {sp : Sp} {E : XK} {t : TA} (q : t σ H fun vs H1 => sp vs H1 Q E) : tCall sp [] E t σ H Q := by
  unfold tCall
  simpa only [List.append_nil] using q
theorem r_cons {t : TA} {R : List V → Hp → Prop} (q : te σ H fun x H1 => t σ H1 fun xs H2 => R (x :: xs) H2) : tCons te t σ H R := q
theorem r_nil {R : List V → Hp → Prop} (q : R [] H) : tNil σ H R := q
theorem r_lst {t : TA} (q : t σ H fun xs H1 => xs.length ≤ sizeLine ∧ ∀ p, H1 p = none → Q (.ref p) (upd H1 p (.lst xs))) : tLst t σ H Q := q
theorem r_tup {t : TA} (q : t σ H fun xs H1 => xs.length ≤ sizeLine ∧ ∀ p, H1 p = none → Q (.ref p) (upd H1 p (.tup xs))) : tTup t σ H Q := q
theorem small_of {n : Nat} (h : n ≤ 100000) : n ≤ sizeLine := Nat.le_trans h (by decide)
theorem r_new {A : Prop} {n : Nat} (h : n ≤ 100000) (q : A) : n ≤ sizeLine ∧ A := ⟨small_of h, q⟩
theorem r_exbl {b : Bool} {R : Bool → Prop} (q : R b) : ∃ k, V.bl b = V.bl k ∧ R k := ⟨b, rfl, q⟩
theorem r_exint {n : Int} {R : Int → Prop} (q : R n) : ∃ k, [V.int n] = [V.int k] ∧ R k := ⟨n, rfl, q⟩
theorem r_exint2 {n m : Int} {R : Int → Int → Prop} (q : R n m) : ∃ k l, [V.int n, V.int m] = [V.int k, V.int l] ∧ R k l := ⟨n, m, rfl, q⟩
theorem r_exblL {b : Bool} {R : Bool → Prop} (q : R b) : ∃ k, [V.bl b] = [V.bl k] ∧ R k := ⟨b, rfl, q⟩
theorem r_test {t : TE} {R : Bool → Hp → Prop} (q : t σ H fun x H' => ∃ k, x = .bl k ∧ R k H') : tTest t σ H R := q
theorem r_tB {t : TE} {R : Bool → Hp → Prop} (q : t σ H fun x H' => ∃ k, x = .bl k ∧ R k H') : tB t σ H R := q
theorem r_not {t : TT} {R : Bool → Hp → Prop} (q : t σ H fun c H1 => R (!c) H1) : tNot t σ H R := q
theorem r_and {t u : TT} {R : Bool → Hp → Prop} (q : t σ H fun c H1 => if c = true then u σ H1 R else R false H1) : tAnd t u σ H R := q
theorem r_or {t u : TT} {R : Bool → Hp → Prop} (q : t σ H fun c H1 => if c = true then R true H1 else u σ H1 R) : tOr t u σ H R := q
theorem r_andV (q : ta σ H fun x H1 => ∃ c, x = .bl c ∧ if c = true then tb σ H1 Q else Q (.bl false) H1) : tAndV ta tb σ H Q := q
theorem r_orV (q : ta σ H fun x H1 => ∃ c, x = .bl c ∧ if c = true then Q (.bl true) H1 else tb σ H1 Q) : tOrV ta tb σ H Q := q
theorem r_notV (q : ta σ H fun x H1 => ∃ c, x = .bl c ∧ Q (.bl (!c)) H1) : tNotV ta σ H Q := q
theorem r_tif {t : TT} (q : t σ H fun c H1 => if c = true then ta σ H1 Q else tb σ H1 Q) : tIf t ta tb σ H Q := q
theorem r_iteT {A B : Prop} (q : A) : if true = true then A else B := by rw [if_pos rfl]; exact q
theorem r_iteF {A B : Prop} (q : B) : if false = true then A else B := by rw [if_neg Bool.false_ne_true]; exact q
theorem r_ite {b : Bool} {A B : Prop} (q : b = true → A) (q' : b = false → B) : if b = true then A else B := by
  cases b with
  | true => rw [if_pos rfl]; exact q rfl
  | false => rw [if_neg Bool.false_ne_true]; exact q' rfl
theorem r_iteD {c A B : Prop} [Decidable c] (q : c → A) (q' : ¬ c → B) : if decide c = true then A else B := by
  by_cases h : c
  · rw [if_pos (decide_eq_true h)]; exact q h
  · rw [if_neg (by simpa using h)]; exact q' h
theorem r_iteN {c A B : Prop} [Decidable c] (q : ¬ c → A) (q' : c → B) : if (!decide c) = true then A else B := by
  by_cases h : c
  · rw [if_neg (by simpa using h)]; exact q' h
  · rw [if_pos (by simpa using h)]; exact q h
theorem r_iteNT {A B : Prop} (q : B) : if (!true) = true then A else B := r_iteF q
theorem r_iteNF {A B : Prop} (q : A) : if (!false) = true then A else B := r_iteT q
theorem r_iteDT {c A B : Prop} [Decidable c] (h : c) (q : A) : if decide c = true then A else B := by rw [if_pos (decide_eq_true h)]; exact q
theorem r_iteDF {c A B : Prop} [Decidable c] (h : ¬ c) (q : B) : if decide c = true then A else B := by rw [if_neg (by simpa using h)]; exact q
theorem r_iteNDT {c A B : Prop} [Decidable c] (h : ¬ c) (q : A) : if (!decide c) = true then A else B := by rw [if_pos (by simpa using h)]; exact q
theorem r_iteNDF {c A B : Prop} [Decidable c] (h : c) (q : B) : if (!decide c) = true then A else B := by rw [if_neg (by simpa using h)]; exact q
theorem atI2_0 {x y : V} : atI [x, y] 0 = some x := rfl
theorem atI2_1 {x y : V} : atI [x, y] 1 = some y := rfl
/-- a statement, then the rest, with a word between them -/
def tCutM (t u : TS) : TS := fun D σ H => ∃ Mid : L2.St → Hp → Prop, t { D with nx := Mid } σ H ∧ ∀ σ' H', Mid σ' H' → u D σ' H'
theorem pss_cutM {X : Cx} {st : Stmt} {rest : List Stmt} {t u : TS} (h1 : PS X st t) (h2 : PSs X rest u) : PSs X (st :: rest) (tCutM t u) := by
  refine ⟨fun pins s σ H D I h => ?_⟩
  obtain ⟨Mid, hm, hu⟩ := h
  refine wpAny_execs_cons (thn (h1.run pins s σ H { D with nx := Mid } I hm) fun f s1 q => ?_)
  cases f with
  | next =>
    obtain ⟨σ', H', I', q⟩ := q
    exact h2.run pins s1 σ' H' D I' (hu σ' H' q)
  | ret v => exact q
  | brk => exact q
  | cont => exact q
variable {D : Ends} {t u : TS} {g : TG} {c : TT}
theorem r_cut (Mid : L2.St → Hp → Prop) (h : t { D with nx := Mid } σ H) (q : ∀ σ' H', Mid σ' H' → u D σ' H') : tCutM t u D σ H := ⟨Mid, h, q⟩
theorem r_seq (q : t { D with nx := u D } σ H) : tSeq t u D σ H := q
theorem r_next (q : D.nx σ H) : tNext D σ H := q
theorem r_brk (q : D.bk σ H) : tBreak D σ H := q
theorem r_cont (q : D.ct σ H) : tCont D σ H := q
theorem r_asg (q : te σ H fun x H1 => g x σ H1 D.nx) : tAsg te g D σ H := q
theorem r_gname {R : L2.St → Hp → Prop} (q : R (σ.set i (some v)) H) : gName i v σ H R := q
theorem r_ret (q : te σ H D.rt) : tRet te D σ H := q
theorem r_retN (q : D.rt .non H) : tRetN D σ H := q
theorem r_drop (q : te σ H fun _ H1 => D.nx σ H1) : tDrop te D σ H := q
theorem r_if (q : c σ H fun b H1 => if b = true then t D σ H1 else u D σ H1) : tIfS c t u D σ H := q
theorem r_aug {ip : TIp} (e : σ[i]? = some (some x)) (q : te σ H fun y H1 => ip x y H1 fun z H2 => D.nx (σ.set i (some z)) H2) : tAug i te ip D σ H := ⟨x, e, q⟩
theorem r_ipI {f : Int → Int → Int} {a b : Int} (q : Q (.int (f a b)) H) : ipI f (.int a) (.int b) H Q := ⟨a, b, rfl, rfl, q⟩
theorem r_augS {gt : V → V → Hp → VK → Prop} {ip : TIp} {st : TSet} (q : to σ H fun o H1 => ti σ H1 fun i H2 => gt o i H2 fun x H3 => te σ H3 fun y H4 => ip x y H4 fun z H5 => st o i z H5 fun H6 => D.nx σ H6) : tAugS to ti te gt ip st D σ H := q
theorem r_gsub {st : TSet} {R : L2.St → Hp → Prop} (q : to σ H fun o H1 => ti σ H1 fun i H2 => st o i v H2 fun H3 => R σ H3) : gSub to ti st v σ H R := q
theorem r_setL {p : Addr} {xs : List V} {n : Int} {m : Nat} {R : Hp → Prop} (h : H p = some (.lst xs)) (e : ixN xs.length n = some m) (q : R (upd H p (.lst (xs.set m v)))) : rSetL (.ref p) (.int n) v H R := ⟨p, xs, n, m, rfl, rfl, h, e, q⟩
theorem r_par {i j : Nat} {tas : TA} (q : tas σ H fun vs H1 => ∃ v w, vs = [v, w] ∧ D.nx ((σ.set i (some v)).set j (some w)) H1) : tPar i j tas D σ H := q
theorem r_ex2 {v w : V} {R : V → V → Prop} (q : R v w) : ∃ a b, [v, w] = [a, b] ∧ R a b := ⟨v, w, rfl, q⟩
theorem r_bm {T : String} {r : V → List V → Hp → VK → Prop} {tas : TA} (q : to σ H fun x H1 => tyV K T x H1 ∧ tas σ H1 fun xs H2 => r x xs H2 Q) : tBM K T r to tas σ H Q := q
theorem r_tyL {p : Addr} {xs : List V} {A : Prop} (h : H p = some (.lst xs)) (q : A) : tyV K "list" (.ref p) H ∧ A := ⟨.inl ⟨rfl, _, .inl (.inl h)⟩, q⟩
theorem r_append {p : Addr} {xs : List V} (h : H p = some (.lst xs)) (hl : xs.length < 100000) (q : Q .non (upd H p (.lst (xs ++ [v])))) : rAppend (.ref p) [v] H Q := ⟨p, xs, v, rfl, rfl, h, Nat.lt_of_lt_of_le hl (by decide), q⟩
end

/-- f(k = v, ..): all by name, in the parameters' order -/
def gK (us ws : List Value) : List Value := match us with | [] => ws | _ :: _ => []
def gKV (us ws : List V) : List V := match us with | [] => ws | _ :: _ => []
structure HasK (P : Program) (w : World) (K : PySem.W.Frag) (mg : Str → Option Value) (base : Heap) (x : Str) (k : Nat) (ps : List Str) (sp : Sp) : Prop where
  ex : ∃ f fd, FnOk P w K mg base CX0 k f fd ps sp ∧ mg x = some (.ref f) ∧ PySem.W.keepIn K (.ref f) = true ∧ Binds K fd ps [] ∧ KBinds K fd ps ps gK gKV
theorem HasK.has {P : Program} {w : World} {K : PySem.W.Frag} {mg : Str → Option Value} {base : Heap} {x : Str} {k : Nat} {ps : List Str} {sp : Sp} (h : HasK P w K mg base x k ps sp) : Has P w K mg base x k ps sp := by
  obtain ⟨f, fd, F, a, b, c, _⟩ := h.ex
  exact ⟨f, fd, F, a, b, c⟩
theorem kbinds {K : PySem.W.Frag} {fd : FuncData} {ps : List Str} (h : ∀ ws : List Value, ws.length = ps.length → bindArgs fd ⟨[], ps.zip ws⟩ = pure (ps.zip ws)) (h0 : ps ≠ []) : KBinds K fd ps ps gK gKV := ⟨fun s us ws _ hl => by
  cases us with
  | nil => exact .of_eq (h ws hl)
  | cons u r => exact absurd (List.length_eq_zero_iff.mp hl.symm) h0, fun r rz => by
  cases r with
  | nil => exact rz
  | cons _ _ => exact .nil⟩
theorem pe_callHK {X : Cx} {k : Nat} {ps : List Str} {sp : Sp} {x : Str} {p pos : Pos} {kws : List Keyword} {tk : TA} (h : HasK X.prog X.w X.K X.mg X.base x k ps sp) (hr : Room k X.A) (hkw : PK X kws tk) (hg : Gl X x := by rfl)
    (hall : (backToKw pos (keywordEach kws X.env)).all (·.1.isSome) = true := by rfl) (hks : (backToKw pos (keywordEach kws X.env)).filterMap (·.1) = ps := by rfl) (hdb : (x == ("__debug__" : Str)) = false := by decide)
    (hpl : ((backTo pos (starEach [] X.env)).any (·.1) || (backToKw pos (keywordEach kws X.env)).any (·.1.isNone)) = false := by rfl) : PE X (.Call (.Name x p) [] kws pos) (tCall sp [] E0 tk) := by
  obtain ⟨f, fd, F, a, b, c, kb⟩ := h.ex
  refine ⟨fun pins s σ H Q I h => ?_⟩
  refine wpAny_Call_Name_kw (ld_glob I hg a ?_ hdb)
  refine PySem.W.callWith_KW0 (h₀ := X.base) I.ok.mod.kin b hall (thn (hkw.run pos pins s σ H _ I h) fun ws s2 ⟨zs, H2, I2, rz, q2⟩ => ⟨I2.kIn, ?_⟩) hpl
  rw [hks]
  have q2 : sp (zs ++ []) H2 Q E0 := q2
  rw [List.append_nil] at q2
  exact run_fnk (us := []) (vs := []) F hr kb pass0 I2 .nil rz q2

/-! ### isinstance -/
section
variable {H : Hp} {Q : VK} {K : PySem.W.Frag} {x : V}
theorem r_isi {a b : String} {r : Bool} (ty : TyX K H x (.type a)) (k : kitB a b = some r) (q : Q (.bl r) H) : rIsi K [x, .ty b] H Q := ⟨x, .ty b, _, _, r, rfl, .ty b, ty, kit_ty k, q⟩
theorem ty_int {i : Int} : TyX K H (.int i) (.type "int") := .base (.int i)
theorem ty_bl {i : Bool} : TyX K H (.bl i) (.type "bool") := .base (.bl i)
theorem ty_str {i : Str} : TyX K H (.str i) (.type "str") := .base (.str i)
theorem ty_lst {p : Addr} {xs : List V} (h : H p = some (.lst xs)) : TyX K H (.ref p) (.type "list") := .base (.lst h)
theorem ty_tup {p : Addr} {xs : List V} (h : H p = some (.tup xs)) : TyX K H (.ref p) (.type "tuple") := .base (.tup h)
theorem r_isiI {b : String} {r : Bool} {i : Int} (k : kitB "int" b = some r) (q : Q (.bl r) H) : rIsi K [.int i, .ty b] H Q := r_isi ty_int k q
theorem r_isiB {b : String} {r : Bool} {i : Bool} (k : kitB "bool" b = some r) (q : Q (.bl r) H) : rIsi K [.bl i, .ty b] H Q := r_isi ty_bl k q
theorem r_isiS {b : String} {r : Bool} {i : Str} (k : kitB "str" b = some r) (q : Q (.bl r) H) : rIsi K [.str i, .ty b] H Q := r_isi ty_str k q
theorem r_isiL {b : String} {r : Bool} {p : Addr} {xs : List V} (h : H p = some (.lst xs)) (k : kitB "list" b = some r) (q : Q (.bl r) H) : rIsi K [.ref p, .ty b] H Q := r_isi (ty_lst h) k q
theorem r_isiT {b : String} {r : Bool} {p : Addr} {xs : List V} (h : H p = some (.tup xs)) (k : kitB "tuple" b = some r) (q : Q (.bl r) H) : rIsi K [.ref p, .ty b] H Q := r_isi (ty_tup h) k q
end
section
variable {H : Hp} {Q : VK} {K : PySem.W.Frag}
theorem r_is_int_int {i : Int} (q : Q (.bl true) H) : rIsi K [.int i, .ty "int"] H Q := r_isi ty_int (by decide +kernel) q
theorem r_is_int_bool {i : Int} (q : Q (.bl false) H) : rIsi K [.int i, .ty "bool"] H Q := r_isi ty_int (by decide +kernel) q
theorem r_is_int_str {i : Int} (q : Q (.bl false) H) : rIsi K [.int i, .ty "str"] H Q := r_isi ty_int (by decide +kernel) q
theorem r_is_int_list {i : Int} (q : Q (.bl false) H) : rIsi K [.int i, .ty "list"] H Q := r_isi ty_int (by decide +kernel) q
theorem r_is_int_tuple {i : Int} (q : Q (.bl false) H) : rIsi K [.int i, .ty "tuple"] H Q := r_isi ty_int (by decide +kernel) q
theorem r_is_bool_int {i : Bool} (q : Q (.bl true) H) : rIsi K [.bl i, .ty "int"] H Q := r_isi ty_bl (by decide +kernel) q
theorem r_is_bool_bool {i : Bool} (q : Q (.bl true) H) : rIsi K [.bl i, .ty "bool"] H Q := r_isi ty_bl (by decide +kernel) q
theorem r_is_bool_str {i : Bool} (q : Q (.bl false) H) : rIsi K [.bl i, .ty "str"] H Q := r_isi ty_bl (by decide +kernel) q
theorem r_is_bool_list {i : Bool} (q : Q (.bl false) H) : rIsi K [.bl i, .ty "list"] H Q := r_isi ty_bl (by decide +kernel) q
theorem r_is_bool_tuple {i : Bool} (q : Q (.bl false) H) : rIsi K [.bl i, .ty "tuple"] H Q := r_isi ty_bl (by decide +kernel) q
theorem r_is_str_int {i : Str} (q : Q (.bl false) H) : rIsi K [.str i, .ty "int"] H Q := r_isi ty_str (by decide +kernel) q
theorem r_is_str_bool {i : Str} (q : Q (.bl false) H) : rIsi K [.str i, .ty "bool"] H Q := r_isi ty_str (by decide +kernel) q
theorem r_is_str_str {i : Str} (q : Q (.bl true) H) : rIsi K [.str i, .ty "str"] H Q := r_isi ty_str (by decide +kernel) q
theorem r_is_str_list {i : Str} (q : Q (.bl false) H) : rIsi K [.str i, .ty "list"] H Q := r_isi ty_str (by decide +kernel) q
theorem r_is_str_tuple {i : Str} (q : Q (.bl false) H) : rIsi K [.str i, .ty "tuple"] H Q := r_isi ty_str (by decide +kernel) q
theorem r_is_list_int {p : Addr} {xs : List V}  (h : H p = some (.lst xs)) (q : Q (.bl false) H) : rIsi K [.ref p, .ty "int"] H Q := r_isi (ty_lst h) (by decide +kernel) q
theorem r_is_list_bool {p : Addr} {xs : List V}  (h : H p = some (.lst xs)) (q : Q (.bl false) H) : rIsi K [.ref p, .ty "bool"] H Q := r_isi (ty_lst h) (by decide +kernel) q
theorem r_is_list_str {p : Addr} {xs : List V}  (h : H p = some (.lst xs)) (q : Q (.bl false) H) : rIsi K [.ref p, .ty "str"] H Q := r_isi (ty_lst h) (by decide +kernel) q
theorem r_is_list_list {p : Addr} {xs : List V}  (h : H p = some (.lst xs)) (q : Q (.bl true) H) : rIsi K [.ref p, .ty "list"] H Q := r_isi (ty_lst h) (by decide +kernel) q
theorem r_is_list_tuple {p : Addr} {xs : List V}  (h : H p = some (.lst xs)) (q : Q (.bl false) H) : rIsi K [.ref p, .ty "tuple"] H Q := r_isi (ty_lst h) (by decide +kernel) q
theorem r_is_tuple_int {p : Addr} {xs : List V}  (h : H p = some (.tup xs)) (q : Q (.bl false) H) : rIsi K [.ref p, .ty "int"] H Q := r_isi (ty_tup h) (by decide +kernel) q
theorem r_is_tuple_bool {p : Addr} {xs : List V}  (h : H p = some (.tup xs)) (q : Q (.bl false) H) : rIsi K [.ref p, .ty "bool"] H Q := r_isi (ty_tup h) (by decide +kernel) q
theorem r_is_tuple_str {p : Addr} {xs : List V}  (h : H p = some (.tup xs)) (q : Q (.bl false) H) : rIsi K [.ref p, .ty "str"] H Q := r_isi (ty_tup h) (by decide +kernel) q
theorem r_is_tuple_list {p : Addr} {xs : List V}  (h : H p = some (.tup xs)) (q : Q (.bl false) H) : rIsi K [.ref p, .ty "list"] H Q := r_isi (ty_tup h) (by decide +kernel) q
theorem r_is_tuple_tuple {p : Addr} {xs : List V}  (h : H p = some (.tup xs)) (q : Q (.bl true) H) : rIsi K [.ref p, .ty "tuple"] H Q := r_isi (ty_tup h) (by decide +kernel) q
theorem r_is_NoneType_int  (q : Q (.bl false) H) : rIsi K [.non, .ty "int"] H Q := r_isi (.base .non) (by decide +kernel) q
theorem r_is_NoneType_bool  (q : Q (.bl false) H) : rIsi K [.non, .ty "bool"] H Q := r_isi (.base .non) (by decide +kernel) q
theorem r_is_NoneType_str  (q : Q (.bl false) H) : rIsi K [.non, .ty "str"] H Q := r_isi (.base .non) (by decide +kernel) q
theorem r_is_NoneType_list  (q : Q (.bl false) H) : rIsi K [.non, .ty "list"] H Q := r_isi (.base .non) (by decide +kernel) q
theorem r_is_NoneType_tuple  (q : Q (.bl false) H) : rIsi K [.non, .ty "tuple"] H Q := r_isi (.base .non) (by decide +kernel) q
end
/-! ### slices, sums of lists, len -/
section
variable {σ : L2.St} {H : Hp} {Q : VK} {K : PySem.W.Frag} {te : TE} {p b : Addr} {xs zs : List V}
theorem r_sl {r : V → Option Int → Option Int → Hp → VK → Prop} {tl th : TO} (q : te σ H fun x H1 => tl σ H1 fun l H2 => th σ H2 fun u H3 => r x l u H3 Q) : tSl r te tl th σ H Q := q
theorem r_nopart {R : Option Int → Hp → Prop} (q : R none H) : tNoPart σ H R := q
theorem r_part {R : Option Int → Hp → Prop} (q : te σ H fun x H1 => ∃ i, x = .int i ∧ R (some i) H1) : tPart te σ H R := q
theorem r_exI {n : Int} {R : Int → Prop} (q : R n) : ∃ k, V.int n = V.int k ∧ R k := ⟨n, rfl, q⟩
theorem r_slL {lo hi : Option Int} (h : SqL K H p xs) (q : ∀ c, H c = none → Q (.ref c) (upd H c (.lst (cutV xs lo hi)))) : rSlL K (.ref p) lo hi H Q := ⟨p, xs, rfl, h, q⟩
theorem r_cat (h : H p = some (.lst xs)) (h' : H b = some (.lst zs)) (l : xs.length + zs.length ≤ 100000) (q : ∀ c, H c = none → Q (.ref c) (upd H c (.lst (xs ++ zs)))) : rCat (.ref p) (.ref b) H Q := ⟨p, b, xs, zs, rfl, rfl, h, h', small_of l, q⟩
theorem r_sum {ns : List Int} (h : SqL K H p (ns.map V.int)) (q : Q (.int ns.sum) H) : rSum K [.ref p] H Q := ⟨p, ns, rfl, h, q⟩
def rLen (K : PySem.W.Frag) (xs : List V) (H : Hp) (Q : VK) : Prop := ∃ p ys, xs = [.ref p] ∧ (SqL K H p ys ∨ SqT K H p ys) ∧ Q (.int ys.length) H
theorem call_lenQ {X : Cx} : CallR X (.builtin "len") (rLen X.K) := call_len_seq
theorem r_lenL (h : H p = some (.lst xs)) (q : Q (.int xs.length) H) : rLen K [.ref p] H Q := ⟨p, xs, rfl, .inl (.of h), q⟩
theorem r_lenT (h : H p = some (.tup xs)) (q : Q (.int xs.length) H) : rLen K [.ref p] H Q := ⟨p, xs, rfl, .inr (.of h), q⟩
theorem r_gTup {n : Nat} {t : TGs} {R : L2.St → Hp → Prop} (h : H p = some (.tup xs)) (l : xs.length = n) (q : t xs σ H R) : gTup K n t (.ref p) σ H R := ⟨p, xs, rfl, .of h, l, q⟩
theorem r_gCons {t : TG} {u : TGs} {v : V} {R : L2.St → Hp → Prop} (q : t v σ H fun σ' H' => u xs σ' H' R) : gCons t u (v :: xs) σ H R := ⟨v, xs, rfl, q⟩
theorem r_gNil {R : L2.St → Hp → Prop} (q : R σ H) : gNil [] σ H R := ⟨rfl, q⟩
theorem cut_len (lo hi : Option Int) : (cutV xs lo hi).length ≤ xs.length := by
  unfold cutV
  rw [List.length_take, List.length_drop]
  omega
theorem cut_mem {lo hi : Option Int} {x : V} (h : x ∈ cutV xs lo hi) : x ∈ xs := by
  unfold cutV at h
  exact List.mem_of_mem_drop (List.mem_of_mem_take h)
end
theorem sum_cast (l : List Nat) (f : Nat → Nat) : (l.map fun n => (f n : Int)).sum = ((l.map f).sum : Nat) := by
  induction l with
  | nil => rfl
  | cons a r ih => rw [List.map_cons, List.sum_cons, List.map_cons, List.sum_cons, ih, Int.natCast_add]
/-! ### loops -/
section
variable {σ : L2.St} {H : Hp} {Q : VK} {K : PySem.W.Frag} {D : Ends} {tb : TS} {g : TG} {c : TT} {p : Addr} {xs : List V}
theorem r_for {wi : TI} (q : wi σ H fun J H1 => ∃ W : Nat → Nat → L2.St → Hp → Prop, (∃ m, W 0 m σ H1) ∧ ∀ i m σ H, W i m σ H →
  (J.stop i H ∧ D.nx σ H) ∨ (J.go i H ∧ ∃ N : L2.St → Hp → Prop, (∀ σ' H', N σ' H' → ∃ m', m' < m ∧ W (i + 1) m' σ' H') ∧ ∀ x H', J.yld i H x H' → g x σ H' fun σ2 H2 => tb { D with nx := N, ct := N, bk := D.nx } σ2 H2)) : tFor wi g tb D σ H := q
theorem r_iList {tl : TE} {R : It → Hp → Prop} (q : tl σ H fun x H1 => ∃ a, x = .ref a ∧ (∃ xs, SqL K H1 a xs) ∧ R (Itl K a) H1) : iList K tl σ H R := q
theorem r_iTup {tl : TE} {R : It → Hp → Prop} (q : tl σ H fun x H1 => ∃ a, x = .ref a ∧ (∃ xs, SqT K H1 a xs) ∧ R (Itt K a) H1) : iTup K tl σ H R := q
theorem r_iR1 {ta : TA} {R : It → Hp → Prop} (q : ta σ H fun vs H1 => ∃ j : Int, vs = [.int j] ∧ -(2 ^ 62) ≤ j ∧ j < 2 ^ 62 ∧ R (Itr 0 j.toNat) H1) : iRng1 ta σ H R := q
theorem r_iR2 {ta : TA} {R : It → Hp → Prop} (q : ta σ H fun vs H1 => ∃ i j : Int, vs = [.int i, .int j] ∧ (-(2 ^ 62) ≤ i ∧ i < 2 ^ 62 ∧ -(2 ^ 62) ≤ j ∧ j < 2 ^ 62) ∧ R (Itr i (j - i).toNat) H1) : iRng2 ta σ H R := q
theorem u_forL (h : SqL K H p xs) (Pv : Nat → L2.St → Hp → Prop) (h0 : Pv 0 σ H) (hl : ∀ i σ H, i ≤ xs.length → Pv i σ H → SqL K H p xs)
    (hs : ∀ i x σ H, xs[i]? = some x → Pv i σ H → g x σ H fun σ2 H2 => tb { D with nx := Pv (i + 1), ct := Pv (i + 1), bk := D.nx } σ2 H2) (hd : ∀ σ H, Pv xs.length σ H → D.nx σ H) :
    ∃ a, V.ref p = .ref a ∧ (∃ xs, SqL K H a xs) ∧ ∃ W : Nat → Nat → L2.St → Hp → Prop, (∃ m, W 0 m σ H) ∧ ∀ i m σ H, W i m σ H →
      ((Itl K a).stop i H ∧ D.nx σ H) ∨ ((Itl K a).go i H ∧ ∃ N : L2.St → Hp → Prop, (∀ σ' H', N σ' H' → ∃ m', m' < m ∧ W (i + 1) m' σ' H') ∧ ∀ x H', (Itl K a).yld i H x H' → g x σ H' fun σ2 H2 => tb { D with nx := N, ct := N, bk := D.nx } σ2 H2) :=
  ⟨p, rfl, ⟨xs, h⟩, for_list Pv h0 hl hs hd⟩
theorem u_forT (h : SqT K H p xs) (Pv : Nat → L2.St → Hp → Prop) (h0 : Pv 0 σ H) (hl : ∀ i σ H, i ≤ xs.length → Pv i σ H → SqT K H p xs)
    (hs : ∀ i x σ H, xs[i]? = some x → Pv i σ H → g x σ H fun σ2 H2 => tb { D with nx := Pv (i + 1), ct := Pv (i + 1), bk := D.nx } σ2 H2) (hd : ∀ σ H, Pv xs.length σ H → D.nx σ H) :
    ∃ a, V.ref p = .ref a ∧ (∃ xs, SqT K H a xs) ∧ ∃ W : Nat → Nat → L2.St → Hp → Prop, (∃ m, W 0 m σ H) ∧ ∀ i m σ H, W i m σ H →
      ((Itt K a).stop i H ∧ D.nx σ H) ∨ ((Itt K a).go i H ∧ ∃ N : L2.St → Hp → Prop, (∀ σ' H', N σ' H' → ∃ m', m' < m ∧ W (i + 1) m' σ' H') ∧ ∀ x H', (Itt K a).yld i H x H' → g x σ H' fun σ2 H2 => tb { D with nx := N, ct := N, bk := D.nx } σ2 H2) :=
  ⟨p, rfl, ⟨xs, h⟩, for_tup Pv h0 hl hs hd⟩
theorem u_for1 {n : Int} (hb : -(2 ^ 62) ≤ n ∧ n < 2 ^ 62) (Pv : Nat → L2.St → Hp → Prop) (h0 : Pv 0 σ H)
    (hs : ∀ (i : Nat) σ H, (i : Int) < n → Pv i σ H → g (.int (i : Int)) σ H fun σ2 H2 => tb { D with nx := Pv (i + 1), ct := Pv (i + 1), bk := D.nx } σ2 H2) (hd : ∀ σ H, Pv n.toNat σ H → D.nx σ H) :
    -(2 ^ 62) ≤ n ∧ n < 2 ^ 62 ∧ ∃ W : Nat → Nat → L2.St → Hp → Prop, (∃ m, W 0 m σ H) ∧ ∀ i m σ H, W i m σ H →
      ((Itr 0 n.toNat).stop i H ∧ D.nx σ H) ∨ ((Itr 0 n.toNat).go i H ∧ ∃ N : L2.St → Hp → Prop, (∀ σ' H', N σ' H' → ∃ m', m' < m ∧ W (i + 1) m' σ' H') ∧ ∀ x H', (Itr 0 n.toNat).yld i H x H' → g x σ H' fun σ2 H2 => tb { D with nx := N, ct := N, bk := D.nx } σ2 H2) :=
  ⟨hb.1, hb.2, for_range Pv h0 (fun i σ H hi p => by rw [Int.zero_add]; exact hs i σ H (by omega) p) hd⟩
theorem u_for2 {lo n : Int} (hb : -(2 ^ 62) ≤ lo ∧ lo < 2 ^ 62 ∧ -(2 ^ 62) ≤ n ∧ n < 2 ^ 62) (Pv : Nat → L2.St → Hp → Prop) (h0 : Pv 0 σ H)
    (hs : ∀ (i : Nat) σ H, lo + (i : Int) < n → Pv i σ H → g (.int (lo + (i : Int))) σ H fun σ2 H2 => tb { D with nx := Pv (i + 1), ct := Pv (i + 1), bk := D.nx } σ2 H2) (hd : ∀ σ H, Pv (n - lo).toNat σ H → D.nx σ H) :
    (-(2 ^ 62) ≤ lo ∧ lo < 2 ^ 62 ∧ -(2 ^ 62) ≤ n ∧ n < 2 ^ 62) ∧ ∃ W : Nat → Nat → L2.St → Hp → Prop, (∃ m, W 0 m σ H) ∧ ∀ k m σ H, W k m σ H →
      ((Itr lo (n - lo).toNat).stop k H ∧ D.nx σ H) ∨ ((Itr lo (n - lo).toNat).go k H ∧ ∃ N : L2.St → Hp → Prop, (∀ σ' H', N σ' H' → ∃ m', m' < m ∧ W (k + 1) m' σ' H') ∧ ∀ x H', (Itr lo (n - lo).toNat).yld k H x H' → g x σ H' fun σ2 H2 => tb { D with nx := N, ct := N, bk := D.nx } σ2 H2) :=
  ⟨hb, for_range Pv h0 (fun i σ H hi p => hs i σ H (by omega) p) hd⟩
/-- while: W the word by a number that falls -/
theorem u_while (W : Nat → L2.St → Hp → Prop) (m0 : Nat) (h0 : W m0 σ H) (hs : ∀ m σ H, W m σ H →
  c σ H fun b H1 => if b = true then ∃ N : L2.St → Hp → Prop, (∀ σ' H', N σ' H' → ∃ m', m' < m ∧ W m' σ' H') ∧ tb { D with nx := N, ct := N, bk := D.nx } σ H1 else D.nx σ H1) : tWhile c tb D σ H := ⟨W, ⟨m0, h0⟩, hs⟩
theorem u_turn {W : Nat → L2.St → Hp → Prop} {m : Nat} (q : tb { D with nx := fun σ' H' => ∃ m', m' < m ∧ W m' σ' H', ct := fun σ' H' => ∃ m', m' < m ∧ W m' σ' H', bk := D.nx } σ H) :
  ∃ N : L2.St → Hp → Prop, (∀ σ' H', N σ' H' → ∃ m', m' < m ∧ W m' σ' H') ∧ tb { D with nx := N, ct := N, bk := D.nx } σ H := ⟨_, fun _ _ h => h, q⟩
/-- [elt for x in ..]: the word speaks of the list so far and of the heap -/
theorem r_lc {wi : TI} {tt : TT} {te : TE} {vs : List Nat} (q : wi σ H fun J H1 => ∀ D, H1 D = none → ∃ W : Nat → Nat → Hp → Prop, (∃ m, W 0 m (upd H1 D (.lst []))) ∧ ∀ i m H, W i m H →
  (J.stop i H ∧ Q (.ref D) H) ∨ (J.go i H ∧ ∃ Nx : Hp → Prop, (∀ H', Nx H' → ∃ m', m' < m ∧ W (i + 1) m' H') ∧ ∀ x H', J.yld i H x H' → g x (wipe σ vs) H' fun σ2 H2 => wipe σ2 vs = wipe σ vs ∧ tt σ2 H2 fun b H3 =>
    if b = true then te σ2 H3 fun y H4 => ∃ acc, H4 D = some (.lst acc) ∧ acc.length < sizeLine ∧ Nx (upd H4 D (.lst (acc ++ [y]))) else Nx H3)) : tLc wi g tt te vs σ H Q := q
theorem r_yes {R : Bool → Hp → Prop} (q : R true H) : tYes σ H R := q
def LcPush (D : Addr) (I : Addr → Nat → List V → Hp → Prop) (i : Nat) (H : Hp) (y : V) : Prop := ∃ acc, H D = some (.lst acc) ∧ acc.length < sizeLine ∧ ∃ acc', (upd H D (.lst (acc ++ [y]))) D = some (.lst acc') ∧ I D (i + 1) acc' (upd H D (.lst (acc ++ [y])))
def LcSkip (D : Addr) (I : Addr → Nat → List V → Hp → Prop) (i : Nat) (H : Hp) : Prop := ∃ acc, H D = some (.lst acc) ∧ I D (i + 1) acc H
theorem u_push {D : Addr} {I : Addr → Nat → List V → Hp → Prop} {i : Nat} {y : V} {acc : List V} (h : H D = some (.lst acc)) (l : acc.length < 100000) (q : I D (i + 1) (acc ++ [y]) (upd H D (.lst (acc ++ [y])))) : LcPush D I i H y :=
  ⟨acc, h, Nat.lt_of_lt_of_le l (by decide), acc ++ [y], upd_same, q⟩
theorem u_skip {D : Addr} {I : Addr → Nat → List V → Hp → Prop} {i : Nat} {acc : List V} (h : H D = some (.lst acc)) (q : I D (i + 1) acc H) : LcSkip D I i H := ⟨acc, h, q⟩
theorem u_lcL {tt : TT} {te : TE} {vs : List Nat} {Qd : Addr → Hp → Prop} (h : SqL K H p xs) (I : Addr → Nat → List V → Hp → Prop) (h0 : ∀ D, H D = none → I D 0 [] (upd H D (.lst [])))
    (hl : ∀ D i acc H', H D = none → H' D = some (.lst acc) → I D i acc H' → SqL K H' p xs)
    (hs : ∀ D i x acc H', H D = none → xs[i]? = some x → H' D = some (.lst acc) → I D i acc H' → g x (wipe σ vs) H' fun σ2 H2 => wipe σ2 vs = wipe σ vs ∧ tt σ2 H2 fun b H3 => if b = true then te σ2 H3 fun y H4 => LcPush D I i H4 y else LcSkip D I i H3)
    (hd : ∀ D acc H', H D = none → H' D = some (.lst acc) → I D xs.length acc H' → Qd D H') :
    ∃ a, V.ref p = .ref a ∧ (∃ xs, SqL K H a xs) ∧ ∀ D, H D = none → ∃ W : Nat → Nat → Hp → Prop, (∃ m, W 0 m (upd H D (.lst []))) ∧ ∀ i m H, W i m H →
      ((Itl K a).stop i H ∧ Qd D H) ∨ ((Itl K a).go i H ∧ ∃ Nx : Hp → Prop, (∀ H', Nx H' → ∃ m', m' < m ∧ W (i + 1) m' H') ∧ ∀ x H', (Itl K a).yld i H x H' → g x (wipe σ vs) H' fun σ2 H2 => wipe σ2 vs = wipe σ vs ∧ tt σ2 H2 fun b H3 =>
        if b = true then te σ2 H3 fun y H4 => ∃ acc, H4 D = some (.lst acc) ∧ acc.length < sizeLine ∧ Nx (upd H4 D (.lst (acc ++ [y]))) else Nx H3) :=
  ⟨p, rfl, ⟨xs, h⟩, fun D hD => lc_list (xs := xs) (fun i H' => ∃ acc, H' D = some (.lst acc) ∧ I D i acc H') ⟨[], upd_same, h0 D hD⟩ (fun i H' _ ⟨acc, e, q⟩ => hl D i acc H' hD e q)
    (fun i x H' hi ⟨acc, e, q⟩ => hs D i x acc H' hD hi e q) fun H' ⟨acc, e, q⟩ => hd D acc H' hD e q⟩
theorem u_lcT {tt : TT} {te : TE} {vs : List Nat} {Qd : Addr → Hp → Prop} (h : SqT K H p xs) (I : Addr → Nat → List V → Hp → Prop) (h0 : ∀ D, H D = none → I D 0 [] (upd H D (.lst [])))
    (hl : ∀ D i acc H', H D = none → H' D = some (.lst acc) → I D i acc H' → SqT K H' p xs)
    (hs : ∀ D i x acc H', H D = none → xs[i]? = some x → H' D = some (.lst acc) → I D i acc H' → g x (wipe σ vs) H' fun σ2 H2 => wipe σ2 vs = wipe σ vs ∧ tt σ2 H2 fun b H3 => if b = true then te σ2 H3 fun y H4 => LcPush D I i H4 y else LcSkip D I i H3)
    (hd : ∀ D acc H', H D = none → H' D = some (.lst acc) → I D xs.length acc H' → Qd D H') :
    ∃ a, V.ref p = .ref a ∧ (∃ xs, SqT K H a xs) ∧ ∀ D, H D = none → ∃ W : Nat → Nat → Hp → Prop, (∃ m, W 0 m (upd H D (.lst []))) ∧ ∀ i m H, W i m H →
      ((Itt K a).stop i H ∧ Qd D H) ∨ ((Itt K a).go i H ∧ ∃ Nx : Hp → Prop, (∀ H', Nx H' → ∃ m', m' < m ∧ W (i + 1) m' H') ∧ ∀ x H', (Itt K a).yld i H x H' → g x (wipe σ vs) H' fun σ2 H2 => wipe σ2 vs = wipe σ vs ∧ tt σ2 H2 fun b H3 =>
        if b = true then te σ2 H3 fun y H4 => ∃ acc, H4 D = some (.lst acc) ∧ acc.length < sizeLine ∧ Nx (upd H4 D (.lst (acc ++ [y]))) else Nx H3) :=
  ⟨p, rfl, ⟨xs, h⟩, fun D hD => lc_tup (xs := xs) (fun i H' => ∃ acc, H' D = some (.lst acc) ∧ I D i acc H') ⟨[], upd_same, h0 D hD⟩ (fun i H' _ ⟨acc, e, q⟩ => hl D i acc H' hD e q)
    (fun i x H' hi ⟨acc, e, q⟩ => hs D i x acc H' hD hi e q) fun H' ⟨acc, e, q⟩ => hd D acc H' hD e q⟩
theorem u_lc1 {tt : TT} {te : TE} {vs : List Nat} {Qd : Addr → Hp → Prop} {n : Int} (hb : -(2 ^ 62) ≤ n ∧ n < 2 ^ 62) (I : Addr → Nat → List V → Hp → Prop) (h0 : ∀ D, H D = none → I D 0 [] (upd H D (.lst [])))
    (hs : ∀ D (i : Nat) acc H', H D = none → (i : Int) < n → H' D = some (.lst acc) → I D i acc H' → g (.int (i : Int)) (wipe σ vs) H' fun σ2 H2 => wipe σ2 vs = wipe σ vs ∧ tt σ2 H2 fun b H3 => if b = true then te σ2 H3 fun y H4 => LcPush D I i H4 y else LcSkip D I i H3)
    (hd : ∀ D acc H', H D = none → H' D = some (.lst acc) → I D n.toNat acc H' → Qd D H') :
    -(2 ^ 62) ≤ n ∧ n < 2 ^ 62 ∧ ∀ D, H D = none → ∃ W : Nat → Nat → Hp → Prop, (∃ m, W 0 m (upd H D (.lst []))) ∧ ∀ i m H, W i m H →
      ((Itr 0 n.toNat).stop i H ∧ Qd D H) ∨ ((Itr 0 n.toNat).go i H ∧ ∃ Nx : Hp → Prop, (∀ H', Nx H' → ∃ m', m' < m ∧ W (i + 1) m' H') ∧ ∀ x H', (Itr 0 n.toNat).yld i H x H' → g x (wipe σ vs) H' fun σ2 H2 => wipe σ2 vs = wipe σ vs ∧ tt σ2 H2 fun b H3 =>
        if b = true then te σ2 H3 fun y H4 => ∃ acc, H4 D = some (.lst acc) ∧ acc.length < sizeLine ∧ Nx (upd H4 D (.lst (acc ++ [y]))) else Nx H3) :=
  ⟨hb.1, hb.2, fun D hD => lc_range (fun i H' => ∃ acc, H' D = some (.lst acc) ∧ I D i acc H') ⟨[], upd_same, h0 D hD⟩
    (fun i H' hi ⟨acc, e, q⟩ => by rw [Int.zero_add]; exact hs D i acc H' hD (by omega) e q) fun H' ⟨acc, e, q⟩ => hd D acc H' hD e q⟩
theorem u_lc2 {tt : TT} {te : TE} {vs : List Nat} {Qd : Addr → Hp → Prop} {lo n : Int} (hb : -(2 ^ 62) ≤ lo ∧ lo < 2 ^ 62 ∧ -(2 ^ 62) ≤ n ∧ n < 2 ^ 62) (I : Addr → Nat → List V → Hp → Prop) (h0 : ∀ D, H D = none → I D 0 [] (upd H D (.lst [])))
    (hs : ∀ D (i : Nat) acc H', H D = none → lo + (i : Int) < n → H' D = some (.lst acc) → I D i acc H' → g (.int (lo + (i : Int))) (wipe σ vs) H' fun σ2 H2 => wipe σ2 vs = wipe σ vs ∧ tt σ2 H2 fun b H3 => if b = true then te σ2 H3 fun y H4 => LcPush D I i H4 y else LcSkip D I i H3)
    (hd : ∀ D acc H', H D = none → H' D = some (.lst acc) → I D (n - lo).toNat acc H' → Qd D H') :
    (-(2 ^ 62) ≤ lo ∧ lo < 2 ^ 62 ∧ -(2 ^ 62) ≤ n ∧ n < 2 ^ 62) ∧ ∀ D, H D = none → ∃ W : Nat → Nat → Hp → Prop, (∃ m, W 0 m (upd H D (.lst []))) ∧ ∀ k m H, W k m H →
      ((Itr lo (n - lo).toNat).stop k H ∧ Qd D H) ∨ ((Itr lo (n - lo).toNat).go k H ∧ ∃ Nx : Hp → Prop, (∀ H', Nx H' → ∃ m', m' < m ∧ W (k + 1) m' H') ∧ ∀ x H', (Itr lo (n - lo).toNat).yld k H x H' → g x (wipe σ vs) H' fun σ2 H2 => wipe σ2 vs = wipe σ vs ∧ tt σ2 H2 fun b H3 =>
        if b = true then te σ2 H3 fun y H4 => ∃ acc, H4 D = some (.lst acc) ∧ acc.length < sizeLine ∧ Nx (upd H4 D (.lst (acc ++ [y]))) else Nx H3) :=
  ⟨hb, fun D hD => lc_range (fun i H' => ∃ acc, H' D = some (.lst acc) ∧ I D i acc H') ⟨[], upd_same, h0 D hD⟩
    (fun i H' hi ⟨acc, e, q⟩ => hs D i acc H' hD (by omega) e q) fun H' ⟨acc, e, q⟩ => hd D acc H' hD e q⟩
end
/-! ### heaps -/
/-- the heap at a, in words: looked up through stores -/
theorem h_keep {H : Hp} {a p : Addr} {o u : HO} (h : H a = some u) (n : H p = none) : upd H p o a = some u := (upd_ne (ne_of_none h n)).trans h
theorem h_else {H : Hp} {a p : Addr} {o u w : HO} (h : H a = some u) (h' : H p = some w) (d : u ≠ w) : upd H p o a = some u := (upd_ne (ne_of h h' d)).trans h
/-- all that was tracked but what stands at a -/
def But (a : Addr) (H H' : Hp) : Prop := ∀ b o, b ≠ a → H b = some o → H' b = some o
theorem But.refl (a : Addr) (H : Hp) : But a H H := fun _ _ _ h => h
theorem But.trans {a : Addr} {H H1 H2 : Hp} (h : But a H H1) (k : But a H1 H2) : But a H H2 := fun b o n e => k b o n (h b o n e)
theorem But.new {a p : Addr} {H H' : Hp} {o : HO} (h : But a H H') (n : H' p = none) : But a H (upd H' p o) := fun b u nb e => h_keep (h b u nb e) n
theorem But.self {a : Addr} {H H' : Hp} {o : HO} (h : But a H H') : But a H (upd H' a o) := fun b u nb e => (upd_ne nb).trans (h b u nb e)
theorem But.put {a p : Addr} {H H' : Hp} {o : HO} (h : But a H H') (n : H p = none) : But a H (upd H' p o) := fun b u nb e => (upd_ne (ne_of_none e n)).trans (h b u nb e)
theorem fmod_nat (a b : Nat) : (a : Int).fmod (b : Int) = ((a % b : Nat) : Int) := by
  rw [Int.fmod_eq_emod_of_nonneg _ (Int.natCast_nonneg _), Int.natCast_emod]
theorem fdiv_nat (a b : Nat) : (a : Int) / (b : Int) = ((a / b : Nat) : Int) := (Int.natCast_ediv a b).symm
def vints (l : List Nat) : List V := l.map fun (k : Nat) => V.int (k : Int)
theorem vints_app (l m : List Nat) : vints (l ++ m) = vints l ++ vints m := List.map_append
theorem vints_len (l : List Nat) : (vints l).length = l.length := List.length_map _
theorem atI_vints {l : List Nat} {n : Int} (h0 : 0 ≤ n) (h1 : n < l.length) : ∃ k, k ∈ l ∧ atI (vints l) n = some (.int (k : Int)) := by
  have h2 : n.toNat < l.length := by omega
  refine ⟨l[n.toNat], List.getElem_mem h2, ?_⟩
  unfold atI ixN
  rw [if_pos h0, vints_len, if_pos h1]
  show (vints l)[n.toNat]? = _
  unfold vints
  rw [List.getElem?_map, List.getElem?_eq_getElem h2]
  rfl
theorem vints_get {l : List Nat} {i : Nat} {x : V} (h : (vints l)[i]? = some x) : ∃ k, l[i]? = some k ∧ x = .int (k : Int) := by
  unfold vints at h
  rw [List.getElem?_map] at h
  cases e : l[i]? with
  | none => rw [e] at h; cases h
  | some k => rw [e] at h; exact ⟨k, rfl, (Option.some.inj h).symm⟩
theorem Same.at {H H' : Hp} {a : Addr} {o : HO} (s : Same H H') (h : H a = some o) : H' a = some o := s a o h
theorem But.at {H H' : Hp} {a b : Addr} {o : HO} (s : But b H H') (n : a ≠ b) (h : H a = some o) : H' a = some o := s a o n h
theorem log_small {n : Int} (h : n.natAbs < 2 ^ 8000) : n.natAbs.log2 < 9000 := by
  by_cases h0 : n.natAbs = 0
  · rw [h0]; decide
  · exact Nat.lt_of_lt_of_le ((Nat.log2_lt h0).mpr h) (by decide)
theorem Same.new0 {p : Addr} {H : Hp} {o : HO} (n : H p = none) : Same H (upd H p o) := fun b u e => h_keep e n
theorem Same.new {p : Addr} {H H' : Hp} {o : HO} (h : Same H H') (n : H' p = none) : Same H (upd H' p o) := fun b u e => h_keep (h b u e) n
theorem Same.put {p : Addr} {H H' : Hp} {o : HO} (h : Same H H') (n : H p = none) : Same H (upd H' p o) := fun b u e => (upd_ne (ne_of_none e n)).trans (h b u e)
theorem Same.but {H H' : Hp} (h : Same H H') (a : Addr) : But a H H' := fun b u _ e => h b u e
theorem But.free {a p : Addr} {H H' : Hp} (h : But a H H') (n : p ≠ a) (e : H' p = none) : H p = none := by
  cases q : H p with
  | none => rfl
  | some o => rw [h p o n q] at e; cases e
/-- what is new may change -/
theorem Same.but2 {a : Addr} {H H1 H2 : Hp} (s : Same H H1) (n : H a = none) (b : But a H1 H2) : Same H H2 := fun c o e => b c o (ne_of_none e n) (s c o e)
/-- the law's bag: three ints, the second one small -/
def Bag (H : Hp) (a : Addr) : Prop := ∃ x y z : Int, H a = some (.lst [.int x, .int y, .int z]) ∧ 0 ≤ y ∧ y ≤ 2147483647 ∧ 0 ≤ z
theorem Bag.keep {H : Hp} {a p : Addr} {o : HO} (h : Bag H a) (n : H p = none) : Bag (upd H p o) a := by
  obtain ⟨x, y, z, e, r⟩ := h
  exact ⟨x, y, z, h_keep e n, r⟩
theorem Bag.ne {H : Hp} {a p : Addr} (h : Bag H a) (n : H p = none) : p ≠ a := by
  obtain ⟨x, y, z, e, r⟩ := h
  exact (ne_of_none e n).symm
theorem Bag.same {H H' : Hp} {a : Addr} (h : Bag H a) (s : Same H H') : Bag H' a := by
  obtain ⟨x, y, z, e, r⟩ := h
  exact ⟨x, y, z, s _ _ e, r⟩
def spBagOf : Sp := fun vs H Q _ => ∃ c : Int, vs = [.int c] ∧ ∀ p H', H p = none → Same H H' → Bag H' p → Q (.ref p) H'
def spPick : Sp := fun vs H Q _ => ∃ (a : Addr) (n : Int), vs = [.ref a, .int n] ∧ Bag H a ∧ 0 < n ∧ n ≤ 1000000 ∧ ∀ (r : Int) H', 0 ≤ r → r < n → But a H H' → Bag H' a → Q (.int r) H'
theorem u_pick {H : Hp} {Q : VK} {E : XK} {a : Addr} {n : Int} (h : Bag H a) (n0 : 0 < n) (n1 : n ≤ 1000000) (q : ∀ (r : Int) H', 0 ≤ r → r < n → But a H H' → Bag H' a → Q (.int r) H') : spPick [.ref a, .int n] H Q E := ⟨a, n, rfl, h, n0, n1, q⟩
/-- the law's promise: a list of at most 63 ints goes in, True comes out -/
def spLaw (K : PySem.W.Frag) : Sp := fun vs H Q _ => ∃ (a : Addr) (ns : List Int), vs = [.ref a] ∧ SqL K H a (ns.map V.int) ∧ ns.length ≤ 63 ∧ ∀ H', Q (.bl true) H'
/-- the cells of a law's outer loop are ints -/
theorem cells_int {g : Int} {ns : List Int} {lo hi : Option Int} {i : Nat} {x : V} (h : ([V.int g] ++ cutV (ns.map V.int) lo hi)[i]? = some x) : ∃ c, x = .int c := by
  rcases List.mem_append.mp (List.mem_of_getElem? h) with h | h
  · exact ⟨g, List.mem_singleton.mp h⟩
  · obtain ⟨c, _, e⟩ := List.mem_map.mp (cut_mem h)
    exact ⟨c, e.symm⟩
/-! ### the rules that name the written part, with its name given (a comprehension's block has another context) -/
section
variable {X : Cx} {K : PySem.W.Frag}
theorem ix_listK (h : X.K = K := by rfl) : IxR X (rIxL K) := by subst h; exact ix_list
theorem ix_tupK (h : X.K = K := by rfl) : IxR X (rIxT K) := by subst h; exact ix_tup
theorem call_lenK (h : X.K = K := by rfl) : CallR X (.builtin "len") (rLen K) := by subst h; exact call_lenQ
theorem call_isiKK (h : X.K = K := by rfl) : CallR X (.builtin "isinstance") (rIsi K) := by subst h; exact call_isi
theorem call_sumK (hc : X.calm = true := by rfl) (h : X.K = K := by rfl) : CallR X (.builtin "sum") (rSum K) := by subst h; exact cr_sum hc
theorem call_allK (hc : X.calm = true := by rfl) (h : X.K = K := by rfl) : CallR X (.builtin "all") (rAll K) := by subst h; exact cr_all hc
theorem call_anyK (hc : X.calm = true := by rfl) (h : X.K = K := by rfl) : CallR X (.builtin "any") (rAny K) := by subst h; exact cr_any hc
end
end My

set_option Elab.async false
set_option linter.all false
set_option maxRecDepth 400000
namespace My
open PySem PySem.Spec PyProof.Rows L2
/-! ### programs as data -/
inductive Prog where
  | nil
  | step (w n : Str) (r : Prog)
  | turn (k : Int) (r : Prog)
  | rep (k : Int) (b r : Prog)
  | mir (b r : Prog)
namespace Prog
def app : Prog → Prog → Prog
  | .nil, q => q
  | .step w n r, q => .step w n (r.app q)
  | .turn k r, q => .turn k (r.app q)
  | .rep k b r, q => .rep k b (r.app q)
  | .mir b r, q => .mir b (r.app q)
def len : Prog → Nat
  | .nil => 0
  | .step _ _ r => r.len + 1
  | .turn _ r => r.len + 1
  | .rep _ _ r => r.len + 1
  | .mir _ r => r.len + 1
def size : Prog → Int
  | .nil => 0
  | .step _ _ r => 1 + r.size
  | .turn _ r => 1 + r.size
  | .rep k b r => k * b.size + r.size
  | .mir b r => b.size + r.size
def head : Prog → Int
  | .nil => 0
  | .step _ _ r => r.head
  | .turn k r => k + r.head
  | .rep k b r => k * b.head + r.head
  | .mir b r => -b.head + r.head
def times : Nat → Prog → Prog
  | 0, _ => .nil
  | n + 1, p => p.app (times n p)
def unroll : Int → Prog → Prog
  | _, .nil => .nil
  | s, .step w n r => .step w n (unroll s r)
  | s, .turn k r => .turn (s * k) (unroll s r)
  | s, .rep k b r => (times k.toNat (unroll s b)).app (unroll s r)
  | s, .mir b r => (unroll (-s) b).app (unroll s r)
/-- the turns' numbers of a flat program -/
def turns : Prog → List Int
  | .nil => []
  | .step _ _ r => r.turns
  | .turn k r => k :: r.turns
  | .rep _ _ r => r.turns
  | .mir _ r => r.turns
def take : Nat → Prog → Prog
  | 0, _ => .nil
  | _ + 1, .nil => .nil
  | n + 1, .step w m r => .step w m (r.take n)
  | n + 1, .turn k r => .turn k (r.take n)
  | n + 1, .rep k b r => .rep k b (r.take n)
  | n + 1, .mir b r => .mir b (r.take n)
end Prog
def IsWord (w : Str) : Prop := w = "go" ∨ w = "back" ∨ w = "hop" ∨ w = "slip"
/-- one letter from a to z -/
def IsName (n : Str) : Prop := ∃ c : Nat, n = ⟨#[c]⟩ ∧ 97 ≤ c ∧ c ≤ 122
/-- a program nested at most d deep; counts from 1 to C, turns to T of either sign, at most 4000 commands in each repeat or mirror -/
def WfL (L : Nat) (C T : Int) : Nat → Prog → Prop
  | _, .nil => True
  | d, .step w n r => IsWord w ∧ IsName n ∧ WfL L C T d r
  | d, .turn k r => (-T ≤ k ∧ k ≤ T) ∧ WfL L C T d r
  | 0, .rep _ _ _ => False
  | d + 1, .rep k b r => (1 ≤ k ∧ k ≤ C) ∧ (1 ≤ b.len ∧ b.len ≤ L) ∧ WfL L C T d b ∧ WfL L C T (d + 1) r
  | 0, .mir _ _ => False
  | d + 1, .mir b r => (1 ≤ b.len ∧ b.len ≤ L) ∧ WfL L C T d b ∧ WfL L C T (d + 1) r
theorem WfL.app {L : Nat} {C T : Int} : ∀ {d : Nat} {p q : Prog}, WfL L C T d p → WfL L C T d q → WfL L C T d (p.app q)
  | _, .nil, _, _, h => h
  | d, .step w n r, q, h, h' => by
    cases d <;> exact ⟨h.1, h.2.1, WfL.app h.2.2 h'⟩
  | d, .turn k r, q, h, h' => by
    cases d <;> exact ⟨h.1, WfL.app h.2 h'⟩
  | 0, .rep _ _ _, _, h, _ => h.elim
  | d + 1, .rep k b r, q, h, h' => ⟨h.1, h.2.1, h.2.2.1, WfL.app h.2.2.2 h'⟩
  | 0, .mir _ _, _, h, _ => h.elim
  | d + 1, .mir b r, q, h, h' => ⟨h.1, h.2.1, WfL.app h.2.2 h'⟩
theorem WfL.step_iff {L : Nat} {C T : Int} {d : Nat} {w n : Str} {r : Prog} : WfL L C T d (.step w n r) ↔ IsWord w ∧ IsName n ∧ WfL L C T d r := by cases d <;> exact Iff.rfl
theorem WfL.turn_iff {L : Nat} {C T : Int} {d : Nat} {k : Int} {r : Prog} : WfL L C T d (.turn k r) ↔ (-T ≤ k ∧ k ≤ T) ∧ WfL L C T d r := by cases d <;> exact Iff.rfl
theorem WfL.nil {L : Nat} {C T : Int} {d : Nat} : WfL L C T d .nil := by cases d <;> trivial
theorem WfL.mono {L : Nat} {C T C' T' : Int} (hC : C ≤ C') (hT : T ≤ T') : ∀ {d d' : Nat} {p : Prog}, d ≤ d' → WfL L C T d p → WfL L C' T' d' p
  | d, d', .nil, _, _ => WfL.nil
  | d, d', .step w n r, hd, h => WfL.step_iff.mpr ⟨(WfL.step_iff.mp h).1, (WfL.step_iff.mp h).2.1, WfL.mono hC hT hd (WfL.step_iff.mp h).2.2⟩
  | d, d', .turn k r, hd, h => by
    have h := WfL.turn_iff.mp h
    exact WfL.turn_iff.mpr ⟨⟨by omega, by omega⟩, WfL.mono hC hT hd h.2⟩
  | 0, _, .rep _ _ _, _, h => h.elim
  | d + 1, 0, .rep _ _ _, hd, _ => absurd hd (by omega)
  | d + 1, d' + 1, .rep k b r, hd, h => ⟨⟨h.1.1, by have := h.1.2; omega⟩, h.2.1, WfL.mono hC hT (by omega) h.2.2.1, WfL.mono hC hT hd h.2.2.2⟩
  | 0, _, .mir _ _, _, h => h.elim
  | d + 1, 0, .mir _ _, hd, _ => absurd hd (by omega)
  | d + 1, d' + 1, .mir b r, hd, h => ⟨h.1, WfL.mono hC hT (by omega) h.2.1, WfL.mono hC hT hd h.2.2⟩
abbrev Wf := WfL 4000
theorem WfL.wide {L L' : Nat} {C T : Int} (hL : L ≤ L') : ∀ {d : Nat} {p : Prog}, WfL L C T d p → WfL L' C T d p
  | d, .nil, _ => WfL.nil
  | d, .step w n r, h => WfL.step_iff.mpr ⟨(WfL.step_iff.mp h).1, (WfL.step_iff.mp h).2.1, WfL.wide hL (WfL.step_iff.mp h).2.2⟩
  | d, .turn k r, h => WfL.turn_iff.mpr ⟨(WfL.turn_iff.mp h).1, WfL.wide hL (WfL.turn_iff.mp h).2⟩
  | 0, .rep _ _ _, h => h.elim
  | d + 1, .rep k b r, h => ⟨h.1, ⟨h.2.1.1, Nat.le_trans h.2.1.2 hL⟩, WfL.wide hL h.2.2.1, WfL.wide hL h.2.2.2⟩
  | 0, .mir _ _, h => h.elim
  | d + 1, .mir b r, h => ⟨⟨h.1.1, Nat.le_trans h.1.2 hL⟩, WfL.wide hL h.2.1, WfL.wide hL h.2.2⟩
namespace Prog
theorem app_nil : ∀ p : Prog, p.app .nil = p
  | .nil => rfl
  | .step w n r => by rw [app, app_nil r]
  | .turn k r => by rw [app, app_nil r]
  | .rep k b r => by rw [app, app_nil r]
  | .mir b r => by rw [app, app_nil r]
theorem app_assoc : ∀ p q r : Prog, (p.app q).app r = p.app (q.app r)
  | .nil, _, _ => rfl
  | .step w n p, q, r => by rw [app, app, app, app_assoc p q r]
  | .turn k p, q, r => by rw [app, app, app, app_assoc p q r]
  | .rep k b p, q, r => by rw [app, app, app, app_assoc p q r]
  | .mir b p, q, r => by rw [app, app, app, app_assoc p q r]
theorem len_app : ∀ p q : Prog, (p.app q).len = p.len + q.len
  | .nil, q => by rw [app, len, Nat.zero_add]
  | .step w n p, q => by rw [app, len, len, len_app p q]; omega
  | .turn k p, q => by rw [app, len, len, len_app p q]; omega
  | .rep k b p, q => by rw [app, len, len, len_app p q]; omega
  | .mir b p, q => by rw [app, len, len, len_app p q]; omega
theorem size_app : ∀ p q : Prog, (p.app q).size = p.size + q.size
  | .nil, q => by rw [app, size]; omega
  | .step w n p, q => by rw [app, size, size, size_app p q]; omega
  | .turn k p, q => by rw [app, size, size, size_app p q]; omega
  | .rep k b p, q => by rw [app, size, size, size_app p q]; omega
  | .mir b p, q => by rw [app, size, size, size_app p q]; omega
theorem head_app : ∀ p q : Prog, (p.app q).head = p.head + q.head
  | .nil, q => by rw [app, head]; omega
  | .step w n p, q => by rw [app, head, head, head_app p q]
  | .turn k p, q => by rw [app, head, head, head_app p q]; omega
  | .rep k b p, q => by rw [app, head, head, head_app p q]; omega
  | .mir b p, q => by rw [app, head, head, head_app p q]; omega
theorem turns_app : ∀ p q : Prog, (p.app q).turns = p.turns ++ q.turns
  | .nil, q => by rw [app, turns, List.nil_append]
  | .step w n p, q => by rw [app, turns, turns, turns_app p q]
  | .turn k p, q => by rw [app, turns, turns, turns_app p q, List.cons_append]
  | .rep k b p, q => by rw [app, turns, turns, turns_app p q]
  | .mir b p, q => by rw [app, turns, turns, turns_app p q]
theorem size_nonneg {L : Nat} {C T : Int} : ∀ {d : Nat} {p : Prog}, WfL L C T d p → 0 ≤ p.size
  | _, .nil, _ => by rw [size]; omega
  | d, .step w n r, h => by have := size_nonneg (WfL.step_iff.mp h).2.2; rw [size]; omega
  | d, .turn k r, h => by have := size_nonneg (WfL.turn_iff.mp h).2; rw [size]; omega
  | 0, .rep _ _ _, h => h.elim
  | d + 1, .rep k b r, h => by
    have h1 := size_nonneg h.2.2.1
    have h2 := size_nonneg h.2.2.2
    have h3 : 0 ≤ k * b.size := Int.mul_nonneg (by have := h.1.1; omega) h1
    rw [size]; omega
  | 0, .mir _ _, h => h.elim
  | d + 1, .mir b r, h => by
    have h1 := size_nonneg h.2.1
    have h2 := size_nonneg h.2.2
    rw [size]; omega
theorem len_times (n : Nat) (p : Prog) : (times n p).len = n * p.len := by
  induction n with
  | zero => rw [times, len, Nat.zero_mul]
  | succ n ih => rw [times, len_app, ih, Nat.succ_mul]; omega
theorem times_succ : ∀ (n : Nat) (p : Prog), times (n + 1) p = (times n p).app p
  | 0, p => by show p.app .nil = _; rw [app_nil]; rfl
  | n + 1, p => by
    have ih := times_succ n p
    show p.app (times (n + 1) p) = (p.app (times n p)).app p
    rw [ih, app_assoc]
theorem turns_times (n : Nat) (p : Prog) : (times n p).turns.sum = n * p.turns.sum := by
  induction n with
  | zero => rw [times, turns]; simp
  | succ n ih => rw [times, turns_app, List.sum_append, ih, Int.natCast_succ, Int.add_mul]; omega
/-- unrolled it has as many commands as its size -/
theorem len_unroll {L : Nat} {C T : Int} : ∀ {d : Nat} {p : Prog} (s : Int), WfL L C T d p → ((unroll s p).len : Int) = p.size
  | _, .nil, s, _ => by rw [unroll, len, size]; rfl
  | d, .step w n r, s, h => by have := len_unroll s (WfL.step_iff.mp h).2.2; rw [unroll, len, size]; omega
  | d, .turn k r, s, h => by have := len_unroll s (WfL.turn_iff.mp h).2; rw [unroll, len, size]; omega
  | 0, .rep _ _ _, s, h => h.elim
  | d + 1, .rep k b r, s, h => by
    have h1 := len_unroll s h.2.2.1
    have h2 := len_unroll s h.2.2.2
    have hk := h.1.1
    rw [unroll, len_app, len_times, size, ← h1, ← h2, Int.natCast_add, Int.natCast_mul, Int.toNat_of_nonneg (by omega)]
  | 0, .mir _ _, s, h => h.elim
  | d + 1, .mir b r, s, h => by
    have h1 := len_unroll (-s) h.2.1
    have h2 := len_unroll s h.2.2
    rw [unroll, len_app, size]; omega
/-- the sum of its turns -/
theorem turns_unroll {L : Nat} {C T : Int} : ∀ {d : Nat} {p : Prog} (s : Int), WfL L C T d p → (unroll s p).turns.sum = s * p.head
  | _, .nil, s, _ => by rw [unroll, turns, head]; simp
  | d, .step w n r, s, h => by have := turns_unroll s (WfL.step_iff.mp h).2.2; rw [unroll, turns, head]; omega
  | d, .turn k r, s, h => by have := turns_unroll s (WfL.turn_iff.mp h).2; rw [unroll, turns, head, List.sum_cons, this, Int.mul_add]
  | 0, .rep _ _ _, s, h => h.elim
  | d + 1, .rep k b r, s, h => by
    have h1 := turns_unroll s h.2.2.1
    have h2 := turns_unroll s h.2.2.2
    have hk := h.1.1
    rw [unroll, turns_app, List.sum_append, turns_times, h1, h2, head, Int.toNat_of_nonneg (by omega), Int.mul_add, Int.mul_left_comm]
  | 0, .mir _ _, s, h => h.elim
  | d + 1, .mir b r, s, h => by
    have h1 := turns_unroll (-s) h.2.1
    have h2 := turns_unroll s h.2.2
    rw [unroll, turns_app, List.sum_append, h1, h2, head, Int.mul_add, Int.neg_mul, Int.mul_neg]
/-- a flat program: steps and turns alone -/
theorem wf_times {L : Nat} {C T : Int} {d : Nat} {p : Prog} (h : WfL L C T d p) : ∀ n, WfL L C T d (times n p)
  | 0 => WfL.nil
  | n + 1 => WfL.app h (wf_times h n)
theorem wf_unroll {L : Nat} {C T : Int} : ∀ {d : Nat} {p : Prog} {s : Int}, (s = 1 ∨ s = -1) → WfL L C T d p → WfL L C T 0 (unroll s p)
  | _, .nil, s, _, _ => WfL.nil
  | d, .step w n r, s, hs, h => by
    have h := WfL.step_iff.mp h
    exact WfL.step_iff.mpr ⟨h.1, h.2.1, wf_unroll hs h.2.2⟩
  | d, .turn k r, s, hs, h => by
    have h := WfL.turn_iff.mp h
    refine WfL.turn_iff.mpr ⟨?_, wf_unroll hs h.2⟩
    rcases hs with rfl | rfl <;> omega
  | 0, .rep _ _ _, s, _, h => h.elim
  | d + 1, .rep k b r, s, hs, h => WfL.app (wf_times (wf_unroll hs h.2.2.1) _) (wf_unroll hs h.2.2.2)
  | 0, .mir _ _, s, _, h => h.elim
  | d + 1, .mir b r, s, hs, h => WfL.app (wf_unroll (by omega) h.2.1) (wf_unroll hs h.2.2)
theorem wf_take {L : Nat} {C T : Int} : ∀ {n d : Nat} {p : Prog}, WfL L C T d p → WfL L C T d (p.take n)
  | 0, _, p, _ => WfL.nil
  | n + 1, _, .nil, _ => WfL.nil
  | n + 1, d, .step w m r, h => by
    have h := WfL.step_iff.mp h
    exact WfL.step_iff.mpr ⟨h.1, h.2.1, wf_take h.2.2⟩
  | n + 1, d, .turn k r, h => by
    have h := WfL.turn_iff.mp h
    exact WfL.turn_iff.mpr ⟨h.1, wf_take h.2⟩
  | n + 1, 0, .rep _ _ _, h => h.elim
  | n + 1, d + 1, .rep k b r, h => ⟨h.1, h.2.1, h.2.2.1, wf_take h.2.2.2⟩
  | n + 1, 0, .mir _ _, h => h.elim
  | n + 1, d + 1, .mir b r, h => ⟨h.1, h.2.1, wf_take h.2.2⟩
theorem len_take : ∀ (n : Nat) (p : Prog), (p.take n).len = min n p.len
  | 0, p => by rw [take, len]; omega
  | n + 1, .nil => by rw [take, len]; omega
  | n + 1, .step w m r => by rw [take, len, len, len_take n r]; omega
  | n + 1, .turn k r => by rw [take, len, len, len_take n r]; omega
  | n + 1, .rep k b r => by rw [take, len, len, len_take n r]; omega
  | n + 1, .mir b r => by rw [take, len, len, len_take n r]; omega
theorem len_le_size {L : Nat} {C T : Int} : ∀ {d : Nat} {p : Prog}, WfL L C T d p → (p.len : Int) ≤ p.size
  | _, .nil, _ => by rw [size, len]; omega
  | d, .step w n r, h => by have := len_le_size (WfL.step_iff.mp h).2.2; rw [size, len]; omega
  | d, .turn k r, h => by have := len_le_size (WfL.turn_iff.mp h).2; rw [size, len]; omega
  | 0, .rep _ _ _, h => h.elim
  | d + 1, .rep k b r, h => by
    have h1 := len_le_size h.2.2.1
    have h2 := len_le_size h.2.2.2
    have h3 : 1 * 1 ≤ k * b.size := Int.mul_le_mul h.1.1 (by have := h.2.1.1; omega) (by omega) (by have := h.1.1; omega)
    rw [size, len]; omega
  | 0, .mir _ _, h => h.elim
  | d + 1, .mir b r, h => by
    have h1 := len_le_size h.2.1
    have h2 := len_le_size h.2.2
    have := h.1.1
    rw [size, len]; omega
theorem size_flat {L : Nat} {C T : Int} : ∀ {p : Prog}, WfL L C T 0 p → p.size = p.len
  | .nil, _ => by rw [size, len]; rfl
  | .step w n r, h => by have := size_flat (WfL.step_iff.mp h).2.2; rw [size, len]; omega
  | .turn k r, h => by have := size_flat (WfL.turn_iff.mp h).2; rw [size, len]; omega
  | .rep _ _ _, h => h.elim
  | .mir _ _, h => h.elim
/-- how great a size can be -/
theorem size_le {C T : Int} (hC : 1 ≤ C) : ∀ {d : Nat} {p : Prog}, WfL 4000 C T d p → p.size ≤ p.len * (4000 * C) ^ d
  | _, .nil, _ => by rw [size, len]; simp
  | d, .step w n r, h => by
    have h1 := size_le hC (WfL.step_iff.mp h).2.2
    have h2 : (0 : Int) < (4000 * C) ^ d := Int.pow_pos (by omega)
    rw [size, len, Int.natCast_succ, Int.add_mul, Int.one_mul]; omega
  | d, .turn k r, h => by
    have h1 := size_le hC (WfL.turn_iff.mp h).2
    have h2 : (0 : Int) < (4000 * C) ^ d := Int.pow_pos (by omega)
    rw [size, len, Int.natCast_succ, Int.add_mul, Int.one_mul]; omega
  | 0, .rep _ _ _, h => h.elim
  | d + 1, .rep k b r, h => by
    have h1 := size_le hC h.2.2.1
    have h2 := size_le hC h.2.2.2
    have h0 := size_nonneg h.2.2.1
    have hp : (0 : Int) ≤ (4000 * C) ^ d := Int.le_of_lt (Int.pow_pos (by omega))
    have h3 : b.size ≤ 4000 * (4000 * C) ^ d := Int.le_trans h1 (Int.mul_le_mul_of_nonneg_right (by have := h.2.1.2; omega) hp)
    have h4 : k * b.size ≤ C * (4000 * (4000 * C) ^ d) := Int.mul_le_mul h.1.2 h3 h0 (by omega)
    have h5 : C * (4000 * (4000 * C) ^ d) = (4000 * C) ^ (d + 1) := by rw [Int.pow_succ, Int.mul_comm ((4000 * C) ^ d), ← Int.mul_assoc, Int.mul_comm C]
    rw [size, len, Int.natCast_succ, Int.add_mul, Int.one_mul]; omega
  | 0, .mir _ _, h => h.elim
  | d + 1, .mir b r, h => by
    have h1 := size_le hC h.2.1
    have h2 := size_le hC h.2.2
    have hp : (0 : Int) ≤ (4000 * C) ^ d := Int.le_of_lt (Int.pow_pos (by omega))
    have h3 : b.size ≤ 4000 * (4000 * C) ^ d := Int.le_trans h1 (Int.mul_le_mul_of_nonneg_right (by have := h.1.2; omega) hp)
    have h4 : 1 * (4000 * (4000 * C) ^ d) ≤ C * (4000 * (4000 * C) ^ d) := Int.mul_le_mul_of_nonneg_right hC (Int.mul_nonneg (by omega) hp)
    have h5 : C * (4000 * (4000 * C) ^ d) = (4000 * C) ^ (d + 1) := by rw [Int.pow_succ, Int.mul_comm ((4000 * C) ^ d), ← Int.mul_assoc, Int.mul_comm C]
    rw [size, len, Int.natCast_succ, Int.add_mul, Int.one_mul]; omega
/-- how great a heading can be -/
theorem head_le {L : Nat} {C T : Int} (hC : 1 ≤ C) (hT : 0 ≤ T) : ∀ {d : Nat} {p : Prog}, WfL L C T d p → p.head.natAbs ≤ T * p.size
  | _, .nil, _ => by rw [size, head]; simp
  | d, .step w n r, h => by
    have h1 := head_le hC hT (WfL.step_iff.mp h).2.2
    rw [size, head, Int.mul_add, Int.mul_one]; omega
  | d, .turn k r, h => by
    have h0 := (WfL.turn_iff.mp h).1
    have h1 := head_le hC hT (WfL.turn_iff.mp h).2
    rw [size, head, Int.mul_add, Int.mul_one]; omega
  | 0, .rep _ _ _, h => h.elim
  | d + 1, .rep k b r, h => by
    have h1 := head_le hC hT h.2.2.1
    have h2 := head_le hC hT h.2.2.2
    have h3 : ((k * b.head).natAbs : Int) ≤ T * (k * b.size) := by
      rw [Int.natAbs_mul, Int.natCast_mul, Int.mul_left_comm, Int.natAbs_of_nonneg (show 0 ≤ k by have := h.1.1; omega)]
      exact Int.mul_le_mul_of_nonneg_left h1 (by have := h.1.1; omega)
    rw [size, head, Int.mul_add]; omega
  | 0, .mir _ _, h => h.elim
  | d + 1, .mir b r, h => by
    have h1 := head_le hC hT h.2.1
    have h2 := head_le hC hT h.2.2
    rw [size, head, Int.mul_add]; omega
end Prog
end My

set_option Elab.async false
set_option linter.all false
set_option maxRecDepth 100000
namespace My
open PySem PySem.Spec PyProof.Rows L2
/-! ### programs on the heap -/
/-- the tuples stay -/
def Tk (H H' : Hp) : Prop := ∀ c xs, H c = some (.tup xs) → H' c = some (.tup xs)
theorem Tk.refl (H : Hp) : Tk H H := fun _ _ h => h
theorem Tk.trans {H H1 H2 : Hp} (h : Tk H H1) (k : Tk H1 H2) : Tk H H2 := fun c xs e => k c xs (h c xs e)
theorem Tk.same {H H' : Hp} (h : Same H H') : Tk H H' := fun c xs e => h c _ e
theorem Tk.but {H H' : Hp} {a : Addr} (h : But a H H') (b : Bag H a) : Tk H H' := fun c xs e => by
  obtain ⟨x, y, z, ea, _⟩ := b
  exact h c _ (ne_of e ea (by intro z; cases z)) e
theorem Tk.new {H H' : Hp} {p : Addr} {o : HO} (h : Tk H H') (n : H' p = none) : Tk H (upd H' p o) := fun c xs e => h_keep (h c xs e) n
theorem Tk.lst {H H' : Hp} {p : Addr} {l : List V} {o : HO} (h : Tk H H') (n : H' p = some (.lst l)) : Tk H (upd H' p o) := fun c xs e => (upd_ne (ne_of (h c xs e) n (by intro z; cases z))).trans (h c xs e)
def PrAt (H : Hp) : Prog → List V → Prop
  | .nil, xs => xs = []
  | .step w n r, xs => ∃ c ys, xs = .ref c :: ys ∧ H c = some (.tup [.str w, .str n]) ∧ PrAt H r ys
  | .turn k r, xs => ∃ c ys, xs = .ref c :: ys ∧ H c = some (.tup [.str "turn", .int k]) ∧ PrAt H r ys
  | .rep k b r, xs => ∃ c q zs ys, xs = .ref c :: ys ∧ H c = some (.tup [.str "repeat", .int k, .ref q]) ∧ H q = some (.tup zs) ∧ PrAt H b zs ∧ PrAt H r ys
  | .mir b r, xs => ∃ c q zs ys, xs = .ref c :: ys ∧ H c = some (.tup [.str "mirror", .ref q]) ∧ H q = some (.tup zs) ∧ PrAt H b zs ∧ PrAt H r ys
def PrIs (H : Hp) (a : Addr) (p : Prog) : Prop := ∃ xs, H a = some (.tup xs) ∧ PrAt H p xs
theorem PrAt.tk {H H' : Hp} (t : Tk H H') : ∀ {p : Prog} {xs : List V}, PrAt H p xs → PrAt H' p xs
  | .nil, _, h => h
  | .step w n r, _, ⟨c, ys, e, h1, h2⟩ => ⟨c, ys, e, t _ _ h1, h2.tk t⟩
  | .turn k r, _, ⟨c, ys, e, h1, h2⟩ => ⟨c, ys, e, t _ _ h1, h2.tk t⟩
  | .rep k b r, _, ⟨c, q, zs, ys, e, h1, h2, h3, h4⟩ => ⟨c, q, zs, ys, e, t _ _ h1, t _ _ h2, h3.tk t, h4.tk t⟩
  | .mir b r, _, ⟨c, q, zs, ys, e, h1, h2, h3, h4⟩ => ⟨c, q, zs, ys, e, t _ _ h1, t _ _ h2, h3.tk t, h4.tk t⟩
theorem PrIs.tk {H H' : Hp} {a : Addr} {p : Prog} (h : PrIs H a p) (t : Tk H H') : PrIs H' a p := let ⟨xs, e, q⟩ := h; ⟨xs, t _ _ e, q.tk t⟩
theorem PrAt.length {H : Hp} : ∀ {p : Prog} {xs : List V}, PrAt H p xs → xs.length = p.len
  | .nil, _, h => by rw [show _ = [] from h]; rfl
  | .step w n r, _, ⟨c, ys, e, h1, h2⟩ => by rw [e, List.length_cons, h2.length]; rfl
  | .turn k r, _, ⟨c, ys, e, h1, h2⟩ => by rw [e, List.length_cons, h2.length]; rfl
  | .rep k b r, _, ⟨c, q, zs, ys, e, h1, h2, h3, h4⟩ => by rw [e, List.length_cons, h4.length]; rfl
  | .mir b r, _, ⟨c, q, zs, ys, e, h1, h2, h3, h4⟩ => by rw [e, List.length_cons, h4.length]; rfl
theorem PrAt.app {H : Hp} : ∀ {p q : Prog} {xs ys : List V}, PrAt H p xs → PrAt H q ys → PrAt H (p.app q) (xs ++ ys)
  | .nil, q, xs, ys, h, k => by rw [show xs = [] from h]; exact k
  | .step w n r, q, _, ys, ⟨c, zs, e, h1, h2⟩, k => ⟨c, zs ++ ys, by rw [e]; rfl, h1, h2.app k⟩
  | .turn k' r, q, _, ys, ⟨c, zs, e, h1, h2⟩, k => ⟨c, zs ++ ys, by rw [e]; rfl, h1, h2.app k⟩
  | .rep k' b r, q, _, ys, ⟨c, q', zs, ws, e, h1, h2, h3, h4⟩, k => ⟨c, q', zs, ws ++ ys, by rw [e]; rfl, h1, h2, h3, h4.app k⟩
  | .mir b r, q, _, ys, ⟨c, q', zs, ws, e, h1, h2, h3, h4⟩, k => ⟨c, q', zs, ws ++ ys, by rw [e]; rfl, h1, h2, h3, h4.app k⟩
theorem PrAt.take {H : Hp} : ∀ {n : Nat} {p : Prog} {xs : List V}, PrAt H p xs → PrAt H (p.take n) (xs.take n)
  | 0, p, xs, h => by rw [Prog.take, List.take_zero]; rfl
  | n + 1, .nil, xs, h => by rw [show xs = [] from h, Prog.take, List.take_nil]; rfl
  | n + 1, .step w m r, _, ⟨c, zs, e, h1, h2⟩ => ⟨c, zs.take n, by rw [e, List.take_succ_cons], h1, h2.take⟩
  | n + 1, .turn k r, _, ⟨c, zs, e, h1, h2⟩ => ⟨c, zs.take n, by rw [e, List.take_succ_cons], h1, h2.take⟩
  | n + 1, .rep k b r, _, ⟨c, q', zs, ws, e, h1, h2, h3, h4⟩ => ⟨c, q', zs, ws.take n, by rw [e, List.take_succ_cons], h1, h2, h3, h4.take⟩
  | n + 1, .mir b r, _, ⟨c, q', zs, ws, e, h1, h2, h3, h4⟩ => ⟨c, q', zs, ws.take n, by rw [e, List.take_succ_cons], h1, h2, h3, h4.take⟩
/-- x is the first command of r, r' the rest -/
def First (H : Hp) : Prog → V → Prog → Prop
  | .nil, _, _ => False
  | .step w n r, x, r' => ∃ c, x = .ref c ∧ H c = some (.tup [.str w, .str n]) ∧ r' = r
  | .turn k r, x, r' => ∃ c, x = .ref c ∧ H c = some (.tup [.str "turn", .int k]) ∧ r' = r
  | .rep k b r, x, r' => ∃ c q, x = .ref c ∧ H c = some (.tup [.str "repeat", .int k, .ref q]) ∧ PrIs H q b ∧ r' = r
  | .mir b r, x, r' => ∃ c q, x = .ref c ∧ H c = some (.tup [.str "mirror", .ref q]) ∧ PrIs H q b ∧ r' = r
theorem First.tk {H H' : Hp} {r r' : Prog} {x : V} (h : First H r x r') (t : Tk H H') : First H' r x r' := by
  cases r with
  | nil => exact h.elim
  | step w n r => obtain ⟨c, e, h1, e2⟩ := h; exact ⟨c, e, t _ _ h1, e2⟩
  | turn k r => obtain ⟨c, e, h1, e2⟩ := h; exact ⟨c, e, t _ _ h1, e2⟩
  | rep k b r => obtain ⟨c, q, e, h1, h2, e2⟩ := h; exact ⟨c, q, e, t _ _ h1, h2.tk t, e2⟩
  | mir b r => obtain ⟨c, q, e, h1, h2, e2⟩ := h; exact ⟨c, q, e, t _ _ h1, h2.tk t, e2⟩
theorem PrAt.first {H : Hp} {r : Prog} {x : V} {ys : List V} (h : PrAt H r (x :: ys)) : ∃ r', First H r x r' ∧ PrAt H r' ys := by
  cases r with
  | nil => cases (show (x :: ys) = [] from h)
  | step w n r => obtain ⟨c, zs, e, h1, h2⟩ := h; cases e; exact ⟨r, ⟨c, rfl, h1, rfl⟩, h2⟩
  | turn k r => obtain ⟨c, zs, e, h1, h2⟩ := h; cases e; exact ⟨r, ⟨c, rfl, h1, rfl⟩, h2⟩
  | rep k b r => obtain ⟨c, q, zs, ws, e, h1, h2, h3, h4⟩ := h; cases e; exact ⟨r, ⟨c, q, rfl, h1, ⟨zs, h2, h3⟩, rfl⟩, h4⟩
  | mir b r => obtain ⟨c, q, zs, ws, e, h1, h2, h3, h4⟩ := h; cases e; exact ⟨r, ⟨c, q, rfl, h1, ⟨zs, h2, h3⟩, rfl⟩, h4⟩
theorem PrAt.cons {H : Hp} {r r' : Prog} {x : V} {ys : List V} (h : First H r x r') (k : PrAt H r' ys) : PrAt H r (x :: ys) := by
  cases r with
  | nil => exact h.elim
  | step w n r => obtain ⟨c, rfl, h1, rfl⟩ := h; exact ⟨c, ys, rfl, h1, k⟩
  | turn n r => obtain ⟨c, rfl, h1, rfl⟩ := h; exact ⟨c, ys, rfl, h1, k⟩
  | rep n b r => obtain ⟨c, q, rfl, h1, ⟨zs, h2, h3⟩, rfl⟩ := h; exact ⟨c, q, zs, ys, rfl, h1, h2, h3, k⟩
  | mir b r => obtain ⟨c, q, rfl, h1, ⟨zs, h2, h3⟩, rfl⟩ := h; exact ⟨c, q, zs, ys, rfl, h1, h2, h3, k⟩
theorem drop_cons {α : Type} {xs : List α} {i : Nat} {x : α} (h : xs[i]? = some x) : xs.drop i = x :: xs.drop (i + 1) := by
  obtain ⟨hi, e⟩ := List.getElem?_eq_some_iff.mp h
  rw [← e]
  exact List.drop_eq_getElem_cons hi
section
variable {σ : L2.St} {H : Hp} {K : PySem.W.Frag} {D : Ends} {tb : TS} {g : TG} {a : Addr} {xs : List V} {p : Prog}
/-- for command in program -/
theorem u_forPr (h : H a = some (.tup xs)) (hp : PrAt H p xs) (I : Prog → L2.St → Hp → Prop) (h0 : I p σ H) (hk : ∀ r σ H', I r σ H' → Tk H H')
    (hs : ∀ x r r' σ H', First H' r x r' → I r σ H' → g x σ H' fun σ2 H2 => tb { D with nx := I r', ct := I r', bk := D.nx } σ2 H2) (hd : ∀ σ H', I .nil σ H' → D.nx σ H') :
    ∃ b, V.ref a = .ref b ∧ (∃ xs, SqT K H b xs) ∧ ∃ W : Nat → Nat → L2.St → Hp → Prop, (∃ m, W 0 m σ H) ∧ ∀ i m σ H, W i m σ H →
      ((Itt K b).stop i H ∧ D.nx σ H) ∨ ((Itt K b).go i H ∧ ∃ N : L2.St → Hp → Prop, (∀ σ' H', N σ' H' → ∃ m', m' < m ∧ W (i + 1) m' σ' H') ∧ ∀ x H', (Itt K b).yld i H x H' → g x σ H' fun σ2 H2 => tb { D with nx := N, ct := N, bk := D.nx } σ2 H2) := by
  refine ⟨a, rfl, ⟨xs, .of h⟩, ⟨fun i m σ' H' => m = xs.length - i ∧ i ≤ xs.length ∧ ∃ r, PrAt H r (xs.drop i) ∧ I r σ' H', ⟨xs.length, by simp, Nat.zero_le _, p, hp, h0⟩, ?_⟩⟩
  rintro i m σ' H' ⟨rfl, hi, r, hr, ir⟩
  have hT : SqT K H' a xs := .of (hk _ _ _ ir _ _ h)
  by_cases hlt : i < xs.length
  · have hx : xs[i]? = some xs[i] := List.getElem?_eq_getElem hlt
    rw [drop_cons hx] at hr
    obtain ⟨r', f, hr'⟩ := hr.first
    refine .inr ⟨⟨xs, xs[i], hT, hx⟩, I r', fun σ2 H2 q => ⟨_, by omega, rfl, hlt, r', hr', q⟩, fun x H2 hy => ?_⟩
    obtain ⟨rfl, fx⟩ := hy
    have ex : x = xs[i] := Option.some.inj ((fx xs hT).symm.trans hx)
    subst ex
    exact hs _ r r' _ _ (f.tk (hk _ _ _ ir)) ir
  · have e : i = xs.length := by omega
    subst e
    rw [List.drop_length] at hr
    have hn : r = .nil := by
      cases r with
      | nil => rfl
      | step w n r => obtain ⟨c, zs, e, _⟩ := hr; cases e
      | turn k r => obtain ⟨c, zs, e, _⟩ := hr; cases e
      | rep k b r => obtain ⟨c, q, zs, ws, e, _⟩ := hr; cases e
      | mir b r => obtain ⟨c, q, zs, ws, e, _⟩ := hr; cases e
    subst hn
    exact .inl ⟨⟨xs, hT, Nat.le_refl _⟩, hd _ _ ir⟩
/-- [.. for command in program] -/
theorem u_lcPr {tt : TT} {te : TE} {vs : List Nat} {Qd : Addr → Hp → Prop} (h : H a = some (.tup xs)) (hp : PrAt H p xs) (I : Addr → Prog → List V → Hp → Prop) (h0 : ∀ D, H D = none → I D p [] (upd H D (.lst [])))
    (hk : ∀ D r acc H', H D = none → I D r acc H' → Tk H H')
    (hs : ∀ D x r r' acc H', H D = none → First H' r x r' → H' D = some (.lst acc) → I D r acc H' → g x (wipe σ vs) H' fun σ2 H2 => wipe σ2 vs = wipe σ vs ∧ tt σ2 H2 fun b H3 => if b = true then te σ2 H3 fun y H4 => LcPush D (fun D _ acc H' => I D r' acc H') 0 H4 y else LcSkip D (fun D _ acc H' => I D r' acc H') 0 H3)
    (hd : ∀ D acc H', H D = none → H' D = some (.lst acc) → I D .nil acc H' → Qd D H') :
    ∃ b, V.ref a = .ref b ∧ (∃ xs, SqT K H b xs) ∧ ∀ D, H D = none → ∃ W : Nat → Nat → Hp → Prop, (∃ m, W 0 m (upd H D (.lst []))) ∧ ∀ i m H, W i m H →
      ((Itt K b).stop i H ∧ Qd D H) ∨ ((Itt K b).go i H ∧ ∃ Nx : Hp → Prop, (∀ H', Nx H' → ∃ m', m' < m ∧ W (i + 1) m' H') ∧ ∀ x H', (Itt K b).yld i H x H' → g x (wipe σ vs) H' fun σ2 H2 => wipe σ2 vs = wipe σ vs ∧ tt σ2 H2 fun b H3 =>
        if b = true then te σ2 H3 fun y H4 => ∃ acc, H4 D = some (.lst acc) ∧ acc.length < sizeLine ∧ Nx (upd H4 D (.lst (acc ++ [y]))) else Nx H3) := by
  refine ⟨a, rfl, ⟨xs, .of h⟩, fun D hD => ⟨fun i m H' => m = xs.length - i ∧ i ≤ xs.length ∧ ∃ r acc, PrAt H r (xs.drop i) ∧ H' D = some (.lst acc) ∧ I D r acc H', ⟨xs.length, by simp, Nat.zero_le _, p, [], hp, upd_same, h0 D hD⟩, ?_⟩⟩
  rintro i m H' ⟨rfl, hi, r, acc, hr, ha, ir⟩
  have hT : SqT K H' a xs := .of (hk _ _ _ _ hD ir _ _ h)
  by_cases hlt : i < xs.length
  · have hx : xs[i]? = some xs[i] := List.getElem?_eq_getElem hlt
    rw [drop_cons hx] at hr
    obtain ⟨r', f, hr'⟩ := hr.first
    refine .inr ⟨⟨xs, xs[i], hT, hx⟩, fun H2 => ∃ acc, H2 D = some (.lst acc) ∧ I D r' acc H2, fun H2 ⟨acc', h1, q⟩ => ⟨_, by omega, rfl, hlt, r', acc', hr', h1, q⟩, fun x H2 hy => ?_⟩
    obtain ⟨rfl, fx⟩ := hy
    have ex : x = xs[i] := Option.some.inj ((fx xs hT).symm.trans hx)
    subst ex
    exact hs D _ r r' acc _ hD (f.tk (hk _ _ _ _ hD ir)) ha ir
  · have e : i = xs.length := by omega
    subst e
    rw [List.drop_length] at hr
    have hn : r = .nil := by
      cases r with
      | nil => rfl
      | step w n r => obtain ⟨c, zs, e, _⟩ := hr; cases e
      | turn k r => obtain ⟨c, zs, e, _⟩ := hr; cases e
      | rep k b r => obtain ⟨c, q, zs, ws, e, _⟩ := hr; cases e
      | mir b r => obtain ⟨c, q, zs, ws, e, _⟩ := hr; cases e
    subst hn
    exact .inl ⟨⟨xs, hT, Nat.le_refl _⟩, hd _ _ _ hD ha ir⟩
/-- [.. for command in a list of commands] -/
theorem u_lcPrL {tt : TT} {te : TE} {vs : List Nat} {Qd : Addr → Hp → Prop} (h : H a = some (.lst xs)) (hp : PrAt H p xs) (I : Addr → Prog → List V → Hp → Prop) (h0 : ∀ D, H D = none → I D p [] (upd H D (.lst [])))
    (hk : ∀ D r acc H', H D = none → I D r acc H' → Tk H H' ∧ H' a = some (.lst xs))
    (hs : ∀ D x r r' acc H', H D = none → First H' r x r' → H' D = some (.lst acc) → I D r acc H' → g x (wipe σ vs) H' fun σ2 H2 => wipe σ2 vs = wipe σ vs ∧ tt σ2 H2 fun b H3 => if b = true then te σ2 H3 fun y H4 => LcPush D (fun D _ acc H' => I D r' acc H') 0 H4 y else LcSkip D (fun D _ acc H' => I D r' acc H') 0 H3)
    (hd : ∀ D acc H', H D = none → H' D = some (.lst acc) → I D .nil acc H' → Qd D H') :
    ∃ b, V.ref a = .ref b ∧ (∃ xs, SqL K H b xs) ∧ ∀ D, H D = none → ∃ W : Nat → Nat → Hp → Prop, (∃ m, W 0 m (upd H D (.lst []))) ∧ ∀ i m H, W i m H →
      ((Itl K b).stop i H ∧ Qd D H) ∨ ((Itl K b).go i H ∧ ∃ Nx : Hp → Prop, (∀ H', Nx H' → ∃ m', m' < m ∧ W (i + 1) m' H') ∧ ∀ x H', (Itl K b).yld i H x H' → g x (wipe σ vs) H' fun σ2 H2 => wipe σ2 vs = wipe σ vs ∧ tt σ2 H2 fun b H3 =>
        if b = true then te σ2 H3 fun y H4 => ∃ acc, H4 D = some (.lst acc) ∧ acc.length < sizeLine ∧ Nx (upd H4 D (.lst (acc ++ [y]))) else Nx H3) := by
  refine ⟨a, rfl, ⟨xs, .of h⟩, fun D hD => ⟨fun i m H' => m = xs.length - i ∧ i ≤ xs.length ∧ ∃ r acc, PrAt H r (xs.drop i) ∧ H' D = some (.lst acc) ∧ I D r acc H', ⟨xs.length, by simp, Nat.zero_le _, p, [], hp, upd_same, h0 D hD⟩, ?_⟩⟩
  rintro i m H' ⟨rfl, hi, r, acc, hr, ha, ir⟩
  have hT : SqL K H' a xs := .of (hk _ _ _ _ hD ir).2
  by_cases hlt : i < xs.length
  · have hx : xs[i]? = some xs[i] := List.getElem?_eq_getElem hlt
    rw [drop_cons hx] at hr
    obtain ⟨r', f, hr'⟩ := hr.first
    refine .inr ⟨⟨xs, xs[i], hT, hx⟩, fun H2 => ∃ acc, H2 D = some (.lst acc) ∧ I D r' acc H2, fun H2 ⟨acc', h1, q⟩ => ⟨_, by omega, rfl, hlt, r', acc', hr', h1, q⟩, fun x H2 hy => ?_⟩
    obtain ⟨rfl, fx⟩ := hy
    have ex : x = xs[i] := Option.some.inj ((fx xs hT).symm.trans hx)
    subst ex
    exact hs D _ r r' acc _ hD (f.tk (hk _ _ _ _ hD ir).1) ha ir
  · have e : i = xs.length := by omega
    subst e
    rw [List.drop_length] at hr
    have hn : r = .nil := by
      cases r with
      | nil => rfl
      | step w n r => obtain ⟨c, zs, e, _⟩ := hr; cases e
      | turn k r => obtain ⟨c, zs, e, _⟩ := hr; cases e
      | rep k b r => obtain ⟨c, q, zs, ws, e, _⟩ := hr; cases e
      | mir b r => obtain ⟨c, q, zs, ws, e, _⟩ := hr; cases e
    subst hn
    exact .inl ⟨⟨xs, hT, Nat.le_refl _⟩, hd _ _ _ hD ha ir⟩
end
theorem cut_take (xs : List V) (n : Nat) : cutV xs none (some (n : Int)) = xs.take n := by
  unfold cutV
  rw [HT.sIx_none, HT.sIx_nat, List.drop_zero, Nat.sub_zero]
  by_cases h : n ≤ xs.length
  · rw [Nat.min_eq_left h]
  · rw [Nat.min_eq_right (by omega), List.take_length, List.take_of_length_le (by omega)]
/-! ### texts -/
section
variable {σ : L2.St} {H : Hp} {Q : VK} {K : PySem.W.Frag} {ta tb tc : TE} {p : Addr}
def rLenS (xs : List V) (H : Hp) (Q : VK) : Prop := ∃ z : Str, xs = [.str z] ∧ z.length ≤ sizeLine ∧ Q (.int z.length) H
theorem call_lenS {X : Cx} : CallR X (.builtin "len") rLenS := call_len_str
theorem r_lenS {z : Str} (l : z.length ≤ 100000) (q : Q (.int z.length) H) : rLenS [.str z] H Q := ⟨z, rfl, small_of l, q⟩
def rLeS : R2 := fun x y H Q => ∃ i j : Str, x = .str i ∧ y = .str j ∧ Q (.bl (!decide (j.cps.toList < i.cps.toList))) H
theorem op_leS {X : Cx} : OpR X (compareOp .LtE) rLeS := op_le_str
theorem r_leS {i j : Str} (q : Q (.bl (!decide (j.cps.toList < i.cps.toList))) H) : rLeS (.str i) (.str j) H Q := ⟨i, j, rfl, rfl, q⟩
theorem r_chain {r r' : R2} (q : ta σ H fun x H1 => tb σ H1 fun y H2 => r x y H2 fun z H3 => ∃ k, z = .bl k ∧ (if k = true then tc σ H3 fun w' H4 => r' y w' H4 Q else Q (.bl false) H3)) : tChain r r' ta tb tc σ H Q := q
theorem r_ixS {z : Str} {n : Int} {c : Nat} (l : z.length ≤ 100000) (e : atI z.cps.toList n = some c) (q : Q (.str ⟨#[c]⟩) H) : rIxS (.str z) (.int n) H Q := ⟨z, n, c, rfl, rfl, small_of l, e, q⟩
theorem r_all {bs : List Bool} (h : SqL K H p (bs.map V.bl)) (q : Q (.bl (bs.all id)) H) : rAll K [.ref p] H Q := ⟨p, bs, rfl, h, q⟩
theorem r_any {bs : List Bool} (h : SqL K H p (bs.map V.bl)) (q : Q (.bl (bs.any id)) H) : rAny K [.ref p] H Q := ⟨p, bs, rfl, h, q⟩
end
/-! ### tuples and lists of things that stand -/
section
variable {σ : L2.St} {H : Hp} {Q : VK} {K : PySem.W.Frag} {to te : TE} {p b : Addr} {xs ys : List V}
def rTupL (K : PySem.W.Frag) (vs : List V) (H : Hp) (Q : VK) : Prop := ∃ p ys, vs = [.ref p] ∧ SqL K H p ys ∧ ∀ l, H l = none → Q (.ref l) (upd H l (.tup ys))
theorem call_tupL {X : Cx} : CallR X (.type "tuple") (rTupL X.K) := fun pins s σ H xs us Q I r ⟨p, ys, e, h, q⟩ => call_tuple_of pins s σ H xs us Q I r ⟨p, ys, e, .inl ⟨h, q⟩⟩
theorem r_tupL (h : H p = some (.lst xs)) (q : ∀ l, H l = none → Q (.ref l) (upd H l (.tup xs))) : rTupL K [.ref p] H Q := ⟨p, xs, rfl, .of h, q⟩
theorem r_extend (h : H p = some (.lst xs)) (h' : H b = some (.lst ys)) (l : xs.length + ys.length ≤ 16000000) (q : Q .non (upd H p (.lst (xs ++ ys)))) : rExtend (.ref p) [.ref b] H Q := ⟨p, b, xs, ys, rfl, rfl, h, h', Nat.le_trans l (by decide), q⟩
theorem r_appendB {v : V} (h : H p = some (.lst xs)) (hl : xs.length < 16000000) (q : Q .non (upd H p (.lst (xs ++ [v])))) : rAppend (.ref p) [v] H Q := ⟨p, xs, v, rfl, rfl, h, Nat.lt_of_lt_of_le hl (by decide), q⟩
def rListT (K : PySem.W.Frag) (vs : List V) (H : Hp) (Q : VK) : Prop := ∃ p ys, vs = [.ref p] ∧ (SqL K H p ys ∨ SqT K H p ys) ∧ ∀ l, H l = none → Q (.ref l) (upd H l (.lst ys))
theorem call_listT {X : Cx} : CallR X (.type "list") (rListT X.K) := call_list_of
theorem r_listL (h : H p = some (.lst xs)) (q : ∀ l, H l = none → Q (.ref l) (upd H l (.lst xs))) : rListT K [.ref p] H Q := ⟨p, xs, rfl, .inl (.of h), q⟩
theorem r_listT (h : H p = some (.tup xs)) (q : ∀ l, H l = none → Q (.ref l) (upd H l (.lst xs))) : rListT K [.ref p] H Q := ⟨p, xs, rfl, .inr (.of h), q⟩
theorem r_catT (h : H p = some (.tup xs)) (h' : H b = some (.tup ys)) (hx : xs ≠ []) (hy : ys ≠ []) (l : xs.length + ys.length ≤ 100000) (q : ∀ c, H c = none → Q (.ref c) (upd H c (.tup (xs ++ ys)))) : rCatT K (.ref p) (.ref b) H Q :=
  ⟨p, b, xs, ys, rfl, rfl, .of h, .of h', hx, small_of l, fun e => absurd e hy, fun _ => q⟩
theorem r_tM1 {r : V → List V → Hp → VK → Prop} (q : to σ H fun x H1 => (∃ a, x = .str a) ∧ te σ H1 fun y H2 => r x [y] H2 Q) : tM1 r to te σ H Q := q
theorem r_exS {z : Str} {A : Prop} (q : A) : (∃ a, V.str z = V.str a) ∧ A := ⟨⟨z, rfl⟩, q⟩
end
theorem name_len {n : Str} (h : IsName n) : n.length = 1 := by
  obtain ⟨c, rfl, _⟩ := h
  rfl
theorem one_lt {a b : Nat} (h : b ≤ a) : ¬ ([a] : List Nat) < [b] := by
  intro q
  have : a < b := by simpa [List.cons_lt_cons_iff] using q
  omega
theorem letter_a {n : Str} (h : IsName n) : ¬ n.cps.toList < (("a" : Str)).cps.toList := by
  obtain ⟨c, rfl, h1, _⟩ := h
  rw [show (("a" : Str)).cps.toList = [97] by decide +kernel]
  exact one_lt h1
theorem letter_z {n : Str} (h : IsName n) : ¬ (("z" : Str)).cps.toList < n.cps.toList := by
  obtain ⟨c, rfl, _, h2⟩ := h
  rw [show (("z" : Str)).cps.toList = [122] by decide +kernel]
  exact one_lt h2
theorem word_ne {w : Str} (h : IsWord w) : ¬ w = "repeat" ∧ ¬ w = "mirror" ∧ ¬ w = "turn" := by
  rcases h with rfl | rfl | rfl | rfl <;> decide +kernel
def sign1 (c : Nat) : Str := ⟨#[c]⟩
theorem app_toList (x y : Str) : (x ++ y).cps.toList = x.cps.toList ++ y.cps.toList := by
  show (x.cps ++ y.cps).toList = _
  exact Array.toList_append
theorem join_signs {s : Str} (hs : s.cps.toList = []) : ∀ cs : List Nat, (Txt.join s (cs.map sign1)).cps.toList = cs := fun cs => by
  rw [TL.join_eq]
  induction cs with
  | nil => rfl
  | cons c r ih =>
    cases r with
    | nil => rfl
    | cons d r =>
      show (sign1 c ++ s ++ Str.join s ((d :: r).map sign1)).cps.toList = _
      rw [app_toList, app_toList, hs, ih]
      rfl
/-- six letters -/
def Names (z : Str) : Prop := z.cps.toList.length = 6 ∧ ∀ c ∈ z.cps.toList, 97 ≤ c ∧ c ≤ 122
theorem names_at {z : Str} {n : Int} (h : Names z) (h0 : 0 ≤ n) (h1 : n < 6) : ∃ c, atI z.cps.toList n = some c ∧ IsName ⟨#[c]⟩ := by
  have h2 : n.toNat < z.cps.toList.length := by rw [h.1]; omega
  refine ⟨z.cps.toList[n.toNat], ?_, ⟨_, rfl, h.2 _ (List.getElem_mem h2)⟩⟩
  unfold atI ixN
  rw [if_pos h0, if_pos (by rw [h.1]; omega)]
  exact List.getElem?_eq_getElem h2
theorem names_small {z : Str} (h : Names z) : z.length ≤ 100000 := by
  have := h.1
  show z.cps.size ≤ 100000
  rw [Array.length_toList] at this
  omega
theorem letter_at {n : Int} (h0 : 0 ≤ n) (h1 : n < 26) : ∃ c, atI (("abcdefghijklmnopqrstuvwxyz" : Str)).cps.toList n = some c ∧ 97 ≤ c ∧ c ≤ 122 := by
  have hl : (("abcdefghijklmnopqrstuvwxyz" : Str)).cps.toList.length = 26 := by decide +kernel
  have ha : ∀ c ∈ (("abcdefghijklmnopqrstuvwxyz" : Str)).cps.toList, 97 ≤ c ∧ c ≤ 122 := by decide +kernel
  have h2 : n.toNat < (("abcdefghijklmnopqrstuvwxyz" : Str)).cps.toList.length := by rw [hl]; omega
  refine ⟨_, ?_, ha _ (List.getElem_mem h2)⟩
  unfold atI ixN
  rw [if_pos h0, if_pos (by rw [hl]; omega)]
  exact List.getElem?_eq_getElem h2
/-- all but what stands at a and b -/
def But2 (a b : Addr) (H H' : Hp) : Prop := ∀ c o, c ≠ a → c ≠ b → H c = some o → H' c = some o
theorem But2.refl (a b : Addr) (H : Hp) : But2 a b H H := fun _ _ _ _ h => h
theorem But2.trans {a b : Addr} {H H1 H2 : Hp} (h : But2 a b H H1) (k : But2 a b H1 H2) : But2 a b H H2 := fun c o n m e => k c o n m (h c o n m e)
theorem But2.of {a b : Addr} {H H' : Hp} (h : But a H H') : But2 a b H H' := fun c o n _ e => h c o n e
theorem But2.at {a b c : Addr} {H H' : Hp} {o : HO} (h : But2 a b H H') (n : c ≠ a) (m : c ≠ b) (e : H c = some o) : H' c = some o := h c o n m e
theorem But2.new {a b p : Addr} {H H' : Hp} {o : HO} (h : But2 a b H H') (n : H' p = none) : But2 a b H (upd H' p o) := fun c u x y e => h_keep (h c u x y e) n
theorem But2.put {a b p : Addr} {H H' : Hp} {o : HO} (h : But2 a b H H') (n : H p = none) : But2 a b H (upd H' p o) := fun c u x y e => (upd_ne (ne_of_none e n)).trans (h c u x y e)
theorem But2.self {a b : Addr} {H H' : Hp} {o : HO} (h : But2 a b H H') : But2 a b H (upd H' b o) := fun c u x y e => (upd_ne y).trans (h c u x y e)
theorem But2.one {a b : Addr} {H H0 H' : Hp} (s : But a H H0) (n : H b = none) (h : But2 a b H0 H') : But a H H' := fun c o x e => h c o x (ne_of_none e n) (s c o x e)
theorem But2.free {a b p : Addr} {H H' : Hp} (h : But2 a b H H') (n : p ≠ a) (m : p ≠ b) (e : H' p = none) : H p = none := by
  cases q : H p with
  | none => rfl
  | some o => rw [h p o n m q] at e; cases e
theorem Bag.list {H : Hp} {a : Addr} (h : Bag H a) : ∃ l, H a = some (.lst l) ∧ l.length = 3 := by
  obtain ⟨x, y, z, e, _⟩ := h
  exact ⟨_, e, rfl⟩
theorem Bag.upd {H : Hp} {a p : Addr} {o : HO} (h : Bag H a) (n : a ≠ p) : Bag (upd H p o) a := by
  obtain ⟨x, y, z, e, r⟩ := h
  exact ⟨x, y, z, (upd_ne n).trans e, r⟩
/-- the program's table of steps -/
structure StepsAt (K : PySem.W.Frag) (w : World) (mg : Str → Option Value) : Prop where
  ex : ∃ d es n, KDict K w d es n ∧ mg "STEPS" = some (.ref d) ∧ ∀ x : Str, IsWord x → ∃ v, PySem.W.nsIn K d x = some (some v)
/-- the greatest counts and turns -/
def BC : Int := 10 ^ 31
theorem BC_one : 1 ≤ BC := by decide +kernel
theorem mulW_of {a b : Int} (ha : a.natAbs < 2 ^ 100000) (hb : b.natAbs < 2 ^ 100000) : CMulW a b := by
  unfold CMulW
  have h : ∀ {n : Nat}, n < 2 ^ 100000 → n.log2 < 100000 := fun {n} hn => by
    by_cases h0 : n = 0
    · rw [h0]; decide
    · exact (Nat.log2_lt h0).mpr hn
  have := h ha
  have := h hb
  omega
theorem ipow_mono {a : Int} (h : 1 ≤ a) {m n : Nat} (hm : m ≤ n) : a ^ m ≤ a ^ n := by
  obtain ⟨k, rfl⟩ : ∃ k, n = m + k := ⟨n - m, by omega⟩
  rw [Int.pow_add]
  have h1 : 1 ≤ a ^ k := by
    have : (0 : Int) < a ^ k := Int.pow_pos (by omega)
    omega
  have h2 : a ^ m * 1 ≤ a ^ m * a ^ k := Int.mul_le_mul_of_nonneg_left h1 (Int.le_of_lt (Int.pow_pos (by omega)))
  omega
/-- how great the sizes are -/
theorem size_small {d : Nat} {p : Prog} (h : Wf BC BC d p) (hd : d ≤ 20) (hl : p.len ≤ 4000) : p.size ≤ 10 ^ 704 := by
  have h1 := Prog.size_le BC_one h
  have h2 : (4000 * BC) ^ d ≤ (4000 * BC) ^ 20 := ipow_mono (by decide +kernel) hd
  have h3 : (p.len : Int) * (4000 * BC) ^ d ≤ 4000 * (4000 * BC) ^ 20 := Int.mul_le_mul (by omega) h2 (Int.le_of_lt (Int.pow_pos (by decide +kernel))) (by omega)
  exact Int.le_trans h1 (Int.le_trans h3 (by decide +kernel))
theorem size_bits {d : Nat} {p : Prog} (h : Wf BC BC d p) (hd : d ≤ 20) (hl : p.len ≤ 4000) : p.size.natAbs < 2 ^ 100000 := by
  have h1 := size_small h hd hl
  have h0 := Prog.size_nonneg h
  refine Nat.lt_of_le_of_lt (m := 10 ^ 704) ?_ (by decide +kernel)
  have : (p.size.natAbs : Int) ≤ ((10 ^ 704 : Nat) : Int) := by
    rw [Int.natAbs_of_nonneg h0]
    exact h1
  exact Int.ofNat_le.mp this
theorem head_bits {d : Nat} {p : Prog} (h : Wf BC BC d p) (hd : d ≤ 20) (hl : p.len ≤ 4000) : p.head.natAbs < 2 ^ 100000 := by
  have h1 := size_small h hd hl
  have h0 := Prog.head_le BC_one (by decide +kernel) h
  refine Nat.lt_of_le_of_lt (m := 10 ^ 740) ?_ (by decide +kernel)
  have h2 : BC * p.size ≤ BC * 10 ^ 704 := Int.mul_le_mul_of_nonneg_left h1 (by decide +kernel)
  have : (p.head.natAbs : Int) ≤ ((10 ^ 740 : Nat) : Int) := Int.le_trans h0 (Int.le_trans h2 (by decide +kernel))
  exact Int.ofNat_le.mp this
theorem count_bits {k : Int} (h0 : -BC ≤ k) (h1 : k ≤ BC) : k.natAbs < 2 ^ 100000 := by
  refine Nat.lt_of_le_of_lt (m := 10 ^ 31) ?_ (by decide +kernel)
  have : BC = 10 ^ 31 := rfl
  omega
end My

set_option Elab.async false
set_option linter.all false
set_option maxRecDepth 100000
namespace My
open PySem PySem.Spec PyProof.Rows L2
def topS (i : Nat) : Stmt := PySem.Challenge.pw_everyangle_k05_whole_divided.main.body.getD i (.Pass ⟨0, 0, 0, 0⟩)
abbrev s_is_integer : Stmt := topS 6
abbrev s_check_number : Stmt := topS 7
abbrev s_is_term : Stmt := topS 8
abbrev s_summed : Stmt := topS 9
abbrev s_Poly___init__ : Stmt := inClass (topS 10) 0
abbrev s_Poly_terms : Stmt := inClass (topS 10) 1
abbrev s_Poly_span : Stmt := inClass (topS 10) 2
abbrev s_Poly___len__ : Stmt := inClass (topS 10) 3
abbrev s_Poly___iter__ : Stmt := inClass (topS 10) 4
abbrev s_Poly___eq__ : Stmt := inClass (topS 10) 5
abbrev s_Poly___add__ : Stmt := inClass (topS 10) 6
abbrev s_Poly___radd__ : Stmt := inClass (topS 10) 7
abbrev s_Poly___sub__ : Stmt := inClass (topS 10) 8
abbrev s_Poly___rsub__ : Stmt := inClass (topS 10) 9
abbrev s_Poly___mul__ : Stmt := inClass (topS 10) 10
abbrev s_Poly___rmul__ : Stmt := inClass (topS 10) 11
abbrev s_Poly___neg__ : Stmt := inClass (topS 10) 12
abbrev s_Poly___lshift__ : Stmt := inClass (topS 10) 13
abbrev s_Poly___floordiv__ : Stmt := inClass (topS 10) 14
abbrev s_Poly_raised : Stmt := inClass (topS 10) 15
abbrev s_Poly_mirrored : Stmt := inClass (topS 10) 16
abbrev s_Poly_divided : Stmt := inClass (topS 10) 17
abbrev s_check_poly : Stmt := topS 11
abbrev s_as_poly : Stmt := topS 12
abbrev s_negative : Stmt := topS 13
abbrev s_product : Stmt := topS 14
abbrev s_check_divisor : Stmt := topS 15
abbrev s_division : Stmt := topS 16
abbrev s_l_bag_of : Stmt := topS 18
abbrev s_l_pick : Stmt := topS 19
abbrev s_l_great_int : Stmt := topS 20
abbrev s_l_is_int : Stmt := topS 21
abbrev s_l_some_int : Stmt := topS 22
abbrev s_l_pairs : Stmt := topS 23
abbrev s_l_jar_of : Stmt := topS 24
abbrev s_l_terms_of : Stmt := topS 25
abbrev s_l_plus : Stmt := topS 26
abbrev s_l_times : Stmt := topS 27
abbrev s_l_moved : Stmt := topS 28
abbrev s_l_is_poly : Stmt := topS 29
abbrev s_l_less : Stmt := topS 30
abbrev s_l_divisor_of : Stmt := topS 31
abbrev s_l_divisor : Stmt := topS 32
abbrev s_l_made : Stmt := topS 33
abbrev s_l_both_parts : Stmt := topS 34
abbrev s_l_some_rest : Stmt := topS 35
abbrev s_l_base_made : Stmt := topS 36
abbrev s_l_far_ones : Stmt := topS 37
abbrev s_law : Stmt := topS 38
theorem sc_is_integer : FnScope ["value"] ["value"] (defScope s_is_integer) := ⟨rfl, rfl, rfl, by decide +kernel, rfl, by decide +kernel, by decide +kernel⟩
theorem sc_check_number : FnScope ["value"] ["value"] (defScope s_check_number) := ⟨rfl, rfl, rfl, by decide +kernel, rfl, by decide +kernel, by decide +kernel⟩
theorem sc_is_term : FnScope ["value"] ["value"] (defScope s_is_term) := ⟨rfl, rfl, rfl, by decide +kernel, rfl, by decide +kernel, by decide +kernel⟩
theorem sc_summed : FnScope ["terms", "sums", "power", "number"] ["terms"] (defScope s_summed) := ⟨rfl, rfl, rfl, by decide +kernel, rfl, by decide +kernel, by decide +kernel⟩
theorem sc_Poly___init__ : FnScope ["self", "terms", "term"] ["self", "terms"] (defScope s_Poly___init__) := ⟨rfl, rfl, rfl, by decide +kernel, rfl, by decide +kernel, by decide +kernel⟩
theorem sc_Poly_terms : FnScope ["self"] ["self"] (defScope s_Poly_terms) := ⟨rfl, rfl, rfl, by decide +kernel, rfl, by decide +kernel, by decide +kernel⟩
theorem sc_Poly_span : FnScope ["self"] ["self"] (defScope s_Poly_span) := ⟨rfl, rfl, rfl, by decide +kernel, rfl, by decide +kernel, by decide +kernel⟩
theorem sc_Poly___len__ : FnScope ["self"] ["self"] (defScope s_Poly___len__) := ⟨rfl, rfl, rfl, by decide +kernel, rfl, by decide +kernel, by decide +kernel⟩
theorem sc_Poly___iter__ : FnScope ["self"] ["self"] (defScope s_Poly___iter__) := ⟨rfl, rfl, rfl, by decide +kernel, rfl, by decide +kernel, by decide +kernel⟩
theorem sc_Poly___eq__ : FnScope ["self", "other"] ["self", "other"] (defScope s_Poly___eq__) := ⟨rfl, rfl, rfl, by decide +kernel, rfl, by decide +kernel, by decide +kernel⟩
theorem sc_Poly___add__ : FnScope ["self", "other"] ["self", "other"] (defScope s_Poly___add__) := ⟨rfl, rfl, rfl, by decide +kernel, rfl, by decide +kernel, by decide +kernel⟩
theorem sc_Poly___radd__ : FnScope ["self", "other"] ["self", "other"] (defScope s_Poly___radd__) := ⟨rfl, rfl, rfl, by decide +kernel, rfl, by decide +kernel, by decide +kernel⟩
theorem sc_Poly___sub__ : FnScope ["self", "other"] ["self", "other"] (defScope s_Poly___sub__) := ⟨rfl, rfl, rfl, by decide +kernel, rfl, by decide +kernel, by decide +kernel⟩
theorem sc_Poly___rsub__ : FnScope ["self", "other"] ["self", "other"] (defScope s_Poly___rsub__) := ⟨rfl, rfl, rfl, by decide +kernel, rfl, by decide +kernel, by decide +kernel⟩
theorem sc_Poly___mul__ : FnScope ["self", "other"] ["self", "other"] (defScope s_Poly___mul__) := ⟨rfl, rfl, rfl, by decide +kernel, rfl, by decide +kernel, by decide +kernel⟩
theorem sc_Poly___rmul__ : FnScope ["self", "other"] ["self", "other"] (defScope s_Poly___rmul__) := ⟨rfl, rfl, rfl, by decide +kernel, rfl, by decide +kernel, by decide +kernel⟩
theorem sc_Poly___neg__ : FnScope ["self"] ["self"] (defScope s_Poly___neg__) := ⟨rfl, rfl, rfl, by decide +kernel, rfl, by decide +kernel, by decide +kernel⟩
theorem sc_Poly___lshift__ : FnScope ["self", "number", "power", "factor"] ["self", "number"] (defScope s_Poly___lshift__) := ⟨rfl, rfl, rfl, by decide +kernel, rfl, by decide +kernel, by decide +kernel⟩
theorem sc_Poly___floordiv__ : FnScope ["self", "divisor"] ["self", "divisor"] (defScope s_Poly___floordiv__) := ⟨rfl, rfl, rfl, by decide +kernel, rfl, by decide +kernel, by decide +kernel⟩
theorem sc_Poly_raised : FnScope ["self", "number", "result", "_"] ["self", "number"] (defScope s_Poly_raised) := ⟨rfl, rfl, rfl, by decide +kernel, rfl, by decide +kernel, by decide +kernel⟩
theorem sc_Poly_mirrored : FnScope ["self", "power", "number"] ["self"] (defScope s_Poly_mirrored) := ⟨rfl, rfl, rfl, by decide +kernel, rfl, by decide +kernel, by decide +kernel⟩
theorem sc_Poly_divided : FnScope ["self", "divisor"] ["self", "divisor"] (defScope s_Poly_divided) := ⟨rfl, rfl, rfl, by decide +kernel, rfl, by decide +kernel, by decide +kernel⟩
theorem sc_check_poly : FnScope ["value"] ["value"] (defScope s_check_poly) := ⟨rfl, rfl, rfl, by decide +kernel, rfl, by decide +kernel, by decide +kernel⟩
theorem sc_as_poly : FnScope ["value"] ["value"] (defScope s_as_poly) := ⟨rfl, rfl, rfl, by decide +kernel, rfl, by decide +kernel, by decide +kernel⟩
theorem sc_negative : FnScope ["poly", "power", "number"] ["poly"] (defScope s_negative) := ⟨rfl, rfl, rfl, by decide +kernel, rfl, by decide +kernel, by decide +kernel⟩
theorem sc_product : FnScope ["one", "two", "power", "number", "other", "factor"] ["one", "two"] (defScope s_product) := ⟨rfl, rfl, rfl, by decide +kernel, rfl, by decide +kernel, by decide +kernel⟩
theorem sc_check_divisor : FnScope ["value", "rows"] ["value"] (defScope s_check_divisor) := ⟨rfl, rfl, rfl, by decide +kernel, rfl, by decide +kernel, by decide +kernel⟩
theorem sc_division : FnScope ["poly", "divisor", "rows", "width", "left", "power", "number", "terms", "ends", "shift", "factor", "other"] ["poly", "divisor"] (defScope s_division) := ⟨rfl, rfl, rfl, by decide +kernel, rfl, by decide +kernel, by decide +kernel⟩
theorem sc_l_bag_of : FnScope ["_law_cell"] ["_law_cell"] (defScope s_l_bag_of) := ⟨rfl, rfl, rfl, by decide +kernel, rfl, by decide +kernel, by decide +kernel⟩
theorem sc_l_pick : FnScope ["_law_bag", "_law_many", "_law_digit"] ["_law_bag", "_law_many"] (defScope s_l_pick) := ⟨rfl, rfl, rfl, by decide +kernel, rfl, by decide +kernel, by decide +kernel⟩
theorem sc_l_great_int : FnScope ["_law_bag", "_law_digits", "_law_total", "_law_k", "_law_limit"] ["_law_bag", "_law_digits"] (defScope s_l_great_int) := ⟨rfl, rfl, rfl, by decide +kernel, rfl, by decide +kernel, by decide +kernel⟩
theorem sc_l_is_int : FnScope ["_law_thing"] ["_law_thing"] (defScope s_l_is_int) := ⟨rfl, rfl, rfl, by decide +kernel, rfl, by decide +kernel, by decide +kernel⟩
theorem sc_l_some_int : FnScope ["_law_bag", "_law_mode", "_law_sign"] ["_law_bag"] (defScope s_l_some_int) := ⟨rfl, rfl, rfl, by decide +kernel, rfl, by decide +kernel, by decide +kernel⟩
theorem sc_l_pairs : FnScope ["_law_bag", "_law_most", "_law_far", "_law_rows", "_law_low", "_law_wide", "_law_k"] ["_law_bag", "_law_most", "_law_far"] (defScope s_l_pairs) := ⟨rfl, rfl, rfl, by decide +kernel, rfl, by decide +kernel, by decide +kernel⟩
theorem sc_l_jar_of : FnScope ["_law_rows", "_law_jar", "_law_deg", "_law_coef"] ["_law_rows"] (defScope s_l_jar_of) := ⟨rfl, rfl, rfl, by decide +kernel, rfl, by decide +kernel, by decide +kernel⟩
theorem sc_l_terms_of : FnScope ["_law_jar", "_law_deg"] ["_law_jar"] (defScope s_l_terms_of) := ⟨rfl, rfl, rfl, by decide +kernel, rfl, by decide +kernel, by decide +kernel⟩
theorem sc_l_plus : FnScope ["_law_one", "_law_two", "_law_sign", "_law_jar", "_law_deg"] ["_law_one", "_law_two", "_law_sign"] (defScope s_l_plus) := ⟨rfl, rfl, rfl, by decide +kernel, rfl, by decide +kernel, by decide +kernel⟩
theorem sc_l_times : FnScope ["_law_one", "_law_two", "_law_jar", "_law_deg", "_law_far"] ["_law_one", "_law_two"] (defScope s_l_times) := ⟨rfl, rfl, rfl, by decide +kernel, rfl, by decide +kernel, by decide +kernel⟩
theorem sc_l_moved : FnScope ["_law_jar", "_law_shift", "_law_deg"] ["_law_jar", "_law_shift"] (defScope s_l_moved) := ⟨rfl, rfl, rfl, by decide +kernel, rfl, by decide +kernel, by decide +kernel⟩
theorem sc_l_is_poly : FnScope ["_law_found", "_law_jar", "_law_told", "_law_due", "_law_wide", "_law_row"] ["_law_found", "_law_jar"] (defScope s_l_is_poly) := ⟨rfl, rfl, rfl, by decide +kernel, rfl, by decide +kernel, by decide +kernel⟩
theorem sc_l_less : FnScope ["_law_bag", "_law_mode"] ["_law_bag"] (defScope s_l_less) := ⟨rfl, rfl, rfl, by decide +kernel, rfl, by decide +kernel, by decide +kernel⟩
theorem sc_l_divisor_of : FnScope ["_law_bag", "_law_top", "_law_jar", "_law_k"] ["_law_bag", "_law_top"] (defScope s_l_divisor_of) := ⟨rfl, rfl, rfl, by decide +kernel, rfl, by decide +kernel, by decide +kernel⟩
theorem sc_l_divisor : FnScope ["_law_bag", "_law_most"] ["_law_bag", "_law_most"] (defScope s_l_divisor) := ⟨rfl, rfl, rfl, by decide +kernel, rfl, by decide +kernel, by decide +kernel⟩
theorem sc_l_made : FnScope ["_law_bag", "_law_jar", "_law_rows", "_law_way", "_law_at", "_law_turned", "_law_deg", "_law_coef"] ["_law_bag", "_law_jar"] (defScope s_l_made) := ⟨rfl, rfl, rfl, by decide +kernel, rfl, by decide +kernel, by decide +kernel⟩
theorem sc_l_both_parts : FnScope ["_law_found", "_law_jar", "_law_base", "_law_parts", "_law_back", "_law_deg"] ["_law_found", "_law_jar", "_law_base"] (defScope s_l_both_parts) := ⟨rfl, rfl, rfl, by decide +kernel, rfl, by decide +kernel, by decide +kernel⟩
theorem sc_l_some_rest : FnScope ["_law_bag", "_law_top", "_law_jar", "_law_k"] ["_law_bag", "_law_top"] (defScope s_l_some_rest) := ⟨rfl, rfl, rfl, by decide +kernel, rfl, by decide +kernel, by decide +kernel⟩
theorem sc_l_base_made : FnScope ["_law_bag", "_law_first", "_law_second", "_law_base"] ["_law_bag"] (defScope s_l_base_made) := ⟨rfl, rfl, rfl, by decide +kernel, rfl, by decide +kernel, by decide +kernel⟩
theorem sc_l_far_ones : FnScope ["_law_bag", "_law_free", "_law_ways", "_law_ring_like", "_law_base", "_law_far", "_law_shift", "_law_some", "_law_poly", "_law_jar", "_law_due", "_law_moved_", "_law_parts", "_law_lots"] ["_law_bag", "_law_free", "_law_ways", "_law_ring_like", "_law_base"] (defScope s_l_far_ones) := ⟨rfl, rfl, rfl, by decide +kernel, rfl, by decide +kernel, by decide +kernel⟩
theorem sc_law : FnScope ["_law_script", "_law_great", "_law_cell", "_law_bag", "_law_ring_like", "_law_base", "_law_wide", "_law_ways", "_law_rest", "_law_built", "_law_free", "_law_whole_", "_law_some", "_law_poly", "_law_jar", "_law_due", "_law_parts", "_law_k", "_law_part", "_law_again", "_law_pair", "_law_divisor_", "_law_tin", "_law_unit"] ["_law_script"] (defScope s_law) := ⟨rfl, rfl, rfl, by decide +kernel, rfl, by decide +kernel, by decide +kernel⟩
/-- the built-ins that the text calls by their names -/
structure Bl (mg : Str → Option Value) : Prop where
  b_isinstance : mg "isinstance" = none
  b_int : mg "int" = none
  b_bool : mg "bool" = none
  b_str : mg "str" = none
  b_tuple : mg "tuple" = none
  b_list : mg "list" = none
  b_len : mg "len" = none
  b_all : mg "all" = none
  b_range : mg "range" = none
  b_sum : mg "sum" = none
  b_max : mg "max" = none
  b_min : mg "min" = none
end My

set_option Elab.async false
set_option linter.all false
set_option maxRecDepth 100000
set_option maxHeartbeats 4000000

namespace My
open PySem PySem.Spec PyProof.Rows L2
section
variable {P : Program} {w : World} {K : PySem.W.Frag} {mg : Str → Option Value} {base : Heap}
local macro_rules | `(tactic| walk_at "isi") => `(tactic| (first
  | (with_reducible refine r_is_int_int ?_)
  | (with_reducible refine r_is_int_bool ?_)
  | (with_reducible refine r_is_int_str ?_)
  | (with_reducible refine r_is_int_list ?_)
  | (with_reducible refine r_is_int_tuple ?_)
  | (with_reducible refine r_is_bool_int ?_)
  | (with_reducible refine r_is_bool_bool ?_)
  | (with_reducible refine r_is_bool_str ?_)
  | (with_reducible refine r_is_bool_list ?_)
  | (with_reducible refine r_is_bool_tuple ?_)
  | (with_reducible refine r_is_str_int ?_)
  | (with_reducible refine r_is_str_bool ?_)
  | (with_reducible refine r_is_str_str ?_)
  | (with_reducible refine r_is_str_list ?_)
  | (with_reducible refine r_is_str_tuple ?_)
  | ((with_reducible refine r_is_list_int (xs := ?xx) ?hh ?_); (case hh => walk_at "hp"))
  | ((with_reducible refine r_is_list_bool (xs := ?xx) ?hh ?_); (case hh => walk_at "hp"))
  | ((with_reducible refine r_is_list_str (xs := ?xx) ?hh ?_); (case hh => walk_at "hp"))
  | ((with_reducible refine r_is_list_list (xs := ?xx) ?hh ?_); (case hh => walk_at "hp"))
  | ((with_reducible refine r_is_list_tuple (xs := ?xx) ?hh ?_); (case hh => walk_at "hp"))
  | ((with_reducible refine r_is_tuple_int (xs := ?xx) ?hh ?_); (case hh => walk_at "hp"))
  | ((with_reducible refine r_is_tuple_bool (xs := ?xx) ?hh ?_); (case hh => walk_at "hp"))
  | ((with_reducible refine r_is_tuple_str (xs := ?xx) ?hh ?_); (case hh => walk_at "hp"))
  | ((with_reducible refine r_is_tuple_list (xs := ?xx) ?hh ?_); (case hh => walk_at "hp"))
  | ((with_reducible refine r_is_tuple_tuple (xs := ?xx) ?hh ?_); (case hh => walk_at "hp"))
  | (with_reducible refine r_is_NoneType_int ?_)
  | (with_reducible refine r_is_NoneType_bool ?_)
  | (with_reducible refine r_is_NoneType_str ?_)
  | (with_reducible refine r_is_NoneType_list ?_)
  | (with_reducible refine r_is_NoneType_tuple ?_)))
local macro_rules | `(tactic| walk_at "ne") => `(tactic| first | assumption | (refine Ne.symm ?_; assumption) | exact Bag.ne (by assumption) (by assumption) | exact ne_of_none (by assumption) (by assumption))
local macro_rules | `(tactic| walk_at "hp") => `(tactic| (first
  | assumption
  | exact upd_same
  | (refine h_keep ?_ (by assumption); walk_at "hp")
  | (refine (upd_ne (by walk_at "ne")).trans ?_; walk_at "hp")
  | (refine Same.at (by assumption) ?_; walk_at "hp")
  | (refine But.at (by assumption) (by walk_at "ne") ?_; walk_at "hp")
  | (refine But2.at (by assumption) (by walk_at "ne") (by walk_at "ne") ?_; walk_at "hp")))
local macro_rules | `(tactic| walk_at "side") => `(tactic| first | assumption | omega | (refine ⟨?_, ?_⟩ <;> first | assumption | omega | decide) | decide | (refine ⟨by decide, by decide, by decide⟩) | (left; refine ⟨?_, ?_⟩ <;> first | omega | decide) | (right; refine ⟨?_, ?_⟩ <;> first | omega | decide) | (simp; done))
local macro_rules | `(tactic| walk_at "cond") => `(tactic| first | assumption | exact rfl | omega | (simp only [List.length_cons, List.length_nil]; omega) | decide +kernel)
local macro_rules | `(tactic| walk_at "s") => `(tactic| (first
  | ((with_reducible refine r_var (v := ?vv) ?ee ?_); (case ee => exact rfl))
  | (with_reducible refine r_c ?_)
  | (with_reducible refine r_op ?_)
  | (with_reducible refine r_un ?_)
  | (with_reducible refine r_rI0 ?_)
  | ((with_reducible refine r_rI ?cc ?_); (case cc => walk_at "side"))
  | (with_reducible refine r_rU ?_)
  | (with_reducible refine r_eqI ?_)
  | (with_reducible refine r_neI ?_)
  | (with_reducible refine r_eqB ?_)
  | (with_reducible refine r_neB ?_)
  | (with_reducible refine r_eqS ?_)
  | (with_reducible refine r_neS ?_)
  | ((with_reducible refine r_eq ?ee ?_); (case ee => exact rfl))
  | ((with_reducible refine r_ne ?ee ?_); (case ee => exact rfl))
  | ((with_reducible refine r_ixL (v := ?vv) (xs := ?xx) ?hh ?ee ?_); (case hh => (refine SqL.of ?_; walk_at "hp")); (case ee => exact rfl))
  | (with_reducible refine r_cb ?_)
  | (with_reducible refine r_call ?_)
  | (with_reducible refine r_cons ?_)
  | (with_reducible refine r_nil ?_)
  | (with_reducible refine r_lst ?_)
  | (with_reducible refine r_tup ?_)
  | ((with_reducible refine r_new ?cc ?_); (case cc => walk_at "side"))
  | (with_reducible refine r_exbl ?_)
  | (with_reducible refine r_exint ?_)
  | (with_reducible refine r_exint2 ?_)
  | (with_reducible refine r_exblL ?_)
  | (with_reducible refine r_ex2 ?_)
  | (with_reducible refine r_test ?_)
  | (with_reducible refine r_tB ?_)
  | (with_reducible refine r_not ?_)
  | (with_reducible refine r_and ?_)
  | (with_reducible refine r_or ?_)
  | (with_reducible refine r_andV ?_)
  | (with_reducible refine r_orV ?_)
  | (with_reducible refine r_notV ?_)
  | (with_reducible refine r_tif ?_)
  | (with_reducible refine r_iteT ?_)
  | (with_reducible refine r_iteNT ?_)
  | (with_reducible refine r_iteNF ?_)
  | (with_reducible refine r_iteF ?_)
  | (with_reducible refine r_seq ?_)
  | (with_reducible refine r_next ?_)
  | (with_reducible refine r_brk ?_)
  | (with_reducible refine r_cont ?_)
  | (with_reducible refine r_asg ?_)
  | (with_reducible refine r_gname ?_)
  | (with_reducible refine r_ret ?_)
  | (with_reducible refine r_retN ?_)
  | (with_reducible refine r_drop ?_)
  | (with_reducible refine r_if ?_)
  | ((with_reducible refine r_aug (x := ?xx) ?ee ?_); (case ee => exact rfl))
  | (with_reducible refine r_ipI ?_)
  | (with_reducible refine r_augS ?_)
  | (with_reducible refine r_gsub ?_)
  | ((with_reducible refine r_setL (xs := ?xx) (m := ?mm) ?hh ?ee ?_); (case hh => walk_at "hp"); (case ee => exact rfl))
  | (with_reducible refine r_par ?_)
  | (with_reducible refine r_bm ?_)
  | ((with_reducible refine r_tyL (xs := ?xx) ?hh ?_); (case hh => walk_at "hp"))
  | ((with_reducible refine r_append (xs := ?xx) ?hh ?ll ?_); (case hh => walk_at "hp"); (case ll => walk_at "side"))
  | (walk_at "isi")
  | (with_reducible refine r_for ?_)
  | (with_reducible refine r_iList ?_)
  | (with_reducible refine r_iTup ?_)
  | (with_reducible refine r_iR1 ?_)
  | (with_reducible refine r_iR2 ?_)
  | (with_reducible refine r_lc ?_)
  | (with_reducible refine r_yes ?_)
  | ((with_reducible refine r_lenS ?ll ?_); (case ll => walk_at "side"))
  | (with_reducible refine r_leS ?_)
  | (with_reducible refine r_chain ?_)
  | (with_reducible refine r_tM1 ?_)
  | (with_reducible refine r_exS ?_)
  | ((with_reducible refine r_tupL (xs := ?xx) ?hh ?_); (case hh => walk_at "hp"))
  | ((with_reducible refine r_listL (xs := ?xx) ?hh ?_); (case hh => walk_at "hp"))
  | ((with_reducible refine r_listT (xs := ?xx) ?hh ?_); (case hh => walk_at "hp"))
  | ((with_reducible refine r_ixT (v := ?vv) (xs := ?xx) ?hh ?ee ?_); (case hh => (refine SqT.of ?_; walk_at "hp")); (case ee => exact rfl))
  | (with_reducible refine r_sl ?_)
  | (with_reducible refine r_nopart ?_)
  | (with_reducible refine r_part ?_)
  | (with_reducible refine r_exI ?_)
  | ((with_reducible refine r_slL (xs := ?xx) ?hh ?_); (case hh => first | assumption | (refine SqL.of ?_; walk_at "hp") | (refine Same.seq (by assumption) (by assumption))))
  | ((with_reducible refine r_cat (xs := ?xx) (zs := ?zz) ?hh ?ii ?ll ?_); (case hh => walk_at "hp"); (case ii => walk_at "hp"); (case ll => walk_at "side"))
  | ((with_reducible refine r_lenL (xs := ?xx) ?hh ?_); (case hh => walk_at "hp"))
  | ((with_reducible refine r_lenT (xs := ?xx) ?hh ?_); (case hh => walk_at "hp"))
  | ((with_reducible refine r_gTup (xs := ?xx) ?hh ?ll ?_); (case hh => walk_at "hp"); (case ll => exact rfl))
  | (with_reducible refine r_gCons ?_)
  | (with_reducible refine r_gNil ?_)
  | ((with_reducible refine r_iteDT ?cc ?_); (case cc => walk_at "cond"))
  | ((with_reducible refine r_iteDF ?cc ?_); (case cc => walk_at "cond"))
  | ((with_reducible refine r_iteNDT ?cc ?_); (case cc => walk_at "cond"))
  | ((with_reducible refine r_iteNDF ?cc ?_); (case cc => walk_at "cond"))
  ))
local macro_rules | `(tactic| walk_at "go") => `(tactic| repeat (walk_at "s"))

def spIsInt : Sp := fun vs H Q _ => ∃ n : Int, vs = [.int n] ∧ Q (.bl true) H
theorem ok_is_integer {f : Addr} {fd : FuncData} (F : Fun K "is_integer" "is_integer" s_is_integer f fd) (B : Bl mg) : FnOk P w K mg base CX0 1 f fd ["value"] spIsInt := by
  refine F.ok sc_is_integer (fun vs H Q E h => ?_) (fun cdv A outer s H vs Q E hr h => ?_)
  · obtain ⟨c, rfl, _⟩ := h
    rfl
  · obtain ⟨c, rfl, k⟩ := h
    refine ⟨_, (pss_one (ps_ret (pe_and (pe_callB (call_isiKK (K := K)) (by rfl) B.b_isinstance (by decide +kernel) (pa_cons (pv 0) (pa_cons (pe_bltn (v := .ty "int") (by rfl) B.b_int (by decide +kernel) rfl) pa_nil))) (pe_one (pe_not (pe_callB (call_isiKK (K := K)) (by rfl) B.b_isinstance (by decide +kernel) (pa_cons (pv 0) (pa_cons (pe_bltn (v := .ty "bool") (by rfl) B.b_bool (by decide +kernel) rfl) pa_nil)))))))), ?_⟩
    walk_at "go"
    exact k
theorem ok_l_bag_of {f : Addr} {fd : FuncData} (F : Fun K "_law_bag_of" "_law_bag_of" s_l_bag_of f fd) (B : Bl mg) : FnOk P w K mg base CX0 1 f fd ["_law_cell"] spBagOf := by
  refine F.ok sc_l_bag_of (fun vs H Q E h => ?_) (fun cdv A outer s H vs Q E hr h => ?_)
  · obtain ⟨c, rfl, _⟩ := h
    rfl
  · obtain ⟨c, rfl, k⟩ := h
    refine ⟨_, (pss_one (ps_ret (pe_lst (pa_cons (pe_callB (call_max2 rfl) (by rfl) B.b_max (by decide +kernel) (pa_cons pe_int (pa_cons (pe_op op_sub (pv 0) (pe_op op_pow pe_int pe_int)) pa_nil))) (pa_cons (pe_op op_add (pe_op op_mod (pe_callTy call_intI (by rfl) B.b_int (by decide +kernel) (pa_cons (pv 0) pa_nil)) pe_int) pe_int) (pa_cons (pe_op op_mod (pe_callTy call_intI (by rfl) B.b_int (by decide +kernel) (pa_cons (pe_op op_fdivW (pv 0) pe_int) pa_nil)) pe_int) pa_nil)))))), ?_⟩
    walk_at "go"
    intro p np
    exact k p _ np (Same.new0 np) ⟨_, _, _, upd_same, by omega, by omega, by omega⟩
theorem ok_l_pick {f : Addr} {fd : FuncData} (F : Fun K "_law_pick" "_law_pick" s_l_pick f fd) (B : Bl mg) : FnOk P w K mg base CX0 1 f fd ["_law_bag", "_law_many"] spPick := by
  refine F.ok sc_l_pick (fun vs H Q E h => ?_) (fun cdv A outer s H vs Q E hr h => ?_)
  · obtain ⟨a, n, rfl, _⟩ := h
    rfl
  · obtain ⟨a, n, rfl, ⟨x, y, z, hb, y0, y1, z0⟩, n0, n1, k⟩ := h
    have nl : n.natAbs.log2 < 9000 := log_small (Nat.lt_of_le_of_lt (by omega : n.natAbs ≤ 1000000) (by decide +kernel))
    refine ⟨_, (pss_cons (ps_if (pt_cmpR op_gt (pe_ix (ix_listK (K := K)) (pv 0) pe_int (fun _ _ => rfl)) pe_int (nomark _))
    (pss_cons (ps_set (i := 2) sc_l_pick.nd rfl (.inl rfl) (pe_op op_modN (pe_callTy call_intI (by rfl) B.b_int (by decide +kernel) (pa_cons (pe_ix (ix_listK (K := K)) (pv 0) pe_int (fun _ _ => rfl)) pa_nil)) (pv 1)))
    (pss_cons (ps_asg (pe_op op_fdivW (pe_ix (ix_listK (K := K)) (pv 0) pe_int (fun _ _ => rfl)) (pv 1)) (pg_sub (pv 0) pe_int set_list))
    (pss_one (ps_ret (pv 2)))))
    pss_nil)
    (pss_cons (ps_augS (pv 0) pe_int pg_list pe_int ip_add set_list)
    (pss_cons (ps_asg (pe_op op_mod (pe_callTy call_intI (by rfl) B.b_int (by decide +kernel) (pa_cons (pe_op op_add (pe_op op_mul (pe_ix (ix_listK (K := K)) (pv 0) pe_int (fun _ _ => rfl)) pe_int) (pe_op op_mul (pe_ix (ix_listK (K := K)) (pv 0) pe_int (fun _ _ => rfl)) pe_int)) pa_nil)) pe_int) (pg_sub (pv 0) pe_int set_list))
    (pss_one (ps_ret (pe_op op_modN (pe_callTy call_intI (by rfl) B.b_int (by decide +kernel) (pa_cons (pe_op op_fdiv (pe_op op_mod (pe_callTy call_intI (by rfl) B.b_int (by decide +kernel) (pa_cons (pe_op op_mul (pe_ix (ix_listK (K := K)) (pv 0) pe_int (fun _ _ => rfl)) (pe_ix (ix_listK (K := K)) (pv 0) pe_int (fun _ _ => rfl))) pa_nil)) pe_int) pe_int) pa_nil)) (pv 1))))))), ?_⟩
    walk_at "go"
    refine r_iteD (fun hx => ?_) (fun hx => ?_)
    · walk_at "go"
      refine k _ _ (Int.fmod_nonneg_of_pos _ n0) (Int.fmod_lt_of_pos _ n0) (But.self (But.refl _ _)) ⟨_, _, _, upd_same, y0, y1, z0⟩
    · walk_at "go"
      refine k _ _ (Int.fmod_nonneg_of_pos _ n0) (Int.fmod_lt_of_pos _ n0) (But.self (But.self (But.refl _ _))) ⟨_, _, _, upd_same, by omega, by omega, by omega⟩
def spGreat : Sp := fun vs H Q _ => ∃ (a : Addr) (d : Int), vs = [.ref a, .int d] ∧ Bag H a ∧ 0 ≤ d ∧ d ≤ 60 ∧ ∀ (r : Int) H', 0 ≤ r → r < 10 ^ d.toNat → But a H H' → Bag H' a → Q (.int r) H'
theorem ok_l_great_int {f : Addr} {fd : FuncData} (F : Fun K "_law_great_int" "_law_great_int" s_l_great_int f fd) (B : Bl mg) (h_l_pick : Has P w K mg base "_law_pick" 1 ["_law_bag", "_law_many"] spPick) : FnOk P w K mg base CX0 2 f fd ["_law_bag", "_law_digits"] spGreat := by
  refine F.ok sc_l_great_int (fun vs H Q E h => ?_) (fun cdv A outer s H vs Q E hr h => ?_)
  · obtain ⟨a, n, rfl, _⟩ := h
    rfl
  · obtain ⟨a, d, rfl, ba, d0, d1, k⟩ := h
    refine ⟨_, (pss_cons (ps_set (i := 2) sc_l_great_int.nd rfl (.inl rfl) pe_int)
    (pss_cons (ps_for PassesOwn.never rfl (pi_range1 (by rfl) B.b_range (pa_cons pe_int pa_nil)) (pg_name (i := 3) sc_l_great_int.nd rfl (.inl rfl))
    (pss_one (ps_set (i := 2) sc_l_great_int.nd rfl (.inl rfl) (pe_op op_add (pe_op op_mulW (pv 2) (pe_op op_pow pe_int pe_int)) (pe_callH h_l_pick (hr.mono (by first | decide | omega)) (pa_cons (pv 0) (pa_cons (pe_op op_pow pe_int pe_int) pa_nil)))))))
    (pss_cons (ps_set (i := 4) sc_l_great_int.nd rfl (.inl rfl) pe_int)
    (pss_cons (ps_for PassesOwn.never rfl (pi_range1 (by rfl) B.b_range (pa_cons (pv 1) pa_nil)) (pg_name (i := 3) sc_l_great_int.nd rfl (.inl rfl))
    (pss_one (ps_set (i := 4) sc_l_great_int.nd rfl (.inl rfl) (pe_op op_mul (pv 4) pe_int))))
    (pss_one (ps_ret (pe_op op_modN (pe_callTy call_intI (by rfl) B.b_int (by decide +kernel) (pa_cons (pv 2) pa_nil)) (pv 4)))))))), ?_⟩
    walk_at "go"
    refine u_for1 ?_ (fun i σ H' => ∃ (t : Int) (y : Option V), σ = [some (.ref a), some (.int d), some (.int t), y, none] ∧ 0 ≤ t ∧ t < 10 ^ (6 * i) ∧ But a H H' ∧ Bag H' a) ?_ ?_ ?_
    · omega
    · exact ⟨0, none, rfl, by omega, by decide, But.refl _ _, ba⟩
    · rintro i σ H' hi ⟨t, y, rfl, t0, t1, bu, bg⟩
      have t2 : t.natAbs < 2 ^ 100000 := by
        have h1 : (10 : Int) ^ (6 * i) ≤ 10 ^ 42 := ipow_mono (by decide) (by omega)
        refine Nat.lt_of_le_of_lt (m := 10 ^ 42) (by omega) (by decide +kernel)
      have mw : CMulW t (10 ^ Int.toNat 6) := mulW_of t2 (by decide +kernel)
      walk_at "go"
      refine u_pick bg (by decide) (by decide) fun r H2 r0 r1 bu2 b2 => ?_
      walk_at "go"
      refine ⟨_, some (.int i), rfl, ?_, ?_, bu.trans bu2, b2⟩
      · have : 0 ≤ t * 10 ^ Int.toNat 6 := Int.mul_nonneg t0 (by decide)
        omega
      · rw [show 6 * (i + 1) = 6 * i + 6 by omega, Int.pow_add]
        rw [show (10 : Int) ^ Int.toNat 6 = 1000000 by decide] at *
        rw [show (10 : Int) ^ 6 = 1000000 by decide]
        generalize (10 : Int) ^ (6 * i) = X at *
        omega
    · rintro σ H' ⟨t, y, rfl, t0, t1, bu, bg⟩
      walk_at "go"
      refine u_for1 ?_ (fun i σ H2 => ∃ (y : Option V), σ = [some (.ref a), some (.int d), some (.int t), y, some (.int (10 ^ i))] ∧ H2 = H') ?_ ?_ ?_
      · omega
      · exact ⟨y, rfl, rfl⟩
      · rintro i σ H2 hi ⟨y, rfl, rfl⟩
        walk_at "go"
        exact ⟨some (.int i), by rw [Int.pow_succ]; rfl, rfl⟩
      · rintro σ H2 ⟨y, rfl, rfl⟩
        have hp : (0 : Int) < 10 ^ d.toNat := Int.pow_pos (by decide)
        have hp2 : (10 : Int) ^ d.toNat ≠ 0 := by omega
        walk_at "go"
        exact k _ _ (Int.fmod_nonneg_of_pos _ hp) (Int.fmod_lt_of_pos _ hp) bu bg
theorem ok_l_is_int {f : Addr} {fd : FuncData} (F : Fun K "_law_is_int" "_law_is_int" s_l_is_int f fd) (B : Bl mg) : FnOk P w K mg base CX0 1 f fd ["_law_thing"] spIsInt := by
  refine F.ok sc_l_is_int (fun vs H Q E h => ?_) (fun cdv A outer s H vs Q E hr h => ?_)
  · obtain ⟨c, rfl, _⟩ := h
    rfl
  · obtain ⟨c, rfl, k⟩ := h
    refine ⟨_, (pss_one (ps_ret (pe_and (pe_callB (call_isiKK (K := K)) (by rfl) B.b_isinstance (by decide +kernel) (pa_cons (pv 0) (pa_cons (pe_bltn (v := .ty "int") (by rfl) B.b_int (by decide +kernel) rfl) pa_nil))) (pe_one (pe_not (pe_callB (call_isiKK (K := K)) (by rfl) B.b_isinstance (by decide +kernel) (pa_cons (pv 0) (pa_cons (pe_bltn (v := .ty "bool") (by rfl) B.b_bool (by decide +kernel) rfl) pa_nil)))))))), ?_⟩
    walk_at "go"
    exact k
end
end My

set_option Elab.async false
set_option linter.all false
set_option maxRecDepth 100000
namespace My
open PySem PySem.Spec PyProof.Rows L2
/-! ### methods of own classes, by their names -/
structure HasM (P : Program) (w : World) (K : PySem.W.Frag) (mg : Str → Option Value) (base : Heap) (C : Addr) (m : Str) (k : Nat) (ps : List Str) (sp : Sp) : Prop where
  ex : ∃ f fd, FnOk P w K mg base CX0 k f fd ps sp ∧ Meth K C m f ∧ Binds K fd ps []
theorem HasM.mono {P : Program} {w : World} {K : PySem.W.Frag} {mg : Str → Option Value} {base : Heap} {C : Addr} {m : Str} {j k : Nat} {ps : List Str} {sp : Sp} (h : HasM P w K mg base C m j ps sp) (hk : j ≤ k) : HasM P w K mg base C m k ps sp := by
  obtain ⟨f, fd, F, a, b⟩ := h.ex
  exact ⟨f, fd, F.mono hk, a, b⟩
section
variable {X : Cx} {pins : List (Addr × Obj)} {σ : L2.St} {H : Hp} {s : Shared} {Q : VK} {C : Addr} {m : Str} {k : Nat} {ps : List Str} {sp : Sp} {f : Addr} {fd : FuncData}
theorem run_m (F : FnOk X.prog X.w X.K X.mg X.base CX0 k f fd ps sp) (b : Binds X.K fd ps []) (hr : Room k X.A) (I : Inv X pins σ H s) {us : List Value} {vs : List V} (r : Vals vs us) (q : sp vs H Q E0) : wpAny (model X.prog X.w) X.A (call (.ref f) us) (EP X pins σ Q) X.xe s :=
  run_fn F hr b .nil pass0 I r (by rw [List.append_nil]; exact q)
theorem run_m1 (F : FnOk X.prog X.w X.K X.mg X.base CX0 k f fd ps sp) (b : Binds X.K fd ps []) (hr : Room (k + 1) X.A) (I : Inv X pins σ H s) {us : List Value} {vs : List V} (r : Vals vs us) (q : sp vs H Q E0) : wpAny (model X.prog X.w) X.A.in1 (call (.ref f) us) (EP X pins σ Q) X.xe s := by
  have hl : us.length = ps.length := by rw [← r.length]; exact F.len _ _ _ _ q
  refine wpAny_call (codeAny_mono (F.run X.A.in1 X.stack s H ⟨us, []⟩ us vs Q E0 hr.in1 I.env0.in1 (by simpa using b s us I.kIn (by simpa using hl)) r q) fun r s' hq => ?_)
  cases r with
  | error e => exact (pass0 (X := X)) pins σ H s e s' I hq
  | ok fl =>
    cases fl with
    | ret u => exact I.after hq
    | next => exact False.elim hq
    | brk => exact False.elim hq
    | cont => exact False.elim hq
/-- x op y, both instances of the class at C -/
def rOwn2 (C : Addr) (sp : Sp) : R2 := fun x y H Q => ∃ a dx fs b dy gs, x = .ref a ∧ y = .ref b ∧ H a = some (.ins C dx fs) ∧ H b = some (.ins C dy gs) ∧ sp [x, y] H Q E0
theorem op_own2 {op : Operator} (h : HasM X.prog X.w X.K X.mg X.base C m k ps sp) (hc : PySem.W.selfFirst X.K C = true) (hr : Room k X.A) (hm : PySem.dunder op.info.2 = m := by rfl) : OpR X (binaryOp op) (rOwn2 C sp) := by
  intro pins s σ H x y v u Q I rx ry q
  obtain ⟨f, fd, F, M, b⟩ := h.ex
  obtain ⟨a, dx, fs, a', dy, gs, rfl, rfl, ha, hb, q⟩ := q
  cases rx
  cases ry
  obtain ⟨mA, O, _⟩ := ins_get I.hok ha
  obtain ⟨od, J, _⟩ := O.look
  obtain ⟨mB, O', _⟩ := ins_get I.hok hb
  obtain ⟨od', J', _⟩ := O'.look
  obtain ⟨m', hF⟩ := I.fr
  refine PySem.W.binop_K hF I.ok.mod.kin J J'.type hc (by rw [hm]; exact M.at_) M.fn ?_
  exact wpAny_mono (run_m (vs := [.ref a, .ref a']) F b hr I (.cons rfl (.cons rfl .nil)) q) (fun w s' ⟨z, H', I', rz, qz⟩ => SlX.cmpback rz ⟨z, H', I', rz, qz⟩) fun _ _ x => x
/-! ### the types of all values, own errors too -/
structure ExcTy (K : PySem.W.Frag) (D : Addr) : Prop where
  ga : PySem.W.findIn K (.ref D) "__getattribute__" = some (some (.builtin "BaseException.__getattribute__"))
  gt : PySem.W.findIn K (.ref D) "__getattr__" = some none
  sub : PySem.W.subIn K (.ref D) (.type "BaseException") = some true
  dct : PySem.W.hasDictIn K D = true
  cl : PySem.W.findIn K (.ref D) "__class__" = some (some (.builtin "object.__class__"))
  cn : PySem.W.specialIn K (.builtin "object.__class__") "__get__" = some (some (.builtin "getset_descriptor.__get__"))
  ct : PySem.W.takesIn K (.builtin "object.__class__") = some true
  mr : PySem.W.mroIn K D (.type "object") = some true
/-- a caught exception, held as a value -/
def ExV (cls : Value) (d : Option Addr) (a : Addr) : HO := .ext fun h => ∃ (oe : Obj) (vs : Array Value), h.get? a = some oe ∧ Zc cls d oe ∧ oe.data = .fields vs
inductive TyE (K : PySem.W.Frag) (H : Hp) : V → Value → Prop where
  | x {y : V} {t : Value} (h : TyX K H y t) : TyE K H y t
  | exc {p D : Addr} (h : H p = some (ExO (.ref D) p)) (F : ExcTy K D) : TyE K H (.ref p) (.ref D)
  | exv {p D : Addr} (h : H p = some (ExV (.ref D) none p)) (F : ExcTy K D) : TyE K H (.ref p) (.ref D)
theorem kit_ofE {y : V} {u t : Value} (I : Inv X pins σ H s) (ry : RelV y u) (ty : TyE X.K H y t) : ∃ P : Heap → Prop, PySem.W.KitX X.K u t P ∧ P s.heap ∧ u ≠ .builtin "__main__.__loader__#opaque" := by
  cases ty with
  | x h => exact kit_of I ry h
  | @exc p D h F =>
    cases ry
    obtain ⟨⟨oe, vs, e, z, d, _⟩, _, _⟩ := I.hok p _ h
    obtain ⟨z1, z2⟩ := z
    have J : PySem.W.InstAt s.heap p oe D none := ⟨e, z1, by unfold PySem.W.notCls; rw [d], by rw [z2]; trivial⟩
    exact ⟨_, PySem.W.handS_kitx_exc F.ga F.gt F.sub F.dct F.cl F.cn F.ct F.mr, J, fun z => nomatch z⟩
  | @exv p D h F =>
    cases ry
    obtain ⟨⟨oe, vs, e, z, d⟩, _, _⟩ := I.hok p _ h
    obtain ⟨z1, z2⟩ := z
    have J : PySem.W.InstAt s.heap p oe D none := ⟨e, z1, by unfold PySem.W.notCls; rw [d], by rw [z2]; trivial⟩
    exact ⟨_, PySem.W.handS_kitx_exc F.ga F.gt F.sub F.dct F.cl F.cn F.ct F.mr, J, fun z => nomatch z⟩
/-- isinstance(x, c), one class -/
def rIsiE (K : PySem.W.Frag) : List V → Hp → VK → Prop := fun xs H Q => ∃ (x c : V) (t u : Value) (b : Bool), xs = [x, c] ∧ ClsV c u ∧ TyE K H x t ∧ PySem.W.kitOne K t u = some b ∧ Q (.bl b) H
theorem call_isiE : CallR X (.builtin "isinstance") (rIsiE X.K) := by
  intro pins s σ H xs us Q I r h
  obtain ⟨x, c, t, u, b, rfl, hc, ty, e, q⟩ := h
  obtain ⟨v, w, rfl, rv, rw'⟩ := vals2 r
  cases hc.eq rw'
  obtain ⟨P, k, hP, ne⟩ := kit_ofE I rv ty
  exact PySem.W.kia_one k I.kIn hP e ne fun tk => ⟨.bl b, H, I.tok _, rfl, q⟩
/-- isinstance(x, (c1, c2, ..)) -/
def rIsiTE (K : PySem.W.Frag) : List V → Hp → VK → Prop := fun xs H Q => ∃ (x : V) (tp : Addr) (cs : List V) (t : Value) (us : List Value) (b : Bool), xs = [x, .ref tp] ∧ H tp = some (.tup cs) ∧ Paired ClsV cs us ∧ TyE K H x t ∧ PySem.W.kitAny K t us = some b ∧ Q (.bl b) H
theorem call_isiTE : CallR X (.builtin "isinstance") (rIsiTE X.K) := by
  intro pins s σ H xs us Q I r h
  obtain ⟨x, tp, cs, t, ws, b, rfl, hT, k, ty, e, q⟩ := h
  obtain ⟨u1, u2, rfl, r1, r2⟩ := vals2 r
  cases (show u2 = Value.ref tp from r2)
  obtain ⟨P, Z, p, hx⟩ := kit_ofE I r1 ty
  obtain ⟨_, its, rv, o, h1, h2, n, h3⟩ := (show ObjOk X.prog X.w H s.heap tp (.tup cs) from I.hok tp _ hT)
  have e3 := ClsV.all k rv
  subst e3
  obtain ⟨oc, od, dt, sl⟩ := o
  simp only at h2 h3
  subst h2 h3
  exact PySem.W.kia_tup Z I.kIn p h1 e hx fun tk => ⟨.bl b, H, I.tok tk, rfl, q⟩
/-- x == y, x an instance of the class at C -/
def rOwnEq (K : PySem.W.Frag) (C : Addr) (sp : Sp) : R2 := fun x y H Q => ∃ a dx fs t, x = .ref a ∧ H a = some (.ins C dx fs) ∧ TyE K H y t ∧ PySem.W.notFirst K C t = true ∧ sp [x, y] H Q E0
theorem op_eqOwn (h : HasM X.prog X.w X.K X.mg X.base C "__eq__" k ps sp) (hr : Room k X.A) : OpR X (compareOp .Eq) (rOwnEq X.K C sp) := by
  intro pins s σ H x y v u Q I rx ry q
  obtain ⟨f, fd, F, M, b⟩ := h.ex
  obtain ⟨a, dx, fs, t, rfl, ha, ty, hn, q⟩ := q
  cases rx
  obtain ⟨mA, O, _⟩ := ins_get I.hok ha
  obtain ⟨od, J, _⟩ := O.look
  obtain ⟨m', hF⟩ := I.fr
  obtain ⟨P, k, hP, _⟩ := kit_ofE I ry ty
  refine PySem.W.cmp_K (op := .Eq) (tb := t) hr.units0 hF I.ok.mod.kin J (k.ty _ _ I.kIn hP) hn M.at_ M.fn ?_
  exact wpAny_mono (run_m (vs := [.ref a, y]) F b hr I (.cons rfl (.cons ry .nil)) q) (fun w s' ⟨z, H', I', rz, qz⟩ => SlX.cmpback rz ⟨z, H', I', rz, qz⟩) fun _ _ x => x
/-- len(x) -/
def rLenOwn (C : Addr) (sp : Sp) : List V → Hp → VK → Prop := fun xs H Q => ∃ a dx fs, xs = [.ref a] ∧ H a = some (.ins C dx fs) ∧ sp [.ref a] H (fun v H' => ∃ n : Nat, v = .int n ∧ n ≤ 16000000 ∧ Q v H') E0
theorem call_lenOwn (h : HasM X.prog X.w X.K X.mg X.base C "__len__" k ps sp) (hr : Room (k + 1) X.A) : CallR X (.builtin "len") (rLenOwn C sp) := by
  intro pins s σ H xs us Q I r q
  obtain ⟨f, fd, F, M, b⟩ := h.ex
  obtain ⟨a, dx, fs, rfl, ha, q⟩ := q
  obtain ⟨u, rfl, ru⟩ := r.one
  cases ru
  obtain ⟨mA, O, _⟩ := ins_get I.hok ha
  obtain ⟨od, J, _⟩ := O.look
  obtain ⟨m', hF⟩ := I.fr
  refine PySem.W.len_K hF I.ok.mod.kin J M.at_ M.fn ?_
  refine wpAny_mono (run_m1 (vs := [.ref a]) F b hr I (.cons rfl .nil) q) (fun w s' z => ?_) fun _ _ x => x
  obtain ⟨z, H', I', rz, n, rfl, hn, qz⟩ := z
  obtain ⟨t, rfl⟩ := (show ∃ t, w = Value.int n t from rz)
  exact ⟨⟨by omega, by omega⟩, .int n, H', I'.tok _, ⟨_, rfl⟩, qz⟩
/-- -x, ~x -/
def rOwn1 (C : Addr) (sp : Sp) : V → Hp → VK → Prop := fun x H Q => ∃ a dx fs, x = .ref a ∧ H a = some (.ins C dx fs) ∧ sp [x] H Q E0
theorem un_negOwn (h : HasM X.prog X.w X.K X.mg X.base C "__neg__" k ps sp) (hr : Room k X.A) : UnR X (unaryOp .USub) (rOwn1 C sp) := by
  intro pins s σ H x v Q I rx q
  obtain ⟨f, fd, F, M, b⟩ := h.ex
  obtain ⟨a, dx, fs, rfl, ha, q⟩ := q
  cases rx
  obtain ⟨mA, O, _⟩ := ins_get I.hok ha
  obtain ⟨od, J, _⟩ := O.look
  obtain ⟨m', hF⟩ := I.fr
  exact PySem.W.ksp_neg hF I.ok.mod.kin J M.at_ M.fn (run_m (vs := [.ref a]) F b hr I (.cons rfl .nil) q)
theorem un_invOwn (h : HasM X.prog X.w X.K X.mg X.base C "__invert__" k ps sp) (hr : Room k X.A) : UnR X (unaryOp .Invert) (rOwn1 C sp) := by
  intro pins s σ H x v Q I rx q
  obtain ⟨f, fd, F, M, b⟩ := h.ex
  obtain ⟨a, dx, fs, rfl, ha, q⟩ := q
  cases rx
  obtain ⟨mA, O, _⟩ := ins_get I.hok ha
  obtain ⟨od, J, _⟩ := O.look
  obtain ⟨m', hF⟩ := I.fr
  exact PySem.W.ksp_inv hF I.ok.mod.kin J M.at_ M.fn (run_m (vs := [.ref a]) F b hr I (.cons rfl .nil) q)
/-- x op n, x an instance of the class at C, n an int -/
structure IntOp (K : PySem.W.Frag) (C : Addr) (nm : String) : Prop where
  rc : ∃ rc, PySem.W.findIn K (.ref C) (dunderR nm) = some rc ∧ (rc = none ∨ ∃ g : Addr, rc = some (.ref g))
  fo : ∃ fo, PySem.W.findIn K (.type "int") (PySem.dunder nm) = some fo
  ro : ∃ ro, PySem.W.findIn K (.type "int") (dunderR nm) = some ro
  sub : PySem.W.subIn K (.type "int") (.ref C) = some false
def rOwnI (C : Addr) (sp : Sp) : R2 := fun x y H Q => ∃ a dx fs i, x = .ref a ∧ y = .int i ∧ H a = some (.ins C dx fs) ∧ sp [x, y] H Q E0
theorem op_ownI {op : Operator} (h : HasM X.prog X.w X.K X.mg X.base C m k ps sp) (hc : PySem.W.selfFirst X.K C = true) (N : IntOp X.K C op.info.2) (hr : Room k X.A) (hm : PySem.dunder op.info.2 = m := by rfl) : OpR X (binaryOp op) (rOwnI C sp) := by
  intro pins s σ H x y v u Q I rx ry q
  obtain ⟨f, fd, F, M, b⟩ := h.ex
  obtain ⟨a, dx, fs, i, rfl, rfl, ha, q⟩ := q
  cases rx
  obtain ⟨t, rfl⟩ := ry
  obtain ⟨mA, O, _⟩ := ins_get I.hok ha
  obtain ⟨od, J, _⟩ := O.look
  obtain ⟨m', hF⟩ := I.fr
  obtain ⟨rc, r1, r2⟩ := N.rc
  obtain ⟨fo, f1⟩ := N.fo
  obtain ⟨ro, o1⟩ := N.ro
  refine PySem.W.ksp_binT (T := "int") hF I.ok.mod.kin J rfl hc (by rw [hm]; exact M.at_) M.fn r1 r2 f1 o1 N.sub ?_
  exact wpAny_mono (run_m (vs := [.ref a, .int i]) F b hr I (.cons rfl (.cons ⟨t, rfl⟩ .nil)) q) (fun w s' ⟨z, H', I', rz, qz⟩ => SlX.cmpback rz ⟨z, H', I', rz, qz⟩) fun _ _ x => x
end
end My

set_option Elab.async false
set_option linter.all false
set_option maxRecDepth 100000
namespace My
open PySem PySem.Spec PyProof.Rows L2
/-! ### a def called with fewer values than it has parameters -/
structure HasD (P : Program) (w : World) (K : PySem.W.Frag) (mg : Str → Option Value) (base : Heap) (x : Str) (k : Nat) (ps : List Str) (sp : Sp) (dvs : List V) : Prop where
  ex : ∃ f fd ds, FnOk P w K mg base CX0 k f fd ps sp ∧ mg x = some (.ref f) ∧ PySem.W.keepIn K (.ref f) = true ∧ Binds K fd ps ds ∧ Vals dvs ds
section
variable {X : Cx} {k : Nat} {ps : List Str} {sp : Sp} {x : Str} {p pos : Pos} {e : Expr} {es : List Expr} {t : TA} {dvs : List V}
theorem pe_callHD (h : HasD X.prog X.w X.K X.mg X.base x k ps sp dvs) (hr : Room k X.A) (ha : PA X (e :: es) t) (hg : Gl X x := by rfl) (hdb : (x == ("__debug__" : Str)) = false := by decide)
   (hs : starEach (e :: es) X.env = (false, eval e X.env) :: starEach es X.env := by rfl) (hplain : (backTo pos (starEach es X.env)).any (·.1) = false := by rfl) :
   PE X (.Call (.Name x p) (e :: es) [] pos) (tCall sp dvs E0 t) := by
  obtain ⟨f, fd, ds, F, a, b, c, d⟩ := h.ex
  exact pe_call F hr hg a b c d pass0 ha hdb hs hplain
end
theorem r_callD {sp : Sp} {E : XK} {t : TA} {d : V} {ds : List V} {σ : L2.St} {H : Hp} {Q : VK} (q : t σ H fun vs H1 => sp (vs ++ d :: ds) H1 Q E) : tCall sp (d :: ds) E t σ H Q := q
theorem r_rep {l : Addr} {k : Int} {xs : List V} {H : Hp} {Q : VK} (h : H l = some (.lst xs)) (h1 : 0 ≤ k) (h2 : k < 2 ^ 63) (hz : xs.length * k.toNat ≤ 16000000)
    (q : ∀ p, H p = none → Q (.ref p) (upd H p (.lst (List.replicate k.toNat xs).flatten))) : rRep (.ref l) (.int k) H Q := ⟨l, k, xs, rfl, rfl, h, by omega, h2, Nat.le_trans hz (by decide), q⟩
theorem PrAt.times {H : Hp} {p : Prog} {xs : List V} (h : PrAt H p xs) : ∀ n, PrAt H (Prog.times n p) (List.replicate n xs).flatten
  | 0 => rfl
  | n + 1 => by
    rw [List.replicate_succ, List.flatten_cons]
    exact h.app (h.times n)
def rAbs : List V → Hp → VK → Prop := fun xs H Q => ∃ i, xs = [.int i] ∧ Q (.int (if i < 0 then -i else i)) H
theorem call_absA {X : Cx} : CallR X (.builtin "abs") rAbs := call_abs
theorem r_abs {i : Int} {H : Hp} {Q : VK} (q : Q (.int (if i < 0 then -i else i)) H) : rAbs [.int i] H Q := ⟨i, rfl, q⟩
section
variable {σ : L2.St} {H : Hp} {K : PySem.W.Frag} {D : Ends} {tb : TS} {g : TG} {a : Addr} {xs : List V} {p : Prog}
/-- for command in a list of commands -/
theorem u_forPrL (h : H a = some (.lst xs)) (hp : PrAt H p xs) (I : Prog → L2.St → Hp → Prop) (h0 : I p σ H) (hk : ∀ r σ H', I r σ H' → Tk H H' ∧ H' a = some (.lst xs))
    (hs : ∀ x r r' σ H', First H' r x r' → I r σ H' → g x σ H' fun σ2 H2 => tb { D with nx := I r', ct := I r', bk := D.nx } σ2 H2) (hd : ∀ σ H', I .nil σ H' → D.nx σ H') :
    ∃ b, V.ref a = .ref b ∧ (∃ xs, SqL K H b xs) ∧ ∃ W : Nat → Nat → L2.St → Hp → Prop, (∃ m, W 0 m σ H) ∧ ∀ i m σ H, W i m σ H →
      ((Itl K b).stop i H ∧ D.nx σ H) ∨ ((Itl K b).go i H ∧ ∃ N : L2.St → Hp → Prop, (∀ σ' H', N σ' H' → ∃ m', m' < m ∧ W (i + 1) m' σ' H') ∧ ∀ x H', (Itl K b).yld i H x H' → g x σ H' fun σ2 H2 => tb { D with nx := N, ct := N, bk := D.nx } σ2 H2) := by
  refine ⟨a, rfl, ⟨xs, .of h⟩, ⟨fun i m σ' H' => m = xs.length - i ∧ i ≤ xs.length ∧ ∃ r, PrAt H r (xs.drop i) ∧ I r σ' H', ⟨xs.length, by simp, Nat.zero_le _, p, hp, h0⟩, ?_⟩⟩
  rintro i m σ' H' ⟨rfl, hi, r, hr, ir⟩
  have hT : SqL K H' a xs := .of (hk _ _ _ ir).2
  by_cases hlt : i < xs.length
  · have hx : xs[i]? = some xs[i] := List.getElem?_eq_getElem hlt
    rw [drop_cons hx] at hr
    obtain ⟨r', f, hr'⟩ := hr.first
    refine .inr ⟨⟨xs, xs[i], hT, hx⟩, I r', fun σ2 H2 q => ⟨_, by omega, rfl, hlt, r', hr', q⟩, fun x H2 hy => ?_⟩
    obtain ⟨rfl, fx⟩ := hy
    have ex : x = xs[i] := Option.some.inj ((fx xs hT).symm.trans hx)
    subst ex
    exact hs _ r r' _ _ (f.tk (hk _ _ _ ir).1) ir
  · have e : i = xs.length := by omega
    subst e
    rw [List.drop_length] at hr
    have hn : r = .nil := by
      cases r with
      | nil => rfl
      | step w n r => obtain ⟨c, zs, e, _⟩ := hr; cases e
      | turn k r => obtain ⟨c, zs, e, _⟩ := hr; cases e
      | rep k b r => obtain ⟨c, q, zs, ws, e, _⟩ := hr; cases e
      | mir b r => obtain ⟨c, q, zs, ws, e, _⟩ := hr; cases e
    subst hn
    exact .inl ⟨⟨xs, hT, Nat.le_refl _⟩, hd _ _ ir⟩
end
section
variable {P : Program} {w : World} {K : PySem.W.Frag} {mg : Str → Option Value} {base : Heap} {x qual : Str} {params : Arguments} {body : List Stmt} {scope : Scope} {dvs : List V} {kws : List (Str × V)} {f : Addr} {fd : FuncData}
theorem okD {N ps : List Str} {k : Nat} {sp : Sp} (F : FunD K x qual params body scope dvs kws f fd) (S : FnScope N ps scope) (len : ∀ vs H Q E, sp vs H Q E → vs.length = ps.length)
    (hbody : ∀ (cdv : Value) (A : Around) (outer : List Env) (s : Shared) (H : Hp) (vs : List V) (Q : VK) (E : XK), Room k (A.deeper (envOfC qual scope s.heap.objs.size f cdv)) → sp vs H Q E →
      ∃ t, PSs (cxOf CX0 P w K mg base N qual scope f cdv A outer s H E).nox body t ∧ t { nx := fun _ H' => Q .non H', rt := Q } (start N vs) H) : FnOk P w K mg base CX0 (k + 1) f fd ps sp :=
  F.ok S len fun cdv A outer s H vs Q E hr h => let ⟨t, h, q⟩ := hbody cdv A outer s H vs Q E hr h; ⟨t, h.nox, q⟩
end
/-! ### short programs -/
namespace Prog
/-- no heading on the way of a flat program leaves -12 .. 12 -/
def wayOk : Int → Prog → Bool
  | _, .nil => true
  | n, .step _ _ r => wayOk n r
  | n, .turn k r => if n + k > 12 ∨ n + k < -12 then false else wayOk (n + k) r
  | _, .rep _ _ _ => true
  | _, .mir _ _ => true
def short (p : Prog) : Bool := if p.size > 200 then false else wayOk 0 (unroll 1 p)
end Prog
end My

set_option Elab.async false
set_option linter.all false
set_option maxRecDepth 100000
namespace My
open PySem PySem.Spec PyProof.Rows L2
def strRep (z : Str) (n : Nat) : Str := ⟨(List.replicate n z.cps).foldl (· ++ ·) #[]⟩
def rMulS : R2 := fun x y H Q => ∃ (z : Str) (n : Int), x = .str z ∧ y = .int n ∧ (2 ≤ n ∧ n ≤ 100) ∧ (1 ≤ z.length ∧ z.length ≤ 100) ∧ (strRep z n.toNat).length ≤ 100000 ∧ Q (.str (strRep z n.toNat)) H
theorem op_mulS {X : Cx} : OpR X (binaryOp .Mult) rMulS := by
  intro pins s σ H x y v u Q I rx ry h
  obtain ⟨z, n, rfl, rfl, ⟨n1, n2⟩, ⟨z1, z2⟩, hl, q⟩ := h
  obtain ⟨t, rfl⟩ := rx
  obtain ⟨t', rfl⟩ := ry
  have e1 : ¬ n < 1 := by omega
  have e2 : ¬ (n == 1 || z.length == 0) = true := by simp; omega
  refine P.mul_str (by rw [decide_eq_false (by omega), decide_eq_false (by omega)]; rfl) (fun _ _ => ?_) (fun _ _ => ?_) ?_
  · have h1 : (100 : Int) ≤ (2 ^ 63 - 1) / n := Int.le_ediv_of_mul_le (by omega) (by omega)
    omega
  · have h1 : z.length * n.toNat ≤ 100 * 100 := Nat.mul_le_mul z2 (by omega)
    exact decide_eq_false (by rw [sizeLine_eq]; omega)
  · rw [if_neg e1, if_neg e2]
    exact ⟨small_of hl, .str (strRep z n.toNat), H, I.tok _, ⟨_, rfl⟩, q⟩
theorem r_mulS {z : Str} {n : Int} {H : Hp} {Q : VK} (h1 : 2 ≤ n ∧ n ≤ 100) (h2 : 1 ≤ z.length ∧ z.length ≤ 100) (h3 : (strRep z n.toNat).length ≤ 100000) (q : Q (.str (strRep z n.toNat)) H) : rMulS (.str z) (.int n) H Q := ⟨z, n, rfl, rfl, h1, h2, h3, q⟩
theorem r_slA {K : PySem.W.Frag} {p : Addr} {xs : List V} {lo hi : Option Int} {H : Hp} {Q : VK} (h : SqT K H p xs) (q1 : HT.sIx xs.length 0 lo = 0 ∧ HT.sIx xs.length xs.length hi = xs.length → Q (.ref p) H)
   (q2 : ¬ (HT.sIx xs.length 0 lo = 0 ∧ HT.sIx xs.length xs.length hi = xs.length) → ∀ c, H c = none → Q (.ref c) (upd H c (.tup (cutV xs lo hi)))) : rSlA K (.ref p) lo hi H Q := ⟨p, xs, rfl, h, q1, q2⟩
theorem r_slAT {K : PySem.W.Frag} {p : Addr} {xs : List V} {m : Int} {n : Nat} {H : Hp} {Q : VK} (h : H p = some (.tup xs)) (e : m = (n : Int)) (q : ∀ c H', Same H H' → H' c = some (.tup (xs.take n)) → Q (.ref c) H') : rSlA K (.ref p) none (some m) H Q := by
  subst e
  refine r_slA (.of h) (fun hw => ?_) (fun _ c hc => ?_)
  · have h2 := hw.2
    rw [HT.sIx_nat] at h2
    exact q p H (Same.refl _) (by rw [List.take_of_length_le (by omega)]; exact h)
  · exact q c _ (Same.new0 hc) (by rw [cut_take]; exact upd_same)
end My

set_option Elab.async false
set_option linter.all false
set_option maxRecDepth 100000
namespace My
open PySem PySem.Spec PyProof.Rows L2
section
variable {H : Hp} {Q : VK} {K : PySem.W.Frag}
theorem r_catAT {a b : Addr} {xs ys : List V} (h : H a = some (.tup xs)) (h' : H b = some (.tup ys)) (l : xs.length + ys.length ≤ 100000) (q : ∀ c H', Same H H' → H' c = some (.tup (xs ++ ys)) → Q (.ref c) H') : rCatA K (.ref a) (.ref b) H Q := by
  refine ⟨a, b, xs, ys, rfl, rfl, .of h, .of h', small_of l, fun e => ?_, fun _ e => ?_, fun _ _ c hc => q c _ (Same.new0 hc) upd_same⟩
  · subst e
    exact q b H (Same.refl _) h'
  · subst e
    exact q a H (Same.refl _) (by rw [List.append_nil]; exact h)
def rAddS : R2 := fun x y H Q => ∃ i j, x = .str i ∧ y = .str j ∧ i.length + j.length ≤ sizeLine ∧ Q (.str (i ++ j)) H
theorem op_addS {X : Cx} : OpR X (binaryOp .Add) rAddS := op_add_str
theorem r_addS {i j : Str} (l : i.length + j.length ≤ 100000) (q : Q (.str (i ++ j)) H) : rAddS (.str i) (.str j) H Q := ⟨i, j, rfl, rfl, small_of l, q⟩
def rIsN : R2 := fun x y H Q => y = .non ∧ Q (.bl (decide (x = .non))) H
theorem op_isNN {X : Cx} : OpR X (compareOp .Is) rIsN := op_isN
theorem r_isN {n : Int} (q : Q (.bl false) H) : rIsN (.int n) .non H Q := ⟨rfl, by rw [decide_eq_false (by intro h; cases h)]; exact q⟩
theorem r_isNN (q : Q (.bl true) H) : rIsN .non .non H Q := ⟨rfl, by rw [decide_eq_true rfl]; exact q⟩
end
namespace Prog
theorem head_flat {L : Nat} {C T : Int} : ∀ {p : Prog}, WfL L C T 0 p → p.head = p.turns.sum
  | .nil, _ => by rw [head, turns]; rfl
  | .step w n r, h => by rw [head, turns]; exact head_flat (WfL.step_iff.mp h).2.2
  | .turn k r, h => by rw [head, turns, List.sum_cons, head_flat (WfL.turn_iff.mp h).2]
  | .rep _ _ _, h => h.elim
  | .mir _ _, h => h.elim
end Prog
end My

set_option Elab.async false
set_option linter.all false
set_option maxRecDepth 100000
set_option maxHeartbeats 2000000
namespace My
open PySem PySem.Spec PyProof.Rows L2
/-! ### a caught exception, held as a value -/
theorem exV_ok {P : Program} {w : World} {H : Hp} {h : Heap} {a : Addr} {cls : Value} {d : Option Addr} {oe : Obj} {vs : Array Value} (e : h.get? a = some oe) (z : Zc cls d oe) (q : oe.data = .fields vs) : ObjOk P w H h a (ExV cls d a) :=
  ⟨⟨oe, vs, e, z, q⟩, ⟨oe, e⟩, fun _ _ ⟨o, v, q, r⟩ k => ⟨o, v, k o q, r⟩⟩
theorem Un.hold {fs ex : List Addr} {H0 H : Hp} {h0 h : Heap} {a : Addr} {o : HO} (u : Un fs ex H0 H h0 h) (n0 : h0.get? a = none) (n : H a = none) : Un fs ex H0 (upd H a o) h0 h where
  keep := u.keep
  slot := u.slot
  free := fun b ob e nb hx => by rw [upd_ne (fun z => by rw [z, n0] at e; cases e)]; exact u.free b ob e nb hx
  there := u.there
  tups := fun b xs e => (upd_ne (ne_of_none (u.tups b xs e) n)).trans (u.tups b xs e)
  frzs := fun b ob x e => (upd_ne (ne_of_none (u.frzs b ob x e) n)).trans (u.frzs b ob x e)
  tbls := fun b ps e => let ⟨m, q⟩ := u.tbls b ps e; ⟨m, (upd_ne (ne_of_none q n)).trans q⟩
theorem Inv.hold {X : Cx} {pins : List (Addr × Obj)} {σ : L2.St} {H : Hp} {s : Shared} {a : Addr} {oe : Obj} {vs : Array Value} {cls : Value} {d : Option Addr} (I : Inv X ((a, oe) :: pins) σ H s) (hz : Zc cls d oe) (hd : oe.data = .fields vs) (n0 : X.s_0.heap.get? a = none) (np : ∀ p ∈ X.pn ++ pins, p.1 ≠ a) :
    Inv X pins σ (upd H a (ExV cls d a)) s := by
  obtain ⟨ea, na, nl, nf, nc⟩ := I.pin (a, oe) (List.mem_append_right _ List.mem_cons_self)
  refine ⟨I.ok, I.os, I.bare, Un.hold I.base n0 na, I.loc, I.cell, (upd_ne (Ne.symm nl)).trans I.free, fun x c e => ?_, fun p hp => ?_, ?_, I.len⟩
  · have hc : c ≠ a := fun z => by
      obtain ⟨v, o, ho, hd'⟩ := I.cell x c e
      rw [z, ea] at ho
      cases ho
      exact nc v hd'
    exact (upd_ne hc).trans (I.freeC x c e)
  · have hm : p ∈ X.pn ++ (a, oe) :: pins := by
      rcases List.mem_append.mp hp with h | h
      · exact List.mem_append_left _ h
      · exact List.mem_append_right _ (List.mem_cons_of_mem _ h)
    obtain ⟨e1, e2, e3⟩ := I.pin p hm
    exact ⟨e1, (upd_ne (np p hp)).trans e2, e3⟩
  · exact HOk.laidN I.hok (fun _ _ q => q) na (exV_ok ea hz hd)
/-- what the clause 'except x as n' wishes of an exception of the body: slot i is n's; behind the suite the exception is held -/
def wHeld (K : PySem.W.Frag) (c : Value) (i : Nat) (ts : Addr → Value → Option Addr → TS) (Wout : WX) (D : Ends) : WX := fun cls d σ H =>
  ∃ b, PySem.W.exmOne K cls c = some b ∧ (b = true → ∀ a, H a = none → ts a cls d { nx := fun σ' H' => H' a = none → D.nx (σ'.set i none) (upd H' a (ExV cls d a)), rt := D.rt, bk := fun σ' H' => D.bk (σ'.set i none) H', ct := fun σ' H' => D.ct (σ'.set i none) H' } (σ.set i (some (.ref a))) H) ∧
    (b = false → Wout cls d σ H)
section
variable {X : Cx} {x n : Str} {c : Value} {i : Nat} {body suite : List Stmt} {b₀ : Stmt} {np pos pos' : Pos} {tb : WX → TS} {ts : Addr → Value → Option Addr → TS} {Wout : WX}
theorem ps_try_held (hs : X.stack = X.env :: X.outer) (hf : X.env.frame = some X.env.locals) (hex : X.ex = []) (hN : X.N.Nodup) (hi : X.N[i]? = some n) (hln : X.env.kindOf n = some .local) (hc : L2.Names X x c) (tk : Takes X Wout)
    (hb : ∀ (W : WX) (pn : List (Addr × Obj)) (xe : Value → Shared → Prop), Takes (X.tr pn xe) W → PassesOwn (model X.prog X.w) X.A X.env xe → PSs (X.tr pn xe) body (tb W))
    (hsu : ∀ (a : Addr) (oe : Obj) (cls : Value) (d : Option Addr) (pn : List (Addr × Obj)), Zc cls d oe → (∃ vs, oe.data = .fields vs) → PSs (X.suite a ((a, oe) :: pn)) (b₀ :: suite) (ts a cls d)) :
    PS X (.Try body [.ExceptHandler (some (.Name x np)) (some n) (b₀ :: suite) pos'] [] [] pos) (fun D σ H => tb (wHeld X.K c i ts Wout D) D σ H) := by
  refine ⟨fun pins s σ H D I h => ?_⟩
  have ok := I.ok
  have hfr : X.A.frames = some (X.env :: X.outer) := by rw [ok.frames, hs]
  have hloc : Loc X.env.scope n := .inl hln
  refine wpAny_Try_except ?_
  refine wpAny_mono ((hb (wHeld X.K c i ts Wout D) (X.pn ++ pins) (fun e s₁ => wpAny (model X.prog X.w) X.A (noteFrame e X.env) (fun _ s₂ => wpAny (model X.prog X.w) X.A (setFlight e none) (fun _ s₃ =>
    wpAny (model X.prog X.w) X.A (handleBy e X.env [.ExceptHandler (some (.Name x np)) (some n) (b₀ :: suite) pos']) (SP X pins D) X.xe s₃) X.xe s₂) X.xe s₁) (fun u s' xx => ?_) PassesOwn.looking).run [] s σ H D (I.toTry _) h) (fun f s1 hsp => ?_) (fun e s1 he => he)
  · obtain ⟨a, B, sI, pins', σ', H', cls, d, rfl, J', nb, up, sky, na, os, ag, b, hb1, hyes, hno⟩ := xx
    have J : Inv X pins σ' H' sI := J'.ofTry ok
    have sky' : Sky B (X.env :: X.outer) a (Zc cls d) X.env.locals s'.heap := by rw [← hs]; exact sky
    have nB : B.get? a = none := by
      rcases sky with ⟨_, hn, _⟩ | ⟨_, hn, _⟩ | ⟨_, hn, _⟩ <;> exact hn
    show wpAny (model X.prog X.w) X.A (noteFrame (.ref a) X.env) _ _ _
    refine Sky.land Zc.steady hfr hf sky' fun h3 fl3 up3 => ?_
    have J3 : Inv X pins σ' H' { s' with heap := h3 } := J.landed nb fl3.1 (up.trans up3) os ag
    obtain ⟨oe3, vs3, he3, hz3, hd3⟩ := fl3.there
    have notFr : ∀ {h : Heap} {o : Obj} {vs : Array Value}, h.FunFrames B (X.env :: X.outer) → h.get? a = some o → o.data = .fields vs → a ∉ frs (X.env :: X.outer) := fun {h o vs} ff e dd hm => by
      obtain ⟨_, o', e', hnf⟩ := ff.mem hm
      rw [e] at e'; cases e'
      exact hnf _ dd
    have nfr := notFr fl3.2.2.1 he3 hd3
    have nI : sI.heap.get? a = none := by
      cases q : sI.heap.get? a with
      | none => rfl
      | some o =>
        have z := nb a o q (by rw [hs]; exact nfr)
        rw [nB] at z; cases z
    have n0 : X.s_0.heap.get? a = none := by
      cases q : X.s_0.heap.get? a with
      | none => rfl
      | some o =>
        obtain ⟨o', z⟩ := J.base.there a o q (by rw [hex]; exact fun z => nomatch z)
        rw [nI] at z; cases z
    have npn : ∀ p ∈ X.pn ++ pins, p.1 ≠ a := fun p hp z => by
      have q := (J.pin p hp).1
      rw [z, nI] at q; cases q
    have nL : a ≠ X.env.locals := fun z => nfr (List.mem_filterMap.mpr ⟨X.env, List.mem_cons_self, by rw [hf, z]⟩)
    have nF : a ∉ X.fs := fun hm => by
      obtain ⟨e, he, q⟩ := List.mem_filterMap.mp hm
      exact nfr (List.mem_filterMap.mpr ⟨e, List.mem_cons_of_mem _ he, q⟩)
    have S3 := J3.suite he3 hd3 na nL nF
    refine wpAny_handleBy_cons (codeAny_handlers_test ?_) (by intro q; cases q)
    have LT : PySem.W.Looks (model X.prog X.w) h3 (typeOf (.ref a)) cls := fun A Q E s k q => wpAny_typeOf_ref (k _ _ he3) (by rw [hz3.1]; exact q)
    have LM := PySem.W.exm_one (M := model X.prog X.w) (J3.kIn) LT hb1
    have test : ∀ {Q : Value → Shared → Prop} {E : Value → Shared → Prop}, Q c { s' with heap := h3 } → wpAny (model X.prog X.w) (X.A.mark (some (.ref a))) (eval (.Name x np) X.env) Q E { s' with heap := h3 } := fun {Q E} q => by
      obtain ⟨hg, hdbg, hm | ⟨hm, hv, hnn⟩⟩ := hc
      · exact ld_glob (X := X.suite a ((a, oe3) :: (X.pn ++ pins))) S3 hg hm q hdbg
      · exact ld_blt (X := X.suite a ((a, oe3) :: (X.pn ++ pins))) S3 hg hm hv q hnn hdbg
    refine test (LM.here ?_)
    cases b with
    | true =>
      refine codeAny_handlers_suite_as ?_
      refine HandSPX.lands_againZ fl3 fun h4 fl4 up4 => ?_
      have J4 : Inv X pins σ' H' { s' with heap := h4 } := J.landed nb fl4.1 ((up.trans up3).trans up4) os ag
      obtain ⟨oe4, vs4, he4, hz4, hd4⟩ := fl4.there
      have S4 := J4.suite he4 hd4 na nL nF
      refine store_ok (X := X.suite a ((a, oe4) :: (X.pn ++ pins))) (v := .ref a) S4 hN hi hloc rfl (fun s5 S5 => ?_) (.inr hln)
      refine wpAny_mono ((hsu a oe4 cls d (X.pn ++ pins) hz4 ⟨_, hd4⟩).run [] s5 _ H' _ S5 (hyes rfl a na)) (fun f s6 hsp => ?_) (fun _ _ z => False.elim z)
      have end_ : ∀ {σ6 : L2.St} {H6 : Hp} {Q : Shared → Prop}, Inv (X.suite a ((a, oe4) :: (X.pn ++ pins))) [] σ6 H6 s6 → (∀ s7, Inv X ((a, oe4) :: pins) (σ6.set i none) H6 s7 → Q s7) →
          wpAny (model X.prog X.w) X.A (do bindName X.env n .none; unbindBehindTheSuite X.env n pos') (fun _ s7 => Q s7) X.xe s6 := fun {σ6 H6 Q} S6 hq => by
        have J6 : Inv X ((a, oe4) :: pins) σ6 H6 s6 := ⟨ok, S6.os, S6.bare, S6.base, S6.loc, S6.cell, S6.free, S6.freeC, fun p hp => S6.pin p (by
          rw [List.append_nil]
          rcases List.mem_append.mp hp with h | h
          · exact List.mem_cons_of_mem _ (List.mem_append_left _ h)
          · rcases List.mem_cons.mp h with h | h
            · rw [h]; exact List.mem_cons_self
            · exact List.mem_cons_of_mem _ (List.mem_append_right _ h)), S6.hok, S6.len⟩
        exact gone_ok J6 hN hi hln hq
      have drop : ∀ {σ7 : L2.St} {H7 : Hp} {s7 : Shared}, Inv X ((a, oe4) :: pins) σ7 H7 s7 → Inv X pins σ7 H7 s7 := fun J7 => ⟨J7.ok, J7.os, J7.bare, J7.base, J7.loc, J7.cell, J7.free, J7.freeC, fun p hp => J7.pin p (by
          rcases List.mem_append.mp hp with h | h
          · exact List.mem_append_left _ h
          · exact List.mem_append_right _ (List.mem_cons_of_mem _ h)), J7.hok, J7.len⟩
      cases f with
      | next =>
        obtain ⟨σ6, H6, S6, q6⟩ := hsp
        exact end_ S6 fun s7 J7 => ⟨_, _, Inv.hold J7 hz4 hd4 n0 npn, q6 (J7.pin (a, oe4) (List.mem_append_right _ List.mem_cons_self)).2.1⟩
      | brk =>
        obtain ⟨σ6, H6, S6, q6⟩ := hsp
        exact end_ S6 fun s7 J7 => ⟨_, _, drop J7, q6⟩
      | cont =>
        obtain ⟨σ6, H6, S6, q6⟩ := hsp
        exact end_ S6 fun s7 J7 => ⟨_, _, drop J7, q6⟩
      | ret u =>
        obtain ⟨v6, σ6, H6, S6, r6, q6⟩ := hsp
        exact end_ S6 fun s7 J7 => ⟨_, _, _, drop J7, r6, q6⟩
    | false =>
      show wpAny _ X.A (handleBy (.ref a) X.env []) _ _ _
      refine wpAny_handleBy_nil ?_
      obtain ⟨k1, k2, k3, oe, vs, T, oT, ts', he, hz, hd, h1, hr⟩ := id fl3
      unfold PySem.passOn
      refine wpAny_bind (wpAny_field he hd h1 ?_)
      rw [if_neg (show ¬ ((Value.ref T == Value.none) = true) from by simp)]
      have fin : wpAny (model X.prog X.w) X.A (setFlight (.ref a) X.env.frame) (fun _ s4 => wpAny (model X.prog X.w) X.A (throw (.ref a) : Sem Flow) (SP X pins D) X.xe s4) X.xe { s' with heap := h3 } := by
        rw [hf]
        refine HandSPX.setFlight_upZ fl3 fun h4 hh4 up4 => wpAny_throw (tk _ _ ?_)
        exact ⟨a, B, sI, pins, σ', H', cls, d, rfl, J, nb, (up.trans up3).trans up4, .inr (.inr (by rw [hs]; exact hh4)), na, os, ag, hno rfl⟩
      first
        | exact wpAny_bind (wpAny_pure (wpAny_bind fin))
        | exact wpAny_bind fin
  · cases f with
    | next =>
      obtain ⟨σ', H', J', q⟩ := hsp
      exact wpAny_execs_nil ⟨σ', H', J'.ofTry ok, q⟩
    | brk =>
      obtain ⟨σ', H', J', q⟩ := hsp
      exact ⟨σ', H', J'.ofTry ok, q⟩
    | cont =>
      obtain ⟨σ', H', J', q⟩ := hsp
      exact ⟨σ', H', J'.ofTry ok, q⟩
    | ret u =>
      obtain ⟨v, σ', H', J', r, q⟩ := hsp
      exact ⟨v, σ', H', J'.ofTry ok, r, q⟩
end
/-! ### a def that may raise, by its name -/
structure HasX (P : Program) (w : World) (K : PySem.W.Frag) (mg : Str → Option Value) (base : Heap) (x : Str) (k : Nat) (ps : List Str) (sp : Sp) : Prop where
  ex : ∃ f fd, FnOk P w K mg base (L2.CX P w) k f fd ps sp ∧ mg x = some (.ref f) ∧ PySem.W.keepIn K (.ref f) = true ∧ Binds K fd ps []
theorem fnOk_calm {P : Program} {w : World} {K : PySem.W.Frag} {mg : Str → Option Value} {base : Heap} {k : Nat} {f : Addr} {fd : FuncData} {ps : List Str} {sp : Sp} (F : FnOk P w K mg base (L2.CX P w) k f fd ps sp) : FnOk P w K mg base CX0 k f fd ps (fun vs H Q _ => sp vs H Q E0) :=
  ⟨fun vs H Q E q => F.len vs H Q E0 q, fun A outer s H args us vs Q E hr he hb hv hs => codeAny_mono (F.run A outer s H args us vs Q E0 hr he hb hv hs) fun r s' hq => by
    cases r with
    | error e =>
      obtain ⟨_, _, _, _, _, _, _, _, _, _, _, _, z⟩ := hq
      exact z.elim
    | ok fl => cases fl <;> exact hq⟩
theorem HasX.calm {P : Program} {w : World} {K : PySem.W.Frag} {mg : Str → Option Value} {base : Heap} {x : Str} {k : Nat} {ps : List Str} {sp : Sp} (h : HasX P w K mg base x k ps sp) : Has P w K mg base x k ps (fun vs H Q _ => sp vs H Q E0) := by
  obtain ⟨f, fd, F, a, b, c⟩ := h.ex
  exact ⟨f, fd, fnOk_calm F, a, b, c⟩
theorem Has.imp {P : Program} {w : World} {K : PySem.W.Frag} {mg : Str → Option Value} {base : Heap} {x : Str} {k : Nat} {ps : List Str} {sp sp' : Sp} (h : Has P w K mg base x k ps sp) (i : ∀ vs H Q E, sp' vs H Q E → sp vs H Q E) : Has P w K mg base x k ps sp' := by
  obtain ⟨f, fd, F, a, b, c⟩ := h.ex
  exact ⟨f, fd, F.imp i, a, b, c⟩
section
variable {X : Cx} {k : Nat} {ps : List Str} {sp : Sp} {x : Str} {p pos : Pos} {e : Expr} {es : List Expr} {t : TA} {W : WX} {σ : L2.St} {H : Hp} {Q : VK}
theorem pe_callXH (h : HasX X.prog X.w X.K X.mg X.base x k ps sp) (hr : Room k X.A) (tk : Takes X W) (ha : PA X (e :: es) t) (hg : Gl X x := by rfl) (hdb : (x == ("__debug__" : Str)) = false := by decide)
   (hs : starEach (e :: es) X.env = (false, eval e X.env) :: starEach es X.env := by rfl) (hplain : (backTo pos (starEach es X.env)).any (·.1) = false := by rfl) :
   PE X (.Call (.Name x p) (e :: es) [] pos) (tCallS sp (WE W) t) := by
  obtain ⟨f, fd, F, a, b, c⟩ := h.ex
  exact pe_callS F hr hg a b c (fun σ => passAt tk σ) ha hdb hs hplain
theorem r_callX {E : L2.St → XK} (q : t σ H fun vs H1 => sp vs H1 Q (E σ)) : tCallS sp E t σ H Q := q
end
/-! ### .. by keywords, in the parameters' order or turned round -/
def permB {α : Type} (rv : Bool) (l : List α) : List α := if rv then l.reverse else l
structure KW0 (K : PySem.W.Frag) (fd : FuncData) (ps ks : List Str) (rv : Bool) : Prop where
  to : ∀ (s : Shared) (ws : List Value), K.In s.heap → ws.length = ks.length → BindsTo s fd ⟨[], ks.zip ws⟩ (ps.zip (permB rv ws))
theorem kw0 {K : PySem.W.Frag} {fd : FuncData} {ps ks : List Str} {rv : Bool} (h : ∀ (ws : List Value), ws.length = ks.length → bindArgs fd ⟨[], ks.zip ws⟩ = pure (ps.zip (permB rv ws))) : KW0 K fd ps ks rv := ⟨fun _ ws _ hl => .of_eq (h ws hl)⟩
structure HasXK (P : Program) (w : World) (K : PySem.W.Frag) (mg : Str → Option Value) (base : Heap) (x : Str) (k : Nat) (ps ks : List Str) (rv : Bool) (sp : Sp) : Prop where
  ex : ∃ f fd, FnOk P w K mg base (L2.CX P w) k f fd ps sp ∧ mg x = some (.ref f) ∧ PySem.W.keepIn K (.ref f) = true ∧ KW0 K fd ps ks rv
theorem vals_rev : ∀ {vs : List V} {us : List Value}, Vals vs us → Vals vs.reverse us.reverse
  | _, _, .nil => .nil
  | _, _, .cons r t => by
    rw [List.reverse_cons, List.reverse_cons]
    exact Vals.append (vals_rev t) (.cons r .nil)
theorem vals_perm {vs : List V} {us : List Value} (rv : Bool) (h : Vals vs us) : Vals (permB rv vs) (permB rv us) := by
  cases rv with
  | true => exact vals_rev h
  | false => exact h
def tCallXK (sp : Sp) (rv : Bool) (E : L2.St → XK) (tk : TA) : TE := fun σ H Q => tk σ H fun zs H2 => sp (permB rv zs) H2 Q (E σ)
section
variable {X : Cx} {k : Nat} {ps ks : List Str} {rv : Bool} {sp : Sp} {x : Str} {p pos : Pos} {kws : List Keyword} {tkw : TA} {W : WX} {σ : L2.St} {H : Hp} {Q : VK}
theorem permB_len {α : Type} (rv : Bool) (l : List α) : (permB rv l).length = l.length := by cases rv <;> simp [permB]
theorem pe_callXHK (h : HasXK X.prog X.w X.K X.mg X.base x k ps ks rv sp) (hr : Room k X.A) (tk : Takes X W) (hkw : PK X kws tkw) (hk : ks.length = ps.length := by rfl) (hg : Gl X x := by rfl)
    (hall : (backToKw pos (keywordEach kws X.env)).all (·.1.isSome) = true := by rfl) (hks : (backToKw pos (keywordEach kws X.env)).filterMap (·.1) = ks := by rfl) (hdb : (x == ("__debug__" : Str)) = false := by decide)
    (hpl : ((backTo pos (starEach [] X.env)).any (·.1) || (backToKw pos (keywordEach kws X.env)).any (·.1.isNone)) = false := by rfl) : PE X (.Call (.Name x p) [] kws pos) (tCallXK sp rv (WE W) tkw) := by
  obtain ⟨f, fd, F, a, b, kb⟩ := h.ex
  refine ⟨fun pins s σ H Q I h => ?_⟩
  refine wpAny_Call_Name_kw (ld_glob I hg a ?_ hdb)
  refine PySem.W.callWith_KW0 (h₀ := X.base) I.ok.mod.kin b hall (thn (hkw.run pos pins s σ H _ I h) fun ws s2 ⟨zs, H2, I2, rz, q2⟩ => ⟨I2.kIn, ?_⟩) hpl
  rw [hks]
  have q2 : sp (permB rv zs) H2 Q (WE W σ) := q2
  have hl : ws.length = ks.length := by
    have h1 := F.len _ _ _ _ q2
    rw [permB_len] at h1
    rw [← rz.length, h1, hk]
  refine wpAny_call (codeAny_mono (F.run X.A X.stack s2 H2 ⟨[], ks.zip ws⟩ (permB rv ws) (permB rv zs) Q (WE W σ) hr I2.env0 (kb.to s2 ws I2.kIn hl) (vals_perm rv rz) q2) fun r s' hq => ?_)
  cases r with
  | error e => exact tk e s' (XE.of_call I2 (fun _ _ _ h => h) hq)
  | ok fl =>
    cases fl with
    | ret u => exact I2.after hq
    | next => exact False.elim hq
    | brk => exact False.elim hq
    | cont => exact False.elim hq
theorem r_callXK {E : L2.St → XK} (q : tkw σ H fun zs H1 => sp (permB rv zs) H1 Q (E σ)) : tCallXK sp rv E tkw σ H Q := q
end
theorem call_isiEK {X : Cx} {K : PySem.W.Frag} (h : X.K = K := by rfl) : CallR X (.builtin "isinstance") (rIsiE K) := by subst h; exact call_isiE
theorem call_isiTEK {X : Cx} {K : PySem.W.Frag} (h : X.K = K := by rfl) : CallR X (.builtin "isinstance") (rIsiTE K) := by subst h; exact call_isiTE
/-! ### own exception classes -/
structure OwnX (K : PySem.W.Frag) (mg : Str → Option Value) (x : Str) (C : Addr) : Prop where
  xi : PySem.W.excIn K C [.type "ValueError", .type "Exception", .type "BaseException", .type "object"] "ValueError.__new__" = true
  g : mg x = some (.ref C)
  k : PySem.W.keepIn K (.ref C) = true
  b : PySem.W.subIn K (.ref C) (.type "BaseException") = some true
  t : PySem.W.typeIn K (.ref C) = some (.type "type")
  e : ExcTy K C
  cs : ∃ cd, PySem.W.clsIn K C = some cd
theorem OwnX.catch {K : PySem.W.Frag} {mg : Str → Option Value} {x : Str} {C : Addr} {cls : Value} {b : Bool} (h : OwnX K mg x C) (s : PySem.W.subIn K cls (.ref C) = some b) : PySem.W.exmOne K cls (.ref C) = some b := PySem.W.exm_ref h.b h.e.dct h.t s
theorem OwnX.kit {K : PySem.W.Frag} {mg : Str → Option Value} {x : Str} {C : Addr} {cls : Value} {b : Bool} (h : OwnX K mg x C) (s : PySem.W.subIn K cls (.ref C) = some b) (ne : (cls == .ref C) = false) : PySem.W.kitOne K cls (.ref C) = some b := by
  obtain ⟨cd, e⟩ := h.cs
  unfold PySem.W.kitOne PySem.W.kitCls
  rw [ne, if_neg Bool.false_ne_true]
  show (if ((PySem.W.clsIn K C).isSome && PySem.W.typeIn K (.ref C) == some (.type "type")) = true then PySem.W.subIn K cls (.ref C) else none) = some b
  rw [e, h.t, if_pos (by simp)]
  exact s
theorem kit_own {K : PySem.W.Frag} {C : Addr} : PySem.W.kitOne K (.ref C) (.ref C) = some true := by
  unfold PySem.W.kitOne
  rw [if_pos (beq_self_eq_true _)]
/-- an own class, a built-in one -/
theorem kit_ownB {K : PySem.W.Frag} {C : Addr} {T : String} {b : Bool} (s : PySem.W.subIn K (.ref C) (.type T) = some b) (h : PySem.W.kitCls K (.ref C) (.type T) = PySem.W.subIn K (.ref C) (.type T) := by rfl) : PySem.W.kitOne K (.ref C) (.type T) = some b := by
  unfold PySem.W.kitOne
  rw [if_neg (by simp), h]
  exact s
theorem r_isiE' {K : PySem.W.Frag} {H : Hp} {Q : VK} {x c : V} {t u : Value} {b : Bool} (hc : ClsV c u) (ty : TyE K H x t) (e : PySem.W.kitOne K t u = some b) (q : Q (.bl b) H) : rIsiE K [x, c] H Q := ⟨x, c, t, u, b, rfl, hc, ty, e, q⟩
/-- a value that is no integer, or a truth -/
def NotInt (K : PySem.W.Frag) (H : Hp) (v : V) : Prop := ∃ t b1 b2, TyE K H v t ∧ PySem.W.kitOne K t (.type "int") = some b1 ∧ PySem.W.kitOne K t (.type "bool") = some b2 ∧ (b1 && !b2) = false
def NotIntS (K : PySem.W.Frag) (H : Hp) (v : V) : Prop := ∀ H', Same H H' → NotInt K H' v
theorem NotIntS.same {K : PySem.W.Frag} {H H' : Hp} {v : V} (h : NotIntS K H v) (s : Same H H') : NotIntS K H' v := fun H2 s2 => h H2 (s.trans s2)
theorem NotIntS.now {K : PySem.W.Frag} {H : Hp} {v : V} (h : NotIntS K H v) : NotInt K H v := h H (Same.refl H)
section
variable {K : PySem.W.Frag} {H : Hp}
theorem ni_bl (b : Bool) : NotIntS K H (.bl b) := fun _ _ => ⟨_, true, true, .x ty_bl, kit_ty (by decide +kernel), kit_ty (by decide +kernel), rfl⟩
theorem ni_str (z : Str) : NotIntS K H (.str z) := fun _ _ => ⟨_, false, false, .x ty_str, kit_ty (by decide +kernel), kit_ty (by decide +kernel), rfl⟩
theorem ni_non : NotIntS K H .non := fun _ _ => ⟨_, false, false, .x (.base .non), kit_ty (by decide +kernel), kit_ty (by decide +kernel), rfl⟩
theorem ni_lst {p : Addr} {xs : List V} (h : H p = some (.lst xs)) : NotIntS K H (.ref p) := fun _ s => ⟨_, false, false, .x (ty_lst (s _ _ h)), kit_ty (by decide +kernel), kit_ty (by decide +kernel), rfl⟩
theorem ni_tup {p : Addr} {xs : List V} (h : H p = some (.tup xs)) : NotIntS K H (.ref p) := fun _ s => ⟨_, false, false, .x (ty_tup (s _ _ h)), kit_ty (by decide +kernel), kit_ty (by decide +kernel), rfl⟩
theorem ni_exc {p D : Addr} (h : H p = some (ExO (.ref D) p)) (F : ExcTy K D) (s1 : PySem.W.subIn K (.ref D) (.type "int") = some false) (s2 : PySem.W.subIn K (.ref D) (.type "bool") = some false) : NotIntS K H (.ref p) := fun _ s => ⟨_, false, false, .exc (s _ _ h) F, kit_ownB s1, kit_ownB s2, rfl⟩
theorem kit_int_int : PySem.W.kitOne K (.type "int") (.type "int") = some true := kit_ty (by decide +kernel)
theorem kit_int_bool : PySem.W.kitOne K (.type "int") (.type "bool") = some false := kit_ty (by decide +kernel)
def spIsIntT (K : PySem.W.Frag) : Sp := fun vs H Q _ => ∃ x t b1 b2, vs = [x] ∧ TyE K H x t ∧ PySem.W.kitOne K t (.type "int") = some b1 ∧ PySem.W.kitOne K t (.type "bool") = some b2 ∧ Q (.bl (b1 && !b2)) H
theorem u_isIntV {Q : VK} {E : XK} {n : Int} (q : Q (.bl true) H) : spIsIntT K [.int n] H Q E := ⟨_, _, true, false, rfl, .x ty_int, kit_int_int, kit_int_bool, q⟩
theorem u_isIntN {Q : VK} {E : XK} {v : V} (h : NotInt K H v) (q : Q (.bl false) H) : spIsIntT K [v] H Q E := by
  obtain ⟨t, b1, b2, ty, k1, k2, e⟩ := h
  exact ⟨v, t, b1, b2, rfl, ty, k1, k2, by rw [e]; exact q⟩
theorem r_isNR {Q : VK} {a : Addr} (q : Q (.bl false) H) : rIsN (.ref a) .non H Q := ⟨rfl, by rw [decide_eq_false (by intro h; cases h)]; exact q⟩
theorem r_isiTE {Q : VK} {x : V} {tp : Addr} {cs : List V} {t : Value} {us : List Value} {b : Bool} (hT : H tp = some (.tup cs)) (hc : Paired ClsV cs us) (ty : TyE K H x t) (e : PySem.W.kitAny K t us = some b) (q : Q (.bl b) H) : rIsiTE K [x, .ref tp] H Q := ⟨x, tp, cs, t, us, b, rfl, hT, hc, ty, e, q⟩
theorem kitAny_cons {t c : Value} {us : List Value} {b : Bool} (h : PySem.W.kitOne K t c = some false) (h2 : PySem.W.kitAny K t us = some b) : PySem.W.kitAny K t (c :: us) = some b := by
  unfold PySem.W.kitAny
  rw [h]
  exact h2
end
end My

set_option Elab.async false
set_option linter.all false
set_option maxRecDepth 100000
namespace My
open PySem PySem.Spec PyProof.Rows L2
/-! ### undone programs -/
def contr (w : Str) : Str := if w = "go" then "back" else if w = "back" then "go" else if w = "hop" then "slip" else "hop"
theorem contr_word {w : Str} (h : IsWord w) : IsWord (contr w) := by
  rcases h with rfl | rfl | rfl | rfl
  · exact .inr (.inl rfl)
  · exact .inl rfl
  · exact .inr (.inr (.inr rfl))
  · exact .inr (.inr (.inl rfl))
theorem contr_contr {w : Str} (h : IsWord w) : contr (contr w) = w := by
  rcases h with rfl | rfl | rfl | rfl <;> rfl
namespace Prog
def undo : Prog → Prog
  | .nil => .nil
  | .step w n r => (undo r).app (.step (contr w) n .nil)
  | .turn k r => (undo r).app (.turn (-k) .nil)
  | .rep k b r => (undo r).app (.rep k (undo b) .nil)
  | .mir b r => (undo r).app (.mir (undo b) .nil)
theorem undo_app : ∀ p q : Prog, undo (p.app q) = (undo q).app (undo p)
  | .nil, q => by rw [app, undo, app_nil]
  | .step w n p, q => by rw [app, undo, undo, undo_app p q, app_assoc]
  | .turn k p, q => by rw [app, undo, undo, undo_app p q, app_assoc]
  | .rep k b p, q => by rw [app, undo, undo, undo_app p q, app_assoc]
  | .mir b p, q => by rw [app, undo, undo, undo_app p q, app_assoc]
theorem unroll_app (s : Int) : ∀ p q : Prog, unroll s (p.app q) = (unroll s p).app (unroll s q)
  | .nil, q => by rw [app, unroll, app]
  | .step w n p, q => by rw [app, unroll, unroll, unroll_app s p q, app]
  | .turn k p, q => by rw [app, unroll, unroll, unroll_app s p q, app]
  | .rep k b p, q => by rw [app, unroll, unroll, unroll_app s p q, app_assoc]
  | .mir b p, q => by rw [app, unroll, unroll, unroll_app s p q, app_assoc]
theorem len_undo : ∀ p : Prog, (undo p).len = p.len
  | .nil => by rw [undo]
  | .step w n r => by rw [undo, len_app, len_undo r]; rfl
  | .turn k r => by rw [undo, len_app, len_undo r]; rfl
  | .rep k b r => by rw [undo, len_app, len_undo r]; rfl
  | .mir b r => by rw [undo, len_app, len_undo r]; rfl
theorem size_undo : ∀ p : Prog, (undo p).size = p.size
  | .nil => by rw [undo]
  | .step w n r => by rw [undo, size_app, size_undo r, size, size, size]; omega
  | .turn k r => by rw [undo, size_app, size_undo r, size, size, size]; omega
  | .rep k b r => by rw [undo, size_app, size_undo r, size, size, size, size_undo b]; omega
  | .mir b r => by rw [undo, size_app, size_undo r, size, size, size, size_undo b]; omega
theorem head_undo : ∀ p : Prog, (undo p).head = -p.head
  | .nil => by rw [undo, head]; rfl
  | .step w n r => by rw [undo, head_app, head_undo r, head, head, head]; omega
  | .turn k r => by rw [undo, head_app, head_undo r, head, head, head]; omega
  | .rep k b r => by rw [undo, head_app, head_undo r, head, head, head, head_undo b, Int.mul_neg]; omega
  | .mir b r => by rw [undo, head_app, head_undo r, head, head, head, head_undo b]; omega
theorem wf_undo {L : Nat} {C T : Int} : ∀ {d : Nat} {p : Prog}, WfL L C T d p → WfL L C T d (undo p)
  | _, .nil, _ => WfL.nil
  | d, .step w n r, h => by
    have h := WfL.step_iff.mp h
    rw [undo]
    exact (wf_undo h.2.2).app (WfL.step_iff.mpr ⟨contr_word h.1, h.2.1, WfL.nil⟩)
  | d, .turn k r, h => by
    have h := WfL.turn_iff.mp h
    rw [undo]
    exact (wf_undo h.2).app (WfL.turn_iff.mpr ⟨⟨by omega, by omega⟩, WfL.nil⟩)
  | 0, .rep _ _ _, h => h.elim
  | d + 1, .rep k b r, h => by
    rw [undo]
    exact (wf_undo h.2.2.2).app ⟨h.1, by rw [len_undo]; exact h.2.1, wf_undo h.2.2.1, WfL.nil⟩
  | 0, .mir _ _, h => h.elim
  | d + 1, .mir b r, h => by
    rw [undo]
    exact (wf_undo h.2.2).app ⟨by rw [len_undo]; exact h.1, wf_undo h.2.1, WfL.nil⟩
theorem undo_undo {L : Nat} {C T : Int} : ∀ {d : Nat} {p : Prog}, WfL L C T d p → undo (undo p) = p
  | _, .nil, _ => by rw [undo, undo]
  | d, .step w n r, h => by
    have h := WfL.step_iff.mp h
    rw [undo, undo_app, undo_undo h.2.2, undo, undo, contr_contr h.1]; rfl
  | d, .turn k r, h => by
    have h := WfL.turn_iff.mp h
    rw [undo, undo_app, undo_undo h.2, undo, undo, Int.neg_neg]; rfl
  | 0, .rep _ _ _, h => h.elim
  | d + 1, .rep k b r, h => by
    rw [undo, undo_app, undo_undo h.2.2.2, undo, undo, undo_undo h.2.2.1]; rfl
  | 0, .mir _ _, h => h.elim
  | d + 1, .mir b r, h => by
    rw [undo, undo_app, undo_undo h.2.2, undo, undo, undo_undo h.2.1]; rfl
theorem undo_times (p : Prog) : ∀ n, undo (times n p) = times n (undo p)
  | 0 => by rw [times, undo, times]
  | n + 1 => by rw [times_succ n (undo p), times, undo_app, undo_times p n]
/-- undone and then unrolled is unrolled and then undone -/
theorem unroll_undo (p : Prog) : ∀ s : Int, unroll s (undo p) = undo (unroll s p) := by
  induction p with
  | nil => intro s; rw [undo, unroll, undo]
  | step w n r ih => intro s; rw [undo, unroll_app, ih, unroll, unroll, unroll, undo]
  | turn k r ih => intro s; rw [undo, unroll_app, ih, unroll, unroll, unroll, undo, Int.mul_neg]
  | rep k b r ihb ih => intro s; rw [undo, unroll_app, ih, unroll, unroll, unroll, app_nil, undo_app, undo_times, ihb]
  | mir b r ihb ih => intro s; rw [undo, unroll_app, ih, unroll, unroll, unroll, app_nil, undo_app, ihb]
end Prog
end My

set_option Elab.async false
set_option linter.all false
set_option maxRecDepth 100000
namespace My
open PySem PySem.Spec PyProof.Rows L2 RT
theorem WfL.split {L : Nat} {C T : Int} : ∀ {d : Nat} {p q : Prog}, WfL L C T d (p.app q) → WfL L C T d p ∧ WfL L C T d q
  | _, .nil, _, h => ⟨WfL.nil, h⟩
  | d, .step w n r, q, h => by
    have h := WfL.step_iff.mp (show WfL L C T d (.step w n (r.app q)) from h)
    exact ⟨WfL.step_iff.mpr ⟨h.1, h.2.1, (WfL.split h.2.2).1⟩, (WfL.split h.2.2).2⟩
  | d, .turn k r, q, h => by
    have h := WfL.turn_iff.mp (show WfL L C T d (.turn k (r.app q)) from h)
    exact ⟨WfL.turn_iff.mpr ⟨h.1, (WfL.split h.2).1⟩, (WfL.split h.2).2⟩
  | 0, .rep _ _ _, _, h => h.elim
  | d + 1, .rep k b r, q, h => by
    have h : (1 ≤ k ∧ k ≤ C) ∧ (1 ≤ b.len ∧ b.len ≤ L) ∧ WfL L C T d b ∧ WfL L C T (d + 1) (r.app q) := h
    exact ⟨⟨h.1, h.2.1, h.2.2.1, (WfL.split h.2.2.2).1⟩, (WfL.split h.2.2.2).2⟩
  | 0, .mir _ _, _, h => h.elim
  | d + 1, .mir b r, q, h => by
    have h : (1 ≤ b.len ∧ b.len ≤ L) ∧ WfL L C T d b ∧ WfL L C T (d + 1) (r.app q) := h
    exact ⟨⟨h.1, h.2.1, (WfL.split h.2.2).1⟩, (WfL.split h.2.2).2⟩
theorem PrAt.split {H : Hp} : ∀ {p q : Prog} {xs : List V}, PrAt H (p.app q) xs → ∃ ys zs, xs = ys ++ zs ∧ PrAt H p ys ∧ PrAt H q zs
  | .nil, q, xs, h => ⟨[], xs, rfl, rfl, h⟩
  | .step w n r, q, xs, h => by
    obtain ⟨c, ys, e, h1, h2⟩ := h
    obtain ⟨us, vs, e2, h3, h4⟩ := PrAt.split (p := r) h2
    exact ⟨.ref c :: us, vs, by rw [e, e2]; rfl, ⟨c, us, rfl, h1, h3⟩, h4⟩
  | .turn k r, q, xs, h => by
    obtain ⟨c, ys, e, h1, h2⟩ := h
    obtain ⟨us, vs, e2, h3, h4⟩ := PrAt.split (p := r) h2
    exact ⟨.ref c :: us, vs, by rw [e, e2]; rfl, ⟨c, us, rfl, h1, h3⟩, h4⟩
  | .rep k b r, q, xs, h => by
    obtain ⟨c, q0, z0, ys, e, h1, h0, hb, h2⟩ := h
    obtain ⟨us, vs, e2, h3, h4⟩ := PrAt.split (p := r) h2
    exact ⟨.ref c :: us, vs, by rw [e, e2]; rfl, ⟨c, q0, z0, us, rfl, h1, h0, hb, h3⟩, h4⟩
  | .mir b r, q, xs, h => by
    obtain ⟨c, q0, z0, ys, e, h1, h0, hb, h2⟩ := h
    obtain ⟨us, vs, e2, h3, h4⟩ := PrAt.split (p := r) h2
    exact ⟨.ref c :: us, vs, by rw [e, e2]; rfl, ⟨c, q0, z0, us, rfl, h1, h0, hb, h3⟩, h4⟩
/-- the last command -/
theorem Prog.snoc : ∀ {p : Prog} {m : Nat}, p.len = m + 1 → ∃ r c : Prog, p = r.app c ∧ r.len = m ∧ c.len = 1
  | .nil, m, h => by cases h
  | .step w n r, m, h => by
    have h : r.len + 1 = m + 1 := h
    cases m with
    | zero => exact ⟨.nil, .step w n r, rfl, rfl, h⟩
    | succ m =>
      obtain ⟨r', c, e, h1, h2⟩ := Prog.snoc (p := r) (m := m) (by omega)
      exact ⟨.step w n r', c, by rw [e]; rfl, by rw [Prog.len, h1], h2⟩
  | .turn k r, m, h => by
    have h : r.len + 1 = m + 1 := h
    cases m with
    | zero => exact ⟨.nil, .turn k r, rfl, rfl, h⟩
    | succ m =>
      obtain ⟨r', c, e, h1, h2⟩ := Prog.snoc (p := r) (m := m) (by omega)
      exact ⟨.turn k r', c, by rw [e]; rfl, by rw [Prog.len, h1], h2⟩
  | .rep k b r, m, h => by
    have h : r.len + 1 = m + 1 := h
    cases m with
    | zero => exact ⟨.nil, .rep k b r, rfl, rfl, h⟩
    | succ m =>
      obtain ⟨r', c, e, h1, h2⟩ := Prog.snoc (p := r) (m := m) (by omega)
      exact ⟨.rep k b r', c, by rw [e]; rfl, by rw [Prog.len, h1], h2⟩
  | .mir b r, m, h => by
    have h : r.len + 1 = m + 1 := h
    cases m with
    | zero => exact ⟨.nil, .mir b r, rfl, rfl, h⟩
    | succ m =>
      obtain ⟨r', c, e, h1, h2⟩ := Prog.snoc (p := r) (m := m) (by omega)
      exact ⟨.mir b r', c, by rw [e]; rfl, by rw [Prog.len, h1], h2⟩
theorem len_zero {p : Prog} (h : p.len = 0) : p = .nil := by cases p <;> first | rfl | cases h
/-- what stands at the place of the last command -/
theorem PrAt.last {H : Hp} {r c s : Prog} {xs : List V} (h : PrAt H (r.app (c.app s)) xs) (hc : c.len = 1) : ∃ x, xs[r.len]? = some x ∧ First H c x .nil := by
  obtain ⟨ys, zs, e, h1, h2⟩ := PrAt.split h
  obtain ⟨us, vs, e2, h3, h4⟩ := PrAt.split (p := c) h2
  have l1 := h1.length
  have l3 := h3.length
  rw [hc] at l3
  match us, l3, h3 with
  | [x], _, h3 =>
    obtain ⟨r', hf, hr⟩ := h3.first
    have e0 : r'.len = 0 := hr.length.symm
    rw [len_zero e0] at hf
    refine ⟨x, ?_, hf⟩
    rw [e, e2, List.getElem?_append_right (by omega), l1, Nat.sub_self]
    rfl
section
variable {σ : L2.St} {H : Hp} {K : PySem.W.Frag} {D : Ends} {tb : TS} {g : TG} {a : Addr} {xs : List V} {p : Prog}
theorem r_iRev {te : TE} {R : It → Hp → Prop} (q : te σ H fun v H1 => ∃ (a : Addr) (xs : List V), v = .ref a ∧ ((SqL K H1 a xs ∧ R (Itv K a xs.length) H1) ∨ (SqT K H1 a xs ∧ R (ItvT K a xs.length) H1))) : iRevA K te σ H R := q
/-- for command in reversed(program) -/
theorem u_forRev (h : H a = some (.tup xs)) (hp : PrAt H p xs) (I : Prog → Prog → L2.St → Hp → Prop) (h0 : I p .nil σ H) (hk : ∀ r s σ H', I r s σ H' → Tk H H')
    (hs : ∀ x r c s σ H', First H' c x .nil → p = r.app (c.app s) → I (r.app c) s σ H' → g x σ H' fun σ2 H2 => tb { D with nx := I r (c.app s), ct := I r (c.app s), bk := D.nx } σ2 H2) (hd : ∀ σ H', I .nil p σ H' → D.nx σ H') :
    ∃ (b : Addr) (xs : List V), V.ref a = .ref b ∧ ((SqL K H b xs ∧ ∃ W : Nat → Nat → L2.St → Hp → Prop, (∃ m, W 0 m σ H) ∧ ∀ i m σ H, W i m σ H →
      ((Itv K b xs.length).stop i H ∧ D.nx σ H) ∨ ((Itv K b xs.length).go i H ∧ ∃ N : L2.St → Hp → Prop, (∀ σ' H', N σ' H' → ∃ m', m' < m ∧ W (i + 1) m' σ' H') ∧ ∀ x H', (Itv K b xs.length).yld i H x H' → g x σ H' fun σ2 H2 => tb { D with nx := N, ct := N, bk := D.nx } σ2 H2)) ∨
     (SqT K H b xs ∧ ∃ W : Nat → Nat → L2.St → Hp → Prop, (∃ m, W 0 m σ H) ∧ ∀ i m σ H, W i m σ H →
      ((ItvT K b xs.length).stop i H ∧ D.nx σ H) ∨ ((ItvT K b xs.length).go i H ∧ ∃ N : L2.St → Hp → Prop, (∀ σ' H', N σ' H' → ∃ m', m' < m ∧ W (i + 1) m' σ' H') ∧ ∀ x H', (ItvT K b xs.length).yld i H x H' → g x σ H' fun σ2 H2 => tb { D with nx := N, ct := N, bk := D.nx } σ2 H2))) := by
  have hl := hp.length
  refine ⟨a, xs, rfl, .inr ⟨.of h, fun i m σ' H' => m = xs.length - i ∧ i ≤ xs.length ∧ ∃ r s, p = r.app s ∧ r.len + i = xs.length ∧ I r s σ' H', ⟨xs.length, rfl, Nat.zero_le _, p, .nil, (Prog.app_nil p).symm, by omega, h0⟩, ?_⟩⟩
  rintro i m σ' H' ⟨rfl, hi, r, s, e, l, ir⟩
  have hT : SqT K H' a xs := .of (hk _ _ _ _ ir _ _ h)
  by_cases hlt : i < xs.length
  · obtain ⟨r', c, e2, l1, l2⟩ := Prog.snoc (p := r) (m := xs.length - 1 - i) (by omega)
    subst e2
    rw [Prog.app_assoc] at e
    have hp2 := hp
    rw [e] at hp2
    obtain ⟨y, hy, hf⟩ := PrAt.last hp2 l2
    rw [l1] at hy
    refine .inr ⟨⟨hlt, xs, y, hT, hy⟩, I r' (c.app s), fun σ2 H2 q => ⟨_, by omega, rfl, hlt, r', c.app s, e, by omega, q⟩, fun x H2 hx => ?_⟩
    obtain ⟨rfl, fx⟩ := hx
    have ex : x = y := Option.some.inj ((fx xs hT).symm.trans hy)
    subst ex
    exact hs _ r' c s _ _ (hf.tk (hk _ _ _ _ ir)) e ir
  · have e0 := len_zero (p := r) (by omega)
    subst e0
    have e : p = s := e
    subst e
    exact .inl ⟨by show xs.length ≤ i; omega, hd _ _ ir⟩
end
end My

set_option Elab.async false
set_option linter.all false
set_option maxRecDepth 100000
namespace My
open PySem PySem.Spec PyProof.Rows L2 HT PySem.Builtin
/-! ### t[::-1], t a tuple -/
section
variable {prog : Program} {w : World} {A : Around} {E : Value → Shared → Prop} {s : Shared}
theorem adjust_rev (n : Nat) : Builtin.Slice.sliceAdjust none none (-1) (n : Int) = ((n : Int) - 1, -1) := by
  unfold Builtin.Slice.sliceAdjust
  simp
theorem places_rev (n : Nat) : Builtin.Slice.slicePlaces ((n : Int) - 1) (-1) (-1) = n := by
  unfold Builtin.Slice.slicePlaces
  have h1 : ¬ ((-1 : Int) > 0) := by omega
  rw [if_neg h1, show (- -1 : Int) = 1 by decide, Int.ediv_one]
  split <;> omega
theorem sliceApplied_rev {sl : Addr} {vs : Value} {n : Nat} {Q : Int × Int × Nat → Shared → Prop} (hs : s.heap.IsSliceOf sl .none .none vs) (ps : IsPart vs (some (-1)))
    (h : Q ((n : Int) - 1, -1, n) s) : wpAny (model prog w) A (Builtin.Slice.sliceApplied (.ref sl) (pure (n : Int))) Q E s := by
  obtain ⟨os, hos, hcs, hds⟩ := id hs
  unfold Builtin.Slice.sliceApplied Builtin.Slice.sliceFields
  refine wpAny_bind (wpAny_bind (wpAny_field hos hds (x := .none) rfl (wpAny_bind (wpAny_field hos hds (x := .none) rfl (wpAny_bind (wpAny_field hos hds (x := vs) rfl (wpAny_pure ?_)))))))
  refine wpAny_bind (HT.slicePart_ ps ?_)
  show wpAny _ _ (if ((-1 : Int) == 0) = true then _ else _) _ _ s
  rw [if_neg (by decide)]
  refine wpAny_bind (slicePart_none (wpAny_bind (slicePart_none (wpAny_bind (wpAny_pure ?_)))))
  show wpAny _ _ (match Builtin.Slice.sliceAdjust none none (-1) (n : Int) with | (lo, hi) => pure (lo, (-1 : Int), Builtin.Slice.slicePlaces lo hi (-1))) _ _ s
  rw [adjust_rev n]
  show wpAny _ _ (pure ((n : Int) - 1, (-1 : Int), Builtin.Slice.slicePlaces ((n : Int) - 1) (-1) (-1))) _ _ s
  rw [places_rev]
  exact wpAny_pure h
theorem pick_rev (xs : Array Value) : ((List.range xs.size).filterMap fun (m : Nat) => xs[(((xs.size : Nat) : Int) - 1 + (m : Int) * (-1)).toNat]?).toArray = xs.toList.reverse.toArray := by
  have e : (List.range xs.size).filterMap (fun (m : Nat) => xs[(((xs.size : Nat) : Int) - 1 + (m : Int) * (-1)).toNat]?) = ((List.range xs.size).map fun k => xs.size - 1 - k).filterMap (xs[·]?) := by
    rw [List.filterMap_map]
    have hc : ∀ (l : List Nat) (f g : Nat → Option Value), (∀ m ∈ l, f m = g m) → l.filterMap f = l.filterMap g := by
      intro l f g hfg
      induction l with
      | nil => rfl
      | cons a l ih => rw [List.filterMap_cons, List.filterMap_cons, hfg a (List.mem_cons_self ..), ih fun m hm => hfg m (List.mem_cons_of_mem _ hm)]
    refine hc _ _ _ fun m hm => ?_
    have := List.mem_range.mp hm
    have h2 : (((xs.size : Nat) : Int) - 1 + (m : Int) * (-1)).toNat = xs.size - 1 - m := by omega
    rw [h2]
    rfl
  rw [e, PySem.W.krv_range, List.filterMap_reverse, PySem.W.krv_all]
theorem getItem_tuple_rev {t sl : Addr} {items : Array Value} {vs : Value} {Q : Value → Shared → Prop} (ht : IsTup s.heap t items) (hs : s.heap.IsSliceOf sl .none .none vs) (ps : IsPart vs (some (-1)))
    (h : Q (.ref s.heap.objs.size) { s with heap := s.heap.push { cls := .type "tuple", data := .seq items.toList.reverse.toArray } })
    (hsz : items.size ≤ sizeLine) : wpAny (model prog w) A (getItem (.ref t) (.ref sl)) Q E s := by
  have htake : sizeOk (.seq items.toList.reverse.toArray) := by
    show items.toList.reverse.toArray.size ≤ sizeLine
    rw [List.size_toArray, List.length_reverse, Array.length_toList]
    exact hsz
  obtain ⟨os, hos, hcs, hds⟩ := id hs
  have hTs : s.TypeIs (.ref sl) "slice" := ⟨os, hos, hcs⟩
  unfold getItem
  try with_reducible refine wpAny_holding ?_
  first | refine wpAny_bind (wpAny_pure ?_) | skip
  refine wpAny_bind (wpAny_sequenceKey ht.typeIs (by decide) ?_)
  refine wpAny_bind (wpAny_callSpecial?_slot (name := Str.ofString "__getitem__") ht.typeIs PyProof.Rows.slot_tuple_getitem
    (wpAny_call_entry PyProof.Rows.slot_tuple_getitem ht.typeIs entry_tuple_getitem ?_ (args_tuple_getitem _ _)))
  show wpAny _ _ (Builtin.Tuple.tupleItemsOf (.ref t) >>= _) _ _ s
  refine wpAny_bind (tupleItemsOf_ ht ?_)
  refine wpAny_bind (wpAny_typeOf hTs ?_)
  rw [if_pos (by decide)]
  refine wpAny_bind (sliceApplied_rev hs ps ?_)
  have hno : ¬ ((((items.size : Nat) : Int) - 1 == 0 && (-1 : Int) == 1 && items.size == items.size) = true) := by
    intro q
    rw [Bool.and_eq_true, Bool.and_eq_true] at q
    exact absurd q.1.2 (by decide)
  show wpAny _ _ (if (((items.size : Nat) : Int) - 1 == 0 && (-1 : Int) == 1 && items.size == items.size) = true then _ else _) _ _ s
  rw [if_neg hno, pick_rev]
  first
    | exact wpAny_bind (m := Builtin.Tuple.tupleExact _) (wpAny_newObj_type (wpAny_pure ⟨_, rfl, wpAny_pure h⟩) htake)
    | exact wpAny_bind (m := Builtin.Tuple.tupleExact _) (wpAny_newObj_type (wpAny_bind (wpAny_pure (wpAny_pure ⟨_, rfl, wpAny_pure h⟩))) htake)
    | exact wpAny_bind (wpAny_bind (m := Builtin.Tuple.tupleExact _) (wpAny_newObj_type (wpAny_pure (wpAny_pure ⟨_, rfl, wpAny_pure h⟩)) htake))
    | exact wpAny_bind (wpAny_bind (m := Builtin.Tuple.tupleExact _) (wpAny_newObj_type (wpAny_pure ⟨_, rfl, wpAny_pure h⟩) htake))
end
section
variable {X : Cx} {pos : Pos}
def tRevT (K : PySem.W.Frag) (te : TE) : TE := fun σ H Q => te σ H fun x H1 => ∃ a xs, x = .ref a ∧ SqT K H1 a xs ∧ ∀ p, H1 p = none → Q (.ref p) (upd H1 p (.tup xs.reverse))
theorem pe_revT {e : Expr} {te : TE} {k : Nat} {p1 p2 p3 pos : Pos} (he : PE X e te) : PE X (.Subscript e (.Slice none none (some (.UnaryOp .USub (.Constant (.int 1) k p1) p2)) p3) pos) (tRevT X.K te) := by
  refine ⟨fun pins s σ H Q I h => ?_⟩
  refine Subscript_ (thn (he.run pins s σ H _ I h) fun v s1 ⟨x, H1, I1, r1, q1⟩ => ?_)
  obtain ⟨a, xs, ex, hx, q⟩ := q1
  subst ex
  cases r1
  have hst : PO X (some (.UnaryOp .USub (.Constant (.int 1) k p1) p2)) (tPart (tUn (rU fun i => .int (-i)) (tC (.int 1)))) := po_some (pe_un un_neg pe_int)
  refine wpAny_Slice (thn (po_none.run pins s1 σ H1 (fun o H2 => o = none ∧ H2 = H1) I1 ⟨rfl, rfl⟩) fun vl s2 ⟨l, H2, I2, pl, el, e2⟩ => ?_)
  subst el e2
  refine thn (po_none.run pins s2 σ H2 (fun o H3 => o = none ∧ H3 = H2) I2 ⟨rfl, rfl⟩) fun vu s3 ⟨u, H3, I3, pu, eu, e3⟩ => ?_
  subst eu e3
  cases pl
  cases pu
  refine thn (hst.run pins s3 σ H3 (fun o H4 => o = some (-1) ∧ H4 = H3) I3 ⟨1, rfl, -1, rfl, rfl, rfl⟩) fun vs s4 ⟨o, H4, I4, ps, eo, e4⟩ => ?_
  subst eo e4
  have I5 : Inv X pins σ H4 { s4 with heap := s4.heap.push { cls := .type "slice", data := .fields #[.none, .none, vs] } } := I4.kept (t' := s4.toks) fun b ob q => Heap.get?_push_of_some _ q
  obtain ⟨its, r, ht, hz⟩ := I5.tuple hx
  have hlen := r.length
  show wpAny (model X.prog X.w) X.A (subscriptTail e (.Slice none none (some (.UnaryOp .USub (.Constant (.int 1) k p1) p2)) p3) (.ref a) (.ref s4.heap.objs.size)) (EP X pins σ Q) X.xe { s4 with heap := s4.heap.push { cls := .type "slice", data := .fields #[.none, .none, vs] } }
  refine tail_any (ops := [.ref a, .ref s4.heap.objs.size]) ht.typeIs (PyProof.Rows.slot_tuple_getitem.lookup) ?_ (by with_unfolding_all rfl)
  refine getItem_tuple_rev ht (Heap.IsSliceOf.new _ .none .none vs) ps ?_ (by rw [List.size_toArray]; omega)
  refine ⟨.ref _, _, I5.laid (t' := s4.toks) (o := .tup xs.reverse) (fun b ob q => Heap.get?_push_of_some _ q) (Nat.le_refl _) ?_, rfl, q _ (I5.hok.fresh (Nat.le_refl _))⟩
  exact ⟨by rw [List.length_reverse]; omega, _, r.reverse, IsTup.new _ _⟩
theorem r_revT {K : PySem.W.Frag} {te : TE} {σ : L2.St} {H : Hp} {Q : VK} (q : te σ H fun x H1 => ∃ a xs, x = .ref a ∧ SqT K H1 a xs ∧ ∀ p, H1 p = none → Q (.ref p) (upd H1 p (.tup xs.reverse))) : tRevT K te σ H Q := q
theorem r_revTT {K : PySem.W.Frag} {H : Hp} {a : Addr} {xs : List V} {R : List V → Addr → Prop} (h : H a = some (.tup xs)) (q : ∀ p, H p = none → R xs p) : ∃ (b : Addr) (ys : List V), V.ref a = .ref b ∧ SqT K H b ys ∧ ∀ p, H p = none → R ys p := ⟨a, xs, rfl, .of h, q⟩
end
end My

set_option Elab.async false
set_option linter.all false
set_option maxRecDepth 100000
namespace My
open PySem PySem.Spec PyProof.Rows L2
/-! ### terms: powers and numbers -/
abbrev Terms := List (Int × Int)
/-- the number of a power: the sum of the numbers with it -/
def cof : Terms → Int → Int
  | [], _ => 0
  | p :: l, k => (if p.1 = k then p.2 else 0) + cof l k
/-- ascending powers, no number 0 -/
structure Canon (l : Terms) : Prop where
  asc : l.Pairwise fun p q => p.1 < q.1
  nz : ∀ p ∈ l, p.2 ≠ 0
theorem cof_app : ∀ (l m : Terms) (k : Int), cof (l ++ m) k = cof l k + cof m k
  | [], m, k => by rw [List.nil_append, cof, Int.zero_add]
  | p :: l, m, k => by rw [List.cons_append, cof, cof, cof_app l m k, Int.add_assoc]
theorem cof_none : ∀ {l : Terms} {k : Int}, (∀ p ∈ l, p.1 ≠ k) → cof l k = 0
  | [], _, _ => rfl
  | p :: l, k, h => by
    rw [cof, if_neg (h p List.mem_cons_self), cof_none fun q hq => h q (List.mem_cons_of_mem _ hq), Int.add_zero]
theorem Canon.nil : Canon [] := ⟨.nil, fun _ h => absurd h (by simp)⟩
theorem Canon.tail {p : Int × Int} {l : Terms} (h : Canon (p :: l)) : Canon l := ⟨(List.pairwise_cons.mp h.asc).2, fun q hq => h.nz q (List.mem_cons_of_mem _ hq)⟩
theorem Canon.head {p : Int × Int} {l : Terms} (h : Canon (p :: l)) : cof (p :: l) p.1 = p.2 := by
  rw [cof, if_pos rfl, cof_none fun q hq => by have := (List.pairwise_cons.mp h.asc).1 q hq; omega, Int.add_zero]
theorem Canon.low {p : Int × Int} {l : Terms} (h : Canon (p :: l)) {k : Int} (hk : k < p.1) : cof (p :: l) k = 0 :=
  cof_none fun q hq => by
    rcases List.mem_cons.mp hq with rfl | hq
    · omega
    · have := (List.pairwise_cons.mp h.asc).1 q hq; omega
/-- what the numbers are, the canonical terms are -/
theorem Canon.ext : ∀ {l m : Terms}, Canon l → Canon m → (∀ k, cof l k = cof m k) → l = m
  | [], [], _, _, _ => rfl
  | p :: l, [], h, _, e => absurd ((h.head.symm.trans (e p.1)).trans rfl) (h.nz p List.mem_cons_self)
  | [], q :: m, _, h, e => absurd ((h.head.symm.trans (e q.1).symm).trans rfl) (h.nz q List.mem_cons_self)
  | p :: l, q :: m, h, h', e => by
    have hp := h.nz p List.mem_cons_self
    have hq := h'.nz q List.mem_cons_self
    have e1 : p.1 = q.1 := by
      rcases Int.lt_trichotomy p.1 q.1 with a | a | a
      · have := e p.1
        rw [h.head, h'.low a] at this
        exact absurd this hp
      · exact a
      · have := e q.1
        rw [h'.head, h.low a] at this
        exact absurd this.symm hq
    have e2 : p.2 = q.2 := by
      have := e p.1
      rw [h.head, e1, h'.head] at this
      exact this
    have e3 : p = q := Prod.ext e1 e2
    subst e3
    have e4 : l = m := Canon.ext h.tail h'.tail fun k => by
      have := e k
      rw [cof, cof] at this
      omega
    rw [e4]
theorem Canon.zero {l : Terms} (h : Canon l) (e : ∀ k, cof l k = 0) : l = [] := Canon.ext h Canon.nil e
/-- the terms by ascending keys -/
theorem canon_of {ys : List Int} (h : ys.Pairwise (· < ·)) (f : Int → Int) : Canon ((ys.filter fun k => decide (f k ≠ 0)).map fun k => (k, f k)) := by
  refine ⟨List.pairwise_map.mpr ((h.filter _).imp fun a => a), fun p hp => ?_⟩
  obtain ⟨k, hk, rfl⟩ := List.mem_map.mp hp
  simpa using (List.mem_filter.mp hk).2
theorem cof_of : ∀ {ys : List Int}, ys.Pairwise (· < ·) → ∀ (f : Int → Int) (k : Int), cof ((ys.filter fun k => decide (f k ≠ 0)).map fun k => (k, f k)) k = if k ∈ ys then f k else 0
  | [], _, f, k => by simp [cof]
  | y :: ys, h, f, k => by
    have ih := cof_of (List.pairwise_cons.mp h).2 f k
    have hy := (List.pairwise_cons.mp h).1
    by_cases e : k = y
    · subst e
      have hn : ¬ k ∈ ys := fun hm => by have := hy k hm; omega
      rw [if_neg hn] at ih
      by_cases z : f k = 0
      · rw [List.filter_cons_of_neg (by simpa using z), ih, if_pos (by simp), z]
      · rw [List.filter_cons_of_pos (by simpa using z), List.map_cons, cof, ih, if_pos rfl, if_pos (by simp), Int.add_zero]
    · have em : (k ∈ y :: ys) ↔ k ∈ ys := by simp [e]
      by_cases z : f y = 0
      · rw [List.filter_cons_of_neg (by simpa using z), ih]; simp only [em]
      · rw [List.filter_cons_of_pos (by simpa using z), List.map_cons, cof, ih, if_neg (fun h => e h.symm), Int.zero_add]; simp only [em]
theorem Canon.le_len {l m : Terms} (h : Canon l) : (∀ p ∈ l, p.1 ∈ m.map (·.1)) → l.length ≤ m.length := by
  intro hs
  have nd : (l.map (·.1)).Nodup := (List.pairwise_map.mpr (h.asc.imp fun a => by omega))
  have key : ∀ (xs ys : List Int), xs.Nodup → (∀ x ∈ xs, x ∈ ys) → xs.length ≤ ys.length := by
    intro xs
    induction xs with
    | nil => intro ys _ _; exact Nat.zero_le _
    | cons x xs ih =>
      intro ys hn hs
      have hx := hs x List.mem_cons_self
      obtain ⟨hxn, hn⟩ := List.nodup_cons.mp hn
      have h1 := ih (ys.erase x) hn fun z hz => (List.mem_erase_of_ne (by rintro rfl; exact hxn hz)).mpr (hs z (List.mem_cons_of_mem _ hz))
      rw [List.length_erase_of_mem hx] at h1
      have h2 := List.length_pos_of_mem hx
      rw [List.length_cons]
      omega
  have := key (l.map (·.1)) (m.map (·.1)) nd fun x hx => by
    obtain ⟨p, hp, rfl⟩ := List.mem_map.mp hx
    exact hs p hp
  simpa using this

/-! ### sorted(d), d a dict of int keys, any number of them -/
def rSortDI : List V → Hp → VK → Prop := fun xs H Q => ∃ (a : Addr) (kvs : List (Key × V)) (ks : List Int), xs = [.ref a] ∧ Rd H a (.dK kvs) ∧ kvs.map (·.1) = ks.map Sum.inl ∧
    ∀ (ys : List Int) (p : Addr), ys.Perm ks → ys.Pairwise (· ≤ ·) → H p = none → Q (.ref p) (upd H p (.lst (ys.map V.int)))
theorem call_sortedDA {X : Cx} (hcalm : X.calm = true := by rfl) : CallR X (.builtin "sorted") rSortDI := by
  intro pins s σ H xs us Q I r q
  obtain ⟨a, kvs, ks, ex, hd, hks, q⟩ := q
  subst ex
  obtain ⟨u, eu, rx⟩ := vals1 r
  subst eu
  cases rx
  obtain ⟨z, lo, vs, rel, dd⟩ := dk_rd I.hok hd
  obtain ⟨ep, hat⟩ := dd.dictAt
  have hkeys : vs.map (·.1) = ks.map Sum.inl := rel.keys.symm.trans hks
  have hl : vs.length = ks.length := by
    have e := congrArg List.length hkeys
    rw [List.length_map, List.length_map] at e
    exact e
  have h16 : vs.length ≤ sizeLine := by rw [← rel.length]; exact z
  refine Calls.call_function_entry PyProof.Rows.kind_sorted PyProof.Rows.plain_sorted PyProof.Rows.entry_sorted (PyProof.Rows.args_sorted1 _) ?_
  unfold Builtin.«sorted»
  refine wpAny_bind (m := checkCount "sorted" 1 1 _) (wpAny_pure ?_)
  refine wpAny_bind (PySem.W.kdu_collect (A := X.A.in1) (PySem.W.kdl_dict (knd := mixKind X.prog X.w) (kvs := vs) (ep := ep) lo) (I.ok.hd hcalm) hat h16 fun h' tk acc hk hacc => ?_)
  have hal : acc.toList.length = ks.length := by rw [Array.length_toList, hacc.1, hl]
  have hS : IntsAre acc.toList ks := ints_each hal fun j v e => by
    obtain ⟨k, x, e1, e2⟩ := hacc.2 j v (by rw [← Array.getElem?_toList]; exact e)
    have e3 : (vs.map (·.1))[j]? = some k := by rw [List.getElem?_map, e1]; rfl
    rw [hkeys, List.getElem?_map] at e3
    cases e4 : ks[j]? with
    | none => rw [e4] at e3; cases e3
    | some y =>
      rw [e4] at e3
      have e5 : Sum.inl y = k := Option.some.inj e3
      subst e5
      rcases keyIs_shape (show keyIs (Sum.inl y) v = true from e2) with ⟨i, t, ek, ev⟩ | ⟨z, t, ek, ev⟩
      · cases ek
        exact ⟨y, t, rfl, ev⟩
      · cases ek
  have I1 : Inv X pins σ H { s with heap := h', toks := tk } := I.kept hk
  have h17 : acc.toList.length ≤ sizeLine := by rw [hal, ← hl]; exact h16
  refine wpAny_bind (wpAny_newList ?_ h17)
  have hoL : (h'.push (seqObj "list" acc.toList.toArray 0)).get? h'.objs.size = some (seqObj "list" acc.toList.toArray 0) := Heap.get?_push_size _ rfl
  show wpAny _ _ _ _ _ { s with heap := h'.push (seqObj "list" acc.toList.toArray 0), toks := tk }
  refine wpAny_bind (wpAny_holding (wpAny_call_entry PyProof.Rows.slot_list_sort ⟨_, hoL, rfl⟩ PyProof.Rows.entry_list_sort
    (SrtO.list_sort_ord (s := { s with heap := h'.push (seqObj "list" acc.toList.toArray 0), toks := tk }) SrtO.swo_int hoL h17 (fun h2 => SrtO.ints_sortable hS h2) fun out h1 h2 => ⟨_, rfl, ?_⟩) (PyProof.Rows.args_list_sort _)))
  obtain ⟨k1, k2, k3⟩ := SrtO.ints_out hS h1 h2
  obtain ⟨e', he'⟩ := PyProof.Rows.sortedHeap_at (vs := acc.toList) (out := out.toArray) hoL
  have hlen : ((out.map SrtO.iv).map V.int).length ≤ sizeLine := by
    rw [List.length_map, k2.length_eq, ← hl]
    exact h16
  refine wpAny_pure ⟨_, rfl, .ref h'.objs.size, upd H h'.objs.size (.lst ((out.map SrtO.iv).map V.int)), I1.laid (t' := tk) (fun b u e => ?_) (Nat.le_refl _)
    (show ObjOk X.prog X.w _ _ _ (.lst ((out.map SrtO.iv).map V.int)) from ⟨hlen, out, e', vals_of_ints k1, he'⟩), rfl, q _ _ k2 k3 (I1.hok.fresh (Nat.le_refl _))⟩
  have hb : b < h'.objs.size := Heap.lt_size e
  rw [PyProof.Rows.sortedHeap_old (Nat.ne_of_lt hb) (by rw [size_push']; exact Nat.lt_succ_of_lt hb)]
  exact Heap.get?_push_of_some _ e
/-- sorted(d), texts as keys -/
def rSortDS : List V → Hp → VK → Prop := fun xs H Q => ∃ (a : Addr) (kvs : List (Key × V)) (ks : List Str), xs = [.ref a] ∧ Rd H a (.dK kvs) ∧ kvs.map (·.1) = ks.map Sum.inr ∧ ks.length < 64 ∧
    ∀ ys p, ys.Perm ks → sortedS ys = true → H p = none → Q (.ref p) (upd H p (.lst (ys.map V.str)))
theorem call_sortedDS {X : Cx} (hcalm : X.calm = true := by rfl) : CallR X (.builtin "sorted") rSortDS := call_sortedD hcalm
/-! ### jars: dicts of ints by ints -/
def cfK (kvs : List (Key × V)) (k : Int) : Int := match valV kvs (.inl k) with | some (.int n) => n | _ => 0
structure JarK (kvs : List (Key × V)) : Prop where
  prs : ∀ p ∈ kvs, ∃ k n : Int, p = (Sum.inl k, V.int n)
  nd : (kvs.map (·.1)).Nodup
theorem mem_put {kvs : List (Key × V)} {k : Key} {v : V} {p : Key × V} (h : p ∈ putK kvs k v) : p ∈ kvs ∨ p = (k, v) := by
  unfold putK at h
  split at h
  · obtain ⟨q, hq, e⟩ := List.mem_map.mp h
    split at e
    · rename_i ek; right; rw [← e, ek]
    · left; rw [← e]; exact hq
  · rcases List.mem_append.mp h with h | h
    · exact .inl h
    · exact .inr (List.mem_singleton.mp h)
theorem keys_put (kvs : List (Key × V)) (k : Key) (v : V) : (putK kvs k v).map (·.1) = if (kvs.any fun kv => decide (kv.1 = k)) = true then kvs.map (·.1) else kvs.map (·.1) ++ [k] := by
  unfold putK
  split
  · rw [List.map_map]
    refine List.map_congr_left fun p _ => ?_
    show (if p.1 = k then (p.1, v) else p).1 = p.1
    split <;> rfl
  · rw [List.map_append]; rfl
theorem nodup_put {kvs : List (Key × V)} (h : (kvs.map (·.1)).Nodup) (k : Key) (v : V) : ((putK kvs k v).map (·.1)).Nodup := by
  rw [keys_put]
  split
  · exact h
  · rename_i hn
    refine List.nodup_append.mpr ⟨h, by simp, fun a ha b hb e => hn ?_⟩
    have hb := List.mem_singleton.mp hb
    subst hb
    subst e
    obtain ⟨p, hp, e⟩ := List.mem_map.mp ha
    exact List.any_eq_true.mpr ⟨p, hp, decide_eq_true e⟩
theorem JarK.nil : JarK [] := ⟨fun _ h => absurd h (by simp), by simp⟩
theorem JarK.put {kvs : List (Key × V)} (h : JarK kvs) (k n : Int) : JarK (putK kvs (.inl k) (.int n)) := by
  refine ⟨fun p hp => ?_, nodup_put h.nd _ _⟩
  rcases mem_put hp with h1 | rfl
  · exact h.prs p h1
  · exact ⟨k, n, rfl⟩
theorem cfK_put (kvs : List (Key × V)) (k n j : Int) : cfK (putK kvs (.inl k) (.int n)) j = if j = k then n else cfK kvs j := by
  unfold cfK
  rw [valV_put]
  by_cases e : j = k
  · subst e; rw [if_pos rfl, if_pos rfl]
  · rw [if_neg (fun h => e (Sum.inl.inj h)), if_neg e]
theorem val_mem {kvs : List (Key × V)} {k : Key} {v : V} (h : valV kvs k = some v) : (k, v) ∈ kvs := by
  unfold valV at h
  cases e : kvs.find? fun kv => decide (kv.1 = k) with
  | none => rw [e] at h; cases h
  | some p =>
    rw [e] at h
    have h1 := List.mem_of_find?_eq_some e
    have h2 := List.find?_some e
    have h3 : p.1 = k := of_decide_eq_true h2
    have h4 : p.2 = v := Option.some.inj h
    rw [← h3, ← h4]
    exact h1
theorem val_none {kvs : List (Key × V)} {k : Key} (h : valV kvs k = none) : ∀ p ∈ kvs, p.1 ≠ k := by
  intro p hp e
  unfold valV at h
  have h2 : kvs.find? (fun kv => decide (kv.1 = k)) = none := by
    cases q : kvs.find? (fun kv => decide (kv.1 = k)) with
    | none => rfl
    | some _ => rw [q] at h; cases h
  have := List.find?_eq_none.mp h2 p hp
  exact this (decide_eq_true e)
theorem JarK.val {kvs : List (Key × V)} (h : JarK kvs) (k : Int) : (valV kvs (.inl k)).getD (.int 0) = .int (cfK kvs k) := by
  unfold cfK
  cases e : valV kvs (.inl k) with
  | none => rfl
  | some v =>
    obtain ⟨k', n, e2⟩ := h.prs _ (val_mem e)
    cases e2
    rfl
theorem JarK.some {kvs : List (Key × V)} (h : JarK kvs) {k : Int} (m : Sum.inl k ∈ kvs.map (·.1)) : valV kvs (.inl k) = some (.int (cfK kvs k)) := by
  have hv := h.val k
  cases e : valV kvs (.inl k) with
  | none =>
    obtain ⟨p, hp, ek⟩ := List.mem_map.mp m
    exact absurd ek (val_none e p hp)
  | some v => rw [e] at hv; exact congrArg Option.some hv
theorem JarK.keys {kvs : List (Key × V)} (h : JarK kvs) : ∃ ks : List Int, kvs.map (·.1) = ks.map Sum.inl ∧ ks.Nodup ∧ (∀ k, ¬ k ∈ ks → cfK kvs k = 0) ∧ ks.length = kvs.length := by
  have hex : ∀ {l : List (Key × V)}, (∀ p ∈ l, ∃ k n : Int, p = (Sum.inl k, V.int n)) → ∃ ks : List Int, l.map (·.1) = ks.map Sum.inl := by
    intro l
    induction l with
    | nil => intro _; exact ⟨[], rfl⟩
    | cons p l ih =>
      intro hl
      obtain ⟨k, n, e⟩ := hl p List.mem_cons_self
      obtain ⟨ks, e2⟩ := ih fun q hq => hl q (List.mem_cons_of_mem _ hq)
      exact ⟨k :: ks, by rw [List.map_cons, List.map_cons, e2, e]⟩
  obtain ⟨ks, e⟩ := hex h.prs
  refine ⟨ks, e, ?_, fun k hk => ?_, ?_⟩
  · have := h.nd
    rw [e] at this
    exact (List.pairwise_map.mp this).imp fun a b => a (congrArg Sum.inl b)
  · unfold cfK
    cases q : valV kvs (.inl k) with
    | none => rfl
    | some v =>
      have hm : Sum.inl k ∈ kvs.map (·.1) := List.mem_map.mpr ⟨_, val_mem q, rfl⟩
      rw [e] at hm
      obtain ⟨k', hk', e'⟩ := List.mem_map.mp hm
      cases e'
      exact absurd hk' hk
  · have := congrArg List.length e
    simpa using this.symm
/-- the jar at a: its numbers c, at most n powers -/
def JarAt (H : Hp) (a : Addr) (n : Nat) (c : Int → Int) : Prop := ∃ kvs, H a = some (.dK kvs) ∧ JarK kvs ∧ kvs.length ≤ n ∧ ∀ k, cfK kvs k = c k
theorem JarAt.new {H : Hp} {p : Addr} : JarAt (upd H p (.dK [])) p 0 fun _ => 0 := ⟨[], upd_same, .nil, Nat.le_refl _, fun _ => rfl⟩
theorem JarAt.same {H H' : Hp} {a : Addr} {n : Nat} {c : Int → Int} (h : JarAt H a n c) (s : Same H H') : JarAt H' a n c := let ⟨kvs, e, r⟩ := h; ⟨kvs, s _ _ e, r⟩
theorem JarAt.keep {H : Hp} {a p : Addr} {o : HO} {n : Nat} {c : Int → Int} (h : JarAt H a n c) (q : H p = none) : JarAt (upd H p o) a n c := let ⟨kvs, e, r⟩ := h; ⟨kvs, h_keep e q, r⟩
theorem JarAt.but {H H' : Hp} {a b : Addr} {n : Nat} {c : Int → Int} (h : JarAt H a n c) (ne : a ≠ b) (s : But b H H') : JarAt H' a n c := let ⟨kvs, e, r⟩ := h; ⟨kvs, s _ _ ne e, r⟩
theorem JarAt.ext {H : Hp} {a : Addr} {n : Nat} {c d : Int → Int} (h : JarAt H a n c) (e : ∀ k, c k = d k) : JarAt H a n d := let ⟨kvs, e1, r1, r2, r3⟩ := h; ⟨kvs, e1, r1, r2, fun k => (r3 k).trans (e k)⟩
theorem JarAt.ne {H : Hp} {a p : Addr} {n : Nat} {c : Int → Int} (h : JarAt H a n c) (q : H p = none) : p ≠ a := let ⟨_, e, _⟩ := h; (ne_of_none e q).symm
/-- k is a key of the jar -/
def JarHas (H : Hp) (a : Addr) (k : Int) : Prop := ∃ kvs : List (Key × V), H a = some (.dK kvs) ∧ Sum.inl k ∈ kvs.map (·.1)
theorem JarHas.same {H H' : Hp} {a : Addr} {k : Int} (h : JarHas H a k) (s : Same H H') : JarHas H' a k := let ⟨kvs, e, r⟩ := h; ⟨kvs, s _ _ e, r⟩
def addAt (c : Int → Int) (k v : Int) : Int → Int := fun j => if j = k then v else c j
section
variable {σ : L2.St} {H : Hp} {Q : VK} {K : PySem.W.Frag} {td ty tx tv : TE} {a : Addr} {n : Nat} {c : Int → Int} {D : Ends}
theorem r_dnew (q : ∀ p, H p = none → Q (.ref p) (upd H p (.dK []))) : tDNewK σ H Q := q
theorem r_dget2 (q : td σ H fun x H1 => ∃ a, x = .ref a ∧ IsD H1 a ∧ ty σ H1 fun y H2 => tx σ H2 fun z H3 => ∃ o, DGet H3 a y o ∧ Q (o.getD z) H3) : tDGet2 td ty tx σ H Q := q
theorem r_dget (q : td σ H fun x H1 => ty σ H1 fun y H2 => ∃ a v, x = .ref a ∧ DGet H2 a y (some v) ∧ Q v H2) : tDGet td ty σ H Q := q
theorem r_dput (q : tv σ H fun v H1 => td σ H1 fun x H2 => ty σ H2 fun y H3 => ∃ a H4, x = .ref a ∧ DPut H3 a y v H4 ∧ D.nx σ H4) : sDPut td ty tv D σ H := q
theorem r_dsetd (q : td σ H fun x H1 => ∃ a, x = .ref a ∧ IsD H1 a ∧ ty σ H1 fun y H2 => tx σ H2 fun z H3 => ∃ (kvs : List (Key × V)) (k : Key), H3 a = some (.dK kvs) ∧ y = kV k ∧ kvs.length < sizeLine ∧
  (∀ v, valV kvs k = some v → Q v H3) ∧ (valV kvs k = none → Q z (upd H3 a (.dK (putK kvs k z))))) : tDSetd td ty tx σ H Q := q
theorem r_isD {kvs : List (Key × V)} {R : Addr → Prop} (h : H a = some (.dK kvs)) (q : R a) : ∃ b, V.ref a = .ref b ∧ IsD H b ∧ R b := ⟨a, rfl, .inl ⟨kvs, .inl h⟩, q⟩
theorem JarAt.isD {R : Addr → Prop} (h : JarAt H a n c) (q : R a) : ∃ b, V.ref a = .ref b ∧ IsD H b ∧ R b := let ⟨_, e, _⟩ := h; r_isD e q
theorem JarAt.dget0 (h : JarAt H a n c) (k : Int) : ∃ o, DGet H a (.int k) o ∧ o.getD (.int 0) = .int (c k) := by
  obtain ⟨kvs, e, hk, _, hc⟩ := h
  exact ⟨_, DGet.k (k := .inl k) e, by rw [hk.val, hc]⟩
theorem JarAt.dput {k v : Int} (h : JarAt H a n c) (hn : n ≤ 1000000) : ∃ H', DPut H a (.int k) (.int v) H' ∧ But a H H' ∧ (∀ p, H p = none → p ≠ a → H' p = none) ∧ JarAt H' a (n + 1) (addAt c k v) := by
  obtain ⟨kvs, e, hk, hl, hc⟩ := h
  refine ⟨_, DPut.k (k := .inl k) e (Nat.lt_of_le_of_lt (Nat.le_trans hl hn) (by decide)), But.self (But.refl a H), fun p hp np => (upd_ne np).trans hp, _, upd_same, hk.put k v, ?_, fun j => ?_⟩
  · exact Nat.le_trans (length_putK _ _ _) (by omega)
  · rw [cfK_put, hc]; rfl
theorem JarAt.dget {k : Int} (h : JarAt H a n c) (m : JarHas H a k) : DGet H a (.int k) (some (.int (c k))) := by
  obtain ⟨kvs, e, hk, _, hc⟩ := h
  obtain ⟨kvs', e', hm⟩ := m
  cases e.symm.trans e'
  have := DGet.k (k := .inl k) e
  rw [hk.some hm, hc] at this
  exact this
theorem rSortDJ (h : JarAt H a n c) (q : ∀ (ys : List Int) (p : Addr), ys.Pairwise (· < ·) → (∀ k, ¬ k ∈ ys → c k = 0) → ys.length ≤ n → (∀ k ∈ ys, JarHas H a k) → H p = none → Q (.ref p) (upd H p (.lst (ys.map V.int)))) : rSortDI [.ref a] H Q := by
  obtain ⟨kvs, e, hk, hl, hc⟩ := h
  obtain ⟨ks, e1, e2, e3, e4⟩ := hk.keys
  refine ⟨a, kvs, ks, rfl, .inl e, e1, fun ys p hp hs hn => q ys p ?_ (fun k hy => ?_) ?_ (fun k hy => ?_) hn⟩
  · have nd : ys.Nodup := hp.nodup_iff.mpr e2
    have : ys.Pairwise fun x y => x ≤ y ∧ x ≠ y := List.Pairwise.and hs nd
    exact this.imp fun h => by omega
  · rw [← hc]
    exact e3 k fun hm => hy (hp.mem_iff.mpr hm)
  · rw [hp.length_eq, e4]; exact hl
  · exact ⟨kvs, e, by rw [e1]; exact List.mem_map.mpr ⟨k, hp.mem_iff.mp hy, rfl⟩⟩
end
/-- pairs of ints, laid as tuples -/
def TermsL (H : Hp) : List V → Terms → Prop
  | [], ts => ts = []
  | v :: vs, ts => ∃ b p us, ts = p :: us ∧ v = .ref b ∧ H b = some (.tup [.int p.1, .int p.2]) ∧ TermsL H vs us
theorem TermsL.tk {H H' : Hp} (t : Tk H H') : ∀ {vs : List V} {ts : Terms}, TermsL H vs ts → TermsL H' vs ts
  | [], _, h => h
  | _ :: _, _, ⟨b, p, us, e1, e2, e3, e4⟩ => ⟨b, p, us, e1, e2, t _ _ e3, e4.tk t⟩
theorem TermsL.app {H : Hp} : ∀ {vs ws : List V} {ts us : Terms}, TermsL H vs ts → TermsL H ws us → TermsL H (vs ++ ws) (ts ++ us)
  | [], ws, ts, us, h, h' => by rw [show ts = [] from h]; exact h'
  | _ :: _, ws, _, us, ⟨b, p, qs, e1, e2, e3, e4⟩, h' => ⟨b, p, qs ++ us, by rw [e1]; rfl, e2, e3, e4.app h'⟩
theorem TermsL.length {H : Hp} : ∀ {vs : List V} {ts : Terms}, TermsL H vs ts → vs.length = ts.length
  | [], ts, h => by rw [show ts = [] from h]; rfl
  | _ :: _, _, ⟨b, p, qs, e1, e2, e3, e4⟩ => by rw [e1, List.length_cons, List.length_cons, e4.length]
theorem TermsL.one {H : Hp} {b : Addr} {x y : Int} (h : H b = some (.tup [.int x, .int y])) : TermsL H [.ref b] [(x, y)] := ⟨b, (x, y), [], rfl, rfl, h, rfl⟩
theorem TermsL.at {H : Hp} : ∀ {vs : List V} {ts : Terms} (i : Nat) {v : V}, TermsL H vs ts → vs[i]? = some v → ∃ b p, v = .ref b ∧ ts[i]? = some p ∧ H b = some (.tup [.int p.1, .int p.2])
  | [], _, _, _, _, h => by cases h
  | _ :: _, _, 0, _, ⟨b, p, qs, e1, e2, e3, e4⟩, h => by
    cases h
    exact ⟨b, p, e2, by rw [e1]; rfl, e3⟩
  | _ :: _, _, i + 1, v, ⟨b, p, qs, e1, e2, e3, e4⟩, h => by
    obtain ⟨b', p', x1, x2, x3⟩ := TermsL.at i e4 h
    exact ⟨b', p', x1, by rw [e1]; exact x2, x3⟩
/-- a list of pairs of ints -/
def TermsAt (H : Hp) (l : Addr) (ts : Terms) : Prop := ∃ vs, H l = some (.lst vs) ∧ TermsL H vs ts
theorem TermsAt.same {H H' : Hp} {l : Addr} {ts : Terms} (h : TermsAt H l ts) (s : Same H H') : TermsAt H' l ts := let ⟨vs, e, e2⟩ := h; ⟨vs, s _ _ e, e2.tk (Tk.same s)⟩
theorem TermsAt.nil {H : Hp} {l : Addr} (h : TermsAt H l []) : H l = some (.lst []) := by
  obtain ⟨as, e, e2⟩ := h
  cases as with
  | nil => exact e
  | cons a r => obtain ⟨_, _, _, e, _⟩ := e2; cases e
/-! ### the same as data -/
def pairD (p : Int × Int) : PyData := .tuple [.int p.1, .int p.2]
theorem TermsL.dp {K : PySem.W.Frag} {H : Hp} : ∀ {vs : List V} {ts : Terms}, TermsL H vs ts → DpAll K H vs (ts.map pairD)
  | [], ts, h => by rw [show ts = [] from h]; exact .nil
  | _ :: _, _, ⟨b, p, qs, e1, e2, e3, e4⟩ => by
    subst e1 e2
    exact .cons (.tup (.of e3) (.cons (.int _) (.cons (.int _) .nil))) e4.dp
theorem TermsAt.dp {K : PySem.W.Frag} {H : Hp} {l : Addr} {ts : Terms} (h : TermsAt H l ts) : Dp K H (.ref l) (.list (ts.map pairD)) := let ⟨_, e, e2⟩ := h; .lst (.of e) e2.dp
theorem eqv_pair (p q : Int × Int) : PyData.eqv (pairD p) (pairD q) = decide (p = q) := by
  obtain ⟨a, b⟩ := p
  obtain ⟨c, d⟩ := q
  have e : decide ((a, b) = (c, d)) = (decide (a = c) && decide (b = d)) := by
    rw [← Bool.decide_and]
    simp
  rw [e]
  simp [pairD, PyData.eqv, PyData.eqvAll]
  by_cases h1 : a = c <;> by_cases h2 : b = d <;> simp [h1, h2]
theorem eqvAll_pairs : ∀ (ts us : Terms), PyData.eqvAll (ts.map pairD) (us.map pairD) = decide (ts = us)
  | [], [] => by simp [PyData.eqvAll]
  | [], _ :: _ => by simp [PyData.eqvAll]
  | _ :: _, [] => by simp [PyData.eqvAll]
  | p :: ts, q :: us => by
    rw [List.map_cons, List.map_cons, PyData.eqvAll, eqv_pair, eqvAll_pairs ts us, ← Bool.decide_and]
    simp
theorem eqv_terms (ts us : Terms) : PyData.eqv (.list (ts.map pairD)) (.list (us.map pairD)) = decide (ts = us) := by
  rw [PyData.eqv]; exact eqvAll_pairs ts us
/-- data that == can walk -/
def Lay (n : Nat) (d : PyData) : Prop := d.canLay0 = true ∧ d.depth ≤ n
theorem Lay.mono {m n : Nat} {d : PyData} (h : Lay m d) (l : m ≤ n) : Lay n d := ⟨h.1, Nat.le_trans h.2 l⟩
theorem layAll {n : Nat} : ∀ {xs : List PyData}, (∀ x ∈ xs, Lay n x) → PyData.canLayAll0 xs = true ∧ PyData.depthAll xs ≤ n
  | [], _ => by simp [PyData.canLayAll0, PyData.depthAll]
  | x :: xs, h => by
    obtain ⟨h1, h2⟩ := h x List.mem_cons_self
    obtain ⟨h3, h4⟩ := layAll fun y hy => h y (List.mem_cons_of_mem _ hy)
    rw [PyData.canLayAll0, PyData.depthAll, h1, h3]
    exact ⟨rfl, Nat.max_le.mpr ⟨h2, h4⟩⟩
theorem Lay.list {n : Nat} {xs : List PyData} (h : ∀ x ∈ xs, Lay n x) : Lay (n + 1) (.list xs) := by
  obtain ⟨h1, h2⟩ := layAll h
  exact ⟨by rw [PyData.canLay0]; exact h1, by rw [PyData.depth]; omega⟩
theorem Lay.tuple {n : Nat} {xs : List PyData} (h : ∀ x ∈ xs, Lay n x) : Lay (n + 1) (.tuple xs) := by
  obtain ⟨h1, h2⟩ := layAll h
  exact ⟨by rw [PyData.canLay0]; exact h1, by rw [PyData.depth]; omega⟩
theorem Lay.int {n : Nat} (i : Int) : Lay n (.int i) := ⟨by simp [PyData.canLay0], by simp [PyData.depth]⟩
theorem Lay.shaped {n : Nat} {d : PyData} (h : Lay n d) (l : n ≤ 64) : SeqAt.shaped d = true := by
  unfold SeqAt.shaped
  rw [h.1, decide_eq_true (Nat.le_trans h.2 l)]
  rfl
theorem lay_pair (p : Int × Int) : Lay 1 (pairD p) := Lay.tuple fun x hx => by
  rcases List.mem_cons.mp hx with rfl | hx
  · exact .int _
  · rcases List.mem_cons.mp hx with rfl | hx
    · exact .int _
    · cases hx
theorem lay_terms (ts : Terms) : Lay 2 (.list (ts.map pairD)) := Lay.list fun x hx => by
  obtain ⟨p, _, rfl⟩ := List.mem_map.mp hx
  exact lay_pair p
theorem shaped_terms (ts : Terms) : SeqAt.shaped (.list (ts.map pairD)) = true := (lay_terms ts).shaped (by decide)
theorem free_upd {H : Hp} {p D : Addr} {o : HO} (h : upd H p o D = none) : H D = none := by
  by_cases e : D = p
  · subst e; rw [upd_same] at h; cases h
  · rw [upd_ne e] at h; exact h
theorem free_same {H H' : Hp} {D : Addr} (s : Same H H') (h : H' D = none) : H D = none := by
  cases e : H D with
  | none => rfl
  | some o => rw [s _ _ e] at h; cases h
section
variable {X : Cx} {K : PySem.W.Frag}
theorem op_eqDK (hu : X.A.units + 64 < cLine) (h : X.K = K := by rfl) : OpR X (compareOp .Eq) (rEqD K) := by subst h; exact op_eqD hu
theorem op_neDK (hu : X.A.units + 64 < cLine) (h : X.K = K := by rfl) : OpR X (compareOp .NotEq) (rNeD K) := by subst h; exact op_neD hu
theorem op_in_seqK (h : X.K = K := by rfl) : OpR X (compareOp .In) (rIn K false) := by subst h; exact op_in_seq
theorem op_notIn_seqK (h : X.K = K := by rfl) : OpR X (compareOp .NotIn) (rIn K true) := by subst h; exact op_notIn_seq
end
theorem r_neT {K : PySem.W.Frag} {H : Hp} {Q : VK} {l m : Addr} {ts us : Terms} (h : TermsAt H l ts) (h' : TermsAt H m us) (q : Q (.bl (!decide (ts = us))) H) : rNeD K (.ref l) (.ref m) H Q :=
  ⟨_, _, h.dp, h'.dp, shaped_terms ts, shaped_terms us, by rw [eqv_terms]; exact q⟩
theorem r_eqT {K : PySem.W.Frag} {H : Hp} {Q : VK} {l m : Addr} {ts us : Terms} (h : TermsAt H l ts) (h' : TermsAt H m us) (q : Q (.bl (decide (ts = us))) H) : rEqD K (.ref l) (.ref m) H Q :=
  ⟨_, _, h.dp, h'.dp, shaped_terms ts, shaped_terms us, by rw [eqv_terms]; exact q⟩
theorem TermsAt.none {H : Hp} {l : Addr} (h : H l = some (.lst [])) : TermsAt H l [] := ⟨[], h, rfl⟩
def spTerms : Sp := fun vs H Q _ => ∃ (a : Addr) (n : Nat) (c : Int → Int), vs = [.ref a] ∧ JarAt H a n c ∧ n ≤ 90000 ∧
  ∀ l ts H', H l = none → Same H H' → Canon ts → (∀ k, cof ts k = c k) → ts.length ≤ n → TermsAt H' l ts → Q (.ref l) H'
end My

set_option Elab.async false
set_option linter.all false
set_option maxRecDepth 100000
namespace My
open PySem PySem.Spec PyProof.Rows L2
/-! ### iter(t), t a tuple -/
def IterO (b p : Addr) : HO := .ext fun h => h.IsTupleIter p b 0
theorem iterO_ok {P : Program} {w : World} {H : Hp} {h : Heap} {b p : Addr} (e : h.IsTupleIter p b 0) : ObjOk P w H h p (IterO b p) := by
  obtain ⟨o, ho, hc, hd⟩ := id e
  exact ⟨e, ⟨o, ho⟩, fun h1 h2 q k => q.at fun o e => k o e⟩
section
variable {X : Cx} {pins : List (Addr × Obj)} {σ : L2.St} {H : Hp} {s : Shared} {Q : VK} {C : Addr} {m : Str} {k : Nat} {ps : List Str} {sp : Sp} {tg l : Expr} {tl : TE}
def rIterT (K : PySem.W.Frag) : List V → Hp → VK → Prop := fun xs H Q => ∃ b ys, xs = [.ref b] ∧ SqT K H b ys ∧ ∀ p, H p = none → Q (.ref p) (upd H p (IterO b p))
theorem call_iterT : CallR X (.builtin "iter") (rIterT X.K) := by
  intro pins s σ H xs us Q I r q
  obtain ⟨b, ys, rfl, hq, q⟩ := q
  obtain ⟨u, rfl, ru⟩ := r.one
  cases ru
  obtain ⟨its, rv, pl, hz⟩ := I.tuple hq
  refine Calls.call_function_entry (by decide +kernel) (by decide +kernel) PySem.W.kdk_entry_iter (PySem.W.kdk_args_iter _) ?_
  unfold Builtin.«iter»
  refine wpAny_bind (m := someArgs "iter" 1 2 _) (wpAny_of_eq (a := [Value.ref b]) (by first | rfl | kernel_rfl!) ?_)
  show wpAny _ _ (pyIter (.ref b) >>= _) _ _ _
  refine wpAny_bind (wpAny_pyIter_tuple (show s.heap.IsTuple b its.toArray from pl) ?_)
  refine wpAny_pure ⟨_, rfl, .ref s.heap.objs.size, upd H s.heap.objs.size (IterO b s.heap.objs.size), I.laid (t' := s.toks) (fun b o e => Heap.get?_push_of_some _ e) (Nat.le_refl _) (iterO_ok ⟨_, Heap.get?_push_size _ rfl, rfl, rfl⟩), rfl, q _ (I.hok.fresh (Nat.le_refl _))⟩
/-- what was tracked at a is tracked no more -/
theorem Inv.forget {a : Addr} {φ : Heap → Prop} (I : Inv X pins σ H s) (ha : H a = some (.ext φ)) : Inv X pins σ (delH H a) s := by
  have neN : ∀ b, H b = none → b ≠ a := fun b e z => by
    rw [z, ha] at e
    cases e
  have neT : ∀ b xs, H b = some (.tup xs) → b ≠ a := fun b xs e z => by
    rw [z, ha] at e
    cases e
  have neF : ∀ b o u, H b = some (.frz o u) → b ≠ a := fun b o u e z => by
    rw [z, ha] at e
    cases e
  have neB : ∀ b ps, H b = some (.tbl ps) → b ≠ a := fun b ps e z => by
    rw [z, ha] at e
    cases e
  have neO : ∀ b c, H b = some (.own c) → b ≠ a := fun b c e z => by
    rw [z, ha] at e
    cases e
  refine ⟨I.ok, I.os, I.bare, ⟨I.base.keep, I.base.slot, fun b o e n hq => ?_, I.base.there, fun b xs e => ?_, fun b o u e => ?_, fun b ps e => ?_⟩, I.loc, I.cell, ?_, fun x c e => ?_, fun p hp => ?_, fun b u e => ?_, I.len⟩
  · have q := I.base.free b o e n hq
    rw [delH_ne (neN b q)]
    exact q
  · have q := I.base.tups b xs e
    rw [delH_ne (neT b xs q)]
    exact q
  · have q := I.base.frzs b o u e
    rw [delH_ne (neF b o u q)]
    exact q
  · obtain ⟨m, q⟩ := I.base.tbls b ps e
    exact ⟨m, by rw [delH_ne (neB b _ q)]; exact q⟩
  · rw [delH_ne (neN _ I.free)]
    exact I.free
  · rw [delH_ne (neN _ (I.freeC x c e))]
    exact I.freeC x c e
  · obtain ⟨e, n, ne, nf, d⟩ := I.pin p hp
    exact ⟨e, by rw [delH_ne (neN _ n)]; exact n, ne, nf, d⟩
  · have hb : b ≠ a := fun z => by
      rw [z, delH_same] at e
      cases e
    rw [delH_ne hb] at e
    refine (I.hok b u e).stay (fun c v hc q => q) (fun c q => ?_) fun c xs q => ?_
    · rw [delH_ne (neO c b q)]
      exact q
    · rw [delH_ne (neT c xs q)]
      exact q
end
/-! ### a def whose promise knows the state at its entry -/
structure FnS (P : Program) (w : World) (K : PySem.W.Frag) (mg : Str → Option Value) (base : Heap) (k : Nat) (f : Addr) (fd : FuncData) (ps : List Str) (sp : Shared → Sp) : Prop where
  len : ∀ s vs H Q E, sp s vs H Q E → vs.length = ps.length
  run : ∀ (A : Around) (outer : List Env) (s : Shared) (H : Hp) (args : Args) (us : List Value) (vs : List V) (Q : VK) (E : XK), Room k A → Env0 P w K mg base A outer s H → BindsTo s fd args (ps.zip us) → Vals vs us → sp s vs H Q E →
    codeAny (model P w) A (.call (.ref f) args) (CR CX0 outer P w H s Q E) s
theorem fnS_of {P : Program} {w : World} {K : PySem.W.Frag} {mg : Str → Option Value} {base : Heap} {k : Nat} {f : Addr} {x qual : Str} {st : Stmt} {fd : FuncData} {N ps : List Str} {sp : Shared → Sp} (F : Fun K x qual st f fd) (S : FnScope N ps (defScope st))
    (len : ∀ s vs H Q E, sp s vs H Q E → vs.length = ps.length)
    (hbody : ∀ (cdv : Value) (A : Around) (outer : List Env) (s : Shared) (H : Hp) (vs : List V) (Q : VK) (E : XK), Room k (A.deeper (envOfC qual (defScope st) s.heap.objs.size f cdv)) → sp s vs H Q E →
      ∃ t, PSs (cxOf CX0 P w K mg base N qual (defScope st) f cdv A outer s H E).nox (defBody st) t ∧ t { nx := fun _ H' => Q .non H', rt := Q } (start N vs) H) : FnS P w K mg base (k + 1) f fd ps sp := by
  obtain ⟨oc, od, kV, doc, pm, an, cdv, ct, osl, rfl, lk, hcd⟩ := F.ex
  refine ⟨len, fun A outer s H args us vs Q E hr e0 hb r hsp => ?_⟩
  have hl := len _ _ _ _ _ hsp
  have KX : K.In s.heap := e0.mod.kin.keeps fun b o e => (e0.bs b o e).1
  have lim : s.heap.NoLimit := e0.mod.nolimit.keeps fun b o e => (e0.bs b o e).1
  have hkind : ∀ y ∈ ps.zip us, (defScope st).names.lookup y.1 = some .local ∨ ((defScope st).names.lookup y.1 = some .cell ∧ ((cellsFrom (s.heap.objs.size + 1) (defScope st).names []).lookup y.1).isSome = true) := fun ⟨n, v⟩ hy => by
    rcases S.par n (List.of_mem_zip hy).1 with q | q
    · exact .inl q
    · exact .inr ⟨q, PySem.W.cellsFrom_some _ _ _ (.inl q)⟩
  refine codeAny_call_function hr.depth (KX _ _ lk) rfl S.co S.gen rfl (PySem.W.codeRec_of KX hcd) (hb _ _ _ _ ?_)
  refine wpAny_newFunctionEnv_cells S.kind hkind fun env he s1 x => ?_
  subst he
  refine ⟨lim.keeps x.toInCall.keep, codeAny_func ?_⟩
  obtain ⟨t, ht, hq⟩ := hbody cdv A outer s H vs Q E (hr.deeper _) hsp
  have ht := ht.nox
  have I : Inv (cxOf CX0 P w K mg base N qual (defScope st) f cdv A outer s H E) [] (start N vs) H s1 := inv_start S hr.hd e0 hl r x
  refine wpAny_mono (ht.run [] s1 (start N vs) H _ I hq) (fun fl s' hs => ?_) fun e s' hs => hs
  have fin : ∀ {σ' : L2.St} {H' : Hp} {v : V} {u : Value}, Inv (cxOf CX0 P w K mg base N qual (defScope st) f cdv A outer s H E) [] σ' H' s' → RelV v u → Q v H' → CE outer P w H s Q u s' :=
    fun {σ' H' v u} J rv q => ⟨v, H', J.os, J.bare, J.base, J.hok, rv, q⟩
  cases fl with
  | ret u =>
    obtain ⟨v, σ', H', J, rv, q⟩ := hs
    exact fin J rv q
  | next =>
    obtain ⟨σ', H', J, q⟩ := hs
    exact fin (v := V.non) (u := Value.none) J rfl q
  | brk =>
    obtain ⟨_, _, _, q⟩ := hs
    exact False.elim q
  | cont =>
    obtain ⟨_, _, _, q⟩ := hs
    exact False.elim q
structure HasS (P : Program) (w : World) (K : PySem.W.Frag) (mg : Str → Option Value) (base : Heap) (C : Addr) (m : Str) (k : Nat) (ps : List Str) (sp : Shared → Sp) : Prop where
  ex : ∃ f fd, FnS P w K mg base k f fd ps sp ∧ Meth K C m f ∧ Binds K fd ps []
section
variable {X : Cx} {pins : List (Addr × Obj)} {σ : L2.St} {H : Hp} {s : Shared} {Q : VK} {C : Addr} {m : Str} {k : Nat} {ps : List Str} {f : Addr} {fd : FuncData} {tg l : Expr} {tl : TE}
theorem run_mS {sp : Shared → Sp} (F : FnS X.prog X.w X.K X.mg X.base k f fd ps sp) (b : Binds X.K fd ps []) (hr : Room k X.A) (I : Inv X pins σ H s) {us : List Value} {vs : List V} (r : Vals vs us) (q : sp s vs H Q E0) : wpAny (model X.prog X.w) X.A (call (.ref f) us) (EP X pins σ Q) X.xe s := by
  have hl : us.length = ps.length := by rw [← r.length]; exact F.len _ _ _ _ _ q
  refine wpAny_call (codeAny_mono (F.run X.A X.stack s H ⟨us, []⟩ us vs Q E0 hr I.env0 (by simpa using b s us I.kIn (by simpa using hl)) r q) fun r s' hq => ?_)
  cases r with
  | error e => exact (pass0 (X := X)) pins σ H s e s' I hq
  | ok fl =>
    cases fl with
    | ret u => exact I.after hq
    | next => exact False.elim hq
    | brk => exact False.elim hq
    | cont => exact False.elim hq
/-- iter(self.t), t a tuple: the new iterator lies behind all that was there at the entry -/
def rIterS (X : Cx) : List V → Hp → VK → Prop := fun xs H Q => ∃ b ys, xs = [.ref b] ∧ SqT X.K H b ys ∧ ∀ p, H p = none → X.s_0.heap.objs.size ≤ p → Q (.ref p) (upd H p (IterO b p))
theorem call_iterS : CallR X (.builtin "iter") (rIterS X) := by
  intro pins s σ H xs us Q I r q
  obtain ⟨b, ys, rfl, hq, q⟩ := q
  obtain ⟨u, rfl, ru⟩ := r.one
  cases ru
  obtain ⟨its, rv, pl, hz⟩ := I.tuple hq
  refine Calls.call_function_entry (by decide +kernel) (by decide +kernel) PySem.W.kdk_entry_iter (PySem.W.kdk_args_iter _) ?_
  unfold Builtin.«iter»
  refine wpAny_bind (m := someArgs "iter" 1 2 _) (wpAny_of_eq (a := [Value.ref b]) (by first | rfl | kernel_rfl!) ?_)
  show wpAny _ _ (pyIter (.ref b) >>= _) _ _ _
  refine wpAny_bind (wpAny_pyIter_tuple (show s.heap.IsTuple b its.toArray from pl) ?_)
  refine wpAny_pure ⟨_, rfl, .ref s.heap.objs.size, upd H s.heap.objs.size (IterO b s.heap.objs.size), I.laid (t' := s.toks) (fun b o e => Heap.get?_push_of_some _ e) (Nat.le_refl _) (iterO_ok ⟨_, Heap.get?_push_size _ rfl, rfl, rfl⟩), rfl, q _ (I.hok.fresh (Nat.le_refl _)) I.sz⟩
/-- what __iter__ promises: iter(the tuple of the field) -/
def spIter (K : PySem.W.Frag) (C : Addr) (fld : Str) : Shared → Sp := fun s vs H Q _ => ∃ a dx fs b ys, vs = [.ref a] ∧ H a = some (.ins C dx fs) ∧ fs.lookup fld = some (.ref b) ∧ SqT K H b ys ∧ ∀ p, H p = none → s.heap.objs.size ≤ p → Q (.ref p) (upd H p (IterO b p))
/-- for y in x, x an instance of the class at C whose __iter__ gives iter(the tuple of a field) -/
def iOwn (K : PySem.W.Frag) (C : Addr) (fld : Str) (tl : TE) : TI := fun σ H R => tl σ H fun x H1 => ∃ a dx fs b ys, x = .ref a ∧ H1 a = some (.ins C dx fs) ∧ fs.lookup fld = some (.ref b) ∧ SqT K H1 b ys ∧ R (Itt K b) H1
theorem pi_own {fld : Str} (hl : PE X l tl) (h : HasS X.prog X.w X.K X.mg X.base C "__iter__" k ps (spIter X.K C fld)) (hr : Room k X.A) : PI X tg l (iOwn X.K C fld tl) := by
  refine ⟨fun pins s σ H R I q => ?_⟩
  obtain ⟨f, fd, F, M, b⟩ := h.ex
  refine thn (hl.run pins s σ H _ I q) fun v s1 ⟨x, H1, I1, r1, q1⟩ => ?_
  obtain ⟨a, dx, fs, t, ys, rfl, ha, hf, ht, q⟩ := q1
  cases r1
  obtain ⟨mA, O, _⟩ := ins_get I1.hok ha
  obtain ⟨od, J, _⟩ := O.look
  obtain ⟨m', hF⟩ := I1.fr
  refine PySem.W.owit_iter hF I1.ok.mod.kin J M.at_ M.fn ?_
  have hsp : spIter X.K C fld s1 [.ref a] H1 (fun v H2 => ∃ p, v = .ref p ∧ s1.heap.objs.size ≤ p ∧ H1 p = none ∧ H2 = upd H1 p (IterO t p)) E0 := ⟨a, dx, fs, t, ys, rfl, ha, hf, ht, fun p np sz => ⟨p, rfl, sz, np, rfl⟩⟩
  refine wpAny_mono (run_mS (vs := [.ref a]) F b hr I1 (.cons rfl .nil) hsp) (fun w s2 z => ?_) fun _ _ x => x
  obtain ⟨z, H2, I2, rz, p, rfl, sz, np, rfl⟩ := z
  cases rz
  obtain ⟨st, _, _⟩ := I2.hok p _ upd_same
  have st : s2.heap.IsTupleIter p t 0 := st
  unfold PySem.W.OwitIt
  refine wpAny_bind (wpAny_typeOf st.typeIs (wpAny_of_eq PySem.F.slot_tuple_iterator_next.lookup ?_))
  have I3 := Inv.forget I2 upd_same
  rw [delH_new np] at I3
  refine ⟨p, [p], _, Itt X.K t, H1, rfl, I3, turn_tuple t p, st, fun c hc => ?_, q⟩
  have e : c = p := by simpa using hc
  subst e
  exact I1.fpOk sz np
end
end My

set_option Elab.async false
set_option linter.all false
set_option maxRecDepth 100000
namespace PySem.W
open Lean Elab Tactic Meta PySem PySem.Calls PyProof.Rows
section
variable {prog : Program} {w : World} {A : Around} {E : Value → Shared → Prop} {s : Shared} {K : Frag} {x C L f dx : Addr} {h₀ : Heap} {m : Str → Option Value} {nm T : String} {i : Int} {t : Tok}
/-- an int's method declines an instance of an own class -/
theorem own_int_declines {name : String} {g : Int → Int → Sem PySem.Fin} {Q : PySem.Fin → Shared → Prop} (ho : s.heap.get? x = some (instObj C dx)) (h : Q (.done (.ret .notImplemented)) s) : wpAny (model prog w) A (Builtin.Int.intBinary name g false ⟨[.int i t, .ref x], []⟩) Q E s := by
  unfold Builtin.Int.intBinary
  refine wpAny_bind (wpAny_of_eq (a := ((Value.int i t : Value), [Value.ref x])) (by first | rfl | (simp only [slotArgs]; rfl)) ?_)
  show wpAny _ _ (Builtin.Int.intOfSelf (.int i t) >>= _) _ _ _
  refine wpAny_bind (wpAny_pure ?_)
  show wpAny _ _ (asInt? (.ref x) >>= _) _ _ _
  unfold asInt?
  refine wpAny_bind (wpAny_bind (wpAny_load ho ?_))
  exact wpAny_pure (wpAny_bind (wpAny_rule (wpAny_pure h)))
theorem own_int_call {id name : String} {g : Int → Int → Sem PySem.Fin} {B : Builtin} {Q : Value → Shared → Prop} (slot : Slot "int" (PySem.dunder nm) id) (entry : entryFor table id = some B) (args : argsOk id ⟨[.int i t, .ref x], []⟩) (hB : B = Builtin.Int.intBinary name g)
    (ho : s.heap.get? x = some (instObj C dx)) (h : Q .notImplemented s) : wpAny (model prog w) A (call (.builtin id) [.int i t, .ref x]) Q E s := by
  refine wpAny_call_entry slot (typeIs_int s i t) entry ?_ args
  subst hB
  exact own_int_declines ho ⟨_, rfl, h⟩
/-- n op x, n an int, x an instance of the class at C: the int's method declines, then the class's reflected one -/
theorem own_radd {op : Operator} {id name : String} {g : Int → Int → Sem PySem.Fin} {B : Builtin} {ox : Obj} {od : Option Obj} {f' : Addr} {ro : Option Value} {Q : Value → Shared → Prop} (F : Fr h₀ L s.heap m) (X₀ : K.In h₀) (I : InstAt s.heap x ox C od) (ho : s.heap.get? x = some (instObj C dx)) (hc : selfFirst K C = true)
    (slot : Slot "int" (PySem.dunder op.info.2) id) (entry : entryFor table id = some B) (args : argsOk id ⟨[.int i t, .ref x], []⟩) (hB : B = Builtin.Int.intBinary name g) (hsq : isSeqSlot (some (.builtin id)) = false)
    (hs : findIn K (.ref C) (PySem.dunder op.info.2) = some (some (.ref f'))) (hr : findIn K (.ref C) (dunderR op.info.2) = some (some (.ref f))) (hf : isFn K (.ref f) = true)
    (h1 : findIn K (.type "int") (PySem.dunder op.info.2) = some (some (.builtin id))) (h2 : findIn K (.type "int") (dunderR op.info.2) = some ro) (hsub : subIn K (.ref C) (.type "int") = some false)
    (h : wpAny (model prog w) A (call (.ref f) [.ref x, .int i t]) (CmpBack Q) E s) : wpAny (model prog w) A (binaryOp op (.int i t) (.ref x)) Q E s := by
  have X := X₀.keeps F.keep
  obtain ⟨cd, rest, hcd, hm⟩ := ksp_first hc
  rcases hi : op.info with ⟨sym, nm'⟩
  rw [hi] at hs hr h1 h2 slot
  dsimp only at hs hr h1 h2 slot
  have one := ksp_try X I hr hf h
  have two : wpAny (model prog w) A (tryMethod (.int i t) (PySem.dunder nm') (.ref x)) (fun r s' => r = none ∧ s' = s) E s :=
    wpAny_tryMethod_declines (typeIs_int s i t) slot (own_int_call slot entry args hB ho ⟨rfl, rfl, rfl⟩)
  obtain ⟨hh, g', d, tt, os⟩ := s
  have L1 : Looks (model prog w) hh (typeOf (.ref x)) (.ref C) := I.type
  have L2 : Looks (model prog w) hh (typeOf (.int i t)) (.type "int") := Looks.of_pure rfl
  have L3 : Looks (model prog w) hh (fillsNumberSlot (.ref C) nm') true := fills_K X hcd hm hs
  have L4 : Looks (model prog w) hh (fillsNumberSlot (.type "int") nm') true := by
    have e := ksp_fillsT (M := model prog w) X h1 h2
    rw [hsq] at e
    exact e
  have L5 : Looks (model prog w) hh (isSubtype (.ref C) (.type "int")) false := looks_subIn X hsub
  have L7 : Looks (model prog w) hh (numberSlotInPython (.type "int") nm') false := Looks.of_pure rfl
  have hne : (Value.type "int" == Value.ref C) = false := Bool.eq_false_iff.mpr fun q => by cases beq_iff_eq.mp q
  simp only [binaryOp, hi]
  refine wpAny_holding (wpAny_bind ?_)
  unfold binaryOp1
  refine wpAny_bind (L2.at (wpAny_bind (L1.at (wpAny_bind (L4.at ?_)))))
  simp only [hne, Bool.false_eq_true, if_false]
  refine wpAny_bind (L3.at ?_)
  simp only [Bool.and_self, if_true]
  refine wpAny_bind (L5.at ?_)
  simp only [Bool.false_eq_true, if_false, pure_bind, Bool.not_false, Bool.and_self, if_true]
  refine wpAny_bind (L7.at ?_)
  simp only [Bool.false_eq_true, if_false, pure_bind]
  refine wpAny_bind (wpAny_mono two (fun r s' hr' => ?_) fun _ _ e => e)
  obtain ⟨rfl, rfl⟩ := hr'
  dsimp only
  refine wpAny_bind (wpAny_mono one (fun r s' hr' => ?_) fun _ _ e => e)
  obtain ⟨v, rfl, hq⟩ := hr'
  dsimp only
  exact wpAny_bind (wpAny_rule (wpAny_pure (wpAny_pure hq)))
end
end PySem.W
namespace PySem.W
open Lean Elab Tactic Meta PySem PySem.Calls PyProof.Rows
/-- the class at C stands over object alone -/
def plainMro (K : Frag) (C : Addr) : Bool := (clsIn K C).any fun cd => cd.mro == [.ref C, .type "object"]
section
variable {prog : Program} {w : World} {M : Model} {A : Around} {E : Value → Shared → Prop} {s : Shared} {K : Frag} {x C L f dx : Addr} {h₀ : Heap} {m : Str → Option Value} {nm : String} {ox : Obj} {od : Option Obj}
theorem own_noI {h : Heap} {add : Bool} (X : K.In h) (hc : plainMro K C = true) (hs : findIn K (.ref C) (dunderI nm) = some none) (ho : findIn K (.type "object") (dunderI nm) = some none) : Looks M h (fillsInplaceSlot (.ref C) nm add) false := by
  intro A Q E s k q
  obtain ⟨cd, hcd, hm⟩ := any_some hc
  have hm := beq_iff_eq.mp hm
  have Lm : Looks M h (mroOf (.ref C)) cd.mro := (looks_clsIn X hcd).andThen (f := fun cd => pure cd.mro) .now
  have Lm' := Lm.keeps k
  obtain ⟨hh, g, d, tt, os⟩ := s
  have X' : K.In hh := X.keeps k
  have L1 : Looks M hh (typeLookup (.ref C) (dunderI nm)) none := looks_findIn X' hs
  have L2 : Looks M hh (typeLookup (.type "object") (dunderI nm)) none := looks_findIn X' ho
  unfold fillsInplaceSlot
  refine wpAny_bind (Lm'.at ?_)
  rw [hm, List.anyM_cons]
  refine wpAny_bind (wpAny_bind (L1.at (wpAny_pure ?_)))
  rw [if_neg Bool.false_ne_true, List.anyM_cons]
  refine wpAny_bind (wpAny_bind (L2.at (wpAny_pure ?_)))
  rw [if_neg Bool.false_ne_true]
  exact wpAny_pure q
theorem own_binop1 {b : Value} {nm' : String} {Q : Option Value → Shared → Prop} (X : K.In s.heap) (I : InstAt s.heap x ox C od) (hb : Looks (model prog w) s.heap (typeOf b) (.ref C)) (hc : selfFirst K C = true)
    (hs : findIn K (.ref C) (PySem.dunder nm') = some (some (.ref f))) (hf : isFn K (.ref f) = true)
    (h : wpAny (model prog w) A (call (.ref f) [.ref x, b]) (CmpBack fun v => Q (some v)) E s) : wpAny (model prog w) A (binaryOp1 nm' (.ref x) b) Q E s := by
  obtain ⟨cd, rest, hcd, hm⟩ := ksp_first hc
  unfold binaryOp1
  refine wpAny_bind (I.type.here (wpAny_bind (hb.here (wpAny_bind ((fills_K X hcd hm hs).here ?_)))))
  simp only [beq_self_eq_true, if_true]
  refine wpAny_bind (wpAny_pure ?_)
  simp only [Bool.and_false, Bool.false_eq_true, if_false, Bool.false_and]
  refine wpAny_bind (wpAny_pure ?_)
  simp only [Bool.false_eq_true, if_false]
  refine wpAny_bind (m := tryMethod (.ref x) _ b) ?_
  unfold tryMethod
  refine wpAny_bind (special_fn X I hs (beq_iff_eq.mp hf) (wpAny_mono h (fun v s' hv => ?_) fun _ _ e => e))
  cases v <;> first | exact hv.elim | exact wpAny_pure (wpAny_pure hv)
/-- x op= b, no own in-place method: x op b -/
theorem own_aug {op : Operator} {b : Value} {Q : Value → Shared → Prop} (F : Fr h₀ L s.heap m) (X₀ : K.In h₀) (I : InstAt s.heap x ox C od) (hb : Looks (model prog w) s.heap (typeOf b) (.ref C)) (hc : selfFirst K C = true) (hp : plainMro K C = true)
    (hs : findIn K (.ref C) (PySem.dunder op.info.2) = some (some (.ref f))) (hf : isFn K (.ref f) = true) (hi : findIn K (.ref C) (dunderI op.info.2) = some none) (ho : findIn K (.type "object") (dunderI op.info.2) = some none)
    (h : wpAny (model prog w) A (call (.ref f) [.ref x, b]) (CmpBack Q) E s) : wpAny (model prog w) A (inplaceOp op (.ref x) b) Q E s := by
  have X := X₀.keeps F.keep
  unfold inplaceOp
  refine wpAny_holding ?_
  refine wpAny_bind (I.type.here (wpAny_bind ((own_noI X hp hi ho).here ?_)))
  simp only [Bool.false_eq_true, if_false, pure_bind]
  refine wpAny_bind (own_binop1 X I hb hc hs hf (wpAny_mono h (fun v s' hv => ?_) fun _ _ e => e))
  cases v <;> first | exact hv.elim | exact wpAny_pure hv
end
end PySem.W
namespace PySem.W
open Lean Elab Tactic Meta PySem PySem.Calls PyProof.Rows
section
variable {prog : Program} {w : World} {A : Around} {E : Value → Shared → Prop} {s : Shared} {K : Frag} {x C L f dx : Addr} {h₀ : Heap} {m : Str → Option Value} {nm' T : String} {ox : Obj} {od : Option Obj}
theorem own_binop1T {b : Value} {fo ro rc : Option Value} {Q : Option Value → Shared → Prop} (X : K.In s.heap) (I : InstAt s.heap x ox C od) (hb : typeOf b = pure (.type T)) (hc : selfFirst K C = true)
    (hs : findIn K (.ref C) (PySem.dunder nm') = some (some (.ref f))) (hf : isFn K (.ref f) = true) (hr : findIn K (.ref C) (dunderR nm') = some rc) (hp : rc = none ∨ ∃ g : Addr, rc = some (.ref g))
    (h1 : findIn K (.type T) (PySem.dunder nm') = some fo) (h2 : findIn K (.type T) (dunderR nm') = some ro) (hsub : subIn K (.type T) (.ref C) = some false)
    (h : wpAny (model prog w) A (call (.ref f) [.ref x, b]) (CmpBack fun v => Q (some v)) E s) : wpAny (model prog w) A (binaryOp1 nm' (.ref x) b) Q E s := by
  obtain ⟨cd, rest, hcd, hm⟩ := ksp_first hc
  have one := ksp_try X I hs hf h
  obtain ⟨hh, g, d, tt, os⟩ := s
  have L1 : Looks (model prog w) hh (typeOf (.ref x)) (.ref C) := I.type
  have L2 : Looks (model prog w) hh (typeOf b) (.type T) := Looks.of_pure hb
  have L3 : Looks (model prog w) hh (fillsNumberSlot (.ref C) nm') true := fills_K X hcd hm hs
  have L4 : Looks (model prog w) hh (fillsNumberSlot (.type T) nm') ((fo.isSome && !isSeqSlot fo) || (ro.isSome && !isSeqSlot ro)) := ksp_fillsT X h1 h2
  have L5 : Looks (model prog w) hh (isSubtype (.type T) (.ref C)) false := looks_subIn X hsub
  have L6 : Looks (model prog w) hh (numberSlotInPython (.ref C) nm') true := ksp_inPy X hs hr hp
  have L7 : Looks (model prog w) hh (numberSlotInPython (.type T) nm') false := Looks.of_pure rfl
  have L8 : Looks (model prog w) hh (typeLookup (.type T) (dunderR nm')) ro := looks_findIn X h2
  generalize ((fo.isSome && !isSeqSlot fo) || (ro.isSome && !isSeqSlot ro)) = right at L4
  have hne : (Value.ref C == Value.type T) = false := Bool.eq_false_iff.mpr fun q => by cases beq_iff_eq.mp q
  unfold binaryOp1
  refine wpAny_bind (L1.at (wpAny_bind (L2.at (wpAny_bind (L3.at ?_)))))
  simp only [hne, Bool.false_eq_true, if_false]
  cases right with
  | false =>
    ksp_lk
    refine wpAny_mono one (fun r s' hr' => ?_) fun _ _ e => e
    obtain ⟨v, rfl, hq⟩ := hr'
    ksp_lk
    exact hq
  | true =>
    ksp_lk
    refine wpAny_mono one (fun r s' hr' => ?_) fun _ _ e => e
    obtain ⟨v, rfl, hq⟩ := hr'
    ksp_lk
    exact hq
theorem own_augT {op : Operator} {b : Value} {fo ro rc : Option Value} {Q : Value → Shared → Prop} (F : Fr h₀ L s.heap m) (X₀ : K.In h₀) (I : InstAt s.heap x ox C od) (hb : typeOf b = pure (.type T)) (hc : selfFirst K C = true) (hpm : plainMro K C = true)
    (hs : findIn K (.ref C) (PySem.dunder op.info.2) = some (some (.ref f))) (hf : isFn K (.ref f) = true) (hr : findIn K (.ref C) (dunderR op.info.2) = some rc) (hp : rc = none ∨ ∃ g : Addr, rc = some (.ref g))
    (h1 : findIn K (.type T) (PySem.dunder op.info.2) = some fo) (h2 : findIn K (.type T) (dunderR op.info.2) = some ro) (hsub : subIn K (.type T) (.ref C) = some false)
    (hi : findIn K (.ref C) (dunderI op.info.2) = some none) (ho : findIn K (.type "object") (dunderI op.info.2) = some none)
    (h : wpAny (model prog w) A (call (.ref f) [.ref x, b]) (CmpBack Q) E s) : wpAny (model prog w) A (inplaceOp op (.ref x) b) Q E s := by
  have X := X₀.keeps F.keep
  unfold inplaceOp
  refine wpAny_holding ?_
  refine wpAny_bind (I.type.here (wpAny_bind ((own_noI X hpm hi ho).here ?_)))
  simp only [Bool.false_eq_true, if_false, pure_bind]
  refine wpAny_bind (own_binop1T X I hb hc hs hf hr hp h1 h2 hsub (wpAny_mono h (fun v s' hv => ?_) fun _ _ e => e))
  cases v <;> first | exact hv.elim | exact wpAny_pure hv
end
end PySem.W
namespace My
open PySem PySem.Spec PyProof.Rows L2
/-- what op= asks of the class besides -/
structure AugOp (K : PySem.W.Frag) (C : Addr) (nm : String) : Prop where
  mro : PySem.W.plainMro K C = true
  no : PySem.W.findIn K (.ref C) (dunderI nm) = some none
  ob : PySem.W.findIn K (.type "object") (dunderI nm) = some none
section
variable {X : Cx} {pins : List (Addr × Obj)} {σ : L2.St} {H : Hp} {s : Shared} {Q : VK} {C : Addr} {m : Str} {k : Nat} {ps : List Str} {sp : Sp} {f : Addr} {fd : FuncData}
theorem ip_own2 {op : Operator} (h : HasM X.prog X.w X.K X.mg X.base C m k ps sp) (hc : PySem.W.selfFirst X.K C = true) (N : AugOp X.K C op.info.2) (hr : Room k X.A) (hm : PySem.dunder op.info.2 = m := by rfl) : PIp X op (rOwn2 C sp) := by
  intro pins s σ H x y v u Q I rx ry q
  obtain ⟨f, fd, F, M, b⟩ := h.ex
  obtain ⟨a, dx, fs, a', dy, gs, rfl, rfl, ha, hb, q⟩ := q
  cases rx
  cases ry
  obtain ⟨mA, O, _⟩ := ins_get I.hok ha
  obtain ⟨od, J, _⟩ := O.look
  obtain ⟨mB, O', _⟩ := ins_get I.hok hb
  obtain ⟨od', J', _⟩ := O'.look
  obtain ⟨m', hF⟩ := I.fr
  refine PySem.W.own_aug hF I.ok.mod.kin J J'.type hc N.mro (by rw [hm]; exact M.at_) M.fn N.no N.ob ?_
  exact wpAny_mono (run_m (vs := [.ref a, .ref a']) F b hr I (.cons rfl (.cons rfl .nil)) q) (fun w s' ⟨z, H', I', rz, qz⟩ => SlX.cmpback rz ⟨z, H', I', rz, qz⟩) fun _ _ x => x
theorem ip_ownI {op : Operator} (h : HasM X.prog X.w X.K X.mg X.base C m k ps sp) (hc : PySem.W.selfFirst X.K C = true) (N : AugOp X.K C op.info.2) (N' : IntOp X.K C op.info.2) (hr : Room k X.A) (hm : PySem.dunder op.info.2 = m := by rfl) : PIp X op (rOwnI C sp) := by
  intro pins s σ H x y v u Q I rx ry q
  obtain ⟨f, fd, F, M, b⟩ := h.ex
  obtain ⟨a, dx, fs, i, rfl, rfl, ha, q⟩ := q
  cases rx
  obtain ⟨t, rfl⟩ := ry
  obtain ⟨mA, O, _⟩ := ins_get I.hok ha
  obtain ⟨od, J, _⟩ := O.look
  obtain ⟨m', hF⟩ := I.fr
  obtain ⟨rc, r1, r2⟩ := N'.rc
  obtain ⟨fo, f1⟩ := N'.fo
  obtain ⟨ro, o1⟩ := N'.ro
  refine PySem.W.own_augT (T := "int") hF I.ok.mod.kin J rfl hc N.mro (by rw [hm]; exact M.at_) M.fn r1 r2 f1 o1 N'.sub N.no N.ob ?_
  exact wpAny_mono (run_m (vs := [.ref a, .int i]) F b hr I (.cons rfl (.cons ⟨t, rfl⟩ .nil)) q) (fun w s' ⟨z, H', I', rz, qz⟩ => SlX.cmpback rz ⟨z, H', I', rz, qz⟩) fun _ _ x => x
/-- n op x, n an int: the class's reflected method -/
structure RevOp (K : PySem.W.Frag) (C : Addr) (nm : String) (id : String) : Prop where
  own : ∃ f' : Addr, PySem.W.findIn K (.ref C) (PySem.dunder nm) = some (some (.ref f'))
  fo : PySem.W.findIn K (.type "int") (PySem.dunder nm) = some (some (.builtin id))
  ro : ∃ ro, PySem.W.findIn K (.type "int") (dunderR nm) = some ro
  sub : PySem.W.subIn K (.ref C) (.type "int") = some false
def rOwnR (C : Addr) (sp : Sp) : R2 := fun x y H Q => ∃ a dx fs i, x = .int i ∧ y = .ref a ∧ H a = some (.ins C dx fs) ∧ sp [y, x] H Q E0
theorem op_rev {op : Operator} {id name : String} {g : Int → Int → Sem PySem.Fin} {B : Builtin} (h : HasM X.prog X.w X.K X.mg X.base C m k ps sp) (hc : PySem.W.selfFirst X.K C = true) (N : RevOp X.K C op.info.2 id) (hr : Room k X.A)
    (slot : Slot "int" (PySem.dunder op.info.2) id) (entry : entryFor table id = some B) (args : ∀ a b, argsOk id ⟨[a, b], []⟩) (hB : B = Builtin.Int.intBinary name g) (hsq : isSeqSlot (some (.builtin id)) = false) (hm : dunderR op.info.2 = m := by rfl) : OpR X (binaryOp op) (rOwnR C sp) := by
  intro pins s σ H x y v u Q I rx ry q
  obtain ⟨f, fd, F, M, b⟩ := h.ex
  obtain ⟨a, dx, fs, i, rfl, rfl, ha, q⟩ := q
  cases ry
  obtain ⟨t, rfl⟩ := rx
  obtain ⟨mA, O, _⟩ := ins_get I.hok ha
  obtain ⟨od, J, _⟩ := O.look
  obtain ⟨m', hF⟩ := I.fr
  obtain ⟨f', o1⟩ := N.own
  obtain ⟨ro, o2⟩ := N.ro
  refine PySem.W.own_radd hF I.ok.mod.kin J O.obj hc slot entry (args _ _) hB hsq o1 (by rw [hm]; exact M.at_) M.fn N.fo o2 N.sub ?_
  exact wpAny_mono (run_m (vs := [.ref a, .int i]) F b hr I (.cons rfl (.cons ⟨t, rfl⟩ .nil)) q) (fun w s' ⟨z, H', I', rz, qz⟩ => SlX.cmpback rz ⟨z, H', I', rz, qz⟩) fun _ _ x => x
theorem op_raddI (h : HasM X.prog X.w X.K X.mg X.base C "__radd__" k ps sp) (hc : PySem.W.selfFirst X.K C = true) (N : RevOp X.K C "add" "int.__add__") (hr : Room k X.A) : OpR X (binaryOp .Add) (rOwnR C sp) :=
  op_rev h hc N hr PySem.F.slot_int_add PySem.F.entry_int_add PySem.F.args_int_add_2 rfl (by decide +kernel)
theorem op_rsubI (h : HasM X.prog X.w X.K X.mg X.base C "__rsub__" k ps sp) (hc : PySem.W.selfFirst X.K C = true) (N : RevOp X.K C "sub" "int.__sub__") (hr : Room k X.A) : OpR X (binaryOp .Sub) (rOwnR C sp) :=
  op_rev h hc N hr PySem.F.slot_int_sub PySem.F.entry_int_sub PySem.F.args_int_sub_2 rfl (by decide +kernel)
theorem op_rmulI (h : HasM X.prog X.w X.K X.mg X.base C "__rmul__" k ps sp) (hc : PySem.W.selfFirst X.K C = true) (N : RevOp X.K C "mul" "int.__mul__") (hr : Room k X.A) : OpR X (binaryOp .Mult) (rOwnR C sp) :=
  op_rev h hc N hr PySem.F.slot_int_mul PySem.F.entry_int_mul PySem.F.args_int_mul_2 rfl (by decide +kernel)
end
end My

set_option Elab.async false
set_option linter.all false
set_option maxRecDepth 100000
namespace My
open PySem PySem.Spec PyProof.Rows L2
/-! ### properties, methods and makings by name -/
structure HasP (P : Program) (w : World) (K : PySem.W.Frag) (mg : Str → Option Value) (base : Heap) (C : Addr) (m : Str) (k : Nat) (ps : List Str) (sp : Sp) : Prop where
  ex : ∃ p g fd, FnOk P w K mg base CX0 k g fd ps sp ∧ PropOf K C m p g ∧ Binds K fd ps []
structure HasC (P : Program) (w : World) (K : PySem.W.Frag) (mg : Str → Option Value) (base : Heap) (x : Str) (C : Addr) (k : Nat) (ps : List Str) (sp : Sp) : Prop where
  ex : ∃ f fd, FnOk P w K mg base CX0 k f fd ps sp ∧ Mk K C f ∧ mg x = some (.ref C) ∧ Binds K fd ps []
section
variable {X : Cx} {C : Addr} {m x : Str} {k : Nat} {ps : List Str} {sp : Sp} {e o : Expr} {es : List Expr} {p pos apos : Pos} {ta : TE} {t : TA}
theorem pe_propH (c : Cls X.K C) (h : HasP X.prog X.w X.K X.mg X.base C m k ps sp) (hr : Room (k + 1) X.A) (he : PE X e ta) (hab : attributeBase e m X.env (eval e X.env) = eval e X.env := by rfl) : PE X (.Attribute e m pos) (tProp C sp [] E0 ta) := by
  obtain ⟨p, g, fd, F, hp, b⟩ := h.ex
  exact pe_prop he c hp F hr b .nil pass0 hab
theorem pe_methH {pl : Sem Bool} (c : Cls X.K C) (h : HasM X.prog X.w X.K X.mg X.base C m k ps sp) (hr : Room k X.A) (he : PE X o ta) (ha : PA X (e :: es) t)
    (hst : starEach (e :: es) X.env = (false, eval e X.env) :: starEach es X.env := by rfl) (hpl : (backTo pos (starEach es X.env)).any (·.1) = false := by rfl)
    (ht : eval (.Call (.Attribute o m apos) (e :: es) [] pos) X.env = (do
      let ov ← eval o X.env
      standAt apos.atName
      let (f, first) ← holding [ov] (getMethod ov m pl)
      callWith pos f first (backTo pos (starEach (e :: es) X.env)) (backToKw pos (keywordEach [] X.env))) := by rfl) : PE X (.Call (.Attribute o m apos) (e :: es) [] pos) (tMeth C m sp [] E0 ta t) := by
  obtain ⟨f, fd, F, hm, b⟩ := h.ex
  exact pe_meth he c hm F hr b .nil pass0 ha hst hpl ht
theorem pe_meth0H {pl : Sem Bool} (c : Cls X.K C) (h : HasM X.prog X.w X.K X.mg X.base C m k ps sp) (hr : Room k X.A) (he : PE X o ta)
    (ht : eval (.Call (.Attribute o m apos) [] [] pos) X.env = (do
      let ov ← eval o X.env
      standAt apos.atName
      let (f, first) ← holding [ov] (getMethod ov m pl)
      callWith pos f first (backTo pos (starEach [] X.env)) (backToKw pos (keywordEach [] X.env))) := by rfl) : PE X (.Call (.Attribute o m apos) [] [] pos) (tMeth C m sp [] E0 ta tNil) := by
  obtain ⟨f, fd, F, hm, b⟩ := h.ex
  exact pe_meth0 he c hm F hr b .nil pass0 ht
theorem pe_makeH (h : HasC X.prog X.w X.K X.mg X.base x C k ps sp) (hr : Room (k + 1) X.A) (ha : PA X (e :: es) t) (hg : Gl X x := by rfl) (hdb : (x == ("__debug__" : Str)) = false := by decide)
    (he : starEach (e :: es) X.env = (false, eval e X.env) :: starEach es X.env := by rfl) (hpl : (backTo pos (starEach es X.env)).any (·.1) = false := by rfl) : PE X (.Call (.Name x p) (e :: es) [] pos) (tMake C sp [] E0 t) := by
  obtain ⟨f, fd, F, M, hm, b⟩ := h.ex
  exact pe_make M F hr hg hm b .nil pass0 ha hdb he hpl
end
section
variable {σ : L2.St} {H : Hp} {Q : VK} {C : Addr} {m : Str} {sp : Sp} {E : XK} {ta : TE} {t : TA} {K : PySem.W.Frag} {f : Str} {R : It → Hp → Prop} {D : Ends} {te : TE}
theorem r_prop (q : ta σ H fun x H1 => ∃ a dx fs, x = .ref a ∧ H1 a = some (.ins C dx fs) ∧ sp [.ref a] H1 Q E) : tProp C sp [] E ta σ H Q := q
theorem r_meth (q : ta σ H fun x H1 => ∃ a dx fs, x = .ref a ∧ H1 a = some (.ins C dx fs) ∧ fs.lookup m = none ∧ t σ H1 fun vs H2 => sp (x :: vs) H2 Q E) : tMeth C m sp [] E ta t σ H Q := by
  unfold tMeth
  simpa only [List.append_nil] using q
theorem r_make (q : t σ H fun vs H1 => ∀ x dx, H1 x = none → H1 dx = none → dx ≠ x → sp (.ref x :: vs) (upd (upd H1 dx (.own x)) x (.ins C dx [])) (fun v H2 => v = .non ∧ Q (.ref x) H2) E) : tMake C sp [] E t σ H Q := by
  unfold tMake
  simpa only [List.append_nil] using q
theorem r_iOwn (q : ta σ H fun x H1 => ∃ a dx fs b ys, x = .ref a ∧ H1 a = some (.ins C dx fs) ∧ fs.lookup f = some (.ref b) ∧ SqT K H1 b ys ∧ R (Itt K b) H1) : iOwn K C f ta σ H R := q
theorem r_sfld (q : te σ H fun v H1 => ta σ H1 fun x H2 => ∃ a C dx fs, x = .ref a ∧ H2 a = some (.ins C dx fs) ∧ Cls K C ∧ NoAttr K C f ∧ fs.length < 1000 ∧ D.nx σ (upd H2 a (.ins C dx (putF f v fs)))) : sFld K ta te f D σ H := q
theorem r_fld (q : ta σ H fun x H1 => ∃ a C dx fs v, x = .ref a ∧ H1 a = some (.ins C dx fs) ∧ Cls K C ∧ NoAttr K C f ∧ fs.lookup f = some v ∧ Q v H1) : tFld K ta f σ H Q := q
end
theorem pe_fldK {X : Cx} {K : PySem.W.Frag} {e : Expr} {f : Str} {pos : Pos} {ta : TE} (he : PE X e ta) (h : X.K = K := by rfl) (hb : attributeBase e f X.env (eval e X.env) = eval e X.env := by rfl) : PE X (.Attribute e f pos) (tFld K ta f) := by subst h; exact pe_fld he hb
section
variable {X : Cx} {K : PySem.W.Frag} {C : Addr} {k : Nat} {ps : List Str} {sp : Sp} {fld : Str} {tg l : Expr} {tl : TE}
theorem op_eqOwnK (h : HasM X.prog X.w X.K X.mg X.base C "__eq__" k ps sp) (hr : Room k X.A) (e : X.K = K := by rfl) : OpR X (compareOp .Eq) (rOwnEq K C sp) := by subst e; exact op_eqOwn h hr
theorem pi_ownK (hl : PE X l tl) (h : HasS X.prog X.w X.K X.mg X.base C "__iter__" k ps (spIter K C fld)) (hr : Room k X.A) (e : X.K = K := by rfl) : PI X tg l (iOwn K C fld tl) := by subst e; exact pi_own hl h hr
end
theorem pg_tupK {X : Cx} {K : PySem.W.Frag} {es : List Expr} {k : Nat} {t : TGs} {n : Nat} {pos : Pos} (hc : X.calm = true) (h : PGs X es t) (e : X.K = K := by rfl)
    (hn : (assignEach es X.env).length = n := by rfl) (hst : (assignEach es X.env).findIdx? (·.1) = none := by rfl) : PG X (.Tuple es k pos) (gTup K n t) := by subst e; exact pg_tup hc h hn hst
/-! ### polynomials -/
/-- what the text has made of the class Poly -/
structure PolyT (K : PySem.W.Frag) (mg : Str → Option Value) (C : Addr) : Prop where
  cl : Cls K C
  nR : NoAttr K C "rows"
  mgC : mg "Poly" = some (.ref C)
  self : PySem.W.selfFirst K C = true
  mro : PySem.W.plainMro K C = true
  ca : PySem.W.findIn K (.ref C) "__class__" = some (some (.builtin "object.__class__"))
  cn : PySem.W.specialIn K (.builtin "object.__class__") "__get__" = some (some (.builtin "getset_descriptor.__get__"))
  ct : PySem.W.takesIn K (.builtin "object.__class__") = some true
  cm : PySem.W.mroIn K C (.type "object") = some true
  cs : ∃ cd, PySem.W.clsIn K C = some cd
  ty : PySem.W.typeIn K (.ref C) = some (.type "type")
  sInt : PySem.W.subIn K (.type "int") (.ref C) = some false
  sBool : PySem.W.subIn K (.type "bool") (.ref C) = some false
  sStr : PySem.W.subIn K (.type "str") (.ref C) = some false
  sList : PySem.W.subIn K (.type "list") (.ref C) = some false
  sTup : PySem.W.subIn K (.type "tuple") (.ref C) = some false
  sNone : PySem.W.subIn K (.type "NoneType") (.ref C) = some false
  tInt : PySem.W.subIn K (.ref C) (.type "int") = some false
  tBool : PySem.W.subIn K (.ref C) (.type "bool") = some false
  tList : PySem.W.subIn K (.ref C) (.type "list") = some false
  tTup : PySem.W.subIn K (.ref C) (.type "tuple") = some false
theorem kit_no {K : PySem.W.Frag} {C : Addr} {t : Value} (cs : ∃ cd, PySem.W.clsIn K C = some cd) (ty : PySem.W.typeIn K (.ref C) = some (.type "type")) (s : PySem.W.subIn K t (.ref C) = some false) (ne : (t == .ref C) = false) : PySem.W.kitOne K t (.ref C) = some false := by
  obtain ⟨cd, e⟩ := cs
  unfold PySem.W.kitOne PySem.W.kitCls
  rw [ne, if_neg Bool.false_ne_true]
  show (if ((PySem.W.clsIn K C).isSome && PySem.W.typeIn K (.ref C) == some (.type "type")) = true then PySem.W.subIn K t (.ref C) else none) = some false
  rw [e, ty, if_pos (by simp)]
  exact s
theorem kit_self {K : PySem.W.Frag} {C : Addr} : PySem.W.kitOne K (.ref C) (.ref C) = some true := by
  unfold PySem.W.kitOne
  rw [if_pos (beq_self_eq_true _)]
/-- a polynomial with these terms -/
def PolyAt (C : Addr) (H : Hp) (a : Addr) (ts : Terms) : Prop := ∃ dx r vs, H a = some (.ins C dx [("rows", .ref r)]) ∧ H r = some (.tup vs) ∧ TermsL H vs ts ∧ Canon ts
theorem rows_look {v : V} : ([(("rows" : Str), v)] : List (Str × V)).lookup ("rows" : Str) = some v := by simp [List.lookup]
theorem rows_put {v : V} : putF "rows" v [] = ([(("rows" : Str), v)] : List (Str × V)) := rfl
/-- what is neither a list nor a dict stays -/
def Stay (H H' : Hp) : Prop := ∀ c o, (∀ xs, o ≠ .lst xs) → (∀ kvs, o ≠ .dK kvs) → H c = some o → H' c = some o
theorem Stay.tk {H H' : Hp} (s : Stay H H') : Tk H H' := fun c xs e => s c _ (by intro _ z; cases z) (by intro _ z; cases z) e
theorem Stay.same {H H' : Hp} (s : Same H H') : Stay H H' := fun c o _ _ e => s c o e
theorem Stay.but {H H' : Hp} {a : Addr} {xs : List V} (b : But a H H') (h : H a = some (.lst xs)) : Stay H H' := fun c o n _ e => b c o (by rintro rfl; rw [h] at e; cases e; exact n _ rfl) e
theorem Stay.bag {H H' : Hp} {a : Addr} (b : But a H H') (h : Bag H a) : Stay H H' := let ⟨_, _, _, e, _⟩ := h; Stay.but b e
theorem Stay.trans {H H1 H2 : Hp} (s : Stay H H1) (t : Stay H1 H2) : Stay H H2 := fun c o n m e => t c o n m (s c o n m e)
theorem Stay.refl (H : Hp) : Stay H H := fun _ _ _ _ e => e
theorem Stay.new {H H' : Hp} {p : Addr} {o : HO} (h : Stay H H') (n : H' p = none) : Stay H (upd H' p o) := fun c u x y e => h_keep (h c u x y e) n
theorem Stay.lst {H H' : Hp} {p : Addr} {l : List V} {o : HO} (h : Stay H H') (n : H' p = some (.lst l)) : Stay H (upd H' p o) := fun c u x y e => by
  have q := h c u x y e
  refine (upd_ne ?_).trans q
  rintro rfl
  rw [n] at q
  cases q
  exact x _ rfl
theorem PolyAt.stay {C : Addr} {H H' : Hp} {a : Addr} {ts : Terms} (h : PolyAt C H a ts) (s : Stay H H') : PolyAt C H' a ts := let ⟨dx, r, vs, h1, h2, h3, h4⟩ := h; ⟨dx, r, vs, s _ _ (by intro _ z; cases z) (by intro _ z; cases z) h1, s.tk _ _ h2, h3.tk s.tk, h4⟩
theorem PolyAt.same {C : Addr} {H H' : Hp} {a : Addr} {ts : Terms} (h : PolyAt C H a ts) (s : Same H H') : PolyAt C H' a ts := h.stay (.same s)
section
variable {K : PySem.W.Frag} {mg : Str → Option Value} {C : Addr} {H : Hp} {Q : VK} {a : Addr} {ts : Terms}
theorem ty_poly (T : PolyT K mg C) {dx : Addr} {fs : List (Str × V)} (h : H a = some (.ins C dx fs)) : TyX K H (.ref a) (.ref C) := .base (.ins h T.cl T.ca T.cn T.ct T.cm)
theorem r_isPoly (T : PolyT K mg C) {dx : Addr} {fs : List (Str × V)} (h : H a = some (.ins C dx fs)) (q : Q (.bl true) H) : rIsi K [.ref a, .ref C] H Q := ⟨_, _, _, _, true, rfl, .own C, ty_poly T h, kit_self, q⟩
theorem r_isPolyI (T : PolyT K mg C) {i : Int} (q : Q (.bl false) H) : rIsi K [.int i, .ref C] H Q := ⟨_, _, _, _, false, rfl, .own C, ty_int, kit_no T.cs T.ty T.sInt rfl, q⟩
theorem kit_bi {K : PySem.W.Frag} {C : Addr} {t : String} (m : PySem.W.kitMeta t = true) (s : PySem.W.subIn K (.ref C) (.type t) = some false) : PySem.W.kitOne K (.ref C) (.type t) = some false := by
  unfold PySem.W.kitOne PySem.W.kitCls
  rw [if_neg (by simp)]
  show (if PySem.W.kitMeta t = true then PySem.W.subIn K (.ref C) (.type t) else none) = some false
  rw [if_pos m]
  exact s
theorem r_polyInt (T : PolyT K mg C) {dx : Addr} {fs : List (Str × V)} (h : H a = some (.ins C dx fs)) (q : Q (.bl false) H) : rIsi K [.ref a, .ty "int"] H Q := ⟨_, _, _, _, false, rfl, .ty _, ty_poly T h, kit_bi (by decide +kernel) T.tInt, q⟩
/-- the field rows -/
theorem u_rows (T : PolyT K mg C) (h : PolyAt C H a ts) {R : V → Prop} (q : ∀ r vs, H r = some (.tup vs) → TermsL H vs ts → Canon ts → R (.ref r)) :
    ∃ b D dx fs v, V.ref a = .ref b ∧ H b = some (.ins D dx fs) ∧ Cls K D ∧ NoAttr K D "rows" ∧ fs.lookup ("rows" : Str) = some v ∧ R v := by
  obtain ⟨dx, r, vs, h1, h2, h3, h4⟩ := h
  exact ⟨a, C, dx, _, .ref r, rfl, h1, T.cl, T.nR, rows_look, q r vs h2 h3 h4⟩
end
theorem u_rowsAt {K : PySem.W.Frag} {mg : Str → Option Value} {C : Addr} {H : Hp} {a : Addr} {dx : Addr} {fv : V} (T : PolyT K mg C) (h : H a = some (.ins C dx [("rows", fv)])) {R : V → Prop} (q : R fv) :
    ∃ b D dx fs v, V.ref a = .ref b ∧ H b = some (.ins D dx fs) ∧ Cls K D ∧ NoAttr K D "rows" ∧ fs.lookup ("rows" : Str) = some v ∧ R v := ⟨a, C, dx, _, fv, rfl, h, T.cl, T.nR, rows_look, q⟩
/-- is_integer of any value -/
theorem u_isInt {K : PySem.W.Frag} {H : Hp} {Q : VK} {E : XK} {i : Int} (q : Q (.bl true) H) : spIsIntT K [.int i] H Q E := ⟨_, _, true, false, rfl, .x ty_int, kit_ty (by decide +kernel), kit_ty (by decide +kernel), q⟩
theorem u_isIntP {K : PySem.W.Frag} {mg : Str → Option Value} {C : Addr} {H : Hp} {Q : VK} {E : XK} {a dx : Addr} {fs : List (Str × V)} (T : PolyT K mg C) (h : H a = some (.ins C dx fs)) (q : Q (.bl false) H) : spIsIntT K [.ref a] H Q E :=
  ⟨_, _, false, false, rfl, .x (ty_poly T h), kit_bi (by decide +kernel) T.tInt, kit_bi (by decide +kernel) T.tBool, q⟩
theorem r_isiE {K : PySem.W.Frag} {H : Hp} {Q : VK} {x c : V} {t u : Value} {b : Bool} (hc : ClsV c u) (ty : TyE K H x t) (k : PySem.W.kitOne K t u = some b) (q : Q (.bl b) H) : rIsiE K [x, c] H Q := ⟨x, c, t, u, b, rfl, hc, ty, k, q⟩
theorem r_eqTT {K : PySem.W.Frag} {H : Hp} {Q : VK} {l m : Addr} {vs ws : List V} {ts us : Terms} (h : H l = some (.tup vs)) (h1 : TermsL H vs ts) (h' : H m = some (.tup ws)) (h2 : TermsL H ws us) (q : Q (.bl (decide (ts = us))) H) : rEqD K (.ref l) (.ref m) H Q := by
  refine ⟨.tuple (ts.map pairD), .tuple (us.map pairD), .tup (.of h) h1.dp, .tup (.of h') h2.dp, (Lay.tuple fun x hx => ?_).shaped (n := 1 + 1) (by decide), (Lay.tuple fun x hx => ?_).shaped (n := 1 + 1) (by decide), ?_⟩
  · obtain ⟨p, _, rfl⟩ := List.mem_map.mp hx
    exact lay_pair p
  · obtain ⟨p, _, rfl⟩ := List.mem_map.mp hx
    exact lay_pair p
  · rw [PyData.eqv, eqvAll_pairs]; exact q
/-- self == y, self a polynomial -/
def spPEq (K : PySem.W.Frag) (C : Addr) : Sp := fun vs H Q _ => ∃ a ts y, vs = [.ref a, y] ∧ PolyAt C H a ts ∧ ((∃ b us, y = .ref b ∧ PolyAt C H b us ∧ Q (.bl (decide (ts = us))) H) ∨ (∃ t, TyE K H y t ∧ PySem.W.kitOne K t (.ref C) = some false ∧ Q (.bl false) H))
def negT (ts : Terms) : Terms := ts.map fun p => (p.1, -p.2)
def mirT (ts : Terms) : Terms := ts.map fun p => (-p.1, p.2)
def shiftT (n : Int) (ts : Terms) : Terms := ts.map fun p => (p.1 + n, p.2)
theorem cof_neg : ∀ (ts : Terms) (k : Int), cof (negT ts) k = -cof ts k
  | [], k => rfl
  | p :: ts, k => by
    show (if p.1 = k then -p.2 else 0) + cof (negT ts) k = -((if p.1 = k then p.2 else 0) + cof ts k)
    rw [cof_neg ts k]
    split <;> omega
theorem cof_mir : ∀ (ts : Terms) (k : Int), cof (mirT ts) k = cof ts (-k)
  | [], k => rfl
  | p :: ts, k => by
    show (if -p.1 = k then p.2 else 0) + cof (mirT ts) k = (if p.1 = -k then p.2 else 0) + cof ts (-k)
    rw [cof_mir ts k]
    by_cases h : p.1 = -k
    · rw [if_pos h, if_pos (by omega)]
    · rw [if_neg h, if_neg (by omega)]
theorem cof_shift (n : Int) : ∀ (ts : Terms) (k : Int), cof (shiftT n ts) k = cof ts (k - n)
  | [], k => rfl
  | p :: ts, k => by
    show (if p.1 + n = k then p.2 else 0) + cof (shiftT n ts) k = (if p.1 = k - n then p.2 else 0) + cof ts (k - n)
    rw [cof_shift n ts k]
    by_cases h : p.1 = k - n
    · rw [if_pos h, if_pos (by omega)]
    · rw [if_neg h, if_neg (by omega)]
/-! ### promises -/
def spIsTerm : Sp := fun vs H Q _ => ∃ (p : Addr) (x y : Int), vs = [.ref p] ∧ H p = some (.tup [.int x, .int y]) ∧ Q (.bl true) H
def spSummed : Sp := fun vs H Q _ => ∃ (l : Addr) (ts : Terms), vs = [.ref l] ∧ TermsAt H l ts ∧ ts.length ≤ 90000 ∧
  ∀ r us ws H', H r = none → Same H H' → H' r = some (.tup ws) → TermsL H' ws us → Canon us → (∀ k, cof us k = cof ts k) → us.length ≤ ts.length → Q (.ref r) H'
def spInit (C : Addr) : Sp := fun vs H Q _ => ∃ (x dx l : Addr) (ts : Terms), vs = [.ref x, .ref l] ∧ H x = some (.ins C dx []) ∧ TermsAt H l ts ∧ ts.length ≤ 90000 ∧
  ∀ us H', But x H H' → PolyAt C H' x us → (∀ k, cof us k = cof ts k) → us.length ≤ ts.length → Q .non H'
/-- Poly(..) -/
theorem u_poly {C : Addr} {H : Hp} {R : Addr → Hp → Prop} {E : XK} {l : Addr} {ts : Terms} (h : TermsAt H l ts) (hn : ts.length ≤ 90000) (q : ∀ a us H', H a = none → Same H H' → PolyAt C H' a us → (∀ k, cof us k = cof ts k) → us.length ≤ ts.length → R a H') :
    ∀ x dx, H x = none → H dx = none → dx ≠ x → spInit C [.ref x, .ref l] (upd (upd H dx (.own x)) x (.ins C dx [])) (fun v H2 => v = .non ∧ R x H2) E := by
  intro x dx nx ndx ne
  have s1 : Same H (upd (upd H dx (.own x)) x (.ins C dx [])) := Same.put (Same.new0 ndx) nx
  refine ⟨x, dx, l, ts, rfl, upd_same, h.same s1, hn, fun us H' b hp hc hl => ⟨rfl, ?_⟩⟩
  exact q x us H' nx (Same.but2 s1 nx b) hp hc hl
/-- v stands for the polynomial with the numbers c: a Poly, or an int -/
def IsVal (C : Addr) (H : Hp) (v : V) (c : Int → Int) (n : Nat) : Prop := (∃ a ts, v = .ref a ∧ PolyAt C H a ts ∧ (∀ k, cof ts k = c k) ∧ ts.length ≤ n) ∨ (∃ i, v = .int i ∧ (∀ k, c k = if k = 0 then i else 0) ∧ 1 ≤ n)
theorem IsVal.same {C : Addr} {H H' : Hp} {v : V} {c : Int → Int} {n : Nat} (h : IsVal C H v c n) (s : Same H H') : IsVal C H' v c n := by
  rcases h with ⟨a, ts, e, ha, r⟩ | h
  · exact .inl ⟨a, ts, e, ha.same s, r⟩
  · exact .inr h
def spAsPoly (C : Addr) : Sp := fun vs H Q _ => ∃ v c n, vs = [v] ∧ IsVal C H v c n ∧ ∀ a ts H', Same H H' → PolyAt C H' a ts → (∀ k, cof ts k = c k) → ts.length ≤ n → Q (.ref a) H'
/-- a def of one polynomial that gives a new one -/
def spPoly1 (C : Addr) (f : Terms → Int → Int) : Sp := fun vs H Q _ => ∃ a ts, vs = [.ref a] ∧ PolyAt C H a ts ∧ ts.length ≤ 90000 ∧ ∀ b us H', Same H H' → PolyAt C H' b us → (∀ k, cof us k = f ts k) → us.length ≤ ts.length → Q (.ref b) H'
/-- an operator: self and a value -/
def spPoly2 (C : Addr) (f : (Int → Int) → (Int → Int) → Int → Int) : Sp := fun vs H Q _ => ∃ a ts v c n, vs = [.ref a, v] ∧ PolyAt C H a ts ∧ IsVal C H v c n ∧ ts.length + n ≤ 90000 ∧ ∀ b us H', Same H H' → PolyAt C H' b us → (∀ k, cof us k = f (cof ts) c k) → us.length ≤ ts.length + n → Q (.ref b) H'
def spGetTerms (C : Addr) : Sp := fun vs H Q _ => ∃ a ts, vs = [.ref a] ∧ PolyAt C H a ts ∧ ∀ l H', H l = none → Same H H' → TermsAt H' l ts → Q (.ref l) H'
def spanOf (ts : Terms) : Int := match ts.head?, ts.getLast? with | some p, some q => q.1 - p.1 | _, _ => 0
def spGetSpan (C : Addr) : Sp := fun vs H Q _ => ∃ a ts, vs = [.ref a] ∧ PolyAt C H a ts ∧ Q (.int (spanOf ts)) H
def spPLen (C : Addr) : Sp := fun vs H Q _ => ∃ a ts, vs = [.ref a] ∧ PolyAt C H a ts ∧ Q (.int ts.length) H
end My

set_option Elab.async false
set_option linter.all false
set_option maxRecDepth 100000
set_option maxHeartbeats 4000000

namespace My
open PySem PySem.Spec PyProof.Rows L2
section
variable {P : Program} {w : World} {K : PySem.W.Frag} {mg : Str → Option Value} {base : Heap} {C : Addr}
local macro_rules | `(tactic| walk_at "isi") => `(tactic| (first
  | (with_reducible refine r_is_int_int ?_)
  | (with_reducible refine r_is_int_bool ?_)
  | (with_reducible refine r_is_int_str ?_)
  | (with_reducible refine r_is_int_list ?_)
  | (with_reducible refine r_is_int_tuple ?_)
  | (with_reducible refine r_is_bool_int ?_)
  | (with_reducible refine r_is_bool_bool ?_)
  | (with_reducible refine r_is_bool_str ?_)
  | (with_reducible refine r_is_bool_list ?_)
  | (with_reducible refine r_is_bool_tuple ?_)
  | (with_reducible refine r_is_str_int ?_)
  | (with_reducible refine r_is_str_bool ?_)
  | (with_reducible refine r_is_str_str ?_)
  | (with_reducible refine r_is_str_list ?_)
  | (with_reducible refine r_is_str_tuple ?_)
  | ((with_reducible refine r_is_list_int (xs := ?xx) ?hh ?_); (case hh => walk_at "hp"))
  | ((with_reducible refine r_is_list_bool (xs := ?xx) ?hh ?_); (case hh => walk_at "hp"))
  | ((with_reducible refine r_is_list_str (xs := ?xx) ?hh ?_); (case hh => walk_at "hp"))
  | ((with_reducible refine r_is_list_list (xs := ?xx) ?hh ?_); (case hh => walk_at "hp"))
  | ((with_reducible refine r_is_list_tuple (xs := ?xx) ?hh ?_); (case hh => walk_at "hp"))
  | ((with_reducible refine r_is_tuple_int (xs := ?xx) ?hh ?_); (case hh => walk_at "hp"))
  | ((with_reducible refine r_is_tuple_bool (xs := ?xx) ?hh ?_); (case hh => walk_at "hp"))
  | ((with_reducible refine r_is_tuple_str (xs := ?xx) ?hh ?_); (case hh => walk_at "hp"))
  | ((with_reducible refine r_is_tuple_list (xs := ?xx) ?hh ?_); (case hh => walk_at "hp"))
  | ((with_reducible refine r_is_tuple_tuple (xs := ?xx) ?hh ?_); (case hh => walk_at "hp"))
  | (with_reducible refine r_is_NoneType_int ?_)
  | (with_reducible refine r_is_NoneType_bool ?_)
  | (with_reducible refine r_is_NoneType_str ?_)
  | (with_reducible refine r_is_NoneType_list ?_)
  | (with_reducible refine r_is_NoneType_tuple ?_)))
local macro_rules | `(tactic| walk_at "ne") => `(tactic| first | assumption | (refine Ne.symm ?_; assumption) | exact Bag.ne (by assumption) (by assumption) | exact ne_of_none (by assumption) (by assumption))
local macro_rules | `(tactic| walk_at "hp") => `(tactic| (first
  | assumption
  | exact upd_same
  | (refine h_keep ?_ (by assumption); walk_at "hp")
  | (refine (upd_ne (by walk_at "ne")).trans ?_; walk_at "hp")
  | (refine Same.at (by assumption) ?_; walk_at "hp")
  | (refine But.at (by assumption) (by walk_at "ne") ?_; walk_at "hp")
  | (refine But2.at (by assumption) (by walk_at "ne") (by walk_at "ne") ?_; walk_at "hp")))
local macro_rules | `(tactic| walk_at "side") => `(tactic| first | assumption | omega | (refine ⟨?_, ?_⟩ <;> first | assumption | omega | decide) | decide | (refine ⟨by decide, by decide, by decide⟩) | (left; refine ⟨?_, ?_⟩ <;> first | omega | decide) | (right; refine ⟨?_, ?_⟩ <;> first | omega | decide) | (simp; done))
local macro_rules | `(tactic| walk_at "cond") => `(tactic| first | assumption | exact rfl | omega | (simp only [List.length_cons, List.length_nil]; omega) | decide +kernel)
local macro_rules | `(tactic| walk_at "s") => `(tactic| (first
  | ((with_reducible refine r_var (v := ?vv) ?ee ?_); (case ee => exact rfl))
  | (with_reducible refine r_c ?_)
  | (with_reducible refine r_op ?_)
  | (with_reducible refine r_un ?_)
  | (with_reducible refine r_rI0 ?_)
  | ((with_reducible refine r_rI ?cc ?_); (case cc => walk_at "side"))
  | (with_reducible refine r_rU ?_)
  | (with_reducible refine r_eqI ?_)
  | (with_reducible refine r_neI ?_)
  | (with_reducible refine r_eqB ?_)
  | (with_reducible refine r_neB ?_)
  | (with_reducible refine r_eqS ?_)
  | (with_reducible refine r_neS ?_)
  | ((with_reducible refine r_eq ?ee ?_); (case ee => exact rfl))
  | ((with_reducible refine r_ne ?ee ?_); (case ee => exact rfl))
  | ((with_reducible refine r_ixL (v := ?vv) (xs := ?xx) ?hh ?ee ?_); (case hh => (refine SqL.of ?_; walk_at "hp")); (case ee => exact rfl))
  | (with_reducible refine r_cb ?_)
  | (with_reducible refine r_call ?_)
  | (with_reducible refine r_cons ?_)
  | (with_reducible refine r_nil ?_)
  | (with_reducible refine r_lst ?_)
  | (with_reducible refine r_tup ?_)
  | ((with_reducible refine r_new ?cc ?_); (case cc => walk_at "side"))
  | (with_reducible refine r_exbl ?_)
  | (with_reducible refine r_exint ?_)
  | (with_reducible refine r_exint2 ?_)
  | (with_reducible refine r_exblL ?_)
  | (with_reducible refine r_ex2 ?_)
  | (with_reducible refine r_test ?_)
  | (with_reducible refine r_tB ?_)
  | (with_reducible refine r_not ?_)
  | (with_reducible refine r_and ?_)
  | (with_reducible refine r_or ?_)
  | (with_reducible refine r_andV ?_)
  | (with_reducible refine r_orV ?_)
  | (with_reducible refine r_notV ?_)
  | (with_reducible refine r_tif ?_)
  | (with_reducible refine r_iteT ?_)
  | (with_reducible refine r_iteNT ?_)
  | (with_reducible refine r_iteNF ?_)
  | (with_reducible refine r_iteF ?_)
  | (with_reducible refine r_seq ?_)
  | (with_reducible refine r_next ?_)
  | (with_reducible refine r_brk ?_)
  | (with_reducible refine r_cont ?_)
  | (with_reducible refine r_asg ?_)
  | (with_reducible refine r_gname ?_)
  | (with_reducible refine r_ret ?_)
  | (with_reducible refine r_retN ?_)
  | (with_reducible refine r_drop ?_)
  | (with_reducible refine r_if ?_)
  | ((with_reducible refine r_aug (x := ?xx) ?ee ?_); (case ee => exact rfl))
  | (with_reducible refine r_ipI ?_)
  | (with_reducible refine r_augS ?_)
  | (with_reducible refine r_gsub ?_)
  | ((with_reducible refine r_setL (xs := ?xx) (m := ?mm) ?hh ?ee ?_); (case hh => walk_at "hp"); (case ee => exact rfl))
  | (with_reducible refine r_par ?_)
  | (with_reducible refine r_bm ?_)
  | ((with_reducible refine r_tyL (xs := ?xx) ?hh ?_); (case hh => walk_at "hp"))
  | ((with_reducible refine r_append (xs := ?xx) ?hh ?ll ?_); (case hh => walk_at "hp"); (case ll => walk_at "side"))
  | (walk_at "isi")
  | (with_reducible refine r_for ?_)
  | (with_reducible refine r_iList ?_)
  | (with_reducible refine r_iTup ?_)
  | (with_reducible refine r_iR1 ?_)
  | (with_reducible refine r_iR2 ?_)
  | (with_reducible refine r_lc ?_)
  | (with_reducible refine r_yes ?_)
  | ((with_reducible refine r_lenS ?ll ?_); (case ll => walk_at "side"))
  | (with_reducible refine r_leS ?_)
  | (with_reducible refine r_chain ?_)
  | (with_reducible refine r_tM1 ?_)
  | (with_reducible refine r_exS ?_)
  | ((with_reducible refine r_tupL (xs := ?xx) ?hh ?_); (case hh => walk_at "hp"))
  | ((with_reducible refine r_listL (xs := ?xx) ?hh ?_); (case hh => walk_at "hp"))
  | ((with_reducible refine r_listT (xs := ?xx) ?hh ?_); (case hh => walk_at "hp"))
  | ((with_reducible refine r_ixT (v := ?vv) (xs := ?xx) ?hh ?ee ?_); (case hh => (refine SqT.of ?_; walk_at "hp")); (case ee => exact rfl))
  | (with_reducible refine r_sl ?_)
  | (with_reducible refine r_nopart ?_)
  | (with_reducible refine r_part ?_)
  | (with_reducible refine r_exI ?_)
  | ((with_reducible refine r_slL (xs := ?xx) ?hh ?_); (case hh => first | assumption | (refine SqL.of ?_; walk_at "hp") | (refine Same.seq (by assumption) (by assumption))))
  | ((with_reducible refine r_cat (xs := ?xx) (zs := ?zz) ?hh ?ii ?ll ?_); (case hh => walk_at "hp"); (case ii => walk_at "hp"); (case ll => walk_at "side"))
  | ((with_reducible refine r_lenL (xs := ?xx) ?hh ?_); (case hh => walk_at "hp"))
  | ((with_reducible refine r_lenT (xs := ?xx) ?hh ?_); (case hh => walk_at "hp"))
  | ((with_reducible refine r_gTup (xs := ?xx) ?hh ?ll ?_); (case hh => walk_at "hp"); (case ll => exact rfl))
  | (with_reducible refine r_gCons ?_)
  | (with_reducible refine r_gNil ?_)
  | ((with_reducible refine r_iteDT ?cc ?_); (case cc => walk_at "cond"))
  | ((with_reducible refine r_iteDF ?cc ?_); (case cc => walk_at "cond"))
  | ((with_reducible refine r_iteNDT ?cc ?_); (case cc => walk_at "cond"))
  | ((with_reducible refine r_iteNDF ?cc ?_); (case cc => walk_at "cond"))
  ))
local macro_rules | `(tactic| walk_at "go") => `(tactic| repeat (walk_at "s"))

local macro_rules | `(tactic| walk_at "s") => `(tactic| (first
  | (with_reducible refine r_dnew ?_)
  | (with_reducible refine r_dget2 ?_)
  | (with_reducible refine r_dget ?_)
  | (with_reducible refine r_dput ?_)
  | (with_reducible refine r_dsetd ?_)
  | ((with_reducible refine JarAt.isD (n := ?nn) (c := ?cc) ?hh ?_); (case hh => assumption))
  ))

local macro_rules | `(tactic| walk_at "s") => `(tactic| (first
  | (with_reducible refine r_prop ?_)
  | (with_reducible refine r_meth ?_)
  | (with_reducible refine r_make ?_)
  | (with_reducible refine r_fld ?_)
  | (with_reducible refine r_sfld ?_)
  | (with_reducible refine r_iOwn ?_)
  | ((with_reducible refine u_rowsAt (mg := ?mm) (C := ?CC) (dx := ?dd) (fv := ?vv) ?tt ?hh ?_); (case tt => assumption); (case hh => walk_at "hp"))
  | ((with_reducible refine r_isPoly (mg := ?mm) (dx := ?dd) (fs := ?ff) ?tt ?hh ?_); (case tt => assumption); (case hh => walk_at "hp"))
  | ((with_reducible refine r_isPolyI (mg := ?mm) ?tt ?_); (case tt => assumption))
  | ((with_reducible refine r_polyInt (mg := ?mm) (C := ?CC) (dx := ?dd) (fs := ?ff) ?tt ?hh ?_); (case tt => assumption); (case hh => walk_at "hp"))
  ))

theorem ok_is_term {f : Addr} {fd : FuncData} (F : Fun K "is_term" "is_term" s_is_term f fd) (B : Bl mg) (h_is_integer : Has P w K mg base "is_integer" 1 ["value"] spIsInt) : FnOk P w K mg base CX0 2 f fd ["value"] spIsTerm := by
  refine F.ok sc_is_term (fun vs H Q E h => ?_) (fun cdv A outer s H vs Q E hr h => ?_)
  · obtain ⟨p, x, y, rfl, _⟩ := h
    rfl
  · obtain ⟨p, x, y, rfl, hp, k⟩ := h
    refine ⟨_, (pss_one (ps_ret (pe_and (pe_callB (call_isiKK (K := K)) (by rfl) B.b_isinstance (by decide +kernel) (pa_cons (pv 0) (pa_cons (pe_bltn (v := .ty "tuple") (by rfl) B.b_tuple (by decide +kernel) rfl) pa_nil))) (pe_and (pe_cmpR op_eq (pe_callB (call_lenK (K := K)) (by rfl) B.b_len PySem.boot_len (pa_cons (pv 0) pa_nil)) pe_int (nomark _)) (pe_and (pe_callH h_is_integer (hr.mono (by first | decide | omega)) (pa_cons (pe_ix (ix_tupK (K := K)) (pv 0) pe_int (fun _ _ => rfl)) pa_nil)) (pe_one (pe_callH h_is_integer (hr.mono (by first | decide | omega)) (pa_cons (pe_ix (ix_tupK (K := K)) (pv 0) pe_int (fun _ _ => rfl)) pa_nil)))))))), ?_⟩
    walk_at "go"
    refine ⟨x, rfl, ?_⟩
    walk_at "go"
    refine ⟨y, rfl, ?_⟩
    walk_at "go"
    exact k
theorem ok_summed {f : Addr} {fd : FuncData} (F : Fun K "summed" "summed" s_summed f fd) (B : Bl mg) (bS : mg "sorted" = none) : FnOk P w K mg base CX0 1 f fd ["terms"] spSummed := by
  refine F.ok sc_summed (fun vs H Q E h => ?_) (fun cdv A outer s H vs Q E hr h => ?_)
  · obtain ⟨l, ts, rfl, _⟩ := h
    rfl
  · obtain ⟨l, ts, rfl, ⟨vs, hl, ht⟩, hn, k⟩ := h
    refine ⟨_, (pss_cons (ps_set (i := 1) sc_summed.nd rfl (.inr rfl) pe_dnewK)
    (pss_cons (ps_for PassesOwn.never rfl (pi_list (pv 0)) (pg_tup (by rfl) (pgs_cons (pg_name (i := 2) sc_summed.nd rfl (.inl rfl)) (pgs_cons (pg_name (i := 3) sc_summed.nd rfl (.inl rfl)) pgs_nil)))
    (pss_one (ps_dput (hu_of hr) (pv 1) (pv 2) (pe_op op_add (pe_dget2 (hu_of hr) (pv 1) (pv 2) pe_int ⟨rfl, rfl, rfl, rfl⟩) (pv 3)) rfl)))
    (pss_one (ps_ret (pe_callTy call_tupL (by rfl) B.b_tuple (by decide +kernel) (pa_cons (pe_lc (own := [("power", 2)]) rfl sc_summed.nd (pi_list (pe_callB call_sortedDA (by rfl) bS (by decide +kernel) (pa_cons (pv 1) pa_nil))) (blkOk_by (N := ["terms", "sums", "power", "number"]) (sc := defScope s_summed) (by decide +kernel)) (fun _ _ _ _ _ => (pg_name (i := 2) sc_summed.nd rfl (.inl rfl))) (fun _ _ _ _ _ => pts_one (pt_cmpR op_ne (pe_dget (hu_of hr) (pv 1) (pv 2) (fun _ _ => rfl)) pe_int (nomark _))) (fun _ _ _ _ _ => (pe_tup (pa_cons (pv 2) (pa_cons (pe_dget (hu_of hr) (pv 1) (pv 2) (fun _ _ => rfl)) pa_nil))))) pa_nil)))))), ?_⟩
    walk_at "go"
    intro d nd
    walk_at "go"
    have hvl := ht.length
    refine u_forL (.of (h_keep hl nd)) (fun i σ H' => ∃ (c : Int → Int) (y2 y3 : Option V), σ = [some (.ref l), some (.ref d), y2, y3] ∧ Same H H' ∧ JarAt H' d i c ∧ (∀ k, c k = cof (ts.take i) k) ∧ i ≤ vs.length) ?_ ?_ ?_ ?_
    · exact ⟨_, _, _, rfl, Same.new0 nd, .new, fun k => rfl, Nat.zero_le _⟩
    · rintro i σ H' _ ⟨c, y2, y3, rfl, sm, _⟩
      exact .of (sm _ _ hl)
    · rintro i x σ H' hx ⟨c, y2, y3, rfl, sm, hj, hc, hi⟩
      obtain ⟨b, p, rfl, hp, hb⟩ := ht.at i hx
      have hi2 := (List.getElem?_eq_some_iff.mp hx).1
      have hb' := sm _ _ hb
      walk_at "go"
      obtain ⟨o, g1, g2⟩ := hj.dget0 p.1
      refine ⟨o, g1, ?_⟩
      rw [g2]
      walk_at "go"
      obtain ⟨H4, p1, b1, f1, j1⟩ := hj.dput (k := p.1) (v := c p.1 + p.2) (by omega)
      refine ⟨d, H4, rfl, p1, _, _, _, rfl, Same.but2 sm nd b1, j1, fun k => ?_, hi2⟩
      have et : ts.take (i + 1) = ts.take i ++ [p] := by rw [List.take_succ, hp]; rfl
      rw [et, cof_app, ← hc]
      unfold addAt
      rw [cof, cof]
      by_cases e : k = p.1
      · subst e; rw [if_pos rfl, if_pos rfl]; omega
      · rw [if_neg e, if_neg (fun h => e h.symm)]; omega
    · rintro σ H' ⟨c, y2, y3, rfl, sm, hj, hc, hi⟩
      rw [List.take_of_length_le (by omega)] at hc
      walk_at "go"
      refine rSortDJ hj fun ys q hys hz hlen hget nq => ?_
      have hj1 := hj.keep (o := .lst (ys.map V.int)) nq
      refine u_lcL (.of upd_same) (fun D i acc H2 => (TermsL H2 acc (((ys.take i).filter fun k => decide (c k ≠ 0)).map fun k => (k, c k)) ∧ i ≤ ys.length) ∧ Same (upd H' q (.lst (ys.map V.int))) H2) ?_ ?_ ?_ ?_
      · exact fun D hD => ⟨⟨rfl, Nat.zero_le _⟩, Same.new0 hD⟩
      · exact fun D i acc H2 _ _ ⟨_, s1⟩ => .of (s1 _ _ upd_same)
      · rintro D i x acc H2 hD hx hacc ⟨⟨ht2, hi0⟩, s1⟩
        rw [List.getElem?_map] at hx
        cases hy : ys[i]? with
        | none => rw [hy] at hx; cases hx
        | some y =>
          rw [hy] at hx
          cases hx
          obtain ⟨hi2, ey⟩ := List.getElem?_eq_some_iff.mp hy
          have hj2 := hj1.same s1
          have et : ys.take (i + 1) = ys.take i ++ [y] := by rw [List.take_succ, hy]; rfl
          have hm2 := (hget y (List.mem_of_getElem? hy)).same ((Same.new0 nq).trans s1)
          walk_at "go"
          refine ⟨rfl, ?_⟩
          walk_at "go"
          refine ⟨d, _, rfl, hj2.dget hm2, ?_⟩
          walk_at "go"
          refine r_ite (fun hb => ?_) (fun hb => ?_)
          · walk_at "go"
            refine ⟨d, _, rfl, hj2.dget hm2, ?_⟩
            walk_at "go"
            intro t nt
            have nz : decide (c y ≠ 0) = true := by simpa using hb
            have al : acc.length ≤ i := by
              rw [ht2.length, List.length_map]
              exact Nat.le_trans (List.length_filter_le _ _) (by rw [List.length_take]; omega)
            refine u_push (h_keep hacc nt) (by omega) ⟨⟨?_, hi2⟩, Same.put (Same.new s1 nt) hD⟩
            have t1 : Tk H2 (upd (upd H2 t (.tup [.int y, .int (c y)])) D (.lst (acc ++ [.ref t]))) := ((Tk.refl _).new nt).lst (h_keep hacc nt)
            rw [et, List.filter_append, List.map_append, List.filter_cons_of_pos (p := fun k => decide (c k ≠ 0)) nz]
            exact (ht2.tk t1).app (.one ((upd_ne (ne_of_none hacc nt).symm).trans upd_same))
          · refine u_skip hacc ⟨⟨?_, hi2⟩, s1⟩
            have nz : ¬ decide (c y ≠ 0) = true := by simpa using hb
            rw [et, List.filter_append, List.filter_cons_of_neg (p := fun k => decide (c k ≠ 0)) nz, List.filter_nil, List.append_nil]
            exact ht2
      · rintro D acc H2 hD hacc ⟨⟨ht2, hi0⟩, s1⟩
        walk_at "go"
        intro r nr
        rw [List.take_of_length_le (by simp)] at ht2
        have sE : Same H (upd H2 r (.tup acc)) := Same.new (sm.trans ((Same.new0 nq).trans s1)) nr
        refine k r _ acc _ (free_same (sm.trans ((Same.new0 nq).trans s1)) nr) sE upd_same (ht2.tk ((Tk.refl _).new nr)) (canon_of hys c) (fun j => ?_) ?_
        · rw [cof_of hys, ← hc]
          by_cases hm : j ∈ ys
          · rw [if_pos hm]
          · rw [if_neg hm, hz j hm]
        · rw [List.length_map]
          exact Nat.le_trans (List.length_filter_le _ _) (by omega)
end
end My

set_option Elab.async false
set_option linter.all false
set_option maxRecDepth 100000
set_option maxHeartbeats 4000000

namespace My
open PySem PySem.Spec PyProof.Rows L2
section
variable {P : Program} {w : World} {K : PySem.W.Frag} {mg : Str → Option Value} {base : Heap} {C : Addr}
local macro_rules | `(tactic| walk_at "isi") => `(tactic| (first
  | (with_reducible refine r_is_int_int ?_)
  | (with_reducible refine r_is_int_bool ?_)
  | (with_reducible refine r_is_int_str ?_)
  | (with_reducible refine r_is_int_list ?_)
  | (with_reducible refine r_is_int_tuple ?_)
  | (with_reducible refine r_is_bool_int ?_)
  | (with_reducible refine r_is_bool_bool ?_)
  | (with_reducible refine r_is_bool_str ?_)
  | (with_reducible refine r_is_bool_list ?_)
  | (with_reducible refine r_is_bool_tuple ?_)
  | (with_reducible refine r_is_str_int ?_)
  | (with_reducible refine r_is_str_bool ?_)
  | (with_reducible refine r_is_str_str ?_)
  | (with_reducible refine r_is_str_list ?_)
  | (with_reducible refine r_is_str_tuple ?_)
  | ((with_reducible refine r_is_list_int (xs := ?xx) ?hh ?_); (case hh => walk_at "hp"))
  | ((with_reducible refine r_is_list_bool (xs := ?xx) ?hh ?_); (case hh => walk_at "hp"))
  | ((with_reducible refine r_is_list_str (xs := ?xx) ?hh ?_); (case hh => walk_at "hp"))
  | ((with_reducible refine r_is_list_list (xs := ?xx) ?hh ?_); (case hh => walk_at "hp"))
  | ((with_reducible refine r_is_list_tuple (xs := ?xx) ?hh ?_); (case hh => walk_at "hp"))
  | ((with_reducible refine r_is_tuple_int (xs := ?xx) ?hh ?_); (case hh => walk_at "hp"))
  | ((with_reducible refine r_is_tuple_bool (xs := ?xx) ?hh ?_); (case hh => walk_at "hp"))
  | ((with_reducible refine r_is_tuple_str (xs := ?xx) ?hh ?_); (case hh => walk_at "hp"))
  | ((with_reducible refine r_is_tuple_list (xs := ?xx) ?hh ?_); (case hh => walk_at "hp"))
  | ((with_reducible refine r_is_tuple_tuple (xs := ?xx) ?hh ?_); (case hh => walk_at "hp"))
  | (with_reducible refine r_is_NoneType_int ?_)
  | (with_reducible refine r_is_NoneType_bool ?_)
  | (with_reducible refine r_is_NoneType_str ?_)
  | (with_reducible refine r_is_NoneType_list ?_)
  | (with_reducible refine r_is_NoneType_tuple ?_)))
local macro_rules | `(tactic| walk_at "ne") => `(tactic| first | assumption | (refine Ne.symm ?_; assumption) | exact Bag.ne (by assumption) (by assumption) | exact ne_of_none (by assumption) (by assumption))
local macro_rules | `(tactic| walk_at "hp") => `(tactic| (first
  | assumption
  | exact upd_same
  | (refine h_keep ?_ (by assumption); walk_at "hp")
  | (refine (upd_ne (by walk_at "ne")).trans ?_; walk_at "hp")
  | (refine Same.at (by assumption) ?_; walk_at "hp")
  | (refine But.at (by assumption) (by walk_at "ne") ?_; walk_at "hp")
  | (refine But2.at (by assumption) (by walk_at "ne") (by walk_at "ne") ?_; walk_at "hp")))
local macro_rules | `(tactic| walk_at "side") => `(tactic| first | assumption | omega | (refine ⟨?_, ?_⟩ <;> first | assumption | omega | decide) | decide | (refine ⟨by decide, by decide, by decide⟩) | (left; refine ⟨?_, ?_⟩ <;> first | omega | decide) | (right; refine ⟨?_, ?_⟩ <;> first | omega | decide) | (simp; done))
local macro_rules | `(tactic| walk_at "cond") => `(tactic| first | assumption | exact rfl | omega | (simp only [List.length_cons, List.length_nil]; omega) | decide +kernel)
local macro_rules | `(tactic| walk_at "s") => `(tactic| (first
  | ((with_reducible refine r_var (v := ?vv) ?ee ?_); (case ee => exact rfl))
  | (with_reducible refine r_c ?_)
  | (with_reducible refine r_op ?_)
  | (with_reducible refine r_un ?_)
  | (with_reducible refine r_rI0 ?_)
  | ((with_reducible refine r_rI ?cc ?_); (case cc => walk_at "side"))
  | (with_reducible refine r_rU ?_)
  | (with_reducible refine r_eqI ?_)
  | (with_reducible refine r_neI ?_)
  | (with_reducible refine r_eqB ?_)
  | (with_reducible refine r_neB ?_)
  | (with_reducible refine r_eqS ?_)
  | (with_reducible refine r_neS ?_)
  | ((with_reducible refine r_eq ?ee ?_); (case ee => exact rfl))
  | ((with_reducible refine r_ne ?ee ?_); (case ee => exact rfl))
  | ((with_reducible refine r_ixL (v := ?vv) (xs := ?xx) ?hh ?ee ?_); (case hh => (refine SqL.of ?_; walk_at "hp")); (case ee => exact rfl))
  | (with_reducible refine r_cb ?_)
  | (with_reducible refine r_call ?_)
  | (with_reducible refine r_cons ?_)
  | (with_reducible refine r_nil ?_)
  | (with_reducible refine r_lst ?_)
  | (with_reducible refine r_tup ?_)
  | ((with_reducible refine r_new ?cc ?_); (case cc => walk_at "side"))
  | (with_reducible refine r_exbl ?_)
  | (with_reducible refine r_exint ?_)
  | (with_reducible refine r_exint2 ?_)
  | (with_reducible refine r_exblL ?_)
  | (with_reducible refine r_ex2 ?_)
  | (with_reducible refine r_test ?_)
  | (with_reducible refine r_tB ?_)
  | (with_reducible refine r_not ?_)
  | (with_reducible refine r_and ?_)
  | (with_reducible refine r_or ?_)
  | (with_reducible refine r_andV ?_)
  | (with_reducible refine r_orV ?_)
  | (with_reducible refine r_notV ?_)
  | (with_reducible refine r_tif ?_)
  | (with_reducible refine r_iteT ?_)
  | (with_reducible refine r_iteNT ?_)
  | (with_reducible refine r_iteNF ?_)
  | (with_reducible refine r_iteF ?_)
  | (with_reducible refine r_seq ?_)
  | (with_reducible refine r_next ?_)
  | (with_reducible refine r_brk ?_)
  | (with_reducible refine r_cont ?_)
  | (with_reducible refine r_asg ?_)
  | (with_reducible refine r_gname ?_)
  | (with_reducible refine r_ret ?_)
  | (with_reducible refine r_retN ?_)
  | (with_reducible refine r_drop ?_)
  | (with_reducible refine r_if ?_)
  | ((with_reducible refine r_aug (x := ?xx) ?ee ?_); (case ee => exact rfl))
  | (with_reducible refine r_ipI ?_)
  | (with_reducible refine r_augS ?_)
  | (with_reducible refine r_gsub ?_)
  | ((with_reducible refine r_setL (xs := ?xx) (m := ?mm) ?hh ?ee ?_); (case hh => walk_at "hp"); (case ee => exact rfl))
  | (with_reducible refine r_par ?_)
  | (with_reducible refine r_bm ?_)
  | ((with_reducible refine r_tyL (xs := ?xx) ?hh ?_); (case hh => walk_at "hp"))
  | ((with_reducible refine r_append (xs := ?xx) ?hh ?ll ?_); (case hh => walk_at "hp"); (case ll => walk_at "side"))
  | (walk_at "isi")
  | (with_reducible refine r_for ?_)
  | (with_reducible refine r_iList ?_)
  | (with_reducible refine r_iTup ?_)
  | (with_reducible refine r_iR1 ?_)
  | (with_reducible refine r_iR2 ?_)
  | (with_reducible refine r_lc ?_)
  | (with_reducible refine r_yes ?_)
  | ((with_reducible refine r_lenS ?ll ?_); (case ll => walk_at "side"))
  | (with_reducible refine r_leS ?_)
  | (with_reducible refine r_chain ?_)
  | (with_reducible refine r_tM1 ?_)
  | (with_reducible refine r_exS ?_)
  | ((with_reducible refine r_tupL (xs := ?xx) ?hh ?_); (case hh => walk_at "hp"))
  | ((with_reducible refine r_listL (xs := ?xx) ?hh ?_); (case hh => walk_at "hp"))
  | ((with_reducible refine r_listT (xs := ?xx) ?hh ?_); (case hh => walk_at "hp"))
  | ((with_reducible refine r_ixT (v := ?vv) (xs := ?xx) ?hh ?ee ?_); (case hh => (refine SqT.of ?_; walk_at "hp")); (case ee => exact rfl))
  | (with_reducible refine r_sl ?_)
  | (with_reducible refine r_nopart ?_)
  | (with_reducible refine r_part ?_)
  | (with_reducible refine r_exI ?_)
  | ((with_reducible refine r_slL (xs := ?xx) ?hh ?_); (case hh => first | assumption | (refine SqL.of ?_; walk_at "hp") | (refine Same.seq (by assumption) (by assumption))))
  | ((with_reducible refine r_cat (xs := ?xx) (zs := ?zz) ?hh ?ii ?ll ?_); (case hh => walk_at "hp"); (case ii => walk_at "hp"); (case ll => walk_at "side"))
  | ((with_reducible refine r_lenL (xs := ?xx) ?hh ?_); (case hh => walk_at "hp"))
  | ((with_reducible refine r_lenT (xs := ?xx) ?hh ?_); (case hh => walk_at "hp"))
  | ((with_reducible refine r_gTup (xs := ?xx) ?hh ?ll ?_); (case hh => walk_at "hp"); (case ll => exact rfl))
  | (with_reducible refine r_gCons ?_)
  | (with_reducible refine r_gNil ?_)
  | ((with_reducible refine r_iteDT ?cc ?_); (case cc => walk_at "cond"))
  | ((with_reducible refine r_iteDF ?cc ?_); (case cc => walk_at "cond"))
  | ((with_reducible refine r_iteNDT ?cc ?_); (case cc => walk_at "cond"))
  | ((with_reducible refine r_iteNDF ?cc ?_); (case cc => walk_at "cond"))
  ))
local macro_rules | `(tactic| walk_at "go") => `(tactic| repeat (walk_at "s"))

local macro_rules | `(tactic| walk_at "s") => `(tactic| (first
  | (with_reducible refine r_dnew ?_)
  | (with_reducible refine r_dget2 ?_)
  | (with_reducible refine r_dget ?_)
  | (with_reducible refine r_dput ?_)
  | (with_reducible refine r_dsetd ?_)
  | ((with_reducible refine JarAt.isD (n := ?nn) (c := ?cc) ?hh ?_); (case hh => assumption))
  ))

local macro_rules | `(tactic| walk_at "s") => `(tactic| (first
  | (with_reducible refine r_prop ?_)
  | (with_reducible refine r_meth ?_)
  | (with_reducible refine r_make ?_)
  | (with_reducible refine r_fld ?_)
  | (with_reducible refine r_sfld ?_)
  | (with_reducible refine r_iOwn ?_)
  | ((with_reducible refine u_rowsAt (mg := ?mm) (C := ?CC) (dx := ?dd) (fv := ?vv) ?tt ?hh ?_); (case tt => assumption); (case hh => walk_at "hp"))
  | ((with_reducible refine r_isPoly (mg := ?mm) (dx := ?dd) (fs := ?ff) ?tt ?hh ?_); (case tt => assumption); (case hh => walk_at "hp"))
  | ((with_reducible refine r_isPolyI (mg := ?mm) ?tt ?_); (case tt => assumption))
  | ((with_reducible refine r_polyInt (mg := ?mm) (C := ?CC) (dx := ?dd) (fs := ?ff) ?tt ?hh ?_); (case tt => assumption); (case hh => walk_at "hp"))
  ))

theorem ok_Poly_init {f : Addr} {fd : FuncData} (F : Fun K "__init__" "Poly.__init__" s_Poly___init__ f fd) (B : Bl mg) (T : PolyT K mg C) (h_is_term : Has P w K mg base "is_term" 2 ["value"] spIsTerm) (h_summed : Has P w K mg base "summed" 1 ["terms"] spSummed) : FnOk P w K mg base CX0 3 f fd ["self", "terms"] (spInit C) := by
  refine F.ok sc_Poly___init__ (fun vs H Q E h => ?_) (fun cdv A outer s H vs Q E hr h => ?_)
  · obtain ⟨x, dx, l, ts, rfl, _⟩ := h
    rfl
  · obtain ⟨x, dx, l, ts, rfl, hx, ⟨vs, hl, ht⟩, hn, k⟩ := h
    refine ⟨_, (pss_cons (ps_if (PW.pt (pw_or (pt_not (pt_val (pe_callB (call_isiKK (K := K)) (by rfl) B.b_isinstance (by decide +kernel) (pa_cons (pv 1) (pa_cons (pe_bltn (v := .ty "list") (by rfl) B.b_list (by decide +kernel) rfl) pa_nil))))) (pw_or1 (pt_not (pt_val (pe_callB (call_allK (K := K)) (by rfl) B.b_all (by decide +kernel) (pa_cons (pe_lc (own := [("term", 2)]) rfl sc_Poly___init__.nd (pi_list (pv 1)) (blkOk_by (N := ["self", "terms", "term"]) (sc := defScope s_Poly___init__) (by decide +kernel)) (fun _ _ _ _ _ => (pg_name (i := 2) sc_Poly___init__.nd rfl (.inl rfl))) (fun _ _ _ _ _ => pts_nil) (fun _ _ _ _ _ => (pe_callH h_is_term (hr.mono (by first | decide | omega)) (pa_cons (pv 2) pa_nil)))) pa_nil)))))))
    (pss_one ps_never)
    pss_nil)
    (pss_one (ps_fld (pv 0) (pe_callH h_summed (hr.mono (by first | decide | omega)) (pa_cons (pv 1) pa_nil)) rfl))), ?_⟩
    walk_at "go"
    refine u_lcL (.of hl) (fun D i acc H' => (acc = (List.replicate i true).map V.bl ∧ i ≤ vs.length) ∧ Same H H') ?_ ?_ ?_ ?_
    · exact fun D hD => ⟨⟨rfl, by omega⟩, Same.new0 hD⟩
    · exact fun D i acc H' _ _ ⟨_, s1⟩ => .of (s1 _ _ hl)
    · rintro D i v acc H' hD hv hacc ⟨⟨ea, _⟩, sm⟩
      obtain ⟨b, p, rfl, hp, hb⟩ := ht.at i hv
      have hi2 := (List.getElem?_eq_some_iff.mp hv).1
      have hvl := ht.length
      walk_at "go"
      refine ⟨rfl, ?_⟩
      walk_at "go"
      refine ⟨b, p.1, p.2, rfl, sm _ _ hb, ?_⟩
      have al : acc.length = i := by rw [ea]; simp
      refine u_push hacc (by omega) ⟨⟨?_, by omega⟩, Same.put sm hD⟩
      rw [ea, List.replicate_succ', List.map_append]
      rfl
    · rintro D acc H' hD hacc ⟨⟨ea, _⟩, sm⟩
      rw [ea] at hacc
      walk_at "go"
      refine r_all (SqL.of hacc) ?_
      rw [show ((List.replicate vs.length true).all id) = true by simp]
      walk_at "go"
      refine ⟨l, ts, rfl, ⟨vs, sm _ _ hl, ht.tk (Tk.same sm)⟩, hn, fun r us ws H2 nr s2 hr2 hw hc hcof hlen => ?_⟩
      have hx2 : H2 x = some (.ins C dx []) := s2 _ _ (sm _ _ hx)
      walk_at "go"
      refine ⟨x, C, dx, _, rfl, hx2, T.cl, T.nR, by show 0 < 1000; decide, ?_⟩
      refine k us _ (But.self (Same.but (sm.trans s2) x)) ⟨dx, r, ws, upd_same, (upd_ne (ne_of hr2 hx2 (by intro z; cases z))).trans hr2, hw.tk fun c xs e => (upd_ne (ne_of e hx2 (by intro z; cases z))).trans e, hc⟩ hcof hlen
end
end My

set_option Elab.async false
set_option linter.all false
set_option maxRecDepth 100000
set_option maxHeartbeats 4000000

namespace My
open PySem PySem.Spec PyProof.Rows L2
section
variable {P : Program} {w : World} {K : PySem.W.Frag} {mg : Str → Option Value} {base : Heap} {C : Addr}
local macro_rules | `(tactic| walk_at "isi") => `(tactic| (first
  | (with_reducible refine r_is_int_int ?_)
  | (with_reducible refine r_is_int_bool ?_)
  | (with_reducible refine r_is_int_str ?_)
  | (with_reducible refine r_is_int_list ?_)
  | (with_reducible refine r_is_int_tuple ?_)
  | (with_reducible refine r_is_bool_int ?_)
  | (with_reducible refine r_is_bool_bool ?_)
  | (with_reducible refine r_is_bool_str ?_)
  | (with_reducible refine r_is_bool_list ?_)
  | (with_reducible refine r_is_bool_tuple ?_)
  | (with_reducible refine r_is_str_int ?_)
  | (with_reducible refine r_is_str_bool ?_)
  | (with_reducible refine r_is_str_str ?_)
  | (with_reducible refine r_is_str_list ?_)
  | (with_reducible refine r_is_str_tuple ?_)
  | ((with_reducible refine r_is_list_int (xs := ?xx) ?hh ?_); (case hh => walk_at "hp"))
  | ((with_reducible refine r_is_list_bool (xs := ?xx) ?hh ?_); (case hh => walk_at "hp"))
  | ((with_reducible refine r_is_list_str (xs := ?xx) ?hh ?_); (case hh => walk_at "hp"))
  | ((with_reducible refine r_is_list_list (xs := ?xx) ?hh ?_); (case hh => walk_at "hp"))
  | ((with_reducible refine r_is_list_tuple (xs := ?xx) ?hh ?_); (case hh => walk_at "hp"))
  | ((with_reducible refine r_is_tuple_int (xs := ?xx) ?hh ?_); (case hh => walk_at "hp"))
  | ((with_reducible refine r_is_tuple_bool (xs := ?xx) ?hh ?_); (case hh => walk_at "hp"))
  | ((with_reducible refine r_is_tuple_str (xs := ?xx) ?hh ?_); (case hh => walk_at "hp"))
  | ((with_reducible refine r_is_tuple_list (xs := ?xx) ?hh ?_); (case hh => walk_at "hp"))
  | ((with_reducible refine r_is_tuple_tuple (xs := ?xx) ?hh ?_); (case hh => walk_at "hp"))
  | (with_reducible refine r_is_NoneType_int ?_)
  | (with_reducible refine r_is_NoneType_bool ?_)
  | (with_reducible refine r_is_NoneType_str ?_)
  | (with_reducible refine r_is_NoneType_list ?_)
  | (with_reducible refine r_is_NoneType_tuple ?_)))
local macro_rules | `(tactic| walk_at "ne") => `(tactic| first | assumption | (refine Ne.symm ?_; assumption) | exact Bag.ne (by assumption) (by assumption) | exact ne_of_none (by assumption) (by assumption))
local macro_rules | `(tactic| walk_at "hp") => `(tactic| (first
  | assumption
  | exact upd_same
  | (refine h_keep ?_ (by assumption); walk_at "hp")
  | (refine (upd_ne (by walk_at "ne")).trans ?_; walk_at "hp")
  | (refine Same.at (by assumption) ?_; walk_at "hp")
  | (refine But.at (by assumption) (by walk_at "ne") ?_; walk_at "hp")
  | (refine But2.at (by assumption) (by walk_at "ne") (by walk_at "ne") ?_; walk_at "hp")))
local macro_rules | `(tactic| walk_at "side") => `(tactic| first | assumption | omega | (refine ⟨?_, ?_⟩ <;> first | assumption | omega | decide) | decide | (refine ⟨by decide, by decide, by decide⟩) | (left; refine ⟨?_, ?_⟩ <;> first | omega | decide) | (right; refine ⟨?_, ?_⟩ <;> first | omega | decide) | (simp; done))
local macro_rules | `(tactic| walk_at "cond") => `(tactic| first | assumption | exact rfl | omega | (simp only [List.length_cons, List.length_nil]; omega) | decide +kernel)
local macro_rules | `(tactic| walk_at "s") => `(tactic| (first
  | ((with_reducible refine r_var (v := ?vv) ?ee ?_); (case ee => exact rfl))
  | (with_reducible refine r_c ?_)
  | (with_reducible refine r_op ?_)
  | (with_reducible refine r_un ?_)
  | (with_reducible refine r_rI0 ?_)
  | ((with_reducible refine r_rI ?cc ?_); (case cc => walk_at "side"))
  | (with_reducible refine r_rU ?_)
  | (with_reducible refine r_eqI ?_)
  | (with_reducible refine r_neI ?_)
  | (with_reducible refine r_eqB ?_)
  | (with_reducible refine r_neB ?_)
  | (with_reducible refine r_eqS ?_)
  | (with_reducible refine r_neS ?_)
  | ((with_reducible refine r_eq ?ee ?_); (case ee => exact rfl))
  | ((with_reducible refine r_ne ?ee ?_); (case ee => exact rfl))
  | ((with_reducible refine r_ixL (v := ?vv) (xs := ?xx) ?hh ?ee ?_); (case hh => (refine SqL.of ?_; walk_at "hp")); (case ee => exact rfl))
  | (with_reducible refine r_cb ?_)
  | (with_reducible refine r_call ?_)
  | (with_reducible refine r_cons ?_)
  | (with_reducible refine r_nil ?_)
  | (with_reducible refine r_lst ?_)
  | (with_reducible refine r_tup ?_)
  | ((with_reducible refine r_new ?cc ?_); (case cc => walk_at "side"))
  | (with_reducible refine r_exbl ?_)
  | (with_reducible refine r_exint ?_)
  | (with_reducible refine r_exint2 ?_)
  | (with_reducible refine r_exblL ?_)
  | (with_reducible refine r_ex2 ?_)
  | (with_reducible refine r_test ?_)
  | (with_reducible refine r_tB ?_)
  | (with_reducible refine r_not ?_)
  | (with_reducible refine r_and ?_)
  | (with_reducible refine r_or ?_)
  | (with_reducible refine r_andV ?_)
  | (with_reducible refine r_orV ?_)
  | (with_reducible refine r_notV ?_)
  | (with_reducible refine r_tif ?_)
  | (with_reducible refine r_iteT ?_)
  | (with_reducible refine r_iteNT ?_)
  | (with_reducible refine r_iteNF ?_)
  | (with_reducible refine r_iteF ?_)
  | (with_reducible refine r_seq ?_)
  | (with_reducible refine r_next ?_)
  | (with_reducible refine r_brk ?_)
  | (with_reducible refine r_cont ?_)
  | (with_reducible refine r_asg ?_)
  | (with_reducible refine r_gname ?_)
  | (with_reducible refine r_ret ?_)
  | (with_reducible refine r_retN ?_)
  | (with_reducible refine r_drop ?_)
  | (with_reducible refine r_if ?_)
  | ((with_reducible refine r_aug (x := ?xx) ?ee ?_); (case ee => exact rfl))
  | (with_reducible refine r_ipI ?_)
  | (with_reducible refine r_augS ?_)
  | (with_reducible refine r_gsub ?_)
  | ((with_reducible refine r_setL (xs := ?xx) (m := ?mm) ?hh ?ee ?_); (case hh => walk_at "hp"); (case ee => exact rfl))
  | (with_reducible refine r_par ?_)
  | (with_reducible refine r_bm ?_)
  | ((with_reducible refine r_tyL (xs := ?xx) ?hh ?_); (case hh => walk_at "hp"))
  | ((with_reducible refine r_append (xs := ?xx) ?hh ?ll ?_); (case hh => walk_at "hp"); (case ll => walk_at "side"))
  | (walk_at "isi")
  | (with_reducible refine r_for ?_)
  | (with_reducible refine r_iList ?_)
  | (with_reducible refine r_iTup ?_)
  | (with_reducible refine r_iR1 ?_)
  | (with_reducible refine r_iR2 ?_)
  | (with_reducible refine r_lc ?_)
  | (with_reducible refine r_yes ?_)
  | ((with_reducible refine r_lenS ?ll ?_); (case ll => walk_at "side"))
  | (with_reducible refine r_leS ?_)
  | (with_reducible refine r_chain ?_)
  | (with_reducible refine r_tM1 ?_)
  | (with_reducible refine r_exS ?_)
  | ((with_reducible refine r_tupL (xs := ?xx) ?hh ?_); (case hh => walk_at "hp"))
  | ((with_reducible refine r_listL (xs := ?xx) ?hh ?_); (case hh => walk_at "hp"))
  | ((with_reducible refine r_listT (xs := ?xx) ?hh ?_); (case hh => walk_at "hp"))
  | ((with_reducible refine r_ixT (v := ?vv) (xs := ?xx) ?hh ?ee ?_); (case hh => (refine SqT.of ?_; walk_at "hp")); (case ee => exact rfl))
  | (with_reducible refine r_sl ?_)
  | (with_reducible refine r_nopart ?_)
  | (with_reducible refine r_part ?_)
  | (with_reducible refine r_exI ?_)
  | ((with_reducible refine r_slL (xs := ?xx) ?hh ?_); (case hh => first | assumption | (refine SqL.of ?_; walk_at "hp") | (refine Same.seq (by assumption) (by assumption))))
  | ((with_reducible refine r_cat (xs := ?xx) (zs := ?zz) ?hh ?ii ?ll ?_); (case hh => walk_at "hp"); (case ii => walk_at "hp"); (case ll => walk_at "side"))
  | ((with_reducible refine r_lenL (xs := ?xx) ?hh ?_); (case hh => walk_at "hp"))
  | ((with_reducible refine r_lenT (xs := ?xx) ?hh ?_); (case hh => walk_at "hp"))
  | ((with_reducible refine r_gTup (xs := ?xx) ?hh ?ll ?_); (case hh => walk_at "hp"); (case ll => exact rfl))
  | (with_reducible refine r_gCons ?_)
  | (with_reducible refine r_gNil ?_)
  | ((with_reducible refine r_iteDT ?cc ?_); (case cc => walk_at "cond"))
  | ((with_reducible refine r_iteDF ?cc ?_); (case cc => walk_at "cond"))
  | ((with_reducible refine r_iteNDT ?cc ?_); (case cc => walk_at "cond"))
  | ((with_reducible refine r_iteNDF ?cc ?_); (case cc => walk_at "cond"))
  ))
local macro_rules | `(tactic| walk_at "go") => `(tactic| repeat (walk_at "s"))

local macro_rules | `(tactic| walk_at "s") => `(tactic| (first
  | (with_reducible refine r_dnew ?_)
  | (with_reducible refine r_dget2 ?_)
  | (with_reducible refine r_dget ?_)
  | (with_reducible refine r_dput ?_)
  | (with_reducible refine r_dsetd ?_)
  | ((with_reducible refine JarAt.isD (n := ?nn) (c := ?cc) ?hh ?_); (case hh => assumption))
  ))

local macro_rules | `(tactic| walk_at "s") => `(tactic| (first
  | (with_reducible refine r_prop ?_)
  | (with_reducible refine r_meth ?_)
  | (with_reducible refine r_make ?_)
  | (with_reducible refine r_fld ?_)
  | (with_reducible refine r_sfld ?_)
  | (with_reducible refine r_iOwn ?_)
  | ((with_reducible refine u_rowsAt (mg := ?mm) (C := ?CC) (dx := ?dd) (fv := ?vv) ?tt ?hh ?_); (case tt => assumption); (case hh => walk_at "hp"))
  | ((with_reducible refine r_isPoly (mg := ?mm) (dx := ?dd) (fs := ?ff) ?tt ?hh ?_); (case tt => assumption); (case hh => walk_at "hp"))
  | ((with_reducible refine r_isPolyI (mg := ?mm) ?tt ?_); (case tt => assumption))
  | ((with_reducible refine r_polyInt (mg := ?mm) (C := ?CC) (dx := ?dd) (fs := ?ff) ?tt ?hh ?_); (case tt => assumption); (case hh => walk_at "hp"))
  ))

theorem last_of {ts : Terms} {vs : List V} {H : Hp} (h : TermsL H vs ts) (n : ts ≠ []) : ∃ (b b' : Addr) (p q : Int × Int), atI vs 0 = some (.ref b) ∧ H b = some (.tup [.int p.1, .int p.2]) ∧ atI vs (-1) = some (.ref b') ∧ H b' = some (.tup [.int q.1, .int q.2]) ∧ ts.head? = some p ∧ ts.getLast? = some q := by
  have hl := h.length
  have h0 : 0 < ts.length := List.length_pos_iff.mpr n
  have hx : vs[0]? = some vs[0] := List.getElem?_eq_getElem (by omega)
  have hy : vs[vs.length - 1]? = some vs[vs.length - 1] := List.getElem?_eq_getElem (by omega)
  obtain ⟨b, p, e1, e2, e3⟩ := h.at 0 hx
  obtain ⟨b', q, f1, f2, f3⟩ := h.at _ hy
  refine ⟨b, b', p, q, ?_, e3, ?_, f3, by rw [List.head?_eq_getElem?]; exact e2, by rw [List.getLast?_eq_getElem?, ← hl]; exact f2⟩
  · unfold atI ixN
    rw [if_pos (by omega), if_pos (by omega)]
    show vs[0]? = _
    rw [hx, e1]
  · unfold atI ixN
    rw [if_neg (by omega), if_pos (by omega)]
    show vs[((vs.length : Int) + -1).toNat]? = _
    rw [show ((vs.length : Int) + -1).toNat = vs.length - 1 by omega, hy, f1]
theorem ok_Poly_terms {f : Addr} {fd : FuncData} (F : Fun K "terms" "Poly.terms" s_Poly_terms f fd) (B : Bl mg) (T : PolyT K mg C) : FnOk P w K mg base CX0 1 f fd ["self"] (spGetTerms C) := by
  refine F.ok sc_Poly_terms (fun vs H Q E h => ?_) (fun cdv A outer s H vs Q E hr h => ?_)
  · obtain ⟨a, ts, rfl, _⟩ := h
    rfl
  · obtain ⟨a, ts, rfl, ⟨dx, r, vs, g1, hr', ht, hc⟩, k⟩ := h
    refine ⟨_, (pss_one (ps_ret (pe_callTy call_listT (by rfl) B.b_list (by decide +kernel) (pa_cons (pe_fldK (K := K) (pv 0)) pa_nil)))), ?_⟩
    walk_at "go"
    intro l nl
    exact k l _ nl (Same.new0 nl) ⟨vs, upd_same, ht.tk ((Tk.refl _).new nl)⟩
theorem ok_Poly_span {f : Addr} {fd : FuncData} (F : Fun K "span" "Poly.span" s_Poly_span f fd) (B : Bl mg) (T : PolyT K mg C) : FnOk P w K mg base CX0 1 f fd ["self"] (spGetSpan C) := by
  refine F.ok sc_Poly_span (fun vs H Q E h => ?_) (fun cdv A outer s H vs Q E hr h => ?_)
  · obtain ⟨a, ts, rfl, _⟩ := h
    rfl
  · obtain ⟨a, ts, rfl, ⟨dx, r, vs, g1, hr', ht, hc⟩, k⟩ := h
    refine ⟨_, (pss_cons (ps_if (pt_cmpR op_eq (pe_callB (call_lenK (K := K)) (by rfl) B.b_len PySem.boot_len (pa_cons (pe_fldK (K := K) (pv 0)) pa_nil)) pe_int (nomark _))
    (pss_one (ps_ret pe_int))
    pss_nil)
    (pss_one (ps_ret (pe_op op_sub (pe_ix (ix_tupK (K := K)) (pe_ix (ix_tupK (K := K)) (pe_fldK (K := K) (pv 0)) (pe_un un_neg pe_int) (fun _ _ => rfl)) pe_int (fun _ _ => rfl)) (pe_ix (ix_tupK (K := K)) (pe_ix (ix_tupK (K := K)) (pe_fldK (K := K) (pv 0)) pe_int (fun _ _ => rfl)) pe_int (fun _ _ => rfl)))))), ?_⟩
    have hl := ht.length
    walk_at "go"
    refine r_iteD (fun h0 => ?_) (fun h0 => ?_)
    · walk_at "go"
      have e : ts = [] := List.length_eq_zero_iff.mp (by omega)
      subst e
      exact k
    · have ne : ts ≠ [] := by rintro rfl; rw [List.length_nil] at hl; omega
      obtain ⟨b, b', p, q, a0, h0', a1, h1', e0, e1⟩ := last_of ht ne
      walk_at "go"
      refine r_ixT (.of hr') a1 ?_
      walk_at "go"
      refine r_ixT (.of hr') a0 ?_
      walk_at "go"
      have e : spanOf ts = q.1 - p.1 := by unfold spanOf; rw [e0, e1]
      rw [e] at k
      exact k
theorem ok_Poly_len {f : Addr} {fd : FuncData} (F : Fun K "__len__" "Poly.__len__" s_Poly___len__ f fd) (B : Bl mg) (T : PolyT K mg C) : FnOk P w K mg base CX0 1 f fd ["self"] (spPLen C) := by
  refine F.ok sc_Poly___len__ (fun vs H Q E h => ?_) (fun cdv A outer s H vs Q E hr h => ?_)
  · obtain ⟨a, ts, rfl, _⟩ := h
    rfl
  · obtain ⟨a, ts, rfl, ⟨dx, r, vs, g1, hr', ht, hc⟩, k⟩ := h
    refine ⟨_, (pss_one (ps_ret (pe_callB (call_lenK (K := K)) (by rfl) B.b_len PySem.boot_len (pa_cons (pe_fldK (K := K) (pv 0)) pa_nil)))), ?_⟩
    have hl := ht.length
    walk_at "go"
    rw [hl]
    exact k
theorem ok_Poly_iter {f : Addr} {fd : FuncData} (F : Fun K "__iter__" "Poly.__iter__" s_Poly___iter__ f fd) (bI : mg "iter" = none) (T : PolyT K mg C) : FnS P w K mg base 1 f fd ["self"] (spIter K C "rows") := by
  refine fnS_of F sc_Poly___iter__ (fun s vs H Q E h => ?_) (fun cdv A outer s H vs Q E hr h => ?_)
  · obtain ⟨a, dx, fs, b, ys, rfl, _⟩ := h
    rfl
  · obtain ⟨a, dx, fs, b, ys, rfl, ha, hf, hy, k⟩ := h
    refine ⟨_, (pss_one (ps_ret (pe_callB call_iterS (by rfl) bI (by decide +kernel) (pa_cons (pe_fldK (K := K) (pv 0)) pa_nil)))), ?_⟩
    walk_at "go"
    refine ⟨a, C, dx, fs, _, rfl, ha, T.cl, T.nR, hf, ?_⟩
    walk_at "go"
    exact ⟨b, ys, rfl, hy, fun p np sz => k p np sz⟩
theorem ok_check_poly {f : Addr} {fd : FuncData} (F : Fun K "check_poly" "check_poly" s_check_poly f fd) (B : Bl mg) (G_Poly : PolyT K mg C) : FnOk P w K mg base CX0 1 f fd ["value"] (fun vs H Q _ => ∃ a ts, vs = [.ref a] ∧ PolyAt C H a ts ∧ Q .non H) := by
  refine F.ok sc_check_poly (fun vs H Q E h => ?_) (fun cdv A outer s H vs Q E hr h => ?_)
  · obtain ⟨a, ts, rfl, _⟩ := h
    rfl
  · obtain ⟨a, ts, rfl, ⟨dx, r, vs, h1, h2⟩, k⟩ := h
    refine ⟨_, (pss_one (ps_if (pt_not (pt_val (pe_callB (call_isiKK (K := K)) (by rfl) B.b_isinstance (by decide +kernel) (pa_cons (pv 0) (pa_cons (pe_glob (v := .ref C) rfl G_Poly.mgC rfl) pa_nil)))))
    (pss_one ps_never)
    pss_nil)), ?_⟩
    walk_at "go"
    exact k
end
end My

set_option Elab.async false
set_option linter.all false
set_option maxRecDepth 100000
set_option maxHeartbeats 4000000

namespace My
open PySem PySem.Spec PyProof.Rows L2
section
variable {P : Program} {w : World} {K : PySem.W.Frag} {mg : Str → Option Value} {base : Heap} {C : Addr}
local macro_rules | `(tactic| walk_at "isi") => `(tactic| (first
  | (with_reducible refine r_is_int_int ?_)
  | (with_reducible refine r_is_int_bool ?_)
  | (with_reducible refine r_is_int_str ?_)
  | (with_reducible refine r_is_int_list ?_)
  | (with_reducible refine r_is_int_tuple ?_)
  | (with_reducible refine r_is_bool_int ?_)
  | (with_reducible refine r_is_bool_bool ?_)
  | (with_reducible refine r_is_bool_str ?_)
  | (with_reducible refine r_is_bool_list ?_)
  | (with_reducible refine r_is_bool_tuple ?_)
  | (with_reducible refine r_is_str_int ?_)
  | (with_reducible refine r_is_str_bool ?_)
  | (with_reducible refine r_is_str_str ?_)
  | (with_reducible refine r_is_str_list ?_)
  | (with_reducible refine r_is_str_tuple ?_)
  | ((with_reducible refine r_is_list_int (xs := ?xx) ?hh ?_); (case hh => walk_at "hp"))
  | ((with_reducible refine r_is_list_bool (xs := ?xx) ?hh ?_); (case hh => walk_at "hp"))
  | ((with_reducible refine r_is_list_str (xs := ?xx) ?hh ?_); (case hh => walk_at "hp"))
  | ((with_reducible refine r_is_list_list (xs := ?xx) ?hh ?_); (case hh => walk_at "hp"))
  | ((with_reducible refine r_is_list_tuple (xs := ?xx) ?hh ?_); (case hh => walk_at "hp"))
  | ((with_reducible refine r_is_tuple_int (xs := ?xx) ?hh ?_); (case hh => walk_at "hp"))
  | ((with_reducible refine r_is_tuple_bool (xs := ?xx) ?hh ?_); (case hh => walk_at "hp"))
  | ((with_reducible refine r_is_tuple_str (xs := ?xx) ?hh ?_); (case hh => walk_at "hp"))
  | ((with_reducible refine r_is_tuple_list (xs := ?xx) ?hh ?_); (case hh => walk_at "hp"))
  | ((with_reducible refine r_is_tuple_tuple (xs := ?xx) ?hh ?_); (case hh => walk_at "hp"))
  | (with_reducible refine r_is_NoneType_int ?_)
  | (with_reducible refine r_is_NoneType_bool ?_)
  | (with_reducible refine r_is_NoneType_str ?_)
  | (with_reducible refine r_is_NoneType_list ?_)
  | (with_reducible refine r_is_NoneType_tuple ?_)))
local macro_rules | `(tactic| walk_at "ne") => `(tactic| first | assumption | (refine Ne.symm ?_; assumption) | exact Bag.ne (by assumption) (by assumption) | exact ne_of_none (by assumption) (by assumption))
local macro_rules | `(tactic| walk_at "hp") => `(tactic| (first
  | assumption
  | exact upd_same
  | (refine h_keep ?_ (by assumption); walk_at "hp")
  | (refine (upd_ne (by walk_at "ne")).trans ?_; walk_at "hp")
  | (refine Same.at (by assumption) ?_; walk_at "hp")
  | (refine But.at (by assumption) (by walk_at "ne") ?_; walk_at "hp")
  | (refine But2.at (by assumption) (by walk_at "ne") (by walk_at "ne") ?_; walk_at "hp")))
local macro_rules | `(tactic| walk_at "side") => `(tactic| first | assumption | omega | (refine ⟨?_, ?_⟩ <;> first | assumption | omega | decide) | decide | (refine ⟨by decide, by decide, by decide⟩) | (left; refine ⟨?_, ?_⟩ <;> first | omega | decide) | (right; refine ⟨?_, ?_⟩ <;> first | omega | decide) | (simp; done))
local macro_rules | `(tactic| walk_at "cond") => `(tactic| first | assumption | exact rfl | omega | (simp only [List.length_cons, List.length_nil]; omega) | decide +kernel)
local macro_rules | `(tactic| walk_at "s") => `(tactic| (first
  | ((with_reducible refine r_var (v := ?vv) ?ee ?_); (case ee => exact rfl))
  | (with_reducible refine r_c ?_)
  | (with_reducible refine r_op ?_)
  | (with_reducible refine r_un ?_)
  | (with_reducible refine r_rI0 ?_)
  | ((with_reducible refine r_rI ?cc ?_); (case cc => walk_at "side"))
  | (with_reducible refine r_rU ?_)
  | (with_reducible refine r_eqI ?_)
  | (with_reducible refine r_neI ?_)
  | (with_reducible refine r_eqB ?_)
  | (with_reducible refine r_neB ?_)
  | (with_reducible refine r_eqS ?_)
  | (with_reducible refine r_neS ?_)
  | ((with_reducible refine r_eq ?ee ?_); (case ee => exact rfl))
  | ((with_reducible refine r_ne ?ee ?_); (case ee => exact rfl))
  | ((with_reducible refine r_ixL (v := ?vv) (xs := ?xx) ?hh ?ee ?_); (case hh => (refine SqL.of ?_; walk_at "hp")); (case ee => exact rfl))
  | (with_reducible refine r_cb ?_)
  | (with_reducible refine r_call ?_)
  | (with_reducible refine r_cons ?_)
  | (with_reducible refine r_nil ?_)
  | (with_reducible refine r_lst ?_)
  | (with_reducible refine r_tup ?_)
  | ((with_reducible refine r_new ?cc ?_); (case cc => walk_at "side"))
  | (with_reducible refine r_exbl ?_)
  | (with_reducible refine r_exint ?_)
  | (with_reducible refine r_exint2 ?_)
  | (with_reducible refine r_exblL ?_)
  | (with_reducible refine r_ex2 ?_)
  | (with_reducible refine r_test ?_)
  | (with_reducible refine r_tB ?_)
  | (with_reducible refine r_not ?_)
  | (with_reducible refine r_and ?_)
  | (with_reducible refine r_or ?_)
  | (with_reducible refine r_andV ?_)
  | (with_reducible refine r_orV ?_)
  | (with_reducible refine r_notV ?_)
  | (with_reducible refine r_tif ?_)
  | (with_reducible refine r_iteT ?_)
  | (with_reducible refine r_iteNT ?_)
  | (with_reducible refine r_iteNF ?_)
  | (with_reducible refine r_iteF ?_)
  | (with_reducible refine r_seq ?_)
  | (with_reducible refine r_next ?_)
  | (with_reducible refine r_brk ?_)
  | (with_reducible refine r_cont ?_)
  | (with_reducible refine r_asg ?_)
  | (with_reducible refine r_gname ?_)
  | (with_reducible refine r_ret ?_)
  | (with_reducible refine r_retN ?_)
  | (with_reducible refine r_drop ?_)
  | (with_reducible refine r_if ?_)
  | ((with_reducible refine r_aug (x := ?xx) ?ee ?_); (case ee => exact rfl))
  | (with_reducible refine r_ipI ?_)
  | (with_reducible refine r_augS ?_)
  | (with_reducible refine r_gsub ?_)
  | ((with_reducible refine r_setL (xs := ?xx) (m := ?mm) ?hh ?ee ?_); (case hh => walk_at "hp"); (case ee => exact rfl))
  | (with_reducible refine r_par ?_)
  | (with_reducible refine r_bm ?_)
  | ((with_reducible refine r_tyL (xs := ?xx) ?hh ?_); (case hh => walk_at "hp"))
  | ((with_reducible refine r_append (xs := ?xx) ?hh ?ll ?_); (case hh => walk_at "hp"); (case ll => walk_at "side"))
  | (walk_at "isi")
  | (with_reducible refine r_for ?_)
  | (with_reducible refine r_iList ?_)
  | (with_reducible refine r_iTup ?_)
  | (with_reducible refine r_iR1 ?_)
  | (with_reducible refine r_iR2 ?_)
  | (with_reducible refine r_lc ?_)
  | (with_reducible refine r_yes ?_)
  | ((with_reducible refine r_lenS ?ll ?_); (case ll => walk_at "side"))
  | (with_reducible refine r_leS ?_)
  | (with_reducible refine r_chain ?_)
  | (with_reducible refine r_tM1 ?_)
  | (with_reducible refine r_exS ?_)
  | ((with_reducible refine r_tupL (xs := ?xx) ?hh ?_); (case hh => walk_at "hp"))
  | ((with_reducible refine r_listL (xs := ?xx) ?hh ?_); (case hh => walk_at "hp"))
  | ((with_reducible refine r_listT (xs := ?xx) ?hh ?_); (case hh => walk_at "hp"))
  | ((with_reducible refine r_ixT (v := ?vv) (xs := ?xx) ?hh ?ee ?_); (case hh => (refine SqT.of ?_; walk_at "hp")); (case ee => exact rfl))
  | (with_reducible refine r_sl ?_)
  | (with_reducible refine r_nopart ?_)
  | (with_reducible refine r_part ?_)
  | (with_reducible refine r_exI ?_)
  | ((with_reducible refine r_slL (xs := ?xx) ?hh ?_); (case hh => first | assumption | (refine SqL.of ?_; walk_at "hp") | (refine Same.seq (by assumption) (by assumption))))
  | ((with_reducible refine r_cat (xs := ?xx) (zs := ?zz) ?hh ?ii ?ll ?_); (case hh => walk_at "hp"); (case ii => walk_at "hp"); (case ll => walk_at "side"))
  | ((with_reducible refine r_lenL (xs := ?xx) ?hh ?_); (case hh => walk_at "hp"))
  | ((with_reducible refine r_lenT (xs := ?xx) ?hh ?_); (case hh => walk_at "hp"))
  | ((with_reducible refine r_gTup (xs := ?xx) ?hh ?ll ?_); (case hh => walk_at "hp"); (case ll => exact rfl))
  | (with_reducible refine r_gCons ?_)
  | (with_reducible refine r_gNil ?_)
  | ((with_reducible refine r_iteDT ?cc ?_); (case cc => walk_at "cond"))
  | ((with_reducible refine r_iteDF ?cc ?_); (case cc => walk_at "cond"))
  | ((with_reducible refine r_iteNDT ?cc ?_); (case cc => walk_at "cond"))
  | ((with_reducible refine r_iteNDF ?cc ?_); (case cc => walk_at "cond"))
  ))
local macro_rules | `(tactic| walk_at "go") => `(tactic| repeat (walk_at "s"))

local macro_rules | `(tactic| walk_at "s") => `(tactic| (first
  | (with_reducible refine r_dnew ?_)
  | (with_reducible refine r_dget2 ?_)
  | (with_reducible refine r_dget ?_)
  | (with_reducible refine r_dput ?_)
  | (with_reducible refine r_dsetd ?_)
  | ((with_reducible refine JarAt.isD (n := ?nn) (c := ?cc) ?hh ?_); (case hh => assumption))
  ))

local macro_rules | `(tactic| walk_at "s") => `(tactic| (first
  | (with_reducible refine r_prop ?_)
  | (with_reducible refine r_meth ?_)
  | (with_reducible refine r_make ?_)
  | (with_reducible refine r_fld ?_)
  | (with_reducible refine r_sfld ?_)
  | (with_reducible refine r_iOwn ?_)
  | ((with_reducible refine u_rowsAt (mg := ?mm) (C := ?CC) (dx := ?dd) (fv := ?vv) ?tt ?hh ?_); (case tt => assumption); (case hh => walk_at "hp"))
  | ((with_reducible refine r_isPoly (mg := ?mm) (dx := ?dd) (fs := ?ff) ?tt ?hh ?_); (case tt => assumption); (case hh => walk_at "hp"))
  | ((with_reducible refine r_isPolyI (mg := ?mm) ?tt ?_); (case tt => assumption))
  | ((with_reducible refine r_polyInt (mg := ?mm) (C := ?CC) (dx := ?dd) (fs := ?ff) ?tt ?hh ?_); (case tt => assumption); (case hh => walk_at "hp"))
  ))

theorem ok_is_integerT {f : Addr} {fd : FuncData} (F : Fun K "is_integer" "is_integer" s_is_integer f fd) (B : Bl mg) : FnOk P w K mg base CX0 1 f fd ["value"] (spIsIntT K) := by
  refine F.ok sc_is_integer (fun vs H Q E h => ?_) (fun cdv A outer s H vs Q E hr h => ?_)
  · obtain ⟨x, t, b1, b2, rfl, _⟩ := h
    rfl
  · obtain ⟨x, t, b1, b2, rfl, ty, k1, k2, k⟩ := h
    refine ⟨_, (pss_one (ps_ret (pe_and (pe_callB (call_isiEK (K := K)) (by rfl) B.b_isinstance (by decide +kernel) (pa_cons (pv 0) (pa_cons (pe_bltn (v := .ty "int") (by rfl) B.b_int (by decide +kernel) rfl) pa_nil))) (pe_one (pe_not (pe_callB (call_isiEK (K := K)) (by rfl) B.b_isinstance (by decide +kernel) (pa_cons (pv 0) (pa_cons (pe_bltn (v := .ty "bool") (by rfl) B.b_bool (by decide +kernel) rfl) pa_nil)))))))), ?_⟩
    walk_at "go"
    refine r_isiE (.ty _) ty k1 ?_
    walk_at "go"
    cases b1 with
    | true =>
      walk_at "go"
      refine r_isiE (.ty _) ty k2 ?_
      walk_at "go"
      exact k
    | false =>
      walk_at "go"
      exact k
theorem ok_Poly_eq {f : Addr} {fd : FuncData} (F : Fun K "__eq__" "Poly.__eq__" s_Poly___eq__ f fd) (B : Bl mg) (G_Poly : PolyT K mg C) : FnOk P w K mg base CX0 1 f fd ["self", "other"] (spPEq K C) := by
  refine F.ok sc_Poly___eq__ (fun vs H Q E h => ?_) (fun cdv A outer s H vs Q E hr h => ?_)
  · obtain ⟨a, ts, y, rfl, _⟩ := h
    rfl
  · obtain ⟨a, ts, y, rfl, ⟨dx, r, vs, g1, hr', ht, hc⟩, h⟩ := h
    refine ⟨_, (pss_one (ps_ret (pe_and (pe_callB (call_isiEK (K := K)) (by rfl) B.b_isinstance (by decide +kernel) (pa_cons (pv 1) (pa_cons (pe_glob (v := .ref C) rfl G_Poly.mgC rfl) pa_nil))) (pe_one (pe_cmpR (op_eqDK (K := K) hr.units) (pe_fldK (K := K) (pv 0)) (pe_fldK (K := K) (pv 1)) (nomark _)))))), ?_⟩
    rcases h with ⟨b, us, rfl, ⟨dx2, r2, vs2, g2, hr2, ht2, hc2⟩, k⟩ | ⟨t, ty, kn, k⟩
    · walk_at "go"
      refine r_isiE (.own C) (.x (ty_poly G_Poly g2)) kit_self ?_
      walk_at "go"
      refine r_eqTT hr' ht hr2 ht2 ?_
      walk_at "go"
      exact k
    · walk_at "go"
      refine r_isiE (.own C) ty kn ?_
      walk_at "go"
      exact k
theorem ok_as_poly {f : Addr} {fd : FuncData} (F : Fun K "as_poly" "as_poly" s_as_poly f fd) (B : Bl mg) (G_Poly : PolyT K mg C) (h_is_integer : Has P w K mg base "is_integer" 1 ["value"] (spIsIntT K)) (hc_Poly : HasC P w K mg base "Poly" C 3 ["self", "terms"] (spInit C))
   (h_check_poly : Has P w K mg base "check_poly" 1 ["value"] (fun vs H Q _ => ∃ a ts, vs = [.ref a] ∧ PolyAt C H a ts ∧ Q .non H)) : FnOk P w K mg base CX0 5 f fd ["value"] (spAsPoly C) := by
  refine F.ok sc_as_poly (fun vs H Q E h => ?_) (fun cdv A outer s H vs Q E hr h => ?_)
  · obtain ⟨v, c, n, rfl, _⟩ := h
    rfl
  · obtain ⟨v, c, n, rfl, hv, k⟩ := h
    refine ⟨_, (pss_cons (ps_if (pt_val (pe_callH h_is_integer (hr.mono (by first | decide | omega)) (pa_cons (pv 0) pa_nil)))
    (pss_one (ps_ret (pe_makeH hc_Poly (hr.mono (by first | decide | omega)) (pa_cons (pe_lst (pa_cons (pe_tup (pa_cons pe_int (pa_cons (pv 0) pa_nil))) pa_nil)) pa_nil))))
    pss_nil)
    (pss_cons (ps_expr (pe_callH h_check_poly (hr.mono (by first | decide | omega)) (pa_cons (pv 0) pa_nil)))
    (pss_one (ps_ret (pv 0))))), ?_⟩
    rcases hv with ⟨a, ts, rfl, ha, hcof, hn⟩ | ⟨i, rfl, hcof, hn⟩
    · obtain ⟨dx, r, vs, g1, _⟩ := id ha
      walk_at "go"
      refine u_isIntP G_Poly g1 ?_
      walk_at "go"
      refine ⟨a, ts, rfl, ha, ?_⟩
      walk_at "go"
      exact k a ts H (Same.refl _) ha hcof hn
    · walk_at "go"
      refine u_isInt ?_
      walk_at "go"
      intro t nt
      walk_at "go"
      intro l nl
      walk_at "go"
      refine u_poly (l := l) (ts := [(0, i)]) ⟨_, upd_same, .one (h_keep upd_same nl)⟩ (by simp) fun a us H' na s1 ha hcu hl => ?_
      refine k a us H' ((Same.new (Same.new0 nt) nl).trans s1) ha (fun j => ?_) (by simp at hl; omega)
      rw [hcu, hcof, cof, cof]
      by_cases e : j = 0
      · subst e; simp
      · rw [if_neg e, if_neg (fun h => e h.symm)]; rfl
end
end My

set_option Elab.async false
set_option linter.all false
set_option maxRecDepth 100000
set_option maxHeartbeats 4000000

namespace My
open PySem PySem.Spec PyProof.Rows L2
section
variable {P : Program} {w : World} {K : PySem.W.Frag} {mg : Str → Option Value} {base : Heap} {C : Addr}
local macro_rules | `(tactic| walk_at "isi") => `(tactic| (first
  | (with_reducible refine r_is_int_int ?_)
  | (with_reducible refine r_is_int_bool ?_)
  | (with_reducible refine r_is_int_str ?_)
  | (with_reducible refine r_is_int_list ?_)
  | (with_reducible refine r_is_int_tuple ?_)
  | (with_reducible refine r_is_bool_int ?_)
  | (with_reducible refine r_is_bool_bool ?_)
  | (with_reducible refine r_is_bool_str ?_)
  | (with_reducible refine r_is_bool_list ?_)
  | (with_reducible refine r_is_bool_tuple ?_)
  | (with_reducible refine r_is_str_int ?_)
  | (with_reducible refine r_is_str_bool ?_)
  | (with_reducible refine r_is_str_str ?_)
  | (with_reducible refine r_is_str_list ?_)
  | (with_reducible refine r_is_str_tuple ?_)
  | ((with_reducible refine r_is_list_int (xs := ?xx) ?hh ?_); (case hh => walk_at "hp"))
  | ((with_reducible refine r_is_list_bool (xs := ?xx) ?hh ?_); (case hh => walk_at "hp"))
  | ((with_reducible refine r_is_list_str (xs := ?xx) ?hh ?_); (case hh => walk_at "hp"))
  | ((with_reducible refine r_is_list_list (xs := ?xx) ?hh ?_); (case hh => walk_at "hp"))
  | ((with_reducible refine r_is_list_tuple (xs := ?xx) ?hh ?_); (case hh => walk_at "hp"))
  | ((with_reducible refine r_is_tuple_int (xs := ?xx) ?hh ?_); (case hh => walk_at "hp"))
  | ((with_reducible refine r_is_tuple_bool (xs := ?xx) ?hh ?_); (case hh => walk_at "hp"))
  | ((with_reducible refine r_is_tuple_str (xs := ?xx) ?hh ?_); (case hh => walk_at "hp"))
  | ((with_reducible refine r_is_tuple_list (xs := ?xx) ?hh ?_); (case hh => walk_at "hp"))
  | ((with_reducible refine r_is_tuple_tuple (xs := ?xx) ?hh ?_); (case hh => walk_at "hp"))
  | (with_reducible refine r_is_NoneType_int ?_)
  | (with_reducible refine r_is_NoneType_bool ?_)
  | (with_reducible refine r_is_NoneType_str ?_)
  | (with_reducible refine r_is_NoneType_list ?_)
  | (with_reducible refine r_is_NoneType_tuple ?_)))
local macro_rules | `(tactic| walk_at "ne") => `(tactic| first | assumption | (refine Ne.symm ?_; assumption) | exact Bag.ne (by assumption) (by assumption) | exact ne_of_none (by assumption) (by assumption))
local macro_rules | `(tactic| walk_at "hp") => `(tactic| (first
  | assumption
  | exact upd_same
  | (refine h_keep ?_ (by assumption); walk_at "hp")
  | (refine (upd_ne (by walk_at "ne")).trans ?_; walk_at "hp")
  | (refine Same.at (by assumption) ?_; walk_at "hp")
  | (refine But.at (by assumption) (by walk_at "ne") ?_; walk_at "hp")
  | (refine But2.at (by assumption) (by walk_at "ne") (by walk_at "ne") ?_; walk_at "hp")))
local macro_rules | `(tactic| walk_at "side") => `(tactic| first | assumption | omega | (refine ⟨?_, ?_⟩ <;> first | assumption | omega | decide) | decide | (refine ⟨by decide, by decide, by decide⟩) | (left; refine ⟨?_, ?_⟩ <;> first | omega | decide) | (right; refine ⟨?_, ?_⟩ <;> first | omega | decide) | (simp; done))
local macro_rules | `(tactic| walk_at "cond") => `(tactic| first | assumption | exact rfl | omega | (simp only [List.length_cons, List.length_nil]; omega) | decide +kernel)
local macro_rules | `(tactic| walk_at "s") => `(tactic| (first
  | ((with_reducible refine r_var (v := ?vv) ?ee ?_); (case ee => exact rfl))
  | (with_reducible refine r_c ?_)
  | (with_reducible refine r_op ?_)
  | (with_reducible refine r_un ?_)
  | (with_reducible refine r_rI0 ?_)
  | ((with_reducible refine r_rI ?cc ?_); (case cc => walk_at "side"))
  | (with_reducible refine r_rU ?_)
  | (with_reducible refine r_eqI ?_)
  | (with_reducible refine r_neI ?_)
  | (with_reducible refine r_eqB ?_)
  | (with_reducible refine r_neB ?_)
  | (with_reducible refine r_eqS ?_)
  | (with_reducible refine r_neS ?_)
  | ((with_reducible refine r_eq ?ee ?_); (case ee => exact rfl))
  | ((with_reducible refine r_ne ?ee ?_); (case ee => exact rfl))
  | ((with_reducible refine r_ixL (v := ?vv) (xs := ?xx) ?hh ?ee ?_); (case hh => (refine SqL.of ?_; walk_at "hp")); (case ee => exact rfl))
  | (with_reducible refine r_cb ?_)
  | (with_reducible refine r_call ?_)
  | (with_reducible refine r_cons ?_)
  | (with_reducible refine r_nil ?_)
  | (with_reducible refine r_lst ?_)
  | (with_reducible refine r_tup ?_)
  | ((with_reducible refine r_new ?cc ?_); (case cc => walk_at "side"))
  | (with_reducible refine r_exbl ?_)
  | (with_reducible refine r_exint ?_)
  | (with_reducible refine r_exint2 ?_)
  | (with_reducible refine r_exblL ?_)
  | (with_reducible refine r_ex2 ?_)
  | (with_reducible refine r_test ?_)
  | (with_reducible refine r_tB ?_)
  | (with_reducible refine r_not ?_)
  | (with_reducible refine r_and ?_)
  | (with_reducible refine r_or ?_)
  | (with_reducible refine r_andV ?_)
  | (with_reducible refine r_orV ?_)
  | (with_reducible refine r_notV ?_)
  | (with_reducible refine r_tif ?_)
  | (with_reducible refine r_iteT ?_)
  | (with_reducible refine r_iteNT ?_)
  | (with_reducible refine r_iteNF ?_)
  | (with_reducible refine r_iteF ?_)
  | (with_reducible refine r_seq ?_)
  | (with_reducible refine r_next ?_)
  | (with_reducible refine r_brk ?_)
  | (with_reducible refine r_cont ?_)
  | (with_reducible refine r_asg ?_)
  | (with_reducible refine r_gname ?_)
  | (with_reducible refine r_ret ?_)
  | (with_reducible refine r_retN ?_)
  | (with_reducible refine r_drop ?_)
  | (with_reducible refine r_if ?_)
  | ((with_reducible refine r_aug (x := ?xx) ?ee ?_); (case ee => exact rfl))
  | (with_reducible refine r_ipI ?_)
  | (with_reducible refine r_augS ?_)
  | (with_reducible refine r_gsub ?_)
  | ((with_reducible refine r_setL (xs := ?xx) (m := ?mm) ?hh ?ee ?_); (case hh => walk_at "hp"); (case ee => exact rfl))
  | (with_reducible refine r_par ?_)
  | (with_reducible refine r_bm ?_)
  | ((with_reducible refine r_tyL (xs := ?xx) ?hh ?_); (case hh => walk_at "hp"))
  | ((with_reducible refine r_append (xs := ?xx) ?hh ?ll ?_); (case hh => walk_at "hp"); (case ll => walk_at "side"))
  | (walk_at "isi")
  | (with_reducible refine r_for ?_)
  | (with_reducible refine r_iList ?_)
  | (with_reducible refine r_iTup ?_)
  | (with_reducible refine r_iR1 ?_)
  | (with_reducible refine r_iR2 ?_)
  | (with_reducible refine r_lc ?_)
  | (with_reducible refine r_yes ?_)
  | ((with_reducible refine r_lenS ?ll ?_); (case ll => walk_at "side"))
  | (with_reducible refine r_leS ?_)
  | (with_reducible refine r_chain ?_)
  | (with_reducible refine r_tM1 ?_)
  | (with_reducible refine r_exS ?_)
  | ((with_reducible refine r_tupL (xs := ?xx) ?hh ?_); (case hh => walk_at "hp"))
  | ((with_reducible refine r_listL (xs := ?xx) ?hh ?_); (case hh => walk_at "hp"))
  | ((with_reducible refine r_listT (xs := ?xx) ?hh ?_); (case hh => walk_at "hp"))
  | ((with_reducible refine r_ixT (v := ?vv) (xs := ?xx) ?hh ?ee ?_); (case hh => (refine SqT.of ?_; walk_at "hp")); (case ee => exact rfl))
  | (with_reducible refine r_sl ?_)
  | (with_reducible refine r_nopart ?_)
  | (with_reducible refine r_part ?_)
  | (with_reducible refine r_exI ?_)
  | ((with_reducible refine r_slL (xs := ?xx) ?hh ?_); (case hh => first | assumption | (refine SqL.of ?_; walk_at "hp") | (refine Same.seq (by assumption) (by assumption))))
  | ((with_reducible refine r_cat (xs := ?xx) (zs := ?zz) ?hh ?ii ?ll ?_); (case hh => walk_at "hp"); (case ii => walk_at "hp"); (case ll => walk_at "side"))
  | ((with_reducible refine r_lenL (xs := ?xx) ?hh ?_); (case hh => walk_at "hp"))
  | ((with_reducible refine r_lenT (xs := ?xx) ?hh ?_); (case hh => walk_at "hp"))
  | ((with_reducible refine r_gTup (xs := ?xx) ?hh ?ll ?_); (case hh => walk_at "hp"); (case ll => exact rfl))
  | (with_reducible refine r_gCons ?_)
  | (with_reducible refine r_gNil ?_)
  | ((with_reducible refine r_iteDT ?cc ?_); (case cc => walk_at "cond"))
  | ((with_reducible refine r_iteDF ?cc ?_); (case cc => walk_at "cond"))
  | ((with_reducible refine r_iteNDT ?cc ?_); (case cc => walk_at "cond"))
  | ((with_reducible refine r_iteNDF ?cc ?_); (case cc => walk_at "cond"))
  ))
local macro_rules | `(tactic| walk_at "go") => `(tactic| repeat (walk_at "s"))

local macro_rules | `(tactic| walk_at "s") => `(tactic| (first
  | (with_reducible refine r_dnew ?_)
  | (with_reducible refine r_dget2 ?_)
  | (with_reducible refine r_dget ?_)
  | (with_reducible refine r_dput ?_)
  | (with_reducible refine r_dsetd ?_)
  | ((with_reducible refine JarAt.isD (n := ?nn) (c := ?cc) ?hh ?_); (case hh => assumption))
  ))

local macro_rules | `(tactic| walk_at "s") => `(tactic| (first
  | (with_reducible refine r_prop ?_)
  | (with_reducible refine r_meth ?_)
  | (with_reducible refine r_make ?_)
  | (with_reducible refine r_fld ?_)
  | (with_reducible refine r_sfld ?_)
  | (with_reducible refine r_iOwn ?_)
  | ((with_reducible refine u_rowsAt (mg := ?mm) (C := ?CC) (dx := ?dd) (fv := ?vv) ?tt ?hh ?_); (case tt => assumption); (case hh => walk_at "hp"))
  | ((with_reducible refine r_isPoly (mg := ?mm) (dx := ?dd) (fs := ?ff) ?tt ?hh ?_); (case tt => assumption); (case hh => walk_at "hp"))
  | ((with_reducible refine r_isPolyI (mg := ?mm) ?tt ?_); (case tt => assumption))
  | ((with_reducible refine r_polyInt (mg := ?mm) (C := ?CC) (dx := ?dd) (fs := ?ff) ?tt ?hh ?_); (case tt => assumption); (case hh => walk_at "hp"))
  ))

theorem ok_negative {f : Addr} {fd : FuncData} (F : Fun K "negative" "negative" s_negative f fd) (B : Bl mg) (G_Poly : PolyT K mg C) (hc_Poly : HasC P w K mg base "Poly" C 3 ["self", "terms"] (spInit C)) : FnOk P w K mg base CX0 5 f fd ["poly"] (spPoly1 C fun ts k => -cof ts k) := by
  refine F.ok sc_negative (fun vs H Q E h => ?_) (fun cdv A outer s H vs Q E hr h => ?_)
  · obtain ⟨a, ts, rfl, _⟩ := h
    rfl
  · obtain ⟨a, ts, rfl, ⟨dx, r, vs, g1, hr', ht, hc⟩, hn, k⟩ := h
    refine ⟨_, (pss_one (ps_ret (pe_makeH hc_Poly (hr.mono (by first | decide | omega)) (pa_cons (pe_lc (g := (gTup K 2 (gCons (gName 1) (gCons (gName 2) gNil)))) (own := [("power", 1), ("number", 2)]) rfl sc_negative.nd (pi_tup (pe_fldK (K := K) (pv 0))) (blkOk_by (N := ["poly", "power", "number"]) (sc := defScope s_negative) (by decide +kernel)) (fun _ _ _ _ _ => (pg_tupK (K := K) rfl (pgs_cons (pg_name (i := 1) sc_negative.nd rfl (.inl rfl)) (pgs_cons (pg_name (i := 2) sc_negative.nd rfl (.inl rfl)) pgs_nil)))) (fun _ _ _ _ _ => pts_nil) (fun _ _ _ _ _ => (pe_tup (pa_cons (pv 1) (pa_cons (pe_un un_neg (pv 2)) pa_nil))))) pa_nil)))), ?_⟩
    have hvl := ht.length
    walk_at "go"
    refine u_lcT (.of hr') (fun D i acc H2 => (TermsL H2 acc (negT (ts.take i)) ∧ i ≤ vs.length) ∧ Same H H2) ?_ ?_ ?_ ?_
    · exact fun D hD => ⟨⟨rfl, Nat.zero_le _⟩, Same.new0 hD⟩
    · exact fun D i acc H2 _ _ ⟨_, s1⟩ => .of (s1 _ _ hr')
    · rintro D i x acc H2 hD hx hacc ⟨⟨ht2, hi0⟩, s1⟩
      obtain ⟨b, p, rfl, hp, hb⟩ := ht.at i hx
      have hi2 := (List.getElem?_eq_some_iff.mp hx).1
      have hb2 := s1 _ _ hb
      have et : ts.take (i + 1) = ts.take i ++ [p] := by rw [List.take_succ, hp]; rfl
      have al : acc.length ≤ i := by
        rw [ht2.length, negT, List.length_map, List.length_take]; omega
      walk_at "go"
      refine ⟨rfl, ?_⟩
      walk_at "go"
      intro t nt
      refine u_push (h_keep hacc nt) (by omega) ⟨⟨?_, hi2⟩, Same.put (Same.new s1 nt) hD⟩
      have t1 : Tk H2 (upd (upd H2 t (.tup [.int p.1, .int (-p.2)])) D (.lst (acc ++ [.ref t]))) := ((Tk.refl _).new nt).lst (h_keep hacc nt)
      rw [et, negT, List.map_append]
      exact (ht2.tk t1).app (.one ((upd_ne (ne_of_none hacc nt).symm).trans upd_same))
    · rintro D acc H2 hD hacc ⟨⟨ht2, hi0⟩, s1⟩
      rw [List.take_of_length_le (by omega)] at ht2
      walk_at "go"
      refine u_poly (l := D) (ts := negT ts) ⟨acc, hacc, ht2⟩ (by rw [negT, List.length_map]; exact hn) fun b us H3 nb s3 hb hcu hl => ?_
      exact k b us H3 (s1.trans s3) hb (fun j => (hcu j).trans (cof_neg ts j)) (by rw [negT, List.length_map] at hl; exact hl)
theorem ok_Poly_mirrored {f : Addr} {fd : FuncData} (F : Fun K "mirrored" "Poly.mirrored" s_Poly_mirrored f fd) (B : Bl mg) (G_Poly : PolyT K mg C) (hc_Poly : HasC P w K mg base "Poly" C 3 ["self", "terms"] (spInit C)) : FnOk P w K mg base CX0 5 f fd ["self"] (spPoly1 C fun ts k => cof ts (-k)) := by
  refine F.ok sc_Poly_mirrored (fun vs H Q E h => ?_) (fun cdv A outer s H vs Q E hr h => ?_)
  · obtain ⟨a, ts, rfl, _⟩ := h
    rfl
  · obtain ⟨a, ts, rfl, ⟨dx, r, vs, g1, hr', ht, hc⟩, hn, k⟩ := h
    refine ⟨_, (pss_one (ps_ret (pe_makeH hc_Poly (hr.mono (by first | decide | omega)) (pa_cons (pe_lc (g := (gTup K 2 (gCons (gName 1) (gCons (gName 2) gNil)))) (own := [("power", 1), ("number", 2)]) rfl sc_Poly_mirrored.nd (pi_tup (pe_fldK (K := K) (pv 0))) (blkOk_by (N := ["self", "power", "number"]) (sc := defScope s_Poly_mirrored) (by decide +kernel)) (fun _ _ _ _ _ => (pg_tupK (K := K) rfl (pgs_cons (pg_name (i := 1) sc_Poly_mirrored.nd rfl (.inl rfl)) (pgs_cons (pg_name (i := 2) sc_Poly_mirrored.nd rfl (.inl rfl)) pgs_nil)))) (fun _ _ _ _ _ => pts_nil) (fun _ _ _ _ _ => (pe_tup (pa_cons (pe_un un_neg (pv 1)) (pa_cons (pv 2) pa_nil))))) pa_nil)))), ?_⟩
    have hvl := ht.length
    walk_at "go"
    refine u_lcT (.of hr') (fun D i acc H2 => (TermsL H2 acc (mirT (ts.take i)) ∧ i ≤ vs.length) ∧ Same H H2) ?_ ?_ ?_ ?_
    · exact fun D hD => ⟨⟨rfl, Nat.zero_le _⟩, Same.new0 hD⟩
    · exact fun D i acc H2 _ _ ⟨_, s1⟩ => .of (s1 _ _ hr')
    · rintro D i x acc H2 hD hx hacc ⟨⟨ht2, hi0⟩, s1⟩
      obtain ⟨b, p, rfl, hp, hb⟩ := ht.at i hx
      have hi2 := (List.getElem?_eq_some_iff.mp hx).1
      have hb2 := s1 _ _ hb
      have et : ts.take (i + 1) = ts.take i ++ [p] := by rw [List.take_succ, hp]; rfl
      have al : acc.length ≤ i := by
        rw [ht2.length, mirT, List.length_map, List.length_take]; omega
      walk_at "go"
      refine ⟨rfl, ?_⟩
      walk_at "go"
      intro t nt
      refine u_push (h_keep hacc nt) (by omega) ⟨⟨?_, hi2⟩, Same.put (Same.new s1 nt) hD⟩
      have t1 : Tk H2 (upd (upd H2 t (.tup [.int (-p.1), .int p.2])) D (.lst (acc ++ [.ref t]))) := ((Tk.refl _).new nt).lst (h_keep hacc nt)
      rw [et, mirT, List.map_append]
      exact (ht2.tk t1).app (.one ((upd_ne (ne_of_none hacc nt).symm).trans upd_same))
    · rintro D acc H2 hD hacc ⟨⟨ht2, hi0⟩, s1⟩
      rw [List.take_of_length_le (by omega)] at ht2
      walk_at "go"
      refine u_poly (l := D) (ts := mirT ts) ⟨acc, hacc, ht2⟩ (by rw [mirT, List.length_map]; exact hn) fun b us H3 nb s3 hb hcu hl => ?_
      exact k b us H3 (s1.trans s3) hb (fun j => (hcu j).trans (cof_mir ts j)) (by rw [mirT, List.length_map] at hl; exact hl)
theorem ok_Poly_neg {f : Addr} {fd : FuncData} (F : Fun K "__neg__" "Poly.__neg__" s_Poly___neg__ f fd) (h_negative : Has P w K mg base "negative" 5 ["poly"] (spPoly1 C fun ts k => -cof ts k)) : FnOk P w K mg base CX0 6 f fd ["self"] (spPoly1 C fun ts k => -cof ts k) := by
  refine F.ok sc_Poly___neg__ (fun vs H Q E h => ?_) (fun cdv A outer s H vs Q E hr h => ?_)
  · obtain ⟨a, ts, rfl, _⟩ := h
    rfl
  · obtain ⟨a, ts, rfl, ha, hn, k⟩ := h
    refine ⟨_, (pss_one (ps_ret (pe_callH h_negative (hr.mono (by first | decide | omega)) (pa_cons (pv 0) pa_nil)))), ?_⟩
    walk_at "go"
    exact ⟨a, ts, rfl, ha, hn, k⟩
end
end My

set_option Elab.async false
set_option linter.all false
set_option maxRecDepth 100000
set_option maxHeartbeats 4000000

namespace My
open PySem PySem.Spec PyProof.Rows L2
section
variable {P : Program} {w : World} {K : PySem.W.Frag} {mg : Str → Option Value} {base : Heap} {C : Addr}
local macro_rules | `(tactic| walk_at "isi") => `(tactic| (first
  | (with_reducible refine r_is_int_int ?_)
  | (with_reducible refine r_is_int_bool ?_)
  | (with_reducible refine r_is_int_str ?_)
  | (with_reducible refine r_is_int_list ?_)
  | (with_reducible refine r_is_int_tuple ?_)
  | (with_reducible refine r_is_bool_int ?_)
  | (with_reducible refine r_is_bool_bool ?_)
  | (with_reducible refine r_is_bool_str ?_)
  | (with_reducible refine r_is_bool_list ?_)
  | (with_reducible refine r_is_bool_tuple ?_)
  | (with_reducible refine r_is_str_int ?_)
  | (with_reducible refine r_is_str_bool ?_)
  | (with_reducible refine r_is_str_str ?_)
  | (with_reducible refine r_is_str_list ?_)
  | (with_reducible refine r_is_str_tuple ?_)
  | ((with_reducible refine r_is_list_int (xs := ?xx) ?hh ?_); (case hh => walk_at "hp"))
  | ((with_reducible refine r_is_list_bool (xs := ?xx) ?hh ?_); (case hh => walk_at "hp"))
  | ((with_reducible refine r_is_list_str (xs := ?xx) ?hh ?_); (case hh => walk_at "hp"))
  | ((with_reducible refine r_is_list_list (xs := ?xx) ?hh ?_); (case hh => walk_at "hp"))
  | ((with_reducible refine r_is_list_tuple (xs := ?xx) ?hh ?_); (case hh => walk_at "hp"))
  | ((with_reducible refine r_is_tuple_int (xs := ?xx) ?hh ?_); (case hh => walk_at "hp"))
  | ((with_reducible refine r_is_tuple_bool (xs := ?xx) ?hh ?_); (case hh => walk_at "hp"))
  | ((with_reducible refine r_is_tuple_str (xs := ?xx) ?hh ?_); (case hh => walk_at "hp"))
  | ((with_reducible refine r_is_tuple_list (xs := ?xx) ?hh ?_); (case hh => walk_at "hp"))
  | ((with_reducible refine r_is_tuple_tuple (xs := ?xx) ?hh ?_); (case hh => walk_at "hp"))
  | (with_reducible refine r_is_NoneType_int ?_)
  | (with_reducible refine r_is_NoneType_bool ?_)
  | (with_reducible refine r_is_NoneType_str ?_)
  | (with_reducible refine r_is_NoneType_list ?_)
  | (with_reducible refine r_is_NoneType_tuple ?_)))
local macro_rules | `(tactic| walk_at "ne") => `(tactic| first | assumption | (refine Ne.symm ?_; assumption) | exact Bag.ne (by assumption) (by assumption) | exact ne_of_none (by assumption) (by assumption))
local macro_rules | `(tactic| walk_at "hp") => `(tactic| (first
  | assumption
  | exact upd_same
  | (refine h_keep ?_ (by assumption); walk_at "hp")
  | (refine (upd_ne (by walk_at "ne")).trans ?_; walk_at "hp")
  | (refine Same.at (by assumption) ?_; walk_at "hp")
  | (refine But.at (by assumption) (by walk_at "ne") ?_; walk_at "hp")
  | (refine But2.at (by assumption) (by walk_at "ne") (by walk_at "ne") ?_; walk_at "hp")))
local macro_rules | `(tactic| walk_at "side") => `(tactic| first | assumption | omega | (refine ⟨?_, ?_⟩ <;> first | assumption | omega | decide) | decide | (refine ⟨by decide, by decide, by decide⟩) | (left; refine ⟨?_, ?_⟩ <;> first | omega | decide) | (right; refine ⟨?_, ?_⟩ <;> first | omega | decide) | (simp; done))
local macro_rules | `(tactic| walk_at "cond") => `(tactic| first | assumption | exact rfl | omega | (simp only [List.length_cons, List.length_nil]; omega) | decide +kernel)
local macro_rules | `(tactic| walk_at "s") => `(tactic| (first
  | ((with_reducible refine r_var (v := ?vv) ?ee ?_); (case ee => exact rfl))
  | (with_reducible refine r_c ?_)
  | (with_reducible refine r_op ?_)
  | (with_reducible refine r_un ?_)
  | (with_reducible refine r_rI0 ?_)
  | ((with_reducible refine r_rI ?cc ?_); (case cc => walk_at "side"))
  | (with_reducible refine r_rU ?_)
  | (with_reducible refine r_eqI ?_)
  | (with_reducible refine r_neI ?_)
  | (with_reducible refine r_eqB ?_)
  | (with_reducible refine r_neB ?_)
  | (with_reducible refine r_eqS ?_)
  | (with_reducible refine r_neS ?_)
  | ((with_reducible refine r_eq ?ee ?_); (case ee => exact rfl))
  | ((with_reducible refine r_ne ?ee ?_); (case ee => exact rfl))
  | ((with_reducible refine r_ixL (v := ?vv) (xs := ?xx) ?hh ?ee ?_); (case hh => (refine SqL.of ?_; walk_at "hp")); (case ee => exact rfl))
  | (with_reducible refine r_cb ?_)
  | (with_reducible refine r_call ?_)
  | (with_reducible refine r_cons ?_)
  | (with_reducible refine r_nil ?_)
  | (with_reducible refine r_lst ?_)
  | (with_reducible refine r_tup ?_)
  | ((with_reducible refine r_new ?cc ?_); (case cc => walk_at "side"))
  | (with_reducible refine r_exbl ?_)
  | (with_reducible refine r_exint ?_)
  | (with_reducible refine r_exint2 ?_)
  | (with_reducible refine r_exblL ?_)
  | (with_reducible refine r_ex2 ?_)
  | (with_reducible refine r_test ?_)
  | (with_reducible refine r_tB ?_)
  | (with_reducible refine r_not ?_)
  | (with_reducible refine r_and ?_)
  | (with_reducible refine r_or ?_)
  | (with_reducible refine r_andV ?_)
  | (with_reducible refine r_orV ?_)
  | (with_reducible refine r_notV ?_)
  | (with_reducible refine r_tif ?_)
  | (with_reducible refine r_iteT ?_)
  | (with_reducible refine r_iteNT ?_)
  | (with_reducible refine r_iteNF ?_)
  | (with_reducible refine r_iteF ?_)
  | (with_reducible refine r_seq ?_)
  | (with_reducible refine r_next ?_)
  | (with_reducible refine r_brk ?_)
  | (with_reducible refine r_cont ?_)
  | (with_reducible refine r_asg ?_)
  | (with_reducible refine r_gname ?_)
  | (with_reducible refine r_ret ?_)
  | (with_reducible refine r_retN ?_)
  | (with_reducible refine r_drop ?_)
  | (with_reducible refine r_if ?_)
  | ((with_reducible refine r_aug (x := ?xx) ?ee ?_); (case ee => exact rfl))
  | (with_reducible refine r_ipI ?_)
  | (with_reducible refine r_augS ?_)
  | (with_reducible refine r_gsub ?_)
  | ((with_reducible refine r_setL (xs := ?xx) (m := ?mm) ?hh ?ee ?_); (case hh => walk_at "hp"); (case ee => exact rfl))
  | (with_reducible refine r_par ?_)
  | (with_reducible refine r_bm ?_)
  | ((with_reducible refine r_tyL (xs := ?xx) ?hh ?_); (case hh => walk_at "hp"))
  | ((with_reducible refine r_append (xs := ?xx) ?hh ?ll ?_); (case hh => walk_at "hp"); (case ll => walk_at "side"))
  | (walk_at "isi")
  | (with_reducible refine r_for ?_)
  | (with_reducible refine r_iList ?_)
  | (with_reducible refine r_iTup ?_)
  | (with_reducible refine r_iR1 ?_)
  | (with_reducible refine r_iR2 ?_)
  | (with_reducible refine r_lc ?_)
  | (with_reducible refine r_yes ?_)
  | ((with_reducible refine r_lenS ?ll ?_); (case ll => walk_at "side"))
  | (with_reducible refine r_leS ?_)
  | (with_reducible refine r_chain ?_)
  | (with_reducible refine r_tM1 ?_)
  | (with_reducible refine r_exS ?_)
  | ((with_reducible refine r_tupL (xs := ?xx) ?hh ?_); (case hh => walk_at "hp"))
  | ((with_reducible refine r_listL (xs := ?xx) ?hh ?_); (case hh => walk_at "hp"))
  | ((with_reducible refine r_listT (xs := ?xx) ?hh ?_); (case hh => walk_at "hp"))
  | ((with_reducible refine r_ixT (v := ?vv) (xs := ?xx) ?hh ?ee ?_); (case hh => (refine SqT.of ?_; walk_at "hp")); (case ee => exact rfl))
  | (with_reducible refine r_sl ?_)
  | (with_reducible refine r_nopart ?_)
  | (with_reducible refine r_part ?_)
  | (with_reducible refine r_exI ?_)
  | ((with_reducible refine r_slL (xs := ?xx) ?hh ?_); (case hh => first | assumption | (refine SqL.of ?_; walk_at "hp") | (refine Same.seq (by assumption) (by assumption))))
  | ((with_reducible refine r_cat (xs := ?xx) (zs := ?zz) ?hh ?ii ?ll ?_); (case hh => walk_at "hp"); (case ii => walk_at "hp"); (case ll => walk_at "side"))
  | ((with_reducible refine r_lenL (xs := ?xx) ?hh ?_); (case hh => walk_at "hp"))
  | ((with_reducible refine r_lenT (xs := ?xx) ?hh ?_); (case hh => walk_at "hp"))
  | ((with_reducible refine r_gTup (xs := ?xx) ?hh ?ll ?_); (case hh => walk_at "hp"); (case ll => exact rfl))
  | (with_reducible refine r_gCons ?_)
  | (with_reducible refine r_gNil ?_)
  | ((with_reducible refine r_iteDT ?cc ?_); (case cc => walk_at "cond"))
  | ((with_reducible refine r_iteDF ?cc ?_); (case cc => walk_at "cond"))
  | ((with_reducible refine r_iteNDT ?cc ?_); (case cc => walk_at "cond"))
  | ((with_reducible refine r_iteNDF ?cc ?_); (case cc => walk_at "cond"))
  ))
local macro_rules | `(tactic| walk_at "go") => `(tactic| repeat (walk_at "s"))

local macro_rules | `(tactic| walk_at "s") => `(tactic| (first
  | (with_reducible refine r_dnew ?_)
  | (with_reducible refine r_dget2 ?_)
  | (with_reducible refine r_dget ?_)
  | (with_reducible refine r_dput ?_)
  | (with_reducible refine r_dsetd ?_)
  | ((with_reducible refine JarAt.isD (n := ?nn) (c := ?cc) ?hh ?_); (case hh => assumption))
  ))

local macro_rules | `(tactic| walk_at "s") => `(tactic| (first
  | (with_reducible refine r_prop ?_)
  | (with_reducible refine r_meth ?_)
  | (with_reducible refine r_make ?_)
  | (with_reducible refine r_fld ?_)
  | (with_reducible refine r_sfld ?_)
  | (with_reducible refine r_iOwn ?_)
  | ((with_reducible refine u_rowsAt (mg := ?mm) (C := ?CC) (dx := ?dd) (fv := ?vv) ?tt ?hh ?_); (case tt => assumption); (case hh => walk_at "hp"))
  | ((with_reducible refine r_isPoly (mg := ?mm) (dx := ?dd) (fs := ?ff) ?tt ?hh ?_); (case tt => assumption); (case hh => walk_at "hp"))
  | ((with_reducible refine r_isPolyI (mg := ?mm) ?tt ?_); (case tt => assumption))
  | ((with_reducible refine r_polyInt (mg := ?mm) (C := ?CC) (dx := ?dd) (fs := ?ff) ?tt ?hh ?_); (case tt => assumption); (case hh => walk_at "hp"))
  ))

theorem ok_Poly_add {f : Addr} {fd : FuncData} (F : Fun K "__add__" "Poly.__add__" s_Poly___add__ f fd) (B : Bl mg) (G_Poly : PolyT K mg C) (hc_Poly : HasC P w K mg base "Poly" C 3 ["self", "terms"] (spInit C)) (h_as_poly : Has P w K mg base "as_poly" 5 ["value"] (spAsPoly C)) : FnOk P w K mg base CX0 6 f fd ["self", "other"] (spPoly2 C fun c d k => c k + d k) := by
  refine F.ok sc_Poly___add__ (fun vs H Q E h => ?_) (fun cdv A outer s H vs Q E hr h => ?_)
  · obtain ⟨a, ts, v, c, n, rfl, _⟩ := h
    rfl
  · obtain ⟨a, ts, v, c, n, rfl, ha, hv, hn, k⟩ := h
    obtain ⟨dx, r, vs, g1, hr', ht, hc⟩ := id ha
    refine ⟨_, (pss_one (ps_ret (pe_makeH hc_Poly (hr.mono (by first | decide | omega)) (pa_cons (pe_op op_cat (pe_callTy call_listT (by rfl) B.b_list (by decide +kernel) (pa_cons (pe_fldK (K := K) (pv 0)) pa_nil)) (pe_callTy call_listT (by rfl) B.b_list (by decide +kernel) (pa_cons (pe_fldK (K := K) (pe_callH h_as_poly (hr.mono (by first | decide | omega)) (pa_cons (pv 1) pa_nil))) pa_nil))) pa_nil)))), ?_⟩
    have hvl := ht.length
    walk_at "go"
    intro l1 nl1
    walk_at "go"
    have hl1 : upd H l1 (.lst vs) l1 = some (.lst vs) := upd_same
    have s0 : Same H (upd H l1 (.lst vs)) := Same.new0 nl1
    generalize upd H l1 (.lst vs) = H1 at *
    refine ⟨v, c, n, rfl, hv.same s0, fun b us H2 s2 hb hcu hul => ?_⟩
    obtain ⟨dx2, r2, ws, g2, hr2, hw, hc2⟩ := hb
    have hwl := hw.length
    walk_at "go"
    intro l2 nl2
    refine r_cat (h_keep (s2 _ _ hl1) nl2) upd_same (by omega) fun l3 nl3 => ?_
    walk_at "go"
    have sE : Same H (upd (upd H2 l2 (.lst ws)) l3 (.lst (vs ++ ws))) := Same.new (Same.new (s0.trans s2) nl2) nl3
    have tE : Tk H2 (upd (upd H2 l2 (.lst ws)) l3 (.lst (vs ++ ws))) := ((Tk.refl _).new nl2).new nl3
    refine u_poly (l := l3) (ts := ts ++ us) ⟨_, upd_same, (ht.tk (Tk.same sE)).app (hw.tk tE)⟩ (by rw [List.length_append]; omega) fun p ps H3 np s3 hp hcp hpl => ?_
    refine k p ps H3 (sE.trans s3) hp (fun j => ?_) (by rw [List.length_append] at hpl; omega)
    rw [hcp, cof_app, hcu]
theorem ok_Poly_radd {f : Addr} {fd : FuncData} (F : Fun K "__radd__" "Poly.__radd__" s_Poly___radd__ f fd) (B : Bl mg) (G_Poly : PolyT K mg C) (hc_Poly : HasC P w K mg base "Poly" C 3 ["self", "terms"] (spInit C)) (h_as_poly : Has P w K mg base "as_poly" 5 ["value"] (spAsPoly C)) : FnOk P w K mg base CX0 6 f fd ["self", "other"] (spPoly2 C fun c d k => c k + d k) := by
  refine F.ok sc_Poly___radd__ (fun vs H Q E h => ?_) (fun cdv A outer s H vs Q E hr h => ?_)
  · obtain ⟨a, ts, v, c, n, rfl, _⟩ := h
    rfl
  · obtain ⟨a, ts, v, c, n, rfl, ha, hv, hn, k⟩ := h
    obtain ⟨dx, r, vs, g1, hr', ht, hc⟩ := id ha
    refine ⟨_, (pss_one (ps_ret (pe_makeH hc_Poly (hr.mono (by first | decide | omega)) (pa_cons (pe_op op_cat (pe_callTy call_listT (by rfl) B.b_list (by decide +kernel) (pa_cons (pe_fldK (K := K) (pe_callH h_as_poly (hr.mono (by first | decide | omega)) (pa_cons (pv 1) pa_nil))) pa_nil)) (pe_callTy call_listT (by rfl) B.b_list (by decide +kernel) (pa_cons (pe_fldK (K := K) (pv 0)) pa_nil))) pa_nil)))), ?_⟩
    have hvl := ht.length
    walk_at "go"
    refine ⟨v, c, n, rfl, hv, fun b us H2 s2 hb hcu hul => ?_⟩
    obtain ⟨dx2, r2, ws, g2, hr2, hw, hc2⟩ := hb
    have hwl := hw.length
    have g1' := s2 _ _ g1
    have hr1 := s2 _ _ hr'
    walk_at "go"
    intro l1 nl1
    walk_at "go"
    intro l2 nl2
    refine r_cat (h_keep upd_same nl2) upd_same (by omega) fun l3 nl3 => ?_
    walk_at "go"
    have sE : Same H2 (upd (upd (upd H2 l1 (.lst ws)) l2 (.lst vs)) l3 (.lst (ws ++ vs))) := Same.new (Same.new (Same.new0 nl1) nl2) nl3
    refine u_poly (l := l3) (ts := us ++ ts) ⟨_, upd_same, (hw.tk (Tk.same sE)).app (ht.tk (Tk.same (s2.trans sE)))⟩ (by rw [List.length_append]; omega) fun p ps H3 np s3 hp hcp hpl => ?_
    refine k p ps H3 (s2.trans (sE.trans s3)) hp (fun j => ?_) (by rw [List.length_append] at hpl; omega)
    show cof ps j = cof ts j + c j
    rw [hcp, cof_app, hcu]; omega
theorem ok_Poly_sub {f : Addr} {fd : FuncData} (F : Fun K "__sub__" "Poly.__sub__" s_Poly___sub__ f fd) (B : Bl mg) (G_Poly : PolyT K mg C) (hc_Poly : HasC P w K mg base "Poly" C 3 ["self", "terms"] (spInit C)) (h_as_poly : Has P w K mg base "as_poly" 5 ["value"] (spAsPoly C)) (h_negative : Has P w K mg base "negative" 5 ["poly"] (spPoly1 C fun ts k => -cof ts k)) : FnOk P w K mg base CX0 6 f fd ["self", "other"] (spPoly2 C fun c d k => c k - d k) := by
  refine F.ok sc_Poly___sub__ (fun vs H Q E h => ?_) (fun cdv A outer s H vs Q E hr h => ?_)
  · obtain ⟨a, ts, v, c, n, rfl, _⟩ := h
    rfl
  · obtain ⟨a, ts, v, c, n, rfl, ha, hv, hn, k⟩ := h
    obtain ⟨dx, r, vs, g1, hr', ht, hc⟩ := id ha
    refine ⟨_, (pss_one (ps_ret (pe_makeH hc_Poly (hr.mono (by first | decide | omega)) (pa_cons (pe_op op_cat (pe_callTy call_listT (by rfl) B.b_list (by decide +kernel) (pa_cons (pe_fldK (K := K) (pv 0)) pa_nil)) (pe_callTy call_listT (by rfl) B.b_list (by decide +kernel) (pa_cons (pe_fldK (K := K) (pe_callH h_negative (hr.mono (by first | decide | omega)) (pa_cons (pe_callH h_as_poly (hr.mono (by first | decide | omega)) (pa_cons (pv 1) pa_nil)) pa_nil))) pa_nil))) pa_nil)))), ?_⟩
    have hvl := ht.length
    walk_at "go"
    intro l1 nl1
    walk_at "go"
    have hl1 : upd H l1 (.lst vs) l1 = some (.lst vs) := upd_same
    have s0 : Same H (upd H l1 (.lst vs)) := Same.new0 nl1
    generalize upd H l1 (.lst vs) = H1 at *
    refine ⟨v, c, n, rfl, hv.same s0, fun b us H2 s2 hb hcu hul => ?_⟩
    walk_at "go"
    refine ⟨b, us, rfl, hb, by omega, fun b3 us3 H3 s3 hb3 hcu3 hul3 => ?_⟩
    obtain ⟨dx2, r2, ws, g2, hr2, hw, hc2⟩ := hb3
    have hwl := hw.length
    walk_at "go"
    intro l2 nl2
    refine r_cat (h_keep (s3 _ _ (s2 _ _ hl1)) nl2) upd_same (by omega) fun l3 nl3 => ?_
    walk_at "go"
    have tE : Tk H3 (upd (upd H3 l2 (.lst ws)) l3 (.lst (vs ++ ws))) := ((Tk.refl _).new nl2).new nl3
    have sE : Same H (upd (upd H3 l2 (.lst ws)) l3 (.lst (vs ++ ws))) := Same.new (Same.new (s0.trans (s2.trans s3)) nl2) nl3
    refine u_poly (l := l3) (ts := ts ++ us3) ⟨_, upd_same, (ht.tk (Tk.same sE)).app (hw.tk tE)⟩ (by rw [List.length_append]; omega) fun p ps H4 np s4 hp hcp hpl => ?_
    refine k p ps H4 (sE.trans s4) hp (fun j => ?_) (by rw [List.length_append] at hpl; omega)
    show cof ps j = cof ts j - c j
    rw [hcp, cof_app, hcu3]
    show cof ts j + -cof us j = _
    rw [hcu]; omega
theorem ok_Poly_rsub {f : Addr} {fd : FuncData} (F : Fun K "__rsub__" "Poly.__rsub__" s_Poly___rsub__ f fd) (B : Bl mg) (G_Poly : PolyT K mg C) (hc_Poly : HasC P w K mg base "Poly" C 3 ["self", "terms"] (spInit C)) (h_as_poly : Has P w K mg base "as_poly" 5 ["value"] (spAsPoly C)) (h_negative : Has P w K mg base "negative" 5 ["poly"] (spPoly1 C fun ts k => -cof ts k)) : FnOk P w K mg base CX0 6 f fd ["self", "other"] (spPoly2 C fun c d k => d k - c k) := by
  refine F.ok sc_Poly___rsub__ (fun vs H Q E h => ?_) (fun cdv A outer s H vs Q E hr h => ?_)
  · obtain ⟨a, ts, v, c, n, rfl, _⟩ := h
    rfl
  · obtain ⟨a, ts, v, c, n, rfl, ha, hv, hn, k⟩ := h
    obtain ⟨dx, r, vs, g1, hr', ht, hc⟩ := id ha
    refine ⟨_, (pss_one (ps_ret (pe_makeH hc_Poly (hr.mono (by first | decide | omega)) (pa_cons (pe_op op_cat (pe_callTy call_listT (by rfl) B.b_list (by decide +kernel) (pa_cons (pe_fldK (K := K) (pe_callH h_as_poly (hr.mono (by first | decide | omega)) (pa_cons (pv 1) pa_nil))) pa_nil)) (pe_callTy call_listT (by rfl) B.b_list (by decide +kernel) (pa_cons (pe_fldK (K := K) (pe_callH h_negative (hr.mono (by first | decide | omega)) (pa_cons (pv 0) pa_nil))) pa_nil))) pa_nil)))), ?_⟩
    have hvl := ht.length
    walk_at "go"
    refine ⟨v, c, n, rfl, hv, fun b us H2 s2 hb hcu hul => ?_⟩
    obtain ⟨dx2, r2, ws, g2, hr2, hw, hc2⟩ := hb
    have hwl := hw.length
    walk_at "go"
    intro l1 nl1
    walk_at "go"
    have hl1 : upd H2 l1 (.lst ws) l1 = some (.lst ws) := upd_same
    have s0 : Same H2 (upd H2 l1 (.lst ws)) := Same.new0 nl1
    generalize upd H2 l1 (.lst ws) = H3 at *
    refine ⟨a, ts, rfl, (ha.same s2).same s0, by omega, fun b3 us3 H4 s4 hb3 hcu3 hul3 => ?_⟩
    obtain ⟨dx3, r3, vs3, g3, hr3, hw3, hc3⟩ := hb3
    have hwl3 := hw3.length
    walk_at "go"
    intro l2 nl2
    refine r_cat (h_keep (s4 _ _ hl1) nl2) upd_same (by omega) fun l3 nl3 => ?_
    walk_at "go"
    have tE : Tk H4 (upd (upd H4 l2 (.lst vs3)) l3 (.lst (ws ++ vs3))) := ((Tk.refl _).new nl2).new nl3
    have sE : Same H2 (upd (upd H4 l2 (.lst vs3)) l3 (.lst (ws ++ vs3))) := Same.new (Same.new (s0.trans s4) nl2) nl3
    refine u_poly (l := l3) (ts := us ++ us3) ⟨_, upd_same, (hw.tk (Tk.same sE)).app (hw3.tk tE)⟩ (by rw [List.length_append]; omega) fun p ps H5 np s5 hp hcp hpl => ?_
    refine k p ps H5 (s2.trans (sE.trans s5)) hp (fun j => ?_) (by rw [List.length_append] at hpl; omega)
    show cof ps j = c j - cof ts j
    rw [hcp, cof_app, hcu3, hcu]
    show c j + -cof ts j = _
    omega
end
end My

set_option Elab.async false
set_option linter.all false
set_option maxRecDepth 100000
namespace My
open PySem PySem.Spec PyProof.Rows L2
/-! ### for k in d: the dict is locked meanwhile -/
section
variable {σ : L2.St} {H : Hp} {Q : VK} {K : PySem.W.Frag} {td te : TE} {D : Ends} {t tb : TS} {g : TG} {R : It → Hp → Prop}
theorem r_iKeys (q : td σ H fun x H1 => ∃ d o, x = .ref d ∧ ((∃ kvs, H1 d = some (.frz o (.dK kvs)) ∧ R (Itk d o kvs) H1) ∨ ∃ kvs, H1 d = some (.frz o (.dT kvs)) ∧ R (Itkt d o kvs) H1)) : iKeys td σ H R := q
theorem u_keys {d : Addr} {od : Obj} {kvs : List (Key × V)} (I : Nat → L2.St → Hp → Prop) (h0 : I 0 σ H) (hl : ∀ i σ H, I i σ H → H d = some (.frz od (.dK kvs)))
    (hs : ∀ i k v σ H, kvs[i]? = some (k, v) → I i σ H → g (kV k) σ H fun σ2 H2 => tb { D with nx := I (i + 1), ct := I (i + 1), bk := D.nx } σ2 H2) (hd : ∀ σ H, I kvs.length σ H → D.nx σ H) :
    ∃ W : Nat → Nat → L2.St → Hp → Prop, (∃ m, W 0 m σ H) ∧ ∀ i m σ H, W i m σ H →
      ((Itk d od kvs).stop i H ∧ D.nx σ H) ∨ ((Itk d od kvs).go i H ∧ ∃ N : L2.St → Hp → Prop, (∀ σ' H', N σ' H' → ∃ m', m' < m ∧ W (i + 1) m' σ' H') ∧ ∀ x H', (Itk d od kvs).yld i H x H' → g x σ H' fun σ2 H2 => tb { D with nx := N, ct := N, bk := D.nx } σ2 H2) := by
  refine ⟨fun i m σ' H' => m = kvs.length - i ∧ i ≤ kvs.length ∧ I i σ' H', ⟨kvs.length, rfl, Nat.zero_le _, h0⟩, ?_⟩
  rintro i m σ' H' ⟨rfl, hi, ir⟩
  by_cases hlt : i < kvs.length
  · refine .inr ⟨⟨hl _ _ _ ir, hlt⟩, I (i + 1), fun σ2 H2 q => ⟨_, by omega, rfl, hlt, q⟩, fun x H2 hy => ?_⟩
    obtain ⟨rfl, k, v, e, rfl⟩ := hy
    exact hs i k v _ _ e ir
  · have e : i = kvs.length := by omega
    subst e
    exact .inl ⟨⟨hl _ _ _ ir, Nat.le_refl _⟩, hd _ _ ir⟩
end
/-- the jar at a, locked by a walk -/
def JarFz (H : Hp) (a : Addr) (od : Obj) (kvs : List (Key × V)) : Prop := H a = some (.frz od (.dK kvs))
theorem JarFz.dget {H : Hp} {a : Addr} {od : Obj} {kvs : List (Key × V)} {k : Int} (h : H a = some (.frz od (.dK kvs))) (hk : JarK kvs) (m : Sum.inl k ∈ kvs.map (·.1)) : DGet H a (.int k) (some (.int (cfK kvs k))) :=
  .inl ⟨kvs, .inl k, .inr ⟨od, h⟩, rfl, (hk.some m).symm⟩
def rDictC : List V → Hp → VK → Prop := fun xs H Q => ∃ (a : Addr) (kvs : List (Key × V)), xs = [.ref a] ∧ Rd H a (.dK kvs) ∧ ∀ p, H p = none → Q (.ref p) (upd H p (.dK kvs))
theorem call_dictC {X : Cx} : CallR X (.type "dict") rDictC := call_dictD
theorem r_dictC {H : Hp} {Q : VK} {a : Addr} {n : Nat} {c : Int → Int} (h : JarAt H a n c) (q : ∀ p H', H p = none → Same H H' → JarAt H' p n c → Q (.ref p) H') : rDictC [.ref a] H Q := by
  obtain ⟨kvs, e, hk, hl, hc⟩ := h
  exact ⟨a, kvs, rfl, .inl e, fun p np => q p _ np (Same.new0 np) ⟨kvs, upd_same, hk, hl, hc⟩⟩
/-! ### promises of the law's defs -/
def BN : Int := 10 ^ 38
def spSomeInt : Sp := fun vs H Q _ => ∃ a, vs = [.ref a] ∧ Bag H a ∧ ∀ (r : Int) H', -BN ≤ r → r ≤ BN → But a H H' → Bag H' a → Q (.int r) H'
def spPairs : Sp := fun vs H Q _ => ∃ (a : Addr) (m f : Int), vs = [.ref a, .int m, .int f] ∧ Bag H a ∧ 0 ≤ m ∧ m ≤ 1000 ∧ 0 ≤ f ∧ f ≤ 1000 ∧
  ∀ l ts H', H l = none → But a H H' → Bag H' a → TermsAt H' l ts → (ts.length : Int) ≤ m → (∀ p ∈ ts, (-f - 2 ≤ p.1 ∧ p.1 ≤ f + 4) ∧ -BN ≤ p.2 ∧ p.2 ≤ BN) → Q (.ref l) H'
def spJarOf : Sp := fun vs H Q _ => ∃ (l : Addr) (ts : Terms), vs = [.ref l] ∧ TermsAt H l ts ∧ ts.length ≤ 90000 ∧ ∀ d H', H d = none → Same H H' → JarAt H' d ts.length (cof ts) → Q (.ref d) H'
def spIsPoly (C : Addr) : Sp := fun vs H Q _ => ∃ a ts d n c, vs = [.ref a, .ref d] ∧ PolyAt C H a ts ∧ JarAt H d n c ∧ (∀ k, cof ts k = c k) ∧ n ≤ 90000 ∧ ts.length ≤ 90000 ∧ ∀ H', Same H H' → Q (.bl true) H'
def spPlus : Sp := fun vs H Q _ => ∃ (a b : Addr) (n m : Nat) (c e : Int → Int) (s : Int), vs = [.ref a, .ref b, .int s] ∧ (s = 1 ∨ s = -1) ∧ JarAt H a n c ∧ JarAt H b m e ∧ n + m ≤ 90000 ∧
  ∀ d H', H d = none → Same H H' → JarAt H' d (n + m) (fun k => c k + s * e k) → Q (.ref d) H'
def spNear : Sp := fun vs H Q _ => ∃ (a d : Addr) (n : Nat) (c : Int → Int), vs = [.ref a, .ref d] ∧ Bag H a ∧ JarAt H d n c ∧ n ≤ 80000 ∧ ∀ b m e H', H b = none → But a H H' → Bag H' a → JarAt H' b m e → m ≤ n + 2 → Q (.ref b) H'
def spMade (C : Addr) : Sp := fun vs H Q _ => ∃ (a d : Addr) (n : Nat) (c : Int → Int), vs = [.ref a, .ref d] ∧ Bag H a ∧ JarAt H d n c ∧ n ≤ 80000 ∧ ∀ b ts H', But a H H' → Bag H' a → PolyAt C H' b ts → (∀ k, cof ts k = c k) → ts.length ≤ n + 2 → Q (.ref b) H'
theorem atI_nil_of {xs : List V} {n : Int} {i : Nat} {x : V} (h0 : n = (i : Int)) (h : xs[i]? = some x) : atI xs n = some x := by
  subst h0
  obtain ⟨hi, _⟩ := List.getElem?_eq_some_iff.mp h
  unfold atI ixN
  rw [if_pos (by omega), if_pos (by omega)]
  exact h
end My

set_option Elab.async false
set_option linter.all false
set_option maxRecDepth 100000
namespace My
open PySem PySem.Spec PyProof.Rows L2
theorem TermsL.take {H : Hp} : ∀ {vs : List V} {ts : Terms} (n : Nat), TermsL H vs ts → TermsL H (vs.take n) (ts.take n)
  | [], ts, n, h => by rw [show ts = [] from h]; simp; rfl
  | _ :: _, _, 0, _ => by simp; rfl
  | v :: vs, _, n + 1, ⟨b, p, us, e1, e2, e3, e4⟩ => by
    rw [e1, List.take_succ_cons, List.take_succ_cons]
    exact ⟨b, p, us.take n, rfl, e2, e3, e4.take n⟩
theorem TermsL.drop {H : Hp} : ∀ {vs : List V} {ts : Terms} (n : Nat), TermsL H vs ts → TermsL H (vs.drop n) (ts.drop n)
  | [], ts, n, h => by rw [show ts = [] from h]; simp; rfl
  | _ :: _, _, 0, h => h
  | v :: vs, _, n + 1, ⟨b, p, us, e1, e2, e3, e4⟩ => by
    rw [e1, List.drop_succ_cons, List.drop_succ_cons]
    exact e4.drop n
theorem TermsL.reverse {H : Hp} : ∀ {vs : List V} {ts : Terms}, TermsL H vs ts → TermsL H vs.reverse ts.reverse
  | [], ts, h => by rw [show ts = [] from h]; rfl
  | v :: vs, _, ⟨b, p, us, e1, e2, e3, e4⟩ => by
    rw [e1, List.reverse_cons, List.reverse_cons, e2]
    exact e4.reverse.app (.one e3)
theorem TermsL.some_of {H : Hp} : ∀ {ws : List V}, (∀ x ∈ ws, ∃ (b : Addr) (p : Int × Int), x = .ref b ∧ H b = some (.tup [.int p.1, .int p.2])) → ∃ us, TermsL H ws us
  | [], _ => ⟨[], rfl⟩
  | w :: ws, h => by
    obtain ⟨b, p, e, hb⟩ := h w List.mem_cons_self
    obtain ⟨us, hu⟩ := TermsL.some_of (ws := ws) fun x hx => h x (List.mem_cons_of_mem _ hx)
    exact ⟨p :: us, b, p, us, rfl, e, hb, hu⟩
theorem TermsL.mem {H : Hp} {vs : List V} {ts : Terms} (h : TermsL H vs ts) : ∀ x ∈ vs, ∃ (b : Addr) (p : Int × Int), x = .ref b ∧ H b = some (.tup [.int p.1, .int p.2]) := by
  intro x hx
  obtain ⟨i, hi⟩ := List.getElem?_of_mem hx
  obtain ⟨b, p, e1, e2, e3⟩ := h.at i hi
  exact ⟨b, p, e1, e3⟩
theorem cut_drop (xs : List V) (n : Nat) : cutV xs (some (n : Int)) none = xs.drop n := by
  unfold cutV
  rw [HT.sIx_none, HT.sIx_nat]
  by_cases h : n ≤ xs.length
  · rw [Nat.min_eq_left h, List.take_of_length_le (by rw [List.length_drop]; omega)]
  · rw [Nat.min_eq_right (by omega), List.drop_eq_nil_of_le (Nat.le_refl _), List.take_nil, List.drop_eq_nil_of_le (by omega)]
theorem cof_rev : ∀ (ts : Terms) (k : Int), cof ts.reverse k = cof ts k
  | [], k => rfl
  | p :: ts, k => by
    rw [List.reverse_cons, cof_app, cof_rev ts k, cof, cof, cof]; omega
theorem cof_cut (ts : Terms) (n : Nat) (k : Int) : cof (ts.take n) k + cof (ts.drop n) k = cof ts k := by
  rw [← cof_app, List.take_append_drop]
theorem cut_takeI {xs : List V} {m : Int} (h : 0 ≤ m) : cutV xs none (some m) = xs.take m.toNat := by
  have := cut_take xs m.toNat
  rw [Int.toNat_of_nonneg h] at this
  exact this
theorem cut_dropI {xs : List V} {m : Int} (h : 0 ≤ m) : cutV xs (some m) none = xs.drop m.toNat := by
  have := cut_drop xs m.toNat
  rw [Int.toNat_of_nonneg h] at this
  exact this
/-- a jar of one entry, written -/
theorem jar_one {H : Hp} {p : Addr} {k n : Int} : JarAt (upd H p (.dK (mergeK [] [(.inl k, .int n)]))) p 1 (fun j => if j = k then n else 0) := by
  refine ⟨_, upd_same, (JarK.nil).put k n, Nat.le_refl 1, fun j => ?_⟩
  show cfK (putK [] (.inl k) (.int n)) j = _
  rw [cfK_put]; rfl
end My

set_option Elab.async false
set_option linter.all false
set_option maxRecDepth 100000
namespace My
open PySem PySem.Spec PyProof.Rows L2
theorem JarAt.nb {H : Hp} {a b : Addr} {n : Nat} {c : Int → Int} (h : JarAt H a n c) (hb : Bag H b) : a ≠ b := by
  rintro rfl
  obtain ⟨_, e, _⟩ := h
  obtain ⟨_, _, _, e', _⟩ := hb
  rw [e] at e'
  cases e'
theorem JarAt.bag {H H' : Hp} {a b : Addr} {n : Nat} {c : Int → Int} (h : JarAt H a n c) (s : But b H H') (hb : Bag H b) : JarAt H' a n c := h.but (h.nb hb) s
theorem PolyAt.bag {C : Addr} {H H' : Hp} {a b : Addr} {ts : Terms} (h : PolyAt C H a ts) (s : But b H H') (hb : Bag H b) : PolyAt C H' a ts := h.stay (.bag s hb)
/-- a pair of what was found and the jar that is due -/
def DueAt (C : Addr) (H : Hp) (x : V) : Prop := ∃ (t b d : Addr) (ts : Terms) (n : Nat) (c : Int → Int), x = .ref t ∧ H t = some (.tup [.ref b, .ref d]) ∧ PolyAt C H b ts ∧ JarAt H d n c ∧ (∀ k, cof ts k = c k) ∧ n ≤ 90000 ∧ ts.length ≤ 90000
theorem DueAt.same {C : Addr} {H H' : Hp} {x : V} (h : DueAt C H x) (s : Same H H') : DueAt C H' x := by
  obtain ⟨t, b, d, ts, n, c, e, h1, h2, h3, h4⟩ := h
  exact ⟨t, b, d, ts, n, c, e, s _ _ h1, h2.same s, h3.same s, h4⟩
def DuesL (C : Addr) (H : Hp) (a : Addr) (m : Nat) : Prop := ∃ xs, H a = some (.lst xs) ∧ xs.length = m ∧ ∀ x ∈ xs, DueAt C H x
theorem DuesL.same {C : Addr} {H H' : Hp} {a : Addr} {m : Nat} (h : DuesL C H a m) (s : Same H H') : DuesL C H' a m := by
  obtain ⟨xs, e, h1, h2⟩ := h
  exact ⟨xs, s _ _ e, h1, fun x hx => (h2 x hx).same s⟩
/-- a new pair -/
theorem due_new {C : Addr} {H : Hp} {t b d : Addr} {ts : Terms} {n : Nat} {c : Int → Int} (nt : H t = none) (h : PolyAt C H b ts) (hj : JarAt H d n c) (e : ∀ k, cof ts k = c k) (hn : n ≤ 90000) (hl : ts.length ≤ 90000) : DueAt C (upd H t (.tup [.ref b, .ref d])) (.ref t) :=
  ⟨t, b, d, ts, n, c, rfl, upd_same, h.same (Same.new0 nt), hj.keep nt, e, hn, hl⟩
theorem u_own2 {C : Addr} {H : Hp} {Q : VK} {f : (Int → Int) → (Int → Int) → Int → Int} {a b : Addr} {ts us : Terms} (ha : PolyAt C H a ts) (hb : PolyAt C H b us) (hn : ts.length + us.length ≤ 90000)
    (q : ∀ p ws H', Same H H' → PolyAt C H' p ws → (∀ k, cof ws k = f (cof ts) (cof us) k) → ws.length ≤ ts.length + us.length → Q (.ref p) H') : rOwn2 C (spPoly2 C f) (.ref a) (.ref b) H Q := by
  obtain ⟨dx, r, vs, g1, _⟩ := id ha
  obtain ⟨dy, r', vs', g2, _⟩ := id hb
  exact ⟨a, dx, _, b, dy, _, rfl, rfl, g1, g2, a, ts, .ref b, cof us, us.length, rfl, ha, .inl ⟨b, us, rfl, hb, fun _ => rfl, Nat.le_refl _⟩, hn, q⟩
def one0 (i : Int) : Int → Int := fun k => if k = 0 then i else 0
theorem u_ownI {C : Addr} {H : Hp} {Q : VK} {f : (Int → Int) → (Int → Int) → Int → Int} {a : Addr} {i : Int} {ts : Terms} (ha : PolyAt C H a ts) (hn : ts.length + 1 ≤ 90000)
    (q : ∀ p ws H', Same H H' → PolyAt C H' p ws → (∀ k, cof ws k = f (cof ts) (one0 i) k) → ws.length ≤ ts.length + 1 → Q (.ref p) H') : rOwnI C (spPoly2 C f) (.ref a) (.int i) H Q := by
  obtain ⟨dx, r, vs, g1, _⟩ := id ha
  exact ⟨a, dx, _, i, rfl, rfl, g1, a, ts, .int i, one0 i, 1, rfl, ha, .inr ⟨i, rfl, fun _ => rfl, Nat.le_refl _⟩, hn, q⟩
theorem u_ownR {C : Addr} {H : Hp} {Q : VK} {f : (Int → Int) → (Int → Int) → Int → Int} {a : Addr} {i : Int} {ts : Terms} (ha : PolyAt C H a ts) (hn : ts.length + 1 ≤ 90000)
    (q : ∀ p ws H', Same H H' → PolyAt C H' p ws → (∀ k, cof ws k = f (cof ts) (one0 i) k) → ws.length ≤ ts.length + 1 → Q (.ref p) H') : rOwnR C (spPoly2 C f) (.int i) (.ref a) H Q := by
  obtain ⟨dx, r, vs, g1, _⟩ := id ha
  exact ⟨a, dx, _, i, rfl, rfl, g1, a, ts, .int i, one0 i, 1, rfl, ha, .inr ⟨i, rfl, fun _ => rfl, Nat.le_refl _⟩, hn, q⟩
/-- equal polynomials are told equal -/
theorem u_eqSame {K : PySem.W.Frag} {mg : Str → Option Value} {C : Addr} {H : Hp} {Q : VK} {a b : Addr} {ts us : Terms} (T : PolyT K mg C) (ha : PolyAt C H a ts) (hb : PolyAt C H b us) (e : ∀ k, cof ts k = cof us k) (q : Q (.bl true) H) : rOwnEq K C (spPEq K C) (.ref a) (.ref b) H Q := by
  obtain ⟨dx, r, vs, g1, g2, g3, g4⟩ := id ha
  obtain ⟨dy, r', vs', h1, h2, h3, h4⟩ := id hb
  have ee : ts = us := Canon.ext g4 h4 e
  refine ⟨a, dx, _, .ref C, rfl, g1, .x (ty_poly T h1), by simp [PySem.W.notFirst], a, ts, .ref b, rfl, ha, .inl ⟨b, us, rfl, hb, ?_⟩⟩
  rw [decide_eq_true ee]
  exact q
/-- two jars, two polynomials and the jar of one number -/
structure Five (C : Addr) (H : Hp) (j p f one two : Addr) (n1 n2 : Nat) (c1 c2 : Int → Int) (co : Int) (o1 o2 : Terms) : Prop where
  j : JarAt H j n1 c1
  p : JarAt H p n2 c2
  f : JarAt H f 1 (one0 co)
  one : PolyAt C H one o1
  two : PolyAt C H two o2
theorem Five.same {C : Addr} {H H' : Hp} {j p f one two : Addr} {n1 n2 : Nat} {c1 c2 : Int → Int} {co : Int} {o1 o2 : Terms} (h : Five C H j p f one two n1 n2 c1 c2 co o1 o2) (s : Same H H') : Five C H' j p f one two n1 n2 c1 c2 co o1 o2 :=
  ⟨h.j.same s, h.p.same s, h.f.same s, h.one.same s, h.two.same s⟩
theorem dues_new {C : Addr} {H : Hp} {a : Addr} {xs : List V} (na : H a = none) (h : ∀ x ∈ xs, DueAt C H x) : DuesL C (upd H a (.lst xs)) a xs.length :=
  ⟨xs, upd_same, rfl, fun x hx => (h x hx).same (Same.new0 na)⟩
/-- list + list of pairs -/
theorem dues_cat {C : Addr} {H : Hp} {Q : VK} {a b : Addr} {m n : Nat} (ha : DuesL C H a m) (hb : DuesL C H b n) (hn : m + n ≤ 100) (q : ∀ p H', H p = none → Same H H' → DuesL C H' p (m + n) → Q (.ref p) H') : rCat (.ref a) (.ref b) H Q := by
  obtain ⟨xs, e1, f1, g1⟩ := ha
  obtain ⟨zs, e2, f2, g2⟩ := hb
  refine r_cat e1 e2 (by rw [f1, f2]; exact Nat.le_trans hn (by decide)) fun p np => q p _ np (Same.new0 np) ?_
  refine ⟨_, upd_same, by rw [List.length_append, f1, f2], fun x hx => ?_⟩
  rcases List.mem_append.mp hx with h | h
  · exact (g1 x h).same (Same.new0 np)
  · exact (g2 x h).same (Same.new0 np)
section
variable {σ : L2.St} {H : Hp} {Q : VK} {td ty tk tv : TE} {trs : List (TE × TE)}
theorem rl_disp (q : ∀ p, H p = none → tPairs trs σ (upd H p (.dK [])) fun ps H2 => H2 p = some (.dK []) ∧ ∃ kvs : List (Key × V), ps = kvs.map (fun kv => (kV kv.1, kv.2)) ∧ kvs.length ≤ 15 ∧ Q (.ref p) (upd H2 p (.dK (mergeK [] kvs)))) : tDisp trs σ H Q := q
theorem rl_pc {R : List (V × V) → Hp → Prop} (q : tk σ H fun x H1 => tv σ H1 fun y H2 => tPairs trs σ H2 fun ps H3 => R ((x, y) :: ps) H3) : tPairs ((tk, tv) :: trs) σ H R := q
theorem rl_pn {R : List (V × V) → Hp → Prop} (q : R [] H) : tPairs [] σ H R := q
end
end My

set_option Elab.async false
set_option linter.all false
set_option maxRecDepth 100000
namespace My
open PySem PySem.Spec PyProof.Rows L2
/-! ### comprehensions with two loops -/
section
variable {K : PySem.W.Frag} {a p : Addr} {xs : List V} {σ : L2.St} {H : Hp} {D : Addr} {g : TG} {tt : TT} {vs : List Nat}
theorem lc_tupB {H0 : Hp} {Qd : Hp → Prop} {body : (Hp → Prop) → L2.St → Hp → Prop} (Pv : Nat → Hp → Prop) (h0 : Pv 0 H0) (hl : ∀ i H, i ≤ xs.length → Pv i H → SqT K H a xs)
    (hs : ∀ i x H, xs[i]? = some x → Pv i H → g x (wipe σ vs) H fun σ2 H2 => wipe σ2 vs = wipe σ vs ∧ tt σ2 H2 fun b H3 => if b = true then body (Pv (i + 1)) σ2 H3 else Pv (i + 1) H3) (hd : ∀ H, Pv xs.length H → Qd H) :
    ∃ W : Nat → Nat → Hp → Prop, (∃ m, W 0 m H0) ∧ ∀ i m H, W i m H →
      ((Itt K a).stop i H ∧ Qd H) ∨ ((Itt K a).go i H ∧ ∃ Nx : Hp → Prop, (∀ H', Nx H' → ∃ m', m' < m ∧ W (i + 1) m' H') ∧ ∀ x H', (Itt K a).yld i H x H' → g x (wipe σ vs) H' fun σ2 H2 => wipe σ2 vs = wipe σ vs ∧ tt σ2 H2 fun b H3 =>
        if b = true then body Nx σ2 H3 else Nx H3) := by
  refine ⟨fun i m H => m = xs.length - i ∧ i ≤ xs.length ∧ Pv i H, ⟨xs.length, by simp, Nat.zero_le _, h0⟩, ?_⟩
  rintro i m H ⟨rfl, hi, p⟩
  have q := hl i H hi p
  by_cases hlt : i < xs.length
  · refine .inr ⟨⟨xs, xs[i], q, by simp [hlt]⟩, Pv (i + 1), fun H' p' => ⟨xs.length - (i + 1), by omega, rfl, hlt, p'⟩, fun x H' y => ?_⟩
    obtain ⟨e, y⟩ := y
    subst e
    exact hs i x _ (y xs q) p
  · have e : i = xs.length := by omega
    subst e
    exact .inl ⟨⟨xs, q, Nat.le_refl _⟩, hd H p⟩
def LcNext (D : Addr) (I : Addr → Nat → List V → Hp → Prop) (i : Nat) : Hp → Prop := fun H => ∃ acc, H D = some (.lst acc) ∧ I D (i + 1) acc H
theorem u_lcO {Qd : Addr → Hp → Prop} {body : Addr → (Hp → Prop) → L2.St → Hp → Prop} (h : SqT K H p xs) (I : Addr → Nat → List V → Hp → Prop) (h0 : ∀ D, H D = none → I D 0 [] (upd H D (.lst [])))
    (hl : ∀ D i acc H', H D = none → H' D = some (.lst acc) → I D i acc H' → SqT K H' p xs)
    (hs : ∀ D i x acc H', H D = none → xs[i]? = some x → H' D = some (.lst acc) → I D i acc H' → g x (wipe σ vs) H' fun σ2 H2 => wipe σ2 vs = wipe σ vs ∧ tt σ2 H2 fun b H3 => if b = true then body D (LcNext D I i) σ2 H3 else LcNext D I i H3)
    (hd : ∀ D acc H', H D = none → H' D = some (.lst acc) → I D xs.length acc H' → Qd D H') :
    ∃ a, V.ref p = .ref a ∧ (∃ xs, SqT K H a xs) ∧ ∀ D, H D = none → ∃ W : Nat → Nat → Hp → Prop, (∃ m, W 0 m (upd H D (.lst []))) ∧ ∀ i m H, W i m H →
      ((Itt K a).stop i H ∧ Qd D H) ∨ ((Itt K a).go i H ∧ ∃ Nx : Hp → Prop, (∀ H', Nx H' → ∃ m', m' < m ∧ W (i + 1) m' H') ∧ ∀ x H', (Itt K a).yld i H x H' → g x (wipe σ vs) H' fun σ2 H2 => wipe σ2 vs = wipe σ vs ∧ tt σ2 H2 fun b H3 =>
        if b = true then body D Nx σ2 H3 else Nx H3) :=
  ⟨p, rfl, ⟨xs, h⟩, fun D hD => lc_tupB (xs := xs) (body := body D) (fun i H' => ∃ acc, H' D = some (.lst acc) ∧ I D i acc H') ⟨[], upd_same, h0 D hD⟩ (fun i H' _ ⟨acc, e, q⟩ => hl D i acc H' hD e q)
    (fun i x H' hi ⟨acc, e, q⟩ => hs D i x acc H' hD hi e q) fun H' ⟨acc, e, q⟩ => hd D acc H' hD e q⟩
theorem u_lcI {te : TE} {Nx : Hp → Prop} {acc0 : List V} (h : SqT K H p xs) (I : Addr → Nat → List V → Hp → Prop) (hD : H D = some (.lst acc0)) (h0 : I D 0 acc0 H)
    (hl : ∀ i acc H', H' D = some (.lst acc) → I D i acc H' → SqT K H' p xs)
    (hs : ∀ i x acc H', xs[i]? = some x → H' D = some (.lst acc) → I D i acc H' → g x (wipe σ vs) H' fun σ2 H2 => wipe σ2 vs = wipe σ vs ∧ tt σ2 H2 fun b H3 => if b = true then te σ2 H3 fun y H4 => LcPush D I i H4 y else LcSkip D I i H3)
    (hd : ∀ acc H', H' D = some (.lst acc) → I D xs.length acc H' → Nx H') :
    ∃ a, V.ref p = .ref a ∧ (∃ xs, SqT K H a xs) ∧ ∃ W : Nat → Nat → Hp → Prop, (∃ m, W 0 m H) ∧ ∀ i m H, W i m H →
      ((Itt K a).stop i H ∧ Nx H) ∨ ((Itt K a).go i H ∧ ∃ Nx1 : Hp → Prop, (∀ H', Nx1 H' → ∃ m', m' < m ∧ W (i + 1) m' H') ∧ ∀ x H', (Itt K a).yld i H x H' → g x (wipe σ vs) H' fun σ2 H2 => wipe σ2 vs = wipe σ vs ∧ tt σ2 H2 fun b H3 =>
        if b = true then te σ2 H3 fun y H4 => ∃ acc, H4 D = some (.lst acc) ∧ acc.length < sizeLine ∧ Nx1 (upd H4 D (.lst (acc ++ [y]))) else Nx1 H3) :=
  ⟨p, rfl, ⟨xs, h⟩, lc_tupB (xs := xs) (body := fun Nx1 σ2 H3 => te σ2 H3 fun y H4 => ∃ acc, H4 D = some (.lst acc) ∧ acc.length < sizeLine ∧ Nx1 (upd H4 D (.lst (acc ++ [y])))) (fun i H' => ∃ acc, H' D = some (.lst acc) ∧ I D i acc H') ⟨acc0, hD, h0⟩ (fun i H' _ ⟨acc, e, q⟩ => hl i acc H' e q)
    (fun i x H' hi ⟨acc, e, q⟩ => hs i x acc H' hi e q) fun H' ⟨acc, e, q⟩ => hd acc H' e q⟩
theorem r_lc2 {Q : VK} {wi wi1 : TI} {g1 : TG} {tt1 : TT} {te : TE} {vs1 : List Nat} (q : wi σ H fun J H1 => ∀ D, H1 D = none → ∃ W : Nat → Nat → Hp → Prop, (∃ m, W 0 m (upd H1 D (.lst []))) ∧ ∀ i m H, W i m H →
  (J.stop i H ∧ Q (.ref D) H) ∨ (J.go i H ∧ ∃ Nx : Hp → Prop, (∀ H', Nx H' → ∃ m', m' < m ∧ W (i + 1) m' H') ∧ ∀ x H', J.yld i H x H' → g x (wipe σ vs) H' fun σ2 H2 => wipe σ2 vs = wipe σ vs ∧ tt σ2 H2 fun b H3 =>
    if b = true then wi1 σ2 H3 fun J1 H4 => ∃ W1 : Nat → Nat → Hp → Prop, (∃ m, W1 0 m H4) ∧ ∀ j k H, W1 j k H →
      (J1.stop j H ∧ Nx H) ∨ (J1.go j H ∧ ∃ Nx1 : Hp → Prop, (∀ H', Nx1 H' → ∃ k', k' < k ∧ W1 (j + 1) k' H') ∧ ∀ x H', J1.yld j H x H' → g1 x (wipe σ2 vs1) H' fun σ3 H5 => wipe σ3 vs1 = wipe σ2 vs1 ∧ tt1 σ3 H5 fun b H6 =>
        if b = true then te σ3 H6 fun y H7 => ∃ acc, H7 D = some (.lst acc) ∧ acc.length < sizeLine ∧ Nx1 (upd H7 D (.lst (acc ++ [y]))) else Nx1 H6)
    else Nx H3)) : tLc2 wi g tt wi1 g1 tt1 te vs vs1 σ H Q := q
end
theorem pi_tupK {X : Cx} {K : PySem.W.Frag} {tg e : Expr} {t : TE} (h : PE X e t) (hk : X.K = K := by rfl) : PI X tg e (iTup K t) := by subst hk; exact pi_tup h
theorem pi_listK {X : Cx} {K : PySem.W.Frag} {tg e : Expr} {t : TE} (h : PE X e t) (hk : X.K = K := by rfl) : PI X tg e (iList K t) := by subst hk; exact pi_list h
end My

set_option Elab.async false
set_option linter.all false
set_option maxRecDepth 100000
namespace My
open PySem PySem.Spec PyProof.Rows L2
/-! ### products of polynomials, power by power -/
def cmul : Terms → (Int → Int) → Int → Int
  | [], _, _ => 0
  | p :: ts, d, k => p.2 * d (k - p.1) + cmul ts d k
theorem cmul_extr : ∀ (ts : Terms) {d e : Int → Int} (k : Int), (∀ k, d k = e k) → cmul ts d k = cmul ts e k
  | [], _, _, _, _ => rfl
  | p :: ts, d, e, k, h => by rw [cmul, cmul, h, cmul_extr ts k h]
theorem cmul_zero : ∀ (ts : Terms) (k : Int), cmul ts (fun _ => 0) k = 0
  | [], _ => rfl
  | p :: ts, k => by rw [cmul, cmul_zero ts k]; simp
theorem cmul_add : ∀ (ts : Terms) (d e : Int → Int) (k : Int), cmul ts (fun k => d k + e k) k = cmul ts d k + cmul ts e k
  | [], _, _, _ => rfl
  | p :: ts, d, e, k => by rw [cmul, cmul, cmul, cmul_add ts d e k, Int.mul_add]; omega
theorem cmul_delta (q v : Int) : ∀ (ts : Terms) (k : Int), cmul ts (fun k => if q = k then v else 0) k = v * cof ts (k - q)
  | [], k => by rw [cmul, cof]; simp
  | p :: ts, k => by
    rw [cmul, cof, cmul_delta q v ts k, Int.mul_add]
    by_cases h : q = k - p.1
    · rw [if_pos h, if_pos (by omega), Int.mul_comm]
    · rw [if_neg h, if_neg (by omega)]; simp
theorem cmul_comm (ts : Terms) : ∀ (us : Terms) (k : Int), cmul ts (cof us) k = cmul us (cof ts) k
  | [], k => by
    rw [cmul, show (cof [] : Int → Int) = fun _ => 0 from funext fun k => by rw [cof]]
    exact cmul_zero ts k
  | q :: us, k => by
    rw [cmul, ← cmul_comm ts us k, ← cmul_delta q.1 q.2 ts k, ← cmul_add]
    exact cmul_extr ts k fun j => by rw [cof]
theorem cmul_ext {ts ts' us us' : Terms} (h : ∀ k, cof ts k = cof ts' k) (h' : ∀ k, cof us k = cof us' k) (k : Int) : cmul ts (cof us) k = cmul ts' (cof us') k := by
  rw [cmul_extr ts k h', cmul_comm, cmul_extr us' k h, cmul_comm]
open Classical in
/-- the product of two families of numbers (of finitely many that are not 0) -/
noncomputable def mulF (c d : Int → Int) (k : Int) : Int := if h : ∃ ts : Terms, ∀ k, cof ts k = c k then cmul h.choose d k else 0
theorem mulF_of {c d : Int → Int} {ts us : Terms} (h : ∀ k, cof ts k = c k) (h' : ∀ k, cof us k = d k) (k : Int) : mulF c d k = cmul ts (cof us) k := by
  have hx : ∃ ts : Terms, ∀ k, cof ts k = c k := ⟨ts, h⟩
  rw [mulF, dif_pos hx, ← cmul_extr hx.choose k h']
  exact cmul_ext (fun j => (hx.choose_spec j).trans (h j).symm) (fun _ => rfl) k
theorem mulF_comm {c d : Int → Int} {ts us : Terms} (h : ∀ k, cof ts k = c k) (h' : ∀ k, cof us k = d k) (k : Int) : mulF c d k = mulF d c k := by
  rw [mulF_of h h', mulF_of h' h, cmul_comm]
theorem mulF_ext {c d e f : Int → Int} (h : ∀ k, c k = e k) (h' : ∀ k, d k = f k) (k : Int) : mulF c d k = mulF e f k := by
  rw [show c = e from funext h, show d = f from funext h']
def rowT (p : Int × Int) (us : Terms) : Terms := us.map fun q => (p.1 + q.1, p.2 * q.2)
def prodT : Terms → Terms → Terms
  | [], _ => []
  | p :: ts, us => rowT p us ++ prodT ts us
theorem cof_row (p : Int × Int) : ∀ (us : Terms) (k : Int), cof (rowT p us) k = p.2 * cof us (k - p.1)
  | [], k => by rw [rowT, List.map_nil, cof, cof]; simp
  | q :: us, k => by
    have e : rowT p (q :: us) = (p.1 + q.1, p.2 * q.2) :: rowT p us := rfl
    rw [e, cof, cof, cof_row p us k, Int.mul_add]
    show (if p.1 + q.1 = k then p.2 * q.2 else 0) + _ = _
    by_cases h : q.1 = k - p.1
    · rw [if_pos h, if_pos (by omega)]
    · rw [if_neg h, if_neg (by omega)]; simp
theorem cof_prod : ∀ (ts us : Terms) (k : Int), cof (prodT ts us) k = cmul ts (cof us) k
  | [], _, _ => rfl
  | p :: ts, us, k => by rw [prodT, cof_app, cof_row, cof_prod ts us k, cmul]
theorem prodT_length : ∀ (ts us : Terms), (prodT ts us).length = ts.length * us.length
  | [], us => by rw [prodT]; simp
  | p :: ts, us => by rw [prodT, List.length_append, prodT_length ts us, List.length_cons, Nat.succ_mul, rowT, List.length_map]; omega
theorem prodT_take {p : Int × Int} : ∀ {ts : Terms} (us : Terms) (i : Nat), ts[i]? = some p → prodT (ts.take (i + 1)) us = prodT (ts.take i) us ++ rowT p us
  | [], us, i, h => by simp at h
  | t :: ts, us, 0, h => by
    simp at h; subst h
    simp [prodT]
  | t :: ts, us, i + 1, h => by
    rw [List.take_succ_cons, List.take_succ_cons, prodT, prodT, prodT_take us i (by simpa using h), List.append_assoc]
theorem rowT_take {p q : Int × Int} {us : Terms} {i : Nat} (h : us[i]? = some q) : rowT p (us.take (i + 1)) = rowT p (us.take i) ++ [(p.1 + q.1, p.2 * q.2)] := by
  rw [rowT, rowT, List.take_succ, h, List.map_append]; rfl
theorem cmul_mir (d : Int → Int) : ∀ (ts : Terms) (k : Int), cmul (mirT ts) (fun j => d (-j)) k = cmul ts d (-k)
  | [], _ => rfl
  | p :: ts, k => by
    have e : mirT (p :: ts) = (-p.1, p.2) :: mirT ts := rfl
    rw [e, cmul, cmul, cmul_mir d ts k]
    show p.2 * d (-(k - -p.1)) + _ = _
    rw [show -(k - -p.1) = -k - p.1 by omega]
theorem cmul_shift (n : Int) (d : Int → Int) : ∀ (ts : Terms) (k : Int), cmul (shiftT n ts) d k = cmul ts d (k - n)
  | [], _ => rfl
  | p :: ts, k => by
    have e : shiftT n (p :: ts) = (p.1 + n, p.2) :: shiftT n ts := rfl
    rw [e, cmul, cmul, cmul_shift n d ts k]
    show p.2 * d (k - (p.1 + n)) + _ = _
    rw [show k - (p.1 + n) = k - n - p.1 by omega]
/-! ### how great the numbers are -/
theorem cof_le {M : Nat} : ∀ {ts : Terms} (k : Int), (∀ p ∈ ts, p.2.natAbs ≤ M) → (cof ts k).natAbs ≤ ts.length * M
  | [], _, _ => by rw [cof]; simp
  | p :: ts, k, h => by
    rw [cof, List.length_cons, Nat.succ_mul]
    have h1 := cof_le (ts := ts) k fun q hq => h q (List.mem_cons_of_mem _ hq)
    have h2 := h p List.mem_cons_self
    split <;> omega
theorem cmul_le {A B : Nat} {d : Int → Int} (hd : ∀ k, (d k).natAbs ≤ B) : ∀ {ts : Terms} (k : Int), (∀ p ∈ ts, p.2.natAbs ≤ A) → (cmul ts d k).natAbs ≤ ts.length * (A * B)
  | [], _, _ => by rw [cmul]; simp
  | p :: ts, k, h => by
    rw [cmul, List.length_cons, Nat.succ_mul]
    have h1 := cmul_le hd (ts := ts) k fun q hq => h q (List.mem_cons_of_mem _ hq)
    have h2 := h p List.mem_cons_self
    have h3 : (p.2 * d (k - p.1)).natAbs ≤ A * B := by rw [Int.natAbs_mul]; exact Nat.mul_le_mul h2 (hd _)
    omega
theorem Canon.at : ∀ {ts : Terms} {p : Int × Int}, Canon ts → p ∈ ts → cof ts p.1 = p.2 := by
  intro ts
  induction ts with
  | nil => intro p _ hp; exact absurd hp (by simp)
  | cons q ts ih =>
    intro p hc hp
    rcases List.mem_cons.mp hp with rfl | hp
    · exact hc.head
    · rw [cof, ih hc.tail hp]
      have h1 := (List.pairwise_cons.mp hc.asc).1 p hp
      rw [if_neg (by omega), Int.zero_add]
theorem Canon.tight {ts l : Terms} (h : Canon ts) (e : ∀ k, cof ts k = cof l k) : ts.length ≤ l.length := by
  refine h.le_len fun p hp => ?_
  have h1 := h.at hp
  have h2 := h.nz p hp
  rw [e] at h1
  refine Decidable.byContradiction fun hn => h2 (h1.symm.trans (cof_none fun q hq hk => hn (List.mem_map.mpr ⟨q, hq, hk⟩)))
theorem Canon.num {ts : Terms} {B : Nat} (h : Canon ts) (b : ∀ k, (cof ts k).natAbs ≤ B) : ∀ p ∈ ts, p.2.natAbs ≤ B := fun p hp => by rw [← h.at hp]; exact b _
theorem mulF_le {c d : Int → Int} {A B : Nat} {ts : Terms} (h : Canon ts) (hc : ∀ k, cof ts k = c k) (a : ∀ k, (c k).natAbs ≤ A) (b : ∀ k, (d k).natAbs ≤ B) {us : Terms} (hd : ∀ k, cof us k = d k) (k : Int) : (mulF c d k).natAbs ≤ ts.length * (A * B) := by
  rw [mulF_of hc hd, cmul_extr ts k hd]
  exact cmul_le b k (h.num fun j => by rw [hc]; exact a j)
/-- small enough to be multiplied -/
def Sm (c : Int → Int) : Prop := ∀ k, (c k).natAbs < 2 ^ 100000
def spMul (C : Addr) (f : (Int → Int) → (Int → Int) → Int → Int) : Sp := fun vs H Q _ => ∃ a ts v c n, vs = [.ref a, v] ∧ PolyAt C H a ts ∧ IsVal C H v c n ∧ ts.length * n ≤ 90000 ∧ Sm (cof ts) ∧ Sm c ∧
  ∀ b us H', Same H H' → PolyAt C H' b us → (∀ k, cof us k = f (cof ts) c k) → us.length ≤ ts.length * n → Q (.ref b) H'
def spProduct (C : Addr) : Sp := fun vs H Q _ => ∃ a b ts us, vs = [.ref a, .ref b] ∧ PolyAt C H a ts ∧ PolyAt C H b us ∧ ts.length * us.length ≤ 90000 ∧ Sm (cof ts) ∧ Sm (cof us) ∧
  ∀ p ws H', Same H H' → PolyAt C H' p ws → (∀ k, cof ws k = mulF (cof ts) (cof us) k) → ws.length ≤ ts.length * us.length → Q (.ref p) H'
def spShift (C : Addr) : Sp := fun vs H Q _ => ∃ a ts n, vs = [.ref a, .int n] ∧ PolyAt C H a ts ∧ ts.length ≤ 90000 ∧ ∀ b us H', Same H H' → PolyAt C H' b us → (∀ k, cof us k = cof ts (k - n)) → us.length ≤ ts.length → Q (.ref b) H'
def spPNum : Sp := fun vs H Q _ => ∃ n, vs = [.int n] ∧ Q .non H
end My

set_option Elab.async false
set_option linter.all false
set_option maxRecDepth 100000
set_option maxHeartbeats 4000000

namespace My
open PySem PySem.Spec PyProof.Rows L2
section
variable {P : Program} {w : World} {K : PySem.W.Frag} {mg : Str → Option Value} {base : Heap} {C : Addr}
local macro_rules | `(tactic| walk_at "isi") => `(tactic| (first
  | (with_reducible refine r_is_int_int ?_)
  | (with_reducible refine r_is_int_bool ?_)
  | (with_reducible refine r_is_int_str ?_)
  | (with_reducible refine r_is_int_list ?_)
  | (with_reducible refine r_is_int_tuple ?_)
  | (with_reducible refine r_is_bool_int ?_)
  | (with_reducible refine r_is_bool_bool ?_)
  | (with_reducible refine r_is_bool_str ?_)
  | (with_reducible refine r_is_bool_list ?_)
  | (with_reducible refine r_is_bool_tuple ?_)
  | (with_reducible refine r_is_str_int ?_)
  | (with_reducible refine r_is_str_bool ?_)
  | (with_reducible refine r_is_str_str ?_)
  | (with_reducible refine r_is_str_list ?_)
  | (with_reducible refine r_is_str_tuple ?_)
  | ((with_reducible refine r_is_list_int (xs := ?xx) ?hh ?_); (case hh => walk_at "hp"))
  | ((with_reducible refine r_is_list_bool (xs := ?xx) ?hh ?_); (case hh => walk_at "hp"))
  | ((with_reducible refine r_is_list_str (xs := ?xx) ?hh ?_); (case hh => walk_at "hp"))
  | ((with_reducible refine r_is_list_list (xs := ?xx) ?hh ?_); (case hh => walk_at "hp"))
  | ((with_reducible refine r_is_list_tuple (xs := ?xx) ?hh ?_); (case hh => walk_at "hp"))
  | ((with_reducible refine r_is_tuple_int (xs := ?xx) ?hh ?_); (case hh => walk_at "hp"))
  | ((with_reducible refine r_is_tuple_bool (xs := ?xx) ?hh ?_); (case hh => walk_at "hp"))
  | ((with_reducible refine r_is_tuple_str (xs := ?xx) ?hh ?_); (case hh => walk_at "hp"))
  | ((with_reducible refine r_is_tuple_list (xs := ?xx) ?hh ?_); (case hh => walk_at "hp"))
  | ((with_reducible refine r_is_tuple_tuple (xs := ?xx) ?hh ?_); (case hh => walk_at "hp"))
  | (with_reducible refine r_is_NoneType_int ?_)
  | (with_reducible refine r_is_NoneType_bool ?_)
  | (with_reducible refine r_is_NoneType_str ?_)
  | (with_reducible refine r_is_NoneType_list ?_)
  | (with_reducible refine r_is_NoneType_tuple ?_)))
local macro_rules | `(tactic| walk_at "ne") => `(tactic| first | assumption | (refine Ne.symm ?_; assumption) | exact Bag.ne (by assumption) (by assumption) | exact ne_of_none (by assumption) (by assumption))
local macro_rules | `(tactic| walk_at "hp") => `(tactic| (first
  | assumption
  | exact upd_same
  | (refine h_keep ?_ (by assumption); walk_at "hp")
  | (refine (upd_ne (by walk_at "ne")).trans ?_; walk_at "hp")
  | (refine Same.at (by assumption) ?_; walk_at "hp")
  | (refine But.at (by assumption) (by walk_at "ne") ?_; walk_at "hp")
  | (refine But2.at (by assumption) (by walk_at "ne") (by walk_at "ne") ?_; walk_at "hp")))
local macro_rules | `(tactic| walk_at "side") => `(tactic| first | assumption | omega | (refine ⟨?_, ?_⟩ <;> first | assumption | omega | decide) | decide | (refine ⟨by decide, by decide, by decide⟩) | (left; refine ⟨?_, ?_⟩ <;> first | omega | decide) | (right; refine ⟨?_, ?_⟩ <;> first | omega | decide) | (simp; done))
local macro_rules | `(tactic| walk_at "cond") => `(tactic| first | assumption | exact rfl | omega | (simp only [List.length_cons, List.length_nil]; omega) | decide +kernel)
local macro_rules | `(tactic| walk_at "s") => `(tactic| (first
  | ((with_reducible refine r_var (v := ?vv) ?ee ?_); (case ee => exact rfl))
  | (with_reducible refine r_c ?_)
  | (with_reducible refine r_op ?_)
  | (with_reducible refine r_un ?_)
  | (with_reducible refine r_rI0 ?_)
  | ((with_reducible refine r_rI ?cc ?_); (case cc => walk_at "side"))
  | (with_reducible refine r_rU ?_)
  | (with_reducible refine r_eqI ?_)
  | (with_reducible refine r_neI ?_)
  | (with_reducible refine r_eqB ?_)
  | (with_reducible refine r_neB ?_)
  | (with_reducible refine r_eqS ?_)
  | (with_reducible refine r_neS ?_)
  | ((with_reducible refine r_eq ?ee ?_); (case ee => exact rfl))
  | ((with_reducible refine r_ne ?ee ?_); (case ee => exact rfl))
  | ((with_reducible refine r_ixL (v := ?vv) (xs := ?xx) ?hh ?ee ?_); (case hh => (refine SqL.of ?_; walk_at "hp")); (case ee => exact rfl))
  | (with_reducible refine r_cb ?_)
  | (with_reducible refine r_call ?_)
  | (with_reducible refine r_cons ?_)
  | (with_reducible refine r_nil ?_)
  | (with_reducible refine r_lst ?_)
  | (with_reducible refine r_tup ?_)
  | ((with_reducible refine r_new ?cc ?_); (case cc => walk_at "side"))
  | (with_reducible refine r_exbl ?_)
  | (with_reducible refine r_exint ?_)
  | (with_reducible refine r_exint2 ?_)
  | (with_reducible refine r_exblL ?_)
  | (with_reducible refine r_ex2 ?_)
  | (with_reducible refine r_test ?_)
  | (with_reducible refine r_tB ?_)
  | (with_reducible refine r_not ?_)
  | (with_reducible refine r_and ?_)
  | (with_reducible refine r_or ?_)
  | (with_reducible refine r_andV ?_)
  | (with_reducible refine r_orV ?_)
  | (with_reducible refine r_notV ?_)
  | (with_reducible refine r_tif ?_)
  | (with_reducible refine r_iteT ?_)
  | (with_reducible refine r_iteNT ?_)
  | (with_reducible refine r_iteNF ?_)
  | (with_reducible refine r_iteF ?_)
  | (with_reducible refine r_seq ?_)
  | (with_reducible refine r_next ?_)
  | (with_reducible refine r_brk ?_)
  | (with_reducible refine r_cont ?_)
  | (with_reducible refine r_asg ?_)
  | (with_reducible refine r_gname ?_)
  | (with_reducible refine r_ret ?_)
  | (with_reducible refine r_retN ?_)
  | (with_reducible refine r_drop ?_)
  | (with_reducible refine r_if ?_)
  | ((with_reducible refine r_aug (x := ?xx) ?ee ?_); (case ee => exact rfl))
  | (with_reducible refine r_ipI ?_)
  | (with_reducible refine r_augS ?_)
  | (with_reducible refine r_gsub ?_)
  | ((with_reducible refine r_setL (xs := ?xx) (m := ?mm) ?hh ?ee ?_); (case hh => walk_at "hp"); (case ee => exact rfl))
  | (with_reducible refine r_par ?_)
  | (with_reducible refine r_bm ?_)
  | ((with_reducible refine r_tyL (xs := ?xx) ?hh ?_); (case hh => walk_at "hp"))
  | ((with_reducible refine r_append (xs := ?xx) ?hh ?ll ?_); (case hh => walk_at "hp"); (case ll => walk_at "side"))
  | (walk_at "isi")
  | (with_reducible refine r_for ?_)
  | (with_reducible refine r_iList ?_)
  | (with_reducible refine r_iTup ?_)
  | (with_reducible refine r_iR1 ?_)
  | (with_reducible refine r_iR2 ?_)
  | (with_reducible refine r_lc ?_)
  | (with_reducible refine r_yes ?_)
  | ((with_reducible refine r_lenS ?ll ?_); (case ll => walk_at "side"))
  | (with_reducible refine r_leS ?_)
  | (with_reducible refine r_chain ?_)
  | (with_reducible refine r_tM1 ?_)
  | (with_reducible refine r_exS ?_)
  | ((with_reducible refine r_tupL (xs := ?xx) ?hh ?_); (case hh => walk_at "hp"))
  | ((with_reducible refine r_listL (xs := ?xx) ?hh ?_); (case hh => walk_at "hp"))
  | ((with_reducible refine r_listT (xs := ?xx) ?hh ?_); (case hh => walk_at "hp"))
  | ((with_reducible refine r_ixT (v := ?vv) (xs := ?xx) ?hh ?ee ?_); (case hh => (refine SqT.of ?_; walk_at "hp")); (case ee => exact rfl))
  | (with_reducible refine r_sl ?_)
  | (with_reducible refine r_nopart ?_)
  | (with_reducible refine r_part ?_)
  | (with_reducible refine r_exI ?_)
  | ((with_reducible refine r_slL (xs := ?xx) ?hh ?_); (case hh => first | assumption | (refine SqL.of ?_; walk_at "hp") | (refine Same.seq (by assumption) (by assumption))))
  | ((with_reducible refine r_cat (xs := ?xx) (zs := ?zz) ?hh ?ii ?ll ?_); (case hh => walk_at "hp"); (case ii => walk_at "hp"); (case ll => walk_at "side"))
  | ((with_reducible refine r_lenL (xs := ?xx) ?hh ?_); (case hh => walk_at "hp"))
  | ((with_reducible refine r_lenT (xs := ?xx) ?hh ?_); (case hh => walk_at "hp"))
  | ((with_reducible refine r_gTup (xs := ?xx) ?hh ?ll ?_); (case hh => walk_at "hp"); (case ll => exact rfl))
  | (with_reducible refine r_gCons ?_)
  | (with_reducible refine r_gNil ?_)
  | ((with_reducible refine r_iteDT ?cc ?_); (case cc => walk_at "cond"))
  | ((with_reducible refine r_iteDF ?cc ?_); (case cc => walk_at "cond"))
  | ((with_reducible refine r_iteNDT ?cc ?_); (case cc => walk_at "cond"))
  | ((with_reducible refine r_iteNDF ?cc ?_); (case cc => walk_at "cond"))
  ))
local macro_rules | `(tactic| walk_at "go") => `(tactic| repeat (walk_at "s"))

local macro_rules | `(tactic| walk_at "s") => `(tactic| (first
  | (with_reducible refine r_dnew ?_)
  | (with_reducible refine r_dget2 ?_)
  | (with_reducible refine r_dget ?_)
  | (with_reducible refine r_dput ?_)
  | (with_reducible refine r_dsetd ?_)
  | ((with_reducible refine JarAt.isD (n := ?nn) (c := ?cc) ?hh ?_); (case hh => assumption))
  ))

local macro_rules | `(tactic| walk_at "s") => `(tactic| (first
  | (with_reducible refine r_prop ?_)
  | (with_reducible refine r_meth ?_)
  | (with_reducible refine r_make ?_)
  | (with_reducible refine r_fld ?_)
  | (with_reducible refine r_sfld ?_)
  | (with_reducible refine r_iOwn ?_)
  | ((with_reducible refine u_rowsAt (mg := ?mm) (C := ?CC) (dx := ?dd) (fv := ?vv) ?tt ?hh ?_); (case tt => assumption); (case hh => walk_at "hp"))
  | ((with_reducible refine r_isPoly (mg := ?mm) (dx := ?dd) (fs := ?ff) ?tt ?hh ?_); (case tt => assumption); (case hh => walk_at "hp"))
  | ((with_reducible refine r_isPolyI (mg := ?mm) ?tt ?_); (case tt => assumption))
  | ((with_reducible refine r_polyInt (mg := ?mm) (C := ?CC) (dx := ?dd) (fs := ?ff) ?tt ?hh ?_); (case tt => assumption); (case hh => walk_at "hp"))
  ))

local macro_rules | `(tactic| walk_at "s") => `(tactic| (with_reducible refine r_lc2 ?_))
theorem ok_check_number {f : Addr} {fd : FuncData} (F : Fun K "check_number" "check_number" s_check_number f fd) (B : Bl mg) (h_is_integer : Has P w K mg base "is_integer" 1 ["value"] spIsInt) : FnOk P w K mg base CX0 2 f fd ["value"] spPNum := by
  refine F.ok sc_check_number (fun vs H Q E h => ?_) (fun cdv A outer s H vs Q E hr h => ?_)
  · obtain ⟨n, rfl, _⟩ := h
    rfl
  · obtain ⟨n, rfl, k⟩ := h
    refine ⟨_, (pss_one (ps_if (pt_not (pt_val (pe_callH h_is_integer (hr.mono (by first | decide | omega)) (pa_cons (pv 0) pa_nil))))
    (pss_one ps_never)
    pss_nil)), ?_⟩
    walk_at "go"
    refine ⟨n, rfl, ?_⟩
    walk_at "go"
    exact k
theorem ok_product {f : Addr} {fd : FuncData} (F : Fun K "product" "product" s_product f fd) (B : Bl mg) (G_Poly : PolyT K mg C) (hc_Poly : HasC P w K mg base "Poly" C 3 ["self", "terms"] (spInit C)) : FnOk P w K mg base CX0 5 f fd ["one", "two"] (spProduct C) := by
  refine F.ok sc_product (fun vs H Q E h => ?_) (fun cdv A outer s H vs Q E hr h => ?_)
  · obtain ⟨a, b, ts, us, rfl, _⟩ := h
    rfl
  · obtain ⟨a, b, ts, us, rfl, ⟨dx, r, vs, g1, hr', ht, hc⟩, ⟨dy, r2, vs2, g2, hr2, hu, hc2⟩, hn, sm1, sm2, k⟩ := h
    refine ⟨_, (pss_one (ps_ret (pe_makeH hc_Poly (hr.mono (by first | decide | omega)) (pa_cons (pe_lc2 (g1 := (gTup K 2 (gCons (gName 4) (gCons (gName 5) gNil)))) (g := (gTup K 2 (gCons (gName 2) (gCons (gName 3) gNil)))) (own := [("power", 2), ("number", 3), ("other", 4), ("factor", 5)]) (vs1 := [4, 5]) rfl sc_product.nd (pi_tup (pe_fldK (K := K) (pv 0))) (blkOk_by (N := ["one", "two", "power", "number", "other", "factor"]) (sc := defScope s_product) (by decide +kernel)) (by decide) (fun _ _ _ _ _ => (pg_tupK (K := K) rfl (pgs_cons (pg_name (i := 2) sc_product.nd rfl (.inl rfl)) (pgs_cons (pg_name (i := 3) sc_product.nd rfl (.inl rfl)) pgs_nil)))) (fun _ _ _ _ _ => pts_nil) (fun _ _ _ _ _ => (pi_tupK (K := K) (pe_fldK (K := K) (pv 1)))) (fun _ _ _ _ _ => (pg_tupK (K := K) rfl (pgs_cons (pg_name (i := 4) sc_product.nd rfl (.inl rfl)) (pgs_cons (pg_name (i := 5) sc_product.nd rfl (.inl rfl)) pgs_nil)))) (fun _ _ _ _ _ => pts_nil) (fun _ _ _ _ _ => (pe_tup (pa_cons (pe_op op_add (pv 2) (pv 4)) (pa_cons (pe_op op_mulW (pv 3) (pv 5)) pa_nil))))) pa_nil)))), ?_⟩
    have hvl := ht.length
    have hvl2 := hu.length
    walk_at "go"
    refine u_lcO (.of hr') (fun D i acc H2 => (TermsL H2 acc (prodT (ts.take i) us) ∧ i ≤ vs.length) ∧ Same H H2) ?_ ?_ ?_ ?_
    · exact fun D hD => ⟨⟨rfl, Nat.zero_le _⟩, Same.new0 hD⟩
    · exact fun D i acc H2 _ _ ⟨_, s1⟩ => .of (s1 _ _ hr')
    · rintro D i x acc H2 hD hx hacc ⟨⟨ht2, hi0⟩, s1⟩
      obtain ⟨e, p, rfl, hp, hb⟩ := ht.at i hx
      have hi2 := (List.getElem?_eq_some_iff.mp hx).1
      have hb2 := s1 _ _ hb
      have hg2 := s1 _ _ g2
      have hr22 := s1 _ _ hr2
      walk_at "go"
      refine ⟨rfl, ?_⟩
      walk_at "go"
      have al : acc.length = i * us.length := by
        rw [ht2.length, prodT_length, List.length_take, Nat.min_eq_left (by omega)]
      have hmul : i * us.length + us.length ≤ 90000 := by
        have : (i + 1) * us.length ≤ ts.length * us.length := Nat.mul_le_mul_right _ (by omega)
        rw [Nat.succ_mul] at this
        omega
      refine u_lcI (acc0 := acc) (.of hr22) (fun D j acc' H3 => (TermsL H3 acc' (prodT (ts.take i) us ++ rowT p (us.take j)) ∧ j ≤ vs2.length) ∧ Same H H3) hacc ⟨⟨by simpa [rowT] using ht2, Nat.zero_le _⟩, s1⟩ ?_ ?_ ?_
      · exact fun j acc' H3 _ ⟨_, s3⟩ => .of (s3 _ _ hr2)
      · rintro j y acc' H3 hy hacc' ⟨⟨ht3, hj0⟩, s3⟩
        obtain ⟨e', q, rfl, hq, hb'⟩ := hu.at j hy
        have hj2 := (List.getElem?_eq_some_iff.mp hy).1
        have hb3 := s3 _ _ hb'
        have al' : acc'.length < 90000 := by
          rw [ht3.length, List.length_append, prodT_length, rowT, List.length_map, List.length_take, List.length_take, Nat.min_eq_left (by omega : i ≤ ts.length), Nat.min_eq_left (by omega : j ≤ us.length)]
          omega
        have mm : CMulW p.2 q.2 := mulW_of (by rw [← hc.at (List.mem_of_getElem? hp)]; exact sm1 _) (by rw [← hc2.at (List.mem_of_getElem? hq)]; exact sm2 _)
        walk_at "go"
        refine ⟨rfl, ?_⟩
        walk_at "go"
        intro t nt
        refine u_push (h_keep hacc' nt) (by omega) ⟨⟨?_, hj2⟩, Same.put (Same.new s3 nt) hD⟩
        have t1 : Tk H3 (upd (upd H3 t (.tup [.int (p.1 + q.1), .int (p.2 * q.2)])) D (.lst (acc' ++ [.ref t]))) := ((Tk.refl _).new nt).lst (h_keep hacc' nt)
        rw [rowT_take hq, ← List.append_assoc]
        exact (ht3.tk t1).app (.one ((upd_ne (ne_of_none hacc' nt).symm).trans upd_same))
      · rintro acc' H3 hacc' ⟨⟨ht3, hj0⟩, s3⟩
        rw [List.take_of_length_le (l := us) (i := vs2.length) (by omega), ← prodT_take us i hp] at ht3
        exact ⟨acc', hacc', ⟨ht3, hi2⟩, s3⟩
    · rintro D acc H2 hD hacc ⟨⟨ht2, hi0⟩, s1⟩
      rw [List.take_of_length_le (by omega)] at ht2
      walk_at "go"
      refine u_poly (l := D) (ts := prodT ts us) ⟨acc, hacc, ht2⟩ (by rw [prodT_length]; exact hn) fun b us' H3 nb s3 hb hcu hl => ?_
      exact k b us' H3 (s1.trans s3) hb (fun j => (hcu j).trans ((cof_prod ts us j).trans (mulF_of (fun _ => rfl) (fun _ => rfl) j).symm)) (by rw [prodT_length] at hl; exact hl)
theorem ok_Poly_mul {f : Addr} {fd : FuncData} (F : Fun K "__mul__" "Poly.__mul__" s_Poly___mul__ f fd) (h_as_poly : Has P w K mg base "as_poly" 5 ["value"] (spAsPoly C)) (h_product : Has P w K mg base "product" 5 ["one", "two"] (spProduct C)) : FnOk P w K mg base CX0 6 f fd ["self", "other"] (spMul C mulF) := by
  refine F.ok sc_Poly___mul__ (fun vs H Q E h => ?_) (fun cdv A outer s H vs Q E hr h => ?_)
  · obtain ⟨a, ts, v, c, n, rfl, _⟩ := h
    rfl
  · obtain ⟨a, ts, v, c, n, rfl, ha, hv, hn, sm1, sm2, k⟩ := h
    refine ⟨_, (pss_one (ps_ret (pe_callH h_product (hr.mono (by first | decide | omega)) (pa_cons (pv 0) (pa_cons (pe_callH h_as_poly (hr.mono (by first | decide | omega)) (pa_cons (pv 1) pa_nil)) pa_nil))))), ?_⟩
    walk_at "go"
    refine ⟨v, c, n, rfl, hv, fun b us H1 s1 hb hcb hlb => ?_⟩
    walk_at "go"
    have hlm : ts.length * us.length ≤ ts.length * n := Nat.mul_le_mul_left _ hlb
    refine ⟨a, b, ts, us, rfl, ha.same s1, hb, by omega, sm1, fun j => by rw [hcb]; exact sm2 j, fun p ws H2 s2 hp hcp hlp => ?_⟩
    walk_at "go"
    exact k p ws H2 (s1.trans s2) hp (fun j => (hcp j).trans (mulF_ext (fun _ => rfl) hcb j)) (by omega)
theorem ok_Poly_lshift {f : Addr} {fd : FuncData} (F : Fun K "__lshift__" "Poly.__lshift__" s_Poly___lshift__ f fd) (B : Bl mg) (G_Poly : PolyT K mg C) (hc_Poly : HasC P w K mg base "Poly" C 3 ["self", "terms"] (spInit C)) (h_check_number : Has P w K mg base "check_number" 2 ["value"] spPNum) : FnOk P w K mg base CX0 5 f fd ["self", "number"] (spShift C) := by
  refine F.ok sc_Poly___lshift__ (fun vs H Q E h => ?_) (fun cdv A outer s H vs Q E hr h => ?_)
  · obtain ⟨a, ts, n, rfl, _⟩ := h
    rfl
  · obtain ⟨a, ts, n, rfl, ⟨dx, r, vs, g1, hr', ht, hc⟩, hn, k⟩ := h
    refine ⟨_, (pss_cons (ps_expr (pe_callH h_check_number (hr.mono (by first | decide | omega)) (pa_cons (pv 1) pa_nil)))
    (pss_one (ps_ret (pe_makeH hc_Poly (hr.mono (by first | decide | omega)) (pa_cons (pe_lc (g := (gTup K 2 (gCons (gName 2) (gCons (gName 3) gNil)))) (own := [("power", 2), ("factor", 3)]) rfl sc_Poly___lshift__.nd (pi_tup (pe_fldK (K := K) (pv 0))) (blkOk_by (N := ["self", "number", "power", "factor"]) (sc := defScope s_Poly___lshift__) (by decide +kernel)) (fun _ _ _ _ _ => (pg_tupK (K := K) rfl (pgs_cons (pg_name (i := 2) sc_Poly___lshift__.nd rfl (.inl rfl)) (pgs_cons (pg_name (i := 3) sc_Poly___lshift__.nd rfl (.inl rfl)) pgs_nil)))) (fun _ _ _ _ _ => pts_nil) (fun _ _ _ _ _ => (pe_tup (pa_cons (pe_op op_add (pv 2) (pv 1)) (pa_cons (pv 3) pa_nil))))) pa_nil))))), ?_⟩
    have hvl := ht.length
    walk_at "go"
    refine ⟨n, rfl, ?_⟩
    walk_at "go"
    refine u_lcT (.of hr') (fun D i acc H2 => (TermsL H2 acc (shiftT n (ts.take i)) ∧ i ≤ vs.length) ∧ Same H H2) ?_ ?_ ?_ ?_
    · exact fun D hD => ⟨⟨rfl, Nat.zero_le _⟩, Same.new0 hD⟩
    · exact fun D i acc H2 _ _ ⟨_, s1⟩ => .of (s1 _ _ hr')
    · rintro D i x acc H2 hD hx hacc ⟨⟨ht2, hi0⟩, s1⟩
      obtain ⟨b, p, rfl, hp, hb⟩ := ht.at i hx
      have hi2 := (List.getElem?_eq_some_iff.mp hx).1
      have hb2 := s1 _ _ hb
      have et : ts.take (i + 1) = ts.take i ++ [p] := by rw [List.take_succ, hp]; rfl
      have al : acc.length ≤ i := by
        rw [ht2.length, shiftT, List.length_map, List.length_take]; omega
      walk_at "go"
      refine ⟨rfl, ?_⟩
      walk_at "go"
      intro t nt
      refine u_push (h_keep hacc nt) (by omega) ⟨⟨?_, hi2⟩, Same.put (Same.new s1 nt) hD⟩
      have t1 : Tk H2 (upd (upd H2 t (.tup [.int (p.1 + n), .int p.2])) D (.lst (acc ++ [.ref t]))) := ((Tk.refl _).new nt).lst (h_keep hacc nt)
      rw [et, shiftT, List.map_append]
      exact (ht2.tk t1).app (.one ((upd_ne (ne_of_none hacc nt).symm).trans upd_same))
    · rintro D acc H2 hD hacc ⟨⟨ht2, hi0⟩, s1⟩
      rw [List.take_of_length_le (by omega)] at ht2
      walk_at "go"
      refine u_poly (l := D) (ts := shiftT n ts) ⟨acc, hacc, ht2⟩ (by rw [shiftT, List.length_map]; exact hn) fun b us H3 nb s3 hb hcu hl => ?_
      exact k b us H3 (s1.trans s3) hb (fun j => (hcu j).trans (cof_shift n ts j)) (by rw [shiftT, List.length_map] at hl; exact hl)
end
end My

set_option Elab.async false
set_option linter.all false
set_option maxRecDepth 100000
namespace My
open PySem PySem.Spec PyProof.Rows L2
section
variable {σ : L2.St} {H : Hp} {g : TG} {tt : TT} {te : TE} {vs : List Nat}
/-- [elt for k in d], d a dict of int keys under lock -/
theorem u_lcK {d : Addr} {od : Obj} {kvs : List (Key × V)} {ks : List Int} {Qd : Addr → Hp → Prop} (h : H d = some (.frz od (.dK kvs))) (hk : kvs.map (·.1) = ks.map Sum.inl) (I : Addr → Nat → List V → Hp → Prop) (h0 : ∀ D, H D = none → I D 0 [] (upd H D (.lst [])))
    (hl : ∀ D i acc H', H D = none → H' D = some (.lst acc) → I D i acc H' → H' d = some (.frz od (.dK kvs)))
    (hs : ∀ D i q acc H', H D = none → ks[i]? = some q → H' D = some (.lst acc) → I D i acc H' → g (.int q) (wipe σ vs) H' fun σ2 H2 => wipe σ2 vs = wipe σ vs ∧ tt σ2 H2 fun b H3 => if b = true then te σ2 H3 fun y H4 => LcPush D I i H4 y else LcSkip D I i H3)
    (hd : ∀ D acc H', H D = none → H' D = some (.lst acc) → I D ks.length acc H' → Qd D H') :
    ∃ d' o, V.ref d = .ref d' ∧ ((∃ kvs, H d' = some (.frz o (.dK kvs)) ∧ ∀ D, H D = none → ∃ W : Nat → Nat → Hp → Prop, (∃ m, W 0 m (upd H D (.lst []))) ∧ ∀ i m H, W i m H →
      ((Itk d' o kvs).stop i H ∧ Qd D H) ∨ ((Itk d' o kvs).go i H ∧ ∃ Nx : Hp → Prop, (∀ H', Nx H' → ∃ m', m' < m ∧ W (i + 1) m' H') ∧ ∀ x H', (Itk d' o kvs).yld i H x H' → g x (wipe σ vs) H' fun σ2 H2 => wipe σ2 vs = wipe σ vs ∧ tt σ2 H2 fun b H3 =>
        if b = true then te σ2 H3 fun y H4 => ∃ acc, H4 D = some (.lst acc) ∧ acc.length < sizeLine ∧ Nx (upd H4 D (.lst (acc ++ [y]))) else Nx H3)) ∨ ∃ kvs, H d' = some (.frz o (.dT kvs)) ∧ ∀ D, H D = none → ∃ W : Nat → Nat → Hp → Prop, (∃ m, W 0 m (upd H D (.lst []))) ∧ ∀ i m H, W i m H →
      ((Itkt d' o kvs).stop i H ∧ Qd D H) ∨ ((Itkt d' o kvs).go i H ∧ ∃ Nx : Hp → Prop, (∀ H', Nx H' → ∃ m', m' < m ∧ W (i + 1) m' H') ∧ ∀ x H', (Itkt d' o kvs).yld i H x H' → g x (wipe σ vs) H' fun σ2 H2 => wipe σ2 vs = wipe σ vs ∧ tt σ2 H2 fun b H3 =>
        if b = true then te σ2 H3 fun y H4 => ∃ acc, H4 D = some (.lst acc) ∧ acc.length < sizeLine ∧ Nx (upd H4 D (.lst (acc ++ [y]))) else Nx H3)) := by
  refine ⟨d, od, rfl, .inl ⟨kvs, h, fun D hD => ?_⟩⟩
  have hlen : kvs.length = ks.length := by
    have := congrArg List.length hk
    simpa using this
  refine ⟨fun i m H' => m = kvs.length - i ∧ i ≤ kvs.length ∧ ∃ acc, H' D = some (.lst acc) ∧ I D i acc H', ⟨kvs.length, by simp, Nat.zero_le _, [], upd_same, h0 D hD⟩, ?_⟩
  rintro i m H' ⟨rfl, hi, acc, ha, ir⟩
  by_cases hlt : i < kvs.length
  · refine .inr ⟨⟨hl _ _ _ _ hD ha ir, hlt⟩, fun H' => ∃ acc, H' D = some (.lst acc) ∧ I D (i + 1) acc H', fun H2 q => ⟨_, by omega, rfl, hlt, q⟩, fun x H2 hy => ?_⟩
    obtain ⟨rfl, k, v, e, rfl⟩ := hy
    have hks : ks[i]? = some (ks[i]'(by omega)) := List.getElem?_eq_getElem (by omega)
    generalize ks[i]'(by omega) = q at hks
    have ekk : k = .inl q := by
      have h1 : (kvs.map (·.1))[i]? = some k := by rw [List.getElem?_map, e]; rfl
      rw [hk, List.getElem?_map, hks] at h1
      exact (Option.some.inj h1).symm
    subst ekk
    exact hs D i q acc _ hD hks ha ir
  · have e : i = ks.length := by omega
    subst e
    exact .inl ⟨⟨hl _ _ _ _ hD ha ir, by omega⟩, hd D acc _ hD ha ir⟩
end
/-- a jar by its keys -/
theorem JarAt.list {H : Hp} {a : Addr} {n : Nat} {c : Int → Int} (h : JarAt H a n c) : ∃ (kvs : List (Key × V)) (ks : List Int), H a = some (.dK kvs) ∧ JarK kvs ∧ kvs.map (·.1) = ks.map Sum.inl ∧ ks.length ≤ n ∧ (∀ k, cfK kvs k = c k) ∧ ∀ k, cof (ks.map fun q => (q, c q)) k = c k := by
  obtain ⟨kvs, e, hk, hl, hc⟩ := h
  obtain ⟨ks, ek, nd, kz, kl⟩ := hk.keys
  refine ⟨kvs, ks, e, hk, ek, by omega, hc, fun k => ?_⟩
  have key : ∀ (ls : List Int), ls.Nodup → ∀ k, cof (ls.map fun q => (q, c q)) k = if k ∈ ls then c k else 0 := by
    intro ls
    induction ls with
    | nil => intro _ k; rfl
    | cons l ls ih =>
      intro nd k
      have nd' := List.nodup_cons.mp nd
      rw [List.map_cons, cof, ih nd'.2 k]
      by_cases e : l = k
      · subst e; rw [if_pos rfl, if_neg nd'.1, if_pos (by simp)]; omega
      · rw [if_neg e]
        by_cases m : k ∈ ls
        · rw [if_pos m, if_pos (by simp [m])]; omega
        · rw [if_neg m, if_neg (by simp only [List.mem_cons, m, or_false]; exact fun z => e z.symm)]; rfl
  rw [key ks nd k]
  by_cases m : k ∈ ks
  · rw [if_pos m]
  · rw [if_neg m, ← hc]; exact (kz k m).symm
/-- a Poly of a jar's numbers has no more terms than the jar -/
theorem Canon.jar {H : Hp} {a : Addr} {n : Nat} {c : Int → Int} {ts : Terms} (h : JarAt H a n c) (hc : Canon ts) (e : ∀ k, cof ts k = c k) : ts.length ≤ n := by
  obtain ⟨kvs, ks, _, _, _, hl, _, hf⟩ := h.list
  exact Nat.le_trans (hc.tight fun k => (e k).trans (hf k).symm) (by rw [List.length_map]; exact hl)
end My

set_option Elab.async false
set_option linter.all false
set_option maxRecDepth 100000
namespace My
open PySem PySem.Spec PyProof.Rows L2
section
variable {C : Addr} {H : Hp} {Q : VK} {E : XK} {a b : Addr} {ts us : Terms} {σ : L2.St} {m : Str}
theorem rows_none {α : Type} {v : α} {m : Str} (h : (m == ("rows" : Str)) = false) : List.lookup m [(("rows" : Str), v)] = none := by rw [List.lookup, h]; rfl
theorem u_own1 {f : Terms → Int → Int} (h : PolyAt C H a ts) (hn : ts.length ≤ 90000) (q : ∀ b us H', Same H H' → PolyAt C H' b us → (∀ k, cof us k = f ts k) → us.length ≤ ts.length → Q (.ref b) H') : rOwn1 C (spPoly1 C f) (.ref a) H Q := by
  obtain ⟨dx, r, vs, g1, _⟩ := id h
  exact ⟨a, dx, _, rfl, g1, a, ts, rfl, h, hn, q⟩
/-- o.m() -/
theorem u_meth0 {sp : Sp} (h : PolyAt C H a ts) (hm : (m == ("rows" : Str)) = false) (q : sp [.ref a] H Q E) : ∃ a' dx fs, V.ref a = .ref a' ∧ H a' = some (.ins C dx fs) ∧ fs.lookup m = none ∧ tNil σ H fun vs H2 => sp (.ref a :: vs) H2 Q E := by
  obtain ⟨dx, r, vs, g1, _⟩ := id h
  exact ⟨a, dx, _, rfl, g1, rows_none hm, q⟩
theorem u_poly1 {f : Terms → Int → Int} (h : PolyAt C H a ts) (hn : ts.length ≤ 90000) (q : ∀ b us H', Same H H' → PolyAt C H' b us → (∀ k, cof us k = f ts k) → us.length ≤ ts.length → Q (.ref b) H') : spPoly1 C f [.ref a] H Q E := ⟨a, ts, rfl, h, hn, q⟩
/-- one * two -/
theorem u_mul2 (ha : PolyAt C H a ts) (hb : PolyAt C H b us) (hn : ts.length * us.length ≤ 90000) (s1 : Sm (cof ts)) (s2 : Sm (cof us))
    (q : ∀ p ws H', Same H H' → PolyAt C H' p ws → (∀ k, cof ws k = mulF (cof ts) (cof us) k) → ws.length ≤ ts.length * us.length → Q (.ref p) H') : rOwn2 C (spMul C mulF) (.ref a) (.ref b) H Q := by
  obtain ⟨dx, r, vs, g1, _⟩ := id ha
  obtain ⟨dy, r', vs', g2, _⟩ := id hb
  exact ⟨a, dx, _, b, dy, _, rfl, rfl, g1, g2, a, ts, .ref b, cof us, us.length, rfl, ha, .inl ⟨b, us, rfl, hb, fun _ => rfl, Nat.le_refl _⟩, hn, s1, s2, q⟩
theorem sm_one {i : Int} (h : i.natAbs < 2 ^ 100000) : Sm (one0 i) := fun k => by
  unfold one0; split
  · exact h
  · exact Nat.lt_of_le_of_lt (Nat.zero_le _) h
/-- one * i -/
theorem u_mulI {i : Int} (ha : PolyAt C H a ts) (hn : ts.length ≤ 90000) (s1 : Sm (cof ts)) (s2 : i.natAbs < 2 ^ 100000)
    (q : ∀ p ws H', Same H H' → PolyAt C H' p ws → (∀ k, cof ws k = mulF (cof ts) (one0 i) k) → ws.length ≤ ts.length → Q (.ref p) H') : rOwnI C (spMul C mulF) (.ref a) (.int i) H Q := by
  obtain ⟨dx, r, vs, g1, _⟩ := id ha
  exact ⟨a, dx, _, i, rfl, rfl, g1, a, ts, .int i, one0 i, 1, rfl, ha, .inr ⟨i, rfl, fun _ => rfl, Nat.le_refl _⟩, by omega, s1, sm_one s2, fun p ws H' s hp e l => q p ws H' s hp e (by omega)⟩
/-- i * one -/
theorem u_mulR {i : Int} (ha : PolyAt C H a ts) (hn : ts.length ≤ 90000) (s1 : Sm (cof ts)) (s2 : i.natAbs < 2 ^ 100000)
    (q : ∀ p ws H', Same H H' → PolyAt C H' p ws → (∀ k, cof ws k = mulF (cof ts) (one0 i) k) → ws.length ≤ ts.length → Q (.ref p) H') : rOwnR C (spMul C mulF) (.int i) (.ref a) H Q := by
  obtain ⟨dx, r, vs, g1, _⟩ := id ha
  exact ⟨a, dx, _, i, rfl, rfl, g1, a, ts, .int i, one0 i, 1, rfl, ha, .inr ⟨i, rfl, fun _ => rfl, Nat.le_refl _⟩, by omega, s1, sm_one s2, fun p ws H' s hp e l => q p ws H' s hp e (by omega)⟩
/-- one << n -/
theorem u_shl {n : Int} (ha : PolyAt C H a ts) (hn : ts.length ≤ 90000)
    (q : ∀ p ws H', Same H H' → PolyAt C H' p ws → (∀ k, cof ws k = cof ts (k - n)) → ws.length ≤ ts.length → Q (.ref p) H') : rOwnI C (spShift C) (.ref a) (.int n) H Q := by
  obtain ⟨dx, r, vs, g1, _⟩ := id ha
  exact ⟨a, dx, _, n, rfl, rfl, g1, a, ts, n, rfl, ha, hn, q⟩
/-- the numbers of a list are small -/
theorem sm_list {M : Nat} (h : ∀ p ∈ ts, p.2.natAbs ≤ M) (hm : ts.length * M < 2 ^ 100000) : Sm (cof ts) := fun k => Nat.lt_of_le_of_lt (cof_le k h) hm
theorem mulF_mir {c d : Int → Int} (hc : ∀ k, cof ts k = c k) (hd : ∀ k, cof us k = d k) (k : Int) : mulF (fun j => c (-j)) (fun j => d (-j)) k = mulF c d (-k) := by
  rw [mulF_of (ts := mirT ts) (us := mirT us) (fun j => (cof_mir ts j).trans (hc _)) (fun j => (cof_mir us j).trans (hd _)), mulF_of hc hd, ← cmul_mir (cof us) ts k]
  exact cmul_extr _ k fun j => cof_mir us j
theorem unlock_same {H H' : Hp} {d : Addr} {od : Obj} {u : HO} (e : H d = some u) (s : Same (upd H d (.frz od u)) H') : Same H (upd H' d u) := fun x o h => by
  by_cases hx : x = d
  · subst hx
    rw [upd_same, ← h, e]
  · rw [upd_ne hx]
    exact s x o ((upd_ne hx).trans h)
theorem unlock_tk {H' : Hp} {d : Addr} {od : Obj} {u v : HO} (e : H' d = some (.frz od v)) : Tk H' (upd H' d u) := fun x xs h => by
  have hx : x ≠ d := fun z => by subst z; rw [e] at h; cases h
  exact (upd_ne hx).trans h
theorem JarAt.mono {H : Hp} {a : Addr} {n m : Nat} {c : Int → Int} (h : JarAt H a n c) (l : n ≤ m) : JarAt H a m c := let ⟨kvs, e, r1, r2, r3⟩ := h; ⟨kvs, e, r1, Nat.le_trans r2 l, r3⟩
end
end My

set_option Elab.async false
set_option linter.all false
set_option maxRecDepth 100000
namespace My
open PySem PySem.Spec PyProof.Rows L2
/-! ### powers -/
/-- the numbers of a power -/
noncomputable def powF (c : Int → Int) : Nat → Int → Int
  | 0 => one0 1
  | n + 1 => mulF (powF c n) c
theorem powF_ext {c d : Int → Int} (h : ∀ k, c k = d k) (n : Nat) (k : Int) : powF c n k = powF d n k := by rw [show c = d from funext h]
theorem cof_one (i k : Int) : cof [(0, i)] k = one0 i k := by
  rw [cof, cof, one0]
  by_cases h : k = 0
  · rw [if_pos h, if_pos h.symm]; omega
  · rw [if_neg h, if_neg (fun z => h z.symm)]; rfl
theorem cmul_one : ∀ (ts : Terms) (i k : Int), cmul ts (one0 i) k = i * cof ts k
  | [], i, k => by rw [cmul, cof]; simp
  | p :: ts, i, k => by
    rw [cmul, cof, cmul_one ts i k, one0, Int.mul_add]
    by_cases h : p.1 = k
    · rw [if_pos (by omega), if_pos h, Int.mul_comm]
    · rw [if_neg (by omega), if_neg h]; simp
/-- a number times the numbers -/
theorem mulF_one {c : Int → Int} {ts : Terms} (h : ∀ k, cof ts k = c k) (i k : Int) : mulF c (one0 i) k = i * c k := by
  rw [mulF_of (us := [(0, i)]) h (cof_one i), cmul_extr ts k (cof_one i), cmul_one, h]
theorem one_mulF {c : Int → Int} {ts : Terms} (h : ∀ k, cof ts k = c k) (i k : Int) : mulF (one0 i) c k = i * c k := by
  rw [mulF_comm (cof_one i) h, mulF_one h]
theorem powF_one {c : Int → Int} {ts : Terms} (h : ∀ k, cof ts k = c k) (k : Int) : powF c 1 k = c k := by
  show mulF (one0 1) c k = c k
  rw [one_mulF h, Int.one_mul]
/-- there are terms of a power -/
theorem powF_terms {c : Int → Int} {ts : Terms} (h : ∀ k, cof ts k = c k) : ∀ n, ∃ us : Terms, ∀ k, cof us k = powF c n k
  | 0 => ⟨_, cof_one 1⟩
  | n + 1 => by
    obtain ⟨us, hu⟩ := powF_terms h n
    exact ⟨prodT us ts, fun k => (cof_prod us ts k).trans (mulF_of hu h k).symm⟩
theorem mulF_shift {c d : Int → Int} {ts us : Terms} (hc : ∀ k, cof ts k = c k) (hd : ∀ k, cof us k = d k) (n k : Int) : mulF (fun j => c (j - n)) d k = mulF c d (k - n) := by
  rw [mulF_of (ts := shiftT n ts) (us := us) (fun j => (cof_shift n ts j).trans (hc _)) hd, mulF_of hc hd, cmul_shift]
theorem cmul_app : ∀ (ts us : Terms) (d : Int → Int) (k : Int), cmul (ts ++ us) d k = cmul ts d k + cmul us d k
  | [], us, d, k => by rw [List.nil_append, cmul, Int.zero_add]
  | p :: ts, us, d, k => by rw [List.cons_append, cmul, cmul, cmul_app ts us d k, Int.add_assoc]
theorem JarAt.upd {H : Hp} {a b : Addr} {n : Nat} {c : Int → Int} {o : HO} (h : JarAt H a n c) (ne : a ≠ b) : JarAt (upd H b o) a n c := let ⟨kvs, e, r⟩ := h; ⟨kvs, (upd_ne ne).trans e, r⟩
/-- how great a power's numbers are -/
theorem pow_small {A i : Nat} (h : A ≤ 10 ^ 45) (hi : i ≤ 8) : (90000 * A) ^ i < 2 ^ 100000 := by
  have h1 : 90000 * A ≤ 10 ^ 50 := by omega
  exact Nat.lt_of_le_of_lt (Nat.le_trans (Nat.pow_le_pow_left h1 i) (Nat.pow_le_pow_right (by decide) hi)) (by decide +kernel)
def spRaised (C : Addr) : Sp := fun vs H Q _ => ∃ a ts n, vs = [.ref a, .int (n : Nat)] ∧ PolyAt C H a ts ∧ n ≤ 8 ∧ (∀ i, i ≤ n → ts.length ^ i ≤ 90000) ∧ (∀ k, (cof ts k).natAbs ≤ 10 ^ 45) ∧
  ∀ b us H', Same H H' → PolyAt C H' b us → (∀ k, cof us k = powF (cof ts) n k) → us.length ≤ ts.length ^ n → Q (.ref b) H'
def spTimes : Sp := fun vs H Q _ => ∃ (a b : Addr) (n m : Nat) (c d : Int → Int), vs = [.ref a, .ref b] ∧ JarAt H a n c ∧ JarAt H b m d ∧ n * m ≤ 90000 ∧ Sm c ∧ Sm d ∧ ∀ p H', H p = none → Same H H' → JarAt H' p (n * m) (mulF c d) → Q (.ref p) H'
def spMoved : Sp := fun vs H Q _ => ∃ (a : Addr) (n : Nat) (c : Int → Int) (s : Int), vs = [.ref a, .int s] ∧ JarAt H a n c ∧ n ≤ 90000 ∧ ∀ p H', H p = none → Same H H' → JarAt H' p n (fun k => c (k - s)) → Q (.ref p) H'
def spRaise : Sp := fun vs H Q _ => ∃ (a : Addr) (m : Nat) (c : Int → Int) (n : Nat), vs = [.ref a, .int (n : Nat)] ∧ JarAt H a m c ∧ n ≤ 8 ∧ (∀ i, i ≤ n → m ^ i ≤ 90000) ∧ (∀ k, (c k).natAbs ≤ 10 ^ 45) ∧ ∀ p H', Same H H' → JarAt H' p (m ^ n) (powF c n) → Q (.ref p) H'
end My

set_option Elab.async false
set_option linter.all false
set_option maxRecDepth 100000
namespace My
open PySem PySem.Spec PyProof.Rows L2
/-! ### a division of polynomials -/
theorem Canon.last : ∀ {ts : Terms} {q : Int × Int}, Canon ts → ts.getLast? = some q → ∀ p ∈ ts, p.1 ≤ q.1
  | [], _, _, _, _, hp => by cases hp
  | [a], q, _, h, p, hp => by
    rw [List.mem_singleton.mp hp]
    simp at h
    rw [h]; exact Int.le_refl _
  | a :: b :: ts, q, hc, h, p, hp => by
    rw [List.getLast?_cons_cons] at h
    have ih := Canon.last hc.tail h
    rcases List.mem_cons.mp hp with rfl | hp
    · have h1 := (List.pairwise_cons.mp hc.asc).1 b (.head _)
      have h2 := ih b (.head _)
      omega
    · exact ih p hp
theorem Canon.high {ts : Terms} {q : Int × Int} (h : Canon ts) (e : ts.getLast? = some q) {k : Int} (hk : q.1 < k) : cof ts k = 0 := cof_none fun p hp z => by have := h.last e p hp; omega
theorem Canon.low' {ts : Terms} {q : Int × Int} (h : Canon ts) (e : ts.head? = some q) {k : Int} (hk : k < q.1) : cof ts k = 0 := by
  cases ts with
  | nil => cases e
  | cons p ts => cases e; exact h.low hk
/-- a polynomial by which one can divide: least power 0, greatest power w, 1 or -1 at both ends -/
structure DivT (ds : Terms) (w : Int) : Prop where
  canon : Canon ds
  lo : ∃ e, ds.head? = some (0, e) ∧ (e = 1 ∨ e = -1)
  hi : ∃ e, ds.getLast? = some (w, e) ∧ (e = 1 ∨ e = -1)
theorem mem_head {α : Type} {l : List α} {x : α} (h : l.head? = some x) : x ∈ l := by cases l with | nil => cases h | cons a l => cases h; exact .head _
theorem DivT.w0 {ds : Terms} {w : Int} (D : DivT ds w) : 0 ≤ w := by
  obtain ⟨e, h, _⟩ := D.lo
  obtain ⟨e', h', _⟩ := D.hi
  exact D.canon.last h' _ (mem_head h)
theorem DivT.at0 {ds : Terms} {w : Int} (D : DivT ds w) : cof ds 0 = 1 ∨ cof ds 0 = -1 := by
  obtain ⟨e, h, he⟩ := D.lo
  have := D.canon.at (mem_head h)
  rw [this]; exact he
theorem DivT.atw {ds : Terms} {w : Int} (D : DivT ds w) : cof ds w = 1 ∨ cof ds w = -1 := by
  obtain ⟨e, h, he⟩ := D.hi
  have := D.canon.at (List.mem_of_getLast? h)
  rw [this]; exact he
theorem DivT.neg {ds : Terms} {w k : Int} (D : DivT ds w) (h : k < 0) : cof ds k = 0 := by
  obtain ⟨e, h', _⟩ := D.lo
  exact D.canon.low' h' h
theorem DivT.up {ds : Terms} {w k : Int} (D : DivT ds w) (h : w < k) : cof ds k = 0 := by
  obtain ⟨e, h', _⟩ := D.hi
  exact D.canon.high h' h
theorem cmul_single {j : Int} {c : Int → Int} {k : Int} : ∀ (ts : Terms), (∀ p ∈ ts, p.1 ≠ j → c (k - p.1) = 0) → cmul ts c k = cof ts j * c (k - j)
  | [], _ => by rw [cmul, cof]; simp
  | p :: ts, h => by
    rw [cmul, cof, cmul_single ts fun q hq => h q (.tail _ hq), Int.add_mul]
    by_cases e : p.1 = j
    · rw [if_pos e, e]
    · rw [if_neg e, h p (.head _) e]; simp
theorem exists_max {P : Int → Prop} : ∀ (l : List Int), (∃ k ∈ l, P k) → ∃ k ∈ l, P k ∧ ∀ j ∈ l, P j → j ≤ k
  | [], ⟨_, h, _⟩ => by cases h
  | a :: l, ⟨k, hk, pk⟩ => by
    by_cases hl : ∃ k ∈ l, P k
    · obtain ⟨m, hm, pm, hx⟩ := exists_max l hl
      by_cases ha : P a ∧ m < a
      · refine ⟨a, .head _, ha.1, fun j hj pj => ?_⟩
        rcases List.mem_cons.mp hj with rfl | hj
        · exact Int.le_refl _
        · have := hx j hj pj; omega
      · refine ⟨m, .tail _ hm, pm, fun j hj pj => ?_⟩
        rcases List.mem_cons.mp hj with rfl | hj
        · exact Int.not_lt.mp fun z => ha ⟨pj, z⟩
        · exact hx j hj pj
    · rcases List.mem_cons.mp hk with rfl | hk
      · refine ⟨k, .head _, pk, fun j hj pj => ?_⟩
        rcases List.mem_cons.mp hj with rfl | hj
        · exact Int.le_refl _
        · exact absurd ⟨j, hj, pj⟩ hl
      · exact absurd ⟨k, hk, pk⟩ hl
theorem supp_mem {ts : Terms} {k : Int} (h : cof ts k ≠ 0) : k ∈ ts.map (·.1) := by
  refine Decidable.byContradiction fun z => h (cof_none fun p hp e => z (List.mem_map.mpr ⟨p, hp, e⟩))
/-- no polynomial but 0 times a divisor lies within 0 .. w - 1 -/
theorem div_zero {ds : Terms} {w : Int} (D : DivT ds w) {us : Terms} (h : ∀ k, k < 0 ∨ w ≤ k → cmul us (cof ds) k = 0) : ∀ k, cof us k = 0 := by
  intro k0
  refine Decidable.byContradiction fun z => ?_
  obtain ⟨m, _, pm, hm⟩ := exists_max (P := fun k => cof us k ≠ 0) (us.map (·.1)) ⟨k0, supp_mem z, z⟩
  have hup : ∀ k, m < k → cof us k = 0 := fun k hk => Decidable.byContradiction fun y => by have := hm k (supp_mem y) y; omega
  by_cases m0 : 0 ≤ m
  · have e1 := h (m + w) (.inr (by omega))
    rw [cmul_comm, cmul_single (j := w) ds fun p hp hne => ?_] at e1
    · rw [show m + w - w = m by omega] at e1
      rcases D.atw with e | e <;> rw [e] at e1 <;> omega
    · obtain ⟨e, h', _⟩ := D.hi
      have := D.canon.last h' p hp
      exact hup _ (by omega)
  · obtain ⟨m', hm', pm', hx⟩ := exists_max (P := fun k => cof us (-k) ≠ 0) (us.map (-·.1)) ⟨-m, List.mem_map.mpr (by
      obtain ⟨p, hp, e⟩ := List.mem_map.mp (supp_mem pm)
      exact ⟨p, hp, by rw [e]⟩), by rw [Int.neg_neg]; exact pm⟩
    have hdn : ∀ k, k < -m' → cof us k = 0 := fun k hk => Decidable.byContradiction fun y => by
      have := hx (-k) (by
        obtain ⟨p, hp, e⟩ := List.mem_map.mp (supp_mem y)
        exact List.mem_map.mpr ⟨p, hp, by rw [e]⟩) (by rw [Int.neg_neg]; exact y)
      omega
    have l1 : -m' ≤ m := Int.not_lt.mp fun y => pm' (hup _ (by omega))
    have e1 := h (-m') (.inl (by omega))
    rw [cmul_comm, cmul_single (j := 0) ds fun p hp hne => ?_] at e1
    · rw [show -m' - 0 = -m' by omega] at e1
      rcases D.at0 with e | e <;> rw [e] at e1 <;> omega
    · have : 0 ≤ p.1 := by
        refine Decidable.byContradiction fun y => ?_
        have q1 := D.canon.at hp
        rw [D.neg (by omega)] at q1
        exact D.canon.nz p hp q1.symm
      exact hdn _ (by omega)
/-- quotient and rest -/
structure DivR (c : Int → Int) (ds : Terms) (w : Int) (qs rs : Terms) : Prop where
  eq : ∀ k, c k = cmul qs (cof ds) k + cof rs k
  low : ∀ k, k < 0 → cof rs k = 0
  high : ∀ k, w ≤ k → cof rs k = 0
theorem cmul_negT : ∀ (ts : Terms) (d : Int → Int) (k : Int), cmul (negT ts) d k = -cmul ts d k
  | [], _, _ => rfl
  | p :: ts, d, k => by
    show -p.2 * d (k - p.1) + cmul (negT ts) d k = -(p.2 * d (k - p.1) + cmul ts d k)
    rw [cmul_negT ts d k, Int.neg_mul]
    omega
theorem DivR.unique {c : Int → Int} {ds : Terms} {w : Int} {qs rs qs' rs' : Terms} (D : DivT ds w) (h : DivR c ds w qs rs) (h' : DivR c ds w qs' rs') : (∀ k, cof qs k = cof qs' k) ∧ ∀ k, cof rs k = cof rs' k := by
  have e : ∀ k, cmul qs (cof ds) k = cmul qs' (cof ds) k + (cof rs' k - cof rs k) := fun k => by have := h.eq k; have := h'.eq k; omega
  have z := div_zero D (us := qs ++ negT qs') fun k hk => by
    rw [cmul_app, cmul_negT, e]
    rcases hk with hk | hk
    · rw [h.low k hk, h'.low k hk]; omega
    · rw [h.high k hk, h'.high k hk]; omega
  have q : ∀ k, cof qs k = cof qs' k := fun k => by
    have := z k
    rw [cof_app, cof_neg] at this
    omega
  refine ⟨q, fun k => ?_⟩
  have := e k
  rw [cmul_ext q (fun _ => rfl) k] at this
  omega
/-- the division under way: the terms so far, what is left -/
structure DivS (c : Int → Int) (ds : Terms) (w lo hi : Int) (n1 i B M : Nat) (T : Terms) (L : Int → Int) : Prop where
  eq : ∀ k, c k = cmul T (cof ds) k + L k
  up : ∀ k, w ≤ k → hi + 1 - i ≤ k → L k = 0
  dn : ∀ k, k < 0 → k < lo + ((i - n1 : Nat) : Int) → L k = 0
  bd : ∀ k, (L k).natAbs ≤ B * (1 + M) ^ i
  tb : ∀ p ∈ T, p.2.natAbs ≤ B * (1 + M) ^ i
theorem DivS.start {c : Int → Int} {ds : Terms} {w lo hi : Int} {n1 B M : Nat} (h1 : ∀ k, hi < k → c k = 0) (h2 : ∀ k, k < lo → c k = 0) (h3 : ∀ k, (c k).natAbs ≤ B) : DivS c ds w lo hi n1 0 B M [] c :=
  ⟨fun k => by rw [cmul]; omega, fun k _ hk => h1 k (by omega), fun k _ hk => h2 k (by simpa using hk), fun k => by simpa using h3 k, fun _ h => by cases h⟩
theorem DivS.bound {L : Int → Int} {ds : Terms} {B M i : Nat} {s f : Int} (bd : ∀ k, (L k).natAbs ≤ B * (1 + M) ^ i) (hM : ∀ k, (cof ds k).natAbs ≤ M) (hf : f.natAbs ≤ B * (1 + M) ^ i) (k : Int) : (L k - f * cof ds (k - s)).natAbs ≤ B * (1 + M) ^ (i + 1) := by
  have h1 := bd k
  have h2 : (f * cof ds (k - s)).natAbs ≤ B * (1 + M) ^ i * M := by rw [Int.natAbs_mul]; exact Nat.mul_le_mul hf (hM _)
  have h3 : B * (1 + M) ^ (i + 1) = B * (1 + M) ^ i + B * (1 + M) ^ i * M := by rw [Nat.pow_succ, ← Nat.mul_assoc, Nat.mul_add, Nat.mul_one]
  omega
theorem pow_up (B M i : Nat) : B * (1 + M) ^ i ≤ B * (1 + M) ^ (i + 1) := Nat.mul_le_mul_left _ (Nat.pow_le_pow_right (by omega) (by omega))
theorem tb_snoc {T : Terms} {B M i : Nat} {s f : Int} (h : ∀ p ∈ T, p.2.natAbs ≤ B * (1 + M) ^ i) (hf : f.natAbs ≤ B * (1 + M) ^ i) : ∀ p ∈ T ++ [(s, f)], p.2.natAbs ≤ B * (1 + M) ^ (i + 1) := fun p hp => by
  rcases List.mem_append.mp hp with hp | hp
  · exact Nat.le_trans (h p hp) (pow_up _ _ _)
  · rw [List.mem_singleton.mp hp]; exact Nat.le_trans hf (pow_up _ _ _)
theorem cmul_snoc (T : Terms) (s f : Int) (d : Int → Int) (k : Int) : cmul (T ++ [(s, f)]) d k = cmul T d k + f * d (k - s) := by
  rw [cmul_app]
  show _ + (f * d (k - s) + 0) = _
  omega
theorem DivS.same {c : Int → Int} {ds : Terms} {w lo hi : Int} {n1 i B M : Nat} {T : Terms} {L : Int → Int} (h : DivS c ds w lo hi n1 i B M T L) (hz : (i < n1 → L (hi - i) = 0) ∧ (n1 ≤ i → L (lo + ((i - n1 : Nat) : Int)) = 0)) (hn : n1 = (hi - w + 1).toNat) : DivS c ds w lo hi n1 (i + 1) B M T L := by
  refine ⟨h.eq, fun k h1 h2 => ?_, fun k h1 h2 => ?_, fun k => Nat.le_trans (h.bd k) (pow_up _ _ _), fun p hp => Nat.le_trans (h.tb p hp) (pow_up _ _ _)⟩
  · by_cases e : hi + 1 - i ≤ k
    · exact h.up k h1 e
    · by_cases hi' : i < n1
      · have := hz.1 hi'
        rw [show k = hi - i by omega]; exact this
      · exact h.up k h1 (by omega)
  · by_cases e : k < lo + ((i - n1 : Nat) : Int)
    · exact h.dn k h1 e
    · by_cases hi' : i < n1
      · exact h.dn k h1 (by omega)
      · have := hz.2 (by omega)
        rw [show k = lo + ((i - n1 : Nat) : Int) by omega]; exact this
/-- a step down: at the power hi - i -/
theorem DivS.step1 {c : Int → Int} {ds : Terms} {w lo hi : Int} {n1 i B M : Nat} {T : Terms} {L : Int → Int} (D : DivT ds w) (h : DivS c ds w lo hi n1 i B M T L) (hn : n1 = (hi - w + 1).toNat) (hi' : i < n1) (hM : ∀ k, (cof ds k).natAbs ≤ M) :
    DivS c ds w lo hi n1 (i + 1) B M (T ++ [(hi - i - w, L (hi - i) * cof ds w)]) (fun k => L k - L (hi - i) * cof ds w * cof ds (k - (hi - i - w))) := by
  have hf : (L (hi - i) * cof ds w).natAbs ≤ B * (1 + M) ^ i := by
    have := h.bd (hi - i)
    rcases D.atw with e | e <;> rw [e] <;> omega
  refine ⟨fun k => by rw [cmul_snoc, h.eq]; omega, fun k h1 h2 => ?_, fun k h1 h2 => ?_, DivS.bound h.bd hM hf, tb_snoc h.tb hf⟩
  · show L k - _ = 0
    by_cases e : k = hi - i
    · rw [e, show hi - i - (hi - i - w) = w by omega]
      rcases D.atw with e | e <;> rw [e] <;> omega
    · rw [h.up k h1 (by omega), D.up (by omega : w < k - (hi - i - w))]; omega
  · show L k - _ = 0
    rw [h.dn k h1 (by omega), D.neg (by omega : k - (hi - i - w) < 0)]; omega
theorem DivS.step2 {c : Int → Int} {ds : Terms} {w lo hi : Int} {n1 i B M : Nat} {T : Terms} {L : Int → Int} (D : DivT ds w) (h : DivS c ds w lo hi n1 i B M T L) (hn : n1 = (hi - w + 1).toNat) (hi' : n1 ≤ i) (hl : lo + ((i - n1 : Nat) : Int) < 0) (hM : ∀ k, (cof ds k).natAbs ≤ M) :
    DivS c ds w lo hi n1 (i + 1) B M (T ++ [(lo + ((i - n1 : Nat) : Int), L (lo + ((i - n1 : Nat) : Int)) * cof ds 0)]) (fun k => L k - L (lo + ((i - n1 : Nat) : Int)) * cof ds 0 * cof ds (k - (lo + ((i - n1 : Nat) : Int)))) := by
  generalize hp : lo + ((i - n1 : Nat) : Int) = p at *
  have hf : (L p * cof ds 0).natAbs ≤ B * (1 + M) ^ i := by
    have := h.bd p
    rcases D.at0 with e | e <;> rw [e] <;> omega
  refine ⟨fun k => by rw [cmul_snoc, h.eq]; omega, fun k h1 h2 => ?_, fun k h1 h2 => ?_, DivS.bound h.bd hM hf, tb_snoc h.tb hf⟩
  · show L k - _ = 0
    rw [h.up k h1 (by omega), D.up (by omega : w < k - p)]; omega
  · show L k - _ = 0
    by_cases e : k = p
    · rw [e, show p - p = 0 by omega]
      rcases D.at0 with e | e <;> rw [e] <;> omega
    · rw [h.dn k h1 (by omega), D.neg (by omega : k - p < 0)]; omega
theorem cof_map : ∀ {ys : List Int}, ys.Pairwise (· < ·) → ∀ (f : Int → Int) (k : Int), cof (ys.map fun k => (k, f k)) k = if k ∈ ys then f k else 0
  | [], _, f, k => by rw [List.map_nil, cof, if_neg (by simp)]
  | y :: ys, h, f, k => by
    obtain ⟨h1, h2⟩ := List.pairwise_cons.mp h
    rw [List.map_cons, cof, cof_map h2 f k]
    by_cases e : y = k
    · subst e
      have : ¬ y ∈ ys := fun z => by have := h1 y z; omega
      rw [if_pos rfl, if_neg this, if_pos (.head _)]; omega
    · rw [if_neg e]
      by_cases z : k ∈ ys
      · rw [if_pos z, if_pos (.tail _ z)]; omega
      · rw [if_neg z, if_neg fun y' => by
          rcases List.mem_cons.mp y' with y' | y'
          · exact e y'.symm
          · exact z y']; omega
/-- how many steps a division takes -/
def stepsD (ts : Terms) (w : Int) : Nat := match ts.head?, ts.getLast? with | some p, some q => (q.1 - w + 1).toNat + (-p.1).toNat | _, _ => 0
def BG : Nat := 2 ^ 100000
theorem mulG {a b : Int} (ha : a.natAbs < BG) (hb : b.natAbs < BG) : CMulW a b := mulW_of ha hb
theorem one_BG {e : Int} (h : e = 1 ∨ e = -1) : e.natAbs < BG := by rcases h with rfl | rfl <;> (unfold BG; decide +kernel)
/-- small enough to be divided -/
def DivOk (ts ds : Terms) (w : Int) : Prop := ts.length + stepsD ts w * ds.length ≤ 90000 ∧ stepsD ts w ≤ 90000 ∧ ∃ B M : Nat, (∀ k, (cof ts k).natAbs ≤ B) ∧ (∀ k, (cof ds k).natAbs ≤ M) ∧ M < BG ∧ (1 + stepsD ts w) * (B * (1 + M) ^ stepsD ts w) < BG
/-- the powers are small -/
def Near (ts : Terms) : Prop := ∀ p ∈ ts, -10000000 ≤ p.1 ∧ p.1 ≤ 10000000
def spDivision (C : Addr) : Sp := fun vs H Q _ => ∃ a d ts ds w, vs = [.ref a, .ref d] ∧ PolyAt C H a ts ∧ PolyAt C H d ds ∧ DivT ds w ∧ DivOk ts ds w ∧ Near ts ∧ w ≤ 10000000 ∧
  ∀ t q r qs rs H', H t = none → Same H H' → H' t = some (.tup [.ref q, .ref r]) → PolyAt C H' q qs → PolyAt C H' r rs → DivR (cof ts) ds w qs rs → qs.length ≤ stepsD ts w → Sm (cof qs) → Q (.ref t) H'
def spFloor (C : Addr) : Sp := fun vs H Q _ => ∃ a d ts ds w, vs = [.ref a, .ref d] ∧ PolyAt C H a ts ∧ PolyAt C H d ds ∧ DivT ds w ∧ DivOk ts ds w ∧ Near ts ∧ w ≤ 10000000 ∧
  ∀ q qs rs H', Same H H' → PolyAt C H' q qs → DivR (cof ts) ds w qs rs → qs.length ≤ stepsD ts w → Sm (cof qs) → Q (.ref q) H'
def spCheckDiv (C : Addr) : Sp := fun vs H Q _ => ∃ d ds w, vs = [.ref d] ∧ PolyAt C H d ds ∧ DivT ds w ∧ Q .non H
end My

set_option Elab.async false
set_option linter.all false
set_option maxRecDepth 100000
set_option maxHeartbeats 2000000
namespace My
open PySem PySem.Spec PyProof.Rows L2
/-! ### list(range(a, b, -1)) -/
/-- an expression that makes a range a, a - 1 .. b + 1 -/
def PRg3 (X : Cx) (e : Expr) (t : L2.St → Hp → (Int → Int → Hp → Prop) → Prop) : Prop :=
  ∀ (pins : List (Addr × Obj)) (s : Shared) (σ : L2.St) (H : Hp) (Q : Int → Int → Hp → Prop), Inv X pins σ H s → t σ H Q →
    wpAny (model X.prog X.w) X.A (eval e X.env) (fun x s' => ∃ r a b t u v H', x = .ref r ∧ IsRange s'.heap r a b (-1) t u v ∧ Inv X pins σ H' s' ∧ Q a b H') X.xe s
def tRg3 (ta : TA) : L2.St → Hp → (Int → Int → Hp → Prop) → Prop := fun σ H Q => ta σ H fun vs H1 => ∃ i j, vs = [.int i, .int j, .int (-1)] ∧ Q i j H1
theorem prg_3 {X : Cx} {a b c : Expr} {ta : TA} {p pos : Pos} (hg : Gl X "range") (hm : X.mg "range" = none) (ha : PA X [a, b, c] ta)
    (hs : starEach [a, b, c] X.env = (false, eval a X.env) :: starEach [b, c] X.env := by rfl) (hpl : (backTo pos (starEach [b, c] X.env)).any (·.1) = false := by rfl) :
    PRg3 X (.Call (.Name "range" p) [a, b, c] [] pos) (tRg3 ta) := by
  intro pins s σ H Q I h
  refine Call_ (ld_blt I hg hm boot_range (PyProof.Rows.callWith_type1 (thn (ha.run pos pins s σ H _ I h) fun us s1 ⟨vs, H1, I1, r1, q1⟩ => ?_) hs hpl))
  obtain ⟨i, j, e, q⟩ := q1
  subst e
  cases r1 with
  | cons r rr =>
    cases rr with
    | cons r' rr =>
      cases rr with
      | cons r'' rr =>
        cases rr
        obtain ⟨t, rfl⟩ := r
        obtain ⟨t', rfl⟩ := r'
        obtain ⟨t'', rfl⟩ := r''
        refine call_range_3 (by decide) ?_ (.inl (PyProof.noPylong_small (by decide)))
        exact ⟨_, i, j, _, _, _, H1, rfl, IsRange.new _ _ _ _ _ _ _, I1.kept (t' := s1.toks) fun b o e => Heap.get?_push_of_some _ e, q⟩
/-- the ints a, a - 1 .. b + 1 -/
def rgD (a b : Int) : List V := (List.range (a - b).toNat).map fun i => V.int (a - (i : Nat))
theorem rgD_length (a b : Int) : (rgD a b).length = (a - b).toNat := by unfold rgD; rw [List.length_map, List.length_range]
theorem vals_rgD {a b : Int} {acc : Array Value} (h : ItemsOf (fun i v => ∃ t, v = .int (a + i * (-1)) t) acc (a - b).toNat) : Vals (rgD a b) acc.toList := by
  have e : acc.toList.length = (a - b).toNat := by rw [Array.length_toList]; exact h.1
  unfold rgD
  rw [← e]
  refine vals_of_get acc.toList _ fun j u hj => ?_
  obtain ⟨t, rfl⟩ := h.2 j u (by rw [← hj, Array.getElem?_toList])
  exact ⟨t, by rw [show a + (j : Int) * -1 = a - j by omega]⟩
def tLstRg3 (te : L2.St → Hp → (Int → Int → Hp → Prop) → Prop) : TE := fun σ H Q => te σ H fun a b H1 => RgOk b a ∧ ∀ q, H1 q = none → Q (.ref q) (upd H1 q (.lst (rgD a b)))
theorem pe_listRg3 {X : Cx} {e : Expr} {te : L2.St → Hp → (Int → Int → Hp → Prop) → Prop} {p pos : Pos} (hc : X.calm = true) (hg : Gl X "list") (hm : X.mg "list" = none) (he : PRg3 X e te) (na : starEach [e] X.env = (false, eval e X.env) :: starEach [] X.env := by rfl) : PE X (.Call (.Name "list" p) [e] [] pos) (tLstRg3 te) := by
  refine ⟨fun pins s σ H Q I h => ?_⟩
  refine Call_ (ld_blt I hg hm boot_list (PyProof.Rows.callWith_type1 (args_cons (thn (he pins s σ H _ I h) fun x s1 ⟨r, a, b, t, u, v, H1, ex, hr, I1, ok, q⟩ => args_nil ?_) na) na))
  subst ex
  obtain ⟨b1, b2, b3, b4, b5⟩ := ok
  refine call_list_range (n := (a - b).toNat) (I1.ok.hd hc) hr (PySem.W.small_down b3 b4 b1 b2) (PySem.W.rangeSize_downNat a b) b5 fun h' tk acc c' hk e' hi => ?_
  refine ⟨.ref s1.heap.objs.size, upd H1 s1.heap.objs.size (.lst (rgD a b)), I1.laid hk (Nat.le_refl _) (show ObjOk X.prog X.w _ _ _ (.lst (rgD a b)) from ⟨?_, acc.toList, c', vals_rgD hi, ?_⟩), rfl, q _ (I1.hok.fresh (Nat.le_refl _))⟩
  · rw [rgD_length, sizeLine_eq]; omega
  · rw [Array.toArray_toList]; exact e'
theorem r_lstRg2 {ta tb : TE} {σ : L2.St} {H : Hp} {Q : VK} (q : ta σ H fun x H1 => tb σ H1 fun y H2 => ∃ i j, x = .int i ∧ y = .int j ∧ RgOk i j ∧ ∀ q, H2 q = none → Q (.ref q) (upd H2 q (.lst (rgV i j)))) : tLstRg (tRg2 ta tb) σ H Q := q
theorem r_lstRg3 {ta : TA} {σ : L2.St} {H : Hp} {Q : VK} (q : ta σ H fun vs H1 => ∃ i j, vs = [.int i, .int j, .int (-1)] ∧ RgOk j i ∧ ∀ q, H1 q = none → Q (.ref q) (upd H1 q (.lst (rgD i j)))) : tLstRg3 (tRg3 ta) σ H Q := q
end My

set_option Elab.async false
set_option linter.all false
set_option maxRecDepth 100000
set_option maxHeartbeats 8000000
set_option pp.deepTerms false
set_option pp.deepTerms.threshold 12
set_option pp.maxSteps 1200

namespace My
open PySem PySem.Spec PyProof.Rows L2
theorem take_low {ts : Terms} {i : Nat} {p : Int × Int} (h : Canon ts) (hp : ts[i]? = some p) : cof (ts.take i) p.1 = 0 := by
  refine cof_none fun q hq => ?_
  have hi := (List.getElem?_eq_some_iff.mp hp).1
  have hd : ts.drop i = p :: ts.drop (i + 1) := by
    rw [List.drop_eq_getElem_cons hi, (List.getElem?_eq_some_iff.mp hp).2]
  have ha : (ts.take i ++ p :: ts.drop (i + 1)).Pairwise fun a b => a.1 < b.1 := by rw [← hd, List.take_append_drop]; exact h.asc
  have := (List.pairwise_append.mp ha).2.2 q hq p (.head _)
  omega
theorem ne_of_none' {H : Hp} {a b : Addr} {o : HO} (n : H a = none) (h : H b = some o) : a ≠ b := fun e => by rw [e, h] at n; cases n
structure DivS0 (ts ds : Terms) (w : Int) (T : Terms) (L : Int → Int) : Prop where
  eq : ∀ k, cof ts k = cmul T (cof ds) k + L k
  low : ∀ k, k < 0 → L k = 0
  high : ∀ k, w ≤ k → L k = 0
theorem abs_one {e : Int} (h : e = 1 ∨ e = -1) : (if e < 0 then -e else e) = 1 := by rcases h with rfl | rfl <;> decide
section
variable {P : Program} {w : World} {K : PySem.W.Frag} {mg : Str → Option Value} {base : Heap} {C : Addr}
local macro_rules | `(tactic| walk_at "isi") => `(tactic| (first
  | (with_reducible refine r_is_int_int ?_)
  | (with_reducible refine r_is_int_bool ?_)
  | (with_reducible refine r_is_int_str ?_)
  | (with_reducible refine r_is_int_list ?_)
  | (with_reducible refine r_is_int_tuple ?_)
  | (with_reducible refine r_is_bool_int ?_)
  | (with_reducible refine r_is_bool_bool ?_)
  | (with_reducible refine r_is_bool_str ?_)
  | (with_reducible refine r_is_bool_list ?_)
  | (with_reducible refine r_is_bool_tuple ?_)
  | (with_reducible refine r_is_str_int ?_)
  | (with_reducible refine r_is_str_bool ?_)
  | (with_reducible refine r_is_str_str ?_)
  | (with_reducible refine r_is_str_list ?_)
  | (with_reducible refine r_is_str_tuple ?_)
  | ((with_reducible refine r_is_list_int (xs := ?xx) ?hh ?_); (case hh => walk_at "hp"))
  | ((with_reducible refine r_is_list_bool (xs := ?xx) ?hh ?_); (case hh => walk_at "hp"))
  | ((with_reducible refine r_is_list_str (xs := ?xx) ?hh ?_); (case hh => walk_at "hp"))
  | ((with_reducible refine r_is_list_list (xs := ?xx) ?hh ?_); (case hh => walk_at "hp"))
  | ((with_reducible refine r_is_list_tuple (xs := ?xx) ?hh ?_); (case hh => walk_at "hp"))
  | ((with_reducible refine r_is_tuple_int (xs := ?xx) ?hh ?_); (case hh => walk_at "hp"))
  | ((with_reducible refine r_is_tuple_bool (xs := ?xx) ?hh ?_); (case hh => walk_at "hp"))
  | ((with_reducible refine r_is_tuple_str (xs := ?xx) ?hh ?_); (case hh => walk_at "hp"))
  | ((with_reducible refine r_is_tuple_list (xs := ?xx) ?hh ?_); (case hh => walk_at "hp"))
  | ((with_reducible refine r_is_tuple_tuple (xs := ?xx) ?hh ?_); (case hh => walk_at "hp"))
  | (with_reducible refine r_is_NoneType_int ?_)
  | (with_reducible refine r_is_NoneType_bool ?_)
  | (with_reducible refine r_is_NoneType_str ?_)
  | (with_reducible refine r_is_NoneType_list ?_)
  | (with_reducible refine r_is_NoneType_tuple ?_)))
local macro_rules | `(tactic| walk_at "ne") => `(tactic| first | assumption | (refine Ne.symm ?_; assumption) | exact Bag.ne (by assumption) (by assumption) | exact ne_of_none (by assumption) (by assumption))
local macro_rules | `(tactic| walk_at "hp") => `(tactic| (first
  | assumption
  | exact upd_same
  | (refine h_keep ?_ (by assumption); walk_at "hp")
  | (refine (upd_ne (by walk_at "ne")).trans ?_; walk_at "hp")
  | (refine Same.at (by assumption) ?_; walk_at "hp")
  | (refine But.at (by assumption) (by walk_at "ne") ?_; walk_at "hp")
  | (refine But2.at (by assumption) (by walk_at "ne") (by walk_at "ne") ?_; walk_at "hp")))
local macro_rules | `(tactic| walk_at "side") => `(tactic| first | assumption | omega | (refine ⟨?_, ?_⟩ <;> first | assumption | omega | decide) | decide | (refine ⟨by decide, by decide, by decide⟩) | (left; refine ⟨?_, ?_⟩ <;> first | omega | decide) | (right; refine ⟨?_, ?_⟩ <;> first | omega | decide) | (simp; done))
local macro_rules | `(tactic| walk_at "cond") => `(tactic| first | assumption | exact rfl | omega | (simp only [List.length_cons, List.length_nil]; omega) | decide +kernel)
local macro_rules | `(tactic| walk_at "s") => `(tactic| (first
  | ((with_reducible refine r_var (v := ?vv) ?ee ?_); (case ee => exact rfl))
  | (with_reducible refine r_c ?_)
  | (with_reducible refine r_op ?_)
  | (with_reducible refine r_un ?_)
  | (with_reducible refine r_rI0 ?_)
  | ((with_reducible refine r_rI ?cc ?_); (case cc => walk_at "side"))
  | (with_reducible refine r_rU ?_)
  | (with_reducible refine r_eqI ?_)
  | (with_reducible refine r_neI ?_)
  | (with_reducible refine r_eqB ?_)
  | (with_reducible refine r_neB ?_)
  | (with_reducible refine r_eqS ?_)
  | (with_reducible refine r_neS ?_)
  | ((with_reducible refine r_eq ?ee ?_); (case ee => exact rfl))
  | ((with_reducible refine r_ne ?ee ?_); (case ee => exact rfl))
  | ((with_reducible refine r_ixL (v := ?vv) (xs := ?xx) ?hh ?ee ?_); (case hh => (refine SqL.of ?_; walk_at "hp")); (case ee => exact rfl))
  | (with_reducible refine r_cb ?_)
  | (with_reducible refine r_call ?_)
  | (with_reducible refine r_cons ?_)
  | (with_reducible refine r_nil ?_)
  | (with_reducible refine r_lst ?_)
  | (with_reducible refine r_tup ?_)
  | ((with_reducible refine r_new ?cc ?_); (case cc => walk_at "side"))
  | (with_reducible refine r_exbl ?_)
  | (with_reducible refine r_exint ?_)
  | (with_reducible refine r_exint2 ?_)
  | (with_reducible refine r_exblL ?_)
  | (with_reducible refine r_ex2 ?_)
  | (with_reducible refine r_test ?_)
  | (with_reducible refine r_tB ?_)
  | (with_reducible refine r_not ?_)
  | (with_reducible refine r_and ?_)
  | (with_reducible refine r_or ?_)
  | (with_reducible refine r_andV ?_)
  | (with_reducible refine r_orV ?_)
  | (with_reducible refine r_notV ?_)
  | (with_reducible refine r_tif ?_)
  | (with_reducible refine r_iteT ?_)
  | (with_reducible refine r_iteNT ?_)
  | (with_reducible refine r_iteNF ?_)
  | (with_reducible refine r_iteF ?_)
  | (with_reducible refine r_seq ?_)
  | (with_reducible refine r_next ?_)
  | (with_reducible refine r_brk ?_)
  | (with_reducible refine r_cont ?_)
  | (with_reducible refine r_asg ?_)
  | (with_reducible refine r_gname ?_)
  | (with_reducible refine r_ret ?_)
  | (with_reducible refine r_retN ?_)
  | (with_reducible refine r_drop ?_)
  | (with_reducible refine r_if ?_)
  | ((with_reducible refine r_aug (x := ?xx) ?ee ?_); (case ee => exact rfl))
  | (with_reducible refine r_ipI ?_)
  | (with_reducible refine r_augS ?_)
  | (with_reducible refine r_gsub ?_)
  | ((with_reducible refine r_setL (xs := ?xx) (m := ?mm) ?hh ?ee ?_); (case hh => walk_at "hp"); (case ee => exact rfl))
  | (with_reducible refine r_par ?_)
  | (with_reducible refine r_bm ?_)
  | ((with_reducible refine r_tyL (xs := ?xx) ?hh ?_); (case hh => walk_at "hp"))
  | ((with_reducible refine r_append (xs := ?xx) ?hh ?ll ?_); (case hh => walk_at "hp"); (case ll => walk_at "side"))
  | (walk_at "isi")
  | (with_reducible refine r_for ?_)
  | (with_reducible refine r_iList ?_)
  | (with_reducible refine r_iTup ?_)
  | (with_reducible refine r_iR1 ?_)
  | (with_reducible refine r_iR2 ?_)
  | (with_reducible refine r_lc ?_)
  | (with_reducible refine r_yes ?_)
  | ((with_reducible refine r_lenS ?ll ?_); (case ll => walk_at "side"))
  | (with_reducible refine r_leS ?_)
  | (with_reducible refine r_chain ?_)
  | (with_reducible refine r_tM1 ?_)
  | (with_reducible refine r_exS ?_)
  | ((with_reducible refine r_tupL (xs := ?xx) ?hh ?_); (case hh => walk_at "hp"))
  | ((with_reducible refine r_listL (xs := ?xx) ?hh ?_); (case hh => walk_at "hp"))
  | ((with_reducible refine r_listT (xs := ?xx) ?hh ?_); (case hh => walk_at "hp"))
  | ((with_reducible refine r_ixT (v := ?vv) (xs := ?xx) ?hh ?ee ?_); (case hh => (refine SqT.of ?_; walk_at "hp")); (case ee => exact rfl))
  | (with_reducible refine r_sl ?_)
  | (with_reducible refine r_nopart ?_)
  | (with_reducible refine r_part ?_)
  | (with_reducible refine r_exI ?_)
  | ((with_reducible refine r_slL (xs := ?xx) ?hh ?_); (case hh => first | assumption | (refine SqL.of ?_; walk_at "hp") | (refine Same.seq (by assumption) (by assumption))))
  | ((with_reducible refine r_cat (xs := ?xx) (zs := ?zz) ?hh ?ii ?ll ?_); (case hh => walk_at "hp"); (case ii => walk_at "hp"); (case ll => walk_at "side"))
  | ((with_reducible refine r_lenL (xs := ?xx) ?hh ?_); (case hh => walk_at "hp"))
  | ((with_reducible refine r_lenT (xs := ?xx) ?hh ?_); (case hh => walk_at "hp"))
  | ((with_reducible refine r_gTup (xs := ?xx) ?hh ?ll ?_); (case hh => walk_at "hp"); (case ll => exact rfl))
  | (with_reducible refine r_gCons ?_)
  | (with_reducible refine r_gNil ?_)
  | ((with_reducible refine r_iteDT ?cc ?_); (case cc => walk_at "cond"))
  | ((with_reducible refine r_iteDF ?cc ?_); (case cc => walk_at "cond"))
  | ((with_reducible refine r_iteNDT ?cc ?_); (case cc => walk_at "cond"))
  | ((with_reducible refine r_iteNDF ?cc ?_); (case cc => walk_at "cond"))
  ))
local macro_rules | `(tactic| walk_at "go") => `(tactic| repeat (walk_at "s"))

local macro_rules | `(tactic| walk_at "s") => `(tactic| (first
  | (with_reducible refine r_dnew ?_)
  | (with_reducible refine r_dget2 ?_)
  | (with_reducible refine r_dget ?_)
  | (with_reducible refine r_dput ?_)
  | (with_reducible refine r_dsetd ?_)
  | ((with_reducible refine JarAt.isD (n := ?nn) (c := ?cc) ?hh ?_); (case hh => assumption))
  ))

local macro_rules | `(tactic| walk_at "s") => `(tactic| (first
  | (with_reducible refine r_prop ?_)
  | (with_reducible refine r_meth ?_)
  | (with_reducible refine r_make ?_)
  | (with_reducible refine r_fld ?_)
  | (with_reducible refine r_sfld ?_)
  | (with_reducible refine r_iOwn ?_)
  | ((with_reducible refine u_rowsAt (mg := ?mm) (C := ?CC) (dx := ?dd) (fv := ?vv) ?tt ?hh ?_); (case tt => assumption); (case hh => walk_at "hp"))
  | ((with_reducible refine r_isPoly (mg := ?mm) (dx := ?dd) (fs := ?ff) ?tt ?hh ?_); (case tt => assumption); (case hh => walk_at "hp"))
  | ((with_reducible refine r_isPolyI (mg := ?mm) ?tt ?_); (case tt => assumption))
  | ((with_reducible refine r_polyInt (mg := ?mm) (C := ?CC) (dx := ?dd) (fs := ?ff) ?tt ?hh ?_); (case tt => assumption); (case hh => walk_at "hp"))
  ))

local macro_rules | `(tactic| walk_at "s") => `(tactic| (with_reducible refine r_lstRg2 ?_))
local macro_rules | `(tactic| walk_at "s") => `(tactic| (with_reducible refine r_lstRg3 ?_))
theorem ok_check_divisor {f : Addr} {fd : FuncData} (F : Fun K "check_divisor" "check_divisor" s_check_divisor f fd) (B : Bl mg) (bAbs : mg "abs" = none) (G_Poly : PolyT K mg C) (h_check_poly : Has P w K mg base "check_poly" 1 ["value"] (fun vs H Q _ => ∃ a ts, vs = [.ref a] ∧ PolyAt C H a ts ∧ Q .non H)) : FnOk P w K mg base CX0 2 f fd ["value"] (spCheckDiv C) := by
  refine F.ok sc_check_divisor (fun vs H Q E h => ?_) (fun cdv A outer s H vs Q E hr h => ?_)
  · obtain ⟨d, ds, wd, rfl, _⟩ := h
    rfl
  · obtain ⟨d, ds, wd, rfl, hd, D, k⟩ := h
    obtain ⟨dx, r, vs, g1, hr', ht, hc⟩ := id hd
    obtain ⟨e0, h0, k0⟩ := D.lo
    obtain ⟨e1, h1, k1⟩ := D.hi
    have ne : ds ≠ [] := by rintro rfl; cases h0
    obtain ⟨b, b', p, q, a0, hb0, a1, hb1, p0, q1⟩ := last_of ht ne
    cases h0.symm.trans p0
    cases h1.symm.trans q1
    have hl : 0 < vs.length := by rw [ht.length]; exact List.length_pos_iff.mpr ne
    refine ⟨_, (pss_cons (ps_expr (pe_callH h_check_poly (hr.mono (by first | decide | omega)) (pa_cons (pv 0) pa_nil)))
    (pss_cons (ps_set (i := 1) sc_check_divisor.nd rfl (.inl rfl) (pe_fldK (K := K) (pv 0)))
    (pss_one (ps_if (PW.pt (pw_or (pt_cmpR op_eq (pe_callB (call_lenK (K := K)) (by rfl) B.b_len PySem.boot_len (pa_cons (pv 1) pa_nil)) pe_int (nomark _)) (pw_or (pt_cmpR op_ne (pe_ix (ix_tupK (K := K)) (pe_ix (ix_tupK (K := K)) (pv 1) pe_int (fun _ _ => rfl)) pe_int (fun _ _ => rfl)) pe_int (nomark _)) (pw_or (pt_cmpR op_ne (pe_callB call_absA (by rfl) bAbs (by decide +kernel) (pa_cons (pe_ix (ix_tupK (K := K)) (pe_ix (ix_tupK (K := K)) (pv 1) pe_int (fun _ _ => rfl)) pe_int (fun _ _ => rfl)) pa_nil)) pe_int (nomark _)) (pw_or1 (pt_cmpR op_ne (pe_callB call_absA (by rfl) bAbs (by decide +kernel) (pa_cons (pe_ix (ix_tupK (K := K)) (pe_ix (ix_tupK (K := K)) (pv 1) (pe_un un_neg pe_int) (fun _ _ => rfl)) pe_int (fun _ _ => rfl)) pa_nil)) pe_int (nomark _)))))))
    (pss_one ps_never)
    pss_nil)))), ?_⟩
    walk_at "go"
    refine ⟨d, ds, rfl, hd, ?_⟩
    walk_at "go"
    refine r_ixT (.of hr') a0 ?_
    walk_at "go"
    refine r_ixT (.of hr') a0 ?_
    walk_at "go"
    refine r_abs ?_
    rw [show (if (0, e0).2 < 0 then -(0, e0).2 else (0, e0).2) = 1 from abs_one k0]
    walk_at "go"
    refine r_ixT (.of hr') a1 ?_
    walk_at "go"
    refine r_abs ?_
    rw [show (if (wd, e1).2 < 0 then -(wd, e1).2 else (wd, e1).2) = 1 from abs_one k1]
    walk_at "go"
    exact k
theorem ok_division {f : Addr} {fd : FuncData} (F : Fun K "division" "division" s_division f fd) (B : Bl mg) (bS : mg "sorted" = none) (G_Poly : PolyT K mg C) (hp_Poly_span : HasP P w K mg base C "span" 1 ["self"] (spGetSpan C)) (hc_Poly : HasC P w K mg base "Poly" C 3 ["self", "terms"] (spInit C)) :
    FnOk P w K mg base CX0 5 f fd ["poly", "divisor"] (spDivision C) := by
  refine F.ok sc_division (fun vs H Q E h => ?_) (fun cdv A outer s H vs Q E hr h => ?_)
  · obtain ⟨a, d, ts, ds, wd, rfl, _⟩ := h
    rfl
  · obtain ⟨a, d, ts, ds, wd, rfl, ha, hd, D, ⟨ok1, ok2, BB, M, bB, bM, bM2, bP'⟩, near, wle, k⟩ := h
    have bP : BB * (1 + M) ^ stepsD ts wd < BG := Nat.lt_of_le_of_lt (Nat.le_mul_of_pos_left _ (by omega)) bP'
    obtain ⟨dx, r, vs, g1, hr1, ht1, hc1⟩ := id ha
    obtain ⟨dy, r2, ws, g2, hr2, ht2, hc2⟩ := id hd
    obtain ⟨e0, h0, k0⟩ := D.lo
    obtain ⟨e1, h1, k1⟩ := D.hi
    have ned : ds ≠ [] := by rintro rfl; cases h0
    obtain ⟨b, b', p, q, a0, hb0, a1, hb1, p0, q1⟩ := last_of ht2 ned
    cases h0.symm.trans p0
    cases h1.symm.trans q1
    have esp : spanOf ds = wd := by unfold spanOf; rw [h0, h1]; show wd - 0 = wd; omega
    have hvl := ht1.length
    have hwl := ht2.length
    have c0 : cof ds 0 = e0 := hc2.at (mem_head h0)
    have cw : cof ds wd = e1 := hc2.at (List.mem_of_getLast? h1)
    have w0 := D.w0
    refine ⟨_, (pss_cons (ps_set (i := 2) sc_division.nd rfl (.inl rfl) (pe_fldK (K := K) (pv 1)))
    (pss_cons (ps_set (i := 3) sc_division.nd rfl (.inl rfl) (pe_propH G_Poly.cl hp_Poly_span (hr.mono (by first | decide | omega)) (pv 1)))
    (pss_cons (ps_set (i := 4) sc_division.nd rfl (.inr rfl) pe_dnewK)
    (pss_cons (ps_for PassesOwn.never rfl (pi_tup (pe_fldK (K := K) (pv 0))) (pg_tup (by rfl) (pgs_cons (pg_name (i := 5) sc_division.nd rfl (.inl rfl)) (pgs_cons (pg_name (i := 6) sc_division.nd rfl (.inl rfl)) pgs_nil)))
    (pss_one (ps_dput (hu_of hr) (pv 4) (pv 5) (pv 6) rfl)))
    (pss_cons (ps_set (i := 7) sc_division.nd rfl (.inl rfl) (pe_lst pa_nil))
    (pss_cutM (ps_if (pt_cmpR op_gt (pe_callB (call_lenK (K := K)) (by rfl) B.b_len PySem.boot_len (pa_cons (pe_fldK (K := K) (pv 0)) pa_nil)) pe_int (nomark _))
    (pss_cons (ps_set (i := 8) sc_division.nd rfl (.inl rfl) (pe_tup (pa_cons (pe_ix (ix_tupK (K := K)) (pe_ix (ix_tupK (K := K)) (pe_fldK (K := K) (pv 0)) pe_int (fun _ _ => rfl)) pe_int (fun _ _ => rfl)) (pa_cons (pe_ix (ix_tupK (K := K)) (pe_ix (ix_tupK (K := K)) (pe_fldK (K := K) (pv 0)) (pe_un un_neg pe_int) (fun _ _ => rfl)) pe_int (fun _ _ => rfl)) pa_nil))))
    (pss_one (ps_for PassesOwn.never rfl (pi_list (pe_op op_cat (pe_listRg3 (by rfl) (by rfl) B.b_list (prg_3 (by rfl) B.b_range (pa_cons (pe_ix (ix_tupK (K := K)) (pv 8) pe_int (fun _ _ => rfl)) (pa_cons (pe_op op_sub (pv 3) pe_int) (pa_cons (pe_un un_neg pe_int) pa_nil))))) (pe_listRg (by rfl) (by rfl) B.b_list (prg_2 (by rfl) B.b_range (pe_ix (ix_tupK (K := K)) (pv 8) pe_int (fun _ _ => rfl)) pe_int)))) (pg_name (i := 5) sc_division.nd rfl (.inl rfl))
    (pss_cutM (ps_set (i := 9) sc_division.nd rfl (.inl rfl) (pe_ifExp (pt_cmpR op_ge (pv 5) (pv 3) (nomark _)) (pe_op op_sub (pv 5) (pv 3)) (pv 5)))
    (pss_cutM (ps_set (i := 10) sc_division.nd rfl (.inl rfl) (pe_op op_mulW (pe_dget2 (hu_of hr) (pv 4) (pv 5) pe_int ⟨rfl, rfl, rfl, rfl⟩) (pe_ix (ix_tupK (K := K)) (pe_ix (ix_tupK (K := K)) (pv 2) (pe_ifExp (pt_cmpR op_ge (pv 5) (pv 3) (nomark _)) (pe_un un_neg pe_int) pe_int) (fun _ _ => rfl)) pe_int (fun _ _ => rfl))))
    (pss_one (ps_if (pt_cmpR op_ne (pv 10) pe_int (nomark _))
    (pss_cons (ps_expr (pe_bm PySem.F.plainAttrs_list PySem.F.slot_list_append PySem.F.type_list_append mt_append (pv 7) (pa_cons (pe_tup (pa_cons (pv 9) (pa_cons (pv 10) pa_nil))) pa_nil)))
    (pss_one (ps_for PassesOwn.never rfl (pi_tup (pv 2)) (pg_tup (by rfl) (pgs_cons (pg_name (i := 11) sc_division.nd rfl (.inl rfl)) (pgs_cons (pg_name (i := 6) sc_division.nd rfl (.inl rfl)) pgs_nil)))
    (pss_one (ps_dput (hu_of hr) (pv 4) (pe_op op_add (pv 11) (pv 9)) (pe_op op_sub (pe_dget2 (hu_of hr) (pv 4) (pe_op op_add (pv 11) (pv 9)) pe_int ⟨rfl, rfl, rfl, rfl⟩) (pe_op op_mulW (pv 10) (pv 6))) rfl)))))
    pss_nil)))))))
    pss_nil)
    (pss_one (ps_ret (pe_tup (pa_cons (pe_makeH hc_Poly (hr.mono (by first | decide | omega)) (pa_cons (pv 7) pa_nil)) (pa_cons (pe_makeH hc_Poly (hr.mono (by first | decide | omega)) (pa_cons (pe_lc (own := [("power", 5)]) rfl sc_division.nd (pi_list (pe_callB call_sortedDA (by rfl) bS (by decide +kernel) (pa_cons (pv 4) pa_nil))) (blkOk_by (N := ["poly", "divisor", "rows", "width", "left", "power", "number", "terms", "ends", "shift", "factor", "other"]) (sc := defScope s_division) (by decide +kernel)) (fun _ _ _ _ _ => (pg_name (i := 5) sc_division.nd rfl (.inl rfl))) (fun _ _ _ _ _ => pts_nil) (fun _ _ _ _ _ => (pe_tup (pa_cons (pv 5) (pa_cons (pe_dget (hu_of hr) (pv 4) (pv 5) (fun _ _ => rfl)) pa_nil))))) pa_nil)) pa_nil))))))))))), ?_⟩
    walk_at "go"
    refine ⟨d, dy, _, rfl, g2, d, ds, rfl, hd, ?_⟩
    rw [esp]
    walk_at "go"
    intro dl ndl
    have hj0 : JarAt (upd H dl (.dK [])) dl 0 fun _ => 0 := .new
    have s0 : Same H (upd H dl (.dK [])) := Same.new0 ndl
    generalize upd H dl (.dK []) = H0 at *
    have hr10 := s0 _ _ hr1
    have g10 := s0 _ _ g1
    walk_at "go"
    refine u_forT (.of hr10) (fun i σ H' => ∃ (c : Int → Int) (y5 y6 : Option V), σ = [some (.ref a), some (.ref d), some (.ref r2), some (.int wd), some (.ref dl), y5, y6, none, none, none, none, none] ∧ Same H H' ∧ JarAt H' dl i c ∧ (∀ k, c k = cof (ts.take i) k) ∧ i ≤ vs.length) ?_ ?_ ?_ ?_
    · exact ⟨_, _, _, rfl, s0, hj0, fun k => rfl, Nat.zero_le _⟩
    · rintro i σ H' _ ⟨c, y5, y6, rfl, sm, _⟩
      exact .of (sm _ _ hr1)
    · rintro i x σ H' hx ⟨c, y5, y6, rfl, sm, hj, hc, hi⟩
      obtain ⟨b5, p, rfl, hp, hb⟩ := ht1.at i hx
      have hi2 := (List.getElem?_eq_some_iff.mp hx).1
      have hb' := sm _ _ hb
      walk_at "go"
      obtain ⟨H4, p1, b1, f1, j1⟩ := hj.dput (k := p.1) (v := p.2) (by omega)
      refine ⟨dl, H4, rfl, p1, _, _, _, rfl, Same.but2 sm ndl b1, j1, fun k => ?_, hi2⟩
      have et : ts.take (i + 1) = ts.take i ++ [p] := by rw [List.take_succ, hp]; rfl
      rw [et, cof_app]
      unfold addAt
      rw [cof, cof, hc]
      by_cases e : k = p.1
      · subst e; rw [if_pos rfl, if_pos rfl, take_low hc1 hp]; omega
      · rw [if_neg e, if_neg (fun h => e h.symm)]; omega
    · rintro σ H1 ⟨c, y5, y6, rfl, s1, hj1, hc, _⟩
      rw [List.take_of_length_le (by omega)] at hc
      have hj1 := hj1.ext hc
      clear hc hj0 s0 hr10 g10
      walk_at "go"
      intro tl ntl
      have tld : tl ≠ dl := hj1.ne ntl
      have hj2 := hj1.keep (o := .lst []) ntl
      have htl : (upd H1 tl (.lst [])) tl = some (.lst []) := upd_same
      have s2 : Same H (upd H1 tl (.lst [])) := Same.new s1 ntl
      have ntl0 : H tl = none := free_same s1 ntl
      generalize upd H1 tl (.lst []) = H2 at *
      have hr12 := s2 _ _ hr1
      have g12 := s2 _ _ g1
      refine r_cut (fun σ' H3 => ∃ (T : Terms) (L : Int → Int) (n : Nat) (acc : List V) (y5 y6 y8 y9 y10 y11 : Option V), Same H H3 ∧ H3 tl = some (.lst acc) ∧ TermsL H3 acc T ∧ T.length ≤ stepsD ts wd ∧ JarAt H3 dl n L ∧ n ≤ 90000 ∧ DivS0 ts ds wd T L ∧ (∀ p ∈ T, p.2.natAbs ≤ BB * (1 + M) ^ stepsD ts wd) ∧ σ' = [some (.ref a), some (.ref d), some (.ref r2), some (.int wd), some (.ref dl), y5, y6, some (.ref tl), y8, y9, y10, y11]) ?_ ?_
      · walk_at "go"
        refine r_iteD (fun hl => ?_) (fun hl => ?_)
        · have ne : ts ≠ [] := by rintro rfl; rw [List.length_nil] at hvl; omega
          obtain ⟨b, b', p, q, a0', hb0', a1', hb1', p0', q1'⟩ := last_of ht1 ne
          have hb02 := s2 _ _ hb0'
          have hb12 := s2 _ _ hb1'
          have est : stepsD ts wd = (q.1 - wd + 1).toNat + (-p.1).toNat := by unfold stepsD; rw [p0', q1']
          have np := near _ (mem_head p0')
          have nq := near _ (List.mem_of_getLast? q1')
          walk_at "go"
          refine r_ixT (.of hr12) a0' ?_
          walk_at "go"
          refine r_ixT (.of hr12) a1' ?_
          walk_at "go"
          intro el nel
          have hj3 := hj2.keep (o := .tup [.int p.1, .int q.1]) nel
          have htl3 : (upd H2 el (.tup [.int p.1, .int q.1])) tl = some (.lst []) := h_keep htl nel
          have hel3 : (upd H2 el (.tup [.int p.1, .int q.1])) el = some (.tup [.int p.1, .int q.1]) := upd_same
          have s3 : Same H (upd H2 el (.tup [.int p.1, .int q.1])) := Same.new s2 nel
          generalize upd H2 el (.tup [.int p.1, .int q.1]) = H3 at *
          walk_at "go"
          have n1e : (q.1 - (wd - 1)).toNat = (q.1 - wd + 1).toNat := by congr 1; omega
          have n2e : (0 - p.1).toNat = (-p.1).toNat := by congr 1; omega
          refine ⟨_, _, rfl, ⟨by omega, by omega, by omega, by omega, by omega⟩, fun l1 nl1 => ?_⟩
          have hel4 : (upd H3 l1 (.lst (rgD q.1 (wd - 1)))) el = some (.tup [.int p.1, .int q.1]) := h_keep hel3 nl1
          walk_at "go"
          refine ⟨_, _, rfl, rfl, ⟨by omega, by omega, by omega, by omega, by omega⟩, fun l2 nl2 => ?_⟩
          refine r_cat (xs := rgD q.1 (wd - 1)) (zs := rgV p.1 0) (h_keep upd_same nl2) upd_same (by rw [rgD_length, rgV_length]; omega) fun l3 nl3 => ?_
          have s4 : Same H3 (upd (upd (upd H3 l1 (.lst (rgD q.1 (wd - 1)))) l2 (.lst (rgV p.1 0))) l3 (.lst (rgD q.1 (wd - 1) ++ rgV p.1 0))) := Same.new (Same.new (Same.new0 nl1) nl2) nl3
          have hL : (upd (upd (upd H3 l1 (.lst (rgD q.1 (wd - 1)))) l2 (.lst (rgV p.1 0))) l3 (.lst (rgD q.1 (wd - 1) ++ rgV p.1 0))) l3 = some (.lst (rgD q.1 (wd - 1) ++ rgV p.1 0)) := upd_same
          have l3t : l3 ≠ tl := ne_of_none' nl3 ((Same.new (Same.new0 nl1) nl2) _ _ htl3)
          have l3d : l3 ≠ dl := ((hj3.same (Same.new (Same.new0 nl1) nl2)).ne nl3)
          generalize upd (upd (upd H3 l1 (.lst (rgD q.1 (wd - 1)))) l2 (.lst (rgV p.1 0))) l3 (.lst (rgD q.1 (wd - 1) ++ rgV p.1 0)) = H4 at *
          have htl4 := s4 _ _ htl3
          have hj4 := hj3.same s4
          have s5 := s3.trans s4
          clear s3 s4 hel3 hel4 htl3 hj3 nl1 nl2 nl3
          have hLl : (rgD q.1 (wd - 1) ++ rgV p.1 0).length = (q.1 - wd + 1).toNat + (-p.1).toNat := by rw [List.length_append, rgD_length, rgV_length, n1e, n2e]
          generalize hn1 : (q.1 - wd + 1).toNat = n1 at *
          have item : ∀ (i : Nat) (v : V), (rgD q.1 (wd - 1) ++ rgV p.1 0)[i]? = some v → ∃ pw : Int, v = .int pw ∧ ((i < n1 ∧ pw = q.1 - i) ∨ (n1 ≤ i ∧ pw = p.1 + ((i - n1 : Nat) : Int) ∧ pw < 0)) := by
            intro i v hv
            by_cases hi : i < n1
            · rw [List.getElem?_append_left (by rw [rgD_length, n1e]; exact hi)] at hv
              unfold rgD at hv
              rw [n1e, List.getElem?_map, List.getElem?_range hi] at hv
              cases hv
              exact ⟨_, rfl, .inl ⟨hi, rfl⟩⟩
            · rw [List.getElem?_append_right (by rw [rgD_length, n1e]; omega), rgD_length, n1e] at hv
              unfold rgV at hv
              rw [n2e, List.getElem?_map] at hv
              by_cases h2 : i - n1 < (-p.1).toNat
              · rw [List.getElem?_range h2] at hv
                cases hv
                exact ⟨_, rfl, .inr ⟨by omega, rfl, by omega⟩⟩
              · rw [List.getElem?_eq_none (by rw [List.length_range]; omega)] at hv
                cases hv
          generalize rgD q.1 (wd - 1) ++ rgV p.1 0 = xs at *
          refine u_forL (.of hL) (fun i σ H' => ∃ (T : Terms) (L : Int → Int) (n : Nat) (acc : List V) (y5 y6 y9 y10 y11 : Option V), Same H H' ∧ H' l3 = some (.lst xs) ∧ H' tl = some (.lst acc) ∧ TermsL H' acc T ∧ T.length ≤ i ∧ JarAt H' dl n L ∧ n ≤ ts.length + i * ds.length ∧ i ≤ xs.length ∧ DivS (cof ts) ds wd p.1 q.1 n1 i BB M T L ∧
            σ = [some (.ref a), some (.ref d), some (.ref r2), some (.int wd), some (.ref dl), y5, y6, some (.ref tl), some (.ref el), y9, y10, y11]) ?_ ?_ ?_ ?_
          · exact ⟨[], cof ts, _, [], _, _, _, _, _, s5, hL, htl4, rfl, Nat.zero_le _, hj4, by omega, Nat.zero_le _, .start (fun k hk => hc1.high q1' hk) (fun k hk => hc1.low' p0' hk) bB, rfl⟩
          · rintro i σ H' _ ⟨T, L, n, acc, y5, y6, y9, y10, y11, _, hl3, _⟩
            exact .of hl3
          · rintro i v σ H' hv ⟨T, L, n, acc, y5, y6, y9, y10, y11, s6, hl3, htl6, hT, hTl, hj6, hn6, hi6, S6, rfl⟩
            have hi7 := (List.getElem?_eq_some_iff.mp hv).1
            obtain ⟨pw, rfl, hpw⟩ := item i v hv
            have hr26 := s6 _ _ hr2
            have hb06 := s6 _ _ hb0
            have hb16 := s6 _ _ hb1
            have hnn : n + ds.length ≤ 90000 := by
              have : (i + 1) * ds.length ≤ stepsD ts wd * ds.length := Nat.mul_le_mul_right _ (by omega)
              rw [Nat.succ_mul] at this
              omega
            have hpow : BB * (1 + M) ^ i < BG := Nat.lt_of_le_of_lt (Nat.mul_le_mul_left _ (Nat.pow_le_pow_right (by omega) (by omega))) bP
            have sml : ∀ k, (L k).natAbs < BG := fun k => Nat.lt_of_le_of_lt (S6.bd k) hpow
            walk_at "go"
            refine r_cut (fun σ' H'' => ∃ s, H' = H'' ∧ ((wd ≤ pw ∧ s = pw - wd) ∨ (pw < wd ∧ s = pw)) ∧ σ' = [some (.ref a), some (.ref d), some (.ref r2), some (.int wd), some (.ref dl), some (.int pw), y6, some (.ref tl), some (.ref el), some (.int s), y10, y11]) ?_ ?_
            · walk_at "go"
              refine r_iteD (fun h => ?_) (fun h => ?_)
              · walk_at "go"
                exact ⟨_, rfl, .inl ⟨by omega, rfl⟩, rfl⟩
              · walk_at "go"
                exact ⟨_, rfl, .inr ⟨by omega, rfl⟩, rfl⟩
            rintro σ' _ ⟨s, rfl, hs, rfl⟩
            have m0 : CMulW (L pw) e0 := mulG (sml _) (one_BG k0)
            have m1 : CMulW (L pw) e1 := mulG (sml _) (one_BG k1)
            refine r_cut (fun σ' H'' => ∃ f, H' = H'' ∧ f.natAbs < BG ∧ (f = 0 → DivS (cof ts) ds wd p.1 q.1 n1 (i + 1) BB M T L) ∧ DivS (cof ts) ds wd p.1 q.1 n1 (i + 1) BB M (T ++ [(s, f)]) (fun k => L k - f * cof ds (k - s)) ∧
              σ' = [some (.ref a), some (.ref d), some (.ref r2), some (.int wd), some (.ref dl), some (.int pw), y6, some (.ref tl), some (.ref el), some (.int s), some (.int f), y11]) ?_ ?_
            · walk_at "go"
              obtain ⟨o, g1, g2⟩ := hj6.dget0 pw
              refine ⟨o, g1, ?_⟩
              rw [g2]
              walk_at "go"
              refine r_iteD (fun h => ?_) (fun h => ?_)
              · walk_at "go"
                refine r_ixT (.of hr26) a1 ?_
                walk_at "go"
                rcases hpw with ⟨hi, rfl⟩ | ⟨_, _, hneg⟩
                · have es : s = q.1 - i - wd := by omega
                  subst es
                  have S7 := S6.step1 D hn1.symm hi bM
                  rw [cw] at S7
                  refine ⟨_, rfl, ?_, fun h0 => S6.same ⟨fun _ => ?_, fun z => by omega⟩ hn1.symm, S7, rfl⟩
                  · have := sml (q.1 - i)
                    rcases k1 with rfl | rfl
                    · rw [Int.mul_one]; exact this
                    · rw [Int.mul_neg_one, Int.natAbs_neg]; exact this
                  · rcases k1 with rfl | rfl <;> omega
                · omega
              · walk_at "go"
                refine r_ixT (.of hr26) a0 ?_
                walk_at "go"
                rcases hpw with ⟨hi, rfl⟩ | ⟨hge, epw, hneg⟩
                · omega
                · have es : s = p.1 + ((i - n1 : Nat) : Int) := by omega
                  subst es
                  have S7 := S6.step2 D hn1.symm hge (by omega) bM
                  rw [c0, ← epw] at S7
                  refine ⟨_, rfl, ?_, fun h0 => S6.same ⟨fun z => by omega, fun _ => ?_⟩ hn1.symm, ?_, rfl⟩
                  · have := sml pw
                    rcases k0 with rfl | rfl
                    · rw [Int.mul_one]; exact this
                    · rw [Int.mul_neg_one, Int.natAbs_neg]; exact this
                  · rw [← epw]; rcases k0 with rfl | rfl <;> omega
                  · rw [← epw]; exact S7
            clear m0 m1 S6 sml hpow hb06 hb16
            rintro σ' _ ⟨f, rfl, fb, hz, S7, rfl⟩
            walk_at "go"
            refine r_iteN (fun hf => ?_) (fun hf => ?_)
            · have acl : acc.length < 100000 := by rw [hT.length]; omega
              walk_at "go"
              intro t nt
              have hj7 := hj6.keep (o := .tup [.int s, .int f]) nt
              have htl7 : (upd H' t (.tup [.int s, .int f])) tl = some (.lst acc) := h_keep htl6 nt
              have tt : t ≠ tl := ne_of_none' nt htl6
              walk_at "go"
              have hT8 : TermsL (upd (upd H' t (.tup [.int s, .int f])) tl (.lst (acc ++ [.ref t]))) (acc ++ [.ref t]) (T ++ [(s, f)]) := by
                have t1 : Tk H' (upd (upd H' t (.tup [.int s, .int f])) tl (.lst (acc ++ [.ref t]))) := ((Tk.refl _).new nt).lst htl7
                exact (hT.tk t1).app (.one ((upd_ne tt).trans upd_same))
              have hj8 : JarAt (upd (upd H' t (.tup [.int s, .int f])) tl (.lst (acc ++ [.ref t]))) dl n L := hj7.upd tld.symm
              have hl8 : (upd (upd H' t (.tup [.int s, .int f])) tl (.lst (acc ++ [.ref t]))) l3 = some (.lst xs) := (upd_ne l3t).trans (h_keep hl3 nt)
              have htl8 : (upd (upd H' t (.tup [.int s, .int f])) tl (.lst (acc ++ [.ref t]))) tl = some (.lst (acc ++ [.ref t])) := upd_same
              have s8 : Same H (upd (upd H' t (.tup [.int s, .int f])) tl (.lst (acc ++ [.ref t]))) := Same.put (Same.new s6 nt) ntl0
              generalize upd (upd H' t (.tup [.int s, .int f])) tl (.lst (acc ++ [.ref t])) = H8 at *
              refine u_forT (.of (s8 _ _ hr2)) (fun j σ H9 => ∃ (c : Int → Int) (z6 z11 : Option V), σ = [some (.ref a), some (.ref d), some (.ref r2), some (.int wd), some (.ref dl), some (.int pw), z6, some (.ref tl), some (.ref el), some (.int s), some (.int f), z11] ∧ But dl H8 H9 ∧ JarAt H9 dl (n + j) c ∧ (∀ k, c k = L k - f * cof (ds.take j) (k - s)) ∧ j ≤ ws.length) ?_ ?_ ?_ ?_
              · exact ⟨L, _, _, rfl, But.refl _ _, hj8, fun k => by rw [List.take_zero, cof]; omega, Nat.zero_le _⟩
              · rintro j σ H9 _ ⟨c, z6, z11, rfl, bu, _⟩
                exact .of (bu _ _ (Ne.symm (ne_of_none' ndl hr2)) (s8 _ _ hr2))
              · rintro j y σ H9 hy ⟨c, z6, z11, rfl, bu, hj9, hc9, hjl⟩
                obtain ⟨e', q', rfl, hq', hb'⟩ := ht2.at j hy
                have hj2' := (List.getElem?_eq_some_iff.mp hy).1
                have hb9 := bu _ _ (Ne.symm (ne_of_none' ndl hb')) (s8 _ _ hb')
                have mm : CMulW f q'.2 := mulG fb (Nat.lt_of_le_of_lt (by rw [← hc2.at (List.mem_of_getElem? hq')]; exact bM _) bM2)
                walk_at "go"
                obtain ⟨o, g1, g2⟩ := hj9.dget0 (q'.1 + s)
                refine ⟨o, g1, ?_⟩
                rw [g2]
                walk_at "go"
                obtain ⟨H10, p10, b10, f10, j10⟩ := hj9.dput (k := q'.1 + s) (v := c (q'.1 + s) - f * q'.2) (by omega)
                refine ⟨dl, H10, rfl, p10, _, _, _, rfl, bu.trans b10, j10, fun k => ?_, hj2'⟩
                have et : ds.take (j + 1) = ds.take j ++ [q'] := by rw [List.take_succ, hq']; rfl
                rw [et, cof_app]
                unfold addAt
                rw [cof, cof]
                by_cases e : k = q'.1 + s
                · subst e
                  rw [if_pos rfl, hc9, if_pos (by omega), Int.mul_add, Int.mul_add]; omega
                · rw [if_neg e, hc9, if_neg (by omega)]; simp
              · rintro σ H9 ⟨c, z6, z11, rfl, bu, hj9, hc9, hjl⟩
                rw [List.take_of_length_le (by omega)] at hc9
                have hn' : n + ws.length ≤ ts.length + (i + 1) * ds.length := by rw [Nat.succ_mul]; omega
                refine ⟨T ++ [(s, f)], _, n + ws.length, acc ++ [.ref t], _, _, _, _, _, Same.but2 s8 ndl bu, bu _ _ l3d hl8, bu _ _ tld htl8, hT8.tk fun x o e => bu _ _ (by rintro rfl; obtain ⟨kvs, ek, _⟩ := hj8; rw [ek] at e; cases e) e, by rw [List.length_append]; simp; omega, hj9.ext hc9, hn', by omega, S7, rfl⟩
            · walk_at "go"
              exact ⟨T, L, n, acc, _, _, _, _, _, s6, hl3, htl6, hT, by omega, hj6, by rw [Nat.succ_mul]; omega, by omega, hz (by omega), rfl⟩
          · rintro σ H' ⟨T, L, n, acc, y5, y6, y9, y10, y11, s6, hl3, htl6, hT, hTl, hj6, hn6, hi6, S6, rfl⟩
            rw [hLl] at hTl hn6 S6
            refine ⟨T, L, n, acc, _, _, _, _, _, _, s6, htl6, hT, by omega, hj6, by rw [est] at ok1; omega, ⟨S6.eq, fun k hk => S6.dn k hk (by omega), fun k hk => S6.up k hk (by omega)⟩, by rw [est]; exact S6.tb, rfl⟩
        · have e : ts = [] := List.length_eq_zero_iff.mp (by omega)
          subst e
          walk_at "go"
          exact ⟨[], cof [], _, [], _, _, _, _, _, _, s2, htl, rfl, Nat.zero_le _, hj2, by omega, ⟨fun k => by rw [cmul]; omega, fun _ _ => rfl, fun _ _ => rfl⟩, fun _ h => absurd h (by simp), rfl⟩
      rintro σ' H3 ⟨T, L, n, acc, z5, z6, z8, z9, z10, z11, s3, htl3, hT, hTl, hj3, hn, ⟨eq, low, high⟩, htb, rfl⟩
      walk_at "go"
      refine u_poly (l := tl) (ts := T) ⟨acc, htl3, hT⟩ (by omega) fun qa qs H4 nqa s4 hqa hcq lq => ?_
      have hj4 := hj3.same s4
      walk_at "go"
      refine rSortDJ hj4 fun ys sl hys hz hlen hget nsl => ?_
      have hj5 := hj4.keep (o := .lst (ys.map V.int)) nsl
      refine u_lcL (.of upd_same) (fun D i acc H2 => (TermsL H2 acc ((ys.take i).map fun k => (k, L k)) ∧ i ≤ ys.length) ∧ Same (upd H4 sl (.lst (ys.map V.int))) H2) ?_ ?_ ?_ ?_
      · exact fun D hD => ⟨⟨rfl, Nat.zero_le _⟩, Same.new0 hD⟩
      · exact fun D i acc H2 _ _ ⟨_, s1⟩ => .of (s1 _ _ upd_same)
      · rintro D i x acc H2 hD hx hacc ⟨⟨ht2, hi0⟩, s1⟩
        rw [List.getElem?_map] at hx
        cases hy : ys[i]? with
        | none => rw [hy] at hx; cases hx
        | some y =>
          rw [hy] at hx
          cases hx
          obtain ⟨hi2, ey⟩ := List.getElem?_eq_some_iff.mp hy
          have hj2 := hj5.same s1
          have et : ys.take (i + 1) = ys.take i ++ [y] := by rw [List.take_succ, hy]; rfl
          have hm2 := (hget y (List.mem_of_getElem? hy)).same ((Same.new0 nsl).trans s1)
          walk_at "go"
          refine ⟨rfl, ?_⟩
          walk_at "go"
          refine ⟨dl, _, rfl, hj2.dget hm2, ?_⟩
          walk_at "go"
          intro t nt
          have al : acc.length ≤ i := by rw [ht2.length, List.length_map, List.length_take]; omega
          refine u_push (h_keep hacc nt) (by omega) ⟨⟨?_, hi2⟩, Same.put (Same.new s1 nt) hD⟩
          have t1 : Tk H2 (upd (upd H2 t (.tup [.int y, .int (L y)])) D (.lst (acc ++ [.ref t]))) := ((Tk.refl _).new nt).lst (h_keep hacc nt)
          rw [et, List.map_append]
          exact (ht2.tk t1).app (.one ((upd_ne (ne_of_none hacc nt).symm).trans upd_same))
      · rintro D acc H5 hD hacc ⟨⟨ht2, hi0⟩, s5⟩
        rw [List.take_of_length_le (by simp)] at ht2
        walk_at "go"
        refine u_poly (l := D) (ts := ys.map fun k => (k, L k)) ⟨acc, hacc, ht2⟩ (by rw [List.length_map]; omega) fun ra rs H6 nra s6 hra hcr lr => ?_
        walk_at "go"
        intro t nt
        have hL : ∀ k, cof rs k = L k := fun k => by
          rw [hcr, cof_map hys]
          by_cases hm : k ∈ ys
          · rw [if_pos hm]
          · rw [if_neg hm, hz k hm]
        have sA : Same H4 H6 := ((Same.new0 nsl).trans s5).trans s6
        have sB : Same H H6 := (s3.trans s4).trans sA
        exact k t qa ra qs rs _ (free_same sB nt) (Same.new sB nt) upd_same (hqa.same (Same.new sA nt)) (hra.same (Same.new0 nt))
          ⟨fun k => by rw [eq, hL, cmul_ext (fun j => (hcq j).symm) (fun _ => rfl)], fun k hk => by rw [hL]; exact low k hk, fun k hk => by rw [hL]; exact high k hk⟩ (by omega) (fun k => by
            show (cof qs k).natAbs < BG
            rw [hcq]
            refine Nat.lt_of_le_of_lt (cof_le k htb) (Nat.lt_of_le_of_lt (Nat.mul_le_mul_right _ (by omega)) bP'))
theorem ok_Poly_divided {f : Addr} {fd : FuncData} (F : Fun K "divided" "Poly.divided" s_Poly_divided f fd) (h_check_divisor : Has P w K mg base "check_divisor" 2 ["value"] (spCheckDiv C)) (h_division : Has P w K mg base "division" 5 ["poly", "divisor"] (spDivision C)) : FnOk P w K mg base CX0 6 f fd ["self", "divisor"] (spDivision C) := by
  refine F.ok sc_Poly_divided (fun vs H Q E h => ?_) (fun cdv A outer s H vs Q E hr h => ?_)
  · obtain ⟨a, d, ts, ds, wd, rfl, _⟩ := h
    rfl
  · obtain ⟨a, d, ts, ds, wd, rfl, ha, hd, D, r⟩ := h
    refine ⟨_, (pss_cons (ps_expr (pe_callH h_check_divisor (hr.mono (by first | decide | omega)) (pa_cons (pv 1) pa_nil)))
    (pss_one (ps_ret (pe_callH h_division (hr.mono (by first | decide | omega)) (pa_cons (pv 0) (pa_cons (pv 1) pa_nil)))))), ?_⟩
    walk_at "go"
    refine ⟨d, ds, wd, rfl, hd, D, ?_⟩
    walk_at "go"
    exact ⟨a, d, ts, ds, wd, rfl, ha, hd, D, r⟩
theorem ok_Poly_floordiv {f : Addr} {fd : FuncData} (F : Fun K "__floordiv__" "Poly.__floordiv__" s_Poly___floordiv__ f fd) (h_check_divisor : Has P w K mg base "check_divisor" 2 ["value"] (spCheckDiv C)) (h_division : Has P w K mg base "division" 5 ["poly", "divisor"] (spDivision C)) : FnOk P w K mg base CX0 6 f fd ["self", "divisor"] (spFloor C) := by
  refine F.ok sc_Poly___floordiv__ (fun vs H Q E h => ?_) (fun cdv A outer s H vs Q E hr h => ?_)
  · obtain ⟨a, d, ts, ds, wd, rfl, _⟩ := h
    rfl
  · obtain ⟨a, d, ts, ds, wd, rfl, ha, hd, D, o, n, wl, k⟩ := h
    refine ⟨_, (pss_cons (ps_expr (pe_callH h_check_divisor (hr.mono (by first | decide | omega)) (pa_cons (pv 1) pa_nil)))
    (pss_one (ps_ret (pe_ix (ix_tupK (K := K)) (pe_callH h_division (hr.mono (by first | decide | omega)) (pa_cons (pv 0) (pa_cons (pv 1) pa_nil))) pe_int (fun _ _ => rfl))))), ?_⟩
    walk_at "go"
    refine ⟨d, ds, wd, rfl, hd, D, ?_⟩
    walk_at "go"
    refine ⟨a, d, ts, ds, wd, rfl, ha, hd, D, o, n, wl, fun t q r qs rs H' nt s ht hq hr R l sm => ?_⟩
    walk_at "go"
    exact k q qs rs H' s hq R l sm
end
end My

set_option Elab.async false
set_option linter.all false
set_option maxRecDepth 100000
set_option maxHeartbeats 4000000

namespace My
open PySem PySem.Spec PyProof.Rows L2
section
variable {P : Program} {w : World} {K : PySem.W.Frag} {mg : Str → Option Value} {base : Heap} {C : Addr}
local macro_rules | `(tactic| walk_at "isi") => `(tactic| (first
  | (with_reducible refine r_is_int_int ?_)
  | (with_reducible refine r_is_int_bool ?_)
  | (with_reducible refine r_is_int_str ?_)
  | (with_reducible refine r_is_int_list ?_)
  | (with_reducible refine r_is_int_tuple ?_)
  | (with_reducible refine r_is_bool_int ?_)
  | (with_reducible refine r_is_bool_bool ?_)
  | (with_reducible refine r_is_bool_str ?_)
  | (with_reducible refine r_is_bool_list ?_)
  | (with_reducible refine r_is_bool_tuple ?_)
  | (with_reducible refine r_is_str_int ?_)
  | (with_reducible refine r_is_str_bool ?_)
  | (with_reducible refine r_is_str_str ?_)
  | (with_reducible refine r_is_str_list ?_)
  | (with_reducible refine r_is_str_tuple ?_)
  | ((with_reducible refine r_is_list_int (xs := ?xx) ?hh ?_); (case hh => walk_at "hp"))
  | ((with_reducible refine r_is_list_bool (xs := ?xx) ?hh ?_); (case hh => walk_at "hp"))
  | ((with_reducible refine r_is_list_str (xs := ?xx) ?hh ?_); (case hh => walk_at "hp"))
  | ((with_reducible refine r_is_list_list (xs := ?xx) ?hh ?_); (case hh => walk_at "hp"))
  | ((with_reducible refine r_is_list_tuple (xs := ?xx) ?hh ?_); (case hh => walk_at "hp"))
  | ((with_reducible refine r_is_tuple_int (xs := ?xx) ?hh ?_); (case hh => walk_at "hp"))
  | ((with_reducible refine r_is_tuple_bool (xs := ?xx) ?hh ?_); (case hh => walk_at "hp"))
  | ((with_reducible refine r_is_tuple_str (xs := ?xx) ?hh ?_); (case hh => walk_at "hp"))
  | ((with_reducible refine r_is_tuple_list (xs := ?xx) ?hh ?_); (case hh => walk_at "hp"))
  | ((with_reducible refine r_is_tuple_tuple (xs := ?xx) ?hh ?_); (case hh => walk_at "hp"))
  | (with_reducible refine r_is_NoneType_int ?_)
  | (with_reducible refine r_is_NoneType_bool ?_)
  | (with_reducible refine r_is_NoneType_str ?_)
  | (with_reducible refine r_is_NoneType_list ?_)
  | (with_reducible refine r_is_NoneType_tuple ?_)))
local macro_rules | `(tactic| walk_at "ne") => `(tactic| first | assumption | (refine Ne.symm ?_; assumption) | exact Bag.ne (by assumption) (by assumption) | exact ne_of_none (by assumption) (by assumption))
local macro_rules | `(tactic| walk_at "hp") => `(tactic| (first
  | assumption
  | exact upd_same
  | (refine h_keep ?_ (by assumption); walk_at "hp")
  | (refine (upd_ne (by walk_at "ne")).trans ?_; walk_at "hp")
  | (refine Same.at (by assumption) ?_; walk_at "hp")
  | (refine But.at (by assumption) (by walk_at "ne") ?_; walk_at "hp")
  | (refine But2.at (by assumption) (by walk_at "ne") (by walk_at "ne") ?_; walk_at "hp")))
local macro_rules | `(tactic| walk_at "side") => `(tactic| first | assumption | omega | (refine ⟨?_, ?_⟩ <;> first | assumption | omega | decide) | decide | (refine ⟨by decide, by decide, by decide⟩) | (left; refine ⟨?_, ?_⟩ <;> first | omega | decide) | (right; refine ⟨?_, ?_⟩ <;> first | omega | decide) | (simp; done))
local macro_rules | `(tactic| walk_at "cond") => `(tactic| first | assumption | exact rfl | omega | (simp only [List.length_cons, List.length_nil]; omega) | decide +kernel)
local macro_rules | `(tactic| walk_at "s") => `(tactic| (first
  | ((with_reducible refine r_var (v := ?vv) ?ee ?_); (case ee => exact rfl))
  | (with_reducible refine r_c ?_)
  | (with_reducible refine r_op ?_)
  | (with_reducible refine r_un ?_)
  | (with_reducible refine r_rI0 ?_)
  | ((with_reducible refine r_rI ?cc ?_); (case cc => walk_at "side"))
  | (with_reducible refine r_rU ?_)
  | (with_reducible refine r_eqI ?_)
  | (with_reducible refine r_neI ?_)
  | (with_reducible refine r_eqB ?_)
  | (with_reducible refine r_neB ?_)
  | (with_reducible refine r_eqS ?_)
  | (with_reducible refine r_neS ?_)
  | ((with_reducible refine r_eq ?ee ?_); (case ee => exact rfl))
  | ((with_reducible refine r_ne ?ee ?_); (case ee => exact rfl))
  | ((with_reducible refine r_ixL (v := ?vv) (xs := ?xx) ?hh ?ee ?_); (case hh => (refine SqL.of ?_; walk_at "hp")); (case ee => exact rfl))
  | (with_reducible refine r_cb ?_)
  | (with_reducible refine r_call ?_)
  | (with_reducible refine r_cons ?_)
  | (with_reducible refine r_nil ?_)
  | (with_reducible refine r_lst ?_)
  | (with_reducible refine r_tup ?_)
  | ((with_reducible refine r_new ?cc ?_); (case cc => walk_at "side"))
  | (with_reducible refine r_exbl ?_)
  | (with_reducible refine r_exint ?_)
  | (with_reducible refine r_exint2 ?_)
  | (with_reducible refine r_exblL ?_)
  | (with_reducible refine r_ex2 ?_)
  | (with_reducible refine r_test ?_)
  | (with_reducible refine r_tB ?_)
  | (with_reducible refine r_not ?_)
  | (with_reducible refine r_and ?_)
  | (with_reducible refine r_or ?_)
  | (with_reducible refine r_andV ?_)
  | (with_reducible refine r_orV ?_)
  | (with_reducible refine r_notV ?_)
  | (with_reducible refine r_tif ?_)
  | (with_reducible refine r_iteT ?_)
  | (with_reducible refine r_iteNT ?_)
  | (with_reducible refine r_iteNF ?_)
  | (with_reducible refine r_iteF ?_)
  | (with_reducible refine r_seq ?_)
  | (with_reducible refine r_next ?_)
  | (with_reducible refine r_brk ?_)
  | (with_reducible refine r_cont ?_)
  | (with_reducible refine r_asg ?_)
  | (with_reducible refine r_gname ?_)
  | (with_reducible refine r_ret ?_)
  | (with_reducible refine r_retN ?_)
  | (with_reducible refine r_drop ?_)
  | (with_reducible refine r_if ?_)
  | ((with_reducible refine r_aug (x := ?xx) ?ee ?_); (case ee => exact rfl))
  | (with_reducible refine r_ipI ?_)
  | (with_reducible refine r_augS ?_)
  | (with_reducible refine r_gsub ?_)
  | ((with_reducible refine r_setL (xs := ?xx) (m := ?mm) ?hh ?ee ?_); (case hh => walk_at "hp"); (case ee => exact rfl))
  | (with_reducible refine r_par ?_)
  | (with_reducible refine r_bm ?_)
  | ((with_reducible refine r_tyL (xs := ?xx) ?hh ?_); (case hh => walk_at "hp"))
  | ((with_reducible refine r_append (xs := ?xx) ?hh ?ll ?_); (case hh => walk_at "hp"); (case ll => walk_at "side"))
  | (walk_at "isi")
  | (with_reducible refine r_for ?_)
  | (with_reducible refine r_iList ?_)
  | (with_reducible refine r_iTup ?_)
  | (with_reducible refine r_iR1 ?_)
  | (with_reducible refine r_iR2 ?_)
  | (with_reducible refine r_lc ?_)
  | (with_reducible refine r_yes ?_)
  | ((with_reducible refine r_lenS ?ll ?_); (case ll => walk_at "side"))
  | (with_reducible refine r_leS ?_)
  | (with_reducible refine r_chain ?_)
  | (with_reducible refine r_tM1 ?_)
  | (with_reducible refine r_exS ?_)
  | ((with_reducible refine r_tupL (xs := ?xx) ?hh ?_); (case hh => walk_at "hp"))
  | ((with_reducible refine r_listL (xs := ?xx) ?hh ?_); (case hh => walk_at "hp"))
  | ((with_reducible refine r_listT (xs := ?xx) ?hh ?_); (case hh => walk_at "hp"))
  | ((with_reducible refine r_ixT (v := ?vv) (xs := ?xx) ?hh ?ee ?_); (case hh => (refine SqT.of ?_; walk_at "hp")); (case ee => exact rfl))
  | (with_reducible refine r_sl ?_)
  | (with_reducible refine r_nopart ?_)
  | (with_reducible refine r_part ?_)
  | (with_reducible refine r_exI ?_)
  | ((with_reducible refine r_slL (xs := ?xx) ?hh ?_); (case hh => first | assumption | (refine SqL.of ?_; walk_at "hp") | (refine Same.seq (by assumption) (by assumption))))
  | ((with_reducible refine r_cat (xs := ?xx) (zs := ?zz) ?hh ?ii ?ll ?_); (case hh => walk_at "hp"); (case ii => walk_at "hp"); (case ll => walk_at "side"))
  | ((with_reducible refine r_lenL (xs := ?xx) ?hh ?_); (case hh => walk_at "hp"))
  | ((with_reducible refine r_lenT (xs := ?xx) ?hh ?_); (case hh => walk_at "hp"))
  | ((with_reducible refine r_gTup (xs := ?xx) ?hh ?ll ?_); (case hh => walk_at "hp"); (case ll => exact rfl))
  | (with_reducible refine r_gCons ?_)
  | (with_reducible refine r_gNil ?_)
  | ((with_reducible refine r_iteDT ?cc ?_); (case cc => walk_at "cond"))
  | ((with_reducible refine r_iteDF ?cc ?_); (case cc => walk_at "cond"))
  | ((with_reducible refine r_iteNDT ?cc ?_); (case cc => walk_at "cond"))
  | ((with_reducible refine r_iteNDF ?cc ?_); (case cc => walk_at "cond"))
  ))
local macro_rules | `(tactic| walk_at "go") => `(tactic| repeat (walk_at "s"))

local macro_rules | `(tactic| walk_at "s") => `(tactic| (first
  | (with_reducible refine r_dnew ?_)
  | (with_reducible refine r_dget2 ?_)
  | (with_reducible refine r_dget ?_)
  | (with_reducible refine r_dput ?_)
  | (with_reducible refine r_dsetd ?_)
  | ((with_reducible refine JarAt.isD (n := ?nn) (c := ?cc) ?hh ?_); (case hh => assumption))
  ))

local macro_rules | `(tactic| walk_at "s") => `(tactic| (first
  | (with_reducible refine r_prop ?_)
  | (with_reducible refine r_meth ?_)
  | (with_reducible refine r_make ?_)
  | (with_reducible refine r_fld ?_)
  | (with_reducible refine r_sfld ?_)
  | (with_reducible refine r_iOwn ?_)
  | ((with_reducible refine u_rowsAt (mg := ?mm) (C := ?CC) (dx := ?dd) (fv := ?vv) ?tt ?hh ?_); (case tt => assumption); (case hh => walk_at "hp"))
  | ((with_reducible refine r_isPoly (mg := ?mm) (dx := ?dd) (fs := ?ff) ?tt ?hh ?_); (case tt => assumption); (case hh => walk_at "hp"))
  | ((with_reducible refine r_isPolyI (mg := ?mm) ?tt ?_); (case tt => assumption))
  | ((with_reducible refine r_polyInt (mg := ?mm) (C := ?CC) (dx := ?dd) (fs := ?ff) ?tt ?hh ?_); (case tt => assumption); (case hh => walk_at "hp"))
  ))

theorem ok_Poly_rmul {f : Addr} {fd : FuncData} (F : Fun K "__rmul__" "Poly.__rmul__" s_Poly___rmul__ f fd) (h_as_poly : Has P w K mg base "as_poly" 5 ["value"] (spAsPoly C)) (h_product : Has P w K mg base "product" 5 ["one", "two"] (spProduct C)) : FnOk P w K mg base CX0 6 f fd ["self", "other"] (spMul C mulF) := by
  refine F.ok sc_Poly___rmul__ (fun vs H Q E h => ?_) (fun cdv A outer s H vs Q E hr h => ?_)
  · obtain ⟨a, ts, v, c, n, rfl, _⟩ := h
    rfl
  · obtain ⟨a, ts, v, c, n, rfl, ha, hv, hn, sm1, sm2, k⟩ := h
    refine ⟨_, (pss_one (ps_ret (pe_callH h_product (hr.mono (by first | decide | omega)) (pa_cons (pe_callH h_as_poly (hr.mono (by first | decide | omega)) (pa_cons (pv 1) pa_nil)) (pa_cons (pv 0) pa_nil))))), ?_⟩
    walk_at "go"
    refine ⟨v, c, n, rfl, hv, fun b us H1 s1 hb hcb hlb => ?_⟩
    walk_at "go"
    have hlm : us.length * ts.length ≤ ts.length * n := by rw [Nat.mul_comm]; exact Nat.mul_le_mul_left _ hlb
    refine ⟨b, a, us, ts, rfl, hb, ha.same s1, by omega, fun j => by rw [hcb]; exact sm2 j, sm1, fun p ws H2 s2 hp hcp hlp => ?_⟩
    walk_at "go"
    refine k p ws H2 (s1.trans s2) hp (fun j => (hcp j).trans ((mulF_comm (fun _ => rfl) (fun _ => rfl) j).trans (mulF_ext (fun _ => rfl) hcb j))) (by omega)
theorem ok_Poly_raised {f : Addr} {fd : FuncData} (F : Fun K "raised" "Poly.raised" s_Poly_raised f fd) (B : Bl mg) (G_Poly : PolyT K mg C) (hc_Poly : HasC P w K mg base "Poly" C 3 ["self", "terms"] (spInit C)) (h_check_number : Has P w K mg base "check_number" 2 ["value"] spPNum) (h_product : Has P w K mg base "product" 5 ["one", "two"] (spProduct C)) : FnOk P w K mg base CX0 6 f fd ["self", "number"] (spRaised C) := by
  refine F.ok sc_Poly_raised (fun vs H Q E h => ?_) (fun cdv A outer s H vs Q E hr h => ?_)
  · obtain ⟨a, ts, n, rfl, _⟩ := h
    rfl
  · obtain ⟨a, ts, n, rfl, ha, hn, hl, hA, k⟩ := h
    refine ⟨_, (pss_cons (ps_expr (pe_callH h_check_number (hr.mono (by first | decide | omega)) (pa_cons (pv 1) pa_nil)))
    (pss_cons (ps_if (pt_cmpR op_lt (pv 1) pe_int (nomark _))
    (pss_one ps_never)
    pss_nil)
    (pss_cons (ps_set (i := 2) sc_Poly_raised.nd rfl (.inl rfl) (pe_makeH hc_Poly (hr.mono (by first | decide | omega)) (pa_cons (pe_lst (pa_cons (pe_tup (pa_cons pe_int (pa_cons pe_int pa_nil))) pa_nil)) pa_nil)))
    (pss_cons (ps_for PassesOwn.never rfl (pi_range1 (by rfl) B.b_range (pa_cons (pv 1) pa_nil)) (pg_name (i := 3) sc_Poly_raised.nd rfl (.inl rfl))
    (pss_one (ps_set (i := 2) sc_Poly_raised.nd rfl (.inl rfl) (pe_callH h_product (hr.mono (by first | decide | omega)) (pa_cons (pv 2) (pa_cons (pv 0) pa_nil))))))
    (pss_one (ps_ret (pv 2))))))), ?_⟩
    walk_at "go"
    refine ⟨_, rfl, ?_⟩
    walk_at "go"
    intro t nt
    walk_at "go"
    intro l nl
    walk_at "go"
    refine u_poly (l := l) (ts := [(0, 1)]) ⟨[.ref t], upd_same, .one (h_keep upd_same nl)⟩ (by decide) fun r0 w0 H1 nr s1 hr0 hc0 hl0 => ?_
    have sA : Same H H1 := (Same.new (Same.new0 nt) nl).trans s1
    walk_at "go"
    have hsm : Sm (cof ts) := fun j => Nat.lt_of_le_of_lt (hA j) (by decide +kernel)
    refine u_for1 (n := (n : Int)) ⟨by omega, by omega⟩ (fun i σ H' => ∃ (r : Addr) (ws : Terms) (y : Option V), σ = [some (.ref a), some (.int n), some (.ref r), y] ∧ Same H H' ∧ PolyAt C H' r ws ∧ (∀ k, cof ws k = powF (cof ts) i k) ∧ ws.length ≤ ts.length ^ i ∧ ∀ k, (cof ws k).natAbs ≤ (90000 * 10 ^ 45) ^ i) ?_ ?_ ?_
    · refine ⟨_, _, _, rfl, sA, hr0, fun j => (hc0 j).trans (cof_one 1 j), hl0, fun j => ?_⟩
      rw [hc0, cof_one, one0]
      split <;> decide
    · rintro i σ H2 hi ⟨r, ws, y, rfl, s2, hr2, hc2, hl2, hb2⟩
      have li := hl i (by omega)
      have li1 := hl (i + 1) (by omega)
      have lm : ws.length * ts.length ≤ ts.length ^ (i + 1) := by rw [Nat.pow_succ]; exact Nat.mul_le_mul_right _ hl2
      walk_at "go"
      refine ⟨r, a, ws, ts, rfl, hr2, ha.same s2, by omega, fun j => Nat.lt_of_le_of_lt (hb2 j) (pow_small (Nat.le_refl _) (by omega)), hsm, fun p vs H3 s3 hp hcp hlp => ?_⟩
      walk_at "go"
      refine ⟨p, vs, _, rfl, s2.trans s3, hp, fun j => (hcp j).trans (mulF_ext hc2 (fun _ => rfl) j), by omega, fun j => ?_⟩
      obtain ⟨_, _, _, _, _, _, cw⟩ := id hr2
      rw [hcp]
      refine Nat.le_trans (mulF_le cw (fun _ => rfl) hb2 hA (fun _ => rfl) j) ?_
      rw [Nat.pow_succ]
      refine Nat.le_trans (Nat.mul_le_mul_right _ (Nat.le_trans hl2 li)) ?_
      rw [Nat.mul_left_comm]
      exact Nat.le_refl _
    · rintro σ H2 ⟨r, ws, y, rfl, s2, hr2, hc2, hl2, hb2⟩
      walk_at "go"
      exact k r ws H2 s2 hr2 hc2 hl2
end
end My

set_option Elab.async false
set_option linter.all false
set_option maxRecDepth 100000
set_option maxHeartbeats 4000000

namespace My
open PySem PySem.Spec PyProof.Rows L2
section
variable {P : Program} {w : World} {K : PySem.W.Frag} {mg : Str → Option Value} {base : Heap} {C : Addr}
local macro_rules | `(tactic| walk_at "isi") => `(tactic| (first
  | (with_reducible refine r_is_int_int ?_)
  | (with_reducible refine r_is_int_bool ?_)
  | (with_reducible refine r_is_int_str ?_)
  | (with_reducible refine r_is_int_list ?_)
  | (with_reducible refine r_is_int_tuple ?_)
  | (with_reducible refine r_is_bool_int ?_)
  | (with_reducible refine r_is_bool_bool ?_)
  | (with_reducible refine r_is_bool_str ?_)
  | (with_reducible refine r_is_bool_list ?_)
  | (with_reducible refine r_is_bool_tuple ?_)
  | (with_reducible refine r_is_str_int ?_)
  | (with_reducible refine r_is_str_bool ?_)
  | (with_reducible refine r_is_str_str ?_)
  | (with_reducible refine r_is_str_list ?_)
  | (with_reducible refine r_is_str_tuple ?_)
  | ((with_reducible refine r_is_list_int (xs := ?xx) ?hh ?_); (case hh => walk_at "hp"))
  | ((with_reducible refine r_is_list_bool (xs := ?xx) ?hh ?_); (case hh => walk_at "hp"))
  | ((with_reducible refine r_is_list_str (xs := ?xx) ?hh ?_); (case hh => walk_at "hp"))
  | ((with_reducible refine r_is_list_list (xs := ?xx) ?hh ?_); (case hh => walk_at "hp"))
  | ((with_reducible refine r_is_list_tuple (xs := ?xx) ?hh ?_); (case hh => walk_at "hp"))
  | ((with_reducible refine r_is_tuple_int (xs := ?xx) ?hh ?_); (case hh => walk_at "hp"))
  | ((with_reducible refine r_is_tuple_bool (xs := ?xx) ?hh ?_); (case hh => walk_at "hp"))
  | ((with_reducible refine r_is_tuple_str (xs := ?xx) ?hh ?_); (case hh => walk_at "hp"))
  | ((with_reducible refine r_is_tuple_list (xs := ?xx) ?hh ?_); (case hh => walk_at "hp"))
  | ((with_reducible refine r_is_tuple_tuple (xs := ?xx) ?hh ?_); (case hh => walk_at "hp"))
  | (with_reducible refine r_is_NoneType_int ?_)
  | (with_reducible refine r_is_NoneType_bool ?_)
  | (with_reducible refine r_is_NoneType_str ?_)
  | (with_reducible refine r_is_NoneType_list ?_)
  | (with_reducible refine r_is_NoneType_tuple ?_)))
local macro_rules | `(tactic| walk_at "ne") => `(tactic| first | assumption | (refine Ne.symm ?_; assumption) | exact Bag.ne (by assumption) (by assumption) | exact ne_of_none (by assumption) (by assumption))
local macro_rules | `(tactic| walk_at "hp") => `(tactic| (first
  | assumption
  | exact upd_same
  | (refine h_keep ?_ (by assumption); walk_at "hp")
  | (refine (upd_ne (by walk_at "ne")).trans ?_; walk_at "hp")
  | (refine Same.at (by assumption) ?_; walk_at "hp")
  | (refine But.at (by assumption) (by walk_at "ne") ?_; walk_at "hp")
  | (refine But2.at (by assumption) (by walk_at "ne") (by walk_at "ne") ?_; walk_at "hp")))
local macro_rules | `(tactic| walk_at "side") => `(tactic| first | assumption | omega | (refine ⟨?_, ?_⟩ <;> first | assumption | omega | decide) | decide | (refine ⟨by decide, by decide, by decide⟩) | (left; refine ⟨?_, ?_⟩ <;> first | omega | decide) | (right; refine ⟨?_, ?_⟩ <;> first | omega | decide) | (simp; done))
local macro_rules | `(tactic| walk_at "cond") => `(tactic| first | assumption | exact rfl | omega | (simp only [List.length_cons, List.length_nil]; omega) | decide +kernel)
local macro_rules | `(tactic| walk_at "s") => `(tactic| (first
  | ((with_reducible refine r_var (v := ?vv) ?ee ?_); (case ee => exact rfl))
  | (with_reducible refine r_c ?_)
  | (with_reducible refine r_op ?_)
  | (with_reducible refine r_un ?_)
  | (with_reducible refine r_rI0 ?_)
  | ((with_reducible refine r_rI ?cc ?_); (case cc => walk_at "side"))
  | (with_reducible refine r_rU ?_)
  | (with_reducible refine r_eqI ?_)
  | (with_reducible refine r_neI ?_)
  | (with_reducible refine r_eqB ?_)
  | (with_reducible refine r_neB ?_)
  | (with_reducible refine r_eqS ?_)
  | (with_reducible refine r_neS ?_)
  | ((with_reducible refine r_eq ?ee ?_); (case ee => exact rfl))
  | ((with_reducible refine r_ne ?ee ?_); (case ee => exact rfl))
  | ((with_reducible refine r_ixL (v := ?vv) (xs := ?xx) ?hh ?ee ?_); (case hh => (refine SqL.of ?_; walk_at "hp")); (case ee => exact rfl))
  | (with_reducible refine r_cb ?_)
  | (with_reducible refine r_call ?_)
  | (with_reducible refine r_cons ?_)
  | (with_reducible refine r_nil ?_)
  | (with_reducible refine r_lst ?_)
  | (with_reducible refine r_tup ?_)
  | ((with_reducible refine r_new ?cc ?_); (case cc => walk_at "side"))
  | (with_reducible refine r_exbl ?_)
  | (with_reducible refine r_exint ?_)
  | (with_reducible refine r_exint2 ?_)
  | (with_reducible refine r_exblL ?_)
  | (with_reducible refine r_ex2 ?_)
  | (with_reducible refine r_test ?_)
  | (with_reducible refine r_tB ?_)
  | (with_reducible refine r_not ?_)
  | (with_reducible refine r_and ?_)
  | (with_reducible refine r_or ?_)
  | (with_reducible refine r_andV ?_)
  | (with_reducible refine r_orV ?_)
  | (with_reducible refine r_notV ?_)
  | (with_reducible refine r_tif ?_)
  | (with_reducible refine r_iteT ?_)
  | (with_reducible refine r_iteNT ?_)
  | (with_reducible refine r_iteNF ?_)
  | (with_reducible refine r_iteF ?_)
  | (with_reducible refine r_seq ?_)
  | (with_reducible refine r_next ?_)
  | (with_reducible refine r_brk ?_)
  | (with_reducible refine r_cont ?_)
  | (with_reducible refine r_asg ?_)
  | (with_reducible refine r_gname ?_)
  | (with_reducible refine r_ret ?_)
  | (with_reducible refine r_retN ?_)
  | (with_reducible refine r_drop ?_)
  | (with_reducible refine r_if ?_)
  | ((with_reducible refine r_aug (x := ?xx) ?ee ?_); (case ee => exact rfl))
  | (with_reducible refine r_ipI ?_)
  | (with_reducible refine r_augS ?_)
  | (with_reducible refine r_gsub ?_)
  | ((with_reducible refine r_setL (xs := ?xx) (m := ?mm) ?hh ?ee ?_); (case hh => walk_at "hp"); (case ee => exact rfl))
  | (with_reducible refine r_par ?_)
  | (with_reducible refine r_bm ?_)
  | ((with_reducible refine r_tyL (xs := ?xx) ?hh ?_); (case hh => walk_at "hp"))
  | ((with_reducible refine r_append (xs := ?xx) ?hh ?ll ?_); (case hh => walk_at "hp"); (case ll => walk_at "side"))
  | (walk_at "isi")
  | (with_reducible refine r_for ?_)
  | (with_reducible refine r_iList ?_)
  | (with_reducible refine r_iTup ?_)
  | (with_reducible refine r_iR1 ?_)
  | (with_reducible refine r_iR2 ?_)
  | (with_reducible refine r_lc ?_)
  | (with_reducible refine r_yes ?_)
  | ((with_reducible refine r_lenS ?ll ?_); (case ll => walk_at "side"))
  | (with_reducible refine r_leS ?_)
  | (with_reducible refine r_chain ?_)
  | (with_reducible refine r_tM1 ?_)
  | (with_reducible refine r_exS ?_)
  | ((with_reducible refine r_tupL (xs := ?xx) ?hh ?_); (case hh => walk_at "hp"))
  | ((with_reducible refine r_listL (xs := ?xx) ?hh ?_); (case hh => walk_at "hp"))
  | ((with_reducible refine r_listT (xs := ?xx) ?hh ?_); (case hh => walk_at "hp"))
  | ((with_reducible refine r_ixT (v := ?vv) (xs := ?xx) ?hh ?ee ?_); (case hh => (refine SqT.of ?_; walk_at "hp")); (case ee => exact rfl))
  | (with_reducible refine r_sl ?_)
  | (with_reducible refine r_nopart ?_)
  | (with_reducible refine r_part ?_)
  | (with_reducible refine r_exI ?_)
  | ((with_reducible refine r_slL (xs := ?xx) ?hh ?_); (case hh => first | assumption | (refine SqL.of ?_; walk_at "hp") | (refine Same.seq (by assumption) (by assumption))))
  | ((with_reducible refine r_cat (xs := ?xx) (zs := ?zz) ?hh ?ii ?ll ?_); (case hh => walk_at "hp"); (case ii => walk_at "hp"); (case ll => walk_at "side"))
  | ((with_reducible refine r_lenL (xs := ?xx) ?hh ?_); (case hh => walk_at "hp"))
  | ((with_reducible refine r_lenT (xs := ?xx) ?hh ?_); (case hh => walk_at "hp"))
  | ((with_reducible refine r_gTup (xs := ?xx) ?hh ?ll ?_); (case hh => walk_at "hp"); (case ll => exact rfl))
  | (with_reducible refine r_gCons ?_)
  | (with_reducible refine r_gNil ?_)
  | ((with_reducible refine r_iteDT ?cc ?_); (case cc => walk_at "cond"))
  | ((with_reducible refine r_iteDF ?cc ?_); (case cc => walk_at "cond"))
  | ((with_reducible refine r_iteNDT ?cc ?_); (case cc => walk_at "cond"))
  | ((with_reducible refine r_iteNDF ?cc ?_); (case cc => walk_at "cond"))
  ))
local macro_rules | `(tactic| walk_at "go") => `(tactic| repeat (walk_at "s"))

local macro_rules | `(tactic| walk_at "s") => `(tactic| (first
  | (with_reducible refine r_dnew ?_)
  | (with_reducible refine r_dget2 ?_)
  | (with_reducible refine r_dget ?_)
  | (with_reducible refine r_dput ?_)
  | (with_reducible refine r_dsetd ?_)
  | ((with_reducible refine JarAt.isD (n := ?nn) (c := ?cc) ?hh ?_); (case hh => assumption))
  ))

local macro_rules | `(tactic| walk_at "s") => `(tactic| (first
  | (with_reducible refine r_prop ?_)
  | (with_reducible refine r_meth ?_)
  | (with_reducible refine r_make ?_)
  | (with_reducible refine r_fld ?_)
  | (with_reducible refine r_sfld ?_)
  | (with_reducible refine r_iOwn ?_)
  | ((with_reducible refine u_rowsAt (mg := ?mm) (C := ?CC) (dx := ?dd) (fv := ?vv) ?tt ?hh ?_); (case tt => assumption); (case hh => walk_at "hp"))
  | ((with_reducible refine r_isPoly (mg := ?mm) (dx := ?dd) (fs := ?ff) ?tt ?hh ?_); (case tt => assumption); (case hh => walk_at "hp"))
  | ((with_reducible refine r_isPolyI (mg := ?mm) ?tt ?_); (case tt => assumption))
  | ((with_reducible refine r_polyInt (mg := ?mm) (C := ?CC) (dx := ?dd) (fs := ?ff) ?tt ?hh ?_); (case tt => assumption); (case hh => walk_at "hp"))
  ))

theorem ok_l_some_int {f : Addr} {fd : FuncData} (F : Fun K "_law_some_int" "_law_some_int" s_l_some_int f fd) (h_l_pick : Has P w K mg base "_law_pick" 1 ["_law_bag", "_law_many"] spPick) (h_l_great_int : Has P w K mg base "_law_great_int" 2 ["_law_bag", "_law_digits"] spGreat) : FnOk P w K mg base CX0 3 f fd ["_law_bag"] spSomeInt := by
  refine F.ok sc_l_some_int (fun vs H Q E h => ?_) (fun cdv A outer s H vs Q E hr h => ?_)
  · obtain ⟨a, rfl, _⟩ := h
    rfl
  · obtain ⟨a, rfl, ba, k⟩ := h
    have hBN : (1000 : Int) ≤ BN := by decide +kernel
    refine ⟨_, (pss_cons (ps_set (i := 1) sc_l_some_int.nd rfl (.inl rfl) (pe_callH h_l_pick (hr.mono (by first | decide | omega)) (pa_cons (pv 0) (pa_cons pe_int pa_nil))))
    (pss_cons (ps_set (i := 2) sc_l_some_int.nd rfl (.inl rfl) (pe_op op_sub pe_int (pe_op op_mul pe_int (pe_callH h_l_pick (hr.mono (by first | decide | omega)) (pa_cons (pv 0) (pa_cons pe_int pa_nil))))))
    (pss_cons (ps_if (pt_cmpR op_lt (pv 1) pe_int (nomark _))
    (pss_one (ps_ret (pv 2)))
    pss_nil)
    (pss_cons (ps_if (pt_cmpR op_eq (pv 1) pe_int (nomark _))
    (pss_one (ps_ret (pe_op op_mul (pv 2) (pe_callH h_l_pick (hr.mono (by first | decide | omega)) (pa_cons (pv 0) (pa_cons pe_int pa_nil))))))
    pss_nil)
    (pss_cons (ps_if (pt_cmpR op_eq (pv 1) pe_int (nomark _))
    (pss_one (ps_ret (pe_op op_mul (pv 2) (pe_callH h_l_pick (hr.mono (by first | decide | omega)) (pa_cons (pv 0) (pa_cons pe_int pa_nil))))))
    pss_nil)
    (pss_one (ps_ret (pe_op op_mul (pv 2) (pe_callH h_l_great_int (hr.mono (by first | decide | omega)) (pa_cons (pv 0) (pa_cons pe_int pa_nil))))))))))), ?_⟩
    walk_at "go"
    refine u_pick ba (by decide) (by decide) fun m H1 m0 m1 bu1 b1 => ?_
    walk_at "go"
    refine u_pick b1 (by decide) (by decide) fun r H2 r0 r1 bu2 b2 => ?_
    walk_at "go"
    have bu := bu1.trans bu2
    refine r_iteD (fun h1 => ?_) (fun h1 => ?_)
    · walk_at "go"
      exact k _ H2 (by omega) (by omega) bu b2
    · walk_at "go"
      refine r_iteD (fun h2 => ?_) (fun h2 => ?_)
      · walk_at "go"
        refine u_pick b2 (by decide) (by decide) fun q H3 q0 q1 bu3 b3 => ?_
        walk_at "go"
        refine k _ H3 ?_ ?_ (bu.trans bu3) b3
        · rcases (by omega : r = 0 ∨ r = 1) with rfl | rfl <;> omega
        · rcases (by omega : r = 0 ∨ r = 1) with rfl | rfl <;> omega
      · walk_at "go"
        refine r_iteD (fun h3 => ?_) (fun h3 => ?_)
        · walk_at "go"
          refine u_pick b2 (by decide) (by decide) fun q H3 q0 q1 bu3 b3 => ?_
          walk_at "go"
          refine k _ H3 ?_ ?_ (bu.trans bu3) b3
          · rcases (by omega : r = 0 ∨ r = 1) with rfl | rfl <;> omega
          · rcases (by omega : r = 0 ∨ r = 1) with rfl | rfl <;> omega
        · walk_at "go"
          refine ⟨a, 38, rfl, b2, by decide, by decide, fun q H3 q0 q1 bu3 b3 => ?_⟩
          have q2 : q < BN := q1
          walk_at "go"
          refine k _ H3 ?_ ?_ (bu.trans bu3) b3
          · rcases (by omega : r = 0 ∨ r = 1) with rfl | rfl <;> omega
          · rcases (by omega : r = 0 ∨ r = 1) with rfl | rfl <;> omega
theorem ok_l_pairs {f : Addr} {fd : FuncData} (F : Fun K "_law_pairs" "_law_pairs" s_l_pairs f fd) (B : Bl mg) (h_l_pick : Has P w K mg base "_law_pick" 1 ["_law_bag", "_law_many"] spPick) (h_l_some_int : Has P w K mg base "_law_some_int" 3 ["_law_bag"] spSomeInt) : FnOk P w K mg base CX0 4 f fd ["_law_bag", "_law_most", "_law_far"] spPairs := by
  refine F.ok sc_l_pairs (fun vs H Q E h => ?_) (fun cdv A outer s H vs Q E hr h => ?_)
  · obtain ⟨a, m, f, rfl, _⟩ := h
    rfl
  · obtain ⟨a, m, f, rfl, ba, m0, m1, f0, f1, k⟩ := h
    refine ⟨_, (pss_cons (ps_set (i := 3) sc_l_pairs.nd rfl (.inl rfl) (pe_lst pa_nil))
    (pss_cons (ps_set (i := 4) sc_l_pairs.nd rfl (.inl rfl) (pe_ix (ix_listK (K := K)) (pe_lst (pa_cons (pe_un un_neg (pv 2)) (pa_cons pe_int (pa_cons (pe_un un_neg pe_int) pa_nil)))) (pe_callH h_l_pick (hr.mono (by first | decide | omega)) (pa_cons (pv 0) (pa_cons pe_int pa_nil))) (fun _ _ => rfl)))
    (pss_cons (ps_set (i := 5) sc_l_pairs.nd rfl (.inl rfl) (pe_ix (ix_listK (K := K)) (pe_lst (pa_cons (pe_op op_sub (pv 2) (pv 4)) (pa_cons pe_int pa_nil))) (pe_callH h_l_pick (hr.mono (by first | decide | omega)) (pa_cons (pv 0) (pa_cons pe_int pa_nil))) (fun _ _ => rfl)))
    (pss_cons (ps_for PassesOwn.never rfl (pi_range1 (by rfl) B.b_range (pa_cons (pe_callH h_l_pick (hr.mono (by first | decide | omega)) (pa_cons (pv 0) (pa_cons (pe_op op_add (pv 1) pe_int) pa_nil))) pa_nil)) (pg_name (i := 6) sc_l_pairs.nd rfl (.inl rfl))
    (pss_one (ps_expr (pe_bm PySem.F.plainAttrs_list PySem.F.slot_list_append PySem.F.type_list_append mt_append (pv 3) (pa_cons (pe_tup (pa_cons (pe_op op_add (pv 4) (pe_callH h_l_pick (hr.mono (by first | decide | omega)) (pa_cons (pv 0) (pa_cons (pe_op op_add (pv 5) pe_int) pa_nil)))) (pa_cons (pe_callH h_l_some_int (hr.mono (by first | decide | omega)) (pa_cons (pv 0) pa_nil)) pa_nil))) pa_nil)))))
    (pss_one (ps_ret (pv 3))))))), ?_⟩
    walk_at "go"
    intro l nl
    walk_at "go"
    intro l2 nl2
    walk_at "go"
    have bl : Bag (upd (upd H l (.lst [])) l2 (.lst [.int (-f), .int 0, .int (-2)])) a := (ba.keep nl).keep nl2
    refine u_pick bl (by decide) (by decide) fun r H1 r0 r1 bu1 b1 => ?_
    have nla : l ≠ a := ba.ne nl
    have nl2a : l2 ≠ a := (ba.keep nl).ne nl2
    have hl2 := bu1 _ _ nl2a upd_same
    have hl := bu1 _ _ nla (h_keep upd_same nl2)
    have s0 : But a H H1 := ((But.refl a H).new nl |>.new nl2).trans bu1
    obtain ⟨lo, hlo, lo0, lo1⟩ : ∃ lo : Int, atI [V.int (-f), V.int 0, V.int (-2)] r = some (.int lo) ∧ -f - 2 ≤ lo ∧ lo ≤ 0 := by
      rcases (by omega : r = 0 ∨ r = 1 ∨ r = 2) with rfl | rfl | rfl
      · exact ⟨_, rfl, by omega, by omega⟩
      · exact ⟨_, rfl, by omega, by omega⟩
      · exact ⟨_, rfl, by omega, by omega⟩
    refine r_ixL (.of hl2) hlo ?_
    walk_at "go"
    intro l3 nl3
    walk_at "go"
    refine u_pick (b1.keep nl3) (by decide) (by decide) fun r2 H2 p0 p1 bu2 b2 => ?_
    have nl3a : l3 ≠ a := b1.ne nl3
    have hl3 := bu2 _ _ nl3a upd_same
    have hl' := bu2 _ _ nla (h_keep hl nl3)
    obtain ⟨wi, hwi, wi0, wi1⟩ : ∃ wi : Int, atI [V.int (f - lo), V.int 4] r2 = some (.int wi) ∧ 0 ≤ wi ∧ lo + wi ≤ f + 4 := by
      rcases (by omega : r2 = 0 ∨ r2 = 1) with rfl | rfl
      · exact ⟨_, rfl, by omega, by omega⟩
      · exact ⟨_, rfl, by omega, by omega⟩
    refine r_ixL (.of hl3) hwi ?_
    walk_at "go"
    refine u_pick b2 (by omega) (by omega) fun n H3 n0 n1 bu3 b3 => ?_
    have hl3' := bu3 _ _ nla hl'
    have s3 : But a H H3 := (s0.new nl3).trans (bu2.trans bu3)
    walk_at "go"
    refine u_for1 ⟨by omega, by omega⟩ (fun i σ H' => ∃ (ts : Terms) (xs : List V) (y : Option V), σ = [some (.ref a), some (.int m), some (.int f), some (.ref l), some (.int lo), some (.int wi), y] ∧ H' l = some (.lst xs) ∧ TermsL H' xs ts ∧ ts.length = i ∧ (i : Int) ≤ n ∧ But a H H' ∧ Bag H' a ∧ (∀ p ∈ ts, (-f - 2 ≤ p.1 ∧ p.1 ≤ f + 4) ∧ -BN ≤ p.2 ∧ p.2 ≤ BN)) ?_ ?_ ?_
    · exact ⟨[], [], _, rfl, hl3', rfl, rfl, by omega, s3, b3, by simp⟩
    · rintro i σ H' hi ⟨ts, xs, y, rfl, hxl, hxt, hti, hin, sm, bg, hb⟩
      have hxl2 := hxt.length
      walk_at "go"
      refine u_pick bg (by omega) (by omega) fun q H4 q0 q1 bu4 b4 => ?_
      walk_at "go"
      refine ⟨a, rfl, b4, fun v H5 v0 v1 bu5 b5 => ?_⟩
      walk_at "go"
      intro t nt
      have hx5 := bu5 _ _ nla (bu4 _ _ nla hxl)
      have st : Tk H' H5 := (Tk.but bu4 bg).trans (Tk.but bu5 b4)
      walk_at "go"
      have t1 : Tk H5 (upd (upd H5 t (.tup [.int (lo + q), .int v])) l (.lst (xs ++ [.ref t]))) := ((Tk.refl _).new nt).lst (h_keep hx5 nt)
      refine ⟨ts ++ [(lo + q, v)], _, _, rfl, upd_same, (hxt.tk (st.trans t1)).app (.one ((upd_ne (ne_of_none hx5 nt).symm).trans upd_same)), by rw [List.length_append, hti]; rfl, by omega, ?_, ?_, fun p hp => ?_⟩
      · exact But.put ((sm.trans (bu4.trans bu5)).new nt) nl
      · exact Bag.upd (b5.keep nt) nla.symm
      · rcases List.mem_append.mp hp with hp | hp
        · exact hb p hp
        · rw [List.mem_singleton.mp hp]
          exact ⟨⟨by show -f - 2 ≤ lo + q; omega, by show lo + q ≤ f + 4; omega⟩, v0, v1⟩
    · rintro σ H' ⟨ts, xs, y, rfl, hxl, hxt, hti, hin, sm, bg, hb⟩
      walk_at "go"
      exact k l ts H' nl sm bg ⟨xs, hxl, hxt⟩ (by omega) hb
theorem ok_l_jar_of {f : Addr} {fd : FuncData} (F : Fun K "_law_jar_of" "_law_jar_of" s_l_jar_of f fd) : FnOk P w K mg base CX0 1 f fd ["_law_rows"] spJarOf := by
  refine F.ok sc_l_jar_of (fun vs H Q E h => ?_) (fun cdv A outer s H vs Q E hr h => ?_)
  · obtain ⟨l, ts, rfl, _⟩ := h
    rfl
  · obtain ⟨l, ts, rfl, ⟨vs, hl, ht⟩, hn, k⟩ := h
    refine ⟨_, (pss_cons (ps_set (i := 1) sc_l_jar_of.nd rfl (.inl rfl) pe_dnewK)
    (pss_cons (ps_for PassesOwn.never rfl (pi_list (pv 0)) (pg_tup (by rfl) (pgs_cons (pg_name (i := 2) sc_l_jar_of.nd rfl (.inl rfl)) (pgs_cons (pg_name (i := 3) sc_l_jar_of.nd rfl (.inl rfl)) pgs_nil)))
    (pss_one (ps_dput (hu_of hr) (pv 1) (pv 2) (pe_op op_add (pe_dget2 (hu_of hr) (pv 1) (pv 2) pe_int ⟨rfl, rfl, rfl, rfl⟩) (pv 3)) rfl)))
    (pss_one (ps_ret (pv 1))))), ?_⟩
    walk_at "go"
    intro d nd
    walk_at "go"
    have hvl := ht.length
    refine u_forL (.of (h_keep hl nd)) (fun i σ H' => ∃ (c : Int → Int) (y2 y3 : Option V), σ = [some (.ref l), some (.ref d), y2, y3] ∧ Same H H' ∧ JarAt H' d i c ∧ (∀ k, c k = cof (ts.take i) k) ∧ i ≤ vs.length) ?_ ?_ ?_ ?_
    · exact ⟨_, _, _, rfl, Same.new0 nd, .new, fun k => rfl, Nat.zero_le _⟩
    · rintro i σ H' _ ⟨c, y2, y3, rfl, sm, _⟩
      exact .of (sm _ _ hl)
    · rintro i x σ H' hx ⟨c, y2, y3, rfl, sm, hj, hc, hi⟩
      obtain ⟨b, p, rfl, hp, hb⟩ := ht.at i hx
      have hi2 := (List.getElem?_eq_some_iff.mp hx).1
      have hb' := sm _ _ hb
      walk_at "go"
      obtain ⟨o, g1, g2⟩ := hj.dget0 p.1
      refine ⟨o, g1, ?_⟩
      rw [g2]
      walk_at "go"
      obtain ⟨H4, p1, b1, f1, j1⟩ := hj.dput (k := p.1) (v := c p.1 + p.2) (by omega)
      refine ⟨d, H4, rfl, p1, _, _, _, rfl, Same.but2 sm nd b1, j1, fun k => ?_, hi2⟩
      have et : ts.take (i + 1) = ts.take i ++ [p] := by rw [List.take_succ, hp]; rfl
      rw [et, cof_app, ← hc]
      unfold addAt
      rw [cof, cof]
      by_cases e : k = p.1
      · subst e; rw [if_pos rfl, if_pos rfl]; omega
      · rw [if_neg e, if_neg (fun h => e h.symm)]; omega
    · rintro σ H' ⟨c, y2, y3, rfl, sm, hj, hc, hi⟩
      rw [List.take_of_length_le (by omega)] at hc
      walk_at "go"
      rw [hvl] at hj
      exact k d H' nd sm (hj.ext hc)
end
end My

set_option Elab.async false
set_option linter.all false
set_option maxRecDepth 100000
set_option maxHeartbeats 4000000

namespace My
open PySem PySem.Spec PyProof.Rows L2
section
variable {P : Program} {w : World} {K : PySem.W.Frag} {mg : Str → Option Value} {base : Heap} {C : Addr}
local macro_rules | `(tactic| walk_at "isi") => `(tactic| (first
  | (with_reducible refine r_is_int_int ?_)
  | (with_reducible refine r_is_int_bool ?_)
  | (with_reducible refine r_is_int_str ?_)
  | (with_reducible refine r_is_int_list ?_)
  | (with_reducible refine r_is_int_tuple ?_)
  | (with_reducible refine r_is_bool_int ?_)
  | (with_reducible refine r_is_bool_bool ?_)
  | (with_reducible refine r_is_bool_str ?_)
  | (with_reducible refine r_is_bool_list ?_)
  | (with_reducible refine r_is_bool_tuple ?_)
  | (with_reducible refine r_is_str_int ?_)
  | (with_reducible refine r_is_str_bool ?_)
  | (with_reducible refine r_is_str_str ?_)
  | (with_reducible refine r_is_str_list ?_)
  | (with_reducible refine r_is_str_tuple ?_)
  | ((with_reducible refine r_is_list_int (xs := ?xx) ?hh ?_); (case hh => walk_at "hp"))
  | ((with_reducible refine r_is_list_bool (xs := ?xx) ?hh ?_); (case hh => walk_at "hp"))
  | ((with_reducible refine r_is_list_str (xs := ?xx) ?hh ?_); (case hh => walk_at "hp"))
  | ((with_reducible refine r_is_list_list (xs := ?xx) ?hh ?_); (case hh => walk_at "hp"))
  | ((with_reducible refine r_is_list_tuple (xs := ?xx) ?hh ?_); (case hh => walk_at "hp"))
  | ((with_reducible refine r_is_tuple_int (xs := ?xx) ?hh ?_); (case hh => walk_at "hp"))
  | ((with_reducible refine r_is_tuple_bool (xs := ?xx) ?hh ?_); (case hh => walk_at "hp"))
  | ((with_reducible refine r_is_tuple_str (xs := ?xx) ?hh ?_); (case hh => walk_at "hp"))
  | ((with_reducible refine r_is_tuple_list (xs := ?xx) ?hh ?_); (case hh => walk_at "hp"))
  | ((with_reducible refine r_is_tuple_tuple (xs := ?xx) ?hh ?_); (case hh => walk_at "hp"))
  | (with_reducible refine r_is_NoneType_int ?_)
  | (with_reducible refine r_is_NoneType_bool ?_)
  | (with_reducible refine r_is_NoneType_str ?_)
  | (with_reducible refine r_is_NoneType_list ?_)
  | (with_reducible refine r_is_NoneType_tuple ?_)))
local macro_rules | `(tactic| walk_at "ne") => `(tactic| first | assumption | (refine Ne.symm ?_; assumption) | exact Bag.ne (by assumption) (by assumption) | exact ne_of_none (by assumption) (by assumption))
local macro_rules | `(tactic| walk_at "hp") => `(tactic| (first
  | assumption
  | exact upd_same
  | (refine h_keep ?_ (by assumption); walk_at "hp")
  | (refine (upd_ne (by walk_at "ne")).trans ?_; walk_at "hp")
  | (refine Same.at (by assumption) ?_; walk_at "hp")
  | (refine But.at (by assumption) (by walk_at "ne") ?_; walk_at "hp")
  | (refine But2.at (by assumption) (by walk_at "ne") (by walk_at "ne") ?_; walk_at "hp")))
local macro_rules | `(tactic| walk_at "side") => `(tactic| first | assumption | omega | (refine ⟨?_, ?_⟩ <;> first | assumption | omega | decide) | decide | (refine ⟨by decide, by decide, by decide⟩) | (left; refine ⟨?_, ?_⟩ <;> first | omega | decide) | (right; refine ⟨?_, ?_⟩ <;> first | omega | decide) | (simp; done))
local macro_rules | `(tactic| walk_at "cond") => `(tactic| first | assumption | exact rfl | omega | (simp only [List.length_cons, List.length_nil]; omega) | decide +kernel)
local macro_rules | `(tactic| walk_at "s") => `(tactic| (first
  | ((with_reducible refine r_var (v := ?vv) ?ee ?_); (case ee => exact rfl))
  | (with_reducible refine r_c ?_)
  | (with_reducible refine r_op ?_)
  | (with_reducible refine r_un ?_)
  | (with_reducible refine r_rI0 ?_)
  | ((with_reducible refine r_rI ?cc ?_); (case cc => walk_at "side"))
  | (with_reducible refine r_rU ?_)
  | (with_reducible refine r_eqI ?_)
  | (with_reducible refine r_neI ?_)
  | (with_reducible refine r_eqB ?_)
  | (with_reducible refine r_neB ?_)
  | (with_reducible refine r_eqS ?_)
  | (with_reducible refine r_neS ?_)
  | ((with_reducible refine r_eq ?ee ?_); (case ee => exact rfl))
  | ((with_reducible refine r_ne ?ee ?_); (case ee => exact rfl))
  | ((with_reducible refine r_ixL (v := ?vv) (xs := ?xx) ?hh ?ee ?_); (case hh => (refine SqL.of ?_; walk_at "hp")); (case ee => exact rfl))
  | (with_reducible refine r_cb ?_)
  | (with_reducible refine r_call ?_)
  | (with_reducible refine r_cons ?_)
  | (with_reducible refine r_nil ?_)
  | (with_reducible refine r_lst ?_)
  | (with_reducible refine r_tup ?_)
  | ((with_reducible refine r_new ?cc ?_); (case cc => walk_at "side"))
  | (with_reducible refine r_exbl ?_)
  | (with_reducible refine r_exint ?_)
  | (with_reducible refine r_exint2 ?_)
  | (with_reducible refine r_exblL ?_)
  | (with_reducible refine r_ex2 ?_)
  | (with_reducible refine r_test ?_)
  | (with_reducible refine r_tB ?_)
  | (with_reducible refine r_not ?_)
  | (with_reducible refine r_and ?_)
  | (with_reducible refine r_or ?_)
  | (with_reducible refine r_andV ?_)
  | (with_reducible refine r_orV ?_)
  | (with_reducible refine r_notV ?_)
  | (with_reducible refine r_tif ?_)
  | (with_reducible refine r_iteT ?_)
  | (with_reducible refine r_iteNT ?_)
  | (with_reducible refine r_iteNF ?_)
  | (with_reducible refine r_iteF ?_)
  | (with_reducible refine r_seq ?_)
  | (with_reducible refine r_next ?_)
  | (with_reducible refine r_brk ?_)
  | (with_reducible refine r_cont ?_)
  | (with_reducible refine r_asg ?_)
  | (with_reducible refine r_gname ?_)
  | (with_reducible refine r_ret ?_)
  | (with_reducible refine r_retN ?_)
  | (with_reducible refine r_drop ?_)
  | (with_reducible refine r_if ?_)
  | ((with_reducible refine r_aug (x := ?xx) ?ee ?_); (case ee => exact rfl))
  | (with_reducible refine r_ipI ?_)
  | (with_reducible refine r_augS ?_)
  | (with_reducible refine r_gsub ?_)
  | ((with_reducible refine r_setL (xs := ?xx) (m := ?mm) ?hh ?ee ?_); (case hh => walk_at "hp"); (case ee => exact rfl))
  | (with_reducible refine r_par ?_)
  | (with_reducible refine r_bm ?_)
  | ((with_reducible refine r_tyL (xs := ?xx) ?hh ?_); (case hh => walk_at "hp"))
  | ((with_reducible refine r_append (xs := ?xx) ?hh ?ll ?_); (case hh => walk_at "hp"); (case ll => walk_at "side"))
  | (walk_at "isi")
  | (with_reducible refine r_for ?_)
  | (with_reducible refine r_iList ?_)
  | (with_reducible refine r_iTup ?_)
  | (with_reducible refine r_iR1 ?_)
  | (with_reducible refine r_iR2 ?_)
  | (with_reducible refine r_lc ?_)
  | (with_reducible refine r_yes ?_)
  | ((with_reducible refine r_lenS ?ll ?_); (case ll => walk_at "side"))
  | (with_reducible refine r_leS ?_)
  | (with_reducible refine r_chain ?_)
  | (with_reducible refine r_tM1 ?_)
  | (with_reducible refine r_exS ?_)
  | ((with_reducible refine r_tupL (xs := ?xx) ?hh ?_); (case hh => walk_at "hp"))
  | ((with_reducible refine r_listL (xs := ?xx) ?hh ?_); (case hh => walk_at "hp"))
  | ((with_reducible refine r_listT (xs := ?xx) ?hh ?_); (case hh => walk_at "hp"))
  | ((with_reducible refine r_ixT (v := ?vv) (xs := ?xx) ?hh ?ee ?_); (case hh => (refine SqT.of ?_; walk_at "hp")); (case ee => exact rfl))
  | (with_reducible refine r_sl ?_)
  | (with_reducible refine r_nopart ?_)
  | (with_reducible refine r_part ?_)
  | (with_reducible refine r_exI ?_)
  | ((with_reducible refine r_slL (xs := ?xx) ?hh ?_); (case hh => first | assumption | (refine SqL.of ?_; walk_at "hp") | (refine Same.seq (by assumption) (by assumption))))
  | ((with_reducible refine r_cat (xs := ?xx) (zs := ?zz) ?hh ?ii ?ll ?_); (case hh => walk_at "hp"); (case ii => walk_at "hp"); (case ll => walk_at "side"))
  | ((with_reducible refine r_lenL (xs := ?xx) ?hh ?_); (case hh => walk_at "hp"))
  | ((with_reducible refine r_lenT (xs := ?xx) ?hh ?_); (case hh => walk_at "hp"))
  | ((with_reducible refine r_gTup (xs := ?xx) ?hh ?ll ?_); (case hh => walk_at "hp"); (case ll => exact rfl))
  | (with_reducible refine r_gCons ?_)
  | (with_reducible refine r_gNil ?_)
  | ((with_reducible refine r_iteDT ?cc ?_); (case cc => walk_at "cond"))
  | ((with_reducible refine r_iteDF ?cc ?_); (case cc => walk_at "cond"))
  | ((with_reducible refine r_iteNDT ?cc ?_); (case cc => walk_at "cond"))
  | ((with_reducible refine r_iteNDF ?cc ?_); (case cc => walk_at "cond"))
  ))
local macro_rules | `(tactic| walk_at "go") => `(tactic| repeat (walk_at "s"))

local macro_rules | `(tactic| walk_at "s") => `(tactic| (first
  | (with_reducible refine r_dnew ?_)
  | (with_reducible refine r_dget2 ?_)
  | (with_reducible refine r_dget ?_)
  | (with_reducible refine r_dput ?_)
  | (with_reducible refine r_dsetd ?_)
  | ((with_reducible refine JarAt.isD (n := ?nn) (c := ?cc) ?hh ?_); (case hh => assumption))
  ))

local macro_rules | `(tactic| walk_at "s") => `(tactic| (first
  | (with_reducible refine r_prop ?_)
  | (with_reducible refine r_meth ?_)
  | (with_reducible refine r_make ?_)
  | (with_reducible refine r_fld ?_)
  | (with_reducible refine r_sfld ?_)
  | (with_reducible refine r_iOwn ?_)
  | ((with_reducible refine u_rowsAt (mg := ?mm) (C := ?CC) (dx := ?dd) (fv := ?vv) ?tt ?hh ?_); (case tt => assumption); (case hh => walk_at "hp"))
  | ((with_reducible refine r_isPoly (mg := ?mm) (dx := ?dd) (fs := ?ff) ?tt ?hh ?_); (case tt => assumption); (case hh => walk_at "hp"))
  | ((with_reducible refine r_isPolyI (mg := ?mm) ?tt ?_); (case tt => assumption))
  | ((with_reducible refine r_polyInt (mg := ?mm) (C := ?CC) (dx := ?dd) (fs := ?ff) ?tt ?hh ?_); (case tt => assumption); (case hh => walk_at "hp"))
  ))

theorem ok_l_terms_of {f : Addr} {fd : FuncData} (F : Fun K "_law_terms_of" "_law_terms_of" s_l_terms_of f fd) (bS : mg "sorted" = none) : FnOk P w K mg base CX0 1 f fd ["_law_jar"] spTerms := by
  refine F.ok sc_l_terms_of (fun vs H Q E h => ?_) (fun cdv A outer s H vs Q E hr h => ?_)
  · obtain ⟨a, n, c, rfl, _⟩ := h
    rfl
  · obtain ⟨a, n, c, rfl, hj, hn, k⟩ := h
    refine ⟨_, (pss_one (ps_ret (pe_lc (own := [("_law_deg", 1)]) rfl sc_l_terms_of.nd (pi_list (pe_callB call_sortedDA (by rfl) bS (by decide +kernel) (pa_cons (pv 0) pa_nil))) (blkOk_by (N := ["_law_jar", "_law_deg"]) (sc := defScope s_l_terms_of) (by decide +kernel)) (fun _ _ _ _ _ => (pg_name (i := 1) sc_l_terms_of.nd rfl (.inl rfl))) (fun _ _ _ _ _ => pts_one (pt_cmpR op_ne (pe_dget (hu_of hr) (pv 0) (pv 1) (fun _ _ => rfl)) pe_int (nomark _))) (fun _ _ _ _ _ => (pe_tup (pa_cons (pv 1) (pa_cons (pe_dget (hu_of hr) (pv 0) (pv 1) (fun _ _ => rfl)) pa_nil))))))), ?_⟩
    walk_at "go"
    refine rSortDJ hj fun ys p hys hz hlen hget np => ?_
    have hj1 := hj.keep (o := .lst (ys.map V.int)) np
    refine u_lcL (.of upd_same) (fun D i acc H' => (TermsL H' acc (((ys.take i).filter fun k => decide (c k ≠ 0)).map fun k => (k, c k)) ∧ i ≤ ys.length) ∧ Same (upd H p (.lst (ys.map V.int))) H') ?_ ?_ ?_ ?_
    · exact fun D hD => ⟨⟨rfl, Nat.zero_le _⟩, Same.new0 hD⟩
    · exact fun D i acc H' _ _ ⟨_, s1⟩ => .of (s1 _ _ upd_same)
    · rintro D i x acc H' hD hx hacc ⟨⟨ht, hi⟩, s1⟩
      rw [List.getElem?_map] at hx
      cases hy : ys[i]? with
      | none => rw [hy] at hx; cases hx
      | some y =>
        rw [hy] at hx
        cases hx
        obtain ⟨hi2, ey⟩ := List.getElem?_eq_some_iff.mp hy
        have hj2 := hj1.same s1
        have et : ys.take (i + 1) = ys.take i ++ [y] := by rw [List.take_succ, hy]; rfl
        have hm2 := (hget y (List.mem_of_getElem? hy)).same ((Same.new0 np).trans s1)
        walk_at "go"
        refine ⟨rfl, ?_⟩
        walk_at "go"
        refine ⟨a, _, rfl, hj2.dget hm2, ?_⟩
        walk_at "go"
        refine r_ite (fun hb => ?_) (fun hb => ?_)
        · walk_at "go"
          refine ⟨a, _, rfl, hj2.dget hm2, ?_⟩
          walk_at "go"
          intro t nt
          have nz : decide (c y ≠ 0) = true := by simpa using hb
          have al : acc.length ≤ i := by
            rw [ht.length, List.length_map]
            exact Nat.le_trans (List.length_filter_le _ _) (by rw [List.length_take]; omega)
          refine u_push (h_keep hacc nt) (by omega) ⟨⟨?_, hi2⟩, Same.put (Same.new s1 nt) hD⟩
          have t1 : Tk H' (upd (upd H' t (.tup [.int y, .int (c y)])) D (.lst (acc ++ [.ref t]))) := ((Tk.refl _).new nt).lst (h_keep hacc nt)
          rw [et, List.filter_append, List.map_append, List.filter_cons_of_pos (p := fun k => decide (c k ≠ 0)) nz]
          exact (ht.tk t1).app (.one ((upd_ne (ne_of_none hacc nt).symm).trans upd_same))
        · refine u_skip hacc ⟨⟨?_, hi2⟩, s1⟩
          have nz : ¬ decide (c y ≠ 0) = true := by simpa using hb
          rw [et, List.filter_append, List.filter_cons_of_neg (p := fun k => decide (c k ≠ 0)) nz, List.filter_nil, List.append_nil]
          exact ht
    · rintro D acc H' hD hacc ⟨⟨ht, hi⟩, s1⟩
      walk_at "go"
      rw [List.take_of_length_le (by simp)] at ht
      refine k D _ H' ?_ ((Same.new0 np).trans s1) (canon_of hys c) (fun j => ?_) ?_ ⟨_, hacc, ht⟩
      · exact free_upd hD
      · rw [cof_of hys]
        by_cases hm : j ∈ ys
        · rw [if_pos hm]
        · rw [if_neg hm, hz j hm]
      · rw [List.length_map]
        exact Nat.le_trans (List.length_filter_le _ _) hlen
end
end My

set_option Elab.async false
set_option linter.all false
set_option maxRecDepth 100000
set_option maxHeartbeats 4000000

namespace My
open PySem PySem.Spec PyProof.Rows L2
section
variable {P : Program} {w : World} {K : PySem.W.Frag} {mg : Str → Option Value} {base : Heap} {C : Addr}
local macro_rules | `(tactic| walk_at "isi") => `(tactic| (first
  | (with_reducible refine r_is_int_int ?_)
  | (with_reducible refine r_is_int_bool ?_)
  | (with_reducible refine r_is_int_str ?_)
  | (with_reducible refine r_is_int_list ?_)
  | (with_reducible refine r_is_int_tuple ?_)
  | (with_reducible refine r_is_bool_int ?_)
  | (with_reducible refine r_is_bool_bool ?_)
  | (with_reducible refine r_is_bool_str ?_)
  | (with_reducible refine r_is_bool_list ?_)
  | (with_reducible refine r_is_bool_tuple ?_)
  | (with_reducible refine r_is_str_int ?_)
  | (with_reducible refine r_is_str_bool ?_)
  | (with_reducible refine r_is_str_str ?_)
  | (with_reducible refine r_is_str_list ?_)
  | (with_reducible refine r_is_str_tuple ?_)
  | ((with_reducible refine r_is_list_int (xs := ?xx) ?hh ?_); (case hh => walk_at "hp"))
  | ((with_reducible refine r_is_list_bool (xs := ?xx) ?hh ?_); (case hh => walk_at "hp"))
  | ((with_reducible refine r_is_list_str (xs := ?xx) ?hh ?_); (case hh => walk_at "hp"))
  | ((with_reducible refine r_is_list_list (xs := ?xx) ?hh ?_); (case hh => walk_at "hp"))
  | ((with_reducible refine r_is_list_tuple (xs := ?xx) ?hh ?_); (case hh => walk_at "hp"))
  | ((with_reducible refine r_is_tuple_int (xs := ?xx) ?hh ?_); (case hh => walk_at "hp"))
  | ((with_reducible refine r_is_tuple_bool (xs := ?xx) ?hh ?_); (case hh => walk_at "hp"))
  | ((with_reducible refine r_is_tuple_str (xs := ?xx) ?hh ?_); (case hh => walk_at "hp"))
  | ((with_reducible refine r_is_tuple_list (xs := ?xx) ?hh ?_); (case hh => walk_at "hp"))
  | ((with_reducible refine r_is_tuple_tuple (xs := ?xx) ?hh ?_); (case hh => walk_at "hp"))
  | (with_reducible refine r_is_NoneType_int ?_)
  | (with_reducible refine r_is_NoneType_bool ?_)
  | (with_reducible refine r_is_NoneType_str ?_)
  | (with_reducible refine r_is_NoneType_list ?_)
  | (with_reducible refine r_is_NoneType_tuple ?_)))
local macro_rules | `(tactic| walk_at "ne") => `(tactic| first | assumption | (refine Ne.symm ?_; assumption) | exact Bag.ne (by assumption) (by assumption) | exact ne_of_none (by assumption) (by assumption))
local macro_rules | `(tactic| walk_at "hp") => `(tactic| (first
  | assumption
  | exact upd_same
  | (refine h_keep ?_ (by assumption); walk_at "hp")
  | (refine (upd_ne (by walk_at "ne")).trans ?_; walk_at "hp")
  | (refine Same.at (by assumption) ?_; walk_at "hp")
  | (refine But.at (by assumption) (by walk_at "ne") ?_; walk_at "hp")
  | (refine But2.at (by assumption) (by walk_at "ne") (by walk_at "ne") ?_; walk_at "hp")))
local macro_rules | `(tactic| walk_at "side") => `(tactic| first | assumption | omega | (refine ⟨?_, ?_⟩ <;> first | assumption | omega | decide) | decide | (refine ⟨by decide, by decide, by decide⟩) | (left; refine ⟨?_, ?_⟩ <;> first | omega | decide) | (right; refine ⟨?_, ?_⟩ <;> first | omega | decide) | (simp; done))
local macro_rules | `(tactic| walk_at "cond") => `(tactic| first | assumption | exact rfl | omega | (simp only [List.length_cons, List.length_nil]; omega) | decide +kernel)
local macro_rules | `(tactic| walk_at "s") => `(tactic| (first
  | ((with_reducible refine r_var (v := ?vv) ?ee ?_); (case ee => exact rfl))
  | (with_reducible refine r_c ?_)
  | (with_reducible refine r_op ?_)
  | (with_reducible refine r_un ?_)
  | (with_reducible refine r_rI0 ?_)
  | ((with_reducible refine r_rI ?cc ?_); (case cc => walk_at "side"))
  | (with_reducible refine r_rU ?_)
  | (with_reducible refine r_eqI ?_)
  | (with_reducible refine r_neI ?_)
  | (with_reducible refine r_eqB ?_)
  | (with_reducible refine r_neB ?_)
  | (with_reducible refine r_eqS ?_)
  | (with_reducible refine r_neS ?_)
  | ((with_reducible refine r_eq ?ee ?_); (case ee => exact rfl))
  | ((with_reducible refine r_ne ?ee ?_); (case ee => exact rfl))
  | ((with_reducible refine r_ixL (v := ?vv) (xs := ?xx) ?hh ?ee ?_); (case hh => (refine SqL.of ?_; walk_at "hp")); (case ee => exact rfl))
  | (with_reducible refine r_cb ?_)
  | (with_reducible refine r_call ?_)
  | (with_reducible refine r_cons ?_)
  | (with_reducible refine r_nil ?_)
  | (with_reducible refine r_lst ?_)
  | (with_reducible refine r_tup ?_)
  | ((with_reducible refine r_new ?cc ?_); (case cc => walk_at "side"))
  | (with_reducible refine r_exbl ?_)
  | (with_reducible refine r_exint ?_)
  | (with_reducible refine r_exint2 ?_)
  | (with_reducible refine r_exblL ?_)
  | (with_reducible refine r_ex2 ?_)
  | (with_reducible refine r_test ?_)
  | (with_reducible refine r_tB ?_)
  | (with_reducible refine r_not ?_)
  | (with_reducible refine r_and ?_)
  | (with_reducible refine r_or ?_)
  | (with_reducible refine r_andV ?_)
  | (with_reducible refine r_orV ?_)
  | (with_reducible refine r_notV ?_)
  | (with_reducible refine r_tif ?_)
  | (with_reducible refine r_iteT ?_)
  | (with_reducible refine r_iteNT ?_)
  | (with_reducible refine r_iteNF ?_)
  | (with_reducible refine r_iteF ?_)
  | (with_reducible refine r_seq ?_)
  | (with_reducible refine r_next ?_)
  | (with_reducible refine r_brk ?_)
  | (with_reducible refine r_cont ?_)
  | (with_reducible refine r_asg ?_)
  | (with_reducible refine r_gname ?_)
  | (with_reducible refine r_ret ?_)
  | (with_reducible refine r_retN ?_)
  | (with_reducible refine r_drop ?_)
  | (with_reducible refine r_if ?_)
  | ((with_reducible refine r_aug (x := ?xx) ?ee ?_); (case ee => exact rfl))
  | (with_reducible refine r_ipI ?_)
  | (with_reducible refine r_augS ?_)
  | (with_reducible refine r_gsub ?_)
  | ((with_reducible refine r_setL (xs := ?xx) (m := ?mm) ?hh ?ee ?_); (case hh => walk_at "hp"); (case ee => exact rfl))
  | (with_reducible refine r_par ?_)
  | (with_reducible refine r_bm ?_)
  | ((with_reducible refine r_tyL (xs := ?xx) ?hh ?_); (case hh => walk_at "hp"))
  | ((with_reducible refine r_append (xs := ?xx) ?hh ?ll ?_); (case hh => walk_at "hp"); (case ll => walk_at "side"))
  | (walk_at "isi")
  | (with_reducible refine r_for ?_)
  | (with_reducible refine r_iList ?_)
  | (with_reducible refine r_iTup ?_)
  | (with_reducible refine r_iR1 ?_)
  | (with_reducible refine r_iR2 ?_)
  | (with_reducible refine r_lc ?_)
  | (with_reducible refine r_yes ?_)
  | ((with_reducible refine r_lenS ?ll ?_); (case ll => walk_at "side"))
  | (with_reducible refine r_leS ?_)
  | (with_reducible refine r_chain ?_)
  | (with_reducible refine r_tM1 ?_)
  | (with_reducible refine r_exS ?_)
  | ((with_reducible refine r_tupL (xs := ?xx) ?hh ?_); (case hh => walk_at "hp"))
  | ((with_reducible refine r_listL (xs := ?xx) ?hh ?_); (case hh => walk_at "hp"))
  | ((with_reducible refine r_listT (xs := ?xx) ?hh ?_); (case hh => walk_at "hp"))
  | ((with_reducible refine r_ixT (v := ?vv) (xs := ?xx) ?hh ?ee ?_); (case hh => (refine SqT.of ?_; walk_at "hp")); (case ee => exact rfl))
  | (with_reducible refine r_sl ?_)
  | (with_reducible refine r_nopart ?_)
  | (with_reducible refine r_part ?_)
  | (with_reducible refine r_exI ?_)
  | ((with_reducible refine r_slL (xs := ?xx) ?hh ?_); (case hh => first | assumption | (refine SqL.of ?_; walk_at "hp") | (refine Same.seq (by assumption) (by assumption))))
  | ((with_reducible refine r_cat (xs := ?xx) (zs := ?zz) ?hh ?ii ?ll ?_); (case hh => walk_at "hp"); (case ii => walk_at "hp"); (case ll => walk_at "side"))
  | ((with_reducible refine r_lenL (xs := ?xx) ?hh ?_); (case hh => walk_at "hp"))
  | ((with_reducible refine r_lenT (xs := ?xx) ?hh ?_); (case hh => walk_at "hp"))
  | ((with_reducible refine r_gTup (xs := ?xx) ?hh ?ll ?_); (case hh => walk_at "hp"); (case ll => exact rfl))
  | (with_reducible refine r_gCons ?_)
  | (with_reducible refine r_gNil ?_)
  | ((with_reducible refine r_iteDT ?cc ?_); (case cc => walk_at "cond"))
  | ((with_reducible refine r_iteDF ?cc ?_); (case cc => walk_at "cond"))
  | ((with_reducible refine r_iteNDT ?cc ?_); (case cc => walk_at "cond"))
  | ((with_reducible refine r_iteNDF ?cc ?_); (case cc => walk_at "cond"))
  ))
local macro_rules | `(tactic| walk_at "go") => `(tactic| repeat (walk_at "s"))

local macro_rules | `(tactic| walk_at "s") => `(tactic| (first
  | (with_reducible refine r_dnew ?_)
  | (with_reducible refine r_dget2 ?_)
  | (with_reducible refine r_dget ?_)
  | (with_reducible refine r_dput ?_)
  | (with_reducible refine r_dsetd ?_)
  | ((with_reducible refine JarAt.isD (n := ?nn) (c := ?cc) ?hh ?_); (case hh => assumption))
  ))

local macro_rules | `(tactic| walk_at "s") => `(tactic| (first
  | (with_reducible refine r_prop ?_)
  | (with_reducible refine r_meth ?_)
  | (with_reducible refine r_make ?_)
  | (with_reducible refine r_fld ?_)
  | (with_reducible refine r_sfld ?_)
  | (with_reducible refine r_iOwn ?_)
  | ((with_reducible refine u_rowsAt (mg := ?mm) (C := ?CC) (dx := ?dd) (fv := ?vv) ?tt ?hh ?_); (case tt => assumption); (case hh => walk_at "hp"))
  | ((with_reducible refine r_isPoly (mg := ?mm) (dx := ?dd) (fs := ?ff) ?tt ?hh ?_); (case tt => assumption); (case hh => walk_at "hp"))
  | ((with_reducible refine r_isPolyI (mg := ?mm) ?tt ?_); (case tt => assumption))
  | ((with_reducible refine r_polyInt (mg := ?mm) (C := ?CC) (dx := ?dd) (fs := ?ff) ?tt ?hh ?_); (case tt => assumption); (case hh => walk_at "hp"))
  ))

theorem ok_l_is_poly {f : Addr} {fd : FuncData} (F : Fun K "_law_is_poly" "_law_is_poly" s_l_is_poly f fd) (B : Bl mg) (G_Poly : PolyT K mg C) (h_l_is_int : Has P w K mg base "_law_is_int" 1 ["_law_thing"] spIsInt) (h_l_terms_of : Has P w K mg base "_law_terms_of" 1 ["_law_jar"] spTerms)
   (hp_Poly_terms : HasP P w K mg base C "terms" 1 ["self"] (spGetTerms C)) (hp_Poly_span : HasP P w K mg base C "span" 1 ["self"] (spGetSpan C)) (hm_Poly___len__ : HasM P w K mg base C "__len__" 1 ["self"] (spPLen C)) (hs_Poly___iter__ : HasS P w K mg base C "__iter__" 1 ["self"] (spIter K C "rows")) :
   FnOk P w K mg base CX0 4 f fd ["_law_found", "_law_jar"] (spIsPoly C) := by
  refine F.ok sc_l_is_poly (fun vs H Q E h => ?_) (fun cdv A outer s H vs Q E hr h => ?_)
  · obtain ⟨a, ts, d, n, c, rfl, _⟩ := h
    rfl
  · obtain ⟨a, ts, d, n, c, rfl, ha, hj, hcof, hn, htn, k⟩ := h
    obtain ⟨dx, r, vs, g1, hr', ht, hc⟩ := id ha
    refine ⟨_, (pss_cons (ps_if (pt_not (pt_val (pe_callB (call_isiKK (K := K)) (by rfl) B.b_isinstance (by decide +kernel) (pa_cons (pv 0) (pa_cons (pe_glob (v := .ref C) rfl G_Poly.mgC rfl) pa_nil)))))
    (pss_one (ps_ret pe_bl))
    pss_nil)
    (pss_cons (ps_set (i := 2) sc_l_is_poly.nd rfl (.inl rfl) (pe_propH G_Poly.cl hp_Poly_terms (hr.mono (by first | decide | omega)) (pv 0)))
    (pss_cons (ps_if (PW.pt (pw_or (pt_not (pt_val (pe_callB (call_isiKK (K := K)) (by rfl) B.b_isinstance (by decide +kernel) (pa_cons (pv 2) (pa_cons (pe_bltn (v := .ty "list") (by rfl) B.b_list (by decide +kernel) rfl) pa_nil))))) (pw_or1 (pt_not (pt_val (pe_callB (call_allK (K := K)) (by rfl) B.b_all (by decide +kernel) (pa_cons (pe_lc (own := [("_law_row", 5)]) rfl sc_l_is_poly.nd (pi_list (pv 2)) (blkOk_by (N := ["_law_found", "_law_jar", "_law_told", "_law_due", "_law_wide", "_law_row"]) (sc := defScope s_l_is_poly) (by decide +kernel)) (fun _ _ _ _ _ => (pg_name (i := 5) sc_l_is_poly.nd rfl (.inl rfl))) (fun _ _ _ _ _ => pts_nil) (fun _ _ _ _ _ => (pe_and (pe_callB (call_isiKK (K := K)) (by rfl) B.b_isinstance (by decide +kernel) (pa_cons (pv 5) (pa_cons (pe_bltn (v := .ty "tuple") (by rfl) B.b_tuple (by decide +kernel) rfl) pa_nil))) (pe_one (pe_cmpR op_eq (pe_callB (call_lenK (K := K)) (by rfl) B.b_len PySem.boot_len (pa_cons (pv 5) pa_nil)) pe_int (nomark _)))))) pa_nil)))))))
    (pss_one (ps_ret pe_bl))
    pss_nil)
    (pss_cons (ps_if (pt_not (pt_val (pe_callB (call_allK (K := K)) (by rfl) B.b_all (by decide +kernel) (pa_cons (pe_lc (own := [("_law_row", 5)]) rfl sc_l_is_poly.nd (pi_list (pv 2)) (blkOk_by (N := ["_law_found", "_law_jar", "_law_told", "_law_due", "_law_wide", "_law_row"]) (sc := defScope s_l_is_poly) (by decide +kernel)) (fun _ _ _ _ _ => (pg_name (i := 5) sc_l_is_poly.nd rfl (.inl rfl))) (fun _ _ _ _ _ => pts_nil) (fun _ _ _ _ _ => (pe_and (pe_callH h_l_is_int (hr.mono (by first | decide | omega)) (pa_cons (pe_ix (ix_tupK (K := K)) (pv 5) pe_int (fun _ _ => rfl)) pa_nil)) (pe_one (pe_callH h_l_is_int (hr.mono (by first | decide | omega)) (pa_cons (pe_ix (ix_tupK (K := K)) (pv 5) pe_int (fun _ _ => rfl)) pa_nil)))))) pa_nil))))
    (pss_one (ps_ret pe_bl))
    pss_nil)
    (pss_cons (ps_set (i := 3) sc_l_is_poly.nd rfl (.inl rfl) (pe_callH h_l_terms_of (hr.mono (by first | decide | omega)) (pa_cons (pv 1) pa_nil)))
    (pss_cons (ps_set (i := 4) sc_l_is_poly.nd rfl (.inl rfl) pe_int)
    (pss_cutM (ps_if (pt_cmpR (op_neDK (K := K) hr.units) (pv 3) (pe_lst pa_nil) (nomark _))
    (pss_one (ps_set (i := 4) sc_l_is_poly.nd rfl (.inl rfl) (pe_op op_sub (pe_ix (ix_tupK (K := K)) (pe_ix (ix_listK (K := K)) (pv 3) (pe_un un_neg pe_int) (fun _ _ => rfl)) pe_int (fun _ _ => rfl)) (pe_ix (ix_tupK (K := K)) (pe_ix (ix_listK (K := K)) (pv 3) pe_int (fun _ _ => rfl)) pe_int (fun _ _ => rfl)))))
    pss_nil)
    (pss_cons (ps_if (PW.pt (pw_or (pt_cmpR (op_neDK (K := K) hr.units) (pv 2) (pv 3) (nomark _)) (pw_or (pt_not (pt_val (pe_callH h_l_is_int (hr.mono (by first | decide | omega)) (pa_cons (pe_propH G_Poly.cl hp_Poly_span (hr.mono (by first | decide | omega)) (pv 0)) pa_nil)))) (pw_or1 (pt_cmpR op_ne (pe_propH G_Poly.cl hp_Poly_span (hr.mono (by first | decide | omega)) (pv 0)) (pv 4) (nomark _))))))
    (pss_one (ps_ret pe_bl))
    pss_nil)
    (pss_cons (ps_expr (pe_bm PySem.F.plainAttrs_list PySem.F.slot_list_append PySem.F.type_list_append mt_append (pv 2) (pa_cons (pe_tup (pa_cons pe_int (pa_cons pe_int pa_nil))) pa_nil)))
    (pss_one (ps_ret (pe_and (pe_cmpR op_eq (pe_callB (call_lenOwn hm_Poly___len__ (hr.mono (by first | decide | omega))) (by rfl) B.b_len PySem.boot_len (pa_cons (pv 0) pa_nil)) (pe_callB (call_lenK (K := K)) (by rfl) B.b_len PySem.boot_len (pa_cons (pv 3) pa_nil)) (nomark _)) (pe_and (pe_cmpR (op_eqDK (K := K) hr.units) (pe_lc (own := [("_law_row", 5)]) rfl sc_l_is_poly.nd (pi_ownK (K := K) (pv 0) hs_Poly___iter__ (hr.mono (by first | decide | omega))) (blkOk_by (N := ["_law_found", "_law_jar", "_law_told", "_law_due", "_law_wide", "_law_row"]) (sc := defScope s_l_is_poly) (by decide +kernel)) (fun _ _ _ _ _ => (pg_name (i := 5) sc_l_is_poly.nd rfl (.inl rfl))) (fun _ _ _ _ _ => pts_nil) (fun _ _ _ _ _ => (pv 5))) (pv 3) (nomark _)) (pe_one (pe_cmpR (op_eqDK (K := K) hr.units) (pe_propH G_Poly.cl hp_Poly_terms (hr.mono (by first | decide | omega)) (pv 0)) (pv 3) (nomark _)))))))))))))))), ?_⟩
    walk_at "go"
    refine ⟨a, dx, _, rfl, g1, a, ts, rfl, ha, fun l H1 nl s1 htl => ?_⟩
    obtain ⟨ws, hlw, hw⟩ := id htl
    have hwl := hw.length
    walk_at "go"
    refine u_lcL (.of hlw) (fun D i acc H' => (acc = (List.replicate i true).map V.bl ∧ i ≤ ws.length) ∧ Same H1 H') ?_ ?_ ?_ ?_
    · exact fun D hD => ⟨⟨rfl, by omega⟩, Same.new0 hD⟩
    · exact fun D i acc H' _ _ ⟨_, s⟩ => .of (s _ _ hlw)
    · rintro D i v acc H' hD hv hacc ⟨⟨ea, _⟩, sm⟩
      obtain ⟨b, p, rfl, hp, hb⟩ := hw.at i hv
      have hi2 := (List.getElem?_eq_some_iff.mp hv).1
      have hb' := sm _ _ hb
      walk_at "go"
      refine ⟨rfl, ?_⟩
      walk_at "go"
      have al : acc.length = i := by rw [ea]; simp
      refine u_push hacc (by omega) ⟨⟨?_, by omega⟩, Same.put sm hD⟩
      rw [ea, List.replicate_succ', List.map_append]
      rfl
    · rintro D acc H2 hD hacc ⟨⟨ea, _⟩, s2⟩
      rw [ea] at hacc
      walk_at "go"
      refine r_all (SqL.of hacc) ?_
      rw [show ((List.replicate ws.length true).all id) = true by simp]
      walk_at "go"
      have hlw2 := s2 _ _ hlw
      have hw2 := hw.tk (Tk.same s2)
      refine u_lcL (.of hlw2) (fun D i acc H' => (acc = (List.replicate i true).map V.bl ∧ i ≤ ws.length) ∧ Same H2 H') ?_ ?_ ?_ ?_
      · exact fun D hD => ⟨⟨rfl, by omega⟩, Same.new0 hD⟩
      · exact fun D i acc H' _ _ ⟨_, s⟩ => .of (s _ _ hlw2)
      · rintro D i v acc H' hD hv hacc ⟨⟨ea, _⟩, sm⟩
        obtain ⟨b, p, rfl, hp, hb⟩ := hw2.at i hv
        have hi2 := (List.getElem?_eq_some_iff.mp hv).1
        have hb' := sm _ _ hb
        walk_at "go"
        refine ⟨rfl, ?_⟩
        walk_at "go"
        refine ⟨_, rfl, ?_⟩
        walk_at "go"
        refine ⟨_, rfl, ?_⟩
        have al : acc.length = i := by rw [ea]; simp
        refine u_push hacc (by omega) ⟨⟨?_, by omega⟩, Same.put sm hD⟩
        rw [ea, List.replicate_succ', List.map_append]
        rfl
      · rintro D acc H3 hD hacc ⟨⟨ea, _⟩, s3⟩
        rw [ea] at hacc
        walk_at "go"
        refine r_all (SqL.of hacc) ?_
        rw [show ((List.replicate ws.length true).all id) = true by simp]
        walk_at "go"
        have sC : Same H H3 := s1.trans (s2.trans s3)
        refine ⟨d, n, c, rfl, hj.same sC, hn, fun l2 us H4 nl2 s4 hus hcu hul ht2 => ?_⟩
        have eus : us = ts := hus.ext hc fun k => (hcu k).trans (hcof k).symm
        subst eus
        obtain ⟨ys, hly, hy⟩ := id ht2
        have hyl := hy.length
        have htl4 : TermsAt H4 l us := htl.same (s2.trans (s3.trans s4))
        have sD : Same H H4 := sC.trans s4
        walk_at "go"
        refine r_cut (fun σ' H' => Same H4 H' ∧ σ' = [some (.ref a), some (.ref d), some (.ref l), some (.ref l2), some (.int (spanOf us)), none]) ?_ ?_
        · walk_at "go"
          intro e0 ne0
          refine r_neT (ht2.same (Same.new0 ne0)) (.none upd_same) ?_
          have s5 : Same H4 (upd H4 e0 (.lst [])) := Same.new0 ne0
          generalize upd H4 e0 (.lst []) = H5 at *
          have hly5 := s5 _ _ hly
          have hy5 := hy.tk (Tk.same s5)
          walk_at "go"
          refine r_iteN (fun hne => ?_) (fun hne => ?_)
          · obtain ⟨b, b', p, q, a0, h0', a1, h1', e0, e1⟩ := last_of hy5 hne
            walk_at "go"
            refine r_ixL (.of hly5) a1 ?_
            walk_at "go"
            refine r_ixL (.of hly5) a0 ?_
            walk_at "go"
            exact ⟨s5, by unfold spanOf; rw [e0, e1]; rfl⟩
          · subst hne
            walk_at "go"
            exact ⟨s5, rfl⟩
        · rintro σ' H5 ⟨s5, rfl⟩
          have hly5 := s5 _ _ hly
          have hy5 := hy.tk (Tk.same s5)
          have htl5 := htl4.same s5
          have ht5 := ht2.same s5
          have ha5 := ha.same (sD.trans s5)
          have g15 := s5 _ _ (sD _ _ g1)
          walk_at "go"
          refine r_neT htl5 ht5 ?_
          rw [decide_eq_true rfl]
          walk_at "go"
          refine ⟨a, dx, _, rfl, g15, a, us, rfl, ha5, ?_⟩
          walk_at "go"
          refine ⟨_, rfl, ?_⟩
          walk_at "go"
          obtain ⟨zs, hlz, hz⟩ := id htl5
          have hzl := hz.length
          refine ⟨a, dx, _, rfl, g15, a, us, rfl, ha5, ?_⟩
          walk_at "go"
          intro t nt
          walk_at "go"
          have nll2 : l2 ≠ l := by
            rintro rfl
            have : H3 l2 ≠ none := by rw [s3 _ _ (s2 _ _ hlw)]; simp
            exact this nl2
          have s6 : ∀ b o, b ≠ l → H5 b = some o → (upd (upd H5 t (.tup [.int 0, .int 5])) l (.lst (zs ++ [.ref t]))) b = some o := fun b o nb e => (upd_ne nb).trans (h_keep e nt)
          have t6 : Tk H5 (upd (upd H5 t (.tup [.int 0, .int 5])) l (.lst (zs ++ [.ref t]))) := ((Tk.refl _).new nt).lst (h_keep hlz nt)
          have s60 : Same H (upd (upd H5 t (.tup [.int 0, .int 5])) l (.lst (zs ++ [.ref t]))) := Same.put (Same.new (sD.trans s5) nt) nl
          generalize upd (upd H5 t (.tup [.int 0, .int 5])) l (.lst (zs ++ [.ref t])) = H6 at *
          have ha6 := ha.same s60
          obtain ⟨dx6, r6, vs6, g6, hr6, hv6, _⟩ := id ha6
          have hl6 := s6 _ _ nll2 hly5
          have ht6 : TermsAt H6 l2 us := ⟨ys, hl6, hy5.tk t6⟩
          refine ⟨a, dx6, _, rfl, g6, a, us, rfl, ha6, us.length, rfl, by omega, ?_⟩
          walk_at "go"
          have hvl6 := hv6.length
          refine ⟨a, dx6, _, r6, vs6, rfl, g6, rows_look, .of hr6, fun D hD => lc_tup (xs := vs6) (fun i H' => ∃ acc, H' D = some (.lst acc) ∧ acc = vs6.take i ∧ i ≤ vs6.length ∧ Same H6 H') ⟨[], upd_same, rfl, Nat.zero_le _, Same.new0 hD⟩ (fun i H' _ ⟨_, _, _, _, s⟩ => .of (s _ _ hr6)) (fun i x H' hx ⟨acc, hacc, ea, hi, s⟩ => ?_) fun H' ⟨acc, hacc, ea, hi, s⟩ => ?_⟩
          · have hi2 := (List.getElem?_eq_some_iff.mp hx).1
            walk_at "go"
            refine ⟨rfl, ?_⟩
            walk_at "go"
            refine ⟨acc, hacc, Nat.lt_of_le_of_lt (m := 90000) (by rw [ea, List.length_take]; omega) (by decide), _, upd_same, ?_, hi2, Same.put s hD⟩
            rw [ea, List.take_succ, hx]; rfl
          · rw [List.take_of_length_le (Nat.le_refl _)] at ea
            subst ea
            walk_at "go"
            have ht7 := ht6.same s
            refine r_eqT (ts := us) ⟨_, hacc, hv6.tk (Tk.same s)⟩ ht7 ?_
            rw [decide_eq_true rfl]
            walk_at "go"
            refine ⟨a, dx6, _, rfl, s _ _ g6, a, us, rfl, ha6.same s, fun l8 H8 nl8 s8 ht8 => ?_⟩
            walk_at "go"
            refine r_eqT ht8 (ht7.same s8) ?_
            rw [decide_eq_true rfl]
            walk_at "go"
            exact k _ (s60.trans (s.trans s8))
end
end My

set_option Elab.async false
set_option linter.all false
set_option maxRecDepth 100000
set_option maxHeartbeats 4000000

namespace My
open PySem PySem.Spec PyProof.Rows L2
section
variable {P : Program} {w : World} {K : PySem.W.Frag} {mg : Str → Option Value} {base : Heap} {C : Addr}
local macro_rules | `(tactic| walk_at "isi") => `(tactic| (first
  | (with_reducible refine r_is_int_int ?_)
  | (with_reducible refine r_is_int_bool ?_)
  | (with_reducible refine r_is_int_str ?_)
  | (with_reducible refine r_is_int_list ?_)
  | (with_reducible refine r_is_int_tuple ?_)
  | (with_reducible refine r_is_bool_int ?_)
  | (with_reducible refine r_is_bool_bool ?_)
  | (with_reducible refine r_is_bool_str ?_)
  | (with_reducible refine r_is_bool_list ?_)
  | (with_reducible refine r_is_bool_tuple ?_)
  | (with_reducible refine r_is_str_int ?_)
  | (with_reducible refine r_is_str_bool ?_)
  | (with_reducible refine r_is_str_str ?_)
  | (with_reducible refine r_is_str_list ?_)
  | (with_reducible refine r_is_str_tuple ?_)
  | ((with_reducible refine r_is_list_int (xs := ?xx) ?hh ?_); (case hh => walk_at "hp"))
  | ((with_reducible refine r_is_list_bool (xs := ?xx) ?hh ?_); (case hh => walk_at "hp"))
  | ((with_reducible refine r_is_list_str (xs := ?xx) ?hh ?_); (case hh => walk_at "hp"))
  | ((with_reducible refine r_is_list_list (xs := ?xx) ?hh ?_); (case hh => walk_at "hp"))
  | ((with_reducible refine r_is_list_tuple (xs := ?xx) ?hh ?_); (case hh => walk_at "hp"))
  | ((with_reducible refine r_is_tuple_int (xs := ?xx) ?hh ?_); (case hh => walk_at "hp"))
  | ((with_reducible refine r_is_tuple_bool (xs := ?xx) ?hh ?_); (case hh => walk_at "hp"))
  | ((with_reducible refine r_is_tuple_str (xs := ?xx) ?hh ?_); (case hh => walk_at "hp"))
  | ((with_reducible refine r_is_tuple_list (xs := ?xx) ?hh ?_); (case hh => walk_at "hp"))
  | ((with_reducible refine r_is_tuple_tuple (xs := ?xx) ?hh ?_); (case hh => walk_at "hp"))
  | (with_reducible refine r_is_NoneType_int ?_)
  | (with_reducible refine r_is_NoneType_bool ?_)
  | (with_reducible refine r_is_NoneType_str ?_)
  | (with_reducible refine r_is_NoneType_list ?_)
  | (with_reducible refine r_is_NoneType_tuple ?_)))
local macro_rules | `(tactic| walk_at "ne") => `(tactic| first | assumption | (refine Ne.symm ?_; assumption) | exact Bag.ne (by assumption) (by assumption) | exact ne_of_none (by assumption) (by assumption))
local macro_rules | `(tactic| walk_at "hp") => `(tactic| (first
  | assumption
  | exact upd_same
  | (refine h_keep ?_ (by assumption); walk_at "hp")
  | (refine (upd_ne (by walk_at "ne")).trans ?_; walk_at "hp")
  | (refine Same.at (by assumption) ?_; walk_at "hp")
  | (refine But.at (by assumption) (by walk_at "ne") ?_; walk_at "hp")
  | (refine But2.at (by assumption) (by walk_at "ne") (by walk_at "ne") ?_; walk_at "hp")))
local macro_rules | `(tactic| walk_at "side") => `(tactic| first | assumption | omega | (refine ⟨?_, ?_⟩ <;> first | assumption | omega | decide) | decide | (refine ⟨by decide, by decide, by decide⟩) | (left; refine ⟨?_, ?_⟩ <;> first | omega | decide) | (right; refine ⟨?_, ?_⟩ <;> first | omega | decide) | (simp; done))
local macro_rules | `(tactic| walk_at "cond") => `(tactic| first | assumption | exact rfl | omega | (simp only [List.length_cons, List.length_nil]; omega) | decide +kernel)
local macro_rules | `(tactic| walk_at "s") => `(tactic| (first
  | ((with_reducible refine r_var (v := ?vv) ?ee ?_); (case ee => exact rfl))
  | (with_reducible refine r_c ?_)
  | (with_reducible refine r_op ?_)
  | (with_reducible refine r_un ?_)
  | (with_reducible refine r_rI0 ?_)
  | ((with_reducible refine r_rI ?cc ?_); (case cc => walk_at "side"))
  | (with_reducible refine r_rU ?_)
  | (with_reducible refine r_eqI ?_)
  | (with_reducible refine r_neI ?_)
  | (with_reducible refine r_eqB ?_)
  | (with_reducible refine r_neB ?_)
  | (with_reducible refine r_eqS ?_)
  | (with_reducible refine r_neS ?_)
  | ((with_reducible refine r_eq ?ee ?_); (case ee => exact rfl))
  | ((with_reducible refine r_ne ?ee ?_); (case ee => exact rfl))
  | ((with_reducible refine r_ixL (v := ?vv) (xs := ?xx) ?hh ?ee ?_); (case hh => (refine SqL.of ?_; walk_at "hp")); (case ee => exact rfl))
  | (with_reducible refine r_cb ?_)
  | (with_reducible refine r_call ?_)
  | (with_reducible refine r_cons ?_)
  | (with_reducible refine r_nil ?_)
  | (with_reducible refine r_lst ?_)
  | (with_reducible refine r_tup ?_)
  | ((with_reducible refine r_new ?cc ?_); (case cc => walk_at "side"))
  | (with_reducible refine r_exbl ?_)
  | (with_reducible refine r_exint ?_)
  | (with_reducible refine r_exint2 ?_)
  | (with_reducible refine r_exblL ?_)
  | (with_reducible refine r_ex2 ?_)
  | (with_reducible refine r_test ?_)
  | (with_reducible refine r_tB ?_)
  | (with_reducible refine r_not ?_)
  | (with_reducible refine r_and ?_)
  | (with_reducible refine r_or ?_)
  | (with_reducible refine r_andV ?_)
  | (with_reducible refine r_orV ?_)
  | (with_reducible refine r_notV ?_)
  | (with_reducible refine r_tif ?_)
  | (with_reducible refine r_iteT ?_)
  | (with_reducible refine r_iteNT ?_)
  | (with_reducible refine r_iteNF ?_)
  | (with_reducible refine r_iteF ?_)
  | (with_reducible refine r_seq ?_)
  | (with_reducible refine r_next ?_)
  | (with_reducible refine r_brk ?_)
  | (with_reducible refine r_cont ?_)
  | (with_reducible refine r_asg ?_)
  | (with_reducible refine r_gname ?_)
  | (with_reducible refine r_ret ?_)
  | (with_reducible refine r_retN ?_)
  | (with_reducible refine r_drop ?_)
  | (with_reducible refine r_if ?_)
  | ((with_reducible refine r_aug (x := ?xx) ?ee ?_); (case ee => exact rfl))
  | (with_reducible refine r_ipI ?_)
  | (with_reducible refine r_augS ?_)
  | (with_reducible refine r_gsub ?_)
  | ((with_reducible refine r_setL (xs := ?xx) (m := ?mm) ?hh ?ee ?_); (case hh => walk_at "hp"); (case ee => exact rfl))
  | (with_reducible refine r_par ?_)
  | (with_reducible refine r_bm ?_)
  | ((with_reducible refine r_tyL (xs := ?xx) ?hh ?_); (case hh => walk_at "hp"))
  | ((with_reducible refine r_append (xs := ?xx) ?hh ?ll ?_); (case hh => walk_at "hp"); (case ll => walk_at "side"))
  | (walk_at "isi")
  | (with_reducible refine r_for ?_)
  | (with_reducible refine r_iList ?_)
  | (with_reducible refine r_iTup ?_)
  | (with_reducible refine r_iR1 ?_)
  | (with_reducible refine r_iR2 ?_)
  | (with_reducible refine r_lc ?_)
  | (with_reducible refine r_yes ?_)
  | ((with_reducible refine r_lenS ?ll ?_); (case ll => walk_at "side"))
  | (with_reducible refine r_leS ?_)
  | (with_reducible refine r_chain ?_)
  | (with_reducible refine r_tM1 ?_)
  | (with_reducible refine r_exS ?_)
  | ((with_reducible refine r_tupL (xs := ?xx) ?hh ?_); (case hh => walk_at "hp"))
  | ((with_reducible refine r_listL (xs := ?xx) ?hh ?_); (case hh => walk_at "hp"))
  | ((with_reducible refine r_listT (xs := ?xx) ?hh ?_); (case hh => walk_at "hp"))
  | ((with_reducible refine r_ixT (v := ?vv) (xs := ?xx) ?hh ?ee ?_); (case hh => (refine SqT.of ?_; walk_at "hp")); (case ee => exact rfl))
  | (with_reducible refine r_sl ?_)
  | (with_reducible refine r_nopart ?_)
  | (with_reducible refine r_part ?_)
  | (with_reducible refine r_exI ?_)
  | ((with_reducible refine r_slL (xs := ?xx) ?hh ?_); (case hh => first | assumption | (refine SqL.of ?_; walk_at "hp") | (refine Same.seq (by assumption) (by assumption))))
  | ((with_reducible refine r_cat (xs := ?xx) (zs := ?zz) ?hh ?ii ?ll ?_); (case hh => walk_at "hp"); (case ii => walk_at "hp"); (case ll => walk_at "side"))
  | ((with_reducible refine r_lenL (xs := ?xx) ?hh ?_); (case hh => walk_at "hp"))
  | ((with_reducible refine r_lenT (xs := ?xx) ?hh ?_); (case hh => walk_at "hp"))
  | ((with_reducible refine r_gTup (xs := ?xx) ?hh ?ll ?_); (case hh => walk_at "hp"); (case ll => exact rfl))
  | (with_reducible refine r_gCons ?_)
  | (with_reducible refine r_gNil ?_)
  | ((with_reducible refine r_iteDT ?cc ?_); (case cc => walk_at "cond"))
  | ((with_reducible refine r_iteDF ?cc ?_); (case cc => walk_at "cond"))
  | ((with_reducible refine r_iteNDT ?cc ?_); (case cc => walk_at "cond"))
  | ((with_reducible refine r_iteNDF ?cc ?_); (case cc => walk_at "cond"))
  ))
local macro_rules | `(tactic| walk_at "go") => `(tactic| repeat (walk_at "s"))

local macro_rules | `(tactic| walk_at "s") => `(tactic| (first
  | (with_reducible refine r_dnew ?_)
  | (with_reducible refine r_dget2 ?_)
  | (with_reducible refine r_dget ?_)
  | (with_reducible refine r_dput ?_)
  | (with_reducible refine r_dsetd ?_)
  | ((with_reducible refine JarAt.isD (n := ?nn) (c := ?cc) ?hh ?_); (case hh => assumption))
  ))

local macro_rules | `(tactic| walk_at "s") => `(tactic| (first
  | (with_reducible refine r_prop ?_)
  | (with_reducible refine r_meth ?_)
  | (with_reducible refine r_make ?_)
  | (with_reducible refine r_fld ?_)
  | (with_reducible refine r_sfld ?_)
  | (with_reducible refine r_iOwn ?_)
  | ((with_reducible refine u_rowsAt (mg := ?mm) (C := ?CC) (dx := ?dd) (fv := ?vv) ?tt ?hh ?_); (case tt => assumption); (case hh => walk_at "hp"))
  | ((with_reducible refine r_isPoly (mg := ?mm) (dx := ?dd) (fs := ?ff) ?tt ?hh ?_); (case tt => assumption); (case hh => walk_at "hp"))
  | ((with_reducible refine r_isPolyI (mg := ?mm) ?tt ?_); (case tt => assumption))
  | ((with_reducible refine r_polyInt (mg := ?mm) (C := ?CC) (dx := ?dd) (fs := ?ff) ?tt ?hh ?_); (case tt => assumption); (case hh => walk_at "hp"))
  ))

local macro_rules | `(tactic| walk_at "s") => `(tactic| (with_reducible refine r_iKeys ?_))
theorem ok_l_plus {f : Addr} {fd : FuncData} (F : Fun K "_law_plus" "_law_plus" s_l_plus f fd) (bD : mg "dict" = none) : FnOk P w K mg base CX0 1 f fd ["_law_one", "_law_two", "_law_sign"] spPlus := by
  refine F.ok sc_l_plus (fun vs H Q E h => ?_) (fun cdv A outer s H vs Q E hr h => ?_)
  · obtain ⟨a, b, n, m, c, e, s, rfl, _⟩ := h
    rfl
  · obtain ⟨a, b, n, m, c, e, sg, rfl, hsg, ha, hb, hn, k⟩ := h
    refine ⟨_, (pss_cons (ps_set (i := 3) sc_l_plus.nd rfl (.inl rfl) (pe_callTy call_dictC (by rfl) bD (by decide +kernel) (pa_cons (pv 0) pa_nil)))
    (pss_cons (ps_lock (ps_for PassesOwn.never rfl (pi_keys (pv 1)) (pg_name (i := 4) sc_l_plus.nd rfl (.inl rfl))
    (pss_one (ps_dput (hu_of hr) (pv 3) (pv 4) (pe_op op_add (pe_dget2 (hu_of hr) (pv 3) (pv 4) pe_int ⟨rfl, rfl, rfl, rfl⟩) (pe_op op_mul (pv 2) (pe_dget (hu_of hr) (pv 1) (pv 4) (fun _ _ => rfl)))) rfl))))
    (pss_one (ps_ret (pv 3))))), ?_⟩
    walk_at "go"
    refine r_dictC ha fun j H1 nj s1 hj => ?_
    obtain ⟨kvs, eb, hk, hl, hc⟩ := hb.same s1
    obtain ⟨ks, ek, knd, kz, kl⟩ := hk.keys
    have njb : j ≠ b := by
      obtain ⟨_, e', _⟩ := hb
      exact (ne_of_none e' nj).symm
    walk_at "go"
    refine ⟨b, .dK kvs, eb, trivial, fun od => ?_⟩
    walk_at "go"
    refine ⟨b, od, rfl, .inl ⟨kvs, upd_same, ?_⟩⟩
    refine u_keys (fun i σ H' => ∃ (y4 : Option V), σ = [some (.ref a), some (.ref b), some (.int sg), some (.ref j), y4] ∧ H' b = some (.frz od (.dK kvs)) ∧ (∀ x o, x ≠ b → x ≠ j → H1 x = some o → H' x = some o) ∧ JarAt H' j (n + i) (fun q => c q + sg * (if q ∈ ks.take i then e q else 0)) ∧ i ≤ kvs.length) ?_ ?_ ?_ ?_
    · refine ⟨_, rfl, upd_same, fun x o xb _ ex => (upd_ne xb).trans ex, ?_, Nat.zero_le _⟩
      obtain ⟨kv2, f1, f2⟩ := hj
      refine ⟨kv2, (upd_ne njb).trans f1, f2.1, f2.2.1, fun q => ?_⟩
      rw [f2.2.2 q]; simp
    · rintro i σ H' ⟨y4, rfl, hb', _⟩
      exact hb'
    · rintro i kk v σ H' hkv ⟨y4, rfl, hb', sm, hj', hi⟩
      have hi2 := (List.getElem?_eq_some_iff.mp hkv).1
      have hks : ks[i]? = some (ks[i]'(by omega)) := List.getElem?_eq_getElem (by omega)
      generalize ks[i]'(by omega) = q at hks
      have ekk : kk = .inl q := by
        have h1 : (kvs.map (·.1))[i]? = some kk := by rw [List.getElem?_map, hkv]; rfl
        rw [ek, List.getElem?_map, hks] at h1
        exact (Option.some.inj h1).symm
      subst ekk
      have hq : q ∈ ks := List.mem_of_getElem? hks
      have hd : DGet H' b (.int q) (some (.int (cfK kvs q))) := JarFz.dget hb' hk (by rw [ek]; exact List.mem_map.mpr ⟨q, hq, rfl⟩)
      obtain ⟨o, g1, g2⟩ := hj'.dget0 q
      have hqn : ¬ q ∈ ks.take i := by
        intro hm
        have h1 := List.nodup_append.mp (show (ks.take i ++ ks.drop i).Nodup by rw [List.take_append_drop]; exact knd)
        have h2 : q ∈ ks.drop i := List.mem_of_getElem? (i := 0) (by rw [List.getElem?_drop]; exact hks)
        exact h1.2.2 q hm q h2 rfl
      show gName 4 (.int q) _ _ _
      walk_at "go"
      refine ⟨o, g1, ?_⟩
      rw [g2]
      have msg : CMul sg (cfK kvs q) := .inl ⟨by omega, by omega⟩
      walk_at "go"
      refine ⟨b, _, rfl, hd, ?_⟩
      walk_at "go"
      obtain ⟨H4, p1, b1, f1, j1⟩ := hj'.dput (k := q) (v := (c q + sg * (if q ∈ ks.take i then e q else 0)) + sg * cfK kvs q) (by omega)
      refine ⟨j, H4, rfl, p1, _, rfl, b1 _ _ njb.symm hb', fun x o xb xj ex => b1 _ _ xj (sm x o xb xj ex), j1.ext fun z => ?_, hi2⟩
      unfold addAt
      have et : ks.take (i + 1) = ks.take i ++ [q] := by rw [List.take_succ, hks]; rfl
      by_cases ez : z = q
      · subst ez
        rw [if_pos rfl, if_neg hqn, if_pos (by rw [et]; simp), hc]
        rw [Int.mul_zero, Int.add_zero]
      · rw [if_neg ez, et]
        simp only [List.mem_append, List.mem_singleton, ez, or_false]
    · rintro σ H' ⟨y4, rfl, hb', sm, hj', hi⟩
      refine ⟨hb', ?_⟩
      walk_at "go"
      have sE : Same H (upd H' b (.dK kvs)) := fun x o ex => by
        by_cases xb : x = b
        · subst xb
          rw [upd_same]
          have := s1 _ _ ex
          rw [eb] at this
          exact this
        · rw [upd_ne xb]
          exact sm x o xb (ne_of_none ex nj) (s1 _ _ ex)
      refine k j _ nj sE ?_
      obtain ⟨kv2, f1, f2, f3, f4⟩ := hj'
      refine ⟨kv2, (upd_ne njb).trans f1, f2, by omega, fun q => ?_⟩
      rw [f4 q]
      show c q + sg * (if q ∈ ks.take kvs.length then e q else 0) = c q + sg * e q
      rw [List.take_of_length_le (by omega)]
      by_cases hm : q ∈ ks
      · rw [if_pos hm]
      · rw [if_neg hm, ← hc, kz q hm]
end
end My

set_option Elab.async false
set_option linter.all false
set_option maxRecDepth 100000
set_option maxHeartbeats 4000000

namespace My
open PySem PySem.Spec PyProof.Rows L2
section
variable {P : Program} {w : World} {K : PySem.W.Frag} {mg : Str → Option Value} {base : Heap} {C : Addr}
local macro_rules | `(tactic| walk_at "isi") => `(tactic| (first
  | (with_reducible refine r_is_int_int ?_)
  | (with_reducible refine r_is_int_bool ?_)
  | (with_reducible refine r_is_int_str ?_)
  | (with_reducible refine r_is_int_list ?_)
  | (with_reducible refine r_is_int_tuple ?_)
  | (with_reducible refine r_is_bool_int ?_)
  | (with_reducible refine r_is_bool_bool ?_)
  | (with_reducible refine r_is_bool_str ?_)
  | (with_reducible refine r_is_bool_list ?_)
  | (with_reducible refine r_is_bool_tuple ?_)
  | (with_reducible refine r_is_str_int ?_)
  | (with_reducible refine r_is_str_bool ?_)
  | (with_reducible refine r_is_str_str ?_)
  | (with_reducible refine r_is_str_list ?_)
  | (with_reducible refine r_is_str_tuple ?_)
  | ((with_reducible refine r_is_list_int (xs := ?xx) ?hh ?_); (case hh => walk_at "hp"))
  | ((with_reducible refine r_is_list_bool (xs := ?xx) ?hh ?_); (case hh => walk_at "hp"))
  | ((with_reducible refine r_is_list_str (xs := ?xx) ?hh ?_); (case hh => walk_at "hp"))
  | ((with_reducible refine r_is_list_list (xs := ?xx) ?hh ?_); (case hh => walk_at "hp"))
  | ((with_reducible refine r_is_list_tuple (xs := ?xx) ?hh ?_); (case hh => walk_at "hp"))
  | ((with_reducible refine r_is_tuple_int (xs := ?xx) ?hh ?_); (case hh => walk_at "hp"))
  | ((with_reducible refine r_is_tuple_bool (xs := ?xx) ?hh ?_); (case hh => walk_at "hp"))
  | ((with_reducible refine r_is_tuple_str (xs := ?xx) ?hh ?_); (case hh => walk_at "hp"))
  | ((with_reducible refine r_is_tuple_list (xs := ?xx) ?hh ?_); (case hh => walk_at "hp"))
  | ((with_reducible refine r_is_tuple_tuple (xs := ?xx) ?hh ?_); (case hh => walk_at "hp"))
  | (with_reducible refine r_is_NoneType_int ?_)
  | (with_reducible refine r_is_NoneType_bool ?_)
  | (with_reducible refine r_is_NoneType_str ?_)
  | (with_reducible refine r_is_NoneType_list ?_)
  | (with_reducible refine r_is_NoneType_tuple ?_)))
local macro_rules | `(tactic| walk_at "ne") => `(tactic| first | assumption | (refine Ne.symm ?_; assumption) | exact Bag.ne (by assumption) (by assumption) | exact ne_of_none (by assumption) (by assumption))
local macro_rules | `(tactic| walk_at "hp") => `(tactic| (first
  | assumption
  | exact upd_same
  | (refine h_keep ?_ (by assumption); walk_at "hp")
  | (refine (upd_ne (by walk_at "ne")).trans ?_; walk_at "hp")
  | (refine Same.at (by assumption) ?_; walk_at "hp")
  | (refine But.at (by assumption) (by walk_at "ne") ?_; walk_at "hp")
  | (refine But2.at (by assumption) (by walk_at "ne") (by walk_at "ne") ?_; walk_at "hp")))
local macro_rules | `(tactic| walk_at "side") => `(tactic| first | assumption | omega | (refine ⟨?_, ?_⟩ <;> first | assumption | omega | decide) | decide | (refine ⟨by decide, by decide, by decide⟩) | (left; refine ⟨?_, ?_⟩ <;> first | omega | decide) | (right; refine ⟨?_, ?_⟩ <;> first | omega | decide) | (simp; done))
local macro_rules | `(tactic| walk_at "cond") => `(tactic| first | assumption | exact rfl | omega | (simp only [List.length_cons, List.length_nil]; omega) | decide +kernel)
local macro_rules | `(tactic| walk_at "s") => `(tactic| (first
  | ((with_reducible refine r_var (v := ?vv) ?ee ?_); (case ee => exact rfl))
  | (with_reducible refine r_c ?_)
  | (with_reducible refine r_op ?_)
  | (with_reducible refine r_un ?_)
  | (with_reducible refine r_rI0 ?_)
  | ((with_reducible refine r_rI ?cc ?_); (case cc => walk_at "side"))
  | (with_reducible refine r_rU ?_)
  | (with_reducible refine r_eqI ?_)
  | (with_reducible refine r_neI ?_)
  | (with_reducible refine r_eqB ?_)
  | (with_reducible refine r_neB ?_)
  | (with_reducible refine r_eqS ?_)
  | (with_reducible refine r_neS ?_)
  | ((with_reducible refine r_eq ?ee ?_); (case ee => exact rfl))
  | ((with_reducible refine r_ne ?ee ?_); (case ee => exact rfl))
  | ((with_reducible refine r_ixL (v := ?vv) (xs := ?xx) ?hh ?ee ?_); (case hh => (refine SqL.of ?_; walk_at "hp")); (case ee => exact rfl))
  | (with_reducible refine r_cb ?_)
  | (with_reducible refine r_call ?_)
  | (with_reducible refine r_cons ?_)
  | (with_reducible refine r_nil ?_)
  | (with_reducible refine r_lst ?_)
  | (with_reducible refine r_tup ?_)
  | ((with_reducible refine r_new ?cc ?_); (case cc => walk_at "side"))
  | (with_reducible refine r_exbl ?_)
  | (with_reducible refine r_exint ?_)
  | (with_reducible refine r_exint2 ?_)
  | (with_reducible refine r_exblL ?_)
  | (with_reducible refine r_ex2 ?_)
  | (with_reducible refine r_test ?_)
  | (with_reducible refine r_tB ?_)
  | (with_reducible refine r_not ?_)
  | (with_reducible refine r_and ?_)
  | (with_reducible refine r_or ?_)
  | (with_reducible refine r_andV ?_)
  | (with_reducible refine r_orV ?_)
  | (with_reducible refine r_notV ?_)
  | (with_reducible refine r_tif ?_)
  | (with_reducible refine r_iteT ?_)
  | (with_reducible refine r_iteNT ?_)
  | (with_reducible refine r_iteNF ?_)
  | (with_reducible refine r_iteF ?_)
  | (with_reducible refine r_seq ?_)
  | (with_reducible refine r_next ?_)
  | (with_reducible refine r_brk ?_)
  | (with_reducible refine r_cont ?_)
  | (with_reducible refine r_asg ?_)
  | (with_reducible refine r_gname ?_)
  | (with_reducible refine r_ret ?_)
  | (with_reducible refine r_retN ?_)
  | (with_reducible refine r_drop ?_)
  | (with_reducible refine r_if ?_)
  | ((with_reducible refine r_aug (x := ?xx) ?ee ?_); (case ee => exact rfl))
  | (with_reducible refine r_ipI ?_)
  | (with_reducible refine r_augS ?_)
  | (with_reducible refine r_gsub ?_)
  | ((with_reducible refine r_setL (xs := ?xx) (m := ?mm) ?hh ?ee ?_); (case hh => walk_at "hp"); (case ee => exact rfl))
  | (with_reducible refine r_par ?_)
  | (with_reducible refine r_bm ?_)
  | ((with_reducible refine r_tyL (xs := ?xx) ?hh ?_); (case hh => walk_at "hp"))
  | ((with_reducible refine r_append (xs := ?xx) ?hh ?ll ?_); (case hh => walk_at "hp"); (case ll => walk_at "side"))
  | (walk_at "isi")
  | (with_reducible refine r_for ?_)
  | (with_reducible refine r_iList ?_)
  | (with_reducible refine r_iTup ?_)
  | (with_reducible refine r_iR1 ?_)
  | (with_reducible refine r_iR2 ?_)
  | (with_reducible refine r_lc ?_)
  | (with_reducible refine r_yes ?_)
  | ((with_reducible refine r_lenS ?ll ?_); (case ll => walk_at "side"))
  | (with_reducible refine r_leS ?_)
  | (with_reducible refine r_chain ?_)
  | (with_reducible refine r_tM1 ?_)
  | (with_reducible refine r_exS ?_)
  | ((with_reducible refine r_tupL (xs := ?xx) ?hh ?_); (case hh => walk_at "hp"))
  | ((with_reducible refine r_listL (xs := ?xx) ?hh ?_); (case hh => walk_at "hp"))
  | ((with_reducible refine r_listT (xs := ?xx) ?hh ?_); (case hh => walk_at "hp"))
  | ((with_reducible refine r_ixT (v := ?vv) (xs := ?xx) ?hh ?ee ?_); (case hh => (refine SqT.of ?_; walk_at "hp")); (case ee => exact rfl))
  | (with_reducible refine r_sl ?_)
  | (with_reducible refine r_nopart ?_)
  | (with_reducible refine r_part ?_)
  | (with_reducible refine r_exI ?_)
  | ((with_reducible refine r_slL (xs := ?xx) ?hh ?_); (case hh => first | assumption | (refine SqL.of ?_; walk_at "hp") | (refine Same.seq (by assumption) (by assumption))))
  | ((with_reducible refine r_cat (xs := ?xx) (zs := ?zz) ?hh ?ii ?ll ?_); (case hh => walk_at "hp"); (case ii => walk_at "hp"); (case ll => walk_at "side"))
  | ((with_reducible refine r_lenL (xs := ?xx) ?hh ?_); (case hh => walk_at "hp"))
  | ((with_reducible refine r_lenT (xs := ?xx) ?hh ?_); (case hh => walk_at "hp"))
  | ((with_reducible refine r_gTup (xs := ?xx) ?hh ?ll ?_); (case hh => walk_at "hp"); (case ll => exact rfl))
  | (with_reducible refine r_gCons ?_)
  | (with_reducible refine r_gNil ?_)
  | ((with_reducible refine r_iteDT ?cc ?_); (case cc => walk_at "cond"))
  | ((with_reducible refine r_iteDF ?cc ?_); (case cc => walk_at "cond"))
  | ((with_reducible refine r_iteNDT ?cc ?_); (case cc => walk_at "cond"))
  | ((with_reducible refine r_iteNDF ?cc ?_); (case cc => walk_at "cond"))
  ))
local macro_rules | `(tactic| walk_at "go") => `(tactic| repeat (walk_at "s"))

local macro_rules | `(tactic| walk_at "s") => `(tactic| (first
  | (with_reducible refine r_dnew ?_)
  | (with_reducible refine r_dget2 ?_)
  | (with_reducible refine r_dget ?_)
  | (with_reducible refine r_dput ?_)
  | (with_reducible refine r_dsetd ?_)
  | ((with_reducible refine JarAt.isD (n := ?nn) (c := ?cc) ?hh ?_); (case hh => assumption))
  ))

local macro_rules | `(tactic| walk_at "s") => `(tactic| (first
  | (with_reducible refine r_prop ?_)
  | (with_reducible refine r_meth ?_)
  | (with_reducible refine r_make ?_)
  | (with_reducible refine r_fld ?_)
  | (with_reducible refine r_sfld ?_)
  | (with_reducible refine r_iOwn ?_)
  | ((with_reducible refine u_rowsAt (mg := ?mm) (C := ?CC) (dx := ?dd) (fv := ?vv) ?tt ?hh ?_); (case tt => assumption); (case hh => walk_at "hp"))
  | ((with_reducible refine r_isPoly (mg := ?mm) (dx := ?dd) (fs := ?ff) ?tt ?hh ?_); (case tt => assumption); (case hh => walk_at "hp"))
  | ((with_reducible refine r_isPolyI (mg := ?mm) ?tt ?_); (case tt => assumption))
  | ((with_reducible refine r_polyInt (mg := ?mm) (C := ?CC) (dx := ?dd) (fs := ?ff) ?tt ?hh ?_); (case tt => assumption); (case hh => walk_at "hp"))
  ))

local macro_rules | `(tactic| walk_at "s") => `(tactic| (first
  | (with_reducible refine r_iKeys ?_)
  | (with_reducible refine rl_disp ?_)
  | (with_reducible refine rl_pc ?_)
  | (with_reducible refine rl_pn ?_)
  ))
theorem ok_l_moved {f : Addr} {fd : FuncData} (F : Fun K "_law_moved" "_law_moved" s_l_moved f fd) (h_l_jar_of : Has P w K mg base "_law_jar_of" 1 ["_law_rows"] spJarOf) : FnOk P w K mg base CX0 2 f fd ["_law_jar", "_law_shift"] spMoved := by
  refine F.ok sc_l_moved (fun vs H Q E h => ?_) (fun cdv A outer s H vs Q E hr h => ?_)
  · obtain ⟨a, n, c, sh, rfl, _⟩ := h
    rfl
  · obtain ⟨j, n, c1, sh, rfl, hj, hn, k⟩ := h
    refine ⟨_, (pss_one (ps_ret (pe_callH h_l_jar_of (hr.mono (by first | decide | omega)) (pa_cons (pe_lock (pe_lc (own := [("_law_deg", 2)]) rfl sc_l_moved.nd (pi_keys (pv 0)) (blkOk_by (N := ["_law_jar", "_law_shift", "_law_deg"]) (sc := defScope s_l_moved) (by decide +kernel)) (fun _ _ _ _ _ => (pg_name (i := 2) sc_l_moved.nd rfl (.inl rfl))) (fun _ _ _ _ _ => pts_nil) (fun _ _ _ _ _ => (pe_tup (pa_cons (pe_op op_add (pv 2) (pv 1)) (pa_cons (pe_dget (hu_of hr) (pv 0) (pv 2) (fun _ _ => rfl)) pa_nil)))))) pa_nil)))), ?_⟩
    walk_at "go"
    obtain ⟨kvs, ks, ej, hk, ek, kl, kc, kf⟩ := hj.list
    refine ⟨j, .dK kvs, ej, trivial, fun od => ?_⟩
    walk_at "go"
    refine u_lcK upd_same ek (fun D i acc H2 => (TermsL H2 acc (shiftT sh ((ks.take i).map fun q => (q, c1 q))) ∧ i ≤ ks.length) ∧ Same (upd H j (.frz od (.dK kvs))) H2) ?_ ?_ ?_ ?_
    · exact fun D hD => ⟨⟨rfl, Nat.zero_le _⟩, Same.new0 hD⟩
    · exact fun D i acc H2 _ _ ⟨_, s1⟩ => s1 _ _ upd_same
    · rintro D i q acc H2 hD hx hacc ⟨⟨ht2, hi0⟩, s1⟩
      have hi2 := (List.getElem?_eq_some_iff.mp hx).1
      have et : (ks.take (i + 1)).map (fun q => (q, c1 q)) = (ks.take i).map (fun q => (q, c1 q)) ++ [(q, c1 q)] := by rw [List.take_succ, hx, List.map_append]; rfl
      have hd : DGet H2 j (.int q) (some (.int (cfK kvs q))) := JarFz.dget (s1 _ _ upd_same) hk (by rw [ek]; exact List.mem_map.mpr ⟨q, List.mem_of_getElem? hx, rfl⟩)
      have al : acc.length ≤ i := by
        rw [ht2.length, shiftT, List.length_map, List.length_map, List.length_take]; omega
      walk_at "go"
      refine ⟨rfl, ?_⟩
      walk_at "go"
      refine ⟨j, _, rfl, hd, ?_⟩
      walk_at "go"
      intro t nt
      refine u_push (h_keep hacc nt) (by omega) ⟨⟨?_, hi2⟩, Same.put (Same.new s1 nt) hD⟩
      have t1 : Tk H2 (upd (upd H2 t (.tup [.int (q + sh), .int (cfK kvs q)])) D (.lst (acc ++ [.ref t]))) := ((Tk.refl _).new nt).lst (h_keep hacc nt)
      rw [et, shiftT, List.map_append]
      exact (ht2.tk t1).app (.one (((upd_ne (ne_of_none hacc nt).symm).trans upd_same).trans (by rw [kc])))
    · rintro D acc H2 hD hacc ⟨⟨ht2, hi0⟩, s2⟩
      rw [List.take_of_length_le (Nat.le_refl _)] at ht2
      have efz := s2 _ _ (upd_same (H := H) (a := j) (o := .frz od (.dK kvs)))
      refine ⟨efz, ?_⟩
      have s3 := unlock_same ej s2
      have hD3 : upd H2 j (.dK kvs) D = some (.lst acc) := (upd_ne (fun z => by subst z; rw [efz] at hacc; cases hacc)).trans hacc
      have ht3 := ht2.tk (unlock_tk (u := .dK kvs) efz)
      generalize upd H2 j (.dK kvs) = H3 at *
      walk_at "go"
      refine ⟨D, _, rfl, ⟨acc, hD3, ht3⟩, by rw [shiftT, List.length_map, List.length_map]; omega, fun fl H12 nfl s12 hf => ?_⟩
      walk_at "go"
      refine k fl H12 (free_same s3 nfl) (s3.trans s12) ((hf.mono (by rw [shiftT, List.length_map, List.length_map]; exact kl)).ext fun q => by rw [cof_shift, kf])
/-- the key at a turn -/
theorem key_at {kvs : List (Key × V)} {ks : List Int} {i : Nat} {kk : Key} {v : V} (ek : kvs.map (·.1) = ks.map Sum.inl) (h : kvs[i]? = some (kk, v)) : ∃ q, ks[i]? = some q ∧ kk = .inl q := by
  have h1 : (kvs.map (·.1))[i]? = some kk := by rw [List.getElem?_map, h]; rfl
  rw [ek, List.getElem?_map] at h1
  cases e : ks[i]? with
  | none => rw [e] at h1; cases h1
  | some q => rw [e] at h1; exact ⟨q, rfl, (Option.some.inj h1).symm⟩
theorem ok_l_times {f : Addr} {fd : FuncData} (F : Fun K "_law_times" "_law_times" s_l_times f fd) : FnOk P w K mg base CX0 1 f fd ["_law_one", "_law_two"] spTimes := by
  refine F.ok sc_l_times (fun vs H Q E h => ?_) (fun cdv A outer s H vs Q E hr h => ?_)
  · obtain ⟨a, b, n, m, c, d, rfl, _⟩ := h
    rfl
  · obtain ⟨a, b, n, m, c, d, rfl, ha, hb, hn, smc, smd, k⟩ := h
    obtain ⟨kvs1, ks1, e1, hk1, ek1, kl1, kc1, kf1⟩ := ha.list
    obtain ⟨kvs2, ks2, e2, hk2, ek2, kl2, kc2, kf2⟩ := hb.list
    have len1 : kvs1.length = ks1.length := by have := congrArg List.length ek1; simpa using this
    have len2 : kvs2.length = ks2.length := by have := congrArg List.length ek2; simpa using this
    by_cases hab : a = b
    · subst hab
      obtain rfl : kvs1 = kvs2 := by rw [e1] at e2; cases e2; rfl
      refine ⟨_, (pss_cons (ps_set (i := 2) sc_l_times.nd rfl (.inl rfl) pe_dnewK)
    (pss_cons (ps_lock (ps_for PassesOwn.never rfl (pi_keys (pv 0)) (pg_name (i := 3) sc_l_times.nd rfl (.inl rfl))
    (pss_one (ps_for PassesOwn.never rfl (pi_keys (pv 1)) (pg_name (i := 4) sc_l_times.nd rfl (.inl rfl))
    (pss_one (ps_if (PW.pt (pw_and (pt_cmpR op_ne (pe_dget (hu_of hr) (pv 0) (pv 3) (fun _ _ => rfl)) pe_int (nomark _)) (pw_and1 (pt_cmpR op_ne (pe_dget (hu_of hr) (pv 1) (pv 4) (fun _ _ => rfl)) pe_int (nomark _)))))
    (pss_one (ps_dput (hu_of hr) (pv 2) (pe_op op_add (pv 3) (pv 4)) (pe_op op_add (pe_dget2 (hu_of hr) (pv 2) (pe_op op_add (pv 3) (pv 4)) pe_int ⟨rfl, rfl, rfl, rfl⟩) (pe_op op_mulW (pe_dget (hu_of hr) (pv 0) (pv 3) (fun _ _ => rfl)) (pe_dget (hu_of hr) (pv 1) (pv 4) (fun _ _ => rfl)))) rfl))
    pss_nil))))))
    (pss_one (ps_ret (pv 2))))), ?_⟩
      walk_at "go"
      intro p np
      walk_at "go"
      have pa : p ≠ a := (ne_of_none e1 np).symm
      refine ⟨a, .dK kvs1, h_keep e1 np, trivial, fun od1 => ?_⟩
      walk_at "go"
      refine ⟨a, od1, rfl, .inl ⟨kvs1, upd_same, ?_⟩⟩
      refine u_keys (fun i σ H' => ∃ y3 y4 : Option V, σ = [some (.ref a), some (.ref a), some (.ref p), y3, y4] ∧ H' a = some (.frz od1 (.dK kvs1)) ∧ (∀ x o, x ≠ a → x ≠ p → H x = some o → H' x = some o) ∧ JarAt H' p (i * m) (fun z => cmul ((ks1.take i).map fun q => (q, c q)) d z) ∧ i ≤ kvs1.length) ?_ ?_ ?_ ?_
      · refine ⟨_, _, rfl, upd_same, fun x o xa xp h => (upd_ne xa).trans ((upd_ne xp).trans h), ?_, Nat.zero_le _⟩
        exact (JarAt.new.upd pa).mono (Nat.zero_le _)
      · rintro i σ H' ⟨y3, y4, rfl, ha', _⟩
        exact ha'
      · rintro i kk v σ H' hkv ⟨y3, y4, rfl, ha', sm, hj', hi⟩
        have hi2 := (List.getElem?_eq_some_iff.mp hkv).1
        obtain ⟨q, hq, rfl⟩ := key_at ek1 hkv
        show gName 3 (.int q) _ _ _
        walk_at "go"
        refine ⟨a, od1, rfl, .inl ⟨kvs1, ha', ?_⟩⟩
        refine u_keys (fun j σ H2 => ∃ y4 : Option V, σ = [some (.ref a), some (.ref a), some (.ref p), some (.int q), y4] ∧ H2 a = some (.frz od1 (.dK kvs1)) ∧ (∀ x o, x ≠ a → x ≠ p → H x = some o → H2 x = some o) ∧ JarAt H2 p (i * m + j) (fun z => cmul ((ks1.take i).map fun q => (q, c q)) d z + c q * cof ((ks2.take j).map fun r => (r, d r)) (z - q)) ∧ j ≤ kvs1.length) ?_ ?_ ?_ ?_
        · refine ⟨_, rfl, ha', sm, ?_, Nat.zero_le _⟩
          exact hj'.ext fun z => by rw [List.take_zero, List.map_nil, cof]; simp
        · rintro j σ H2 ⟨y4, rfl, ha2, _⟩
          exact ha2
        · rintro j kk v2 σ H2 hkv2 ⟨y4, rfl, ha2, sm2, hj2, hjl⟩
          have hj3 := (List.getElem?_eq_some_iff.mp hkv2).1
          have jmn : i * m + j ≤ 1000000 := by have := Nat.mul_le_mul_right m (by omega : i + 1 ≤ n); have : (i + 1) * m = i * m + m := Nat.succ_mul i m; omega
          obtain ⟨r, hr2, rfl⟩ := key_at ek2 hkv2
          have d1 : DGet H2 a (.int q) (some (.int (cfK kvs1 q))) := JarFz.dget ha2 hk1 (by rw [ek1]; exact List.mem_map.mpr ⟨q, List.mem_of_getElem? hq, rfl⟩)
          have d2 : DGet H2 a (.int r) (some (.int (cfK kvs1 r))) := JarFz.dget ha2 hk2 (by rw [ek2]; exact List.mem_map.mpr ⟨r, List.mem_of_getElem? hr2, rfl⟩)
          rw [kc1] at d1
          rw [kc2] at d2
          show gName 4 (.int r) _ _ _
          walk_at "go"
          refine ⟨a, _, rfl, d1, ?_⟩
          walk_at "go"
          have et2 : (ks2.take (j + 1)).map (fun r => (r, d r)) = (ks2.take j).map (fun r => (r, d r)) ++ [(r, d r)] := by rw [List.take_succ, hr2, List.map_append]; rfl
          have stp : ∀ z, cmul ((ks1.take i).map fun q => (q, c q)) d z + c q * cof ((ks2.take (j + 1)).map fun r => (r, d r)) (z - q) = (cmul ((ks1.take i).map fun q => (q, c q)) d z + c q * cof ((ks2.take j).map fun r => (r, d r)) (z - q)) + (if q + r = z then c q * d r else 0) := fun z => by
            rw [et2, cof_app, cof, cof, Int.mul_add]
            show _ + (_ + c q * ((if r = z - q then d r else 0) + 0)) = _
            by_cases hz : q + r = z
            · rw [if_pos hz, if_pos (by omega), Int.add_zero, Int.add_assoc]
            · rw [if_neg hz, if_neg (by omega)]; simp
          have idle : c q * d r = 0 → JarAt H2 p (i * m + (j + 1)) (fun z => cmul ((ks1.take i).map fun q => (q, c q)) d z + c q * cof ((ks2.take (j + 1)).map fun r => (r, d r)) (z - q)) := fun h0 => (hj2.mono (by omega)).ext fun z => by
            rw [stp z, h0]; simp
          refine r_iteN (fun q0 => ?_) (fun q0 => ?_)
          · walk_at "go"
            refine ⟨a, _, rfl, d2, ?_⟩
            walk_at "go"
            refine r_iteN (fun q1 => ?_) (fun q1 => ?_)
            · walk_at "go"
              obtain ⟨o, g1, g2⟩ := hj2.dget0 (q + r)
              refine ⟨o, g1, ?_⟩
              rw [g2]
              have msg : CMulW (c q) (d r) := mulW_of (smc q) (smd r)
              walk_at "go"
              refine ⟨a, _, rfl, d1, ?_⟩
              walk_at "go"
              refine ⟨a, _, rfl, d2, ?_⟩
              walk_at "go"
              obtain ⟨H4, p1, b1, f1, j1⟩ := hj2.dput (k := q + r) (v := (cmul ((ks1.take i).map fun q => (q, c q)) d (q + r) + c q * cof ((ks2.take j).map fun r => (r, d r)) (q + r - q)) + c q * d r) jmn
              refine ⟨p, H4, rfl, p1, _, rfl, b1 _ _ pa.symm ha2, fun x o xa xj ex => b1 _ _ xj (sm2 x o xa xj ex), (j1.mono (by omega)).ext fun z => ?_, hj3⟩
              rw [stp z]
              unfold addAt
              by_cases hz : q + r = z
              · subst hz; simp
              · simp [hz, Ne.symm hz]
            · walk_at "go"
              exact ⟨_, rfl, ha2, sm2, idle (by rw [q1, Int.mul_zero]), hj3⟩
          · walk_at "go"
            exact ⟨_, rfl, ha2, sm2, idle (by rw [q0, Int.zero_mul]), hj3⟩
        · rintro σ H2 ⟨y4, rfl, ha2, sm2, hj2, hjl⟩
          refine ⟨_, _, rfl, ha2, sm2, ?_, hi2⟩
          · refine (hj2.mono ?_).ext fun z => ?_
            · have := Nat.le_trans (Nat.add_le_add_left (by omega : kvs1.length ≤ m) (i * m)) (Nat.le_of_eq (Nat.succ_mul i m).symm); omega
            · rw [List.take_of_length_le (by omega : ks2.length ≤ kvs1.length), kf2, List.take_succ, hq, List.map_append, cmul_app]
              show _ = _ + cmul [(q, c q)] d z
              rw [cmul, cmul]; simp
      · rintro σ H' ⟨y3, y4, rfl, ha', sm, hj', hi⟩
        refine ⟨ha', ?_⟩
        rw [List.take_of_length_le (by omega)] at hj'
        walk_at "go"
        refine k p _ np (fun x o h => ?_) (((hj'.upd pa).mono (Nat.mul_le_mul_right _ (by omega))).ext fun z => ?_)
        · by_cases xa : x = a
          · subst xa; rw [upd_same, ← e1, h]
          · exact (upd_ne xa).trans (sm x o xa (ne_of_none h np) h)
        · rw [mulF_of kf1 kf2]
          exact (cmul_extr _ z kf2).symm
    · refine ⟨_, (pss_cons (ps_set (i := 2) sc_l_times.nd rfl (.inl rfl) pe_dnewK)
    (pss_cons (ps_lock (ps_for PassesOwn.never rfl (pi_keys (pv 0)) (pg_name (i := 3) sc_l_times.nd rfl (.inl rfl))
    (pss_one (ps_lock (ps_for PassesOwn.never rfl (pi_keys (pv 1)) (pg_name (i := 4) sc_l_times.nd rfl (.inl rfl))
    (pss_one (ps_if (PW.pt (pw_and (pt_cmpR op_ne (pe_dget (hu_of hr) (pv 0) (pv 3) (fun _ _ => rfl)) pe_int (nomark _)) (pw_and1 (pt_cmpR op_ne (pe_dget (hu_of hr) (pv 1) (pv 4) (fun _ _ => rfl)) pe_int (nomark _)))))
    (pss_one (ps_dput (hu_of hr) (pv 2) (pe_op op_add (pv 3) (pv 4)) (pe_op op_add (pe_dget2 (hu_of hr) (pv 2) (pe_op op_add (pv 3) (pv 4)) pe_int ⟨rfl, rfl, rfl, rfl⟩) (pe_op op_mulW (pe_dget (hu_of hr) (pv 0) (pv 3) (fun _ _ => rfl)) (pe_dget (hu_of hr) (pv 1) (pv 4) (fun _ _ => rfl)))) rfl))
    pss_nil)))))))
    (pss_one (ps_ret (pv 2))))), ?_⟩
      walk_at "go"
      intro p np
      walk_at "go"
      have pa : p ≠ a := (ne_of_none e1 np).symm
      have pb : p ≠ b := (ne_of_none e2 np).symm
      refine ⟨a, .dK kvs1, h_keep e1 np, trivial, fun od1 => ?_⟩
      walk_at "go"
      refine ⟨a, od1, rfl, .inl ⟨kvs1, upd_same, ?_⟩⟩
      refine u_keys (fun i σ H' => ∃ y3 y4 : Option V, σ = [some (.ref a), some (.ref b), some (.ref p), y3, y4] ∧ H' a = some (.frz od1 (.dK kvs1)) ∧ (∀ x o, x ≠ a → x ≠ p → H x = some o → H' x = some o) ∧ JarAt H' p (i * m) (fun z => cmul ((ks1.take i).map fun q => (q, c q)) d z) ∧ i ≤ kvs1.length) ?_ ?_ ?_ ?_
      · refine ⟨_, _, rfl, upd_same, fun x o xa xp h => (upd_ne xa).trans ((upd_ne xp).trans h), ?_, Nat.zero_le _⟩
        exact (JarAt.new.upd pa).mono (Nat.zero_le _)
      · rintro i σ H' ⟨y3, y4, rfl, ha', _⟩
        exact ha'
      · rintro i kk v σ H' hkv ⟨y3, y4, rfl, ha', sm, hj', hi⟩
        have hi2 := (List.getElem?_eq_some_iff.mp hkv).1
        obtain ⟨q, hq, rfl⟩ := key_at ek1 hkv
        show gName 3 (.int q) _ _ _
        walk_at "go"
        have eb : H' b = some (.dK kvs2) := sm b _ (fun z => hab z.symm) pb.symm e2
        refine ⟨b, .dK kvs2, eb, trivial, fun od2 => ?_⟩
        walk_at "go"
        refine ⟨b, od2, rfl, .inl ⟨kvs2, upd_same, ?_⟩⟩
        refine u_keys (fun j σ H2 => ∃ y4 : Option V, σ = [some (.ref a), some (.ref b), some (.ref p), some (.int q), y4] ∧ H2 b = some (.frz od2 (.dK kvs2)) ∧ H2 a = some (.frz od1 (.dK kvs1)) ∧ (∀ x o, x ≠ a → x ≠ b → x ≠ p → H x = some o → H2 x = some o) ∧ JarAt H2 p (i * m + j) (fun z => cmul ((ks1.take i).map fun q => (q, c q)) d z + c q * cof ((ks2.take j).map fun r => (r, d r)) (z - q)) ∧ j ≤ kvs2.length) ?_ ?_ ?_ ?_
        · refine ⟨_, rfl, upd_same, (upd_ne hab).trans ha', fun x o xa xb xp h => (upd_ne xb).trans (sm x o xa xp h), ?_, Nat.zero_le _⟩
          exact (hj'.upd pb).ext fun z => by rw [List.take_zero, List.map_nil, cof]; simp
        · rintro j σ H2 ⟨y4, rfl, hb2, _⟩
          exact hb2
        · rintro j kk v2 σ H2 hkv2 ⟨y4, rfl, hb2, ha2, sm2, hj2, hjl⟩
          have hj3 := (List.getElem?_eq_some_iff.mp hkv2).1
          have jmn : i * m + j ≤ 1000000 := by have := Nat.mul_le_mul_right m (by omega : i + 1 ≤ n); have : (i + 1) * m = i * m + m := Nat.succ_mul i m; omega
          obtain ⟨r, hr2, rfl⟩ := key_at ek2 hkv2
          have d1 : DGet H2 a (.int q) (some (.int (cfK kvs1 q))) := JarFz.dget ha2 hk1 (by rw [ek1]; exact List.mem_map.mpr ⟨q, List.mem_of_getElem? hq, rfl⟩)
          have d2 : DGet H2 b (.int r) (some (.int (cfK kvs2 r))) := JarFz.dget hb2 hk2 (by rw [ek2]; exact List.mem_map.mpr ⟨r, List.mem_of_getElem? hr2, rfl⟩)
          rw [kc1] at d1
          rw [kc2] at d2
          show gName 4 (.int r) _ _ _
          walk_at "go"
          refine ⟨a, _, rfl, d1, ?_⟩
          walk_at "go"
          have et2 : (ks2.take (j + 1)).map (fun r => (r, d r)) = (ks2.take j).map (fun r => (r, d r)) ++ [(r, d r)] := by rw [List.take_succ, hr2, List.map_append]; rfl
          have stp : ∀ z, cmul ((ks1.take i).map fun q => (q, c q)) d z + c q * cof ((ks2.take (j + 1)).map fun r => (r, d r)) (z - q) = (cmul ((ks1.take i).map fun q => (q, c q)) d z + c q * cof ((ks2.take j).map fun r => (r, d r)) (z - q)) + (if q + r = z then c q * d r else 0) := fun z => by
            rw [et2, cof_app, cof, cof, Int.mul_add]
            show _ + (_ + c q * ((if r = z - q then d r else 0) + 0)) = _
            by_cases hz : q + r = z
            · rw [if_pos hz, if_pos (by omega), Int.add_zero, Int.add_assoc]
            · rw [if_neg hz, if_neg (by omega)]; simp
          have idle : c q * d r = 0 → JarAt H2 p (i * m + (j + 1)) (fun z => cmul ((ks1.take i).map fun q => (q, c q)) d z + c q * cof ((ks2.take (j + 1)).map fun r => (r, d r)) (z - q)) := fun h0 => (hj2.mono (by omega)).ext fun z => by
            rw [stp z, h0]; simp
          refine r_iteN (fun q0 => ?_) (fun q0 => ?_)
          · walk_at "go"
            refine ⟨b, _, rfl, d2, ?_⟩
            walk_at "go"
            refine r_iteN (fun q1 => ?_) (fun q1 => ?_)
            · walk_at "go"
              obtain ⟨o, g1, g2⟩ := hj2.dget0 (q + r)
              refine ⟨o, g1, ?_⟩
              rw [g2]
              have msg : CMulW (c q) (d r) := mulW_of (smc q) (smd r)
              walk_at "go"
              refine ⟨a, _, rfl, d1, ?_⟩
              walk_at "go"
              refine ⟨b, _, rfl, d2, ?_⟩
              walk_at "go"
              obtain ⟨H4, p1, b1, f1, j1⟩ := hj2.dput (k := q + r) (v := (cmul ((ks1.take i).map fun q => (q, c q)) d (q + r) + c q * cof ((ks2.take j).map fun r => (r, d r)) (q + r - q)) + c q * d r) jmn
              refine ⟨p, H4, rfl, p1, _, rfl, b1 _ _ pb.symm hb2, b1 _ _ pa.symm ha2, fun x o xa xb xj ex => b1 _ _ xj (sm2 x o xa xb xj ex), (j1.mono (by omega)).ext fun z => ?_, hj3⟩
              rw [stp z]
              unfold addAt
              by_cases hz : q + r = z
              · subst hz; simp
              · simp [hz, Ne.symm hz]
            · walk_at "go"
              exact ⟨_, rfl, hb2, ha2, sm2, idle (by rw [q1, Int.mul_zero]), hj3⟩
          · walk_at "go"
            exact ⟨_, rfl, hb2, ha2, sm2, idle (by rw [q0, Int.zero_mul]), hj3⟩
        · rintro σ H2 ⟨y4, rfl, hb2, ha2, sm2, hj2, hjl⟩
          refine ⟨hb2, _, _, rfl, (upd_ne hab).trans ha2, fun x o xa xp h => ?_, ?_, hi2⟩
          · by_cases xb : x = b
            · subst xb; rw [upd_same, ← e2, h]
            · exact (upd_ne xb).trans (sm2 x o xa xb xp h)
          · refine ((hj2.upd pb).mono ?_).ext fun z => ?_
            · have := Nat.le_trans (Nat.add_le_add_left (by omega : kvs2.length ≤ m) (i * m)) (Nat.le_of_eq (Nat.succ_mul i m).symm); omega
            · rw [List.take_of_length_le (by omega : ks2.length ≤ kvs2.length), kf2, List.take_succ, hq, List.map_append, cmul_app]
              show _ = _ + cmul [(q, c q)] d z
              rw [cmul, cmul]; simp
      · rintro σ H' ⟨y3, y4, rfl, ha', sm, hj', hi⟩
        refine ⟨ha', ?_⟩
        rw [List.take_of_length_le (by omega)] at hj'
        walk_at "go"
        refine k p _ np (fun x o h => ?_) (((hj'.upd pa).mono (Nat.mul_le_mul_right _ (by omega))).ext fun z => ?_)
        · by_cases xa : x = a
          · subst xa; rw [upd_same, ← e1, h]
          · exact (upd_ne xa).trans (sm x o xa (ne_of_none h np) h)
        · rw [mulF_of kf1 kf2]
          exact (cmul_extr _ z kf2).symm
end
end My

set_option Elab.async false
set_option linter.all false
set_option maxRecDepth 100000
namespace My
open PySem PySem.Spec PyProof.Rows L2
/-! ### jars whose powers lie within bounds -/
def JarIn (H : Hp) (a : Addr) (lo hi : Int) (c : Int → Int) : Prop := ∃ kvs, H a = some (.dK kvs) ∧ JarK kvs ∧ (∀ p ∈ kvs, ∃ k : Int, p.1 = Sum.inl k ∧ lo ≤ k ∧ k ≤ hi) ∧ ∀ k, cfK kvs k = c k
theorem nodup_le : ∀ {us bs : List Int}, us.Nodup → (∀ k ∈ us, k ∈ bs) → us.length ≤ bs.length
  | [], _, _, _ => Nat.zero_le _
  | u :: us, bs, h, hs => by
    obtain ⟨h1, h2⟩ := List.nodup_cons.mp h
    have hu := hs u (.head _)
    have : us.length ≤ (bs.erase u).length := nodup_le h2 fun k hk => by
      have hne : k ≠ u := by rintro rfl; exact h1 hk
      exact (List.mem_erase_of_ne hne).mpr (hs k (.tail _ hk))
    rw [List.length_erase_of_mem hu] at this
    have : 0 < bs.length := List.length_pos_of_mem hu
    rw [List.length_cons]
    omega
section
variable {H H' : Hp} {a p b : Addr} {lo hi : Int} {c d : Int → Int} {o : HO}
theorem JarIn.new {H : Hp} : JarIn (upd H p (.dK [])) p lo hi fun _ => 0 := ⟨[], upd_same, .nil, fun _ h => absurd h (by simp), fun _ => rfl⟩
theorem JarIn.same (h : JarIn H a lo hi c) (s : Same H H') : JarIn H' a lo hi c := let ⟨kvs, e, r⟩ := h; ⟨kvs, s _ _ e, r⟩
theorem JarIn.upd (h : JarIn H a lo hi c) (ne : a ≠ b) : JarIn (upd H b o) a lo hi c := let ⟨kvs, e, r⟩ := h; ⟨kvs, (upd_ne ne).trans e, r⟩
theorem JarIn.ext (h : JarIn H a lo hi c) (e : ∀ k, c k = d k) : JarIn H a lo hi d := let ⟨kvs, e1, r1, r2, r3⟩ := h; ⟨kvs, e1, r1, r2, fun k => (r3 k).trans (e k)⟩
theorem JarIn.wide {lo' hi' : Int} (h : JarIn H a lo hi c) (l : lo' ≤ lo) (u : hi ≤ hi') : JarIn H a lo' hi' c := let ⟨kvs, e1, r1, r2, r3⟩ := h; ⟨kvs, e1, r1, fun p hp => let ⟨k, a, b, d⟩ := r2 p hp; ⟨k, a, by omega, by omega⟩, r3⟩
theorem JarIn.at (h : JarIn H a lo hi c) : JarAt H a (hi - lo + 1).toNat c := by
  obtain ⟨kvs, e, hk, hb, hc⟩ := h
  refine ⟨kvs, e, hk, ?_, hc⟩
  obtain ⟨ks, e1, e2, e3, e4⟩ := hk.keys
  rw [← e4]
  refine Nat.le_trans (nodup_le (bs := (List.range (hi - lo + 1).toNat).map fun i => lo + (i : Nat)) e2 fun k hk' => ?_) (by rw [List.length_map, List.length_range]; exact Nat.le_refl _)
  have : Sum.inl k ∈ kvs.map (·.1) := by rw [e1]; exact List.mem_map.mpr ⟨k, hk', rfl⟩
  obtain ⟨q, hq, eq⟩ := List.mem_map.mp this
  obtain ⟨k', e5, l, u⟩ := hb q hq
  rw [eq] at e5
  cases e5
  exact List.mem_map.mpr ⟨(k - lo).toNat, List.mem_range.mpr (by omega), by omega⟩
theorem JarIn.isD {R : Addr → Prop} (h : JarIn H a lo hi c) (q : R a) : ∃ b, V.ref a = .ref b ∧ IsD H b ∧ R b := h.at.isD q
theorem JarIn.dget0 (h : JarIn H a lo hi c) (k : Int) : ∃ o, DGet H a (.int k) o ∧ o.getD (.int 0) = .int (c k) := h.at.dget0 k
theorem JarIn.dput {k v : Int} (h : JarIn H a lo hi c) (l : lo ≤ k) (u : k ≤ hi) (w : hi - lo ≤ 90000) : ∃ H', DPut H a (.int k) (.int v) H' ∧ But a H H' ∧ (∀ p, H p = none → p ≠ a → H' p = none) ∧ JarIn H' a lo hi (addAt c k v) := by
  have hn : (hi - lo + 1).toNat ≤ 1000000 := by omega
  obtain ⟨kvs0, e0, _, hl, _⟩ := h.at
  obtain ⟨kvs, e, hk, hb, hc⟩ := h
  cases e0.symm.trans e
  refine ⟨_, DPut.k (k := .inl k) e (Nat.lt_of_le_of_lt (Nat.le_trans hl hn) (by decide)), But.self (But.refl a H), fun p hp np => (upd_ne np).trans hp, _, upd_same, hk.put k v, fun q hq => ?_, fun j => ?_⟩
  · rcases mem_put hq with hq | rfl
    · exact hb q hq
    · exact ⟨k, rfl, l, u⟩
  · rw [cfK_put, hc]; rfl
end
/-- a product of two jars -/
def spTimesIn : Sp := fun vs H Q _ => ∃ (a b : Addr) (n m : Nat) (c d : Int → Int) (l1 h1 l2 h2 : Int), vs = [.ref a, .ref b] ∧ a ≠ b ∧ JarAt H a n c ∧ JarAt H b m d ∧ Sm c ∧ Sm d ∧ (∀ k, c k ≠ 0 → l1 ≤ k ∧ k ≤ h1) ∧ (∀ k, d k ≠ 0 → l2 ≤ k ∧ k ≤ h2) ∧ h1 + h2 - (l1 + l2) ≤ 90000 ∧
  ∀ p H', H p = none → Same H H' → JarIn H' p (l1 + l2) (h1 + h2) (mulF c d) → Q (.ref p) H'
end My

set_option Elab.async false
set_option linter.all false
set_option maxRecDepth 100000
set_option maxHeartbeats 2000000
namespace My
open PySem PySem.Spec PyProof.Rows L2
/-! ### max(d), d a dict of int keys -/
def rMaxDI : List V → Hp → VK → Prop := fun xs H Q => ∃ (a : Addr) (kvs : List (Key × V)) (ks : List Int), xs = [.ref a] ∧ Rd H a (.dK kvs) ∧ kvs.map (·.1) = ks.map Sum.inl ∧ 0 < ks.length ∧ ∀ m, m ∈ ks → (∀ y, y ∈ ks → y ≤ m) → Q (.int m) H
theorem call_maxDI {X : Cx} (hcalm : X.calm = true := by rfl) : CallR X (.builtin "max") rMaxDI := by
  intro pins s σ H xs us Q I r q
  obtain ⟨a, kvs, ks, ex, hd, hks, hne, q⟩ := q
  subst ex
  obtain ⟨u, eu, rx⟩ := vals1 r
  subst eu
  cases rx
  obtain ⟨z, lo, vs, rel, dd⟩ := dk_rd I.hok hd
  obtain ⟨ep, hat⟩ := dd.dictAt
  have hkeys : vs.map (·.1) = ks.map Sum.inl := rel.keys.symm.trans hks
  have hl : vs.length = ks.length := by
    have e := congrArg List.length hkeys
    rw [List.length_map, List.length_map] at e
    exact e
  have ha : a < s.heap.objs.size := by
    obtain ⟨o, es, ho, _⟩ := id hat
    exact Heap.lt_size ho
  have hv : ∀ i v, (∃ k x, vs[i]? = some (k, x) ∧ (mixKind X.prog X.w).is k v = true) → ∃ t, v = .int (ks.getD i 0) t := fun i v h => by
    obtain ⟨k, x, e1, e2⟩ := h
    have e3 : (vs.map (·.1))[i]? = some k := by rw [List.getElem?_map, e1]; rfl
    rw [hkeys, List.getElem?_map] at e3
    cases e4 : ks[i]? with
    | none => rw [e4] at e3; cases e3
    | some y =>
      rw [e4] at e3
      have e5 : Sum.inl y = k := Option.some.inj e3
      subst e5
      rw [List.getD_eq_getElem?_getD, e4]
      rcases keyIs_shape (show keyIs (Sum.inl y) v = true from e2) with ⟨i, t, ek, ev⟩ | ⟨z, t, ek, ev⟩
      · cases ek
        exact ⟨t, ev⟩
      · cases ek
  refine call_max_walk ?_
  refine wpAny_pyIter_dict lo hat ?_
  refine ⟨s.heap.objs.size, [s.heap.objs.size, a], [s.heap.objs.size], vs.length, _, _, fun i j => decide (ks.getD i 0 > ks.getD j 0), rfl, Walks.dictKeys (knd := mixKind X.prog X.w) (show X.A.in1.handled = none from I.ok.hd hcalm) s.heap.objs.size a (Nat.ne_of_lt ha) vs ep, ⟨⟨_, Heap.get?_push_size _ rfl, rfl, rfl⟩, hat.push _⟩, fun b hb => ?_, by omega, CmpOf.ints_gt (fun i => ks.getD i 0) hv, fun v h' tk hv' hk => ?_⟩
  · show b < (s.heap.push _).objs.size
    rw [size_push']
    rcases List.mem_cons.mp hb with z | z
    · rw [z]
      exact Nat.lt_succ_self _
    · rw [List.mem_singleton.mp z]
      exact Nat.lt_succ_of_lt ha
  · obtain ⟨t, rfl⟩ := hv _ v hv'
    obtain ⟨m1', m2'⟩ := argBest_gt (fun i => ks.getD i 0) (vs.length - 1)
    have m1 : argBest (fun i j => decide (ks.getD i 0 > ks.getD j 0)) (vs.length - 1) ≤ vs.length - 1 := m1'
    have m2 : ∀ j, j ≤ vs.length - 1 → ks.getD j 0 ≤ ks.getD (argBest (fun i j => decide (ks.getD i 0 > ks.getD j 0)) (vs.length - 1)) 0 := m2'
    have hk2 : ∀ b o, s.heap.get? b = some o → h'.get? b = some o := fun b o e => hk b o (fun z => by rw [List.mem_singleton.mp z] at e; exact absurd (Heap.lt_size e) (Nat.lt_irrefl _)) (Heap.get?_push_of_some _ e)
    refine ⟨.int _, H, I.kept (t' := tk) hk2, ⟨t, rfl⟩, q _ (PySem.getD_mem (by omega)) fun y hy => ?_⟩
    obtain ⟨j, hj, e⟩ := List.mem_iff_getElem.mp hy
    have z := m2 j (by omega)
    have e3 : ks.getD j 0 = y := by rw [List.getD_eq_getElem?_getD, List.getElem?_eq_getElem hj, ← e] <;> rfl
    rw [e3] at z
    exact z
/-- the greatest power of a jar -/
def JarMax (H : Hp) (a : Addr) (w : Int) : Prop := ∃ kvs : List (Key × V), H a = some (.dK kvs) ∧ JarK kvs ∧ Sum.inl w ∈ kvs.map (·.1) ∧ ∀ p ∈ kvs, ∃ k : Int, p.1 = Sum.inl k ∧ k ≤ w
theorem JarMax.same {H H' : Hp} {a : Addr} {w : Int} (h : JarMax H a w) (s : Same H H') : JarMax H' a w := let ⟨kvs, e, r⟩ := h; ⟨kvs, s _ _ e, r⟩
theorem r_maxD {H : Hp} {Q : VK} {a : Addr} {w : Int} (h : JarMax H a w) (q : Q (.int w) H) : rMaxDI [.ref a] H Q := by
  obtain ⟨kvs, e, hk, hw, hm⟩ := h
  obtain ⟨ks, e1, e2, e3, e4⟩ := hk.keys
  have hin : w ∈ ks := by
    rw [e1] at hw
    obtain ⟨k, hk, ek⟩ := List.mem_map.mp hw
    cases ek
    exact hk
  have hle : ∀ y ∈ ks, y ≤ w := fun y hy => by
    have : Sum.inl y ∈ kvs.map (·.1) := by rw [e1]; exact List.mem_map.mpr ⟨y, hy, rfl⟩
    obtain ⟨p, hp, ep⟩ := List.mem_map.mp this
    obtain ⟨k, ek, hkw⟩ := hm p hp
    rw [ep] at ek
    cases ek
    exact hkw
  refine ⟨a, kvs, ks, rfl, .inl e, e1, List.length_pos_of_mem hin, fun m m1 m2 => ?_⟩
  have : m = w := Int.le_antisymm (hle m m1) (m2 w hin)
  rw [this]
  exact q
theorem JarIn.max {H : Hp} {a : Addr} {lo w : Int} {c : Int → Int} (h : JarIn H a lo w c) (nz : c w ≠ 0) : JarMax H a w := by
  obtain ⟨kvs, e, hk, hb, hc⟩ := h
  refine ⟨kvs, e, hk, ?_, fun p hp => let ⟨k, e1, _, e2⟩ := hb p hp; ⟨k, e1, e2⟩⟩
  refine Classical.byContradiction fun z => nz ?_
  rw [← hc]
  unfold cfK
  cases hv : valV kvs (Sum.inl w) with
  | none => rfl
  | some v => exact absurd (List.mem_map.mpr ⟨_, val_mem hv, rfl⟩) z
end My

set_option Elab.async false
set_option linter.all false
set_option maxRecDepth 100000
namespace My
open PySem PySem.Spec PyProof.Rows L2
/-! ### jars whose keys are told -/
def JarS (H : Hp) (a : Addr) (n : Nat) (S : Int → Prop) (c : Int → Int) : Prop := ∃ kvs, H a = some (.dK kvs) ∧ JarK kvs ∧ kvs.length ≤ n ∧ (∀ p ∈ kvs, ∃ k : Int, p.1 = Sum.inl k ∧ S k) ∧ ∀ k, cfK kvs k = c k
section
variable {H H' : Hp} {a p b : Addr} {n : Nat} {S T : Int → Prop} {c d : Int → Int} {o : HO}
theorem JarS.new {H : Hp} : JarS (upd H p (.dK [])) p 0 S fun _ => 0 := ⟨[], upd_same, .nil, Nat.le_refl _, fun _ h => absurd h (by simp), fun _ => rfl⟩
theorem JarS.same (h : JarS H a n S c) (s : Same H H') : JarS H' a n S c := let ⟨kvs, e, r⟩ := h; ⟨kvs, s _ _ e, r⟩
theorem JarS.but (h : JarS H a n S c) (ne : a ≠ b) (s : But b H H') : JarS H' a n S c := let ⟨kvs, e, r⟩ := h; ⟨kvs, s _ _ ne e, r⟩
theorem JarS.upd (h : JarS H a n S c) (ne : a ≠ b) : JarS (upd H b o) a n S c := let ⟨kvs, e, r⟩ := h; ⟨kvs, (upd_ne ne).trans e, r⟩
theorem JarS.ext (h : JarS H a n S c) (e : ∀ k, c k = d k) : JarS H a n S d := let ⟨kvs, e1, r1, r2, r3, r4⟩ := h; ⟨kvs, e1, r1, r2, r3, fun k => (r4 k).trans (e k)⟩
theorem JarS.mono {m : Nat} (h : JarS H a n S c) (l : n ≤ m) : JarS H a m S c := let ⟨kvs, e1, r1, r2, r3⟩ := h; ⟨kvs, e1, r1, Nat.le_trans r2 l, r3⟩
theorem JarS.wide (h : JarS H a n S c) (s : ∀ k, S k → T k) : JarS H a n T c := let ⟨kvs, e1, r1, r2, r3, r4⟩ := h; ⟨kvs, e1, r1, r2, fun p hp => let ⟨k, e, q⟩ := r3 p hp; ⟨k, e, s k q⟩, r4⟩
theorem JarS.at (h : JarS H a n S c) : JarAt H a n c := let ⟨kvs, e, r1, r2, _, r4⟩ := h; ⟨kvs, e, r1, r2, r4⟩
theorem JarS.in {lo hi : Int} (h : JarS H a n S c) (s : ∀ k, S k → lo ≤ k ∧ k ≤ hi) : JarIn H a lo hi c := let ⟨kvs, e, r1, _, r3, r4⟩ := h; ⟨kvs, e, r1, fun p hp => let ⟨k, e, q⟩ := r3 p hp; ⟨k, e, s k q⟩, r4⟩
theorem JarS.isD {R : Addr → Prop} (h : JarS H a n S c) (q : R a) : ∃ b, V.ref a = .ref b ∧ IsD H b ∧ R b := h.at.isD q
theorem JarS.dget0 (h : JarS H a n S c) (k : Int) : ∃ o, DGet H a (.int k) o ∧ o.getD (.int 0) = .int (c k) := h.at.dget0 k
theorem JarS.dput {k v : Int} (h : JarS H a n S c) (s : S k) (hn : n ≤ 1000000) : ∃ H', DPut H a (.int k) (.int v) H' ∧ But a H H' ∧ (∀ p, H p = none → p ≠ a → H' p = none) ∧ JarS H' a (n + 1) S (addAt c k v) := by
  obtain ⟨kvs, e, hk, hl, hb, hc⟩ := h
  refine ⟨_, DPut.k (k := .inl k) e (Nat.lt_of_le_of_lt (Nat.le_trans hl hn) (by decide)), But.self (But.refl a H), fun p hp np => (upd_ne np).trans hp, _, upd_same, hk.put k v, ?_, fun q hq => ?_, fun j => ?_⟩
  · exact Nat.le_trans (length_putK _ _ _) (by omega)
  · rcases mem_put hq with hq | rfl
    · exact hb q hq
    · exact ⟨k, rfl, s⟩
  · rw [cfK_put, hc]; rfl
theorem JarS.supp (h : JarS H a n S c) {k : Int} (hk : c k ≠ 0) : S k := by
  obtain ⟨kvs, e, hj, hl, hb, hc⟩ := h
  rw [← hc] at hk
  unfold cfK at hk
  cases hv : valV kvs (Sum.inl k) with
  | none => rw [hv] at hk; exact absurd rfl hk
  | some v =>
    obtain ⟨k', e', s⟩ := hb _ (val_mem hv)
    cases e'
    exact s
theorem JarS.free (h : JarS H a n S c) (q : H p = none) : p ≠ a := h.at.ne q
end
theorem JarIn.s {H : Hp} {a : Addr} {lo hi : Int} {c : Int → Int} (h : JarIn H a lo hi c) : JarS H a (hi - lo + 1).toNat (fun k => lo ≤ k ∧ k ≤ hi) c := by
  obtain ⟨kvs, e, hk, hl, hc⟩ := h.at
  obtain ⟨kvs', e', hk', hb, hc'⟩ := h
  cases e.symm.trans e'
  exact ⟨kvs, e, hk, hl, hb, hc⟩
def spJarOf2 : Sp := fun vs H Q _ => ∃ (l : Addr) (ts : Terms), vs = [.ref l] ∧ TermsAt H l ts ∧ ts.length ≤ 90000 ∧ ∀ d H', H d = none → Same H H' → JarS H' d ts.length (fun k => ∃ p ∈ ts, p.1 = k) (cof ts) → Q (.ref d) H'
def spTimes2 : Sp := fun vs H Q _ => ∃ (a b : Addr) (n m : Nat) (c d : Int → Int), vs = [.ref a, .ref b] ∧ a ≠ b ∧ JarAt H a n c ∧ JarAt H b m d ∧ n * m ≤ 90000 ∧ Sm c ∧ Sm d ∧
  ∀ p H', H p = none → Same H H' → JarS H' p (n * m) (fun k => ∃ q r, c q ≠ 0 ∧ d r ≠ 0 ∧ k = q + r) (mulF c d) → Q (.ref p) H'
/-! ### the numbers of a divisor -/
structure DivC (c : Int → Int) (w : Int) (M : Nat) : Prop where
  w0 : 0 ≤ w
  e0 : c 0 = 1 ∨ c 0 = -1
  ew : c w = 1 ∨ c w = -1
  low : ∀ k, k < 0 → c k = 0
  high : ∀ k, w < k → c k = 0
  bd : ∀ k, (c k).natAbs ≤ M
theorem DivC.mono {c : Int → Int} {w : Int} {M N : Nat} (h : DivC c w M) (l : M ≤ N) : DivC c w N := ⟨h.w0, h.e0, h.ew, h.low, h.high, fun k => Nat.le_trans (h.bd k) l⟩
theorem DivC.divT {c : Int → Int} {w : Int} {M : Nat} {ds : Terms} (h : DivC c w M) (hc : Canon ds) (e : ∀ k, cof ds k = c k) : DivT ds w := by
  have m0 : (0 : Int) ∈ ds.map (·.1) := supp_mem (by rw [e]; rcases h.e0 with e | e <;> rw [e] <;> decide)
  have mw : w ∈ ds.map (·.1) := supp_mem (by rw [e]; rcases h.ew with e | e <;> rw [e] <;> decide)
  have ne : ds ≠ [] := by rintro rfl; cases m0
  have low : ∀ p ∈ ds, 0 ≤ p.1 := fun p hp => Int.not_lt.mp fun z => hc.nz p hp (by rw [← hc.at hp, e]; exact h.low _ z)
  have high : ∀ p ∈ ds, p.1 ≤ w := fun p hp => Int.not_lt.mp fun z => hc.nz p hp (by rw [← hc.at hp, e]; exact h.high _ z)
  refine ⟨hc, ?_, ?_⟩
  · cases hh : ds.head? with
    | none => exact absurd (List.head?_eq_none_iff.mp hh) ne
    | some p =>
      have pm := mem_head hh
      have p0 : p.1 = 0 := by
        refine Decidable.byContradiction fun z => ?_
        have := low p pm
        have := hc.low' hh (k := 0) (by omega)
        rw [e] at this
        rcases h.e0 with e | e <;> omega
      refine ⟨p.2, ?_, ?_⟩
      · rw [← p0]
      · rw [← hc.at pm, p0, e]; exact h.e0
  · cases hh : ds.getLast? with
    | none => exact absurd (List.getLast?_eq_none_iff.mp hh) ne
    | some p =>
      have pm := List.mem_of_getLast? hh
      have p0 : p.1 = w := by
        refine Decidable.byContradiction fun z => ?_
        have := high p pm
        have := hc.high hh (k := w) (by omega)
        rw [e] at this
        rcases h.ew with e | e <;> omega
      refine ⟨p.2, ?_, ?_⟩
      · rw [← p0]
      · rw [← hc.at pm, p0, e]; exact h.ew
/-- a divisor of the law: the polynomial, its dict -/
def BaseAt (C : Addr) (H : Hp) (r j : Addr) (w : Int) (c : Int → Int) (M : Nat) : Prop := (∃ ds, PolyAt C H r ds ∧ ∀ k, cof ds k = c k) ∧ JarIn H j 0 w c ∧ DivC c w M
theorem BaseAt.same {C : Addr} {H H' : Hp} {r j : Addr} {w : Int} {c : Int → Int} {M : Nat} (h : BaseAt C H r j w c M) (s : Same H H') : BaseAt C H' r j w c M := let ⟨⟨ds, a, b⟩, j, d⟩ := h; ⟨⟨ds, a.same s, b⟩, j.same s, d⟩
theorem JarIn.but {H H' : Hp} {a b : Addr} {lo hi : Int} {c : Int → Int} (h : JarIn H a lo hi c) (ne : a ≠ b) (s : But b H H') : JarIn H' a lo hi c := let ⟨kvs, e, r⟩ := h; ⟨kvs, s _ _ ne e, r⟩
theorem JarIn.nb {H : Hp} {a b : Addr} {lo hi : Int} {c : Int → Int} (h : JarIn H a lo hi c) (g : Bag H b) : a ≠ b := by
  obtain ⟨kvs, e, _⟩ := h
  obtain ⟨x, y, z, e', _⟩ := g
  rintro rfl
  rw [e] at e'
  cases e'
theorem BaseAt.but {C : Addr} {H H' : Hp} {r j b : Addr} {w : Int} {c : Int → Int} {M : Nat} (h : BaseAt C H r j w c M) (g : Bag H b) (s : But b H H') : BaseAt C H' r j w c M := let ⟨⟨ds, a, e⟩, j, d⟩ := h; ⟨⟨ds, a.stay (Stay.bag s g), e⟩, j.but (j.nb g) s, d⟩
def spLess : Sp := fun vs H Q _ => ∃ a, vs = [.ref a] ∧ Bag H a ∧ ∀ (r : Int) H', -BN ≤ r → r ≤ BN → But a H H' → Bag H' a → Q (.int r) H'
def spDivisorOf : Sp := fun vs H Q _ => ∃ (b : Addr) (t : Int), vs = [.ref b, .int t] ∧ Bag H b ∧ 0 ≤ t ∧ t ≤ 60 ∧ ∀ j c H', H j = none → But b H H' → Bag H' b → JarIn H' j 0 t c → DivC c t 999 → Q (.ref j) H'
def spDivisor : Sp := fun vs H Q _ => ∃ (b : Addr) (m : Int), vs = [.ref b, .int m] ∧ Bag H b ∧ 0 ≤ m ∧ m ≤ 60 ∧ ∀ j c t H', H j = none → But b H H' → Bag H' b → 0 ≤ t → t ≤ m → JarIn H' j 0 t c → DivC c t 999 → Q (.ref j) H'
def spSomeRest : Sp := fun vs H Q _ => ∃ (b : Addr) (t : Int), vs = [.ref b, .int t] ∧ Bag H b ∧ 0 ≤ t ∧ t ≤ 60 ∧ ∀ j c H', H j = none → But b H H' → Bag H' b → JarS H' j 12 (fun k => 0 ≤ k ∧ k < t) c → (∀ k, -BN ≤ c k ∧ c k ≤ BN) → Q (.ref j) H'
def spBaseMade (C : Addr) : Sp := fun vs H Q _ => ∃ (b : Addr), vs = [.ref b] ∧ Bag H b ∧ ∀ (t r j : Addr) w c H', H j = none → But b H H' → Bag H' b → H' t = some (.tup [.ref r, .ref j]) → w ≤ 60 → BaseAt C H' r j w c 100000000 → Q (.ref t) H'
/-- the tuple of a quotient and a rest -/
def Parts (C : Addr) (H : Hp) (t : Addr) (qs rs : Terms) : Prop := ∃ q r, H t = some (.tup [.ref q, .ref r]) ∧ PolyAt C H q qs ∧ PolyAt C H r rs
theorem Parts.same {C : Addr} {H H' : Hp} {t : Addr} {qs rs : Terms} (h : Parts C H t qs rs) (s : Same H H') : Parts C H' t qs rs := let ⟨q, r, a, b, c⟩ := h; ⟨q, r, s _ _ a, b.same s, c.same s⟩
def spBothParts (C : Addr) : Sp := fun vs H Q _ => ∃ (t jar bj : Addr) (qs rs : Terms) (n : Nat) (c cb : Int → Int) (w : Int), vs = [.ref t, .ref jar, .ref bj] ∧ Parts C H t qs rs ∧ JarAt H jar n c ∧ n ≤ 90000 ∧ JarIn H bj 0 w cb ∧ cb w ≠ 0 ∧ 0 ≤ w ∧ w ≤ 60 ∧
  (∀ k, c k = mulF cb (cof qs) k + cof rs k) ∧ (∀ k, k < 0 → cof rs k = 0) ∧ (∀ k, w ≤ k → cof rs k = 0) ∧ qs.length ≤ 1401 ∧ Sm cb ∧ Sm (cof qs) ∧
  ∀ l j1 j2 H', H l = none → Same H H' → H' l = some (.lst [.ref j1, .ref j2]) → JarAt H' j1 qs.length (cof qs) → JarAt H' j2 rs.length (cof rs) → Q (.ref l) H'
end My

set_option Elab.async false
set_option linter.all false
set_option maxRecDepth 100000
set_option maxHeartbeats 4000000

namespace My
open PySem PySem.Spec PyProof.Rows L2
section
variable {P : Program} {w : World} {K : PySem.W.Frag} {mg : Str → Option Value} {base : Heap} {C : Addr}
local macro_rules | `(tactic| walk_at "isi") => `(tactic| (first
  | (with_reducible refine r_is_int_int ?_)
  | (with_reducible refine r_is_int_bool ?_)
  | (with_reducible refine r_is_int_str ?_)
  | (with_reducible refine r_is_int_list ?_)
  | (with_reducible refine r_is_int_tuple ?_)
  | (with_reducible refine r_is_bool_int ?_)
  | (with_reducible refine r_is_bool_bool ?_)
  | (with_reducible refine r_is_bool_str ?_)
  | (with_reducible refine r_is_bool_list ?_)
  | (with_reducible refine r_is_bool_tuple ?_)
  | (with_reducible refine r_is_str_int ?_)
  | (with_reducible refine r_is_str_bool ?_)
  | (with_reducible refine r_is_str_str ?_)
  | (with_reducible refine r_is_str_list ?_)
  | (with_reducible refine r_is_str_tuple ?_)
  | ((with_reducible refine r_is_list_int (xs := ?xx) ?hh ?_); (case hh => walk_at "hp"))
  | ((with_reducible refine r_is_list_bool (xs := ?xx) ?hh ?_); (case hh => walk_at "hp"))
  | ((with_reducible refine r_is_list_str (xs := ?xx) ?hh ?_); (case hh => walk_at "hp"))
  | ((with_reducible refine r_is_list_list (xs := ?xx) ?hh ?_); (case hh => walk_at "hp"))
  | ((with_reducible refine r_is_list_tuple (xs := ?xx) ?hh ?_); (case hh => walk_at "hp"))
  | ((with_reducible refine r_is_tuple_int (xs := ?xx) ?hh ?_); (case hh => walk_at "hp"))
  | ((with_reducible refine r_is_tuple_bool (xs := ?xx) ?hh ?_); (case hh => walk_at "hp"))
  | ((with_reducible refine r_is_tuple_str (xs := ?xx) ?hh ?_); (case hh => walk_at "hp"))
  | ((with_reducible refine r_is_tuple_list (xs := ?xx) ?hh ?_); (case hh => walk_at "hp"))
  | ((with_reducible refine r_is_tuple_tuple (xs := ?xx) ?hh ?_); (case hh => walk_at "hp"))
  | (with_reducible refine r_is_NoneType_int ?_)
  | (with_reducible refine r_is_NoneType_bool ?_)
  | (with_reducible refine r_is_NoneType_str ?_)
  | (with_reducible refine r_is_NoneType_list ?_)
  | (with_reducible refine r_is_NoneType_tuple ?_)))
local macro_rules | `(tactic| walk_at "ne") => `(tactic| first | assumption | (refine Ne.symm ?_; assumption) | exact Bag.ne (by assumption) (by assumption) | exact ne_of_none (by assumption) (by assumption))
local macro_rules | `(tactic| walk_at "hp") => `(tactic| (first
  | assumption
  | exact upd_same
  | (refine h_keep ?_ (by assumption); walk_at "hp")
  | (refine (upd_ne (by walk_at "ne")).trans ?_; walk_at "hp")
  | (refine Same.at (by assumption) ?_; walk_at "hp")
  | (refine But.at (by assumption) (by walk_at "ne") ?_; walk_at "hp")
  | (refine But2.at (by assumption) (by walk_at "ne") (by walk_at "ne") ?_; walk_at "hp")))
local macro_rules | `(tactic| walk_at "side") => `(tactic| first | assumption | omega | (refine ⟨?_, ?_⟩ <;> first | assumption | omega | decide) | decide | (refine ⟨by decide, by decide, by decide⟩) | (left; refine ⟨?_, ?_⟩ <;> first | omega | decide) | (right; refine ⟨?_, ?_⟩ <;> first | omega | decide) | (simp; done))
local macro_rules | `(tactic| walk_at "cond") => `(tactic| first | assumption | exact rfl | omega | (simp only [List.length_cons, List.length_nil]; omega) | decide +kernel)
local macro_rules | `(tactic| walk_at "s") => `(tactic| (first
  | ((with_reducible refine r_var (v := ?vv) ?ee ?_); (case ee => exact rfl))
  | (with_reducible refine r_c ?_)
  | (with_reducible refine r_op ?_)
  | (with_reducible refine r_un ?_)
  | (with_reducible refine r_rI0 ?_)
  | ((with_reducible refine r_rI ?cc ?_); (case cc => walk_at "side"))
  | (with_reducible refine r_rU ?_)
  | (with_reducible refine r_eqI ?_)
  | (with_reducible refine r_neI ?_)
  | (with_reducible refine r_eqB ?_)
  | (with_reducible refine r_neB ?_)
  | (with_reducible refine r_eqS ?_)
  | (with_reducible refine r_neS ?_)
  | ((with_reducible refine r_eq ?ee ?_); (case ee => exact rfl))
  | ((with_reducible refine r_ne ?ee ?_); (case ee => exact rfl))
  | ((with_reducible refine r_ixL (v := ?vv) (xs := ?xx) ?hh ?ee ?_); (case hh => (refine SqL.of ?_; walk_at "hp")); (case ee => exact rfl))
  | (with_reducible refine r_cb ?_)
  | (with_reducible refine r_call ?_)
  | (with_reducible refine r_cons ?_)
  | (with_reducible refine r_nil ?_)
  | (with_reducible refine r_lst ?_)
  | (with_reducible refine r_tup ?_)
  | ((with_reducible refine r_new ?cc ?_); (case cc => walk_at "side"))
  | (with_reducible refine r_exbl ?_)
  | (with_reducible refine r_exint ?_)
  | (with_reducible refine r_exint2 ?_)
  | (with_reducible refine r_exblL ?_)
  | (with_reducible refine r_ex2 ?_)
  | (with_reducible refine r_test ?_)
  | (with_reducible refine r_tB ?_)
  | (with_reducible refine r_not ?_)
  | (with_reducible refine r_and ?_)
  | (with_reducible refine r_or ?_)
  | (with_reducible refine r_andV ?_)
  | (with_reducible refine r_orV ?_)
  | (with_reducible refine r_notV ?_)
  | (with_reducible refine r_tif ?_)
  | (with_reducible refine r_iteT ?_)
  | (with_reducible refine r_iteNT ?_)
  | (with_reducible refine r_iteNF ?_)
  | (with_reducible refine r_iteF ?_)
  | (with_reducible refine r_seq ?_)
  | (with_reducible refine r_next ?_)
  | (with_reducible refine r_brk ?_)
  | (with_reducible refine r_cont ?_)
  | (with_reducible refine r_asg ?_)
  | (with_reducible refine r_gname ?_)
  | (with_reducible refine r_ret ?_)
  | (with_reducible refine r_retN ?_)
  | (with_reducible refine r_drop ?_)
  | (with_reducible refine r_if ?_)
  | ((with_reducible refine r_aug (x := ?xx) ?ee ?_); (case ee => exact rfl))
  | (with_reducible refine r_ipI ?_)
  | (with_reducible refine r_augS ?_)
  | (with_reducible refine r_gsub ?_)
  | ((with_reducible refine r_setL (xs := ?xx) (m := ?mm) ?hh ?ee ?_); (case hh => walk_at "hp"); (case ee => exact rfl))
  | (with_reducible refine r_par ?_)
  | (with_reducible refine r_bm ?_)
  | ((with_reducible refine r_tyL (xs := ?xx) ?hh ?_); (case hh => walk_at "hp"))
  | ((with_reducible refine r_append (xs := ?xx) ?hh ?ll ?_); (case hh => walk_at "hp"); (case ll => walk_at "side"))
  | (walk_at "isi")
  | (with_reducible refine r_for ?_)
  | (with_reducible refine r_iList ?_)
  | (with_reducible refine r_iTup ?_)
  | (with_reducible refine r_iR1 ?_)
  | (with_reducible refine r_iR2 ?_)
  | (with_reducible refine r_lc ?_)
  | (with_reducible refine r_yes ?_)
  | ((with_reducible refine r_lenS ?ll ?_); (case ll => walk_at "side"))
  | (with_reducible refine r_leS ?_)
  | (with_reducible refine r_chain ?_)
  | (with_reducible refine r_tM1 ?_)
  | (with_reducible refine r_exS ?_)
  | ((with_reducible refine r_tupL (xs := ?xx) ?hh ?_); (case hh => walk_at "hp"))
  | ((with_reducible refine r_listL (xs := ?xx) ?hh ?_); (case hh => walk_at "hp"))
  | ((with_reducible refine r_listT (xs := ?xx) ?hh ?_); (case hh => walk_at "hp"))
  | ((with_reducible refine r_ixT (v := ?vv) (xs := ?xx) ?hh ?ee ?_); (case hh => (refine SqT.of ?_; walk_at "hp")); (case ee => exact rfl))
  | (with_reducible refine r_sl ?_)
  | (with_reducible refine r_nopart ?_)
  | (with_reducible refine r_part ?_)
  | (with_reducible refine r_exI ?_)
  | ((with_reducible refine r_slL (xs := ?xx) ?hh ?_); (case hh => first | assumption | (refine SqL.of ?_; walk_at "hp") | (refine Same.seq (by assumption) (by assumption))))
  | ((with_reducible refine r_cat (xs := ?xx) (zs := ?zz) ?hh ?ii ?ll ?_); (case hh => walk_at "hp"); (case ii => walk_at "hp"); (case ll => walk_at "side"))
  | ((with_reducible refine r_lenL (xs := ?xx) ?hh ?_); (case hh => walk_at "hp"))
  | ((with_reducible refine r_lenT (xs := ?xx) ?hh ?_); (case hh => walk_at "hp"))
  | ((with_reducible refine r_gTup (xs := ?xx) ?hh ?ll ?_); (case hh => walk_at "hp"); (case ll => exact rfl))
  | (with_reducible refine r_gCons ?_)
  | (with_reducible refine r_gNil ?_)
  | ((with_reducible refine r_iteDT ?cc ?_); (case cc => walk_at "cond"))
  | ((with_reducible refine r_iteDF ?cc ?_); (case cc => walk_at "cond"))
  | ((with_reducible refine r_iteNDT ?cc ?_); (case cc => walk_at "cond"))
  | ((with_reducible refine r_iteNDF ?cc ?_); (case cc => walk_at "cond"))
  ))
local macro_rules | `(tactic| walk_at "go") => `(tactic| repeat (walk_at "s"))

local macro_rules | `(tactic| walk_at "s") => `(tactic| (first
  | (with_reducible refine r_dnew ?_)
  | (with_reducible refine r_dget2 ?_)
  | (with_reducible refine r_dget ?_)
  | (with_reducible refine r_dput ?_)
  | (with_reducible refine r_dsetd ?_)
  | ((with_reducible refine JarAt.isD (n := ?nn) (c := ?cc) ?hh ?_); (case hh => assumption))
  ))

local macro_rules | `(tactic| walk_at "s") => `(tactic| (first
  | (with_reducible refine r_prop ?_)
  | (with_reducible refine r_meth ?_)
  | (with_reducible refine r_make ?_)
  | (with_reducible refine r_fld ?_)
  | (with_reducible refine r_sfld ?_)
  | (with_reducible refine r_iOwn ?_)
  | ((with_reducible refine u_rowsAt (mg := ?mm) (C := ?CC) (dx := ?dd) (fv := ?vv) ?tt ?hh ?_); (case tt => assumption); (case hh => walk_at "hp"))
  | ((with_reducible refine r_isPoly (mg := ?mm) (dx := ?dd) (fs := ?ff) ?tt ?hh ?_); (case tt => assumption); (case hh => walk_at "hp"))
  | ((with_reducible refine r_isPolyI (mg := ?mm) ?tt ?_); (case tt => assumption))
  | ((with_reducible refine r_polyInt (mg := ?mm) (C := ?CC) (dx := ?dd) (fs := ?ff) ?tt ?hh ?_); (case tt => assumption); (case hh => walk_at "hp"))
  ))

local macro_rules | `(tactic| walk_at "s") => `(tactic| (first
  | (with_reducible refine r_iKeys ?_)
  | (with_reducible refine rl_disp ?_)
  | (with_reducible refine rl_pc ?_)
  | (with_reducible refine rl_pn ?_)
  ))
local macro_rules | `(tactic| walk_at "s") => `(tactic| ((with_reducible refine JarS.isD (n := ?nn) (S := ?ss) (c := ?cc) ?hh ?_); (case hh => assumption)))
theorem ok_l_jar_of2 {f : Addr} {fd : FuncData} (F : Fun K "_law_jar_of" "_law_jar_of" s_l_jar_of f fd) : FnOk P w K mg base CX0 1 f fd ["_law_rows"] spJarOf2 := by
  refine F.ok sc_l_jar_of (fun vs H Q E h => ?_) (fun cdv A outer s H vs Q E hr h => ?_)
  · obtain ⟨l, ts, rfl, _⟩ := h
    rfl
  · obtain ⟨l, ts, rfl, ⟨vs, hl, ht⟩, hn, k⟩ := h
    refine ⟨_, (pss_cons (ps_set (i := 1) sc_l_jar_of.nd rfl (.inl rfl) pe_dnewK)
    (pss_cons (ps_for PassesOwn.never rfl (pi_list (pv 0)) (pg_tup (by rfl) (pgs_cons (pg_name (i := 2) sc_l_jar_of.nd rfl (.inl rfl)) (pgs_cons (pg_name (i := 3) sc_l_jar_of.nd rfl (.inl rfl)) pgs_nil)))
    (pss_one (ps_dput (hu_of hr) (pv 1) (pv 2) (pe_op op_add (pe_dget2 (hu_of hr) (pv 1) (pv 2) pe_int ⟨rfl, rfl, rfl, rfl⟩) (pv 3)) rfl)))
    (pss_one (ps_ret (pv 1))))), ?_⟩
    walk_at "go"
    intro d nd
    walk_at "go"
    have hvl := ht.length
    refine u_forL (.of (h_keep hl nd)) (fun i σ H' => ∃ (c : Int → Int) (y2 y3 : Option V), σ = [some (.ref l), some (.ref d), y2, y3] ∧ Same H H' ∧ JarS H' d i (fun k => ∃ p ∈ ts, p.1 = k) c ∧ (∀ k, c k = cof (ts.take i) k) ∧ i ≤ vs.length) ?_ ?_ ?_ ?_
    · exact ⟨_, _, _, rfl, Same.new0 nd, .new, fun k => rfl, Nat.zero_le _⟩
    · rintro i σ H' _ ⟨c, y2, y3, rfl, sm, _⟩
      exact .of (sm _ _ hl)
    · rintro i x σ H' hx ⟨c, y2, y3, rfl, sm, hj, hc, hi⟩
      obtain ⟨b, p, rfl, hp, hb⟩ := ht.at i hx
      have hi2 := (List.getElem?_eq_some_iff.mp hx).1
      have hb' := sm _ _ hb
      walk_at "go"
      obtain ⟨o, g1, g2⟩ := hj.dget0 p.1
      refine ⟨o, g1, ?_⟩
      rw [g2]
      walk_at "go"
      obtain ⟨H4, p1, b1, f1, j1⟩ := hj.dput (k := p.1) (v := c p.1 + p.2) ⟨p, List.mem_of_getElem? hp, rfl⟩ (by omega)
      refine ⟨d, H4, rfl, p1, _, _, _, rfl, Same.but2 sm nd b1, j1, fun k => ?_, hi2⟩
      have et : ts.take (i + 1) = ts.take i ++ [p] := by rw [List.take_succ, hp]; rfl
      rw [et, cof_app, ← hc]
      unfold addAt
      rw [cof, cof]
      by_cases e : k = p.1
      · subst e; rw [if_pos rfl, if_pos rfl]; omega
      · rw [if_neg e, if_neg (fun h => e h.symm)]; omega
    · rintro σ H' ⟨c, y2, y3, rfl, sm, hj, hc, hi⟩
      rw [List.take_of_length_le (by omega)] at hc
      walk_at "go"
      rw [hvl] at hj
      exact k d H' nd sm (hj.ext hc)
theorem ok_l_times2 {f : Addr} {fd : FuncData} (F : Fun K "_law_times" "_law_times" s_l_times f fd) : FnOk P w K mg base CX0 1 f fd ["_law_one", "_law_two"] spTimes2 := by
  refine F.ok sc_l_times (fun vs H Q E h => ?_) (fun cdv A outer s H vs Q E hr h => ?_)
  · obtain ⟨a, b, n, m, c, d, rfl, _⟩ := h
    rfl
  · obtain ⟨a, b, n, m, c, d, rfl, hab, ha, hb, hn, smc, smd, k⟩ := h
    obtain ⟨kvs1, ks1, e1, hk1, ek1, kl1, kc1, kf1⟩ := ha.list
    obtain ⟨kvs2, ks2, e2, hk2, ek2, kl2, kc2, kf2⟩ := hb.list
    have len1 : kvs1.length = ks1.length := by have := congrArg List.length ek1; simpa using this
    have len2 : kvs2.length = ks2.length := by have := congrArg List.length ek2; simpa using this
    refine ⟨_, (pss_cons (ps_set (i := 2) sc_l_times.nd rfl (.inl rfl) pe_dnewK)
    (pss_cons (ps_lock (ps_for PassesOwn.never rfl (pi_keys (pv 0)) (pg_name (i := 3) sc_l_times.nd rfl (.inl rfl))
    (pss_one (ps_lock (ps_for PassesOwn.never rfl (pi_keys (pv 1)) (pg_name (i := 4) sc_l_times.nd rfl (.inl rfl))
    (pss_one (ps_if (PW.pt (pw_and (pt_cmpR op_ne (pe_dget (hu_of hr) (pv 0) (pv 3) (fun _ _ => rfl)) pe_int (nomark _)) (pw_and1 (pt_cmpR op_ne (pe_dget (hu_of hr) (pv 1) (pv 4) (fun _ _ => rfl)) pe_int (nomark _)))))
    (pss_one (ps_dput (hu_of hr) (pv 2) (pe_op op_add (pv 3) (pv 4)) (pe_op op_add (pe_dget2 (hu_of hr) (pv 2) (pe_op op_add (pv 3) (pv 4)) pe_int ⟨rfl, rfl, rfl, rfl⟩) (pe_op op_mulW (pe_dget (hu_of hr) (pv 0) (pv 3) (fun _ _ => rfl)) (pe_dget (hu_of hr) (pv 1) (pv 4) (fun _ _ => rfl)))) rfl))
    pss_nil)))))))
    (pss_one (ps_ret (pv 2))))), ?_⟩
    walk_at "go"
    intro p np
    walk_at "go"
    have pa : p ≠ a := (ne_of_none e1 np).symm
    have pb : p ≠ b := (ne_of_none e2 np).symm
    refine ⟨a, .dK kvs1, h_keep e1 np, trivial, fun od1 => ?_⟩
    walk_at "go"
    refine ⟨a, od1, rfl, .inl ⟨kvs1, upd_same, ?_⟩⟩
    refine u_keys (fun i σ H' => ∃ y3 y4 : Option V, σ = [some (.ref a), some (.ref b), some (.ref p), y3, y4] ∧ H' a = some (.frz od1 (.dK kvs1)) ∧ (∀ x o, x ≠ a → x ≠ p → H x = some o → H' x = some o) ∧ JarS H' p (i * m) (fun k => ∃ q r, c q ≠ 0 ∧ d r ≠ 0 ∧ k = q + r) (fun z => cmul ((ks1.take i).map fun q => (q, c q)) d z) ∧ i ≤ kvs1.length) ?_ ?_ ?_ ?_
    · refine ⟨_, _, rfl, upd_same, fun x o xa xp h => (upd_ne xa).trans ((upd_ne xp).trans h), ?_, Nat.zero_le _⟩
      exact (JarS.new.upd pa).mono (Nat.zero_le _)
    · rintro i σ H' ⟨y3, y4, rfl, ha', _⟩
      exact ha'
    · rintro i kk v σ H' hkv ⟨y3, y4, rfl, ha', sm, hj', hi⟩
      have hi2 := (List.getElem?_eq_some_iff.mp hkv).1
      obtain ⟨q, hq, rfl⟩ := key_at ek1 hkv
      show gName 3 (.int q) _ _ _
      walk_at "go"
      have eb : H' b = some (.dK kvs2) := sm b _ (fun z => hab z.symm) pb.symm e2
      refine ⟨b, .dK kvs2, eb, trivial, fun od2 => ?_⟩
      walk_at "go"
      refine ⟨b, od2, rfl, .inl ⟨kvs2, upd_same, ?_⟩⟩
      refine u_keys (fun j σ H2 => ∃ y4 : Option V, σ = [some (.ref a), some (.ref b), some (.ref p), some (.int q), y4] ∧ H2 b = some (.frz od2 (.dK kvs2)) ∧ H2 a = some (.frz od1 (.dK kvs1)) ∧ (∀ x o, x ≠ a → x ≠ b → x ≠ p → H x = some o → H2 x = some o) ∧ JarS H2 p (i * m + j) (fun k => ∃ q r, c q ≠ 0 ∧ d r ≠ 0 ∧ k = q + r) (fun z => cmul ((ks1.take i).map fun q => (q, c q)) d z + c q * cof ((ks2.take j).map fun r => (r, d r)) (z - q)) ∧ j ≤ kvs2.length) ?_ ?_ ?_ ?_
      · refine ⟨_, rfl, upd_same, (upd_ne hab).trans ha', fun x o xa xb xp h => (upd_ne xb).trans (sm x o xa xp h), ?_, Nat.zero_le _⟩
        exact (hj'.upd pb).ext fun z => by rw [List.take_zero, List.map_nil, cof]; simp
      · rintro j σ H2 ⟨y4, rfl, hb2, _⟩
        exact hb2
      · rintro j kk v2 σ H2 hkv2 ⟨y4, rfl, hb2, ha2, sm2, hj2, hjl⟩
        have hj3 := (List.getElem?_eq_some_iff.mp hkv2).1
        have jmn : i * m + j ≤ 1000000 := by have := Nat.mul_le_mul_right m (by omega : i + 1 ≤ n); have : (i + 1) * m = i * m + m := Nat.succ_mul i m; omega
        obtain ⟨r, hr2, rfl⟩ := key_at ek2 hkv2
        have d1 : DGet H2 a (.int q) (some (.int (cfK kvs1 q))) := JarFz.dget ha2 hk1 (by rw [ek1]; exact List.mem_map.mpr ⟨q, List.mem_of_getElem? hq, rfl⟩)
        have d2 : DGet H2 b (.int r) (some (.int (cfK kvs2 r))) := JarFz.dget hb2 hk2 (by rw [ek2]; exact List.mem_map.mpr ⟨r, List.mem_of_getElem? hr2, rfl⟩)
        rw [kc1] at d1
        rw [kc2] at d2
        show gName 4 (.int r) _ _ _
        walk_at "go"
        refine ⟨a, _, rfl, d1, ?_⟩
        walk_at "go"
        have et2 : (ks2.take (j + 1)).map (fun r => (r, d r)) = (ks2.take j).map (fun r => (r, d r)) ++ [(r, d r)] := by rw [List.take_succ, hr2, List.map_append]; rfl
        have stp : ∀ z, cmul ((ks1.take i).map fun q => (q, c q)) d z + c q * cof ((ks2.take (j + 1)).map fun r => (r, d r)) (z - q) = (cmul ((ks1.take i).map fun q => (q, c q)) d z + c q * cof ((ks2.take j).map fun r => (r, d r)) (z - q)) + (if q + r = z then c q * d r else 0) := fun z => by
          rw [et2, cof_app, cof, cof, Int.mul_add]
          show _ + (_ + c q * ((if r = z - q then d r else 0) + 0)) = _
          by_cases hz : q + r = z
          · rw [if_pos hz, if_pos (by omega), Int.add_zero, Int.add_assoc]
          · rw [if_neg hz, if_neg (by omega)]; simp
        have idle : c q * d r = 0 → JarS H2 p (i * m + (j + 1)) (fun k => ∃ q r, c q ≠ 0 ∧ d r ≠ 0 ∧ k = q + r) (fun z => cmul ((ks1.take i).map fun q => (q, c q)) d z + c q * cof ((ks2.take (j + 1)).map fun r => (r, d r)) (z - q)) := fun h0 => (hj2.mono (by omega)).ext fun z => by
          rw [stp z, h0]; simp
        refine r_iteN (fun q0 => ?_) (fun q0 => ?_)
        · walk_at "go"
          refine ⟨b, _, rfl, d2, ?_⟩
          walk_at "go"
          refine r_iteN (fun q1 => ?_) (fun q1 => ?_)
          · walk_at "go"
            obtain ⟨o, g1, g2⟩ := hj2.dget0 (q + r)
            refine ⟨o, g1, ?_⟩
            rw [g2]
            have msg : CMulW (c q) (d r) := mulW_of (smc q) (smd r)
            walk_at "go"
            refine ⟨a, _, rfl, d1, ?_⟩
            walk_at "go"
            refine ⟨b, _, rfl, d2, ?_⟩
            walk_at "go"
            obtain ⟨H4, p1, b1, f1, j1⟩ := hj2.dput (k := q + r) (v := (cmul ((ks1.take i).map fun q => (q, c q)) d (q + r) + c q * cof ((ks2.take j).map fun r => (r, d r)) (q + r - q)) + c q * d r) ⟨q, r, q0, q1, rfl⟩ jmn
            refine ⟨p, H4, rfl, p1, _, rfl, b1 _ _ pb.symm hb2, b1 _ _ pa.symm ha2, fun x o xa xb xj ex => b1 _ _ xj (sm2 x o xa xb xj ex), (j1.mono (by omega)).ext fun z => ?_, hj3⟩
            rw [stp z]
            unfold addAt
            by_cases hz : q + r = z
            · subst hz; simp
            · simp [hz, Ne.symm hz]
          · walk_at "go"
            exact ⟨_, rfl, hb2, ha2, sm2, idle (by rw [q1, Int.mul_zero]), hj3⟩
        · walk_at "go"
          exact ⟨_, rfl, hb2, ha2, sm2, idle (by rw [q0, Int.zero_mul]), hj3⟩
      · rintro σ H2 ⟨y4, rfl, hb2, ha2, sm2, hj2, hjl⟩
        refine ⟨hb2, _, _, rfl, (upd_ne hab).trans ha2, fun x o xa xp h => ?_, ?_, hi2⟩
        · by_cases xb : x = b
          · subst xb; rw [upd_same, ← e2, h]
          · exact (upd_ne xb).trans (sm2 x o xa xb xp h)
        · refine ((hj2.upd pb).mono ?_).ext fun z => ?_
          · have := Nat.le_trans (Nat.add_le_add_left (by omega : kvs2.length ≤ m) (i * m)) (Nat.le_of_eq (Nat.succ_mul i m).symm); omega
          · rw [List.take_of_length_le (by omega : ks2.length ≤ kvs2.length), kf2, List.take_succ, hq, List.map_append, cmul_app]
            show _ = _ + cmul [(q, c q)] d z
            rw [cmul, cmul]; simp
    · rintro σ H' ⟨y3, y4, rfl, ha', sm, hj', hi⟩
      refine ⟨ha', ?_⟩
      rw [List.take_of_length_le (by omega)] at hj'
      walk_at "go"
      refine k p _ np (fun x o h => ?_) (((hj'.upd pa).mono (Nat.mul_le_mul_right _ (by omega))).ext fun z => ?_)
      · by_cases xa : x = a
        · subst xa; rw [upd_same, ← e1, h]
        · exact (upd_ne xa).trans (sm x o xa (ne_of_none h np) h)
      · rw [mulF_of kf1 kf2]
        exact (cmul_extr _ z kf2).symm

end
end My

set_option Elab.async false
set_option linter.all false
set_option maxRecDepth 100000
set_option maxHeartbeats 4000000

namespace My
open PySem PySem.Spec PyProof.Rows L2
section
variable {P : Program} {w : World} {K : PySem.W.Frag} {mg : Str → Option Value} {base : Heap} {C : Addr}
local macro_rules | `(tactic| walk_at "isi") => `(tactic| (first
  | (with_reducible refine r_is_int_int ?_)
  | (with_reducible refine r_is_int_bool ?_)
  | (with_reducible refine r_is_int_str ?_)
  | (with_reducible refine r_is_int_list ?_)
  | (with_reducible refine r_is_int_tuple ?_)
  | (with_reducible refine r_is_bool_int ?_)
  | (with_reducible refine r_is_bool_bool ?_)
  | (with_reducible refine r_is_bool_str ?_)
  | (with_reducible refine r_is_bool_list ?_)
  | (with_reducible refine r_is_bool_tuple ?_)
  | (with_reducible refine r_is_str_int ?_)
  | (with_reducible refine r_is_str_bool ?_)
  | (with_reducible refine r_is_str_str ?_)
  | (with_reducible refine r_is_str_list ?_)
  | (with_reducible refine r_is_str_tuple ?_)
  | ((with_reducible refine r_is_list_int (xs := ?xx) ?hh ?_); (case hh => walk_at "hp"))
  | ((with_reducible refine r_is_list_bool (xs := ?xx) ?hh ?_); (case hh => walk_at "hp"))
  | ((with_reducible refine r_is_list_str (xs := ?xx) ?hh ?_); (case hh => walk_at "hp"))
  | ((with_reducible refine r_is_list_list (xs := ?xx) ?hh ?_); (case hh => walk_at "hp"))
  | ((with_reducible refine r_is_list_tuple (xs := ?xx) ?hh ?_); (case hh => walk_at "hp"))
  | ((with_reducible refine r_is_tuple_int (xs := ?xx) ?hh ?_); (case hh => walk_at "hp"))
  | ((with_reducible refine r_is_tuple_bool (xs := ?xx) ?hh ?_); (case hh => walk_at "hp"))
  | ((with_reducible refine r_is_tuple_str (xs := ?xx) ?hh ?_); (case hh => walk_at "hp"))
  | ((with_reducible refine r_is_tuple_list (xs := ?xx) ?hh ?_); (case hh => walk_at "hp"))
  | ((with_reducible refine r_is_tuple_tuple (xs := ?xx) ?hh ?_); (case hh => walk_at "hp"))
  | (with_reducible refine r_is_NoneType_int ?_)
  | (with_reducible refine r_is_NoneType_bool ?_)
  | (with_reducible refine r_is_NoneType_str ?_)
  | (with_reducible refine r_is_NoneType_list ?_)
  | (with_reducible refine r_is_NoneType_tuple ?_)))
local macro_rules | `(tactic| walk_at "ne") => `(tactic| first | assumption | (refine Ne.symm ?_; assumption) | exact Bag.ne (by assumption) (by assumption) | exact ne_of_none (by assumption) (by assumption))
local macro_rules | `(tactic| walk_at "hp") => `(tactic| (first
  | assumption
  | exact upd_same
  | (refine h_keep ?_ (by assumption); walk_at "hp")
  | (refine (upd_ne (by walk_at "ne")).trans ?_; walk_at "hp")
  | (refine Same.at (by assumption) ?_; walk_at "hp")
  | (refine But.at (by assumption) (by walk_at "ne") ?_; walk_at "hp")
  | (refine But2.at (by assumption) (by walk_at "ne") (by walk_at "ne") ?_; walk_at "hp")))
local macro_rules | `(tactic| walk_at "side") => `(tactic| first | assumption | omega | (refine ⟨?_, ?_⟩ <;> first | assumption | omega | decide) | decide | (refine ⟨by decide, by decide, by decide⟩) | (left; refine ⟨?_, ?_⟩ <;> first | omega | decide) | (right; refine ⟨?_, ?_⟩ <;> first | omega | decide) | (simp; done))
local macro_rules | `(tactic| walk_at "cond") => `(tactic| first | assumption | exact rfl | omega | (simp only [List.length_cons, List.length_nil]; omega) | decide +kernel)
local macro_rules | `(tactic| walk_at "s") => `(tactic| (first
  | ((with_reducible refine r_var (v := ?vv) ?ee ?_); (case ee => exact rfl))
  | (with_reducible refine r_c ?_)
  | (with_reducible refine r_op ?_)
  | (with_reducible refine r_un ?_)
  | (with_reducible refine r_rI0 ?_)
  | ((with_reducible refine r_rI ?cc ?_); (case cc => walk_at "side"))
  | (with_reducible refine r_rU ?_)
  | (with_reducible refine r_eqI ?_)
  | (with_reducible refine r_neI ?_)
  | (with_reducible refine r_eqB ?_)
  | (with_reducible refine r_neB ?_)
  | (with_reducible refine r_eqS ?_)
  | (with_reducible refine r_neS ?_)
  | ((with_reducible refine r_eq ?ee ?_); (case ee => exact rfl))
  | ((with_reducible refine r_ne ?ee ?_); (case ee => exact rfl))
  | ((with_reducible refine r_ixL (v := ?vv) (xs := ?xx) ?hh ?ee ?_); (case hh => (refine SqL.of ?_; walk_at "hp")); (case ee => exact rfl))
  | (with_reducible refine r_cb ?_)
  | (with_reducible refine r_call ?_)
  | (with_reducible refine r_cons ?_)
  | (with_reducible refine r_nil ?_)
  | (with_reducible refine r_lst ?_)
  | (with_reducible refine r_tup ?_)
  | ((with_reducible refine r_new ?cc ?_); (case cc => walk_at "side"))
  | (with_reducible refine r_exbl ?_)
  | (with_reducible refine r_exint ?_)
  | (with_reducible refine r_exint2 ?_)
  | (with_reducible refine r_exblL ?_)
  | (with_reducible refine r_ex2 ?_)
  | (with_reducible refine r_test ?_)
  | (with_reducible refine r_tB ?_)
  | (with_reducible refine r_not ?_)
  | (with_reducible refine r_and ?_)
  | (with_reducible refine r_or ?_)
  | (with_reducible refine r_andV ?_)
  | (with_reducible refine r_orV ?_)
  | (with_reducible refine r_notV ?_)
  | (with_reducible refine r_tif ?_)
  | (with_reducible refine r_iteT ?_)
  | (with_reducible refine r_iteNT ?_)
  | (with_reducible refine r_iteNF ?_)
  | (with_reducible refine r_iteF ?_)
  | (with_reducible refine r_seq ?_)
  | (with_reducible refine r_next ?_)
  | (with_reducible refine r_brk ?_)
  | (with_reducible refine r_cont ?_)
  | (with_reducible refine r_asg ?_)
  | (with_reducible refine r_gname ?_)
  | (with_reducible refine r_ret ?_)
  | (with_reducible refine r_retN ?_)
  | (with_reducible refine r_drop ?_)
  | (with_reducible refine r_if ?_)
  | ((with_reducible refine r_aug (x := ?xx) ?ee ?_); (case ee => exact rfl))
  | (with_reducible refine r_ipI ?_)
  | (with_reducible refine r_augS ?_)
  | (with_reducible refine r_gsub ?_)
  | ((with_reducible refine r_setL (xs := ?xx) (m := ?mm) ?hh ?ee ?_); (case hh => walk_at "hp"); (case ee => exact rfl))
  | (with_reducible refine r_par ?_)
  | (with_reducible refine r_bm ?_)
  | ((with_reducible refine r_tyL (xs := ?xx) ?hh ?_); (case hh => walk_at "hp"))
  | ((with_reducible refine r_append (xs := ?xx) ?hh ?ll ?_); (case hh => walk_at "hp"); (case ll => walk_at "side"))
  | (walk_at "isi")
  | (with_reducible refine r_for ?_)
  | (with_reducible refine r_iList ?_)
  | (with_reducible refine r_iTup ?_)
  | (with_reducible refine r_iR1 ?_)
  | (with_reducible refine r_iR2 ?_)
  | (with_reducible refine r_lc ?_)
  | (with_reducible refine r_yes ?_)
  | ((with_reducible refine r_lenS ?ll ?_); (case ll => walk_at "side"))
  | (with_reducible refine r_leS ?_)
  | (with_reducible refine r_chain ?_)
  | (with_reducible refine r_tM1 ?_)
  | (with_reducible refine r_exS ?_)
  | ((with_reducible refine r_tupL (xs := ?xx) ?hh ?_); (case hh => walk_at "hp"))
  | ((with_reducible refine r_listL (xs := ?xx) ?hh ?_); (case hh => walk_at "hp"))
  | ((with_reducible refine r_listT (xs := ?xx) ?hh ?_); (case hh => walk_at "hp"))
  | ((with_reducible refine r_ixT (v := ?vv) (xs := ?xx) ?hh ?ee ?_); (case hh => (refine SqT.of ?_; walk_at "hp")); (case ee => exact rfl))
  | (with_reducible refine r_sl ?_)
  | (with_reducible refine r_nopart ?_)
  | (with_reducible refine r_part ?_)
  | (with_reducible refine r_exI ?_)
  | ((with_reducible refine r_slL (xs := ?xx) ?hh ?_); (case hh => first | assumption | (refine SqL.of ?_; walk_at "hp") | (refine Same.seq (by assumption) (by assumption))))
  | ((with_reducible refine r_cat (xs := ?xx) (zs := ?zz) ?hh ?ii ?ll ?_); (case hh => walk_at "hp"); (case ii => walk_at "hp"); (case ll => walk_at "side"))
  | ((with_reducible refine r_lenL (xs := ?xx) ?hh ?_); (case hh => walk_at "hp"))
  | ((with_reducible refine r_lenT (xs := ?xx) ?hh ?_); (case hh => walk_at "hp"))
  | ((with_reducible refine r_gTup (xs := ?xx) ?hh ?ll ?_); (case hh => walk_at "hp"); (case ll => exact rfl))
  | (with_reducible refine r_gCons ?_)
  | (with_reducible refine r_gNil ?_)
  | ((with_reducible refine r_iteDT ?cc ?_); (case cc => walk_at "cond"))
  | ((with_reducible refine r_iteDF ?cc ?_); (case cc => walk_at "cond"))
  | ((with_reducible refine r_iteNDT ?cc ?_); (case cc => walk_at "cond"))
  | ((with_reducible refine r_iteNDF ?cc ?_); (case cc => walk_at "cond"))
  ))
local macro_rules | `(tactic| walk_at "go") => `(tactic| repeat (walk_at "s"))

local macro_rules | `(tactic| walk_at "s") => `(tactic| (first
  | (with_reducible refine r_dnew ?_)
  | (with_reducible refine r_dget2 ?_)
  | (with_reducible refine r_dget ?_)
  | (with_reducible refine r_dput ?_)
  | (with_reducible refine r_dsetd ?_)
  | ((with_reducible refine JarAt.isD (n := ?nn) (c := ?cc) ?hh ?_); (case hh => assumption))
  ))

local macro_rules | `(tactic| walk_at "s") => `(tactic| (first
  | (with_reducible refine r_prop ?_)
  | (with_reducible refine r_meth ?_)
  | (with_reducible refine r_make ?_)
  | (with_reducible refine r_fld ?_)
  | (with_reducible refine r_sfld ?_)
  | (with_reducible refine r_iOwn ?_)
  | ((with_reducible refine u_rowsAt (mg := ?mm) (C := ?CC) (dx := ?dd) (fv := ?vv) ?tt ?hh ?_); (case tt => assumption); (case hh => walk_at "hp"))
  | ((with_reducible refine r_isPoly (mg := ?mm) (dx := ?dd) (fs := ?ff) ?tt ?hh ?_); (case tt => assumption); (case hh => walk_at "hp"))
  | ((with_reducible refine r_isPolyI (mg := ?mm) ?tt ?_); (case tt => assumption))
  | ((with_reducible refine r_polyInt (mg := ?mm) (C := ?CC) (dx := ?dd) (fs := ?ff) ?tt ?hh ?_); (case tt => assumption); (case hh => walk_at "hp"))
  ))

local macro_rules | `(tactic| walk_at "s") => `(tactic| (with_reducible refine r_iKeys ?_))
theorem r_revL {te : TE} {σ : L2.St} {H : Hp} {Q : VK} (q : te σ H fun x H1 => ∃ a xs, x = .ref a ∧ SqL K H1 a xs ∧ ∀ p, H1 p = none → Q (.ref p) (upd H1 p (.lst xs.reverse))) : tRevL K te σ H Q := q
theorem r_revLL {H : Hp} {a : Addr} {xs : List V} {R : List V → Addr → Prop} (h : H a = some (.lst xs)) (q : ∀ p, H p = none → R xs p) : ∃ (b : Addr) (ys : List V), V.ref a = .ref b ∧ SqL K H b ys ∧ ∀ p, H p = none → R ys p := ⟨a, xs, rfl, .of h, q⟩
theorem pe_revLK {X : Cx} {e : Expr} {te : TE} {k : Nat} {p1 p2 p3 pos : Pos} (he : PE X e te) (h : X.K = K := by rfl) : PE X (.Subscript e (.Slice none none (some (.UnaryOp .USub (.Constant (.int 1) k p1) p2)) p3) pos) (tRevL K te) := by subst h; exact pe_revL he
local macro_rules | `(tactic| walk_at "s") => `(tactic| (with_reducible refine r_revL ?_))
theorem rows_no {α : Type} {v : α} {m : Str} (h : (m == ("rows" : Str)) = false) : List.lookup m [(("rows" : Str), v)] = none := by rw [List.lookup, h]; rfl
theorem ok_l_made {f : Addr} {fd : FuncData} (F : Fun K "_law_made" "_law_made" s_l_made f fd) (B : Bl mg) (G_Poly : PolyT K mg C) (hc_Poly : HasC P w K mg base "Poly" C 3 ["self", "terms"] (spInit C)) (h_l_pick : Has P w K mg base "_law_pick" 1 ["_law_bag", "_law_many"] spPick)
   (h_l_terms_of : Has P w K mg base "_law_terms_of" 1 ["_law_jar"] spTerms) (hm_Poly___add__ : HasM P w K mg base C "__add__" 6 ["self", "other"] (spPoly2 C fun c d k => c k + d k)) (hm_Poly___neg__ : HasM P w K mg base C "__neg__" 6 ["self"] (spPoly1 C fun ts k => -cof ts k))
   (hm_Poly_mirrored : HasM P w K mg base C "mirrored" 5 ["self"] (spPoly1 C fun ts k => cof ts (-k))) : FnOk P w K mg base CX0 7 f fd ["_law_bag", "_law_jar"] (spMade C) := by
  refine F.ok sc_l_made (fun vs H Q E h => ?_) (fun cdv A outer s H vs Q E hr h => ?_)
  · obtain ⟨a, d, n, c, rfl, _⟩ := h
    rfl
  · obtain ⟨a, d, n, c, rfl, ba, hj, hn, k⟩ := h
    refine ⟨_, (pss_cons (ps_set (i := 2) sc_l_made.nd rfl (.inl rfl) (pe_callH h_l_terms_of (hr.mono (by first | decide | omega)) (pa_cons (pv 1) pa_nil)))
    (pss_cons (ps_set (i := 3) sc_l_made.nd rfl (.inl rfl) (pe_callH h_l_pick (hr.mono (by first | decide | omega)) (pa_cons (pv 0) (pa_cons pe_int pa_nil))))
    (pss_cons (ps_set (i := 4) sc_l_made.nd rfl (.inl rfl) (pe_callH h_l_pick (hr.mono (by first | decide | omega)) (pa_cons (pv 0) (pa_cons (pe_op op_add (pe_callB (call_lenK (K := K)) (by rfl) B.b_len PySem.boot_len (pa_cons (pv 2) pa_nil)) pe_int) pa_nil))))
    (pss_cons (ps_if (pt_cmpR op_eq (pv 3) pe_int (nomark _))
    (pss_one (ps_ret (pe_makeH hc_Poly (hr.mono (by first | decide | omega)) (pa_cons (pe_revLK (K := K) (pv 2)) pa_nil))))
    pss_nil)
    (pss_cons (ps_if (pt_cmpR op_eq (pv 3) pe_int (nomark _))
    (pss_cons (ps_set (i := 5) sc_l_made.nd rfl (.inl rfl) (pe_op op_cat (pe_slice sl_list (pv 2) (po_some (pv 4)) po_none) (pe_slice sl_list (pv 2) po_none (po_some (pv 4)))))
    (pss_cutM (ps_if (pt_cmpR (op_neDK (K := K) hr.units) (pv 5) (pe_lst pa_nil) (nomark _))
    (pss_one (ps_set (i := 5) sc_l_made.nd rfl (.inl rfl) (pe_op op_cat (pe_op op_cat (pe_lst (pa_cons (pe_tup (pa_cons (pe_ix (ix_tupK (K := K)) (pe_ix (ix_listK (K := K)) (pv 5) pe_int (fun _ _ => rfl)) pe_int (fun _ _ => rfl)) (pa_cons (pe_op op_sub (pe_ix (ix_tupK (K := K)) (pe_ix (ix_listK (K := K)) (pv 5) pe_int (fun _ _ => rfl)) pe_int (fun _ _ => rfl)) pe_int) pa_nil))) pa_nil)) (pe_slice sl_list (pv 5) (po_some pe_int) po_none)) (pe_lst (pa_cons (pe_tup (pa_cons (pe_ix (ix_tupK (K := K)) (pe_ix (ix_listK (K := K)) (pv 5) pe_int (fun _ _ => rfl)) pe_int (fun _ _ => rfl)) (pa_cons pe_int pa_nil))) pa_nil)))))
    pss_nil)
    (pss_one (ps_ret (pe_makeH hc_Poly (hr.mono (by first | decide | omega)) (pa_cons (pv 5) pa_nil))))))
    pss_nil)
    (pss_cons (ps_if (pt_cmpR op_eq (pv 3) pe_int (nomark _))
    (pss_one (ps_ret (pe_op (op_own2 (op := .Add) hm_Poly___add__ G_Poly.self (hr.mono (by first | decide | omega))) (pe_makeH hc_Poly (hr.mono (by first | decide | omega)) (pa_cons (pe_slice sl_list (pv 2) (po_some (pv 4)) po_none) pa_nil)) (pe_makeH hc_Poly (hr.mono (by first | decide | omega)) (pa_cons (pe_slice sl_list (pv 2) po_none (po_some (pv 4))) pa_nil)))))
    pss_nil)
    (pss_cons (ps_if (pt_cmpR op_eq (pv 3) pe_int (nomark _))
    (pss_one (ps_ret (pe_un (un_negOwn hm_Poly___neg__ (hr.mono (by first | decide | omega))) (pe_makeH hc_Poly (hr.mono (by first | decide | omega)) (pa_cons (pe_lc (g := (gTup K 2 (gCons (gName 6) (gCons (gName 7) gNil)))) (own := [("_law_deg", 6), ("_law_coef", 7)]) rfl sc_l_made.nd (pi_list (pe_revLK (K := K) (pv 2))) (blkOk_by (N := ["_law_bag", "_law_jar", "_law_rows", "_law_way", "_law_at", "_law_turned", "_law_deg", "_law_coef"]) (sc := defScope s_l_made) (by decide +kernel)) (fun _ _ _ _ _ => (pg_tupK (K := K) rfl (pgs_cons (pg_name (i := 6) sc_l_made.nd rfl (.inl rfl)) (pgs_cons (pg_name (i := 7) sc_l_made.nd rfl (.inl rfl)) pgs_nil)))) (fun _ _ _ _ _ => pts_nil) (fun _ _ _ _ _ => (pe_tup (pa_cons (pv 6) (pa_cons (pe_un un_neg (pv 7)) pa_nil))))) pa_nil)))))
    pss_nil)
    (pss_cons (ps_if (pt_cmpR op_eq (pv 3) pe_int (nomark _))
    (pss_one (ps_ret (pe_meth0H G_Poly.cl hm_Poly_mirrored (hr.mono (by first | decide | omega)) (pe_makeH hc_Poly (hr.mono (by first | decide | omega)) (pa_cons (pe_lc (g := (gTup K 2 (gCons (gName 6) (gCons (gName 7) gNil)))) (own := [("_law_deg", 6), ("_law_coef", 7)]) rfl sc_l_made.nd (pi_list (pv 2)) (blkOk_by (N := ["_law_bag", "_law_jar", "_law_rows", "_law_way", "_law_at", "_law_turned", "_law_deg", "_law_coef"]) (sc := defScope s_l_made) (by decide +kernel)) (fun _ _ _ _ _ => (pg_tupK (K := K) rfl (pgs_cons (pg_name (i := 6) sc_l_made.nd rfl (.inl rfl)) (pgs_cons (pg_name (i := 7) sc_l_made.nd rfl (.inl rfl)) pgs_nil)))) (fun _ _ _ _ _ => pts_nil) (fun _ _ _ _ _ => (pe_tup (pa_cons (pe_un un_neg (pv 6)) (pa_cons (pv 7) pa_nil))))) pa_nil)))))
    pss_nil)
    (pss_one (ps_ret (pe_makeH hc_Poly (hr.mono (by first | decide | omega)) (pa_cons (pv 2) pa_nil)))))))))))), ?_⟩
    walk_at "go"
    refine ⟨d, n, c, rfl, hj, by omega, fun l us H1 nl s1 hus hcu hul htl => ?_⟩
    have b1 := ba.same s1
    have nla : l ≠ a := ba.ne nl
    walk_at "go"
    refine u_pick b1 (by decide) (by decide) fun wy H2 w0 w1 bu2 b2 => ?_
    obtain ⟨vs, hlv, hv⟩ := htl
    have hlv := bu2 _ _ nla hlv
    have hv := hv.tk (Tk.but bu2 b1)
    have hvl := hv.length
    have sB : But a H H2 := (Same.but s1 a).trans bu2
    walk_at "go"
    refine u_pick b2 (by omega) (by omega) fun at_ H3 a0 a1 bu3 b3 => ?_
    have hlv3 := bu3 _ _ nla hlv
    have hv3 := hv.tk (Tk.but bu3 b2)
    have sB3 : But a H H3 := sB.trans bu3
    have cut1 : cutV vs none (some at_) = vs.take at_.toNat := cut_takeI a0
    have cut2 : cutV vs (some at_) none = vs.drop at_.toNat := cut_dropI a0
    have fin : ∀ (b : Addr) (ts : Terms) (H5 : Hp), Same H3 H5 → PolyAt C H5 b ts → (∀ k, cof ts k = cof us k) → ts.length ≤ n + 2 → Q (.ref b) H5 := fun b ts H5 s5 hp hcp hl =>
      k b ts H5 (sB3.trans (Same.but s5 a)) (b3.same s5) hp (fun j => (hcp j).trans (hcu j)) hl
    walk_at "go"
    refine r_iteD (fun h1 => ?_) (fun h1 => ?_)
    · walk_at "go"
      refine r_revLL hlv3 fun l4 nl4 => ?_
      walk_at "go"
      refine u_poly (l := l4) (ts := us.reverse) ⟨_, upd_same, (hv3.tk ((Tk.refl _).new nl4)).reverse⟩ (by rw [List.length_reverse]; omega) fun b ps H5 nb s5 hb hcb hlb => ?_
      exact fin b ps H5 ((Same.new0 nl4).trans s5) hb (fun j => (hcb j).trans (cof_rev us j)) (by rw [List.length_reverse] at hlb; omega)
    · walk_at "go"
      refine r_iteD (fun h2 => ?_) (fun h2 => ?_)
      · walk_at "go"
        intro l4 nl4
        walk_at "go"
        intro l5 nl5
        refine r_cat (h_keep upd_same nl5) upd_same (by rw [cut1, cut2, List.length_take, List.length_drop]; omega) fun l6 nl6 => ?_
        have s6 : Same H3 (upd (upd (upd H3 l4 (.lst (cutV vs (some at_) none))) l5 (.lst (cutV vs none (some at_)))) l6 (.lst (cutV vs (some at_) none ++ cutV vs none (some at_)))) := Same.new (Same.new (Same.new0 nl4) nl5) nl6
        have h6 : (upd (upd (upd H3 l4 (.lst (cutV vs (some at_) none))) l5 (.lst (cutV vs none (some at_)))) l6 (.lst (cutV vs (some at_) none ++ cutV vs none (some at_)))) l6 = some (.lst (vs.drop at_.toNat ++ vs.take at_.toNat)) := by rw [upd_same, cut1, cut2]
        generalize upd (upd (upd H3 l4 (.lst (cutV vs (some at_) none))) l5 (.lst (cutV vs none (some at_)))) l6 (.lst (cutV vs (some at_) none ++ cutV vs none (some at_))) = H6 at *
        have hv6 := hv3.tk (Tk.same s6)
        have hT : TermsL H6 (vs.drop at_.toNat ++ vs.take at_.toNat) (us.drop at_.toNat ++ us.take at_.toNat) := (hv6.drop _).app (hv6.take _)
        have hTc : ∀ j, cof (us.drop at_.toNat ++ us.take at_.toNat) j = cof us j := fun j => by rw [cof_app, Int.add_comm, cof_cut]
        have hTl : (us.drop at_.toNat ++ us.take at_.toNat).length = us.length := by rw [List.length_append, List.length_drop, List.length_take]; omega
        generalize us.drop at_.toNat ++ us.take at_.toNat = us6 at *
        generalize vs.drop at_.toNat ++ vs.take at_.toNat = vs6 at *
        have hv6l := hT.length
        walk_at "go"
        refine r_cut (fun σ' H' => ∃ (l7 : Addr) (ts7 : Terms), σ' = [some (.ref a), some (.ref d), some (.ref l), some (.int wy), some (.int at_), some (.ref l7), none, none] ∧ Same H3 H' ∧ TermsAt H' l7 ts7 ∧ (∀ j, cof ts7 j = cof us j) ∧ ts7.length ≤ us.length + 1) ?_ ?_
        · walk_at "go"
          intro e0 ne0
          refine r_neT (ts := us6) ⟨vs6, h_keep h6 ne0, hT.tk ((Tk.refl _).new ne0)⟩ (.none upd_same) ?_
          have s7 : Same H6 (upd H6 e0 (.lst [])) := Same.new0 ne0
          generalize upd H6 e0 (.lst []) = H7 at *
          have h67 := s7 _ _ h6
          have hT7 := hT.tk (Tk.same s7)
          walk_at "go"
          refine r_iteN (fun hne => ?_) (fun hne => ?_)
          · cases us6 with
            | nil => exact absurd rfl hne
            | cons p us6 =>
            cases vs6 with
            | nil => cases hv6l
            | cons v0 vs6 =>
            obtain ⟨b, p', us', e1, rfl, hb, hrest⟩ := hT7
            cases e1
            walk_at "go"
            refine r_ixL (.of h67) (atI_nil_of (i := 0) rfl rfl) ?_
            walk_at "go"
            refine r_ixL (.of h67) (atI_nil_of (i := 0) rfl rfl) ?_
            walk_at "go"
            intro t nt
            walk_at "go"
            intro m1 nm1
            walk_at "go"
            intro m2 nm2
            have ecut : cutV (V.ref b :: vs6) (some 1) none = vs6 := cut_drop (V.ref b :: vs6) 1
            rw [List.length_cons, List.length_cons] at hv6l
            rw [List.length_cons] at hTl
            refine r_cat (h_keep upd_same nm2) upd_same (by rw [ecut]; simp; omega) fun m3 nm3 => ?_
            walk_at "go"
            refine r_ixL (.of (h_keep (h_keep (h_keep (h_keep h67 nt) nm1) nm2) nm3)) (atI_nil_of (i := 0) rfl rfl) ?_
            walk_at "go"
            intro t2 nt2
            walk_at "go"
            intro m4 nm4
            refine r_cat (h_keep (h_keep upd_same nt2) nm4) upd_same (by rw [ecut]; simp; omega) fun m5 nm5 => ?_
            walk_at "go"
            have s8 := Same.new (o := .lst ([.ref t] ++ cutV (V.ref b :: vs6) (some 1) none ++ [.ref t2])) (Same.new (o := .lst [.ref t2]) (Same.new (o := .tup [.int p.1, .int 5]) (Same.new (o := .lst ([.ref t] ++ cutV (V.ref b :: vs6) (some 1) none)) (Same.new (o := .lst (cutV (V.ref b :: vs6) (some 1) none)) (Same.new (o := .lst [.ref t]) (Same.new0 (o := .tup [.int p.1, .int (p.2 - 5)]) nt) nm1) nm2) nm3) nt2) nm4) nm5
            refine ⟨m5, (p.1, p.2 - 5) :: (us6 ++ [(p.1, 5)]), rfl, s6.trans (s7.trans s8), ⟨_, upd_same, ?_⟩, fun j => ?_, by simp; omega⟩
            · rw [ecut]
              have hE := hrest.tk (Tk.same s8)
              rw [ecut] at hE nm3 nt2 nm4 nm5
              exact ⟨t, _, _, rfl, rfl, h_keep (h_keep (h_keep (h_keep (h_keep (h_keep upd_same nm1) nm2) nm3) nt2) nm4) nm5, hE.app (.one (h_keep (h_keep upd_same nm4) nm5))⟩
            · rw [← hTc j, cof, cof_app, cof, cof, cof]
              show (if p.1 = j then p.2 - 5 else 0) + (cof us6 j + ((if p.1 = j then 5 else 0) + 0)) = _
              split <;> omega
          · walk_at "go"
            exact ⟨l6, us6, rfl, s6.trans s7, ⟨vs6, h67, hT7⟩, hTc, by omega⟩
        · rintro σ' H7 ⟨l7, ts7, rfl, s7, ht7, hc7, hl7⟩
          walk_at "go"
          refine u_poly (l := l7) ht7 (by omega) fun b ps H8 nb s8 hb hcb hlb => ?_
          exact fin b ps H8 (s7.trans s8) hb (fun j => (hcb j).trans (hc7 j)) (by omega)
      · walk_at "go"
        refine r_iteD (fun h3 => ?_) (fun h3 => ?_)
        · walk_at "go"
          intro l4 nl4
          walk_at "go"
          have s4 : Same H3 (upd H3 l4 (.lst (cutV vs (some at_) none))) := Same.new0 nl4
          have h4 : (upd H3 l4 (.lst (cutV vs (some at_) none))) l4 = some (.lst (vs.drop at_.toNat)) := by rw [upd_same, cut2]
          generalize upd H3 l4 (.lst (cutV vs (some at_) none)) = H4 at *
          have hv4 := hv3.tk (Tk.same s4)
          have hlv4 := s4 _ _ hlv3
          refine u_poly (l := l4) (ts := us.drop at_.toNat) ⟨_, h4, hv4.drop _⟩ (by rw [List.length_drop]; omega) fun b ps H5 nb s5 hb hcb hlb => ?_
          have hlv5 := s5 _ _ hlv4
          have hv5 := hv4.tk (Tk.same s5)
          walk_at "go"
          intro l6 nl6
          walk_at "go"
          have s6 : Same H5 (upd H5 l6 (.lst (cutV vs none (some at_)))) := Same.new0 nl6
          have h6 : (upd H5 l6 (.lst (cutV vs none (some at_)))) l6 = some (.lst (vs.take at_.toNat)) := by rw [upd_same, cut1]
          generalize upd H5 l6 (.lst (cutV vs none (some at_))) = H6 at *
          refine u_poly (l := l6) (ts := us.take at_.toNat) ⟨_, h6, (hv5.tk (Tk.same s6)).take _⟩ (by rw [List.length_take]; omega) fun b' ps' H7 nb' s7 hb' hcb' hlb' => ?_
          have hb7 := hb.same (s6.trans s7)
          obtain ⟨dx1, r1, v1, g1, _⟩ := id hb7
          obtain ⟨dx2, r2, v2, g2, _⟩ := id hb'
          rw [List.length_drop] at hlb
          rw [List.length_take] at hlb'
          refine ⟨b, dx1, _, b', dx2, _, rfl, rfl, g1, g2, b, ps, .ref b', cof ps', ps'.length, rfl, hb7, .inl ⟨b', ps', rfl, hb', fun _ => rfl, Nat.le_refl _⟩, by omega, fun q qs H8 s8 hq hcq hlq => ?_⟩
          refine fin q qs H8 (s4.trans (s5.trans (s6.trans (s7.trans s8)))) hq (fun j => ?_) (by omega)
          rw [hcq]
          show cof ps j + cof ps' j = _
          rw [hcb, hcb', Int.add_comm, cof_cut]
        · walk_at "go"
          refine r_iteD (fun h4 => ?_) (fun h4 => ?_)
          · walk_at "go"
            refine r_revLL hlv3 fun l4 nl4 => ?_
            have s4 : Same H3 (upd H3 l4 (.lst vs.reverse)) := Same.new0 nl4
            have h4' : (upd H3 l4 (.lst vs.reverse)) l4 = some (.lst vs.reverse) := upd_same
            generalize upd H3 l4 (.lst vs.reverse) = H4 at *
            have hv4 := (hv3.tk (Tk.same s4)).reverse
            refine u_lcL (.of h4') (fun D i acc H2 => (TermsL H2 acc (negT (us.reverse.take i)) ∧ i ≤ vs.reverse.length) ∧ Same H4 H2) ?_ ?_ ?_ ?_
            · exact fun D hD => ⟨⟨rfl, Nat.zero_le _⟩, Same.new0 hD⟩
            · exact fun D i acc H2 _ _ ⟨_, s1⟩ => .of (s1 _ _ h4')
            · rintro D i x acc H2 hD hx hacc ⟨⟨ht2, hi0⟩, s1⟩
              obtain ⟨b, p, rfl, hp, hb⟩ := hv4.at i hx
              have hi2 := (List.getElem?_eq_some_iff.mp hx).1
              have hb2 := s1 _ _ hb
              have et : us.reverse.take (i + 1) = us.reverse.take i ++ [p] := by rw [List.take_succ, hp]; rfl
              have al : acc.length ≤ i := by
                rw [ht2.length, negT, List.length_map, List.length_take]; omega
              rw [List.length_reverse] at hi2
              walk_at "go"
              refine ⟨rfl, ?_⟩
              walk_at "go"
              intro t nt
              refine u_push (h_keep hacc nt) (by omega) ⟨⟨?_, by rw [List.length_reverse]; exact hi2⟩, Same.put (Same.new s1 nt) hD⟩
              have t1 : Tk H2 (upd (upd H2 t (.tup [.int p.1, .int (-p.2)])) D (.lst (acc ++ [.ref t]))) := ((Tk.refl _).new nt).lst (h_keep hacc nt)
              rw [et, negT, List.map_append]
              exact (ht2.tk t1).app (.one ((upd_ne (ne_of_none hacc nt).symm).trans upd_same))
            · rintro D acc H5 hD hacc ⟨⟨ht5, hi0⟩, s5⟩
              rw [List.take_of_length_le (by rw [List.length_reverse, List.length_reverse]; omega)] at ht5
              walk_at "go"
              have hnl : (negT us.reverse).length = us.length := by rw [negT, List.length_map, List.length_reverse]
              refine u_poly (l := D) (ts := negT us.reverse) ⟨acc, hacc, ht5⟩ (by omega) fun b ps H6 nb s6 hb hcb hlb => ?_
              obtain ⟨dx1, r1, v1, g1, _⟩ := id hb
              refine ⟨b, dx1, _, rfl, g1, b, ps, rfl, hb, by omega, fun q qs H7 s7 hq hcq hlq => ?_⟩
              refine fin q qs H7 (s4.trans (s5.trans (s6.trans s7))) hq (fun j => ?_) (by omega)
              rw [hcq]
              show -cof ps j = _
              rw [hcb, cof_neg, cof_rev]; omega
          · walk_at "go"
            refine r_iteD (fun h5 => ?_) (fun h5 => ?_)
            · walk_at "go"
              refine u_lcL (.of hlv3) (fun D i acc H2 => (TermsL H2 acc (mirT (us.take i)) ∧ i ≤ vs.length) ∧ Same H3 H2) ?_ ?_ ?_ ?_
              · exact fun D hD => ⟨⟨rfl, Nat.zero_le _⟩, Same.new0 hD⟩
              · exact fun D i acc H2 _ _ ⟨_, s1⟩ => .of (s1 _ _ hlv3)
              · rintro D i x acc H2 hD hx hacc ⟨⟨ht2, hi0⟩, s1⟩
                obtain ⟨b, p, rfl, hp, hb⟩ := hv3.at i hx
                have hi2 := (List.getElem?_eq_some_iff.mp hx).1
                have hb2 := s1 _ _ hb
                have et : us.take (i + 1) = us.take i ++ [p] := by rw [List.take_succ, hp]; rfl
                have al : acc.length ≤ i := by
                  rw [ht2.length, mirT, List.length_map, List.length_take]; omega
                walk_at "go"
                refine ⟨rfl, ?_⟩
                walk_at "go"
                intro t nt
                refine u_push (h_keep hacc nt) (by omega) ⟨⟨?_, hi2⟩, Same.put (Same.new s1 nt) hD⟩
                have t1 : Tk H2 (upd (upd H2 t (.tup [.int (-p.1), .int p.2])) D (.lst (acc ++ [.ref t]))) := ((Tk.refl _).new nt).lst (h_keep hacc nt)
                rw [et, mirT, List.map_append]
                exact (ht2.tk t1).app (.one ((upd_ne (ne_of_none hacc nt).symm).trans upd_same))
              · rintro D acc H5 hD hacc ⟨⟨ht5, hi0⟩, s5⟩
                rw [List.take_of_length_le (by omega)] at ht5
                walk_at "go"
                have hnl : (mirT us).length = us.length := by rw [mirT, List.length_map]
                refine u_poly (l := D) (ts := mirT us) ⟨acc, hacc, ht5⟩ (by omega) fun b ps H6 nb s6 hb hcb hlb => ?_
                obtain ⟨dx1, r1, v1, g1, _⟩ := id hb
                refine ⟨b, dx1, _, rfl, g1, rows_no (m := "mirrored") (by decide +kernel), ?_⟩
                walk_at "go"
                refine ⟨b, ps, rfl, hb, by omega, fun q qs H7 s7 hq hcq hlq => ?_⟩
                refine fin q qs H7 (s5.trans (s6.trans s7)) hq (fun j => ?_) (by omega)
                rw [hcq]
                show cof ps (-j) = _
                rw [hcb, cof_mir, Int.neg_neg]
            · walk_at "go"
              refine u_poly (l := l) (ts := us) ⟨vs, hlv3, hv3⟩ (by omega) fun b ps H6 nb s6 hb hcb hlb => ?_
              exact fin b ps H6 s6 hb hcb (by omega)
end
end My

set_option Elab.async false
set_option linter.all false
set_option maxRecDepth 100000
set_option maxHeartbeats 8000000
set_option pp.deepTerms false
set_option pp.deepTerms.threshold 12
set_option pp.maxSteps 1200

namespace My
open PySem PySem.Spec PyProof.Rows L2
theorem pm_one {r : Int} (h0 : 0 ≤ r) (h1 : r < 2) : 1 - 2 * r = 1 ∨ 1 - 2 * r = -1 := by omega
/-- the numbers of a product of two divisors -/
theorem DivC.mul {c d : Int → Int} {v w : Int} {M N : Nat} {ts us : Terms} (hc : ∀ k, cof ts k = c k) (hd : ∀ k, cof us k = d k) (ct : Canon ts) (cu : Canon us) (h : DivC c v M) (g : DivC d w N) (L : Nat) (hL : ts.length * (M * N) ≤ L) : DivC (mulF c d) (v + w) L := by
  have dt := h.divT ct hc
  have hsup : ∀ p ∈ ts, 0 ≤ p.1 ∧ p.1 ≤ v := fun p hp => by
    have n := ct.nz p hp
    rw [← ct.at hp, hc] at n
    exact ⟨Int.not_lt.mp fun z => n (h.low _ z), Int.not_lt.mp fun z => n (h.high _ z)⟩
  have z : ∀ k, mulF c d k = cmul ts d k := fun k => by rw [mulF_of hc hd, cmul_extr ts k hd]
  have e0 : mulF c d 0 = c 0 * d 0 := by
    rw [z, cmul_single (j := 0) ts fun p hp hne => g.low _ (by have := hsup p hp; omega), hc]; rfl
  have ew : mulF c d (v + w) = c v * d w := by
    rw [z, cmul_single (j := v) ts fun p hp hne => g.high _ (by have := hsup p hp; omega), hc, show v + w - v = w by omega]
  refine ⟨by have := h.w0; have := g.w0; omega, ?_, ?_, fun k hk => ?_, fun k hk => ?_, fun k => ?_⟩
  · rw [e0]; rcases h.e0 with a | a <;> rcases g.e0 with b | b <;> rw [a, b] <;> decide
  · rw [ew]; rcases h.ew with a | a <;> rcases g.ew with b | b <;> rw [a, b] <;> decide
  · rw [z]
    have key : ∀ (l : Terms), (∀ p ∈ l, 0 ≤ p.1) → cmul l d k = 0 := by
      intro l
      induction l with
      | nil => intro _; rfl
      | cons p l ih => intro hp; rw [cmul, ih fun q hq => hp q (.tail _ hq), g.low _ (by have := hp p (.head _); omega)]; simp
    exact key ts fun p hp => (hsup p hp).1
  · rw [z]
    have key : ∀ (l : Terms), (∀ p ∈ l, p.1 ≤ v) → cmul l d k = 0 := by
      intro l
      induction l with
      | nil => intro _; rfl
      | cons p l ih => intro hp; rw [cmul, ih fun q hq => hp q (.tail _ hq), g.high _ (by have := hp p (.head _); omega)]; simp
    exact key ts fun p hp => (hsup p hp).2
  · rw [z]
    exact Nat.le_trans (cmul_le g.bd k (ct.num fun j => by rw [hc]; exact h.bd j)) hL
section
variable {P : Program} {w : World} {K : PySem.W.Frag} {mg : Str → Option Value} {base : Heap} {C : Addr}
local macro_rules | `(tactic| walk_at "isi") => `(tactic| (first
  | (with_reducible refine r_is_int_int ?_)
  | (with_reducible refine r_is_int_bool ?_)
  | (with_reducible refine r_is_int_str ?_)
  | (with_reducible refine r_is_int_list ?_)
  | (with_reducible refine r_is_int_tuple ?_)
  | (with_reducible refine r_is_bool_int ?_)
  | (with_reducible refine r_is_bool_bool ?_)
  | (with_reducible refine r_is_bool_str ?_)
  | (with_reducible refine r_is_bool_list ?_)
  | (with_reducible refine r_is_bool_tuple ?_)
  | (with_reducible refine r_is_str_int ?_)
  | (with_reducible refine r_is_str_bool ?_)
  | (with_reducible refine r_is_str_str ?_)
  | (with_reducible refine r_is_str_list ?_)
  | (with_reducible refine r_is_str_tuple ?_)
  | ((with_reducible refine r_is_list_int (xs := ?xx) ?hh ?_); (case hh => walk_at "hp"))
  | ((with_reducible refine r_is_list_bool (xs := ?xx) ?hh ?_); (case hh => walk_at "hp"))
  | ((with_reducible refine r_is_list_str (xs := ?xx) ?hh ?_); (case hh => walk_at "hp"))
  | ((with_reducible refine r_is_list_list (xs := ?xx) ?hh ?_); (case hh => walk_at "hp"))
  | ((with_reducible refine r_is_list_tuple (xs := ?xx) ?hh ?_); (case hh => walk_at "hp"))
  | ((with_reducible refine r_is_tuple_int (xs := ?xx) ?hh ?_); (case hh => walk_at "hp"))
  | ((with_reducible refine r_is_tuple_bool (xs := ?xx) ?hh ?_); (case hh => walk_at "hp"))
  | ((with_reducible refine r_is_tuple_str (xs := ?xx) ?hh ?_); (case hh => walk_at "hp"))
  | ((with_reducible refine r_is_tuple_list (xs := ?xx) ?hh ?_); (case hh => walk_at "hp"))
  | ((with_reducible refine r_is_tuple_tuple (xs := ?xx) ?hh ?_); (case hh => walk_at "hp"))
  | (with_reducible refine r_is_NoneType_int ?_)
  | (with_reducible refine r_is_NoneType_bool ?_)
  | (with_reducible refine r_is_NoneType_str ?_)
  | (with_reducible refine r_is_NoneType_list ?_)
  | (with_reducible refine r_is_NoneType_tuple ?_)))
local macro_rules | `(tactic| walk_at "ne") => `(tactic| first | assumption | (refine Ne.symm ?_; assumption) | exact Bag.ne (by assumption) (by assumption) | exact ne_of_none (by assumption) (by assumption))
local macro_rules | `(tactic| walk_at "hp") => `(tactic| (first
  | assumption
  | exact upd_same
  | (refine h_keep ?_ (by assumption); walk_at "hp")
  | (refine (upd_ne (by walk_at "ne")).trans ?_; walk_at "hp")
  | (refine Same.at (by assumption) ?_; walk_at "hp")
  | (refine But.at (by assumption) (by walk_at "ne") ?_; walk_at "hp")
  | (refine But2.at (by assumption) (by walk_at "ne") (by walk_at "ne") ?_; walk_at "hp")))
local macro_rules | `(tactic| walk_at "side") => `(tactic| first | assumption | omega | (refine ⟨?_, ?_⟩ <;> first | assumption | omega | decide) | decide | (refine ⟨by decide, by decide, by decide⟩) | (left; refine ⟨?_, ?_⟩ <;> first | omega | decide) | (right; refine ⟨?_, ?_⟩ <;> first | omega | decide) | (simp; done))
local macro_rules | `(tactic| walk_at "cond") => `(tactic| first | assumption | exact rfl | omega | (simp only [List.length_cons, List.length_nil]; omega) | decide +kernel)
local macro_rules | `(tactic| walk_at "s") => `(tactic| (first
  | ((with_reducible refine r_var (v := ?vv) ?ee ?_); (case ee => exact rfl))
  | (with_reducible refine r_c ?_)
  | (with_reducible refine r_op ?_)
  | (with_reducible refine r_un ?_)
  | (with_reducible refine r_rI0 ?_)
  | ((with_reducible refine r_rI ?cc ?_); (case cc => walk_at "side"))
  | (with_reducible refine r_rU ?_)
  | (with_reducible refine r_eqI ?_)
  | (with_reducible refine r_neI ?_)
  | (with_reducible refine r_eqB ?_)
  | (with_reducible refine r_neB ?_)
  | (with_reducible refine r_eqS ?_)
  | (with_reducible refine r_neS ?_)
  | ((with_reducible refine r_eq ?ee ?_); (case ee => exact rfl))
  | ((with_reducible refine r_ne ?ee ?_); (case ee => exact rfl))
  | ((with_reducible refine r_ixL (v := ?vv) (xs := ?xx) ?hh ?ee ?_); (case hh => (refine SqL.of ?_; walk_at "hp")); (case ee => exact rfl))
  | (with_reducible refine r_cb ?_)
  | (with_reducible refine r_call ?_)
  | (with_reducible refine r_cons ?_)
  | (with_reducible refine r_nil ?_)
  | (with_reducible refine r_lst ?_)
  | (with_reducible refine r_tup ?_)
  | ((with_reducible refine r_new ?cc ?_); (case cc => walk_at "side"))
  | (with_reducible refine r_exbl ?_)
  | (with_reducible refine r_exint ?_)
  | (with_reducible refine r_exint2 ?_)
  | (with_reducible refine r_exblL ?_)
  | (with_reducible refine r_ex2 ?_)
  | (with_reducible refine r_test ?_)
  | (with_reducible refine r_tB ?_)
  | (with_reducible refine r_not ?_)
  | (with_reducible refine r_and ?_)
  | (with_reducible refine r_or ?_)
  | (with_reducible refine r_andV ?_)
  | (with_reducible refine r_orV ?_)
  | (with_reducible refine r_notV ?_)
  | (with_reducible refine r_tif ?_)
  | (with_reducible refine r_iteT ?_)
  | (with_reducible refine r_iteNT ?_)
  | (with_reducible refine r_iteNF ?_)
  | (with_reducible refine r_iteF ?_)
  | (with_reducible refine r_seq ?_)
  | (with_reducible refine r_next ?_)
  | (with_reducible refine r_brk ?_)
  | (with_reducible refine r_cont ?_)
  | (with_reducible refine r_asg ?_)
  | (with_reducible refine r_gname ?_)
  | (with_reducible refine r_ret ?_)
  | (with_reducible refine r_retN ?_)
  | (with_reducible refine r_drop ?_)
  | (with_reducible refine r_if ?_)
  | ((with_reducible refine r_aug (x := ?xx) ?ee ?_); (case ee => exact rfl))
  | (with_reducible refine r_ipI ?_)
  | (with_reducible refine r_augS ?_)
  | (with_reducible refine r_gsub ?_)
  | ((with_reducible refine r_setL (xs := ?xx) (m := ?mm) ?hh ?ee ?_); (case hh => walk_at "hp"); (case ee => exact rfl))
  | (with_reducible refine r_par ?_)
  | (with_reducible refine r_bm ?_)
  | ((with_reducible refine r_tyL (xs := ?xx) ?hh ?_); (case hh => walk_at "hp"))
  | ((with_reducible refine r_append (xs := ?xx) ?hh ?ll ?_); (case hh => walk_at "hp"); (case ll => walk_at "side"))
  | (walk_at "isi")
  | (with_reducible refine r_for ?_)
  | (with_reducible refine r_iList ?_)
  | (with_reducible refine r_iTup ?_)
  | (with_reducible refine r_iR1 ?_)
  | (with_reducible refine r_iR2 ?_)
  | (with_reducible refine r_lc ?_)
  | (with_reducible refine r_yes ?_)
  | ((with_reducible refine r_lenS ?ll ?_); (case ll => walk_at "side"))
  | (with_reducible refine r_leS ?_)
  | (with_reducible refine r_chain ?_)
  | (with_reducible refine r_tM1 ?_)
  | (with_reducible refine r_exS ?_)
  | ((with_reducible refine r_tupL (xs := ?xx) ?hh ?_); (case hh => walk_at "hp"))
  | ((with_reducible refine r_listL (xs := ?xx) ?hh ?_); (case hh => walk_at "hp"))
  | ((with_reducible refine r_listT (xs := ?xx) ?hh ?_); (case hh => walk_at "hp"))
  | ((with_reducible refine r_ixT (v := ?vv) (xs := ?xx) ?hh ?ee ?_); (case hh => (refine SqT.of ?_; walk_at "hp")); (case ee => exact rfl))
  | (with_reducible refine r_sl ?_)
  | (with_reducible refine r_nopart ?_)
  | (with_reducible refine r_part ?_)
  | (with_reducible refine r_exI ?_)
  | ((with_reducible refine r_slL (xs := ?xx) ?hh ?_); (case hh => first | assumption | (refine SqL.of ?_; walk_at "hp") | (refine Same.seq (by assumption) (by assumption))))
  | ((with_reducible refine r_cat (xs := ?xx) (zs := ?zz) ?hh ?ii ?ll ?_); (case hh => walk_at "hp"); (case ii => walk_at "hp"); (case ll => walk_at "side"))
  | ((with_reducible refine r_lenL (xs := ?xx) ?hh ?_); (case hh => walk_at "hp"))
  | ((with_reducible refine r_lenT (xs := ?xx) ?hh ?_); (case hh => walk_at "hp"))
  | ((with_reducible refine r_gTup (xs := ?xx) ?hh ?ll ?_); (case hh => walk_at "hp"); (case ll => exact rfl))
  | (with_reducible refine r_gCons ?_)
  | (with_reducible refine r_gNil ?_)
  | ((with_reducible refine r_iteDT ?cc ?_); (case cc => walk_at "cond"))
  | ((with_reducible refine r_iteDF ?cc ?_); (case cc => walk_at "cond"))
  | ((with_reducible refine r_iteNDT ?cc ?_); (case cc => walk_at "cond"))
  | ((with_reducible refine r_iteNDF ?cc ?_); (case cc => walk_at "cond"))
  ))
local macro_rules | `(tactic| walk_at "go") => `(tactic| repeat (walk_at "s"))

local macro_rules | `(tactic| walk_at "s") => `(tactic| (first
  | (with_reducible refine r_dnew ?_)
  | (with_reducible refine r_dget2 ?_)
  | (with_reducible refine r_dget ?_)
  | (with_reducible refine r_dput ?_)
  | (with_reducible refine r_dsetd ?_)
  | ((with_reducible refine JarAt.isD (n := ?nn) (c := ?cc) ?hh ?_); (case hh => assumption))
  ))

local macro_rules | `(tactic| walk_at "s") => `(tactic| (first
  | (with_reducible refine r_prop ?_)
  | (with_reducible refine r_meth ?_)
  | (with_reducible refine r_make ?_)
  | (with_reducible refine r_fld ?_)
  | (with_reducible refine r_sfld ?_)
  | (with_reducible refine r_iOwn ?_)
  | ((with_reducible refine u_rowsAt (mg := ?mm) (C := ?CC) (dx := ?dd) (fv := ?vv) ?tt ?hh ?_); (case tt => assumption); (case hh => walk_at "hp"))
  | ((with_reducible refine r_isPoly (mg := ?mm) (dx := ?dd) (fs := ?ff) ?tt ?hh ?_); (case tt => assumption); (case hh => walk_at "hp"))
  | ((with_reducible refine r_isPolyI (mg := ?mm) ?tt ?_); (case tt => assumption))
  | ((with_reducible refine r_polyInt (mg := ?mm) (C := ?CC) (dx := ?dd) (fs := ?ff) ?tt ?hh ?_); (case tt => assumption); (case hh => walk_at "hp"))
  ))

local macro_rules | `(tactic| walk_at "s") => `(tactic| (first
  | (with_reducible refine rl_disp ?_)
  | (with_reducible refine rl_pc ?_)
  | (with_reducible refine rl_pn ?_)
  ))
theorem ok_l_less {f : Addr} {fd : FuncData} (F : Fun K "_law_less" "_law_less" s_l_less f fd) (h_l_pick : Has P w K mg base "_law_pick" 1 ["_law_bag", "_law_many"] spPick) (h_l_great_int : Has P w K mg base "_law_great_int" 2 ["_law_bag", "_law_digits"] spGreat) : FnOk P w K mg base CX0 3 f fd ["_law_bag"] spLess := by
  refine F.ok sc_l_less (fun vs H Q E h => ?_) (fun cdv A outer s H vs Q E hr h => ?_)
  · obtain ⟨a, rfl, _⟩ := h
    rfl
  · obtain ⟨a, rfl, ba, k⟩ := h
    have hBN : (1000 : Int) ≤ BN := by decide +kernel
    refine ⟨_, (pss_cons (ps_set (i := 1) sc_l_less.nd rfl (.inl rfl) (pe_callH h_l_pick (hr.mono (by first | decide | omega)) (pa_cons (pv 0) (pa_cons pe_int pa_nil))))
    (pss_cons (ps_if (pt_cmpR op_eq (pv 1) pe_int (nomark _))
    (pss_one (ps_ret (pe_op op_sub (pe_callH h_l_pick (hr.mono (by first | decide | omega)) (pa_cons (pv 0) (pa_cons pe_int pa_nil))) pe_int)))
    pss_nil)
    (pss_cons (ps_if (pt_cmpR op_eq (pv 1) pe_int (nomark _))
    (pss_one (ps_ret (pe_op op_sub (pe_callH h_l_pick (hr.mono (by first | decide | omega)) (pa_cons (pv 0) (pa_cons pe_int pa_nil))) pe_int)))
    pss_nil)
    (pss_one (ps_ret (pe_op op_mul (pe_op op_sub pe_int (pe_op op_mul pe_int (pe_callH h_l_pick (hr.mono (by first | decide | omega)) (pa_cons (pv 0) (pa_cons pe_int pa_nil))))) (pe_callH h_l_great_int (hr.mono (by first | decide | omega)) (pa_cons (pv 0) (pa_cons pe_int pa_nil))))))))), ?_⟩
    walk_at "go"
    refine u_pick ba (by decide) (by decide) fun m H1 m0 m1 bu1 b1 => ?_
    walk_at "go"
    refine r_iteD (fun h1 => ?_) (fun h1 => ?_)
    · walk_at "go"
      refine u_pick b1 (by decide) (by decide) fun q H2 q0 q1 bu2 b2 => ?_
      walk_at "go"
      exact k _ H2 (by omega) (by omega) (bu1.trans bu2) b2
    · walk_at "go"
      refine r_iteD (fun h2 => ?_) (fun h2 => ?_)
      · walk_at "go"
        refine u_pick b1 (by decide) (by decide) fun q H2 q0 q1 bu2 b2 => ?_
        walk_at "go"
        exact k _ H2 (by omega) (by omega) (bu1.trans bu2) b2
      · walk_at "go"
        refine u_pick b1 (by decide) (by decide) fun r H2 r0 r1 bu2 b2 => ?_
        walk_at "go"
        refine ⟨a, 30, rfl, b2, by decide, by decide, fun q H3 q0 q1 bu3 b3 => ?_⟩
        have q2 : q < BN := Int.lt_of_lt_of_le q1 (by decide +kernel)
        walk_at "go"
        refine k _ H3 ?_ ?_ (bu1.trans (bu2.trans bu3)) b3
        · rcases (by omega : r = 0 ∨ r = 1) with rfl | rfl <;> omega
        · rcases (by omega : r = 0 ∨ r = 1) with rfl | rfl <;> omega
theorem ok_l_divisor_of {f : Addr} {fd : FuncData} (F : Fun K "_law_divisor_of" "_law_divisor_of" s_l_divisor_of f fd) (B : Bl mg) (h_l_pick : Has P w K mg base "_law_pick" 1 ["_law_bag", "_law_many"] spPick) : FnOk P w K mg base CX0 2 f fd ["_law_bag", "_law_top"] spDivisorOf := by
  refine F.ok sc_l_divisor_of (fun vs H Q E h => ?_) (fun cdv A outer s H vs Q E hr h => ?_)
  · obtain ⟨b, t, rfl, _⟩ := h
    rfl
  · obtain ⟨b, t, rfl, ba, t0, t1, k⟩ := h
    refine ⟨_, (pss_cons (ps_set (i := 2) sc_l_divisor_of.nd rfl (.inl rfl) (pe_disp (pps_cons pe_int (pe_op op_sub pe_int (pe_op op_mul pe_int (pe_callH h_l_pick (hr.mono (by first | decide | omega)) (pa_cons (pv 0) (pa_cons pe_int pa_nil))))) pps_nil) rfl rfl (fun h => nomatch h) (by decide)))
    (pss_cons (ps_for PassesOwn.never rfl (pi_range1 (by rfl) B.b_range (pa_cons (pe_callH h_l_pick (hr.mono (by first | decide | omega)) (pa_cons (pv 0) (pa_cons pe_int pa_nil))) pa_nil)) (pg_name (i := 3) sc_l_divisor_of.nd rfl (.inl rfl))
    (pss_one (ps_if (pt_cmpR op_gt (pv 1) pe_int (nomark _))
    (pss_one (ps_dput (hu_of hr) (pv 2) (pe_op op_add pe_int (pe_callH h_l_pick (hr.mono (by first | decide | omega)) (pa_cons (pv 0) (pa_cons (pe_op op_sub (pv 1) pe_int) pa_nil)))) (pe_ix (ix_listK (K := K)) (pe_lst (pa_cons (pe_op op_sub (pe_callH h_l_pick (hr.mono (by first | decide | omega)) (pa_cons (pv 0) (pa_cons pe_int pa_nil))) pe_int) (pa_cons (pe_op op_sub (pe_callH h_l_pick (hr.mono (by first | decide | omega)) (pa_cons (pv 0) (pa_cons pe_int pa_nil))) pe_int) pa_nil))) (pe_callH h_l_pick (hr.mono (by first | decide | omega)) (pa_cons (pv 0) (pa_cons pe_int pa_nil))) (fun _ _ => rfl)) rfl))
    pss_nil)))
    (pss_cons (ps_if (pt_cmpR op_gt (pv 1) pe_int (nomark _))
    (pss_one (ps_dput (hu_of hr) (pv 2) (pv 1) (pe_op op_sub pe_int (pe_op op_mul pe_int (pe_callH h_l_pick (hr.mono (by first | decide | omega)) (pa_cons (pv 0) (pa_cons pe_int pa_nil))))) rfl))
    pss_nil)
    (pss_one (ps_ret (pv 2)))))), ?_⟩
    walk_at "go"
    intro j nj
    walk_at "go"
    refine u_pick (ba.keep nj) (by decide) (by decide) fun r H1 r0 r1 bu1 b1 => ?_
    have jb : j ≠ b := ba.ne nj
    have hj1 := bu1 _ _ jb upd_same
    walk_at "go"
    refine ⟨hj1, [(.inl 0, .int (1 - 2 * r))], rfl, by simp, ?_⟩
    have hj : JarIn (upd H1 j (.dK (mergeK [] [(.inl 0, .int (1 - 2 * r))]))) j 0 t (fun k => if k = 0 then 1 - 2 * r else 0) := by
      refine ⟨[(.inl 0, .int (1 - 2 * r))], upd_same, JarK.nil.put 0 _, fun p hp => ?_, fun k => ?_⟩
      · rw [List.mem_singleton.mp hp]
        exact ⟨0, rfl, by omega, by omega⟩
      · exact (cfK_put [] 0 _ k).trans rfl
    have bA : But b H (upd H1 j (.dK (mergeK [] [(.inl 0, .int (1 - 2 * r))]))) := But.put (((But.refl b H).new nj).trans bu1) nj
    have b2 : Bag (upd H1 j (.dK (mergeK [] [(.inl 0, .int (1 - 2 * r))]))) b := Bag.upd b1 jb.symm
    generalize upd H1 j (.dK (mergeK [] [(.inl 0, .int (1 - 2 * r))])) = H2 at *
    walk_at "go"
    refine u_pick b2 (by decide) (by decide) fun n H3 n0 n1 bu3 b3 => ?_
    walk_at "go"
    refine u_for1 ⟨by omega, by omega⟩ (fun i σ H' => ∃ (c : Int → Int) (y3 : Option V), σ = [some (.ref b), some (.int t), some (.ref j), y3] ∧ JarIn H' j 0 t c ∧ (c 0 = 1 ∨ c 0 = -1) ∧ (∀ k, (c k).natAbs ≤ 999) ∧ But b H H' ∧ Bag H' b) ?_ ?_ ?_
    · refine ⟨_, _, rfl, hj.but jb bu3, ?_, fun k => ?_, bA.trans bu3, b3⟩
      · rw [if_pos rfl]; exact pm_one r0 r1
      · split
        · rcases pm_one r0 r1 with e | e <;> rw [e] <;> decide
        · decide
    · rintro i σ H' hi ⟨c, y3, rfl, hj', c0, cb, bu, bg⟩
      walk_at "go"
      refine r_iteD (fun h1 => ?_) (fun h1 => ?_)
      · walk_at "go"
        refine u_pick bg (by decide) (by decide) fun r1 H4 p0 p1 bu4 b4 => ?_
        walk_at "go"
        refine u_pick b4 (by decide) (by decide) fun r2 H5 q0 q1 bu5 b5 => ?_
        walk_at "go"
        intro l nl
        have lb := b5.ne nl
        walk_at "go"
        refine u_pick (b5.keep nl) (by decide) (by decide) fun r3 H6 s0 s1 bu6 b6 => ?_
        have hl6 := bu6 _ _ lb upd_same
        obtain ⟨v, ev, v1⟩ : ∃ v : Int, atI [V.int (r1 - 1), V.int (r2 - 999)] r3 = some (.int v) ∧ v.natAbs ≤ 999 := by
          rcases (by omega : r3 = 0 ∨ r3 = 1) with rfl | rfl
          · exact ⟨_, rfl, by omega⟩
          · exact ⟨_, rfl, by omega⟩
        have buA : But b H' H6 := ((bu4.trans bu5).new nl).trans bu6
        have hj6 := hj'.but jb buA
        walk_at "go"
        refine r_ixL (.of hl6) ev ?_
        walk_at "go"
        refine u_pick b6 (by omega) (by omega) fun r4 H7 u0 u1 bu7 b7 => ?_
        have hj7 := hj6.but jb bu7
        obtain ⟨H8, p8, b8, f8, j8⟩ := hj7.dput (k := 1 + r4) (v := v) (by omega) (by omega) (by omega)
        walk_at "go"
        have njH : H j = none := nj
        refine ⟨j, H8, rfl, p8, _, _, rfl, j8, ?_, fun k => ?_, fun c' o nc e => ?_, ?_⟩
        · unfold addAt; rw [if_neg (by omega)]; exact c0
        · unfold addAt; split
          · exact v1
          · exact cb k
        · refine b8 _ _ (by rintro rfl; rw [njH] at e; cases e) ((bu.trans (buA.trans bu7)) _ _ nc e)
        · obtain ⟨x, y, z, e, r⟩ := b7
          exact ⟨x, y, z, b8 _ _ jb.symm e, r⟩
      · walk_at "go"
        exact ⟨c, _, rfl, hj', c0, cb, bu, bg⟩
    · rintro σ H' ⟨c, y3, rfl, hj', c0, cb, bu, bg⟩
      walk_at "go"
      refine r_iteD (fun h1 => ?_) (fun h1 => ?_)
      · walk_at "go"
        refine u_pick bg (by decide) (by decide) fun r1 H4 p0 p1 bu4 b4 => ?_
        have hj4 := hj'.but jb bu4
        obtain ⟨H8, p8, b8, f8, j8⟩ := hj4.dput (k := t) (v := 1 - 2 * r1) (by omega) (by omega) (by omega)
        walk_at "go"
        refine ⟨j, H8, rfl, p8, ?_⟩
        walk_at "go"
        have sup := j8.s
        refine k j _ H8 nj (fun c' o nc e => b8 _ _ (by rintro rfl; rw [nj] at e; cases e) ((bu.trans bu4) _ _ nc e)) ?_ j8 ⟨t0, ?_, ?_, fun q hq => ?_, fun q hq => ?_, fun q => ?_⟩
        · obtain ⟨x, y, z, e, r⟩ := b4
          exact ⟨x, y, z, b8 _ _ jb.symm e, r⟩
        · unfold addAt; rw [if_neg (by omega)]; exact c0
        · unfold addAt; rw [if_pos rfl]; exact pm_one p0 p1
        · exact Classical.byContradiction fun z => by have := sup.supp z; omega
        · exact Classical.byContradiction fun z => by have := sup.supp z; omega
        · unfold addAt; split
          · rcases pm_one p0 p1 with e | e <;> rw [e] <;> decide
          · exact cb q
      · have e : t = 0 := by omega
        subst e
        walk_at "go"
        have sup := hj'.s
        exact k j c H' nj bu bg hj' ⟨by omega, c0, c0, fun q hq => Classical.byContradiction fun z => by have := sup.supp z; omega, fun q hq => Classical.byContradiction fun z => by have := sup.supp z; omega, cb⟩
theorem ok_l_divisor {f : Addr} {fd : FuncData} (F : Fun K "_law_divisor" "_law_divisor" s_l_divisor f fd) (h_l_pick : Has P w K mg base "_law_pick" 1 ["_law_bag", "_law_many"] spPick) (h_l_divisor_of : Has P w K mg base "_law_divisor_of" 2 ["_law_bag", "_law_top"] spDivisorOf) : FnOk P w K mg base CX0 3 f fd ["_law_bag", "_law_most"] spDivisor := by
  refine F.ok sc_l_divisor (fun vs H Q E h => ?_) (fun cdv A outer s H vs Q E hr h => ?_)
  · obtain ⟨b, m, rfl, _⟩ := h
    rfl
  · obtain ⟨b, m, rfl, ba, m0, m1, k⟩ := h
    refine ⟨_, (pss_one (ps_ret (pe_callH h_l_divisor_of (hr.mono (by first | decide | omega)) (pa_cons (pv 0) (pa_cons (pe_callH h_l_pick (hr.mono (by first | decide | omega)) (pa_cons (pv 0) (pa_cons (pe_op op_add (pv 1) pe_int) pa_nil))) pa_nil))))), ?_⟩
    walk_at "go"
    refine u_pick ba (by omega) (by omega) fun r H1 r0 r1 bu1 b1 => ?_
    walk_at "go"
    refine ⟨b, r, rfl, b1, r0, by omega, fun j c H2 nj bu2 b2 hj hd => ?_⟩
    have njH : H j = none := by
      refine Decidable.byContradiction fun z => ?_
      obtain ⟨o, ho⟩ := Option.ne_none_iff_exists'.mp z
      rw [bu1 _ _ (hj.nb b2) ho] at nj
      cases nj
    exact k j c r H2 njH (bu1.trans bu2) b2 r0 (by omega) hj hd
theorem ok_l_some_rest {f : Addr} {fd : FuncData} (F : Fun K "_law_some_rest" "_law_some_rest" s_l_some_rest f fd) (B : Bl mg) (h_l_pick : Has P w K mg base "_law_pick" 1 ["_law_bag", "_law_many"] spPick) (h_l_some_int : Has P w K mg base "_law_some_int" 3 ["_law_bag"] spSomeInt) : FnOk P w K mg base CX0 4 f fd ["_law_bag", "_law_top"] spSomeRest := by
  refine F.ok sc_l_some_rest (fun vs H Q E h => ?_) (fun cdv A outer s H vs Q E hr h => ?_)
  · obtain ⟨b, t, rfl, _⟩ := h
    rfl
  · obtain ⟨b, t, rfl, ba, t0, t1, k⟩ := h
    have hBN : (0 : Int) ≤ BN := by decide +kernel
    refine ⟨_, (pss_cons (ps_set (i := 2) sc_l_some_rest.nd rfl (.inl rfl) pe_dnewK)
    (pss_cons (ps_for PassesOwn.never rfl (pi_range1 (by rfl) B.b_range (pa_cons (pe_callB (call_min2 rfl) (by rfl) B.b_min (by decide +kernel) (pa_cons (pv 1) (pa_cons pe_int pa_nil))) pa_nil)) (pg_name (i := 3) sc_l_some_rest.nd rfl (.inl rfl))
    (pss_one (ps_dput (hu_of hr) (pv 2) (pe_callH h_l_pick (hr.mono (by first | decide | omega)) (pa_cons (pv 0) (pa_cons (pv 1) pa_nil))) (pe_callH h_l_some_int (hr.mono (by first | decide | omega)) (pa_cons (pv 0) pa_nil)) rfl)))
    (pss_one (ps_ret (pv 2))))), ?_⟩
    walk_at "go"
    intro j nj
    have jb : j ≠ b := ba.ne nj
    walk_at "go"
    refine u_for1 ⟨by split <;> omega, by split <;> omega⟩ (fun i σ H' => ∃ (c : Int → Int) (y3 : Option V), σ = [some (.ref b), some (.int t), some (.ref j), y3] ∧ JarS H' j i (fun k => 0 ≤ k ∧ k < t) c ∧ (∀ k, -BN ≤ c k ∧ c k ≤ BN) ∧ But b H H' ∧ Bag H' b) ?_ ?_ ?_
    · exact ⟨_, _, rfl, .new, fun k => by omega, (But.refl b H).new nj, ba.keep nj⟩
    · rintro i σ H' hi ⟨c, y3, rfl, hj', cb, bu, bg⟩
      have hit : (i : Int) < t ∧ i < 12 := by split at hi <;> omega
      walk_at "go"
      refine ⟨b, rfl, bg, fun v H4 v0 v1 bu4 b4 => ?_⟩
      walk_at "go"
      refine u_pick b4 (by omega) (by omega) fun r H5 r0 r1 bu5 b5 => ?_
      have hj5 := (hj'.but jb bu4).but jb bu5
      obtain ⟨H8, p8, b8, f8, j8⟩ := hj5.dput (k := r) (v := v) ⟨by omega, by omega⟩ (by omega)
      walk_at "go"
      refine ⟨j, H8, rfl, p8, _, _, rfl, j8, fun k => ?_, fun c' o nc e => b8 _ _ (by rintro rfl; rw [nj] at e; cases e) ((bu.trans (bu4.trans bu5)) _ _ nc e), ?_⟩
      · unfold addAt; split
        · exact ⟨v0, v1⟩
        · exact cb k
      · obtain ⟨x, y, z, e, r⟩ := b5
        exact ⟨x, y, z, b8 _ _ jb.symm e, r⟩
    · rintro σ H' ⟨c, y3, rfl, hj', cb, bu, bg⟩
      walk_at "go"
      refine k j c H' nj bu bg (hj'.mono ?_) cb
      split <;> omega
theorem ok_l_base_made {f : Addr} {fd : FuncData} (F : Fun K "_law_base_made" "_law_base_made" s_l_base_made f fd) (G_Poly : PolyT K mg C) (h_l_pick : Has P w K mg base "_law_pick" 1 ["_law_bag", "_law_many"] spPick) (h_l_divisor : Has P w K mg base "_law_divisor" 3 ["_law_bag", "_law_most"] spDivisor)
   (h_l_made : Has P w K mg base "_law_made" 7 ["_law_bag", "_law_jar"] (spMade C)) (h_l_times : Has P w K mg base "_law_times" 1 ["_law_one", "_law_two"] spTimes2) (hm_Poly___mul__ : HasM P w K mg base C "__mul__" 6 ["self", "other"] (spMul C mulF)) : FnOk P w K mg base CX0 8 f fd ["_law_bag"] (spBaseMade C) := by
  refine F.ok sc_l_base_made (fun vs H Q E h => ?_) (fun cdv A outer s H vs Q E hr h => ?_)
  · obtain ⟨b, rfl, _⟩ := h
    rfl
  · obtain ⟨b, rfl, ba, k⟩ := h
    refine ⟨_, (pss_cons (ps_if (pt_cmpR op_eq (pe_callH h_l_pick (hr.mono (by first | decide | omega)) (pa_cons (pv 0) (pa_cons pe_int pa_nil))) pe_int (nomark _))
    (pss_cons (ps_set (i := 1) sc_l_base_made.nd rfl (.inl rfl) (pe_callH h_l_divisor (hr.mono (by first | decide | omega)) (pa_cons (pv 0) (pa_cons pe_int pa_nil))))
    (pss_cons (ps_set (i := 2) sc_l_base_made.nd rfl (.inl rfl) (pe_callH h_l_divisor (hr.mono (by first | decide | omega)) (pa_cons (pv 0) (pa_cons pe_int pa_nil))))
    (pss_one (ps_ret (pe_tup (pa_cons (pe_op (op_own2 (op := .Mult) hm_Poly___mul__ G_Poly.self (hr.mono (by first | decide | omega))) (pe_callH h_l_made (hr.mono (by first | decide | omega)) (pa_cons (pv 0) (pa_cons (pv 1) pa_nil))) (pe_callH h_l_made (hr.mono (by first | decide | omega)) (pa_cons (pv 0) (pa_cons (pv 2) pa_nil)))) (pa_cons (pe_callH h_l_times (hr.mono (by first | decide | omega)) (pa_cons (pv 1) (pa_cons (pv 2) pa_nil))) pa_nil)))))))
    pss_nil)
    (pss_cons (ps_set (i := 3) sc_l_base_made.nd rfl (.inl rfl) (pe_callH h_l_divisor (hr.mono (by first | decide | omega)) (pa_cons (pv 0) (pa_cons (pe_ix (ix_listK (K := K)) (pe_lst (pa_cons pe_int (pa_cons pe_int (pa_cons pe_int (pa_cons pe_int pa_nil))))) (pe_callH h_l_pick (hr.mono (by first | decide | omega)) (pa_cons (pv 0) (pa_cons pe_int pa_nil))) (fun _ _ => rfl)) pa_nil))))
    (pss_one (ps_ret (pe_tup (pa_cons (pe_callH h_l_made (hr.mono (by first | decide | omega)) (pa_cons (pv 0) (pa_cons (pv 3) pa_nil))) (pa_cons (pv 3) pa_nil))))))), ?_⟩
    walk_at "go"
    refine u_pick ba (by decide) (by decide) fun r H1 r0 r1 bu1 b1 => ?_
    walk_at "go"
    refine r_iteD (fun h1 => ?_) (fun h1 => ?_)
    · walk_at "go"
      refine ⟨b, 12, rfl, b1, by decide, by decide, fun j1 c1 w1 H2 nj1 bu2 b2 x0 x1 hj1 D1 => ?_⟩
      walk_at "go"
      refine ⟨b, 12, rfl, b2, by decide, by decide, fun j2 c2 w2 H3 nj2 bu3 b3 y0 y1 hj2 D2 => ?_⟩
      have hj13 := hj1.but (hj1.nb b2) bu3
      have ne12 : j1 ≠ j2 := by rintro rfl; obtain ⟨kvs, e, _⟩ := hj1; rw [e] at nj2; cases nj2
      walk_at "go"
      refine ⟨b, j1, _, c1, rfl, b3, hj13.at, by omega, fun p1 ts1 H4 bu4 b4 hp1 e1 l1 => ?_⟩
      have hj14 := hj13.but (hj13.nb b3) bu4
      have hj24 := hj2.but (hj2.nb b3) bu4
      walk_at "go"
      refine ⟨b, j2, _, c2, rfl, b4, hj24.at, by omega, fun p2 ts2 H5 bu5 b5 hp2 e2 l2 => ?_⟩
      have hp15 := hp1.stay (Stay.bag bu5 b4)
      have hj15 := hj14.but (hj14.nb b4) bu5
      have hj25 := hj24.but (hj24.nb b4) bu5
      obtain ⟨_, _, _, _, _, _, ct1⟩ := id hp15
      obtain ⟨_, _, _, _, _, _, ct2⟩ := id hp2
      have sm1 : Sm (cof ts1) := fun k => by rw [e1]; exact Nat.lt_of_le_of_lt (D1.bd k) (by decide +kernel)
      have sm2 : Sm (cof ts2) := fun k => by rw [e2]; exact Nat.lt_of_le_of_lt (D2.bd k) (by decide +kernel)
      have ll1 : ts1.length ≤ 15 := by omega
      have ll2 : ts2.length ≤ 15 := by omega
      have lm : ts1.length * ts2.length ≤ 15 * 15 := Nat.mul_le_mul ll1 ll2
      refine u_mul2 hp15 hp2 (by omega) sm1 sm2 fun p us H6 s6 hp eu lu => ?_
      walk_at "go"
      have hj16 := hj15.same s6
      have hj26 := hj25.same s6
      have lm2 : (w1 - 0 + 1).toNat * (w2 - 0 + 1).toNat ≤ 13 * 13 := Nat.mul_le_mul (by omega) (by omega)
      refine ⟨j1, j2, _, _, c1, c2, rfl, ne12, hj16.at, hj26.at, by omega, fun k => Nat.lt_of_le_of_lt (D1.bd k) (by decide +kernel), fun k => Nat.lt_of_le_of_lt (D2.bd k) (by decide +kernel), fun jp H7 njp s7 hjp => ?_⟩
      walk_at "go"
      intro t nt
      have D := D1.mul e1 e2 ct1 ct2 D2 100000000 (by have := Nat.mul_le_mul_right (999 * 999) ll1; omega)
      have hin : JarIn H7 jp 0 (w1 + w2) (mulF c1 c2) := hjp.in fun k hk => by
        obtain ⟨q, r, hq, hr, rfl⟩ := hk
        have a1 : 0 ≤ q ∧ q ≤ w1 := ⟨Int.not_lt.mp fun z => hq (D1.low _ z), Int.not_lt.mp fun z => hq (D1.high _ z)⟩
        have a2 : 0 ≤ r ∧ r ≤ w2 := ⟨Int.not_lt.mp fun z => hr (D2.low _ z), Int.not_lt.mp fun z => hr (D2.high _ z)⟩
        omega
      have sA := s7.trans (Same.new0 (o := .tup [.ref p, .ref jp]) nt)
      have buA : But b H (upd H7 t (.tup [.ref p, .ref jp])) := (bu1.trans (bu2.trans (bu3.trans (bu4.trans bu5)))).trans (Same.but (s6.trans sA) b)
      have njpH : H jp = none := by
        refine Decidable.byContradiction fun z => ?_
        obtain ⟨o, ho⟩ := Option.ne_none_iff_exists'.mp z
        have b7 := b5.same (s6.trans s7)
        rw [(bu1.trans (bu2.trans (bu3.trans (bu4.trans bu5)))).trans (Same.but s6 b) _ _ (hin.nb b7) ho] at njp
        cases njp
      refine k t p jp (w1 + w2) _ _ njpH buA (b5.same (s6.trans sA)) upd_same (by omega) ⟨⟨us, hp.same sA, fun k => (eu k).trans (mulF_ext e1 e2 k)⟩, hin.same (Same.new0 nt), D⟩
    · walk_at "go"
      intro l nl
      have lb := b1.ne nl
      walk_at "go"
      refine u_pick (b1.keep nl) (by decide) (by decide) fun r3 H2 s0 s1 bu2 b2 => ?_
      have hl2 := bu2 _ _ lb upd_same
      obtain ⟨m, em, m0, m1⟩ : ∃ m : Int, atI [V.int 3, V.int 12, V.int 12, V.int 60] r3 = some (.int m) ∧ 0 ≤ m ∧ m ≤ 60 := by
        rcases (by omega : r3 = 0 ∨ r3 = 1 ∨ r3 = 2 ∨ r3 = 3) with rfl | rfl | rfl | rfl
        · exact ⟨_, rfl, by omega, by omega⟩
        · exact ⟨_, rfl, by omega, by omega⟩
        · exact ⟨_, rfl, by omega, by omega⟩
        · exact ⟨_, rfl, by omega, by omega⟩
      walk_at "go"
      refine r_ixL (.of hl2) em ?_
      refine ⟨b, m, rfl, b2, m0, m1, fun j c t H3 nj bu3 b3 t0 t1 hj D => ?_⟩
      walk_at "go"
      refine ⟨b, j, _, c, rfl, b3, hj.at, by omega, fun p ts H4 bu4 b4 hp e l4 => ?_⟩
      walk_at "go"
      intro tt ntt
      have hj4 := hj.but (hj.nb b3) bu4
      have buA : But b H H3 := ((bu1.new nl).trans bu2).trans bu3
      have njH : H j = none := by
        refine Decidable.byContradiction fun z => ?_
        obtain ⟨o, ho⟩ := Option.ne_none_iff_exists'.mp z
        rw [((bu1.new nl).trans bu2) _ _ (hj.nb b3) ho] at nj
        cases nj
      exact k tt p j t c _ njH ((buA.trans bu4).new ntt) (b4.keep ntt) upd_same (by omega) ⟨⟨ts, hp.same (Same.new0 ntt), e⟩, hj4.same (Same.new0 ntt), D.mono (by decide)⟩
end
end My

set_option Elab.async false
set_option linter.all false
set_option maxRecDepth 100000
set_option maxHeartbeats 8000000
set_option pp.deepTerms false
set_option pp.deepTerms.threshold 12
set_option pp.maxSteps 1200

namespace My
open PySem PySem.Spec PyProof.Rows L2
section
variable {P : Program} {w : World} {K : PySem.W.Frag} {mg : Str → Option Value} {base : Heap} {C : Addr}
local macro_rules | `(tactic| walk_at "isi") => `(tactic| (first
  | (with_reducible refine r_is_int_int ?_)
  | (with_reducible refine r_is_int_bool ?_)
  | (with_reducible refine r_is_int_str ?_)
  | (with_reducible refine r_is_int_list ?_)
  | (with_reducible refine r_is_int_tuple ?_)
  | (with_reducible refine r_is_bool_int ?_)
  | (with_reducible refine r_is_bool_bool ?_)
  | (with_reducible refine r_is_bool_str ?_)
  | (with_reducible refine r_is_bool_list ?_)
  | (with_reducible refine r_is_bool_tuple ?_)
  | (with_reducible refine r_is_str_int ?_)
  | (with_reducible refine r_is_str_bool ?_)
  | (with_reducible refine r_is_str_str ?_)
  | (with_reducible refine r_is_str_list ?_)
  | (with_reducible refine r_is_str_tuple ?_)
  | ((with_reducible refine r_is_list_int (xs := ?xx) ?hh ?_); (case hh => walk_at "hp"))
  | ((with_reducible refine r_is_list_bool (xs := ?xx) ?hh ?_); (case hh => walk_at "hp"))
  | ((with_reducible refine r_is_list_str (xs := ?xx) ?hh ?_); (case hh => walk_at "hp"))
  | ((with_reducible refine r_is_list_list (xs := ?xx) ?hh ?_); (case hh => walk_at "hp"))
  | ((with_reducible refine r_is_list_tuple (xs := ?xx) ?hh ?_); (case hh => walk_at "hp"))
  | ((with_reducible refine r_is_tuple_int (xs := ?xx) ?hh ?_); (case hh => walk_at "hp"))
  | ((with_reducible refine r_is_tuple_bool (xs := ?xx) ?hh ?_); (case hh => walk_at "hp"))
  | ((with_reducible refine r_is_tuple_str (xs := ?xx) ?hh ?_); (case hh => walk_at "hp"))
  | ((with_reducible refine r_is_tuple_list (xs := ?xx) ?hh ?_); (case hh => walk_at "hp"))
  | ((with_reducible refine r_is_tuple_tuple (xs := ?xx) ?hh ?_); (case hh => walk_at "hp"))
  | (with_reducible refine r_is_NoneType_int ?_)
  | (with_reducible refine r_is_NoneType_bool ?_)
  | (with_reducible refine r_is_NoneType_str ?_)
  | (with_reducible refine r_is_NoneType_list ?_)
  | (with_reducible refine r_is_NoneType_tuple ?_)))
local macro_rules | `(tactic| walk_at "ne") => `(tactic| first | assumption | (refine Ne.symm ?_; assumption) | exact Bag.ne (by assumption) (by assumption) | exact ne_of_none (by assumption) (by assumption))
local macro_rules | `(tactic| walk_at "hp") => `(tactic| (first
  | assumption
  | exact upd_same
  | (refine h_keep ?_ (by assumption); walk_at "hp")
  | (refine (upd_ne (by walk_at "ne")).trans ?_; walk_at "hp")
  | (refine Same.at (by assumption) ?_; walk_at "hp")
  | (refine But.at (by assumption) (by walk_at "ne") ?_; walk_at "hp")
  | (refine But2.at (by assumption) (by walk_at "ne") (by walk_at "ne") ?_; walk_at "hp")))
local macro_rules | `(tactic| walk_at "side") => `(tactic| first | assumption | omega | (refine ⟨?_, ?_⟩ <;> first | assumption | omega | decide) | decide | (refine ⟨by decide, by decide, by decide⟩) | (left; refine ⟨?_, ?_⟩ <;> first | omega | decide) | (right; refine ⟨?_, ?_⟩ <;> first | omega | decide) | (simp; done))
local macro_rules | `(tactic| walk_at "cond") => `(tactic| first | assumption | exact rfl | omega | (simp only [List.length_cons, List.length_nil]; omega) | decide +kernel)
local macro_rules | `(tactic| walk_at "s") => `(tactic| (first
  | ((with_reducible refine r_var (v := ?vv) ?ee ?_); (case ee => exact rfl))
  | (with_reducible refine r_c ?_)
  | (with_reducible refine r_op ?_)
  | (with_reducible refine r_un ?_)
  | (with_reducible refine r_rI0 ?_)
  | ((with_reducible refine r_rI ?cc ?_); (case cc => walk_at "side"))
  | (with_reducible refine r_rU ?_)
  | (with_reducible refine r_eqI ?_)
  | (with_reducible refine r_neI ?_)
  | (with_reducible refine r_eqB ?_)
  | (with_reducible refine r_neB ?_)
  | (with_reducible refine r_eqS ?_)
  | (with_reducible refine r_neS ?_)
  | ((with_reducible refine r_eq ?ee ?_); (case ee => exact rfl))
  | ((with_reducible refine r_ne ?ee ?_); (case ee => exact rfl))
  | ((with_reducible refine r_ixL (v := ?vv) (xs := ?xx) ?hh ?ee ?_); (case hh => (refine SqL.of ?_; walk_at "hp")); (case ee => exact rfl))
  | (with_reducible refine r_cb ?_)
  | (with_reducible refine r_call ?_)
  | (with_reducible refine r_cons ?_)
  | (with_reducible refine r_nil ?_)
  | (with_reducible refine r_lst ?_)
  | (with_reducible refine r_tup ?_)
  | ((with_reducible refine r_new ?cc ?_); (case cc => walk_at "side"))
  | (with_reducible refine r_exbl ?_)
  | (with_reducible refine r_exint ?_)
  | (with_reducible refine r_exint2 ?_)
  | (with_reducible refine r_exblL ?_)
  | (with_reducible refine r_ex2 ?_)
  | (with_reducible refine r_test ?_)
  | (with_reducible refine r_tB ?_)
  | (with_reducible refine r_not ?_)
  | (with_reducible refine r_and ?_)
  | (with_reducible refine r_or ?_)
  | (with_reducible refine r_andV ?_)
  | (with_reducible refine r_orV ?_)
  | (with_reducible refine r_notV ?_)
  | (with_reducible refine r_tif ?_)
  | (with_reducible refine r_iteT ?_)
  | (with_reducible refine r_iteNT ?_)
  | (with_reducible refine r_iteNF ?_)
  | (with_reducible refine r_iteF ?_)
  | (with_reducible refine r_seq ?_)
  | (with_reducible refine r_next ?_)
  | (with_reducible refine r_brk ?_)
  | (with_reducible refine r_cont ?_)
  | (with_reducible refine r_asg ?_)
  | (with_reducible refine r_gname ?_)
  | (with_reducible refine r_ret ?_)
  | (with_reducible refine r_retN ?_)
  | (with_reducible refine r_drop ?_)
  | (with_reducible refine r_if ?_)
  | ((with_reducible refine r_aug (x := ?xx) ?ee ?_); (case ee => exact rfl))
  | (with_reducible refine r_ipI ?_)
  | (with_reducible refine r_augS ?_)
  | (with_reducible refine r_gsub ?_)
  | ((with_reducible refine r_setL (xs := ?xx) (m := ?mm) ?hh ?ee ?_); (case hh => walk_at "hp"); (case ee => exact rfl))
  | (with_reducible refine r_par ?_)
  | (with_reducible refine r_bm ?_)
  | ((with_reducible refine r_tyL (xs := ?xx) ?hh ?_); (case hh => walk_at "hp"))
  | ((with_reducible refine r_append (xs := ?xx) ?hh ?ll ?_); (case hh => walk_at "hp"); (case ll => walk_at "side"))
  | (walk_at "isi")
  | (with_reducible refine r_for ?_)
  | (with_reducible refine r_iList ?_)
  | (with_reducible refine r_iTup ?_)
  | (with_reducible refine r_iR1 ?_)
  | (with_reducible refine r_iR2 ?_)
  | (with_reducible refine r_lc ?_)
  | (with_reducible refine r_yes ?_)
  | ((with_reducible refine r_lenS ?ll ?_); (case ll => walk_at "side"))
  | (with_reducible refine r_leS ?_)
  | (with_reducible refine r_chain ?_)
  | (with_reducible refine r_tM1 ?_)
  | (with_reducible refine r_exS ?_)
  | ((with_reducible refine r_tupL (xs := ?xx) ?hh ?_); (case hh => walk_at "hp"))
  | ((with_reducible refine r_listL (xs := ?xx) ?hh ?_); (case hh => walk_at "hp"))
  | ((with_reducible refine r_listT (xs := ?xx) ?hh ?_); (case hh => walk_at "hp"))
  | ((with_reducible refine r_ixT (v := ?vv) (xs := ?xx) ?hh ?ee ?_); (case hh => (refine SqT.of ?_; walk_at "hp")); (case ee => exact rfl))
  | (with_reducible refine r_sl ?_)
  | (with_reducible refine r_nopart ?_)
  | (with_reducible refine r_part ?_)
  | (with_reducible refine r_exI ?_)
  | ((with_reducible refine r_slL (xs := ?xx) ?hh ?_); (case hh => first | assumption | (refine SqL.of ?_; walk_at "hp") | (refine Same.seq (by assumption) (by assumption))))
  | ((with_reducible refine r_cat (xs := ?xx) (zs := ?zz) ?hh ?ii ?ll ?_); (case hh => walk_at "hp"); (case ii => walk_at "hp"); (case ll => walk_at "side"))
  | ((with_reducible refine r_lenL (xs := ?xx) ?hh ?_); (case hh => walk_at "hp"))
  | ((with_reducible refine r_lenT (xs := ?xx) ?hh ?_); (case hh => walk_at "hp"))
  | ((with_reducible refine r_gTup (xs := ?xx) ?hh ?ll ?_); (case hh => walk_at "hp"); (case ll => exact rfl))
  | (with_reducible refine r_gCons ?_)
  | (with_reducible refine r_gNil ?_)
  | ((with_reducible refine r_iteDT ?cc ?_); (case cc => walk_at "cond"))
  | ((with_reducible refine r_iteDF ?cc ?_); (case cc => walk_at "cond"))
  | ((with_reducible refine r_iteNDT ?cc ?_); (case cc => walk_at "cond"))
  | ((with_reducible refine r_iteNDF ?cc ?_); (case cc => walk_at "cond"))
  ))
local macro_rules | `(tactic| walk_at "go") => `(tactic| repeat (walk_at "s"))

local macro_rules | `(tactic| walk_at "s") => `(tactic| (first
  | (with_reducible refine r_dnew ?_)
  | (with_reducible refine r_dget2 ?_)
  | (with_reducible refine r_dget ?_)
  | (with_reducible refine r_dput ?_)
  | (with_reducible refine r_dsetd ?_)
  | ((with_reducible refine JarAt.isD (n := ?nn) (c := ?cc) ?hh ?_); (case hh => assumption))
  ))

local macro_rules | `(tactic| walk_at "s") => `(tactic| (first
  | (with_reducible refine r_prop ?_)
  | (with_reducible refine r_meth ?_)
  | (with_reducible refine r_make ?_)
  | (with_reducible refine r_fld ?_)
  | (with_reducible refine r_sfld ?_)
  | (with_reducible refine r_iOwn ?_)
  | ((with_reducible refine u_rowsAt (mg := ?mm) (C := ?CC) (dx := ?dd) (fv := ?vv) ?tt ?hh ?_); (case tt => assumption); (case hh => walk_at "hp"))
  | ((with_reducible refine r_isPoly (mg := ?mm) (dx := ?dd) (fs := ?ff) ?tt ?hh ?_); (case tt => assumption); (case hh => walk_at "hp"))
  | ((with_reducible refine r_isPolyI (mg := ?mm) ?tt ?_); (case tt => assumption))
  | ((with_reducible refine r_polyInt (mg := ?mm) (C := ?CC) (dx := ?dd) (fs := ?ff) ?tt ?hh ?_); (case tt => assumption); (case hh => walk_at "hp"))
  ))

local macro_rules | `(tactic| walk_at "s") => `(tactic| (first
  | (with_reducible refine r_iKeys ?_)
  | ((with_reducible refine r_maxD (w := ?ww) ?hh ?_); (case hh => assumption))
  ))
theorem ok_l_both_parts {f : Addr} {fd : FuncData} (F : Fun K "_law_both_parts" "_law_both_parts" s_l_both_parts f fd) (B : Bl mg) (bAny : mg "any" = none) (G_Poly : PolyT K mg C) (h_l_jar_of2 : Has P w K mg base "_law_jar_of" 1 ["_law_rows"] spJarOf2) (h_l_times2 : Has P w K mg base "_law_times" 1 ["_law_one", "_law_two"] spTimes2)
   (h_l_plus : Has P w K mg base "_law_plus" 1 ["_law_one", "_law_two", "_law_sign"] spPlus) (h_l_terms_of : Has P w K mg base "_law_terms_of" 1 ["_law_jar"] spTerms) (h_l_is_poly : Has P w K mg base "_law_is_poly" 4 ["_law_found", "_law_jar"] (spIsPoly C)) (hp_Poly_terms : HasP P w K mg base C "terms" 1 ["self"] (spGetTerms C)) :
   FnOk P w K mg base CX0 5 f fd ["_law_found", "_law_jar", "_law_base"] (spBothParts C) := by
  refine F.ok sc_l_both_parts (fun vs H Q E h => ?_) (fun cdv A outer s H vs Q E hr h => ?_)
  · obtain ⟨t, jar, bj, qs, rs, n, c, cb, wd, rfl, _⟩ := h
    rfl
  · obtain ⟨t, jar, bj, qs, rs, n, c, cb, wd, rfl, ⟨q, r, ht, hq, hr'⟩, hj, hn, hb, nz, w0, w60, heq, low, high, ql, smb, smq, k⟩ := h
    have h_l_jar_of := h_l_jar_of2
    have h_l_times := h_l_times2
    obtain ⟨d1, r1, v1, g1, _, _, cq⟩ := id hq
    obtain ⟨d2, r2, v2, g2, _, _, cr⟩ := id hr'
    have rsup : ∀ p ∈ rs, 0 ≤ p.1 ∧ p.1 < wd := fun p hp => by
      have n := cr.nz p hp
      rw [← cr.at hp] at n
      exact ⟨Int.not_lt.mp fun z => n (low _ z), Int.not_le.mp fun z => n (high _ z)⟩
    have rl : rs.length ≤ 62 := by
      refine Nat.le_trans (cr.le_len (m := (List.range 61).map fun i => (((i : Nat) : Int), (0 : Int))) fun p hp => ?_) (by decide)
      have := rsup p hp
      rw [List.map_map]
      exact List.mem_map.mpr ⟨p.1.toNat, List.mem_range.mpr (by omega), show ((p.1.toNat : Nat) : Int) = p.1 by omega⟩
    refine ⟨_, (pss_cons (ps_if (PW.pt (pw_or (pt_not (pt_val (pe_callB (call_isiKK (K := K)) (by rfl) B.b_isinstance (by decide +kernel) (pa_cons (pv 0) (pa_cons (pe_bltn (v := .ty "tuple") (by rfl) B.b_tuple (by decide +kernel) rfl) pa_nil))))) (pw_or1 (pt_cmpR op_ne (pe_callB (call_lenK (K := K)) (by rfl) B.b_len PySem.boot_len (pa_cons (pv 0) pa_nil)) pe_int (nomark _)))))
    (pss_one (ps_ret pe_non))
    pss_nil)
    (pss_cons (ps_if (PW.pt (pw_or (pt_not (pt_val (pe_callB (call_isiKK (K := K)) (by rfl) B.b_isinstance (by decide +kernel) (pa_cons (pe_ix (ix_tupK (K := K)) (pv 0) pe_int (fun _ _ => rfl)) (pa_cons (pe_glob (v := .ref C) rfl G_Poly.mgC rfl) pa_nil))))) (pw_or1 (pt_not (pt_val (pe_callB (call_isiKK (K := K)) (by rfl) B.b_isinstance (by decide +kernel) (pa_cons (pe_ix (ix_tupK (K := K)) (pv 0) pe_int (fun _ _ => rfl)) (pa_cons (pe_glob (v := .ref C) rfl G_Poly.mgC rfl) pa_nil))))))))
    (pss_one (ps_ret pe_non))
    pss_nil)
    (pss_cons (ps_set (i := 3) sc_l_both_parts.nd rfl (.inl rfl) (pe_lst (pa_cons (pe_callH h_l_jar_of (hr.mono (by first | decide | omega)) (pa_cons (pe_propH G_Poly.cl hp_Poly_terms (hr.mono (by first | decide | omega)) (pe_ix (ix_tupK (K := K)) (pv 0) pe_int (fun _ _ => rfl))) pa_nil)) (pa_cons (pe_callH h_l_jar_of (hr.mono (by first | decide | omega)) (pa_cons (pe_propH G_Poly.cl hp_Poly_terms (hr.mono (by first | decide | omega)) (pe_ix (ix_tupK (K := K)) (pv 0) pe_int (fun _ _ => rfl))) pa_nil)) pa_nil))))
    (pss_cons (ps_if (PW.pt (pw_or (pt_not (pt_val (pe_callH h_l_is_poly (hr.mono (by first | decide | omega)) (pa_cons (pe_ix (ix_tupK (K := K)) (pv 0) pe_int (fun _ _ => rfl)) (pa_cons (pe_ix (ix_listK (K := K)) (pv 3) pe_int (fun _ _ => rfl)) pa_nil))))) (pw_or1 (pt_not (pt_val (pe_callH h_l_is_poly (hr.mono (by first | decide | omega)) (pa_cons (pe_ix (ix_tupK (K := K)) (pv 0) pe_int (fun _ _ => rfl)) (pa_cons (pe_ix (ix_listK (K := K)) (pv 3) pe_int (fun _ _ => rfl)) pa_nil))))))))
    (pss_one (ps_ret pe_non))
    pss_nil)
    (pss_cons (ps_if (pt_val (pe_callB (call_anyK (K := K)) (by rfl) bAny (by decide +kernel) (pa_cons (pe_lock (pe_lc (own := [("_law_deg", 5)]) rfl sc_l_both_parts.nd (pi_keys (pe_ix (ix_listK (K := K)) (pv 3) pe_int (fun _ _ => rfl))) (blkOk_by (N := ["_law_found", "_law_jar", "_law_base", "_law_parts", "_law_back", "_law_deg"]) (sc := defScope s_l_both_parts) (by decide +kernel)) (fun _ _ _ _ _ => (pg_name (i := 5) sc_l_both_parts.nd rfl (.inl rfl))) (fun _ _ _ _ _ => pts_nil) (fun _ _ _ _ _ => (pe_or (pe_cmpR op_lt (pv 5) pe_int (nomark _)) (pe_one (pe_cmpR op_ge (pv 5) (pe_callB (call_maxDI (by rfl)) (by rfl) B.b_max (by decide +kernel) (pa_cons (pv 2) pa_nil)) (nomark _))))))) pa_nil)))
    (pss_one (ps_ret pe_non))
    pss_nil)
    (pss_cons (ps_set (i := 4) sc_l_both_parts.nd rfl (.inl rfl) (pe_callH h_l_plus (hr.mono (by first | decide | omega)) (pa_cons (pe_callH h_l_times (hr.mono (by first | decide | omega)) (pa_cons (pv 2) (pa_cons (pe_ix (ix_listK (K := K)) (pv 3) pe_int (fun _ _ => rfl)) pa_nil))) (pa_cons (pe_ix (ix_listK (K := K)) (pv 3) pe_int (fun _ _ => rfl)) (pa_cons pe_int pa_nil)))))
    (pss_cons (ps_if (pt_cmpR (op_neDK (K := K) hr.units) (pe_callH h_l_terms_of (hr.mono (by first | decide | omega)) (pa_cons (pv 4) pa_nil)) (pe_callH h_l_terms_of (hr.mono (by first | decide | omega)) (pa_cons (pv 1) pa_nil)) (nomark _))
    (pss_one (ps_ret pe_non))
    pss_nil)
    (pss_one (ps_ret (pv 3)))))))))), ?_⟩
    walk_at "go"
    refine ⟨q, d1, _, rfl, g1, q, qs, rfl, hq, fun t1 H1 nt1 s1 ht1 => ?_⟩
    walk_at "go"
    refine ⟨t1, qs, rfl, ht1, by omega, fun j1 H2 nj1 s2 hj1 => ?_⟩
    have ht2 := s2 _ _ (s1 _ _ ht)
    have hr2 := (hr'.same s1).same s2
    have g22 := s2 _ _ (s1 _ _ g2)
    walk_at "go"
    refine ⟨r, d2, _, rfl, g22, r, rs, rfl, hr2, fun t2 H3 nt2 s3 ht3 => ?_⟩
    walk_at "go"
    refine ⟨t2, rs, rfl, ht3, by omega, fun j2 H4 nj2 s4 hj2 => ?_⟩
    have hj14 := hj1.same (s3.trans s4)
    have sA := s1.trans (s2.trans (s3.trans s4))
    have ne12 : j1 ≠ j2 := fun e => (hj1.same s3).free nj2 e.symm
    have nb1 : bj ≠ j1 := ((hb.same s1).at.ne nj1).symm
    have nb2 : bj ≠ j2 := ((hb.same (s1.trans (s2.trans s3))).at.ne nj2).symm
    walk_at "go"
    intro l nl
    have nlj : l ≠ j2 := hj2.free nl
    have hj15 := hj14.same (Same.new0 (o := .lst [.ref j1, .ref j2]) nl)
    have hj25 := hj2.same (Same.new0 (o := .lst [.ref j1, .ref j2]) nl)
    have hl5 : (upd H4 l (.lst [.ref j1, .ref j2])) l = some (.lst [.ref j1, .ref j2]) := upd_same
    have sB := sA.trans (Same.new0 (o := .lst [.ref j1, .ref j2]) nl)
    have nlH : H l = none := free_same sA nl
    generalize upd H4 l (.lst [.ref j1, .ref j2]) = H5 at *
    have ht5 := sB _ _ ht
    have hq5 := hq.same sB
    have hr5 := hr'.same sB
    have hb5 := hb.same sB
    have hjj5 := hj.same sB
    clear hj14 hj2 hj1 ht2 hr2 g22 ht1 ht3 s1 s2 s3 s4 sA nl nt1 nt2
    walk_at "go"
    refine ⟨q, qs, j1, _, _, rfl, hq5, hj15.at, fun _ => rfl, by omega, by omega, fun H6 s6 => ?_⟩
    have ht6 := s6 _ _ ht5
    have hl6 := s6 _ _ hl5
    walk_at "go"
    refine ⟨r, rs, j2, _, _, rfl, hr5.same s6, hj25.at.same s6, fun _ => rfl, by omega, by omega, fun H7 s7 => ?_⟩
    have s67 := s6.trans s7
    have hl7 := s67 _ _ hl5
    have hj17 := hj15.same s67
    have hj27 := hj25.same s67
    have hb7 := hb5.same s67
    have hjj7 := hjj5.same s67
    have sC := sB.trans s67
    clear hj15 hj25 hb5 hjj5 hl5 hl6 ht5 ht6 hq5 hr5 sB s67 s6 s7
    walk_at "go"
    obtain ⟨kvs, ej, hk, hkl, hks, hc⟩ := id hj27
    obtain ⟨ks, ek, knd, _, kle⟩ := hk.keys
    refine ⟨j2, .dK kvs, ej, trivial, fun od => ?_⟩
    have hm7 : JarMax (upd H7 j2 (.frz od (.dK kvs))) bj wd := by
      obtain ⟨kv, e, r⟩ := hb7.max nz
      exact ⟨kv, (upd_ne nb2).trans e, r⟩
    walk_at "go"
    refine u_lcK upd_same ek (fun D i acc H2 => (acc = (List.replicate i false).map V.bl ∧ i ≤ ks.length) ∧ Same (upd H7 j2 (.frz od (.dK kvs))) H2) ?_ ?_ ?_ ?_
    · exact fun D hD => ⟨⟨rfl, Nat.zero_le _⟩, Same.new0 hD⟩
    · exact fun D i acc H2 _ _ ⟨_, s1⟩ => s1 _ _ upd_same
    · rintro D i y acc H2 hD hx hacc ⟨⟨ea, hi0⟩, s1⟩
      have hi2 := (List.getElem?_eq_some_iff.mp hx).1
      have hy : 0 ≤ y ∧ y < wd := by
        have : Sum.inl y ∈ kvs.map (·.1) := by rw [ek]; exact List.mem_map.mpr ⟨y, List.mem_of_getElem? hx, rfl⟩
        obtain ⟨p, hp, ep⟩ := List.mem_map.mp this
        obtain ⟨k', ek', p', hp', rfl⟩ := hks p hp
        rw [ep] at ek'
        cases ek'
        exact rsup p' hp'
      have hm2 := hm7.same s1
      walk_at "go"
      refine ⟨rfl, ?_⟩
      walk_at "go"
      refine u_push hacc (by rw [ea, List.length_map, List.length_replicate]; omega) ⟨⟨?_, hi2⟩, Same.put s1 hD⟩
      rw [ea, List.replicate_succ', List.map_append]
      exact congrArg (fun b => _ ++ [V.bl b]) (decide_eq_false (by omega))
    · rintro D acc H8 hD hacc ⟨⟨ea, hi0⟩, s8⟩
      have efz := s8 _ _ (upd_same (H := H7) (a := j2) (o := .frz od (.dK kvs)))
      refine ⟨efz, ?_⟩
      have s9 := unlock_same ej s8
      have hD3 : upd H8 j2 (.dK kvs) D = some (.lst acc) := (upd_ne (fun z => by subst z; rw [efz] at hacc; cases hacc)).trans hacc
      rw [ea] at hD3
      generalize upd H8 j2 (.dK kvs) = H9 at *
      have hl9 := s9 _ _ hl7
      have hj19 := hj17.same s9
      have hj29 := hj27.same s9
      have hb9 := hb7.same s9
      have hjj9 := hjj7.same s9
      have sD := sC.trans s9
      clear s8 efz hacc hD hm7 hl7 hj17 hj27 hb7 hjj7 s9 sC ej
      walk_at "go"
      refine r_any (.of hD3) ?_
      have ea : (List.replicate ks.length false).any id = false := by
        rw [List.any_eq_false]
        intro x hx
        rw [List.eq_of_mem_replicate hx]; decide
      rw [ea]
      walk_at "go"
      have hq2 : (wd - 0 + 1).toNat * qs.length ≤ 61 * 1401 := Nat.mul_le_mul (by omega) ql
      refine ⟨bj, j1, _, _, cb, cof qs, rfl, nb1, hb9.at, hj19.at, by omega, smb, smq, fun p H10 np s10 hp => ?_⟩
      have hl10 := s10 _ _ hl9
      have hj210 := hj29.at.same s10
      walk_at "go"
      refine ⟨p, j2, _, _, mulF cb (cof qs), cof rs, 1, rfl, .inl rfl, hp.at, hj210, by omega, fun bk H11 nbk s11 hbk => ?_⟩
      walk_at "go"
      refine ⟨bk, _, _, rfl, hbk, by omega, fun l1 ts1 H12 nl1 s12 c1 e1 n1 hl1 => ?_⟩
      walk_at "go"
      have sE := s10.trans (s11.trans s12)
      refine ⟨jar, _, _, rfl, hjj9.same sE, hn, fun l2 ts2 H13 nl2 s13 c2 e2 n2 hl2 => ?_⟩
      have et : ts1 = ts2 := c1.ext c2 fun j => by rw [e1, e2, heq]; omega
      refine r_neT (hl1.same s13) hl2 ?_
      rw [decide_eq_true et]
      have sF := sE.trans s13
      walk_at "go"
      exact k l j1 j2 H13 nlH (sD.trans sF) (sF _ _ hl9) (hj19.at.same sF) (hj29.at.same sF)
end
end My

set_option Elab.async false
set_option linter.all false
set_option maxRecDepth 100000
namespace My
open PySem PySem.Spec PyProof.Rows L2
/-! ### o.m(k = v, ..), C(k = v, ..): all by name -/
structure KB1 (K : PySem.W.Frag) (fd : FuncData) (ps ks : List Str) : Prop where
  to : ∀ (s : Shared) (u : Value) (ws : List Value), K.In s.heap → ws.length = ks.length → BindsTo s fd ⟨[u], ks.zip ws⟩ (ps.zip (u :: ws))
theorem kb1 {K : PySem.W.Frag} {fd : FuncData} {p0 : Str} {ks : List Str} (h : ∀ (u : Value) (ws : List Value), ws.length = ks.length → bindArgs fd ⟨[u], ks.zip ws⟩ = pure ((p0, u) :: ks.zip ws)) : KB1 K fd (p0 :: ks) ks := ⟨fun _ u ws _ hl => .of_eq (h u ws hl)⟩
structure HasMK (P : Program) (w : World) (K : PySem.W.Frag) (mg : Str → Option Value) (base : Heap) (C : Addr) (m : Str) (k : Nat) (ps ks : List Str) (sp : Sp) : Prop where
  ex : ∃ f fd, FnOk P w K mg base CX0 k f fd ps sp ∧ Meth K C m f ∧ KB1 K fd ps ks
structure HasCK (P : Program) (w : World) (K : PySem.W.Frag) (mg : Str → Option Value) (base : Heap) (x : Str) (C : Addr) (k : Nat) (ps ks : List Str) (sp : Sp) : Prop where
  ex : ∃ f fd, FnOk P w K mg base CX0 k f fd ps sp ∧ Mk K C f ∧ mg x = some (.ref C) ∧ KB1 K fd ps ks
section
variable {X : Cx} {C f : Addr} {fd : FuncData} {m x : Str} {k : Nat} {ps ks : List Str} {sp : Sp} {o : Expr} {kws : List Keyword} {p pos apos : Pos} {ta : TE} {tk : TA}
theorem run_1 {pins : List (Addr × Obj)} {σ : L2.St} {H : Hp} {s : Shared} {Q : VK} {u : Value} {v : V} {ws : List Value} {zs : List V} (F : FnOk X.prog X.w X.K X.mg X.base CX0 k f fd ps sp) (hr : Room k X.A) (hb : KB1 X.K fd ps ks) (hk : ks.length + 1 = ps.length)
    (I : Inv X pins σ H s) (ru : RelV v u) (r : Vals zs ws) (h : sp (v :: zs) H Q E0) : wpAny (model X.prog X.w) X.A (call (.ref f) [u] (ks.zip ws)) (EP X pins σ Q) X.xe s := by
  have hl : ws.length = ks.length := by
    have := F.len _ _ _ _ h
    have := r.length
    simp at *
    omega
  refine wpAny_call (codeAny_mono (F.run X.A X.stack s H ⟨[u], ks.zip ws⟩ (u :: ws) (v :: zs) Q E0 hr I.env0 (hb.to s u ws I.kIn hl) (.cons ru r) h) fun r s' hq => ?_)
  cases r with
  | error e => exact False.elim hq
  | ok fl =>
    cases fl with
    | ret u => exact I.after hq
    | next => exact False.elim hq
    | brk => exact False.elim hq
    | cont => exact False.elim hq
theorem pe_methHK {pl : Sem Bool} (c : Cls X.K C) (h : HasMK X.prog X.w X.K X.mg X.base C m k ps ks sp) (hr : Room k X.A) (he : PE X o ta) (hkw : PK X kws tk) (hk : ks.length + 1 = ps.length := by rfl)
    (hall : (backToKw pos (keywordEach kws X.env)).all (·.1.isSome) = true := by rfl) (hks : (backToKw pos (keywordEach kws X.env)).filterMap (·.1) = ks := by rfl)
    (hpl : ((backTo pos (starEach [] X.env)).any (·.1) || (backToKw pos (keywordEach kws X.env)).any (·.1.isNone)) = false := by rfl)
    (ht : eval (.Call (.Attribute o m apos) [] kws pos) X.env = (do
      let ov ← eval o X.env
      standAt apos.atName
      let (f, first) ← holding [ov] (getMethod ov m pl)
      callWith pos f first (backTo pos (starEach [] X.env)) (backToKw pos (keywordEach kws X.env))) := by rfl) : PE X (.Call (.Attribute o m apos) [] kws pos) (tMeth C m sp [] E0 ta tk) := by
  obtain ⟨f, fd, F, hm, b⟩ := h.ex
  refine ⟨fun pins s σ H Q I h => ?_⟩
  refine PySem.W.methodCall_KW (pl := pl) (thn (he.run pins s σ H _ I h) fun u s1 ⟨x, H1, I1, rx, a, dx, fs, ex, ea, l, q⟩ => ?_) ht
  subst ex
  obtain rfl : u = Value.ref a := rx
  refine getmeth_ok I1 ea c hm l ?_
  refine PySem.W.callWith_KW0 (first := [.ref a]) (h₀ := X.base) I.ok.mod.kin hm.kp hall (thn (hkw.run pos pins s1 σ H1 _ I1 q) fun ws s2 ⟨zs, H2, I2, rz, q2⟩ => ⟨I2.kIn, ?_⟩) hpl
  rw [hks]
  have q2 : sp (.ref a :: (zs ++ [])) H2 Q E0 := q2
  rw [List.append_nil] at q2
  exact run_1 (v := .ref a) F hr b hk I2 (show RelV (V.ref a) (Value.ref a) from rfl) rz q2
theorem pe_makeHK (h : HasCK X.prog X.w X.K X.mg X.base x C k ps ks sp) (hr : Room (k + 1) X.A) (hkw : PK X kws tk) (hk : ks.length + 1 = ps.length := by rfl) (hg : Gl X x := by rfl)
    (hall : (backToKw pos (keywordEach kws X.env)).all (·.1.isSome) = true := by rfl) (hks : (backToKw pos (keywordEach kws X.env)).filterMap (·.1) = ks := by rfl) (hdb : (x == ("__debug__" : Str)) = false := by decide)
    (hpl : ((backTo pos (starEach [] X.env)).any (·.1) || (backToKw pos (keywordEach kws X.env)).any (·.1.isNone)) = false := by rfl) : PE X (.Call (.Name x p) [] kws pos) (tMake C sp [] E0 tk) := by
  obtain ⟨f, fd, F, M, hm, b⟩ := h.ex
  refine ⟨fun pins s σ H Q I h => ?_⟩
  refine wpAny_Call_Name_kw (ld_glob I hg hm ?_ hdb)
  refine PySem.W.callWith_KW0 (h₀ := X.base) I.ok.mod.kin M.kp hall (thn (hkw.run pos pins s σ H _ I h) fun ws s2 ⟨zs, H2, I2, rz, q2⟩ => ⟨I2.kIn, ?_⟩) hpl
  rw [hks]
  have hq := q2 (s2.heap.objs.size + 1) s2.heap.objs.size (I2.hok.fresh (Nat.le_succ _)) (I2.hok.fresh (Nat.le_refl _)) (Nat.ne_of_lt (Nat.lt_succ_self _))
  rw [List.append_nil] at hq
  have I3 := Inv.made (C := C) I2
  have hl : ws.length = ks.length := by
    have := F.len _ _ _ _ hq
    have := rz.length
    simp at *
    omega
  refine wpAny_call (make_map (f := f) I2.kIn M.makes M.init (beq_iff_eq.mp M.fn) (codeAny_mono (F.run _ X.stack _ _ ⟨[Value.ref (s2.heap.objs.size + 1)], ks.zip ws⟩ (Value.ref (s2.heap.objs.size + 1) :: ws) (V.ref (s2.heap.objs.size + 1) :: zs) _ E0 (hr.make C [] (ks.zip ws))
    (I3.env0.make C [] (ks.zip ws)) (b.to _ (Value.ref (s2.heap.objs.size + 1)) ws I3.kIn hl) (.cons (show RelV (V.ref (s2.heap.objs.size + 1)) (Value.ref (s2.heap.objs.size + 1)) from rfl) rz) hq) fun r s' hq' => ?_))
  cases r with
  | error e => exact False.elim hq'
  | ok fl =>
    cases fl with
    | ret u =>
      obtain ⟨v, H', I4, rv, ev, q3⟩ := I3.after hq'
      subst ev
      exact ⟨rv, ⟨V.ref (s2.heap.objs.size + 1), H', I4, rfl, q3⟩⟩
    | next => exact False.elim hq'
    | brk => exact False.elim hq'
    | cont => exact False.elim hq'
end
end My

set_option Elab.async false
set_option linter.all false
set_option maxRecDepth 100000
set_option maxHeartbeats 2000000
namespace My
open PySem PySem.Spec PyProof.Rows L2
/-! ### C(..) whose __init__ may raise -/
structure HasCX (P : Program) (w : World) (K : PySem.W.Frag) (mg : Str → Option Value) (base : Heap) (x : Str) (C : Addr) (k : Nat) (ps ks : List Str) (sp : Sp) : Prop where
  ex : ∃ f fd, FnOk P w K mg base (L2.CX P w) k f fd ps sp ∧ Mk K C f ∧ mg x = some (.ref C) ∧ Binds K fd ps [] ∧ KB1 K fd ps ks
theorem HasCX.calm {P : Program} {w : World} {K : PySem.W.Frag} {mg : Str → Option Value} {base : Heap} {x : Str} {C : Addr} {k : Nat} {ps ks : List Str} {sp : Sp} (h : HasCX P w K mg base x C k ps ks sp) : HasC P w K mg base x C k ps (fun vs H Q _ => sp vs H Q E0) := by
  obtain ⟨f, fd, F, a, b, c, _⟩ := h.ex
  exact ⟨f, fd, fnOk_calm F, a, b, c⟩
theorem HasCX.calmK {P : Program} {w : World} {K : PySem.W.Frag} {mg : Str → Option Value} {base : Heap} {x : Str} {C : Addr} {k : Nat} {ps ks : List Str} {sp : Sp} (h : HasCX P w K mg base x C k ps ks sp) : HasCK P w K mg base x C k ps ks (fun vs H Q _ => sp vs H Q E0) := by
  obtain ⟨f, fd, F, a, b, _, c⟩ := h.ex
  exact ⟨f, fd, fnOk_calm F, a, b, c⟩
theorem HasC.imp {P : Program} {w : World} {K : PySem.W.Frag} {mg : Str → Option Value} {base : Heap} {x : Str} {C : Addr} {k : Nat} {ps : List Str} {sp sp' : Sp} (h : HasC P w K mg base x C k ps sp) (i : ∀ vs H Q E, sp' vs H Q E → sp vs H Q E) : HasC P w K mg base x C k ps sp' := by
  obtain ⟨f, fd, F, a, b, c⟩ := h.ex
  exact ⟨f, fd, F.imp i, a, b, c⟩
def tMakeX (C : Addr) (sp : Sp) (W : WX) (t : TA) : TE := fun σ H Q => t σ H fun vs H1 => ∀ x dx, H1 x = none → H1 dx = none → dx ≠ x → sp (.ref x :: vs) (upd (upd H1 dx (.own x)) x (.ins C dx [])) (fun v H2 => v = .non ∧ Q (.ref x) H2) (WE W σ)
section
variable {X : Cx} {C f : Addr} {fd : FuncData} {x : Str} {k : Nat} {ps ks : List Str} {sp : Sp} {e : Expr} {es : List Expr} {kws : List Keyword} {p pos : Pos} {t tk : TA} {W : WX} {σ : L2.St} {H : Hp} {Q : VK}
theorem run_makeX {pins : List (Addr × Obj)} {s : Shared} {us : List Value} {vs : List V} (M : Mk X.K C f) (F : FnOk X.prog X.w X.K X.mg X.base (L2.CX X.prog X.w) k f fd ps sp) (hr : Room (k + 1) X.A) (hb : Binds X.K fd ps []) (tk : Takes X W) (I : Inv X pins σ H s) (r : Vals vs us)
    (h : ∀ x dx, H x = none → H dx = none → dx ≠ x → sp (.ref x :: vs) (upd (upd H dx (.own x)) x (.ins C dx [])) (fun v H2 => v = .non ∧ Q (.ref x) H2) (WE W σ)) :
    wpAny (model X.prog X.w) X.A (call (.ref C) us) (EP X pins σ Q) X.xe s := by
  have hq := h (s.heap.objs.size + 1) s.heap.objs.size (I.hok.fresh (Nat.le_succ _)) (I.hok.fresh (Nat.le_refl _)) (Nat.ne_of_lt (Nat.lt_succ_self _))
  have I2 := Inv.made (C := C) I
  have r2 : Vals (V.ref (s.heap.objs.size + 1) :: vs) (Value.ref (s.heap.objs.size + 1) :: us) := .cons rfl r
  have hl : (Value.ref (s.heap.objs.size + 1) :: us).length = ps.length := by
    have e := r2.length
    rw [F.len _ _ _ _ hq] at e
    exact e.symm
  have hbb := hb _ (Value.ref (s.heap.objs.size + 1) :: us) I2.kIn (by rw [List.append_nil]; exact hl)
  rw [List.append_nil] at hbb
  refine wpAny_call (make_map (f := f) I.kIn M.makes M.init (beq_iff_eq.mp M.fn) (codeAny_mono (F.run _ X.stack _ _ ⟨Value.ref (s.heap.objs.size + 1) :: us, []⟩ (Value.ref (s.heap.objs.size + 1) :: us) _ _ (WE W σ) (hr.make C us [])
    (I2.env0.make C us []) hbb r2 hq) fun r s' hq' => ?_))
  cases r with
  | error e => exact tk e s' (XE.of_call I2 (fun _ _ _ h => h) hq')
  | ok fl =>
    cases fl with
    | ret u =>
      obtain ⟨v, H', I3, rv, ev, q3⟩ := I2.after hq'
      subst ev
      exact ⟨rv, ⟨V.ref (s.heap.objs.size + 1), H', I3, rfl, q3⟩⟩
    | next => exact False.elim hq'
    | brk => exact False.elim hq'
    | cont => exact False.elim hq'
theorem pe_makeX (h : HasCX X.prog X.w X.K X.mg X.base x C k ps ks sp) (hr : Room (k + 1) X.A) (tk : Takes X W) (ha : PA X (e :: es) t) (hg : Gl X x := by rfl) (hdb : (x == ("__debug__" : Str)) = false := by decide)
    (he : starEach (e :: es) X.env = (false, eval e X.env) :: starEach es X.env := by rfl) (hpl : (backTo pos (starEach es X.env)).any (·.1) = false := by rfl) : PE X (.Call (.Name x p) (e :: es) [] pos) (tMakeX C sp W t) := by
  obtain ⟨f, fd, F, M, hm, b, _⟩ := h.ex
  refine ⟨fun pins s σ H Q I h => ?_⟩
  refine wpAny_Call_Name_kw (ld_glob I hg hm ?_ hdb)
  refine PySem.W.callWith_K (h₀ := X.base) I.ok.mod.kin M.kp (thn (ha.run pos pins s σ H _ I h) fun us s1 ⟨vs, H1, I1, r, q⟩ => ⟨I1.kIn, ?_⟩) he hpl
  exact run_makeX M F hr b tk I1 r q
theorem pe_makeXK (h : HasCX X.prog X.w X.K X.mg X.base x C k ps ks sp) (hr : Room (k + 1) X.A) (tx : Takes X W) (hkw : PK X kws tk) (hk : ks.length + 1 = ps.length := by rfl) (hg : Gl X x := by rfl)
    (hall : (backToKw pos (keywordEach kws X.env)).all (·.1.isSome) = true := by rfl) (hks : (backToKw pos (keywordEach kws X.env)).filterMap (·.1) = ks := by rfl) (hdb : (x == ("__debug__" : Str)) = false := by decide)
    (hpl : ((backTo pos (starEach [] X.env)).any (·.1) || (backToKw pos (keywordEach kws X.env)).any (·.1.isNone)) = false := by rfl) : PE X (.Call (.Name x p) [] kws pos) (tMakeX C sp W tk) := by
  obtain ⟨f, fd, F, M, hm, _, b⟩ := h.ex
  refine ⟨fun pins s σ H Q I h => ?_⟩
  refine wpAny_Call_Name_kw (ld_glob I hg hm ?_ hdb)
  refine PySem.W.callWith_KW0 (h₀ := X.base) I.ok.mod.kin M.kp hall (thn (hkw.run pos pins s σ H _ I h) fun ws s2 ⟨zs, H2, I2, rz, q2⟩ => ⟨I2.kIn, ?_⟩) hpl
  rw [hks]
  have hq := q2 (s2.heap.objs.size + 1) s2.heap.objs.size (I2.hok.fresh (Nat.le_succ _)) (I2.hok.fresh (Nat.le_refl _)) (Nat.ne_of_lt (Nat.lt_succ_self _))
  have I3 := Inv.made (C := C) I2
  have hl : ws.length = ks.length := by
    have := F.len _ _ _ _ hq
    have := rz.length
    simp at *
    omega
  refine wpAny_call (make_map (f := f) I2.kIn M.makes M.init (beq_iff_eq.mp M.fn) (codeAny_mono (F.run _ X.stack _ _ ⟨[Value.ref (s2.heap.objs.size + 1)], ks.zip ws⟩ (Value.ref (s2.heap.objs.size + 1) :: ws) (V.ref (s2.heap.objs.size + 1) :: zs) _ (WE W σ) (hr.make C [] (ks.zip ws))
    (I3.env0.make C [] (ks.zip ws)) (b.to _ (Value.ref (s2.heap.objs.size + 1)) ws I3.kIn hl) (.cons (show RelV (V.ref (s2.heap.objs.size + 1)) (Value.ref (s2.heap.objs.size + 1)) from rfl) rz) hq) fun r s' hq' => ?_))
  cases r with
  | error e => exact tx e s' (XE.of_call I3 (fun _ _ _ h => h) hq')
  | ok fl =>
    cases fl with
    | ret u =>
      obtain ⟨v, H', I4, rv, ev, q3⟩ := I3.after hq'
      subst ev
      exact ⟨rv, ⟨V.ref (s2.heap.objs.size + 1), H', I4, rfl, q3⟩⟩
    | next => exact False.elim hq'
    | brk => exact False.elim hq'
    | cont => exact False.elim hq'
theorem r_makeX (q : t σ H fun vs H1 => ∀ x dx, H1 x = none → H1 dx = none → dx ≠ x → sp (.ref x :: vs) (upd (upd H1 dx (.own x)) x (.ins C dx [])) (fun v H2 => v = .non ∧ Q (.ref x) H2) (WE W σ)) : tMakeX C sp W t σ H Q := q
end
/-! ### values that are no terms, no lists of terms -/
section
variable {K : PySem.W.Frag} {H H' : Hp} {v : V}
/-- of a type that is not T -/
def NotTy (K : PySem.W.Frag) (T : String) (H : Hp) (v : V) : Prop := ∃ t, TyE K H v t ∧ PySem.W.kitOne K t (.type T) = some false
def NotTerm (K : PySem.W.Frag) (H : Hp) (v : V) : Prop := NotTy K "tuple" H v ∨ ∃ p xs, v = .ref p ∧ H p = some (.tup xs) ∧ (xs.length ≠ 2 ∧ xs.length ≤ 1000 ∨ ∃ x y, xs = [x, y] ∧ (NotInt K H x ∨ ∃ i, x = .int i ∧ NotInt K H y))
def IsTerm (H : Hp) (v : V) : Prop := ∃ p x y, v = .ref p ∧ H p = some (.tup [.int x, .int y])
def BadList (K : PySem.W.Frag) (H : Hp) (v : V) : Prop := NotTy K "list" H v ∨ ∃ l xs, v = .ref l ∧ H l = some (.lst xs) ∧ xs.length ≤ 1000 ∧ (∀ x ∈ xs, (∀ H', Same H H' → NotTerm K H' x) ∨ IsTerm H x) ∧ ∃ x ∈ xs, ∀ H', Same H H' → NotTerm K H' x
end
end My

set_option Elab.async false
set_option linter.all false
set_option maxRecDepth 100000
set_option maxHeartbeats 2000000
namespace My
open PySem PySem.Spec PyProof.Rows L2
section
variable {K : PySem.W.Frag} {mg : Str → Option Value} {C : Addr} {H H' : Hp} {b p q l D : Addr} {x y v : V} {xs : List V}
theorem nb_tup (hb : Bag H b) (h : H p = some (.tup xs)) : p ≠ b := by
  rintro rfl
  obtain ⟨_, _, _, e, _⟩ := hb
  rw [h] at e; cases e
theorem nb_lst (hb : Bag H b) (h : H p = some (.lst xs)) (n : xs.length ≠ 3) : p ≠ b := by
  rintro rfl
  obtain ⟨_, _, _, e, _⟩ := hb
  rw [h] at e; cases e; exact n rfl
theorem nb_exo {c : Value} (hb : Bag H b) (h : H p = some (ExO c p)) : p ≠ b := by
  rintro rfl
  obtain ⟨_, _, _, e, _⟩ := hb
  rw [h] at e; cases e
/-- whatever the bag does, v is no integer, no term, no list of terms -/
def NotIntB (K : PySem.W.Frag) (H : Hp) (b : Addr) (v : V) : Prop := ∀ H', But b H H' → NotInt K H' v
def WrongB (K : PySem.W.Frag) (H : Hp) (b : Addr) (v : V) : Prop := ∀ H', But b H H' → NotTerm K H' v
def BadB (K : PySem.W.Frag) (H : Hp) (b : Addr) (v : V) : Prop := ∀ H', But b H H' → BadList K H' v
theorem NotIntB.but (h : NotIntB K H b v) (s : But b H H') : NotIntB K H' b v := fun H2 s2 => h H2 (s.trans s2)
theorem WrongB.but (h : WrongB K H b v) (s : But b H H') : WrongB K H' b v := fun H2 s2 => h H2 (s.trans s2)
theorem BadB.but (h : BadB K H b v) (s : But b H H') : BadB K H' b v := fun H2 s2 => h H2 (s.trans s2)
theorem BadB.now (h : BadB K H b v) : BadList K H v := h H (But.refl _ _)
theorem WrongB.all (h : WrongB K H b v) : ∀ H', Same H H' → NotTerm K H' v := fun H' s => h H' (Same.but s b)
theorem ib_bl (c : Bool) : NotIntB K H b (.bl c) := fun H' _ => (ni_bl c).now
theorem ib_str (c : Str) : NotIntB K H b (.str c) := fun H' _ => (ni_str c).now
theorem ib_non : NotIntB K H b .non := fun H' _ => ni_non.now
theorem ib_tup (hb : Bag H b) (h : H p = some (.tup xs)) : NotIntB K H b (.ref p) := fun H' s => (ni_tup (s _ _ (nb_tup hb h) h)).now
theorem ib_lst (hb : Bag H b) (h : H p = some (.lst xs)) (n : xs.length ≠ 3) : NotIntB K H b (.ref p) := fun H' s => (ni_lst (s _ _ (nb_lst hb h n) h)).now
theorem kk {a c : String} (h : kitB a c = some false) : PySem.W.kitOne K (.type a) (.type c) = some false := kit_ty h
theorem wb_bl (c : Bool) : WrongB K H b (.bl c) := fun _ _ => .inl ⟨_, .x ty_bl, kk (by decide +kernel)⟩
theorem wb_int (c : Int) : WrongB K H b (.int c) := fun _ _ => .inl ⟨_, .x ty_int, kk (by decide +kernel)⟩
theorem wb_str (c : Str) : WrongB K H b (.str c) := fun _ _ => .inl ⟨_, .x ty_str, kk (by decide +kernel)⟩
theorem wb_non : WrongB K H b .non := fun _ _ => .inl ⟨_, .x (.base .non), kk (by decide +kernel)⟩
theorem wb_lst (hb : Bag H b) (h : H p = some (.lst xs)) (n : xs.length ≠ 3) : WrongB K H b (.ref p) := fun _ s => .inl ⟨_, .x (ty_lst (s _ _ (nb_lst hb h n) h)), kk (by decide +kernel)⟩
theorem wb_exc (hb : Bag H b) (h : H p = some (ExO (.ref D) p)) (F : ExcTy K D) (s1 : PySem.W.subIn K (.ref D) (.type "tuple") = some false) : WrongB K H b (.ref p) := fun _ s => .inl ⟨_, .exc (s _ _ (nb_exo hb h) h) F, kit_ownB s1⟩
theorem wb_len (hb : Bag H b) (h : H p = some (.tup xs)) (n : xs.length ≠ 2) (l : xs.length ≤ 1000) : WrongB K H b (.ref p) := fun _ s => .inr ⟨p, xs, rfl, s _ _ (nb_tup hb h) h, .inl ⟨n, l⟩⟩
theorem wb_fst (hb : Bag H b) (h : H p = some (.tup [x, y])) (n : NotIntB K H b x) : WrongB K H b (.ref p) := fun _ s => .inr ⟨p, _, rfl, s _ _ (nb_tup hb h) h, .inr ⟨x, y, rfl, .inl (n _ s)⟩⟩
theorem wb_snd {i : Int} (hb : Bag H b) (h : H p = some (.tup [.int i, y])) (n : NotIntB K H b y) : WrongB K H b (.ref p) := fun _ s => .inr ⟨p, _, rfl, s _ _ (nb_tup hb h) h, .inr ⟨.int i, y, rfl, .inr ⟨i, rfl, n _ s⟩⟩⟩
theorem wb_poly {ts : Terms} (hb : Bag H b) (T : PolyT K mg C) (h : PolyAt C H p ts) : WrongB K H b (.ref p) := fun _ s => by
  obtain ⟨dx, r, vs, h1, _⟩ := h.stay (Stay.bag s hb)
  exact .inl ⟨_, .x (ty_poly T h1), kit_ownB T.tTup⟩
theorem ib_poly {ts : Terms} (hb : Bag H b) (T : PolyT K mg C) (h : PolyAt C H p ts) : NotIntB K H b (.ref p) := fun _ s => by
  obtain ⟨dx, r, vs, h1, _⟩ := h.stay (Stay.bag s hb)
  exact ⟨_, false, false, .x (ty_poly T h1), kit_ownB T.tInt, kit_ownB T.tBool, rfl⟩
theorem bb_bl (c : Bool) : BadB K H b (.bl c) := fun _ _ => .inl ⟨_, .x ty_bl, kk (by decide +kernel)⟩
theorem bb_int (c : Int) : BadB K H b (.int c) := fun _ _ => .inl ⟨_, .x ty_int, kk (by decide +kernel)⟩
theorem bb_str (c : Str) : BadB K H b (.str c) := fun _ _ => .inl ⟨_, .x ty_str, kk (by decide +kernel)⟩
theorem bb_non : BadB K H b .non := fun _ _ => .inl ⟨_, .x (.base .non), kk (by decide +kernel)⟩
theorem bb_tup (hb : Bag H b) (h : H p = some (.tup xs)) : BadB K H b (.ref p) := fun _ s => .inl ⟨_, .x (ty_tup (s _ _ (nb_tup hb h) h)), kk (by decide +kernel)⟩
theorem bb_exc (hb : Bag H b) (h : H p = some (ExO (.ref D) p)) (F : ExcTy K D) (s1 : PySem.W.subIn K (.ref D) (.type "list") = some false) : BadB K H b (.ref p) := fun _ s => .inl ⟨_, .exc (s _ _ (nb_exo hb h) h) F, kit_ownB s1⟩
theorem bb_poly {ts : Terms} (hb : Bag H b) (T : PolyT K mg C) (h : PolyAt C H p ts) : BadB K H b (.ref p) := fun _ s => by
  obtain ⟨dx, r, vs, h1, _⟩ := h.stay (Stay.bag s hb)
  exact .inl ⟨_, .x (ty_poly T h1), kit_ownB T.tList⟩
theorem bb_lst (hb : Bag H b) (h : H l = some (.lst xs)) (nl : l ≠ b) (ln : xs.length ≤ 1000) (ha : ∀ x ∈ xs, WrongB K H b x ∨ IsTerm H x) (hx : ∃ x ∈ xs, WrongB K H b x) : BadB K H b (.ref l) := fun H' s => .inr ⟨l, xs, rfl, s _ _ nl h, ln, fun x hx => (ha x hx).imp (fun w => (w.but s).all) (fun ⟨p, i, j, e, hp⟩ => ⟨p, i, j, e, s _ _ (nb_tup hb hp) hp⟩), let ⟨x, m, w⟩ := hx; ⟨x, m, (w.but s).all⟩⟩
theorem bb_one (hb : Bag H b) (h : H l = some (.lst [x])) (w : WrongB K H b x) : BadB K H b (.ref l) := bb_lst hb h (nb_lst hb h (by simp)) (by simp) (fun y hy => .inl (by rw [List.mem_singleton.mp hy]; exact w)) ⟨x, by simp, w⟩
theorem atI_mem {xs : List V} {n : Int} (h0 : 0 ≤ n) (h1 : n < xs.length) : ∃ v, v ∈ xs ∧ atI xs n = some v := by
  have h2 : n.toNat < xs.length := by omega
  refine ⟨xs[n.toNat], List.getElem_mem h2, ?_⟩
  unfold atI ixN
  rw [if_pos h0, if_pos h1]
  exact List.getElem?_eq_getElem h2
/-! ### lists of truths as data -/
theorem dp_bools : ∀ bs : List Bool, DpAll K H (bs.map V.bl) (bs.map PyData.bool)
  | [] => .nil
  | c :: bs => .cons (.bl c) (dp_bools bs)
theorem eqv_bools : ∀ bs cs : List Bool, PyData.eqvAll (bs.map PyData.bool) (cs.map PyData.bool) = decide (bs = cs)
  | [], [] => by simp [PyData.eqvAll]
  | [], _ :: _ => by simp [PyData.eqvAll]
  | _ :: _, [] => by simp [PyData.eqvAll]
  | c :: bs, d :: cs => by
    rw [List.map_cons, List.map_cons, PyData.eqvAll, eqv_bools bs cs]
    cases c <;> cases d <;> simp [PyData.eqv]
theorem shaped_bools (bs : List Bool) : SeqAt.shaped (.list (bs.map PyData.bool)) = true := (Lay.list (n := 1) fun x hx => by
  obtain ⟨c, _, rfl⟩ := List.mem_map.mp hx
  exact ⟨by simp [PyData.canLay0], by simp [PyData.depth]⟩).shaped (by decide)
theorem r_eqBs {Q : VK} {l m : Addr} {bs cs : List Bool} (h : H l = some (.lst (bs.map V.bl))) (h' : H m = some (.lst (cs.map V.bl))) (q : Q (.bl (decide (bs = cs))) H) : rEqD K (.ref l) (.ref m) H Q :=
  ⟨_, _, .lst (.of h) (dp_bools bs), .lst (.of h') (dp_bools cs), shaped_bools bs, shaped_bools cs, by rw [PyData.eqv, eqv_bools]; exact q⟩
theorem r_neBs {Q : VK} {l m : Addr} {bs cs : List Bool} (h : H l = some (.lst (bs.map V.bl))) (h' : H m = some (.lst (cs.map V.bl))) (q : Q (.bl (!decide (bs = cs))) H) : rNeD K (.ref l) (.ref m) H Q :=
  ⟨_, _, .lst (.of h) (dp_bools bs), .lst (.of h') (dp_bools cs), shaped_bools bs, shaped_bools cs, by rw [PyData.eqv, eqv_bools]; exact q⟩
def rNotNN : R2 := fun x y H Q => y = .non ∧ Q (.bl (!decide (x = .non))) H
theorem op_notNN {X : Cx} : OpR X (compareOp .IsNot) rNotNN := op_notN
theorem r_notNR {Q : VK} {a : Addr} (q : Q (.bl true) H) : rNotNN (.ref a) .non H Q := ⟨rfl, by rw [decide_eq_false (by intro h; cases h)]; exact q⟩
theorem r_notNN {Q : VK} (q : Q (.bl false) H) : rNotNN .non .non H Q := ⟨rfl, by rw [decide_eq_true rfl]; exact q⟩
end
end My

set_option Elab.async false
set_option linter.all false
set_option maxRecDepth 100000
namespace My
open PySem PySem.Spec PyProof.Rows L2
/-! ### numbers within bounds -/
structure Numb (c : Int → Int) (N : Int) (B : Nat) : Prop where
  supp : ∀ k, c k ≠ 0 → -N ≤ k ∧ k ≤ N
  bd : ∀ k, (c k).natAbs ≤ B
  tm : ∃ ts : Terms, ∀ k, cof ts k = c k
theorem Numb.mono {c : Int → Int} {N N' : Int} {B B' : Nat} (h : Numb c N B) (n : N ≤ N') (b : B ≤ B') : Numb c N' B' := ⟨fun k hk => by have := h.supp k hk; omega, fun k => Nat.le_trans (h.bd k) b, h.tm⟩
theorem Numb.ext {c d : Int → Int} {N : Int} {B : Nat} (h : Numb c N B) (e : ∀ k, c k = d k) : Numb d N B := by rwa [show d = c from funext fun k => (e k).symm]
theorem Numb.len {c : Int → Int} {N : Int} {B : Nat} {ts : Terms} (h : Numb c N B) (hc : Canon ts) (e : ∀ k, cof ts k = c k) : ts.length ≤ (2 * N + 1).toNat := by
  have : ts.length ≤ ((List.range (2 * N + 1).toNat).map fun i => (((i : Nat) : Int) - N, (0 : Int))).length := hc.le_len fun p hp => by
    have := h.supp p.1 (by rw [← e, hc.at hp]; exact hc.nz p hp)
    rw [List.map_map]
    exact List.mem_map.mpr ⟨(p.1 + N).toNat, List.mem_range.mpr (by omega), show ((p.1 + N).toNat : Int) - N = p.1 by omega⟩
  rwa [List.length_map, List.length_range] at this
theorem Numb.sm {c : Int → Int} {N : Int} {B : Nat} (h : Numb c N B) (b : B ≤ 10 ^ 1000) : Sm c := fun k => Nat.lt_of_le_of_lt (Nat.le_trans (h.bd k) b) (by decide +kernel)
theorem Numb.shift {c : Int → Int} {N s M : Int} {B : Nat} (h : Numb c N B) (a : -M ≤ s) (b : s ≤ M) : Numb (fun k => c (k - s)) (N + M) B := ⟨fun k hk => by have := h.supp _ hk; omega, fun k => h.bd _, by
  obtain ⟨ts, e⟩ := h.tm
  exact ⟨shiftT s ts, fun k => (cof_shift s ts k).trans (e _)⟩⟩
theorem Numb.add {c d : Int → Int} {N M : Int} {B D : Nat} (h : Numb c N B) (g : Numb d M D) (l : M ≤ N) : Numb (fun k => c k + d k) N (B + D) := ⟨fun k hk => by
  by_cases e : c k = 0
  · have := g.supp k (fun z => hk (by rw [e, z]; rfl)); omega
  · exact h.supp k e, fun k => by have := h.bd k; have := g.bd k; omega, by
  obtain ⟨ts, e⟩ := h.tm
  obtain ⟨us, f⟩ := g.tm
  exact ⟨ts ++ us, fun k => by rw [cof_app, e, f]⟩⟩
theorem Numb.mul {c d : Int → Int} {N M : Int} {B D n : Nat} {ts : Terms} (h : Numb c N B) (g : Numb d M D) (hc : Canon ts) (e : ∀ k, cof ts k = c k) (l : ts.length ≤ n) : Numb (mulF c d) (N + M) (n * (B * D)) := by
  obtain ⟨us, f⟩ := g.tm
  have z : ∀ k, mulF c d k = cmul ts d k := fun k => by rw [mulF_of e f, cmul_extr ts k f]
  refine ⟨fun k hk => ?_, fun k => ?_, ⟨prodT ts us, fun k => (cof_prod ts us k).trans (mulF_of e f k).symm⟩⟩
  · rw [z] at hk
    have key : ∀ (l : Terms), (∀ p ∈ l, -N ≤ p.1 ∧ p.1 ≤ N) → cmul l d k ≠ 0 → -(N + M) ≤ k ∧ k ≤ N + M := by
      intro l
      induction l with
      | nil => intro _ h; exact absurd rfl h
      | cons p l ih =>
        intro hp h
        by_cases y : d (k - p.1) = 0
        · rw [cmul, y, Int.mul_zero, Int.zero_add] at h
          exact ih (fun q hq => hp q (.tail _ hq)) h
        · have := g.supp _ y
          have := hp p (.head _)
          omega
    exact key ts (fun p hp => h.supp _ (by rw [← e, hc.at hp]; exact hc.nz p hp)) hk
  · rw [z]
    exact Nat.le_trans (cmul_le g.bd k (hc.num fun j => by rw [e]; exact h.bd j)) (Nat.mul_le_mul_right _ l)
theorem DivC.numb {c : Int → Int} {w : Int} {M : Nat} {ts : Terms} (h : DivC c w M) (e : ∀ k, cof ts k = c k) : Numb c w M := ⟨fun k hk => by
  have a := h.w0
  have : ¬ k < 0 := fun z => hk (h.low _ z)
  have : ¬ w < k := fun z => hk (h.high _ z)
  omega, h.bd, ts, e⟩
theorem DivC.len {c : Int → Int} {w : Int} {M : Nat} {ts : Terms} (h : DivC c w M) (hc : Canon ts) (e : ∀ k, cof ts k = c k) : ts.length ≤ (w + 1).toNat := by
  have w0 := h.w0
  have : ts.length ≤ ((List.range (w + 1).toNat).map fun i => (((i : Nat) : Int), (0 : Int))).length := hc.le_len fun p hp => by
    have nz : c p.1 ≠ 0 := by rw [← e, hc.at hp]; exact hc.nz p hp
    have : ¬ p.1 < 0 := fun z => nz (h.low _ z)
    have : ¬ w < p.1 := fun z => nz (h.high _ z)
    rw [List.map_map]
    exact List.mem_map.mpr ⟨p.1.toNat, List.mem_range.mpr (by omega), show ((p.1.toNat : Nat) : Int) = p.1 by omega⟩
  rwa [List.length_map, List.length_range] at this
/-- quotient and rest, with all that the law wants -/
structure Div05 (c cb : Int → Int) (w : Int) (qs rs : Terms) : Prop where
  eq : ∀ k, c k = mulF cb (cof qs) k + cof rs k
  low : ∀ k, k < 0 → cof rs k = 0
  high : ∀ k, w ≤ k → cof rs k = 0
  ql : qs.length ≤ 1401
  smq : Sm (cof qs)
theorem Div05.unique {c cb : Int → Int} {w : Int} {qs rs qs' rs' : Terms} {M : Nat} {ds : Terms} (D : DivC cb w M) (hc : Canon ds) (e : ∀ k, cof ds k = cb k) (h : Div05 c cb w qs rs) (eq : ∀ k, c k = mulF cb (cof qs') k + cof rs' k) (low : ∀ k, k < 0 → cof rs' k = 0) (high : ∀ k, w ≤ k → cof rs' k = 0) :
    (∀ k, cof qs k = cof qs' k) ∧ ∀ k, cof rs k = cof rs' k := by
  have m : ∀ (us : Terms) k, mulF cb (cof us) k = cmul us (cof ds) k := fun us k => by rw [mulF_of e (fun _ => rfl), cmul_comm]
  exact DivR.unique (c := c) (D.divT hc e) ⟨fun k => by rw [h.eq, m], h.low, h.high⟩ ⟨fun k => by rw [eq, m], low, high⟩
theorem divOk_05 {ts ds : Terms} {w N : Int} {c cb : Int → Int} {B : Nat} (hc : Canon ts) (hd : Canon ds) (e : ∀ k, cof ts k = c k) (f : ∀ k, cof ds k = cb k) (nb : Numb c N B) (hN : N ≤ 700) (hB : B ≤ 10 ^ 100) (D : DivC cb w 100000000) (w60 : w ≤ 60) : DivOk ts ds w ∧ Near ts ∧ stepsD ts w ≤ 1401 := by
  have w0 := D.w0
  have l1 := nb.len hc e
  have l2 := D.len hd f
  have st : stepsD ts w ≤ 1401 := by
    unfold stepsD
    cases h : ts.head? with
    | none => exact Nat.zero_le _
    | some p =>
      cases h' : ts.getLast? with
      | none => exact Nat.zero_le _
      | some q =>
        have h1 := nb.supp p.1 (by rw [← e, hc.at (mem_head h)]; exact hc.nz p (mem_head h))
        have h2 := nb.supp q.1 (by rw [← e, hc.at (List.mem_of_getLast? h')]; exact hc.nz q (List.mem_of_getLast? h'))
        show (q.1 - w + 1).toNat + (-p.1).toNat ≤ 1401
        omega
  have l4 : stepsD ts w * ds.length ≤ 1401 * 61 := Nat.mul_le_mul st (by omega)
  refine ⟨⟨by omega, by omega, B, 100000000, fun k => by rw [e]; exact nb.bd k, fun k => by rw [f]; exact D.bd k, by unfold BG; exact Nat.lt_of_lt_of_le (by decide : 100000000 < 2 ^ 40) (Nat.pow_le_pow_right (by decide) (by decide)), ?_⟩, fun p hp => ?_, st⟩
  · refine Nat.lt_of_le_of_lt (Nat.mul_le_mul (by omega : 1 + stepsD ts w ≤ 1402) (Nat.mul_le_mul hB (Nat.pow_le_pow_right (by decide) st))) ?_
    unfold BG
    decide +kernel
  · have := nb.supp p.1 (by rw [← e, hc.at hp]; exact hc.nz p hp)
    omega
section
variable {C : Addr} {H : Hp} {Q : VK} {E : XK} {a r j : Addr} {ts : Terms} {w N : Int} {c cb : Int → Int} {B : Nat}
theorem u_div05 (ha : PolyAt C H a ts) (e : ∀ k, cof ts k = c k) (nb : Numb c N B) (hN : N ≤ 700) (hB : B ≤ 10 ^ 100) (hb : BaseAt C H r j w cb 100000000) (w60 : w ≤ 60)
    (q : ∀ t qs rs H', H t = none → Same H H' → Parts C H' t qs rs → Div05 c cb w qs rs → Q (.ref t) H') : spDivision C [.ref a, .ref r] H Q E := by
  obtain ⟨⟨ds, hd, f⟩, hj, D⟩ := hb
  obtain ⟨_, _, _, _, _, _, hc⟩ := id ha
  obtain ⟨_, _, _, _, _, _, hcd⟩ := id hd
  obtain ⟨o1, o2, o3⟩ := divOk_05 hc hcd e f nb hN hB D w60
  refine ⟨a, r, ts, ds, w, rfl, ha, hd, D.divT hcd f, o1, o2, by omega, fun t q' r' qs rs H' nt s ht hq hr R l sm => ?_⟩
  refine q t qs rs H' nt s ⟨q', r', ht, hq, hr⟩ ⟨fun k => ?_, R.low, R.high, by omega, sm⟩
  rw [← e, R.eq, mulF_of f (fun _ => rfl), cmul_comm]
theorem u_flo05 (ha : PolyAt C H a ts) (e : ∀ k, cof ts k = c k) (nb : Numb c N B) (hN : N ≤ 700) (hB : B ≤ 10 ^ 100) (hb : BaseAt C H r j w cb 100000000) (w60 : w ≤ 60)
    (q : ∀ p qs rs H', Same H H' → PolyAt C H' p qs → Div05 c cb w qs rs → Q (.ref p) H') : rOwn2 C (spFloor C) (.ref a) (.ref r) H Q := by
  obtain ⟨⟨ds, hd, f⟩, hj, D⟩ := hb
  obtain ⟨dx, _, _, g1, _, _, hc⟩ := id ha
  obtain ⟨dy, _, _, g2, _, _, hcd⟩ := id hd
  obtain ⟨o1, o2, o3⟩ := divOk_05 hc hcd e f nb hN hB D w60
  refine ⟨a, dx, _, r, dy, _, rfl, rfl, g1, g2, a, r, ts, ds, w, rfl, ha, hd, D.divT hcd f, o1, o2, by omega, fun q' qs rs H' s hq R l sm => ?_⟩
  refine q q' qs rs H' s hq ⟨fun k => ?_, R.low, R.high, by omega, sm⟩
  rw [← e, R.eq, mulF_of f (fun _ => rfl), cmul_comm]
theorem u_parts {t jar : Addr} {qs rs : Terms} {n : Nat} {cj : Int → Int} (hp : Parts C H t qs rs) (hj : JarAt H jar n cj) (hn : n ≤ 90000) (ec : ∀ k, cj k = c k) (hb : BaseAt C H r j w cb 100000000) (w60 : w ≤ 60) (D5 : Div05 c cb w qs rs)
    (q : ∀ l j1 j2 H', H l = none → Same H H' → H' l = some (.lst [.ref j1, .ref j2]) → JarAt H' j1 qs.length (cof qs) → JarAt H' j2 rs.length (cof rs) → Q (.ref l) H') : spBothParts C [.ref t, .ref jar, .ref j] H Q E := by
  obtain ⟨⟨ds, hd, f⟩, hbj, D⟩ := hb
  refine ⟨t, jar, j, qs, rs, n, cj, cb, w, rfl, hp, hj, hn, hbj, by rcases D.ew with e | e <;> rw [e] <;> decide, D.w0, w60, fun k => (ec k).trans (D5.eq k), D5.low, D5.high, D5.ql, fun k => Nat.lt_of_le_of_lt (D.bd k) (by decide +kernel), D5.smq, q⟩
end
/-! ### products of three -/
theorem cmul_rowT (p : Int × Int) (d : Int → Int) : ∀ (us : Terms) (k : Int), cmul (rowT p us) d k = p.2 * cmul us d (k - p.1)
  | [], k => by rw [cmul]; show (0 : Int) = _; simp
  | q :: us, k => by
    have e : rowT p (q :: us) = (p.1 + q.1, p.2 * q.2) :: rowT p us := rfl
    rw [e, cmul, cmul, cmul_rowT p d us k, Int.mul_add, Int.mul_assoc]
    show p.2 * (q.2 * d (k - (p.1 + q.1))) + _ = _
    rw [show k - (p.1 + q.1) = k - p.1 - q.1 by omega]
theorem cmul_prodT (us : Terms) (d : Int → Int) : ∀ (ts : Terms) (k : Int), cmul (prodT ts us) d k = cmul ts (cmul us d) k
  | [], _ => rfl
  | p :: ts, k => by rw [prodT, cmul_app, cmul_rowT, cmul_prodT us d ts k, cmul]
theorem mulF_three {cf cb cw : Int → Int} {tf tb tw : Terms} (hf : ∀ k, cof tf k = cf k) (hb : ∀ k, cof tb k = cb k) (hw : ∀ k, cof tw k = cw k) (k : Int) : mulF (mulF cf cb) cw k = mulF cb (mulF cf cw) k := by
  have e1 : ∀ k, cof (prodT tf tb) k = mulF cf cb k := fun k => (cof_prod tf tb k).trans (mulF_of hf hb k).symm
  have e2 : ∀ k, cof (prodT tf tw) k = mulF cf cw k := fun k => (cof_prod tf tw k).trans (mulF_of hf hw k).symm
  have e3 : ∀ k, cof (prodT tf tb) k = cof (prodT tb tf) k := fun k => by rw [cof_prod, cof_prod, cmul_comm]
  rw [mulF_of e1 hw, mulF_of hb e2, cmul_ext e3 (fun _ => rfl), cmul_prodT]
  exact cmul_extr tb k fun j => (cof_prod tf tw j).symm
/-- one of the things that are divided: a Poly, its dict, the quotient's dict where it is known -/
def Item5 (C : Addr) (cb : Int → Int) (H : Hp) (v : V) : Prop := ∃ (t p jj : Addr) (ts : Terms) (n : Nat) (c : Int → Int) (due : V), v = .ref t ∧ H t = some (.tup [.ref p, .ref jj, due]) ∧ PolyAt C H p ts ∧ (∀ k, cof ts k = c k) ∧ JarAt H jj n c ∧ n ≤ 90000 ∧ Numb c 100 (10 ^ 60) ∧
  (due = .non ∨ ∃ (dj : Addr) (nd : Nat) (cd : Int → Int), due = .ref dj ∧ JarAt H dj nd cd ∧ nd ≤ 90000 ∧ (∃ td, ∀ k, cof td k = cd k) ∧ ∀ k, c k = mulF cb cd k)
theorem Item5.same {C : Addr} {cb : Int → Int} {H H' : Hp} {v : V} (h : Item5 C cb H v) (s : Same H H') : Item5 C cb H' v := by
  obtain ⟨t, p, jj, ts, n, c, due, e, h1, h2, h3, h4, h5, h6, h7⟩ := h
  refine ⟨t, p, jj, ts, n, c, due, e, s _ _ h1, h2.same s, h3, h4.same s, h5, h6, ?_⟩
  rcases h7 with h7 | ⟨dj, nd, cd, e, h8, r⟩
  · exact .inl h7
  · exact .inr ⟨dj, nd, cd, e, h8.same s, r⟩
def spFarOnes (C : Addr) : Sp := fun vs H Q _ => ∃ (b fr wy r j : Addr) (nf nw : Nat) (cf cw cb : Int → Int) (w : Int), vs = [.ref b, .ref fr, .ref wy, .ref r, .ref j] ∧ Bag H b ∧ JarAt H fr nf cf ∧ nf ≤ 59 ∧ Numb cf 64 (10 ^ 40) ∧ JarAt H wy nw cw ∧ nw ≤ 5 ∧ Numb cw 30 (10 ^ 40) ∧ BaseAt C H r j w cb 100000000 ∧ w ≤ 60 ∧
  fr ≠ wy ∧ wy ≠ j ∧ ∀ H', But b H H' → Bag H' b → Q (.bl true) H'
end My

set_option Elab.async false
set_option linter.all false
set_option maxRecDepth 100000
set_option maxHeartbeats 8000000
set_option pp.deepTerms false
set_option pp.deepTerms.threshold 12
set_option pp.maxSteps 1200

namespace My
open PySem PySem.Spec PyProof.Rows L2
section
variable {P : Program} {w : World} {K : PySem.W.Frag} {mg : Str → Option Value} {base : Heap} {C : Addr}
local macro_rules | `(tactic| walk_at "isi") => `(tactic| (first
  | (with_reducible refine r_is_int_int ?_)
  | (with_reducible refine r_is_int_bool ?_)
  | (with_reducible refine r_is_int_str ?_)
  | (with_reducible refine r_is_int_list ?_)
  | (with_reducible refine r_is_int_tuple ?_)
  | (with_reducible refine r_is_bool_int ?_)
  | (with_reducible refine r_is_bool_bool ?_)
  | (with_reducible refine r_is_bool_str ?_)
  | (with_reducible refine r_is_bool_list ?_)
  | (with_reducible refine r_is_bool_tuple ?_)
  | (with_reducible refine r_is_str_int ?_)
  | (with_reducible refine r_is_str_bool ?_)
  | (with_reducible refine r_is_str_str ?_)
  | (with_reducible refine r_is_str_list ?_)
  | (with_reducible refine r_is_str_tuple ?_)
  | ((with_reducible refine r_is_list_int (xs := ?xx) ?hh ?_); (case hh => walk_at "hp"))
  | ((with_reducible refine r_is_list_bool (xs := ?xx) ?hh ?_); (case hh => walk_at "hp"))
  | ((with_reducible refine r_is_list_str (xs := ?xx) ?hh ?_); (case hh => walk_at "hp"))
  | ((with_reducible refine r_is_list_list (xs := ?xx) ?hh ?_); (case hh => walk_at "hp"))
  | ((with_reducible refine r_is_list_tuple (xs := ?xx) ?hh ?_); (case hh => walk_at "hp"))
  | ((with_reducible refine r_is_tuple_int (xs := ?xx) ?hh ?_); (case hh => walk_at "hp"))
  | ((with_reducible refine r_is_tuple_bool (xs := ?xx) ?hh ?_); (case hh => walk_at "hp"))
  | ((with_reducible refine r_is_tuple_str (xs := ?xx) ?hh ?_); (case hh => walk_at "hp"))
  | ((with_reducible refine r_is_tuple_list (xs := ?xx) ?hh ?_); (case hh => walk_at "hp"))
  | ((with_reducible refine r_is_tuple_tuple (xs := ?xx) ?hh ?_); (case hh => walk_at "hp"))
  | (with_reducible refine r_is_NoneType_int ?_)
  | (with_reducible refine r_is_NoneType_bool ?_)
  | (with_reducible refine r_is_NoneType_str ?_)
  | (with_reducible refine r_is_NoneType_list ?_)
  | (with_reducible refine r_is_NoneType_tuple ?_)))
local macro_rules | `(tactic| walk_at "ne") => `(tactic| first | assumption | (refine Ne.symm ?_; assumption) | exact Bag.ne (by assumption) (by assumption) | exact ne_of_none (by assumption) (by assumption))
local macro_rules | `(tactic| walk_at "hp") => `(tactic| (first
  | assumption
  | exact upd_same
  | (refine h_keep ?_ (by assumption); walk_at "hp")
  | (refine (upd_ne (by walk_at "ne")).trans ?_; walk_at "hp")
  | (refine Same.at (by assumption) ?_; walk_at "hp")
  | (refine But.at (by assumption) (by walk_at "ne") ?_; walk_at "hp")
  | (refine But2.at (by assumption) (by walk_at "ne") (by walk_at "ne") ?_; walk_at "hp")))
local macro_rules | `(tactic| walk_at "side") => `(tactic| first | assumption | omega | (refine ⟨?_, ?_⟩ <;> first | assumption | omega | decide) | decide | (refine ⟨by decide, by decide, by decide⟩) | (left; refine ⟨?_, ?_⟩ <;> first | omega | decide) | (right; refine ⟨?_, ?_⟩ <;> first | omega | decide) | (simp; done))
local macro_rules | `(tactic| walk_at "cond") => `(tactic| first | assumption | exact rfl | omega | (simp only [List.length_cons, List.length_nil]; omega) | decide +kernel)
local macro_rules | `(tactic| walk_at "s") => `(tactic| (first
  | ((with_reducible refine r_var (v := ?vv) ?ee ?_); (case ee => exact rfl))
  | (with_reducible refine r_c ?_)
  | (with_reducible refine r_op ?_)
  | (with_reducible refine r_un ?_)
  | (with_reducible refine r_rI0 ?_)
  | ((with_reducible refine r_rI ?cc ?_); (case cc => walk_at "side"))
  | (with_reducible refine r_rU ?_)
  | (with_reducible refine r_eqI ?_)
  | (with_reducible refine r_neI ?_)
  | (with_reducible refine r_eqB ?_)
  | (with_reducible refine r_neB ?_)
  | (with_reducible refine r_eqS ?_)
  | (with_reducible refine r_neS ?_)
  | ((with_reducible refine r_eq ?ee ?_); (case ee => exact rfl))
  | ((with_reducible refine r_ne ?ee ?_); (case ee => exact rfl))
  | ((with_reducible refine r_ixL (v := ?vv) (xs := ?xx) ?hh ?ee ?_); (case hh => (refine SqL.of ?_; walk_at "hp")); (case ee => exact rfl))
  | (with_reducible refine r_cb ?_)
  | (with_reducible refine r_call ?_)
  | (with_reducible refine r_cons ?_)
  | (with_reducible refine r_nil ?_)
  | (with_reducible refine r_lst ?_)
  | (with_reducible refine r_tup ?_)
  | ((with_reducible refine r_new ?cc ?_); (case cc => walk_at "side"))
  | (with_reducible refine r_exbl ?_)
  | (with_reducible refine r_exint ?_)
  | (with_reducible refine r_exint2 ?_)
  | (with_reducible refine r_exblL ?_)
  | (with_reducible refine r_ex2 ?_)
  | (with_reducible refine r_test ?_)
  | (with_reducible refine r_tB ?_)
  | (with_reducible refine r_not ?_)
  | (with_reducible refine r_and ?_)
  | (with_reducible refine r_or ?_)
  | (with_reducible refine r_andV ?_)
  | (with_reducible refine r_orV ?_)
  | (with_reducible refine r_notV ?_)
  | (with_reducible refine r_tif ?_)
  | (with_reducible refine r_iteT ?_)
  | (with_reducible refine r_iteNT ?_)
  | (with_reducible refine r_iteNF ?_)
  | (with_reducible refine r_iteF ?_)
  | (with_reducible refine r_seq ?_)
  | (with_reducible refine r_next ?_)
  | (with_reducible refine r_brk ?_)
  | (with_reducible refine r_cont ?_)
  | (with_reducible refine r_asg ?_)
  | (with_reducible refine r_gname ?_)
  | (with_reducible refine r_ret ?_)
  | (with_reducible refine r_retN ?_)
  | (with_reducible refine r_drop ?_)
  | (with_reducible refine r_if ?_)
  | ((with_reducible refine r_aug (x := ?xx) ?ee ?_); (case ee => exact rfl))
  | (with_reducible refine r_ipI ?_)
  | (with_reducible refine r_augS ?_)
  | (with_reducible refine r_gsub ?_)
  | ((with_reducible refine r_setL (xs := ?xx) (m := ?mm) ?hh ?ee ?_); (case hh => walk_at "hp"); (case ee => exact rfl))
  | (with_reducible refine r_par ?_)
  | (with_reducible refine r_bm ?_)
  | ((with_reducible refine r_tyL (xs := ?xx) ?hh ?_); (case hh => walk_at "hp"))
  | ((with_reducible refine r_append (xs := ?xx) ?hh ?ll ?_); (case hh => walk_at "hp"); (case ll => walk_at "side"))
  | (walk_at "isi")
  | (with_reducible refine r_for ?_)
  | (with_reducible refine r_iList ?_)
  | (with_reducible refine r_iTup ?_)
  | (with_reducible refine r_iR1 ?_)
  | (with_reducible refine r_iR2 ?_)
  | (with_reducible refine r_lc ?_)
  | (with_reducible refine r_yes ?_)
  | ((with_reducible refine r_lenS ?ll ?_); (case ll => walk_at "side"))
  | (with_reducible refine r_leS ?_)
  | (with_reducible refine r_chain ?_)
  | (with_reducible refine r_tM1 ?_)
  | (with_reducible refine r_exS ?_)
  | ((with_reducible refine r_tupL (xs := ?xx) ?hh ?_); (case hh => walk_at "hp"))
  | ((with_reducible refine r_listL (xs := ?xx) ?hh ?_); (case hh => walk_at "hp"))
  | ((with_reducible refine r_listT (xs := ?xx) ?hh ?_); (case hh => walk_at "hp"))
  | ((with_reducible refine r_ixT (v := ?vv) (xs := ?xx) ?hh ?ee ?_); (case hh => (refine SqT.of ?_; walk_at "hp")); (case ee => exact rfl))
  | (with_reducible refine r_sl ?_)
  | (with_reducible refine r_nopart ?_)
  | (with_reducible refine r_part ?_)
  | (with_reducible refine r_exI ?_)
  | ((with_reducible refine r_slL (xs := ?xx) ?hh ?_); (case hh => first | assumption | (refine SqL.of ?_; walk_at "hp") | (refine Same.seq (by assumption) (by assumption))))
  | ((with_reducible refine r_cat (xs := ?xx) (zs := ?zz) ?hh ?ii ?ll ?_); (case hh => walk_at "hp"); (case ii => walk_at "hp"); (case ll => walk_at "side"))
  | ((with_reducible refine r_lenL (xs := ?xx) ?hh ?_); (case hh => walk_at "hp"))
  | ((with_reducible refine r_lenT (xs := ?xx) ?hh ?_); (case hh => walk_at "hp"))
  | ((with_reducible refine r_gTup (xs := ?xx) ?hh ?ll ?_); (case hh => walk_at "hp"); (case ll => exact rfl))
  | (with_reducible refine r_gCons ?_)
  | (with_reducible refine r_gNil ?_)
  | ((with_reducible refine r_iteDT ?cc ?_); (case cc => walk_at "cond"))
  | ((with_reducible refine r_iteDF ?cc ?_); (case cc => walk_at "cond"))
  | ((with_reducible refine r_iteNDT ?cc ?_); (case cc => walk_at "cond"))
  | ((with_reducible refine r_iteNDF ?cc ?_); (case cc => walk_at "cond"))
  ))
local macro_rules | `(tactic| walk_at "go") => `(tactic| repeat (walk_at "s"))

local macro_rules | `(tactic| walk_at "s") => `(tactic| (first
  | (with_reducible refine r_dnew ?_)
  | (with_reducible refine r_dget2 ?_)
  | (with_reducible refine r_dget ?_)
  | (with_reducible refine r_dput ?_)
  | (with_reducible refine r_dsetd ?_)
  | ((with_reducible refine JarAt.isD (n := ?nn) (c := ?cc) ?hh ?_); (case hh => assumption))
  ))

local macro_rules | `(tactic| walk_at "s") => `(tactic| (first
  | (with_reducible refine r_prop ?_)
  | (with_reducible refine r_meth ?_)
  | (with_reducible refine r_make ?_)
  | (with_reducible refine r_fld ?_)
  | (with_reducible refine r_sfld ?_)
  | (with_reducible refine r_iOwn ?_)
  | ((with_reducible refine u_rowsAt (mg := ?mm) (C := ?CC) (dx := ?dd) (fv := ?vv) ?tt ?hh ?_); (case tt => assumption); (case hh => walk_at "hp"))
  | ((with_reducible refine r_isPoly (mg := ?mm) (dx := ?dd) (fs := ?ff) ?tt ?hh ?_); (case tt => assumption); (case hh => walk_at "hp"))
  | ((with_reducible refine r_isPolyI (mg := ?mm) ?tt ?_); (case tt => assumption))
  | ((with_reducible refine r_polyInt (mg := ?mm) (C := ?CC) (dx := ?dd) (fs := ?ff) ?tt ?hh ?_); (case tt => assumption); (case hh => walk_at "hp"))
  ))

local macro_rules | `(tactic| walk_at "s") => `(tactic| (first
  | ((with_reducible refine r_isNR ?_))
  | ((with_reducible refine r_notNR ?_))
  | ((with_reducible refine r_notNN ?_))
  ))
theorem ok_l_far_ones {f : Addr} {fd : FuncData} (F : Fun K "_law_far_ones" "_law_far_ones" s_l_far_ones f fd) (B : Bl mg) (G_Poly : PolyT K mg C) (h_l_pick : Has P w K mg base "_law_pick" 1 ["_law_bag", "_law_many"] spPick) (h_l_made : Has P w K mg base "_law_made" 7 ["_law_bag", "_law_jar"] (spMade C)) (h_l_times2 : Has P w K mg base "_law_times" 1 ["_law_one", "_law_two"] spTimes2)
   (h_l_moved : Has P w K mg base "_law_moved" 2 ["_law_jar", "_law_shift"] spMoved) (h_l_terms_of : Has P w K mg base "_law_terms_of" 1 ["_law_jar"] spTerms) (h_l_is_poly : Has P w K mg base "_law_is_poly" 4 ["_law_found", "_law_jar"] (spIsPoly C)) (h_l_both_parts : Has P w K mg base "_law_both_parts" 5 ["_law_found", "_law_jar", "_law_base"] (spBothParts C))
   (hm_Poly___mul__ : HasM P w K mg base C "__mul__" 6 ["self", "other"] (spMul C mulF)) (hm_Poly___lshift__ : HasM P w K mg base C "__lshift__" 5 ["self", "number"] (spShift C)) (GI_Poly_lshift : IntOp K C "lshift") (hm_Poly___floordiv__ : HasM P w K mg base C "__floordiv__" 6 ["self", "divisor"] (spFloor C))
   (hm_Poly_divided : HasM P w K mg base C "divided" 6 ["self", "divisor"] (spDivision C)) : FnOk P w K mg base CX0 8 f fd ["_law_bag", "_law_free", "_law_ways", "_law_ring_like", "_law_base"] (spFarOnes C) := by
  refine F.ok sc_l_far_ones (fun vs H Q E h => ?_) (fun cdv A outer s H vs Q E hr h => ?_)
  · obtain ⟨b, fr, wy, r, j, nf, nw, cf, cw, cb, wd, rfl, _⟩ := h
    rfl
  · obtain ⟨b, fr, wy, r, j, nf, nw, cf, cw, cb, wd, rfl, ba, hf, nf59, Nf, hw, nw5, Nw, hB, w60, nefw, newj, k⟩ := h
    have h_l_times := h_l_times2
    obtain ⟨⟨ds, hd, ed⟩, hj, D⟩ := id hB
    obtain ⟨_, _, _, _, _, _, hcd⟩ := id hd
    have dl := D.len hcd ed
    have smb : Sm cb := fun k => Nat.lt_of_le_of_lt (D.bd k) (by decide +kernel)
    have smw : Sm cw := Nw.sm (by decide +kernel)
    have smf : Sm cf := Nf.sm (by decide +kernel)
    refine ⟨_, (pss_cons (ps_set (i := 5) sc_l_far_ones.nd rfl (.inl rfl) pe_int)
    (pss_cutM (ps_if (pt_cmpR op_gt (pe_callB call_lenD (by rfl) B.b_len PySem.boot_len (pa_cons (pv 4) pa_nil)) pe_int (nomark _))
    (pss_one (ps_set (i := 5) sc_l_far_ones.nd rfl (.inl rfl) pe_int))
    pss_nil)
    (pss_cons (ps_set (i := 6) sc_l_far_ones.nd rfl (.inl rfl) (pe_op op_sub (pe_callH h_l_pick (hr.mono (by first | decide | omega)) (pa_cons (pv 0) (pa_cons (pe_op op_add (pe_op op_mul pe_int (pv 5)) pe_int) pa_nil))) (pv 5)))
    (pss_cons (ps_set (i := 7) sc_l_far_ones.nd rfl (.inl rfl) (pe_lst (pa_cons (pe_tup (pa_cons (pe_op (op_own2 (op := .Mult) hm_Poly___mul__ G_Poly.self (hr.mono (by first | decide | omega))) (pe_callH h_l_made (hr.mono (by first | decide | omega)) (pa_cons (pv 0) (pa_cons (pv 2) pa_nil))) (pv 3)) (pa_cons (pe_callH h_l_times (hr.mono (by first | decide | omega)) (pa_cons (pv 4) (pa_cons (pv 2) pa_nil))) (pa_cons (pv 2) pa_nil)))) pa_nil)))
    (pss_cons (ps_for PassesOwn.never rfl (pi_list (pe_op op_cat (pv 7) (pe_lst (pa_cons (pe_tup (pa_cons (pe_callH h_l_made (hr.mono (by first | decide | omega)) (pa_cons (pv 0) (pa_cons (pv 1) pa_nil))) (pa_cons (pv 1) (pa_cons pe_non pa_nil)))) pa_nil)))) (pg_tup (by rfl) (pgs_cons (pg_name (i := 8) sc_l_far_ones.nd rfl (.inl rfl)) (pgs_cons (pg_name (i := 9) sc_l_far_ones.nd rfl (.inl rfl)) (pgs_cons (pg_name (i := 10) sc_l_far_ones.nd rfl (.inl rfl)) pgs_nil))))
    (pss_cons (ps_set (i := 11) sc_l_far_ones.nd rfl (.inl rfl) (pe_op (op_ownI (op := .LShift) hm_Poly___lshift__ G_Poly.self GI_Poly_lshift (hr.mono (by first | decide | omega))) (pv 8) (pv 6)))
    (pss_cons (ps_set (i := 12) sc_l_far_ones.nd rfl (.inl rfl) (pe_callH h_l_both_parts (hr.mono (by first | decide | omega)) (pa_cons (pe_methH G_Poly.cl hm_Poly_divided (hr.mono (by first | decide | omega)) (pv 11) (pa_cons (pv 3) pa_nil)) (pa_cons (pe_callH h_l_moved (hr.mono (by first | decide | omega)) (pa_cons (pv 9) (pa_cons (pv 6) pa_nil))) (pa_cons (pv 4) pa_nil)))))
    (pss_cutM (ps_if (PW.pt (pw_or (pt_cmpR op_isNN (pv 12) pe_non (nomark _)) (pw_or1 (pt_not (pt_val (pe_callH h_l_is_poly (hr.mono (by first | decide | omega)) (pa_cons (pe_op (op_own2 (op := .FloorDiv) hm_Poly___floordiv__ G_Poly.self (hr.mono (by first | decide | omega))) (pv 11) (pv 3)) (pa_cons (pe_ix (ix_listK (K := K)) (pv 12) pe_int (fun _ _ => rfl)) pa_nil))))))))
    (pss_one (ps_ret pe_bl))
    pss_nil)
    (pss_one (ps_if (PW.pt (pw_and (pt_cmpR op_notNN (pv 10) pe_non (nomark _)) (pw_and1 (pt_cmpR (op_neDK (K := K) hr.units) (pe_callH h_l_terms_of (hr.mono (by first | decide | omega)) (pa_cons (pe_ix (ix_listK (K := K)) (pv 12) pe_int (fun _ _ => rfl)) pa_nil)) (pe_callH h_l_terms_of (hr.mono (by first | decide | omega)) (pa_cons (pe_callH h_l_moved (hr.mono (by first | decide | omega)) (pa_cons (pv 10) (pa_cons (pv 6) pa_nil))) pa_nil)) (nomark _)))))
    (pss_one (ps_ret pe_bl))
    pss_nil))))))
    (pss_cons (ps_set (i := 13) sc_l_far_ones.nd rfl (.inl rfl) (pe_op (op_own2 (op := .Mult) hm_Poly___mul__ G_Poly.self (hr.mono (by first | decide | omega))) (pe_op (op_own2 (op := .Mult) hm_Poly___mul__ G_Poly.self (hr.mono (by first | decide | omega))) (pe_callH h_l_made (hr.mono (by first | decide | omega)) (pa_cons (pv 0) (pa_cons (pv 1) pa_nil))) (pv 3)) (pe_callH h_l_made (hr.mono (by first | decide | omega)) (pa_cons (pv 0) (pa_cons (pv 2) pa_nil)))))
    (pss_cons (ps_set (i := 13) sc_l_far_ones.nd rfl (.inl rfl) (pe_methH G_Poly.cl hm_Poly_divided (hr.mono (by first | decide | omega)) (pv 13) (pa_cons (pv 3) pa_nil)))
    (pss_one (ps_ret (pe_and (pe_callH h_l_is_poly (hr.mono (by first | decide | omega)) (pa_cons (pe_ix (ix_tupK (K := K)) (pv 13) pe_int (fun _ _ => rfl)) (pa_cons (pe_callH h_l_times (hr.mono (by first | decide | omega)) (pa_cons (pv 1) (pa_cons (pv 2) pa_nil))) pa_nil))) (pe_one (pe_callH h_l_is_poly (hr.mono (by first | decide | omega)) (pa_cons (pe_ix (ix_tupK (K := K)) (pv 13) pe_int (fun _ _ => rfl)) (pa_cons pe_dnewK pa_nil)))))))))))))), ?_⟩
    walk_at "go"
    refine r_cut (fun σ' H' => ∃ far : Int, H = H' ∧ (far = 300 ∨ far = 60) ∧ σ' = [some (.ref b), some (.ref fr), some (.ref wy), some (.ref r), some (.ref j), some (.int far), none, none, none, none, none, none, none, none]) ?_ ?_
    · walk_at "go"
      obtain ⟨kvs, ekv, _⟩ := id hj
      refine ⟨j, kvs, rfl, ekv, ?_⟩
      walk_at "go"
      refine r_iteD (fun h => ?_) (fun h => ?_)
      · walk_at "go"
        exact ⟨60, rfl, .inr rfl, rfl⟩
      · walk_at "go"
        exact ⟨300, rfl, .inl rfl, rfl⟩
    rintro σ' _ ⟨far, rfl, hfar, rfl⟩
    walk_at "go"
    refine u_pick ba (by omega) (by omega) fun sh0 H1 r0 r1 bu1 b1 => ?_
    walk_at "go"
    generalize hsh : sh0 - far = sh
    have sh1 : -300 ≤ sh := by omega
    have sh2 : sh ≤ 300 := by omega
    have hw1 := hw.but (hw.nb ba) bu1
    have hB1 := hB.but ba bu1
    have hf1 := hf.but (hf.nb ba) bu1
    refine ⟨b, wy, nw, cw, rfl, b1, hw1, by omega, fun p1 ts1 H2 bu2 b2 hp1 e1 l1 => ?_⟩
    have hw2 := hw1.but (hw1.nb b1) bu2
    have hB2 := hB1.but b1 bu2
    have hf2 := hf1.but (hf1.nb b1) bu2
    obtain ⟨⟨ds2, hd2, ed2⟩, hj2, _⟩ := id hB2
    obtain ⟨_, _, _, _, _, _, hc1⟩ := id hp1
    obtain ⟨_, _, _, _, _, _, hcd2⟩ := id hd2
    have dl2 := D.len hcd2 ed2
    walk_at "go"
    have lm : ts1.length * ds2.length ≤ 7 * 61 := Nat.mul_le_mul (by omega) (by omega)
    refine u_mul2 hp1 hd2 (by omega) (fun k => by rw [e1]; exact smw k) (fun k => by rw [ed2]; exact smb k) fun p3 ts3 H3 s3 hp3 e3 l3 => ?_
    walk_at "go"
    have hw3 := hw2.same s3
    have hB3 := hB2.same s3
    have hf3 := hf2.same s3
    have hj3 := hj2.same s3
    have b3 := b2.same s3
    have lj : (wd - 0 + 1).toNat * nw ≤ 61 * 5 := Nat.mul_le_mul (by omega) nw5
    refine ⟨j, wy, _, nw, cb, cw, rfl, newj.symm, hj3.at, hw3, by omega, smb, smw, fun jp H4 njp s4 hjp => ?_⟩
    walk_at "go"
    intro t1 nt1
    walk_at "go"
    intro l1' nl1
    walk_at "go"
    have s5 : Same H4 (upd (upd H4 t1 (.tup [.ref p3, .ref jp, .ref wy])) l1' (.lst [.ref t1])) := Same.new (Same.new0 nt1) nl1
    have ht15 : (upd (upd H4 t1 (.tup [.ref p3, .ref jp, .ref wy])) l1' (.lst [.ref t1])) t1 = some (.tup [.ref p3, .ref jp, .ref wy]) := h_keep upd_same nl1
    have hl15 : (upd (upd H4 t1 (.tup [.ref p3, .ref jp, .ref wy])) l1' (.lst [.ref t1])) l1' = some (.lst [.ref t1]) := upd_same
    generalize upd (upd H4 t1 (.tup [.ref p3, .ref jp, .ref wy])) l1' (.lst [.ref t1]) = H5 at *
    have b5 := b3.same (s4.trans s5)
    have hf5 := hf3.same (s4.trans s5)
    have hw5 := hw3.same (s4.trans s5)
    have hB5 := hB3.same (s4.trans s5)
    have hp35 := hp3.same (s4.trans s5)
    have hjp5 := hjp.at.same s5
    have lb1 : l1' ≠ b := (b3.same (s4.trans (Same.new0 nt1))).ne nl1
    have e3' : ∀ k, cof ts3 k = mulF cb cw k := fun k => by
      rw [e3, mulF_comm (c := cof ts1) (d := cof ds2) (fun _ => rfl) (fun _ => rfl)]
      exact mulF_ext ed2 e1 k
    have Nc : Numb (mulF cb cw) (60 + 30) (61 * (100000000 * 10 ^ 40)) := ((D.numb ed2).mono (N' := 60) (by omega) (Nat.le_refl _)).mul Nw hcd2 ed2 (by omega)
    have it1 : Item5 C cb H5 (.ref t1) := by
      obtain ⟨tw, etw⟩ := Nw.tm
      exact ⟨t1, p3, jp, ts3, _, _, .ref wy, rfl, ht15, hp35, e3', hjp5, by omega, Nc.mono (by omega) (by decide +kernel), .inr ⟨wy, nw, cw, rfl, hw5, by omega, ⟨tw, etw⟩, fun _ => rfl⟩⟩
    refine ⟨b, fr, nf, cf, rfl, b5, hf5, by omega, fun p6 ts6 H6 bu6 b6 hp6 e6 l6 => ?_⟩
    have hf6 := hf5.but (hf5.nb b5) bu6
    have hw6 := hw5.but (hw5.nb b5) bu6
    have hB6 := hB5.but b5 bu6
    have hl16 := bu6 _ _ lb1 hl15
    have it16 : Item5 C cb H6 (.ref t1) := by
      obtain ⟨t, p, jj, ts, n, c, due, e, h1, h2, h3, h4, h5, h6, h7⟩ := it1
      refine ⟨t, p, jj, ts, n, c, due, e, (Stay.bag bu6 b5).tk _ _ h1, h2.stay (Stay.bag bu6 b5), h3, h4.but (h4.nb b5) bu6, h5, h6, ?_⟩
      rcases h7 with h7 | ⟨dj, nd, cd, e, h8, r⟩
      · exact .inl h7
      · exact .inr ⟨dj, nd, cd, e, h8.but (h8.nb b5) bu6, r⟩
    walk_at "go"
    intro t2 nt2
    walk_at "go"
    intro l2' nl2
    refine r_cat (xs := [.ref t1]) (zs := [.ref t2]) (h_keep (h_keep hl16 nt2) nl2) upd_same (by simp) fun l3' nl3 => ?_
    have s7 : Same H6 (upd (upd (upd H6 t2 (.tup [.ref p6, .ref fr, .non])) l2' (.lst [.ref t2])) l3' (.lst ([.ref t1] ++ [.ref t2]))) := Same.new (Same.new (Same.new0 nt2) nl2) nl3
    have ht27 : (upd (upd (upd H6 t2 (.tup [.ref p6, .ref fr, .non])) l2' (.lst [.ref t2])) l3' (.lst ([.ref t1] ++ [.ref t2]))) t2 = some (.tup [.ref p6, .ref fr, .non]) := h_keep (h_keep upd_same nl2) nl3
    have hl37 : (upd (upd (upd H6 t2 (.tup [.ref p6, .ref fr, .non])) l2' (.lst [.ref t2])) l3' (.lst ([.ref t1] ++ [.ref t2]))) l3' = some (.lst ([.ref t1] ++ [.ref t2])) := upd_same
    generalize upd (upd (upd H6 t2 (.tup [.ref p6, .ref fr, .non])) l2' (.lst [.ref t2])) l3' (.lst ([.ref t1] ++ [.ref t2])) = H7 at *
    have b7 := b6.same s7
    have hf7 := hf6.same s7
    have hw7 := hw6.same s7
    have hB7 := hB6.same s7
    have it17 := it16.same s7
    have it27 : Item5 C cb H7 (.ref t2) := ⟨t2, p6, fr, ts6, nf, cf, .non, rfl, ht27, hp6.same s7, e6, hf7, by omega, Nf.mono (by omega) (by decide +kernel), .inl rfl⟩
    have buA : But b H H7 := (((bu1.trans bu2).trans (Same.but (s3.trans (s4.trans s5)) b)).trans bu6).trans (Same.but s7 b)
    clear it1 it16 hl15 hl16 ht15 ht27 hp6 hp35 hp3 hjp5 hjp hf6 hw6 hB6 hf5 hw5 hB5 hf3 hw3 hB3 hj3 hw2 hB2 hf2 hw1 hB1 hf1 b6 b5 b3 b2 b1 s7 s5 s4 s3 hp1 hd2 hj2
    refine u_forL (.of hl37) (fun i σ H' => ∃ (y8 y9 y10 y11 y12 : Option V), σ = [some (.ref b), some (.ref fr), some (.ref wy), some (.ref r), some (.ref j), some (.int far), some (.int sh), some (.ref l1'), y8, y9, y10, y11, y12, none] ∧ Same H7 H') ?_ ?_ ?_ ?_
    · exact ⟨_, _, _, _, _, rfl, Same.refl _⟩
    · rintro i σ H' _ ⟨y8, y9, y10, y11, y12, rfl, s⟩
      exact .of (s _ _ hl37)
    · rintro i v σ H8 hv ⟨y8, y9, y10, y11, y12, rfl, s8⟩
      have it : Item5 C cb H8 v := by
        have hm := List.mem_of_getElem? hv
        rcases List.mem_append.mp hm with hm | hm
        · rw [List.mem_singleton.mp hm]; exact it17.same s8
        · rw [List.mem_singleton.mp hm]; exact it27.same s8
      have hB8 := hB7.same s8
      clear hv
      obtain ⟨t, p, jj, ts, n, c, due, rfl, ht, hp, ep, hjj, nn, Nc', hdue⟩ := it
      have tl := Nc'.len (by obtain ⟨_, _, _, _, _, _, z⟩ := id hp; exact z) ep
      walk_at "go"
      refine u_shl hp (by omega) fun p9 ts9 H9 s9 hp9 e9 l9 => ?_
      have hB9 := hB8.same s9
      have hjj9 := hjj.same s9
      obtain ⟨dx9, _, _, g9, _⟩ := id hp9
      have e9' : ∀ k, cof ts9 k = c (k - sh) := fun k => by rw [e9, ep]
      have Ns := Nc'.shift (M := 300) sh1 sh2
      walk_at "go"
      refine ⟨p9, dx9, _, rfl, g9, rfl, ?_⟩
      walk_at "go"
      refine u_div05 hp9 e9' Ns (by omega) (by decide +kernel) hB9 w60 fun tq qs rs H10 ntq s10 hpq D5 => ?_
      walk_at "go"
      refine ⟨jj, n, c, sh, rfl, hjj9.same s10, nn, fun jm H11 njm s11 hjm => ?_⟩
      have hB11 := hB9.same (s10.trans s11)
      walk_at "go"
      refine u_parts (hpq.same s11) hjm nn (fun _ => rfl) hB11 w60 D5 fun l j1 j2 H12 nl s12 hl hj1 hj2 => ?_
      have hB12 := hB11.same s12
      have hp12 := hp9.same (s10.trans (s11.trans s12))
      have sA := s9.trans (s10.trans (s11.trans s12))
      obtain ⟨q0, r0', hq0, hqq, hrr⟩ := hpq
      obtain ⟨_, _, _, _, _, _, cq⟩ := id hqq
      obtain ⟨_, _, _, _, _, _, crr⟩ := id hrr
      walk_at "go"
      refine r_cut (fun σ' H' => Same H12 H' ∧ σ' = [some (.ref b), some (.ref fr), some (.ref wy), some (.ref r), some (.ref j), some (.int far), some (.int sh), some (.ref l1'), some (.ref p), some (.ref jj), some due, some (.ref p9), some (.ref l), none]) ?_ ?_
      · walk_at "go"
        refine u_flo05 hp12 e9' Ns (by omega) (by decide +kernel) hB12 w60 fun p13 qs3 rs3 H13 s13 hp13 D53 => ?_
        have hl13 := s13 _ _ hl
        walk_at "go"
        have ee := Div05.unique D hcd ed D53 D5.eq D5.low D5.high
        have q3l := D53.ql
        have q5l := D5.ql
        refine ⟨p13, qs3, j1, _, _, rfl, hp13, hj1.same s13, ee.1, by omega, by omega, fun H14 s14 => ?_⟩
        walk_at "go"
        exact ⟨s13.trans s14, rfl⟩
      rintro σ' H13 ⟨s13, rfl⟩
      have hl13 := s13 _ _ hl
      have hj13 := hj1.same s13
      walk_at "go"
      rcases hdue with rfl | ⟨dj, nd, cd, rfl, hdj, ndl, ⟨td, etd⟩, ecd⟩
      · walk_at "go"
        exact ⟨_, _, _, _, _, rfl, s8.trans (sA.trans s13)⟩
      · walk_at "go"
        have q5l := D5.ql
        refine ⟨j1, _, _, rfl, hj13, by omega, fun l4 ts4 H14 nl4 s14 c4 e4 n4 hl4 => ?_⟩
        walk_at "go"
        refine ⟨dj, nd, cd, sh, rfl, hdj.same (sA.trans (s13.trans s14)), ndl, fun jm2 H15 njm2 s15 hjm2 => ?_⟩
        walk_at "go"
        refine ⟨jm2, _, _, rfl, hjm2, ndl, fun l5 ts5 H16 nl5 s16 c5 e5 n5 hl5 => ?_⟩
        have U := Div05.unique (qs' := shiftT sh td) (rs' := []) D hcd ed D5 (fun k => by
          have e0 : ∀ j, cof (shiftT sh td) j = cd (j - sh) := fun j => (cof_shift sh td j).trans (etd _)
          rw [ecd, mulF_comm (c := cb) (d := cof (shiftT sh td)) ed (fun _ => rfl), mulF_ext (e := fun j => cd (j - sh)) (f := cb) e0 (fun _ => rfl), mulF_shift etd ed, mulF_comm ed etd]
          show _ = _ + 0
          omega) (fun _ _ => rfl) (fun _ _ => rfl)
        have et : ts4 = ts5 := c4.ext c5 fun k => by rw [e4, e5, U.1, cof_shift, etd]
        refine r_neT (hl4.same (s15.trans s16)) hl5 ?_
        rw [decide_eq_true et]
        walk_at "go"
        exact ⟨_, _, _, _, _, rfl, s8.trans (sA.trans (s13.trans (s14.trans (s15.trans s16))))⟩
    · rintro σ H8 ⟨y8, y9, y10, y11, y12, rfl, s8⟩
      have b8 := b7.same s8
      have hf8 := hf7.same s8
      have hw8 := hw7.same s8
      have hB8 := hB7.same s8
      walk_at "go"
      refine ⟨b, fr, nf, cf, rfl, b8, hf8, by omega, fun p9 ts9 H9 bu9 b9 hp9 e9 l9 => ?_⟩
      have hf9 := hf8.but (hf8.nb b8) bu9
      have hw9 := hw8.but (hw8.nb b8) bu9
      have hB9 := hB8.but b8 bu9
      obtain ⟨_, _, _, _, _, _, hc9⟩ := id hp9
      obtain ⟨⟨ds9, hd9, ed9⟩, _, _⟩ := id hB9
      obtain ⟨_, _, _, _, _, _, hcd9⟩ := id hd9
      have dl9 := D.len hcd9 ed9
      walk_at "go"
      have lm9 : ts9.length * ds9.length ≤ 61 * 61 := Nat.mul_le_mul (by omega) (by omega)
      refine u_mul2 hp9 hd9 (by omega) (fun k => by rw [e9]; exact smf k) (fun k => by rw [ed9]; exact smb k) fun p10 ts10 H10 s10 hp10 e10 l10 => ?_
      have e10' : ∀ k, cof ts10 k = mulF cf cb k := fun k => (e10 k).trans (mulF_ext e9 ed9 k)
      have N10 : Numb (mulF cf cb) (64 + 60) (61 * (10 ^ 40 * 100000000)) := Nf.mul ((D.numb ed9).mono (N' := 60) (by omega) (Nat.le_refl _)) hc9 e9 (by omega)
      obtain ⟨_, _, _, _, _, _, hc10⟩ := id hp10
      have l10' := N10.len hc10 e10'
      have b10 := b9.same s10
      walk_at "go"
      refine ⟨b, wy, nw, cw, rfl, b10, hw9.same s10, by omega, fun p11 ts11 H11 bu11 b11 hp11 e11 l11 => ?_⟩
      have hp10' := hp10.stay (Stay.bag bu11 b10)
      walk_at "go"
      have lm11 : ts10.length * ts11.length ≤ 249 * 7 := Nat.mul_le_mul (by omega) (by omega)
      refine u_mul2 hp10' hp11 (by omega) (fun k => by rw [e10']; exact N10.sm (by decide +kernel) k) (fun k => by rw [e11]; exact smw k) fun p12 ts12 H12 s12 hp12 e12 l12 => ?_
      have e12' : ∀ k, cof ts12 k = mulF (mulF cf cb) cw k := fun k => (e12 k).trans (mulF_ext e10' e11 k)
      have N12 : Numb (mulF (mulF cf cb) cw) (64 + 60 + 30) (249 * (61 * (10 ^ 40 * 100000000) * 10 ^ 40)) := N10.mul Nw hc10 e10' (by omega)
      have hB11 := (hB9.same s10).but b10 bu11
      have hf11 := (hf9.same s10).but ((hf9.same s10).nb b10) bu11
      have hw11 := (hw9.same s10).but ((hw9.same s10).nb b10) bu11
      obtain ⟨dx12, _, _, g12, _⟩ := id hp12
      have buB : But b H H12 := (((buA.trans (Same.but s8 b)).trans bu9).trans (Same.but s10 b)).trans (bu11.trans (Same.but s12 b))
      have b12 := b11.same s12
      clear hf9 hw9 hB9 hf8 hw8 hB8 hp10 hp10' hp9 bu9 bu11
      walk_at "go"
      refine ⟨p12, dx12, _, rfl, g12, rfl, ?_⟩
      walk_at "go"
      refine u_div05 hp12 e12' N12 (by omega) (by decide +kernel) (hB11.same s12) w60 fun tq qs rs H13 ntq s13 hpq D5 => ?_
      obtain ⟨q0, r0', hq0, hqq, hrr⟩ := hpq
      obtain ⟨tf, etf⟩ := Nf.tm
      obtain ⟨tw, etw⟩ := Nw.tm
      have U := Div05.unique (qs' := prodT tf tw) (rs' := []) D hcd ed D5 (fun k => by
        rw [mulF_three etf ed etw]
        have e0 : ∀ j, mulF cf cw j = cof (prodT tf tw) j := fun j => (mulF_of etf etw j).trans (cof_prod tf tw j).symm
        rw [mulF_ext (e := cb) (f := cof (prodT tf tw)) (fun _ => rfl) e0]
        show _ = _ + 0
        omega) (fun _ _ => rfl) (fun _ _ => rfl)
      have q5l := D5.ql
      have rs0 : rs = [] := by
        obtain ⟨_, _, _, _, _, _, z⟩ := id hrr
        exact z.zero U.2
      subst rs0
      obtain ⟨dq, _, _, gq, _⟩ := id hqq
      obtain ⟨dr, _, _, gr, _⟩ := id hrr
      walk_at "go"
      refine ⟨fr, wy, nf, nw, cf, cw, rfl, nefw, hf11.same (s12.trans s13), hw11.same (s12.trans s13), by have := Nat.mul_le_mul nf59 nw5; omega, smf, smw, fun jx H14 njx s14 hjx => ?_⟩
      have hq14 := s14 _ _ hq0
      have hrr14 := hrr.same s14
      have lx := Nat.mul_le_mul nf59 nw5
      walk_at "go"
      refine ⟨q0, qs, jx, _, _, rfl, hqq.same s14, hjx.at, fun k => (U.1 k).trans ((cof_prod tf tw k).trans (mulF_of etf etw k).symm), by omega, by omega, fun H15 s15 => ?_⟩
      have hq15 := s15 _ _ hq14
      walk_at "go"
      intro je nje
      walk_at "go"
      have hje : JarAt (upd H15 je (.dK [])) je 0 fun _ => 0 := .new
      refine ⟨r0', [], je, 0, _, rfl, (hrr14.same s15).same (Same.new0 nje), hje, fun _ => rfl, by omega, by simp, fun H16 s16 => ?_⟩
      have sZ := s13.trans (s14.trans (s15.trans ((Same.new0 nje).trans s16)))
      exact k H16 (buB.trans (Same.but sZ b)) (b12.same sZ)
end
end My

set_option Elab.async false
set_option linter.all false
set_option maxRecDepth 100000
namespace My
open PySem PySem.Spec PyProof.Rows L2
/-- the law's things: divisor, ways, rest, what is built of them, free terms -/
structure K5 (C : Addr) (H0 H : Hp) (b r j wy re bu fr wh : Addr) (wd : Int) (cb cw cr cf : Int → Int) : Prop where
  bg : Bag H b
  base : BaseAt C H r j wd cb 100000000
  w60 : wd ≤ 60
  way : JarAt H wy 5 cw
  Nw : Numb cw 30 (10 ^ 40)
  rst : JarAt H re 12 cr
  Nr : Numb cr 60 (10 ^ 40)
  rlow : ∀ k, k < 0 → cr k = 0
  rhigh : ∀ k, wd ≤ k → cr k = 0
  blt : JarAt H bu 1000 (fun k => mulF cb cw k + cr k)
  fre : JarAt H fr 59 cf
  Nf : Numb cf 64 (10 ^ 40)
  whl : ∃ ts, PolyAt C H wh ts ∧ ∀ k, cof ts k = mulF cb cw k + cr k
  ne1 : fr ≠ wy
  ne2 : wy ≠ j
  nb : H0 b = none
  s : Same H0 H
theorem K5.same {C : Addr} {H0 H H' : Hp} {b r j wy re bu fr wh : Addr} {wd : Int} {cb cw cr cf : Int → Int} (h : K5 C H0 H b r j wy re bu fr wh wd cb cw cr cf) (s : Same H H') : K5 C H0 H' b r j wy re bu fr wh wd cb cw cr cf :=
  ⟨h.bg.same s, h.base.same s, h.w60, h.way.same s, h.Nw, h.rst.same s, h.Nr, h.rlow, h.rhigh, h.blt.same s, h.fre.same s, h.Nf, let ⟨ts, a, e⟩ := h.whl; ⟨ts, a.same s, e⟩, h.ne1, h.ne2, h.nb, h.s.trans s⟩
theorem K5.bag {C : Addr} {H0 H H' : Hp} {b r j wy re bu fr wh : Addr} {wd : Int} {cb cw cr cf : Int → Int} (h : K5 C H0 H b r j wy re bu fr wh wd cb cw cr cf) (s : But b H H') (g : Bag H' b) : K5 C H0 H' b r j wy re bu fr wh wd cb cw cr cf :=
  ⟨g, h.base.but h.bg s, h.w60, h.way.but (h.way.nb h.bg) s, h.Nw, h.rst.but (h.rst.nb h.bg) s, h.Nr, h.rlow, h.rhigh, h.blt.but (h.blt.nb h.bg) s, h.fre.but (h.fre.nb h.bg) s, h.Nf, let ⟨ts, a, e⟩ := h.whl; ⟨ts, a.stay (Stay.bag s h.bg), e⟩, h.ne1, h.ne2, h.nb, Same.but2 h.s h.nb s⟩
/-- one of the things that are divided: a Poly, its dict, the dicts of both parts where they are known -/
def ItemL (C : Addr) (cb : Int → Int) (w : Int) (H : Hp) (v : V) : Prop := ∃ (t p jj : Addr) (ts : Terms) (n : Nat) (c : Int → Int) (due : V), v = .ref t ∧ H t = some (.tup [.ref p, .ref jj, due]) ∧ PolyAt C H p ts ∧ (∀ k, cof ts k = c k) ∧ JarAt H jj n c ∧ n ≤ 90000 ∧ Numb c 100 (10 ^ 60) ∧
  (due = .non ∨ ∃ (dl d0 d1 : Addr) (n0 n1 : Nat) (c0 c1 : Int → Int) (t0 t1 : Terms), due = .ref dl ∧ H dl = some (.lst [.ref d0, .ref d1]) ∧ JarAt H d0 n0 c0 ∧ n0 ≤ 90000 ∧ JarAt H d1 n1 c1 ∧ n1 ≤ 90000 ∧ (∀ k, cof t0 k = c0 k) ∧ (∀ k, cof t1 k = c1 k) ∧ (∀ k, c k = mulF cb c0 k + c1 k) ∧ (∀ k, k < 0 → c1 k = 0) ∧ ∀ k, w ≤ k → c1 k = 0)
theorem ItemL.same {C : Addr} {cb : Int → Int} {w : Int} {H H' : Hp} {v : V} (h : ItemL C cb w H v) (s : Same H H') : ItemL C cb w H' v := by
  obtain ⟨t, p, jj, ts, n, c, due, e, h1, h2, h3, h4, h5, h6, h7⟩ := h
  refine ⟨t, p, jj, ts, n, c, due, e, s _ _ h1, h2.same s, h3, h4.same s, h5, h6, ?_⟩
  rcases h7 with h7 | ⟨dl, d0, d1, n0, n1, c0, c1, t0, t1, e, g1, g2, g3, g4, r⟩
  · exact .inl h7
  · exact .inr ⟨dl, d0, d1, n0, n1, c0, c1, t0, t1, e, s _ _ g1, g2.same s, g3, g4.same s, r⟩
theorem ItemL.bag {C : Addr} {cb : Int → Int} {w : Int} {H H' : Hp} {v : V} {b : Addr} (h : ItemL C cb w H v) (g : Bag H b) (s : But b H H') (ok : ∀ dl xs, H dl = some (.lst xs) → (∃ a c, xs = [.ref a, .ref c]) → dl ≠ b) : ItemL C cb w H' v := by
  obtain ⟨t, p, jj, ts, n, c, due, e, h1, h2, h3, h4, h5, h6, h7⟩ := h
  have st := Stay.bag s g
  refine ⟨t, p, jj, ts, n, c, due, e, st.tk _ _ h1, h2.stay st, h3, h4.but (h4.nb g) s, h5, h6, ?_⟩
  rcases h7 with h7 | ⟨dl, d0, d1, n0, n1, c0, c1, t0, t1, e, g1, g2, g3, g4, r⟩
  · exact .inl h7
  · exact .inr ⟨dl, d0, d1, n0, n1, c0, c1, t0, t1, e, s _ _ (ok dl _ g1 ⟨_, _, rfl⟩) g1, g2.but (g2.nb g) s, g3, g4.but (g4.nb g) s, r⟩
theorem bag_not2 {H : Hp} {b : Addr} (g : Bag H b) : ∀ dl xs, H dl = some (.lst xs) → (∃ a c, xs = [V.ref a, .ref c]) → dl ≠ b := by
  rintro dl xs e ⟨a, c, rfl⟩ rfl
  obtain ⟨x, y, z, e', _⟩ := g
  rw [e] at e'
  cases e'
/-- a divisor with its dict, in a tuple -/
def PairL (C : Addr) (w : Int) (H : Hp) (v : V) : Prop := ∃ (t r j : Addr) (c : Int → Int), v = .ref t ∧ H t = some (.tup [.ref r, .ref j]) ∧ BaseAt C H r j w c 100000000
theorem PairL.same {C : Addr} {w : Int} {H H' : Hp} {v : V} (h : PairL C w H v) (s : Same H H') : PairL C w H' v := let ⟨t, r, j, c, e, h1, h2⟩ := h; ⟨t, r, j, c, e, s _ _ h1, h2.same s⟩
theorem BaseAt.mono {C : Addr} {H : Hp} {r j : Addr} {w : Int} {c : Int → Int} {M N : Nat} (h : BaseAt C H r j w c M) (l : M ≤ N) : BaseAt C H r j w c N := ⟨h.1, h.2.1, h.2.2.mono l⟩
section
variable {C : Addr} {H : Hp} {Q : VK} {E : XK} {a r j : Addr} {ts ds : Terms} {w N : Int} {c cb : Int → Int} {B : Nat}
theorem u_div05P (ha : PolyAt C H a ts) (e : ∀ k, cof ts k = c k) (nb : Numb c N B) (hN : N ≤ 700) (hB : B ≤ 10 ^ 100) (hd : PolyAt C H r ds) (f : ∀ k, cof ds k = cb k) (D : DivC cb w 100000000) (w60 : w ≤ 60)
    (q : ∀ t qs rs H', H t = none → Same H H' → Parts C H' t qs rs → Div05 c cb w qs rs → Q (.ref t) H') : spDivision C [.ref a, .ref r] H Q E := by
  obtain ⟨_, _, _, _, _, _, hc⟩ := id ha
  obtain ⟨_, _, _, _, _, _, hcd⟩ := id hd
  obtain ⟨o1, o2, o3⟩ := divOk_05 hc hcd e f nb hN hB D w60
  refine ⟨a, r, ts, ds, w, rfl, ha, hd, D.divT hcd f, o1, o2, by omega, fun t q' r' qs rs H' nt s ht hq hr R l sm => ?_⟩
  refine q t qs rs H' nt s ⟨q', r', ht, hq, hr⟩ ⟨fun k => ?_, R.low, R.high, by omega, sm⟩
  rw [← e, R.eq, mulF_of f (fun _ => rfl), cmul_comm]
end
theorem canon_len' {ts : Terms} {N : Nat} (hc : Canon ts) (s : ∀ k, cof ts k ≠ 0 → 0 ≤ k ∧ k ≤ N) : ts.length ≤ N + 1 := by
  have : ts.length ≤ ((List.range (N + 1)).map fun i => (((i : Nat) : Int), (0 : Int))).length := hc.le_len fun p hp => by
    have := s p.1 (by rw [hc.at hp]; exact hc.nz p hp)
    rw [List.map_map]
    exact List.mem_map.mpr ⟨p.1.toNat, List.mem_range.mpr (by omega), show ((p.1.toNat : Nat) : Int) = p.1 by omega⟩
  rwa [List.length_map, List.length_range] at this
theorem Numb.zero : Numb (fun _ => 0) 0 0 := ⟨fun k h => absurd rfl h, fun k => by decide, [], fun _ => rfl⟩
theorem one_divC (i : Int) (h : i = 1 ∨ i = -1) : DivC (one0 i) 0 1 := ⟨by omega, by unfold one0; rw [if_pos rfl]; exact h, by unfold one0; rw [if_pos rfl]; exact h, fun k hk => by unfold one0; rw [if_neg (by omega)], fun k hk => by unfold one0; rw [if_neg (by omega)], fun k => by
    unfold one0
    split
    · rcases h with rfl | rfl <;> decide
    · decide⟩
end My

set_option Elab.async false
set_option linter.all false
set_option maxRecDepth 100000
set_option maxHeartbeats 16000000
set_option pp.deepTerms false
set_option pp.deepTerms.threshold 12
set_option pp.maxSteps 1200

namespace My
open PySem PySem.Spec PyProof.Rows L2
section
variable {P : Program} {w : World} {K : PySem.W.Frag} {mg : Str → Option Value} {base : Heap} {C : Addr}
local macro_rules | `(tactic| walk_at "isi") => `(tactic| (first
  | (with_reducible refine r_is_int_int ?_)
  | (with_reducible refine r_is_int_bool ?_)
  | (with_reducible refine r_is_int_str ?_)
  | (with_reducible refine r_is_int_list ?_)
  | (with_reducible refine r_is_int_tuple ?_)
  | (with_reducible refine r_is_bool_int ?_)
  | (with_reducible refine r_is_bool_bool ?_)
  | (with_reducible refine r_is_bool_str ?_)
  | (with_reducible refine r_is_bool_list ?_)
  | (with_reducible refine r_is_bool_tuple ?_)
  | (with_reducible refine r_is_str_int ?_)
  | (with_reducible refine r_is_str_bool ?_)
  | (with_reducible refine r_is_str_str ?_)
  | (with_reducible refine r_is_str_list ?_)
  | (with_reducible refine r_is_str_tuple ?_)
  | ((with_reducible refine r_is_list_int (xs := ?xx) ?hh ?_); (case hh => walk_at "hp"))
  | ((with_reducible refine r_is_list_bool (xs := ?xx) ?hh ?_); (case hh => walk_at "hp"))
  | ((with_reducible refine r_is_list_str (xs := ?xx) ?hh ?_); (case hh => walk_at "hp"))
  | ((with_reducible refine r_is_list_list (xs := ?xx) ?hh ?_); (case hh => walk_at "hp"))
  | ((with_reducible refine r_is_list_tuple (xs := ?xx) ?hh ?_); (case hh => walk_at "hp"))
  | ((with_reducible refine r_is_tuple_int (xs := ?xx) ?hh ?_); (case hh => walk_at "hp"))
  | ((with_reducible refine r_is_tuple_bool (xs := ?xx) ?hh ?_); (case hh => walk_at "hp"))
  | ((with_reducible refine r_is_tuple_str (xs := ?xx) ?hh ?_); (case hh => walk_at "hp"))
  | ((with_reducible refine r_is_tuple_list (xs := ?xx) ?hh ?_); (case hh => walk_at "hp"))
  | ((with_reducible refine r_is_tuple_tuple (xs := ?xx) ?hh ?_); (case hh => walk_at "hp"))
  | (with_reducible refine r_is_NoneType_int ?_)
  | (with_reducible refine r_is_NoneType_bool ?_)
  | (with_reducible refine r_is_NoneType_str ?_)
  | (with_reducible refine r_is_NoneType_list ?_)
  | (with_reducible refine r_is_NoneType_tuple ?_)))
local macro_rules | `(tactic| walk_at "ne") => `(tactic| first | assumption | (refine Ne.symm ?_; assumption) | exact Bag.ne (by assumption) (by assumption) | exact ne_of_none (by assumption) (by assumption))
local macro_rules | `(tactic| walk_at "hp") => `(tactic| (first
  | assumption
  | exact upd_same
  | (refine h_keep ?_ (by assumption); walk_at "hp")
  | (refine (upd_ne (by walk_at "ne")).trans ?_; walk_at "hp")
  | (refine Same.at (by assumption) ?_; walk_at "hp")
  | (refine But.at (by assumption) (by walk_at "ne") ?_; walk_at "hp")
  | (refine But2.at (by assumption) (by walk_at "ne") (by walk_at "ne") ?_; walk_at "hp")))
local macro_rules | `(tactic| walk_at "side") => `(tactic| first | assumption | omega | (refine ⟨?_, ?_⟩ <;> first | assumption | omega | decide) | decide | (refine ⟨by decide, by decide, by decide⟩) | (left; refine ⟨?_, ?_⟩ <;> first | omega | decide) | (right; refine ⟨?_, ?_⟩ <;> first | omega | decide) | (simp; done))
local macro_rules | `(tactic| walk_at "cond") => `(tactic| first | assumption | exact rfl | omega | (simp only [List.length_cons, List.length_nil]; omega) | decide +kernel)
local macro_rules | `(tactic| walk_at "s") => `(tactic| (first
  | ((with_reducible refine r_var (v := ?vv) ?ee ?_); (case ee => exact rfl))
  | (with_reducible refine r_c ?_)
  | (with_reducible refine r_op ?_)
  | (with_reducible refine r_un ?_)
  | (with_reducible refine r_rI0 ?_)
  | ((with_reducible refine r_rI ?cc ?_); (case cc => walk_at "side"))
  | (with_reducible refine r_rU ?_)
  | (with_reducible refine r_eqI ?_)
  | (with_reducible refine r_neI ?_)
  | (with_reducible refine r_eqB ?_)
  | (with_reducible refine r_neB ?_)
  | (with_reducible refine r_eqS ?_)
  | (with_reducible refine r_neS ?_)
  | ((with_reducible refine r_eq ?ee ?_); (case ee => exact rfl))
  | ((with_reducible refine r_ne ?ee ?_); (case ee => exact rfl))
  | ((with_reducible refine r_ixL (v := ?vv) (xs := ?xx) ?hh ?ee ?_); (case hh => (refine SqL.of ?_; walk_at "hp")); (case ee => exact rfl))
  | (with_reducible refine r_cb ?_)
  | (with_reducible refine r_call ?_)
  | (with_reducible refine r_cons ?_)
  | (with_reducible refine r_nil ?_)
  | (with_reducible refine r_lst ?_)
  | (with_reducible refine r_tup ?_)
  | ((with_reducible refine r_new ?cc ?_); (case cc => walk_at "side"))
  | (with_reducible refine r_exbl ?_)
  | (with_reducible refine r_exint ?_)
  | (with_reducible refine r_exint2 ?_)
  | (with_reducible refine r_exblL ?_)
  | (with_reducible refine r_ex2 ?_)
  | (with_reducible refine r_test ?_)
  | (with_reducible refine r_tB ?_)
  | (with_reducible refine r_not ?_)
  | (with_reducible refine r_and ?_)
  | (with_reducible refine r_or ?_)
  | (with_reducible refine r_andV ?_)
  | (with_reducible refine r_orV ?_)
  | (with_reducible refine r_notV ?_)
  | (with_reducible refine r_tif ?_)
  | (with_reducible refine r_iteT ?_)
  | (with_reducible refine r_iteNT ?_)
  | (with_reducible refine r_iteNF ?_)
  | (with_reducible refine r_iteF ?_)
  | (with_reducible refine r_seq ?_)
  | (with_reducible refine r_next ?_)
  | (with_reducible refine r_brk ?_)
  | (with_reducible refine r_cont ?_)
  | (with_reducible refine r_asg ?_)
  | (with_reducible refine r_gname ?_)
  | (with_reducible refine r_ret ?_)
  | (with_reducible refine r_retN ?_)
  | (with_reducible refine r_drop ?_)
  | (with_reducible refine r_if ?_)
  | ((with_reducible refine r_aug (x := ?xx) ?ee ?_); (case ee => exact rfl))
  | (with_reducible refine r_ipI ?_)
  | (with_reducible refine r_augS ?_)
  | (with_reducible refine r_gsub ?_)
  | ((with_reducible refine r_setL (xs := ?xx) (m := ?mm) ?hh ?ee ?_); (case hh => walk_at "hp"); (case ee => exact rfl))
  | (with_reducible refine r_par ?_)
  | (with_reducible refine r_bm ?_)
  | ((with_reducible refine r_tyL (xs := ?xx) ?hh ?_); (case hh => walk_at "hp"))
  | ((with_reducible refine r_append (xs := ?xx) ?hh ?ll ?_); (case hh => walk_at "hp"); (case ll => walk_at "side"))
  | (walk_at "isi")
  | (with_reducible refine r_for ?_)
  | (with_reducible refine r_iList ?_)
  | (with_reducible refine r_iTup ?_)
  | (with_reducible refine r_iR1 ?_)
  | (with_reducible refine r_iR2 ?_)
  | (with_reducible refine r_lc ?_)
  | (with_reducible refine r_yes ?_)
  | ((with_reducible refine r_lenS ?ll ?_); (case ll => walk_at "side"))
  | (with_reducible refine r_leS ?_)
  | (with_reducible refine r_chain ?_)
  | (with_reducible refine r_tM1 ?_)
  | (with_reducible refine r_exS ?_)
  | ((with_reducible refine r_tupL (xs := ?xx) ?hh ?_); (case hh => walk_at "hp"))
  | ((with_reducible refine r_listL (xs := ?xx) ?hh ?_); (case hh => walk_at "hp"))
  | ((with_reducible refine r_listT (xs := ?xx) ?hh ?_); (case hh => walk_at "hp"))
  | ((with_reducible refine r_ixT (v := ?vv) (xs := ?xx) ?hh ?ee ?_); (case hh => (refine SqT.of ?_; walk_at "hp")); (case ee => exact rfl))
  | (with_reducible refine r_sl ?_)
  | (with_reducible refine r_nopart ?_)
  | (with_reducible refine r_part ?_)
  | (with_reducible refine r_exI ?_)
  | ((with_reducible refine r_slL (xs := ?xx) ?hh ?_); (case hh => first | assumption | (refine SqL.of ?_; walk_at "hp") | (refine Same.seq (by assumption) (by assumption))))
  | ((with_reducible refine r_cat (xs := ?xx) (zs := ?zz) ?hh ?ii ?ll ?_); (case hh => walk_at "hp"); (case ii => walk_at "hp"); (case ll => walk_at "side"))
  | ((with_reducible refine r_lenL (xs := ?xx) ?hh ?_); (case hh => walk_at "hp"))
  | ((with_reducible refine r_lenT (xs := ?xx) ?hh ?_); (case hh => walk_at "hp"))
  | ((with_reducible refine r_gTup (xs := ?xx) ?hh ?ll ?_); (case hh => walk_at "hp"); (case ll => exact rfl))
  | (with_reducible refine r_gCons ?_)
  | (with_reducible refine r_gNil ?_)
  | ((with_reducible refine r_iteDT ?cc ?_); (case cc => walk_at "cond"))
  | ((with_reducible refine r_iteDF ?cc ?_); (case cc => walk_at "cond"))
  | ((with_reducible refine r_iteNDT ?cc ?_); (case cc => walk_at "cond"))
  | ((with_reducible refine r_iteNDF ?cc ?_); (case cc => walk_at "cond"))
  ))
local macro_rules | `(tactic| walk_at "go") => `(tactic| repeat (walk_at "s"))

local macro_rules | `(tactic| walk_at "s") => `(tactic| (first
  | (with_reducible refine r_dnew ?_)
  | (with_reducible refine r_dget2 ?_)
  | (with_reducible refine r_dget ?_)
  | (with_reducible refine r_dput ?_)
  | (with_reducible refine r_dsetd ?_)
  | ((with_reducible refine JarAt.isD (n := ?nn) (c := ?cc) ?hh ?_); (case hh => assumption))
  ))

local macro_rules | `(tactic| walk_at "s") => `(tactic| (first
  | (with_reducible refine r_prop ?_)
  | (with_reducible refine r_meth ?_)
  | (with_reducible refine r_make ?_)
  | (with_reducible refine r_fld ?_)
  | (with_reducible refine r_sfld ?_)
  | (with_reducible refine r_iOwn ?_)
  | ((with_reducible refine u_rowsAt (mg := ?mm) (C := ?CC) (dx := ?dd) (fv := ?vv) ?tt ?hh ?_); (case tt => assumption); (case hh => walk_at "hp"))
  | ((with_reducible refine r_isPoly (mg := ?mm) (dx := ?dd) (fs := ?ff) ?tt ?hh ?_); (case tt => assumption); (case hh => walk_at "hp"))
  | ((with_reducible refine r_isPolyI (mg := ?mm) ?tt ?_); (case tt => assumption))
  | ((with_reducible refine r_polyInt (mg := ?mm) (C := ?CC) (dx := ?dd) (fs := ?ff) ?tt ?hh ?_); (case tt => assumption); (case hh => walk_at "hp"))
  ))

local macro_rules | `(tactic| walk_at "s") => `(tactic| (first
  | ((with_reducible refine r_isNR ?_))
  | ((with_reducible refine r_notNR ?_))
  | ((with_reducible refine r_notNN ?_))
  | (with_reducible refine rl_disp ?_)
  | (with_reducible refine rl_pc ?_)
  | (with_reducible refine rl_pn ?_)
  | ((with_reducible refine r_maxD (w := ?ww) ?hh ?_); (case hh => assumption))
  ))
theorem ok_law {f : Addr} {fd : FuncData} (F : Fun K "law" "law" s_law f fd) (B : Bl mg) (G_Poly : PolyT K mg C)
   (h_l_bag_of : Has P w K mg base "_law_bag_of" 1 ["_law_cell"] spBagOf) (h_l_pick : Has P w K mg base "_law_pick" 1 ["_law_bag", "_law_many"] spPick) (h_l_less : Has P w K mg base "_law_less" 3 ["_law_bag"] spLess) (h_l_pairs : Has P w K mg base "_law_pairs" 4 ["_law_bag", "_law_most", "_law_far"] spPairs)
   (h_l_base_made : Has P w K mg base "_law_base_made" 8 ["_law_bag"] (spBaseMade C)) (h_l_some_rest : Has P w K mg base "_law_some_rest" 4 ["_law_bag", "_law_top"] spSomeRest) (h_l_divisor_of : Has P w K mg base "_law_divisor_of" 2 ["_law_bag", "_law_top"] spDivisorOf)
   (h_l_made : Has P w K mg base "_law_made" 7 ["_law_bag", "_law_jar"] (spMade C)) (h_l_jar_of2 : Has P w K mg base "_law_jar_of" 1 ["_law_rows"] spJarOf2) (h_l_times2 : Has P w K mg base "_law_times" 1 ["_law_one", "_law_two"] spTimes2) (h_l_plus : Has P w K mg base "_law_plus" 1 ["_law_one", "_law_two", "_law_sign"] spPlus)
   (h_l_terms_of : Has P w K mg base "_law_terms_of" 1 ["_law_jar"] spTerms) (h_l_is_poly : Has P w K mg base "_law_is_poly" 4 ["_law_found", "_law_jar"] (spIsPoly C)) (h_l_both_parts : Has P w K mg base "_law_both_parts" 5 ["_law_found", "_law_jar", "_law_base"] (spBothParts C)) (h_l_far_ones : Has P w K mg base "_law_far_ones" 8 ["_law_bag", "_law_free", "_law_ways", "_law_ring_like", "_law_base"] (spFarOnes C))
   (hc_Poly : HasC P w K mg base "Poly" C 3 ["self", "terms"] (spInit C)) (hm_Poly___mul__ : HasM P w K mg base C "__mul__" 6 ["self", "other"] (spMul C mulF)) (hm_Poly___add__ : HasM P w K mg base C "__add__" 6 ["self", "other"] (spPoly2 C fun c d k => c k + d k))
   (hm_Poly___floordiv__ : HasM P w K mg base C "__floordiv__" 6 ["self", "divisor"] (spFloor C)) (GA_Poly_floordiv : AugOp K C "floordiv") (hm_Poly_divided : HasM P w K mg base C "divided" 6 ["self", "divisor"] (spDivision C)) (hmk_Poly_divided : HasMK P w K mg base C "divided" 6 ["self", "divisor"] ["divisor"] (spDivision C)) : FnOk P w K mg base CX0 9 f fd ["_law_script"] (spLaw K) := by
  refine F.ok sc_law (fun vs H Q E h => ?_) (fun cdv A outer s H vs Q E hr h => ?_)
  · obtain ⟨a, ns, rfl, _⟩ := h
    rfl
  · obtain ⟨a, ns, rfl, hS, hlen, k⟩ := h
    have h_l_jar_of := h_l_jar_of2
    have h_l_times := h_l_times2
    refine ⟨_, (pss_cons (ps_set (i := 1) sc_law.nd rfl (.inl rfl) pe_int)
    (pss_cons (ps_for PassesOwn.never rfl (pi_list (pe_op op_cat (pe_lst (pa_cons (pv 1) pa_nil)) (pe_slice sl_list (pv 0) po_none (po_some pe_int)))) (pg_name (i := 2) sc_law.nd rfl (.inl rfl))
    (pss_cons (ps_set (i := 3) sc_law.nd rfl (.inr rfl) (pe_callH h_l_bag_of (hr.mono (by first | decide | omega)) (pa_cons (pv 2) pa_nil)))
    (pss_cons (ps_asg (pe_callH h_l_base_made (hr.mono (by first | decide | omega)) (pa_cons (pv 3) pa_nil)) (pg_tup (by rfl) (pgs_cons (pg_name (i := 4) sc_law.nd rfl (.inl rfl)) (pgs_cons (pg_name (i := 5) sc_law.nd rfl (.inl rfl)) pgs_nil))))
    (pss_cons (ps_set (i := 6) sc_law.nd rfl (.inr rfl) (pe_op op_sub pe_int (pe_callB (call_maxDI (by rfl)) (by rfl) B.b_max (by decide +kernel) (pa_cons (pv 5) pa_nil))))
    (pss_cons (ps_set (i := 7) sc_law.nd rfl (.inl rfl) (pe_callH h_l_jar_of (hr.mono (by first | decide | omega)) (pa_cons (pe_lc (own := [("_law_k", 17)]) rfl sc_law.nd (pi_range1 (by rfl) B.b_range (pa_cons (pe_callH h_l_pick (hr.mono (by first | decide | omega)) (pa_cons (pv 3) (pa_cons pe_int pa_nil))) pa_nil)) (blkOk_by (N := ["_law_script", "_law_great", "_law_cell", "_law_bag", "_law_ring_like", "_law_base", "_law_wide", "_law_ways", "_law_rest", "_law_built", "_law_free", "_law_whole_", "_law_some", "_law_poly", "_law_jar", "_law_due", "_law_parts", "_law_k", "_law_part", "_law_again", "_law_pair", "_law_divisor_", "_law_tin", "_law_unit"]) (sc := defScope s_law) (by decide +kernel)) (fun _ _ _ _ _ => (pg_name (i := 17) sc_law.nd rfl (.inl rfl))) (fun _ _ _ _ _ => pts_nil) (fun _ _ _ _ _ => (pe_tup (pa_cons (pe_op op_sub (pe_callH h_l_pick (hr.mono (by first | decide | omega)) (pa_cons (pv 3) (pa_cons (pv 6) pa_nil))) pe_int) (pa_cons (pe_callH h_l_less (hr.mono (by first | decide | omega)) (pa_cons (pv 3) pa_nil)) pa_nil))))) pa_nil)))
    (pss_cons (ps_set (i := 8) sc_law.nd rfl (.inl rfl) (pe_callH h_l_some_rest (hr.mono (by first | decide | omega)) (pa_cons (pv 3) (pa_cons (pe_callB (call_maxDI (by rfl)) (by rfl) B.b_max (by decide +kernel) (pa_cons (pv 5) pa_nil)) pa_nil))))
    (pss_cons (ps_set (i := 9) sc_law.nd rfl (.inl rfl) (pe_callH h_l_plus (hr.mono (by first | decide | omega)) (pa_cons (pe_callH h_l_times (hr.mono (by first | decide | omega)) (pa_cons (pv 5) (pa_cons (pv 7) pa_nil))) (pa_cons (pv 8) (pa_cons pe_int pa_nil)))))
    (pss_cons (ps_set (i := 10) sc_law.nd rfl (.inl rfl) (pe_callH h_l_jar_of (hr.mono (by first | decide | omega)) (pa_cons (pe_callH h_l_pairs (hr.mono (by first | decide | omega)) (pa_cons (pv 3) (pa_cons (pe_ix (ix_listK (K := K)) (pe_lst (pa_cons pe_int (pa_cons pe_int (pa_cons pe_int pa_nil)))) (pe_callH h_l_pick (hr.mono (by first | decide | omega)) (pa_cons (pv 3) (pa_cons pe_int pa_nil))) (fun _ _ => rfl)) (pa_cons pe_int pa_nil)))) pa_nil)))
    (pss_cutM (ps_set (i := 11) sc_law.nd rfl (.inl rfl) (pe_op (op_own2 (op := .Add) hm_Poly___add__ G_Poly.self (hr.mono (by first | decide | omega))) (pe_op (op_own2 (op := .Mult) hm_Poly___mul__ G_Poly.self (hr.mono (by first | decide | omega))) (pe_callH h_l_made (hr.mono (by first | decide | omega)) (pa_cons (pv 3) (pa_cons (pv 7) pa_nil))) (pv 4)) (pe_callH h_l_made (hr.mono (by first | decide | omega)) (pa_cons (pv 3) (pa_cons (pv 8) pa_nil)))))
    (pss_cutM (ps_set (i := 12) sc_law.nd rfl (.inl rfl) (pe_lst (pa_cons (pe_tup (pa_cons (pv 11) (pa_cons (pv 9) (pa_cons (pe_lst (pa_cons (pv 7) (pa_cons (pv 8) pa_nil))) pa_nil)))) (pa_cons (pe_tup (pa_cons (pe_callH h_l_made (hr.mono (by first | decide | omega)) (pa_cons (pv 3) (pa_cons (pv 10) pa_nil))) (pa_cons (pv 10) (pa_cons pe_non pa_nil)))) (pa_cons (pe_tup (pa_cons (pe_makeH hc_Poly (hr.mono (by first | decide | omega)) (pa_cons (pe_lst pa_nil) pa_nil)) (pa_cons pe_dnewK (pa_cons (pe_lst (pa_cons pe_dnewK (pa_cons pe_dnewK pa_nil))) pa_nil)))) pa_nil)))))
    (pss_cutM (ps_for PassesOwn.never rfl (pi_list (pe_op op_cat (pv 12) (pe_lst (pa_cons (pe_tup (pa_cons (pv 4) (pa_cons (pv 5) (pa_cons (pe_lst (pa_cons (pe_disp (pps_cons pe_int pe_int pps_nil) rfl rfl (fun h => nomatch h) (by decide)) (pa_cons pe_dnewK pa_nil))) pa_nil)))) pa_nil)))) (pg_tup (by rfl) (pgs_cons (pg_name (i := 13) sc_law.nd rfl (.inl rfl)) (pgs_cons (pg_name (i := 14) sc_law.nd rfl (.inl rfl)) (pgs_cons (pg_name (i := 15) sc_law.nd rfl (.inl rfl)) pgs_nil))))
    (pss_cutM (ps_set (i := 16) sc_law.nd rfl (.inl rfl) (pe_callH h_l_both_parts (hr.mono (by first | decide | omega)) (pa_cons (pe_methH G_Poly.cl hm_Poly_divided (hr.mono (by first | decide | omega)) (pv 13) (pa_cons (pv 4) pa_nil)) (pa_cons (pv 14) (pa_cons (pv 5) pa_nil)))))
    (pss_cutM (ps_if (PW.pt (pw_or (pt_cmpR op_isNN (pv 16) pe_non (nomark _)) (pw_or1 (pt_not (pt_val (pe_callH h_l_is_poly (hr.mono (by first | decide | omega)) (pa_cons (pe_op (op_own2 (op := .FloorDiv) hm_Poly___floordiv__ G_Poly.self (hr.mono (by first | decide | omega))) (pv 13) (pv 4)) (pa_cons (pe_ix (ix_listK (K := K)) (pv 16) pe_int (fun _ _ => rfl)) pa_nil))))))))
    (pss_one (ps_ret pe_bl))
    pss_nil)
    (pss_cutM (ps_for PassesOwn.never rfl (pi_range1 (by rfl) B.b_range (pa_cons pe_int pa_nil)) (pg_name (i := 17) sc_law.nd rfl (.inl rfl))
    (pss_one (ps_if (PW.pt (pw_and (pt_cmpR op_notNN (pv 15) pe_non (nomark _)) (pw_and1 (pt_cmpR (op_neDK (K := K) hr.units) (pe_callH h_l_terms_of (hr.mono (by first | decide | omega)) (pa_cons (pe_ix (ix_listK (K := K)) (pv 16) (pv 17) (fun _ _ => rfl)) pa_nil)) (pe_callH h_l_terms_of (hr.mono (by first | decide | omega)) (pa_cons (pe_ix (ix_listK (K := K)) (pv 15) (pv 17) (fun _ _ => rfl)) pa_nil)) (nomark _)))))
    (pss_one (ps_ret pe_bl))
    pss_nil)))
    (pss_cons (ps_set (i := 18) sc_law.nd rfl (.inl rfl) (pv 13))
    (pss_cons (ps_aug (i := 18) sc_law.nd rfl (.inl rfl) (pv 4) (ip_own2 (op := .FloorDiv) hm_Poly___floordiv__ G_Poly.self GA_Poly_floordiv (hr.mono (by first | decide | omega))))
    (pss_cons (ps_set (i := 19) sc_law.nd rfl (.inl rfl) (pe_methHK G_Poly.cl hmk_Poly_divided (hr.mono (by first | decide | omega)) (pv 13) (pk_cons (pv 4) pk_nil)))
    (pss_cons (ps_if (pt_not (pt_val (pe_callH h_l_is_poly (hr.mono (by first | decide | omega)) (pa_cons (pv 18) (pa_cons (pe_ix (ix_listK (K := K)) (pv 16) pe_int (fun _ _ => rfl)) pa_nil)))))
    (pss_one (ps_ret pe_bl))
    pss_nil)
    (pss_cons (ps_if (PW.pt (pw_or (pt_not (pt_val (pe_callH h_l_is_poly (hr.mono (by first | decide | omega)) (pa_cons (pe_ix (ix_tupK (K := K)) (pv 19) pe_int (fun _ _ => rfl)) (pa_cons (pe_ix (ix_listK (K := K)) (pv 16) pe_int (fun _ _ => rfl)) pa_nil))))) (pw_or1 (pt_not (pt_val (pe_callH h_l_is_poly (hr.mono (by first | decide | omega)) (pa_cons (pe_ix (ix_tupK (K := K)) (pv 19) pe_int (fun _ _ => rfl)) (pa_cons (pe_ix (ix_listK (K := K)) (pv 16) pe_int (fun _ _ => rfl)) pa_nil))))))))
    (pss_one (ps_ret pe_bl))
    pss_nil)
    (pss_one (ps_if (PW.pt (pw_or (pt_not (pt_val (pe_callH h_l_is_poly (hr.mono (by first | decide | omega)) (pa_cons (pv 13) (pa_cons (pv 14) pa_nil))))) (pw_or1 (pt_not (pt_val (pe_callH h_l_is_poly (hr.mono (by first | decide | omega)) (pa_cons (pv 4) (pa_cons (pv 5) pa_nil))))))))
    (pss_one (ps_ret pe_bl))
    pss_nil)))))))))))
    (pss_cons (ps_set (i := 20) sc_law.nd rfl (.inl rfl) (pe_callH h_l_divisor_of (hr.mono (by first | decide | omega)) (pa_cons (pv 3) (pa_cons (pe_callB (call_maxDI (by rfl)) (by rfl) B.b_max (by decide +kernel) (pa_cons (pv 5) pa_nil)) pa_nil))))
    (pss_cons (ps_set (i := 13) sc_law.nd rfl (.inl rfl) (pe_callH h_l_made (hr.mono (by first | decide | omega)) (pa_cons (pv 3) (pa_cons (pv 10) pa_nil))))
    (pss_cons (ps_for PassesOwn.never rfl (pi_list (pe_lst (pa_cons (pe_tup (pa_cons (pv 4) (pa_cons (pv 5) pa_nil))) (pa_cons (pe_tup (pa_cons (pe_callH h_l_made (hr.mono (by first | decide | omega)) (pa_cons (pv 3) (pa_cons (pv 20) pa_nil))) (pa_cons (pv 20) pa_nil))) (pa_cons (pe_tup (pa_cons (pv 4) (pa_cons (pv 5) pa_nil))) pa_nil))))) (pg_tup (by rfl) (pgs_cons (pg_name (i := 21) sc_law.nd rfl (.inl rfl)) (pgs_cons (pg_name (i := 22) sc_law.nd rfl (.inl rfl)) pgs_nil)))
    (pss_one (ps_if (pt_cmpR op_isNN (pe_callH h_l_both_parts (hr.mono (by first | decide | omega)) (pa_cons (pe_methH G_Poly.cl hm_Poly_divided (hr.mono (by first | decide | omega)) (pv 13) (pa_cons (pv 21) pa_nil)) (pa_cons (pv 10) (pa_cons (pv 22) pa_nil)))) pe_non (nomark _))
    (pss_one (ps_ret pe_bl))
    pss_nil)))
    (pss_cons (ps_if (pt_not (pt_val (pe_callH h_l_far_ones (hr.mono (by first | decide | omega)) (pa_cons (pv 3) (pa_cons (pv 10) (pa_cons (pv 7) (pa_cons (pv 4) (pa_cons (pv 5) pa_nil))))))))
    (pss_one (ps_ret pe_bl))
    pss_nil)
    (pss_cons (ps_set (i := 23) sc_law.nd rfl (.inl rfl) (pe_methH G_Poly.cl hm_Poly_divided (hr.mono (by first | decide | omega)) (pv 11) (pa_cons (pe_makeH hc_Poly (hr.mono (by first | decide | omega)) (pa_cons (pe_lst (pa_cons (pe_tup (pa_cons pe_int (pa_cons (pe_un un_neg pe_int) pa_nil))) pa_nil)) pa_nil)) pa_nil)))
    (pss_one (ps_if (PW.pt (pw_or (pt_not (pt_val (pe_callH h_l_is_poly (hr.mono (by first | decide | omega)) (pa_cons (pe_ix (ix_tupK (K := K)) (pv 23) pe_int (fun _ _ => rfl)) (pa_cons (pe_callH h_l_plus (hr.mono (by first | decide | omega)) (pa_cons pe_dnewK (pa_cons (pv 9) (pa_cons (pe_un un_neg pe_int) pa_nil)))) pa_nil))))) (pw_or1 (pt_not (pt_val (pe_callH h_l_is_poly (hr.mono (by first | decide | omega)) (pa_cons (pe_ix (ix_tupK (K := K)) (pv 23) pe_int (fun _ _ => rfl)) (pa_cons pe_dnewK pa_nil))))))))
    (pss_one (ps_ret pe_bl))
    pss_nil))))))))))))))))))
    (pss_one (ps_ret pe_bl)))), ?_⟩
    walk_at "go"
    intro g ng
    walk_at "go"
    refine r_slL ((Same.new0 ng).seq hS) ?_
    intro c nc
    refine r_cat (xs := [.int _]) (zs := cutV (ns.map V.int) none (some 4)) (by walk_at "hp") upd_same ?_ ?_
    · have := cut_len (xs := ns.map V.int) none (some 4)
      rw [List.length_map] at this
      simp
      omega
    intro l nl
    have sl : ∀ H', Same (upd (upd (upd H g (HO.lst [V.int 473258110025162520425137986323954159625483112371381117129730907037528362880522480977378359904963])) c (.lst (cutV (ns.map V.int) none (some 4)))) l (.lst ([V.int 473258110025162520425137986323954159625483112371381117129730907037528362880522480977378359904963] ++ cutV (ns.map V.int) none (some 4)))) H' → H' l = some (.lst ([V.int 473258110025162520425137986323954159625483112371381117129730907037528362880522480977378359904963] ++ cutV (ns.map V.int) none (some 4))) := fun H' sm => sm _ _ upd_same
    generalize upd (upd (upd H g _) c _) l _ = H0 at *
    refine u_forL (SqL.of (sl H0 (Same.refl _))) (fun i σ H' => ∃ y0 y1 y2 y3 y4 y5 y6 y7 y8 y9 y10 y11 y12 y13 y14 y15 y16 y17 y18 y19 y20 y21 y22 y23 : Option V, σ = [y0, y1, y2, y3, y4, y5, y6, y7, y8, y9, y10, y11, y12, y13, y14, y15, y16, y17, y18, y19, y20, y21, y22, y23] ∧ Same H0 H') ⟨_, _, _, _, _, _, _, _, _, _, _, _, _, _, _, _, _, _, _, _, _, _, _, _, rfl, Same.refl _⟩ ?_ ?_ ?_
    · rintro i σ H' _ ⟨y0, y1, y2, y3, y4, y5, y6, y7, y8, y9, y10, y11, y12, y13, y14, y15, y16, y17, y18, y19, y20, y21, y22, y23, rfl, sm⟩
      exact SqL.of (sl H' sm)
    · rintro i x σ H0' hx ⟨y0, y1, y2, y3, y4, y5, y6, y7, y8, y9, y10, y11, y12, y13, y14, y15, y16, y17, y18, y19, y20, y21, y22, y23, rfl, sm_⟩
      obtain ⟨cell, rfl⟩ := cells_int hx
      walk_at "go"
      refine ⟨cell, rfl, fun b H1 nb s1 b1 => ?_⟩
      walk_at "go"
      refine ⟨b, rfl, b1, fun t r j wd cb H2 nj bu2 b2 ht w60 hB2 => ?_⟩
      have D := hB2.2.2
      have w0 := D.w0
      have nzw : cb wd ≠ 0 := by rcases D.ew with e | e <;> rw [e] <;> decide
      have hm2 := hB2.2.1.max nzw
      walk_at "go"
      refine u_pick b2 (by decide) (by decide) fun n H3 n0 n1 bu3 b3 => ?_
      have hB3 := hB2.but b2 bu3
      have hm3 := hB3.2.1.max nzw
      clear ht hm2
      walk_at "go"
      refine u_lc1 ⟨by omega, by omega⟩ (fun D i acc H' => ∃ ts : Terms, (TermsL H' acc ts ∧ ts.length = i ∧ (i : Int) ≤ n ∧ ∀ p ∈ ts, (-30 ≤ p.1 ∧ p.1 ≤ 30) ∧ p.2.natAbs ≤ 10 ^ 38) ∧ But b H3 H' ∧ Bag H' b) ?_ ?_ ?_
      · exact fun D hD => ⟨[], ⟨rfl, rfl, by omega, by simp⟩, (But.refl b H3).new hD, b3.keep hD⟩
      · rintro DD i acc H' hD hi hacc ⟨ts, ⟨hT, tl, _, hp⟩, bu, bg⟩
        have nDb := b3.ne hD
        walk_at "go"
        refine ⟨rfl, ?_⟩
        walk_at "go"
        refine u_pick bg (by omega) (by omega) fun q H4 q0 q1 bu4 b4 => ?_
        walk_at "go"
        refine ⟨b, rfl, b4, fun v H5 v0 v1 bu5 b5 => ?_⟩
        have buA := bu4.trans bu5
        have hacc5 := buA _ _ nDb hacc
        have hT5 := hT.tk (Tk.but buA bg)
        walk_at "go"
        intro t nt
        have hv : v.natAbs ≤ 10 ^ 38 := by unfold BN at v0 v1; omega
        refine u_push (h_keep hacc5 nt) (by rw [hT.length, tl]; omega) ⟨ts ++ [(q - 30, v)], ⟨?_, by rw [List.length_append, tl]; rfl, by omega, fun p hp' => ?_⟩, ?_, ?_⟩
        · have t1 : Tk H5 (upd (upd H5 t (.tup [.int (q - 30), .int v])) DD (.lst (acc ++ [.ref t]))) := ((Tk.refl _).new nt).lst (h_keep hacc5 nt)
          exact (hT5.tk t1).app (.one ((upd_ne (ne_of_none hacc5 nt).symm).trans upd_same))
        · rcases List.mem_append.mp hp' with hp' | hp'
          · exact hp p hp'
          · rw [List.mem_singleton.mp hp']
            exact ⟨⟨by show -30 ≤ q - 30; omega, by show q - 30 ≤ 30; omega⟩, hv⟩
        · exact But.put ((bu.trans buA).new nt) hD
        · exact Bag.upd (b5.keep nt) nDb.symm
      · rintro DD acc H4 hD hacc ⟨tw, ⟨hT, tl, _, hp⟩, bu4, b4⟩
        have hB4 := hB3.but b3 bu4
        have twl : tw.length ≤ 5 := by omega
        walk_at "go"
        refine ⟨DD, tw, rfl, ⟨acc, hacc, hT⟩, by omega, fun wy H5 nwy s5 hwS => ?_⟩
        have Nw : Numb (cof tw) 30 (10 ^ 40) := ⟨fun k hk => by
          obtain ⟨p, hp', e⟩ := List.mem_map.mp (supp_mem hk)
          have := (hp p hp').1
          omega, fun k => Nat.le_trans (cof_le k fun p hp' => (hp p hp').2) (Nat.le_trans (Nat.mul_le_mul_right _ twl) (by decide +kernel)), tw, fun _ => rfl⟩
        have hw5 := hwS.at.mono twl
        generalize hcw : cof tw = cw at *
        have hB5 := hB4.same s5
        have b5 := b4.same s5
        have hm5 := hB5.2.1.max nzw
        have ne2 : wy ≠ j := hB4.2.1.at.ne nwy
        have sA : But b H1 H5 := (bu2.trans (bu3.trans bu4)).trans (Same.but s5 b)
        clear hB4 hB3 hB2 hm3 bu2 bu3 bu4 b2 b3 b4 hacc hT hD hwS
        walk_at "go"
        refine ⟨b, wd, rfl, b5, w0, w60, fun re cr H6 nre bu6 b6 hrS crb => ?_⟩
        have hB6 := hB5.but b5 bu6
        have hw6 := hw5.but (hw5.nb b5) bu6
        have hr6 := hrS.at
        have rsup : ∀ k, cr k ≠ 0 → 0 ≤ k ∧ k < wd := fun k hk => hrS.supp hk
        walk_at "go"
        have lj : (wd - 0 + 1).toNat * 5 ≤ 61 * 5 := Nat.mul_le_mul_right _ (by omega)
        refine ⟨j, wy, _, 5, cb, cw, rfl, ne2.symm, hB6.2.1.at, hw6, by omega, fun k => Nat.lt_of_le_of_lt (D.bd k) (by decide +kernel), Nw.sm (by decide +kernel), fun jp H7 njp s7 hjp => ?_⟩
        have hr7 := hr6.same s7
        walk_at "go"
        refine ⟨jp, re, _, 12, _, _, 1, rfl, .inl rfl, hjp.at, hr7, by omega, fun bu H8 nbu s8 hbu => ?_⟩
        have hbu8 : JarAt H8 bu 1000 (fun k => mulF cb cw k + cr k) := (hbu.mono (by omega)).ext fun k => by omega
        have s68 := s7.trans s8
        have hB8 := hB6.same s68
        have hw8 := hw6.same s68
        have hr8 := hr6.same s68
        have b8 := b6.same s68
        walk_at "go"
        intro l3 nl3
        have l3b := b8.ne nl3
        walk_at "go"
        refine u_pick (b8.keep nl3) (by decide) (by decide) fun q H9 q0 q1 bu9 b9 => ?_
        have hl9 := bu9 _ _ l3b upd_same
        obtain ⟨m, em, m0, m1⟩ : ∃ m : Int, atI [V.int 3, V.int 12, V.int 59] q = some (.int m) ∧ 0 ≤ m ∧ m ≤ 59 := by
          rcases (by omega : q = 0 ∨ q = 1 ∨ q = 2) with rfl | rfl | rfl
          · exact ⟨_, rfl, by omega, by omega⟩
          · exact ⟨_, rfl, by omega, by omega⟩
          · exact ⟨_, rfl, by omega, by omega⟩
        have bu89 : But b H8 H9 := ((But.refl b H8).new nl3).trans bu9
        walk_at "go"
        refine r_ixL (.of hl9) em ?_
        walk_at "go"
        refine ⟨b, m, 60, rfl, b9, m0, by omega, by omega, by omega, fun l4 tf H10 nl4 bu10 b10 hl4 tfl tfb => ?_⟩
        walk_at "go"
        refine ⟨l4, tf, rfl, hl4, by omega, fun fr H11 nfr s11 hfS => ?_⟩
        have bu811 : But b H8 H11 := bu89.trans (bu10.trans (Same.but s11 b))
        have b11 := b10.same s11
        have Nf : Numb (cof tf) 64 (10 ^ 40) := ⟨fun k hk => by
          obtain ⟨p, hp', e⟩ := List.mem_map.mp (supp_mem hk)
          have := (tfb p hp').1
          omega, fun k => Nat.le_trans (cof_le (M := 10 ^ 38) k fun p hp' => by have := (tfb p hp').2; unfold BN at this; omega) (Nat.le_trans (Nat.mul_le_mul_right _ (by omega : tf.length ≤ 59)) (by decide +kernel)), tf, fun _ => rfl⟩
        have hf11 := hfS.at.mono (m := 59) (by omega)
        generalize hcf : cof tf = cf at *
        have hB11 := hB8.but b8 bu811
        have hw11 := hw8.but (hw8.nb b8) bu811
        have hr11 := hr8.but (hr8.nb b8) bu811
        have hbu11 := hbu8.but (hbu8.nb b8) bu811
        have ne1 : fr ≠ wy := ((hw8.but (hw8.nb b8) (bu89.trans bu10)).ne nfr)
        have Nr : Numb cr 60 (10 ^ 40) := ⟨fun k hk => by have := rsup k hk; omega, fun k => by have := crb k; unfold BN at this; omega, by
          obtain ⟨_, ks, _, _, _, _, _, e⟩ := hr11.list
          exact ⟨_, e⟩⟩
        have sB : But b H1 H11 := sA.trans ((bu6.trans (Same.but s68 b)).trans bu811)
        clear hB8 hw8 hr8 hbu8 hB6 hw6 hr6 hr7 hjp hbu hl4 hl9 bu9 bu10 bu89 bu811 b8 b9 b10 hfS hB5 hw5 hm5 b5 b6 sA s68 s7 s8 s11 bu6 hrS
        walk_at "go"
        refine r_cut (fun σ' H' => ∃ wh : Addr, K5 C H0' H' b r j wy re bu fr wh wd cb cw cr cf ∧ ∃ y17, σ' = [y0, y1, some (.int cell), some (.ref b), some (.ref r), some (.ref j), some (.int (61 - wd)), some (.ref wy), some (.ref re), some (.ref bu), some (.ref fr), some (.ref wh), y12, y13, y14, y15, y16, y17, y18, y19, y20, y21, y22, y23]) ?_ ?_
        · walk_at "go"
          refine ⟨b, wy, 5, cw, rfl, b11, hw11, by omega, fun p12 ts12 H12 bu12 b12 hp12 e12 l12 => ?_⟩
          have hB12 := hB11.but b11 bu12
          have hr12 := hr11.but (hr11.nb b11) bu12
          obtain ⟨⟨ds, hd, ed⟩, _, _⟩ := id hB12
          obtain ⟨_, _, _, _, _, _, hc12⟩ := id hp12
          obtain ⟨_, _, _, _, _, _, hcd⟩ := id hd
          have dl := D.len hcd ed
          walk_at "go"
          have lm : ts12.length * ds.length ≤ 7 * 61 := Nat.mul_le_mul (by omega) (by omega)
          refine u_mul2 hp12 hd (by omega) (fun k => by rw [e12]; exact Nw.sm (by decide +kernel) k) (fun k => by rw [ed]; exact Nat.lt_of_le_of_lt (D.bd k) (by decide +kernel)) fun p13 ts13 H13 s13 hp13 e13 l13 => ?_
          have b13 := b12.same s13
          have hr13 := hr12.same s13
          have e13' : ∀ k, cof ts13 k = mulF cb cw k := fun k => by
            rw [e13, mulF_comm (c := cof ts12) (d := cof ds) (fun _ => rfl) (fun _ => rfl)]
            exact mulF_ext ed e12 k
          walk_at "go"
          refine ⟨b, re, 12, cr, rfl, b13, hr13, by omega, fun p14 ts14 H14 bu14 b14 hp14 e14 l14 => ?_⟩
          have hp13' := hp13.stay (Stay.bag bu14 b13)
          walk_at "go"
          refine u_own2 hp13' hp14 (by omega) fun p15 ts15 H15 s15 hp15 e15 l15 => ?_
          walk_at "go"
          have buC : But b H11 H15 := (bu12.trans (Same.but s13 b)).trans (bu14.trans (Same.but s15 b))
          refine ⟨p15, ⟨b14.same s15, hB11.but b11 buC, w60, hw11.but (hw11.nb b11) buC, Nw, hr11.but (hr11.nb b11) buC, Nr, fun k hk => Classical.byContradiction fun z => by have := rsup k z; omega, fun k hk => Classical.byContradiction fun z => by have := rsup k z; omega, hbu11.but (hbu11.nb b11) buC, hf11.but (hf11.nb b11) buC, Nf, ⟨ts15, hp15, fun k => by rw [e15, e13', e14]⟩, ne1, ne2, nb, Same.but2 s1 nb (sB.trans buC)⟩, _, rfl⟩
        rintro σ' H12 ⟨wh, KK, y17', rfl⟩
        clear hB11 hw11 hr11 hbu11 hf11 sB b11 ne1 nb ne2 nwy nre nbu nfr nj nl3 nl4 njp b1 s1 crb rsup tfb tfl hp tl twl hcw hcf
        have hm12 := KK.base.2.1.max nzw
        walk_at "go"
        refine r_cut (fun σ' H' => ∃ (ll : Addr) (xs : List V), K5 C H0' H' b r j wy re bu fr wh wd cb cw cr cf ∧ H' ll = some (.lst xs) ∧ xs.length = 3 ∧ (∀ v ∈ xs, ItemL C cb wd H' v) ∧ ∃ y17, σ' = [y0, y1, some (.int cell), some (.ref b), some (.ref r), some (.ref j), some (.int (61 - wd)), some (.ref wy), some (.ref re), some (.ref bu), some (.ref fr), some (.ref wh), some (.ref ll), y13, y14, y15, y16, y17, y18, y19, y20, y21, y22, y23]) ?_ ?_
        · obtain ⟨tsw, hwh, ewh⟩ := KK.whl
          obtain ⟨⟨ds, hd, ed⟩, _, _⟩ := id KK.base
          obtain ⟨_, _, _, _, _, _, hcd⟩ := id hd
          have dl := D.len hcd ed
          have Nmul : Numb (mulF cb cw) (60 + 30) (61 * (100000000 * 10 ^ 40)) := ((D.numb ed).mono (N' := 60) (by omega) (Nat.le_refl _)).mul KK.Nw hcd ed (by omega)
          have Nbu : Numb (fun k => mulF cb cw k + cr k) 100 (10 ^ 60) := (Nmul.add KK.Nr (by omega)).mono (by omega) (by decide +kernel)
          obtain ⟨tw, etw⟩ := KK.Nw.tm
          obtain ⟨tr, etr⟩ := KK.Nr.tm
          walk_at "go"
          intro l1 nl1
          walk_at "go"
          intro t1 nt1
          have s1' : Same H12 (upd (upd H12 l1 (.lst [.ref wy, .ref re])) t1 (.tup [.ref wh, .ref bu, .ref l1])) := Same.new (Same.new0 nl1) nt1
          have ht1 : (upd (upd H12 l1 (.lst [.ref wy, .ref re])) t1 (.tup [.ref wh, .ref bu, .ref l1])) t1 = some (.tup [.ref wh, .ref bu, .ref l1]) := upd_same
          have hl1 : (upd (upd H12 l1 (.lst [.ref wy, .ref re])) t1 (.tup [.ref wh, .ref bu, .ref l1])) l1 = some (.lst [.ref wy, .ref re]) := h_keep upd_same nt1
          generalize upd (upd H12 l1 (.lst [.ref wy, .ref re])) t1 (.tup [.ref wh, .ref bu, .ref l1]) = H13 at *
          have K13 := KK.same s1'
          have it1 : ItemL C cb wd H13 (.ref t1) := ⟨t1, wh, bu, tsw, 1000, _, .ref l1, rfl, ht1, hwh.same s1', ewh, K13.blt, by omega, Nbu, .inr ⟨l1, wy, re, 5, 12, cw, cr, tw, tr, rfl, hl1, K13.way, by omega, K13.rst, by omega, etw, etr, fun _ => rfl, KK.rlow, KK.rhigh⟩⟩
          clear s1' ht1 hl1 nl1 nt1 hwh hd
          walk_at "go"
          refine ⟨b, fr, 59, cf, rfl, K13.bg, K13.fre, by omega, fun p14 ts14 H14 bu14 b14 hp14 e14 l14 => ?_⟩
          have K14 := K13.bag bu14 b14
          have it14 := it1.bag K13.bg bu14 (bag_not2 K13.bg)
          clear it1 K13
          walk_at "go"
          intro t2 nt2
          have s2' : Same H14 (upd H14 t2 (.tup [.ref p14, .ref fr, .non])) := Same.new0 nt2
          have ht2 : (upd H14 t2 (.tup [.ref p14, .ref fr, .non])) t2 = some (.tup [.ref p14, .ref fr, .non]) := upd_same
          generalize upd H14 t2 (.tup [.ref p14, .ref fr, .non]) = H15 at *
          have K15 := K14.same s2'
          have it15 := it14.same s2'
          have jt15 : ItemL C cb wd H15 (.ref t2) := ⟨t2, p14, fr, ts14, 59, cf, .non, rfl, ht2, hp14.same s2', e14, K15.fre, by omega, K15.Nf.mono (by omega) (by decide +kernel), .inl rfl⟩
          clear s2' ht2 K14 it14 hp14 nt2
          walk_at "go"
          intro le nle
          walk_at "go"
          refine u_poly (l := le) (ts := []) (.none upd_same) (by decide) fun p16 ts16 H16 np16 s16 hp16 e16 l16 => ?_
          have ez : ts16 = [] := List.length_eq_zero_iff.mp (Nat.le_zero.mp l16)
          subst ez
          have K16 := (K15.same (Same.new0 nle)).same s16
          have it16 := (it15.same (Same.new0 nle)).same s16
          have jt16 := (jt15.same (Same.new0 nle)).same s16
          clear K15 it15 jt15 s16 nle np16
          walk_at "go"
          intro d3 nd3
          walk_at "go"
          intro d4 nd4
          walk_at "go"
          intro d5 nd5
          walk_at "go"
          intro l6 nl6
          walk_at "go"
          intro t3 nt3
          walk_at "go"
          intro ll nll
          walk_at "go"
          have hz3 : JarAt (upd H16 d3 (.dK [])) d3 0 fun _ => 0 := .new
          have hz4 : JarAt (upd (upd H16 d3 (.dK [])) d4 (.dK [])) d4 0 fun _ => 0 := .new
          have hz5 : JarAt (upd (upd (upd H16 d3 (.dK [])) d4 (.dK [])) d5 (.dK [])) d5 0 fun _ => 0 := .new
          have sA : Same H16 (upd (upd (upd H16 d3 (.dK [])) d4 (.dK [])) d5 (.dK [])) := Same.new (Same.new (Same.new0 nd3) nd4) nd5
          have hz3 := (hz3.same (Same.new0 (o := .dK []) nd4)).same (Same.new0 (o := .dK []) nd5)
          have hz4 := hz4.same (Same.new0 (o := .dK []) nd5)
          generalize upd (upd (upd H16 d3 (.dK [])) d4 (.dK [])) d5 (.dK []) = H17 at *
          have sB : Same H17 (upd (upd (upd H17 l6 (.lst [.ref d4, .ref d5])) t3 (.tup [.ref p16, .ref d3, .ref l6])) ll (.lst [.ref t1, .ref t2, .ref t3])) := Same.new (Same.new (Same.new0 nl6) nt3) nll
          have hl6 : (upd (upd (upd H17 l6 (.lst [.ref d4, .ref d5])) t3 (.tup [.ref p16, .ref d3, .ref l6])) ll (.lst [.ref t1, .ref t2, .ref t3])) l6 = some (.lst [.ref d4, .ref d5]) := h_keep (h_keep upd_same nt3) nll
          have ht3 : (upd (upd (upd H17 l6 (.lst [.ref d4, .ref d5])) t3 (.tup [.ref p16, .ref d3, .ref l6])) ll (.lst [.ref t1, .ref t2, .ref t3])) t3 = some (.tup [.ref p16, .ref d3, .ref l6]) := h_keep upd_same nll
          have hll : (upd (upd (upd H17 l6 (.lst [.ref d4, .ref d5])) t3 (.tup [.ref p16, .ref d3, .ref l6])) ll (.lst [.ref t1, .ref t2, .ref t3])) ll = some (.lst [.ref t1, .ref t2, .ref t3]) := upd_same
          generalize upd (upd (upd H17 l6 (.lst [.ref d4, .ref d5])) t3 (.tup [.ref p16, .ref d3, .ref l6])) ll (.lst [.ref t1, .ref t2, .ref t3]) = H18 at *
          have sC := sA.trans sB
          have mz : ∀ k, (0 : Int) = mulF cb (fun _ => 0) k + 0 := fun k => by
            rw [mulF_of (d := fun _ => (0 : Int)) (us := []) ed (fun _ => rfl) k]
            show (0 : Int) = cmul ds (fun _ => 0) k + 0
            rw [cmul_zero]; rfl
          have kt : ItemL C cb wd H18 (.ref t3) := ⟨t3, p16, d3, [], 0, fun _ => 0, .ref l6, rfl, ht3, hp16.same sC, fun _ => rfl, hz3.same sB, by omega, Numb.zero.mono (by omega) (by omega), .inr ⟨l6, d4, d5, 0, 0, fun _ => 0, fun _ => 0, [], [], rfl, hl6, hz4.same sB, by omega, hz5.same sB, by omega, fun _ => rfl, fun _ => rfl, mz, fun _ _ => rfl, fun _ _ => rfl⟩⟩
          refine ⟨ll, _, K16.same sC, hll, rfl, fun v hv => ?_, _, rfl⟩
          simp only [List.mem_cons, List.not_mem_nil, or_false] at hv
          rcases hv with rfl | rfl | rfl
          · exact it16.same sC
          · exact jt16.same sC
          · exact kt
        clear KK hm12
        rintro σ' H13 ⟨ll, xs, KK, hll, hx3, hit, y17', rfl⟩
        have hm13 := KK.base.2.1.max nzw
        walk_at "go"
        refine r_cut (fun σ' H' => K5 C H0' H' b r j wy re bu fr wh wd cb cw cr cf ∧ ∃ z13 z14 z15 z16 z17 z18 z19, σ' = [y0, y1, some (.int cell), some (.ref b), some (.ref r), some (.ref j), some (.int (61 - wd)), some (.ref wy), some (.ref re), some (.ref bu), some (.ref fr), some (.ref wh), some (.ref ll), z13, z14, z15, z16, z17, z18, z19, y20, y21, y22, y23]) ?_ ?_
        · obtain ⟨⟨ds, hd, ed⟩, hjin, _⟩ := id KK.base
          obtain ⟨_, _, _, _, _, _, hcd⟩ := id hd
          have dl := D.len hcd ed
          walk_at "go"
          intro d6 nd6
          walk_at "go"
          refine ⟨upd_same, [(.inl 0, .int 1)], rfl, by simp, ?_⟩
          have h6 : JarAt (upd (upd H13 d6 (.dK [])) d6 (.dK (mergeK [] [(.inl 0, .int 1)]))) d6 1 (one0 1) := ⟨[(.inl 0, .int 1)], upd_same, JarK.nil.put 0 1, Nat.le_refl _, fun k => by
            unfold one0
            exact (cfK_put [] 0 1 k).trans rfl⟩
          have s6 : Same H13 (upd (upd H13 d6 (.dK [])) d6 (.dK (mergeK [] [(.inl 0, .int 1)]))) := Same.put (Same.new0 nd6) nd6
          generalize upd (upd H13 d6 (.dK [])) d6 (.dK (mergeK [] [(.inl 0, .int 1)])) = H14 at *
          walk_at "go"
          intro d7 nd7
          walk_at "go"
          intro l8 nl8
          walk_at "go"
          intro t4 nt4
          walk_at "go"
          intro l9 nl9
          have h7 : JarAt (upd H14 d7 (.dK [])) d7 0 fun _ => 0 := .new
          have h67 := h6.same (Same.new0 (o := .dK []) nd7)
          have s7 := s6.trans (Same.new0 (o := .dK []) nd7)
          generalize upd H14 d7 (.dK []) = H15 at *
          have hll15 := s7 _ _ hll
          refine r_cat (xs := xs) (zs := [.ref t4]) (h_keep (h_keep (h_keep hll15 nl8) nt4) nl9) upd_same (by rw [hx3]; simp) fun l10 nl10 => ?_
          have s8 : Same H15 (upd (upd (upd (upd H15 l8 (.lst [.ref d6, .ref d7])) t4 (.tup [.ref r, .ref j, .ref l8])) l9 (.lst [.ref t4])) l10 (.lst (xs ++ [.ref t4]))) := Same.new (Same.new (Same.new (Same.new0 nl8) nt4) nl9) nl10
          have hl8 : (upd (upd (upd (upd H15 l8 (.lst [.ref d6, .ref d7])) t4 (.tup [.ref r, .ref j, .ref l8])) l9 (.lst [.ref t4])) l10 (.lst (xs ++ [.ref t4]))) l8 = some (.lst [.ref d6, .ref d7]) := h_keep (h_keep (h_keep upd_same nt4) nl9) nl10
          have ht4 : (upd (upd (upd (upd H15 l8 (.lst [.ref d6, .ref d7])) t4 (.tup [.ref r, .ref j, .ref l8])) l9 (.lst [.ref t4])) l10 (.lst (xs ++ [.ref t4]))) t4 = some (.tup [.ref r, .ref j, .ref l8]) := h_keep (h_keep upd_same nl9) nl10
          have hl10 : (upd (upd (upd (upd H15 l8 (.lst [.ref d6, .ref d7])) t4 (.tup [.ref r, .ref j, .ref l8])) l9 (.lst [.ref t4])) l10 (.lst (xs ++ [.ref t4]))) l10 = some (.lst (xs ++ [.ref t4])) := upd_same
          generalize upd (upd (upd (upd H15 l8 (.lst [.ref d6, .ref d7])) t4 (.tup [.ref r, .ref j, .ref l8])) l9 (.lst [.ref t4])) l10 (.lst (xs ++ [.ref t4])) = H16 at *
          have sA := s7.trans s8
          have KA := KK.same sA
          have hit16 : ∀ v ∈ xs ++ [V.ref t4], ItemL C cb wd H16 v := by
            intro v hv
            rcases List.mem_append.mp hv with hv | hv
            · exact (hit v hv).same sA
            · rw [List.mem_singleton.mp hv]
              refine ⟨t4, r, j, ds, _, cb, .ref l8, rfl, ht4, hd.same sA, ed, hjin.at.same sA, by omega, ((D.numb ed).mono (N' := 100) (by omega) (by decide +kernel)), .inr ⟨l8, d6, d7, 1, 0, one0 1, fun _ => 0, [(0, 1)], [], rfl, hl8, h67.same s8, by omega, h7.same s8, by omega, cof_one 1, fun _ => rfl, fun k => ?_, fun _ _ => rfl, fun _ _ => rfl⟩⟩
              rw [mulF_one ed]
              show cb k = 1 * cb k + 0
              omega
          generalize xs ++ [V.ref t4] = xs' at *
          clear KK s6 s7 s8 sA h6 h67 h7 hl8 ht4 hit hll hll15 hm13 nd6 nd7 nl8 nt4 nl9 nl10 hd hjin
          refine u_forL (.of hl10) (fun i σ H' => ∃ z13 z14 z15 z16 z17 z18 z19, σ = [y0, y1, some (.int cell), some (.ref b), some (.ref r), some (.ref j), some (.int (61 - wd)), some (.ref wy), some (.ref re), some (.ref bu), some (.ref fr), some (.ref wh), some (.ref ll), z13, z14, z15, z16, z17, z18, z19, y20, y21, y22, y23] ∧ Same H16 H') ?_ ?_ ?_ ?_
          · exact ⟨_, _, _, _, _, _, _, rfl, Same.refl _⟩
          · rintro i σ H' _ ⟨z13, z14, z15, z16, z17, z18, z19, rfl, s⟩
            exact .of (s _ _ hl10)
          · rintro i v σ H17 hv ⟨z13, z14, z15, z16, z17, z18, z19, rfl, s17⟩
            obtain ⟨t, p, jj, ts, n, c, due, rfl, ht, hp, ep, hjj, nn, Nc, hdue⟩ := (hit16 v (List.mem_of_getElem? hv)).same s17
            have hB17 := KA.base.same s17
            have hcp : Canon ts := by obtain ⟨_, _, _, _, _, _, z⟩ := id hp; exact z
            have tl := Nc.len hcp ep
            obtain ⟨dxp, _, _, gp, _⟩ := id hp
            clear hv
            walk_at "go"
            refine r_cut (fun σ' H' => ∃ (l j1 j2 : Addr) (qs rs : Terms), Same H17 H' ∧ H' l = some (.lst [.ref j1, .ref j2]) ∧ JarAt H' j1 qs.length (cof qs) ∧ JarAt H' j2 rs.length (cof rs) ∧ Canon qs ∧ Canon rs ∧ rs.length ≤ 1401 ∧ Div05 c cb wd qs rs ∧ σ' = [y0, y1, some (.int cell), some (.ref b), some (.ref r), some (.ref j), some (.int (61 - wd)), some (.ref wy), some (.ref re), some (.ref bu), some (.ref fr), some (.ref wh), some (.ref ll), some (.ref p), some (.ref jj), some due, some (.ref l), z17, z18, z19, y20, y21, y22, y23]) ?_ ?_
            · walk_at "go"
              refine ⟨p, dxp, _, rfl, gp, rfl, ?_⟩
              walk_at "go"
              refine u_div05 hp ep Nc (by omega) (by decide +kernel) hB17 w60 fun tq qs rs H18 ntq s18 hpq D5 => ?_
              walk_at "go"
              obtain ⟨q0, r0', hq0, hqq, hrr⟩ := id hpq
              have cq : Canon qs := by obtain ⟨_, _, _, _, _, _, z⟩ := id hqq; exact z
              have crr : Canon rs := by obtain ⟨_, _, _, _, _, _, z⟩ := id hrr; exact z
              have rl : rs.length ≤ 1401 := Nat.le_trans (canon_len' crr (N := 60) fun k hk => ⟨Int.not_lt.mp fun z => hk (D5.low k z), by have : ¬ wd ≤ k := fun z => hk (D5.high k z); omega⟩) (by decide)
              refine u_parts hpq (hjj.same s18) nn (fun _ => rfl) (hB17.same s18) w60 D5 fun l j1 j2 H19 nl s19 hl hj1 hj2 => ?_
              walk_at "go"
              exact ⟨l, j1, j2, qs, rs, s18.trans s19, hl, hj1, hj2, cq, crr, rl, D5, rfl⟩
            rintro σ' H18 ⟨l, j1, j2, qs, rs, s18, hl, hj1, hj2, cq, crr, rl, D5, rfl⟩
            have q5l := D5.ql
            walk_at "go"
            refine r_cut (fun σ' H' => Same H18 H' ∧ σ' = [y0, y1, some (.int cell), some (.ref b), some (.ref r), some (.ref j), some (.int (61 - wd)), some (.ref wy), some (.ref re), some (.ref bu), some (.ref fr), some (.ref wh), some (.ref ll), some (.ref p), some (.ref jj), some due, some (.ref l), z17, z18, z19, y20, y21, y22, y23]) ?_ ?_
            · walk_at "go"
              refine u_flo05 (hp.same s18) ep Nc (by omega) (by decide +kernel) (hB17.same s18) w60 fun p19 qs3 rs3 H19 s19 hp19 D53 => ?_
              have hl19 := s19 _ _ hl
              walk_at "go"
              have ee := Div05.unique D hcd ed D53 D5.eq D5.low D5.high
              have q3l := D53.ql
              refine ⟨p19, qs3, j1, _, _, rfl, hp19, hj1.same s19, ee.1, by omega, by omega, fun H20 s20 => ?_⟩
              walk_at "go"
              exact ⟨s19.trans s20, rfl⟩
            rintro σ' H19 ⟨s19, rfl⟩
            walk_at "go"
            refine r_cut (fun σ' H' => Same H19 H' ∧ ∃ z17, σ' = [y0, y1, some (.int cell), some (.ref b), some (.ref r), some (.ref j), some (.int (61 - wd)), some (.ref wy), some (.ref re), some (.ref bu), some (.ref fr), some (.ref wh), some (.ref ll), some (.ref p), some (.ref jj), some due, some (.ref l), z17, z18, z19, y20, y21, y22, y23]) ?_ ?_
            · walk_at "go"
              have hl19 := s19 _ _ hl
              have hj119 := hj1.same s19
              have hj219 := hj2.same s19
              refine u_for1 (by decide) (fun i σ H' => Same H19 H' ∧ ∃ z17, σ = [y0, y1, some (.int cell), some (.ref b), some (.ref r), some (.ref j), some (.int (61 - wd)), some (.ref wy), some (.ref re), some (.ref bu), some (.ref fr), some (.ref wh), some (.ref ll), some (.ref p), some (.ref jj), some due, some (.ref l), z17, z18, z19, y20, y21, y22, y23]) ?_ ?_ ?_
              · exact ⟨Same.refl _, _, rfl⟩
              · rintro i σ H20 hi ⟨s20, z17, rfl⟩
                walk_at "go"
                rcases hdue with rfl | ⟨dl', d0, d1, n0, n1', c0, c1, t0, t1, rfl, hdl, hd0, hn0, hd1, hn1, et0, et1, ec, ec1, ec2⟩
                · walk_at "go"
                  exact ⟨s20, _, rfl⟩
                · have U := Div05.unique (qs' := t0) (rs' := t1) D hcd ed D5 (fun k => by rw [ec, et1, mulF_ext (e := cb) (f := cof t0) (fun _ => rfl) (fun k => (et0 k).symm)]) (fun k hk => by rw [et1]; exact ec1 k hk) (fun k hk => by rw [et1]; exact ec2 k hk)
                  have hl20 := s20 _ _ hl19
                  have sx := s18.trans (s19.trans s20)
                  have hdl20 := sx _ _ hdl
                  walk_at "go"
                  rcases (by omega : i = 0 ∨ i = 1) with rfl | rfl
                  · refine r_ixL (v := .ref j1) (.of hl20) rfl ?_
                    walk_at "go"
                    refine ⟨j1, _, _, rfl, hj119.same s20, by omega, fun l4 ts4 H21 nl4 s21 c4 e4 n4 hl4 => ?_⟩
                    walk_at "go"
                    refine ⟨d0, n0, c0, rfl, hd0.same (sx.trans s21), hn0, fun l5 ts5 H22 nl5 s22 c5 e5 n5 hl5 => ?_⟩
                    have et : ts4 = ts5 := c4.ext c5 fun k => by rw [e4, e5, U.1, et0]
                    refine r_neT (hl4.same s22) hl5 ?_
                    rw [decide_eq_true et]
                    walk_at "go"
                    exact ⟨s20.trans (s21.trans s22), _, rfl⟩
                  · refine r_ixL (v := .ref j2) (.of hl20) rfl ?_
                    walk_at "go"
                    refine ⟨j2, _, _, rfl, hj219.same s20, by omega, fun l4 ts4 H21 nl4 s21 c4 e4 n4 hl4 => ?_⟩
                    walk_at "go"
                    refine ⟨d1, n1', c1, rfl, hd1.same (sx.trans s21), hn1, fun l5 ts5 H22 nl5 s22 c5 e5 n5 hl5 => ?_⟩
                    have et : ts4 = ts5 := c4.ext c5 fun k => by rw [e4, e5, U.2, et1]
                    refine r_neT (hl4.same s22) hl5 ?_
                    rw [decide_eq_true et]
                    walk_at "go"
                    exact ⟨s20.trans (s21.trans s22), _, rfl⟩
              · rintro σ H20 ⟨s20, z17, rfl⟩
                exact ⟨s20, _, rfl⟩
            rintro σ' H20 ⟨s20, z17', rfl⟩
            have s1820 := s19.trans s20
            have s1720 := s18.trans s1820
            have hl20 := s1820 _ _ hl
            have hj120 := hj1.same s1820
            have hj220 := hj2.same s1820
            have hp20 := hp.same s1720
            have hB20 := hB17.same s1720
            have hjj20 := hjj.same s1720
            have sb20 : Same H16 H20 := s17.trans s1720
            clear hdue hj1 hj2 hl hp hB17 hjj gp s17 s18 s19 s20 s1820 s1720
            obtain ⟨dxp, _, _, gp, _⟩ := id hp20
            walk_at "go"
            refine u_flo05 hp20 ep Nc (by omega) (by decide +kernel) hB20 w60 fun p21 qs3 rs3 H21 s21 hp21 D53 => ?_
            have ee := Div05.unique D hcd ed D53 D5.eq D5.low D5.high
            have q3l := D53.ql
            have gp21 := s21 _ _ gp
            obtain ⟨⟨ds', hd', ed'⟩, hj', _⟩ := id hB20
            obtain ⟨_, _, _, _, _, _, hcd'⟩ := id hd'
            have dl' := D.len hcd' ed'
            walk_at "go"
            refine ⟨p, dxp, _, rfl, gp21, rfl, ?_⟩
            walk_at "go"
            refine u_div05 (hp20.same s21) ep Nc (by omega) (by decide +kernel) (hB20.same s21) w60 fun tq qs4 rs4 H22 ntq s22 hpq D54 => ?_
            have ef := Div05.unique D hcd ed D54 D5.eq D5.low D5.high
            have q4l := D54.ql
            obtain ⟨q0, r0', hq0, hqq, hrr⟩ := id hpq
            have crr4 : Canon rs4 := by obtain ⟨_, _, _, _, _, _, z⟩ := id hrr; exact z
            have rl4 : rs4.length ≤ 1401 := Nat.le_trans (canon_len' crr4 (N := 60) fun k hk => ⟨Int.not_lt.mp fun z => hk (D54.low k z), by have : ¬ wd ≤ k := fun z => hk (D54.high k z); omega⟩) (by decide)
            have hl22 := (s21.trans s22) _ _ hl20
            walk_at "go"
            refine ⟨p21, qs3, j1, _, _, rfl, hp21.same s22, hj120.same (s21.trans s22), ee.1, by omega, by omega, fun H23 s23 => ?_⟩
            have hq23 := s23 _ _ hq0
            have hl23 := s23 _ _ hl22
            walk_at "go"
            refine ⟨q0, qs4, j1, _, _, rfl, hqq.same s23, hj120.same (s21.trans (s22.trans s23)), ef.1, by omega, by omega, fun H24 s24 => ?_⟩
            have hq24 := s24 _ _ hq23
            have hl24 := s24 _ _ hl23
            walk_at "go"
            refine ⟨r0', rs4, j2, _, _, rfl, hrr.same (s23.trans s24), hj220.same (s21.trans (s22.trans (s23.trans s24))), ef.2, by omega, by omega, fun H25 s25 => ?_⟩
            have sy := s21.trans (s22.trans (s23.trans (s24.trans s25)))
            walk_at "go"
            refine ⟨p, ts, jj, n, c, rfl, hp20.same sy, hjj20.same sy, ep, by omega, by omega, fun H26 s26 => ?_⟩
            walk_at "go"
            refine ⟨r, ds', j, _, cb, rfl, hd'.same (sy.trans s26), hj'.at.same (sy.trans s26), ed', by omega, by omega, fun H27 s27 => ?_⟩
            walk_at "go"
            exact ⟨_, _, _, _, _, _, _, rfl, sb20.trans (sy.trans (s26.trans s27))⟩
          · rintro σ H17 ⟨z13, z14, z15, z16, z17, z18, z19, rfl, s17⟩
            exact ⟨KA.same s17, _, _, _, _, _, _, _, rfl⟩
        clear KK hm13 hit hll hx3
        rintro σ' H14 ⟨KK, z13, z14, z15, z16, z17, z18, z19, rfl⟩
        have hm14 := KK.base.2.1.max nzw
        walk_at "go"
        refine ⟨b, wd, rfl, KK.bg, w0, w60, fun pr cp H15 npr bu15 b15 hpr DP => ?_⟩
        have K15 := KK.bag bu15 b15
        clear KK hm14
        walk_at "go"
        refine ⟨b, fr, 59, cf, rfl, K15.bg, K15.fre, by omega, fun p16 ts16 H16 bu16 b16 hp16 e16 l16 => ?_⟩
        have K16 := K15.bag bu16 b16
        have hpr16 := hpr.but (hpr.nb b15) bu16
        clear K15 hpr b15 bu15 bu16 npr
        walk_at "go"
        intro t1 nt1
        have s1' : Same H16 (upd H16 t1 (.tup [.ref r, .ref j])) := Same.new0 nt1
        have ht1 : (upd H16 t1 (.tup [.ref r, .ref j])) t1 = some (.tup [.ref r, .ref j]) := upd_same
        generalize upd H16 t1 (.tup [.ref r, .ref j]) = H17 at *
        have K17 := K16.same s1'
        have hpr17 := hpr16.same s1'
        have hp17 := hp16.same s1'
        clear K16 hpr16 hp16 s1' nt1
        walk_at "go"
        refine ⟨b, pr, _, cp, rfl, K17.bg, hpr17.at, by omega, fun p18 ts18 H18 bu18 b18 hp18 e18 l18 => ?_⟩
        have K18 := K17.bag bu18 b18
        have hpr18 := hpr17.but (hpr17.nb K17.bg) bu18
        have hp17' := hp17.stay (Stay.bag bu18 K17.bg)
        have ht18 := (Stay.bag bu18 K17.bg).tk _ _ ht1
        clear K17 hpr17 hp17 ht1 bu18
        walk_at "go"
        intro t2 nt2
        walk_at "go"
        intro t3 nt3
        walk_at "go"
        intro ll3 nll3
        have sA : Same H18 (upd (upd (upd H18 t2 (.tup [.ref p18, .ref pr])) t3 (.tup [.ref r, .ref j])) ll3 (.lst [.ref t1, .ref t2, .ref t3])) := Same.new (Same.new (Same.new0 nt2) nt3) nll3
        have ht2 : (upd (upd (upd H18 t2 (.tup [.ref p18, .ref pr])) t3 (.tup [.ref r, .ref j])) ll3 (.lst [.ref t1, .ref t2, .ref t3])) t2 = some (.tup [.ref p18, .ref pr]) := h_keep (h_keep upd_same nt3) nll3
        have ht3 : (upd (upd (upd H18 t2 (.tup [.ref p18, .ref pr])) t3 (.tup [.ref r, .ref j])) ll3 (.lst [.ref t1, .ref t2, .ref t3])) t3 = some (.tup [.ref r, .ref j]) := h_keep upd_same nll3
        have hll3 : (upd (upd (upd H18 t2 (.tup [.ref p18, .ref pr])) t3 (.tup [.ref r, .ref j])) ll3 (.lst [.ref t1, .ref t2, .ref t3])) ll3 = some (.lst [.ref t1, .ref t2, .ref t3]) := upd_same
        generalize upd (upd (upd H18 t2 (.tup [.ref p18, .ref pr])) t3 (.tup [.ref r, .ref j])) ll3 (.lst [.ref t1, .ref t2, .ref t3]) = H19 at *
        have K19 := K18.same sA
        have hp19 := hp17'.same sA
        have hprs : ∀ v ∈ [V.ref t1, V.ref t2, V.ref t3], PairL C wd H19 v := by
          intro v hv
          simp only [List.mem_cons, List.not_mem_nil, or_false] at hv
          rcases hv with rfl | rfl | rfl
          · exact ⟨t1, r, j, cb, rfl, sA _ _ ht18, K19.base⟩
          · exact ⟨t2, p18, pr, cp, rfl, ht2, ⟨⟨ts18, hp18.same sA, e18⟩, hpr18.same sA, DP.mono (by omega)⟩⟩
          · exact ⟨t3, r, j, cb, rfl, ht3, K19.base⟩
        clear K18 hpr18 hp17' ht18 hp18 sA ht2 ht3 nt2 nt3 nll3
        refine u_forL (.of hll3) (fun i σ H' => ∃ z14 z15 z16 z17 z18 z19 z21 z22, σ = [y0, y1, some (.int cell), some (.ref b), some (.ref r), some (.ref j), some (.int (61 - wd)), some (.ref wy), some (.ref re), some (.ref bu), some (.ref fr), some (.ref wh), some (.ref ll), some (.ref p16), z14, z15, z16, z17, z18, z19, some (.ref pr), z21, z22, y23] ∧ Same H19 H') ?_ ?_ ?_ ?_
        · exact ⟨_, _, _, _, _, _, _, _, rfl, Same.refl _⟩
        · rintro i σ H' _ ⟨z14, z15, z16, z17, z18, z19, z21, z22, rfl, s⟩
          exact .of (s _ _ hll3)
        · rintro i v σ H20 hv ⟨z14, z15, z16, z17, z18, z19, z21, z22, rfl, s20⟩
          obtain ⟨t, dv, tin, ct, rfl, ht, hBt⟩ := (hprs v (List.mem_of_getElem? hv)).same s20
          have hp20 := hp19.same s20
          have hfr20 := K19.fre.same s20
          obtain ⟨dxp, _, _, gp, _⟩ := id hp20
          clear hv
          walk_at "go"
          refine ⟨p16, dxp, _, rfl, gp, rfl, ?_⟩
          walk_at "go"
          refine u_div05 hp20 e16 K19.Nf (by omega) (by decide +kernel) hBt w60 fun tq qs rs H21 ntq s21 hpq D5 => ?_
          walk_at "go"
          refine u_parts hpq (hfr20.same s21) (by omega) (fun _ => rfl) (hBt.same s21) w60 D5 fun l j1 j2 H22 nl s22 hl hj1 hj2 => ?_
          walk_at "go"
          exact ⟨_, _, _, _, _, _, _, _, rfl, s20.trans (s21.trans s22)⟩
        · rintro σ H20 ⟨z14, z15, z16, z17, z18, z19, z21, z22, rfl, s20⟩
          have K20 := K19.same s20
          clear K19 hp19 hprs hll3 s20
          walk_at "go"
          refine ⟨b, fr, wy, r, j, 59, 5, cf, cw, cb, wd, rfl, K20.bg, K20.fre, by omega, K20.Nf, K20.way, by omega, K20.Nw, K20.base, w60, K20.ne1, K20.ne2, fun H21 bu21 b21 => ?_⟩
          have K21 := K20.bag bu21 b21
          clear K20 bu21 b21
          obtain ⟨tsw, hwh, ewh⟩ := id K21.whl
          obtain ⟨dxw, _, _, gw, _⟩ := id hwh
          obtain ⟨⟨ds, hd, ed⟩, _, _⟩ := id K21.base
          obtain ⟨_, _, _, _, _, _, hcd⟩ := id hd
          have dl := D.len hcd ed
          have Nmul : Numb (mulF cb cw) (60 + 30) (61 * (100000000 * 10 ^ 40)) := ((D.numb ed).mono (N' := 60) (by omega) (Nat.le_refl _)).mul K21.Nw hcd ed (by omega)
          have Nbu : Numb (fun k => mulF cb cw k + cr k) 100 (10 ^ 60) := (Nmul.add K21.Nr (by omega)).mono (by omega) (by decide +kernel)
          walk_at "go"
          refine ⟨wh, dxw, _, rfl, gw, rfl, ?_⟩
          walk_at "go"
          intro te nte
          walk_at "go"
          intro le nle
          walk_at "go"
          have ste : Same H21 (upd (upd H21 te (.tup [.int 0, .int (-1)])) le (.lst [.ref te])) := Same.new (Same.new0 nte) nle
          have hte : TermsAt (upd (upd H21 te (.tup [.int 0, .int (-1)])) le (.lst [.ref te])) le [(0, -1)] := ⟨_, upd_same, .one (h_keep upd_same nle)⟩
          refine u_poly (l := le) (ts := [(0, -1)]) hte (by decide) fun p22 ts22 H22 np22 s22 hp22 e22 l22 => ?_
          have sB := ste.trans s22
          clear hte ste nte nle
          walk_at "go"
          refine u_div05P (hwh.same sB) ewh Nbu (by omega) (by decide +kernel) hp22 (fun k => (e22 k).trans (cof_one (-1) k)) ((one_divC (-1) (.inr rfl)).mono (by omega)) (by omega) fun tq qs rs H23 ntq s23 hpq D5 => ?_
          obtain ⟨_, _, _, _, _, _, hc22⟩ := id hp22
          have U := Div05.unique (qs' := negT tsw) (rs' := []) (one_divC (-1) (.inr rfl)) hc22 (fun k => (e22 k).trans (cof_one (-1) k)) D5 (fun k => by
            rw [mulF_comm (c := one0 (-1)) (d := cof (negT tsw)) (cof_one (-1)) (fun _ => rfl), mulF_one (c := cof (negT tsw)) (fun _ => rfl), cof_neg, ewh]
            show _ = _ + 0
            omega) (fun _ _ => rfl) (fun _ _ => rfl)
          obtain ⟨q0, r0', hq0, hqq, hrr⟩ := id hpq
          have rs0 : rs = [] := by
            obtain ⟨_, _, _, _, _, _, z⟩ := id hrr
            exact z.zero U.2
          subst rs0
          have q5l := D5.ql
          have sC := sB.trans s23
          walk_at "go"
          intro de nde
          walk_at "go"
          have hde : JarAt (upd H23 de (.dK [])) de 0 fun _ => 0 := .new
          refine ⟨de, bu, 0, 1000, _, _, -1, rfl, .inr rfl, hde, (K21.blt.same sC).same (Same.new0 nde), by omega, fun dp H24 ndp s24 hdp => ?_⟩
          have sD := (Same.new0 (o := .dK []) nde).trans s24
          have hq24 := sD _ _ hq0
          walk_at "go"
          refine ⟨q0, qs, dp, _, _, rfl, hqq.same sD, hdp, fun k => ?_, by omega, by omega, fun H25 s25 => ?_⟩
          · rw [U.1, cof_neg, ewh]
            omega
          have hq25 := s25 _ _ hq24
          walk_at "go"
          intro df ndf
          walk_at "go"
          have hdf : JarAt (upd H25 df (.dK [])) df 0 fun _ => 0 := .new
          refine ⟨r0', [], df, 0, _, rfl, ((hrr.same sD).same s25).same (Same.new0 ndf), hdf, fun _ => rfl, by omega, by simp, fun H26 s26 => ?_⟩
          walk_at "go"
          exact ⟨_, _, _, _, _, _, _, _, _, _, _, _, _, _, _, _, _, _, _, _, _, _, _, _, rfl, sm_.trans ((K21.s.trans sC).trans (sD.trans (s25.trans ((Same.new0 ndf).trans s26))))⟩
    · rintro σ H' ⟨y0, y1, y2, y3, y4, y5, y6, y7, y8, y9, y10, y11, y12, y13, y14, y15, y16, y17, y18, y19, y20, y21, y22, y23, rfl, sm⟩
      walk_at "go"
      exact k _
end
end My

set_option Elab.async false
set_option linter.all false
set_option maxRecDepth 100000
set_option maxHeartbeats 4000000

namespace My
open PySem PySem.Spec PyProof.Rows L2
structure BlA (mg : Str → Option Value) : Prop where
  b_abs : mg "abs" = none
  b_any : mg "any" = none
  b_dict : mg "dict" = none
  b_iter : mg "iter" = none
  b_sorted : mg "sorted" = none
theorem all_mk {l : PySem.W.OpenLaw} {w : World} {K : PySem.W.Frag} {h : Heap} {mg : Str → Option Value} {fa f1 f2 f3 f4 f5 f6 f7 f8 f9 f10 f11 f12 f13 f14 f15 f16 f17 f18 f19 f20 f21 f22 f23 f24 f25 f26 f27 f28 f29 f30 f31 f32 f33 f34 f35 f36 f37 f38 f39 f40 f41 f42 f43 : Addr} (X : K.In h) (G : h.Ns mainGlobals mg) (hfa : mg "law" = some (.ref fa))
    {od1 an1 od2 an2 od3 an3 od4 an4 od5 an5 od6 an6 od7 an7 od8 an8 od9 an9 od10 an10 od11 an11 od12 an12 od13 an13 od14 an14 od15 an15 od16 an16 od17 an17 od18 an18 od19 an19 od20 an20 od21 an21 od22 an22 od23 an23 od24 an24 od25 an25 od26 an26 od27 an27 od28 an28 od29 an29 od30 an30 od31 an31 od32 an32 od33 an33 od34 an34 od35 an35 od36 an36 od37 an37 od38 an38 od39 an39 od40 an40 od41 an41 od42 an42 od43 an43 : Option Addr} {sl1 sl2 sl3 sl4 sl5 sl6 sl7 sl8 sl9 sl10 sl11 sl12 sl13 sl14 sl15 sl16 sl17 sl18 sl19 sl20 sl21 sl22 sl23 sl24 sl25 sl26 sl27 sl28 sl29 sl30 sl31 sl32 sl33 sl34 sl35 sl36 sl37 sl38 sl39 sl40 sl41 sl42 sl43 : Array (Option Value)} {oc1 kV1 dc1 pm1 cd1 ct1 oc2 kV2 dc2 pm2 cd2 ct2 oc3 kV3 dc3 pm3 cd3 ct3 oc4 kV4 dc4 pm4 cd4 ct4 oc5 kV5 dc5 pm5 cd5 ct5 oc6 kV6 dc6 pm6 cd6 ct6 oc7 kV7 dc7 pm7 cd7 ct7 oc8 kV8 dc8 pm8 cd8 ct8 oc9 kV9 dc9 pm9 cd9 ct9 oc10 kV10 dc10 pm10 cd10 ct10 oc11 kV11 dc11 pm11 cd11 ct11 oc12 kV12 dc12 pm12 cd12 ct12 oc13 kV13 dc13 pm13 cd13 ct13 oc14 kV14 dc14 pm14 cd14 ct14 oc15 kV15 dc15 pm15 cd15 ct15 oc16 kV16 dc16 pm16 cd16 ct16 oc17 kV17 dc17 pm17 cd17 ct17 oc18 kV18 dc18 pm18 cd18 ct18 oc19 kV19 dc19 pm19 cd19 ct19 oc20 kV20 dc20 pm20 cd20 ct20 oc21 kV21 dc21 pm21 cd21 ct21 oc22 kV22 dc22 pm22 cd22 ct22 oc23 kV23 dc23 pm23 cd23 ct23 oc24 kV24 dc24 pm24 cd24 ct24 oc25 kV25 dc25 pm25 cd25 ct25 oc26 kV26 dc26 pm26 cd26 ct26 oc27 kV27 dc27 pm27 cd27 ct27 oc28 kV28 dc28 pm28 cd28 ct28 oc29 kV29 dc29 pm29 cd29 ct29 oc30 kV30 dc30 pm30 cd30 ct30 oc31 kV31 dc31 pm31 cd31 ct31 oc32 kV32 dc32 pm32 cd32 ct32 oc33 kV33 dc33 pm33 cd33 ct33 oc34 kV34 dc34 pm34 cd34 ct34 oc35 kV35 dc35 pm35 cd35 ct35 oc36 kV36 dc36 pm36 cd36 ct36 oc37 kV37 dc37 pm37 cd37 ct37 oc38 kV38 dc38 pm38 cd38 ct38 oc39 kV39 dc39 pm39 cd39 ct39 oc40 kV40 dc40 pm40 cd40 ct40 oc41 kV41 dc41 pm41 cd41 ct41 oc42 kV42 dc42 pm42 cd42 ct42 oc43 kV43 dc43 pm43 cd43 ct43 : Value}
    {C : Addr} {cdP : ClassData} {foGNlshift roGNlshift : Option Value} 
    (aC : PySem.W.nsIn K mainGlobals "Poly" = some (some (.ref C)))
    (pgP : PySem.W.plainGet K C Str.empty = true)
    (hdP : PySem.W.hasDictIn K C = true)
    (poP : PySem.W.plainOver K C = true)
    (saP : PySem.W.findIn K (.ref C) "__setattr__" = some (some (.builtin "object.__setattr__")))
    (mk_Poly : PySem.W.makesIn K C = true)
    (kc_Poly : PySem.W.keepIn K (.ref C) = true)
    (nRP : PySem.W.findIn K (.ref C) "rows" = some none)
    (sfP : PySem.W.selfFirst K C = true)
    (icP : PySem.W.clsIn K C = some cdP)
    (moP : cdP.mro = [.ref C, .type "object"])
    (caP : PySem.W.findIn K (.ref C) "__class__" = some (some (.builtin "object.__class__")))
    (cnP : PySem.W.specialIn K (.builtin "object.__class__") "__get__" = some (some (.builtin "getset_descriptor.__get__")))
    (ctP : PySem.W.takesIn K (.builtin "object.__class__") = some true)
    (cmP : PySem.W.mroIn K C (.type "object") = some true)
    (tyP : PySem.W.typeIn K (.ref C) = some (.type "type"))
    (s1P : PySem.W.subIn K (.type "int") (.ref C) = some false)
    (s2P : PySem.W.subIn K (.type "bool") (.ref C) = some false)
    (s3P : PySem.W.subIn K (.type "str") (.ref C) = some false)
    (s4P : PySem.W.subIn K (.type "list") (.ref C) = some false)
    (s5P : PySem.W.subIn K (.type "tuple") (.ref C) = some false)
    (s6P : PySem.W.subIn K (.type "NoneType") (.ref C) = some false)
    (t1P : PySem.W.subIn K (.ref C) (.type "int") = some false)
    (t2P : PySem.W.subIn K (.ref C) (.type "bool") = some false)
    (t3P : PySem.W.subIn K (.ref C) (.type "list") = some false)
    (t4P : PySem.W.subIn K (.ref C) (.type "tuple") = some false)
    (a1 : PySem.W.nsIn K mainGlobals "_law_bag_of" = some (some (.ref f1))) (l1 : K.lookup f1 = some ⟨oc1, od1, .func (PySem.W.fnOf "_law_bag_of" "_law_bag_of" (defArgs s_l_bag_of) (defBody s_l_bag_of) (defScope s_l_bag_of) .none kV1 dc1 pm1 an1 cd1 ct1), sl1⟩) (c1 : PySem.W.codeIn K cd1 "_law_bag_of" = true) (k1 : PySem.W.keepIn K (.ref f1) = true)
    (a2 : PySem.W.nsIn K mainGlobals "_law_pick" = some (some (.ref f2))) (l2 : K.lookup f2 = some ⟨oc2, od2, .func (PySem.W.fnOf "_law_pick" "_law_pick" (defArgs s_l_pick) (defBody s_l_pick) (defScope s_l_pick) .none kV2 dc2 pm2 an2 cd2 ct2), sl2⟩) (c2 : PySem.W.codeIn K cd2 "_law_pick" = true) (k2 : PySem.W.keepIn K (.ref f2) = true)
    (a3 : PySem.W.nsIn K mainGlobals "_law_great_int" = some (some (.ref f3))) (l3 : K.lookup f3 = some ⟨oc3, od3, .func (PySem.W.fnOf "_law_great_int" "_law_great_int" (defArgs s_l_great_int) (defBody s_l_great_int) (defScope s_l_great_int) .none kV3 dc3 pm3 an3 cd3 ct3), sl3⟩) (c3 : PySem.W.codeIn K cd3 "_law_great_int" = true) (k3 : PySem.W.keepIn K (.ref f3) = true)
    (a4 : PySem.W.nsIn K mainGlobals "_law_less" = some (some (.ref f4))) (l4 : K.lookup f4 = some ⟨oc4, od4, .func (PySem.W.fnOf "_law_less" "_law_less" (defArgs s_l_less) (defBody s_l_less) (defScope s_l_less) .none kV4 dc4 pm4 an4 cd4 ct4), sl4⟩) (c4 : PySem.W.codeIn K cd4 "_law_less" = true) (k4 : PySem.W.keepIn K (.ref f4) = true)
    (a5 : PySem.W.nsIn K mainGlobals "_law_some_int" = some (some (.ref f5))) (l5 : K.lookup f5 = some ⟨oc5, od5, .func (PySem.W.fnOf "_law_some_int" "_law_some_int" (defArgs s_l_some_int) (defBody s_l_some_int) (defScope s_l_some_int) .none kV5 dc5 pm5 an5 cd5 ct5), sl5⟩) (c5 : PySem.W.codeIn K cd5 "_law_some_int" = true) (k5 : PySem.W.keepIn K (.ref f5) = true)
    (a6 : PySem.W.nsIn K mainGlobals "_law_pairs" = some (some (.ref f6))) (l6 : K.lookup f6 = some ⟨oc6, od6, .func (PySem.W.fnOf "_law_pairs" "_law_pairs" (defArgs s_l_pairs) (defBody s_l_pairs) (defScope s_l_pairs) .none kV6 dc6 pm6 an6 cd6 ct6), sl6⟩) (c6 : PySem.W.codeIn K cd6 "_law_pairs" = true) (k6 : PySem.W.keepIn K (.ref f6) = true)
    (a7 : PySem.W.nsIn K mainGlobals "_law_divisor_of" = some (some (.ref f7))) (l7 : K.lookup f7 = some ⟨oc7, od7, .func (PySem.W.fnOf "_law_divisor_of" "_law_divisor_of" (defArgs s_l_divisor_of) (defBody s_l_divisor_of) (defScope s_l_divisor_of) .none kV7 dc7 pm7 an7 cd7 ct7), sl7⟩) (c7 : PySem.W.codeIn K cd7 "_law_divisor_of" = true) (k7 : PySem.W.keepIn K (.ref f7) = true)
    (a8 : PySem.W.nsIn K mainGlobals "_law_divisor" = some (some (.ref f8))) (l8 : K.lookup f8 = some ⟨oc8, od8, .func (PySem.W.fnOf "_law_divisor" "_law_divisor" (defArgs s_l_divisor) (defBody s_l_divisor) (defScope s_l_divisor) .none kV8 dc8 pm8 an8 cd8 ct8), sl8⟩) (c8 : PySem.W.codeIn K cd8 "_law_divisor" = true) (k8 : PySem.W.keepIn K (.ref f8) = true)
    (a9 : PySem.W.nsIn K mainGlobals "is_integer" = some (some (.ref f9))) (l9 : K.lookup f9 = some ⟨oc9, od9, .func (PySem.W.fnOf "is_integer" "is_integer" (defArgs s_is_integer) (defBody s_is_integer) (defScope s_is_integer) .none kV9 dc9 pm9 an9 cd9 ct9), sl9⟩) (c9 : PySem.W.codeIn K cd9 "is_integer" = true) (k9 : PySem.W.keepIn K (.ref f9) = true)
    (a10 : PySem.W.nsIn K mainGlobals "is_term" = some (some (.ref f10))) (l10 : K.lookup f10 = some ⟨oc10, od10, .func (PySem.W.fnOf "is_term" "is_term" (defArgs s_is_term) (defBody s_is_term) (defScope s_is_term) .none kV10 dc10 pm10 an10 cd10 ct10), sl10⟩) (c10 : PySem.W.codeIn K cd10 "is_term" = true) (k10 : PySem.W.keepIn K (.ref f10) = true)
    (a11 : PySem.W.nsIn K mainGlobals "summed" = some (some (.ref f11))) (l11 : K.lookup f11 = some ⟨oc11, od11, .func (PySem.W.fnOf "summed" "summed" (defArgs s_summed) (defBody s_summed) (defScope s_summed) .none kV11 dc11 pm11 an11 cd11 ct11), sl11⟩) (c11 : PySem.W.codeIn K cd11 "summed" = true) (k11 : PySem.W.keepIn K (.ref f11) = true)
    (a12 : PySem.W.findIn K (.ref C) "__init__" = some (some (.ref f12))) (i12 : PySem.W.isFn K (.ref f12) = true)
    (l12 : K.lookup f12 = some ⟨oc12, od12, .func (PySem.W.fnOf "__init__" "Poly.__init__" (defArgs s_Poly___init__) (defBody s_Poly___init__) (defScope s_Poly___init__) .none kV12 dc12 pm12 an12 cd12 ct12), sl12⟩) (c12 : PySem.W.codeIn K cd12 "Poly.__init__" = true) (k12 : PySem.W.keepIn K (.ref f12) = true)
    (a13 : PySem.W.nsIn K mainGlobals "_law_terms_of" = some (some (.ref f13))) (l13 : K.lookup f13 = some ⟨oc13, od13, .func (PySem.W.fnOf "_law_terms_of" "_law_terms_of" (defArgs s_l_terms_of) (defBody s_l_terms_of) (defScope s_l_terms_of) .none kV13 dc13 pm13 an13 cd13 ct13), sl13⟩) (c13 : PySem.W.codeIn K cd13 "_law_terms_of" = true) (k13 : PySem.W.keepIn K (.ref f13) = true)
    (a14 : PySem.W.nsIn K mainGlobals "check_poly" = some (some (.ref f14))) (l14 : K.lookup f14 = some ⟨oc14, od14, .func (PySem.W.fnOf "check_poly" "check_poly" (defArgs s_check_poly) (defBody s_check_poly) (defScope s_check_poly) .none kV14 dc14 pm14 an14 cd14 ct14), sl14⟩) (c14 : PySem.W.codeIn K cd14 "check_poly" = true) (k14 : PySem.W.keepIn K (.ref f14) = true)
    (a15 : PySem.W.nsIn K mainGlobals "as_poly" = some (some (.ref f15))) (l15 : K.lookup f15 = some ⟨oc15, od15, .func (PySem.W.fnOf "as_poly" "as_poly" (defArgs s_as_poly) (defBody s_as_poly) (defScope s_as_poly) .none kV15 dc15 pm15 an15 cd15 ct15), sl15⟩) (c15 : PySem.W.codeIn K cd15 "as_poly" = true) (k15 : PySem.W.keepIn K (.ref f15) = true)
    (a16 : PySem.W.findIn K (.ref C) "__add__" = some (some (.ref f16))) (i16 : PySem.W.isFn K (.ref f16) = true)
    (l16 : K.lookup f16 = some ⟨oc16, od16, .func (PySem.W.fnOf "__add__" "Poly.__add__" (defArgs s_Poly___add__) (defBody s_Poly___add__) (defScope s_Poly___add__) .none kV16 dc16 pm16 an16 cd16 ct16), sl16⟩) (c16 : PySem.W.codeIn K cd16 "Poly.__add__" = true) (k16 : PySem.W.keepIn K (.ref f16) = true)
    (a17 : PySem.W.nsIn K mainGlobals "negative" = some (some (.ref f17))) (l17 : K.lookup f17 = some ⟨oc17, od17, .func (PySem.W.fnOf "negative" "negative" (defArgs s_negative) (defBody s_negative) (defScope s_negative) .none kV17 dc17 pm17 an17 cd17 ct17), sl17⟩) (c17 : PySem.W.codeIn K cd17 "negative" = true) (k17 : PySem.W.keepIn K (.ref f17) = true)
    (a18 : PySem.W.findIn K (.ref C) "__neg__" = some (some (.ref f18))) (i18 : PySem.W.isFn K (.ref f18) = true)
    (l18 : K.lookup f18 = some ⟨oc18, od18, .func (PySem.W.fnOf "__neg__" "Poly.__neg__" (defArgs s_Poly___neg__) (defBody s_Poly___neg__) (defScope s_Poly___neg__) .none kV18 dc18 pm18 an18 cd18 ct18), sl18⟩) (c18 : PySem.W.codeIn K cd18 "Poly.__neg__" = true) (k18 : PySem.W.keepIn K (.ref f18) = true)
    (a19 : PySem.W.findIn K (.ref C) "mirrored" = some (some (.ref f19))) (i19 : PySem.W.isFn K (.ref f19) = true)
    (l19 : K.lookup f19 = some ⟨oc19, od19, .func (PySem.W.fnOf "mirrored" "Poly.mirrored" (defArgs s_Poly_mirrored) (defBody s_Poly_mirrored) (defScope s_Poly_mirrored) .none kV19 dc19 pm19 an19 cd19 ct19), sl19⟩) (c19 : PySem.W.codeIn K cd19 "Poly.mirrored" = true) (k19 : PySem.W.keepIn K (.ref f19) = true)
    (a20 : PySem.W.nsIn K mainGlobals "_law_made" = some (some (.ref f20))) (l20 : K.lookup f20 = some ⟨oc20, od20, .func (PySem.W.fnOf "_law_made" "_law_made" (defArgs s_l_made) (defBody s_l_made) (defScope s_l_made) .none kV20 dc20 pm20 an20 cd20 ct20), sl20⟩) (c20 : PySem.W.codeIn K cd20 "_law_made" = true) (k20 : PySem.W.keepIn K (.ref f20) = true)
    (a21 : PySem.W.nsIn K mainGlobals "_law_times" = some (some (.ref f21))) (l21 : K.lookup f21 = some ⟨oc21, od21, .func (PySem.W.fnOf "_law_times" "_law_times" (defArgs s_l_times) (defBody s_l_times) (defScope s_l_times) .none kV21 dc21 pm21 an21 cd21 ct21), sl21⟩) (c21 : PySem.W.codeIn K cd21 "_law_times" = true) (k21 : PySem.W.keepIn K (.ref f21) = true)
    (a22 : PySem.W.nsIn K mainGlobals "product" = some (some (.ref f22))) (l22 : K.lookup f22 = some ⟨oc22, od22, .func (PySem.W.fnOf "product" "product" (defArgs s_product) (defBody s_product) (defScope s_product) .none kV22 dc22 pm22 an22 cd22 ct22), sl22⟩) (c22 : PySem.W.codeIn K cd22 "product" = true) (k22 : PySem.W.keepIn K (.ref f22) = true)
    (a23 : PySem.W.findIn K (.ref C) "__mul__" = some (some (.ref f23))) (i23 : PySem.W.isFn K (.ref f23) = true)
    (l23 : K.lookup f23 = some ⟨oc23, od23, .func (PySem.W.fnOf "__mul__" "Poly.__mul__" (defArgs s_Poly___mul__) (defBody s_Poly___mul__) (defScope s_Poly___mul__) .none kV23 dc23 pm23 an23 cd23 ct23), sl23⟩) (c23 : PySem.W.codeIn K cd23 "Poly.__mul__" = true) (k23 : PySem.W.keepIn K (.ref f23) = true)
    (a24 : PySem.W.nsIn K mainGlobals "_law_base_made" = some (some (.ref f24))) (l24 : K.lookup f24 = some ⟨oc24, od24, .func (PySem.W.fnOf "_law_base_made" "_law_base_made" (defArgs s_l_base_made) (defBody s_l_base_made) (defScope s_l_base_made) .none kV24 dc24 pm24 an24 cd24 ct24), sl24⟩) (c24 : PySem.W.codeIn K cd24 "_law_base_made" = true) (k24 : PySem.W.keepIn K (.ref f24) = true)
    (a25 : PySem.W.nsIn K mainGlobals "_law_some_rest" = some (some (.ref f25))) (l25 : K.lookup f25 = some ⟨oc25, od25, .func (PySem.W.fnOf "_law_some_rest" "_law_some_rest" (defArgs s_l_some_rest) (defBody s_l_some_rest) (defScope s_l_some_rest) .none kV25 dc25 pm25 an25 cd25 ct25), sl25⟩) (c25 : PySem.W.codeIn K cd25 "_law_some_rest" = true) (k25 : PySem.W.keepIn K (.ref f25) = true)
    (a26 : PySem.W.nsIn K mainGlobals "_law_jar_of" = some (some (.ref f26))) (l26 : K.lookup f26 = some ⟨oc26, od26, .func (PySem.W.fnOf "_law_jar_of" "_law_jar_of" (defArgs s_l_jar_of) (defBody s_l_jar_of) (defScope s_l_jar_of) .none kV26 dc26 pm26 an26 cd26 ct26), sl26⟩) (c26 : PySem.W.codeIn K cd26 "_law_jar_of" = true) (k26 : PySem.W.keepIn K (.ref f26) = true)
    (a27 : PySem.W.nsIn K mainGlobals "_law_plus" = some (some (.ref f27))) (l27 : K.lookup f27 = some ⟨oc27, od27, .func (PySem.W.fnOf "_law_plus" "_law_plus" (defArgs s_l_plus) (defBody s_l_plus) (defScope s_l_plus) .none kV27 dc27 pm27 an27 cd27 ct27), sl27⟩) (c27 : PySem.W.codeIn K cd27 "_law_plus" = true) (k27 : PySem.W.keepIn K (.ref f27) = true)
    (a28 : PySem.W.nsIn K mainGlobals "_law_is_int" = some (some (.ref f28))) (l28 : K.lookup f28 = some ⟨oc28, od28, .func (PySem.W.fnOf "_law_is_int" "_law_is_int" (defArgs s_l_is_int) (defBody s_l_is_int) (defScope s_l_is_int) .none kV28 dc28 pm28 an28 cd28 ct28), sl28⟩) (c28 : PySem.W.codeIn K cd28 "_law_is_int" = true) (k28 : PySem.W.keepIn K (.ref f28) = true)
    {p29 : Addr} {rs29 : List Value} (a29 : PySem.W.findIn K (.ref C) "terms" = some (some (.ref p29))) (gp29 : PySem.W.specialIn K (.ref p29) "__get__" = some (some (.builtin "property.__get__"))) (tp29 : PySem.W.takesIn K (.ref p29) = some true) (i29 : PySem.W.recIn K p29 "property" = some (.ref f29 :: rs29))
    (l29 : K.lookup f29 = some ⟨oc29, od29, .func (PySem.W.fnOf "terms" "Poly.terms" (defArgs s_Poly_terms) (defBody s_Poly_terms) (defScope s_Poly_terms) .none kV29 dc29 pm29 an29 cd29 ct29), sl29⟩) (c29 : PySem.W.codeIn K cd29 "Poly.terms" = true) (k29 : PySem.W.keepIn K (.ref f29) = true)
    {p30 : Addr} {rs30 : List Value} (a30 : PySem.W.findIn K (.ref C) "span" = some (some (.ref p30))) (gp30 : PySem.W.specialIn K (.ref p30) "__get__" = some (some (.builtin "property.__get__"))) (tp30 : PySem.W.takesIn K (.ref p30) = some true) (i30 : PySem.W.recIn K p30 "property" = some (.ref f30 :: rs30))
    (l30 : K.lookup f30 = some ⟨oc30, od30, .func (PySem.W.fnOf "span" "Poly.span" (defArgs s_Poly_span) (defBody s_Poly_span) (defScope s_Poly_span) .none kV30 dc30 pm30 an30 cd30 ct30), sl30⟩) (c30 : PySem.W.codeIn K cd30 "Poly.span" = true) (k30 : PySem.W.keepIn K (.ref f30) = true)
    (a31 : PySem.W.findIn K (.ref C) "__len__" = some (some (.ref f31))) (i31 : PySem.W.isFn K (.ref f31) = true)
    (l31 : K.lookup f31 = some ⟨oc31, od31, .func (PySem.W.fnOf "__len__" "Poly.__len__" (defArgs s_Poly___len__) (defBody s_Poly___len__) (defScope s_Poly___len__) .none kV31 dc31 pm31 an31 cd31 ct31), sl31⟩) (c31 : PySem.W.codeIn K cd31 "Poly.__len__" = true) (k31 : PySem.W.keepIn K (.ref f31) = true)
    (a32 : PySem.W.findIn K (.ref C) "__iter__" = some (some (.ref f32))) (i32 : PySem.W.isFn K (.ref f32) = true)
    (l32 : K.lookup f32 = some ⟨oc32, od32, .func (PySem.W.fnOf "__iter__" "Poly.__iter__" (defArgs s_Poly___iter__) (defBody s_Poly___iter__) (defScope s_Poly___iter__) .none kV32 dc32 pm32 an32 cd32 ct32), sl32⟩) (c32 : PySem.W.codeIn K cd32 "Poly.__iter__" = true) (k32 : PySem.W.keepIn K (.ref f32) = true)
    (a33 : PySem.W.nsIn K mainGlobals "_law_is_poly" = some (some (.ref f33))) (l33 : K.lookup f33 = some ⟨oc33, od33, .func (PySem.W.fnOf "_law_is_poly" "_law_is_poly" (defArgs s_l_is_poly) (defBody s_l_is_poly) (defScope s_l_is_poly) .none kV33 dc33 pm33 an33 cd33 ct33), sl33⟩) (c33 : PySem.W.codeIn K cd33 "_law_is_poly" = true) (k33 : PySem.W.keepIn K (.ref f33) = true)
    (a34 : PySem.W.nsIn K mainGlobals "_law_both_parts" = some (some (.ref f34))) (l34 : K.lookup f34 = some ⟨oc34, od34, .func (PySem.W.fnOf "_law_both_parts" "_law_both_parts" (defArgs s_l_both_parts) (defBody s_l_both_parts) (defScope s_l_both_parts) .none kV34 dc34 pm34 an34 cd34 ct34), sl34⟩) (c34 : PySem.W.codeIn K cd34 "_law_both_parts" = true) (k34 : PySem.W.keepIn K (.ref f34) = true)
    (a35 : PySem.W.nsIn K mainGlobals "_law_moved" = some (some (.ref f35))) (l35 : K.lookup f35 = some ⟨oc35, od35, .func (PySem.W.fnOf "_law_moved" "_law_moved" (defArgs s_l_moved) (defBody s_l_moved) (defScope s_l_moved) .none kV35 dc35 pm35 an35 cd35 ct35), sl35⟩) (c35 : PySem.W.codeIn K cd35 "_law_moved" = true) (k35 : PySem.W.keepIn K (.ref f35) = true)
    (a36 : PySem.W.nsIn K mainGlobals "check_number" = some (some (.ref f36))) (l36 : K.lookup f36 = some ⟨oc36, od36, .func (PySem.W.fnOf "check_number" "check_number" (defArgs s_check_number) (defBody s_check_number) (defScope s_check_number) .none kV36 dc36 pm36 an36 cd36 ct36), sl36⟩) (c36 : PySem.W.codeIn K cd36 "check_number" = true) (k36 : PySem.W.keepIn K (.ref f36) = true)
    (a37 : PySem.W.findIn K (.ref C) "__lshift__" = some (some (.ref f37))) (i37 : PySem.W.isFn K (.ref f37) = true)
    (l37 : K.lookup f37 = some ⟨oc37, od37, .func (PySem.W.fnOf "__lshift__" "Poly.__lshift__" (defArgs s_Poly___lshift__) (defBody s_Poly___lshift__) (defScope s_Poly___lshift__) .none kV37 dc37 pm37 an37 cd37 ct37), sl37⟩) (c37 : PySem.W.codeIn K cd37 "Poly.__lshift__" = true) (k37 : PySem.W.keepIn K (.ref f37) = true)
    (a38 : PySem.W.nsIn K mainGlobals "check_divisor" = some (some (.ref f38))) (l38 : K.lookup f38 = some ⟨oc38, od38, .func (PySem.W.fnOf "check_divisor" "check_divisor" (defArgs s_check_divisor) (defBody s_check_divisor) (defScope s_check_divisor) .none kV38 dc38 pm38 an38 cd38 ct38), sl38⟩) (c38 : PySem.W.codeIn K cd38 "check_divisor" = true) (k38 : PySem.W.keepIn K (.ref f38) = true)
    (a39 : PySem.W.nsIn K mainGlobals "division" = some (some (.ref f39))) (l39 : K.lookup f39 = some ⟨oc39, od39, .func (PySem.W.fnOf "division" "division" (defArgs s_division) (defBody s_division) (defScope s_division) .none kV39 dc39 pm39 an39 cd39 ct39), sl39⟩) (c39 : PySem.W.codeIn K cd39 "division" = true) (k39 : PySem.W.keepIn K (.ref f39) = true)
    (a40 : PySem.W.findIn K (.ref C) "__floordiv__" = some (some (.ref f40))) (i40 : PySem.W.isFn K (.ref f40) = true)
    (l40 : K.lookup f40 = some ⟨oc40, od40, .func (PySem.W.fnOf "__floordiv__" "Poly.__floordiv__" (defArgs s_Poly___floordiv__) (defBody s_Poly___floordiv__) (defScope s_Poly___floordiv__) .none kV40 dc40 pm40 an40 cd40 ct40), sl40⟩) (c40 : PySem.W.codeIn K cd40 "Poly.__floordiv__" = true) (k40 : PySem.W.keepIn K (.ref f40) = true)
    (a41 : PySem.W.findIn K (.ref C) "divided" = some (some (.ref f41))) (i41 : PySem.W.isFn K (.ref f41) = true)
    (l41 : K.lookup f41 = some ⟨oc41, od41, .func (PySem.W.fnOf "divided" "Poly.divided" (defArgs s_Poly_divided) (defBody s_Poly_divided) (defScope s_Poly_divided) .none kV41 dc41 pm41 an41 cd41 ct41), sl41⟩) (c41 : PySem.W.codeIn K cd41 "Poly.divided" = true) (k41 : PySem.W.keepIn K (.ref f41) = true)
    (a42 : PySem.W.nsIn K mainGlobals "_law_far_ones" = some (some (.ref f42))) (l42 : K.lookup f42 = some ⟨oc42, od42, .func (PySem.W.fnOf "_law_far_ones" "_law_far_ones" (defArgs s_l_far_ones) (defBody s_l_far_ones) (defScope s_l_far_ones) .none kV42 dc42 pm42 an42 cd42 ct42), sl42⟩) (c42 : PySem.W.codeIn K cd42 "_law_far_ones" = true) (k42 : PySem.W.keepIn K (.ref f42) = true)
    (a43 : PySem.W.nsIn K mainGlobals "law" = some (some (.ref f43))) (l43 : K.lookup f43 = some ⟨oc43, od43, .func (PySem.W.fnOf "law" "law" (defArgs s_law) (defBody s_law) (defScope s_law) .none kV43 dc43 pm43 an43 cd43 ct43), sl43⟩) (c43 : PySem.W.codeIn K cd43 "law" = true) (k43 : PySem.W.keepIn K (.ref f43) = true)
    (z_abs : PySem.W.nsIn K mainGlobals "abs" = some none) (z_all : PySem.W.nsIn K mainGlobals "all" = some none) (z_any : PySem.W.nsIn K mainGlobals "any" = some none) (z_bool : PySem.W.nsIn K mainGlobals "bool" = some none) (z_dict : PySem.W.nsIn K mainGlobals "dict" = some none) (z_int : PySem.W.nsIn K mainGlobals "int" = some none) (z_isinstance : PySem.W.nsIn K mainGlobals "isinstance" = some none) (z_iter : PySem.W.nsIn K mainGlobals "iter" = some none) (z_len : PySem.W.nsIn K mainGlobals "len" = some none) (z_list : PySem.W.nsIn K mainGlobals "list" = some none) (z_max : PySem.W.nsIn K mainGlobals "max" = some none) (z_min : PySem.W.nsIn K mainGlobals "min" = some none) (z_range : PySem.W.nsIn K mainGlobals "range" = some none) (z_sorted : PySem.W.nsIn K mainGlobals "sorted" = some none) (z_str : PySem.W.nsIn K mainGlobals "str" = some none) (z_sum : PySem.W.nsIn K mainGlobals "sum" = some none) (z_tuple : PySem.W.nsIn K mainGlobals "tuple" = some none)
    (aGNlshift : PySem.W.findIn K (.ref C) (dunderR "lshift") = some none)
    (bGNlshift : PySem.W.findIn K (.type "int") (PySem.dunder "lshift") = some foGNlshift)
    (cGNlshift : PySem.W.findIn K (.type "int") (dunderR "lshift") = some roGNlshift)
    (aGAfloordiv : PySem.W.findIn K (.ref C) (dunderI "floordiv") = some none)
    (bGAfloordiv : PySem.W.findIn K (.type "object") (dunderI "floordiv") = some none)
    : ∃ fd : FuncData, (∀ (s : Shared) (v : Value), BindsTo s fd ⟨[v], []⟩ [("_law_script", v)]) ∧ ∀ base : Heap, K.In base → base.Ns mainGlobals mg → FnOk l.prog w K mg base CX0 9 fa fd ["_law_script"] (spLaw K) := by
  cases (hfa.symm.trans (PySem.W.mg_of X G a43))
  have F_l_bag_of := fun_mk (st := s_l_bag_of) l1 c1 k1
  have b_l_bag_of := F_l_bag_of.binds (ps := ["_law_cell"]) fun _ _ _ _ _ _ us hl => match us, hl with | [_], _ => rfl
  have F_l_pick := fun_mk (st := s_l_pick) l2 c2 k2
  have b_l_pick := F_l_pick.binds (ps := ["_law_bag", "_law_many"]) fun _ _ _ _ _ _ us hl => match us, hl with | [_, _], _ => rfl
  have F_l_great_int := fun_mk (st := s_l_great_int) l3 c3 k3
  have b_l_great_int := F_l_great_int.binds (ps := ["_law_bag", "_law_digits"]) fun _ _ _ _ _ _ us hl => match us, hl with | [_, _], _ => rfl
  have F_l_less := fun_mk (st := s_l_less) l4 c4 k4
  have b_l_less := F_l_less.binds (ps := ["_law_bag"]) fun _ _ _ _ _ _ us hl => match us, hl with | [_], _ => rfl
  have F_l_some_int := fun_mk (st := s_l_some_int) l5 c5 k5
  have b_l_some_int := F_l_some_int.binds (ps := ["_law_bag"]) fun _ _ _ _ _ _ us hl => match us, hl with | [_], _ => rfl
  have F_l_pairs := fun_mk (st := s_l_pairs) l6 c6 k6
  have b_l_pairs := F_l_pairs.binds (ps := ["_law_bag", "_law_most", "_law_far"]) fun _ _ _ _ _ _ us hl => match us, hl with | [_, _, _], _ => rfl
  have F_l_divisor_of := fun_mk (st := s_l_divisor_of) l7 c7 k7
  have b_l_divisor_of := F_l_divisor_of.binds (ps := ["_law_bag", "_law_top"]) fun _ _ _ _ _ _ us hl => match us, hl with | [_, _], _ => rfl
  have F_l_divisor := fun_mk (st := s_l_divisor) l8 c8 k8
  have b_l_divisor := F_l_divisor.binds (ps := ["_law_bag", "_law_most"]) fun _ _ _ _ _ _ us hl => match us, hl with | [_, _], _ => rfl
  have F_is_integer := fun_mk (st := s_is_integer) l9 c9 k9
  have b_is_integer := F_is_integer.binds (ps := ["value"]) fun _ _ _ _ _ _ us hl => match us, hl with | [_], _ => rfl
  have F_is_term := fun_mk (st := s_is_term) l10 c10 k10
  have b_is_term := F_is_term.binds (ps := ["value"]) fun _ _ _ _ _ _ us hl => match us, hl with | [_], _ => rfl
  have F_summed := fun_mk (st := s_summed) l11 c11 k11
  have b_summed := F_summed.binds (ps := ["terms"]) fun _ _ _ _ _ _ us hl => match us, hl with | [_], _ => rfl
  have F_Poly___init__ := fun_mk (st := s_Poly___init__) l12 c12 k12
  have b_Poly___init__ := F_Poly___init__.binds (ps := ["self", "terms"]) fun _ _ _ _ _ _ us hl => match us, hl with | [_, _], _ => rfl
  have F_l_terms_of := fun_mk (st := s_l_terms_of) l13 c13 k13
  have b_l_terms_of := F_l_terms_of.binds (ps := ["_law_jar"]) fun _ _ _ _ _ _ us hl => match us, hl with | [_], _ => rfl
  have F_check_poly := fun_mk (st := s_check_poly) l14 c14 k14
  have b_check_poly := F_check_poly.binds (ps := ["value"]) fun _ _ _ _ _ _ us hl => match us, hl with | [_], _ => rfl
  have F_as_poly := fun_mk (st := s_as_poly) l15 c15 k15
  have b_as_poly := F_as_poly.binds (ps := ["value"]) fun _ _ _ _ _ _ us hl => match us, hl with | [_], _ => rfl
  have F_Poly___add__ := fun_mk (st := s_Poly___add__) l16 c16 k16
  have b_Poly___add__ := F_Poly___add__.binds (ps := ["self", "other"]) fun _ _ _ _ _ _ us hl => match us, hl with | [_, _], _ => rfl
  have F_negative := fun_mk (st := s_negative) l17 c17 k17
  have b_negative := F_negative.binds (ps := ["poly"]) fun _ _ _ _ _ _ us hl => match us, hl with | [_], _ => rfl
  have F_Poly___neg__ := fun_mk (st := s_Poly___neg__) l18 c18 k18
  have b_Poly___neg__ := F_Poly___neg__.binds (ps := ["self"]) fun _ _ _ _ _ _ us hl => match us, hl with | [_], _ => rfl
  have F_Poly_mirrored := fun_mk (st := s_Poly_mirrored) l19 c19 k19
  have b_Poly_mirrored := F_Poly_mirrored.binds (ps := ["self"]) fun _ _ _ _ _ _ us hl => match us, hl with | [_], _ => rfl
  have F_l_made := fun_mk (st := s_l_made) l20 c20 k20
  have b_l_made := F_l_made.binds (ps := ["_law_bag", "_law_jar"]) fun _ _ _ _ _ _ us hl => match us, hl with | [_, _], _ => rfl
  have F_l_times := fun_mk (st := s_l_times) l21 c21 k21
  have b_l_times := F_l_times.binds (ps := ["_law_one", "_law_two"]) fun _ _ _ _ _ _ us hl => match us, hl with | [_, _], _ => rfl
  have F_product := fun_mk (st := s_product) l22 c22 k22
  have b_product := F_product.binds (ps := ["one", "two"]) fun _ _ _ _ _ _ us hl => match us, hl with | [_, _], _ => rfl
  have F_Poly___mul__ := fun_mk (st := s_Poly___mul__) l23 c23 k23
  have b_Poly___mul__ := F_Poly___mul__.binds (ps := ["self", "other"]) fun _ _ _ _ _ _ us hl => match us, hl with | [_, _], _ => rfl
  have F_l_base_made := fun_mk (st := s_l_base_made) l24 c24 k24
  have b_l_base_made := F_l_base_made.binds (ps := ["_law_bag"]) fun _ _ _ _ _ _ us hl => match us, hl with | [_], _ => rfl
  have F_l_some_rest := fun_mk (st := s_l_some_rest) l25 c25 k25
  have b_l_some_rest := F_l_some_rest.binds (ps := ["_law_bag", "_law_top"]) fun _ _ _ _ _ _ us hl => match us, hl with | [_, _], _ => rfl
  have F_l_jar_of := fun_mk (st := s_l_jar_of) l26 c26 k26
  have b_l_jar_of := F_l_jar_of.binds (ps := ["_law_rows"]) fun _ _ _ _ _ _ us hl => match us, hl with | [_], _ => rfl
  have F_l_plus := fun_mk (st := s_l_plus) l27 c27 k27
  have b_l_plus := F_l_plus.binds (ps := ["_law_one", "_law_two", "_law_sign"]) fun _ _ _ _ _ _ us hl => match us, hl with | [_, _, _], _ => rfl
  have F_l_is_int := fun_mk (st := s_l_is_int) l28 c28 k28
  have b_l_is_int := F_l_is_int.binds (ps := ["_law_thing"]) fun _ _ _ _ _ _ us hl => match us, hl with | [_], _ => rfl
  have F_Poly_terms := fun_mk (st := s_Poly_terms) l29 c29 k29
  have b_Poly_terms := F_Poly_terms.binds (ps := ["self"]) fun _ _ _ _ _ _ us hl => match us, hl with | [_], _ => rfl
  have F_Poly_span := fun_mk (st := s_Poly_span) l30 c30 k30
  have b_Poly_span := F_Poly_span.binds (ps := ["self"]) fun _ _ _ _ _ _ us hl => match us, hl with | [_], _ => rfl
  have F_Poly___len__ := fun_mk (st := s_Poly___len__) l31 c31 k31
  have b_Poly___len__ := F_Poly___len__.binds (ps := ["self"]) fun _ _ _ _ _ _ us hl => match us, hl with | [_], _ => rfl
  have F_Poly___iter__ := fun_mk (st := s_Poly___iter__) l32 c32 k32
  have b_Poly___iter__ := F_Poly___iter__.binds (ps := ["self"]) fun _ _ _ _ _ _ us hl => match us, hl with | [_], _ => rfl
  have F_l_is_poly := fun_mk (st := s_l_is_poly) l33 c33 k33
  have b_l_is_poly := F_l_is_poly.binds (ps := ["_law_found", "_law_jar"]) fun _ _ _ _ _ _ us hl => match us, hl with | [_, _], _ => rfl
  have F_l_both_parts := fun_mk (st := s_l_both_parts) l34 c34 k34
  have b_l_both_parts := F_l_both_parts.binds (ps := ["_law_found", "_law_jar", "_law_base"]) fun _ _ _ _ _ _ us hl => match us, hl with | [_, _, _], _ => rfl
  have F_l_moved := fun_mk (st := s_l_moved) l35 c35 k35
  have b_l_moved := F_l_moved.binds (ps := ["_law_jar", "_law_shift"]) fun _ _ _ _ _ _ us hl => match us, hl with | [_, _], _ => rfl
  have F_check_number := fun_mk (st := s_check_number) l36 c36 k36
  have b_check_number := F_check_number.binds (ps := ["value"]) fun _ _ _ _ _ _ us hl => match us, hl with | [_], _ => rfl
  have F_Poly___lshift__ := fun_mk (st := s_Poly___lshift__) l37 c37 k37
  have b_Poly___lshift__ := F_Poly___lshift__.binds (ps := ["self", "number"]) fun _ _ _ _ _ _ us hl => match us, hl with | [_, _], _ => rfl
  have F_check_divisor := fun_mk (st := s_check_divisor) l38 c38 k38
  have b_check_divisor := F_check_divisor.binds (ps := ["value"]) fun _ _ _ _ _ _ us hl => match us, hl with | [_], _ => rfl
  have F_division := fun_mk (st := s_division) l39 c39 k39
  have b_division := F_division.binds (ps := ["poly", "divisor"]) fun _ _ _ _ _ _ us hl => match us, hl with | [_, _], _ => rfl
  have F_Poly___floordiv__ := fun_mk (st := s_Poly___floordiv__) l40 c40 k40
  have b_Poly___floordiv__ := F_Poly___floordiv__.binds (ps := ["self", "divisor"]) fun _ _ _ _ _ _ us hl => match us, hl with | [_, _], _ => rfl
  have F_Poly_divided := fun_mk (st := s_Poly_divided) l41 c41 k41
  have b_Poly_divided := F_Poly_divided.binds (ps := ["self", "divisor"]) fun _ _ _ _ _ _ us hl => match us, hl with | [_, _], _ => rfl
  have F_l_far_ones := fun_mk (st := s_l_far_ones) l42 c42 k42
  have b_l_far_ones := F_l_far_ones.binds (ps := ["_law_bag", "_law_free", "_law_ways", "_law_ring_like", "_law_base"]) fun _ _ _ _ _ _ us hl => match us, hl with | [_, _, _, _, _], _ => rfl
  have F_law := fun_mk (st := s_law) l43 c43 k43
  have B_Bl : Bl mg := ⟨PySem.W.mg_none_of X G z_isinstance, PySem.W.mg_none_of X G z_int, PySem.W.mg_none_of X G z_bool, PySem.W.mg_none_of X G z_str, PySem.W.mg_none_of X G z_tuple, PySem.W.mg_none_of X G z_list, PySem.W.mg_none_of X G z_len, PySem.W.mg_none_of X G z_all, PySem.W.mg_none_of X G z_range, PySem.W.mg_none_of X G z_sum, PySem.W.mg_none_of X G z_max, PySem.W.mg_none_of X G z_min⟩
  have B_BlA : BlA mg := ⟨PySem.W.mg_none_of X G z_abs, PySem.W.mg_none_of X G z_any, PySem.W.mg_none_of X G z_dict, PySem.W.mg_none_of X G z_iter, PySem.W.mg_none_of X G z_sorted⟩
  refine ⟨PySem.W.fnOf "law" "law" (defArgs s_law) (defBody s_law) (defScope s_law) .none kV43 dc43 pm43 an43 cd43 ct43, fun s v => .of_eq rfl, fun base _ _ => ?_⟩
  have g_Poly := PySem.W.mg_of X G aC
  have G_Poly : PolyT K mg C := ⟨⟨pgP, hdP, poP, saP⟩, nRP, g_Poly, sfP, by unfold PySem.W.plainMro; rw [icP]; simp [moP], caP, cnP, ctP, cmP, ⟨_, icP⟩, tyP, s1P, s2P, s3P, s4P, s5P, s6P, t1P, t2P, t3P, t4P⟩
  have GI_Poly_lshift : IntOp K C "lshift" := ⟨⟨_, aGNlshift, .inl rfl⟩, ⟨_, bGNlshift⟩, ⟨_, cGNlshift⟩, s1P⟩
  have GA_Poly_floordiv : AugOp K C "floordiv" := ⟨G_Poly.mro, aGAfloordiv, bGAfloordiv⟩
  have g_l_bag_of := PySem.W.mg_of X G a1
  have g_l_pick := PySem.W.mg_of X G a2
  have g_l_great_int := PySem.W.mg_of X G a3
  have g_l_less := PySem.W.mg_of X G a4
  have g_l_some_int := PySem.W.mg_of X G a5
  have g_l_pairs := PySem.W.mg_of X G a6
  have g_l_divisor_of := PySem.W.mg_of X G a7
  have g_l_divisor := PySem.W.mg_of X G a8
  have g_is_integer := PySem.W.mg_of X G a9
  have g_is_term := PySem.W.mg_of X G a10
  have g_summed := PySem.W.mg_of X G a11
  have g_l_terms_of := PySem.W.mg_of X G a13
  have g_check_poly := PySem.W.mg_of X G a14
  have g_as_poly := PySem.W.mg_of X G a15
  have g_negative := PySem.W.mg_of X G a17
  have g_l_made := PySem.W.mg_of X G a20
  have g_l_times := PySem.W.mg_of X G a21
  have g_product := PySem.W.mg_of X G a22
  have g_l_base_made := PySem.W.mg_of X G a24
  have g_l_some_rest := PySem.W.mg_of X G a25
  have g_l_jar_of := PySem.W.mg_of X G a26
  have g_l_plus := PySem.W.mg_of X G a27
  have g_l_is_int := PySem.W.mg_of X G a28
  have g_l_is_poly := PySem.W.mg_of X G a33
  have g_l_both_parts := PySem.W.mg_of X G a34
  have g_l_moved := PySem.W.mg_of X G a35
  have g_check_number := PySem.W.mg_of X G a36
  have g_check_divisor := PySem.W.mg_of X G a38
  have g_division := PySem.W.mg_of X G a39
  have g_l_far_ones := PySem.W.mg_of X G a42
  have g_law := PySem.W.mg_of X G a43
  have h_l_bag_of : Has l.prog w K mg base "_law_bag_of" 1 ["_law_cell"] spBagOf := ⟨_, _, ok_l_bag_of F_l_bag_of B_Bl, PySem.W.mg_of X G a1, k1, b_l_bag_of⟩
  have h_l_pick : Has l.prog w K mg base "_law_pick" 1 ["_law_bag", "_law_many"] spPick := ⟨_, _, ok_l_pick F_l_pick B_Bl, PySem.W.mg_of X G a2, k2, b_l_pick⟩
  have h_l_great_int : Has l.prog w K mg base "_law_great_int" 2 ["_law_bag", "_law_digits"] spGreat := ⟨_, _, ok_l_great_int F_l_great_int B_Bl h_l_pick, PySem.W.mg_of X G a3, k3, b_l_great_int⟩
  have h_l_less : Has l.prog w K mg base "_law_less" 3 ["_law_bag"] spLess := ⟨_, _, ok_l_less F_l_less h_l_pick h_l_great_int, PySem.W.mg_of X G a4, k4, b_l_less⟩
  have h_l_some_int : Has l.prog w K mg base "_law_some_int" 3 ["_law_bag"] spSomeInt := ⟨_, _, ok_l_some_int F_l_some_int h_l_pick h_l_great_int, PySem.W.mg_of X G a5, k5, b_l_some_int⟩
  have h_l_pairs : Has l.prog w K mg base "_law_pairs" 4 ["_law_bag", "_law_most", "_law_far"] spPairs := ⟨_, _, ok_l_pairs F_l_pairs B_Bl h_l_pick h_l_some_int, PySem.W.mg_of X G a6, k6, b_l_pairs⟩
  have h_l_divisor_of : Has l.prog w K mg base "_law_divisor_of" 2 ["_law_bag", "_law_top"] spDivisorOf := ⟨_, _, ok_l_divisor_of F_l_divisor_of B_Bl h_l_pick, PySem.W.mg_of X G a7, k7, b_l_divisor_of⟩
  have h_l_divisor : Has l.prog w K mg base "_law_divisor" 3 ["_law_bag", "_law_most"] spDivisor := ⟨_, _, ok_l_divisor F_l_divisor h_l_pick h_l_divisor_of, PySem.W.mg_of X G a8, k8, b_l_divisor⟩
  have h_is_integer : Has l.prog w K mg base "is_integer" 1 ["value"] spIsInt := ⟨_, _, ok_is_integer F_is_integer B_Bl, g_is_integer, F_is_integer.kp, b_is_integer⟩
  have h_is_integerT : Has l.prog w K mg base "is_integer" 1 ["value"] (spIsIntT K) := ⟨_, _, ok_is_integerT F_is_integer B_Bl, g_is_integer, F_is_integer.kp, b_is_integer⟩
  have h_is_term : Has l.prog w K mg base "is_term" 2 ["value"] spIsTerm := ⟨_, _, ok_is_term F_is_term B_Bl h_is_integer, PySem.W.mg_of X G a10, k10, b_is_term⟩
  have h_summed : Has l.prog w K mg base "summed" 1 ["terms"] spSummed := ⟨_, _, ok_summed F_summed B_Bl B_BlA.b_sorted, PySem.W.mg_of X G a11, k11, b_summed⟩
  have hc_Poly : HasC l.prog w K mg base "Poly" C 3 ["self", "terms"] (spInit C) := ⟨_, _, ok_Poly_init F_Poly___init__ B_Bl G_Poly h_is_term h_summed, ⟨mk_Poly, a12, i12, kc_Poly⟩, g_Poly, b_Poly___init__⟩
  have h_l_terms_of : Has l.prog w K mg base "_law_terms_of" 1 ["_law_jar"] spTerms := ⟨_, _, ok_l_terms_of F_l_terms_of B_BlA.b_sorted, PySem.W.mg_of X G a13, k13, b_l_terms_of⟩
  have h_check_poly : Has l.prog w K mg base "check_poly" 1 ["value"] (fun vs H Q _ => ∃ a ts, vs = [.ref a] ∧ PolyAt C H a ts ∧ Q .non H) := ⟨_, _, ok_check_poly F_check_poly B_Bl G_Poly, PySem.W.mg_of X G a14, k14, b_check_poly⟩
  have h_as_poly : Has l.prog w K mg base "as_poly" 5 ["value"] (spAsPoly C) := ⟨_, _, ok_as_poly F_as_poly B_Bl G_Poly h_is_integerT hc_Poly h_check_poly, PySem.W.mg_of X G a15, k15, b_as_poly⟩
  have hm_Poly___add__ : HasM l.prog w K mg base C "__add__" 6 ["self", "other"] (spPoly2 C fun c d k => c k + d k) := ⟨_, _, ok_Poly_add F_Poly___add__ B_Bl G_Poly hc_Poly h_as_poly, ⟨a16, i16, k16⟩, b_Poly___add__⟩
  have h_negative : Has l.prog w K mg base "negative" 5 ["poly"] (spPoly1 C fun ts k => -cof ts k) := ⟨_, _, ok_negative F_negative B_Bl G_Poly hc_Poly, PySem.W.mg_of X G a17, k17, b_negative⟩
  have hm_Poly___neg__ : HasM l.prog w K mg base C "__neg__" 6 ["self"] (spPoly1 C fun ts k => -cof ts k) := ⟨_, _, ok_Poly_neg F_Poly___neg__ h_negative, ⟨a18, i18, k18⟩, b_Poly___neg__⟩
  have hm_Poly_mirrored : HasM l.prog w K mg base C "mirrored" 5 ["self"] (spPoly1 C fun ts k => cof ts (-k)) := ⟨_, _, ok_Poly_mirrored F_Poly_mirrored B_Bl G_Poly hc_Poly, ⟨a19, i19, k19⟩, b_Poly_mirrored⟩
  have h_l_made : Has l.prog w K mg base "_law_made" 7 ["_law_bag", "_law_jar"] (spMade C) := ⟨_, _, ok_l_made F_l_made B_Bl G_Poly hc_Poly h_l_pick h_l_terms_of hm_Poly___add__ hm_Poly___neg__ hm_Poly_mirrored, PySem.W.mg_of X G a20, k20, b_l_made⟩
  have h_l_times2 : Has l.prog w K mg base "_law_times" 1 ["_law_one", "_law_two"] spTimes2 := ⟨_, _, ok_l_times2 F_l_times, g_l_times, F_l_times.kp, b_l_times⟩
  have h_l_times : Has l.prog w K mg base "_law_times" 1 ["_law_one", "_law_two"] spTimes2 := ⟨_, _, ok_l_times2 F_l_times, g_l_times, F_l_times.kp, b_l_times⟩
  have h_product : Has l.prog w K mg base "product" 5 ["one", "two"] (spProduct C) := ⟨_, _, ok_product F_product B_Bl G_Poly hc_Poly, PySem.W.mg_of X G a22, k22, b_product⟩
  have hm_Poly___mul__ : HasM l.prog w K mg base C "__mul__" 6 ["self", "other"] (spMul C mulF) := ⟨_, _, ok_Poly_mul F_Poly___mul__ h_as_poly h_product, ⟨a23, i23, k23⟩, b_Poly___mul__⟩
  have h_l_base_made : Has l.prog w K mg base "_law_base_made" 8 ["_law_bag"] (spBaseMade C) := ⟨_, _, ok_l_base_made F_l_base_made G_Poly h_l_pick h_l_divisor h_l_made h_l_times hm_Poly___mul__, PySem.W.mg_of X G a24, k24, b_l_base_made⟩
  have h_l_some_rest : Has l.prog w K mg base "_law_some_rest" 4 ["_law_bag", "_law_top"] spSomeRest := ⟨_, _, ok_l_some_rest F_l_some_rest B_Bl h_l_pick h_l_some_int, PySem.W.mg_of X G a25, k25, b_l_some_rest⟩
  have h_l_jar_of : Has l.prog w K mg base "_law_jar_of" 1 ["_law_rows"] spJarOf := ⟨_, _, ok_l_jar_of F_l_jar_of, g_l_jar_of, F_l_jar_of.kp, b_l_jar_of⟩
  have h_l_jar_of2 : Has l.prog w K mg base "_law_jar_of" 1 ["_law_rows"] spJarOf2 := ⟨_, _, ok_l_jar_of2 F_l_jar_of, g_l_jar_of, F_l_jar_of.kp, b_l_jar_of⟩
  have h_l_plus : Has l.prog w K mg base "_law_plus" 1 ["_law_one", "_law_two", "_law_sign"] spPlus := ⟨_, _, ok_l_plus F_l_plus B_BlA.b_dict, PySem.W.mg_of X G a27, k27, b_l_plus⟩
  have h_l_is_int : Has l.prog w K mg base "_law_is_int" 1 ["_law_thing"] spIsInt := ⟨_, _, ok_l_is_int F_l_is_int B_Bl, PySem.W.mg_of X G a28, k28, b_l_is_int⟩
  have hp_Poly_terms : HasP l.prog w K mg base C "terms" 1 ["self"] (spGetTerms C) := ⟨_, _, _, ok_Poly_terms F_Poly_terms B_Bl G_Poly, ⟨a29, gp29, tp29, _, i29⟩, b_Poly_terms⟩
  have hp_Poly_span : HasP l.prog w K mg base C "span" 1 ["self"] (spGetSpan C) := ⟨_, _, _, ok_Poly_span F_Poly_span B_Bl G_Poly, ⟨a30, gp30, tp30, _, i30⟩, b_Poly_span⟩
  have hm_Poly___len__ : HasM l.prog w K mg base C "__len__" 1 ["self"] (spPLen C) := ⟨_, _, ok_Poly_len F_Poly___len__ B_Bl G_Poly, ⟨a31, i31, k31⟩, b_Poly___len__⟩
  have hs_Poly___iter__ : HasS l.prog w K mg base C "__iter__" 1 ["self"] (spIter K C "rows") := ⟨_, _, ok_Poly_iter F_Poly___iter__ B_BlA.b_iter G_Poly, ⟨a32, i32, k32⟩, b_Poly___iter__⟩
  have h_l_is_poly : Has l.prog w K mg base "_law_is_poly" 4 ["_law_found", "_law_jar"] (spIsPoly C) := ⟨_, _, ok_l_is_poly F_l_is_poly B_Bl G_Poly h_l_is_int h_l_terms_of hp_Poly_terms hp_Poly_span hm_Poly___len__ hs_Poly___iter__, PySem.W.mg_of X G a33, k33, b_l_is_poly⟩
  have h_l_both_parts : Has l.prog w K mg base "_law_both_parts" 5 ["_law_found", "_law_jar", "_law_base"] (spBothParts C) := ⟨_, _, ok_l_both_parts F_l_both_parts B_Bl B_BlA.b_any G_Poly h_l_jar_of2 h_l_times2 h_l_plus h_l_terms_of h_l_is_poly hp_Poly_terms, PySem.W.mg_of X G a34, k34, b_l_both_parts⟩
  have h_l_moved : Has l.prog w K mg base "_law_moved" 2 ["_law_jar", "_law_shift"] spMoved := ⟨_, _, ok_l_moved F_l_moved h_l_jar_of, PySem.W.mg_of X G a35, k35, b_l_moved⟩
  have h_check_number : Has l.prog w K mg base "check_number" 2 ["value"] spPNum := ⟨_, _, ok_check_number F_check_number B_Bl h_is_integer, PySem.W.mg_of X G a36, k36, b_check_number⟩
  have hm_Poly___lshift__ : HasM l.prog w K mg base C "__lshift__" 5 ["self", "number"] (spShift C) := ⟨_, _, ok_Poly_lshift F_Poly___lshift__ B_Bl G_Poly hc_Poly h_check_number, ⟨a37, i37, k37⟩, b_Poly___lshift__⟩
  have h_check_divisor : Has l.prog w K mg base "check_divisor" 2 ["value"] (spCheckDiv C) := ⟨_, _, ok_check_divisor F_check_divisor B_Bl B_BlA.b_abs G_Poly h_check_poly, PySem.W.mg_of X G a38, k38, b_check_divisor⟩
  have h_division : Has l.prog w K mg base "division" 5 ["poly", "divisor"] (spDivision C) := ⟨_, _, ok_division F_division B_Bl B_BlA.b_sorted G_Poly hp_Poly_span hc_Poly, PySem.W.mg_of X G a39, k39, b_division⟩
  have hm_Poly___floordiv__ : HasM l.prog w K mg base C "__floordiv__" 6 ["self", "divisor"] (spFloor C) := ⟨_, _, ok_Poly_floordiv F_Poly___floordiv__ h_check_divisor h_division, ⟨a40, i40, k40⟩, b_Poly___floordiv__⟩
  have hmk_Poly_divided : HasMK l.prog w K mg base C "divided" 6 ["self", "divisor"] ["divisor"] (spDivision C) := ⟨_, _, ok_Poly_divided F_Poly_divided h_check_divisor h_division, ⟨a41, i41, k41⟩, kb1 (fun u ws hl => match ws, hl with | [_], _ => rfl)⟩
  have hm_Poly_divided : HasM l.prog w K mg base C "divided" 6 ["self", "divisor"] (spDivision C) := ⟨_, _, ok_Poly_divided F_Poly_divided h_check_divisor h_division, ⟨a41, i41, k41⟩, b_Poly_divided⟩
  have h_l_far_ones : Has l.prog w K mg base "_law_far_ones" 8 ["_law_bag", "_law_free", "_law_ways", "_law_ring_like", "_law_base"] (spFarOnes C) := ⟨_, _, ok_l_far_ones F_l_far_ones B_Bl G_Poly h_l_pick h_l_made h_l_times2 h_l_moved h_l_terms_of h_l_is_poly h_l_both_parts hm_Poly___mul__ hm_Poly___lshift__ GI_Poly_lshift hm_Poly___floordiv__ hm_Poly_divided, PySem.W.mg_of X G a42, k42, b_l_far_ones⟩
  exact ok_law F_law B_Bl G_Poly h_l_bag_of h_l_pick h_l_less h_l_pairs h_l_base_made h_l_some_rest h_l_divisor_of h_l_made h_l_jar_of2 h_l_times2 h_l_plus h_l_terms_of h_l_is_poly h_l_both_parts h_l_far_ones hc_Poly hm_Poly___mul__ hm_Poly___add__ hm_Poly___floordiv__ GA_Poly_floordiv hm_Poly_divided hmk_Poly_divided
end My
open PySem PySem.W PyProof.Rows
set_option maxRecDepth 100000 in
set_option maxHeartbeats 0 in
theorem PySem.Challenge.cw_everyangle_k05_whole_divided_holds : PySem.Challenge.rw_everyangle_k05_whole_divided.Holds := by
  w_on; o_law; k_head; (case hw => w_witness2)
  k_fill
  refine L2.walk_of (l := PySem.Challenge.rw_everyangle_k05_whole_divided) (n := 63) (k := 9) (x := "_law_script") (CX := fun _ => L2.CX0) (sp := fun w => My.spLaw _) rfl (by decide) rfl ⟨rfl, by decide, by decide⟩ (fun w h Y => PySem.W.kIn_of Y) ?F (fun _ _ a ns hl _ hS => ⟨a, ns, rfl, hS, hl, fun _ => rfl⟩) (fun _ _ _ _ _ h => h)
  case F =>
    intro w mg fa h KX G hmg
    refine' My.all_mk KX G hmg ?aC ?pgP ?hdP ?poP ?saP ?mk_Poly ?kc_Poly ?nRP ?sfP ?icP ?moP ?caP ?cnP ?ctP ?cmP ?tyP ?s1P ?s2P ?s3P ?s4P ?s5P ?s6P ?t1P ?t2P ?t3P ?t4P ?a1 ?l1 ?c1 ?k1 ?a2 ?l2 ?c2 ?k2 ?a3 ?l3 ?c3 ?k3 ?a4 ?l4 ?c4 ?k4 ?a5 ?l5 ?c5 ?k5 ?a6 ?l6 ?c6 ?k6 ?a7 ?l7 ?c7 ?k7 ?a8 ?l8 ?c8 ?k8 ?a9 ?l9 ?c9 ?k9 ?a10 ?l10 ?c10 ?k10 ?a11 ?l11 ?c11 ?k11 ?a12 ?i12 ?l12 ?c12 ?k12 ?a13 ?l13 ?c13 ?k13 ?a14 ?l14 ?c14 ?k14 ?a15 ?l15 ?c15 ?k15 ?a16 ?i16 ?l16 ?c16 ?k16 ?a17 ?l17 ?c17 ?k17 ?a18 ?i18 ?l18 ?c18 ?k18 ?a19 ?i19 ?l19 ?c19 ?k19 ?a20 ?l20 ?c20 ?k20 ?a21 ?l21 ?c21 ?k21 ?a22 ?l22 ?c22 ?k22 ?a23 ?i23 ?l23 ?c23 ?k23 ?a24 ?l24 ?c24 ?k24 ?a25 ?l25 ?c25 ?k25 ?a26 ?l26 ?c26 ?k26 ?a27 ?l27 ?c27 ?k27 ?a28 ?l28 ?c28 ?k28 ?a29 ?gp29 ?tp29 ?i29 ?l29 ?c29 ?k29 ?a30 ?gp30 ?tp30 ?i30 ?l30 ?c30 ?k30 ?a31 ?i31 ?l31 ?c31 ?k31 ?a32 ?i32 ?l32 ?c32 ?k32 ?a33 ?l33 ?c33 ?k33 ?a34 ?l34 ?c34 ?k34 ?a35 ?l35 ?c35 ?k35 ?a36 ?l36 ?c36 ?k36 ?a37 ?i37 ?l37 ?c37 ?k37 ?a38 ?l38 ?c38 ?k38 ?a39 ?l39 ?c39 ?k39 ?a40 ?i40 ?l40 ?c40 ?k40 ?a41 ?i41 ?l41 ?c41 ?k41 ?a42 ?l42 ?c42 ?k42 ?a43 ?l43 ?c43 ?k43 ?z_abs ?z_all ?z_any ?z_bool ?z_dict ?z_int ?z_isinstance ?z_iter ?z_len ?z_list ?z_max ?z_min ?z_range ?z_sorted ?z_str ?z_sum ?z_tuple ?aGNlshift ?bGNlshift ?cGNlshift ?aGAfloordiv ?bGAfloordiv
    (case aC => k_is); (case pgP => k_is); (case hdP => k_is); (case poP => k_is); (case saP => k_is); (case mk_Poly => k_is); (case kc_Poly => k_is); (case nRP => k_is); (case sfP => k_is); (case icP => k_is); (case moP => rfl); (case caP => k_is); (case cnP => k_is); (case ctP => k_is); (case cmP => k_is); (case tyP => k_is); (case s1P => k_is); (case s2P => k_is); (case s3P => k_is); (case s4P => k_is); (case s5P => k_is); (case s6P => k_is); (case t1P => k_is); (case t2P => k_is); (case t3P => k_is); (case t4P => k_is); (case a1 => k_is); (case l1 => k_is); (case c1 => k_is); (case k1 => k_is); (case a2 => k_is); (case l2 => k_is); (case c2 => k_is); (case k2 => k_is); (case a3 => k_is); (case l3 => k_is); (case c3 => k_is); (case k3 => k_is); (case a4 => k_is); (case l4 => k_is); (case c4 => k_is); (case k4 => k_is); (case a5 => k_is); (case l5 => k_is); (case c5 => k_is); (case k5 => k_is); (case a6 => k_is); (case l6 => k_is); (case c6 => k_is); (case k6 => k_is); (case a7 => k_is); (case l7 => k_is); (case c7 => k_is); (case k7 => k_is); (case a8 => k_is); (case l8 => k_is); (case c8 => k_is); (case k8 => k_is); (case a9 => k_is); (case l9 => k_is); (case c9 => k_is); (case k9 => k_is); (case a10 => k_is); (case l10 => k_is); (case c10 => k_is); (case k10 => k_is); (case a11 => k_is); (case l11 => k_is); (case c11 => k_is); (case k11 => k_is); (case a12 => k_is); (case i12 => k_is); (case l12 => k_is); (case c12 => k_is); (case k12 => k_is); (case a13 => k_is); (case l13 => k_is); (case c13 => k_is); (case k13 => k_is); (case a14 => k_is); (case l14 => k_is); (case c14 => k_is); (case k14 => k_is); (case a15 => k_is); (case l15 => k_is); (case c15 => k_is); (case k15 => k_is); (case a16 => k_is); (case i16 => k_is); (case l16 => k_is); (case c16 => k_is); (case k16 => k_is); (case a17 => k_is); (case l17 => k_is); (case c17 => k_is); (case k17 => k_is); (case a18 => k_is); (case i18 => k_is); (case l18 => k_is); (case c18 => k_is); (case k18 => k_is); (case a19 => k_is); (case i19 => k_is); (case l19 => k_is); (case c19 => k_is); (case k19 => k_is); (case a20 => k_is); (case l20 => k_is); (case c20 => k_is); (case k20 => k_is); (case a21 => k_is); (case l21 => k_is); (case c21 => k_is); (case k21 => k_is); (case a22 => k_is); (case l22 => k_is); (case c22 => k_is); (case k22 => k_is); (case a23 => k_is); (case i23 => k_is); (case l23 => k_is); (case c23 => k_is); (case k23 => k_is); (case a24 => k_is); (case l24 => k_is); (case c24 => k_is); (case k24 => k_is); (case a25 => k_is); (case l25 => k_is); (case c25 => k_is); (case k25 => k_is); (case a26 => k_is); (case l26 => k_is); (case c26 => k_is); (case k26 => k_is); (case a27 => k_is); (case l27 => k_is); (case c27 => k_is); (case k27 => k_is); (case a28 => k_is); (case l28 => k_is); (case c28 => k_is); (case k28 => k_is); (case a29 => k_is); (case gp29 => k_is); (case tp29 => k_is); (case i29 => k_is); (case l29 => k_is); (case c29 => k_is); (case k29 => k_is); (case a30 => k_is); (case gp30 => k_is); (case tp30 => k_is); (case i30 => k_is); (case l30 => k_is); (case c30 => k_is); (case k30 => k_is); (case a31 => k_is); (case i31 => k_is); (case l31 => k_is); (case c31 => k_is); (case k31 => k_is); (case a32 => k_is); (case i32 => k_is); (case l32 => k_is); (case c32 => k_is); (case k32 => k_is); (case a33 => k_is); (case l33 => k_is); (case c33 => k_is); (case k33 => k_is); (case a34 => k_is); (case l34 => k_is); (case c34 => k_is); (case k34 => k_is); (case a35 => k_is); (case l35 => k_is); (case c35 => k_is); (case k35 => k_is); (case a36 => k_is); (case l36 => k_is); (case c36 => k_is); (case k36 => k_is); (case a37 => k_is); (case i37 => k_is); (case l37 => k_is); (case c37 => k_is); (case k37 => k_is); (case a38 => k_is); (case l38 => k_is); (case c38 => k_is); (case k38 => k_is); (case a39 => k_is); (case l39 => k_is); (case c39 => k_is); (case k39 => k_is); (case a40 => k_is); (case i40 => k_is); (case l40 => k_is); (case c40 => k_is); (case k40 => k_is); (case a41 => k_is); (case i41 => k_is); (case l41 => k_is); (case c41 => k_is); (case k41 => k_is); (case a42 => k_is); (case l42 => k_is); (case c42 => k_is); (case k42 => k_is); (case a43 => k_is); (case l43 => k_is); (case c43 => k_is); (case k43 => k_is); (case z_abs => k_is); (case z_all => k_is); (case z_any => k_is); (case z_bool => k_is); (case z_dict => k_is); (case z_int => k_is); (case z_isinstance => k_is); (case z_iter => k_is); (case z_len => k_is); (case z_list => k_is); (case z_max => k_is); (case z_min => k_is); (case z_range => k_is); (case z_sorted => k_is); (case z_str => k_is); (case z_sum => k_is); (case z_tuple => k_is); (case aGNlshift => k_is); (case bGNlshift => k_is); (case cGNlshift => k_is); (case aGAfloordiv => k_is); (case bGAfloordiv => k_is)
