import PyProof.Rows.All
import Wide.All
import OpenK.AllK
import Wide.FinOn
import HandS.ForMost
import HandS.Wide
import HandS.WideMore
import HandS.Flow
import HandS.IsInst
import HandS.Text
import HandS.More
import KE.KOpsOwn
import HandS.Property
import HandS.SlotsOwn
import HandS.MakeKw
import HandS.Style
import HandS.ExcValue
import HandS.ExcIs
import HandS.Defaults
import HandS.TupAny
import PyProof.StrOps2
import HandS.Exc
import HandS.ExcOwn
import HandS.WordsExc
import HandS.Rev
import HandS.List
import KE.KRevSl
import HandS.SetKeys
import HandS.SortInts
import KE.KOwnIter
import KE.KDictIter
import HandS.IterNext
import PyProof.TwoTypes
import PyProof.FactsAll.int_1
import PyProof.FactsAll.int_3
import PyProof.FactsAll.int_5
import HandS.Conv
import HandS.WideBits
import PySem.Challenge.RW_everyangle_k22_whole_parted
set_option Elab.async false
set_option linter.all false
set_option maxRecDepth 100000
namespace My
open PySem PySem.Spec PyProof.Rows L2

/-! ### a def of the text, by its name -/
structure Has (P : Program) (w : World) (K : PySem.W.Frag) (mg : Str → Option Value) (base : Heap) (x : Str) (k : Nat) (ps : List Str) (sp : Sp) : Prop where
  ex : ∃ f fd, FnOk P w K mg base CX0 k f fd ps sp ∧ mg x = some (.ref f) ∧ PySem.W.keepIn K (.ref f) = true ∧ Binds K fd ps []
theorem Has.mono {P : Program} {w : World} {K : PySem.W.Frag} {mg : Str → Option Value} {base : Heap} {x : Str} {j k : Nat} {ps : List Str} {sp : Sp} (h : Has P w K mg base x j ps sp) (hk : j ≤ k) : Has P w K mg base x k ps sp := by
  obtain ⟨f, fd, F, a, b, c⟩ := h.ex
  exact ⟨f, fd, F.mono hk, a, b, c⟩
section
variable {X : Cx} {k : Nat} {ps : List Str} {sp : Sp} {x : Str} {p pos : Pos} {e : Expr} {es : List Expr} {t : TA}
theorem pe_callH (h : Has X.prog X.w X.K X.mg X.base x k ps sp) (hr : Room k X.A) (ha : PA X (e :: es) t) (hg : Gl X x := by rfl) (hdb : (x == ("__debug__" : Str)) = false := by decide)
   (hs : starEach (e :: es) X.env = (false, eval e X.env) :: starEach es X.env := by rfl) (hplain : (backTo pos (starEach es X.env)).any (·.1) = false := by rfl) :
   PE X (.Call (.Name x p) (e :: es) [] pos) (tCall sp [] E0 t) := by
  obtain ⟨f, fd, F, a, b, c⟩ := h.ex
  exact pe_call F hr hg a b c .nil pass0 ha hdb hs hplain
theorem pe_callH0 (h : Has X.prog X.w X.K X.mg X.base x k ps sp) (hr : Room k X.A) (hg : Gl X x := by rfl) (hdb : (x == ("__debug__" : Str)) = false := by decide) :
   PE X (.Call (.Name x p) [] [] pos) (tCall sp [] E0 tNil) := by
  obtain ⟨f, fd, F, a, b, c⟩ := h.ex
  exact pe_call0 F hr hg a b c .nil pass0 hdb
end
/-- xs[i] read by values, for o[i] op= e -/
theorem pg_list {X : Cx} : PGet X (rIxL X.K) := by
  intro pins s σ H x y v u Q I rx ry h
  obtain ⟨p, xs, i, z, rfl, rfl, hq, he, q⟩ := h
  cases rx
  obtain ⟨t, rfl⟩ := ry
  obtain ⟨its, r, pl, hz⟩ := I.list hq
  obtain ⟨j, h1, h2, h3, h4, h5⟩ := atI_get he
  obtain ⟨w, ew, rw'⟩ := r.get h2
  have hl := r.length
  have hn := line63
  have fin : EP X pins σ Q w s := ⟨z, H, I, rw', q⟩
  by_cases h0 : 0 ≤ i
  · have hj : i.toNat = j := by
      rw [seqIndex_of h0 h5] at h1
      exact Option.some.inj h1
    exact wpAny_getItem_list pl.isList h0 (by omega) (by rw [hj]; simpa using ew) fin
  · have hj : (i + (its.toArray.size : Int)).toNat = j := by
      rw [seqIndex_neg (by omega) h4] at h1
      rw [List.size_toArray, ← hl]
      exact Option.some.inj h1
    exact wpAny_getItem_list_neg pl.isList (by omega) (by rw [List.size_toArray] <;> omega) (by omega) (by rw [hj]; simpa using ew) fin
/-- int(n) of an int, of a truth -/
theorem call_intI {X : Cx} : CallR X (.type "int") (fun xs H Q => ∃ i, xs = [.int i] ∧ Q (.int i) H) := fun pins s σ H xs us Q I r h => call_int1 pins s σ H xs us Q I r (.inl h)
theorem call_intB {X : Cx} : CallR X (.type "int") (fun xs H Q => ∃ k, xs = [.bl k] ∧ Q (.int (if k then 1 else 0)) H) := fun pins s σ H xs us Q I r h => call_int1 pins s σ H xs us Q I r (.inr h)

/-! ### readings, one step at a time -/
section
variable {σ : L2.St} {H : Hp} {Q : VK} {i j : Nat} {v x y : V} {ta tb tc te ti to : TE} {K : PySem.W.Frag}
theorem r_var (e : σ[i]? = some (some v)) (q : Q v H) : tVar i σ H Q := ⟨v, e, q⟩
theorem r_c (q : Q v H) : tC v σ H Q := q
theorem r_op {r : R2} (q : ta σ H fun x H1 => tb σ H1 fun y H2 => r x y H2 Q) : tOp r ta tb σ H Q := q
theorem r_un {r : V → Hp → VK → Prop} (q : ta σ H fun x H1 => r x H1 Q) : tUn r ta σ H Q := q
theorem r_rI {C : Int → Int → Prop} {g : Int → Int → V} {a b : Int} (c : C a b) (q : Q (g a b) H) : rI C g (.int a) (.int b) H Q := ⟨a, b, rfl, rfl, c, q⟩
theorem r_rI0 {g : Int → Int → V} {a b : Int} (q : Q (g a b) H) : rI0 g (.int a) (.int b) H Q := ⟨a, b, rfl, rfl, q⟩
theorem r_rU {g : Int → V} {a : Int} (q : Q (g a) H) : rU g (.int a) H Q := ⟨a, rfl, q⟩
theorem r_eq (s : scal x y = true) (q : Q (.bl (decide (x = y))) H) : rEq x y H Q := ⟨s, q⟩
theorem r_ne (s : scal x y = true) (q : Q (.bl (!decide (x = y))) H) : rNe x y H Q := ⟨s, q⟩
theorem dec_int {a b : Int} : decide (V.int a = V.int b) = decide (a = b) := by
  by_cases h : a = b
  · rw [h]; simp
  · rw [decide_eq_false h, decide_eq_false (fun e => h (V.int.inj e))]
theorem dec_bl {a b : Bool} : decide (V.bl a = V.bl b) = decide (a = b) := by
  by_cases h : a = b
  · rw [h]; simp
  · rw [decide_eq_false h, decide_eq_false (fun e => h (V.bl.inj e))]
theorem dec_str {a b : Str} : decide (V.str a = V.str b) = decide (a = b) := by
  by_cases h : a = b
  · rw [h]; simp
  · rw [decide_eq_false h, decide_eq_false (fun e => h (V.str.inj e))]
theorem r_eqI {a b : Int} (q : Q (.bl (decide (a = b))) H) : rEq (.int a) (.int b) H Q := ⟨rfl, by rw [dec_int]; exact q⟩
theorem r_neI {a b : Int} (q : Q (.bl (!decide (a = b))) H) : rNe (.int a) (.int b) H Q := ⟨rfl, by rw [dec_int]; exact q⟩
theorem r_eqB {a b : Bool} (q : Q (.bl (decide (a = b))) H) : rEq (.bl a) (.bl b) H Q := ⟨rfl, by rw [dec_bl]; exact q⟩
theorem r_neB {a b : Bool} (q : Q (.bl (!decide (a = b))) H) : rNe (.bl a) (.bl b) H Q := ⟨rfl, by rw [dec_bl]; exact q⟩
theorem r_eqS {a b : Str} (q : Q (.bl (decide (a = b))) H) : rEq (.str a) (.str b) H Q := ⟨rfl, by rw [dec_str]; exact q⟩
theorem r_neS {a b : Str} (q : Q (.bl (!decide (a = b))) H) : rNe (.str a) (.str b) H Q := ⟨rfl, by rw [dec_str]; exact q⟩
theorem r_ixL {p : Addr} {xs : List V} {n : Int} (h : SqL K H p xs) (e : atI xs n = some v) (q : Q v H) : rIxL K (.ref p) (.int n) H Q := ⟨p, xs, n, v, rfl, rfl, h, e, q⟩
theorem r_ixT {p : Addr} {xs : List V} {n : Int} (h : SqT K H p xs) (e : atI xs n = some v) (q : Q v H) : rIxT K (.ref p) (.int n) H Q := ⟨p, xs, n, v, rfl, rfl, h, e, q⟩
theorem r_cb {r : List V → Hp → VK → Prop} {t : TA} (q : t σ H fun vs H1 => r vs H1 Q) : tCB r t σ H Q := q
theorem r_call {sp : Sp} {E : XK} {t : TA} (q : t σ H fun vs H1 => sp vs H1 Q E) : tCall sp [] E t σ H Q := by
  unfold tCall
  simpa only [List.append_nil] using q
theorem r_cons {t : TA} {R : List V → Hp → Prop} (q : te σ H fun x H1 => t σ H1 fun xs H2 => R (x :: xs) H2) : tCons te t σ H R := q
theorem r_nil {R : List V → Hp → Prop} (q : R [] H) : tNil σ H R := q
theorem r_lst {t : TA} (q : t σ H fun xs H1 => xs.length ≤ sizeLine ∧ ∀ p, H1 p = none → Q (.ref p) (upd H1 p (.lst xs))) : tLst t σ H Q := q
theorem r_tup {t : TA} (q : t σ H fun xs H1 => xs.length ≤ sizeLine ∧ ∀ p, H1 p = none → Q (.ref p) (upd H1 p (.tup xs))) : tTup t σ H Q := q
theorem small_of {n : Nat} (h : n ≤ 100000) : n ≤ sizeLine := Nat.le_trans h (by decide)
theorem r_new {A : Prop} {n : Nat} (h : n ≤ 100000) (q : A) : n ≤ sizeLine ∧ A := ⟨small_of h, q⟩
theorem r_exbl {b : Bool} {R : Bool → Prop} (q : R b) : ∃ k, V.bl b = V.bl k ∧ R k := ⟨b, rfl, q⟩
theorem r_exint {n : Int} {R : Int → Prop} (q : R n) : ∃ k, [V.int n] = [V.int k] ∧ R k := ⟨n, rfl, q⟩
theorem r_exint2 {n m : Int} {R : Int → Int → Prop} (q : R n m) : ∃ k l, [V.int n, V.int m] = [V.int k, V.int l] ∧ R k l := ⟨n, m, rfl, q⟩
theorem r_exblL {b : Bool} {R : Bool → Prop} (q : R b) : ∃ k, [V.bl b] = [V.bl k] ∧ R k := ⟨b, rfl, q⟩
theorem r_test {t : TE} {R : Bool → Hp → Prop} (q : t σ H fun x H' => ∃ k, x = .bl k ∧ R k H') : tTest t σ H R := q
theorem r_tB {t : TE} {R : Bool → Hp → Prop} (q : t σ H fun x H' => ∃ k, x = .bl k ∧ R k H') : tB t σ H R := q
theorem r_not {t : TT} {R : Bool → Hp → Prop} (q : t σ H fun c H1 => R (!c) H1) : tNot t σ H R := q
theorem r_and {t u : TT} {R : Bool → Hp → Prop} (q : t σ H fun c H1 => if c = true then u σ H1 R else R false H1) : tAnd t u σ H R := q
theorem r_or {t u : TT} {R : Bool → Hp → Prop} (q : t σ H fun c H1 => if c = true then R true H1 else u σ H1 R) : tOr t u σ H R := q
theorem r_andV (q : ta σ H fun x H1 => ∃ c, x = .bl c ∧ if c = true then tb σ H1 Q else Q (.bl false) H1) : tAndV ta tb σ H Q := q
theorem r_orV (q : ta σ H fun x H1 => ∃ c, x = .bl c ∧ if c = true then Q (.bl true) H1 else tb σ H1 Q) : tOrV ta tb σ H Q := q
theorem r_notV (q : ta σ H fun x H1 => ∃ c, x = .bl c ∧ Q (.bl (!c)) H1) : tNotV ta σ H Q := q
theorem r_tif {t : TT} (q : t σ H fun c H1 => if c = true then ta σ H1 Q else tb σ H1 Q) : tIf t ta tb σ H Q := q
theorem r_iteT {A B : Prop} (q : A) : if true = true then A else B := by rw [if_pos rfl]; exact q
theorem r_iteF {A B : Prop} (q : B) : if false = true then A else B := by rw [if_neg Bool.false_ne_true]; exact q
theorem r_ite {b : Bool} {A B : Prop} (q : b = true → A) (q' : b = false → B) : if b = true then A else B := by
  cases b with
  | true => rw [if_pos rfl]; exact q rfl
  | false => rw [if_neg Bool.false_ne_true]; exact q' rfl
theorem r_iteD {c A B : Prop} [Decidable c] (q : c → A) (q' : ¬ c → B) : if decide c = true then A else B := by
  by_cases h : c
  · rw [if_pos (decide_eq_true h)]; exact q h
  · rw [if_neg (by simpa using h)]; exact q' h
theorem r_iteN {c A B : Prop} [Decidable c] (q : ¬ c → A) (q' : c → B) : if (!decide c) = true then A else B := by
  by_cases h : c
  · rw [if_neg (by simpa using h)]; exact q' h
  · rw [if_pos (by simpa using h)]; exact q h
theorem r_iteNT {A B : Prop} (q : B) : if (!true) = true then A else B := r_iteF q
theorem r_iteNF {A B : Prop} (q : A) : if (!false) = true then A else B := r_iteT q
theorem r_iteDT {c A B : Prop} [Decidable c] (h : c) (q : A) : if decide c = true then A else B := by rw [if_pos (decide_eq_true h)]; exact q
theorem r_iteDF {c A B : Prop} [Decidable c] (h : ¬ c) (q : B) : if decide c = true then A else B := by rw [if_neg (by simpa using h)]; exact q
theorem r_iteNDT {c A B : Prop} [Decidable c] (h : ¬ c) (q : A) : if (!decide c) = true then A else B := by rw [if_pos (by simpa using h)]; exact q
theorem r_iteNDF {c A B : Prop} [Decidable c] (h : c) (q : B) : if (!decide c) = true then A else B := by rw [if_neg (by simpa using h)]; exact q
theorem atI2_0 {x y : V} : atI [x, y] 0 = some x := rfl
theorem atI2_1 {x y : V} : atI [x, y] 1 = some y := rfl
/-- a statement, then the rest, with a word between them -/
def tCutM (t u : TS) : TS := fun D σ H => ∃ Mid : L2.St → Hp → Prop, t { D with nx := Mid } σ H ∧ ∀ σ' H', Mid σ' H' → u D σ' H'
theorem pss_cutM {X : Cx} {st : Stmt} {rest : List Stmt} {t u : TS} (h1 : PS X st t) (h2 : PSs X rest u) : PSs X (st :: rest) (tCutM t u) := by
  refine ⟨fun pins s σ H D I h => ?_⟩
  obtain ⟨Mid, hm, hu⟩ := h
  refine wpAny_execs_cons (thn (h1.run pins s σ H { D with nx := Mid } I hm) fun f s1 q => ?_)
  cases f with
  | next =>
    obtain ⟨σ', H', I', q⟩ := q
    exact h2.run pins s1 σ' H' D I' (hu σ' H' q)
  | ret v => exact q
  | brk => exact q
  | cont => exact q
variable {D : Ends} {t u : TS} {g : TG} {c : TT}
theorem r_cut (Mid : L2.St → Hp → Prop) (h : t { D with nx := Mid } σ H) (q : ∀ σ' H', Mid σ' H' → u D σ' H') : tCutM t u D σ H := ⟨Mid, h, q⟩
theorem r_seq (q : t { D with nx := u D } σ H) : tSeq t u D σ H := q
theorem r_next (q : D.nx σ H) : tNext D σ H := q
theorem r_brk (q : D.bk σ H) : tBreak D σ H := q
theorem r_cont (q : D.ct σ H) : tCont D σ H := q
theorem r_asg (q : te σ H fun x H1 => g x σ H1 D.nx) : tAsg te g D σ H := q
theorem r_gname {R : L2.St → Hp → Prop} (q : R (σ.set i (some v)) H) : gName i v σ H R := q
theorem r_ret (q : te σ H D.rt) : tRet te D σ H := q
theorem r_retN (q : D.rt .non H) : tRetN D σ H := q
theorem r_drop (q : te σ H fun _ H1 => D.nx σ H1) : tDrop te D σ H := q
theorem r_if (q : c σ H fun b H1 => if b = true then t D σ H1 else u D σ H1) : tIfS c t u D σ H := q
theorem r_aug {ip : TIp} (e : σ[i]? = some (some x)) (q : te σ H fun y H1 => ip x y H1 fun z H2 => D.nx (σ.set i (some z)) H2) : tAug i te ip D σ H := ⟨x, e, q⟩
theorem r_ipI {f : Int → Int → Int} {a b : Int} (q : Q (.int (f a b)) H) : ipI f (.int a) (.int b) H Q := ⟨a, b, rfl, rfl, q⟩
theorem r_augS {gt : V → V → Hp → VK → Prop} {ip : TIp} {st : TSet} (q : to σ H fun o H1 => ti σ H1 fun i H2 => gt o i H2 fun x H3 => te σ H3 fun y H4 => ip x y H4 fun z H5 => st o i z H5 fun H6 => D.nx σ H6) : tAugS to ti te gt ip st D σ H := q
theorem r_gsub {st : TSet} {R : L2.St → Hp → Prop} (q : to σ H fun o H1 => ti σ H1 fun i H2 => st o i v H2 fun H3 => R σ H3) : gSub to ti st v σ H R := q
theorem r_setL {p : Addr} {xs : List V} {n : Int} {m : Nat} {R : Hp → Prop} (h : H p = some (.lst xs)) (e : ixN xs.length n = some m) (q : R (upd H p (.lst (xs.set m v)))) : rSetL (.ref p) (.int n) v H R := ⟨p, xs, n, m, rfl, rfl, h, e, q⟩
theorem r_par {i j : Nat} {tas : TA} (q : tas σ H fun vs H1 => ∃ v w, vs = [v, w] ∧ D.nx ((σ.set i (some v)).set j (some w)) H1) : tPar i j tas D σ H := q
theorem r_ex2 {v w : V} {R : V → V → Prop} (q : R v w) : ∃ a b, [v, w] = [a, b] ∧ R a b := ⟨v, w, rfl, q⟩
theorem r_bm {T : String} {r : V → List V → Hp → VK → Prop} {tas : TA} (q : to σ H fun x H1 => tyV K T x H1 ∧ tas σ H1 fun xs H2 => r x xs H2 Q) : tBM K T r to tas σ H Q := q
theorem r_tyL {p : Addr} {xs : List V} {A : Prop} (h : H p = some (.lst xs)) (q : A) : tyV K "list" (.ref p) H ∧ A := ⟨.inl ⟨rfl, _, .inl (.inl h)⟩, q⟩
theorem r_append {p : Addr} {xs : List V} (h : H p = some (.lst xs)) (hl : xs.length < 100000) (q : Q .non (upd H p (.lst (xs ++ [v])))) : rAppend (.ref p) [v] H Q := ⟨p, xs, v, rfl, rfl, h, Nat.lt_of_lt_of_le hl (by decide), q⟩
end

/-- f(k = v, ..): all by name, in the parameters' order -/
def gK (us ws : List Value) : List Value := match us with | [] => ws | _ :: _ => []
def gKV (us ws : List V) : List V := match us with | [] => ws | _ :: _ => []
structure HasK (P : Program) (w : World) (K : PySem.W.Frag) (mg : Str → Option Value) (base : Heap) (x : Str) (k : Nat) (ps : List Str) (sp : Sp) : Prop where
  ex : ∃ f fd, FnOk P w K mg base CX0 k f fd ps sp ∧ mg x = some (.ref f) ∧ PySem.W.keepIn K (.ref f) = true ∧ Binds K fd ps [] ∧ KBinds K fd ps ps gK gKV
theorem HasK.has {P : Program} {w : World} {K : PySem.W.Frag} {mg : Str → Option Value} {base : Heap} {x : Str} {k : Nat} {ps : List Str} {sp : Sp} (h : HasK P w K mg base x k ps sp) : Has P w K mg base x k ps sp := by
  obtain ⟨f, fd, F, a, b, c, _⟩ := h.ex
  exact ⟨f, fd, F, a, b, c⟩
theorem kbinds {K : PySem.W.Frag} {fd : FuncData} {ps : List Str} (h : ∀ ws : List Value, ws.length = ps.length → bindArgs fd ⟨[], ps.zip ws⟩ = pure (ps.zip ws)) (h0 : ps ≠ []) : KBinds K fd ps ps gK gKV := ⟨fun s us ws _ hl => by
  cases us with
  | nil => exact .of_eq (h ws hl)
  | cons u r => exact absurd (List.length_eq_zero_iff.mp hl.symm) h0, fun r rz => by
  cases r with
  | nil => exact rz
  | cons _ _ => exact .nil⟩
theorem pe_callHK {X : Cx} {k : Nat} {ps : List Str} {sp : Sp} {x : Str} {p pos : Pos} {kws : List Keyword} {tk : TA} (h : HasK X.prog X.w X.K X.mg X.base x k ps sp) (hr : Room k X.A) (hkw : PK X kws tk) (hg : Gl X x := by rfl)
    (hall : (backToKw pos (keywordEach kws X.env)).all (·.1.isSome) = true := by rfl) (hks : (backToKw pos (keywordEach kws X.env)).filterMap (·.1) = ps := by rfl) (hdb : (x == ("__debug__" : Str)) = false := by decide)
    (hpl : ((backTo pos (starEach [] X.env)).any (·.1) || (backToKw pos (keywordEach kws X.env)).any (·.1.isNone)) = false := by rfl) : PE X (.Call (.Name x p) [] kws pos) (tCall sp [] E0 tk) := by
  obtain ⟨f, fd, F, a, b, c, kb⟩ := h.ex
  refine ⟨fun pins s σ H Q I h => ?_⟩
  refine wpAny_Call_Name_kw (ld_glob I hg a ?_ hdb)
  refine PySem.W.callWith_KW0 (h₀ := X.base) I.ok.mod.kin b hall (thn (hkw.run pos pins s σ H _ I h) fun ws s2 ⟨zs, H2, I2, rz, q2⟩ => ⟨I2.kIn, ?_⟩) hpl
  rw [hks]
  have q2 : sp (zs ++ []) H2 Q E0 := q2
  rw [List.append_nil] at q2
  exact run_fnk (us := []) (vs := []) F hr kb pass0 I2 .nil rz q2

/-! ### isinstance -/
section
variable {H : Hp} {Q : VK} {K : PySem.W.Frag} {x : V}
theorem r_isi {a b : String} {r : Bool} (ty : TyX K H x (.type a)) (k : kitB a b = some r) (q : Q (.bl r) H) : rIsi K [x, .ty b] H Q := ⟨x, .ty b, _, _, r, rfl, .ty b, ty, kit_ty k, q⟩
theorem ty_int {i : Int} : TyX K H (.int i) (.type "int") := .base (.int i)
theorem ty_bl {i : Bool} : TyX K H (.bl i) (.type "bool") := .base (.bl i)
theorem ty_str {i : Str} : TyX K H (.str i) (.type "str") := .base (.str i)
theorem ty_lst {p : Addr} {xs : List V} (h : H p = some (.lst xs)) : TyX K H (.ref p) (.type "list") := .base (.lst h)
theorem ty_tup {p : Addr} {xs : List V} (h : H p = some (.tup xs)) : TyX K H (.ref p) (.type "tuple") := .base (.tup h)
theorem r_isiI {b : String} {r : Bool} {i : Int} (k : kitB "int" b = some r) (q : Q (.bl r) H) : rIsi K [.int i, .ty b] H Q := r_isi ty_int k q
theorem r_isiB {b : String} {r : Bool} {i : Bool} (k : kitB "bool" b = some r) (q : Q (.bl r) H) : rIsi K [.bl i, .ty b] H Q := r_isi ty_bl k q
theorem r_isiS {b : String} {r : Bool} {i : Str} (k : kitB "str" b = some r) (q : Q (.bl r) H) : rIsi K [.str i, .ty b] H Q := r_isi ty_str k q
theorem r_isiL {b : String} {r : Bool} {p : Addr} {xs : List V} (h : H p = some (.lst xs)) (k : kitB "list" b = some r) (q : Q (.bl r) H) : rIsi K [.ref p, .ty b] H Q := r_isi (ty_lst h) k q
theorem r_isiT {b : String} {r : Bool} {p : Addr} {xs : List V} (h : H p = some (.tup xs)) (k : kitB "tuple" b = some r) (q : Q (.bl r) H) : rIsi K [.ref p, .ty b] H Q := r_isi (ty_tup h) k q
end
section
variable {H : Hp} {Q : VK} {K : PySem.W.Frag}
theorem r_is_int_int {i : Int} (q : Q (.bl true) H) : rIsi K [.int i, .ty "int"] H Q := r_isi ty_int (by decide +kernel) q
theorem r_is_int_bool {i : Int} (q : Q (.bl false) H) : rIsi K [.int i, .ty "bool"] H Q := r_isi ty_int (by decide +kernel) q
theorem r_is_int_str {i : Int} (q : Q (.bl false) H) : rIsi K [.int i, .ty "str"] H Q := r_isi ty_int (by decide +kernel) q
theorem r_is_int_list {i : Int} (q : Q (.bl false) H) : rIsi K [.int i, .ty "list"] H Q := r_isi ty_int (by decide +kernel) q
theorem r_is_int_tuple {i : Int} (q : Q (.bl false) H) : rIsi K [.int i, .ty "tuple"] H Q := r_isi ty_int (by decide +kernel) q
theorem r_is_bool_int {i : Bool} (q : Q (.bl true) H) : rIsi K [.bl i, .ty "int"] H Q := r_isi ty_bl (by decide +kernel) q
theorem r_is_bool_bool {i : Bool} (q : Q (.bl true) H) : rIsi K [.bl i, .ty "bool"] H Q := r_isi ty_bl (by decide +kernel) q
theorem r_is_bool_str {i : Bool} (q : Q (.bl false) H) : rIsi K [.bl i, .ty "str"] H Q := r_isi ty_bl (by decide +kernel) q
theorem r_is_bool_list {i : Bool} (q : Q (.bl false) H) : rIsi K [.bl i, .ty "list"] H Q := r_isi ty_bl (by decide +kernel) q
theorem r_is_bool_tuple {i : Bool} (q : Q (.bl false) H) : rIsi K [.bl i, .ty "tuple"] H Q := r_isi ty_bl (by decide +kernel) q
theorem r_is_str_int {i : Str} (q : Q (.bl false) H) : rIsi K [.str i, .ty "int"] H Q := r_isi ty_str (by decide +kernel) q
theorem r_is_str_bool {i : Str} (q : Q (.bl false) H) : rIsi K [.str i, .ty "bool"] H Q := r_isi ty_str (by decide +kernel) q
theorem r_is_str_str {i : Str} (q : Q (.bl true) H) : rIsi K [.str i, .ty "str"] H Q := r_isi ty_str (by decide +kernel) q
theorem r_is_str_list {i : Str} (q : Q (.bl false) H) : rIsi K [.str i, .ty "list"] H Q := r_isi ty_str (by decide +kernel) q
theorem r_is_str_tuple {i : Str} (q : Q (.bl false) H) : rIsi K [.str i, .ty "tuple"] H Q := r_isi ty_str (by decide +kernel) q
theorem r_is_list_int {p : Addr} {xs : List V}  (h : H p = some (.lst xs)) (q : Q (.bl false) H) : rIsi K [.ref p, .ty "int"] H Q := r_isi (ty_lst h) (by decide +kernel) q
theorem r_is_list_bool {p : Addr} {xs : List V}  (h : H p = some (.lst xs)) (q : Q (.bl false) H) : rIsi K [.ref p, .ty "bool"] H Q := r_isi (ty_lst h) (by decide +kernel) q
theorem r_is_list_str {p : Addr} {xs : List V}  (h : H p = some (.lst xs)) (q : Q (.bl false) H) : rIsi K [.ref p, .ty "str"] H Q := r_isi (ty_lst h) (by decide +kernel) q
theorem r_is_list_list {p : Addr} {xs : List V}  (h : H p = some (.lst xs)) (q : Q (.bl true) H) : rIsi K [.ref p, .ty "list"] H Q := r_isi (ty_lst h) (by decide +kernel) q
theorem r_is_list_tuple {p : Addr} {xs : List V}  (h : H p = some (.lst xs)) (q : Q (.bl false) H) : rIsi K [.ref p, .ty "tuple"] H Q := r_isi (ty_lst h) (by decide +kernel) q
theorem r_is_tuple_int {p : Addr} {xs : List V}  (h : H p = some (.tup xs)) (q : Q (.bl false) H) : rIsi K [.ref p, .ty "int"] H Q := r_isi (ty_tup h) (by decide +kernel) q
theorem r_is_tuple_bool {p : Addr} {xs : List V}  (h : H p = some (.tup xs)) (q : Q (.bl false) H) : rIsi K [.ref p, .ty "bool"] H Q := r_isi (ty_tup h) (by decide +kernel) q
theorem r_is_tuple_str {p : Addr} {xs : List V}  (h : H p = some (.tup xs)) (q : Q (.bl false) H) : rIsi K [.ref p, .ty "str"] H Q := r_isi (ty_tup h) (by decide +kernel) q
theorem r_is_tuple_list {p : Addr} {xs : List V}  (h : H p = some (.tup xs)) (q : Q (.bl false) H) : rIsi K [.ref p, .ty "list"] H Q := r_isi (ty_tup h) (by decide +kernel) q
theorem r_is_tuple_tuple {p : Addr} {xs : List V}  (h : H p = some (.tup xs)) (q : Q (.bl true) H) : rIsi K [.ref p, .ty "tuple"] H Q := r_isi (ty_tup h) (by decide +kernel) q
theorem r_is_NoneType_int  (q : Q (.bl false) H) : rIsi K [.non, .ty "int"] H Q := r_isi (.base .non) (by decide +kernel) q
theorem r_is_NoneType_bool  (q : Q (.bl false) H) : rIsi K [.non, .ty "bool"] H Q := r_isi (.base .non) (by decide +kernel) q
theorem r_is_NoneType_str  (q : Q (.bl false) H) : rIsi K [.non, .ty "str"] H Q := r_isi (.base .non) (by decide +kernel) q
theorem r_is_NoneType_list  (q : Q (.bl false) H) : rIsi K [.non, .ty "list"] H Q := r_isi (.base .non) (by decide +kernel) q
theorem r_is_NoneType_tuple  (q : Q (.bl false) H) : rIsi K [.non, .ty "tuple"] H Q := r_isi (.base .non) (by decide +kernel) q
end
/-! ### slices, sums of lists, len -/
section
variable {σ : L2.St} {H : Hp} {Q : VK} {K : PySem.W.Frag} {te : TE} {p b : Addr} {xs zs : List V}
theorem r_sl {r : V → Option Int → Option Int → Hp → VK → Prop} {tl th : TO} (q : te σ H fun x H1 => tl σ H1 fun l H2 => th σ H2 fun u H3 => r x l u H3 Q) : tSl r te tl th σ H Q := q
theorem r_nopart {R : Option Int → Hp → Prop} (q : R none H) : tNoPart σ H R := q
theorem r_part {R : Option Int → Hp → Prop} (q : te σ H fun x H1 => ∃ i, x = .int i ∧ R (some i) H1) : tPart te σ H R := q
theorem r_exI {n : Int} {R : Int → Prop} (q : R n) : ∃ k, V.int n = V.int k ∧ R k := ⟨n, rfl, q⟩
theorem r_slL {lo hi : Option Int} (h : SqL K H p xs) (q : ∀ c, H c = none → Q (.ref c) (upd H c (.lst (cutV xs lo hi)))) : rSlL K (.ref p) lo hi H Q := ⟨p, xs, rfl, h, q⟩
theorem r_cat (h : H p = some (.lst xs)) (h' : H b = some (.lst zs)) (l : xs.length + zs.length ≤ 100000) (q : ∀ c, H c = none → Q (.ref c) (upd H c (.lst (xs ++ zs)))) : rCat (.ref p) (.ref b) H Q := ⟨p, b, xs, zs, rfl, rfl, h, h', small_of l, q⟩
theorem r_sum {ns : List Int} (h : SqL K H p (ns.map V.int)) (q : Q (.int ns.sum) H) : rSum K [.ref p] H Q := ⟨p, ns, rfl, h, q⟩
def rLen (K : PySem.W.Frag) (xs : List V) (H : Hp) (Q : VK) : Prop := ∃ p ys, xs = [.ref p] ∧ (SqL K H p ys ∨ SqT K H p ys) ∧ Q (.int ys.length) H
theorem call_lenQ {X : Cx} : CallR X (.builtin "len") (rLen X.K) := call_len_seq
theorem r_lenL (h : H p = some (.lst xs)) (q : Q (.int xs.length) H) : rLen K [.ref p] H Q := ⟨p, xs, rfl, .inl (.of h), q⟩
theorem r_lenT (h : H p = some (.tup xs)) (q : Q (.int xs.length) H) : rLen K [.ref p] H Q := ⟨p, xs, rfl, .inr (.of h), q⟩
theorem r_gTup {n : Nat} {t : TGs} {R : L2.St → Hp → Prop} (h : H p = some (.tup xs)) (l : xs.length = n) (q : t xs σ H R) : gTup K n t (.ref p) σ H R := ⟨p, xs, rfl, .of h, l, q⟩
theorem r_gCons {t : TG} {u : TGs} {v : V} {R : L2.St → Hp → Prop} (q : t v σ H fun σ' H' => u xs σ' H' R) : gCons t u (v :: xs) σ H R := ⟨v, xs, rfl, q⟩
theorem r_gNil {R : L2.St → Hp → Prop} (q : R σ H) : gNil [] σ H R := ⟨rfl, q⟩
theorem cut_len (lo hi : Option Int) : (cutV xs lo hi).length ≤ xs.length := by
  unfold cutV
  rw [List.length_take, List.length_drop]
  omega
theorem cut_mem {lo hi : Option Int} {x : V} (h : x ∈ cutV xs lo hi) : x ∈ xs := by
  unfold cutV at h
  exact List.mem_of_mem_drop (List.mem_of_mem_take h)
end
theorem sum_cast (l : List Nat) (f : Nat → Nat) : (l.map fun n => (f n : Int)).sum = ((l.map f).sum : Nat) := by
  induction l with
  | nil => rfl
  | cons a r ih => rw [List.map_cons, List.sum_cons, List.map_cons, List.sum_cons, ih, Int.natCast_add]
/-! ### loops -/
section
variable {σ : L2.St} {H : Hp} {Q : VK} {K : PySem.W.Frag} {D : Ends} {tb : TS} {g : TG} {c : TT} {p : Addr} {xs : List V}
theorem r_for {wi : TI} (q : wi σ H fun J H1 => ∃ W : Nat → Nat → L2.St → Hp → Prop, (∃ m, W 0 m σ H1) ∧ ∀ i m σ H, W i m σ H →
  (J.stop i H ∧ D.nx σ H) ∨ (J.go i H ∧ ∃ N : L2.St → Hp → Prop, (∀ σ' H', N σ' H' → ∃ m', m' < m ∧ W (i + 1) m' σ' H') ∧ ∀ x H', J.yld i H x H' → g x σ H' fun σ2 H2 => tb { D with nx := N, ct := N, bk := D.nx } σ2 H2)) : tFor wi g tb D σ H := q
theorem r_iList {tl : TE} {R : It → Hp → Prop} (q : tl σ H fun x H1 => ∃ a, x = .ref a ∧ (∃ xs, SqL K H1 a xs) ∧ R (Itl K a) H1) : iList K tl σ H R := q
theorem r_iTup {tl : TE} {R : It → Hp → Prop} (q : tl σ H fun x H1 => ∃ a, x = .ref a ∧ (∃ xs, SqT K H1 a xs) ∧ R (Itt K a) H1) : iTup K tl σ H R := q
theorem r_iR1 {ta : TA} {R : It → Hp → Prop} (q : ta σ H fun vs H1 => ∃ j : Int, vs = [.int j] ∧ -(2 ^ 62) ≤ j ∧ j < 2 ^ 62 ∧ R (Itr 0 j.toNat) H1) : iRng1 ta σ H R := q
theorem r_iR2 {ta : TA} {R : It → Hp → Prop} (q : ta σ H fun vs H1 => ∃ i j : Int, vs = [.int i, .int j] ∧ (-(2 ^ 62) ≤ i ∧ i < 2 ^ 62 ∧ -(2 ^ 62) ≤ j ∧ j < 2 ^ 62) ∧ R (Itr i (j - i).toNat) H1) : iRng2 ta σ H R := q
theorem u_forL (h : SqL K H p xs) (Pv : Nat → L2.St → Hp → Prop) (h0 : Pv 0 σ H) (hl : ∀ i σ H, i ≤ xs.length → Pv i σ H → SqL K H p xs)
    (hs : ∀ i x σ H, xs[i]? = some x → Pv i σ H → g x σ H fun σ2 H2 => tb { D with nx := Pv (i + 1), ct := Pv (i + 1), bk := D.nx } σ2 H2) (hd : ∀ σ H, Pv xs.length σ H → D.nx σ H) :
    ∃ a, V.ref p = .ref a ∧ (∃ xs, SqL K H a xs) ∧ ∃ W : Nat → Nat → L2.St → Hp → Prop, (∃ m, W 0 m σ H) ∧ ∀ i m σ H, W i m σ H →
      ((Itl K a).stop i H ∧ D.nx σ H) ∨ ((Itl K a).go i H ∧ ∃ N : L2.St → Hp → Prop, (∀ σ' H', N σ' H' → ∃ m', m' < m ∧ W (i + 1) m' σ' H') ∧ ∀ x H', (Itl K a).yld i H x H' → g x σ H' fun σ2 H2 => tb { D with nx := N, ct := N, bk := D.nx } σ2 H2) :=
  ⟨p, rfl, ⟨xs, h⟩, for_list Pv h0 hl hs hd⟩
theorem u_forT (h : SqT K H p xs) (Pv : Nat → L2.St → Hp → Prop) (h0 : Pv 0 σ H) (hl : ∀ i σ H, i ≤ xs.length → Pv i σ H → SqT K H p xs)
    (hs : ∀ i x σ H, xs[i]? = some x → Pv i σ H → g x σ H fun σ2 H2 => tb { D with nx := Pv (i + 1), ct := Pv (i + 1), bk := D.nx } σ2 H2) (hd : ∀ σ H, Pv xs.length σ H → D.nx σ H) :
    ∃ a, V.ref p = .ref a ∧ (∃ xs, SqT K H a xs) ∧ ∃ W : Nat → Nat → L2.St → Hp → Prop, (∃ m, W 0 m σ H) ∧ ∀ i m σ H, W i m σ H →
      ((Itt K a).stop i H ∧ D.nx σ H) ∨ ((Itt K a).go i H ∧ ∃ N : L2.St → Hp → Prop, (∀ σ' H', N σ' H' → ∃ m', m' < m ∧ W (i + 1) m' σ' H') ∧ ∀ x H', (Itt K a).yld i H x H' → g x σ H' fun σ2 H2 => tb { D with nx := N, ct := N, bk := D.nx } σ2 H2) :=
  ⟨p, rfl, ⟨xs, h⟩, for_tup Pv h0 hl hs hd⟩
theorem u_for1 {n : Int} (hb : -(2 ^ 62) ≤ n ∧ n < 2 ^ 62) (Pv : Nat → L2.St → Hp → Prop) (h0 : Pv 0 σ H)
    (hs : ∀ (i : Nat) σ H, (i : Int) < n → Pv i σ H → g (.int (i : Int)) σ H fun σ2 H2 => tb { D with nx := Pv (i + 1), ct := Pv (i + 1), bk := D.nx } σ2 H2) (hd : ∀ σ H, Pv n.toNat σ H → D.nx σ H) :
    -(2 ^ 62) ≤ n ∧ n < 2 ^ 62 ∧ ∃ W : Nat → Nat → L2.St → Hp → Prop, (∃ m, W 0 m σ H) ∧ ∀ i m σ H, W i m σ H →
      ((Itr 0 n.toNat).stop i H ∧ D.nx σ H) ∨ ((Itr 0 n.toNat).go i H ∧ ∃ N : L2.St → Hp → Prop, (∀ σ' H', N σ' H' → ∃ m', m' < m ∧ W (i + 1) m' σ' H') ∧ ∀ x H', (Itr 0 n.toNat).yld i H x H' → g x σ H' fun σ2 H2 => tb { D with nx := N, ct := N, bk := D.nx } σ2 H2) :=
  ⟨hb.1, hb.2, for_range Pv h0 (fun i σ H hi p => by rw [Int.zero_add]; exact hs i σ H (by omega) p) hd⟩
theorem u_for2 {lo n : Int} (hb : -(2 ^ 62) ≤ lo ∧ lo < 2 ^ 62 ∧ -(2 ^ 62) ≤ n ∧ n < 2 ^ 62) (Pv : Nat → L2.St → Hp → Prop) (h0 : Pv 0 σ H)
    (hs : ∀ (i : Nat) σ H, lo + (i : Int) < n → Pv i σ H → g (.int (lo + (i : Int))) σ H fun σ2 H2 => tb { D with nx := Pv (i + 1), ct := Pv (i + 1), bk := D.nx } σ2 H2) (hd : ∀ σ H, Pv (n - lo).toNat σ H → D.nx σ H) :
    (-(2 ^ 62) ≤ lo ∧ lo < 2 ^ 62 ∧ -(2 ^ 62) ≤ n ∧ n < 2 ^ 62) ∧ ∃ W : Nat → Nat → L2.St → Hp → Prop, (∃ m, W 0 m σ H) ∧ ∀ k m σ H, W k m σ H →
      ((Itr lo (n - lo).toNat).stop k H ∧ D.nx σ H) ∨ ((Itr lo (n - lo).toNat).go k H ∧ ∃ N : L2.St → Hp → Prop, (∀ σ' H', N σ' H' → ∃ m', m' < m ∧ W (k + 1) m' σ' H') ∧ ∀ x H', (Itr lo (n - lo).toNat).yld k H x H' → g x σ H' fun σ2 H2 => tb { D with nx := N, ct := N, bk := D.nx } σ2 H2) :=
  ⟨hb, for_range Pv h0 (fun i σ H hi p => hs i σ H (by omega) p) hd⟩
/-- while: W the word by a number that falls -/
theorem u_while (W : Nat → L2.St → Hp → Prop) (m0 : Nat) (h0 : W m0 σ H) (hs : ∀ m σ H, W m σ H →
  c σ H fun b H1 => if b = true then ∃ N : L2.St → Hp → Prop, (∀ σ' H', N σ' H' → ∃ m', m' < m ∧ W m' σ' H') ∧ tb { D with nx := N, ct := N, bk := D.nx } σ H1 else D.nx σ H1) : tWhile c tb D σ H := ⟨W, ⟨m0, h0⟩, hs⟩
theorem u_turn {W : Nat → L2.St → Hp → Prop} {m : Nat} (q : tb { D with nx := fun σ' H' => ∃ m', m' < m ∧ W m' σ' H', ct := fun σ' H' => ∃ m', m' < m ∧ W m' σ' H', bk := D.nx } σ H) :
  ∃ N : L2.St → Hp → Prop, (∀ σ' H', N σ' H' → ∃ m', m' < m ∧ W m' σ' H') ∧ tb { D with nx := N, ct := N, bk := D.nx } σ H := ⟨_, fun _ _ h => h, q⟩
/-- [elt for x in ..]: the word speaks of the list so far and of the heap -/
theorem r_lc {wi : TI} {tt : TT} {te : TE} {vs : List Nat} (q : wi σ H fun J H1 => ∀ D, H1 D = none → ∃ W : Nat → Nat → Hp → Prop, (∃ m, W 0 m (upd H1 D (.lst []))) ∧ ∀ i m H, W i m H →
  (J.stop i H ∧ Q (.ref D) H) ∨ (J.go i H ∧ ∃ Nx : Hp → Prop, (∀ H', Nx H' → ∃ m', m' < m ∧ W (i + 1) m' H') ∧ ∀ x H', J.yld i H x H' → g x (wipe σ vs) H' fun σ2 H2 => wipe σ2 vs = wipe σ vs ∧ tt σ2 H2 fun b H3 =>
    if b = true then te σ2 H3 fun y H4 => ∃ acc, H4 D = some (.lst acc) ∧ acc.length < sizeLine ∧ Nx (upd H4 D (.lst (acc ++ [y]))) else Nx H3)) : tLc wi g tt te vs σ H Q := q
theorem r_yes {R : Bool → Hp → Prop} (q : R true H) : tYes σ H R := q
def LcPush (D : Addr) (I : Addr → Nat → List V → Hp → Prop) (i : Nat) (H : Hp) (y : V) : Prop := ∃ acc, H D = some (.lst acc) ∧ acc.length < sizeLine ∧ ∃ acc', (upd H D (.lst (acc ++ [y]))) D = some (.lst acc') ∧ I D (i + 1) acc' (upd H D (.lst (acc ++ [y])))
def LcSkip (D : Addr) (I : Addr → Nat → List V → Hp → Prop) (i : Nat) (H : Hp) : Prop := ∃ acc, H D = some (.lst acc) ∧ I D (i + 1) acc H
theorem u_push {D : Addr} {I : Addr → Nat → List V → Hp → Prop} {i : Nat} {y : V} {acc : List V} (h : H D = some (.lst acc)) (l : acc.length < 100000) (q : I D (i + 1) (acc ++ [y]) (upd H D (.lst (acc ++ [y])))) : LcPush D I i H y :=
  ⟨acc, h, Nat.lt_of_lt_of_le l (by decide), acc ++ [y], upd_same, q⟩
theorem u_skip {D : Addr} {I : Addr → Nat → List V → Hp → Prop} {i : Nat} {acc : List V} (h : H D = some (.lst acc)) (q : I D (i + 1) acc H) : LcSkip D I i H := ⟨acc, h, q⟩
theorem u_lcL {tt : TT} {te : TE} {vs : List Nat} {Qd : Addr → Hp → Prop} (h : SqL K H p xs) (I : Addr → Nat → List V → Hp → Prop) (h0 : ∀ D, H D = none → I D 0 [] (upd H D (.lst [])))
    (hl : ∀ D i acc H', H D = none → H' D = some (.lst acc) → I D i acc H' → SqL K H' p xs)
    (hs : ∀ D i x acc H', H D = none → xs[i]? = some x → H' D = some (.lst acc) → I D i acc H' → g x (wipe σ vs) H' fun σ2 H2 => wipe σ2 vs = wipe σ vs ∧ tt σ2 H2 fun b H3 => if b = true then te σ2 H3 fun y H4 => LcPush D I i H4 y else LcSkip D I i H3)
    (hd : ∀ D acc H', H D = none → H' D = some (.lst acc) → I D xs.length acc H' → Qd D H') :
    ∃ a, V.ref p = .ref a ∧ (∃ xs, SqL K H a xs) ∧ ∀ D, H D = none → ∃ W : Nat → Nat → Hp → Prop, (∃ m, W 0 m (upd H D (.lst []))) ∧ ∀ i m H, W i m H →
      ((Itl K a).stop i H ∧ Qd D H) ∨ ((Itl K a).go i H ∧ ∃ Nx : Hp → Prop, (∀ H', Nx H' → ∃ m', m' < m ∧ W (i + 1) m' H') ∧ ∀ x H', (Itl K a).yld i H x H' → g x (wipe σ vs) H' fun σ2 H2 => wipe σ2 vs = wipe σ vs ∧ tt σ2 H2 fun b H3 =>
        if b = true then te σ2 H3 fun y H4 => ∃ acc, H4 D = some (.lst acc) ∧ acc.length < sizeLine ∧ Nx (upd H4 D (.lst (acc ++ [y]))) else Nx H3) :=
  ⟨p, rfl, ⟨xs, h⟩, fun D hD => lc_list (xs := xs) (fun i H' => ∃ acc, H' D = some (.lst acc) ∧ I D i acc H') ⟨[], upd_same, h0 D hD⟩ (fun i H' _ ⟨acc, e, q⟩ => hl D i acc H' hD e q)
    (fun i x H' hi ⟨acc, e, q⟩ => hs D i x acc H' hD hi e q) fun H' ⟨acc, e, q⟩ => hd D acc H' hD e q⟩
theorem u_lcT {tt : TT} {te : TE} {vs : List Nat} {Qd : Addr → Hp → Prop} (h : SqT K H p xs) (I : Addr → Nat → List V → Hp → Prop) (h0 : ∀ D, H D = none → I D 0 [] (upd H D (.lst [])))
    (hl : ∀ D i acc H', H D = none → H' D = some (.lst acc) → I D i acc H' → SqT K H' p xs)
    (hs : ∀ D i x acc H', H D = none → xs[i]? = some x → H' D = some (.lst acc) → I D i acc H' → g x (wipe σ vs) H' fun σ2 H2 => wipe σ2 vs = wipe σ vs ∧ tt σ2 H2 fun b H3 => if b = true then te σ2 H3 fun y H4 => LcPush D I i H4 y else LcSkip D I i H3)
    (hd : ∀ D acc H', H D = none → H' D = some (.lst acc) → I D xs.length acc H' → Qd D H') :
    ∃ a, V.ref p = .ref a ∧ (∃ xs, SqT K H a xs) ∧ ∀ D, H D = none → ∃ W : Nat → Nat → Hp → Prop, (∃ m, W 0 m (upd H D (.lst []))) ∧ ∀ i m H, W i m H →
      ((Itt K a).stop i H ∧ Qd D H) ∨ ((Itt K a).go i H ∧ ∃ Nx : Hp → Prop, (∀ H', Nx H' → ∃ m', m' < m ∧ W (i + 1) m' H') ∧ ∀ x H', (Itt K a).yld i H x H' → g x (wipe σ vs) H' fun σ2 H2 => wipe σ2 vs = wipe σ vs ∧ tt σ2 H2 fun b H3 =>
        if b = true then te σ2 H3 fun y H4 => ∃ acc, H4 D = some (.lst acc) ∧ acc.length < sizeLine ∧ Nx (upd H4 D (.lst (acc ++ [y]))) else Nx H3) :=
  ⟨p, rfl, ⟨xs, h⟩, fun D hD => lc_tup (xs := xs) (fun i H' => ∃ acc, H' D = some (.lst acc) ∧ I D i acc H') ⟨[], upd_same, h0 D hD⟩ (fun i H' _ ⟨acc, e, q⟩ => hl D i acc H' hD e q)
    (fun i x H' hi ⟨acc, e, q⟩ => hs D i x acc H' hD hi e q) fun H' ⟨acc, e, q⟩ => hd D acc H' hD e q⟩
theorem u_lc1 {tt : TT} {te : TE} {vs : List Nat} {Qd : Addr → Hp → Prop} {n : Int} (hb : -(2 ^ 62) ≤ n ∧ n < 2 ^ 62) (I : Addr → Nat → List V → Hp → Prop) (h0 : ∀ D, H D = none → I D 0 [] (upd H D (.lst [])))
    (hs : ∀ D (i : Nat) acc H', H D = none → (i : Int) < n → H' D = some (.lst acc) → I D i acc H' → g (.int (i : Int)) (wipe σ vs) H' fun σ2 H2 => wipe σ2 vs = wipe σ vs ∧ tt σ2 H2 fun b H3 => if b = true then te σ2 H3 fun y H4 => LcPush D I i H4 y else LcSkip D I i H3)
    (hd : ∀ D acc H', H D = none → H' D = some (.lst acc) → I D n.toNat acc H' → Qd D H') :
    -(2 ^ 62) ≤ n ∧ n < 2 ^ 62 ∧ ∀ D, H D = none → ∃ W : Nat → Nat → Hp → Prop, (∃ m, W 0 m (upd H D (.lst []))) ∧ ∀ i m H, W i m H →
      ((Itr 0 n.toNat).stop i H ∧ Qd D H) ∨ ((Itr 0 n.toNat).go i H ∧ ∃ Nx : Hp → Prop, (∀ H', Nx H' → ∃ m', m' < m ∧ W (i + 1) m' H') ∧ ∀ x H', (Itr 0 n.toNat).yld i H x H' → g x (wipe σ vs) H' fun σ2 H2 => wipe σ2 vs = wipe σ vs ∧ tt σ2 H2 fun b H3 =>
        if b = true then te σ2 H3 fun y H4 => ∃ acc, H4 D = some (.lst acc) ∧ acc.length < sizeLine ∧ Nx (upd H4 D (.lst (acc ++ [y]))) else Nx H3) :=
  ⟨hb.1, hb.2, fun D hD => lc_range (fun i H' => ∃ acc, H' D = some (.lst acc) ∧ I D i acc H') ⟨[], upd_same, h0 D hD⟩
    (fun i H' hi ⟨acc, e, q⟩ => by rw [Int.zero_add]; exact hs D i acc H' hD (by omega) e q) fun H' ⟨acc, e, q⟩ => hd D acc H' hD e q⟩
theorem u_lc2 {tt : TT} {te : TE} {vs : List Nat} {Qd : Addr → Hp → Prop} {lo n : Int} (hb : -(2 ^ 62) ≤ lo ∧ lo < 2 ^ 62 ∧ -(2 ^ 62) ≤ n ∧ n < 2 ^ 62) (I : Addr → Nat → List V → Hp → Prop) (h0 : ∀ D, H D = none → I D 0 [] (upd H D (.lst [])))
    (hs : ∀ D (i : Nat) acc H', H D = none → lo + (i : Int) < n → H' D = some (.lst acc) → I D i acc H' → g (.int (lo + (i : Int))) (wipe σ vs) H' fun σ2 H2 => wipe σ2 vs = wipe σ vs ∧ tt σ2 H2 fun b H3 => if b = true then te σ2 H3 fun y H4 => LcPush D I i H4 y else LcSkip D I i H3)
    (hd : ∀ D acc H', H D = none → H' D = some (.lst acc) → I D (n - lo).toNat acc H' → Qd D H') :
    (-(2 ^ 62) ≤ lo ∧ lo < 2 ^ 62 ∧ -(2 ^ 62) ≤ n ∧ n < 2 ^ 62) ∧ ∀ D, H D = none → ∃ W : Nat → Nat → Hp → Prop, (∃ m, W 0 m (upd H D (.lst []))) ∧ ∀ k m H, W k m H →
      ((Itr lo (n - lo).toNat).stop k H ∧ Qd D H) ∨ ((Itr lo (n - lo).toNat).go k H ∧ ∃ Nx : Hp → Prop, (∀ H', Nx H' → ∃ m', m' < m ∧ W (k + 1) m' H') ∧ ∀ x H', (Itr lo (n - lo).toNat).yld k H x H' → g x (wipe σ vs) H' fun σ2 H2 => wipe σ2 vs = wipe σ vs ∧ tt σ2 H2 fun b H3 =>
        if b = true then te σ2 H3 fun y H4 => ∃ acc, H4 D = some (.lst acc) ∧ acc.length < sizeLine ∧ Nx (upd H4 D (.lst (acc ++ [y]))) else Nx H3) :=
  ⟨hb, fun D hD => lc_range (fun i H' => ∃ acc, H' D = some (.lst acc) ∧ I D i acc H') ⟨[], upd_same, h0 D hD⟩
    (fun i H' hi ⟨acc, e, q⟩ => hs D i acc H' hD (by omega) e q) fun H' ⟨acc, e, q⟩ => hd D acc H' hD e q⟩
end
/-! ### heaps -/
/-- the heap at a, in words: looked up through stores -/
theorem h_keep {H : Hp} {a p : Addr} {o u : HO} (h : H a = some u) (n : H p = none) : upd H p o a = some u := (upd_ne (ne_of_none h n)).trans h
theorem h_else {H : Hp} {a p : Addr} {o u w : HO} (h : H a = some u) (h' : H p = some w) (d : u ≠ w) : upd H p o a = some u := (upd_ne (ne_of h h' d)).trans h
/-- all that was tracked but what stands at a -/
def But (a : Addr) (H H' : Hp) : Prop := ∀ b o, b ≠ a → H b = some o → H' b = some o
theorem But.refl (a : Addr) (H : Hp) : But a H H := fun _ _ _ h => h
theorem But.trans {a : Addr} {H H1 H2 : Hp} (h : But a H H1) (k : But a H1 H2) : But a H H2 := fun b o n e => k b o n (h b o n e)
theorem But.new {a p : Addr} {H H' : Hp} {o : HO} (h : But a H H') (n : H' p = none) : But a H (upd H' p o) := fun b u nb e => h_keep (h b u nb e) n
theorem But.self {a : Addr} {H H' : Hp} {o : HO} (h : But a H H') : But a H (upd H' a o) := fun b u nb e => (upd_ne nb).trans (h b u nb e)
theorem But.put {a p : Addr} {H H' : Hp} {o : HO} (h : But a H H') (n : H p = none) : But a H (upd H' p o) := fun b u nb e => (upd_ne (ne_of_none e n)).trans (h b u nb e)
theorem fmod_nat (a b : Nat) : (a : Int).fmod (b : Int) = ((a % b : Nat) : Int) := by
  rw [Int.fmod_eq_emod_of_nonneg _ (Int.natCast_nonneg _), Int.natCast_emod]
theorem fdiv_nat (a b : Nat) : (a : Int) / (b : Int) = ((a / b : Nat) : Int) := (Int.natCast_ediv a b).symm
def vints (l : List Nat) : List V := l.map fun (k : Nat) => V.int (k : Int)
theorem vints_app (l m : List Nat) : vints (l ++ m) = vints l ++ vints m := List.map_append
theorem vints_len (l : List Nat) : (vints l).length = l.length := List.length_map _
theorem atI_vints {l : List Nat} {n : Int} (h0 : 0 ≤ n) (h1 : n < l.length) : ∃ k, k ∈ l ∧ atI (vints l) n = some (.int (k : Int)) := by
  have h2 : n.toNat < l.length := by omega
  refine ⟨l[n.toNat], List.getElem_mem h2, ?_⟩
  unfold atI ixN
  rw [if_pos h0, vints_len, if_pos h1]
  show (vints l)[n.toNat]? = _
  unfold vints
  rw [List.getElem?_map, List.getElem?_eq_getElem h2]
  rfl
theorem vints_get {l : List Nat} {i : Nat} {x : V} (h : (vints l)[i]? = some x) : ∃ k, l[i]? = some k ∧ x = .int (k : Int) := by
  unfold vints at h
  rw [List.getElem?_map] at h
  cases e : l[i]? with
  | none => rw [e] at h; cases h
  | some k => rw [e] at h; exact ⟨k, rfl, (Option.some.inj h).symm⟩
theorem Same.at {H H' : Hp} {a : Addr} {o : HO} (s : Same H H') (h : H a = some o) : H' a = some o := s a o h
theorem But.at {H H' : Hp} {a b : Addr} {o : HO} (s : But b H H') (n : a ≠ b) (h : H a = some o) : H' a = some o := s a o n h
theorem log_small {n : Int} (h : n.natAbs < 2 ^ 8000) : n.natAbs.log2 < 9000 := by
  by_cases h0 : n.natAbs = 0
  · rw [h0]; decide
  · exact Nat.lt_of_lt_of_le ((Nat.log2_lt h0).mpr h) (by decide)
theorem Same.new0 {p : Addr} {H : Hp} {o : HO} (n : H p = none) : Same H (upd H p o) := fun b u e => h_keep e n
theorem Same.new {p : Addr} {H H' : Hp} {o : HO} (h : Same H H') (n : H' p = none) : Same H (upd H' p o) := fun b u e => h_keep (h b u e) n
theorem Same.put {p : Addr} {H H' : Hp} {o : HO} (h : Same H H') (n : H p = none) : Same H (upd H' p o) := fun b u e => (upd_ne (ne_of_none e n)).trans (h b u e)
theorem Same.but {H H' : Hp} (h : Same H H') (a : Addr) : But a H H' := fun b u _ e => h b u e
theorem But.free {a p : Addr} {H H' : Hp} (h : But a H H') (n : p ≠ a) (e : H' p = none) : H p = none := by
  cases q : H p with
  | none => rfl
  | some o => rw [h p o n q] at e; cases e
/-- what is new may change -/
theorem Same.but2 {a : Addr} {H H1 H2 : Hp} (s : Same H H1) (n : H a = none) (b : But a H1 H2) : Same H H2 := fun c o e => b c o (ne_of_none e n) (s c o e)
/-- the law's bag: three ints, the second one small -/
def Bag (H : Hp) (a : Addr) : Prop := ∃ x y z : Int, H a = some (.lst [.int x, .int y, .int z]) ∧ 0 ≤ y ∧ y ≤ 2147483647 ∧ 0 ≤ z
theorem Bag.keep {H : Hp} {a p : Addr} {o : HO} (h : Bag H a) (n : H p = none) : Bag (upd H p o) a := by
  obtain ⟨x, y, z, e, r⟩ := h
  exact ⟨x, y, z, h_keep e n, r⟩
theorem Bag.ne {H : Hp} {a p : Addr} (h : Bag H a) (n : H p = none) : p ≠ a := by
  obtain ⟨x, y, z, e, r⟩ := h
  exact (ne_of_none e n).symm
theorem Bag.same {H H' : Hp} {a : Addr} (h : Bag H a) (s : Same H H') : Bag H' a := by
  obtain ⟨x, y, z, e, r⟩ := h
  exact ⟨x, y, z, s _ _ e, r⟩
def spBagOf : Sp := fun vs H Q _ => ∃ c : Int, vs = [.int c] ∧ ∀ p H', H p = none → Same H H' → Bag H' p → Q (.ref p) H'
def spPick : Sp := fun vs H Q _ => ∃ (a : Addr) (n : Int), vs = [.ref a, .int n] ∧ Bag H a ∧ 0 < n ∧ n ≤ 1000000 ∧ ∀ (r : Int) H', 0 ≤ r → r < n → But a H H' → Bag H' a → Q (.int r) H'
theorem u_pick {H : Hp} {Q : VK} {E : XK} {a : Addr} {n : Int} (h : Bag H a) (n0 : 0 < n) (n1 : n ≤ 1000000) (q : ∀ (r : Int) H', 0 ≤ r → r < n → But a H H' → Bag H' a → Q (.int r) H') : spPick [.ref a, .int n] H Q E := ⟨a, n, rfl, h, n0, n1, q⟩
/-- the law's promise: a list of at most 63 ints goes in, True comes out -/
def spLaw (K : PySem.W.Frag) : Sp := fun vs H Q _ => ∃ (a : Addr) (ns : List Int), vs = [.ref a] ∧ SqL K H a (ns.map V.int) ∧ ns.length ≤ 63 ∧ ∀ H', Q (.bl true) H'
/-- the cells of a law's outer loop are ints -/
theorem cells_int {g : Int} {ns : List Int} {lo hi : Option Int} {i : Nat} {x : V} (h : ([V.int g] ++ cutV (ns.map V.int) lo hi)[i]? = some x) : ∃ c, x = .int c := by
  rcases List.mem_append.mp (List.mem_of_getElem? h) with h | h
  · exact ⟨g, List.mem_singleton.mp h⟩
  · obtain ⟨c, _, e⟩ := List.mem_map.mp (cut_mem h)
    exact ⟨c, e.symm⟩
/-! ### the rules that name the written part, with its name given (a comprehension's block has another context) -/
section
variable {X : Cx} {K : PySem.W.Frag}
theorem ix_listK (h : X.K = K := by rfl) : IxR X (rIxL K) := by subst h; exact ix_list
theorem ix_tupK (h : X.K = K := by rfl) : IxR X (rIxT K) := by subst h; exact ix_tup
theorem call_lenK (h : X.K = K := by rfl) : CallR X (.builtin "len") (rLen K) := by subst h; exact call_lenQ
theorem call_isiKK (h : X.K = K := by rfl) : CallR X (.builtin "isinstance") (rIsi K) := by subst h; exact call_isi
theorem call_sumK (hc : X.calm = true := by rfl) (h : X.K = K := by rfl) : CallR X (.builtin "sum") (rSum K) := by subst h; exact cr_sum hc
theorem call_allK (hc : X.calm = true := by rfl) (h : X.K = K := by rfl) : CallR X (.builtin "all") (rAll K) := by subst h; exact cr_all hc
theorem call_anyK (hc : X.calm = true := by rfl) (h : X.K = K := by rfl) : CallR X (.builtin "any") (rAny K) := by subst h; exact cr_any hc
end
end My

set_option Elab.async false
set_option linter.all false
set_option maxRecDepth 400000
namespace My
open PySem PySem.Spec PyProof.Rows L2
/-! ### programs as data -/
inductive Prog where
  | nil
  | step (w n : Str) (r : Prog)
  | turn (k : Int) (r : Prog)
  | rep (k : Int) (b r : Prog)
  | mir (b r : Prog)
namespace Prog
def app : Prog → Prog → Prog
  | .nil, q => q
  | .step w n r, q => .step w n (r.app q)
  | .turn k r, q => .turn k (r.app q)
  | .rep k b r, q => .rep k b (r.app q)
  | .mir b r, q => .mir b (r.app q)
def len : Prog → Nat
  | .nil => 0
  | .step _ _ r => r.len + 1
  | .turn _ r => r.len + 1
  | .rep _ _ r => r.len + 1
  | .mir _ r => r.len + 1
def size : Prog → Int
  | .nil => 0
  | .step _ _ r => 1 + r.size
  | .turn _ r => 1 + r.size
  | .rep k b r => k * b.size + r.size
  | .mir b r => b.size + r.size
def head : Prog → Int
  | .nil => 0
  | .step _ _ r => r.head
  | .turn k r => k + r.head
  | .rep k b r => k * b.head + r.head
  | .mir b r => -b.head + r.head
def times : Nat → Prog → Prog
  | 0, _ => .nil
  | n + 1, p => p.app (times n p)
def unroll : Int → Prog → Prog
  | _, .nil => .nil
  | s, .step w n r => .step w n (unroll s r)
  | s, .turn k r => .turn (s * k) (unroll s r)
  | s, .rep k b r => (times k.toNat (unroll s b)).app (unroll s r)
  | s, .mir b r => (unroll (-s) b).app (unroll s r)
/-- the turns' numbers of a flat program -/
def turns : Prog → List Int
  | .nil => []
  | .step _ _ r => r.turns
  | .turn k r => k :: r.turns
  | .rep _ _ r => r.turns
  | .mir _ r => r.turns
def take : Nat → Prog → Prog
  | 0, _ => .nil
  | _ + 1, .nil => .nil
  | n + 1, .step w m r => .step w m (r.take n)
  | n + 1, .turn k r => .turn k (r.take n)
  | n + 1, .rep k b r => .rep k b (r.take n)
  | n + 1, .mir b r => .mir b (r.take n)
end Prog
def IsWord (w : Str) : Prop := w = "go" ∨ w = "back" ∨ w = "hop" ∨ w = "slip"
/-- one letter from a to z -/
def IsName (n : Str) : Prop := ∃ c : Nat, n = ⟨#[c]⟩ ∧ 97 ≤ c ∧ c ≤ 122
/-- a program nested at most d deep; counts from 1 to C, turns to T of either sign, at most 4000 commands in each repeat or mirror -/
def WfL (L : Nat) (C T : Int) : Nat → Prog → Prop
  | _, .nil => True
  | d, .step w n r => IsWord w ∧ IsName n ∧ WfL L C T d r
  | d, .turn k r => (-T ≤ k ∧ k ≤ T) ∧ WfL L C T d r
  | 0, .rep _ _ _ => False
  | d + 1, .rep k b r => (1 ≤ k ∧ k ≤ C) ∧ (1 ≤ b.len ∧ b.len ≤ L) ∧ WfL L C T d b ∧ WfL L C T (d + 1) r
  | 0, .mir _ _ => False
  | d + 1, .mir b r => (1 ≤ b.len ∧ b.len ≤ L) ∧ WfL L C T d b ∧ WfL L C T (d + 1) r
theorem WfL.app {L : Nat} {C T : Int} : ∀ {d : Nat} {p q : Prog}, WfL L C T d p → WfL L C T d q → WfL L C T d (p.app q)
  | _, .nil, _, _, h => h
  | d, .step w n r, q, h, h' => by
    cases d <;> exact ⟨h.1, h.2.1, WfL.app h.2.2 h'⟩
  | d, .turn k r, q, h, h' => by
    cases d <;> exact ⟨h.1, WfL.app h.2 h'⟩
  | 0, .rep _ _ _, _, h, _ => h.elim
  | d + 1, .rep k b r, q, h, h' => ⟨h.1, h.2.1, h.2.2.1, WfL.app h.2.2.2 h'⟩
  | 0, .mir _ _, _, h, _ => h.elim
  | d + 1, .mir b r, q, h, h' => ⟨h.1, h.2.1, WfL.app h.2.2 h'⟩
theorem WfL.step_iff {L : Nat} {C T : Int} {d : Nat} {w n : Str} {r : Prog} : WfL L C T d (.step w n r) ↔ IsWord w ∧ IsName n ∧ WfL L C T d r := by cases d <;> exact Iff.rfl
theorem WfL.turn_iff {L : Nat} {C T : Int} {d : Nat} {k : Int} {r : Prog} : WfL L C T d (.turn k r) ↔ (-T ≤ k ∧ k ≤ T) ∧ WfL L C T d r := by cases d <;> exact Iff.rfl
theorem WfL.nil {L : Nat} {C T : Int} {d : Nat} : WfL L C T d .nil := by cases d <;> trivial
theorem WfL.mono {L : Nat} {C T C' T' : Int} (hC : C ≤ C') (hT : T ≤ T') : ∀ {d d' : Nat} {p : Prog}, d ≤ d' → WfL L C T d p → WfL L C' T' d' p
  | d, d', .nil, _, _ => WfL.nil
  | d, d', .step w n r, hd, h => WfL.step_iff.mpr ⟨(WfL.step_iff.mp h).1, (WfL.step_iff.mp h).2.1, WfL.mono hC hT hd (WfL.step_iff.mp h).2.2⟩
  | d, d', .turn k r, hd, h => by
    have h := WfL.turn_iff.mp h
    exact WfL.turn_iff.mpr ⟨⟨by omega, by omega⟩, WfL.mono hC hT hd h.2⟩
  | 0, _, .rep _ _ _, _, h => h.elim
  | d + 1, 0, .rep _ _ _, hd, _ => absurd hd (by omega)
  | d + 1, d' + 1, .rep k b r, hd, h => ⟨⟨h.1.1, by have := h.1.2; omega⟩, h.2.1, WfL.mono hC hT (by omega) h.2.2.1, WfL.mono hC hT hd h.2.2.2⟩
  | 0, _, .mir _ _, _, h => h.elim
  | d + 1, 0, .mir _ _, hd, _ => absurd hd (by omega)
  | d + 1, d' + 1, .mir b r, hd, h => ⟨h.1, WfL.mono hC hT (by omega) h.2.1, WfL.mono hC hT hd h.2.2⟩
abbrev Wf := WfL 4000
theorem WfL.wide {L L' : Nat} {C T : Int} (hL : L ≤ L') : ∀ {d : Nat} {p : Prog}, WfL L C T d p → WfL L' C T d p
  | d, .nil, _ => WfL.nil
  | d, .step w n r, h => WfL.step_iff.mpr ⟨(WfL.step_iff.mp h).1, (WfL.step_iff.mp h).2.1, WfL.wide hL (WfL.step_iff.mp h).2.2⟩
  | d, .turn k r, h => WfL.turn_iff.mpr ⟨(WfL.turn_iff.mp h).1, WfL.wide hL (WfL.turn_iff.mp h).2⟩
  | 0, .rep _ _ _, h => h.elim
  | d + 1, .rep k b r, h => ⟨h.1, ⟨h.2.1.1, Nat.le_trans h.2.1.2 hL⟩, WfL.wide hL h.2.2.1, WfL.wide hL h.2.2.2⟩
  | 0, .mir _ _, h => h.elim
  | d + 1, .mir b r, h => ⟨⟨h.1.1, Nat.le_trans h.1.2 hL⟩, WfL.wide hL h.2.1, WfL.wide hL h.2.2⟩
namespace Prog
theorem app_nil : ∀ p : Prog, p.app .nil = p
  | .nil => rfl
  | .step w n r => by rw [app, app_nil r]
  | .turn k r => by rw [app, app_nil r]
  | .rep k b r => by rw [app, app_nil r]
  | .mir b r => by rw [app, app_nil r]
theorem app_assoc : ∀ p q r : Prog, (p.app q).app r = p.app (q.app r)
  | .nil, _, _ => rfl
  | .step w n p, q, r => by rw [app, app, app, app_assoc p q r]
  | .turn k p, q, r => by rw [app, app, app, app_assoc p q r]
  | .rep k b p, q, r => by rw [app, app, app, app_assoc p q r]
  | .mir b p, q, r => by rw [app, app, app, app_assoc p q r]
theorem len_app : ∀ p q : Prog, (p.app q).len = p.len + q.len
  | .nil, q => by rw [app, len, Nat.zero_add]
  | .step w n p, q => by rw [app, len, len, len_app p q]; omega
  | .turn k p, q => by rw [app, len, len, len_app p q]; omega
  | .rep k b p, q => by rw [app, len, len, len_app p q]; omega
  | .mir b p, q => by rw [app, len, len, len_app p q]; omega
theorem size_app : ∀ p q : Prog, (p.app q).size = p.size + q.size
  | .nil, q => by rw [app, size]; omega
  | .step w n p, q => by rw [app, size, size, size_app p q]; omega
  | .turn k p, q => by rw [app, size, size, size_app p q]; omega
  | .rep k b p, q => by rw [app, size, size, size_app p q]; omega
  | .mir b p, q => by rw [app, size, size, size_app p q]; omega
theorem head_app : ∀ p q : Prog, (p.app q).head = p.head + q.head
  | .nil, q => by rw [app, head]; omega
  | .step w n p, q => by rw [app, head, head, head_app p q]
  | .turn k p, q => by rw [app, head, head, head_app p q]; omega
  | .rep k b p, q => by rw [app, head, head, head_app p q]; omega
  | .mir b p, q => by rw [app, head, head, head_app p q]; omega
theorem turns_app : ∀ p q : Prog, (p.app q).turns = p.turns ++ q.turns
  | .nil, q => by rw [app, turns, List.nil_append]
  | .step w n p, q => by rw [app, turns, turns, turns_app p q]
  | .turn k p, q => by rw [app, turns, turns, turns_app p q, List.cons_append]
  | .rep k b p, q => by rw [app, turns, turns, turns_app p q]
  | .mir b p, q => by rw [app, turns, turns, turns_app p q]
theorem size_nonneg {L : Nat} {C T : Int} : ∀ {d : Nat} {p : Prog}, WfL L C T d p → 0 ≤ p.size
  | _, .nil, _ => by rw [size]; omega
  | d, .step w n r, h => by have := size_nonneg (WfL.step_iff.mp h).2.2; rw [size]; omega
  | d, .turn k r, h => by have := size_nonneg (WfL.turn_iff.mp h).2; rw [size]; omega
  | 0, .rep _ _ _, h => h.elim
  | d + 1, .rep k b r, h => by
    have h1 := size_nonneg h.2.2.1
    have h2 := size_nonneg h.2.2.2
    have h3 : 0 ≤ k * b.size := Int.mul_nonneg (by have := h.1.1; omega) h1
    rw [size]; omega
  | 0, .mir _ _, h => h.elim
  | d + 1, .mir b r, h => by
    have h1 := size_nonneg h.2.1
    have h2 := size_nonneg h.2.2
    rw [size]; omega
theorem len_times (n : Nat) (p : Prog) : (times n p).len = n * p.len := by
  induction n with
  | zero => rw [times, len, Nat.zero_mul]
  | succ n ih => rw [times, len_app, ih, Nat.succ_mul]; omega
theorem times_succ : ∀ (n : Nat) (p : Prog), times (n + 1) p = (times n p).app p
  | 0, p => by show p.app .nil = _; rw [app_nil]; rfl
  | n + 1, p => by
    have ih := times_succ n p
    show p.app (times (n + 1) p) = (p.app (times n p)).app p
    rw [ih, app_assoc]
theorem turns_times (n : Nat) (p : Prog) : (times n p).turns.sum = n * p.turns.sum := by
  induction n with
  | zero => rw [times, turns]; simp
  | succ n ih => rw [times, turns_app, List.sum_append, ih, Int.natCast_succ, Int.add_mul]; omega
/-- unrolled it has as many commands as its size -/
theorem len_unroll {L : Nat} {C T : Int} : ∀ {d : Nat} {p : Prog} (s : Int), WfL L C T d p → ((unroll s p).len : Int) = p.size
  | _, .nil, s, _ => by rw [unroll, len, size]; rfl
  | d, .step w n r, s, h => by have := len_unroll s (WfL.step_iff.mp h).2.2; rw [unroll, len, size]; omega
  | d, .turn k r, s, h => by have := len_unroll s (WfL.turn_iff.mp h).2; rw [unroll, len, size]; omega
  | 0, .rep _ _ _, s, h => h.elim
  | d + 1, .rep k b r, s, h => by
    have h1 := len_unroll s h.2.2.1
    have h2 := len_unroll s h.2.2.2
    have hk := h.1.1
    rw [unroll, len_app, len_times, size, ← h1, ← h2, Int.natCast_add, Int.natCast_mul, Int.toNat_of_nonneg (by omega)]
  | 0, .mir _ _, s, h => h.elim
  | d + 1, .mir b r, s, h => by
    have h1 := len_unroll (-s) h.2.1
    have h2 := len_unroll s h.2.2
    rw [unroll, len_app, size]; omega
/-- the sum of its turns -/
theorem turns_unroll {L : Nat} {C T : Int} : ∀ {d : Nat} {p : Prog} (s : Int), WfL L C T d p → (unroll s p).turns.sum = s * p.head
  | _, .nil, s, _ => by rw [unroll, turns, head]; simp
  | d, .step w n r, s, h => by have := turns_unroll s (WfL.step_iff.mp h).2.2; rw [unroll, turns, head]; omega
  | d, .turn k r, s, h => by have := turns_unroll s (WfL.turn_iff.mp h).2; rw [unroll, turns, head, List.sum_cons, this, Int.mul_add]
  | 0, .rep _ _ _, s, h => h.elim
  | d + 1, .rep k b r, s, h => by
    have h1 := turns_unroll s h.2.2.1
    have h2 := turns_unroll s h.2.2.2
    have hk := h.1.1
    rw [unroll, turns_app, List.sum_append, turns_times, h1, h2, head, Int.toNat_of_nonneg (by omega), Int.mul_add, Int.mul_left_comm]
  | 0, .mir _ _, s, h => h.elim
  | d + 1, .mir b r, s, h => by
    have h1 := turns_unroll (-s) h.2.1
    have h2 := turns_unroll s h.2.2
    rw [unroll, turns_app, List.sum_append, h1, h2, head, Int.mul_add, Int.neg_mul, Int.mul_neg]
/-- a flat program: steps and turns alone -/
theorem wf_times {L : Nat} {C T : Int} {d : Nat} {p : Prog} (h : WfL L C T d p) : ∀ n, WfL L C T d (times n p)
  | 0 => WfL.nil
  | n + 1 => WfL.app h (wf_times h n)
theorem wf_unroll {L : Nat} {C T : Int} : ∀ {d : Nat} {p : Prog} {s : Int}, (s = 1 ∨ s = -1) → WfL L C T d p → WfL L C T 0 (unroll s p)
  | _, .nil, s, _, _ => WfL.nil
  | d, .step w n r, s, hs, h => by
    have h := WfL.step_iff.mp h
    exact WfL.step_iff.mpr ⟨h.1, h.2.1, wf_unroll hs h.2.2⟩
  | d, .turn k r, s, hs, h => by
    have h := WfL.turn_iff.mp h
    refine WfL.turn_iff.mpr ⟨?_, wf_unroll hs h.2⟩
    rcases hs with rfl | rfl <;> omega
  | 0, .rep _ _ _, s, _, h => h.elim
  | d + 1, .rep k b r, s, hs, h => WfL.app (wf_times (wf_unroll hs h.2.2.1) _) (wf_unroll hs h.2.2.2)
  | 0, .mir _ _, s, _, h => h.elim
  | d + 1, .mir b r, s, hs, h => WfL.app (wf_unroll (by omega) h.2.1) (wf_unroll hs h.2.2)
theorem wf_take {L : Nat} {C T : Int} : ∀ {n d : Nat} {p : Prog}, WfL L C T d p → WfL L C T d (p.take n)
  | 0, _, p, _ => WfL.nil
  | n + 1, _, .nil, _ => WfL.nil
  | n + 1, d, .step w m r, h => by
    have h := WfL.step_iff.mp h
    exact WfL.step_iff.mpr ⟨h.1, h.2.1, wf_take h.2.2⟩
  | n + 1, d, .turn k r, h => by
    have h := WfL.turn_iff.mp h
    exact WfL.turn_iff.mpr ⟨h.1, wf_take h.2⟩
  | n + 1, 0, .rep _ _ _, h => h.elim
  | n + 1, d + 1, .rep k b r, h => ⟨h.1, h.2.1, h.2.2.1, wf_take h.2.2.2⟩
  | n + 1, 0, .mir _ _, h => h.elim
  | n + 1, d + 1, .mir b r, h => ⟨h.1, h.2.1, wf_take h.2.2⟩
theorem len_take : ∀ (n : Nat) (p : Prog), (p.take n).len = min n p.len
  | 0, p => by rw [take, len]; omega
  | n + 1, .nil => by rw [take, len]; omega
  | n + 1, .step w m r => by rw [take, len, len, len_take n r]; omega
  | n + 1, .turn k r => by rw [take, len, len, len_take n r]; omega
  | n + 1, .rep k b r => by rw [take, len, len, len_take n r]; omega
  | n + 1, .mir b r => by rw [take, len, len, len_take n r]; omega
theorem len_le_size {L : Nat} {C T : Int} : ∀ {d : Nat} {p : Prog}, WfL L C T d p → (p.len : Int) ≤ p.size
  | _, .nil, _ => by rw [size, len]; omega
  | d, .step w n r, h => by have := len_le_size (WfL.step_iff.mp h).2.2; rw [size, len]; omega
  | d, .turn k r, h => by have := len_le_size (WfL.turn_iff.mp h).2; rw [size, len]; omega
  | 0, .rep _ _ _, h => h.elim
  | d + 1, .rep k b r, h => by
    have h1 := len_le_size h.2.2.1
    have h2 := len_le_size h.2.2.2
    have h3 : 1 * 1 ≤ k * b.size := Int.mul_le_mul h.1.1 (by have := h.2.1.1; omega) (by omega) (by have := h.1.1; omega)
    rw [size, len]; omega
  | 0, .mir _ _, h => h.elim
  | d + 1, .mir b r, h => by
    have h1 := len_le_size h.2.1
    have h2 := len_le_size h.2.2
    have := h.1.1
    rw [size, len]; omega
theorem size_flat {L : Nat} {C T : Int} : ∀ {p : Prog}, WfL L C T 0 p → p.size = p.len
  | .nil, _ => by rw [size, len]; rfl
  | .step w n r, h => by have := size_flat (WfL.step_iff.mp h).2.2; rw [size, len]; omega
  | .turn k r, h => by have := size_flat (WfL.turn_iff.mp h).2; rw [size, len]; omega
  | .rep _ _ _, h => h.elim
  | .mir _ _, h => h.elim
/-- how great a size can be -/
theorem size_le {C T : Int} (hC : 1 ≤ C) : ∀ {d : Nat} {p : Prog}, WfL 4000 C T d p → p.size ≤ p.len * (4000 * C) ^ d
  | _, .nil, _ => by rw [size, len]; simp
  | d, .step w n r, h => by
    have h1 := size_le hC (WfL.step_iff.mp h).2.2
    have h2 : (0 : Int) < (4000 * C) ^ d := Int.pow_pos (by omega)
    rw [size, len, Int.natCast_succ, Int.add_mul, Int.one_mul]; omega
  | d, .turn k r, h => by
    have h1 := size_le hC (WfL.turn_iff.mp h).2
    have h2 : (0 : Int) < (4000 * C) ^ d := Int.pow_pos (by omega)
    rw [size, len, Int.natCast_succ, Int.add_mul, Int.one_mul]; omega
  | 0, .rep _ _ _, h => h.elim
  | d + 1, .rep k b r, h => by
    have h1 := size_le hC h.2.2.1
    have h2 := size_le hC h.2.2.2
    have h0 := size_nonneg h.2.2.1
    have hp : (0 : Int) ≤ (4000 * C) ^ d := Int.le_of_lt (Int.pow_pos (by omega))
    have h3 : b.size ≤ 4000 * (4000 * C) ^ d := Int.le_trans h1 (Int.mul_le_mul_of_nonneg_right (by have := h.2.1.2; omega) hp)
    have h4 : k * b.size ≤ C * (4000 * (4000 * C) ^ d) := Int.mul_le_mul h.1.2 h3 h0 (by omega)
    have h5 : C * (4000 * (4000 * C) ^ d) = (4000 * C) ^ (d + 1) := by rw [Int.pow_succ, Int.mul_comm ((4000 * C) ^ d), ← Int.mul_assoc, Int.mul_comm C]
    rw [size, len, Int.natCast_succ, Int.add_mul, Int.one_mul]; omega
  | 0, .mir _ _, h => h.elim
  | d + 1, .mir b r, h => by
    have h1 := size_le hC h.2.1
    have h2 := size_le hC h.2.2
    have hp : (0 : Int) ≤ (4000 * C) ^ d := Int.le_of_lt (Int.pow_pos (by omega))
    have h3 : b.size ≤ 4000 * (4000 * C) ^ d := Int.le_trans h1 (Int.mul_le_mul_of_nonneg_right (by have := h.1.2; omega) hp)
    have h4 : 1 * (4000 * (4000 * C) ^ d) ≤ C * (4000 * (4000 * C) ^ d) := Int.mul_le_mul_of_nonneg_right hC (Int.mul_nonneg (by omega) hp)
    have h5 : C * (4000 * (4000 * C) ^ d) = (4000 * C) ^ (d + 1) := by rw [Int.pow_succ, Int.mul_comm ((4000 * C) ^ d), ← Int.mul_assoc, Int.mul_comm C]
    rw [size, len, Int.natCast_succ, Int.add_mul, Int.one_mul]; omega
/-- how great a heading can be -/
theorem head_le {L : Nat} {C T : Int} (hC : 1 ≤ C) (hT : 0 ≤ T) : ∀ {d : Nat} {p : Prog}, WfL L C T d p → p.head.natAbs ≤ T * p.size
  | _, .nil, _ => by rw [size, head]; simp
  | d, .step w n r, h => by
    have h1 := head_le hC hT (WfL.step_iff.mp h).2.2
    rw [size, head, Int.mul_add, Int.mul_one]; omega
  | d, .turn k r, h => by
    have h0 := (WfL.turn_iff.mp h).1
    have h1 := head_le hC hT (WfL.turn_iff.mp h).2
    rw [size, head, Int.mul_add, Int.mul_one]; omega
  | 0, .rep _ _ _, h => h.elim
  | d + 1, .rep k b r, h => by
    have h1 := head_le hC hT h.2.2.1
    have h2 := head_le hC hT h.2.2.2
    have h3 : ((k * b.head).natAbs : Int) ≤ T * (k * b.size) := by
      rw [Int.natAbs_mul, Int.natCast_mul, Int.mul_left_comm, Int.natAbs_of_nonneg (show 0 ≤ k by have := h.1.1; omega)]
      exact Int.mul_le_mul_of_nonneg_left h1 (by have := h.1.1; omega)
    rw [size, head, Int.mul_add]; omega
  | 0, .mir _ _, h => h.elim
  | d + 1, .mir b r, h => by
    have h1 := head_le hC hT h.2.1
    have h2 := head_le hC hT h.2.2
    rw [size, head, Int.mul_add]; omega
end Prog
end My

set_option Elab.async false
set_option linter.all false
set_option maxRecDepth 100000
namespace My
open PySem PySem.Spec PyProof.Rows L2
/-! ### programs on the heap -/
/-- the tuples stay -/
def Tk (H H' : Hp) : Prop := ∀ c xs, H c = some (.tup xs) → H' c = some (.tup xs)
theorem Tk.refl (H : Hp) : Tk H H := fun _ _ h => h
theorem Tk.trans {H H1 H2 : Hp} (h : Tk H H1) (k : Tk H1 H2) : Tk H H2 := fun c xs e => k c xs (h c xs e)
theorem Tk.same {H H' : Hp} (h : Same H H') : Tk H H' := fun c xs e => h c _ e
theorem Tk.but {H H' : Hp} {a : Addr} (h : But a H H') (b : Bag H a) : Tk H H' := fun c xs e => by
  obtain ⟨x, y, z, ea, _⟩ := b
  exact h c _ (ne_of e ea (by intro z; cases z)) e
theorem Tk.new {H H' : Hp} {p : Addr} {o : HO} (h : Tk H H') (n : H' p = none) : Tk H (upd H' p o) := fun c xs e => h_keep (h c xs e) n
theorem Tk.lst {H H' : Hp} {p : Addr} {l : List V} {o : HO} (h : Tk H H') (n : H' p = some (.lst l)) : Tk H (upd H' p o) := fun c xs e => (upd_ne (ne_of (h c xs e) n (by intro z; cases z))).trans (h c xs e)
def PrAt (H : Hp) : Prog → List V → Prop
  | .nil, xs => xs = []
  | .step w n r, xs => ∃ c ys, xs = .ref c :: ys ∧ H c = some (.tup [.str w, .str n]) ∧ PrAt H r ys
  | .turn k r, xs => ∃ c ys, xs = .ref c :: ys ∧ H c = some (.tup [.str "turn", .int k]) ∧ PrAt H r ys
  | .rep k b r, xs => ∃ c q zs ys, xs = .ref c :: ys ∧ H c = some (.tup [.str "repeat", .int k, .ref q]) ∧ H q = some (.tup zs) ∧ PrAt H b zs ∧ PrAt H r ys
  | .mir b r, xs => ∃ c q zs ys, xs = .ref c :: ys ∧ H c = some (.tup [.str "mirror", .ref q]) ∧ H q = some (.tup zs) ∧ PrAt H b zs ∧ PrAt H r ys
def PrIs (H : Hp) (a : Addr) (p : Prog) : Prop := ∃ xs, H a = some (.tup xs) ∧ PrAt H p xs
theorem PrAt.tk {H H' : Hp} (t : Tk H H') : ∀ {p : Prog} {xs : List V}, PrAt H p xs → PrAt H' p xs
  | .nil, _, h => h
  | .step w n r, _, ⟨c, ys, e, h1, h2⟩ => ⟨c, ys, e, t _ _ h1, h2.tk t⟩
  | .turn k r, _, ⟨c, ys, e, h1, h2⟩ => ⟨c, ys, e, t _ _ h1, h2.tk t⟩
  | .rep k b r, _, ⟨c, q, zs, ys, e, h1, h2, h3, h4⟩ => ⟨c, q, zs, ys, e, t _ _ h1, t _ _ h2, h3.tk t, h4.tk t⟩
  | .mir b r, _, ⟨c, q, zs, ys, e, h1, h2, h3, h4⟩ => ⟨c, q, zs, ys, e, t _ _ h1, t _ _ h2, h3.tk t, h4.tk t⟩
theorem PrIs.tk {H H' : Hp} {a : Addr} {p : Prog} (h : PrIs H a p) (t : Tk H H') : PrIs H' a p := let ⟨xs, e, q⟩ := h; ⟨xs, t _ _ e, q.tk t⟩
theorem PrAt.length {H : Hp} : ∀ {p : Prog} {xs : List V}, PrAt H p xs → xs.length = p.len
  | .nil, _, h => by rw [show _ = [] from h]; rfl
  | .step w n r, _, ⟨c, ys, e, h1, h2⟩ => by rw [e, List.length_cons, h2.length]; rfl
  | .turn k r, _, ⟨c, ys, e, h1, h2⟩ => by rw [e, List.length_cons, h2.length]; rfl
  | .rep k b r, _, ⟨c, q, zs, ys, e, h1, h2, h3, h4⟩ => by rw [e, List.length_cons, h4.length]; rfl
  | .mir b r, _, ⟨c, q, zs, ys, e, h1, h2, h3, h4⟩ => by rw [e, List.length_cons, h4.length]; rfl
theorem PrAt.app {H : Hp} : ∀ {p q : Prog} {xs ys : List V}, PrAt H p xs → PrAt H q ys → PrAt H (p.app q) (xs ++ ys)
  | .nil, q, xs, ys, h, k => by rw [show xs = [] from h]; exact k
  | .step w n r, q, _, ys, ⟨c, zs, e, h1, h2⟩, k => ⟨c, zs ++ ys, by rw [e]; rfl, h1, h2.app k⟩
  | .turn k' r, q, _, ys, ⟨c, zs, e, h1, h2⟩, k => ⟨c, zs ++ ys, by rw [e]; rfl, h1, h2.app k⟩
  | .rep k' b r, q, _, ys, ⟨c, q', zs, ws, e, h1, h2, h3, h4⟩, k => ⟨c, q', zs, ws ++ ys, by rw [e]; rfl, h1, h2, h3, h4.app k⟩
  | .mir b r, q, _, ys, ⟨c, q', zs, ws, e, h1, h2, h3, h4⟩, k => ⟨c, q', zs, ws ++ ys, by rw [e]; rfl, h1, h2, h3, h4.app k⟩
theorem PrAt.take {H : Hp} : ∀ {n : Nat} {p : Prog} {xs : List V}, PrAt H p xs → PrAt H (p.take n) (xs.take n)
  | 0, p, xs, h => by rw [Prog.take, List.take_zero]; rfl
  | n + 1, .nil, xs, h => by rw [show xs = [] from h, Prog.take, List.take_nil]; rfl
  | n + 1, .step w m r, _, ⟨c, zs, e, h1, h2⟩ => ⟨c, zs.take n, by rw [e, List.take_succ_cons], h1, h2.take⟩
  | n + 1, .turn k r, _, ⟨c, zs, e, h1, h2⟩ => ⟨c, zs.take n, by rw [e, List.take_succ_cons], h1, h2.take⟩
  | n + 1, .rep k b r, _, ⟨c, q', zs, ws, e, h1, h2, h3, h4⟩ => ⟨c, q', zs, ws.take n, by rw [e, List.take_succ_cons], h1, h2, h3, h4.take⟩
  | n + 1, .mir b r, _, ⟨c, q', zs, ws, e, h1, h2, h3, h4⟩ => ⟨c, q', zs, ws.take n, by rw [e, List.take_succ_cons], h1, h2, h3, h4.take⟩
/-- x is the first command of r, r' the rest -/
def First (H : Hp) : Prog → V → Prog → Prop
  | .nil, _, _ => False
  | .step w n r, x, r' => ∃ c, x = .ref c ∧ H c = some (.tup [.str w, .str n]) ∧ r' = r
  | .turn k r, x, r' => ∃ c, x = .ref c ∧ H c = some (.tup [.str "turn", .int k]) ∧ r' = r
  | .rep k b r, x, r' => ∃ c q, x = .ref c ∧ H c = some (.tup [.str "repeat", .int k, .ref q]) ∧ PrIs H q b ∧ r' = r
  | .mir b r, x, r' => ∃ c q, x = .ref c ∧ H c = some (.tup [.str "mirror", .ref q]) ∧ PrIs H q b ∧ r' = r
theorem First.tk {H H' : Hp} {r r' : Prog} {x : V} (h : First H r x r') (t : Tk H H') : First H' r x r' := by
  cases r with
  | nil => exact h.elim
  | step w n r => obtain ⟨c, e, h1, e2⟩ := h; exact ⟨c, e, t _ _ h1, e2⟩
  | turn k r => obtain ⟨c, e, h1, e2⟩ := h; exact ⟨c, e, t _ _ h1, e2⟩
  | rep k b r => obtain ⟨c, q, e, h1, h2, e2⟩ := h; exact ⟨c, q, e, t _ _ h1, h2.tk t, e2⟩
  | mir b r => obtain ⟨c, q, e, h1, h2, e2⟩ := h; exact ⟨c, q, e, t _ _ h1, h2.tk t, e2⟩
theorem PrAt.first {H : Hp} {r : Prog} {x : V} {ys : List V} (h : PrAt H r (x :: ys)) : ∃ r', First H r x r' ∧ PrAt H r' ys := by
  cases r with
  | nil => cases (show (x :: ys) = [] from h)
  | step w n r => obtain ⟨c, zs, e, h1, h2⟩ := h; cases e; exact ⟨r, ⟨c, rfl, h1, rfl⟩, h2⟩
  | turn k r => obtain ⟨c, zs, e, h1, h2⟩ := h; cases e; exact ⟨r, ⟨c, rfl, h1, rfl⟩, h2⟩
  | rep k b r => obtain ⟨c, q, zs, ws, e, h1, h2, h3, h4⟩ := h; cases e; exact ⟨r, ⟨c, q, rfl, h1, ⟨zs, h2, h3⟩, rfl⟩, h4⟩
  | mir b r => obtain ⟨c, q, zs, ws, e, h1, h2, h3, h4⟩ := h; cases e; exact ⟨r, ⟨c, q, rfl, h1, ⟨zs, h2, h3⟩, rfl⟩, h4⟩
theorem PrAt.cons {H : Hp} {r r' : Prog} {x : V} {ys : List V} (h : First H r x r') (k : PrAt H r' ys) : PrAt H r (x :: ys) := by
  cases r with
  | nil => exact h.elim
  | step w n r => obtain ⟨c, rfl, h1, rfl⟩ := h; exact ⟨c, ys, rfl, h1, k⟩
  | turn n r => obtain ⟨c, rfl, h1, rfl⟩ := h; exact ⟨c, ys, rfl, h1, k⟩
  | rep n b r => obtain ⟨c, q, rfl, h1, ⟨zs, h2, h3⟩, rfl⟩ := h; exact ⟨c, q, zs, ys, rfl, h1, h2, h3, k⟩
  | mir b r => obtain ⟨c, q, rfl, h1, ⟨zs, h2, h3⟩, rfl⟩ := h; exact ⟨c, q, zs, ys, rfl, h1, h2, h3, k⟩
theorem drop_cons {α : Type} {xs : List α} {i : Nat} {x : α} (h : xs[i]? = some x) : xs.drop i = x :: xs.drop (i + 1) := by
  obtain ⟨hi, e⟩ := List.getElem?_eq_some_iff.mp h
  rw [← e]
  exact List.drop_eq_getElem_cons hi
section
variable {σ : L2.St} {H : Hp} {K : PySem.W.Frag} {D : Ends} {tb : TS} {g : TG} {a : Addr} {xs : List V} {p : Prog}
/-- for command in program -/
theorem u_forPr (h : H a = some (.tup xs)) (hp : PrAt H p xs) (I : Prog → L2.St → Hp → Prop) (h0 : I p σ H) (hk : ∀ r σ H', I r σ H' → Tk H H')
    (hs : ∀ x r r' σ H', First H' r x r' → I r σ H' → g x σ H' fun σ2 H2 => tb { D with nx := I r', ct := I r', bk := D.nx } σ2 H2) (hd : ∀ σ H', I .nil σ H' → D.nx σ H') :
    ∃ b, V.ref a = .ref b ∧ (∃ xs, SqT K H b xs) ∧ ∃ W : Nat → Nat → L2.St → Hp → Prop, (∃ m, W 0 m σ H) ∧ ∀ i m σ H, W i m σ H →
      ((Itt K b).stop i H ∧ D.nx σ H) ∨ ((Itt K b).go i H ∧ ∃ N : L2.St → Hp → Prop, (∀ σ' H', N σ' H' → ∃ m', m' < m ∧ W (i + 1) m' σ' H') ∧ ∀ x H', (Itt K b).yld i H x H' → g x σ H' fun σ2 H2 => tb { D with nx := N, ct := N, bk := D.nx } σ2 H2) := by
  refine ⟨a, rfl, ⟨xs, .of h⟩, ⟨fun i m σ' H' => m = xs.length - i ∧ i ≤ xs.length ∧ ∃ r, PrAt H r (xs.drop i) ∧ I r σ' H', ⟨xs.length, by simp, Nat.zero_le _, p, hp, h0⟩, ?_⟩⟩
  rintro i m σ' H' ⟨rfl, hi, r, hr, ir⟩
  have hT : SqT K H' a xs := .of (hk _ _ _ ir _ _ h)
  by_cases hlt : i < xs.length
  · have hx : xs[i]? = some xs[i] := List.getElem?_eq_getElem hlt
    rw [drop_cons hx] at hr
    obtain ⟨r', f, hr'⟩ := hr.first
    refine .inr ⟨⟨xs, xs[i], hT, hx⟩, I r', fun σ2 H2 q => ⟨_, by omega, rfl, hlt, r', hr', q⟩, fun x H2 hy => ?_⟩
    obtain ⟨rfl, fx⟩ := hy
    have ex : x = xs[i] := Option.some.inj ((fx xs hT).symm.trans hx)
    subst ex
    exact hs _ r r' _ _ (f.tk (hk _ _ _ ir)) ir
  · have e : i = xs.length := by omega
    subst e
    rw [List.drop_length] at hr
    have hn : r = .nil := by
      cases r with
      | nil => rfl
      | step w n r => obtain ⟨c, zs, e, _⟩ := hr; cases e
      | turn k r => obtain ⟨c, zs, e, _⟩ := hr; cases e
      | rep k b r => obtain ⟨c, q, zs, ws, e, _⟩ := hr; cases e
      | mir b r => obtain ⟨c, q, zs, ws, e, _⟩ := hr; cases e
    subst hn
    exact .inl ⟨⟨xs, hT, Nat.le_refl _⟩, hd _ _ ir⟩
/-- [.. for command in program] -/
theorem u_lcPr {tt : TT} {te : TE} {vs : List Nat} {Qd : Addr → Hp → Prop} (h : H a = some (.tup xs)) (hp : PrAt H p xs) (I : Addr → Prog → List V → Hp → Prop) (h0 : ∀ D, H D = none → I D p [] (upd H D (.lst [])))
    (hk : ∀ D r acc H', H D = none → I D r acc H' → Tk H H')
    (hs : ∀ D x r r' acc H', H D = none → First H' r x r' → H' D = some (.lst acc) → I D r acc H' → g x (wipe σ vs) H' fun σ2 H2 => wipe σ2 vs = wipe σ vs ∧ tt σ2 H2 fun b H3 => if b = true then te σ2 H3 fun y H4 => LcPush D (fun D _ acc H' => I D r' acc H') 0 H4 y else LcSkip D (fun D _ acc H' => I D r' acc H') 0 H3)
    (hd : ∀ D acc H', H D = none → H' D = some (.lst acc) → I D .nil acc H' → Qd D H') :
    ∃ b, V.ref a = .ref b ∧ (∃ xs, SqT K H b xs) ∧ ∀ D, H D = none → ∃ W : Nat → Nat → Hp → Prop, (∃ m, W 0 m (upd H D (.lst []))) ∧ ∀ i m H, W i m H →
      ((Itt K b).stop i H ∧ Qd D H) ∨ ((Itt K b).go i H ∧ ∃ Nx : Hp → Prop, (∀ H', Nx H' → ∃ m', m' < m ∧ W (i + 1) m' H') ∧ ∀ x H', (Itt K b).yld i H x H' → g x (wipe σ vs) H' fun σ2 H2 => wipe σ2 vs = wipe σ vs ∧ tt σ2 H2 fun b H3 =>
        if b = true then te σ2 H3 fun y H4 => ∃ acc, H4 D = some (.lst acc) ∧ acc.length < sizeLine ∧ Nx (upd H4 D (.lst (acc ++ [y]))) else Nx H3) := by
  refine ⟨a, rfl, ⟨xs, .of h⟩, fun D hD => ⟨fun i m H' => m = xs.length - i ∧ i ≤ xs.length ∧ ∃ r acc, PrAt H r (xs.drop i) ∧ H' D = some (.lst acc) ∧ I D r acc H', ⟨xs.length, by simp, Nat.zero_le _, p, [], hp, upd_same, h0 D hD⟩, ?_⟩⟩
  rintro i m H' ⟨rfl, hi, r, acc, hr, ha, ir⟩
  have hT : SqT K H' a xs := .of (hk _ _ _ _ hD ir _ _ h)
  by_cases hlt : i < xs.length
  · have hx : xs[i]? = some xs[i] := List.getElem?_eq_getElem hlt
    rw [drop_cons hx] at hr
    obtain ⟨r', f, hr'⟩ := hr.first
    refine .inr ⟨⟨xs, xs[i], hT, hx⟩, fun H2 => ∃ acc, H2 D = some (.lst acc) ∧ I D r' acc H2, fun H2 ⟨acc', h1, q⟩ => ⟨_, by omega, rfl, hlt, r', acc', hr', h1, q⟩, fun x H2 hy => ?_⟩
    obtain ⟨rfl, fx⟩ := hy
    have ex : x = xs[i] := Option.some.inj ((fx xs hT).symm.trans hx)
    subst ex
    exact hs D _ r r' acc _ hD (f.tk (hk _ _ _ _ hD ir)) ha ir
  · have e : i = xs.length := by omega
    subst e
    rw [List.drop_length] at hr
    have hn : r = .nil := by
      cases r with
      | nil => rfl
      | step w n r => obtain ⟨c, zs, e, _⟩ := hr; cases e
      | turn k r => obtain ⟨c, zs, e, _⟩ := hr; cases e
      | rep k b r => obtain ⟨c, q, zs, ws, e, _⟩ := hr; cases e
      | mir b r => obtain ⟨c, q, zs, ws, e, _⟩ := hr; cases e
    subst hn
    exact .inl ⟨⟨xs, hT, Nat.le_refl _⟩, hd _ _ _ hD ha ir⟩
/-- [.. for command in a list of commands] -/
theorem u_lcPrL {tt : TT} {te : TE} {vs : List Nat} {Qd : Addr → Hp → Prop} (h : H a = some (.lst xs)) (hp : PrAt H p xs) (I : Addr → Prog → List V → Hp → Prop) (h0 : ∀ D, H D = none → I D p [] (upd H D (.lst [])))
    (hk : ∀ D r acc H', H D = none → I D r acc H' → Tk H H' ∧ H' a = some (.lst xs))
    (hs : ∀ D x r r' acc H', H D = none → First H' r x r' → H' D = some (.lst acc) → I D r acc H' → g x (wipe σ vs) H' fun σ2 H2 => wipe σ2 vs = wipe σ vs ∧ tt σ2 H2 fun b H3 => if b = true then te σ2 H3 fun y H4 => LcPush D (fun D _ acc H' => I D r' acc H') 0 H4 y else LcSkip D (fun D _ acc H' => I D r' acc H') 0 H3)
    (hd : ∀ D acc H', H D = none → H' D = some (.lst acc) → I D .nil acc H' → Qd D H') :
    ∃ b, V.ref a = .ref b ∧ (∃ xs, SqL K H b xs) ∧ ∀ D, H D = none → ∃ W : Nat → Nat → Hp → Prop, (∃ m, W 0 m (upd H D (.lst []))) ∧ ∀ i m H, W i m H →
      ((Itl K b).stop i H ∧ Qd D H) ∨ ((Itl K b).go i H ∧ ∃ Nx : Hp → Prop, (∀ H', Nx H' → ∃ m', m' < m ∧ W (i + 1) m' H') ∧ ∀ x H', (Itl K b).yld i H x H' → g x (wipe σ vs) H' fun σ2 H2 => wipe σ2 vs = wipe σ vs ∧ tt σ2 H2 fun b H3 =>
        if b = true then te σ2 H3 fun y H4 => ∃ acc, H4 D = some (.lst acc) ∧ acc.length < sizeLine ∧ Nx (upd H4 D (.lst (acc ++ [y]))) else Nx H3) := by
  refine ⟨a, rfl, ⟨xs, .of h⟩, fun D hD => ⟨fun i m H' => m = xs.length - i ∧ i ≤ xs.length ∧ ∃ r acc, PrAt H r (xs.drop i) ∧ H' D = some (.lst acc) ∧ I D r acc H', ⟨xs.length, by simp, Nat.zero_le _, p, [], hp, upd_same, h0 D hD⟩, ?_⟩⟩
  rintro i m H' ⟨rfl, hi, r, acc, hr, ha, ir⟩
  have hT : SqL K H' a xs := .of (hk _ _ _ _ hD ir).2
  by_cases hlt : i < xs.length
  · have hx : xs[i]? = some xs[i] := List.getElem?_eq_getElem hlt
    rw [drop_cons hx] at hr
    obtain ⟨r', f, hr'⟩ := hr.first
    refine .inr ⟨⟨xs, xs[i], hT, hx⟩, fun H2 => ∃ acc, H2 D = some (.lst acc) ∧ I D r' acc H2, fun H2 ⟨acc', h1, q⟩ => ⟨_, by omega, rfl, hlt, r', acc', hr', h1, q⟩, fun x H2 hy => ?_⟩
    obtain ⟨rfl, fx⟩ := hy
    have ex : x = xs[i] := Option.some.inj ((fx xs hT).symm.trans hx)
    subst ex
    exact hs D _ r r' acc _ hD (f.tk (hk _ _ _ _ hD ir).1) ha ir
  · have e : i = xs.length := by omega
    subst e
    rw [List.drop_length] at hr
    have hn : r = .nil := by
      cases r with
      | nil => rfl
      | step w n r => obtain ⟨c, zs, e, _⟩ := hr; cases e
      | turn k r => obtain ⟨c, zs, e, _⟩ := hr; cases e
      | rep k b r => obtain ⟨c, q, zs, ws, e, _⟩ := hr; cases e
      | mir b r => obtain ⟨c, q, zs, ws, e, _⟩ := hr; cases e
    subst hn
    exact .inl ⟨⟨xs, hT, Nat.le_refl _⟩, hd _ _ _ hD ha ir⟩
end
theorem cut_take (xs : List V) (n : Nat) : cutV xs none (some (n : Int)) = xs.take n := by
  unfold cutV
  rw [HT.sIx_none, HT.sIx_nat, List.drop_zero, Nat.sub_zero]
  by_cases h : n ≤ xs.length
  · rw [Nat.min_eq_left h]
  · rw [Nat.min_eq_right (by omega), List.take_length, List.take_of_length_le (by omega)]
/-! ### texts -/
section
variable {σ : L2.St} {H : Hp} {Q : VK} {K : PySem.W.Frag} {ta tb tc : TE} {p : Addr}
def rLenS (xs : List V) (H : Hp) (Q : VK) : Prop := ∃ z : Str, xs = [.str z] ∧ z.length ≤ sizeLine ∧ Q (.int z.length) H
theorem call_lenS {X : Cx} : CallR X (.builtin "len") rLenS := call_len_str
theorem r_lenS {z : Str} (l : z.length ≤ 100000) (q : Q (.int z.length) H) : rLenS [.str z] H Q := ⟨z, rfl, small_of l, q⟩
def rLeS : R2 := fun x y H Q => ∃ i j : Str, x = .str i ∧ y = .str j ∧ Q (.bl (!decide (j.cps.toList < i.cps.toList))) H
theorem op_leS {X : Cx} : OpR X (compareOp .LtE) rLeS := op_le_str
theorem r_leS {i j : Str} (q : Q (.bl (!decide (j.cps.toList < i.cps.toList))) H) : rLeS (.str i) (.str j) H Q := ⟨i, j, rfl, rfl, q⟩
theorem r_chain {r r' : R2} (q : ta σ H fun x H1 => tb σ H1 fun y H2 => r x y H2 fun z H3 => ∃ k, z = .bl k ∧ (if k = true then tc σ H3 fun w' H4 => r' y w' H4 Q else Q (.bl false) H3)) : tChain r r' ta tb tc σ H Q := q
theorem r_ixS {z : Str} {n : Int} {c : Nat} (l : z.length ≤ 100000) (e : atI z.cps.toList n = some c) (q : Q (.str ⟨#[c]⟩) H) : rIxS (.str z) (.int n) H Q := ⟨z, n, c, rfl, rfl, small_of l, e, q⟩
theorem r_all {bs : List Bool} (h : SqL K H p (bs.map V.bl)) (q : Q (.bl (bs.all id)) H) : rAll K [.ref p] H Q := ⟨p, bs, rfl, h, q⟩
theorem r_any {bs : List Bool} (h : SqL K H p (bs.map V.bl)) (q : Q (.bl (bs.any id)) H) : rAny K [.ref p] H Q := ⟨p, bs, rfl, h, q⟩
end
/-! ### tuples and lists of things that stand -/
section
variable {σ : L2.St} {H : Hp} {Q : VK} {K : PySem.W.Frag} {to te : TE} {p b : Addr} {xs ys : List V}
def rTupL (K : PySem.W.Frag) (vs : List V) (H : Hp) (Q : VK) : Prop := ∃ p ys, vs = [.ref p] ∧ SqL K H p ys ∧ ∀ l, H l = none → Q (.ref l) (upd H l (.tup ys))
theorem call_tupL {X : Cx} : CallR X (.type "tuple") (rTupL X.K) := fun pins s σ H xs us Q I r ⟨p, ys, e, h, q⟩ => call_tuple_of pins s σ H xs us Q I r ⟨p, ys, e, .inl ⟨h, q⟩⟩
theorem r_tupL (h : H p = some (.lst xs)) (q : ∀ l, H l = none → Q (.ref l) (upd H l (.tup xs))) : rTupL K [.ref p] H Q := ⟨p, xs, rfl, .of h, q⟩
theorem r_extend (h : H p = some (.lst xs)) (h' : H b = some (.lst ys)) (l : xs.length + ys.length ≤ 16000000) (q : Q .non (upd H p (.lst (xs ++ ys)))) : rExtend (.ref p) [.ref b] H Q := ⟨p, b, xs, ys, rfl, rfl, h, h', Nat.le_trans l (by decide), q⟩
theorem r_appendB {v : V} (h : H p = some (.lst xs)) (hl : xs.length < 16000000) (q : Q .non (upd H p (.lst (xs ++ [v])))) : rAppend (.ref p) [v] H Q := ⟨p, xs, v, rfl, rfl, h, Nat.lt_of_lt_of_le hl (by decide), q⟩
def rListT (K : PySem.W.Frag) (vs : List V) (H : Hp) (Q : VK) : Prop := ∃ p ys, vs = [.ref p] ∧ (SqL K H p ys ∨ SqT K H p ys) ∧ ∀ l, H l = none → Q (.ref l) (upd H l (.lst ys))
theorem call_listT {X : Cx} : CallR X (.type "list") (rListT X.K) := call_list_of
theorem r_listL (h : H p = some (.lst xs)) (q : ∀ l, H l = none → Q (.ref l) (upd H l (.lst xs))) : rListT K [.ref p] H Q := ⟨p, xs, rfl, .inl (.of h), q⟩
theorem r_listT (h : H p = some (.tup xs)) (q : ∀ l, H l = none → Q (.ref l) (upd H l (.lst xs))) : rListT K [.ref p] H Q := ⟨p, xs, rfl, .inr (.of h), q⟩
theorem r_catT (h : H p = some (.tup xs)) (h' : H b = some (.tup ys)) (hx : xs ≠ []) (hy : ys ≠ []) (l : xs.length + ys.length ≤ 100000) (q : ∀ c, H c = none → Q (.ref c) (upd H c (.tup (xs ++ ys)))) : rCatT K (.ref p) (.ref b) H Q :=
  ⟨p, b, xs, ys, rfl, rfl, .of h, .of h', hx, small_of l, fun e => absurd e hy, fun _ => q⟩
theorem r_tM1 {r : V → List V → Hp → VK → Prop} (q : to σ H fun x H1 => (∃ a, x = .str a) ∧ te σ H1 fun y H2 => r x [y] H2 Q) : tM1 r to te σ H Q := q
theorem r_exS {z : Str} {A : Prop} (q : A) : (∃ a, V.str z = V.str a) ∧ A := ⟨⟨z, rfl⟩, q⟩
end
theorem name_len {n : Str} (h : IsName n) : n.length = 1 := by
  obtain ⟨c, rfl, _⟩ := h
  rfl
theorem one_lt {a b : Nat} (h : b ≤ a) : ¬ ([a] : List Nat) < [b] := by
  intro q
  have : a < b := by simpa [List.cons_lt_cons_iff] using q
  omega
theorem letter_a {n : Str} (h : IsName n) : ¬ n.cps.toList < (("a" : Str)).cps.toList := by
  obtain ⟨c, rfl, h1, _⟩ := h
  rw [show (("a" : Str)).cps.toList = [97] by decide +kernel]
  exact one_lt h1
theorem letter_z {n : Str} (h : IsName n) : ¬ (("z" : Str)).cps.toList < n.cps.toList := by
  obtain ⟨c, rfl, _, h2⟩ := h
  rw [show (("z" : Str)).cps.toList = [122] by decide +kernel]
  exact one_lt h2
theorem word_ne {w : Str} (h : IsWord w) : ¬ w = "repeat" ∧ ¬ w = "mirror" ∧ ¬ w = "turn" := by
  rcases h with rfl | rfl | rfl | rfl <;> decide +kernel
def sign1 (c : Nat) : Str := ⟨#[c]⟩
theorem app_toList (x y : Str) : (x ++ y).cps.toList = x.cps.toList ++ y.cps.toList := by
  show (x.cps ++ y.cps).toList = _
  exact Array.toList_append
theorem join_signs {s : Str} (hs : s.cps.toList = []) : ∀ cs : List Nat, (Txt.join s (cs.map sign1)).cps.toList = cs := fun cs => by
  rw [TL.join_eq]
  induction cs with
  | nil => rfl
  | cons c r ih =>
    cases r with
    | nil => rfl
    | cons d r =>
      show (sign1 c ++ s ++ Str.join s ((d :: r).map sign1)).cps.toList = _
      rw [app_toList, app_toList, hs, ih]
      rfl
/-- six letters -/
def Names (z : Str) : Prop := z.cps.toList.length = 6 ∧ ∀ c ∈ z.cps.toList, 97 ≤ c ∧ c ≤ 122
theorem names_at {z : Str} {n : Int} (h : Names z) (h0 : 0 ≤ n) (h1 : n < 6) : ∃ c, atI z.cps.toList n = some c ∧ IsName ⟨#[c]⟩ := by
  have h2 : n.toNat < z.cps.toList.length := by rw [h.1]; omega
  refine ⟨z.cps.toList[n.toNat], ?_, ⟨_, rfl, h.2 _ (List.getElem_mem h2)⟩⟩
  unfold atI ixN
  rw [if_pos h0, if_pos (by rw [h.1]; omega)]
  exact List.getElem?_eq_getElem h2
theorem names_small {z : Str} (h : Names z) : z.length ≤ 100000 := by
  have := h.1
  show z.cps.size ≤ 100000
  rw [Array.length_toList] at this
  omega
theorem letter_at {n : Int} (h0 : 0 ≤ n) (h1 : n < 26) : ∃ c, atI (("abcdefghijklmnopqrstuvwxyz" : Str)).cps.toList n = some c ∧ 97 ≤ c ∧ c ≤ 122 := by
  have hl : (("abcdefghijklmnopqrstuvwxyz" : Str)).cps.toList.length = 26 := by decide +kernel
  have ha : ∀ c ∈ (("abcdefghijklmnopqrstuvwxyz" : Str)).cps.toList, 97 ≤ c ∧ c ≤ 122 := by decide +kernel
  have h2 : n.toNat < (("abcdefghijklmnopqrstuvwxyz" : Str)).cps.toList.length := by rw [hl]; omega
  refine ⟨_, ?_, ha _ (List.getElem_mem h2)⟩
  unfold atI ixN
  rw [if_pos h0, if_pos (by rw [hl]; omega)]
  exact List.getElem?_eq_getElem h2
/-- all but what stands at a and b -/
def But2 (a b : Addr) (H H' : Hp) : Prop := ∀ c o, c ≠ a → c ≠ b → H c = some o → H' c = some o
theorem But2.refl (a b : Addr) (H : Hp) : But2 a b H H := fun _ _ _ _ h => h
theorem But2.trans {a b : Addr} {H H1 H2 : Hp} (h : But2 a b H H1) (k : But2 a b H1 H2) : But2 a b H H2 := fun c o n m e => k c o n m (h c o n m e)
theorem But2.of {a b : Addr} {H H' : Hp} (h : But a H H') : But2 a b H H' := fun c o n _ e => h c o n e
theorem But2.at {a b c : Addr} {H H' : Hp} {o : HO} (h : But2 a b H H') (n : c ≠ a) (m : c ≠ b) (e : H c = some o) : H' c = some o := h c o n m e
theorem But2.new {a b p : Addr} {H H' : Hp} {o : HO} (h : But2 a b H H') (n : H' p = none) : But2 a b H (upd H' p o) := fun c u x y e => h_keep (h c u x y e) n
theorem But2.put {a b p : Addr} {H H' : Hp} {o : HO} (h : But2 a b H H') (n : H p = none) : But2 a b H (upd H' p o) := fun c u x y e => (upd_ne (ne_of_none e n)).trans (h c u x y e)
theorem But2.self {a b : Addr} {H H' : Hp} {o : HO} (h : But2 a b H H') : But2 a b H (upd H' b o) := fun c u x y e => (upd_ne y).trans (h c u x y e)
theorem But2.one {a b : Addr} {H H0 H' : Hp} (s : But a H H0) (n : H b = none) (h : But2 a b H0 H') : But a H H' := fun c o x e => h c o x (ne_of_none e n) (s c o x e)
theorem But2.free {a b p : Addr} {H H' : Hp} (h : But2 a b H H') (n : p ≠ a) (m : p ≠ b) (e : H' p = none) : H p = none := by
  cases q : H p with
  | none => rfl
  | some o => rw [h p o n m q] at e; cases e
theorem Bag.list {H : Hp} {a : Addr} (h : Bag H a) : ∃ l, H a = some (.lst l) ∧ l.length = 3 := by
  obtain ⟨x, y, z, e, _⟩ := h
  exact ⟨_, e, rfl⟩
theorem Bag.upd {H : Hp} {a p : Addr} {o : HO} (h : Bag H a) (n : a ≠ p) : Bag (upd H p o) a := by
  obtain ⟨x, y, z, e, r⟩ := h
  exact ⟨x, y, z, (upd_ne n).trans e, r⟩
/-- the program's table of steps -/
structure StepsAt (K : PySem.W.Frag) (w : World) (mg : Str → Option Value) : Prop where
  ex : ∃ d es n, KDict K w d es n ∧ mg "STEPS" = some (.ref d) ∧ ∀ x : Str, IsWord x → ∃ v, PySem.W.nsIn K d x = some (some v)
/-- the greatest counts and turns -/
def BC : Int := 10 ^ 31
theorem BC_one : 1 ≤ BC := by decide +kernel
theorem mulW_of {a b : Int} (ha : a.natAbs < 2 ^ 100000) (hb : b.natAbs < 2 ^ 100000) : CMulW a b := by
  unfold CMulW
  have h : ∀ {n : Nat}, n < 2 ^ 100000 → n.log2 < 100000 := fun {n} hn => by
    by_cases h0 : n = 0
    · rw [h0]; decide
    · exact (Nat.log2_lt h0).mpr hn
  have := h ha
  have := h hb
  omega
theorem ipow_mono {a : Int} (h : 1 ≤ a) {m n : Nat} (hm : m ≤ n) : a ^ m ≤ a ^ n := by
  obtain ⟨k, rfl⟩ : ∃ k, n = m + k := ⟨n - m, by omega⟩
  rw [Int.pow_add]
  have h1 : 1 ≤ a ^ k := by
    have : (0 : Int) < a ^ k := Int.pow_pos (by omega)
    omega
  have h2 : a ^ m * 1 ≤ a ^ m * a ^ k := Int.mul_le_mul_of_nonneg_left h1 (Int.le_of_lt (Int.pow_pos (by omega)))
  omega
/-- how great the sizes are -/
theorem size_small {d : Nat} {p : Prog} (h : Wf BC BC d p) (hd : d ≤ 20) (hl : p.len ≤ 4000) : p.size ≤ 10 ^ 704 := by
  have h1 := Prog.size_le BC_one h
  have h2 : (4000 * BC) ^ d ≤ (4000 * BC) ^ 20 := ipow_mono (by decide +kernel) hd
  have h3 : (p.len : Int) * (4000 * BC) ^ d ≤ 4000 * (4000 * BC) ^ 20 := Int.mul_le_mul (by omega) h2 (Int.le_of_lt (Int.pow_pos (by decide +kernel))) (by omega)
  exact Int.le_trans h1 (Int.le_trans h3 (by decide +kernel))
theorem size_bits {d : Nat} {p : Prog} (h : Wf BC BC d p) (hd : d ≤ 20) (hl : p.len ≤ 4000) : p.size.natAbs < 2 ^ 100000 := by
  have h1 := size_small h hd hl
  have h0 := Prog.size_nonneg h
  refine Nat.lt_of_le_of_lt (m := 10 ^ 704) ?_ (by decide +kernel)
  have : (p.size.natAbs : Int) ≤ ((10 ^ 704 : Nat) : Int) := by
    rw [Int.natAbs_of_nonneg h0]
    exact h1
  exact Int.ofNat_le.mp this
theorem head_bits {d : Nat} {p : Prog} (h : Wf BC BC d p) (hd : d ≤ 20) (hl : p.len ≤ 4000) : p.head.natAbs < 2 ^ 100000 := by
  have h1 := size_small h hd hl
  have h0 := Prog.head_le BC_one (by decide +kernel) h
  refine Nat.lt_of_le_of_lt (m := 10 ^ 740) ?_ (by decide +kernel)
  have h2 : BC * p.size ≤ BC * 10 ^ 704 := Int.mul_le_mul_of_nonneg_left h1 (by decide +kernel)
  have : (p.head.natAbs : Int) ≤ ((10 ^ 740 : Nat) : Int) := Int.le_trans h0 (Int.le_trans h2 (by decide +kernel))
  exact Int.ofNat_le.mp this
theorem count_bits {k : Int} (h0 : -BC ≤ k) (h1 : k ≤ BC) : k.natAbs < 2 ^ 100000 := by
  refine Nat.lt_of_le_of_lt (m := 10 ^ 31) ?_ (by decide +kernel)
  have : BC = 10 ^ 31 := rfl
  omega
end My

set_option Elab.async false
set_option linter.all false
set_option maxRecDepth 100000
namespace My
open PySem PySem.Spec PyProof.Rows L2
def topS (i : Nat) : Stmt := PySem.Challenge.pw_everyangle_k22_whole_parted.main.body.getD i (.Pass ⟨0, 0, 0, 0⟩)
abbrev s_is_integer : Stmt := topS 5
abbrev s_is_name : Stmt := topS 9
abbrev s_is_command : Stmt := topS 10
abbrev s_is_program : Stmt := topS 11
abbrev s_check_program : Stmt := topS 12
abbrev s_raw_size : Stmt := topS 13
abbrev s_check_count : Stmt := topS 14
abbrev s_parted_command : Stmt := topS 15
abbrev s_parted_commands : Stmt := topS 16
abbrev s_raw_undoing : Stmt := topS 17
abbrev s_undoing : Stmt := topS 18
abbrev s_parted : Stmt := topS 19
abbrev s_l_bag_of : Stmt := topS 21
abbrev s_l_pick : Stmt := topS 22
abbrev s_l_great_int : Stmt := topS 23
abbrev s_l_is_int : Stmt := topS 24
abbrev s_l_names : Stmt := topS 25
abbrev s_l_some_turn : Stmt := topS 26
abbrev s_l_some_lots : Stmt := topS 27
abbrev s_l_piece : Stmt := topS 28
abbrev s_l_wild : Stmt := topS 29
abbrev s_l_bulk : Stmt := topS 30
abbrev s_l_aim : Stmt := topS 31
abbrev s_l_unroll : Stmt := topS 32
abbrev s_l_tame : Stmt := topS 33
abbrev s_l_same_piece : Stmt := topS 34
abbrev s_l_command_at : Stmt := topS 35
abbrev s_l_is_piece : Stmt := topS 36
abbrev s_l_alike_at : Stmt := topS 37
abbrev s_l_two : Stmt := topS 38
abbrev s_l_index : Stmt := topS 39
abbrev s_l_tame_right : Stmt := topS 40
abbrev s_law : Stmt := topS 41
theorem sc_is_integer : FnScope ["value"] ["value"] (defScope s_is_integer) := ⟨rfl, rfl, rfl, by decide +kernel, rfl, by decide +kernel, by decide +kernel⟩
theorem sc_is_name : FnScope ["value"] ["value"] (defScope s_is_name) := ⟨rfl, rfl, rfl, by decide +kernel, rfl, by decide +kernel, by decide +kernel⟩
theorem sc_is_command : FnScope ["value", "word"] ["value"] (defScope s_is_command) := ⟨rfl, rfl, rfl, by decide +kernel, rfl, by decide +kernel, by decide +kernel⟩
theorem sc_is_program : FnScope ["value", "command"] ["value"] (defScope s_is_program) := ⟨rfl, rfl, rfl, by decide +kernel, rfl, by decide +kernel, by decide +kernel⟩
theorem sc_check_program : FnScope ["value"] ["value"] (defScope s_check_program) := ⟨rfl, rfl, rfl, by decide +kernel, rfl, by decide +kernel, by decide +kernel⟩
theorem sc_raw_size : FnScope ["program", "total", "command"] ["program"] (defScope s_raw_size) := ⟨rfl, rfl, rfl, by decide +kernel, rfl, by decide +kernel, by decide +kernel⟩
theorem sc_check_count : FnScope ["program", "value"] ["program", "value"] (defScope s_check_count) := ⟨rfl, rfl, rfl, by decide +kernel, rfl, by decide +kernel, by decide +kernel⟩
theorem sc_parted_command : FnScope ["command", "count", "ahead", "behind", "rounds", "left"] ["command", "count"] (defScope s_parted_command) := ⟨rfl, rfl, rfl, by decide +kernel, rfl, by decide +kernel, by decide +kernel⟩
theorem sc_parted_commands : FnScope ["program", "count", "ahead", "behind", "left", "command", "amount", "before", "after"] ["program", "count"] (defScope s_parted_commands) := ⟨rfl, rfl, rfl, by decide +kernel, rfl, by decide +kernel, by decide +kernel⟩
theorem sc_raw_undoing : FnScope ["program", "undone", "command"] ["program"] (defScope s_raw_undoing) := ⟨rfl, rfl, rfl, by decide +kernel, rfl, by decide +kernel, by decide +kernel⟩
theorem sc_undoing : FnScope ["program"] ["program"] (defScope s_undoing) := ⟨rfl, rfl, rfl, by decide +kernel, rfl, by decide +kernel, by decide +kernel⟩
theorem sc_parted : FnScope ["program", "count", "ahead", "behind"] ["program", "count"] (defScope s_parted) := ⟨rfl, rfl, rfl, by decide +kernel, rfl, by decide +kernel, by decide +kernel⟩
theorem sc_l_bag_of : FnScope ["_law_cell"] ["_law_cell"] (defScope s_l_bag_of) := ⟨rfl, rfl, rfl, by decide +kernel, rfl, by decide +kernel, by decide +kernel⟩
theorem sc_l_pick : FnScope ["_law_bag", "_law_many", "_law_digit"] ["_law_bag", "_law_many"] (defScope s_l_pick) := ⟨rfl, rfl, rfl, by decide +kernel, rfl, by decide +kernel, by decide +kernel⟩
theorem sc_l_great_int : FnScope ["_law_bag", "_law_digits", "_law_total", "_law_k", "_law_limit"] ["_law_bag", "_law_digits"] (defScope s_l_great_int) := ⟨rfl, rfl, rfl, by decide +kernel, rfl, by decide +kernel, by decide +kernel⟩
theorem sc_l_is_int : FnScope ["_law_thing"] ["_law_thing"] (defScope s_l_is_int) := ⟨rfl, rfl, rfl, by decide +kernel, rfl, by decide +kernel, by decide +kernel⟩
theorem sc_l_names : FnScope ["_law_bag", "_law_letters", "_law_k"] ["_law_bag"] (defScope s_l_names) := ⟨rfl, rfl, rfl, by decide +kernel, rfl, by decide +kernel, by decide +kernel⟩
theorem sc_l_some_turn : FnScope ["_law_bag", "_law_wild_here", "_law_mode", "_law_sign"] ["_law_bag", "_law_wild_here"] (defScope s_l_some_turn) := ⟨rfl, rfl, rfl, by decide +kernel, rfl, by decide +kernel, by decide +kernel⟩
theorem sc_l_some_lots : FnScope ["_law_bag", "_law_free", "_law_wild_here", "_law_mode"] ["_law_bag", "_law_free", "_law_wild_here"] (defScope s_l_some_lots) := ⟨rfl, rfl, rfl, by decide +kernel, rfl, by decide +kernel, by decide +kernel⟩
theorem sc_l_piece : FnScope ["_law_bag", "_law_pot", "_law_deep", "_law_free", "_law_wild_here", "_law_made", "_law_k", "_law_way", "_law_word", "_law_lots"] ["_law_bag", "_law_pot", "_law_deep", "_law_free", "_law_wild_here"] (defScope s_l_piece) := ⟨rfl, rfl, rfl, by decide +kernel, rfl, by decide +kernel, by decide +kernel⟩
theorem sc_l_wild : FnScope ["_law_bag", "_law_room", "_law_names_here", "_law_pot", "_law_piece_here"] ["_law_bag", "_law_room", "_law_names_here"] (defScope s_l_wild) := ⟨rfl, rfl, rfl, by decide +kernel, rfl, by decide +kernel, by decide +kernel⟩
theorem sc_l_bulk : FnScope ["_law_piece_here", "_law_total", "_law_part"] ["_law_piece_here"] (defScope s_l_bulk) := ⟨rfl, rfl, rfl, by decide +kernel, rfl, by decide +kernel, by decide +kernel⟩
theorem sc_l_aim : FnScope ["_law_piece_here", "_law_total", "_law_part"] ["_law_piece_here"] (defScope s_l_aim) := ⟨rfl, rfl, rfl, by decide +kernel, rfl, by decide +kernel, by decide +kernel⟩
theorem sc_l_unroll : FnScope ["_law_piece_here", "_law_sign", "_law_made", "_law_part", "_law_body", "_law_k"] ["_law_piece_here", "_law_sign"] (defScope s_l_unroll) := ⟨rfl, rfl, rfl, by decide +kernel, rfl, by decide +kernel, by decide +kernel⟩
theorem sc_l_tame : FnScope ["_law_bag", "_law_names_here", "_law_pot", "_law_piece_here"] ["_law_bag", "_law_names_here"] (defScope s_l_tame) := ⟨rfl, rfl, rfl, by decide +kernel, rfl, by decide +kernel, by decide +kernel⟩
theorem sc_l_same_piece : FnScope ["_law_found", "_law_due", "_law_k"] ["_law_found", "_law_due"] (defScope s_l_same_piece) := ⟨rfl, rfl, rfl, by decide +kernel, rfl, by decide +kernel, by decide +kernel⟩
theorem sc_l_command_at : FnScope ["_law_piece_here", "_law_at", "_law_sign", "_law_part", "_law_bulk_here"] ["_law_piece_here", "_law_at", "_law_sign"] (defScope s_l_command_at) := ⟨rfl, rfl, rfl, by decide +kernel, rfl, by decide +kernel, by decide +kernel⟩
theorem sc_l_is_piece : FnScope ["_law_thing", "_law_part"] ["_law_thing"] (defScope s_l_is_piece) := ⟨rfl, rfl, rfl, by decide +kernel, rfl, by decide +kernel, by decide +kernel⟩
theorem sc_l_alike_at : FnScope ["_law_piece_here", "_law_first", "_law_second", "_law_lots", "_law_spots", "_law_at", "_law_due", "_law_found"] ["_law_piece_here", "_law_first", "_law_second", "_law_lots", "_law_spots"] (defScope s_l_alike_at) := ⟨rfl, rfl, rfl, by decide +kernel, rfl, by decide +kernel, by decide +kernel⟩
theorem sc_l_two : FnScope ["_law_piece_here", "_law_lots", "_law_spots", "_law_told"] ["_law_piece_here", "_law_lots", "_law_spots"] (defScope s_l_two) := ⟨rfl, rfl, rfl, by decide +kernel, rfl, by decide +kernel, by decide +kernel⟩
theorem sc_l_index : FnScope ["_law_bag", "_law_bulk_here", "_law_mode", "_law_far"] ["_law_bag", "_law_bulk_here"] (defScope s_l_index) := ⟨rfl, rfl, rfl, by decide +kernel, rfl, by decide +kernel, by decide +kernel⟩
theorem sc_l_tame_right : FnScope ["_law_bag", "_law_piece_here", "_law_row", "_law_k", "_law_lots", "_law_told"] ["_law_bag", "_law_piece_here"] (defScope s_l_tame_right) := ⟨rfl, rfl, rfl, by decide +kernel, rfl, by decide +kernel, by decide +kernel⟩
theorem sc_law : FnScope ["_law_script", "_law_great", "_law_cell", "_law_bag", "_law_names_here", "_law_wild_here", "_law_tame_here", "_law_piece_here", "_law_turn", "_law_bulk_here", "_law_lots", "_law_spots", "_law_told", "_law_after", "_law_k"] ["_law_script"] (defScope s_law) := ⟨rfl, rfl, rfl, by decide +kernel, rfl, by decide +kernel, by decide +kernel⟩
/-- the built-ins that the text calls by their names -/
structure Bl (mg : Str → Option Value) : Prop where
  b_isinstance : mg "isinstance" = none
  b_int : mg "int" = none
  b_bool : mg "bool" = none
  b_str : mg "str" = none
  b_tuple : mg "tuple" = none
  b_list : mg "list" = none
  b_len : mg "len" = none
  b_all : mg "all" = none
  b_range : mg "range" = none
  b_sum : mg "sum" = none
  b_max : mg "max" = none
  b_min : mg "min" = none
end My

set_option Elab.async false
set_option linter.all false
set_option maxRecDepth 100000
set_option maxHeartbeats 4000000

namespace My
open PySem PySem.Spec PyProof.Rows L2
section
variable {P : Program} {w : World} {K : PySem.W.Frag} {mg : Str → Option Value} {base : Heap}
local macro_rules | `(tactic| walk_at "isi") => `(tactic| (first
  | (with_reducible refine r_is_int_int ?_)
  | (with_reducible refine r_is_int_bool ?_)
  | (with_reducible refine r_is_int_str ?_)
  | (with_reducible refine r_is_int_list ?_)
  | (with_reducible refine r_is_int_tuple ?_)
  | (with_reducible refine r_is_bool_int ?_)
  | (with_reducible refine r_is_bool_bool ?_)
  | (with_reducible refine r_is_bool_str ?_)
  | (with_reducible refine r_is_bool_list ?_)
  | (with_reducible refine r_is_bool_tuple ?_)
  | (with_reducible refine r_is_str_int ?_)
  | (with_reducible refine r_is_str_bool ?_)
  | (with_reducible refine r_is_str_str ?_)
  | (with_reducible refine r_is_str_list ?_)
  | (with_reducible refine r_is_str_tuple ?_)
  | ((with_reducible refine r_is_list_int (xs := ?xx) ?hh ?_); (case hh => walk_at "hp"))
  | ((with_reducible refine r_is_list_bool (xs := ?xx) ?hh ?_); (case hh => walk_at "hp"))
  | ((with_reducible refine r_is_list_str (xs := ?xx) ?hh ?_); (case hh => walk_at "hp"))
  | ((with_reducible refine r_is_list_list (xs := ?xx) ?hh ?_); (case hh => walk_at "hp"))
  | ((with_reducible refine r_is_list_tuple (xs := ?xx) ?hh ?_); (case hh => walk_at "hp"))
  | ((with_reducible refine r_is_tuple_int (xs := ?xx) ?hh ?_); (case hh => walk_at "hp"))
  | ((with_reducible refine r_is_tuple_bool (xs := ?xx) ?hh ?_); (case hh => walk_at "hp"))
  | ((with_reducible refine r_is_tuple_str (xs := ?xx) ?hh ?_); (case hh => walk_at "hp"))
  | ((with_reducible refine r_is_tuple_list (xs := ?xx) ?hh ?_); (case hh => walk_at "hp"))
  | ((with_reducible refine r_is_tuple_tuple (xs := ?xx) ?hh ?_); (case hh => walk_at "hp"))
  | (with_reducible refine r_is_NoneType_int ?_)
  | (with_reducible refine r_is_NoneType_bool ?_)
  | (with_reducible refine r_is_NoneType_str ?_)
  | (with_reducible refine r_is_NoneType_list ?_)
  | (with_reducible refine r_is_NoneType_tuple ?_)))
local macro_rules | `(tactic| walk_at "ne") => `(tactic| first | assumption | (refine Ne.symm ?_; assumption) | exact Bag.ne (by assumption) (by assumption) | exact ne_of_none (by assumption) (by assumption))
local macro_rules | `(tactic| walk_at "hp") => `(tactic| (first
  | assumption
  | exact upd_same
  | (refine h_keep ?_ (by assumption); walk_at "hp")
  | (refine (upd_ne (by walk_at "ne")).trans ?_; walk_at "hp")
  | (refine Same.at (by assumption) ?_; walk_at "hp")
  | (refine But.at (by assumption) (by walk_at "ne") ?_; walk_at "hp")
  | (refine But2.at (by assumption) (by walk_at "ne") (by walk_at "ne") ?_; walk_at "hp")))
local macro_rules | `(tactic| walk_at "side") => `(tactic| first | assumption | omega | (refine ⟨?_, ?_⟩ <;> first | assumption | omega | decide) | decide | (refine ⟨by decide, by decide, by decide⟩) | (left; refine ⟨?_, ?_⟩ <;> first | omega | decide) | (right; refine ⟨?_, ?_⟩ <;> first | omega | decide) | (simp; done))
local macro_rules | `(tactic| walk_at "cond") => `(tactic| first | assumption | exact rfl | omega | (simp only [List.length_cons, List.length_nil]; omega) | decide +kernel)
local macro_rules | `(tactic| walk_at "s") => `(tactic| (first
  | ((with_reducible refine r_var (v := ?vv) ?ee ?_); (case ee => exact rfl))
  | (with_reducible refine r_c ?_)
  | (with_reducible refine r_op ?_)
  | (with_reducible refine r_un ?_)
  | (with_reducible refine r_rI0 ?_)
  | ((with_reducible refine r_rI ?cc ?_); (case cc => walk_at "side"))
  | (with_reducible refine r_rU ?_)
  | (with_reducible refine r_eqI ?_)
  | (with_reducible refine r_neI ?_)
  | (with_reducible refine r_eqB ?_)
  | (with_reducible refine r_neB ?_)
  | (with_reducible refine r_eqS ?_)
  | (with_reducible refine r_neS ?_)
  | ((with_reducible refine r_eq ?ee ?_); (case ee => exact rfl))
  | ((with_reducible refine r_ne ?ee ?_); (case ee => exact rfl))
  | ((with_reducible refine r_ixL (v := ?vv) (xs := ?xx) ?hh ?ee ?_); (case hh => (refine SqL.of ?_; walk_at "hp")); (case ee => exact rfl))
  | (with_reducible refine r_cb ?_)
  | (with_reducible refine r_call ?_)
  | (with_reducible refine r_cons ?_)
  | (with_reducible refine r_nil ?_)
  | (with_reducible refine r_lst ?_)
  | (with_reducible refine r_tup ?_)
  | ((with_reducible refine r_new ?cc ?_); (case cc => walk_at "side"))
  | (with_reducible refine r_exbl ?_)
  | (with_reducible refine r_exint ?_)
  | (with_reducible refine r_exint2 ?_)
  | (with_reducible refine r_exblL ?_)
  | (with_reducible refine r_ex2 ?_)
  | (with_reducible refine r_test ?_)
  | (with_reducible refine r_tB ?_)
  | (with_reducible refine r_not ?_)
  | (with_reducible refine r_and ?_)
  | (with_reducible refine r_or ?_)
  | (with_reducible refine r_andV ?_)
  | (with_reducible refine r_orV ?_)
  | (with_reducible refine r_notV ?_)
  | (with_reducible refine r_tif ?_)
  | (with_reducible refine r_iteT ?_)
  | (with_reducible refine r_iteNT ?_)
  | (with_reducible refine r_iteNF ?_)
  | (with_reducible refine r_iteF ?_)
  | (with_reducible refine r_seq ?_)
  | (with_reducible refine r_next ?_)
  | (with_reducible refine r_brk ?_)
  | (with_reducible refine r_cont ?_)
  | (with_reducible refine r_asg ?_)
  | (with_reducible refine r_gname ?_)
  | (with_reducible refine r_ret ?_)
  | (with_reducible refine r_retN ?_)
  | (with_reducible refine r_drop ?_)
  | (with_reducible refine r_if ?_)
  | ((with_reducible refine r_aug (x := ?xx) ?ee ?_); (case ee => exact rfl))
  | (with_reducible refine r_ipI ?_)
  | (with_reducible refine r_augS ?_)
  | (with_reducible refine r_gsub ?_)
  | ((with_reducible refine r_setL (xs := ?xx) (m := ?mm) ?hh ?ee ?_); (case hh => walk_at "hp"); (case ee => exact rfl))
  | (with_reducible refine r_par ?_)
  | (with_reducible refine r_bm ?_)
  | ((with_reducible refine r_tyL (xs := ?xx) ?hh ?_); (case hh => walk_at "hp"))
  | ((with_reducible refine r_append (xs := ?xx) ?hh ?ll ?_); (case hh => walk_at "hp"); (case ll => walk_at "side"))
  | (walk_at "isi")
  | (with_reducible refine r_for ?_)
  | (with_reducible refine r_iList ?_)
  | (with_reducible refine r_iTup ?_)
  | (with_reducible refine r_iR1 ?_)
  | (with_reducible refine r_iR2 ?_)
  | (with_reducible refine r_lc ?_)
  | (with_reducible refine r_yes ?_)
  | ((with_reducible refine r_lenS ?ll ?_); (case ll => walk_at "side"))
  | (with_reducible refine r_leS ?_)
  | (with_reducible refine r_chain ?_)
  | (with_reducible refine r_tM1 ?_)
  | (with_reducible refine r_exS ?_)
  | ((with_reducible refine r_tupL (xs := ?xx) ?hh ?_); (case hh => walk_at "hp"))
  | ((with_reducible refine r_listL (xs := ?xx) ?hh ?_); (case hh => walk_at "hp"))
  | ((with_reducible refine r_listT (xs := ?xx) ?hh ?_); (case hh => walk_at "hp"))
  | ((with_reducible refine r_ixT (v := ?vv) (xs := ?xx) ?hh ?ee ?_); (case hh => (refine SqT.of ?_; walk_at "hp")); (case ee => exact rfl))
  | (with_reducible refine r_sl ?_)
  | (with_reducible refine r_nopart ?_)
  | (with_reducible refine r_part ?_)
  | (with_reducible refine r_exI ?_)
  | ((with_reducible refine r_slL (xs := ?xx) ?hh ?_); (case hh => first | assumption | (refine SqL.of ?_; walk_at "hp") | (refine Same.seq (by assumption) (by assumption))))
  | ((with_reducible refine r_cat (xs := ?xx) (zs := ?zz) ?hh ?ii ?ll ?_); (case hh => walk_at "hp"); (case ii => walk_at "hp"); (case ll => walk_at "side"))
  | ((with_reducible refine r_lenL (xs := ?xx) ?hh ?_); (case hh => walk_at "hp"))
  | ((with_reducible refine r_lenT (xs := ?xx) ?hh ?_); (case hh => walk_at "hp"))
  | ((with_reducible refine r_gTup (xs := ?xx) ?hh ?ll ?_); (case hh => walk_at "hp"); (case ll => exact rfl))
  | (with_reducible refine r_gCons ?_)
  | (with_reducible refine r_gNil ?_)
  | ((with_reducible refine r_iteDT ?cc ?_); (case cc => walk_at "cond"))
  | ((with_reducible refine r_iteDF ?cc ?_); (case cc => walk_at "cond"))
  | ((with_reducible refine r_iteNDT ?cc ?_); (case cc => walk_at "cond"))
  | ((with_reducible refine r_iteNDF ?cc ?_); (case cc => walk_at "cond"))
  ))
local macro_rules | `(tactic| walk_at "go") => `(tactic| repeat (walk_at "s"))

theorem ok_l_bag_of {f : Addr} {fd : FuncData} (F : Fun K "_law_bag_of" "_law_bag_of" s_l_bag_of f fd) (B : Bl mg) : FnOk P w K mg base CX0 1 f fd ["_law_cell"] spBagOf := by
  refine F.ok sc_l_bag_of (fun vs H Q E h => ?_) (fun cdv A outer s H vs Q E hr h => ?_)
  · obtain ⟨c, rfl, _⟩ := h
    rfl
  · obtain ⟨c, rfl, k⟩ := h
    refine ⟨_, (pss_one (ps_ret (pe_lst (pa_cons (pe_callB (call_max2 rfl) (by rfl) B.b_max (by decide +kernel) (pa_cons pe_int (pa_cons (pe_op op_sub (pv 0) (pe_op op_pow pe_int pe_int)) pa_nil))) (pa_cons (pe_op op_add (pe_op op_mod (pe_callTy call_intI (by rfl) B.b_int (by decide +kernel) (pa_cons (pv 0) pa_nil)) pe_int) pe_int) (pa_cons (pe_op op_mod (pe_callTy call_intI (by rfl) B.b_int (by decide +kernel) (pa_cons (pe_op op_fdivW (pv 0) pe_int) pa_nil)) pe_int) pa_nil)))))), ?_⟩
    walk_at "go"
    intro p np
    exact k p _ np (Same.new0 np) ⟨_, _, _, upd_same, by omega, by omega, by omega⟩
theorem ok_l_pick {f : Addr} {fd : FuncData} (F : Fun K "_law_pick" "_law_pick" s_l_pick f fd) (B : Bl mg) : FnOk P w K mg base CX0 1 f fd ["_law_bag", "_law_many"] spPick := by
  refine F.ok sc_l_pick (fun vs H Q E h => ?_) (fun cdv A outer s H vs Q E hr h => ?_)
  · obtain ⟨a, n, rfl, _⟩ := h
    rfl
  · obtain ⟨a, n, rfl, ⟨x, y, z, hb, y0, y1, z0⟩, n0, n1, k⟩ := h
    have nl : n.natAbs.log2 < 9000 := log_small (Nat.lt_of_le_of_lt (by omega : n.natAbs ≤ 1000000) (by decide +kernel))
    refine ⟨_, (pss_cons (ps_if (pt_cmpR op_gt (pe_ix (ix_listK (K := K)) (pv 0) pe_int (fun _ _ => rfl)) pe_int (nomark _))
    (pss_cons (ps_set (i := 2) sc_l_pick.nd rfl (.inl rfl) (pe_op op_modN (pe_callTy call_intI (by rfl) B.b_int (by decide +kernel) (pa_cons (pe_ix (ix_listK (K := K)) (pv 0) pe_int (fun _ _ => rfl)) pa_nil)) (pv 1)))
    (pss_cons (ps_asg (pe_op op_fdivW (pe_ix (ix_listK (K := K)) (pv 0) pe_int (fun _ _ => rfl)) (pv 1)) (pg_sub (pv 0) pe_int set_list))
    (pss_one (ps_ret (pv 2)))))
    pss_nil)
    (pss_cons (ps_augS (pv 0) pe_int pg_list pe_int ip_add set_list)
    (pss_cons (ps_asg (pe_op op_mod (pe_callTy call_intI (by rfl) B.b_int (by decide +kernel) (pa_cons (pe_op op_add (pe_op op_mul (pe_ix (ix_listK (K := K)) (pv 0) pe_int (fun _ _ => rfl)) pe_int) (pe_op op_mul (pe_ix (ix_listK (K := K)) (pv 0) pe_int (fun _ _ => rfl)) pe_int)) pa_nil)) pe_int) (pg_sub (pv 0) pe_int set_list))
    (pss_one (ps_ret (pe_op op_modN (pe_callTy call_intI (by rfl) B.b_int (by decide +kernel) (pa_cons (pe_op op_fdiv (pe_op op_mod (pe_callTy call_intI (by rfl) B.b_int (by decide +kernel) (pa_cons (pe_op op_mul (pe_ix (ix_listK (K := K)) (pv 0) pe_int (fun _ _ => rfl)) (pe_ix (ix_listK (K := K)) (pv 0) pe_int (fun _ _ => rfl))) pa_nil)) pe_int) pe_int) pa_nil)) (pv 1))))))), ?_⟩
    walk_at "go"
    refine r_iteD (fun hx => ?_) (fun hx => ?_)
    · walk_at "go"
      refine k _ _ (Int.fmod_nonneg_of_pos _ n0) (Int.fmod_lt_of_pos _ n0) (But.self (But.refl _ _)) ⟨_, _, _, upd_same, y0, y1, z0⟩
    · walk_at "go"
      refine k _ _ (Int.fmod_nonneg_of_pos _ n0) (Int.fmod_lt_of_pos _ n0) (But.self (But.self (But.refl _ _))) ⟨_, _, _, upd_same, by omega, by omega, by omega⟩
def spGreat : Sp := fun vs H Q _ => ∃ (a : Addr) (d : Int), vs = [.ref a, .int d] ∧ Bag H a ∧ 0 ≤ d ∧ d ≤ 60 ∧ ∀ (r : Int) H', 0 ≤ r → r < 10 ^ d.toNat → But a H H' → Bag H' a → Q (.int r) H'
theorem ok_l_great_int {f : Addr} {fd : FuncData} (F : Fun K "_law_great_int" "_law_great_int" s_l_great_int f fd) (B : Bl mg) (h_l_pick : Has P w K mg base "_law_pick" 1 ["_law_bag", "_law_many"] spPick) : FnOk P w K mg base CX0 2 f fd ["_law_bag", "_law_digits"] spGreat := by
  refine F.ok sc_l_great_int (fun vs H Q E h => ?_) (fun cdv A outer s H vs Q E hr h => ?_)
  · obtain ⟨a, n, rfl, _⟩ := h
    rfl
  · obtain ⟨a, d, rfl, ba, d0, d1, k⟩ := h
    refine ⟨_, (pss_cons (ps_set (i := 2) sc_l_great_int.nd rfl (.inl rfl) pe_int)
    (pss_cons (ps_for PassesOwn.never rfl (pi_range1 (by rfl) B.b_range (pa_cons pe_int pa_nil)) (pg_name (i := 3) sc_l_great_int.nd rfl (.inl rfl))
    (pss_one (ps_set (i := 2) sc_l_great_int.nd rfl (.inl rfl) (pe_op op_add (pe_op op_mulW (pv 2) (pe_op op_pow pe_int pe_int)) (pe_callH h_l_pick (hr.mono (by first | decide | omega)) (pa_cons (pv 0) (pa_cons (pe_op op_pow pe_int pe_int) pa_nil)))))))
    (pss_cons (ps_set (i := 4) sc_l_great_int.nd rfl (.inl rfl) pe_int)
    (pss_cons (ps_for PassesOwn.never rfl (pi_range1 (by rfl) B.b_range (pa_cons (pv 1) pa_nil)) (pg_name (i := 3) sc_l_great_int.nd rfl (.inl rfl))
    (pss_one (ps_set (i := 4) sc_l_great_int.nd rfl (.inl rfl) (pe_op op_mul (pv 4) pe_int))))
    (pss_one (ps_ret (pe_op op_modN (pe_callTy call_intI (by rfl) B.b_int (by decide +kernel) (pa_cons (pv 2) pa_nil)) (pv 4)))))))), ?_⟩
    walk_at "go"
    refine u_for1 ?_ (fun i σ H' => ∃ (t : Int) (y : Option V), σ = [some (.ref a), some (.int d), some (.int t), y, none] ∧ 0 ≤ t ∧ t < 10 ^ (6 * i) ∧ But a H H' ∧ Bag H' a) ?_ ?_ ?_
    · omega
    · exact ⟨0, none, rfl, by omega, by decide, But.refl _ _, ba⟩
    · rintro i σ H' hi ⟨t, y, rfl, t0, t1, bu, bg⟩
      have t2 : t.natAbs < 2 ^ 100000 := by
        have h1 : (10 : Int) ^ (6 * i) ≤ 10 ^ 42 := ipow_mono (by decide) (by omega)
        refine Nat.lt_of_le_of_lt (m := 10 ^ 42) (by omega) (by decide +kernel)
      have mw : CMulW t (10 ^ Int.toNat 6) := mulW_of t2 (by decide +kernel)
      walk_at "go"
      refine u_pick bg (by decide) (by decide) fun r H2 r0 r1 bu2 b2 => ?_
      walk_at "go"
      refine ⟨_, some (.int i), rfl, ?_, ?_, bu.trans bu2, b2⟩
      · have : 0 ≤ t * 10 ^ Int.toNat 6 := Int.mul_nonneg t0 (by decide)
        omega
      · rw [show 6 * (i + 1) = 6 * i + 6 by omega, Int.pow_add]
        rw [show (10 : Int) ^ Int.toNat 6 = 1000000 by decide] at *
        rw [show (10 : Int) ^ 6 = 1000000 by decide]
        generalize (10 : Int) ^ (6 * i) = X at *
        omega
    · rintro σ H' ⟨t, y, rfl, t0, t1, bu, bg⟩
      walk_at "go"
      refine u_for1 ?_ (fun i σ H2 => ∃ (y : Option V), σ = [some (.ref a), some (.int d), some (.int t), y, some (.int (10 ^ i))] ∧ H2 = H') ?_ ?_ ?_
      · omega
      · exact ⟨y, rfl, rfl⟩
      · rintro i σ H2 hi ⟨y, rfl, rfl⟩
        walk_at "go"
        exact ⟨some (.int i), by rw [Int.pow_succ]; rfl, rfl⟩
      · rintro σ H2 ⟨y, rfl, rfl⟩
        have hp : (0 : Int) < 10 ^ d.toNat := Int.pow_pos (by decide)
        have hp2 : (10 : Int) ^ d.toNat ≠ 0 := by omega
        walk_at "go"
        exact k _ _ (Int.fmod_nonneg_of_pos _ hp) (Int.fmod_lt_of_pos _ hp) bu bg
def spNames : Sp := fun vs H Q _ => ∃ a, vs = [.ref a] ∧ Bag H a ∧ ∀ z H', But a H H' → Bag H' a → Names z → Q (.str z) H'
theorem ok_l_names {f : Addr} {fd : FuncData} (F : Fun K "_law_names" "_law_names" s_l_names f fd) (B : Bl mg) (h_l_pick : Has P w K mg base "_law_pick" 1 ["_law_bag", "_law_many"] spPick) : FnOk P w K mg base CX0 2 f fd ["_law_bag"] spNames := by
  refine F.ok sc_l_names (fun vs H Q E h => ?_) (fun cdv A outer s H vs Q E hr h => ?_)
  · obtain ⟨a, rfl, _⟩ := h
    rfl
  · obtain ⟨a, rfl, ba, k⟩ := h
    refine ⟨_, (pss_cons (ps_set (i := 1) sc_l_names.nd rfl (.inr rfl) pe_str)
    (pss_cons (ps_if (pt_cmpR op_eq (pe_callH h_l_pick (hr.mono (by first | decide | omega)) (pa_cons (pv 0) (pa_cons pe_int pa_nil))) pe_int (nomark _))
    (pss_one (ps_ret pe_str))
    pss_nil)
    (pss_one (ps_ret (pe_join pe_str (pe_lc (own := [("_law_k", 2)]) rfl sc_l_names.nd (pi_range1 (by rfl) B.b_range (pa_cons pe_int pa_nil)) (blkOk_by (N := ["_law_bag", "_law_letters", "_law_k"]) (sc := defScope s_l_names) (by decide +kernel)) (fun _ _ _ _ _ => (pg_name (i := 2) sc_l_names.nd rfl (.inl rfl))) (fun _ _ _ _ _ => pts_nil) (fun _ _ _ _ _ => (pe_ix ix_str (pv 1) (pe_callH h_l_pick (hr.mono (by first | decide | omega)) (pa_cons (pv 0) (pa_cons pe_int pa_nil))) (fun _ _ => rfl))))))))), ?_⟩
    walk_at "go"
    refine u_pick ba (by omega) (by omega) fun r H1 r0 r1 bu1 b1 => ?_
    walk_at "go"
    refine r_iteD (fun hz => ?_) (fun hz => ?_)
    · walk_at "go"
      exact k _ _ bu1 b1 ⟨by decide +kernel, by decide +kernel⟩
    · walk_at "go"
      refine u_lc1 ?_ (fun D i acc H' => (∃ cs : List Nat, acc = (cs.map sign1).map V.str ∧ cs.length = i ∧ ∀ c ∈ cs, 97 ≤ c ∧ c ≤ 122) ∧ But a H1 H' ∧ Bag H' a) ?_ ?_ ?_
      · omega
      · exact fun D hD => ⟨⟨[], rfl, rfl, by simp⟩, But.new (But.refl _ _) hD, b1.keep hD⟩
      · rintro D i acc H' hD hi hacc ⟨⟨cs, rfl, hl, hc⟩, bu, bg⟩
        have nDa : D ≠ a := b1.ne hD
        walk_at "go"
        refine ⟨rfl, ?_⟩
        walk_at "go"
        refine u_pick bg (by omega) (by omega) fun r2 H2 p0 p1 bu2 b2 => ?_
        obtain ⟨c, hc1, hc2, hc3⟩ := letter_at p0 p1
        refine r_ixS (by decide +kernel) hc1 ?_
        have hD2 : H2 D = _ := bu2 _ _ nDa hacc
        refine u_push hD2 (by rw [List.length_map, List.length_map]; omega) ⟨⟨cs ++ [c], ?_, ?_, ?_⟩, But.put (bu.trans bu2) hD, b2.upd nDa.symm⟩
        · rw [List.map_append, List.map_append]
          rfl
        · rw [List.length_append, List.length_singleton, hl]
        · intro d hd
          rcases List.mem_append.mp hd with hd | hd
          · exact hc d hd
          · rw [List.mem_singleton.mp hd]
            exact ⟨hc2, hc3⟩
      · rintro D acc H' hD hacc ⟨⟨cs, rfl, hl, hc⟩, bu, bg⟩
        refine ⟨_, D, cs.map sign1, rfl, rfl, .inl (.of hacc), ?_, ?_⟩
        · rw [List.map_map, List.length_map, hl]
          have : (cs.map (fun c => (sign1 c).length)).sum ≤ 6 := by
            have h1 : ∀ l : List Nat, (l.map (fun c => (sign1 c).length)).sum = l.length := by
              intro l
              induction l with
              | nil => rfl
              | cons c r ih => rw [List.map_cons, List.sum_cons, ih, List.length_cons]; exact Nat.add_comm _ _
            rw [h1, hl]
            omega
          show (cs.map (fun c => (sign1 c).length)).sum + _ ≤ _
          rw [show (("" : Str)).length = 0 by decide +kernel]
          omega
        · refine k _ _ (bu1.trans bu) bg ⟨?_, ?_⟩
          · rw [join_signs (by decide +kernel), hl]
            rfl
          · rw [join_signs (by decide +kernel)]
            exact hc
/-- the bounds of counts and turns by the flag -/
def CB (b : Bool) : Int := if b then BC else 3
def TB (b : Bool) : Int := if b then BC else 12
def spTurn : Sp := fun vs H Q _ => ∃ (a : Addr) (b : Bool), vs = [.ref a, .bl b] ∧ Bag H a ∧ ∀ (r : Int) H', But a H H' → Bag H' a → -(TB b) ≤ r → r ≤ TB b → Q (.int r) H'
theorem TB_le (b : Bool) : 12 ≤ TB b := by cases b <;> decide +kernel
theorem CB_le (b : Bool) : 3 ≤ CB b := by cases b <;> decide +kernel
theorem ok_l_some_turn {f : Addr} {fd : FuncData} (F : Fun K "_law_some_turn" "_law_some_turn" s_l_some_turn f fd) (B : Bl mg) (h_l_pick : Has P w K mg base "_law_pick" 1 ["_law_bag", "_law_many"] spPick) (h_l_great_int : Has P w K mg base "_law_great_int" 2 ["_law_bag", "_law_digits"] spGreat) : FnOk P w K mg base CX0 3 f fd ["_law_bag", "_law_wild_here"] spTurn := by
  refine F.ok sc_l_some_turn (fun vs H Q E h => ?_) (fun cdv A outer s H vs Q E hr h => ?_)
  · obtain ⟨a, b, rfl, _⟩ := h
    rfl
  · obtain ⟨a, b, rfl, ba, k⟩ := h
    have tb := TB_le b
    refine ⟨_, (pss_cons (ps_set (i := 2) sc_l_some_turn.nd rfl (.inl rfl) (pe_callH h_l_pick (hr.mono (by first | decide | omega)) (pa_cons (pv 0) (pa_cons pe_int pa_nil))))
    (pss_cons (ps_set (i := 3) sc_l_some_turn.nd rfl (.inl rfl) (pe_op op_sub pe_int (pe_op op_mul pe_int (pe_callH h_l_pick (hr.mono (by first | decide | omega)) (pa_cons (pv 0) (pa_cons pe_int pa_nil))))))
    (pss_cons (ps_if (pt_cmpR op_lt (pv 2) pe_int (nomark _))
    (pss_one (ps_ret (pe_op op_mul (pv 3) (pe_callH h_l_pick (hr.mono (by first | decide | omega)) (pa_cons (pv 0) (pa_cons pe_int pa_nil))))))
    pss_nil)
    (pss_cons (ps_if (PW.pt (pw_or (pt_cmpR op_eq (pv 2) pe_int (nomark _)) (pw_or1 (pt_not (pt_val (pv 1))))))
    (pss_one (ps_ret (pe_op op_mul (pv 3) (pe_callH h_l_pick (hr.mono (by first | decide | omega)) (pa_cons (pv 0) (pa_cons pe_int pa_nil))))))
    pss_nil)
    (pss_one (ps_ret (pe_op op_mul (pv 3) (pe_callH h_l_great_int (hr.mono (by first | decide | omega)) (pa_cons (pv 0) (pa_cons pe_int pa_nil)))))))))), ?_⟩
    walk_at "go"
    refine u_pick ba (by omega) (by omega) fun m H1 m0 m1 bu1 b1 => ?_
    walk_at "go"
    refine u_pick b1 (by omega) (by omega) fun r H2 r0 r1 bu2 b2 => ?_
    obtain ⟨sg, hs, hs2⟩ : ∃ sg : Int, 1 - 2 * r = sg ∧ (sg = 1 ∨ sg = -1) := ⟨_, rfl, by omega⟩
    have msg : ∀ x : Int, CMul sg x := fun x => .inl ⟨by omega, by omega⟩
    walk_at "go"
    rw [hs]
    refine r_iteD (fun hm => ?_) (fun hm => ?_)
    · walk_at "go"
      refine u_pick b2 (by omega) (by omega) fun t H3 t0 t1 bu3 b3 => ?_
      refine r_rI (msg _) ?_
      refine k _ _ (bu1.trans (bu2.trans bu3)) b3 ?_ ?_ <;> (rcases hs2 with h | h <;> rw [h] <;> omega)
    · walk_at "go"
      have fin : ∀ (n : Int) (t : Int) (H3 : Hp), n ≤ TB b → 0 ≤ t → t ≤ n → But a H2 H3 → Bag H3 a → Q (.int (sg * t)) H3 := fun n t H3 h1 h2 h3 bu3 b3 => by
        refine k _ _ (bu1.trans (bu2.trans bu3)) b3 ?_ ?_ <;> (rcases hs2 with h | h <;> rw [h] <;> omega)
      refine r_iteD (fun hm2 => ?_) (fun hm2 => ?_)
      · walk_at "go"
        refine u_pick b2 (by omega) (by omega) fun t H3 t0 t1 bu3 b3 => ?_
        refine r_rI (msg _) ?_
        exact fin 12 t H3 tb t0 (by omega) bu3 b3
      · walk_at "go"
        cases b with
        | false =>
          walk_at "go"
          refine u_pick b2 (by omega) (by omega) fun t H3 t0 t1 bu3 b3 => ?_
          refine r_rI (msg _) ?_
          exact fin 12 t H3 tb t0 (by omega) bu3 b3
        | true =>
          walk_at "go"
          refine ⟨a, 30, rfl, b2, by omega, by omega, fun t H3 t0 t1 bu3 b3 => ?_⟩
          refine r_rI (msg _) ?_
          refine fin BC t H3 (Int.le_refl _) t0 (Int.le_of_lt (Int.lt_of_lt_of_le t1 (by decide +kernel))) bu3 b3
def spLots : Sp := fun vs H Q _ => ∃ (a : Addr) (fr : Int) (b : Bool), vs = [.ref a, .int fr, .bl b] ∧ Bag H a ∧ ∀ (r : Int) H', But a H H' → Bag H' a → 1 ≤ r → r ≤ CB b → Q (.int r) H'
theorem ok_l_some_lots {f : Addr} {fd : FuncData} (F : Fun K "_law_some_lots" "_law_some_lots" s_l_some_lots f fd) (B : Bl mg) (h_l_pick : Has P w K mg base "_law_pick" 1 ["_law_bag", "_law_many"] spPick) (h_l_great_int : Has P w K mg base "_law_great_int" 2 ["_law_bag", "_law_digits"] spGreat) : FnOk P w K mg base CX0 3 f fd ["_law_bag", "_law_free", "_law_wild_here"] spLots := by
  refine F.ok sc_l_some_lots (fun vs H Q E h => ?_) (fun cdv A outer s H vs Q E hr h => ?_)
  · obtain ⟨a, fr, b, rfl, _⟩ := h
    rfl
  · obtain ⟨a, fr, b, rfl, ba, k⟩ := h
    have cb := CB_le b
    have c3 : (1000 : Int) ≤ BC := by decide +kernel
    have c4 : (10 : Int) ^ 29 + 1000 ≤ BC := by decide +kernel
    refine ⟨_, (pss_cons (ps_set (i := 3) sc_l_some_lots.nd rfl (.inl rfl) (pe_callH h_l_pick (hr.mono (by first | decide | omega)) (pa_cons (pv 0) (pa_cons pe_int pa_nil))))
    (pss_cons (ps_if (PW.pt (pw_or (pt_cmpR op_lt (pv 3) pe_int (nomark _)) (pw_or1 (pt_not (pt_val (pv 2))))))
    (pss_one (ps_ret (pe_op op_add pe_int (pe_callH h_l_pick (hr.mono (by first | decide | omega)) (pa_cons (pv 0) (pa_cons pe_int pa_nil))))))
    pss_nil)
    (pss_cons (ps_if (PW.pt (pw_and (pt_cmpR op_eq (pv 3) pe_int (nomark _)) (pw_and1 (pt_cmpR op_gt (pv 1) pe_int (nomark _)))))
    (pss_one (ps_ret (pe_op op_add pe_int (pe_callH h_l_great_int (hr.mono (by first | decide | omega)) (pa_cons (pv 0) (pa_cons pe_int pa_nil))))))
    pss_nil)
    (pss_one (ps_ret (pe_op op_add pe_int (pe_callH h_l_pick (hr.mono (by first | decide | omega)) (pa_cons (pv 0) (pa_cons pe_int pa_nil))))))))), ?_⟩
    walk_at "go"
    refine u_pick ba (by omega) (by omega) fun m H1 m0 m1 bu1 b1 => ?_
    walk_at "go"
    refine r_iteD (fun hm => ?_) (fun hm => ?_)
    · walk_at "go"
      refine u_pick b1 (by omega) (by omega) fun t H2 t0 t1 bu2 b2 => ?_
      walk_at "go"
      exact k _ _ (bu1.trans bu2) b2 (by omega) (by omega)
    · walk_at "go"
      cases b with
      | false =>
        walk_at "go"
        refine u_pick b1 (by omega) (by omega) fun t H2 t0 t1 bu2 b2 => ?_
        walk_at "go"
        exact k _ _ (bu1.trans bu2) b2 (by omega) (by omega)
      | true =>
        have c5 : CB true = BC := rfl
        walk_at "go"
        have last : ∀ (t : Int) (H2 : Hp), 0 ≤ t → t < 100 → But a H1 H2 → Bag H2 a → Q (.int (1 + t)) H2 := fun t H2 t0 t1 bu2 b2 => k _ _ (bu1.trans bu2) b2 (by omega) (by omega)
        refine r_iteD (fun h3 => ?_) (fun h3 => ?_)
        · walk_at "go"
          refine r_iteD (fun h4 => ?_) (fun h4 => ?_)
          · walk_at "go"
            refine ⟨a, 29, rfl, b1, by omega, by omega, fun t H2 t0 t1 bu2 b2 => ?_⟩
            walk_at "go"
            have t2 : t < 10 ^ 29 := t1
            exact k _ _ (bu1.trans bu2) b2 (by omega) (by omega)
          · walk_at "go"
            refine u_pick b1 (by omega) (by omega) fun t H2 t0 t1 bu2 b2 => ?_
            walk_at "go"
            exact last t H2 t0 t1 bu2 b2
        · walk_at "go"
          refine u_pick b1 (by omega) (by omega) fun t H2 t0 t1 bu2 b2 => ?_
          walk_at "go"
          exact last t H2 t0 t1 bu2 b2
end
end My

set_option Elab.async false
set_option linter.all false
set_option maxRecDepth 100000
set_option maxHeartbeats 4000000

namespace My
open PySem PySem.Spec PyProof.Rows L2
section
variable {P : Program} {w : World} {K : PySem.W.Frag} {mg : Str → Option Value} {base : Heap}
local macro_rules | `(tactic| walk_at "isi") => `(tactic| (first
  | (with_reducible refine r_is_int_int ?_)
  | (with_reducible refine r_is_int_bool ?_)
  | (with_reducible refine r_is_int_str ?_)
  | (with_reducible refine r_is_int_list ?_)
  | (with_reducible refine r_is_int_tuple ?_)
  | (with_reducible refine r_is_bool_int ?_)
  | (with_reducible refine r_is_bool_bool ?_)
  | (with_reducible refine r_is_bool_str ?_)
  | (with_reducible refine r_is_bool_list ?_)
  | (with_reducible refine r_is_bool_tuple ?_)
  | (with_reducible refine r_is_str_int ?_)
  | (with_reducible refine r_is_str_bool ?_)
  | (with_reducible refine r_is_str_str ?_)
  | (with_reducible refine r_is_str_list ?_)
  | (with_reducible refine r_is_str_tuple ?_)
  | ((with_reducible refine r_is_list_int (xs := ?xx) ?hh ?_); (case hh => walk_at "hp"))
  | ((with_reducible refine r_is_list_bool (xs := ?xx) ?hh ?_); (case hh => walk_at "hp"))
  | ((with_reducible refine r_is_list_str (xs := ?xx) ?hh ?_); (case hh => walk_at "hp"))
  | ((with_reducible refine r_is_list_list (xs := ?xx) ?hh ?_); (case hh => walk_at "hp"))
  | ((with_reducible refine r_is_list_tuple (xs := ?xx) ?hh ?_); (case hh => walk_at "hp"))
  | ((with_reducible refine r_is_tuple_int (xs := ?xx) ?hh ?_); (case hh => walk_at "hp"))
  | ((with_reducible refine r_is_tuple_bool (xs := ?xx) ?hh ?_); (case hh => walk_at "hp"))
  | ((with_reducible refine r_is_tuple_str (xs := ?xx) ?hh ?_); (case hh => walk_at "hp"))
  | ((with_reducible refine r_is_tuple_list (xs := ?xx) ?hh ?_); (case hh => walk_at "hp"))
  | ((with_reducible refine r_is_tuple_tuple (xs := ?xx) ?hh ?_); (case hh => walk_at "hp"))
  | (with_reducible refine r_is_NoneType_int ?_)
  | (with_reducible refine r_is_NoneType_bool ?_)
  | (with_reducible refine r_is_NoneType_str ?_)
  | (with_reducible refine r_is_NoneType_list ?_)
  | (with_reducible refine r_is_NoneType_tuple ?_)))
local macro_rules | `(tactic| walk_at "ne") => `(tactic| first | assumption | (refine Ne.symm ?_; assumption) | exact Bag.ne (by assumption) (by assumption) | exact ne_of_none (by assumption) (by assumption))
local macro_rules | `(tactic| walk_at "hp") => `(tactic| (first
  | assumption
  | exact upd_same
  | (refine h_keep ?_ (by assumption); walk_at "hp")
  | (refine (upd_ne (by walk_at "ne")).trans ?_; walk_at "hp")
  | (refine Same.at (by assumption) ?_; walk_at "hp")
  | (refine But.at (by assumption) (by walk_at "ne") ?_; walk_at "hp")
  | (refine But2.at (by assumption) (by walk_at "ne") (by walk_at "ne") ?_; walk_at "hp")))
local macro_rules | `(tactic| walk_at "side") => `(tactic| first | assumption | omega | (refine ⟨?_, ?_⟩ <;> first | assumption | omega | decide) | decide | (refine ⟨by decide, by decide, by decide⟩) | (left; refine ⟨?_, ?_⟩ <;> first | omega | decide) | (right; refine ⟨?_, ?_⟩ <;> first | omega | decide) | (simp; done))
local macro_rules | `(tactic| walk_at "cond") => `(tactic| first | assumption | exact rfl | omega | (simp only [List.length_cons, List.length_nil]; omega) | decide +kernel)
local macro_rules | `(tactic| walk_at "s") => `(tactic| (first
  | ((with_reducible refine r_var (v := ?vv) ?ee ?_); (case ee => exact rfl))
  | (with_reducible refine r_c ?_)
  | (with_reducible refine r_op ?_)
  | (with_reducible refine r_un ?_)
  | (with_reducible refine r_rI0 ?_)
  | ((with_reducible refine r_rI ?cc ?_); (case cc => walk_at "side"))
  | (with_reducible refine r_rU ?_)
  | (with_reducible refine r_eqI ?_)
  | (with_reducible refine r_neI ?_)
  | (with_reducible refine r_eqB ?_)
  | (with_reducible refine r_neB ?_)
  | (with_reducible refine r_eqS ?_)
  | (with_reducible refine r_neS ?_)
  | ((with_reducible refine r_eq ?ee ?_); (case ee => exact rfl))
  | ((with_reducible refine r_ne ?ee ?_); (case ee => exact rfl))
  | ((with_reducible refine r_ixL (v := ?vv) (xs := ?xx) ?hh ?ee ?_); (case hh => (refine SqL.of ?_; walk_at "hp")); (case ee => exact rfl))
  | (with_reducible refine r_cb ?_)
  | (with_reducible refine r_call ?_)
  | (with_reducible refine r_cons ?_)
  | (with_reducible refine r_nil ?_)
  | (with_reducible refine r_lst ?_)
  | (with_reducible refine r_tup ?_)
  | ((with_reducible refine r_new ?cc ?_); (case cc => walk_at "side"))
  | (with_reducible refine r_exbl ?_)
  | (with_reducible refine r_exint ?_)
  | (with_reducible refine r_exint2 ?_)
  | (with_reducible refine r_exblL ?_)
  | (with_reducible refine r_ex2 ?_)
  | (with_reducible refine r_test ?_)
  | (with_reducible refine r_tB ?_)
  | (with_reducible refine r_not ?_)
  | (with_reducible refine r_and ?_)
  | (with_reducible refine r_or ?_)
  | (with_reducible refine r_andV ?_)
  | (with_reducible refine r_orV ?_)
  | (with_reducible refine r_notV ?_)
  | (with_reducible refine r_tif ?_)
  | (with_reducible refine r_iteT ?_)
  | (with_reducible refine r_iteNT ?_)
  | (with_reducible refine r_iteNF ?_)
  | (with_reducible refine r_iteF ?_)
  | (with_reducible refine r_seq ?_)
  | (with_reducible refine r_next ?_)
  | (with_reducible refine r_brk ?_)
  | (with_reducible refine r_cont ?_)
  | (with_reducible refine r_asg ?_)
  | (with_reducible refine r_gname ?_)
  | (with_reducible refine r_ret ?_)
  | (with_reducible refine r_retN ?_)
  | (with_reducible refine r_drop ?_)
  | (with_reducible refine r_if ?_)
  | ((with_reducible refine r_aug (x := ?xx) ?ee ?_); (case ee => exact rfl))
  | (with_reducible refine r_ipI ?_)
  | (with_reducible refine r_augS ?_)
  | (with_reducible refine r_gsub ?_)
  | ((with_reducible refine r_setL (xs := ?xx) (m := ?mm) ?hh ?ee ?_); (case hh => walk_at "hp"); (case ee => exact rfl))
  | (with_reducible refine r_par ?_)
  | (with_reducible refine r_bm ?_)
  | ((with_reducible refine r_tyL (xs := ?xx) ?hh ?_); (case hh => walk_at "hp"))
  | ((with_reducible refine r_append (xs := ?xx) ?hh ?ll ?_); (case hh => walk_at "hp"); (case ll => walk_at "side"))
  | (walk_at "isi")
  | (with_reducible refine r_for ?_)
  | (with_reducible refine r_iList ?_)
  | (with_reducible refine r_iTup ?_)
  | (with_reducible refine r_iR1 ?_)
  | (with_reducible refine r_iR2 ?_)
  | (with_reducible refine r_lc ?_)
  | (with_reducible refine r_yes ?_)
  | ((with_reducible refine r_lenS ?ll ?_); (case ll => walk_at "side"))
  | (with_reducible refine r_leS ?_)
  | (with_reducible refine r_chain ?_)
  | (with_reducible refine r_tM1 ?_)
  | (with_reducible refine r_exS ?_)
  | ((with_reducible refine r_tupL (xs := ?xx) ?hh ?_); (case hh => walk_at "hp"))
  | ((with_reducible refine r_listL (xs := ?xx) ?hh ?_); (case hh => walk_at "hp"))
  | ((with_reducible refine r_listT (xs := ?xx) ?hh ?_); (case hh => walk_at "hp"))
  | ((with_reducible refine r_ixT (v := ?vv) (xs := ?xx) ?hh ?ee ?_); (case hh => (refine SqT.of ?_; walk_at "hp")); (case ee => exact rfl))
  | (with_reducible refine r_sl ?_)
  | (with_reducible refine r_nopart ?_)
  | (with_reducible refine r_part ?_)
  | (with_reducible refine r_exI ?_)
  | ((with_reducible refine r_slL (xs := ?xx) ?hh ?_); (case hh => first | assumption | (refine SqL.of ?_; walk_at "hp") | (refine Same.seq (by assumption) (by assumption))))
  | ((with_reducible refine r_cat (xs := ?xx) (zs := ?zz) ?hh ?ii ?ll ?_); (case hh => walk_at "hp"); (case ii => walk_at "hp"); (case ll => walk_at "side"))
  | ((with_reducible refine r_lenL (xs := ?xx) ?hh ?_); (case hh => walk_at "hp"))
  | ((with_reducible refine r_lenT (xs := ?xx) ?hh ?_); (case hh => walk_at "hp"))
  | ((with_reducible refine r_gTup (xs := ?xx) ?hh ?ll ?_); (case hh => walk_at "hp"); (case ll => exact rfl))
  | (with_reducible refine r_gCons ?_)
  | (with_reducible refine r_gNil ?_)
  | ((with_reducible refine r_iteDT ?cc ?_); (case cc => walk_at "cond"))
  | ((with_reducible refine r_iteDF ?cc ?_); (case cc => walk_at "cond"))
  | ((with_reducible refine r_iteNDT ?cc ?_); (case cc => walk_at "cond"))
  | ((with_reducible refine r_iteNDF ?cc ?_); (case cc => walk_at "cond"))
  ))
local macro_rules | `(tactic| walk_at "go") => `(tactic| repeat (walk_at "s"))

def spIsInt : Sp := fun vs H Q _ => ∃ n : Int, vs = [.int n] ∧ Q (.bl true) H
theorem ok_is_integer {f : Addr} {fd : FuncData} (F : Fun K "is_integer" "is_integer" s_is_integer f fd) (B : Bl mg) : FnOk P w K mg base CX0 1 f fd ["value"] spIsInt := by
  refine F.ok sc_is_integer (fun vs H Q E h => ?_) (fun cdv A outer s H vs Q E hr h => ?_)
  · obtain ⟨c, rfl, _⟩ := h
    rfl
  · obtain ⟨c, rfl, k⟩ := h
    refine ⟨_, (pss_one (ps_ret (pe_and (pe_callB (call_isiKK (K := K)) (by rfl) B.b_isinstance (by decide +kernel) (pa_cons (pv 0) (pa_cons (pe_bltn (v := .ty "int") (by rfl) B.b_int (by decide +kernel) rfl) pa_nil))) (pe_one (pe_not (pe_callB (call_isiKK (K := K)) (by rfl) B.b_isinstance (by decide +kernel) (pa_cons (pv 0) (pa_cons (pe_bltn (v := .ty "bool") (by rfl) B.b_bool (by decide +kernel) rfl) pa_nil)))))))), ?_⟩
    walk_at "go"
    exact k
def spIsName : Sp := fun vs H Q _ => ∃ n : Str, vs = [.str n] ∧ IsName n ∧ Q (.bl true) H
theorem ok_is_name {f : Addr} {fd : FuncData} (F : Fun K "is_name" "is_name" s_is_name f fd) (B : Bl mg) : FnOk P w K mg base CX0 1 f fd ["value"] spIsName := by
  refine F.ok sc_is_name (fun vs H Q E h => ?_) (fun cdv A outer s H vs Q E hr h => ?_)
  · obtain ⟨c, rfl, _⟩ := h
    rfl
  · obtain ⟨c, rfl, hn, k⟩ := h
    have h1 := name_len hn
    have h2 := letter_a hn
    have h3 := letter_z hn
    refine ⟨_, (pss_one (ps_ret (pe_and (pe_callB (call_isiKK (K := K)) (by rfl) B.b_isinstance (by decide +kernel) (pa_cons (pv 0) (pa_cons (pe_bltn (v := .ty "str") (by rfl) B.b_str (by decide +kernel) rfl) pa_nil))) (pe_and (pe_cmpR op_eq (pe_callB call_lenS (by rfl) B.b_len PySem.boot_len (pa_cons (pv 0) pa_nil)) pe_int (nomark _)) (pe_one (pe_chain op_leS op_leS pe_str (pv 0) pe_str)))))), ?_⟩
    walk_at "go"
    show Q (V.bl !decide _) H
    rw [decide_eq_false h3]
    exact k
def spIsCmd (d : Nat) : Sp := fun vs H Q _ => ∃ x r r', vs = [x] ∧ First H r x r' ∧ Wf BC BC d r ∧ ∀ H', Same H H' → Q (.bl true) H'
def spIsPr (d : Nat) : Sp := fun vs H Q _ => ∃ a p, vs = [.ref a] ∧ PrIs H a p ∧ Wf BC BC d p ∧ 1 ≤ p.len ∧ p.len ≤ 4000 ∧ ∀ H', Same H H' → Q (.bl true) H'
def spIsPrLt : Nat → Sp
  | 0 => fun _ _ _ _ => False
  | d + 1 => spIsPr d
theorem first_wf {H : Hp} {C T : Int} {d : Nat} {r r' : Prog} {x : V} (h : First H r x r') (w : Wf C T d r) : Wf C T d r' := by
  cases r with
  | nil => exact h.elim
  | step w' n r => obtain ⟨c, rfl, h1, rfl⟩ := h; exact (WfL.step_iff.mp w).2.2
  | turn k r => obtain ⟨c, rfl, h1, rfl⟩ := h; exact (WfL.turn_iff.mp w).2
  | rep k b r =>
    obtain ⟨c, q, rfl, h1, h2, rfl⟩ := h
    cases d with
    | zero => exact w.elim
    | succ d => exact w.2.2.2
  | mir b r =>
    obtain ⟨c, q, rfl, h1, h2, rfl⟩ := h
    cases d with
    | zero => exact w.elim
    | succ d => exact w.2.2
theorem ok_is_command {f : Addr} {fd : FuncData} (d : Nat) (F : Fun K "is_command" "is_command" s_is_command f fd) (B : Bl mg) (S : StepsAt K w mg) (h_is_integer : Has P w K mg base "is_integer" 1 ["value"] spIsInt) (h_is_name : Has P w K mg base "is_name" 1 ["value"] spIsName)
   (h_is_program : Has P w K mg base "is_program" (2 * d + 1) ["value"] (spIsPrLt d)) : FnOk P w K mg base CX0 (2 * d + 2) f fd ["value"] (spIsCmd d) := by
  obtain ⟨sd, es, sn, DK, gS, nS⟩ := S.ex
  refine F.ok sc_is_command (fun vs H Q E h => ?_) (fun cdv A outer s H vs Q E hr h => ?_)
  · obtain ⟨x, r, r', rfl, _⟩ := h
    rfl
  · obtain ⟨x, r, r', rfl, hf, hw, k⟩ := h
    refine ⟨_, (pss_cons (ps_if (PW.pt (pw_or (pt_not (pt_val (pe_callB (call_isiKK (K := K)) (by rfl) B.b_isinstance (by decide +kernel) (pa_cons (pv 0) (pa_cons (pe_bltn (v := .ty "tuple") (by rfl) B.b_tuple (by decide +kernel) rfl) pa_nil))))) (pw_or (pt_cmpR op_lt (pe_callB (call_lenK (K := K)) (by rfl) B.b_len PySem.boot_len (pa_cons (pv 0) pa_nil)) pe_int (nomark _)) (pw_or1 (pt_not (pt_val (pe_callB (call_isiKK (K := K)) (by rfl) B.b_isinstance (by decide +kernel) (pa_cons (pe_ix (ix_tupK (K := K)) (pv 0) pe_int (fun _ _ => rfl)) (pa_cons (pe_bltn (v := .ty "str") (by rfl) B.b_str (by decide +kernel) rfl) pa_nil)))))))))
    (pss_one (ps_ret pe_bl))
    pss_nil)
    (pss_cons (ps_set (i := 1) sc_is_command.nd rfl (.inl rfl) (pe_ix (ix_tupK (K := K)) (pv 0) pe_int (fun _ _ => rfl)))
    (pss_cons (ps_if (pt_cmpR op_eq (pv 1) pe_str (nomark _))
    (pss_one (ps_ret (pe_and (pe_cmpR op_eq (pe_callB (call_lenK (K := K)) (by rfl) B.b_len PySem.boot_len (pa_cons (pv 0) pa_nil)) pe_int (nomark _)) (pe_and (pe_callH h_is_integer (hr.mono (by first | decide | omega)) (pa_cons (pe_ix (ix_tupK (K := K)) (pv 0) pe_int (fun _ _ => rfl)) pa_nil)) (pe_and (pe_cmpR op_ge (pe_ix (ix_tupK (K := K)) (pv 0) pe_int (fun _ _ => rfl)) pe_int (nomark _)) (pe_one (pe_callH h_is_program (hr.mono (by first | decide | omega)) (pa_cons (pe_ix (ix_tupK (K := K)) (pv 0) pe_int (fun _ _ => rfl)) pa_nil))))))))
    pss_nil)
    (pss_cons (ps_if (pt_cmpR op_ne (pe_callB (call_lenK (K := K)) (by rfl) B.b_len PySem.boot_len (pa_cons (pv 0) pa_nil)) pe_int (nomark _))
    (pss_one (ps_ret pe_bl))
    pss_nil)
    (pss_cons (ps_if (pt_cmpR op_eq (pv 1) pe_str (nomark _))
    (pss_one (ps_ret (pe_callH h_is_integer (hr.mono (by first | decide | omega)) (pa_cons (pe_ix (ix_tupK (K := K)) (pv 0) pe_int (fun _ _ => rfl)) pa_nil))))
    pss_nil)
    (pss_cons (ps_if (pt_cmpR op_eq (pv 1) pe_str (nomark _))
    (pss_one (ps_ret (pe_callH h_is_program (hr.mono (by first | decide | omega)) (pa_cons (pe_ix (ix_tupK (K := K)) (pv 0) pe_int (fun _ _ => rfl)) pa_nil))))
    pss_nil)
    (pss_one (ps_ret (pe_and (pe_cmpR (op_in_kd DK) (pv 1) (pe_glob (v := .ref sd) rfl gS rfl) (by rfl)) (pe_one (pe_callH h_is_name (hr.mono (by first | decide | omega)) (pa_cons (pe_ix (ix_tupK (K := K)) (pv 0) pe_int (fun _ _ => rfl)) pa_nil)))))))))))), ?_⟩
    cases r with
    | nil => exact hf.elim
    | step w' n r =>
      obtain ⟨c, rfl, h1, rfl⟩ := hf
      obtain ⟨w1, w2, w3⟩ := WfL.step_iff.mp hw
      obtain ⟨n1, n2, n3⟩ := word_ne w1
      walk_at "go"
      obtain ⟨v, hv⟩ := nS _ w1
      refine ⟨w', some v, rfl, rfl, hv, ?_⟩
      walk_at "go"
      refine ⟨_, rfl, ?_⟩
      walk_at "go"
      refine ⟨n, rfl, w2, ?_⟩
      exact k _ (Same.refl _)
    | turn k' r =>
      obtain ⟨c, rfl, h1, rfl⟩ := hf
      walk_at "go"
      refine ⟨k', rfl, ?_⟩
      exact k _ (Same.refl _)
    | rep k' b r =>
      obtain ⟨c, q, rfl, h1, h2, rfl⟩ := hf
      cases d with
      | zero => exact hw.elim
      | succ d =>
        obtain ⟨w1, w2, w3, w4⟩ := hw
        walk_at "go"
        refine ⟨k', rfl, ?_⟩
        walk_at "go"
        exact ⟨q, b, rfl, h2, w3, w2.1, w2.2, k⟩
    | mir b r =>
      obtain ⟨c, q, rfl, h1, h2, rfl⟩ := hf
      cases d with
      | zero => exact hw.elim
      | succ d =>
        obtain ⟨w2, w3, w4⟩ := hw
        walk_at "go"
        exact ⟨q, b, rfl, h2, w3, w2.1, w2.2, k⟩
theorem ok_is_program {f : Addr} {fd : FuncData} (d : Nat) (F : Fun K "is_program" "is_program" s_is_program f fd) (B : Bl mg) (h_is_command : Has P w K mg base "is_command" (2 * d + 2) ["value"] (spIsCmd d)) : FnOk P w K mg base CX0 (2 * d + 3) f fd ["value"] (spIsPr d) := by
  refine F.ok sc_is_program (fun vs H Q E h => ?_) (fun cdv A outer s H vs Q E hr h => ?_)
  · obtain ⟨a, p, rfl, _⟩ := h
    rfl
  · obtain ⟨a, p, rfl, ⟨xs, hx, hp⟩, hw, l1, l2, k⟩ := h
    have hl := hp.length
    refine ⟨_, (pss_one (ps_ret (pe_and (pe_callB (call_isiKK (K := K)) (by rfl) B.b_isinstance (by decide +kernel) (pa_cons (pv 0) (pa_cons (pe_bltn (v := .ty "tuple") (by rfl) B.b_tuple (by decide +kernel) rfl) pa_nil))) (pe_and (pe_cmpR op_gt (pe_callB (call_lenK (K := K)) (by rfl) B.b_len PySem.boot_len (pa_cons (pv 0) pa_nil)) pe_int (nomark _)) (pe_one (pe_callB (call_allK (K := K)) (by rfl) B.b_all (by decide +kernel) (pa_cons (pe_lc (own := [("command", 1)]) rfl sc_is_program.nd (pi_tup (pv 0)) (blkOk_by (N := ["value", "command"]) (sc := defScope s_is_program) (by decide +kernel)) (fun _ _ _ _ _ => (pg_name (i := 1) sc_is_program.nd rfl (.inl rfl))) (fun _ _ _ _ _ => pts_nil) (fun _ _ _ _ _ => (pe_callH h_is_command (hr.mono (by first | decide | omega)) (pa_cons (pv 1) pa_nil)))) pa_nil))))))), ?_⟩
    walk_at "go"
    refine u_lcPr hx hp (fun D r acc H' => (acc = (List.replicate acc.length true).map V.bl ∧ acc.length + r.len = p.len) ∧ Same H H' ∧ Wf BC BC d r) ?_ ?_ ?_ ?_
    · exact fun D hD => ⟨⟨rfl, by simp⟩, Same.new0 hD, hw⟩
    · rintro D r acc H' hD ⟨_, sm, _⟩
      exact Tk.same sm
    · rintro D x r r' acc H' hD hf hacc ⟨⟨ha, hn⟩, sm, hw'⟩
      have hlen : r.len = r'.len + 1 := by
        cases r with
        | nil => exact hf.elim
        | step w' n r => obtain ⟨c, rfl, h1, rfl⟩ := hf; rfl
        | turn k r => obtain ⟨c, rfl, h1, rfl⟩ := hf; rfl
        | rep k b r => obtain ⟨c, q, rfl, h1, h2, rfl⟩ := hf; rfl
        | mir b r => obtain ⟨c, q, rfl, h1, h2, rfl⟩ := hf; rfl
      walk_at "go"
      refine ⟨rfl, ?_⟩
      walk_at "go"
      refine ⟨x, r, r', rfl, hf, hw', fun H2 s2 => ?_⟩
      refine u_push (s2 _ _ hacc) (by omega) ⟨⟨?_, ?_⟩, Same.put (sm.trans s2) hD, first_wf hf hw'⟩
      · rw [List.length_append, List.length_singleton, List.replicate_succ', List.map_append, ← ha]
        rfl
      · rw [List.length_append, List.length_singleton]
        omega
    · rintro D acc H' hD hacc ⟨⟨ha, hn⟩, sm, _⟩
      walk_at "go"
      rw [ha] at hacc
      refine r_all (SqL.of hacc) ?_
      rw [show ((List.replicate acc.length true).all id) = true by simp]
      exact k _ sm
theorem has_false {x : Str} {k : Nat} {f : Addr} {fd : FuncData} {ps : List Str} (g : mg x = some (.ref f)) (kp : PySem.W.keepIn K (.ref f) = true) (b : Binds K fd ps []) : Has P w K mg base x k ps (fun _ _ _ _ => False) :=
  ⟨f, fd, ⟨fun _ _ _ _ h => h.elim, fun _ _ _ _ _ _ _ _ _ _ _ _ _ h => h.elim⟩, g, kp, b⟩
theorem has_pr {fc fp : Addr} {fdc fdp : FuncData} (Fc : Fun K "is_command" "is_command" s_is_command fc fdc) (Fp : Fun K "is_program" "is_program" s_is_program fp fdp) (B : Bl mg) (S : StepsAt K w mg) (h_is_integer : Has P w K mg base "is_integer" 1 ["value"] spIsInt) (h_is_name : Has P w K mg base "is_name" 1 ["value"] spIsName)
   (gc : mg "is_command" = some (.ref fc)) (gp : mg "is_program" = some (.ref fp)) (bc : Binds K fdc ["value"] []) (bp : Binds K fdp ["value"] []) : ∀ d, Has P w K mg base "is_program" (2 * d + 1) ["value"] (spIsPrLt d)
  | 0 => has_false gp Fp.kp bp
  | d + 1 => ⟨fp, fdp, ok_is_program d Fp B ⟨fc, fdc, ok_is_command d Fc B S h_is_integer h_is_name (has_pr Fc Fp B S h_is_integer h_is_name gc gp bc bp d), gc, Fc.kp, bc⟩, gp, Fp.kp, bp⟩
/-- a program as the package's functions want it -/
def Good (H : Hp) (a : Addr) (p : Prog) : Prop := PrIs H a p ∧ Wf BC BC 12 p ∧ 1 ≤ p.len ∧ p.len ≤ 4000
def spCheckPr : Sp := fun vs H Q _ => ∃ a p, vs = [.ref a] ∧ Good H a p ∧ ∀ H', Same H H' → Q .non H'
theorem ok_check_program {f : Addr} {fd : FuncData} (F : Fun K "check_program" "check_program" s_check_program f fd) (h_is_program : Has P w K mg base "is_program" 27 ["value"] (spIsPr 12)) : FnOk P w K mg base CX0 28 f fd ["value"] spCheckPr := by
  refine F.ok sc_check_program (fun vs H Q E h => ?_) (fun cdv A outer s H vs Q E hr h => ?_)
  · obtain ⟨c, p, rfl, _⟩ := h
    rfl
  · obtain ⟨c, p, rfl, hg, k⟩ := h
    refine ⟨_, (pss_one (ps_if (pt_not (pt_val (pe_callH h_is_program (hr.mono (by first | decide | omega)) (pa_cons (pv 0) pa_nil))))
    (pss_one ps_never)
    pss_nil)), ?_⟩
    walk_at "go"
    refine ⟨c, p, rfl, hg.1, hg.2.1, hg.2.2.1, hg.2.2.2, fun H' s' => ?_⟩
    walk_at "go"
    exact k _ s'
def spNumLt (g : Prog → Int) : Nat → Sp
  | 0 => fun _ _ _ _ => False
  | d + 1 => fun vs H Q _ => ∃ a p, vs = [.ref a] ∧ PrIs H a p ∧ Wf BC BC d p ∧ p.len ≤ 4000 ∧ d ≤ 20 ∧ Q (.int (g p)) H
theorem ok_raw_size {f : Addr} {fd : FuncData} (d : Nat) (F : Fun K "raw_size" "raw_size" s_raw_size f fd) (h_raw_size : Has P w K mg base "raw_size" d ["program"] (spNumLt Prog.size d)) : FnOk P w K mg base CX0 (d + 1) f fd ["program"] (spNumLt Prog.size (d + 1)) := by
  refine F.ok sc_raw_size (fun vs H Q E h => ?_) (fun cdv A outer s H vs Q E hr h => ?_)
  · obtain ⟨a, p, rfl, _⟩ := h
    rfl
  · obtain ⟨a, p, rfl, ⟨xs, hx, hp⟩, hw, l2, d2, k⟩ := h
    refine ⟨_, (pss_cons (ps_set (i := 1) sc_raw_size.nd rfl (.inl rfl) pe_int)
    (pss_cons (ps_for PassesOwn.never rfl (pi_tup (pv 0)) (pg_name (i := 2) sc_raw_size.nd rfl (.inl rfl))
    (pss_one (ps_if (pt_cmpR op_eq (pe_ix (ix_tupK (K := K)) (pv 2) pe_int (fun _ _ => rfl)) pe_str (nomark _))
    (pss_one (ps_aug (i := 1) sc_raw_size.nd rfl (.inl rfl) (pe_op op_mulW (pe_ix (ix_tupK (K := K)) (pv 2) pe_int (fun _ _ => rfl)) (pe_callH h_raw_size (hr.mono (by first | decide | omega)) (pa_cons (pe_ix (ix_tupK (K := K)) (pv 2) pe_int (fun _ _ => rfl)) pa_nil))) ip_add))
    (pss_one (ps_if (pt_cmpR op_eq (pe_ix (ix_tupK (K := K)) (pv 2) pe_int (fun _ _ => rfl)) pe_str (nomark _))
    (pss_one (ps_aug (i := 1) sc_raw_size.nd rfl (.inl rfl) (pe_callH h_raw_size (hr.mono (by first | decide | omega)) (pa_cons (pe_ix (ix_tupK (K := K)) (pv 2) pe_int (fun _ _ => rfl)) pa_nil)) ip_add))
    (pss_one (ps_aug (i := 1) sc_raw_size.nd rfl (.inl rfl) pe_int ip_add)))))))
    (pss_one (ps_ret (pv 1))))), ?_⟩
    walk_at "go"
    refine u_forPr hx hp (fun r σ H' => ∃ (t : Int) (y : Option V), σ = [some (.ref a), some (.int t), y] ∧ H' = H ∧ Wf BC BC d r ∧ t + r.size = p.size) ?_ ?_ ?_ ?_
    · exact ⟨0, none, rfl, rfl, hw, by omega⟩
    · rintro r σ H' ⟨t, y, rfl, rfl, _⟩
      exact Tk.refl _
    · rintro x r r' σ H' hf ⟨t, y, rfl, rfl, hw', e⟩
      cases r with
      | nil => exact hf.elim
      | step w' n r =>
        obtain ⟨c, rfl, h1, rfl⟩ := hf
        obtain ⟨w1, w2, w3⟩ := WfL.step_iff.mp hw'
        obtain ⟨n1, n2, n3⟩ := word_ne w1
        walk_at "go"
        exact ⟨_, _, rfl, rfl, w3, by rw [← e, Prog.size]; omega⟩
      | turn k' r =>
        obtain ⟨c, rfl, h1, rfl⟩ := hf
        walk_at "go"
        exact ⟨_, _, rfl, rfl, (WfL.turn_iff.mp hw').2, by rw [← e, Prog.size]; omega⟩
      | rep k' b r =>
        obtain ⟨c, q, rfl, h1, h2, rfl⟩ := hf
        cases d with
        | zero => exact hw'.elim
        | succ d =>
          obtain ⟨w1, w2, w3, w4⟩ := hw'
          have mw : CMulW k' b.size := mulW_of (count_bits (by have := BC_one; omega) w1.2) (size_bits w3 (by omega) w2.2)
          walk_at "go"
          refine ⟨q, b, rfl, h2, w3, w2.2, by omega, ?_⟩
          walk_at "go"
          exact ⟨_, _, rfl, rfl, w4, by rw [← e, Prog.size]; omega⟩
      | mir b r =>
        obtain ⟨c, q, rfl, h1, h2, rfl⟩ := hf
        cases d with
        | zero => exact hw'.elim
        | succ d =>
          obtain ⟨w2, w3, w4⟩ := hw'
          walk_at "go"
          refine ⟨q, b, rfl, h2, w3, w2.2, by omega, ?_⟩
          walk_at "go"
          exact ⟨_, _, rfl, rfl, w4, by rw [← e, Prog.size]; omega⟩
    · rintro σ H' ⟨t, y, rfl, rfl, _, e⟩
      walk_at "go"
      rw [Prog.size, Int.add_zero] at e
      rw [e]
      exact k
theorem has_size {f : Addr} {fd : FuncData} (F : Fun K "raw_size" "raw_size" s_raw_size f fd) (g : mg "raw_size" = some (.ref f)) (b : Binds K fd ["program"] []) : ∀ d, Has P w K mg base "raw_size" d ["program"] (spNumLt Prog.size d)
  | 0 => has_false g F.kp b
  | d + 1 => ⟨f, fd, ok_raw_size d F (has_size F g b d), g, F.kp, b⟩
def spNum (g : Prog → Int) : Sp := fun vs H Q _ => ∃ a p, vs = [.ref a] ∧ Good H a p ∧ ∀ H', Same H H' → Q (.int (g p)) H'
end
end My

set_option Elab.async false
set_option linter.all false
set_option maxRecDepth 100000
set_option maxHeartbeats 4000000

namespace My
open PySem PySem.Spec PyProof.Rows L2
section
variable {P : Program} {w : World} {K : PySem.W.Frag} {mg : Str → Option Value} {base : Heap}
local macro_rules | `(tactic| walk_at "isi") => `(tactic| (first
  | (with_reducible refine r_is_int_int ?_)
  | (with_reducible refine r_is_int_bool ?_)
  | (with_reducible refine r_is_int_str ?_)
  | (with_reducible refine r_is_int_list ?_)
  | (with_reducible refine r_is_int_tuple ?_)
  | (with_reducible refine r_is_bool_int ?_)
  | (with_reducible refine r_is_bool_bool ?_)
  | (with_reducible refine r_is_bool_str ?_)
  | (with_reducible refine r_is_bool_list ?_)
  | (with_reducible refine r_is_bool_tuple ?_)
  | (with_reducible refine r_is_str_int ?_)
  | (with_reducible refine r_is_str_bool ?_)
  | (with_reducible refine r_is_str_str ?_)
  | (with_reducible refine r_is_str_list ?_)
  | (with_reducible refine r_is_str_tuple ?_)
  | ((with_reducible refine r_is_list_int (xs := ?xx) ?hh ?_); (case hh => walk_at "hp"))
  | ((with_reducible refine r_is_list_bool (xs := ?xx) ?hh ?_); (case hh => walk_at "hp"))
  | ((with_reducible refine r_is_list_str (xs := ?xx) ?hh ?_); (case hh => walk_at "hp"))
  | ((with_reducible refine r_is_list_list (xs := ?xx) ?hh ?_); (case hh => walk_at "hp"))
  | ((with_reducible refine r_is_list_tuple (xs := ?xx) ?hh ?_); (case hh => walk_at "hp"))
  | ((with_reducible refine r_is_tuple_int (xs := ?xx) ?hh ?_); (case hh => walk_at "hp"))
  | ((with_reducible refine r_is_tuple_bool (xs := ?xx) ?hh ?_); (case hh => walk_at "hp"))
  | ((with_reducible refine r_is_tuple_str (xs := ?xx) ?hh ?_); (case hh => walk_at "hp"))
  | ((with_reducible refine r_is_tuple_list (xs := ?xx) ?hh ?_); (case hh => walk_at "hp"))
  | ((with_reducible refine r_is_tuple_tuple (xs := ?xx) ?hh ?_); (case hh => walk_at "hp"))
  | (with_reducible refine r_is_NoneType_int ?_)
  | (with_reducible refine r_is_NoneType_bool ?_)
  | (with_reducible refine r_is_NoneType_str ?_)
  | (with_reducible refine r_is_NoneType_list ?_)
  | (with_reducible refine r_is_NoneType_tuple ?_)))
local macro_rules | `(tactic| walk_at "ne") => `(tactic| first | assumption | (refine Ne.symm ?_; assumption) | exact Bag.ne (by assumption) (by assumption) | exact ne_of_none (by assumption) (by assumption))
local macro_rules | `(tactic| walk_at "hp") => `(tactic| (first
  | assumption
  | exact upd_same
  | (refine h_keep ?_ (by assumption); walk_at "hp")
  | (refine (upd_ne (by walk_at "ne")).trans ?_; walk_at "hp")
  | (refine Same.at (by assumption) ?_; walk_at "hp")
  | (refine But.at (by assumption) (by walk_at "ne") ?_; walk_at "hp")
  | (refine But2.at (by assumption) (by walk_at "ne") (by walk_at "ne") ?_; walk_at "hp")))
local macro_rules | `(tactic| walk_at "side") => `(tactic| first | assumption | omega | (refine ⟨?_, ?_⟩ <;> first | assumption | omega | decide) | decide | (refine ⟨by decide, by decide, by decide⟩) | (left; refine ⟨?_, ?_⟩ <;> first | omega | decide) | (right; refine ⟨?_, ?_⟩ <;> first | omega | decide) | (simp; done))
local macro_rules | `(tactic| walk_at "cond") => `(tactic| first | assumption | exact rfl | omega | (simp only [List.length_cons, List.length_nil]; omega) | decide +kernel)
local macro_rules | `(tactic| walk_at "s") => `(tactic| (first
  | ((with_reducible refine r_var (v := ?vv) ?ee ?_); (case ee => exact rfl))
  | (with_reducible refine r_c ?_)
  | (with_reducible refine r_op ?_)
  | (with_reducible refine r_un ?_)
  | (with_reducible refine r_rI0 ?_)
  | ((with_reducible refine r_rI ?cc ?_); (case cc => walk_at "side"))
  | (with_reducible refine r_rU ?_)
  | (with_reducible refine r_eqI ?_)
  | (with_reducible refine r_neI ?_)
  | (with_reducible refine r_eqB ?_)
  | (with_reducible refine r_neB ?_)
  | (with_reducible refine r_eqS ?_)
  | (with_reducible refine r_neS ?_)
  | ((with_reducible refine r_eq ?ee ?_); (case ee => exact rfl))
  | ((with_reducible refine r_ne ?ee ?_); (case ee => exact rfl))
  | ((with_reducible refine r_ixL (v := ?vv) (xs := ?xx) ?hh ?ee ?_); (case hh => (refine SqL.of ?_; walk_at "hp")); (case ee => exact rfl))
  | (with_reducible refine r_cb ?_)
  | (with_reducible refine r_call ?_)
  | (with_reducible refine r_cons ?_)
  | (with_reducible refine r_nil ?_)
  | (with_reducible refine r_lst ?_)
  | (with_reducible refine r_tup ?_)
  | ((with_reducible refine r_new ?cc ?_); (case cc => walk_at "side"))
  | (with_reducible refine r_exbl ?_)
  | (with_reducible refine r_exint ?_)
  | (with_reducible refine r_exint2 ?_)
  | (with_reducible refine r_exblL ?_)
  | (with_reducible refine r_ex2 ?_)
  | (with_reducible refine r_test ?_)
  | (with_reducible refine r_tB ?_)
  | (with_reducible refine r_not ?_)
  | (with_reducible refine r_and ?_)
  | (with_reducible refine r_or ?_)
  | (with_reducible refine r_andV ?_)
  | (with_reducible refine r_orV ?_)
  | (with_reducible refine r_notV ?_)
  | (with_reducible refine r_tif ?_)
  | (with_reducible refine r_iteT ?_)
  | (with_reducible refine r_iteNT ?_)
  | (with_reducible refine r_iteNF ?_)
  | (with_reducible refine r_iteF ?_)
  | (with_reducible refine r_seq ?_)
  | (with_reducible refine r_next ?_)
  | (with_reducible refine r_brk ?_)
  | (with_reducible refine r_cont ?_)
  | (with_reducible refine r_asg ?_)
  | (with_reducible refine r_gname ?_)
  | (with_reducible refine r_ret ?_)
  | (with_reducible refine r_retN ?_)
  | (with_reducible refine r_drop ?_)
  | (with_reducible refine r_if ?_)
  | ((with_reducible refine r_aug (x := ?xx) ?ee ?_); (case ee => exact rfl))
  | (with_reducible refine r_ipI ?_)
  | (with_reducible refine r_augS ?_)
  | (with_reducible refine r_gsub ?_)
  | ((with_reducible refine r_setL (xs := ?xx) (m := ?mm) ?hh ?ee ?_); (case hh => walk_at "hp"); (case ee => exact rfl))
  | (with_reducible refine r_par ?_)
  | (with_reducible refine r_bm ?_)
  | ((with_reducible refine r_tyL (xs := ?xx) ?hh ?_); (case hh => walk_at "hp"))
  | ((with_reducible refine r_append (xs := ?xx) ?hh ?ll ?_); (case hh => walk_at "hp"); (case ll => walk_at "side"))
  | (walk_at "isi")
  | (with_reducible refine r_for ?_)
  | (with_reducible refine r_iList ?_)
  | (with_reducible refine r_iTup ?_)
  | (with_reducible refine r_iR1 ?_)
  | (with_reducible refine r_iR2 ?_)
  | (with_reducible refine r_lc ?_)
  | (with_reducible refine r_yes ?_)
  | ((with_reducible refine r_lenS ?ll ?_); (case ll => walk_at "side"))
  | (with_reducible refine r_leS ?_)
  | (with_reducible refine r_chain ?_)
  | (with_reducible refine r_tM1 ?_)
  | (with_reducible refine r_exS ?_)
  | ((with_reducible refine r_tupL (xs := ?xx) ?hh ?_); (case hh => walk_at "hp"))
  | ((with_reducible refine r_listL (xs := ?xx) ?hh ?_); (case hh => walk_at "hp"))
  | ((with_reducible refine r_listT (xs := ?xx) ?hh ?_); (case hh => walk_at "hp"))
  | ((with_reducible refine r_ixT (v := ?vv) (xs := ?xx) ?hh ?ee ?_); (case hh => (refine SqT.of ?_; walk_at "hp")); (case ee => exact rfl))
  | (with_reducible refine r_sl ?_)
  | (with_reducible refine r_nopart ?_)
  | (with_reducible refine r_part ?_)
  | (with_reducible refine r_exI ?_)
  | ((with_reducible refine r_slL (xs := ?xx) ?hh ?_); (case hh => first | assumption | (refine SqL.of ?_; walk_at "hp") | (refine Same.seq (by assumption) (by assumption))))
  | ((with_reducible refine r_cat (xs := ?xx) (zs := ?zz) ?hh ?ii ?ll ?_); (case hh => walk_at "hp"); (case ii => walk_at "hp"); (case ll => walk_at "side"))
  | ((with_reducible refine r_lenL (xs := ?xx) ?hh ?_); (case hh => walk_at "hp"))
  | ((with_reducible refine r_lenT (xs := ?xx) ?hh ?_); (case hh => walk_at "hp"))
  | ((with_reducible refine r_gTup (xs := ?xx) ?hh ?ll ?_); (case hh => walk_at "hp"); (case ll => exact rfl))
  | (with_reducible refine r_gCons ?_)
  | (with_reducible refine r_gNil ?_)
  | ((with_reducible refine r_iteDT ?cc ?_); (case cc => walk_at "cond"))
  | ((with_reducible refine r_iteDF ?cc ?_); (case cc => walk_at "cond"))
  | ((with_reducible refine r_iteNDT ?cc ?_); (case cc => walk_at "cond"))
  | ((with_reducible refine r_iteNDF ?cc ?_); (case cc => walk_at "cond"))
  ))
local macro_rules | `(tactic| walk_at "go") => `(tactic| repeat (walk_at "s"))

def spPieceLt : Nat → Sp
  | 0 => fun _ _ _ _ => False
  | d + 1 => fun vs H Q _ => ∃ (a o : Addr) (n : Int) (z : Str) (fr : Int) (b : Bool), vs = [.ref a, .ref o, .int (d : Int), .int fr, .bl b] ∧ Bag H a ∧ H o = some (.lst [.int n, .str z]) ∧ Names z ∧
    ∀ q p H', H q = none → But2 a o H H' → Bag H' a → (∃ n' : Int, H' o = some (.lst [.int n', .str z])) → Tk H H' → PrIs H' q p → WfL 5 (CB b) (TB b) d p → 1 ≤ p.len → p.len ≤ 5 → p.size ≤ p.len * (5 * CB b) ^ d → Q (.ref q) H'
theorem word_at {n : Int} (h0 : 0 ≤ n) (h1 : n < 4) : ∃ x : Str, atI [V.str "go", V.str "back", V.str "hop", V.str "slip"] n = some (.str x) ∧ IsWord x := by
  rcases (by omega : n = 0 ∨ n = 1 ∨ n = 2 ∨ n = 3) with rfl | rfl | rfl | rfl
  · exact ⟨_, rfl, .inl rfl⟩
  · exact ⟨_, rfl, .inr (.inl rfl)⟩
  · exact ⟨_, rfl, .inr (.inr (.inl rfl))⟩
  · exact ⟨_, rfl, .inr (.inr (.inr rfl))⟩
/-- what holds between the turns of the loop that makes a piece -/
structure PcInv (H : Hp) (a o m : Addr) (d : Nat) (b : Bool) (z : Str) (p : Prog) (H' : Hp) : Prop where
  bu : But2 a o H H'
  bg : Bag H' a
  pot : ∃ n' : Int, H' o = some (.lst [.int n', .str z])
  tk : Tk H H'
  lst : ∃ xs, H' m = some (.lst xs) ∧ PrAt H' p xs
  wf : WfL 5 (CB b) (TB b) d p
  sz : p.size ≤ p.len * (5 * CB b) ^ d
section
variable {H H' H'' : Hp} {a o m : Addr} {d : Nat} {b : Bool} {z : Str} {p : Prog}
theorem PcInv.pick (h : PcInv H a o m d b z p H') (noa : o ≠ a) (nma : m ≠ a) (bu : But a H' H'') (bg : Bag H'' a) : PcInv H a o m d b z p H'' := by
  obtain ⟨n', ho⟩ := h.pot
  obtain ⟨xs, hm, hp⟩ := h.lst
  exact ⟨h.bu.trans (.of bu), bg, ⟨n', bu _ _ noa ho⟩, h.tk.trans (Tk.but bu h.bg), ⟨xs, bu _ _ nma hm, hp.tk (Tk.but bu h.bg)⟩, h.wf, h.sz⟩
theorem PcInv.call (h : PcInv H a o m d b z p H') (nma : m ≠ a) (nmo : m ≠ o) (bu : But2 a o H' H'') (bg : Bag H'' a) (pot : ∃ n' : Int, H'' o = some (.lst [.int n', .str z])) (tk : Tk H' H'') : PcInv H a o m d b z p H'' := by
  obtain ⟨xs, hm, hp⟩ := h.lst
  exact ⟨h.bu.trans bu, bg, pot, h.tk.trans tk, ⟨xs, bu _ _ nma nmo hm, hp.tk tk⟩, h.wf, h.sz⟩
theorem PcInv.less (h : PcInv H a o m d b z p H') (noa : o ≠ a) (nmo : m ≠ o) (n : Int) : PcInv H a o m d b z p (upd H' o (.lst [.int n, .str z])) := by
  obtain ⟨n', ho⟩ := h.pot
  obtain ⟨xs, hm, hp⟩ := h.lst
  have t : Tk H' (upd H' o (.lst [.int n, .str z])) := (Tk.refl _).lst ho
  exact ⟨h.bu.self, h.bg.upd noa.symm, ⟨n, upd_same⟩, h.tk.trans t, ⟨xs, (upd_ne nmo).trans hm, hp.tk t⟩, h.wf, h.sz⟩
theorem PcInv.push {c : Addr} {T xs : List V} {r1 : Prog} (h : PcInv H a o m d b z p H') (nm : H m = none) (nma : m ≠ a) (nmo : m ≠ o) (nc : H' c = none) (hx : H' m = some (.lst xs)) (hf : ∀ H2, Tk H' H2 → H2 c = some (.tup T) → PrAt H2 r1 [.ref c]) (hw : WfL 5 (CB b) (TB b) d r1) (hz : r1.size ≤ r1.len * (5 * CB b) ^ d) :
    PcInv H a o m d b z (p.app r1) (upd (upd H' c (.tup T)) m (.lst (xs ++ [.ref c]))) := by
  obtain ⟨n', ho⟩ := h.pot
  obtain ⟨ys, hm, hp⟩ := h.lst
  obtain rfl : xs = ys := by
    rw [hx] at hm
    injection hm with hm
    injection hm
  have nco : c ≠ o := (ne_of_none ho nc).symm
  have nca : c ≠ a := h.bg.ne nc
  have ncm : c ≠ m := (ne_of_none hx nc).symm
  have t1 : Tk H' (upd H' c (.tup T)) := (Tk.refl _).new nc
  have t2 : Tk H' (upd (upd H' c (.tup T)) m (.lst (xs ++ [.ref c]))) := t1.lst (h_keep hx nc)
  refine ⟨(h.bu.new nc).put nm, (h.bg.keep nc).upd nma.symm, ⟨n', (upd_ne nmo.symm).trans (h_keep ho nc)⟩, h.tk.trans t2, ⟨_, upd_same, (hp.tk t2).app (hf _ t2 ((upd_ne ncm).trans upd_same))⟩, h.wf.app hw, by rw [Prog.size_app, Prog.len_app, Int.natCast_add, Int.add_mul]; have := h.sz; omega⟩
end
theorem sz1 (b : Bool) (d : Nat) : (1 + 0 : Int) ≤ ((0 + 1 : Nat) : Int) * (5 * CB b) ^ d := by
  have h2 : (0 : Int) < (5 * CB b) ^ d := Int.pow_pos (by have := CB_le b; omega)
  omega
theorem szp {b : Bool} {d : Nat} {s : Int} {n : Nat} (q5 : n ≤ 5) (q6 : s ≤ n * (5 * CB b) ^ d) : s ≤ 5 * (5 * CB b) ^ d := by
  have h2 : (0 : Int) < (5 * CB b) ^ d := Int.pow_pos (by have := CB_le b; omega)
  exact Int.le_trans q6 (Int.mul_le_mul_of_nonneg_right (by omega) (Int.le_of_lt h2))
theorem szr {b : Bool} {d : Nat} {p : Prog} {k : Int} (h1 : 1 ≤ k) (h2 : k ≤ CB b) (q5 : p.len ≤ 5) (q6 : p.size ≤ p.len * (5 * CB b) ^ d) (w : WfL 5 (CB b) (TB b) d p) : k * p.size + 0 ≤ ((0 + 1 : Nat) : Int) * (5 * CB b) ^ (d + 1) := by
  have h3 := szp q5 q6
  have h4 := Prog.size_nonneg w
  have h5 : k * p.size ≤ CB b * (5 * (5 * CB b) ^ d) := Int.mul_le_mul h2 h3 h4 (by omega)
  have h6 : CB b * (5 * (5 * CB b) ^ d) = (5 * CB b) ^ (d + 1) := by rw [Int.pow_succ, Int.mul_comm ((5 * CB b) ^ d), ← Int.mul_assoc, Int.mul_comm (CB b)]
  omega
theorem szm {b : Bool} {d : Nat} {p : Prog} (q5 : p.len ≤ 5) (q6 : p.size ≤ p.len * (5 * CB b) ^ d) : p.size + 0 ≤ ((0 + 1 : Nat) : Int) * (5 * CB b) ^ (d + 1) := by
  have h3 := szp q5 q6
  have h2 : (0 : Int) < (5 * CB b) ^ d := Int.pow_pos (by have := CB_le b; omega)
  have h5 : 1 * (5 * (5 * CB b) ^ d) ≤ CB b * (5 * (5 * CB b) ^ d) := Int.mul_le_mul_of_nonneg_right (by have := CB_le b; omega) (by omega)
  have h6 : CB b * (5 * (5 * CB b) ^ d) = (5 * CB b) ^ (d + 1) := by rw [Int.pow_succ, Int.mul_comm ((5 * CB b) ^ d), ← Int.mul_assoc, Int.mul_comm (CB b)]
  omega
theorem ok_l_piece {f : Addr} {fd : FuncData} (d : Nat) (F : Fun K "_law_piece" "_law_piece" s_l_piece f fd) (B : Bl mg) (h_l_pick : Has P w K mg base "_law_pick" 1 ["_law_bag", "_law_many"] spPick) (h_l_some_turn : Has P w K mg base "_law_some_turn" 3 ["_law_bag", "_law_wild_here"] spTurn)
   (h_l_some_lots : Has P w K mg base "_law_some_lots" 3 ["_law_bag", "_law_free", "_law_wild_here"] spLots) (h_l_piece : Has P w K mg base "_law_piece" (d + 3) ["_law_bag", "_law_pot", "_law_deep", "_law_free", "_law_wild_here"] (spPieceLt d)) :
   FnOk P w K mg base CX0 (d + 4) f fd ["_law_bag", "_law_pot", "_law_deep", "_law_free", "_law_wild_here"] (spPieceLt (d + 1)) := by
  refine F.ok sc_l_piece (fun vs H Q E h => ?_) (fun cdv A outer s H vs Q E hr h => ?_)
  · obtain ⟨a, o, n, z, fr, b, rfl, _⟩ := h
    rfl
  · obtain ⟨a, o, n, z, fr, b, rfl, ba, ho, hz, k⟩ := h
    have noa : o ≠ a := by
      obtain ⟨l, e, e3⟩ := ba.list
      exact ne_of ho e (by intro h; injection h with h; rw [← h] at e3; cases e3)
    refine ⟨_, (pss_cons (ps_set (i := 5) sc_l_piece.nd rfl (.inl rfl) (pe_lst pa_nil))
    (pss_cutM (ps_for PassesOwn.never rfl (pi_range1 (by rfl) B.b_range (pa_cons (pe_op op_add pe_int (pe_callH h_l_pick (hr.mono (by first | decide | omega)) (pa_cons (pv 0) (pa_cons pe_int pa_nil)))) pa_nil)) (pg_name (i := 6) sc_l_piece.nd rfl (.inl rfl))
    (pss_cons (ps_set (i := 7) sc_l_piece.nd rfl (.inl rfl) (pe_callH h_l_pick (hr.mono (by first | decide | omega)) (pa_cons (pv 0) (pa_cons pe_int pa_nil))))
    (pss_cons (ps_asg (pe_op op_sub (pe_ix (ix_listK (K := K)) (pv 1) pe_int (fun _ _ => rfl)) pe_int) (pg_sub (pv 1) pe_int set_list))
    (pss_cutM (ps_if (PW.pt (pw_or (pt_cmpR op_lt (pv 7) pe_int (nomark _)) (pw_or (pt_cmpR op_eq (pv 2) pe_int (nomark _)) (pw_or1 (pt_cmpR op_lt (pe_ix (ix_listK (K := K)) (pv 1) pe_int (fun _ _ => rfl)) pe_int (nomark _))))))
    (pss_one (ps_if (PW.pt (pw_or (pt_cmpR op_eq (pv 7) pe_int (nomark _)) (pw_or1 (pt_cmpR op_eq (pv 7) pe_int (nomark _)))))
    (pss_one (ps_expr (pe_bm PySem.F.plainAttrs_list PySem.F.slot_list_append PySem.F.type_list_append mt_append (pv 5) (pa_cons (pe_tup (pa_cons pe_str (pa_cons (pe_callH h_l_some_turn (hr.mono (by first | decide | omega)) (pa_cons (pv 0) (pa_cons (pv 4) pa_nil))) pa_nil))) pa_nil))))
    (pss_cons (ps_set (i := 8) sc_l_piece.nd rfl (.inl rfl) (pe_ix (ix_listK (K := K)) (pe_lst (pa_cons pe_str (pa_cons pe_str (pa_cons pe_str (pa_cons pe_str pa_nil))))) (pe_callH h_l_pick (hr.mono (by first | decide | omega)) (pa_cons (pv 0) (pa_cons pe_int pa_nil))) (fun _ _ => rfl)))
    (pss_one (ps_expr (pe_bm PySem.F.plainAttrs_list PySem.F.slot_list_append PySem.F.type_list_append mt_append (pv 5) (pa_cons (pe_tup (pa_cons (pv 8) (pa_cons (pe_ix ix_str (pe_ix (ix_listK (K := K)) (pv 1) pe_int (fun _ _ => rfl)) (pe_callH h_l_pick (hr.mono (by first | decide | omega)) (pa_cons (pv 0) (pa_cons pe_int pa_nil))) (fun _ _ => rfl)) pa_nil))) pa_nil)))))))
    (pss_one (ps_if (pt_cmpR op_eq (pv 7) pe_int (nomark _))
    (pss_cons (ps_set (i := 9) sc_l_piece.nd rfl (.inl rfl) (pe_callH h_l_some_lots (hr.mono (by first | decide | omega)) (pa_cons (pv 0) (pa_cons (pv 3) (pa_cons (pv 4) pa_nil)))))
    (pss_one (ps_expr (pe_bm PySem.F.plainAttrs_list PySem.F.slot_list_append PySem.F.type_list_append mt_append (pv 5) (pa_cons (pe_tup (pa_cons pe_str (pa_cons (pv 9) (pa_cons (pe_callH h_l_piece (hr.mono (by first | decide | omega)) (pa_cons (pv 0) (pa_cons (pv 1) (pa_cons (pe_op op_sub (pv 2) pe_int) (pa_cons (pe_op op_sub (pv 3) (pe_callTy call_intB (by rfl) B.b_int (by decide +kernel) (pa_cons (pe_cmpR op_gt (pv 9) pe_int (nomark _)) pa_nil))) (pa_cons (pv 4) pa_nil)))))) pa_nil)))) pa_nil)))))
    (pss_one (ps_expr (pe_bm PySem.F.plainAttrs_list PySem.F.slot_list_append PySem.F.type_list_append mt_append (pv 5) (pa_cons (pe_tup (pa_cons pe_str (pa_cons (pe_callH h_l_piece (hr.mono (by first | decide | omega)) (pa_cons (pv 0) (pa_cons (pv 1) (pa_cons (pe_op op_sub (pv 2) pe_int) (pa_cons (pv 3) (pa_cons (pv 4) pa_nil)))))) pa_nil))) pa_nil)))))))
    (pss_one (ps_if (pt_cmpR op_lt (pe_ix (ix_listK (K := K)) (pv 1) pe_int (fun _ _ => rfl)) pe_int (nomark _))
    (pss_one ps_break)
    pss_nil))))))
    (pss_one (ps_ret (pe_callTy call_tupL (by rfl) B.b_tuple (by decide +kernel) (pa_cons (pv 5) pa_nil)))))), ?_⟩
    walk_at "go"
    intro m nm
    have nma : m ≠ a := ba.ne nm
    have nmo : m ≠ o := (ne_of_none ho nm).symm
    walk_at "go"
    refine r_cut (fun σ' H' => ∃ p : Prog, σ'[5]? = some (some (.ref m)) ∧ PcInv H a o m d b z p H' ∧ 1 ≤ p.len ∧ p.len ≤ 5) ?_ ?_
    · walk_at "go"
      refine u_pick (ba.keep nm) (by omega) (by omega) fun r H1 r0 r1 bu1 b1 => ?_
      walk_at "go"
      refine u_for1 ?_ (fun i σ H' => ∃ (p : Prog) (y6 y7 y8 y9 : Option V), σ = [some (.ref a), some (.ref o), some (.int (d : Int)), some (.int fr), some (.bl b), some (.ref m), y6, y7, y8, y9] ∧ PcInv H a o m d b z p H' ∧ p.len = i ∧ i ≤ 5) ?_ ?_ ?_
      · omega
      · refine ⟨.nil, none, none, none, none, rfl, ⟨(But2.new (But2.refl _ _ _) nm).trans (But2.of bu1), b1, ⟨n, bu1 _ _ noa (h_keep ho nm)⟩, ((Tk.refl _).new nm).trans (Tk.but bu1 (ba.keep nm)), ⟨[], bu1 _ _ nma upd_same, rfl⟩, WfL.nil, by rw [Prog.size, Prog.len]; simp⟩, rfl, by omega⟩
      · rintro i σ H' hi ⟨p, y6, y7, y8, y9, rfl, iv, pl, i5⟩
        walk_at "go"
        refine u_pick iv.bg (by omega) (by omega) fun way H2 w0 w1 bu2 b2 => ?_
        have iv2 := iv.pick noa nma bu2 b2
        obtain ⟨n2, ho2⟩ := iv2.pot
        walk_at "go"
        have iv3 := iv2.less noa nmo (n2 - 1)
        change tCutM _ _ _ _ (upd H2 o (.lst [.int (n2 - 1), .str z]))
        have ho3 : upd H2 o (.lst [.int (n2 - 1), .str z]) o = some (.lst [.int (n2 - 1), .str z]) := upd_same
        generalize upd H2 o (.lst [.int (n2 - 1), .str z]) = H3 at *
        obtain ⟨xs3, hm3, hp3⟩ := iv3.lst
        refine r_cut (fun σ' H' => ∃ (p : Prog) (y6 y7 y8 y9 : Option V), σ' = [some (.ref a), some (.ref o), some (.int (d : Int)), some (.int fr), some (.bl b), some (.ref m), y6, y7, y8, y9] ∧ PcInv H a o m d b z p H' ∧ p.len = i + 1) ?_ ?_
        · walk_at "go"
          refine r_iteD (fun h1 => ?a1) (fun h1 => ?b1)
          case' b1 =>
            walk_at "go"
            refine r_iteD (fun h2 => ?a2) (fun h2 => ?b2)
          case' b2 =>
            walk_at "go"
            refine r_iteD (fun h3 => ?a3) (fun h3 => ?b3)
          case b3 =>
            walk_at "go"
            cases d with
            | zero => exact absurd rfl h2
            | succ d =>
              have ed : ((d + 1 : Nat) : Int) - 1 = (d : Int) := by omega
              refine r_iteD (fun h4 => ?_) (fun h4 => ?_)
              · walk_at "go"
                refine ⟨a, fr, b, rfl, iv3.bg, fun lots H4 bu4 b4 lo1 lo2 => ?_⟩
                have iv4 := iv3.pick noa nma bu4 b4
                obtain ⟨n4, ho4⟩ := iv4.pot
                obtain ⟨xs, hm, hp⟩ := iv4.lst
                walk_at "go"
                rw [ed]
                refine ⟨a, o, n4, z, _, b, rfl, b4, ho4, hz, fun q p2 H5 nq bu5 b5 po5 tk5 hq w5 q1 q5 q6 => ?_⟩
                have iv5 := iv4.call nma nmo bu5 b5 po5 tk5
                have hm5 : H5 m = some (.lst xs) := bu5 _ _ nma nmo hm
                have xl : xs.length = p.len := hp.length
                walk_at "go"
                intro c nc
                walk_at "go"
                refine ⟨p.app (.rep lots p2 .nil), _, _, _, _, rfl, iv5.push nm nma nmo nc hm5 (fun H6 t6 hc => ⟨c, q, _, [], rfl, hc, t6 _ _ hq.choose_spec.1, hq.choose_spec.2.tk t6, rfl⟩) ⟨⟨lo1, lo2⟩, ⟨q1, by omega⟩, w5, WfL.nil⟩ (szr lo1 lo2 q5 q6 w5), ?_⟩
                rw [Prog.len_app]
                show p.len + 1 = _
                omega
              · walk_at "go"
                rw [ed]
                refine ⟨a, o, n2 - 1, z, _, b, rfl, iv3.bg, ho3, hz, fun q p2 H5 nq bu5 b5 po5 tk5 hq w5 q1 q5 q6 => ?_⟩
                obtain ⟨xs, hm, hp⟩ := iv3.lst
                have iv5 := iv3.call nma nmo bu5 b5 po5 tk5
                have hm5 : H5 m = some (.lst xs) := bu5 _ _ nma nmo hm
                have xl : xs.length = p.len := hp.length
                walk_at "go"
                intro c nc
                walk_at "go"
                refine ⟨p.app (.mir p2 .nil), _, _, _, _, rfl, iv5.push nm nma nmo nc hm5 (fun H6 t6 hc => ⟨c, q, _, [], rfl, hc, t6 _ _ hq.choose_spec.1, hq.choose_spec.2.tk t6, rfl⟩) ⟨⟨q1, by omega⟩, w5, WfL.nil⟩ (szm q5 q6), ?_⟩
                rw [Prog.len_app]
                show p.len + 1 = _
                omega
          case a1 =>
            walk_at "go"
            refine r_iteD (fun h5 => ?_) (fun h5 => ?_)
            · skip
              walk_at "go"
              refine ⟨a, b, rfl, iv3.bg, fun t H4 bu4 b4 t0 t1 => ?_⟩
              have iv4 := iv3.pick noa nma bu4 b4
              obtain ⟨xs, hm, hp⟩ := iv4.lst
              have xl : xs.length = p.len := hp.length
              walk_at "go"
              intro c nc
              walk_at "go"
              refine ⟨p.app (.turn t .nil), _, _, _, _, rfl, iv4.push nm nma nmo nc hm (fun H6 t6 hc => ⟨c, [], rfl, hc, rfl⟩) (WfL.turn_iff.mpr ⟨⟨t0, t1⟩, WfL.nil⟩) (sz1 _ _), ?_⟩
              rw [Prog.len_app]
              show p.len + 1 = _
              omega
            · walk_at "go"
              refine r_iteD (fun h6 => ?_) (fun h6 => ?_)
              · skip
                walk_at "go"
                refine ⟨a, b, rfl, iv3.bg, fun t H4 bu4 b4 t0 t1 => ?_⟩
                have iv4 := iv3.pick noa nma bu4 b4
                obtain ⟨xs, hm, hp⟩ := iv4.lst
                have xl : xs.length = p.len := hp.length
                walk_at "go"
                intro c nc
                walk_at "go"
                refine ⟨p.app (.turn t .nil), _, _, _, _, rfl, iv4.push nm nma nmo nc hm (fun H6 t6 hc => ⟨c, [], rfl, hc, rfl⟩) (WfL.turn_iff.mpr ⟨⟨t0, t1⟩, WfL.nil⟩) (sz1 _ _), ?_⟩
                rw [Prog.len_app]
                show p.len + 1 = _
                omega
              · skip
                walk_at "go"
                intro c nc
                have ivc : PcInv H a o m d b z p (upd H3 c (.lst [.str "go", .str "back", .str "hop", .str "slip"])) := by
                  obtain ⟨xs, hm, hp⟩ := iv3.lst
                  have t := (Tk.refl H3).new nc (o := .lst [.str "go", .str "back", .str "hop", .str "slip"])
                  exact ⟨iv3.bu.new nc, iv3.bg.keep nc, ⟨n2 - 1, h_keep ho3 nc⟩, iv3.tk.trans t, ⟨xs, h_keep hm nc, hp.tk t⟩, iv3.wf, iv3.sz⟩
                have hc0 : upd H3 c (.lst [.str "go", .str "back", .str "hop", .str "slip"]) c = some (.lst [.str "go", .str "back", .str "hop", .str "slip"]) := upd_same
                have nca : c ≠ a := iv3.bg.ne nc
                walk_at "go"
                refine u_pick ivc.bg (by omega) (by omega) fun r4 H4 p0 p1 bu4 b4 => ?_
                have iv4 := ivc.pick noa nma bu4 b4
                have hc4 : H4 c = some (.lst [.str "go", .str "back", .str "hop", .str "slip"]) := bu4 _ _ nca hc0
                obtain ⟨wd, hw1, hw2⟩ := word_at p0 p1
                refine r_ixL (SqL.of hc4) hw1 ?_
                obtain ⟨n4, ho4⟩ := iv4.pot
                obtain ⟨xs4, hm4, hp4⟩ := iv4.lst
                walk_at "go"
                refine u_pick b4 (by omega) (by omega) fun r5 H5 p2 p3 bu5 b5 => ?_
                have iv5 := iv4.pick noa nma bu5 b5
                obtain ⟨nm1, hn1, hn2⟩ := names_at hz p2 p3
                refine r_ixS (names_small hz) hn1 ?_
                obtain ⟨xs, hm, hp⟩ := iv5.lst
                have xl : xs.length = p.len := hp.length
                walk_at "go"
                intro e ne
                walk_at "go"
                refine ⟨p.app (.step wd ⟨#[nm1]⟩ .nil), _, _, _, _, rfl, iv5.push nm nma nmo ne hm (fun H6 t6 hc => ⟨e, [], rfl, hc, rfl⟩) (WfL.step_iff.mpr ⟨hw2, hn2, WfL.nil⟩) (sz1 _ _), ?_⟩
                rw [Prog.len_app]
                show p.len + 1 = _
                omega
          case a2 =>
            walk_at "go"
            intro c nc
            have ivc : PcInv H a o m d b z p (upd H3 c (.lst [.str "go", .str "back", .str "hop", .str "slip"])) := by
              obtain ⟨xs, hm, hp⟩ := iv3.lst
              have t := (Tk.refl H3).new nc (o := .lst [.str "go", .str "back", .str "hop", .str "slip"])
              exact ⟨iv3.bu.new nc, iv3.bg.keep nc, ⟨n2 - 1, h_keep ho3 nc⟩, iv3.tk.trans t, ⟨xs, h_keep hm nc, hp.tk t⟩, iv3.wf, iv3.sz⟩
            have hc0 : upd H3 c (.lst [.str "go", .str "back", .str "hop", .str "slip"]) c = some (.lst [.str "go", .str "back", .str "hop", .str "slip"]) := upd_same
            have nca : c ≠ a := iv3.bg.ne nc
            walk_at "go"
            refine u_pick ivc.bg (by omega) (by omega) fun r4 H4 p0 p1 bu4 b4 => ?_
            have iv4 := ivc.pick noa nma bu4 b4
            have hc4 : H4 c = some (.lst [.str "go", .str "back", .str "hop", .str "slip"]) := bu4 _ _ nca hc0
            obtain ⟨wd, hw1, hw2⟩ := word_at p0 p1
            refine r_ixL (SqL.of hc4) hw1 ?_
            obtain ⟨n4, ho4⟩ := iv4.pot
            obtain ⟨xs4, hm4, hp4⟩ := iv4.lst
            walk_at "go"
            refine u_pick b4 (by omega) (by omega) fun r5 H5 p2 p3 bu5 b5 => ?_
            have iv5 := iv4.pick noa nma bu5 b5
            obtain ⟨nm1, hn1, hn2⟩ := names_at hz p2 p3
            refine r_ixS (names_small hz) hn1 ?_
            obtain ⟨xs, hm, hp⟩ := iv5.lst
            have xl : xs.length = p.len := hp.length
            walk_at "go"
            intro e ne
            walk_at "go"
            refine ⟨p.app (.step wd ⟨#[nm1]⟩ .nil), _, _, _, _, rfl, iv5.push nm nma nmo ne hm (fun H6 t6 hc => ⟨e, [], rfl, hc, rfl⟩) (WfL.step_iff.mpr ⟨hw2, hn2, WfL.nil⟩) (sz1 _ _), ?_⟩
            rw [Prog.len_app]
            show p.len + 1 = _
            omega
          case a3 =>
            walk_at "go"
            intro c nc
            have ivc : PcInv H a o m d b z p (upd H3 c (.lst [.str "go", .str "back", .str "hop", .str "slip"])) := by
              obtain ⟨xs, hm, hp⟩ := iv3.lst
              have t := (Tk.refl H3).new nc (o := .lst [.str "go", .str "back", .str "hop", .str "slip"])
              exact ⟨iv3.bu.new nc, iv3.bg.keep nc, ⟨n2 - 1, h_keep ho3 nc⟩, iv3.tk.trans t, ⟨xs, h_keep hm nc, hp.tk t⟩, iv3.wf, iv3.sz⟩
            have hc0 : upd H3 c (.lst [.str "go", .str "back", .str "hop", .str "slip"]) c = some (.lst [.str "go", .str "back", .str "hop", .str "slip"]) := upd_same
            have nca : c ≠ a := iv3.bg.ne nc
            walk_at "go"
            refine u_pick ivc.bg (by omega) (by omega) fun r4 H4 p0 p1 bu4 b4 => ?_
            have iv4 := ivc.pick noa nma bu4 b4
            have hc4 : H4 c = some (.lst [.str "go", .str "back", .str "hop", .str "slip"]) := bu4 _ _ nca hc0
            obtain ⟨wd, hw1, hw2⟩ := word_at p0 p1
            refine r_ixL (SqL.of hc4) hw1 ?_
            obtain ⟨n4, ho4⟩ := iv4.pot
            obtain ⟨xs4, hm4, hp4⟩ := iv4.lst
            walk_at "go"
            refine u_pick b4 (by omega) (by omega) fun r5 H5 p2 p3 bu5 b5 => ?_
            have iv5 := iv4.pick noa nma bu5 b5
            obtain ⟨nm1, hn1, hn2⟩ := names_at hz p2 p3
            refine r_ixS (names_small hz) hn1 ?_
            obtain ⟨xs, hm, hp⟩ := iv5.lst
            have xl : xs.length = p.len := hp.length
            walk_at "go"
            intro e ne
            walk_at "go"
            refine ⟨p.app (.step wd ⟨#[nm1]⟩ .nil), _, _, _, _, rfl, iv5.push nm nma nmo ne hm (fun H6 t6 hc => ⟨e, [], rfl, hc, rfl⟩) (WfL.step_iff.mpr ⟨hw2, hn2, WfL.nil⟩) (sz1 _ _), ?_⟩
            rw [Prog.len_app]
            show p.len + 1 = _
            omega
        · rintro σ' H' ⟨p, y6, y7, y8, y9, rfl, iv, pl⟩
          obtain ⟨n4, ho4⟩ := iv.pot
          walk_at "go"
          refine r_iteD (fun h6 => ?_) (fun h6 => ?_)
          · walk_at "go"
            exact ⟨p, rfl, iv, by omega, by omega⟩
          · walk_at "go"
            exact ⟨p, _, _, _, _, rfl, iv, pl, by omega⟩
      · rintro σ H' ⟨p, y6, y7, y8, y9, rfl, iv, pl, i5⟩
        exact ⟨p, rfl, iv, by omega, by omega⟩
    · rintro σ' H' ⟨p, hσ, iv, p1, p5⟩
      obtain ⟨xs, hm, hp⟩ := iv.lst
      obtain ⟨n', ho'⟩ := iv.pot
      walk_at "go"
      refine r_var hσ ?_
      walk_at "go"
      intro q nq
      have t := (Tk.refl H').new nq (o := .tup xs)
      exact k q p _ (iv.bu.free (iv.bg.ne nq) (ne_of_none ho' nq).symm nq) (iv.bu.new nq) (iv.bg.keep nq) ⟨n', h_keep ho' nq⟩ (iv.tk.trans t) ⟨xs, upd_same, hp.tk t⟩ iv.wf p1 p5 iv.sz
theorem has_piece {f : Addr} {fd : FuncData} (F : Fun K "_law_piece" "_law_piece" s_l_piece f fd) (g : mg "_law_piece" = some (.ref f)) (bi : Binds K fd ["_law_bag", "_law_pot", "_law_deep", "_law_free", "_law_wild_here"] []) (B : Bl mg) (h_l_pick : Has P w K mg base "_law_pick" 1 ["_law_bag", "_law_many"] spPick) (h_l_some_turn : Has P w K mg base "_law_some_turn" 3 ["_law_bag", "_law_wild_here"] spTurn)
   (h_l_some_lots : Has P w K mg base "_law_some_lots" 3 ["_law_bag", "_law_free", "_law_wild_here"] spLots) : ∀ d, Has P w K mg base "_law_piece" (d + 3) ["_law_bag", "_law_pot", "_law_deep", "_law_free", "_law_wild_here"] (spPieceLt d)
  | 0 => has_false g F.kp bi
  | d + 1 => ⟨f, fd, ok_l_piece d F B h_l_pick h_l_some_turn h_l_some_lots (has_piece F g bi B h_l_pick h_l_some_turn h_l_some_lots d), g, F.kp, bi⟩
/-- of any depth up to 5 -/
def spPiece : Sp := fun vs H Q E => ∃ d, d ≤ 5 ∧ spPieceLt (d + 1) vs H Q E
theorem ok_l_piece_any {f : Addr} {fd : FuncData} (F : Fun K "_law_piece" "_law_piece" s_l_piece f fd) (g : mg "_law_piece" = some (.ref f)) (bi : Binds K fd ["_law_bag", "_law_pot", "_law_deep", "_law_free", "_law_wild_here"] []) (B : Bl mg) (h_l_pick : Has P w K mg base "_law_pick" 1 ["_law_bag", "_law_many"] spPick) (h_l_some_turn : Has P w K mg base "_law_some_turn" 3 ["_law_bag", "_law_wild_here"] spTurn)
   (h_l_some_lots : Has P w K mg base "_law_some_lots" 3 ["_law_bag", "_law_free", "_law_wild_here"] spLots) : FnOk P w K mg base CX0 9 f fd ["_law_bag", "_law_pot", "_law_deep", "_law_free", "_law_wild_here"] spPiece := by
  have G : ∀ d, d ≤ 5 → FnOk P w K mg base CX0 9 f fd ["_law_bag", "_law_pot", "_law_deep", "_law_free", "_law_wild_here"] (spPieceLt (d + 1)) := fun d hd =>
    (ok_l_piece d F B h_l_pick h_l_some_turn h_l_some_lots (has_piece F g bi B h_l_pick h_l_some_turn h_l_some_lots d)).mono (by omega)
  exact ⟨fun vs H Q E ⟨d, hd, h⟩ => (G d hd).len vs H Q E h, fun A outer s H args us vs Q E hr he hb hv ⟨d, hd, h⟩ => (G d hd).run A outer s H args us vs Q E hr he hb hv h⟩
end
end My

set_option Elab.async false
set_option linter.all false
set_option maxRecDepth 100000
set_option maxHeartbeats 4000000

namespace My
open PySem PySem.Spec PyProof.Rows L2
section
variable {P : Program} {w : World} {K : PySem.W.Frag} {mg : Str → Option Value} {base : Heap}
local macro_rules | `(tactic| walk_at "isi") => `(tactic| (first
  | (with_reducible refine r_is_int_int ?_)
  | (with_reducible refine r_is_int_bool ?_)
  | (with_reducible refine r_is_int_str ?_)
  | (with_reducible refine r_is_int_list ?_)
  | (with_reducible refine r_is_int_tuple ?_)
  | (with_reducible refine r_is_bool_int ?_)
  | (with_reducible refine r_is_bool_bool ?_)
  | (with_reducible refine r_is_bool_str ?_)
  | (with_reducible refine r_is_bool_list ?_)
  | (with_reducible refine r_is_bool_tuple ?_)
  | (with_reducible refine r_is_str_int ?_)
  | (with_reducible refine r_is_str_bool ?_)
  | (with_reducible refine r_is_str_str ?_)
  | (with_reducible refine r_is_str_list ?_)
  | (with_reducible refine r_is_str_tuple ?_)
  | ((with_reducible refine r_is_list_int (xs := ?xx) ?hh ?_); (case hh => walk_at "hp"))
  | ((with_reducible refine r_is_list_bool (xs := ?xx) ?hh ?_); (case hh => walk_at "hp"))
  | ((with_reducible refine r_is_list_str (xs := ?xx) ?hh ?_); (case hh => walk_at "hp"))
  | ((with_reducible refine r_is_list_list (xs := ?xx) ?hh ?_); (case hh => walk_at "hp"))
  | ((with_reducible refine r_is_list_tuple (xs := ?xx) ?hh ?_); (case hh => walk_at "hp"))
  | ((with_reducible refine r_is_tuple_int (xs := ?xx) ?hh ?_); (case hh => walk_at "hp"))
  | ((with_reducible refine r_is_tuple_bool (xs := ?xx) ?hh ?_); (case hh => walk_at "hp"))
  | ((with_reducible refine r_is_tuple_str (xs := ?xx) ?hh ?_); (case hh => walk_at "hp"))
  | ((with_reducible refine r_is_tuple_list (xs := ?xx) ?hh ?_); (case hh => walk_at "hp"))
  | ((with_reducible refine r_is_tuple_tuple (xs := ?xx) ?hh ?_); (case hh => walk_at "hp"))
  | (with_reducible refine r_is_NoneType_int ?_)
  | (with_reducible refine r_is_NoneType_bool ?_)
  | (with_reducible refine r_is_NoneType_str ?_)
  | (with_reducible refine r_is_NoneType_list ?_)
  | (with_reducible refine r_is_NoneType_tuple ?_)))
local macro_rules | `(tactic| walk_at "ne") => `(tactic| first | assumption | (refine Ne.symm ?_; assumption) | exact Bag.ne (by assumption) (by assumption) | exact ne_of_none (by assumption) (by assumption))
local macro_rules | `(tactic| walk_at "hp") => `(tactic| (first
  | assumption
  | exact upd_same
  | (refine h_keep ?_ (by assumption); walk_at "hp")
  | (refine (upd_ne (by walk_at "ne")).trans ?_; walk_at "hp")
  | (refine Same.at (by assumption) ?_; walk_at "hp")
  | (refine But.at (by assumption) (by walk_at "ne") ?_; walk_at "hp")
  | (refine But2.at (by assumption) (by walk_at "ne") (by walk_at "ne") ?_; walk_at "hp")))
local macro_rules | `(tactic| walk_at "side") => `(tactic| first | assumption | omega | (refine ⟨?_, ?_⟩ <;> first | assumption | omega | decide) | decide | (refine ⟨by decide, by decide, by decide⟩) | (left; refine ⟨?_, ?_⟩ <;> first | omega | decide) | (right; refine ⟨?_, ?_⟩ <;> first | omega | decide) | (simp; done))
local macro_rules | `(tactic| walk_at "cond") => `(tactic| first | assumption | exact rfl | omega | (simp only [List.length_cons, List.length_nil]; omega) | decide +kernel)
local macro_rules | `(tactic| walk_at "s") => `(tactic| (first
  | ((with_reducible refine r_var (v := ?vv) ?ee ?_); (case ee => exact rfl))
  | (with_reducible refine r_c ?_)
  | (with_reducible refine r_op ?_)
  | (with_reducible refine r_un ?_)
  | (with_reducible refine r_rI0 ?_)
  | ((with_reducible refine r_rI ?cc ?_); (case cc => walk_at "side"))
  | (with_reducible refine r_rU ?_)
  | (with_reducible refine r_eqI ?_)
  | (with_reducible refine r_neI ?_)
  | (with_reducible refine r_eqB ?_)
  | (with_reducible refine r_neB ?_)
  | (with_reducible refine r_eqS ?_)
  | (with_reducible refine r_neS ?_)
  | ((with_reducible refine r_eq ?ee ?_); (case ee => exact rfl))
  | ((with_reducible refine r_ne ?ee ?_); (case ee => exact rfl))
  | ((with_reducible refine r_ixL (v := ?vv) (xs := ?xx) ?hh ?ee ?_); (case hh => (refine SqL.of ?_; walk_at "hp")); (case ee => exact rfl))
  | (with_reducible refine r_cb ?_)
  | (with_reducible refine r_call ?_)
  | (with_reducible refine r_cons ?_)
  | (with_reducible refine r_nil ?_)
  | (with_reducible refine r_lst ?_)
  | (with_reducible refine r_tup ?_)
  | ((with_reducible refine r_new ?cc ?_); (case cc => walk_at "side"))
  | (with_reducible refine r_exbl ?_)
  | (with_reducible refine r_exint ?_)
  | (with_reducible refine r_exint2 ?_)
  | (with_reducible refine r_exblL ?_)
  | (with_reducible refine r_ex2 ?_)
  | (with_reducible refine r_test ?_)
  | (with_reducible refine r_tB ?_)
  | (with_reducible refine r_not ?_)
  | (with_reducible refine r_and ?_)
  | (with_reducible refine r_or ?_)
  | (with_reducible refine r_andV ?_)
  | (with_reducible refine r_orV ?_)
  | (with_reducible refine r_notV ?_)
  | (with_reducible refine r_tif ?_)
  | (with_reducible refine r_iteT ?_)
  | (with_reducible refine r_iteNT ?_)
  | (with_reducible refine r_iteNF ?_)
  | (with_reducible refine r_iteF ?_)
  | (with_reducible refine r_seq ?_)
  | (with_reducible refine r_next ?_)
  | (with_reducible refine r_brk ?_)
  | (with_reducible refine r_cont ?_)
  | (with_reducible refine r_asg ?_)
  | (with_reducible refine r_gname ?_)
  | (with_reducible refine r_ret ?_)
  | (with_reducible refine r_retN ?_)
  | (with_reducible refine r_drop ?_)
  | (with_reducible refine r_if ?_)
  | ((with_reducible refine r_aug (x := ?xx) ?ee ?_); (case ee => exact rfl))
  | (with_reducible refine r_ipI ?_)
  | (with_reducible refine r_augS ?_)
  | (with_reducible refine r_gsub ?_)
  | ((with_reducible refine r_setL (xs := ?xx) (m := ?mm) ?hh ?ee ?_); (case hh => walk_at "hp"); (case ee => exact rfl))
  | (with_reducible refine r_par ?_)
  | (with_reducible refine r_bm ?_)
  | ((with_reducible refine r_tyL (xs := ?xx) ?hh ?_); (case hh => walk_at "hp"))
  | ((with_reducible refine r_append (xs := ?xx) ?hh ?ll ?_); (case hh => walk_at "hp"); (case ll => walk_at "side"))
  | (walk_at "isi")
  | (with_reducible refine r_for ?_)
  | (with_reducible refine r_iList ?_)
  | (with_reducible refine r_iTup ?_)
  | (with_reducible refine r_iR1 ?_)
  | (with_reducible refine r_iR2 ?_)
  | (with_reducible refine r_lc ?_)
  | (with_reducible refine r_yes ?_)
  | ((with_reducible refine r_lenS ?ll ?_); (case ll => walk_at "side"))
  | (with_reducible refine r_leS ?_)
  | (with_reducible refine r_chain ?_)
  | (with_reducible refine r_tM1 ?_)
  | (with_reducible refine r_exS ?_)
  | ((with_reducible refine r_tupL (xs := ?xx) ?hh ?_); (case hh => walk_at "hp"))
  | ((with_reducible refine r_listL (xs := ?xx) ?hh ?_); (case hh => walk_at "hp"))
  | ((with_reducible refine r_listT (xs := ?xx) ?hh ?_); (case hh => walk_at "hp"))
  | ((with_reducible refine r_ixT (v := ?vv) (xs := ?xx) ?hh ?ee ?_); (case hh => (refine SqT.of ?_; walk_at "hp")); (case ee => exact rfl))
  | (with_reducible refine r_sl ?_)
  | (with_reducible refine r_nopart ?_)
  | (with_reducible refine r_part ?_)
  | (with_reducible refine r_exI ?_)
  | ((with_reducible refine r_slL (xs := ?xx) ?hh ?_); (case hh => first | assumption | (refine SqL.of ?_; walk_at "hp") | (refine Same.seq (by assumption) (by assumption))))
  | ((with_reducible refine r_cat (xs := ?xx) (zs := ?zz) ?hh ?ii ?ll ?_); (case hh => walk_at "hp"); (case ii => walk_at "hp"); (case ll => walk_at "side"))
  | ((with_reducible refine r_lenL (xs := ?xx) ?hh ?_); (case hh => walk_at "hp"))
  | ((with_reducible refine r_lenT (xs := ?xx) ?hh ?_); (case hh => walk_at "hp"))
  | ((with_reducible refine r_gTup (xs := ?xx) ?hh ?ll ?_); (case hh => walk_at "hp"); (case ll => exact rfl))
  | (with_reducible refine r_gCons ?_)
  | (with_reducible refine r_gNil ?_)
  | ((with_reducible refine r_iteDT ?cc ?_); (case cc => walk_at "cond"))
  | ((with_reducible refine r_iteDF ?cc ?_); (case cc => walk_at "cond"))
  | ((with_reducible refine r_iteNDT ?cc ?_); (case cc => walk_at "cond"))
  | ((with_reducible refine r_iteNDF ?cc ?_); (case cc => walk_at "cond"))
  ))
local macro_rules | `(tactic| walk_at "go") => `(tactic| repeat (walk_at "s"))

theorem ok_l_is_int {f : Addr} {fd : FuncData} (F : Fun K "_law_is_int" "_law_is_int" s_l_is_int f fd) (B : Bl mg) : FnOk P w K mg base CX0 1 f fd ["_law_thing"] spIsInt := by
  refine F.ok sc_l_is_int (fun vs H Q E h => ?_) (fun cdv A outer s H vs Q E hr h => ?_)
  · obtain ⟨c, rfl, _⟩ := h
    rfl
  · obtain ⟨c, rfl, k⟩ := h
    refine ⟨_, (pss_one (ps_ret (pe_and (pe_callB (call_isiKK (K := K)) (by rfl) B.b_isinstance (by decide +kernel) (pa_cons (pv 0) (pa_cons (pe_bltn (v := .ty "int") (by rfl) B.b_int (by decide +kernel) rfl) pa_nil))) (pe_one (pe_not (pe_callB (call_isiKK (K := K)) (by rfl) B.b_isinstance (by decide +kernel) (pa_cons (pv 0) (pa_cons (pe_bltn (v := .ty "bool") (by rfl) B.b_bool (by decide +kernel) rfl) pa_nil)))))))), ?_⟩
    walk_at "go"
    exact k
theorem ok_l_bulk {f : Addr} {fd : FuncData} (d : Nat) (F : Fun K "_law_bulk" "_law_bulk" s_l_bulk f fd) (h_l_bulk : Has P w K mg base "_law_bulk" d ["_law_piece_here"] (spNumLt Prog.size d)) : FnOk P w K mg base CX0 (d + 1) f fd ["_law_piece_here"] (spNumLt Prog.size (d + 1)) := by
  refine F.ok sc_l_bulk (fun vs H Q E h => ?_) (fun cdv A outer s H vs Q E hr h => ?_)
  · obtain ⟨a, p, rfl, _⟩ := h
    rfl
  · obtain ⟨a, p, rfl, ⟨xs, hx, hp⟩, hw, l2, d2, k⟩ := h
    refine ⟨_, (pss_cons (ps_set (i := 1) sc_l_bulk.nd rfl (.inl rfl) pe_int)
    (pss_cons (ps_for PassesOwn.never rfl (pi_tup (pv 0)) (pg_name (i := 2) sc_l_bulk.nd rfl (.inl rfl))
    (pss_one (ps_if (pt_cmpR op_eq (pe_ix (ix_tupK (K := K)) (pv 2) pe_int (fun _ _ => rfl)) pe_str (nomark _))
    (pss_one (ps_set (i := 1) sc_l_bulk.nd rfl (.inl rfl) (pe_op op_add (pv 1) (pe_op op_mulW (pe_ix (ix_tupK (K := K)) (pv 2) pe_int (fun _ _ => rfl)) (pe_callH h_l_bulk (hr.mono (by first | decide | omega)) (pa_cons (pe_ix (ix_tupK (K := K)) (pv 2) pe_int (fun _ _ => rfl)) pa_nil))))))
    (pss_one (ps_if (pt_cmpR op_eq (pe_ix (ix_tupK (K := K)) (pv 2) pe_int (fun _ _ => rfl)) pe_str (nomark _))
    (pss_one (ps_set (i := 1) sc_l_bulk.nd rfl (.inl rfl) (pe_op op_add (pv 1) (pe_callH h_l_bulk (hr.mono (by first | decide | omega)) (pa_cons (pe_ix (ix_tupK (K := K)) (pv 2) pe_int (fun _ _ => rfl)) pa_nil)))))
    (pss_one (ps_set (i := 1) sc_l_bulk.nd rfl (.inl rfl) (pe_op op_add (pv 1) pe_int))))))))
    (pss_one (ps_ret (pv 1))))), ?_⟩
    walk_at "go"
    refine u_forPr hx hp (fun r σ H' => ∃ (t : Int) (y : Option V), σ = [some (.ref a), some (.int t), y] ∧ H' = H ∧ Wf BC BC d r ∧ t + r.size = p.size) ?_ ?_ ?_ ?_
    · exact ⟨0, none, rfl, rfl, hw, by omega⟩
    · rintro r σ H' ⟨t, y, rfl, rfl, _⟩
      exact Tk.refl _
    · rintro x r r' σ H' hf ⟨t, y, rfl, rfl, hw', e⟩
      cases r with
      | nil => exact hf.elim
      | step w' n r =>
        obtain ⟨c, rfl, h1, rfl⟩ := hf
        obtain ⟨w1, w2, w3⟩ := WfL.step_iff.mp hw'
        obtain ⟨n1, n2, n3⟩ := word_ne w1
        walk_at "go"
        exact ⟨_, _, rfl, rfl, w3, by rw [← e, Prog.size]; omega⟩
      | turn k' r =>
        obtain ⟨c, rfl, h1, rfl⟩ := hf
        walk_at "go"
        exact ⟨_, _, rfl, rfl, (WfL.turn_iff.mp hw').2, by rw [← e, Prog.size]; omega⟩
      | rep k' b r =>
        obtain ⟨c, q, rfl, h1, h2, rfl⟩ := hf
        cases d with
        | zero => exact hw'.elim
        | succ d =>
          obtain ⟨w1, w2, w3, w4⟩ := hw'
          have mw : CMulW k' b.size := mulW_of (count_bits (by have := BC_one; omega) w1.2) (size_bits w3 (by omega) w2.2)
          walk_at "go"
          refine ⟨q, b, rfl, h2, w3, w2.2, by omega, ?_⟩
          walk_at "go"
          exact ⟨_, _, rfl, rfl, w4, by rw [← e, Prog.size]; omega⟩
      | mir b r =>
        obtain ⟨c, q, rfl, h1, h2, rfl⟩ := hf
        cases d with
        | zero => exact hw'.elim
        | succ d =>
          obtain ⟨w2, w3, w4⟩ := hw'
          walk_at "go"
          refine ⟨q, b, rfl, h2, w3, w2.2, by omega, ?_⟩
          walk_at "go"
          exact ⟨_, _, rfl, rfl, w4, by rw [← e, Prog.size]; omega⟩
    · rintro σ H' ⟨t, y, rfl, rfl, _, e⟩
      walk_at "go"
      rw [Prog.size, Int.add_zero] at e
      rw [e]
      exact k
theorem has_bulk {f : Addr} {fd : FuncData} (F : Fun K "_law_bulk" "_law_bulk" s_l_bulk f fd) (g : mg "_law_bulk" = some (.ref f)) (b : Binds K fd ["_law_piece_here"] []) : ∀ d, Has P w K mg base "_law_bulk" d ["_law_piece_here"] (spNumLt Prog.size d)
  | 0 => has_false g F.kp b
  | d + 1 => ⟨f, fd, ok_l_bulk d F (has_bulk F g b d), g, F.kp, b⟩
theorem ok_l_aim {f : Addr} {fd : FuncData} (d : Nat) (F : Fun K "_law_aim" "_law_aim" s_l_aim f fd) (h_l_aim : Has P w K mg base "_law_aim" d ["_law_piece_here"] (spNumLt Prog.head d)) : FnOk P w K mg base CX0 (d + 1) f fd ["_law_piece_here"] (spNumLt Prog.head (d + 1)) := by
  refine F.ok sc_l_aim (fun vs H Q E h => ?_) (fun cdv A outer s H vs Q E hr h => ?_)
  · obtain ⟨a, p, rfl, _⟩ := h
    rfl
  · obtain ⟨a, p, rfl, ⟨xs, hx, hp⟩, hw, l2, d2, k⟩ := h
    refine ⟨_, (pss_cons (ps_set (i := 1) sc_l_aim.nd rfl (.inl rfl) pe_int)
    (pss_cons (ps_for PassesOwn.never rfl (pi_tup (pv 0)) (pg_name (i := 2) sc_l_aim.nd rfl (.inl rfl))
    (pss_one (ps_if (pt_cmpR op_eq (pe_ix (ix_tupK (K := K)) (pv 2) pe_int (fun _ _ => rfl)) pe_str (nomark _))
    (pss_one (ps_set (i := 1) sc_l_aim.nd rfl (.inl rfl) (pe_op op_add (pv 1) (pe_op op_mulW (pe_ix (ix_tupK (K := K)) (pv 2) pe_int (fun _ _ => rfl)) (pe_callH h_l_aim (hr.mono (by first | decide | omega)) (pa_cons (pe_ix (ix_tupK (K := K)) (pv 2) pe_int (fun _ _ => rfl)) pa_nil))))))
    (pss_one (ps_if (pt_cmpR op_eq (pe_ix (ix_tupK (K := K)) (pv 2) pe_int (fun _ _ => rfl)) pe_str (nomark _))
    (pss_one (ps_set (i := 1) sc_l_aim.nd rfl (.inl rfl) (pe_op op_sub (pv 1) (pe_callH h_l_aim (hr.mono (by first | decide | omega)) (pa_cons (pe_ix (ix_tupK (K := K)) (pv 2) pe_int (fun _ _ => rfl)) pa_nil)))))
    (pss_one (ps_if (pt_cmpR op_eq (pe_ix (ix_tupK (K := K)) (pv 2) pe_int (fun _ _ => rfl)) pe_str (nomark _))
    (pss_one (ps_set (i := 1) sc_l_aim.nd rfl (.inl rfl) (pe_op op_add (pv 1) (pe_ix (ix_tupK (K := K)) (pv 2) pe_int (fun _ _ => rfl)))))
    pss_nil)))))))
    (pss_one (ps_ret (pv 1))))), ?_⟩
    walk_at "go"
    refine u_forPr hx hp (fun r σ H' => ∃ (t : Int) (y : Option V), σ = [some (.ref a), some (.int t), y] ∧ H' = H ∧ Wf BC BC d r ∧ t + r.head = p.head) ?_ ?_ ?_ ?_
    · exact ⟨0, none, rfl, rfl, hw, by omega⟩
    · rintro r σ H' ⟨t, y, rfl, rfl, _⟩
      exact Tk.refl _
    · rintro x r r' σ H' hf ⟨t, y, rfl, rfl, hw', e⟩
      cases r with
      | nil => exact hf.elim
      | step w' n r =>
        obtain ⟨c, rfl, h1, rfl⟩ := hf
        obtain ⟨w1, w2, w3⟩ := WfL.step_iff.mp hw'
        obtain ⟨n1, n2, n3⟩ := word_ne w1
        walk_at "go"
        exact ⟨_, _, rfl, rfl, w3, by rw [← e, Prog.head]⟩
      | turn k' r =>
        obtain ⟨c, rfl, h1, rfl⟩ := hf
        walk_at "go"
        exact ⟨_, _, rfl, rfl, (WfL.turn_iff.mp hw').2, by rw [← e, Prog.head]; omega⟩
      | rep k' b r =>
        obtain ⟨c, q, rfl, h1, h2, rfl⟩ := hf
        cases d with
        | zero => exact hw'.elim
        | succ d =>
          obtain ⟨w1, w2, w3, w4⟩ := hw'
          have mw : CMulW k' b.head := mulW_of (count_bits (by have := BC_one; omega) w1.2) (head_bits w3 (by omega) w2.2)
          walk_at "go"
          refine ⟨q, b, rfl, h2, w3, w2.2, by omega, ?_⟩
          walk_at "go"
          exact ⟨_, _, rfl, rfl, w4, by rw [← e, Prog.head]; omega⟩
      | mir b r =>
        obtain ⟨c, q, rfl, h1, h2, rfl⟩ := hf
        cases d with
        | zero => exact hw'.elim
        | succ d =>
          obtain ⟨w2, w3, w4⟩ := hw'
          walk_at "go"
          refine ⟨q, b, rfl, h2, w3, w2.2, by omega, ?_⟩
          walk_at "go"
          exact ⟨_, _, rfl, rfl, w4, by rw [← e, Prog.head]; omega⟩
    · rintro σ H' ⟨t, y, rfl, rfl, _, e⟩
      walk_at "go"
      rw [Prog.head, Int.add_zero] at e
      rw [e]
      exact k
theorem has_aim {f : Addr} {fd : FuncData} (F : Fun K "_law_aim" "_law_aim" s_l_aim f fd) (g : mg "_law_aim" = some (.ref f)) (b : Binds K fd ["_law_piece_here"] []) : ∀ d, Has P w K mg base "_law_aim" d ["_law_piece_here"] (spNumLt Prog.head d)
  | 0 => has_false g F.kp b
  | d + 1 => ⟨f, fd, ok_l_aim d F (has_aim F g b d), g, F.kp, b⟩
def spWild : Sp := fun vs H Q _ => ∃ (a : Addr) (n : Int) (z : Str), vs = [.ref a, .int n, .str z] ∧ Bag H a ∧ Names z ∧
  ∀ q p H', But a H H' → Bag H' a → Tk H H' → PrIs H' q p → WfL 5 BC BC 6 p → 1 ≤ p.len → p.len ≤ 5 → Q (.ref q) H'
theorem ok_l_wild {f : Addr} {fd : FuncData} (F : Fun K "_law_wild" "_law_wild" s_l_wild f fd) (B : Bl mg) (h_l_pick : Has P w K mg base "_law_pick" 1 ["_law_bag", "_law_many"] spPick) (h_l_piece : Has P w K mg base "_law_piece" 9 ["_law_bag", "_law_pot", "_law_deep", "_law_free", "_law_wild_here"] spPiece) :
   FnOk P w K mg base CX0 10 f fd ["_law_bag", "_law_room", "_law_names_here"] spWild := by
  refine F.ok sc_l_wild (fun vs H Q E h => ?_) (fun cdv A outer s H vs Q E hr h => ?_)
  · obtain ⟨a, n, z, rfl, _⟩ := h
    rfl
  · obtain ⟨a, n, z, rfl, ba, hz, k⟩ := h
    refine ⟨_, (pss_cons (ps_set (i := 3) sc_l_wild.nd rfl (.inl rfl) (pe_lst (pa_cons (pe_callB (call_min2 rfl) (by rfl) B.b_min (by decide +kernel) (pa_cons (pv 1) (pa_cons (pe_ix (ix_listK (K := K)) (pe_lst (pa_cons pe_int (pa_cons pe_int (pa_cons pe_int pa_nil)))) (pe_callH h_l_pick (hr.mono (by first | decide | omega)) (pa_cons (pv 0) (pa_cons pe_int pa_nil))) (fun _ _ => rfl)) pa_nil))) (pa_cons (pv 2) pa_nil))))
    (pss_cons (ps_set (i := 4) sc_l_wild.nd rfl (.inl rfl) (pe_callH h_l_piece (hr.mono (by first | decide | omega)) (pa_cons (pv 0) (pa_cons (pv 3) (pa_cons (pe_ix (ix_listK (K := K)) (pe_lst (pa_cons pe_int (pa_cons pe_int (pa_cons pe_int pa_nil)))) (pe_callH h_l_pick (hr.mono (by first | decide | omega)) (pa_cons (pv 0) (pa_cons pe_int pa_nil))) (fun _ _ => rfl)) (pa_cons pe_int (pa_cons pe_bl pa_nil)))))))
    (pss_cutM (ps_if (pt_cmpR op_eq (pe_callH h_l_pick (hr.mono (by first | decide | omega)) (pa_cons (pv 0) (pa_cons pe_int pa_nil))) pe_int (nomark _))
    (pss_one (ps_set (i := 4) sc_l_wild.nd rfl (.inl rfl) (pe_tup (pa_cons (pe_tup (pa_cons pe_str (pa_cons (pe_op op_add pe_int (pe_callH h_l_pick (hr.mono (by first | decide | omega)) (pa_cons (pv 0) (pa_cons pe_int pa_nil)))) (pa_cons (pv 4) pa_nil)))) pa_nil))))
    pss_nil)
    (pss_one (ps_ret (pv 4)))))), ?_⟩
    walk_at "go"
    intro c nc
    have nca : c ≠ a := ba.ne nc
    walk_at "go"
    refine u_pick (ba.keep nc) (by omega) (by omega) fun r H1 r0 r1 bu1 b1 => ?_
    have hc1 : H1 c = some (.lst [.int 12, .int 24, .int 56]) := bu1 _ _ nca upd_same
    obtain ⟨v, hv⟩ : ∃ v, atI [V.int 12, V.int 24, V.int 56] r = some (.int v) := by
      rcases (by omega : r = 0 ∨ r = 1 ∨ r = 2) with rfl | rfl | rfl <;> exact ⟨_, rfl⟩
    refine r_ixL (SqL.of hc1) hv ?_
    walk_at "go"
    intro o no
    have noa : o ≠ a := b1.ne no
    have bo : Bag (upd H1 o (.lst [.int (if v < n then v else n), .str z])) a := b1.keep no
    have ho : upd H1 o (.lst [.int (if v < n then v else n), .str z]) o = some (.lst [.int (if v < n then v else n), .str z]) := upd_same
    have buo : But a H (upd H1 o (.lst [.int (if v < n then v else n), .str z])) := (((But.refl a H).new nc).trans bu1).new no
    have tko : Tk H (upd H1 o (.lst [.int (if v < n then v else n), .str z])) := (((Tk.refl H).new nc).trans (Tk.but bu1 (ba.keep nc))).new no
    have fo : H o = none := But.free (((But.refl a H).new nc).trans bu1) noa no
    change gName _ _ _ (upd H1 o (.lst [.int (if v < n then v else n), .str z])) _
    generalize upd H1 o (.lst [.int (if v < n then v else n), .str z]) = H2 at *
    walk_at "go"
    intro e ne
    have nea : e ≠ a := bo.ne ne
    have neo : e ≠ o := (ne_of_none ho ne).symm
    walk_at "go"
    refine u_pick (bo.keep ne) (by omega) (by omega) fun r2 H3 p0 p1 bu3 b3 => ?_
    have he3 : H3 e = some (.lst [.int 1, .int 3, .int 5]) := bu3 _ _ nea upd_same
    have ho3 : H3 o = _ := bu3 _ _ noa (h_keep ho ne)
    obtain ⟨dd, hd, hd5⟩ : ∃ dd : Nat, atI [V.int 1, V.int 3, V.int 5] r2 = some (.int (dd : Int)) ∧ dd ≤ 5 := by
      rcases (by omega : r2 = 0 ∨ r2 = 1 ∨ r2 = 2) with rfl | rfl | rfl
      · exact ⟨1, rfl, by omega⟩
      · exact ⟨3, rfl, by omega⟩
      · exact ⟨5, rfl, by omega⟩
    refine r_ixL (SqL.of he3) hd ?_
    walk_at "go"
    refine ⟨dd, hd5, a, o, _, z, 3, true, rfl, b3, ho3, hz, fun q p H4 nq bu4 b4 po4 tk4 hq w5 q1 q5 q6 => ?_⟩
    have bu34 : But a H H4 := fun x u xa ex => bu4 x u xa (ne_of_none ex fo) (bu3 x u xa (h_keep (buo x u xa ex) ne))
    have tk34 : Tk H H4 := tko.trans (((Tk.refl _).new ne).trans ((Tk.but bu3 (bo.keep ne)).trans tk4))
    have w6 : WfL 5 BC BC 6 p := WfL.mono (Int.le_refl _) (Int.le_refl _) (by omega) w5
    walk_at "go"
    refine r_cut (fun σ' H' => ∃ (q : Addr) (p : Prog), σ'[4]? = some (some (.ref q)) ∧ But a H H' ∧ Bag H' a ∧ Tk H H' ∧ PrIs H' q p ∧ WfL 5 BC BC 6 p ∧ 1 ≤ p.len ∧ p.len ≤ 5) ?_ ?_
    · walk_at "go"
      refine u_pick b4 (by omega) (by omega) fun r5 H5 _ _ bu5 b5 => ?_
      have tk5 := tk34.trans (Tk.but bu5 b4)
      have hq5 := hq.tk (Tk.but bu5 b4)
      walk_at "go"
      refine r_iteD (fun h6 => ?_) (fun h6 => ?_)
      · walk_at "go"
        refine u_pick b5 (by omega) (by omega) fun r6 H6 g0 g1 bu6 b6 => ?_
        walk_at "go"
        intro x nx
        walk_at "go"
        intro y ny
        walk_at "go"
        have c3 : (1000 : Int) ≤ BC := by decide +kernel
        have nxy : x ≠ y := by
          intro hxy
          rw [hxy, upd_same] at ny
          cases ny
        have t6 : Tk H5 (upd (upd H6 x (.tup [.str "repeat", .int (1 + r6), .ref q])) y (.tup [.ref x])) := ((Tk.but bu6 b5).new nx).new ny
        have hq6 := hq5.tk t6
        refine ⟨y, .rep (1 + r6) p .nil, rfl, ?_, ?_, tk5.trans t6, ⟨_, upd_same, x, q, _, [], rfl, (upd_ne nxy).trans upd_same, hq6.choose_spec.1, hq6.choose_spec.2, rfl⟩, ⟨⟨by omega, by omega⟩, ⟨q1, by omega⟩, ?_, WfL.nil⟩, by rw [Prog.len]; omega, by rw [Prog.len, Prog.len]; omega⟩
        · exact (((bu34.trans bu5).trans bu6).new nx).new ny
        · exact (b6.keep nx).keep ny
        · exact WfL.mono (Int.le_refl _) (Int.le_refl _) hd5 w5
      · walk_at "go"
        exact ⟨q, p, rfl, bu34.trans bu5, b5, tk5, hq5, w6, q1, q5⟩
    · rintro σ' H' ⟨q, p, hσ, bu, bg, tk, hq, hw, l1, l5⟩
      refine r_ret ?_
      refine r_var hσ ?_
      exact k q p _ bu bg tk hq hw l1 l5
end
end My

set_option Elab.async false
set_option linter.all false
set_option maxRecDepth 100000
namespace My
open PySem PySem.Spec PyProof.Rows L2
/-! ### methods of own classes, by their names -/
structure HasM (P : Program) (w : World) (K : PySem.W.Frag) (mg : Str → Option Value) (base : Heap) (C : Addr) (m : Str) (k : Nat) (ps : List Str) (sp : Sp) : Prop where
  ex : ∃ f fd, FnOk P w K mg base CX0 k f fd ps sp ∧ Meth K C m f ∧ Binds K fd ps []
theorem HasM.mono {P : Program} {w : World} {K : PySem.W.Frag} {mg : Str → Option Value} {base : Heap} {C : Addr} {m : Str} {j k : Nat} {ps : List Str} {sp : Sp} (h : HasM P w K mg base C m j ps sp) (hk : j ≤ k) : HasM P w K mg base C m k ps sp := by
  obtain ⟨f, fd, F, a, b⟩ := h.ex
  exact ⟨f, fd, F.mono hk, a, b⟩
section
variable {X : Cx} {pins : List (Addr × Obj)} {σ : L2.St} {H : Hp} {s : Shared} {Q : VK} {C : Addr} {m : Str} {k : Nat} {ps : List Str} {sp : Sp} {f : Addr} {fd : FuncData}
theorem run_m (F : FnOk X.prog X.w X.K X.mg X.base CX0 k f fd ps sp) (b : Binds X.K fd ps []) (hr : Room k X.A) (I : Inv X pins σ H s) {us : List Value} {vs : List V} (r : Vals vs us) (q : sp vs H Q E0) : wpAny (model X.prog X.w) X.A (call (.ref f) us) (EP X pins σ Q) X.xe s :=
  run_fn F hr b .nil pass0 I r (by rw [List.append_nil]; exact q)
theorem run_m1 (F : FnOk X.prog X.w X.K X.mg X.base CX0 k f fd ps sp) (b : Binds X.K fd ps []) (hr : Room (k + 1) X.A) (I : Inv X pins σ H s) {us : List Value} {vs : List V} (r : Vals vs us) (q : sp vs H Q E0) : wpAny (model X.prog X.w) X.A.in1 (call (.ref f) us) (EP X pins σ Q) X.xe s := by
  have hl : us.length = ps.length := by rw [← r.length]; exact F.len _ _ _ _ q
  refine wpAny_call (codeAny_mono (F.run X.A.in1 X.stack s H ⟨us, []⟩ us vs Q E0 hr.in1 I.env0.in1 (by simpa using b s us I.kIn (by simpa using hl)) r q) fun r s' hq => ?_)
  cases r with
  | error e => exact (pass0 (X := X)) pins σ H s e s' I hq
  | ok fl =>
    cases fl with
    | ret u => exact I.after hq
    | next => exact False.elim hq
    | brk => exact False.elim hq
    | cont => exact False.elim hq
/-- x op y, both instances of the class at C -/
def rOwn2 (C : Addr) (sp : Sp) : R2 := fun x y H Q => ∃ a dx fs b dy gs, x = .ref a ∧ y = .ref b ∧ H a = some (.ins C dx fs) ∧ H b = some (.ins C dy gs) ∧ sp [x, y] H Q E0
theorem op_own2 {op : Operator} (h : HasM X.prog X.w X.K X.mg X.base C m k ps sp) (hc : PySem.W.selfFirst X.K C = true) (hr : Room k X.A) (hm : PySem.dunder op.info.2 = m := by rfl) : OpR X (binaryOp op) (rOwn2 C sp) := by
  intro pins s σ H x y v u Q I rx ry q
  obtain ⟨f, fd, F, M, b⟩ := h.ex
  obtain ⟨a, dx, fs, a', dy, gs, rfl, rfl, ha, hb, q⟩ := q
  cases rx
  cases ry
  obtain ⟨mA, O, _⟩ := ins_get I.hok ha
  obtain ⟨od, J, _⟩ := O.look
  obtain ⟨mB, O', _⟩ := ins_get I.hok hb
  obtain ⟨od', J', _⟩ := O'.look
  obtain ⟨m', hF⟩ := I.fr
  refine PySem.W.binop_K hF I.ok.mod.kin J J'.type hc (by rw [hm]; exact M.at_) M.fn ?_
  exact wpAny_mono (run_m (vs := [.ref a, .ref a']) F b hr I (.cons rfl (.cons rfl .nil)) q) (fun w s' ⟨z, H', I', rz, qz⟩ => SlX.cmpback rz ⟨z, H', I', rz, qz⟩) fun _ _ x => x
/-! ### the types of all values, own errors too -/
structure ExcTy (K : PySem.W.Frag) (D : Addr) : Prop where
  ga : PySem.W.findIn K (.ref D) "__getattribute__" = some (some (.builtin "BaseException.__getattribute__"))
  gt : PySem.W.findIn K (.ref D) "__getattr__" = some none
  sub : PySem.W.subIn K (.ref D) (.type "BaseException") = some true
  dct : PySem.W.hasDictIn K D = true
  cl : PySem.W.findIn K (.ref D) "__class__" = some (some (.builtin "object.__class__"))
  cn : PySem.W.specialIn K (.builtin "object.__class__") "__get__" = some (some (.builtin "getset_descriptor.__get__"))
  ct : PySem.W.takesIn K (.builtin "object.__class__") = some true
  mr : PySem.W.mroIn K D (.type "object") = some true
/-- a caught exception, held as a value -/
def ExV (cls : Value) (d : Option Addr) (a : Addr) : HO := .ext fun h => ∃ (oe : Obj) (vs : Array Value), h.get? a = some oe ∧ Zc cls d oe ∧ oe.data = .fields vs
inductive TyE (K : PySem.W.Frag) (H : Hp) : V → Value → Prop where
  | x {y : V} {t : Value} (h : TyX K H y t) : TyE K H y t
  | exc {p D : Addr} (h : H p = some (ExO (.ref D) p)) (F : ExcTy K D) : TyE K H (.ref p) (.ref D)
  | exv {p D : Addr} (h : H p = some (ExV (.ref D) none p)) (F : ExcTy K D) : TyE K H (.ref p) (.ref D)
theorem kit_ofE {y : V} {u t : Value} (I : Inv X pins σ H s) (ry : RelV y u) (ty : TyE X.K H y t) : ∃ P : Heap → Prop, PySem.W.KitX X.K u t P ∧ P s.heap ∧ u ≠ .builtin "__main__.__loader__#opaque" := by
  cases ty with
  | x h => exact kit_of I ry h
  | @exc p D h F =>
    cases ry
    obtain ⟨⟨oe, vs, e, z, d, _⟩, _, _⟩ := I.hok p _ h
    obtain ⟨z1, z2⟩ := z
    have J : PySem.W.InstAt s.heap p oe D none := ⟨e, z1, by unfold PySem.W.notCls; rw [d], by rw [z2]; trivial⟩
    exact ⟨_, PySem.W.handS_kitx_exc F.ga F.gt F.sub F.dct F.cl F.cn F.ct F.mr, J, fun z => nomatch z⟩
  | @exv p D h F =>
    cases ry
    obtain ⟨⟨oe, vs, e, z, d⟩, _, _⟩ := I.hok p _ h
    obtain ⟨z1, z2⟩ := z
    have J : PySem.W.InstAt s.heap p oe D none := ⟨e, z1, by unfold PySem.W.notCls; rw [d], by rw [z2]; trivial⟩
    exact ⟨_, PySem.W.handS_kitx_exc F.ga F.gt F.sub F.dct F.cl F.cn F.ct F.mr, J, fun z => nomatch z⟩
/-- isinstance(x, c), one class -/
def rIsiE (K : PySem.W.Frag) : List V → Hp → VK → Prop := fun xs H Q => ∃ (x c : V) (t u : Value) (b : Bool), xs = [x, c] ∧ ClsV c u ∧ TyE K H x t ∧ PySem.W.kitOne K t u = some b ∧ Q (.bl b) H
theorem call_isiE : CallR X (.builtin "isinstance") (rIsiE X.K) := by
  intro pins s σ H xs us Q I r h
  obtain ⟨x, c, t, u, b, rfl, hc, ty, e, q⟩ := h
  obtain ⟨v, w, rfl, rv, rw'⟩ := vals2 r
  cases hc.eq rw'
  obtain ⟨P, k, hP, ne⟩ := kit_ofE I rv ty
  exact PySem.W.kia_one k I.kIn hP e ne fun tk => ⟨.bl b, H, I.tok _, rfl, q⟩
/-- isinstance(x, (c1, c2, ..)) -/
def rIsiTE (K : PySem.W.Frag) : List V → Hp → VK → Prop := fun xs H Q => ∃ (x : V) (tp : Addr) (cs : List V) (t : Value) (us : List Value) (b : Bool), xs = [x, .ref tp] ∧ H tp = some (.tup cs) ∧ Paired ClsV cs us ∧ TyE K H x t ∧ PySem.W.kitAny K t us = some b ∧ Q (.bl b) H
theorem call_isiTE : CallR X (.builtin "isinstance") (rIsiTE X.K) := by
  intro pins s σ H xs us Q I r h
  obtain ⟨x, tp, cs, t, ws, b, rfl, hT, k, ty, e, q⟩ := h
  obtain ⟨u1, u2, rfl, r1, r2⟩ := vals2 r
  cases (show u2 = Value.ref tp from r2)
  obtain ⟨P, Z, p, hx⟩ := kit_ofE I r1 ty
  obtain ⟨_, its, rv, o, h1, h2, n, h3⟩ := (show ObjOk X.prog X.w H s.heap tp (.tup cs) from I.hok tp _ hT)
  have e3 := ClsV.all k rv
  subst e3
  obtain ⟨oc, od, dt, sl⟩ := o
  simp only at h2 h3
  subst h2 h3
  exact PySem.W.kia_tup Z I.kIn p h1 e hx fun tk => ⟨.bl b, H, I.tok tk, rfl, q⟩
/-- x == y, x an instance of the class at C -/
def rOwnEq (K : PySem.W.Frag) (C : Addr) (sp : Sp) : R2 := fun x y H Q => ∃ a dx fs t, x = .ref a ∧ H a = some (.ins C dx fs) ∧ TyE K H y t ∧ PySem.W.notFirst K C t = true ∧ sp [x, y] H Q E0
theorem op_eqOwn (h : HasM X.prog X.w X.K X.mg X.base C "__eq__" k ps sp) (hr : Room k X.A) : OpR X (compareOp .Eq) (rOwnEq X.K C sp) := by
  intro pins s σ H x y v u Q I rx ry q
  obtain ⟨f, fd, F, M, b⟩ := h.ex
  obtain ⟨a, dx, fs, t, rfl, ha, ty, hn, q⟩ := q
  cases rx
  obtain ⟨mA, O, _⟩ := ins_get I.hok ha
  obtain ⟨od, J, _⟩ := O.look
  obtain ⟨m', hF⟩ := I.fr
  obtain ⟨P, k, hP, _⟩ := kit_ofE I ry ty
  refine PySem.W.cmp_K (op := .Eq) (tb := t) hr.units0 hF I.ok.mod.kin J (k.ty _ _ I.kIn hP) hn M.at_ M.fn ?_
  exact wpAny_mono (run_m (vs := [.ref a, y]) F b hr I (.cons rfl (.cons ry .nil)) q) (fun w s' ⟨z, H', I', rz, qz⟩ => SlX.cmpback rz ⟨z, H', I', rz, qz⟩) fun _ _ x => x
/-- len(x) -/
def rLenOwn (C : Addr) (sp : Sp) : List V → Hp → VK → Prop := fun xs H Q => ∃ a dx fs, xs = [.ref a] ∧ H a = some (.ins C dx fs) ∧ sp [.ref a] H (fun v H' => ∃ n : Nat, v = .int n ∧ n ≤ 16000000 ∧ Q v H') E0
theorem call_lenOwn (h : HasM X.prog X.w X.K X.mg X.base C "__len__" k ps sp) (hr : Room (k + 1) X.A) : CallR X (.builtin "len") (rLenOwn C sp) := by
  intro pins s σ H xs us Q I r q
  obtain ⟨f, fd, F, M, b⟩ := h.ex
  obtain ⟨a, dx, fs, rfl, ha, q⟩ := q
  obtain ⟨u, rfl, ru⟩ := r.one
  cases ru
  obtain ⟨mA, O, _⟩ := ins_get I.hok ha
  obtain ⟨od, J, _⟩ := O.look
  obtain ⟨m', hF⟩ := I.fr
  refine PySem.W.len_K hF I.ok.mod.kin J M.at_ M.fn ?_
  refine wpAny_mono (run_m1 (vs := [.ref a]) F b hr I (.cons rfl .nil) q) (fun w s' z => ?_) fun _ _ x => x
  obtain ⟨z, H', I', rz, n, rfl, hn, qz⟩ := z
  obtain ⟨t, rfl⟩ := (show ∃ t, w = Value.int n t from rz)
  exact ⟨⟨by omega, by omega⟩, .int n, H', I'.tok _, ⟨_, rfl⟩, qz⟩
/-- -x, ~x -/
def rOwn1 (C : Addr) (sp : Sp) : V → Hp → VK → Prop := fun x H Q => ∃ a dx fs, x = .ref a ∧ H a = some (.ins C dx fs) ∧ sp [x] H Q E0
theorem un_negOwn (h : HasM X.prog X.w X.K X.mg X.base C "__neg__" k ps sp) (hr : Room k X.A) : UnR X (unaryOp .USub) (rOwn1 C sp) := by
  intro pins s σ H x v Q I rx q
  obtain ⟨f, fd, F, M, b⟩ := h.ex
  obtain ⟨a, dx, fs, rfl, ha, q⟩ := q
  cases rx
  obtain ⟨mA, O, _⟩ := ins_get I.hok ha
  obtain ⟨od, J, _⟩ := O.look
  obtain ⟨m', hF⟩ := I.fr
  exact PySem.W.ksp_neg hF I.ok.mod.kin J M.at_ M.fn (run_m (vs := [.ref a]) F b hr I (.cons rfl .nil) q)
theorem un_invOwn (h : HasM X.prog X.w X.K X.mg X.base C "__invert__" k ps sp) (hr : Room k X.A) : UnR X (unaryOp .Invert) (rOwn1 C sp) := by
  intro pins s σ H x v Q I rx q
  obtain ⟨f, fd, F, M, b⟩ := h.ex
  obtain ⟨a, dx, fs, rfl, ha, q⟩ := q
  cases rx
  obtain ⟨mA, O, _⟩ := ins_get I.hok ha
  obtain ⟨od, J, _⟩ := O.look
  obtain ⟨m', hF⟩ := I.fr
  exact PySem.W.ksp_inv hF I.ok.mod.kin J M.at_ M.fn (run_m (vs := [.ref a]) F b hr I (.cons rfl .nil) q)
/-- x op n, x an instance of the class at C, n an int -/
structure IntOp (K : PySem.W.Frag) (C : Addr) (nm : String) : Prop where
  rc : ∃ rc, PySem.W.findIn K (.ref C) (dunderR nm) = some rc ∧ (rc = none ∨ ∃ g : Addr, rc = some (.ref g))
  fo : ∃ fo, PySem.W.findIn K (.type "int") (PySem.dunder nm) = some fo
  ro : ∃ ro, PySem.W.findIn K (.type "int") (dunderR nm) = some ro
  sub : PySem.W.subIn K (.type "int") (.ref C) = some false
def rOwnI (C : Addr) (sp : Sp) : R2 := fun x y H Q => ∃ a dx fs i, x = .ref a ∧ y = .int i ∧ H a = some (.ins C dx fs) ∧ sp [x, y] H Q E0
theorem op_ownI {op : Operator} (h : HasM X.prog X.w X.K X.mg X.base C m k ps sp) (hc : PySem.W.selfFirst X.K C = true) (N : IntOp X.K C op.info.2) (hr : Room k X.A) (hm : PySem.dunder op.info.2 = m := by rfl) : OpR X (binaryOp op) (rOwnI C sp) := by
  intro pins s σ H x y v u Q I rx ry q
  obtain ⟨f, fd, F, M, b⟩ := h.ex
  obtain ⟨a, dx, fs, i, rfl, rfl, ha, q⟩ := q
  cases rx
  obtain ⟨t, rfl⟩ := ry
  obtain ⟨mA, O, _⟩ := ins_get I.hok ha
  obtain ⟨od, J, _⟩ := O.look
  obtain ⟨m', hF⟩ := I.fr
  obtain ⟨rc, r1, r2⟩ := N.rc
  obtain ⟨fo, f1⟩ := N.fo
  obtain ⟨ro, o1⟩ := N.ro
  refine PySem.W.ksp_binT (T := "int") hF I.ok.mod.kin J rfl hc (by rw [hm]; exact M.at_) M.fn r1 r2 f1 o1 N.sub ?_
  exact wpAny_mono (run_m (vs := [.ref a, .int i]) F b hr I (.cons rfl (.cons ⟨t, rfl⟩ .nil)) q) (fun w s' ⟨z, H', I', rz, qz⟩ => SlX.cmpback rz ⟨z, H', I', rz, qz⟩) fun _ _ x => x
end
end My

set_option Elab.async false
set_option linter.all false
set_option maxRecDepth 100000
namespace My
open PySem PySem.Spec PyProof.Rows L2
/-! ### a def called with fewer values than it has parameters -/
structure HasD (P : Program) (w : World) (K : PySem.W.Frag) (mg : Str → Option Value) (base : Heap) (x : Str) (k : Nat) (ps : List Str) (sp : Sp) (dvs : List V) : Prop where
  ex : ∃ f fd ds, FnOk P w K mg base CX0 k f fd ps sp ∧ mg x = some (.ref f) ∧ PySem.W.keepIn K (.ref f) = true ∧ Binds K fd ps ds ∧ Vals dvs ds
section
variable {X : Cx} {k : Nat} {ps : List Str} {sp : Sp} {x : Str} {p pos : Pos} {e : Expr} {es : List Expr} {t : TA} {dvs : List V}
theorem pe_callHD (h : HasD X.prog X.w X.K X.mg X.base x k ps sp dvs) (hr : Room k X.A) (ha : PA X (e :: es) t) (hg : Gl X x := by rfl) (hdb : (x == ("__debug__" : Str)) = false := by decide)
   (hs : starEach (e :: es) X.env = (false, eval e X.env) :: starEach es X.env := by rfl) (hplain : (backTo pos (starEach es X.env)).any (·.1) = false := by rfl) :
   PE X (.Call (.Name x p) (e :: es) [] pos) (tCall sp dvs E0 t) := by
  obtain ⟨f, fd, ds, F, a, b, c, d⟩ := h.ex
  exact pe_call F hr hg a b c d pass0 ha hdb hs hplain
end
theorem r_callD {sp : Sp} {E : XK} {t : TA} {d : V} {ds : List V} {σ : L2.St} {H : Hp} {Q : VK} (q : t σ H fun vs H1 => sp (vs ++ d :: ds) H1 Q E) : tCall sp (d :: ds) E t σ H Q := q
theorem r_rep {l : Addr} {k : Int} {xs : List V} {H : Hp} {Q : VK} (h : H l = some (.lst xs)) (h1 : 0 ≤ k) (h2 : k < 2 ^ 63) (hz : xs.length * k.toNat ≤ 16000000)
    (q : ∀ p, H p = none → Q (.ref p) (upd H p (.lst (List.replicate k.toNat xs).flatten))) : rRep (.ref l) (.int k) H Q := ⟨l, k, xs, rfl, rfl, h, by omega, h2, Nat.le_trans hz (by decide), q⟩
theorem PrAt.times {H : Hp} {p : Prog} {xs : List V} (h : PrAt H p xs) : ∀ n, PrAt H (Prog.times n p) (List.replicate n xs).flatten
  | 0 => rfl
  | n + 1 => by
    rw [List.replicate_succ, List.flatten_cons]
    exact h.app (h.times n)
def rAbs : List V → Hp → VK → Prop := fun xs H Q => ∃ i, xs = [.int i] ∧ Q (.int (if i < 0 then -i else i)) H
theorem call_absA {X : Cx} : CallR X (.builtin "abs") rAbs := call_abs
theorem r_abs {i : Int} {H : Hp} {Q : VK} (q : Q (.int (if i < 0 then -i else i)) H) : rAbs [.int i] H Q := ⟨i, rfl, q⟩
section
variable {σ : L2.St} {H : Hp} {K : PySem.W.Frag} {D : Ends} {tb : TS} {g : TG} {a : Addr} {xs : List V} {p : Prog}
/-- for command in a list of commands -/
theorem u_forPrL (h : H a = some (.lst xs)) (hp : PrAt H p xs) (I : Prog → L2.St → Hp → Prop) (h0 : I p σ H) (hk : ∀ r σ H', I r σ H' → Tk H H' ∧ H' a = some (.lst xs))
    (hs : ∀ x r r' σ H', First H' r x r' → I r σ H' → g x σ H' fun σ2 H2 => tb { D with nx := I r', ct := I r', bk := D.nx } σ2 H2) (hd : ∀ σ H', I .nil σ H' → D.nx σ H') :
    ∃ b, V.ref a = .ref b ∧ (∃ xs, SqL K H b xs) ∧ ∃ W : Nat → Nat → L2.St → Hp → Prop, (∃ m, W 0 m σ H) ∧ ∀ i m σ H, W i m σ H →
      ((Itl K b).stop i H ∧ D.nx σ H) ∨ ((Itl K b).go i H ∧ ∃ N : L2.St → Hp → Prop, (∀ σ' H', N σ' H' → ∃ m', m' < m ∧ W (i + 1) m' σ' H') ∧ ∀ x H', (Itl K b).yld i H x H' → g x σ H' fun σ2 H2 => tb { D with nx := N, ct := N, bk := D.nx } σ2 H2) := by
  refine ⟨a, rfl, ⟨xs, .of h⟩, ⟨fun i m σ' H' => m = xs.length - i ∧ i ≤ xs.length ∧ ∃ r, PrAt H r (xs.drop i) ∧ I r σ' H', ⟨xs.length, by simp, Nat.zero_le _, p, hp, h0⟩, ?_⟩⟩
  rintro i m σ' H' ⟨rfl, hi, r, hr, ir⟩
  have hT : SqL K H' a xs := .of (hk _ _ _ ir).2
  by_cases hlt : i < xs.length
  · have hx : xs[i]? = some xs[i] := List.getElem?_eq_getElem hlt
    rw [drop_cons hx] at hr
    obtain ⟨r', f, hr'⟩ := hr.first
    refine .inr ⟨⟨xs, xs[i], hT, hx⟩, I r', fun σ2 H2 q => ⟨_, by omega, rfl, hlt, r', hr', q⟩, fun x H2 hy => ?_⟩
    obtain ⟨rfl, fx⟩ := hy
    have ex : x = xs[i] := Option.some.inj ((fx xs hT).symm.trans hx)
    subst ex
    exact hs _ r r' _ _ (f.tk (hk _ _ _ ir).1) ir
  · have e : i = xs.length := by omega
    subst e
    rw [List.drop_length] at hr
    have hn : r = .nil := by
      cases r with
      | nil => rfl
      | step w n r => obtain ⟨c, zs, e, _⟩ := hr; cases e
      | turn k r => obtain ⟨c, zs, e, _⟩ := hr; cases e
      | rep k b r => obtain ⟨c, q, zs, ws, e, _⟩ := hr; cases e
      | mir b r => obtain ⟨c, q, zs, ws, e, _⟩ := hr; cases e
    subst hn
    exact .inl ⟨⟨xs, hT, Nat.le_refl _⟩, hd _ _ ir⟩
end
section
variable {P : Program} {w : World} {K : PySem.W.Frag} {mg : Str → Option Value} {base : Heap} {x qual : Str} {params : Arguments} {body : List Stmt} {scope : Scope} {dvs : List V} {kws : List (Str × V)} {f : Addr} {fd : FuncData}
theorem okD {N ps : List Str} {k : Nat} {sp : Sp} (F : FunD K x qual params body scope dvs kws f fd) (S : FnScope N ps scope) (len : ∀ vs H Q E, sp vs H Q E → vs.length = ps.length)
    (hbody : ∀ (cdv : Value) (A : Around) (outer : List Env) (s : Shared) (H : Hp) (vs : List V) (Q : VK) (E : XK), Room k (A.deeper (envOfC qual scope s.heap.objs.size f cdv)) → sp vs H Q E →
      ∃ t, PSs (cxOf CX0 P w K mg base N qual scope f cdv A outer s H E).nox body t ∧ t { nx := fun _ H' => Q .non H', rt := Q } (start N vs) H) : FnOk P w K mg base CX0 (k + 1) f fd ps sp :=
  F.ok S len fun cdv A outer s H vs Q E hr h => let ⟨t, h, q⟩ := hbody cdv A outer s H vs Q E hr h; ⟨t, h.nox, q⟩
end
/-! ### short programs -/
namespace Prog
/-- no heading on the way of a flat program leaves -12 .. 12 -/
def wayOk : Int → Prog → Bool
  | _, .nil => true
  | n, .step _ _ r => wayOk n r
  | n, .turn k r => if n + k > 12 ∨ n + k < -12 then false else wayOk (n + k) r
  | _, .rep _ _ _ => true
  | _, .mir _ _ => true
def short (p : Prog) : Bool := if p.size > 200 then false else wayOk 0 (unroll 1 p)
end Prog
end My

set_option Elab.async false
set_option linter.all false
set_option maxRecDepth 100000
namespace My
open PySem PySem.Spec PyProof.Rows L2
def strRep (z : Str) (n : Nat) : Str := ⟨(List.replicate n z.cps).foldl (· ++ ·) #[]⟩
def rMulS : R2 := fun x y H Q => ∃ (z : Str) (n : Int), x = .str z ∧ y = .int n ∧ (2 ≤ n ∧ n ≤ 100) ∧ (1 ≤ z.length ∧ z.length ≤ 100) ∧ (strRep z n.toNat).length ≤ 100000 ∧ Q (.str (strRep z n.toNat)) H
theorem op_mulS {X : Cx} : OpR X (binaryOp .Mult) rMulS := by
  intro pins s σ H x y v u Q I rx ry h
  obtain ⟨z, n, rfl, rfl, ⟨n1, n2⟩, ⟨z1, z2⟩, hl, q⟩ := h
  obtain ⟨t, rfl⟩ := rx
  obtain ⟨t', rfl⟩ := ry
  have e1 : ¬ n < 1 := by omega
  have e2 : ¬ (n == 1 || z.length == 0) = true := by simp; omega
  refine P.mul_str (by rw [decide_eq_false (by omega), decide_eq_false (by omega)]; rfl) (fun _ _ => ?_) (fun _ _ => ?_) ?_
  · have h1 : (100 : Int) ≤ (2 ^ 63 - 1) / n := Int.le_ediv_of_mul_le (by omega) (by omega)
    omega
  · have h1 : z.length * n.toNat ≤ 100 * 100 := Nat.mul_le_mul z2 (by omega)
    exact decide_eq_false (by rw [sizeLine_eq]; omega)
  · rw [if_neg e1, if_neg e2]
    exact ⟨small_of hl, .str (strRep z n.toNat), H, I.tok _, ⟨_, rfl⟩, q⟩
theorem r_mulS {z : Str} {n : Int} {H : Hp} {Q : VK} (h1 : 2 ≤ n ∧ n ≤ 100) (h2 : 1 ≤ z.length ∧ z.length ≤ 100) (h3 : (strRep z n.toNat).length ≤ 100000) (q : Q (.str (strRep z n.toNat)) H) : rMulS (.str z) (.int n) H Q := ⟨z, n, rfl, rfl, h1, h2, h3, q⟩
theorem r_slA {K : PySem.W.Frag} {p : Addr} {xs : List V} {lo hi : Option Int} {H : Hp} {Q : VK} (h : SqT K H p xs) (q1 : HT.sIx xs.length 0 lo = 0 ∧ HT.sIx xs.length xs.length hi = xs.length → Q (.ref p) H)
   (q2 : ¬ (HT.sIx xs.length 0 lo = 0 ∧ HT.sIx xs.length xs.length hi = xs.length) → ∀ c, H c = none → Q (.ref c) (upd H c (.tup (cutV xs lo hi)))) : rSlA K (.ref p) lo hi H Q := ⟨p, xs, rfl, h, q1, q2⟩
theorem r_slAT {K : PySem.W.Frag} {p : Addr} {xs : List V} {m : Int} {n : Nat} {H : Hp} {Q : VK} (h : H p = some (.tup xs)) (e : m = (n : Int)) (q : ∀ c H', Same H H' → H' c = some (.tup (xs.take n)) → Q (.ref c) H') : rSlA K (.ref p) none (some m) H Q := by
  subst e
  refine r_slA (.of h) (fun hw => ?_) (fun _ c hc => ?_)
  · have h2 := hw.2
    rw [HT.sIx_nat] at h2
    exact q p H (Same.refl _) (by rw [List.take_of_length_le (by omega)]; exact h)
  · exact q c _ (Same.new0 hc) (by rw [cut_take]; exact upd_same)
end My

set_option Elab.async false
set_option linter.all false
set_option maxRecDepth 100000
namespace My
open PySem PySem.Spec PyProof.Rows L2
section
variable {H : Hp} {Q : VK} {K : PySem.W.Frag}
theorem r_catAT {a b : Addr} {xs ys : List V} (h : H a = some (.tup xs)) (h' : H b = some (.tup ys)) (l : xs.length + ys.length ≤ 100000) (q : ∀ c H', Same H H' → H' c = some (.tup (xs ++ ys)) → Q (.ref c) H') : rCatA K (.ref a) (.ref b) H Q := by
  refine ⟨a, b, xs, ys, rfl, rfl, .of h, .of h', small_of l, fun e => ?_, fun _ e => ?_, fun _ _ c hc => q c _ (Same.new0 hc) upd_same⟩
  · subst e
    exact q b H (Same.refl _) h'
  · subst e
    exact q a H (Same.refl _) (by rw [List.append_nil]; exact h)
def rAddS : R2 := fun x y H Q => ∃ i j, x = .str i ∧ y = .str j ∧ i.length + j.length ≤ sizeLine ∧ Q (.str (i ++ j)) H
theorem op_addS {X : Cx} : OpR X (binaryOp .Add) rAddS := op_add_str
theorem r_addS {i j : Str} (l : i.length + j.length ≤ 100000) (q : Q (.str (i ++ j)) H) : rAddS (.str i) (.str j) H Q := ⟨i, j, rfl, rfl, small_of l, q⟩
def rIsN : R2 := fun x y H Q => y = .non ∧ Q (.bl (decide (x = .non))) H
theorem op_isNN {X : Cx} : OpR X (compareOp .Is) rIsN := op_isN
theorem r_isN {n : Int} (q : Q (.bl false) H) : rIsN (.int n) .non H Q := ⟨rfl, by rw [decide_eq_false (by intro h; cases h)]; exact q⟩
theorem r_isNN (q : Q (.bl true) H) : rIsN .non .non H Q := ⟨rfl, by rw [decide_eq_true rfl]; exact q⟩
end
namespace Prog
theorem head_flat {L : Nat} {C T : Int} : ∀ {p : Prog}, WfL L C T 0 p → p.head = p.turns.sum
  | .nil, _ => by rw [head, turns]; rfl
  | .step w n r, h => by rw [head, turns]; exact head_flat (WfL.step_iff.mp h).2.2
  | .turn k r, h => by rw [head, turns, List.sum_cons, head_flat (WfL.turn_iff.mp h).2]
  | .rep _ _ _, h => h.elim
  | .mir _ _, h => h.elim
end Prog
end My

set_option Elab.async false
set_option linter.all false
set_option maxRecDepth 100000
set_option maxHeartbeats 2000000
namespace My
open PySem PySem.Spec PyProof.Rows L2
/-! ### a caught exception, held as a value -/
theorem exV_ok {P : Program} {w : World} {H : Hp} {h : Heap} {a : Addr} {cls : Value} {d : Option Addr} {oe : Obj} {vs : Array Value} (e : h.get? a = some oe) (z : Zc cls d oe) (q : oe.data = .fields vs) : ObjOk P w H h a (ExV cls d a) :=
  ⟨⟨oe, vs, e, z, q⟩, ⟨oe, e⟩, fun _ _ ⟨o, v, q, r⟩ k => ⟨o, v, k o q, r⟩⟩
theorem Un.hold {fs ex : List Addr} {H0 H : Hp} {h0 h : Heap} {a : Addr} {o : HO} (u : Un fs ex H0 H h0 h) (n0 : h0.get? a = none) (n : H a = none) : Un fs ex H0 (upd H a o) h0 h where
  keep := u.keep
  slot := u.slot
  free := fun b ob e nb hx => by rw [upd_ne (fun z => by rw [z, n0] at e; cases e)]; exact u.free b ob e nb hx
  there := u.there
  tups := fun b xs e => (upd_ne (ne_of_none (u.tups b xs e) n)).trans (u.tups b xs e)
  frzs := fun b ob x e => (upd_ne (ne_of_none (u.frzs b ob x e) n)).trans (u.frzs b ob x e)
  tbls := fun b ps e => let ⟨m, q⟩ := u.tbls b ps e; ⟨m, (upd_ne (ne_of_none q n)).trans q⟩
theorem Inv.hold {X : Cx} {pins : List (Addr × Obj)} {σ : L2.St} {H : Hp} {s : Shared} {a : Addr} {oe : Obj} {vs : Array Value} {cls : Value} {d : Option Addr} (I : Inv X ((a, oe) :: pins) σ H s) (hz : Zc cls d oe) (hd : oe.data = .fields vs) (n0 : X.s_0.heap.get? a = none) (np : ∀ p ∈ X.pn ++ pins, p.1 ≠ a) :
    Inv X pins σ (upd H a (ExV cls d a)) s := by
  obtain ⟨ea, na, nl, nf, nc⟩ := I.pin (a, oe) (List.mem_append_right _ List.mem_cons_self)
  refine ⟨I.ok, I.os, I.bare, Un.hold I.base n0 na, I.loc, I.cell, (upd_ne (Ne.symm nl)).trans I.free, fun x c e => ?_, fun p hp => ?_, ?_, I.len⟩
  · have hc : c ≠ a := fun z => by
      obtain ⟨v, o, ho, hd'⟩ := I.cell x c e
      rw [z, ea] at ho
      cases ho
      exact nc v hd'
    exact (upd_ne hc).trans (I.freeC x c e)
  · have hm : p ∈ X.pn ++ (a, oe) :: pins := by
      rcases List.mem_append.mp hp with h | h
      · exact List.mem_append_left _ h
      · exact List.mem_append_right _ (List.mem_cons_of_mem _ h)
    obtain ⟨e1, e2, e3⟩ := I.pin p hm
    exact ⟨e1, (upd_ne (np p hp)).trans e2, e3⟩
  · exact HOk.laidN I.hok (fun _ _ q => q) na (exV_ok ea hz hd)
/-- what the clause 'except x as n' wishes of an exception of the body: slot i is n's; behind the suite the exception is held -/
def wHeld (K : PySem.W.Frag) (c : Value) (i : Nat) (ts : Addr → Value → Option Addr → TS) (Wout : WX) (D : Ends) : WX := fun cls d σ H =>
  ∃ b, PySem.W.exmOne K cls c = some b ∧ (b = true → ∀ a, H a = none → ts a cls d { nx := fun σ' H' => H' a = none → D.nx (σ'.set i none) (upd H' a (ExV cls d a)), rt := D.rt, bk := fun σ' H' => D.bk (σ'.set i none) H', ct := fun σ' H' => D.ct (σ'.set i none) H' } (σ.set i (some (.ref a))) H) ∧
    (b = false → Wout cls d σ H)
section
variable {X : Cx} {x n : Str} {c : Value} {i : Nat} {body suite : List Stmt} {b₀ : Stmt} {np pos pos' : Pos} {tb : WX → TS} {ts : Addr → Value → Option Addr → TS} {Wout : WX}
theorem ps_try_held (hs : X.stack = X.env :: X.outer) (hf : X.env.frame = some X.env.locals) (hex : X.ex = []) (hN : X.N.Nodup) (hi : X.N[i]? = some n) (hln : X.env.kindOf n = some .local) (hc : L2.Names X x c) (tk : Takes X Wout)
    (hb : ∀ (W : WX) (pn : List (Addr × Obj)) (xe : Value → Shared → Prop), Takes (X.tr pn xe) W → PassesOwn (model X.prog X.w) X.A X.env xe → PSs (X.tr pn xe) body (tb W))
    (hsu : ∀ (a : Addr) (oe : Obj) (cls : Value) (d : Option Addr) (pn : List (Addr × Obj)), Zc cls d oe → (∃ vs, oe.data = .fields vs) → PSs (X.suite a ((a, oe) :: pn)) (b₀ :: suite) (ts a cls d)) :
    PS X (.Try body [.ExceptHandler (some (.Name x np)) (some n) (b₀ :: suite) pos'] [] [] pos) (fun D σ H => tb (wHeld X.K c i ts Wout D) D σ H) := by
  refine ⟨fun pins s σ H D I h => ?_⟩
  have ok := I.ok
  have hfr : X.A.frames = some (X.env :: X.outer) := by rw [ok.frames, hs]
  have hloc : Loc X.env.scope n := .inl hln
  refine wpAny_Try_except ?_
  refine wpAny_mono ((hb (wHeld X.K c i ts Wout D) (X.pn ++ pins) (fun e s₁ => wpAny (model X.prog X.w) X.A (noteFrame e X.env) (fun _ s₂ => wpAny (model X.prog X.w) X.A (setFlight e none) (fun _ s₃ =>
    wpAny (model X.prog X.w) X.A (handleBy e X.env [.ExceptHandler (some (.Name x np)) (some n) (b₀ :: suite) pos']) (SP X pins D) X.xe s₃) X.xe s₂) X.xe s₁) (fun u s' xx => ?_) PassesOwn.looking).run [] s σ H D (I.toTry _) h) (fun f s1 hsp => ?_) (fun e s1 he => he)
  · obtain ⟨a, B, sI, pins', σ', H', cls, d, rfl, J', nb, up, sky, na, os, ag, b, hb1, hyes, hno⟩ := xx
    have J : Inv X pins σ' H' sI := J'.ofTry ok
    have sky' : Sky B (X.env :: X.outer) a (Zc cls d) X.env.locals s'.heap := by rw [← hs]; exact sky
    have nB : B.get? a = none := by
      rcases sky with ⟨_, hn, _⟩ | ⟨_, hn, _⟩ | ⟨_, hn, _⟩ <;> exact hn
    show wpAny (model X.prog X.w) X.A (noteFrame (.ref a) X.env) _ _ _
    refine Sky.land Zc.steady hfr hf sky' fun h3 fl3 up3 => ?_
    have J3 : Inv X pins σ' H' { s' with heap := h3 } := J.landed nb fl3.1 (up.trans up3) os ag
    obtain ⟨oe3, vs3, he3, hz3, hd3⟩ := fl3.there
    have notFr : ∀ {h : Heap} {o : Obj} {vs : Array Value}, h.FunFrames B (X.env :: X.outer) → h.get? a = some o → o.data = .fields vs → a ∉ frs (X.env :: X.outer) := fun {h o vs} ff e dd hm => by
      obtain ⟨_, o', e', hnf⟩ := ff.mem hm
      rw [e] at e'; cases e'
      exact hnf _ dd
    have nfr := notFr fl3.2.2.1 he3 hd3
    have nI : sI.heap.get? a = none := by
      cases q : sI.heap.get? a with
      | none => rfl
      | some o =>
        have z := nb a o q (by rw [hs]; exact nfr)
        rw [nB] at z; cases z
    have n0 : X.s_0.heap.get? a = none := by
      cases q : X.s_0.heap.get? a with
      | none => rfl
      | some o =>
        obtain ⟨o', z⟩ := J.base.there a o q (by rw [hex]; exact fun z => nomatch z)
        rw [nI] at z; cases z
    have npn : ∀ p ∈ X.pn ++ pins, p.1 ≠ a := fun p hp z => by
      have q := (J.pin p hp).1
      rw [z, nI] at q; cases q
    have nL : a ≠ X.env.locals := fun z => nfr (List.mem_filterMap.mpr ⟨X.env, List.mem_cons_self, by rw [hf, z]⟩)
    have nF : a ∉ X.fs := fun hm => by
      obtain ⟨e, he, q⟩ := List.mem_filterMap.mp hm
      exact nfr (List.mem_filterMap.mpr ⟨e, List.mem_cons_of_mem _ he, q⟩)
    have S3 := J3.suite he3 hd3 na nL nF
    refine wpAny_handleBy_cons (codeAny_handlers_test ?_) (by intro q; cases q)
    have LT : PySem.W.Looks (model X.prog X.w) h3 (typeOf (.ref a)) cls := fun A Q E s k q => wpAny_typeOf_ref (k _ _ he3) (by rw [hz3.1]; exact q)
    have LM := PySem.W.exm_one (M := model X.prog X.w) (J3.kIn) LT hb1
    have test : ∀ {Q : Value → Shared → Prop} {E : Value → Shared → Prop}, Q c { s' with heap := h3 } → wpAny (model X.prog X.w) (X.A.mark (some (.ref a))) (eval (.Name x np) X.env) Q E { s' with heap := h3 } := fun {Q E} q => by
      obtain ⟨hg, hdbg, hm | ⟨hm, hv, hnn⟩⟩ := hc
      · exact ld_glob (X := X.suite a ((a, oe3) :: (X.pn ++ pins))) S3 hg hm q hdbg
      · exact ld_blt (X := X.suite a ((a, oe3) :: (X.pn ++ pins))) S3 hg hm hv q hnn hdbg
    refine test (LM.here ?_)
    cases b with
    | true =>
      refine codeAny_handlers_suite_as ?_
      refine HandSPX.lands_againZ fl3 fun h4 fl4 up4 => ?_
      have J4 : Inv X pins σ' H' { s' with heap := h4 } := J.landed nb fl4.1 ((up.trans up3).trans up4) os ag
      obtain ⟨oe4, vs4, he4, hz4, hd4⟩ := fl4.there
      have S4 := J4.suite he4 hd4 na nL nF
      refine store_ok (X := X.suite a ((a, oe4) :: (X.pn ++ pins))) (v := .ref a) S4 hN hi hloc rfl (fun s5 S5 => ?_) (.inr hln)
      refine wpAny_mono ((hsu a oe4 cls d (X.pn ++ pins) hz4 ⟨_, hd4⟩).run [] s5 _ H' _ S5 (hyes rfl a na)) (fun f s6 hsp => ?_) (fun _ _ z => False.elim z)
      have end_ : ∀ {σ6 : L2.St} {H6 : Hp} {Q : Shared → Prop}, Inv (X.suite a ((a, oe4) :: (X.pn ++ pins))) [] σ6 H6 s6 → (∀ s7, Inv X ((a, oe4) :: pins) (σ6.set i none) H6 s7 → Q s7) →
          wpAny (model X.prog X.w) X.A (do bindName X.env n .none; unbindBehindTheSuite X.env n pos') (fun _ s7 => Q s7) X.xe s6 := fun {σ6 H6 Q} S6 hq => by
        have J6 : Inv X ((a, oe4) :: pins) σ6 H6 s6 := ⟨ok, S6.os, S6.bare, S6.base, S6.loc, S6.cell, S6.free, S6.freeC, fun p hp => S6.pin p (by
          rw [List.append_nil]
          rcases List.mem_append.mp hp with h | h
          · exact List.mem_cons_of_mem _ (List.mem_append_left _ h)
          · rcases List.mem_cons.mp h with h | h
            · rw [h]; exact List.mem_cons_self
            · exact List.mem_cons_of_mem _ (List.mem_append_right _ h)), S6.hok, S6.len⟩
        exact gone_ok J6 hN hi hln hq
      have drop : ∀ {σ7 : L2.St} {H7 : Hp} {s7 : Shared}, Inv X ((a, oe4) :: pins) σ7 H7 s7 → Inv X pins σ7 H7 s7 := fun J7 => ⟨J7.ok, J7.os, J7.bare, J7.base, J7.loc, J7.cell, J7.free, J7.freeC, fun p hp => J7.pin p (by
          rcases List.mem_append.mp hp with h | h
          · exact List.mem_append_left _ h
          · exact List.mem_append_right _ (List.mem_cons_of_mem _ h)), J7.hok, J7.len⟩
      cases f with
      | next =>
        obtain ⟨σ6, H6, S6, q6⟩ := hsp
        exact end_ S6 fun s7 J7 => ⟨_, _, Inv.hold J7 hz4 hd4 n0 npn, q6 (J7.pin (a, oe4) (List.mem_append_right _ List.mem_cons_self)).2.1⟩
      | brk =>
        obtain ⟨σ6, H6, S6, q6⟩ := hsp
        exact end_ S6 fun s7 J7 => ⟨_, _, drop J7, q6⟩
      | cont =>
        obtain ⟨σ6, H6, S6, q6⟩ := hsp
        exact end_ S6 fun s7 J7 => ⟨_, _, drop J7, q6⟩
      | ret u =>
        obtain ⟨v6, σ6, H6, S6, r6, q6⟩ := hsp
        exact end_ S6 fun s7 J7 => ⟨_, _, _, drop J7, r6, q6⟩
    | false =>
      show wpAny _ X.A (handleBy (.ref a) X.env []) _ _ _
      refine wpAny_handleBy_nil ?_
      obtain ⟨k1, k2, k3, oe, vs, T, oT, ts', he, hz, hd, h1, hr⟩ := id fl3
      unfold PySem.passOn
      refine wpAny_bind (wpAny_field he hd h1 ?_)
      rw [if_neg (show ¬ ((Value.ref T == Value.none) = true) from by simp)]
      have fin : wpAny (model X.prog X.w) X.A (setFlight (.ref a) X.env.frame) (fun _ s4 => wpAny (model X.prog X.w) X.A (throw (.ref a) : Sem Flow) (SP X pins D) X.xe s4) X.xe { s' with heap := h3 } := by
        rw [hf]
        refine HandSPX.setFlight_upZ fl3 fun h4 hh4 up4 => wpAny_throw (tk _ _ ?_)
        exact ⟨a, B, sI, pins, σ', H', cls, d, rfl, J, nb, (up.trans up3).trans up4, .inr (.inr (by rw [hs]; exact hh4)), na, os, ag, hno rfl⟩
      first
        | exact wpAny_bind (wpAny_pure (wpAny_bind fin))
        | exact wpAny_bind fin
  · cases f with
    | next =>
      obtain ⟨σ', H', J', q⟩ := hsp
      exact wpAny_execs_nil ⟨σ', H', J'.ofTry ok, q⟩
    | brk =>
      obtain ⟨σ', H', J', q⟩ := hsp
      exact ⟨σ', H', J'.ofTry ok, q⟩
    | cont =>
      obtain ⟨σ', H', J', q⟩ := hsp
      exact ⟨σ', H', J'.ofTry ok, q⟩
    | ret u =>
      obtain ⟨v, σ', H', J', r, q⟩ := hsp
      exact ⟨v, σ', H', J'.ofTry ok, r, q⟩
end
/-! ### a def that may raise, by its name -/
structure HasX (P : Program) (w : World) (K : PySem.W.Frag) (mg : Str → Option Value) (base : Heap) (x : Str) (k : Nat) (ps : List Str) (sp : Sp) : Prop where
  ex : ∃ f fd, FnOk P w K mg base (L2.CX P w) k f fd ps sp ∧ mg x = some (.ref f) ∧ PySem.W.keepIn K (.ref f) = true ∧ Binds K fd ps []
theorem fnOk_calm {P : Program} {w : World} {K : PySem.W.Frag} {mg : Str → Option Value} {base : Heap} {k : Nat} {f : Addr} {fd : FuncData} {ps : List Str} {sp : Sp} (F : FnOk P w K mg base (L2.CX P w) k f fd ps sp) : FnOk P w K mg base CX0 k f fd ps (fun vs H Q _ => sp vs H Q E0) :=
  ⟨fun vs H Q E q => F.len vs H Q E0 q, fun A outer s H args us vs Q E hr he hb hv hs => codeAny_mono (F.run A outer s H args us vs Q E0 hr he hb hv hs) fun r s' hq => by
    cases r with
    | error e =>
      obtain ⟨_, _, _, _, _, _, _, _, _, _, _, _, z⟩ := hq
      exact z.elim
    | ok fl => cases fl <;> exact hq⟩
theorem HasX.calm {P : Program} {w : World} {K : PySem.W.Frag} {mg : Str → Option Value} {base : Heap} {x : Str} {k : Nat} {ps : List Str} {sp : Sp} (h : HasX P w K mg base x k ps sp) : Has P w K mg base x k ps (fun vs H Q _ => sp vs H Q E0) := by
  obtain ⟨f, fd, F, a, b, c⟩ := h.ex
  exact ⟨f, fd, fnOk_calm F, a, b, c⟩
theorem Has.imp {P : Program} {w : World} {K : PySem.W.Frag} {mg : Str → Option Value} {base : Heap} {x : Str} {k : Nat} {ps : List Str} {sp sp' : Sp} (h : Has P w K mg base x k ps sp) (i : ∀ vs H Q E, sp' vs H Q E → sp vs H Q E) : Has P w K mg base x k ps sp' := by
  obtain ⟨f, fd, F, a, b, c⟩ := h.ex
  exact ⟨f, fd, F.imp i, a, b, c⟩
section
variable {X : Cx} {k : Nat} {ps : List Str} {sp : Sp} {x : Str} {p pos : Pos} {e : Expr} {es : List Expr} {t : TA} {W : WX} {σ : L2.St} {H : Hp} {Q : VK}
theorem pe_callXH (h : HasX X.prog X.w X.K X.mg X.base x k ps sp) (hr : Room k X.A) (tk : Takes X W) (ha : PA X (e :: es) t) (hg : Gl X x := by rfl) (hdb : (x == ("__debug__" : Str)) = false := by decide)
   (hs : starEach (e :: es) X.env = (false, eval e X.env) :: starEach es X.env := by rfl) (hplain : (backTo pos (starEach es X.env)).any (·.1) = false := by rfl) :
   PE X (.Call (.Name x p) (e :: es) [] pos) (tCallS sp (WE W) t) := by
  obtain ⟨f, fd, F, a, b, c⟩ := h.ex
  exact pe_callS F hr hg a b c (fun σ => passAt tk σ) ha hdb hs hplain
theorem r_callX {E : L2.St → XK} (q : t σ H fun vs H1 => sp vs H1 Q (E σ)) : tCallS sp E t σ H Q := q
end
/-! ### .. by keywords, in the parameters' order or turned round -/
def permB {α : Type} (rv : Bool) (l : List α) : List α := if rv then l.reverse else l
structure KW0 (K : PySem.W.Frag) (fd : FuncData) (ps ks : List Str) (rv : Bool) : Prop where
  to : ∀ (s : Shared) (ws : List Value), K.In s.heap → ws.length = ks.length → BindsTo s fd ⟨[], ks.zip ws⟩ (ps.zip (permB rv ws))
theorem kw0 {K : PySem.W.Frag} {fd : FuncData} {ps ks : List Str} {rv : Bool} (h : ∀ (ws : List Value), ws.length = ks.length → bindArgs fd ⟨[], ks.zip ws⟩ = pure (ps.zip (permB rv ws))) : KW0 K fd ps ks rv := ⟨fun _ ws _ hl => .of_eq (h ws hl)⟩
structure HasXK (P : Program) (w : World) (K : PySem.W.Frag) (mg : Str → Option Value) (base : Heap) (x : Str) (k : Nat) (ps ks : List Str) (rv : Bool) (sp : Sp) : Prop where
  ex : ∃ f fd, FnOk P w K mg base (L2.CX P w) k f fd ps sp ∧ mg x = some (.ref f) ∧ PySem.W.keepIn K (.ref f) = true ∧ KW0 K fd ps ks rv
theorem vals_rev : ∀ {vs : List V} {us : List Value}, Vals vs us → Vals vs.reverse us.reverse
  | _, _, .nil => .nil
  | _, _, .cons r t => by
    rw [List.reverse_cons, List.reverse_cons]
    exact Vals.append (vals_rev t) (.cons r .nil)
theorem vals_perm {vs : List V} {us : List Value} (rv : Bool) (h : Vals vs us) : Vals (permB rv vs) (permB rv us) := by
  cases rv with
  | true => exact vals_rev h
  | false => exact h
def tCallXK (sp : Sp) (rv : Bool) (E : L2.St → XK) (tk : TA) : TE := fun σ H Q => tk σ H fun zs H2 => sp (permB rv zs) H2 Q (E σ)
section
variable {X : Cx} {k : Nat} {ps ks : List Str} {rv : Bool} {sp : Sp} {x : Str} {p pos : Pos} {kws : List Keyword} {tkw : TA} {W : WX} {σ : L2.St} {H : Hp} {Q : VK}
theorem permB_len {α : Type} (rv : Bool) (l : List α) : (permB rv l).length = l.length := by cases rv <;> simp [permB]
theorem pe_callXHK (h : HasXK X.prog X.w X.K X.mg X.base x k ps ks rv sp) (hr : Room k X.A) (tk : Takes X W) (hkw : PK X kws tkw) (hk : ks.length = ps.length := by rfl) (hg : Gl X x := by rfl)
    (hall : (backToKw pos (keywordEach kws X.env)).all (·.1.isSome) = true := by rfl) (hks : (backToKw pos (keywordEach kws X.env)).filterMap (·.1) = ks := by rfl) (hdb : (x == ("__debug__" : Str)) = false := by decide)
    (hpl : ((backTo pos (starEach [] X.env)).any (·.1) || (backToKw pos (keywordEach kws X.env)).any (·.1.isNone)) = false := by rfl) : PE X (.Call (.Name x p) [] kws pos) (tCallXK sp rv (WE W) tkw) := by
  obtain ⟨f, fd, F, a, b, kb⟩ := h.ex
  refine ⟨fun pins s σ H Q I h => ?_⟩
  refine wpAny_Call_Name_kw (ld_glob I hg a ?_ hdb)
  refine PySem.W.callWith_KW0 (h₀ := X.base) I.ok.mod.kin b hall (thn (hkw.run pos pins s σ H _ I h) fun ws s2 ⟨zs, H2, I2, rz, q2⟩ => ⟨I2.kIn, ?_⟩) hpl
  rw [hks]
  have q2 : sp (permB rv zs) H2 Q (WE W σ) := q2
  have hl : ws.length = ks.length := by
    have h1 := F.len _ _ _ _ q2
    rw [permB_len] at h1
    rw [← rz.length, h1, hk]
  refine wpAny_call (codeAny_mono (F.run X.A X.stack s2 H2 ⟨[], ks.zip ws⟩ (permB rv ws) (permB rv zs) Q (WE W σ) hr I2.env0 (kb.to s2 ws I2.kIn hl) (vals_perm rv rz) q2) fun r s' hq => ?_)
  cases r with
  | error e => exact tk e s' (XE.of_call I2 (fun _ _ _ h => h) hq)
  | ok fl =>
    cases fl with
    | ret u => exact I2.after hq
    | next => exact False.elim hq
    | brk => exact False.elim hq
    | cont => exact False.elim hq
theorem r_callXK {E : L2.St → XK} (q : tkw σ H fun zs H1 => sp (permB rv zs) H1 Q (E σ)) : tCallXK sp rv E tkw σ H Q := q
end
theorem call_isiEK {X : Cx} {K : PySem.W.Frag} (h : X.K = K := by rfl) : CallR X (.builtin "isinstance") (rIsiE K) := by subst h; exact call_isiE
theorem call_isiTEK {X : Cx} {K : PySem.W.Frag} (h : X.K = K := by rfl) : CallR X (.builtin "isinstance") (rIsiTE K) := by subst h; exact call_isiTE
/-! ### own exception classes -/
structure OwnX (K : PySem.W.Frag) (mg : Str → Option Value) (x : Str) (C : Addr) : Prop where
  xi : PySem.W.excIn K C [.type "ValueError", .type "Exception", .type "BaseException", .type "object"] "ValueError.__new__" = true
  g : mg x = some (.ref C)
  k : PySem.W.keepIn K (.ref C) = true
  b : PySem.W.subIn K (.ref C) (.type "BaseException") = some true
  t : PySem.W.typeIn K (.ref C) = some (.type "type")
  e : ExcTy K C
  cs : ∃ cd, PySem.W.clsIn K C = some cd
theorem OwnX.catch {K : PySem.W.Frag} {mg : Str → Option Value} {x : Str} {C : Addr} {cls : Value} {b : Bool} (h : OwnX K mg x C) (s : PySem.W.subIn K cls (.ref C) = some b) : PySem.W.exmOne K cls (.ref C) = some b := PySem.W.exm_ref h.b h.e.dct h.t s
theorem OwnX.kit {K : PySem.W.Frag} {mg : Str → Option Value} {x : Str} {C : Addr} {cls : Value} {b : Bool} (h : OwnX K mg x C) (s : PySem.W.subIn K cls (.ref C) = some b) (ne : (cls == .ref C) = false) : PySem.W.kitOne K cls (.ref C) = some b := by
  obtain ⟨cd, e⟩ := h.cs
  unfold PySem.W.kitOne PySem.W.kitCls
  rw [ne, if_neg Bool.false_ne_true]
  show (if ((PySem.W.clsIn K C).isSome && PySem.W.typeIn K (.ref C) == some (.type "type")) = true then PySem.W.subIn K cls (.ref C) else none) = some b
  rw [e, h.t, if_pos (by simp)]
  exact s
theorem kit_own {K : PySem.W.Frag} {C : Addr} : PySem.W.kitOne K (.ref C) (.ref C) = some true := by
  unfold PySem.W.kitOne
  rw [if_pos (beq_self_eq_true _)]
/-- an own class, a built-in one -/
theorem kit_ownB {K : PySem.W.Frag} {C : Addr} {T : String} {b : Bool} (s : PySem.W.subIn K (.ref C) (.type T) = some b) (h : PySem.W.kitCls K (.ref C) (.type T) = PySem.W.subIn K (.ref C) (.type T) := by rfl) : PySem.W.kitOne K (.ref C) (.type T) = some b := by
  unfold PySem.W.kitOne
  rw [if_neg (by simp), h]
  exact s
theorem r_isiE' {K : PySem.W.Frag} {H : Hp} {Q : VK} {x c : V} {t u : Value} {b : Bool} (hc : ClsV c u) (ty : TyE K H x t) (e : PySem.W.kitOne K t u = some b) (q : Q (.bl b) H) : rIsiE K [x, c] H Q := ⟨x, c, t, u, b, rfl, hc, ty, e, q⟩
/-- a value that is no integer, or a truth -/
def NotInt (K : PySem.W.Frag) (H : Hp) (v : V) : Prop := ∃ t b1 b2, TyE K H v t ∧ PySem.W.kitOne K t (.type "int") = some b1 ∧ PySem.W.kitOne K t (.type "bool") = some b2 ∧ (b1 && !b2) = false
def NotIntS (K : PySem.W.Frag) (H : Hp) (v : V) : Prop := ∀ H', Same H H' → NotInt K H' v
theorem NotIntS.same {K : PySem.W.Frag} {H H' : Hp} {v : V} (h : NotIntS K H v) (s : Same H H') : NotIntS K H' v := fun H2 s2 => h H2 (s.trans s2)
theorem NotIntS.now {K : PySem.W.Frag} {H : Hp} {v : V} (h : NotIntS K H v) : NotInt K H v := h H (Same.refl H)
section
variable {K : PySem.W.Frag} {H : Hp}
theorem ni_bl (b : Bool) : NotIntS K H (.bl b) := fun _ _ => ⟨_, true, true, .x ty_bl, kit_ty (by decide +kernel), kit_ty (by decide +kernel), rfl⟩
theorem ni_str (z : Str) : NotIntS K H (.str z) := fun _ _ => ⟨_, false, false, .x ty_str, kit_ty (by decide +kernel), kit_ty (by decide +kernel), rfl⟩
theorem ni_non : NotIntS K H .non := fun _ _ => ⟨_, false, false, .x (.base .non), kit_ty (by decide +kernel), kit_ty (by decide +kernel), rfl⟩
theorem ni_lst {p : Addr} {xs : List V} (h : H p = some (.lst xs)) : NotIntS K H (.ref p) := fun _ s => ⟨_, false, false, .x (ty_lst (s _ _ h)), kit_ty (by decide +kernel), kit_ty (by decide +kernel), rfl⟩
theorem ni_tup {p : Addr} {xs : List V} (h : H p = some (.tup xs)) : NotIntS K H (.ref p) := fun _ s => ⟨_, false, false, .x (ty_tup (s _ _ h)), kit_ty (by decide +kernel), kit_ty (by decide +kernel), rfl⟩
theorem ni_exc {p D : Addr} (h : H p = some (ExO (.ref D) p)) (F : ExcTy K D) (s1 : PySem.W.subIn K (.ref D) (.type "int") = some false) (s2 : PySem.W.subIn K (.ref D) (.type "bool") = some false) : NotIntS K H (.ref p) := fun _ s => ⟨_, false, false, .exc (s _ _ h) F, kit_ownB s1, kit_ownB s2, rfl⟩
theorem kit_int_int : PySem.W.kitOne K (.type "int") (.type "int") = some true := kit_ty (by decide +kernel)
theorem kit_int_bool : PySem.W.kitOne K (.type "int") (.type "bool") = some false := kit_ty (by decide +kernel)
def spIsIntT (K : PySem.W.Frag) : Sp := fun vs H Q _ => ∃ x t b1 b2, vs = [x] ∧ TyE K H x t ∧ PySem.W.kitOne K t (.type "int") = some b1 ∧ PySem.W.kitOne K t (.type "bool") = some b2 ∧ Q (.bl (b1 && !b2)) H
theorem u_isIntV {Q : VK} {E : XK} {n : Int} (q : Q (.bl true) H) : spIsIntT K [.int n] H Q E := ⟨_, _, true, false, rfl, .x ty_int, kit_int_int, kit_int_bool, q⟩
theorem u_isIntN {Q : VK} {E : XK} {v : V} (h : NotInt K H v) (q : Q (.bl false) H) : spIsIntT K [v] H Q E := by
  obtain ⟨t, b1, b2, ty, k1, k2, e⟩ := h
  exact ⟨v, t, b1, b2, rfl, ty, k1, k2, by rw [e]; exact q⟩
theorem r_isNR {Q : VK} {a : Addr} (q : Q (.bl false) H) : rIsN (.ref a) .non H Q := ⟨rfl, by rw [decide_eq_false (by intro h; cases h)]; exact q⟩
theorem r_isiTE {Q : VK} {x : V} {tp : Addr} {cs : List V} {t : Value} {us : List Value} {b : Bool} (hT : H tp = some (.tup cs)) (hc : Paired ClsV cs us) (ty : TyE K H x t) (e : PySem.W.kitAny K t us = some b) (q : Q (.bl b) H) : rIsiTE K [x, .ref tp] H Q := ⟨x, tp, cs, t, us, b, rfl, hT, hc, ty, e, q⟩
theorem kitAny_cons {t c : Value} {us : List Value} {b : Bool} (h : PySem.W.kitOne K t c = some false) (h2 : PySem.W.kitAny K t us = some b) : PySem.W.kitAny K t (c :: us) = some b := by
  unfold PySem.W.kitAny
  rw [h]
  exact h2
end
end My

set_option Elab.async false
set_option linter.all false
set_option maxRecDepth 100000
namespace My
open PySem PySem.Spec PyProof.Rows L2
/-! ### undone programs -/
def contr (w : Str) : Str := if w = "go" then "back" else if w = "back" then "go" else if w = "hop" then "slip" else "hop"
theorem contr_word {w : Str} (h : IsWord w) : IsWord (contr w) := by
  rcases h with rfl | rfl | rfl | rfl
  · exact .inr (.inl rfl)
  · exact .inl rfl
  · exact .inr (.inr (.inr rfl))
  · exact .inr (.inr (.inl rfl))
theorem contr_contr {w : Str} (h : IsWord w) : contr (contr w) = w := by
  rcases h with rfl | rfl | rfl | rfl <;> rfl
namespace Prog
def undo : Prog → Prog
  | .nil => .nil
  | .step w n r => (undo r).app (.step (contr w) n .nil)
  | .turn k r => (undo r).app (.turn (-k) .nil)
  | .rep k b r => (undo r).app (.rep k (undo b) .nil)
  | .mir b r => (undo r).app (.mir (undo b) .nil)
theorem undo_app : ∀ p q : Prog, undo (p.app q) = (undo q).app (undo p)
  | .nil, q => by rw [app, undo, app_nil]
  | .step w n p, q => by rw [app, undo, undo, undo_app p q, app_assoc]
  | .turn k p, q => by rw [app, undo, undo, undo_app p q, app_assoc]
  | .rep k b p, q => by rw [app, undo, undo, undo_app p q, app_assoc]
  | .mir b p, q => by rw [app, undo, undo, undo_app p q, app_assoc]
theorem unroll_app (s : Int) : ∀ p q : Prog, unroll s (p.app q) = (unroll s p).app (unroll s q)
  | .nil, q => by rw [app, unroll, app]
  | .step w n p, q => by rw [app, unroll, unroll, unroll_app s p q, app]
  | .turn k p, q => by rw [app, unroll, unroll, unroll_app s p q, app]
  | .rep k b p, q => by rw [app, unroll, unroll, unroll_app s p q, app_assoc]
  | .mir b p, q => by rw [app, unroll, unroll, unroll_app s p q, app_assoc]
theorem len_undo : ∀ p : Prog, (undo p).len = p.len
  | .nil => by rw [undo]
  | .step w n r => by rw [undo, len_app, len_undo r]; rfl
  | .turn k r => by rw [undo, len_app, len_undo r]; rfl
  | .rep k b r => by rw [undo, len_app, len_undo r]; rfl
  | .mir b r => by rw [undo, len_app, len_undo r]; rfl
theorem size_undo : ∀ p : Prog, (undo p).size = p.size
  | .nil => by rw [undo]
  | .step w n r => by rw [undo, size_app, size_undo r, size, size, size]; omega
  | .turn k r => by rw [undo, size_app, size_undo r, size, size, size]; omega
  | .rep k b r => by rw [undo, size_app, size_undo r, size, size, size, size_undo b]; omega
  | .mir b r => by rw [undo, size_app, size_undo r, size, size, size, size_undo b]; omega
theorem head_undo : ∀ p : Prog, (undo p).head = -p.head
  | .nil => by rw [undo, head]; rfl
  | .step w n r => by rw [undo, head_app, head_undo r, head, head, head]; omega
  | .turn k r => by rw [undo, head_app, head_undo r, head, head, head]; omega
  | .rep k b r => by rw [undo, head_app, head_undo r, head, head, head, head_undo b, Int.mul_neg]; omega
  | .mir b r => by rw [undo, head_app, head_undo r, head, head, head, head_undo b]; omega
theorem wf_undo {L : Nat} {C T : Int} : ∀ {d : Nat} {p : Prog}, WfL L C T d p → WfL L C T d (undo p)
  | _, .nil, _ => WfL.nil
  | d, .step w n r, h => by
    have h := WfL.step_iff.mp h
    rw [undo]
    exact (wf_undo h.2.2).app (WfL.step_iff.mpr ⟨contr_word h.1, h.2.1, WfL.nil⟩)
  | d, .turn k r, h => by
    have h := WfL.turn_iff.mp h
    rw [undo]
    exact (wf_undo h.2).app (WfL.turn_iff.mpr ⟨⟨by omega, by omega⟩, WfL.nil⟩)
  | 0, .rep _ _ _, h => h.elim
  | d + 1, .rep k b r, h => by
    rw [undo]
    exact (wf_undo h.2.2.2).app ⟨h.1, by rw [len_undo]; exact h.2.1, wf_undo h.2.2.1, WfL.nil⟩
  | 0, .mir _ _, h => h.elim
  | d + 1, .mir b r, h => by
    rw [undo]
    exact (wf_undo h.2.2).app ⟨by rw [len_undo]; exact h.1, wf_undo h.2.1, WfL.nil⟩
theorem undo_undo {L : Nat} {C T : Int} : ∀ {d : Nat} {p : Prog}, WfL L C T d p → undo (undo p) = p
  | _, .nil, _ => by rw [undo, undo]
  | d, .step w n r, h => by
    have h := WfL.step_iff.mp h
    rw [undo, undo_app, undo_undo h.2.2, undo, undo, contr_contr h.1]; rfl
  | d, .turn k r, h => by
    have h := WfL.turn_iff.mp h
    rw [undo, undo_app, undo_undo h.2, undo, undo, Int.neg_neg]; rfl
  | 0, .rep _ _ _, h => h.elim
  | d + 1, .rep k b r, h => by
    rw [undo, undo_app, undo_undo h.2.2.2, undo, undo, undo_undo h.2.2.1]; rfl
  | 0, .mir _ _, h => h.elim
  | d + 1, .mir b r, h => by
    rw [undo, undo_app, undo_undo h.2.2, undo, undo, undo_undo h.2.1]; rfl
theorem undo_times (p : Prog) : ∀ n, undo (times n p) = times n (undo p)
  | 0 => by rw [times, undo, times]
  | n + 1 => by rw [times_succ n (undo p), times, undo_app, undo_times p n]
/-- undone and then unrolled is unrolled and then undone -/
theorem unroll_undo (p : Prog) : ∀ s : Int, unroll s (undo p) = undo (unroll s p) := by
  induction p with
  | nil => intro s; rw [undo, unroll, undo]
  | step w n r ih => intro s; rw [undo, unroll_app, ih, unroll, unroll, unroll, undo]
  | turn k r ih => intro s; rw [undo, unroll_app, ih, unroll, unroll, unroll, undo, Int.mul_neg]
  | rep k b r ihb ih => intro s; rw [undo, unroll_app, ih, unroll, unroll, unroll, app_nil, undo_app, undo_times, ihb]
  | mir b r ihb ih => intro s; rw [undo, unroll_app, ih, unroll, unroll, unroll, app_nil, undo_app, ihb]
end Prog
end My

set_option Elab.async false
set_option linter.all false
set_option maxRecDepth 100000
namespace My
open PySem PySem.Spec PyProof.Rows L2 RT
theorem WfL.split {L : Nat} {C T : Int} : ∀ {d : Nat} {p q : Prog}, WfL L C T d (p.app q) → WfL L C T d p ∧ WfL L C T d q
  | _, .nil, _, h => ⟨WfL.nil, h⟩
  | d, .step w n r, q, h => by
    have h := WfL.step_iff.mp (show WfL L C T d (.step w n (r.app q)) from h)
    exact ⟨WfL.step_iff.mpr ⟨h.1, h.2.1, (WfL.split h.2.2).1⟩, (WfL.split h.2.2).2⟩
  | d, .turn k r, q, h => by
    have h := WfL.turn_iff.mp (show WfL L C T d (.turn k (r.app q)) from h)
    exact ⟨WfL.turn_iff.mpr ⟨h.1, (WfL.split h.2).1⟩, (WfL.split h.2).2⟩
  | 0, .rep _ _ _, _, h => h.elim
  | d + 1, .rep k b r, q, h => by
    have h : (1 ≤ k ∧ k ≤ C) ∧ (1 ≤ b.len ∧ b.len ≤ L) ∧ WfL L C T d b ∧ WfL L C T (d + 1) (r.app q) := h
    exact ⟨⟨h.1, h.2.1, h.2.2.1, (WfL.split h.2.2.2).1⟩, (WfL.split h.2.2.2).2⟩
  | 0, .mir _ _, _, h => h.elim
  | d + 1, .mir b r, q, h => by
    have h : (1 ≤ b.len ∧ b.len ≤ L) ∧ WfL L C T d b ∧ WfL L C T (d + 1) (r.app q) := h
    exact ⟨⟨h.1, h.2.1, (WfL.split h.2.2).1⟩, (WfL.split h.2.2).2⟩
theorem PrAt.split {H : Hp} : ∀ {p q : Prog} {xs : List V}, PrAt H (p.app q) xs → ∃ ys zs, xs = ys ++ zs ∧ PrAt H p ys ∧ PrAt H q zs
  | .nil, q, xs, h => ⟨[], xs, rfl, rfl, h⟩
  | .step w n r, q, xs, h => by
    obtain ⟨c, ys, e, h1, h2⟩ := h
    obtain ⟨us, vs, e2, h3, h4⟩ := PrAt.split (p := r) h2
    exact ⟨.ref c :: us, vs, by rw [e, e2]; rfl, ⟨c, us, rfl, h1, h3⟩, h4⟩
  | .turn k r, q, xs, h => by
    obtain ⟨c, ys, e, h1, h2⟩ := h
    obtain ⟨us, vs, e2, h3, h4⟩ := PrAt.split (p := r) h2
    exact ⟨.ref c :: us, vs, by rw [e, e2]; rfl, ⟨c, us, rfl, h1, h3⟩, h4⟩
  | .rep k b r, q, xs, h => by
    obtain ⟨c, q0, z0, ys, e, h1, h0, hb, h2⟩ := h
    obtain ⟨us, vs, e2, h3, h4⟩ := PrAt.split (p := r) h2
    exact ⟨.ref c :: us, vs, by rw [e, e2]; rfl, ⟨c, q0, z0, us, rfl, h1, h0, hb, h3⟩, h4⟩
  | .mir b r, q, xs, h => by
    obtain ⟨c, q0, z0, ys, e, h1, h0, hb, h2⟩ := h
    obtain ⟨us, vs, e2, h3, h4⟩ := PrAt.split (p := r) h2
    exact ⟨.ref c :: us, vs, by rw [e, e2]; rfl, ⟨c, q0, z0, us, rfl, h1, h0, hb, h3⟩, h4⟩
/-- the last command -/
theorem Prog.snoc : ∀ {p : Prog} {m : Nat}, p.len = m + 1 → ∃ r c : Prog, p = r.app c ∧ r.len = m ∧ c.len = 1
  | .nil, m, h => by cases h
  | .step w n r, m, h => by
    have h : r.len + 1 = m + 1 := h
    cases m with
    | zero => exact ⟨.nil, .step w n r, rfl, rfl, h⟩
    | succ m =>
      obtain ⟨r', c, e, h1, h2⟩ := Prog.snoc (p := r) (m := m) (by omega)
      exact ⟨.step w n r', c, by rw [e]; rfl, by rw [Prog.len, h1], h2⟩
  | .turn k r, m, h => by
    have h : r.len + 1 = m + 1 := h
    cases m with
    | zero => exact ⟨.nil, .turn k r, rfl, rfl, h⟩
    | succ m =>
      obtain ⟨r', c, e, h1, h2⟩ := Prog.snoc (p := r) (m := m) (by omega)
      exact ⟨.turn k r', c, by rw [e]; rfl, by rw [Prog.len, h1], h2⟩
  | .rep k b r, m, h => by
    have h : r.len + 1 = m + 1 := h
    cases m with
    | zero => exact ⟨.nil, .rep k b r, rfl, rfl, h⟩
    | succ m =>
      obtain ⟨r', c, e, h1, h2⟩ := Prog.snoc (p := r) (m := m) (by omega)
      exact ⟨.rep k b r', c, by rw [e]; rfl, by rw [Prog.len, h1], h2⟩
  | .mir b r, m, h => by
    have h : r.len + 1 = m + 1 := h
    cases m with
    | zero => exact ⟨.nil, .mir b r, rfl, rfl, h⟩
    | succ m =>
      obtain ⟨r', c, e, h1, h2⟩ := Prog.snoc (p := r) (m := m) (by omega)
      exact ⟨.mir b r', c, by rw [e]; rfl, by rw [Prog.len, h1], h2⟩
theorem len_zero {p : Prog} (h : p.len = 0) : p = .nil := by cases p <;> first | rfl | cases h
/-- what stands at the place of the last command -/
theorem PrAt.last {H : Hp} {r c s : Prog} {xs : List V} (h : PrAt H (r.app (c.app s)) xs) (hc : c.len = 1) : ∃ x, xs[r.len]? = some x ∧ First H c x .nil := by
  obtain ⟨ys, zs, e, h1, h2⟩ := PrAt.split h
  obtain ⟨us, vs, e2, h3, h4⟩ := PrAt.split (p := c) h2
  have l1 := h1.length
  have l3 := h3.length
  rw [hc] at l3
  match us, l3, h3 with
  | [x], _, h3 =>
    obtain ⟨r', hf, hr⟩ := h3.first
    have e0 : r'.len = 0 := hr.length.symm
    rw [len_zero e0] at hf
    refine ⟨x, ?_, hf⟩
    rw [e, e2, List.getElem?_append_right (by omega), l1, Nat.sub_self]
    rfl
section
variable {σ : L2.St} {H : Hp} {K : PySem.W.Frag} {D : Ends} {tb : TS} {g : TG} {a : Addr} {xs : List V} {p : Prog}
theorem r_iRev {te : TE} {R : It → Hp → Prop} (q : te σ H fun v H1 => ∃ (a : Addr) (xs : List V), v = .ref a ∧ ((SqL K H1 a xs ∧ R (Itv K a xs.length) H1) ∨ (SqT K H1 a xs ∧ R (ItvT K a xs.length) H1))) : iRevA K te σ H R := q
/-- for command in reversed(program) -/
theorem u_forRev (h : H a = some (.tup xs)) (hp : PrAt H p xs) (I : Prog → Prog → L2.St → Hp → Prop) (h0 : I p .nil σ H) (hk : ∀ r s σ H', I r s σ H' → Tk H H')
    (hs : ∀ x r c s σ H', First H' c x .nil → p = r.app (c.app s) → I (r.app c) s σ H' → g x σ H' fun σ2 H2 => tb { D with nx := I r (c.app s), ct := I r (c.app s), bk := D.nx } σ2 H2) (hd : ∀ σ H', I .nil p σ H' → D.nx σ H') :
    ∃ (b : Addr) (xs : List V), V.ref a = .ref b ∧ ((SqL K H b xs ∧ ∃ W : Nat → Nat → L2.St → Hp → Prop, (∃ m, W 0 m σ H) ∧ ∀ i m σ H, W i m σ H →
      ((Itv K b xs.length).stop i H ∧ D.nx σ H) ∨ ((Itv K b xs.length).go i H ∧ ∃ N : L2.St → Hp → Prop, (∀ σ' H', N σ' H' → ∃ m', m' < m ∧ W (i + 1) m' σ' H') ∧ ∀ x H', (Itv K b xs.length).yld i H x H' → g x σ H' fun σ2 H2 => tb { D with nx := N, ct := N, bk := D.nx } σ2 H2)) ∨
     (SqT K H b xs ∧ ∃ W : Nat → Nat → L2.St → Hp → Prop, (∃ m, W 0 m σ H) ∧ ∀ i m σ H, W i m σ H →
      ((ItvT K b xs.length).stop i H ∧ D.nx σ H) ∨ ((ItvT K b xs.length).go i H ∧ ∃ N : L2.St → Hp → Prop, (∀ σ' H', N σ' H' → ∃ m', m' < m ∧ W (i + 1) m' σ' H') ∧ ∀ x H', (ItvT K b xs.length).yld i H x H' → g x σ H' fun σ2 H2 => tb { D with nx := N, ct := N, bk := D.nx } σ2 H2))) := by
  have hl := hp.length
  refine ⟨a, xs, rfl, .inr ⟨.of h, fun i m σ' H' => m = xs.length - i ∧ i ≤ xs.length ∧ ∃ r s, p = r.app s ∧ r.len + i = xs.length ∧ I r s σ' H', ⟨xs.length, rfl, Nat.zero_le _, p, .nil, (Prog.app_nil p).symm, by omega, h0⟩, ?_⟩⟩
  rintro i m σ' H' ⟨rfl, hi, r, s, e, l, ir⟩
  have hT : SqT K H' a xs := .of (hk _ _ _ _ ir _ _ h)
  by_cases hlt : i < xs.length
  · obtain ⟨r', c, e2, l1, l2⟩ := Prog.snoc (p := r) (m := xs.length - 1 - i) (by omega)
    subst e2
    rw [Prog.app_assoc] at e
    have hp2 := hp
    rw [e] at hp2
    obtain ⟨y, hy, hf⟩ := PrAt.last hp2 l2
    rw [l1] at hy
    refine .inr ⟨⟨hlt, xs, y, hT, hy⟩, I r' (c.app s), fun σ2 H2 q => ⟨_, by omega, rfl, hlt, r', c.app s, e, by omega, q⟩, fun x H2 hx => ?_⟩
    obtain ⟨rfl, fx⟩ := hx
    have ex : x = y := Option.some.inj ((fx xs hT).symm.trans hy)
    subst ex
    exact hs _ r' c s _ _ (hf.tk (hk _ _ _ _ ir)) e ir
  · have e0 := len_zero (p := r) (by omega)
    subst e0
    have e : p = s := e
    subst e
    exact .inl ⟨by show xs.length ≤ i; omega, hd _ _ ir⟩
end
end My

set_option Elab.async false
set_option linter.all false
set_option maxRecDepth 100000
namespace My
open PySem PySem.Spec PyProof.Rows L2 HT PySem.Builtin
/-! ### t[::-1], t a tuple -/
section
variable {prog : Program} {w : World} {A : Around} {E : Value → Shared → Prop} {s : Shared}
theorem adjust_rev (n : Nat) : Builtin.Slice.sliceAdjust none none (-1) (n : Int) = ((n : Int) - 1, -1) := by
  unfold Builtin.Slice.sliceAdjust
  simp
theorem places_rev (n : Nat) : Builtin.Slice.slicePlaces ((n : Int) - 1) (-1) (-1) = n := by
  unfold Builtin.Slice.slicePlaces
  have h1 : ¬ ((-1 : Int) > 0) := by omega
  rw [if_neg h1, show (- -1 : Int) = 1 by decide, Int.ediv_one]
  split <;> omega
theorem sliceApplied_rev {sl : Addr} {vs : Value} {n : Nat} {Q : Int × Int × Nat → Shared → Prop} (hs : s.heap.IsSliceOf sl .none .none vs) (ps : IsPart vs (some (-1)))
    (h : Q ((n : Int) - 1, -1, n) s) : wpAny (model prog w) A (Builtin.Slice.sliceApplied (.ref sl) (pure (n : Int))) Q E s := by
  obtain ⟨os, hos, hcs, hds⟩ := id hs
  unfold Builtin.Slice.sliceApplied Builtin.Slice.sliceFields
  refine wpAny_bind (wpAny_bind (wpAny_field hos hds (x := .none) rfl (wpAny_bind (wpAny_field hos hds (x := .none) rfl (wpAny_bind (wpAny_field hos hds (x := vs) rfl (wpAny_pure ?_)))))))
  refine wpAny_bind (HT.slicePart_ ps ?_)
  show wpAny _ _ (if ((-1 : Int) == 0) = true then _ else _) _ _ s
  rw [if_neg (by decide)]
  refine wpAny_bind (slicePart_none (wpAny_bind (slicePart_none (wpAny_bind (wpAny_pure ?_)))))
  show wpAny _ _ (match Builtin.Slice.sliceAdjust none none (-1) (n : Int) with | (lo, hi) => pure (lo, (-1 : Int), Builtin.Slice.slicePlaces lo hi (-1))) _ _ s
  rw [adjust_rev n]
  show wpAny _ _ (pure ((n : Int) - 1, (-1 : Int), Builtin.Slice.slicePlaces ((n : Int) - 1) (-1) (-1))) _ _ s
  rw [places_rev]
  exact wpAny_pure h
theorem pick_rev (xs : Array Value) : ((List.range xs.size).filterMap fun (m : Nat) => xs[(((xs.size : Nat) : Int) - 1 + (m : Int) * (-1)).toNat]?).toArray = xs.toList.reverse.toArray := by
  have e : (List.range xs.size).filterMap (fun (m : Nat) => xs[(((xs.size : Nat) : Int) - 1 + (m : Int) * (-1)).toNat]?) = ((List.range xs.size).map fun k => xs.size - 1 - k).filterMap (xs[·]?) := by
    rw [List.filterMap_map]
    have hc : ∀ (l : List Nat) (f g : Nat → Option Value), (∀ m ∈ l, f m = g m) → l.filterMap f = l.filterMap g := by
      intro l f g hfg
      induction l with
      | nil => rfl
      | cons a l ih => rw [List.filterMap_cons, List.filterMap_cons, hfg a (List.mem_cons_self ..), ih fun m hm => hfg m (List.mem_cons_of_mem _ hm)]
    refine hc _ _ _ fun m hm => ?_
    have := List.mem_range.mp hm
    have h2 : (((xs.size : Nat) : Int) - 1 + (m : Int) * (-1)).toNat = xs.size - 1 - m := by omega
    rw [h2]
    rfl
  rw [e, PySem.W.krv_range, List.filterMap_reverse, PySem.W.krv_all]
theorem getItem_tuple_rev {t sl : Addr} {items : Array Value} {vs : Value} {Q : Value → Shared → Prop} (ht : IsTup s.heap t items) (hs : s.heap.IsSliceOf sl .none .none vs) (ps : IsPart vs (some (-1)))
    (h : Q (.ref s.heap.objs.size) { s with heap := s.heap.push { cls := .type "tuple", data := .seq items.toList.reverse.toArray } })
    (hsz : items.size ≤ sizeLine) : wpAny (model prog w) A (getItem (.ref t) (.ref sl)) Q E s := by
  have htake : sizeOk (.seq items.toList.reverse.toArray) := by
    show items.toList.reverse.toArray.size ≤ sizeLine
    rw [List.size_toArray, List.length_reverse, Array.length_toList]
    exact hsz
  obtain ⟨os, hos, hcs, hds⟩ := id hs
  have hTs : s.TypeIs (.ref sl) "slice" := ⟨os, hos, hcs⟩
  unfold getItem
  try with_reducible refine wpAny_holding ?_
  first | refine wpAny_bind (wpAny_pure ?_) | skip
  refine wpAny_bind (wpAny_sequenceKey ht.typeIs (by decide) ?_)
  refine wpAny_bind (wpAny_callSpecial?_slot (name := Str.ofString "__getitem__") ht.typeIs PyProof.Rows.slot_tuple_getitem
    (wpAny_call_entry PyProof.Rows.slot_tuple_getitem ht.typeIs entry_tuple_getitem ?_ (args_tuple_getitem _ _)))
  show wpAny _ _ (Builtin.Tuple.tupleItemsOf (.ref t) >>= _) _ _ s
  refine wpAny_bind (tupleItemsOf_ ht ?_)
  refine wpAny_bind (wpAny_typeOf hTs ?_)
  rw [if_pos (by decide)]
  refine wpAny_bind (sliceApplied_rev hs ps ?_)
  have hno : ¬ ((((items.size : Nat) : Int) - 1 == 0 && (-1 : Int) == 1 && items.size == items.size) = true) := by
    intro q
    rw [Bool.and_eq_true, Bool.and_eq_true] at q
    exact absurd q.1.2 (by decide)
  show wpAny _ _ (if (((items.size : Nat) : Int) - 1 == 0 && (-1 : Int) == 1 && items.size == items.size) = true then _ else _) _ _ s
  rw [if_neg hno, pick_rev]
  first
    | exact wpAny_bind (m := Builtin.Tuple.tupleExact _) (wpAny_newObj_type (wpAny_pure ⟨_, rfl, wpAny_pure h⟩) htake)
    | exact wpAny_bind (m := Builtin.Tuple.tupleExact _) (wpAny_newObj_type (wpAny_bind (wpAny_pure (wpAny_pure ⟨_, rfl, wpAny_pure h⟩))) htake)
    | exact wpAny_bind (wpAny_bind (m := Builtin.Tuple.tupleExact _) (wpAny_newObj_type (wpAny_pure (wpAny_pure ⟨_, rfl, wpAny_pure h⟩)) htake))
    | exact wpAny_bind (wpAny_bind (m := Builtin.Tuple.tupleExact _) (wpAny_newObj_type (wpAny_pure ⟨_, rfl, wpAny_pure h⟩) htake))
end
section
variable {X : Cx} {pos : Pos}
def tRevT (K : PySem.W.Frag) (te : TE) : TE := fun σ H Q => te σ H fun x H1 => ∃ a xs, x = .ref a ∧ SqT K H1 a xs ∧ ∀ p, H1 p = none → Q (.ref p) (upd H1 p (.tup xs.reverse))
theorem pe_revT {e : Expr} {te : TE} {k : Nat} {p1 p2 p3 pos : Pos} (he : PE X e te) : PE X (.Subscript e (.Slice none none (some (.UnaryOp .USub (.Constant (.int 1) k p1) p2)) p3) pos) (tRevT X.K te) := by
  refine ⟨fun pins s σ H Q I h => ?_⟩
  refine Subscript_ (thn (he.run pins s σ H _ I h) fun v s1 ⟨x, H1, I1, r1, q1⟩ => ?_)
  obtain ⟨a, xs, ex, hx, q⟩ := q1
  subst ex
  cases r1
  have hst : PO X (some (.UnaryOp .USub (.Constant (.int 1) k p1) p2)) (tPart (tUn (rU fun i => .int (-i)) (tC (.int 1)))) := po_some (pe_un un_neg pe_int)
  refine wpAny_Slice (thn (po_none.run pins s1 σ H1 (fun o H2 => o = none ∧ H2 = H1) I1 ⟨rfl, rfl⟩) fun vl s2 ⟨l, H2, I2, pl, el, e2⟩ => ?_)
  subst el e2
  refine thn (po_none.run pins s2 σ H2 (fun o H3 => o = none ∧ H3 = H2) I2 ⟨rfl, rfl⟩) fun vu s3 ⟨u, H3, I3, pu, eu, e3⟩ => ?_
  subst eu e3
  cases pl
  cases pu
  refine thn (hst.run pins s3 σ H3 (fun o H4 => o = some (-1) ∧ H4 = H3) I3 ⟨1, rfl, -1, rfl, rfl, rfl⟩) fun vs s4 ⟨o, H4, I4, ps, eo, e4⟩ => ?_
  subst eo e4
  have I5 : Inv X pins σ H4 { s4 with heap := s4.heap.push { cls := .type "slice", data := .fields #[.none, .none, vs] } } := I4.kept (t' := s4.toks) fun b ob q => Heap.get?_push_of_some _ q
  obtain ⟨its, r, ht, hz⟩ := I5.tuple hx
  have hlen := r.length
  show wpAny (model X.prog X.w) X.A (subscriptTail e (.Slice none none (some (.UnaryOp .USub (.Constant (.int 1) k p1) p2)) p3) (.ref a) (.ref s4.heap.objs.size)) (EP X pins σ Q) X.xe { s4 with heap := s4.heap.push { cls := .type "slice", data := .fields #[.none, .none, vs] } }
  refine tail_any (ops := [.ref a, .ref s4.heap.objs.size]) ht.typeIs (PyProof.Rows.slot_tuple_getitem.lookup) ?_ (by with_unfolding_all rfl)
  refine getItem_tuple_rev ht (Heap.IsSliceOf.new _ .none .none vs) ps ?_ (by rw [List.size_toArray]; omega)
  refine ⟨.ref _, _, I5.laid (t' := s4.toks) (o := .tup xs.reverse) (fun b ob q => Heap.get?_push_of_some _ q) (Nat.le_refl _) ?_, rfl, q _ (I5.hok.fresh (Nat.le_refl _))⟩
  exact ⟨by rw [List.length_reverse]; omega, _, r.reverse, IsTup.new _ _⟩
theorem r_revT {K : PySem.W.Frag} {te : TE} {σ : L2.St} {H : Hp} {Q : VK} (q : te σ H fun x H1 => ∃ a xs, x = .ref a ∧ SqT K H1 a xs ∧ ∀ p, H1 p = none → Q (.ref p) (upd H1 p (.tup xs.reverse))) : tRevT K te σ H Q := q
theorem r_revTT {K : PySem.W.Frag} {H : Hp} {a : Addr} {xs : List V} {R : List V → Addr → Prop} (h : H a = some (.tup xs)) (q : ∀ p, H p = none → R xs p) : ∃ (b : Addr) (ys : List V), V.ref a = .ref b ∧ SqT K H b ys ∧ ∀ p, H p = none → R ys p := ⟨a, xs, rfl, .of h, q⟩
end
end My

set_option Elab.async false
set_option linter.all false
set_option maxRecDepth 100000
namespace My
open PySem PySem.Spec PyProof.Rows L2
/-! ### terms: powers and numbers -/
abbrev Terms := List (Int × Int)
/-- the number of a power: the sum of the numbers with it -/
def cof : Terms → Int → Int
  | [], _ => 0
  | p :: l, k => (if p.1 = k then p.2 else 0) + cof l k
/-- ascending powers, no number 0 -/
structure Canon (l : Terms) : Prop where
  asc : l.Pairwise fun p q => p.1 < q.1
  nz : ∀ p ∈ l, p.2 ≠ 0
theorem cof_app : ∀ (l m : Terms) (k : Int), cof (l ++ m) k = cof l k + cof m k
  | [], m, k => by rw [List.nil_append, cof, Int.zero_add]
  | p :: l, m, k => by rw [List.cons_append, cof, cof, cof_app l m k, Int.add_assoc]
theorem cof_none : ∀ {l : Terms} {k : Int}, (∀ p ∈ l, p.1 ≠ k) → cof l k = 0
  | [], _, _ => rfl
  | p :: l, k, h => by
    rw [cof, if_neg (h p List.mem_cons_self), cof_none fun q hq => h q (List.mem_cons_of_mem _ hq), Int.add_zero]
theorem Canon.nil : Canon [] := ⟨.nil, fun _ h => absurd h (by simp)⟩
theorem Canon.tail {p : Int × Int} {l : Terms} (h : Canon (p :: l)) : Canon l := ⟨(List.pairwise_cons.mp h.asc).2, fun q hq => h.nz q (List.mem_cons_of_mem _ hq)⟩
theorem Canon.head {p : Int × Int} {l : Terms} (h : Canon (p :: l)) : cof (p :: l) p.1 = p.2 := by
  rw [cof, if_pos rfl, cof_none fun q hq => by have := (List.pairwise_cons.mp h.asc).1 q hq; omega, Int.add_zero]
theorem Canon.low {p : Int × Int} {l : Terms} (h : Canon (p :: l)) {k : Int} (hk : k < p.1) : cof (p :: l) k = 0 :=
  cof_none fun q hq => by
    rcases List.mem_cons.mp hq with rfl | hq
    · omega
    · have := (List.pairwise_cons.mp h.asc).1 q hq; omega
/-- what the numbers are, the canonical terms are -/
theorem Canon.ext : ∀ {l m : Terms}, Canon l → Canon m → (∀ k, cof l k = cof m k) → l = m
  | [], [], _, _, _ => rfl
  | p :: l, [], h, _, e => absurd ((h.head.symm.trans (e p.1)).trans rfl) (h.nz p List.mem_cons_self)
  | [], q :: m, _, h, e => absurd ((h.head.symm.trans (e q.1).symm).trans rfl) (h.nz q List.mem_cons_self)
  | p :: l, q :: m, h, h', e => by
    have hp := h.nz p List.mem_cons_self
    have hq := h'.nz q List.mem_cons_self
    have e1 : p.1 = q.1 := by
      rcases Int.lt_trichotomy p.1 q.1 with a | a | a
      · have := e p.1
        rw [h.head, h'.low a] at this
        exact absurd this hp
      · exact a
      · have := e q.1
        rw [h'.head, h.low a] at this
        exact absurd this.symm hq
    have e2 : p.2 = q.2 := by
      have := e p.1
      rw [h.head, e1, h'.head] at this
      exact this
    have e3 : p = q := Prod.ext e1 e2
    subst e3
    have e4 : l = m := Canon.ext h.tail h'.tail fun k => by
      have := e k
      rw [cof, cof] at this
      omega
    rw [e4]
theorem Canon.zero {l : Terms} (h : Canon l) (e : ∀ k, cof l k = 0) : l = [] := Canon.ext h Canon.nil e
/-- the terms by ascending keys -/
theorem canon_of {ys : List Int} (h : ys.Pairwise (· < ·)) (f : Int → Int) : Canon ((ys.filter fun k => decide (f k ≠ 0)).map fun k => (k, f k)) := by
  refine ⟨List.pairwise_map.mpr ((h.filter _).imp fun a => a), fun p hp => ?_⟩
  obtain ⟨k, hk, rfl⟩ := List.mem_map.mp hp
  simpa using (List.mem_filter.mp hk).2
theorem cof_of : ∀ {ys : List Int}, ys.Pairwise (· < ·) → ∀ (f : Int → Int) (k : Int), cof ((ys.filter fun k => decide (f k ≠ 0)).map fun k => (k, f k)) k = if k ∈ ys then f k else 0
  | [], _, f, k => by simp [cof]
  | y :: ys, h, f, k => by
    have ih := cof_of (List.pairwise_cons.mp h).2 f k
    have hy := (List.pairwise_cons.mp h).1
    by_cases e : k = y
    · subst e
      have hn : ¬ k ∈ ys := fun hm => by have := hy k hm; omega
      rw [if_neg hn] at ih
      by_cases z : f k = 0
      · rw [List.filter_cons_of_neg (by simpa using z), ih, if_pos (by simp), z]
      · rw [List.filter_cons_of_pos (by simpa using z), List.map_cons, cof, ih, if_pos rfl, if_pos (by simp), Int.add_zero]
    · have em : (k ∈ y :: ys) ↔ k ∈ ys := by simp [e]
      by_cases z : f y = 0
      · rw [List.filter_cons_of_neg (by simpa using z), ih]; simp only [em]
      · rw [List.filter_cons_of_pos (by simpa using z), List.map_cons, cof, ih, if_neg (fun h => e h.symm), Int.zero_add]; simp only [em]
theorem Canon.le_len {l m : Terms} (h : Canon l) : (∀ p ∈ l, p.1 ∈ m.map (·.1)) → l.length ≤ m.length := by
  intro hs
  have nd : (l.map (·.1)).Nodup := (List.pairwise_map.mpr (h.asc.imp fun a => by omega))
  have key : ∀ (xs ys : List Int), xs.Nodup → (∀ x ∈ xs, x ∈ ys) → xs.length ≤ ys.length := by
    intro xs
    induction xs with
    | nil => intro ys _ _; exact Nat.zero_le _
    | cons x xs ih =>
      intro ys hn hs
      have hx := hs x List.mem_cons_self
      obtain ⟨hxn, hn⟩ := List.nodup_cons.mp hn
      have h1 := ih (ys.erase x) hn fun z hz => (List.mem_erase_of_ne (by rintro rfl; exact hxn hz)).mpr (hs z (List.mem_cons_of_mem _ hz))
      rw [List.length_erase_of_mem hx] at h1
      have h2 := List.length_pos_of_mem hx
      rw [List.length_cons]
      omega
  have := key (l.map (·.1)) (m.map (·.1)) nd fun x hx => by
    obtain ⟨p, hp, rfl⟩ := List.mem_map.mp hx
    exact hs p hp
  simpa using this

/-! ### sorted(d), d a dict of int keys, any number of them -/
def rSortDI : List V → Hp → VK → Prop := fun xs H Q => ∃ (a : Addr) (kvs : List (Key × V)) (ks : List Int), xs = [.ref a] ∧ Rd H a (.dK kvs) ∧ kvs.map (·.1) = ks.map Sum.inl ∧
    ∀ (ys : List Int) (p : Addr), ys.Perm ks → ys.Pairwise (· ≤ ·) → H p = none → Q (.ref p) (upd H p (.lst (ys.map V.int)))
theorem call_sortedDA {X : Cx} (hcalm : X.calm = true := by rfl) : CallR X (.builtin "sorted") rSortDI := by
  intro pins s σ H xs us Q I r q
  obtain ⟨a, kvs, ks, ex, hd, hks, q⟩ := q
  subst ex
  obtain ⟨u, eu, rx⟩ := vals1 r
  subst eu
  cases rx
  obtain ⟨z, lo, vs, rel, dd⟩ := dk_rd I.hok hd
  obtain ⟨ep, hat⟩ := dd.dictAt
  have hkeys : vs.map (·.1) = ks.map Sum.inl := rel.keys.symm.trans hks
  have hl : vs.length = ks.length := by
    have e := congrArg List.length hkeys
    rw [List.length_map, List.length_map] at e
    exact e
  have h16 : vs.length ≤ sizeLine := by rw [← rel.length]; exact z
  refine Calls.call_function_entry PyProof.Rows.kind_sorted PyProof.Rows.plain_sorted PyProof.Rows.entry_sorted (PyProof.Rows.args_sorted1 _) ?_
  unfold Builtin.«sorted»
  refine wpAny_bind (m := checkCount "sorted" 1 1 _) (wpAny_pure ?_)
  refine wpAny_bind (PySem.W.kdu_collect (A := X.A.in1) (PySem.W.kdl_dict (knd := mixKind X.prog X.w) (kvs := vs) (ep := ep) lo) (I.ok.hd hcalm) hat h16 fun h' tk acc hk hacc => ?_)
  have hal : acc.toList.length = ks.length := by rw [Array.length_toList, hacc.1, hl]
  have hS : IntsAre acc.toList ks := ints_each hal fun j v e => by
    obtain ⟨k, x, e1, e2⟩ := hacc.2 j v (by rw [← Array.getElem?_toList]; exact e)
    have e3 : (vs.map (·.1))[j]? = some k := by rw [List.getElem?_map, e1]; rfl
    rw [hkeys, List.getElem?_map] at e3
    cases e4 : ks[j]? with
    | none => rw [e4] at e3; cases e3
    | some y =>
      rw [e4] at e3
      have e5 : Sum.inl y = k := Option.some.inj e3
      subst e5
      rcases keyIs_shape (show keyIs (Sum.inl y) v = true from e2) with ⟨i, t, ek, ev⟩ | ⟨z, t, ek, ev⟩
      · cases ek
        exact ⟨y, t, rfl, ev⟩
      · cases ek
  have I1 : Inv X pins σ H { s with heap := h', toks := tk } := I.kept hk
  have h17 : acc.toList.length ≤ sizeLine := by rw [hal, ← hl]; exact h16
  refine wpAny_bind (wpAny_newList ?_ h17)
  have hoL : (h'.push (seqObj "list" acc.toList.toArray 0)).get? h'.objs.size = some (seqObj "list" acc.toList.toArray 0) := Heap.get?_push_size _ rfl
  show wpAny _ _ _ _ _ { s with heap := h'.push (seqObj "list" acc.toList.toArray 0), toks := tk }
  refine wpAny_bind (wpAny_holding (wpAny_call_entry PyProof.Rows.slot_list_sort ⟨_, hoL, rfl⟩ PyProof.Rows.entry_list_sort
    (SrtO.list_sort_ord (s := { s with heap := h'.push (seqObj "list" acc.toList.toArray 0), toks := tk }) SrtO.swo_int hoL h17 (fun h2 => SrtO.ints_sortable hS h2) fun out h1 h2 => ⟨_, rfl, ?_⟩) (PyProof.Rows.args_list_sort _)))
  obtain ⟨k1, k2, k3⟩ := SrtO.ints_out hS h1 h2
  obtain ⟨e', he'⟩ := PyProof.Rows.sortedHeap_at (vs := acc.toList) (out := out.toArray) hoL
  have hlen : ((out.map SrtO.iv).map V.int).length ≤ sizeLine := by
    rw [List.length_map, k2.length_eq, ← hl]
    exact h16
  refine wpAny_pure ⟨_, rfl, .ref h'.objs.size, upd H h'.objs.size (.lst ((out.map SrtO.iv).map V.int)), I1.laid (t' := tk) (fun b u e => ?_) (Nat.le_refl _)
    (show ObjOk X.prog X.w _ _ _ (.lst ((out.map SrtO.iv).map V.int)) from ⟨hlen, out, e', vals_of_ints k1, he'⟩), rfl, q _ _ k2 k3 (I1.hok.fresh (Nat.le_refl _))⟩
  have hb : b < h'.objs.size := Heap.lt_size e
  rw [PyProof.Rows.sortedHeap_old (Nat.ne_of_lt hb) (by rw [size_push']; exact Nat.lt_succ_of_lt hb)]
  exact Heap.get?_push_of_some _ e
/-- sorted(d), texts as keys -/
def rSortDS : List V → Hp → VK → Prop := fun xs H Q => ∃ (a : Addr) (kvs : List (Key × V)) (ks : List Str), xs = [.ref a] ∧ Rd H a (.dK kvs) ∧ kvs.map (·.1) = ks.map Sum.inr ∧ ks.length < 64 ∧
    ∀ ys p, ys.Perm ks → sortedS ys = true → H p = none → Q (.ref p) (upd H p (.lst (ys.map V.str)))
theorem call_sortedDS {X : Cx} (hcalm : X.calm = true := by rfl) : CallR X (.builtin "sorted") rSortDS := call_sortedD hcalm
/-! ### jars: dicts of ints by ints -/
def cfK (kvs : List (Key × V)) (k : Int) : Int := match valV kvs (.inl k) with | some (.int n) => n | _ => 0
structure JarK (kvs : List (Key × V)) : Prop where
  prs : ∀ p ∈ kvs, ∃ k n : Int, p = (Sum.inl k, V.int n)
  nd : (kvs.map (·.1)).Nodup
theorem mem_put {kvs : List (Key × V)} {k : Key} {v : V} {p : Key × V} (h : p ∈ putK kvs k v) : p ∈ kvs ∨ p = (k, v) := by
  unfold putK at h
  split at h
  · obtain ⟨q, hq, e⟩ := List.mem_map.mp h
    split at e
    · rename_i ek; right; rw [← e, ek]
    · left; rw [← e]; exact hq
  · rcases List.mem_append.mp h with h | h
    · exact .inl h
    · exact .inr (List.mem_singleton.mp h)
theorem keys_put (kvs : List (Key × V)) (k : Key) (v : V) : (putK kvs k v).map (·.1) = if (kvs.any fun kv => decide (kv.1 = k)) = true then kvs.map (·.1) else kvs.map (·.1) ++ [k] := by
  unfold putK
  split
  · rw [List.map_map]
    refine List.map_congr_left fun p _ => ?_
    show (if p.1 = k then (p.1, v) else p).1 = p.1
    split <;> rfl
  · rw [List.map_append]; rfl
theorem nodup_put {kvs : List (Key × V)} (h : (kvs.map (·.1)).Nodup) (k : Key) (v : V) : ((putK kvs k v).map (·.1)).Nodup := by
  rw [keys_put]
  split
  · exact h
  · rename_i hn
    refine List.nodup_append.mpr ⟨h, by simp, fun a ha b hb e => hn ?_⟩
    have hb := List.mem_singleton.mp hb
    subst hb
    subst e
    obtain ⟨p, hp, e⟩ := List.mem_map.mp ha
    exact List.any_eq_true.mpr ⟨p, hp, decide_eq_true e⟩
theorem JarK.nil : JarK [] := ⟨fun _ h => absurd h (by simp), by simp⟩
theorem JarK.put {kvs : List (Key × V)} (h : JarK kvs) (k n : Int) : JarK (putK kvs (.inl k) (.int n)) := by
  refine ⟨fun p hp => ?_, nodup_put h.nd _ _⟩
  rcases mem_put hp with h1 | rfl
  · exact h.prs p h1
  · exact ⟨k, n, rfl⟩
theorem cfK_put (kvs : List (Key × V)) (k n j : Int) : cfK (putK kvs (.inl k) (.int n)) j = if j = k then n else cfK kvs j := by
  unfold cfK
  rw [valV_put]
  by_cases e : j = k
  · subst e; rw [if_pos rfl, if_pos rfl]
  · rw [if_neg (fun h => e (Sum.inl.inj h)), if_neg e]
theorem val_mem {kvs : List (Key × V)} {k : Key} {v : V} (h : valV kvs k = some v) : (k, v) ∈ kvs := by
  unfold valV at h
  cases e : kvs.find? fun kv => decide (kv.1 = k) with
  | none => rw [e] at h; cases h
  | some p =>
    rw [e] at h
    have h1 := List.mem_of_find?_eq_some e
    have h2 := List.find?_some e
    have h3 : p.1 = k := of_decide_eq_true h2
    have h4 : p.2 = v := Option.some.inj h
    rw [← h3, ← h4]
    exact h1
theorem val_none {kvs : List (Key × V)} {k : Key} (h : valV kvs k = none) : ∀ p ∈ kvs, p.1 ≠ k := by
  intro p hp e
  unfold valV at h
  have h2 : kvs.find? (fun kv => decide (kv.1 = k)) = none := by
    cases q : kvs.find? (fun kv => decide (kv.1 = k)) with
    | none => rfl
    | some _ => rw [q] at h; cases h
  have := List.find?_eq_none.mp h2 p hp
  exact this (decide_eq_true e)
theorem JarK.val {kvs : List (Key × V)} (h : JarK kvs) (k : Int) : (valV kvs (.inl k)).getD (.int 0) = .int (cfK kvs k) := by
  unfold cfK
  cases e : valV kvs (.inl k) with
  | none => rfl
  | some v =>
    obtain ⟨k', n, e2⟩ := h.prs _ (val_mem e)
    cases e2
    rfl
theorem JarK.some {kvs : List (Key × V)} (h : JarK kvs) {k : Int} (m : Sum.inl k ∈ kvs.map (·.1)) : valV kvs (.inl k) = some (.int (cfK kvs k)) := by
  have hv := h.val k
  cases e : valV kvs (.inl k) with
  | none =>
    obtain ⟨p, hp, ek⟩ := List.mem_map.mp m
    exact absurd ek (val_none e p hp)
  | some v => rw [e] at hv; exact congrArg Option.some hv
theorem JarK.keys {kvs : List (Key × V)} (h : JarK kvs) : ∃ ks : List Int, kvs.map (·.1) = ks.map Sum.inl ∧ ks.Nodup ∧ (∀ k, ¬ k ∈ ks → cfK kvs k = 0) ∧ ks.length = kvs.length := by
  have hex : ∀ {l : List (Key × V)}, (∀ p ∈ l, ∃ k n : Int, p = (Sum.inl k, V.int n)) → ∃ ks : List Int, l.map (·.1) = ks.map Sum.inl := by
    intro l
    induction l with
    | nil => intro _; exact ⟨[], rfl⟩
    | cons p l ih =>
      intro hl
      obtain ⟨k, n, e⟩ := hl p List.mem_cons_self
      obtain ⟨ks, e2⟩ := ih fun q hq => hl q (List.mem_cons_of_mem _ hq)
      exact ⟨k :: ks, by rw [List.map_cons, List.map_cons, e2, e]⟩
  obtain ⟨ks, e⟩ := hex h.prs
  refine ⟨ks, e, ?_, fun k hk => ?_, ?_⟩
  · have := h.nd
    rw [e] at this
    exact (List.pairwise_map.mp this).imp fun a b => a (congrArg Sum.inl b)
  · unfold cfK
    cases q : valV kvs (.inl k) with
    | none => rfl
    | some v =>
      have hm : Sum.inl k ∈ kvs.map (·.1) := List.mem_map.mpr ⟨_, val_mem q, rfl⟩
      rw [e] at hm
      obtain ⟨k', hk', e'⟩ := List.mem_map.mp hm
      cases e'
      exact absurd hk' hk
  · have := congrArg List.length e
    simpa using this.symm
/-- the jar at a: its numbers c, at most n powers -/
def JarAt (H : Hp) (a : Addr) (n : Nat) (c : Int → Int) : Prop := ∃ kvs, H a = some (.dK kvs) ∧ JarK kvs ∧ kvs.length ≤ n ∧ ∀ k, cfK kvs k = c k
theorem JarAt.new {H : Hp} {p : Addr} : JarAt (upd H p (.dK [])) p 0 fun _ => 0 := ⟨[], upd_same, .nil, Nat.le_refl _, fun _ => rfl⟩
theorem JarAt.same {H H' : Hp} {a : Addr} {n : Nat} {c : Int → Int} (h : JarAt H a n c) (s : Same H H') : JarAt H' a n c := let ⟨kvs, e, r⟩ := h; ⟨kvs, s _ _ e, r⟩
theorem JarAt.keep {H : Hp} {a p : Addr} {o : HO} {n : Nat} {c : Int → Int} (h : JarAt H a n c) (q : H p = none) : JarAt (upd H p o) a n c := let ⟨kvs, e, r⟩ := h; ⟨kvs, h_keep e q, r⟩
theorem JarAt.but {H H' : Hp} {a b : Addr} {n : Nat} {c : Int → Int} (h : JarAt H a n c) (ne : a ≠ b) (s : But b H H') : JarAt H' a n c := let ⟨kvs, e, r⟩ := h; ⟨kvs, s _ _ ne e, r⟩
theorem JarAt.ext {H : Hp} {a : Addr} {n : Nat} {c d : Int → Int} (h : JarAt H a n c) (e : ∀ k, c k = d k) : JarAt H a n d := let ⟨kvs, e1, r1, r2, r3⟩ := h; ⟨kvs, e1, r1, r2, fun k => (r3 k).trans (e k)⟩
theorem JarAt.ne {H : Hp} {a p : Addr} {n : Nat} {c : Int → Int} (h : JarAt H a n c) (q : H p = none) : p ≠ a := let ⟨_, e, _⟩ := h; (ne_of_none e q).symm
/-- k is a key of the jar -/
def JarHas (H : Hp) (a : Addr) (k : Int) : Prop := ∃ kvs : List (Key × V), H a = some (.dK kvs) ∧ Sum.inl k ∈ kvs.map (·.1)
theorem JarHas.same {H H' : Hp} {a : Addr} {k : Int} (h : JarHas H a k) (s : Same H H') : JarHas H' a k := let ⟨kvs, e, r⟩ := h; ⟨kvs, s _ _ e, r⟩
def addAt (c : Int → Int) (k v : Int) : Int → Int := fun j => if j = k then v else c j
section
variable {σ : L2.St} {H : Hp} {Q : VK} {K : PySem.W.Frag} {td ty tx tv : TE} {a : Addr} {n : Nat} {c : Int → Int} {D : Ends}
theorem r_dnew (q : ∀ p, H p = none → Q (.ref p) (upd H p (.dK []))) : tDNewK σ H Q := q
theorem r_dget2 (q : td σ H fun x H1 => ∃ a, x = .ref a ∧ IsD H1 a ∧ ty σ H1 fun y H2 => tx σ H2 fun z H3 => ∃ o, DGet H3 a y o ∧ Q (o.getD z) H3) : tDGet2 td ty tx σ H Q := q
theorem r_dget (q : td σ H fun x H1 => ty σ H1 fun y H2 => ∃ a v, x = .ref a ∧ DGet H2 a y (some v) ∧ Q v H2) : tDGet td ty σ H Q := q
theorem r_dput (q : tv σ H fun v H1 => td σ H1 fun x H2 => ty σ H2 fun y H3 => ∃ a H4, x = .ref a ∧ DPut H3 a y v H4 ∧ D.nx σ H4) : sDPut td ty tv D σ H := q
theorem r_dsetd (q : td σ H fun x H1 => ∃ a, x = .ref a ∧ IsD H1 a ∧ ty σ H1 fun y H2 => tx σ H2 fun z H3 => ∃ (kvs : List (Key × V)) (k : Key), H3 a = some (.dK kvs) ∧ y = kV k ∧ kvs.length < sizeLine ∧
  (∀ v, valV kvs k = some v → Q v H3) ∧ (valV kvs k = none → Q z (upd H3 a (.dK (putK kvs k z))))) : tDSetd td ty tx σ H Q := q
theorem r_isD {kvs : List (Key × V)} {R : Addr → Prop} (h : H a = some (.dK kvs)) (q : R a) : ∃ b, V.ref a = .ref b ∧ IsD H b ∧ R b := ⟨a, rfl, .inl ⟨kvs, .inl h⟩, q⟩
theorem JarAt.isD {R : Addr → Prop} (h : JarAt H a n c) (q : R a) : ∃ b, V.ref a = .ref b ∧ IsD H b ∧ R b := let ⟨_, e, _⟩ := h; r_isD e q
theorem JarAt.dget0 (h : JarAt H a n c) (k : Int) : ∃ o, DGet H a (.int k) o ∧ o.getD (.int 0) = .int (c k) := by
  obtain ⟨kvs, e, hk, _, hc⟩ := h
  exact ⟨_, DGet.k (k := .inl k) e, by rw [hk.val, hc]⟩
theorem JarAt.dput {k v : Int} (h : JarAt H a n c) (hn : n ≤ 1000000) : ∃ H', DPut H a (.int k) (.int v) H' ∧ But a H H' ∧ (∀ p, H p = none → p ≠ a → H' p = none) ∧ JarAt H' a (n + 1) (addAt c k v) := by
  obtain ⟨kvs, e, hk, hl, hc⟩ := h
  refine ⟨_, DPut.k (k := .inl k) e (Nat.lt_of_le_of_lt (Nat.le_trans hl hn) (by decide)), But.self (But.refl a H), fun p hp np => (upd_ne np).trans hp, _, upd_same, hk.put k v, ?_, fun j => ?_⟩
  · exact Nat.le_trans (length_putK _ _ _) (by omega)
  · rw [cfK_put, hc]; rfl
theorem JarAt.dget {k : Int} (h : JarAt H a n c) (m : JarHas H a k) : DGet H a (.int k) (some (.int (c k))) := by
  obtain ⟨kvs, e, hk, _, hc⟩ := h
  obtain ⟨kvs', e', hm⟩ := m
  cases e.symm.trans e'
  have := DGet.k (k := .inl k) e
  rw [hk.some hm, hc] at this
  exact this
theorem rSortDJ (h : JarAt H a n c) (q : ∀ (ys : List Int) (p : Addr), ys.Pairwise (· < ·) → (∀ k, ¬ k ∈ ys → c k = 0) → ys.length ≤ n → (∀ k ∈ ys, JarHas H a k) → H p = none → Q (.ref p) (upd H p (.lst (ys.map V.int)))) : rSortDI [.ref a] H Q := by
  obtain ⟨kvs, e, hk, hl, hc⟩ := h
  obtain ⟨ks, e1, e2, e3, e4⟩ := hk.keys
  refine ⟨a, kvs, ks, rfl, .inl e, e1, fun ys p hp hs hn => q ys p ?_ (fun k hy => ?_) ?_ (fun k hy => ?_) hn⟩
  · have nd : ys.Nodup := hp.nodup_iff.mpr e2
    have : ys.Pairwise fun x y => x ≤ y ∧ x ≠ y := List.Pairwise.and hs nd
    exact this.imp fun h => by omega
  · rw [← hc]
    exact e3 k fun hm => hy (hp.mem_iff.mpr hm)
  · rw [hp.length_eq, e4]; exact hl
  · exact ⟨kvs, e, by rw [e1]; exact List.mem_map.mpr ⟨k, hp.mem_iff.mp hy, rfl⟩⟩
end
/-- pairs of ints, laid as tuples -/
def TermsL (H : Hp) : List V → Terms → Prop
  | [], ts => ts = []
  | v :: vs, ts => ∃ b p us, ts = p :: us ∧ v = .ref b ∧ H b = some (.tup [.int p.1, .int p.2]) ∧ TermsL H vs us
theorem TermsL.tk {H H' : Hp} (t : Tk H H') : ∀ {vs : List V} {ts : Terms}, TermsL H vs ts → TermsL H' vs ts
  | [], _, h => h
  | _ :: _, _, ⟨b, p, us, e1, e2, e3, e4⟩ => ⟨b, p, us, e1, e2, t _ _ e3, e4.tk t⟩
theorem TermsL.app {H : Hp} : ∀ {vs ws : List V} {ts us : Terms}, TermsL H vs ts → TermsL H ws us → TermsL H (vs ++ ws) (ts ++ us)
  | [], ws, ts, us, h, h' => by rw [show ts = [] from h]; exact h'
  | _ :: _, ws, _, us, ⟨b, p, qs, e1, e2, e3, e4⟩, h' => ⟨b, p, qs ++ us, by rw [e1]; rfl, e2, e3, e4.app h'⟩
theorem TermsL.length {H : Hp} : ∀ {vs : List V} {ts : Terms}, TermsL H vs ts → vs.length = ts.length
  | [], ts, h => by rw [show ts = [] from h]; rfl
  | _ :: _, _, ⟨b, p, qs, e1, e2, e3, e4⟩ => by rw [e1, List.length_cons, List.length_cons, e4.length]
theorem TermsL.one {H : Hp} {b : Addr} {x y : Int} (h : H b = some (.tup [.int x, .int y])) : TermsL H [.ref b] [(x, y)] := ⟨b, (x, y), [], rfl, rfl, h, rfl⟩
theorem TermsL.at {H : Hp} : ∀ {vs : List V} {ts : Terms} (i : Nat) {v : V}, TermsL H vs ts → vs[i]? = some v → ∃ b p, v = .ref b ∧ ts[i]? = some p ∧ H b = some (.tup [.int p.1, .int p.2])
  | [], _, _, _, _, h => by cases h
  | _ :: _, _, 0, _, ⟨b, p, qs, e1, e2, e3, e4⟩, h => by
    cases h
    exact ⟨b, p, e2, by rw [e1]; rfl, e3⟩
  | _ :: _, _, i + 1, v, ⟨b, p, qs, e1, e2, e3, e4⟩, h => by
    obtain ⟨b', p', x1, x2, x3⟩ := TermsL.at i e4 h
    exact ⟨b', p', x1, by rw [e1]; exact x2, x3⟩
/-- a list of pairs of ints -/
def TermsAt (H : Hp) (l : Addr) (ts : Terms) : Prop := ∃ vs, H l = some (.lst vs) ∧ TermsL H vs ts
theorem TermsAt.same {H H' : Hp} {l : Addr} {ts : Terms} (h : TermsAt H l ts) (s : Same H H') : TermsAt H' l ts := let ⟨vs, e, e2⟩ := h; ⟨vs, s _ _ e, e2.tk (Tk.same s)⟩
theorem TermsAt.nil {H : Hp} {l : Addr} (h : TermsAt H l []) : H l = some (.lst []) := by
  obtain ⟨as, e, e2⟩ := h
  cases as with
  | nil => exact e
  | cons a r => obtain ⟨_, _, _, e, _⟩ := e2; cases e
/-! ### the same as data -/
def pairD (p : Int × Int) : PyData := .tuple [.int p.1, .int p.2]
theorem TermsL.dp {K : PySem.W.Frag} {H : Hp} : ∀ {vs : List V} {ts : Terms}, TermsL H vs ts → DpAll K H vs (ts.map pairD)
  | [], ts, h => by rw [show ts = [] from h]; exact .nil
  | _ :: _, _, ⟨b, p, qs, e1, e2, e3, e4⟩ => by
    subst e1 e2
    exact .cons (.tup (.of e3) (.cons (.int _) (.cons (.int _) .nil))) e4.dp
theorem TermsAt.dp {K : PySem.W.Frag} {H : Hp} {l : Addr} {ts : Terms} (h : TermsAt H l ts) : Dp K H (.ref l) (.list (ts.map pairD)) := let ⟨_, e, e2⟩ := h; .lst (.of e) e2.dp
theorem eqv_pair (p q : Int × Int) : PyData.eqv (pairD p) (pairD q) = decide (p = q) := by
  obtain ⟨a, b⟩ := p
  obtain ⟨c, d⟩ := q
  have e : decide ((a, b) = (c, d)) = (decide (a = c) && decide (b = d)) := by
    rw [← Bool.decide_and]
    simp
  rw [e]
  simp [pairD, PyData.eqv, PyData.eqvAll]
  by_cases h1 : a = c <;> by_cases h2 : b = d <;> simp [h1, h2]
theorem eqvAll_pairs : ∀ (ts us : Terms), PyData.eqvAll (ts.map pairD) (us.map pairD) = decide (ts = us)
  | [], [] => by simp [PyData.eqvAll]
  | [], _ :: _ => by simp [PyData.eqvAll]
  | _ :: _, [] => by simp [PyData.eqvAll]
  | p :: ts, q :: us => by
    rw [List.map_cons, List.map_cons, PyData.eqvAll, eqv_pair, eqvAll_pairs ts us, ← Bool.decide_and]
    simp
theorem eqv_terms (ts us : Terms) : PyData.eqv (.list (ts.map pairD)) (.list (us.map pairD)) = decide (ts = us) := by
  rw [PyData.eqv]; exact eqvAll_pairs ts us
/-- data that == can walk -/
def Lay (n : Nat) (d : PyData) : Prop := d.canLay0 = true ∧ d.depth ≤ n
theorem Lay.mono {m n : Nat} {d : PyData} (h : Lay m d) (l : m ≤ n) : Lay n d := ⟨h.1, Nat.le_trans h.2 l⟩
theorem layAll {n : Nat} : ∀ {xs : List PyData}, (∀ x ∈ xs, Lay n x) → PyData.canLayAll0 xs = true ∧ PyData.depthAll xs ≤ n
  | [], _ => by simp [PyData.canLayAll0, PyData.depthAll]
  | x :: xs, h => by
    obtain ⟨h1, h2⟩ := h x List.mem_cons_self
    obtain ⟨h3, h4⟩ := layAll fun y hy => h y (List.mem_cons_of_mem _ hy)
    rw [PyData.canLayAll0, PyData.depthAll, h1, h3]
    exact ⟨rfl, Nat.max_le.mpr ⟨h2, h4⟩⟩
theorem Lay.list {n : Nat} {xs : List PyData} (h : ∀ x ∈ xs, Lay n x) : Lay (n + 1) (.list xs) := by
  obtain ⟨h1, h2⟩ := layAll h
  exact ⟨by rw [PyData.canLay0]; exact h1, by rw [PyData.depth]; omega⟩
theorem Lay.tuple {n : Nat} {xs : List PyData} (h : ∀ x ∈ xs, Lay n x) : Lay (n + 1) (.tuple xs) := by
  obtain ⟨h1, h2⟩ := layAll h
  exact ⟨by rw [PyData.canLay0]; exact h1, by rw [PyData.depth]; omega⟩
theorem Lay.int {n : Nat} (i : Int) : Lay n (.int i) := ⟨by simp [PyData.canLay0], by simp [PyData.depth]⟩
theorem Lay.shaped {n : Nat} {d : PyData} (h : Lay n d) (l : n ≤ 64) : SeqAt.shaped d = true := by
  unfold SeqAt.shaped
  rw [h.1, decide_eq_true (Nat.le_trans h.2 l)]
  rfl
theorem lay_pair (p : Int × Int) : Lay 1 (pairD p) := Lay.tuple fun x hx => by
  rcases List.mem_cons.mp hx with rfl | hx
  · exact .int _
  · rcases List.mem_cons.mp hx with rfl | hx
    · exact .int _
    · cases hx
theorem lay_terms (ts : Terms) : Lay 2 (.list (ts.map pairD)) := Lay.list fun x hx => by
  obtain ⟨p, _, rfl⟩ := List.mem_map.mp hx
  exact lay_pair p
theorem shaped_terms (ts : Terms) : SeqAt.shaped (.list (ts.map pairD)) = true := (lay_terms ts).shaped (by decide)
theorem free_upd {H : Hp} {p D : Addr} {o : HO} (h : upd H p o D = none) : H D = none := by
  by_cases e : D = p
  · subst e; rw [upd_same] at h; cases h
  · rw [upd_ne e] at h; exact h
theorem free_same {H H' : Hp} {D : Addr} (s : Same H H') (h : H' D = none) : H D = none := by
  cases e : H D with
  | none => rfl
  | some o => rw [s _ _ e] at h; cases h
section
variable {X : Cx} {K : PySem.W.Frag}
theorem op_eqDK (hu : X.A.units + 64 < cLine) (h : X.K = K := by rfl) : OpR X (compareOp .Eq) (rEqD K) := by subst h; exact op_eqD hu
theorem op_neDK (hu : X.A.units + 64 < cLine) (h : X.K = K := by rfl) : OpR X (compareOp .NotEq) (rNeD K) := by subst h; exact op_neD hu
theorem op_in_seqK (h : X.K = K := by rfl) : OpR X (compareOp .In) (rIn K false) := by subst h; exact op_in_seq
theorem op_notIn_seqK (h : X.K = K := by rfl) : OpR X (compareOp .NotIn) (rIn K true) := by subst h; exact op_notIn_seq
end
theorem r_neT {K : PySem.W.Frag} {H : Hp} {Q : VK} {l m : Addr} {ts us : Terms} (h : TermsAt H l ts) (h' : TermsAt H m us) (q : Q (.bl (!decide (ts = us))) H) : rNeD K (.ref l) (.ref m) H Q :=
  ⟨_, _, h.dp, h'.dp, shaped_terms ts, shaped_terms us, by rw [eqv_terms]; exact q⟩
theorem r_eqT {K : PySem.W.Frag} {H : Hp} {Q : VK} {l m : Addr} {ts us : Terms} (h : TermsAt H l ts) (h' : TermsAt H m us) (q : Q (.bl (decide (ts = us))) H) : rEqD K (.ref l) (.ref m) H Q :=
  ⟨_, _, h.dp, h'.dp, shaped_terms ts, shaped_terms us, by rw [eqv_terms]; exact q⟩
theorem TermsAt.none {H : Hp} {l : Addr} (h : H l = some (.lst [])) : TermsAt H l [] := ⟨[], h, rfl⟩
def spTerms : Sp := fun vs H Q _ => ∃ (a : Addr) (n : Nat) (c : Int → Int), vs = [.ref a] ∧ JarAt H a n c ∧ n ≤ 90000 ∧
  ∀ l ts H', H l = none → Same H H' → Canon ts → (∀ k, cof ts k = c k) → ts.length ≤ n → TermsAt H' l ts → Q (.ref l) H'
/-! ### is not None -/
def rNotNN : R2 := fun x y H Q => y = .non ∧ Q (.bl (!decide (x = .non))) H
theorem op_notNN {X : Cx} : OpR X (compareOp .IsNot) rNotNN := op_notN
theorem r_notNI {H : Hp} {Q : VK} {n : Int} (q : Q (.bl true) H) : rNotNN (.int n) .non H Q := ⟨rfl, by rw [decide_eq_false (by intro h; cases h)]; exact q⟩
theorem r_notNN {H : Hp} {Q : VK} (q : Q (.bl false) H) : rNotNN .non .non H Q := ⟨rfl, by rw [decide_eq_true rfl]; exact q⟩
theorem r_notNR {H : Hp} {Q : VK} {a : Addr} (q : Q (.bl true) H) : rNotNN (.ref a) .non H Q := ⟨rfl, by rw [decide_eq_false (by intro h; cases h)]; exact q⟩
end My

set_option Elab.async false
set_option linter.all false
set_option maxRecDepth 100000
namespace My
open PySem PySem.Spec PyProof.Rows L2
/-! ### iter(t), t a tuple -/
def IterO (b p : Addr) : HO := .ext fun h => h.IsTupleIter p b 0
theorem iterO_ok {P : Program} {w : World} {H : Hp} {h : Heap} {b p : Addr} (e : h.IsTupleIter p b 0) : ObjOk P w H h p (IterO b p) := by
  obtain ⟨o, ho, hc, hd⟩ := id e
  exact ⟨e, ⟨o, ho⟩, fun h1 h2 q k => q.at fun o e => k o e⟩
section
variable {X : Cx} {pins : List (Addr × Obj)} {σ : L2.St} {H : Hp} {s : Shared} {Q : VK} {C : Addr} {m : Str} {k : Nat} {ps : List Str} {sp : Sp} {tg l : Expr} {tl : TE}
def rIterT (K : PySem.W.Frag) : List V → Hp → VK → Prop := fun xs H Q => ∃ b ys, xs = [.ref b] ∧ SqT K H b ys ∧ ∀ p, H p = none → Q (.ref p) (upd H p (IterO b p))
theorem call_iterT : CallR X (.builtin "iter") (rIterT X.K) := by
  intro pins s σ H xs us Q I r q
  obtain ⟨b, ys, rfl, hq, q⟩ := q
  obtain ⟨u, rfl, ru⟩ := r.one
  cases ru
  obtain ⟨its, rv, pl, hz⟩ := I.tuple hq
  refine Calls.call_function_entry (by decide +kernel) (by decide +kernel) PySem.W.kdk_entry_iter (PySem.W.kdk_args_iter _) ?_
  unfold Builtin.«iter»
  refine wpAny_bind (m := someArgs "iter" 1 2 _) (wpAny_of_eq (a := [Value.ref b]) (by first | rfl | kernel_rfl!) ?_)
  show wpAny _ _ (pyIter (.ref b) >>= _) _ _ _
  refine wpAny_bind (wpAny_pyIter_tuple (show s.heap.IsTuple b its.toArray from pl) ?_)
  refine wpAny_pure ⟨_, rfl, .ref s.heap.objs.size, upd H s.heap.objs.size (IterO b s.heap.objs.size), I.laid (t' := s.toks) (fun b o e => Heap.get?_push_of_some _ e) (Nat.le_refl _) (iterO_ok ⟨_, Heap.get?_push_size _ rfl, rfl, rfl⟩), rfl, q _ (I.hok.fresh (Nat.le_refl _))⟩
/-- what was tracked at a is tracked no more -/
theorem Inv.forget {a : Addr} {φ : Heap → Prop} (I : Inv X pins σ H s) (ha : H a = some (.ext φ)) : Inv X pins σ (delH H a) s := by
  have neN : ∀ b, H b = none → b ≠ a := fun b e z => by
    rw [z, ha] at e
    cases e
  have neT : ∀ b xs, H b = some (.tup xs) → b ≠ a := fun b xs e z => by
    rw [z, ha] at e
    cases e
  have neF : ∀ b o u, H b = some (.frz o u) → b ≠ a := fun b o u e z => by
    rw [z, ha] at e
    cases e
  have neB : ∀ b ps, H b = some (.tbl ps) → b ≠ a := fun b ps e z => by
    rw [z, ha] at e
    cases e
  have neO : ∀ b c, H b = some (.own c) → b ≠ a := fun b c e z => by
    rw [z, ha] at e
    cases e
  refine ⟨I.ok, I.os, I.bare, ⟨I.base.keep, I.base.slot, fun b o e n hq => ?_, I.base.there, fun b xs e => ?_, fun b o u e => ?_, fun b ps e => ?_⟩, I.loc, I.cell, ?_, fun x c e => ?_, fun p hp => ?_, fun b u e => ?_, I.len⟩
  · have q := I.base.free b o e n hq
    rw [delH_ne (neN b q)]
    exact q
  · have q := I.base.tups b xs e
    rw [delH_ne (neT b xs q)]
    exact q
  · have q := I.base.frzs b o u e
    rw [delH_ne (neF b o u q)]
    exact q
  · obtain ⟨m, q⟩ := I.base.tbls b ps e
    exact ⟨m, by rw [delH_ne (neB b _ q)]; exact q⟩
  · rw [delH_ne (neN _ I.free)]
    exact I.free
  · rw [delH_ne (neN _ (I.freeC x c e))]
    exact I.freeC x c e
  · obtain ⟨e, n, ne, nf, d⟩ := I.pin p hp
    exact ⟨e, by rw [delH_ne (neN _ n)]; exact n, ne, nf, d⟩
  · have hb : b ≠ a := fun z => by
      rw [z, delH_same] at e
      cases e
    rw [delH_ne hb] at e
    refine (I.hok b u e).stay (fun c v hc q => q) (fun c q => ?_) fun c xs q => ?_
    · rw [delH_ne (neO c b q)]
      exact q
    · rw [delH_ne (neT c xs q)]
      exact q
end
/-! ### a def whose promise knows the state at its entry -/
structure FnS (P : Program) (w : World) (K : PySem.W.Frag) (mg : Str → Option Value) (base : Heap) (k : Nat) (f : Addr) (fd : FuncData) (ps : List Str) (sp : Shared → Sp) : Prop where
  len : ∀ s vs H Q E, sp s vs H Q E → vs.length = ps.length
  run : ∀ (A : Around) (outer : List Env) (s : Shared) (H : Hp) (args : Args) (us : List Value) (vs : List V) (Q : VK) (E : XK), Room k A → Env0 P w K mg base A outer s H → BindsTo s fd args (ps.zip us) → Vals vs us → sp s vs H Q E →
    codeAny (model P w) A (.call (.ref f) args) (CR CX0 outer P w H s Q E) s
theorem fnS_of {P : Program} {w : World} {K : PySem.W.Frag} {mg : Str → Option Value} {base : Heap} {k : Nat} {f : Addr} {x qual : Str} {st : Stmt} {fd : FuncData} {N ps : List Str} {sp : Shared → Sp} (F : Fun K x qual st f fd) (S : FnScope N ps (defScope st))
    (len : ∀ s vs H Q E, sp s vs H Q E → vs.length = ps.length)
    (hbody : ∀ (cdv : Value) (A : Around) (outer : List Env) (s : Shared) (H : Hp) (vs : List V) (Q : VK) (E : XK), Room k (A.deeper (envOfC qual (defScope st) s.heap.objs.size f cdv)) → sp s vs H Q E →
      ∃ t, PSs (cxOf CX0 P w K mg base N qual (defScope st) f cdv A outer s H E).nox (defBody st) t ∧ t { nx := fun _ H' => Q .non H', rt := Q } (start N vs) H) : FnS P w K mg base (k + 1) f fd ps sp := by
  obtain ⟨oc, od, kV, doc, pm, an, cdv, ct, osl, rfl, lk, hcd⟩ := F.ex
  refine ⟨len, fun A outer s H args us vs Q E hr e0 hb r hsp => ?_⟩
  have hl := len _ _ _ _ _ hsp
  have KX : K.In s.heap := e0.mod.kin.keeps fun b o e => (e0.bs b o e).1
  have lim : s.heap.NoLimit := e0.mod.nolimit.keeps fun b o e => (e0.bs b o e).1
  have hkind : ∀ y ∈ ps.zip us, (defScope st).names.lookup y.1 = some .local ∨ ((defScope st).names.lookup y.1 = some .cell ∧ ((cellsFrom (s.heap.objs.size + 1) (defScope st).names []).lookup y.1).isSome = true) := fun ⟨n, v⟩ hy => by
    rcases S.par n (List.of_mem_zip hy).1 with q | q
    · exact .inl q
    · exact .inr ⟨q, PySem.W.cellsFrom_some _ _ _ (.inl q)⟩
  refine codeAny_call_function hr.depth (KX _ _ lk) rfl S.co S.gen rfl (PySem.W.codeRec_of KX hcd) (hb _ _ _ _ ?_)
  refine wpAny_newFunctionEnv_cells S.kind hkind fun env he s1 x => ?_
  subst he
  refine ⟨lim.keeps x.toInCall.keep, codeAny_func ?_⟩
  obtain ⟨t, ht, hq⟩ := hbody cdv A outer s H vs Q E (hr.deeper _) hsp
  have ht := ht.nox
  have I : Inv (cxOf CX0 P w K mg base N qual (defScope st) f cdv A outer s H E) [] (start N vs) H s1 := inv_start S hr.hd e0 hl r x
  refine wpAny_mono (ht.run [] s1 (start N vs) H _ I hq) (fun fl s' hs => ?_) fun e s' hs => hs
  have fin : ∀ {σ' : L2.St} {H' : Hp} {v : V} {u : Value}, Inv (cxOf CX0 P w K mg base N qual (defScope st) f cdv A outer s H E) [] σ' H' s' → RelV v u → Q v H' → CE outer P w H s Q u s' :=
    fun {σ' H' v u} J rv q => ⟨v, H', J.os, J.bare, J.base, J.hok, rv, q⟩
  cases fl with
  | ret u =>
    obtain ⟨v, σ', H', J, rv, q⟩ := hs
    exact fin J rv q
  | next =>
    obtain ⟨σ', H', J, q⟩ := hs
    exact fin (v := V.non) (u := Value.none) J rfl q
  | brk =>
    obtain ⟨_, _, _, q⟩ := hs
    exact False.elim q
  | cont =>
    obtain ⟨_, _, _, q⟩ := hs
    exact False.elim q
structure HasS (P : Program) (w : World) (K : PySem.W.Frag) (mg : Str → Option Value) (base : Heap) (C : Addr) (m : Str) (k : Nat) (ps : List Str) (sp : Shared → Sp) : Prop where
  ex : ∃ f fd, FnS P w K mg base k f fd ps sp ∧ Meth K C m f ∧ Binds K fd ps []
section
variable {X : Cx} {pins : List (Addr × Obj)} {σ : L2.St} {H : Hp} {s : Shared} {Q : VK} {C : Addr} {m : Str} {k : Nat} {ps : List Str} {f : Addr} {fd : FuncData} {tg l : Expr} {tl : TE}
theorem run_mS {sp : Shared → Sp} (F : FnS X.prog X.w X.K X.mg X.base k f fd ps sp) (b : Binds X.K fd ps []) (hr : Room k X.A) (I : Inv X pins σ H s) {us : List Value} {vs : List V} (r : Vals vs us) (q : sp s vs H Q E0) : wpAny (model X.prog X.w) X.A (call (.ref f) us) (EP X pins σ Q) X.xe s := by
  have hl : us.length = ps.length := by rw [← r.length]; exact F.len _ _ _ _ _ q
  refine wpAny_call (codeAny_mono (F.run X.A X.stack s H ⟨us, []⟩ us vs Q E0 hr I.env0 (by simpa using b s us I.kIn (by simpa using hl)) r q) fun r s' hq => ?_)
  cases r with
  | error e => exact (pass0 (X := X)) pins σ H s e s' I hq
  | ok fl =>
    cases fl with
    | ret u => exact I.after hq
    | next => exact False.elim hq
    | brk => exact False.elim hq
    | cont => exact False.elim hq
/-- iter(self.t), t a tuple: the new iterator lies behind all that was there at the entry -/
def rIterS (X : Cx) : List V → Hp → VK → Prop := fun xs H Q => ∃ b ys, xs = [.ref b] ∧ SqT X.K H b ys ∧ ∀ p, H p = none → X.s_0.heap.objs.size ≤ p → Q (.ref p) (upd H p (IterO b p))
theorem call_iterS : CallR X (.builtin "iter") (rIterS X) := by
  intro pins s σ H xs us Q I r q
  obtain ⟨b, ys, rfl, hq, q⟩ := q
  obtain ⟨u, rfl, ru⟩ := r.one
  cases ru
  obtain ⟨its, rv, pl, hz⟩ := I.tuple hq
  refine Calls.call_function_entry (by decide +kernel) (by decide +kernel) PySem.W.kdk_entry_iter (PySem.W.kdk_args_iter _) ?_
  unfold Builtin.«iter»
  refine wpAny_bind (m := someArgs "iter" 1 2 _) (wpAny_of_eq (a := [Value.ref b]) (by first | rfl | kernel_rfl!) ?_)
  show wpAny _ _ (pyIter (.ref b) >>= _) _ _ _
  refine wpAny_bind (wpAny_pyIter_tuple (show s.heap.IsTuple b its.toArray from pl) ?_)
  refine wpAny_pure ⟨_, rfl, .ref s.heap.objs.size, upd H s.heap.objs.size (IterO b s.heap.objs.size), I.laid (t' := s.toks) (fun b o e => Heap.get?_push_of_some _ e) (Nat.le_refl _) (iterO_ok ⟨_, Heap.get?_push_size _ rfl, rfl, rfl⟩), rfl, q _ (I.hok.fresh (Nat.le_refl _)) I.sz⟩
/-- what __iter__ promises: iter(the tuple of the field) -/
def spIter (K : PySem.W.Frag) (C : Addr) (fld : Str) : Shared → Sp := fun s vs H Q _ => ∃ a dx fs b ys, vs = [.ref a] ∧ H a = some (.ins C dx fs) ∧ fs.lookup fld = some (.ref b) ∧ SqT K H b ys ∧ ∀ p, H p = none → s.heap.objs.size ≤ p → Q (.ref p) (upd H p (IterO b p))
/-- for y in x, x an instance of the class at C whose __iter__ gives iter(the tuple of a field) -/
def iOwn (K : PySem.W.Frag) (C : Addr) (fld : Str) (tl : TE) : TI := fun σ H R => tl σ H fun x H1 => ∃ a dx fs b ys, x = .ref a ∧ H1 a = some (.ins C dx fs) ∧ fs.lookup fld = some (.ref b) ∧ SqT K H1 b ys ∧ R (Itt K b) H1
theorem pi_own {fld : Str} (hl : PE X l tl) (h : HasS X.prog X.w X.K X.mg X.base C "__iter__" k ps (spIter X.K C fld)) (hr : Room k X.A) : PI X tg l (iOwn X.K C fld tl) := by
  refine ⟨fun pins s σ H R I q => ?_⟩
  obtain ⟨f, fd, F, M, b⟩ := h.ex
  refine thn (hl.run pins s σ H _ I q) fun v s1 ⟨x, H1, I1, r1, q1⟩ => ?_
  obtain ⟨a, dx, fs, t, ys, rfl, ha, hf, ht, q⟩ := q1
  cases r1
  obtain ⟨mA, O, _⟩ := ins_get I1.hok ha
  obtain ⟨od, J, _⟩ := O.look
  obtain ⟨m', hF⟩ := I1.fr
  refine PySem.W.owit_iter hF I1.ok.mod.kin J M.at_ M.fn ?_
  have hsp : spIter X.K C fld s1 [.ref a] H1 (fun v H2 => ∃ p, v = .ref p ∧ s1.heap.objs.size ≤ p ∧ H1 p = none ∧ H2 = upd H1 p (IterO t p)) E0 := ⟨a, dx, fs, t, ys, rfl, ha, hf, ht, fun p np sz => ⟨p, rfl, sz, np, rfl⟩⟩
  refine wpAny_mono (run_mS (vs := [.ref a]) F b hr I1 (.cons rfl .nil) hsp) (fun w s2 z => ?_) fun _ _ x => x
  obtain ⟨z, H2, I2, rz, p, rfl, sz, np, rfl⟩ := z
  cases rz
  obtain ⟨st, _, _⟩ := I2.hok p _ upd_same
  have st : s2.heap.IsTupleIter p t 0 := st
  unfold PySem.W.OwitIt
  refine wpAny_bind (wpAny_typeOf st.typeIs (wpAny_of_eq PySem.F.slot_tuple_iterator_next.lookup ?_))
  have I3 := Inv.forget I2 upd_same
  rw [delH_new np] at I3
  refine ⟨p, [p], _, Itt X.K t, H1, rfl, I3, turn_tuple t p, st, fun c hc => ?_, q⟩
  have e : c = p := by simpa using hc
  subst e
  exact I1.fpOk sz np
end
end My

set_option Elab.async false
set_option linter.all false
set_option maxRecDepth 100000
namespace PySem.W
open Lean Elab Tactic Meta PySem PySem.Calls PyProof.Rows
section
variable {prog : Program} {w : World} {A : Around} {E : Value → Shared → Prop} {s : Shared} {K : Frag} {x C L f dx : Addr} {h₀ : Heap} {m : Str → Option Value} {nm T : String} {i : Int} {t : Tok}
/-- an int's method declines an instance of an own class -/
theorem own_int_declines {name : String} {g : Int → Int → Sem PySem.Fin} {Q : PySem.Fin → Shared → Prop} (ho : s.heap.get? x = some (instObj C dx)) (h : Q (.done (.ret .notImplemented)) s) : wpAny (model prog w) A (Builtin.Int.intBinary name g false ⟨[.int i t, .ref x], []⟩) Q E s := by
  unfold Builtin.Int.intBinary
  refine wpAny_bind (wpAny_of_eq (a := ((Value.int i t : Value), [Value.ref x])) (by first | rfl | (simp only [slotArgs]; rfl)) ?_)
  show wpAny _ _ (Builtin.Int.intOfSelf (.int i t) >>= _) _ _ _
  refine wpAny_bind (wpAny_pure ?_)
  show wpAny _ _ (asInt? (.ref x) >>= _) _ _ _
  unfold asInt?
  refine wpAny_bind (wpAny_bind (wpAny_load ho ?_))
  exact wpAny_pure (wpAny_bind (wpAny_rule (wpAny_pure h)))
theorem own_int_call {id name : String} {g : Int → Int → Sem PySem.Fin} {B : Builtin} {Q : Value → Shared → Prop} (slot : Slot "int" (PySem.dunder nm) id) (entry : entryFor table id = some B) (args : argsOk id ⟨[.int i t, .ref x], []⟩) (hB : B = Builtin.Int.intBinary name g)
    (ho : s.heap.get? x = some (instObj C dx)) (h : Q .notImplemented s) : wpAny (model prog w) A (call (.builtin id) [.int i t, .ref x]) Q E s := by
  refine wpAny_call_entry slot (typeIs_int s i t) entry ?_ args
  subst hB
  exact own_int_declines ho ⟨_, rfl, h⟩
/-- n op x, n an int, x an instance of the class at C: the int's method declines, then the class's reflected one -/
theorem own_radd {op : Operator} {id name : String} {g : Int → Int → Sem PySem.Fin} {B : Builtin} {ox : Obj} {od : Option Obj} {f' : Addr} {ro : Option Value} {Q : Value → Shared → Prop} (F : Fr h₀ L s.heap m) (X₀ : K.In h₀) (I : InstAt s.heap x ox C od) (ho : s.heap.get? x = some (instObj C dx)) (hc : selfFirst K C = true)
    (slot : Slot "int" (PySem.dunder op.info.2) id) (entry : entryFor table id = some B) (args : argsOk id ⟨[.int i t, .ref x], []⟩) (hB : B = Builtin.Int.intBinary name g) (hsq : isSeqSlot (some (.builtin id)) = false)
    (hs : findIn K (.ref C) (PySem.dunder op.info.2) = some (some (.ref f'))) (hr : findIn K (.ref C) (dunderR op.info.2) = some (some (.ref f))) (hf : isFn K (.ref f) = true)
    (h1 : findIn K (.type "int") (PySem.dunder op.info.2) = some (some (.builtin id))) (h2 : findIn K (.type "int") (dunderR op.info.2) = some ro) (hsub : subIn K (.ref C) (.type "int") = some false)
    (h : wpAny (model prog w) A (call (.ref f) [.ref x, .int i t]) (CmpBack Q) E s) : wpAny (model prog w) A (binaryOp op (.int i t) (.ref x)) Q E s := by
  have X := X₀.keeps F.keep
  obtain ⟨cd, rest, hcd, hm⟩ := ksp_first hc
  rcases hi : op.info with ⟨sym, nm'⟩
  rw [hi] at hs hr h1 h2 slot
  dsimp only at hs hr h1 h2 slot
  have one := ksp_try X I hr hf h
  have two : wpAny (model prog w) A (tryMethod (.int i t) (PySem.dunder nm') (.ref x)) (fun r s' => r = none ∧ s' = s) E s :=
    wpAny_tryMethod_declines (typeIs_int s i t) slot (own_int_call slot entry args hB ho ⟨rfl, rfl, rfl⟩)
  obtain ⟨hh, g', d, tt, os⟩ := s
  have L1 : Looks (model prog w) hh (typeOf (.ref x)) (.ref C) := I.type
  have L2 : Looks (model prog w) hh (typeOf (.int i t)) (.type "int") := Looks.of_pure rfl
  have L3 : Looks (model prog w) hh (fillsNumberSlot (.ref C) nm') true := fills_K X hcd hm hs
  have L4 : Looks (model prog w) hh (fillsNumberSlot (.type "int") nm') true := by
    have e := ksp_fillsT (M := model prog w) X h1 h2
    rw [hsq] at e
    exact e
  have L5 : Looks (model prog w) hh (isSubtype (.ref C) (.type "int")) false := looks_subIn X hsub
  have L7 : Looks (model prog w) hh (numberSlotInPython (.type "int") nm') false := Looks.of_pure rfl
  have hne : (Value.type "int" == Value.ref C) = false := Bool.eq_false_iff.mpr fun q => by cases beq_iff_eq.mp q
  simp only [binaryOp, hi]
  refine wpAny_holding (wpAny_bind ?_)
  unfold binaryOp1
  refine wpAny_bind (L2.at (wpAny_bind (L1.at (wpAny_bind (L4.at ?_)))))
  simp only [hne, Bool.false_eq_true, if_false]
  refine wpAny_bind (L3.at ?_)
  simp only [Bool.and_self, if_true]
  refine wpAny_bind (L5.at ?_)
  simp only [Bool.false_eq_true, if_false, pure_bind, Bool.not_false, Bool.and_self, if_true]
  refine wpAny_bind (L7.at ?_)
  simp only [Bool.false_eq_true, if_false, pure_bind]
  refine wpAny_bind (wpAny_mono two (fun r s' hr' => ?_) fun _ _ e => e)
  obtain ⟨rfl, rfl⟩ := hr'
  dsimp only
  refine wpAny_bind (wpAny_mono one (fun r s' hr' => ?_) fun _ _ e => e)
  obtain ⟨v, rfl, hq⟩ := hr'
  dsimp only
  exact wpAny_bind (wpAny_rule (wpAny_pure (wpAny_pure hq)))
end
end PySem.W
namespace PySem.W
open Lean Elab Tactic Meta PySem PySem.Calls PyProof.Rows
/-- the class at C stands over object alone -/
def plainMro (K : Frag) (C : Addr) : Bool := (clsIn K C).any fun cd => cd.mro == [.ref C, .type "object"]
section
variable {prog : Program} {w : World} {M : Model} {A : Around} {E : Value → Shared → Prop} {s : Shared} {K : Frag} {x C L f dx : Addr} {h₀ : Heap} {m : Str → Option Value} {nm : String} {ox : Obj} {od : Option Obj}
theorem own_noI {h : Heap} {add : Bool} (X : K.In h) (hc : plainMro K C = true) (hs : findIn K (.ref C) (dunderI nm) = some none) (ho : findIn K (.type "object") (dunderI nm) = some none) : Looks M h (fillsInplaceSlot (.ref C) nm add) false := by
  intro A Q E s k q
  obtain ⟨cd, hcd, hm⟩ := any_some hc
  have hm := beq_iff_eq.mp hm
  have Lm : Looks M h (mroOf (.ref C)) cd.mro := (looks_clsIn X hcd).andThen (f := fun cd => pure cd.mro) .now
  have Lm' := Lm.keeps k
  obtain ⟨hh, g, d, tt, os⟩ := s
  have X' : K.In hh := X.keeps k
  have L1 : Looks M hh (typeLookup (.ref C) (dunderI nm)) none := looks_findIn X' hs
  have L2 : Looks M hh (typeLookup (.type "object") (dunderI nm)) none := looks_findIn X' ho
  unfold fillsInplaceSlot
  refine wpAny_bind (Lm'.at ?_)
  rw [hm, List.anyM_cons]
  refine wpAny_bind (wpAny_bind (L1.at (wpAny_pure ?_)))
  rw [if_neg Bool.false_ne_true, List.anyM_cons]
  refine wpAny_bind (wpAny_bind (L2.at (wpAny_pure ?_)))
  rw [if_neg Bool.false_ne_true]
  exact wpAny_pure q
theorem own_binop1 {b : Value} {nm' : String} {Q : Option Value → Shared → Prop} (X : K.In s.heap) (I : InstAt s.heap x ox C od) (hb : Looks (model prog w) s.heap (typeOf b) (.ref C)) (hc : selfFirst K C = true)
    (hs : findIn K (.ref C) (PySem.dunder nm') = some (some (.ref f))) (hf : isFn K (.ref f) = true)
    (h : wpAny (model prog w) A (call (.ref f) [.ref x, b]) (CmpBack fun v => Q (some v)) E s) : wpAny (model prog w) A (binaryOp1 nm' (.ref x) b) Q E s := by
  obtain ⟨cd, rest, hcd, hm⟩ := ksp_first hc
  unfold binaryOp1
  refine wpAny_bind (I.type.here (wpAny_bind (hb.here (wpAny_bind ((fills_K X hcd hm hs).here ?_)))))
  simp only [beq_self_eq_true, if_true]
  refine wpAny_bind (wpAny_pure ?_)
  simp only [Bool.and_false, Bool.false_eq_true, if_false, Bool.false_and]
  refine wpAny_bind (wpAny_pure ?_)
  simp only [Bool.false_eq_true, if_false]
  refine wpAny_bind (m := tryMethod (.ref x) _ b) ?_
  unfold tryMethod
  refine wpAny_bind (special_fn X I hs (beq_iff_eq.mp hf) (wpAny_mono h (fun v s' hv => ?_) fun _ _ e => e))
  cases v <;> first | exact hv.elim | exact wpAny_pure (wpAny_pure hv)
/-- x op= b, no own in-place method: x op b -/
theorem own_aug {op : Operator} {b : Value} {Q : Value → Shared → Prop} (F : Fr h₀ L s.heap m) (X₀ : K.In h₀) (I : InstAt s.heap x ox C od) (hb : Looks (model prog w) s.heap (typeOf b) (.ref C)) (hc : selfFirst K C = true) (hp : plainMro K C = true)
    (hs : findIn K (.ref C) (PySem.dunder op.info.2) = some (some (.ref f))) (hf : isFn K (.ref f) = true) (hi : findIn K (.ref C) (dunderI op.info.2) = some none) (ho : findIn K (.type "object") (dunderI op.info.2) = some none)
    (h : wpAny (model prog w) A (call (.ref f) [.ref x, b]) (CmpBack Q) E s) : wpAny (model prog w) A (inplaceOp op (.ref x) b) Q E s := by
  have X := X₀.keeps F.keep
  unfold inplaceOp
  refine wpAny_holding ?_
  refine wpAny_bind (I.type.here (wpAny_bind ((own_noI X hp hi ho).here ?_)))
  simp only [Bool.false_eq_true, if_false, pure_bind]
  refine wpAny_bind (own_binop1 X I hb hc hs hf (wpAny_mono h (fun v s' hv => ?_) fun _ _ e => e))
  cases v <;> first | exact hv.elim | exact wpAny_pure hv
end
end PySem.W
namespace PySem.W
open Lean Elab Tactic Meta PySem PySem.Calls PyProof.Rows
section
variable {prog : Program} {w : World} {A : Around} {E : Value → Shared → Prop} {s : Shared} {K : Frag} {x C L f dx : Addr} {h₀ : Heap} {m : Str → Option Value} {nm' T : String} {ox : Obj} {od : Option Obj}
theorem own_binop1T {b : Value} {fo ro rc : Option Value} {Q : Option Value → Shared → Prop} (X : K.In s.heap) (I : InstAt s.heap x ox C od) (hb : typeOf b = pure (.type T)) (hc : selfFirst K C = true)
    (hs : findIn K (.ref C) (PySem.dunder nm') = some (some (.ref f))) (hf : isFn K (.ref f) = true) (hr : findIn K (.ref C) (dunderR nm') = some rc) (hp : rc = none ∨ ∃ g : Addr, rc = some (.ref g))
    (h1 : findIn K (.type T) (PySem.dunder nm') = some fo) (h2 : findIn K (.type T) (dunderR nm') = some ro) (hsub : subIn K (.type T) (.ref C) = some false)
    (h : wpAny (model prog w) A (call (.ref f) [.ref x, b]) (CmpBack fun v => Q (some v)) E s) : wpAny (model prog w) A (binaryOp1 nm' (.ref x) b) Q E s := by
  obtain ⟨cd, rest, hcd, hm⟩ := ksp_first hc
  have one := ksp_try X I hs hf h
  obtain ⟨hh, g, d, tt, os⟩ := s
  have L1 : Looks (model prog w) hh (typeOf (.ref x)) (.ref C) := I.type
  have L2 : Looks (model prog w) hh (typeOf b) (.type T) := Looks.of_pure hb
  have L3 : Looks (model prog w) hh (fillsNumberSlot (.ref C) nm') true := fills_K X hcd hm hs
  have L4 : Looks (model prog w) hh (fillsNumberSlot (.type T) nm') ((fo.isSome && !isSeqSlot fo) || (ro.isSome && !isSeqSlot ro)) := ksp_fillsT X h1 h2
  have L5 : Looks (model prog w) hh (isSubtype (.type T) (.ref C)) false := looks_subIn X hsub
  have L6 : Looks (model prog w) hh (numberSlotInPython (.ref C) nm') true := ksp_inPy X hs hr hp
  have L7 : Looks (model prog w) hh (numberSlotInPython (.type T) nm') false := Looks.of_pure rfl
  have L8 : Looks (model prog w) hh (typeLookup (.type T) (dunderR nm')) ro := looks_findIn X h2
  generalize ((fo.isSome && !isSeqSlot fo) || (ro.isSome && !isSeqSlot ro)) = right at L4
  have hne : (Value.ref C == Value.type T) = false := Bool.eq_false_iff.mpr fun q => by cases beq_iff_eq.mp q
  unfold binaryOp1
  refine wpAny_bind (L1.at (wpAny_bind (L2.at (wpAny_bind (L3.at ?_)))))
  simp only [hne, Bool.false_eq_true, if_false]
  cases right with
  | false =>
    ksp_lk
    refine wpAny_mono one (fun r s' hr' => ?_) fun _ _ e => e
    obtain ⟨v, rfl, hq⟩ := hr'
    ksp_lk
    exact hq
  | true =>
    ksp_lk
    refine wpAny_mono one (fun r s' hr' => ?_) fun _ _ e => e
    obtain ⟨v, rfl, hq⟩ := hr'
    ksp_lk
    exact hq
theorem own_augT {op : Operator} {b : Value} {fo ro rc : Option Value} {Q : Value → Shared → Prop} (F : Fr h₀ L s.heap m) (X₀ : K.In h₀) (I : InstAt s.heap x ox C od) (hb : typeOf b = pure (.type T)) (hc : selfFirst K C = true) (hpm : plainMro K C = true)
    (hs : findIn K (.ref C) (PySem.dunder op.info.2) = some (some (.ref f))) (hf : isFn K (.ref f) = true) (hr : findIn K (.ref C) (dunderR op.info.2) = some rc) (hp : rc = none ∨ ∃ g : Addr, rc = some (.ref g))
    (h1 : findIn K (.type T) (PySem.dunder op.info.2) = some fo) (h2 : findIn K (.type T) (dunderR op.info.2) = some ro) (hsub : subIn K (.type T) (.ref C) = some false)
    (hi : findIn K (.ref C) (dunderI op.info.2) = some none) (ho : findIn K (.type "object") (dunderI op.info.2) = some none)
    (h : wpAny (model prog w) A (call (.ref f) [.ref x, b]) (CmpBack Q) E s) : wpAny (model prog w) A (inplaceOp op (.ref x) b) Q E s := by
  have X := X₀.keeps F.keep
  unfold inplaceOp
  refine wpAny_holding ?_
  refine wpAny_bind (I.type.here (wpAny_bind ((own_noI X hpm hi ho).here ?_)))
  simp only [Bool.false_eq_true, if_false, pure_bind]
  refine wpAny_bind (own_binop1T X I hb hc hs hf hr hp h1 h2 hsub (wpAny_mono h (fun v s' hv => ?_) fun _ _ e => e))
  cases v <;> first | exact hv.elim | exact wpAny_pure hv
end
end PySem.W
namespace My
open PySem PySem.Spec PyProof.Rows L2
/-- what op= asks of the class besides -/
structure AugOp (K : PySem.W.Frag) (C : Addr) (nm : String) : Prop where
  mro : PySem.W.plainMro K C = true
  no : PySem.W.findIn K (.ref C) (dunderI nm) = some none
  ob : PySem.W.findIn K (.type "object") (dunderI nm) = some none
section
variable {X : Cx} {pins : List (Addr × Obj)} {σ : L2.St} {H : Hp} {s : Shared} {Q : VK} {C : Addr} {m : Str} {k : Nat} {ps : List Str} {sp : Sp} {f : Addr} {fd : FuncData}
theorem ip_own2 {op : Operator} (h : HasM X.prog X.w X.K X.mg X.base C m k ps sp) (hc : PySem.W.selfFirst X.K C = true) (N : AugOp X.K C op.info.2) (hr : Room k X.A) (hm : PySem.dunder op.info.2 = m := by rfl) : PIp X op (rOwn2 C sp) := by
  intro pins s σ H x y v u Q I rx ry q
  obtain ⟨f, fd, F, M, b⟩ := h.ex
  obtain ⟨a, dx, fs, a', dy, gs, rfl, rfl, ha, hb, q⟩ := q
  cases rx
  cases ry
  obtain ⟨mA, O, _⟩ := ins_get I.hok ha
  obtain ⟨od, J, _⟩ := O.look
  obtain ⟨mB, O', _⟩ := ins_get I.hok hb
  obtain ⟨od', J', _⟩ := O'.look
  obtain ⟨m', hF⟩ := I.fr
  refine PySem.W.own_aug hF I.ok.mod.kin J J'.type hc N.mro (by rw [hm]; exact M.at_) M.fn N.no N.ob ?_
  exact wpAny_mono (run_m (vs := [.ref a, .ref a']) F b hr I (.cons rfl (.cons rfl .nil)) q) (fun w s' ⟨z, H', I', rz, qz⟩ => SlX.cmpback rz ⟨z, H', I', rz, qz⟩) fun _ _ x => x
theorem ip_ownI {op : Operator} (h : HasM X.prog X.w X.K X.mg X.base C m k ps sp) (hc : PySem.W.selfFirst X.K C = true) (N : AugOp X.K C op.info.2) (N' : IntOp X.K C op.info.2) (hr : Room k X.A) (hm : PySem.dunder op.info.2 = m := by rfl) : PIp X op (rOwnI C sp) := by
  intro pins s σ H x y v u Q I rx ry q
  obtain ⟨f, fd, F, M, b⟩ := h.ex
  obtain ⟨a, dx, fs, i, rfl, rfl, ha, q⟩ := q
  cases rx
  obtain ⟨t, rfl⟩ := ry
  obtain ⟨mA, O, _⟩ := ins_get I.hok ha
  obtain ⟨od, J, _⟩ := O.look
  obtain ⟨m', hF⟩ := I.fr
  obtain ⟨rc, r1, r2⟩ := N'.rc
  obtain ⟨fo, f1⟩ := N'.fo
  obtain ⟨ro, o1⟩ := N'.ro
  refine PySem.W.own_augT (T := "int") hF I.ok.mod.kin J rfl hc N.mro (by rw [hm]; exact M.at_) M.fn r1 r2 f1 o1 N'.sub N.no N.ob ?_
  exact wpAny_mono (run_m (vs := [.ref a, .int i]) F b hr I (.cons rfl (.cons ⟨t, rfl⟩ .nil)) q) (fun w s' ⟨z, H', I', rz, qz⟩ => SlX.cmpback rz ⟨z, H', I', rz, qz⟩) fun _ _ x => x
/-- n op x, n an int: the class's reflected method -/
structure RevOp (K : PySem.W.Frag) (C : Addr) (nm : String) (id : String) : Prop where
  own : ∃ f' : Addr, PySem.W.findIn K (.ref C) (PySem.dunder nm) = some (some (.ref f'))
  fo : PySem.W.findIn K (.type "int") (PySem.dunder nm) = some (some (.builtin id))
  ro : ∃ ro, PySem.W.findIn K (.type "int") (dunderR nm) = some ro
  sub : PySem.W.subIn K (.ref C) (.type "int") = some false
def rOwnR (C : Addr) (sp : Sp) : R2 := fun x y H Q => ∃ a dx fs i, x = .int i ∧ y = .ref a ∧ H a = some (.ins C dx fs) ∧ sp [y, x] H Q E0
theorem op_rev {op : Operator} {id name : String} {g : Int → Int → Sem PySem.Fin} {B : Builtin} (h : HasM X.prog X.w X.K X.mg X.base C m k ps sp) (hc : PySem.W.selfFirst X.K C = true) (N : RevOp X.K C op.info.2 id) (hr : Room k X.A)
    (slot : Slot "int" (PySem.dunder op.info.2) id) (entry : entryFor table id = some B) (args : ∀ a b, argsOk id ⟨[a, b], []⟩) (hB : B = Builtin.Int.intBinary name g) (hsq : isSeqSlot (some (.builtin id)) = false) (hm : dunderR op.info.2 = m := by rfl) : OpR X (binaryOp op) (rOwnR C sp) := by
  intro pins s σ H x y v u Q I rx ry q
  obtain ⟨f, fd, F, M, b⟩ := h.ex
  obtain ⟨a, dx, fs, i, rfl, rfl, ha, q⟩ := q
  cases ry
  obtain ⟨t, rfl⟩ := rx
  obtain ⟨mA, O, _⟩ := ins_get I.hok ha
  obtain ⟨od, J, _⟩ := O.look
  obtain ⟨m', hF⟩ := I.fr
  obtain ⟨f', o1⟩ := N.own
  obtain ⟨ro, o2⟩ := N.ro
  refine PySem.W.own_radd hF I.ok.mod.kin J O.obj hc slot entry (args _ _) hB hsq o1 (by rw [hm]; exact M.at_) M.fn N.fo o2 N.sub ?_
  exact wpAny_mono (run_m (vs := [.ref a, .int i]) F b hr I (.cons rfl (.cons ⟨t, rfl⟩ .nil)) q) (fun w s' ⟨z, H', I', rz, qz⟩ => SlX.cmpback rz ⟨z, H', I', rz, qz⟩) fun _ _ x => x
theorem op_raddI (h : HasM X.prog X.w X.K X.mg X.base C "__radd__" k ps sp) (hc : PySem.W.selfFirst X.K C = true) (N : RevOp X.K C "add" "int.__add__") (hr : Room k X.A) : OpR X (binaryOp .Add) (rOwnR C sp) :=
  op_rev h hc N hr PySem.F.slot_int_add PySem.F.entry_int_add PySem.F.args_int_add_2 rfl (by decide +kernel)
theorem op_rsubI (h : HasM X.prog X.w X.K X.mg X.base C "__rsub__" k ps sp) (hc : PySem.W.selfFirst X.K C = true) (N : RevOp X.K C "sub" "int.__sub__") (hr : Room k X.A) : OpR X (binaryOp .Sub) (rOwnR C sp) :=
  op_rev h hc N hr PySem.F.slot_int_sub PySem.F.entry_int_sub PySem.F.args_int_sub_2 rfl (by decide +kernel)
theorem op_rmulI (h : HasM X.prog X.w X.K X.mg X.base C "__rmul__" k ps sp) (hc : PySem.W.selfFirst X.K C = true) (N : RevOp X.K C "mul" "int.__mul__") (hr : Room k X.A) : OpR X (binaryOp .Mult) (rOwnR C sp) :=
  op_rev h hc N hr PySem.F.slot_int_mul PySem.F.entry_int_mul PySem.F.args_int_mul_2 rfl (by decide +kernel)
end
end My

set_option Elab.async false
set_option linter.all false
set_option maxRecDepth 100000
namespace My
open PySem PySem.Spec PyProof.Rows L2
/-! ### properties, methods and makings by name -/
structure HasP (P : Program) (w : World) (K : PySem.W.Frag) (mg : Str → Option Value) (base : Heap) (C : Addr) (m : Str) (k : Nat) (ps : List Str) (sp : Sp) : Prop where
  ex : ∃ p g fd, FnOk P w K mg base CX0 k g fd ps sp ∧ PropOf K C m p g ∧ Binds K fd ps []
structure HasC (P : Program) (w : World) (K : PySem.W.Frag) (mg : Str → Option Value) (base : Heap) (x : Str) (C : Addr) (k : Nat) (ps : List Str) (sp : Sp) : Prop where
  ex : ∃ f fd, FnOk P w K mg base CX0 k f fd ps sp ∧ Mk K C f ∧ mg x = some (.ref C) ∧ Binds K fd ps []
section
variable {X : Cx} {C : Addr} {m x : Str} {k : Nat} {ps : List Str} {sp : Sp} {e o : Expr} {es : List Expr} {p pos apos : Pos} {ta : TE} {t : TA}
theorem pe_propH (c : Cls X.K C) (h : HasP X.prog X.w X.K X.mg X.base C m k ps sp) (hr : Room (k + 1) X.A) (he : PE X e ta) (hab : attributeBase e m X.env (eval e X.env) = eval e X.env := by rfl) : PE X (.Attribute e m pos) (tProp C sp [] E0 ta) := by
  obtain ⟨p, g, fd, F, hp, b⟩ := h.ex
  exact pe_prop he c hp F hr b .nil pass0 hab
theorem pe_methH {pl : Sem Bool} (c : Cls X.K C) (h : HasM X.prog X.w X.K X.mg X.base C m k ps sp) (hr : Room k X.A) (he : PE X o ta) (ha : PA X (e :: es) t)
    (hst : starEach (e :: es) X.env = (false, eval e X.env) :: starEach es X.env := by rfl) (hpl : (backTo pos (starEach es X.env)).any (·.1) = false := by rfl)
    (ht : eval (.Call (.Attribute o m apos) (e :: es) [] pos) X.env = (do
      let ov ← eval o X.env
      standAt apos.atName
      let (f, first) ← holding [ov] (getMethod ov m pl)
      callWith pos f first (backTo pos (starEach (e :: es) X.env)) (backToKw pos (keywordEach [] X.env))) := by rfl) : PE X (.Call (.Attribute o m apos) (e :: es) [] pos) (tMeth C m sp [] E0 ta t) := by
  obtain ⟨f, fd, F, hm, b⟩ := h.ex
  exact pe_meth he c hm F hr b .nil pass0 ha hst hpl ht
theorem pe_meth0H {pl : Sem Bool} (c : Cls X.K C) (h : HasM X.prog X.w X.K X.mg X.base C m k ps sp) (hr : Room k X.A) (he : PE X o ta)
    (ht : eval (.Call (.Attribute o m apos) [] [] pos) X.env = (do
      let ov ← eval o X.env
      standAt apos.atName
      let (f, first) ← holding [ov] (getMethod ov m pl)
      callWith pos f first (backTo pos (starEach [] X.env)) (backToKw pos (keywordEach [] X.env))) := by rfl) : PE X (.Call (.Attribute o m apos) [] [] pos) (tMeth C m sp [] E0 ta tNil) := by
  obtain ⟨f, fd, F, hm, b⟩ := h.ex
  exact pe_meth0 he c hm F hr b .nil pass0 ht
theorem pe_makeH (h : HasC X.prog X.w X.K X.mg X.base x C k ps sp) (hr : Room (k + 1) X.A) (ha : PA X (e :: es) t) (hg : Gl X x := by rfl) (hdb : (x == ("__debug__" : Str)) = false := by decide)
    (he : starEach (e :: es) X.env = (false, eval e X.env) :: starEach es X.env := by rfl) (hpl : (backTo pos (starEach es X.env)).any (·.1) = false := by rfl) : PE X (.Call (.Name x p) (e :: es) [] pos) (tMake C sp [] E0 t) := by
  obtain ⟨f, fd, F, M, hm, b⟩ := h.ex
  exact pe_make M F hr hg hm b .nil pass0 ha hdb he hpl
end
section
variable {σ : L2.St} {H : Hp} {Q : VK} {C : Addr} {m : Str} {sp : Sp} {E : XK} {ta : TE} {t : TA} {K : PySem.W.Frag} {f : Str} {R : It → Hp → Prop} {D : Ends} {te : TE}
theorem r_prop (q : ta σ H fun x H1 => ∃ a dx fs, x = .ref a ∧ H1 a = some (.ins C dx fs) ∧ sp [.ref a] H1 Q E) : tProp C sp [] E ta σ H Q := q
theorem r_meth (q : ta σ H fun x H1 => ∃ a dx fs, x = .ref a ∧ H1 a = some (.ins C dx fs) ∧ fs.lookup m = none ∧ t σ H1 fun vs H2 => sp (x :: vs) H2 Q E) : tMeth C m sp [] E ta t σ H Q := by
  unfold tMeth
  simpa only [List.append_nil] using q
theorem r_make (q : t σ H fun vs H1 => ∀ x dx, H1 x = none → H1 dx = none → dx ≠ x → sp (.ref x :: vs) (upd (upd H1 dx (.own x)) x (.ins C dx [])) (fun v H2 => v = .non ∧ Q (.ref x) H2) E) : tMake C sp [] E t σ H Q := by
  unfold tMake
  simpa only [List.append_nil] using q
theorem r_iOwn (q : ta σ H fun x H1 => ∃ a dx fs b ys, x = .ref a ∧ H1 a = some (.ins C dx fs) ∧ fs.lookup f = some (.ref b) ∧ SqT K H1 b ys ∧ R (Itt K b) H1) : iOwn K C f ta σ H R := q
theorem r_sfld (q : te σ H fun v H1 => ta σ H1 fun x H2 => ∃ a C dx fs, x = .ref a ∧ H2 a = some (.ins C dx fs) ∧ Cls K C ∧ NoAttr K C f ∧ fs.length < 1000 ∧ D.nx σ (upd H2 a (.ins C dx (putF f v fs)))) : sFld K ta te f D σ H := q
theorem r_fld (q : ta σ H fun x H1 => ∃ a C dx fs v, x = .ref a ∧ H1 a = some (.ins C dx fs) ∧ Cls K C ∧ NoAttr K C f ∧ fs.lookup f = some v ∧ Q v H1) : tFld K ta f σ H Q := q
end
theorem pe_fldK {X : Cx} {K : PySem.W.Frag} {e : Expr} {f : Str} {pos : Pos} {ta : TE} (he : PE X e ta) (h : X.K = K := by rfl) (hb : attributeBase e f X.env (eval e X.env) = eval e X.env := by rfl) : PE X (.Attribute e f pos) (tFld K ta f) := by subst h; exact pe_fld he hb
section
variable {X : Cx} {K : PySem.W.Frag} {C : Addr} {k : Nat} {ps : List Str} {sp : Sp} {fld : Str} {tg l : Expr} {tl : TE}
theorem op_eqOwnK (h : HasM X.prog X.w X.K X.mg X.base C "__eq__" k ps sp) (hr : Room k X.A) (e : X.K = K := by rfl) : OpR X (compareOp .Eq) (rOwnEq K C sp) := by subst e; exact op_eqOwn h hr
theorem pi_ownK (hl : PE X l tl) (h : HasS X.prog X.w X.K X.mg X.base C "__iter__" k ps (spIter K C fld)) (hr : Room k X.A) (e : X.K = K := by rfl) : PI X tg l (iOwn K C fld tl) := by subst e; exact pi_own hl h hr
end
theorem pg_tupK {X : Cx} {K : PySem.W.Frag} {es : List Expr} {k : Nat} {t : TGs} {n : Nat} {pos : Pos} (hc : X.calm = true) (h : PGs X es t) (e : X.K = K := by rfl)
    (hn : (assignEach es X.env).length = n := by rfl) (hst : (assignEach es X.env).findIdx? (·.1) = none := by rfl) : PG X (.Tuple es k pos) (gTup K n t) := by subst e; exact pg_tup hc h hn hst
/-! ### polynomials -/
/-- what the text has made of the class Poly -/
structure PolyT (K : PySem.W.Frag) (mg : Str → Option Value) (C : Addr) : Prop where
  cl : Cls K C
  nR : NoAttr K C "rows"
  mgC : mg "Poly" = some (.ref C)
  self : PySem.W.selfFirst K C = true
  mro : PySem.W.plainMro K C = true
  ca : PySem.W.findIn K (.ref C) "__class__" = some (some (.builtin "object.__class__"))
  cn : PySem.W.specialIn K (.builtin "object.__class__") "__get__" = some (some (.builtin "getset_descriptor.__get__"))
  ct : PySem.W.takesIn K (.builtin "object.__class__") = some true
  cm : PySem.W.mroIn K C (.type "object") = some true
  cs : ∃ cd, PySem.W.clsIn K C = some cd
  ty : PySem.W.typeIn K (.ref C) = some (.type "type")
  sInt : PySem.W.subIn K (.type "int") (.ref C) = some false
  sBool : PySem.W.subIn K (.type "bool") (.ref C) = some false
  sStr : PySem.W.subIn K (.type "str") (.ref C) = some false
  sList : PySem.W.subIn K (.type "list") (.ref C) = some false
  sTup : PySem.W.subIn K (.type "tuple") (.ref C) = some false
  sNone : PySem.W.subIn K (.type "NoneType") (.ref C) = some false
  tInt : PySem.W.subIn K (.ref C) (.type "int") = some false
  tBool : PySem.W.subIn K (.ref C) (.type "bool") = some false
  tList : PySem.W.subIn K (.ref C) (.type "list") = some false
  tTup : PySem.W.subIn K (.ref C) (.type "tuple") = some false
theorem kit_no {K : PySem.W.Frag} {C : Addr} {t : Value} (cs : ∃ cd, PySem.W.clsIn K C = some cd) (ty : PySem.W.typeIn K (.ref C) = some (.type "type")) (s : PySem.W.subIn K t (.ref C) = some false) (ne : (t == .ref C) = false) : PySem.W.kitOne K t (.ref C) = some false := by
  obtain ⟨cd, e⟩ := cs
  unfold PySem.W.kitOne PySem.W.kitCls
  rw [ne, if_neg Bool.false_ne_true]
  show (if ((PySem.W.clsIn K C).isSome && PySem.W.typeIn K (.ref C) == some (.type "type")) = true then PySem.W.subIn K t (.ref C) else none) = some false
  rw [e, ty, if_pos (by simp)]
  exact s
theorem kit_self {K : PySem.W.Frag} {C : Addr} : PySem.W.kitOne K (.ref C) (.ref C) = some true := by
  unfold PySem.W.kitOne
  rw [if_pos (beq_self_eq_true _)]
/-- a polynomial with these terms -/
def PolyAt (C : Addr) (H : Hp) (a : Addr) (ts : Terms) : Prop := ∃ dx r vs, H a = some (.ins C dx [("rows", .ref r)]) ∧ H r = some (.tup vs) ∧ TermsL H vs ts ∧ Canon ts
theorem rows_look {v : V} : ([(("rows" : Str), v)] : List (Str × V)).lookup ("rows" : Str) = some v := by simp [List.lookup]
theorem rows_put {v : V} : putF "rows" v [] = ([(("rows" : Str), v)] : List (Str × V)) := rfl
/-- what is neither a list nor a dict stays -/
def Stay (H H' : Hp) : Prop := ∀ c o, (∀ xs, o ≠ .lst xs) → (∀ kvs, o ≠ .dK kvs) → H c = some o → H' c = some o
theorem Stay.tk {H H' : Hp} (s : Stay H H') : Tk H H' := fun c xs e => s c _ (by intro _ z; cases z) (by intro _ z; cases z) e
theorem Stay.same {H H' : Hp} (s : Same H H') : Stay H H' := fun c o _ _ e => s c o e
theorem Stay.but {H H' : Hp} {a : Addr} {xs : List V} (b : But a H H') (h : H a = some (.lst xs)) : Stay H H' := fun c o n _ e => b c o (by rintro rfl; rw [h] at e; cases e; exact n _ rfl) e
theorem Stay.bag {H H' : Hp} {a : Addr} (b : But a H H') (h : Bag H a) : Stay H H' := let ⟨_, _, _, e, _⟩ := h; Stay.but b e
theorem Stay.trans {H H1 H2 : Hp} (s : Stay H H1) (t : Stay H1 H2) : Stay H H2 := fun c o n m e => t c o n m (s c o n m e)
theorem Stay.refl (H : Hp) : Stay H H := fun _ _ _ _ e => e
theorem Stay.new {H H' : Hp} {p : Addr} {o : HO} (h : Stay H H') (n : H' p = none) : Stay H (upd H' p o) := fun c u x y e => h_keep (h c u x y e) n
theorem Stay.lst {H H' : Hp} {p : Addr} {l : List V} {o : HO} (h : Stay H H') (n : H' p = some (.lst l)) : Stay H (upd H' p o) := fun c u x y e => by
  have q := h c u x y e
  refine (upd_ne ?_).trans q
  rintro rfl
  rw [n] at q
  cases q
  exact x _ rfl
theorem PolyAt.stay {C : Addr} {H H' : Hp} {a : Addr} {ts : Terms} (h : PolyAt C H a ts) (s : Stay H H') : PolyAt C H' a ts := let ⟨dx, r, vs, h1, h2, h3, h4⟩ := h; ⟨dx, r, vs, s _ _ (by intro _ z; cases z) (by intro _ z; cases z) h1, s.tk _ _ h2, h3.tk s.tk, h4⟩
theorem PolyAt.same {C : Addr} {H H' : Hp} {a : Addr} {ts : Terms} (h : PolyAt C H a ts) (s : Same H H') : PolyAt C H' a ts := h.stay (.same s)
section
variable {K : PySem.W.Frag} {mg : Str → Option Value} {C : Addr} {H : Hp} {Q : VK} {a : Addr} {ts : Terms}
theorem ty_poly (T : PolyT K mg C) {dx : Addr} {fs : List (Str × V)} (h : H a = some (.ins C dx fs)) : TyX K H (.ref a) (.ref C) := .base (.ins h T.cl T.ca T.cn T.ct T.cm)
theorem r_isPoly (T : PolyT K mg C) {dx : Addr} {fs : List (Str × V)} (h : H a = some (.ins C dx fs)) (q : Q (.bl true) H) : rIsi K [.ref a, .ref C] H Q := ⟨_, _, _, _, true, rfl, .own C, ty_poly T h, kit_self, q⟩
theorem r_isPolyI (T : PolyT K mg C) {i : Int} (q : Q (.bl false) H) : rIsi K [.int i, .ref C] H Q := ⟨_, _, _, _, false, rfl, .own C, ty_int, kit_no T.cs T.ty T.sInt rfl, q⟩
theorem kit_bi {K : PySem.W.Frag} {C : Addr} {t : String} (m : PySem.W.kitMeta t = true) (s : PySem.W.subIn K (.ref C) (.type t) = some false) : PySem.W.kitOne K (.ref C) (.type t) = some false := by
  unfold PySem.W.kitOne PySem.W.kitCls
  rw [if_neg (by simp)]
  show (if PySem.W.kitMeta t = true then PySem.W.subIn K (.ref C) (.type t) else none) = some false
  rw [if_pos m]
  exact s
theorem r_polyInt (T : PolyT K mg C) {dx : Addr} {fs : List (Str × V)} (h : H a = some (.ins C dx fs)) (q : Q (.bl false) H) : rIsi K [.ref a, .ty "int"] H Q := ⟨_, _, _, _, false, rfl, .ty _, ty_poly T h, kit_bi (by decide +kernel) T.tInt, q⟩
/-- the field rows -/
theorem u_rows (T : PolyT K mg C) (h : PolyAt C H a ts) {R : V → Prop} (q : ∀ r vs, H r = some (.tup vs) → TermsL H vs ts → Canon ts → R (.ref r)) :
    ∃ b D dx fs v, V.ref a = .ref b ∧ H b = some (.ins D dx fs) ∧ Cls K D ∧ NoAttr K D "rows" ∧ fs.lookup ("rows" : Str) = some v ∧ R v := by
  obtain ⟨dx, r, vs, h1, h2, h3, h4⟩ := h
  exact ⟨a, C, dx, _, .ref r, rfl, h1, T.cl, T.nR, rows_look, q r vs h2 h3 h4⟩
end
theorem u_rowsAt {K : PySem.W.Frag} {mg : Str → Option Value} {C : Addr} {H : Hp} {a : Addr} {dx : Addr} {fv : V} (T : PolyT K mg C) (h : H a = some (.ins C dx [("rows", fv)])) {R : V → Prop} (q : R fv) :
    ∃ b D dx fs v, V.ref a = .ref b ∧ H b = some (.ins D dx fs) ∧ Cls K D ∧ NoAttr K D "rows" ∧ fs.lookup ("rows" : Str) = some v ∧ R v := ⟨a, C, dx, _, fv, rfl, h, T.cl, T.nR, rows_look, q⟩
/-- is_integer of any value -/
theorem u_isInt {K : PySem.W.Frag} {H : Hp} {Q : VK} {E : XK} {i : Int} (q : Q (.bl true) H) : spIsIntT K [.int i] H Q E := ⟨_, _, true, false, rfl, .x ty_int, kit_ty (by decide +kernel), kit_ty (by decide +kernel), q⟩
theorem u_isIntP {K : PySem.W.Frag} {mg : Str → Option Value} {C : Addr} {H : Hp} {Q : VK} {E : XK} {a dx : Addr} {fs : List (Str × V)} (T : PolyT K mg C) (h : H a = some (.ins C dx fs)) (q : Q (.bl false) H) : spIsIntT K [.ref a] H Q E :=
  ⟨_, _, false, false, rfl, .x (ty_poly T h), kit_bi (by decide +kernel) T.tInt, kit_bi (by decide +kernel) T.tBool, q⟩
theorem r_isiE {K : PySem.W.Frag} {H : Hp} {Q : VK} {x c : V} {t u : Value} {b : Bool} (hc : ClsV c u) (ty : TyE K H x t) (k : PySem.W.kitOne K t u = some b) (q : Q (.bl b) H) : rIsiE K [x, c] H Q := ⟨x, c, t, u, b, rfl, hc, ty, k, q⟩
theorem r_eqTT {K : PySem.W.Frag} {H : Hp} {Q : VK} {l m : Addr} {vs ws : List V} {ts us : Terms} (h : H l = some (.tup vs)) (h1 : TermsL H vs ts) (h' : H m = some (.tup ws)) (h2 : TermsL H ws us) (q : Q (.bl (decide (ts = us))) H) : rEqD K (.ref l) (.ref m) H Q := by
  refine ⟨.tuple (ts.map pairD), .tuple (us.map pairD), .tup (.of h) h1.dp, .tup (.of h') h2.dp, (Lay.tuple fun x hx => ?_).shaped (n := 1 + 1) (by decide), (Lay.tuple fun x hx => ?_).shaped (n := 1 + 1) (by decide), ?_⟩
  · obtain ⟨p, _, rfl⟩ := List.mem_map.mp hx
    exact lay_pair p
  · obtain ⟨p, _, rfl⟩ := List.mem_map.mp hx
    exact lay_pair p
  · rw [PyData.eqv, eqvAll_pairs]; exact q
/-- self == y, self a polynomial -/
def spPEq (K : PySem.W.Frag) (C : Addr) : Sp := fun vs H Q _ => ∃ a ts y, vs = [.ref a, y] ∧ PolyAt C H a ts ∧ ((∃ b us, y = .ref b ∧ PolyAt C H b us ∧ Q (.bl (decide (ts = us))) H) ∨ (∃ t, TyE K H y t ∧ PySem.W.kitOne K t (.ref C) = some false ∧ Q (.bl false) H))
def negT (ts : Terms) : Terms := ts.map fun p => (p.1, -p.2)
def mirT (ts : Terms) : Terms := ts.map fun p => (-p.1, p.2)
def shiftT (n : Int) (ts : Terms) : Terms := ts.map fun p => (p.1 + n, p.2)
theorem cof_neg : ∀ (ts : Terms) (k : Int), cof (negT ts) k = -cof ts k
  | [], k => rfl
  | p :: ts, k => by
    show (if p.1 = k then -p.2 else 0) + cof (negT ts) k = -((if p.1 = k then p.2 else 0) + cof ts k)
    rw [cof_neg ts k]
    split <;> omega
theorem cof_mir : ∀ (ts : Terms) (k : Int), cof (mirT ts) k = cof ts (-k)
  | [], k => rfl
  | p :: ts, k => by
    show (if -p.1 = k then p.2 else 0) + cof (mirT ts) k = (if p.1 = -k then p.2 else 0) + cof ts (-k)
    rw [cof_mir ts k]
    by_cases h : p.1 = -k
    · rw [if_pos h, if_pos (by omega)]
    · rw [if_neg h, if_neg (by omega)]
theorem cof_shift (n : Int) : ∀ (ts : Terms) (k : Int), cof (shiftT n ts) k = cof ts (k - n)
  | [], k => rfl
  | p :: ts, k => by
    show (if p.1 + n = k then p.2 else 0) + cof (shiftT n ts) k = (if p.1 = k - n then p.2 else 0) + cof ts (k - n)
    rw [cof_shift n ts k]
    by_cases h : p.1 = k - n
    · rw [if_pos h, if_pos (by omega)]
    · rw [if_neg h, if_neg (by omega)]
/-! ### promises -/
def spIsTerm : Sp := fun vs H Q _ => ∃ (p : Addr) (x y : Int), vs = [.ref p] ∧ H p = some (.tup [.int x, .int y]) ∧ Q (.bl true) H
def spSummed : Sp := fun vs H Q _ => ∃ (l : Addr) (ts : Terms), vs = [.ref l] ∧ TermsAt H l ts ∧ ts.length ≤ 90000 ∧
  ∀ r us ws H', H r = none → Same H H' → H' r = some (.tup ws) → TermsL H' ws us → Canon us → (∀ k, cof us k = cof ts k) → us.length ≤ ts.length → Q (.ref r) H'
def spInit (C : Addr) : Sp := fun vs H Q _ => ∃ (x dx l : Addr) (ts : Terms), vs = [.ref x, .ref l] ∧ H x = some (.ins C dx []) ∧ TermsAt H l ts ∧ ts.length ≤ 90000 ∧
  ∀ us H', But x H H' → PolyAt C H' x us → (∀ k, cof us k = cof ts k) → us.length ≤ ts.length → Q .non H'
/-- Poly(..) -/
theorem u_poly {C : Addr} {H : Hp} {R : Addr → Hp → Prop} {E : XK} {l : Addr} {ts : Terms} (h : TermsAt H l ts) (hn : ts.length ≤ 90000) (q : ∀ a us H', H a = none → Same H H' → PolyAt C H' a us → (∀ k, cof us k = cof ts k) → us.length ≤ ts.length → R a H') :
    ∀ x dx, H x = none → H dx = none → dx ≠ x → spInit C [.ref x, .ref l] (upd (upd H dx (.own x)) x (.ins C dx [])) (fun v H2 => v = .non ∧ R x H2) E := by
  intro x dx nx ndx ne
  have s1 : Same H (upd (upd H dx (.own x)) x (.ins C dx [])) := Same.put (Same.new0 ndx) nx
  refine ⟨x, dx, l, ts, rfl, upd_same, h.same s1, hn, fun us H' b hp hc hl => ⟨rfl, ?_⟩⟩
  exact q x us H' nx (Same.but2 s1 nx b) hp hc hl
/-- v stands for the polynomial with the numbers c: a Poly, or an int -/
def IsVal (C : Addr) (H : Hp) (v : V) (c : Int → Int) (n : Nat) : Prop := (∃ a ts, v = .ref a ∧ PolyAt C H a ts ∧ (∀ k, cof ts k = c k) ∧ ts.length ≤ n) ∨ (∃ i, v = .int i ∧ (∀ k, c k = if k = 0 then i else 0) ∧ 1 ≤ n)
theorem IsVal.same {C : Addr} {H H' : Hp} {v : V} {c : Int → Int} {n : Nat} (h : IsVal C H v c n) (s : Same H H') : IsVal C H' v c n := by
  rcases h with ⟨a, ts, e, ha, r⟩ | h
  · exact .inl ⟨a, ts, e, ha.same s, r⟩
  · exact .inr h
def spAsPoly (C : Addr) : Sp := fun vs H Q _ => ∃ v c n, vs = [v] ∧ IsVal C H v c n ∧ ∀ a ts H', Same H H' → PolyAt C H' a ts → (∀ k, cof ts k = c k) → ts.length ≤ n → Q (.ref a) H'
/-- a def of one polynomial that gives a new one -/
def spPoly1 (C : Addr) (f : Terms → Int → Int) : Sp := fun vs H Q _ => ∃ a ts, vs = [.ref a] ∧ PolyAt C H a ts ∧ ts.length ≤ 90000 ∧ ∀ b us H', Same H H' → PolyAt C H' b us → (∀ k, cof us k = f ts k) → us.length ≤ ts.length → Q (.ref b) H'
/-- an operator: self and a value -/
def spPoly2 (C : Addr) (f : (Int → Int) → (Int → Int) → Int → Int) : Sp := fun vs H Q _ => ∃ a ts v c n, vs = [.ref a, v] ∧ PolyAt C H a ts ∧ IsVal C H v c n ∧ ts.length + n ≤ 90000 ∧ ∀ b us H', Same H H' → PolyAt C H' b us → (∀ k, cof us k = f (cof ts) c k) → us.length ≤ ts.length + n → Q (.ref b) H'
def spGetTerms (C : Addr) : Sp := fun vs H Q _ => ∃ a ts, vs = [.ref a] ∧ PolyAt C H a ts ∧ ∀ l H', H l = none → Same H H' → TermsAt H' l ts → Q (.ref l) H'
def spanOf (ts : Terms) : Int := match ts.head?, ts.getLast? with | some p, some q => q.1 - p.1 | _, _ => 0
def spGetSpan (C : Addr) : Sp := fun vs H Q _ => ∃ a ts, vs = [.ref a] ∧ PolyAt C H a ts ∧ Q (.int (spanOf ts)) H
def spPLen (C : Addr) : Sp := fun vs H Q _ => ∃ a ts, vs = [.ref a] ∧ PolyAt C H a ts ∧ Q (.int ts.length) H
end My

set_option Elab.async false
set_option linter.all false
set_option maxRecDepth 100000
namespace My
open PySem PySem.Spec PyProof.Rows L2
/-! ### for k in d: the dict is locked meanwhile -/
section
variable {σ : L2.St} {H : Hp} {Q : VK} {K : PySem.W.Frag} {td te : TE} {D : Ends} {t tb : TS} {g : TG} {R : It → Hp → Prop}
theorem r_iKeys (q : td σ H fun x H1 => ∃ d o, x = .ref d ∧ ((∃ kvs, H1 d = some (.frz o (.dK kvs)) ∧ R (Itk d o kvs) H1) ∨ ∃ kvs, H1 d = some (.frz o (.dT kvs)) ∧ R (Itkt d o kvs) H1)) : iKeys td σ H R := q
theorem u_keys {d : Addr} {od : Obj} {kvs : List (Key × V)} (I : Nat → L2.St → Hp → Prop) (h0 : I 0 σ H) (hl : ∀ i σ H, I i σ H → H d = some (.frz od (.dK kvs)))
    (hs : ∀ i k v σ H, kvs[i]? = some (k, v) → I i σ H → g (kV k) σ H fun σ2 H2 => tb { D with nx := I (i + 1), ct := I (i + 1), bk := D.nx } σ2 H2) (hd : ∀ σ H, I kvs.length σ H → D.nx σ H) :
    ∃ W : Nat → Nat → L2.St → Hp → Prop, (∃ m, W 0 m σ H) ∧ ∀ i m σ H, W i m σ H →
      ((Itk d od kvs).stop i H ∧ D.nx σ H) ∨ ((Itk d od kvs).go i H ∧ ∃ N : L2.St → Hp → Prop, (∀ σ' H', N σ' H' → ∃ m', m' < m ∧ W (i + 1) m' σ' H') ∧ ∀ x H', (Itk d od kvs).yld i H x H' → g x σ H' fun σ2 H2 => tb { D with nx := N, ct := N, bk := D.nx } σ2 H2) := by
  refine ⟨fun i m σ' H' => m = kvs.length - i ∧ i ≤ kvs.length ∧ I i σ' H', ⟨kvs.length, rfl, Nat.zero_le _, h0⟩, ?_⟩
  rintro i m σ' H' ⟨rfl, hi, ir⟩
  by_cases hlt : i < kvs.length
  · refine .inr ⟨⟨hl _ _ _ ir, hlt⟩, I (i + 1), fun σ2 H2 q => ⟨_, by omega, rfl, hlt, q⟩, fun x H2 hy => ?_⟩
    obtain ⟨rfl, k, v, e, rfl⟩ := hy
    exact hs i k v _ _ e ir
  · have e : i = kvs.length := by omega
    subst e
    exact .inl ⟨⟨hl _ _ _ ir, Nat.le_refl _⟩, hd _ _ ir⟩
end
/-- the jar at a, locked by a walk -/
def JarFz (H : Hp) (a : Addr) (od : Obj) (kvs : List (Key × V)) : Prop := H a = some (.frz od (.dK kvs))
theorem JarFz.dget {H : Hp} {a : Addr} {od : Obj} {kvs : List (Key × V)} {k : Int} (h : H a = some (.frz od (.dK kvs))) (hk : JarK kvs) (m : Sum.inl k ∈ kvs.map (·.1)) : DGet H a (.int k) (some (.int (cfK kvs k))) :=
  .inl ⟨kvs, .inl k, .inr ⟨od, h⟩, rfl, (hk.some m).symm⟩
def rDictC : List V → Hp → VK → Prop := fun xs H Q => ∃ (a : Addr) (kvs : List (Key × V)), xs = [.ref a] ∧ Rd H a (.dK kvs) ∧ ∀ p, H p = none → Q (.ref p) (upd H p (.dK kvs))
theorem call_dictC {X : Cx} : CallR X (.type "dict") rDictC := call_dictD
theorem r_dictC {H : Hp} {Q : VK} {a : Addr} {n : Nat} {c : Int → Int} (h : JarAt H a n c) (q : ∀ p H', H p = none → Same H H' → JarAt H' p n c → Q (.ref p) H') : rDictC [.ref a] H Q := by
  obtain ⟨kvs, e, hk, hl, hc⟩ := h
  exact ⟨a, kvs, rfl, .inl e, fun p np => q p _ np (Same.new0 np) ⟨kvs, upd_same, hk, hl, hc⟩⟩
/-! ### promises of the law's defs -/
def BN : Int := 10 ^ 38
def spSomeInt : Sp := fun vs H Q _ => ∃ a, vs = [.ref a] ∧ Bag H a ∧ ∀ (r : Int) H', -BN ≤ r → r ≤ BN → But a H H' → Bag H' a → Q (.int r) H'
def spPairs : Sp := fun vs H Q _ => ∃ (a : Addr) (m f : Int), vs = [.ref a, .int m, .int f] ∧ Bag H a ∧ 0 ≤ m ∧ m ≤ 1000 ∧ 0 ≤ f ∧ f ≤ 1000 ∧
  ∀ l ts H', H l = none → But a H H' → Bag H' a → TermsAt H' l ts → (ts.length : Int) ≤ m → (∀ p ∈ ts, (-f - 2 ≤ p.1 ∧ p.1 ≤ f + 4) ∧ -BN ≤ p.2 ∧ p.2 ≤ BN) → Q (.ref l) H'
def spJarOf : Sp := fun vs H Q _ => ∃ (l : Addr) (ts : Terms), vs = [.ref l] ∧ TermsAt H l ts ∧ ts.length ≤ 90000 ∧ ∀ d H', H d = none → Same H H' → JarAt H' d ts.length (cof ts) → Q (.ref d) H'
def spIsPoly (C : Addr) : Sp := fun vs H Q _ => ∃ a ts d n c, vs = [.ref a, .ref d] ∧ PolyAt C H a ts ∧ JarAt H d n c ∧ (∀ k, cof ts k = c k) ∧ n ≤ 90000 ∧ ts.length ≤ 90000 ∧ ∀ H', Same H H' → Q (.bl true) H'
def spPlus : Sp := fun vs H Q _ => ∃ (a b : Addr) (n m : Nat) (c e : Int → Int) (s : Int), vs = [.ref a, .ref b, .int s] ∧ (s = 1 ∨ s = -1) ∧ JarAt H a n c ∧ JarAt H b m e ∧ n + m ≤ 90000 ∧
  ∀ d H', H d = none → Same H H' → JarAt H' d (n + m) (fun k => c k + s * e k) → Q (.ref d) H'
def spNear : Sp := fun vs H Q _ => ∃ (a d : Addr) (n : Nat) (c : Int → Int), vs = [.ref a, .ref d] ∧ Bag H a ∧ JarAt H d n c ∧ n ≤ 80000 ∧ ∀ b m e H', H b = none → But a H H' → Bag H' a → JarAt H' b m e → m ≤ n + 2 → Q (.ref b) H'
def spMade (C : Addr) : Sp := fun vs H Q _ => ∃ (a d : Addr) (n : Nat) (c : Int → Int), vs = [.ref a, .ref d] ∧ Bag H a ∧ JarAt H d n c ∧ n ≤ 80000 ∧ ∀ b ts H', But a H H' → Bag H' a → PolyAt C H' b ts → (∀ k, cof ts k = c k) → ts.length ≤ n + 2 → Q (.ref b) H'
theorem atI_nil_of {xs : List V} {n : Int} {i : Nat} {x : V} (h0 : n = (i : Int)) (h : xs[i]? = some x) : atI xs n = some x := by
  subst h0
  obtain ⟨hi, _⟩ := List.getElem?_eq_some_iff.mp h
  unfold atI ixN
  rw [if_pos (by omega), if_pos (by omega)]
  exact h
end My

set_option Elab.async false
set_option linter.all false
set_option maxRecDepth 100000
namespace My
open PySem PySem.Spec PyProof.Rows L2
theorem TermsL.take {H : Hp} : ∀ {vs : List V} {ts : Terms} (n : Nat), TermsL H vs ts → TermsL H (vs.take n) (ts.take n)
  | [], ts, n, h => by rw [show ts = [] from h]; simp; rfl
  | _ :: _, _, 0, _ => by simp; rfl
  | v :: vs, _, n + 1, ⟨b, p, us, e1, e2, e3, e4⟩ => by
    rw [e1, List.take_succ_cons, List.take_succ_cons]
    exact ⟨b, p, us.take n, rfl, e2, e3, e4.take n⟩
theorem TermsL.drop {H : Hp} : ∀ {vs : List V} {ts : Terms} (n : Nat), TermsL H vs ts → TermsL H (vs.drop n) (ts.drop n)
  | [], ts, n, h => by rw [show ts = [] from h]; simp; rfl
  | _ :: _, _, 0, h => h
  | v :: vs, _, n + 1, ⟨b, p, us, e1, e2, e3, e4⟩ => by
    rw [e1, List.drop_succ_cons, List.drop_succ_cons]
    exact e4.drop n
theorem TermsL.reverse {H : Hp} : ∀ {vs : List V} {ts : Terms}, TermsL H vs ts → TermsL H vs.reverse ts.reverse
  | [], ts, h => by rw [show ts = [] from h]; rfl
  | v :: vs, _, ⟨b, p, us, e1, e2, e3, e4⟩ => by
    rw [e1, List.reverse_cons, List.reverse_cons, e2]
    exact e4.reverse.app (.one e3)
theorem TermsL.some_of {H : Hp} : ∀ {ws : List V}, (∀ x ∈ ws, ∃ (b : Addr) (p : Int × Int), x = .ref b ∧ H b = some (.tup [.int p.1, .int p.2])) → ∃ us, TermsL H ws us
  | [], _ => ⟨[], rfl⟩
  | w :: ws, h => by
    obtain ⟨b, p, e, hb⟩ := h w List.mem_cons_self
    obtain ⟨us, hu⟩ := TermsL.some_of (ws := ws) fun x hx => h x (List.mem_cons_of_mem _ hx)
    exact ⟨p :: us, b, p, us, rfl, e, hb, hu⟩
theorem TermsL.mem {H : Hp} {vs : List V} {ts : Terms} (h : TermsL H vs ts) : ∀ x ∈ vs, ∃ (b : Addr) (p : Int × Int), x = .ref b ∧ H b = some (.tup [.int p.1, .int p.2]) := by
  intro x hx
  obtain ⟨i, hi⟩ := List.getElem?_of_mem hx
  obtain ⟨b, p, e1, e2, e3⟩ := h.at i hi
  exact ⟨b, p, e1, e3⟩
theorem cut_drop (xs : List V) (n : Nat) : cutV xs (some (n : Int)) none = xs.drop n := by
  unfold cutV
  rw [HT.sIx_none, HT.sIx_nat]
  by_cases h : n ≤ xs.length
  · rw [Nat.min_eq_left h, List.take_of_length_le (by rw [List.length_drop]; omega)]
  · rw [Nat.min_eq_right (by omega), List.drop_eq_nil_of_le (Nat.le_refl _), List.take_nil, List.drop_eq_nil_of_le (by omega)]
theorem cof_rev : ∀ (ts : Terms) (k : Int), cof ts.reverse k = cof ts k
  | [], k => rfl
  | p :: ts, k => by
    rw [List.reverse_cons, cof_app, cof_rev ts k, cof, cof, cof]; omega
theorem cof_cut (ts : Terms) (n : Nat) (k : Int) : cof (ts.take n) k + cof (ts.drop n) k = cof ts k := by
  rw [← cof_app, List.take_append_drop]
theorem cut_takeI {xs : List V} {m : Int} (h : 0 ≤ m) : cutV xs none (some m) = xs.take m.toNat := by
  have := cut_take xs m.toNat
  rw [Int.toNat_of_nonneg h] at this
  exact this
theorem cut_dropI {xs : List V} {m : Int} (h : 0 ≤ m) : cutV xs (some m) none = xs.drop m.toNat := by
  have := cut_drop xs m.toNat
  rw [Int.toNat_of_nonneg h] at this
  exact this
/-- a jar of one entry, written -/
theorem jar_one {H : Hp} {p : Addr} {k n : Int} : JarAt (upd H p (.dK (mergeK [] [(.inl k, .int n)]))) p 1 (fun j => if j = k then n else 0) := by
  refine ⟨_, upd_same, (JarK.nil).put k n, Nat.le_refl 1, fun j => ?_⟩
  show cfK (putK [] (.inl k) (.int n)) j = _
  rw [cfK_put]; rfl
end My

set_option Elab.async false
set_option linter.all false
set_option maxRecDepth 100000
namespace My
open PySem PySem.Spec PyProof.Rows L2
theorem JarAt.nb {H : Hp} {a b : Addr} {n : Nat} {c : Int → Int} (h : JarAt H a n c) (hb : Bag H b) : a ≠ b := by
  rintro rfl
  obtain ⟨_, e, _⟩ := h
  obtain ⟨_, _, _, e', _⟩ := hb
  rw [e] at e'
  cases e'
theorem JarAt.bag {H H' : Hp} {a b : Addr} {n : Nat} {c : Int → Int} (h : JarAt H a n c) (s : But b H H') (hb : Bag H b) : JarAt H' a n c := h.but (h.nb hb) s
theorem PolyAt.bag {C : Addr} {H H' : Hp} {a b : Addr} {ts : Terms} (h : PolyAt C H a ts) (s : But b H H') (hb : Bag H b) : PolyAt C H' a ts := h.stay (.bag s hb)
/-- a pair of what was found and the jar that is due -/
def DueAt (C : Addr) (H : Hp) (x : V) : Prop := ∃ (t b d : Addr) (ts : Terms) (n : Nat) (c : Int → Int), x = .ref t ∧ H t = some (.tup [.ref b, .ref d]) ∧ PolyAt C H b ts ∧ JarAt H d n c ∧ (∀ k, cof ts k = c k) ∧ n ≤ 90000 ∧ ts.length ≤ 90000
theorem DueAt.same {C : Addr} {H H' : Hp} {x : V} (h : DueAt C H x) (s : Same H H') : DueAt C H' x := by
  obtain ⟨t, b, d, ts, n, c, e, h1, h2, h3, h4⟩ := h
  exact ⟨t, b, d, ts, n, c, e, s _ _ h1, h2.same s, h3.same s, h4⟩
def DuesL (C : Addr) (H : Hp) (a : Addr) (m : Nat) : Prop := ∃ xs, H a = some (.lst xs) ∧ xs.length = m ∧ ∀ x ∈ xs, DueAt C H x
theorem DuesL.same {C : Addr} {H H' : Hp} {a : Addr} {m : Nat} (h : DuesL C H a m) (s : Same H H') : DuesL C H' a m := by
  obtain ⟨xs, e, h1, h2⟩ := h
  exact ⟨xs, s _ _ e, h1, fun x hx => (h2 x hx).same s⟩
/-- a new pair -/
theorem due_new {C : Addr} {H : Hp} {t b d : Addr} {ts : Terms} {n : Nat} {c : Int → Int} (nt : H t = none) (h : PolyAt C H b ts) (hj : JarAt H d n c) (e : ∀ k, cof ts k = c k) (hn : n ≤ 90000) (hl : ts.length ≤ 90000) : DueAt C (upd H t (.tup [.ref b, .ref d])) (.ref t) :=
  ⟨t, b, d, ts, n, c, rfl, upd_same, h.same (Same.new0 nt), hj.keep nt, e, hn, hl⟩
theorem u_own2 {C : Addr} {H : Hp} {Q : VK} {f : (Int → Int) → (Int → Int) → Int → Int} {a b : Addr} {ts us : Terms} (ha : PolyAt C H a ts) (hb : PolyAt C H b us) (hn : ts.length + us.length ≤ 90000)
    (q : ∀ p ws H', Same H H' → PolyAt C H' p ws → (∀ k, cof ws k = f (cof ts) (cof us) k) → ws.length ≤ ts.length + us.length → Q (.ref p) H') : rOwn2 C (spPoly2 C f) (.ref a) (.ref b) H Q := by
  obtain ⟨dx, r, vs, g1, _⟩ := id ha
  obtain ⟨dy, r', vs', g2, _⟩ := id hb
  exact ⟨a, dx, _, b, dy, _, rfl, rfl, g1, g2, a, ts, .ref b, cof us, us.length, rfl, ha, .inl ⟨b, us, rfl, hb, fun _ => rfl, Nat.le_refl _⟩, hn, q⟩
def one0 (i : Int) : Int → Int := fun k => if k = 0 then i else 0
theorem u_ownI {C : Addr} {H : Hp} {Q : VK} {f : (Int → Int) → (Int → Int) → Int → Int} {a : Addr} {i : Int} {ts : Terms} (ha : PolyAt C H a ts) (hn : ts.length + 1 ≤ 90000)
    (q : ∀ p ws H', Same H H' → PolyAt C H' p ws → (∀ k, cof ws k = f (cof ts) (one0 i) k) → ws.length ≤ ts.length + 1 → Q (.ref p) H') : rOwnI C (spPoly2 C f) (.ref a) (.int i) H Q := by
  obtain ⟨dx, r, vs, g1, _⟩ := id ha
  exact ⟨a, dx, _, i, rfl, rfl, g1, a, ts, .int i, one0 i, 1, rfl, ha, .inr ⟨i, rfl, fun _ => rfl, Nat.le_refl _⟩, hn, q⟩
theorem u_ownR {C : Addr} {H : Hp} {Q : VK} {f : (Int → Int) → (Int → Int) → Int → Int} {a : Addr} {i : Int} {ts : Terms} (ha : PolyAt C H a ts) (hn : ts.length + 1 ≤ 90000)
    (q : ∀ p ws H', Same H H' → PolyAt C H' p ws → (∀ k, cof ws k = f (cof ts) (one0 i) k) → ws.length ≤ ts.length + 1 → Q (.ref p) H') : rOwnR C (spPoly2 C f) (.int i) (.ref a) H Q := by
  obtain ⟨dx, r, vs, g1, _⟩ := id ha
  exact ⟨a, dx, _, i, rfl, rfl, g1, a, ts, .int i, one0 i, 1, rfl, ha, .inr ⟨i, rfl, fun _ => rfl, Nat.le_refl _⟩, hn, q⟩
/-- equal polynomials are told equal -/
theorem u_eqSame {K : PySem.W.Frag} {mg : Str → Option Value} {C : Addr} {H : Hp} {Q : VK} {a b : Addr} {ts us : Terms} (T : PolyT K mg C) (ha : PolyAt C H a ts) (hb : PolyAt C H b us) (e : ∀ k, cof ts k = cof us k) (q : Q (.bl true) H) : rOwnEq K C (spPEq K C) (.ref a) (.ref b) H Q := by
  obtain ⟨dx, r, vs, g1, g2, g3, g4⟩ := id ha
  obtain ⟨dy, r', vs', h1, h2, h3, h4⟩ := id hb
  have ee : ts = us := Canon.ext g4 h4 e
  refine ⟨a, dx, _, .ref C, rfl, g1, .x (ty_poly T h1), by simp [PySem.W.notFirst], a, ts, .ref b, rfl, ha, .inl ⟨b, us, rfl, hb, ?_⟩⟩
  rw [decide_eq_true ee]
  exact q
/-- two jars, two polynomials and the jar of one number -/
structure Five (C : Addr) (H : Hp) (j p f one two : Addr) (n1 n2 : Nat) (c1 c2 : Int → Int) (co : Int) (o1 o2 : Terms) : Prop where
  j : JarAt H j n1 c1
  p : JarAt H p n2 c2
  f : JarAt H f 1 (one0 co)
  one : PolyAt C H one o1
  two : PolyAt C H two o2
theorem Five.same {C : Addr} {H H' : Hp} {j p f one two : Addr} {n1 n2 : Nat} {c1 c2 : Int → Int} {co : Int} {o1 o2 : Terms} (h : Five C H j p f one two n1 n2 c1 c2 co o1 o2) (s : Same H H') : Five C H' j p f one two n1 n2 c1 c2 co o1 o2 :=
  ⟨h.j.same s, h.p.same s, h.f.same s, h.one.same s, h.two.same s⟩
theorem dues_new {C : Addr} {H : Hp} {a : Addr} {xs : List V} (na : H a = none) (h : ∀ x ∈ xs, DueAt C H x) : DuesL C (upd H a (.lst xs)) a xs.length :=
  ⟨xs, upd_same, rfl, fun x hx => (h x hx).same (Same.new0 na)⟩
/-- list + list of pairs -/
theorem dues_cat {C : Addr} {H : Hp} {Q : VK} {a b : Addr} {m n : Nat} (ha : DuesL C H a m) (hb : DuesL C H b n) (hn : m + n ≤ 100) (q : ∀ p H', H p = none → Same H H' → DuesL C H' p (m + n) → Q (.ref p) H') : rCat (.ref a) (.ref b) H Q := by
  obtain ⟨xs, e1, f1, g1⟩ := ha
  obtain ⟨zs, e2, f2, g2⟩ := hb
  refine r_cat e1 e2 (by rw [f1, f2]; exact Nat.le_trans hn (by decide)) fun p np => q p _ np (Same.new0 np) ?_
  refine ⟨_, upd_same, by rw [List.length_append, f1, f2], fun x hx => ?_⟩
  rcases List.mem_append.mp hx with h | h
  · exact (g1 x h).same (Same.new0 np)
  · exact (g2 x h).same (Same.new0 np)
section
variable {σ : L2.St} {H : Hp} {Q : VK} {td ty tk tv : TE} {trs : List (TE × TE)}
theorem rl_disp (q : ∀ p, H p = none → tPairs trs σ (upd H p (.dK [])) fun ps H2 => H2 p = some (.dK []) ∧ ∃ kvs : List (Key × V), ps = kvs.map (fun kv => (kV kv.1, kv.2)) ∧ kvs.length ≤ 15 ∧ Q (.ref p) (upd H2 p (.dK (mergeK [] kvs)))) : tDisp trs σ H Q := q
theorem rl_pc {R : List (V × V) → Hp → Prop} (q : tk σ H fun x H1 => tv σ H1 fun y H2 => tPairs trs σ H2 fun ps H3 => R ((x, y) :: ps) H3) : tPairs ((tk, tv) :: trs) σ H R := q
theorem rl_pn {R : List (V × V) → Hp → Prop} (q : R [] H) : tPairs [] σ H R := q
end
end My

set_option Elab.async false
set_option linter.all false
set_option maxRecDepth 100000
namespace My
open PySem PySem.Spec PyProof.Rows L2
/-! ### comprehensions with two loops -/
section
variable {K : PySem.W.Frag} {a p : Addr} {xs : List V} {σ : L2.St} {H : Hp} {D : Addr} {g : TG} {tt : TT} {vs : List Nat}
theorem lc_tupB {H0 : Hp} {Qd : Hp → Prop} {body : (Hp → Prop) → L2.St → Hp → Prop} (Pv : Nat → Hp → Prop) (h0 : Pv 0 H0) (hl : ∀ i H, i ≤ xs.length → Pv i H → SqT K H a xs)
    (hs : ∀ i x H, xs[i]? = some x → Pv i H → g x (wipe σ vs) H fun σ2 H2 => wipe σ2 vs = wipe σ vs ∧ tt σ2 H2 fun b H3 => if b = true then body (Pv (i + 1)) σ2 H3 else Pv (i + 1) H3) (hd : ∀ H, Pv xs.length H → Qd H) :
    ∃ W : Nat → Nat → Hp → Prop, (∃ m, W 0 m H0) ∧ ∀ i m H, W i m H →
      ((Itt K a).stop i H ∧ Qd H) ∨ ((Itt K a).go i H ∧ ∃ Nx : Hp → Prop, (∀ H', Nx H' → ∃ m', m' < m ∧ W (i + 1) m' H') ∧ ∀ x H', (Itt K a).yld i H x H' → g x (wipe σ vs) H' fun σ2 H2 => wipe σ2 vs = wipe σ vs ∧ tt σ2 H2 fun b H3 =>
        if b = true then body Nx σ2 H3 else Nx H3) := by
  refine ⟨fun i m H => m = xs.length - i ∧ i ≤ xs.length ∧ Pv i H, ⟨xs.length, by simp, Nat.zero_le _, h0⟩, ?_⟩
  rintro i m H ⟨rfl, hi, p⟩
  have q := hl i H hi p
  by_cases hlt : i < xs.length
  · refine .inr ⟨⟨xs, xs[i], q, by simp [hlt]⟩, Pv (i + 1), fun H' p' => ⟨xs.length - (i + 1), by omega, rfl, hlt, p'⟩, fun x H' y => ?_⟩
    obtain ⟨e, y⟩ := y
    subst e
    exact hs i x _ (y xs q) p
  · have e : i = xs.length := by omega
    subst e
    exact .inl ⟨⟨xs, q, Nat.le_refl _⟩, hd H p⟩
def LcNext (D : Addr) (I : Addr → Nat → List V → Hp → Prop) (i : Nat) : Hp → Prop := fun H => ∃ acc, H D = some (.lst acc) ∧ I D (i + 1) acc H
theorem u_lcO {Qd : Addr → Hp → Prop} {body : Addr → (Hp → Prop) → L2.St → Hp → Prop} (h : SqT K H p xs) (I : Addr → Nat → List V → Hp → Prop) (h0 : ∀ D, H D = none → I D 0 [] (upd H D (.lst [])))
    (hl : ∀ D i acc H', H D = none → H' D = some (.lst acc) → I D i acc H' → SqT K H' p xs)
    (hs : ∀ D i x acc H', H D = none → xs[i]? = some x → H' D = some (.lst acc) → I D i acc H' → g x (wipe σ vs) H' fun σ2 H2 => wipe σ2 vs = wipe σ vs ∧ tt σ2 H2 fun b H3 => if b = true then body D (LcNext D I i) σ2 H3 else LcNext D I i H3)
    (hd : ∀ D acc H', H D = none → H' D = some (.lst acc) → I D xs.length acc H' → Qd D H') :
    ∃ a, V.ref p = .ref a ∧ (∃ xs, SqT K H a xs) ∧ ∀ D, H D = none → ∃ W : Nat → Nat → Hp → Prop, (∃ m, W 0 m (upd H D (.lst []))) ∧ ∀ i m H, W i m H →
      ((Itt K a).stop i H ∧ Qd D H) ∨ ((Itt K a).go i H ∧ ∃ Nx : Hp → Prop, (∀ H', Nx H' → ∃ m', m' < m ∧ W (i + 1) m' H') ∧ ∀ x H', (Itt K a).yld i H x H' → g x (wipe σ vs) H' fun σ2 H2 => wipe σ2 vs = wipe σ vs ∧ tt σ2 H2 fun b H3 =>
        if b = true then body D Nx σ2 H3 else Nx H3) :=
  ⟨p, rfl, ⟨xs, h⟩, fun D hD => lc_tupB (xs := xs) (body := body D) (fun i H' => ∃ acc, H' D = some (.lst acc) ∧ I D i acc H') ⟨[], upd_same, h0 D hD⟩ (fun i H' _ ⟨acc, e, q⟩ => hl D i acc H' hD e q)
    (fun i x H' hi ⟨acc, e, q⟩ => hs D i x acc H' hD hi e q) fun H' ⟨acc, e, q⟩ => hd D acc H' hD e q⟩
theorem u_lcI {te : TE} {Nx : Hp → Prop} {acc0 : List V} (h : SqT K H p xs) (I : Addr → Nat → List V → Hp → Prop) (hD : H D = some (.lst acc0)) (h0 : I D 0 acc0 H)
    (hl : ∀ i acc H', H' D = some (.lst acc) → I D i acc H' → SqT K H' p xs)
    (hs : ∀ i x acc H', xs[i]? = some x → H' D = some (.lst acc) → I D i acc H' → g x (wipe σ vs) H' fun σ2 H2 => wipe σ2 vs = wipe σ vs ∧ tt σ2 H2 fun b H3 => if b = true then te σ2 H3 fun y H4 => LcPush D I i H4 y else LcSkip D I i H3)
    (hd : ∀ acc H', H' D = some (.lst acc) → I D xs.length acc H' → Nx H') :
    ∃ a, V.ref p = .ref a ∧ (∃ xs, SqT K H a xs) ∧ ∃ W : Nat → Nat → Hp → Prop, (∃ m, W 0 m H) ∧ ∀ i m H, W i m H →
      ((Itt K a).stop i H ∧ Nx H) ∨ ((Itt K a).go i H ∧ ∃ Nx1 : Hp → Prop, (∀ H', Nx1 H' → ∃ m', m' < m ∧ W (i + 1) m' H') ∧ ∀ x H', (Itt K a).yld i H x H' → g x (wipe σ vs) H' fun σ2 H2 => wipe σ2 vs = wipe σ vs ∧ tt σ2 H2 fun b H3 =>
        if b = true then te σ2 H3 fun y H4 => ∃ acc, H4 D = some (.lst acc) ∧ acc.length < sizeLine ∧ Nx1 (upd H4 D (.lst (acc ++ [y]))) else Nx1 H3) :=
  ⟨p, rfl, ⟨xs, h⟩, lc_tupB (xs := xs) (body := fun Nx1 σ2 H3 => te σ2 H3 fun y H4 => ∃ acc, H4 D = some (.lst acc) ∧ acc.length < sizeLine ∧ Nx1 (upd H4 D (.lst (acc ++ [y])))) (fun i H' => ∃ acc, H' D = some (.lst acc) ∧ I D i acc H') ⟨acc0, hD, h0⟩ (fun i H' _ ⟨acc, e, q⟩ => hl i acc H' e q)
    (fun i x H' hi ⟨acc, e, q⟩ => hs i x acc H' hi e q) fun H' ⟨acc, e, q⟩ => hd acc H' e q⟩
theorem r_lc2 {Q : VK} {wi wi1 : TI} {g1 : TG} {tt1 : TT} {te : TE} {vs1 : List Nat} (q : wi σ H fun J H1 => ∀ D, H1 D = none → ∃ W : Nat → Nat → Hp → Prop, (∃ m, W 0 m (upd H1 D (.lst []))) ∧ ∀ i m H, W i m H →
  (J.stop i H ∧ Q (.ref D) H) ∨ (J.go i H ∧ ∃ Nx : Hp → Prop, (∀ H', Nx H' → ∃ m', m' < m ∧ W (i + 1) m' H') ∧ ∀ x H', J.yld i H x H' → g x (wipe σ vs) H' fun σ2 H2 => wipe σ2 vs = wipe σ vs ∧ tt σ2 H2 fun b H3 =>
    if b = true then wi1 σ2 H3 fun J1 H4 => ∃ W1 : Nat → Nat → Hp → Prop, (∃ m, W1 0 m H4) ∧ ∀ j k H, W1 j k H →
      (J1.stop j H ∧ Nx H) ∨ (J1.go j H ∧ ∃ Nx1 : Hp → Prop, (∀ H', Nx1 H' → ∃ k', k' < k ∧ W1 (j + 1) k' H') ∧ ∀ x H', J1.yld j H x H' → g1 x (wipe σ2 vs1) H' fun σ3 H5 => wipe σ3 vs1 = wipe σ2 vs1 ∧ tt1 σ3 H5 fun b H6 =>
        if b = true then te σ3 H6 fun y H7 => ∃ acc, H7 D = some (.lst acc) ∧ acc.length < sizeLine ∧ Nx1 (upd H7 D (.lst (acc ++ [y]))) else Nx1 H6)
    else Nx H3)) : tLc2 wi g tt wi1 g1 tt1 te vs vs1 σ H Q := q
end
theorem pi_tupK {X : Cx} {K : PySem.W.Frag} {tg e : Expr} {t : TE} (h : PE X e t) (hk : X.K = K := by rfl) : PI X tg e (iTup K t) := by subst hk; exact pi_tup h
theorem pi_listK {X : Cx} {K : PySem.W.Frag} {tg e : Expr} {t : TE} (h : PE X e t) (hk : X.K = K := by rfl) : PI X tg e (iList K t) := by subst hk; exact pi_list h
end My

set_option Elab.async false
set_option linter.all false
set_option maxRecDepth 100000
namespace My
open PySem PySem.Spec PyProof.Rows L2
/-! ### products of polynomials, power by power -/
def cmul : Terms → (Int → Int) → Int → Int
  | [], _, _ => 0
  | p :: ts, d, k => p.2 * d (k - p.1) + cmul ts d k
theorem cmul_extr : ∀ (ts : Terms) {d e : Int → Int} (k : Int), (∀ k, d k = e k) → cmul ts d k = cmul ts e k
  | [], _, _, _, _ => rfl
  | p :: ts, d, e, k, h => by rw [cmul, cmul, h, cmul_extr ts k h]
theorem cmul_zero : ∀ (ts : Terms) (k : Int), cmul ts (fun _ => 0) k = 0
  | [], _ => rfl
  | p :: ts, k => by rw [cmul, cmul_zero ts k]; simp
theorem cmul_add : ∀ (ts : Terms) (d e : Int → Int) (k : Int), cmul ts (fun k => d k + e k) k = cmul ts d k + cmul ts e k
  | [], _, _, _ => rfl
  | p :: ts, d, e, k => by rw [cmul, cmul, cmul, cmul_add ts d e k, Int.mul_add]; omega
theorem cmul_delta (q v : Int) : ∀ (ts : Terms) (k : Int), cmul ts (fun k => if q = k then v else 0) k = v * cof ts (k - q)
  | [], k => by rw [cmul, cof]; simp
  | p :: ts, k => by
    rw [cmul, cof, cmul_delta q v ts k, Int.mul_add]
    by_cases h : q = k - p.1
    · rw [if_pos h, if_pos (by omega), Int.mul_comm]
    · rw [if_neg h, if_neg (by omega)]; simp
theorem cmul_comm (ts : Terms) : ∀ (us : Terms) (k : Int), cmul ts (cof us) k = cmul us (cof ts) k
  | [], k => by
    rw [cmul, show (cof [] : Int → Int) = fun _ => 0 from funext fun k => by rw [cof]]
    exact cmul_zero ts k
  | q :: us, k => by
    rw [cmul, ← cmul_comm ts us k, ← cmul_delta q.1 q.2 ts k, ← cmul_add]
    exact cmul_extr ts k fun j => by rw [cof]
theorem cmul_ext {ts ts' us us' : Terms} (h : ∀ k, cof ts k = cof ts' k) (h' : ∀ k, cof us k = cof us' k) (k : Int) : cmul ts (cof us) k = cmul ts' (cof us') k := by
  rw [cmul_extr ts k h', cmul_comm, cmul_extr us' k h, cmul_comm]
open Classical in
/-- the product of two families of numbers (of finitely many that are not 0) -/
noncomputable def mulF (c d : Int → Int) (k : Int) : Int := if h : ∃ ts : Terms, ∀ k, cof ts k = c k then cmul h.choose d k else 0
theorem mulF_of {c d : Int → Int} {ts us : Terms} (h : ∀ k, cof ts k = c k) (h' : ∀ k, cof us k = d k) (k : Int) : mulF c d k = cmul ts (cof us) k := by
  have hx : ∃ ts : Terms, ∀ k, cof ts k = c k := ⟨ts, h⟩
  rw [mulF, dif_pos hx, ← cmul_extr hx.choose k h']
  exact cmul_ext (fun j => (hx.choose_spec j).trans (h j).symm) (fun _ => rfl) k
theorem mulF_comm {c d : Int → Int} {ts us : Terms} (h : ∀ k, cof ts k = c k) (h' : ∀ k, cof us k = d k) (k : Int) : mulF c d k = mulF d c k := by
  rw [mulF_of h h', mulF_of h' h, cmul_comm]
theorem mulF_ext {c d e f : Int → Int} (h : ∀ k, c k = e k) (h' : ∀ k, d k = f k) (k : Int) : mulF c d k = mulF e f k := by
  rw [show c = e from funext h, show d = f from funext h']
def rowT (p : Int × Int) (us : Terms) : Terms := us.map fun q => (p.1 + q.1, p.2 * q.2)
def prodT : Terms → Terms → Terms
  | [], _ => []
  | p :: ts, us => rowT p us ++ prodT ts us
theorem cof_row (p : Int × Int) : ∀ (us : Terms) (k : Int), cof (rowT p us) k = p.2 * cof us (k - p.1)
  | [], k => by rw [rowT, List.map_nil, cof, cof]; simp
  | q :: us, k => by
    have e : rowT p (q :: us) = (p.1 + q.1, p.2 * q.2) :: rowT p us := rfl
    rw [e, cof, cof, cof_row p us k, Int.mul_add]
    show (if p.1 + q.1 = k then p.2 * q.2 else 0) + _ = _
    by_cases h : q.1 = k - p.1
    · rw [if_pos h, if_pos (by omega)]
    · rw [if_neg h, if_neg (by omega)]; simp
theorem cof_prod : ∀ (ts us : Terms) (k : Int), cof (prodT ts us) k = cmul ts (cof us) k
  | [], _, _ => rfl
  | p :: ts, us, k => by rw [prodT, cof_app, cof_row, cof_prod ts us k, cmul]
theorem prodT_length : ∀ (ts us : Terms), (prodT ts us).length = ts.length * us.length
  | [], us => by rw [prodT]; simp
  | p :: ts, us => by rw [prodT, List.length_append, prodT_length ts us, List.length_cons, Nat.succ_mul, rowT, List.length_map]; omega
theorem prodT_take {p : Int × Int} : ∀ {ts : Terms} (us : Terms) (i : Nat), ts[i]? = some p → prodT (ts.take (i + 1)) us = prodT (ts.take i) us ++ rowT p us
  | [], us, i, h => by simp at h
  | t :: ts, us, 0, h => by
    simp at h; subst h
    simp [prodT]
  | t :: ts, us, i + 1, h => by
    rw [List.take_succ_cons, List.take_succ_cons, prodT, prodT, prodT_take us i (by simpa using h), List.append_assoc]
theorem rowT_take {p q : Int × Int} {us : Terms} {i : Nat} (h : us[i]? = some q) : rowT p (us.take (i + 1)) = rowT p (us.take i) ++ [(p.1 + q.1, p.2 * q.2)] := by
  rw [rowT, rowT, List.take_succ, h, List.map_append]; rfl
theorem cmul_mir (d : Int → Int) : ∀ (ts : Terms) (k : Int), cmul (mirT ts) (fun j => d (-j)) k = cmul ts d (-k)
  | [], _ => rfl
  | p :: ts, k => by
    have e : mirT (p :: ts) = (-p.1, p.2) :: mirT ts := rfl
    rw [e, cmul, cmul, cmul_mir d ts k]
    show p.2 * d (-(k - -p.1)) + _ = _
    rw [show -(k - -p.1) = -k - p.1 by omega]
theorem cmul_shift (n : Int) (d : Int → Int) : ∀ (ts : Terms) (k : Int), cmul (shiftT n ts) d k = cmul ts d (k - n)
  | [], _ => rfl
  | p :: ts, k => by
    have e : shiftT n (p :: ts) = (p.1 + n, p.2) :: shiftT n ts := rfl
    rw [e, cmul, cmul, cmul_shift n d ts k]
    show p.2 * d (k - (p.1 + n)) + _ = _
    rw [show k - (p.1 + n) = k - n - p.1 by omega]
/-! ### how great the numbers are -/
theorem cof_le {M : Nat} : ∀ {ts : Terms} (k : Int), (∀ p ∈ ts, p.2.natAbs ≤ M) → (cof ts k).natAbs ≤ ts.length * M
  | [], _, _ => by rw [cof]; simp
  | p :: ts, k, h => by
    rw [cof, List.length_cons, Nat.succ_mul]
    have h1 := cof_le (ts := ts) k fun q hq => h q (List.mem_cons_of_mem _ hq)
    have h2 := h p List.mem_cons_self
    split <;> omega
theorem cmul_le {A B : Nat} {d : Int → Int} (hd : ∀ k, (d k).natAbs ≤ B) : ∀ {ts : Terms} (k : Int), (∀ p ∈ ts, p.2.natAbs ≤ A) → (cmul ts d k).natAbs ≤ ts.length * (A * B)
  | [], _, _ => by rw [cmul]; simp
  | p :: ts, k, h => by
    rw [cmul, List.length_cons, Nat.succ_mul]
    have h1 := cmul_le hd (ts := ts) k fun q hq => h q (List.mem_cons_of_mem _ hq)
    have h2 := h p List.mem_cons_self
    have h3 : (p.2 * d (k - p.1)).natAbs ≤ A * B := by rw [Int.natAbs_mul]; exact Nat.mul_le_mul h2 (hd _)
    omega
theorem Canon.at : ∀ {ts : Terms} {p : Int × Int}, Canon ts → p ∈ ts → cof ts p.1 = p.2 := by
  intro ts
  induction ts with
  | nil => intro p _ hp; exact absurd hp (by simp)
  | cons q ts ih =>
    intro p hc hp
    rcases List.mem_cons.mp hp with rfl | hp
    · exact hc.head
    · rw [cof, ih hc.tail hp]
      have h1 := (List.pairwise_cons.mp hc.asc).1 p hp
      rw [if_neg (by omega), Int.zero_add]
theorem Canon.tight {ts l : Terms} (h : Canon ts) (e : ∀ k, cof ts k = cof l k) : ts.length ≤ l.length := by
  refine h.le_len fun p hp => ?_
  have h1 := h.at hp
  have h2 := h.nz p hp
  rw [e] at h1
  refine Decidable.byContradiction fun hn => h2 (h1.symm.trans (cof_none fun q hq hk => hn (List.mem_map.mpr ⟨q, hq, hk⟩)))
theorem Canon.num {ts : Terms} {B : Nat} (h : Canon ts) (b : ∀ k, (cof ts k).natAbs ≤ B) : ∀ p ∈ ts, p.2.natAbs ≤ B := fun p hp => by rw [← h.at hp]; exact b _
theorem mulF_le {c d : Int → Int} {A B : Nat} {ts : Terms} (h : Canon ts) (hc : ∀ k, cof ts k = c k) (a : ∀ k, (c k).natAbs ≤ A) (b : ∀ k, (d k).natAbs ≤ B) {us : Terms} (hd : ∀ k, cof us k = d k) (k : Int) : (mulF c d k).natAbs ≤ ts.length * (A * B) := by
  rw [mulF_of hc hd, cmul_extr ts k hd]
  exact cmul_le b k (h.num fun j => by rw [hc]; exact a j)
/-- small enough to be multiplied -/
def Sm (c : Int → Int) : Prop := ∀ k, (c k).natAbs < 2 ^ 100000
def spMul (C : Addr) (f : (Int → Int) → (Int → Int) → Int → Int) : Sp := fun vs H Q _ => ∃ a ts v c n, vs = [.ref a, v] ∧ PolyAt C H a ts ∧ IsVal C H v c n ∧ ts.length * n ≤ 90000 ∧ Sm (cof ts) ∧ Sm c ∧
  ∀ b us H', Same H H' → PolyAt C H' b us → (∀ k, cof us k = f (cof ts) c k) → us.length ≤ ts.length * n → Q (.ref b) H'
def spProduct (C : Addr) : Sp := fun vs H Q _ => ∃ a b ts us, vs = [.ref a, .ref b] ∧ PolyAt C H a ts ∧ PolyAt C H b us ∧ ts.length * us.length ≤ 90000 ∧ Sm (cof ts) ∧ Sm (cof us) ∧
  ∀ p ws H', Same H H' → PolyAt C H' p ws → (∀ k, cof ws k = mulF (cof ts) (cof us) k) → ws.length ≤ ts.length * us.length → Q (.ref p) H'
def spShift (C : Addr) : Sp := fun vs H Q _ => ∃ a ts n, vs = [.ref a, .int n] ∧ PolyAt C H a ts ∧ ts.length ≤ 90000 ∧ ∀ b us H', Same H H' → PolyAt C H' b us → (∀ k, cof us k = cof ts (k - n)) → us.length ≤ ts.length → Q (.ref b) H'
def spPNum : Sp := fun vs H Q _ => ∃ n, vs = [.int n] ∧ Q .non H
end My

set_option Elab.async false
set_option linter.all false
set_option maxRecDepth 100000
namespace My
open PySem PySem.Spec PyProof.Rows L2
section
variable {σ : L2.St} {H : Hp} {g : TG} {tt : TT} {te : TE} {vs : List Nat}
/-- [elt for k in d], d a dict of int keys under lock -/
theorem u_lcK {d : Addr} {od : Obj} {kvs : List (Key × V)} {ks : List Int} {Qd : Addr → Hp → Prop} (h : H d = some (.frz od (.dK kvs))) (hk : kvs.map (·.1) = ks.map Sum.inl) (I : Addr → Nat → List V → Hp → Prop) (h0 : ∀ D, H D = none → I D 0 [] (upd H D (.lst [])))
    (hl : ∀ D i acc H', H D = none → H' D = some (.lst acc) → I D i acc H' → H' d = some (.frz od (.dK kvs)))
    (hs : ∀ D i q acc H', H D = none → ks[i]? = some q → H' D = some (.lst acc) → I D i acc H' → g (.int q) (wipe σ vs) H' fun σ2 H2 => wipe σ2 vs = wipe σ vs ∧ tt σ2 H2 fun b H3 => if b = true then te σ2 H3 fun y H4 => LcPush D I i H4 y else LcSkip D I i H3)
    (hd : ∀ D acc H', H D = none → H' D = some (.lst acc) → I D ks.length acc H' → Qd D H') :
    ∃ d' o, V.ref d = .ref d' ∧ ((∃ kvs, H d' = some (.frz o (.dK kvs)) ∧ ∀ D, H D = none → ∃ W : Nat → Nat → Hp → Prop, (∃ m, W 0 m (upd H D (.lst []))) ∧ ∀ i m H, W i m H →
      ((Itk d' o kvs).stop i H ∧ Qd D H) ∨ ((Itk d' o kvs).go i H ∧ ∃ Nx : Hp → Prop, (∀ H', Nx H' → ∃ m', m' < m ∧ W (i + 1) m' H') ∧ ∀ x H', (Itk d' o kvs).yld i H x H' → g x (wipe σ vs) H' fun σ2 H2 => wipe σ2 vs = wipe σ vs ∧ tt σ2 H2 fun b H3 =>
        if b = true then te σ2 H3 fun y H4 => ∃ acc, H4 D = some (.lst acc) ∧ acc.length < sizeLine ∧ Nx (upd H4 D (.lst (acc ++ [y]))) else Nx H3)) ∨ ∃ kvs, H d' = some (.frz o (.dT kvs)) ∧ ∀ D, H D = none → ∃ W : Nat → Nat → Hp → Prop, (∃ m, W 0 m (upd H D (.lst []))) ∧ ∀ i m H, W i m H →
      ((Itkt d' o kvs).stop i H ∧ Qd D H) ∨ ((Itkt d' o kvs).go i H ∧ ∃ Nx : Hp → Prop, (∀ H', Nx H' → ∃ m', m' < m ∧ W (i + 1) m' H') ∧ ∀ x H', (Itkt d' o kvs).yld i H x H' → g x (wipe σ vs) H' fun σ2 H2 => wipe σ2 vs = wipe σ vs ∧ tt σ2 H2 fun b H3 =>
        if b = true then te σ2 H3 fun y H4 => ∃ acc, H4 D = some (.lst acc) ∧ acc.length < sizeLine ∧ Nx (upd H4 D (.lst (acc ++ [y]))) else Nx H3)) := by
  refine ⟨d, od, rfl, .inl ⟨kvs, h, fun D hD => ?_⟩⟩
  have hlen : kvs.length = ks.length := by
    have := congrArg List.length hk
    simpa using this
  refine ⟨fun i m H' => m = kvs.length - i ∧ i ≤ kvs.length ∧ ∃ acc, H' D = some (.lst acc) ∧ I D i acc H', ⟨kvs.length, by simp, Nat.zero_le _, [], upd_same, h0 D hD⟩, ?_⟩
  rintro i m H' ⟨rfl, hi, acc, ha, ir⟩
  by_cases hlt : i < kvs.length
  · refine .inr ⟨⟨hl _ _ _ _ hD ha ir, hlt⟩, fun H' => ∃ acc, H' D = some (.lst acc) ∧ I D (i + 1) acc H', fun H2 q => ⟨_, by omega, rfl, hlt, q⟩, fun x H2 hy => ?_⟩
    obtain ⟨rfl, k, v, e, rfl⟩ := hy
    have hks : ks[i]? = some (ks[i]'(by omega)) := List.getElem?_eq_getElem (by omega)
    generalize ks[i]'(by omega) = q at hks
    have ekk : k = .inl q := by
      have h1 : (kvs.map (·.1))[i]? = some k := by rw [List.getElem?_map, e]; rfl
      rw [hk, List.getElem?_map, hks] at h1
      exact (Option.some.inj h1).symm
    subst ekk
    exact hs D i q acc _ hD hks ha ir
  · have e : i = ks.length := by omega
    subst e
    exact .inl ⟨⟨hl _ _ _ _ hD ha ir, by omega⟩, hd D acc _ hD ha ir⟩
end
/-- a jar by its keys -/
theorem JarAt.list {H : Hp} {a : Addr} {n : Nat} {c : Int → Int} (h : JarAt H a n c) : ∃ (kvs : List (Key × V)) (ks : List Int), H a = some (.dK kvs) ∧ JarK kvs ∧ kvs.map (·.1) = ks.map Sum.inl ∧ ks.length ≤ n ∧ (∀ k, cfK kvs k = c k) ∧ ∀ k, cof (ks.map fun q => (q, c q)) k = c k := by
  obtain ⟨kvs, e, hk, hl, hc⟩ := h
  obtain ⟨ks, ek, nd, kz, kl⟩ := hk.keys
  refine ⟨kvs, ks, e, hk, ek, by omega, hc, fun k => ?_⟩
  have key : ∀ (ls : List Int), ls.Nodup → ∀ k, cof (ls.map fun q => (q, c q)) k = if k ∈ ls then c k else 0 := by
    intro ls
    induction ls with
    | nil => intro _ k; rfl
    | cons l ls ih =>
      intro nd k
      have nd' := List.nodup_cons.mp nd
      rw [List.map_cons, cof, ih nd'.2 k]
      by_cases e : l = k
      · subst e; rw [if_pos rfl, if_neg nd'.1, if_pos (by simp)]; omega
      · rw [if_neg e]
        by_cases m : k ∈ ls
        · rw [if_pos m, if_pos (by simp [m])]; omega
        · rw [if_neg m, if_neg (by simp only [List.mem_cons, m, or_false]; exact fun z => e z.symm)]; rfl
  rw [key ks nd k]
  by_cases m : k ∈ ks
  · rw [if_pos m]
  · rw [if_neg m, ← hc]; exact (kz k m).symm
/-- a Poly of a jar's numbers has no more terms than the jar -/
theorem Canon.jar {H : Hp} {a : Addr} {n : Nat} {c : Int → Int} {ts : Terms} (h : JarAt H a n c) (hc : Canon ts) (e : ∀ k, cof ts k = c k) : ts.length ≤ n := by
  obtain ⟨kvs, ks, _, _, _, hl, _, hf⟩ := h.list
  exact Nat.le_trans (hc.tight fun k => (e k).trans (hf k).symm) (by rw [List.length_map]; exact hl)
end My

set_option Elab.async false
set_option linter.all false
set_option maxRecDepth 100000
namespace My
open PySem PySem.Spec PyProof.Rows L2
section
variable {C : Addr} {H : Hp} {Q : VK} {E : XK} {a b : Addr} {ts us : Terms} {σ : L2.St} {m : Str}
theorem rows_none {α : Type} {v : α} {m : Str} (h : (m == ("rows" : Str)) = false) : List.lookup m [(("rows" : Str), v)] = none := by rw [List.lookup, h]; rfl
theorem u_own1 {f : Terms → Int → Int} (h : PolyAt C H a ts) (hn : ts.length ≤ 90000) (q : ∀ b us H', Same H H' → PolyAt C H' b us → (∀ k, cof us k = f ts k) → us.length ≤ ts.length → Q (.ref b) H') : rOwn1 C (spPoly1 C f) (.ref a) H Q := by
  obtain ⟨dx, r, vs, g1, _⟩ := id h
  exact ⟨a, dx, _, rfl, g1, a, ts, rfl, h, hn, q⟩
/-- o.m() -/
theorem u_meth0 {sp : Sp} (h : PolyAt C H a ts) (hm : (m == ("rows" : Str)) = false) (q : sp [.ref a] H Q E) : ∃ a' dx fs, V.ref a = .ref a' ∧ H a' = some (.ins C dx fs) ∧ fs.lookup m = none ∧ tNil σ H fun vs H2 => sp (.ref a :: vs) H2 Q E := by
  obtain ⟨dx, r, vs, g1, _⟩ := id h
  exact ⟨a, dx, _, rfl, g1, rows_none hm, q⟩
theorem u_poly1 {f : Terms → Int → Int} (h : PolyAt C H a ts) (hn : ts.length ≤ 90000) (q : ∀ b us H', Same H H' → PolyAt C H' b us → (∀ k, cof us k = f ts k) → us.length ≤ ts.length → Q (.ref b) H') : spPoly1 C f [.ref a] H Q E := ⟨a, ts, rfl, h, hn, q⟩
/-- one * two -/
theorem u_mul2 (ha : PolyAt C H a ts) (hb : PolyAt C H b us) (hn : ts.length * us.length ≤ 90000) (s1 : Sm (cof ts)) (s2 : Sm (cof us))
    (q : ∀ p ws H', Same H H' → PolyAt C H' p ws → (∀ k, cof ws k = mulF (cof ts) (cof us) k) → ws.length ≤ ts.length * us.length → Q (.ref p) H') : rOwn2 C (spMul C mulF) (.ref a) (.ref b) H Q := by
  obtain ⟨dx, r, vs, g1, _⟩ := id ha
  obtain ⟨dy, r', vs', g2, _⟩ := id hb
  exact ⟨a, dx, _, b, dy, _, rfl, rfl, g1, g2, a, ts, .ref b, cof us, us.length, rfl, ha, .inl ⟨b, us, rfl, hb, fun _ => rfl, Nat.le_refl _⟩, hn, s1, s2, q⟩
theorem sm_one {i : Int} (h : i.natAbs < 2 ^ 100000) : Sm (one0 i) := fun k => by
  unfold one0; split
  · exact h
  · exact Nat.lt_of_le_of_lt (Nat.zero_le _) h
/-- one * i -/
theorem u_mulI {i : Int} (ha : PolyAt C H a ts) (hn : ts.length ≤ 90000) (s1 : Sm (cof ts)) (s2 : i.natAbs < 2 ^ 100000)
    (q : ∀ p ws H', Same H H' → PolyAt C H' p ws → (∀ k, cof ws k = mulF (cof ts) (one0 i) k) → ws.length ≤ ts.length → Q (.ref p) H') : rOwnI C (spMul C mulF) (.ref a) (.int i) H Q := by
  obtain ⟨dx, r, vs, g1, _⟩ := id ha
  exact ⟨a, dx, _, i, rfl, rfl, g1, a, ts, .int i, one0 i, 1, rfl, ha, .inr ⟨i, rfl, fun _ => rfl, Nat.le_refl _⟩, by omega, s1, sm_one s2, fun p ws H' s hp e l => q p ws H' s hp e (by omega)⟩
/-- i * one -/
theorem u_mulR {i : Int} (ha : PolyAt C H a ts) (hn : ts.length ≤ 90000) (s1 : Sm (cof ts)) (s2 : i.natAbs < 2 ^ 100000)
    (q : ∀ p ws H', Same H H' → PolyAt C H' p ws → (∀ k, cof ws k = mulF (cof ts) (one0 i) k) → ws.length ≤ ts.length → Q (.ref p) H') : rOwnR C (spMul C mulF) (.int i) (.ref a) H Q := by
  obtain ⟨dx, r, vs, g1, _⟩ := id ha
  exact ⟨a, dx, _, i, rfl, rfl, g1, a, ts, .int i, one0 i, 1, rfl, ha, .inr ⟨i, rfl, fun _ => rfl, Nat.le_refl _⟩, by omega, s1, sm_one s2, fun p ws H' s hp e l => q p ws H' s hp e (by omega)⟩
/-- one << n -/
theorem u_shl {n : Int} (ha : PolyAt C H a ts) (hn : ts.length ≤ 90000)
    (q : ∀ p ws H', Same H H' → PolyAt C H' p ws → (∀ k, cof ws k = cof ts (k - n)) → ws.length ≤ ts.length → Q (.ref p) H') : rOwnI C (spShift C) (.ref a) (.int n) H Q := by
  obtain ⟨dx, r, vs, g1, _⟩ := id ha
  exact ⟨a, dx, _, n, rfl, rfl, g1, a, ts, n, rfl, ha, hn, q⟩
/-- the numbers of a list are small -/
theorem sm_list {M : Nat} (h : ∀ p ∈ ts, p.2.natAbs ≤ M) (hm : ts.length * M < 2 ^ 100000) : Sm (cof ts) := fun k => Nat.lt_of_le_of_lt (cof_le k h) hm
theorem mulF_mir {c d : Int → Int} (hc : ∀ k, cof ts k = c k) (hd : ∀ k, cof us k = d k) (k : Int) : mulF (fun j => c (-j)) (fun j => d (-j)) k = mulF c d (-k) := by
  rw [mulF_of (ts := mirT ts) (us := mirT us) (fun j => (cof_mir ts j).trans (hc _)) (fun j => (cof_mir us j).trans (hd _)), mulF_of hc hd, ← cmul_mir (cof us) ts k]
  exact cmul_extr _ k fun j => cof_mir us j
theorem unlock_same {H H' : Hp} {d : Addr} {od : Obj} {u : HO} (e : H d = some u) (s : Same (upd H d (.frz od u)) H') : Same H (upd H' d u) := fun x o h => by
  by_cases hx : x = d
  · subst hx
    rw [upd_same, ← h, e]
  · rw [upd_ne hx]
    exact s x o ((upd_ne hx).trans h)
theorem unlock_tk {H' : Hp} {d : Addr} {od : Obj} {u v : HO} (e : H' d = some (.frz od v)) : Tk H' (upd H' d u) := fun x xs h => by
  have hx : x ≠ d := fun z => by subst z; rw [e] at h; cases h
  exact (upd_ne hx).trans h
theorem JarAt.mono {H : Hp} {a : Addr} {n m : Nat} {c : Int → Int} (h : JarAt H a n c) (l : n ≤ m) : JarAt H a m c := let ⟨kvs, e, r1, r2, r3⟩ := h; ⟨kvs, e, r1, Nat.le_trans r2 l, r3⟩
end
end My

set_option Elab.async false
set_option linter.all false
set_option maxRecDepth 100000
namespace My
open PySem PySem.Spec PyProof.Rows L2
/-! ### powers -/
/-- the numbers of a power -/
noncomputable def powF (c : Int → Int) : Nat → Int → Int
  | 0 => one0 1
  | n + 1 => mulF (powF c n) c
theorem powF_ext {c d : Int → Int} (h : ∀ k, c k = d k) (n : Nat) (k : Int) : powF c n k = powF d n k := by rw [show c = d from funext h]
theorem cof_one (i k : Int) : cof [(0, i)] k = one0 i k := by
  rw [cof, cof, one0]
  by_cases h : k = 0
  · rw [if_pos h, if_pos h.symm]; omega
  · rw [if_neg h, if_neg (fun z => h z.symm)]; rfl
theorem cmul_one : ∀ (ts : Terms) (i k : Int), cmul ts (one0 i) k = i * cof ts k
  | [], i, k => by rw [cmul, cof]; simp
  | p :: ts, i, k => by
    rw [cmul, cof, cmul_one ts i k, one0, Int.mul_add]
    by_cases h : p.1 = k
    · rw [if_pos (by omega), if_pos h, Int.mul_comm]
    · rw [if_neg (by omega), if_neg h]; simp
/-- a number times the numbers -/
theorem mulF_one {c : Int → Int} {ts : Terms} (h : ∀ k, cof ts k = c k) (i k : Int) : mulF c (one0 i) k = i * c k := by
  rw [mulF_of (us := [(0, i)]) h (cof_one i), cmul_extr ts k (cof_one i), cmul_one, h]
theorem one_mulF {c : Int → Int} {ts : Terms} (h : ∀ k, cof ts k = c k) (i k : Int) : mulF (one0 i) c k = i * c k := by
  rw [mulF_comm (cof_one i) h, mulF_one h]
theorem powF_one {c : Int → Int} {ts : Terms} (h : ∀ k, cof ts k = c k) (k : Int) : powF c 1 k = c k := by
  show mulF (one0 1) c k = c k
  rw [one_mulF h, Int.one_mul]
/-- there are terms of a power -/
theorem powF_terms {c : Int → Int} {ts : Terms} (h : ∀ k, cof ts k = c k) : ∀ n, ∃ us : Terms, ∀ k, cof us k = powF c n k
  | 0 => ⟨_, cof_one 1⟩
  | n + 1 => by
    obtain ⟨us, hu⟩ := powF_terms h n
    exact ⟨prodT us ts, fun k => (cof_prod us ts k).trans (mulF_of hu h k).symm⟩
theorem mulF_shift {c d : Int → Int} {ts us : Terms} (hc : ∀ k, cof ts k = c k) (hd : ∀ k, cof us k = d k) (n k : Int) : mulF (fun j => c (j - n)) d k = mulF c d (k - n) := by
  rw [mulF_of (ts := shiftT n ts) (us := us) (fun j => (cof_shift n ts j).trans (hc _)) hd, mulF_of hc hd, cmul_shift]
theorem cmul_app : ∀ (ts us : Terms) (d : Int → Int) (k : Int), cmul (ts ++ us) d k = cmul ts d k + cmul us d k
  | [], us, d, k => by rw [List.nil_append, cmul, Int.zero_add]
  | p :: ts, us, d, k => by rw [List.cons_append, cmul, cmul, cmul_app ts us d k, Int.add_assoc]
theorem JarAt.upd {H : Hp} {a b : Addr} {n : Nat} {c : Int → Int} {o : HO} (h : JarAt H a n c) (ne : a ≠ b) : JarAt (upd H b o) a n c := let ⟨kvs, e, r⟩ := h; ⟨kvs, (upd_ne ne).trans e, r⟩
/-- how great a power's numbers are -/
theorem pow_small {A i : Nat} (h : A ≤ 10 ^ 45) (hi : i ≤ 8) : (90000 * A) ^ i < 2 ^ 100000 := by
  have h1 : 90000 * A ≤ 10 ^ 50 := by omega
  exact Nat.lt_of_le_of_lt (Nat.le_trans (Nat.pow_le_pow_left h1 i) (Nat.pow_le_pow_right (by decide) hi)) (by decide +kernel)
def spRaised (C : Addr) : Sp := fun vs H Q _ => ∃ a ts n, vs = [.ref a, .int (n : Nat)] ∧ PolyAt C H a ts ∧ n ≤ 8 ∧ (∀ i, i ≤ n → ts.length ^ i ≤ 90000) ∧ (∀ k, (cof ts k).natAbs ≤ 10 ^ 45) ∧
  ∀ b us H', Same H H' → PolyAt C H' b us → (∀ k, cof us k = powF (cof ts) n k) → us.length ≤ ts.length ^ n → Q (.ref b) H'
def spTimes : Sp := fun vs H Q _ => ∃ (a b : Addr) (n m : Nat) (c d : Int → Int), vs = [.ref a, .ref b] ∧ JarAt H a n c ∧ JarAt H b m d ∧ n * m ≤ 90000 ∧ Sm c ∧ Sm d ∧ ∀ p H', H p = none → Same H H' → JarAt H' p (n * m) (mulF c d) → Q (.ref p) H'
def spMoved : Sp := fun vs H Q _ => ∃ (a : Addr) (n : Nat) (c : Int → Int) (s : Int), vs = [.ref a, .int s] ∧ JarAt H a n c ∧ n ≤ 90000 ∧ ∀ p H', H p = none → Same H H' → JarAt H' p n (fun k => c (k - s)) → Q (.ref p) H'
def spRaise : Sp := fun vs H Q _ => ∃ (a : Addr) (m : Nat) (c : Int → Int) (n : Nat), vs = [.ref a, .int (n : Nat)] ∧ JarAt H a m c ∧ n ≤ 8 ∧ (∀ i, i ≤ n → m ^ i ≤ 90000) ∧ (∀ k, (c k).natAbs ≤ 10 ^ 45) ∧ ∀ p H', Same H H' → JarAt H' p (m ^ n) (powF c n) → Q (.ref p) H'
end My

set_option Elab.async false
set_option linter.all false
set_option maxRecDepth 100000
set_option maxHeartbeats 4000000

namespace My
open PySem PySem.Spec PyProof.Rows L2
section
variable {P : Program} {w : World} {K : PySem.W.Frag} {mg : Str → Option Value} {base : Heap}
local macro_rules | `(tactic| walk_at "isi") => `(tactic| (first
  | (with_reducible refine r_is_int_int ?_)
  | (with_reducible refine r_is_int_bool ?_)
  | (with_reducible refine r_is_int_str ?_)
  | (with_reducible refine r_is_int_list ?_)
  | (with_reducible refine r_is_int_tuple ?_)
  | (with_reducible refine r_is_bool_int ?_)
  | (with_reducible refine r_is_bool_bool ?_)
  | (with_reducible refine r_is_bool_str ?_)
  | (with_reducible refine r_is_bool_list ?_)
  | (with_reducible refine r_is_bool_tuple ?_)
  | (with_reducible refine r_is_str_int ?_)
  | (with_reducible refine r_is_str_bool ?_)
  | (with_reducible refine r_is_str_str ?_)
  | (with_reducible refine r_is_str_list ?_)
  | (with_reducible refine r_is_str_tuple ?_)
  | ((with_reducible refine r_is_list_int (xs := ?xx) ?hh ?_); (case hh => walk_at "hp"))
  | ((with_reducible refine r_is_list_bool (xs := ?xx) ?hh ?_); (case hh => walk_at "hp"))
  | ((with_reducible refine r_is_list_str (xs := ?xx) ?hh ?_); (case hh => walk_at "hp"))
  | ((with_reducible refine r_is_list_list (xs := ?xx) ?hh ?_); (case hh => walk_at "hp"))
  | ((with_reducible refine r_is_list_tuple (xs := ?xx) ?hh ?_); (case hh => walk_at "hp"))
  | ((with_reducible refine r_is_tuple_int (xs := ?xx) ?hh ?_); (case hh => walk_at "hp"))
  | ((with_reducible refine r_is_tuple_bool (xs := ?xx) ?hh ?_); (case hh => walk_at "hp"))
  | ((with_reducible refine r_is_tuple_str (xs := ?xx) ?hh ?_); (case hh => walk_at "hp"))
  | ((with_reducible refine r_is_tuple_list (xs := ?xx) ?hh ?_); (case hh => walk_at "hp"))
  | ((with_reducible refine r_is_tuple_tuple (xs := ?xx) ?hh ?_); (case hh => walk_at "hp"))
  | (with_reducible refine r_is_NoneType_int ?_)
  | (with_reducible refine r_is_NoneType_bool ?_)
  | (with_reducible refine r_is_NoneType_str ?_)
  | (with_reducible refine r_is_NoneType_list ?_)
  | (with_reducible refine r_is_NoneType_tuple ?_)))
local macro_rules | `(tactic| walk_at "ne") => `(tactic| first | assumption | (refine Ne.symm ?_; assumption) | exact Bag.ne (by assumption) (by assumption) | exact ne_of_none (by assumption) (by assumption))
local macro_rules | `(tactic| walk_at "hp") => `(tactic| (first
  | assumption
  | exact upd_same
  | (refine h_keep ?_ (by assumption); walk_at "hp")
  | (refine (upd_ne (by walk_at "ne")).trans ?_; walk_at "hp")
  | (refine Same.at (by assumption) ?_; walk_at "hp")
  | (refine But.at (by assumption) (by walk_at "ne") ?_; walk_at "hp")
  | (refine But2.at (by assumption) (by walk_at "ne") (by walk_at "ne") ?_; walk_at "hp")))
local macro_rules | `(tactic| walk_at "side") => `(tactic| first | assumption | omega | (refine ⟨?_, ?_⟩ <;> first | assumption | omega | decide) | decide | (refine ⟨by decide, by decide, by decide⟩) | (left; refine ⟨?_, ?_⟩ <;> first | omega | decide) | (right; refine ⟨?_, ?_⟩ <;> first | omega | decide) | (simp; done))
local macro_rules | `(tactic| walk_at "cond") => `(tactic| first | assumption | exact rfl | omega | (simp only [List.length_cons, List.length_nil]; omega) | decide +kernel)
local macro_rules | `(tactic| walk_at "s") => `(tactic| (first
  | ((with_reducible refine r_var (v := ?vv) ?ee ?_); (case ee => exact rfl))
  | (with_reducible refine r_c ?_)
  | (with_reducible refine r_op ?_)
  | (with_reducible refine r_un ?_)
  | (with_reducible refine r_rI0 ?_)
  | ((with_reducible refine r_rI ?cc ?_); (case cc => walk_at "side"))
  | (with_reducible refine r_rU ?_)
  | (with_reducible refine r_eqI ?_)
  | (with_reducible refine r_neI ?_)
  | (with_reducible refine r_eqB ?_)
  | (with_reducible refine r_neB ?_)
  | (with_reducible refine r_eqS ?_)
  | (with_reducible refine r_neS ?_)
  | ((with_reducible refine r_eq ?ee ?_); (case ee => exact rfl))
  | ((with_reducible refine r_ne ?ee ?_); (case ee => exact rfl))
  | ((with_reducible refine r_ixL (v := ?vv) (xs := ?xx) ?hh ?ee ?_); (case hh => (refine SqL.of ?_; walk_at "hp")); (case ee => exact rfl))
  | (with_reducible refine r_cb ?_)
  | (with_reducible refine r_call ?_)
  | (with_reducible refine r_cons ?_)
  | (with_reducible refine r_nil ?_)
  | (with_reducible refine r_lst ?_)
  | (with_reducible refine r_tup ?_)
  | ((with_reducible refine r_new ?cc ?_); (case cc => walk_at "side"))
  | (with_reducible refine r_exbl ?_)
  | (with_reducible refine r_exint ?_)
  | (with_reducible refine r_exint2 ?_)
  | (with_reducible refine r_exblL ?_)
  | (with_reducible refine r_ex2 ?_)
  | (with_reducible refine r_test ?_)
  | (with_reducible refine r_tB ?_)
  | (with_reducible refine r_not ?_)
  | (with_reducible refine r_and ?_)
  | (with_reducible refine r_or ?_)
  | (with_reducible refine r_andV ?_)
  | (with_reducible refine r_orV ?_)
  | (with_reducible refine r_notV ?_)
  | (with_reducible refine r_tif ?_)
  | (with_reducible refine r_iteT ?_)
  | (with_reducible refine r_iteNT ?_)
  | (with_reducible refine r_iteNF ?_)
  | (with_reducible refine r_iteF ?_)
  | (with_reducible refine r_seq ?_)
  | (with_reducible refine r_next ?_)
  | (with_reducible refine r_brk ?_)
  | (with_reducible refine r_cont ?_)
  | (with_reducible refine r_asg ?_)
  | (with_reducible refine r_gname ?_)
  | (with_reducible refine r_ret ?_)
  | (with_reducible refine r_retN ?_)
  | (with_reducible refine r_drop ?_)
  | (with_reducible refine r_if ?_)
  | ((with_reducible refine r_aug (x := ?xx) ?ee ?_); (case ee => exact rfl))
  | (with_reducible refine r_ipI ?_)
  | (with_reducible refine r_augS ?_)
  | (with_reducible refine r_gsub ?_)
  | ((with_reducible refine r_setL (xs := ?xx) (m := ?mm) ?hh ?ee ?_); (case hh => walk_at "hp"); (case ee => exact rfl))
  | (with_reducible refine r_par ?_)
  | (with_reducible refine r_bm ?_)
  | ((with_reducible refine r_tyL (xs := ?xx) ?hh ?_); (case hh => walk_at "hp"))
  | ((with_reducible refine r_append (xs := ?xx) ?hh ?ll ?_); (case hh => walk_at "hp"); (case ll => walk_at "side"))
  | (walk_at "isi")
  | (with_reducible refine r_for ?_)
  | (with_reducible refine r_iList ?_)
  | (with_reducible refine r_iTup ?_)
  | (with_reducible refine r_iR1 ?_)
  | (with_reducible refine r_iR2 ?_)
  | (with_reducible refine r_lc ?_)
  | (with_reducible refine r_yes ?_)
  | ((with_reducible refine r_lenS ?ll ?_); (case ll => walk_at "side"))
  | (with_reducible refine r_leS ?_)
  | (with_reducible refine r_chain ?_)
  | (with_reducible refine r_tM1 ?_)
  | (with_reducible refine r_exS ?_)
  | ((with_reducible refine r_tupL (xs := ?xx) ?hh ?_); (case hh => walk_at "hp"))
  | ((with_reducible refine r_listL (xs := ?xx) ?hh ?_); (case hh => walk_at "hp"))
  | ((with_reducible refine r_listT (xs := ?xx) ?hh ?_); (case hh => walk_at "hp"))
  | ((with_reducible refine r_ixT (v := ?vv) (xs := ?xx) ?hh ?ee ?_); (case hh => (refine SqT.of ?_; walk_at "hp")); (case ee => exact rfl))
  | (with_reducible refine r_sl ?_)
  | (with_reducible refine r_nopart ?_)
  | (with_reducible refine r_part ?_)
  | (with_reducible refine r_exI ?_)
  | ((with_reducible refine r_slL (xs := ?xx) ?hh ?_); (case hh => first | assumption | (refine SqL.of ?_; walk_at "hp") | (refine Same.seq (by assumption) (by assumption))))
  | ((with_reducible refine r_cat (xs := ?xx) (zs := ?zz) ?hh ?ii ?ll ?_); (case hh => walk_at "hp"); (case ii => walk_at "hp"); (case ll => walk_at "side"))
  | ((with_reducible refine r_lenL (xs := ?xx) ?hh ?_); (case hh => walk_at "hp"))
  | ((with_reducible refine r_lenT (xs := ?xx) ?hh ?_); (case hh => walk_at "hp"))
  | ((with_reducible refine r_gTup (xs := ?xx) ?hh ?ll ?_); (case hh => walk_at "hp"); (case ll => exact rfl))
  | (with_reducible refine r_gCons ?_)
  | (with_reducible refine r_gNil ?_)
  | ((with_reducible refine r_iteDT ?cc ?_); (case cc => walk_at "cond"))
  | ((with_reducible refine r_iteDF ?cc ?_); (case cc => walk_at "cond"))
  | ((with_reducible refine r_iteNDT ?cc ?_); (case cc => walk_at "cond"))
  | ((with_reducible refine r_iteNDF ?cc ?_); (case cc => walk_at "cond"))
  ))
local macro_rules | `(tactic| walk_at "go") => `(tactic| repeat (walk_at "s"))

local macro_rules | `(tactic| walk_at "s") => `(tactic| (first
  | (with_reducible refine r_dnew ?_)
  | (with_reducible refine r_dget2 ?_)
  | (with_reducible refine r_dget ?_)
  | (with_reducible refine r_dput ?_)
  | (with_reducible refine r_dsetd ?_)
  | ((with_reducible refine JarAt.isD (n := ?nn) (c := ?cc) ?hh ?_); (case hh => assumption))
  ))

local macro_rules | `(tactic| walk_at "s") => `(tactic| (first
  | (with_reducible refine r_prop ?_)
  | (with_reducible refine r_meth ?_)
  | (with_reducible refine r_make ?_)
  | (with_reducible refine r_fld ?_)
  | (with_reducible refine r_sfld ?_)
  | (with_reducible refine r_iOwn ?_)
  | ((with_reducible refine u_rowsAt (mg := ?mm) (C := ?CC) (dx := ?dd) (fv := ?vv) ?tt ?hh ?_); (case tt => assumption); (case hh => walk_at "hp"))
  | ((with_reducible refine r_isPoly (mg := ?mm) (dx := ?dd) (fs := ?ff) ?tt ?hh ?_); (case tt => assumption); (case hh => walk_at "hp"))
  | ((with_reducible refine r_isPolyI (mg := ?mm) ?tt ?_); (case tt => assumption))
  | ((with_reducible refine r_polyInt (mg := ?mm) (C := ?CC) (dx := ?dd) (fs := ?ff) ?tt ?hh ?_); (case tt => assumption); (case hh => walk_at "hp"))
  ))

local macro_rules | `(tactic| walk_at "s") => `(tactic| (first
  | (with_reducible refine r_iKeys ?_)
  | (with_reducible refine rl_disp ?_)
  | (with_reducible refine rl_pc ?_)
  | (with_reducible refine rl_pn ?_)
  ))
theorem key_at {kvs : List (Key × V)} {ks : List Int} {i : Nat} {kk : Key} {v : V} (ek : kvs.map (·.1) = ks.map Sum.inl) (h : kvs[i]? = some (kk, v)) : ∃ q, ks[i]? = some q ∧ kk = .inl q := by
  have h1 : (kvs.map (·.1))[i]? = some kk := by rw [List.getElem?_map, h]; rfl
  rw [ek, List.getElem?_map] at h1
  cases e : ks[i]? with
  | none => rw [e] at h1; cases h1
  | some q => rw [e] at h1; exact ⟨q, rfl, (Option.some.inj h1).symm⟩
end
end My

set_option Elab.async false
set_option linter.all false
set_option maxRecDepth 100000
set_option maxHeartbeats 2000000
namespace My
open PySem PySem.Spec PyProof.Rows L2
/-! ### rows of plain commands with headings within bounds -/
namespace Prog
def wayIn (f : Int) : Int → Prog → Prop
  | _, .nil => True
  | h, .step _ _ r => wayIn f h r
  | h, .turn k r => (-f ≤ h + k ∧ h + k ≤ f) ∧ wayIn f (h + k) r
  | _, .rep _ _ _ => False
  | _, .mir _ _ => False
theorem wayIn_app {f : Int} : ∀ {p q : Prog} {h : Int}, wayIn f h p → wayIn f (h + p.head) q → wayIn f h (p.app q)
  | .nil, q, h, _, h2 => by rw [head, Int.add_zero] at h2; exact h2
  | .step w m r, q, h, h1, h2 => wayIn_app (p := r) h1 (by rw [head] at h2; exact h2)
  | .turn k r, q, h, h1, h2 => ⟨h1.1, wayIn_app (p := r) h1.2 (by rw [head, ← Int.add_assoc] at h2; exact h2)⟩
  | .rep k b r, q, h, h1, _ => h1.elim
  | .mir b r, q, h, h1, _ => h1.elim
end Prog
/-! ### numbers by powers, from 0 on -/
theorem cmul_neg {c d : Int → Int} (hc : ∀ k, k < 0 → c k = 0) (hd : ∀ k, k < 0 → d k = 0) : ∀ (ks : List Int) (k : Int), k < 0 → cmul (ks.map fun q => (q, c q)) d k = 0
  | [], k, _ => rfl
  | q :: ks, k, hk => by
    rw [List.map_cons, cmul, cmul_neg hc hd ks k hk, Int.add_zero]
    show c q * d (k - q) = 0
    by_cases hq : q < 0
    · rw [hc q hq, Int.zero_mul]
    · rw [hd _ (by omega), Int.mul_zero]
theorem cmul_at0 {c d : Int → Int} (hc : ∀ k, k < 0 → c k = 0) (hd : ∀ k, k < 0 → d k = 0) : ∀ (ks : List Int), ks.Nodup → cmul (ks.map fun q => (q, c q)) d 0 = if 0 ∈ ks then c 0 * d 0 else 0
  | [], _ => rfl
  | q :: ks, nd => by
    have nd := List.nodup_cons.mp nd
    rw [List.map_cons, cmul, cmul_at0 hc hd ks nd.2]
    show c q * d (0 - q) + _ = _
    by_cases hq : q = 0
    · subst hq
      rw [if_neg nd.1, if_pos (by simp), Int.add_zero]
      rfl
    · have h0 : c q * d (0 - q) = 0 := by
        by_cases h : q < 0
        · rw [hc q h, Int.zero_mul]
        · rw [hd _ (by omega), Int.mul_zero]
      rw [h0, Int.zero_add]
      by_cases h : 0 ∈ ks
      · rw [if_pos h, if_pos (by simp [h])]
      · rw [if_neg h, if_neg (by simp only [List.mem_cons, h, or_false]; exact fun z => hq z.symm)]
/-- the sum over some of the keys is not greater -/
theorem sum_sub (f : Int → Nat) : ∀ (l m : List Int), l.Nodup → (∀ x ∈ l, x ∈ m) → (l.map f).sum ≤ (m.map f).sum
  | [], m, _, _ => by simp
  | x :: l, m, nd, h => by
    have nd := List.nodup_cons.mp nd
    have hx : x ∈ m := h x (by simp)
    obtain ⟨s, t, rfl⟩ := List.append_of_mem hx
    have h2 := sum_sub f l (s ++ t) nd.2 fun y hy => by
      have := h y (by simp [hy])
      simp only [List.mem_append, List.mem_cons] at this ⊢
      rcases this with h | rfl | h
      · exact .inl h
      · exact absurd hy nd.1
      · exact .inr h
    simp only [List.map_append, List.sum_append, List.map_cons, List.sum_cons] at h2 ⊢
    omega
theorem le_sum (f : Int → Nat) : ∀ {l : List Int} {x : Int}, x ∈ l → f x ≤ (l.map f).sum
  | y :: l, x, h => by
    rcases List.mem_cons.mp h with rfl | h
    · simp
    · have := le_sum f h
      simp only [List.map_cons, List.sum_cons]
      omega
theorem sum_abs {c : Int → Int} : ∀ (ks : List Int), (ks.map fun q => ((c q).natAbs : Int)).sum = ((ks.map fun q => (c q).natAbs).sum : Nat)
  | [] => rfl
  | q :: ks => by rw [List.map_cons, List.sum_cons, sum_abs ks, List.map_cons, List.sum_cons, Int.natCast_add]
/-- the terms' sum is not greater than the keys' -/
theorem Canon.asc_nodup {ts : Terms} (h : Canon ts) : (ts.map (·.1)).Nodup := by
  have h1 := h.asc
  rw [List.Nodup, List.pairwise_map]
  exact h1.imp fun {a b} (hab : a.1 < b.1) => by omega
theorem terms_sum {c : Int → Int} {ts : Terms} {ks : List Int} (h : Canon ts) (e : ∀ k, cof ts k = c k) (hz : ∀ k, ¬ k ∈ ks → c k = 0) : (ts.map fun p => p.2.natAbs).sum ≤ (ks.map fun q => (c q).natAbs).sum := by
  have h1 : ts.map (fun p => p.2.natAbs) = (ts.map (·.1)).map fun q => (c q).natAbs := by
    rw [List.map_map]
    refine List.map_congr_left fun p hp => ?_
    show p.2.natAbs = (c p.1).natAbs
    rw [← e, h.at hp]
  rw [h1]
  refine sum_sub _ _ _ h.asc_nodup fun x hx => ?_
  obtain ⟨p, hp, rfl⟩ := List.mem_map.mp hx
  refine Decidable.byContradiction fun hn => h.nz p hp ?_
  rw [← h.at hp, e, hz _ hn]
def enumT (ns : List Int) (i : Nat) : Terms := (List.range i).map fun (j : Nat) => ((j : Int), ns.getD j 0)
theorem enumT_succ (ns : List Int) (i : Nat) : enumT ns (i + 1) = enumT ns i ++ [((i : Int), ns.getD i 0)] := by
  unfold enumT
  rw [List.range_succ, List.map_append]
  rfl
theorem enumT_len (ns : List Int) (i : Nat) : (enumT ns i).length = i := by unfold enumT; simp
theorem cof_enum (ns : List Int) : ∀ (i : Nat) (k : Int), cof (enumT ns i) k = if 0 ≤ k ∧ k < i then ns.getD k.toNat 0 else 0
  | 0, k => by rw [if_neg (by omega)]; rfl
  | i + 1, k => by
    rw [enumT_succ, cof_app, cof_enum ns i k, cof, cof, Int.add_zero]
    show _ + (if (i : Int) = k then ns.getD i 0 else 0) = _
    by_cases h : (i : Int) = k
    · subst h
      rw [if_neg (by omega), if_pos rfl, if_pos (by omega), Int.zero_add]
      rfl
    · rw [if_neg h, Int.add_zero]
      by_cases h2 : 0 ≤ k ∧ k < i
      · rw [if_pos h2, if_pos (by omega)]
      · rw [if_neg h2, if_neg (by omega)]
end My

set_option Elab.async false
set_option linter.all false
set_option maxRecDepth 100000
set_option maxHeartbeats 2000000
namespace My
open PySem PySem.Spec PyProof.Rows L2
/-! ### what the builder of a closed row keeps -/
def Ring (ns : List Int) : Prop := (1 ≤ ns.length ∧ ns.length ≤ 7) ∧ (∀ n ∈ ns, -1 ≤ n ∧ n ≤ 1) ∧ (ns.getD 0 0 = 1 ∨ ns.getD 0 0 = -1)
instance {ns : List Int} : Decidable (Ring ns) := by unfold Ring; infer_instance
def RingV (b : Addr) (H : Hp) (x : V) : Prop := ∃ (a : Addr) (ns : List Int), x = .ref a ∧ a ≠ b ∧ H a = some (.lst (ns.map V.int)) ∧ Ring ns
theorem RingV.but {b : Addr} {H H' : Hp} {x : V} (h : RingV b H x) (s : But b H H') : RingV b H' x := let ⟨a, ns, e, ne, ha, r⟩ := h; ⟨a, ns, e, ne, s _ _ ne ha, r⟩
theorem atI_get {xs : List V} {n : Int} (h0 : 0 ≤ n) (h1 : n < xs.length) : ∃ v, atI xs n = some v ∧ v ∈ xs := by
  have h2 : n.toNat < xs.length := by omega
  refine ⟨xs[n.toNat], ?_, List.getElem_mem h2⟩
  unfold atI ixN
  rw [if_pos h0, if_pos (by omega)]
  exact List.getElem?_eq_getElem h2
theorem atI_ints {ns : List Int} {i : Nat} (h : i < ns.length) : atI (ns.map V.int) (i : Int) = some (.int (ns.getD i 0)) := by
  have e : (ns.map V.int)[i]? = some (.int (ns.getD i 0)) := by simp [h]
  unfold atI ixN
  rw [if_pos (by omega), if_pos (by simpa using h)]
  exact e
structure RowJar (H : Hp) (b j : Addr) (i : Nat) (S F : Int) (c : Int → Int) (ks : List Int) : Prop where
  jar : JarAt H j (7 ^ i) c
  nb : j ≠ b
  neg : ∀ k, k < 0 → c k = 0
  one : c 0 = 1 ∨ c 0 = -1
  key : ∃ kvs, H j = some (.dK kvs) ∧ kvs.map (·.1) = ks.map Sum.inl
  nd : ks.Nodup
  kz : ∀ k, ¬ k ∈ ks → c k = 0
  top : ∀ k ∈ ks, k ≤ F
  sum : (((ks.map fun q => (c q).natAbs).sum : Nat) : Int) ≤ S
section
variable {H H' : Hp} {b j : Addr} {i : Nat} {S F : Int} {c d : Int → Int} {ks : List Int}
theorem RowJar.but (h : RowJar H b j i S F c ks) (s : But b H H') : RowJar H' b j i S F c ks := { h with jar := h.jar.but h.nb s, key := let ⟨kvs, e, r⟩ := h.key; ⟨kvs, s _ _ h.nb e, r⟩ }
theorem RowJar.same (h : RowJar H b j i S F c ks) (s : Same H H') : RowJar H' b j i S F c ks := h.but (Same.but s b)
theorem RowJar.zero (h : RowJar H b j i S F c ks) : 0 ∈ ks := by
  refine Decidable.byContradiction fun hn => ?_
  have := h.kz 0 hn
  rcases h.one with e | e <;> omega
theorem RowJar.le (h : RowJar H b j i S F c ks) (k : Int) : ((c k).natAbs : Int) ≤ S := by
  by_cases m : k ∈ ks
  · have := le_sum (fun q => (c q).natAbs) m
    have := h.sum
    omega
  · rw [h.kz k m]
    have := h.sum
    show (0 : Int) ≤ S
    omega
theorem RowJar.mono (h : RowJar H b j i S F c ks) : RowJar H b j (i + 1) S F c ks := { h with jar := h.jar.mono (by rw [Nat.pow_succ]; omega) }
theorem rowJar_one (nb : j ≠ b) (hS : 1 ≤ S) (hF : 0 ≤ F) : RowJar (upd H j (.dK (mergeK [] [(.inl 0, .int 1)]))) b j 0 S F (fun k => if k = 0 then 1 else 0) [0] where
  jar := jar_one
  nb := nb
  neg := fun k hk => by rw [if_neg (by omega)]
  one := .inl rfl
  key := ⟨_, upd_same, rfl⟩
  nd := by simp
  kz := fun k hk => by rw [if_neg (by simpa using hk)]
  top := fun k hk => by rw [List.mem_singleton.mp hk]; exact hF
  sum := by simpa using hS
/-- the product with a ring, its sums within bounds -/
theorem RowJar.times {p : Addr} {ns : List Int} {kvs : List (Key × V)} {qs : List Int} (h : RowJar H b j i S F c ks) (r : Ring ns) (hp : JarAt H' p (7 ^ (i + 1)) (mulF c (cof (enumT ns ns.length)))) (np : p ≠ b)
    (e : H' p = some (.dK kvs)) (ek : kvs.map (·.1) = qs.map Sum.inl) (nd : qs.Nodup) (kz : ∀ k, ¬ k ∈ qs → mulF c (cof (enumT ns ns.length)) k = 0)
    (top : ∀ k ∈ qs, k ≤ F) (sum : (((qs.map fun q => (mulF c (cof (enumT ns ns.length)) q).natAbs).sum : Nat) : Int) ≤ S) (kf : ∀ k, cof (ks.map fun q => (q, c q)) k = c k) :
    RowJar H' b p (i + 1) S F (mulF c (cof (enumT ns ns.length))) qs := by
  have dneg : ∀ k, k < 0 → cof (enumT ns ns.length) k = 0 := fun k hk => by rw [cof_enum, if_neg (by omega)]
  have d0 : cof (enumT ns ns.length) 0 = 1 ∨ cof (enumT ns ns.length) 0 = -1 := by
    rw [cof_enum, if_pos ⟨Int.le_refl _, by have := r.1.1; omega⟩]
    exact r.2.2
  have hm : ∀ k, mulF c (cof (enumT ns ns.length)) k = cmul (ks.map fun q => (q, c q)) (cof (enumT ns ns.length)) k := fun k => mulF_of kf (fun _ => rfl) k
  refine ⟨hp, np, fun k hk => by rw [hm]; exact cmul_neg h.neg dneg ks k hk, ?_, ⟨kvs, e, ek⟩, nd, kz, top, sum⟩
  rw [hm, cmul_at0 h.neg dneg ks h.nd, if_pos h.zero]
  rcases h.one with e1 | e1 <;> rcases d0 with e2 | e2 <;> rw [e1, e2]
  · exact .inl rfl
  · exact .inr rfl
  · exact .inr rfl
  · exact .inl rfl
end
theorem cof_keys (c : Int → Int) : ∀ (ls : List Int), ls.Nodup → ∀ k, cof (ls.map fun q => (q, c q)) k = if k ∈ ls then c k else 0
  | [], _, k => rfl
  | l :: ls, nd, k => by
    have nd' := List.nodup_cons.mp nd
    rw [List.map_cons, cof, cof_keys c ls nd'.2 k]
    by_cases e : l = k
    · subst e; rw [if_pos rfl, if_neg nd'.1, if_pos (by simp)]; omega
    · rw [if_neg e]
      by_cases m : k ∈ ls
      · rw [if_pos m, if_pos (by simp [m])]; omega
      · rw [if_neg m, if_neg (by simp only [List.mem_cons, m, or_false]; exact fun z => e z.symm)]; rfl
theorem RowJar.kf {H : Hp} {b j : Addr} {i : Nat} {S F : Int} {c : Int → Int} {ks : List Int} (h : RowJar H b j i S F c ks) (k : Int) : cof (ks.map fun q => (q, c q)) k = c k := by
  rw [cof_keys c ks h.nd k]
  by_cases m : k ∈ ks
  · rw [if_pos m]
  · rw [if_neg m, h.kz k m]
theorem Ring.sm {ns : List Int} (r : Ring ns) (k : Int) : (cof (enumT ns ns.length) k).natAbs ≤ 1 := by
  rw [cof_enum]
  split
  · rename_i h
    have hl : k.toNat < ns.length := by omega
    rw [List.getD_eq_getElem?_getD, List.getElem?_eq_getElem hl]
    have := r.2.1 _ (List.getElem_mem hl)
    show (ns[k.toNat]).natAbs ≤ 1
    omega
  · decide
theorem RowJar.times_zero {H : Hp} {b j : Addr} {i : Nat} {S F : Int} {c : Int → Int} {ks qs ns : List Int} (h : RowJar H b j i S F c ks) (r : Ring ns) (kz : ∀ k, ¬ k ∈ qs → mulF c (cof (enumT ns ns.length)) k = 0) : 0 ∈ qs := by
  refine Decidable.byContradiction fun hn => ?_
  have h0 := kz 0 hn
  have dneg : ∀ k, k < 0 → cof (enumT ns ns.length) k = 0 := fun k hk => by rw [cof_enum, if_neg (by omega)]
  have d0 : cof (enumT ns ns.length) 0 = 1 ∨ cof (enumT ns ns.length) 0 = -1 := by
    rw [cof_enum, if_pos ⟨Int.le_refl _, by have := r.1.1; omega⟩]
    exact r.2.2
  have hm : mulF c (cof (enumT ns ns.length)) 0 = cmul (ks.map fun q => (q, c q)) (cof (enumT ns ns.length)) 0 := mulF_of h.kf (fun _ => rfl) 0
  rw [hm, cmul_at0 h.neg dneg ks h.nd, if_pos h.zero] at h0
  rcases h.one with e1 | e1 <;> rcases d0 with e2 | e2 <;> rw [e1, e2] at h0 <;> cases h0
theorem keys_int {kvs : List (Key × V)} {qs : List Int} (ek : kvs.map (·.1) = qs.map Sum.inl) : (kvs.map fun kv => kV kv.1) = qs.map V.int := by
  have h : (kvs.map fun kv => kV kv.1) = (kvs.map (·.1)).map kV := by rw [List.map_map]; rfl
  rw [h, ek, List.map_map]
  rfl
theorem map_inl_inj : ∀ {as bs : List Int}, (as.map Sum.inl : List Key) = bs.map Sum.inl → as = bs
  | [], [], _ => rfl
  | [], _ :: _, h => by cases h
  | _ :: _, [], h => by cases h
  | a :: as, b :: bs, h => by
    rw [List.map_cons, List.map_cons] at h
    injection h with h1 h2
    injection h1 with h1
    rw [h1, map_inl_inj h2]
theorem JarK.nk {kvs : List (Key × V)} {qs : List Int} (hk : JarK kvs) (ek : kvs.map (·.1) = qs.map Sum.inl) : qs.Nodup ∧ ∀ k, ¬ k ∈ qs → cfK kvs k = 0 := by
  obtain ⟨ks, e, nd, kz, _⟩ := hk.keys
  obtain rfl := map_inl_inj (e.symm.trans ek)
  exact ⟨nd, kz⟩
/-- one that is still to be done: heading, name, which way -/
def TodoV (F : Int) (H : Hp) (v : V) : Prop := ∃ (b : Addr) (d : Int) (nm : Str) (s : Int), v = .ref b ∧ H b = some (.tup [.int d, .str nm, .int s]) ∧ -F ≤ d ∧ d ≤ F ∧ IsName nm ∧ (s = 0 ∨ s = 1)
theorem TodoV.tk {F : Int} {H H' : Hp} {v : V} (h : TodoV F H v) (t : Tk H H') : TodoV F H' v := let ⟨b, d, nm, s, e, hb, r⟩ := h; ⟨b, d, nm, s, e, t _ _ hb, r⟩
theorem le_sumA {α : Type} (f : α → Nat) : ∀ {l : List α} {x : α}, x ∈ l → f x ≤ (l.map f).sum
  | y :: l, x, h => by
    rcases List.mem_cons.mp h with rfl | h
    · simp
    · have := le_sumA f h
      simp only [List.map_cons, List.sum_cons]
      omega
structure TdAt (F : Int) (a : Addr) (H H' : Hp) (t : Addr) (vs : List V) : Prop where
  bu : But a H H'
  bg : Bag H' a
  at_ : H' t = some (.lst vs)
  fr : H t = none
  ne : t ≠ a
  all : ∀ v ∈ vs, TodoV F H' v
structure MdAt (F : Int) (a : Addr) (H H' : Hp) (m : Addr) (ms : List V) (p : Prog) (now : Int) (k : Nat) : Prop where
  at_ : H' m = some (.lst ms)
  fr : H m = none
  ne : m ≠ a
  pr : PrAt H' p ms
  wf : WfL 4000 1 (2 * F) 0 p
  wi : p.wayIn F 0
  hd : p.head = now
  n0 : -F ≤ now
  n1 : now ≤ F
  ln : p.len ≤ k
section
variable {F : Int} {a t m c : Addr} {H H' H2 : Hp} {vs ms : List V} {p q : Prog} {now : Int} {k : Nat} {o : HO}
theorem TdAt.pick (h : TdAt F a H H' t vs) (s : But a H' H2) (b : Bag H2 a) : TdAt F a H H2 t vs := ⟨h.bu.trans s, b, s _ _ h.ne h.at_, h.fr, h.ne, fun v hv => (h.all v hv).tk (Tk.but s h.bg)⟩
theorem TdAt.new (h : TdAt F a H H' t vs) (n : H' c = none) : TdAt F a H (upd H' c o) t vs := ⟨h.bu.new n, h.bg.keep n, h_keep h.at_ n, h.fr, h.ne, fun v hv => (h.all v hv).tk ((Tk.refl _).new n)⟩
theorem TdAt.push (h : TdAt F a H H' t vs) {v : V} (hv : TodoV F H' v) : TdAt F a H (upd H' t (.lst (vs ++ [v]))) t (vs ++ [v]) := by
  have tk : Tk H' (upd H' t (.lst (vs ++ [v]))) := (Tk.refl _).lst h.at_
  refine ⟨h.bu.put h.fr, h.bg.upd h.ne.symm, upd_same, h.fr, h.ne, fun x hx => ?_⟩
  rcases List.mem_append.mp hx with hx | hx
  · exact (h.all x hx).tk tk
  · rw [List.mem_singleton.mp hx]
    exact hv.tk tk
theorem TdAt.other (h : TdAt F a H H' t vs) (hm : H' m = some (.lst ms)) (fm : H m = none) (nm : m ≠ a) (tm : t ≠ m) {xs : List V} : TdAt F a H (upd H' m (.lst xs)) t vs :=
  ⟨h.bu.put fm, h.bg.upd nm.symm, (upd_ne tm).trans h.at_, h.fr, h.ne, fun v hv => (h.all v hv).tk ((Tk.refl _).lst hm)⟩
theorem MdAt.pick (h : MdAt F a H H' m ms p now k) (s : But a H' H2) (b : Bag H' a) : MdAt F a H H2 m ms p now k := { h with at_ := s _ _ h.ne h.at_, pr := h.pr.tk (Tk.but s b) }
theorem MdAt.new (h : MdAt F a H H' m ms p now k) (n : H' c = none) : MdAt F a H (upd H' c o) m ms p now k := { h with at_ := h_keep h.at_ n, pr := h.pr.tk ((Tk.refl _).new n) }
theorem MdAt.mono (h : MdAt F a H H' m ms p now k) : MdAt F a H H' m ms p now (k + 1) := { h with ln := Nat.le_succ_of_le h.ln }
theorem MdAt.push (h : MdAt F a H H' m ms p now k) {v : V} (hq : PrAt H' q [v]) (lq : q.len = 1) (wq : WfL 4000 1 (2 * F) 0 q) (iq : q.wayIn F now) {d : Int} (ed : now + q.head = d) (d0 : -F ≤ d) (d1 : d ≤ F) : MdAt F a H (upd H' m (.lst (ms ++ [v]))) m (ms ++ [v]) (p.app q) d (k + 1) := by
  have tk : Tk H' (upd H' m (.lst (ms ++ [v]))) := (Tk.refl _).lst h.at_
  refine ⟨upd_same, h.fr, h.ne, (h.pr.app hq).tk tk, h.wf.app wq, Prog.wayIn_app h.wi ?_, ?_, d0, d1, ?_⟩
  · rw [Int.zero_add, h.hd]; exact iq
  · rw [Prog.head_app, h.hd, ed]
  · rw [Prog.len_app, lq]
    exact Nat.succ_le_succ h.ln
end
theorem word4 {n : Int} (h0 : 0 ≤ n) (h1 : n < 4) : ∃ x : Str, atI [V.str "back", V.str "go", V.str "slip", V.str "hop"] n = some (.str x) ∧ IsWord x := by
  rcases (by omega : n = 0 ∨ n = 1 ∨ n = 2 ∨ n = 3) with rfl | rfl | rfl | rfl
  · exact ⟨_, rfl, .inr (.inl rfl)⟩
  · exact ⟨_, rfl, .inl rfl⟩
  · exact ⟨_, rfl, .inr (.inr (.inr rfl))⟩
  · exact ⟨_, rfl, .inr (.inr (.inl rfl))⟩
theorem abs_int (x : Int) : (if x < 0 then -x else x) = ((x.natAbs : Nat) : Int) := by split <;> omega
end My

set_option Elab.async false
set_option linter.all false
set_option maxRecDepth 100000
set_option maxHeartbeats 8000000
set_option pp.deepTerms false
set_option pp.deepTerms.threshold 12
set_option pp.maxSteps 1200

namespace My
open PySem PySem.Spec PyProof.Rows L2
def spRow : Sp := fun vs H Q _ => ∃ (a : Addr) (z : Str) (st dr F : Int), vs = [.ref a, .str z, .int st, .int dr, .int F] ∧ Bag H a ∧ Names z ∧ 1 ≤ st ∧ st ≤ 1000 ∧ 0 ≤ dr ∧ 0 ≤ F ∧ F ≤ 1000 ∧
  ∀ l xs p H', But a H H' → Bag H' a → H l = none → H' l = some (.lst xs) → PrAt H' p xs → WfL 4000 1 (2 * F) 0 p → p.wayIn F 0 → 1 ≤ p.len → (p.len : Int) ≤ 2 * st + 1 → Q (.ref l) H'
section
variable {P : Program} {w : World} {K : PySem.W.Frag} {mg : Str → Option Value} {base : Heap}
local macro_rules | `(tactic| walk_at "isi") => `(tactic| (first
  | (with_reducible refine r_is_int_int ?_)
  | (with_reducible refine r_is_int_bool ?_)
  | (with_reducible refine r_is_int_str ?_)
  | (with_reducible refine r_is_int_list ?_)
  | (with_reducible refine r_is_int_tuple ?_)
  | (with_reducible refine r_is_bool_int ?_)
  | (with_reducible refine r_is_bool_bool ?_)
  | (with_reducible refine r_is_bool_str ?_)
  | (with_reducible refine r_is_bool_list ?_)
  | (with_reducible refine r_is_bool_tuple ?_)
  | (with_reducible refine r_is_str_int ?_)
  | (with_reducible refine r_is_str_bool ?_)
  | (with_reducible refine r_is_str_str ?_)
  | (with_reducible refine r_is_str_list ?_)
  | (with_reducible refine r_is_str_tuple ?_)
  | ((with_reducible refine r_is_list_int (xs := ?xx) ?hh ?_); (case hh => walk_at "hp"))
  | ((with_reducible refine r_is_list_bool (xs := ?xx) ?hh ?_); (case hh => walk_at "hp"))
  | ((with_reducible refine r_is_list_str (xs := ?xx) ?hh ?_); (case hh => walk_at "hp"))
  | ((with_reducible refine r_is_list_list (xs := ?xx) ?hh ?_); (case hh => walk_at "hp"))
  | ((with_reducible refine r_is_list_tuple (xs := ?xx) ?hh ?_); (case hh => walk_at "hp"))
  | ((with_reducible refine r_is_tuple_int (xs := ?xx) ?hh ?_); (case hh => walk_at "hp"))
  | ((with_reducible refine r_is_tuple_bool (xs := ?xx) ?hh ?_); (case hh => walk_at "hp"))
  | ((with_reducible refine r_is_tuple_str (xs := ?xx) ?hh ?_); (case hh => walk_at "hp"))
  | ((with_reducible refine r_is_tuple_list (xs := ?xx) ?hh ?_); (case hh => walk_at "hp"))
  | ((with_reducible refine r_is_tuple_tuple (xs := ?xx) ?hh ?_); (case hh => walk_at "hp"))
  | (with_reducible refine r_is_NoneType_int ?_)
  | (with_reducible refine r_is_NoneType_bool ?_)
  | (with_reducible refine r_is_NoneType_str ?_)
  | (with_reducible refine r_is_NoneType_list ?_)
  | (with_reducible refine r_is_NoneType_tuple ?_)))
local macro_rules | `(tactic| walk_at "ne") => `(tactic| first | assumption | (refine Ne.symm ?_; assumption) | exact Bag.ne (by assumption) (by assumption) | exact ne_of_none (by assumption) (by assumption))
local macro_rules | `(tactic| walk_at "hp") => `(tactic| (first
  | assumption
  | exact upd_same
  | (refine h_keep ?_ (by assumption); walk_at "hp")
  | (refine (upd_ne (by walk_at "ne")).trans ?_; walk_at "hp")
  | (refine Same.at (by assumption) ?_; walk_at "hp")
  | (refine But.at (by assumption) (by walk_at "ne") ?_; walk_at "hp")
  | (refine But2.at (by assumption) (by walk_at "ne") (by walk_at "ne") ?_; walk_at "hp")))
local macro_rules | `(tactic| walk_at "side") => `(tactic| first | assumption | omega | (refine ⟨?_, ?_⟩ <;> first | assumption | omega | decide) | decide | (refine ⟨by decide, by decide, by decide⟩) | (left; refine ⟨?_, ?_⟩ <;> first | omega | decide) | (right; refine ⟨?_, ?_⟩ <;> first | omega | decide) | (simp; done))
local macro_rules | `(tactic| walk_at "cond") => `(tactic| first | assumption | exact rfl | omega | (simp only [List.length_cons, List.length_nil]; omega) | decide +kernel)
local macro_rules | `(tactic| walk_at "s") => `(tactic| (first
  | ((with_reducible refine r_var (v := ?vv) ?ee ?_); (case ee => exact rfl))
  | (with_reducible refine r_c ?_)
  | (with_reducible refine r_op ?_)
  | (with_reducible refine r_un ?_)
  | (with_reducible refine r_rI0 ?_)
  | ((with_reducible refine r_rI ?cc ?_); (case cc => walk_at "side"))
  | (with_reducible refine r_rU ?_)
  | (with_reducible refine r_eqI ?_)
  | (with_reducible refine r_neI ?_)
  | (with_reducible refine r_eqB ?_)
  | (with_reducible refine r_neB ?_)
  | (with_reducible refine r_eqS ?_)
  | (with_reducible refine r_neS ?_)
  | ((with_reducible refine r_eq ?ee ?_); (case ee => exact rfl))
  | ((with_reducible refine r_ne ?ee ?_); (case ee => exact rfl))
  | ((with_reducible refine r_ixL (v := ?vv) (xs := ?xx) ?hh ?ee ?_); (case hh => (refine SqL.of ?_; walk_at "hp")); (case ee => exact rfl))
  | (with_reducible refine r_cb ?_)
  | (with_reducible refine r_call ?_)
  | (with_reducible refine r_cons ?_)
  | (with_reducible refine r_nil ?_)
  | (with_reducible refine r_lst ?_)
  | (with_reducible refine r_tup ?_)
  | ((with_reducible refine r_new ?cc ?_); (case cc => walk_at "side"))
  | (with_reducible refine r_exbl ?_)
  | (with_reducible refine r_exint ?_)
  | (with_reducible refine r_exint2 ?_)
  | (with_reducible refine r_exblL ?_)
  | (with_reducible refine r_ex2 ?_)
  | (with_reducible refine r_test ?_)
  | (with_reducible refine r_tB ?_)
  | (with_reducible refine r_not ?_)
  | (with_reducible refine r_and ?_)
  | (with_reducible refine r_or ?_)
  | (with_reducible refine r_andV ?_)
  | (with_reducible refine r_orV ?_)
  | (with_reducible refine r_notV ?_)
  | (with_reducible refine r_tif ?_)
  | (with_reducible refine r_iteT ?_)
  | (with_reducible refine r_iteNT ?_)
  | (with_reducible refine r_iteNF ?_)
  | (with_reducible refine r_iteF ?_)
  | (with_reducible refine r_seq ?_)
  | (with_reducible refine r_next ?_)
  | (with_reducible refine r_brk ?_)
  | (with_reducible refine r_cont ?_)
  | (with_reducible refine r_asg ?_)
  | (with_reducible refine r_gname ?_)
  | (with_reducible refine r_ret ?_)
  | (with_reducible refine r_retN ?_)
  | (with_reducible refine r_drop ?_)
  | (with_reducible refine r_if ?_)
  | ((with_reducible refine r_aug (x := ?xx) ?ee ?_); (case ee => exact rfl))
  | (with_reducible refine r_ipI ?_)
  | (with_reducible refine r_augS ?_)
  | (with_reducible refine r_gsub ?_)
  | ((with_reducible refine r_setL (xs := ?xx) (m := ?mm) ?hh ?ee ?_); (case hh => walk_at "hp"); (case ee => exact rfl))
  | (with_reducible refine r_par ?_)
  | (with_reducible refine r_bm ?_)
  | ((with_reducible refine r_tyL (xs := ?xx) ?hh ?_); (case hh => walk_at "hp"))
  | ((with_reducible refine r_append (xs := ?xx) ?hh ?ll ?_); (case hh => walk_at "hp"); (case ll => walk_at "side"))
  | (walk_at "isi")
  | (with_reducible refine r_for ?_)
  | (with_reducible refine r_iList ?_)
  | (with_reducible refine r_iTup ?_)
  | (with_reducible refine r_iR1 ?_)
  | (with_reducible refine r_iR2 ?_)
  | (with_reducible refine r_lc ?_)
  | (with_reducible refine r_yes ?_)
  | ((with_reducible refine r_lenS ?ll ?_); (case ll => walk_at "side"))
  | (with_reducible refine r_leS ?_)
  | (with_reducible refine r_chain ?_)
  | (with_reducible refine r_tM1 ?_)
  | (with_reducible refine r_exS ?_)
  | ((with_reducible refine r_tupL (xs := ?xx) ?hh ?_); (case hh => walk_at "hp"))
  | ((with_reducible refine r_listL (xs := ?xx) ?hh ?_); (case hh => walk_at "hp"))
  | ((with_reducible refine r_listT (xs := ?xx) ?hh ?_); (case hh => walk_at "hp"))
  | ((with_reducible refine r_ixT (v := ?vv) (xs := ?xx) ?hh ?ee ?_); (case hh => (refine SqT.of ?_; walk_at "hp")); (case ee => exact rfl))
  | (with_reducible refine r_sl ?_)
  | (with_reducible refine r_nopart ?_)
  | (with_reducible refine r_part ?_)
  | (with_reducible refine r_exI ?_)
  | ((with_reducible refine r_slL (xs := ?xx) ?hh ?_); (case hh => first | assumption | (refine SqL.of ?_; walk_at "hp") | (refine Same.seq (by assumption) (by assumption))))
  | ((with_reducible refine r_cat (xs := ?xx) (zs := ?zz) ?hh ?ii ?ll ?_); (case hh => walk_at "hp"); (case ii => walk_at "hp"); (case ll => walk_at "side"))
  | ((with_reducible refine r_lenL (xs := ?xx) ?hh ?_); (case hh => walk_at "hp"))
  | ((with_reducible refine r_lenT (xs := ?xx) ?hh ?_); (case hh => walk_at "hp"))
  | ((with_reducible refine r_gTup (xs := ?xx) ?hh ?ll ?_); (case hh => walk_at "hp"); (case ll => exact rfl))
  | (with_reducible refine r_gCons ?_)
  | (with_reducible refine r_gNil ?_)
  | ((with_reducible refine r_iteDT ?cc ?_); (case cc => walk_at "cond"))
  | ((with_reducible refine r_iteDF ?cc ?_); (case cc => walk_at "cond"))
  | ((with_reducible refine r_iteNDT ?cc ?_); (case cc => walk_at "cond"))
  | ((with_reducible refine r_iteNDF ?cc ?_); (case cc => walk_at "cond"))
  ))
local macro_rules | `(tactic| walk_at "go") => `(tactic| repeat (walk_at "s"))

local macro_rules | `(tactic| walk_at "s") => `(tactic| (first
  | (with_reducible refine r_dnew ?_)
  | (with_reducible refine r_dget2 ?_)
  | (with_reducible refine r_dget ?_)
  | (with_reducible refine r_dput ?_)
  | (with_reducible refine r_dsetd ?_)
  | ((with_reducible refine JarAt.isD (n := ?nn) (c := ?cc) ?hh ?_); (case hh => assumption))
  ))

local macro_rules | `(tactic| walk_at "s") => `(tactic| (first
  | (with_reducible refine r_prop ?_)
  | (with_reducible refine r_meth ?_)
  | (with_reducible refine r_make ?_)
  | (with_reducible refine r_fld ?_)
  | (with_reducible refine r_sfld ?_)
  | (with_reducible refine r_iOwn ?_)
  | ((with_reducible refine u_rowsAt (mg := ?mm) (C := ?CC) (dx := ?dd) (fv := ?vv) ?tt ?hh ?_); (case tt => assumption); (case hh => walk_at "hp"))
  | ((with_reducible refine r_isPoly (mg := ?mm) (dx := ?dd) (fs := ?ff) ?tt ?hh ?_); (case tt => assumption); (case hh => walk_at "hp"))
  | ((with_reducible refine r_isPolyI (mg := ?mm) ?tt ?_); (case tt => assumption))
  | ((with_reducible refine r_polyInt (mg := ?mm) (C := ?CC) (dx := ?dd) (fs := ?ff) ?tt ?hh ?_); (case tt => assumption); (case hh => walk_at "hp"))
  ))

local macro_rules | `(tactic| walk_at "s") => `(tactic| (first
  | (with_reducible refine r_iKeys ?_)
  | (with_reducible refine rl_disp ?_)
  | (with_reducible refine rl_pc ?_)
  | (with_reducible refine rl_pn ?_)
  ))
end
end My

set_option Elab.async false
set_option linter.all false
set_option maxRecDepth 100000
set_option maxHeartbeats 4000000

namespace My
open PySem PySem.Spec PyProof.Rows L2
section
variable {P : Program} {w : World} {K : PySem.W.Frag} {mg : Str → Option Value} {base : Heap}
local macro_rules | `(tactic| walk_at "isi") => `(tactic| (first
  | (with_reducible refine r_is_int_int ?_)
  | (with_reducible refine r_is_int_bool ?_)
  | (with_reducible refine r_is_int_str ?_)
  | (with_reducible refine r_is_int_list ?_)
  | (with_reducible refine r_is_int_tuple ?_)
  | (with_reducible refine r_is_bool_int ?_)
  | (with_reducible refine r_is_bool_bool ?_)
  | (with_reducible refine r_is_bool_str ?_)
  | (with_reducible refine r_is_bool_list ?_)
  | (with_reducible refine r_is_bool_tuple ?_)
  | (with_reducible refine r_is_str_int ?_)
  | (with_reducible refine r_is_str_bool ?_)
  | (with_reducible refine r_is_str_str ?_)
  | (with_reducible refine r_is_str_list ?_)
  | (with_reducible refine r_is_str_tuple ?_)
  | ((with_reducible refine r_is_list_int (xs := ?xx) ?hh ?_); (case hh => walk_at "hp"))
  | ((with_reducible refine r_is_list_bool (xs := ?xx) ?hh ?_); (case hh => walk_at "hp"))
  | ((with_reducible refine r_is_list_str (xs := ?xx) ?hh ?_); (case hh => walk_at "hp"))
  | ((with_reducible refine r_is_list_list (xs := ?xx) ?hh ?_); (case hh => walk_at "hp"))
  | ((with_reducible refine r_is_list_tuple (xs := ?xx) ?hh ?_); (case hh => walk_at "hp"))
  | ((with_reducible refine r_is_tuple_int (xs := ?xx) ?hh ?_); (case hh => walk_at "hp"))
  | ((with_reducible refine r_is_tuple_bool (xs := ?xx) ?hh ?_); (case hh => walk_at "hp"))
  | ((with_reducible refine r_is_tuple_str (xs := ?xx) ?hh ?_); (case hh => walk_at "hp"))
  | ((with_reducible refine r_is_tuple_list (xs := ?xx) ?hh ?_); (case hh => walk_at "hp"))
  | ((with_reducible refine r_is_tuple_tuple (xs := ?xx) ?hh ?_); (case hh => walk_at "hp"))
  | (with_reducible refine r_is_NoneType_int ?_)
  | (with_reducible refine r_is_NoneType_bool ?_)
  | (with_reducible refine r_is_NoneType_str ?_)
  | (with_reducible refine r_is_NoneType_list ?_)
  | (with_reducible refine r_is_NoneType_tuple ?_)))
local macro_rules | `(tactic| walk_at "ne") => `(tactic| first | assumption | (refine Ne.symm ?_; assumption) | exact Bag.ne (by assumption) (by assumption) | exact ne_of_none (by assumption) (by assumption))
local macro_rules | `(tactic| walk_at "hp") => `(tactic| (first
  | assumption
  | exact upd_same
  | (refine h_keep ?_ (by assumption); walk_at "hp")
  | (refine (upd_ne (by walk_at "ne")).trans ?_; walk_at "hp")
  | (refine Same.at (by assumption) ?_; walk_at "hp")
  | (refine But.at (by assumption) (by walk_at "ne") ?_; walk_at "hp")
  | (refine But2.at (by assumption) (by walk_at "ne") (by walk_at "ne") ?_; walk_at "hp")))
local macro_rules | `(tactic| walk_at "side") => `(tactic| first | assumption | omega | (refine ⟨?_, ?_⟩ <;> first | assumption | omega | decide) | decide | (refine ⟨by decide, by decide, by decide⟩) | (left; refine ⟨?_, ?_⟩ <;> first | omega | decide) | (right; refine ⟨?_, ?_⟩ <;> first | omega | decide) | (simp; done))
local macro_rules | `(tactic| walk_at "cond") => `(tactic| first | assumption | exact rfl | omega | (simp only [List.length_cons, List.length_nil]; omega) | decide +kernel)
local macro_rules | `(tactic| walk_at "s") => `(tactic| (first
  | ((with_reducible refine r_var (v := ?vv) ?ee ?_); (case ee => exact rfl))
  | (with_reducible refine r_c ?_)
  | (with_reducible refine r_op ?_)
  | (with_reducible refine r_un ?_)
  | (with_reducible refine r_rI0 ?_)
  | ((with_reducible refine r_rI ?cc ?_); (case cc => walk_at "side"))
  | (with_reducible refine r_rU ?_)
  | (with_reducible refine r_eqI ?_)
  | (with_reducible refine r_neI ?_)
  | (with_reducible refine r_eqB ?_)
  | (with_reducible refine r_neB ?_)
  | (with_reducible refine r_eqS ?_)
  | (with_reducible refine r_neS ?_)
  | ((with_reducible refine r_eq ?ee ?_); (case ee => exact rfl))
  | ((with_reducible refine r_ne ?ee ?_); (case ee => exact rfl))
  | ((with_reducible refine r_ixL (v := ?vv) (xs := ?xx) ?hh ?ee ?_); (case hh => (refine SqL.of ?_; walk_at "hp")); (case ee => exact rfl))
  | (with_reducible refine r_cb ?_)
  | (with_reducible refine r_call ?_)
  | (with_reducible refine r_cons ?_)
  | (with_reducible refine r_nil ?_)
  | (with_reducible refine r_lst ?_)
  | (with_reducible refine r_tup ?_)
  | ((with_reducible refine r_new ?cc ?_); (case cc => walk_at "side"))
  | (with_reducible refine r_exbl ?_)
  | (with_reducible refine r_exint ?_)
  | (with_reducible refine r_exint2 ?_)
  | (with_reducible refine r_exblL ?_)
  | (with_reducible refine r_ex2 ?_)
  | (with_reducible refine r_test ?_)
  | (with_reducible refine r_tB ?_)
  | (with_reducible refine r_not ?_)
  | (with_reducible refine r_and ?_)
  | (with_reducible refine r_or ?_)
  | (with_reducible refine r_andV ?_)
  | (with_reducible refine r_orV ?_)
  | (with_reducible refine r_notV ?_)
  | (with_reducible refine r_tif ?_)
  | (with_reducible refine r_iteT ?_)
  | (with_reducible refine r_iteNT ?_)
  | (with_reducible refine r_iteNF ?_)
  | (with_reducible refine r_iteF ?_)
  | (with_reducible refine r_seq ?_)
  | (with_reducible refine r_next ?_)
  | (with_reducible refine r_brk ?_)
  | (with_reducible refine r_cont ?_)
  | (with_reducible refine r_asg ?_)
  | (with_reducible refine r_gname ?_)
  | (with_reducible refine r_ret ?_)
  | (with_reducible refine r_retN ?_)
  | (with_reducible refine r_drop ?_)
  | (with_reducible refine r_if ?_)
  | ((with_reducible refine r_aug (x := ?xx) ?ee ?_); (case ee => exact rfl))
  | (with_reducible refine r_ipI ?_)
  | (with_reducible refine r_augS ?_)
  | (with_reducible refine r_gsub ?_)
  | ((with_reducible refine r_setL (xs := ?xx) (m := ?mm) ?hh ?ee ?_); (case hh => walk_at "hp"); (case ee => exact rfl))
  | (with_reducible refine r_par ?_)
  | (with_reducible refine r_bm ?_)
  | ((with_reducible refine r_tyL (xs := ?xx) ?hh ?_); (case hh => walk_at "hp"))
  | ((with_reducible refine r_append (xs := ?xx) ?hh ?ll ?_); (case hh => walk_at "hp"); (case ll => walk_at "side"))
  | (walk_at "isi")
  | (with_reducible refine r_for ?_)
  | (with_reducible refine r_iList ?_)
  | (with_reducible refine r_iTup ?_)
  | (with_reducible refine r_iR1 ?_)
  | (with_reducible refine r_iR2 ?_)
  | (with_reducible refine r_lc ?_)
  | (with_reducible refine r_yes ?_)
  | ((with_reducible refine r_lenS ?ll ?_); (case ll => walk_at "side"))
  | (with_reducible refine r_leS ?_)
  | (with_reducible refine r_chain ?_)
  | (with_reducible refine r_tM1 ?_)
  | (with_reducible refine r_exS ?_)
  | ((with_reducible refine r_tupL (xs := ?xx) ?hh ?_); (case hh => walk_at "hp"))
  | ((with_reducible refine r_listL (xs := ?xx) ?hh ?_); (case hh => walk_at "hp"))
  | ((with_reducible refine r_listT (xs := ?xx) ?hh ?_); (case hh => walk_at "hp"))
  | ((with_reducible refine r_ixT (v := ?vv) (xs := ?xx) ?hh ?ee ?_); (case hh => (refine SqT.of ?_; walk_at "hp")); (case ee => exact rfl))
  | (with_reducible refine r_sl ?_)
  | (with_reducible refine r_nopart ?_)
  | (with_reducible refine r_part ?_)
  | (with_reducible refine r_exI ?_)
  | ((with_reducible refine r_slL (xs := ?xx) ?hh ?_); (case hh => first | assumption | (refine SqL.of ?_; walk_at "hp") | (refine Same.seq (by assumption) (by assumption))))
  | ((with_reducible refine r_cat (xs := ?xx) (zs := ?zz) ?hh ?ii ?ll ?_); (case hh => walk_at "hp"); (case ii => walk_at "hp"); (case ll => walk_at "side"))
  | ((with_reducible refine r_lenL (xs := ?xx) ?hh ?_); (case hh => walk_at "hp"))
  | ((with_reducible refine r_lenT (xs := ?xx) ?hh ?_); (case hh => walk_at "hp"))
  | ((with_reducible refine r_gTup (xs := ?xx) ?hh ?ll ?_); (case hh => walk_at "hp"); (case ll => exact rfl))
  | (with_reducible refine r_gCons ?_)
  | (with_reducible refine r_gNil ?_)
  | ((with_reducible refine r_iteDT ?cc ?_); (case cc => walk_at "cond"))
  | ((with_reducible refine r_iteDF ?cc ?_); (case cc => walk_at "cond"))
  | ((with_reducible refine r_iteNDT ?cc ?_); (case cc => walk_at "cond"))
  | ((with_reducible refine r_iteNDF ?cc ?_); (case cc => walk_at "cond"))
  ))
local macro_rules | `(tactic| walk_at "go") => `(tactic| repeat (walk_at "s"))

def spUnLt : Nat → Sp
  | 0 => fun _ _ _ _ => False
  | d + 1 => fun vs H Q _ => ∃ (a : Addr) (p : Prog) (s : Int), vs = [.ref a, .int s] ∧ (s = 1 ∨ s = -1) ∧ PrIs H a p ∧ Wf BC BC d p ∧ p.size ≤ 4000000 ∧
    ∀ l xs H', H l = none → Same H H' → H' l = some (.lst xs) → PrAt H' (Prog.unroll s p) xs → Q (.ref l) H'
theorem ok_l_unroll {f : Addr} {fd : FuncData} (d : Nat) (F : Fun K "_law_unroll" "_law_unroll" s_l_unroll f fd) (B : Bl mg) (h_l_unroll : Has P w K mg base "_law_unroll" d ["_law_piece_here", "_law_sign"] (spUnLt d)) : FnOk P w K mg base CX0 (d + 1) f fd ["_law_piece_here", "_law_sign"] (spUnLt (d + 1)) := by
  refine F.ok sc_l_unroll (fun vs H Q E h => ?_) (fun cdv A outer s H vs Q E hr h => ?_)
  · obtain ⟨a, p, s, rfl, _⟩ := h
    rfl
  · obtain ⟨a, p, sg, rfl, hsg, ⟨xs, hx, hp⟩, hw, hsz, k⟩ := h
    refine ⟨_, (pss_cons (ps_set (i := 2) sc_l_unroll.nd rfl (.inl rfl) (pe_lst pa_nil))
    (pss_cons (ps_for PassesOwn.never rfl (pi_tup (pv 0)) (pg_name (i := 3) sc_l_unroll.nd rfl (.inl rfl))
    (pss_one (ps_if (pt_cmpR op_eq (pe_ix (ix_tupK (K := K)) (pv 3) pe_int (fun _ _ => rfl)) pe_str (nomark _))
    (pss_cons (ps_set (i := 4) sc_l_unroll.nd rfl (.inl rfl) (pe_callH h_l_unroll (hr.mono (by first | decide | omega)) (pa_cons (pe_ix (ix_tupK (K := K)) (pv 3) pe_int (fun _ _ => rfl)) (pa_cons (pv 1) pa_nil))))
    (pss_one (ps_for PassesOwn.never rfl (pi_range1 (by rfl) B.b_range (pa_cons (pe_ix (ix_tupK (K := K)) (pv 3) pe_int (fun _ _ => rfl)) pa_nil)) (pg_name (i := 5) sc_l_unroll.nd rfl (.inl rfl))
    (pss_one (ps_expr (pe_bm PySem.F.plainAttrs_list PySem.F.slot_list_extend PySem.F.type_list_extend mt_extend (pv 2) (pa_cons (pv 4) pa_nil)))))))
    (pss_one (ps_if (pt_cmpR op_eq (pe_ix (ix_tupK (K := K)) (pv 3) pe_int (fun _ _ => rfl)) pe_str (nomark _))
    (pss_one (ps_expr (pe_bm PySem.F.plainAttrs_list PySem.F.slot_list_extend PySem.F.type_list_extend mt_extend (pv 2) (pa_cons (pe_callH h_l_unroll (hr.mono (by first | decide | omega)) (pa_cons (pe_ix (ix_tupK (K := K)) (pv 3) pe_int (fun _ _ => rfl)) (pa_cons (pe_un un_neg (pv 1)) pa_nil))) pa_nil))))
    (pss_one (ps_if (pt_cmpR op_eq (pe_ix (ix_tupK (K := K)) (pv 3) pe_int (fun _ _ => rfl)) pe_str (nomark _))
    (pss_one (ps_expr (pe_bm PySem.F.plainAttrs_list PySem.F.slot_list_append PySem.F.type_list_append mt_append (pv 2) (pa_cons (pe_tup (pa_cons pe_str (pa_cons (pe_op op_mul (pv 1) (pe_ix (ix_tupK (K := K)) (pv 3) pe_int (fun _ _ => rfl))) pa_nil))) pa_nil))))
    (pss_one (ps_expr (pe_bm PySem.F.plainAttrs_list PySem.F.slot_list_append PySem.F.type_list_append mt_append (pv 2) (pa_cons (pv 3) pa_nil)))))))))))
    (pss_one (ps_ret (pv 2))))), ?_⟩
    walk_at "go"
    intro m nm
    walk_at "go"
    have hx0 : upd H m (.lst []) a = some (.tup xs) := h_keep hx nm
    have t0 : Tk H (upd H m (.lst [])) := (Tk.refl H).new nm
    refine u_forPr hx0 (hp.tk t0) (fun r σ H' => ∃ (u : Prog) (ys : List V) (y3 y4 y5 : Option V), σ = [some (.ref a), some (.int sg), some (.ref m), y3, y4, y5] ∧ Wf BC BC d r ∧ u.app (Prog.unroll sg r) = Prog.unroll sg p ∧ (u.len : Int) + r.size = p.size ∧ Same H H' ∧ Tk (upd H m (.lst [])) H' ∧ H' m = some (.lst ys) ∧ PrAt H' u ys) ?_ ?_ ?_ ?_
    · exact ⟨.nil, [], none, none, none, rfl, hw, rfl, by rw [Prog.len]; omega, Same.new0 nm, Tk.refl _, upd_same, rfl⟩
    · rintro r σ H' ⟨u, ys, y3, y4, y5, rfl, _, _, _, _, t, _⟩
      exact t
    · rintro x r r' σ H' hf ⟨u, ys, y3, y4, y5, rfl, hw', eu, es, sm, tk, hm, hu⟩
      have yl : ys.length = u.len := hu.length
      cases r with
      | nil => exact hf.elim
      | step w' n r =>
        obtain ⟨c, rfl, h1, rfl⟩ := hf
        obtain ⟨w1, w2, w3⟩ := WfL.step_iff.mp hw'
        obtain ⟨n1, n2, n3⟩ := word_ne w1
        rw [Prog.size] at es
        have r0 := Prog.size_nonneg w3
        walk_at "go"
        refine r_appendB hm (by omega) ?_
        have t1 : Tk H' (upd H' m (.lst (ys ++ [.ref c]))) := (Tk.refl _).lst hm
        refine ⟨u.app (.step w' n .nil), _, _, _, _, rfl, w3, ?_, ?_, Same.put sm nm, tk.trans t1, upd_same, (hu.tk t1).app ⟨c, [], rfl, t1 _ _ h1, rfl⟩⟩
        · rw [← eu, Prog.app_assoc, Prog.unroll]; rfl
        · rw [Prog.len_app]; show ((u.len + 1 : Nat) : Int) + _ = _; omega
      | turn k' r =>
        obtain ⟨c, rfl, h1, rfl⟩ := hf
        obtain ⟨w1, w3⟩ := WfL.turn_iff.mp hw'
        rw [Prog.size] at es
        have r0 := Prog.size_nonneg w3
        have msg : CMul sg k' := .inl ⟨by omega, by omega⟩
        walk_at "go"
        intro c2 nc2
        walk_at "go"
        refine r_appendB (h_keep hm nc2) (by omega) ?_
        have ncm : c2 ≠ m := (ne_of_none hm nc2).symm
        have t1 : Tk H' (upd (upd H' c2 (.tup [.str "turn", .int (sg * k')])) m (.lst (ys ++ [.ref c2]))) := ((Tk.refl _).new nc2).lst (h_keep hm nc2)
        refine ⟨u.app (.turn (sg * k') .nil), _, _, _, _, rfl, w3, ?_, ?_, Same.put (Same.new sm nc2) nm, tk.trans t1, upd_same, (hu.tk t1).app ⟨c2, [], rfl, (upd_ne ncm).trans upd_same, rfl⟩⟩
        · rw [← eu, Prog.app_assoc, Prog.unroll]; rfl
        · rw [Prog.len_app]; show ((u.len + 1 : Nat) : Int) + _ = _; omega
      | rep k' b r =>
        obtain ⟨c, q, rfl, h1, h2, rfl⟩ := hf
        cases d with
        | zero => exact hw'.elim
        | succ d =>
          obtain ⟨w1, w2, w3, w4⟩ := hw'
          rw [Prog.size] at es
          have r0 := Prog.size_nonneg w4
          have b0 := Prog.size_nonneg w3
          have b1 : 1 * b.size ≤ k' * b.size := Int.mul_le_mul_of_nonneg_right w1.1 b0
          have bl := Prog.len_le_size w3
          have kk : k' * 1 ≤ k' * b.size := Int.mul_le_mul_of_nonneg_left (by omega) (by omega)
          walk_at "go"
          refine ⟨q, b, sg, rfl, hsg, h2, w3, by omega, fun l zs H2 nl s2 hl hz => ?_⟩
          have zl : zs.length = (Prog.unroll sg b).len := hz.length
          have ul := Prog.len_unroll sg w3
          have nlm : l ≠ m := (ne_of_none hm nl).symm
          walk_at "go"
          refine u_for1 ?_ (fun i σ H3 => ∃ (u3 : Prog) (y5 : Option V) (vs : List V), σ = [some (.ref a), some (.int sg), some (.ref m), some (.ref c), some (.ref l), y5] ∧ u3 = u.app (Prog.times i (Prog.unroll sg b)) ∧ Same H H3 ∧ Tk H2 H3 ∧ H3 l = some (.lst zs) ∧ H3 m = some (.lst vs) ∧ PrAt H3 u3 vs) ?_ ?_ ?_
          · omega
          · exact ⟨u, _, ys, rfl, by rw [Prog.times, Prog.app_nil], sm.trans s2, Tk.refl _, hl, s2 _ _ hm, hu.tk (Tk.same s2)⟩
          · rintro i σ H3 hi ⟨u3, y5, vs, rfl, e3, s3, t3, hl3, hm3, hu3⟩
            have vl : vs.length = u3.len := hu3.length
            have i1 : (i : Int) * b.size ≤ k' * b.size := Int.mul_le_mul_of_nonneg_right (by omega) b0
            have ib : ((i * (Prog.unroll sg b).len : Nat) : Int) = (i : Int) * b.size := by rw [Int.natCast_mul, ul]
            rw [e3, Prog.len_app, Prog.len_times] at vl
            walk_at "go"
            refine r_extend hm3 hl3 (by omega) ?_
            have t4 : Tk H3 (upd H3 m (.lst (vs ++ zs))) := (Tk.refl _).lst hm3
            refine ⟨u.app (Prog.times (i + 1) (Prog.unroll sg b)), _, _, rfl, rfl, Same.put s3 nm, t3.trans t4, (upd_ne nlm).trans hl3, upd_same, ?_⟩
            have hz4 := hz.tk (t3.trans t4)
            have := (hu3.tk t4).app hz4
            rw [e3, Prog.app_assoc] at this
            rw [show Prog.times (i + 1) (Prog.unroll sg b) = (Prog.times i (Prog.unroll sg b)).app (Prog.unroll sg b) from Prog.times_succ _ _]
            exact this
          · rintro σ H3 ⟨u3, y5, vs, rfl, e3, s3, t3, hl3, hm3, hu3⟩
            refine ⟨u3, vs, _, _, _, rfl, w4, ?_, ?_, s3, tk.trans ((Tk.same s2).trans t3), hm3, hu3⟩
            · rw [e3, ← eu, Prog.app_assoc, Prog.unroll]
            · rw [e3, Prog.len_app, Prog.len_times, Int.natCast_add, Int.natCast_mul, ul, Int.toNat_of_nonneg (by omega)]
              omega
      | mir b r =>
        obtain ⟨c, q, rfl, h1, h2, rfl⟩ := hf
        cases d with
        | zero => exact hw'.elim
        | succ d =>
          obtain ⟨w2, w3, w4⟩ := hw'
          rw [Prog.size] at es
          have r0 := Prog.size_nonneg w4
          have b0 := Prog.size_nonneg w3
          walk_at "go"
          refine ⟨q, b, -sg, rfl, by omega, h2, w3, by omega, fun l zs H2 nl s2 hl hz => ?_⟩
          have zl : zs.length = (Prog.unroll (-sg) b).len := hz.length
          have ul := Prog.len_unroll (-sg) w3
          have hm2 := s2 _ _ hm
          walk_at "go"
          refine r_extend hm2 hl (by omega) ?_
          have t4 : Tk H2 (upd H2 m (.lst (ys ++ zs))) := (Tk.refl _).lst hm2
          refine ⟨u.app (Prog.unroll (-sg) b), _, _, _, _, rfl, w4, ?_, ?_, Same.put (sm.trans s2) nm, tk.trans ((Tk.same s2).trans t4), upd_same, (hu.tk ((Tk.same s2).trans t4)).app (hz.tk t4)⟩
          · rw [← eu, Prog.app_assoc, Prog.unroll]
          · rw [Prog.len_app]; omega
    · rintro σ H' ⟨u, ys, y3, y4, y5, rfl, hw', eu, es, sm, tk, hm, hu⟩
      rw [Prog.unroll, Prog.app_nil] at eu
      subst eu
      walk_at "go"
      exact k m ys _ nm sm hm hu
theorem has_unroll {f : Addr} {fd : FuncData} (F : Fun K "_law_unroll" "_law_unroll" s_l_unroll f fd) (B : Bl mg) (g : mg "_law_unroll" = some (.ref f)) (b : Binds K fd ["_law_piece_here", "_law_sign"] []) : ∀ d, Has P w K mg base "_law_unroll" d ["_law_piece_here", "_law_sign"] (spUnLt d)
  | 0 => has_false g F.kp b
  | d + 1 => ⟨f, fd, ok_l_unroll d F B (has_unroll F B g b d), g, F.kp, b⟩
def spTame : Sp := fun vs H Q _ => ∃ (a : Addr) (z : Str), vs = [.ref a, .str z] ∧ Bag H a ∧ Names z ∧
  ∀ q p H', But a H H' → Bag H' a → Tk H H' → PrIs H' q p → WfL 5 3 12 6 p → 1 ≤ p.len → p.len ≤ 60 → p.size ≤ 60 → Q (.ref q) H'
theorem ok_l_tame {f : Addr} {fd : FuncData} (F : Fun K "_law_tame" "_law_tame" s_l_tame f fd) (B : Bl mg) (h_l_pick : Has P w K mg base "_law_pick" 1 ["_law_bag", "_law_many"] spPick) (h_l_piece : Has P w K mg base "_law_piece" 9 ["_law_bag", "_law_pot", "_law_deep", "_law_free", "_law_wild_here"] spPiece)
   (h_l_bulk : Has P w K mg base "_law_bulk" 13 ["_law_piece_here"] (spNumLt Prog.size 13)) (h_l_unroll : Has P w K mg base "_law_unroll" 13 ["_law_piece_here", "_law_sign"] (spUnLt 13)) :
   FnOk P w K mg base CX0 14 f fd ["_law_bag", "_law_names_here"] spTame := by
  refine F.ok sc_l_tame (fun vs H Q E h => ?_) (fun cdv A outer s H vs Q E hr h => ?_)
  · obtain ⟨a, z, rfl, _⟩ := h
    rfl
  · obtain ⟨a, z, rfl, ba, hz, k⟩ := h
    refine ⟨_, (pss_cons (ps_set (i := 2) sc_l_tame.nd rfl (.inl rfl) (pe_lst (pa_cons (pe_ix (ix_listK (K := K)) (pe_lst (pa_cons pe_int (pa_cons pe_int (pa_cons pe_int pa_nil)))) (pe_callH h_l_pick (hr.mono (by first | decide | omega)) (pa_cons (pv 0) (pa_cons pe_int pa_nil))) (fun _ _ => rfl)) (pa_cons (pv 1) pa_nil))))
    (pss_cons (ps_set (i := 3) sc_l_tame.nd rfl (.inl rfl) (pe_callH h_l_piece (hr.mono (by first | decide | omega)) (pa_cons (pv 0) (pa_cons (pv 2) (pa_cons (pe_ix (ix_listK (K := K)) (pe_lst (pa_cons pe_int (pa_cons pe_int (pa_cons pe_int pa_nil)))) (pe_callH h_l_pick (hr.mono (by first | decide | omega)) (pa_cons (pv 0) (pa_cons pe_int pa_nil))) (fun _ _ => rfl)) (pa_cons pe_int (pa_cons pe_bl pa_nil)))))))
    (pss_cons (ps_if (pt_cmpR op_gt (pe_callH h_l_bulk (hr.mono (by first | decide | omega)) (pa_cons (pv 3) pa_nil)) pe_int (nomark _))
    (pss_one (ps_ret (pe_callTy call_tupL (by rfl) B.b_tuple (by decide +kernel) (pa_cons (pe_slice sl_list (pe_callH h_l_unroll (hr.mono (by first | decide | omega)) (pa_cons (pv 3) (pa_cons pe_int pa_nil))) po_none (po_some pe_int)) pa_nil))))
    pss_nil)
    (pss_one (ps_ret (pv 3)))))), ?_⟩
    walk_at "go"
    intro c nc
    have nca : c ≠ a := ba.ne nc
    walk_at "go"
    refine u_pick (ba.keep nc) (by omega) (by omega) fun r H1 r0 r1 bu1 b1 => ?_
    have hc1 : H1 c = some (.lst [.int 7, .int 12, .int 24]) := bu1 _ _ nca upd_same
    obtain ⟨v, hv⟩ : ∃ v, atI [V.int 7, V.int 12, V.int 24] r = some (.int v) := by
      rcases (by omega : r = 0 ∨ r = 1 ∨ r = 2) with rfl | rfl | rfl <;> exact ⟨_, rfl⟩
    refine r_ixL (SqL.of hc1) hv ?_
    walk_at "go"
    intro o no
    have noa : o ≠ a := b1.ne no
    have bo : Bag (upd H1 o (.lst [.int v, .str z])) a := b1.keep no
    have ho : upd H1 o (.lst [.int v, .str z]) o = some (.lst [.int v, .str z]) := upd_same
    have buo : But a H (upd H1 o (.lst [.int v, .str z])) := (((But.refl a H).new nc).trans bu1).new no
    have tko : Tk H (upd H1 o (.lst [.int v, .str z])) := (((Tk.refl H).new nc).trans (Tk.but bu1 (ba.keep nc))).new no
    have fo : H o = none := But.free (((But.refl a H).new nc).trans bu1) noa no
    change gName _ _ _ (upd H1 o (.lst [.int v, .str z])) _
    generalize upd H1 o (.lst [.int v, .str z]) = H2 at *
    walk_at "go"
    intro e ne
    have nea : e ≠ a := bo.ne ne
    have neo : e ≠ o := (ne_of_none ho ne).symm
    walk_at "go"
    refine u_pick (bo.keep ne) (by omega) (by omega) fun r2 H3 p0 p1 bu3 b3 => ?_
    have he3 : H3 e = some (.lst [.int 0, .int 2, .int 5]) := bu3 _ _ nea upd_same
    have ho3 : H3 o = _ := bu3 _ _ noa (h_keep ho ne)
    obtain ⟨dd, hd, hd5⟩ : ∃ dd : Nat, atI [V.int 0, V.int 2, V.int 5] r2 = some (.int (dd : Int)) ∧ dd ≤ 5 := by
      rcases (by omega : r2 = 0 ∨ r2 = 1 ∨ r2 = 2) with rfl | rfl | rfl
      · exact ⟨0, rfl, by omega⟩
      · exact ⟨2, rfl, by omega⟩
      · exact ⟨5, rfl, by omega⟩
    refine r_ixL (SqL.of he3) hd ?_
    walk_at "go"
    refine ⟨dd, hd5, a, o, _, z, 0, false, rfl, b3, ho3, hz, fun q p H4 nq bu4 b4 po4 tk4 hq w5 q1 q5 q6 => ?_⟩
    have bu34 : But a H H4 := fun x u xa ex => bu4 x u xa (ne_of_none ex fo) (bu3 x u xa (h_keep (buo x u xa ex) ne))
    have tk34 : Tk H H4 := tko.trans (((Tk.refl _).new ne).trans ((Tk.but bu3 (bo.keep ne)).trans tk4))
    have w6 : WfL 5 3 12 6 p := WfL.mono (by decide +kernel) (by decide +kernel) (by omega) w5
    have w12 : Wf BC BC 12 p := WfL.wide (by decide) (WfL.mono (C' := BC) (T' := BC) (by decide +kernel) (by decide +kernel) (by omega) w6)
    have sz : p.size ≤ 4000000 := by
      have h1 := szp q5 q6
      have h2 : (5 * CB false) ^ dd ≤ (5 * CB false) ^ 5 := ipow_mono (by decide) hd5
      have h3 : (5 : Int) * (5 * CB false) ^ 5 ≤ 4000000 := by decide +kernel
      omega
    walk_at "go"
    refine ⟨q, p, rfl, hq, w12, by omega, by decide, ?_⟩
    walk_at "go"
    refine r_iteD (fun h6 => ?_) (fun h6 => ?_)
    · walk_at "go"
      refine ⟨q, p, 1, rfl, .inl rfl, hq, w12, sz, fun l xs H5 nl s5 hl hx => ?_⟩
      walk_at "go"
      intro x nx
      walk_at "go"
      intro y ny
      have lu := Prog.len_unroll 1 w12
      have t5 : Tk H4 (upd (upd H5 x (.lst (cutV xs none (some 20)))) y (.tup (cutV xs none (some 20)))) := ((Tk.same s5).new nx).new ny
      have t6 : Tk H5 (upd (upd H5 x (.lst (cutV xs none (some 20)))) y (.tup (cutV xs none (some 20)))) := ((Tk.refl _).new nx).new ny
      have hcut : cutV xs none (some 20) = xs.take 20 := cut_take xs 20
      have pt : PrAt (upd (upd H5 x (.lst (cutV xs none (some 20)))) y (.tup (cutV xs none (some 20)))) ((Prog.unroll 1 p).take 20) (cutV xs none (some 20)) := by
        have h := (hx.tk t6).take (n := 20)
        rw [← hcut] at h
        exact h
      have lt := Prog.len_take 20 (Prog.unroll 1 p)
      have wt : WfL 5 3 12 0 ((Prog.unroll 1 p).take 20) := Prog.wf_take (Prog.wf_unroll (.inl rfl) w6)
      have st : ((Prog.unroll 1 p).take 20).size = ((Prog.unroll 1 p).take 20).len := Prog.size_flat wt
      refine k y _ _ ((bu34.trans (Same.but s5 a)).new nx |>.new ny) ((b4.same s5).keep nx |>.keep ny) (tk34.trans t5) ⟨_, upd_same, pt⟩ (WfL.mono (Int.le_refl _) (Int.le_refl _) (by omega) wt) ?_ ?_ ?_
      · omega
      · omega
      · omega
    · walk_at "go"
      exact k q p _ bu34 b4 tk34 hq w6 q1 (by omega) (by omega)
def spRight : Sp := fun vs H Q _ => ∃ a p, vs = [.ref a] ∧ Good H a p ∧ ∀ H', Same H H' → Q (.bl true) H'
end
end My

set_option Elab.async false
set_option linter.all false
set_option maxRecDepth 100000
set_option maxHeartbeats 2000000
namespace My
open PySem PySem.Spec PyProof.Rows L2
/-! ### short programs: headings within bounds on the whole way -/
namespace Prog
theorem wayIn_app_iff {f : Int} : ∀ {p q : Prog} {h : Int}, wayIn f h (p.app q) ↔ wayIn f h p ∧ wayIn f (h + p.head) q
  | .nil, q, h => by rw [head, Int.add_zero]; exact ⟨fun k => ⟨trivial, k⟩, fun k => k.2⟩
  | .step w m r, q, h => by rw [head]; exact wayIn_app_iff (p := r)
  | .turn k r, q, h => by
    have := wayIn_app_iff (f := f) (p := r) (q := q) (h := h + k)
    rw [head, ← Int.add_assoc]
    exact ⟨fun x => ⟨⟨x.1, (this.mp x.2).1⟩, (this.mp x.2).2⟩, fun x => ⟨x.1.1, this.mpr ⟨x.1.2, x.2⟩⟩⟩
  | .rep k b r, q, h => ⟨fun x => x.elim, fun x => x.1.elim⟩
  | .mir b r, q, h => ⟨fun x => x.elim, fun x => x.1.elim⟩
theorem head_times (p : Prog) : ∀ n : Nat, (times n p).head = n * p.head
  | 0 => by rw [times, head]; simp
  | n + 1 => by
    rw [times, head_app, head_times p n, Int.natCast_succ, Int.add_mul, Int.one_mul]
    omega
theorem head_unroll {L : Nat} {C T : Int} {d : Nat} {p : Prog} {s : Int} (hs : s = 1 ∨ s = -1) (h : WfL L C T d p) : (unroll s p).head = s * p.head := by
  rw [head_flat (wf_unroll hs h), turns_unroll s h]
/-- turned about: each heading with the other sign -/
inductive Neg : Prog → Prog → Prop
  | nil : Neg .nil .nil
  | step {w n : Str} {p q : Prog} : Neg p q → Neg (.step w n p) (.step w n q)
  | turn {k : Int} {p q : Prog} : Neg p q → Neg (.turn k p) (.turn (-k) q)
theorem Neg.app {p q : Prog} (h : Neg p q) {r s : Prog} (h' : Neg r s) : Neg (p.app r) (q.app s) := by
  induction h with
  | nil => exact h'
  | step _ ih => exact .step ih
  | turn _ ih => exact .turn ih
theorem Neg.times {p q : Prog} (h : Neg p q) : ∀ n, Neg (Prog.times n p) (Prog.times n q)
  | 0 => .nil
  | n + 1 => h.app (h.times n)
theorem neg_unroll : ∀ (p : Prog) (s : Int), Neg (unroll s p) (unroll (-s) p)
  | .nil, _ => .nil
  | .step w n r, s => .step (neg_unroll r s)
  | .turn k r, s => by
    rw [unroll, unroll, Int.neg_mul]
    exact .turn (neg_unroll r s)
  | .rep k b r, s => ((neg_unroll b s).times _).app (neg_unroll r s)
  | .mir b r, s => (neg_unroll b (-s)).app (neg_unroll r s)
theorem Neg.way {f : Int} {p q : Prog} (h : Neg p q) : ∀ {k : Int}, wayIn f k p → wayIn f (-k) q := by
  induction h with
  | nil => exact fun _ => trivial
  | step _ ih => exact fun x => ih x
  | turn _ ih =>
    intro k x
    have := ih x.2
    rw [Int.neg_add] at this
    exact ⟨by have := x.1; omega, this⟩
theorem way_neg {f : Int} {p : Prog} {s k : Int} (h : wayIn f k (unroll s p)) : wayIn f (-k) (unroll (-s) p) := (neg_unroll p s).way h
theorem way_times {f : Int} {b : Prog} {h : Int} (w : wayIn f h b) (z : b.head = 0) : ∀ n, wayIn f h (times n b)
  | 0 => trivial
  | n + 1 => wayIn_app_iff.mpr ⟨w, by rw [z, Int.add_zero]; exact way_times w z n⟩
theorem wayOk_of : ∀ {p : Prog} {h : Int}, wayIn 12 h p → wayOk h p = true
  | .nil, _, _ => rfl
  | .step w n r, h, x => wayOk_of (p := r) x
  | .turn k r, h, x => by
    rw [wayOk, if_neg (by have := x.1; omega)]
    exact wayOk_of x.2
  | .rep _ _ _, _, _ => rfl
  | .mir _ _, _, _ => rfl
theorem short_of {p : Prog} (h : p.size ≤ 200) (w : wayIn 12 0 (unroll 1 p)) : p.short = true := by
  rw [short, if_neg (by omega)]
  exact wayOk_of w
theorem unroll_flat {L : Nat} {C T : Int} : ∀ {p : Prog}, WfL L C T 0 p → unroll 1 p = p
  | .nil, _ => rfl
  | .step w n r, h => by rw [unroll, unroll_flat (WfL.step_iff.mp h).2.2]
  | .turn k r, h => by rw [unroll, unroll_flat (WfL.turn_iff.mp h).2, Int.one_mul]
  | .rep _ _ _, h => h.elim
  | .mir _ _, h => h.elim
/-- steps alone -/
def onlySteps : Prog → Prop
  | .nil => True
  | .step _ _ r => onlySteps r
  | .turn _ _ => False
  | .rep _ _ _ => False
  | .mir _ _ => False
theorem onlySteps_app : ∀ {p q : Prog}, onlySteps p → onlySteps q → onlySteps (p.app q)
  | .nil, q, _, h => h
  | .step w n r, q, h, h' => onlySteps_app (p := r) h h'
theorem only_way {f : Int} : ∀ {p : Prog} {h : Int}, onlySteps p → wayIn f h p
  | .nil, _, _ => trivial
  | .step w n r, h, x => only_way (p := r) x
theorem only_head : ∀ {p : Prog}, onlySteps p → p.head = 0
  | .nil, _ => by rw [head]
  | .step w n r, x => by rw [head]; exact only_head (p := r) x
theorem only_unroll : ∀ {p : Prog} (s : Int), onlySteps p → unroll s p = p
  | .nil, _, _ => rfl
  | .step w n r, s, x => by rw [unroll, only_unroll (p := r) s x]
end Prog
/-- a slice of a tuple, the whole one too -/
theorem r_slAG {K : PySem.W.Frag} {p : Addr} {xs : List V} {lo hi : Option Int} {H : Hp} {Q : VK} (h : H p = some (.tup xs)) (q : ∀ c H', Same H H' → H' c = some (.tup (cutV xs lo hi)) → Q (.ref c) H') : rSlA K (.ref p) lo hi H Q := by
  refine r_slA (.of h) (fun e => q p H (Same.refl _) ?_) (fun _ c hc => q c _ (Same.new0 hc) upd_same)
  have e2 : cutV xs lo hi = xs := by
    unfold cutV
    rw [e.1, e.2]
    simp
  rw [e2]
  exact h
/-- a program cut at a place -/
theorem PrAt.cutAt {H : Hp} : ∀ {p : Prog} {xs : List V} (n : Nat), PrAt H p xs → ∃ q r, p = q.app r ∧ PrAt H q (xs.take n) ∧ PrAt H r (xs.drop n)
  | p, xs, 0, h => ⟨.nil, p, rfl, by simp; rfl, by simpa using h⟩
  | .nil, xs, n + 1, h => ⟨.nil, .nil, rfl, by rw [show xs = [] from h]; rfl, by rw [show xs = [] from h]; rfl⟩
  | .step w m r, _, n + 1, ⟨c, ys, e, hc, hr⟩ => by
    subst e
    obtain ⟨q, s, e, h1, h2⟩ := hr.cutAt n
    exact ⟨.step w m q, s, by rw [e]; rfl, ⟨c, _, rfl, hc, h1⟩, h2⟩
  | .turn k r, _, n + 1, ⟨c, ys, e, hc, hr⟩ => by
    subst e
    obtain ⟨q, s, e, h1, h2⟩ := hr.cutAt n
    exact ⟨.turn k q, s, by rw [e]; rfl, ⟨c, _, rfl, hc, h1⟩, h2⟩
  | .rep k b r, _, n + 1, ⟨c, q0, zs, ys, e, hc, hq, hb, hr⟩ => by
    subst e
    obtain ⟨q, s, e, h1, h2⟩ := hr.cutAt n
    exact ⟨.rep k b q, s, by rw [e]; rfl, ⟨c, q0, zs, _, rfl, hc, hq, hb, h1⟩, h2⟩
  | .mir b r, _, n + 1, ⟨c, q0, zs, ys, e, hc, hq, hb, hr⟩ => by
    subst e
    obtain ⟨q, s, e, h1, h2⟩ := hr.cutAt n
    exact ⟨.mir b q, s, by rw [e]; rfl, ⟨c, q0, zs, _, rfl, hc, hq, hb, h1⟩, h2⟩
end My
namespace My
open PySem PySem.Spec PyProof.Rows L2
theorem cut_mid {xs : List V} {a b : Int} (h0 : 0 ≤ a) (h1 : a ≤ b) (h2 : b ≤ xs.length) : cutV xs (some a) (some b) = (xs.drop a.toNat).take (b.toNat - a.toNat) := by
  obtain ⟨m, rfl⟩ := Int.eq_ofNat_of_zero_le h0
  obtain ⟨n, rfl⟩ := Int.eq_ofNat_of_zero_le (Int.le_trans h0 h1)
  unfold cutV
  rw [HT.sIx_nat, HT.sIx_nat, Nat.min_eq_left (by omega), Nat.min_eq_left (by omega)]
  rfl
end My

set_option Elab.async false
set_option linter.all false
set_option maxRecDepth 100000
set_option maxHeartbeats 8000000
set_option pp.deepTerms false
set_option pp.deepTerms.threshold 12
set_option pp.maxSteps 1200

namespace My
open PySem PySem.Spec PyProof.Rows L2
def spFits : Sp := fun vs H Q _ => ∃ (q : Addr) (p : Prog) (st dr F : Int), vs = [.ref q, .int st, .int dr, .int F] ∧ PrIs H q p ∧ Wf BC BC 12 p ∧ p.len ≤ 4000 ∧ ∀ b H', Same H H' → (b = true → p.size ≤ 190 ∧ Prog.wayIn F 0 (Prog.unroll 1 p)) → Q (.bl b) H'
/-- a short program, nested d deep at most -/
structure Curt (d : Nat) (F : Int) (p : Prog) : Prop where
  wf : Wf BC BC d p
  l0 : 1 ≤ p.len
  l1 : p.len ≤ 60
  sz : p.size ≤ 190
  way : Prog.wayIn F 0 (Prog.unroll 1 p)
def spCurt : Sp := fun vs H Q _ => ∃ (a : Addr) (z : Str) (st dr F : Int), vs = [.ref a, .str z, .int st, .int dr, .int F] ∧ Bag H a ∧ Names z ∧ 1 ≤ st ∧ st ≤ 1000 ∧ 0 ≤ dr ∧ 0 ≤ F ∧ F ≤ 1000 ∧
  ∀ q p H', But a H H' → Bag H' a → PrIs H' q p → Curt 3 F p → Q (.ref q) H'
section
variable {P : Program} {w : World} {K : PySem.W.Frag} {mg : Str → Option Value} {base : Heap}
local macro_rules | `(tactic| walk_at "isi") => `(tactic| (first
  | (with_reducible refine r_is_int_int ?_)
  | (with_reducible refine r_is_int_bool ?_)
  | (with_reducible refine r_is_int_str ?_)
  | (with_reducible refine r_is_int_list ?_)
  | (with_reducible refine r_is_int_tuple ?_)
  | (with_reducible refine r_is_bool_int ?_)
  | (with_reducible refine r_is_bool_bool ?_)
  | (with_reducible refine r_is_bool_str ?_)
  | (with_reducible refine r_is_bool_list ?_)
  | (with_reducible refine r_is_bool_tuple ?_)
  | (with_reducible refine r_is_str_int ?_)
  | (with_reducible refine r_is_str_bool ?_)
  | (with_reducible refine r_is_str_str ?_)
  | (with_reducible refine r_is_str_list ?_)
  | (with_reducible refine r_is_str_tuple ?_)
  | ((with_reducible refine r_is_list_int (xs := ?xx) ?hh ?_); (case hh => walk_at "hp"))
  | ((with_reducible refine r_is_list_bool (xs := ?xx) ?hh ?_); (case hh => walk_at "hp"))
  | ((with_reducible refine r_is_list_str (xs := ?xx) ?hh ?_); (case hh => walk_at "hp"))
  | ((with_reducible refine r_is_list_list (xs := ?xx) ?hh ?_); (case hh => walk_at "hp"))
  | ((with_reducible refine r_is_list_tuple (xs := ?xx) ?hh ?_); (case hh => walk_at "hp"))
  | ((with_reducible refine r_is_tuple_int (xs := ?xx) ?hh ?_); (case hh => walk_at "hp"))
  | ((with_reducible refine r_is_tuple_bool (xs := ?xx) ?hh ?_); (case hh => walk_at "hp"))
  | ((with_reducible refine r_is_tuple_str (xs := ?xx) ?hh ?_); (case hh => walk_at "hp"))
  | ((with_reducible refine r_is_tuple_list (xs := ?xx) ?hh ?_); (case hh => walk_at "hp"))
  | ((with_reducible refine r_is_tuple_tuple (xs := ?xx) ?hh ?_); (case hh => walk_at "hp"))
  | (with_reducible refine r_is_NoneType_int ?_)
  | (with_reducible refine r_is_NoneType_bool ?_)
  | (with_reducible refine r_is_NoneType_str ?_)
  | (with_reducible refine r_is_NoneType_list ?_)
  | (with_reducible refine r_is_NoneType_tuple ?_)))
local macro_rules | `(tactic| walk_at "ne") => `(tactic| first | assumption | (refine Ne.symm ?_; assumption) | exact Bag.ne (by assumption) (by assumption) | exact ne_of_none (by assumption) (by assumption))
local macro_rules | `(tactic| walk_at "hp") => `(tactic| (first
  | assumption
  | exact upd_same
  | (refine h_keep ?_ (by assumption); walk_at "hp")
  | (refine (upd_ne (by walk_at "ne")).trans ?_; walk_at "hp")
  | (refine Same.at (by assumption) ?_; walk_at "hp")
  | (refine But.at (by assumption) (by walk_at "ne") ?_; walk_at "hp")
  | (refine But2.at (by assumption) (by walk_at "ne") (by walk_at "ne") ?_; walk_at "hp")))
local macro_rules | `(tactic| walk_at "side") => `(tactic| first | assumption | omega | (refine ⟨?_, ?_⟩ <;> first | assumption | omega | decide) | decide | (refine ⟨by decide, by decide, by decide⟩) | (left; refine ⟨?_, ?_⟩ <;> first | omega | decide) | (right; refine ⟨?_, ?_⟩ <;> first | omega | decide) | (simp; done))
local macro_rules | `(tactic| walk_at "cond") => `(tactic| first | assumption | exact rfl | omega | (simp only [List.length_cons, List.length_nil]; omega) | decide +kernel)
local macro_rules | `(tactic| walk_at "s") => `(tactic| (first
  | ((with_reducible refine r_var (v := ?vv) ?ee ?_); (case ee => exact rfl))
  | (with_reducible refine r_c ?_)
  | (with_reducible refine r_op ?_)
  | (with_reducible refine r_un ?_)
  | (with_reducible refine r_rI0 ?_)
  | ((with_reducible refine r_rI ?cc ?_); (case cc => walk_at "side"))
  | (with_reducible refine r_rU ?_)
  | (with_reducible refine r_eqI ?_)
  | (with_reducible refine r_neI ?_)
  | (with_reducible refine r_eqB ?_)
  | (with_reducible refine r_neB ?_)
  | (with_reducible refine r_eqS ?_)
  | (with_reducible refine r_neS ?_)
  | ((with_reducible refine r_eq ?ee ?_); (case ee => exact rfl))
  | ((with_reducible refine r_ne ?ee ?_); (case ee => exact rfl))
  | ((with_reducible refine r_ixL (v := ?vv) (xs := ?xx) ?hh ?ee ?_); (case hh => (refine SqL.of ?_; walk_at "hp")); (case ee => exact rfl))
  | (with_reducible refine r_cb ?_)
  | (with_reducible refine r_call ?_)
  | (with_reducible refine r_cons ?_)
  | (with_reducible refine r_nil ?_)
  | (with_reducible refine r_lst ?_)
  | (with_reducible refine r_tup ?_)
  | ((with_reducible refine r_new ?cc ?_); (case cc => walk_at "side"))
  | (with_reducible refine r_exbl ?_)
  | (with_reducible refine r_exint ?_)
  | (with_reducible refine r_exint2 ?_)
  | (with_reducible refine r_exblL ?_)
  | (with_reducible refine r_ex2 ?_)
  | (with_reducible refine r_test ?_)
  | (with_reducible refine r_tB ?_)
  | (with_reducible refine r_not ?_)
  | (with_reducible refine r_and ?_)
  | (with_reducible refine r_or ?_)
  | (with_reducible refine r_andV ?_)
  | (with_reducible refine r_orV ?_)
  | (with_reducible refine r_notV ?_)
  | (with_reducible refine r_tif ?_)
  | (with_reducible refine r_iteT ?_)
  | (with_reducible refine r_iteNT ?_)
  | (with_reducible refine r_iteNF ?_)
  | (with_reducible refine r_iteF ?_)
  | (with_reducible refine r_seq ?_)
  | (with_reducible refine r_next ?_)
  | (with_reducible refine r_brk ?_)
  | (with_reducible refine r_cont ?_)
  | (with_reducible refine r_asg ?_)
  | (with_reducible refine r_gname ?_)
  | (with_reducible refine r_ret ?_)
  | (with_reducible refine r_retN ?_)
  | (with_reducible refine r_drop ?_)
  | (with_reducible refine r_if ?_)
  | ((with_reducible refine r_aug (x := ?xx) ?ee ?_); (case ee => exact rfl))
  | (with_reducible refine r_ipI ?_)
  | (with_reducible refine r_augS ?_)
  | (with_reducible refine r_gsub ?_)
  | ((with_reducible refine r_setL (xs := ?xx) (m := ?mm) ?hh ?ee ?_); (case hh => walk_at "hp"); (case ee => exact rfl))
  | (with_reducible refine r_par ?_)
  | (with_reducible refine r_bm ?_)
  | ((with_reducible refine r_tyL (xs := ?xx) ?hh ?_); (case hh => walk_at "hp"))
  | ((with_reducible refine r_append (xs := ?xx) ?hh ?ll ?_); (case hh => walk_at "hp"); (case ll => walk_at "side"))
  | (walk_at "isi")
  | (with_reducible refine r_for ?_)
  | (with_reducible refine r_iList ?_)
  | (with_reducible refine r_iTup ?_)
  | (with_reducible refine r_iR1 ?_)
  | (with_reducible refine r_iR2 ?_)
  | (with_reducible refine r_lc ?_)
  | (with_reducible refine r_yes ?_)
  | ((with_reducible refine r_lenS ?ll ?_); (case ll => walk_at "side"))
  | (with_reducible refine r_leS ?_)
  | (with_reducible refine r_chain ?_)
  | (with_reducible refine r_tM1 ?_)
  | (with_reducible refine r_exS ?_)
  | ((with_reducible refine r_tupL (xs := ?xx) ?hh ?_); (case hh => walk_at "hp"))
  | ((with_reducible refine r_listL (xs := ?xx) ?hh ?_); (case hh => walk_at "hp"))
  | ((with_reducible refine r_listT (xs := ?xx) ?hh ?_); (case hh => walk_at "hp"))
  | ((with_reducible refine r_ixT (v := ?vv) (xs := ?xx) ?hh ?ee ?_); (case hh => (refine SqT.of ?_; walk_at "hp")); (case ee => exact rfl))
  | (with_reducible refine r_sl ?_)
  | (with_reducible refine r_nopart ?_)
  | (with_reducible refine r_part ?_)
  | (with_reducible refine r_exI ?_)
  | ((with_reducible refine r_slL (xs := ?xx) ?hh ?_); (case hh => first | assumption | (refine SqL.of ?_; walk_at "hp") | (refine Same.seq (by assumption) (by assumption))))
  | ((with_reducible refine r_cat (xs := ?xx) (zs := ?zz) ?hh ?ii ?ll ?_); (case hh => walk_at "hp"); (case ii => walk_at "hp"); (case ll => walk_at "side"))
  | ((with_reducible refine r_lenL (xs := ?xx) ?hh ?_); (case hh => walk_at "hp"))
  | ((with_reducible refine r_lenT (xs := ?xx) ?hh ?_); (case hh => walk_at "hp"))
  | ((with_reducible refine r_gTup (xs := ?xx) ?hh ?ll ?_); (case hh => walk_at "hp"); (case ll => exact rfl))
  | (with_reducible refine r_gCons ?_)
  | (with_reducible refine r_gNil ?_)
  | ((with_reducible refine r_iteDT ?cc ?_); (case cc => walk_at "cond"))
  | ((with_reducible refine r_iteDF ?cc ?_); (case cc => walk_at "cond"))
  | ((with_reducible refine r_iteNDT ?cc ?_); (case cc => walk_at "cond"))
  | ((with_reducible refine r_iteNDF ?cc ?_); (case cc => walk_at "cond"))
  ))
local macro_rules | `(tactic| walk_at "go") => `(tactic| repeat (walk_at "s"))

end
end My

set_option Elab.async false
set_option linter.all false
set_option maxRecDepth 100000
set_option maxHeartbeats 8000000
set_option pp.deepTerms false
set_option pp.deepTerms.threshold 12
set_option pp.maxSteps 1200

namespace My
open PySem PySem.Spec PyProof.Rows L2
/-- a short program, nested d deep at most -/
structure Sh (d : Nat) (p : Prog) : Prop where
  wf : Wf BC BC d p
  l0 : 1 ≤ p.len
  l1 : p.len ≤ 61
  sz : p.size ≤ 200
  way : Prog.wayIn 12 0 (Prog.unroll 1 p)
theorem Sh.mono {d e : Nat} {p : Prog} (h : Sh d p) (l : d ≤ e) : Sh e p := { h with wf := WfL.mono (Int.le_refl _) (Int.le_refl _) l h.wf }
/-- .. with the last heading 0 -/
structure Dp0 (d : Nat) (p : Prog) : Prop extends Sh d p where
  hd : p.head = 0
theorem Dp0.mir {d : Nat} {p : Prog} (h : Dp0 d p) : Dp0 (d + 1) (.mir p .nil) where
  wf := ⟨⟨h.l0, by have := h.l1; omega⟩, h.wf, WfL.nil⟩
  l0 := Nat.le_refl 1
  l1 := by show 1 ≤ 61; decide
  sz := by rw [Prog.size, Prog.size]; have := h.sz; omega
  way := by
    have := Prog.way_neg h.way
    rw [Int.neg_zero] at this
    exact Prog.wayIn_app this trivial
  hd := by rw [Prog.head, Prog.head, h.hd]; rfl
theorem Dp0.rep {d : Nat} {p : Prog} (h : Dp0 d p) {k : Int} (k1 : 1 ≤ k) (k2 : k ≤ 2) (z : k * p.size ≤ 200) : Dp0 (d + 1) (.rep k p .nil) where
  wf := ⟨⟨k1, by have : BC = 10000000000000000000000000000000 := by decide
                 omega⟩, ⟨h.l0, by have := h.l1; omega⟩, h.wf, WfL.nil⟩
  l0 := Nat.le_refl 1
  l1 := by show 1 ≤ 61; decide
  sz := by rw [Prog.size, Prog.size]; omega
  way := by
    refine Prog.wayIn_app (Prog.way_times h.way ?_ _) trivial
    rw [Prog.head_unroll (.inl rfl) h.wf, h.hd]
    rfl
  hd := by rw [Prog.head, Prog.head, h.hd]; omega
theorem Dp0.step {d : Nat} {p : Prog} {w n : Str} (h : Dp0 d p) (hw : IsWord w) (hn : IsName n) (l : p.len ≤ 60) (z : p.size < 200) : Dp0 d (.step w n p) where
  wf := WfL.step_iff.mpr ⟨hw, hn, h.wf⟩
  l0 := by rw [Prog.len]; omega
  l1 := by rw [Prog.len]; omega
  sz := by rw [Prog.size]; omega
  way := h.way
  hd := by rw [Prog.head]; exact h.hd
/-- a round of steps behind or ahead -/
theorem Curt.more {d : Nat} {p r : Prog} {k : Int} (h : Curt d 12 p) (hr : Prog.onlySteps r) (wr : Wf BC BC 0 r) (r1 : 1 ≤ r.len) (r2 : r.len ≤ 4) (k1 : 1 ≤ k) (k2 : k ≤ 200) (z : p.size + k * r.len ≤ 200) :
    Sh (d + 1) (p.app (.rep k r .nil)) ∧ Sh (d + 1) ((Prog.rep k r .nil).app p) := by
  have hBC : BC = 10000000000000000000000000000000 := by decide
  have wm : Wf BC BC (d + 1) (.rep k r .nil) := ⟨⟨k1, by omega⟩, ⟨r1, by omega⟩, WfL.mono (Int.le_refl _) (Int.le_refl _) (Nat.zero_le _) wr, WfL.nil⟩
  have wp : Wf BC BC (d + 1) p := WfL.mono (Int.le_refl _) (Int.le_refl _) (Nat.le_succ _) h.wf
  have em : Prog.unroll 1 (.rep k r .nil) = (Prog.times k.toNat r).app .nil := by rw [Prog.unroll, Prog.only_unroll 1 hr]; rfl
  have sm : (Prog.rep k r .nil).size = k * r.len := by rw [Prog.size, Prog.size, Prog.size_flat wr]; omega
  have l0 := h.l0
  have l1 := h.l1
  have wt : ∀ x, Prog.wayIn 12 x ((Prog.times k.toNat r).app .nil) := fun x => Prog.wayIn_app (Prog.way_times (Prog.only_way hr) (Prog.only_head hr) _) trivial
  have ht : ((Prog.times k.toNat r).app .nil).head = 0 := by rw [Prog.head_app, Prog.head_times, Prog.only_head hr, Prog.head]; omega
  refine ⟨⟨wp.app wm, ?_, ?_, ?_, ?_⟩, ⟨wm.app wp, ?_, ?_, ?_, ?_⟩⟩
  · rw [Prog.len_app]; omega
  · rw [Prog.len_app]; show p.len + 1 ≤ 61; omega
  · rw [Prog.size_app, sm]; exact z
  · rw [Prog.unroll_app, em]
    exact Prog.wayIn_app h.way (wt _)
  · rw [Prog.len_app]; omega
  · rw [Prog.len_app]; show 1 + p.len ≤ 61; omega
  · rw [Prog.size_app, sm]; omega
  · rw [Prog.unroll_app, em]
    refine Prog.wayIn_app (wt _) ?_
    rw [ht]
    exact h.way
def spDeep : Sp := fun vs H Q _ => ∃ (a : Addr) (z : Str), vs = [.ref a, .str z] ∧ Bag H a ∧ Names z ∧ ∀ q p H', But a H H' → Bag H' a → PrIs H' q p → Sh 6 p → Q (.ref q) H'
def spFull : Sp := fun vs H Q _ => ∃ (a q : Addr) (p : Prog) (z : Str), vs = [.ref a, .ref q, .str z] ∧ Bag H a ∧ Names z ∧ PrIs H q p ∧ Curt 3 12 p ∧ ∀ q' p' H', But a H H' → Bag H' a → PrIs H' q' p' → Sh 4 p' → Q (.ref q') H'
section
variable {P : Program} {w : World} {K : PySem.W.Frag} {mg : Str → Option Value} {base : Heap}
local macro_rules | `(tactic| walk_at "isi") => `(tactic| (first
  | (with_reducible refine r_is_int_int ?_)
  | (with_reducible refine r_is_int_bool ?_)
  | (with_reducible refine r_is_int_str ?_)
  | (with_reducible refine r_is_int_list ?_)
  | (with_reducible refine r_is_int_tuple ?_)
  | (with_reducible refine r_is_bool_int ?_)
  | (with_reducible refine r_is_bool_bool ?_)
  | (with_reducible refine r_is_bool_str ?_)
  | (with_reducible refine r_is_bool_list ?_)
  | (with_reducible refine r_is_bool_tuple ?_)
  | (with_reducible refine r_is_str_int ?_)
  | (with_reducible refine r_is_str_bool ?_)
  | (with_reducible refine r_is_str_str ?_)
  | (with_reducible refine r_is_str_list ?_)
  | (with_reducible refine r_is_str_tuple ?_)
  | ((with_reducible refine r_is_list_int (xs := ?xx) ?hh ?_); (case hh => walk_at "hp"))
  | ((with_reducible refine r_is_list_bool (xs := ?xx) ?hh ?_); (case hh => walk_at "hp"))
  | ((with_reducible refine r_is_list_str (xs := ?xx) ?hh ?_); (case hh => walk_at "hp"))
  | ((with_reducible refine r_is_list_list (xs := ?xx) ?hh ?_); (case hh => walk_at "hp"))
  | ((with_reducible refine r_is_list_tuple (xs := ?xx) ?hh ?_); (case hh => walk_at "hp"))
  | ((with_reducible refine r_is_tuple_int (xs := ?xx) ?hh ?_); (case hh => walk_at "hp"))
  | ((with_reducible refine r_is_tuple_bool (xs := ?xx) ?hh ?_); (case hh => walk_at "hp"))
  | ((with_reducible refine r_is_tuple_str (xs := ?xx) ?hh ?_); (case hh => walk_at "hp"))
  | ((with_reducible refine r_is_tuple_list (xs := ?xx) ?hh ?_); (case hh => walk_at "hp"))
  | ((with_reducible refine r_is_tuple_tuple (xs := ?xx) ?hh ?_); (case hh => walk_at "hp"))
  | (with_reducible refine r_is_NoneType_int ?_)
  | (with_reducible refine r_is_NoneType_bool ?_)
  | (with_reducible refine r_is_NoneType_str ?_)
  | (with_reducible refine r_is_NoneType_list ?_)
  | (with_reducible refine r_is_NoneType_tuple ?_)))
local macro_rules | `(tactic| walk_at "ne") => `(tactic| first | assumption | (refine Ne.symm ?_; assumption) | exact Bag.ne (by assumption) (by assumption) | exact ne_of_none (by assumption) (by assumption))
local macro_rules | `(tactic| walk_at "hp") => `(tactic| (first
  | assumption
  | exact upd_same
  | (refine h_keep ?_ (by assumption); walk_at "hp")
  | (refine (upd_ne (by walk_at "ne")).trans ?_; walk_at "hp")
  | (refine Same.at (by assumption) ?_; walk_at "hp")
  | (refine But.at (by assumption) (by walk_at "ne") ?_; walk_at "hp")
  | (refine But2.at (by assumption) (by walk_at "ne") (by walk_at "ne") ?_; walk_at "hp")))
local macro_rules | `(tactic| walk_at "side") => `(tactic| first | assumption | omega | (refine ⟨?_, ?_⟩ <;> first | assumption | omega | decide) | decide | (refine ⟨by decide, by decide, by decide⟩) | (left; refine ⟨?_, ?_⟩ <;> first | omega | decide) | (right; refine ⟨?_, ?_⟩ <;> first | omega | decide) | (simp; done))
local macro_rules | `(tactic| walk_at "cond") => `(tactic| first | assumption | exact rfl | omega | (simp only [List.length_cons, List.length_nil]; omega) | decide +kernel)
local macro_rules | `(tactic| walk_at "s") => `(tactic| (first
  | ((with_reducible refine r_var (v := ?vv) ?ee ?_); (case ee => exact rfl))
  | (with_reducible refine r_c ?_)
  | (with_reducible refine r_op ?_)
  | (with_reducible refine r_un ?_)
  | (with_reducible refine r_rI0 ?_)
  | ((with_reducible refine r_rI ?cc ?_); (case cc => walk_at "side"))
  | (with_reducible refine r_rU ?_)
  | (with_reducible refine r_eqI ?_)
  | (with_reducible refine r_neI ?_)
  | (with_reducible refine r_eqB ?_)
  | (with_reducible refine r_neB ?_)
  | (with_reducible refine r_eqS ?_)
  | (with_reducible refine r_neS ?_)
  | ((with_reducible refine r_eq ?ee ?_); (case ee => exact rfl))
  | ((with_reducible refine r_ne ?ee ?_); (case ee => exact rfl))
  | ((with_reducible refine r_ixL (v := ?vv) (xs := ?xx) ?hh ?ee ?_); (case hh => (refine SqL.of ?_; walk_at "hp")); (case ee => exact rfl))
  | (with_reducible refine r_cb ?_)
  | (with_reducible refine r_call ?_)
  | (with_reducible refine r_cons ?_)
  | (with_reducible refine r_nil ?_)
  | (with_reducible refine r_lst ?_)
  | (with_reducible refine r_tup ?_)
  | ((with_reducible refine r_new ?cc ?_); (case cc => walk_at "side"))
  | (with_reducible refine r_exbl ?_)
  | (with_reducible refine r_exint ?_)
  | (with_reducible refine r_exint2 ?_)
  | (with_reducible refine r_exblL ?_)
  | (with_reducible refine r_ex2 ?_)
  | (with_reducible refine r_test ?_)
  | (with_reducible refine r_tB ?_)
  | (with_reducible refine r_not ?_)
  | (with_reducible refine r_and ?_)
  | (with_reducible refine r_or ?_)
  | (with_reducible refine r_andV ?_)
  | (with_reducible refine r_orV ?_)
  | (with_reducible refine r_notV ?_)
  | (with_reducible refine r_tif ?_)
  | (with_reducible refine r_iteT ?_)
  | (with_reducible refine r_iteNT ?_)
  | (with_reducible refine r_iteNF ?_)
  | (with_reducible refine r_iteF ?_)
  | (with_reducible refine r_seq ?_)
  | (with_reducible refine r_next ?_)
  | (with_reducible refine r_brk ?_)
  | (with_reducible refine r_cont ?_)
  | (with_reducible refine r_asg ?_)
  | (with_reducible refine r_gname ?_)
  | (with_reducible refine r_ret ?_)
  | (with_reducible refine r_retN ?_)
  | (with_reducible refine r_drop ?_)
  | (with_reducible refine r_if ?_)
  | ((with_reducible refine r_aug (x := ?xx) ?ee ?_); (case ee => exact rfl))
  | (with_reducible refine r_ipI ?_)
  | (with_reducible refine r_augS ?_)
  | (with_reducible refine r_gsub ?_)
  | ((with_reducible refine r_setL (xs := ?xx) (m := ?mm) ?hh ?ee ?_); (case hh => walk_at "hp"); (case ee => exact rfl))
  | (with_reducible refine r_par ?_)
  | (with_reducible refine r_bm ?_)
  | ((with_reducible refine r_tyL (xs := ?xx) ?hh ?_); (case hh => walk_at "hp"))
  | ((with_reducible refine r_append (xs := ?xx) ?hh ?ll ?_); (case hh => walk_at "hp"); (case ll => walk_at "side"))
  | (walk_at "isi")
  | (with_reducible refine r_for ?_)
  | (with_reducible refine r_iList ?_)
  | (with_reducible refine r_iTup ?_)
  | (with_reducible refine r_iR1 ?_)
  | (with_reducible refine r_iR2 ?_)
  | (with_reducible refine r_lc ?_)
  | (with_reducible refine r_yes ?_)
  | ((with_reducible refine r_lenS ?ll ?_); (case ll => walk_at "side"))
  | (with_reducible refine r_leS ?_)
  | (with_reducible refine r_chain ?_)
  | (with_reducible refine r_tM1 ?_)
  | (with_reducible refine r_exS ?_)
  | ((with_reducible refine r_tupL (xs := ?xx) ?hh ?_); (case hh => walk_at "hp"))
  | ((with_reducible refine r_listL (xs := ?xx) ?hh ?_); (case hh => walk_at "hp"))
  | ((with_reducible refine r_listT (xs := ?xx) ?hh ?_); (case hh => walk_at "hp"))
  | ((with_reducible refine r_ixT (v := ?vv) (xs := ?xx) ?hh ?ee ?_); (case hh => (refine SqT.of ?_; walk_at "hp")); (case ee => exact rfl))
  | (with_reducible refine r_sl ?_)
  | (with_reducible refine r_nopart ?_)
  | (with_reducible refine r_part ?_)
  | (with_reducible refine r_exI ?_)
  | ((with_reducible refine r_slL (xs := ?xx) ?hh ?_); (case hh => first | assumption | (refine SqL.of ?_; walk_at "hp") | (refine Same.seq (by assumption) (by assumption))))
  | ((with_reducible refine r_cat (xs := ?xx) (zs := ?zz) ?hh ?ii ?ll ?_); (case hh => walk_at "hp"); (case ii => walk_at "hp"); (case ll => walk_at "side"))
  | ((with_reducible refine r_lenL (xs := ?xx) ?hh ?_); (case hh => walk_at "hp"))
  | ((with_reducible refine r_lenT (xs := ?xx) ?hh ?_); (case hh => walk_at "hp"))
  | ((with_reducible refine r_gTup (xs := ?xx) ?hh ?ll ?_); (case hh => walk_at "hp"); (case ll => exact rfl))
  | (with_reducible refine r_gCons ?_)
  | (with_reducible refine r_gNil ?_)
  | ((with_reducible refine r_iteDT ?cc ?_); (case cc => walk_at "cond"))
  | ((with_reducible refine r_iteDF ?cc ?_); (case cc => walk_at "cond"))
  | ((with_reducible refine r_iteNDT ?cc ?_); (case cc => walk_at "cond"))
  | ((with_reducible refine r_iteNDF ?cc ?_); (case cc => walk_at "cond"))
  ))
local macro_rules | `(tactic| walk_at "go") => `(tactic| repeat (walk_at "s"))

end
end My

set_option Elab.async false
set_option linter.all false
set_option maxRecDepth 100000
set_option maxHeartbeats 8000000
set_option pp.deepTerms false
set_option pp.deepTerms.threshold 12
set_option pp.maxSteps 1200

namespace My
open PySem PySem.Spec PyProof.Rows L2
def spThree : Sp := fun vs H Q _ => ∃ (a : Addr) (z : Str), vs = [.ref a, .str z] ∧ Bag H a ∧ Names z ∧ ∀ l q1 q2 q3 p1 p2 p3 H', H l = none → But a H H' → Bag H' a → H' l = some (.lst [.ref q1, .ref q2, .ref q3]) → PrIs H' q1 p1 → PrIs H' q2 p2 → PrIs H' q3 p3 → Sh 6 p1 → Sh 6 p2 → Sh 6 p3 → Q (.ref l) H'
theorem step4 {n : Int} (h0 : 0 ≤ n) (h1 : n < 4) : ∃ x : Str, atI [V.str "go", V.str "slip", V.str "back", V.str "hop"] n = some (.str x) ∧ IsWord x := by
  rcases (by omega : n = 0 ∨ n = 1 ∨ n = 2 ∨ n = 3) with rfl | rfl | rfl | rfl
  · exact ⟨_, rfl, .inl rfl⟩
  · exact ⟨_, rfl, .inr (.inr (.inr rfl))⟩
  · exact ⟨_, rfl, .inr (.inl rfl)⟩
  · exact ⟨_, rfl, .inr (.inr (.inl rfl))⟩
section
variable {P : Program} {w : World} {K : PySem.W.Frag} {mg : Str → Option Value} {base : Heap}
local macro_rules | `(tactic| walk_at "isi") => `(tactic| (first
  | (with_reducible refine r_is_int_int ?_)
  | (with_reducible refine r_is_int_bool ?_)
  | (with_reducible refine r_is_int_str ?_)
  | (with_reducible refine r_is_int_list ?_)
  | (with_reducible refine r_is_int_tuple ?_)
  | (with_reducible refine r_is_bool_int ?_)
  | (with_reducible refine r_is_bool_bool ?_)
  | (with_reducible refine r_is_bool_str ?_)
  | (with_reducible refine r_is_bool_list ?_)
  | (with_reducible refine r_is_bool_tuple ?_)
  | (with_reducible refine r_is_str_int ?_)
  | (with_reducible refine r_is_str_bool ?_)
  | (with_reducible refine r_is_str_str ?_)
  | (with_reducible refine r_is_str_list ?_)
  | (with_reducible refine r_is_str_tuple ?_)
  | ((with_reducible refine r_is_list_int (xs := ?xx) ?hh ?_); (case hh => walk_at "hp"))
  | ((with_reducible refine r_is_list_bool (xs := ?xx) ?hh ?_); (case hh => walk_at "hp"))
  | ((with_reducible refine r_is_list_str (xs := ?xx) ?hh ?_); (case hh => walk_at "hp"))
  | ((with_reducible refine r_is_list_list (xs := ?xx) ?hh ?_); (case hh => walk_at "hp"))
  | ((with_reducible refine r_is_list_tuple (xs := ?xx) ?hh ?_); (case hh => walk_at "hp"))
  | ((with_reducible refine r_is_tuple_int (xs := ?xx) ?hh ?_); (case hh => walk_at "hp"))
  | ((with_reducible refine r_is_tuple_bool (xs := ?xx) ?hh ?_); (case hh => walk_at "hp"))
  | ((with_reducible refine r_is_tuple_str (xs := ?xx) ?hh ?_); (case hh => walk_at "hp"))
  | ((with_reducible refine r_is_tuple_list (xs := ?xx) ?hh ?_); (case hh => walk_at "hp"))
  | ((with_reducible refine r_is_tuple_tuple (xs := ?xx) ?hh ?_); (case hh => walk_at "hp"))
  | (with_reducible refine r_is_NoneType_int ?_)
  | (with_reducible refine r_is_NoneType_bool ?_)
  | (with_reducible refine r_is_NoneType_str ?_)
  | (with_reducible refine r_is_NoneType_list ?_)
  | (with_reducible refine r_is_NoneType_tuple ?_)))
local macro_rules | `(tactic| walk_at "ne") => `(tactic| first | assumption | (refine Ne.symm ?_; assumption) | exact Bag.ne (by assumption) (by assumption) | exact ne_of_none (by assumption) (by assumption))
local macro_rules | `(tactic| walk_at "hp") => `(tactic| (first
  | assumption
  | exact upd_same
  | (refine h_keep ?_ (by assumption); walk_at "hp")
  | (refine (upd_ne (by walk_at "ne")).trans ?_; walk_at "hp")
  | (refine Same.at (by assumption) ?_; walk_at "hp")
  | (refine But.at (by assumption) (by walk_at "ne") ?_; walk_at "hp")
  | (refine But2.at (by assumption) (by walk_at "ne") (by walk_at "ne") ?_; walk_at "hp")))
local macro_rules | `(tactic| walk_at "side") => `(tactic| first | assumption | omega | (refine ⟨?_, ?_⟩ <;> first | assumption | omega | decide) | decide | (refine ⟨by decide, by decide, by decide⟩) | (left; refine ⟨?_, ?_⟩ <;> first | omega | decide) | (right; refine ⟨?_, ?_⟩ <;> first | omega | decide) | (simp; done))
local macro_rules | `(tactic| walk_at "cond") => `(tactic| first | assumption | exact rfl | omega | (simp only [List.length_cons, List.length_nil]; omega) | decide +kernel)
local macro_rules | `(tactic| walk_at "s") => `(tactic| (first
  | ((with_reducible refine r_var (v := ?vv) ?ee ?_); (case ee => exact rfl))
  | (with_reducible refine r_c ?_)
  | (with_reducible refine r_op ?_)
  | (with_reducible refine r_un ?_)
  | (with_reducible refine r_rI0 ?_)
  | ((with_reducible refine r_rI ?cc ?_); (case cc => walk_at "side"))
  | (with_reducible refine r_rU ?_)
  | (with_reducible refine r_eqI ?_)
  | (with_reducible refine r_neI ?_)
  | (with_reducible refine r_eqB ?_)
  | (with_reducible refine r_neB ?_)
  | (with_reducible refine r_eqS ?_)
  | (with_reducible refine r_neS ?_)
  | ((with_reducible refine r_eq ?ee ?_); (case ee => exact rfl))
  | ((with_reducible refine r_ne ?ee ?_); (case ee => exact rfl))
  | ((with_reducible refine r_ixL (v := ?vv) (xs := ?xx) ?hh ?ee ?_); (case hh => (refine SqL.of ?_; walk_at "hp")); (case ee => exact rfl))
  | (with_reducible refine r_cb ?_)
  | (with_reducible refine r_call ?_)
  | (with_reducible refine r_cons ?_)
  | (with_reducible refine r_nil ?_)
  | (with_reducible refine r_lst ?_)
  | (with_reducible refine r_tup ?_)
  | ((with_reducible refine r_new ?cc ?_); (case cc => walk_at "side"))
  | (with_reducible refine r_exbl ?_)
  | (with_reducible refine r_exint ?_)
  | (with_reducible refine r_exint2 ?_)
  | (with_reducible refine r_exblL ?_)
  | (with_reducible refine r_ex2 ?_)
  | (with_reducible refine r_test ?_)
  | (with_reducible refine r_tB ?_)
  | (with_reducible refine r_not ?_)
  | (with_reducible refine r_and ?_)
  | (with_reducible refine r_or ?_)
  | (with_reducible refine r_andV ?_)
  | (with_reducible refine r_orV ?_)
  | (with_reducible refine r_notV ?_)
  | (with_reducible refine r_tif ?_)
  | (with_reducible refine r_iteT ?_)
  | (with_reducible refine r_iteNT ?_)
  | (with_reducible refine r_iteNF ?_)
  | (with_reducible refine r_iteF ?_)
  | (with_reducible refine r_seq ?_)
  | (with_reducible refine r_next ?_)
  | (with_reducible refine r_brk ?_)
  | (with_reducible refine r_cont ?_)
  | (with_reducible refine r_asg ?_)
  | (with_reducible refine r_gname ?_)
  | (with_reducible refine r_ret ?_)
  | (with_reducible refine r_retN ?_)
  | (with_reducible refine r_drop ?_)
  | (with_reducible refine r_if ?_)
  | ((with_reducible refine r_aug (x := ?xx) ?ee ?_); (case ee => exact rfl))
  | (with_reducible refine r_ipI ?_)
  | (with_reducible refine r_augS ?_)
  | (with_reducible refine r_gsub ?_)
  | ((with_reducible refine r_setL (xs := ?xx) (m := ?mm) ?hh ?ee ?_); (case hh => walk_at "hp"); (case ee => exact rfl))
  | (with_reducible refine r_par ?_)
  | (with_reducible refine r_bm ?_)
  | ((with_reducible refine r_tyL (xs := ?xx) ?hh ?_); (case hh => walk_at "hp"))
  | ((with_reducible refine r_append (xs := ?xx) ?hh ?ll ?_); (case hh => walk_at "hp"); (case ll => walk_at "side"))
  | (walk_at "isi")
  | (with_reducible refine r_for ?_)
  | (with_reducible refine r_iList ?_)
  | (with_reducible refine r_iTup ?_)
  | (with_reducible refine r_iR1 ?_)
  | (with_reducible refine r_iR2 ?_)
  | (with_reducible refine r_lc ?_)
  | (with_reducible refine r_yes ?_)
  | ((with_reducible refine r_lenS ?ll ?_); (case ll => walk_at "side"))
  | (with_reducible refine r_leS ?_)
  | (with_reducible refine r_chain ?_)
  | (with_reducible refine r_tM1 ?_)
  | (with_reducible refine r_exS ?_)
  | ((with_reducible refine r_tupL (xs := ?xx) ?hh ?_); (case hh => walk_at "hp"))
  | ((with_reducible refine r_listL (xs := ?xx) ?hh ?_); (case hh => walk_at "hp"))
  | ((with_reducible refine r_listT (xs := ?xx) ?hh ?_); (case hh => walk_at "hp"))
  | ((with_reducible refine r_ixT (v := ?vv) (xs := ?xx) ?hh ?ee ?_); (case hh => (refine SqT.of ?_; walk_at "hp")); (case ee => exact rfl))
  | (with_reducible refine r_sl ?_)
  | (with_reducible refine r_nopart ?_)
  | (with_reducible refine r_part ?_)
  | (with_reducible refine r_exI ?_)
  | ((with_reducible refine r_slL (xs := ?xx) ?hh ?_); (case hh => first | assumption | (refine SqL.of ?_; walk_at "hp") | (refine Same.seq (by assumption) (by assumption))))
  | ((with_reducible refine r_cat (xs := ?xx) (zs := ?zz) ?hh ?ii ?ll ?_); (case hh => walk_at "hp"); (case ii => walk_at "hp"); (case ll => walk_at "side"))
  | ((with_reducible refine r_lenL (xs := ?xx) ?hh ?_); (case hh => walk_at "hp"))
  | ((with_reducible refine r_lenT (xs := ?xx) ?hh ?_); (case hh => walk_at "hp"))
  | ((with_reducible refine r_gTup (xs := ?xx) ?hh ?ll ?_); (case hh => walk_at "hp"); (case ll => exact rfl))
  | (with_reducible refine r_gCons ?_)
  | (with_reducible refine r_gNil ?_)
  | ((with_reducible refine r_iteDT ?cc ?_); (case cc => walk_at "cond"))
  | ((with_reducible refine r_iteDF ?cc ?_); (case cc => walk_at "cond"))
  | ((with_reducible refine r_iteNDT ?cc ?_); (case cc => walk_at "cond"))
  | ((with_reducible refine r_iteNDF ?cc ?_); (case cc => walk_at "cond"))
  ))
local macro_rules | `(tactic| walk_at "go") => `(tactic| repeat (walk_at "s"))

end
end My

set_option Elab.async false
set_option linter.all false
set_option maxRecDepth 100000
namespace My
open PySem PySem.Spec PyProof.Rows L2 RT
theorem r_isiT_int {K : PySem.W.Frag} {H : Hp} {Q : VK} {i : Int} {tp : Addr} (h : H tp = some (.tup [.ty "int", .ty "str"])) (q : Q (.bl true) H) : rIsiT K [.int i, .ref tp] H Q :=
  ⟨_, _, _, .type "int", [.type "int", .type "str"], true, rfl, h, .cons (.ty _) (.cons (.ty _) .nil), ty_int, by rfl, q⟩
theorem r_isiT_str {K : PySem.W.Frag} {H : Hp} {Q : VK} {i : Str} {tp : Addr} (h : H tp = some (.tup [.ty "int", .ty "str"])) (q : Q (.bl true) H) : rIsiT K [.str i, .ref tp] H Q :=
  ⟨_, _, _, .type "str", [.type "int", .type "str"], true, rfl, h, .cons (.ty _) (.cons (.ty _) .nil), ty_str, by rfl, q⟩
end My

set_option Elab.async false
set_option linter.all false
set_option maxRecDepth 100000
set_option maxHeartbeats 4000000

namespace My
open PySem PySem.Spec PyProof.Rows L2 RT
/-- two values with the same content: ints, strs, tuples of such -/
def SameV (H : Hp) : Nat → V → V → Prop
  | 0, _, _ => False
  | n + 1, x, y => (∃ i, x = .int i ∧ y = .int i) ∨ (∃ s, x = .str s ∧ y = .str s) ∨ ∃ a b xs ys, x = .ref a ∧ y = .ref b ∧ H a = some (.tup xs) ∧ H b = some (.tup ys) ∧ xs.length = ys.length ∧ xs.length ≤ 10000 ∧ ∀ (i : Nat) u v, xs[i]? = some u → ys[i]? = some v → SameV H n u v
theorem SameV.tk {H H' : Hp} (t : Tk H H') : ∀ {n : Nat} {x y : V}, SameV H n x y → SameV H' n x y
  | 0, _, _, h => h.elim
  | n + 1, _, _, .inl h => .inl h
  | n + 1, _, _, .inr (.inl h) => .inr (.inl h)
  | n + 1, _, _, .inr (.inr ⟨a, b, xs, ys, h1, h2, h3, h4, h5, h6, h7⟩) => .inr (.inr ⟨a, b, xs, ys, h1, h2, t _ _ h3, t _ _ h4, h5, h6, fun i u v hu hv => (h7 i u v hu hv).tk t⟩)
theorem at_nat {xs : List V} {i : Nat} {x : V} (h : xs[i]? = some x) : atI xs (i : Int) = some x := by
  obtain ⟨hi, _⟩ := List.getElem?_eq_some_iff.mp h
  unfold atI ixN
  rw [if_pos (by omega), if_pos (by omega)]
  exact h
def spSame (n : Nat) : Sp := fun vs H Q _ => ∃ x y, vs = [x, y] ∧ SameV H n x y ∧ ∀ H', Same H H' → Q (.bl true) H'
section
variable {P : Program} {w : World} {K : PySem.W.Frag} {mg : Str → Option Value} {base : Heap}
local macro_rules | `(tactic| walk_at "isi") => `(tactic| (first
  | (with_reducible refine r_is_int_int ?_)
  | (with_reducible refine r_is_int_bool ?_)
  | (with_reducible refine r_is_int_str ?_)
  | (with_reducible refine r_is_int_list ?_)
  | (with_reducible refine r_is_int_tuple ?_)
  | (with_reducible refine r_is_bool_int ?_)
  | (with_reducible refine r_is_bool_bool ?_)
  | (with_reducible refine r_is_bool_str ?_)
  | (with_reducible refine r_is_bool_list ?_)
  | (with_reducible refine r_is_bool_tuple ?_)
  | (with_reducible refine r_is_str_int ?_)
  | (with_reducible refine r_is_str_bool ?_)
  | (with_reducible refine r_is_str_str ?_)
  | (with_reducible refine r_is_str_list ?_)
  | (with_reducible refine r_is_str_tuple ?_)
  | ((with_reducible refine r_is_list_int (xs := ?xx) ?hh ?_); (case hh => walk_at "hp"))
  | ((with_reducible refine r_is_list_bool (xs := ?xx) ?hh ?_); (case hh => walk_at "hp"))
  | ((with_reducible refine r_is_list_str (xs := ?xx) ?hh ?_); (case hh => walk_at "hp"))
  | ((with_reducible refine r_is_list_list (xs := ?xx) ?hh ?_); (case hh => walk_at "hp"))
  | ((with_reducible refine r_is_list_tuple (xs := ?xx) ?hh ?_); (case hh => walk_at "hp"))
  | ((with_reducible refine r_is_tuple_int (xs := ?xx) ?hh ?_); (case hh => walk_at "hp"))
  | ((with_reducible refine r_is_tuple_bool (xs := ?xx) ?hh ?_); (case hh => walk_at "hp"))
  | ((with_reducible refine r_is_tuple_str (xs := ?xx) ?hh ?_); (case hh => walk_at "hp"))
  | ((with_reducible refine r_is_tuple_list (xs := ?xx) ?hh ?_); (case hh => walk_at "hp"))
  | ((with_reducible refine r_is_tuple_tuple (xs := ?xx) ?hh ?_); (case hh => walk_at "hp"))
  | (with_reducible refine r_is_NoneType_int ?_)
  | (with_reducible refine r_is_NoneType_bool ?_)
  | (with_reducible refine r_is_NoneType_str ?_)
  | (with_reducible refine r_is_NoneType_list ?_)
  | (with_reducible refine r_is_NoneType_tuple ?_)))
local macro_rules | `(tactic| walk_at "ne") => `(tactic| first | assumption | (refine Ne.symm ?_; assumption) | exact Bag.ne (by assumption) (by assumption) | exact ne_of_none (by assumption) (by assumption))
local macro_rules | `(tactic| walk_at "hp") => `(tactic| (first
  | assumption
  | exact upd_same
  | (refine h_keep ?_ (by assumption); walk_at "hp")
  | (refine (upd_ne (by walk_at "ne")).trans ?_; walk_at "hp")
  | (refine Same.at (by assumption) ?_; walk_at "hp")
  | (refine But.at (by assumption) (by walk_at "ne") ?_; walk_at "hp")
  | (refine But2.at (by assumption) (by walk_at "ne") (by walk_at "ne") ?_; walk_at "hp")))
local macro_rules | `(tactic| walk_at "side") => `(tactic| first | assumption | omega | (refine ⟨?_, ?_⟩ <;> first | assumption | omega | decide) | decide | (refine ⟨by decide, by decide, by decide⟩) | (left; refine ⟨?_, ?_⟩ <;> first | omega | decide) | (right; refine ⟨?_, ?_⟩ <;> first | omega | decide) | (simp; done))
local macro_rules | `(tactic| walk_at "cond") => `(tactic| first | assumption | exact rfl | omega | (simp only [List.length_cons, List.length_nil]; omega) | decide +kernel)
local macro_rules | `(tactic| walk_at "s") => `(tactic| (first
  | ((with_reducible refine r_var (v := ?vv) ?ee ?_); (case ee => exact rfl))
  | (with_reducible refine r_c ?_)
  | (with_reducible refine r_op ?_)
  | (with_reducible refine r_un ?_)
  | (with_reducible refine r_rI0 ?_)
  | ((with_reducible refine r_rI ?cc ?_); (case cc => walk_at "side"))
  | (with_reducible refine r_rU ?_)
  | (with_reducible refine r_eqI ?_)
  | (with_reducible refine r_neI ?_)
  | (with_reducible refine r_eqB ?_)
  | (with_reducible refine r_neB ?_)
  | (with_reducible refine r_eqS ?_)
  | (with_reducible refine r_neS ?_)
  | ((with_reducible refine r_eq ?ee ?_); (case ee => exact rfl))
  | ((with_reducible refine r_ne ?ee ?_); (case ee => exact rfl))
  | ((with_reducible refine r_ixL (v := ?vv) (xs := ?xx) ?hh ?ee ?_); (case hh => (refine SqL.of ?_; walk_at "hp")); (case ee => exact rfl))
  | (with_reducible refine r_cb ?_)
  | (with_reducible refine r_call ?_)
  | (with_reducible refine r_cons ?_)
  | (with_reducible refine r_nil ?_)
  | (with_reducible refine r_lst ?_)
  | (with_reducible refine r_tup ?_)
  | ((with_reducible refine r_new ?cc ?_); (case cc => walk_at "side"))
  | (with_reducible refine r_exbl ?_)
  | (with_reducible refine r_exint ?_)
  | (with_reducible refine r_exint2 ?_)
  | (with_reducible refine r_exblL ?_)
  | (with_reducible refine r_ex2 ?_)
  | (with_reducible refine r_test ?_)
  | (with_reducible refine r_tB ?_)
  | (with_reducible refine r_not ?_)
  | (with_reducible refine r_and ?_)
  | (with_reducible refine r_or ?_)
  | (with_reducible refine r_andV ?_)
  | (with_reducible refine r_orV ?_)
  | (with_reducible refine r_notV ?_)
  | (with_reducible refine r_tif ?_)
  | (with_reducible refine r_iteT ?_)
  | (with_reducible refine r_iteNT ?_)
  | (with_reducible refine r_iteNF ?_)
  | (with_reducible refine r_iteF ?_)
  | (with_reducible refine r_seq ?_)
  | (with_reducible refine r_next ?_)
  | (with_reducible refine r_brk ?_)
  | (with_reducible refine r_cont ?_)
  | (with_reducible refine r_asg ?_)
  | (with_reducible refine r_gname ?_)
  | (with_reducible refine r_ret ?_)
  | (with_reducible refine r_retN ?_)
  | (with_reducible refine r_drop ?_)
  | (with_reducible refine r_if ?_)
  | ((with_reducible refine r_aug (x := ?xx) ?ee ?_); (case ee => exact rfl))
  | (with_reducible refine r_ipI ?_)
  | (with_reducible refine r_augS ?_)
  | (with_reducible refine r_gsub ?_)
  | ((with_reducible refine r_setL (xs := ?xx) (m := ?mm) ?hh ?ee ?_); (case hh => walk_at "hp"); (case ee => exact rfl))
  | (with_reducible refine r_par ?_)
  | (with_reducible refine r_bm ?_)
  | ((with_reducible refine r_tyL (xs := ?xx) ?hh ?_); (case hh => walk_at "hp"))
  | ((with_reducible refine r_append (xs := ?xx) ?hh ?ll ?_); (case hh => walk_at "hp"); (case ll => walk_at "side"))
  | (walk_at "isi")
  | (with_reducible refine r_for ?_)
  | (with_reducible refine r_iList ?_)
  | (with_reducible refine r_iTup ?_)
  | (with_reducible refine r_iR1 ?_)
  | (with_reducible refine r_iR2 ?_)
  | (with_reducible refine r_lc ?_)
  | (with_reducible refine r_yes ?_)
  | ((with_reducible refine r_lenS ?ll ?_); (case ll => walk_at "side"))
  | (with_reducible refine r_leS ?_)
  | (with_reducible refine r_chain ?_)
  | (with_reducible refine r_tM1 ?_)
  | (with_reducible refine r_exS ?_)
  | ((with_reducible refine r_tupL (xs := ?xx) ?hh ?_); (case hh => walk_at "hp"))
  | ((with_reducible refine r_listL (xs := ?xx) ?hh ?_); (case hh => walk_at "hp"))
  | ((with_reducible refine r_listT (xs := ?xx) ?hh ?_); (case hh => walk_at "hp"))
  | ((with_reducible refine r_ixT (v := ?vv) (xs := ?xx) ?hh ?ee ?_); (case hh => (refine SqT.of ?_; walk_at "hp")); (case ee => exact rfl))
  | (with_reducible refine r_sl ?_)
  | (with_reducible refine r_nopart ?_)
  | (with_reducible refine r_part ?_)
  | (with_reducible refine r_exI ?_)
  | ((with_reducible refine r_slL (xs := ?xx) ?hh ?_); (case hh => first | assumption | (refine SqL.of ?_; walk_at "hp") | (refine Same.seq (by assumption) (by assumption))))
  | ((with_reducible refine r_cat (xs := ?xx) (zs := ?zz) ?hh ?ii ?ll ?_); (case hh => walk_at "hp"); (case ii => walk_at "hp"); (case ll => walk_at "side"))
  | ((with_reducible refine r_lenL (xs := ?xx) ?hh ?_); (case hh => walk_at "hp"))
  | ((with_reducible refine r_lenT (xs := ?xx) ?hh ?_); (case hh => walk_at "hp"))
  | ((with_reducible refine r_gTup (xs := ?xx) ?hh ?ll ?_); (case hh => walk_at "hp"); (case ll => exact rfl))
  | (with_reducible refine r_gCons ?_)
  | (with_reducible refine r_gNil ?_)
  | ((with_reducible refine r_iteDT ?cc ?_); (case cc => walk_at "cond"))
  | ((with_reducible refine r_iteDF ?cc ?_); (case cc => walk_at "cond"))
  | ((with_reducible refine r_iteNDT ?cc ?_); (case cc => walk_at "cond"))
  | ((with_reducible refine r_iteNDF ?cc ?_); (case cc => walk_at "cond"))
  ))
local macro_rules | `(tactic| walk_at "go") => `(tactic| repeat (walk_at "s"))

theorem ok_l_same_piece {f : Addr} {fd : FuncData} (d : Nat) (F : Fun K "_law_same_piece" "_law_same_piece" s_l_same_piece f fd) (B : Bl mg) (h_l_same_piece : Has P w K mg base "_law_same_piece" d ["_law_found", "_law_due"] (spSame d)) : FnOk P w K mg base CX0 (d + 1) f fd ["_law_found", "_law_due"] (spSame (d + 1)) := by
  refine F.ok sc_l_same_piece (fun vs H Q E h => ?_) (fun cdv A outer s H vs Q E hr h => ?_)
  · obtain ⟨x, y, rfl, _⟩ := h
    rfl
  · obtain ⟨x, y, rfl, h, k⟩ := h
    refine ⟨_, (pss_cons (ps_if (pt_val (pe_callB (call_isiKK (K := K)) (by rfl) B.b_isinstance (by decide +kernel) (pa_cons (pv 1) (pa_cons (pe_bltn (v := .ty "tuple") (by rfl) B.b_tuple (by decide +kernel) rfl) pa_nil))))
    (pss_cons (ps_if (PW.pt (pw_or (pt_not (pt_val (pe_callB (call_isiKK (K := K)) (by rfl) B.b_isinstance (by decide +kernel) (pa_cons (pv 0) (pa_cons (pe_bltn (v := .ty "tuple") (by rfl) B.b_tuple (by decide +kernel) rfl) pa_nil))))) (pw_or1 (pt_cmpR op_ne (pe_callB (call_lenK (K := K)) (by rfl) B.b_len PySem.boot_len (pa_cons (pv 0) pa_nil)) (pe_callB (call_lenK (K := K)) (by rfl) B.b_len PySem.boot_len (pa_cons (pv 1) pa_nil)) (nomark _)))))
    (pss_one (ps_ret pe_bl))
    pss_nil)
    (pss_one (ps_ret (pe_callB (call_allK (K := K)) (by rfl) B.b_all (by decide +kernel) (pa_cons (pe_lc (own := [("_law_k", 2)]) rfl sc_l_same_piece.nd (pi_range1 (by rfl) B.b_range (pa_cons (pe_callB (call_lenK (K := K)) (by rfl) B.b_len PySem.boot_len (pa_cons (pv 1) pa_nil)) pa_nil)) (blkOk_by (N := ["_law_found", "_law_due", "_law_k"]) (sc := defScope s_l_same_piece) (by decide +kernel)) (fun _ _ _ _ _ => (pg_name (i := 2) sc_l_same_piece.nd rfl (.inl rfl))) (fun _ _ _ _ _ => pts_nil) (fun _ _ _ _ _ => (pe_callH h_l_same_piece (hr.mono (by first | decide | omega)) (pa_cons (pe_ix (ix_tupK (K := K)) (pv 0) (pv 2) (fun _ _ => rfl)) (pa_cons (pe_ix (ix_tupK (K := K)) (pv 1) (pv 2) (fun _ _ => rfl)) pa_nil))))) pa_nil)))))
    pss_nil)
    (pss_cons (ps_if (PW.pt (pw_or (pt_val (pe_callB (call_isiKK (K := K)) (by rfl) B.b_isinstance (by decide +kernel) (pa_cons (pv 0) (pa_cons (pe_bltn (v := .ty "bool") (by rfl) B.b_bool (by decide +kernel) rfl) pa_nil)))) (pw_or1 (pt_cmpR op_ne (pe_callB (call_isiKK (K := K)) (by rfl) B.b_isinstance (by decide +kernel) (pa_cons (pv 0) (pa_cons (pe_bltn (v := .ty "int") (by rfl) B.b_int (by decide +kernel) rfl) pa_nil))) (pe_callB (call_isiKK (K := K)) (by rfl) B.b_isinstance (by decide +kernel) (pa_cons (pv 1) (pa_cons (pe_bltn (v := .ty "int") (by rfl) B.b_int (by decide +kernel) rfl) pa_nil))) (nomark _)))))
    (pss_one (ps_ret pe_bl))
    pss_nil)
    (pss_one (ps_ret (pe_and (pe_callB call_isiT (by rfl) B.b_isinstance (by decide +kernel) (pa_cons (pv 0) (pa_cons (pe_tup (pa_cons (pe_bltn (v := .ty "int") (by rfl) B.b_int (by decide +kernel) rfl) (pa_cons (pe_bltn (v := .ty "str") (by rfl) B.b_str (by decide +kernel) rfl) pa_nil))) pa_nil))) (pe_one (pe_cmpR op_eq (pv 0) (pv 1) (nomark _)))))))), ?_⟩
    rcases h with ⟨i, rfl, rfl⟩ | ⟨z, rfl, rfl⟩ | ⟨a, b, xs, ys, rfl, rfl, ha, hb, hl, hl2, hs⟩
    · walk_at "go"
      intro tp ntp
      walk_at "go"
      refine r_isiT_int upd_same ?_
      walk_at "go"
      show Q (.bl (decide (i = i))) _
      rw [decide_eq_true rfl]
      exact k _ (Same.new0 ntp)
    · walk_at "go"
      intro tp ntp
      walk_at "go"
      refine r_isiT_str upd_same ?_
      walk_at "go"
      show Q (.bl (decide (z = z))) _
      rw [decide_eq_true rfl]
      exact k _ (Same.new0 ntp)
    · walk_at "go"
      refine u_lc1 ⟨by omega, by omega⟩ (fun D i acc H' => (acc = (List.replicate i true).map V.bl ∧ i ≤ ys.length) ∧ Same H H') ?_ ?_ ?_
      · exact fun D hD => ⟨⟨rfl, by omega⟩, Same.new0 hD⟩
      · rintro D i acc H' hD hi hacc ⟨⟨ea, _⟩, sm⟩
        have hi' : i < ys.length := by omega
        have hx : xs[i]? = some xs[i] := List.getElem?_eq_getElem (by omega)
        have hy : ys[i]? = some ys[i] := List.getElem?_eq_getElem hi'
        have hxa : atI xs (i : Int) = some xs[i] := at_nat hx
        have hya : atI ys (i : Int) = some ys[i] := at_nat hy
        walk_at "go"
        refine ⟨rfl, ?_⟩
        walk_at "go"
        refine r_ixT (SqT.of (sm _ _ ha)) hxa ?_
        walk_at "go"
        refine r_ixT (SqT.of (sm _ _ hb)) hya ?_
        walk_at "go"
        refine ⟨_, _, rfl, (hs i _ _ hx hy).tk (Tk.same sm), fun H2 s2 => ?_⟩
        have al : acc.length = i := by rw [ea]; simp
        refine u_push (s2 _ _ hacc) (by omega) ⟨⟨?_, by omega⟩, Same.put (sm.trans s2) hD⟩
        rw [ea, List.replicate_succ', List.map_append]
        rfl
      · rintro D acc H' hD hacc ⟨⟨ea, _⟩, sm⟩
        walk_at "go"
        rw [ea] at hacc
        refine r_all (SqL.of hacc) ?_
        rw [show ((List.replicate ((ys.length : Int)).toNat true).all id) = true by simp]
        exact k _ sm
end
end My

set_option Elab.async false
set_option linter.all false
set_option maxRecDepth 100000
namespace My
open PySem PySem.Spec PyProof.Rows L2 RT
theorem same_of2 {H : Hp} {n : Nat} {a b : Addr} {x y u v : V} (h1 : H a = some (.tup [x, y])) (h2 : H b = some (.tup [u, v])) (hx : SameV H n x u) (hy : SameV H n y v) : SameV H (n + 1) (.ref a) (.ref b) :=
  .inr (.inr ⟨a, b, _, _, rfl, rfl, h1, h2, rfl, by simp, fun i s t hs ht => by
    match i, hs, ht with
    | 0, hs, ht => cases hs; cases ht; exact hx
    | 1, hs, ht => cases hs; cases ht; exact hy⟩)
theorem same_of3 {H : Hp} {n : Nat} {a b : Addr} {x y z u v w : V} (h1 : H a = some (.tup [x, y, z])) (h2 : H b = some (.tup [u, v, w])) (hx : SameV H n x u) (hy : SameV H n y v) (hz : SameV H n z w) : SameV H (n + 1) (.ref a) (.ref b) :=
  .inr (.inr ⟨a, b, _, _, rfl, rfl, h1, h2, rfl, by simp, fun i s t hs ht => by
    match i, hs, ht with
    | 0, hs, ht => cases hs; cases ht; exact hx
    | 1, hs, ht => cases hs; cases ht; exact hy
    | 2, hs, ht => cases hs; cases ht; exact hz⟩)
theorem same_at {H : Hp} : ∀ {p : Prog} {d : Nat} {xs ys : List V}, PrAt H p xs → PrAt H p ys → Wf BC BC d p → ∀ (i : Nat) (u v : V), xs[i]? = some u → ys[i]? = some v → SameV H (2 * d + 2) u v
  | .nil, d, xs, ys, h, h', _, i, u, v, hu, hv => by
    have e : xs = [] := h
    rw [e] at hu
    cases hu
  | .step w n r, d, xs, ys, h, h', hw, i, u, v, hu, hv => by
    obtain ⟨c, zs, rfl, h1, h2⟩ := h
    obtain ⟨c', zs', rfl, h1', h2'⟩ := h'
    match i, hu, hv with
    | 0, hu, hv =>
      cases hu; cases hv
      exact same_of2 h1 h1' (.inr (.inl ⟨_, rfl, rfl⟩)) (.inr (.inl ⟨_, rfl, rfl⟩))
    | i + 1, hu, hv => exact same_at h2 h2' (WfL.step_iff.mp hw).2.2 i u v hu hv
  | .turn k r, d, xs, ys, h, h', hw, i, u, v, hu, hv => by
    obtain ⟨c, zs, rfl, h1, h2⟩ := h
    obtain ⟨c', zs', rfl, h1', h2'⟩ := h'
    match i, hu, hv with
    | 0, hu, hv =>
      cases hu; cases hv
      exact same_of2 h1 h1' (.inr (.inl ⟨_, rfl, rfl⟩)) (.inl ⟨_, rfl, rfl⟩)
    | i + 1, hu, hv => exact same_at h2 h2' (WfL.turn_iff.mp hw).2 i u v hu hv
  | .rep k b r, 0, xs, ys, h, h', hw, i, u, v, hu, hv => hw.elim
  | .rep k b r, d + 1, xs, ys, h, h', hw, i, u, v, hu, hv => by
    obtain ⟨c, q, bs, zs, rfl, h1, h3, h4, h2⟩ := h
    obtain ⟨c', q', bs', zs', rfl, h1', h3', h4', h2'⟩ := h'
    match i, hu, hv with
    | 0, hu, hv =>
      cases hu; cases hv
      have l := h4.length
      have l' := h4'.length
      have hb := hw.2.1
      exact same_of3 h1 h1' (.inr (.inl ⟨_, rfl, rfl⟩)) (.inl ⟨_, rfl, rfl⟩) (.inr (.inr ⟨q, q', bs, bs', rfl, rfl, h3, h3', by omega, by omega, fun j s t hs ht => same_at h4 h4' hw.2.2.1 j s t hs ht⟩))
    | i + 1, hu, hv => exact same_at h2 h2' hw.2.2.2 i u v hu hv
  | .mir b r, 0, xs, ys, h, h', hw, i, u, v, hu, hv => hw.elim
  | .mir b r, d + 1, xs, ys, h, h', hw, i, u, v, hu, hv => by
    obtain ⟨c, q, bs, zs, rfl, h1, h3, h4, h2⟩ := h
    obtain ⟨c', q', bs', zs', rfl, h1', h3', h4', h2'⟩ := h'
    match i, hu, hv with
    | 0, hu, hv =>
      cases hu; cases hv
      have l := h4.length
      have l' := h4'.length
      have hb := hw.1
      exact same_of2 h1 h1' (.inr (.inl ⟨_, rfl, rfl⟩)) (.inr (.inr ⟨q, q', bs, bs', rfl, rfl, h3, h3', by omega, by omega, fun j s t hs ht => same_at h4 h4' hw.2.1 j s t hs ht⟩))
    | i + 1, hu, hv => exact same_at h2 h2' hw.2.2 i u v hu hv
/-- two laid programs of one text have the same content -/
theorem same_pr {H : Hp} {p : Prog} {d : Nat} {a b : Addr} (h : PrIs H a p) (h' : PrIs H b p) (hw : Wf BC BC d p) (hl : p.len ≤ 1000) : SameV H (2 * d + 3) (.ref a) (.ref b) := by
  obtain ⟨xs, hx, hp⟩ := h
  obtain ⟨ys, hy, hq⟩ := h'
  have l := hp.length
  have l' := hq.length
  exact .inr (.inr ⟨a, b, xs, ys, rfl, rfl, hx, hy, by omega, by omega, fun i u v hu hv => same_at hp hq hw i u v hu hv⟩)
section
variable {P : Program} {w : World} {K : PySem.W.Frag} {mg : Str → Option Value} {base : Heap}
theorem has_same {f : Addr} {fd : FuncData} (F : Fun K "_law_same_piece" "_law_same_piece" s_l_same_piece f fd) (B : Bl mg) (g : mg "_law_same_piece" = some (.ref f)) (b : Binds K fd ["_law_found", "_law_due"] []) : ∀ d, Has P w K mg base "_law_same_piece" d ["_law_found", "_law_due"] (spSame d)
  | 0 => ⟨f, fd, ⟨fun _ _ _ _ ⟨_, _, _, h, _⟩ => h.elim, fun _ _ _ _ _ _ _ _ _ _ _ _ _ ⟨_, _, _, h, _⟩ => h.elim⟩, g, F.kp, b⟩
  | d + 1 => ⟨f, fd, ok_l_same_piece d F B (has_same F B g b d), g, F.kp, b⟩
end
end My

set_option Elab.async false
set_option linter.all false
set_option maxRecDepth 100000
set_option maxHeartbeats 4000000
namespace My
open PySem PySem.Spec PyProof.Rows L2
/-! ### a program parted -/
namespace Prog
def one : Prog → Prog
  | .nil => .nil
  | .step w n _ => .step w n .nil
  | .turn k _ => .turn k .nil
  | .rep k b _ => .rep k b .nil
  | .mir b _ => .mir b .nil
def rest : Prog → Prog
  | .nil => .nil
  | .step _ _ r => r
  | .turn _ r => r
  | .rep _ _ r => r
  | .mir _ r => r
def cutF (q : Int) (b x : Prog) : Prog := if 0 < q then .rep q b x else x
def tl (j : Int) (b : Prog) : Prog := if 1 < j then .rep (j - 1) b .nil else .nil
def part : Prog → Int → Prog × Prog
  | .nil, _ => (.nil, .nil)
  | .step w m r, n => if 1 ≤ n then (.step w m (part r (n - 1)).1, (part r (n - 1)).2) else (.nil, .step w m r)
  | .turn k r, n => if 1 ≤ n then (.turn k (part r (n - 1)).1, (part r (n - 1)).2) else (.nil, .turn k r)
  | .rep k b r, n => if k * b.size ≤ n then (.rep k b (part r (n - k * b.size)).1, (part r (n - k * b.size)).2)
      else if 0 < n then (cutF (n / b.size) b (part b (n % b.size)).1, ((part b (n % b.size)).2.app (tl (k - n / b.size) b)).app r) else (.nil, .rep k b r)
  | .mir b r, n => if b.size ≤ n then (.mir b (part r (n - b.size)).1, (part r (n - b.size)).2)
      else if 0 < n then (.mir (part b n).1 .nil, .mir (part b n).2 r) else (.nil, .mir b r)
/-- the first command parted -/
def cpart : Prog → Int → Prog × Prog
  | .rep k b _, n => (cutF (n / b.size) b (part b (n % b.size)).1, (part b (n % b.size)).2.app (tl (k - n / b.size) b))
  | .mir b _, n => (.mir (part b n).1 .nil, .mir (part b n).2 .nil)
  | _, _ => (.nil, .nil)
theorem one_rest : ∀ p : Prog, p.one.app p.rest = p
  | .nil => rfl
  | .step _ _ _ => rfl
  | .turn _ _ => rfl
  | .rep _ _ _ => rfl
  | .mir _ _ => rfl
theorem size_pos {L : Nat} {C T : Int} {d : Nat} {p : Prog} (h : WfL L C T d p) (hl : 1 ≤ p.len) : 1 ≤ p.size := by
  have := len_le_size h
  omega
theorem len_pos {p : Prog} (h : 1 ≤ p.size) : 1 ≤ p.len := by
  cases p with
  | nil => rw [size] at h; omega
  | _ => rw [len]; omega
theorem rep_pos {k s : Int} (h : 1 ≤ k) (h' : 1 ≤ s) : 1 ≤ k * s := Int.le_trans h' (by
  have := Int.mul_le_mul_of_nonneg_right h (by omega : 0 ≤ s)
  omega)
theorem part_le0 {L : Nat} {C T : Int} : ∀ {d : Nat} {p : Prog} {n : Int}, WfL L C T d p → n ≤ 0 → part p n = (.nil, p)
  | _, .nil, n, _, _ => by rw [part]
  | d, .step w m r, n, h, hn => by rw [part, if_neg (by omega)]
  | d, .turn k r, n, h, hn => by rw [part, if_neg (by omega)]
  | 0, .rep _ _ _, n, h, hn => h.elim
  | d + 1, .rep k b r, n, h, hn => by
    have := rep_pos h.1.1 (size_pos h.2.2.1 h.2.1.1)
    rw [part, if_neg (by omega), if_neg (by omega)]
  | 0, .mir _ _, n, h, hn => h.elim
  | d + 1, .mir b r, n, h, hn => by
    have := size_pos h.2.1 h.1.1
    rw [part, if_neg (by omega), if_neg (by omega)]
theorem part_eq {p : Prog} {n : Int} (h : p ≠ .nil) (h1 : 1 ≤ p.one.size) : part p n = if p.one.size ≤ n then (p.one.app (part p.rest (n - p.one.size)).1, (part p.rest (n - p.one.size)).2) else if 0 < n then ((cpart p n).1, (cpart p n).2.app p.rest) else (.nil, p) := by
  cases p with
  | nil => exact absurd rfl h
  | step w m r =>
    rw [part, one, size, size]
    by_cases h : 1 ≤ n
    · rw [if_pos h, if_pos (by omega)]; rfl
    · rw [if_neg h, if_neg (by omega), if_neg (by omega)]
  | turn k r =>
    rw [part, one, size, size]
    by_cases h : 1 ≤ n
    · rw [if_pos h, if_pos (by omega)]; rfl
    · rw [if_neg h, if_neg (by omega), if_neg (by omega)]
  | rep k b r =>
    rw [part, one, size, size, Int.add_zero]
    rfl
  | mir b r =>
    rw [part, one, size, size, Int.add_zero]
    rfl
theorem size_cutF {q : Int} (h : 0 ≤ q) (b x : Prog) : (cutF q b x).size = q * b.size + x.size := by
  unfold cutF
  by_cases e : 0 < q
  · rw [if_pos e, size]
  · obtain rfl : q = 0 := by omega
    rw [if_neg e]; simp
theorem size_tl {j : Int} (h : 1 ≤ j) (b : Prog) : (tl j b).size = (j - 1) * b.size := by
  unfold tl
  by_cases e : 1 < j
  · rw [if_pos e, size, size, Int.add_zero]
  · obtain rfl : j = 1 := by omega
    rw [if_neg e, size]; simp
theorem len_tl (j : Int) (b : Prog) : (tl j b).len ≤ 1 := by
  unfold tl
  split
  · rw [len, len]; omega
  · rw [len]; omega
theorem len_cutF (q : Int) (b x : Prog) : (cutF q b x).len ≤ x.len + 1 := by
  unfold cutF
  split
  · rw [len]; omega
  · omega
structure PartOk (L : Nat) (C T : Int) (d : Nat) (p : Prog) (n : Int) (x : Prog × Prog) : Prop where
  s1 : x.1.size = n
  s2 : x.2.size = p.size - n
  w1 : WfL (L * (d + 1)) C T d x.1
  w2 : WfL (L * (d + 1)) C T d x.2
  l1 : x.1.len ≤ p.len + L * d
  l2 : x.2.len ≤ p.len + L * d
theorem PartOk.cons {L : Nat} {C T : Int} {d : Nat} {p : Prog} {n : Int} {x : Prog × Prog} (c : Prog) (hc : WfL L C T d c) (h : PartOk L C T d p n x) : PartOk L C T d (c.app p) (c.size + n) (c.app x.1, x.2) := by
  obtain ⟨s1, s2, w1, w2, l1, l2⟩ := h
  exact ⟨by rw [size_app, s1], by rw [size_app, s2]; omega, WfL.app (WfL.wide (by rw [Nat.mul_add]; omega) hc) w1, w2, by rw [len_app, len_app]; omega, by rw [len_app]; show x.2.len ≤ _; omega⟩
theorem PartOk.none {L : Nat} {C T : Int} {d : Nat} {p : Prog} (hc : WfL L C T d p) : PartOk L C T d p 0 (.nil, p) :=
  ⟨by rw [size], by show p.size = p.size - 0; omega, WfL.nil, WfL.wide (by rw [Nat.mul_add]; omega) hc, by rw [len]; omega, by show p.len ≤ _; omega⟩
theorem part_ok {L : Nat} {C T : Int} : ∀ {d : Nat} {p : Prog} {n : Int}, WfL L C T d p → 0 ≤ n → n ≤ p.size → PartOk L C T d p n (part p n)
  | _, .nil, n, _, h0, h1 => by
    rw [size] at h1
    obtain rfl : n = 0 := by omega
    rw [part]
    exact ⟨by rw [size], by rw [size]; rfl, WfL.nil, WfL.nil, by rw [len]; omega, by rw [len]; omega⟩
  | d, .step w m r, n, h, h0, h1 => by
    rw [part]
    by_cases e : 1 ≤ n
    · rw [if_pos e]
      have hw := WfL.step_iff.mp h
      rw [size] at h1
      have q := PartOk.cons (.step w m .nil) (WfL.step_iff.mpr ⟨hw.1, hw.2.1, WfL.nil⟩) (part_ok (n := n - 1) hw.2.2 (by omega) (by omega))
      rw [size, size, show (1 + 0 : Int) + (n - 1) = n by omega] at q
      exact q
    · rw [if_neg e]
      obtain rfl : n = 0 := by omega
      exact PartOk.none h
  | d, .turn k r, n, h, h0, h1 => by
    rw [part]
    by_cases e : 1 ≤ n
    · rw [if_pos e]
      have hw := WfL.turn_iff.mp h
      rw [size] at h1
      have q := PartOk.cons (.turn k .nil) (WfL.turn_iff.mpr ⟨hw.1, WfL.nil⟩) (part_ok (n := n - 1) hw.2 (by omega) (by omega))
      rw [size, size, show (1 + 0 : Int) + (n - 1) = n by omega] at q
      exact q
    · rw [if_neg e]
      obtain rfl : n = 0 := by omega
      exact PartOk.none h
  | 0, .rep _ _ _, n, h, h0, h1 => h.elim
  | d + 1, .rep k b r, n, h, h0, h1 => by
    obtain ⟨k1, b1, wb, wr⟩ := id h
    rw [part]
    rw [size] at h1
    by_cases e : k * b.size ≤ n
    · rw [if_pos e]
      have q := PartOk.cons (.rep k b .nil) (show WfL L C T (d + 1) (.rep k b .nil) from ⟨k1, b1, wb, WfL.nil⟩) (part_ok (n := n - k * b.size) wr (by omega) (by omega))
      rw [size, size, Int.add_zero, show k * b.size + (n - k * b.size) = n by omega] at q
      exact q
    · rw [if_neg e]
      by_cases e0 : 0 < n
      · rw [if_pos e0]
        have sb := size_pos wb b1.1
        have m0 := Int.emod_nonneg n (show b.size ≠ 0 by omega)
        have m1 := Int.emod_lt_of_pos n (show 0 < b.size by omega)
        have q0 : 0 ≤ n / b.size := Int.ediv_nonneg h0 (by omega)
        have q1 : n / b.size < k := Int.ediv_lt_of_lt_mul (by omega) (by omega)
        have nq := Int.mul_ediv_add_emod n b.size
        obtain ⟨s1, s2, w1, w2, l1, l2⟩ := part_ok (n := n % b.size) wb m0 (by omega)
        generalize n % b.size = m at *
        generalize n / b.size = q at *
        have hL : L * (d + 1 + 1) = L * (d + 1) + L := by rw [Nat.mul_add L (d + 1) 1]; omega
        have hL' : L * (d + 1) = L * d + L := by rw [Nat.mul_add L d 1]; omega
        have wB : WfL (L * (d + 1 + 1)) C T d b := WfL.wide (by omega) wb
        have w1 : WfL (L * (d + 1 + 1)) C T (d + 1) (part b m).1 := WfL.wide (by omega) (WfL.mono (Int.le_refl _) (Int.le_refl _) (by omega) w1)
        have w2 : WfL (L * (d + 1 + 1)) C T (d + 1) (part b m).2 := WfL.wide (by omega) (WfL.mono (Int.le_refl _) (Int.le_refl _) (by omega) w2)
        have lt := len_tl (k - q) b
        have lc := len_cutF q b (part b m).1
        refine ⟨?_, ?_, ?_, ?_, ?_, ?_⟩
        · show (cutF q b (part b m).1).size = n
          rw [size_cutF q0, s1, Int.mul_comm]; exact nq
        · show (((part b m).2.app (tl (k - q) b)).app r).size = _
          rw [size_app, size_app, size_tl (by omega), s2, size, Int.sub_mul, Int.sub_mul, Int.one_mul]
          have := Int.mul_comm b.size q
          omega
        · show WfL _ C T (d + 1) (cutF q b (part b m).1)
          unfold cutF
          split
          · exact ⟨by omega, by omega, wB, w1⟩
          · exact w1
        · refine WfL.app (WfL.app w2 ?_) (WfL.wide (by omega) wr)
          unfold tl
          split
          · exact ⟨by omega, by omega, wB, WfL.nil⟩
          · exact WfL.nil
        · show (cutF q b (part b m).1).len ≤ _
          rw [len]
          omega
        · show (((part b m).2.app (tl (k - q) b)).app r).len ≤ _
          rw [len_app, len_app, len]
          omega
      · rw [if_neg e0]
        obtain rfl : n = 0 := by omega
        exact PartOk.none h
  | 0, .mir _ _, n, h, h0, h1 => h.elim
  | d + 1, .mir b r, n, h, h0, h1 => by
    obtain ⟨b1, wb, wr⟩ := id h
    rw [part]
    rw [size] at h1
    by_cases e : b.size ≤ n
    · rw [if_pos e]
      have q := PartOk.cons (.mir b .nil) (show WfL L C T (d + 1) (.mir b .nil) from ⟨b1, wb, WfL.nil⟩) (part_ok (n := n - b.size) wr (by omega) (by omega))
      rw [size, size, Int.add_zero, show b.size + (n - b.size) = n by omega] at q
      exact q
    · rw [if_neg e]
      by_cases e0 : 0 < n
      · rw [if_pos e0]
        obtain ⟨s1, s2, w1, w2, l1, l2⟩ := part_ok (n := n) wb h0 (by omega)
        have hL : L * (d + 1 + 1) = L * (d + 1) + L := by rw [Nat.mul_add L (d + 1) 1]; omega
        have hL' : L * (d + 1) = L * d + L := by rw [Nat.mul_add L d 1]; omega
        have p1 : 1 ≤ (part b n).1.len := len_pos (by omega)
        have p2 : 1 ≤ (part b n).2.len := len_pos (by omega)
        refine ⟨?_, ?_, ?_, ?_, ?_, ?_⟩
        · show (Prog.mir (part b n).1 .nil).size = n
          rw [size, size, s1]; omega
        · show (Prog.mir (part b n).2 r).size = _
          rw [size, size, s2]; omega
        · exact ⟨⟨p1, by omega⟩, WfL.wide (by omega) w1, WfL.nil⟩
        · exact ⟨⟨p2, by omega⟩, WfL.wide (by omega) w2, WfL.wide (by omega) wr⟩
        · show (Prog.mir (part b n).1 .nil).len ≤ _
          rw [len, len, len]; omega
        · show (Prog.mir (part b n).2 r).len ≤ _
          rw [len, len]; omega
      · rw [if_neg e0]
        obtain rfl : n = 0 := by omega
        exact PartOk.none h
end Prog
theorem First.one {H : Hp} {r r' : Prog} {x : V} (h : First H r x r') : PrAt H r.one [x] ∧ r.rest = r' ∧ r ≠ .nil := by
  cases r with
  | nil => exact h.elim
  | step w n r => obtain ⟨c, e, h1, e2⟩ := h; exact ⟨⟨c, [], by rw [e], h1, rfl⟩, e2.symm, by simp⟩
  | turn k r => obtain ⟨c, e, h1, e2⟩ := h; exact ⟨⟨c, [], by rw [e], h1, rfl⟩, e2.symm, by simp⟩
  | rep k b r => obtain ⟨c, q, e, h1, ⟨zs, h2, h3⟩, e2⟩ := h; exact ⟨⟨c, q, zs, [], by rw [e], h1, h2, h3, rfl⟩, e2.symm, by simp⟩
  | mir b r => obtain ⟨c, q, e, h1, ⟨zs, h2, h3⟩, e2⟩ := h; exact ⟨⟨c, q, zs, [], by rw [e], h1, h2, h3, rfl⟩, e2.symm, by simp⟩
theorem WfL.one {L : Nat} {C T : Int} {d : Nat} {p : Prog} (h : WfL L C T d p) : WfL L C T d p.one ∧ WfL L C T d p.rest := WfL.split (p := p.one) (q := p.rest) (by rw [Prog.one_rest]; exact h)
def rDivmod : List V → Hp → VK → Prop := fun xs H Q => ∃ i j, xs = [.int i, .int j] ∧ CDivP i j ∧ ∀ p, H p = none → Q (.ref p) (upd H p (.tup [.int (i / j), .int (i % j)]))
theorem call_divmodR {X : Cx} : CallR X (.builtin "divmod") rDivmod := call_divmodW
theorem r_divmod {i j : Int} {H : Hp} {Q : VK} (h : 0 < j) (h9 : j.natAbs.log2 < 9000) (q : ∀ p, H p = none → Q (.ref p) (upd H p (.tup [.int (i / j), .int (i % j)]))) : rDivmod [.int i, .int j] H Q := by
  refine ⟨i, j, rfl, ⟨h, ?_⟩, q⟩
  unfold Builtin.divisionGoesByPylong
  have e : (j == 0) = false := by simp; omega
  have l : j.natAbs.log2 / 30 + 1 ≤ 300 := by omega
  simp only [e]
  simp
  omega
end My

set_option Elab.async false
set_option linter.all false
set_option maxRecDepth 100000
set_option maxHeartbeats 4000000

namespace My
open PySem PySem.Spec PyProof.Rows L2
section
variable {P : Program} {w : World} {K : PySem.W.Frag} {mg : Str → Option Value} {base : Heap}
local macro_rules | `(tactic| walk_at "isi") => `(tactic| (first
  | (with_reducible refine r_is_int_int ?_)
  | (with_reducible refine r_is_int_bool ?_)
  | (with_reducible refine r_is_int_str ?_)
  | (with_reducible refine r_is_int_list ?_)
  | (with_reducible refine r_is_int_tuple ?_)
  | (with_reducible refine r_is_bool_int ?_)
  | (with_reducible refine r_is_bool_bool ?_)
  | (with_reducible refine r_is_bool_str ?_)
  | (with_reducible refine r_is_bool_list ?_)
  | (with_reducible refine r_is_bool_tuple ?_)
  | (with_reducible refine r_is_str_int ?_)
  | (with_reducible refine r_is_str_bool ?_)
  | (with_reducible refine r_is_str_str ?_)
  | (with_reducible refine r_is_str_list ?_)
  | (with_reducible refine r_is_str_tuple ?_)
  | ((with_reducible refine r_is_list_int (xs := ?xx) ?hh ?_); (case hh => walk_at "hp"))
  | ((with_reducible refine r_is_list_bool (xs := ?xx) ?hh ?_); (case hh => walk_at "hp"))
  | ((with_reducible refine r_is_list_str (xs := ?xx) ?hh ?_); (case hh => walk_at "hp"))
  | ((with_reducible refine r_is_list_list (xs := ?xx) ?hh ?_); (case hh => walk_at "hp"))
  | ((with_reducible refine r_is_list_tuple (xs := ?xx) ?hh ?_); (case hh => walk_at "hp"))
  | ((with_reducible refine r_is_tuple_int (xs := ?xx) ?hh ?_); (case hh => walk_at "hp"))
  | ((with_reducible refine r_is_tuple_bool (xs := ?xx) ?hh ?_); (case hh => walk_at "hp"))
  | ((with_reducible refine r_is_tuple_str (xs := ?xx) ?hh ?_); (case hh => walk_at "hp"))
  | ((with_reducible refine r_is_tuple_list (xs := ?xx) ?hh ?_); (case hh => walk_at "hp"))
  | ((with_reducible refine r_is_tuple_tuple (xs := ?xx) ?hh ?_); (case hh => walk_at "hp"))
  | (with_reducible refine r_is_NoneType_int ?_)
  | (with_reducible refine r_is_NoneType_bool ?_)
  | (with_reducible refine r_is_NoneType_str ?_)
  | (with_reducible refine r_is_NoneType_list ?_)
  | (with_reducible refine r_is_NoneType_tuple ?_)))
local macro_rules | `(tactic| walk_at "ne") => `(tactic| first | assumption | (refine Ne.symm ?_; assumption) | exact Bag.ne (by assumption) (by assumption) | exact ne_of_none (by assumption) (by assumption))
local macro_rules | `(tactic| walk_at "hp") => `(tactic| (first
  | assumption
  | exact upd_same
  | (refine h_keep ?_ (by assumption); walk_at "hp")
  | (refine (upd_ne (by walk_at "ne")).trans ?_; walk_at "hp")
  | (refine Same.at (by assumption) ?_; walk_at "hp")
  | (refine But.at (by assumption) (by walk_at "ne") ?_; walk_at "hp")
  | (refine But2.at (by assumption) (by walk_at "ne") (by walk_at "ne") ?_; walk_at "hp")))
local macro_rules | `(tactic| walk_at "side") => `(tactic| first | assumption | omega | (refine ⟨?_, ?_⟩ <;> first | assumption | omega | decide) | decide | (refine ⟨by decide, by decide, by decide⟩) | (left; refine ⟨?_, ?_⟩ <;> first | omega | decide) | (right; refine ⟨?_, ?_⟩ <;> first | omega | decide) | (simp; done))
local macro_rules | `(tactic| walk_at "cond") => `(tactic| first | assumption | exact rfl | omega | (simp only [List.length_cons, List.length_nil]; omega) | decide +kernel)
local macro_rules | `(tactic| walk_at "s") => `(tactic| (first
  | ((with_reducible refine r_var (v := ?vv) ?ee ?_); (case ee => exact rfl))
  | (with_reducible refine r_c ?_)
  | (with_reducible refine r_op ?_)
  | (with_reducible refine r_un ?_)
  | (with_reducible refine r_rI0 ?_)
  | ((with_reducible refine r_rI ?cc ?_); (case cc => walk_at "side"))
  | (with_reducible refine r_rU ?_)
  | (with_reducible refine r_eqI ?_)
  | (with_reducible refine r_neI ?_)
  | (with_reducible refine r_eqB ?_)
  | (with_reducible refine r_neB ?_)
  | (with_reducible refine r_eqS ?_)
  | (with_reducible refine r_neS ?_)
  | ((with_reducible refine r_eq ?ee ?_); (case ee => exact rfl))
  | ((with_reducible refine r_ne ?ee ?_); (case ee => exact rfl))
  | ((with_reducible refine r_ixL (v := ?vv) (xs := ?xx) ?hh ?ee ?_); (case hh => (refine SqL.of ?_; walk_at "hp")); (case ee => exact rfl))
  | (with_reducible refine r_cb ?_)
  | (with_reducible refine r_call ?_)
  | (with_reducible refine r_cons ?_)
  | (with_reducible refine r_nil ?_)
  | (with_reducible refine r_lst ?_)
  | (with_reducible refine r_tup ?_)
  | ((with_reducible refine r_new ?cc ?_); (case cc => walk_at "side"))
  | (with_reducible refine r_exbl ?_)
  | (with_reducible refine r_exint ?_)
  | (with_reducible refine r_exint2 ?_)
  | (with_reducible refine r_exblL ?_)
  | (with_reducible refine r_ex2 ?_)
  | (with_reducible refine r_test ?_)
  | (with_reducible refine r_tB ?_)
  | (with_reducible refine r_not ?_)
  | (with_reducible refine r_and ?_)
  | (with_reducible refine r_or ?_)
  | (with_reducible refine r_andV ?_)
  | (with_reducible refine r_orV ?_)
  | (with_reducible refine r_notV ?_)
  | (with_reducible refine r_tif ?_)
  | (with_reducible refine r_iteT ?_)
  | (with_reducible refine r_iteNT ?_)
  | (with_reducible refine r_iteNF ?_)
  | (with_reducible refine r_iteF ?_)
  | (with_reducible refine r_seq ?_)
  | (with_reducible refine r_next ?_)
  | (with_reducible refine r_brk ?_)
  | (with_reducible refine r_cont ?_)
  | (with_reducible refine r_asg ?_)
  | (with_reducible refine r_gname ?_)
  | (with_reducible refine r_ret ?_)
  | (with_reducible refine r_retN ?_)
  | (with_reducible refine r_drop ?_)
  | (with_reducible refine r_if ?_)
  | ((with_reducible refine r_aug (x := ?xx) ?ee ?_); (case ee => exact rfl))
  | (with_reducible refine r_ipI ?_)
  | (with_reducible refine r_augS ?_)
  | (with_reducible refine r_gsub ?_)
  | ((with_reducible refine r_setL (xs := ?xx) (m := ?mm) ?hh ?ee ?_); (case hh => walk_at "hp"); (case ee => exact rfl))
  | (with_reducible refine r_par ?_)
  | (with_reducible refine r_bm ?_)
  | ((with_reducible refine r_tyL (xs := ?xx) ?hh ?_); (case hh => walk_at "hp"))
  | ((with_reducible refine r_append (xs := ?xx) ?hh ?ll ?_); (case hh => walk_at "hp"); (case ll => walk_at "side"))
  | (walk_at "isi")
  | (with_reducible refine r_for ?_)
  | (with_reducible refine r_iList ?_)
  | (with_reducible refine r_iTup ?_)
  | (with_reducible refine r_iR1 ?_)
  | (with_reducible refine r_iR2 ?_)
  | (with_reducible refine r_lc ?_)
  | (with_reducible refine r_yes ?_)
  | ((with_reducible refine r_lenS ?ll ?_); (case ll => walk_at "side"))
  | (with_reducible refine r_leS ?_)
  | (with_reducible refine r_chain ?_)
  | (with_reducible refine r_tM1 ?_)
  | (with_reducible refine r_exS ?_)
  | ((with_reducible refine r_tupL (xs := ?xx) ?hh ?_); (case hh => walk_at "hp"))
  | ((with_reducible refine r_listL (xs := ?xx) ?hh ?_); (case hh => walk_at "hp"))
  | ((with_reducible refine r_listT (xs := ?xx) ?hh ?_); (case hh => walk_at "hp"))
  | ((with_reducible refine r_ixT (v := ?vv) (xs := ?xx) ?hh ?ee ?_); (case hh => (refine SqT.of ?_; walk_at "hp")); (case ee => exact rfl))
  | (with_reducible refine r_sl ?_)
  | (with_reducible refine r_nopart ?_)
  | (with_reducible refine r_part ?_)
  | (with_reducible refine r_exI ?_)
  | ((with_reducible refine r_slL (xs := ?xx) ?hh ?_); (case hh => first | assumption | (refine SqL.of ?_; walk_at "hp") | (refine Same.seq (by assumption) (by assumption))))
  | ((with_reducible refine r_cat (xs := ?xx) (zs := ?zz) ?hh ?ii ?ll ?_); (case hh => walk_at "hp"); (case ii => walk_at "hp"); (case ll => walk_at "side"))
  | ((with_reducible refine r_lenL (xs := ?xx) ?hh ?_); (case hh => walk_at "hp"))
  | ((with_reducible refine r_lenT (xs := ?xx) ?hh ?_); (case hh => walk_at "hp"))
  | ((with_reducible refine r_gTup (xs := ?xx) ?hh ?ll ?_); (case hh => walk_at "hp"); (case ll => exact rfl))
  | (with_reducible refine r_gCons ?_)
  | (with_reducible refine r_gNil ?_)
  | ((with_reducible refine r_iteDT ?cc ?_); (case cc => walk_at "cond"))
  | ((with_reducible refine r_iteDF ?cc ?_); (case cc => walk_at "cond"))
  | ((with_reducible refine r_iteNDT ?cc ?_); (case cc => walk_at "cond"))
  | ((with_reducible refine r_iteNDF ?cc ?_); (case cc => walk_at "cond"))
  ))
local macro_rules | `(tactic| walk_at "go") => `(tactic| repeat (walk_at "s"))

local macro_rules | `(tactic| walk_at "s") => `(tactic| (first
  | ((with_reducible refine r_extend (xs := ?xx) (ys := ?yy) ?hh ?ii ?ll ?_); (case hh => walk_at "hp"); (case ii => walk_at "hp"); (case ll => walk_at "side"))
  ))
/-- both lists of a parted program -/
def Two (H0 H : Hp) (t : Addr) (x : Prog × Prog) : Prop := ∃ l1 l2 xs ys, H t = some (.tup [.ref l1, .ref l2]) ∧ H l1 = some (.lst xs) ∧ H l2 = some (.lst ys) ∧ PrAt H x.1 xs ∧ PrAt H x.2 ys ∧ H0 l1 = none ∧ H0 l2 = none
def spPcs : Nat → Sp
  | 0 => fun _ _ _ _ => False
  | d + 1 => fun vs H Q _ => ∃ a p n, vs = [.ref a, .int n] ∧ PrIs H a p ∧ WfL 300 BC BC d p ∧ p.len ≤ 300 ∧ d ≤ 12 ∧ 0 ≤ n ∧ n ≤ p.size ∧ ∀ t H', Same H H' → Two H H' t (p.part n) → Q (.ref t) H'
def spPc (d : Nat) : Sp := fun vs H Q _ => ∃ x r r' n, vs = [x, .int n] ∧ First H r x r' ∧ WfL 300 BC BC d r ∧ d ≤ 12 ∧ 0 < n ∧ n < r.one.size ∧ ∀ t H', Same H H' → Two H H' t (r.cpart n) → Q (.ref t) H'
theorem ok_pcommand {f : Addr} {fd : FuncData} (d : Nat) (F : Fun K "parted_command" "parted_command" s_parted_command f fd) (B : Bl mg) (bDm : mg "divmod" = none) (h_raw_size : Has P w K mg base "raw_size" 13 ["program"] (spNumLt Prog.size 13)) (h_parted_commands : Has P w K mg base "parted_commands" (2 * d + 14) ["program", "count"] (spPcs d)) :
    FnOk P w K mg base CX0 (2 * d + 15) f fd ["command", "count"] (spPc d) := by
  refine F.ok sc_parted_command (fun vs H Q E h => ?_) (fun cdv A outer s H vs Q E hr h => ?_)
  · obtain ⟨x, r, r', n, rfl, _⟩ := h
    rfl
  · obtain ⟨x, r, r', n, rfl, hf, hw, d12, n0, n1, k⟩ := h
    refine ⟨_, (pss_cons (ps_if (pt_cmpR op_eq (pe_ix (ix_tupK (K := K)) (pv 0) pe_int (fun _ _ => rfl)) pe_str (nomark _))
    (pss_cons (ps_asg (pe_callH h_parted_commands (hr.mono (by first | decide | omega)) (pa_cons (pe_ix (ix_tupK (K := K)) (pv 0) pe_int (fun _ _ => rfl)) (pa_cons (pv 1) pa_nil))) (pg_tup (by rfl) (pgs_cons (pg_name (i := 2) sc_parted_command.nd rfl (.inl rfl)) (pgs_cons (pg_name (i := 3) sc_parted_command.nd rfl (.inl rfl)) pgs_nil))))
    (pss_one (ps_ret (pe_tup (pa_cons (pe_lst (pa_cons (pe_tup (pa_cons pe_str (pa_cons (pe_callTy call_tupL (by rfl) B.b_tuple (by decide +kernel) (pa_cons (pv 2) pa_nil)) pa_nil))) pa_nil)) (pa_cons (pe_lst (pa_cons (pe_tup (pa_cons pe_str (pa_cons (pe_callTy call_tupL (by rfl) B.b_tuple (by decide +kernel) (pa_cons (pv 3) pa_nil)) pa_nil))) pa_nil)) pa_nil))))))
    pss_nil)
    (pss_cons (ps_asg (pe_callB call_divmodR (by rfl) bDm (by decide +kernel) (pa_cons (pv 1) (pa_cons (pe_callH h_raw_size (hr.mono (by first | decide | omega)) (pa_cons (pe_ix (ix_tupK (K := K)) (pv 0) pe_int (fun _ _ => rfl)) pa_nil)) pa_nil))) (pg_tup (by rfl) (pgs_cons (pg_name (i := 4) sc_parted_command.nd rfl (.inl rfl)) (pgs_cons (pg_name (i := 5) sc_parted_command.nd rfl (.inl rfl)) pgs_nil))))
    (pss_cons (ps_asg (pe_callH h_parted_commands (hr.mono (by first | decide | omega)) (pa_cons (pe_ix (ix_tupK (K := K)) (pv 0) pe_int (fun _ _ => rfl)) (pa_cons (pv 5) pa_nil))) (pg_tup (by rfl) (pgs_cons (pg_name (i := 2) sc_parted_command.nd rfl (.inl rfl)) (pgs_cons (pg_name (i := 3) sc_parted_command.nd rfl (.inl rfl)) pgs_nil))))
    (pss_cutM (ps_if (pt_cmpR op_gt (pv 4) pe_int (nomark _))
    (pss_one (ps_set (i := 2) sc_parted_command.nd rfl (.inl rfl) (pe_op op_cat (pe_lst (pa_cons (pe_tup (pa_cons pe_str (pa_cons (pv 4) (pa_cons (pe_ix (ix_tupK (K := K)) (pv 0) pe_int (fun _ _ => rfl)) pa_nil)))) pa_nil)) (pv 2))))
    pss_nil)
    (pss_cutM (ps_if (pt_cmpR op_gt (pe_op op_sub (pe_ix (ix_tupK (K := K)) (pv 0) pe_int (fun _ _ => rfl)) (pv 4)) pe_int (nomark _))
    (pss_one (ps_set (i := 3) sc_parted_command.nd rfl (.inl rfl) (pe_op op_cat (pv 3) (pe_lst (pa_cons (pe_tup (pa_cons pe_str (pa_cons (pe_op op_sub (pe_op op_sub (pe_ix (ix_tupK (K := K)) (pv 0) pe_int (fun _ _ => rfl)) (pv 4)) pe_int) (pa_cons (pe_ix (ix_tupK (K := K)) (pv 0) pe_int (fun _ _ => rfl)) pa_nil)))) pa_nil)))))
    pss_nil)
    (pss_one (ps_ret (pe_tup (pa_cons (pv 2) (pa_cons (pv 3) pa_nil)))))))))), ?_⟩
    cases r with
    | nil => exact hf.elim
    | step w' m r => rw [Prog.one, Prog.size, Prog.size] at n1; omega
    | turn k' r => rw [Prog.one, Prog.size, Prog.size] at n1; omega
    | mir b r =>
      rw [Prog.one, Prog.size, Prog.size] at n1
      obtain ⟨c, q, rfl, h1, h2, rfl⟩ := hf
      cases d with
      | zero => exact hw.elim
      | succ d =>
        obtain ⟨b1, wb, wr⟩ := hw
        walk_at "go"
        refine ⟨q, b, n, rfl, h2, wb, b1.2, by omega, by omega, by omega, fun t H1 s1 ht => ?_⟩
        obtain ⟨l1, l2, xs, ys, ht, hl1, hl2, hx, hy, fl1, fl2⟩ := ht
        walk_at "go"
        intro z1 nz1
        walk_at "go"
        intro t1 nt1
        walk_at "go"
        intro u1 nu1
        walk_at "go"
        have sa : Same H1 (upd (upd (upd H1 z1 (.tup xs)) t1 (.tup [.str "mirror", .ref z1])) u1 (.lst [.ref t1])) := Same.new (Same.new (Same.new0 nz1) nt1) nu1
        have pa : PrAt (upd (upd (upd H1 z1 (.tup xs)) t1 (.tup [.str "mirror", .ref z1])) u1 (.lst [.ref t1])) (.mir (b.part n).1 .nil) [.ref t1] := ⟨t1, z1, xs, [], rfl, h_keep upd_same nu1, h_keep (h_keep upd_same nt1) nu1, hx.tk (Tk.same sa), rfl⟩
        have hu1 : (upd (upd (upd H1 z1 (.tup xs)) t1 (.tup [.str "mirror", .ref z1])) u1 (.lst [.ref t1])) u1 = some (.lst [.ref t1]) := upd_same
        have hy := hy.tk (Tk.same sa)
        have hl2 := sa _ _ hl2
        generalize upd (upd (upd H1 z1 _) t1 _) u1 _ = H2 at *
        intro z2 nz2
        walk_at "go"
        intro t2 nt2
        walk_at "go"
        intro u2 nu2
        walk_at "go"
        have sb : Same H2 (upd (upd (upd H2 z2 (.tup ys)) t2 (.tup [.str "mirror", .ref z2])) u2 (.lst [.ref t2])) := Same.new (Same.new (Same.new0 nz2) nt2) nu2
        have pb : PrAt (upd (upd (upd H2 z2 (.tup ys)) t2 (.tup [.str "mirror", .ref z2])) u2 (.lst [.ref t2])) (.mir (b.part n).2 .nil) [.ref t2] := ⟨t2, z2, ys, [], rfl, h_keep upd_same nu2, h_keep (h_keep upd_same nt2) nu2, hy.tk (Tk.same sb), rfl⟩
        have hu2 : (upd (upd (upd H2 z2 (.tup ys)) t2 (.tup [.str "mirror", .ref z2])) u2 (.lst [.ref t2])) u2 = some (.lst [.ref t2]) := upd_same
        have pa := pa.tk (Tk.same sb)
        have hu1 := sb _ _ hu1
        generalize upd (upd (upd H2 z2 _) t2 _) u2 _ = H3 at *
        intro v nv
        have sc := Same.new0 (o := .tup [.ref u1, .ref u2]) nv
        exact k v _ (((s1.trans sa).trans sb).trans sc) ⟨u1, u2, _, _, upd_same, sc _ _ hu1, sc _ _ hu2, pa.tk (Tk.same sc), pb.tk (Tk.same sc), free_same s1 (free_same (Same.new (Same.new0 nz1) nt1) nu1), free_same (s1.trans sa) (free_same (Same.new (Same.new0 nz2) nt2) nu2)⟩
    | rep k' b r =>
      rw [Prog.one, Prog.size, Prog.size, Int.add_zero] at n1
      obtain ⟨c, q, rfl, h1, h2, rfl⟩ := hf
      cases d with
      | zero => exact hw.elim
      | succ d =>
        obtain ⟨k1, b1, wb, wr⟩ := hw
        have sb := Prog.size_pos wb b1.1
        have W : Wf BC BC d b := WfL.wide (by decide) wb
        have sl : b.size.natAbs.log2 < 9000 := by
          have := size_small W (by omega) (by omega)
          exact log_small (Nat.lt_of_le_of_lt (show b.size.natAbs ≤ 10 ^ 704 by omega) (by decide +kernel))
        walk_at "go"
        refine ⟨q, b, rfl, h2, WfL.mono (Int.le_refl _) (Int.le_refl _) (show d ≤ 12 by omega) W, by omega, by decide, ?_⟩
        walk_at "go"
        refine r_divmod (by omega) sl fun t0 nt0 => ?_
        walk_at "go"
        have m0 := Int.emod_nonneg n (show b.size ≠ 0 by omega)
        have m1 := Int.emod_lt_of_pos n (show 0 < b.size by omega)
        have s0 := Same.new0 (o := .tup [.int (n / b.size), .int (n % b.size)]) nt0
        have h1 := s0 _ _ h1
        have h2 := h2.tk (Tk.same s0)
        generalize upd H t0 _ = H0 at *
        refine ⟨q, b, n % b.size, rfl, h2, wb, b1.2, by omega, m0, by omega, fun t H1 s1 ht => ?_⟩
        obtain ⟨l1, l2, xs, ys, ht, hl1, hl2, hx, hy, fl1, fl2⟩ := ht
        have h1 := s1 _ _ h1
        have h2 := h2.tk (Tk.same s1)
        have fl1 := free_same s0 fl1
        have fl2 := free_same s0 fl2
        have s1 := s0.trans s1
        have lx := hx.length
        have ly := hy.length
        have po := Prog.part_ok wb m0 (Int.le_of_lt m1)
        have pl1 := po.l1
        have pl2 := po.l2
        have q0 : 0 ≤ n / b.size := Int.ediv_nonneg (by omega) (by omega)
        have q1 : n / b.size < k' := Int.ediv_lt_of_lt_mul (by omega) (by omega)
        have bd : 300 * d ≤ 3600 := by omega
        have hkb := k1.2
        have ec : Prog.cpart (.rep k' b r') n = (Prog.cutF (n / b.size) b (b.part (n % b.size)).1, (b.part (n % b.size)).2.app (Prog.tl (k' - n / b.size) b)) := rfl
        rw [ec] at k
        generalize n / b.size = R at *
        generalize n % b.size = m at *
        walk_at "go"
        refine r_cut (fun σ' H' => ∃ (la : Addr) (xs' : List V), σ' = [some (.ref c), some (.int n), some (.ref la), some (.ref l2), some (.int R), some (.int m)] ∧ Same H1 H' ∧ H' la = some (.lst xs') ∧ PrAt H' (Prog.cutF R b (b.part m).1) xs' ∧ H la = none) ?_ ?_
        · walk_at "go"
          obtain ⟨bs, hbs, hbp⟩ := id h2
          refine r_iteD (fun hR => ?_) (fun hR => ?_)
          · walk_at "go"
            intro t1 nt1
            walk_at "go"
            intro u1 nu1
            walk_at "go"
            refine r_cat (xs := [.ref t1]) (zs := xs) upd_same (h_keep (h_keep hl1 nt1) nu1) (by simp only [List.length_cons, List.length_nil]; omega) fun v nv => ?_
            walk_at "go"
            have sa : Same H1 (upd (upd (upd H1 t1 (.tup [.str "repeat", .int R, .ref q])) u1 (.lst [.ref t1])) v (.lst ([.ref t1] ++ xs))) := Same.new (Same.new (Same.new0 nt1) nu1) nv
            refine ⟨v, _, rfl, sa, upd_same, ?_, free_same s1 (free_same (Same.new (Same.new0 nt1) nu1) nv)⟩
            unfold Prog.cutF
            rw [if_pos hR]
            exact ⟨t1, q, bs, xs, rfl, h_keep (h_keep upd_same nu1) nv, sa _ _ hbs, hbp.tk (Tk.same sa), hx.tk (Tk.same sa)⟩
          · walk_at "go"
            refine ⟨l1, xs, rfl, Same.refl _, hl1, ?_, fl1⟩
            unfold Prog.cutF
            rw [if_neg hR]
            exact hx
        · rintro σ' H2 ⟨la, xs', rfl, s2, hla, hxa, fla⟩
          have h1 := s2 _ _ h1
          have h2 := h2.tk (Tk.same s2)
          have hl2 := s2 _ _ hl2
          have hy := hy.tk (Tk.same s2)
          walk_at "go"
          refine r_cut (fun σ' H' => ∃ (lb : Addr) (ys' : List V), σ' = [some (.ref c), some (.int n), some (.ref la), some (.ref lb), some (.int R), some (.int m)] ∧ Same H2 H' ∧ H' lb = some (.lst ys') ∧ PrAt H' ((b.part m).2.app (Prog.tl (k' - R) b)) ys' ∧ H lb = none) ?_ ?_
          · walk_at "go"
            obtain ⟨bs, hbs, hbp⟩ := id h2
            refine r_iteD (fun hR => ?_) (fun hR => ?_)
            · walk_at "go"
              intro t1 nt1
              walk_at "go"
              intro u1 nu1
              refine r_cat (h_keep (h_keep hl2 nt1) nu1) upd_same (by simp only [List.length_cons, List.length_nil]; omega) fun v nv => ?_
              walk_at "go"
              have sa : Same H2 (upd (upd (upd H2 t1 (.tup [.str "repeat", .int (k' - R - 1), .ref q])) u1 (.lst [.ref t1])) v (.lst (ys ++ [.ref t1]))) := Same.new (Same.new (Same.new0 nt1) nu1) nv
              refine ⟨v, _, rfl, sa, upd_same, ?_, free_same (s1.trans s2) (free_same (Same.new (Same.new0 nt1) nu1) nv)⟩
              unfold Prog.tl
              rw [if_pos hR]
              exact PrAt.app (hy.tk (Tk.same sa)) ⟨t1, q, bs, [], rfl, h_keep (h_keep upd_same nu1) nv, sa _ _ hbs, hbp.tk (Tk.same sa), rfl⟩
            · walk_at "go"
              refine ⟨l2, ys, rfl, Same.refl _, hl2, ?_, fl2⟩
              unfold Prog.tl
              rw [if_neg hR, Prog.app_nil]
              exact hy
          · rintro σ' H3 ⟨lb, ys', rfl, s3, hlb, hyb, flb⟩
            have hla := s3 _ _ hla
            have hxa := hxa.tk (Tk.same s3)
            walk_at "go"
            intro v nv
            have sc := Same.new0 (o := .tup [.ref la, .ref lb]) nv
            exact k v _ (((s1.trans s2).trans s3).trans sc) ⟨la, lb, _, _, upd_same, sc _ _ hla, sc _ _ hlb, hxa.tk (Tk.same sc), hyb.tk (Tk.same sc), fla, flb⟩
theorem ok_pcommands {f : Addr} {fd : FuncData} (d : Nat) (F : Fun K "parted_commands" "parted_commands" s_parted_commands f fd) (h_raw_size : Has P w K mg base "raw_size" 13 ["program"] (spNumLt Prog.size 13)) (h_parted_command : Has P w K mg base "parted_command" (2 * d + 15) ["command", "count"] (spPc d)) :
    FnOk P w K mg base CX0 (2 * d + 16) f fd ["program", "count"] (spPcs (d + 1)) := by
  refine F.ok sc_parted_commands (fun vs H Q E h => ?_) (fun cdv A outer s H vs Q E hr h => ?_)
  · obtain ⟨a, p, n, rfl, _⟩ := h
    rfl
  · obtain ⟨a, p, n, rfl, ⟨xs, hx, hp⟩, hw, hl, d12, n0, n1, k⟩ := h
    refine ⟨_, (pss_cons (ps_set (i := 2) sc_parted_commands.nd rfl (.inl rfl) (pe_lst pa_nil))
    (pss_cons (ps_set (i := 3) sc_parted_commands.nd rfl (.inl rfl) (pe_lst pa_nil))
    (pss_cons (ps_set (i := 4) sc_parted_commands.nd rfl (.inl rfl) (pv 1))
    (pss_cons (ps_for PassesOwn.never rfl (pi_tup (pv 0)) (pg_name (i := 5) sc_parted_commands.nd rfl (.inl rfl))
    (pss_cons (ps_set (i := 6) sc_parted_commands.nd rfl (.inl rfl) (pe_callH h_raw_size (hr.mono (by first | decide | omega)) (pa_cons (pe_tup (pa_cons (pv 5) pa_nil)) pa_nil)))
    (pss_one (ps_if (pt_cmpR op_ge (pv 4) (pv 6) (nomark _))
    (pss_cons (ps_expr (pe_bm PySem.F.plainAttrs_list PySem.F.slot_list_append PySem.F.type_list_append mt_append (pv 2) (pa_cons (pv 5) pa_nil)))
    (pss_one (ps_aug (i := 4) sc_parted_commands.nd rfl (.inl rfl) (pv 6) ip_sub)))
    (pss_one (ps_if (pt_cmpR op_gt (pv 4) pe_int (nomark _))
    (pss_cons (ps_asg (pe_callH h_parted_command (hr.mono (by first | decide | omega)) (pa_cons (pv 5) (pa_cons (pv 4) pa_nil))) (pg_tup (by rfl) (pgs_cons (pg_name (i := 7) sc_parted_commands.nd rfl (.inl rfl)) (pgs_cons (pg_name (i := 8) sc_parted_commands.nd rfl (.inl rfl)) pgs_nil))))
    (pss_cons (ps_expr (pe_bm PySem.F.plainAttrs_list PySem.F.slot_list_extend PySem.F.type_list_extend mt_extend (pv 2) (pa_cons (pv 7) pa_nil)))
    (pss_cons (ps_expr (pe_bm PySem.F.plainAttrs_list PySem.F.slot_list_extend PySem.F.type_list_extend mt_extend (pv 3) (pa_cons (pv 8) pa_nil)))
    (pss_one (ps_set (i := 4) sc_parted_commands.nd rfl (.inl rfl) pe_int)))))
    (pss_one (ps_expr (pe_bm PySem.F.plainAttrs_list PySem.F.slot_list_append PySem.F.type_list_append mt_append (pv 3) (pa_cons (pv 5) pa_nil))))))))))
    (pss_one (ps_ret (pe_tup (pa_cons (pv 2) (pa_cons (pv 3) pa_nil))))))))), ?_⟩
    walk_at "go"
    intro l1 nl1
    walk_at "go"
    intro l2 nl2
    walk_at "go"
    have ne12 : l1 ≠ l2 := (ne_of_none upd_same nl2)
    have sB : ∀ x o, x ≠ l1 → x ≠ l2 → H x = some o → (upd (upd H l1 (.lst [])) l2 (.lst [])) x = some o := fun x o x1 x2 e => (upd_ne x2).trans ((upd_ne x1).trans e)
    have e1 : (upd (upd H l1 (.lst [])) l2 (.lst [])) l1 = some (.lst []) := h_keep upd_same nl2
    have e2 : (upd (upd H l1 (.lst [])) l2 (.lst [])) l2 = some (.lst []) := upd_same
    have nl2' : H l2 = none := by
      cases e : H l2 with
      | none => rfl
      | some o => rw [h_keep e nl1] at nl2; cases nl2
    have tB : Tk H (upd (upd H l1 (.lst [])) l2 (.lst [])) := ((Tk.refl _).new nl1).new nl2
    generalize upd (upd H l1 (.lst [])) l2 (.lst []) = H0 at *
    have hx0 := tB _ _ hx
    have hp0 := hp.tk tB
    refine u_forPr hx0 hp0 (fun r σ H' => ∃ (y5 y6 y7 y8 : Option V) (m : Int) (xa xb : List V) (pa pb : Prog), σ = [some (.ref a), some (.int n), some (.ref l1), some (.ref l2), some (.int m), y5, y6, y7, y8] ∧ (∀ x o, x ≠ l1 → x ≠ l2 → H0 x = some o → H' x = some o) ∧
      H' l1 = some (.lst xa) ∧ H' l2 = some (.lst xb) ∧ PrAt H' pa xa ∧ PrAt H' pb xb ∧ WfL 300 BC BC d r ∧ 0 ≤ m ∧ m ≤ r.size ∧ (p.part n).1 = pa.app (r.part m).1 ∧ (p.part n).2 = pb.app (r.part m).2 ∧ r.len ≤ 300 ∧ pa.len + (r.part m).1.len ≤ 4000 ∧ pb.len + (r.part m).2.len ≤ 4000) ?_ ?_ ?_ ?_
    · have po := Prog.part_ok hw n0 n1
      have bd : 300 * d ≤ 3600 := by omega
      have l1' := po.l1
      have l2' := po.l2
      refine ⟨_, _, _, _, n, [], [], .nil, .nil, rfl, fun x o _ _ e => e, e1, e2, rfl, rfl, hw, n0, n1, rfl, rfl, hl, ?_, ?_⟩
      · rw [Prog.len]; omega
      · rw [Prog.len]; omega
    · rintro r σ H' ⟨y5, y6, y7, y8, m, xa, xb, pa, pb, rfl, sm, h1, h2, _⟩
      exact fun x xs e => sm x _ (by rintro rfl; rw [e1] at e; cases e) (by rintro rfl; rw [e2] at e; cases e) e
    · rintro x r r' σ H' hf ⟨y5, y6, y7, y8, m, xa, xb, pa, pb, rfl, sm, h1, h2, hpa, hpb, hw', m0, m1, f1, f2, rl, b1, b2⟩
      obtain ⟨po, hr', rne⟩ := hf.one
      obtain ⟨wo, wr⟩ := WfL.one hw'
      rw [hr'] at wr
      have so : 1 ≤ r.one.size := Prog.size_pos wo (by cases r <;> first | exact absurd rfl rne | (rw [Prog.one, Prog.len, Prog.len]; omega))
      have hsz : r.size = r.one.size + r'.size := by rw [← hr', ← Prog.size_app, Prog.one_rest]
      have hln : r.len = r.one.len + r'.len := by rw [← hr', ← Prog.len_app, Prog.one_rest]
      have ol : r.one.len = 1 := by cases r <;> first | exact absurd rfl rne | (rw [Prog.one, Prog.len, Prog.len])
      have pe := Prog.part_eq (n := m) rne so
      rw [hr'] at pe
      have la := hpa.length
      have lb := hpb.length
      walk_at "go"
      intro z nz
      refine ⟨z, r.one, rfl, ⟨_, upd_same, po.tk ((Tk.refl _).new nz)⟩, WfL.mono (Int.le_refl _) (Int.le_refl _) (show d ≤ 12 by omega) (WfL.wide (by decide) wo), by omega, by decide, ?_⟩
      have sz := Same.new0 (o := .tup [x]) nz
      have h1 := sz _ _ h1
      have h2 := sz _ _ h2
      have hpa := hpa.tk (Tk.same sz)
      have hpb := hpb.tk (Tk.same sz)
      have hf := hf.tk (Tk.same sz)
      have po := po.tk (Tk.same sz)
      have sm : ∀ y o, y ≠ l1 → y ≠ l2 → H0 y = some o → (upd H' z (.tup [x])) y = some o := fun y o x1 x2 e => sz _ _ (sm y o x1 x2 e)
      generalize upd H' z _ = H2 at *
      walk_at "go"
      by_cases c1 : r.one.size ≤ m
      · rw [if_pos c1] at pe
        rw [pe] at f1 f2 b1 b2
        rw [Prog.len_app] at b1
        refine r_iteDT c1 ?_
        walk_at "go"
        have s3 : ∀ y o, y ≠ l1 → y ≠ l2 → H0 y = some o → (upd H2 l1 (.lst (xa ++ [x]))) y = some o := fun y o x1 x2 e => (upd_ne x1).trans (sm y o x1 x2 e)
        have t3 : Tk H2 (upd H2 l1 (.lst (xa ++ [x]))) := (Tk.refl _).lst h1
        exact ⟨_, _, _, _, _, _, xb, pa.app r.one, pb, rfl, s3, upd_same, (upd_ne ne12.symm).trans h2, (hpa.tk t3).app (po.tk t3), hpb.tk t3, wr, by omega, by omega, by rw [f1, Prog.app_assoc], f2, by omega, by rw [Prog.len_app]; omega, b2⟩
      · rw [if_neg c1] at pe
        refine r_iteDF c1 ?_
        walk_at "go"
        by_cases c0 : 0 < m
        · rw [if_pos c0] at pe
          rw [pe] at f1 f2 b1 b2
          have pz := Prog.part_le0 wr (Int.le_refl 0)
          refine r_iteDT c0 ?_
          walk_at "go"
          refine ⟨x, r, r', m, rfl, hf, hw', d12, c0, by omega, fun t H3 s3 ht => ?_⟩
          obtain ⟨m1_, m2_, us, vs, ht, hm1, hm2, hus, hvs, fm1, fm2⟩ := ht
          have lus := hus.length
          have lvs := hvs.length
          have b2 : pb.len + ((r.cpart m).2.app r').len ≤ 4000 := b2
          rw [Prog.len_app] at b2
          have b1 : pa.len + (r.cpart m).1.len ≤ 4000 := b1
          have h1_ := h1
          have h1 := s3 _ _ h1
          have h2 := s3 _ _ h2
          have hpa := hpa.tk (Tk.same s3)
          have hpb := hpb.tk (Tk.same s3)
          have sm : ∀ y o, y ≠ l1 → y ≠ l2 → H0 y = some o → H3 y = some o := fun y o x1 x2 e => s3 _ _ (sm y o x1 x2 e)
          walk_at "go"
          have n2 : m2_ ≠ l1 := fun z => by rw [z, h1_] at fm2; cases fm2
          have e2' : (upd H3 l1 (.lst (xa ++ us))) l2 = some (.lst xb) := (upd_ne ne12.symm).trans h2
          have em2 : (upd H3 l1 (.lst (xa ++ us))) m2_ = some (.lst vs) := (upd_ne n2).trans hm2
          refine r_extend e2' em2 (by omega) ?_
          walk_at "go"
          have t3 : Tk H3 (upd (upd H3 l1 (.lst (xa ++ us))) l2 (.lst (xb ++ vs))) := ((Tk.refl _).lst h1).lst e2'
          refine ⟨_, _, _, _, 0, _, _, pa.app (r.cpart m).1, pb.app (r.cpart m).2, rfl, fun y o x1 x2 e => (upd_ne x2).trans ((upd_ne x1).trans (sm y o x1 x2 e)), (upd_ne ne12).trans upd_same, upd_same, (hpa.tk t3).app (hus.tk t3), (hpb.tk t3).app (hvs.tk t3), wr, Int.le_refl 0, Prog.size_nonneg wr, ?_, ?_, by omega, ?_, ?_⟩
          · rw [f1, pz, Prog.app_nil]
          · rw [f2, pz, Prog.app_assoc]
          · rw [pz, Prog.len_app, Prog.len]; omega
          · rw [pz, Prog.len_app]; show _ + r'.len ≤ _; omega
        · rw [if_neg c0] at pe
          rw [pe] at f1 f2 b1 b2
          have pz := Prog.part_le0 wr (show m ≤ 0 by omega)
          refine r_iteDF c0 ?_
          walk_at "go"
          have s3 : ∀ y o, y ≠ l1 → y ≠ l2 → H0 y = some o → (upd H2 l2 (.lst (xb ++ [x]))) y = some o := fun y o x1 x2 e => (upd_ne x2).trans (sm y o x1 x2 e)
          have t3 : Tk H2 (upd H2 l2 (.lst (xb ++ [x]))) := (Tk.refl _).lst h2
          refine ⟨_, _, _, _, _, xa, _, pa, pb.app r.one, rfl, s3, (upd_ne ne12).trans h1, upd_same, hpa.tk t3, (hpb.tk t3).app (po.tk t3), wr, m0, ?_, ?_, ?_, by omega, ?_, ?_⟩
          · have := Prog.size_nonneg wr; omega
          · rw [f1, pz]
          · rw [f2, pz, Prog.app_assoc]
            conv => lhs; rw [← Prog.one_rest r, hr']
          · rw [pz]; exact b1
          · rw [pz, Prog.len_app]
            show _ + r'.len ≤ _
            have b2 : pb.len + r.len ≤ 4000 := b2
            omega
    · rintro σ H' ⟨y5, y6, y7, y8, m, xa, xb, pa, pb, rfl, sm, h1, h2, hpa, hpb, _, _, _, f1, f2, _⟩
      walk_at "go"
      intro t nt
      rw [Prog.part, Prog.app_nil] at f1 f2
      have st := Same.new0 (o := .tup [.ref l1, .ref l2]) nt
      refine k t _ (fun x o e => st _ _ (sm x o (ne_of_none e nl1) (ne_of_none e nl2') (sB x o (ne_of_none e nl1) (ne_of_none e nl2') e))) ⟨l1, l2, _, _, upd_same, st _ _ h1, st _ _ h2, ?_, ?_, nl1, nl2'⟩
      · rw [f1]; exact hpa.tk (Tk.same st)
      · rw [f2]; exact hpb.tk (Tk.same st)
theorem has_pcs {fc fp : Addr} {fdc fdp : FuncData} (Fc : Fun K "parted_command" "parted_command" s_parted_command fc fdc) (Fp : Fun K "parted_commands" "parted_commands" s_parted_commands fp fdp) (B : Bl mg) (bDm : mg "divmod" = none)
    (h_raw_size : Has P w K mg base "raw_size" 13 ["program"] (spNumLt Prog.size 13)) (gc : mg "parted_command" = some (.ref fc)) (gp : mg "parted_commands" = some (.ref fp)) (bc : Binds K fdc ["command", "count"] []) (bp : Binds K fdp ["program", "count"] []) :
    ∀ d, Has P w K mg base "parted_commands" (2 * d + 14) ["program", "count"] (spPcs d)
  | 0 => has_false gp Fp.kp bp
  | d + 1 => ⟨fp, fdp, ok_pcommands d Fp h_raw_size ⟨fc, fdc, ok_pcommand d Fc B bDm h_raw_size (has_pcs Fc Fp B bDm h_raw_size gc gp bc bp d), gc, Fc.kp, bc⟩, gp, Fp.kp, bp⟩
end
end My

set_option Elab.async false
set_option linter.all false
set_option maxRecDepth 100000
namespace My
open PySem PySem.Spec PyProof.Rows L2
/-! ### the way of a flat program -/
def stepSign (w : Str) : Int := if w = "back" ∨ w = "slip" then -1 else 1
theorem stepSign_contr {w : Str} (h : IsWord w) : stepSign (contr w) = -stepSign w := by
  rcases h with rfl | rfl | rfl | rfl <;> decide
namespace Prog
/-- the number of the name n at the power k, the way begun at the heading h -/
def wcf : Int → Prog → Str → Int → Int
  | _, .nil, _, _ => 0
  | h, .step w m r, n, k => (if m = n ∧ h = k then stepSign w else 0) + wcf h r n k
  | h, .turn t r, n, k => wcf (h + t) r n k
  | _, .rep _ _ _, _, _ => 0
  | _, .mir _ _, _, _ => 0
theorem wcf_app {L : Nat} {C T : Int} : ∀ {p : Prog} (q : Prog) (h : Int) (n : Str) (k : Int), WfL L C T 0 p → wcf h (p.app q) n k = wcf h p n k + wcf (h + p.head) q n k
  | .nil, q, h, n, k, _ => by rw [app, wcf, head, Int.zero_add, Int.add_zero]
  | .step w m r, q, h, n, k, hw => by rw [app, wcf, wcf, wcf_app q h n k (WfL.step_iff.mp hw).2.2, head]; omega
  | .turn t r, q, h, n, k, hw => by rw [app, wcf, wcf, wcf_app q (h + t) n k (WfL.turn_iff.mp hw).2, head, Int.add_assoc]
  | .rep _ _ _, q, h, n, k, hw => hw.elim
  | .mir _ _, q, h, n, k, hw => hw.elim
/-- undone, the way gives all back -/
theorem wcf_undo {L : Nat} {C T : Int} : ∀ {p : Prog} (h : Int) (n : Str) (k : Int), WfL L C T 0 p → wcf (h + p.head) (undo p) n k = -wcf h p n k
  | .nil, h, n, k, _ => by rw [undo, wcf, wcf]; rfl
  | .step w m r, h, n, k, hw => by
    have hr := (WfL.step_iff.mp hw).2.2
    have ih := wcf_undo h n k hr
    rw [head, undo, wcf_app _ _ n k (wf_undo hr), ih, head_undo, wcf, wcf, wcf, stepSign_contr (WfL.step_iff.mp hw).1]
    rw [show h + r.head + -r.head = h by omega]
    split <;> omega
  | .turn t r, h, n, k, hw => by
    have hr := (WfL.turn_iff.mp hw).2
    have ih := wcf_undo (h + t) n k hr
    rw [head, undo, ← Int.add_assoc, wcf_app _ _ n k (wf_undo hr), ih, wcf, wcf, wcf]
    omega
  | .rep _ _ _, h, n, k, hw => hw.elim
  | .mir _ _, h, n, k, hw => hw.elim
theorem wcf_there {L : Nat} {C T : Int} {p : Prog} (hw : WfL L C T 0 p) (n : Str) (k : Int) : wcf 0 (p.app (undo p)) n k = 0 := by
  rw [wcf_app _ _ n k hw, wcf_undo 0 n k hw]; omega
theorem wcf_back {L : Nat} {C T : Int} {p : Prog} (hw : WfL L C T 0 p) (n : Str) (k : Int) : wcf 0 ((undo p).app p) n k = 0 := by
  have h := wcf_undo (-p.head) n k hw
  rw [show -p.head + p.head = 0 by omega] at h
  rw [wcf_app _ _ n k (wf_undo hw), h, head_undo, Int.zero_add]; omega
end Prog
/-! ### names: at most 26 -/
theorem names_few {ks : List Str} (h : ∀ n ∈ ks, IsName n) (nd : ks.Nodup) : ks.length < 64 := by
  have hp : ∀ (ks : List Str), (∀ n ∈ ks, IsName n) → ks.Nodup → ∃ cs : List Nat, cs.length = ks.length ∧ cs.Nodup ∧ (∀ c ∈ cs, 97 ≤ c ∧ c ≤ 122 ∧ (⟨#[c]⟩ : Str) ∈ ks) := by
    intro ks
    induction ks with
    | nil => intro _ _; exact ⟨[], rfl, by simp, by simp⟩
    | cons n ks ih =>
      intro h nd
      obtain ⟨hn, nd⟩ := List.nodup_cons.mp nd
      obtain ⟨cs, e1, e2, e3⟩ := ih (fun m hm => h m (List.mem_cons_of_mem _ hm)) nd
      obtain ⟨c, rfl, c1, c2⟩ := h n List.mem_cons_self
      refine ⟨c :: cs, by simp [e1], List.nodup_cons.mpr ⟨fun hc => hn (e3 c hc).2.2, e2⟩, fun d hd => ?_⟩
      rcases List.mem_cons.mp hd with rfl | hd
      · exact ⟨c1, c2, List.mem_cons_self⟩
      · exact ⟨(e3 d hd).1, (e3 d hd).2.1, List.mem_cons_of_mem _ (e3 d hd).2.2⟩
  obtain ⟨cs, e1, e2, e3⟩ := hp ks h nd
  have key : ∀ (xs ys : List Nat), xs.Nodup → (∀ x ∈ xs, x ∈ ys) → xs.length ≤ ys.length := by
    intro xs
    induction xs with
    | nil => intro ys _ _; exact Nat.zero_le _
    | cons x xs ih =>
      intro ys hn hs
      have hx := hs x List.mem_cons_self
      obtain ⟨hxn, hn⟩ := List.nodup_cons.mp hn
      have h1 := ih (ys.erase x) hn fun z hz => (List.mem_erase_of_ne (by rintro rfl; exact hxn hz)).mpr (hs z (List.mem_cons_of_mem _ hz))
      rw [List.length_erase_of_mem hx] at h1
      have h2 := List.length_pos_of_mem hx
      rw [List.length_cons]
      omega
  have := key cs (List.range 123) e2 fun x hx => List.mem_range.mpr (by have := e3 x hx; omega)
  have h2 := key cs ((List.range 26).map (· + 97)) e2 fun x hx => List.mem_map.mpr ⟨x - 97, List.mem_range.mpr (by have := e3 x hx; omega), by have := e3 x hx; omega⟩
  rw [List.length_map, List.length_range] at h2
  omega
/-! ### a dict of jars by names -/
def spotKvs (ws : List (Str × Addr)) : List (Key × V) := ws.map fun e => (Sum.inr e.1, V.ref e.2)
structure Spot (H0 H : Hp) (s : Addr) (N : Nat) (c : Str → Int → Int) (ws : List (Str × Addr)) : Prop where
  at_ : H s = some (.dK (spotKvs ws))
  nd : (ws.map (·.1)).Nodup
  ndA : (ws.map (·.2)).Nodup
  name : ∀ e ∈ ws, IsName e.1
  new : H0 s = none
  news : ∀ e ∈ ws, H0 e.2 = none ∧ e.2 ≠ s
  jars : ∀ e ∈ ws, JarAt H e.2 N (c e.1)
  none_ : ∀ n, ¬ n ∈ ws.map (·.1) → ∀ k, c n k = 0
  same : Same H0 H
theorem JarAt.le {H : Hp} {a : Addr} {n m : Nat} {c : Int → Int} (h : JarAt H a n c) (l : n ≤ m) : JarAt H a m c := let ⟨kvs, e, r1, r2, r3⟩ := h; ⟨kvs, e, r1, Nat.le_trans r2 l, r3⟩
theorem spot_val {ws : List (Str × Addr)} {n : Str} {v : V} (h : valV (spotKvs ws) (.inr n) = some v) : ∃ j, v = .ref j ∧ (n, j) ∈ ws := by
  have := val_mem h
  obtain ⟨e, he, e2⟩ := List.mem_map.mp this
  cases e2
  exact ⟨_, rfl, he⟩
theorem spot_none {ws : List (Str × Addr)} {n : Str} (h : valV (spotKvs ws) (.inr n) = none) : ¬ n ∈ ws.map (·.1) := by
  intro hm
  obtain ⟨e, he, e2⟩ := List.mem_map.mp hm
  exact val_none h (Sum.inr e.1, V.ref e.2) (List.mem_map.mpr ⟨e, he, rfl⟩) (congrArg Sum.inr e2)
theorem spot_some {ws : List (Str × Addr)} {n : Str} (h : n ∈ ws.map (·.1)) : ∃ j, valV (spotKvs ws) (.inr n) = some (.ref j) ∧ (n, j) ∈ ws := by
  cases e : valV (spotKvs ws) (.inr n) with
  | none => exact absurd h (spot_none e)
  | some v =>
    obtain ⟨j, rfl, hj⟩ := spot_val e
    exact ⟨j, rfl, hj⟩
theorem Spot.empty {H : Hp} {s : Addr} (h : H s = none) : Spot H (upd H s (.dK [])) s 0 (fun _ _ => 0) [] :=
  ⟨upd_same, by simp, by simp, by simp, h, by simp, by simp, fun _ _ _ => rfl, Same.new0 h⟩
theorem Spot.later {H0 H H' : Hp} {s : Addr} {N : Nat} {c : Str → Int → Int} {ws : List (Str × Addr)} (h : Spot H0 H s N c ws) (k : Same H H') : Spot H0 H' s N c ws :=
  ⟨k _ _ h.at_, h.nd, h.ndA, h.name, h.new, h.news, fun e he => (h.jars e he).same k, h.none_, h.same.trans k⟩
/-- the name's jar: found or put in -/
theorem Spot.setd {H0 H : Hp} {s d : Addr} {N : Nat} {c : Str → Int → Int} {ws : List (Str × Addr)} {n : Str} {Q : VK} (h : Spot H0 H s N c ws) (hn : IsName n) (hd : H d = none)
    (q : ∀ ws' j H', Spot H0 H' s N c ws' → (n, j) ∈ ws' → (∀ b o, b ≠ s → H b = some o → H' b = some o) → Q (.ref j) H') :
    ∃ (kvs : List (Key × V)) (k : Key), upd H d (.dK []) s = some (.dK kvs) ∧ V.str n = kV k ∧ kvs.length < sizeLine ∧ (∀ v, valV kvs k = some v → Q v (upd H d (.dK []))) ∧ (valV kvs k = none → Q (.ref d) (upd (upd H d (.dK [])) s (.dK (putK kvs k (.ref d))))) := by
  have h1 := h.later (Same.new0 (o := .dK []) hd)
  have few : (spotKvs ws).length < 64 := by
    have := names_few (ks := ws.map (·.1)) (fun n hn => by obtain ⟨e, he, rfl⟩ := List.mem_map.mp hn; exact h.name e he) h.nd
    simpa [spotKvs] using this
  refine ⟨spotKvs ws, .inr n, h1.at_, rfl, Nat.lt_trans few (by decide), fun v hv => ?_, fun hv => ?_⟩
  · obtain ⟨j, rfl, hj⟩ := spot_val hv
    exact q ws j _ h1 hj fun b o _ e => h_keep e hd
  · have hnn := spot_none hv
    have ds : d ≠ s := (ne_of_none h.at_ hd).symm
    rw [putK_new _ hv]
    have e : spotKvs ws ++ [(Sum.inr n, V.ref d)] = spotKvs (ws ++ [(n, d)]) := by simp [spotKvs]
    rw [e]
    refine q (ws ++ [(n, d)]) d _ ⟨upd_same, ?_, ?_, ?_, h.new, ?_, ?_, ?_, ?_⟩ (by simp) fun b o nb eb => (upd_ne nb).trans (h_keep eb hd)
    · rw [List.map_append]
      exact List.nodup_append.mpr ⟨h.nd, by simp, fun a ha b hb eab => by
        have hb := List.mem_singleton.mp hb
        rw [eab, hb] at ha
        exact hnn ha⟩
    · rw [List.map_append]
      refine List.nodup_append.mpr ⟨h.ndA, by simp, fun a ha b hb e => ?_⟩
      have hb := List.mem_singleton.mp hb
      subst hb
      obtain ⟨x, hx, rfl⟩ := List.mem_map.mp ha
      obtain ⟨_, e2, _⟩ := h.jars x hx
      exact absurd e (ne_of_none e2 hd)
    · intro x hx
      rcases List.mem_append.mp hx with hx | hx
      · exact h.name x hx
      · rw [List.mem_singleton.mp hx]; exact hn
    · intro x hx
      rcases List.mem_append.mp hx with hx | hx
      · exact h.news x hx
      · rw [List.mem_singleton.mp hx]
        exact ⟨free_same h.same hd, ds⟩
    · intro x hx
      rcases List.mem_append.mp hx with hx | hx
      · obtain ⟨kvs, e1, r⟩ := h1.jars x hx
        exact ⟨kvs, (upd_ne (h.news x hx).2).trans e1, r⟩
      · rw [List.mem_singleton.mp hx]
        refine ⟨[], (upd_ne ds).trans upd_same, .nil, Nat.zero_le _, fun k => ?_⟩
        exact (h.none_ n hnn k).symm
    · intro m hm k
      refine h.none_ m (fun hc => hm ?_) k
      rw [List.map_append]
      exact List.mem_append.mpr (.inl hc)
    · exact fun b o eb => (upd_ne (ne_of_none eb h.new)).trans (h_keep (h.same _ _ eb) hd)
/-- the name's jar changed -/
theorem Spot.put {H0 H H' : Hp} {s j : Addr} {N : Nat} {c : Str → Int → Int} {ws : List (Str × Addr)} {n : Str} {k v : Int} (h : Spot H0 H s N c ws) (m : (n, j) ∈ ws) (b : But j H H') (hj : JarAt H' j (N + 1) (addAt (c n) k v)) :
    Spot H0 H' s (N + 1) (fun n' k' => if n' = n ∧ k' = k then v else c n' k') ws := by
  have hjs := h.news _ m
  have one : ∀ e ∈ ws, e.1 = n ↔ e.2 = j := by
    intro e he
    constructor
    · intro e1
      have : ∀ (l : List (Str × Addr)), (l.map (·.1)).Nodup → ∀ x ∈ l, ∀ y ∈ l, x.1 = y.1 → x = y := by
        intro l
        induction l with
        | nil => intro _ x hx; cases hx
        | cons z l ih =>
          intro nd x hx y hy exy
          obtain ⟨hz, nd⟩ := List.nodup_cons.mp nd
          rcases List.mem_cons.mp hx with rfl | hx2
          · rcases List.mem_cons.mp hy with rfl | hy2
            · rfl
            · exact absurd (List.mem_map.mpr ⟨y, hy2, exy.symm⟩) hz
          · rcases List.mem_cons.mp hy with rfl | hy2
            · exact absurd (List.mem_map.mpr ⟨x, hx2, exy⟩) hz
            · exact ih nd x hx2 y hy2 exy
      exact congrArg (·.2) (this ws h.nd e he (n, j) m e1)
    · intro e1
      have : ∀ (l : List (Str × Addr)), (l.map (·.2)).Nodup → ∀ x ∈ l, ∀ y ∈ l, x.2 = y.2 → x = y := by
        intro l
        induction l with
        | nil => intro _ x hx; cases hx
        | cons z l ih =>
          intro nd x hx y hy exy
          obtain ⟨hz, nd⟩ := List.nodup_cons.mp nd
          rcases List.mem_cons.mp hx with rfl | hx2
          · rcases List.mem_cons.mp hy with rfl | hy2
            · rfl
            · exact absurd (List.mem_map.mpr ⟨y, hy2, exy.symm⟩) hz
          · rcases List.mem_cons.mp hy with rfl | hy2
            · exact absurd (List.mem_map.mpr ⟨x, hx2, exy⟩) hz
            · exact ih nd x hx2 y hy2 exy
      exact congrArg (·.1) (this ws h.ndA e he (n, j) m e1)
  refine ⟨b _ _ (fun e => hjs.2 e.symm) h.at_, h.nd, h.ndA, h.name, h.new, h.news, fun e he => ?_, fun m' hm k' => ?_, fun x o ex => b _ _ (ne_of_none ex hjs.1) (h.same _ _ ex)⟩
  · by_cases e1 : e.1 = n
    · rw [(one e he).mp e1, e1]
      refine hj.ext fun k' => ?_
      unfold addAt
      by_cases e2 : k' = k
      · rw [if_pos e2, if_pos ⟨rfl, e2⟩]
      · rw [if_neg e2, if_neg fun h => e2 h.2]
    · refine (((h.jars e he).but (fun e2 => e1 ((one e he).mpr e2)) b).le (Nat.le_succ _)).ext fun k' => ?_
      rw [if_neg fun h => e1 h.1]
  · rw [if_neg]
    · exact h.none_ m' hm k'
    · rintro ⟨rfl, _⟩
      exact hm (List.mem_map.mpr ⟨_, m, rfl⟩)
theorem Spot.dget {H0 H : Hp} {s : Addr} {N : Nat} {c : Str → Int → Int} {ws : List (Str × Addr)} {n : Str} {v : V} (h : Spot H0 H s N c ws) (e : valV (spotKvs ws) (.inr n) = some v) : DGet H s (.str n) (some v) := by
  have := DGet.k (k := .inr n) h.at_
  rw [e] at this
  exact this
theorem inWord {w : Str} (h : IsWord w) : inV (.str w) [.str "back", .str "slip"] = decide (w = "back" ∨ w = "slip") := by
  rcases h with rfl | rfl | rfl | rfl <;> decide +kernel
/-! ### names in sequence -/
def ncode (n : Str) : Nat := n.cps.toList.headD 0
theorem ncode_lt {a b : Str} (ha : IsName a) (hb : IsName b) : ltCps a.cps.toList b.cps.toList = decide (ncode a < ncode b) := by
  obtain ⟨x, rfl, _⟩ := ha
  obtain ⟨y, rfl, _⟩ := hb
  rw [ltCps_eq]
  show decide ([x] < [y]) = decide (x < y)
  by_cases h : x < y
  · rw [decide_eq_true h, decide_eq_true (by simpa [List.cons_lt_cons_iff] using h)]
  · rw [decide_eq_false h, decide_eq_false (by simpa [List.cons_lt_cons_iff] using h)]
theorem ncode_inj {a b : Str} (ha : IsName a) (hb : IsName b) (e : ncode a = ncode b) : a = b := by
  obtain ⟨x, rfl, _⟩ := ha
  obtain ⟨y, rfl, _⟩ := hb
  have e : x = y := e
  rw [e]
theorem rising_names : ∀ {p : Str} {l : List Str}, IsName p → (∀ n ∈ l, IsName n) → risingS p l = true → (∀ n ∈ l, ncode p ≤ ncode n) ∧ l.Pairwise fun a b => ncode a ≤ ncode b
  | p, [], _, _, _ => ⟨by simp, .nil⟩
  | p, x :: r, hp, hl, h => by
    have hx := hl x List.mem_cons_self
    have hr : ∀ n ∈ r, IsName n := fun n hn => hl n (List.mem_cons_of_mem _ hn)
    rw [risingS, Bool.and_eq_true, ncode_lt hx hp] at h
    have h1 : ncode p ≤ ncode x := by
      have := h.1
      simp at this
      exact this
    obtain ⟨h2, h3⟩ := rising_names hx hr h.2
    refine ⟨fun n hn => ?_, List.pairwise_cons.mpr ⟨h2, h3⟩⟩
    rcases List.mem_cons.mp hn with rfl | hn
    · exact h1
    · exact Nat.le_trans h1 (h2 n hn)
theorem sorted_names {l : List Str} (hl : ∀ n ∈ l, IsName n) (nd : l.Nodup) (h : sortedS l = true) : l.Pairwise fun a b => ncode a < ncode b := by
  have h1 : l.Pairwise fun a b => ncode a ≤ ncode b := by
    cases l with
    | nil => exact .nil
    | cons p r =>
      obtain ⟨h1, h2⟩ := rising_names (hl p List.mem_cons_self) (fun n hn => hl n (List.mem_cons_of_mem _ hn)) h
      exact List.pairwise_cons.mpr ⟨h1, h2⟩
  have h2 := List.Pairwise.and h1 nd
  refine h2.imp_of_mem fun {a b} ha hb h => ?_
  have hne : ncode a ≠ ncode b := fun e => h.2 (ncode_inj (hl a ha) (hl b hb) e)
  have := h.1
  omega
theorem asc_ext {α : Type} (f : α → Nat) : ∀ {l m : List α}, l.Pairwise (fun a b => f a < f b) → m.Pairwise (fun a b => f a < f b) → (∀ x, x ∈ l ↔ x ∈ m) → l = m
  | [], [], _, _, _ => rfl
  | a :: l, [], _, _, h => absurd ((h a).mp List.mem_cons_self) (by simp)
  | [], b :: m, _, _, h => absurd ((h b).mpr List.mem_cons_self) (by simp)
  | a :: l, b :: m, hl, hm, h => by
    obtain ⟨h1, h2⟩ := List.pairwise_cons.mp hl
    obtain ⟨h3, h4⟩ := List.pairwise_cons.mp hm
    have e : a = b := by
      rcases List.mem_cons.mp ((h a).mp List.mem_cons_self) with e | ha
      · exact e
      · rcases List.mem_cons.mp ((h b).mpr List.mem_cons_self) with e | hb
        · exact e.symm
        · have := h1 b hb
          have := h3 a ha
          omega
    subst e
    rw [asc_ext f h2 h4 fun x => ⟨fun hx => ?_, fun hx => ?_⟩]
    · rcases List.mem_cons.mp ((h x).mp (List.mem_cons_of_mem _ hx)) with rfl | q
      · exact absurd (h1 _ hx) (Nat.lt_irrefl _)
      · exact q
    · rcases List.mem_cons.mp ((h x).mpr (List.mem_cons_of_mem _ hx)) with rfl | q
      · exact absurd (h3 _ hx) (Nat.lt_irrefl _)
      · exact q
/-! ### places -/
abbrev Pl := List (Str × Terms)
def PlaceL (F : Addr → Prop) (H : Hp) : List V → Pl → Prop
  | [], pl => pl = []
  | v :: vs, pl => ∃ b l e us, pl = e :: us ∧ v = .ref b ∧ H b = some (.tup [.str e.1, .ref l]) ∧ F l ∧ TermsAt H l e.2 ∧ PlaceL F H vs us
section
variable {F : Addr → Prop}
theorem PlaceL.same {H H' : Hp} (t : Same H H') : ∀ {vs : List V} {pl : Pl}, PlaceL F H vs pl → PlaceL F H' vs pl
  | [], _, h => h
  | _ :: _, _, ⟨b, l, e, us, e1, e2, e3, e4, e5, e6⟩ => ⟨b, l, e, us, e1, e2, t _ _ e3, e4, e5.same t, e6.same t⟩
theorem PlaceL.all {H : Hp} : ∀ {vs : List V} {pl : Pl}, PlaceL F H vs pl → PlaceL (fun _ => True) H vs pl
  | [], _, h => h
  | _ :: _, _, ⟨b, l, e, us, e1, e2, e3, e4, e5, e6⟩ => ⟨b, l, e, us, e1, e2, e3, trivial, e5, e6.all⟩
theorem PlaceL.lst {H : Hp} {D : Addr} {acc acc' : List V} (hD : H D = some (.lst acc)) : ∀ {vs : List V} {pl : Pl}, PlaceL (· ≠ D) H vs pl → PlaceL (· ≠ D) (upd H D (.lst acc')) vs pl
  | [], _, h => h
  | _ :: _, _, ⟨b, l, e, us, e1, e2, e3, e4, ⟨ws, e5, e7⟩, e6⟩ => ⟨b, l, e, us, e1, e2, (Tk.refl H).lst hD _ _ e3, e4, ⟨ws, (upd_ne e4).trans e5, e7.tk ((Tk.refl H).lst hD)⟩, e6.lst hD⟩
theorem PlaceL.app {H : Hp} : ∀ {vs ws : List V} {ts us : Pl}, PlaceL F H vs ts → PlaceL F H ws us → PlaceL F H (vs ++ ws) (ts ++ us)
  | [], ws, ts, us, h, h' => by rw [show ts = [] from h]; exact h'
  | _ :: _, ws, _, us, ⟨b, l, e, qs, e1, e2, e3, e4, e5, e6⟩, h' => ⟨b, l, e, qs ++ us, by rw [e1]; rfl, e2, e3, e4, e5, e6.app h'⟩
theorem PlaceL.length {H : Hp} : ∀ {vs : List V} {ts : Pl}, PlaceL F H vs ts → vs.length = ts.length
  | [], ts, h => by rw [show ts = [] from h]; rfl
  | _ :: _, _, ⟨b, l, e, qs, e1, e2, e3, e4, e5, e6⟩ => by rw [e1, List.length_cons, List.length_cons, e6.length]
end
/-- the place of the numbers c -/
structure IsPlace (pl : Pl) (c : Str → Int → Int) : Prop where
  canon : ∀ e ∈ pl, Canon e.2 ∧ e.2 ≠ [] ∧ ∀ k, cof e.2 k = c e.1 k
  names : ∀ e ∈ pl, IsName e.1
  asc : pl.Pairwise fun a b => ncode a.1 < ncode b.1
  rest : ∀ n, ¬ n ∈ pl.map (·.1) → ∀ k, c n k = 0
def PlaceAt (H : Hp) (l : Addr) (pl : Pl) : Prop := ∃ vs, H l = some (.lst vs) ∧ PlaceL (fun _ => True) H vs pl
theorem IsPlace.zero {pl : Pl} {c : Str → Int → Int} (h : IsPlace pl c) (z : ∀ n k, c n k = 0) : pl = [] := by
  cases pl with
  | nil => rfl
  | cons e r =>
    obtain ⟨h1, h2, h3⟩ := h.canon e List.mem_cons_self
    exact absurd (h1.zero fun k => (h3 k).trans (z _ _)) h2
theorem IsPlace.ext {pl ql : Pl} {c : Str → Int → Int} (h : IsPlace pl c) (k : IsPlace ql c) : pl = ql := by
  have key : ∀ {pl ql : Pl}, IsPlace pl c → IsPlace ql c → ∀ x, x ∈ pl → x ∈ ql := by
    intro pl ql h k x hx
    obtain ⟨h1, h2, h3⟩ := h.canon x hx
    have hm : x.1 ∈ ql.map (·.1) := by
      refine Decidable.byContradiction fun hn => h2 (h1.zero fun j => (h3 j).trans (k.rest _ hn j))
    obtain ⟨y, hy, e⟩ := List.mem_map.mp hm
    obtain ⟨k1, _, k3⟩ := k.canon y hy
    have e2 : x.2 = y.2 := h1.ext k1 fun j => by rw [h3, k3, e]
    have : x = y := Prod.ext e.symm e2
    rw [this]; exact hy
  exact asc_ext (fun e => ncode e.1) h.asc k.asc fun x => ⟨key h k x, key k h x⟩
end My

set_option Elab.async false
set_option linter.all false
set_option maxRecDepth 100000
namespace My
open PySem PySem.Spec PyProof.Rows L2
/-! ### the plain commands of a program, one by one -/
inductive Cm where
  | st (w n : Str)
  | tn (k : Int)
namespace Prog
def nth : Prog → Nat → Option Cm
  | .nil, _ => none
  | .step w n _, 0 => some (.st w n)
  | .step _ _ r, i + 1 => nth r i
  | .turn k _, 0 => some (.tn k)
  | .turn _ r, i + 1 => nth r i
  | .rep _ _ _, 0 => none
  | .rep _ _ r, i + 1 => nth r i
  | .mir _ _, 0 => none
  | .mir _ r, i + 1 => nth r i
theorem nth_app : ∀ (p q : Prog) (i : Nat), nth (p.app q) i = if i < p.len then nth p i else nth q (i - p.len)
  | .nil, q, i => by rw [app, len, if_neg (by omega), Nat.sub_zero]
  | .step w n p, q, 0 => by rw [app, len, if_pos (by omega), nth, nth]
  | .step w n p, q, i + 1 => by
    rw [app, len, nth, nth, nth_app p q i]
    by_cases h : i < p.len
    · rw [if_pos h, if_pos (by omega)]
    · rw [if_neg h, if_neg (by omega), Nat.add_sub_add_right]
  | .turn k p, q, 0 => by rw [app, len, if_pos (by omega), nth, nth]
  | .turn k p, q, i + 1 => by
    rw [app, len, nth, nth, nth_app p q i]
    by_cases h : i < p.len
    · rw [if_pos h, if_pos (by omega)]
    · rw [if_neg h, if_neg (by omega), Nat.add_sub_add_right]
  | .rep k b p, q, 0 => by rw [app, len, if_pos (by omega), nth, nth]
  | .rep k b p, q, i + 1 => by
    rw [app, len, nth, nth, nth_app p q i]
    by_cases h : i < p.len
    · rw [if_pos h, if_pos (by omega)]
    · rw [if_neg h, if_neg (by omega), Nat.add_sub_add_right]
  | .mir b p, q, 0 => by rw [app, len, if_pos (by omega), nth, nth]
  | .mir b p, q, i + 1 => by
    rw [app, len, nth, nth, nth_app p q i]
    by_cases h : i < p.len
    · rw [if_pos h, if_pos (by omega)]
    · rw [if_neg h, if_neg (by omega), Nat.add_sub_add_right]
theorem nth_times (p : Prog) : ∀ (k i : Nat), i < k * p.len → nth (times k p) i = nth p (i % p.len)
  | 0, i, h => by omega
  | k + 1, i, h => by
    rw [times, nth_app]
    by_cases e : i < p.len
    · rw [if_pos e, Nat.mod_eq_of_lt e]
    · rw [if_neg e, nth_times p k (i - p.len) (by rw [Nat.succ_mul] at h; omega), ← Nat.mod_eq_sub_mod (by omega)]
theorem times_add (p : Prog) : ∀ (a b : Nat), times (a + b) p = (times a p).app (times b p)
  | 0, b => by rw [Nat.zero_add, times, app]
  | a + 1, b => by rw [show a + 1 + b = (a + b) + 1 by omega, times, times_add p a b, times, app_assoc]
theorem unroll_cutF (s : Int) {q : Int} (h : 0 ≤ q) (b x : Prog) : unroll s (cutF q b x) = (times q.toNat (unroll s b)).app (unroll s x) := by
  unfold cutF
  by_cases e : 0 < q
  · rw [if_pos e, unroll]
  · obtain rfl : q = 0 := by omega
    rw [if_neg e]; rfl
theorem unroll_tl (s : Int) {j : Int} (h : 1 ≤ j) (b : Prog) : unroll s (tl j b) = times (j - 1).toNat (unroll s b) := by
  unfold tl
  by_cases e : 1 < j
  · rw [if_pos e, unroll, unroll, app_nil]
  · obtain rfl : j = 1 := by omega
    rw [if_neg e, unroll]; rfl
/-- the parts unrolled are the program unrolled -/
theorem part_unroll {L : Nat} {C T : Int} : ∀ {d : Nat} {p : Prog} {n : Int} (s : Int), WfL L C T d p → 0 ≤ n → n ≤ p.size → (unroll s (part p n).1).app (unroll s (part p n).2) = unroll s p
  | _, .nil, n, s, _, _, _ => by rw [part, unroll, app]
  | d, .step w m r, n, s, h, h0, h1 => by
    rw [part]
    by_cases e : 1 ≤ n
    · rw [if_pos e]
      have hw := WfL.step_iff.mp h
      rw [size] at h1
      have ih := part_unroll (n := n - 1) s hw.2.2 (by omega) (by omega)
      rw [unroll, unroll, app, ih]
    · rw [if_neg e, unroll, app]
  | d, .turn k r, n, s, h, h0, h1 => by
    rw [part]
    by_cases e : 1 ≤ n
    · rw [if_pos e]
      have hw := WfL.turn_iff.mp h
      rw [size] at h1
      have ih := part_unroll (n := n - 1) s hw.2 (by omega) (by omega)
      rw [unroll, unroll, app, ih]
    · rw [if_neg e, unroll, app]
  | 0, .rep _ _ _, n, s, h, h0, h1 => h.elim
  | d + 1, .rep k b r, n, s, h, h0, h1 => by
    obtain ⟨k1, b1, wb, wr⟩ := id h
    rw [part]
    rw [size] at h1
    by_cases e : k * b.size ≤ n
    · rw [if_pos e]
      have ih := part_unroll (n := n - k * b.size) s wr (by omega) (by omega)
      rw [unroll, unroll, app_assoc, ih]
    · rw [if_neg e]
      by_cases e0 : 0 < n
      · rw [if_pos e0]
        have sb := size_pos wb b1.1
        have m0 := Int.emod_nonneg n (show b.size ≠ 0 by omega)
        have m1 := Int.emod_lt_of_pos n (show 0 < b.size by omega)
        have q0 : 0 ≤ n / b.size := Int.ediv_nonneg h0 (by omega)
        have q1 : n / b.size < k := Int.ediv_lt_of_lt_mul (by omega) (by omega)
        have ih := part_unroll (n := n % b.size) s wb m0 (by omega)
        generalize n % b.size = m at *
        generalize n / b.size = q at *
        show (unroll s (cutF q b (part b m).1)).app (unroll s (((part b m).2.app (tl (k - q) b)).app r)) = _
        rw [unroll_cutF s q0, unroll_app, unroll_app, unroll_tl s (by omega), unroll]
        have e1 : k.toNat = q.toNat + (1 + (k - q - 1).toNat) := by omega
        have ih' : ∀ Z : Prog, (unroll s (part b m).1).app ((unroll s (part b m).2).app Z) = (unroll s b).app Z := fun Z => by rw [← app_assoc, ih]
        have e2 : times 1 (unroll s b) = unroll s b := by show (unroll s b).app .nil = _; rw [app_nil]
        rw [e1, times_add, times_add, e2]
        simp only [app_assoc]
        rw [ih']
      · rw [if_neg e0, unroll, app]
  | 0, .mir _ _, n, s, h, h0, h1 => h.elim
  | d + 1, .mir b r, n, s, h, h0, h1 => by
    obtain ⟨b1, wb, wr⟩ := id h
    rw [part]
    rw [size] at h1
    by_cases e : b.size ≤ n
    · rw [if_pos e]
      have ih := part_unroll (n := n - b.size) s wr (by omega) (by omega)
      rw [unroll, unroll, app_assoc, ih]
    · rw [if_neg e]
      by_cases e0 : 0 < n
      · rw [if_pos e0]
        have ih := part_unroll (n := n) (-s) wb h0 (by omega)
        show (unroll s (.mir (part b n).1 .nil)).app (unroll s (.mir (part b n).2 r)) = _
        rw [unroll, unroll, unroll, unroll, app_nil, ← app_assoc, ih]
      · rw [if_neg e0, unroll, app]
/-- the heading of the parts -/
theorem part_head {L : Nat} {C T : Int} {d : Nat} {p : Prog} {n : Int} (h : WfL L C T d p) (h0 : 0 ≤ n) (h1 : n ≤ p.size) : (part p n).1.head + (part p n).2.head = p.head := by
  have po := part_ok h h0 h1
  have e := congrArg (fun q => q.turns.sum) (part_unroll 1 h h0 h1)
  have e2 : ((unroll 1 (part p n).1).turns ++ (unroll 1 (part p n).2).turns).sum = (unroll 1 p).turns.sum := by rw [← turns_app]; exact e
  rw [List.sum_append, turns_unroll 1 po.w1, turns_unroll 1 po.w2, turns_unroll 1 h] at e2
  omega
/-- the command at an index -/
theorem nth_step {s : Int} {w n : Str} {r : Prog} : nth (unroll s (.step w n r)) 0 = some (.st w n) := rfl
theorem nth_rest {L : Nat} {C T : Int} {d : Nat} {r : Prog} (s : Int) (i : Int) (ho : WfL L C T d r.one) (h : r.one.size ≤ i) : nth (unroll s r) i.toNat = nth (unroll s r.rest) (i - r.one.size).toNat := by
  conv => lhs; rw [← one_rest r, unroll_app]
  have e := len_unroll s ho
  rw [nth_app, if_neg (by omega)]
  congr 1
  omega
theorem nth_first {L : Nat} {C T : Int} {d : Nat} {r : Prog} (s : Int) (i : Int) (ho : WfL L C T d r.one) (h0 : 0 ≤ i) (h : i < r.one.size) : nth (unroll s r) i.toNat = nth (unroll s r.one) i.toNat := by
  conv => lhs; rw [← one_rest r, unroll_app]
  have e := len_unroll s ho
  rw [nth_app, if_pos (by omega)]
theorem nth_rep {L : Nat} {C T : Int} {d : Nat} {k : Int} {b : Prog} (s : Int) (i : Int) (h : WfL L C T d b) (b1 : 1 ≤ b.len) (k1 : 1 ≤ k) (h0 : 0 ≤ i) (hi : i < k * b.size) : nth (unroll s (.rep k b .nil)) i.toNat = nth (unroll s b) (i % b.size).toNat := by
  have e := len_unroll s h
  have sb := size_pos h b1
  rw [unroll, unroll, app_nil]
  have e2 : (i % b.size).toNat = i.toNat % (unroll s b).len := by
    rw [← e]
    have : (((i.toNat % (unroll s b).len : Nat) : Int)) = i % ((unroll s b).len : Int) := by rw [Int.natCast_emod, Int.toNat_of_nonneg h0]
    omega
  rw [e2]
  refine nth_times _ _ _ ?_
  have : ((k.toNat * (unroll s b).len : Nat) : Int) = k * b.size := by rw [Int.natCast_mul, e, Int.toNat_of_nonneg (by omega)]
  omega
theorem nth_mir (s : Int) (b : Prog) (i : Nat) : nth (unroll s (.mir b .nil)) i = nth (unroll (-s) b) i := by
  rw [unroll, unroll, app_nil]
/-- a command of the parts -/
theorem nth_part {L : Nat} {C T : Int} {d : Nat} {p : Prog} {n i : Int} (s : Int) (h : WfL L C T d p) (h0 : 0 ≤ n) (h1 : n ≤ p.size) (i0 : 0 ≤ i) : nth (unroll s p) i.toNat = if i < n then nth (unroll s (part p n).1) i.toNat else nth (unroll s (part p n).2) (i - n).toNat := by
  have po := part_ok h h0 h1
  rw [← part_unroll s h h0 h1, nth_app]
  have e := len_unroll s po.w1
  have s1 := po.s1
  by_cases c : i < n
  · rw [if_pos c, if_pos (by omega)]
  · rw [if_neg c, if_neg (by omega)]
    congr 1
    omega
theorem nth_some {L : Nat} {C T : Int} : ∀ {p : Prog}, WfL L C T 0 p → ∀ {i : Nat}, i < p.len → ∃ c, nth p i = some c
  | .nil, _, i, h => by rw [len] at h; omega
  | .step w n r, _, 0, _ => ⟨_, rfl⟩
  | .step w n r, hw, i + 1, h => nth_some (WfL.step_iff.mp hw).2.2 (by rw [len] at h; omega)
  | .turn k r, _, 0, _ => ⟨_, rfl⟩
  | .turn k r, hw, i + 1, h => nth_some (WfL.turn_iff.mp hw).2 (by rw [len] at h; omega)
  | .rep _ _ _, hw, _, _ => hw.elim
  | .mir _ _, hw, _, _ => hw.elim
theorem nth_ex {L : Nat} {C T : Int} {d : Nat} {p : Prog} {s i : Int} (hs : s = 1 ∨ s = -1) (h : WfL L C T d p) (h0 : 0 ≤ i) (h1 : i < p.size) : ∃ c, nth (unroll s p) i.toNat = some c := by
  refine nth_some (wf_unroll hs h) ?_
  have := len_unroll s h
  omega
end Prog
/-- a value is this plain command -/
def CmIs (H : Hp) : Cm → V → Prop
  | .st w n, x => ∃ a, x = .ref a ∧ H a = some (.tup [.str w, .str n])
  | .tn k, x => ∃ a, x = .ref a ∧ H a = some (.tup [.str "turn", .int k])
theorem CmIs.tk {H H' : Hp} (t : Tk H H') : ∀ {c : Cm} {x : V}, CmIs H c x → CmIs H' c x
  | .st _ _, _, ⟨a, e, h⟩ => ⟨a, e, t _ _ h⟩
  | .tn _, _, ⟨a, e, h⟩ => ⟨a, e, t _ _ h⟩
/-! words in lists, letters in the letters -/
theorem in_word {w : Str} (h : IsWord w) : inV (.str w) [.str "go", .str "back", .str "hop", .str "slip"] = true := by
  rcases h with rfl | rfl | rfl | rfl <;> decide +kernel
theorem r_inW {K : PySem.W.Frag} {H : Hp} {Q : VK} {l : Addr} {w : Str} (h : H l = some (.lst [.str "go", .str "back", .str "hop", .str "slip"])) (q : Q (.bl (inV (.str w) [.str "go", .str "back", .str "hop", .str "slip"])) H) : rIn K false (.str w) (.ref l) H Q :=
  ⟨l, _, rfl, .inl (.of h), rfl, rfl, by rw [if_neg Bool.false_ne_true]; exact q⟩
theorem in_turn : inV (.str "turn") [.str "go", .str "back", .str "hop", .str "slip"] = false := by decide +kernel
theorem in_repeat : inV (.str "repeat") [.str "go", .str "back", .str "hop", .str "slip"] = false := by decide +kernel
theorem in_mirror : inV (.str "mirror") [.str "go", .str "back", .str "hop", .str "slip"] = false := by decide +kernel
theorem occ_all : (List.range 26).all (fun i => !(Builtin.Str.occurrences ("abcdefghijklmnopqrstuvwxyz" : Str) ⟨#[97 + i]⟩ 0 ("abcdefghijklmnopqrstuvwxyz" : Str).length 1).isEmpty) = true := by decide +kernel
theorem occ_name {n : Str} (h : IsName n) : (Builtin.Str.occurrences ("abcdefghijklmnopqrstuvwxyz" : Str) n 0 ("abcdefghijklmnopqrstuvwxyz" : Str).length 1).isEmpty = false := by
  obtain ⟨c, rfl, h1, h2⟩ := h
  have := List.all_eq_true.mp occ_all (c - 97) (List.mem_range.mpr (by omega))
  rw [show 97 + (c - 97) = c by omega, Bool.not_eq_true'] at this
  exact this
end My

set_option Elab.async false
set_option linter.all false
set_option maxRecDepth 100000
set_option maxHeartbeats 4000000

namespace My
open PySem PySem.Spec PyProof.Rows L2 RT
section
variable {P : Program} {w : World} {K : PySem.W.Frag} {mg : Str → Option Value} {base : Heap}
local macro_rules | `(tactic| walk_at "isi") => `(tactic| (first
  | (with_reducible refine r_is_int_int ?_)
  | (with_reducible refine r_is_int_bool ?_)
  | (with_reducible refine r_is_int_str ?_)
  | (with_reducible refine r_is_int_list ?_)
  | (with_reducible refine r_is_int_tuple ?_)
  | (with_reducible refine r_is_bool_int ?_)
  | (with_reducible refine r_is_bool_bool ?_)
  | (with_reducible refine r_is_bool_str ?_)
  | (with_reducible refine r_is_bool_list ?_)
  | (with_reducible refine r_is_bool_tuple ?_)
  | (with_reducible refine r_is_str_int ?_)
  | (with_reducible refine r_is_str_bool ?_)
  | (with_reducible refine r_is_str_str ?_)
  | (with_reducible refine r_is_str_list ?_)
  | (with_reducible refine r_is_str_tuple ?_)
  | ((with_reducible refine r_is_list_int (xs := ?xx) ?hh ?_); (case hh => walk_at "hp"))
  | ((with_reducible refine r_is_list_bool (xs := ?xx) ?hh ?_); (case hh => walk_at "hp"))
  | ((with_reducible refine r_is_list_str (xs := ?xx) ?hh ?_); (case hh => walk_at "hp"))
  | ((with_reducible refine r_is_list_list (xs := ?xx) ?hh ?_); (case hh => walk_at "hp"))
  | ((with_reducible refine r_is_list_tuple (xs := ?xx) ?hh ?_); (case hh => walk_at "hp"))
  | ((with_reducible refine r_is_tuple_int (xs := ?xx) ?hh ?_); (case hh => walk_at "hp"))
  | ((with_reducible refine r_is_tuple_bool (xs := ?xx) ?hh ?_); (case hh => walk_at "hp"))
  | ((with_reducible refine r_is_tuple_str (xs := ?xx) ?hh ?_); (case hh => walk_at "hp"))
  | ((with_reducible refine r_is_tuple_list (xs := ?xx) ?hh ?_); (case hh => walk_at "hp"))
  | ((with_reducible refine r_is_tuple_tuple (xs := ?xx) ?hh ?_); (case hh => walk_at "hp"))
  | (with_reducible refine r_is_NoneType_int ?_)
  | (with_reducible refine r_is_NoneType_bool ?_)
  | (with_reducible refine r_is_NoneType_str ?_)
  | (with_reducible refine r_is_NoneType_list ?_)
  | (with_reducible refine r_is_NoneType_tuple ?_)))
local macro_rules | `(tactic| walk_at "ne") => `(tactic| first | assumption | (refine Ne.symm ?_; assumption) | exact Bag.ne (by assumption) (by assumption) | exact ne_of_none (by assumption) (by assumption))
local macro_rules | `(tactic| walk_at "hp") => `(tactic| (first
  | assumption
  | exact upd_same
  | (refine h_keep ?_ (by assumption); walk_at "hp")
  | (refine (upd_ne (by walk_at "ne")).trans ?_; walk_at "hp")
  | (refine Same.at (by assumption) ?_; walk_at "hp")
  | (refine But.at (by assumption) (by walk_at "ne") ?_; walk_at "hp")
  | (refine But2.at (by assumption) (by walk_at "ne") (by walk_at "ne") ?_; walk_at "hp")))
local macro_rules | `(tactic| walk_at "side") => `(tactic| first | assumption | omega | (refine ⟨?_, ?_⟩ <;> first | assumption | omega | decide) | decide | (refine ⟨by decide, by decide, by decide⟩) | (left; refine ⟨?_, ?_⟩ <;> first | omega | decide) | (right; refine ⟨?_, ?_⟩ <;> first | omega | decide) | (simp; done))
local macro_rules | `(tactic| walk_at "cond") => `(tactic| first | assumption | exact rfl | omega | (simp only [List.length_cons, List.length_nil]; omega) | decide +kernel)
local macro_rules | `(tactic| walk_at "s") => `(tactic| (first
  | ((with_reducible refine r_var (v := ?vv) ?ee ?_); (case ee => exact rfl))
  | (with_reducible refine r_c ?_)
  | (with_reducible refine r_op ?_)
  | (with_reducible refine r_un ?_)
  | (with_reducible refine r_rI0 ?_)
  | ((with_reducible refine r_rI ?cc ?_); (case cc => walk_at "side"))
  | (with_reducible refine r_rU ?_)
  | (with_reducible refine r_eqI ?_)
  | (with_reducible refine r_neI ?_)
  | (with_reducible refine r_eqB ?_)
  | (with_reducible refine r_neB ?_)
  | (with_reducible refine r_eqS ?_)
  | (with_reducible refine r_neS ?_)
  | ((with_reducible refine r_eq ?ee ?_); (case ee => exact rfl))
  | ((with_reducible refine r_ne ?ee ?_); (case ee => exact rfl))
  | ((with_reducible refine r_ixL (v := ?vv) (xs := ?xx) ?hh ?ee ?_); (case hh => (refine SqL.of ?_; walk_at "hp")); (case ee => exact rfl))
  | (with_reducible refine r_cb ?_)
  | (with_reducible refine r_call ?_)
  | (with_reducible refine r_cons ?_)
  | (with_reducible refine r_nil ?_)
  | (with_reducible refine r_lst ?_)
  | (with_reducible refine r_tup ?_)
  | ((with_reducible refine r_new ?cc ?_); (case cc => walk_at "side"))
  | (with_reducible refine r_exbl ?_)
  | (with_reducible refine r_exint ?_)
  | (with_reducible refine r_exint2 ?_)
  | (with_reducible refine r_exblL ?_)
  | (with_reducible refine r_ex2 ?_)
  | (with_reducible refine r_test ?_)
  | (with_reducible refine r_tB ?_)
  | (with_reducible refine r_not ?_)
  | (with_reducible refine r_and ?_)
  | (with_reducible refine r_or ?_)
  | (with_reducible refine r_andV ?_)
  | (with_reducible refine r_orV ?_)
  | (with_reducible refine r_notV ?_)
  | (with_reducible refine r_tif ?_)
  | (with_reducible refine r_iteT ?_)
  | (with_reducible refine r_iteNT ?_)
  | (with_reducible refine r_iteNF ?_)
  | (with_reducible refine r_iteF ?_)
  | (with_reducible refine r_seq ?_)
  | (with_reducible refine r_next ?_)
  | (with_reducible refine r_brk ?_)
  | (with_reducible refine r_cont ?_)
  | (with_reducible refine r_asg ?_)
  | (with_reducible refine r_gname ?_)
  | (with_reducible refine r_ret ?_)
  | (with_reducible refine r_retN ?_)
  | (with_reducible refine r_drop ?_)
  | (with_reducible refine r_if ?_)
  | ((with_reducible refine r_aug (x := ?xx) ?ee ?_); (case ee => exact rfl))
  | (with_reducible refine r_ipI ?_)
  | (with_reducible refine r_augS ?_)
  | (with_reducible refine r_gsub ?_)
  | ((with_reducible refine r_setL (xs := ?xx) (m := ?mm) ?hh ?ee ?_); (case hh => walk_at "hp"); (case ee => exact rfl))
  | (with_reducible refine r_par ?_)
  | (with_reducible refine r_bm ?_)
  | ((with_reducible refine r_tyL (xs := ?xx) ?hh ?_); (case hh => walk_at "hp"))
  | ((with_reducible refine r_append (xs := ?xx) ?hh ?ll ?_); (case hh => walk_at "hp"); (case ll => walk_at "side"))
  | (walk_at "isi")
  | (with_reducible refine r_for ?_)
  | (with_reducible refine r_iList ?_)
  | (with_reducible refine r_iTup ?_)
  | (with_reducible refine r_iR1 ?_)
  | (with_reducible refine r_iR2 ?_)
  | (with_reducible refine r_lc ?_)
  | (with_reducible refine r_yes ?_)
  | ((with_reducible refine r_lenS ?ll ?_); (case ll => walk_at "side"))
  | (with_reducible refine r_leS ?_)
  | (with_reducible refine r_chain ?_)
  | (with_reducible refine r_tM1 ?_)
  | (with_reducible refine r_exS ?_)
  | ((with_reducible refine r_tupL (xs := ?xx) ?hh ?_); (case hh => walk_at "hp"))
  | ((with_reducible refine r_listL (xs := ?xx) ?hh ?_); (case hh => walk_at "hp"))
  | ((with_reducible refine r_listT (xs := ?xx) ?hh ?_); (case hh => walk_at "hp"))
  | ((with_reducible refine r_ixT (v := ?vv) (xs := ?xx) ?hh ?ee ?_); (case hh => (refine SqT.of ?_; walk_at "hp")); (case ee => exact rfl))
  | (with_reducible refine r_sl ?_)
  | (with_reducible refine r_nopart ?_)
  | (with_reducible refine r_part ?_)
  | (with_reducible refine r_exI ?_)
  | ((with_reducible refine r_slL (xs := ?xx) ?hh ?_); (case hh => first | assumption | (refine SqL.of ?_; walk_at "hp") | (refine Same.seq (by assumption) (by assumption))))
  | ((with_reducible refine r_cat (xs := ?xx) (zs := ?zz) ?hh ?ii ?ll ?_); (case hh => walk_at "hp"); (case ii => walk_at "hp"); (case ll => walk_at "side"))
  | ((with_reducible refine r_lenL (xs := ?xx) ?hh ?_); (case hh => walk_at "hp"))
  | ((with_reducible refine r_lenT (xs := ?xx) ?hh ?_); (case hh => walk_at "hp"))
  | ((with_reducible refine r_gTup (xs := ?xx) ?hh ?ll ?_); (case hh => walk_at "hp"); (case ll => exact rfl))
  | (with_reducible refine r_gCons ?_)
  | (with_reducible refine r_gNil ?_)
  | ((with_reducible refine r_iteDT ?cc ?_); (case cc => walk_at "cond"))
  | ((with_reducible refine r_iteDF ?cc ?_); (case cc => walk_at "cond"))
  | ((with_reducible refine r_iteNDT ?cc ?_); (case cc => walk_at "cond"))
  | ((with_reducible refine r_iteNDF ?cc ?_); (case cc => walk_at "cond"))
  ))
local macro_rules | `(tactic| walk_at "go") => `(tactic| repeat (walk_at "s"))

def spCmdAt : Nat → Sp
  | 0 => fun _ _ _ _ => False
  | d + 1 => fun vs H Q _ => ∃ a p i s, vs = [.ref a, .int i, .int s] ∧ (s = 1 ∨ s = -1) ∧ PrIs H a p ∧ Wf BC BC d p ∧ p.len ≤ 4000 ∧ d ≤ 12 ∧ 0 ≤ i ∧ i < p.size ∧ ∀ c x H', (Prog.unroll s p).nth i.toNat = some c → CmIs H' c x → Same H H' → Q x H'
theorem ok_l_command_at {f : Addr} {fd : FuncData} (d : Nat) (F : Fun K "_law_command_at" "_law_command_at" s_l_command_at f fd) (B : Bl mg) (h_l_bulk : Has P w K mg base "_law_bulk" 13 ["_law_piece_here"] (spNumLt Prog.size 13)) (h_l_command_at : Has P w K mg base "_law_command_at" (d + 13) ["_law_piece_here", "_law_at", "_law_sign"] (spCmdAt d)) :
    FnOk P w K mg base CX0 (d + 14) f fd ["_law_piece_here", "_law_at", "_law_sign"] (spCmdAt (d + 1)) := by
  refine F.ok sc_l_command_at (fun vs H Q E h => ?_) (fun cdv A outer s H vs Q E hr h => ?_)
  · obtain ⟨a, p, i, s, rfl, _⟩ := h
    rfl
  · obtain ⟨a, p, i0, sg, rfl, hsg, ⟨xs, hx, hp⟩, hw, hl, d12, i00, i01, k⟩ := h
    refine ⟨_, (pss_cons (ps_for PassesOwn.never rfl (pi_tup (pv 0)) (pg_name (i := 3) sc_l_command_at.nd rfl (.inl rfl))
    (pss_cons (ps_set (i := 4) sc_l_command_at.nd rfl (.inl rfl) (pe_callH h_l_bulk (hr.mono (by first | decide | omega)) (pa_cons (pe_tup (pa_cons (pv 3) pa_nil)) pa_nil)))
    (pss_cons (ps_if (PW.pt (pw_and (pt_cmpR op_lt (pv 1) (pv 4) (nomark _)) (pw_and1 (pt_cmpR op_eq (pe_ix (ix_tupK (K := K)) (pv 3) pe_int (fun _ _ => rfl)) pe_str (nomark _)))))
    (pss_one (ps_ret (pe_callH h_l_command_at (hr.mono (by first | decide | omega)) (pa_cons (pe_ix (ix_tupK (K := K)) (pv 3) pe_int (fun _ _ => rfl)) (pa_cons (pe_op op_modN (pe_callTy call_intI (by rfl) B.b_int (by decide +kernel) (pa_cons (pv 1) pa_nil)) (pe_callH h_l_bulk (hr.mono (by first | decide | omega)) (pa_cons (pe_ix (ix_tupK (K := K)) (pv 3) pe_int (fun _ _ => rfl)) pa_nil))) (pa_cons (pv 2) pa_nil))))))
    pss_nil)
    (pss_cons (ps_if (PW.pt (pw_and (pt_cmpR op_lt (pv 1) (pv 4) (nomark _)) (pw_and1 (pt_cmpR op_eq (pe_ix (ix_tupK (K := K)) (pv 3) pe_int (fun _ _ => rfl)) pe_str (nomark _)))))
    (pss_one (ps_ret (pe_callH h_l_command_at (hr.mono (by first | decide | omega)) (pa_cons (pe_ix (ix_tupK (K := K)) (pv 3) pe_int (fun _ _ => rfl)) (pa_cons (pv 1) (pa_cons (pe_un un_neg (pv 2)) pa_nil))))))
    pss_nil)
    (pss_cons (ps_if (PW.pt (pw_and (pt_cmpR op_lt (pv 1) (pv 4) (nomark _)) (pw_and1 (pt_cmpR op_eq (pe_ix (ix_tupK (K := K)) (pv 3) pe_int (fun _ _ => rfl)) pe_str (nomark _)))))
    (pss_one (ps_ret (pe_tup (pa_cons pe_str (pa_cons (pe_op op_mul (pv 2) (pe_ix (ix_tupK (K := K)) (pv 3) pe_int (fun _ _ => rfl))) pa_nil)))))
    pss_nil)
    (pss_cons (ps_if (pt_cmpR op_lt (pv 1) (pv 4) (nomark _))
    (pss_one (ps_ret (pv 3)))
    pss_nil)
    (pss_one (ps_set (i := 1) sc_l_command_at.nd rfl (.inl rfl) (pe_op op_sub (pv 1) (pv 4))))))))))
    (pss_one (ps_ret pe_non))), ?_⟩
    walk_at "go"
    refine u_forPr hx hp (fun r σ H' => ∃ (i : Int) (y3 y4 : Option V), σ = [some (.ref a), some (.int i), some (.int sg), y3, y4] ∧ Same H H' ∧ Wf BC BC d r ∧ r.len ≤ 4000 ∧ 0 ≤ i ∧ i < r.size ∧ (Prog.unroll sg p).nth i0.toNat = (Prog.unroll sg r).nth i.toNat) ?_ ?_ ?_ ?_
    · exact ⟨i0, none, none, rfl, Same.refl _, hw, hl, i00, i01, rfl⟩
    · rintro r σ H' ⟨i, y3, y4, rfl, sm, _⟩
      exact Tk.same sm
    · rintro x r r' σ H' hf ⟨i, y3, y4, rfl, sm, hw', rl, j0, j1, en⟩
      obtain ⟨po, hr', rne⟩ := hf.one
      obtain ⟨wo, wr⟩ := WfL.one hw'
      rw [hr'] at wr
      have ol : r.one.len = 1 := by cases r <;> first | exact absurd rfl rne | (rw [Prog.one, Prog.len, Prog.len])
      have so : 1 ≤ r.one.size := Prog.size_pos wo (by omega)
      have hsz : r.size = r.one.size + r'.size := by rw [← hr', ← Prog.size_app, Prog.one_rest]
      have hln : r.len = r.one.len + r'.len := by rw [← hr', ← Prog.len_app, Prog.one_rest]
      walk_at "go"
      intro z nz
      refine ⟨z, r.one, rfl, ⟨_, upd_same, po.tk ((Tk.refl _).new nz)⟩, WfL.mono (Int.le_refl _) (Int.le_refl _) (show d ≤ 12 by omega) wo, by omega, by decide, ?_⟩
      have sz := Same.new0 (o := .tup [x]) nz
      have hf := hf.tk (Tk.same sz)
      have sm := sm.trans sz
      generalize upd H' z _ = H2 at *
      walk_at "go"
      by_cases c : i < r.one.size
      · have en := en.trans (Prog.nth_first sg i wo j0 c)
        cases r with
        | nil => exact absurd rfl rne
        | step w' n r =>
          obtain ⟨c', rfl, h1, rfl⟩ := hf
          obtain ⟨n1, n2, n3⟩ := word_ne (WfL.step_iff.mp hw').1
          rw [Prog.one, Prog.size, Prog.size] at c
          obtain rfl : i = 0 := by omega
          refine r_iteDT c ?_
          walk_at "go"
          exact k _ _ _ en ⟨c', rfl, h1⟩ sm
        | turn k' r =>
          obtain ⟨c', rfl, h1, rfl⟩ := hf
          rw [Prog.one, Prog.size, Prog.size] at c
          obtain rfl : i = 0 := by omega
          have msg : CMul sg k' := .inl ⟨by omega, by omega⟩
          refine r_iteDT c ?_
          walk_at "go"
          intro t nt
          exact k _ _ _ en ⟨t, rfl, upd_same⟩ (sm.trans (Same.new0 nt))
        | rep k' b r =>
          obtain ⟨c', q, rfl, h1, h2, rfl⟩ := hf
          cases d with
          | zero => exact hw'.elim
          | succ d =>
            obtain ⟨w1, w2, w3, w4⟩ := hw'
            have c : i < k' * b.size := by rw [Prog.one, Prog.size, Prog.size] at c; omega
            have sb := Prog.size_pos w3 w2.1
            have en := en.trans (Prog.nth_rep sg i w3 w2.1 w1.1 j0 c)
            have m0 := Int.emod_nonneg i (show b.size ≠ 0 by omega)
            have m1 := Int.emod_lt_of_pos i (show 0 < b.size by omega)
            refine r_iteDT (by assumption) ?_
            walk_at "go"
            refine ⟨q, b, rfl, h2, WfL.mono (Int.le_refl _) (Int.le_refl _) (show d ≤ 12 by omega) w3, w2.2, by decide, ?_⟩
            walk_at "go"
            rw [Int.fmod_eq_emod_of_nonneg _ (by omega)]
            exact ⟨q, b, _, sg, rfl, hsg, h2, w3, w2.2, by omega, m0, m1, fun c x H3 e1 e2 s3 => k c x H3 (en.trans e1) e2 (sm.trans s3)⟩
        | mir b r =>
          obtain ⟨c', q, rfl, h1, h2, rfl⟩ := hf
          cases d with
          | zero => exact hw'.elim
          | succ d =>
            obtain ⟨w2, w3, w4⟩ := hw'
            have c2 : i < b.size := by rw [Prog.one, Prog.size, Prog.size] at c; omega
            have en := en.trans (Prog.nth_mir sg b i.toNat)
            refine r_iteDT c ?_
            walk_at "go"
            exact ⟨q, b, i, -sg, rfl, by omega, h2, w3, w2.2, by omega, j0, c2, fun c x H3 e1 e2 s3 => k c x H3 (en.trans e1) e2 (sm.trans s3)⟩
      · have en := en.trans (Prog.nth_rest sg i wo (by omega))
        rw [hr'] at en
        refine r_iteDF c ?_
        walk_at "go"
        exact ⟨_, _, _, rfl, sm, wr, by omega, by omega, by omega, en⟩
    · rintro σ H' ⟨i, y3, y4, rfl, sm, _, _, j0, j1, _⟩
      rw [Prog.size] at j1
      omega
theorem has_cmdAt {f : Addr} {fd : FuncData} (F : Fun K "_law_command_at" "_law_command_at" s_l_command_at f fd) (B : Bl mg) (h_l_bulk : Has P w K mg base "_law_bulk" 13 ["_law_piece_here"] (spNumLt Prog.size 13)) (g : mg "_law_command_at" = some (.ref f)) (b : Binds K fd ["_law_piece_here", "_law_at", "_law_sign"] []) : ∀ d, Has P w K mg base "_law_command_at" (d + 13) ["_law_piece_here", "_law_at", "_law_sign"] (spCmdAt d)
  | 0 => has_false g F.kp b
  | d + 1 => ⟨f, fd, ok_l_command_at d F B h_l_bulk (has_cmdAt F B h_l_bulk g b d), g, F.kp, b⟩
def spIsPc : Nat → Sp
  | 0 => fun _ _ _ _ => False
  | d + 1 => fun vs H Q _ => ∃ a p, vs = [.ref a] ∧ PrIs H a p ∧ Wf BC BC d p ∧ 1 ≤ p.len ∧ p.len ≤ 4000 ∧ ∀ H', Same H H' → Q (.bl true) H'
theorem ok_l_is_piece {f : Addr} {fd : FuncData} (d : Nat) (F : Fun K "_law_is_piece" "_law_is_piece" s_l_is_piece f fd) (B : Bl mg) (h_l_is_int : Has P w K mg base "_law_is_int" 1 ["_law_thing"] spIsInt) (h_l_is_piece : Has P w K mg base "_law_is_piece" (d + 1) ["_law_thing"] (spIsPc d)) :
    FnOk P w K mg base CX0 (d + 2) f fd ["_law_thing"] (spIsPc (d + 1)) := by
  refine F.ok sc_l_is_piece (fun vs H Q E h => ?_) (fun cdv A outer s H vs Q E hr h => ?_)
  · obtain ⟨a, p, rfl, _⟩ := h
    rfl
  · obtain ⟨a, p, rfl, ⟨xs, hx, hp⟩, hw, l1, l2, k⟩ := h
    have hl := hp.length
    refine ⟨_, (pss_cons (ps_if (PW.pt (pw_or (pt_not (pt_val (pe_callB (call_isiKK (K := K)) (by rfl) B.b_isinstance (by decide +kernel) (pa_cons (pv 0) (pa_cons (pe_bltn (v := .ty "tuple") (by rfl) B.b_tuple (by decide +kernel) rfl) pa_nil))))) (pw_or1 (pt_cmpR op_eq (pe_callB (call_lenK (K := K)) (by rfl) B.b_len PySem.boot_len (pa_cons (pv 0) pa_nil)) pe_int (nomark _)))))
    (pss_one (ps_ret pe_bl))
    pss_nil)
    (pss_cons (ps_for PassesOwn.never rfl (pi_tup (pv 0)) (pg_name (i := 1) sc_l_is_piece.nd rfl (.inl rfl))
    (pss_cons (ps_if (PW.pt (pw_or (pt_not (pt_val (pe_callB (call_isiKK (K := K)) (by rfl) B.b_isinstance (by decide +kernel) (pa_cons (pv 1) (pa_cons (pe_bltn (v := .ty "tuple") (by rfl) B.b_tuple (by decide +kernel) rfl) pa_nil))))) (pw_or (pt_cmpR op_lt (pe_callB (call_lenK (K := K)) (by rfl) B.b_len PySem.boot_len (pa_cons (pv 1) pa_nil)) pe_int (nomark _)) (pw_or1 (pt_not (pt_val (pe_callB (call_isiKK (K := K)) (by rfl) B.b_isinstance (by decide +kernel) (pa_cons (pe_ix (ix_tupK (K := K)) (pv 1) pe_int (fun _ _ => rfl)) (pa_cons (pe_bltn (v := .ty "str") (by rfl) B.b_str (by decide +kernel) rfl) pa_nil)))))))))
    (pss_one (ps_ret pe_bl))
    pss_nil)
    (pss_one (ps_if (PW.pt (pw_and (pt_cmpR op_in_seq (pe_ix (ix_tupK (K := K)) (pv 1) pe_int (fun _ _ => rfl)) (pe_lst (pa_cons pe_str (pa_cons pe_str (pa_cons pe_str (pa_cons pe_str pa_nil))))) (by rfl)) (pw_and1 (pt_cmpR op_eq (pe_callB (call_lenK (K := K)) (by rfl) B.b_len PySem.boot_len (pa_cons (pv 1) pa_nil)) pe_int (nomark _)))))
    (pss_one (ps_if (PW.pt (pw_or (pt_not (pt_val (pe_callB (call_isiKK (K := K)) (by rfl) B.b_isinstance (by decide +kernel) (pa_cons (pe_ix (ix_tupK (K := K)) (pv 1) pe_int (fun _ _ => rfl)) (pa_cons (pe_bltn (v := .ty "str") (by rfl) B.b_str (by decide +kernel) rfl) pa_nil))))) (pw_or (pt_cmpR op_ne (pe_callB call_lenS (by rfl) B.b_len PySem.boot_len (pa_cons (pe_ix (ix_tupK (K := K)) (pv 1) pe_int (fun _ _ => rfl)) pa_nil)) pe_int (nomark _)) (pw_or1 (pt_cmpR op_notIn_str (pe_ix (ix_tupK (K := K)) (pv 1) pe_int (fun _ _ => rfl)) pe_str (by rfl))))))
    (pss_one (ps_ret pe_bl))
    pss_nil))
    (pss_one (ps_if (PW.pt (pw_and (pt_cmpR op_eq (pe_ix (ix_tupK (K := K)) (pv 1) pe_int (fun _ _ => rfl)) pe_str (nomark _)) (pw_and1 (pt_cmpR op_eq (pe_callB (call_lenK (K := K)) (by rfl) B.b_len PySem.boot_len (pa_cons (pv 1) pa_nil)) pe_int (nomark _)))))
    (pss_one (ps_if (pt_not (pt_val (pe_callH h_l_is_int (hr.mono (by first | decide | omega)) (pa_cons (pe_ix (ix_tupK (K := K)) (pv 1) pe_int (fun _ _ => rfl)) pa_nil))))
    (pss_one (ps_ret pe_bl))
    pss_nil))
    (pss_one (ps_if (PW.pt (pw_and (pt_cmpR op_eq (pe_ix (ix_tupK (K := K)) (pv 1) pe_int (fun _ _ => rfl)) pe_str (nomark _)) (pw_and1 (pt_cmpR op_eq (pe_callB (call_lenK (K := K)) (by rfl) B.b_len PySem.boot_len (pa_cons (pv 1) pa_nil)) pe_int (nomark _)))))
    (pss_one (ps_if (pt_not (pt_val (pe_callH h_l_is_piece (hr.mono (by first | decide | omega)) (pa_cons (pe_ix (ix_tupK (K := K)) (pv 1) pe_int (fun _ _ => rfl)) pa_nil))))
    (pss_one (ps_ret pe_bl))
    pss_nil))
    (pss_one (ps_if (PW.pt (pw_and (pt_cmpR op_eq (pe_ix (ix_tupK (K := K)) (pv 1) pe_int (fun _ _ => rfl)) pe_str (nomark _)) (pw_and1 (pt_cmpR op_eq (pe_callB (call_lenK (K := K)) (by rfl) B.b_len PySem.boot_len (pa_cons (pv 1) pa_nil)) pe_int (nomark _)))))
    (pss_one (ps_if (PW.pt (pw_or (pt_not (pt_val (pe_callH h_l_is_int (hr.mono (by first | decide | omega)) (pa_cons (pe_ix (ix_tupK (K := K)) (pv 1) pe_int (fun _ _ => rfl)) pa_nil)))) (pw_or (pt_cmpR op_lt (pe_ix (ix_tupK (K := K)) (pv 1) pe_int (fun _ _ => rfl)) pe_int (nomark _)) (pw_or1 (pt_not (pt_val (pe_callH h_l_is_piece (hr.mono (by first | decide | omega)) (pa_cons (pe_ix (ix_tupK (K := K)) (pv 1) pe_int (fun _ _ => rfl)) pa_nil))))))))
    (pss_one (ps_ret pe_bl))
    pss_nil))
    (pss_one (ps_ret pe_bl))))))))))))
    (pss_one (ps_ret pe_bl)))), ?_⟩
    walk_at "go"
    have ne0 : ¬ (xs.length : Int) = 0 := by omega
    refine u_forPr hx hp (fun r σ H' => ∃ (y1 : Option V), σ = [some (.ref a), y1] ∧ Same H H' ∧ Wf BC BC d r) ?_ ?_ ?_ ?_
    · exact ⟨none, rfl, Same.refl _, hw⟩
    · rintro r σ H' ⟨y1, rfl, sm, _⟩
      exact Tk.same sm
    · rintro x r r' σ H' hf ⟨y1, rfl, sm, hw'⟩
      cases r with
      | nil => exact hf.elim
      | step w' n r =>
        obtain ⟨c, rfl, h1, rfl⟩ := hf
        obtain ⟨w1, w2, w3⟩ := WfL.step_iff.mp hw'
        have n1 := name_len w2
        have n3 := occ_name w2
        walk_at "go"
        intro l nl
        walk_at "go"
        refine r_inW upd_same ?_
        rw [in_word w1]
        walk_at "go"
        refine ⟨_, _, rfl, rfl, ?_⟩
        rw [n3]
        walk_at "go"
        exact ⟨_, rfl, sm.trans (Same.new0 nl), w3⟩
      | turn k' r =>
        obtain ⟨c, rfl, h1, rfl⟩ := hf
        walk_at "go"
        intro l nl
        walk_at "go"
        refine r_inW upd_same ?_
        rw [in_turn]
        walk_at "go"
        refine ⟨k', rfl, ?_⟩
        walk_at "go"
        exact ⟨_, rfl, sm.trans (Same.new0 nl), (WfL.turn_iff.mp hw').2⟩
      | rep k' b r =>
        obtain ⟨c, q, rfl, h1, h2, rfl⟩ := hf
        cases d with
        | zero => exact hw'.elim
        | succ d =>
          obtain ⟨w1, w2, w3, w4⟩ := hw'
          have h1l := w1.1
          walk_at "go"
          intro l nl
          walk_at "go"
          refine r_inW upd_same ?_
          rw [in_repeat]
          walk_at "go"
          refine ⟨k', rfl, ?_⟩
          walk_at "go"
          refine ⟨q, b, rfl, h2.tk ((Tk.refl _).new nl), w3, w2.1, w2.2, fun H2 s2 => ?_⟩
          walk_at "go"
          exact ⟨_, rfl, (sm.trans (Same.new0 nl)).trans s2, w4⟩
      | mir b r =>
        obtain ⟨c, q, rfl, h1, h2, rfl⟩ := hf
        cases d with
        | zero => exact hw'.elim
        | succ d =>
          obtain ⟨w2, w3, w4⟩ := hw'
          walk_at "go"
          intro l nl
          walk_at "go"
          refine r_inW upd_same ?_
          rw [in_mirror]
          walk_at "go"
          refine ⟨q, b, rfl, h2.tk ((Tk.refl _).new nl), w3, w2.1, w2.2, fun H2 s2 => ?_⟩
          walk_at "go"
          exact ⟨_, rfl, (sm.trans (Same.new0 nl)).trans s2, w4⟩
    · rintro σ H' ⟨y1, rfl, sm, _⟩
      walk_at "go"
      exact k _ sm
theorem has_isPiece {f : Addr} {fd : FuncData} (F : Fun K "_law_is_piece" "_law_is_piece" s_l_is_piece f fd) (B : Bl mg) (h_l_is_int : Has P w K mg base "_law_is_int" 1 ["_law_thing"] spIsInt) (g : mg "_law_is_piece" = some (.ref f)) (b : Binds K fd ["_law_thing"] []) : ∀ d, Has P w K mg base "_law_is_piece" (d + 1) ["_law_thing"] (spIsPc d)
  | 0 => has_false g F.kp b
  | d + 1 => ⟨f, fd, ok_l_is_piece d F B h_l_is_int (has_isPiece F B h_l_is_int g b d), g, F.kp, b⟩
end
end My

set_option Elab.async false
set_option linter.all false
set_option maxRecDepth 100000
set_option maxHeartbeats 4000000

namespace My
open PySem PySem.Spec PyProof.Rows L2 RT
theorem same_cm {H : Hp} {c : Cm} {x y : V} (h : CmIs H c x) (h' : CmIs H c y) {n : Nat} : SameV H (n + 2) x y := by
  cases c with
  | st w m =>
    obtain ⟨a, rfl, h⟩ := h
    obtain ⟨b, rfl, h'⟩ := h'
    exact same_of2 h h' (.inr (.inl ⟨_, rfl, rfl⟩)) (.inr (.inl ⟨_, rfl, rfl⟩))
  | tn k =>
    obtain ⟨a, rfl, h⟩ := h
    obtain ⟨b, rfl, h'⟩ := h'
    exact same_of2 h h' (.inr (.inl ⟨_, rfl, rfl⟩)) (.inl ⟨_, rfl, rfl⟩)
theorem same_pr4 {H : Hp} {p : Prog} {d : Nat} {a b : Addr} (h : PrIs H a p) (h' : PrIs H b p) (hw : Wf BC BC d p) (hl : p.len ≤ 4000) : SameV H (2 * d + 3) (.ref a) (.ref b) := by
  obtain ⟨xs, hx, hp⟩ := h
  obtain ⟨ys, hy, hq⟩ := h'
  have l := hp.length
  have l' := hq.length
  exact .inr (.inr ⟨a, b, xs, ys, rfl, rfl, hx, hy, by omega, by omega, fun i u v hu hv => same_at hp hq hw i u v hu hv⟩)
section
variable {P : Program} {w : World} {K : PySem.W.Frag} {mg : Str → Option Value} {base : Heap}
local macro_rules | `(tactic| walk_at "isi") => `(tactic| (first
  | (with_reducible refine r_is_int_int ?_)
  | (with_reducible refine r_is_int_bool ?_)
  | (with_reducible refine r_is_int_str ?_)
  | (with_reducible refine r_is_int_list ?_)
  | (with_reducible refine r_is_int_tuple ?_)
  | (with_reducible refine r_is_bool_int ?_)
  | (with_reducible refine r_is_bool_bool ?_)
  | (with_reducible refine r_is_bool_str ?_)
  | (with_reducible refine r_is_bool_list ?_)
  | (with_reducible refine r_is_bool_tuple ?_)
  | (with_reducible refine r_is_str_int ?_)
  | (with_reducible refine r_is_str_bool ?_)
  | (with_reducible refine r_is_str_str ?_)
  | (with_reducible refine r_is_str_list ?_)
  | (with_reducible refine r_is_str_tuple ?_)
  | ((with_reducible refine r_is_list_int (xs := ?xx) ?hh ?_); (case hh => walk_at "hp"))
  | ((with_reducible refine r_is_list_bool (xs := ?xx) ?hh ?_); (case hh => walk_at "hp"))
  | ((with_reducible refine r_is_list_str (xs := ?xx) ?hh ?_); (case hh => walk_at "hp"))
  | ((with_reducible refine r_is_list_list (xs := ?xx) ?hh ?_); (case hh => walk_at "hp"))
  | ((with_reducible refine r_is_list_tuple (xs := ?xx) ?hh ?_); (case hh => walk_at "hp"))
  | ((with_reducible refine r_is_tuple_int (xs := ?xx) ?hh ?_); (case hh => walk_at "hp"))
  | ((with_reducible refine r_is_tuple_bool (xs := ?xx) ?hh ?_); (case hh => walk_at "hp"))
  | ((with_reducible refine r_is_tuple_str (xs := ?xx) ?hh ?_); (case hh => walk_at "hp"))
  | ((with_reducible refine r_is_tuple_list (xs := ?xx) ?hh ?_); (case hh => walk_at "hp"))
  | ((with_reducible refine r_is_tuple_tuple (xs := ?xx) ?hh ?_); (case hh => walk_at "hp"))
  | (with_reducible refine r_is_NoneType_int ?_)
  | (with_reducible refine r_is_NoneType_bool ?_)
  | (with_reducible refine r_is_NoneType_str ?_)
  | (with_reducible refine r_is_NoneType_list ?_)
  | (with_reducible refine r_is_NoneType_tuple ?_)))
local macro_rules | `(tactic| walk_at "ne") => `(tactic| first | assumption | (refine Ne.symm ?_; assumption) | exact Bag.ne (by assumption) (by assumption) | exact ne_of_none (by assumption) (by assumption))
local macro_rules | `(tactic| walk_at "hp") => `(tactic| (first
  | assumption
  | exact upd_same
  | (refine h_keep ?_ (by assumption); walk_at "hp")
  | (refine (upd_ne (by walk_at "ne")).trans ?_; walk_at "hp")
  | (refine Same.at (by assumption) ?_; walk_at "hp")
  | (refine But.at (by assumption) (by walk_at "ne") ?_; walk_at "hp")
  | (refine But2.at (by assumption) (by walk_at "ne") (by walk_at "ne") ?_; walk_at "hp")))
local macro_rules | `(tactic| walk_at "side") => `(tactic| first | assumption | omega | (refine ⟨?_, ?_⟩ <;> first | assumption | omega | decide) | decide | (refine ⟨by decide, by decide, by decide⟩) | (left; refine ⟨?_, ?_⟩ <;> first | omega | decide) | (right; refine ⟨?_, ?_⟩ <;> first | omega | decide) | (simp; done))
local macro_rules | `(tactic| walk_at "cond") => `(tactic| first | assumption | exact rfl | omega | (simp only [List.length_cons, List.length_nil]; omega) | decide +kernel)
local macro_rules | `(tactic| walk_at "s") => `(tactic| (first
  | ((with_reducible refine r_var (v := ?vv) ?ee ?_); (case ee => exact rfl))
  | (with_reducible refine r_c ?_)
  | (with_reducible refine r_op ?_)
  | (with_reducible refine r_un ?_)
  | (with_reducible refine r_rI0 ?_)
  | ((with_reducible refine r_rI ?cc ?_); (case cc => walk_at "side"))
  | (with_reducible refine r_rU ?_)
  | (with_reducible refine r_eqI ?_)
  | (with_reducible refine r_neI ?_)
  | (with_reducible refine r_eqB ?_)
  | (with_reducible refine r_neB ?_)
  | (with_reducible refine r_eqS ?_)
  | (with_reducible refine r_neS ?_)
  | ((with_reducible refine r_eq ?ee ?_); (case ee => exact rfl))
  | ((with_reducible refine r_ne ?ee ?_); (case ee => exact rfl))
  | ((with_reducible refine r_ixL (v := ?vv) (xs := ?xx) ?hh ?ee ?_); (case hh => (refine SqL.of ?_; walk_at "hp")); (case ee => exact rfl))
  | (with_reducible refine r_cb ?_)
  | (with_reducible refine r_call ?_)
  | (with_reducible refine r_cons ?_)
  | (with_reducible refine r_nil ?_)
  | (with_reducible refine r_lst ?_)
  | (with_reducible refine r_tup ?_)
  | ((with_reducible refine r_new ?cc ?_); (case cc => walk_at "side"))
  | (with_reducible refine r_exbl ?_)
  | (with_reducible refine r_exint ?_)
  | (with_reducible refine r_exint2 ?_)
  | (with_reducible refine r_exblL ?_)
  | (with_reducible refine r_ex2 ?_)
  | (with_reducible refine r_test ?_)
  | (with_reducible refine r_tB ?_)
  | (with_reducible refine r_not ?_)
  | (with_reducible refine r_and ?_)
  | (with_reducible refine r_or ?_)
  | (with_reducible refine r_andV ?_)
  | (with_reducible refine r_orV ?_)
  | (with_reducible refine r_notV ?_)
  | (with_reducible refine r_tif ?_)
  | (with_reducible refine r_iteT ?_)
  | (with_reducible refine r_iteNT ?_)
  | (with_reducible refine r_iteNF ?_)
  | (with_reducible refine r_iteF ?_)
  | (with_reducible refine r_seq ?_)
  | (with_reducible refine r_next ?_)
  | (with_reducible refine r_brk ?_)
  | (with_reducible refine r_cont ?_)
  | (with_reducible refine r_asg ?_)
  | (with_reducible refine r_gname ?_)
  | (with_reducible refine r_ret ?_)
  | (with_reducible refine r_retN ?_)
  | (with_reducible refine r_drop ?_)
  | (with_reducible refine r_if ?_)
  | ((with_reducible refine r_aug (x := ?xx) ?ee ?_); (case ee => exact rfl))
  | (with_reducible refine r_ipI ?_)
  | (with_reducible refine r_augS ?_)
  | (with_reducible refine r_gsub ?_)
  | ((with_reducible refine r_setL (xs := ?xx) (m := ?mm) ?hh ?ee ?_); (case hh => walk_at "hp"); (case ee => exact rfl))
  | (with_reducible refine r_par ?_)
  | (with_reducible refine r_bm ?_)
  | ((with_reducible refine r_tyL (xs := ?xx) ?hh ?_); (case hh => walk_at "hp"))
  | ((with_reducible refine r_append (xs := ?xx) ?hh ?ll ?_); (case hh => walk_at "hp"); (case ll => walk_at "side"))
  | (walk_at "isi")
  | (with_reducible refine r_for ?_)
  | (with_reducible refine r_iList ?_)
  | (with_reducible refine r_iTup ?_)
  | (with_reducible refine r_iR1 ?_)
  | (with_reducible refine r_iR2 ?_)
  | (with_reducible refine r_lc ?_)
  | (with_reducible refine r_yes ?_)
  | ((with_reducible refine r_lenS ?ll ?_); (case ll => walk_at "side"))
  | (with_reducible refine r_leS ?_)
  | (with_reducible refine r_chain ?_)
  | (with_reducible refine r_tM1 ?_)
  | (with_reducible refine r_exS ?_)
  | ((with_reducible refine r_tupL (xs := ?xx) ?hh ?_); (case hh => walk_at "hp"))
  | ((with_reducible refine r_listL (xs := ?xx) ?hh ?_); (case hh => walk_at "hp"))
  | ((with_reducible refine r_listT (xs := ?xx) ?hh ?_); (case hh => walk_at "hp"))
  | ((with_reducible refine r_ixT (v := ?vv) (xs := ?xx) ?hh ?ee ?_); (case hh => (refine SqT.of ?_; walk_at "hp")); (case ee => exact rfl))
  | (with_reducible refine r_sl ?_)
  | (with_reducible refine r_nopart ?_)
  | (with_reducible refine r_part ?_)
  | (with_reducible refine r_exI ?_)
  | ((with_reducible refine r_slL (xs := ?xx) ?hh ?_); (case hh => first | assumption | (refine SqL.of ?_; walk_at "hp") | (refine Same.seq (by assumption) (by assumption))))
  | ((with_reducible refine r_cat (xs := ?xx) (zs := ?zz) ?hh ?ii ?ll ?_); (case hh => walk_at "hp"); (case ii => walk_at "hp"); (case ll => walk_at "side"))
  | ((with_reducible refine r_lenL (xs := ?xx) ?hh ?_); (case hh => walk_at "hp"))
  | ((with_reducible refine r_lenT (xs := ?xx) ?hh ?_); (case hh => walk_at "hp"))
  | ((with_reducible refine r_gTup (xs := ?xx) ?hh ?ll ?_); (case hh => walk_at "hp"); (case ll => exact rfl))
  | (with_reducible refine r_gCons ?_)
  | (with_reducible refine r_gNil ?_)
  | ((with_reducible refine r_iteDT ?cc ?_); (case cc => walk_at "cond"))
  | ((with_reducible refine r_iteDF ?cc ?_); (case cc => walk_at "cond"))
  | ((with_reducible refine r_iteNDT ?cc ?_); (case cc => walk_at "cond"))
  | ((with_reducible refine r_iteNDF ?cc ?_); (case cc => walk_at "cond"))
  ))
local macro_rules | `(tactic| walk_at "go") => `(tactic| repeat (walk_at "s"))

/-- a program to be parted -/
def Cuts (H : Hp) (a : Addr) (p : Prog) : Prop := PrIs H a p ∧ WfL 300 BC BC 12 p ∧ 1 ≤ p.len ∧ p.len ≤ 300
theorem Cuts.tk {H H' : Hp} {a : Addr} {p : Prog} (h : Cuts H a p) (t : Tk H H') : Cuts H' a p := ⟨h.1.tk t, h.2⟩
theorem Cuts.good {H : Hp} {a : Addr} {p : Prog} (h : Cuts H a p) : Good H a p := ⟨h.1, WfL.wide (by decide) h.2.1, h.2.2.1, by have := h.2.2.2; omega⟩
def spCheckCountN : Sp := fun vs H Q _ => ∃ a p n, vs = [.ref a, .int n] ∧ Cuts H a p ∧ 0 ≤ n ∧ n ≤ p.size ∧ Q .non H
theorem ok_check_count {f : Addr} {fd : FuncData} (F : Fun K "check_count" "check_count" s_check_count f fd) (h_is_integer : Has P w K mg base "is_integer" 1 ["value"] spIsInt) (h_raw_size : Has P w K mg base "raw_size" 13 ["program"] (spNumLt Prog.size 13)) :
    FnOk P w K mg base CX0 14 f fd ["program", "value"] spCheckCountN := by
  refine F.ok sc_check_count (fun vs H Q E h => ?_) (fun cdv A outer s H vs Q E hr h => ?_)
  · obtain ⟨a, p, v, rfl, _⟩ := h
    rfl
  · obtain ⟨a, p, n, rfl, hc, n0, n1, k⟩ := h
    have hg := hc.good
    refine ⟨_, (pss_one (ps_if (PW.pt (pw_or (pt_not (pt_val (pe_callH h_is_integer (hr.mono (by first | decide | omega)) (pa_cons (pv 1) pa_nil)))) (pw_or (pt_cmpR op_lt (pv 1) pe_int (nomark _)) (pw_or1 (pt_cmpR op_gt (pv 1) (pe_callH h_raw_size (hr.mono (by first | decide | omega)) (pa_cons (pv 0) pa_nil)) (nomark _))))))
    (pss_one ps_never)
    pss_nil)), ?_⟩
    walk_at "go"
    refine ⟨n, rfl, ?_⟩
    walk_at "go"
    refine ⟨a, p, rfl, hg.1, hg.2.1, hg.2.2.2, by decide, ?_⟩
    walk_at "go"
    exact k
def spPartedN : Sp := fun vs H Q _ => ∃ a p n, vs = [.ref a, .int n] ∧ Cuts H a p ∧ 0 < n ∧ n < p.size ∧ ∀ t q1 q2 H', Same H H' → H' t = some (.tup [.ref q1, .ref q2]) → PrIs H' q1 (p.part n).1 → PrIs H' q2 (p.part n).2 → Q (.ref t) H'
theorem ok_parted {f : Addr} {fd : FuncData} (F : Fun K "parted" "parted" s_parted f fd) (B : Bl mg) (h_check_program : Has P w K mg base "check_program" 28 ["value"] spCheckPr) (h_check_count : Has P w K mg base "check_count" 14 ["program", "value"] spCheckCountN)
   (h_raw_size : Has P w K mg base "raw_size" 13 ["program"] (spNumLt Prog.size 13)) (h_parted_commands : Has P w K mg base "parted_commands" 40 ["program", "count"] (spPcs 13)) : FnOk P w K mg base CX0 41 f fd ["program", "count"] spPartedN := by
  refine F.ok sc_parted (fun vs H Q E h => ?_) (fun cdv A outer s H vs Q E hr h => ?_)
  · obtain ⟨a, p, v, rfl, _⟩ := h
    rfl
  · obtain ⟨a, p, n, rfl, hc, n0, n1, k⟩ := h
    refine ⟨_, (pss_cons (ps_expr (pe_callH h_check_program (hr.mono (by first | decide | omega)) (pa_cons (pv 0) pa_nil)))
    (pss_cons (ps_expr (pe_callH h_check_count (hr.mono (by first | decide | omega)) (pa_cons (pv 0) (pa_cons (pv 1) pa_nil))))
    (pss_cons (ps_if (PW.pt (pw_or (pt_cmpR op_eq (pv 1) pe_int (nomark _)) (pw_or1 (pt_cmpR op_eq (pv 1) (pe_callH h_raw_size (hr.mono (by first | decide | omega)) (pa_cons (pv 0) pa_nil)) (nomark _)))))
    (pss_one ps_never)
    pss_nil)
    (pss_cons (ps_asg (pe_callH h_parted_commands (hr.mono (by first | decide | omega)) (pa_cons (pv 0) (pa_cons (pv 1) pa_nil))) (pg_tup (by rfl) (pgs_cons (pg_name (i := 2) sc_parted.nd rfl (.inl rfl)) (pgs_cons (pg_name (i := 3) sc_parted.nd rfl (.inl rfl)) pgs_nil))))
    (pss_one (ps_ret (pe_tup (pa_cons (pe_callTy call_tupL (by rfl) B.b_tuple (by decide +kernel) (pa_cons (pv 2) pa_nil)) (pa_cons (pe_callTy call_tupL (by rfl) B.b_tuple (by decide +kernel) (pa_cons (pv 3) pa_nil)) pa_nil))))))))), ?_⟩
    walk_at "go"
    refine ⟨a, p, rfl, hc.good, fun H1 s1 => ?_⟩
    have hc := hc.tk (Tk.same s1)
    have hg := hc.good
    have sp := Prog.size_pos hg.2.1 hg.2.2.1
    walk_at "go"
    refine ⟨a, p, _, rfl, hc, by omega, by omega, ?_⟩
    walk_at "go"
    refine ⟨a, p, rfl, hg.1, hg.2.1, hg.2.2.2, by decide, ?_⟩
    walk_at "go"
    refine ⟨a, p, n, rfl, hc.1, hc.2.1, hc.2.2.2, by decide, by omega, by omega, fun t H2 s2 ht => ?_⟩
    obtain ⟨l1, l2, xs, ys, ht, hl1, hl2, hx, hy, _, _⟩ := ht
    walk_at "go"
    intro q1 n1
    walk_at "go"
    intro q2 n2
    walk_at "go"
    intro t2 nt2
    have st := Same.new (Same.new (Same.new0 (o := .tup xs) n1) (o := .tup ys) n2) (o := .tup [.ref q1, .ref q2]) nt2
    exact k t2 q1 q2 _ ((s1.trans s2).trans st) upd_same ⟨xs, h_keep (h_keep upd_same n2) nt2, hx.tk (Tk.same st)⟩ ⟨ys, h_keep upd_same nt2, hy.tk (Tk.same st)⟩
end
end My

set_option Elab.async false
set_option linter.all false
set_option maxRecDepth 100000
namespace My
open PySem PySem.Spec PyProof.Rows L2
/-! ### a call by keywords in the turned sequence -/
def spRev (sp : Sp) : Sp := fun vs H Q E => sp vs.reverse H Q E
def gR (us ws : List Value) : List Value := match us with | [] => ws.reverse | _ :: _ => []
def gRV (us ws : List V) : List V := match us with | [] => ws.reverse | _ :: _ => []
structure HasKR (P : Program) (w : World) (K : PySem.W.Frag) (mg : Str → Option Value) (base : Heap) (x : Str) (k : Nat) (ps ks : List Str) (sp : Sp) : Prop where
  ex : ∃ f fd, FnOk P w K mg base CX0 k f fd ps sp ∧ mg x = some (.ref f) ∧ PySem.W.keepIn K (.ref f) = true ∧ KBinds K fd ps ks gR gRV
theorem vals_rv : ∀ {vs : List V} {us : List Value}, Vals vs us → Vals vs.reverse us.reverse
  | _, _, .nil => .nil
  | _, _, .cons r t => by
    rw [List.reverse_cons, List.reverse_cons]
    exact Vals.append (vals_rv t) (.cons r .nil)
theorem kbindsR {K : PySem.W.Frag} {fd : FuncData} {ps ks : List Str} (h : ∀ ws : List Value, ws.length = ps.length → bindArgs fd ⟨[], ks.zip ws⟩ = pure (ps.zip ws.reverse)) (h0 : ps ≠ []) : KBinds K fd ps ks gR gRV := ⟨fun s us ws _ hl => by
  cases us with
  | nil => exact .of_eq (h ws (by have : ws.reverse.length = ps.length := hl; rwa [List.length_reverse] at this))
  | cons u r => exact absurd (List.length_eq_zero_iff.mp hl.symm) h0, fun r rz => by
  cases r with
  | nil => exact vals_rv rz
  | cons _ _ => exact .nil⟩
theorem pe_callHR {X : Cx} {k : Nat} {ps ks : List Str} {sp : Sp} {x : Str} {p pos : Pos} {kws : List Keyword} {tk : TA} (h : HasKR X.prog X.w X.K X.mg X.base x k ps ks sp) (hr : Room k X.A) (hkw : PK X kws tk) (hg : Gl X x := by rfl)
    (hall : (backToKw pos (keywordEach kws X.env)).all (·.1.isSome) = true := by rfl) (hks : (backToKw pos (keywordEach kws X.env)).filterMap (·.1) = ks := by rfl) (hdb : (x == ("__debug__" : Str)) = false := by decide)
    (hpl : ((backTo pos (starEach [] X.env)).any (·.1) || (backToKw pos (keywordEach kws X.env)).any (·.1.isNone)) = false := by rfl) : PE X (.Call (.Name x p) [] kws pos) (tCall (spRev sp) [] E0 tk) := by
  obtain ⟨f, fd, F, a, b, kb⟩ := h.ex
  refine ⟨fun pins s σ H Q I h => ?_⟩
  refine wpAny_Call_Name_kw (ld_glob I hg a ?_ hdb)
  refine PySem.W.callWith_KW0 (h₀ := X.base) I.ok.mod.kin b hall (thn (hkw.run pos pins s σ H _ I h) fun ws s2 ⟨zs, H2, I2, rz, q2⟩ => ⟨I2.kIn, ?_⟩) hpl
  rw [hks]
  have q2 : sp (zs ++ []).reverse H2 Q E0 := q2
  rw [List.append_nil] at q2
  exact run_fnk (us := []) (vs := []) F hr kb pass0 I2 .nil rz q2
/-! ### lists of ints compared -/
theorem eqv_ints : ∀ bs cs : List Int, PyData.eqvAll (bs.map PyData.int) (cs.map PyData.int) = decide (bs = cs)
  | [], [] => by simp [PyData.eqvAll]
  | [], _ :: _ => by simp [PyData.eqvAll]
  | _ :: _, [] => by simp [PyData.eqvAll]
  | c :: bs, d :: cs => by
    rw [List.map_cons, List.map_cons, PyData.eqvAll, eqv_ints bs cs]
    by_cases e : c = d <;> by_cases f : bs = cs <;> simp [PyData.eqv, e, f]
section
variable {K : PySem.W.Frag} {H : Hp}
theorem dp_ints : ∀ bs : List Int, DpAll K H (bs.map V.int) (bs.map PyData.int)
  | [] => .nil
  | c :: bs => .cons (.int c) (dp_ints bs)
theorem shaped_ints (bs : List Int) : SeqAt.shaped (.list (bs.map PyData.int)) = true := (Lay.list (n := 1) fun x hx => by
  obtain ⟨c, _, rfl⟩ := List.mem_map.mp hx
  exact ⟨by simp [PyData.canLay0], by simp [PyData.depth]⟩).shaped (by decide)
theorem r_neIs {Q : VK} {l m : Addr} {bs cs : List Int} (h : H l = some (.lst (bs.map V.int))) (h' : H m = some (.lst (cs.map V.int))) (q : Q (.bl (!decide (bs = cs))) H) : rNeD K (.ref l) (.ref m) H Q :=
  ⟨_, _, .lst (.of h) (dp_ints bs), .lst (.of h') (dp_ints cs), shaped_ints bs, shaped_ints cs, by rw [PyData.eqv, eqv_ints]; exact q⟩
end
end My

set_option Elab.async false
set_option linter.all false
set_option maxRecDepth 100000
set_option maxHeartbeats 4000000

namespace My
open PySem PySem.Spec PyProof.Rows L2 RT
section
variable {P : Program} {w : World} {K : PySem.W.Frag} {mg : Str → Option Value} {base : Heap}
local macro_rules | `(tactic| walk_at "isi") => `(tactic| (first
  | (with_reducible refine r_is_int_int ?_)
  | (with_reducible refine r_is_int_bool ?_)
  | (with_reducible refine r_is_int_str ?_)
  | (with_reducible refine r_is_int_list ?_)
  | (with_reducible refine r_is_int_tuple ?_)
  | (with_reducible refine r_is_bool_int ?_)
  | (with_reducible refine r_is_bool_bool ?_)
  | (with_reducible refine r_is_bool_str ?_)
  | (with_reducible refine r_is_bool_list ?_)
  | (with_reducible refine r_is_bool_tuple ?_)
  | (with_reducible refine r_is_str_int ?_)
  | (with_reducible refine r_is_str_bool ?_)
  | (with_reducible refine r_is_str_str ?_)
  | (with_reducible refine r_is_str_list ?_)
  | (with_reducible refine r_is_str_tuple ?_)
  | ((with_reducible refine r_is_list_int (xs := ?xx) ?hh ?_); (case hh => walk_at "hp"))
  | ((with_reducible refine r_is_list_bool (xs := ?xx) ?hh ?_); (case hh => walk_at "hp"))
  | ((with_reducible refine r_is_list_str (xs := ?xx) ?hh ?_); (case hh => walk_at "hp"))
  | ((with_reducible refine r_is_list_list (xs := ?xx) ?hh ?_); (case hh => walk_at "hp"))
  | ((with_reducible refine r_is_list_tuple (xs := ?xx) ?hh ?_); (case hh => walk_at "hp"))
  | ((with_reducible refine r_is_tuple_int (xs := ?xx) ?hh ?_); (case hh => walk_at "hp"))
  | ((with_reducible refine r_is_tuple_bool (xs := ?xx) ?hh ?_); (case hh => walk_at "hp"))
  | ((with_reducible refine r_is_tuple_str (xs := ?xx) ?hh ?_); (case hh => walk_at "hp"))
  | ((with_reducible refine r_is_tuple_list (xs := ?xx) ?hh ?_); (case hh => walk_at "hp"))
  | ((with_reducible refine r_is_tuple_tuple (xs := ?xx) ?hh ?_); (case hh => walk_at "hp"))
  | (with_reducible refine r_is_NoneType_int ?_)
  | (with_reducible refine r_is_NoneType_bool ?_)
  | (with_reducible refine r_is_NoneType_str ?_)
  | (with_reducible refine r_is_NoneType_list ?_)
  | (with_reducible refine r_is_NoneType_tuple ?_)))
local macro_rules | `(tactic| walk_at "ne") => `(tactic| first | assumption | (refine Ne.symm ?_; assumption) | exact Bag.ne (by assumption) (by assumption) | exact ne_of_none (by assumption) (by assumption))
local macro_rules | `(tactic| walk_at "hp") => `(tactic| (first
  | assumption
  | exact upd_same
  | (refine h_keep ?_ (by assumption); walk_at "hp")
  | (refine (upd_ne (by walk_at "ne")).trans ?_; walk_at "hp")
  | (refine Same.at (by assumption) ?_; walk_at "hp")
  | (refine But.at (by assumption) (by walk_at "ne") ?_; walk_at "hp")
  | (refine But2.at (by assumption) (by walk_at "ne") (by walk_at "ne") ?_; walk_at "hp")))
local macro_rules | `(tactic| walk_at "side") => `(tactic| first | assumption | omega | (refine ⟨?_, ?_⟩ <;> first | assumption | omega | decide) | decide | (refine ⟨by decide, by decide, by decide⟩) | (left; refine ⟨?_, ?_⟩ <;> first | omega | decide) | (right; refine ⟨?_, ?_⟩ <;> first | omega | decide) | (simp; done))
local macro_rules | `(tactic| walk_at "cond") => `(tactic| first | assumption | exact rfl | omega | (simp only [List.length_cons, List.length_nil]; omega) | decide +kernel)
local macro_rules | `(tactic| walk_at "s") => `(tactic| (first
  | ((with_reducible refine r_var (v := ?vv) ?ee ?_); (case ee => exact rfl))
  | (with_reducible refine r_c ?_)
  | (with_reducible refine r_op ?_)
  | (with_reducible refine r_un ?_)
  | (with_reducible refine r_rI0 ?_)
  | ((with_reducible refine r_rI ?cc ?_); (case cc => walk_at "side"))
  | (with_reducible refine r_rU ?_)
  | (with_reducible refine r_eqI ?_)
  | (with_reducible refine r_neI ?_)
  | (with_reducible refine r_eqB ?_)
  | (with_reducible refine r_neB ?_)
  | (with_reducible refine r_eqS ?_)
  | (with_reducible refine r_neS ?_)
  | ((with_reducible refine r_eq ?ee ?_); (case ee => exact rfl))
  | ((with_reducible refine r_ne ?ee ?_); (case ee => exact rfl))
  | ((with_reducible refine r_ixL (v := ?vv) (xs := ?xx) ?hh ?ee ?_); (case hh => (refine SqL.of ?_; walk_at "hp")); (case ee => exact rfl))
  | (with_reducible refine r_cb ?_)
  | (with_reducible refine r_call ?_)
  | (with_reducible refine r_cons ?_)
  | (with_reducible refine r_nil ?_)
  | (with_reducible refine r_lst ?_)
  | (with_reducible refine r_tup ?_)
  | ((with_reducible refine r_new ?cc ?_); (case cc => walk_at "side"))
  | (with_reducible refine r_exbl ?_)
  | (with_reducible refine r_exint ?_)
  | (with_reducible refine r_exint2 ?_)
  | (with_reducible refine r_exblL ?_)
  | (with_reducible refine r_ex2 ?_)
  | (with_reducible refine r_test ?_)
  | (with_reducible refine r_tB ?_)
  | (with_reducible refine r_not ?_)
  | (with_reducible refine r_and ?_)
  | (with_reducible refine r_or ?_)
  | (with_reducible refine r_andV ?_)
  | (with_reducible refine r_orV ?_)
  | (with_reducible refine r_notV ?_)
  | (with_reducible refine r_tif ?_)
  | (with_reducible refine r_iteT ?_)
  | (with_reducible refine r_iteNT ?_)
  | (with_reducible refine r_iteNF ?_)
  | (with_reducible refine r_iteF ?_)
  | (with_reducible refine r_seq ?_)
  | (with_reducible refine r_next ?_)
  | (with_reducible refine r_brk ?_)
  | (with_reducible refine r_cont ?_)
  | (with_reducible refine r_asg ?_)
  | (with_reducible refine r_gname ?_)
  | (with_reducible refine r_ret ?_)
  | (with_reducible refine r_retN ?_)
  | (with_reducible refine r_drop ?_)
  | (with_reducible refine r_if ?_)
  | ((with_reducible refine r_aug (x := ?xx) ?ee ?_); (case ee => exact rfl))
  | (with_reducible refine r_ipI ?_)
  | (with_reducible refine r_augS ?_)
  | (with_reducible refine r_gsub ?_)
  | ((with_reducible refine r_setL (xs := ?xx) (m := ?mm) ?hh ?ee ?_); (case hh => walk_at "hp"); (case ee => exact rfl))
  | (with_reducible refine r_par ?_)
  | (with_reducible refine r_bm ?_)
  | ((with_reducible refine r_tyL (xs := ?xx) ?hh ?_); (case hh => walk_at "hp"))
  | ((with_reducible refine r_append (xs := ?xx) ?hh ?ll ?_); (case hh => walk_at "hp"); (case ll => walk_at "side"))
  | (walk_at "isi")
  | (with_reducible refine r_for ?_)
  | (with_reducible refine r_iList ?_)
  | (with_reducible refine r_iTup ?_)
  | (with_reducible refine r_iR1 ?_)
  | (with_reducible refine r_iR2 ?_)
  | (with_reducible refine r_lc ?_)
  | (with_reducible refine r_yes ?_)
  | ((with_reducible refine r_lenS ?ll ?_); (case ll => walk_at "side"))
  | (with_reducible refine r_leS ?_)
  | (with_reducible refine r_chain ?_)
  | (with_reducible refine r_tM1 ?_)
  | (with_reducible refine r_exS ?_)
  | ((with_reducible refine r_tupL (xs := ?xx) ?hh ?_); (case hh => walk_at "hp"))
  | ((with_reducible refine r_listL (xs := ?xx) ?hh ?_); (case hh => walk_at "hp"))
  | ((with_reducible refine r_listT (xs := ?xx) ?hh ?_); (case hh => walk_at "hp"))
  | ((with_reducible refine r_ixT (v := ?vv) (xs := ?xx) ?hh ?ee ?_); (case hh => (refine SqT.of ?_; walk_at "hp")); (case ee => exact rfl))
  | (with_reducible refine r_sl ?_)
  | (with_reducible refine r_nopart ?_)
  | (with_reducible refine r_part ?_)
  | (with_reducible refine r_exI ?_)
  | ((with_reducible refine r_slL (xs := ?xx) ?hh ?_); (case hh => first | assumption | (refine SqL.of ?_; walk_at "hp") | (refine Same.seq (by assumption) (by assumption))))
  | ((with_reducible refine r_cat (xs := ?xx) (zs := ?zz) ?hh ?ii ?ll ?_); (case hh => walk_at "hp"); (case ii => walk_at "hp"); (case ll => walk_at "side"))
  | ((with_reducible refine r_lenL (xs := ?xx) ?hh ?_); (case hh => walk_at "hp"))
  | ((with_reducible refine r_lenT (xs := ?xx) ?hh ?_); (case hh => walk_at "hp"))
  | ((with_reducible refine r_gTup (xs := ?xx) ?hh ?ll ?_); (case hh => walk_at "hp"); (case ll => exact rfl))
  | (with_reducible refine r_gCons ?_)
  | (with_reducible refine r_gNil ?_)
  | ((with_reducible refine r_iteDT ?cc ?_); (case cc => walk_at "cond"))
  | ((with_reducible refine r_iteDF ?cc ?_); (case cc => walk_at "cond"))
  | ((with_reducible refine r_iteNDT ?cc ?_); (case cc => walk_at "cond"))
  | ((with_reducible refine r_iteNDF ?cc ?_); (case cc => walk_at "cond"))
  ))
local macro_rules | `(tactic| walk_at "go") => `(tactic| repeat (walk_at "s"))

local macro_rules | `(tactic| walk_at "s") => `(tactic| (first
  | (with_reducible refine r_isNR ?_)
  ))
/-- a program and its two parts -/
structure Parts (H : Hp) (a q1 q2 : Addr) (p : Prog) (n : Int) : Prop where
  c : Cuts H a p
  n0 : 0 < n
  n1 : n < p.size
  h1 : PrIs H q1 (p.part n).1
  h2 : PrIs H q2 (p.part n).2
  l : (p.part n).1.len + (p.part n).2.len ≤ 4000
theorem Parts.tk {H H' : Hp} {a q1 q2 : Addr} {p : Prog} {n : Int} (h : Parts H a q1 q2 p n) (t : Tk H H') : Parts H' a q1 q2 p n := ⟨h.c.tk t, h.n0, h.n1, h.h1.tk t, h.h2.tk t, h.l⟩
theorem Parts.ok {H : Hp} {a q1 q2 : Addr} {p : Prog} {n : Int} (h : Parts H a q1 q2 p n) : Wf BC BC 12 (p.part n).1 ∧ Wf BC BC 12 (p.part n).2 ∧ 1 ≤ (p.part n).1.len ∧ 1 ≤ (p.part n).2.len ∧ (p.part n).1.size = n ∧ (p.part n).2.size = p.size - n := by
  have po := Prog.part_ok h.c.2.1 (Int.le_of_lt h.n0) (Int.le_of_lt h.n1)
  have n0 := h.n0
  have n1 := h.n1
  exact ⟨WfL.wide (by decide) po.w1, WfL.wide (by decide) po.w2, Prog.len_pos (by have := po.s1; omega), Prog.len_pos (by have := po.s2; omega), po.s1, po.s2⟩
def spAlikeAt : Sp := fun vs H Q _ => ∃ (a q1 q2 sp : Addr) (p : Prog) (n : Int) (is : List Int), vs = [.ref a, .ref q1, .ref q2, .int n, .ref sp] ∧ Parts H a q1 q2 p n ∧ H sp = some (.lst (is.map V.int)) ∧ (∀ i ∈ is, 0 ≤ i ∧ i < p.size) ∧ ∀ H', Same H H' → Q (.bl true) H'
theorem ok_l_alike_at {f : Addr} {fd : FuncData} (F : Fun K "_law_alike_at" "_law_alike_at" s_l_alike_at f fd) (h_l_command_at : Has P w K mg base "_law_command_at" 26 ["_law_piece_here", "_law_at", "_law_sign"] (spCmdAt 13)) (h_l_same_piece : Has P w K mg base "_law_same_piece" 28 ["_law_found", "_law_due"] (spSame 28)) :
    FnOk P w K mg base CX0 29 f fd ["_law_piece_here", "_law_first", "_law_second", "_law_lots", "_law_spots"] spAlikeAt := by
  refine F.ok sc_l_alike_at (fun vs H Q E h => ?_) (fun cdv A outer s H vs Q E hr h => ?_)
  · obtain ⟨a, q1, q2, sp, p, n, is, rfl, _⟩ := h
    rfl
  · obtain ⟨a, q1, q2, sp, p, n, is, rfl, ps, hsp, his, k⟩ := h
    refine ⟨_, (pss_cons (ps_for PassesOwn.never rfl (pi_list (pv 4)) (pg_name (i := 5) sc_l_alike_at.nd rfl (.inl rfl))
    (pss_cons (ps_set (i := 6) sc_l_alike_at.nd rfl (.inl rfl) (pe_callH h_l_command_at (hr.mono (by first | decide | omega)) (pa_cons (pv 0) (pa_cons (pv 5) (pa_cons pe_int pa_nil)))))
    (pss_cutM (ps_if (pt_cmpR op_lt (pv 5) (pv 3) (nomark _))
    (pss_one (ps_set (i := 7) sc_l_alike_at.nd rfl (.inl rfl) (pe_callH h_l_command_at (hr.mono (by first | decide | omega)) (pa_cons (pv 1) (pa_cons (pv 5) (pa_cons pe_int pa_nil))))))
    (pss_one (ps_set (i := 7) sc_l_alike_at.nd rfl (.inl rfl) (pe_callH h_l_command_at (hr.mono (by first | decide | omega)) (pa_cons (pv 2) (pa_cons (pe_op op_sub (pv 5) (pv 3)) (pa_cons pe_int pa_nil)))))))
    (pss_one (ps_if (pt_not (pt_val (pe_callH h_l_same_piece (hr.mono (by first | decide | omega)) (pa_cons (pv 7) (pa_cons (pv 6) pa_nil)))))
    (pss_one (ps_ret pe_bl))
    pss_nil)))))
    (pss_one (ps_ret pe_bl))), ?_⟩
    obtain ⟨w1, w2, l1, l2, z1, z2⟩ := ps.ok
    have l := ps.l
    have pg := ps.c.good
    walk_at "go"
    refine u_forL (.of hsp) (fun i σ' H' => ∃ (y5 y6 y7 : Option V), σ' = [some (.ref a), some (.ref q1), some (.ref q2), some (.int n), some (.ref sp), y5, y6, y7] ∧ Same H H') ⟨_, _, _, rfl, Same.refl _⟩ ?_ ?_ ?_
    · rintro i σ' H' _ ⟨y5, y6, y7, rfl, sm⟩
      exact .of (sm _ _ hsp)
    · rintro i x σ' H' hx ⟨y5, y6, y7, rfl, sm⟩
      obtain ⟨at', rfl, hat⟩ : ∃ j : Int, x = .int j ∧ j ∈ is := by
        obtain ⟨j, hj, rfl⟩ := List.mem_map.mp (List.mem_of_getElem? hx)
        exact ⟨j, rfl, hj⟩
      obtain ⟨a0, a1⟩ := his _ hat
      have ps' := ps.tk (Tk.same sm)
      obtain ⟨c, hc⟩ := Prog.nth_ex (s := 1) (.inl rfl) pg.2.1 a0 a1
      have hp := Prog.nth_part 1 ps.c.2.1 (Int.le_of_lt ps.n0) (Int.le_of_lt ps.n1) a0
      rw [hc] at hp
      walk_at "go"
      refine ⟨a, p, at', 1, rfl, .inl rfl, ps'.c.1, pg.2.1, pg.2.2.2, by decide, a0, a1, fun c1 x1 H1 e1 hx1 s1 => ?_⟩
      obtain rfl : c1 = c := Option.some.inj (e1.symm.trans hc)
      walk_at "go"
      refine r_cut (fun σ' H2 => ∃ (x2 : V), σ' = [some (.ref a), some (.ref q1), some (.ref q2), some (.int n), some (.ref sp), some (.int at'), some x1, some x2] ∧ Same H1 H2 ∧ CmIs H2 c1 x2) ?_ ?_
      · walk_at "go"
        by_cases ca : at' < n
        · rw [if_pos ca] at hp
          refine r_iteDT ca ?_
          walk_at "go"
          exact ⟨q1, _, at', 1, rfl, .inl rfl, (ps'.tk (Tk.same s1)).h1, w1, by omega, by decide, a0, by omega, fun c2 x2 H2 e2 hx2 s2 => ⟨x2, rfl, s2, (Option.some.inj (e2.symm.trans hp.symm)) ▸ hx2⟩⟩
        · rw [if_neg ca] at hp
          refine r_iteDF ca ?_
          walk_at "go"
          exact ⟨q2, _, at' - n, 1, rfl, .inl rfl, (ps'.tk (Tk.same s1)).h2, w2, by omega, by decide, by omega, by omega, fun c2 x2 H2 e2 hx2 s2 => ⟨x2, rfl, s2, (Option.some.inj (e2.symm.trans hp.symm)) ▸ hx2⟩⟩
      rintro σ' H2 ⟨x2, rfl, s2, hx2⟩
      walk_at "go"
      refine ⟨x2, x1, rfl, same_cm (n := 26) hx2 (hx1.tk (Tk.same s2)), fun H3 s3 => ?_⟩
      walk_at "go"
      exact ⟨_, _, _, rfl, sm.trans (s1.trans (s2.trans s3))⟩
    · rintro σ' H' ⟨y5, y6, y7, rfl, sm⟩
      walk_at "go"
      exact k _ sm
def spTwo : Sp := fun vs H Q _ => ∃ (a sp : Addr) (p : Prog) (n : Int) (is : List Int), vs = [.ref a, .int n, .ref sp] ∧ Cuts H a p ∧ 0 < n ∧ n < p.size ∧ (p.part n).1.len + (p.part n).2.len ≤ 4000 ∧ H sp = some (.lst (is.map V.int)) ∧ (∀ i ∈ is, 0 ≤ i ∧ i < p.size) ∧
  ∀ t q1 q2 H', Same H H' → H' t = some (.tup [.ref q1, .ref q2]) → PrIs H' q1 (p.part n).1 → PrIs H' q2 (p.part n).2 → Q (.ref t) H'
theorem ok_l_two {f : Addr} {fd : FuncData} (F : Fun K "_law_two" "_law_two" s_l_two f fd) (B : Bl mg) (h_l_is_piece : Has P w K mg base "_law_is_piece" 14 ["_law_thing"] (spIsPc 13)) (h_l_bulk : Has P w K mg base "_law_bulk" 13 ["_law_piece_here"] (spNumLt Prog.size 13)) (h_l_aim : Has P w K mg base "_law_aim" 13 ["_law_piece_here"] (spNumLt Prog.head 13))
   (h_l_same_piece : Has P w K mg base "_law_same_piece" 28 ["_law_found", "_law_due"] (spSame 28)) (h_l_alike_at : Has P w K mg base "_law_alike_at" 29 ["_law_piece_here", "_law_first", "_law_second", "_law_lots", "_law_spots"] spAlikeAt)
   (h_parted : Has P w K mg base "parted" 41 ["program", "count"] spPartedN) (hkr_parted : HasKR P w K mg base "parted" 41 ["program", "count"] ["count", "program"] spPartedN) :
    FnOk P w K mg base CX0 42 f fd ["_law_piece_here", "_law_lots", "_law_spots"] spTwo := by
  refine F.ok sc_l_two (fun vs H Q E h => ?_) (fun cdv A outer s H vs Q E hr h => ?_)
  · obtain ⟨a, sp, p, n, is, rfl, _⟩ := h
    rfl
  · obtain ⟨a, sp, p, n, is, rfl, hc, n0, n1, hl, hsp, his, k⟩ := h
    refine ⟨_, (pss_cons (ps_set (i := 3) sc_l_two.nd rfl (.inl rfl) (pe_callH h_parted (hr.mono (by first | decide | omega)) (pa_cons (pv 0) (pa_cons (pv 1) pa_nil))))
    (pss_cons (ps_if (PW.pt (pw_or (pt_not (pt_val (pe_callB (call_isiKK (K := K)) (by rfl) B.b_isinstance (by decide +kernel) (pa_cons (pv 3) (pa_cons (pe_bltn (v := .ty "tuple") (by rfl) B.b_tuple (by decide +kernel) rfl) pa_nil))))) (pw_or (pt_cmpR op_ne (pe_callB (call_lenK (K := K)) (by rfl) B.b_len PySem.boot_len (pa_cons (pv 3) pa_nil)) pe_int (nomark _)) (pw_or (pt_not (pt_val (pe_callH h_l_is_piece (hr.mono (by first | decide | omega)) (pa_cons (pe_ix (ix_tupK (K := K)) (pv 3) pe_int (fun _ _ => rfl)) pa_nil)))) (pw_or1 (pt_not (pt_val (pe_callH h_l_is_piece (hr.mono (by first | decide | omega)) (pa_cons (pe_ix (ix_tupK (K := K)) (pv 3) pe_int (fun _ _ => rfl)) pa_nil)))))))))
    (pss_one (ps_ret pe_non))
    pss_nil)
    (pss_cons (ps_if (PW.pt (pw_or (pt_cmpR op_ne (pe_callH h_l_bulk (hr.mono (by first | decide | omega)) (pa_cons (pe_ix (ix_tupK (K := K)) (pv 3) pe_int (fun _ _ => rfl)) pa_nil)) (pv 1) (nomark _)) (pw_or1 (pt_cmpR op_ne (pe_callH h_l_bulk (hr.mono (by first | decide | omega)) (pa_cons (pe_op op_catA (pe_ix (ix_tupK (K := K)) (pv 3) pe_int (fun _ _ => rfl)) (pe_ix (ix_tupK (K := K)) (pv 3) pe_int (fun _ _ => rfl))) pa_nil)) (pe_callH h_l_bulk (hr.mono (by first | decide | omega)) (pa_cons (pv 0) pa_nil)) (nomark _)))))
    (pss_one (ps_ret pe_non))
    pss_nil)
    (pss_cons (ps_if (PW.pt (pw_or (pt_cmpR op_ne (pe_callH h_l_aim (hr.mono (by first | decide | omega)) (pa_cons (pe_op op_catA (pe_ix (ix_tupK (K := K)) (pv 3) pe_int (fun _ _ => rfl)) (pe_ix (ix_tupK (K := K)) (pv 3) pe_int (fun _ _ => rfl))) pa_nil)) (pe_callH h_l_aim (hr.mono (by first | decide | omega)) (pa_cons (pv 0) pa_nil)) (nomark _)) (pw_or1 (pt_not (pt_val (pe_callH h_l_alike_at (hr.mono (by first | decide | omega)) (pa_cons (pv 0) (pa_cons (pe_ix (ix_tupK (K := K)) (pv 3) pe_int (fun _ _ => rfl)) (pa_cons (pe_ix (ix_tupK (K := K)) (pv 3) pe_int (fun _ _ => rfl)) (pa_cons (pv 1) (pa_cons (pv 2) pa_nil)))))))))))
    (pss_one (ps_ret pe_non))
    pss_nil)
    (pss_cons (ps_if (pt_not (pt_val (pe_callH h_l_same_piece (hr.mono (by first | decide | omega)) (pa_cons (pe_callHR hkr_parted (hr.mono (by first | decide | omega)) (pk_cons (pv 1) (pk_cons (pv 0) pk_nil))) (pa_cons (pv 3) pa_nil)))))
    (pss_one (ps_ret pe_non))
    pss_nil)
    (pss_one (ps_ret (pv 3)))))))), ?_⟩
    walk_at "go"
    refine ⟨a, p, n, rfl, hc, n0, n1, fun t q1 q2 H1 s1 ht h1 h2 => ?_⟩
    have ps : Parts H1 a q1 q2 p n := ⟨hc.tk (Tk.same s1), n0, n1, h1, h2, hl⟩
    obtain ⟨w1, w2, l1, l2, z1, z2⟩ := ps.ok
    have pg := ps.c.good
    walk_at "go"
    refine ⟨q1, _, rfl, h1, w1, l1, by omega, fun H2 s2 => ?_⟩
    have ht := s2 _ _ ht
    have h1 := h1.tk (Tk.same s2)
    have h2 := h2.tk (Tk.same s2)
    walk_at "go"
    refine ⟨q2, _, rfl, h2, w2, l2, by omega, fun H3 s3 => ?_⟩
    have ht := s3 _ _ ht
    have h1 := h1.tk (Tk.same s3)
    have h2 := h2.tk (Tk.same s3)
    have sA := (s1.trans s2).trans s3
    have hpA := hc.1.tk (Tk.same sA)
    clear ps
    walk_at "go"
    refine ⟨q1, _, rfl, h1, w1, by omega, by decide, ?_⟩
    walk_at "go"
    have wc := WfL.app w1 w2
    have lc := Prog.len_app (p.part n).1 (p.part n).2
    have sc := Prog.size_app (p.part n).1 (p.part n).2
    have hd := Prog.head_app (p.part n).1 (p.part n).2
    rw [Prog.part_head hc.2.1 (by omega) (by omega)] at hd
    rw [z1, z2, show n + (p.size - n) = p.size by omega] at sc
    obtain ⟨xs, hx, hxp⟩ := id h1
    obtain ⟨ys, hy, hyp⟩ := id h2
    have lx := hxp.length
    have ly := hyp.length
    refine r_catAT hx hy (by omega) fun c4 H4 s4 hc4 => ?_
    walk_at "go"
    refine ⟨c4, _, rfl, ⟨_, hc4, (hxp.app hyp).tk (Tk.same s4)⟩, wc, by omega, by decide, ?_⟩
    walk_at "go"
    refine ⟨a, p, rfl, hpA.tk (Tk.same s4), pg.2.1, pg.2.2.2, by decide, ?_⟩
    walk_at "go"
    refine r_catAT (s4 _ _ hx) (s4 _ _ hy) (by omega) fun c5 H5 s5 hc5 => ?_
    have s45 := s4.trans s5
    walk_at "go"
    refine ⟨c5, _, rfl, ⟨_, hc5, (hxp.app hyp).tk (Tk.same s45)⟩, wc, by omega, by decide, ?_⟩
    walk_at "go"
    refine ⟨a, p, rfl, hpA.tk (Tk.same s45), pg.2.1, pg.2.2.2, by decide, ?_⟩
    walk_at "go"
    have ht := s45 _ _ ht
    have sB := sA.trans s45
    refine ⟨a, q1, q2, sp, p, n, is, rfl, ⟨hc.tk (Tk.same sB), n0, n1, h1.tk (Tk.same s45), h2.tk (Tk.same s45), hl⟩, sB _ _ hsp, his, fun H6 s6 => ?_⟩
    have ht := s6 _ _ ht
    have sC := sB.trans s6
    walk_at "go"
    show spPartedN [.ref a, .int n] _ _ _
    refine ⟨a, p, n, rfl, hc.tk (Tk.same sC), n0, n1, fun t' q1' q2' H7 s7 ht' h1' h2' => ?_⟩
    have ht := s7 _ _ ht
    have h1 := h1.tk (Tk.same ((s45.trans s6).trans s7))
    have h2 := h2.tk (Tk.same ((s45.trans s6).trans s7))
    walk_at "go"
    refine ⟨.ref t', .ref t, rfl, same_of2 (n := 27) ht' ht (same_pr4 (d := 12) h1' h1 w1 (by omega)) (same_pr4 (d := 12) h2' h2 w2 (by omega)), fun H8 s8 => ?_⟩
    walk_at "go"
    exact k t q1 q2 _ ((sC.trans s7).trans s8) (s8 _ _ ht) (h1.tk (Tk.same s8)) (h2.tk (Tk.same s8))
def spIndex : Sp := fun vs H Q _ => ∃ (b : Addr) (n : Int), vs = [.ref b, .int n] ∧ Bag H b ∧ 1 ≤ n ∧ n ≤ 10 ^ 704 ∧ ∀ r H', 0 ≤ r → r < n → But b H H' → Bag H' b → Q (.int r) H'
theorem ok_l_index {f : Addr} {fd : FuncData} (F : Fun K "_law_index" "_law_index" s_l_index f fd) (B : Bl mg) (h_l_pick : Has P w K mg base "_law_pick" 1 ["_law_bag", "_law_many"] spPick) (h_l_great_int : Has P w K mg base "_law_great_int" 2 ["_law_bag", "_law_digits"] spGreat) :
    FnOk P w K mg base CX0 3 f fd ["_law_bag", "_law_bulk_here"] spIndex := by
  refine F.ok sc_l_index (fun vs H Q E h => ?_) (fun cdv A outer s H vs Q E hr h => ?_)
  · obtain ⟨b, n, rfl, _⟩ := h
    rfl
  · obtain ⟨b, n, rfl, hb, n1, n2, k⟩ := h
    refine ⟨_, (pss_cons (ps_set (i := 2) sc_l_index.nd rfl (.inl rfl) (pe_callH h_l_pick (hr.mono (by first | decide | omega)) (pa_cons (pv 0) (pa_cons pe_int pa_nil))))
    (pss_cons (ps_set (i := 3) sc_l_index.nd rfl (.inl rfl) (pe_lst (pa_cons (pe_callH h_l_pick (hr.mono (by first | decide | omega)) (pa_cons (pv 0) (pa_cons pe_int pa_nil))) (pa_cons (pe_callH h_l_great_int (hr.mono (by first | decide | omega)) (pa_cons (pv 0) (pa_cons pe_int pa_nil))) (pa_cons (pe_op op_add (pe_op op_mulW (pe_callH h_l_great_int (hr.mono (by first | decide | omega)) (pa_cons (pv 0) (pa_cons pe_int pa_nil))) (pe_op op_pow pe_int pe_int)) (pe_callH h_l_great_int (hr.mono (by first | decide | omega)) (pa_cons (pv 0) (pa_cons pe_int pa_nil)))) pa_nil)))))
    (pss_cons (ps_if (pt_cmpR op_eq (pv 2) pe_int (nomark _))
    (pss_one (ps_ret (pe_op op_sub (pe_op op_sub (pv 1) pe_int) (pe_op op_modN (pe_callTy call_intI (by rfl) B.b_int (by decide +kernel) (pa_cons (pe_ix (ix_listK (K := K)) (pv 3) (pe_callH h_l_pick (hr.mono (by first | decide | omega)) (pa_cons (pv 0) (pa_cons pe_int pa_nil))) (fun _ _ => rfl)) pa_nil)) (pv 1)))))
    pss_nil)
    (pss_one (ps_ret (pe_op op_modN (pe_callTy call_intI (by rfl) B.b_int (by decide +kernel) (pa_cons (pe_ix (ix_listK (K := K)) (pv 3) (pv 2) (fun _ _ => rfl)) pa_nil)) (pv 1))))))), ?_⟩
    walk_at "go"
    refine u_pick hb (by decide) (by decide) fun m H1 m0 m1 bu1 b1 => ?_
    walk_at "go"
    refine u_pick b1 (by decide) (by decide) fun g1 H2 g10 g11 bu2 b2 => ?_
    walk_at "go"
    refine ⟨b, 30, rfl, b2, by decide, by decide, fun g2 H3 g20 g21 bu3 b3 => ?_⟩
    walk_at "go"
    refine ⟨b, 30, rfl, b3, by decide, by decide, fun g3 H4 g30 g31 bu4 b4 => ?_⟩
    have mw : CMulW g3 (10 ^ Int.toNat 60) := mulW_of (Nat.lt_of_le_of_lt (show g3.natAbs ≤ 10 ^ 31 by
      have : (10 : Int) ^ Int.toNat 30 = 1000000000000000000000000000000 := by decide
      omega) (by decide +kernel)) (by decide +kernel)
    walk_at "go"
    refine ⟨b, 38, rfl, b4, by decide, by decide, fun g4 H5 g40 g41 bu5 b5 => ?_⟩
    have buA := ((bu1.trans bu2).trans bu3).trans (bu4.trans bu5)
    walk_at "go"
    intro l nl
    have hl : (upd H5 l (.lst [.int g1, .int g2, .int (g3 * 10 ^ Int.toNat 60 + g4)])) l = some (.lst ([g1, g2, g3 * 10 ^ Int.toNat 60 + g4].map V.int)) := upd_same
    have b6 := b5.keep (o := .lst [.int g1, .int g2, .int (g3 * 10 ^ Int.toNat 60 + g4)]) nl
    have bu6 : But b H5 (upd H5 l (.lst [.int g1, .int g2, .int (g3 * 10 ^ Int.toNat 60 + g4)])) := Same.but (Same.new0 nl) b
    have at3 : ∀ r : Int, 0 ≤ r → r < 3 → ∃ j : Int, atI ([g1, g2, g3 * 10 ^ Int.toNat 60 + g4].map V.int) r = some (.int j) := by
      intro r r0 r1
      rcases (by omega : r = 0 ∨ r = 1 ∨ r = 2) with rfl | rfl | rfl <;> exact ⟨_, rfl⟩
    have hnl := b5.ne nl
    generalize upd H5 l _ = H6 at *
    walk_at "go"
    refine r_iteD (fun e2 => ?_) (fun e2 => ?_)
    · walk_at "go"
      refine u_pick b6 (by decide) (by decide) fun r7 H7 r70 r71 bu7 b7 => ?_
      obtain ⟨j, hj⟩ := at3 r7 r70 r71
      walk_at "go"
      refine r_ixL (.of (bu7 _ _ hnl hl)) hj ?_
      walk_at "go"
      rw [Int.fmod_eq_emod_of_nonneg _ (by omega)]
      have m0 := Int.emod_nonneg j (show n ≠ 0 by omega)
      have m1 := Int.emod_lt_of_pos j (show 0 < n by omega)
      exact k _ _ (by omega) (by omega) ((buA.trans bu6).trans bu7) b7
    · obtain ⟨j, hj⟩ := at3 m m0 m1
      walk_at "go"
      refine r_ixL (.of hl) hj ?_
      walk_at "go"
      rw [Int.fmod_eq_emod_of_nonneg _ (by omega)]
      exact k _ _ (Int.emod_nonneg j (by omega)) (Int.emod_lt_of_pos j (by omega)) (buA.trans bu6) b6
end
end My

set_option Elab.async false
set_option linter.all false
set_option maxRecDepth 100000
set_option maxHeartbeats 4000000

namespace My
open PySem PySem.Spec PyProof.Rows L2 RT
section
variable {P : Program} {w : World} {K : PySem.W.Frag} {mg : Str → Option Value} {base : Heap}
local macro_rules | `(tactic| walk_at "isi") => `(tactic| (first
  | (with_reducible refine r_is_int_int ?_)
  | (with_reducible refine r_is_int_bool ?_)
  | (with_reducible refine r_is_int_str ?_)
  | (with_reducible refine r_is_int_list ?_)
  | (with_reducible refine r_is_int_tuple ?_)
  | (with_reducible refine r_is_bool_int ?_)
  | (with_reducible refine r_is_bool_bool ?_)
  | (with_reducible refine r_is_bool_str ?_)
  | (with_reducible refine r_is_bool_list ?_)
  | (with_reducible refine r_is_bool_tuple ?_)
  | (with_reducible refine r_is_str_int ?_)
  | (with_reducible refine r_is_str_bool ?_)
  | (with_reducible refine r_is_str_str ?_)
  | (with_reducible refine r_is_str_list ?_)
  | (with_reducible refine r_is_str_tuple ?_)
  | ((with_reducible refine r_is_list_int (xs := ?xx) ?hh ?_); (case hh => walk_at "hp"))
  | ((with_reducible refine r_is_list_bool (xs := ?xx) ?hh ?_); (case hh => walk_at "hp"))
  | ((with_reducible refine r_is_list_str (xs := ?xx) ?hh ?_); (case hh => walk_at "hp"))
  | ((with_reducible refine r_is_list_list (xs := ?xx) ?hh ?_); (case hh => walk_at "hp"))
  | ((with_reducible refine r_is_list_tuple (xs := ?xx) ?hh ?_); (case hh => walk_at "hp"))
  | ((with_reducible refine r_is_tuple_int (xs := ?xx) ?hh ?_); (case hh => walk_at "hp"))
  | ((with_reducible refine r_is_tuple_bool (xs := ?xx) ?hh ?_); (case hh => walk_at "hp"))
  | ((with_reducible refine r_is_tuple_str (xs := ?xx) ?hh ?_); (case hh => walk_at "hp"))
  | ((with_reducible refine r_is_tuple_list (xs := ?xx) ?hh ?_); (case hh => walk_at "hp"))
  | ((with_reducible refine r_is_tuple_tuple (xs := ?xx) ?hh ?_); (case hh => walk_at "hp"))
  | (with_reducible refine r_is_NoneType_int ?_)
  | (with_reducible refine r_is_NoneType_bool ?_)
  | (with_reducible refine r_is_NoneType_str ?_)
  | (with_reducible refine r_is_NoneType_list ?_)
  | (with_reducible refine r_is_NoneType_tuple ?_)))
local macro_rules | `(tactic| walk_at "ne") => `(tactic| first | assumption | (refine Ne.symm ?_; assumption) | exact Bag.ne (by assumption) (by assumption) | exact ne_of_none (by assumption) (by assumption))
local macro_rules | `(tactic| walk_at "hp") => `(tactic| (first
  | assumption
  | exact upd_same
  | (refine h_keep ?_ (by assumption); walk_at "hp")
  | (refine (upd_ne (by walk_at "ne")).trans ?_; walk_at "hp")
  | (refine Same.at (by assumption) ?_; walk_at "hp")
  | (refine But.at (by assumption) (by walk_at "ne") ?_; walk_at "hp")
  | (refine But2.at (by assumption) (by walk_at "ne") (by walk_at "ne") ?_; walk_at "hp")))
local macro_rules | `(tactic| walk_at "side") => `(tactic| first | assumption | omega | (refine ⟨?_, ?_⟩ <;> first | assumption | omega | decide) | decide | (refine ⟨by decide, by decide, by decide⟩) | (left; refine ⟨?_, ?_⟩ <;> first | omega | decide) | (right; refine ⟨?_, ?_⟩ <;> first | omega | decide) | (simp; done))
local macro_rules | `(tactic| walk_at "cond") => `(tactic| first | assumption | exact rfl | omega | (simp only [List.length_cons, List.length_nil]; omega) | decide +kernel)
local macro_rules | `(tactic| walk_at "s") => `(tactic| (first
  | ((with_reducible refine r_var (v := ?vv) ?ee ?_); (case ee => exact rfl))
  | (with_reducible refine r_c ?_)
  | (with_reducible refine r_op ?_)
  | (with_reducible refine r_un ?_)
  | (with_reducible refine r_rI0 ?_)
  | ((with_reducible refine r_rI ?cc ?_); (case cc => walk_at "side"))
  | (with_reducible refine r_rU ?_)
  | (with_reducible refine r_eqI ?_)
  | (with_reducible refine r_neI ?_)
  | (with_reducible refine r_eqB ?_)
  | (with_reducible refine r_neB ?_)
  | (with_reducible refine r_eqS ?_)
  | (with_reducible refine r_neS ?_)
  | ((with_reducible refine r_eq ?ee ?_); (case ee => exact rfl))
  | ((with_reducible refine r_ne ?ee ?_); (case ee => exact rfl))
  | ((with_reducible refine r_ixL (v := ?vv) (xs := ?xx) ?hh ?ee ?_); (case hh => (refine SqL.of ?_; walk_at "hp")); (case ee => exact rfl))
  | (with_reducible refine r_cb ?_)
  | (with_reducible refine r_call ?_)
  | (with_reducible refine r_cons ?_)
  | (with_reducible refine r_nil ?_)
  | (with_reducible refine r_lst ?_)
  | (with_reducible refine r_tup ?_)
  | ((with_reducible refine r_new ?cc ?_); (case cc => walk_at "side"))
  | (with_reducible refine r_exbl ?_)
  | (with_reducible refine r_exint ?_)
  | (with_reducible refine r_exint2 ?_)
  | (with_reducible refine r_exblL ?_)
  | (with_reducible refine r_ex2 ?_)
  | (with_reducible refine r_test ?_)
  | (with_reducible refine r_tB ?_)
  | (with_reducible refine r_not ?_)
  | (with_reducible refine r_and ?_)
  | (with_reducible refine r_or ?_)
  | (with_reducible refine r_andV ?_)
  | (with_reducible refine r_orV ?_)
  | (with_reducible refine r_notV ?_)
  | (with_reducible refine r_tif ?_)
  | (with_reducible refine r_iteT ?_)
  | (with_reducible refine r_iteNT ?_)
  | (with_reducible refine r_iteNF ?_)
  | (with_reducible refine r_iteF ?_)
  | (with_reducible refine r_seq ?_)
  | (with_reducible refine r_next ?_)
  | (with_reducible refine r_brk ?_)
  | (with_reducible refine r_cont ?_)
  | (with_reducible refine r_asg ?_)
  | (with_reducible refine r_gname ?_)
  | (with_reducible refine r_ret ?_)
  | (with_reducible refine r_retN ?_)
  | (with_reducible refine r_drop ?_)
  | (with_reducible refine r_if ?_)
  | ((with_reducible refine r_aug (x := ?xx) ?ee ?_); (case ee => exact rfl))
  | (with_reducible refine r_ipI ?_)
  | (with_reducible refine r_augS ?_)
  | (with_reducible refine r_gsub ?_)
  | ((with_reducible refine r_setL (xs := ?xx) (m := ?mm) ?hh ?ee ?_); (case hh => walk_at "hp"); (case ee => exact rfl))
  | (with_reducible refine r_par ?_)
  | (with_reducible refine r_bm ?_)
  | ((with_reducible refine r_tyL (xs := ?xx) ?hh ?_); (case hh => walk_at "hp"))
  | ((with_reducible refine r_append (xs := ?xx) ?hh ?ll ?_); (case hh => walk_at "hp"); (case ll => walk_at "side"))
  | (walk_at "isi")
  | (with_reducible refine r_for ?_)
  | (with_reducible refine r_iList ?_)
  | (with_reducible refine r_iTup ?_)
  | (with_reducible refine r_iR1 ?_)
  | (with_reducible refine r_iR2 ?_)
  | (with_reducible refine r_lc ?_)
  | (with_reducible refine r_yes ?_)
  | ((with_reducible refine r_lenS ?ll ?_); (case ll => walk_at "side"))
  | (with_reducible refine r_leS ?_)
  | (with_reducible refine r_chain ?_)
  | (with_reducible refine r_tM1 ?_)
  | (with_reducible refine r_exS ?_)
  | ((with_reducible refine r_tupL (xs := ?xx) ?hh ?_); (case hh => walk_at "hp"))
  | ((with_reducible refine r_listL (xs := ?xx) ?hh ?_); (case hh => walk_at "hp"))
  | ((with_reducible refine r_listT (xs := ?xx) ?hh ?_); (case hh => walk_at "hp"))
  | ((with_reducible refine r_ixT (v := ?vv) (xs := ?xx) ?hh ?ee ?_); (case hh => (refine SqT.of ?_; walk_at "hp")); (case ee => exact rfl))
  | (with_reducible refine r_sl ?_)
  | (with_reducible refine r_nopart ?_)
  | (with_reducible refine r_part ?_)
  | (with_reducible refine r_exI ?_)
  | ((with_reducible refine r_slL (xs := ?xx) ?hh ?_); (case hh => first | assumption | (refine SqL.of ?_; walk_at "hp") | (refine Same.seq (by assumption) (by assumption))))
  | ((with_reducible refine r_cat (xs := ?xx) (zs := ?zz) ?hh ?ii ?ll ?_); (case hh => walk_at "hp"); (case ii => walk_at "hp"); (case ll => walk_at "side"))
  | ((with_reducible refine r_lenL (xs := ?xx) ?hh ?_); (case hh => walk_at "hp"))
  | ((with_reducible refine r_lenT (xs := ?xx) ?hh ?_); (case hh => walk_at "hp"))
  | ((with_reducible refine r_gTup (xs := ?xx) ?hh ?ll ?_); (case hh => walk_at "hp"); (case ll => exact rfl))
  | (with_reducible refine r_gCons ?_)
  | (with_reducible refine r_gNil ?_)
  | ((with_reducible refine r_iteDT ?cc ?_); (case cc => walk_at "cond"))
  | ((with_reducible refine r_iteDF ?cc ?_); (case cc => walk_at "cond"))
  | ((with_reducible refine r_iteNDT ?cc ?_); (case cc => walk_at "cond"))
  | ((with_reducible refine r_iteNDF ?cc ?_); (case cc => walk_at "cond"))
  ))
local macro_rules | `(tactic| walk_at "go") => `(tactic| repeat (walk_at "s"))

theorem r_ixK {p : Addr} {z : Str} {v : V} {H : Hp} {Q : VK} (h : KDct K w p z v) (q : Q v H) : rIxD K w (.ref p) (.str z) H Q := ⟨p, z, v, rfl, rfl, h, q⟩
local macro_rules | `(tactic| walk_at "s") => `(tactic| (first
  | (with_reducible refine r_iRev ?_)
  | ((with_reducible refine r_ixK (v := ?vv) ?cc ?_); (case cc => assumption))
  ))
/-- the program's table of contraries -/
structure ContrAt (K : PySem.W.Frag) (w : World) (mg : Str → Option Value) : Prop where
  ex : ∃ d, mg "CONTRARY" = some (.ref d) ∧ ∀ x : Str, IsWord x → KDct K w d x (.str (contr x))
def spUndoLt : Nat → Sp
  | 0 => fun _ _ _ _ => False
  | d + 1 => fun vs H Q _ => ∃ a p, vs = [.ref a] ∧ PrIs H a p ∧ Wf BC BC d p ∧ p.len ≤ 4000 ∧ ∀ q H', H q = none → Same H H' → PrIs H' q p.undo → Q (.ref q) H'
theorem ok_raw_undoing {f : Addr} {fd : FuncData} (d : Nat) (F : Fun K "raw_undoing" "raw_undoing" s_raw_undoing f fd) (B : Bl mg) (bR : mg "reversed" = none) (C : ContrAt K w mg) (h_raw_undoing : Has P w K mg base "raw_undoing" d ["program"] (spUndoLt d)) : FnOk P w K mg base CX0 (d + 1) f fd ["program"] (spUndoLt (d + 1)) := by
  obtain ⟨cd, gC, hC⟩ := C.ex
  refine F.ok sc_raw_undoing (fun vs H Q E h => ?_) (fun cdv A outer s H vs Q E hr h => ?_)
  · obtain ⟨a, p, rfl, _⟩ := h
    rfl
  · obtain ⟨a, p, rfl, ⟨xs, hx, hp⟩, hw, hl, k⟩ := h
    refine ⟨_, (pss_cons (ps_set (i := 1) sc_raw_undoing.nd rfl (.inl rfl) (pe_lst pa_nil))
    (pss_cons (ps_for PassesOwn.never rfl (pi_revA (by rfl) bR (pv 0)) (pg_name (i := 2) sc_raw_undoing.nd rfl (.inl rfl))
    (pss_one (ps_if (pt_cmpR op_eq (pe_ix (ix_tupK (K := K)) (pv 2) pe_int (fun _ _ => rfl)) pe_str (nomark _))
    (pss_one (ps_expr (pe_bm PySem.F.plainAttrs_list PySem.F.slot_list_append PySem.F.type_list_append mt_append (pv 1) (pa_cons (pe_tup (pa_cons pe_str (pa_cons (pe_ix (ix_tupK (K := K)) (pv 2) pe_int (fun _ _ => rfl)) (pa_cons (pe_callH h_raw_undoing (hr.mono (by first | decide | omega)) (pa_cons (pe_ix (ix_tupK (K := K)) (pv 2) pe_int (fun _ _ => rfl)) pa_nil)) pa_nil)))) pa_nil))))
    (pss_one (ps_if (pt_cmpR op_eq (pe_ix (ix_tupK (K := K)) (pv 2) pe_int (fun _ _ => rfl)) pe_str (nomark _))
    (pss_one (ps_expr (pe_bm PySem.F.plainAttrs_list PySem.F.slot_list_append PySem.F.type_list_append mt_append (pv 1) (pa_cons (pe_tup (pa_cons pe_str (pa_cons (pe_callH h_raw_undoing (hr.mono (by first | decide | omega)) (pa_cons (pe_ix (ix_tupK (K := K)) (pv 2) pe_int (fun _ _ => rfl)) pa_nil)) pa_nil))) pa_nil))))
    (pss_one (ps_if (pt_cmpR op_eq (pe_ix (ix_tupK (K := K)) (pv 2) pe_int (fun _ _ => rfl)) pe_str (nomark _))
    (pss_one (ps_expr (pe_bm PySem.F.plainAttrs_list PySem.F.slot_list_append PySem.F.type_list_append mt_append (pv 1) (pa_cons (pe_tup (pa_cons pe_str (pa_cons (pe_un un_neg (pe_ix (ix_tupK (K := K)) (pv 2) pe_int (fun _ _ => rfl))) pa_nil))) pa_nil))))
    (pss_one (ps_expr (pe_bm PySem.F.plainAttrs_list PySem.F.slot_list_append PySem.F.type_list_append mt_append (pv 1) (pa_cons (pe_tup (pa_cons (pe_ix ix_kdict (pe_glob (v := .ref cd) rfl gC rfl) (pe_ix (ix_tupK (K := K)) (pv 2) pe_int (fun _ _ => rfl)) (fun _ _ => rfl)) (pa_cons (pe_ix (ix_tupK (K := K)) (pv 2) pe_int (fun _ _ => rfl)) pa_nil))) pa_nil)))))))))))
    (pss_one (ps_ret (pe_callTy call_tupL (by rfl) B.b_tuple (by decide +kernel) (pa_cons (pv 1) pa_nil)))))), ?_⟩
    walk_at "go"
    intro m nm
    walk_at "go"
    have hx0 : upd H m (.lst []) a = some (.tup xs) := h_keep hx nm
    have t0 : Tk H (upd H m (.lst [])) := (Tk.refl H).new nm
    refine u_forRev hx0 (hp.tk t0) (fun r s σ H' => ∃ (ys : List V) (y2 : Option V), σ = [some (.ref a), some (.ref m), y2] ∧ Wf BC BC d r ∧ Same H H' ∧ Tk (upd H m (.lst [])) H' ∧ H' m = some (.lst ys) ∧ PrAt H' s.undo ys ∧ s.len + r.len = p.len) ?_ ?_ ?_ ?_
    · exact ⟨[], none, rfl, hw, Same.new0 nm, Tk.refl _, upd_same, rfl, by rw [Prog.len]; omega⟩
    · rintro r s σ H' ⟨ys, y2, rfl, _, _, t, _⟩
      exact t
    · rintro x r c s' σ H' hf ep ⟨ys, y2, rfl, hw', sm, tk, hm, hu, el⟩
      have yl : ys.length = s'.undo.len := hu.length
      rw [Prog.len_undo] at yl
      obtain ⟨wr, wc⟩ := WfL.split hw'
      rw [Prog.len_app] at el
      cases c with
      | nil => exact hf.elim
      | step w' n c =>
        obtain ⟨c1, rfl, h1, rfl⟩ := hf
        obtain ⟨w1, w2, w3⟩ := WfL.step_iff.mp wc
        obtain ⟨n1, n2, n3⟩ := word_ne w1
        have kd := hC _ w1
        walk_at "go"
        intro c2 f2
        walk_at "go"
        have ncm : c2 ≠ m := (ne_of_none hm f2).symm
        have t1 : Tk H' (upd (upd H' c2 (.tup [.str (contr w'), .str n])) m (.lst (ys ++ [.ref c2]))) := ((Tk.refl _).new f2).lst (h_keep hm f2)
        refine ⟨_, _, rfl, wr, Same.put (Same.new sm f2) nm, tk.trans t1, upd_same, ?_, ?_⟩
        · show PrAt _ (s'.undo.app (.step (contr w') n .nil)) _
          exact (hu.tk t1).app ⟨c2, [], rfl, (upd_ne ncm).trans upd_same, rfl⟩
        · rw [Prog.len_app]; omega
      | turn k' c =>
        obtain ⟨c1, rfl, h1, rfl⟩ := hf
        walk_at "go"
        intro c2 f2
        walk_at "go"
        have ncm : c2 ≠ m := (ne_of_none hm f2).symm
        have t1 : Tk H' (upd (upd H' c2 (.tup [.str "turn", .int (-k')])) m (.lst (ys ++ [.ref c2]))) := ((Tk.refl _).new f2).lst (h_keep hm f2)
        refine ⟨_, _, rfl, wr, Same.put (Same.new sm f2) nm, tk.trans t1, upd_same, ?_, ?_⟩
        · show PrAt _ (s'.undo.app (.turn (-k') .nil)) _
          exact (hu.tk t1).app ⟨c2, [], rfl, (upd_ne ncm).trans upd_same, rfl⟩
        · rw [Prog.len_app]; omega
      | rep k' b c =>
        obtain ⟨c1, q, rfl, h1, h2, rfl⟩ := hf
        cases d with
        | zero => exact wc.elim
        | succ d =>
          obtain ⟨w1, w2, w3, w4⟩ := wc
          walk_at "go"
          refine ⟨q, b, rfl, h2, w3, w2.2, fun l H2 nl s2 hl2 => ?_⟩
          have hm2 := s2 _ _ hm
          walk_at "go"
          intro c2 f2
          walk_at "go"
          have ncm : c2 ≠ m := (ne_of_none hm2 f2).symm
          have t1 : Tk H2 (upd (upd H2 c2 (.tup [.str "repeat", .int k', .ref l])) m (.lst (ys ++ [.ref c2]))) := ((Tk.refl _).new f2).lst (h_keep hm2 f2)
          have t2 := (Tk.same s2).trans t1
          refine ⟨_, _, rfl, wr, Same.put (Same.new (sm.trans s2) f2) nm, tk.trans t2, upd_same, ?_, ?_⟩
          · show PrAt _ (s'.undo.app (.rep k' b.undo .nil)) _
            exact (hu.tk t2).app ⟨c2, l, _, [], rfl, (upd_ne ncm).trans upd_same, t1 _ _ hl2.choose_spec.1, hl2.choose_spec.2.tk t1, rfl⟩
          · rw [Prog.len_app]; omega
      | mir b c =>
        obtain ⟨c1, q, rfl, h1, h2, rfl⟩ := hf
        cases d with
        | zero => exact wc.elim
        | succ d =>
          obtain ⟨w2, w3, w4⟩ := wc
          walk_at "go"
          refine ⟨q, b, rfl, h2, w3, w2.2, fun l H2 nl s2 hl2 => ?_⟩
          have hm2 := s2 _ _ hm
          walk_at "go"
          intro c2 f2
          walk_at "go"
          have ncm : c2 ≠ m := (ne_of_none hm2 f2).symm
          have t1 : Tk H2 (upd (upd H2 c2 (.tup [.str "mirror", .ref l])) m (.lst (ys ++ [.ref c2]))) := ((Tk.refl _).new f2).lst (h_keep hm2 f2)
          have t2 := (Tk.same s2).trans t1
          refine ⟨_, _, rfl, wr, Same.put (Same.new (sm.trans s2) f2) nm, tk.trans t2, upd_same, ?_, ?_⟩
          · show PrAt _ (s'.undo.app (.mir b.undo .nil)) _
            exact (hu.tk t2).app ⟨c2, l, _, [], rfl, (upd_ne ncm).trans upd_same, t1 _ _ hl2.choose_spec.1, hl2.choose_spec.2.tk t1, rfl⟩
          · rw [Prog.len_app]; omega
    · rintro σ H' ⟨ys, y2, rfl, _, sm, tk, hm, hu, el⟩
      walk_at "go"
      intro q nq
      have t1 : Tk H' (upd H' q (.tup ys)) := (Tk.refl _).new nq
      refine k q _ ?_ (Same.new sm nq) ⟨_, upd_same, hu.tk t1⟩
      cases e : H q with
      | none => rfl
      | some o => rw [sm _ _ e] at nq; cases nq
theorem has_raw_undoing {f : Addr} {fd : FuncData} (F : Fun K "raw_undoing" "raw_undoing" s_raw_undoing f fd) (B : Bl mg) (bR : mg "reversed" = none) (C : ContrAt K w mg) (g : mg "raw_undoing" = some (.ref f)) (b : Binds K fd ["program"] []) : ∀ d, Has P w K mg base "raw_undoing" d ["program"] (spUndoLt d)
  | 0 => has_false g F.kp b
  | d + 1 => ⟨f, fd, ok_raw_undoing d F B bR C (has_raw_undoing F B bR C g b d), g, F.kp, b⟩
def spUndo : Sp := fun vs H Q _ => ∃ a p, vs = [.ref a] ∧ Good H a p ∧ ∀ q H', Same H H' → PrIs H' q p.undo → Q (.ref q) H'
theorem ok_undoing {f : Addr} {fd : FuncData} (F : Fun K "undoing" "undoing" s_undoing f fd) (h_check_program : Has P w K mg base "check_program" 28 ["value"] spCheckPr) (h_raw_undoing : Has P w K mg base "raw_undoing" 13 ["program"] (spUndoLt 13)) : FnOk P w K mg base CX0 29 f fd ["program"] spUndo := by
  refine F.ok sc_undoing (fun vs H Q E h => ?_) (fun cdv A outer s H vs Q E hr h => ?_)
  · obtain ⟨a, p, rfl, _⟩ := h
    rfl
  · obtain ⟨a, p, rfl, hg, k⟩ := h
    refine ⟨_, (pss_cons (ps_expr (pe_callH h_check_program (hr.mono (by first | decide | omega)) (pa_cons (pv 0) pa_nil)))
    (pss_one (ps_ret (pe_callH h_raw_undoing (hr.mono (by first | decide | omega)) (pa_cons (pv 0) pa_nil))))), ?_⟩
    walk_at "go"
    refine ⟨a, p, rfl, hg, fun H1 s1 => ?_⟩
    walk_at "go"
    exact ⟨a, p, rfl, hg.1.tk (Tk.same s1), hg.2.1, hg.2.2.2, fun q H2 _ s2 hq => k q _ (s1.trans s2) hq⟩
end
end My

set_option Elab.async false
set_option linter.all false
set_option maxRecDepth 100000
set_option maxHeartbeats 8000000

namespace My
open PySem PySem.Spec PyProof.Rows L2 RT
theorem SameV.succ {H : Hp} : ∀ {n : Nat} {x y : V}, SameV H n x y → SameV H (n + 1) x y
  | 0, _, _, h => h.elim
  | n + 1, _, _, .inl h => .inl h
  | n + 1, _, _, .inr (.inl h) => .inr (.inl h)
  | n + 1, _, _, .inr (.inr ⟨a, b, xs, ys, h1, h2, h3, h4, h5, h6, h7⟩) => .inr (.inr ⟨a, b, xs, ys, h1, h2, h3, h4, h5, h6, fun i u v hu hv => (h7 i u v hu hv).succ⟩)
section
variable {P : Program} {w : World} {K : PySem.W.Frag} {mg : Str → Option Value} {base : Heap}
local macro_rules | `(tactic| walk_at "isi") => `(tactic| (first
  | (with_reducible refine r_is_int_int ?_)
  | (with_reducible refine r_is_int_bool ?_)
  | (with_reducible refine r_is_int_str ?_)
  | (with_reducible refine r_is_int_list ?_)
  | (with_reducible refine r_is_int_tuple ?_)
  | (with_reducible refine r_is_bool_int ?_)
  | (with_reducible refine r_is_bool_bool ?_)
  | (with_reducible refine r_is_bool_str ?_)
  | (with_reducible refine r_is_bool_list ?_)
  | (with_reducible refine r_is_bool_tuple ?_)
  | (with_reducible refine r_is_str_int ?_)
  | (with_reducible refine r_is_str_bool ?_)
  | (with_reducible refine r_is_str_str ?_)
  | (with_reducible refine r_is_str_list ?_)
  | (with_reducible refine r_is_str_tuple ?_)
  | ((with_reducible refine r_is_list_int (xs := ?xx) ?hh ?_); (case hh => walk_at "hp"))
  | ((with_reducible refine r_is_list_bool (xs := ?xx) ?hh ?_); (case hh => walk_at "hp"))
  | ((with_reducible refine r_is_list_str (xs := ?xx) ?hh ?_); (case hh => walk_at "hp"))
  | ((with_reducible refine r_is_list_list (xs := ?xx) ?hh ?_); (case hh => walk_at "hp"))
  | ((with_reducible refine r_is_list_tuple (xs := ?xx) ?hh ?_); (case hh => walk_at "hp"))
  | ((with_reducible refine r_is_tuple_int (xs := ?xx) ?hh ?_); (case hh => walk_at "hp"))
  | ((with_reducible refine r_is_tuple_bool (xs := ?xx) ?hh ?_); (case hh => walk_at "hp"))
  | ((with_reducible refine r_is_tuple_str (xs := ?xx) ?hh ?_); (case hh => walk_at "hp"))
  | ((with_reducible refine r_is_tuple_list (xs := ?xx) ?hh ?_); (case hh => walk_at "hp"))
  | ((with_reducible refine r_is_tuple_tuple (xs := ?xx) ?hh ?_); (case hh => walk_at "hp"))
  | (with_reducible refine r_is_NoneType_int ?_)
  | (with_reducible refine r_is_NoneType_bool ?_)
  | (with_reducible refine r_is_NoneType_str ?_)
  | (with_reducible refine r_is_NoneType_list ?_)
  | (with_reducible refine r_is_NoneType_tuple ?_)))
local macro_rules | `(tactic| walk_at "ne") => `(tactic| first | assumption | (refine Ne.symm ?_; assumption) | exact Bag.ne (by assumption) (by assumption) | exact ne_of_none (by assumption) (by assumption))
local macro_rules | `(tactic| walk_at "hp") => `(tactic| (first
  | assumption
  | exact upd_same
  | (refine h_keep ?_ (by assumption); walk_at "hp")
  | (refine (upd_ne (by walk_at "ne")).trans ?_; walk_at "hp")
  | (refine Same.at (by assumption) ?_; walk_at "hp")
  | (refine But.at (by assumption) (by walk_at "ne") ?_; walk_at "hp")
  | (refine But2.at (by assumption) (by walk_at "ne") (by walk_at "ne") ?_; walk_at "hp")))
local macro_rules | `(tactic| walk_at "side") => `(tactic| first | assumption | omega | (refine ⟨?_, ?_⟩ <;> first | assumption | omega | decide) | decide | (refine ⟨by decide, by decide, by decide⟩) | (left; refine ⟨?_, ?_⟩ <;> first | omega | decide) | (right; refine ⟨?_, ?_⟩ <;> first | omega | decide) | (simp; done))
local macro_rules | `(tactic| walk_at "cond") => `(tactic| first | assumption | exact rfl | omega | (simp only [List.length_cons, List.length_nil]; omega) | decide +kernel)
local macro_rules | `(tactic| walk_at "s") => `(tactic| (first
  | ((with_reducible refine r_var (v := ?vv) ?ee ?_); (case ee => exact rfl))
  | (with_reducible refine r_c ?_)
  | (with_reducible refine r_op ?_)
  | (with_reducible refine r_un ?_)
  | (with_reducible refine r_rI0 ?_)
  | ((with_reducible refine r_rI ?cc ?_); (case cc => walk_at "side"))
  | (with_reducible refine r_rU ?_)
  | (with_reducible refine r_eqI ?_)
  | (with_reducible refine r_neI ?_)
  | (with_reducible refine r_eqB ?_)
  | (with_reducible refine r_neB ?_)
  | (with_reducible refine r_eqS ?_)
  | (with_reducible refine r_neS ?_)
  | ((with_reducible refine r_eq ?ee ?_); (case ee => exact rfl))
  | ((with_reducible refine r_ne ?ee ?_); (case ee => exact rfl))
  | ((with_reducible refine r_ixL (v := ?vv) (xs := ?xx) ?hh ?ee ?_); (case hh => (refine SqL.of ?_; walk_at "hp")); (case ee => exact rfl))
  | (with_reducible refine r_cb ?_)
  | (with_reducible refine r_call ?_)
  | (with_reducible refine r_cons ?_)
  | (with_reducible refine r_nil ?_)
  | (with_reducible refine r_lst ?_)
  | (with_reducible refine r_tup ?_)
  | ((with_reducible refine r_new ?cc ?_); (case cc => walk_at "side"))
  | (with_reducible refine r_exbl ?_)
  | (with_reducible refine r_exint ?_)
  | (with_reducible refine r_exint2 ?_)
  | (with_reducible refine r_exblL ?_)
  | (with_reducible refine r_ex2 ?_)
  | (with_reducible refine r_test ?_)
  | (with_reducible refine r_tB ?_)
  | (with_reducible refine r_not ?_)
  | (with_reducible refine r_and ?_)
  | (with_reducible refine r_or ?_)
  | (with_reducible refine r_andV ?_)
  | (with_reducible refine r_orV ?_)
  | (with_reducible refine r_notV ?_)
  | (with_reducible refine r_tif ?_)
  | (with_reducible refine r_iteT ?_)
  | (with_reducible refine r_iteNT ?_)
  | (with_reducible refine r_iteNF ?_)
  | (with_reducible refine r_iteF ?_)
  | (with_reducible refine r_seq ?_)
  | (with_reducible refine r_next ?_)
  | (with_reducible refine r_brk ?_)
  | (with_reducible refine r_cont ?_)
  | (with_reducible refine r_asg ?_)
  | (with_reducible refine r_gname ?_)
  | (with_reducible refine r_ret ?_)
  | (with_reducible refine r_retN ?_)
  | (with_reducible refine r_drop ?_)
  | (with_reducible refine r_if ?_)
  | ((with_reducible refine r_aug (x := ?xx) ?ee ?_); (case ee => exact rfl))
  | (with_reducible refine r_ipI ?_)
  | (with_reducible refine r_augS ?_)
  | (with_reducible refine r_gsub ?_)
  | ((with_reducible refine r_setL (xs := ?xx) (m := ?mm) ?hh ?ee ?_); (case hh => walk_at "hp"); (case ee => exact rfl))
  | (with_reducible refine r_par ?_)
  | (with_reducible refine r_bm ?_)
  | ((with_reducible refine r_tyL (xs := ?xx) ?hh ?_); (case hh => walk_at "hp"))
  | ((with_reducible refine r_append (xs := ?xx) ?hh ?ll ?_); (case hh => walk_at "hp"); (case ll => walk_at "side"))
  | (walk_at "isi")
  | (with_reducible refine r_for ?_)
  | (with_reducible refine r_iList ?_)
  | (with_reducible refine r_iTup ?_)
  | (with_reducible refine r_iR1 ?_)
  | (with_reducible refine r_iR2 ?_)
  | (with_reducible refine r_lc ?_)
  | (with_reducible refine r_yes ?_)
  | ((with_reducible refine r_lenS ?ll ?_); (case ll => walk_at "side"))
  | (with_reducible refine r_leS ?_)
  | (with_reducible refine r_chain ?_)
  | (with_reducible refine r_tM1 ?_)
  | (with_reducible refine r_exS ?_)
  | ((with_reducible refine r_tupL (xs := ?xx) ?hh ?_); (case hh => walk_at "hp"))
  | ((with_reducible refine r_listL (xs := ?xx) ?hh ?_); (case hh => walk_at "hp"))
  | ((with_reducible refine r_listT (xs := ?xx) ?hh ?_); (case hh => walk_at "hp"))
  | ((with_reducible refine r_ixT (v := ?vv) (xs := ?xx) ?hh ?ee ?_); (case hh => (refine SqT.of ?_; walk_at "hp")); (case ee => exact rfl))
  | (with_reducible refine r_sl ?_)
  | (with_reducible refine r_nopart ?_)
  | (with_reducible refine r_part ?_)
  | (with_reducible refine r_exI ?_)
  | ((with_reducible refine r_slL (xs := ?xx) ?hh ?_); (case hh => first | assumption | (refine SqL.of ?_; walk_at "hp") | (refine Same.seq (by assumption) (by assumption))))
  | ((with_reducible refine r_cat (xs := ?xx) (zs := ?zz) ?hh ?ii ?ll ?_); (case hh => walk_at "hp"); (case ii => walk_at "hp"); (case ll => walk_at "side"))
  | ((with_reducible refine r_lenL (xs := ?xx) ?hh ?_); (case hh => walk_at "hp"))
  | ((with_reducible refine r_lenT (xs := ?xx) ?hh ?_); (case hh => walk_at "hp"))
  | ((with_reducible refine r_gTup (xs := ?xx) ?hh ?ll ?_); (case hh => walk_at "hp"); (case ll => exact rfl))
  | (with_reducible refine r_gCons ?_)
  | (with_reducible refine r_gNil ?_)
  | ((with_reducible refine r_iteDT ?cc ?_); (case cc => walk_at "cond"))
  | ((with_reducible refine r_iteDF ?cc ?_); (case cc => walk_at "cond"))
  | ((with_reducible refine r_iteNDT ?cc ?_); (case cc => walk_at "cond"))
  | ((with_reducible refine r_iteNDF ?cc ?_); (case cc => walk_at "cond"))
  ))
local macro_rules | `(tactic| walk_at "go") => `(tactic| repeat (walk_at "s"))

local macro_rules | `(tactic| walk_at "s") => `(tactic| (first
  | (with_reducible refine r_isNR ?_)
  ))
/-- a program that can be parted, by its sizes -/
def Cut2 (j : Nat) (H : Hp) (a : Addr) (p : Prog) : Prop := PrIs H a p ∧ WfL j BC BC 6 p ∧ 1 ≤ p.len ∧ p.len ≤ j
theorem Cut2.tk {H H' : Hp} {j : Nat} {a : Addr} {p : Prog} (h : Cut2 j H a p) (t : Tk H H') : Cut2 j H' a p := ⟨h.1.tk t, h.2⟩
theorem Cut2.mono {H : Hp} {i j : Nat} {a : Addr} {p : Prog} (h : Cut2 i H a p) (l : i ≤ j) : Cut2 j H a p := ⟨h.1, WfL.wide l h.2.1, h.2.2.1, Nat.le_trans h.2.2.2 l⟩
theorem Cut2.cuts {H : Hp} {j : Nat} {a : Addr} {p : Prog} (h : Cut2 j H a p) (l : j ≤ 300) : Cuts H a p := ⟨h.1, WfL.wide l (WfL.mono (Int.le_refl _) (Int.le_refl _) (by decide) h.2.1), h.2.2.1, Nat.le_trans h.2.2.2 l⟩
theorem Cut2.lens {H : Hp} {j : Nat} {a : Addr} {p : Prog} {n : Int} (h : Cut2 j H a p) (l : j ≤ 250) (n0 : 0 < n) (n1 : n < p.size) : (p.part n).1.len + (p.part n).2.len ≤ 4000 := by
  have po := Prog.part_ok h.2.1 (Int.le_of_lt n0) (Int.le_of_lt n1)
  have := po.l1
  have := po.l2
  have := h.2.2.2
  omega
theorem Cut2.part {H : Hp} {j : Nat} {a q1 q2 : Addr} {p : Prog} {n : Int} (h : Cut2 j H a p) (n0 : 0 < n) (n1 : n < p.size) (h1 : PrIs H q1 (p.part n).1) (h2 : PrIs H q2 (p.part n).2) : Cut2 (j * 7) H q1 (p.part n).1 ∧ Cut2 (j * 7) H q2 (p.part n).2 := by
  have po := Prog.part_ok h.2.1 (Int.le_of_lt n0) (Int.le_of_lt n1)
  have := po.l1
  have := po.l2
  have := h.2.2.2
  exact ⟨⟨h1, po.w1, Prog.len_pos (by have := po.s1; omega), by omega⟩, ⟨h2, po.w2, Prog.len_pos (by have := po.s2; omega), by omega⟩⟩
def spTameRight : Sp := fun vs H Q _ => ∃ (b a : Addr) (p : Prog), vs = [.ref b, .ref a] ∧ Bag H b ∧ Cut2 60 H a p ∧ 2 ≤ p.size ∧ p.size ≤ 60 ∧ ∀ H', But b H H' → Bag H' b → Q (.bl true) H'
theorem ok_l_tame_right {f : Addr} {fd : FuncData} (F : Fun K "_law_tame_right" "_law_tame_right" s_l_tame_right f fd) (B : Bl mg) (h_l_pick : Has P w K mg base "_law_pick" 1 ["_law_bag", "_law_many"] spPick) (h_l_unroll : Has P w K mg base "_law_unroll" 13 ["_law_piece_here", "_law_sign"] (spUnLt 13))
   (h_l_same_piece : Has P w K mg base "_law_same_piece" 28 ["_law_found", "_law_due"] (spSame 28)) (h_l_two : Has P w K mg base "_law_two" 42 ["_law_piece_here", "_law_lots", "_law_spots"] spTwo) :
    FnOk P w K mg base CX0 43 f fd ["_law_bag", "_law_piece_here"] spTameRight := by
  refine F.ok sc_l_tame_right (fun vs H Q E h => ?_) (fun cdv A outer s H vs Q E hr h => ?_)
  · obtain ⟨b, a, p, rfl, _⟩ := h
    rfl
  · obtain ⟨b, a, p, rfl, hb, hc, z1, z2, k⟩ := h
    have hcc := hc.cuts (by decide)
    have hg := hcc.good
    have wu := Prog.wf_unroll (s := 1) (.inl rfl) hg.2.1
    have lu := Prog.len_unroll 1 hg.2.1
    refine ⟨_, (pss_cons (ps_set (i := 2) sc_l_tame_right.nd rfl (.inl rfl) (pe_callH h_l_unroll (hr.mono (by first | decide | omega)) (pa_cons (pv 1) (pa_cons pe_int pa_nil))))
    (pss_cons (ps_for PassesOwn.never rfl (pi_range1 (by rfl) B.b_range (pa_cons pe_int pa_nil)) (pg_name (i := 3) sc_l_tame_right.nd rfl (.inl rfl))
    (pss_cons (ps_set (i := 4) sc_l_tame_right.nd rfl (.inl rfl) (pe_op op_add pe_int (pe_callH h_l_pick (hr.mono (by first | decide | omega)) (pa_cons (pv 0) (pa_cons (pe_op op_sub (pe_callB (call_lenK (K := K)) (by rfl) B.b_len PySem.boot_len (pa_cons (pv 2) pa_nil)) pe_int) pa_nil)))))
    (pss_cons (ps_set (i := 5) sc_l_tame_right.nd rfl (.inl rfl) (pe_callH h_l_two (hr.mono (by first | decide | omega)) (pa_cons (pv 1) (pa_cons (pv 4) (pa_cons (pe_lst pa_nil) pa_nil)))))
    (pss_cons (ps_if (pt_cmpR op_isNN (pv 5) pe_non (nomark _))
    (pss_one (ps_ret pe_bl))
    pss_nil)
    (pss_one (ps_if (pt_not (pt_val (pe_callH h_l_same_piece (hr.mono (by first | decide | omega)) (pa_cons (pe_callTy call_tupL (by rfl) B.b_tuple (by decide +kernel) (pa_cons (pe_op op_cat (pe_callH h_l_unroll (hr.mono (by first | decide | omega)) (pa_cons (pe_ix (ix_tupK (K := K)) (pv 5) pe_int (fun _ _ => rfl)) (pa_cons pe_int pa_nil))) (pe_callH h_l_unroll (hr.mono (by first | decide | omega)) (pa_cons (pe_ix (ix_tupK (K := K)) (pv 5) pe_int (fun _ _ => rfl)) (pa_cons pe_int pa_nil)))) pa_nil)) (pa_cons (pe_callTy call_tupL (by rfl) B.b_tuple (by decide +kernel) (pa_cons (pv 2) pa_nil)) pa_nil)))))
    (pss_one (ps_ret pe_bl))
    pss_nil))))))
    (pss_one (ps_ret pe_bl)))), ?_⟩
    walk_at "go"
    refine ⟨a, p, 1, rfl, .inl rfl, hc.1, hg.2.1, by omega, fun l xs H1 nl s1 hl hxs => ?_⟩
    have lx := hxs.length
    have hb1 := hb.same s1
    have nlb : l ≠ b := hb.ne nl
    walk_at "go"
    refine u_for1 ⟨by decide, by decide⟩ (fun i σ H2 => ∃ (y3 y4 y5 : Option V), σ = [some (.ref b), some (.ref a), some (.ref l), y3, y4, y5] ∧ But b H1 H2 ∧ Bag H2 b) ?_ ?_ ?_
    · exact ⟨_, _, _, rfl, But.refl _ _, hb1⟩
    · rintro i σ H2 hi ⟨y3, y4, y5, rfl, bu, b2⟩
      have tk12 := Tk.but bu hb1
      have hl2 := bu _ _ nlb hl
      walk_at "go"
      refine u_pick b2 (by omega) (by omega) fun r H3 r0 r1 bu3 b3 => ?_
      have hl3 := bu3 _ _ nlb hl2
      have tk3 := tk12.trans (Tk.but bu3 b2)
      walk_at "go"
      intro e ne
      have se := Same.new0 (o := .lst []) ne
      have he : (upd H3 e (.lst [])) e = some (.lst (([] : List Int).map V.int)) := upd_same
      have hl3 := se _ _ hl3
      have tk3 := tk3.trans (Tk.same se)
      have bu4 := (bu.trans bu3).trans (Same.but se b)
      have b4 := b3.same se
      generalize upd H3 e _ = H4 at *
      have hc4 := (hc.tk (Tk.same s1)).tk tk3
      refine ⟨a, e, p, 1 + r, [], rfl, hc4.cuts (by decide), by omega, by omega, hc4.lens (by decide) (by omega) (by omega), he, (fun i hi => nomatch hi), fun t q1 q2 H5 s5 ht h1 h2 => ?_⟩
      have po := Prog.part_ok hc.2.1 (n := 1 + r) (by omega) (by omega)
      have w1 : Wf BC BC 12 (p.part (1 + r)).1 := WfL.wide (by decide) (WfL.mono (Int.le_refl _) (Int.le_refl _) (by decide) po.w1)
      have w2 : Wf BC BC 12 (p.part (1 + r)).2 := WfL.wide (by decide) (WfL.mono (Int.le_refl _) (Int.le_refl _) (by decide) po.w2)
      have ss1 := po.s1
      have ss2 := po.s2
      walk_at "go"
      refine ⟨q1, _, 1, rfl, .inl rfl, h1, w1, by omega, fun l1 xs1 H6 nl1 s6 hl1 hxs1 => ?_⟩
      have ht := s6 _ _ ht
      have h2 := h2.tk (Tk.same s6)
      walk_at "go"
      refine ⟨q2, _, 1, rfl, .inl rfl, h2, w2, by omega, fun l2 xs2 H7 nl2 s7 hl2' hxs2 => ?_⟩
      have hl1 := s7 _ _ hl1
      have hxs1 := hxs1.tk (Tk.same s7)
      have lx1 := hxs1.length
      have lx2 := hxs2.length
      have lu1 := Prog.len_unroll 1 w1
      have lu2 := Prog.len_unroll 1 w2
      walk_at "go"
      intro l3 nl3
      have hl3' := s7 _ _ (s6 _ _ (s5 _ _ hl3))
      have hxs' := ((hxs.tk tk3).tk (Tk.same s5)).tk (Tk.same (s6.trans s7))
      walk_at "go"
      intro t1 nt1
      walk_at "go"
      intro t2 nt2
      have sn : Same H7 (upd (upd (upd H7 l3 (.lst (xs1 ++ xs2))) t1 (.tup (xs1 ++ xs2))) t2 (.tup xs)) := Same.new (Same.new (Same.new0 nl3) nt1) nt2
      have e1 : (upd (upd (upd H7 l3 (.lst (xs1 ++ xs2))) t1 (.tup (xs1 ++ xs2))) t2 (.tup xs)) t1 = some (.tup (xs1 ++ xs2)) := h_keep upd_same nt2
      have e2 : (upd (upd (upd H7 l3 (.lst (xs1 ++ xs2))) t1 (.tup (xs1 ++ xs2))) t2 (.tup xs)) t2 = some (.tup xs) := upd_same
      have pu := Prog.part_unroll 1 hc.2.1 (n := 1 + r) (by omega) (by omega)
      have pa := hxs1.app hxs2
      rw [pu] at pa
      refine ⟨.ref t1, .ref t2, rfl, (same_pr4 (d := 12) ⟨_, e1, pa.tk (Tk.same sn)⟩ ⟨_, e2, hxs'.tk (Tk.same sn)⟩ (WfL.mono (Int.le_refl _) (Int.le_refl _) (by decide) wu) (by omega)).succ, fun H8 s8 => ?_⟩
      walk_at "go"
      have sF := ((s5.trans s6).trans (s7.trans sn)).trans s8
      exact ⟨_, _, _, rfl, bu4.trans (Same.but sF b), b4.same sF⟩
    · rintro σ H2 ⟨y3, y4, y5, rfl, bu, b2⟩
      walk_at "go"
      exact k _ ((Same.but s1 b).trans bu) b2
theorem ok_law {f : Addr} {fd : FuncData} (F : Fun K "law" "law" s_law f fd) (B : Bl mg) (h_l_bag_of : Has P w K mg base "_law_bag_of" 1 ["_law_cell"] spBagOf) (h_l_pick : Has P w K mg base "_law_pick" 1 ["_law_bag", "_law_many"] spPick) (h_l_names : Has P w K mg base "_law_names" 2 ["_law_bag"] spNames)
   (h_l_wild : Has P w K mg base "_law_wild" 10 ["_law_bag", "_law_room", "_law_names_here"] spWild) (h_l_tame : Has P w K mg base "_law_tame" 14 ["_law_bag", "_law_names_here"] spTame) (h_l_bulk : Has P w K mg base "_law_bulk" 13 ["_law_piece_here"] (spNumLt Prog.size 13)) (h_l_index : Has P w K mg base "_law_index" 3 ["_law_bag", "_law_bulk_here"] spIndex)
   (h_l_same_piece : Has P w K mg base "_law_same_piece" 28 ["_law_found", "_law_due"] (spSame 28)) (h_l_two : Has P w K mg base "_law_two" 42 ["_law_piece_here", "_law_lots", "_law_spots"] spTwo) (h_l_tame_right : Has P w K mg base "_law_tame_right" 43 ["_law_bag", "_law_piece_here"] spTameRight) (h_undoing : Has P w K mg base "undoing" 29 ["program"] spUndo) :
    FnOk P w K mg base CX0 44 f fd ["_law_script"] (spLaw K) := by
  refine F.ok sc_law (fun vs H Q E h => ?_) (fun cdv A outer s H vs Q E hr h => ?_)
  · obtain ⟨a, ns, rfl, _⟩ := h
    rfl
  · obtain ⟨a, ns, rfl, hS, hlen, k⟩ := h
    refine ⟨_, (pss_cons (ps_set (i := 1) sc_law.nd rfl (.inl rfl) pe_int)
    (pss_cons (ps_for PassesOwn.never rfl (pi_list (pe_op op_cat (pe_lst (pa_cons (pv 1) pa_nil)) (pe_slice sl_list (pv 0) po_none (po_some pe_int)))) (pg_name (i := 2) sc_law.nd rfl (.inl rfl))
    (pss_cons (ps_set (i := 3) sc_law.nd rfl (.inr rfl) (pe_callH h_l_bag_of (hr.mono (by first | decide | omega)) (pa_cons (pv 2) pa_nil)))
    (pss_cons (ps_set (i := 4) sc_law.nd rfl (.inl rfl) (pe_callH h_l_names (hr.mono (by first | decide | omega)) (pa_cons (pv 3) pa_nil)))
    (pss_cons (ps_set (i := 5) sc_law.nd rfl (.inl rfl) (pe_callH h_l_wild (hr.mono (by first | decide | omega)) (pa_cons (pv 3) (pa_cons pe_int (pa_cons (pv 4) pa_nil)))))
    (pss_cutM (ps_if (pt_cmpR op_lt (pe_callH h_l_bulk (hr.mono (by first | decide | omega)) (pa_cons (pv 5) pa_nil)) pe_int (nomark _))
    (pss_one (ps_set (i := 5) sc_law.nd rfl (.inl rfl) (pe_op op_catA (pv 5) (pe_tup (pa_cons (pe_tup (pa_cons pe_str (pa_cons (pe_ix ix_str (pv 4) pe_int (fun _ _ => rfl)) pa_nil))) pa_nil)))))
    pss_nil)
    (pss_cons (ps_set (i := 6) sc_law.nd rfl (.inl rfl) (pe_callH h_l_tame (hr.mono (by first | decide | omega)) (pa_cons (pv 3) (pa_cons (pv 4) pa_nil))))
    (pss_cutM (ps_if (PW.pt (pw_and (pt_cmpR op_gt (pe_callH h_l_bulk (hr.mono (by first | decide | omega)) (pa_cons (pv 6) pa_nil)) pe_int (nomark _)) (pw_and1 (pt_not (pt_val (pe_callH h_l_tame_right (hr.mono (by first | decide | omega)) (pa_cons (pv 3) (pa_cons (pv 6) pa_nil))))))))
    (pss_one (ps_ret pe_bl))
    pss_nil)
    (pss_cons (ps_set (i := 7) sc_law.nd rfl (.inl rfl) (pv 5))
    (pss_cutM (ps_for PassesOwn.never rfl (pi_range1 (by rfl) B.b_range (pa_cons (pe_op op_add pe_int (pe_callH h_l_pick (hr.mono (by first | decide | omega)) (pa_cons (pv 3) (pa_cons pe_int pa_nil)))) pa_nil)) (pg_name (i := 8) sc_law.nd rfl (.inl rfl))
    (pss_cons (ps_set (i := 9) sc_law.nd rfl (.inr rfl) (pe_callH h_l_bulk (hr.mono (by first | decide | omega)) (pa_cons (pv 7) pa_nil)))
    (pss_cutM (ps_set (i := 10) sc_law.nd rfl (.inl rfl) (pe_ix (ix_listK (K := K)) (pe_lst (pa_cons pe_int (pa_cons (pe_op op_sub (pv 9) pe_int) (pa_cons (pe_op op_add pe_int (pe_callH h_l_index (hr.mono (by first | decide | omega)) (pa_cons (pv 3) (pa_cons (pe_op op_sub (pv 9) pe_int) pa_nil)))) pa_nil)))) (pe_callB (call_min2 rfl) (by rfl) B.b_min (by decide +kernel) (pa_cons pe_int (pa_cons (pe_callH h_l_pick (hr.mono (by first | decide | omega)) (pa_cons (pv 3) (pa_cons pe_int pa_nil))) pa_nil))) (fun _ _ => rfl)))
    (pss_cutM (ps_set (i := 11) sc_law.nd rfl (.inl rfl) (pe_op op_cat (pe_lst (pa_cons pe_int (pa_cons (pe_op op_sub (pv 9) pe_int) (pa_cons (pe_op op_sub (pv 10) pe_int) (pa_cons (pv 10) pa_nil))))) (pe_lc (own := [("_law_k", 14)]) rfl sc_law.nd (pi_range1 (by rfl) B.b_range (pa_cons pe_int pa_nil)) (blkOk_by (N := ["_law_script", "_law_great", "_law_cell", "_law_bag", "_law_names_here", "_law_wild_here", "_law_tame_here", "_law_piece_here", "_law_turn", "_law_bulk_here", "_law_lots", "_law_spots", "_law_told", "_law_after", "_law_k"]) (sc := defScope s_law) (by decide +kernel)) (fun _ _ _ _ _ => (pg_name (i := 14) sc_law.nd rfl (.inl rfl))) (fun _ _ _ _ _ => pts_nil) (fun _ _ _ _ _ => (pe_callH h_l_index (hr.mono (by first | decide | omega)) (pa_cons (pv 3) (pa_cons (pv 9) pa_nil)))))))
    (pss_cons (ps_set (i := 12) sc_law.nd rfl (.inl rfl) (pe_callH h_l_two (hr.mono (by first | decide | omega)) (pa_cons (pv 7) (pa_cons (pv 10) (pa_cons (pv 11) pa_nil)))))
    (pss_cons (ps_if (pt_cmpR op_isNN (pv 12) pe_non (nomark _))
    (pss_one (ps_ret pe_bl))
    pss_nil)
    (pss_cons (ps_set (i := 13) sc_law.nd rfl (.inl rfl) (pe_ix (ix_tupK (K := K)) (pv 12) (pe_callH h_l_pick (hr.mono (by first | decide | omega)) (pa_cons (pv 3) (pa_cons pe_int pa_nil))) (fun _ _ => rfl)))
    (pss_one (ps_if (pt_cmpR op_gt (pe_callH h_l_bulk (hr.mono (by first | decide | omega)) (pa_cons (pv 13) pa_nil)) pe_int (nomark _))
    (pss_one (ps_set (i := 7) sc_law.nd rfl (.inl rfl) (pv 13)))
    pss_nil)))))))))
    (pss_one (ps_if (pt_not (pt_val (pe_callH h_l_same_piece (hr.mono (by first | decide | omega)) (pa_cons (pe_callH h_undoing (hr.mono (by first | decide | omega)) (pa_cons (pe_callH h_undoing (hr.mono (by first | decide | omega)) (pa_cons (pv 5) pa_nil)) pa_nil)) (pa_cons (pv 5) pa_nil)))))
    (pss_one (ps_ret pe_bl))
    pss_nil)))))))))))
    (pss_one (ps_ret pe_bl)))), ?_⟩
    have hal : (ns.map V.int).length < 100000 := by rw [List.length_map]; omega
    walk_at "go"
    intro g ng
    walk_at "go"
    refine r_slL ((Same.new0 ng).seq hS) ?_
    intro c nc
    refine r_cat (xs := [.int _]) (zs := cutV (ns.map V.int) none (some 3)) (by walk_at "hp") upd_same ?_ ?_
    · have := cut_len (xs := ns.map V.int) none (some 3)
      rw [List.length_map] at this
      simp
      omega
    intro l nl
    have sl : ∀ H', Same (upd (upd (upd H g (HO.lst [V.int 711854829551198688118439398756232867588747181706942076953176577831991861229007159227382123579844])) c (.lst (cutV (ns.map V.int) none (some 3)))) l (.lst ([V.int 711854829551198688118439398756232867588747181706942076953176577831991861229007159227382123579844] ++ cutV (ns.map V.int) none (some 3)))) H' → H' l = some (.lst ([V.int 711854829551198688118439398756232867588747181706942076953176577831991861229007159227382123579844] ++ cutV (ns.map V.int) none (some 3))) := fun H' sm => sm _ _ upd_same
    generalize upd (upd (upd H g _) c _) l _ = H0 at *
    refine u_forL (SqL.of (sl H0 (Same.refl _))) (fun i σ H' => ∃ y0 y1 y2 y3 y4 y5 y6 y7 y8 y9 y10 y11 y12 y13 y14 : Option V, σ = [y0, y1, y2, y3, y4, y5, y6, y7, y8, y9, y10, y11, y12, y13, y14] ∧ Same H0 H') ⟨_, _, _, _, _, _, _, _, _, _, _, _, _, _, _, rfl, Same.refl _⟩ ?_ ?_ ?_
    · rintro i σ H' _ ⟨y0, y1, y2, y3, y4, y5, y6, y7, y8, y9, y10, y11, y12, y13, y14, rfl, sm⟩
      exact SqL.of (sl H' sm)
    · rintro i x σ H' hx ⟨y0, y1, y2, y3, y4, y5, y6, y7, y8, y9, y10, y11, y12, y13, y14, rfl, sm⟩
      obtain ⟨cell, rfl⟩ := cells_int hx
      walk_at "go"
      refine ⟨cell, rfl, fun b H1 nb s1 b1 => ?_⟩
      walk_at "go"
      refine ⟨b, rfl, b1, fun z H2 bu2 b2 hz => ?_⟩
      walk_at "go"
      refine ⟨b, 55, z, rfl, b2, hz, fun q1 p1 H3 bu3 b3 t3 h1 w1 l1 m1 => ?_⟩
      walk_at "go"
      have w12 : Wf BC BC 12 p1 := WfL.wide (by decide) (WfL.mono (Int.le_refl _) (Int.le_refl _) (by decide) w1)
      have ls1 := Prog.len_le_size w1
      have s3 := Same.but2 (Same.but2 s1 nb bu2) nb bu3
      refine r_cut (fun σ' H4 => ∃ (q : Addr) (p : Prog), σ' = [y0, y1, some (.int cell), some (.ref b), some (.str z), some (.ref q), y6, y7, y8, y9, y10, y11, y12, y13, y14] ∧ Same H' H4 ∧ Bag H4 b ∧ Cut2 5 H4 q p ∧ 2 ≤ p.size) ?_ ?_
      · walk_at "go"
        refine ⟨q1, p1, rfl, h1, w12, by omega, by decide, ?_⟩
        walk_at "go"
        refine r_iteD (fun hs => ?_) (fun hs => ?_)
        · obtain ⟨c0, hc0, nc0⟩ := names_at hz (n := 0) (by decide) (by decide)
          obtain ⟨xs, hx, hp⟩ := id h1
          have lx := hp.length
          walk_at "go"
          refine r_ixS (names_small hz) hc0 ?_
          walk_at "go"
          intro t nt
          walk_at "go"
          intro t2 nt2
          walk_at "go"
          refine r_catAT (xs := xs) (ys := [.ref t]) (by walk_at "hp") upd_same (by simp only [List.length_cons, List.length_nil]; omega) fun t3 H4 s4 ht3 => ?_
          walk_at "go"
          have sn : Same H3 (upd (upd H3 t (.tup [.str "go", .str ⟨#[c0]⟩])) t2 (.tup [.ref t])) := Same.new (Same.new0 nt) nt2
          have et : (upd (upd H3 t (.tup [.str "go", .str ⟨#[c0]⟩])) t2 (.tup [.ref t])) t = some (.tup [.str "go", .str ⟨#[c0]⟩]) := h_keep upd_same nt2
          refine ⟨t3, p1.app (.step "go" ⟨#[c0]⟩ .nil), rfl, s3.trans (sn.trans s4), b3.same (sn.trans s4), ⟨⟨_, ht3, (hp.tk (Tk.same (sn.trans s4))).app ⟨t, [], rfl, s4 _ _ et, rfl⟩⟩, WfL.app w1 (WfL.step_iff.mpr ⟨.inl rfl, nc0, WfL.nil⟩), by rw [Prog.len_app]; omega, ?_⟩, ?_⟩
          · rw [Prog.len_app, Prog.len, Prog.len]; omega
          · rw [Prog.size_app, Prog.size, Prog.size]; omega
        · walk_at "go"
          exact ⟨q1, p1, rfl, s3, b3, ⟨h1, w1, l1, m1⟩, by omega⟩
      clear h1 w1 l1 m1 w12 ls1 t3 b3 s3 bu3
      clear q1 p1
      rintro σ' H4 ⟨q, p, rfl, s4, b4, hc4, sz⟩
      walk_at "go"
      refine ⟨b, z, rfl, b4, hz, fun q2 p2 H5 bu5 b5 t5 h2 w2 l2 m2 z2 => ?_⟩
      have s5 := Same.but2 s4 nb bu5
      have hc5 := hc4.tk t5
      have c2 : Cut2 60 H5 q2 p2 := ⟨h2, WfL.wide (by decide) (WfL.mono (show (3 : Int) ≤ BC by decide) (show (12 : Int) ≤ BC by decide) (by decide) w2), l2, m2⟩
      walk_at "go"
      refine r_cut (fun σ' H6 => ∃ y7 : Option V, σ' = [y0, y1, some (.int cell), some (.ref b), some (.str z), some (.ref q), some (.ref q2), y7, y8, y9, y10, y11, y12, y13, y14] ∧ But b H5 H6 ∧ Bag H6 b) ?_ ?_
      · walk_at "go"
        refine ⟨q2, p2, rfl, h2, (c2.cuts (by decide)).good.2.1, by omega, by decide, ?_⟩
        walk_at "go"
        refine r_iteD (fun hs => ?_) (fun hs => ?_)
        · walk_at "go"
          refine ⟨b, q2, p2, rfl, b5, c2, by omega, z2, fun H6 bu6 b6 => ?_⟩
          walk_at "go"
          exact ⟨_, rfl, bu6, b6⟩
        · walk_at "go"
          exact ⟨_, rfl, But.refl _ _, b5⟩
      rintro σ' H6 ⟨y7, rfl, bu6, b6⟩
      have s6 := Same.but2 s5 nb bu6
      have hc6 := hc5.tk (Tk.but bu6 b5)
      walk_at "go"
      refine r_cut (fun σ' H7 => ∃ y7 y8 y9 y10 y11 y12 y13 y14 : Option V, σ' = [y0, y1, some (.int cell), some (.ref b), some (.str z), some (.ref q), some (.ref q2), y7, y8, y9, y10, y11, y12, y13, y14] ∧ But b H6 H7 ∧ Bag H7 b) ?_ ?_
      · walk_at "go"
        refine u_pick b6 (by decide) (by decide) fun r7 H7 r70 r71 bu7 b7 => ?_
        walk_at "go"
        refine u_for1 ⟨by omega, by omega⟩ (fun i σ H8 => ∃ (q3 : Addr) (p3 : Prog) (y8 y9 y10 y11 y12 y13 y14 : Option V), σ = [y0, y1, some (.int cell), some (.ref b), some (.str z), some (.ref q), some (.ref q2), some (.ref q3), y8, y9, y10, y11, y12, y13, y14] ∧ But b H6 H8 ∧ Bag H8 b ∧ Cut2 (5 * 7 ^ i) H8 q3 p3 ∧ 2 ≤ p3.size) ?_ ?_ ?_
        · exact ⟨q, p, _, _, _, _, _, _, _, rfl, bu7, b7, hc6.tk (Tk.but bu7 b6), sz⟩
        · rintro i σ H8 hi ⟨q3, p3, y8, y9, y10, y11, y12, y13, y14, rfl, bu8, b8, hc8, sz3⟩
          have i2 : i ≤ 2 := by omega
          have ji : 5 * 7 ^ i ≤ 245 := by
            have := Nat.pow_le_pow_right (show 0 < 7 by decide) i2
            omega
          have hcc := hc8.cuts (by omega)
          have hg := hcc.good
          have small := size_small hg.2.1 (by decide) hg.2.2.2
          walk_at "go"
          refine ⟨q3, p3, rfl, hg.1, hg.2.1, hg.2.2.2, by decide, ?_⟩
          walk_at "go"
          have b1i : 1 ≤ p3.size - 1 := by omega
          refine r_cut (fun σ' H9 => ∃ n : Int, σ' = [y0, y1, some (.int cell), some (.ref b), some (.str z), some (.ref q), some (.ref q2), some (.ref q3), some (.int i), some (.int p3.size), some (.int n), y11, y12, y13, y14] ∧ But b H8 H9 ∧ Bag H9 b ∧ 0 < n ∧ n < p3.size) ?_ ?_
          · walk_at "go"
            refine ⟨b, p3.size - 1, rfl, b8, by omega, by omega, fun r9 H9 r90 r91 bu9 b9 => ?_⟩
            walk_at "go"
            intro l9 nl9
            have hl9 : (upd H9 l9 (.lst [.int 1, .int (p3.size - 1), .int (1 + r9)])) l9 = some (.lst ([1, p3.size - 1, 1 + r9].map V.int)) := upd_same
            have s9 := Same.new0 (o := .lst [.int 1, .int (p3.size - 1), .int (1 + r9)]) nl9
            have nlb := b9.ne nl9
            have b9 := b9.same s9
            have bu9 := bu9.trans (Same.but s9 b)
            generalize upd H9 l9 _ = H9' at *
            walk_at "go"
            refine u_pick b9 (by decide) (by decide) fun r10 H10 r100 r101 bu10 b10 => ?_
            have hl10 := bu10 _ _ nlb hl9
            obtain ⟨n, hn, n0, n1⟩ : ∃ n : Int, atI ([1, p3.size - 1, 1 + r9].map V.int) (if r10 < 2 then r10 else 2) = some (.int n) ∧ 0 < n ∧ n < p3.size := by
              rcases (by omega : r10 = 0 ∨ r10 = 1 ∨ 2 ≤ r10) with rfl | rfl | h
              · exact ⟨_, rfl, by omega, by omega⟩
              · exact ⟨_, rfl, by omega, by omega⟩
              · rw [if_neg (by omega)]; exact ⟨_, rfl, by omega, by omega⟩
            walk_at "go"
            refine r_ixL (.of hl10) hn ?_
            walk_at "go"
            exact ⟨n, rfl, bu9.trans bu10, b10, n0, n1⟩
          rintro σ' H9 ⟨n, rfl, bu9, b9, n0, n1⟩
          walk_at "go"
          refine r_cut (fun σ' H10 => ∃ (sp : Addr) (is : List Int) (y14 : Option V), σ' = [y0, y1, some (.int cell), some (.ref b), some (.str z), some (.ref q), some (.ref q2), some (.ref q3), some (.int i), some (.int p3.size), some (.int n), some (.ref sp), y12, y13, y14] ∧ But b H9 H10 ∧ Bag H10 b ∧ H10 sp = some (.lst (is.map V.int)) ∧ ∀ j ∈ is, 0 ≤ j ∧ j < p3.size) ?_ ?_
          · walk_at "go"
            intro l9 nl9
            have hl9 : (upd H9 l9 (.lst [.int 0, .int (p3.size - 1), .int (n - 1), .int n])) l9 = some (.lst ([0, p3.size - 1, n - 1, n].map V.int)) := upd_same
            have s9 := Same.new0 (o := .lst [.int 0, .int (p3.size - 1), .int (n - 1), .int n]) nl9
            have nlb := b9.ne nl9
            have b9' := b9.same s9
            have bu9' := Same.but s9 b
            generalize upd H9 l9 _ = H9' at *
            walk_at "go"
            refine u_lc1 ⟨by decide, by decide⟩ (fun D i acc H' => (∃ js : List Int, acc = js.map V.int ∧ js.length = i ∧ i ≤ 8 ∧ ∀ j ∈ js, 0 ≤ j ∧ j < p3.size) ∧ But b H9' H' ∧ Bag H' b) ?_ ?_ ?_
            · exact fun D hD => ⟨⟨[], rfl, rfl, by decide, fun j hj => nomatch hj⟩, Same.but (Same.new0 hD) b, b9'.keep hD⟩
            · rintro D i acc H' hD hi hacc ⟨⟨js, rfl, jl, _, hj⟩, bu, bb⟩
              have nDb := b9'.ne hD
              have hi8 : i < 8 := by omega
              walk_at "go"
              refine ⟨rfl, ?_⟩
              walk_at "go"
              refine ⟨b, p3.size, rfl, bb, by omega, by omega, fun r H2 r0 r1 bu2 bb2 => ?_⟩
              have hacc2 := bu2 _ _ nDb hacc
              refine u_push hacc2 (by rw [List.length_map]; omega) ⟨⟨js ++ [r], by rw [List.map_append]; rfl, by rw [List.length_append, jl]; rfl, hi8, fun j hj' => ?_⟩, ?_, ?_⟩
              · rcases List.mem_append.mp hj' with h | h
                · exact hj j h
                · rw [List.mem_singleton.mp h]; exact ⟨r0, r1⟩
              · exact But.put (bu.trans bu2) hD
              · exact bb2.upd nDb.symm
            · rintro D acc H' hD hacc ⟨⟨js, rfl, jl, _, hj⟩, bu, bb⟩
              have hl9'' := bu _ _ nlb hl9
              walk_at "go"
              refine r_cat hl9'' hacc (by rw [List.length_map, List.length_map]; simp; omega) fun l11 nl11 => ?_
              walk_at "go"
              refine ⟨l11, [0, p3.size - 1, n - 1, n] ++ js, _, rfl, (bu9'.trans bu).trans (Same.but (Same.new0 nl11) b), bb.keep nl11, by rw [List.map_append]; exact upd_same, fun j hj' => ?_⟩
              rcases List.mem_append.mp hj' with h | h
              · simp only [List.mem_cons, List.not_mem_nil, or_false] at h
                rcases h with rfl | rfl | rfl | rfl <;> omega
              · exact hj j h
          rintro σ' H10 ⟨sp, is, y14, rfl, bu10, b10, hsp, his⟩
          have hc10 := hc8.tk ((Tk.but bu9 b8).trans (Tk.but bu10 b9))
          walk_at "go"
          refine ⟨q3, sp, p3, n, is, rfl, hc10.cuts (by omega), n0, n1, hc10.lens (by omega) n0 n1, hsp, his, fun t q4 q5 H11 s11 ht h4 h5 => ?_⟩
          obtain ⟨c4, c5⟩ := (hc10.tk (Tk.same s11)).part n0 n1 h4 h5
          have b11 := b10.same s11
          have buS := ((bu8.trans bu9).trans bu10).trans (Same.but s11 b)
          walk_at "go"
          refine u_pick b11 (by decide) (by decide) fun r12 H12 r120 r121 bu12 b12 => ?_
          have tk12 := Tk.but bu12 b11
          have buT := buS.trans bu12
          obtain ⟨q6, p6, hq6, c6⟩ : ∃ (q6 : Addr) (p6 : Prog), atI [V.ref q4, .ref q5] r12 = some (.ref q6) ∧ Cut2 (5 * 7 ^ i * 7) H12 q6 p6 := by
            rcases (by omega : r12 = 0 ∨ r12 = 1) with rfl | rfl
            · exact ⟨q4, _, rfl, c4.tk tk12⟩
            · exact ⟨q5, _, rfl, c5.tk tk12⟩
          have w6 : Wf BC BC 12 p6 := WfL.wide (by omega) (WfL.mono (Int.le_refl _) (Int.le_refl _) (by decide) c6.2.1)
          have e7 : 5 * 7 ^ i * 7 = 5 * 7 ^ (i + 1) := by rw [Nat.pow_succ, Nat.mul_assoc]
          have ht12 := tk12 _ _ ht
          walk_at "go"
          refine r_ixT (.of ht12) hq6 ?_
          walk_at "go"
          refine ⟨q6, p6, rfl, c6.1, w6, by have := c6.2.2.2; omega, by decide, ?_⟩
          walk_at "go"
          refine r_iteD (fun h6 => ?_) (fun h6 => ?_)
          · walk_at "go"
            exact ⟨q6, p6, _, _, _, _, _, _, _, rfl, buT, b12, e7 ▸ c6, by omega⟩
          · walk_at "go"
            exact ⟨q3, p3, _, _, _, _, _, _, _, rfl, buT, b12, ((hc10.tk (Tk.same s11)).tk tk12).mono (by omega), sz3⟩
        · rintro σ H8 ⟨q3, p3, y8, y9, y10, y11, y12, y13, y14, rfl, bu8, b8, _⟩
          exact ⟨_, _, _, _, _, _, _, _, rfl, bu8, b8⟩
      rintro σ' H7 ⟨y7, y8, y9, y10, y11, y12, y13, y14, rfl, bu7, b7⟩
      have hc7 := hc6.tk (Tk.but bu7 b6)
      have hg := (hc7.cuts (by decide)).good
      walk_at "go"
      refine ⟨q, p, rfl, hg, fun u H8 s8 hu => ?_⟩
      walk_at "go"
      refine ⟨u, p.undo, rfl, ⟨hu, Prog.wf_undo hg.2.1, by rw [Prog.len_undo]; exact hg.2.2.1, by rw [Prog.len_undo]; exact hg.2.2.2⟩, fun u2 H9 s9 hu2 => ?_⟩
      rw [Prog.undo_undo hg.2.1] at hu2
      walk_at "go"
      refine ⟨.ref u2, .ref q, rfl, (same_pr4 (d := 12) hu2 (hc7.1.tk (Tk.same (s8.trans s9))) hg.2.1 hg.2.2.2).succ, fun H10 s10 => ?_⟩
      walk_at "go"
      exact ⟨_, _, _, _, _, _, _, _, _, _, _, _, _, _, _, rfl, sm.trans ((Same.but2 s6 nb bu7).trans ((s8.trans s9).trans s10))⟩
    · rintro σ H' ⟨y0, y1, y2, y3, y4, y5, y6, y7, y8, y9, y10, y11, y12, y13, y14, rfl, sm⟩
      walk_at "go"
      exact k H'
end
end My

set_option Elab.async false
set_option linter.all false
set_option maxRecDepth 100000
set_option maxHeartbeats 4000000

namespace My
open PySem PySem.Spec PyProof.Rows L2
structure BlA (mg : Str → Option Value) : Prop where
  b_divmod : mg "divmod" = none
  b_reversed : mg "reversed" = none
theorem all_mk {l : PySem.W.OpenLaw} {w : World} {K : PySem.W.Frag} {h : Heap} {mg : Str → Option Value} {fa f1 f2 f3 f4 f5 f6 f7 f8 f9 f10 f11 f12 f13 f14 f15 f16 f17 f18 f19 f20 f21 f22 f23 f24 f25 f26 f27 f28 f29 f30 f31 f32 f33 : Addr} (X : K.In h) (G : h.Ns mainGlobals mg) (hfa : mg "law" = some (.ref fa))
    {od1 an1 od2 an2 od3 an3 od4 an4 od5 an5 od6 an6 od7 an7 od8 an8 od9 an9 od10 an10 od11 an11 od12 an12 od13 an13 od14 an14 od15 an15 od16 an16 od17 an17 od18 an18 od19 an19 od20 an20 od21 an21 od22 an22 od23 an23 od24 an24 od25 an25 od26 an26 od27 an27 od28 an28 od29 an29 od30 an30 od31 an31 od32 an32 od33 an33 : Option Addr} {sl1 sl2 sl3 sl4 sl5 sl6 sl7 sl8 sl9 sl10 sl11 sl12 sl13 sl14 sl15 sl16 sl17 sl18 sl19 sl20 sl21 sl22 sl23 sl24 sl25 sl26 sl27 sl28 sl29 sl30 sl31 sl32 sl33 : Array (Option Value)} {oc1 kV1 dc1 pm1 cd1 ct1 oc2 kV2 dc2 pm2 cd2 ct2 oc3 kV3 dc3 pm3 cd3 ct3 oc4 kV4 dc4 pm4 cd4 ct4 oc5 kV5 dc5 pm5 cd5 ct5 oc6 kV6 dc6 pm6 cd6 ct6 oc7 kV7 dc7 pm7 cd7 ct7 oc8 kV8 dc8 pm8 cd8 ct8 oc9 kV9 dc9 pm9 cd9 ct9 oc10 kV10 dc10 pm10 cd10 ct10 oc11 kV11 dc11 pm11 cd11 ct11 oc12 kV12 dc12 pm12 cd12 ct12 oc13 kV13 dc13 pm13 cd13 ct13 oc14 kV14 dc14 pm14 cd14 ct14 oc15 kV15 dc15 pm15 cd15 ct15 oc16 kV16 dc16 pm16 cd16 ct16 oc17 kV17 dc17 pm17 cd17 ct17 oc18 kV18 dc18 pm18 cd18 ct18 oc19 kV19 dc19 pm19 cd19 ct19 oc20 kV20 dc20 pm20 cd20 ct20 oc21 kV21 dc21 pm21 cd21 ct21 oc22 kV22 dc22 pm22 cd22 ct22 oc23 kV23 dc23 pm23 cd23 ct23 oc24 kV24 dc24 pm24 cd24 ct24 oc25 kV25 dc25 pm25 cd25 ct25 oc26 kV26 dc26 pm26 cd26 ct26 oc27 kV27 dc27 pm27 cd27 ct27 oc28 kV28 dc28 pm28 cd28 ct28 oc29 kV29 dc29 pm29 cd29 ct29 oc30 kV30 dc30 pm30 cd30 ct30 oc31 kV31 dc31 pm31 cd31 ct31 oc32 kV32 dc32 pm32 cd32 ct32 oc33 kV33 dc33 pm33 cd33 ct33 : Value}
    {dS : Addr} {esS : Array DictEntry} {nS : Nat} {v1S v2S v3S v4S : Value} {dC : Addr} {esC : Array DictEntry} {nC : Nat} {t1C t2C t3C t4C : Tok}
    (a1 : PySem.W.nsIn K mainGlobals "_law_bag_of" = some (some (.ref f1))) (l1 : K.lookup f1 = some ⟨oc1, od1, .func (PySem.W.fnOf "_law_bag_of" "_law_bag_of" (defArgs s_l_bag_of) (defBody s_l_bag_of) (defScope s_l_bag_of) .none kV1 dc1 pm1 an1 cd1 ct1), sl1⟩) (c1 : PySem.W.codeIn K cd1 "_law_bag_of" = true) (k1 : PySem.W.keepIn K (.ref f1) = true)
    (a2 : PySem.W.nsIn K mainGlobals "_law_pick" = some (some (.ref f2))) (l2 : K.lookup f2 = some ⟨oc2, od2, .func (PySem.W.fnOf "_law_pick" "_law_pick" (defArgs s_l_pick) (defBody s_l_pick) (defScope s_l_pick) .none kV2 dc2 pm2 an2 cd2 ct2), sl2⟩) (c2 : PySem.W.codeIn K cd2 "_law_pick" = true) (k2 : PySem.W.keepIn K (.ref f2) = true)
    (a3 : PySem.W.nsIn K mainGlobals "_law_names" = some (some (.ref f3))) (l3 : K.lookup f3 = some ⟨oc3, od3, .func (PySem.W.fnOf "_law_names" "_law_names" (defArgs s_l_names) (defBody s_l_names) (defScope s_l_names) .none kV3 dc3 pm3 an3 cd3 ct3), sl3⟩) (c3 : PySem.W.codeIn K cd3 "_law_names" = true) (k3 : PySem.W.keepIn K (.ref f3) = true)
    (a4 : PySem.W.nsIn K mainGlobals "_law_great_int" = some (some (.ref f4))) (l4 : K.lookup f4 = some ⟨oc4, od4, .func (PySem.W.fnOf "_law_great_int" "_law_great_int" (defArgs s_l_great_int) (defBody s_l_great_int) (defScope s_l_great_int) .none kV4 dc4 pm4 an4 cd4 ct4), sl4⟩) (c4 : PySem.W.codeIn K cd4 "_law_great_int" = true) (k4 : PySem.W.keepIn K (.ref f4) = true)
    (a5 : PySem.W.nsIn K mainGlobals "_law_some_turn" = some (some (.ref f5))) (l5 : K.lookup f5 = some ⟨oc5, od5, .func (PySem.W.fnOf "_law_some_turn" "_law_some_turn" (defArgs s_l_some_turn) (defBody s_l_some_turn) (defScope s_l_some_turn) .none kV5 dc5 pm5 an5 cd5 ct5), sl5⟩) (c5 : PySem.W.codeIn K cd5 "_law_some_turn" = true) (k5 : PySem.W.keepIn K (.ref f5) = true)
    (a6 : PySem.W.nsIn K mainGlobals "_law_some_lots" = some (some (.ref f6))) (l6 : K.lookup f6 = some ⟨oc6, od6, .func (PySem.W.fnOf "_law_some_lots" "_law_some_lots" (defArgs s_l_some_lots) (defBody s_l_some_lots) (defScope s_l_some_lots) .none kV6 dc6 pm6 an6 cd6 ct6), sl6⟩) (c6 : PySem.W.codeIn K cd6 "_law_some_lots" = true) (k6 : PySem.W.keepIn K (.ref f6) = true)
    (a7 : PySem.W.nsIn K mainGlobals "_law_piece" = some (some (.ref f7))) (l7 : K.lookup f7 = some ⟨oc7, od7, .func (PySem.W.fnOf "_law_piece" "_law_piece" (defArgs s_l_piece) (defBody s_l_piece) (defScope s_l_piece) .none kV7 dc7 pm7 an7 cd7 ct7), sl7⟩) (c7 : PySem.W.codeIn K cd7 "_law_piece" = true) (k7 : PySem.W.keepIn K (.ref f7) = true)
    (a8 : PySem.W.nsIn K mainGlobals "_law_wild" = some (some (.ref f8))) (l8 : K.lookup f8 = some ⟨oc8, od8, .func (PySem.W.fnOf "_law_wild" "_law_wild" (defArgs s_l_wild) (defBody s_l_wild) (defScope s_l_wild) .none kV8 dc8 pm8 an8 cd8 ct8), sl8⟩) (c8 : PySem.W.codeIn K cd8 "_law_wild" = true) (k8 : PySem.W.keepIn K (.ref f8) = true)
    (a9 : PySem.W.nsIn K mainGlobals "_law_bulk" = some (some (.ref f9))) (l9 : K.lookup f9 = some ⟨oc9, od9, .func (PySem.W.fnOf "_law_bulk" "_law_bulk" (defArgs s_l_bulk) (defBody s_l_bulk) (defScope s_l_bulk) .none kV9 dc9 pm9 an9 cd9 ct9), sl9⟩) (c9 : PySem.W.codeIn K cd9 "_law_bulk" = true) (k9 : PySem.W.keepIn K (.ref f9) = true)
    (a10 : PySem.W.nsIn K mainGlobals "_law_unroll" = some (some (.ref f10))) (l10 : K.lookup f10 = some ⟨oc10, od10, .func (PySem.W.fnOf "_law_unroll" "_law_unroll" (defArgs s_l_unroll) (defBody s_l_unroll) (defScope s_l_unroll) .none kV10 dc10 pm10 an10 cd10 ct10), sl10⟩) (c10 : PySem.W.codeIn K cd10 "_law_unroll" = true) (k10 : PySem.W.keepIn K (.ref f10) = true)
    (a11 : PySem.W.nsIn K mainGlobals "_law_tame" = some (some (.ref f11))) (l11 : K.lookup f11 = some ⟨oc11, od11, .func (PySem.W.fnOf "_law_tame" "_law_tame" (defArgs s_l_tame) (defBody s_l_tame) (defScope s_l_tame) .none kV11 dc11 pm11 an11 cd11 ct11), sl11⟩) (c11 : PySem.W.codeIn K cd11 "_law_tame" = true) (k11 : PySem.W.keepIn K (.ref f11) = true)
    (a12 : PySem.W.nsIn K mainGlobals "_law_index" = some (some (.ref f12))) (l12 : K.lookup f12 = some ⟨oc12, od12, .func (PySem.W.fnOf "_law_index" "_law_index" (defArgs s_l_index) (defBody s_l_index) (defScope s_l_index) .none kV12 dc12 pm12 an12 cd12 ct12), sl12⟩) (c12 : PySem.W.codeIn K cd12 "_law_index" = true) (k12 : PySem.W.keepIn K (.ref f12) = true)
    (a13 : PySem.W.nsIn K mainGlobals "_law_same_piece" = some (some (.ref f13))) (l13 : K.lookup f13 = some ⟨oc13, od13, .func (PySem.W.fnOf "_law_same_piece" "_law_same_piece" (defArgs s_l_same_piece) (defBody s_l_same_piece) (defScope s_l_same_piece) .none kV13 dc13 pm13 an13 cd13 ct13), sl13⟩) (c13 : PySem.W.codeIn K cd13 "_law_same_piece" = true) (k13 : PySem.W.keepIn K (.ref f13) = true)
    (a14 : PySem.W.nsIn K mainGlobals "_law_is_int" = some (some (.ref f14))) (l14 : K.lookup f14 = some ⟨oc14, od14, .func (PySem.W.fnOf "_law_is_int" "_law_is_int" (defArgs s_l_is_int) (defBody s_l_is_int) (defScope s_l_is_int) .none kV14 dc14 pm14 an14 cd14 ct14), sl14⟩) (c14 : PySem.W.codeIn K cd14 "_law_is_int" = true) (k14 : PySem.W.keepIn K (.ref f14) = true)
    (a15 : PySem.W.nsIn K mainGlobals "_law_is_piece" = some (some (.ref f15))) (l15 : K.lookup f15 = some ⟨oc15, od15, .func (PySem.W.fnOf "_law_is_piece" "_law_is_piece" (defArgs s_l_is_piece) (defBody s_l_is_piece) (defScope s_l_is_piece) .none kV15 dc15 pm15 an15 cd15 ct15), sl15⟩) (c15 : PySem.W.codeIn K cd15 "_law_is_piece" = true) (k15 : PySem.W.keepIn K (.ref f15) = true)
    (a16 : PySem.W.nsIn K mainGlobals "_law_aim" = some (some (.ref f16))) (l16 : K.lookup f16 = some ⟨oc16, od16, .func (PySem.W.fnOf "_law_aim" "_law_aim" (defArgs s_l_aim) (defBody s_l_aim) (defScope s_l_aim) .none kV16 dc16 pm16 an16 cd16 ct16), sl16⟩) (c16 : PySem.W.codeIn K cd16 "_law_aim" = true) (k16 : PySem.W.keepIn K (.ref f16) = true)
    (a17 : PySem.W.nsIn K mainGlobals "_law_command_at" = some (some (.ref f17))) (l17 : K.lookup f17 = some ⟨oc17, od17, .func (PySem.W.fnOf "_law_command_at" "_law_command_at" (defArgs s_l_command_at) (defBody s_l_command_at) (defScope s_l_command_at) .none kV17 dc17 pm17 an17 cd17 ct17), sl17⟩) (c17 : PySem.W.codeIn K cd17 "_law_command_at" = true) (k17 : PySem.W.keepIn K (.ref f17) = true)
    (a18 : PySem.W.nsIn K mainGlobals "_law_alike_at" = some (some (.ref f18))) (l18 : K.lookup f18 = some ⟨oc18, od18, .func (PySem.W.fnOf "_law_alike_at" "_law_alike_at" (defArgs s_l_alike_at) (defBody s_l_alike_at) (defScope s_l_alike_at) .none kV18 dc18 pm18 an18 cd18 ct18), sl18⟩) (c18 : PySem.W.codeIn K cd18 "_law_alike_at" = true) (k18 : PySem.W.keepIn K (.ref f18) = true)
    (a19 : PySem.W.nsIn K mainGlobals "is_command" = some (some (.ref f19))) (l19 : K.lookup f19 = some ⟨oc19, od19, .func (PySem.W.fnOf "is_command" "is_command" (defArgs s_is_command) (defBody s_is_command) (defScope s_is_command) .none kV19 dc19 pm19 an19 cd19 ct19), sl19⟩) (c19 : PySem.W.codeIn K cd19 "is_command" = true) (k19 : PySem.W.keepIn K (.ref f19) = true)
    (a20 : PySem.W.nsIn K mainGlobals "is_integer" = some (some (.ref f20))) (l20 : K.lookup f20 = some ⟨oc20, od20, .func (PySem.W.fnOf "is_integer" "is_integer" (defArgs s_is_integer) (defBody s_is_integer) (defScope s_is_integer) .none kV20 dc20 pm20 an20 cd20 ct20), sl20⟩) (c20 : PySem.W.codeIn K cd20 "is_integer" = true) (k20 : PySem.W.keepIn K (.ref f20) = true)
    (a21 : PySem.W.nsIn K mainGlobals "is_name" = some (some (.ref f21))) (l21 : K.lookup f21 = some ⟨oc21, od21, .func (PySem.W.fnOf "is_name" "is_name" (defArgs s_is_name) (defBody s_is_name) (defScope s_is_name) .none kV21 dc21 pm21 an21 cd21 ct21), sl21⟩) (c21 : PySem.W.codeIn K cd21 "is_name" = true) (k21 : PySem.W.keepIn K (.ref f21) = true)
    (a22 : PySem.W.nsIn K mainGlobals "is_program" = some (some (.ref f22))) (l22 : K.lookup f22 = some ⟨oc22, od22, .func (PySem.W.fnOf "is_program" "is_program" (defArgs s_is_program) (defBody s_is_program) (defScope s_is_program) .none kV22 dc22 pm22 an22 cd22 ct22), sl22⟩) (c22 : PySem.W.codeIn K cd22 "is_program" = true) (k22 : PySem.W.keepIn K (.ref f22) = true)
    (a23 : PySem.W.nsIn K mainGlobals "check_program" = some (some (.ref f23))) (l23 : K.lookup f23 = some ⟨oc23, od23, .func (PySem.W.fnOf "check_program" "check_program" (defArgs s_check_program) (defBody s_check_program) (defScope s_check_program) .none kV23 dc23 pm23 an23 cd23 ct23), sl23⟩) (c23 : PySem.W.codeIn K cd23 "check_program" = true) (k23 : PySem.W.keepIn K (.ref f23) = true)
    (a24 : PySem.W.nsIn K mainGlobals "raw_size" = some (some (.ref f24))) (l24 : K.lookup f24 = some ⟨oc24, od24, .func (PySem.W.fnOf "raw_size" "raw_size" (defArgs s_raw_size) (defBody s_raw_size) (defScope s_raw_size) .none kV24 dc24 pm24 an24 cd24 ct24), sl24⟩) (c24 : PySem.W.codeIn K cd24 "raw_size" = true) (k24 : PySem.W.keepIn K (.ref f24) = true)
    (a25 : PySem.W.nsIn K mainGlobals "check_count" = some (some (.ref f25))) (l25 : K.lookup f25 = some ⟨oc25, od25, .func (PySem.W.fnOf "check_count" "check_count" (defArgs s_check_count) (defBody s_check_count) (defScope s_check_count) .none kV25 dc25 pm25 an25 cd25 ct25), sl25⟩) (c25 : PySem.W.codeIn K cd25 "check_count" = true) (k25 : PySem.W.keepIn K (.ref f25) = true)
    (a26 : PySem.W.nsIn K mainGlobals "parted_command" = some (some (.ref f26))) (l26 : K.lookup f26 = some ⟨oc26, od26, .func (PySem.W.fnOf "parted_command" "parted_command" (defArgs s_parted_command) (defBody s_parted_command) (defScope s_parted_command) .none kV26 dc26 pm26 an26 cd26 ct26), sl26⟩) (c26 : PySem.W.codeIn K cd26 "parted_command" = true) (k26 : PySem.W.keepIn K (.ref f26) = true)
    (a27 : PySem.W.nsIn K mainGlobals "parted_commands" = some (some (.ref f27))) (l27 : K.lookup f27 = some ⟨oc27, od27, .func (PySem.W.fnOf "parted_commands" "parted_commands" (defArgs s_parted_commands) (defBody s_parted_commands) (defScope s_parted_commands) .none kV27 dc27 pm27 an27 cd27 ct27), sl27⟩) (c27 : PySem.W.codeIn K cd27 "parted_commands" = true) (k27 : PySem.W.keepIn K (.ref f27) = true)
    (a28 : PySem.W.nsIn K mainGlobals "parted" = some (some (.ref f28))) (l28 : K.lookup f28 = some ⟨oc28, od28, .func (PySem.W.fnOf "parted" "parted" (defArgs s_parted) (defBody s_parted) (defScope s_parted) .none kV28 dc28 pm28 an28 cd28 ct28), sl28⟩) (c28 : PySem.W.codeIn K cd28 "parted" = true) (k28 : PySem.W.keepIn K (.ref f28) = true)
    (a29 : PySem.W.nsIn K mainGlobals "_law_two" = some (some (.ref f29))) (l29 : K.lookup f29 = some ⟨oc29, od29, .func (PySem.W.fnOf "_law_two" "_law_two" (defArgs s_l_two) (defBody s_l_two) (defScope s_l_two) .none kV29 dc29 pm29 an29 cd29 ct29), sl29⟩) (c29 : PySem.W.codeIn K cd29 "_law_two" = true) (k29 : PySem.W.keepIn K (.ref f29) = true)
    (a30 : PySem.W.nsIn K mainGlobals "_law_tame_right" = some (some (.ref f30))) (l30 : K.lookup f30 = some ⟨oc30, od30, .func (PySem.W.fnOf "_law_tame_right" "_law_tame_right" (defArgs s_l_tame_right) (defBody s_l_tame_right) (defScope s_l_tame_right) .none kV30 dc30 pm30 an30 cd30 ct30), sl30⟩) (c30 : PySem.W.codeIn K cd30 "_law_tame_right" = true) (k30 : PySem.W.keepIn K (.ref f30) = true)
    (a31 : PySem.W.nsIn K mainGlobals "raw_undoing" = some (some (.ref f31))) (l31 : K.lookup f31 = some ⟨oc31, od31, .func (PySem.W.fnOf "raw_undoing" "raw_undoing" (defArgs s_raw_undoing) (defBody s_raw_undoing) (defScope s_raw_undoing) .none kV31 dc31 pm31 an31 cd31 ct31), sl31⟩) (c31 : PySem.W.codeIn K cd31 "raw_undoing" = true) (k31 : PySem.W.keepIn K (.ref f31) = true)
    (a32 : PySem.W.nsIn K mainGlobals "undoing" = some (some (.ref f32))) (l32 : K.lookup f32 = some ⟨oc32, od32, .func (PySem.W.fnOf "undoing" "undoing" (defArgs s_undoing) (defBody s_undoing) (defScope s_undoing) .none kV32 dc32 pm32 an32 cd32 ct32), sl32⟩) (c32 : PySem.W.codeIn K cd32 "undoing" = true) (k32 : PySem.W.keepIn K (.ref f32) = true)
    (a33 : PySem.W.nsIn K mainGlobals "law" = some (some (.ref f33))) (l33 : K.lookup f33 = some ⟨oc33, od33, .func (PySem.W.fnOf "law" "law" (defArgs s_law) (defBody s_law) (defScope s_law) .none kV33 dc33 pm33 an33 cd33 ct33), sl33⟩) (c33 : PySem.W.codeIn K cd33 "law" = true) (k33 : PySem.W.keepIn K (.ref f33) = true)
    (z_all : PySem.W.nsIn K mainGlobals "all" = some none) (z_bool : PySem.W.nsIn K mainGlobals "bool" = some none) (z_divmod : PySem.W.nsIn K mainGlobals "divmod" = some none) (z_int : PySem.W.nsIn K mainGlobals "int" = some none) (z_isinstance : PySem.W.nsIn K mainGlobals "isinstance" = some none) (z_len : PySem.W.nsIn K mainGlobals "len" = some none) (z_list : PySem.W.nsIn K mainGlobals "list" = some none) (z_max : PySem.W.nsIn K mainGlobals "max" = some none) (z_min : PySem.W.nsIn K mainGlobals "min" = some none) (z_range : PySem.W.nsIn K mainGlobals "range" = some none) (z_reversed : PySem.W.nsIn K mainGlobals "reversed" = some none) (z_str : PySem.W.nsIn K mainGlobals "str" = some none) (z_sum : PySem.W.nsIn K mainGlobals "sum" = some none) (z_tuple : PySem.W.nsIn K mainGlobals "tuple" = some none)
    (aS : PySem.W.nsIn K mainGlobals "STEPS" = some (some (.ref dS)))
    (lS : K.lookup dS = some ⟨.type "dict", none, .dict esS nS, #[]⟩)
    (kS : PySem.W.KeysLit w.params esS.toList)
    (oS : (dS == sysModules) = false)
    (e1S : PySem.W.nsIn K dS "go" = some (some v1S))
    (e2S : PySem.W.nsIn K dS "back" = some (some v2S))
    (e3S : PySem.W.nsIn K dS "hop" = some (some v3S))
    (e4S : PySem.W.nsIn K dS "slip" = some (some v4S))
    (aC : PySem.W.nsIn K mainGlobals "CONTRARY" = some (some (.ref dC)))
    (lC : K.lookup dC = some ⟨.type "dict", none, .dict esC nC, #[]⟩)
    (kC : PySem.W.KeysLit w.params esC.toList)
    (e1C : PySem.W.nsIn K dC "go" = some (some (.str "back" t1C)))
    (e2C : PySem.W.nsIn K dC "back" = some (some (.str "go" t2C)))
    (e3C : PySem.W.nsIn K dC "hop" = some (some (.str "slip" t3C)))
    (e4C : PySem.W.nsIn K dC "slip" = some (some (.str "hop" t4C)))
    : ∃ fd : FuncData, (∀ (s : Shared) (v : Value), BindsTo s fd ⟨[v], []⟩ [("_law_script", v)]) ∧ ∀ base : Heap, K.In base → base.Ns mainGlobals mg → FnOk l.prog w K mg base CX0 44 fa fd ["_law_script"] (spLaw K) := by
  cases (hfa.symm.trans (PySem.W.mg_of X G a33))
  have F_l_bag_of := fun_mk (st := s_l_bag_of) l1 c1 k1
  have b_l_bag_of := F_l_bag_of.binds (ps := ["_law_cell"]) fun _ _ _ _ _ _ us hl => match us, hl with | [_], _ => rfl
  have F_l_pick := fun_mk (st := s_l_pick) l2 c2 k2
  have b_l_pick := F_l_pick.binds (ps := ["_law_bag", "_law_many"]) fun _ _ _ _ _ _ us hl => match us, hl with | [_, _], _ => rfl
  have F_l_names := fun_mk (st := s_l_names) l3 c3 k3
  have b_l_names := F_l_names.binds (ps := ["_law_bag"]) fun _ _ _ _ _ _ us hl => match us, hl with | [_], _ => rfl
  have F_l_great_int := fun_mk (st := s_l_great_int) l4 c4 k4
  have b_l_great_int := F_l_great_int.binds (ps := ["_law_bag", "_law_digits"]) fun _ _ _ _ _ _ us hl => match us, hl with | [_, _], _ => rfl
  have F_l_some_turn := fun_mk (st := s_l_some_turn) l5 c5 k5
  have b_l_some_turn := F_l_some_turn.binds (ps := ["_law_bag", "_law_wild_here"]) fun _ _ _ _ _ _ us hl => match us, hl with | [_, _], _ => rfl
  have F_l_some_lots := fun_mk (st := s_l_some_lots) l6 c6 k6
  have b_l_some_lots := F_l_some_lots.binds (ps := ["_law_bag", "_law_free", "_law_wild_here"]) fun _ _ _ _ _ _ us hl => match us, hl with | [_, _, _], _ => rfl
  have F_l_piece := fun_mk (st := s_l_piece) l7 c7 k7
  have b_l_piece := F_l_piece.binds (ps := ["_law_bag", "_law_pot", "_law_deep", "_law_free", "_law_wild_here"]) fun _ _ _ _ _ _ us hl => match us, hl with | [_, _, _, _, _], _ => rfl
  have F_l_wild := fun_mk (st := s_l_wild) l8 c8 k8
  have b_l_wild := F_l_wild.binds (ps := ["_law_bag", "_law_room", "_law_names_here"]) fun _ _ _ _ _ _ us hl => match us, hl with | [_, _, _], _ => rfl
  have F_l_bulk := fun_mk (st := s_l_bulk) l9 c9 k9
  have b_l_bulk := F_l_bulk.binds (ps := ["_law_piece_here"]) fun _ _ _ _ _ _ us hl => match us, hl with | [_], _ => rfl
  have F_l_unroll := fun_mk (st := s_l_unroll) l10 c10 k10
  have b_l_unroll := F_l_unroll.binds (ps := ["_law_piece_here", "_law_sign"]) fun _ _ _ _ _ _ us hl => match us, hl with | [_, _], _ => rfl
  have F_l_tame := fun_mk (st := s_l_tame) l11 c11 k11
  have b_l_tame := F_l_tame.binds (ps := ["_law_bag", "_law_names_here"]) fun _ _ _ _ _ _ us hl => match us, hl with | [_, _], _ => rfl
  have F_l_index := fun_mk (st := s_l_index) l12 c12 k12
  have b_l_index := F_l_index.binds (ps := ["_law_bag", "_law_bulk_here"]) fun _ _ _ _ _ _ us hl => match us, hl with | [_, _], _ => rfl
  have F_l_same_piece := fun_mk (st := s_l_same_piece) l13 c13 k13
  have b_l_same_piece := F_l_same_piece.binds (ps := ["_law_found", "_law_due"]) fun _ _ _ _ _ _ us hl => match us, hl with | [_, _], _ => rfl
  have F_l_is_int := fun_mk (st := s_l_is_int) l14 c14 k14
  have b_l_is_int := F_l_is_int.binds (ps := ["_law_thing"]) fun _ _ _ _ _ _ us hl => match us, hl with | [_], _ => rfl
  have F_l_is_piece := fun_mk (st := s_l_is_piece) l15 c15 k15
  have b_l_is_piece := F_l_is_piece.binds (ps := ["_law_thing"]) fun _ _ _ _ _ _ us hl => match us, hl with | [_], _ => rfl
  have F_l_aim := fun_mk (st := s_l_aim) l16 c16 k16
  have b_l_aim := F_l_aim.binds (ps := ["_law_piece_here"]) fun _ _ _ _ _ _ us hl => match us, hl with | [_], _ => rfl
  have F_l_command_at := fun_mk (st := s_l_command_at) l17 c17 k17
  have b_l_command_at := F_l_command_at.binds (ps := ["_law_piece_here", "_law_at", "_law_sign"]) fun _ _ _ _ _ _ us hl => match us, hl with | [_, _, _], _ => rfl
  have F_l_alike_at := fun_mk (st := s_l_alike_at) l18 c18 k18
  have b_l_alike_at := F_l_alike_at.binds (ps := ["_law_piece_here", "_law_first", "_law_second", "_law_lots", "_law_spots"]) fun _ _ _ _ _ _ us hl => match us, hl with | [_, _, _, _, _], _ => rfl
  have F_is_command := fun_mk (st := s_is_command) l19 c19 k19
  have b_is_command := F_is_command.binds (ps := ["value"]) fun _ _ _ _ _ _ us hl => match us, hl with | [_], _ => rfl
  have F_is_integer := fun_mk (st := s_is_integer) l20 c20 k20
  have b_is_integer := F_is_integer.binds (ps := ["value"]) fun _ _ _ _ _ _ us hl => match us, hl with | [_], _ => rfl
  have F_is_name := fun_mk (st := s_is_name) l21 c21 k21
  have b_is_name := F_is_name.binds (ps := ["value"]) fun _ _ _ _ _ _ us hl => match us, hl with | [_], _ => rfl
  have F_is_program := fun_mk (st := s_is_program) l22 c22 k22
  have b_is_program := F_is_program.binds (ps := ["value"]) fun _ _ _ _ _ _ us hl => match us, hl with | [_], _ => rfl
  have F_check_program := fun_mk (st := s_check_program) l23 c23 k23
  have b_check_program := F_check_program.binds (ps := ["value"]) fun _ _ _ _ _ _ us hl => match us, hl with | [_], _ => rfl
  have F_raw_size := fun_mk (st := s_raw_size) l24 c24 k24
  have b_raw_size := F_raw_size.binds (ps := ["program"]) fun _ _ _ _ _ _ us hl => match us, hl with | [_], _ => rfl
  have F_check_count := fun_mk (st := s_check_count) l25 c25 k25
  have b_check_count := F_check_count.binds (ps := ["program", "value"]) fun _ _ _ _ _ _ us hl => match us, hl with | [_, _], _ => rfl
  have F_parted_command := fun_mk (st := s_parted_command) l26 c26 k26
  have b_parted_command := F_parted_command.binds (ps := ["command", "count"]) fun _ _ _ _ _ _ us hl => match us, hl with | [_, _], _ => rfl
  have F_parted_commands := fun_mk (st := s_parted_commands) l27 c27 k27
  have b_parted_commands := F_parted_commands.binds (ps := ["program", "count"]) fun _ _ _ _ _ _ us hl => match us, hl with | [_, _], _ => rfl
  have F_parted := fun_mk (st := s_parted) l28 c28 k28
  have b_parted := F_parted.binds (ps := ["program", "count"]) fun _ _ _ _ _ _ us hl => match us, hl with | [_, _], _ => rfl
  have F_l_two := fun_mk (st := s_l_two) l29 c29 k29
  have b_l_two := F_l_two.binds (ps := ["_law_piece_here", "_law_lots", "_law_spots"]) fun _ _ _ _ _ _ us hl => match us, hl with | [_, _, _], _ => rfl
  have F_l_tame_right := fun_mk (st := s_l_tame_right) l30 c30 k30
  have b_l_tame_right := F_l_tame_right.binds (ps := ["_law_bag", "_law_piece_here"]) fun _ _ _ _ _ _ us hl => match us, hl with | [_, _], _ => rfl
  have F_raw_undoing := fun_mk (st := s_raw_undoing) l31 c31 k31
  have b_raw_undoing := F_raw_undoing.binds (ps := ["program"]) fun _ _ _ _ _ _ us hl => match us, hl with | [_], _ => rfl
  have F_undoing := fun_mk (st := s_undoing) l32 c32 k32
  have b_undoing := F_undoing.binds (ps := ["program"]) fun _ _ _ _ _ _ us hl => match us, hl with | [_], _ => rfl
  have F_law := fun_mk (st := s_law) l33 c33 k33
  have B_Bl : Bl mg := ⟨PySem.W.mg_none_of X G z_isinstance, PySem.W.mg_none_of X G z_int, PySem.W.mg_none_of X G z_bool, PySem.W.mg_none_of X G z_str, PySem.W.mg_none_of X G z_tuple, PySem.W.mg_none_of X G z_list, PySem.W.mg_none_of X G z_len, PySem.W.mg_none_of X G z_all, PySem.W.mg_none_of X G z_range, PySem.W.mg_none_of X G z_sum, PySem.W.mg_none_of X G z_max, PySem.W.mg_none_of X G z_min⟩
  have B_BlA : BlA mg := ⟨PySem.W.mg_none_of X G z_divmod, PySem.W.mg_none_of X G z_reversed⟩
  refine ⟨PySem.W.fnOf "law" "law" (defArgs s_law) (defBody s_law) (defScope s_law) .none kV33 dc33 pm33 an33 cd33 ct33, fun s v => .of_eq rfl, fun base _ _ => ?_⟩
  have S : StepsAt K w mg := ⟨dS, esS, nS, ⟨lS, kS, oS⟩, PySem.W.mg_of X G aS, fun x hx => hx.elim (fun h => ⟨_, h ▸ e1S⟩) fun hx => hx.elim (fun h => ⟨_, h ▸ e2S⟩) fun hx => hx.elim (fun h => ⟨_, h ▸ e3S⟩) fun h => ⟨_, h ▸ e4S⟩⟩
  have C : ContrAt K w mg := ⟨dC, PySem.W.mg_of X G aC, fun x hx => by
    rcases hx with rfl | rfl | rfl | rfl
    · exact ⟨esC, nC, _, lC, kC, e1C, ⟨_, rfl⟩⟩
    · exact ⟨esC, nC, _, lC, kC, e2C, ⟨_, rfl⟩⟩
    · exact ⟨esC, nC, _, lC, kC, e3C, ⟨_, rfl⟩⟩
    · exact ⟨esC, nC, _, lC, kC, e4C, ⟨_, rfl⟩⟩⟩
  have g_l_bag_of := PySem.W.mg_of X G a1
  have g_l_pick := PySem.W.mg_of X G a2
  have g_l_names := PySem.W.mg_of X G a3
  have g_l_great_int := PySem.W.mg_of X G a4
  have g_l_some_turn := PySem.W.mg_of X G a5
  have g_l_some_lots := PySem.W.mg_of X G a6
  have g_l_piece := PySem.W.mg_of X G a7
  have g_l_wild := PySem.W.mg_of X G a8
  have g_l_bulk := PySem.W.mg_of X G a9
  have g_l_unroll := PySem.W.mg_of X G a10
  have g_l_tame := PySem.W.mg_of X G a11
  have g_l_index := PySem.W.mg_of X G a12
  have g_l_same_piece := PySem.W.mg_of X G a13
  have g_l_is_int := PySem.W.mg_of X G a14
  have g_l_is_piece := PySem.W.mg_of X G a15
  have g_l_aim := PySem.W.mg_of X G a16
  have g_l_command_at := PySem.W.mg_of X G a17
  have g_l_alike_at := PySem.W.mg_of X G a18
  have g_is_command := PySem.W.mg_of X G a19
  have g_is_integer := PySem.W.mg_of X G a20
  have g_is_name := PySem.W.mg_of X G a21
  have g_is_program := PySem.W.mg_of X G a22
  have g_check_program := PySem.W.mg_of X G a23
  have g_raw_size := PySem.W.mg_of X G a24
  have g_check_count := PySem.W.mg_of X G a25
  have g_parted_command := PySem.W.mg_of X G a26
  have g_parted_commands := PySem.W.mg_of X G a27
  have g_parted := PySem.W.mg_of X G a28
  have g_l_two := PySem.W.mg_of X G a29
  have g_l_tame_right := PySem.W.mg_of X G a30
  have g_raw_undoing := PySem.W.mg_of X G a31
  have g_undoing := PySem.W.mg_of X G a32
  have g_law := PySem.W.mg_of X G a33
  have h_l_bag_of : Has l.prog w K mg base "_law_bag_of" 1 ["_law_cell"] spBagOf := ⟨_, _, ok_l_bag_of F_l_bag_of B_Bl, PySem.W.mg_of X G a1, k1, b_l_bag_of⟩
  have h_l_pick : Has l.prog w K mg base "_law_pick" 1 ["_law_bag", "_law_many"] spPick := ⟨_, _, ok_l_pick F_l_pick B_Bl, PySem.W.mg_of X G a2, k2, b_l_pick⟩
  have h_l_names : Has l.prog w K mg base "_law_names" 2 ["_law_bag"] spNames := ⟨_, _, ok_l_names F_l_names B_Bl h_l_pick, PySem.W.mg_of X G a3, k3, b_l_names⟩
  have h_l_great_int : Has l.prog w K mg base "_law_great_int" 2 ["_law_bag", "_law_digits"] spGreat := ⟨_, _, ok_l_great_int F_l_great_int B_Bl h_l_pick, PySem.W.mg_of X G a4, k4, b_l_great_int⟩
  have h_l_some_turn : Has l.prog w K mg base "_law_some_turn" 3 ["_law_bag", "_law_wild_here"] spTurn := ⟨_, _, ok_l_some_turn F_l_some_turn B_Bl h_l_pick h_l_great_int, PySem.W.mg_of X G a5, k5, b_l_some_turn⟩
  have h_l_some_lots : Has l.prog w K mg base "_law_some_lots" 3 ["_law_bag", "_law_free", "_law_wild_here"] spLots := ⟨_, _, ok_l_some_lots F_l_some_lots B_Bl h_l_pick h_l_great_int, PySem.W.mg_of X G a6, k6, b_l_some_lots⟩
  have h_l_piece : Has l.prog w K mg base "_law_piece" 9 ["_law_bag", "_law_pot", "_law_deep", "_law_free", "_law_wild_here"] spPiece := ⟨_, _, ok_l_piece_any F_l_piece g_l_piece b_l_piece B_Bl h_l_pick h_l_some_turn h_l_some_lots, PySem.W.mg_of X G a7, k7, b_l_piece⟩
  have h_l_wild : Has l.prog w K mg base "_law_wild" 10 ["_law_bag", "_law_room", "_law_names_here"] spWild := ⟨_, _, ok_l_wild F_l_wild B_Bl h_l_pick h_l_piece, PySem.W.mg_of X G a8, k8, b_l_wild⟩
  have h_l_bulk : Has l.prog w K mg base "_law_bulk" 13 ["_law_piece_here"] (spNumLt Prog.size 13) := has_bulk F_l_bulk g_l_bulk b_l_bulk 13
  have h_l_unroll : Has l.prog w K mg base "_law_unroll" 13 ["_law_piece_here", "_law_sign"] (spUnLt 13) := has_unroll F_l_unroll B_Bl g_l_unroll b_l_unroll 13
  have h_l_tame : Has l.prog w K mg base "_law_tame" 14 ["_law_bag", "_law_names_here"] spTame := ⟨_, _, ok_l_tame F_l_tame B_Bl h_l_pick h_l_piece h_l_bulk h_l_unroll, PySem.W.mg_of X G a11, k11, b_l_tame⟩
  have h_l_index : Has l.prog w K mg base "_law_index" 3 ["_law_bag", "_law_bulk_here"] spIndex := ⟨_, _, ok_l_index F_l_index B_Bl h_l_pick h_l_great_int, PySem.W.mg_of X G a12, k12, b_l_index⟩
  have h_l_same_piece : Has l.prog w K mg base "_law_same_piece" 28 ["_law_found", "_law_due"] (spSame 28) := has_same F_l_same_piece B_Bl g_l_same_piece b_l_same_piece 28
  have h_l_is_int : Has l.prog w K mg base "_law_is_int" 1 ["_law_thing"] spIsInt := ⟨_, _, ok_l_is_int F_l_is_int B_Bl, PySem.W.mg_of X G a14, k14, b_l_is_int⟩
  have h_l_is_piece : Has l.prog w K mg base "_law_is_piece" 14 ["_law_thing"] (spIsPc 13) := has_isPiece F_l_is_piece B_Bl h_l_is_int g_l_is_piece b_l_is_piece 13
  have h_l_aim : Has l.prog w K mg base "_law_aim" 13 ["_law_piece_here"] (spNumLt Prog.head 13) := has_aim F_l_aim g_l_aim b_l_aim 13
  have h_l_command_at : Has l.prog w K mg base "_law_command_at" 26 ["_law_piece_here", "_law_at", "_law_sign"] (spCmdAt 13) := has_cmdAt F_l_command_at B_Bl h_l_bulk g_l_command_at b_l_command_at 13
  have h_l_alike_at : Has l.prog w K mg base "_law_alike_at" 29 ["_law_piece_here", "_law_first", "_law_second", "_law_lots", "_law_spots"] spAlikeAt := ⟨_, _, ok_l_alike_at F_l_alike_at h_l_command_at h_l_same_piece, PySem.W.mg_of X G a18, k18, b_l_alike_at⟩
  have h_is_integer : Has l.prog w K mg base "is_integer" 1 ["value"] spIsInt := ⟨_, _, ok_is_integer F_is_integer B_Bl, PySem.W.mg_of X G a20, k20, b_is_integer⟩
  have h_is_name : Has l.prog w K mg base "is_name" 1 ["value"] spIsName := ⟨_, _, ok_is_name F_is_name B_Bl, PySem.W.mg_of X G a21, k21, b_is_name⟩
  have h_is_program : Has l.prog w K mg base "is_program" 27 ["value"] (spIsPr 12) := has_pr F_is_command F_is_program B_Bl S h_is_integer h_is_name g_is_command g_is_program b_is_command b_is_program 13
  have h_check_program : Has l.prog w K mg base "check_program" 28 ["value"] spCheckPr := ⟨_, _, ok_check_program F_check_program h_is_program, PySem.W.mg_of X G a23, k23, b_check_program⟩
  have h_raw_size : Has l.prog w K mg base "raw_size" 13 ["program"] (spNumLt Prog.size 13) := has_size F_raw_size g_raw_size b_raw_size 13
  have h_check_count : Has l.prog w K mg base "check_count" 14 ["program", "value"] spCheckCountN := ⟨_, _, ok_check_count F_check_count h_is_integer h_raw_size, PySem.W.mg_of X G a25, k25, b_check_count⟩
  have h_parted_commands : Has l.prog w K mg base "parted_commands" 40 ["program", "count"] (spPcs 13) := has_pcs F_parted_command F_parted_commands B_Bl B_BlA.b_divmod h_raw_size g_parted_command g_parted_commands b_parted_command b_parted_commands 13
  have h_parted : Has l.prog w K mg base "parted" 41 ["program", "count"] spPartedN := ⟨_, _, ok_parted F_parted B_Bl h_check_program h_check_count h_raw_size h_parted_commands, PySem.W.mg_of X G a28, k28, b_parted⟩
  have hkr_parted : HasKR l.prog w K mg base "parted" 41 ["program", "count"] ["count", "program"] spPartedN := ⟨_, _, ok_parted F_parted B_Bl h_check_program h_check_count h_raw_size h_parted_commands, PySem.W.mg_of X G a28, k28, kbindsR (fun ws hl => match ws, hl with | [_, _], _ => rfl) (by simp)⟩
  have h_l_two : Has l.prog w K mg base "_law_two" 42 ["_law_piece_here", "_law_lots", "_law_spots"] spTwo := ⟨_, _, ok_l_two F_l_two B_Bl h_l_is_piece h_l_bulk h_l_aim h_l_same_piece h_l_alike_at h_parted hkr_parted, PySem.W.mg_of X G a29, k29, b_l_two⟩
  have h_l_tame_right : Has l.prog w K mg base "_law_tame_right" 43 ["_law_bag", "_law_piece_here"] spTameRight := ⟨_, _, ok_l_tame_right F_l_tame_right B_Bl h_l_pick h_l_unroll h_l_same_piece h_l_two, PySem.W.mg_of X G a30, k30, b_l_tame_right⟩
  have h_raw_undoing : Has l.prog w K mg base "raw_undoing" 13 ["program"] (spUndoLt 13) := has_raw_undoing F_raw_undoing B_Bl B_BlA.b_reversed C g_raw_undoing b_raw_undoing 13
  have h_undoing : Has l.prog w K mg base "undoing" 29 ["program"] spUndo := ⟨_, _, ok_undoing F_undoing h_check_program h_raw_undoing, PySem.W.mg_of X G a32, k32, b_undoing⟩
  exact ok_law F_law B_Bl h_l_bag_of h_l_pick h_l_names h_l_wild h_l_tame h_l_bulk h_l_index h_l_same_piece h_l_two h_l_tame_right h_undoing
end My
open PySem PySem.W PyProof.Rows
set_option maxRecDepth 100000 in
set_option maxHeartbeats 0 in
theorem PySem.Challenge.cw_everyangle_k22_whole_parted_holds : PySem.Challenge.rw_everyangle_k22_whole_parted.Holds := by
  w_on; o_law; k_head; (case hw => w_witness2)
  k_fill
  refine L2.walk_of (l := PySem.Challenge.rw_everyangle_k22_whole_parted) (n := 63) (k := 44) (x := "_law_script") (CX := fun _ => L2.CX0) (sp := fun w => My.spLaw _) rfl (by decide) rfl ⟨rfl, by decide, by decide⟩ (fun w h Y => PySem.W.kIn_of Y) ?F (fun _ _ a ns hl _ hS => ⟨a, ns, rfl, hS, hl, fun _ => rfl⟩) (fun _ _ _ _ _ h => h)
  case F =>
    intro w mg fa h KX G hmg
    refine' My.all_mk KX G hmg ?a1 ?l1 ?c1 ?k1 ?a2 ?l2 ?c2 ?k2 ?a3 ?l3 ?c3 ?k3 ?a4 ?l4 ?c4 ?k4 ?a5 ?l5 ?c5 ?k5 ?a6 ?l6 ?c6 ?k6 ?a7 ?l7 ?c7 ?k7 ?a8 ?l8 ?c8 ?k8 ?a9 ?l9 ?c9 ?k9 ?a10 ?l10 ?c10 ?k10 ?a11 ?l11 ?c11 ?k11 ?a12 ?l12 ?c12 ?k12 ?a13 ?l13 ?c13 ?k13 ?a14 ?l14 ?c14 ?k14 ?a15 ?l15 ?c15 ?k15 ?a16 ?l16 ?c16 ?k16 ?a17 ?l17 ?c17 ?k17 ?a18 ?l18 ?c18 ?k18 ?a19 ?l19 ?c19 ?k19 ?a20 ?l20 ?c20 ?k20 ?a21 ?l21 ?c21 ?k21 ?a22 ?l22 ?c22 ?k22 ?a23 ?l23 ?c23 ?k23 ?a24 ?l24 ?c24 ?k24 ?a25 ?l25 ?c25 ?k25 ?a26 ?l26 ?c26 ?k26 ?a27 ?l27 ?c27 ?k27 ?a28 ?l28 ?c28 ?k28 ?a29 ?l29 ?c29 ?k29 ?a30 ?l30 ?c30 ?k30 ?a31 ?l31 ?c31 ?k31 ?a32 ?l32 ?c32 ?k32 ?a33 ?l33 ?c33 ?k33 ?z_all ?z_bool ?z_divmod ?z_int ?z_isinstance ?z_len ?z_list ?z_max ?z_min ?z_range ?z_reversed ?z_str ?z_sum ?z_tuple ?aS ?lS ?kS ?oS ?e1S ?e2S ?e3S ?e4S ?aC ?lC ?kC ?e1C ?e2C ?e3C ?e4C
    (case a1 => k_is); (case l1 => k_is); (case c1 => k_is); (case k1 => k_is); (case a2 => k_is); (case l2 => k_is); (case c2 => k_is); (case k2 => k_is); (case a3 => k_is); (case l3 => k_is); (case c3 => k_is); (case k3 => k_is); (case a4 => k_is); (case l4 => k_is); (case c4 => k_is); (case k4 => k_is); (case a5 => k_is); (case l5 => k_is); (case c5 => k_is); (case k5 => k_is); (case a6 => k_is); (case l6 => k_is); (case c6 => k_is); (case k6 => k_is); (case a7 => k_is); (case l7 => k_is); (case c7 => k_is); (case k7 => k_is); (case a8 => k_is); (case l8 => k_is); (case c8 => k_is); (case k8 => k_is); (case a9 => k_is); (case l9 => k_is); (case c9 => k_is); (case k9 => k_is); (case a10 => k_is); (case l10 => k_is); (case c10 => k_is); (case k10 => k_is); (case a11 => k_is); (case l11 => k_is); (case c11 => k_is); (case k11 => k_is); (case a12 => k_is); (case l12 => k_is); (case c12 => k_is); (case k12 => k_is); (case a13 => k_is); (case l13 => k_is); (case c13 => k_is); (case k13 => k_is); (case a14 => k_is); (case l14 => k_is); (case c14 => k_is); (case k14 => k_is); (case a15 => k_is); (case l15 => k_is); (case c15 => k_is); (case k15 => k_is); (case a16 => k_is); (case l16 => k_is); (case c16 => k_is); (case k16 => k_is); (case a17 => k_is); (case l17 => k_is); (case c17 => k_is); (case k17 => k_is); (case a18 => k_is); (case l18 => k_is); (case c18 => k_is); (case k18 => k_is); (case a19 => k_is); (case l19 => k_is); (case c19 => k_is); (case k19 => k_is); (case a20 => k_is); (case l20 => k_is); (case c20 => k_is); (case k20 => k_is); (case a21 => k_is); (case l21 => k_is); (case c21 => k_is); (case k21 => k_is); (case a22 => k_is); (case l22 => k_is); (case c22 => k_is); (case k22 => k_is); (case a23 => k_is); (case l23 => k_is); (case c23 => k_is); (case k23 => k_is); (case a24 => k_is); (case l24 => k_is); (case c24 => k_is); (case k24 => k_is); (case a25 => k_is); (case l25 => k_is); (case c25 => k_is); (case k25 => k_is); (case a26 => k_is); (case l26 => k_is); (case c26 => k_is); (case k26 => k_is); (case a27 => k_is); (case l27 => k_is); (case c27 => k_is); (case k27 => k_is); (case a28 => k_is); (case l28 => k_is); (case c28 => k_is); (case k28 => k_is); (case a29 => k_is); (case l29 => k_is); (case c29 => k_is); (case k29 => k_is); (case a30 => k_is); (case l30 => k_is); (case c30 => k_is); (case k30 => k_is); (case a31 => k_is); (case l31 => k_is); (case c31 => k_is); (case k31 => k_is); (case a32 => k_is); (case l32 => k_is); (case c32 => k_is); (case k32 => k_is); (case a33 => k_is); (case l33 => k_is); (case c33 => k_is); (case k33 => k_is); (case z_all => k_is); (case z_bool => k_is); (case z_divmod => k_is); (case z_int => k_is); (case z_isinstance => k_is); (case z_len => k_is); (case z_list => k_is); (case z_max => k_is); (case z_min => k_is); (case z_range => k_is); (case z_reversed => k_is); (case z_str => k_is); (case z_sum => k_is); (case z_tuple => k_is); (case aS => k_is); (case lS => k_is); (case kS => k_keys); (case oS => decide); (case e1S => k_is); (case e2S => k_is); (case e3S => k_is); (case e4S => k_is); (case aC => k_is); (case lC => k_is); (case kC => k_keys); (case e1C => k_is); (case e2C => k_is); (case e3C => k_is); (case e4C => k_is)
