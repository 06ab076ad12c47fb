import PyProof.Rows.All
import Wide.All
import OpenK.AllK
import Wide.FinOn
import HandS.ForExc
import HandS.ForMost
import HandS.Flow
import HandS.Steps
import HandS.Evl
import HandS.IsInst
import HandS.TupLe
import HandS.More
import HandS.Conv
import HandS.TryMany
import PySem.Challenge.RW_passring_k02_a_station
set_option Elab.async false
set_option linter.all false
set_option maxRecDepth 100000
set_option maxHeartbeats 4000000
/-! part pa_eval: small-step rules for readings (own work) -/
namespace PR
open PySem L2
section
variable {K : PySem.W.Frag} {σ : St} {H : Hp} {Q : VK} {ta tb tc : TE} {f : Str} {a C dx : Addr} {fs : List (Str × V)} {v x y : V} {i : Nat}
/-! values -/
theorem r_var (h : σ[i]? = some (some v)) (q : Q v H) : tVar i σ H Q := ⟨v, h, q⟩
theorem r_c (q : Q v H) : tC v σ H Q := q
def kFld (K : PySem.W.Frag) (f : Str) (Q : VK) : VK := fun x H1 => ∃ a C dx fs v, x = .ref a ∧ H1 a = some (.ins C dx fs) ∧ Cls K C ∧ NoAttr K C f ∧ fs.lookup f = some v ∧ Q v H1
theorem r_fld (h : ta σ H (kFld K f Q)) : tFld K ta f σ H Q := h
theorem r_fldK (h1 : H a = some (.ins C dx fs)) (h2 : Cls K C) (h3 : NoAttr K C f) (h4 : fs.lookup f = some v) (q : Q v H) : kFld K f Q (.ref a) H := ⟨a, C, dx, fs, v, rfl, h1, h2, h3, h4, q⟩
theorem r_op {r : R2} (h : ta σ H fun x H1 => tb σ H1 fun y H2 => r x y H2 Q) : tOp r ta tb σ H Q := h
theorem r_un {r : V → Hp → VK → Prop} (h : ta σ H fun x H1 => r x H1 Q) : tUn r ta σ H Q := h
theorem r_I0 {g : Int → Int → V} {i j : Int} (q : Q (g i j) H) : rI0 g (.int i) (.int j) H Q := ⟨i, j, rfl, rfl, q⟩
theorem r_I {c : Int → Int → Prop} {g : Int → Int → V} {i j : Int} (h : c i j) (q : Q (g i j) H) : rI c g (.int i) (.int j) H Q := ⟨i, j, rfl, rfl, h, q⟩
theorem r_U {g : Int → V} {i : Int} (q : Q (g i) H) : rU g (.int i) H Q := ⟨i, rfl, q⟩
theorem r_eq (h : scal x y = true) (q : Q (.bl (decide (x = y))) H) : rEq x y H Q := ⟨h, q⟩
theorem r_ne (h : scal x y = true) (q : Q (.bl (!decide (x = y))) H) : rNe x y H Q := ⟨h, q⟩
theorem r_isN (q : Q (.bl (decide (x = .non))) H) : rIsN x .non H Q := ⟨rfl, q⟩
theorem r_notN (q : Q (.bl (!decide (x = .non))) H) : rNotN x .non H Q := ⟨rfl, q⟩
theorem r_ixL {p : Addr} {xs : List V} {i : Int} (h : SqL K H p xs) (e : atI xs i = some v) (q : Q v H) : rIxL K (.ref p) (.int i) H Q := ⟨p, xs, i, v, rfl, rfl, h, e, q⟩
theorem r_ixT {p : Addr} {xs : List V} {i : Int} (h : SqT K H p xs) (e : atI xs i = some v) (q : Q v H) : rIxT K (.ref p) (.int i) H Q := ⟨p, xs, i, v, rfl, rfl, h, e, q⟩
theorem r_tup {t : TA} (h : t σ H fun xs H1 => xs.length ≤ sizeLine ∧ ∀ p, H1 p = none → Q (.ref p) (upd H1 p (.tup xs))) : tTup t σ H Q := h
theorem r_lst {t : TA} (h : t σ H fun xs H1 => xs.length ≤ sizeLine ∧ ∀ p, H1 p = none → Q (.ref p) (upd H1 p (.lst xs))) : tLst t σ H Q := h
theorem r_nil {Q : List V → Hp → Prop} (q : Q [] H) : tNil σ H Q := q
theorem r_cons {tr : TA} {Q : List V → Hp → Prop} (h : ta σ H fun x H1 => tr σ H1 fun xs H2 => Q (x :: xs) H2) : tCons ta tr σ H Q := h
theorem r_call {sp : Sp} {dvs : List V} {E : XK} {t : TA} (h : t σ H fun vs H1 => sp (vs ++ dvs) H1 Q E) : tCall sp dvs E t σ H Q := h
def kMeth (C : Addr) (m : Str) (sp : Sp) (dvs : List V) (E : XK) (t : TA) (σ : St) (Q : VK) : VK := fun x H1 => ∃ a dx fs, x = .ref a ∧ H1 a = some (.ins C dx fs) ∧ fs.lookup m = none ∧ t σ H1 fun vs H2 => sp (x :: (vs ++ dvs)) H2 Q E
theorem r_meth {m : Str} {sp : Sp} {dvs : List V} {E : XK} {t : TA} (h : ta σ H (kMeth C m sp dvs E t σ Q)) : tMeth C m sp dvs E ta t σ H Q := h
theorem r_methK {m : Str} {sp : Sp} {dvs : List V} {E : XK} {t : TA} (h1 : H a = some (.ins C dx fs)) (h2 : fs.lookup m = none) (q : t σ H fun vs H2 => sp (.ref a :: (vs ++ dvs)) H2 Q E) : kMeth C m sp dvs E t σ Q (.ref a) H := ⟨a, dx, fs, rfl, h1, h2, q⟩
theorem r_make {sp : Sp} {dvs : List V} {E : XK} {t : TA} (h : t σ H fun vs H1 => ∀ x dx, H1 x = none → H1 dx = none → dx ≠ x →
  sp (.ref x :: (vs ++ dvs)) (upd (upd H1 dx (.own x)) x (.ins C dx [])) (fun v H2 => v = .non ∧ Q (.ref x) H2) E) : tMake C sp dvs E t σ H Q := h
theorem r_cb {r : List V → Hp → VK → Prop} {t : TA} (h : t σ H fun vs H1 => r vs H1 Q) : tCB r t σ H Q := h
theorem r_bm0L {id : V → List V → Hp → VK → Prop} {p : Addr} {xs : List V} (h : SqL K H p xs) (q : id (.ref p) [] H Q) : tyV K "list" (.ref p) H ∧ id (.ref p) [] H Q := ⟨.inl ⟨rfl, xs, h⟩, q⟩
theorem r_bm0 {T : String} {r : V → List V → Hp → VK → Prop} (h : ta σ H fun x H1 => tyV K T x H1 ∧ r x [] H1 Q) : tBM0 K T r ta σ H Q := h
theorem r_bm {T : String} {r : V → List V → Hp → VK → Prop} {t : TA} (h : ta σ H fun x H1 => tyV K T x H1 ∧ t σ H1 fun xs H2 => r x xs H2 Q) : tBM K T r ta t σ H Q := h
theorem r_tyL {A : Prop} {p : Addr} {xs : List V} (h : SqL K H p xs) (q : A) : tyV K "list" (.ref p) H ∧ A := ⟨.inl ⟨rfl, xs, h⟩, q⟩
theorem r_tyS {A : Prop} {z : Str} (q : A) : tyV K "str" (.str z) H ∧ A := ⟨rfl, q⟩
theorem r_if {t : TT} (h : t σ H fun c H1 => if c = true then ta σ H1 Q else tb σ H1 Q) : tIf t ta tb σ H Q := h
def kAndV (tb : TE) (σ : St) (Q : VK) : VK := fun x H1 => ∃ c, x = .bl c ∧ if c = true then tb σ H1 Q else Q (.bl false) H1
theorem r_andV (h : ta σ H (kAndV tb σ Q)) : tAndV ta tb σ H Q := h
theorem r_andVK {c : Bool} (h : if c = true then tb σ H Q else Q (.bl false) H) : kAndV tb σ Q (.bl c) H := ⟨c, rfl, h⟩
def kOrV (tb : TE) (σ : St) (Q : VK) : VK := fun x H1 => ∃ c, x = .bl c ∧ if c = true then Q (.bl true) H1 else tb σ H1 Q
theorem r_orV (h : ta σ H (kOrV tb σ Q)) : tOrV ta tb σ H Q := h
theorem r_orVK {c : Bool} (h : if c = true then Q (.bl true) H else tb σ H Q) : kOrV tb σ Q (.bl c) H := ⟨c, rfl, h⟩
def kNotV (Q : VK) : VK := fun x H1 => ∃ c, x = .bl c ∧ Q (.bl (!c)) H1
theorem r_notV (h : ta σ H (kNotV Q)) : tNotV ta σ H Q := h
theorem r_notVK {c : Bool} (h : Q (.bl (!c)) H) : kNotV Q (.bl c) H := ⟨c, rfl, h⟩
def kChain (r' : R2) (y : V) (tc : TE) (σ : St) (Q : VK) : VK := fun z H3 => ∃ k, z = .bl k ∧ (if k = true then tc σ H3 fun w' H4 => r' y w' H4 Q else Q (.bl false) H3)
theorem r_chain {r r' : R2} (h : ta σ H fun x H1 => tb σ H1 fun y H2 => r x y H2 (kChain r' y tc σ Q)) : tChain r r' ta tb tc σ H Q := h
theorem r_chainK {r' : R2} {k : Bool} (h : if k = true then tc σ H fun w' H4 => r' y w' H4 Q else Q (.bl false) H) : kChain r' y tc σ Q (.bl k) H := ⟨k, rfl, h⟩
end
/-! tests -/
section
variable {K : PySem.W.Frag} {σ : St} {H : Hp} {Q : Bool → Hp → Prop} {ta : TE} {t u : TT} {c : Bool}
def kB (Q : Bool → Hp → Prop) : VK := fun x H1 => ∃ c, x = .bl c ∧ Q c H1
theorem r_tB (h : ta σ H (kB Q)) : tB ta σ H Q := h
theorem r_tTest (h : ta σ H (kB Q)) : tTest ta σ H Q := h
theorem r_kB (q : Q c H) : kB Q (.bl c) H := ⟨c, rfl, q⟩
theorem r_and (h : t σ H fun c H1 => if c = true then u σ H1 Q else Q false H1) : tAnd t u σ H Q := h
theorem r_or (h : t σ H fun c H1 => if c = true then Q true H1 else u σ H1 Q) : tOr t u σ H Q := h
theorem r_not (h : t σ H fun c H1 => Q (!c) H1) : tNot t σ H Q := h
theorem r_yes (q : Q true H) : tYes σ H Q := q
def kTru (K : PySem.W.Frag) (Q : Bool → Hp → Prop) : VK := fun x H1 => ∃ k, TruV K x H1 k ∧ Q k H1
theorem r_tru (h : ta σ H (kTru K Q)) : tTru K ta σ H Q := h
end
theorem pt_truthN {X : Cx} {e : Expr} {te : TE} (ha : PE X e te) (he : ∀ whole, isTrue e X.env whole = (do let v ← whole; standAt e.pos; holding [v] (truthy v))) : PT X e (tTru X.K te) := pt_truth ha he
/-! statements -/
section
variable {K : PySem.W.Frag} {D : Ends} {σ : St} {H : Hp} {te ta tv : TE} {t u : TS} {c : TT} {g : TG} {i : Nat} {v : V} {f : Str} {a C dx : Addr} {fs : List (Str × V)}
theorem s_seq (h : t { D with nx := u D } σ H) : tSeq t u D σ H := h
theorem s_next (h : D.nx σ H) : tNext D σ H := h
theorem s_brk (h : D.bk σ H) : tBreak D σ H := h
theorem s_cont (h : D.ct σ H) : tCont D σ H := h
theorem s_drop (h : te σ H fun _ H1 => D.nx σ H1) : tDrop te D σ H := h
theorem s_ret (h : te σ H D.rt) : tRet te D σ H := h
theorem s_retN (h : D.rt .non H) : tRetN D σ H := h
theorem s_asg (h : te σ H fun x H1 => g x σ H1 D.nx) : tAsg te g D σ H := h
theorem s_name {Q : St → Hp → Prop} (h : Q (σ.set i (some v)) H) : gName i v σ H Q := h
theorem s_if (h : c σ H fun b H1 => if b = true then t D σ H1 else u D σ H1) : tIfS c t u D σ H := h
def kSFld (K : PySem.W.Frag) (f : Str) (y : V) (D : Ends) (σ : St) : VK := fun x H2 => ∃ a C dx fs, x = .ref a ∧ H2 a = some (.ins C dx fs) ∧ Cls K C ∧ NoAttr K C f ∧ fs.length < 1000 ∧ D.nx σ (upd H2 a (.ins C dx (putF f y fs)))
theorem s_fld (h : tv σ H fun y H1 => ta σ H1 (kSFld K f y D σ)) : sFld K ta tv f D σ H := h
theorem s_fldK {y : V} (h1 : H a = some (.ins C dx fs)) (h2 : Cls K C) (h3 : NoAttr K C f) (h4 : fs.length < 1000) (q : D.nx σ (upd H a (.ins C dx (putF f y fs)))) : kSFld K f y D σ (.ref a) H := ⟨a, C, dx, fs, rfl, h1, h2, h3, h4, q⟩
end
/-! own named readings of calls -/
section
variable {K : PySem.W.Frag} {H : Hp} {Q : VK}
def rLen (K : PySem.W.Frag) : List V → Hp → VK → Prop := fun xs H Q => ∃ p ys, xs = [.ref p] ∧ (SqL K H p ys ∨ SqT K H p ys) ∧ Q (.int ys.length) H
theorem c_len {X : Cx} : CallR X (.builtin "len") (rLen X.K) := call_len_seq
theorem r_len {p : Addr} {ys : List V} (h : SqL K H p ys) (q : Q (.int ys.length) H) : rLen K [.ref p] H Q := ⟨p, ys, rfl, .inl h, q⟩
theorem r_lenT {p : Addr} {ys : List V} (h : SqT K H p ys) (q : Q (.int ys.length) H) : rLen K [.ref p] H Q := ⟨p, ys, rfl, .inr h, q⟩
def rLenS : List V → Hp → VK → Prop := fun xs H Q => ∃ z, xs = [.str z] ∧ z.length ≤ sizeLine ∧ Q (.int z.length) H
theorem c_lenS {X : Cx} : CallR X (.builtin "len") rLenS := call_len_str
theorem r_lenS {z : Str} (h : z.length ≤ sizeLine) (q : Q (.int z.length) H) : rLenS [.str z] H Q := ⟨z, rfl, h, q⟩
def rListOf (K : PySem.W.Frag) : List V → Hp → VK → Prop := fun xs H Q => ∃ p ys, xs = [.ref p] ∧ (SqL K H p ys ∨ SqT K H p ys) ∧ ∀ l, H l = none → Q (.ref l) (upd H l (.lst ys))
theorem c_listOf {X : Cx} : CallR X (.type "list") (rListOf X.K) := call_list_of
theorem r_listOf {p : Addr} {ys : List V} (h : SqL K H p ys) (q : ∀ l, H l = none → Q (.ref l) (upd H l (.lst ys))) : rListOf K [.ref p] H Q := ⟨p, ys, rfl, .inl h, q⟩
theorem r_append {l : Addr} {xs : List V} {y : V} (h : H l = some (.lst xs)) (hz : xs.length < sizeLine) (q : Q .non (upd H l (.lst (xs ++ [y])))) : rAppend (.ref l) [y] H Q := ⟨l, xs, y, rfl, rfl, h, hz, q⟩
theorem r_popAt {l : Addr} {xs : List V} {i : Int} {k : Nat} {y : V} (h : H l = some (.lst xs)) (h0 : 0 ≤ i) (hk : i.toNat = k) (hl : k < xs.length) (hz : xs.length ≤ sizeLine) (hy : xs[k]? = some y) (q : Q y (upd H l (.lst (xs.eraseIdx k)))) : rPopAt (.ref l) [.int i] H Q := by
  have hs : (sizeLine : Nat) < 2 ^ 62 := by rw [sizeLine_eq]; decide
  refine ⟨l, xs, i, k, y, rfl, rfl, h, by omega, by omega, ?_, hy, q⟩
  unfold seqIndex?
  simp
  omega
theorem r_max2 {i j : Int} (q : Q (.int (if j > i then j else i)) H) : ∃ i' j', [V.int i, V.int j] = [.int i', .int j'] ∧ Q (.int (if j' > i' then j' else i')) H := ⟨i, j, rfl, q⟩
def rMax2 : List V → Hp → VK → Prop := fun xs H Q => ∃ i j, xs = [.int i, .int j] ∧ Q (.int (max i j)) H
theorem c_max2 {X : Cx} (hc : X.calm = true) : CallR X (.builtin "max") rMax2 := by
  intro pins s σ H xs us Q I r h
  obtain ⟨i, j, e, q⟩ := h
  refine call_max2 hc pins s σ H xs us Q I r ⟨i, j, e, ?_⟩
  have z : (if j > i then j else i) = max i j := by split <;> omega
  rw [z]; exact q
theorem rr_max2 {i j : Int} (q : Q (.int (max i j)) H) : rMax2 [.int i, .int j] H Q := ⟨i, j, rfl, q⟩
def rMin2 : List V → Hp → VK → Prop := fun xs H Q => ∃ i j, xs = [.int i, .int j] ∧ Q (.int (min i j)) H
theorem c_min2 {X : Cx} (hc : X.calm = true) : CallR X (.builtin "min") rMin2 := by
  intro pins s σ H xs us Q I r h
  obtain ⟨i, j, e, q⟩ := h
  refine call_min2 hc pins s σ H xs us Q I r ⟨i, j, e, ?_⟩
  have z : (if j < i then j else i) = min i j := by split <;> omega
  rw [z]; exact q
theorem rr_min2 {i j : Int} (q : Q (.int (min i j)) H) : rMin2 [.int i, .int j] H Q := ⟨i, j, rfl, q⟩
def rInsert : V → List V → Hp → VK → Prop := fun x vs H Q => ∃ (l : Addr) (xs : List V) (i : Int) (y : V), x = .ref l ∧ vs = [.int i, y] ∧ H l = some (.lst xs) ∧ xs.length < sizeLine ∧ 0 ≤ i ∧ i < 2 ^ 63 ∧
    Q .non (upd H l (.lst (xs.take i.toNat ++ [y] ++ xs.drop i.toNat)))
theorem m_insert {X : Cx} : MtR X "list.insert" rInsert := mt_insert
theorem r_insert {l : Addr} {xs : List V} {k : Nat} {y : V} (h : H l = some (.lst xs)) (hz : xs.length < sizeLine) (hk : k ≤ xs.length) (q : Q .non (upd H l (.lst (xs.take k ++ [y] ++ xs.drop k)))) : rInsert (.ref l) [.int (k : Int), y] H Q := by
  have hs : (sizeLine : Nat) < 2 ^ 62 := by rw [sizeLine_eq]; decide
  exact ⟨l, xs, (k : Int), y, rfl, rfl, h, hz, by omega, by omega, by simpa using q⟩
/-- isinstance by a built-in class's name -/
theorem r_isi {x : V} {t n : String} {b : Bool} (ht : TyX K H x (.type t)) (e : kitB t n = some b) (q : Q (.bl b) H) : rIsi K [x, .ty n] H Q := ⟨x, .ty n, .type t, .type n, b, rfl, .ty n, ht, kit_ty e, q⟩
theorem tyInt {i : Int} : TyX K H (.int i) (.type "int") := .base (.int i)
theorem tyBl {b : Bool} : TyX K H (.bl b) (.type "bool") := .base (.bl b)
theorem tyNon : TyX K H .non (.type "NoneType") := .base .non
theorem tyStr {z : Str} : TyX K H (.str z) (.type "str") := .base (.str z)
theorem tyLst {a : Addr} {xs : List V} (h : H a = some (.lst xs)) : TyX K H (.ref a) (.type "list") := .base (.lst h)
theorem tyTup {a : Addr} {xs : List V} (h : H a = some (.tup xs)) : TyX K H (.ref a) (.type "tuple") := .base (.tup h)
end
/-! t > u of tuples of ints -/
section
def rGtT (K : PySem.W.Frag) : R2 := fun x y H Q => ∃ (a b : Addr) (ns ms : List Int), x = .ref a ∧ y = .ref b ∧ SqT K H a (ns.map V.int) ∧ SqT K H b (ms.map V.int) ∧
  Q (.bl (Ob.lexAt (fun j => decide (ns.getD j 0 = ms.getD j 0)) (fun j => decide (ms.getD j 0 < ns.getD j 0)) (decide (ms.length < ns.length)) 0 (min ns.length ms.length))) H
theorem op_gtT {X : Cx} (hu : X.A.units < cLine) : OpR X (compareOp .Gt) (rGtT X.K) := by
  intro pins s σ H x y v u Q I rx ry h
  obtain ⟨a, b, ns, ms, rfl, rfl, ha, hb, q⟩ := h
  cases rx
  cases ry
  obtain ⟨its, r1, p1, _⟩ := I.tuple ha
  obtain ⟨its2, r2, p2, _⟩ := I.tuple hb
  have i1 : PyProof.Rows.IntsAre its ns := Vals.ints r1
  have i2 : PyProof.Rows.IntsAre its2 ms := Vals.ints r2
  have e1 : its.toArray.size = ns.length := by rw [List.size_toArray]; exact i1.length
  have e2 : its2.toArray.size = ms.length := by rw [List.size_toArray]; exact i2.length
  have at1 : ∀ j (h1 : j < its.toArray.size), ∃ t, its.toArray[j] = .int (ns.getD j 0) t := fun j h1 => PyProof.Rows.IntsAre.int_at i1 _ _ (by simp at h1; simp [h1])
  have at2 : ∀ j (h1 : j < its2.toArray.size), ∃ t, its2.toArray[j] = .int (ms.getD j 0) t := fun j h1 => PyProof.Rows.IntsAre.int_at i2 _ _ (by simp at h1; simp [h1])
  have R := Ob.RcOp.tuples_gt (A := X.A) (s := s) (e := fun j => decide (ns.getD j 0 = ms.getD j 0)) (r := fun j => decide (ms.getD j 0 < ns.getD j 0)) p1 p2 hu (fun j h1 h2 => by
    obtain ⟨t, et⟩ := at1 j h1
    obtain ⟨t', et'⟩ := at2 j h2
    rw [et, et']
    have z : (ns.getD j 0 == ms.getD j 0) = decide (ns.getD j 0 = ms.getD j 0) := by
      by_cases q : ns.getD j 0 = ms.getD j 0
      · rw [decide_eq_true q]; exact beq_iff_eq.mpr q
      · rw [decide_eq_false q]; exact beq_eq_false_iff_ne.mpr q
    rw [← z]
    exact SeqAt.EqAt.int_int _ _ _ _) (fun j h1 h2 _ => by
    obtain ⟨t, et⟩ := at1 j h1
    obtain ⟨t', et'⟩ := at2 j h2
    rw [et, et']
    exact Ob.RcOp.gt_int _ _ _ _)
  rw [e1, e2] at R
  have z : wpAny (model X.prog X.w) X.A (compareOp .Gt (.ref a) (.ref b)) (EP X pins σ Q) X.xe s := R X.prog X.w X.xe (EP X pins σ Q) ⟨.bl _, H, I, rfl, q⟩
  exact z
/-- which of two stamps is greater -/
def gtr (a b : Int × Int) : Bool := if a.1 = b.1 then decide (b.2 < a.2) else decide (b.1 < a.1)
theorem r_gtT {K : PySem.W.Frag} {H : Hp} {Q : VK} {p q : Addr} {a b : Int × Int} (h1 : SqT K H p [.int a.1, .int a.2]) (h2 : SqT K H q [.int b.1, .int b.2]) (k : Q (.bl (gtr a b)) H) : rGtT K (.ref p) (.ref q) H Q := by
  refine ⟨p, q, [a.1, a.2], [b.1, b.2], rfl, rfl, h1, h2, ?_⟩
  have e : Ob.lexAt (fun j => decide ([a.1, a.2].getD j 0 = [b.1, b.2].getD j 0)) (fun j => decide ([b.1, b.2].getD j 0 < [a.1, a.2].getD j 0)) (decide ([b.1, b.2].length < [a.1, a.2].length)) 0 (min [a.1, a.2].length [b.1, b.2].length) = gtr a b := by
    show Ob.lexAt _ _ _ 0 2 = _
    unfold gtr
    rw [Ob.lexAt_succ, Ob.lexAt_succ, Ob.lexAt_zero]
    by_cases h : a.1 = b.1
    · rw [if_pos (show decide ([a.1, a.2].getD 0 0 = [b.1, b.2].getD 0 0) = true from decide_eq_true h), if_pos h]
      by_cases h' : a.2 = b.2
      · rw [if_pos (show decide ([a.1, a.2].getD 1 0 = [b.1, b.2].getD 1 0) = true from decide_eq_true h')]
        rw [show decide (b.2 < a.2) = false from decide_eq_false (by omega)]
        rfl
      · rw [if_neg (show ¬ decide ([a.1, a.2].getD 1 0 = [b.1, b.2].getD 1 0) = true from fun z => h' (of_decide_eq_true z))]
        rfl
    · rw [if_neg (show ¬ decide ([a.1, a.2].getD 0 0 = [b.1, b.2].getD 0 0) = true from fun z => h (of_decide_eq_true z)), if_neg h]
      rfl
  rw [e]; exact k
end
end PR
/-! part pa_rules: further rules at the layer's level (own work) -/
namespace PR
open PySem L2
section
variable {X : Cx}
/-- xs == [] (a list of any things, against a list that is empty) -/
def rEqNil (K : PySem.W.Frag) : R2 := fun x y H Q => ∃ (p q : Addr) (xs : List V), x = .ref p ∧ y = .ref q ∧ SqL K H p xs ∧ SqL K H q [] ∧ Q (.bl xs.isEmpty) H
theorem op_eqNil (hu : X.A.units < cLine) : OpR X (compareOp .Eq) (rEqNil X.K) := by
  intro pins s σ H x y v u Q I rx ry h
  obtain ⟨a, b, xs, rfl, rfl, ha, hb, q⟩ := h
  cases rx
  cases ry
  obtain ⟨its, r1, p1, _⟩ := I.list ha
  obtain ⟨its2, r2, p2, _⟩ := I.list hb
  cases r2
  obtain ⟨⟨cls, dd, data, sl⟩, n, ho, hc, _, hd⟩ := p1
  obtain ⟨⟨cls2, dd2, data2, sl2⟩, n2, ho2, hc2, _, hd2⟩ := p2
  simp only at hc hd hc2 hd2
  subst hc hd hc2 hd2
  have z : wpAny (model X.prog X.w) X.A (richCompare .Eq (.ref a) (.ref b)) (EP X pins σ Q) X.xe s := by
    cases r1 with
    | nil =>
      exact richCompare_meets_room (op := .Eq) ⟨_, ho, rfl⟩ ⟨_, ho2, rfl⟩ F.slot_list_eq F.entry_list_eq (F.args_list_eq_2 _ _) (SeqAt.list_eqAt a b _ _ n n2 dd dd2 sl sl2 rfl (fun _ => true))
        ⟨ho, ho2, (fun j h1 => absurd h1 (by simp)), ⟨(fun x => nomatch x), .bl true, H, I, rfl, q⟩⟩ hu
    | cons r t =>
      exact richCompare_meets_room (op := .Eq) ⟨_, ho, rfl⟩ ⟨_, ho2, rfl⟩ F.slot_list_eq F.entry_list_eq (F.args_list_eq_2 _ _) (SeqAt.list_eq_lengthsAt a b _ _ n n2 dd dd2 sl sl2 (by simp))
        ⟨ho, ho2, ⟨(fun x => nomatch x), .bl false, H, I, rfl, q⟩⟩ hu
  exact z
theorem r_eqNil {K : PySem.W.Frag} {H : Hp} {Q : VK} {p q : Addr} {xs : List V} (h1 : SqL K H p xs) (h2 : SqL K H q []) (k : Q (.bl xs.isEmpty) H) : rEqNil K (.ref p) (.ref q) H Q := ⟨p, q, xs, rfl, rfl, h1, h2, k⟩
def rNeNil (K : PySem.W.Frag) : R2 := fun x y H Q => ∃ (p q : Addr) (xs : List V), x = .ref p ∧ y = .ref q ∧ SqL K H p xs ∧ SqL K H q [] ∧ Q (.bl (!xs.isEmpty)) H
theorem op_neNil (hu : X.A.units < cLine) : OpR X (compareOp .NotEq) (rNeNil X.K) := by
  intro pins s σ H x y v u Q I rx ry h
  obtain ⟨a, b, xs, rfl, rfl, ha, hb, q⟩ := h
  cases rx
  cases ry
  obtain ⟨its, r1, p1, _⟩ := I.list ha
  obtain ⟨its2, r2, p2, _⟩ := I.list hb
  cases r2
  obtain ⟨⟨cls, dd, data, sl⟩, n, ho, hc, _, hd⟩ := p1
  obtain ⟨⟨cls2, dd2, data2, sl2⟩, n2, ho2, hc2, _, hd2⟩ := p2
  simp only at hc hd hc2 hd2
  subst hc hd hc2 hd2
  have z : wpAny (model X.prog X.w) X.A (richCompare .NotEq (.ref a) (.ref b)) (EP X pins σ Q) X.xe s := by
    cases r1 with
    | nil =>
      exact richCompare_meets_room (op := .NotEq) ⟨_, ho, rfl⟩ ⟨_, ho2, rfl⟩ F.slot_list_ne F.entry_list_ne (F.args_list_ne_2 _ _) (SeqAt.list_neAt a b _ _ n n2 dd dd2 sl sl2 rfl (fun _ => true))
        ⟨ho, ho2, (fun j h1 => absurd h1 (by simp)), ⟨(fun x => nomatch x), .bl false, H, I, rfl, q⟩⟩ hu
    | cons r t =>
      exact richCompare_meets_room (op := .NotEq) ⟨_, ho, rfl⟩ ⟨_, ho2, rfl⟩ F.slot_list_ne F.entry_list_ne (F.args_list_ne_2 _ _) (SeqAt.list_ne_lengthsAt a b _ _ n n2 dd dd2 sl sl2 (by simp))
        ⟨ho, ho2, ⟨(fun x => nomatch x), .bl true, H, I, rfl, q⟩⟩ hu
  exact z
theorem r_neNil {K : PySem.W.Frag} {H : Hp} {Q : VK} {p q : Addr} {xs : List V} (h1 : SqL K H p xs) (h2 : SqL K H q []) (k : Q (.bl (!xs.isEmpty)) H) : rNeNil K (.ref p) (.ref q) H Q := ⟨p, q, xs, rfl, rfl, h1, h2, k⟩
/-- is, is not of truth values -/
def rIsB : R2 := fun x y H Q => ∃ a b, x = .bl a ∧ y = .bl b ∧ Q (.bl (decide (a = b))) H
def rIsNotB : R2 := fun x y H Q => ∃ a b, x = .bl a ∧ y = .bl b ∧ Q (.bl (!decide (a = b))) H
theorem op_isB : OpR X (compareOp .Is) rIsB := op_is_bl
theorem op_isnotB : OpR X (compareOp .IsNot) rIsNotB := op_isnot_bl
theorem r_isB {H : Hp} {Q : VK} {a b : Bool} (k : Q (.bl (decide (a = b))) H) : rIsB (.bl a) (.bl b) H Q := ⟨a, b, rfl, rfl, k⟩
theorem r_isnotB {H : Hp} {Q : VK} {a b : Bool} (k : Q (.bl (!decide (a = b))) H) : rIsNotB (.bl a) (.bl b) H Q := ⟨a, b, rfl, rfl, k⟩
/-- all(xs) -/
theorem r_all {K : PySem.W.Frag} {H : Hp} {Q : VK} {p : Addr} {bs : List Bool} (h : SqL K H p (bs.map V.bl)) (k : Q (.bl (bs.all id)) H) : rAll K [.ref p] H Q := ⟨p, bs, rfl, h, k⟩
theorem r_eqD {K : PySem.W.Frag} {H : Hp} {Q : VK} {x y : V} {d e : PyData} {b : Bool} (h1 : Dp K H x d) (h2 : Dp K H y e) (h3 : SeqAt.shaped d = true) (h4 : SeqAt.shaped e = true) (hb : PyData.eqv d e = b) (k : Q (.bl b) H) : rEqD K x y H Q := ⟨d, e, h1, h2, h3, h4, by rw [hb]; exact k⟩
theorem r_neD {K : PySem.W.Frag} {H : Hp} {Q : VK} {x y : V} {d e : PyData} {b : Bool} (h1 : Dp K H x d) (h2 : Dp K H y e) (h3 : SeqAt.shaped d = true) (h4 : SeqAt.shaped e = true) (hb : PyData.eqv d e = b) (k : Q (.bl (!b)) H) : rNeD K x y H Q := ⟨d, e, h1, h2, h3, h4, by rw [hb]; exact k⟩
theorem ix_seqK {K : PySem.W.Frag} (h : X.K = K) : IxR X (rIx K) := by subst h; exact ix_seq
theorem at0 {α : Type} {x : α} {r : List α} : atI (x :: r) 0 = some x := by
  have h : ((x :: r)[0]? : Option α) = some x := rfl
  exact atI_nat (j := 0) h
theorem atk {α : Type} {xs : List α} {k : Nat} {x : α} (h : xs[k]? = some x) : atI xs (k : Int) = some x := atI_nat h
theorem atz {α : Type} {xs : List α} {i : Int} {k : Nat} {x : α} (e : i = (k : Int)) (h : xs[k]? = some x) : atI xs i = some x := by rw [e]; exact atI_nat h
theorem at_snoc {α : Type} {xs : List α} {x : α} (hz : xs.length < 1000000) : atI (xs ++ [x]) (-1) = some x := by
  unfold atI ixN
  rw [if_neg (by decide), List.length_append, List.length_singleton, if_pos (by omega)]
  have e : (-1 + ((xs.length + 1 : Nat) : Int)).toNat = xs.length := by omega
  rw [e]
  simp
end
end PR
/-! part pa_isi: isinstance by kinds (printed) -/
namespace PR
open PySem L2
section
variable {K : PySem.W.Frag} {H : Hp} {Q : VK}
theorem isi_int_int {i : Int}  (q : Q (.bl true) H) : rIsi K [.int i, .ty "int"] H Q := r_isi (b := true) (tyInt) (by decide +kernel) q
theorem isi_int_bool {i : Int}  (q : Q (.bl false) H) : rIsi K [.int i, .ty "bool"] H Q := r_isi (b := false) (tyInt) (by decide +kernel) q
theorem isi_int_str {i : Int}  (q : Q (.bl false) H) : rIsi K [.int i, .ty "str"] H Q := r_isi (b := false) (tyInt) (by decide +kernel) q
theorem isi_int_tuple {i : Int}  (q : Q (.bl false) H) : rIsi K [.int i, .ty "tuple"] H Q := r_isi (b := false) (tyInt) (by decide +kernel) q
theorem isi_int_list {i : Int}  (q : Q (.bl false) H) : rIsi K [.int i, .ty "list"] H Q := r_isi (b := false) (tyInt) (by decide +kernel) q
theorem isi_bl_int {c : Bool}  (q : Q (.bl true) H) : rIsi K [.bl c, .ty "int"] H Q := r_isi (b := true) (tyBl) (by decide +kernel) q
theorem isi_bl_bool {c : Bool}  (q : Q (.bl true) H) : rIsi K [.bl c, .ty "bool"] H Q := r_isi (b := true) (tyBl) (by decide +kernel) q
theorem isi_bl_str {c : Bool}  (q : Q (.bl false) H) : rIsi K [.bl c, .ty "str"] H Q := r_isi (b := false) (tyBl) (by decide +kernel) q
theorem isi_bl_tuple {c : Bool}  (q : Q (.bl false) H) : rIsi K [.bl c, .ty "tuple"] H Q := r_isi (b := false) (tyBl) (by decide +kernel) q
theorem isi_bl_list {c : Bool}  (q : Q (.bl false) H) : rIsi K [.bl c, .ty "list"] H Q := r_isi (b := false) (tyBl) (by decide +kernel) q
theorem isi_non_int   (q : Q (.bl false) H) : rIsi K [.non, .ty "int"] H Q := r_isi (b := false) (tyNon) (by decide +kernel) q
theorem isi_non_bool   (q : Q (.bl false) H) : rIsi K [.non, .ty "bool"] H Q := r_isi (b := false) (tyNon) (by decide +kernel) q
theorem isi_non_str   (q : Q (.bl false) H) : rIsi K [.non, .ty "str"] H Q := r_isi (b := false) (tyNon) (by decide +kernel) q
theorem isi_non_tuple   (q : Q (.bl false) H) : rIsi K [.non, .ty "tuple"] H Q := r_isi (b := false) (tyNon) (by decide +kernel) q
theorem isi_non_list   (q : Q (.bl false) H) : rIsi K [.non, .ty "list"] H Q := r_isi (b := false) (tyNon) (by decide +kernel) q
theorem isi_str_int {z : Str}  (q : Q (.bl false) H) : rIsi K [.str z, .ty "int"] H Q := r_isi (b := false) (tyStr) (by decide +kernel) q
theorem isi_str_bool {z : Str}  (q : Q (.bl false) H) : rIsi K [.str z, .ty "bool"] H Q := r_isi (b := false) (tyStr) (by decide +kernel) q
theorem isi_str_str {z : Str}  (q : Q (.bl true) H) : rIsi K [.str z, .ty "str"] H Q := r_isi (b := true) (tyStr) (by decide +kernel) q
theorem isi_str_tuple {z : Str}  (q : Q (.bl false) H) : rIsi K [.str z, .ty "tuple"] H Q := r_isi (b := false) (tyStr) (by decide +kernel) q
theorem isi_str_list {z : Str}  (q : Q (.bl false) H) : rIsi K [.str z, .ty "list"] H Q := r_isi (b := false) (tyStr) (by decide +kernel) q
theorem isi_lst_int {a : Addr} {xs : List V} (h : H a = some (.lst xs)) (q : Q (.bl false) H) : rIsi K [.ref a, .ty "int"] H Q := r_isi (b := false) (tyLst h) (by decide +kernel) q
theorem isi_lst_bool {a : Addr} {xs : List V} (h : H a = some (.lst xs)) (q : Q (.bl false) H) : rIsi K [.ref a, .ty "bool"] H Q := r_isi (b := false) (tyLst h) (by decide +kernel) q
theorem isi_lst_str {a : Addr} {xs : List V} (h : H a = some (.lst xs)) (q : Q (.bl false) H) : rIsi K [.ref a, .ty "str"] H Q := r_isi (b := false) (tyLst h) (by decide +kernel) q
theorem isi_lst_tuple {a : Addr} {xs : List V} (h : H a = some (.lst xs)) (q : Q (.bl false) H) : rIsi K [.ref a, .ty "tuple"] H Q := r_isi (b := false) (tyLst h) (by decide +kernel) q
theorem isi_lst_list {a : Addr} {xs : List V} (h : H a = some (.lst xs)) (q : Q (.bl true) H) : rIsi K [.ref a, .ty "list"] H Q := r_isi (b := true) (tyLst h) (by decide +kernel) q
theorem isi_tup_int {a : Addr} {xs : List V} (h : H a = some (.tup xs)) (q : Q (.bl false) H) : rIsi K [.ref a, .ty "int"] H Q := r_isi (b := false) (tyTup h) (by decide +kernel) q
theorem isi_tup_bool {a : Addr} {xs : List V} (h : H a = some (.tup xs)) (q : Q (.bl false) H) : rIsi K [.ref a, .ty "bool"] H Q := r_isi (b := false) (tyTup h) (by decide +kernel) q
theorem isi_tup_str {a : Addr} {xs : List V} (h : H a = some (.tup xs)) (q : Q (.bl false) H) : rIsi K [.ref a, .ty "str"] H Q := r_isi (b := false) (tyTup h) (by decide +kernel) q
theorem isi_tup_tuple {a : Addr} {xs : List V} (h : H a = some (.tup xs)) (q : Q (.bl true) H) : rIsi K [.ref a, .ty "tuple"] H Q := r_isi (b := true) (tyTup h) (by decide +kernel) q
theorem isi_tup_list {a : Addr} {xs : List V} (h : H a = some (.tup xs)) (q : Q (.bl false) H) : rIsi K [.ref a, .ty "list"] H Q := r_isi (b := false) (tyTup h) (by decide +kernel) q
end
end PR
/-! part pd_loops: comprehensions and loops in two steps (own work) -/
namespace PR
open PySem L2
theorem cxK {CX : CXT} {P : Program} {w : World} {K : PySem.W.Frag} {mg : Str → Option Value} {base : Heap} {N : List Str} {qual : Str} {scope : Scope} {f : Addr} {cd : Value} {A : Around} {outer : List Env} {s : Shared} {H : Hp} {E : XK} :
    (cxOf CX P w K mg base N qual scope f cd A outer s H E).K = K := rfl
section
variable {K : PySem.W.Frag} {σ : St} {H : Hp} {Q : VK} {tl te : TE} {ta : TA} {tt : TT} {g : TG} {vs : List Nat}
/-- what a comprehension asks of its iterator -/
def kLc (g : TG) (tt : TT) (te : TE) (vs : List Nat) (σ : St) (Q : VK) (J : It) (H1 : Hp) : Prop := ∀ D, H1 D = none → ∃ W : Nat → Nat → Hp → Prop, (∃ m, W 0 m (upd H1 D (.lst []))) ∧ ∀ i m H, W i m H →
  (J.stop i H ∧ Q (.ref D) H) ∨ (J.go i H ∧ ∃ Nx : Hp → Prop, (∀ H', Nx H' → ∃ m', m' < m ∧ W (i + 1) m' H') ∧ ∀ x H', J.yld i H x H' → g x (wipe σ vs) H' fun σ2 H2 => wipe σ2 vs = wipe σ vs ∧ tt σ2 H2 fun b H3 =>
    if b = true then te σ2 H3 fun y H4 => ∃ acc, H4 D = some (.lst acc) ∧ acc.length < sizeLine ∧ Nx (upd H4 D (.lst (acc ++ [y]))) else Nx H3)
def kLcL (K : PySem.W.Frag) (g : TG) (tt : TT) (te : TE) (vs : List Nat) (σ : St) (Q : VK) : VK := fun x H1 => ∃ a, x = .ref a ∧ (∃ xs, SqL K H1 a xs) ∧ kLc g tt te vs σ Q (Itl K a) H1
theorem r_lcL (h : tl σ H (kLcL K g tt te vs σ Q)) : tLc (iList K tl) g tt te vs σ H Q := h
def kLcR1 (g : TG) (tt : TT) (te : TE) (vs : List Nat) (σ : St) (Q : VK) : List V → Hp → Prop := fun as H1 => ∃ j : Int, as = [.int j] ∧ -(2 ^ 62) ≤ j ∧ j < 2 ^ 62 ∧ kLc g tt te vs σ Q (Itr 0 j.toNat) H1
theorem r_lcR1 (h : ta σ H (kLcR1 g tt te vs σ Q)) : tLc (iRng1 ta) g tt te vs σ H Q := h
def kLcR2 (g : TG) (tt : TT) (te : TE) (vs : List Nat) (σ : St) (Q : VK) : List V → Hp → Prop := fun as H1 => ∃ i j : Int, as = [.int i, .int j] ∧ (-(2 ^ 62) ≤ i ∧ i < 2 ^ 62 ∧ -(2 ^ 62) ≤ j ∧ j < 2 ^ 62) ∧ kLc g tt te vs σ Q (Itr i (j - i).toNat) H1
theorem r_lcR2 (h : ta σ H (kLcR2 g tt te vs σ Q)) : tLc (iRng2 ta) g tt te vs σ H Q := h
/-- one turn of a comprehension that leaves what is tracked -/
abbrev LcTurn (g : TG) (tt : TT) (te : TE) (vs : List Nat) (σ : St) (x : V) (H1 : Hp) (Qn : Option V → Hp → Prop) : Prop :=
  g x (wipe σ vs) H1 fun σ2 H2 => wipe σ2 vs = wipe σ vs ∧ tt σ2 H2 fun b H3 => if b = true then te σ2 H3 fun y H4 => Qn (some y) H4 else Qn none H3
theorem kLcL_of {a : Addr} {xs : List V} (out : Nat → List V) (hx : SqL K H a xs) (h0 : out 0 = []) (hz : ∀ i, i ≤ xs.length → (out i).length < 1000000)
    (hs : ∀ (i : Nat) (x : V) (H1 : Hp), xs[i]? = some x → Same H H1 → ∀ Qn : Option V → Hp → Prop, (∀ (r : Option V) (H2 : Hp), Same H1 H2 → out (i + 1) = out i ++ r.toList → Qn r H2) → LcTurn g tt te vs σ x H1 Qn)
    (k : ∀ (D : Addr) (H' : Hp), H D = none → Same H H' → H' D = some (.lst (out xs.length)) → Q (.ref D) H') : kLcL K g tt te vs σ Q (.ref a) H := by
  have hzl : (1000000 : Nat) < sizeLine := by rw [sizeLine_eq]; decide
  refine ⟨a, rfl, ⟨xs, hx⟩, fun D hD => ?_⟩
  have up : ∀ {H1 : Hp} {o : HO}, Same H H1 → Same H (upd H1 D o) := fun s b u e => by
    rw [upd_ne (ne_of_none e hD)]; exact s b u e
  refine lc_list (xs := xs) (fun i H1 => Same H H1 ∧ H1 D = some (.lst (out i))) ⟨up (Same.refl H), by rw [h0]; exact upd_same⟩ (fun i H1 _ p => p.1.seq hx) (fun i x H1 hi p => ?_) fun H1 p => k D H1 hD p.1 p.2
  obtain ⟨s1, d1⟩ := p
  have hi' : i < xs.length := (List.getElem?_eq_some_iff.mp hi).1
  refine hs i x H1 hi s1 (fun r H2 => match r with | some y => ∃ acc, H2 D = some (.lst acc) ∧ acc.length < sizeLine ∧ (Same H (upd H2 D (.lst (acc ++ [y]))) ∧ upd H2 D (.lst (acc ++ [y])) D = some (.lst (out (i + 1)))) | none => Same H H2 ∧ H2 D = some (.lst (out (i + 1)))) fun r H2 s2 e => ?_
  cases r with
  | none => exact ⟨s1.trans s2, by rw [e]; simpa using s2 _ _ d1⟩
  | some y => exact ⟨out i, s2 _ _ d1, Nat.lt_trans (hz i (Nat.le_of_lt hi')) hzl, up (s1.trans s2), by rw [upd_same, e] <;> rfl⟩
theorem kLcR1_of {n : Nat} (out : Nat → List V) (hn : n ≤ 1000000) (h0 : out 0 = []) (hz : ∀ i, i ≤ n → (out i).length < 1000000)
    (hs : ∀ (i : Nat) (H1 : Hp), i < n → Same H H1 → ∀ Qn : Option V → Hp → Prop, (∀ (r : Option V) (H2 : Hp), Same H1 H2 → out (i + 1) = out i ++ r.toList → Qn r H2) → LcTurn g tt te vs σ (.int (i : Int)) H1 Qn)
    (k : ∀ (D : Addr) (H' : Hp), H D = none → Same H H' → H' D = some (.lst (out n)) → Q (.ref D) H') : kLcR1 g tt te vs σ Q [.int (n : Int)] H := by
  have hzl : (1000000 : Nat) < sizeLine := by rw [sizeLine_eq]; decide
  refine ⟨n, rfl, by omega, by omega, fun D hD => ?_⟩
  have up : ∀ {H1 : Hp} {o : HO}, Same H H1 → Same H (upd H1 D o) := fun s b u e => by
    rw [upd_ne (ne_of_none e hD)]; exact s b u e
  refine lc_range (lo := 0) (n := (n : Int).toNat) (fun i H1 => Same H H1 ∧ H1 D = some (.lst (out i))) ⟨up (Same.refl H), by rw [h0]; exact upd_same⟩ (fun i H1 hi p => ?_) fun H1 p => k D H1 hD p.1 (by simpa using p.2)
  obtain ⟨s1, d1⟩ := p
  have hi' : i < n := by omega
  rw [Int.zero_add]
  refine hs i H1 hi' s1 (fun r H2 => match r with | some y => ∃ acc, H2 D = some (.lst acc) ∧ acc.length < sizeLine ∧ (Same H (upd H2 D (.lst (acc ++ [y]))) ∧ upd H2 D (.lst (acc ++ [y])) D = some (.lst (out (i + 1)))) | none => Same H H2 ∧ H2 D = some (.lst (out (i + 1)))) fun r H2 s2 e => ?_
  cases r with
  | none => exact ⟨s1.trans s2, by rw [e]; simpa using s2 _ _ d1⟩
  | some y => exact ⟨out i, s2 _ _ d1, Nat.lt_trans (hz i (Nat.le_of_lt hi')) hzl, up (s1.trans s2), by rw [upd_same, e] <;> rfl⟩
theorem kLcR2_of {lo n : Nat} (out : Nat → List V) (hn : lo + n ≤ 1000000) (h0 : out 0 = []) (hz : ∀ i, i ≤ n → (out i).length < 1000000)
    (hs : ∀ (i : Nat) (H1 : Hp), i < n → Same H H1 → ∀ Qn : Option V → Hp → Prop, (∀ (r : Option V) (H2 : Hp), Same H1 H2 → out (i + 1) = out i ++ r.toList → Qn r H2) → LcTurn g tt te vs σ (.int (((lo + i : Nat)) : Int)) H1 Qn)
    (k : ∀ (D : Addr) (H' : Hp), H D = none → Same H H' → H' D = some (.lst (out n)) → Q (.ref D) H') {e : Int} (he : (e - lo).toNat = n) (he2 : e ≤ 1000000) (he3 : -1000000 ≤ e) : kLcR2 g tt te vs σ Q [.int (lo : Int), .int e] H := by
  have hzl : (1000000 : Nat) < sizeLine := by rw [sizeLine_eq]; decide
  refine ⟨lo, e, rfl, by omega, fun D hD => ?_⟩
  have up : ∀ {H1 : Hp} {o : HO}, Same H H1 → Same H (upd H1 D o) := fun s b u e => by
    rw [upd_ne (ne_of_none e hD)]; exact s b u e
  refine lc_range (lo := (lo : Int)) (n := (e - lo).toNat) (fun i H1 => Same H H1 ∧ H1 D = some (.lst (out i))) ⟨up (Same.refl H), by rw [h0]; exact upd_same⟩ (fun i H1 hi p => ?_) fun H1 p => k D H1 hD p.1 (by rw [← he]; exact p.2)
  obtain ⟨s1, d1⟩ := p
  have hi' : i < n := by omega
  have ei : (lo : Int) + (i : Int) = ((lo + i : Nat) : Int) := by omega
  rw [ei]
  refine hs i H1 hi' s1 (fun r H2 => match r with | some y => ∃ acc, H2 D = some (.lst acc) ∧ acc.length < sizeLine ∧ (Same H (upd H2 D (.lst (acc ++ [y]))) ∧ upd H2 D (.lst (acc ++ [y])) D = some (.lst (out (i + 1)))) | none => Same H H2 ∧ H2 D = some (.lst (out (i + 1)))) fun r H2 s2 e => ?_
  cases r with
  | none => exact ⟨s1.trans s2, by rw [e]; simpa using s2 _ _ d1⟩
  | some y => exact ⟨out i, s2 _ _ d1, Nat.lt_trans (hz i (Nat.le_of_lt hi')) hzl, up (s1.trans s2), by rw [upd_same, e] <;> rfl⟩
end
/-! loops -/
section
variable {K : PySem.W.Frag} {σ : St} {H : Hp} {D : Ends} {tl : TE} {ta : TA} {g : TG} {tb : TS}
def kFor (g : TG) (tb : TS) (D : Ends) (σ : St) (J : It) (H1 : Hp) : Prop := ∃ W : Nat → Nat → St → Hp → Prop, (∃ m, W 0 m σ H1) ∧ ∀ i m σ H, W i m σ H →
  (J.stop i H ∧ D.nx σ H) ∨ (J.go i H ∧ ∃ N : St → Hp → Prop, (∀ σ' H', N σ' H' → ∃ m', m' < m ∧ W (i + 1) m' σ' H') ∧ ∀ x H', J.yld i H x H' → g x σ H' fun σ2 H2 => tb { D with nx := N, ct := N, bk := D.nx } σ2 H2)
def kForL (K : PySem.W.Frag) (g : TG) (tb : TS) (D : Ends) (σ : St) : VK := fun x H1 => ∃ a, x = .ref a ∧ (∃ xs, SqL K H1 a xs) ∧ kFor g tb D σ (Itl K a) H1
theorem s_forL (h : tl σ H (kForL K g tb D σ)) : tFor (iList K tl) g tb D σ H := h
theorem kForL_of {a : Addr} {xs : List V} (hx : SqL K H a xs) (Pv : Nat → St → Hp → Prop) (h0 : Pv 0 σ H) (hl : ∀ i σ H, i ≤ xs.length → Pv i σ H → SqL K H a xs)
    (hs : ∀ i x σ H, xs[i]? = some x → Pv i σ H → g x σ H fun σ2 H2 => tb { D with nx := Pv (i + 1), ct := Pv (i + 1), bk := D.nx } σ2 H2) (hd : ∀ σ H, Pv xs.length σ H → D.nx σ H) : kForL K g tb D σ (.ref a) H :=
  ⟨a, rfl, ⟨xs, hx⟩, for_list Pv h0 hl hs hd⟩
def kForT (K : PySem.W.Frag) (g : TG) (tb : TS) (D : Ends) (σ : St) : VK := fun x H1 => ∃ a, x = .ref a ∧ (∃ xs, SqT K H1 a xs) ∧ kFor g tb D σ (Itt K a) H1
theorem s_forT (h : tl σ H (kForT K g tb D σ)) : tFor (iTup K tl) g tb D σ H := h
theorem kForT_of {a : Addr} {xs : List V} (hx : SqT K H a xs) (Pv : Nat → St → Hp → Prop) (h0 : Pv 0 σ H) (hl : ∀ i σ H, i ≤ xs.length → Pv i σ H → SqT K H a xs)
    (hs : ∀ i x σ H, xs[i]? = some x → Pv i σ H → g x σ H fun σ2 H2 => tb { D with nx := Pv (i + 1), ct := Pv (i + 1), bk := D.nx } σ2 H2) (hd : ∀ σ H, Pv xs.length σ H → D.nx σ H) : kForT K g tb D σ (.ref a) H :=
  ⟨a, rfl, ⟨xs, hx⟩, for_tup Pv h0 hl hs hd⟩
def kForR1 (g : TG) (tb : TS) (D : Ends) (σ : St) : List V → Hp → Prop := fun as H1 => ∃ j : Int, as = [.int j] ∧ -(2 ^ 62) ≤ j ∧ j < 2 ^ 62 ∧ kFor g tb D σ (Itr 0 j.toNat) H1
theorem s_forR1 (h : ta σ H (kForR1 g tb D σ)) : tFor (iRng1 ta) g tb D σ H := h
theorem kForR1_of {n : Nat} {e : Int} (he : e = (n : Int)) (hn : n ≤ 1000000) (Pv : Nat → St → Hp → Prop) (h0 : Pv 0 σ H)
    (hs : ∀ (i : Nat) σ H, i < n → Pv i σ H → g (.int (i : Int)) σ H fun σ2 H2 => tb { D with nx := Pv (i + 1), ct := Pv (i + 1), bk := D.nx } σ2 H2) (hd : ∀ σ H, Pv n σ H → D.nx σ H) : kForR1 g tb D σ [.int e] H := by
  subst he
  refine ⟨n, rfl, by omega, by omega, ?_⟩
  refine for_range (lo := 0) (n := (n : Int).toNat) Pv h0 (fun i σ H hi p => ?_) (fun σ H p => hd σ H (by simpa using p))
  rw [Int.zero_add]
  exact hs i σ H (by omega) p
def kForR2 (g : TG) (tb : TS) (D : Ends) (σ : St) : List V → Hp → Prop := fun as H1 => ∃ i j : Int, as = [.int i, .int j] ∧ (-(2 ^ 62) ≤ i ∧ i < 2 ^ 62 ∧ -(2 ^ 62) ≤ j ∧ j < 2 ^ 62) ∧ kFor g tb D σ (Itr i (j - i).toNat) H1
theorem s_forR2 (h : ta σ H (kForR2 g tb D σ)) : tFor (iRng2 ta) g tb D σ H := h
theorem kForR2_of {lo n : Nat} {e : Int} (he : (e - lo).toNat = n) (he2 : e ≤ 1000000) (he3 : -1000000 ≤ e) (hlo : lo ≤ 1000000) (Pv : Nat → St → Hp → Prop) (h0 : Pv 0 σ H)
    (hs : ∀ (i : Nat) σ H, i < n → Pv i σ H → g (.int (((lo + i : Nat)) : Int)) σ H fun σ2 H2 => tb { D with nx := Pv (i + 1), ct := Pv (i + 1), bk := D.nx } σ2 H2) (hd : ∀ σ H, Pv n σ H → D.nx σ H) : kForR2 g tb D σ [.int (lo : Int), .int e] H := by
  refine ⟨lo, e, rfl, by omega, ?_⟩
  refine for_range (lo := (lo : Int)) (n := (e - lo).toNat) Pv h0 (fun i σ H hi p => ?_) (fun σ H p => hd σ H (by rw [← he]; exact p))
  have ei : (lo : Int) + (i : Int) = ((lo + i : Nat) : Int) := by omega
  rw [ei]
  exact hs i σ H (by omega) p
def kForE (K : PySem.W.Frag) (g : TG) (tb : TS) (D : Ends) (σ : St) : List V → Hp → Prop := fun as H1 => ∃ a xs, as = [.ref a] ∧ SqL K H1 a xs ∧ kFor g tb D σ (Ite K a) H1
theorem s_forE (h : ta σ H (kForE K g tb D σ)) : tFor (iEnum K ta) g tb D σ H := h
theorem kForE_of {a : Addr} {xs : List V} (hx : SqL K H a xs) (Pv : Nat → St → Hp → Prop) (h0 : Pv 0 σ H) (hl : ∀ i σ H, i ≤ xs.length → Pv i σ H → SqL K H a xs)
    (hs : ∀ i x σ H, xs[i]? = some x → Pv i σ H → ∀ T, H T = none → g (.ref T) σ (upd H T (.tup [.int ((i : Nat) : Int), x])) fun σ2 H2 => tb { D with nx := Pv (i + 1), ct := Pv (i + 1), bk := D.nx } σ2 H2) (hd : ∀ σ H, Pv xs.length σ H → D.nx σ H) : kForE K g tb D σ [.ref a] H := by
  refine ⟨a, xs, rfl, hx, fun i m σ H => m = xs.length - i ∧ i ≤ xs.length ∧ Pv i σ H, ⟨xs.length, by simp, Nat.zero_le _, h0⟩, ?_⟩
  rintro i m σ H ⟨rfl, hi, p⟩
  have q := hl i σ H hi p
  by_cases hlt : i < xs.length
  · refine .inr ⟨⟨xs, xs[i], q, by simp [hlt]⟩, Pv (i + 1), fun σ' H' p' => ⟨xs.length - (i + 1), by omega, rfl, hlt, p'⟩, fun x H' y => ?_⟩
    obtain ⟨T, y, rfl, hT, rfl, hy⟩ := y
    exact hs i y σ H (hy xs q) p T hT
  · have e : i = xs.length := by omega
    subst e
    exact .inl ⟨⟨xs, q, Nat.le_refl _⟩, hd σ H p⟩
theorem iteNT {A B : Prop} (h : B) : if (!true) = true then A else B := h
theorem iteNF {A B : Prop} (h : A) : if (!false) = true then A else B := h
theorem via {A B : Prop} (h : A → B) (a : A) : B := h a
theorem viaH {R : Hp → Prop} {A : Prop} (W : Hp → Prop) (h : (∀ Hz, W Hz → R Hz) → A) (r : ∀ Hz, W Hz → R Hz) : A := h r
theorem s_cut {t u : TS} (Mid : St → Hp → Prop) (h : t { D with nx := Mid } σ H) (k : ∀ σ' H', Mid σ' H' → u D σ' H') : Evl.tCut t u D σ H := ⟨Mid, h, k⟩
/-- a pair taken apart -/
theorem g_tup2 {i j : Nat} {p : Addr} {u v : V} {Q : St → Hp → Prop} (h : SqT K H p [u, v]) (q : Q ((σ.set i (some u)).set j (some v)) H) : gTup K 2 (gCons (gName i) (gCons (gName j) gNil)) (.ref p) σ H Q :=
  ⟨p, _, rfl, h, rfl, u, [v], rfl, v, [], rfl, rfl, q⟩
end
end PR
/-! part pb_txt: what the top has written, in bundles; attributes by lists (own work) -/
namespace PR
open PySem L2
structure ClT (K : PySem.W.Frag) (mg : Str → Option Value) (nm : Str) where
  C : Addr
  cl : Cls K C
  g : mg nm = some (.ref C)
structure FnT (K : PySem.W.Frag) (mg : Str → Option Value) (nm qual : Str) (st : Stmt) (ps : List Str) where
  f : Addr
  fd : FuncData
  F : Fun K nm qual st f fd
  b : Binds K fd ps []
  g : mg nm = some (.ref f)
structure MtT (K : PySem.W.Frag) (C : Addr) (nm qual : Str) (st : Stmt) (ps : List Str) where
  f : Addr
  fd : FuncData
  F : Fun K nm qual st f fd
  b : Binds K fd ps []
  m : Meth K C nm f
structure InT (K : PySem.W.Frag) (C : Addr) (qual : Str) (st : Stmt) (ps : List Str) where
  f : Addr
  fd : FuncData
  F : Fun K "__init__" qual st f fd
  b : Binds K fd ps []
  kmk : Mk K C f
/-- an own exception class over ValueError -/
structure ExT (K : PySem.W.Frag) (mg : Str → Option Value) (nm : Str) where
  C : Addr
  g : mg nm = some (.ref C)
  x : PySem.W.excIn K C [.type "ValueError", .type "Exception", .type "BaseException", .type "object"] "ValueError.__new__" = true
  k : PySem.W.keepIn K (.ref C) = true
  b : PySem.W.subIn K (.ref C) (.type "BaseException") = some true
  t : PySem.W.typeIn K (.ref C) = some (.type "type")
  i : PySem.W.isClsIn K C = true
section
variable {X : Cx}
theorem pg_const {x : Str} {n : Int} {pos : Pos} (hg : Gl X x) (hm : ∃ t, X.mg x = some (.int n t)) (hd : (x == ("__debug__" : Str)) = false := by decide) : PE X (.Name x pos) (tC (.int n)) := by
  obtain ⟨t, h⟩ := hm
  exact pe_glob hg h ⟨t, rfl⟩ hd
theorem pg_ty {x : Str} {n : String} {pos : Pos} (hg : Gl X x) (hm : X.mg x = none) (hv : bootBuiltins x = some (.type n)) (hn : x ≠ "__name__" := by decide) (hd : (x == ("__debug__" : Str)) = false := by decide) : PE X (.Name x pos) (tC (.ty n)) :=
  pe_bltn hg hm hv rfl hn hd
theorem pg_ref {x : Str} {a : Addr} {pos : Pos} (hg : Gl X x) (hm : X.mg x = some (.ref a)) (hd : (x == ("__debug__" : Str)) = false := by decide) : PE X (.Name x pos) (tC (.ref a)) :=
  pe_glob hg hm rfl hd
end
/-! attributes -/
theorem lk_eq {k : Str} {v : V} {r : List (Str × V)} : List.lookup k ((k, v) :: r) = some v := by simp [List.lookup]
theorem lk_ne {k a : Str} {v : V} {r : List (Str × V)} (h : (k == a) = false) : List.lookup k ((a, v) :: r) = List.lookup k r := by simp [List.lookup, h]
theorem lk_nil {k : Str} : List.lookup k ([] : List (Str × V)) = none := rfl
theorem putF_nil {k : Str} {v : V} : putF k v [] = [(k, v)] := rfl
theorem putF_eq {k : Str} {v x : V} {r : List (Str × V)} : putF k v ((k, x) :: r) = (k, v) :: r := by
  show (if k = k then (k, v) :: r else _) = _
  rw [if_pos rfl]
theorem putF_ne {k a : Str} {v x : V} {r r' : List (Str × V)} (h : (a == k) = false) (e : putF k v r = r') : putF k v ((a, x) :: r) = (a, x) :: r' := by
  show (if a = k then (a, v) :: r else (a, x) :: putF k v r) = _
  rw [if_neg (by simpa using h), e]
theorem ltb {n m : Nat} (h : Nat.blt n m = true) : n < m := by simpa [Nat.blt_eq] using h
theorem leb {n m : Nat} (h : Nat.ble n m = true) : n ≤ m := by simpa [Nat.ble_eq] using h
theorem leSz {n : Nat} (h : Nat.ble n 100000 = true) : n ≤ sizeLine := Nat.le_trans (leb h) (by decide)
theorem s_fldE {K : PySem.W.Frag} {D : Ends} {σ : St} {H : Hp} {f : Str} {a C dx : Addr} {fs fs' : List (Str × V)} {y : V} (h1 : H a = some (.ins C dx fs)) (h2 : Cls K C) (h3 : NoAttr K C f) (h4 : fs.length < 1000) (h5 : putF f y fs = fs') (q : D.nx σ (upd H a (.ins C dx fs'))) : kSFld K f y D σ (.ref a) H := by
  subst h5
  exact s_fldK h1 h2 h3 h4 q
theorem szlt {n : Nat} (h : n < 100000) : n < sizeLine := Nat.lt_of_lt_of_le h (by decide)
theorem r_new {n : Nat} {A : Prop} (h : n ≤ sizeLine) (q : A) : n ≤ sizeLine ∧ A := ⟨h, q⟩
theorem sqT {K : PySem.W.Frag} {H : Hp} {p : Addr} {xs : List V} (h : H p = some (.tup xs)) : SqT K H p xs := SqT.of h
theorem ex_upd {H : Hp} {p : Addr} {o : HO} (h : H p = none) : ∀ b u, H b = some u → upd H p o b = some u := fun b u e => by rw [upd_ne (ne_of_none e h)]; exact e
end PR
/-! part pc_data: stations, tokens, rows as plain data; how they lie in the heap (own work) -/
namespace PR
open PySem L2
structure Stn where
  on : Bool
  seen : Int × Int
  sil : Int
  line : List (Int × Int)
  told : Int
structure Tok where
  number : Int
  maker : Int
  pos : Nat
  winner : Option Nat
  best : Option (Int × Nat)
abbrev stF (b : Bool) (t : Addr) (sil : Int) (l : Addr) (told : Int) : List (Str × V) := [("on", .bl b), ("seen", .ref t), ("silence", .int sil), ("line", .ref l), ("told", .int told)]
abbrev tkF (n m : Int) (a : Nat) (w b : V) : List (Str × V) := [("number", .int n), ("maker", .int m), ("at", .int (a : Int)), ("winner", w), ("best", b)]
abbrev tup2 (p : Int × Int) : HO := .tup [.int p.1, .int p.2]
/-- the addresses ps hold the pairs -/
def Prs (H : Hp) (ps : List (Addr × (Int × Int))) : Prop := ∀ q ∈ ps, H q.1 = some (tup2 q.2)
/-- a station at a, its list at l -/
structure StnAt (C : Addr) (H : Hp) (a l : Addr) (s : Stn) : Prop where
  ob : ∃ dx t, H a = some (.ins C dx (stF s.on t s.sil l s.told)) ∧ H t = some (tup2 s.seen)
  ln : ∃ ps : List (Addr × (Int × Int)), H l = some (.lst (ps.map fun q => .ref q.1)) ∧ ps.map (·.2) = s.line ∧ Prs H ps
def optN : Option Nat → V
  | none => .non
  | some n => .int (n : Int)
def optI : Option Int → V
  | none => .non
  | some n => .int n
def needM (s : Stn) : Option Int := s.line.head?.map fun p => p.1 + s.told
/-- what is tracked and is neither of these stays -/
def But2 (H H' : Hp) (a l : Addr) : Prop := ∀ b o, H b = some o → b ≠ a → b ≠ l → H' b = some o
def But1 (H H' : Hp) (a : Addr) : Prop := ∀ b o, H b = some o → b ≠ a → H' b = some o
theorem upd_none {H : Hp} {a b : Addr} {o : HO} (h : upd H a o b = none) : b ≠ a ∧ H b = none := by
  by_cases e : b = a
  · rw [e, upd_same] at h; cases h
  · rw [upd_ne e] at h; exact ⟨e, h⟩
theorem StnAt.keep {C : Addr} {H H' : Hp} {a l : Addr} {s : Stn} (S : StnAt C H a l s) (h : ∀ b o, H b = some o → (b = a ∨ b = l ∨ ∃ xs, o = .tup xs) → H' b = some o) : StnAt C H' a l s := by
  obtain ⟨⟨dx, t, h1, h2⟩, ps, h3, e, hps⟩ := S
  exact ⟨⟨dx, t, h _ _ h1 (.inl rfl), h _ _ h2 (.inr (.inr ⟨_, rfl⟩))⟩, ps, h _ _ h3 (.inr (.inl rfl)), e, fun q hq => h _ _ (hps q hq) (.inr (.inr ⟨_, rfl⟩))⟩
theorem StnAt.same {C : Addr} {H H' : Hp} {a l : Addr} {s : Stn} (S : StnAt C H a l s) (h : Same H H') : StnAt C H' a l s := S.keep fun b o e _ => h b o e
theorem StnAt.obj {C : Addr} {H : Hp} {a l : Addr} {s : Stn} (S : StnAt C H a l s) : ∃ dx fs, H a = some (.ins C dx fs) := by
  obtain ⟨⟨dx, t, h1, h2⟩, _⟩ := S
  exact ⟨dx, _, h1⟩
theorem StnAt.lst {C : Addr} {H : Hp} {a l : Addr} {s : Stn} (S : StnAt C H a l s) : ∃ xs, H l = some (.lst xs) := by
  obtain ⟨_, ps, h3, _⟩ := S
  exact ⟨_, h3⟩
theorem Prs.keep {H H' : Hp} {ps : List (Addr × (Int × Int))} (P : Prs H ps) (h : ∀ b xs, H b = some (.tup xs) → H' b = some (.tup xs)) : Prs H' ps := fun q hq => h _ _ (P q hq)
/-- what one write leaves: all but x; x held no tuple -/
theorem but_tup {H H' : Hp} {x : Addr} (h : But1 H H' x) (hx : ∀ xs, H x ≠ some (.tup xs)) : ∀ b xs, H b = some (.tup xs) → H' b = some (.tup xs) := fun b xs e => h b _ e fun z => hx xs (by rw [← z]; exact e)
theorem sameBut {H0 H H' : Hp} {x : Addr} (s : Same H0 H) (h : But1 H H' x) (hx : H0 x = none) : Same H0 H' := fun b o e => h b o (s b o e) fun z => by rw [z, hx] at e; cases e
theorem but_upd {H : Hp} {x : Addr} {o : HO} : But1 H (upd H x o) x := fun b u e hb => by rw [upd_ne hb]; exact e
end PR
/-! part pe_dat: rows of flat data, their equality (own work) -/
namespace PR
open PySem L2
def flatB : V → Bool
  | .non => true
  | .int _ => true
  | .bl _ => true
  | .str z => PyData.strOk z
  | _ => false
def pdF : V → PyData
  | .bl b => .bool b
  | .int i => .int i
  | .str z => .str z
  | _ => .none
section
variable {K : PySem.W.Frag} {H : Hp}
theorem dp_flat : ∀ {x : V}, flatB x = true → Dp K H x (pdF x)
  | .non, _ => .non
  | .int i, _ => .int i
  | .bl b, _ => .bl b
  | .str z, _ => .str z
theorem dpAll_flat : ∀ {xs : List V}, xs.all flatB = true → DpAll K H xs (xs.map pdF) ∧ PyData.canLayAll0 (xs.map pdF) = true ∧ PyData.depthAll (xs.map pdF) = 0
  | [], _ => ⟨.nil, rfl, rfl⟩
  | x :: xs, h => by
    rw [List.all_cons, Bool.and_eq_true] at h
    obtain ⟨h1, h2, h3⟩ := dpAll_flat (xs := xs) h.2
    refine ⟨.cons (dp_flat h.1) h1, ?_, ?_⟩
    · show (PyData.canLay0 (pdF x) && PyData.canLayAll0 (xs.map pdF)) = true
      rw [h2]
      cases x <;> first | rfl | (cases h.1; done) | (show (PyData.strOk _ && true) = true; rw [show PyData.strOk _ = true from h.1]; rfl)
    · show max (PyData.depth (pdF x)) (PyData.depthAll (xs.map pdF)) = 0
      rw [h3]
      cases x <;> rfl
/-- a flat thing, or a tuple of flat things -/
def Rowish (H : Hp) (x : V) : Prop := flatB x = true ∨ ∃ a vs, x = .ref a ∧ H a = some (.tup vs) ∧ vs.all flatB = true
theorem Rowish.mono {H H' : Hp} {x : V} (s : ∀ b xs, H b = some (.tup xs) → H' b = some (.tup xs)) (h : Rowish H x) : Rowish H' x := by
  rcases h with h | ⟨a, vs, h1, h2, h3⟩
  · exact .inl h
  · exact .inr ⟨a, vs, h1, s _ _ h2, h3⟩
theorem dp_row {x : V} (h : Rowish H x) : ∃ d, Dp K H x d ∧ PyData.canLay0 d = true ∧ PyData.depth d ≤ 1 := by
  rcases h with h | ⟨a, vs, rfl, h2, h3⟩
  · refine ⟨pdF x, dp_flat h, ?_, ?_⟩
    · cases x <;> first | rfl | exact h | (cases h; done)
    · cases x <;> exact Nat.zero_le _
  · obtain ⟨k1, k2, k3⟩ := dpAll_flat (K := K) (H := H) h3
    exact ⟨.tuple (vs.map pdF), .tup (SqT.of h2) k1, k2, by show PyData.depthAll _ + 1 ≤ 1; rw [k3]; exact Nat.le_refl _⟩
theorem dp_rows : ∀ {xs : List V}, (∀ x ∈ xs, Rowish H x) → ∃ ds, DpAll K H xs ds ∧ PyData.canLayAll0 ds = true ∧ PyData.depthAll ds ≤ 1
  | [], _ => ⟨[], .nil, rfl, Nat.zero_le _⟩
  | x :: xs, h => by
    obtain ⟨d, h1, h2, h3⟩ := dp_row (K := K) (h x List.mem_cons_self)
    obtain ⟨ds, k1, k2, k3⟩ := dp_rows (xs := xs) fun y hy => h y (List.mem_cons_of_mem _ hy)
    refine ⟨d :: ds, .cons h1 k1, ?_, ?_⟩
    · show (PyData.canLay0 d && PyData.canLayAll0 ds) = true
      rw [h2, k2] <;> rfl
    · show max (PyData.depth d) (PyData.depthAll ds) ≤ 1
      omega
theorem same_lists {Q : VK} {p q : Addr} {xs : List V} (h1 : H p = some (.lst xs)) (h2 : H q = some (.lst xs)) (hx : ∀ x ∈ xs, Rowish H x) (k : Q (.bl false) H) : rNeD K (.ref p) (.ref q) H Q := by
  obtain ⟨ds, k1, k2, k3⟩ := dp_rows (K := K) hx
  have hs : SeqAt.shaped (.list ds) = true := by
    show (PyData.canLayAll0 ds && decide (PyData.depthAll ds + 1 ≤ 64)) = true
    rw [k2, decide_eq_true (by omega)] <;> rfl
  exact r_neD (b := true) (.lst (SqL.of h1) k1) (.lst (SqL.of h2) k1) hs hs (SeqAt.eqv_refl _ k2) k
end
theorem dp_tup2 {K : PySem.W.Frag} {H : Hp} {t : Addr} {p : Int × Int} (h : H t = some (tup2 p)) : Dp K H (.ref t) (.tuple [.int p.1, .int p.2]) := .tup (SqT.of h) (.cons (.int _) (.cons (.int _) .nil))
/-- lists that were told, each beside a copy of it -/
def HeldAt (H : Hp) (ts : List Addr) : Prop := ∀ t ∈ ts, ∃ p q xs, H t = some (.tup [.ref p, .ref q]) ∧ H p = some (.lst xs) ∧ H q = some (.lst xs) ∧ ∀ x ∈ xs, Rowish H x
end PR
/-! part pf_num: the laws' own drawing (own work) -/
namespace PR
def mixH (c k : Int) : Int := (c + 7919 * k) * 48271 % 2147483647
def mixM (c k : Int) : Int := mixH c k * (mixH c k % 65537 + k + 1) % 2147483647
theorem mixH_nonneg (c k : Int) : 0 ≤ mixH c k := Int.emod_nonneg _ (by decide)
theorem mixH_lt (c k : Int) : mixH c k < 2147483647 := Int.emod_lt_of_pos _ (by decide)
theorem mixM_nonneg (c k : Int) : 0 ≤ mixM c k := Int.emod_nonneg _ (by decide)
theorem mixM_lt (c k : Int) : mixM c k < 2147483647 := Int.emod_lt_of_pos _ (by decide)
end PR
/-! own tactic rows (local) -/
local macro_rules | `(tactic| fail "ne") => `(tactic| first
  | assumption
  | exact Ne.symm (by assumption)
  | (refine' L2.ne_of_none ?h1 ?h2; (case h2 => assumption); (case h1 => first | assumption | fail "h"))
  | (refine' Ne.symm (L2.ne_of_none ?h1 ?h2); (case h2 => assumption); (case h1 => first | assumption | fail "h"))
  | (refine' L2.ne_of ?h1 ?h2 ?h3; (case h1 => assumption); (case h2 => assumption); (case h3 => (intro q; cases q))))
local macro_rules | `(tactic| fail "h") => `(tactic| first
  | assumption
  | exact L2.upd_same
  | (refine' Eq.trans (L2.upd_ne ?hn) ?hr; (case hn => fail "ne"); (case hr => fail "h")))
local macro_rules | `(tactic| fail "sq") => `(tactic| first
  | assumption
  | exact L2.SqL.of (by fail "h"))
local macro_rules | `(tactic| fail "sqt") => `(tactic| first
  | assumption
  | exact L2.SqT.of (by fail "h"))
local macro_rules | `(tactic| fail "cl") => `(tactic| first | assumption | exact PR.ClT.cl _)
local macro_rules | `(tactic| fail "lk") => `(tactic| first
  | assumption
  | (with_reducible exact PR.lk_eq)
  | (with_reducible exact PR.lk_nil)
  | (refine' Eq.trans (PR.lk_ne ?hk) ?hr; (case hk => decide +kernel); (case hr => fail "lk")))
local macro_rules | `(tactic| fail "pf") => `(tactic| first
  | (with_reducible exact PR.putF_nil)
  | (with_reducible exact PR.putF_eq)
  | (refine' PR.putF_ne ?hk ?hr; (case hk => decide +kernel); (case hr => fail "pf")))
local macro_rules | `(tactic| fail "isi") => `(tactic| first
  | (with_reducible refine' PR.isi_int_int ?_)
  | (with_reducible refine' PR.isi_int_bool ?_)
  | (with_reducible refine' PR.isi_int_str ?_)
  | (with_reducible refine' PR.isi_int_tuple ?_)
  | (with_reducible refine' PR.isi_int_list ?_)
  | (with_reducible refine' PR.isi_bl_int ?_)
  | (with_reducible refine' PR.isi_bl_bool ?_)
  | (with_reducible refine' PR.isi_bl_str ?_)
  | (with_reducible refine' PR.isi_bl_tuple ?_)
  | (with_reducible refine' PR.isi_bl_list ?_)
  | (with_reducible refine' PR.isi_non_int ?_)
  | (with_reducible refine' PR.isi_non_bool ?_)
  | (with_reducible refine' PR.isi_non_str ?_)
  | (with_reducible refine' PR.isi_non_tuple ?_)
  | (with_reducible refine' PR.isi_non_list ?_)
  | (with_reducible refine' PR.isi_str_int ?_)
  | (with_reducible refine' PR.isi_str_bool ?_)
  | (with_reducible refine' PR.isi_str_str ?_)
  | (with_reducible refine' PR.isi_str_tuple ?_)
  | (with_reducible refine' PR.isi_str_list ?_)
  | ((with_reducible refine' PR.isi_lst_int ?hh ?_); (case hh => fail "h"))
  | ((with_reducible refine' PR.isi_lst_bool ?hh ?_); (case hh => fail "h"))
  | ((with_reducible refine' PR.isi_lst_str ?hh ?_); (case hh => fail "h"))
  | ((with_reducible refine' PR.isi_lst_tuple ?hh ?_); (case hh => fail "h"))
  | ((with_reducible refine' PR.isi_lst_list ?hh ?_); (case hh => fail "h"))
  | ((with_reducible refine' PR.isi_tup_int ?hh ?_); (case hh => fail "h"))
  | ((with_reducible refine' PR.isi_tup_bool ?hh ?_); (case hh => fail "h"))
  | ((with_reducible refine' PR.isi_tup_str ?hh ?_); (case hh => fail "h"))
  | ((with_reducible refine' PR.isi_tup_tuple ?hh ?_); (case hh => fail "h"))
  | ((with_reducible refine' PR.isi_tup_list ?hh ?_); (case hh => fail "h")))
local macro_rules | `(tactic| fail "st1") => `(tactic| first
  | ((with_reducible refine' PR.r_var ?hh ?_); (case hh => exact rfl))
  | (with_reducible refine' PR.r_c ?_)
  | (with_reducible refine' PR.r_fld ?_)
  | ((with_reducible refine' PR.r_fldK ?hh ?hc ?hn ?hl ?_); (case hh => fail "h"); (case hc => fail "cl"); (case hn => fail "na"); (case hl => fail "lk"))
  | (with_reducible refine' PR.r_op ?_)
  | (with_reducible refine' PR.r_I0 ?_)
  | ((with_reducible refine' PR.r_I ?hh ?_); (case hh => first | decide | assumption | omega | exact Or.inl ⟨by decide, by decide⟩ | exact Or.inr ⟨by decide, by decide⟩ | exact Or.inl ⟨by omega, by omega⟩ | exact Or.inr ⟨by omega, by omega⟩ | exact ⟨by decide, by decide⟩ | exact ⟨by omega, by omega⟩ | exact ⟨by decide, by decide, by decide⟩))
  | (with_reducible refine' PR.r_U ?_)
  | ((with_reducible refine' PR.r_eq ?hh ?_); (case hh => exact rfl))
  | ((with_reducible refine' PR.r_ne ?hh ?_); (case hh => exact rfl))
  | (with_reducible refine' PR.r_isN ?_)
  | (with_reducible refine' PR.r_notN ?_)
  | (with_reducible refine' PR.r_tTest ?_)
  | (with_reducible refine' PR.r_tB ?_)
  | (with_reducible refine' PR.r_kB ?_)
  | (with_reducible refine' PR.r_cons ?_)
  | (with_reducible refine' PR.r_nil ?_)
  | (with_reducible refine' PR.r_cb ?_)
  | (with_reducible refine' PR.r_bm ?_)
  | (with_reducible refine' PR.r_bm0 ?_)
  | ((with_reducible refine' PR.r_tyL ?hh ?_); (case hh => fail "sq"))
  | (with_reducible refine' PR.r_tyS ?_)
  | (with_reducible refine' PR.r_meth ?_)
  | ((with_reducible refine' PR.r_methK ?hh ?hl ?_); (case hh => fail "h"); (case hl => fail "lk"))
  | (with_reducible refine' PR.r_call ?_)
  | (with_reducible refine' PR.r_make ?_)
  | (with_reducible refine' PR.r_tup ?_)
  | (with_reducible refine' PR.r_lst ?_)
  | ((with_reducible refine' PR.r_len ?hh ?_); (case hh => fail "sq"))
  | ((with_reducible refine' PR.r_lenT ?hh ?_); (case hh => fail "sqt"))
  | ((with_reducible refine' PR.r_ixL ?hh ?he ?_); (case hh => fail "sq"); (case he => first | assumption | exact PR.at0 | exact PR.atk (by assumption) | exact PR.at_snoc (by omega)))
  | ((with_reducible refine' PR.r_ixT ?hh ?he ?_); (case hh => fail "sqt"); (case he => first | assumption | exact rfl | exact PR.at0 | exact PR.atk (by assumption)))
  | ((with_reducible refine' PR.r_gtT ?hh ?he ?_); (case hh => fail "sqt"); (case he => fail "sqt"))
  | ((with_reducible refine' PR.r_eqNil ?hh ?he ?_); (case hh => fail "sq"); (case he => fail "sq"))
  | ((with_reducible refine' PR.r_neNil ?hh ?he ?_); (case hh => fail "sq"); (case he => fail "sq"))
  | (with_reducible refine' PR.r_isB ?_)
  | (with_reducible refine' PR.r_isnotB ?_)
  | ((with_reducible refine' PR.r_listOf ?hh ?_); (case hh => fail "sq"))
  | fail "isi"
  | (with_reducible refine' PR.rr_max2 ?_)
  | (with_reducible refine' PR.rr_min2 ?_)
  | ((with_reducible refine' PR.r_append ?hh ?hz ?_); (case hh => fail "h"); (case hz => first | assumption | omega | exact PR.szlt (by omega))))
local macro_rules | `(tactic| fail "st2") => `(tactic| first
  | (with_reducible refine' PR.s_seq ?_)
  | (with_reducible refine' PR.s_next ?_)
  | (with_reducible refine' PR.s_asg ?_)
  | (with_reducible refine' PR.s_name ?_)
  | (with_reducible refine' PR.s_if ?_)
  | (with_reducible refine' L2.iteT ?_)
  | (with_reducible refine' L2.iteF ?_)
  | (with_reducible refine' PR.iteNT ?_)
  | (with_reducible refine' PR.iteNF ?_)
  | (with_reducible refine' PR.s_fld ?_)
  | ((with_reducible refine' PR.s_fldE ?hh ?hc ?hn ?hl ?hp ?_); (case hh => fail "h"); (case hc => fail "cl"); (case hn => fail "na"); (case hl => exact PR.ltb rfl); (case hp => fail "pf"))
  | (with_reducible refine' PR.s_forL ?_)
  | (with_reducible refine' PR.s_forR1 ?_)
  | (with_reducible refine' PR.s_forR2 ?_)
  | (with_reducible refine' PR.s_forE ?_)
  | (with_reducible refine' PR.s_forT ?_)
  | (with_reducible refine' PR.r_lcL ?_)
  | (with_reducible refine' PR.r_lcR1 ?_)
  | (with_reducible refine' PR.r_lcR2 ?_)
  | (with_reducible refine' PR.s_ret ?_)
  | (with_reducible refine' PR.s_retN ?_)
  | (with_reducible refine' PR.s_drop ?_)
  | (with_reducible refine' PR.s_brk ?_)
  | (with_reducible refine' PR.s_cont ?_)
  | (with_reducible refine' PR.r_and ?_)
  | (with_reducible refine' PR.r_or ?_)
  | (with_reducible refine' PR.r_not ?_)
  | (with_reducible refine' PR.r_yes ?_)
  | (with_reducible refine' PR.r_tru ?_)
  | (with_reducible refine' PR.r_if ?_)
  | (with_reducible refine' PR.r_andV ?_)
  | (with_reducible refine' PR.r_andVK ?_)
  | (with_reducible refine' PR.r_orV ?_)
  | (with_reducible refine' PR.r_orVK ?_)
  | (with_reducible refine' PR.r_notV ?_)
  | (with_reducible refine' PR.r_notVK ?_)
  | (with_reducible refine' PR.r_chain ?_)
  | (with_reducible refine' PR.r_chainK ?_)
  | (with_reducible refine' PR.r_un ?_)
  | ((with_reducible refine' PR.r_new ?hz ?_); (case hz => exact PR.leSz rfl)))
local macro_rules | `(tactic| fail "go1") => `(tactic| first | fail "st1" | fail "st2" | dsimp only)
local macro_rules | `(tactic| fail "go") => `(tactic| repeat (fail "go1"))
namespace My
open PySem L2
def topS (i : Nat) : Stmt := PySem.Challenge.pw_passring_k02_a_station.main.body.getD i (.Pass ⟨0, 0, 0, 0⟩)
abbrev s_Station_init : Stmt := inClass (topS 1) 0
abbrev s_Station_put : Stmt := inClass (topS 1) 1
abbrev s_Station_messages : Stmt := inClass (topS 1) 2
abbrev s_Station_need : Stmt := inClass (topS 1) 3
abbrev s_Station_tell : Stmt := inClass (topS 1) 4
abbrev s_Station_send : Stmt := inClass (topS 1) 5
abbrev s_law_whole : Stmt := topS 3
abbrev s_law_mixed : Stmt := topS 4
abbrev s_law_held : Stmt := topS 5
abbrev s_law_same : Stmt := topS 6
abbrev s_law : Stmt := topS 7
structure Tx (K : PySem.W.Frag) (mg : Str → Option Value) where
  Station : PR.ClT K mg "Station"
  na_Station_on : NoAttr K Station.C "on"
  na_Station_seen : NoAttr K Station.C "seen"
  na_Station_silence : NoAttr K Station.C "silence"
  na_Station_line : NoAttr K Station.C "line"
  na_Station_told : NoAttr K Station.C "told"
  m_Station_init : PR.InT K Station.C "Station.__init__" s_Station_init ["self"]
  m_Station_put : PR.MtT K Station.C "put" "Station.put" s_Station_put ["self", "rank", "mark"]
  m_Station_messages : PR.MtT K Station.C "messages" "Station.messages" s_Station_messages ["self"]
  m_Station_need : PR.MtT K Station.C "need" "Station.need" s_Station_need ["self"]
  m_Station_tell : PR.MtT K Station.C "tell" "Station.tell" s_Station_tell ["self"]
  m_Station_send : PR.MtT K Station.C "send" "Station.send" s_Station_send ["self"]
  f_law_whole : PR.FnT K mg "_law_whole" "_law_whole" s_law_whole ["_law_found"]
  f_law_mixed : PR.FnT K mg "_law_mixed" "_law_mixed" s_law_mixed ["_law_cell", "_law_k"]
  f_law_held : PR.FnT K mg "_law_held" "_law_held" s_law_held ["_law_held_here"]
  f_law_same : PR.FnT K mg "_law_same" "_law_same" s_law_same ["_law_found", "_law_due"]
  f_law : PR.FnT K mg "law" "law" s_law ["_law_script"]
  n_len : mg "len" = none
  n_list : mg "list" = none
  n_isinstance : mg "isinstance" = none
  n_int : mg "int" = none
  n_bool : mg "bool" = none
  n_str : mg "str" = none
  n_tuple : mg "tuple" = none
  n_all : mg "all" = none
  n_range : mg "range" = none
  n_min : mg "min" = none
theorem sc_Station_init : FnScope ["self"] ["self"] (defScope s_Station_init) := ⟨rfl, rfl, rfl, by decide +kernel, rfl, by decide +kernel, by decide +kernel⟩
theorem sc_Station_put : FnScope ["self", "rank", "mark"] ["self", "rank", "mark"] (defScope s_Station_put) := ⟨rfl, rfl, rfl, by decide +kernel, rfl, by decide +kernel, by decide +kernel⟩
theorem sc_Station_messages : FnScope ["self"] ["self"] (defScope s_Station_messages) := ⟨rfl, rfl, rfl, by decide +kernel, rfl, by decide +kernel, by decide +kernel⟩
theorem sc_Station_need : FnScope ["self"] ["self"] (defScope s_Station_need) := ⟨rfl, rfl, rfl, by decide +kernel, rfl, by decide +kernel, by decide +kernel⟩
theorem sc_Station_tell : FnScope ["self", "found"] ["self"] (defScope s_Station_tell) := ⟨rfl, rfl, rfl, by decide +kernel, rfl, by decide +kernel, by decide +kernel⟩
theorem sc_Station_send : FnScope ["self"] ["self"] (defScope s_Station_send) := ⟨rfl, rfl, rfl, by decide +kernel, rfl, by decide +kernel, by decide +kernel⟩
theorem sc_law_whole : FnScope ["_law_found"] ["_law_found"] (defScope s_law_whole) := ⟨rfl, rfl, rfl, by decide +kernel, rfl, by decide +kernel, by decide +kernel⟩
theorem sc_law_mixed : FnScope ["_law_cell", "_law_k", "_law_mixed_here"] ["_law_cell", "_law_k"] (defScope s_law_mixed) := ⟨rfl, rfl, rfl, by decide +kernel, rfl, by decide +kernel, by decide +kernel⟩
theorem sc_law_held : FnScope ["_law_held_here", "_law_pair"] ["_law_held_here"] (defScope s_law_held) := ⟨rfl, rfl, rfl, by decide +kernel, rfl, by decide +kernel, by decide +kernel⟩
theorem sc_law_same : FnScope ["_law_found", "_law_due", "_law_k"] ["_law_found", "_law_due"] (defScope s_law_same) := ⟨rfl, rfl, rfl, by decide +kernel, rfl, by decide +kernel, by decide +kernel⟩
theorem sc_law : FnScope ["_law_script", "_law_station", "_law_beside", "_law_line", "_law_told", "_law_held_here", "_law_k", "_law_pick", "_law_due", "_law_found"] ["_law_script"] (defScope s_law) := ⟨rfl, rfl, rfl, by decide +kernel, rfl, by decide +kernel, by decide +kernel⟩
end My
local macro_rules | `(tactic| fail "na") => `(tactic| first | assumption | exact My.Tx.na_Station_on _ | exact My.Tx.na_Station_seen _ | exact My.Tx.na_Station_silence _ | exact My.Tx.na_Station_line _ | exact My.Tx.na_Station_told _)
/-! part w_station: the methods of Station -/
namespace My
open PySem L2 PR
def spStInit (C : Addr) : Sp := fun vs H Q _ => ∃ (p dx : Addr), vs = [.ref p] ∧ H p = some (.ins C dx []) ∧
  ∀ (H' : Hp) (l : Addr), StnAt C H' p l ⟨true, (0, 0), 0, [], 0⟩ → H l = none → But1 H H' p → Q .non H'
def spStPut (C : Addr) : Sp := fun vs H Q _ => ∃ (a l : Addr) (s : Stn) (r m : Int), vs = [.ref a, .int r, .int m] ∧ StnAt C H a l s ∧ s.line.length < 100000 ∧
  ∀ H' : Hp, StnAt C H' a l { s with line := s.line ++ [(r, m)] } → But1 H H' l → Q .non H'
def spStMessages (C : Addr) : Sp := fun vs H Q _ => ∃ (a l : Addr) (s : Stn), vs = [.ref a] ∧ StnAt C H a l s ∧
  ∀ (H' : Hp) (p : Addr) (ps : List (Addr × (Int × Int))), H p = none → H' p = some (.lst (ps.map fun q => .ref q.1)) → ps.map (·.2) = s.line → Prs H' ps → Same H H' → Q (.ref p) H'
def spStNeed (C : Addr) : Sp := fun vs H Q _ => ∃ (a l : Addr) (s : Stn), vs = [.ref a] ∧ StnAt C H a l s ∧ ∀ H' : Hp, Same H H' → Q (optI (needM s)) H'
def spStTell (C : Addr) : Sp := fun vs H Q _ => ∃ (a l : Addr) (s : Stn), vs = [.ref a] ∧ StnAt C H a l s ∧
  ∀ H' : Hp, StnAt C H' a l { s with told := s.told + 1 } → But1 H H' a → Q (optI (needM s)) H'
def spStSend (C : Addr) : Sp := fun vs H Q _ => ∃ (a l : Addr) (s : Stn) (m : Int × Int) (r : List (Int × Int)), vs = [.ref a] ∧ StnAt C H a l s ∧ s.line = m :: r ∧ s.line.length < 100000 ∧
  ∀ (H' : Hp) (t : Addr), StnAt C H' a l { s with told := 0, line := r } → H t = some (tup2 m) → H' t = some (tup2 m) → But2 H H' a l → Q (.ref t) H'
section
variable {P : Program} {w : World} {K : PySem.W.Frag} {mg : Str → Option Value} {base : Heap}
theorem ok_Station_init (T : Tx K mg) : FnOk P w K mg base CX0 1 T.m_Station_init.f T.m_Station_init.fd ["self"] (spStInit T.Station.C) := by
  refine T.m_Station_init.F.ok sc_Station_init (fun vs H Q E h => ?_) (fun cdv A outer s H vs Q E hr h => ?_)
  · obtain ⟨p, dx, rfl, _⟩ := h
    rfl
  · obtain ⟨p, dx, rfl, hp, k⟩ := h
    refine ⟨_, (pss_cons (ps_fld (pv 0) pe_bl rfl) (pss_cons (ps_fld (pv 0) (pe_tup (pa_cons pe_int (pa_cons pe_int pa_nil))) rfl) (pss_cons (ps_fld (pv 0) pe_int rfl) (pss_cons (ps_fld (pv 0) (pe_lst pa_nil) rfl) (pss_one (ps_fld (pv 0) pe_int rfl)))))), ?_⟩
    fail "go"
    intro t ht
    fail "go"
    intro l hl
    fail "go"
    have tp : t ≠ p := by
      intro e; subst e; rw [upd_same] at ht; cases ht
    have H0t : H t = none := by rwa [upd_ne tp] at ht
    have lp : l ≠ p := by
      intro e; subst e; rw [upd_same] at hl; cases hl
    have lt : l ≠ t := by
      intro e; subst e; rw [upd_ne lp, upd_ne lp, upd_same] at hl; cases hl
    have H0l : H l = none := by rwa [upd_ne lp, upd_ne lp, upd_ne lt, upd_ne lp] at hl
    refine k _ l ⟨⟨dx, t, upd_same, ?_⟩, [], ?_, rfl, fun q hq => by cases hq⟩ H0l fun b o e hb => ?_
    · rw [upd_ne tp, upd_ne tp, upd_ne lt.symm, upd_ne tp, upd_ne tp, upd_same] <;> rfl
    · rw [upd_ne lp, upd_ne lp, upd_same] <;> rfl
    · rw [upd_ne hb, upd_ne hb, upd_ne (ne_of_none e H0l), upd_ne hb, upd_ne hb, upd_ne (ne_of_none e H0t), upd_ne hb]; exact e
theorem ok_Station_put (T : Tx K mg) : FnOk P w K mg base CX0 1 T.m_Station_put.f T.m_Station_put.fd ["self", "rank", "mark"] (spStPut T.Station.C) := by
  refine T.m_Station_put.F.ok sc_Station_put (fun vs H Q E h => ?_) (fun cdv A outer s H vs Q E hr h => ?_)
  · obtain ⟨a, l, s, r, m, rfl, _⟩ := h
    rfl
  · obtain ⟨a, l, s, r, m, rfl, ⟨⟨dx, t, h1, h2⟩, ps, h3, e, hps⟩, hz, k⟩ := h
    refine ⟨_, (pss_one (ps_expr (pe_bm PySem.F.plainAttrs_list PySem.F.slot_list_append PySem.F.type_list_append mt_append (pe_fld (pv 0) rfl) (pa_cons (pe_tup (pa_cons (pv 1) (pa_cons (pv 2) pa_nil))) pa_nil)))), ?_⟩
    have hz' : (ps.map fun q => V.ref q.1).length < 100000 := by rw [List.length_map, ← List.length_map (f := (·.2)), e]; exact hz
    fail "go"
    intro p hp
    fail "go"
    have al : a ≠ l := ne_of h1 h3 (by intro q; cases q)
    have tl : t ≠ l := ne_of h2 h3 (by intro q; cases q)
    have pl : p ≠ l := (ne_of_none h3 hp).symm
    have ap : a ≠ p := ne_of_none h1 hp
    have tp : t ≠ p := ne_of_none h2 hp
    refine k _ ⟨⟨dx, t, ?_, ?_⟩, ps ++ [(p, (r, m))], ?_, by simp [e], fun q hq => ?_⟩ fun b o e hb => ?_
    · rw [upd_ne al, upd_ne ap]; exact h1
    · rw [upd_ne tl, upd_ne tp]; exact h2
    · rw [upd_same, List.map_append] <;> rfl
    · rcases List.mem_append.mp hq with hq | hq
      · have z := hps q hq
        rw [upd_ne (ne_of z h3 (by intro q; cases q)), upd_ne (ne_of_none z hp)]; exact z
      · cases List.mem_singleton.mp hq
        rw [upd_ne pl, upd_same] <;> rfl
    · rw [upd_ne hb, upd_ne (ne_of_none e hp)]; exact e
theorem ok_Station_messages (T : Tx K mg) : FnOk P w K mg base CX0 1 T.m_Station_messages.f T.m_Station_messages.fd ["self"] (spStMessages T.Station.C) := by
  refine T.m_Station_messages.F.ok sc_Station_messages (fun vs H Q E h => ?_) (fun cdv A outer s H vs Q E hr h => ?_)
  · obtain ⟨a, l, s, rfl, _⟩ := h
    rfl
  · obtain ⟨a, l, s, rfl, ⟨⟨dx, t, h1, h2⟩, ps, h3, e, hps⟩, k⟩ := h
    refine ⟨_, (pss_one (ps_ret (pe_callTy PR.c_listOf (by rfl) T.n_list (by decide +kernel) (pa_cons (pe_fld (pv 0) rfl) pa_nil)))), ?_⟩
    fail "go"
    intro p hp
    exact k _ p ps hp upd_same e (fun q hq => ex_upd hp _ _ (hps q hq)) (ex_upd hp)
theorem ok_Station_need (T : Tx K mg) : FnOk P w K mg base CX0 1 T.m_Station_need.f T.m_Station_need.fd ["self"] (spStNeed T.Station.C) := by
  refine T.m_Station_need.F.ok sc_Station_need (fun vs H Q E h => ?_) (fun cdv A outer s H vs Q E hr h => ?_)
  · obtain ⟨a, l, s, rfl, _⟩ := h
    rfl
  · obtain ⟨a, l, s, rfl, ⟨⟨dx, t, h1, h2⟩, ps, h3, e, hps⟩, k⟩ := h
    refine ⟨_, (pss_cons (ps_if (pt_cmpR (PR.op_eqNil hr.units0) (pe_fld (pv 0) rfl) (pe_lst pa_nil) (nomark _)) (pss_one (ps_ret pe_non)) pss_nil) (pss_one (ps_ret (pe_op op_add (pe_ix ix_tup (pe_ix ix_list (pe_fld (pv 0) rfl) pe_int (fun _ _ => rfl)) pe_int (fun _ _ => rfl)) (pe_fld (pv 0) rfl))))), ?_⟩
    fail "go"
    intro p hp
    fail "go"
    cases ps with
    | nil =>
      have e' : s.line = [] := e.symm
      have z := k (upd H p (.lst [])) (ex_upd hp)
      unfold needM at z
      rw [e'] at z
      exact iteT z
    | cons q r =>
      have e' : s.line = q.2 :: r.map (·.2) := e.symm
      have z := k (upd H p (.lst [])) (ex_upd hp)
      unfold needM at z
      rw [e'] at z
      have hq : H q.1 = some (tup2 q.2) := hps q List.mem_cons_self
      refine iteF ?_
      fail "go"
      exact z
theorem ok_Station_tell (T : Tx K mg) : FnOk P w K mg base CX0 2 T.m_Station_tell.f T.m_Station_tell.fd ["self"] (spStTell T.Station.C) := by
  refine T.m_Station_tell.F.ok sc_Station_tell (fun vs H Q E h => ?_) (fun cdv A outer s H vs Q E hr h => ?_)
  · obtain ⟨a, l, s, rfl, _⟩ := h
    rfl
  · obtain ⟨a, l, s, rfl, S, k⟩ := h
    obtain ⟨⟨dx, t, h1, h2⟩, ps, h3, e, hps⟩ := id S
    refine ⟨_, (pss_cons (ps_set (i := 1) sc_Station_tell.nd rfl (Or.inl rfl) (pe_meth0 (pv 0) T.Station.cl T.m_Station_need.m (ok_Station_need T) (hr.mono (by first | decide | omega)) T.m_Station_need.b .nil pass0)) (pss_cons (ps_fld (pv 0) (pe_op op_add (pe_fld (pv 0) rfl) pe_int) rfl) (pss_one (ps_ret (pv 1))))), ?_⟩
    fail "go"
    refine ⟨a, l, s, rfl, S, fun H1 s1 => ?_⟩
    have h1' := s1 _ _ h1
    fail "go"
    refine k _ ⟨⟨dx, t, upd_same, ?_⟩, ps, ?_, e, fun q hq => ?_⟩ fun b o e hb => ?_
    · rw [upd_ne (ne_of h2 h1 (by intro q; cases q))]; exact s1 _ _ h2
    · rw [upd_ne (ne_of h3 h1 (by intro q; cases q))]; exact s1 _ _ h3
    · rw [upd_ne (ne_of (hps q hq) h1 (by intro q; cases q))]; exact s1 _ _ (hps q hq)
    · rw [upd_ne hb]; exact s1 _ _ e
theorem ok_Station_send (T : Tx K mg) : FnOk P w K mg base CX0 1 T.m_Station_send.f T.m_Station_send.fd ["self"] (spStSend T.Station.C) := by
  refine T.m_Station_send.F.ok sc_Station_send (fun vs H Q E h => ?_) (fun cdv A outer s H vs Q E hr h => ?_)
  · obtain ⟨a, l, s, m, r, rfl, _⟩ := h
    rfl
  · obtain ⟨a, l, s, m, r, rfl, ⟨⟨dx, t, h1, h2⟩, ps, h3, e, hps⟩, hl, hz, k⟩ := h
    refine ⟨_, (pss_cons (ps_fld (pv 0) pe_int rfl) (pss_one (ps_ret (pe_bm PySem.F.plainAttrs_list PySem.F.slot_list_pop PySem.F.type_list_pop mt_popAt (pe_fld (pv 0) rfl) (pa_cons pe_int pa_nil))))), ?_⟩
    rw [hl] at e
    cases ps with
    | nil => cases e
    | cons q ps =>
      obtain ⟨rfl, rfl⟩ : q.2 = m ∧ ps.map (·.2) = r := by
        injection e with e1 e2
        exact ⟨e1, e2⟩
      have hq := hps q List.mem_cons_self
      have al : a ≠ l := ne_of h1 h3 (by intro q; cases q)
      fail "go"
      have hlen : ((q :: ps).map fun q => V.ref q.1).length ≤ sizeLine := by
        rw [List.length_map]
        rw [hl, List.length_cons, List.length_map] at hz
        exact Nat.le_of_lt (szlt hz)
      refine r_popAt (k := 0) (by rw [upd_ne al.symm]; exact h3) (by decide) rfl (by simp) hlen rfl ?_
      refine k _ q.1 ⟨⟨dx, t, ?_, ?_⟩, ps, ?_, rfl, fun q' hq' => ?_⟩ hq ?_ fun b o e hb hb' => ?_
      · rw [upd_ne al, upd_same] <;> rfl
      · rw [upd_ne (ne_of h2 h3 (by intro q; cases q)), upd_ne (ne_of h2 h1 (by intro q; cases q))]; exact h2
      · rw [upd_same] <;> rfl
      · have z := hps q' (List.mem_cons_of_mem _ hq')
        rw [upd_ne (ne_of z h3 (by intro q; cases q)), upd_ne (ne_of z h1 (by intro q; cases q))]; exact z
      · rw [upd_ne (ne_of hq h3 (by intro q; cases q)), upd_ne (ne_of hq h1 (by intro q; cases q))]; exact hq
      · rw [upd_ne hb', upd_ne hb]; exact e
end
end My
/-! part w_same: _law_whole, _law_same -/
namespace My
open PySem L2 PR
/-- None, a whole number, a truth value, a text, a list or a tuple that is tracked -/
def TyK (H : Hp) (x : V) : Prop := match x with
  | .int _ => True
  | .bl _ => True
  | .non => True
  | .str _ => True
  | .ref a => (∃ xs, H a = some (.lst xs)) ∨ ∃ xs, H a = some (.tup xs)
  | _ => False
def wholeV : V → Bool
  | .int _ => true
  | _ => false
def spWhole : Sp := fun vs H Q _ => ∃ x, vs = [x] ∧ TyK H x ∧ Q (.bl (wholeV x)) H
def flatD : V → Bool
  | .non => true
  | .int _ => true
  | .str _ => true
  | _ => false
/-- the same data, in two objects it may be; the parts by R -/
def Eq1 (R : Hp → V → V → Prop) (H : Hp) (x y : V) : Prop := (x = y ∧ flatD x = true) ∨ ∃ (a b : Addr) (xs ys : List V), x = .ref a ∧ y = .ref b ∧ xs.length = ys.length ∧ xs.length < 100000 ∧
  ((H a = some (.tup xs) ∧ H b = some (.tup ys)) ∨ (H a = some (.lst xs) ∧ H b = some (.lst ys))) ∧ ∀ (i : Nat) u v, xs[i]? = some u → ys[i]? = some v → R H u v
def Eqd : Nat → Hp → V → V → Prop
  | 0 => fun _ _ _ => False
  | n + 1 => Eq1 (Eqd n)
theorem Eqd.mono : ∀ (n : Nat) {H H' : Hp} {x y : V}, Same H H' → Eqd n H x y → Eqd n H' x y
  | 0, _, _, _, _, _, h => h
  | n + 1, H, H', x, y, s, h => by
    rcases h with h | ⟨a, b, xs, ys, h1, h2, h3, h4, h5, h6⟩
    · exact .inl h
    · refine .inr ⟨a, b, xs, ys, h1, h2, h3, h4, ?_, fun i u v hu hv => Eqd.mono n s (h6 i u v hu hv)⟩
      rcases h5 with ⟨p, q⟩ | ⟨p, q⟩
      · exact .inl ⟨s _ _ p, s _ _ q⟩
      · exact .inr ⟨s _ _ p, s _ _ q⟩
def spSame (n : Nat) : Sp := fun vs H Q _ => ∃ x y, vs = [x, y] ∧ Eqd n H x y ∧ ∀ H', Same H H' → Q (.bl true) H'
section
variable {P : Program} {w : World} {K : PySem.W.Frag} {mg : Str → Option Value} {base : Heap}
theorem ok_law_whole (T : Tx K mg) : FnOk P w K mg base CX0 1 T.f_law_whole.f T.f_law_whole.fd ["_law_found"] spWhole := by
  refine T.f_law_whole.F.ok sc_law_whole (fun vs H Q E h => ?_) (fun cdv A outer s H vs Q E hr h => ?_)
  · obtain ⟨x, rfl, _⟩ := h
    rfl
  · obtain ⟨x, rfl, ht, k⟩ := h
    refine ⟨_, (pss_one (ps_ret (pe_and (pe_callB call_isi (by rfl) T.n_isinstance (by decide +kernel) (pa_cons (pv 0) (pa_cons (PR.pg_ty (n := "int") rfl T.n_int (by decide +kernel)) pa_nil))) (pe_one (pe_not (pe_callB call_isi (by rfl) T.n_isinstance (by decide +kernel) (pa_cons (pv 0) (pa_cons (PR.pg_ty (n := "bool") rfl T.n_bool (by decide +kernel)) pa_nil)))))))), ?_⟩
    cases x with
    | int i => fail "go"; exact k
    | bl b => fail "go"; exact k
    | non => fail "go"; exact k
    | str z => fail "go"; exact k
    | ref a =>
      rcases ht with ⟨xs, ht⟩ | ⟨xs, ht⟩
      · fail "go"; exact k
      · fail "go"; exact k
    | _ => exact ht.elim
theorem ok_law_same_0 (T : Tx K mg) : FnOk P w K mg base CX0 1 T.f_law_same.f T.f_law_same.fd ["_law_found", "_law_due"] (spSame 0) :=
  ⟨fun vs H Q E h => by obtain ⟨_, _, rfl, _⟩ := h; rfl, fun A outer s H args us vs Q E hr he hb hv hs => by obtain ⟨_, _, _, h, _⟩ := hs; exact h.elim⟩
theorem ok_law_same_s (T : Tx K mg) (n : Nat) (G : FnOk P w K mg base CX0 (n + 1) T.f_law_same.f T.f_law_same.fd ["_law_found", "_law_due"] (spSame n)) : FnOk P w K mg base CX0 (n + 2) T.f_law_same.f T.f_law_same.fd ["_law_found", "_law_due"] (spSame (n + 1)) := by
  refine T.f_law_same.F.ok sc_law_same (fun vs H Q E h => ?_) (fun cdv A outer s H vs Q E hr h => ?_)
  · obtain ⟨_, _, rfl, _⟩ := h
    rfl
  · obtain ⟨x, y, rfl, R, k⟩ := h
    refine ⟨_, (pss_cons (ps_if (pt_val (pe_callB call_isi (by rfl) T.n_isinstance (by decide +kernel) (pa_cons (pv 1) (pa_cons (PR.pg_ty (n := "str") rfl T.n_str (by decide +kernel)) pa_nil)))) (pss_one (ps_ret (pe_and (pe_callB call_isi (by rfl) T.n_isinstance (by decide +kernel) (pa_cons (pv 0) (pa_cons (PR.pg_ty (n := "str") rfl T.n_str (by decide +kernel)) pa_nil))) (pe_one (pe_cmpR op_eq (pv 0) (pv 1) (nomark _)))))) pss_nil) (pss_cons (ps_if (PW.pt (pw_or (pt_cmpR op_isN1 (pv 1) pe_non (nomark _)) (pw_or1 (pt_cmpR op_isN1 (pv 0) pe_non (nomark _))))) (pss_one (ps_ret (pe_and (pe_cmpR op_isN1 (pv 0) pe_non (nomark _)) (pe_one (pe_cmpR op_isN1 (pv 1) pe_non (nomark _)))))) pss_nil) (pss_cons (ps_if (PW.pt (pw_or (PW.pt (pw_and (pt_val (pe_callB call_isi (by rfl) T.n_isinstance (by decide +kernel) (pa_cons (pv 1) (pa_cons (PR.pg_ty (n := "tuple") rfl T.n_tuple (by decide +kernel)) pa_nil)))) (pw_and1 (pt_val (pe_callB call_isi (by rfl) T.n_isinstance (by decide +kernel) (pa_cons (pv 0) (pa_cons (PR.pg_ty (n := "tuple") rfl T.n_tuple (by decide +kernel)) pa_nil))))))) (pw_or1 (PW.pt (pw_and (pt_val (pe_callB call_isi (by rfl) T.n_isinstance (by decide +kernel) (pa_cons (pv 1) (pa_cons (PR.pg_ty (n := "list") rfl T.n_list (by decide +kernel)) pa_nil)))) (pw_and1 (pt_val (pe_callB call_isi (by rfl) T.n_isinstance (by decide +kernel) (pa_cons (pv 0) (pa_cons (PR.pg_ty (n := "list") rfl T.n_list (by decide +kernel)) pa_nil)))))))))) (pss_cons (ps_if (pt_cmpR op_ne (pe_callB PR.c_len (by rfl) T.n_len PySem.boot_len (pa_cons (pv 0) pa_nil)) (pe_callB PR.c_len (by rfl) T.n_len PySem.boot_len (pa_cons (pv 1) pa_nil)) (nomark _)) (pss_one (ps_ret pe_bl)) pss_nil) (pss_one (ps_ret (pe_callB (cr_all rfl) (by rfl) T.n_all (by decide +kernel) (pa_cons (pe_lc (own := [("_law_k", 2)]) (g := gName 2) rfl sc_law_same.nd (pi_range1 rfl T.n_range (pa_cons (pe_callB PR.c_len (by rfl) T.n_len PySem.boot_len (pa_cons (pv 1) pa_nil)) pa_nil)) (blkOk_by (own := [("_law_k", 2)]) (N := ["_law_found", "_law_due", "_law_k"]) (sc := defScope s_law_same) (by decide +kernel)) (fun _ _ _ _ _ => (pg_name (i := 2) sc_law_same.nd rfl (Or.inl rfl))) (fun _ _ _ _ _ => pts_nil) (fun _ _ _ _ _ => (pe_call G (hr.mono (by first | decide | omega)) rfl T.f_law_same.g T.f_law_same.F.kp T.f_law_same.b .nil pass0 (pa_cons (pe_ix (PR.ix_seqK (K := K) rfl) (pv 0) (pv 2) (fun _ _ => rfl)) (pa_cons (pe_ix (PR.ix_seqK (K := K) rfl) (pv 1) (pv 2) (fun _ _ => rfl)) pa_nil))))) pa_nil))))) pss_nil) (pss_one (ps_ret (pe_and (pe_call (ok_law_whole T) (hr.mono (by first | decide | omega)) rfl T.f_law_whole.g T.f_law_whole.F.kp T.f_law_whole.b .nil pass0 (pa_cons (pv 1) pa_nil)) (pe_and (pe_call (ok_law_whole T) (hr.mono (by first | decide | omega)) rfl T.f_law_whole.g T.f_law_whole.F.kp T.f_law_whole.b .nil pass0 (pa_cons (pv 0) pa_nil)) (pe_one (pe_cmpR op_eq (pv 0) (pv 1) (nomark _)))))))))), ?_⟩
    rcases R with ⟨rfl, hf⟩ | ⟨a, b, xs, ys, rfl, rfl, hlen, hz, hk, hall⟩
    · cases x with
      | non =>
        fail "go"
        refine iteT ?_
        fail "go"
        refine iteT ?_
        fail "go"
        exact k _ (Same.refl _)
      | int i =>
        fail "go"
        refine iteF ?_
        fail "go"
        refine iteF ?_
        fail "go"
        refine ⟨_, rfl, trivial, ?_⟩
        fail "go"
        refine iteT ?_
        fail "go"
        refine ⟨_, rfl, trivial, ?_⟩
        fail "go"
        refine iteT ?_
        fail "go"
        rw [decide_eq_true rfl]
        exact k _ (Same.refl _)
      | str z =>
        fail "go"
        rw [decide_eq_true rfl]
        exact k _ (Same.refl _)
      | _ => cases hf
    · rcases hk with ⟨ha, hb⟩ | ⟨ha, hb⟩
      · fail "go"
        refine iteF ?_
        fail "go"
        refine iteF ?_
        fail "go"
        rw [decide_eq_true (show V.int (xs.length : Int) = V.int (ys.length : Int) by rw [hlen])]
        refine iteF ?_
        fail "go"
        refine kLcR1_of (fun i => List.replicate i (.bl true)) (by omega) rfl (fun i hi => by rw [List.length_replicate]; omega) (fun i H1 hi s1 Qn kn => ?_) (fun D H' hD s1 hL => ?_)
        · have hx : i < xs.length := by omega
          have e1 : xs[i]? = some xs[i] := List.getElem?_eq_getElem hx
          have e2 : ys[i]? = some ys[i] := List.getElem?_eq_getElem hi
          fail "go"
          refine ⟨rfl, ?_⟩
          fail "go"
          refine .inr (.inl ⟨a, xs, _, _, rfl, rfl, SqT.of (s1 _ _ ha), atk e1, ?_⟩)
          fail "go"
          refine .inr (.inl ⟨b, ys, _, _, rfl, rfl, SqT.of (s1 _ _ hb), atk e2, ?_⟩)
          fail "go"
          refine ⟨_, _, rfl, Eqd.mono n s1 (hall i _ _ e1 e2), fun H2 s2 => kn (some (.bl true)) H2 s2 (by rw [List.replicate_succ'] <;> rfl)⟩
        · fail "go"
          refine r_all (bs := List.replicate ys.length true) (by rw [List.map_replicate]; exact SqL.of hL) ?_
          rw [List.all_replicate]
          have z : (if ys.length = 0 then true else id true) = true := by split <;> rfl
          rw [z]
          exact k _ s1
      · fail "go"
        refine iteF ?_
        fail "go"
        refine iteF ?_
        fail "go"
        rw [decide_eq_true (show V.int (xs.length : Int) = V.int (ys.length : Int) by rw [hlen])]
        refine iteF ?_
        fail "go"
        refine kLcR1_of (fun i => List.replicate i (.bl true)) (by omega) rfl (fun i hi => by rw [List.length_replicate]; omega) (fun i H1 hi s1 Qn kn => ?_) (fun D H' hD s1 hL => ?_)
        · have hx : i < xs.length := by omega
          have e1 : xs[i]? = some xs[i] := List.getElem?_eq_getElem hx
          have e2 : ys[i]? = some ys[i] := List.getElem?_eq_getElem hi
          fail "go"
          refine ⟨rfl, ?_⟩
          fail "go"
          refine .inl ⟨a, xs, _, _, rfl, rfl, SqL.of (s1 _ _ ha), atk e1, ?_⟩
          fail "go"
          refine .inl ⟨b, ys, _, _, rfl, rfl, SqL.of (s1 _ _ hb), atk e2, ?_⟩
          fail "go"
          refine ⟨_, _, rfl, Eqd.mono n s1 (hall i _ _ e1 e2), fun H2 s2 => kn (some (.bl true)) H2 s2 (by rw [List.replicate_succ'] <;> rfl)⟩
        · fail "go"
          refine r_all (bs := List.replicate ys.length true) (by rw [List.map_replicate]; exact SqL.of hL) ?_
          rw [List.all_replicate]
          have z : (if ys.length = 0 then true else id true) = true := by split <;> rfl
          rw [z]
          exact k _ s1
theorem ok_law_same (T : Tx K mg) : ∀ n : Nat, FnOk P w K mg base CX0 (n + 1) T.f_law_same.f T.f_law_same.fd ["_law_found", "_law_due"] (spSame n)
  | 0 => ok_law_same_0 T
  | n + 1 => ok_law_same_s T n (ok_law_same T n)
end
end My
/-! part w_mixed: _law_mixed, _law_cell_at -/
namespace My
open PySem L2 PR
def spMixed : Sp := fun vs H Q _ => ∃ c k : Int, vs = [.int c, .int k] ∧ 0 ≤ k ∧ k ≤ 100000 ∧ Q (.int (mixM c k)) H
section
variable {P : Program} {w : World} {K : PySem.W.Frag} {mg : Str → Option Value} {base : Heap}
theorem ok_law_mixed (T : Tx K mg) : FnOk P w K mg base CX0 1 T.f_law_mixed.f T.f_law_mixed.fd ["_law_cell", "_law_k"] spMixed := by
  refine T.f_law_mixed.F.ok sc_law_mixed (fun vs H Q E h => ?_) (fun cdv A outer s H vs Q E hr h => ?_)
  · obtain ⟨c, k, rfl, _⟩ := h
    rfl
  · obtain ⟨c, k, rfl, h0, h1, q⟩ := h
    refine ⟨_, (pss_cons (ps_set (i := 2) sc_law_mixed.nd rfl (Or.inl rfl) (pe_op op_mod (pe_op op_mul (pe_op op_add (pv 0) (pe_op op_mul pe_int (pv 1))) pe_int) pe_int)) (pss_one (ps_ret (pe_op op_mod (pe_op op_mul (pv 2) (pe_op op_add (pe_op op_add (pe_op op_mod (pv 2) pe_int) (pv 1)) pe_int)) pe_int)))), ?_⟩
    have z0 := mixH_nonneg c k
    have z1 := mixH_lt c k
    unfold mixH at z0 z1
    fail "go"
    exact q
end
end My
/-! part w_held: _law_held -/
namespace My
open PySem L2 PR
def spHeld : Sp := fun vs H Q _ => ∃ (a : Addr) (ts : List Addr), vs = [.ref a] ∧ H a = some (.lst (ts.map .ref)) ∧ HeldAt H ts ∧ Q (.bl true) H
section
variable {P : Program} {w : World} {K : PySem.W.Frag} {mg : Str → Option Value} {base : Heap}
theorem ok_law_held (T : Tx K mg) : FnOk P w K mg base CX0 1 T.f_law_held.f T.f_law_held.fd ["_law_held_here"] spHeld := by
  refine T.f_law_held.F.ok sc_law_held (fun vs H Q E h => ?_) (fun cdv A outer s H vs Q E hr h => ?_)
  · obtain ⟨a, ts, rfl, _⟩ := h
    rfl
  · obtain ⟨a, ts, rfl, ha, hh, k⟩ := h
    refine ⟨_, (pss_cons (ps_for PassesOwn.never rfl (pi_list (pv 0)) (pg_name (i := 1) sc_law_held.nd rfl (Or.inl rfl)) (pss_one (ps_if (pt_cmpR (op_neD hr.units) (pe_ix ix_tup (pv 1) pe_int (fun _ _ => rfl)) (pe_ix ix_tup (pv 1) pe_int (fun _ _ => rfl)) (nomark _)) (pss_one (ps_ret pe_bl)) pss_nil))) (pss_one (ps_ret pe_bl))), ?_⟩
    fail "go"
    refine kForL_of (SqL.of ha) (fun i σ H' => H' = H ∧ ∃ v, σ = [some (.ref a), v]) ⟨rfl, none, rfl⟩ (fun i σ H' _ p => by rw [p.1]; exact SqL.of ha) (fun i x σ H' hx p => ?_) (fun σ H' p => ?_)
    · obtain ⟨rfl, v, rfl⟩ := p
      obtain ⟨t, ht, rfl⟩ : ∃ t, t ∈ ts ∧ V.ref t = x := by
        obtain ⟨t, ht, e⟩ := List.mem_map.mp (List.mem_of_getElem? hx)
        exact ⟨t, ht, e⟩
      obtain ⟨p, q, xs, h1, h2, h3, h4⟩ := hh t ht
      fail "go"
      refine same_lists h2 h3 h4 ?_
      fail "go"
      exact ⟨rfl, _, rfl⟩
    · obtain ⟨rfl, v, rfl⟩ := p
      fail "go"
      exact k
end
end My
/-! part w_k02: the law -/
namespace My
open PySem L2 PR
def spLaw (K : PySem.W.Frag) : Sp := fun vs H Q _ => ∃ (a : Addr) (ns : List Int), vs = [.ref a] ∧ SqL K H a (ns.map V.int) ∧ ns.length ≤ 63 ∧ ∀ H', Q (.bl true) H'
/-- what stands between two turns -/
structure Wk (C : Addr) (H0 H : Hp) (a b l lb ll hh : Addr) (s : Stn) (ps : List (Addr × (Int × Int))) (ts : List Addr) : Prop where
  s0 : Same H0 H
  S : StnAt C H a l s
  B : StnAt C H b lb ⟨true, (0, 0), 0, [(7, 5)], 0⟩
  on : s.on = true
  seen : s.seen = (0, 0)
  sil : s.sil = 0
  L : H ll = some (.lst (ps.map fun q => .ref q.1))
  P : Prs H ps
  e : ps.map (·.2) = s.line
  T : H hh = some (.lst (ts.map .ref))
  hd : ∀ t ∈ ts, ∃ p q xs, H t = some (.tup [.ref p, .ref q]) ∧ H p = some (.lst xs) ∧ H q = some (.lst xs) ∧ (∀ x ∈ xs, Rowish H x) ∧ p ∉ [a, b, l, lb, ll, hh] ∧ q ∉ [a, b, l, lb, ll, hh]
  nd : [a, b, l, lb, ll, hh].Nodup
  f0 : ∀ x ∈ [a, b, l, lb, ll, hh], H0 x = none
section
variable {C : Addr} {H0 H H' : Hp} {a b l lb ll hh : Addr} {s s' : Stn} {ps ps' : List (Addr × (Int × Int))} {ts : List Addr}
theorem Wk.same (W : Wk C H0 H a b l lb ll hh s ps ts) (h : Same H H') : Wk C H0 H' a b l lb ll hh s ps ts :=
  ⟨W.s0.trans h, W.S.same h, W.B.same h, W.on, W.seen, W.sil, h _ _ W.L, W.P.keep fun _ _ => h _ _, W.e, h _ _ W.T, fun t ht => by
    obtain ⟨p, q, xs, h1, h2, h3, h4, h5, h6⟩ := W.hd t ht
    exact ⟨p, q, xs, h _ _ h1, h _ _ h2, h _ _ h3, fun x hx => (h4 x hx).mono fun _ _ => h _ _, h5, h6⟩, W.nd, W.f0⟩
/-- the station and the law's own list changed; all else, and all tuples, as it was -/
theorem Wk.next (W : Wk C H0 H a b l lb ll hh s ps ts) (h : ∀ c o, H c = some o → c ≠ a → c ≠ l → c ≠ ll → H' c = some o) (S : StnAt C H' a l s') (L : H' ll = some (.lst (ps'.map fun q => .ref q.1))) (P : Prs H' ps') (e : ps'.map (·.2) = s'.line)
    (o1 : s'.on = true) (o2 : s'.seen = (0, 0)) (o3 : s'.sil = 0) : Wk C H0 H' a b l lb ll hh s' ps' ts := by
  obtain ⟨da, fa, ha⟩ := W.S.obj
  obtain ⟨xl, hl⟩ := W.S.lst
  have nd := W.nd
  simp only [List.nodup_cons, List.mem_cons, List.not_mem_nil, or_false, not_or] at nd
  obtain ⟨⟨n1, n2, n3, n4, n5⟩, ⟨n6, n7, n8, n9⟩, ⟨n10, n11, n12⟩, ⟨n13, n14⟩, n15, _⟩ := nd
  have ht : ∀ c xs, H c = some (.tup xs) → H' c = some (.tup xs) := fun c xs q => h c _ q (ne_of q ha (by intro z; cases z)) (ne_of q hl (by intro z; cases z)) (ne_of q W.L (by intro z; cases z))
  have m := W.f0
  refine ⟨fun c o q => h c o (W.s0 c o q) ?_ ?_ ?_, S, W.B.keep fun c o q hc => ?_, o1, o2, o3, L, P, e, h _ _ W.T (Ne.symm n5) (Ne.symm n12) (Ne.symm n15), fun t htt => ?_, W.nd, W.f0⟩
  · intro z; rw [z, m a (by simp)] at q; cases q
  · intro z; rw [z, m l (by simp)] at q; cases q
  · intro z; rw [z, m ll (by simp)] at q; cases q
  · rcases hc with rfl | rfl | ⟨xs, rfl⟩
    · exact h _ _ q (Ne.symm n1) n6 n8
    · exact h _ _ q (Ne.symm n3) (Ne.symm n10) n13
    · exact ht _ _ q
  · obtain ⟨p, q, xs, h1, h2, h3, h4, h5, h6⟩ := W.hd t htt
    have g5 := h5
    have g6 := h6
    simp only [List.mem_cons, List.not_mem_nil, or_false, not_or] at g5 g6
    exact ⟨p, q, xs, ht _ _ h1, h _ _ h2 g5.1 g5.2.2.1 g5.2.2.2.2.1, h _ _ h3 g6.1 g6.2.2.1 g6.2.2.2.2.1, fun x hx => (h4 x hx).mono ht, h5, h6⟩
/-- one more is held -/
theorem Wk.held (W : Wk C H0 H a b l lb ll hh s ps ts) {t p q : Addr} {xs : List V} (h : But1 H H' hh) (hT : H' hh = some (.lst ((ts ++ [t]).map .ref))) (h1 : H t = some (.tup [.ref p, .ref q])) (h2 : H p = some (.lst xs)) (h3 : H q = some (.lst xs)) (h4 : ∀ x ∈ xs, Rowish H x)
    (h5 : p ∉ [a, b, l, lb, ll, hh]) (h6 : q ∉ [a, b, l, lb, ll, hh]) : Wk C H0 H' a b l lb ll hh s ps (ts ++ [t]) := by
  have nd := W.nd
  simp only [List.nodup_cons, List.mem_cons, List.not_mem_nil, or_false, not_or] at nd
  obtain ⟨⟨n1, n2, n3, n4, n5⟩, ⟨n6, n7, n8, n9⟩, ⟨n10, n11, n12⟩, ⟨n13, n14⟩, n15, _⟩ := nd
  have ht : ∀ c xs, H c = some (.tup xs) → H' c = some (.tup xs) := fun c xs q => h c _ q (ne_of q W.T (by intro z; cases z))
  have hn : ∀ c, c ∉ [a, b, l, lb, ll, hh] → c ≠ hh := fun c hc z => hc (by rw [z]; simp)
  refine ⟨sameBut W.s0 h (W.f0 hh (by simp)), W.S.keep fun c o q hc => ?_, W.B.keep fun c o q hc => ?_, W.on, W.seen, W.sil, h _ _ W.L n15, W.P.keep ht, W.e, hT, fun t' htt => ?_, W.nd, W.f0⟩
  · rcases hc with rfl | rfl | ⟨xs, rfl⟩
    · exact h _ _ q n5
    · exact h _ _ q n12
    · exact ht _ _ q
  · rcases hc with rfl | rfl | ⟨xs, rfl⟩
    · exact h _ _ q n9
    · exact h _ _ q n14
    · exact ht _ _ q
  · rcases List.mem_append.mp htt with htt | htt
    · obtain ⟨p, q, xs, g1, g2, g3, g4, g5, g6⟩ := W.hd t' htt
      exact ⟨p, q, xs, ht _ _ g1, h _ _ g2 (hn p g5), h _ _ g3 (hn q g6), fun x hx => (g4 x hx).mono ht, g5, g6⟩
    · cases List.mem_singleton.mp htt
      exact ⟨p, q, xs, ht _ _ h1, h _ _ h2 (hn p h5), h _ _ h3 (hn q h6), fun x hx => (h4 x hx).mono ht, h5, h6⟩
theorem Wk.ne (W : Wk C H0 H a b l lb ll hh s ps ts) : a ≠ l ∧ a ≠ ll ∧ a ≠ hh ∧ l ≠ ll ∧ l ≠ hh ∧ ll ≠ hh ∧ b ≠ ll ∧ b ≠ hh := by
  have nd := W.nd
  simp only [List.nodup_cons, List.mem_cons, List.not_mem_nil, or_false, not_or] at nd
  obtain ⟨⟨n1, n2, n3, n4, n5⟩, ⟨n6, n7, n8, n9⟩, ⟨n10, n11, n12⟩, ⟨n13, n14⟩, n15, _⟩ := nd
  exact ⟨n2, n4, n5, n11, n12, n15, n8, n9⟩
theorem Wk.mem (W : Wk C H0 H a b l lb ll hh s ps ts) : ∀ x ∈ [a, b, l, lb, ll, hh], H x ≠ none := by
  obtain ⟨da, fa, ha⟩ := W.S.obj
  obtain ⟨xl, hl⟩ := W.S.lst
  obtain ⟨db, fb, hb⟩ := W.B.obj
  obtain ⟨yl, hlb⟩ := W.B.lst
  intro x hx q
  simp only [List.mem_cons, List.not_mem_nil, or_false] at hx
  rcases hx with rfl | rfl | rfl | rfl | rfl | rfl
  · rw [ha] at q; cases q
  · rw [hb] at q; cases q
  · rw [hl] at q; cases q
  · rw [hlb] at q; cases q
  · rw [W.L] at q; cases q
  · rw [W.T] at q; cases q
theorem eqd_int (n : Nat) {i j : Int} (e : i = j) : Eqd (n + 1) H (.int i) (.int j) := .inl ⟨by rw [e], rfl⟩
theorem eqd_tup2 (n : Nat) {t u : Addr} {p : Int × Int} (h1 : H t = some (tup2 p)) (h2 : H u = some (tup2 p)) : Eqd (n + 2) H (.ref t) (.ref u) := by
  refine .inr ⟨t, u, _, _, rfl, rfl, rfl, by show 2 < 100000; decide, .inl ⟨h1, h2⟩, fun i x y hx hy => ?_⟩
  rw [hx] at hy
  cases hy
  have hm := List.mem_of_getElem? hx
  simp only [List.mem_cons, List.not_mem_nil, or_false] at hm
  rcases hm with rfl | rfl
  · exact eqd_int n rfl
  · exact eqd_int n rfl
theorem eqd_prs (n : Nat) {t u : Addr} {ps qs : List (Addr × (Int × Int))} (h1 : H t = some (.lst (ps.map fun q => .ref q.1))) (h2 : H u = some (.lst (qs.map fun q => .ref q.1))) (p1 : Prs H ps) (p2 : Prs H qs) (e : ps.map (·.2) = qs.map (·.2)) (hz : ps.length < 100000) :
    Eqd (n + 3) H (.ref t) (.ref u) := by
  have el : ps.length = qs.length := by rw [← List.length_map (f := (·.2)) (as := ps), e, List.length_map]
  refine .inr ⟨t, u, _, _, rfl, rfl, by rw [List.length_map, List.length_map, el], by rw [List.length_map]; exact hz, .inr ⟨h1, h2⟩, fun i x y hx hy => ?_⟩
  rw [List.getElem?_map] at hx hy
  cases hp : ps[i]? with
  | none => rw [hp] at hx; cases hx
  | some p =>
    cases hq : qs[i]? with
    | none => rw [hq] at hy; cases hy
    | some q =>
      rw [hp] at hx
      rw [hq] at hy
      cases hx
      cases hy
      have e2 : p.2 = q.2 := by
        have z := congrArg (fun l => l[i]?) e
        simp only [List.getElem?_map, hp, hq] at z
        exact Option.some.inj z
      exact eqd_tup2 n (p1 p (List.mem_of_getElem? hp)) (by rw [e2]; exact p2 q (List.mem_of_getElem? hq))
theorem eqd_optI (n : Nat) (o : Option Int) : Eqd (n + 1) H (optI o) (optI o) := .inl ⟨rfl, by cases o <;> rfl⟩
end
section
variable {P : Program} {w : World} {K : PySem.W.Frag} {mg : Str → Option Value} {base : Heap}
theorem ok_law (T : Tx K mg) : FnOk P w K mg base CX0 5 T.f_law.f T.f_law.fd ["_law_script"] (spLaw K) := by
  refine T.f_law.F.ok sc_law (fun vs H Q E h => ?_) (fun cdv A outer s H vs Q E hr h => ?_)
  · obtain ⟨a, ns, rfl, _⟩ := h
    rfl
  · obtain ⟨sc, ns, rfl, hS, hlen, k⟩ := h
    refine ⟨_, (pss_cons (ps_set (i := 1) sc_law.nd rfl (Or.inl rfl) (pe_make0 T.m_Station_init.kmk (ok_Station_init T) (hr.mono (by first | decide | omega)) rfl T.Station.g T.m_Station_init.b .nil pass0)) (pss_cons (ps_set (i := 2) sc_law.nd rfl (Or.inl rfl) (pe_make0 T.m_Station_init.kmk (ok_Station_init T) (hr.mono (by first | decide | omega)) rfl T.Station.g T.m_Station_init.b .nil pass0)) (pss_cons (ps_expr (pe_meth (pv 2) T.Station.cl T.m_Station_put.m (ok_Station_put T) (hr.mono (by first | decide | omega)) T.m_Station_put.b .nil pass0 (pa_cons pe_int (pa_cons pe_int pa_nil)))) (pss_cons (ps_set (i := 3) sc_law.nd rfl (Or.inl rfl) (pe_lst pa_nil)) (pss_cons (ps_set (i := 4) sc_law.nd rfl (Or.inl rfl) pe_int) (pss_cons (ps_set (i := 5) sc_law.nd rfl (Or.inl rfl) (pe_lst pa_nil)) (pss_cons (ps_for PassesOwn.never rfl (pi_range1 rfl T.n_range (pa_cons (pe_callB (PR.c_min2 rfl) (by rfl) T.n_min (by decide +kernel) (pa_cons (pe_callB PR.c_len (by rfl) T.n_len PySem.boot_len (pa_cons (pv 0) pa_nil)) (pa_cons pe_int pa_nil))) pa_nil)) (pg_name (i := 6) sc_law.nd rfl (Or.inl rfl)) (pss_cons (ps_set (i := 7) sc_law.nd rfl (Or.inl rfl) (pe_call (ok_law_mixed T) (hr.mono (by first | decide | omega)) rfl T.f_law_mixed.g T.f_law_mixed.F.kp T.f_law_mixed.b .nil pass0 (pa_cons (pe_ix ix_list (pv 0) (pv 6) (fun _ _ => rfl)) (pa_cons (pv 6) pa_nil)))) (Evl.pss_cut (ps_if (PW.pt (pw_or (pt_cmpR (PR.op_eqNil hr.units0) (pv 3) (pe_lst pa_nil) (nomark _)) (pw_or1 (pt_cmpR op_eq (pe_op op_mod (pv 7) pe_int) pe_int (nomark _))))) (pss_cons (ps_expr (pe_bm PySem.F.plainAttrs_list PySem.F.slot_list_append PySem.F.type_list_append mt_append (pv 3) (pa_cons (pe_tup (pa_cons (pe_op op_mod (pe_op op_fdiv (pv 7) pe_int) pe_int) (pa_cons (pe_op op_mod (pe_ix ix_list (pv 0) (pv 6) (fun _ _ => rfl)) (pe_op op_add (pe_op op_pow pe_int pe_int) pe_int)) pa_nil))) pa_nil))) (pss_one (ps_expr (pe_meth (pv 1) T.Station.cl T.m_Station_put.m (ok_Station_put T) (hr.mono (by first | decide | omega)) T.m_Station_put.b .nil pass0 (pa_cons (pe_ix ix_tup (pe_ix ix_list (pv 3) (pe_un un_neg pe_int) (fun _ _ => rfl)) pe_int (fun _ _ => rfl)) (pa_cons (pe_ix ix_tup (pe_ix ix_list (pv 3) (pe_un un_neg pe_int) (fun _ _ => rfl)) pe_int (fun _ _ => rfl)) pa_nil)))))) (pss_one (ps_if (pt_cmpR op_eq (pe_op op_mod (pv 7) pe_int) pe_int (nomark _)) (pss_cons (ps_if (pt_not (pt_val (pe_call (ok_law_same T 3) (hr.mono (by first | decide | omega)) rfl T.f_law_same.g T.f_law_same.F.kp T.f_law_same.b .nil pass0 (pa_cons (pe_meth0 (pv 1) T.Station.cl T.m_Station_send.m (ok_Station_send T) (hr.mono (by first | decide | omega)) T.m_Station_send.b .nil pass0) (pa_cons (pe_bm PySem.F.plainAttrs_list PySem.F.slot_list_pop PySem.F.type_list_pop mt_popAt (pv 3) (pa_cons pe_int pa_nil)) pa_nil))))) (pss_one (ps_ret pe_bl)) pss_nil) (pss_one (ps_set (i := 4) sc_law.nd rfl (Or.inl rfl) pe_int))) (pss_one (ps_if (pt_cmpR op_lt (pe_op op_mod (pv 7) pe_int) pe_int (nomark _)) (pss_cons (ps_if (pt_not (pt_val (pe_call (ok_law_same T 3) (hr.mono (by first | decide | omega)) rfl T.f_law_same.g T.f_law_same.F.kp T.f_law_same.b .nil pass0 (pa_cons (pe_meth0 (pv 1) T.Station.cl T.m_Station_tell.m (ok_Station_tell T) (hr.mono (by first | decide | omega)) T.m_Station_tell.b .nil pass0) (pa_cons (pe_op op_add (pe_ix ix_tup (pe_ix ix_list (pv 3) pe_int (fun _ _ => rfl)) pe_int (fun _ _ => rfl)) (pv 4)) pa_nil))))) (pss_one (ps_ret pe_bl)) pss_nil) (pss_one (ps_set (i := 4) sc_law.nd rfl (Or.inl rfl) (pe_op op_add (pv 4) pe_int)))) pss_nil))))) (pss_cons (ps_set (i := 8) sc_law.nd rfl (Or.inl rfl) pe_non) (Evl.pss_cut (ps_if (pt_cmpR (PR.op_neNil hr.units0) (pv 3) (pe_lst pa_nil) (nomark _)) (pss_one (ps_set (i := 8) sc_law.nd rfl (Or.inl rfl) (pe_op op_add (pe_ix ix_tup (pe_ix ix_list (pv 3) pe_int (fun _ _ => rfl)) pe_int (fun _ _ => rfl)) (pv 4)))) pss_nil) (pss_cons (ps_if (PW.pt (pw_and (pt_cmpR op_eq (pe_op op_mod (pe_op op_fdiv (pv 7) pe_int) pe_int) pe_int (nomark _)) (pw_and1 (pt_not (pt_val (pe_call (ok_law_same T 3) (hr.mono (by first | decide | omega)) rfl T.f_law_same.g T.f_law_same.F.kp T.f_law_same.b .nil pass0 (pa_cons (pe_meth0 (pv 1) T.Station.cl T.m_Station_need.m (ok_Station_need T) (hr.mono (by first | decide | omega)) T.m_Station_need.b .nil pass0) (pa_cons (pv 8) pa_nil)))))))) (pss_one (ps_ret pe_bl)) pss_nil) (pss_cons (ps_set (i := 9) sc_law.nd rfl (Or.inl rfl) (pe_meth0 (pv 1) T.Station.cl T.m_Station_messages.m (ok_Station_messages T) (hr.mono (by first | decide | omega)) T.m_Station_messages.b .nil pass0)) (pss_cons (ps_if (PW.pt (pw_or (pt_not (pt_val (pe_call (ok_law_same T 3) (hr.mono (by first | decide | omega)) rfl T.f_law_same.g T.f_law_same.F.kp T.f_law_same.b .nil pass0 (pa_cons (pv 9) (pa_cons (pv 3) pa_nil))))) (pw_or1 (pt_not (pt_val (pe_call (ok_law_same T 3) (hr.mono (by first | decide | omega)) rfl T.f_law_same.g T.f_law_same.F.kp T.f_law_same.b .nil pass0 (pa_cons (pe_meth0 (pv 1) T.Station.cl T.m_Station_need.m (ok_Station_need T) (hr.mono (by first | decide | omega)) T.m_Station_need.b .nil pass0) (pa_cons (pv 8) pa_nil)))))))) (pss_one (ps_ret pe_bl)) pss_nil) (pss_cons (ps_expr (pe_bm PySem.F.plainAttrs_list PySem.F.slot_list_append PySem.F.type_list_append mt_append (pv 9) (pa_cons pe_non pa_nil))) (pss_one (ps_expr (pe_bm PySem.F.plainAttrs_list PySem.F.slot_list_append PySem.F.type_list_append mt_append (pv 5) (pa_cons (pe_tup (pa_cons (pv 9) (pa_cons (pe_callTy PR.c_listOf (by rfl) T.n_list (by decide +kernel) (pa_cons (pv 9) pa_nil)) pa_nil))) pa_nil))))))))))))) (pss_cons (ps_if (PW.pt (pw_or (pt_cmpR PR.op_isnotB (pe_fld (pv 1) rfl) pe_bl (nomark _)) (pw_or (pt_cmpR (op_neD hr.units) (pe_fld (pv 1) rfl) (pe_tup (pa_cons pe_int (pa_cons pe_int pa_nil))) (nomark _)) (pw_or1 (pt_cmpR op_ne (pe_fld (pv 1) rfl) pe_int (nomark _)))))) (pss_one (ps_ret pe_bl)) pss_nil) (pss_one (ps_ret (pe_and (pe_call (ok_law_held T) (hr.mono (by first | decide | omega)) rfl T.f_law_held.g T.f_law_held.F.kp T.f_law_held.b .nil pass0 (pa_cons (pv 5) pa_nil)) (pe_and (pe_call (ok_law_same T 3) (hr.mono (by first | decide | omega)) rfl T.f_law_same.g T.f_law_same.F.kp T.f_law_same.b .nil pass0 (pa_cons (pe_meth0 (pv 2) T.Station.cl T.m_Station_messages.m (ok_Station_messages T) (hr.mono (by first | decide | omega)) T.m_Station_messages.b .nil pass0) (pa_cons (pe_lst (pa_cons (pe_tup (pa_cons pe_int (pa_cons pe_int pa_nil))) pa_nil)) pa_nil))) (pe_one (pe_cmpR op_eq (pe_meth0 (pv 2) T.Station.cl T.m_Station_need.m (ok_Station_need T) (hr.mono (by first | decide | omega)) T.m_Station_need.b .nil pass0) pe_int (nomark _))))))))))))))), ?_⟩
    fail "go"
    intro a da na nda ne1
    refine ⟨a, da, rfl, upd_same, fun H1 l S1 hl1 k1 => ⟨rfl, ?_⟩⟩
    have q1 : Same H H1 := Same.made na nda k1
    obtain ⟨la, hl2⟩ := upd_none hl1
    have l0 : H l = none := (upd_none hl2).2
    fail "go"
    intro b db nb ndb ne2
    refine ⟨b, db, rfl, upd_same, fun H2 lb S2 hlb1 k2 => ⟨rfl, ?_⟩⟩
    have q2 : Same H1 H2 := Same.made nb ndb k2
    obtain ⟨lbb, hlb2⟩ := upd_none hlb1
    have lb1 : H1 lb = none := (upd_none hlb2).2
    obtain ⟨⟨db', tb, hb, _⟩, _⟩ := id S2
    fail "go"
    refine ⟨b, lb, _, 7, 5, rfl, S2, by show 0 < 100000; decide, fun H3 S3 k3 => ?_⟩
    fail "go"
    intro ll hll
    fail "go"
    intro hh hhh
    obtain ⟨n1, hh3⟩ := upd_none hhh
    obtain ⟨xs1, L1⟩ := S1.lst
    obtain ⟨d1, f1, A1⟩ := S1.obj
    obtain ⟨xs2, L2'⟩ := S2.lst
    obtain ⟨xs3, L3⟩ := S3.lst
    obtain ⟨d3, f3, B3⟩ := S3.obj
    have s3 : Same H1 H3 := sameBut q2 k3 lb1
    have sH : Same H H3 := q1.trans s3
    have W : Wk T.Station.C H (upd (upd H3 ll (.lst [])) hh (.lst [])) a b l lb ll hh ⟨true, (0, 0), 0, [], 0⟩ [] [] := by
      refine Wk.same (H := upd (upd H3 ll (.lst [])) hh (.lst [])) ?_ (Same.refl _)
      have u1 : Same H3 (upd (upd H3 ll (.lst [])) hh (.lst [])) := fun c o e => ex_upd hhh _ _ (ex_upd hll _ _ e)
      refine ⟨sH.trans u1, (S1.same s3).same u1, S3.same u1, rfl, rfl, rfl, by rw [upd_ne (Ne.symm n1), upd_same] <;> rfl, (fun q hq => by cases hq), rfl, upd_same, (fun t ht => by cases ht), ?_, ?_⟩
      · have a1 := s3 _ _ A1
        have a2 := s3 _ _ L1
        simp only [List.nodup_cons, List.mem_cons, List.not_mem_nil, or_false, not_or]
        refine ⟨⟨ne_of_none A1 nb, Ne.symm la, ne_of_none A1 lb1, ne_of_none a1 hll, ne_of_none a1 hh3⟩, ⟨Ne.symm (ne_of_none L1 nb), Ne.symm lbb, ne_of_none B3 hll, ne_of_none B3 hh3⟩, ⟨ne_of_none L1 lb1, ne_of_none a2 hll, ne_of_none a2 hh3⟩, ⟨ne_of_none L3 hll, ne_of_none L3 hh3⟩, Ne.symm n1, fun z => z, List.nodup_nil⟩
      · intro x hx
        simp only [List.mem_cons, List.not_mem_nil, or_false] at hx
        rcases hx with rfl | rfl | rfl | rfl | rfl | rfl
        · exact na
        · exact q1.free nb
        · exact l0
        · exact q1.free lb1
        · exact sH.free hll
        · exact sH.free hh3
    have hS5 := W.s0.seq hS
    fail "go"
    refine kForR1_of (n := min ns.length 30) (by rw [List.length_map]; omega) (by omega) (fun i σ H' => ∃ (s : Stn) (ps : List (Addr × (Int × Int))) (ts : List Addr) (v6 v7 v8 v9 : Option V), σ = [some (.ref sc), some (.ref a), some (.ref b), some (.ref ll), some (.int s.told), some (.ref hh), v6, v7, v8, v9] ∧
      Wk T.Station.C H H' a b l lb ll hh s ps ts ∧ ps.length ≤ i ∧ ts.length ≤ i) ⟨_, _, _, none, none, none, none, rfl, W, Nat.le_refl _, Nat.le_refl _⟩ (fun i σ H' hi p => ?_) (fun σ H' p => ?_)
    · obtain ⟨s, ps, ts, v6, v7, v8, v9, rfl, W, z1, z2⟩ := p
      have hS' := W.s0.seq hS
      have hi' : i < ns.length := by omega
      have ei : (ns.map V.int)[i]? = some (.int ns[i]) := by rw [List.getElem?_map, List.getElem?_eq_getElem hi'] <;> rfl
      fail "go"
      refine ⟨ns[i], i, rfl, by omega, by omega, ?_⟩
      fail "go"
      have p0 := mixM_nonneg ns[i] (i : Int)
      generalize hpk : mixM ns[i] (i : Int) = pk at p0
      refine s_cut (fun σ Hx => ∃ (s : Stn) (ps : List (Addr × (Int × Int))) (ts : List Addr) (v8 v9 : Option V), σ = [some (.ref sc), some (.ref a), some (.ref b), some (.ref ll), some (.int s.told), some (.ref hh), some (.int (i : Int)), some (.int pk), v8, v9] ∧
        Wk T.Station.C H Hx a b l lb ll hh s ps ts ∧ ps.length ≤ i + 1 ∧ ts.length ≤ i) ?_ ?_
      · have L := W.L
        fail "go"
        intro e0 he0
        fail "go"
        have W0 := W.same (ex_upd (o := .lst []) he0)
        refine' via ?main ?put
        case main =>
          intro put
          split
          · exact iteT put
          · rename_i hne
            fail "go"
            split
            · exact put
            · rename_i hk
              generalize upd H' e0 (.lst []) = Hb at W0 put ⊢
              obtain ⟨n1, n2, n3, n4, n5, n6, _⟩ := W0.ne
              have L0 := W0.L
              have P0 := W0.P
              obtain ⟨⟨dx, tt, A1, A2⟩, _⟩ := id W0.S
              cases ps with
              | nil => exact absurd rfl hne
              | cons q0 ps =>
                have hq0 : Hb q0.1 = some (tup2 q0.2) := P0 q0 List.mem_cons_self
                have eline : s.line = q0.2 :: ps.map (·.2) := W0.e.symm
                have hl1 : s.line.length = ps.length + 1 := by rw [eline, List.length_cons, List.length_map]
                rw [List.length_cons] at z1
                fail "go"
                by_cases h1 : pk % 5 = 1
                · rw [decide_eq_true (show V.int (pk % 5) = V.int 1 by rw [h1])]
                  fail "go"
                  refine ⟨a, l, s, q0.2, ps.map (·.2), rfl, W0.S, eline, by omega, fun H1 t1 S1 ht1 ht1' k1 => ?_⟩
                  have T1 : ∀ c xs, Hb c = some (.tup xs) → H1 c = some (.tup xs) := fun c xs q => k1 c _ q (ne_of q A1 (by intro z; cases z)) (fun z => by
                    obtain ⟨xl, hl⟩ := W0.S.lst
                    rw [z, hl] at q; cases q)
                  have L1 := k1 _ _ L0 (Ne.symm n2) (Ne.symm n4)
                  fail "go"
                  refine r_popAt (k := 0) L1 (by decide) rfl (by simp) (by rw [List.length_map, List.length_cons]; exact Nat.le_of_lt (szlt (by omega))) rfl ?_
                  fail "go"
                  have W1 : Wk T.Station.C H (upd H1 ll (.lst (ps.map fun q => .ref q.1))) a b l lb ll hh { s with told := 0, line := ps.map (·.2) } ps ts := by
                    have u1 : ∀ c o, Hb c = some o → c ≠ a → c ≠ l → c ≠ ll → upd H1 ll (.lst (ps.map fun q => .ref q.1)) c = some o := fun c o q h1 h2 h3 => by rw [upd_ne h3]; exact k1 c o q h1 h2
                    have u2 : ∀ c xs, H1 c = some (.tup xs) → upd H1 ll (.lst (ps.map fun q => .ref q.1)) c = some (.tup xs) := but_tup but_upd fun xs q => by rw [L1] at q; cases q
                    refine W0.next u1 (S1.keep fun c o q hc => ?_) upd_same (fun q hq => u2 _ _ (T1 _ _ (P0 q (List.mem_cons_of_mem _ hq)))) rfl W0.on W0.seen W0.sil
                    rcases hc with rfl | rfl | ⟨xs, rfl⟩
                    · rw [upd_ne n2]; exact q
                    · rw [upd_ne n4]; exact q
                    · exact u2 _ _ q
                  refine ⟨_, _, rfl, eqd_tup2 1 (by rw [upd_ne (ne_of ht1' L1 (by intro z; cases z))]; exact ht1') (by rw [upd_ne (ne_of (T1 _ _ hq0) L1 (by intro z; cases z))]; exact T1 _ _ hq0), fun H2 s2 => ?_⟩
                  fail "go"
                  exact ⟨_, ps, ts, _, _, rfl, W1.same s2, by omega, z2⟩
                · rw [decide_eq_false (show ¬ V.int (pk % 5) = V.int 1 from fun z => h1 (V.int.inj z))]
                  fail "go"
                  by_cases h2 : pk % 5 < 4
                  · rw [decide_eq_true h2]
                    fail "go"
                    refine ⟨a, l, s, rfl, W0.S, fun H1 S1 k1 => ?_⟩
                    have T1 : ∀ c xs, Hb c = some (.tup xs) → H1 c = some (.tup xs) := fun c xs q => k1 c _ q (ne_of q A1 (by intro z; cases z))
                    have L1 := k1 _ _ L0 (Ne.symm n2)
                    have hq1 := T1 _ _ hq0
                    have W1 : Wk T.Station.C H H1 a b l lb ll hh { s with told := s.told + 1 } (q0 :: ps) ts :=
                      W0.next (fun c o q h1 _ _ => k1 c o q h1) S1 L1 (fun q hq => T1 _ _ (P0 q hq)) W0.e W0.on W0.seen W0.sil
                    have en : needM s = some (q0.2.1 + s.told) := by unfold needM; rw [eline] <;> rfl
                    rw [en]
                    fail "go"
                    refine ⟨_, _, rfl, eqd_int 2 rfl, fun H2 s2 => ?_⟩
                    fail "go"
                    exact ⟨_, _, ts, _, _, rfl, W1.same s2, by rw [List.length_cons]; omega, z2⟩
                  · rw [decide_eq_false h2]
                    fail "go"
                    exact ⟨s, _, ts, _, _, rfl, W0, by rw [List.length_cons]; omega, z2⟩
        case put =>
          generalize upd H' e0 (.lst []) = Hb at W0 ⊢
          obtain ⟨n1, n2, n3, n4, n5, n6, _⟩ := W0.ne
          have L0 := W0.L
          have hS0 := W0.s0.seq hS
          obtain ⟨⟨dx, tt, A1, A2⟩, _⟩ := id W0.S
          have hz : (ps.map fun q => V.ref q.1).length < 100000 := by rw [List.length_map]; omega
          fail "go"
          intro t ht
          have tll : t ≠ ll := fun z => by rw [z, L0] at ht; cases ht
          have at' : a ≠ t := ne_of_none A1 ht
          fail "go"
          have hl1 : s.line.length = ps.length := by rw [← W0.e, List.length_map]
          have u0 : ∀ c o, Hb c = some o → c ≠ ll → upd (upd Hb t (.tup [V.int (pk / 5 % 8), V.int (ns[i] % (10 ^ (9 : Int).toNat + 1))])) ll (.lst ((ps.map fun q => V.ref q.1) ++ [V.ref t])) c = some o := fun c o q h => by
            rw [upd_ne h, upd_ne (ne_of_none q ht)]; exact q
          refine ⟨a, l, s, _, _, rfl, W0.S.keep fun c o q hc => u0 c o q ?_, by omega, fun H4 S4 k4 => ?_⟩
          · rcases hc with rfl | rfl | ⟨xs, rfl⟩
            · exact n2
            · exact n4
            · exact ne_of q L0 (by intro z; cases z)
          · fail "go"
            obtain ⟨xl, hl⟩ := W0.S.lst
            have T1 : ∀ c xs, Hb c = some (.tup xs) → H4 c = some (.tup xs) := fun c xs q => k4 c _ (u0 c _ q (ne_of q L0 (by intro z; cases z))) (ne_of q hl (by intro z; cases z))
            have tl : t ≠ l := fun z => by rw [z, hl] at ht; cases ht
            refine ⟨{ s with line := s.line ++ [(pk / 5 % 8, ns[i] % (10 ^ (9 : Int).toNat + 1))] }, ps ++ [(t, (pk / 5 % 8, ns[i] % (10 ^ (9 : Int).toNat + 1)))], ts, _, _, rfl, W0.next (fun c o q h1 h2 h3 => k4 c o (u0 c o q h3) h2) S4 ?_ (fun q hq => ?_) ?_ W0.on W0.seen W0.sil, by rw [List.length_append, List.length_singleton]; omega, z2⟩
            · rw [List.map_append]
              exact k4 _ _ upd_same (Ne.symm n4)
            · rcases List.mem_append.mp hq with hq | hq
              · exact T1 _ _ (W0.P q hq)
              · cases List.mem_singleton.mp hq
                exact k4 _ _ (by rw [upd_ne tll]; exact upd_same) tl
            · rw [List.map_append, W0.e] <;> rfl
      · rintro σ Hx ⟨s, ps, ts, v8, v9, rfl, W, z1, z2⟩
        -- what is due
        have L := W.L
        fail "go"
        refine s_cut (fun σ Hx => ∃ v9, σ = [some (.ref sc), some (.ref a), some (.ref b), some (.ref ll), some (.int s.told), some (.ref hh), some (.int (i : Int)), some (.int pk), some (optI (needM s)), v9] ∧ Wk T.Station.C H Hx a b l lb ll hh s ps ts) ?_ ?_
        · fail "go"
          intro e1 he1
          fail "go"
          have W0 := W.same (ex_upd (o := .lst []) he1)
          cases ps with
          | nil =>
            have eline : s.line = [] := W.e.symm
            have en : needM s = none := by unfold needM; rw [eline] <;> rfl
            refine iteNT ?_
            fail "go"
            exact ⟨_, by rw [en] <;> rfl, W0⟩
          | cons q0 ps =>
            have eline : s.line = q0.2 :: ps.map (·.2) := W.e.symm
            have en : needM s = some (q0.2.1 + s.told) := by unfold needM; rw [eline] <;> rfl
            have hq0 := W0.P q0 List.mem_cons_self
            refine iteNF ?_
            fail "go"
            exact ⟨_, by rw [en] <;> rfl, W0⟩
        · rintro σ Hy ⟨v9, rfl, W⟩
          fail "go"
          refine' viaH (fun Hz => Wk T.Station.C H Hz a b l lb ll hh s ps ts) ?main ?rest
          case main =>
            intro rest
            obtain ⟨⟨dx, tt, A1, A2⟩, _⟩ := id W.S
            split
            · fail "go"
              refine ⟨a, l, s, rfl, W.S, fun H1 s1 => ?_⟩
              fail "go"
              refine ⟨_, _, rfl, eqd_optI 2 (needM s), fun H2 s2 => ?_⟩
              fail "go"
              exact rest _ ((W.same s1).same s2)
            · clear A1
              fail "go"
              exact rest _ W
          case rest =>
            intro Hz W
            obtain ⟨⟨dx, tt, A1, A2⟩, _⟩ := id W.S
            fail "go"
            refine ⟨a, l, s, rfl, W.S, fun H1 p ps' hp1 hp2 e' pr' s1 => ?_⟩
            have W1 := W.same s1
            fail "go"
            refine ⟨_, _, rfl, eqd_prs 0 hp2 W1.L pr' W1.P (e'.trans W.e.symm) ?_, fun H2 s2 => ?_⟩
            · rw [← List.length_map (f := (·.2)), e', ← W.e, List.length_map]; omega
            have W2 := W1.same s2
            obtain ⟨⟨dx2, tt2, A12, A22⟩, _⟩ := id W2.S
            fail "go"
            refine ⟨a, l, s, rfl, W2.S, fun H3 s3 => ?_⟩
            have W3 := W2.same s3
            fail "go"
            refine ⟨_, _, rfl, eqd_optI 2 (needM s), fun H4 s4 => ?_⟩
            have W4 := W3.same s4
            have hp4 := s4 _ _ (s3 _ _ (s2 _ _ hp2))
            have zl : (ps'.map fun q => V.ref q.1).length < 100000 := by rw [List.length_map, ← List.length_map (f := (·.2)), e', ← W.e, List.length_map]; omega
            have zt : (ts.map V.ref).length < 100000 := by rw [List.length_map]; omega
            have hT4 := W4.T
            have npM : p ∉ [a, b, l, lb, ll, hh] := fun hm => W.mem p hm hp1
            have nph : p ≠ hh := fun z => npM (by rw [z]; simp)
            have nhp : hh ≠ p := Ne.symm nph
            fail "go"
            intro q hq
            obtain ⟨nqp, hq4⟩ := upd_none hq
            have nqM : q ∉ [a, b, l, lb, ll, hh] := fun hm => W4.mem q hm hq4
            have nhq : hh ≠ q := fun z => nqM (by rw [← z]; simp)
            fail "go"
            intro t ht
            obtain ⟨ntq, ht1⟩ := upd_none ht
            obtain ⟨ntp, ht4⟩ := upd_none ht1
            have nht : hh ≠ t := fun z => by rw [← z, hT4] at ht4; cases ht4
            fail "go"
            have W5 : Wk T.Station.C H (upd (upd (upd H4 p (.lst ((ps'.map fun q => V.ref q.1) ++ [V.non]))) q (.lst ((ps'.map fun q => V.ref q.1) ++ [V.non]))) t (.tup [V.ref p, V.ref q])) a b l lb ll hh s ps ts := by
              have sz : Same Hz H4 := ((s1.trans s2).trans s3).trans s4
              refine W.same fun c o e => ?_
              rw [upd_ne (ne_of_none (sz _ _ e) ht4), upd_ne (ne_of_none (sz _ _ e) hq4), upd_ne (ne_of_none e hp1)]
              exact sz _ _ e
            have hps4 : ∀ x ∈ (ps'.map fun q => V.ref q.1) ++ [V.non], Rowish H4 x := fun x hx => by
              rcases List.mem_append.mp hx with hx | hx
              · obtain ⟨q', hq', rfl⟩ := List.mem_map.mp hx
                exact .inr ⟨q'.1, _, rfl, s4 _ _ (s3 _ _ (s2 _ _ (pr' q' hq'))), rfl⟩
              · cases List.mem_singleton.mp hx
                exact .inl rfl
            refine ⟨s, ps, ts ++ [t], _, _, _, _, rfl, W5.held (p := p) (q := q) (xs := (ps'.map fun q => V.ref q.1) ++ [V.non]) but_upd (by rw [List.map_append]; exact upd_same) upd_same ?_ ?_ (fun x hx => ?_) npM nqM, z1, by rw [List.length_append, List.length_singleton]; omega⟩
            · rw [upd_ne (Ne.symm ntp), upd_ne (Ne.symm nqp)]; exact upd_same
            · rw [upd_ne (Ne.symm ntq)]; exact upd_same
            · refine (hps4 x hx).mono fun c xs e => ?_
              rw [upd_ne (ne_of_none e ht4), upd_ne (ne_of_none e hq4), upd_ne (ne_of e hp4 (by intro z; cases z))]
              exact e
    · obtain ⟨s, ps, ts, v6, v7, v8, v9, rfl, W, z1, z2⟩ := p
      obtain ⟨⟨dx, tt, A1, A2⟩, _⟩ := id W.S
      have e1 := W.on
      have e2 := W.seen
      have e3 := W.sil
      rw [e1, e3] at A1
      rw [e2] at A2
      fail "go"
      refine iteNT ?_
      fail "go"
      intro t0 ht0
      fail "go"
      refine r_neD (b := true) (dp_tup2 (p := (0, 0)) (ex_upd ht0 _ _ A2)) (dp_tup2 (p := (0, 0)) upd_same) rfl rfl (SeqAt.eqv_refl _ rfl) ?_
      fail "go"
      refine iteNT ?_
      fail "go"
      have W1 := W.same (ex_upd (o := .tup [V.int 0, V.int 0]) ht0)
      refine ⟨hh, ts, rfl, W1.T, fun t ht => ?_, ?_⟩
      · obtain ⟨p, q, xs, h1, h2, h3, h4, _⟩ := W1.hd t ht
        exact ⟨p, q, xs, h1, h2, h3, h4⟩
      obtain ⟨⟨dy, ty, B1, B2⟩, _⟩ := id W1.B
      fail "go"
      refine ⟨b, lb, _, rfl, W1.B, fun H1 p ps' hp1 hp2 e' pr' s1 => ?_⟩
      fail "go"
      intro t1 ht1
      fail "go"
      intro l1 hl1
      fail "go"
      have nl1 : t1 ≠ l1 := (upd_none hl1).1.symm
      refine ⟨_, _, rfl, eqd_prs 0 (qs := [(t1, (7, 5))]) (ex_upd hl1 _ _ (ex_upd ht1 _ _ hp2)) upd_same (pr'.keep fun c xs q => ex_upd hl1 _ _ (ex_upd ht1 _ _ q)) (fun q hq => ?_) e' ?_, fun H2 s2 => ?_⟩
      · cases List.mem_singleton.mp hq
        rw [upd_ne nl1]; exact upd_same
      · rw [← List.length_map (f := (·.2)), e']; show 1 < 100000; decide
      have W2 := ((W1.same s1).same (ex_upd (o := .tup [V.int 7, V.int 5]) ht1)).same (ex_upd (o := .lst [V.ref t1]) hl1)
      have W3 := W2.same s2
      obtain ⟨⟨dz, tz, C1, C2⟩, _⟩ := id W3.B
      fail "go"
      refine ⟨b, lb, _, rfl, W3.B, fun H3 s3 => ?_⟩
      have z : rEq (.int 7) (.int 7) H3 Q := by
        refine r_eq rfl ?_
        rw [decide_eq_true rfl]
        exact k _
      exact z
end
end My
namespace My
open PySem L2
theorem all_mk {l : PySem.W.OpenLaw} {w : World} {K : PySem.W.Frag} {h : Heap} {mg : Str → Option Value} {fa C_Station fx0 fx1 fx2 fx3 fx4 fx5 fx6 fx7 fx8 fx9 fx10 : Addr} (X : K.In h) (G : h.Ns mainGlobals mg) (hfa : mg "law" = some (.ref fa))
    {odx0 anx0 : Option Addr} {slx0 : Array (Option Value)} {ocx0 kVx0 dcx0 pmx0 cdx0 ctx0 : Value}
    {odx1 anx1 : Option Addr} {slx1 : Array (Option Value)} {ocx1 kVx1 dcx1 pmx1 cdx1 ctx1 : Value}
    {odx2 anx2 : Option Addr} {slx2 : Array (Option Value)} {ocx2 kVx2 dcx2 pmx2 cdx2 ctx2 : Value}
    {odx3 anx3 : Option Addr} {slx3 : Array (Option Value)} {ocx3 kVx3 dcx3 pmx3 cdx3 ctx3 : Value}
    {odx4 anx4 : Option Addr} {slx4 : Array (Option Value)} {ocx4 kVx4 dcx4 pmx4 cdx4 ctx4 : Value}
    {odx5 anx5 : Option Addr} {slx5 : Array (Option Value)} {ocx5 kVx5 dcx5 pmx5 cdx5 ctx5 : Value}
    {odx6 anx6 : Option Addr} {slx6 : Array (Option Value)} {ocx6 kVx6 dcx6 pmx6 cdx6 ctx6 : Value}
    {odx7 anx7 : Option Addr} {slx7 : Array (Option Value)} {ocx7 kVx7 dcx7 pmx7 cdx7 ctx7 : Value}
    {odx8 anx8 : Option Addr} {slx8 : Array (Option Value)} {ocx8 kVx8 dcx8 pmx8 cdx8 ctx8 : Value}
    {odx9 anx9 : Option Addr} {slx9 : Array (Option Value)} {ocx9 kVx9 dcx9 pmx9 cdx9 ctx9 : Value}
    {odx10 anx10 : Option Addr} {slx10 : Array (Option Value)} {ocx10 kVx10 dcx10 pmx10 cdx10 ctx10 : Value}
    (aC_Station : PySem.W.nsIn K mainGlobals "Station" = some (some (.ref C_Station)))
    (pg_Station : PySem.W.plainGet K C_Station Str.empty = true)
    (hd_Station : PySem.W.hasDictIn K C_Station = true)
    (po_Station : PySem.W.plainOver K C_Station = true)
    (sa_Station : PySem.W.findIn K (.ref C_Station) "__setattr__" = some (some (.builtin "object.__setattr__")))
    (mk_Station : PySem.W.makesIn K C_Station = true)
    (kc_Station : PySem.W.keepIn K (.ref C_Station) = true)
    (na_Station_on : PySem.W.findIn K (.ref C_Station) "on" = some none)
    (na_Station_seen : PySem.W.findIn K (.ref C_Station) "seen" = some none)
    (na_Station_silence : PySem.W.findIn K (.ref C_Station) "silence" = some none)
    (na_Station_line : PySem.W.findIn K (.ref C_Station) "line" = some none)
    (na_Station_told : PySem.W.findIn K (.ref C_Station) "told" = some none)
    (ax0 : PySem.W.findIn K (.ref C_Station) "__init__" = some (some (.ref fx0)))
    (ix0 : PySem.W.isFn K (.ref fx0) = true)
    (lx0 : K.lookup fx0 = some ⟨ocx0, odx0, .func (PySem.W.fnOf "__init__" "Station.__init__" (defArgs s_Station_init) (defBody s_Station_init) (defScope s_Station_init) .none kVx0 dcx0 pmx0 anx0 cdx0 ctx0), slx0⟩)
    (cx0 : PySem.W.codeIn K cdx0 "Station.__init__" = true)
    (kx0 : PySem.W.keepIn K (.ref fx0) = true)
    (ax1 : PySem.W.findIn K (.ref C_Station) "put" = some (some (.ref fx1)))
    (ix1 : PySem.W.isFn K (.ref fx1) = true)
    (lx1 : K.lookup fx1 = some ⟨ocx1, odx1, .func (PySem.W.fnOf "put" "Station.put" (defArgs s_Station_put) (defBody s_Station_put) (defScope s_Station_put) .none kVx1 dcx1 pmx1 anx1 cdx1 ctx1), slx1⟩)
    (cx1 : PySem.W.codeIn K cdx1 "Station.put" = true)
    (kx1 : PySem.W.keepIn K (.ref fx1) = true)
    (ax2 : PySem.W.findIn K (.ref C_Station) "messages" = some (some (.ref fx2)))
    (ix2 : PySem.W.isFn K (.ref fx2) = true)
    (lx2 : K.lookup fx2 = some ⟨ocx2, odx2, .func (PySem.W.fnOf "messages" "Station.messages" (defArgs s_Station_messages) (defBody s_Station_messages) (defScope s_Station_messages) .none kVx2 dcx2 pmx2 anx2 cdx2 ctx2), slx2⟩)
    (cx2 : PySem.W.codeIn K cdx2 "Station.messages" = true)
    (kx2 : PySem.W.keepIn K (.ref fx2) = true)
    (ax3 : PySem.W.findIn K (.ref C_Station) "need" = some (some (.ref fx3)))
    (ix3 : PySem.W.isFn K (.ref fx3) = true)
    (lx3 : K.lookup fx3 = some ⟨ocx3, odx3, .func (PySem.W.fnOf "need" "Station.need" (defArgs s_Station_need) (defBody s_Station_need) (defScope s_Station_need) .none kVx3 dcx3 pmx3 anx3 cdx3 ctx3), slx3⟩)
    (cx3 : PySem.W.codeIn K cdx3 "Station.need" = true)
    (kx3 : PySem.W.keepIn K (.ref fx3) = true)
    (ax4 : PySem.W.findIn K (.ref C_Station) "tell" = some (some (.ref fx4)))
    (ix4 : PySem.W.isFn K (.ref fx4) = true)
    (lx4 : K.lookup fx4 = some ⟨ocx4, odx4, .func (PySem.W.fnOf "tell" "Station.tell" (defArgs s_Station_tell) (defBody s_Station_tell) (defScope s_Station_tell) .none kVx4 dcx4 pmx4 anx4 cdx4 ctx4), slx4⟩)
    (cx4 : PySem.W.codeIn K cdx4 "Station.tell" = true)
    (kx4 : PySem.W.keepIn K (.ref fx4) = true)
    (ax5 : PySem.W.findIn K (.ref C_Station) "send" = some (some (.ref fx5)))
    (ix5 : PySem.W.isFn K (.ref fx5) = true)
    (lx5 : K.lookup fx5 = some ⟨ocx5, odx5, .func (PySem.W.fnOf "send" "Station.send" (defArgs s_Station_send) (defBody s_Station_send) (defScope s_Station_send) .none kVx5 dcx5 pmx5 anx5 cdx5 ctx5), slx5⟩)
    (cx5 : PySem.W.codeIn K cdx5 "Station.send" = true)
    (kx5 : PySem.W.keepIn K (.ref fx5) = true)
    (ax6 : PySem.W.nsIn K mainGlobals "_law_whole" = some (some (.ref fx6)))
    (lx6 : K.lookup fx6 = some ⟨ocx6, odx6, .func (PySem.W.fnOf "_law_whole" "_law_whole" (defArgs s_law_whole) (defBody s_law_whole) (defScope s_law_whole) .none kVx6 dcx6 pmx6 anx6 cdx6 ctx6), slx6⟩)
    (cx6 : PySem.W.codeIn K cdx6 "_law_whole" = true)
    (kx6 : PySem.W.keepIn K (.ref fx6) = true)
    (ax7 : PySem.W.nsIn K mainGlobals "_law_mixed" = some (some (.ref fx7)))
    (lx7 : K.lookup fx7 = some ⟨ocx7, odx7, .func (PySem.W.fnOf "_law_mixed" "_law_mixed" (defArgs s_law_mixed) (defBody s_law_mixed) (defScope s_law_mixed) .none kVx7 dcx7 pmx7 anx7 cdx7 ctx7), slx7⟩)
    (cx7 : PySem.W.codeIn K cdx7 "_law_mixed" = true)
    (kx7 : PySem.W.keepIn K (.ref fx7) = true)
    (ax8 : PySem.W.nsIn K mainGlobals "_law_held" = some (some (.ref fx8)))
    (lx8 : K.lookup fx8 = some ⟨ocx8, odx8, .func (PySem.W.fnOf "_law_held" "_law_held" (defArgs s_law_held) (defBody s_law_held) (defScope s_law_held) .none kVx8 dcx8 pmx8 anx8 cdx8 ctx8), slx8⟩)
    (cx8 : PySem.W.codeIn K cdx8 "_law_held" = true)
    (kx8 : PySem.W.keepIn K (.ref fx8) = true)
    (ax9 : PySem.W.nsIn K mainGlobals "_law_same" = some (some (.ref fx9)))
    (lx9 : K.lookup fx9 = some ⟨ocx9, odx9, .func (PySem.W.fnOf "_law_same" "_law_same" (defArgs s_law_same) (defBody s_law_same) (defScope s_law_same) .none kVx9 dcx9 pmx9 anx9 cdx9 ctx9), slx9⟩)
    (cx9 : PySem.W.codeIn K cdx9 "_law_same" = true)
    (kx9 : PySem.W.keepIn K (.ref fx9) = true)
    (ax10 : PySem.W.nsIn K mainGlobals "law" = some (some (.ref fx10)))
    (lx10 : K.lookup fx10 = some ⟨ocx10, odx10, .func (PySem.W.fnOf "law" "law" (defArgs s_law) (defBody s_law) (defScope s_law) .none kVx10 dcx10 pmx10 anx10 cdx10 ctx10), slx10⟩)
    (cx10 : PySem.W.codeIn K cdx10 "law" = true)
    (kx10 : PySem.W.keepIn K (.ref fx10) = true)
    (n_len : PySem.W.nsIn K mainGlobals "len" = some none)
    (n_list : PySem.W.nsIn K mainGlobals "list" = some none)
    (n_isinstance : PySem.W.nsIn K mainGlobals "isinstance" = some none)
    (n_int : PySem.W.nsIn K mainGlobals "int" = some none)
    (n_bool : PySem.W.nsIn K mainGlobals "bool" = some none)
    (n_str : PySem.W.nsIn K mainGlobals "str" = some none)
    (n_tuple : PySem.W.nsIn K mainGlobals "tuple" = some none)
    (n_all : PySem.W.nsIn K mainGlobals "all" = some none)
    (n_range : PySem.W.nsIn K mainGlobals "range" = some none)
    (n_min : PySem.W.nsIn K mainGlobals "min" = some none)
    : ∃ fd : FuncData, (∀ (s : Shared) (v : Value), BindsTo s fd ⟨[v], []⟩ [("_law_script", v)]) ∧ ∀ base : Heap, K.In base → base.Ns mainGlobals mg → FnOk l.prog w K mg base CX0 5 fa fd ["_law_script"] (spLaw K) := by
  have e := hfa.symm.trans (PySem.W.mg_of X G ax10)
  cases e
  let T : Tx K mg := ⟨⟨C_Station, ⟨pg_Station, hd_Station, po_Station, sa_Station⟩, PySem.W.mg_of X G aC_Station⟩,
    na_Station_on,
    na_Station_seen,
    na_Station_silence,
    na_Station_line,
    na_Station_told,
    ⟨fx0, _, (fun_mk (st := s_Station_init) lx0 cx0 kx0), ((fun_mk (st := s_Station_init) lx0 cx0 kx0).binds (ps := ["self"]) fun _ _ _ _ _ _ us hl => match us, hl with | [_], _ => rfl), ⟨mk_Station, ax0, ix0, kc_Station⟩⟩,
    ⟨fx1, _, (fun_mk (st := s_Station_put) lx1 cx1 kx1), ((fun_mk (st := s_Station_put) lx1 cx1 kx1).binds (ps := ["self", "rank", "mark"]) fun _ _ _ _ _ _ us hl => match us, hl with | [_, _, _], _ => rfl), ⟨ax1, ix1, kx1⟩⟩,
    ⟨fx2, _, (fun_mk (st := s_Station_messages) lx2 cx2 kx2), ((fun_mk (st := s_Station_messages) lx2 cx2 kx2).binds (ps := ["self"]) fun _ _ _ _ _ _ us hl => match us, hl with | [_], _ => rfl), ⟨ax2, ix2, kx2⟩⟩,
    ⟨fx3, _, (fun_mk (st := s_Station_need) lx3 cx3 kx3), ((fun_mk (st := s_Station_need) lx3 cx3 kx3).binds (ps := ["self"]) fun _ _ _ _ _ _ us hl => match us, hl with | [_], _ => rfl), ⟨ax3, ix3, kx3⟩⟩,
    ⟨fx4, _, (fun_mk (st := s_Station_tell) lx4 cx4 kx4), ((fun_mk (st := s_Station_tell) lx4 cx4 kx4).binds (ps := ["self"]) fun _ _ _ _ _ _ us hl => match us, hl with | [_], _ => rfl), ⟨ax4, ix4, kx4⟩⟩,
    ⟨fx5, _, (fun_mk (st := s_Station_send) lx5 cx5 kx5), ((fun_mk (st := s_Station_send) lx5 cx5 kx5).binds (ps := ["self"]) fun _ _ _ _ _ _ us hl => match us, hl with | [_], _ => rfl), ⟨ax5, ix5, kx5⟩⟩,
    ⟨fx6, _, (fun_mk (st := s_law_whole) lx6 cx6 kx6), ((fun_mk (st := s_law_whole) lx6 cx6 kx6).binds (ps := ["_law_found"]) fun _ _ _ _ _ _ us hl => match us, hl with | [_], _ => rfl), PySem.W.mg_of X G ax6⟩,
    ⟨fx7, _, (fun_mk (st := s_law_mixed) lx7 cx7 kx7), ((fun_mk (st := s_law_mixed) lx7 cx7 kx7).binds (ps := ["_law_cell", "_law_k"]) fun _ _ _ _ _ _ us hl => match us, hl with | [_, _], _ => rfl), PySem.W.mg_of X G ax7⟩,
    ⟨fx8, _, (fun_mk (st := s_law_held) lx8 cx8 kx8), ((fun_mk (st := s_law_held) lx8 cx8 kx8).binds (ps := ["_law_held_here"]) fun _ _ _ _ _ _ us hl => match us, hl with | [_], _ => rfl), PySem.W.mg_of X G ax8⟩,
    ⟨fx9, _, (fun_mk (st := s_law_same) lx9 cx9 kx9), ((fun_mk (st := s_law_same) lx9 cx9 kx9).binds (ps := ["_law_found", "_law_due"]) fun _ _ _ _ _ _ us hl => match us, hl with | [_, _], _ => rfl), PySem.W.mg_of X G ax9⟩,
    ⟨_, _, (fun_mk (st := s_law) lx10 cx10 kx10), ((fun_mk (st := s_law) lx10 cx10 kx10).binds (ps := ["_law_script"]) fun _ _ _ _ _ _ us hl => match us, hl with | [_], _ => rfl), PySem.W.mg_of X G ax10⟩,
    (PySem.W.mg_none_of X G n_len),
    (PySem.W.mg_none_of X G n_list),
    (PySem.W.mg_none_of X G n_isinstance),
    (PySem.W.mg_none_of X G n_int),
    (PySem.W.mg_none_of X G n_bool),
    (PySem.W.mg_none_of X G n_str),
    (PySem.W.mg_none_of X G n_tuple),
    (PySem.W.mg_none_of X G n_all),
    (PySem.W.mg_none_of X G n_range),
    (PySem.W.mg_none_of X G n_min)⟩
  exact ⟨_, fun s v => .of_eq rfl, fun base _ _ => (ok_law T : FnOk l.prog w K mg base CX0 5 T.f_law.f T.f_law.fd ["_law_script"] (spLaw K))⟩
theorem walk {l : PySem.W.OpenLaw} {q : Program} {loose : List Str} {XP : (Str → Option Value) → Heap → Prop} {YP : World → Heap → Prop} {d : DefRec} {K : Params → PySem.W.Frag} (hn : l.most = some 63) (hdf : d.params.defaults = [])
    (hY : ∀ (w : World) (h : Heap), YP w h → (K w.params).In h)
    (F : ∀ (w : World) (mg : Str → Option Value) (fa : Addr) (h : Heap), (K w.params).In h → h.Ns mainGlobals mg → mg d.name = some (.ref fa) →
      ∃ fd : FuncData, (∀ (s : Shared) (u : Value), BindsTo s fd ⟨[u], []⟩ [("_law_script", u)]) ∧ ∀ base : Heap, (K w.params).In base → base.Ns mainGlobals mg → FnOk l.prog w (K w.params) mg base CX0 5 fa fd ["_law_script"] (spLaw (K w.params))) :
    PySem.W.WalkO q loose XP YP l.row.toRowW d [] (fun f vs => PySem.call f vs) :=
  L2.walk_of (n := 63) (k := 5) (x := "_law_script") (CX := fun w => CX0) (sp := fun w => spLaw (K w.params)) hn (by decide) hdf ⟨rfl, by decide, by decide⟩ hY F (fun _ _ a ns hl _ hS => ⟨a, ns, rfl, hS, hl, fun _ => rfl⟩) fun _ _ _ _ _ z => z
end My
open PySem PySem.W PyProof.Rows
set_option maxRecDepth 100000 in
set_option maxHeartbeats 0 in
theorem PySem.Challenge.cw_passring_k02_a_station_holds : PySem.Challenge.rw_passring_k02_a_station.Holds := by
  w_on; o_law; k_head; (case hw => w_witness2)
  k_fill
  refine My.walk (l := PySem.Challenge.rw_passring_k02_a_station) rfl rfl (fun w h Y => PySem.W.kIn_of Y) ?F
  case F =>
    intro w mg fa h KX G hmg
    refine' My.all_mk KX G hmg ?aC_Station ?pg_Station ?hd_Station ?po_Station ?sa_Station ?mk_Station ?kc_Station ?na_Station_on ?na_Station_seen ?na_Station_silence ?na_Station_line ?na_Station_told ?ax0 ?ix0 ?lx0 ?cx0 ?kx0 ?ax1 ?ix1 ?lx1 ?cx1 ?kx1 ?ax2 ?ix2 ?lx2 ?cx2 ?kx2 ?ax3 ?ix3 ?lx3 ?cx3 ?kx3 ?ax4 ?ix4 ?lx4 ?cx4 ?kx4 ?ax5 ?ix5 ?lx5 ?cx5 ?kx5 ?ax6 ?lx6 ?cx6 ?kx6 ?ax7 ?lx7 ?cx7 ?kx7 ?ax8 ?lx8 ?cx8 ?kx8 ?ax9 ?lx9 ?cx9 ?kx9 ?ax10 ?lx10 ?cx10 ?kx10 ?n_len ?n_list ?n_isinstance ?n_int ?n_bool ?n_str ?n_tuple ?n_all ?n_range ?n_min
    (case aC_Station => k_is)
    (case pg_Station => k_is)
    (case hd_Station => k_is)
    (case po_Station => k_is)
    (case sa_Station => k_is)
    (case mk_Station => k_is)
    (case kc_Station => k_is)
    (case na_Station_on => k_is)
    (case na_Station_seen => k_is)
    (case na_Station_silence => k_is)
    (case na_Station_line => k_is)
    (case na_Station_told => k_is)
    (case ax0 => k_is)
    (case ix0 => k_is)
    (case lx0 => k_is)
    (case cx0 => k_is)
    (case kx0 => k_is)
    (case ax1 => k_is)
    (case ix1 => k_is)
    (case lx1 => k_is)
    (case cx1 => k_is)
    (case kx1 => k_is)
    (case ax2 => k_is)
    (case ix2 => k_is)
    (case lx2 => k_is)
    (case cx2 => k_is)
    (case kx2 => k_is)
    (case ax3 => k_is)
    (case ix3 => k_is)
    (case lx3 => k_is)
    (case cx3 => k_is)
    (case kx3 => k_is)
    (case ax4 => k_is)
    (case ix4 => k_is)
    (case lx4 => k_is)
    (case cx4 => k_is)
    (case kx4 => k_is)
    (case ax5 => k_is)
    (case ix5 => k_is)
    (case lx5 => k_is)
    (case cx5 => k_is)
    (case kx5 => k_is)
    (case ax6 => k_is)
    (case lx6 => k_is)
    (case cx6 => k_is)
    (case kx6 => k_is)
    (case ax7 => k_is)
    (case lx7 => k_is)
    (case cx7 => k_is)
    (case kx7 => k_is)
    (case ax8 => k_is)
    (case lx8 => k_is)
    (case cx8 => k_is)
    (case kx8 => k_is)
    (case ax9 => k_is)
    (case lx9 => k_is)
    (case cx9 => k_is)
    (case kx9 => k_is)
    (case ax10 => k_is)
    (case lx10 => k_is)
    (case cx10 => k_is)
    (case kx10 => k_is)
    (case n_len => k_is)
    (case n_list => k_is)
    (case n_isinstance => k_is)
    (case n_int => k_is)
    (case n_bool => k_is)
    (case n_str => k_is)
    (case n_tuple => k_is)
    (case n_all => k_is)
    (case n_range => k_is)
    (case n_min => k_is)
#print axioms PySem.Challenge.cw_passring_k02_a_station_holds
