import PyProof.Rows.All
import Wide.All
import OpenK.AllK
import Wide.FinOn
import HandS.ForExc
import HandS.ForMost
import HandS.Flow
import HandS.Steps
import HandS.Evl
import HandS.IsInst
import HandS.TupLe
import HandS.More
import HandS.Conv
import HandS.TryMany
import PySem.Challenge.RW_passring_k01_rules
set_option Elab.async false
set_option linter.all false
set_option maxRecDepth 100000
set_option maxHeartbeats 4000000
/-! part pa_eval: small-step rules for readings (own work) -/
namespace PR
open PySem L2
section
variable {K : PySem.W.Frag} {σ : St} {H : Hp} {Q : VK} {ta tb tc : TE} {f : Str} {a C dx : Addr} {fs : List (Str × V)} {v x y : V} {i : Nat}
/-! values -/
theorem r_var (h : σ[i]? = some (some v)) (q : Q v H) : tVar i σ H Q := ⟨v, h, q⟩
theorem r_c (q : Q v H) : tC v σ H Q := q
def kFld (K : PySem.W.Frag) (f : Str) (Q : VK) : VK := fun x H1 => ∃ a C dx fs v, x = .ref a ∧ H1 a = some (.ins C dx fs) ∧ Cls K C ∧ NoAttr K C f ∧ fs.lookup f = some v ∧ Q v H1
theorem r_fld (h : ta σ H (kFld K f Q)) : tFld K ta f σ H Q := h
theorem r_fldK (h1 : H a = some (.ins C dx fs)) (h2 : Cls K C) (h3 : NoAttr K C f) (h4 : fs.lookup f = some v) (q : Q v H) : kFld K f Q (.ref a) H := ⟨a, C, dx, fs, v, rfl, h1, h2, h3, h4, q⟩
theorem r_op {r : R2} (h : ta σ H fun x H1 => tb σ H1 fun y H2 => r x y H2 Q) : tOp r ta tb σ H Q := h
theorem r_un {r : V → Hp → VK → Prop} (h : ta σ H fun x H1 => r x H1 Q) : tUn r ta σ H Q := h
theorem r_I0 {g : Int → Int → V} {i j : Int} (q : Q (g i j) H) : rI0 g (.int i) (.int j) H Q := ⟨i, j, rfl, rfl, q⟩
theorem r_I {c : Int → Int → Prop} {g : Int → Int → V} {i j : Int} (h : c i j) (q : Q (g i j) H) : rI c g (.int i) (.int j) H Q := ⟨i, j, rfl, rfl, h, q⟩
theorem r_U {g : Int → V} {i : Int} (q : Q (g i) H) : rU g (.int i) H Q := ⟨i, rfl, q⟩
theorem r_eq (h : scal x y = true) (q : Q (.bl (decide (x = y))) H) : rEq x y H Q := ⟨h, q⟩
theorem r_ne (h : scal x y = true) (q : Q (.bl (!decide (x = y))) H) : rNe x y H Q := ⟨h, q⟩
theorem r_isN (q : Q (.bl (decide (x = .non))) H) : rIsN x .non H Q := ⟨rfl, q⟩
theorem r_notN (q : Q (.bl (!decide (x = .non))) H) : rNotN x .non H Q := ⟨rfl, q⟩
theorem r_ixL {p : Addr} {xs : List V} {i : Int} (h : SqL K H p xs) (e : atI xs i = some v) (q : Q v H) : rIxL K (.ref p) (.int i) H Q := ⟨p, xs, i, v, rfl, rfl, h, e, q⟩
theorem r_ixT {p : Addr} {xs : List V} {i : Int} (h : SqT K H p xs) (e : atI xs i = some v) (q : Q v H) : rIxT K (.ref p) (.int i) H Q := ⟨p, xs, i, v, rfl, rfl, h, e, q⟩
theorem r_tup {t : TA} (h : t σ H fun xs H1 => xs.length ≤ sizeLine ∧ ∀ p, H1 p = none → Q (.ref p) (upd H1 p (.tup xs))) : tTup t σ H Q := h
theorem r_lst {t : TA} (h : t σ H fun xs H1 => xs.length ≤ sizeLine ∧ ∀ p, H1 p = none → Q (.ref p) (upd H1 p (.lst xs))) : tLst t σ H Q := h
theorem r_nil {Q : List V → Hp → Prop} (q : Q [] H) : tNil σ H Q := q
theorem r_cons {tr : TA} {Q : List V → Hp → Prop} (h : ta σ H fun x H1 => tr σ H1 fun xs H2 => Q (x :: xs) H2) : tCons ta tr σ H Q := h
theorem r_call {sp : Sp} {dvs : List V} {E : XK} {t : TA} (h : t σ H fun vs H1 => sp (vs ++ dvs) H1 Q E) : tCall sp dvs E t σ H Q := h
def kMeth (C : Addr) (m : Str) (sp : Sp) (dvs : List V) (E : XK) (t : TA) (σ : St) (Q : VK) : VK := fun x H1 => ∃ a dx fs, x = .ref a ∧ H1 a = some (.ins C dx fs) ∧ fs.lookup m = none ∧ t σ H1 fun vs H2 => sp (x :: (vs ++ dvs)) H2 Q E
theorem r_meth {m : Str} {sp : Sp} {dvs : List V} {E : XK} {t : TA} (h : ta σ H (kMeth C m sp dvs E t σ Q)) : tMeth C m sp dvs E ta t σ H Q := h
theorem r_methK {m : Str} {sp : Sp} {dvs : List V} {E : XK} {t : TA} (h1 : H a = some (.ins C dx fs)) (h2 : fs.lookup m = none) (q : t σ H fun vs H2 => sp (.ref a :: (vs ++ dvs)) H2 Q E) : kMeth C m sp dvs E t σ Q (.ref a) H := ⟨a, dx, fs, rfl, h1, h2, q⟩
theorem r_make {sp : Sp} {dvs : List V} {E : XK} {t : TA} (h : t σ H fun vs H1 => ∀ x dx, H1 x = none → H1 dx = none → dx ≠ x →
  sp (.ref x :: (vs ++ dvs)) (upd (upd H1 dx (.own x)) x (.ins C dx [])) (fun v H2 => v = .non ∧ Q (.ref x) H2) E) : tMake C sp dvs E t σ H Q := h
theorem r_cb {r : List V → Hp → VK → Prop} {t : TA} (h : t σ H fun vs H1 => r vs H1 Q) : tCB r t σ H Q := h
theorem r_bm0L {id : V → List V → Hp → VK → Prop} {p : Addr} {xs : List V} (h : SqL K H p xs) (q : id (.ref p) [] H Q) : tyV K "list" (.ref p) H ∧ id (.ref p) [] H Q := ⟨.inl ⟨rfl, xs, h⟩, q⟩
theorem r_bm0 {T : String} {r : V → List V → Hp → VK → Prop} (h : ta σ H fun x H1 => tyV K T x H1 ∧ r x [] H1 Q) : tBM0 K T r ta σ H Q := h
theorem r_bm {T : String} {r : V → List V → Hp → VK → Prop} {t : TA} (h : ta σ H fun x H1 => tyV K T x H1 ∧ t σ H1 fun xs H2 => r x xs H2 Q) : tBM K T r ta t σ H Q := h
theorem r_tyL {A : Prop} {p : Addr} {xs : List V} (h : SqL K H p xs) (q : A) : tyV K "list" (.ref p) H ∧ A := ⟨.inl ⟨rfl, xs, h⟩, q⟩
theorem r_tyS {A : Prop} {z : Str} (q : A) : tyV K "str" (.str z) H ∧ A := ⟨rfl, q⟩
theorem r_if {t : TT} (h : t σ H fun c H1 => if c = true then ta σ H1 Q else tb σ H1 Q) : tIf t ta tb σ H Q := h
def kAndV (tb : TE) (σ : St) (Q : VK) : VK := fun x H1 => ∃ c, x = .bl c ∧ if c = true then tb σ H1 Q else Q (.bl false) H1
theorem r_andV (h : ta σ H (kAndV tb σ Q)) : tAndV ta tb σ H Q := h
theorem r_andVK {c : Bool} (h : if c = true then tb σ H Q else Q (.bl false) H) : kAndV tb σ Q (.bl c) H := ⟨c, rfl, h⟩
def kOrV (tb : TE) (σ : St) (Q : VK) : VK := fun x H1 => ∃ c, x = .bl c ∧ if c = true then Q (.bl true) H1 else tb σ H1 Q
theorem r_orV (h : ta σ H (kOrV tb σ Q)) : tOrV ta tb σ H Q := h
theorem r_orVK {c : Bool} (h : if c = true then Q (.bl true) H else tb σ H Q) : kOrV tb σ Q (.bl c) H := ⟨c, rfl, h⟩
def kNotV (Q : VK) : VK := fun x H1 => ∃ c, x = .bl c ∧ Q (.bl (!c)) H1
theorem r_notV (h : ta σ H (kNotV Q)) : tNotV ta σ H Q := h
theorem r_notVK {c : Bool} (h : Q (.bl (!c)) H) : kNotV Q (.bl c) H := ⟨c, rfl, h⟩
def kChain (r' : R2) (y : V) (tc : TE) (σ : St) (Q : VK) : VK := fun z H3 => ∃ k, z = .bl k ∧ (if k = true then tc σ H3 fun w' H4 => r' y w' H4 Q else Q (.bl false) H3)
theorem r_chain {r r' : R2} (h : ta σ H fun x H1 => tb σ H1 fun y H2 => r x y H2 (kChain r' y tc σ Q)) : tChain r r' ta tb tc σ H Q := h
theorem r_chainK {r' : R2} {k : Bool} (h : if k = true then tc σ H fun w' H4 => r' y w' H4 Q else Q (.bl false) H) : kChain r' y tc σ Q (.bl k) H := ⟨k, rfl, h⟩
end
/-! tests -/
section
variable {K : PySem.W.Frag} {σ : St} {H : Hp} {Q : Bool → Hp → Prop} {ta : TE} {t u : TT} {c : Bool}
def kB (Q : Bool → Hp → Prop) : VK := fun x H1 => ∃ c, x = .bl c ∧ Q c H1
theorem r_tB (h : ta σ H (kB Q)) : tB ta σ H Q := h
theorem r_tTest (h : ta σ H (kB Q)) : tTest ta σ H Q := h
theorem r_kB (q : Q c H) : kB Q (.bl c) H := ⟨c, rfl, q⟩
theorem r_and (h : t σ H fun c H1 => if c = true then u σ H1 Q else Q false H1) : tAnd t u σ H Q := h
theorem r_or (h : t σ H fun c H1 => if c = true then Q true H1 else u σ H1 Q) : tOr t u σ H Q := h
theorem r_not (h : t σ H fun c H1 => Q (!c) H1) : tNot t σ H Q := h
theorem r_yes (q : Q true H) : tYes σ H Q := q
def kTru (K : PySem.W.Frag) (Q : Bool → Hp → Prop) : VK := fun x H1 => ∃ k, TruV K x H1 k ∧ Q k H1
theorem r_tru (h : ta σ H (kTru K Q)) : tTru K ta σ H Q := h
end
theorem pt_truthN {X : Cx} {e : Expr} {te : TE} (ha : PE X e te) (he : ∀ whole, isTrue e X.env whole = (do let v ← whole; standAt e.pos; holding [v] (truthy v))) : PT X e (tTru X.K te) := pt_truth ha he
/-! statements -/
section
variable {K : PySem.W.Frag} {D : Ends} {σ : St} {H : Hp} {te ta tv : TE} {t u : TS} {c : TT} {g : TG} {i : Nat} {v : V} {f : Str} {a C dx : Addr} {fs : List (Str × V)}
theorem s_seq (h : t { D with nx := u D } σ H) : tSeq t u D σ H := h
theorem s_next (h : D.nx σ H) : tNext D σ H := h
theorem s_brk (h : D.bk σ H) : tBreak D σ H := h
theorem s_cont (h : D.ct σ H) : tCont D σ H := h
theorem s_drop (h : te σ H fun _ H1 => D.nx σ H1) : tDrop te D σ H := h
theorem s_ret (h : te σ H D.rt) : tRet te D σ H := h
theorem s_retN (h : D.rt .non H) : tRetN D σ H := h
theorem s_asg (h : te σ H fun x H1 => g x σ H1 D.nx) : tAsg te g D σ H := h
theorem s_name {Q : St → Hp → Prop} (h : Q (σ.set i (some v)) H) : gName i v σ H Q := h
theorem s_if (h : c σ H fun b H1 => if b = true then t D σ H1 else u D σ H1) : tIfS c t u D σ H := h
def kSFld (K : PySem.W.Frag) (f : Str) (y : V) (D : Ends) (σ : St) : VK := fun x H2 => ∃ a C dx fs, x = .ref a ∧ H2 a = some (.ins C dx fs) ∧ Cls K C ∧ NoAttr K C f ∧ fs.length < 1000 ∧ D.nx σ (upd H2 a (.ins C dx (putF f y fs)))
theorem s_fld (h : tv σ H fun y H1 => ta σ H1 (kSFld K f y D σ)) : sFld K ta tv f D σ H := h
theorem s_fldK {y : V} (h1 : H a = some (.ins C dx fs)) (h2 : Cls K C) (h3 : NoAttr K C f) (h4 : fs.length < 1000) (q : D.nx σ (upd H a (.ins C dx (putF f y fs)))) : kSFld K f y D σ (.ref a) H := ⟨a, C, dx, fs, rfl, h1, h2, h3, h4, q⟩
end
/-! own named readings of calls -/
section
variable {K : PySem.W.Frag} {H : Hp} {Q : VK}
def rLen (K : PySem.W.Frag) : List V → Hp → VK → Prop := fun xs H Q => ∃ p ys, xs = [.ref p] ∧ (SqL K H p ys ∨ SqT K H p ys) ∧ Q (.int ys.length) H
theorem c_len {X : Cx} : CallR X (.builtin "len") (rLen X.K) := call_len_seq
theorem r_len {p : Addr} {ys : List V} (h : SqL K H p ys) (q : Q (.int ys.length) H) : rLen K [.ref p] H Q := ⟨p, ys, rfl, .inl h, q⟩
theorem r_lenT {p : Addr} {ys : List V} (h : SqT K H p ys) (q : Q (.int ys.length) H) : rLen K [.ref p] H Q := ⟨p, ys, rfl, .inr h, q⟩
def rLenS : List V → Hp → VK → Prop := fun xs H Q => ∃ z, xs = [.str z] ∧ z.length ≤ sizeLine ∧ Q (.int z.length) H
theorem c_lenS {X : Cx} : CallR X (.builtin "len") rLenS := call_len_str
theorem r_lenS {z : Str} (h : z.length ≤ sizeLine) (q : Q (.int z.length) H) : rLenS [.str z] H Q := ⟨z, rfl, h, q⟩
def rListOf (K : PySem.W.Frag) : List V → Hp → VK → Prop := fun xs H Q => ∃ p ys, xs = [.ref p] ∧ (SqL K H p ys ∨ SqT K H p ys) ∧ ∀ l, H l = none → Q (.ref l) (upd H l (.lst ys))
theorem c_listOf {X : Cx} : CallR X (.type "list") (rListOf X.K) := call_list_of
theorem r_listOf {p : Addr} {ys : List V} (h : SqL K H p ys) (q : ∀ l, H l = none → Q (.ref l) (upd H l (.lst ys))) : rListOf K [.ref p] H Q := ⟨p, ys, rfl, .inl h, q⟩
theorem r_append {l : Addr} {xs : List V} {y : V} (h : H l = some (.lst xs)) (hz : xs.length < sizeLine) (q : Q .non (upd H l (.lst (xs ++ [y])))) : rAppend (.ref l) [y] H Q := ⟨l, xs, y, rfl, rfl, h, hz, q⟩
theorem r_popAt {l : Addr} {xs : List V} {i : Int} {k : Nat} {y : V} (h : H l = some (.lst xs)) (h0 : 0 ≤ i) (hk : i.toNat = k) (hl : k < xs.length) (hz : xs.length ≤ sizeLine) (hy : xs[k]? = some y) (q : Q y (upd H l (.lst (xs.eraseIdx k)))) : rPopAt (.ref l) [.int i] H Q := by
  have hs : (sizeLine : Nat) < 2 ^ 62 := by rw [sizeLine_eq]; decide
  refine ⟨l, xs, i, k, y, rfl, rfl, h, by omega, by omega, ?_, hy, q⟩
  unfold seqIndex?
  simp
  omega
theorem r_max2 {i j : Int} (q : Q (.int (if j > i then j else i)) H) : ∃ i' j', [V.int i, V.int j] = [.int i', .int j'] ∧ Q (.int (if j' > i' then j' else i')) H := ⟨i, j, rfl, q⟩
def rMax2 : List V → Hp → VK → Prop := fun xs H Q => ∃ i j, xs = [.int i, .int j] ∧ Q (.int (max i j)) H
theorem c_max2 {X : Cx} (hc : X.calm = true) : CallR X (.builtin "max") rMax2 := by
  intro pins s σ H xs us Q I r h
  obtain ⟨i, j, e, q⟩ := h
  refine call_max2 hc pins s σ H xs us Q I r ⟨i, j, e, ?_⟩
  have z : (if j > i then j else i) = max i j := by split <;> omega
  rw [z]; exact q
theorem rr_max2 {i j : Int} (q : Q (.int (max i j)) H) : rMax2 [.int i, .int j] H Q := ⟨i, j, rfl, q⟩
def rMin2 : List V → Hp → VK → Prop := fun xs H Q => ∃ i j, xs = [.int i, .int j] ∧ Q (.int (min i j)) H
theorem c_min2 {X : Cx} (hc : X.calm = true) : CallR X (.builtin "min") rMin2 := by
  intro pins s σ H xs us Q I r h
  obtain ⟨i, j, e, q⟩ := h
  refine call_min2 hc pins s σ H xs us Q I r ⟨i, j, e, ?_⟩
  have z : (if j < i then j else i) = min i j := by split <;> omega
  rw [z]; exact q
theorem rr_min2 {i j : Int} (q : Q (.int (min i j)) H) : rMin2 [.int i, .int j] H Q := ⟨i, j, rfl, q⟩
def rInsert : V → List V → Hp → VK → Prop := fun x vs H Q => ∃ (l : Addr) (xs : List V) (i : Int) (y : V), x = .ref l ∧ vs = [.int i, y] ∧ H l = some (.lst xs) ∧ xs.length < sizeLine ∧ 0 ≤ i ∧ i < 2 ^ 63 ∧
    Q .non (upd H l (.lst (xs.take i.toNat ++ [y] ++ xs.drop i.toNat)))
theorem m_insert {X : Cx} : MtR X "list.insert" rInsert := mt_insert
theorem r_insert {l : Addr} {xs : List V} {k : Nat} {y : V} (h : H l = some (.lst xs)) (hz : xs.length < sizeLine) (hk : k ≤ xs.length) (q : Q .non (upd H l (.lst (xs.take k ++ [y] ++ xs.drop k)))) : rInsert (.ref l) [.int (k : Int), y] H Q := by
  have hs : (sizeLine : Nat) < 2 ^ 62 := by rw [sizeLine_eq]; decide
  exact ⟨l, xs, (k : Int), y, rfl, rfl, h, hz, by omega, by omega, by simpa using q⟩
/-- isinstance by a built-in class's name -/
theorem r_isi {x : V} {t n : String} {b : Bool} (ht : TyX K H x (.type t)) (e : kitB t n = some b) (q : Q (.bl b) H) : rIsi K [x, .ty n] H Q := ⟨x, .ty n, .type t, .type n, b, rfl, .ty n, ht, kit_ty e, q⟩
theorem tyInt {i : Int} : TyX K H (.int i) (.type "int") := .base (.int i)
theorem tyBl {b : Bool} : TyX K H (.bl b) (.type "bool") := .base (.bl b)
theorem tyNon : TyX K H .non (.type "NoneType") := .base .non
theorem tyStr {z : Str} : TyX K H (.str z) (.type "str") := .base (.str z)
theorem tyLst {a : Addr} {xs : List V} (h : H a = some (.lst xs)) : TyX K H (.ref a) (.type "list") := .base (.lst h)
theorem tyTup {a : Addr} {xs : List V} (h : H a = some (.tup xs)) : TyX K H (.ref a) (.type "tuple") := .base (.tup h)
end
/-! t > u of tuples of ints -/
section
def rGtT (K : PySem.W.Frag) : R2 := fun x y H Q => ∃ (a b : Addr) (ns ms : List Int), x = .ref a ∧ y = .ref b ∧ SqT K H a (ns.map V.int) ∧ SqT K H b (ms.map V.int) ∧
  Q (.bl (Ob.lexAt (fun j => decide (ns.getD j 0 = ms.getD j 0)) (fun j => decide (ms.getD j 0 < ns.getD j 0)) (decide (ms.length < ns.length)) 0 (min ns.length ms.length))) H
theorem op_gtT {X : Cx} (hu : X.A.units < cLine) : OpR X (compareOp .Gt) (rGtT X.K) := by
  intro pins s σ H x y v u Q I rx ry h
  obtain ⟨a, b, ns, ms, rfl, rfl, ha, hb, q⟩ := h
  cases rx
  cases ry
  obtain ⟨its, r1, p1, _⟩ := I.tuple ha
  obtain ⟨its2, r2, p2, _⟩ := I.tuple hb
  have i1 : PyProof.Rows.IntsAre its ns := Vals.ints r1
  have i2 : PyProof.Rows.IntsAre its2 ms := Vals.ints r2
  have e1 : its.toArray.size = ns.length := by rw [List.size_toArray]; exact i1.length
  have e2 : its2.toArray.size = ms.length := by rw [List.size_toArray]; exact i2.length
  have at1 : ∀ j (h1 : j < its.toArray.size), ∃ t, its.toArray[j] = .int (ns.getD j 0) t := fun j h1 => PyProof.Rows.IntsAre.int_at i1 _ _ (by simp at h1; simp [h1])
  have at2 : ∀ j (h1 : j < its2.toArray.size), ∃ t, its2.toArray[j] = .int (ms.getD j 0) t := fun j h1 => PyProof.Rows.IntsAre.int_at i2 _ _ (by simp at h1; simp [h1])
  have R := Ob.RcOp.tuples_gt (A := X.A) (s := s) (e := fun j => decide (ns.getD j 0 = ms.getD j 0)) (r := fun j => decide (ms.getD j 0 < ns.getD j 0)) p1 p2 hu (fun j h1 h2 => by
    obtain ⟨t, et⟩ := at1 j h1
    obtain ⟨t', et'⟩ := at2 j h2
    rw [et, et']
    have z : (ns.getD j 0 == ms.getD j 0) = decide (ns.getD j 0 = ms.getD j 0) := by
      by_cases q : ns.getD j 0 = ms.getD j 0
      · rw [decide_eq_true q]; exact beq_iff_eq.mpr q
      · rw [decide_eq_false q]; exact beq_eq_false_iff_ne.mpr q
    rw [← z]
    exact SeqAt.EqAt.int_int _ _ _ _) (fun j h1 h2 _ => by
    obtain ⟨t, et⟩ := at1 j h1
    obtain ⟨t', et'⟩ := at2 j h2
    rw [et, et']
    exact Ob.RcOp.gt_int _ _ _ _)
  rw [e1, e2] at R
  have z : wpAny (model X.prog X.w) X.A (compareOp .Gt (.ref a) (.ref b)) (EP X pins σ Q) X.xe s := R X.prog X.w X.xe (EP X pins σ Q) ⟨.bl _, H, I, rfl, q⟩
  exact z
/-- which of two stamps is greater -/
def gtr (a b : Int × Int) : Bool := if a.1 = b.1 then decide (b.2 < a.2) else decide (b.1 < a.1)
theorem r_gtT {K : PySem.W.Frag} {H : Hp} {Q : VK} {p q : Addr} {a b : Int × Int} (h1 : SqT K H p [.int a.1, .int a.2]) (h2 : SqT K H q [.int b.1, .int b.2]) (k : Q (.bl (gtr a b)) H) : rGtT K (.ref p) (.ref q) H Q := by
  refine ⟨p, q, [a.1, a.2], [b.1, b.2], rfl, rfl, h1, h2, ?_⟩
  have e : Ob.lexAt (fun j => decide ([a.1, a.2].getD j 0 = [b.1, b.2].getD j 0)) (fun j => decide ([b.1, b.2].getD j 0 < [a.1, a.2].getD j 0)) (decide ([b.1, b.2].length < [a.1, a.2].length)) 0 (min [a.1, a.2].length [b.1, b.2].length) = gtr a b := by
    show Ob.lexAt _ _ _ 0 2 = _
    unfold gtr
    rw [Ob.lexAt_succ, Ob.lexAt_succ, Ob.lexAt_zero]
    by_cases h : a.1 = b.1
    · rw [if_pos (show decide ([a.1, a.2].getD 0 0 = [b.1, b.2].getD 0 0) = true from decide_eq_true h), if_pos h]
      by_cases h' : a.2 = b.2
      · rw [if_pos (show decide ([a.1, a.2].getD 1 0 = [b.1, b.2].getD 1 0) = true from decide_eq_true h')]
        rw [show decide (b.2 < a.2) = false from decide_eq_false (by omega)]
        rfl
      · rw [if_neg (show ¬ decide ([a.1, a.2].getD 1 0 = [b.1, b.2].getD 1 0) = true from fun z => h' (of_decide_eq_true z))]
        rfl
    · rw [if_neg (show ¬ decide ([a.1, a.2].getD 0 0 = [b.1, b.2].getD 0 0) = true from fun z => h (of_decide_eq_true z)), if_neg h]
      rfl
  rw [e]; exact k
end
end PR
/-! part pa_rules: further rules at the layer's level (own work) -/
namespace PR
open PySem L2
section
variable {X : Cx}
/-- xs == [] (a list of any things, against a list that is empty) -/
def rEqNil (K : PySem.W.Frag) : R2 := fun x y H Q => ∃ (p q : Addr) (xs : List V), x = .ref p ∧ y = .ref q ∧ SqL K H p xs ∧ SqL K H q [] ∧ Q (.bl xs.isEmpty) H
theorem op_eqNil (hu : X.A.units < cLine) : OpR X (compareOp .Eq) (rEqNil X.K) := by
  intro pins s σ H x y v u Q I rx ry h
  obtain ⟨a, b, xs, rfl, rfl, ha, hb, q⟩ := h
  cases rx
  cases ry
  obtain ⟨its, r1, p1, _⟩ := I.list ha
  obtain ⟨its2, r2, p2, _⟩ := I.list hb
  cases r2
  obtain ⟨⟨cls, dd, data, sl⟩, n, ho, hc, _, hd⟩ := p1
  obtain ⟨⟨cls2, dd2, data2, sl2⟩, n2, ho2, hc2, _, hd2⟩ := p2
  simp only at hc hd hc2 hd2
  subst hc hd hc2 hd2
  have z : wpAny (model X.prog X.w) X.A (richCompare .Eq (.ref a) (.ref b)) (EP X pins σ Q) X.xe s := by
    cases r1 with
    | nil =>
      exact richCompare_meets_room (op := .Eq) ⟨_, ho, rfl⟩ ⟨_, ho2, rfl⟩ F.slot_list_eq F.entry_list_eq (F.args_list_eq_2 _ _) (SeqAt.list_eqAt a b _ _ n n2 dd dd2 sl sl2 rfl (fun _ => true))
        ⟨ho, ho2, (fun j h1 => absurd h1 (by simp)), ⟨(fun x => nomatch x), .bl true, H, I, rfl, q⟩⟩ hu
    | cons r t =>
      exact richCompare_meets_room (op := .Eq) ⟨_, ho, rfl⟩ ⟨_, ho2, rfl⟩ F.slot_list_eq F.entry_list_eq (F.args_list_eq_2 _ _) (SeqAt.list_eq_lengthsAt a b _ _ n n2 dd dd2 sl sl2 (by simp))
        ⟨ho, ho2, ⟨(fun x => nomatch x), .bl false, H, I, rfl, q⟩⟩ hu
  exact z
theorem r_eqNil {K : PySem.W.Frag} {H : Hp} {Q : VK} {p q : Addr} {xs : List V} (h1 : SqL K H p xs) (h2 : SqL K H q []) (k : Q (.bl xs.isEmpty) H) : rEqNil K (.ref p) (.ref q) H Q := ⟨p, q, xs, rfl, rfl, h1, h2, k⟩
def rNeNil (K : PySem.W.Frag) : R2 := fun x y H Q => ∃ (p q : Addr) (xs : List V), x = .ref p ∧ y = .ref q ∧ SqL K H p xs ∧ SqL K H q [] ∧ Q (.bl (!xs.isEmpty)) H
theorem op_neNil (hu : X.A.units < cLine) : OpR X (compareOp .NotEq) (rNeNil X.K) := by
  intro pins s σ H x y v u Q I rx ry h
  obtain ⟨a, b, xs, rfl, rfl, ha, hb, q⟩ := h
  cases rx
  cases ry
  obtain ⟨its, r1, p1, _⟩ := I.list ha
  obtain ⟨its2, r2, p2, _⟩ := I.list hb
  cases r2
  obtain ⟨⟨cls, dd, data, sl⟩, n, ho, hc, _, hd⟩ := p1
  obtain ⟨⟨cls2, dd2, data2, sl2⟩, n2, ho2, hc2, _, hd2⟩ := p2
  simp only at hc hd hc2 hd2
  subst hc hd hc2 hd2
  have z : wpAny (model X.prog X.w) X.A (richCompare .NotEq (.ref a) (.ref b)) (EP X pins σ Q) X.xe s := by
    cases r1 with
    | nil =>
      exact richCompare_meets_room (op := .NotEq) ⟨_, ho, rfl⟩ ⟨_, ho2, rfl⟩ F.slot_list_ne F.entry_list_ne (F.args_list_ne_2 _ _) (SeqAt.list_neAt a b _ _ n n2 dd dd2 sl sl2 rfl (fun _ => true))
        ⟨ho, ho2, (fun j h1 => absurd h1 (by simp)), ⟨(fun x => nomatch x), .bl false, H, I, rfl, q⟩⟩ hu
    | cons r t =>
      exact richCompare_meets_room (op := .NotEq) ⟨_, ho, rfl⟩ ⟨_, ho2, rfl⟩ F.slot_list_ne F.entry_list_ne (F.args_list_ne_2 _ _) (SeqAt.list_ne_lengthsAt a b _ _ n n2 dd dd2 sl sl2 (by simp))
        ⟨ho, ho2, ⟨(fun x => nomatch x), .bl true, H, I, rfl, q⟩⟩ hu
  exact z
theorem r_neNil {K : PySem.W.Frag} {H : Hp} {Q : VK} {p q : Addr} {xs : List V} (h1 : SqL K H p xs) (h2 : SqL K H q []) (k : Q (.bl (!xs.isEmpty)) H) : rNeNil K (.ref p) (.ref q) H Q := ⟨p, q, xs, rfl, rfl, h1, h2, k⟩
/-- is, is not of truth values -/
def rIsB : R2 := fun x y H Q => ∃ a b, x = .bl a ∧ y = .bl b ∧ Q (.bl (decide (a = b))) H
def rIsNotB : R2 := fun x y H Q => ∃ a b, x = .bl a ∧ y = .bl b ∧ Q (.bl (!decide (a = b))) H
theorem op_isB : OpR X (compareOp .Is) rIsB := op_is_bl
theorem op_isnotB : OpR X (compareOp .IsNot) rIsNotB := op_isnot_bl
theorem r_isB {H : Hp} {Q : VK} {a b : Bool} (k : Q (.bl (decide (a = b))) H) : rIsB (.bl a) (.bl b) H Q := ⟨a, b, rfl, rfl, k⟩
theorem r_isnotB {H : Hp} {Q : VK} {a b : Bool} (k : Q (.bl (!decide (a = b))) H) : rIsNotB (.bl a) (.bl b) H Q := ⟨a, b, rfl, rfl, k⟩
/-- all(xs) -/
theorem r_all {K : PySem.W.Frag} {H : Hp} {Q : VK} {p : Addr} {bs : List Bool} (h : SqL K H p (bs.map V.bl)) (k : Q (.bl (bs.all id)) H) : rAll K [.ref p] H Q := ⟨p, bs, rfl, h, k⟩
theorem r_eqD {K : PySem.W.Frag} {H : Hp} {Q : VK} {x y : V} {d e : PyData} {b : Bool} (h1 : Dp K H x d) (h2 : Dp K H y e) (h3 : SeqAt.shaped d = true) (h4 : SeqAt.shaped e = true) (hb : PyData.eqv d e = b) (k : Q (.bl b) H) : rEqD K x y H Q := ⟨d, e, h1, h2, h3, h4, by rw [hb]; exact k⟩
theorem r_neD {K : PySem.W.Frag} {H : Hp} {Q : VK} {x y : V} {d e : PyData} {b : Bool} (h1 : Dp K H x d) (h2 : Dp K H y e) (h3 : SeqAt.shaped d = true) (h4 : SeqAt.shaped e = true) (hb : PyData.eqv d e = b) (k : Q (.bl (!b)) H) : rNeD K x y H Q := ⟨d, e, h1, h2, h3, h4, by rw [hb]; exact k⟩
theorem ix_seqK {K : PySem.W.Frag} (h : X.K = K) : IxR X (rIx K) := by subst h; exact ix_seq
theorem at0 {α : Type} {x : α} {r : List α} : atI (x :: r) 0 = some x := by
  have h : ((x :: r)[0]? : Option α) = some x := rfl
  exact atI_nat (j := 0) h
theorem atk {α : Type} {xs : List α} {k : Nat} {x : α} (h : xs[k]? = some x) : atI xs (k : Int) = some x := atI_nat h
theorem atz {α : Type} {xs : List α} {i : Int} {k : Nat} {x : α} (e : i = (k : Int)) (h : xs[k]? = some x) : atI xs i = some x := by rw [e]; exact atI_nat h
theorem at_snoc {α : Type} {xs : List α} {x : α} (hz : xs.length < 1000000) : atI (xs ++ [x]) (-1) = some x := by
  unfold atI ixN
  rw [if_neg (by decide), List.length_append, List.length_singleton, if_pos (by omega)]
  have e : (-1 + ((xs.length + 1 : Nat) : Int)).toNat = xs.length := by omega
  rw [e]
  simp
end
end PR
/-! part pa_isi: isinstance by kinds (printed) -/
namespace PR
open PySem L2
section
variable {K : PySem.W.Frag} {H : Hp} {Q : VK}
theorem isi_int_int {i : Int}  (q : Q (.bl true) H) : rIsi K [.int i, .ty "int"] H Q := r_isi (b := true) (tyInt) (by decide +kernel) q
theorem isi_int_bool {i : Int}  (q : Q (.bl false) H) : rIsi K [.int i, .ty "bool"] H Q := r_isi (b := false) (tyInt) (by decide +kernel) q
theorem isi_int_str {i : Int}  (q : Q (.bl false) H) : rIsi K [.int i, .ty "str"] H Q := r_isi (b := false) (tyInt) (by decide +kernel) q
theorem isi_int_tuple {i : Int}  (q : Q (.bl false) H) : rIsi K [.int i, .ty "tuple"] H Q := r_isi (b := false) (tyInt) (by decide +kernel) q
theorem isi_int_list {i : Int}  (q : Q (.bl false) H) : rIsi K [.int i, .ty "list"] H Q := r_isi (b := false) (tyInt) (by decide +kernel) q
theorem isi_bl_int {c : Bool}  (q : Q (.bl true) H) : rIsi K [.bl c, .ty "int"] H Q := r_isi (b := true) (tyBl) (by decide +kernel) q
theorem isi_bl_bool {c : Bool}  (q : Q (.bl true) H) : rIsi K [.bl c, .ty "bool"] H Q := r_isi (b := true) (tyBl) (by decide +kernel) q
theorem isi_bl_str {c : Bool}  (q : Q (.bl false) H) : rIsi K [.bl c, .ty "str"] H Q := r_isi (b := false) (tyBl) (by decide +kernel) q
theorem isi_bl_tuple {c : Bool}  (q : Q (.bl false) H) : rIsi K [.bl c, .ty "tuple"] H Q := r_isi (b := false) (tyBl) (by decide +kernel) q
theorem isi_bl_list {c : Bool}  (q : Q (.bl false) H) : rIsi K [.bl c, .ty "list"] H Q := r_isi (b := false) (tyBl) (by decide +kernel) q
theorem isi_non_int   (q : Q (.bl false) H) : rIsi K [.non, .ty "int"] H Q := r_isi (b := false) (tyNon) (by decide +kernel) q
theorem isi_non_bool   (q : Q (.bl false) H) : rIsi K [.non, .ty "bool"] H Q := r_isi (b := false) (tyNon) (by decide +kernel) q
theorem isi_non_str   (q : Q (.bl false) H) : rIsi K [.non, .ty "str"] H Q := r_isi (b := false) (tyNon) (by decide +kernel) q
theorem isi_non_tuple   (q : Q (.bl false) H) : rIsi K [.non, .ty "tuple"] H Q := r_isi (b := false) (tyNon) (by decide +kernel) q
theorem isi_non_list   (q : Q (.bl false) H) : rIsi K [.non, .ty "list"] H Q := r_isi (b := false) (tyNon) (by decide +kernel) q
theorem isi_str_int {z : Str}  (q : Q (.bl false) H) : rIsi K [.str z, .ty "int"] H Q := r_isi (b := false) (tyStr) (by decide +kernel) q
theorem isi_str_bool {z : Str}  (q : Q (.bl false) H) : rIsi K [.str z, .ty "bool"] H Q := r_isi (b := false) (tyStr) (by decide +kernel) q
theorem isi_str_str {z : Str}  (q : Q (.bl true) H) : rIsi K [.str z, .ty "str"] H Q := r_isi (b := true) (tyStr) (by decide +kernel) q
theorem isi_str_tuple {z : Str}  (q : Q (.bl false) H) : rIsi K [.str z, .ty "tuple"] H Q := r_isi (b := false) (tyStr) (by decide +kernel) q
theorem isi_str_list {z : Str}  (q : Q (.bl false) H) : rIsi K [.str z, .ty "list"] H Q := r_isi (b := false) (tyStr) (by decide +kernel) q
theorem isi_lst_int {a : Addr} {xs : List V} (h : H a = some (.lst xs)) (q : Q (.bl false) H) : rIsi K [.ref a, .ty "int"] H Q := r_isi (b := false) (tyLst h) (by decide +kernel) q
theorem isi_lst_bool {a : Addr} {xs : List V} (h : H a = some (.lst xs)) (q : Q (.bl false) H) : rIsi K [.ref a, .ty "bool"] H Q := r_isi (b := false) (tyLst h) (by decide +kernel) q
theorem isi_lst_str {a : Addr} {xs : List V} (h : H a = some (.lst xs)) (q : Q (.bl false) H) : rIsi K [.ref a, .ty "str"] H Q := r_isi (b := false) (tyLst h) (by decide +kernel) q
theorem isi_lst_tuple {a : Addr} {xs : List V} (h : H a = some (.lst xs)) (q : Q (.bl false) H) : rIsi K [.ref a, .ty "tuple"] H Q := r_isi (b := false) (tyLst h) (by decide +kernel) q
theorem isi_lst_list {a : Addr} {xs : List V} (h : H a = some (.lst xs)) (q : Q (.bl true) H) : rIsi K [.ref a, .ty "list"] H Q := r_isi (b := true) (tyLst h) (by decide +kernel) q
theorem isi_tup_int {a : Addr} {xs : List V} (h : H a = some (.tup xs)) (q : Q (.bl false) H) : rIsi K [.ref a, .ty "int"] H Q := r_isi (b := false) (tyTup h) (by decide +kernel) q
theorem isi_tup_bool {a : Addr} {xs : List V} (h : H a = some (.tup xs)) (q : Q (.bl false) H) : rIsi K [.ref a, .ty "bool"] H Q := r_isi (b := false) (tyTup h) (by decide +kernel) q
theorem isi_tup_str {a : Addr} {xs : List V} (h : H a = some (.tup xs)) (q : Q (.bl false) H) : rIsi K [.ref a, .ty "str"] H Q := r_isi (b := false) (tyTup h) (by decide +kernel) q
theorem isi_tup_tuple {a : Addr} {xs : List V} (h : H a = some (.tup xs)) (q : Q (.bl true) H) : rIsi K [.ref a, .ty "tuple"] H Q := r_isi (b := true) (tyTup h) (by decide +kernel) q
theorem isi_tup_list {a : Addr} {xs : List V} (h : H a = some (.tup xs)) (q : Q (.bl false) H) : rIsi K [.ref a, .ty "list"] H Q := r_isi (b := false) (tyTup h) (by decide +kernel) q
end
end PR
/-! part pd_loops: comprehensions and loops in two steps (own work) -/
namespace PR
open PySem L2
theorem cxK {CX : CXT} {P : Program} {w : World} {K : PySem.W.Frag} {mg : Str → Option Value} {base : Heap} {N : List Str} {qual : Str} {scope : Scope} {f : Addr} {cd : Value} {A : Around} {outer : List Env} {s : Shared} {H : Hp} {E : XK} :
    (cxOf CX P w K mg base N qual scope f cd A outer s H E).K = K := rfl
section
variable {K : PySem.W.Frag} {σ : St} {H : Hp} {Q : VK} {tl te : TE} {ta : TA} {tt : TT} {g : TG} {vs : List Nat}
/-- what a comprehension asks of its iterator -/
def kLc (g : TG) (tt : TT) (te : TE) (vs : List Nat) (σ : St) (Q : VK) (J : It) (H1 : Hp) : Prop := ∀ D, H1 D = none → ∃ W : Nat → Nat → Hp → Prop, (∃ m, W 0 m (upd H1 D (.lst []))) ∧ ∀ i m H, W i m H →
  (J.stop i H ∧ Q (.ref D) H) ∨ (J.go i H ∧ ∃ Nx : Hp → Prop, (∀ H', Nx H' → ∃ m', m' < m ∧ W (i + 1) m' H') ∧ ∀ x H', J.yld i H x H' → g x (wipe σ vs) H' fun σ2 H2 => wipe σ2 vs = wipe σ vs ∧ tt σ2 H2 fun b H3 =>
    if b = true then te σ2 H3 fun y H4 => ∃ acc, H4 D = some (.lst acc) ∧ acc.length < sizeLine ∧ Nx (upd H4 D (.lst (acc ++ [y]))) else Nx H3)
def kLcL (K : PySem.W.Frag) (g : TG) (tt : TT) (te : TE) (vs : List Nat) (σ : St) (Q : VK) : VK := fun x H1 => ∃ a, x = .ref a ∧ (∃ xs, SqL K H1 a xs) ∧ kLc g tt te vs σ Q (Itl K a) H1
theorem r_lcL (h : tl σ H (kLcL K g tt te vs σ Q)) : tLc (iList K tl) g tt te vs σ H Q := h
def kLcR1 (g : TG) (tt : TT) (te : TE) (vs : List Nat) (σ : St) (Q : VK) : List V → Hp → Prop := fun as H1 => ∃ j : Int, as = [.int j] ∧ -(2 ^ 62) ≤ j ∧ j < 2 ^ 62 ∧ kLc g tt te vs σ Q (Itr 0 j.toNat) H1
theorem r_lcR1 (h : ta σ H (kLcR1 g tt te vs σ Q)) : tLc (iRng1 ta) g tt te vs σ H Q := h
def kLcR2 (g : TG) (tt : TT) (te : TE) (vs : List Nat) (σ : St) (Q : VK) : List V → Hp → Prop := fun as H1 => ∃ i j : Int, as = [.int i, .int j] ∧ (-(2 ^ 62) ≤ i ∧ i < 2 ^ 62 ∧ -(2 ^ 62) ≤ j ∧ j < 2 ^ 62) ∧ kLc g tt te vs σ Q (Itr i (j - i).toNat) H1
theorem r_lcR2 (h : ta σ H (kLcR2 g tt te vs σ Q)) : tLc (iRng2 ta) g tt te vs σ H Q := h
/-- one turn of a comprehension that leaves what is tracked -/
abbrev LcTurn (g : TG) (tt : TT) (te : TE) (vs : List Nat) (σ : St) (x : V) (H1 : Hp) (Qn : Option V → Hp → Prop) : Prop :=
  g x (wipe σ vs) H1 fun σ2 H2 => wipe σ2 vs = wipe σ vs ∧ tt σ2 H2 fun b H3 => if b = true then te σ2 H3 fun y H4 => Qn (some y) H4 else Qn none H3
theorem kLcL_of {a : Addr} {xs : List V} (out : Nat → List V) (hx : SqL K H a xs) (h0 : out 0 = []) (hz : ∀ i, i ≤ xs.length → (out i).length < 1000000)
    (hs : ∀ (i : Nat) (x : V) (H1 : Hp), xs[i]? = some x → Same H H1 → ∀ Qn : Option V → Hp → Prop, (∀ (r : Option V) (H2 : Hp), Same H1 H2 → out (i + 1) = out i ++ r.toList → Qn r H2) → LcTurn g tt te vs σ x H1 Qn)
    (k : ∀ (D : Addr) (H' : Hp), H D = none → Same H H' → H' D = some (.lst (out xs.length)) → Q (.ref D) H') : kLcL K g tt te vs σ Q (.ref a) H := by
  have hzl : (1000000 : Nat) < sizeLine := by rw [sizeLine_eq]; decide
  refine ⟨a, rfl, ⟨xs, hx⟩, fun D hD => ?_⟩
  have up : ∀ {H1 : Hp} {o : HO}, Same H H1 → Same H (upd H1 D o) := fun s b u e => by
    rw [upd_ne (ne_of_none e hD)]; exact s b u e
  refine lc_list (xs := xs) (fun i H1 => Same H H1 ∧ H1 D = some (.lst (out i))) ⟨up (Same.refl H), by rw [h0]; exact upd_same⟩ (fun i H1 _ p => p.1.seq hx) (fun i x H1 hi p => ?_) fun H1 p => k D H1 hD p.1 p.2
  obtain ⟨s1, d1⟩ := p
  have hi' : i < xs.length := (List.getElem?_eq_some_iff.mp hi).1
  refine hs i x H1 hi s1 (fun r H2 => match r with | some y => ∃ acc, H2 D = some (.lst acc) ∧ acc.length < sizeLine ∧ (Same H (upd H2 D (.lst (acc ++ [y]))) ∧ upd H2 D (.lst (acc ++ [y])) D = some (.lst (out (i + 1)))) | none => Same H H2 ∧ H2 D = some (.lst (out (i + 1)))) fun r H2 s2 e => ?_
  cases r with
  | none => exact ⟨s1.trans s2, by rw [e]; simpa using s2 _ _ d1⟩
  | some y => exact ⟨out i, s2 _ _ d1, Nat.lt_trans (hz i (Nat.le_of_lt hi')) hzl, up (s1.trans s2), by rw [upd_same, e] <;> rfl⟩
theorem kLcR1_of {n : Nat} (out : Nat → List V) (hn : n ≤ 1000000) (h0 : out 0 = []) (hz : ∀ i, i ≤ n → (out i).length < 1000000)
    (hs : ∀ (i : Nat) (H1 : Hp), i < n → Same H H1 → ∀ Qn : Option V → Hp → Prop, (∀ (r : Option V) (H2 : Hp), Same H1 H2 → out (i + 1) = out i ++ r.toList → Qn r H2) → LcTurn g tt te vs σ (.int (i : Int)) H1 Qn)
    (k : ∀ (D : Addr) (H' : Hp), H D = none → Same H H' → H' D = some (.lst (out n)) → Q (.ref D) H') : kLcR1 g tt te vs σ Q [.int (n : Int)] H := by
  have hzl : (1000000 : Nat) < sizeLine := by rw [sizeLine_eq]; decide
  refine ⟨n, rfl, by omega, by omega, fun D hD => ?_⟩
  have up : ∀ {H1 : Hp} {o : HO}, Same H H1 → Same H (upd H1 D o) := fun s b u e => by
    rw [upd_ne (ne_of_none e hD)]; exact s b u e
  refine lc_range (lo := 0) (n := (n : Int).toNat) (fun i H1 => Same H H1 ∧ H1 D = some (.lst (out i))) ⟨up (Same.refl H), by rw [h0]; exact upd_same⟩ (fun i H1 hi p => ?_) fun H1 p => k D H1 hD p.1 (by simpa using p.2)
  obtain ⟨s1, d1⟩ := p
  have hi' : i < n := by omega
  rw [Int.zero_add]
  refine hs i H1 hi' s1 (fun r H2 => match r with | some y => ∃ acc, H2 D = some (.lst acc) ∧ acc.length < sizeLine ∧ (Same H (upd H2 D (.lst (acc ++ [y]))) ∧ upd H2 D (.lst (acc ++ [y])) D = some (.lst (out (i + 1)))) | none => Same H H2 ∧ H2 D = some (.lst (out (i + 1)))) fun r H2 s2 e => ?_
  cases r with
  | none => exact ⟨s1.trans s2, by rw [e]; simpa using s2 _ _ d1⟩
  | some y => exact ⟨out i, s2 _ _ d1, Nat.lt_trans (hz i (Nat.le_of_lt hi')) hzl, up (s1.trans s2), by rw [upd_same, e] <;> rfl⟩
theorem kLcR2_of {lo n : Nat} (out : Nat → List V) (hn : lo + n ≤ 1000000) (h0 : out 0 = []) (hz : ∀ i, i ≤ n → (out i).length < 1000000)
    (hs : ∀ (i : Nat) (H1 : Hp), i < n → Same H H1 → ∀ Qn : Option V → Hp → Prop, (∀ (r : Option V) (H2 : Hp), Same H1 H2 → out (i + 1) = out i ++ r.toList → Qn r H2) → LcTurn g tt te vs σ (.int (((lo + i : Nat)) : Int)) H1 Qn)
    (k : ∀ (D : Addr) (H' : Hp), H D = none → Same H H' → H' D = some (.lst (out n)) → Q (.ref D) H') {e : Int} (he : (e - lo).toNat = n) (he2 : e ≤ 1000000) (he3 : -1000000 ≤ e) : kLcR2 g tt te vs σ Q [.int (lo : Int), .int e] H := by
  have hzl : (1000000 : Nat) < sizeLine := by rw [sizeLine_eq]; decide
  refine ⟨lo, e, rfl, by omega, fun D hD => ?_⟩
  have up : ∀ {H1 : Hp} {o : HO}, Same H H1 → Same H (upd H1 D o) := fun s b u e => by
    rw [upd_ne (ne_of_none e hD)]; exact s b u e
  refine lc_range (lo := (lo : Int)) (n := (e - lo).toNat) (fun i H1 => Same H H1 ∧ H1 D = some (.lst (out i))) ⟨up (Same.refl H), by rw [h0]; exact upd_same⟩ (fun i H1 hi p => ?_) fun H1 p => k D H1 hD p.1 (by rw [← he]; exact p.2)
  obtain ⟨s1, d1⟩ := p
  have hi' : i < n := by omega
  have ei : (lo : Int) + (i : Int) = ((lo + i : Nat) : Int) := by omega
  rw [ei]
  refine hs i H1 hi' s1 (fun r H2 => match r with | some y => ∃ acc, H2 D = some (.lst acc) ∧ acc.length < sizeLine ∧ (Same H (upd H2 D (.lst (acc ++ [y]))) ∧ upd H2 D (.lst (acc ++ [y])) D = some (.lst (out (i + 1)))) | none => Same H H2 ∧ H2 D = some (.lst (out (i + 1)))) fun r H2 s2 e => ?_
  cases r with
  | none => exact ⟨s1.trans s2, by rw [e]; simpa using s2 _ _ d1⟩
  | some y => exact ⟨out i, s2 _ _ d1, Nat.lt_trans (hz i (Nat.le_of_lt hi')) hzl, up (s1.trans s2), by rw [upd_same, e] <;> rfl⟩
end
/-! loops -/
section
variable {K : PySem.W.Frag} {σ : St} {H : Hp} {D : Ends} {tl : TE} {ta : TA} {g : TG} {tb : TS}
def kFor (g : TG) (tb : TS) (D : Ends) (σ : St) (J : It) (H1 : Hp) : Prop := ∃ W : Nat → Nat → St → Hp → Prop, (∃ m, W 0 m σ H1) ∧ ∀ i m σ H, W i m σ H →
  (J.stop i H ∧ D.nx σ H) ∨ (J.go i H ∧ ∃ N : St → Hp → Prop, (∀ σ' H', N σ' H' → ∃ m', m' < m ∧ W (i + 1) m' σ' H') ∧ ∀ x H', J.yld i H x H' → g x σ H' fun σ2 H2 => tb { D with nx := N, ct := N, bk := D.nx } σ2 H2)
def kForL (K : PySem.W.Frag) (g : TG) (tb : TS) (D : Ends) (σ : St) : VK := fun x H1 => ∃ a, x = .ref a ∧ (∃ xs, SqL K H1 a xs) ∧ kFor g tb D σ (Itl K a) H1
theorem s_forL (h : tl σ H (kForL K g tb D σ)) : tFor (iList K tl) g tb D σ H := h
theorem kForL_of {a : Addr} {xs : List V} (hx : SqL K H a xs) (Pv : Nat → St → Hp → Prop) (h0 : Pv 0 σ H) (hl : ∀ i σ H, i ≤ xs.length → Pv i σ H → SqL K H a xs)
    (hs : ∀ i x σ H, xs[i]? = some x → Pv i σ H → g x σ H fun σ2 H2 => tb { D with nx := Pv (i + 1), ct := Pv (i + 1), bk := D.nx } σ2 H2) (hd : ∀ σ H, Pv xs.length σ H → D.nx σ H) : kForL K g tb D σ (.ref a) H :=
  ⟨a, rfl, ⟨xs, hx⟩, for_list Pv h0 hl hs hd⟩
def kForT (K : PySem.W.Frag) (g : TG) (tb : TS) (D : Ends) (σ : St) : VK := fun x H1 => ∃ a, x = .ref a ∧ (∃ xs, SqT K H1 a xs) ∧ kFor g tb D σ (Itt K a) H1
theorem s_forT (h : tl σ H (kForT K g tb D σ)) : tFor (iTup K tl) g tb D σ H := h
theorem kForT_of {a : Addr} {xs : List V} (hx : SqT K H a xs) (Pv : Nat → St → Hp → Prop) (h0 : Pv 0 σ H) (hl : ∀ i σ H, i ≤ xs.length → Pv i σ H → SqT K H a xs)
    (hs : ∀ i x σ H, xs[i]? = some x → Pv i σ H → g x σ H fun σ2 H2 => tb { D with nx := Pv (i + 1), ct := Pv (i + 1), bk := D.nx } σ2 H2) (hd : ∀ σ H, Pv xs.length σ H → D.nx σ H) : kForT K g tb D σ (.ref a) H :=
  ⟨a, rfl, ⟨xs, hx⟩, for_tup Pv h0 hl hs hd⟩
def kForR1 (g : TG) (tb : TS) (D : Ends) (σ : St) : List V → Hp → Prop := fun as H1 => ∃ j : Int, as = [.int j] ∧ -(2 ^ 62) ≤ j ∧ j < 2 ^ 62 ∧ kFor g tb D σ (Itr 0 j.toNat) H1
theorem s_forR1 (h : ta σ H (kForR1 g tb D σ)) : tFor (iRng1 ta) g tb D σ H := h
theorem kForR1_of {n : Nat} {e : Int} (he : e = (n : Int)) (hn : n ≤ 1000000) (Pv : Nat → St → Hp → Prop) (h0 : Pv 0 σ H)
    (hs : ∀ (i : Nat) σ H, i < n → Pv i σ H → g (.int (i : Int)) σ H fun σ2 H2 => tb { D with nx := Pv (i + 1), ct := Pv (i + 1), bk := D.nx } σ2 H2) (hd : ∀ σ H, Pv n σ H → D.nx σ H) : kForR1 g tb D σ [.int e] H := by
  subst he
  refine ⟨n, rfl, by omega, by omega, ?_⟩
  refine for_range (lo := 0) (n := (n : Int).toNat) Pv h0 (fun i σ H hi p => ?_) (fun σ H p => hd σ H (by simpa using p))
  rw [Int.zero_add]
  exact hs i σ H (by omega) p
def kForR2 (g : TG) (tb : TS) (D : Ends) (σ : St) : List V → Hp → Prop := fun as H1 => ∃ i j : Int, as = [.int i, .int j] ∧ (-(2 ^ 62) ≤ i ∧ i < 2 ^ 62 ∧ -(2 ^ 62) ≤ j ∧ j < 2 ^ 62) ∧ kFor g tb D σ (Itr i (j - i).toNat) H1
theorem s_forR2 (h : ta σ H (kForR2 g tb D σ)) : tFor (iRng2 ta) g tb D σ H := h
theorem kForR2_of {lo n : Nat} {e : Int} (he : (e - lo).toNat = n) (he2 : e ≤ 1000000) (he3 : -1000000 ≤ e) (hlo : lo ≤ 1000000) (Pv : Nat → St → Hp → Prop) (h0 : Pv 0 σ H)
    (hs : ∀ (i : Nat) σ H, i < n → Pv i σ H → g (.int (((lo + i : Nat)) : Int)) σ H fun σ2 H2 => tb { D with nx := Pv (i + 1), ct := Pv (i + 1), bk := D.nx } σ2 H2) (hd : ∀ σ H, Pv n σ H → D.nx σ H) : kForR2 g tb D σ [.int (lo : Int), .int e] H := by
  refine ⟨lo, e, rfl, by omega, ?_⟩
  refine for_range (lo := (lo : Int)) (n := (e - lo).toNat) Pv h0 (fun i σ H hi p => ?_) (fun σ H p => hd σ H (by rw [← he]; exact p))
  have ei : (lo : Int) + (i : Int) = ((lo + i : Nat) : Int) := by omega
  rw [ei]
  exact hs i σ H (by omega) p
def kForE (K : PySem.W.Frag) (g : TG) (tb : TS) (D : Ends) (σ : St) : List V → Hp → Prop := fun as H1 => ∃ a xs, as = [.ref a] ∧ SqL K H1 a xs ∧ kFor g tb D σ (Ite K a) H1
theorem s_forE (h : ta σ H (kForE K g tb D σ)) : tFor (iEnum K ta) g tb D σ H := h
theorem kForE_of {a : Addr} {xs : List V} (hx : SqL K H a xs) (Pv : Nat → St → Hp → Prop) (h0 : Pv 0 σ H) (hl : ∀ i σ H, i ≤ xs.length → Pv i σ H → SqL K H a xs)
    (hs : ∀ i x σ H, xs[i]? = some x → Pv i σ H → ∀ T, H T = none → g (.ref T) σ (upd H T (.tup [.int ((i : Nat) : Int), x])) fun σ2 H2 => tb { D with nx := Pv (i + 1), ct := Pv (i + 1), bk := D.nx } σ2 H2) (hd : ∀ σ H, Pv xs.length σ H → D.nx σ H) : kForE K g tb D σ [.ref a] H := by
  refine ⟨a, xs, rfl, hx, fun i m σ H => m = xs.length - i ∧ i ≤ xs.length ∧ Pv i σ H, ⟨xs.length, by simp, Nat.zero_le _, h0⟩, ?_⟩
  rintro i m σ H ⟨rfl, hi, p⟩
  have q := hl i σ H hi p
  by_cases hlt : i < xs.length
  · refine .inr ⟨⟨xs, xs[i], q, by simp [hlt]⟩, Pv (i + 1), fun σ' H' p' => ⟨xs.length - (i + 1), by omega, rfl, hlt, p'⟩, fun x H' y => ?_⟩
    obtain ⟨T, y, rfl, hT, rfl, hy⟩ := y
    exact hs i y σ H (hy xs q) p T hT
  · have e : i = xs.length := by omega
    subst e
    exact .inl ⟨⟨xs, q, Nat.le_refl _⟩, hd σ H p⟩
theorem iteNT {A B : Prop} (h : B) : if (!true) = true then A else B := h
theorem iteNF {A B : Prop} (h : A) : if (!false) = true then A else B := h
theorem ifD {x y : V} {A B : Prop} (e : x = y) (h : A) : if decide (x = y) = true then A else B := by rw [decide_eq_true e]; exact iteT h
theorem ifDn {x y : V} {A B : Prop} (e : x ≠ y) (h : B) : if decide (x = y) = true then A else B := by rw [decide_eq_false e]; exact iteF h
theorem ifND {x y : V} {A B : Prop} (e : x = y) (h : B) : if (!decide (x = y)) = true then A else B := by rw [decide_eq_true e]; exact iteNT h
theorem ifNDn {x y : V} {A B : Prop} (e : x ≠ y) (h : A) : if (!decide (x = y)) = true then A else B := by rw [decide_eq_false e]; exact iteNF h
theorem ifP {p : Prop} [Decidable p] {A B : Prop} (e : p) (h : A) : if decide p = true then A else B := by rw [decide_eq_true e]; exact iteT h
theorem ifPn {p : Prop} [Decidable p] {A B : Prop} (e : ¬ p) (h : B) : if decide p = true then A else B := by rw [decide_eq_false e]; exact iteF h
theorem via {A B : Prop} (h : A → B) (a : A) : B := h a
theorem viaH {R : Hp → Prop} {A : Prop} (W : Hp → Prop) (h : (∀ Hz, W Hz → R Hz) → A) (r : ∀ Hz, W Hz → R Hz) : A := h r
theorem s_cut {t u : TS} (Mid : St → Hp → Prop) (h : t { D with nx := Mid } σ H) (k : ∀ σ' H', Mid σ' H' → u D σ' H') : Evl.tCut t u D σ H := ⟨Mid, h, k⟩
/-- a pair taken apart -/
theorem g_tup2 {i j : Nat} {p : Addr} {u v : V} {Q : St → Hp → Prop} (h : SqT K H p [u, v]) (q : Q ((σ.set i (some u)).set j (some v)) H) : gTup K 2 (gCons (gName i) (gCons (gName j) gNil)) (.ref p) σ H Q :=
  ⟨p, _, rfl, h, rfl, u, [v], rfl, v, [], rfl, rfl, q⟩
end
end PR
/-! part pb_txt: what the top has written, in bundles; attributes by lists (own work) -/
namespace PR
open PySem L2
structure ClT (K : PySem.W.Frag) (mg : Str → Option Value) (nm : Str) where
  C : Addr
  cl : Cls K C
  g : mg nm = some (.ref C)
structure FnT (K : PySem.W.Frag) (mg : Str → Option Value) (nm qual : Str) (st : Stmt) (ps : List Str) where
  f : Addr
  fd : FuncData
  F : Fun K nm qual st f fd
  b : Binds K fd ps []
  g : mg nm = some (.ref f)
structure MtT (K : PySem.W.Frag) (C : Addr) (nm qual : Str) (st : Stmt) (ps : List Str) where
  f : Addr
  fd : FuncData
  F : Fun K nm qual st f fd
  b : Binds K fd ps []
  m : Meth K C nm f
structure InT (K : PySem.W.Frag) (C : Addr) (qual : Str) (st : Stmt) (ps : List Str) where
  f : Addr
  fd : FuncData
  F : Fun K "__init__" qual st f fd
  b : Binds K fd ps []
  kmk : Mk K C f
/-- an own exception class over ValueError -/
structure ExT (K : PySem.W.Frag) (mg : Str → Option Value) (nm : Str) where
  C : Addr
  g : mg nm = some (.ref C)
  x : PySem.W.excIn K C [.type "ValueError", .type "Exception", .type "BaseException", .type "object"] "ValueError.__new__" = true
  k : PySem.W.keepIn K (.ref C) = true
  b : PySem.W.subIn K (.ref C) (.type "BaseException") = some true
  t : PySem.W.typeIn K (.ref C) = some (.type "type")
  i : PySem.W.isClsIn K C = true
section
variable {X : Cx}
theorem pg_const {x : Str} {n : Int} {pos : Pos} (hg : Gl X x) (hm : ∃ t, X.mg x = some (.int n t)) (hd : (x == ("__debug__" : Str)) = false := by decide) : PE X (.Name x pos) (tC (.int n)) := by
  obtain ⟨t, h⟩ := hm
  exact pe_glob hg h ⟨t, rfl⟩ hd
theorem pg_ty {x : Str} {n : String} {pos : Pos} (hg : Gl X x) (hm : X.mg x = none) (hv : bootBuiltins x = some (.type n)) (hn : x ≠ "__name__" := by decide) (hd : (x == ("__debug__" : Str)) = false := by decide) : PE X (.Name x pos) (tC (.ty n)) :=
  pe_bltn hg hm hv rfl hn hd
theorem pg_ref {x : Str} {a : Addr} {pos : Pos} (hg : Gl X x) (hm : X.mg x = some (.ref a)) (hd : (x == ("__debug__" : Str)) = false := by decide) : PE X (.Name x pos) (tC (.ref a)) :=
  pe_glob hg hm rfl hd
end
/-! attributes -/
theorem lk_eq {k : Str} {v : V} {r : List (Str × V)} : List.lookup k ((k, v) :: r) = some v := by simp [List.lookup]
theorem lk_ne {k a : Str} {v : V} {r : List (Str × V)} (h : (k == a) = false) : List.lookup k ((a, v) :: r) = List.lookup k r := by simp [List.lookup, h]
theorem lk_nil {k : Str} : List.lookup k ([] : List (Str × V)) = none := rfl
theorem putF_nil {k : Str} {v : V} : putF k v [] = [(k, v)] := rfl
theorem putF_eq {k : Str} {v x : V} {r : List (Str × V)} : putF k v ((k, x) :: r) = (k, v) :: r := by
  show (if k = k then (k, v) :: r else _) = _
  rw [if_pos rfl]
theorem putF_ne {k a : Str} {v x : V} {r r' : List (Str × V)} (h : (a == k) = false) (e : putF k v r = r') : putF k v ((a, x) :: r) = (a, x) :: r' := by
  show (if a = k then (a, v) :: r else (a, x) :: putF k v r) = _
  rw [if_neg (by simpa using h), e]
theorem ltb {n m : Nat} (h : Nat.blt n m = true) : n < m := by simpa [Nat.blt_eq] using h
theorem leb {n m : Nat} (h : Nat.ble n m = true) : n ≤ m := by simpa [Nat.ble_eq] using h
theorem leSz {n : Nat} (h : Nat.ble n 100000 = true) : n ≤ sizeLine := Nat.le_trans (leb h) (by decide)
theorem s_fldE {K : PySem.W.Frag} {D : Ends} {σ : St} {H : Hp} {f : Str} {a C dx : Addr} {fs fs' : List (Str × V)} {y : V} (h1 : H a = some (.ins C dx fs)) (h2 : Cls K C) (h3 : NoAttr K C f) (h4 : fs.length < 1000) (h5 : putF f y fs = fs') (q : D.nx σ (upd H a (.ins C dx fs'))) : kSFld K f y D σ (.ref a) H := by
  subst h5
  exact s_fldK h1 h2 h3 h4 q
theorem szlt {n : Nat} (h : n < 100000) : n < sizeLine := Nat.lt_of_lt_of_le h (by decide)
theorem r_new {n : Nat} {A : Prop} (h : n ≤ sizeLine) (q : A) : n ≤ sizeLine ∧ A := ⟨h, q⟩
theorem sqT {K : PySem.W.Frag} {H : Hp} {p : Addr} {xs : List V} (h : H p = some (.tup xs)) : SqT K H p xs := SqT.of h
theorem ex_upd {H : Hp} {p : Addr} {o : HO} (h : H p = none) : ∀ b u, H b = some u → upd H p o b = some u := fun b u e => by rw [upd_ne (ne_of_none e h)]; exact e
end PR
/-! part pc_data: stations, tokens, rows as plain data; how they lie in the heap (own work) -/
namespace PR
open PySem L2
structure Stn where
  on : Bool
  seen : Int × Int
  sil : Int
  line : List (Int × Int)
  told : Int
structure Tkn where
  number : Int
  maker : Int
  pos : Nat
  winner : Option Nat
  best : Option (Int × Nat)
abbrev stF (b : Bool) (t : Addr) (sil : Int) (l : Addr) (told : Int) : List (Str × V) := [("on", .bl b), ("seen", .ref t), ("silence", .int sil), ("line", .ref l), ("told", .int told)]
abbrev tkF (n m : Int) (a : Nat) (w b : V) : List (Str × V) := [("number", .int n), ("maker", .int m), ("at", .int (a : Int)), ("winner", w), ("best", b)]
abbrev tup2 (p : Int × Int) : HO := .tup [.int p.1, .int p.2]
/-- the addresses ps hold the pairs -/
def Prs (H : Hp) (ps : List (Addr × (Int × Int))) : Prop := ∀ q ∈ ps, H q.1 = some (tup2 q.2)
/-- a station at a, its list at l -/
structure StnAt (C : Addr) (H : Hp) (a l : Addr) (s : Stn) : Prop where
  ob : ∃ dx t, H a = some (.ins C dx (stF s.on t s.sil l s.told)) ∧ H t = some (tup2 s.seen)
  ln : ∃ ps : List (Addr × (Int × Int)), H l = some (.lst (ps.map fun q => .ref q.1)) ∧ ps.map (·.2) = s.line ∧ Prs H ps
def optN : Option Nat → V
  | none => .non
  | some n => .int (n : Int)
def optI : Option Int → V
  | none => .non
  | some n => .int n
def needM (s : Stn) : Option Int := s.line.head?.map fun p => p.1 + s.told
/-- what is tracked and is neither of these stays -/
def But2 (H H' : Hp) (a l : Addr) : Prop := ∀ b o, H b = some o → b ≠ a → b ≠ l → H' b = some o
def But1 (H H' : Hp) (a : Addr) : Prop := ∀ b o, H b = some o → b ≠ a → H' b = some o
theorem upd_none {H : Hp} {a b : Addr} {o : HO} (h : upd H a o b = none) : b ≠ a ∧ H b = none := by
  by_cases e : b = a
  · rw [e, upd_same] at h; cases h
  · rw [upd_ne e] at h; exact ⟨e, h⟩
theorem StnAt.keep {C : Addr} {H H' : Hp} {a l : Addr} {s : Stn} (S : StnAt C H a l s) (h : ∀ b o, H b = some o → (b = a ∨ b = l ∨ ∃ xs, o = .tup xs) → H' b = some o) : StnAt C H' a l s := by
  obtain ⟨⟨dx, t, h1, h2⟩, ps, h3, e, hps⟩ := S
  exact ⟨⟨dx, t, h _ _ h1 (.inl rfl), h _ _ h2 (.inr (.inr ⟨_, rfl⟩))⟩, ps, h _ _ h3 (.inr (.inl rfl)), e, fun q hq => h _ _ (hps q hq) (.inr (.inr ⟨_, rfl⟩))⟩
theorem StnAt.same {C : Addr} {H H' : Hp} {a l : Addr} {s : Stn} (S : StnAt C H a l s) (h : Same H H') : StnAt C H' a l s := S.keep fun b o e _ => h b o e
theorem StnAt.obj {C : Addr} {H : Hp} {a l : Addr} {s : Stn} (S : StnAt C H a l s) : ∃ dx fs, H a = some (.ins C dx fs) := by
  obtain ⟨⟨dx, t, h1, h2⟩, _⟩ := S
  exact ⟨dx, _, h1⟩
theorem StnAt.lst {C : Addr} {H : Hp} {a l : Addr} {s : Stn} (S : StnAt C H a l s) : ∃ xs, H l = some (.lst xs) := by
  obtain ⟨_, ps, h3, _⟩ := S
  exact ⟨_, h3⟩
theorem Prs.keep {H H' : Hp} {ps : List (Addr × (Int × Int))} (P : Prs H ps) (h : ∀ b xs, H b = some (.tup xs) → H' b = some (.tup xs)) : Prs H' ps := fun q hq => h _ _ (P q hq)
/-- what one write leaves: all but x; x held no tuple -/
theorem but_tup {H H' : Hp} {x : Addr} (h : But1 H H' x) (hx : ∀ xs, H x ≠ some (.tup xs)) : ∀ b xs, H b = some (.tup xs) → H' b = some (.tup xs) := fun b xs e => h b _ e fun z => hx xs (by rw [← z]; exact e)
theorem sameBut {H0 H H' : Hp} {x : Addr} (s : Same H0 H) (h : But1 H H' x) (hx : H0 x = none) : Same H0 H' := fun b o e => h b o (s b o e) fun z => by rw [z, hx] at e; cases e
theorem but_upd {H : Hp} {x : Addr} {o : HO} : But1 H (upd H x o) x := fun b u e hb => by rw [upd_ne hb]; exact e
/-- the best need: None, or a tuple -/
def BestAt (H : Hp) (b : V) : Option (Int × Nat) → Prop
  | none => b = .non
  | some x => ∃ p, b = .ref p ∧ H p = some (.tup [.int x.1, .int (x.2 : Int)])
structure TokAt (C : Addr) (H : Hp) (a : Addr) (t : Tkn) : Prop where
  ob : ∃ dx b, H a = some (.ins C dx (tkF t.number t.maker t.pos (optN t.winner) b)) ∧ BestAt H b t.best
theorem BestAt.keep {H H' : Hp} {b : V} {o : Option (Int × Nat)} (h : BestAt H b o) (k : ∀ c xs, H c = some (.tup xs) → H' c = some (.tup xs)) : BestAt H' b o := by
  cases o with
  | none => exact h
  | some x => obtain ⟨p, h1, h2⟩ := h; exact ⟨p, h1, k _ _ h2⟩
theorem TokAt.keep {C : Addr} {H H' : Hp} {a : Addr} {t : Tkn} (S : TokAt C H a t) (h : ∀ b o, H b = some o → (b = a ∨ ∃ xs, o = .tup xs) → H' b = some o) : TokAt C H' a t := by
  obtain ⟨dx, b, h1, h2⟩ := S
  exact ⟨dx, b, h _ _ h1 (.inl rfl), h2.keep fun c xs q => h _ _ q (.inr ⟨_, rfl⟩)⟩
theorem TokAt.same {C : Addr} {H H' : Hp} {a : Addr} {t : Tkn} (S : TokAt C H a t) (h : Same H H') : TokAt C H' a t := S.keep fun b o e _ => h b o e
def hearM (t : Tkn) (n : Int) (s : Nat) : Tkn := { t with best := match t.best with
  | none => some (n, s)
  | some b => if b.1 < n then some (n, s) else some b }
def beginM (t : Tkn) : Tkn := { t with winner := t.best.map (·.2), best := none }
def cellM (ns : List Int) (k : Nat) : Int := ns.getD k 0
end PR
/-! part pe_dat: rows of flat data, their equality (own work) -/
namespace PR
open PySem L2
def flatB : V → Bool
  | .non => true
  | .int _ => true
  | .bl _ => true
  | .str z => PyData.strOk z
  | _ => false
def pdF : V → PyData
  | .bl b => .bool b
  | .int i => .int i
  | .str z => .str z
  | _ => .none
section
variable {K : PySem.W.Frag} {H : Hp}
theorem dp_flat : ∀ {x : V}, flatB x = true → Dp K H x (pdF x)
  | .non, _ => .non
  | .int i, _ => .int i
  | .bl b, _ => .bl b
  | .str z, _ => .str z
theorem dpAll_flat : ∀ {xs : List V}, xs.all flatB = true → DpAll K H xs (xs.map pdF) ∧ PyData.canLayAll0 (xs.map pdF) = true ∧ PyData.depthAll (xs.map pdF) = 0
  | [], _ => ⟨.nil, rfl, rfl⟩
  | x :: xs, h => by
    rw [List.all_cons, Bool.and_eq_true] at h
    obtain ⟨h1, h2, h3⟩ := dpAll_flat (xs := xs) h.2
    refine ⟨.cons (dp_flat h.1) h1, ?_, ?_⟩
    · show (PyData.canLay0 (pdF x) && PyData.canLayAll0 (xs.map pdF)) = true
      rw [h2]
      cases x <;> first | rfl | (cases h.1; done) | (show (PyData.strOk _ && true) = true; rw [show PyData.strOk _ = true from h.1]; rfl)
    · show max (PyData.depth (pdF x)) (PyData.depthAll (xs.map pdF)) = 0
      rw [h3]
      cases x <;> rfl
/-- a flat thing, or a tuple of flat things -/
def Rowish (H : Hp) (x : V) : Prop := flatB x = true ∨ ∃ a vs, x = .ref a ∧ H a = some (.tup vs) ∧ vs.all flatB = true
theorem Rowish.mono {H H' : Hp} {x : V} (s : ∀ b xs, H b = some (.tup xs) → H' b = some (.tup xs)) (h : Rowish H x) : Rowish H' x := by
  rcases h with h | ⟨a, vs, h1, h2, h3⟩
  · exact .inl h
  · exact .inr ⟨a, vs, h1, s _ _ h2, h3⟩
theorem dp_row {x : V} (h : Rowish H x) : ∃ d, Dp K H x d ∧ PyData.canLay0 d = true ∧ PyData.depth d ≤ 1 := by
  rcases h with h | ⟨a, vs, rfl, h2, h3⟩
  · refine ⟨pdF x, dp_flat h, ?_, ?_⟩
    · cases x <;> first | rfl | exact h | (cases h; done)
    · cases x <;> exact Nat.zero_le _
  · obtain ⟨k1, k2, k3⟩ := dpAll_flat (K := K) (H := H) h3
    exact ⟨.tuple (vs.map pdF), .tup (SqT.of h2) k1, k2, by show PyData.depthAll _ + 1 ≤ 1; rw [k3]; exact Nat.le_refl _⟩
theorem dp_rows : ∀ {xs : List V}, (∀ x ∈ xs, Rowish H x) → ∃ ds, DpAll K H xs ds ∧ PyData.canLayAll0 ds = true ∧ PyData.depthAll ds ≤ 1
  | [], _ => ⟨[], .nil, rfl, Nat.zero_le _⟩
  | x :: xs, h => by
    obtain ⟨d, h1, h2, h3⟩ := dp_row (K := K) (h x List.mem_cons_self)
    obtain ⟨ds, k1, k2, k3⟩ := dp_rows (xs := xs) fun y hy => h y (List.mem_cons_of_mem _ hy)
    refine ⟨d :: ds, .cons h1 k1, ?_, ?_⟩
    · show (PyData.canLay0 d && PyData.canLayAll0 ds) = true
      rw [h2, k2] <;> rfl
    · show max (PyData.depth d) (PyData.depthAll ds) ≤ 1
      omega
theorem same_lists {Q : VK} {p q : Addr} {xs : List V} (h1 : H p = some (.lst xs)) (h2 : H q = some (.lst xs)) (hx : ∀ x ∈ xs, Rowish H x) (k : Q (.bl false) H) : rNeD K (.ref p) (.ref q) H Q := by
  obtain ⟨ds, k1, k2, k3⟩ := dp_rows (K := K) hx
  have hs : SeqAt.shaped (.list ds) = true := by
    show (PyData.canLayAll0 ds && decide (PyData.depthAll ds + 1 ≤ 64)) = true
    rw [k2, decide_eq_true (by omega)] <;> rfl
  exact r_neD (b := true) (.lst (SqL.of h1) k1) (.lst (SqL.of h2) k1) hs hs (SeqAt.eqv_refl _ k2) k
end
theorem dp_tup2 {K : PySem.W.Frag} {H : Hp} {t : Addr} {p : Int × Int} (h : H t = some (tup2 p)) : Dp K H (.ref t) (.tuple [.int p.1, .int p.2]) := .tup (SqT.of h) (.cons (.int _) (.cons (.int _) .nil))
/-- lists that were told, each beside a copy of it -/
def HeldAt (H : Hp) (ts : List Addr) : Prop := ∀ t ∈ ts, ∃ p q xs, H t = some (.tup [.ref p, .ref q]) ∧ H p = some (.lst xs) ∧ H q = some (.lst xs) ∧ ∀ x ∈ xs, Rowish H x
end PR
/-! part pf_num: the laws' own drawing (own work) -/
namespace PR
def mixH (c k : Int) : Int := (c + 7919 * k) * 48271 % 2147483647
def mixM (c k : Int) : Int := mixH c k * (mixH c k % 65537 + k + 1) % 2147483647
theorem mixH_nonneg (c k : Int) : 0 ≤ mixH c k := Int.emod_nonneg _ (by decide)
theorem mixH_lt (c k : Int) : mixH c k < 2147483647 := Int.emod_lt_of_pos _ (by decide)
theorem mixM_nonneg (c k : Int) : 0 ≤ mixM c k := Int.emod_nonneg _ (by decide)
theorem mixM_lt (c k : Int) : mixM c k < 2147483647 := Int.emod_lt_of_pos _ (by decide)
end PR
/-! part pg_ring: the small rules as plain functions (own work) -/
namespace PR
/-- the first station that is on among those behind at, from the j-th behind on -/
def nextIn (on : List Bool) (i : Nat) : List Nat → Option Nat
  | [] => none
  | j :: r => if on.getD ((i + (1 + j)) % on.length) false then some ((i + (1 + j)) % on.length) else nextIn on i r
def nextFrom (on : List Bool) (i j : Nat) : Option Nat := nextIn on i ((List.range on.length).drop j)
def nextM (on : List Bool) (i : Nat) : Option Nat := nextFrom on i 0
theorem nextFrom_step (on : List Bool) (i j : Nat) (hj : j < on.length) (hk : (i + (1 + j)) % on.length < on.length) :
    nextFrom on i j = if on[(i + (1 + j)) % on.length] then some ((i + (1 + j)) % on.length) else nextFrom on i (j + 1) := by
  unfold nextFrom
  have e : (List.range on.length).drop j = j :: (List.range on.length).drop (j + 1) := by
    rw [List.drop_eq_getElem_cons (by simpa using hj)]
    simp
  rw [e]
  show (if on.getD ((i + (1 + j)) % on.length) false then _ else _) = _
  rw [show on.getD ((i + (1 + j)) % on.length) false = on[(i + (1 + j)) % on.length] by simp [List.getD, hk]]
theorem nextFrom_end (on : List Bool) (i : Nat) : nextFrom on i on.length = none := by
  unfold nextFrom
  rw [List.drop_of_length_le (by simp)]
  rfl
def limitM (n i : Int) : Int := n + 1 + 2 * n * i
def boundM (n : Int) : Int := (n + 7 + 3) * n
end PR
/-! own tactic rows (local) -/
local macro_rules | `(tactic| fail "ne") => `(tactic| first
  | assumption
  | exact Ne.symm (by assumption)
  | (refine' L2.ne_of_none ?h1 ?h2; (case h2 => assumption); (case h1 => first | assumption | fail "h"))
  | (refine' Ne.symm (L2.ne_of_none ?h1 ?h2); (case h2 => assumption); (case h1 => first | assumption | fail "h"))
  | (refine' L2.ne_of ?h1 ?h2 ?h3; (case h1 => assumption); (case h2 => assumption); (case h3 => (intro q; cases q))))
local macro_rules | `(tactic| fail "h") => `(tactic| first
  | assumption
  | exact L2.upd_same
  | (refine' Eq.trans (L2.upd_ne ?hn) ?hr; (case hn => fail "ne"); (case hr => fail "h")))
local macro_rules | `(tactic| fail "sq") => `(tactic| first
  | assumption
  | exact L2.SqL.of (by fail "h"))
local macro_rules | `(tactic| fail "sqt") => `(tactic| first
  | assumption
  | exact L2.SqT.of (by fail "h"))
local macro_rules | `(tactic| fail "cl") => `(tactic| first | assumption | exact PR.ClT.cl _)
local macro_rules | `(tactic| fail "lk") => `(tactic| first
  | assumption
  | (with_reducible exact PR.lk_eq)
  | (with_reducible exact PR.lk_nil)
  | (refine' Eq.trans (PR.lk_ne ?hk) ?hr; (case hk => decide +kernel); (case hr => fail "lk")))
local macro_rules | `(tactic| fail "pf") => `(tactic| first
  | (with_reducible exact PR.putF_nil)
  | (with_reducible exact PR.putF_eq)
  | (refine' PR.putF_ne ?hk ?hr; (case hk => decide +kernel); (case hr => fail "pf")))
local macro_rules | `(tactic| fail "isi") => `(tactic| first
  | (with_reducible refine' PR.isi_int_int ?_)
  | (with_reducible refine' PR.isi_int_bool ?_)
  | (with_reducible refine' PR.isi_int_str ?_)
  | (with_reducible refine' PR.isi_int_tuple ?_)
  | (with_reducible refine' PR.isi_int_list ?_)
  | (with_reducible refine' PR.isi_bl_int ?_)
  | (with_reducible refine' PR.isi_bl_bool ?_)
  | (with_reducible refine' PR.isi_bl_str ?_)
  | (with_reducible refine' PR.isi_bl_tuple ?_)
  | (with_reducible refine' PR.isi_bl_list ?_)
  | (with_reducible refine' PR.isi_non_int ?_)
  | (with_reducible refine' PR.isi_non_bool ?_)
  | (with_reducible refine' PR.isi_non_str ?_)
  | (with_reducible refine' PR.isi_non_tuple ?_)
  | (with_reducible refine' PR.isi_non_list ?_)
  | (with_reducible refine' PR.isi_str_int ?_)
  | (with_reducible refine' PR.isi_str_bool ?_)
  | (with_reducible refine' PR.isi_str_str ?_)
  | (with_reducible refine' PR.isi_str_tuple ?_)
  | (with_reducible refine' PR.isi_str_list ?_)
  | ((with_reducible refine' PR.isi_lst_int ?hh ?_); (case hh => fail "h"))
  | ((with_reducible refine' PR.isi_lst_bool ?hh ?_); (case hh => fail "h"))
  | ((with_reducible refine' PR.isi_lst_str ?hh ?_); (case hh => fail "h"))
  | ((with_reducible refine' PR.isi_lst_tuple ?hh ?_); (case hh => fail "h"))
  | ((with_reducible refine' PR.isi_lst_list ?hh ?_); (case hh => fail "h"))
  | ((with_reducible refine' PR.isi_tup_int ?hh ?_); (case hh => fail "h"))
  | ((with_reducible refine' PR.isi_tup_bool ?hh ?_); (case hh => fail "h"))
  | ((with_reducible refine' PR.isi_tup_str ?hh ?_); (case hh => fail "h"))
  | ((with_reducible refine' PR.isi_tup_tuple ?hh ?_); (case hh => fail "h"))
  | ((with_reducible refine' PR.isi_tup_list ?hh ?_); (case hh => fail "h")))
local macro_rules | `(tactic| fail "st1") => `(tactic| first
  | ((with_reducible refine' PR.r_var ?hh ?_); (case hh => exact rfl))
  | (with_reducible refine' PR.r_c ?_)
  | (with_reducible refine' PR.r_fld ?_)
  | ((with_reducible refine' PR.r_fldK ?hh ?hc ?hn ?hl ?_); (case hh => fail "h"); (case hc => fail "cl"); (case hn => fail "na"); (case hl => fail "lk"))
  | (with_reducible refine' PR.r_op ?_)
  | (with_reducible refine' PR.r_I0 ?_)
  | ((with_reducible refine' PR.r_I ?hh ?_); (case hh => first | decide | assumption | omega | exact Or.inl ⟨by decide, by decide⟩ | exact Or.inr ⟨by decide, by decide⟩ | exact Or.inl ⟨by omega, by omega⟩ | exact Or.inr ⟨by omega, by omega⟩ | exact ⟨by decide, by decide⟩ | exact ⟨by omega, by omega⟩ | exact ⟨by decide, by decide, by decide⟩))
  | (with_reducible refine' PR.r_U ?_)
  | ((with_reducible refine' PR.r_eq ?hh ?_); (case hh => exact rfl))
  | ((with_reducible refine' PR.r_ne ?hh ?_); (case hh => exact rfl))
  | (with_reducible refine' PR.r_isN ?_)
  | (with_reducible refine' PR.r_notN ?_)
  | (with_reducible refine' PR.r_tTest ?_)
  | (with_reducible refine' PR.r_tB ?_)
  | (with_reducible refine' PR.r_kB ?_)
  | (with_reducible refine' PR.r_cons ?_)
  | (with_reducible refine' PR.r_nil ?_)
  | (with_reducible refine' PR.r_cb ?_)
  | (with_reducible refine' PR.r_bm ?_)
  | (with_reducible refine' PR.r_bm0 ?_)
  | ((with_reducible refine' PR.r_tyL ?hh ?_); (case hh => fail "sq"))
  | (with_reducible refine' PR.r_tyS ?_)
  | (with_reducible refine' PR.r_meth ?_)
  | ((with_reducible refine' PR.r_methK ?hh ?hl ?_); (case hh => fail "h"); (case hl => fail "lk"))
  | (with_reducible refine' PR.r_call ?_)
  | (with_reducible refine' PR.r_make ?_)
  | (with_reducible refine' PR.r_tup ?_)
  | (with_reducible refine' PR.r_lst ?_)
  | ((with_reducible refine' PR.r_len ?hh ?_); (case hh => fail "sq"))
  | ((with_reducible refine' PR.r_lenT ?hh ?_); (case hh => fail "sqt"))
  | ((with_reducible refine' PR.r_ixL ?hh ?he ?_); (case hh => fail "sq"); (case he => first | assumption | exact PR.at0 | exact PR.atk (by assumption) | exact PR.at_snoc (by omega)))
  | ((with_reducible refine' PR.r_ixT ?hh ?he ?_); (case hh => fail "sqt"); (case he => first | assumption | exact rfl | exact PR.at0 | exact PR.atk (by assumption)))
  | ((with_reducible refine' PR.r_gtT ?hh ?he ?_); (case hh => fail "sqt"); (case he => fail "sqt"))
  | ((with_reducible refine' PR.r_eqNil ?hh ?he ?_); (case hh => fail "sq"); (case he => fail "sq"))
  | ((with_reducible refine' PR.r_neNil ?hh ?he ?_); (case hh => fail "sq"); (case he => fail "sq"))
  | (with_reducible refine' PR.r_isB ?_)
  | (with_reducible refine' PR.r_isnotB ?_)
  | ((with_reducible refine' PR.r_listOf ?hh ?_); (case hh => fail "sq"))
  | fail "isi"
  | (with_reducible refine' PR.rr_max2 ?_)
  | (with_reducible refine' PR.rr_min2 ?_)
  | ((with_reducible refine' PR.r_append ?hh ?hz ?_); (case hh => fail "h"); (case hz => first | assumption | omega | exact PR.szlt (by omega))))
local macro_rules | `(tactic| fail "st2") => `(tactic| first
  | (with_reducible refine' PR.s_seq ?_)
  | (with_reducible refine' PR.s_next ?_)
  | (with_reducible refine' PR.s_asg ?_)
  | (with_reducible refine' PR.s_name ?_)
  | (with_reducible refine' PR.s_if ?_)
  | (with_reducible refine' L2.iteT ?_)
  | (with_reducible refine' L2.iteF ?_)
  | (with_reducible refine' PR.iteNT ?_)
  | (with_reducible refine' PR.iteNF ?_)
  | (with_reducible refine' PR.s_fld ?_)
  | ((with_reducible refine' PR.s_fldE ?hh ?hc ?hn ?hl ?hp ?_); (case hh => fail "h"); (case hc => fail "cl"); (case hn => fail "na"); (case hl => exact PR.ltb rfl); (case hp => fail "pf"))
  | (with_reducible refine' PR.s_forL ?_)
  | (with_reducible refine' PR.s_forR1 ?_)
  | (with_reducible refine' PR.s_forR2 ?_)
  | (with_reducible refine' PR.s_forE ?_)
  | (with_reducible refine' PR.s_forT ?_)
  | (with_reducible refine' PR.r_lcL ?_)
  | (with_reducible refine' PR.r_lcR1 ?_)
  | (with_reducible refine' PR.r_lcR2 ?_)
  | (with_reducible refine' PR.s_ret ?_)
  | (with_reducible refine' PR.s_retN ?_)
  | (with_reducible refine' PR.s_drop ?_)
  | (with_reducible refine' PR.s_brk ?_)
  | (with_reducible refine' PR.s_cont ?_)
  | (with_reducible refine' PR.r_and ?_)
  | (with_reducible refine' PR.r_or ?_)
  | (with_reducible refine' PR.r_not ?_)
  | (with_reducible refine' PR.r_yes ?_)
  | (with_reducible refine' PR.r_tru ?_)
  | (with_reducible refine' PR.r_if ?_)
  | (with_reducible refine' PR.r_andV ?_)
  | (with_reducible refine' PR.r_andVK ?_)
  | (with_reducible refine' PR.r_orV ?_)
  | (with_reducible refine' PR.r_orVK ?_)
  | (with_reducible refine' PR.r_notV ?_)
  | (with_reducible refine' PR.r_notVK ?_)
  | (with_reducible refine' PR.r_chain ?_)
  | (with_reducible refine' PR.r_chainK ?_)
  | (with_reducible refine' PR.r_un ?_)
  | ((with_reducible refine' PR.r_new ?hz ?_); (case hz => exact PR.leSz rfl)))
local macro_rules | `(tactic| fail "go1") => `(tactic| first | fail "st1" | fail "st2" | dsimp only)
local macro_rules | `(tactic| fail "go") => `(tactic| repeat (fail "go1"))
namespace My
open PySem L2
def topS (i : Nat) : Stmt := PySem.Challenge.pw_passring_k01_rules.main.body.getD i (.Pass ⟨0, 0, 0, 0⟩)
abbrev s_greater : Stmt := topS 2
abbrev s_next_on : Stmt := topS 3
abbrev s_limit : Stmt := topS 4
abbrev s_bound : Stmt := topS 5
abbrev s_law_whole : Stmt := topS 7
abbrev s_law_cell_at : Stmt := topS 8
abbrev s_law_next : Stmt := topS 9
abbrev s_law : Stmt := topS 10
structure Tx (K : PySem.W.Frag) (mg : Str → Option Value) where
  f_greater : PR.FnT K mg "greater" "greater" s_greater ["one", "other"]
  f_next_on : PR.FnT K mg "next_on" "next_on" s_next_on ["on", "at"]
  f_limit : PR.FnT K mg "limit" "limit" s_limit ["many", "station"]
  f_bound : PR.FnT K mg "bound" "bound" s_bound ["many"]
  f_law_whole : PR.FnT K mg "_law_whole" "_law_whole" s_law_whole ["_law_found"]
  f_law_cell_at : PR.FnT K mg "_law_cell_at" "_law_cell_at" s_law_cell_at ["_law_script", "_law_k"]
  f_law_next : PR.FnT K mg "_law_next" "_law_next" s_law_next ["_law_on", "_law_at"]
  f_law : PR.FnT K mg "law" "law" s_law ["_law_script"]
  n_len : mg "len" = none
  n_list : mg "list" = none
  n_isinstance : mg "isinstance" = none
  n_int : mg "int" = none
  n_bool : mg "bool" = none
  n_range : mg "range" = none
  n_max : mg "max" = none
  c_MOST_RANK : ∃ t, mg "MOST_RANK" = some (.int 7 t)
theorem sc_greater : FnScope ["one", "other"] ["one", "other"] (defScope s_greater) := ⟨rfl, rfl, rfl, by decide +kernel, rfl, by decide +kernel, by decide +kernel⟩
theorem sc_next_on : FnScope ["on", "at", "far"] ["on", "at"] (defScope s_next_on) := ⟨rfl, rfl, rfl, by decide +kernel, rfl, by decide +kernel, by decide +kernel⟩
theorem sc_limit : FnScope ["many", "station"] ["many", "station"] (defScope s_limit) := ⟨rfl, rfl, rfl, by decide +kernel, rfl, by decide +kernel, by decide +kernel⟩
theorem sc_bound : FnScope ["many"] ["many"] (defScope s_bound) := ⟨rfl, rfl, rfl, by decide +kernel, rfl, by decide +kernel, by decide +kernel⟩
theorem sc_law_whole : FnScope ["_law_found"] ["_law_found"] (defScope s_law_whole) := ⟨rfl, rfl, rfl, by decide +kernel, rfl, by decide +kernel, by decide +kernel⟩
theorem sc_law_cell_at : FnScope ["_law_script", "_law_k"] ["_law_script", "_law_k"] (defScope s_law_cell_at) := ⟨rfl, rfl, rfl, by decide +kernel, rfl, by decide +kernel, by decide +kernel⟩
theorem sc_law_next : FnScope ["_law_on", "_law_at", "_law_far"] ["_law_on", "_law_at"] (defScope s_law_next) := ⟨rfl, rfl, rfl, by decide +kernel, rfl, by decide +kernel, by decide +kernel⟩
theorem sc_law : FnScope ["_law_script", "_law_cell", "_law_one", "_law_far", "_law_number", "_law_other", "_law_first", "_law_second", "_law_found", "_law_many", "_law_on", "_law_bits", "_law_k", "_law_at", "_law_due"] ["_law_script"] (defScope s_law) := ⟨rfl, rfl, rfl, by decide +kernel, rfl, by decide +kernel, by decide +kernel⟩
end My
local macro_rules | `(tactic| fail "na") => `(tactic| first | assumption)
/-! part w_rules: is_whole, greater, next_on, limit, bound -/
namespace My
open PySem L2 PR
def spGreater (K : PySem.W.Frag) : Sp := fun vs H Q _ => ∃ (p q : Addr) (a b : Int × Int), vs = [.ref p, .ref q] ∧ SqT K H p [.int a.1, .int a.2] ∧ SqT K H q [.int b.1, .int b.2] ∧ Q (.bl (gtr a b)) H
def spNextOn (K : PySem.W.Frag) : Sp := fun vs H Q _ => ∃ (p : Addr) (on : List Bool) (i : Nat), vs = [.ref p, .int (i : Int)] ∧ H p = some (.lst (on.map V.bl)) ∧ on.length ≤ 1000 ∧ i ≤ 1000 ∧ 0 < on.length ∧ Q (optN (nextM on i)) H
def spLimit : Sp := fun vs H Q _ => ∃ (n i : Int), vs = [.int n, .int i] ∧ 0 ≤ n ∧ n ≤ 1000 ∧ Q (.int (limitM n i)) H
section
variable {P : Program} {w : World} {K : PySem.W.Frag} {mg : Str → Option Value} {base : Heap}
theorem ok_greater (T : Tx K mg) : FnOk P w K mg base CX0 1 T.f_greater.f T.f_greater.fd ["one", "other"] (spGreater K) := by
  refine T.f_greater.F.ok sc_greater (fun vs H Q E h => ?_) (fun cdv A outer s H vs Q E hr h => ?_)
  · obtain ⟨p, q, a, b, rfl, _⟩ := h
    rfl
  · obtain ⟨p, q, a, b, rfl, h1, h2, k⟩ := h
    refine ⟨_, (pss_cons (ps_if (pt_cmpR op_ne (pe_ix ix_tup (pv 0) pe_int (fun _ _ => rfl)) (pe_ix ix_tup (pv 1) pe_int (fun _ _ => rfl)) (nomark _)) (pss_one (ps_ret (pe_cmpR op_gt (pe_ix ix_tup (pv 0) pe_int (fun _ _ => rfl)) (pe_ix ix_tup (pv 1) pe_int (fun _ _ => rfl)) (nomark _)))) pss_nil) (pss_one (ps_ret (pe_cmpR op_gt (pe_ix ix_tup (pv 0) pe_int (fun _ _ => rfl)) (pe_ix ix_tup (pv 1) pe_int (fun _ _ => rfl)) (nomark _))))), ?_⟩
    fail "go"
    by_cases e : a.1 = b.1
    · rw [decide_eq_true (show V.int a.1 = V.int b.1 by rw [e])]
      have z : gtr a b = decide (b.2 < a.2) := by unfold gtr; rw [if_pos e]
      rw [z] at k
      refine iteNT ?_
      fail "go"
      exact k
    · rw [decide_eq_false (show ¬ V.int a.1 = V.int b.1 from fun z => e (V.int.inj z))]
      have z : gtr a b = decide (b.1 < a.1) := by unfold gtr; rw [if_neg e]
      rw [z] at k
      refine iteNF ?_
      fail "go"
      exact k
theorem ok_limit (T : Tx K mg) : FnOk P w K mg base CX0 1 T.f_limit.f T.f_limit.fd ["many", "station"] spLimit := by
  refine T.f_limit.F.ok sc_limit (fun vs H Q E h => ?_) (fun cdv A outer s H vs Q E hr h => ?_)
  · obtain ⟨n, i, rfl, _⟩ := h
    rfl
  · obtain ⟨n, i, rfl, h0, h1, k⟩ := h
    refine ⟨_, (pss_one (ps_ret (pe_op op_add (pe_op op_add (pv 0) pe_int) (pe_op op_mul (pe_op op_mul pe_int (pv 0)) (pv 1))))), ?_⟩
    fail "go"
    exact k
theorem ok_next_on (T : Tx K mg) : FnOk P w K mg base CX0 1 T.f_next_on.f T.f_next_on.fd ["on", "at"] (spNextOn K) := by
  refine T.f_next_on.F.ok sc_next_on (fun vs H Q E h => ?_) (fun cdv A outer s H vs Q E hr h => ?_)
  · obtain ⟨p, on, i, rfl, _⟩ := h
    rfl
  · obtain ⟨p, on, i, rfl, hp, h1, h2, h3, k⟩ := h
    refine ⟨_, (pss_cons (ps_for PassesOwn.never rfl (pi_range2 rfl T.n_range (pa_cons pe_int (pa_cons (pe_op op_add (pe_callB PR.c_len (by rfl) T.n_len PySem.boot_len (pa_cons (pv 0) pa_nil)) pe_int) pa_nil))) (pg_name (i := 2) sc_next_on.nd rfl (Or.inl rfl)) (pss_one (ps_if (pt_val (pe_ix ix_list (pv 0) (pe_op op_mod (pe_op op_add (pv 1) (pv 2)) (pe_callB PR.c_len (by rfl) T.n_len PySem.boot_len (pa_cons (pv 0) pa_nil))) (fun _ _ => rfl))) (pss_one (ps_ret (pe_op op_mod (pe_op op_add (pv 1) (pv 2)) (pe_callB PR.c_len (by rfl) T.n_len PySem.boot_len (pa_cons (pv 0) pa_nil))))) pss_nil))) (pss_one (ps_ret pe_non))), ?_⟩
    fail "go"
    rw [List.length_map]
    refine kForR2_of (lo := 1) (n := on.length) (by omega) (by omega) (by omega) (by omega) (fun j σ H' => H' = H ∧ nextFrom on i j = nextM on i ∧ ∃ v, σ = [some (.ref p), some (.int (i : Int)), v]) ⟨rfl, rfl, none, rfl⟩ (fun j σ H' hj pp => ?_) (fun σ H' pp => ?_)
    · obtain ⟨rfl, e, v, rfl⟩ := pp
      have hk : (i + (1 + j)) % on.length < on.length := Nat.mod_lt _ h3
      have ek : (on.map V.bl)[(i + (1 + j)) % on.length]? = some (.bl on[(i + (1 + j)) % on.length]) := by rw [List.getElem?_map, List.getElem?_eq_getElem hk] <;> rfl
      have ei : atI (on.map V.bl) (((i : Int) + ((1 + j : Nat) : Int)) % ((on.map V.bl).length : Int)) = some (.bl on[(i + (1 + j)) % on.length]) := atz (by rw [List.length_map, Int.natCast_emod, Int.natCast_add i]) ek
      have hpos : (0 : Int) < ((on.map V.bl).length : Int) := by rw [List.length_map]; omega
      have enx := nextFrom_step on i j hj hk
      fail "go"
      cases hb : on[(i + (1 + j)) % on.length] with
      | true =>
        rw [hb] at enx
        fail "go"
        rw [← e, enx] at k
        have z : ((i : Int) + ((1 + j : Nat) : Int)) % ((on.map V.bl).length : Int) = (((i + (1 + j)) % on.length : Nat) : Int) := by rw [List.length_map, Int.natCast_emod, Int.natCast_add i]
        rw [z]
        exact k
      | false =>
        rw [hb] at enx
        fail "go"
        exact ⟨rfl, enx.symm.trans e, _, rfl⟩
    · obtain ⟨rfl, e, v, rfl⟩ := pp
      rw [← e, nextFrom_end] at k
      fail "go"
      exact k
end
end My
/-! part w_bound: bound -/
namespace My
open PySem L2 PR
def spBound : Sp := fun vs H Q _ => ∃ (n : Int), vs = [.int n] ∧ 0 ≤ n ∧ n ≤ 1000 ∧ Q (.int (boundM n)) H
section
variable {P : Program} {w : World} {K : PySem.W.Frag} {mg : Str → Option Value} {base : Heap}
theorem ok_bound (T : Tx K mg) : FnOk P w K mg base CX0 1 T.f_bound.f T.f_bound.fd ["many"] spBound := by
  refine T.f_bound.F.ok sc_bound (fun vs H Q E h => ?_) (fun cdv A outer s H vs Q E hr h => ?_)
  · obtain ⟨n, rfl, _⟩ := h
    rfl
  · obtain ⟨n, rfl, h0, h1, k⟩ := h
    refine ⟨_, (pss_one (ps_ret (pe_op op_mul (pe_op op_add (pe_op op_add (pv 0) (PR.pg_const rfl T.c_MOST_RANK)) pe_int) (pv 0)))), ?_⟩
    fail "go"
    exact k
end
end My
/-! part w_cell: _law_cell_at -/
namespace My
open PySem L2 PR
def spCell (K : PySem.W.Frag) : Sp := fun vs H Q _ => ∃ (a : Addr) (ns : List Int) (k : Nat), vs = [.ref a, .int (k : Int)] ∧ SqL K H a (ns.map V.int) ∧ Q (.int (cellM ns k)) H
section
variable {P : Program} {w : World} {K : PySem.W.Frag} {mg : Str → Option Value} {base : Heap}
theorem ok_law_cell_at (T : Tx K mg) : FnOk P w K mg base CX0 1 T.f_law_cell_at.f T.f_law_cell_at.fd ["_law_script", "_law_k"] (spCell K) := by
  refine T.f_law_cell_at.F.ok sc_law_cell_at (fun vs H Q E h => ?_) (fun cdv A outer s H vs Q E hr h => ?_)
  · obtain ⟨a, ns, k, rfl, _⟩ := h
    rfl
  · obtain ⟨a, ns, k, rfl, hS, q⟩ := h
    refine ⟨_, (pss_cons (ps_if (pt_cmpR op_lt (pv 1) (pe_callB PR.c_len (by rfl) T.n_len PySem.boot_len (pa_cons (pv 0) pa_nil)) (nomark _)) (pss_one (ps_ret (pe_ix ix_list (pv 0) (pv 1) (fun _ _ => rfl)))) pss_nil) (pss_one (ps_ret pe_int))), ?_⟩
    fail "go"
    rw [List.length_map]
    by_cases hk : k < ns.length
    · rw [decide_eq_true (show (k : Int) < (ns.length : Int) by omega)]
      have e : (ns.map V.int)[k]? = some (.int ns[k]) := by rw [List.getElem?_map, List.getElem?_eq_getElem hk] <;> rfl
      have ec : cellM ns k = ns[k] := by unfold cellM; simp [List.getD, hk]
      rw [ec] at q
      fail "go"
      exact q
    · rw [decide_eq_false (show ¬ (k : Int) < (ns.length : Int) by omega)]
      have ec : cellM ns k = 0 := by unfold cellM; simp [List.getD, List.getElem?_eq_none (by omega : ns.length ≤ k)]
      rw [ec] at q
      fail "go"
      exact q
end
end My
/-! part w_k01: the law -/
namespace My
open PySem L2 PR
def spLaw (K : PySem.W.Frag) : Sp := fun vs H Q _ => ∃ (a : Addr) (ns : List Int), vs = [.ref a] ∧ SqL K H a (ns.map V.int) ∧ ns.length ≤ 63 ∧ ∀ H', Q (.bl true) H'
def spWhole1 : Sp := fun vs H Q _ => ∃ i : Int, vs = [.int i] ∧ Q (.bl true) H
def bitsM (b : Int) : Nat → List Bool
  | 0 => []
  | n + 1 => decide (b % 2 = 1) :: bitsM (b / 2) n
def bitsR (b : Int) : Nat → Int
  | 0 => b
  | n + 1 => bitsR b n / 2
def bitsL (b : Int) : Nat → List Bool
  | 0 => []
  | n + 1 => bitsL b n ++ [decide (bitsR b n % 2 = 1)]
theorem bitsL_len (b : Int) : ∀ n, (bitsL b n).length = n
  | 0 => rfl
  | n + 1 => by show (bitsL b n ++ [_]).length = _; rw [List.length_append, bitsL_len b n] <;> rfl
section
variable {P : Program} {w : World} {K : PySem.W.Frag} {mg : Str → Option Value} {base : Heap}
theorem ok_law_whole (T : Tx K mg) : FnOk P w K mg base CX0 1 T.f_law_whole.f T.f_law_whole.fd ["_law_found"] spWhole1 := by
  refine T.f_law_whole.F.ok sc_law_whole (fun vs H Q E h => ?_) (fun cdv A outer s H vs Q E hr h => ?_)
  · obtain ⟨x, rfl, _⟩ := h
    rfl
  · obtain ⟨x, rfl, k⟩ := h
    refine ⟨_, (pss_one (ps_ret (pe_and (pe_callB call_isi (by rfl) T.n_isinstance (by decide +kernel) (pa_cons (pv 0) (pa_cons (PR.pg_ty (n := "int") rfl T.n_int (by decide +kernel)) pa_nil))) (pe_one (pe_not (pe_callB call_isi (by rfl) T.n_isinstance (by decide +kernel) (pa_cons (pv 0) (pa_cons (PR.pg_ty (n := "bool") rfl T.n_bool (by decide +kernel)) pa_nil)))))))), ?_⟩
    fail "go"
    exact k
theorem ok_law_next (T : Tx K mg) : FnOk P w K mg base CX0 1 T.f_law_next.f T.f_law_next.fd ["_law_on", "_law_at"] (spNextOn K) := by
  refine T.f_law_next.F.ok sc_law_next (fun vs H Q E h => ?_) (fun cdv A outer s H vs Q E hr h => ?_)
  · obtain ⟨p, on, i, rfl, _⟩ := h
    rfl
  · obtain ⟨p, on, i, rfl, hp, h1, h2, h3, k⟩ := h
    refine ⟨_, (pss_cons (ps_for PassesOwn.never rfl (pi_range2 rfl T.n_range (pa_cons pe_int (pa_cons (pe_op op_add (pe_callB PR.c_len (by rfl) T.n_len PySem.boot_len (pa_cons (pv 0) pa_nil)) pe_int) pa_nil))) (pg_name (i := 2) sc_law_next.nd rfl (Or.inl rfl)) (pss_one (ps_if (pt_val (pe_ix ix_list (pv 0) (pe_op op_mod (pe_op op_add (pv 1) (pv 2)) (pe_callB PR.c_len (by rfl) T.n_len PySem.boot_len (pa_cons (pv 0) pa_nil))) (fun _ _ => rfl))) (pss_one (ps_ret (pe_op op_mod (pe_op op_add (pv 1) (pv 2)) (pe_callB PR.c_len (by rfl) T.n_len PySem.boot_len (pa_cons (pv 0) pa_nil))))) pss_nil))) (pss_one (ps_ret pe_non))), ?_⟩
    fail "go"
    rw [List.length_map]
    refine kForR2_of (lo := 1) (n := on.length) (by omega) (by omega) (by omega) (by omega) (fun j σ H' => H' = H ∧ nextFrom on i j = nextM on i ∧ ∃ v, σ = [some (.ref p), some (.int (i : Int)), v]) ⟨rfl, rfl, none, rfl⟩ (fun j σ H' hj pp => ?_) (fun σ H' pp => ?_)
    · obtain ⟨rfl, e, v, rfl⟩ := pp
      have hk : (i + (1 + j)) % on.length < on.length := Nat.mod_lt _ h3
      have ek : (on.map V.bl)[(i + (1 + j)) % on.length]? = some (.bl on[(i + (1 + j)) % on.length]) := by rw [List.getElem?_map, List.getElem?_eq_getElem hk] <;> rfl
      have ei : atI (on.map V.bl) (((i : Int) + ((1 + j : Nat) : Int)) % ((on.map V.bl).length : Int)) = some (.bl on[(i + (1 + j)) % on.length]) := atz (by rw [List.length_map, Int.natCast_emod, Int.natCast_add i]) ek
      have hpos : (0 : Int) < ((on.map V.bl).length : Int) := by rw [List.length_map]; omega
      have enx := nextFrom_step on i j hj hk
      fail "go"
      cases hb : on[(i + (1 + j)) % on.length] with
      | true =>
        rw [hb] at enx
        fail "go"
        rw [← e, enx] at k
        have z : ((i : Int) + ((1 + j : Nat) : Int)) % ((on.map V.bl).length : Int) = (((i + (1 + j)) % on.length : Nat) : Int) := by rw [List.length_map, Int.natCast_emod, Int.natCast_add i]
        rw [z]
        exact k
      | false =>
        rw [hb] at enx
        fail "go"
        exact ⟨rfl, enx.symm.trans e, _, rfl⟩
    · obtain ⟨rfl, e, v, rfl⟩ := pp
      rw [← e, nextFrom_end] at k
      fail "go"
      exact k
theorem ok_law (T : Tx K mg) : FnOk P w K mg base CX0 3 T.f_law.f T.f_law.fd ["_law_script"] (spLaw K) := by
  refine T.f_law.F.ok sc_law (fun vs H Q E h => ?_) (fun cdv A outer s H vs Q E hr h => ?_)
  · obtain ⟨a, ns, rfl, _⟩ := h
    rfl
  · obtain ⟨sc, ns, rfl, hS, hlen, k⟩ := h
    refine ⟨_, (pss_cons (ps_set (i := 1) sc_law.nd rfl (Or.inl rfl) (pe_op op_mod (pe_call (ok_law_cell_at T) (hr.mono (by first | decide | omega)) rfl T.f_law_cell_at.g T.f_law_cell_at.F.kp T.f_law_cell_at.b .nil pass0 (pa_cons (pv 0) (pa_cons pe_int pa_nil))) (pe_op op_pow pe_int pe_int))) (pss_cons (ps_set (i := 2) sc_law.nd rfl (Or.inl rfl) (pe_tup (pa_cons (pv 1) (pa_cons (pe_op op_mod (pe_call (ok_law_cell_at T) (hr.mono (by first | decide | omega)) rfl T.f_law_cell_at.g T.f_law_cell_at.F.kp T.f_law_cell_at.b .nil pass0 (pa_cons (pv 0) (pa_cons pe_int pa_nil))) pe_int) pa_nil)))) (pss_cons (ps_set (i := 3) sc_law.nd rfl (Or.inl rfl) (pe_op op_mod (pe_call (ok_law_cell_at T) (hr.mono (by first | decide | omega)) rfl T.f_law_cell_at.g T.f_law_cell_at.F.kp T.f_law_cell_at.b .nil pass0 (pa_cons (pv 0) (pa_cons pe_int pa_nil))) (pe_op op_pow pe_int pe_int))) (pss_cons (ps_set (i := 4) sc_law.nd rfl (Or.inl rfl) (pe_ix ix_list (pe_lst (pa_cons (pv 1) (pa_cons (pe_op op_add (pv 1) pe_int) (pa_cons (pe_callB (PR.c_max2 rfl) (by rfl) T.n_max (by decide +kernel) (pa_cons (pe_op op_sub (pv 1) pe_int) (pa_cons pe_int pa_nil))) (pa_cons (pv 3) pa_nil))))) (pe_op op_mod (pe_call (ok_law_cell_at T) (hr.mono (by first | decide | omega)) rfl T.f_law_cell_at.g T.f_law_cell_at.F.kp T.f_law_cell_at.b .nil pass0 (pa_cons (pv 0) (pa_cons pe_int pa_nil))) pe_int) (fun _ _ => rfl))) (pss_cons (ps_set (i := 5) sc_law.nd rfl (Or.inl rfl) (pe_tup (pa_cons (pv 4) (pa_cons (pe_op op_mod (pe_call (ok_law_cell_at T) (hr.mono (by first | decide | omega)) rfl T.f_law_cell_at.g T.f_law_cell_at.F.kp T.f_law_cell_at.b .nil pass0 (pa_cons (pv 0) (pa_cons pe_int pa_nil))) pe_int) pa_nil)))) (pss_cons (ps_for PassesOwn.never rfl (pi_list (pe_lst (pa_cons (pe_tup (pa_cons (pv 2) (pa_cons (pv 5) pa_nil))) (pa_cons (pe_tup (pa_cons (pv 5) (pa_cons (pv 2) pa_nil))) (pa_cons (pe_tup (pa_cons (pv 2) (pa_cons (pv 2) pa_nil))) pa_nil))))) (pg_tup rfl (pgs_cons (pg_name (i := 6) sc_law.nd rfl (Or.inl rfl)) (pgs_cons (pg_name (i := 7) sc_law.nd rfl (Or.inl rfl)) pgs_nil))) (pss_cons (ps_set (i := 8) sc_law.nd rfl (Or.inl rfl) (pe_call (ok_greater T) (hr.mono (by first | decide | omega)) rfl T.f_greater.g T.f_greater.F.kp T.f_greater.b .nil pass0 (pa_cons (pv 6) (pa_cons (pv 7) pa_nil)))) (pss_one (ps_if (PW.pt (pw_or (pt_not (pt_val (pe_callB call_isi (by rfl) T.n_isinstance (by decide +kernel) (pa_cons (pv 8) (pa_cons (PR.pg_ty (n := "bool") rfl T.n_bool (by decide +kernel)) pa_nil))))) (pw_or1 (pt_cmpR op_ne (pv 8) (pe_cmpR (PR.op_gtT hr.units0) (pv 6) (pv 7) (nomark _)) (nomark _))))) (pss_one (ps_ret pe_bl)) pss_nil)))) (pss_cons (ps_set (i := 9) sc_law.nd rfl (Or.inl rfl) (pe_op op_add pe_int (pe_op op_mod (pe_call (ok_law_cell_at T) (hr.mono (by first | decide | omega)) rfl T.f_law_cell_at.g T.f_law_cell_at.F.kp T.f_law_cell_at.b .nil pass0 (pa_cons (pv 0) (pa_cons pe_int pa_nil))) pe_int))) (pss_cons (ps_set (i := 10) sc_law.nd rfl (Or.inl rfl) (pe_lst pa_nil)) (pss_cons (ps_set (i := 11) sc_law.nd rfl (Or.inl rfl) (pe_call (ok_law_cell_at T) (hr.mono (by first | decide | omega)) rfl T.f_law_cell_at.g T.f_law_cell_at.F.kp T.f_law_cell_at.b .nil pass0 (pa_cons (pv 0) (pa_cons pe_int pa_nil)))) (pss_cons (ps_for PassesOwn.never rfl (pi_range1 rfl T.n_range (pa_cons (pv 9) pa_nil)) (pg_name (i := 12) sc_law.nd rfl (Or.inl rfl)) (pss_cons (ps_expr (pe_bm PySem.F.plainAttrs_list PySem.F.slot_list_append PySem.F.type_list_append mt_append (pv 10) (pa_cons (pe_cmpR op_eq (pe_op op_mod (pv 11) pe_int) pe_int (nomark _)) pa_nil))) (pss_one (ps_set (i := 11) sc_law.nd rfl (Or.inl rfl) (pe_op op_fdiv (pv 11) pe_int))))) (pss_cons (ps_set (i := 13) sc_law.nd rfl (Or.inl rfl) (pe_op op_mod (pe_call (ok_law_cell_at T) (hr.mono (by first | decide | omega)) rfl T.f_law_cell_at.g T.f_law_cell_at.F.kp T.f_law_cell_at.b .nil pass0 (pa_cons (pv 0) (pa_cons pe_int pa_nil))) (pv 9))) (pss_cons (ps_set (i := 8) sc_law.nd rfl (Or.inl rfl) (pe_call (ok_next_on T) (hr.mono (by first | decide | omega)) rfl T.f_next_on.g T.f_next_on.F.kp T.f_next_on.b .nil pass0 (pa_cons (pe_callTy PR.c_listOf (by rfl) T.n_list (by decide +kernel) (pa_cons (pv 10) pa_nil)) (pa_cons (pv 13) pa_nil)))) (pss_cons (ps_set (i := 14) sc_law.nd rfl (Or.inl rfl) (pe_call (ok_law_next T) (hr.mono (by first | decide | omega)) rfl T.f_law_next.g T.f_law_next.F.kp T.f_law_next.b .nil pass0 (pa_cons (pv 10) (pa_cons (pv 13) pa_nil)))) (pss_cons (ps_if (PW.pt (pw_or (pt_cmpR op_ne (pv 8) (pv 14) (nomark _)) (pw_or (pt_cmpR op_ne (pe_cmpR op_isN1 (pv 8) pe_non (nomark _)) (pe_cmpR op_isN1 (pv 14) pe_non (nomark _)) (nomark _)) (pw_or1 (PW.pt (pw_and (pt_cmpR op_notN1 (pv 14) pe_non (nomark _)) (pw_and1 (pt_not (pt_val (pe_call (ok_law_whole T) (hr.mono (by first | decide | omega)) rfl T.f_law_whole.g T.f_law_whole.F.kp T.f_law_whole.b .nil pass0 (pa_cons (pv 8) pa_nil))))))))))) (pss_one (ps_ret pe_bl)) pss_nil) (pss_cons (ps_if (pt_cmpR op_ne (pe_call (ok_limit T) (hr.mono (by first | decide | omega)) rfl T.f_limit.g T.f_limit.F.kp T.f_limit.b .nil pass0 (pa_cons (pv 9) (pa_cons (pv 13) pa_nil))) (pe_op op_add (pe_op op_add (pv 9) pe_int) (pe_op op_mul (pe_op op_mul pe_int (pv 9)) (pv 13))) (nomark _)) (pss_one (ps_ret pe_bl)) pss_nil) (pss_one (ps_ret (pe_cmpR op_eq (pe_call (ok_bound T) (hr.mono (by first | decide | omega)) rfl T.f_bound.g T.f_bound.F.kp T.f_bound.b .nil pass0 (pa_cons (pv 9) pa_nil)) (pe_op op_mul (pe_op op_add (pv 9) pe_int) (pv 9)) (nomark _))))))))))))))))))), ?_⟩
    fail "go"
    refine ⟨sc, ns, 0, rfl, hS, ?_⟩
    fail "go"
    refine ⟨sc, ns, 1, rfl, hS, ?_⟩
    fail "go"
    generalize cellM ns 0 % 10 ^ (12 : Int).toNat = c0
    generalize cellM ns 1 % 12 = m0
    intro p1 hp1
    fail "go"
    refine ⟨sc, ns, 2, rfl, Same.seq (ex_upd hp1) hS, ?_⟩
    fail "go"
    generalize cellM ns 2 % 10 ^ (12 : Int).toNat = f0
    intro l2 hl2
    fail "go"
    refine ⟨sc, ns, 3, rfl, Same.seq (ex_upd hl2) (Same.seq (ex_upd hp1) hS), ?_⟩
    obtain ⟨nd, hnd⟩ : ∃ nd, atI [V.int c0, V.int (c0 + 1), V.int (max (c0 - 1) 0), V.int f0] (cellM ns 3 % 4) = some (.int nd) := by
      rcases (by omega : cellM ns 3 % 4 = 0 ∨ cellM ns 3 % 4 = 1 ∨ cellM ns 3 % 4 = 2 ∨ cellM ns 3 % 4 = 3) with h | h | h | h
      · rw [h]; exact ⟨_, at0⟩
      · rw [h]; exact ⟨_, atk (k := 1) rfl⟩
      · rw [h]; exact ⟨_, atk (k := 2) rfl⟩
      · rw [h]; exact ⟨_, atk (k := 3) rfl⟩
    fail "go"
    refine ⟨sc, ns, 4, rfl, Same.seq (ex_upd hl2) (Same.seq (ex_upd hp1) hS), ?_⟩
    fail "go"
    generalize cellM ns 4 % 12 = m1
    have s2 : Same H (upd (upd H p1 (.tup [V.int c0, V.int m0])) l2 (.lst [V.int c0, V.int (c0 + 1), V.int (max (c0 - 1) 0), V.int f0])) := fun b o e => ex_upd hl2 _ _ (ex_upd hp1 _ _ e)
    have h12 : (upd (upd H p1 (.tup [V.int c0, V.int m0])) l2 (.lst [V.int c0, V.int (c0 + 1), V.int (max (c0 - 1) 0), V.int f0])) p1 = some (.tup [V.int c0, V.int m0]) := ex_upd hl2 _ _ upd_same
    generalize upd (upd H p1 (.tup [V.int c0, V.int m0])) l2 (.lst [V.int c0, V.int (c0 + 1), V.int (max (c0 - 1) 0), V.int f0]) = H2 at s2 h12 ⊢
    intro p3 hp3
    have s3 : Same H (upd H2 p3 (.tup [V.int nd, V.int m1])) := s2.trans (ex_upd hp3)
    have h13 := ex_upd (o := .tup [V.int nd, V.int m1]) hp3 _ _ h12
    have h33 : (upd H2 p3 (.tup [V.int nd, V.int m1])) p3 = _ := upd_same
    generalize upd H2 p3 (.tup [V.int nd, V.int m1]) = H3 at s3 h13 h33 ⊢
    fail "go"
    intro t1 ht1
    fail "go"
    intro t2 ht2
    fail "go"
    intro t3 ht3
    fail "go"
    intro l4 hl4
    have s4 : Same H3 (upd (upd (upd (upd H3 t1 (.tup [V.ref p1, V.ref p3])) t2 (.tup [V.ref p3, V.ref p1])) t3 (.tup [V.ref p1, V.ref p1])) l4 (.lst [V.ref t1, V.ref t2, V.ref t3])) := fun b o e => ex_upd hl4 _ _ (ex_upd ht3 _ _ (ex_upd ht2 _ _ (ex_upd ht1 _ _ e)))
    have g1 : (upd (upd (upd (upd H3 t1 (.tup [V.ref p1, V.ref p3])) t2 (.tup [V.ref p3, V.ref p1])) t3 (.tup [V.ref p1, V.ref p1])) l4 (.lst [V.ref t1, V.ref t2, V.ref t3])) t1 = some (.tup [V.ref p1, V.ref p3]) := ex_upd hl4 _ _ (ex_upd ht3 _ _ (ex_upd ht2 _ _ upd_same))
    have g2 : (upd (upd (upd (upd H3 t1 (.tup [V.ref p1, V.ref p3])) t2 (.tup [V.ref p3, V.ref p1])) t3 (.tup [V.ref p1, V.ref p1])) l4 (.lst [V.ref t1, V.ref t2, V.ref t3])) t2 = some (.tup [V.ref p3, V.ref p1]) := ex_upd hl4 _ _ (ex_upd ht3 _ _ upd_same)
    have g3 : (upd (upd (upd (upd H3 t1 (.tup [V.ref p1, V.ref p3])) t2 (.tup [V.ref p3, V.ref p1])) t3 (.tup [V.ref p1, V.ref p1])) l4 (.lst [V.ref t1, V.ref t2, V.ref t3])) t3 = some (.tup [V.ref p1, V.ref p1]) := ex_upd hl4 _ _ upd_same
    have g4 : (upd (upd (upd (upd H3 t1 (.tup [V.ref p1, V.ref p3])) t2 (.tup [V.ref p3, V.ref p1])) t3 (.tup [V.ref p1, V.ref p1])) l4 (.lst [V.ref t1, V.ref t2, V.ref t3])) l4 = _ := upd_same
    generalize (upd (upd (upd (upd H3 t1 (.tup [V.ref p1, V.ref p3])) t2 (.tup [V.ref p3, V.ref p1])) t3 (.tup [V.ref p1, V.ref p1])) l4 (.lst [V.ref t1, V.ref t2, V.ref t3])) = H4 at s4 g1 g2 g3 g4 ⊢
    have a1 := s4 _ _ h13
    have a3 := s4 _ _ h33
    have sA := s3.trans s4
    refine kForL_of (SqL.of g4) (fun i σ H' => H' = H4 ∧ ∃ v6 v7 v8, σ = [some (.ref sc), some (.int c0), some (.ref p1), some (.int f0), some (.int nd), some (.ref p3), v6, v7, v8, none, none, none, none, none, none]) ⟨rfl, _, _, _, rfl⟩ (fun i σ H' _ pp => by rw [pp.1]; exact SqL.of g4) (fun i x σ H' hx pp => ?_) (fun σ H' pp => ?_)
    · obtain ⟨rfl, v6, v7, v8, rfl⟩ := pp
      obtain ⟨t, q1, q2, u1, u2, rfl, ht, hq1, hq2⟩ : ∃ (t q1 q2 : Addr) (u1 u2 : Int × Int), x = .ref t ∧ H' t = some (.tup [V.ref q1, V.ref q2]) ∧ H' q1 = some (tup2 u1) ∧ H' q2 = some (tup2 u2) := by
        have hm := List.mem_of_getElem? hx
        simp only [List.mem_cons, List.not_mem_nil, or_false] at hm
        rcases hm with rfl | rfl | rfl
        · exact ⟨t1, p1, p3, (c0, m0), (nd, m1), rfl, g1, a1, a3⟩
        · exact ⟨t2, p3, p1, (nd, m1), (c0, m0), rfl, g2, a3, a1⟩
        · exact ⟨t3, p1, p1, (c0, m0), (c0, m0), rfl, g3, a1, a1⟩
      refine g_tup2 (SqT.of ht) ?_
      fail "go"
      refine ⟨q1, q2, u1, u2, rfl, SqT.of hq1, SqT.of hq2, ?_⟩
      fail "go"
      rw [decide_eq_true (rfl : V.bl (gtr u1 u2) = V.bl (gtr u1 u2))]
      fail "go"
      exact ⟨rfl, _, _, _, rfl⟩
    · obtain ⟨rfl, v6, v7, v8, rfl⟩ := pp
      fail "go"
      refine ⟨sc, ns, 5, rfl, sA.seq hS, ?_⟩
      fail "go"
      obtain ⟨many, hmany⟩ : ∃ s : Nat, 1 + cellM ns 5 % 12 = (s : Int) := ⟨(1 + cellM ns 5 % 12).toNat, by omega⟩
      have hm1 : 1 ≤ many := by omega
      have hm2 : many ≤ 12 := by omega
      rw [hmany]
      intro on hon
      fail "go"
      refine ⟨sc, ns, 6, rfl, Same.seq (ex_upd hon) (sA.seq hS), ?_⟩
      fail "go"
      refine kForR1_of (n := many) rfl (by omega) (fun i σ Hx => Same H Hx ∧ Hx on = some (.lst ((bitsL (cellM ns 6) i).map V.bl)) ∧ ∃ v12, σ = [some (.ref sc), some (.int c0), some (.ref p1), some (.int f0), some (.int nd), some (.ref p3), v6, v7, v8, some (.int (many : Int)), some (.ref on), some (.int (bitsR (cellM ns 6) i)), v12, none, none])
        ⟨sA.trans (ex_upd hon), upd_same, _, rfl⟩ (fun i σ Hx hi pp => ?_) (fun σ Hx pp => ?_)
      · obtain ⟨sx, hx, v12, rfl⟩ := pp
        have hz : ((bitsL (cellM ns 6) i).map V.bl).length < 100000 := by rw [List.length_map, bitsL_len]; omega
        fail "go"
        have hon0 : H on = none := sA.free hon
        refine ⟨fun c o e => ?_, ?_, _, rfl⟩
        · rw [upd_ne (ne_of_none e hon0)]; exact sx _ _ e
        · rw [upd_same]
          have e : decide (V.int (bitsR (cellM ns 6) i % 2) = V.int 1) = decide (bitsR (cellM ns 6) i % 2 = 1) := by simp
          rw [e]
          show some (HO.lst (List.map V.bl (bitsL (cellM ns 6) i) ++ [V.bl (decide (bitsR (cellM ns 6) i % 2 = 1))])) = some (HO.lst ((bitsL (cellM ns 6) i ++ [decide (bitsR (cellM ns 6) i % 2 = 1)]).map V.bl))
          rw [List.map_append] <;> rfl
      · obtain ⟨sx, hx, v12, rfl⟩ := pp
        have hol := bitsL_len (cellM ns 6) many
        generalize bitsL (cellM ns 6) many = onl at hx hol
        fail "go"
        refine ⟨sc, ns, 7, rfl, sx.seq hS, ?_⟩
        fail "go"
        obtain ⟨at', hat⟩ : ∃ s : Nat, cellM ns 7 % (many : Int) = (s : Int) := ⟨(cellM ns 7 % (many : Int)).toNat, by have := Int.emod_nonneg (cellM ns 7) (show (many : Int) ≠ 0 by omega); omega⟩
        have hat2 : at' < many := by have := Int.emod_lt_of_pos (cellM ns 7) (show (0 : Int) < (many : Int) by omega); omega
        rw [hat]
        intro l6 hl6
        fail "go"
        refine ⟨l6, onl, at', rfl, upd_same, by omega, by omega, by omega, ?_⟩
        have hx6 := ex_upd (o := .lst (onl.map V.bl)) hl6 _ _ hx
        fail "go"
        refine ⟨on, onl, at', rfl, hx6, by omega, by omega, by omega, ?_⟩
        have z1 : (0 : Int) ≤ many := by omega
        have z2 : (many : Int) ≤ 1000 := by omega
        have bnd : boundM (many : Int) = ((many : Int) + 10) * (many : Int) := by
          unfold boundM
          rw [show (many : Int) + 7 + 3 = (many : Int) + 10 by omega]
        cases hn : nextM onl at' with
        | none =>
          fail "go"
          refine ifND rfl ?_
          fail "go"
          refine ifND rfl ?_
          fail "go"
          refine iteNT ?_
          fail "go"
          refine ⟨many, at', rfl, z1, z2, ?_⟩
          fail "go"
          refine ifND rfl ?_
          fail "go"
          refine ⟨many, rfl, z1, z2, ?_⟩
          fail "go"
          rw [decide_eq_true (show V.int (boundM (many : Int)) = V.int (((many : Int) + 10) * (many : Int)) by rw [bnd])]
          exact k _
        | some nx =>
          fail "go"
          refine ifND rfl ?_
          fail "go"
          refine ifND rfl ?_
          fail "go"
          refine ifNDn (fun z => by cases z) ?_
          fail "go"
          refine ⟨_, rfl, ?_⟩
          fail "go"
          refine ⟨many, at', rfl, z1, z2, ?_⟩
          fail "go"
          refine ifND rfl ?_
          fail "go"
          refine ⟨many, rfl, z1, z2, ?_⟩
          fail "go"
          rw [decide_eq_true (show V.int (boundM (many : Int)) = V.int (((many : Int) + 10) * (many : Int)) by rw [bnd])]
          exact k _
end
end My
namespace My
open PySem L2
theorem all_mk {l : PySem.W.OpenLaw} {w : World} {K : PySem.W.Frag} {h : Heap} {mg : Str → Option Value} {fa fx0 fx1 fx2 fx3 fx4 fx5 fx6 fx7 : Addr} (X : K.In h) (G : h.Ns mainGlobals mg) (hfa : mg "law" = some (.ref fa))
    {odx0 anx0 : Option Addr} {slx0 : Array (Option Value)} {ocx0 kVx0 dcx0 pmx0 cdx0 ctx0 : Value}
    {odx1 anx1 : Option Addr} {slx1 : Array (Option Value)} {ocx1 kVx1 dcx1 pmx1 cdx1 ctx1 : Value}
    {odx2 anx2 : Option Addr} {slx2 : Array (Option Value)} {ocx2 kVx2 dcx2 pmx2 cdx2 ctx2 : Value}
    {odx3 anx3 : Option Addr} {slx3 : Array (Option Value)} {ocx3 kVx3 dcx3 pmx3 cdx3 ctx3 : Value}
    {odx4 anx4 : Option Addr} {slx4 : Array (Option Value)} {ocx4 kVx4 dcx4 pmx4 cdx4 ctx4 : Value}
    {odx5 anx5 : Option Addr} {slx5 : Array (Option Value)} {ocx5 kVx5 dcx5 pmx5 cdx5 ctx5 : Value}
    {odx6 anx6 : Option Addr} {slx6 : Array (Option Value)} {ocx6 kVx6 dcx6 pmx6 cdx6 ctx6 : Value}
    {odx7 anx7 : Option Addr} {slx7 : Array (Option Value)} {ocx7 kVx7 dcx7 pmx7 cdx7 ctx7 : Value}
    {t_MOST_RANK : Tok}
    (ax0 : PySem.W.nsIn K mainGlobals "greater" = some (some (.ref fx0)))
    (lx0 : K.lookup fx0 = some ⟨ocx0, odx0, .func (PySem.W.fnOf "greater" "greater" (defArgs s_greater) (defBody s_greater) (defScope s_greater) .none kVx0 dcx0 pmx0 anx0 cdx0 ctx0), slx0⟩)
    (cx0 : PySem.W.codeIn K cdx0 "greater" = true)
    (kx0 : PySem.W.keepIn K (.ref fx0) = true)
    (ax1 : PySem.W.nsIn K mainGlobals "next_on" = some (some (.ref fx1)))
    (lx1 : K.lookup fx1 = some ⟨ocx1, odx1, .func (PySem.W.fnOf "next_on" "next_on" (defArgs s_next_on) (defBody s_next_on) (defScope s_next_on) .none kVx1 dcx1 pmx1 anx1 cdx1 ctx1), slx1⟩)
    (cx1 : PySem.W.codeIn K cdx1 "next_on" = true)
    (kx1 : PySem.W.keepIn K (.ref fx1) = true)
    (ax2 : PySem.W.nsIn K mainGlobals "limit" = some (some (.ref fx2)))
    (lx2 : K.lookup fx2 = some ⟨ocx2, odx2, .func (PySem.W.fnOf "limit" "limit" (defArgs s_limit) (defBody s_limit) (defScope s_limit) .none kVx2 dcx2 pmx2 anx2 cdx2 ctx2), slx2⟩)
    (cx2 : PySem.W.codeIn K cdx2 "limit" = true)
    (kx2 : PySem.W.keepIn K (.ref fx2) = true)
    (ax3 : PySem.W.nsIn K mainGlobals "bound" = some (some (.ref fx3)))
    (lx3 : K.lookup fx3 = some ⟨ocx3, odx3, .func (PySem.W.fnOf "bound" "bound" (defArgs s_bound) (defBody s_bound) (defScope s_bound) .none kVx3 dcx3 pmx3 anx3 cdx3 ctx3), slx3⟩)
    (cx3 : PySem.W.codeIn K cdx3 "bound" = true)
    (kx3 : PySem.W.keepIn K (.ref fx3) = true)
    (ax4 : PySem.W.nsIn K mainGlobals "_law_whole" = some (some (.ref fx4)))
    (lx4 : K.lookup fx4 = some ⟨ocx4, odx4, .func (PySem.W.fnOf "_law_whole" "_law_whole" (defArgs s_law_whole) (defBody s_law_whole) (defScope s_law_whole) .none kVx4 dcx4 pmx4 anx4 cdx4 ctx4), slx4⟩)
    (cx4 : PySem.W.codeIn K cdx4 "_law_whole" = true)
    (kx4 : PySem.W.keepIn K (.ref fx4) = true)
    (ax5 : PySem.W.nsIn K mainGlobals "_law_cell_at" = some (some (.ref fx5)))
    (lx5 : K.lookup fx5 = some ⟨ocx5, odx5, .func (PySem.W.fnOf "_law_cell_at" "_law_cell_at" (defArgs s_law_cell_at) (defBody s_law_cell_at) (defScope s_law_cell_at) .none kVx5 dcx5 pmx5 anx5 cdx5 ctx5), slx5⟩)
    (cx5 : PySem.W.codeIn K cdx5 "_law_cell_at" = true)
    (kx5 : PySem.W.keepIn K (.ref fx5) = true)
    (ax6 : PySem.W.nsIn K mainGlobals "_law_next" = some (some (.ref fx6)))
    (lx6 : K.lookup fx6 = some ⟨ocx6, odx6, .func (PySem.W.fnOf "_law_next" "_law_next" (defArgs s_law_next) (defBody s_law_next) (defScope s_law_next) .none kVx6 dcx6 pmx6 anx6 cdx6 ctx6), slx6⟩)
    (cx6 : PySem.W.codeIn K cdx6 "_law_next" = true)
    (kx6 : PySem.W.keepIn K (.ref fx6) = true)
    (ax7 : PySem.W.nsIn K mainGlobals "law" = some (some (.ref fx7)))
    (lx7 : K.lookup fx7 = some ⟨ocx7, odx7, .func (PySem.W.fnOf "law" "law" (defArgs s_law) (defBody s_law) (defScope s_law) .none kVx7 dcx7 pmx7 anx7 cdx7 ctx7), slx7⟩)
    (cx7 : PySem.W.codeIn K cdx7 "law" = true)
    (kx7 : PySem.W.keepIn K (.ref fx7) = true)
    (n_len : PySem.W.nsIn K mainGlobals "len" = some none)
    (n_list : PySem.W.nsIn K mainGlobals "list" = some none)
    (n_isinstance : PySem.W.nsIn K mainGlobals "isinstance" = some none)
    (n_int : PySem.W.nsIn K mainGlobals "int" = some none)
    (n_bool : PySem.W.nsIn K mainGlobals "bool" = some none)
    (n_range : PySem.W.nsIn K mainGlobals "range" = some none)
    (n_max : PySem.W.nsIn K mainGlobals "max" = some none)
    (c_MOST_RANK : PySem.W.nsIn K mainGlobals "MOST_RANK" = some (some (.int 7 t_MOST_RANK)))
    : ∃ fd : FuncData, (∀ (s : Shared) (v : Value), BindsTo s fd ⟨[v], []⟩ [("_law_script", v)]) ∧ ∀ base : Heap, K.In base → base.Ns mainGlobals mg → FnOk l.prog w K mg base CX0 3 fa fd ["_law_script"] (spLaw K) := by
  have e := hfa.symm.trans (PySem.W.mg_of X G ax7)
  cases e
  let T : Tx K mg := ⟨⟨fx0, _, (fun_mk (st := s_greater) lx0 cx0 kx0), ((fun_mk (st := s_greater) lx0 cx0 kx0).binds (ps := ["one", "other"]) fun _ _ _ _ _ _ us hl => match us, hl with | [_, _], _ => rfl), PySem.W.mg_of X G ax0⟩,
    ⟨fx1, _, (fun_mk (st := s_next_on) lx1 cx1 kx1), ((fun_mk (st := s_next_on) lx1 cx1 kx1).binds (ps := ["on", "at"]) fun _ _ _ _ _ _ us hl => match us, hl with | [_, _], _ => rfl), PySem.W.mg_of X G ax1⟩,
    ⟨fx2, _, (fun_mk (st := s_limit) lx2 cx2 kx2), ((fun_mk (st := s_limit) lx2 cx2 kx2).binds (ps := ["many", "station"]) fun _ _ _ _ _ _ us hl => match us, hl with | [_, _], _ => rfl), PySem.W.mg_of X G ax2⟩,
    ⟨fx3, _, (fun_mk (st := s_bound) lx3 cx3 kx3), ((fun_mk (st := s_bound) lx3 cx3 kx3).binds (ps := ["many"]) fun _ _ _ _ _ _ us hl => match us, hl with | [_], _ => rfl), PySem.W.mg_of X G ax3⟩,
    ⟨fx4, _, (fun_mk (st := s_law_whole) lx4 cx4 kx4), ((fun_mk (st := s_law_whole) lx4 cx4 kx4).binds (ps := ["_law_found"]) fun _ _ _ _ _ _ us hl => match us, hl with | [_], _ => rfl), PySem.W.mg_of X G ax4⟩,
    ⟨fx5, _, (fun_mk (st := s_law_cell_at) lx5 cx5 kx5), ((fun_mk (st := s_law_cell_at) lx5 cx5 kx5).binds (ps := ["_law_script", "_law_k"]) fun _ _ _ _ _ _ us hl => match us, hl with | [_, _], _ => rfl), PySem.W.mg_of X G ax5⟩,
    ⟨fx6, _, (fun_mk (st := s_law_next) lx6 cx6 kx6), ((fun_mk (st := s_law_next) lx6 cx6 kx6).binds (ps := ["_law_on", "_law_at"]) fun _ _ _ _ _ _ us hl => match us, hl with | [_, _], _ => rfl), PySem.W.mg_of X G ax6⟩,
    ⟨_, _, (fun_mk (st := s_law) lx7 cx7 kx7), ((fun_mk (st := s_law) lx7 cx7 kx7).binds (ps := ["_law_script"]) fun _ _ _ _ _ _ us hl => match us, hl with | [_], _ => rfl), PySem.W.mg_of X G ax7⟩,
    (PySem.W.mg_none_of X G n_len),
    (PySem.W.mg_none_of X G n_list),
    (PySem.W.mg_none_of X G n_isinstance),
    (PySem.W.mg_none_of X G n_int),
    (PySem.W.mg_none_of X G n_bool),
    (PySem.W.mg_none_of X G n_range),
    (PySem.W.mg_none_of X G n_max),
    ⟨_, PySem.W.mg_of X G c_MOST_RANK⟩⟩
  exact ⟨_, fun s v => .of_eq rfl, fun base _ _ => (ok_law T : FnOk l.prog w K mg base CX0 3 T.f_law.f T.f_law.fd ["_law_script"] (spLaw K))⟩
theorem walk {l : PySem.W.OpenLaw} {q : Program} {loose : List Str} {XP : (Str → Option Value) → Heap → Prop} {YP : World → Heap → Prop} {d : DefRec} {K : Params → PySem.W.Frag} (hn : l.most = some 63) (hdf : d.params.defaults = [])
    (hY : ∀ (w : World) (h : Heap), YP w h → (K w.params).In h)
    (F : ∀ (w : World) (mg : Str → Option Value) (fa : Addr) (h : Heap), (K w.params).In h → h.Ns mainGlobals mg → mg d.name = some (.ref fa) →
      ∃ fd : FuncData, (∀ (s : Shared) (u : Value), BindsTo s fd ⟨[u], []⟩ [("_law_script", u)]) ∧ ∀ base : Heap, (K w.params).In base → base.Ns mainGlobals mg → FnOk l.prog w (K w.params) mg base CX0 3 fa fd ["_law_script"] (spLaw (K w.params))) :
    PySem.W.WalkO q loose XP YP l.row.toRowW d [] (fun f vs => PySem.call f vs) :=
  L2.walk_of (n := 63) (k := 3) (x := "_law_script") (CX := fun w => CX0) (sp := fun w => spLaw (K w.params)) hn (by decide) hdf ⟨rfl, by decide, by decide⟩ hY F (fun _ _ a ns hl _ hS => ⟨a, ns, rfl, hS, hl, fun _ => rfl⟩) fun _ _ _ _ _ z => z
end My
open PySem PySem.W PyProof.Rows
set_option maxRecDepth 100000 in
set_option maxHeartbeats 0 in
theorem PySem.Challenge.cw_passring_k01_rules_holds : PySem.Challenge.rw_passring_k01_rules.Holds := by
  w_on; o_law; k_head; (case hw => w_witness2)
  k_fill
  refine My.walk (l := PySem.Challenge.rw_passring_k01_rules) rfl rfl (fun w h Y => PySem.W.kIn_of Y) ?F
  case F =>
    intro w mg fa h KX G hmg
    refine' My.all_mk KX G hmg ?ax0 ?lx0 ?cx0 ?kx0 ?ax1 ?lx1 ?cx1 ?kx1 ?ax2 ?lx2 ?cx2 ?kx2 ?ax3 ?lx3 ?cx3 ?kx3 ?ax4 ?lx4 ?cx4 ?kx4 ?ax5 ?lx5 ?cx5 ?kx5 ?ax6 ?lx6 ?cx6 ?kx6 ?ax7 ?lx7 ?cx7 ?kx7 ?n_len ?n_list ?n_isinstance ?n_int ?n_bool ?n_range ?n_max ?c_MOST_RANK
    (case ax0 => k_is)
    (case lx0 => k_is)
    (case cx0 => k_is)
    (case kx0 => k_is)
    (case ax1 => k_is)
    (case lx1 => k_is)
    (case cx1 => k_is)
    (case kx1 => k_is)
    (case ax2 => k_is)
    (case lx2 => k_is)
    (case cx2 => k_is)
    (case kx2 => k_is)
    (case ax3 => k_is)
    (case lx3 => k_is)
    (case cx3 => k_is)
    (case kx3 => k_is)
    (case ax4 => k_is)
    (case lx4 => k_is)
    (case cx4 => k_is)
    (case kx4 => k_is)
    (case ax5 => k_is)
    (case lx5 => k_is)
    (case cx5 => k_is)
    (case kx5 => k_is)
    (case ax6 => k_is)
    (case lx6 => k_is)
    (case cx6 => k_is)
    (case kx6 => k_is)
    (case ax7 => k_is)
    (case lx7 => k_is)
    (case cx7 => k_is)
    (case kx7 => k_is)
    (case n_len => k_is)
    (case n_list => k_is)
    (case n_isinstance => k_is)
    (case n_int => k_is)
    (case n_bool => k_is)
    (case n_range => k_is)
    (case n_max => k_is)
    (case c_MOST_RANK => k_is)
#print axioms PySem.Challenge.cw_passring_k01_rules_holds
