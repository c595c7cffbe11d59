import PyProof.Rows.All
import Wide.All
import OpenK.AllK
import Wide.FinOn
import HandS.ForMost
import HandS.Exc
import HandS.TryOnly
import HandS.ExcOwn
import HandS.WordsExc
import HandS.ExcInit
import HandS.ExcField
import HandS.IsInst
import HandS.SortRule
import HandS.SortInts
import HandS.SetFor
import HandS.Rev
import HandS.Walk
import HandS.ExcCtx
import HandS.HotCalls
import HandS.ExcInitHot
import HandS.TupAny
import HandS.Conv
import PySem.Challenge.RW_lonehost_k74_mailboxes_that_fill_up
set_option Elab.async false
set_option linter.all false
set_option maxRecDepth 100000
set_option maxHeartbeats 4000000
namespace Lh
open PySem L2

/-! ### readings by name -/
abbrev rAddI : R2 := rI0 fun i j => .int (i + j)
abbrev rSubI : R2 := rI0 fun i j => .int (i - j)
abbrev rMulI : R2 := rI CMul fun i j => .int (i * j)
abbrev rFdivI : R2 := rI CDiv fun i j => .int (i / j)
abbrev rModI : R2 := rI (fun _ j => 0 < j) fun i j => .int (i % j)
abbrev rPowI : R2 := rI CPow fun i j => .int (i ^ j.toNat)
abbrev rNegI : V → Hp → VK → Prop := rU fun i => .int (-i)
abbrev rLtI : R2 := rI0 fun i j => .bl (decide (i < j))
abbrev rLeI : R2 := rI0 fun i j => .bl (decide (i ≤ j))
abbrev rGtI : R2 := rI0 fun i j => .bl (decide (j < i))
abbrev rGeI : R2 := rI0 fun i j => .bl (decide (j ≤ i))
def rIsNon : R2 := fun x y H Q => y = .non ∧ Q (.bl (decide (x = .non))) H
def rNotNon : R2 := fun x y H Q => y = .non ∧ Q (.bl (!decide (x = .non))) H
def rLenS (K : PySem.W.Frag) : List V → Hp → VK → Prop := fun xs H Q => ∃ p ys, xs = [.ref p] ∧ (SqL K H p ys ∨ SqT K H p ys) ∧ Q (.int ys.length) H
def rLenDK : List V → Hp → VK → Prop := fun xs H Q => ∃ a kvs, xs = [V.ref a] ∧ H a = some (.dK kvs) ∧ Q (.int kvs.length) H
def rInt1 : List V → Hp → VK → Prop := fun xs H Q => (∃ i, xs = [.int i] ∧ Q (.int i) H) ∨ ∃ k, xs = [.bl k] ∧ Q (.int (if k then 1 else 0)) H
def rAbs : List V → Hp → VK → Prop := fun xs H Q => ∃ i, xs = [.int i] ∧ Q (.int (if i < 0 then -i else i)) H
def rMax2 : List V → Hp → VK → Prop := fun xs H Q => ∃ i j, xs = [.int i, .int j] ∧ Q (.int (if j > i then j else i)) H
def rMin2 : List V → Hp → VK → Prop := fun xs H Q => ∃ i j, xs = [.int i, .int j] ∧ Q (.int (if j < i then j else i)) H
def rListOf (K : PySem.W.Frag) : List V → Hp → VK → Prop := fun xs H Q => ∃ p ys, xs = [.ref p] ∧ (SqL K H p ys ∨ SqT K H p ys) ∧ ∀ l, H l = none → Q (.ref l) (upd H l (.lst ys))
def rTupOf (K : PySem.W.Frag) : List V → Hp → VK → Prop := fun xs H Q => ∃ p ys, xs = [.ref p] ∧ ((SqL K H p ys ∧ ∀ l, H l = none → Q (.ref l) (upd H l (.tup ys))) ∨ (SqT K H p ys ∧ Q (.ref p) H))
section
variable {X : Cx}
theorem o_isN : OpR X (compareOp .Is) rIsNon := op_isN
theorem o_notN : OpR X (compareOp .IsNot) rNotNon := op_notN
theorem c_len : CallR X (.builtin "len") (rLenS X.K) := call_len_seq
theorem c_lenD : CallR X (.builtin "len") rLenDK := call_lenD
theorem c_int : CallR X (.type "int") rInt1 := call_int1
theorem c_abs : CallR X (.builtin "abs") rAbs := call_abs
theorem c_max2 (hc : X.calm = true) : CallR X (.builtin "max") rMax2 := call_max2 hc
theorem c_min2 (hc : X.calm = true) : CallR X (.builtin "min") rMin2 := call_min2 hc
theorem c_listOf : CallR X (.type "list") (rListOf X.K) := call_list_of
theorem c_tupOf : CallR X (.type "tuple") (rTupOf X.K) := call_tuple_of
end

/-! ### a method that may raise, what is raised wished for at the caller's slots -/
section
variable {X : Cx} {CX : CXT} {k : Nat} {f C : Addr} {fd : FuncData} {ps : List Str} {sp : Sp} {E : St → XK} {m : Str} {pos apos : Pos} {e o : Expr} {es : List Expr} {ta : TE} {t : TA}
def tMethE (C : Addr) (m : Str) (sp : Sp) (E : St → XK) (ta : TE) (t : TA) : TE := fun σ H Q => ta σ H fun x H1 => ∃ a dx fs, x = .ref a ∧ H1 a = some (.ins C dx fs) ∧ fs.lookup m = none ∧ t σ H1 fun vs H2 => sp (x :: vs) H2 Q (E σ)
theorem pe_methE {pl : Sem Bool} (he : PE X o ta) (c : Cls X.K C) (hm : Meth X.K C m f) (F : FnOk X.prog X.w X.K X.mg X.base CX k f fd ps sp) (hr : Room k X.A) (hb : Binds X.K fd ps []) (hx : ∀ σ, PassesAt CX X σ (E σ)) (ha : PA X (e :: es) t)
    (hst : starEach (e :: es) X.env = (false, eval e X.env) :: starEach es X.env := by rfl) (hpl : (backTo pos (starEach es X.env)).any (·.1) = false := by rfl)
    (ht : eval (.Call (.Attribute o m apos) (e :: es) [] pos) X.env = (do
      let ov ← eval o X.env
      standAt apos.atName
      let (f, first) ← holding [ov] (getMethod ov m pl)
      callWith pos f first (backTo pos (starEach (e :: es) X.env)) (backToKw pos (keywordEach [] X.env))) := by rfl) :
    PE X (.Call (.Attribute o m apos) (e :: es) [] pos) (tMethE C m sp E ta t) := by
  refine ⟨fun pins s σ H Q I h => ?_⟩
  refine PySem.W.methodCall_KW (pl := pl) (thn (he.run pins s σ H _ I h) fun u s1 ⟨x, H1, I1, rx, a, dx, fs, ex, ea, l, q⟩ => ?_) ht
  subst ex
  obtain rfl : u = Value.ref a := rx
  refine getmeth_ok I1 ea c hm l ?_
  refine PySem.W.callWith_K (first := [.ref a]) (h₀ := X.base) I.ok.mod.kin hm.kp (thn (ha.run pos pins s1 σ H1 _ I1 q) fun us s2 ⟨vs, H2, I2, r, q2⟩ => ⟨I2.kIn, ?_⟩) hst hpl
  exact run_fnS (us := .ref a :: us) (vs := .ref a :: vs) F hr hb (hx σ) I2 (.cons rfl r) q2
end

/-! ### promises by the number of arguments -/
def sp1 (r : V → Hp → VK → XK → Prop) : Sp := fun vs H Q E => ∃ x, vs = [x] ∧ r x H Q E
def sp2 (r : V → V → Hp → VK → XK → Prop) : Sp := fun vs H Q E => ∃ x y, vs = [x, y] ∧ r x y H Q E
def sp3 (r : V → V → V → Hp → VK → XK → Prop) : Sp := fun vs H Q E => ∃ x y z, vs = [x, y, z] ∧ r x y z H Q E
def sp4 (r : V → V → V → V → Hp → VK → XK → Prop) : Sp := fun vs H Q E => ∃ x y z u, vs = [x, y, z, u] ∧ r x y z u H Q E
def sp5 (r : V → V → V → V → V → Hp → VK → XK → Prop) : Sp := fun vs H Q E => ∃ x y z u v, vs = [x, y, z, u, v] ∧ r x y z u v H Q E
theorem sp1_i {r : V → Hp → VK → XK → Prop} {x : V} {H : Hp} {Q : VK} {E : XK} (h : r x H Q E) : sp1 r [x] H Q E := ⟨x, rfl, h⟩
theorem sp2_i {r : V → V → Hp → VK → XK → Prop} {x y : V} {H : Hp} {Q : VK} {E : XK} (h : r x y H Q E) : sp2 r [x, y] H Q E := ⟨x, y, rfl, h⟩
theorem sp3_i {r : V → V → V → Hp → VK → XK → Prop} {x y z : V} {H : Hp} {Q : VK} {E : XK} (h : r x y z H Q E) : sp3 r [x, y, z] H Q E := ⟨x, y, z, rfl, h⟩
theorem sp4_i {r : V → V → V → V → Hp → VK → XK → Prop} {x y z u : V} {H : Hp} {Q : VK} {E : XK} (h : r x y z u H Q E) : sp4 r [x, y, z, u] H Q E := ⟨x, y, z, u, rfl, h⟩
theorem sp5_i {r : V → V → V → V → V → Hp → VK → XK → Prop} {x y z u v : V} {H : Hp} {Q : VK} {E : XK} (h : r x y z u v H Q E) : sp5 r [x, y, z, u, v] H Q E := ⟨x, y, z, u, v, rfl, h⟩

/-! ### steps through a reading -/
section
variable {K : PySem.W.Frag} {C p dx : Addr} {fs : List (Str × V)} {f m : Str} {σ : St} {H : Hp} {Q : VK} {D : Ends} {te ta tb td ty tv : TE} {t u : TS} {c d : TT} {i : Nat} {v x y : V} {r : R2} {tas : TA} {E : XK}
/-- an if -/
def kIf (b : Bool) (A B : Prop) : Prop := if b = true then A else B
theorem kif_t {A B : Prop} (h : A) : kIf true A B := by unfold kIf; rw [if_pos rfl]; exact h
theorem kif_f {A B : Prop} (h : B) : kIf false A B := by unfold kIf; rw [if_neg Bool.false_ne_true]; exact h
theorem kif {b : Bool} {A B : Prop} (h1 : b = true → A) (h2 : b = false → B) : kIf b A B := by
  cases b with
  | true => exact kif_t (h1 rfl)
  | false => exact kif_f (h2 rfl)
theorem kif_of {b : Bool} {A B : Prop} (e : b = true) (h : A) : kIf b A B := by subst e; exact kif_t h
theorem kif_no {b : Bool} {A B : Prop} (e : b = false) (h : B) : kIf b A B := by subst e; exact kif_f h
/-- an if over a proposition that is decided -/
theorem kif_d {P : Prop} [Decidable P] {A B : Prop} (h1 : P → A) (h2 : ¬ P → B) : kIf (decide P) A B :=
  kif (fun e => h1 (of_decide_eq_true e)) fun e => h2 (of_decide_eq_false e)
theorem kif_n {P : Prop} [Decidable P] {A B : Prop} (h1 : ¬ P → A) (h2 : P → B) : kIf (!decide P) A B := by
  by_cases hp : P
  · rw [decide_eq_true hp]; exact kif_f (h2 hp)
  · rw [decide_eq_false hp]; exact kif_t (h1 hp)
def kBl (x : V) (H : Hp) (Q : Bool → Hp → Prop) : Prop := ∃ k, x = .bl k ∧ Q k H
def kFld (K : PySem.W.Frag) (f : Str) (x : V) (H1 : Hp) (Q : VK) : Prop := ∃ a C dx fs v, x = .ref a ∧ H1 a = some (.ins C dx fs) ∧ Cls K C ∧ NoAttr K C f ∧ fs.lookup f = some v ∧ Q v H1
def kSFld (K : PySem.W.Frag) (f : Str) (y x : V) (H2 : Hp) (Q : Hp → Prop) : Prop := ∃ a C dx fs, x = .ref a ∧ H2 a = some (.ins C dx fs) ∧ Cls K C ∧ NoAttr K C f ∧ fs.length < 1000 ∧ Q (upd H2 a (.ins C dx (putF f y fs)))
def kDGet (x y : V) (H2 : Hp) (Q : VK) : Prop := ∃ a v, x = .ref a ∧ DGet H2 a y (some v) ∧ Q v H2
def kDIn (neg : Bool) (x y : V) (H2 : Hp) (Q : VK) : Prop := ∃ a o, x = .ref a ∧ DGet H2 a y o ∧ Q (.bl (if neg then !o.isSome else o.isSome)) H2
def kDPut (v x y : V) (H3 : Hp) (Q : Hp → Prop) : Prop := ∃ a H4, x = .ref a ∧ DPut H3 a y v H4 ∧ Q H4
def kTup (xs : List V) (H1 : Hp) (Q : VK) : Prop := xs.length ≤ sizeLine ∧ ∀ p, H1 p = none → Q (.ref p) (upd H1 p (.tup xs))
def kLst (xs : List V) (H1 : Hp) (Q : VK) : Prop := xs.length ≤ sizeLine ∧ ∀ p, H1 p = none → Q (.ref p) (upd H1 p (.lst xs))
def kMeth (C : Addr) (m : Str) (sp : Sp) (E : XK) (t : TA) (σ : St) (x : V) (H1 : Hp) (Q : VK) : Prop := ∃ a dx fs, x = .ref a ∧ H1 a = some (.ins C dx fs) ∧ fs.lookup m = none ∧ t σ H1 fun vs H2 => sp (x :: (vs ++ [])) H2 Q E
def kMethE (C : Addr) (m : Str) (sp : Sp) (E : St → XK) (t : TA) (σ : St) (x : V) (H1 : Hp) (Q : VK) : Prop := ∃ a dx fs, x = .ref a ∧ H1 a = some (.ins C dx fs) ∧ fs.lookup m = none ∧ t σ H1 fun vs H2 => sp (x :: vs) H2 Q (E σ)
def kBM (K : PySem.W.Frag) (T : String) (r : V → List V → Hp → VK → Prop) (t : TA) (σ : St) (x : V) (H1 : Hp) (Q : VK) : Prop := tyV K T x H1 ∧ t σ H1 fun xs H2 => r x xs H2 Q

theorem r_var (h : σ[i]? = some (some v)) (q : Q v H) : tVar i σ H Q := ⟨v, h, q⟩
theorem r_c (q : Q v H) : tC v σ H Q := q
theorem r_op (h : ta σ H fun x H1 => tb σ H1 fun y H2 => r x y H2 Q) : tOp r ta tb σ H Q := h
theorem r_un {r : V → Hp → VK → Prop} (h : ta σ H fun x H1 => r x H1 Q) : tUn r ta σ H Q := h
theorem r_fld (h : ta σ H fun x H1 => kFld K f x H1 Q) : tFld K ta f σ H Q := h
theorem r_cb {r : List V → Hp → VK → Prop} (h : tas σ H fun vs H1 => r vs H1 Q) : tCB r tas σ H Q := h
theorem r_tup (h : tas σ H fun xs H1 => kTup xs H1 Q) : tTup tas σ H Q := h
theorem r_lst (h : tas σ H fun xs H1 => kLst xs H1 Q) : tLst tas σ H Q := h
theorem r_nil {Q : List V → Hp → Prop} (q : Q [] H) : tNil σ H Q := q
theorem r_cons {Q : List V → Hp → Prop} (h : ta σ H fun x H1 => tas σ H1 fun xs H2 => Q (x :: xs) H2) : tCons ta tas σ H Q := h
theorem r_dget (h : td σ H fun x H1 => ty σ H1 fun y H2 => kDGet x y H2 Q) : tDGet td ty σ H Q := h
theorem r_din (h : ty σ H fun y H1 => td σ H1 fun x H2 => kDIn false x y H2 Q) : tDIn ty td σ H Q := h
theorem r_dnin (h : ty σ H fun y H1 => td σ H1 fun x H2 => kDIn true x y H2 Q) : tDNotIn ty td σ H Q := h
theorem r_call {sp : Sp} (h : tas σ H fun vs H1 => sp (vs ++ []) H1 Q E) : tCall sp [] E tas σ H Q := h
theorem r_meth {sp : Sp} (h : ta σ H fun x H1 => kMeth C m sp E tas σ x H1 Q) : tMeth C m sp [] E ta tas σ H Q := h
theorem r_methE {sp : Sp} {E : St → XK} (h : ta σ H fun x H1 => kMethE C m sp E tas σ x H1 Q) : tMethE C m sp E ta tas σ H Q := h
theorem r_bm {T : String} {r : V → List V → Hp → VK → Prop} (h : ta σ H fun x H1 => kBM K T r tas σ x H1 Q) : tBM K T r ta tas σ H Q := h
theorem r_bm0 {T : String} {r : V → List V → Hp → VK → Prop} (h : ta σ H fun x H1 => kBM K T r tNil σ x H1 Q) : tBM0 K T r ta σ H Q := h
/-! tests -/
variable {Qb : Bool → Hp → Prop}
theorem r_test (h : te σ H fun x H1 => kBl x H1 Qb) : tTest te σ H Qb := h
theorem r_tb (h : te σ H fun x H1 => kBl x H1 Qb) : tB te σ H Qb := h
theorem r_not (h : c σ H fun b H1 => Qb (!b) H1) : tNot c σ H Qb := h
theorem r_and (h : c σ H fun b H1 => kIf b (d σ H1 Qb) (Qb false H1)) : tAnd c d σ H Qb := h
theorem r_or (h : c σ H fun b H1 => kIf b (Qb true H1) (d σ H1 Qb)) : tOr c d σ H Qb := h
theorem r_andV (h : ta σ H fun x H1 => kBl x H1 fun b H1 => kIf b (tb σ H1 Q) (Q (.bl false) H1)) : tAndV ta tb σ H Q := h
theorem r_orV (h : ta σ H fun x H1 => kBl x H1 fun b H1 => kIf b (Q (.bl true) H1) (tb σ H1 Q)) : tOrV ta tb σ H Q := h
theorem r_notV (h : ta σ H fun x H1 => kBl x H1 fun b H1 => Q (.bl (!b)) H1) : tNotV ta σ H Q := h
theorem r_tif (h : c σ H fun b H1 => kIf b (ta σ H1 Q) (tb σ H1 Q)) : tIf c ta tb σ H Q := h
theorem k_bl {b : Bool} (q : Qb b H) : kBl (.bl b) H Qb := ⟨b, rfl, q⟩
/-! values -/
theorem k_i0 {g : Int → Int → V} {i j : Int} (q : Q (g i j) H) : rI0 g (.int i) (.int j) H Q := ⟨i, j, rfl, rfl, q⟩
theorem k_i {g : Int → Int → V} {G : Int → Int → Prop} {i j : Int} (hc : G i j) (q : Q (g i j) H) : rI G g (.int i) (.int j) H Q := ⟨i, j, rfl, rfl, hc, q⟩
theorem k_u {g : Int → V} {i : Int} (q : Q (g i) H) : rU g (.int i) H Q := ⟨i, rfl, q⟩
theorem k_eq (s : scal x y = true) (q : Q (.bl (decide (x = y))) H) : rEq x y H Q := ⟨s, q⟩
theorem k_ne (s : scal x y = true) (q : Q (.bl (!decide (x = y))) H) : rNe x y H Q := ⟨s, q⟩
theorem k_isN (q : Q (.bl (decide (x = .non))) H) : rIsNon x .non H Q := ⟨rfl, q⟩
theorem k_notN (q : Q (.bl (!decide (x = .non))) H) : rNotNon x .non H Q := ⟨rfl, q⟩
theorem k_fld (hc : Cls K C) (hn : NoAttr K C f) (ho : H p = some (.ins C dx fs)) (hl : fs.lookup f = some v) (q : Q v H) : kFld K f (.ref p) H Q := ⟨p, C, dx, fs, v, rfl, ho, hc, hn, hl, q⟩
theorem k_sfld {Q : Hp → Prop} (hc : Cls K C) (hn : NoAttr K C f) (ho : H p = some (.ins C dx fs)) (hl : fs.length < 1000) (q : Q (upd H p (.ins C dx (putF f y fs)))) : kSFld K f y (.ref p) H Q := ⟨p, C, dx, fs, rfl, ho, hc, hn, hl, q⟩
theorem k_ixL {xs : List V} {k : Int} (ho : SqL K H p xs) (ha : atI xs k = some v) (q : Q v H) : rIxL K (.ref p) (.int k) H Q := ⟨p, xs, k, v, rfl, rfl, ho, ha, q⟩
theorem k_ixT {xs : List V} {k : Int} (ho : SqT K H p xs) (ha : atI xs k = some v) (q : Q v H) : rIxT K (.ref p) (.int k) H Q := ⟨p, xs, k, v, rfl, rfl, ho, ha, q⟩
theorem k_len {xs : List V} (ho : SqL K H p xs) (q : Q (.int xs.length) H) : rLenS K [.ref p] H Q := ⟨p, xs, rfl, .inl ho, q⟩
theorem k_lenT {xs : List V} (ho : SqT K H p xs) (q : Q (.int xs.length) H) : rLenS K [.ref p] H Q := ⟨p, xs, rfl, .inr ho, q⟩
theorem k_lenD {kvs : List (Key × V)} (ho : H p = some (.dK kvs)) (q : Q (.int kvs.length) H) : rLenDK [.ref p] H Q := ⟨p, kvs, rfl, ho, q⟩
theorem k_int {k : Int} (q : Q (.int k) H) : rInt1 [.int k] H Q := .inl ⟨k, rfl, q⟩
theorem k_abs {k : Int} (q : Q (.int (if k < 0 then -k else k)) H) : rAbs [.int k] H Q := ⟨k, rfl, q⟩
theorem k_max {k j : Int} (q : Q (.int (if j > k then j else k)) H) : rMax2 [.int k, .int j] H Q := ⟨k, j, rfl, q⟩
theorem k_min {k j : Int} (q : Q (.int (if j < k then j else k)) H) : rMin2 [.int k, .int j] H Q := ⟨k, j, rfl, q⟩
theorem k_listL {xs : List V} (ho : SqL K H p xs) (q : ∀ l, H l = none → Q (.ref l) (upd H l (.lst xs))) : rListOf K [.ref p] H Q := ⟨p, xs, rfl, .inl ho, q⟩
theorem k_listT {xs : List V} (ho : SqT K H p xs) (q : ∀ l, H l = none → Q (.ref l) (upd H l (.lst xs))) : rListOf K [.ref p] H Q := ⟨p, xs, rfl, .inr ho, q⟩
theorem k_tupL {xs : List V} (ho : SqL K H p xs) (q : ∀ l, H l = none → Q (.ref l) (upd H l (.tup xs))) : rTupOf K [.ref p] H Q := ⟨p, xs, rfl, .inl ⟨ho, q⟩⟩
theorem k_tupT {xs : List V} (ho : SqT K H p xs) (q : Q (.ref p) H) : rTupOf K [.ref p] H Q := ⟨p, xs, rfl, .inr ⟨ho, q⟩⟩
theorem k_tup {xs : List V} (hz : xs.length ≤ 1000) (q : ∀ p, H p = none → Q (.ref p) (upd H p (.tup xs))) : kTup xs H Q := ⟨Nat.le_trans hz (by decide), q⟩
theorem k_lst {xs : List V} (hz : xs.length ≤ 1000) (q : ∀ p, H p = none → Q (.ref p) (upd H p (.lst xs))) : kLst xs H Q := ⟨Nat.le_trans hz (by decide), q⟩
theorem k_dget (g : DGet H p y (some v)) (q : Q v H) : kDGet (.ref p) y H Q := ⟨p, v, rfl, g, q⟩
theorem k_dgetS {kvs : List (Key × V)} {s : Str} (ho : H p = some (.dK kvs)) (g : valV kvs (.inr s) = some v) (q : Q v H) : kDGet (.ref p) (.str s) H Q := ⟨p, v, rfl, g ▸ DGet.k (k := Sum.inr s) ho, q⟩
theorem k_dgetI {kvs : List (Key × V)} {k : Int} (ho : H p = some (.dK kvs)) (g : valV kvs (.inl k) = some v) (q : Q v H) : kDGet (.ref p) (.int k) H Q := ⟨p, v, rfl, g ▸ DGet.k (k := Sum.inl k) ho, q⟩
theorem k_dputS {Q : Hp → Prop} {kvs : List (Key × V)} {s : Str} (ho : H p = some (.dK kvs)) (hz : kvs.length ≤ 1000) (q : Q (upd H p (.dK (putK kvs (.inr s) v)))) : kDPut v (.ref p) (.str s) H Q := ⟨p, _, rfl, DPut.k (k := Sum.inr s) ho (small1000 hz), q⟩
theorem k_dputI {Q : Hp → Prop} {kvs : List (Key × V)} {k : Int} (ho : H p = some (.dK kvs)) (hz : kvs.length ≤ 1000) (q : Q (upd H p (.dK (putK kvs (.inl k) v)))) : kDPut v (.ref p) (.int k) H Q := ⟨p, _, rfl, DPut.k (k := Sum.inl k) ho (small1000 hz), q⟩
theorem k_meth {sp : Sp} (ho : H p = some (.ins C dx fs)) (hl : fs.lookup m = none) (q : tas σ H fun vs H2 => sp (.ref p :: (vs ++ [])) H2 Q E) : kMeth C m sp E tas σ (.ref p) H Q := ⟨p, dx, fs, rfl, ho, hl, q⟩
theorem k_methE {sp : Sp} {E : St → XK} (ho : H p = some (.ins C dx fs)) (hl : fs.lookup m = none) (q : tas σ H fun vs H2 => sp (.ref p :: vs) H2 Q (E σ)) : kMethE C m sp E tas σ (.ref p) H Q := ⟨p, dx, fs, rfl, ho, hl, q⟩
theorem k_bml {r : V → List V → Hp → VK → Prop} {xs : List V} (ho : H p = some (.lst xs)) (q : tas σ H fun vs H2 => r (.ref p) vs H2 Q) : kBM K "list" r tas σ (.ref p) H Q := ⟨.inl ⟨rfl, xs, .inl (.inl ho)⟩, q⟩
theorem k_append {xs : List V} (ho : H p = some (.lst xs)) (hz : xs.length ≤ 1000) (q : Q .non (upd H p (.lst (xs ++ [y])))) : rAppend (.ref p) [y] H Q := ⟨p, xs, y, rfl, rfl, ho, small1000 hz, q⟩
theorem k_rep {xs : List V} {k : Int} (ho : H p = some (.lst xs)) (h1 : 0 ≤ k) (h2 : k < 2 ^ 63) (hz : xs.length * k.toNat ≤ sizeLine) (q : ∀ l, H l = none → Q (.ref l) (upd H l (.lst ((List.replicate k.toNat xs).flatten)))) :
    rRep (.ref p) (.int k) H Q := by
  refine ⟨p, k, xs, rfl, rfl, ho, Int.le_trans (by decide) h1, h2, hz, ?_⟩
  first | exact q | exact fun l hl => q l hl | (intro l hl; simpa using q l hl)
/-! statements -/
theorem r_seq (h : t { D with nx := u D } σ H) : tSeq t u D σ H := h
theorem r_asg (h : te σ H fun x H1 => D.nx (σ.set i (some x)) H1) : tAsg te (gName i) D σ H := h
theorem r_asgG {g : TG} (h : te σ H fun x H1 => g x σ H1 D.nx) : tAsg te g D σ H := h
theorem r_sfld (h : tv σ H fun y H1 => ta σ H1 fun x H2 => kSFld K f y x H2 (D.nx σ)) : sFld K ta tv f D σ H := h
theorem r_dput (h : tv σ H fun v H1 => td σ H1 fun x H2 => ty σ H2 fun y H3 => kDPut v x y H3 (D.nx σ)) : sDPut td ty tv D σ H := h
theorem r_ret (h : te σ H D.rt) : tRet te D σ H := h
theorem r_retN (h : D.rt .non H) : tRetN D σ H := h
theorem r_drop (h : te σ H fun _ H1 => D.nx σ H1) : tDrop te D σ H := h
theorem r_next (h : D.nx σ H) : tNext D σ H := h
theorem r_ifs (h : c σ H fun b H1 => kIf b (t D σ H1) (u D σ H1)) : tIfS c t u D σ H := h
theorem r_setL {Q : Hp → Prop} {xs : List V} {k : Int} {j : Nat} (ho : H p = some (.lst xs)) (hi : ixN xs.length k = some j) (q : Q (upd H p (.lst (xs.set j v)))) : rSetL (.ref p) (.int k) v H Q := ⟨p, xs, k, j, rfl, rfl, ho, hi, q⟩
end
/-! ### a cut behind a statement -/
section
variable {X : Cx}
def tCutL (t u : TS) : TS := fun D σ H => ∃ Mid : St → Hp → Prop, t { D with nx := Mid } σ H ∧ ∀ σ' H', Mid σ' H' → u D σ' H'
theorem pss_cutL {st : Stmt} {rest : List Stmt} {t u : TS} (h1 : PS X st t) (h2 : PSs X rest u) : PSs X (st :: rest) (tCutL t u) := by
  refine ⟨fun pins s σ H D I h => ?_⟩
  obtain ⟨Mid, hm, hu⟩ := h
  refine wpAny_execs_cons (thn (h1.run pins s σ H { D with nx := Mid } I hm) fun f s1 q => ?_)
  cases f with
  | next =>
    obtain ⟨σ', H', I', q⟩ := q
    exact h2.run pins s1 σ' H' D I' (hu σ' H' q)
  | ret v => exact q
  | brk => exact q
  | cont => exact q
theorem r_cut {t u : TS} {D : Ends} {σ : St} {H : Hp} (Mid : St → Hp → Prop) (h : t { D with nx := Mid } σ H) (k : ∀ σ' H', Mid σ' H' → u D σ' H') : tCutL t u D σ H := ⟨Mid, h, k⟩
end
/-! ### own exceptions -/
def tRaise (C : Addr) (sp : Sp) (E : XK) (ta : TA) : TS := fun _ σ H => tMkO C sp [] ta σ H fun cls d H' => E cls d H'
def tTryAs (K : PySem.W.Frag) (c : Value) (i : Nat) (tb : WX → TS) (ts : Addr → Value → Option Addr → TS) : TS := fun D σ H => tb (wAs K c i ts (fun _ _ _ _ => False) D) D σ H
/-- an error of the class at S is what «except S» names -/
theorem exm_self {K : PySem.W.Frag} {S : Addr} (h1 : PySem.W.subIn K (.ref S) (.type "BaseException") = some true) (h2 : PySem.W.isClsIn K S = true) (h3 : PySem.W.typeIn K (.ref S) = some (.type "type")) (h4 : PySem.W.subIn K (.ref S) (.ref S) = some true) :
    PySem.W.exmOne K (.ref S) (.ref S) = some true := by
  have e1 : (PySem.W.subIn K (.ref S) (.type "BaseException") == some true) = true := by rw [h1] <;> rfl
  have e2 : ((PySem.W.clsIn K S).isSome && PySem.W.typeIn K (.ref S) == some (.type "type")) = true := by
    have h2' : (PySem.W.clsIn K S).isSome = true := h2
    rw [h2', h3] <;> rfl
  show (if (PySem.W.subIn K (.ref S) (.type "BaseException") == some true) = true then (if ((PySem.W.clsIn K S).isSome && PySem.W.typeIn K (.ref S) == some (.type "type")) = true then PySem.W.subIn K (.ref S) (.ref S) else none) else none) = some true
  rw [if_pos e1, if_pos e2]
  exact h4
/-- what an own exception's __init__ (self.f = v) does -/
def prExc (C : Addr) (f : Str) : V → V → Hp → VK → XK → Prop := fun x v H Q _ => ∃ e : Addr, x = .ref e ∧ H e = some (exo e C none) ∧ ∀ d, H d = none → d ≠ e → Q .non (upd (upd H d (exd d [(f, v)])) e (exo e C (some d)))
theorem pure_exc {K : PySem.W.Frag} {f : Str} {x v : V} {H : Hp} {Q : VK} {E : XK} {C : Addr} (T : OexC K C) (hno : PySem.W.findIn K (.ref C) f = some none)
    (h : prExc C f x v H Q E) : tOst K f (tVar 0) (tVar 1) { nx := fun _ H' => Q .non H', rt := Q } [some x, some v] H := by
  obtain ⟨e, rfl, he, q⟩ := h
  exact ⟨v, rfl, _, rfl, e, C, rfl, T, hno, .inl ⟨he, fun d hd ne => q d hd ne⟩⟩
/-! ### labels: who owns what -/
abbrev Lbl := Nat × Nat × Nat
abbrev Lb := Addr → Option Lbl
def updL (L : Lb) (p : Addr) (l : Lbl) : Lb := fun b => if b = p then some l else L b
theorem updL_same {L : Lb} {p : Addr} {l : Lbl} : updL L p l p = some l := by unfold updL; rw [if_pos rfl]
theorem updL_ne {L : Lb} {p b : Addr} {l : Lbl} (h : b ≠ p) : updL L p l b = L b := by unfold updL; rw [if_neg h]
def Lab (H : Hp) (L : Lb) : Prop := ∀ x l, L x = some l → ∃ o, H x = some o
theorem Lab.ne {H : Hp} {L : Lb} (h : Lab H L) {x p : Addr} {l : Lbl} (hx : L x = some l) (hp : H p = none) : x ≠ p := by
  obtain ⟨o, e⟩ := h x l hx
  exact ne_of_none e hp
theorem Lab.none {H : Hp} {L : Lb} (h : Lab H L) {p : Addr} (hp : H p = Option.none) : L p = Option.none := by
  cases e : L p with
  | none => rfl
  | some l => exact absurd rfl (h.ne e hp)
theorem lne {L : Lb} {x y : Addr} {l m : Lbl} (hx : L x = some l) (hy : L y = some m) (h : l ≠ m) : x ≠ y := by
  intro e; subst e; rw [hx] at hy; exact h (Option.some.inj hy)
/-- a step: only what the owners in S have may change -/
structure Stp (S : Nat → Prop) (H : Hp) (L : Lb) (H' : Hp) (L' : Lb) : Prop where
  dom : ∀ x o, H x = some o → ∃ o', H' x = some o'
  ext : ∀ x l, L x = some l → L' x = some l
  new : ∀ x l, L' x = some l → L x = none → H x = none
  lab : Lab H' L'
  keep : ∀ x o, H x = some o → (∀ l, L x = some l → ¬ S l.1) → H' x = some o
  tup : ∀ x us, H x = some (.tup us) → H' x = some (.tup us)
section
variable {S S' : Nat → Prop} {H H1 H2 : Hp} {L L1 L2 : Lb} {p x : Addr} {o : HO} {l : Lbl}
theorem Stp.refl (h : Lab H L) : Stp S H L H L := ⟨fun _ o e => ⟨o, e⟩, fun _ _ e => e, fun _ _ e n => (by rw [e] at n; cases n), h, fun _ _ e _ => e, fun _ _ e => e⟩
theorem Stp.trans (a : Stp S H L H1 L1) (b : Stp S H1 L1 H2 L2) : Stp S H L H2 L2 := by
  refine ⟨fun x o e => ?_, fun x l e => b.ext x l (a.ext x l e), fun x l e n => ?_, b.lab, fun x o e k => ?_, fun x us e => b.tup x us (a.tup x us e)⟩
  · obtain ⟨o1, e1⟩ := a.dom x o e
    exact b.dom x o1 e1
  · cases e1 : L1 x with
    | some l1 => exact a.new x l1 e1 n
    | none =>
      have z := b.new x l e e1
      cases q : H x with
      | none => rfl
      | some o =>
        obtain ⟨o1, q1⟩ := a.dom x o q
        rw [z] at q1; cases q1
  · refine b.keep x o (a.keep x o e k) fun l1 e1 => ?_
    cases q : L x with
    | some l0 =>
      have z := a.ext x l0 q
      rw [z] at e1; cases e1
      exact k _ q
    | none =>
      have z := a.new x l1 e1 q
      rw [z] at e; cases e
theorem Stp.mono (a : Stp S H L H1 L1) (h : ∀ k, S k → S' k) : Stp S' H L H1 L1 := ⟨a.dom, a.ext, a.new, a.lab, fun x o e k => a.keep x o e (fun l q z => k l q (h _ z)), a.tup⟩
theorem Lab.same (h : Lab H L) (s : Same H H1) : Lab H1 L := fun x l e => by
  obtain ⟨o, q⟩ := h x l e
  exact ⟨o, s x o q⟩
theorem Stp.of_same (h : Lab H L) (s : Same H H1) : Stp S H L H1 L := ⟨fun x o e => ⟨o, s x o e⟩, fun _ _ e => e, fun _ _ e n => (by rw [e] at n; cases n), h.same s, fun x o e _ => s x o e, fun x us e => s x _ e⟩
theorem same_new (hp : H p = none) : Same H (upd H p o) := fun b u e => by rw [upd_ne (ne_of_none e hp)]; exact e
theorem Stp.alloc (h : Lab H L) (hp : H p = none) : Stp S H L (upd H p o) L := .of_same h (same_new hp)
theorem Stp.allocL (h : Lab H L) (hp : H p = none) : Stp S H L (upd H p o) (updL L p l) := by
  have hn : L p = none := h.none hp
  refine ⟨fun x o' e => ⟨o', same_new hp x o' e⟩, fun x m e => ?_, fun x m e n => ?_, fun x m e => ?_, fun x o' e _ => same_new hp x o' e, fun x us e => same_new hp x _ e⟩
  · rw [updL_ne (h.ne e hp)]; exact e
  · by_cases hx : x = p
    · subst hx; exact hp
    · rw [updL_ne hx, n] at e; cases e
  · by_cases hx : x = p
    · subst hx; exact ⟨o, upd_same⟩
    · rw [updL_ne hx] at e
      rw [upd_ne hx]
      exact h x m e
/-- a label for what stands already without one and nobody else knew -/
theorem Stp.label (h : Lab H1 L) (hp : H p = none) (ho : H1 p = some o) (s : Same H H1) (h0 : Lab H L) : Stp S H L H1 (updL L p l) := by
  refine ⟨fun x o e => ⟨o, s x o e⟩, fun x m e => ?_, fun x m e n => ?_, fun x m e => ?_, fun x o' e _ => s x o' e, fun x us e => s x _ e⟩
  · rw [updL_ne (h0.ne e hp)]; exact e
  · by_cases hx : x = p
    · subst hx; exact hp
    · rw [updL_ne hx, n] at e; cases e
  · by_cases hx : x = p
    · subst hx; exact ⟨o, ho⟩
    · rw [updL_ne hx] at e
      exact h x m e
theorem Stp.write {o0 : HO} (h : Lab H L) (hp : L p = some l) (hs : S l.1) (e0 : H p = some o0) (hn : ∀ us, o0 ≠ .tup us := by intro us z; cases z) : Stp S H L (upd H p o) L := by
  refine ⟨fun x o' e => ?_, fun _ _ e => e, fun _ _ e n => (by rw [e] at n; cases n), fun x m e => ?_, fun x o' e k => ?_, fun x us e => ?_⟩
  · by_cases hx : x = p
    · subst hx; exact ⟨o, upd_same⟩
    · rw [upd_ne hx]; exact ⟨o', e⟩
  · by_cases hx : x = p
    · subst hx; exact ⟨o, upd_same⟩
    · rw [upd_ne hx]; exact h x m e
  · have hx : x ≠ p := fun z => k l (by rw [z]; exact hp) hs
    rw [upd_ne hx]; exact e
  · have hx : x ≠ p := fun z => by rw [z, e0] at e; exact hn us (Option.some.inj e)
    rw [upd_ne hx]; exact e
theorem Stp.lbl (a : Stp S H L H1 L1) (hl : L x = some l) (hs : ¬ S l.1) (hx : H x = some o) : H1 x = some o := a.keep x o hx fun m e => by rw [hl] at e; cases e; exact hs
theorem Stp.unl (a : Stp S H L H1 L1) (hl : L x = none) (hx : H x = some o) : H1 x = some o := a.keep x o hx fun m e => by rw [hl] at e; cases e
theorem Stp.fresh (a : Stp S H L H1 L1) (h : H1 p = none) : H p = none := by
  cases e : H p with
  | none => rfl
  | some o =>
    obtain ⟨o', q⟩ := a.dom p o e
    rw [h] at q; cases q
theorem Stp.same (a : Stp (fun _ => False) H L H1 L1) : Same H H1 := fun x o e => a.keep x o e fun _ _ z => z
end
/-! ### lists of places -/
def oV : Option Addr → V
  | none => .non
  | some q => .ref q
/-- qs: where the lists cs stand, owner k, kind j -/
structure OLs (L : Lb) (H : Hp) (k j : Nat) (qs : List (Option Addr)) (cs : List (Option (List Int))) : Prop where
  len : qs.length = cs.length
  no : ∀ i : Nat, cs[i]? = some none → qs[i]? = some none
  yes : ∀ (i : Nat) ws, cs[i]? = some (some ws) → ∃ q, qs[i]? = some (some q) ∧ L q = some (k, j, i) ∧ H q = some (.lst (ws.map .int))
section
variable {L L' : Lb} {H H' : Hp} {k j : Nat} {qs : List (Option Addr)} {cs : List (Option (List Int))} {i : Nat} {q : Addr} {ws : List Int}
theorem OLs.of (h : OLs L H k j qs cs) (e : ∀ x l, L x = some l → L' x = some l) (f : ∀ x i o, L x = some (k, j, i) → H x = some o → H' x = some o) : OLs L' H' k j qs cs :=
  ⟨h.len, h.no, fun i ws c => by
    obtain ⟨q, h1, h2, h3⟩ := h.yes i ws c
    exact ⟨q, h1, e _ _ h2, f q i _ h2 h3⟩⟩
theorem OLs.keep {S : Nat → Prop} (h : OLs L H k j qs cs) (s : Stp S H L H' L') (hk : ¬ S k) : OLs L' H' k j qs cs := h.of s.ext fun _ _ _ hl hx => s.lbl hl hk hx
theorem OLs.at (h : OLs L H k j qs cs) (hi : i < cs.length) : (cs[i]? = some none ∧ qs[i]? = some none) ∨ ∃ ws q, cs[i]? = some (some ws) ∧ qs[i]? = some (some q) ∧ L q = some (k, j, i) ∧ H q = some (.lst (ws.map .int)) := by
  cases e : cs[i]? with
  | none => have := List.getElem?_eq_none_iff.mp e; omega
  | some o =>
    cases o with
    | none => exact .inl ⟨rfl, h.no i e⟩
    | some ws =>
      obtain ⟨q, h1, h2, h3⟩ := h.yes i ws e
      exact .inr ⟨ws, q, rfl, h1, h2, h3⟩
theorem OLs.set (h : OLs L H k j qs cs) (hq : L q = some (k, j, i)) (hh : H q = some (.lst (ws.map .int))) : OLs L H k j (qs.set i (some q)) (cs.set i (some ws)) := by
  refine ⟨by simp [h.len], fun n e => ?_, fun n us e => ?_⟩
  · by_cases hn : i = n
    · subst hn
      rw [List.getElem?_set] at e
      split at e
      · split at e
        · cases e
        · cases e
      · exact absurd rfl (by assumption)
    · rw [List.getElem?_set_ne hn] at e ⊢
      exact h.no n e
  · by_cases hn : i = n
    · subst hn
      have hi : i < cs.length := by
        have := (List.getElem?_eq_some_iff.mp e).1
        simpa using this
      rw [List.getElem?_set_self hi] at e
      cases e
      rw [List.getElem?_set_self (by rw [h.len]; exact hi)]
      exact ⟨q, rfl, hq, hh⟩
    · rw [List.getElem?_set_ne hn] at e
      rw [List.getElem?_set_ne hn]
      exact h.yes n us e
theorem OLs.clear (h : OLs L H k j qs cs) (i : Nat) : OLs L H k j (qs.set i none) (cs.set i none) := by
  refine ⟨by simp [h.len], fun n e => ?_, fun n us e => ?_⟩
  · by_cases hn : i = n
    · subst hn
      have hi : i < cs.length := by
        have := (List.getElem?_eq_some_iff.mp e).1
        simpa using this
      rw [List.getElem?_set_self (by rw [h.len]; exact hi)]
    · rw [List.getElem?_set_ne hn] at e ⊢
      exact h.no n e
  · by_cases hn : i = n
    · subst hn
      have hi : i < cs.length := by
        have := (List.getElem?_eq_some_iff.mp e).1
        simpa using this
      rw [List.getElem?_set_self hi] at e
      cases e
    · rw [List.getElem?_set_ne hn] at e
      rw [List.getElem?_set_ne hn]
      exact h.yes n us e
theorem OLs.push (h : OLs L H k j qs cs) : OLs L H k j (qs ++ [none]) (cs ++ [none]) := by
  refine ⟨by simp [h.len], fun n e => ?_, fun n us e => ?_⟩
  · by_cases hn : n < cs.length
    · rw [List.getElem?_append_left hn] at e
      rw [List.getElem?_append_left (by rw [h.len]; exact hn)]
      exact h.no n e
    · have h2 := (List.getElem?_eq_some_iff.mp e).1
      have : n = cs.length := by simp at h2; omega
      subst this
      rw [← h.len]; simp
  · by_cases hn : n < cs.length
    · rw [List.getElem?_append_left hn] at e
      rw [List.getElem?_append_left (by rw [h.len]; exact hn)]
      exact h.yes n us e
    · have h2 := (List.getElem?_eq_some_iff.mp e).1
      have : n = cs.length := by simp at h2; omega
      subst this
      simp at e
theorem OLs.pop (h : OLs L H k j qs cs) : OLs L H k j qs.dropLast cs.dropLast := by
  refine ⟨by simp [h.len], fun n e => ?_, fun n us e => ?_⟩
  · rw [List.getElem?_dropLast] at e ⊢
    split at e
    · rw [if_pos (by rw [h.len]; assumption)]; exact h.no n e
    · cases e
  · rw [List.getElem?_dropLast] at e
    split at e
    · rw [List.getElem?_dropLast, if_pos (by rw [h.len]; assumption)]; exact h.yes n us e
    · cases e
theorem OLs.write (h : OLs L H k j qs cs) (hi : qs[i]? = some (some q)) (hq : L q = some (k, j, i)) : OLs L (upd H q (.lst (ws.map .int))) k j qs (cs.set i (some ws)) := by
  have e : qs.set i (some q) = qs := by
    apply List.ext_getElem?
    intro n
    by_cases hn : i = n
    · subst hn
      rw [List.getElem?_set_self (List.getElem?_eq_some_iff.mp hi).1, hi]
    · rw [List.getElem?_set_ne hn]
  have h1 : OLs L (upd H q (.lst (ws.map .int))) k j (qs.set i (some q)) (cs.set i (some ws)) := by
    refine ⟨by simp [h.len], fun n c => ?_, fun n us c => ?_⟩
    · by_cases hn : i = n
      · subst hn
        have hl : i < cs.length := by rw [← h.len]; exact (List.getElem?_eq_some_iff.mp hi).1
        rw [List.getElem?_set_self hl] at c; cases c
      · rw [List.getElem?_set_ne hn] at c ⊢
        exact h.no n c
    · by_cases hn : i = n
      · subst hn
        have hl : i < cs.length := by rw [← h.len]; exact (List.getElem?_eq_some_iff.mp hi).1
        rw [List.getElem?_set_self hl] at c; cases c
        rw [List.getElem?_set_self (by rw [h.len]; exact hl)]
        exact ⟨q, rfl, hq, upd_same⟩
      · rw [List.getElem?_set_ne hn] at c
        rw [List.getElem?_set_ne hn]
        obtain ⟨q2, h1, h2, h3⟩ := h.yes n us c
        refine ⟨q2, h1, h2, ?_⟩
        rw [upd_ne]
        · exact h3
        · exact lne h2 hq (by intro z; simp only [Prod.mk.injEq, true_and] at z; exact hn z.symm)
  rw [e] at h1
  exact h1
end
theorem fnOk_none {P : Program} {w : World} {K : PySem.W.Frag} {mg : Str → Option Value} {base : Heap} {CX : CXT} {k : Nat} {f : Addr} {fd : FuncData} {ps : List Str} {sp : Sp} (h : ∀ vs H Q E, ¬ sp vs H Q E) : FnOk P w K mg base CX k f fd ps sp :=
  ⟨fun _ _ _ _ q => (h _ _ _ _ q).elim, fun _ _ _ _ _ _ _ _ _ _ _ _ _ q => (h _ _ _ _ q).elim⟩
theorem nn {H : Hp} {a b : Addr} {o : HO} (h' : H b = none) (h : H a = some o) : a ≠ b := ne_of_none h h'
/-! ### loops -/
section
variable {K : PySem.W.Frag} {g : TG} {tb : TS} {D : Ends} {σ : St} {H : Hp} {p : Addr} {xs : List V} {tas : TA} {te : TE} {c : TT} {i j : Nat} {x y : V}
def kFor (J : It) (g : TG) (tb : TS) (D : Ends) (σ : St) (H1 : Hp) : Prop := ∃ W : Nat → Nat → St → Hp → Prop, (∃ m, W 0 m σ H1) ∧ ∀ i m σ H, W i m σ H →
  (J.stop i H ∧ D.nx σ H) ∨ (J.go i H ∧ ∃ N : St → Hp → Prop, (∀ σ' H', N σ' H' → ∃ m', m' < m ∧ W (i + 1) m' σ' H') ∧ ∀ x H', J.yld i H x H' → g x σ H' fun σ2 H2 => tb { D with nx := N, ct := N, bk := D.nx } σ2 H2)
def kRng1 (g : TG) (tb : TS) (D : Ends) (σ : St) (vs : List V) (H1 : Hp) : Prop := ∃ j : Int, vs = [.int j] ∧ -(2 ^ 62) ≤ j ∧ j < 2 ^ 62 ∧ kFor (Itr 0 j.toNat) g tb D σ H1
def kRng2 (g : TG) (tb : TS) (D : Ends) (σ : St) (vs : List V) (H1 : Hp) : Prop := ∃ i j : Int, vs = [.int i, .int j] ∧ (-(2 ^ 62) ≤ i ∧ i < 2 ^ 62 ∧ -(2 ^ 62) ≤ j ∧ j < 2 ^ 62) ∧ kFor (Itr i (j - i).toNat) g tb D σ H1
def kForL (K : PySem.W.Frag) (g : TG) (tb : TS) (D : Ends) (σ : St) (x : V) (H1 : Hp) : Prop := ∃ a, x = .ref a ∧ (∃ xs, SqL K H1 a xs) ∧ kFor (Itl K a) g tb D σ H1
def kForT (K : PySem.W.Frag) (g : TG) (tb : TS) (D : Ends) (σ : St) (x : V) (H1 : Hp) : Prop := ∃ a, x = .ref a ∧ (∃ xs, SqT K H1 a xs) ∧ kFor (Itt K a) g tb D σ H1
def kEnum (K : PySem.W.Frag) (g : TG) (tb : TS) (D : Ends) (σ : St) (vs : List V) (H1 : Hp) : Prop := ∃ a xs, vs = [.ref a] ∧ SqL K H1 a xs ∧ kFor (Ite K a) g tb D σ H1
theorem r_rng1 (h : tas σ H fun vs H1 => kRng1 g tb D σ vs H1) : tFor (iRng1 tas) g tb D σ H := h
theorem r_rng2 (h : tas σ H fun vs H1 => kRng2 g tb D σ vs H1) : tFor (iRng2 tas) g tb D σ H := h
theorem r_forL (h : te σ H fun x H1 => kForL K g tb D σ x H1) : tFor (iList K te) g tb D σ H := h
theorem r_forT (h : te σ H fun x H1 => kForT K g tb D σ x H1) : tFor (iTup K te) g tb D σ H := h
theorem r_enum (h : tas σ H fun vs H1 => kEnum K g tb D σ vs H1) : tFor (iEnum K tas) g tb D σ H := h
theorem k_rng1 {n : Nat} (hn : n ≤ 100000) (Pv : Nat → St → Hp → Prop) (h0 : Pv 0 σ H)
    (hs : ∀ i σ' H', i < n → Pv i σ' H' → tb { D with nx := Pv (i + 1), ct := Pv (i + 1), bk := D.nx } (σ'.set j (some (.int (i : Nat)))) H') (hd : ∀ σ' H', Pv n σ' H' → D.nx σ' H') : kRng1 (gName j) tb D σ [.int (n : Nat)] H := by
  refine ⟨(n : Nat), rfl, by omega, by omega, ?_⟩
  rw [Int.toNat_natCast]
  refine for_range (lo := 0) (n := n) Pv h0 (fun i σ' H' hi q => ?_) hd
  have e : (0 : Int) + (i : Nat) = (i : Nat) := Int.zero_add _
  show tb _ (σ'.set j (some (.int ((0 : Int) + (i : Nat))))) H'
  rw [e]
  exact hs i σ' H' hi q
/-- range(lo, hi): n turns -/
theorem k_rng2 {lo hi : Nat} (h1 : lo ≤ 100000) (h2 : hi ≤ 100000) (Pv : Nat → St → Hp → Prop) (h0 : Pv lo σ H)
    (hs : ∀ i σ' H', lo ≤ i → i < hi → Pv i σ' H' → tb { D with nx := Pv (i + 1), ct := Pv (i + 1), bk := D.nx } (σ'.set j (some (.int (i : Nat)))) H') (hd : ∀ σ' H', Pv (max lo hi) σ' H' → D.nx σ' H') : kRng2 (gName j) tb D σ [.int (lo : Nat), .int (hi : Nat)] H := by
  refine ⟨(lo : Nat), (hi : Nat), rfl, ⟨by omega, by omega, by omega, by omega⟩, ?_⟩
  refine for_range (lo := (lo : Nat)) (n := ((hi : Int) - (lo : Nat)).toNat) (fun i => Pv (lo + i)) h0 (fun i σ' H' hi' q => ?_) fun σ' H' q => ?_
  · have e : ((lo : Nat) : Int) + (i : Nat) = ((lo + i : Nat) : Nat) := by omega
    show tb _ (σ'.set j (some (.int (((lo : Nat) : Int) + (i : Nat))))) H'
    rw [e]
    exact hs (lo + i) σ' H' (by omega) (by omega) q
  · have e : lo + ((hi : Int) - (lo : Nat)).toNat = max lo hi := by omega
    have q' : Pv (lo + ((hi : Int) - (lo : Nat)).toNat) σ' H' := q
    rw [e] at q'
    exact hd σ' H' q'
theorem k_forL (ho : SqL K H p xs) (Pv : Nat → St → Hp → Prop) (h0 : Pv 0 σ H) (hl : ∀ i σ' H', i ≤ xs.length → Pv i σ' H' → SqL K H' p xs)
    (hs : ∀ i x σ' H', xs[i]? = some x → Pv i σ' H' → g x σ' H' fun σ2 H2 => tb { D with nx := Pv (i + 1), ct := Pv (i + 1), bk := D.nx } σ2 H2) (hd : ∀ σ' H', Pv xs.length σ' H' → D.nx σ' H') : kForL K g tb D σ (.ref p) H :=
  ⟨p, rfl, ⟨xs, ho⟩, for_list Pv h0 hl hs hd⟩
theorem k_forT (ho : SqT K H p xs) (Pv : Nat → St → Hp → Prop) (h0 : Pv 0 σ H) (hl : ∀ i σ' H', i ≤ xs.length → Pv i σ' H' → SqT K H' p xs)
    (hs : ∀ i x σ' H', xs[i]? = some x → Pv i σ' H' → g x σ' H' fun σ2 H2 => tb { D with nx := Pv (i + 1), ct := Pv (i + 1), bk := D.nx } σ2 H2) (hd : ∀ σ' H', Pv xs.length σ' H' → D.nx σ' H') : kForT K g tb D σ (.ref p) H :=
  ⟨p, rfl, ⟨xs, ho⟩, for_tup Pv h0 hl hs hd⟩
theorem g_two {Q : St → Hp → Prop} {T : Addr} (ho : H T = some (.tup [x, y])) (q : Q ((σ.set i (some x)).set j (some y)) H) : gTup K 2 (gCons (gName i) (gCons (gName j) gNil)) (.ref T) σ H Q :=
  ⟨T, [x, y], rfl, .inl (.inl ho), rfl, x, [y], rfl, y, [], rfl, rfl, q⟩
/-- for a, b in enumerate(xs) -/
theorem k_enum (ho : SqL K H p xs) (Pv : Nat → St → Hp → Prop) (h0 : Pv 0 σ H) (hl : ∀ i σ' H', i ≤ xs.length → Pv i σ' H' → SqL K H' p xs)
    (hs : ∀ n x T σ' H', xs[n]? = some x → Pv n σ' H' → H' T = none → tb { D with nx := Pv (n + 1), ct := Pv (n + 1), bk := D.nx } ((σ'.set i (some (.int (n : Nat)))).set j (some x)) (upd H' T (.tup [.int (n : Nat), x])))
    (hd : ∀ σ' H', Pv xs.length σ' H' → D.nx σ' H') : kEnum K (gTup K 2 (gCons (gName i) (gCons (gName j) gNil))) tb D σ [.ref p] H := by
  refine ⟨p, xs, rfl, ho, for_it (walk_enum (K := K) (a := p) (xs := xs)) Pv h0 hl (fun n v σ' H' H2 hn q y => ?_) hd⟩
  obtain ⟨T, x, z, rfl, hT, rfl, e1, e2⟩ := y
  cases e1
  exact g_two upd_same (hs n z T σ' H' e2 q hT)
def kWhile (c : TT) (tb : TS) (D : Ends) (σ : St) (H : Hp) : Prop := tWhile c tb D σ H
/-- a while: Pv at m, the number that falls -/
theorem k_while (Pv : Nat → St → Hp → Prop) (m0 : Nat) (h0 : Pv m0 σ H)
    (hs : ∀ m σ' H', Pv m σ' H' → c σ' H' fun b H1 => kIf b (tb { D with nx := fun σ2 H2 => ∃ m', m' < m ∧ Pv m' σ2 H2, ct := fun σ2 H2 => ∃ m', m' < m ∧ Pv m' σ2 H2, bk := D.nx } σ' H1) (D.nx σ' H1))
    (mono : ∀ σ' H' Q Q', (∀ b H1, Q b H1 → Q' b H1) → c σ' H' Q → c σ' H' Q') : tWhile c tb D σ H := by
  refine ⟨Pv, ⟨m0, h0⟩, fun m σ' H' w => ?_⟩
  refine mono σ' H' _ _ (fun b H1 q => ?_) (hs m σ' H' w)
  cases b with
  | true =>
    rw [if_pos rfl]
    have q' := q
    unfold kIf at q'
    rw [if_pos rfl] at q'
    exact ⟨_, fun _ _ n => n, q'⟩
  | false =>
    rw [if_neg Bool.false_ne_true]
    have q' := q
    unfold kIf at q'
    rw [if_neg Bool.false_ne_true] at q'
    exact q'
end
theorem sm {f : Str} {v : V} {fs : List (Str × V)} {n : Nat} (h : fs.length ≤ n) : (putF f v fs).length ≤ n + 1 := by
  induction fs generalizing n with
  | nil => exact Nat.succ_le_succ (Nat.zero_le _)
  | cons p r ih =>
    obtain ⟨x, y⟩ := p
    unfold putF
    split
    · exact Nat.le_succ_of_le h
    · cases n with
      | zero => exact absurd h (by simp)
      | succ m => exact Nat.succ_le_succ (ih (Nat.le_of_succ_le_succ h))
theorem lt0 : ([] : List (Str × V)).length < 1000 := by decide
theorem lt1 {f : Str} {v : V} : (putF f v []).length < 1000 := Nat.lt_of_le_of_lt (sm (Nat.le_refl 0)) (by decide)
theorem lt2 {f g : Str} {v w : V} : (putF g w (putF f v [])).length < 1000 := Nat.lt_of_le_of_lt (sm (sm (Nat.le_refl 0))) (by decide)
theorem lt3 {f g h : Str} {v w u : V} : (putF h u (putF g w (putF f v []))).length < 1000 := Nat.lt_of_le_of_lt (sm (sm (sm (Nat.le_refl 0)))) (by decide)
theorem lt4 {f g h i : Str} {v w u x : V} : (putF i x (putF h u (putF g w (putF f v [])))).length < 1000 := Nat.lt_of_le_of_lt (sm (sm (sm (sm (Nat.le_refl 0))))) (by decide)
theorem flat_rep {α : Type} (x : α) : ∀ n : Nat, (List.replicate n [x]).flatten = List.replicate n x
  | 0 => rfl
  | n + 1 => by rw [List.replicate_succ, List.flatten_cons, flat_rep x n, List.replicate_succ]; rfl
theorem un {H : Hp} {a b : Addr} {o : HO} (h : upd H a o b = none) : H b = none := by
  by_cases e : b = a
  · subst e; rw [upd_same] at h; cases h
  · rw [upd_ne e] at h; exact h
theorem r_gsub {to ti : TE} {rs : TSet} {v : V} {σ : St} {H : Hp} {Q : St → Hp → Prop} (h : to σ H fun o H1 => ti σ H1 fun i H2 => rs o i v H2 fun H3 => Q σ H3) : gSub to ti rs v σ H Q := h
theorem ixN_nat {n j : Nat} (hj : j < n) : ixN n (j : Int) = some j := by
  unfold ixN
  rw [if_pos (by omega), if_pos (by omega)]
  simp
theorem k_setL {p : Addr} {H : Hp} {v : V} {Q : Hp → Prop} {xs : List V} {j : Nat} (ho : H p = some (.lst xs)) (hj : j < xs.length) (q : Q (upd H p (.lst (xs.set j v)))) : rSetL (.ref p) (.int (j : Nat)) v H Q := r_setL ho (ixN_nat hj) q
/-! ### list comprehensions -/
section
variable {K : PySem.W.Frag} {g : TG} {tt : TT} {te te0 : TE} {vs : List Nat} {σ : St} {H : Hp} {Q : VK} {tas : TA} {j : Nat} {a : Addr} {xs ys : List V}
def kLcL (K : PySem.W.Frag) (g : TG) (tt : TT) (te : TE) (vs : List Nat) (σ : St) (x : V) (H : Hp) (Q : VK) : Prop := tLc (iList K (tC x)) g tt te vs σ H Q
theorem r_lcL (h : te0 σ H fun x H1 => kLcL K g tt te vs σ x H1 Q) : tLc (iList K te0) g tt te vs σ H Q := h
/-- [e for x in xs], e a value of x -/
theorem k_lcL (ho : SqL K H a xs) (hl : ys.length = xs.length) (hz : xs.length ≤ 1000) (hw : ∀ x, wipe ((wipe σ vs).set j (some x)) vs = wipe σ vs)
    (he : ∀ (i : Nat) (x y : V) (H' : Hp), xs[i]? = some x → ys[i]? = some y → Same H H' → ∀ Q : VK, (∀ H2, Same H' H2 → Q y H2) → te ((wipe σ vs).set j (some x)) H' Q)
    (q : ∀ D H', H D = none → Same H H' → H' D = some (.lst ys) → Q (.ref D) H') : kLcL K (gName j) tYes te vs σ (.ref a) H Q := by
  refine ⟨a, rfl, ⟨xs, ho⟩, fun D hD => ?_⟩
  refine lc_list (xs := xs) (fun i H' => Same H H' ∧ H' D = some (.lst (ys.take i))) ⟨same_new hD, upd_same⟩ (fun i H' _ p => p.1.seq ho) (fun i x H' hi p => ?_) fun H' p => ?_
  · have hil : i < xs.length := (List.getElem?_eq_some_iff.mp hi).1
    have hiy : i < ys.length := by omega
    have ey : ys[i]? = some ys[i] := List.getElem?_eq_getElem hiy
    refine ⟨hw x, ?_⟩
    refine he i x ys[i] H' hi ey p.1 _ fun H2 s2 => ⟨ys.take i, s2 _ _ p.2, small1000 (by rw [List.length_take]; omega), fun b o e => ?_, ?_⟩
    · rw [upd_ne (ne_of_none e hD)]; exact s2 _ _ (p.1 b o e)
    · rw [upd_same, List.take_succ, ey]; rfl
  · have p2 := p.2
    rw [List.take_of_length_le (by omega)] at p2
    exact q D H' hD p.1 p2
def kLcR1 (g : TG) (tt : TT) (te : TE) (vs : List Nat) (σ : St) (xs : List V) (H : Hp) (Q : VK) : Prop := tLc (iRng1 fun _ H k => k xs H) g tt te vs σ H Q
theorem r_lcR1 (h : tas σ H fun xs H1 => kLcR1 g tt te vs σ xs H1 Q) : tLc (iRng1 tas) g tt te vs σ H Q := h
/-- [e for k in range(n)] -/
theorem k_lcR1 {n : Nat} (hl : ys.length = n) (hz : n ≤ 1000) (hw : ∀ x, wipe ((wipe σ vs).set j (some x)) vs = wipe σ vs)
    (he : ∀ (i : Nat) (y : V) (H' : Hp), i < n → ys[i]? = some y → Same H H' → ∀ Q : VK, (∀ H2, Same H' H2 → Q y H2) → te ((wipe σ vs).set j (some (.int (i : Nat)))) H' Q)
    (q : ∀ D H', H D = none → Same H H' → H' D = some (.lst ys) → Q (.ref D) H') : kLcR1 (gName j) tYes te vs σ [.int (n : Nat)] H Q := by
  refine ⟨(n : Nat), rfl, by omega, by omega, fun D hD => ?_⟩
  rw [Int.toNat_natCast]
  refine lc_range (lo := 0) (n := n) (fun i H' => Same H H' ∧ H' D = some (.lst (ys.take i))) ⟨same_new hD, upd_same⟩ (fun i H' hi p => ?_) fun H' p => ?_
  · have hiy : i < ys.length := by omega
    have ey : ys[i]? = some ys[i] := List.getElem?_eq_getElem hiy
    rw [Int.zero_add]
    refine ⟨hw _, ?_⟩
    refine he i ys[i] H' hi ey p.1 _ fun H2 s2 => ⟨ys.take i, s2 _ _ p.2, small1000 (by rw [List.length_take]; omega), fun b o e => ?_, ?_⟩
    · rw [upd_ne (ne_of_none e hD)]; exact s2 _ _ (p.1 b o e)
    · rw [upd_same, List.take_succ, ey]; rfl
  · have p2 := p.2
    rw [List.take_of_length_le (by omega)] at p2
    exact q D H' hD p.1 p2
end
/-! ### raising, making, whiles, pops -/
section
variable {K : PySem.W.Frag} {C p : Addr} {sp : Sp} {E : XK} {tas : TA} {σ : St} {H : Hp} {D : Ends} {Q : VK} {f : Str} {v : V} {c : TT} {tb : TS} {xs : List V}
def kRaise (C : Addr) (sp : Sp) (E : XK) (vs : List V) (H : Hp) : Prop := tMkO C sp [] (fun _ H k => k vs H) [] H fun cls d H' => E cls d H'
theorem r_raise (h : tas σ H fun vs H1 => kRaise C sp E vs H1) : tRaise C sp E tas D σ H := h
theorem k_raise (q : ∀ d H', H d = none → Same H H' → H' d = some (.xd [(f, v)]) → E (.ref C) (some d) H') : kRaise C (sp2 (prExc C f)) E [v] H := by
  refine ⟨by simp, fun a ha => ⟨.ref a, v, rfl, a, rfl, upd_same, fun d hd ne => ⟨rfl, d, [(f, v)], upd_same, ?_, un hd, q d _ (un hd) (fun b o e => ?_) upd_same⟩⟩⟩
  · rw [upd_ne ne]; exact upd_same
  · have h1 : b ≠ a := ne_of_none e ha
    have h2 : b ≠ d := ne_of_none e (un hd)
    rw [upd_ne h2, del_ne h1, upd_ne h1, upd_ne h2, upd_ne h1]; exact e
def kMake (C : Addr) (sp : Sp) (E : XK) (vs : List V) (H : Hp) (Q : VK) : Prop := tMake C sp [] E (fun _ H k => k vs H) [] H Q
theorem r_make (h : tas σ H fun vs H1 => kMake C sp E vs H1 Q) : tMake C sp [] E tas σ H Q := h
theorem k_make {vs : List V} (q : ∀ x dx, H x = none → H dx = none → dx ≠ x → sp (.ref x :: (vs ++ [])) (upd (upd H dx (.own x)) x (.ins C dx [])) (fun v H2 => v = .non ∧ Q (.ref x) H2) E) : kMake C sp E vs H Q := q
/-- a while whose test leaves the heap -/
theorem k_whileD (Pv : Nat → St → Hp → Prop) (m0 : Nat) (h0 : Pv m0 σ H)
    (hs : ∀ m σ' H', Pv m σ' H' → ∃ b, (∀ Qb : Bool → Hp → Prop, Qb b H' → c σ' H' Qb) ∧
      (b = true → tb { D with nx := fun σ2 H2 => ∃ m', m' < m ∧ Pv m' σ2 H2, ct := fun σ2 H2 => ∃ m', m' < m ∧ Pv m' σ2 H2, bk := D.nx } σ' H') ∧ (b = false → D.nx σ' H')) : tWhile c tb D σ H := by
  refine ⟨Pv, ⟨m0, h0⟩, fun m σ' H' w => ?_⟩
  obtain ⟨b, h1, h2, h3⟩ := hs m σ' H' w
  refine h1 _ ?_
  cases b with
  | true =>
    rw [if_pos rfl]
    exact ⟨_, fun _ _ n => n, h2 rfl⟩
  | false =>
    rw [if_neg Bool.false_ne_true]
    exact h3 rfl
theorem k_pop {y : V} (ho : H p = some (.lst xs)) (hy : xs[xs.length - 1]? = some y) (q : Q y (upd H p (.lst xs.dropLast))) : rPop (.ref p) [] H Q := ⟨p, xs, y, rfl, rfl, ho, hy, q⟩
theorem Stp.of_new {S : Nat → Prop} {H H' : Hp} {L L' : Lb} (s : Same H H') (ext : ∀ x l, L x = some l → L' x = some l) (new : ∀ x l, L' x = some l → L x = none → H x = none) (lab : Lab H' L') : Stp S H L H' L' :=
  ⟨fun x o e => ⟨o, s x o e⟩, ext, new, lab, fun x o e _ => s x o e, fun x us e => s x _ e⟩
end
theorem OLs.take {L : Lb} {H : Hp} {k j : Nat} {qs : List (Option Addr)} {cs : List (Option (List Int))} (h : OLs L H k j qs cs) (n : Nat) : OLs L H k j (qs.take n) (cs.take n) := by
  refine ⟨by rw [List.length_take, List.length_take, h.len], fun i e => ?_, fun i ws e => ?_⟩
  · rw [List.getElem?_take] at e ⊢
    split at e
    · rw [if_pos (by assumption)]; exact h.no i e
    · cases e
  · rw [List.getElem?_take] at e
    split at e
    · obtain ⟨q, h1, h2, h3⟩ := h.yes i ws e
      refine ⟨q, ?_, h2, h3⟩
      rw [List.getElem?_take, if_pos (by assumption)]; exact h1
    · cases e
theorem take_drop_last {α : Type} (l : List α) {j : Nat} (h : j < l.length) : (l.take (j + 1)).dropLast = l.take j := by
  rw [List.dropLast_eq_take, List.length_take, List.take_take]
  congr 1
  omega
theorem k_popAt {p : Addr} {H : Hp} {Q : VK} {xs : List V} {k : Nat} {y : V} (ho : H p = some (.lst xs)) (hy : xs[k]? = some y) (hz : xs.length ≤ 100000) (q : Q y (upd H p (.lst (xs.eraseIdx k)))) : rPopAt (.ref p) [.int (k : Nat)] H Q := by
  have hk : k < xs.length := (List.getElem?_eq_some_iff.mp hy).1
  exact ⟨p, xs, (k : Nat), k, y, rfl, rfl, ho, by omega, by omega, (ixN_seq (ixN_nat hk)).1, hy, q⟩
theorem k_isi {K : PySem.W.Frag} {H : Hp} {Q : VK} {x : V} {A B : String} {b : Bool} (ty : TyX K H x (.type A)) (hk : PySem.W.kitOne K (.type A) (.type B) = some b) (q : Q (.bl b) H) : rIsi K [x, .ty B] H Q := ⟨x, .ty B, _, _, b, rfl, .ty B, ty, hk, q⟩
theorem tyx_tup {K : PySem.W.Frag} {H : Hp} {a : Addr} {xs : List V} (h : SqT K H a xs) : TyX K H (.ref a) (.type "tuple") := by
  rcases h with (h | ⟨o, h⟩) | ⟨o, its, n, h1, h2, _⟩
  · exact .base (.tup h)
  · exact .fTuple h
  · exact .kTuple h1 h2
theorem dpall_len {K : PySem.W.Frag} {H : Hp} : ∀ {vs : List V} {ds : List PyData}, DpAll K H vs ds → vs.length = ds.length
  | [], [], _ => rfl
  | _ :: _, _ :: _, .cons _ t => by rw [List.length_cons, List.length_cons, dpall_len t]
theorem dpall_at {K : PySem.W.Frag} {H : Hp} : ∀ {vs : List V} {ds : List PyData} {i : Nat}, DpAll K H vs ds → i < ds.length → ∃ v d, vs[i]? = some v ∧ ds[i]? = some d ∧ Dp K H v d
  | [], [], _, _, hi => by simp at hi
  | _ :: _, _ :: _, 0, .cons h _, _ => ⟨_, _, rfl, rfl, h⟩
  | _ :: _, _ :: _, i + 1, .cons _ t, hi => by
    obtain ⟨v, d, h1, h2, h3⟩ := dpall_at (i := i) t (by simpa using hi)
    exact ⟨v, d, by simpa using h1, by simpa using h2, h3⟩
theorem dp_ints {K : PySem.W.Frag} {H : Hp} : ∀ ns : List Int, DpAll K H (ns.map .int) (ns.map .int)
  | [] => .nil
  | n :: r => .cons (.int n) (dp_ints r)
section
variable {S : Nat → Prop} {H H1 : Hp} {L L1 : Lb} {p x : Addr} {o : HO} {l : Lbl}
theorem Stp.nolab (st : Stp S H L H1 L1) (hl : L x = none) (hx : H x = some o) : L1 x = none := by
  cases e : L1 x with
  | none => rfl
  | some m =>
    have z := st.new x m e hl
    rw [z] at hx; cases hx
theorem Stp.relabel (st : Stp S H L H1 L1) (hp : H p = none) (hl : L1 p = none) (ho : H1 p = some o) : Stp S H L H1 (updL L1 p l) := by
  refine ⟨st.dom, fun x m e => ?_, fun x m e n => ?_, fun x m e => ?_, st.keep, st.tup⟩
  · have z := st.ext x m e
    rw [updL_ne (fun w => by rw [w, hl] at z; cases z)]; exact z
  · by_cases hx : x = p
    · subst hx; exact hp
    · rw [updL_ne hx] at e
      exact st.new x m e n
  · by_cases hx : x = p
    · subst hx; exact ⟨o, ho⟩
    · rw [updL_ne hx] at e
      exact st.lab x m e
theorem updL_ext (hl : L p = none) {x : Addr} {m : Lbl} (e : L x = some m) : updL L p l x = some m := by
  rw [updL_ne (fun w => by rw [w, hl] at e; cases e)]; exact e
end
section
variable {K : PySem.W.Frag} {σ : St} {H : Hp} {Q : VK} {D : Ends} {te tk tv : TE} {trs : List (TE × TE)} {p : Addr} {f : Str} {v : V}
def kDisp (p : Addr) (ps : List (V × V)) (H2 : Hp) (Q : VK) : Prop := H2 p = some (.dK []) ∧ ∃ kvs : List (Key × V), ps = kvs.map (fun kv => (kV kv.1, kv.2)) ∧ kvs.length ≤ 15 ∧ Q (.ref p) (upd H2 p (.dK (mergeK [] kvs)))
theorem r_disp (h : ∀ p, H p = none → tPairs trs σ (upd H p (.dK [])) fun ps H2 => kDisp p ps H2 Q) : tDisp trs σ H Q := h
theorem r_pcons {Q : List (V × V) → Hp → Prop} (h : tk σ H fun x H1 => tv σ H1 fun y H2 => tPairs trs σ H2 fun ps H3 => Q ((x, y) :: ps) H3) : tPairs ((tk, tv) :: trs) σ H Q := h
theorem r_pnil {Q : List (V × V) → Hp → Prop} (h : Q [] H) : tPairs [] σ H Q := h
theorem k_disp (kvs : List (Key × V)) (ho : H p = some (.dK [])) (hz : kvs.length ≤ 15) (q : Q (.ref p) (upd H p (.dK (mergeK [] kvs)))) : kDisp p (kvs.map (fun kv => (kV kv.1, kv.2))) H Q := ⟨ho, kvs, rfl, hz, q⟩
def kXf (a : Addr) (cls : Value) (d : Option Addr) (C : Addr) (f : Str) (x : V) (H1 : Hp) (Q : VK) : Prop := x = .ref a ∧ cls = .ref C ∧ ∃ (dd : Addr) (fs : List (Str × V)) (v : V), d = some dd ∧ H1 dd = some (.xd fs) ∧ fs.lookup f = some v ∧ Q v H1
theorem r_xf {a : Addr} {cls : Value} {d : Option Addr} {C : Addr} (h : te σ H fun x H1 => kXf a cls d C f x H1 Q) : tXf a cls d C f te σ H Q := h
theorem k_xf {a dd C : Addr} (ho : H dd = some (.xd [(f, v)])) (q : Q v H) : kXf a (.ref C) (some dd) C f (.ref a) H Q := ⟨rfl, rfl, dd, _, v, rfl, ho, by simp [List.lookup], q⟩
theorem r_try {c : Value} {i : Nat} {tb : WX → TS} {ts : Addr → Value → Option Addr → TS} (h : tb (wAs K c i ts (fun _ _ _ _ => False) D) D σ H) : tTryAs K c i tb ts D σ H := h
theorem k_was {c : Value} {i : Nat} {ts : Addr → Value → Option Addr → TS} {d : Option Addr} {Wo : WX} (hc : PySem.W.exmOne K c c = some true)
    (h : ∀ a, H a = none → ts a c d { nx := fun σ' H' => D.nx (σ'.set i none) H', rt := D.rt, bk := fun σ' H' => D.bk (σ'.set i none) H', ct := fun σ' H' => D.ct (σ'.set i none) H' } (σ.set i (some (.ref a))) H) : wAs K c i ts Wo D c d σ H :=
  ⟨true, hc, fun _ => h, fun z => by cases z⟩
end
theorem k_remN {l : Addr} {H : Hp} {Q : VK} {O : List Nat} {i : Nat} (ho : H l = some (.lst (O.map fun i => V.int (i : Nat)))) (hi : i ∈ O) (q : Q .non (upd H l (.lst ((O.erase i).map fun i => V.int (i : Nat))))) : rRemI (.ref l) [.int (i : Nat)] H Q := by
  have e0 : ∀ M : List Nat, (M.map fun i => V.int (i : Nat)) = (M.map fun i => ((i : Nat) : Int)).map V.int := fun M => by rw [List.map_map]; rfl
  have hj : O.idxOf i < O.length := List.idxOf_lt_length_iff.mpr hi
  have hx : O[O.idxOf i]? = some i := by rw [List.getElem?_eq_getElem hj, List.getElem_idxOf]
  refine ⟨l, O.map fun i => ((i : Nat) : Int), (i : Nat), O.idxOf i, rfl, rfl, by rw [ho, e0], by rw [List.getElem?_map, hx]; rfl, fun m hm => ?_, ?_⟩
  · rw [List.getElem?_map]
    intro z
    have hml : m < O.length := Nat.lt_trans hm hj
    rw [List.getElem?_eq_getElem hml] at z
    have z2 : O[m] = i := Int.ofNat.inj (Option.some.inj z)
    have := List.not_of_lt_findIdx (p := (· == i)) (xs := O) (by exact hm)
    simp [z2] at this
  · have e1 : ((O.map fun i => ((i : Nat) : Int)).eraseIdx (O.idxOf i)).map V.int = (O.erase i).map fun i => V.int (i : Nat) := by
      rw [e0, List.erase_eq_eraseIdx_of_idxOf rfl, List.eraseIdx_eq_take_drop_succ, List.eraseIdx_eq_take_drop_succ, List.map_append, List.map_append, List.map_append, List.map_take, List.map_drop, List.map_take, List.map_drop, List.map_take, List.map_drop]
    rw [e1]; exact q
end Lh

namespace Lh
open PySem L2
open PySem.Spec PyProof.Rows
/-! ### defs that raise, where the exception's context is None -/
theorem passN {X : Cx} : Passes (L2N.CX X.prog X.w) X E0 := by
  intro _ _ _ _ _ _ _ h
  obtain ⟨_, _, _, _, _, _, _, _, _, _, _, _, z⟩ := h
  exact False.elim z
theorem takesN {X : Cx} : L2N.Takes X (fun _ _ _ _ => False) := by
  intro _ _ x
  obtain ⟨_, _, _, _, _, _, _, _, _, _, _, _, _, _, _, _, z⟩ := x
  exact False.elim z
section
variable {P : Program} {w : World} {K : PySem.W.Frag} {mg : Str → Option Value} {base : Heap}
theorem okN {x qual : Str} {st : Stmt} {f : Addr} {fd : FuncData} {N ps : List Str} {k : Nat} {sp : Sp} (F : Fun K x qual st f fd) (S : FnScope N ps (defScope st)) (len : ∀ vs H Q E, sp vs H Q E → vs.length = ps.length)
    (hb : ∀ (cdv : Value) (A : Around) (outer : List Env) (s : Shared) (H : Hp) (vs : List V) (Q : VK) (E : XK), Room k (A.deeper (envOfC qual (defScope st) s.heap.objs.size f cdv)) → sp vs H Q E →
      ∃ t, PSs (cxOf (L2N.CX P w) P w K mg base N qual (defScope st) f cdv A outer s H E) (defBody st) t ∧ t { nx := fun _ H' => Q .non H', rt := Q } (start N vs) H) : FnOk P w K mg base (L2N.CX P w) (k + 1) f fd ps sp := by
  obtain ⟨_, _, _, _, _, _, cdv, _, _, rfl, lk, hc⟩ := F.ex
  exact fn_of lk hc S len fun A outer s H vs Q E r h => hb cdv A outer s H vs Q E r h
/-- a def as called within a suite -/
theorem okH {x qual : Str} {st : Stmt} {f : Addr} {fd : FuncData} {N ps : List Str} {k : Nat} {sp : Sp} (F : Fun K x qual st f fd) (S : FnScope N ps (defScope st)) (len : ∀ vs H Q E, sp vs H Q E → vs.length = ps.length)
    (hb : ∀ (cdv : Value) (A : Around) (outer : List Env) (s : Shared) (H : Hp) (vs : List V) (Q : VK) (E : XK) (p : Addr × Obj), L2H.Hot1 A p → L2H.RoomH k (A.deeper (envOfC qual (defScope st) s.heap.objs.size f cdv)) → sp vs H Q E →
      ∃ t, PSs (L2H.cxH CX0 P w K mg base N qual (defScope st) f cdv A outer s H E p).nox (defBody st) t ∧ t { nx := fun _ H' => Q .non H', rt := Q } (start N vs) H) : L2H.FnH P w K mg base CX0 (k + 1) f fd ps sp := by
  obtain ⟨_, _, _, _, _, _, cdv, _, _, rfl, lk, hc⟩ := F.ex
  refine L2H.fn_ofH lk hc S len fun A outer s H vs Q E p hot r h => ?_
  obtain ⟨t, ht, q⟩ := hb cdv A outer s H vs Q E p hot r h
  exact ⟨t, ht.nox, q⟩
end
/-- the making of an own exception, its context told -/
theorem pmkN {X : Cx} {e : Expr} {es : List Expr} {ta : TA} {p pos : Pos} {CX : CXT} {x : Str} {C fI : Addr} {k : Nat} {fd : FuncData} {ps : List Str} {sp : Sp} {ds : List Value} {dvs : List V} (T : OexC X.K C)
    (iC : PySem.W.findIn X.K (.ref C) "__init__" = some (some (.ref fI))) (tI : PySem.W.typeIn X.K (.ref fI) = some (.type "function"))
    (F1 : FnOk X.prog X.w X.K X.mg X.base CX k fI fd ps sp) (hr : Room (k + 1) X.A) (hb : Binds X.K fd ps ds) (hd : Vals dvs ds) (hx : Passes CX X (fun _ _ _ => False))
    (hg : Gl X x) (hm : X.mg x = some (.ref C)) (ha : PA X (e :: es) ta)
    (hdb : (x == ("__debug__" : Str)) = false := by decide) (he : starEach (e :: es) X.env = (false, eval e X.env) :: starEach es X.env := by rfl)
    (hpl : (backTo pos (starEach es X.env)).any (·.1) = false := by rfl) :
    L2N.PMk X (.Call (.Name x p) (e :: es) [] pos) (tMkO C sp dvs ta) := by
  intro pins s σ H Q I h
  obtain ⟨_, _, _, _, bm, _, _, _, _, _, _, _, _, _, _, hC, hbm⟩ := T.cls
  refine wpAny_Call_Name_kw (ld_glob I hg hm ?_ hdb)
  refine PySem.W.callWith_K (h₀ := X.base) I.ok.mod.kin T.kC (thn (ha.run pos pins s σ H _ I h) fun us s1 y => ?_) he hpl
  obtain ⟨vs, H1, I1, rv, hz, go⟩ := y
  refine ⟨I1.kIn, ?_⟩
  obtain ⟨hp, gs, dw, tk, os⟩ := s1
  let n := hp.objs.size
  let hp2 := (hp.push (PySem.W.kdv_tup us)).push (PySem.HandSPX.excO C n)
  have up1 : n ≤ n + 1 := Nat.le_succ n
  have fr1 : H1 (n + 1) = none := I1.hok.fresh up1
  have kp : ∀ b o, hp.get? b = some o → hp2.get? b = some o := by
    intro b o z
    exact Heap.get?_push_of_some _ (Heap.get?_push_of_some _ z)
  have at1 : hp2.get? (n + 1) = some (PySem.HandSPX.excO C n) := by
    show ((hp.push (PySem.W.kdv_tup us)).push (PySem.HandSPX.excO C hp.objs.size)).get? (hp.objs.size + 1) = _
    heap_get
  have I2 : Inv X pins σ (upd H1 (n + 1) (exo (n + 1) C none)) ⟨hp2, gs, dw, tk, os⟩ := I1.laid (t' := tk) (a := n + 1) (o := exo (n + 1) C none) (h' := hp2) kp up1 (exo_ok at1)
  have rv2 : Vals (V.ref (n + 1) :: (vs ++ dvs)) (Value.ref (n + 1) :: (us ++ ds)) := .cons rfl (rv.append hd)
  have go1 := go (n + 1) fr1
  have ln : (Value.ref (n + 1) :: us ++ ds).length = ps.length := (rv2.length.symm.trans (F1.len _ _ _ _ go1))
  have small : us.length ≤ sizeLine := by
    have z := Paired.length rv
    rw [← z, sizeLine_eq]; omega
  show wpAny _ _ (call (.ref C) us) _ _ _
  refine wpAny_call (PySem.HandSPX.call_own F.excBase_ValueError (fun Y => PySem.HandSPX.refsVE_contains Y bm hbm) (I1.kIn _ _ hC) (PySem.W.looks_findIn I1.kIn iC) (fun me => PySem.W.bind_fn I1.kIn me tI) small ?_)
  refine codeAny_mono (F1.run _ X.stack _ _ ⟨Value.ref (n + 1) :: us, []⟩ _ _ _ (fun _ _ _ => False) (hr.make C us []) (I2.env0.make C us []) (hb _ (Value.ref (n + 1) :: us) I2.kIn ln) rv2 go1) fun r s2 y => ?_
  match r, y with
  | .error er, y => exact hx pins σ _ _ er s2 I2 y
  | .ok .next, y => exact y.elim
  | .ok .brk, y => exact y.elim
  | .ok .cont, y => exact y.elim
  | .ok (.ret u), y =>
    obtain ⟨v, H2, o2, b2, u2, hk2, ru, rfl, d, fs, ea, ed, dn, q⟩ := y
    obtain ⟨h3, g3, d3, t3, o3⟩ := s2
    obtain ⟨t0, G, J, kG, gn, ge, nn⟩ := mk_end0 (d2 := d3) (t2 := t3) I1 up1 kp u2 hk2 o2 b2 ea ed dn
    exact ⟨ru, n + 1, _, _, ⟨G, g3, d3, t3, o3⟩, _, .ref C, some d, rfl, J, kG, gn, ge, ⟨rfl, rfl, fun vs hv => by cases hv; rfl⟩, rfl, rfl, nn, rfl, b2, raises_own T.exC T.tyC, q⟩
/-- a suite is hot -/
theorem hotS {X : Cx} {a : Addr} {oe : Obj} {cls : Value} {d : Option Addr} {pn : List (Addr × Obj)} (hz : L2N.Zn cls d oe) (hf : ∃ vs, oe.data = .fields vs) : L2H.HotC (X.suite a ((a, oe) :: pn)) := by
  obtain ⟨vs, e⟩ := hf
  exact ⟨(a, oe), ⟨rfl, vs, e, hz.2.2 vs e⟩, List.mem_cons_self⟩
end Lh
namespace Lh
open PySem L2
open PySem.Spec PyProof.Rows
def sp6 (r : V → V → V → V → V → V → Hp → VK → XK → Prop) : Sp := fun vs H Q E => ∃ x y z u v w, vs = [x, y, z, u, v, w] ∧ r x y z u v w H Q E
def sp7 (r : V → V → V → V → V → V → V → Hp → VK → XK → Prop) : Sp := fun vs H Q E => ∃ x y z u v w t, vs = [x, y, z, u, v, w, t] ∧ r x y z u v w t H Q E
theorem sp6_i {r : V → V → V → V → V → V → Hp → VK → XK → Prop} {x y z u v w : V} {H : Hp} {Q : VK} {E : XK} (h : r x y z u v w H Q E) : sp6 r [x, y, z, u, v, w] H Q E := ⟨x, y, z, u, v, w, rfl, h⟩
theorem sp7_i {r : V → V → V → V → V → V → V → Hp → VK → XK → Prop} {x y z u v w t : V} {H : Hp} {Q : VK} {E : XK} (h : r x y z u v w t H Q E) : sp7 r [x, y, z, u, v, w, t] H Q E := ⟨x, y, z, u, v, w, t, rfl, h⟩
theorem pass0At {X : Cx} {σ : L2.St} {E : XK} : PassesAt CX0 X σ E := fun _ _ _ _ _ _ h => h.elim
theorem fnH_none {P : Program} {w : World} {K : PySem.W.Frag} {mg : Str → Option Value} {base : Heap} {CX : CXT} {k : Nat} {f : Addr} {fd : FuncData} {ps : List Str} : L2H.FnH P w K mg base CX k f fd ps (fun _ _ _ _ => False) :=
  ⟨fun _ _ _ _ h => h.elim, fun _ _ _ _ _ _ _ _ _ _ _ _ _ _ _ _ h => h.elim⟩
/-! ### steps -/
section
variable {K : PySem.W.Frag} {σ : L2.St} {H : Hp} {D : Ends} {Q : VK} {tas : TA} {te td ty tv : TE} {p a : Addr} {v y : V}
theorem r_gn {i : Nat} {Q : L2.St → Hp → Prop} (q : Q (σ.set i (some v)) H) : gName i v σ H Q := q
theorem r_callS {sp : Sp} {E : L2.St → XK} (h : tas σ H fun vs H1 => sp vs H1 Q (E σ)) : tCallS sp E tas σ H Q := h
theorem r_never {D : Ends} (h : False) : tNever D σ H := h.elim
def kTupRev (K : PySem.W.Frag) (v : V) (H1 : Hp) (Q : VK) : Prop := ∃ (a : Addr) (xs : List V), v = .ref a ∧ SqL K H1 a xs ∧ ∀ q, H1 q = none → Q (.ref q) (upd H1 q (.tup xs.reverse))
theorem r_tupRev (h : te σ H fun v H1 => kTupRev K v H1 Q) : RT.tTupRev K te σ H Q := h
theorem k_tupRev {xs : List V} (ho : SqL K H p xs) (q : ∀ q, H q = none → Q (.ref q) (upd H q (.tup xs.reverse))) : kTupRev K (.ref p) H Q := ⟨p, xs, rfl, ho, q⟩
/-! dicts -/
def kDDel (x y : V) (H2 : Hp) (Q : Hp → Prop) : Prop := ∃ a kvs k, x = .ref a ∧ H2 a = some (.dK kvs) ∧ y = kV k ∧ (valV kvs k).isSome = true ∧ Q (upd H2 a (.dK (dropK kvs k)))
theorem r_ddel (h : td σ H fun x H1 => ty σ H1 fun y H2 => kDDel x y H2 (D.nx σ)) : sDDel td ty D σ H := h
theorem k_ddelI {Q : Hp → Prop} {kvs : List (Key × V)} {k : Int} (ho : H p = some (.dK kvs)) (g : valV kvs (.inl k) = some v) (q : Q (upd H p (.dK (dropK kvs (.inl k))))) : kDDel (.ref p) (.int k) H Q :=
  ⟨p, kvs, .inl k, rfl, ho, rfl, by rw [g]; rfl, q⟩
theorem k_dinI {kvs : List (Key × V)} {k : Int} {neg : Bool} (ho : H p = some (.dK kvs)) (q : Q (.bl (if neg then !(valV kvs (.inl k)).isSome else (valV kvs (.inl k)).isSome)) H) : kDIn neg (.ref p) (.int k) H Q :=
  ⟨p, valV kvs (.inl k), rfl, DGet.k (k := Sum.inl k) ho, q⟩
def kDPop (x : V) (H1 : Hp) (t : TE) (σ : L2.St) (Q : VK) : Prop := ∃ a, x = .ref a ∧ IsD H1 a ∧ t σ H1 fun y H2 => ∃ kvs k v, H2 a = some (.dK kvs) ∧ y = kV k ∧ valV kvs k = some v ∧ Q v (upd H2 a (.dK (dropK kvs k)))
theorem r_dpop (h : td σ H fun x H1 => kDPop x H1 ty σ Q) : tDPop1 td ty σ H Q := h
theorem k_dpop {kvs : List (Key × V)} {t : TE} (ho : H p = some (.dK kvs)) (q : t σ H fun y H2 => ∃ kvs k v, H2 p = some (.dK kvs) ∧ y = kV k ∧ valV kvs k = some v ∧ Q v (upd H2 p (.dK (dropK kvs k)))) : kDPop (.ref p) H t σ Q :=
  ⟨p, rfl, .inl ⟨kvs, .inl ho⟩, q⟩
theorem r_dnewK (q : ∀ p, H p = none → Q (.ref p) (upd H p (.dK []))) : tDNewK σ H Q := q
abbrev rSortedDI : List V → Hp → VK → Prop := fun xs H Q => ∃ (a : Addr) (kvs : List (Key × V)) (ks : List Int), xs = [.ref a] ∧ Rd H a (.dK kvs) ∧ kvs.map (·.1) = ks.map Sum.inl ∧ ks.length < 64 ∧
    ∀ (ys : List Int) (p : Addr), ys.Perm ks → ys.Pairwise (· ≤ ·) → H p = none → Q (.ref p) (upd H p (.lst (ys.map V.int)))
end
section
variable {K : PySem.W.Frag} {σ : L2.St} {H : Hp} {i j k l : Nat} {x y z u : V}
theorem g_three {Q : L2.St → Hp → Prop} {T : Addr} (ho : H T = some (.tup [x, y, z])) (q : Q (((σ.set i (some x)).set j (some y)).set k (some z)) H) : gTup K 3 (gCons (gName i) (gCons (gName j) (gCons (gName k) gNil))) (.ref T) σ H Q :=
  ⟨T, [x, y, z], rfl, .inl (.inl ho), rfl, x, [y, z], rfl, y, [z], rfl, z, [], rfl, rfl, q⟩
theorem g_four {Q : L2.St → Hp → Prop} {T : Addr} (ho : H T = some (.tup [x, y, z, u])) (q : Q ((((σ.set i (some x)).set j (some y)).set k (some z)).set l (some u)) H) : gTup K 4 (gCons (gName i) (gCons (gName j) (gCons (gName k) (gCons (gName l) gNil)))) (.ref T) σ H Q :=
  ⟨T, [x, y, z, u], rfl, .inl (.inl ho), rfl, x, [y, z, u], rfl, y, [z, u], rfl, z, [u], rfl, u, [], rfl, rfl, q⟩
theorem r_sl {r : V → Option Int → Option Int → Hp → VK → Prop} {te : TE} {tl th : TO} {Q : VK} (h : te σ H fun x H1 => tl σ H1 fun l H2 => th σ H2 fun u H3 => r x l u H3 Q) : tSl r te tl th σ H Q := h
theorem r_noPart {Q : Option Int → Hp → Prop} (h : Q none H) : tNoPart σ H Q := h
def kPart (x : V) (H : Hp) (Q : Option Int → Hp → Prop) : Prop := ∃ i, x = .int i ∧ Q (some i) H
theorem r_part {t : TE} {Q : Option Int → Hp → Prop} (h : t σ H fun x H1 => kPart x H1 Q) : tPart t σ H Q := h
theorem k_part {n : Int} {Q : Option Int → Hp → Prop} (q : Q (some n) H) : kPart (.int n) H Q := ⟨n, rfl, q⟩
theorem k_slL {xs : List V} {lo hi : Option Int} {p : Addr} {Q : VK} (ho : SqL K H p xs) (q : ∀ l, H l = none → Q (.ref l) (upd H l (.lst (cutV xs lo hi)))) : rSlL K (.ref p) lo hi H Q := ⟨p, xs, rfl, ho, q⟩
theorem cutV_take (xs : List V) (n : Nat) : cutV xs none (some (n : Nat)) = xs.take n := by
  unfold cutV
  rw [HT.sIx_none, HT.sIx_nat, List.drop_zero, Nat.sub_zero]
  by_cases h : n ≤ xs.length
  · rw [Nat.min_eq_left h]
  · rw [Nat.min_eq_right (by omega), List.take_of_length_le (Nat.le_refl _), List.take_of_length_le (by omega)]
theorem same_mk2 {H : Hp} {x dx C : Addr} (hx : H x = none) (hdx : H dx = none) : Same H (upd (upd H dx (.own x)) x (.ins C dx [])) := fun b o e => by
  rw [upd_ne (ne_of_none e hx), upd_ne (ne_of_none e hdx)]; exact e
end
/-! ### comprehensions whose items are new objects -/
section
variable {K : PySem.W.Frag} {te te0 : TE} {σ : L2.St} {H : Hp} {Q : VK} {vs : List Nat} {j : Nat} {a : Addr} {xs : List V} {tas : TA} {g : TG} {tt : TT}
/-- tuples stand -/
def TK (H H' : Hp) : Prop := ∀ x us, H x = some (.tup us) → H' x = some (.tup us)
theorem TK.refl : TK H H := fun _ _ e => e
theorem TK.trans {H1 H2 : Hp} (a : TK H H1) (b : TK H1 H2) : TK H H2 := fun x us e => b x us (a x us e)
theorem TK.of_same {H1 : Hp} (s : Same H H1) : TK H H1 := fun x us e => s x _ e
theorem TK.of_stp {S : Nat → Prop} {L L' : Lb} {H1 : Hp} (s : Stp S H L H1 L') : TK H H1 := fun x us e => s.tup x us e
theorem TK.write {D : Addr} {o o0 : HO} (h : H D = some o0) (hn : ∀ us, o0 ≠ .tup us := by intro us z; cases z) : TK H (upd H D o) := fun x us e => by
  have : x ≠ D := fun z => by
    rw [z, h] at e; exact hn us (Option.some.inj e)
  rw [upd_ne this]; exact e
theorem k_lcRN {n : Nat} (R : Nat → V → Hp → Prop) (hR : ∀ i y H H', TK H H' → R i y H → R i y H') (hz : n ≤ 1000) (hw : ∀ x, wipe ((wipe σ vs).set j (some x)) vs = wipe σ vs)
    (he : ∀ (i : Nat) (H' : Hp), i < n → Same H H' → ∀ Q : VK, (∀ y H2, Same H' H2 → R i y H2 → Q y H2) → te ((wipe σ vs).set j (some (.int (i : Nat)))) H' Q)
    (q : ∀ D H' ys, H D = none → Same H H' → H' D = some (.lst ys) → ys.length = n → (∀ i y, ys[i]? = some y → R i y H') → Q (.ref D) H') : kLcR1 (gName j) tYes te vs σ [.int (n : Nat)] H Q := by
  refine ⟨(n : Nat), rfl, by omega, by omega, fun D hD => ?_⟩
  rw [Int.toNat_natCast]
  refine lc_range (lo := 0) (n := n) (fun i H' => Same H H' ∧ ∃ ys, H' D = some (.lst ys) ∧ ys.length = i ∧ ∀ m y, ys[m]? = some y → R m y H') ⟨same_new hD, [], upd_same, rfl, fun m y z => by simp at z⟩ (fun i H' hi p => ?_) fun H' p => ?_
  · obtain ⟨s, ys, e, l, r⟩ := p
    rw [Int.zero_add]
    refine ⟨hw _, ?_⟩
    refine he i H' hi s _ fun y H2 s2 ry => ⟨ys, s2 _ _ e, small1000 (by omega), fun b o z => ?_, ys ++ [y], upd_same, by rw [List.length_append, l]; rfl, fun m z hm => ?_⟩
    · rw [upd_ne (ne_of_none z hD)]; exact s2 _ _ (s b o z)
    · have tk := TK.write (o := HO.lst (ys ++ [y])) (s2 _ _ e)
      by_cases hml : m < ys.length
      · rw [List.getElem?_append_left hml] at hm
        exact hR _ _ _ _ (TK.trans (.of_same s2) tk) (r m z hm)
      · rw [List.getElem?_append_right (by omega)] at hm
        have : m = ys.length := by
          have := (List.getElem?_eq_some_iff.mp hm).1
          simp at this; omega
        subst this
        rw [Nat.sub_self] at hm
        cases hm
        rw [l]
        exact hR _ _ _ _ tk ry
  · obtain ⟨s, ys, e, l, r⟩ := p
    exact q D H' ys hD s e l r
theorem k_lcLN (ho : SqL K H a xs) (R : Nat → V → Hp → Prop) (hR : ∀ i y H H', TK H H' → R i y H → R i y H') (hz : xs.length ≤ 1000) (hw : ∀ x, wipe ((wipe σ vs).set j (some x)) vs = wipe σ vs)
    (he : ∀ (i : Nat) (x : V) (H' : Hp), xs[i]? = some x → Same H H' → ∀ Q : VK, (∀ y H2, Same H' H2 → R i y H2 → Q y H2) → te ((wipe σ vs).set j (some x)) H' Q)
    (q : ∀ D H' ys, H D = none → Same H H' → H' D = some (.lst ys) → ys.length = xs.length → (∀ i y, ys[i]? = some y → R i y H') → Q (.ref D) H') : kLcL K (gName j) tYes te vs σ (.ref a) H Q := by
  refine ⟨a, rfl, ⟨xs, ho⟩, fun D hD => ?_⟩
  refine lc_list (xs := xs) (fun i H' => Same H H' ∧ ∃ ys, H' D = some (.lst ys) ∧ ys.length = i ∧ ∀ m y, ys[m]? = some y → R m y H') ⟨same_new hD, [], upd_same, rfl, fun m y z => by simp at z⟩ (fun i H' _ p => p.1.seq ho) (fun i x H' hi p => ?_) fun H' p => ?_
  · have hil : i < xs.length := (List.getElem?_eq_some_iff.mp hi).1
    obtain ⟨s, ys, e, l, r⟩ := p
    refine ⟨hw x, ?_⟩
    refine he i x H' hi s _ fun y H2 s2 ry => ⟨ys, s2 _ _ e, small1000 (by omega), fun b o z => ?_, ys ++ [y], upd_same, by rw [List.length_append, l]; rfl, fun m z hm => ?_⟩
    · rw [upd_ne (ne_of_none z hD)]; exact s2 _ _ (s b o z)
    · have tk := TK.write (o := HO.lst (ys ++ [y])) (s2 _ _ e)
      by_cases hml : m < ys.length
      · rw [List.getElem?_append_left hml] at hm
        exact hR _ _ _ _ (TK.trans (.of_same s2) tk) (r m z hm)
      · rw [List.getElem?_append_right (by omega)] at hm
        have : m = ys.length := by
          have := (List.getElem?_eq_some_iff.mp hm).1
          simp at this; omega
        subst this
        rw [Nat.sub_self] at hm
        cases hm
        rw [l]
        exact hR _ _ _ _ tk ry
  · obtain ⟨s, ys, e, l, r⟩ := p
    exact q D H' ys hD s e l r
theorem sameT {H1 : Hp} (s : Same H H1) (h : SqT K H a xs) : SqT K H1 a xs := by
  rcases h with (z | ⟨od, z⟩) | z
  · exact .inl (.inl (s _ _ z))
  · exact .inl (.inr ⟨od, s _ _ z⟩)
  · exact .inr z
def kLcT (K : PySem.W.Frag) (g : TG) (tt : TT) (te : TE) (vs : List Nat) (σ : L2.St) (x : V) (H : Hp) (Q : VK) : Prop := tLc (iTup K (tC x)) g tt te vs σ H Q
theorem r_lcT (h : te0 σ H fun x H1 => kLcT K g tt te vs σ x H1 Q) : tLc (iTup K te0) g tt te vs σ H Q := h
theorem k_lcTN (ho : SqT K H a xs) (R : Nat → V → Hp → Prop) (hR : ∀ i y H H', TK H H' → R i y H → R i y H') (hz : xs.length ≤ 1000) (hw : ∀ x, wipe ((wipe σ vs).set j (some x)) vs = wipe σ vs)
    (he : ∀ (i : Nat) (x : V) (H' : Hp), xs[i]? = some x → Same H H' → ∀ Q : VK, (∀ y H2, Same H' H2 → R i y H2 → Q y H2) → te ((wipe σ vs).set j (some x)) H' Q)
    (q : ∀ D H' ys, H D = none → Same H H' → H' D = some (.lst ys) → ys.length = xs.length → (∀ i y, ys[i]? = some y → R i y H') → Q (.ref D) H') : kLcT K (gName j) tYes te vs σ (.ref a) H Q := by
  refine ⟨a, rfl, ⟨xs, ho⟩, fun D hD => ?_⟩
  refine lc_tup (xs := xs) (fun i H' => Same H H' ∧ ∃ ys, H' D = some (.lst ys) ∧ ys.length = i ∧ ∀ m y, ys[m]? = some y → R m y H') ⟨same_new hD, [], upd_same, rfl, fun m y z => by simp at z⟩ (fun i H' _ p => sameT p.1 ho) (fun i x H' hi p => ?_) fun H' p => ?_
  · have hil : i < xs.length := (List.getElem?_eq_some_iff.mp hi).1
    obtain ⟨s, ys, e, l, r⟩ := p
    refine ⟨hw x, ?_⟩
    refine he i x H' hi s _ fun y H2 s2 ry => ⟨ys, s2 _ _ e, small1000 (by omega), fun b o z => ?_, ys ++ [y], upd_same, by rw [List.length_append, l]; rfl, fun m z hm => ?_⟩
    · rw [upd_ne (ne_of_none z hD)]; exact s2 _ _ (s b o z)
    · have tk := TK.write (o := HO.lst (ys ++ [y])) (s2 _ _ e)
      by_cases hml : m < ys.length
      · rw [List.getElem?_append_left hml] at hm
        exact hR _ _ _ _ (TK.trans (.of_same s2) tk) (r m z hm)
      · rw [List.getElem?_append_right (by omega)] at hm
        have : m = ys.length := by
          have := (List.getElem?_eq_some_iff.mp hm).1
          simp at this; omega
        subst this
        rw [Nat.sub_self] at hm
        cases hm
        rw [l]
        exact hR _ _ _ _ tk ry
  · obtain ⟨s, ys, e, l, r⟩ := p
    exact q D H' ys hD s e l r
end
end Lh

namespace Lh
open PySem L2
/-! ### dicts by number -/
section
variable {α : Type}
def upM (M : Nat → Option α) (g : Nat) (r : α) : Nat → Option α := fun j => if j = g then some r else M j
def delM (M : Nat → Option α) (g : Nat) : Nat → Option α := fun j => if j = g then none else M j
theorem upM_same {M : Nat → Option α} {g : Nat} {r : α} : upM M g r g = some r := if_pos rfl
theorem upM_ne {M : Nat → Option α} {g j : Nat} {r : α} (h : j ≠ g) : upM M g r j = M j := if_neg h
theorem delM_same {M : Nat → Option α} {g : Nat} : delM M g g = none := if_pos rfl
theorem delM_ne {M : Nat → Option α} {g j : Nat} (h : j ≠ g) : delM M g j = M j := if_neg h
abbrev kN (g : Nat) : Key := Sum.inl ((g : Nat) : Int)
theorem kN_inj {g h : Nat} (e : kN g = kN h) : g = h := by
  have : ((g : Nat) : Int) = (h : Nat) := Sum.inl.inj e
  omega
theorem valV_none {κ : Type} [DecidableEq κ] {k : κ} {kvs : List (κ × V)} : valV kvs k = none ↔ k ∉ kvs.map (·.1) := by
  induction kvs with
  | nil => simp [valV_nil]
  | cons p r ih =>
    by_cases e : p.1 = k
    · rw [valV_pos e]; simp [e]
    · rw [valV_neg e, ih]
      simp only [List.map_cons, List.mem_cons, not_or]
      exact ⟨fun h => ⟨fun z => e z.symm, h⟩, fun h => h.2⟩
structure DM (kvs : List (Key × V)) (n : Nat) (M : Nat → Option α) (R : Nat → α → V → Prop) : Prop where
  ks : ∃ gs : List Nat, kvs.map (·.1) = gs.map kN ∧ gs.Nodup ∧ ∀ g, g ∈ gs ↔ ∃ r, M g = some r
  bd : ∀ g r, M g = some r → g < n
  val : ∀ g r, M g = some r → ∃ v, valV kvs (kN g) = some v ∧ R g r v
theorem DM.nil {n : Nat} {R : Nat → α → V → Prop} : DM [] n (fun _ => none) R := by
  refine ⟨⟨[], rfl, List.nodup_nil, fun g => ⟨fun z => (List.not_mem_nil z).elim, fun z => ?_⟩⟩, fun _ _ z => ?_, fun _ _ z => ?_⟩
  · obtain ⟨_, z⟩ := z; cases z
  · cases z
  · cases z
variable {kvs : List (Key × V)} {n : Nat} {M : Nat → Option α} {R R' : Nat → α → V → Prop}
theorem DM.mono (h : DM kvs n M R) (f : ∀ g r v, M g = some r → R g r v → R' g r v) : DM kvs n M R' :=
  ⟨h.ks, h.bd, fun g r e => by
    obtain ⟨v, e1, e2⟩ := h.val g r e
    exact ⟨v, e1, f g r v e e2⟩⟩
theorem DM.none (h : DM kvs n M R) {g : Nat} (e : M g = none) : valV kvs (kN g) = none := by
  obtain ⟨gs, e1, nd, mm⟩ := h.ks
  rw [valV_none, e1]
  intro z
  obtain ⟨g', hg', e2⟩ := List.mem_map.mp z
  have := kN_inj e2
  subst this
  obtain ⟨r, e3⟩ := (mm g').mp hg'
  rw [e] at e3; cases e3
theorem DM.isSome (h : DM kvs n M R) (g : Nat) : (valV kvs (kN g)).isSome = (M g).isSome := by
  cases e : M g with
  | none => rw [h.none e]; rfl
  | some r =>
    obtain ⟨v, e1, _⟩ := h.val g r e
    rw [e1]; rfl
theorem DM.put (h : DM kvs n M R) {g : Nat} {r : α} {v : V} (hg : g < n) (hr : R g r v) : DM (putK kvs (kN g) v) n (upM M g r) R := by
  obtain ⟨gs, e1, nd, mm⟩ := h.ks
  refine ⟨?_, fun j s e => ?_, fun j s e => ?_⟩
  · by_cases a : ∃ s, M g = some s
    · refine ⟨gs, ?_, nd, fun j => ?_⟩
      · have an : (kvs.any fun kv => decide (kv.1 = kN g)) = true := by
          rw [valV_any, h.isSome]
          obtain ⟨s, e⟩ := a
          rw [e]; rfl
        unfold putK
        rw [if_pos an, ← e1, List.map_map]
        refine List.map_congr_left fun kv _ => ?_
        show (if kv.1 = kN g then (kv.1, v) else kv).1 = kv.1
        split <;> rfl
      · by_cases hj : j = g
        · subst hj
          rw [upM_same]
          exact ⟨fun _ => ⟨r, rfl⟩, fun _ => (mm j).mpr a⟩
        · rw [upM_ne hj]; exact mm j
    · have e0 : M g = Option.none := by
        cases e : M g with
        | none => rfl
        | some s => exact (a ⟨s, e⟩).elim
      refine ⟨gs ++ [g], ?_, ?_, fun j => ?_⟩
      · rw [putK_new v (h.none e0), List.map_append, List.map_append, e1]; rfl
      · refine List.nodup_append.mpr ⟨nd, by simp, fun x hx y hy z => ?_⟩
        simp only [List.mem_singleton] at hy
        subst hy; subst z
        exact a ((mm x).mp hx)
      · rw [List.mem_append, List.mem_singleton]
        by_cases hj : j = g
        · subst hj; rw [upM_same]; exact ⟨fun _ => ⟨r, rfl⟩, fun _ => .inr rfl⟩
        · rw [upM_ne hj, mm j]
          exact ⟨fun z => z.elim id fun w => (hj w).elim, .inl⟩
  · by_cases hj : j = g
    · subst hj; exact hg
    · rw [upM_ne hj] at e; exact h.bd j s e
  · rw [valV_put]
    by_cases hj : j = g
    · subst hj
      rw [upM_same] at e; cases e
      rw [if_pos rfl]
      exact ⟨v, rfl, hr⟩
    · rw [upM_ne hj] at e
      rw [if_neg (fun z => hj (kN_inj z))]
      exact h.val j s e
theorem DM.chg (h : DM kvs n M R) {g : Nat} {r r' : α} (hg : M g = some r) (h1 : ∀ v, R g r v → R' g r' v) (h2 : ∀ j s v, j ≠ g → M j = some s → R j s v → R' j s v) : DM kvs n (upM M g r') R' := by
  obtain ⟨gs, e1, nd, mm⟩ := h.ks
  refine ⟨⟨gs, e1, nd, fun j => ?_⟩, fun j s e => ?_, fun j s e => ?_⟩
  · by_cases hj : j = g
    · subst hj; rw [upM_same, mm j]; exact ⟨fun _ => ⟨_, rfl⟩, fun _ => ⟨_, hg⟩⟩
    · rw [upM_ne hj]; exact mm j
  · by_cases hj : j = g
    · subst hj; exact h.bd j r hg
    · rw [upM_ne hj] at e; exact h.bd j s e
  · by_cases hj : j = g
    · subst hj
      rw [upM_same] at e; cases e
      obtain ⟨v, e1, e2⟩ := h.val j r hg
      exact ⟨v, e1, h1 v e2⟩
    · rw [upM_ne hj] at e
      obtain ⟨v, e1, e2⟩ := h.val j s e
      exact ⟨v, e1, h2 j s v hj e e2⟩
theorem valV_drop {κ : Type} [DecidableEq κ] {k j : κ} : ∀ kvs : List (κ × V), valV (dropK kvs k) j = if j = k then none else valV kvs j
  | [] => by simp [dropK, valV_nil]
  | p :: r => by
    have ih := valV_drop (k := k) (j := j) r
    have e0 : dropK (p :: r) k = if p.1 = k then dropK r k else p :: dropK r k := by
      unfold dropK
      rw [List.filter_cons]
      by_cases e : p.1 = k
      · simp [e]
      · simp [e]
    rw [e0]
    by_cases e : p.1 = k
    · rw [if_pos e, ih]
      by_cases ej : j = k
      · rw [if_pos ej, if_pos ej]
      · rw [if_neg ej, if_neg ej, valV_neg (fun z => ej (z.symm.trans e))]
    · rw [if_neg e]
      by_cases e2 : p.1 = j
      · rw [valV_pos e2, valV_pos e2, if_neg (fun z => e (e2.trans z))]
      · rw [valV_neg e2, valV_neg e2, ih]
theorem DM.del (h : DM kvs n M R) (g : Nat) : DM (dropK kvs (kN g)) n (delM M g) R := by
  obtain ⟨gs, e1, nd, mm⟩ := h.ks
  refine ⟨⟨gs.filter (fun j => decide (j ≠ g)), ?_, (List.Pairwise.filter _ nd), fun j => ?_⟩, fun j s e => ?_, fun j s e => ?_⟩
  · clear nd mm h
    induction kvs generalizing gs with
    | nil =>
      cases gs with
      | nil => rfl
      | cons _ _ => cases e1
    | cons p r ih =>
      cases gs with
      | nil => cases e1
      | cons g' gs =>
        simp only [List.map_cons, List.cons.injEq] at e1
        have ih' := ih gs e1.2
        unfold dropK at ih' ⊢
        rw [List.filter_cons, List.filter_cons, e1.1]
        by_cases hg : g' = g
        · subst hg; simpa using ih'
        · have h2 : ¬ kN g' = kN g := fun z => hg (kN_inj z)
          simp only [decide_not, h2, decide_false, Bool.not_false, if_true, hg, List.map_cons, e1.1]
          rw [List.cons.injEq]
          exact ⟨rfl, by simpa using ih'⟩
  · rw [List.mem_filter]
    by_cases hj : j = g
    · subst hj; rw [delM_same]; simp
    · rw [delM_ne hj, mm j]; simp [hj]
  · by_cases hj : j = g
    · subst hj; rw [delM_same] at e; cases e
    · rw [delM_ne hj] at e; exact h.bd j s e
  · rw [valV_drop]
    by_cases hj : j = g
    · subst hj; rw [delM_same] at e; cases e
    · rw [delM_ne hj] at e
      rw [if_neg (fun z => hj (kN_inj z))]
      exact h.val j s e
def dom (n : Nat) (M : Nat → Option α) : List Nat := (List.range n).filter fun g => (M g).isSome
theorem mem_dom {n : Nat} {M : Nat → Option α} {g : Nat} : g ∈ dom n M ↔ g < n ∧ ∃ r, M g = some r := by
  unfold dom
  rw [List.mem_filter, List.mem_range, Option.isSome_iff_exists]
theorem dom_nodup {n : Nat} {M : Nat → Option α} : (dom n M).Nodup := List.Pairwise.filter _ List.nodup_range
theorem dom_sorted {n : Nat} {M : Nat → Option α} : (dom n M).Pairwise (· < ·) := List.Pairwise.filter _ List.pairwise_lt_range
theorem DM.keys (h : DM kvs n M R) : ∃ gs : List Nat, kvs.map (·.1) = gs.map kN ∧ gs.Perm (dom n M) := by
  obtain ⟨gs, e1, nd, mm⟩ := h.ks
  refine ⟨gs, e1, (List.perm_ext_iff_of_nodup nd dom_nodup).mpr fun g => ?_⟩
  rw [mm g, mem_dom]
  exact ⟨fun ⟨r, e⟩ => ⟨h.bd g r e, r, e⟩, fun z => z.2⟩
theorem dom_len {n : Nat} {M : Nat → Option α} : (dom n M).length ≤ n := by
  have := List.length_filter_le (fun g => (M g).isSome) (List.range n)
  rw [List.length_range] at this
  exact this
theorem DM.len (h : DM kvs n M R) : kvs.length ≤ n := by
  obtain ⟨gs, e1, pm⟩ := h.keys
  have := congrArg List.length e1
  rw [List.length_map, List.length_map] at this
  have := pm.length_eq
  have := dom_len (n := n) (M := M)
  omega
/-- the sorted keys are the domain -/
theorem sorted_dom {gs : List Nat} {ys : List Int} (pm : gs.Perm (dom n M)) (p : ys.Perm (gs.map fun g => ((g : Nat) : Int))) (s : ys.Pairwise (· ≤ ·)) : ys = (dom n M).map fun g => ((g : Nat) : Int) := by
  refine List.Perm.eq_of_pairwise (le := (· ≤ ·)) (fun a b _ _ h1 h2 => by omega) s ?_ (p.trans (pm.map _))
  rw [List.pairwise_map]
  exact dom_sorted.imp fun h => by omega
end
theorem nodup_ix {l : List Nat} (nd : l.Nodup) {i j x : Nat} (hi : l[i]? = some x) (hj : l[j]? = some x) : i = j := by
  rcases Nat.lt_trichotomy i j with h | h | h
  · exact absurd rfl (List.pairwise_iff_getElem.mp nd i j (List.getElem?_eq_some_iff.mp hi).1 (List.getElem?_eq_some_iff.mp hj).1 h |> fun z => by
      rw [(List.getElem?_eq_some_iff.mp hi).2, (List.getElem?_eq_some_iff.mp hj).2] at z; exact z)
  · exact h
  · exact absurd rfl (List.pairwise_iff_getElem.mp nd j i (List.getElem?_eq_some_iff.mp hj).1 (List.getElem?_eq_some_iff.mp hi).1 h |> fun z => by
      rw [(List.getElem?_eq_some_iff.mp hi).2, (List.getElem?_eq_some_iff.mp hj).2] at z; exact z)
/-! ### rows of int tuples -/
def intL (O : List Nat) : List V := O.map fun i => .int (i : Nat)
def intsL (ws : List Int) : List V := ws.map .int
theorem at_ints {ns : List Int} {j : Int} (h0 : 0 ≤ j) (h1 : j < ns.length) : ∃ u, u ∈ ns ∧ atI (intsL ns) j = some (.int u) := by
  obtain ⟨n, rfl⟩ : ∃ n : Nat, j = n := ⟨j.toNat, by omega⟩
  have hn : n < ns.length := by omega
  exact ⟨ns[n], List.getElem_mem hn, atI_nat (by unfold intsL; rw [List.getElem?_map, List.getElem?_eq_getElem hn]; rfl)⟩
theorem at0 {x : V} {xs : List V} : atI (x :: xs) 0 = some x := atI_nat (xs := x :: xs) (j := 0) rfl
theorem at1 {x y : V} {xs : List V} : atI (x :: y :: xs) 1 = some y := atI_nat (xs := x :: y :: xs) (j := 1) rfl
theorem at2 {x y z : V} {xs : List V} : atI (x :: y :: z :: xs) 2 = some z := atI_nat (xs := x :: y :: z :: xs) (j := 2) rfl
def ItR (us : List Int) (v : V) (H : Hp) : Prop := ∃ q, v = .ref q ∧ H q = some (.tup (intsL us))
structure Its (H : Hp) (vs : List V) (uss : List (List Int)) : Prop where
  len : vs.length = uss.length
  at_ : ∀ (i : Nat) us, uss[i]? = some us → ∃ v, vs[i]? = some v ∧ ItR us v H
def TpR (H : Hp) (uss : List (List Int)) (v : V) : Prop := ∃ t vs, v = .ref t ∧ H t = some (.tup vs) ∧ Its H vs uss
section
variable {H H' : Hp} {vs : List V} {uss : List (List Int)} {us : List Int} {v : V}
theorem ItR.tk (h : ItR us v H) (k : TK H H') : ItR us v H' := by
  obtain ⟨q, e, h⟩ := h
  exact ⟨q, e, k _ _ h⟩
theorem Its.tk (h : Its H vs uss) (k : TK H H') : Its H' vs uss := ⟨h.len, fun i us e => by
  obtain ⟨v, e1, e2⟩ := h.at_ i us e
  exact ⟨v, e1, e2.tk k⟩⟩
theorem TpR.tk (h : TpR H uss v) (k : TK H H') : TpR H' uss v := by
  obtain ⟨t, vs, e, h1, h2⟩ := h
  exact ⟨t, vs, e, k _ _ h1, h2.tk k⟩
theorem Its.nil : Its H [] [] := ⟨rfl, fun i us e => by simp at e⟩
theorem Its.snoc (h : Its H vs uss) (hv : ItR us v H) : Its H (vs ++ [v]) (uss ++ [us]) := by
  refine ⟨by rw [List.length_append, List.length_append, h.len]; rfl, fun i ws e => ?_⟩
  by_cases hi : i < uss.length
  · rw [List.getElem?_append_left hi] at e
    rw [List.getElem?_append_left (by rw [h.len]; exact hi)]
    exact h.at_ i ws e
  · rw [List.getElem?_append_right (by omega)] at e
    have : i - uss.length = 0 := by
      have := (List.getElem?_eq_some_iff.mp e).1
      simp at this; omega
    rw [this] at e; cases e
    rw [List.getElem?_append_right (by rw [h.len]; omega), h.len, this]
    exact ⟨v, rfl, hv⟩
def dInts (us : List Int) : PyData := .tuple (us.map .int)
def dRow (uss : List (List Int)) : PyData := .tuple (uss.map dInts)
theorem ItR.dp {K : PySem.W.Frag} (h : ItR us v H) : Dp K H v (dInts us) := by
  obtain ⟨q, rfl, h⟩ := h
  exact .tup (.inl (.inl h)) (dp_ints us)
theorem dpall_of {K : PySem.W.Frag} : ∀ {vs : List V} {ds : List PyData}, vs.length = ds.length → (∀ (i : Nat) v d, vs[i]? = some v → ds[i]? = some d → Dp K H v d) → DpAll K H vs ds
  | [], [], _, _ => .nil
  | v :: vs, d :: ds, l, h => .cons (h 0 v d rfl rfl) (dpall_of (by simpa using l) fun i v d e1 e2 => h (i + 1) v d (by simpa using e1) (by simpa using e2))
  | [], _ :: _, l, _ => by cases l
  | _ :: _, [], l, _ => by cases l
theorem Its.dp {K : PySem.W.Frag} (h : Its H vs uss) : DpAll K H vs (uss.map dInts) := by
  refine dpall_of (by rw [List.length_map]; exact h.len) fun i v d e1 e2 => ?_
  rw [List.getElem?_map] at e2
  obtain ⟨us, e3, rfl⟩ := Option.map_eq_some_iff.mp e2
  obtain ⟨v', e4, hv⟩ := h.at_ i us e3
  rw [e1] at e4; cases e4
  exact hv.dp
theorem TpR.dp {K : PySem.W.Frag} (h : TpR H uss v) : Dp K H v (dRow uss) := by
  obtain ⟨t, vs, rfl, h1, h2⟩ := h
  exact .tup (.inl (.inl h1)) h2.dp
/-- ints, and tuples of such, nested below d -/
def iD : Nat → PyData → Prop
  | _, .int _ => True
  | 0, _ => False
  | d + 1, .tuple ds => ds.length ≤ 1000 ∧ ∀ x ∈ ds, iD d x
  | _ + 1, _ => False
theorem lay_all : ∀ {ds : List PyData}, (∀ x ∈ ds, x.canLay0 = true) → PyData.canLayAll0 ds = true
  | [], _ => rfl
  | x :: ds, h => by
    simp only [PyData.canLayAll0, Bool.and_eq_true]
    exact ⟨h x List.mem_cons_self, lay_all fun y hy => h y (List.mem_cons_of_mem _ hy)⟩
theorem depth_all {d : Nat} : ∀ {ds : List PyData}, (∀ x ∈ ds, x.depth ≤ d) → PyData.depthAll ds ≤ d
  | [], _ => by simp [PyData.depthAll]
  | x :: ds, h => by
    simp only [PyData.depthAll]
    have h1 := h x List.mem_cons_self
    have h2 := depth_all (d := d) fun y hy => h y (List.mem_cons_of_mem _ hy)
    omega
theorem iD.ok : ∀ {d : Nat} {x : PyData}, iD d x → x.canLay0 = true ∧ x.depth ≤ d
  | d, .int i, _ => ⟨rfl, by simp [PyData.depth]⟩
  | d + 1, .tuple ds, h => by
    have ih : ∀ x ∈ ds, x.canLay0 = true ∧ x.depth ≤ d := fun x hx => iD.ok (h.2 x hx)
    refine ⟨by simp only [PyData.canLay0]; exact lay_all fun x hx => (ih x hx).1, ?_⟩
    have := depth_all (d := d) fun x hx => (ih x hx).2
    simp only [PyData.depth]
    omega
  | 0, .tuple _, h => by cases h
  | d, .none, h => by cases d <;> cases h
  | d, .bool _, h => by cases d <;> cases h
  | d, .str _, h => by cases d <;> cases h
  | d, .list _, h => by cases d <;> cases h
  | d, .dict _, h => by cases d <;> cases h
theorem iD.shaped {d : Nat} {x : PyData} (h : iD d x) (hd : d ≤ 64) : SeqAt.shaped x = true := by
  obtain ⟨h1, h2⟩ := h.ok
  show (x.canLay0 && decide (x.depth ≤ 64)) = true
  rw [Bool.and_eq_true]
  exact ⟨h1, decide_eq_true (by omega)⟩
theorem iD.refl {d : Nat} {x : PyData} (h : iD d x) : PyData.eqv x x = true := SeqAt.eqv_refl x h.ok.1
theorem iD_ints (us : List Int) (h : us.length ≤ 1000) : iD 1 (dInts us) := ⟨by rw [List.length_map]; exact h, fun x hx => by
  obtain ⟨_, _, rfl⟩ := List.mem_map.mp hx
  trivial⟩
theorem iD_row (uss : List (List Int)) (h : uss.length ≤ 1000) (h2 : ∀ us ∈ uss, us.length ≤ 1000) : iD 2 (dRow uss) := ⟨by rw [List.length_map]; exact h, fun x hx => by
  obtain ⟨us, hu, rfl⟩ := List.mem_map.mp hx
  exact iD_ints us (h2 us hu)⟩
end
section
variable {K : PySem.W.Frag} {H : Hp} {Q : VK} {x y : V} {d : Nat} {D : PyData}
theorem k_eqD (hd : d ≤ 64) (h : iD d D) (hx : Dp K H x D) (hy : Dp K H y D) (q : Q (.bl true) H) : rEqD K x y H Q := ⟨D, D, hx, hy, h.shaped hd, h.shaped hd, by rw [h.refl]; exact q⟩
theorem k_neD (hd : d ≤ 64) (h : iD d D) (hx : Dp K H x D) (hy : Dp K H y D) (q : Q (.bl false) H) : rNeD K x y H Q := ⟨D, D, hx, hy, h.shaped hd, h.shaped hd, by rw [h.refl]; exact q⟩
end
end Lh

namespace K74
open PySem L2 Lh
def top (i : Nat) : Stmt := PySem.Challenge.pw_lonehost_k74_mailboxes_that_fill_up.main.body.getD i (.Pass ⟨0, 0, 0, 0⟩)
abbrev s_TooMany___init__ : Stmt := inClass (top 3) 0
abbrev n_TooMany___init__ : List Str := ["self", "limit"]
theorem sc_TooMany___init__ : FnScope n_TooMany___init__ ["self", "limit"] (defScope s_TooMany___init__) := ⟨rfl, rfl, rfl, by decide +kernel, rfl, by decide +kernel, by decide +kernel⟩
abbrev s_BadTape___init__ : Stmt := inClass (top 4) 0
abbrev n_BadTape___init__ : List Str := ["self", "place"]
theorem sc_BadTape___init__ : FnScope n_BadTape___init__ ["self", "place"] (defScope s_BadTape___init__) := ⟨rfl, rfl, rfl, by decide +kernel, rfl, by decide +kernel, by decide +kernel⟩
abbrev s_check_range : Stmt := top 10
abbrev n_check_range : List Str := ["value", "low", "high"]
theorem sc_check_range : FnScope n_check_range ["value", "low", "high"] (defScope s_check_range) := ⟨rfl, rfl, rfl, by decide +kernel, rfl, by decide +kernel, by decide +kernel⟩
abbrev s_check_most : Stmt := top 11
abbrev n_check_most : List Str := ["count", "limit"]
theorem sc_check_most : FnScope n_check_most ["count", "limit"] (defScope s_check_most) := ⟨rfl, rfl, rfl, by decide +kernel, rfl, by decide +kernel, by decide +kernel⟩
abbrev s_arrive : Stmt := top 14
abbrev n_arrive : List Str := ["tape", "steps", "word"]
theorem sc_arrive : FnScope n_arrive ["tape", "steps", "word"] (defScope s_arrive) := ⟨rfl, rfl, rfl, by decide +kernel, rfl, by decide +kernel, by decide +kernel⟩
abbrev s_Switch___init__ : Stmt := inClass (top 18) 0
abbrev n_Switch___init__ : List Str := ["self"]
theorem sc_Switch___init__ : FnScope n_Switch___init__ ["self"] (defScope s_Switch___init__) := ⟨rfl, rfl, rfl, by decide +kernel, rfl, by decide +kernel, by decide +kernel⟩
abbrev s_Switch_join : Stmt := inClass (top 18) 1
abbrev n_Switch_join : List Str := ["self", "g", "tape", "mail", "posted"]
theorem sc_Switch_join : FnScope n_Switch_join ["self", "g", "tape", "mail", "posted"] (defScope s_Switch_join) := ⟨rfl, rfl, rfl, by decide +kernel, rfl, by decide +kernel, by decide +kernel⟩
abbrev s_Switch_leave : Stmt := inClass (top 18) 2
abbrev n_Switch_leave : List Str := ["self", "g"]
theorem sc_Switch_leave : FnScope n_Switch_leave ["self", "g"] (defScope s_Switch_leave) := ⟨rfl, rfl, rfl, by decide +kernel, rfl, by decide +kernel, by decide +kernel⟩
abbrev s_Switch_guests : Stmt := inClass (top 18) 3
abbrev n_Switch_guests : List Str := ["self"]
theorem sc_Switch_guests : FnScope n_Switch_guests ["self"] (defScope s_Switch_guests) := ⟨rfl, rfl, rfl, by decide +kernel, rfl, by decide +kernel, by decide +kernel⟩
abbrev s_Switch_feed : Stmt := inClass (top 18) 4
abbrev n_Switch_feed : List Str := ["self", "g", "time", "word"]
theorem sc_Switch_feed : FnScope n_Switch_feed ["self", "g", "time", "word"] (defScope s_Switch_feed) := ⟨rfl, rfl, rfl, by decide +kernel, rfl, by decide +kernel, by decide +kernel⟩
abbrev s_Switch_post : Stmt := inClass (top 18) 5
abbrev n_Switch_post : List Str := ["self", "g", "time", "peer", "word", "arrival", "arrives"]
theorem sc_Switch_post : FnScope n_Switch_post ["self", "g", "time", "peer", "word", "arrival"] (defScope s_Switch_post) := ⟨rfl, rfl, rfl, by decide +kernel, rfl, by decide +kernel, by decide +kernel⟩
abbrev s_Switch_tape : Stmt := inClass (top 18) 6
abbrev n_Switch_tape : List Str := ["self", "g"]
theorem sc_Switch_tape : FnScope n_Switch_tape ["self", "g"] (defScope s_Switch_tape) := ⟨rfl, rfl, rfl, by decide +kernel, rfl, by decide +kernel, by decide +kernel⟩
abbrev s_Switch_mail : Stmt := inClass (top 18) 7
abbrev n_Switch_mail : List Str := ["self", "g"]
theorem sc_Switch_mail : FnScope n_Switch_mail ["self", "g"] (defScope s_Switch_mail) := ⟨rfl, rfl, rfl, by decide +kernel, rfl, by decide +kernel, by decide +kernel⟩
abbrev s_Switch_posted : Stmt := inClass (top 18) 8
abbrev n_Switch_posted : List Str := ["self", "g"]
theorem sc_Switch_posted : FnScope n_Switch_posted ["self", "g"] (defScope s_Switch_posted) := ⟨rfl, rfl, rfl, by decide +kernel, rfl, by decide +kernel, by decide +kernel⟩
abbrev s_Switch_frozen : Stmt := inClass (top 18) 9
abbrev n_Switch_frozen : List Str := ["self", "g"]
theorem sc_Switch_frozen : FnScope n_Switch_frozen ["self"] (defScope s_Switch_frozen) := ⟨rfl, rfl, rfl, by decide +kernel, rfl, by decide +kernel, by decide +kernel⟩
abbrev s_Switch__check : Stmt := inClass (top 18) 10
abbrev n_Switch__check : List Str := ["self", "g"]
theorem sc_Switch__check : FnScope n_Switch__check ["self", "g"] (defScope s_Switch__check) := ⟨rfl, rfl, rfl, by decide +kernel, rfl, by decide +kernel, by decide +kernel⟩
abbrev s_thawed_switch : Stmt := top 19
abbrev n_thawed_switch : List Str := ["value", "switch", "g", "tape", "mail", "posted"]
theorem sc_thawed_switch : FnScope n_thawed_switch ["value"] (defScope s_thawed_switch) := ⟨rfl, rfl, rfl, by decide +kernel, rfl, by decide +kernel, by decide +kernel⟩
abbrev s__law_cell : Stmt := top 21
abbrev n__law_cell : List Str := ["script", "k"]
theorem sc__law_cell : FnScope n__law_cell ["script", "k"] (defScope s__law_cell) := ⟨rfl, rfl, rfl, by decide +kernel, rfl, by decide +kernel, by decide +kernel⟩
abbrev s__law_row : Stmt := top 22
abbrev n__law_row : List Str := ["cell", "count", "size", "numbers", "rest", "k", "mixed"]
theorem sc__law_row : FnScope n__law_row ["cell", "count", "size"] (defScope s__law_row) := ⟨rfl, rfl, rfl, by decide +kernel, rfl, by decide +kernel, by decide +kernel⟩
abbrev s__law_same : Stmt := top 23
abbrev n__law_same : List Str := ["actual", "expected", "k"]
theorem sc__law_same : FnScope n__law_same ["actual", "expected"] (defScope s__law_same) := ⟨rfl, rfl, rfl, by decide +kernel, rfl, by decide +kernel, by decide +kernel⟩
abbrev s__law_shuffled : Stmt := top 24
abbrev n__law_shuffled : List Str := ["cell", "count", "rest", "numbers", "order", "k"]
theorem sc__law_shuffled : FnScope n__law_shuffled ["cell", "count"] (defScope s__law_shuffled) := ⟨rfl, rfl, rfl, by decide +kernel, rfl, by decide +kernel, by decide +kernel⟩
abbrev s__law_pairs : Stmt := top 25
abbrev n__law_pairs : List Str := ["seed", "count", "k"]
theorem sc__law_pairs : FnScope n__law_pairs ["seed", "count"] (defScope s__law_pairs) := ⟨rfl, rfl, rfl, by decide +kernel, rfl, by decide +kernel, by decide +kernel⟩
abbrev s__law_began : Stmt := top 26
abbrev n__law_began : List Str := ["switch", "guests", "shape", "numbers", "full", "rows", "k", "many", "mails", "posted", "row", "j"]
theorem sc__law_began : FnScope n__law_began ["switch", "guests", "shape", "numbers", "full"] (defScope s__law_began) := ⟨rfl, rfl, rfl, by decide +kernel, rfl, by decide +kernel, by decide +kernel⟩
abbrev s__law_tells : Stmt := top 27
abbrev n__law_tells : List Str := ["switch", "rows", "frozen", "g", "row"]
theorem sc__law_tells : FnScope n__law_tells ["switch", "rows"] (defScope s__law_tells) := ⟨rfl, rfl, rfl, by decide +kernel, rfl, by decide +kernel, by decide +kernel⟩
abbrev s__law_post : Stmt := top 28
abbrev n__law_post : List Str := ["switch", "rows", "g", "time", "peer", "word", "arrival", "due", "mail", "posted"]
theorem sc__law_post : FnScope n__law_post ["switch", "rows", "g", "time", "peer", "word", "arrival"] (defScope s__law_post) := ⟨rfl, rfl, rfl, by decide +kernel, rfl, by decide +kernel, by decide +kernel⟩
abbrev s__law_too_early : Stmt := top 29
abbrev n__law_too_early : List Str := ["switch", "rows", "g", "peer", "mail", "early"]
theorem sc__law_too_early : FnScope n__law_too_early ["switch", "rows", "g", "peer"] (defScope s__law_too_early) := ⟨rfl, rfl, rfl, by decide +kernel, rfl, by decide +kernel, by decide +kernel⟩
abbrev s__law_fed : Stmt := top 30
abbrev n__law_fed : List Str := ["switch", "rows", "g", "step", "tape", "k", "word", "many"]
theorem sc__law_fed : FnScope n__law_fed ["switch", "rows", "g", "step"] (defScope s__law_fed) := ⟨rfl, rfl, rfl, by decide +kernel, rfl, by decide +kernel, by decide +kernel⟩
abbrev s_law : Stmt := top 31
abbrev n_law : List Str := ["script", "shape", "numbers", "guests", "lacks", "switches", "sides", "side", "rows", "target", "many", "draws", "k", "g", "peer", "word"]
theorem sc_law : FnScope n_law ["script"] (defScope s_law) := ⟨rfl, rfl, rfl, by decide +kernel, rfl, by decide +kernel, by decide +kernel⟩
/-- where the classes and defs stand -/
structure Ad where
  C_TooMany : Addr
  C_BadTape : Addr
  C_Switch : Addr
  f_TooMany___init__ : Addr
  f_BadTape___init__ : Addr
  f_check_range : Addr
  f_check_most : Addr
  f_arrive : Addr
  f_Switch___init__ : Addr
  f_Switch_join : Addr
  f_Switch_leave : Addr
  f_Switch_guests : Addr
  f_Switch_feed : Addr
  f_Switch_post : Addr
  f_Switch_tape : Addr
  f_Switch_mail : Addr
  f_Switch_posted : Addr
  f_Switch_frozen : Addr
  f_Switch__check : Addr
  f_thawed_switch : Addr
  f__law_cell : Addr
  f__law_row : Addr
  f__law_same : Addr
  f__law_shuffled : Addr
  f__law_pairs : Addr
  f__law_began : Addr
  f__law_tells : Addr
  f__law_post : Addr
  f__law_too_early : Addr
  f__law_fed : Addr
  f_law : Addr
/-- the attributes of a Switch -/
def fl_Switch (v0 v1 v2 : V) : List (Str × V) := (putF "_posts" v2 (putF "_mails" v1 (putF "_tapes" v0 [])))
theorem ne_Switch_0_1 : ¬ (("_tapes" : Str) = "_mails") := by decide +kernel
theorem ne_Switch_0_2 : ¬ (("_tapes" : Str) = "_posts") := by decide +kernel
theorem ne_Switch_1_2 : ¬ (("_mails" : Str) = "_posts") := by decide +kernel
theorem fl_Switch_eq (v0 v1 v2 : V) : fl_Switch v0 v1 v2 = ([("_tapes", v0), ("_mails", v1), ("_posts", v2)] : List (Str × V)) := by
  simp [fl_Switch, putF, ne_Switch_0_1, ne_Switch_0_2, ne_Switch_1_2]
theorem lk_Switch_0 {v0 v1 v2 : V} : (fl_Switch v0 v1 v2).lookup ("_tapes" : Str) = some v0 := by
  unfold fl_Switch; rw [lookup_putF, if_neg ne_Switch_0_2]; rw [lookup_putF, if_neg ne_Switch_0_1]; rw [lookup_putF, if_pos rfl]
theorem pu_Switch_0 {v0 v1 v2 w : V} : putF "_tapes" w (fl_Switch v0 v1 v2) = fl_Switch w v1 v2 := by
  rw [fl_Switch_eq, fl_Switch_eq]; simp [putF, ne_Switch_0_1, Ne.symm ne_Switch_0_1, ne_Switch_0_2, Ne.symm ne_Switch_0_2, ne_Switch_1_2, Ne.symm ne_Switch_1_2]
theorem lk_Switch_1 {v0 v1 v2 : V} : (fl_Switch v0 v1 v2).lookup ("_mails" : Str) = some v1 := by
  unfold fl_Switch; rw [lookup_putF, if_neg ne_Switch_1_2]; rw [lookup_putF, if_pos rfl]
theorem pu_Switch_1 {v0 v1 v2 w : V} : putF "_mails" w (fl_Switch v0 v1 v2) = fl_Switch v0 w v2 := by
  rw [fl_Switch_eq, fl_Switch_eq]; simp [putF, ne_Switch_0_1, Ne.symm ne_Switch_0_1, ne_Switch_0_2, Ne.symm ne_Switch_0_2, ne_Switch_1_2, Ne.symm ne_Switch_1_2]
theorem lk_Switch_2 {v0 v1 v2 : V} : (fl_Switch v0 v1 v2).lookup ("_posts" : Str) = some v2 := by
  unfold fl_Switch; rw [lookup_putF, if_pos rfl]
theorem pu_Switch_2 {v0 v1 v2 w : V} : putF "_posts" w (fl_Switch v0 v1 v2) = fl_Switch v0 v1 w := by
  rw [fl_Switch_eq, fl_Switch_eq]; simp [putF, ne_Switch_0_1, Ne.symm ne_Switch_0_1, ne_Switch_0_2, Ne.symm ne_Switch_0_2, ne_Switch_1_2, Ne.symm ne_Switch_1_2]
theorem ln_Switch {v0 v1 v2 : V} : (fl_Switch v0 v1 v2).length = 3 := by rw [fl_Switch_eq]; rfl
theorem no_Switch {v0 v1 v2 : V} {m : Str} (h0 : ¬ m = "_tapes") (h1 : ¬ m = "_mails") (h2 : ¬ m = "_posts") : (fl_Switch v0 v1 v2).lookup m = none := by
  unfold fl_Switch; rw [lookup_putF, if_neg h2]; rw [lookup_putF, if_neg h1]; rw [lookup_putF, if_neg h0]; rfl
theorem nm_Switch_join {v0 v1 v2 : V} : (fl_Switch v0 v1 v2).lookup ("join" : Str) = none := no_Switch (by decide +kernel) (by decide +kernel) (by decide +kernel)
theorem nm_Switch_leave {v0 v1 v2 : V} : (fl_Switch v0 v1 v2).lookup ("leave" : Str) = none := no_Switch (by decide +kernel) (by decide +kernel) (by decide +kernel)
theorem nm_Switch_guests {v0 v1 v2 : V} : (fl_Switch v0 v1 v2).lookup ("guests" : Str) = none := no_Switch (by decide +kernel) (by decide +kernel) (by decide +kernel)
theorem nm_Switch_feed {v0 v1 v2 : V} : (fl_Switch v0 v1 v2).lookup ("feed" : Str) = none := no_Switch (by decide +kernel) (by decide +kernel) (by decide +kernel)
theorem nm_Switch_post {v0 v1 v2 : V} : (fl_Switch v0 v1 v2).lookup ("post" : Str) = none := no_Switch (by decide +kernel) (by decide +kernel) (by decide +kernel)
theorem nm_Switch_tape {v0 v1 v2 : V} : (fl_Switch v0 v1 v2).lookup ("tape" : Str) = none := no_Switch (by decide +kernel) (by decide +kernel) (by decide +kernel)
theorem nm_Switch_mail {v0 v1 v2 : V} : (fl_Switch v0 v1 v2).lookup ("mail" : Str) = none := no_Switch (by decide +kernel) (by decide +kernel) (by decide +kernel)
theorem nm_Switch_posted {v0 v1 v2 : V} : (fl_Switch v0 v1 v2).lookup ("posted" : Str) = none := no_Switch (by decide +kernel) (by decide +kernel) (by decide +kernel)
theorem nm_Switch_frozen {v0 v1 v2 : V} : (fl_Switch v0 v1 v2).lookup ("frozen" : Str) = none := no_Switch (by decide +kernel) (by decide +kernel) (by decide +kernel)
theorem nm_Switch__check {v0 v1 v2 : V} : (fl_Switch v0 v1 v2).lookup ("_check" : Str) = none := no_Switch (by decide +kernel) (by decide +kernel) (by decide +kernel)
/-- what the walk asks of the classes as the top has made them -/
structure Cl (K : PySem.W.Frag) (a : Ad) : Prop where
  ok : True
  cl_Switch : Cls K a.C_Switch
  na_Switch__tapes : NoAttr K a.C_Switch "_tapes"
  na_Switch__mails : NoAttr K a.C_Switch "_mails"
  na_Switch__posts : NoAttr K a.C_Switch "_posts"
  oex_TooMany : OexC K a.C_TooMany
  xf_TooMany : XfC K a.C_TooMany
  nf_TooMany_limit : PySem.W.findIn K (.ref a.C_TooMany) "limit" = some none
  ex_TooMany : PySem.W.exmOne K (.ref a.C_TooMany) (.ref a.C_TooMany) = some true
  oex_BadTape : OexC K a.C_BadTape
  xf_BadTape : XfC K a.C_BadTape
  nf_BadTape_place : PySem.W.findIn K (.ref a.C_BadTape) "place" = some none
  ex_BadTape : PySem.W.exmOne K (.ref a.C_BadTape) (.ref a.C_BadTape) = some true
end K74

namespace K74
open PySem L2 Lh
/-! ### the data -/
structure Row where
  tp : List (List Int)
  ml : List (List Int)
  ps : List (List Int)
abbrev Map := Nat → Option Row
def Prs (T : Int) (uss : List (List Int)) : Prop := ∀ us ∈ uss, ∃ x w, us = [x, w] ∧ 0 ≤ x ∧ x ≤ T
def lastS (uss : List (List Int)) : Option Int := uss.getLast?.bind (·.head?)
structure Inv (M : Map) (B : Nat) (T A : Int) : Prop where
  g : ∀ g r, M g = some r → r.tp.length ≤ 400 ∧ r.ml.length ≤ 400 ∧ r.ps.length ≤ B ∧ Prs T r.tp ∧ Prs A r.ml ∧ ∀ us ∈ r.ps, us.length = 3
def due (M : Map) (peer : Nat) : Bool := match M peer with
  | some r => decide (r.ml.length < 400)
  | none => false
def mailM (M : Map) (peer : Nat) (arr w : Int) : Map := match M peer with
  | some r => if r.ml.length < 400 then upM M peer { r with ml := r.ml ++ [[arr, w]] } else M
  | none => M
def postedM (M : Map) (g : Nat) (t : Int) (peer : Nat) (w : Int) : Map := match M g with
  | some r => upM M g { r with ps := r.ps ++ [[t, (peer : Nat), w]] }
  | none => M
def postM (M : Map) (g : Nat) (t : Int) (peer : Nat) (w arr : Int) : Map := postedM (mailM M peer arr w) g t peer w
/-! ### where it stands -/
def LsR (L : Lb) (H : Hp) (k j g : Nat) (uss : List (List Int)) (v : V) : Prop := ∃ l vs, v = .ref l ∧ L l = some (k, j, g) ∧ H l = some (.lst vs) ∧ Its H vs uss
structure SwAt (a : Ad) (L : Lb) (k : Nat) (H : Hp) (p : Addr) (M : Map) (t m q : Addr) (kt km kq : List (Key × V)) : Prop where
  lp : L p = some (k, 0, 0)
  lt : L t = some (k, 1, 0)
  lm : L m = some (k, 2, 0)
  lq : L q = some (k, 3, 0)
  ob : ∃ dx, H p = some (.ins a.C_Switch dx (fl_Switch (.ref t) (.ref m) (.ref q)))
  ht : H t = some (.dK kt)
  hm : H m = some (.dK km)
  hq : H q = some (.dK kq)
  dt : DM kt 6 M fun _ r v => TpR H r.tp v
  dm : DM km 6 M fun _ r v => TpR H r.ml v
  dq : DM kq 6 M fun g r v => LsR L H k 4 g r.ps v
def SwA (a : Ad) (L : Lb) (k : Nat) (H : Hp) (p : Addr) (M : Map) : Prop := ∃ t m q kt km kq, SwAt a L k H p M t m q kt km kq
def RwR (L : Lb) (H : Hp) (k g : Nat) (r : Row) (v : V) : Prop := ∃ w x y z, v = .ref w ∧ L w = some (k, 1, g) ∧ H w = some (.lst [x, y, z]) ∧ LsR L H k 2 g r.tp x ∧ LsR L H k 3 g r.ml y ∧ LsR L H k 4 g r.ps z
structure RwAt (L : Lb) (k : Nat) (H : Hp) (s : Addr) (M : Map) (kvs : List (Key × V)) : Prop where
  ls : L s = some (k, 0, 0)
  hs : H s = some (.dK kvs)
  dm : DM kvs 6 M fun g r v => RwR L H k g r v
def RwA (L : Lb) (k : Nat) (H : Hp) (s : Addr) (M : Map) : Prop := ∃ kvs, RwAt L k H s M kvs
structure Side (a : Ad) (L : Lb) (kp kr : Nat) (H : Hp) (p s : Addr) (M : Map) : Prop where
  sw : SwA a L kp H p M
  rw_ : RwA L kr H s M
  ne : kp ≠ kr
abbrev Two (k l : Nat) : Nat → Prop := fun o => o = k ∨ o = l
def FrR (H : Hp) (g : Nat) (r : Row) (y : V) : Prop := ∃ q u v w, y = .ref q ∧ H q = some (.tup [.int (g : Nat), u, v, w]) ∧ TpR H r.tp u ∧ TpR H r.ml v ∧ TpR H r.ps w
def FzR (H : Hp) (M : Map) (v : V) : Prop := ∃ t vs, v = .ref t ∧ H t = some (.tup vs) ∧ vs.length = (dom 6 M).length ∧ ∀ (i : Nat) g, (dom 6 M)[i]? = some g → ∃ y r, vs[i]? = some y ∧ M g = some r ∧ FrR H g r y
/-! ### promises: the program -/
def xdK (C : Addr) (f : Str) (v : V) (H : Hp) (E : XK) : Prop := ∀ d H', H d = none → Same H H' → H' d = some (.xd [(f, v)]) → E (.ref C) (some d) H'
def pr_TooMany___init__ (K : PySem.W.Frag) (a : Ad) : V → V → Hp → VK → XK → Prop := prExc a.C_TooMany "limit"
def pr_BadTape___init__ (K : PySem.W.Frag) (a : Ad) : V → V → Hp → VK → XK → Prop := prExc a.C_BadTape "place"
def pr_check_range (K : PySem.W.Frag) (a : Ad) : V → V → V → Hp → VK → XK → Prop := fun x y z H Q _ => ∃ v l h : Int, x = .int v ∧ y = .int l ∧ z = .int h ∧ l ≤ v ∧ v ≤ h ∧ Q .non H
def pr_check_most (K : PySem.W.Frag) (a : Ad) : V → V → Hp → VK → XK → Prop := fun x y H Q E => ∃ c l : Int, x = .int c ∧ y = .int l ∧ (l < c → xdK a.C_TooMany "limit" (.int l) H E) ∧ (c ≤ l → Q .non H)
def pr_arrive (K : PySem.W.Frag) (a : Ad) : V → V → V → Hp → VK → XK → Prop := fun x y z H Q E => ∃ (uss : List (List Int)) (s w : Int), y = .int s ∧ z = .int w ∧ TpR H uss x ∧ 0 ≤ s ∧ 0 ≤ w ∧ w < 65521 ∧ uss.length ≤ 400 ∧ (∀ us ∈ uss, us.length = 2) ∧
  (uss.length = 400 → xdK a.C_TooMany "limit" (.int 400) H E) ∧
  (uss.length < 400 → (∀ u, lastS uss = some u → u ≤ s) → ∀ v H', Same H H' → TpR H' (uss ++ [[s, w]]) v → Q v H') ∧
  (uss.length < 400 → (∃ u, lastS uss = some u ∧ s < u) → xdK a.C_BadTape "place" (.int (uss.length : Nat)) H E)
def pr_Switch___init__ (K : PySem.W.Frag) (a : Ad) : V → Hp → VK → XK → Prop := fun x H Q _ => ∃ (p dx : Addr), x = .ref p ∧ H p = some (.ins a.C_Switch dx []) ∧
  ∀ (t m q : Addr) (H' : Hp), H t = none → H m = none → H q = none → t ≠ m → t ≠ q → m ≠ q → (∀ b o, H b = some o → b ≠ p → H' b = some o) →
    H' p = some (.ins a.C_Switch dx (fl_Switch (.ref t) (.ref m) (.ref q))) → H' t = some (.dK []) → H' m = some (.dK []) → H' q = some (.dK []) → Q .non H'
def pr_Switch_join (K : PySem.W.Frag) (a : Ad) : V → V → V → V → V → Hp → VK → XK → Prop := fun x y z u v H Q _ => ∃ (p : Addr) (g : Nat) (L : Lb) (k : Nat) (M : Map) (r : Row), x = .ref p ∧ y = .int (g : Nat) ∧ TpR H r.tp z ∧ TpR H r.ml u ∧ TpR H r.ps v ∧
  Lab H L ∧ SwA a L k H p M ∧ M g = none ∧ g < 6 ∧ ∀ H' L', Stp (· = k) H L H' L' → SwA a L' k H' p (upM M g r) → Q .non H'
def pr_Switch_leave (K : PySem.W.Frag) (a : Ad) : V → V → Hp → VK → XK → Prop := fun x y H Q _ => ∃ (p : Addr) (g : Nat) (L : Lb) (k : Nat) (M : Map) (r : Row), x = .ref p ∧ y = .int (g : Nat) ∧ Lab H L ∧ SwA a L k H p M ∧ M g = some r ∧
  ∀ H', Stp (· = k) H L H' L → SwA a L k H' p (delM M g) → Q .non H'
def pr_Switch_guests (K : PySem.W.Frag) (a : Ad) : V → Hp → VK → XK → Prop := fun x H Q _ => ∃ (p : Addr) (L : Lb) (k : Nat) (M : Map), x = .ref p ∧ SwA a L k H p M ∧ ∀ q H', Same H H' → H' q = some (.tup (intL (dom 6 M))) → Q (.ref q) H'
def pr_Switch_feed (K : PySem.W.Frag) (a : Ad) : V → V → V → V → Hp → VK → XK → Prop := fun x y z u H Q E => ∃ (p : Addr) (g : Nat) (s w : Int) (L : Lb) (k : Nat) (M : Map) (r : Row), x = .ref p ∧ y = .int (g : Nat) ∧ z = .int s ∧ u = .int w ∧ Lab H L ∧ SwA a L k H p M ∧
  M g = some r ∧ 0 ≤ s ∧ 0 ≤ w ∧ w < 65521 ∧ r.tp.length ≤ 400 ∧ (∀ us ∈ r.tp, us.length = 2) ∧ (r.tp.length = 400 → xdK a.C_TooMany "limit" (.int 400) H E) ∧
  (r.tp.length < 400 → (∀ u, lastS r.tp = some u → u ≤ s)) ∧ (r.tp.length < 400 → ∀ H', Stp (· = k) H L H' L → SwA a L k H' p (upM M g { r with tp := r.tp ++ [[s, w]] }) → Q .non H')
def pr_Switch_post (K : PySem.W.Frag) (a : Ad) : V → V → V → V → V → V → Hp → VK → XK → Prop := fun x y z u v w H Q E => ∃ (p : Addr) (g peer : Nat) (t wd arr : Int) (L : Lb) (k : Nat) (M : Map), x = .ref p ∧ y = .int (g : Nat) ∧ z = .int t ∧ u = .int (peer : Nat) ∧ v = .int wd ∧ w = .int arr ∧
  Lab H L ∧ SwA a L k H p M ∧ (∃ r, M g = some r ∧ r.ps.length ≤ 999) ∧ 0 ≤ t ∧ peer ≤ 7 ∧ 0 ≤ wd ∧ wd < 65521 ∧ 0 ≤ arr ∧ (∀ r, M peer = some r → r.ml.length ≤ 400 ∧ ∀ us ∈ r.ml, us.length = 2) ∧
  ((∀ r, M peer = some r → r.ml.length < 400 → ∀ u, lastS r.ml = some u → u ≤ arr) → ∀ H', Stp (· = k) H L H' L → SwA a L k H' p (postM M g t peer wd arr) → Q (.bl (due M peer)) H') ∧
  (∀ r, M peer = some r → r.ml.length < 400 → (∃ u, lastS r.ml = some u ∧ arr < u) → xdK a.C_BadTape "place" (.int (r.ml.length : Nat)) H E) ∧
  ((∀ r, M peer = some r → r.ml.length < 400 → ∀ u, lastS r.ml = some u → u ≤ arr) ∨ ∃ r, M peer = some r ∧ r.ml.length < 400 ∧ ∃ u, lastS r.ml = some u ∧ arr < u)
def pr_Switch_tape (K : PySem.W.Frag) (a : Ad) : V → V → Hp → VK → XK → Prop := fun x y H Q _ => ∃ (p : Addr) (g : Nat) (L : Lb) (k : Nat) (M : Map) (r : Row), x = .ref p ∧ y = .int (g : Nat) ∧ SwA a L k H p M ∧ M g = some r ∧ ∀ v, TpR H r.tp v → Q v H
def pr_Switch_mail (K : PySem.W.Frag) (a : Ad) : V → V → Hp → VK → XK → Prop := fun x y H Q _ => ∃ (p : Addr) (g : Nat) (L : Lb) (k : Nat) (M : Map) (r : Row), x = .ref p ∧ y = .int (g : Nat) ∧ SwA a L k H p M ∧ M g = some r ∧ ∀ v, TpR H r.ml v → Q v H
def pr_Switch_posted (K : PySem.W.Frag) (a : Ad) : V → V → Hp → VK → XK → Prop := fun x y H Q _ => ∃ (p : Addr) (g : Nat) (L : Lb) (k : Nat) (M : Map) (r : Row), x = .ref p ∧ y = .int (g : Nat) ∧ SwA a L k H p M ∧ M g = some r ∧ ∀ v H', Same H H' → TpR H' r.ps v → Q v H'
def pr_Switch_frozen (K : PySem.W.Frag) (a : Ad) : V → Hp → VK → XK → Prop := fun x H Q _ => ∃ (p : Addr) (L : Lb) (k : Nat) (M : Map), x = .ref p ∧ SwA a L k H p M ∧ ∀ v H', Same H H' → FzR H' M v → Q v H'
def pr_Switch__check (K : PySem.W.Frag) (a : Ad) : V → V → Hp → VK → XK → Prop := fun x y H Q _ => ∃ (p : Addr) (g : Nat) (L : Lb) (k : Nat) (M : Map) (r : Row), x = .ref p ∧ y = .int (g : Nat) ∧ SwA a L k H p M ∧ M g = some r ∧ Q .non H
def pr_thawed_switch (K : PySem.W.Frag) (a : Ad) : V → Hp → VK → XK → Prop := fun x H Q _ => ∃ (L : Lb) (k : Nat) (M : Map), FzR H M x ∧ Lab H L ∧ (∀ g r, M g = some r → g < 6) ∧ ∀ p H' L', Stp (· = k) H L H' L' → H p = none → SwA a L' k H' p M → Q (.ref p) H'
/-! ### promises: the law -/
def pr__law_pairs (K : PySem.W.Frag) (a : Ad) : V → V → Hp → VK → XK → Prop := fun x y H Q _ => ∃ (c : Int) (n : Nat), x = .int c ∧ y = .int (n : Nat) ∧ n ≤ 400 ∧
  ∀ D vs uss H', H D = none → Same H H' → H' D = some (.lst vs) → Its H' vs uss → uss.length = n → Prs 133 uss → Q (.ref D) H'
def pr__law_began (K : PySem.W.Frag) (a : Ad) : V → V → V → V → V → Hp → VK → XK → Prop := fun x y z u v H Q _ => ∃ (p gl nl : Addr) (G : List Nat) (sh : Int) (ns : List Int) (full : Nat) (L : Lb) (kp kr : Nat), x = .ref p ∧ y = .ref gl ∧ z = .int sh ∧ u = .ref nl ∧ v = .int (full : Nat) ∧
  Lab H L ∧ SwA a L kp H p (fun _ => none) ∧ L gl = none ∧ H gl = some (.lst (intL G)) ∧ G.Nodup ∧ (∀ g ∈ G, g < 6) ∧ L nl = none ∧ H nl = some (.lst (intsL ns)) ∧ ns.length = 18 ∧ full ≤ 400 ∧ kp ≠ kr ∧
  ∀ s M H' L', Stp (Two kp kr) H L H' L' → Side a L' kp kr H' p s M → Inv M 2 133 133 → (∀ g, (∃ r, M g = some r) ↔ g ∈ G) → (∀ g r, G[0]? = some g → M g = some r → r.ml.length = full) → Q (.ref s) H'
def pr__law_tells (K : PySem.W.Frag) (a : Ad) : V → V → Hp → VK → XK → Prop := fun x y H Q _ => ∃ (p s : Addr) (L : Lb) (kp kr : Nat) (M : Map) (T A : Int), x = .ref p ∧ y = .ref s ∧ Side a L kp kr H p s M ∧ Inv M 1000 T A ∧ ∀ H', Same H H' → Q (.bl true) H'
def pr__law_post (K : PySem.W.Frag) (a : Ad) : V → V → V → V → V → V → V → Hp → VK → XK → Prop := fun x0 x1 y z u v w H Q _ => ∃ (p s : Addr) (g peer : Nat) (t wd arr : Int) (L : Lb) (kp kr : Nat) (M : Map), x0 = .ref p ∧ x1 = .ref s ∧ y = .int (g : Nat) ∧ z = .int t ∧ u = .int (peer : Nat) ∧ v = .int wd ∧ w = .int arr ∧
  Lab H L ∧ Side a L kp kr H p s M ∧ (∃ r, M g = some r ∧ r.ps.length ≤ 999) ∧ 0 ≤ t ∧ peer ≤ 7 ∧ 0 ≤ wd ∧ wd < 65521 ∧ 0 ≤ arr ∧ (∀ r, M peer = some r → r.ml.length ≤ 400 ∧ ∀ us ∈ r.ml, us.length = 2) ∧
  (∀ r, M peer = some r → r.ml.length < 400 → ∀ u, lastS r.ml = some u → u ≤ arr) ∧ ∀ H', Stp (Two kp kr) H L H' L → Side a L kp kr H' p s (postM M g t peer wd arr) → Q (.bl true) H'
def pr__law_too_early (K : PySem.W.Frag) (a : Ad) : V → V → V → V → Hp → VK → XK → Prop := fun x0 x1 y z H Q _ => ∃ (p s : Addr) (g peer : Nat) (L : Lb) (kp kr : Nat) (M : Map) (B : Nat) (T A : Int) (r0 : Row), x0 = .ref p ∧ x1 = .ref s ∧ y = .int (g : Nat) ∧ z = .int (peer : Nat) ∧
  Lab H L ∧ Side a L kp kr H p s M ∧ Inv M B T A ∧ B ≤ 999 ∧ (∃ r, M g = some r) ∧ M peer = some r0 ∧
  ∀ M' H', Stp (Two kp kr) H L H' L → Side a L kp kr H' p s M' → Inv M' (B + 1) T A → (∀ j, (∃ r, M' j = some r) ↔ ∃ r, M j = some r) → Q (.bl true) H'
def pr__law_fed (K : PySem.W.Frag) (a : Ad) : V → V → V → V → Hp → VK → XK → Prop := fun x0 x1 y z H Q _ => ∃ (p s : Addr) (g : Nat) (step : Int) (L : Lb) (kp kr : Nat) (M : Map) (B : Nat) (A : Int) (r0 : Row), x0 = .ref p ∧ x1 = .ref s ∧ y = .int (g : Nat) ∧ z = .int step ∧
  Lab H L ∧ Side a L kp kr H p s M ∧ Inv M B 133 A ∧ M g = some r0 ∧
  ∀ M' H', Stp (Two kp kr) H L H' L → Side a L kp kr H' p s M' → Inv M' B 800 A → (∀ j, (∃ r, M' j = some r) ↔ ∃ r, M j = some r) → Q (.bl true) H'
def prh__law_same (K : PySem.W.Frag) (a : Ad) : V → V → Hp → VK → XK → Prop := fun x y H Q _ => ∃ i : Int, x = .int i ∧ y = .int i ∧ Q (.bl true) H
/-! ### promises: what all laws share -/
def pr__law_cell (K : PySem.W.Frag) (a : Ad) : V → V → Hp → VK → XK → Prop := fun x y H Q _ => ∃ (s : Addr) (ns : List Int) (k : Nat), x = .ref s ∧ y = .int (k : Nat) ∧ SqL K H s (ns.map .int) ∧ ∀ z : Int, Q (.int z) H
def pr__law_row (K : PySem.W.Frag) (a : Ad) : V → V → V → Hp → VK → XK → Prop := fun x y z H Q _ => ∃ (c : Int) (n : Nat) (m : Int), x = .int c ∧ y = .int (n : Nat) ∧ z = .int m ∧ n ≤ 1000 ∧ 0 < m ∧ m < 1073741824 ∧
  ∀ (ns : List Int) (p : Addr) (H' : Hp), ns.length = n → (∀ u ∈ ns, 0 ≤ u ∧ u < m) → H p = none → Same H H' → H' p = some (.lst (intsL ns)) → Q (.ref p) H'
/-- tuples of None, ints, bools, texts, nested at most d deep -/
def flatD : Nat → PyData → Prop
  | 0, _ => False
  | d + 1, .tuple ds => ds.length ≤ 1000 ∧ ∀ x ∈ ds, flatD d x
  | _ + 1, .none => True
  | _ + 1, .bool _ => True
  | _ + 1, .int _ => True
  | _ + 1, .str _ => True
  | _ + 1, _ => False
def pr__law_same (K : PySem.W.Frag) (a : Ad) (d : Nat) : V → V → Hp → VK → XK → Prop := fun x y H Q _ => ∃ D, flatD d D ∧ Dp K H x D ∧ Dp K H y D ∧ Q (.bl true) H
def pr__law_shuffled (K : PySem.W.Frag) (a : Ad) : V → V → Hp → VK → XK → Prop := fun x y H Q _ => ∃ (c : Int) (n : Nat), x = .int c ∧ y = .int (n : Nat) ∧ n ≤ 1000 ∧
  ∀ (O : List Nat) (p : Addr) (H' : Hp), O.Perm (List.range n) → H p = none → Same H H' → H' p = some (.lst (intL O)) → Q (.ref p) H'
def prLaw (K : PySem.W.Frag) : V → Hp → VK → XK → Prop := fun x H Q _ => ∃ (s : Addr) (ns : List Int), x = .ref s ∧ SqL K H s (ns.map .int) ∧ ns.length ≤ 63 ∧ ∀ H', Q (.bl true) H'
def pr_law (K : PySem.W.Frag) (a : Ad) : V → Hp → VK → XK → Prop := prLaw K
end K74

namespace K74
open PySem L2 Lh
def sph__law_same (K : PySem.W.Frag) (a : Ad) : Sp := sp2 (prh__law_same K a)
def sp_TooMany___init__ (K : PySem.W.Frag) (a : Ad) : Sp := sp2 (pr_TooMany___init__ K a)
def sp_BadTape___init__ (K : PySem.W.Frag) (a : Ad) : Sp := sp2 (pr_BadTape___init__ K a)
def sp_check_range (K : PySem.W.Frag) (a : Ad) : Sp := sp3 (pr_check_range K a)
def sp_check_most (K : PySem.W.Frag) (a : Ad) : Sp := sp2 (pr_check_most K a)
def sp_arrive (K : PySem.W.Frag) (a : Ad) : Sp := sp3 (pr_arrive K a)
def sp_Switch___init__ (K : PySem.W.Frag) (a : Ad) : Sp := sp1 (pr_Switch___init__ K a)
def sp_Switch_join (K : PySem.W.Frag) (a : Ad) : Sp := sp5 (pr_Switch_join K a)
def sp_Switch_leave (K : PySem.W.Frag) (a : Ad) : Sp := sp2 (pr_Switch_leave K a)
def sp_Switch_guests (K : PySem.W.Frag) (a : Ad) : Sp := sp1 (pr_Switch_guests K a)
def sp_Switch_feed (K : PySem.W.Frag) (a : Ad) : Sp := sp4 (pr_Switch_feed K a)
def sp_Switch_post (K : PySem.W.Frag) (a : Ad) : Sp := sp6 (pr_Switch_post K a)
def sp_Switch_tape (K : PySem.W.Frag) (a : Ad) : Sp := sp2 (pr_Switch_tape K a)
def sp_Switch_mail (K : PySem.W.Frag) (a : Ad) : Sp := sp2 (pr_Switch_mail K a)
def sp_Switch_posted (K : PySem.W.Frag) (a : Ad) : Sp := sp2 (pr_Switch_posted K a)
def sp_Switch_frozen (K : PySem.W.Frag) (a : Ad) : Sp := sp1 (pr_Switch_frozen K a)
def sp_Switch__check (K : PySem.W.Frag) (a : Ad) : Sp := sp2 (pr_Switch__check K a)
def sp_thawed_switch (K : PySem.W.Frag) (a : Ad) : Sp := sp1 (pr_thawed_switch K a)
def sp__law_cell (K : PySem.W.Frag) (a : Ad) : Sp := sp2 (pr__law_cell K a)
def sp__law_row (K : PySem.W.Frag) (a : Ad) : Sp := sp3 (pr__law_row K a)
def sp__law_same (K : PySem.W.Frag) (a : Ad) (d : Nat) : Sp := sp2 (pr__law_same K a d)
def sp__law_shuffled (K : PySem.W.Frag) (a : Ad) : Sp := sp2 (pr__law_shuffled K a)
def sp__law_pairs (K : PySem.W.Frag) (a : Ad) : Sp := sp2 (pr__law_pairs K a)
def sp__law_began (K : PySem.W.Frag) (a : Ad) : Sp := sp5 (pr__law_began K a)
def sp__law_tells (K : PySem.W.Frag) (a : Ad) : Sp := sp2 (pr__law_tells K a)
def sp__law_post (K : PySem.W.Frag) (a : Ad) : Sp := sp7 (pr__law_post K a)
def sp__law_too_early (K : PySem.W.Frag) (a : Ad) : Sp := sp4 (pr__law_too_early K a)
def sp__law_fed (K : PySem.W.Frag) (a : Ad) : Sp := sp4 (pr__law_fed K a)
def sp_law (K : PySem.W.Frag) (a : Ad) : Sp := sp1 (pr_law K a)
def t_TooMany___init__ (K : PySem.W.Frag) (a : Ad) : TS :=
  (tOst K "limit" (tVar 0) (tVar 1))
def t_BadTape___init__ (K : PySem.W.Frag) (a : Ad) : TS :=
  (tOst K "place" (tVar 0) (tVar 1))
def t_check_range (K : PySem.W.Frag) (a : Ad) : TS :=
  (tIfS (tOr (tTest (tOp rLtI (tVar 0) (tVar 1))) (tTest (tOp rGtI (tVar 0) (tVar 2)))) tNever tNext)
def t_check_most (K : PySem.W.Frag) (a : Ad) (E : XK) : TS :=
  (tIfS (tTest (tOp rGtI (tVar 0) (tVar 1))) (tRaise a.C_TooMany (sp_TooMany___init__ K a) E (tCons (tVar 1) tNil)) tNext)
def t_arrive (K : PySem.W.Frag) (a : Ad) (E : XK) : TS :=
  (tSeq (tIfS (tTest (tOp rLtI (tVar 1) (tC (.int 0)))) tNever tNext)
      (tSeq (tDrop (tCall (sp_check_range K a) [] E0 (tCons (tVar 2) (tCons (tC (.int 0)) (tCons (tOp rSubI (tC (.int 65521)) (tC (.int 1))) tNil)))))
      (tSeq (tDrop (tCall (sp_check_most K a) [] E (tCons (tOp rAddI (tCB (rLenS K) (tCons (tVar 0) tNil)) (tC (.int 1))) (tCons (tC (.int 400)) tNil))))
      (tCutL (tIfS (tAnd (tTest (tOp rGtI (tCB (rLenS K) (tCons (tVar 0) tNil)) (tC (.int 0)))) (tTest (tOp rGtI (tOp (rIxT K) (tOp (rIxT K) (tVar 0) (tUn rNegI (tC (.int 1)))) (tC (.int 0))) (tVar 1)))) (tRaise a.C_BadTape (sp_BadTape___init__ K a) E (tCons (tCB (rLenS K) (tCons (tVar 0) tNil)) tNil)) tNext) (tRet (tOp (rCatA K) (tVar 0) (tTup (tCons (tTup (tCons (tVar 1) (tCons (tVar 2) tNil))) tNil))))))))
def t_Switch___init__ (K : PySem.W.Frag) (a : Ad) : TS :=
  (tSeq (sFld K (tVar 0) tDNewK "_tapes")
      (tSeq (sFld K (tVar 0) tDNewK "_mails")
      (sFld K (tVar 0) tDNewK "_posts")))
def t_Switch_join (K : PySem.W.Frag) (a : Ad) : TS :=
  (tSeq (tDrop (tCall (sp_check_range K a) [] E0 (tCons (tVar 1) (tCons (tC (.int 0)) (tCons (tOp rSubI (tC (.int 6)) (tC (.int 1))) tNil)))))
      (tSeq (tIfS (tB (tDIn (tVar 1) (tFld K (tVar 0) "_tapes"))) tNever tNext)
      (tSeq (sDPut (tFld K (tVar 0) "_tapes") (tVar 1) (tVar 2))
      (tSeq (sDPut (tFld K (tVar 0) "_mails") (tVar 1) (tVar 3))
      (sDPut (tFld K (tVar 0) "_posts") (tVar 1) (tCB (rListOf K) (tCons (tVar 4) tNil)))))))
def t_Switch_leave (K : PySem.W.Frag) (a : Ad) : TS :=
  (tSeq (tDrop (tMeth a.C_Switch "_check" (sp_Switch__check K a) [] E0 (tVar 0) (tCons (tVar 1) tNil)))
      (tSeq (sDDel (tFld K (tVar 0) "_tapes") (tVar 1))
      (tSeq (sDDel (tFld K (tVar 0) "_mails") (tVar 1))
      (sDDel (tFld K (tVar 0) "_posts") (tVar 1)))))
def t_Switch_guests (K : PySem.W.Frag) (a : Ad) : TS :=
  (tRet (tCB (rTupOf K) (tCons (tCB rSortedDI (tCons (tFld K (tVar 0) "_tapes") tNil)) tNil)))
def t_Switch_feed (K : PySem.W.Frag) (a : Ad) (E : XK) : TS :=
  (tSeq (tDrop (tMeth a.C_Switch "_check" (sp_Switch__check K a) [] E0 (tVar 0) (tCons (tVar 1) tNil)))
      (sDPut (tFld K (tVar 0) "_tapes") (tVar 1) (tCall (sp_arrive K a) [] E (tCons (tDGet (tFld K (tVar 0) "_tapes") (tVar 1)) (tCons (tVar 2) (tCons (tVar 3) tNil))))))
def t_Switch_post (K : PySem.W.Frag) (a : Ad) (E : XK) : TS :=
  (tSeq (tDrop (tMeth a.C_Switch "_check" (sp_Switch__check K a) [] E0 (tVar 0) (tCons (tVar 1) tNil)))
      (tSeq (tIfS (tTest (tOp rLtI (tVar 2) (tC (.int 0)))) tNever tNext)
      (tSeq (tDrop (tCall (sp_check_range K a) [] E0 (tCons (tVar 3) (tCons (tC (.int 0)) (tCons (tC (.int 7)) tNil)))))
      (tSeq (tDrop (tCall (sp_check_range K a) [] E0 (tCons (tVar 4) (tCons (tC (.int 0)) (tCons (tOp rSubI (tC (.int 65521)) (tC (.int 1))) tNil)))))
      (tSeq (tIfS (tTest (tOp rLtI (tVar 5) (tC (.int 0)))) tNever tNext)
      (tCutL (tAsg (tAndV (tDIn (tVar 3) (tFld K (tVar 0) "_mails")) (tOp rLtI (tCB (rLenS K) (tCons (tDGet (tFld K (tVar 0) "_mails") (tVar 3)) tNil)) (tC (.int 400)))) (gName 6)) (tCutL (tIfS (tB (tVar 6)) (sDPut (tFld K (tVar 0) "_mails") (tVar 3) (tCall (sp_arrive K a) [] E (tCons (tDGet (tFld K (tVar 0) "_mails") (tVar 3)) (tCons (tVar 5) (tCons (tVar 4) tNil))))) tNext) (tSeq (tDrop (tBM K "list" rAppend (tDGet (tFld K (tVar 0) "_posts") (tVar 1)) (tCons (tTup (tCons (tVar 2) (tCons (tVar 3) (tCons (tVar 4) tNil)))) tNil)))
      (tRet (tVar 6))))))))))
def t_Switch_tape (K : PySem.W.Frag) (a : Ad) : TS :=
  (tSeq (tDrop (tMeth a.C_Switch "_check" (sp_Switch__check K a) [] E0 (tVar 0) (tCons (tVar 1) tNil)))
      (tRet (tDGet (tFld K (tVar 0) "_tapes") (tVar 1))))
def t_Switch_mail (K : PySem.W.Frag) (a : Ad) : TS :=
  (tSeq (tDrop (tMeth a.C_Switch "_check" (sp_Switch__check K a) [] E0 (tVar 0) (tCons (tVar 1) tNil)))
      (tRet (tDGet (tFld K (tVar 0) "_mails") (tVar 1))))
def t_Switch_posted (K : PySem.W.Frag) (a : Ad) : TS :=
  (tSeq (tDrop (tMeth a.C_Switch "_check" (sp_Switch__check K a) [] E0 (tVar 0) (tCons (tVar 1) tNil)))
      (tRet (tCB (rTupOf K) (tCons (tDGet (tFld K (tVar 0) "_posts") (tVar 1)) tNil))))
def t_Switch_frozen (K : PySem.W.Frag) (a : Ad) : TS :=
  (tRet (tCB (rTupOf K) (tCons (tLc (iTup K (tMeth a.C_Switch "guests" (sp_Switch_guests K a) [] E0 (tVar 0) tNil)) (gName 1) tYes (tTup (tCons (tVar 1) (tCons (tDGet (tFld K (tVar 0) "_tapes") (tVar 1)) (tCons (tDGet (tFld K (tVar 0) "_mails") (tVar 1)) (tCons (tMeth a.C_Switch "posted" (sp_Switch_posted K a) [] E0 (tVar 0) (tCons (tVar 1) tNil)) tNil))))) [1]) tNil)))
def t_Switch__check (K : PySem.W.Frag) (a : Ad) : TS :=
  (tIfS (tB (tDNotIn (tVar 1) (tFld K (tVar 0) "_tapes"))) tNever tNext)
def t_thawed_switch (K : PySem.W.Frag) (a : Ad) : TS :=
  (tSeq (tAsg (tMake a.C_Switch (sp_Switch___init__ K a) [] E0 tNil) (gName 1))
      (tSeq (tFor (iTup K (tVar 0)) (gTup K 4 (gCons (gName 2) (gCons (gName 3) (gCons (gName 4) (gCons (gName 5) gNil))))) (tDrop (tMeth a.C_Switch "join" (sp_Switch_join K a) [] E0 (tVar 1) (tCons (tVar 2) (tCons (tVar 3) (tCons (tVar 4) (tCons (tVar 5) tNil)))))))
      (tRet (tVar 1))))
def t__law_cell (K : PySem.W.Frag) (a : Ad) : TS :=
  (tSeq (tIfS (tTest (tOp rLtI (tVar 1) (tCB (rLenS K) (tCons (tVar 0) tNil)))) (tRet (tOp (rIxL K) (tVar 0) (tVar 1))) tNext)
      (tRet (tC (.int 0))))
def t__law_row (K : PySem.W.Frag) (a : Ad) : TS :=
  (tSeq (tAsg (tLst tNil) (gName 3))
      (tSeq (tAsg (tCB rAbs (tCons (tVar 0) tNil)) (gName 4))
      (tSeq (tIfS (tTest (tOp rGeI (tVar 4) (tOp rPowI (tC (.int 10)) (tC (.int 18))))) (tSeq (tFor (iRng1 (tCons (tVar 1) tNil)) (gName 5) (tSeq (tDrop (tBM K "list" rAppend (tVar 3) (tCons (tOp rModI (tCB rInt1 (tCons (tVar 4) tNil)) (tVar 2)) tNil)))
      (tAsg (tOp rFdivI (tVar 4) (tVar 2)) (gName 4))))
      (tRet (tVar 3))) tNext)
      (tSeq (tFor (iRng1 (tCons (tVar 1) tNil)) (gName 5) (tSeq (tAsg (tOp rModI (tCB rInt1 (tCons (tOp rAddI (tOp rAddI (tOp rMulI (tVar 4) (tC (.int 48271))) (tOp rMulI (tVar 5) (tC (.int 69621)))) (tC (.int 12345))) tNil)) (tC (.int 2147483647))) (gName 6))
      (tSeq (tAsg (tOp rModI (tCB rInt1 (tCons (tOp rAddI (tOp rAddI (tOp rMulI (tVar 6) (tVar 6)) (tOp rMulI (tVar 5) (tC (.int 40692)))) (tVar 4)) tNil)) (tC (.int 2147483629))) (gName 6))
      (tDrop (tBM K "list" rAppend (tVar 3) (tCons (tOp rModI (tCB rInt1 (tCons (tOp rFdivI (tVar 6) (tC (.int 7))) tNil)) (tVar 2)) tNil))))))
      (tRet (tVar 3))))))
def t__law_same (K : PySem.W.Frag) (a : Ad) (spr : Sp) : TS :=
  (tSeq (tIfS (tB (tCB (rIsi K) (tCons (tVar 1) (tCons (tC (.ty "tuple")) tNil)))) (tSeq (tIfS (tOr (tNot (tB (tCB (rIsi K) (tCons (tVar 0) (tCons (tC (.ty "tuple")) tNil))))) (tTest (tOp rNe (tCB (rLenS K) (tCons (tVar 0) tNil)) (tCB (rLenS K) (tCons (tVar 1) tNil))))) (tRet (tC (.bl false))) tNext)
      (tSeq (tFor (iRng1 (tCons (tCB (rLenS K) (tCons (tVar 1) tNil)) tNil)) (gName 2) (tIfS (tNot (tB (tCall spr [] E0 (tCons (tOp (rIxT K) (tVar 0) (tVar 2)) (tCons (tOp (rIxT K) (tVar 1) (tVar 2)) tNil))))) (tRet (tC (.bl false))) tNext))
      (tRet (tC (.bl true))))) tNext)
      (tSeq (tIfS (tB (tCB (rIsi K) (tCons (tVar 1) (tCons (tC (.ty "bool")) tNil)))) (tRet (tAndV (tCB (rIsi K) (tCons (tVar 0) (tCons (tC (.ty "bool")) tNil))) (tOp rEq (tVar 0) (tVar 1)))) tNext)
      (tSeq (tIfS (tB (tCB (rIsi K) (tCons (tVar 1) (tCons (tC (.ty "int")) tNil)))) (tRet (tAndV (tCB (rIsi K) (tCons (tVar 0) (tCons (tC (.ty "int")) tNil))) (tAndV (tNotV (tCB (rIsi K) (tCons (tVar 0) (tCons (tC (.ty "bool")) tNil)))) (tOp rEq (tVar 0) (tVar 1))))) tNext)
      (tSeq (tIfS (tB (tCB (rIsi K) (tCons (tVar 1) (tCons (tC (.ty "str")) tNil)))) (tRet (tAndV (tCB (rIsi K) (tCons (tVar 0) (tCons (tC (.ty "str")) tNil))) (tOp rEq (tVar 0) (tVar 1)))) tNext)
      (tRet (tAndV (tOp rIsNon (tVar 1) (tC .non)) (tOp rIsNon (tVar 0) (tC .non))))))))
def t__law_shuffled (K : PySem.W.Frag) (a : Ad) : TS :=
  (tSeq (tAsg (tLc (iRng1 (tCons (tVar 1) tNil)) (gName 5) tYes (tVar 5) [5]) (gName 2))
      (tSeq (tAsg (tCall (sp__law_row K a) [] E0 (tCons (tVar 0) (tCons (tVar 1) (tCons (tC (.int 1048576)) tNil)))) (gName 3))
      (tSeq (tAsg (tLst tNil) (gName 4))
      (tSeq (tFor (iRng1 (tCons (tVar 1) tNil)) (gName 5) (tDrop (tBM K "list" rAppend (tVar 4) (tCons (tBM K "list" rPopAt (tVar 2) (tCons (tOp rModI (tCB rInt1 (tCons (tOp (rIxL K) (tVar 3) (tVar 5)) tNil)) (tCB (rLenS K) (tCons (tVar 2) tNil))) tNil)) tNil))))
      (tRet (tVar 4))))))
def t__law_pairs (K : PySem.W.Frag) (a : Ad) : TS :=
  (tRet (tLc (iRng1 (tCons (tVar 1) tNil)) (gName 2) tYes (tTup (tCons (tOp rFdivI (tVar 2) (tC (.int 3))) (tCons (tOp rModI (tCB rInt1 (tCons (tOp rAddI (tVar 0) (tOp rMulI (tC (.int 31)) (tVar 2))) tNil)) (tC (.int 65521))) tNil))) [2]))
def t__law_began (K : PySem.W.Frag) (a : Ad) : TS :=
  (tSeq (tAsg tDNewK (gName 5))
      (tSeq (tFor (iRng1 (tCons (tCB (rLenS K) (tCons (tVar 1) tNil)) tNil)) (gName 6) (tSeq (tAsg (tOp (rIxL K) (tLst (tCons (tOp rModI (tCB rInt1 (tCons (tOp (rIxL K) (tVar 3) (tOp rMulI (tC (.int 3)) (tVar 6))) tNil)) (tC (.int 401))) (tCons (tC (.int 400)) (tCons (tOp rModI (tCB rInt1 (tCons (tOp (rIxL K) (tVar 3) (tOp rMulI (tC (.int 3)) (tVar 6))) tNil)) (tC (.int 4))) tNil)))) (tOp rModI (tCB rInt1 (tCons (tOp (rIxL K) (tVar 3) (tOp rMulI (tC (.int 3)) (tVar 6))) tNil)) (tC (.int 3)))) (gName 7))
      (tSeq (tAsg (tOp (rIxL K) (tLst (tCons (tOp rModI (tCB rInt1 (tCons (tOp (rIxL K) (tVar 3) (tOp rAddI (tOp rMulI (tC (.int 3)) (tVar 6)) (tC (.int 1)))) tNil)) (tC (.int 401))) (tCons (tC (.int 0)) (tCons (tC (.int 399)) (tCons (tC (.int 400)) tNil))))) (tOp rModI (tCB rInt1 (tCons (tOp (rIxL K) (tVar 3) (tOp rAddI (tOp rMulI (tC (.int 3)) (tVar 6)) (tC (.int 1)))) tNil)) (tC (.int 4)))) (gName 8))
      (tCutL (tIfS (tTest (tOp rEq (tVar 6) (tC (.int 0)))) (tSeq (tAsg (tVar 4) (gName 8))
      (tAsg (tOp rModI (tCB rInt1 (tCons (tOp (rIxL K) (tVar 3) (tC (.int 0))) tNil)) (tC (.int 400))) (gName 7))) tNext) (tSeq (tAsg (tLc (iRng1 (tCons (tOp rModI (tCB rInt1 (tCons (tOp (rIxL K) (tVar 3) (tOp rAddI (tOp rMulI (tC (.int 3)) (tVar 6)) (tC (.int 2)))) tNil)) (tC (.int 3))) tNil)) (gName 11) tYes (tTup (tCons (tVar 11) (tCons (tOp rSubI (tC (.int 7)) (tVar 11)) (tCons (tOp rAddI (tC (.int 9)) (tVar 11)) tNil)))) [11]) (gName 9))
      (tSeq (sDPut (tVar 5) (tOp (rIxL K) (tVar 1) (tVar 6)) (tLst (tCons (tCall (sp__law_pairs K a) [] E0 (tCons (tOp rAddI (tVar 2) (tVar 6)) (tCons (tVar 7) tNil))) (tCons (tCall (sp__law_pairs K a) [] E0 (tCons (tOp rAddI (tVar 2) (tOp rMulI (tC (.int 9)) (tVar 6))) (tCons (tVar 8) tNil))) (tCons (tVar 9) tNil)))))
      (tSeq (tAsg (tDGet (tVar 5) (tOp (rIxL K) (tVar 1) (tVar 6))) (gName 10))
      (tIfS (tNot (tB (tCall (sp__law_same K a 3) [] E0 (tCons (tMeth a.C_Switch "join" (sp_Switch_join K a) [] E0 (tVar 0) (tCons (tOp (rIxL K) (tVar 1) (tVar 6)) (tCons (tCB (rTupOf K) (tCons (tOp (rIxL K) (tVar 10) (tC (.int 0))) tNil)) (tCons (tCB (rTupOf K) (tCons (tOp (rIxL K) (tVar 10) (tC (.int 1))) tNil)) (tCons (tCB (rTupOf K) (tCons (tOp (rIxL K) (tVar 10) (tC (.int 2))) tNil)) tNil))))) (tCons (tC .non) tNil))))) (tRet (tC .non)) tNext))))))))
      (tRet (tVar 5))))
def t__law_tells (K : PySem.W.Frag) (a : Ad) : TS :=
  (tSeq (tAsg (tLst tNil) (gName 2))
      (tSeq (tFor (iList K (tCB (rSortedI K) (tCons (tCB rListD (tCons (tVar 1) tNil)) tNil))) (gName 3) (tSeq (tAsg (tDGet (tVar 1) (tVar 3)) (gName 4))
      (tSeq (tIfS (tOr (tTest (tOp (rNeD K) (tMeth a.C_Switch "tape" (sp_Switch_tape K a) [] E0 (tVar 0) (tCons (tVar 3) tNil)) (tCB (rTupOf K) (tCons (tOp (rIxL K) (tVar 4) (tC (.int 0))) tNil)))) (tTest (tOp (rNeD K) (tMeth a.C_Switch "mail" (sp_Switch_mail K a) [] E0 (tVar 0) (tCons (tVar 3) tNil)) (tCB (rTupOf K) (tCons (tOp (rIxL K) (tVar 4) (tC (.int 1))) tNil))))) (tRet (tC (.bl false))) tNext)
      (tSeq (tIfS (tNot (tB (tCall (sp__law_same K a 3) [] E0 (tCons (tMeth a.C_Switch "posted" (sp_Switch_posted K a) [] E0 (tVar 0) (tCons (tVar 3) tNil)) (tCons (tCB (rTupOf K) (tCons (tOp (rIxL K) (tVar 4) (tC (.int 2))) tNil)) tNil))))) (tRet (tC (.bl false))) tNext)
      (tDrop (tBM K "list" rAppend (tVar 2) (tCons (tTup (tCons (tVar 3) (tCons (tCB (rTupOf K) (tCons (tOp (rIxL K) (tVar 4) (tC (.int 0))) tNil)) (tCons (tCB (rTupOf K) (tCons (tOp (rIxL K) (tVar 4) (tC (.int 1))) tNil)) (tCons (tCB (rTupOf K) (tCons (tOp (rIxL K) (tVar 4) (tC (.int 2))) tNil)) tNil))))) tNil)))))))
      (tSeq (tIfS (tNot (tB (tCall (sp__law_same K a 3) [] E0 (tCons (tMeth a.C_Switch "guests" (sp_Switch_guests K a) [] E0 (tVar 0) tNil) (tCons (tCB (rTupOf K) (tCons (tCB (rSortedI K) (tCons (tCB rListD (tCons (tVar 1) tNil)) tNil)) tNil)) tNil))))) (tRet (tC (.bl false))) tNext)
      (tRet (tOp (rEqD K) (tMeth a.C_Switch "frozen" (sp_Switch_frozen K a) [] E0 (tVar 0) tNil) (tCB (rTupOf K) (tCons (tVar 2) tNil)))))))
def t__law_post (K : PySem.W.Frag) (a : Ad) : TS :=
  (tSeq (tAsg (tC (.bl false)) (gName 7))
      (tCutL (tIfS (tB (tDIn (tVar 4) (tVar 1))) (tSeq (tAsg (tOp (rIxL K) (tDGet (tVar 1) (tVar 4)) (tC (.int 1))) (gName 8))
      (tIfS (tTest (tOp rLtI (tCB (rLenS K) (tCons (tVar 8) tNil)) (tC (.int 400)))) (tSeq (tAsg (tC (.bl true)) (gName 7))
      (tDrop (tBM K "list" rAppend (tVar 8) (tCons (tTup (tCons (tVar 6) (tCons (tVar 5) tNil))) tNil)))) tNext)) tNext) (tSeq (tAsg (tOp (rIxL K) (tDGet (tVar 1) (tVar 2)) (tC (.int 2))) (gName 9))
      (tSeq (tDrop (tBM K "list" rAppend (tVar 9) (tCons (tTup (tCons (tVar 3) (tCons (tVar 4) (tCons (tVar 5) tNil)))) tNil)))
      (tRet (tCall (sp__law_same K a 3) [] E0 (tCons (tMeth a.C_Switch "post" (sp_Switch_post K a) [] E0 (tVar 0) (tCons (tVar 2) (tCons (tVar 3) (tCons (tVar 4) (tCons (tVar 5) (tCons (tVar 6) tNil)))))) (tCons (tVar 7) tNil))))))))
def t__law_too_early (K : PySem.W.Frag) (a : Ad) : TS :=
  (tSeq (tAsg (tOp (rIxL K) (tDGet (tVar 1) (tVar 3)) (tC (.int 1))) (gName 4))
      (tSeq (tIfS (tOr (tTest (tOp rEq (tCB (rLenS K) (tCons (tVar 4) tNil)) (tC (.int 0)))) (tTest (tOp rEq (tOp (rIxT K) (tOp (rIxL K) (tVar 4) (tOp rSubI (tCB (rLenS K) (tCons (tVar 4) tNil)) (tC (.int 1)))) (tC (.int 0))) (tC (.int 0))))) (tRet (tC (.bl true))) tNext)
      (tSeq (tIfS (tTest (tOp rEq (tCB (rLenS K) (tCons (tVar 4) tNil)) (tC (.int 400)))) (tRet (tCall (sp__law_post K a) [] E0 (tCons (tVar 0) (tCons (tVar 1) (tCons (tVar 2) (tCons (tC (.int 1)) (tCons (tVar 3) (tCons (tC (.int 77)) (tCons (tC (.int 0)) tNil))))))))) tNext)
      (tTryAs K (.ref a.C_BadTape) 5 (fun W => (tSeq (tDrop (tMethE a.C_Switch "post" (sp_Switch_post K a) (WE W) (tVar 0) (tCons (tVar 2) (tCons (tC (.int 1)) (tCons (tVar 3) (tCons (tC (.int 77)) (tCons (tOp rSubI (tOp (rIxT K) (tOp (rIxL K) (tVar 4) (tOp rSubI (tCB (rLenS K) (tCons (tVar 4) tNil)) (tC (.int 1)))) (tC (.int 0))) (tC (.int 1))) tNil)))))))
      (tRet (tC (.bl false))))) (fun xa xc xd => (tRet (tCallS (sph__law_same K a) (fun _ => E0) (tCons (tXf xa xc xd a.C_BadTape "place" (tVar 5)) (tCons (tCB (rLenS K) (tCons (tVar 4) tNil)) tNil)))))))))
def t__law_fed (K : PySem.W.Frag) (a : Ad) : TS :=
  (tSeq (tAsg (tOp (rIxL K) (tDGet (tVar 1) (tVar 2)) (tC (.int 0))) (gName 4))
      (tSeq (tFor (iRng1 (tCons (tOp rSubI (tC (.int 400)) (tCB (rLenS K) (tCons (tVar 4) tNil))) tNil)) (gName 5) (tSeq (tAsg (tOp rModI (tCB rInt1 (tCons (tOp rAddI (tVar 3) (tOp rMulI (tC (.int 5)) (tVar 5))) tNil)) (tC (.int 65521))) (gName 6))
      (tSeq (tDrop (tBM K "list" rAppend (tVar 4) (tCons (tTup (tCons (tOp rAddI (tC (.int 400)) (tVar 5)) (tCons (tVar 6) tNil))) tNil)))
      (tIfS (tNot (tB (tCall (sp__law_same K a 3) [] E0 (tCons (tMeth a.C_Switch "feed" (sp_Switch_feed K a) [] E0 (tVar 0) (tCons (tVar 2) (tCons (tOp rAddI (tC (.int 400)) (tVar 5)) (tCons (tVar 6) tNil)))) (tCons (tC .non) tNil))))) (tRet (tC (.bl false))) tNext))))
      (tTryAs K (.ref a.C_TooMany) 7 (fun W => (tSeq (tDrop (tMethE a.C_Switch "feed" (sp_Switch_feed K a) (WE W) (tVar 0) (tCons (tVar 2) (tCons (tC (.int 9000)) (tCons (tC (.int 1)) tNil)))))
      (tRet (tC (.bl false))))) (fun xa xc xd => (tRet (tCallS (sph__law_same K a) (fun _ => E0) (tCons (tXf xa xc xd a.C_TooMany "limit" (tVar 7)) (tCons (tC (.int 400)) tNil))))))))
def t_law (K : PySem.W.Frag) (a : Ad) : TS :=
  (tSeq (tAsg (tCall (sp__law_row K a) [] E0 (tCons (tCall (sp__law_cell K a) [] E0 (tCons (tVar 0) (tCons (tC (.int 0)) tNil))) (tCons (tC (.int 8)) (tCons (tC (.int 1000000)) tNil)))) (gName 1))
      (tSeq (tAsg (tCall (sp__law_row K a) [] E0 (tCons (tCall (sp__law_cell K a) [] E0 (tCons (tVar 0) (tCons (tC (.int 1)) tNil))) (tCons (tC (.int 18)) (tCons (tC (.int 1000000)) tNil)))) (gName 2))
      (tSeq (tAsg (tSl (rSlL K) (tCall (sp__law_shuffled K a) [] E0 (tCons (tCall (sp__law_cell K a) [] E0 (tCons (tVar 0) (tCons (tC (.int 2)) tNil))) (tCons (tC (.int 6)) tNil))) tNoPart (tPart (tOp rAddI (tC (.int 2)) (tOp rModI (tCB rInt1 (tCons (tOp (rIxL K) (tVar 1) (tC (.int 0))) tNil)) (tC (.int 5)))))) (gName 3))
      (tSeq (tAsg (tOp rModI (tCB rInt1 (tCons (tOp (rIxL K) (tVar 1) (tC (.int 1))) tNil)) (tC (.int 40))) (gName 4))
      (tCutL (tIfS (tTest (tOp rEq (tOp rModI (tCB rInt1 (tCons (tOp (rIxL K) (tVar 1) (tC (.int 2))) tNil)) (tC (.int 8))) (tC (.int 0)))) (tAsg (tOp rModI (tCB rInt1 (tCons (tOp (rIxL K) (tVar 1) (tC (.int 1))) tNil)) (tC (.int 401))) (gName 4)) tNext) (tSeq (tAsg (tLst (tCons (tMake a.C_Switch (sp_Switch___init__ K a) [] E0 tNil) (tCons (tMake a.C_Switch (sp_Switch___init__ K a) [] E0 tNil) tNil))) (gName 5))
      (tSeq (tAsg (tLst tNil) (gName 6))
      (tCutL (tFor (iRng1 (tCons (tC (.int 2)) tNil)) (gName 7) (tSeq (tAsg (tCall (sp__law_began K a) [] E0 (tCons (tOp (rIxL K) (tVar 5) (tVar 7)) (tCons (tVar 3) (tCons (tOp rAddI (tOp (rIxL K) (tVar 1) (tC (.int 3))) (tVar 7)) (tCons (tVar 2) (tCons (tOp rSubI (tC (.int 400)) (tVar 4)) tNil)))))) (gName 8))
      (tSeq (tIfS (tTest (tOp rIsNon (tVar 8) (tC .non))) (tRet (tC (.bl false))) tNext)
      (tDrop (tBM K "list" rAppend (tVar 6) (tCons (tVar 8) tNil)))))) (tSeq (tAsg (tOp (rIxL K) (tVar 3) (tC (.int 0))) (gName 9))
      (tSeq (tAsg (tOp rAddI (tOp rAddI (tVar 4) (tC (.int 5))) (tOp rModI (tCB rInt1 (tCons (tOp (rIxL K) (tVar 1) (tC (.int 4))) tNil)) (tC (.int 40)))) (gName 10))
      (tSeq (tAsg (tCall (sp__law_row K a) [] E0 (tCons (tCall (sp__law_cell K a) [] E0 (tCons (tVar 0) (tCons (tC (.int 3)) tNil))) (tCons (tVar 10) (tCons (tC (.int 1000000)) tNil)))) (gName 11))
      (tSeq (tFor (iRng1 (tCons (tVar 10) tNil)) (gName 12) (tSeq (tAsg (tOp (rIxL K) (tVar 3) (tOp rModI (tCB rInt1 (tCons (tOp (rIxL K) (tVar 11) (tVar 12)) tNil)) (tCB (rLenS K) (tCons (tVar 3) tNil)))) (gName 13))
      (tSeq (tAsg (tOp rModI (tCB rInt1 (tCons (tOp rFdivI (tOp (rIxL K) (tVar 11) (tVar 12)) (tC (.int 8))) tNil)) (tC (.int 8))) (gName 14))
      (tCutL (tIfS (tOr (tTest (tOp rGtI (tOp rModI (tCB rInt1 (tCons (tOp rFdivI (tOp (rIxL K) (tVar 11) (tVar 12)) (tC (.int 64))) tNil)) (tC (.int 4))) (tC (.int 0)))) (tTest (tOp rLtI (tVar 12) (tC (.int 2))))) (tAsg (tVar 9) (gName 14)) tNext) (tCutL (tIfS (tTest (tOp rEq (tVar 12) (tC (.int 1)))) (tAsg (tVar 9) (gName 13)) tNext) (tSeq (tAsg (tOp rModI (tCB rInt1 (tCons (tOp rFdivI (tOp (rIxL K) (tVar 11) (tVar 12)) (tC (.int 16))) tNil)) (tC (.int 65521))) (gName 15))
      (tFor (iRng1 (tCons (tC (.int 2)) tNil)) (gName 7) (tIfS (tOr (tTest (tOp rEq (tVar 7) (tC (.int 0)))) (tTest (tOp rEq (tOp rModI (tCB rInt1 (tCons (tVar 12) tNil)) (tC (.int 3))) (tC (.int 0))))) (tIfS (tNot (tB (tCall (sp__law_post K a) [] E0 (tCons (tOp (rIxL K) (tVar 5) (tVar 7)) (tCons (tOp (rIxL K) (tVar 6) (tVar 7)) (tCons (tVar 13) (tCons (tVar 12) (tCons (tVar 14) (tCons (tVar 15) (tCons (tOp rAddI (tC (.int 500)) (tOp rFdivI (tVar 12) (tC (.int 2)))) tNil)))))))))) (tRet (tC (.bl false))) tNext) tNext))))))))
      (tCutL (tFor (iRng1 (tCons (tVar 4) tNil)) (gName 12) (tIfS (tNot (tB (tCall (sp__law_post K a) [] E0 (tCons (tOp (rIxL K) (tVar 5) (tC (.int 0))) (tCons (tOp (rIxL K) (tVar 6) (tC (.int 0))) (tCons (tOp (rIxL K) (tVar 3) (tC (.int 1))) (tCons (tC (.int 3)) (tCons (tVar 9) (tCons (tVar 12) (tCons (tC (.int 1000)) tNil)))))))))) (tRet (tC (.bl false))) tNext)) (tSeq (tIfS (tOr (tTest (tOp rNe (tCB (rLenS K) (tCons (tOp (rIxL K) (tDGet (tOp (rIxL K) (tVar 6) (tC (.int 0))) (tVar 9)) (tC (.int 1))) tNil)) (tC (.int 400)))) (tOr (tNot (tB (tCall (sp__law_tells K a) [] E0 (tCons (tOp (rIxL K) (tVar 5) (tC (.int 0))) (tCons (tOp (rIxL K) (tVar 6) (tC (.int 0))) tNil))))) (tNot (tB (tCall (sp__law_tells K a) [] E0 (tCons (tOp (rIxL K) (tVar 5) (tC (.int 1))) (tCons (tOp (rIxL K) (tVar 6) (tC (.int 1))) tNil))))))) (tRet (tC (.bl false))) tNext)
      (tSeq (tFor (iList K (tVar 3)) (gName 14) (tFor (iRng1 (tCons (tC (.int 2)) tNil)) (gName 7) (tIfS (tNot (tB (tCall (sp__law_too_early K a) [] E0 (tCons (tOp (rIxL K) (tVar 5) (tVar 7)) (tCons (tOp (rIxL K) (tVar 6) (tVar 7)) (tCons (tOp (rIxL K) (tVar 3) (tC (.int 1))) (tCons (tVar 14) tNil))))))) (tRet (tC (.bl false))) tNext)))
      (tSeq (tIfS (tNot (tB (tCall (sp__law_fed K a) [] E0 (tCons (tOp (rIxL K) (tVar 5) (tC (.int 0))) (tCons (tOp (rIxL K) (tVar 6) (tC (.int 0))) (tCons (tVar 9) (tCons (tOp (rIxL K) (tVar 1) (tC (.int 5))) tNil))))))) (tRet (tC (.bl false))) tNext)
      (tCutL (tIfS (tOr (tNot (tB (tCall (sp__law_tells K a) [] E0 (tCons (tOp (rIxL K) (tVar 5) (tC (.int 0))) (tCons (tOp (rIxL K) (tVar 6) (tC (.int 0))) tNil))))) (tNot (tB (tCall (sp__law_tells K a) [] E0 (tCons (tOp (rIxL K) (tVar 5) (tC (.int 1))) (tCons (tOp (rIxL K) (tVar 6) (tC (.int 1))) tNil)))))) (tRet (tC (.bl false))) tNext) (tSeq (tAsg (tOp (rIxL K) (tVar 6) (tC (.int 0))) (gName 8))
      (tSeq (tIfS (tNot (tB (tCall (sp__law_same K a 3) [] E0 (tCons (tMeth a.C_Switch "leave" (sp_Switch_leave K a) [] E0 (tOp (rIxL K) (tVar 5) (tC (.int 0))) (tCons (tVar 9) tNil)) (tCons (tC .non) tNil))))) (tRet (tC (.bl false))) tNext)
      (tSeq (tDrop (tDPop1 (tVar 8) (tVar 9)))
      (tCutL (tIfS (tNot (tB (tCall (sp__law_post K a) [] E0 (tCons (tOp (rIxL K) (tVar 5) (tC (.int 0))) (tCons (tVar 8) (tCons (tOp (rIxL K) (tVar 3) (tC (.int 1))) (tCons (tC (.int 8)) (tCons (tVar 9) (tCons (tC (.int 65520)) (tCons (tC (.int 0)) tNil)))))))))) (tRet (tC (.bl false))) tNext) (tSeq (tAsg (tCall (sp_thawed_switch K a) [] E0 (tCons (tMeth a.C_Switch "frozen" (sp_Switch_frozen K a) [] E0 (tOp (rIxL K) (tVar 5) (tC (.int 0))) tNil) tNil)) (gSub (tVar 5) (tC (.int 0)) rSetL))
      (tSeq (sDPut (tVar 8) (tVar 9) (tLst (tCons (tLst tNil) (tCons (tLst tNil) (tCons (tLst tNil) tNil)))))
      (tCutL (tIfS (tNot (tB (tCall (sp__law_same K a 3) [] E0 (tCons (tMeth a.C_Switch "join" (sp_Switch_join K a) [] E0 (tOp (rIxL K) (tVar 5) (tC (.int 0))) (tCons (tVar 9) (tCons (tTup tNil) (tCons (tTup tNil) (tCons (tTup tNil) tNil))))) (tCons (tC .non) tNil))))) (tRet (tC (.bl false))) tNext) (tSeq (tIfS (tOr (tNot (tB (tCall (sp__law_post K a) [] E0 (tCons (tOp (rIxL K) (tVar 5) (tC (.int 0))) (tCons (tVar 8) (tCons (tVar 9) (tCons (tC (.int 9)) (tCons (tVar 9) (tCons (tC (.int 0)) (tCons (tC (.int 0)) tNil)))))))))) (tNot (tB (tCall (sp__law_post K a) [] E0 (tCons (tOp (rIxL K) (tVar 5) (tC (.int 0))) (tCons (tVar 8) (tCons (tOp (rIxL K) (tVar 3) (tC (.int 1))) (tCons (tC (.int 9)) (tCons (tVar 9) (tCons (tC (.int 1)) (tCons (tC (.int 0)) tNil))))))))))) (tRet (tC (.bl false))) tNext)
      (tRet (tAndV (tCall (sp__law_tells K a) [] E0 (tCons (tOp (rIxL K) (tVar 5) (tC (.int 0))) (tCons (tVar 8) tNil))) (tCall (sp__law_tells K a) [] E0 (tCons (tOp (rIxL K) (tVar 5) (tC (.int 1))) (tCons (tOp (rIxL K) (tVar 6) (tC (.int 1))) tNil))))))))))))))))))))))))))))))
def th__law_same (K : PySem.W.Frag) (a : Ad) : TS :=
  (tSeq (tIfS (tB (tCB (rIsi K) (tCons (tVar 1) (tCons (tC (.ty "tuple")) tNil)))) (tSeq (tIfS (tOr (tNot (tB (tCB (rIsi K) (tCons (tVar 0) (tCons (tC (.ty "tuple")) tNil))))) (tTest (tOp rNe (tCB (rLenS K) (tCons (tVar 0) tNil)) (tCB (rLenS K) (tCons (tVar 1) tNil))))) (tRet (tC (.bl false))) tNext)
      (tSeq (tFor (iRng1 (tCons (tCB (rLenS K) (tCons (tVar 1) tNil)) tNil)) (gName 2) (tIfS (tNot (tB (tCallS (fun _ _ _ _ => False) (fun _ => E0) (tCons (tOp (rIxT K) (tVar 0) (tVar 2)) (tCons (tOp (rIxT K) (tVar 1) (tVar 2)) tNil))))) (tRet (tC (.bl false))) tNext))
      (tRet (tC (.bl true))))) tNext)
      (tSeq (tIfS (tB (tCB (rIsi K) (tCons (tVar 1) (tCons (tC (.ty "bool")) tNil)))) (tRet (tAndV (tCB (rIsi K) (tCons (tVar 0) (tCons (tC (.ty "bool")) tNil))) (tOp rEq (tVar 0) (tVar 1)))) tNext)
      (tSeq (tIfS (tB (tCB (rIsi K) (tCons (tVar 1) (tCons (tC (.ty "int")) tNil)))) (tRet (tAndV (tCB (rIsi K) (tCons (tVar 0) (tCons (tC (.ty "int")) tNil))) (tAndV (tNotV (tCB (rIsi K) (tCons (tVar 0) (tCons (tC (.ty "bool")) tNil)))) (tOp rEq (tVar 0) (tVar 1))))) tNext)
      (tSeq (tIfS (tB (tCB (rIsi K) (tCons (tVar 1) (tCons (tC (.ty "str")) tNil)))) (tRet (tAndV (tCB (rIsi K) (tCons (tVar 0) (tCons (tC (.ty "str")) tNil))) (tOp rEq (tVar 0) (tVar 1)))) tNext)
      (tRet (tAndV (tOp rIsNon (tVar 1) (tC .non)) (tOp rIsNon (tVar 0) (tC .non))))))))
end K74
namespace K74
open PySem L2 Lh
/-- .. and of the module's names -/
structure Txt (K : PySem.W.Frag) (mg : Str → Option Value) (a : Ad) : Prop extends Cl K a where
  mgC_TooMany : mg "TooMany" = some (.ref a.C_TooMany)
  ii_TooMany : PySem.W.findIn K (.ref a.C_TooMany) "__init__" = some (some (.ref a.f_TooMany___init__))
  ti_TooMany : PySem.W.typeIn K (.ref a.f_TooMany___init__) = some (.type "function")
  mgC_BadTape : mg "BadTape" = some (.ref a.C_BadTape)
  ii_BadTape : PySem.W.findIn K (.ref a.C_BadTape) "__init__" = some (some (.ref a.f_BadTape___init__))
  ti_BadTape : PySem.W.typeIn K (.ref a.f_BadTape___init__) = some (.type "function")
  mgC_Switch : mg "Switch" = some (.ref a.C_Switch)
  mk_Switch : Mk K a.C_Switch a.f_Switch___init__
  mt_Switch_join : Meth K a.C_Switch "join" a.f_Switch_join
  mt_Switch_leave : Meth K a.C_Switch "leave" a.f_Switch_leave
  mt_Switch_guests : Meth K a.C_Switch "guests" a.f_Switch_guests
  mt_Switch_feed : Meth K a.C_Switch "feed" a.f_Switch_feed
  mt_Switch_post : Meth K a.C_Switch "post" a.f_Switch_post
  mt_Switch_tape : Meth K a.C_Switch "tape" a.f_Switch_tape
  mt_Switch_mail : Meth K a.C_Switch "mail" a.f_Switch_mail
  mt_Switch_posted : Meth K a.C_Switch "posted" a.f_Switch_posted
  mt_Switch_frozen : Meth K a.C_Switch "frozen" a.f_Switch_frozen
  mt_Switch__check : Meth K a.C_Switch "_check" a.f_Switch__check
  fn_TooMany___init__ : ∃ fd, Fun K "__init__" "TooMany.__init__" s_TooMany___init__ a.f_TooMany___init__ fd
  fn_BadTape___init__ : ∃ fd, Fun K "__init__" "BadTape.__init__" s_BadTape___init__ a.f_BadTape___init__ fd
  mgF_check_range : mg "check_range" = some (.ref a.f_check_range)
  kp_check_range : PySem.W.keepIn K (.ref a.f_check_range) = true
  fn_check_range : ∃ fd, Fun K "check_range" "check_range" s_check_range a.f_check_range fd
  mgF_check_most : mg "check_most" = some (.ref a.f_check_most)
  kp_check_most : PySem.W.keepIn K (.ref a.f_check_most) = true
  fn_check_most : ∃ fd, Fun K "check_most" "check_most" s_check_most a.f_check_most fd
  mgF_arrive : mg "arrive" = some (.ref a.f_arrive)
  kp_arrive : PySem.W.keepIn K (.ref a.f_arrive) = true
  fn_arrive : ∃ fd, Fun K "arrive" "arrive" s_arrive a.f_arrive fd
  fn_Switch___init__ : ∃ fd, Fun K "__init__" "Switch.__init__" s_Switch___init__ a.f_Switch___init__ fd
  fn_Switch_join : ∃ fd, Fun K "join" "Switch.join" s_Switch_join a.f_Switch_join fd
  fn_Switch_leave : ∃ fd, Fun K "leave" "Switch.leave" s_Switch_leave a.f_Switch_leave fd
  fn_Switch_guests : ∃ fd, Fun K "guests" "Switch.guests" s_Switch_guests a.f_Switch_guests fd
  fn_Switch_feed : ∃ fd, Fun K "feed" "Switch.feed" s_Switch_feed a.f_Switch_feed fd
  fn_Switch_post : ∃ fd, Fun K "post" "Switch.post" s_Switch_post a.f_Switch_post fd
  fn_Switch_tape : ∃ fd, Fun K "tape" "Switch.tape" s_Switch_tape a.f_Switch_tape fd
  fn_Switch_mail : ∃ fd, Fun K "mail" "Switch.mail" s_Switch_mail a.f_Switch_mail fd
  fn_Switch_posted : ∃ fd, Fun K "posted" "Switch.posted" s_Switch_posted a.f_Switch_posted fd
  fn_Switch_frozen : ∃ fd, Fun K "frozen" "Switch.frozen" s_Switch_frozen a.f_Switch_frozen fd
  fn_Switch__check : ∃ fd, Fun K "_check" "Switch._check" s_Switch__check a.f_Switch__check fd
  mgF_thawed_switch : mg "thawed_switch" = some (.ref a.f_thawed_switch)
  kp_thawed_switch : PySem.W.keepIn K (.ref a.f_thawed_switch) = true
  fn_thawed_switch : ∃ fd, Fun K "thawed_switch" "thawed_switch" s_thawed_switch a.f_thawed_switch fd
  mgF__law_cell : mg "_law_cell" = some (.ref a.f__law_cell)
  kp__law_cell : PySem.W.keepIn K (.ref a.f__law_cell) = true
  fn__law_cell : ∃ fd, Fun K "_law_cell" "_law_cell" s__law_cell a.f__law_cell fd
  mgF__law_row : mg "_law_row" = some (.ref a.f__law_row)
  kp__law_row : PySem.W.keepIn K (.ref a.f__law_row) = true
  fn__law_row : ∃ fd, Fun K "_law_row" "_law_row" s__law_row a.f__law_row fd
  mgF__law_same : mg "_law_same" = some (.ref a.f__law_same)
  kp__law_same : PySem.W.keepIn K (.ref a.f__law_same) = true
  fn__law_same : ∃ fd, Fun K "_law_same" "_law_same" s__law_same a.f__law_same fd
  mgF__law_shuffled : mg "_law_shuffled" = some (.ref a.f__law_shuffled)
  kp__law_shuffled : PySem.W.keepIn K (.ref a.f__law_shuffled) = true
  fn__law_shuffled : ∃ fd, Fun K "_law_shuffled" "_law_shuffled" s__law_shuffled a.f__law_shuffled fd
  mgF__law_pairs : mg "_law_pairs" = some (.ref a.f__law_pairs)
  kp__law_pairs : PySem.W.keepIn K (.ref a.f__law_pairs) = true
  fn__law_pairs : ∃ fd, Fun K "_law_pairs" "_law_pairs" s__law_pairs a.f__law_pairs fd
  mgF__law_began : mg "_law_began" = some (.ref a.f__law_began)
  kp__law_began : PySem.W.keepIn K (.ref a.f__law_began) = true
  fn__law_began : ∃ fd, Fun K "_law_began" "_law_began" s__law_began a.f__law_began fd
  mgF__law_tells : mg "_law_tells" = some (.ref a.f__law_tells)
  kp__law_tells : PySem.W.keepIn K (.ref a.f__law_tells) = true
  fn__law_tells : ∃ fd, Fun K "_law_tells" "_law_tells" s__law_tells a.f__law_tells fd
  mgF__law_post : mg "_law_post" = some (.ref a.f__law_post)
  kp__law_post : PySem.W.keepIn K (.ref a.f__law_post) = true
  fn__law_post : ∃ fd, Fun K "_law_post" "_law_post" s__law_post a.f__law_post fd
  mgF__law_too_early : mg "_law_too_early" = some (.ref a.f__law_too_early)
  kp__law_too_early : PySem.W.keepIn K (.ref a.f__law_too_early) = true
  fn__law_too_early : ∃ fd, Fun K "_law_too_early" "_law_too_early" s__law_too_early a.f__law_too_early fd
  mgF__law_fed : mg "_law_fed" = some (.ref a.f__law_fed)
  kp__law_fed : PySem.W.keepIn K (.ref a.f__law_fed) = true
  fn__law_fed : ∃ fd, Fun K "_law_fed" "_law_fed" s__law_fed a.f__law_fed fd
  mgF_law : mg "law" = some (.ref a.f_law)
  kp_law : PySem.W.keepIn K (.ref a.f_law) = true
  fn_law : ∃ fd, Fun K "law" "law" s_law a.f_law fd
  mg_abs : mg "abs" = none
  mg_bool : mg "bool" = none
  mg_int : mg "int" = none
  mg_isinstance : mg "isinstance" = none
  mg_len : mg "len" = none
  mg_list : mg "list" = none
  mg_range : mg "range" = none
  mg_sorted : mg "sorted" = none
  mg_str : mg "str" = none
  mg_tuple : mg "tuple" = none
  gl_WORD : ∃ u, mg "WORD" = some u ∧ RelV (.int 65521) u
  gl_MOST_GUESTS : ∃ u, mg "MOST_GUESTS" = some u ∧ RelV (.int 6) u
  gl_MOST_PAIRS : ∃ u, mg "MOST_PAIRS" = some u ∧ RelV (.int 400) u
  gl_MOST_MAIL : ∃ u, mg "MOST_MAIL" = some u ∧ RelV (.int 400) u
  gl_MOST_PEER : ∃ u, mg "MOST_PEER" = some u ∧ RelV (.int 7) u
end K74

namespace K74
open PySem L2 Lh
local macro_rules | `(tactic| walk_at "ne") => `(tactic| first | assumption | exact Ne.symm (by assumption) | ((with_reducible refine' lne ?h1 ?h2 ?h3); (case h1 => assumption); (case h2 => assumption); (case h3 => simp)) | ((with_reducible refine' nn ?h1 ?h2); (case h1 => assumption); (case h2 => walk_at "hp")) | (apply Ne.symm; (with_reducible refine' nn ?h1 ?h2); (case h1 => assumption); (case h2 => walk_at "hp")))
local macro_rules | `(tactic| walk_at "hp") => `(tactic| first | assumption | exact upd_same | (refine Eq.trans (upd_ne ?hne) ?hrest; (case hne => walk_at "ne"); (case hrest => walk_at "hp")))
local macro_rules | `(tactic| walk_at "sq") => `(tactic| first | assumption | (refine Or.inl (Or.inl ?hsq); (case hsq => walk_at "hp")))
local macro_rules | `(tactic| walk_at "r1") => `(tactic| first
  | with_reducible refine r_seq ?_ | with_reducible refine r_asg ?_ | with_reducible refine r_sfld ?_ | with_reducible refine r_ret ?_ | with_reducible refine r_retN ?_ | with_reducible refine r_drop ?_
  | with_reducible refine r_next ?_ | with_reducible refine r_ifs ?_ | with_reducible refine r_dput ?_ | with_reducible refine r_asgG ?_ | with_reducible refine r_gsub ?_
  | ((with_reducible refine' r_var ?hv ?_); (case hv => exact rfl)) | with_reducible refine r_c ?_ | with_reducible refine r_op ?_ | with_reducible refine r_un ?_ | with_reducible refine r_fld ?_
  | with_reducible refine r_cb ?_ | with_reducible refine r_tup ?_ | with_reducible refine r_lst ?_ | with_reducible refine r_nil ?_ | with_reducible refine r_cons ?_ | with_reducible refine r_dget ?_
  | with_reducible refine r_din ?_ | with_reducible refine r_dnin ?_ | with_reducible refine r_call ?_ | with_reducible refine r_meth ?_ | with_reducible refine r_methE ?_ | with_reducible refine r_bm ?_ | with_reducible refine r_bm0 ?_
  | with_reducible refine r_test ?_ | with_reducible refine r_tb ?_ | with_reducible refine r_not ?_ | with_reducible refine r_and ?_ | with_reducible refine r_or ?_ | with_reducible refine r_andV ?_ | with_reducible refine r_orV ?_
  | with_reducible refine r_notV ?_ | with_reducible refine r_tif ?_
  | with_reducible refine k_bl ?_ | with_reducible refine k_i0 ?_ | with_reducible refine k_u ?_ | with_reducible refine k_isN ?_ | with_reducible refine k_notN ?_ | with_reducible refine k_int ?_ | with_reducible refine k_abs ?_ | with_reducible refine k_max ?_ | with_reducible refine k_min ?_
  | with_reducible refine k_eq rfl ?_ | with_reducible refine k_ne rfl ?_
  | ((with_reducible refine' k_fld ?hc ?hn ?ho ?hl ?_); (case hc => assumption); (case hn => assumption); (case ho => walk_at "hp"); (case hl => walk_at "lk"))
  | ((with_reducible refine' k_len ?ho ?_); (case ho => walk_at "sq"))
  | ((with_reducible refine' k_bml ?ho ?_); (case ho => walk_at "hp"))
  | ((with_reducible refine' k_sfld ?hc ?hn ?ho ?hl ?_); (case hc => assumption); (case hn => assumption); (case ho => walk_at "hp"); (case hl => walk_at "ll"))
  | ((with_reducible refine' k_meth ?ho ?hl ?_); (case ho => walk_at "hp"); (case hl => walk_at "nm"))
  | ((with_reducible refine' k_methE ?ho ?hl ?_); (case ho => walk_at "hp"); (case hl => walk_at "nm"))
  | with_reducible refine r_rng1 ?_ | with_reducible refine r_rng2 ?_ | with_reducible refine r_forL ?_ | with_reducible refine r_forT ?_ | with_reducible refine r_enum ?_ | with_reducible refine r_lcL ?_ | with_reducible refine r_lcR1 ?_ | with_reducible refine r_raise ?_ | with_reducible refine r_make ?_
  | ((with_reducible refine' k_dgetS ?ho ?hg ?_); (case ho => walk_at "hp"); (case hg => walk_at "dg"))
  | with_reducible refine r_pcons ?_ | with_reducible refine r_pnil ?_ | with_reducible refine r_xf ?_ | with_reducible refine r_try ?_)
local macro_rules | `(tactic| walk_at "rd") => `(tactic| repeat (first | walk_at "r1" | (dsimp only; walk_at "r1")))
local macro_rules | `(tactic| walk_at "fr") => `(tactic| first | assumption | (apply un; assumption) | (apply un; apply un; assumption) | (apply un; apply un; apply un; assumption) | (apply un; apply un; apply un; apply un; assumption) | (apply un; apply un; apply un; apply un; apply un; assumption) | (apply un; apply un; apply un; apply un; apply un; apply un; assumption))
local macro_rules | `(tactic| walk_at "lk") => `(tactic| first | exact lk_Switch_0 | exact lk_Switch_1 | exact lk_Switch_2)
local macro_rules | `(tactic| walk_at "ll") => `(tactic| first | (rw [ln_Switch]; decide) | with_reducible exact lt0 | with_reducible exact lt1 | with_reducible exact lt2 | with_reducible exact lt3 | with_reducible exact lt4)
local macro_rules | `(tactic| walk_at "nm") => `(tactic| first | exact nm_Switch_join | exact nm_Switch_leave | exact nm_Switch_guests | exact nm_Switch_feed | exact nm_Switch_post | exact nm_Switch_tape | exact nm_Switch_mail | exact nm_Switch_posted | exact nm_Switch_frozen | exact nm_Switch__check)
local macro_rules | `(tactic| walk_at "cl") => `(tactic| (have c1 := Cl.cl_Switch (by assumption); have n1 := Cl.na_Switch__tapes (by assumption); have n2 := Cl.na_Switch__mails (by assumption); have n3 := Cl.na_Switch__posts (by assumption)))
theorem pure__law_cell {K : PySem.W.Frag} {a : Ad} (C : Cl K a) {x0 x1 : V} {H : Hp} {Q : VK} {E : XK}
    (h : pr__law_cell K a x0 x1 H Q E) : t__law_cell K a { nx := fun _ H' => Q .non H', rt := Q } [some x0, some x1] H := by
  obtain ⟨s, ns, k, rfl, rfl, hs, q⟩ := h
  unfold t__law_cell
  walk_at "rd"
  refine kif_d (fun hk => ?_) fun hk => ?_
  · rw [List.length_map] at hk
    have hk' : k < ns.length := by omega
    walk_at "rd"
    refine k_ixL hs (atI_nat (v := V.int ns[k]) (by rw [List.getElem?_map, List.getElem?_eq_getElem hk']; rfl)) ?_
    exact q _
  · walk_at "rd"
    exact q 0
theorem pure__law_row {K : PySem.W.Frag} {a : Ad} (C : Cl K a) {x0 x1 x2 : V} {H : Hp} {Q : VK} {E : XK}
    (h : pr__law_row K a x0 x1 x2 H Q E) : t__law_row K a { nx := fun _ H' => Q .non H', rt := Q } [some x0, some x1, some x2, none, none, none, none] H := by
  obtain ⟨c, n, m, rfl, rfl, rfl, hn, hm0, hm, q⟩ := h
  unfold t__law_row
  walk_at "rd"
  refine k_lst (by simp) fun l hl => ?_
  walk_at "rd"
  have hr0 : 0 ≤ (if c < 0 then -c else c) := by split <;> omega
  generalize (if c < 0 then -c else c) = r0 at hr0 ⊢
  refine k_i (by unfold CPow; decide) ?_
  walk_at "rd"
  have snoc : ∀ (ns : List Int) (u : Int), intsL ns ++ [V.int u] = intsL (ns ++ [u]) := fun ns u => by unfold intsL; rw [List.map_append]; rfl
  refine kif_d (fun hbig => ?_) fun hsm => ?_
  · walk_at "rd"
    refine k_rng1 (by omega) (fun i σ' H' => Same H H' ∧ ∃ ns r u, σ' = [some (.int c), some (.int (n : Nat)), some (.int m), some (.ref l), some (.int r), u, none] ∧ H' l = some (.lst (intsL ns)) ∧ ns.length = i ∧ ∀ u ∈ ns, 0 ≤ u ∧ u < m)
      ⟨same_new hl, [], r0, _, rfl, upd_same, rfl, by simp⟩ ?_ ?_
    · rintro i σ' H' hi ⟨s, ns, r, u, rfl, hls, hlen, hb⟩
      walk_at "rd"
      refine k_i hm0 ?_
      walk_at "rd"
      refine k_append hls (by unfold intsL; rw [List.length_map]; omega) ?_
      walk_at "rd"
      refine k_i ⟨hm0, hm⟩ ?_
      rw [snoc]
      refine ⟨fun b o e => ?_, _, _, _, rfl, upd_same, by simp [hlen], fun v hv => ?_⟩
      · rw [upd_ne (ne_of_none e hl)]; exact s b o e
      · rcases List.mem_append.mp hv with z | z
        · exact hb v z
        · have : v = r % m := by simpa using z
          subst this
          exact ⟨Int.emod_nonneg _ (by omega), Int.emod_lt_of_pos _ hm0⟩
    · rintro σ' H' ⟨s, ns, r, u, rfl, hls, hlen, hb⟩
      walk_at "rd"
      exact q ns l H' hlen hb hl s hls
  · walk_at "rd"
    have hr : r0 < 10 ^ 18 := by
      have e : (10 : Int) ^ (18 : Int).toNat = 10 ^ 18 := by rfl
      rw [e] at hsm; omega
    refine k_rng1 (by omega) (fun i σ' H' => Same H H' ∧ ∃ ns u v, σ' = [some (.int c), some (.int (n : Nat)), some (.int m), some (.ref l), some (.int r0), u, v] ∧ H' l = some (.lst (intsL ns)) ∧ ns.length = i ∧ ∀ u ∈ ns, 0 ≤ u ∧ u < m)
      ⟨same_new hl, [], _, _, rfl, upd_same, rfl, by simp⟩ ?_ ?_
    · rintro i σ' H' hi ⟨s, ns, u, v, rfl, hls, hlen, hb⟩
      walk_at "rd"
      refine k_i (.inl (by omega)) ?_
      walk_at "rd"
      refine k_i (.inl (by omega)) ?_
      walk_at "rd"
      refine k_i (by decide) ?_
      walk_at "rd"
      generalize hx1 : (r0 * 48271 + (i : Int) * 69621 + 12345) % 2147483647 = x1
      have hx1' : 0 ≤ x1 ∧ x1 < 2147483647 := by omega
      refine k_i (.inl (by omega)) ?_
      walk_at "rd"
      refine k_i (.inl (by omega)) ?_
      walk_at "rd"
      refine k_i (by decide) ?_
      walk_at "rd"
      refine k_i (by unfold CDiv; decide) ?_
      walk_at "rd"
      refine k_i hm0 ?_
      walk_at "rd"
      refine k_append hls (by unfold intsL; rw [List.length_map]; omega) ?_
      rw [snoc]
      refine ⟨fun b o e => ?_, _, _, _, rfl, upd_same, by simp [hlen], fun v hv => ?_⟩
      · rw [upd_ne (ne_of_none e hl)]; exact s b o e
      · rcases List.mem_append.mp hv with z | z
        · exact hb v z
        · rw [List.mem_singleton] at z
          subst z
          exact ⟨Int.emod_nonneg _ (by omega), Int.emod_lt_of_pos _ hm0⟩
    · rintro σ' H' ⟨s, ns, u, v, rfl, hls, hlen, hb⟩
      walk_at "rd"
      exact q ns l H' hlen hb hl s hls
theorem kit_yes {A : String} {K : PySem.W.Frag} : PySem.W.kitOne K (.type A) (.type A) = some true := by
  unfold PySem.W.kitOne
  rw [if_pos (by simp)]
theorem pure__law_same {K : PySem.W.Frag} {a : Ad} (C : Cl K a) {x0 x1 : V} {H : Hp} {Q : VK} {E : XK} {d : Nat}
    (h : pr__law_same K a (d + 1) x0 x1 H Q E) : t__law_same K a (sp__law_same K a d) { nx := fun _ H' => Q .non H', rt := Q } [some x0, some x1, none] H := by
  obtain ⟨D, hd, h0, h1, q⟩ := h
  unfold t__law_same
  walk_at "rd"
  cases D with
  | none =>
    cases h0; cases h1
    refine k_isi (b := false) (.base .non) (kit_ty (by decide +kernel)) ?_
    walk_at "rd"
    refine kif_f ?_
    walk_at "rd"
    refine k_isi (b := false) (.base .non) (kit_ty (by decide +kernel)) ?_
    walk_at "rd"
    refine kif_f ?_
    walk_at "rd"
    refine k_isi (b := false) (.base .non) (kit_ty (by decide +kernel)) ?_
    walk_at "rd"
    refine kif_f ?_
    walk_at "rd"
    refine k_isi (b := false) (.base .non) (kit_ty (by decide +kernel)) ?_
    walk_at "rd"
    refine kif_f ?_
    walk_at "rd"
    refine kif_of rfl ?_
    walk_at "rd"
    exact q
  | bool b =>
    cases h0; cases h1
    refine k_isi (b := false) (.base (.bl b)) (kit_ty (by decide +kernel)) ?_
    walk_at "rd"
    refine kif_f ?_
    walk_at "rd"
    refine k_isi (.base (.bl b)) kit_yes ?_
    walk_at "rd"
    refine kif_t ?_
    walk_at "rd"
    refine k_isi (.base (.bl b)) kit_yes ?_
    walk_at "rd"
    refine kif_t ?_
    walk_at "rd"
    rw [decide_eq_true rfl]
    exact q
  | int i =>
    cases h0; cases h1
    refine k_isi (b := false) (.base (.int i)) (kit_ty (by decide +kernel)) ?_
    walk_at "rd"
    refine kif_f ?_
    walk_at "rd"
    refine k_isi (b := false) (.base (.int i)) (kit_ty (by decide +kernel)) ?_
    walk_at "rd"
    refine kif_f ?_
    walk_at "rd"
    refine k_isi (.base (.int i)) kit_yes ?_
    walk_at "rd"
    refine kif_t ?_
    walk_at "rd"
    refine k_isi (.base (.int i)) kit_yes ?_
    walk_at "rd"
    refine kif_t ?_
    walk_at "rd"
    refine k_isi (b := false) (.base (.int i)) (kit_ty (by decide +kernel)) ?_
    walk_at "rd"
    refine kif_of rfl ?_
    walk_at "rd"
    rw [decide_eq_true rfl]
    exact q
  | str x =>
    cases h0; cases h1
    refine k_isi (b := false) (.base (.str x)) (kit_ty (by decide +kernel)) ?_
    walk_at "rd"
    refine kif_f ?_
    walk_at "rd"
    refine k_isi (b := false) (.base (.str x)) (kit_ty (by decide +kernel)) ?_
    walk_at "rd"
    refine kif_f ?_
    walk_at "rd"
    refine k_isi (b := false) (.base (.str x)) (kit_ty (by decide +kernel)) ?_
    walk_at "rd"
    refine kif_f ?_
    walk_at "rd"
    refine k_isi (.base (.str x)) kit_yes ?_
    walk_at "rd"
    refine kif_t ?_
    walk_at "rd"
    refine k_isi (.base (.str x)) kit_yes ?_
    walk_at "rd"
    refine kif_t ?_
    walk_at "rd"
    rw [decide_eq_true rfl]
    exact q
  | list ds => exact hd.elim
  | dict ds => exact hd.elim
  | tuple ds =>
    obtain ⟨hz, hd⟩ := hd
    cases h0 with | @tup a0 xs _ s0 d0 => ?_
    cases h1 with | @tup a1 ys _ s1 d1 => ?_
    have l0 := dpall_len d0
    have l1 := dpall_len d1
    refine k_isi (tyx_tup s1) kit_yes ?_
    walk_at "rd"
    refine kif_t ?_
    walk_at "rd"
    refine k_isi (tyx_tup s0) kit_yes ?_
    walk_at "rd"
    refine kif_f ?_
    walk_at "rd"
    refine k_lenT s0 ?_
    walk_at "rd"
    refine k_lenT s1 ?_
    walk_at "rd"
    refine kif_no (by rw [l0, l1]; simp) ?_
    walk_at "rd"
    refine k_lenT s1 ?_
    walk_at "rd"
    refine k_rng1 (by omega) (fun i σ' H' => H' = H ∧ ∃ u, σ' = [some (.ref a0), some (.ref a1), u]) ⟨rfl, _, rfl⟩ ?_ ?_
    · rintro i σ' H' hi ⟨rfl, u, rfl⟩
      obtain ⟨v0, e0, p1, p2, p3⟩ := dpall_at (i := i) d0 (by omega)
      obtain ⟨v1, e1, p4, p5, p6⟩ := dpall_at (i := i) d1 (by omega)
      rw [p2] at p5; cases p5
      walk_at "rd"
      refine k_ixT s0 (atI_nat p1) ?_
      walk_at "rd"
      refine k_ixT s1 (atI_nat p4) ?_
      walk_at "rd"
      refine sp2_i ⟨e0, hd e0 (List.mem_of_getElem? p2), p3, p6, ?_⟩
      walk_at "rd"
      refine kif_f ?_
      walk_at "rd"
      exact ⟨rfl, _, rfl⟩
    · rintro σ' H' ⟨rfl, u, rfl⟩
      walk_at "rd"
      exact q
theorem perm_pop {R O : List Nat} {n k j : Nat} (h : (O ++ R).Perm (List.range n)) (hj : R[k]? = some j) : (O ++ [j] ++ R.eraseIdx k).Perm (List.range n) := by
  refine List.Perm.trans ?_ h
  rw [List.append_assoc]
  refine List.Perm.append_left O ?_
  have hk : k < R.length := (List.getElem?_eq_some_iff.mp hj).1
  have e : R = R.take k ++ j :: R.drop (k + 1) := by
    have z : R[k] = j := (List.getElem?_eq_some_iff.mp hj).2
    rw [← z, ← List.drop_eq_getElem_cons hk, List.take_append_drop]
  have e2 : R.eraseIdx k = R.take k ++ R.drop (k + 1) := List.eraseIdx_eq_take_drop_succ ..
  rw [e2]
  conv => rhs; rw [e]
  show (j :: (R.take k ++ R.drop (k + 1))).Perm _
  exact List.perm_middle.symm
theorem pure__law_shuffled {K : PySem.W.Frag} {a : Ad} (C : Cl K a) {x0 x1 : V} {H : Hp} {Q : VK} {E : XK}
    (h : pr__law_shuffled K a x0 x1 H Q E) : t__law_shuffled K a { nx := fun _ H' => Q .non H', rt := Q } [some x0, some x1, none, none, none, none] H := by
  obtain ⟨c, n, rfl, rfl, hn, q⟩ := h
  unfold t__law_shuffled
  walk_at "rd"
  refine k_lcR1 (ys := intL (List.range n)) (by unfold intL; simp) hn (fun _ => rfl) (fun i y H' hi hy s Q2 q2 => ?_) fun r H1 hr s1 hr1 => ?_
  · have ey : y = .int (i : Nat) := by
      unfold intL at hy
      rw [List.getElem?_map, List.getElem?_range hi] at hy
      exact (Option.some.inj hy).symm
    subst ey
    walk_at "rd"
    exact q2 _ (Same.refl _)
  walk_at "rd"
  refine sp3_i ⟨c, n, 1048576, rfl, rfl, rfl, hn, by decide, by decide, fun ns p H2 hlen hb hp s2 hns => ?_⟩
  walk_at "rd"
  refine k_lst (by simp) fun l hl => ?_
  walk_at "rd"
  have sH2 : Same H H2 := s1.trans s2
  have hr2 : H2 r = some (.lst (intL (List.range n))) := s2 _ _ hr1
  have rl : r ≠ l := ne_of_none hr2 hl
  have pl : p ≠ l := ne_of_none hns hl
  have rp : r ≠ p := ne_of_none hr1 hp
  refine k_rng1 (by omega) (fun i σ' H' => Same H H' ∧ ∃ R O u, σ' = [some (.int c), some (.int (n : Nat)), some (.ref r), some (.ref p), some (.ref l), u] ∧ H' r = some (.lst (intL R)) ∧ H' l = some (.lst (intL O)) ∧ H' p = some (.lst (intsL ns)) ∧ R.length = n - i ∧ O.length = i ∧ (O ++ R).Perm (List.range n))
    ⟨sH2.trans (same_new hl), List.range n, [], _, rfl, same_new hl _ _ hr2, upd_same, same_new hl _ _ hns, by simp, rfl, by simp⟩ ?_ ?_
  · rintro i σ' H' hi ⟨s, R, O, u, rfl, hR, hO, hP, lR, lO, pm⟩
    walk_at "rd"
    refine k_ixL (by walk_at "sq") (atI_nat (v := V.int ns[i]) (by unfold intsL; rw [List.getElem?_map, List.getElem?_eq_getElem (by omega)]; rfl)) ?_
    walk_at "rd"
    have hRl : (intL R).length = n - i := by unfold intL; rw [List.length_map]; exact lR
    refine k_i (by rw [hRl]; omega) ?_
    rw [hRl]
    obtain ⟨k, hk⟩ : ∃ k : Nat, ns[i] % ((n - i : Nat) : Int) = (k : Nat) := ⟨(ns[i] % ((n - i : Nat) : Int)).toNat, (Int.toNat_of_nonneg (Int.emod_nonneg _ (by omega))).symm⟩
    have hkl : k < R.length := by
      have := Int.emod_lt_of_pos ns[i] (b := ((n - i : Nat) : Int)) (by omega)
      omega
    rw [hk]
    walk_at "rd"
    refine k_popAt (y := .int ((R[k] : Nat) : Int)) hR (by unfold intL; rw [List.getElem?_map, List.getElem?_eq_getElem hkl]; rfl) (by omega) ?_
    walk_at "rd"
    have eR : (intL R).eraseIdx k = intL (R.eraseIdx k) := by unfold intL; rw [List.eraseIdx_eq_take_drop_succ, List.eraseIdx_eq_take_drop_succ, List.map_append, List.map_take, List.map_drop]
    have eO : intL O ++ [V.int ((R[k] : Nat) : Int)] = intL (O ++ [R[k]]) := by unfold intL; rw [List.map_append]; rfl
    rw [eR]
    refine k_append (xs := intL O) (by rw [upd_ne rl.symm]; exact hO) (by unfold intL; rw [List.length_map]; omega) ?_
    rw [eO]
    refine ⟨fun b o e => ?_, R.eraseIdx k, O ++ [R[k]], _, rfl, ?_, upd_same, ?_, ?_, ?_, perm_pop pm (List.getElem?_eq_getElem hkl)⟩
    · rw [upd_ne (ne_of_none (sH2 _ _ e) hl), upd_ne (ne_of_none e hr)]; exact s b o e
    · rw [upd_ne rl]; exact upd_same
    · rw [upd_ne pl, upd_ne rp.symm]; exact hP
    · rw [List.length_eraseIdx, if_pos hkl]; omega
    · simp [lO]
  · rintro σ' H' ⟨s, R, O, u, rfl, hR, hO, hP, lR, lO, pm⟩
    walk_at "rd"
    have : R = [] := List.eq_nil_of_length_eq_zero (by omega)
    subst this
    rw [List.append_nil] at pm
    refine q O l H' pm (sH2.free hl) s hO
end K74

namespace K74
open PySem L2 Lh
local macro_rules | `(tactic| walk_at "ne") => `(tactic| first | assumption | exact Ne.symm (by assumption) | ((with_reducible refine' lne ?h1 ?h2 ?h3); (case h1 => assumption); (case h2 => assumption); (case h3 => simp)) | ((with_reducible refine' nn ?h1 ?h2); (case h1 => assumption); (case h2 => walk_at "hp")) | (apply Ne.symm; (with_reducible refine' nn ?h1 ?h2); (case h1 => assumption); (case h2 => walk_at "hp")))
local macro_rules | `(tactic| walk_at "hp") => `(tactic| first | assumption | exact upd_same | (refine Eq.trans (upd_ne ?hne) ?hrest; (case hne => walk_at "ne"); (case hrest => walk_at "hp")))
local macro_rules | `(tactic| walk_at "sq") => `(tactic| first | assumption | (refine Or.inl (Or.inl ?hsq); (case hsq => walk_at "hp")))
local macro_rules | `(tactic| walk_at "tq") => `(tactic| first | assumption | (refine Or.inl (Or.inl ?hsq); (case hsq => walk_at "hp")))
local macro_rules | `(tactic| walk_at "r1") => `(tactic| first
  | with_reducible refine r_seq ?_ | with_reducible refine r_asg ?_ | with_reducible refine r_sfld ?_ | with_reducible refine r_ret ?_ | with_reducible refine r_retN ?_ | with_reducible refine r_drop ?_
  | with_reducible refine r_next ?_ | with_reducible refine r_ifs ?_ | with_reducible refine r_dput ?_ | with_reducible refine r_asgG ?_ | with_reducible refine r_gsub ?_
  | ((with_reducible refine' r_var ?hv ?_); (case hv => exact rfl)) | with_reducible refine r_c ?_ | with_reducible refine r_op ?_ | with_reducible refine r_un ?_ | with_reducible refine r_fld ?_
  | with_reducible refine r_cb ?_ | with_reducible refine r_tup ?_ | with_reducible refine r_lst ?_ | with_reducible refine r_nil ?_ | with_reducible refine r_cons ?_ | with_reducible refine r_dget ?_
  | with_reducible refine r_din ?_ | with_reducible refine r_dnin ?_ | with_reducible refine r_call ?_ | with_reducible refine r_meth ?_ | with_reducible refine r_methE ?_ | with_reducible refine r_bm ?_ | with_reducible refine r_bm0 ?_
  | with_reducible refine r_test ?_ | with_reducible refine r_tb ?_ | with_reducible refine r_not ?_ | with_reducible refine r_and ?_ | with_reducible refine r_or ?_ | with_reducible refine r_andV ?_ | with_reducible refine r_orV ?_
  | with_reducible refine r_notV ?_ | with_reducible refine r_tif ?_
  | with_reducible refine k_bl ?_ | with_reducible refine k_i0 ?_ | with_reducible refine k_u ?_ | with_reducible refine k_isN ?_ | with_reducible refine k_notN ?_ | with_reducible refine k_int ?_ | with_reducible refine k_abs ?_ | with_reducible refine k_max ?_ | with_reducible refine k_min ?_
  | with_reducible refine k_eq rfl ?_ | with_reducible refine k_ne rfl ?_
  | ((with_reducible refine' k_fld ?hc ?hn ?ho ?hl ?_); (case hc => assumption); (case hn => assumption); (case ho => walk_at "hp"); (case hl => walk_at "lk"))
  | ((with_reducible refine' k_len ?ho ?_); (case ho => walk_at "sq"))
  | ((with_reducible refine' k_lenT ?ho ?_); (case ho => walk_at "tq"))
  | ((with_reducible refine' k_bml ?ho ?_); (case ho => walk_at "hp"))
  | ((with_reducible refine' k_sfld ?hc ?hn ?ho ?hl ?_); (case hc => assumption); (case hn => assumption); (case ho => walk_at "hp"); (case hl => walk_at "ll"))
  | ((with_reducible refine' k_meth ?ho ?hl ?_); (case ho => walk_at "hp"); (case hl => walk_at "nm"))
  | ((with_reducible refine' k_methE ?ho ?hl ?_); (case ho => walk_at "hp"); (case hl => walk_at "nm"))
  | with_reducible refine r_rng1 ?_ | with_reducible refine r_rng2 ?_ | with_reducible refine r_forL ?_ | with_reducible refine r_forT ?_ | with_reducible refine r_enum ?_ | with_reducible refine r_lcL ?_ | with_reducible refine r_lcR1 ?_ | with_reducible refine r_raise ?_ | with_reducible refine r_make ?_
  | ((with_reducible refine' k_dgetS ?ho ?hg ?_); (case ho => walk_at "hp"); (case hg => walk_at "dg"))
  | with_reducible refine r_pcons ?_ | with_reducible refine r_pnil ?_ | with_reducible refine r_xf ?_ | with_reducible refine r_try ?_ | with_reducible refine r_gn ?_ | with_reducible refine r_callS ?_ | with_reducible refine r_ddel ?_ | with_reducible refine r_dpop ?_ | with_reducible refine r_lcT ?_ | with_reducible refine r_tupRev ?_)
local macro_rules | `(tactic| walk_at "rd") => `(tactic| repeat (first | walk_at "r1" | (dsimp only; walk_at "r1")))
local macro_rules | `(tactic| walk_at "fr") => `(tactic| first | assumption | (apply un; assumption) | (apply un; apply un; assumption) | (apply un; apply un; apply un; assumption) | (apply un; apply un; apply un; apply un; assumption) | (apply un; apply un; apply un; apply un; apply un; assumption) | (apply un; apply un; apply un; apply un; apply un; apply un; assumption))
local macro_rules | `(tactic| walk_at "lk") => `(tactic| first | exact lk_Switch_0 | exact lk_Switch_1 | exact lk_Switch_2)
local macro_rules | `(tactic| walk_at "ll") => `(tactic| first | (rw [ln_Switch]; decide) | with_reducible exact lt0 | with_reducible exact lt1 | with_reducible exact lt2 | with_reducible exact lt3 | with_reducible exact lt4)
local macro_rules | `(tactic| walk_at "nm") => `(tactic| first | exact nm_Switch_join | exact nm_Switch_leave | exact nm_Switch_guests | exact nm_Switch_feed | exact nm_Switch_post | exact nm_Switch_tape | exact nm_Switch_mail | exact nm_Switch_posted | exact nm_Switch_frozen | exact nm_Switch__check)
local macro_rules | `(tactic| walk_at "cl") => `(tactic| (have c1 := Cl.cl_Switch (by assumption); have n1 := Cl.na_Switch__tapes (by assumption); have n2 := Cl.na_Switch__mails (by assumption); have n3 := Cl.na_Switch__posts (by assumption)))
theorem pure_TooMany___init__ {K : PySem.W.Frag} {a : Ad} (C : Cl K a) {x0 x1 : V} {H : Hp} {Q : VK} {E : XK}
    (h : pr_TooMany___init__ K a x0 x1 H Q E) : t_TooMany___init__ K a { nx := fun _ H' => Q .non H', rt := Q } [some x0, some x1] H := by
  exact pure_exc C.oex_TooMany C.nf_TooMany_limit h
theorem pure_BadTape___init__ {K : PySem.W.Frag} {a : Ad} (C : Cl K a) {x0 x1 : V} {H : Hp} {Q : VK} {E : XK}
    (h : pr_BadTape___init__ K a x0 x1 H Q E) : t_BadTape___init__ K a { nx := fun _ H' => Q .non H', rt := Q } [some x0, some x1] H := by
  exact pure_exc C.oex_BadTape C.nf_BadTape_place h
theorem pure_check_range {K : PySem.W.Frag} {a : Ad} (C : Cl K a) {x0 x1 x2 : V} {H : Hp} {Q : VK} {E : XK}
    (h : pr_check_range K a x0 x1 x2 H Q E) : t_check_range K a { nx := fun _ H' => Q .non H', rt := Q } [some x0, some x1, some x2] H := by
  obtain ⟨v, l, u, rfl, rfl, rfl, h1, h2, q⟩ := h
  unfold t_check_range
  walk_at "rd"
  refine kif_no (by simp; omega) ?_
  walk_at "rd"
  refine kif_no (by simp; omega) ?_
  walk_at "rd"
  exact q
theorem pure_check_most {K : PySem.W.Frag} {a : Ad} (C : Cl K a) {x0 x1 : V} {H : Hp} {Q : VK} {E : XK}
    (h : pr_check_most K a x0 x1 H Q E) : t_check_most K a E { nx := fun _ H' => Q .non H', rt := Q } [some x0, some x1] H := by
  obtain ⟨c, l, rfl, rfl, h1, h2⟩ := h
  unfold t_check_most
  walk_at "rd"
  refine kif_d (fun z => ?_) fun z => ?_
  · walk_at "rd"
    exact k_raise fun d H' hd s hd' => h1 z d H' hd s hd'
  · walk_at "rd"
    exact h2 (by omega)
theorem atI_last {α : Type} {xs : List α} {v : α} (h : xs[xs.length - 1]? = some v) : atI xs (-1) = some v := by
  have hl := (List.getElem?_eq_some_iff.mp h).1
  have e : ixN xs.length (-1) = some (xs.length - 1) := by
    unfold ixN
    split
    · omega
    · rw [if_pos (by omega)]; congr 1; omega
  unfold atI
  rw [e]
  exact h
theorem lastS_at {uss : List (List Int)} {x w : Int} (h : uss[uss.length - 1]? = some [x, w]) : lastS uss = some x := by
  unfold lastS
  rw [List.getLast?_eq_getElem?, h]; rfl
theorem pure_arrive {K : PySem.W.Frag} {a : Ad} (C : Cl K a) {x0 x1 x2 : V} {H : Hp} {Q : VK} {E : XK}
    (h : pr_arrive K a x0 x1 x2 H Q E) : t_arrive K a E { nx := fun _ H' => Q .non H', rt := Q } [some x0, some x1, some x2] H := by
  obtain ⟨uss, s, w, rfl, rfl, ⟨t, vs, rfl, ht, its⟩, h0, hw0, hw, hl, pr, q1, q2, q3⟩ := h
  have hlen := its.len
  unfold t_arrive
  walk_at "rd"
  refine kif_no (by simp; omega) ?_
  walk_at "rd"
  refine sp3_i ⟨_, _, _, rfl, rfl, rfl, by omega, by omega, ?_⟩
  walk_at "rd"
  refine sp2_i ⟨_, _, rfl, rfl, fun z => q1 (by omega), fun z => ?_⟩
  have hlt : uss.length < 400 := by omega
  walk_at "rd"
  refine r_cut (fun σ' H' => σ' = [some (.ref t), some (.int s), some (.int w)] ∧ H = H' ∧ ∀ u, lastS uss = some u → u ≤ s) ?_ ?_
  · walk_at "rd"
    refine kif_d (fun hp => ?_) fun hp => ?_
    · have hi : uss.length - 1 < uss.length := by omega
      have hus : uss[uss.length - 1]? = some uss[uss.length - 1] := List.getElem?_eq_getElem hi
      obtain ⟨x, w', e2⟩ : ∃ x w', uss[uss.length - 1] = [x, w'] := by
        have := pr _ (List.getElem_mem hi)
        match h : uss[uss.length - 1], this with
        | [x, w'], _ => exact ⟨x, w', rfl⟩
      rw [e2] at hus
      obtain ⟨v, hv, y, rfl, hy⟩ := its.at_ _ _ hus
      walk_at "rd"
      refine k_ixT (.inl (.inl ht)) (atI_last (by rw [hlen]; exact hv)) ?_
      walk_at "rd"
      refine k_ixT (.inl (.inl hy)) (show atI (intsL [x, w']) 0 = some (.int x) from atI_nat (j := 0) rfl) ?_
      walk_at "rd"
      refine kif_d (fun hx => ?_) fun hx => ?_
      · walk_at "rd"
        rw [hlen]
        exact k_raise fun d H' hd s hd' => q3 hlt ⟨x, lastS_at hus, hx⟩ d H' hd s hd'
      · walk_at "rd"
        exact ⟨rfl, rfl, fun u hu => by rw [lastS_at hus] at hu; cases hu; omega⟩
    · refine kif_f ?_
      walk_at "rd"
      refine ⟨rfl, rfl, fun u hu => ?_⟩
      have e0 : uss = [] := List.eq_nil_of_length_eq_zero (by omega)
      rw [e0] at hu; cases hu
  · rintro σ' H' ⟨rfl, rfl, hu⟩
    walk_at "rd"
    refine k_tup (by simp) fun y hy => ?_
    walk_at "rd"
    refine k_tup (by simp) fun y2 hy2 => ?_
    have s2 : Same H (upd (upd H y (HO.tup [V.int s, V.int w])) y2 (HO.tup [V.ref y])) := (same_new hy).trans (same_new hy2)
    have hy' := same_new (o := HO.tup [V.ref y]) hy2 _ _ (show upd H y (HO.tup [V.int s, V.int w]) y = some (HO.tup [V.int s, V.int w]) from upd_same)
    have hy2' : upd (upd H y (HO.tup [V.int s, V.int w])) y2 (HO.tup [V.ref y]) y2 = some (HO.tup [V.ref y]) := upd_same
    generalize upd (upd H y (HO.tup [V.int s, V.int w])) y2 (HO.tup [V.ref y]) = H2 at *
    refine ⟨t, y2, vs, [.ref y], rfl, rfl, .inl (.inl (s2 _ _ ht)), .inl (.inl hy2'), by rw [sizeLine_eq]; simp; omega, fun e => ?_, fun _ e => (by cases e), fun _ _ p hp => ?_⟩
    · subst e
      have e0 : uss = [] := List.eq_nil_of_length_eq_zero (by simpa using hlen.symm)
      subst e0
      exact q2 hlt hu _ _ s2 ⟨y2, _, rfl, hy2', Its.nil.snoc (us := [s, w]) ⟨y, rfl, hy'⟩⟩
    · exact q2 hlt hu _ _ (s2.trans (same_new hp)) ⟨p, _, rfl, upd_same, (its.tk (.of_same (s2.trans (same_new hp)))).snoc (us := [s, w]) ⟨y, rfl, same_new hp _ _ hy'⟩⟩
end K74

namespace K74
open PySem L2 Lh
local macro_rules | `(tactic| walk_at "ne") => `(tactic| first | assumption | exact Ne.symm (by assumption) | ((with_reducible refine' lne ?h1 ?h2 ?h3); (case h1 => assumption); (case h2 => assumption); (case h3 => simp)) | ((with_reducible refine' nn ?h1 ?h2); (case h1 => assumption); (case h2 => walk_at "hp")) | (apply Ne.symm; (with_reducible refine' nn ?h1 ?h2); (case h1 => assumption); (case h2 => walk_at "hp")))
local macro_rules | `(tactic| walk_at "hp") => `(tactic| first | assumption | exact upd_same | (refine Eq.trans (upd_ne ?hne) ?hrest; (case hne => walk_at "ne"); (case hrest => walk_at "hp")))
local macro_rules | `(tactic| walk_at "sq") => `(tactic| first | assumption | (refine Or.inl (Or.inl ?hsq); (case hsq => walk_at "hp")))
local macro_rules | `(tactic| walk_at "tq") => `(tactic| first | assumption | (refine Or.inl (Or.inl ?hsq); (case hsq => walk_at "hp")))
local macro_rules | `(tactic| walk_at "r1") => `(tactic| first
  | with_reducible refine r_seq ?_ | with_reducible refine r_asg ?_ | with_reducible refine r_sfld ?_ | with_reducible refine r_ret ?_ | with_reducible refine r_retN ?_ | with_reducible refine r_drop ?_
  | with_reducible refine r_next ?_ | with_reducible refine r_ifs ?_ | with_reducible refine r_dput ?_ | with_reducible refine r_asgG ?_ | with_reducible refine r_gsub ?_
  | ((with_reducible refine' r_var ?hv ?_); (case hv => exact rfl)) | with_reducible refine r_c ?_ | with_reducible refine r_op ?_ | with_reducible refine r_un ?_ | with_reducible refine r_fld ?_
  | with_reducible refine r_cb ?_ | with_reducible refine r_tup ?_ | with_reducible refine r_lst ?_ | with_reducible refine r_nil ?_ | with_reducible refine r_cons ?_ | with_reducible refine r_dget ?_
  | with_reducible refine r_din ?_ | with_reducible refine r_dnin ?_ | with_reducible refine r_call ?_ | with_reducible refine r_meth ?_ | with_reducible refine r_methE ?_ | with_reducible refine r_bm ?_ | with_reducible refine r_bm0 ?_
  | with_reducible refine r_test ?_ | with_reducible refine r_tb ?_ | with_reducible refine r_not ?_ | with_reducible refine r_and ?_ | with_reducible refine r_or ?_ | with_reducible refine r_andV ?_ | with_reducible refine r_orV ?_
  | with_reducible refine r_notV ?_ | with_reducible refine r_tif ?_
  | with_reducible refine k_bl ?_ | with_reducible refine k_i0 ?_ | with_reducible refine k_u ?_ | with_reducible refine k_isN ?_ | with_reducible refine k_notN ?_ | with_reducible refine k_int ?_ | with_reducible refine k_abs ?_ | with_reducible refine k_max ?_ | with_reducible refine k_min ?_
  | with_reducible refine k_eq rfl ?_ | with_reducible refine k_ne rfl ?_
  | ((with_reducible refine' k_fld ?hc ?hn ?ho ?hl ?_); (case hc => assumption); (case hn => assumption); (case ho => walk_at "hp"); (case hl => walk_at "lk"))
  | ((with_reducible refine' k_len ?ho ?_); (case ho => walk_at "sq"))
  | ((with_reducible refine' k_lenT ?ho ?_); (case ho => walk_at "tq"))
  | ((with_reducible refine' k_bml ?ho ?_); (case ho => walk_at "hp"))
  | ((with_reducible refine' k_sfld ?hc ?hn ?ho ?hl ?_); (case hc => assumption); (case hn => assumption); (case ho => walk_at "hp"); (case hl => walk_at "ll"))
  | ((with_reducible refine' k_meth ?ho ?hl ?_); (case ho => walk_at "hp"); (case hl => walk_at "nm"))
  | ((with_reducible refine' k_methE ?ho ?hl ?_); (case ho => walk_at "hp"); (case hl => walk_at "nm"))
  | with_reducible refine r_rng1 ?_ | with_reducible refine r_rng2 ?_ | with_reducible refine r_forL ?_ | with_reducible refine r_forT ?_ | with_reducible refine r_enum ?_ | with_reducible refine r_lcL ?_ | with_reducible refine r_lcR1 ?_ | with_reducible refine r_raise ?_ | with_reducible refine r_make ?_
  | ((with_reducible refine' k_dgetS ?ho ?hg ?_); (case ho => walk_at "hp"); (case hg => walk_at "dg"))
  | with_reducible refine r_pcons ?_ | with_reducible refine r_pnil ?_ | with_reducible refine r_xf ?_ | with_reducible refine r_try ?_ | with_reducible refine r_gn ?_ | with_reducible refine r_callS ?_ | with_reducible refine r_ddel ?_ | with_reducible refine r_dpop ?_ | with_reducible refine r_lcT ?_ | with_reducible refine r_tupRev ?_)
local macro_rules | `(tactic| walk_at "rd") => `(tactic| repeat (first | walk_at "r1" | (dsimp only; walk_at "r1")))
local macro_rules | `(tactic| walk_at "fr") => `(tactic| first | assumption | (apply un; assumption) | (apply un; apply un; assumption) | (apply un; apply un; apply un; assumption) | (apply un; apply un; apply un; apply un; assumption) | (apply un; apply un; apply un; apply un; apply un; assumption) | (apply un; apply un; apply un; apply un; apply un; apply un; assumption))
local macro_rules | `(tactic| walk_at "lk") => `(tactic| first | exact lk_Switch_0 | exact lk_Switch_1 | exact lk_Switch_2)
local macro_rules | `(tactic| walk_at "ll") => `(tactic| first | (rw [ln_Switch]; decide) | with_reducible exact lt0 | with_reducible exact lt1 | with_reducible exact lt2 | with_reducible exact lt3 | with_reducible exact lt4)
local macro_rules | `(tactic| walk_at "nm") => `(tactic| first | exact nm_Switch_join | exact nm_Switch_leave | exact nm_Switch_guests | exact nm_Switch_feed | exact nm_Switch_post | exact nm_Switch_tape | exact nm_Switch_mail | exact nm_Switch_posted | exact nm_Switch_frozen | exact nm_Switch__check)
local macro_rules | `(tactic| walk_at "cl") => `(tactic| (have c1 := Cl.cl_Switch (by assumption); have n1 := Cl.na_Switch__tapes (by assumption); have n2 := Cl.na_Switch__mails (by assumption); have n3 := Cl.na_Switch__posts (by assumption)))
theorem LsR.of {L L' : Lb} {H H' : Hp} {k j g : Nat} {uss : List (List Int)} {v : V} (h : LsR L H k j g uss v) (e : ∀ x l, L x = some l → L' x = some l) (f : ∀ x o, L x = some (k, j, g) → H x = some o → H' x = some o) (tk : TK H H') : LsR L' H' k j g uss v := by
  obtain ⟨l, vs, rfl, h1, h2, h3⟩ := h
  exact ⟨l, vs, rfl, e _ _ h1, f _ _ h1 h2, h3.tk tk⟩
theorem SwAt.of {a : Ad} {L L' : Lb} {k : Nat} {H H' : Hp} {p t m q : Addr} {M : Map} {kt km kq : List (Key × V)} (h : SwAt a L k H p M t m q kt km kq) (e : ∀ x l, L x = some l → L' x = some l)
    (f : ∀ x l o, L x = some l → l.1 = k → H x = some o → H' x = some o) (tk : TK H H') : SwAt a L' k H' p M t m q kt km kq := by
  obtain ⟨dx, ob⟩ := h.ob
  exact ⟨e _ _ h.lp, e _ _ h.lt, e _ _ h.lm, e _ _ h.lq, ⟨dx, f _ _ _ h.lp rfl ob⟩, f _ _ _ h.lt rfl h.ht, f _ _ _ h.lm rfl h.hm, f _ _ _ h.lq rfl h.hq, h.dt.mono fun _ _ _ _ z => z.tk tk, h.dm.mono fun _ _ _ _ z => z.tk tk,
    h.dq.mono fun g r v _ z => z.of e (fun x o hl hx => f x _ o hl rfl hx) tk⟩
theorem SwA.of {a : Ad} {L L' : Lb} {k : Nat} {H H' : Hp} {p : Addr} {M : Map} (h : SwA a L k H p M) (e : ∀ x l, L x = some l → L' x = some l)
    (f : ∀ x l o, L x = some l → l.1 = k → H x = some o → H' x = some o) (tk : TK H H') : SwA a L' k H' p M := by
  obtain ⟨t, m, q, kt, km, kq, D⟩ := h
  exact ⟨t, m, q, kt, km, kq, D.of e f tk⟩
theorem SwA.keep {a : Ad} {S : Nat → Prop} {L L' : Lb} {k : Nat} {H H' : Hp} {p : Addr} {M : Map} (h : SwA a L k H p M) (s : Stp S H L H' L') (hk : ¬ S k) : SwA a L' k H' p M :=
  h.of s.ext (fun x l o hl e hx => s.lbl hl (by rw [e]; exact hk) hx) (.of_stp s)
theorem SwA.same {a : Ad} {L : Lb} {k : Nat} {H H' : Hp} {p : Addr} {M : Map} (h : SwA a L k H p M) (s : Same H H') : SwA a L k H' p M :=
  h.of (fun _ _ e => e) (fun x l o _ _ hx => s _ _ hx) (.of_same s)
theorem pure_Switch___init__ {K : PySem.W.Frag} {a : Ad} (C : Cl K a) {x0 : V} {H : Hp} {Q : VK} {E : XK}
    (h : pr_Switch___init__ K a x0 H Q E) : t_Switch___init__ K a { nx := fun _ H' => Q .non H', rt := Q } [some x0] H := by
  obtain ⟨p, dx, rfl, hp, q⟩ := h
  walk_at "cl"
  unfold t_Switch___init__
  walk_at "rd"
  refine r_dnewK fun t ht => ?_
  walk_at "rd"
  refine r_dnewK fun m hm => ?_
  walk_at "rd"
  refine r_dnewK fun q0 hq => ?_
  walk_at "rd"
  refine q t m q0 _ (by walk_at "fr") (by walk_at "fr") (by walk_at "fr") (by walk_at "ne") (by walk_at "ne") (by walk_at "ne") (fun b o e hb => by walk_at "hp") (by exact upd_same) (by walk_at "hp") (by walk_at "hp") (by walk_at "hp")
theorem pure_Switch_join {K : PySem.W.Frag} {a : Ad} (C : Cl K a) {x0 x1 x2 x3 x4 : V} {H : Hp} {Q : VK} {E : XK}
    (h : pr_Switch_join K a x0 x1 x2 x3 x4 H Q E) : t_Switch_join K a { nx := fun _ H' => Q .non H', rt := Q } [some x0, some x1, some x2, some x3, some x4] H := by
  obtain ⟨p, g, L, k, M, r, rfl, rfl, hz, hu, ⟨vt, vvs, rfl, hvt, vits⟩, hL, ⟨t, m, q0, kt, km, kq, D⟩, hM, hg6, q⟩ := h
  obtain ⟨lp, lt, lm, lq, ⟨dx, ob⟩, ht, hm, hq, dt, dm, dq⟩ := id D
  walk_at "cl"
  unfold t_Switch_join
  walk_at "rd"
  refine sp3_i ⟨_, _, _, rfl, rfl, rfl, by omega, by omega, ?_⟩
  walk_at "rd"
  refine k_dinI ht ?_
  rw [if_neg Bool.false_ne_true, dt.isSome, hM]
  walk_at "rd"
  refine kif_f ?_
  have nt := dt.len
  have nm := dm.len
  have nq := dq.len
  walk_at "rd"
  refine k_dputI ht (by omega) ?_
  walk_at "rd"
  refine k_dputI (by walk_at "hp") (by omega) ?_
  walk_at "rd"
  refine k_listT (.inl (.inl ((TK.trans (.write ht) (.write (by walk_at "hp"))) _ _ hvt))) fun l hl => ?_
  walk_at "rd"
  refine k_dputI (by walk_at "hp") (by omega) ?_
  have hl0 : H l = none := un (un hl)
  have lt_l : t ≠ l := ne_of_none ht hl0
  have lm_l : m ≠ l := ne_of_none hm hl0
  have lq_l : q0 ≠ l := ne_of_none hq hl0
  have Ll : L l = none := hL.none hl0
  have e1 : upd H t (HO.dK (putK kt (kN g) x2)) m = some (.dK km) := by walk_at "hp"
  have st1 : Stp (· = k) H L (upd H t (HO.dK (putK kt (kN g) x2))) L := Stp.write hL lt rfl ht
  have st2 := st1.trans (Stp.write (S := (· = k)) (o := HO.dK (putK km (kN g) x3)) st1.lab lm rfl e1)
  have st3 := st2.trans (Stp.allocL (S := (· = k)) (o := HO.lst vvs) (l := (k, 4, g)) st2.lab hl)
  have e3 : upd (upd (upd H t (HO.dK (putK kt (kN g) x2))) m (HO.dK (putK km (kN g) x3))) l (HO.lst vvs) q0 = some (.dK kq) := by walk_at "hp"
  have st4 := st3.trans (Stp.write (S := (· = k)) (o := HO.dK (putK kq (kN g) (V.ref l))) st3.lab (by rw [updL_ne lq_l]; exact lq) rfl e3)
  have tk := TK.of_stp st4
  refine q _ _ st4 ⟨t, m, q0, _, _, _, st4.ext _ _ lp, st4.ext _ _ lt, st4.ext _ _ lm, st4.ext _ _ lq, ⟨dx, by walk_at "hp"⟩, by walk_at "hp", by walk_at "hp", by exact upd_same, (dt.put hg6 hz).mono fun _ _ _ _ z => z.tk tk, (dm.put hg6 hu).mono fun _ _ _ _ z => z.tk tk,
    (dq.mono fun g' r' v' _ z => z.of st4.ext (fun x o hx hxo => ?_) tk).put hg6 ⟨l, vvs, rfl, updL_same, by walk_at "hp", vits.tk tk⟩⟩
  rw [upd_ne (lne hx lq (by simp)), upd_ne (ne_of_none hxo hl0), upd_ne (lne hx lm (by simp)), upd_ne (lne hx lt (by simp))]
  exact hxo
theorem pure_Switch__check {K : PySem.W.Frag} {a : Ad} (C : Cl K a) {x0 x1 : V} {H : Hp} {Q : VK} {E : XK}
    (h : pr_Switch__check K a x0 x1 H Q E) : t_Switch__check K a { nx := fun _ H' => Q .non H', rt := Q } [some x0, some x1] H := by
  obtain ⟨p, g, L, k, M, r, rfl, rfl, ⟨t, m, q0, kt, km, kq, D⟩, hM, q⟩ := h
  obtain ⟨dx, ob⟩ := D.ob
  walk_at "cl"
  unfold t_Switch__check
  walk_at "rd"
  refine k_dinI D.ht ?_
  rw [if_pos rfl, D.dt.isSome, hM]
  walk_at "rd"
  refine kif_f ?_
  walk_at "rd"
  exact q
theorem pure_Switch_leave {K : PySem.W.Frag} {a : Ad} (C : Cl K a) {x0 x1 : V} {H : Hp} {Q : VK} {E : XK}
    (h : pr_Switch_leave K a x0 x1 H Q E) : t_Switch_leave K a { nx := fun _ H' => Q .non H', rt := Q } [some x0, some x1] H := by
  obtain ⟨p, g, L, k, M, r, rfl, rfl, hL, ⟨t, m, q0, kt, km, kq, D⟩, hM, q⟩ := h
  obtain ⟨lp, lt, lm, lq, ⟨dx, ob⟩, ht, hm, hq, dt, dm, dq⟩ := id D
  walk_at "cl"
  unfold t_Switch_leave
  walk_at "rd"
  refine sp2_i ⟨p, g, L, k, M, r, rfl, rfl, ⟨t, m, q0, kt, km, kq, D⟩, hM, ?_⟩
  obtain ⟨vt, ht1, _⟩ := dt.val g r hM
  obtain ⟨vm, hm1, _⟩ := dm.val g r hM
  obtain ⟨vq, hq1, _⟩ := dq.val g r hM
  walk_at "rd"
  refine k_ddelI ht ht1 ?_
  walk_at "rd"
  refine k_ddelI (by walk_at "hp") hm1 ?_
  walk_at "rd"
  refine k_ddelI (by walk_at "hp") hq1 ?_
  have e1 : upd H t (HO.dK (dropK kt (kN g))) m = some (.dK km) := by walk_at "hp"
  have st1 : Stp (· = k) H L (upd H t (HO.dK (dropK kt (kN g)))) L := Stp.write hL lt rfl ht
  have st2 := st1.trans (Stp.write (S := (· = k)) (o := HO.dK (dropK km (kN g))) st1.lab lm rfl e1)
  have e2 : upd (upd H t (HO.dK (dropK kt (kN g)))) m (HO.dK (dropK km (kN g))) q0 = some (.dK kq) := by walk_at "hp"
  have st3 := st2.trans (Stp.write (S := (· = k)) (o := HO.dK (dropK kq (kN g))) st2.lab lq rfl e2)
  have tk := TK.of_stp st3
  refine q _ st3 ⟨t, m, q0, _, _, _, lp, lt, lm, lq, ⟨dx, by walk_at "hp"⟩, by walk_at "hp", by walk_at "hp", by exact upd_same, (dt.del g).mono fun _ _ _ _ z => z.tk tk, (dm.del g).mono fun _ _ _ _ z => z.tk tk,
    (dq.del g).mono fun g' r' v' _ z => z.of st3.ext (fun x o hx hxo => ?_) tk⟩
  rw [upd_ne (lne hx lq (by simp)), upd_ne (lne hx lm (by simp)), upd_ne (lne hx lt (by simp))]
  exact hxo
theorem intL_cast (O : List Nat) : (O.map fun g => ((g : Nat) : Int)).map V.int = intL O := by unfold intL; rw [List.map_map]; rfl
theorem pure_Switch_guests {K : PySem.W.Frag} {a : Ad} (C : Cl K a) {x0 : V} {H : Hp} {Q : VK} {E : XK}
    (h : pr_Switch_guests K a x0 H Q E) : t_Switch_guests K a { nx := fun _ H' => Q .non H', rt := Q } [some x0] H := by
  obtain ⟨p, L, k, M, rfl, ⟨t, m, q0, kt, km, kq, D⟩, q⟩ := h
  obtain ⟨dx, ob⟩ := D.ob
  walk_at "cl"
  unfold t_Switch_guests
  walk_at "rd"
  obtain ⟨gs, hgs, pm⟩ := D.dt.keys
  have hl := pm.length_eq
  have hd := dom_len (n := 6) (M := M)
  refine ⟨t, kt, gs.map fun g => ((g : Nat) : Int), rfl, .inl D.ht, by rw [hgs, List.map_map]; rfl, by rw [List.length_map]; omega, fun ys l pys sys hl => ?_⟩
  rw [sorted_dom pm pys sys, intL_cast]
  walk_at "rd"
  refine k_tupL (.inl (.inl upd_same)) fun u hu => ?_
  exact q u _ ((same_new hl).trans (same_new hu)) upd_same
theorem pure_Switch_tape {K : PySem.W.Frag} {a : Ad} (C : Cl K a) {x0 x1 : V} {H : Hp} {Q : VK} {E : XK}
    (h : pr_Switch_tape K a x0 x1 H Q E) : t_Switch_tape K a { nx := fun _ H' => Q .non H', rt := Q } [some x0, some x1] H := by
  obtain ⟨p, g, L, k, M, r, rfl, rfl, ⟨t, m, q0, kt, km, kq, D⟩, hM, q⟩ := h
  obtain ⟨dx, ob⟩ := D.ob
  walk_at "cl"
  unfold t_Switch_tape
  walk_at "rd"
  refine sp2_i ⟨p, g, L, k, M, r, rfl, rfl, ⟨t, m, q0, kt, km, kq, D⟩, hM, ?_⟩
  walk_at "rd"
  obtain ⟨v, e, hv⟩ := D.dt.val g r hM
  exact k_dgetI D.ht e (q v hv)
theorem pure_Switch_mail {K : PySem.W.Frag} {a : Ad} (C : Cl K a) {x0 x1 : V} {H : Hp} {Q : VK} {E : XK}
    (h : pr_Switch_mail K a x0 x1 H Q E) : t_Switch_mail K a { nx := fun _ H' => Q .non H', rt := Q } [some x0, some x1] H := by
  obtain ⟨p, g, L, k, M, r, rfl, rfl, ⟨t, m, q0, kt, km, kq, D⟩, hM, q⟩ := h
  obtain ⟨dx, ob⟩ := D.ob
  walk_at "cl"
  unfold t_Switch_mail
  walk_at "rd"
  refine sp2_i ⟨p, g, L, k, M, r, rfl, rfl, ⟨t, m, q0, kt, km, kq, D⟩, hM, ?_⟩
  walk_at "rd"
  obtain ⟨v, e, hv⟩ := D.dm.val g r hM
  exact k_dgetI D.hm e (q v hv)
theorem pure_Switch_posted {K : PySem.W.Frag} {a : Ad} (C : Cl K a) {x0 x1 : V} {H : Hp} {Q : VK} {E : XK}
    (h : pr_Switch_posted K a x0 x1 H Q E) : t_Switch_posted K a { nx := fun _ H' => Q .non H', rt := Q } [some x0, some x1] H := by
  obtain ⟨p, g, L, k, M, r, rfl, rfl, ⟨t, m, q0, kt, km, kq, D⟩, hM, q⟩ := h
  obtain ⟨dx, ob⟩ := D.ob
  walk_at "cl"
  unfold t_Switch_posted
  walk_at "rd"
  refine sp2_i ⟨p, g, L, k, M, r, rfl, rfl, ⟨t, m, q0, kt, km, kq, D⟩, hM, ?_⟩
  walk_at "rd"
  obtain ⟨v, e, l, vs, rfl, ll, hl, its⟩ := D.dq.val g r hM
  refine k_dgetI D.hq e ?_
  walk_at "rd"
  refine k_tupL (.inl (.inl hl)) fun u hu => ?_
  exact q (.ref u) _ (same_new hu) ⟨u, vs, rfl, upd_same, its.tk (.of_same (same_new hu))⟩
theorem pure_Switch_feed {K : PySem.W.Frag} {a : Ad} (C : Cl K a) {x0 x1 x2 x3 : V} {H : Hp} {Q : VK} {E : XK}
    (h : pr_Switch_feed K a x0 x1 x2 x3 H Q E) : t_Switch_feed K a E { nx := fun _ H' => Q .non H', rt := Q } [some x0, some x1, some x2, some x3] H := by
  obtain ⟨p, g, s, w, L, k, M, r, rfl, rfl, rfl, rfl, hL, ⟨t, m, q0, kt, km, kq, D⟩, hM, h0, hw0, hw, hl, pr, q1, q2, q3⟩ := h
  obtain ⟨lp, lt, lm, lq, ⟨dx, ob⟩, ht, hm, hq, dt, dm, dq⟩ := id D
  walk_at "cl"
  unfold t_Switch_feed
  walk_at "rd"
  refine sp2_i ⟨p, g, L, k, M, r, rfl, rfl, ⟨t, m, q0, kt, km, kq, D⟩, hM, ?_⟩
  walk_at "rd"
  obtain ⟨v, e, hv⟩ := dt.val g r hM
  refine k_dgetI ht e ?_
  walk_at "rd"
  refine sp3_i ⟨r.tp, s, w, rfl, rfl, hv, h0, hw0, hw, hl, pr, q1, fun z z2 v' H1 s1 hv' => ?_, fun z ⟨u, e1, e2⟩ => ?_⟩
  · have ob1 := s1 _ _ ob
    have ht1 := s1 _ _ ht
    have := dt.len
    walk_at "rd"
    refine k_dputI ht1 (by omega) ?_
    have st1 : Stp (· = k) H L H1 L := .of_same hL s1
    have st2 := st1.trans (Stp.write (S := (· = k)) (o := HO.dK (putK kt (kN g) v')) st1.lab lt rfl ht1)
    have tk := TK.of_stp st2
    have hm1 := s1 _ _ hm
    have hq1 := s1 _ _ hq
    refine q3 z _ st2 ⟨t, m, q0, _, km, kq, lp, lt, lm, lq, ⟨dx, by walk_at "hp"⟩, by exact upd_same, by walk_at "hp", by walk_at "hp",
      ((dt.mono fun _ _ _ _ z => z.tk (.of_same s1)).put (r := { r with tp := r.tp ++ [[s, w]] }) (dt.bd g r hM) hv').mono fun _ _ _ _ z => z.tk (.write ht1), dm.chg hM (fun _ z => z.tk tk) (fun _ _ _ _ _ z => z.tk tk),
      dq.chg hM (fun _ z => z.of st2.ext (fun x o hx hxo => ?_) tk) (fun _ _ _ _ _ z => z.of st2.ext (fun x o hx hxo => ?_) tk)⟩
    · rw [upd_ne (lne hx lt (by simp))]; exact s1 _ _ hxo
    · rw [upd_ne (lne hx lt (by simp))]; exact s1 _ _ hxo
  · exact absurd (q2 z u e1) (by omega)
theorem mailM_none {M : Map} {peer : Nat} {arr w : Int} (h : M peer = none) : mailM M peer arr w = M := by unfold mailM; rw [h]
theorem mailM_full {M : Map} {peer : Nat} {arr w : Int} {r : Row} (h : M peer = some r) (h2 : ¬ r.ml.length < 400) : mailM M peer arr w = M := by
  unfold mailM; rw [h]
  show (if r.ml.length < 400 then _ else M) = M
  rw [if_neg h2]
theorem mailM_put {M : Map} {peer : Nat} {arr w : Int} {r : Row} (h : M peer = some r) (h2 : r.ml.length < 400) : mailM M peer arr w = upM M peer { r with ml := r.ml ++ [[arr, w]] } := by
  unfold mailM; rw [h]
  show (if r.ml.length < 400 then _ else M) = _
  rw [if_pos h2]
theorem mailM_cases {M : Map} {peer : Nat} {arr w : Int} : mailM M peer arr w = M ∨ ∃ r, M peer = some r ∧ r.ml.length < 400 ∧ mailM M peer arr w = upM M peer { r with ml := r.ml ++ [[arr, w]] } := by
  cases e : M peer with
  | none => exact .inl (mailM_none e)
  | some r =>
    by_cases h : r.ml.length < 400
    · exact .inr ⟨r, rfl, h, mailM_put e h⟩
    · exact .inl (mailM_full e h)
theorem mailM_at {M : Map} {peer g : Nat} {arr w : Int} {r : Row} (h : M g = some r) : ∃ r', mailM M peer arr w g = some r' ∧ r'.ps = r.ps ∧ r'.tp = r.tp := by
  rcases mailM_cases (M := M) (peer := peer) (arr := arr) (w := w) with e | ⟨r1, e1, h1, e⟩
  · rw [e]; exact ⟨r, h, rfl, rfl⟩
  · rw [e]
    by_cases hg : g = peer
    · subst hg
      rw [h] at e1; cases e1
      exact ⟨_, upM_same, rfl, rfl⟩
    · exact ⟨r, by rw [upM_ne hg]; exact h, rfl, rfl⟩
theorem SwAt.posted {a : Ad} {L : Lb} {k : Nat} {H H1 : Hp} {p t m q : Addr} {M : Map} {kt km kq : List (Key × V)} (h : SwAt a L k H p M t m q kt km kq) (hL : Lab H L) (s1 : Same H H1) {g : Nat} {r : Row} (hM : M g = some r) {l : Addr} {vs : List V} {y : V} {us : List Int}
    (ll : L l = some (k, 4, g)) (hl : H l = some (.lst vs)) (its : Its H vs r.ps) (hy : ItR us y H1) (e : valV kq (kN g) = some (.ref l)) :
    SwA a L k (upd H1 l (HO.lst (vs ++ [y]))) p (upM M g { r with ps := r.ps ++ [us] }) ∧ Stp (· = k) H L (upd H1 l (HO.lst (vs ++ [y]))) L := by
  obtain ⟨lp, lt, lm, lq, ⟨dx, ob⟩, ht, hm, hq, dt, dm, dq⟩ := h
  have hl1 := s1 _ _ hl
  have st1 : Stp (· = k) H L H1 L := .of_same hL s1
  have st2 := st1.trans (Stp.write (S := (· = k)) (o := HO.lst (vs ++ [y])) st1.lab ll rfl hl1)
  have tk := TK.of_stp st2
  have tk2 : TK H1 (upd H1 l (HO.lst (vs ++ [y]))) := .write hl1
  have nz : ∀ x lb, L x = some lb → lb ≠ (k, 4, g) → x ≠ l := fun x lb hx hne => lne hx ll hne
  refine ⟨⟨t, m, q, kt, km, kq, lp, lt, lm, lq, ⟨dx, ?_⟩, ?_, ?_, ?_, dt.chg hM (fun _ z => z.tk tk) (fun _ _ _ _ _ z => z.tk tk), dm.chg hM (fun _ z => z.tk tk) (fun _ _ _ _ _ z => z.tk tk), ?_⟩, st2⟩
  · rw [upd_ne (nz _ _ lp (by simp))]; exact s1 _ _ ob
  · rw [upd_ne (nz _ _ lt (by simp))]; exact s1 _ _ ht
  · rw [upd_ne (nz _ _ lm (by simp))]; exact s1 _ _ hm
  · rw [upd_ne (nz _ _ lq (by simp))]; exact s1 _ _ hq
  · refine ⟨(dq.chg hM (R' := fun _ _ _ => True) (fun _ _ => trivial) (fun _ _ _ _ _ _ => trivial)).ks, (dq.chg hM (R' := fun _ _ _ => True) (fun _ _ => trivial) (fun _ _ _ _ _ _ => trivial)).bd, fun j s ej => ?_⟩
    by_cases hj : j = g
    · subst hj
      rw [upM_same] at ej; cases ej
      exact ⟨.ref l, e, l, _, rfl, ll, upd_same, (its.tk tk).snoc (hy.tk tk2)⟩
    · rw [upM_ne hj] at ej
      obtain ⟨v, e1, e2⟩ := dq.val j s ej
      refine ⟨v, e1, e2.of (fun _ _ z => z) (fun x o hx hxo => ?_) tk⟩
      rw [upd_ne (nz _ _ hx (by simp [hj]))]; exact s1 _ _ hxo
theorem pure_Switch_post {K : PySem.W.Frag} {a : Ad} (C : Cl K a) {x0 x1 x2 x3 x4 x5 : V} {H : Hp} {Q : VK} {E : XK}
    (h : pr_Switch_post K a x0 x1 x2 x3 x4 x5 H Q E) : t_Switch_post K a E { nx := fun _ H' => Q .non H', rt := Q } [some x0, some x1, some x2, some x3, some x4, some x5, none] H := by
  obtain ⟨p, g, peer, tm, wd, arr, L, k, M, rfl, rfl, rfl, rfl, rfl, rfl, hL, ⟨t, m, q0, kt, km, kq, D⟩, ⟨r, hM, hrp⟩, h0, hp7, hw0, hw, ha0, hpr, q1, q2, q3⟩ := h
  obtain ⟨lp, lt, lm, lq, ⟨dx, ob⟩, ht, hm, hq, dt, dm, dq⟩ := id D
  walk_at "cl"
  unfold t_Switch_post
  walk_at "rd"
  refine sp2_i ⟨p, g, L, k, M, r, rfl, rfl, ⟨t, m, q0, kt, km, kq, D⟩, hM, ?_⟩
  walk_at "rd"
  refine kif_no (by simp; omega) ?_
  walk_at "rd"
  refine sp3_i ⟨_, _, _, rfl, rfl, rfl, by omega, by omega, ?_⟩
  walk_at "rd"
  refine sp3_i ⟨_, _, _, rfl, rfl, rfl, by omega, by omega, ?_⟩
  walk_at "rd"
  refine kif_no (by simp; omega) ?_
  walk_at "rd"
  refine r_cut (fun σ' H' => σ' = [some (V.ref p), some (.int (g : Nat)), some (.int tm), some (.int (peer : Nat)), some (.int wd), some (.int arr), some (.bl (due M peer))] ∧ H = H') ?_ ?_
  · walk_at "rd"
    refine k_dinI hm ?_
    rw [if_neg Bool.false_ne_true, dm.isSome]
    walk_at "rd"
    cases e : M peer with
    | none =>
      refine kif_f ?_
      refine ⟨?_, rfl⟩
      have : due M peer = false := by unfold due; rw [e]
      rw [this]; rfl
    | some r1 =>
      refine kif_t ?_
      obtain ⟨v, e1, vt, vvs, rfl, hvt, vits⟩ := dm.val peer r1 e
      walk_at "rd"
      refine k_dgetI hm e1 ?_
      walk_at "rd"
      rw [vits.len]
      refine ⟨?_, rfl⟩
      have : due M peer = decide (((r1.ml.length : Nat) : Int) < 400) := by
        unfold due; rw [e]
        exact decide_eq_decide.mpr (by omega)
      rw [this]; rfl
  rintro σ' H' ⟨rfl, rfl⟩
  refine r_cut (fun σ' H' => σ' = [some (V.ref p), some (.int (g : Nat)), some (.int tm), some (.int (peer : Nat)), some (.int wd), some (.int arr), some (.bl (due M peer))] ∧ Stp (· = k) H L H' L ∧ SwA a L k H' p (mailM M peer arr wd) ∧
    ∀ r, M peer = some r → r.ml.length < 400 → ∀ u, lastS r.ml = some u → u ≤ arr) ?_ ?_
  · walk_at "rd"
    cases e : M peer with
    | none =>
      refine kif_no (by unfold due; rw [e]) ?_
      walk_at "rd"
      exact ⟨rfl, .refl hL, by rw [mailM_none e]; exact ⟨t, m, q0, kt, km, kq, D⟩, fun _ z => by cases z⟩
    | some r1 =>
      by_cases hl4 : r1.ml.length < 400
      · refine kif_of (by unfold due; rw [e]; exact decide_eq_true hl4) ?_
        obtain ⟨v, e1, hv⟩ := dm.val peer r1 e
        obtain ⟨hl5, pr⟩ := hpr r1 e
        walk_at "rd"
        refine k_dgetI hm e1 ?_
        walk_at "rd"
        refine sp3_i ⟨r1.ml, arr, wd, rfl, rfl, hv, ha0, hw0, hw, hl5, pr, fun z => by omega, fun z z2 v' H1 s1 hv' => ?_, fun z u => q2 r1 e hl4 u⟩
        have ob1 := s1 _ _ ob
        have hm1 := s1 _ _ hm
        have := dm.len
        walk_at "rd"
        refine k_dputI hm1 (by omega) ?_
        have st1 : Stp (· = k) H L H1 L := .of_same hL s1
        have st2 := st1.trans (Stp.write (S := (· = k)) (o := HO.dK (putK km (kN peer) v')) st1.lab lm rfl hm1)
        have tk := TK.of_stp st2
        have ht1 := s1 _ _ ht
        have hq1 := s1 _ _ hq
        refine ⟨rfl, st2, ?_, fun r2 e2 _ => by cases e2; exact z2⟩
        rw [mailM_put e hl4]
        refine ⟨t, m, q0, kt, _, kq, lp, lt, lm, lq, ⟨dx, by walk_at "hp"⟩, by walk_at "hp", by exact upd_same, by walk_at "hp", dt.chg e (fun _ z => z.tk tk) (fun _ _ _ _ _ z => z.tk tk),
          ((dm.mono fun _ _ _ _ z => z.tk (.of_same s1)).put (r := { r1 with ml := r1.ml ++ [[arr, wd]] }) (dm.bd peer r1 e) hv').mono fun _ _ _ _ z => z.tk (.write hm1),
          dq.chg e (fun _ z => z.of st2.ext (fun x o hx hxo => ?_) tk) (fun _ _ _ _ _ z => z.of st2.ext (fun x o hx hxo => ?_) tk)⟩
        · rw [upd_ne (lne hx lm (by simp))]; exact s1 _ _ hxo
        · rw [upd_ne (lne hx lm (by simp))]; exact s1 _ _ hxo
      · refine kif_no (by unfold due; rw [e]; exact decide_eq_false hl4) ?_
        walk_at "rd"
        exact ⟨rfl, .refl hL, by rw [mailM_full e hl4]; exact ⟨t, m, q0, kt, km, kq, D⟩, fun r2 e2 z => by cases e2; exact absurd z hl4⟩
  rintro σ' H' ⟨rfl, st, ⟨t', m', q', kt', km', kq', D'⟩, cd⟩
  obtain ⟨r', hM', ep, _⟩ := mailM_at (peer := peer) (arr := arr) (w := wd) hM
  obtain ⟨dx', ob'⟩ := D'.ob
  obtain ⟨v, e1, l, vs, rfl, ll, hl, its⟩ := D'.dq.val g r' hM'
  have hlen := its.len
  walk_at "rd"
  refine k_dgetI D'.hq e1 ?_
  walk_at "rd"
  refine k_tup (by simp) fun y hy => ?_
  have hl2 := same_new (o := HO.tup [V.int tm, V.int (peer : Nat), V.int wd]) hy _ _ hl
  walk_at "rd"
  refine k_append hl2 (by rw [hlen, ep]; omega) ?_
  walk_at "rd"
  obtain ⟨sw, st2⟩ := D'.posted st.lab (same_new (o := HO.tup [V.int tm, V.int (peer : Nat), V.int wd]) hy) hM' ll hl its (us := [tm, (peer : Nat), wd]) (y := .ref y) ⟨y, rfl, upd_same⟩ e1
  refine q1 cd _ (st.trans st2) ?_
  have : postM M g tm peer wd arr = upM (mailM M peer arr wd) g { r' with ps := r'.ps ++ [[tm, (peer : Nat), wd]] } := by
    unfold postM postedM; rw [hM']
  rw [this]
  exact sw
end K74

namespace K74
open PySem L2 Lh
local macro_rules | `(tactic| walk_at "ne") => `(tactic| first | assumption | exact Ne.symm (by assumption) | ((with_reducible refine' lne ?h1 ?h2 ?h3); (case h1 => assumption); (case h2 => assumption); (case h3 => simp)) | ((with_reducible refine' nn ?h1 ?h2); (case h1 => assumption); (case h2 => walk_at "hp")) | (apply Ne.symm; (with_reducible refine' nn ?h1 ?h2); (case h1 => assumption); (case h2 => walk_at "hp")))
local macro_rules | `(tactic| walk_at "hp") => `(tactic| first | assumption | exact upd_same | (refine Eq.trans (upd_ne ?hne) ?hrest; (case hne => walk_at "ne"); (case hrest => walk_at "hp")))
local macro_rules | `(tactic| walk_at "sq") => `(tactic| first | assumption | (refine Or.inl (Or.inl ?hsq); (case hsq => walk_at "hp")))
local macro_rules | `(tactic| walk_at "tq") => `(tactic| first | assumption | (refine Or.inl (Or.inl ?hsq); (case hsq => walk_at "hp")))
local macro_rules | `(tactic| walk_at "r1") => `(tactic| first
  | with_reducible refine r_seq ?_ | with_reducible refine r_asg ?_ | with_reducible refine r_sfld ?_ | with_reducible refine r_ret ?_ | with_reducible refine r_retN ?_ | with_reducible refine r_drop ?_
  | with_reducible refine r_next ?_ | with_reducible refine r_ifs ?_ | with_reducible refine r_dput ?_ | with_reducible refine r_asgG ?_ | with_reducible refine r_gsub ?_
  | ((with_reducible refine' r_var ?hv ?_); (case hv => exact rfl)) | with_reducible refine r_c ?_ | with_reducible refine r_op ?_ | with_reducible refine r_un ?_ | with_reducible refine r_fld ?_
  | with_reducible refine r_cb ?_ | with_reducible refine r_tup ?_ | with_reducible refine r_lst ?_ | with_reducible refine r_nil ?_ | with_reducible refine r_cons ?_ | with_reducible refine r_dget ?_
  | with_reducible refine r_din ?_ | with_reducible refine r_dnin ?_ | with_reducible refine r_call ?_ | with_reducible refine r_meth ?_ | with_reducible refine r_methE ?_ | with_reducible refine r_bm ?_ | with_reducible refine r_bm0 ?_
  | with_reducible refine r_test ?_ | with_reducible refine r_tb ?_ | with_reducible refine r_not ?_ | with_reducible refine r_and ?_ | with_reducible refine r_or ?_ | with_reducible refine r_andV ?_ | with_reducible refine r_orV ?_
  | with_reducible refine r_notV ?_ | with_reducible refine r_tif ?_
  | with_reducible refine k_bl ?_ | with_reducible refine k_i0 ?_ | with_reducible refine k_u ?_ | with_reducible refine k_isN ?_ | with_reducible refine k_notN ?_ | with_reducible refine k_int ?_ | with_reducible refine k_abs ?_ | with_reducible refine k_max ?_ | with_reducible refine k_min ?_
  | with_reducible refine k_eq rfl ?_ | with_reducible refine k_ne rfl ?_
  | ((with_reducible refine' k_fld ?hc ?hn ?ho ?hl ?_); (case hc => assumption); (case hn => assumption); (case ho => walk_at "hp"); (case hl => walk_at "lk"))
  | ((with_reducible refine' k_len ?ho ?_); (case ho => walk_at "sq"))
  | ((with_reducible refine' k_lenT ?ho ?_); (case ho => walk_at "tq"))
  | ((with_reducible refine' k_bml ?ho ?_); (case ho => walk_at "hp"))
  | ((with_reducible refine' k_sfld ?hc ?hn ?ho ?hl ?_); (case hc => assumption); (case hn => assumption); (case ho => walk_at "hp"); (case hl => walk_at "ll"))
  | ((with_reducible refine' k_meth ?ho ?hl ?_); (case ho => walk_at "hp"); (case hl => walk_at "nm"))
  | ((with_reducible refine' k_methE ?ho ?hl ?_); (case ho => walk_at "hp"); (case hl => walk_at "nm"))
  | with_reducible refine r_rng1 ?_ | with_reducible refine r_rng2 ?_ | with_reducible refine r_forL ?_ | with_reducible refine r_forT ?_ | with_reducible refine r_enum ?_ | with_reducible refine r_lcL ?_ | with_reducible refine r_lcR1 ?_ | with_reducible refine r_raise ?_ | with_reducible refine r_make ?_
  | ((with_reducible refine' k_dgetS ?ho ?hg ?_); (case ho => walk_at "hp"); (case hg => walk_at "dg"))
  | with_reducible refine r_pcons ?_ | with_reducible refine r_pnil ?_ | with_reducible refine r_xf ?_ | with_reducible refine r_try ?_ | with_reducible refine r_gn ?_ | with_reducible refine r_callS ?_ | with_reducible refine r_ddel ?_ | with_reducible refine r_dpop ?_ | with_reducible refine r_lcT ?_ | with_reducible refine r_tupRev ?_)
local macro_rules | `(tactic| walk_at "rd") => `(tactic| repeat (first | walk_at "r1" | (dsimp only; walk_at "r1")))
local macro_rules | `(tactic| walk_at "fr") => `(tactic| first | assumption | (apply un; assumption) | (apply un; apply un; assumption) | (apply un; apply un; apply un; assumption) | (apply un; apply un; apply un; apply un; assumption) | (apply un; apply un; apply un; apply un; apply un; assumption) | (apply un; apply un; apply un; apply un; apply un; apply un; assumption))
local macro_rules | `(tactic| walk_at "lk") => `(tactic| first | exact lk_Switch_0 | exact lk_Switch_1 | exact lk_Switch_2)
local macro_rules | `(tactic| walk_at "ll") => `(tactic| first | (rw [ln_Switch]; decide) | with_reducible exact lt0 | with_reducible exact lt1 | with_reducible exact lt2 | with_reducible exact lt3 | with_reducible exact lt4)
local macro_rules | `(tactic| walk_at "nm") => `(tactic| first | exact nm_Switch_join | exact nm_Switch_leave | exact nm_Switch_guests | exact nm_Switch_feed | exact nm_Switch_post | exact nm_Switch_tape | exact nm_Switch_mail | exact nm_Switch_posted | exact nm_Switch_frozen | exact nm_Switch__check)
local macro_rules | `(tactic| walk_at "cl") => `(tactic| (have c1 := Cl.cl_Switch (by assumption); have n1 := Cl.na_Switch__tapes (by assumption); have n2 := Cl.na_Switch__mails (by assumption); have n3 := Cl.na_Switch__posts (by assumption)))
theorem FrR.tk {H H' : Hp} {g : Nat} {r : Row} {y : V} (h : FrR H g r y) (k : TK H H') : FrR H' g r y := by
  obtain ⟨q, u, v, w, rfl, h1, h2, h3, h4⟩ := h
  exact ⟨q, u, v, w, rfl, k _ _ h1, h2.tk k, h3.tk k, h4.tk k⟩
theorem FzR.tk {H H' : Hp} {M : Map} {v : V} (h : FzR H M v) (k : TK H H') : FzR H' M v := by
  obtain ⟨t, vs, rfl, h1, h2, h3⟩ := h
  refine ⟨t, vs, rfl, k _ _ h1, h2, fun i g e => ?_⟩
  obtain ⟨y, r, e1, e2, e3⟩ := h3 i g e
  exact ⟨y, r, e1, e2, e3.tk k⟩
theorem pure_Switch_frozen {K : PySem.W.Frag} {a : Ad} (C : Cl K a) {x0 : V} {H : Hp} {Q : VK} {E : XK}
    (h : pr_Switch_frozen K a x0 H Q E) : t_Switch_frozen K a { nx := fun _ H' => Q .non H', rt := Q } [some x0, none] H := by
  obtain ⟨p, L, k, M, rfl, sw, q⟩ := h
  obtain ⟨t, m, q0, kt, km, kq, D⟩ := id sw
  obtain ⟨dx, ob⟩ := D.ob
  walk_at "cl"
  unfold t_Switch_frozen
  walk_at "rd"
  refine sp1_i ⟨p, L, k, M, rfl, sw, fun q1 H1 s1 hq1 => ?_⟩
  refine k_lcTN (xs := intL (dom 6 M)) (.inl (.inl hq1)) (fun i y H' => ∀ g, (dom 6 M)[i]? = some g → ∃ r, M g = some r ∧ FrR H' g r y) (fun i y H H' tk h g e => by
    obtain ⟨r, e1, e2⟩ := h g e
    exact ⟨r, e1, e2.tk tk⟩) (by unfold intL; rw [List.length_map]; have := dom_len (n := 6) (M := M); omega) (fun _ => rfl) (fun i x H2 hx s2 Q2 hQ => ?_) fun D H2 ys hD s2 hD2 hl hys => ?_
  · obtain ⟨g, hg, rfl⟩ : ∃ g, (dom 6 M)[i]? = some g ∧ V.int (g : Nat) = x := by
      unfold intL at hx
      rw [List.getElem?_map] at hx
      exact Option.map_eq_some_iff.mp hx
    obtain ⟨hg6, r, hM⟩ := mem_dom.mp (List.mem_of_getElem? hg)
    have s12 := s1.trans s2
    have ob2 := s12 _ _ ob
    obtain ⟨vt, e1, hvt⟩ := D.dt.val g r hM
    obtain ⟨vm, e2, hvm⟩ := D.dm.val g r hM
    show tTup _ [some (.ref p), some (.int (g : Nat))] H2 Q2
    walk_at "rd"
    refine k_dgetI (s12 _ _ D.ht) e1 ?_
    walk_at "rd"
    refine k_dgetI (s12 _ _ D.hm) e2 ?_
    walk_at "rd"
    refine sp2_i ⟨p, g, L, k, M, r, rfl, rfl, sw.same s12, hM, fun v H3 s3 hv => ?_⟩
    walk_at "rd"
    refine k_tup (by simp) fun y hy => ?_
    have s13 := s12.trans s3
    have tk : TK H (upd H3 y (HO.tup [V.int (g : Nat), vt, vm, v])) := .of_same (s13.trans (same_new hy))
    refine hQ _ _ (s3.trans (same_new hy)) fun g' hg' => ?_
    rw [hg] at hg'; cases hg'
    exact ⟨r, hM, y, vt, vm, v, rfl, upd_same, hvt.tk tk, hvm.tk tk, hv.tk (.of_same (same_new hy))⟩
  · walk_at "rd"
    refine k_tupL (.inl (.inl hD2)) fun u hu => ?_
    have sn := same_new (o := HO.tup ys) hu
    refine q (.ref u) _ ((s1.trans s2).trans sn) ⟨u, ys, rfl, upd_same, by rw [hl]; unfold intL; rw [List.length_map], fun i g hg => ?_⟩
    have hi : i < ys.length := by
      have := (List.getElem?_eq_some_iff.mp hg).1
      rw [hl]; unfold intL; rw [List.length_map]; exact this
    obtain ⟨r, hM, hf⟩ := hys i ys[i] (List.getElem?_eq_getElem hi) g hg
    exact ⟨ys[i], r, List.getElem?_eq_getElem hi, hM, hf.tk (.of_same sn)⟩
theorem SwA.made {a : Ad} {S : Nat → Prop} {k : Nat} {H H' : Hp} {L : Lb} {x dx t m q : Addr} (hL : Lab H L) (hx : H x = none) (s : Same H H') (ht : H t = none) (hm : H m = none) (hq : H q = none) (xt : x ≠ t) (xm : x ≠ m) (xq : x ≠ q) (tm : t ≠ m) (tq : t ≠ q) (mq : m ≠ q)
    (ob : H' x = some (.ins a.C_Switch dx (fl_Switch (.ref t) (.ref m) (.ref q)))) (ot : H' t = some (.dK [])) (om : H' m = some (.dK [])) (oq : H' q = some (.dK [])) :
    ∃ L', Stp S H L H' L' ∧ SwA a L' k H' x fun _ => none := by
  have n1 : updL L x (k, 0, 0) t = none := by rw [updL_ne (Ne.symm xt)]; exact hL.none ht
  have n2 : updL (updL L x (k, 0, 0)) t (k, 1, 0) m = none := by rw [updL_ne (Ne.symm tm), updL_ne (Ne.symm xm)]; exact hL.none hm
  have n3 : updL (updL (updL L x (k, 0, 0)) t (k, 1, 0)) m (k, 2, 0) q = none := by rw [updL_ne (Ne.symm mq), updL_ne (Ne.symm tq), updL_ne (Ne.symm xq)]; exact hL.none hq
  have st := ((((Stp.of_same (S := S) hL s).relabel (l := (k, 0, 0)) hx (hL.none hx) ob).relabel (l := (k, 1, 0)) ht n1 ot).relabel (l := (k, 2, 0)) hm n2 om).relabel (l := (k, 3, 0)) hq n3 oq
  refine ⟨_, st, t, m, q, [], [], [], ?_, ?_, ?_, updL_same, ⟨dx, ob⟩, ot, om, oq, DM.nil, DM.nil, DM.nil⟩
  · rw [updL_ne xq, updL_ne xm, updL_ne xt, updL_same]
  · rw [updL_ne tq, updL_ne tm, updL_same]
  · rw [updL_ne mq, updL_same]
theorem pure_thawed_switch {K : PySem.W.Frag} {a : Ad} (C : Cl K a) {x0 : V} {H : Hp} {Q : VK} {E : XK}
    (h : pr_thawed_switch K a x0 H Q E) : t_thawed_switch K a { nx := fun _ H' => Q .non H', rt := Q } [some x0, none, none, none, none, none] H := by
  obtain ⟨L, k, M, fz, hL, hM6, q⟩ := h
  obtain ⟨vt, vs, rfl, hvt, hvl, hat⟩ := id fz
  walk_at "cl"
  unfold t_thawed_switch
  walk_at "rd"
  refine k_make fun x dx hx hdx ne => ?_
  have m2 : Same H (upd (upd H dx (.own x)) x (.ins a.C_Switch dx [])) := same_mk2 hx hdx
  refine sp1_i ⟨x, dx, rfl, upd_same, fun t m q1 H' ht hm hq tm tq mq kp ob ot om oq => ⟨rfl, ?_⟩⟩
  have sH : Same H H' := fun b o e => kp b o (m2 b o e) (ne_of_none e hx)
  have xx : ∀ z, upd (upd H dx (.own x)) x (HO.ins a.C_Switch dx []) z = none → x ≠ z := fun z hz => ne_of_none (H := upd (upd H dx (.own x)) x (.ins a.C_Switch dx [])) upd_same hz
  obtain ⟨L1, st1, sw1⟩ := SwA.made (a := a) (S := (· = k)) (k := k) hL hx sH (m2.free ht) (m2.free hm) (m2.free hq) (xx _ ht) (xx _ hm) (xx _ hq) tm tq mq ob ot om oq
  walk_at "rd"
  refine k_forT (xs := vs) (.inl (.inl (st1.tup _ _ hvt))) (fun n σ' H2 => (∃ u v w z, σ' = [some (.ref vt), some (.ref x), u, v, w, z]) ∧ ∃ L2, Stp (· = k) H L H2 L2 ∧ SwA a L2 k H2 x (fun g => if g ∈ (dom 6 M).take n then M g else none))
    ⟨⟨_, _, _, _, rfl⟩, L1, st1, by simpa using sw1⟩ (fun n σ' H2 _ ⟨_, L2, st2, _⟩ => .inl (.inl (st2.tup _ _ hvt))) ?_ ?_
  · rintro n y σ' H2 hy ⟨⟨u, v, w, z, rfl⟩, L2, st2, sw2⟩
    have hn : n < (dom 6 M).length := by
      have := (List.getElem?_eq_some_iff.mp hy).1
      omega
    have hg : (dom 6 M)[n]? = some (dom 6 M)[n] := List.getElem?_eq_getElem hn
    generalize (dom 6 M)[n] = g at hg
    obtain ⟨y', r, e1, hM, qy, vt', vm', vp', rfl, hq, h1, h2, h3⟩ := hat n g hg
    rw [hy] at e1; cases e1
    have tk := TK.of_stp st2
    have nt : g ∉ (dom 6 M).take n := fun hz => by
      have nd := dom_nodup (n := 6) (M := M)
      rw [← List.take_append_drop n (dom 6 M)] at nd
      exact (List.nodup_append.mp nd).2.2 g hz g (List.mem_of_getElem? (i := 0) (by rw [List.getElem?_drop]; exact hg)) rfl
    refine g_four (tk _ _ hq) ?_
    obtain ⟨t2, m2, q2, kt2, km2, kq2, D2⟩ := id sw2
    obtain ⟨dx2, ob2⟩ := D2.ob
    show tDrop _ _ [some (.ref vt), some (.ref x), some (.int (g : Nat)), some vt', some vm', some vp'] H2
    walk_at "rd"
    refine sp5_i ⟨x, g, L2, k, _, r, rfl, rfl, h1.tk tk, h2.tk tk, h3.tk tk, st2.lab, sw2, if_neg nt, hM6 g r hM, fun H3 L3 st3 sw3 => ?_⟩
    refine ⟨⟨_, _, _, _, rfl⟩, L3, st2.trans st3, ?_⟩
    have eM : upM (fun g => if g ∈ (dom 6 M).take n then M g else none) g r = fun g => if g ∈ (dom 6 M).take (n + 1) then M g else none := by
      funext j
      have tm' : (dom 6 M).take (n + 1) = (dom 6 M).take n ++ [g] := by rw [List.take_succ, hg]; rfl
      by_cases hj : j = g
      · subst hj
        rw [upM_same, if_pos (by rw [tm']; simp), hM]
      · rw [upM_ne hj, tm']
        simp [hj]
    rw [eM] at sw3
    exact sw3
  · rintro σ' H2 ⟨⟨u, v, w, z, rfl⟩, L2, st2, sw2⟩
    walk_at "rd"
    refine q x H2 L2 st2 hx ?_
    have eM : (fun g => if g ∈ (dom 6 M).take vs.length then M g else none) = M := by
      funext g
      rw [List.take_of_length_le (by omega)]
      cases e : M g with
      | none => simp
      | some r => rw [if_pos (mem_dom.mpr ⟨hM6 g r e, r, e⟩)]
    rw [eM] at sw2
    exact sw2
end K74

namespace K74
open PySem L2 Lh
local macro_rules | `(tactic| walk_at "ne") => `(tactic| first | assumption | exact Ne.symm (by assumption) | ((with_reducible refine' lne ?h1 ?h2 ?h3); (case h1 => assumption); (case h2 => assumption); (case h3 => simp)) | ((with_reducible refine' nn ?h1 ?h2); (case h1 => assumption); (case h2 => walk_at "hp")) | (apply Ne.symm; (with_reducible refine' nn ?h1 ?h2); (case h1 => assumption); (case h2 => walk_at "hp")))
local macro_rules | `(tactic| walk_at "hp") => `(tactic| first | assumption | exact upd_same | (refine Eq.trans (upd_ne ?hne) ?hrest; (case hne => walk_at "ne"); (case hrest => walk_at "hp")))
local macro_rules | `(tactic| walk_at "sq") => `(tactic| first | assumption | (refine Or.inl (Or.inl ?hsq); (case hsq => walk_at "hp")))
local macro_rules | `(tactic| walk_at "tq") => `(tactic| first | assumption | (refine Or.inl (Or.inl ?hsq); (case hsq => walk_at "hp")))
local macro_rules | `(tactic| walk_at "r1") => `(tactic| first
  | with_reducible refine r_seq ?_ | with_reducible refine r_asg ?_ | with_reducible refine r_sfld ?_ | with_reducible refine r_ret ?_ | with_reducible refine r_retN ?_ | with_reducible refine r_drop ?_
  | with_reducible refine r_next ?_ | with_reducible refine r_ifs ?_ | with_reducible refine r_dput ?_ | with_reducible refine r_asgG ?_ | with_reducible refine r_gsub ?_
  | ((with_reducible refine' r_var ?hv ?_); (case hv => exact rfl)) | with_reducible refine r_c ?_ | with_reducible refine r_op ?_ | with_reducible refine r_un ?_ | with_reducible refine r_fld ?_
  | with_reducible refine r_cb ?_ | with_reducible refine r_tup ?_ | with_reducible refine r_lst ?_ | with_reducible refine r_nil ?_ | with_reducible refine r_cons ?_ | with_reducible refine r_dget ?_
  | with_reducible refine r_din ?_ | with_reducible refine r_dnin ?_ | with_reducible refine r_call ?_ | with_reducible refine r_meth ?_ | with_reducible refine r_methE ?_ | with_reducible refine r_bm ?_ | with_reducible refine r_bm0 ?_
  | with_reducible refine r_test ?_ | with_reducible refine r_tb ?_ | with_reducible refine r_not ?_ | with_reducible refine r_and ?_ | with_reducible refine r_or ?_ | with_reducible refine r_andV ?_ | with_reducible refine r_orV ?_
  | with_reducible refine r_notV ?_ | with_reducible refine r_tif ?_
  | with_reducible refine k_bl ?_ | with_reducible refine k_i0 ?_ | with_reducible refine k_u ?_ | with_reducible refine k_isN ?_ | with_reducible refine k_notN ?_ | with_reducible refine k_int ?_ | with_reducible refine k_abs ?_ | with_reducible refine k_max ?_ | with_reducible refine k_min ?_
  | with_reducible refine k_eq rfl ?_ | with_reducible refine k_ne rfl ?_
  | ((with_reducible refine' k_fld ?hc ?hn ?ho ?hl ?_); (case hc => assumption); (case hn => assumption); (case ho => walk_at "hp"); (case hl => walk_at "lk"))
  | ((with_reducible refine' k_len ?ho ?_); (case ho => walk_at "sq"))
  | ((with_reducible refine' k_lenT ?ho ?_); (case ho => walk_at "tq"))
  | ((with_reducible refine' k_bml ?ho ?_); (case ho => walk_at "hp"))
  | ((with_reducible refine' k_sfld ?hc ?hn ?ho ?hl ?_); (case hc => assumption); (case hn => assumption); (case ho => walk_at "hp"); (case hl => walk_at "ll"))
  | ((with_reducible refine' k_meth ?ho ?hl ?_); (case ho => walk_at "hp"); (case hl => walk_at "nm"))
  | ((with_reducible refine' k_methE ?ho ?hl ?_); (case ho => walk_at "hp"); (case hl => walk_at "nm"))
  | with_reducible refine r_rng1 ?_ | with_reducible refine r_rng2 ?_ | with_reducible refine r_forL ?_ | with_reducible refine r_forT ?_ | with_reducible refine r_enum ?_ | with_reducible refine r_lcL ?_ | with_reducible refine r_lcR1 ?_ | with_reducible refine r_raise ?_ | with_reducible refine r_make ?_
  | ((with_reducible refine' k_dgetS ?ho ?hg ?_); (case ho => walk_at "hp"); (case hg => walk_at "dg"))
  | with_reducible refine r_pcons ?_ | with_reducible refine r_pnil ?_ | with_reducible refine r_xf ?_ | with_reducible refine r_try ?_ | with_reducible refine r_gn ?_ | with_reducible refine r_callS ?_ | with_reducible refine r_ddel ?_ | with_reducible refine r_dpop ?_ | with_reducible refine r_lcT ?_ | with_reducible refine r_tupRev ?_)
local macro_rules | `(tactic| walk_at "rd") => `(tactic| repeat (first | walk_at "r1" | (dsimp only; walk_at "r1")))
local macro_rules | `(tactic| walk_at "fr") => `(tactic| first | assumption | (apply un; assumption) | (apply un; apply un; assumption) | (apply un; apply un; apply un; assumption) | (apply un; apply un; apply un; apply un; assumption) | (apply un; apply un; apply un; apply un; apply un; assumption) | (apply un; apply un; apply un; apply un; apply un; apply un; assumption))
local macro_rules | `(tactic| walk_at "lk") => `(tactic| first | exact lk_Switch_0 | exact lk_Switch_1 | exact lk_Switch_2)
local macro_rules | `(tactic| walk_at "ll") => `(tactic| first | (rw [ln_Switch]; decide) | with_reducible exact lt0 | with_reducible exact lt1 | with_reducible exact lt2 | with_reducible exact lt3 | with_reducible exact lt4)
local macro_rules | `(tactic| walk_at "nm") => `(tactic| first | exact nm_Switch_join | exact nm_Switch_leave | exact nm_Switch_guests | exact nm_Switch_feed | exact nm_Switch_post | exact nm_Switch_tape | exact nm_Switch_mail | exact nm_Switch_posted | exact nm_Switch_frozen | exact nm_Switch__check)
local macro_rules | `(tactic| walk_at "cl") => `(tactic| (have c1 := Cl.cl_Switch (by assumption); have n1 := Cl.na_Switch__tapes (by assumption); have n2 := Cl.na_Switch__mails (by assumption); have n3 := Cl.na_Switch__posts (by assumption)))
theorem its_map {α : Type} {H : Hp} {vs : List V} {n : Nat} {f : Nat → List Int} (hl : vs.length = n) (h : ∀ (i : Nat) y, vs[i]? = some y → ItR (f i) y H) : Its H vs ((List.range n).map f) := by
  refine ⟨by rw [List.length_map, List.length_range]; exact hl, fun i us e => ?_⟩
  rw [List.getElem?_map] at e
  obtain ⟨j, ej, rfl⟩ := Option.map_eq_some_iff.mp e
  have hi : i < n := by
    have := (List.getElem?_eq_some_iff.mp ej).1
    rwa [List.length_range] at this
  rw [List.getElem?_range hi] at ej
  cases ej
  have hv : vs[i]? = some vs[i] := List.getElem?_eq_getElem (by omega)
  exact ⟨_, hv, h i _ hv⟩
theorem pure__law_pairs {K : PySem.W.Frag} {a : Ad} (C : Cl K a) {x0 x1 : V} {H : Hp} {Q : VK} {E : XK}
    (h : pr__law_pairs K a x0 x1 H Q E) : t__law_pairs K a { nx := fun _ H' => Q .non H', rt := Q } [some x0, some x1, none] H := by
  obtain ⟨c, n, rfl, rfl, hn, q⟩ := h
  unfold t__law_pairs
  walk_at "rd"
  refine k_lcRN (fun i y H' => ItR [((i : Nat) : Int) / 3, (c + 31 * (i : Nat)) % 65521] y H') (fun i y H H' tk h => h.tk tk) (by omega) (fun _ => rfl) (fun i H2 hi s2 Q2 hQ => ?_) fun D H2 ys hD s2 hD2 hl hys => ?_
  · show tTup _ [some (.int c), some (.int (n : Nat)), some (.int (i : Nat))] H2 Q2
    walk_at "rd"
    refine k_i ⟨by decide, by decide⟩ ?_
    walk_at "rd"
    refine k_i (.inl ⟨by decide, by decide⟩) ?_
    walk_at "rd"
    refine k_i (by decide) ?_
    walk_at "rd"
    refine k_tup (by simp) fun y hy => ?_
    exact hQ _ _ (same_new hy) ⟨y, rfl, upd_same⟩
  · refine q D ys _ H2 hD s2 hD2 (its_map (α := Nat) hl hys) (by rw [List.length_map, List.length_range]) fun us hus => ?_
    obtain ⟨i, hi, rfl⟩ := List.mem_map.mp hus
    rw [List.mem_range] at hi
    exact ⟨_, _, rfl, by omega, by omega⟩
theorem RwR.of {L L' : Lb} {H H' : Hp} {k g : Nat} {r : Row} {v : V} (h : RwR L H k g r v) (e : ∀ x l, L x = some l → L' x = some l) (f : ∀ x j o, L x = some (k, j, g) → 1 ≤ j → H x = some o → H' x = some o) (tk : TK H H') : RwR L' H' k g r v := by
  obtain ⟨w, x, y, z, rfl, lw, hw, h1, h2, h3⟩ := h
  exact ⟨w, x, y, z, rfl, e _ _ lw, f _ _ _ lw (by omega) hw, h1.of e (fun x o hl hx => f _ _ _ hl (by omega) hx) tk, h2.of e (fun x o hl hx => f _ _ _ hl (by omega) hx) tk, h3.of e (fun x o hl hx => f _ _ _ hl (by omega) hx) tk⟩
theorem RwA.keep {S : Nat → Prop} {L L' : Lb} {k : Nat} {H H' : Hp} {s : Addr} {M : Map} (h : RwA L k H s M) (st : Stp S H L H' L') (hk : ¬ S k) : RwA L' k H' s M := by
  obtain ⟨kvs, ls, hs, dm⟩ := h
  exact ⟨kvs, st.ext _ _ ls, st.lbl ls hk hs, dm.mono fun g r v _ z => z.of st.ext (fun x j o hl _ hx => st.lbl hl hk hx) (.of_stp st)⟩
theorem RwA.same {L : Lb} {k : Nat} {H H' : Hp} {s : Addr} {M : Map} (h : RwA L k H s M) (hL : Lab H L) (sm : Same H H') : RwA L k H' s M := h.keep (Stp.of_same (S := fun _ => False) hL sm) id
theorem Side.same {a : Ad} {L : Lb} {kp kr : Nat} {H H' : Hp} {p s : Addr} {M : Map} (h : Side a L kp kr H p s M) (hL : Lab H L) (sm : Same H H') : Side a L kp kr H' p s M := ⟨h.sw.same sm, h.rw_.same hL sm, h.ne⟩
theorem Side.keep {a : Ad} {S : Nat → Prop} {L L' : Lb} {kp kr : Nat} {H H' : Hp} {p s : Addr} {M : Map} (h : Side a L kp kr H p s M) (st : Stp S H L H' L') (h1 : ¬ S kp) (h2 : ¬ S kr) : Side a L' kp kr H' p s M := ⟨h.sw.keep st h1, h.rw_.keep st h2, h.ne⟩
theorem pure__law_began {K : PySem.W.Frag} {a : Ad} (C : Cl K a) {x0 x1 x2 x3 x4 : V} {H : Hp} {Q : VK} {E : XK}
    (h : pr__law_began K a x0 x1 x2 x3 x4 H Q E) : t__law_began K a { nx := fun _ H' => Q .non H', rt := Q } [some x0, some x1, some x2, some x3, some x4, none, none, none, none, none, none, none] H := by
  obtain ⟨p, gl, nl, G, sh, ns, full, L, kp, kr, rfl, rfl, rfl, rfl, rfl, hL, sw, lgl, hgl, nd, g6, lnl, hnl, h18, hfull, ne, q⟩ := h
  unfold t__law_began
  walk_at "rd"
  refine r_dnewK fun s hs => ?_
  walk_at "rd"
  have lng : (intL G).length = G.length := by unfold intL; rw [List.length_map]
  have hG6 : G.length ≤ 6 := by
    have := List.Nodup.length_le_of_subset nd (fun g hg => List.mem_range.mpr (g6 g hg))
    rwa [List.length_range] at this
  rw [lng]
  have st1 : Stp (Two kp kr) H L (upd H s (HO.dK [])) (updL L s (kr, 0, 0)) := Stp.allocL hL hs
  refine k_rng1 (by omega) (fun k σ' H' => ∃ u6 u7 u8 u9 u10 L' M, σ' = [some (.ref p), some (.ref gl), some (.int sh), some (.ref nl), some (.int (full : Nat)), some (.ref s), u6, u7, u8, u9, u10, none] ∧ Stp (Two kp kr) H L H' L' ∧ Side a L' kp kr H' p s M ∧ Inv M 2 133 133 ∧
      (∀ g, (∃ r, M g = some r) ↔ g ∈ G.take k) ∧ ∀ g r, G[0]? = some g → M g = some r → r.ml.length = full)
    ⟨_, _, _, _, _, _, fun _ => none, rfl, st1, ⟨sw.of st1.ext (fun x l o hl _ hx => by rw [upd_ne (hL.ne hl hs)]; exact hx) (.of_stp st1), ⟨[], updL_same, upd_same, DM.nil⟩, ne⟩, ⟨fun _ _ z => by cases z⟩, fun g => by simp, fun _ _ _ z => by cases z⟩ ?_ ?_
  · rintro k σ' H1 hk ⟨u6, u7, u8, u9, u10, L1, M, rfl, st, sd, iv, hd, hf⟩
    have lg1 := st.nolab lgl hgl
    have hg1 := st.unl lgl hgl
    have hn1 := st.unl lnl hnl
    have hgk : G[k]? = some G[k] := List.getElem?_eq_getElem hk
    generalize G[k] = g at hgk
    have hgm : g ∈ G := List.mem_of_getElem? hgk
    have ang : atI (intL G) (k : Nat) = some (V.int (g : Nat)) := atI_nat (by unfold intL; rw [List.getElem?_map, hgk]; rfl)
    have ix : ∀ j : Int, 0 ≤ j → j < 18 → ∃ u, atI (intsL ns) j = some (.int u) := fun j h0 h1 => by
      obtain ⟨u, _, e⟩ := at_ints (ns := ns) h0 (by omega)
      exact ⟨u, e⟩
    obtain ⟨v0, e0⟩ := ix (3 * (k : Nat)) (by omega) (by omega)
    obtain ⟨v1, e1⟩ := ix (3 * (k : Nat) + 1) (by omega) (by omega)
    obtain ⟨v2, e2⟩ := ix (3 * (k : Nat) + 2) (by omega) (by omega)
    obtain ⟨v3, e3⟩ := ix 0 (by omega) (by omega)
    walk_at "rd"
    refine k_i (.inl ⟨by decide, by decide⟩) ?_
    walk_at "rd"
    refine k_ixL (.inl (.inl hn1)) e0 ?_
    walk_at "rd"
    refine k_i (by decide) ?_
    walk_at "rd"
    refine k_i (.inl ⟨by decide, by decide⟩) ?_
    walk_at "rd"
    refine k_ixL (.inl (.inl hn1)) e0 ?_
    walk_at "rd"
    refine k_i (by decide) ?_
    walk_at "rd"
    refine k_lst (by simp) fun l1 hl1 => ?_
    have s11 := same_new (o := HO.lst [V.int (v0 % 401), V.int 400, V.int (v0 % 4)]) hl1
    have hn2 := s11 _ _ hn1
    walk_at "rd"
    refine k_i (.inl ⟨by decide, by decide⟩) ?_
    walk_at "rd"
    refine k_ixL (.inl (.inl hn2)) e0 ?_
    walk_at "rd"
    refine k_i (by decide) ?_
    walk_at "rd"
    obtain ⟨m, hmm, em⟩ := at_ints (ns := [v0 % 401, 400, v0 % 4]) (j := v0 % 3) (by omega) (by simp; omega)
    refine k_ixL (.inl (.inl upd_same)) em ?_
    obtain ⟨m, rfl, hm⟩ : ∃ n : Nat, m = n ∧ n ≤ 400 := by
      simp only [List.mem_cons, List.not_mem_nil, or_false] at hmm
      exact ⟨m.toNat, by omega, by omega⟩
    walk_at "rd"
    refine k_i (.inl ⟨by decide, by decide⟩) ?_
    walk_at "rd"
    refine k_ixL (.inl (.inl hn2)) e1 ?_
    walk_at "rd"
    refine k_i (by decide) ?_
    walk_at "rd"
    refine k_lst (by simp) fun l2 hl2 => ?_
    have s12 := s11.trans (same_new (o := HO.lst [V.int (v1 % 401), V.int 0, V.int 399, V.int 400]) hl2)
    have hn3 := s12 _ _ hn1
    walk_at "rd"
    refine k_i (.inl ⟨by decide, by decide⟩) ?_
    walk_at "rd"
    refine k_ixL (.inl (.inl hn3)) e1 ?_
    walk_at "rd"
    refine k_i (by decide) ?_
    walk_at "rd"
    obtain ⟨ml, hmm, em⟩ := at_ints (ns := [v1 % 401, 0, 399, 400]) (j := v1 % 4) (by omega) (by simp; omega)
    refine k_ixL (.inl (.inl upd_same)) em ?_
    obtain ⟨ml, rfl, hml⟩ : ∃ n : Nat, ml = n ∧ n ≤ 400 := by
      simp only [List.mem_cons, List.not_mem_nil, or_false] at hmm
      exact ⟨ml.toNat, by omega, by omega⟩
    generalize upd (upd H1 l1 (HO.lst [V.int (v0 % 401), V.int 400, V.int (v0 % 4)])) l2 (HO.lst [V.int (v1 % 401), V.int 0, V.int 399, V.int 400]) = H2 at *
    walk_at "rd"
    refine r_cut (fun σ' H' => ∃ m ml : Nat, σ' = [some (.ref p), some (.ref gl), some (.int sh), some (.ref nl), some (.int (full : Nat)), some (.ref s), some (.int (k : Nat)), some (.int (m : Nat)), some (.int (ml : Nat)), u9, u10, none] ∧ H2 = H' ∧ m ≤ 400 ∧ ml ≤ 400 ∧ (k = 0 → ml = full)) ?_ ?_
    · walk_at "rd"
      refine kif_d (fun hk0 => ?_) fun hk0 => ?_
      · walk_at "rd"
        refine k_ixL (.inl (.inl hn3)) e3 ?_
        walk_at "rd"
        refine k_i (by decide) ?_
        obtain ⟨m, hm3, hm4⟩ : ∃ n : Nat, v3 % 400 = n ∧ n ≤ 400 := ⟨(v3 % 400).toNat, by omega, by omega⟩
        rw [hm3]
        exact ⟨m, full, rfl, rfl, hm4, hfull, fun _ => rfl⟩
      · walk_at "rd"
        exact ⟨m, ml, rfl, rfl, hm, hml, fun z => absurd (by rw [z]; rfl) hk0⟩
    · rintro σ' H' ⟨m, ml, rfl, rfl, hm, hml, h0⟩
      walk_at "rd"
      refine k_i (.inl ⟨by decide, by decide⟩) ?_
      walk_at "rd"
      refine k_ixL (.inl (.inl hn3)) e2 ?_
      walk_at "rd"
      refine k_i (by decide) ?_
      obtain ⟨n9, hn9, hn92⟩ : ∃ n : Nat, v2 % 3 = n ∧ n ≤ 2 := ⟨(v2 % 3).toNat, by omega, by omega⟩
      rw [hn9]
      walk_at "rd"
      refine k_lcRN (fun i y H' => ItR [((i : Nat) : Int), 7 - (i : Nat), 9 + (i : Nat)] y H') (fun i y H H' tk h => h.tk tk) (by omega) (fun _ => rfl) (fun i H3 hi s3 Q2 hQ => ?_) fun D9 H3 vs9 hD9 s23 hD9' hl9 hy9 => ?_
      · show tTup _ [some (.ref p), some (.ref gl), some (.int sh), some (.ref nl), some (.int (full : Nat)), some (.ref s), some (.int (k : Nat)), some (.int (m : Nat)), some (.int (ml : Nat)), u9, u10, some (.int (i : Nat))] H3 Q2
        walk_at "rd"
        refine k_tup (by simp) fun y hy => ?_
        exact hQ _ _ (same_new hy) ⟨y, rfl, upd_same⟩
      have its9 := its_map (α := Nat) hl9 hy9
      generalize he9 : (List.range n9).map (fun i => [((i : Nat) : Int), 7 - (i : Nat), 9 + (i : Nat)]) = us9 at its9
      have l9 : us9.length = n9 := by rw [← he9, List.length_map, List.length_range]
      have h93 : ∀ us ∈ us9, us.length = 3 := fun us hu => by
        rw [← he9] at hu
        obtain ⟨i, _, rfl⟩ := List.mem_map.mp hu
        rfl
      walk_at "rd"
      refine sp2_i ⟨_, m, rfl, rfl, hm, fun D1 vs1 us1 H4 hD1 s34 hD1' its1 l1 pr1 => ?_⟩
      walk_at "rd"
      refine k_i (.inl ⟨by decide, by decide⟩) ?_
      walk_at "rd"
      refine sp2_i ⟨_, ml, rfl, rfl, hml, fun D2 vs2 us2 H5 hD2 s45 hD2' its2 l2 pr2 => ?_⟩
      walk_at "rd"
      refine k_lst (by simp) fun W hW => ?_
      obtain ⟨kvs, ls, hsd, dm⟩ := sd.rw_
      have s13 := s12.trans s23
      have s14 := s13.trans s34
      have s15 := s14.trans s45
      have s56 := same_new (o := HO.lst [V.ref D1, V.ref D2, V.ref D9]) hW
      have hW' : upd H5 W (HO.lst [V.ref D1, V.ref D2, V.ref D9]) W = some (.lst [.ref D1, .ref D2, .ref D9]) := upd_same
      generalize upd H5 W (HO.lst [V.ref D1, V.ref D2, V.ref D9]) = H6 at *
      have s16 := s15.trans s56
      have hg6' := s16 _ _ hg1
      have hs6 := s16 _ _ hsd
      walk_at "rd"
      refine k_ixL (.inl (.inl hg6')) ang ?_
      walk_at "rd"
      have := dm.len
      refine k_dputI hs6 (by omega) ?_
      have fW : H1 W = none := s15.free hW
      have f1 : H1 D1 = none := s13.free hD1
      have f2 : H1 D2 = none := s14.free hD2
      have f9 : H1 D9 = none := s12.free hD9
      have n91 : D9 ≠ D1 := ne_of_none hD9' hD1
      have n92 : D9 ≠ D2 := ne_of_none (s34 _ _ hD9') hD2
      have n12 : D1 ≠ D2 := ne_of_none hD1' hD2
      have n9W : D9 ≠ W := ne_of_none (s45 _ _ (s34 _ _ hD9')) hW
      have n1W : D1 ≠ W := ne_of_none (s45 _ _ hD1') hW
      have n2W : D2 ≠ W := ne_of_none hD2' hW
      have q9 := s56 _ _ (s45 _ _ (s34 _ _ hD9'))
      have q1 := s56 _ _ (s45 _ _ hD1')
      have q2 := s56 _ _ hD2'
      have b0 := st.lab
      have stA := (Stp.of_same (S := Two kp kr) b0 s16).relabel (l := (kr, 1, g)) fW (b0.none fW) hW'
      have stB := stA.relabel (l := (kr, 2, g)) f1 (by rw [updL_ne n1W]; exact b0.none f1) q1
      have stC := stB.relabel (l := (kr, 3, g)) f2 (by rw [updL_ne n12.symm, updL_ne n2W]; exact b0.none f2) q2
      have stD := stC.relabel (l := (kr, 4, g)) f9 (by rw [updL_ne n92, updL_ne n91, updL_ne n9W]; exact b0.none f9) q9
      have lW : updL (updL (updL (updL L1 W (kr, 1, g)) D1 (kr, 2, g)) D2 (kr, 3, g)) D9 (kr, 4, g) W = some (kr, 1, g) := by rw [updL_ne n9W.symm, updL_ne n2W.symm, updL_ne n1W.symm, updL_same]
      have lD1 : updL (updL (updL (updL L1 W (kr, 1, g)) D1 (kr, 2, g)) D2 (kr, 3, g)) D9 (kr, 4, g) D1 = some (kr, 2, g) := by rw [updL_ne n91.symm, updL_ne n12, updL_same]
      have lD2 : updL (updL (updL (updL L1 W (kr, 1, g)) D1 (kr, 2, g)) D2 (kr, 3, g)) D9 (kr, 4, g) D2 = some (kr, 3, g) := by rw [updL_ne n92.symm, updL_same]
      have lD9 : updL (updL (updL (updL L1 W (kr, 1, g)) D1 (kr, 2, g)) D2 (kr, 3, g)) D9 (kr, 4, g) D9 = some (kr, 4, g) := updL_same
      generalize updL (updL (updL (updL L1 W (kr, 1, g)) D1 (kr, 2, g)) D2 (kr, 3, g)) D9 (kr, 4, g) = L6 at *
      have ls6 := stD.ext _ _ ls
      have stE := stD.trans (Stp.write (S := Two kp kr) (o := HO.dK (putK kvs (kN g) (V.ref W))) stD.lab ls6 (.inr rfl) hs6)
      have st16 : Stp (fun _ => False) H1 L1 H6 L1 := .of_same b0 s16
      have hgp : g < 6 := g6 g hgm
      have hMg : M g = none := by
        cases e : M g with
        | none => rfl
        | some r =>
          have := (hd g).mp ⟨r, e⟩
          have nd2 := nd
          rw [← List.take_append_drop k G] at nd2
          exact ((List.nodup_append.mp nd2).2.2 g this g (List.mem_of_getElem? (i := 0) (by rw [List.getElem?_drop]; exact hgk)) rfl).elim
      let r : Row := ⟨us1, us2, us9⟩
      have tkW : TK H6 (upd H6 s (HO.dK (putK kvs (kN g) (V.ref W)))) := .write hs6
      have nW : W ≠ s := lne lW ls6 (by simp)
      have hW7 : upd H6 s (HO.dK (putK kvs (kN g) (V.ref W))) W = some (.lst [.ref D1, .ref D2, .ref D9]) := by rw [upd_ne nW]; exact hW'
      have h17 : upd H6 s (HO.dK (putK kvs (kN g) (V.ref W))) D1 = some (.lst vs1) := by rw [upd_ne (lne lD1 ls6 (by simp))]; exact q1
      have h27 : upd H6 s (HO.dK (putK kvs (kN g) (V.ref W))) D2 = some (.lst vs2) := by rw [upd_ne (lne lD2 ls6 (by simp))]; exact q2
      have h97 : upd H6 s (HO.dK (putK kvs (kN g) (V.ref W))) D9 = some (.lst vs9) := by rw [upd_ne (lne lD9 ls6 (by simp))]; exact q9
      have rw7 : RwA L6 kr (upd H6 s (HO.dK (putK kvs (kN g) (V.ref W)))) s (upM M g r) := by
        refine ⟨_, ls6, upd_same, (dm.mono fun g' r' v' _ z => z.of stE.ext (fun x j o hl h1 hx => ?_) (.of_stp stE)).put hgp ⟨W, .ref D1, .ref D2, .ref D9, rfl, lW, hW7, ⟨D1, vs1, rfl, lD1, h17, its1.tk (.trans (.of_same (s45.trans s56)) tkW)⟩,
          ⟨D2, vs2, rfl, lD2, h27, its2.tk (.trans (.of_same s56) tkW)⟩, ⟨D9, vs9, rfl, lD9, h97, its9.tk (.trans (.of_same ((s34.trans s45).trans s56)) tkW)⟩⟩⟩
        rw [upd_ne (lne (stD.ext _ _ hl) ls6 (by simp; omega))]
        exact s16 _ _ hx
      have sw7 : SwA a L6 kp (upd H6 s (HO.dK (putK kvs (kN g) (V.ref W)))) p M := sd.sw.of stE.ext (fun x l o hl hk hx => by
        rw [upd_ne (lne (stD.ext _ _ hl) ls6 (fun z => ne (by rw [← hk, z])))]; exact s16 _ _ hx) (.of_stp stE)
      have hg7 : upd H6 s (HO.dK (putK kvs (kN g) (V.ref W))) gl = some (.lst (intL G)) := by
        rw [upd_ne (fun z => by rw [z, ls] at lg1; cases lg1)]; exact hg6'
      have hv7 : valV (putK kvs (kN g) (V.ref W)) (kN g) = some (.ref W) := by rw [valV_put, if_pos rfl]
      have hs7 : upd H6 s (HO.dK (putK kvs (kN g) (V.ref W))) s = some (.dK (putK kvs (kN g) (V.ref W))) := upd_same
      have its17 := its1.tk (.trans (.of_same (s45.trans s56)) tkW)
      have its27 := its2.tk (.trans (.of_same s56) tkW)
      have its97 := its9.tk (.trans (.of_same ((s34.trans s45).trans s56)) tkW)
      generalize upd H6 s (HO.dK (putK kvs (kN g) (V.ref W))) = H7 at *
      walk_at "rd"
      refine k_ixL (.inl (.inl hg7)) ang ?_
      walk_at "rd"
      refine k_dgetI hs7 hv7 ?_
      obtain ⟨t0, m0, q0, kt0, km0, kq0, D0⟩ := id sw7
      obtain ⟨dx, ob⟩ := D0.ob
      walk_at "rd"
      refine k_ixL (.inl (.inl hg7)) ang ?_
      walk_at "rd"
      refine k_ixL (.inl (.inl hW7)) at0 ?_
      walk_at "rd"
      refine k_tupL (.inl (.inl h17)) fun T1 hT1 => ?_
      have sT1 := same_new (o := HO.tup vs1) hT1
      have hW8 := sT1 _ _ hW7
      have h28 := sT1 _ _ h27
      have h98 := sT1 _ _ h97
      walk_at "rd"
      refine k_ixL (.inl (.inl hW8)) at1 ?_
      walk_at "rd"
      refine k_tupL (.inl (.inl h28)) fun T2 hT2 => ?_
      have sT2 := same_new (o := HO.tup vs2) hT2
      have hW9 := sT2 _ _ hW8
      have h99 := sT2 _ _ h98
      walk_at "rd"
      refine k_ixL (.inl (.inl hW9)) at2 ?_
      walk_at "rd"
      refine k_tupL (.inl (.inl h99)) fun T3 hT3 => ?_
      have sT3 := same_new (o := HO.tup vs9) hT3
      have sT := (sT1.trans sT2).trans sT3
      have tp1 := (sT2.trans sT3) _ _ (show upd H7 T1 (HO.tup vs1) T1 = some (.tup vs1) from upd_same)
      have tp2 := sT3 _ _ (show upd (upd H7 T1 (HO.tup vs1)) T2 (HO.tup vs2) T2 = some (.tup vs2) from upd_same)
      have tp3 : upd (upd (upd H7 T1 (HO.tup vs1)) T2 (HO.tup vs2)) T3 (HO.tup vs9) T3 = some (.tup vs9) := upd_same
      generalize upd (upd (upd H7 T1 (HO.tup vs1)) T2 (HO.tup vs2)) T3 (HO.tup vs9) = H8 at *
      walk_at "rd"
      have tk8 : TK H7 H8 := .of_same sT
      refine sp5_i ⟨p, g, L6, kp, M, r, rfl, rfl, ⟨T1, vs1, rfl, tp1, its17.tk tk8⟩, ⟨T2, vs2, rfl, tp2, its27.tk tk8⟩, ⟨T3, vs9, rfl, tp3, its97.tk tk8⟩, stE.lab.same sT, sw7.same sT, hMg, hgp, fun H9 L9 st9 sw9 => ?_⟩
      walk_at "rd"
      refine sp2_i ⟨.none, trivial, .non, .non, ?_⟩
      walk_at "rd"
      refine kif_f ?_
      walk_at "rd"
      have rw9 := (rw7.same stE.lab sT).keep st9 (fun z => ne z.symm)
      have st19 : Stp (Two kp kr) H1 L1 H9 L9 := (stE.trans (.of_same stE.lab sT)).trans (st9.mono fun _ z => .inl z)
      have tk1 : G.take (k + 1) = G.take k ++ [g] := by rw [List.take_succ, hgk]; rfl
      refine ⟨_, _, _, _, _, L9, upM M g r, rfl, st.trans st19, ⟨sw9, rw9, ne⟩, ⟨fun j r' e => ?_⟩, fun j => ?_, fun j r' e0 e => ?_⟩
      · by_cases hj : j = g
        · subst hj
          rw [upM_same] at e; cases e
          exact ⟨by show us1.length ≤ _; omega, by show us2.length ≤ _; omega, by show us9.length ≤ _; omega, pr1, pr2, h93⟩
        · rw [upM_ne hj] at e; exact iv.g j r' e
      · rw [tk1, List.mem_append, List.mem_singleton]
        by_cases hj : j = g
        · subst hj; rw [upM_same]; exact ⟨fun _ => .inr rfl, fun _ => ⟨r, rfl⟩⟩
        · rw [upM_ne hj, hd j]; exact ⟨.inl, fun z => z.elim id fun w => (hj w).elim⟩
      · by_cases hj : j = g
        · subst hj
          rw [upM_same] at e; cases e
          have hk0 : k = 0 := nodup_ix nd hgk e0
          show us2.length = full
          rw [l2]; exact h0 hk0
        · rw [upM_ne hj] at e; exact hf j r' e0 e
  · rintro σ' H1 ⟨u6, u7, u8, u9, u10, L1, M, rfl, st, sd, iv, hd, hf⟩
    walk_at "rd"
    exact q s M H1 L1 st sd iv (fun g => by rw [hd g, List.take_of_length_le (Nat.le_refl _)]) hf
end K74

namespace K74
open PySem L2 Lh
local macro_rules | `(tactic| walk_at "ne") => `(tactic| first | assumption | exact Ne.symm (by assumption) | ((with_reducible refine' lne ?h1 ?h2 ?h3); (case h1 => assumption); (case h2 => assumption); (case h3 => simp)) | ((with_reducible refine' nn ?h1 ?h2); (case h1 => assumption); (case h2 => walk_at "hp")) | (apply Ne.symm; (with_reducible refine' nn ?h1 ?h2); (case h1 => assumption); (case h2 => walk_at "hp")))
local macro_rules | `(tactic| walk_at "hp") => `(tactic| first | assumption | exact upd_same | (refine Eq.trans (upd_ne ?hne) ?hrest; (case hne => walk_at "ne"); (case hrest => walk_at "hp")))
local macro_rules | `(tactic| walk_at "sq") => `(tactic| first | assumption | (refine Or.inl (Or.inl ?hsq); (case hsq => walk_at "hp")))
local macro_rules | `(tactic| walk_at "tq") => `(tactic| first | assumption | (refine Or.inl (Or.inl ?hsq); (case hsq => walk_at "hp")))
local macro_rules | `(tactic| walk_at "r1") => `(tactic| first
  | with_reducible refine r_seq ?_ | with_reducible refine r_asg ?_ | with_reducible refine r_sfld ?_ | with_reducible refine r_ret ?_ | with_reducible refine r_retN ?_ | with_reducible refine r_drop ?_
  | with_reducible refine r_next ?_ | with_reducible refine r_ifs ?_ | with_reducible refine r_dput ?_ | with_reducible refine r_asgG ?_ | with_reducible refine r_gsub ?_
  | ((with_reducible refine' r_var ?hv ?_); (case hv => exact rfl)) | with_reducible refine r_c ?_ | with_reducible refine r_op ?_ | with_reducible refine r_un ?_ | with_reducible refine r_fld ?_
  | with_reducible refine r_cb ?_ | with_reducible refine r_tup ?_ | with_reducible refine r_lst ?_ | with_reducible refine r_nil ?_ | with_reducible refine r_cons ?_ | with_reducible refine r_dget ?_
  | with_reducible refine r_din ?_ | with_reducible refine r_dnin ?_ | with_reducible refine r_call ?_ | with_reducible refine r_meth ?_ | with_reducible refine r_methE ?_ | with_reducible refine r_bm ?_ | with_reducible refine r_bm0 ?_
  | with_reducible refine r_test ?_ | with_reducible refine r_tb ?_ | with_reducible refine r_not ?_ | with_reducible refine r_and ?_ | with_reducible refine r_or ?_ | with_reducible refine r_andV ?_ | with_reducible refine r_orV ?_
  | with_reducible refine r_notV ?_ | with_reducible refine r_tif ?_
  | with_reducible refine k_bl ?_ | with_reducible refine k_i0 ?_ | with_reducible refine k_u ?_ | with_reducible refine k_isN ?_ | with_reducible refine k_notN ?_ | with_reducible refine k_int ?_ | with_reducible refine k_abs ?_ | with_reducible refine k_max ?_ | with_reducible refine k_min ?_
  | with_reducible refine k_eq rfl ?_ | with_reducible refine k_ne rfl ?_
  | ((with_reducible refine' k_fld ?hc ?hn ?ho ?hl ?_); (case hc => assumption); (case hn => assumption); (case ho => walk_at "hp"); (case hl => walk_at "lk"))
  | ((with_reducible refine' k_len ?ho ?_); (case ho => walk_at "sq"))
  | ((with_reducible refine' k_lenT ?ho ?_); (case ho => walk_at "tq"))
  | ((with_reducible refine' k_bml ?ho ?_); (case ho => walk_at "hp"))
  | ((with_reducible refine' k_sfld ?hc ?hn ?ho ?hl ?_); (case hc => assumption); (case hn => assumption); (case ho => walk_at "hp"); (case hl => walk_at "ll"))
  | ((with_reducible refine' k_meth ?ho ?hl ?_); (case ho => walk_at "hp"); (case hl => walk_at "nm"))
  | ((with_reducible refine' k_methE ?ho ?hl ?_); (case ho => walk_at "hp"); (case hl => walk_at "nm"))
  | with_reducible refine r_rng1 ?_ | with_reducible refine r_rng2 ?_ | with_reducible refine r_forL ?_ | with_reducible refine r_forT ?_ | with_reducible refine r_enum ?_ | with_reducible refine r_lcL ?_ | with_reducible refine r_lcR1 ?_ | with_reducible refine r_raise ?_ | with_reducible refine r_make ?_
  | ((with_reducible refine' k_dgetS ?ho ?hg ?_); (case ho => walk_at "hp"); (case hg => walk_at "dg"))
  | with_reducible refine r_pcons ?_ | with_reducible refine r_pnil ?_ | with_reducible refine r_xf ?_ | with_reducible refine r_try ?_ | with_reducible refine r_gn ?_ | with_reducible refine r_callS ?_ | with_reducible refine r_ddel ?_ | with_reducible refine r_dpop ?_ | with_reducible refine r_lcT ?_ | with_reducible refine r_tupRev ?_)
local macro_rules | `(tactic| walk_at "rd") => `(tactic| repeat (first | walk_at "r1" | (dsimp only; walk_at "r1")))
local macro_rules | `(tactic| walk_at "fr") => `(tactic| first | assumption | (apply un; assumption) | (apply un; apply un; assumption) | (apply un; apply un; apply un; assumption) | (apply un; apply un; apply un; apply un; assumption) | (apply un; apply un; apply un; apply un; apply un; assumption) | (apply un; apply un; apply un; apply un; apply un; apply un; assumption))
local macro_rules | `(tactic| walk_at "lk") => `(tactic| first | exact lk_Switch_0 | exact lk_Switch_1 | exact lk_Switch_2)
local macro_rules | `(tactic| walk_at "ll") => `(tactic| first | (rw [ln_Switch]; decide) | with_reducible exact lt0 | with_reducible exact lt1 | with_reducible exact lt2 | with_reducible exact lt3 | with_reducible exact lt4)
local macro_rules | `(tactic| walk_at "nm") => `(tactic| first | exact nm_Switch_join | exact nm_Switch_leave | exact nm_Switch_guests | exact nm_Switch_feed | exact nm_Switch_post | exact nm_Switch_tape | exact nm_Switch_mail | exact nm_Switch_posted | exact nm_Switch_frozen | exact nm_Switch__check)
local macro_rules | `(tactic| walk_at "cl") => `(tactic| (have c1 := Cl.cl_Switch (by assumption); have n1 := Cl.na_Switch__tapes (by assumption); have n2 := Cl.na_Switch__mails (by assumption); have n3 := Cl.na_Switch__posts (by assumption)))
theorem RwAt.tp {L : Lb} {k : Nat} {H : Hp} {s : Addr} {M : Map} {kvs : List (Key × V)} (h : RwAt L k H s M kvs) {g : Nat} {r : Row} (hM : M g = some r) :
    ∃ (w l : Addr) (y0 z0 : V) (vs : List V), valV kvs (kN g) = some (.ref w) ∧ L w = some (k, 1, g) ∧ H w = some (.lst [.ref l, y0, z0]) ∧ L l = some (k, 2, g) ∧ H l = some (.lst vs) ∧ Its H vs r.tp ∧
      ∀ H1 y us, Lab H L → Same H H1 → ItR us y H1 → RwAt L k (upd H1 l (HO.lst (vs ++ [y]))) s (upM M g { r with tp := r.tp ++ [us] }) kvs ∧ Stp (· = k) H L (upd H1 l (HO.lst (vs ++ [y]))) L := by
  obtain ⟨v, e, w, x0, y0, z0, rfl, lw, hw, z1, z2, z3⟩ := h.dm.val g r hM
  obtain ⟨l, vs, rfl, ll, hl, its⟩ := id z1
  refine ⟨w, l, y0, z0, vs, e, lw, hw, ll, hl, its, fun H1 y us hL s1 hy => ?_⟩
  have hl1 := s1 _ _ hl
  have st1 : Stp (· = k) H L H1 L := .of_same hL s1
  have st2 := st1.trans (Stp.write (S := (· = k)) (o := HO.lst (vs ++ [y])) st1.lab ll rfl hl1)
  have tk := TK.of_stp st2
  have tk2 : TK H1 (upd H1 l (HO.lst (vs ++ [y]))) := .write hl1
  have e1 : ∀ x lb, L x = some lb → L x = some lb := fun _ _ z => z
  have pt : ∀ (x : Addr) {lb : Lbl} (o : HO), L x = some lb → lb ≠ (k, 2, g) → H x = some o → upd H1 l (HO.lst (vs ++ [y])) x = some o := fun x lb o hx hne hxo => by
    rw [upd_ne (lne hx ll hne)]; exact s1 _ _ hxo
  refine ⟨⟨h.ls, pt _ _ h.ls (by simp) h.hs, ?_⟩, st2⟩
  refine ⟨(h.dm.chg hM (R' := fun _ _ _ => True) (fun _ _ => trivial) (fun _ _ _ _ _ _ => trivial)).ks, (h.dm.chg hM (R' := fun _ _ _ => True) (fun _ _ => trivial) (fun _ _ _ _ _ _ => trivial)).bd, fun j r' ej => ?_⟩
  by_cases hj : j = g
  · subst hj
    rw [upM_same] at ej; cases ej
    exact ⟨.ref w, e, w, .ref l, y0, z0, rfl, lw, pt _ _ lw (by simp) hw, ⟨l, vs ++ [y], rfl, ll, upd_same, (its.tk tk).snoc (hy.tk tk2)⟩, z2.of e1 (fun x o hl hx => pt _ _ hl (by simp) hx) tk, z3.of e1 (fun x o hl hx => pt _ _ hl (by simp) hx) tk⟩
  · rw [upM_ne hj] at ej
    obtain ⟨v, e2, z⟩ := h.dm.val j r' ej
    exact ⟨v, e2, z.of e1 (fun x i o hx h1 hxo => pt _ _ hx (by simp [hj]) hxo) tk⟩
theorem RwAt.ml {L : Lb} {k : Nat} {H : Hp} {s : Addr} {M : Map} {kvs : List (Key × V)} (h : RwAt L k H s M kvs) {g : Nat} {r : Row} (hM : M g = some r) :
    ∃ (w l : Addr) (x0 z0 : V) (vs : List V), valV kvs (kN g) = some (.ref w) ∧ L w = some (k, 1, g) ∧ H w = some (.lst [x0, .ref l, z0]) ∧ L l = some (k, 3, g) ∧ H l = some (.lst vs) ∧ Its H vs r.ml ∧
      ∀ H1 y us, Lab H L → Same H H1 → ItR us y H1 → RwAt L k (upd H1 l (HO.lst (vs ++ [y]))) s (upM M g { r with ml := r.ml ++ [us] }) kvs ∧ Stp (· = k) H L (upd H1 l (HO.lst (vs ++ [y]))) L := by
  obtain ⟨v, e, w, x0, y0, z0, rfl, lw, hw, z1, z2, z3⟩ := h.dm.val g r hM
  obtain ⟨l, vs, rfl, ll, hl, its⟩ := id z2
  refine ⟨w, l, x0, z0, vs, e, lw, hw, ll, hl, its, fun H1 y us hL s1 hy => ?_⟩
  have hl1 := s1 _ _ hl
  have st1 : Stp (· = k) H L H1 L := .of_same hL s1
  have st2 := st1.trans (Stp.write (S := (· = k)) (o := HO.lst (vs ++ [y])) st1.lab ll rfl hl1)
  have tk := TK.of_stp st2
  have tk2 : TK H1 (upd H1 l (HO.lst (vs ++ [y]))) := .write hl1
  have e1 : ∀ x lb, L x = some lb → L x = some lb := fun _ _ z => z
  have pt : ∀ (x : Addr) {lb : Lbl} (o : HO), L x = some lb → lb ≠ (k, 3, g) → H x = some o → upd H1 l (HO.lst (vs ++ [y])) x = some o := fun x lb o hx hne hxo => by
    rw [upd_ne (lne hx ll hne)]; exact s1 _ _ hxo
  refine ⟨⟨h.ls, pt _ _ h.ls (by simp) h.hs, ?_⟩, st2⟩
  refine ⟨(h.dm.chg hM (R' := fun _ _ _ => True) (fun _ _ => trivial) (fun _ _ _ _ _ _ => trivial)).ks, (h.dm.chg hM (R' := fun _ _ _ => True) (fun _ _ => trivial) (fun _ _ _ _ _ _ => trivial)).bd, fun j r' ej => ?_⟩
  by_cases hj : j = g
  · subst hj
    rw [upM_same] at ej; cases ej
    exact ⟨.ref w, e, w, x0, .ref l, z0, rfl, lw, pt _ _ lw (by simp) hw, z1.of e1 (fun x o hl hx => pt _ _ hl (by simp) hx) tk, ⟨l, vs ++ [y], rfl, ll, upd_same, (its.tk tk).snoc (hy.tk tk2)⟩, z3.of e1 (fun x o hl hx => pt _ _ hl (by simp) hx) tk⟩
  · rw [upM_ne hj] at ej
    obtain ⟨v, e2, z⟩ := h.dm.val j r' ej
    exact ⟨v, e2, z.of e1 (fun x i o hx h1 hxo => pt _ _ hx (by simp [hj]) hxo) tk⟩
theorem RwAt.ps {L : Lb} {k : Nat} {H : Hp} {s : Addr} {M : Map} {kvs : List (Key × V)} (h : RwAt L k H s M kvs) {g : Nat} {r : Row} (hM : M g = some r) :
    ∃ (w l : Addr) (x0 y0 : V) (vs : List V), valV kvs (kN g) = some (.ref w) ∧ L w = some (k, 1, g) ∧ H w = some (.lst [x0, y0, .ref l]) ∧ L l = some (k, 4, g) ∧ H l = some (.lst vs) ∧ Its H vs r.ps ∧
      ∀ H1 y us, Lab H L → Same H H1 → ItR us y H1 → RwAt L k (upd H1 l (HO.lst (vs ++ [y]))) s (upM M g { r with ps := r.ps ++ [us] }) kvs ∧ Stp (· = k) H L (upd H1 l (HO.lst (vs ++ [y]))) L := by
  obtain ⟨v, e, w, x0, y0, z0, rfl, lw, hw, z1, z2, z3⟩ := h.dm.val g r hM
  obtain ⟨l, vs, rfl, ll, hl, its⟩ := id z3
  refine ⟨w, l, x0, y0, vs, e, lw, hw, ll, hl, its, fun H1 y us hL s1 hy => ?_⟩
  have hl1 := s1 _ _ hl
  have st1 : Stp (· = k) H L H1 L := .of_same hL s1
  have st2 := st1.trans (Stp.write (S := (· = k)) (o := HO.lst (vs ++ [y])) st1.lab ll rfl hl1)
  have tk := TK.of_stp st2
  have tk2 : TK H1 (upd H1 l (HO.lst (vs ++ [y]))) := .write hl1
  have e1 : ∀ x lb, L x = some lb → L x = some lb := fun _ _ z => z
  have pt : ∀ (x : Addr) {lb : Lbl} (o : HO), L x = some lb → lb ≠ (k, 4, g) → H x = some o → upd H1 l (HO.lst (vs ++ [y])) x = some o := fun x lb o hx hne hxo => by
    rw [upd_ne (lne hx ll hne)]; exact s1 _ _ hxo
  refine ⟨⟨h.ls, pt _ _ h.ls (by simp) h.hs, ?_⟩, st2⟩
  refine ⟨(h.dm.chg hM (R' := fun _ _ _ => True) (fun _ _ => trivial) (fun _ _ _ _ _ _ => trivial)).ks, (h.dm.chg hM (R' := fun _ _ _ => True) (fun _ _ => trivial) (fun _ _ _ _ _ _ => trivial)).bd, fun j r' ej => ?_⟩
  by_cases hj : j = g
  · subst hj
    rw [upM_same] at ej; cases ej
    exact ⟨.ref w, e, w, x0, y0, .ref l, rfl, lw, pt _ _ lw (by simp) hw, z1.of e1 (fun x o hl hx => pt _ _ hl (by simp) hx) tk, z2.of e1 (fun x o hl hx => pt _ _ hl (by simp) hx) tk, ⟨l, vs ++ [y], rfl, ll, upd_same, (its.tk tk).snoc (hy.tk tk2)⟩⟩
  · rw [upM_ne hj] at ej
    obtain ⟨v, e2, z⟩ := h.dm.val j r' ej
    exact ⟨v, e2, z.of e1 (fun x i o hx h1 hxo => pt _ _ hx (by simp [hj]) hxo) tk⟩
theorem flatD_ints {d : Nat} {us : List Int} (h : us.length ≤ 1000) : flatD (d + 2) (dInts us) := ⟨by rw [List.length_map]; exact h, fun x hx => by
  obtain ⟨_, _, rfl⟩ := List.mem_map.mp hx
  trivial⟩
theorem flatD_row {d : Nat} {uss : List (List Int)} (h : uss.length ≤ 1000) (h2 : ∀ us ∈ uss, us.length ≤ 1000) : flatD (d + 3) (dRow uss) := ⟨by rw [List.length_map]; exact h, fun x hx => by
  obtain ⟨us, hu, rfl⟩ := List.mem_map.mp hx
  exact flatD_ints (h2 us hu)⟩
def dFr (g : Nat) : Option Row → PyData
  | some r => .tuple [.int (g : Nat), dRow r.tp, dRow r.ml, dRow r.ps]
  | none => .int 0
def dFz (M : Map) : PyData := .tuple ((dom 6 M).map fun g => dFr g (M g))
theorem FzR.dp {K : PySem.W.Frag} {H : Hp} {M : Map} {v : V} (h : FzR H M v) : Dp K H v (dFz M) := by
  obtain ⟨t, vs, rfl, ht, hl, hat⟩ := h
  refine .tup (.inl (.inl ht)) (dpall_of (by rw [List.length_map]; exact hl) fun i y d e1 e2 => ?_)
  rw [List.getElem?_map] at e2
  obtain ⟨g, e3, rfl⟩ := Option.map_eq_some_iff.mp e2
  obtain ⟨y', r, e4, hM, q, u, v, w, rfl, hq, h1, h2, h3⟩ := hat i g e3
  rw [e1] at e4; cases e4
  rw [hM]
  exact .tup (.inl (.inl hq)) (.cons (.int _) (.cons h1.dp (.cons h2.dp (.cons h3.dp .nil))))
theorem Prs.two {T : Int} {uss : List (List Int)} (h : Prs T uss) : ∀ us ∈ uss, us.length = 2 := fun us hu => by
  obtain ⟨_, _, rfl, _⟩ := h us hu
  rfl
theorem iD_fz {M : Map} {T A : Int} (iv : Inv M 1000 T A) : iD 4 (dFz M) := by
  refine ⟨by rw [List.length_map]; have := dom_len (n := 6) (M := M); omega, fun x hx => ?_⟩
  obtain ⟨g, hg, rfl⟩ := List.mem_map.mp hx
  obtain ⟨_, r, hM⟩ := mem_dom.mp hg
  obtain ⟨h1, h2, h3, p1, p2, p3⟩ := iv.g g r hM
  rw [hM]
  have r1 : iD 2 (dRow r.tp) := iD_row _ (by omega) fun us hu => by rw [p1.two us hu]; omega
  have r2 : iD 2 (dRow r.ml) := iD_row _ (by omega) fun us hu => by rw [p2.two us hu]; omega
  have r3 : iD 2 (dRow r.ps) := iD_row _ (by omega) fun us hu => by rw [p3 us hu]; omega
  refine ⟨by simp, fun x hx => ?_⟩
  simp only [List.mem_cons, List.not_mem_nil, or_false] at hx
  rcases hx with e | e | e | e <;> subst e
  · trivial
  · exact r1
  · exact r2
  · exact r3
theorem dp_nats {K : PySem.W.Frag} {H : Hp} (O : List Nat) : DpAll K H (intL O) ((O.map fun i => ((i : Nat) : Int)).map .int) := by
  have e : intL O = (O.map fun i => ((i : Nat) : Int)).map .int := by unfold intL; rw [List.map_map]; rfl
  rw [e]; exact dp_ints _
theorem dk_keys {α : Type} {kvs : List (Key × V)} {n : Nat} {M : Nat → Option α} {R : Nat → α → V → Prop} (h : DM kvs n M R) : ∃ gs : List Nat, (kvs.map fun kv => kV kv.1) = (gs.map fun g => ((g : Nat) : Int)).map V.int ∧ gs.Perm (dom n M) := by
  obtain ⟨gs, e, pm⟩ := h.keys
  refine ⟨gs, ?_, pm⟩
  have : (kvs.map fun kv => kV kv.1) = (kvs.map (·.1)).map kV := by rw [List.map_map]; rfl
  rw [this, e, List.map_map, List.map_map]; rfl
theorem pure__law_tells {K : PySem.W.Frag} {a : Ad} (C : Cl K a) {x0 x1 : V} {H : Hp} {Q : VK} {E : XK}
    (h : pr__law_tells K a x0 x1 H Q E) : t__law_tells K a { nx := fun _ H' => Q .non H', rt := Q } [some x0, some x1, none, none, none] H := by
  obtain ⟨p, s, L, kp, kr, M, T, A, rfl, rfl, sd, iv, q⟩ := h
  obtain ⟨kvs, R⟩ := sd.rw_
  obtain ⟨t0, m0, q0, kt0, km0, kq0, D0⟩ := id sd.sw
  obtain ⟨dx, ob⟩ := D0.ob
  obtain ⟨gs, hgs, pm⟩ := dk_keys R.dm
  unfold t__law_tells
  walk_at "rd"
  refine k_lst (by simp) fun F hF => ?_
  walk_at "rd"
  have sF := same_new (o := HO.lst []) hF
  refine ⟨s, kvs, rfl, sF _ _ R.hs, fun l1 hl1 => ?_⟩
  walk_at "rd"
  rw [hgs]
  refine ⟨l1, _, rfl, .inl (.inl upd_same), fun ys l2 pys sys hl2 => ?_⟩
  rw [intL_cast] at hl2
  rw [sorted_dom pm pys sys, intL_cast, intL_cast]
  have s1 : Same H (upd (upd (upd H F (HO.lst [])) l1 (HO.lst (intL gs))) l2 (HO.lst (intL (dom 6 M)))) := (sF.trans (same_new hl1)).trans (same_new hl2)
  have hF1 : upd (upd (upd H F (HO.lst [])) l1 (HO.lst (intL gs))) l2 (HO.lst (intL (dom 6 M))) F = some (.lst []) := same_new hl2 _ _ (same_new hl1 _ _ upd_same)
  have hl2' : upd (upd (upd H F (HO.lst [])) l1 (HO.lst (intL gs))) l2 (HO.lst (intL (dom 6 M))) l2 = some (.lst (intL (dom 6 M))) := upd_same
  have nF : l2 ≠ F := Ne.symm (ne_of_none (same_new hl1 _ _ upd_same) hl2)
  generalize upd (upd (upd H F (HO.lst [])) l1 (HO.lst (intL gs))) l2 (HO.lst (intL (dom 6 M))) = H1 at *
  walk_at "rd"
  have lend : (intL (dom 6 M)).length = (dom 6 M).length := by unfold intL; rw [List.length_map]
  refine k_forL (xs := intL (dom 6 M)) (.inl (.inl hl2')) (fun n σ' H' => (∃ u v, σ' = [some (.ref p), some (.ref s), some (.ref F), u, v]) ∧ Same H H' ∧ H' l2 = some (.lst (intL (dom 6 M))) ∧
      ∃ vsF, H' F = some (.lst vsF) ∧ vsF.length = n ∧ n ≤ (dom 6 M).length ∧ ∀ (i : Nat) g, i < n → (dom 6 M)[i]? = some g → ∃ y r, vsF[i]? = some y ∧ M g = some r ∧ FrR H' g r y)
    ⟨⟨_, _, rfl⟩, s1, hl2', [], hF1, rfl, Nat.zero_le _, fun i g hi => absurd hi (Nat.not_lt_zero _)⟩ (fun n σ' H' _ ⟨_, _, e, _⟩ => .inl (.inl e)) ?_ ?_
  · rintro n x σ' H2 hx ⟨⟨u, v, rfl⟩, s2, hl22, vsF, hF2, hvl, hn, hat⟩
    obtain ⟨g, hg, rfl⟩ : ∃ g, (dom 6 M)[n]? = some g ∧ V.int (g : Nat) = x := by
      unfold intL at hx
      rw [List.getElem?_map] at hx
      exact Option.map_eq_some_iff.mp hx
    obtain ⟨hg6, r, hM⟩ := mem_dom.mp (List.mem_of_getElem? hg)
    obtain ⟨b1, b2, b3, p1, p2, p3⟩ := iv.g g r hM
    obtain ⟨vr, er, w, x0, y0, z0, rfl, lw, hw, ⟨l, vt, rfl, _, hlt, itt⟩, ⟨l', vm, rfl, _, hlm, itm⟩, ⟨l'', vq, rfl, _, hlq, itq⟩⟩ := R.dm.val g r hM
    refine r_gn ?_
    walk_at "rd"
    refine k_dgetI (s2 _ _ R.hs) er ?_
    have ob2 := s2 _ _ ob
    have hw2 := s2 _ _ hw
    walk_at "rd"
    refine sp2_i ⟨p, g, L, kp, M, r, rfl, rfl, sd.sw.same s2, hM, fun v1 hv1 => ?_⟩
    walk_at "rd"
    refine k_ixL (.inl (.inl hw2)) at0 ?_
    walk_at "rd"
    refine k_tupL (.inl (.inl (s2 _ _ hlt))) fun T1 hT1 => ?_
    have sT1 := same_new (o := HO.tup vt) hT1
    walk_at "rd"
    have r1 : iD 2 (dRow r.tp) := iD_row _ (by omega) fun us hu => by rw [p1.two us hu]; omega
    have r2 : iD 2 (dRow r.ml) := iD_row _ (by omega) fun us hu => by rw [p2.two us hu]; omega
    refine k_neD (by decide) r1 (hv1.tk (.of_same sT1)).dp (TpR.dp ⟨T1, vt, rfl, upd_same, itt.tk (.of_same (s2.trans sT1))⟩) ?_
    walk_at "rd"
    refine kif_f ?_
    have s3 := s2.trans sT1
    have hl23 := sT1 _ _ hl22
    have hF3 := sT1 _ _ hF2
    have hat3 : ∀ (i : Nat) g, i < n → (dom 6 M)[i]? = some g → ∃ y r, vsF[i]? = some y ∧ M g = some r ∧ FrR (upd H2 T1 (HO.tup vt)) g r y := fun i g hi e => by
      obtain ⟨y, r, e1, e2, e3⟩ := hat i g hi e
      exact ⟨y, r, e1, e2, e3.tk (.of_same sT1)⟩
    generalize upd H2 T1 (HO.tup vt) = H3 at *
    have ob3 := s3 _ _ ob
    have hw3 := s3 _ _ hw
    walk_at "rd"
    refine sp2_i ⟨p, g, L, kp, M, r, rfl, rfl, sd.sw.same s3, hM, fun v2 hv2 => ?_⟩
    walk_at "rd"
    refine k_ixL (.inl (.inl hw3)) at1 ?_
    walk_at "rd"
    refine k_tupL (.inl (.inl (s3 _ _ hlm))) fun T2 hT2 => ?_
    have sT2 := same_new (o := HO.tup vm) hT2
    walk_at "rd"
    refine k_neD (by decide) r2 (hv2.tk (.of_same sT2)).dp (TpR.dp ⟨T2, vm, rfl, upd_same, itm.tk (.of_same (s3.trans sT2))⟩) ?_
    walk_at "rd"
    refine kif_f ?_
    have s4 := s3.trans sT2
    have hl24 := sT2 _ _ hl23
    have hF4 := sT2 _ _ hF3
    have hat4 : ∀ (i : Nat) g, i < n → (dom 6 M)[i]? = some g → ∃ y r, vsF[i]? = some y ∧ M g = some r ∧ FrR (upd H3 T2 (HO.tup vm)) g r y := fun i g hi e => by
      obtain ⟨y, r, e1, e2, e3⟩ := hat3 i g hi e
      exact ⟨y, r, e1, e2, e3.tk (.of_same sT2)⟩
    generalize upd H3 T2 (HO.tup vm) = H4 at *
    have ob4 := s4 _ _ ob
    have hw4 := s4 _ _ hw
    walk_at "rd"
    refine sp2_i ⟨p, g, L, kp, M, r, rfl, rfl, sd.sw.same s4, hM, fun v3 H5 s45 hv3 => ?_⟩
    have hw5 := s45 _ _ hw4
    walk_at "rd"
    refine k_ixL (.inl (.inl hw5)) at2 ?_
    walk_at "rd"
    refine k_tupL (.inl (.inl (s45 _ _ (s4 _ _ hlq)))) fun T3 hT3 => ?_
    have sT3 := same_new (o := HO.tup vq) hT3
    walk_at "rd"
    refine sp2_i ⟨dRow r.ps, flatD_row (by omega) fun us hu => by rw [p3 us hu]; omega, (hv3.tk (.of_same sT3)).dp, (TpR.dp ⟨T3, vq, rfl, upd_same, itq.tk (.of_same ((s4.trans s45).trans sT3))⟩), ?_⟩
    walk_at "rd"
    refine kif_f ?_
    have s46 := s45.trans sT3
    generalize upd H5 T3 (HO.tup vq) = H6 at *
    have s6 := s4.trans s46
    have hw6 := s6 _ _ hw
    have hF6 := s46 _ _ hF4
    walk_at "rd"
    refine k_ixL (.inl (.inl hw6)) at0 ?_
    walk_at "rd"
    refine k_tupL (.inl (.inl (s6 _ _ hlt))) fun U1 hU1 => ?_
    have sU1 := same_new (o := HO.tup vt) hU1
    walk_at "rd"
    refine k_ixL (.inl (.inl (sU1 _ _ hw6))) at1 ?_
    walk_at "rd"
    refine k_tupL (.inl (.inl (sU1 _ _ (s6 _ _ hlm)))) fun U2 hU2 => ?_
    have sU2 := same_new (o := HO.tup vm) hU2
    walk_at "rd"
    refine k_ixL (.inl (.inl (sU2 _ _ (sU1 _ _ hw6)))) at2 ?_
    walk_at "rd"
    refine k_tupL (.inl (.inl (sU2 _ _ (sU1 _ _ (s6 _ _ hlq))))) fun U3 hU3 => ?_
    have sU3 := same_new (o := HO.tup vq) hU3
    walk_at "rd"
    refine k_tup (by simp) fun U4 hU4 => ?_
    have sU4 := same_new (o := HO.tup [V.int (g : Nat), V.ref U1, V.ref U2, V.ref U3]) hU4
    have u1 := sU4 _ _ (sU3 _ _ (sU2 _ _ (show upd H6 U1 (HO.tup vt) U1 = some (.tup vt) from upd_same)))
    have u2 := sU4 _ _ (sU3 _ _ (show upd (upd H6 U1 (HO.tup vt)) U2 (HO.tup vm) U2 = some (.tup vm) from upd_same))
    have u3 := sU4 _ _ (show upd (upd (upd H6 U1 (HO.tup vt)) U2 (HO.tup vm)) U3 (HO.tup vq) U3 = some (.tup vq) from upd_same)
    have u4 : upd (upd (upd (upd H6 U1 (HO.tup vt)) U2 (HO.tup vm)) U3 (HO.tup vq)) U4 (HO.tup [V.int (g : Nat), V.ref U1, V.ref U2, V.ref U3]) U4 = some (.tup [V.int (g : Nat), V.ref U1, V.ref U2, V.ref U3]) := upd_same
    have s67 := ((sU1.trans sU2).trans sU3).trans sU4
    generalize upd (upd (upd (upd H6 U1 (HO.tup vt)) U2 (HO.tup vm)) U3 (HO.tup vq)) U4 (HO.tup [V.int (g : Nat), V.ref U1, V.ref U2, V.ref U3]) = H7 at *
    have s7 := s6.trans s67
    have hF7 := s67 _ _ hF6
    walk_at "rd"
    refine k_append hF7 (by have := dom_len (n := 6) (M := M); omega) ?_
    have tk7 : TK H7 (upd H7 F (HO.lst (vsF ++ [V.ref U4]))) := .write hF7
    have hnl : n < (dom 6 M).length := (List.getElem?_eq_some_iff.mp hg).1
    refine ⟨⟨_, _, rfl⟩, fun b o e => by rw [upd_ne (ne_of_none e hF)]; exact s7 _ _ e, by rw [upd_ne nF]; exact s67 _ _ (s46 _ _ hl24), _, upd_same, by rw [List.length_append, hvl]; rfl, hnl, fun i j hi hj => ?_⟩
    by_cases hin : i < n
    · obtain ⟨y, r', e1, e2, e3⟩ := hat4 i j hin hj
      exact ⟨y, r', by rw [List.getElem?_append_left (by omega)]; exact e1, e2, e3.tk (.trans (.of_same (s46.trans s67)) tk7)⟩
    · have : i = n := by omega
      subst this
      rw [hg] at hj; cases hj
      refine ⟨.ref U4, r, by rw [← hvl, List.getElem?_concat_length], hM, U4, .ref U1, .ref U2, .ref U3, rfl, tk7 _ _ u4, ⟨U1, vt, rfl, tk7 _ _ u1, itt.tk (.trans (.of_same s7) tk7)⟩, ⟨U2, vm, rfl, tk7 _ _ u2, itm.tk (.trans (.of_same s7) tk7)⟩, ⟨U3, vq, rfl, tk7 _ _ u3, itq.tk (.trans (.of_same s7) tk7)⟩⟩
  · rintro σ' H2 ⟨⟨u, v, rfl⟩, s2, hl22, vsF, hF2, hvl, hn, hat⟩
    have ob2 := s2 _ _ ob
    walk_at "rd"
    refine sp1_i ⟨p, L, kp, M, rfl, sd.sw.same s2, fun q1 H3 s3 hq1 => ?_⟩
    walk_at "rd"
    have s23 := s2.trans s3
    refine ⟨s, kvs, rfl, s23 _ _ R.hs, fun l3 hl3 => ?_⟩
    rw [hgs]
    walk_at "rd"
    refine ⟨l3, _, rfl, .inl (.inl upd_same), fun ys l4 pys sys hl4 => ?_⟩
    rw [intL_cast] at hl4
    rw [sorted_dom pm pys sys, intL_cast, intL_cast]
    walk_at "rd"
    refine k_tupL (.inl (.inl upd_same)) fun T5 hT5 => ?_
    have sL := ((same_new (o := HO.lst (intL gs)) hl3).trans (same_new (o := HO.lst (intL (dom 6 M))) hl4)).trans (same_new (o := HO.tup (intL (dom 6 M))) hT5)
    walk_at "rd"
    have hd6 := dom_len (n := 6) (M := M)
    refine sp2_i ⟨.tuple (((dom 6 M).map fun i => ((i : Nat) : Int)).map .int), ⟨by rw [List.length_map, List.length_map]; omega, fun y hy => ?_⟩, .tup (.inl (.inl (sL _ _ hq1))) (dp_nats _), .tup (.inl (.inl upd_same)) (dp_nats _), ?_⟩
    · obtain ⟨_, _, rfl⟩ := List.mem_map.mp hy
      trivial
    generalize upd (upd (upd H3 l3 (HO.lst (intL gs))) l4 (HO.lst (intL (dom 6 M)))) T5 (HO.tup (intL (dom 6 M))) = H5 at *
    have s5 := s23.trans sL
    walk_at "rd"
    refine kif_f ?_
    have ob5 := s5 _ _ ob
    walk_at "rd"
    refine sp1_i ⟨p, L, kp, M, rfl, sd.sw.same s5, fun v1 H6 s56 hv1 => ?_⟩
    walk_at "rd"
    have hF6 := s56 _ _ (sL _ _ (s3 _ _ hF2))
    refine k_tupL (.inl (.inl hF6)) fun T6 hT6 => ?_
    have sT6 := same_new (o := HO.tup vsF) hT6
    refine k_eqD (by decide) (iD_fz iv) (hv1.tk (.of_same sT6)).dp (FzR.dp (M := M) ⟨T6, vsF, rfl, upd_same, by rw [hvl, lend], fun i g e => ?_⟩) ?_
    · obtain ⟨y, r, e1, e2, e3⟩ := hat i g (by rw [lend]; exact (List.getElem?_eq_some_iff.mp e).1) e
      exact ⟨y, r, e1, e2, e3.tk (.of_same (((s3.trans sL).trans s56).trans sT6))⟩
    · exact q _ ((s5.trans s56).trans sT6)
end K74

namespace K74
open PySem L2 Lh
local macro_rules | `(tactic| walk_at "ne") => `(tactic| first | assumption | exact Ne.symm (by assumption) | ((with_reducible refine' lne ?h1 ?h2 ?h3); (case h1 => assumption); (case h2 => assumption); (case h3 => simp)) | ((with_reducible refine' nn ?h1 ?h2); (case h1 => assumption); (case h2 => walk_at "hp")) | (apply Ne.symm; (with_reducible refine' nn ?h1 ?h2); (case h1 => assumption); (case h2 => walk_at "hp")))
local macro_rules | `(tactic| walk_at "hp") => `(tactic| first | assumption | exact upd_same | (refine Eq.trans (upd_ne ?hne) ?hrest; (case hne => walk_at "ne"); (case hrest => walk_at "hp")))
local macro_rules | `(tactic| walk_at "sq") => `(tactic| first | assumption | (refine Or.inl (Or.inl ?hsq); (case hsq => walk_at "hp")))
local macro_rules | `(tactic| walk_at "tq") => `(tactic| first | assumption | (refine Or.inl (Or.inl ?hsq); (case hsq => walk_at "hp")))
local macro_rules | `(tactic| walk_at "r1") => `(tactic| first
  | with_reducible refine r_seq ?_ | with_reducible refine r_asg ?_ | with_reducible refine r_sfld ?_ | with_reducible refine r_ret ?_ | with_reducible refine r_retN ?_ | with_reducible refine r_drop ?_
  | with_reducible refine r_next ?_ | with_reducible refine r_ifs ?_ | with_reducible refine r_dput ?_ | with_reducible refine r_asgG ?_ | with_reducible refine r_gsub ?_
  | ((with_reducible refine' r_var ?hv ?_); (case hv => exact rfl)) | with_reducible refine r_c ?_ | with_reducible refine r_op ?_ | with_reducible refine r_un ?_ | with_reducible refine r_fld ?_
  | with_reducible refine r_cb ?_ | with_reducible refine r_tup ?_ | with_reducible refine r_lst ?_ | with_reducible refine r_nil ?_ | with_reducible refine r_cons ?_ | with_reducible refine r_dget ?_
  | with_reducible refine r_din ?_ | with_reducible refine r_dnin ?_ | with_reducible refine r_call ?_ | with_reducible refine r_meth ?_ | with_reducible refine r_methE ?_ | with_reducible refine r_bm ?_ | with_reducible refine r_bm0 ?_
  | with_reducible refine r_test ?_ | with_reducible refine r_tb ?_ | with_reducible refine r_not ?_ | with_reducible refine r_and ?_ | with_reducible refine r_or ?_ | with_reducible refine r_andV ?_ | with_reducible refine r_orV ?_
  | with_reducible refine r_notV ?_ | with_reducible refine r_tif ?_
  | with_reducible refine k_bl ?_ | with_reducible refine k_i0 ?_ | with_reducible refine k_u ?_ | with_reducible refine k_isN ?_ | with_reducible refine k_notN ?_ | with_reducible refine k_int ?_ | with_reducible refine k_abs ?_ | with_reducible refine k_max ?_ | with_reducible refine k_min ?_
  | with_reducible refine k_eq rfl ?_ | with_reducible refine k_ne rfl ?_
  | ((with_reducible refine' k_fld ?hc ?hn ?ho ?hl ?_); (case hc => assumption); (case hn => assumption); (case ho => walk_at "hp"); (case hl => walk_at "lk"))
  | ((with_reducible refine' k_len ?ho ?_); (case ho => walk_at "sq"))
  | ((with_reducible refine' k_lenT ?ho ?_); (case ho => walk_at "tq"))
  | ((with_reducible refine' k_bml ?ho ?_); (case ho => walk_at "hp"))
  | ((with_reducible refine' k_sfld ?hc ?hn ?ho ?hl ?_); (case hc => assumption); (case hn => assumption); (case ho => walk_at "hp"); (case hl => walk_at "ll"))
  | ((with_reducible refine' k_meth ?ho ?hl ?_); (case ho => walk_at "hp"); (case hl => walk_at "nm"))
  | ((with_reducible refine' k_methE ?ho ?hl ?_); (case ho => walk_at "hp"); (case hl => walk_at "nm"))
  | with_reducible refine r_rng1 ?_ | with_reducible refine r_rng2 ?_ | with_reducible refine r_forL ?_ | with_reducible refine r_forT ?_ | with_reducible refine r_enum ?_ | with_reducible refine r_lcL ?_ | with_reducible refine r_lcR1 ?_ | with_reducible refine r_raise ?_ | with_reducible refine r_make ?_
  | ((with_reducible refine' k_dgetS ?ho ?hg ?_); (case ho => walk_at "hp"); (case hg => walk_at "dg"))
  | with_reducible refine r_pcons ?_ | with_reducible refine r_pnil ?_ | with_reducible refine r_xf ?_ | with_reducible refine r_try ?_ | with_reducible refine r_gn ?_ | with_reducible refine r_callS ?_ | with_reducible refine r_ddel ?_ | with_reducible refine r_dpop ?_ | with_reducible refine r_lcT ?_ | with_reducible refine r_tupRev ?_)
local macro_rules | `(tactic| walk_at "rd") => `(tactic| repeat (first | walk_at "r1" | (dsimp only; walk_at "r1")))
local macro_rules | `(tactic| walk_at "fr") => `(tactic| first | assumption | (apply un; assumption) | (apply un; apply un; assumption) | (apply un; apply un; apply un; assumption) | (apply un; apply un; apply un; apply un; assumption) | (apply un; apply un; apply un; apply un; apply un; assumption) | (apply un; apply un; apply un; apply un; apply un; apply un; assumption))
local macro_rules | `(tactic| walk_at "lk") => `(tactic| first | exact lk_Switch_0 | exact lk_Switch_1 | exact lk_Switch_2)
local macro_rules | `(tactic| walk_at "ll") => `(tactic| first | (rw [ln_Switch]; decide) | with_reducible exact lt0 | with_reducible exact lt1 | with_reducible exact lt2 | with_reducible exact lt3 | with_reducible exact lt4)
local macro_rules | `(tactic| walk_at "nm") => `(tactic| first | exact nm_Switch_join | exact nm_Switch_leave | exact nm_Switch_guests | exact nm_Switch_feed | exact nm_Switch_post | exact nm_Switch_tape | exact nm_Switch_mail | exact nm_Switch_posted | exact nm_Switch_frozen | exact nm_Switch__check)
local macro_rules | `(tactic| walk_at "cl") => `(tactic| (have c1 := Cl.cl_Switch (by assumption); have n1 := Cl.na_Switch__tapes (by assumption); have n2 := Cl.na_Switch__mails (by assumption); have n3 := Cl.na_Switch__posts (by assumption)))
theorem inv_posted {M : Map} {B : Nat} {T A : Int} (iv : Inv M B T A) {g peer : Nat} {t w : Int} : Inv (postedM M g t peer w) (B + 1) T A := by
  refine ⟨fun j r e => ?_⟩
  unfold postedM at e
  cases eg : M g with
  | none =>
    rw [eg] at e
    obtain ⟨h1, h2, h3, h4⟩ := iv.g j r e
    exact ⟨h1, h2, by omega, h4⟩
  | some r0 =>
    rw [eg] at e
    have e' : upM M g { r0 with ps := r0.ps ++ [[t, (peer : Nat), w]] } j = some r := e
    by_cases hj : j = g
    · subst hj
      rw [upM_same] at e'; cases e'
      obtain ⟨h1, h2, h3, h4, h5, h6⟩ := iv.g j r0 eg
      refine ⟨h1, h2, by show (r0.ps ++ [_]).length ≤ _; rw [List.length_append]; simp; omega, h4, h5, fun us hu => ?_⟩
      rcases List.mem_append.mp hu with z | z
      · exact h6 us z
      · rw [List.mem_singleton] at z; subst z; rfl
    · rw [upM_ne hj] at e'
      obtain ⟨h1, h2, h3, h4⟩ := iv.g j r e'
      exact ⟨h1, h2, by omega, h4⟩
theorem Prs.mono {T T' : Int} {uss : List (List Int)} (h : Prs T uss) (l : T ≤ T') : Prs T' uss := fun us hu => by
  obtain ⟨x, w, e, h0, h1⟩ := h us hu
  exact ⟨x, w, e, h0, by omega⟩
theorem Prs.snoc {T x w : Int} {uss : List (List Int)} (h : Prs T uss) (h0 : 0 ≤ x) (h1 : x ≤ T) : Prs T (uss ++ [[x, w]]) := fun us hu => by
  rcases List.mem_append.mp hu with z | z
  · exact h us z
  · rw [List.mem_singleton] at z; subst z; exact ⟨x, w, rfl, h0, h1⟩
theorem Prs.last {T : Int} {uss : List (List Int)} (h : Prs T uss) : ∀ u, lastS uss = some u → u ≤ T := fun u hu => by
  unfold lastS at hu
  cases e : uss.getLast? with
  | none => rw [e] at hu; cases hu
  | some us =>
    rw [e] at hu
    obtain ⟨x, w, rfl, _, h1⟩ := h us (List.mem_of_getLast? e)
    cases hu
    exact h1
theorem Inv.mono {M : Map} {B B' : Nat} {T T' A A' : Int} (iv : Inv M B T A) (hB : B ≤ B') (hT : T ≤ T') (hA : A ≤ A') : Inv M B' T' A' := ⟨fun g r e => by
  obtain ⟨h1, h2, h3, h4, h5, h6⟩ := iv.g g r e
  exact ⟨h1, h2, by omega, h4.mono hT, h5.mono hA, h6⟩⟩
theorem inv_mail {M : Map} {B : Nat} {T A : Int} (iv : Inv M B T A) {peer : Nat} {arr w : Int} (h0 : 0 ≤ arr) (h1 : arr ≤ A) : Inv (mailM M peer arr w) B T A := by
  rcases mailM_cases (M := M) (peer := peer) (arr := arr) (w := w) with e | ⟨r1, e1, hl, e⟩
  · rw [e]; exact iv
  · rw [e]
    refine ⟨fun j r ej => ?_⟩
    by_cases hj : j = peer
    · subst hj
      rw [upM_same] at ej; cases ej
      obtain ⟨h1', h2, h3, h4, h5, h6⟩ := iv.g j r1 e1
      exact ⟨h1', by show (r1.ml ++ [_]).length ≤ _; rw [List.length_append]; simp; omega, h3, h4, h5.snoc h0 h1, h6⟩
    · rw [upM_ne hj] at ej; exact iv.g j r ej
theorem postedM_dom {M : Map} {g peer j : Nat} {t w : Int} : (∃ r, postedM M g t peer w j = some r) ↔ ∃ r, M j = some r := by
  unfold postedM
  cases eg : M g with
  | none => exact Iff.rfl
  | some r0 =>
    show (∃ r, upM M g _ j = some r) ↔ _
    by_cases hj : j = g
    · subst hj; rw [upM_same, eg]; exact ⟨fun _ => ⟨_, rfl⟩, fun _ => ⟨_, rfl⟩⟩
    · rw [upM_ne hj]
theorem mailM_dom {M : Map} {peer j : Nat} {arr w : Int} : (∃ r, mailM M peer arr w j = some r) ↔ ∃ r, M j = some r := by
  rcases mailM_cases (M := M) (peer := peer) (arr := arr) (w := w) with e | ⟨r1, e1, hl, e⟩
  · rw [e]
  · rw [e]
    by_cases hj : j = peer
    · subst hj; rw [upM_same, e1]; exact ⟨fun _ => ⟨_, rfl⟩, fun _ => ⟨_, rfl⟩⟩
    · rw [upM_ne hj]
theorem pure__law_post {K : PySem.W.Frag} {a : Ad} (C : Cl K a) {x0 x1 x2 x3 x4 x5 x6 : V} {H : Hp} {Q : VK} {E : XK}
    (h : pr__law_post K a x0 x1 x2 x3 x4 x5 x6 H Q E) : t__law_post K a { nx := fun _ H' => Q .non H', rt := Q } [some x0, some x1, some x2, some x3, some x4, some x5, some x6, none, none, none] H := by
  obtain ⟨p, s, g, peer, tm, wd, arr, L, kp, kr, M, rfl, rfl, rfl, rfl, rfl, rfl, rfl, hL, sd, ⟨r, hM, hrp⟩, h0, hp7, hw0, hw, ha0, hpr, hls, q⟩ := h
  obtain ⟨kvs, R⟩ := sd.rw_
  unfold t__law_post
  walk_at "rd"
  refine r_cut (fun σ' H' => ∃ u8, σ' = [some (V.ref p), some (.ref s), some (.int (g : Nat)), some (.int tm), some (.int (peer : Nat)), some (.int wd), some (.int arr), some (.bl (due M peer)), u8, none] ∧ Stp (· = kr) H L H' L ∧ RwA L kr H' s (mailM M peer arr wd)) ?_ ?_
  · walk_at "rd"
    refine k_dinI R.hs ?_
    rw [if_neg Bool.false_ne_true, R.dm.isSome]
    walk_at "rd"
    cases e : M peer with
    | none =>
      refine kif_f ?_
      walk_at "rd"
      have : due M peer = false := by unfold due; rw [e]
      rw [this, mailM_none e]
      exact ⟨_, rfl, .refl hL, kvs, R⟩
    | some r1 =>
      refine kif_t ?_
      obtain ⟨w, l, x0, z0, vs, e1, lw, hw', ll, hl, its, put⟩ := R.ml e
      walk_at "rd"
      refine k_dgetI R.hs e1 ?_
      walk_at "rd"
      refine k_ixL (.inl (.inl hw')) at1 ?_
      walk_at "rd"
      rw [its.len]
      refine kif_d (fun z => ?_) fun z => ?_
      · have z' : r1.ml.length < 400 := by omega
        walk_at "rd"
        refine k_tup (by simp) fun y hy => ?_
        have hl2 := same_new (o := HO.tup [V.int arr, V.int wd]) hy _ _ hl
        walk_at "rd"
        refine k_append hl2 (by rw [its.len]; omega) ?_
        obtain ⟨R2, st2⟩ := put _ (.ref y) [arr, wd] hL (same_new (o := HO.tup [V.int arr, V.int wd]) hy) ⟨y, rfl, upd_same⟩
        have : due M peer = true := by unfold due; rw [e]; exact decide_eq_true z'
        rw [this, mailM_put e z']
        exact ⟨_, rfl, st2, kvs, R2⟩
      · have z' : ¬ r1.ml.length < 400 := by omega
        walk_at "rd"
        have : due M peer = false := by unfold due; rw [e]; exact decide_eq_false z'
        rw [this, mailM_full e z']
        exact ⟨_, rfl, .refl hL, kvs, R⟩
  rintro σ' H1 ⟨u8, rfl, st1, kv1, R1⟩
  obtain ⟨r', hM', ep, _⟩ := mailM_at (peer := peer) (arr := arr) (w := wd) hM
  obtain ⟨w, l, x0, y0, vs, e1, lw, hw', ll, hl, its, put⟩ := R1.ps hM'
  walk_at "rd"
  refine k_dgetI R1.hs e1 ?_
  walk_at "rd"
  refine k_ixL (.inl (.inl hw')) at2 ?_
  walk_at "rd"
  refine k_tup (by simp) fun y hy => ?_
  have hl2 := same_new (o := HO.tup [V.int tm, V.int (peer : Nat), V.int wd]) hy _ _ hl
  walk_at "rd"
  refine k_append hl2 (by rw [its.len, ep]; omega) ?_
  obtain ⟨R2, st2⟩ := put _ (.ref y) [tm, (peer : Nat), wd] st1.lab (same_new (o := HO.tup [V.int tm, V.int (peer : Nat), V.int wd]) hy) ⟨y, rfl, upd_same⟩
  have eP : upM (mailM M peer arr wd) g { r' with ps := r'.ps ++ [[tm, (peer : Nat), wd]] } = postM M g tm peer wd arr := by
    unfold postM postedM; rw [hM']
  rw [eP] at R2
  have st12 := st1.trans st2
  generalize upd (upd H1 y (HO.tup [V.int tm, V.int (peer : Nat), V.int wd])) l (HO.lst (vs ++ [V.ref y])) = H2 at *
  have sw2 := sd.sw.keep st12 sd.ne
  obtain ⟨t0, m0, q0, kt0, km0, kq0, D0⟩ := id sw2
  obtain ⟨dx, ob⟩ := D0.ob
  walk_at "rd"
  refine sp6_i ⟨p, g, peer, tm, wd, arr, L, kp, M, rfl, rfl, rfl, rfl, rfl, rfl, st12.lab, sw2, ⟨r, hM, hrp⟩, h0, hp7, hw0, hw, ha0, hpr, fun _ H3 st3 sw3 => ?_, fun r1 e1 hl1 ⟨u, hu, hu2⟩ => ?_, .inl hls⟩
  · walk_at "rd"
    refine sp2_i ⟨.bool (due M peer), trivial, .bl _, .bl _, ?_⟩
    have ne' : ¬ kr = kp := fun z => sd.ne z.symm
    exact q H3 ((st12.mono fun _ z => .inr z).trans (st3.mono fun _ z => .inl z)) ⟨sw3, (show RwA L kr H2 s (postM M g tm peer wd arr) from ⟨kv1, R2⟩).keep st3 ne', sd.ne⟩
  · exact absurd (hls r1 e1 hl1 u hu) (by omega)
theorem pureh__law_same {K : PySem.W.Frag} {a : Ad} (C : Cl K a) {x0 x1 : V} {H : Hp} {Q : VK} {E : XK}
    (h : prh__law_same K a x0 x1 H Q E) : th__law_same K a { nx := fun _ H' => Q .non H', rt := Q } [some x0, some x1, none] H := by
  obtain ⟨i, rfl, rfl, q⟩ := h
  unfold th__law_same
  walk_at "rd"
  refine k_isi (b := false) (.base (.int i)) (kit_ty (by decide +kernel)) ?_
  walk_at "rd"
  refine kif_f ?_
  walk_at "rd"
  refine k_isi (b := false) (.base (.int i)) (kit_ty (by decide +kernel)) ?_
  walk_at "rd"
  refine kif_f ?_
  walk_at "rd"
  refine k_isi (.base (.int i)) kit_yes ?_
  walk_at "rd"
  refine kif_t ?_
  walk_at "rd"
  refine k_isi (.base (.int i)) kit_yes ?_
  walk_at "rd"
  refine kif_t ?_
  walk_at "rd"
  refine k_isi (b := false) (.base (.int i)) (kit_ty (by decide +kernel)) ?_
  walk_at "rd"
  refine kif_of rfl ?_
  walk_at "rd"
  rw [decide_eq_true rfl]
  exact q
theorem pure__law_too_early {K : PySem.W.Frag} {a : Ad} (C : Cl K a) {x0 x1 x2 x3 : V} {H : Hp} {Q : VK} {E : XK}
    (h : pr__law_too_early K a x0 x1 x2 x3 H Q E) : t__law_too_early K a { nx := fun _ H' => Q .non H', rt := Q } [some x0, some x1, some x2, some x3, none, none] H := by
  obtain ⟨p, s, g, peer, L, kp, kr, M, B, T, A, r0, rfl, rfl, rfl, rfl, hL, sd, iv, hB, ⟨r, hM⟩, hP, q⟩ := h
  obtain ⟨kvs, R⟩ := sd.rw_
  obtain ⟨w, l, x0, z0, vs, e1, lw, hw', ll, hl, its, put⟩ := R.ml hP
  obtain ⟨b1, b2, b3, p1, p2, p3⟩ := iv.g peer r0 hP
  obtain ⟨c1', c2', c3', _⟩ := iv.g g r hM
  have hlen := its.len
  have hp6 := R.dm.bd peer r0 hP
  unfold t__law_too_early
  walk_at "rd"
  refine k_dgetI R.hs e1 ?_
  walk_at "rd"
  refine k_ixL (.inl (.inl hw')) at1 ?_
  have yes : Q (.bl true) H := q M H (.refl hL) sd (iv.mono (by omega) (Int.le_refl _) (Int.le_refl _)) fun _ => Iff.rfl
  walk_at "rd"
  refine kif_d (fun z => ?_) fun z => ?_
  · refine kif_t ?_
    walk_at "rd"
    exact yes
  have hpos : 0 < vs.length := Nat.pos_of_ne_zero fun e => z (by rw [e]; rfl)
  have hi : r0.ml.length - 1 < r0.ml.length := by omega
  have hus : r0.ml[r0.ml.length - 1]? = some r0.ml[r0.ml.length - 1] := List.getElem?_eq_getElem hi
  obtain ⟨x, w', e2, hx0, _⟩ := p2 _ (List.getElem_mem hi)
  rw [e2] at hus
  obtain ⟨v, hv, y, rfl, hy⟩ := its.at_ _ _ hus
  have ev : atI vs ((vs.length : Nat) - 1 : Int) = some (.ref y) := by
    have : ((vs.length : Nat) - 1 : Int) = ((vs.length - 1 : Nat) : Nat) := by omega
    rw [this]
    exact atI_nat (by rw [hlen]; exact hv)
  have ex0 : atI (intsL [x, w']) 0 = some (.int x) := atI_nat (j := 0) rfl
  walk_at "rd"
  refine k_ixL (.inl (.inl hl)) ev ?_
  walk_at "rd"
  refine k_ixT (.inl (.inl hy)) ex0 ?_
  walk_at "rd"
  refine kif_d (fun z2 => ?_) fun z2 => ?_
  · walk_at "rd"
    exact yes
  walk_at "rd"
  refine kif_d (fun z4 => ?_) fun z4 => ?_
  · have h400 : r0.ml.length = 400 := by
      have : ((vs.length : Nat) : Int) = 400 := by injection z4
      omega
    walk_at "rd"
    refine sp7_i ⟨p, s, g, peer, 1, 77, 0, L, kp, kr, M, rfl, rfl, rfl, rfl, rfl, rfl, rfl, hL, sd, ⟨r, hM, by omega⟩, by decide, by omega, by decide, by decide, by decide, fun r1 e => ?_, fun r1 e hlt => ?_, fun H1 st1 sd1 => ?_⟩
    · rw [hP] at e; cases e
      exact ⟨b2, p2.two⟩
    · rw [hP] at e; cases e
      omega
    · refine q _ H1 st1 sd1 ?_ fun j => ?_
      · unfold postM
        rw [mailM_full hP (by omega)]
        exact inv_posted iv
      · unfold postM
        rw [postedM_dom, mailM_dom]
  · have h400 : ¬ r0.ml.length = 400 := fun e => z4 (by rw [hlen, e]; rfl)
    have hxp : 0 < x := by
      have : x ≠ 0 := fun e => z2 (by rw [e])
      omega
    have hlast := lastS_at hus
    obtain ⟨t0, m0, q0, kt0, km0, kq0, D0⟩ := id sd.sw
    obtain ⟨dx, ob⟩ := D0.ob
    walk_at "rd"
    refine k_ixL (.inl (.inl hl)) ev ?_
    walk_at "rd"
    refine k_ixT (.inl (.inl hy)) ex0 ?_
    walk_at "rd"
    refine sp6_i ⟨p, g, peer, 1, 77, x - 1, L, kp, M, rfl, rfl, rfl, rfl, rfl, rfl, hL, sd.sw, ⟨r, hM, by omega⟩, by decide, by omega, by decide, by decide, by omega, fun r1 e => ?_, fun cd => ?_, fun r1 e hlt _ d H1 hd s1 hd1 => ?_, .inr ⟨r0, hP, by omega, x, hlast, by omega⟩⟩
    · rw [hP] at e; cases e
      exact ⟨b2, p2.two⟩
    · exact absurd (cd r0 hP (by omega) x hlast) (by omega)
    · rw [hP] at e; cases e
      refine k_was C.ex_BadTape fun xa hxa => ?_
      walk_at "rd"
      refine k_xf hd1 ?_
      have hl1 := s1 _ _ hl
      walk_at "rd"
      rw [hlen]
      refine sp2_i ⟨_, rfl, rfl, ?_⟩
      exact q M H1 (.of_same hL s1) (sd.same hL s1) (iv.mono (by omega) (Int.le_refl _) (Int.le_refl _)) fun _ => Iff.rfl
theorem pure__law_fed {K : PySem.W.Frag} {a : Ad} (C : Cl K a) {x0 x1 x2 x3 : V} {H : Hp} {Q : VK} {E : XK}
    (h : pr__law_fed K a x0 x1 x2 x3 H Q E) : t__law_fed K a { nx := fun _ H' => Q .non H', rt := Q } [some x0, some x1, some x2, some x3, none, none, none, none] H := by
  obtain ⟨p, s, g, step, L, kp, kr, M, B, A, r0, rfl, rfl, rfl, rfl, hL, sd, iv, hM, q⟩ := h
  obtain ⟨kvs, R⟩ := sd.rw_
  obtain ⟨w, l, y0, z0, vs, e1, lw, hw', ll, hl, its, _⟩ := R.tp hM
  obtain ⟨b1, b2, b3, p1, p2, p3⟩ := iv.g g r0 hM
  have hlen := its.len
  have ne' : ¬ kr = kp := fun z => sd.ne z.symm
  unfold t__law_fed
  walk_at "rd"
  refine k_dgetI R.hs e1 ?_
  walk_at "rd"
  refine k_ixL (.inl (.inl hw')) at0 ?_
  walk_at "rd"
  obtain ⟨n, hn⟩ : ∃ n : Nat, (400 : Int) - (vs.length : Nat) = n := ⟨400 - vs.length, by omega⟩
  rw [hn]
  refine k_rng1 (by omega) (fun k σ' H' => (∃ u v, σ' = [some (V.ref p), some (.ref s), some (.int (g : Nat)), some (.int step), some (.ref l), u, v, none]) ∧ ∃ M' r, Stp (Two kp kr) H L H' L ∧ SwA a L kp H' p M' ∧ RwAt L kr H' s M' kvs ∧
      H' w = some (.lst [.ref l, y0, z0]) ∧ M' g = some r ∧ r.tp.length = r0.tp.length + k ∧ Prs (399 + (k : Nat)) r.tp ∧ Inv M' B 800 A ∧ ∀ j, (∃ r, M' j = some r) ↔ ∃ r, M j = some r)
    ⟨⟨_, _, rfl⟩, M, r0, .refl hL, sd.sw, R, hw', hM, rfl, p1.mono (by omega), iv.mono (Nat.le_refl _) (by decide) (Int.le_refl _), fun _ => Iff.rfl⟩ ?_ ?_
  · rintro k σ' H1 hk ⟨⟨u, v, rfl⟩, M', r, st, sw, R1, hw1, hM1, hl1, pr1, iv1, hd1⟩
    obtain ⟨w2, l2, y2, z2, vs2, e2, lw2, hw2, ll2, hl2, its2, put⟩ := R1.tp hM1
    rw [e1] at e2; cases e2
    rw [hw1] at hw2; cases hw2
    have hlen2 := its2.len
    walk_at "rd"
    refine k_i (.inl ⟨by decide, by decide⟩) ?_
    walk_at "rd"
    refine k_i (by decide) ?_
    walk_at "rd"
    refine k_tup (by simp) fun y hy => ?_
    have hl2' := same_new (o := HO.tup [V.int (400 + (k : Nat)), V.int ((step + 5 * (k : Nat)) % 65521)]) hy _ _ hl2
    walk_at "rd"
    refine k_append hl2' (by omega) ?_
    obtain ⟨R2, st2⟩ := put _ (.ref y) [400 + (k : Nat), (step + 5 * (k : Nat)) % 65521] st.lab (same_new (o := HO.tup [V.int (400 + (k : Nat)), V.int ((step + 5 * (k : Nat)) % 65521)]) hy) ⟨y, rfl, upd_same⟩
    have hw3 : upd (upd H1 y (HO.tup [V.int (400 + (k : Nat)), V.int ((step + 5 * (k : Nat)) % 65521)])) l (HO.lst (vs2 ++ [V.ref y])) w = some (.lst [.ref l, y0, z0]) := by
      rw [upd_ne (lne lw2 ll2 (by simp))]
      exact same_new (o := HO.tup [V.int (400 + (k : Nat)), V.int ((step + 5 * (k : Nat)) % 65521)]) hy _ _ hw1
    generalize upd (upd H1 y (HO.tup [V.int (400 + (k : Nat)), V.int ((step + 5 * (k : Nat)) % 65521)])) l (HO.lst (vs2 ++ [V.ref y])) = H2 at *
    have sw2 := sw.keep st2 sd.ne
    obtain ⟨t0, m0, q0, kt0, km0, kq0, D0⟩ := id sw2
    obtain ⟨dx, ob⟩ := D0.ob
    obtain ⟨d1, d2, d3, f1, f2, f3⟩ := iv1.g g r hM1
    walk_at "rd"
    refine sp4_i ⟨p, g, _, _, L, kp, M', r, rfl, rfl, rfl, rfl, st2.lab, sw2, hM1, by omega, by omega, by omega, d1, f1.two, fun z => by omega, fun z u hu => ?_, fun z H3 st3 sw3 => ?_⟩
    · have := pr1.last u hu
      omega
    · walk_at "rd"
      refine sp2_i ⟨.none, trivial, .non, .non, ?_⟩
      walk_at "rd"
      refine kif_f ?_
      walk_at "rd"
      have st23 := st2.mono (S' := Two kp kr) fun _ z => .inr z
      have st33 := st3.mono (S' := Two kp kr) fun _ z => .inl z
      have R3 : RwAt L kr H3 s (upM M' g { r with tp := r.tp ++ [([400 + ((k : Nat) : Int), (step + 5 * ((k : Nat) : Int)) % 65521] : List Int)] }) kvs :=
        ⟨R2.ls, st3.lbl R2.ls ne' R2.hs, R2.dm.mono fun g r v _ z => z.of st3.ext (fun x j o hl _ hx => st3.lbl hl ne' hx) (.of_stp st3)⟩
      refine ⟨⟨_, _, rfl⟩, _, _, st.trans (st23.trans st33), sw3, R3, st3.lbl lw2 ne' hw3, upM_same, ?_, ?_, ⟨fun j r' ej => ?_⟩, fun j => ?_⟩
      · show (r.tp ++ [_]).length = _
        rw [List.length_append, hl1]; simp; omega
      · exact (pr1.mono (by omega)).snoc (by omega) (by omega)
      · by_cases hj : j = g
        · subst hj
          rw [upM_same] at ej; cases ej
          exact ⟨by show (r.tp ++ [_]).length ≤ _; rw [List.length_append]; simp; omega, d2, d3, f1.snoc (by omega) (by omega), f2, f3⟩
        · rw [upM_ne hj] at ej; exact iv1.g j r' ej
      · by_cases hj : j = g
        · subst hj; rw [upM_same]; exact ⟨fun _ => ⟨_, hM⟩, fun _ => ⟨_, rfl⟩⟩
        · rw [upM_ne hj]; exact hd1 j
  · rintro σ' H1 ⟨⟨u, v, rfl⟩, M', r, st, sw, R1, hw1, hM1, hl1, pr1, iv1, hd1⟩
    obtain ⟨t0, m0, q0, kt0, km0, kq0, D0⟩ := id sw
    obtain ⟨dx, ob⟩ := D0.ob
    obtain ⟨d1, d2, d3, f1, f2, f3⟩ := iv1.g g r hM1
    have h4 : r.tp.length = 400 := by omega
    walk_at "rd"
    refine sp4_i ⟨p, g, 9000, 1, L, kp, M', r, rfl, rfl, rfl, rfl, st.lab, sw, hM1, by decide, by decide, by decide, d1, f1.two, fun z d H2 hd s2 hd2 => ?_, fun z => by omega, fun z => by omega⟩
    refine k_was C.ex_TooMany fun xa hxa => ?_
    walk_at "rd"
    refine k_xf hd2 ?_
    walk_at "rd"
    refine sp2_i ⟨_, rfl, rfl, ?_⟩
    have sd1 : Side a L kp kr H1 p s M' := ⟨sw, ⟨kvs, R1⟩, sd.ne⟩
    exact q M' H2 (st.trans (.of_same st.lab s2)) (sd1.same st.lab s2) iv1 hd1
end K74

namespace K74
open PySem L2 Lh
local macro_rules | `(tactic| walk_at "ne") => `(tactic| first | assumption | exact Ne.symm (by assumption) | ((with_reducible refine' lne ?h1 ?h2 ?h3); (case h1 => assumption); (case h2 => assumption); (case h3 => simp)) | ((with_reducible refine' nn ?h1 ?h2); (case h1 => assumption); (case h2 => walk_at "hp")) | (apply Ne.symm; (with_reducible refine' nn ?h1 ?h2); (case h1 => assumption); (case h2 => walk_at "hp")))
local macro_rules | `(tactic| walk_at "hp") => `(tactic| first | assumption | exact upd_same | (refine Eq.trans (upd_ne ?hne) ?hrest; (case hne => walk_at "ne"); (case hrest => walk_at "hp")))
local macro_rules | `(tactic| walk_at "sq") => `(tactic| first | assumption | (refine Or.inl (Or.inl ?hsq); (case hsq => walk_at "hp")))
local macro_rules | `(tactic| walk_at "tq") => `(tactic| first | assumption | (refine Or.inl (Or.inl ?hsq); (case hsq => walk_at "hp")))
local macro_rules | `(tactic| walk_at "r1") => `(tactic| first
  | with_reducible refine r_seq ?_ | with_reducible refine r_asg ?_ | with_reducible refine r_sfld ?_ | with_reducible refine r_ret ?_ | with_reducible refine r_retN ?_ | with_reducible refine r_drop ?_
  | with_reducible refine r_next ?_ | with_reducible refine r_ifs ?_ | with_reducible refine r_dput ?_ | with_reducible refine r_asgG ?_ | with_reducible refine r_gsub ?_
  | ((with_reducible refine' r_var ?hv ?_); (case hv => exact rfl)) | with_reducible refine r_c ?_ | with_reducible refine r_op ?_ | with_reducible refine r_un ?_ | with_reducible refine r_fld ?_
  | with_reducible refine r_cb ?_ | with_reducible refine r_tup ?_ | with_reducible refine r_lst ?_ | with_reducible refine r_nil ?_ | with_reducible refine r_cons ?_ | with_reducible refine r_dget ?_
  | with_reducible refine r_din ?_ | with_reducible refine r_dnin ?_ | with_reducible refine r_call ?_ | with_reducible refine r_meth ?_ | with_reducible refine r_methE ?_ | with_reducible refine r_bm ?_ | with_reducible refine r_bm0 ?_
  | with_reducible refine r_test ?_ | with_reducible refine r_tb ?_ | with_reducible refine r_not ?_ | with_reducible refine r_and ?_ | with_reducible refine r_or ?_ | with_reducible refine r_andV ?_ | with_reducible refine r_orV ?_
  | with_reducible refine r_notV ?_ | with_reducible refine r_tif ?_
  | with_reducible refine k_bl ?_ | with_reducible refine k_i0 ?_ | with_reducible refine k_u ?_ | with_reducible refine k_isN ?_ | with_reducible refine k_notN ?_ | with_reducible refine k_int ?_ | with_reducible refine k_abs ?_ | with_reducible refine k_max ?_ | with_reducible refine k_min ?_
  | with_reducible refine k_eq rfl ?_ | with_reducible refine k_ne rfl ?_
  | ((with_reducible refine' k_fld ?hc ?hn ?ho ?hl ?_); (case hc => assumption); (case hn => assumption); (case ho => walk_at "hp"); (case hl => walk_at "lk"))
  | ((with_reducible refine' k_len ?ho ?_); (case ho => walk_at "sq"))
  | ((with_reducible refine' k_lenT ?ho ?_); (case ho => walk_at "tq"))
  | ((with_reducible refine' k_bml ?ho ?_); (case ho => walk_at "hp"))
  | ((with_reducible refine' k_sfld ?hc ?hn ?ho ?hl ?_); (case hc => assumption); (case hn => assumption); (case ho => walk_at "hp"); (case hl => walk_at "ll"))
  | ((with_reducible refine' k_meth ?ho ?hl ?_); (case ho => walk_at "hp"); (case hl => walk_at "nm"))
  | ((with_reducible refine' k_methE ?ho ?hl ?_); (case ho => walk_at "hp"); (case hl => walk_at "nm"))
  | with_reducible refine r_rng1 ?_ | with_reducible refine r_rng2 ?_ | with_reducible refine r_forL ?_ | with_reducible refine r_forT ?_ | with_reducible refine r_enum ?_ | with_reducible refine r_lcL ?_ | with_reducible refine r_lcR1 ?_ | with_reducible refine r_raise ?_ | with_reducible refine r_make ?_
  | ((with_reducible refine' k_dgetS ?ho ?hg ?_); (case ho => walk_at "hp"); (case hg => walk_at "dg"))
  | with_reducible refine r_pcons ?_ | with_reducible refine r_pnil ?_ | with_reducible refine r_xf ?_ | with_reducible refine r_try ?_ | with_reducible refine r_gn ?_ | with_reducible refine r_callS ?_ | with_reducible refine r_ddel ?_ | with_reducible refine r_dpop ?_ | with_reducible refine r_lcT ?_ | with_reducible refine r_tupRev ?_ | with_reducible refine r_sl ?_ | with_reducible refine r_noPart ?_ | with_reducible refine r_part ?_ | with_reducible refine k_part ?_)
local macro_rules | `(tactic| walk_at "rd") => `(tactic| repeat (first | walk_at "r1" | (dsimp only; walk_at "r1")))
local macro_rules | `(tactic| walk_at "fr") => `(tactic| first | assumption | (apply un; assumption) | (apply un; apply un; assumption) | (apply un; apply un; apply un; assumption) | (apply un; apply un; apply un; apply un; assumption) | (apply un; apply un; apply un; apply un; apply un; assumption) | (apply un; apply un; apply un; apply un; apply un; apply un; assumption))
local macro_rules | `(tactic| walk_at "lk") => `(tactic| first | exact lk_Switch_0 | exact lk_Switch_1 | exact lk_Switch_2)
local macro_rules | `(tactic| walk_at "ll") => `(tactic| first | (rw [ln_Switch]; decide) | with_reducible exact lt0 | with_reducible exact lt1 | with_reducible exact lt2 | with_reducible exact lt3 | with_reducible exact lt4)
local macro_rules | `(tactic| walk_at "nm") => `(tactic| first | with_reducible exact nm_Switch_join | with_reducible exact nm_Switch_leave | with_reducible exact nm_Switch_guests | with_reducible exact nm_Switch_feed | with_reducible exact nm_Switch_post | with_reducible exact nm_Switch_tape | with_reducible exact nm_Switch_mail | with_reducible exact nm_Switch_posted | with_reducible exact nm_Switch_frozen | with_reducible exact nm_Switch__check)
local macro_rules | `(tactic| walk_at "cl") => `(tactic| (have c1 := Cl.cl_Switch (by assumption); have n1 := Cl.na_Switch__tapes (by assumption); have n2 := Cl.na_Switch__mails (by assumption); have n3 := Cl.na_Switch__posts (by assumption)))
def upF (MM : Nat → Map) (j : Nat) (M : Map) : Nat → Map := fun i => if i = j then M else MM i
theorem upF_same {MM : Nat → Map} {j : Nat} {M : Map} : upF MM j M j = M := if_pos rfl
theorem upF_ne {MM : Nat → Map} {i j : Nat} {M : Map} (h : i ≠ j) : upF MM j M i = MM i := if_neg h
/-- all that stands while the law runs -/
structure Wd (a : Ad) (L : Lb) (H : Hp) (gl shl swl sdl p0 s0 p1 s1 : Addr) (k0 : Nat) (G : List Nat) (sh : List Int) (MM : Nat → Map) : Prop where
  lg : L gl = none
  hg : H gl = some (.lst (intL G))
  lsh : L shl = none
  hsh : H shl = some (.lst (intsL sh))
  lsw : L swl = some (9, 0, 0)
  hsw : H swl = some (.lst [.ref p0, .ref p1])
  lsd : L sdl = some (9, 1, 0)
  hsd : H sdl = some (.lst [.ref s0, .ref s1])
  d0 : Side a L k0 1 H p0 s0 (MM 0)
  d1 : Side a L 2 3 H p1 s1 (MM 1)
theorem Wd.same {a : Ad} {L : Lb} {H H' : Hp} {gl shl swl sdl p0 s0 p1 s1 : Addr} {k0 : Nat} {G : List Nat} {sh : List Int} {MM : Nat → Map} (h : Wd a L H gl shl swl sdl p0 s0 p1 s1 k0 G sh MM) (hL : Lab H L) (sm : Same H H') : Wd a L H' gl shl swl sdl p0 s0 p1 s1 k0 G sh MM :=
  ⟨h.lg, sm _ _ h.hg, h.lsh, sm _ _ h.hsh, h.lsw, sm _ _ h.hsw, h.lsd, sm _ _ h.hsd, h.d0.same hL sm, h.d1.same hL sm⟩
theorem Wd.pick {a : Ad} {L : Lb} {H : Hp} {gl shl swl sdl p0 s0 p1 s1 : Addr} {k0 : Nat} {G : List Nat} {sh : List Int} {MM : Nat → Map} (h : Wd a L H gl shl swl sdl p0 s0 p1 s1 k0 G sh MM) (hk : k0 = 0 ∨ k0 = 4) {j : Nat} (hj : j < 2) :
    ∃ p s kp kr, ([V.ref p0, V.ref p1] : List V)[j]? = some (.ref p) ∧ ([V.ref s0, V.ref s1] : List V)[j]? = some (.ref s) ∧ Side a L kp kr H p s (MM j) ∧ kp ≤ 4 ∧ kr ≤ 4 ∧
      ∀ H' L' M', Stp (Two kp kr) H L H' L' → Side a L' kp kr H' p s M' → Wd a L' H' gl shl swl sdl p0 s0 p1 s1 k0 G sh (upF MM j M') := by
  have hj2 : j = 0 ∨ j = 1 := by omega
  have n9 : ∀ kp kr : Nat, kp ≤ 4 → kr ≤ 4 → ¬ Two kp kr 9 := fun kp kr h1 h2 z => by rcases z with z | z <;> omega
  rcases hj2 with e | e
  · subst e
    refine ⟨p0, s0, k0, 1, rfl, rfl, h.d0, by omega, by decide, fun H' L' M' st d => ?_⟩
    have n := n9 k0 1 (by omega) (by decide)
    exact ⟨st.nolab h.lg h.hg, st.unl h.lg h.hg, st.nolab h.lsh h.hsh, st.unl h.lsh h.hsh, st.ext _ _ h.lsw, st.lbl h.lsw n h.hsw, st.ext _ _ h.lsd, st.lbl h.lsd n h.hsd, by rw [upF_same]; exact d, by rw [upF_ne (by decide)]; exact h.d1.keep st (by simp; omega) (by simp; omega)⟩
  · subst e
    refine ⟨p1, s1, 2, 3, rfl, rfl, h.d1, by decide, by decide, fun H' L' M' st d => ?_⟩
    have n := n9 2 3 (by decide) (by decide)
    exact ⟨st.nolab h.lg h.hg, st.unl h.lg h.hg, st.nolab h.lsh h.hsh, st.unl h.lsh h.hsh, st.ext _ _ h.lsw, st.lbl h.lsw n h.hsw, st.ext _ _ h.lsd, st.lbl h.lsd n h.hsd, by rw [upF_ne (by decide)]; exact h.d0.keep st (by simp; omega) (by simp), by rw [upF_same]; exact d⟩
/-- what is told of the maps -/
structure Al (MM : Nat → Map) (G : List Nat) (B : Nat → Nat) (T A : Nat → Int) : Prop where
  iv : ∀ j, j < 2 → Inv (MM j) (B j) (T j) (A j)
  dm : ∀ j, j < 2 → ∀ g, (∃ r, MM j g = some r) ↔ g ∈ G
theorem Al.put {MM : Nat → Map} {G : List Nat} {B B' : Nat → Nat} {T T' A A' : Nat → Int} (h : Al MM G B T A) {j : Nat} {M : Map} (iv : Inv M (B' j) (T' j) (A' j)) (dm : ∀ g, (∃ r, M g = some r) ↔ ∃ r, MM j g = some r)
    (hB : ∀ i, i ≠ j → B i ≤ B' i) (hT : ∀ i, i ≠ j → T i ≤ T' i) (hA : ∀ i, i ≠ j → A i ≤ A' i) (hj : j < 2) : Al (upF MM j M) G B' T' A' := by
  refine ⟨fun i hi => ?_, fun i hi g => ?_⟩
  · by_cases e : i = j
    · subst e; rw [upF_same]; exact iv
    · rw [upF_ne e]; exact (h.iv i hi).mono (hB i e) (hT i e) (hA i e)
  · by_cases e : i = j
    · subst e; rw [upF_same, dm g]; exact h.dm i hi g
    · rw [upF_ne e]; exact h.dm i hi g
theorem Al.mono {MM : Nat → Map} {G : List Nat} {B B' : Nat → Nat} {T T' A A' : Nat → Int} (h : Al MM G B T A) (hB : ∀ i, i < 2 → B i ≤ B' i) (hT : ∀ i, i < 2 → T i ≤ T' i) (hA : ∀ i, i < 2 → A i ≤ A' i) : Al MM G B' T' A' :=
  ⟨fun j hj => (h.iv j hj).mono (hB j hj) (hT j hj) (hA j hj), h.dm⟩
theorem inv_post {M : Map} {B : Nat} {T A : Int} (iv : Inv M B T A) {g peer : Nat} {t w arr : Int} (h0 : 0 ≤ arr) (h1 : arr ≤ A) : Inv (postM M g t peer w arr) (B + 1) T A := inv_posted (inv_mail iv h0 h1)
theorem postM_dom {M : Map} {g peer j : Nat} {t w arr : Int} : (∃ r, postM M g t peer w arr j = some r) ↔ ∃ r, M j = some r := by unfold postM; rw [postedM_dom, mailM_dom]
theorem postedM_ml {M : Map} {g peer j : Nat} {t w : Int} {r : Row} (h : postedM M g t peer w j = some r) : ∃ r0, M j = some r0 ∧ r0.ml = r.ml := by
  unfold postedM at h
  cases eg : M g with
  | none => rw [eg] at h; exact ⟨r, h, rfl⟩
  | some r0 =>
    rw [eg] at h
    have h' : upM M g { r0 with ps := r0.ps ++ [[t, (peer : Nat), w]] } j = some r := h
    by_cases hj : j = g
    · subst hj
      rw [upM_same] at h'; cases h'
      exact ⟨r0, eg, rfl⟩
    · rw [upM_ne hj] at h'; exact ⟨r, h', rfl⟩
theorem postM_ml {M : Map} {g peer j : Nat} {t w arr : Int} {r : Row} (h : postM M g t peer w arr j = some r) : ∃ r0, M j = some r0 ∧ r0.ml.length ≤ r.ml.length ∧ (j = peer → r0.ml.length < 400 → r.ml.length = r0.ml.length + 1) := by
  obtain ⟨r1, h1, e1⟩ := postedM_ml h
  rcases mailM_cases (M := M) (peer := peer) (arr := arr) (w := w) with e | ⟨r2, e2, hl, e⟩
  · rw [e] at h1
    refine ⟨r1, h1, by rw [e1]; exact Nat.le_refl _, fun ej hlt => ?_⟩
    subst ej
    rw [mailM_put h1 hlt] at e
    have := congrFun e j
    rw [upM_same, h1] at this
    have z := congrArg (fun r : Option Row => (r.map fun r => r.ml.length).getD 0) this
    simp at z
  · rw [e] at h1
    by_cases hj : j = peer
    · subst hj
      rw [upM_same] at h1; cases h1
      refine ⟨r2, e2, ?_, fun _ _ => ?_⟩
      · rw [← e1]; show r2.ml.length ≤ (r2.ml ++ [[arr, w]]).length; rw [List.length_append]; omega
      · rw [← e1]; show (r2.ml ++ [[arr, w]]).length = _; rw [List.length_append]; rfl
    · rw [upM_ne hj] at h1
      exact ⟨r1, h1, by rw [e1]; exact Nat.le_refl _, fun z => (hj z).elim⟩
def IniM (G : List Nat) (f : Nat) (M : Map) : Prop := Inv M 2 133 133 ∧ (∀ g, (∃ r, M g = some r) ↔ g ∈ G) ∧ ∀ g r, G[0]? = some g → M g = some r → r.ml.length = f
structure Bs (L : Lb) (H : Hp) (gl shl nl swl sdl p0 p1 : Addr) (G : List Nat) (sh nu : List Int) : Prop where
  lg : L gl = none
  hg : H gl = some (.lst (intL G))
  lsh : L shl = none
  hsh : H shl = some (.lst (intsL sh))
  lnl : L nl = none
  hnl : H nl = some (.lst (intsL nu))
  lsw : L swl = some (9, 0, 0)
  hsw : H swl = some (.lst [.ref p0, .ref p1])
  lsd : L sdl = some (9, 1, 0)
theorem Bs.keep {S : Nat → Prop} {L L' : Lb} {H H' : Hp} {gl shl nl swl sdl p0 p1 : Addr} {G : List Nat} {sh nu : List Int} (h : Bs L H gl shl nl swl sdl p0 p1 G sh nu) (st : Stp S H L H' L') (h9 : ¬ S 9) : Bs L' H' gl shl nl swl sdl p0 p1 G sh nu :=
  ⟨st.nolab h.lg h.hg, st.unl h.lg h.hg, st.nolab h.lsh h.hsh, st.unl h.lsh h.hsh, st.nolab h.lnl h.hnl, st.unl h.lnl h.hnl, st.ext _ _ h.lsw, st.lbl h.lsw h9 h.hsw, st.ext _ _ h.lsd⟩
def Sts (a : Ad) (p0 p1 : Addr) (G : List Nat) (f k : Nat) (xs : List V) (L : Lb) (H : Hp) : Prop :=
  (k = 0 ∧ xs = [] ∧ SwA a L 0 H p0 (fun _ => none) ∧ SwA a L 2 H p1 fun _ => none) ∨ (k = 1 ∧ ∃ s0 M0, xs = [.ref s0] ∧ Side a L 0 1 H p0 s0 M0 ∧ IniM G f M0 ∧ SwA a L 2 H p1 fun _ => none) ∨
    (k = 2 ∧ ∃ s0 s1 M0 M1, xs = [.ref s0, .ref s1] ∧ Side a L 0 1 H p0 s0 M0 ∧ IniM G f M0 ∧ Side a L 2 3 H p1 s1 M1 ∧ IniM G f M1)
theorem Sts.keep {a : Ad} {S : Nat → Prop} {p0 p1 : Addr} {G : List Nat} {f k : Nat} {xs : List V} {L L' : Lb} {H H' : Hp} (h : Sts a p0 p1 G f k xs L H) (st : Stp S H L H' L') (h0 : ∀ i, i ≤ 3 → ¬ S i) : Sts a p0 p1 G f k xs L' H' := by
  rcases h with ⟨e, ex, w0, w1⟩ | ⟨e, s0, M0, ex, d0, i0, w1⟩ | ⟨e, s0, s1, M0, M1, ex, d0, i0, d1, i1⟩
  · exact .inl ⟨e, ex, w0.keep st (h0 0 (by decide)), w1.keep st (h0 2 (by decide))⟩
  · exact .inr (.inl ⟨e, s0, M0, ex, d0.keep st (h0 0 (by decide)) (h0 1 (by decide)), i0, w1.keep st (h0 2 (by decide))⟩)
  · exact .inr (.inr ⟨e, s0, s1, M0, M1, ex, d0.keep st (h0 0 (by decide)) (h0 1 (by decide)), i0, d1.keep st (h0 2 (by decide)) (h0 3 (by decide)), i1⟩)
theorem Sts.next {a : Ad} {p0 p1 : Addr} {G : List Nat} {f k : Nat} {xs : List V} {L : Lb} {H : Hp} (h : Sts a p0 p1 G f k xs L H) (hk : k < 2) :
    xs.length ≤ 1 ∧ ∃ p kp kr, ([V.ref p0, V.ref p1] : List V)[k]? = some (.ref p) ∧ SwA a L kp H p (fun _ => none) ∧ kp ≠ kr ∧ kp ≤ 3 ∧ kr ≤ 3 ∧
      ∀ s M H2 L2, Stp (Two kp kr) H L H2 L2 → Side a L2 kp kr H2 p s M → IniM G f M → Sts a p0 p1 G f (k + 1) (xs ++ [.ref s]) L2 H2 := by
  rcases h with ⟨e, ex, w0, w1⟩ | ⟨e, s0, M0, ex, d0, i0, w1⟩ | ⟨e, _⟩
  · subst e; subst ex
    exact ⟨by simp, p0, 0, 1, rfl, w0, by decide, by decide, by decide, fun s M H2 L2 st d i => .inr (.inl ⟨rfl, s, M, rfl, d, i, w1.keep st (by simp)⟩)⟩
  · subst e; subst ex
    exact ⟨by simp, p1, 2, 3, rfl, w1, by decide, by decide, by decide, fun s M H2 L2 st d i => .inr (.inr ⟨rfl, s0, s, M0, M, rfl, d0.keep st (by simp) (by simp), i0, d, i⟩)⟩
  · omega
theorem RwAt.del {L : Lb} {k : Nat} {H : Hp} {s : Addr} {M : Map} {kvs : List (Key × V)} (h : RwAt L k H s M kvs) (hL : Lab H L) (g : Nat) : RwA L k (upd H s (HO.dK (dropK kvs (kN g)))) s (delM M g) ∧ Stp (· = k) H L (upd H s (HO.dK (dropK kvs (kN g)))) L := by
  have st : Stp (· = k) H L (upd H s (HO.dK (dropK kvs (kN g)))) L := Stp.write hL h.ls rfl h.hs
  refine ⟨⟨_, h.ls, upd_same, (h.dm.del g).mono fun g' r v _ z => z.of st.ext (fun x j o hx h1 hxo => ?_) (.of_stp st)⟩, st⟩
  rw [upd_ne (lne hx h.ls (by simp; omega))]; exact hxo
theorem RwAt.new {L : Lb} {k : Nat} {H H6 : Hp} {s : Addr} {M : Map} {kvs : List (Key × V)} (h : RwAt L k H s M kvs) (hL : Lab H L) (sm : Same H H6) {g : Nat} (hg : g < 6) {W D1 D2 D9 : Addr} (fW : H W = none) (f1 : H D1 = none) (f2 : H D2 = none) (f9 : H D9 = none)
    (n12 : D1 ≠ D2) (n19 : D1 ≠ D9) (n29 : D2 ≠ D9) (n1W : D1 ≠ W) (n2W : D2 ≠ W) (n9W : D9 ≠ W) (hW : H6 W = some (.lst [.ref D1, .ref D2, .ref D9])) (q1 : H6 D1 = some (.lst [])) (q2 : H6 D2 = some (.lst [])) (q9 : H6 D9 = some (.lst [])) :
    ∃ L', Stp (· = k) H L (upd H6 s (HO.dK (putK kvs (kN g) (.ref W)))) L' ∧ RwA L' k (upd H6 s (HO.dK (putK kvs (kN g) (.ref W)))) s (upM M g ⟨[], [], []⟩) := by
  have stA := (Stp.of_same (S := (· = k)) hL sm).relabel (l := (k, 1, g)) fW (hL.none fW) hW
  have stB := stA.relabel (l := (k, 2, g)) f1 (by rw [updL_ne n1W]; exact hL.none f1) q1
  have stC := stB.relabel (l := (k, 3, g)) f2 (by rw [updL_ne n12.symm, updL_ne n2W]; exact hL.none f2) q2
  have stD := stC.relabel (l := (k, 4, g)) f9 (by rw [updL_ne n29.symm, updL_ne n19.symm, updL_ne n9W]; exact hL.none f9) q9
  have lW : updL (updL (updL (updL L W (k, 1, g)) D1 (k, 2, g)) D2 (k, 3, g)) D9 (k, 4, g) W = some (k, 1, g) := by rw [updL_ne n9W.symm, updL_ne n2W.symm, updL_ne n1W.symm, updL_same]
  have lD1 : updL (updL (updL (updL L W (k, 1, g)) D1 (k, 2, g)) D2 (k, 3, g)) D9 (k, 4, g) D1 = some (k, 2, g) := by rw [updL_ne n19, updL_ne n12, updL_same]
  have lD2 : updL (updL (updL (updL L W (k, 1, g)) D1 (k, 2, g)) D2 (k, 3, g)) D9 (k, 4, g) D2 = some (k, 3, g) := by rw [updL_ne n29, updL_same]
  have lD9 : updL (updL (updL (updL L W (k, 1, g)) D1 (k, 2, g)) D2 (k, 3, g)) D9 (k, 4, g) D9 = some (k, 4, g) := updL_same
  generalize updL (updL (updL (updL L W (k, 1, g)) D1 (k, 2, g)) D2 (k, 3, g)) D9 (k, 4, g) = L6 at *
  have ls6 := stD.ext _ _ h.ls
  have hs6 := sm _ _ h.hs
  have stE := stD.trans (Stp.write (S := (· = k)) (o := HO.dK (putK kvs (kN g) (V.ref W))) stD.lab ls6 rfl hs6)
  refine ⟨L6, stE, _, ls6, upd_same, (h.dm.mono fun g' r' v' _ z => z.of stE.ext (fun x j o hl h1 hx => ?_) (.of_stp stE)).put hg ⟨W, .ref D1, .ref D2, .ref D9, rfl, lW, ?_, ⟨D1, [], rfl, lD1, ?_, Its.nil⟩, ⟨D2, [], rfl, lD2, ?_, Its.nil⟩, ⟨D9, [], rfl, lD9, ?_, Its.nil⟩⟩⟩
  · rw [upd_ne (lne (stD.ext _ _ hl) ls6 (by simp; omega))]; exact sm _ _ hx
  · rw [upd_ne (lne lW ls6 (by simp))]; exact hW
  · rw [upd_ne (lne lD1 ls6 (by simp))]; exact q1
  · rw [upd_ne (lne lD2 ls6 (by simp))]; exact q2
  · rw [upd_ne (lne lD9 ls6 (by simp))]; exact q9
theorem pure_law {K : PySem.W.Frag} {a : Ad} (C : Cl K a) {x0 : V} {H : Hp} {Q : VK} {E : XK}
    (h : pr_law K a x0 H Q E) : t_law K a { nx := fun _ H' => Q .non H', rt := Q } [some x0, none, none, none, none, none, none, none, none, none, none, none, none, none, none, none] H := by
  obtain ⟨s, ns, rfl, hs, h63, q⟩ := h
  unfold t_law
  walk_at "rd"
  refine sp2_i ⟨s, ns, 0, rfl, rfl, hs, fun c0 => ?_⟩
  walk_at "rd"
  refine sp3_i ⟨c0, 8, 1000000, rfl, rfl, rfl, by decide, by decide, by decide, fun sh shl H1 shlen shb hshl sm1 h1 => ?_⟩
  walk_at "rd"
  refine sp2_i ⟨s, ns, 1, rfl, rfl, sm1.seq hs, fun c1 => ?_⟩
  walk_at "rd"
  refine sp3_i ⟨c1, 18, 1000000, rfl, rfl, rfl, by decide, by decide, by decide, fun nu nl H2 nulen nub hnl sm2 h2 => ?_⟩
  have sm12 := sm1.trans sm2
  walk_at "rd"
  refine sp2_i ⟨s, ns, 2, rfl, rfl, sm12.seq hs, fun c2 => ?_⟩
  walk_at "rd"
  refine sp2_i ⟨c2, 6, rfl, rfl, by decide, fun O ol H3 pm hol sm3 h3 => ?_⟩
  have sm13 := sm12.trans sm3
  have hsh3 := (sm2.trans sm3) _ _ h1
  have hnl3 := sm3 _ _ h2
  have ix : ∀ j : Int, 0 ≤ j → j < 8 → ∃ u, (0 ≤ u ∧ u < 1000000) ∧ atI (intsL sh) j = some (.int u) := fun j h0 h1 => by
    obtain ⟨u, hu, e⟩ := at_ints (ns := sh) h0 (by omega)
    exact ⟨u, shb u hu, e⟩
  obtain ⟨v0, _, e0⟩ := ix 0 (by decide) (by decide)
  obtain ⟨v1, _, e1⟩ := ix 1 (by decide) (by decide)
  obtain ⟨v2, _, e2⟩ := ix 2 (by decide) (by decide)
  obtain ⟨v3, _, e3⟩ := ix 3 (by decide) (by decide)
  obtain ⟨v4, _, e4⟩ := ix 4 (by decide) (by decide)
  obtain ⟨v5, _, e5⟩ := ix 5 (by decide) (by decide)
  walk_at "rd"
  refine k_ixL (.inl (.inl hsh3)) e0 ?_
  walk_at "rd"
  refine k_i (by decide) ?_
  walk_at "rd"
  obtain ⟨n, hn, hn2, hn6⟩ : ∃ n : Nat, 2 + v0 % 5 = n ∧ 2 ≤ n ∧ n ≤ 6 := ⟨(2 + v0 % 5).toNat, by omega, by omega, by omega⟩
  rw [hn]
  refine k_slL (.inl (.inl h3)) fun gl hgl => ?_
  have hO6 : O.length = 6 := by rw [pm.length_eq, List.length_range]
  have hcut : cutV (intL O) none (some (n : Nat)) = intL (O.take n) := by rw [cutV_take]; unfold intL; rw [List.map_take]
  rw [hcut]
  have ndO : O.Nodup := pm.nodup_iff.mpr List.nodup_range
  have ndG : (O.take n).Nodup := List.Pairwise.sublist (List.take_sublist n O) ndO
  have g6 : ∀ g ∈ O.take n, g < 6 := fun g hg => List.mem_range.mp (pm.mem_iff.mp (List.mem_of_mem_take hg))
  have lG : (O.take n).length = n := by rw [List.length_take]; omega
  generalize O.take n = G at *
  have sm4 := same_new (o := HO.lst (intL G)) hgl
  have hg4 : upd H3 gl (HO.lst (intL G)) gl = some (.lst (intL G)) := upd_same
  have sm14 := sm13.trans sm4
  have hsh4 := sm4 _ _ hsh3
  have hnl4 := sm4 _ _ hnl3
  have fgl : H gl = none := sm13.free hgl
  have fnl : H nl = none := sm1.free hnl
  generalize upd H3 gl (HO.lst (intL G)) = H4 at *
  walk_at "rd"
  refine k_ixL (.inl (.inl hsh4)) e1 ?_
  walk_at "rd"
  refine k_i (by decide) ?_
  walk_at "rd"
  refine r_cut (fun σ' H' => ∃ la : Nat, σ' = [some (.ref s), some (.ref shl), some (.ref nl), some (.ref gl), some (.int (la : Nat)), none, none, none, none, none, none, none, none, none, none, none] ∧ H4 = H' ∧ la ≤ 400) ?_ ?_
  · walk_at "rd"
    refine k_ixL (.inl (.inl hsh4)) e2 ?_
    walk_at "rd"
    refine k_i (by decide) ?_
    walk_at "rd"
    refine kif_d (fun z => ?_) fun z => ?_
    · walk_at "rd"
      refine k_ixL (.inl (.inl hsh4)) e1 ?_
      walk_at "rd"
      refine k_i (by decide) ?_
      obtain ⟨la, hla, hla4⟩ : ∃ n : Nat, v1 % 401 = n ∧ n ≤ 400 := ⟨(v1 % 401).toNat, by omega, by omega⟩
      rw [hla]
      exact ⟨la, rfl, rfl, hla4⟩
    · walk_at "rd"
      obtain ⟨la, hla, hla4⟩ : ∃ n : Nat, v1 % 40 = n ∧ n ≤ 400 := ⟨(v1 % 40).toNat, by omega, by omega⟩
      rw [hla]
      exact ⟨la, rfl, rfl, hla4⟩
  rintro σ' H' ⟨la, rfl, rfl, hla4⟩
  walk_at "cl"
  walk_at "rd"
  refine k_make fun p0 dx hp0 hdx ne0 => ?_
  have m0 : Same H4 (upd (upd H4 dx (.own p0)) p0 (.ins a.C_Switch dx [])) := same_mk2 hp0 hdx
  refine sp1_i ⟨p0, dx, rfl, upd_same, fun t m q1 H5 ht hm hq tm tq mq kp ob ot om oq => ⟨rfl, ?_⟩⟩
  have sH5 : Same H4 H5 := fun b o e => kp b o (m0 b o e) (ne_of_none e hp0)
  have xx : ∀ z, upd (upd H4 dx (.own p0)) p0 (HO.ins a.C_Switch dx []) z = none → p0 ≠ z := fun z hz => ne_of_none (H := upd (upd H4 dx (.own p0)) p0 (.ins a.C_Switch dx [])) upd_same hz
  have lab4 : Lab H4 (fun _ => none) := fun x l e => by cases e
  obtain ⟨L5, st5, sw5⟩ := SwA.made (a := a) (S := fun _ => True) (k := 0) lab4 hp0 sH5 (m0.free ht) (m0.free hm) (m0.free hq) (xx _ ht) (xx _ hm) (xx _ hq) tm tq mq ob ot om oq
  clear ht hm hq tm tq mq kp ob ot om oq xx m0
  walk_at "rd"
  refine k_make fun p1 dx1 hp1 hdx1 ne1 => ?_
  have m1 : Same H5 (upd (upd H5 dx1 (.own p1)) p1 (.ins a.C_Switch dx1 [])) := same_mk2 hp1 hdx1
  refine sp1_i ⟨p1, dx1, rfl, upd_same, fun t m q1 H6 ht hm hq tm tq mq kp ob ot om oq => ⟨rfl, ?_⟩⟩
  have sH6 : Same H5 H6 := fun b o e => kp b o (m1 b o e) (ne_of_none e hp1)
  have xx : ∀ z, upd (upd H5 dx1 (.own p1)) p1 (HO.ins a.C_Switch dx1 []) z = none → p1 ≠ z := fun z hz => ne_of_none (H := upd (upd H5 dx1 (.own p1)) p1 (.ins a.C_Switch dx1 [])) upd_same hz
  obtain ⟨L6, st6, sw6⟩ := SwA.made (a := a) (S := fun _ => False) (k := 2) st5.lab hp1 sH6 (m1.free ht) (m1.free hm) (m1.free hq) (xx _ ht) (xx _ hm) (xx _ hq) tm tq mq ob ot om oq
  clear ht hm hq tm tq mq kp ob ot om oq xx m1
  have sw56 := sw5.keep st6 id
  walk_at "rd"
  refine k_lst (by simp) fun swl hswl => ?_
  walk_at "rd"
  refine k_lst (by simp) fun sdl hsdl => ?_
  have st7 := (st6.mono (S' := fun _ => True) fun _ _ => trivial)
  have st57 := st5.trans st7
  have sA := same_new (o := HO.lst [V.ref p0, V.ref p1]) hswl
  have sB := same_new (o := HO.lst []) hsdl
  have sH46 := sH5.trans sH6
  have hsw8 := sB _ _ (show upd H6 swl (HO.lst [V.ref p0, V.ref p1]) swl = some (.lst [.ref p0, .ref p1]) from upd_same)
  have hsd8 : upd (upd H6 swl (HO.lst [V.ref p0, V.ref p1])) sdl (HO.lst []) sdl = some (.lst []) := upd_same
  have nss : swl ≠ sdl := ne_of_none (H := upd H6 swl (HO.lst [V.ref p0, V.ref p1])) upd_same hsdl
  have f8 : H4 swl = none := sH46.free hswl
  have f9 : H4 sdl = none := sH46.free (sA.free hsdl)
  have sAB := sA.trans sB
  generalize upd (upd H6 swl (HO.lst [V.ref p0, V.ref p1])) sdl (HO.lst []) = H8 at *
  have n1 : L6 swl = none := st57.lab.none hswl
  have n2 : updL L6 swl (9, 0, 0) sdl = none := by rw [updL_ne nss.symm]; exact st57.lab.none (sA.free hsdl)
  have st8 := ((st57.trans (Stp.of_same (S := fun _ => True) st57.lab sAB)).relabel (l := (9, 0, 0)) f8 n1 hsw8).relabel (l := (9, 1, 0)) f9 n2 hsd8
  have stM : Stp (fun _ => False) H6 L6 H8 (updL (updL L6 swl (9, 0, 0)) sdl (9, 1, 0)) := ((Stp.of_same (S := fun _ => False) st57.lab sAB).relabel (l := (9, 0, 0)) hswl n1 hsw8).relabel (l := (9, 1, 0)) (sA.free hsdl) n2 hsd8
  have lsw8 : updL (updL L6 swl (9, 0, 0)) sdl (9, 1, 0) swl = some (9, 0, 0) := by rw [updL_ne nss, updL_same]
  have lsd8 : updL (updL L6 swl (9, 0, 0)) sdl (9, 1, 0) sdl = some (9, 1, 0) := updL_same
  have swA := sw56.keep stM id
  have swB := sw6.keep stM id
  have lgl : ∀ x o, H4 x = some o → updL (updL L6 swl (9, 0, 0)) sdl (9, 1, 0) x = none := fun x o e => st8.nolab rfl e
  have hg8 := st8.unl rfl hg4
  have hsh8 := st8.unl rfl hsh4
  have hnl8 := st8.unl rfl hnl4
  have lg8 := lgl _ _ hg4
  have lsh8 := lgl _ _ hsh4
  have lnl8 := lgl _ _ hnl4
  have hs8 := (show Same H4 H8 from fun b o e => st8.unl rfl e).seq (sm14.seq hs)
  generalize updL (updL L6 swl (9, 0, 0)) sdl (9, 1, 0) = L8 at *
  clear lgl n1 n2 stM sw56 sw5 sw6 st57 st7 st6 st5
  walk_at "rd"
  have bs8 : Bs L8 H8 gl shl nl swl sdl p0 p1 G sh nu := ⟨lg8, hg8, lsh8, hsh8, lnl8, hnl8, lsw8, hsw8, lsd8⟩
  have sts8 : Sts a p0 p1 G (400 - la) 0 [] L8 H8 := .inl ⟨rfl, rfl, swA, swB⟩
  have hla : (400 : Int) - (la : Nat) = ((400 - la : Nat) : Nat) := by omega
  clear swA swB lg8 hg8 lsh8 hsh8 lnl8 hnl8 lsw8 hsw8
  refine r_cut (fun σ' H' => ∃ u7 u8 L s0 s1 MM, σ' = [some (.ref s), some (.ref shl), some (.ref nl), some (.ref gl), some (.int (la : Nat)), some (.ref swl), some (.ref sdl), u7, u8, none, none, none, none, none, none, none] ∧ Stp (fun _ => True) H4 (fun _ => none) H' L ∧
    Wd a L H' gl shl swl sdl p0 s0 p1 s1 0 G sh MM ∧ Al MM G (fun _ => 2) (fun _ => 133) (fun _ => 133) ∧ ∀ g r, G[0]? = some g → MM 0 g = some r → r.ml.length = 400 - la) ?_ ?_
  · walk_at "rd"
    refine k_rng1 (n := 2) (by decide) (fun k σ' H' => ∃ u7 u8 L xs, σ' = [some (.ref s), some (.ref shl), some (.ref nl), some (.ref gl), some (.int (la : Nat)), some (.ref swl), some (.ref sdl), u7, u8, none, none, none, none, none, none, none] ∧
        Stp (fun _ => True) H4 (fun _ => none) H' L ∧ Bs L H' gl shl nl swl sdl p0 p1 G sh nu ∧ H' sdl = some (.lst xs) ∧ Sts a p0 p1 G (400 - la) k xs L H') ⟨_, _, L8, [], rfl, st8, bs8, hsd8, sts8⟩ ?_ ?_
    · rintro k σ' H9 hk ⟨u7, u8, L9, xs, rfl, st9, bs9, hsd9, sts9⟩
      obtain ⟨hxl, p, kp, kr, hpk, sw9, hne, hkp, hkr, nx⟩ := sts9.next hk
      walk_at "rd"
      refine k_ixL (.inl (.inl bs9.hsw)) (atI_nat hpk) ?_
      walk_at "rd"
      refine k_ixL (.inl (.inl bs9.hsh)) e3 ?_
      walk_at "rd"
      rw [hla]
      refine sp5_i ⟨p, gl, nl, G, _, nu, 400 - la, L9, kp, kr, rfl, rfl, rfl, rfl, rfl, st9.lab, sw9, bs9.lg, bs9.hg, ndG, g6, bs9.lnl, bs9.hnl, nulen, by omega, hne, fun sr M H10 L10 st10 d10 iv10 dm10 f10 => ?_⟩
      walk_at "rd"
      refine kif_no (by simp) ?_
      have n9 : ¬ Two kp kr 9 := fun z => by rcases z with z | z <;> omega
      have hsd10 := st10.lbl bs9.lsd n9 hsd9
      have bs10 := bs9.keep st10 n9
      walk_at "rd"
      refine k_append hsd10 (by omega) ?_
      have stw : Stp (· = 9) H10 L10 (upd H10 sdl (HO.lst (xs ++ [V.ref sr]))) L10 := Stp.write st10.lab bs10.lsd rfl hsd10
      have ww : ∀ x o, (L10 x = none ∨ ∃ l, L10 x = some l ∧ l ≠ (9, 1, 0)) → H10 x = some o → upd H10 sdl (HO.lst (xs ++ [V.ref sr])) x = some o := fun x o hx e => by
        rw [upd_ne]; exact e
        intro z
        rcases hx with hx | ⟨l, hx, hl⟩
        · rw [z, bs10.lsd] at hx; cases hx
        · rw [z, bs10.lsd] at hx; cases hx; exact hl rfl
      refine ⟨_, _, L10, _, rfl, (st9.trans (st10.mono fun _ _ => trivial)).trans (stw.mono fun _ _ => trivial), ⟨bs10.lg, ww _ _ (.inl bs10.lg) bs10.hg, bs10.lsh, ww _ _ (.inl bs10.lsh) bs10.hsh, bs10.lnl, ww _ _ (.inl bs10.lnl) bs10.hnl, bs10.lsw, ww _ _ (.inr ⟨_, bs10.lsw, by simp⟩) bs10.hsw, bs10.lsd⟩, upd_same, (nx sr M H10 L10 st10 d10 ⟨iv10, dm10, f10⟩).keep stw fun i hi z => by omega⟩
    · rintro σ' H9 ⟨u7, u8, L9, xs, rfl, st9, bs9, hsd9, sts9⟩
      rcases sts9 with ⟨e, _⟩ | ⟨e, _⟩ | ⟨_, s0, s1, M0, M1, rfl, d0, i0, d1, i1⟩
      · omega
      · omega
      dsimp only
      refine ⟨_, _, L9, s0, s1, fun j => if j = 0 then M0 else M1, rfl, st9, ⟨bs9.lg, bs9.hg, bs9.lsh, bs9.hsh, bs9.lsw, bs9.hsw, bs9.lsd, hsd9, d0, d1⟩, ⟨fun j hj => ?_, fun j hj => ?_⟩, i0.2.2⟩
      · by_cases e : j = 0
        · subst e; exact i0.1
        · have : j = 1 := by omega
          subst this; exact i1.1
      · by_cases e : j = 0
        · subst e; exact i0.2.1
        · have : j = 1 := by omega
          subst this; exact i1.2.1
  rintro σ' H9 ⟨u7, u8, L9, s0, s1, MM, rfl, st9, wd9, al9, f9⟩
  clear bs8 sts8 hsd8 lsd8 st8 hs8 sAB sA sB
  walk_at "rd"
  have anG : ∀ (j : Nat) g, G[j]? = some g → atI (intL G) (j : Nat) = some (V.int (g : Nat)) := fun j g e => atI_nat (by unfold intL; rw [List.getElem?_map, e]; rfl)
  obtain ⟨t0, ht0⟩ : ∃ t, G[0]? = some t := ⟨G[0], List.getElem?_eq_getElem (by omega)⟩
  obtain ⟨t1, ht1⟩ : ∃ t, G[1]? = some t := ⟨G[1], List.getElem?_eq_getElem (by omega)⟩
  have a0 : atI (intL G) 0 = some (V.int (t0 : Nat)) := by
    have z := anG 0 t0 ht0
    simpa using z
  have a1 : atI (intL G) 1 = some (V.int (t1 : Nat)) := by
    have z := anG 1 t1 ht1
    simpa using z
  have mt0 : t0 ∈ G := List.mem_of_getElem? ht0
  have mt1 : t1 ∈ G := List.mem_of_getElem? ht1
  have t01 : t1 ≠ t0 := fun z => by
    rw [z] at ht1
    exact absurd (nodup_ix ndG ht0 ht1) (by decide)
  have h0 := g6 t0 mt0
  refine k_ixL (.inl (.inl wd9.hg)) a0 ?_
  walk_at "rd"
  refine k_ixL (.inl (.inl wd9.hsh)) e4 ?_
  walk_at "rd"
  refine k_i (by decide) ?_
  walk_at "rd"
  obtain ⟨many, hmany, hm1⟩ : ∃ n : Nat, ((la : Nat) : Int) + 5 + v4 % 40 = n ∧ n ≤ 444 := ⟨(((la : Nat) : Int) + 5 + v4 % 40).toNat, by omega, by omega⟩
  rw [hmany]
  have hs9 : SqL K H9 s (ns.map .int) := (show Same H4 H9 from fun b o e => st9.unl rfl e).seq (sm14.seq hs)
  refine sp2_i ⟨s, ns, 3, rfl, rfl, hs9, fun c3 => ?_⟩
  walk_at "rd"
  refine sp3_i ⟨c3, many, 1000000, rfl, rfl, rfl, by omega, by decide, by decide, fun ds dl H10 dlen dsb hdl s910 hdl' => ?_⟩
  have wd10 := wd9.same st9.lab s910
  have st10 := st9.trans (Stp.of_same (S := fun _ => True) st9.lab s910)
  have ldl : L9 dl = none := st9.lab.none hdl
  walk_at "rd"
  refine k_rng1 (by omega) (fun k σ' H' => ∃ u7 u8 u12 u13 u14 u15 L MM, σ' = [some (.ref s), some (.ref shl), some (.ref nl), some (.ref gl), some (.int (la : Nat)), some (.ref swl), some (.ref sdl), u7, u8, some (.int (t0 : Nat)), some (.int (many : Nat)), some (.ref dl), u12, u13, u14, u15] ∧
      Stp (fun _ => True) H4 (fun _ => none) H' L ∧ L dl = none ∧ H' dl = some (.lst (intsL ds)) ∧ Wd a L H' gl shl swl sdl p0 s0 p1 s1 0 G sh MM ∧ Al MM G (fun _ => 2 + k) (fun _ => 133) (fun _ => 500 + ((k : Nat) : Int) / 2) ∧ ∀ r, MM 0 t0 = some r → 400 - la ≤ r.ml.length)
    ⟨_, _, _, _, _, _, L9, MM, rfl, st10, ldl, hdl', wd10, al9.mono (fun _ _ => Nat.le_refl _) (fun _ _ => Int.le_refl _) (fun _ _ => by decide), fun r e => by rw [f9 t0 r ht0 e]; exact Nat.le_refl _⟩ ?_ ?_
  · rintro k σ' H11 hk ⟨u7, u8, u12, u13, u14, u15, L11, MM, rfl, st11, ldl, hdl, wd, al, hml⟩
    obtain ⟨d, hd0, hd1, hdk⟩ : ∃ d, 0 ≤ d ∧ d < 1000000 ∧ atI (intsL ds) (k : Nat) = some (.int d) := by
      obtain ⟨u, hu, e⟩ := at_ints (ns := ds) (j := (k : Nat)) (by omega) (by omega)
      exact ⟨u, (dsb u hu).1, (dsb u hu).2, e⟩
    have lng : (intL G).length = n := by unfold intL; rw [List.length_map, lG]
    walk_at "rd"
    refine k_ixL (.inl (.inl hdl)) hdk ?_
    have hgw := wd.hg
    walk_at "rd"
    rw [lng]
    refine k_i (by omega) ?_
    obtain ⟨ig, hig, hign⟩ : ∃ i : Nat, d % ((n : Nat) : Int) = i ∧ i < n := by
      have m1 := Int.emod_nonneg d (b := (n : Int)) (by omega)
      have m2 := Int.emod_lt_of_pos d (b := (n : Int)) (by omega)
      exact ⟨(d % (n : Int)).toNat, by omega, by omega⟩
    rw [hig]
    obtain ⟨g, hgg⟩ : ∃ g, G[ig]? = some g := ⟨G[ig], List.getElem?_eq_getElem (by omega)⟩
    refine k_ixL (.inl (.inl hgw)) (anG ig g hgg) ?_
    walk_at "rd"
    refine k_ixL (.inl (.inl hdl)) hdk ?_
    walk_at "rd"
    refine k_i ⟨by decide, by decide⟩ ?_
    walk_at "rd"
    refine k_i (by decide) ?_
    obtain ⟨pe, hpe, hpe7⟩ : ∃ i : Nat, d / 8 % 8 = i ∧ i ≤ 7 := ⟨(d / 8 % 8).toNat, by omega, by omega⟩
    rw [hpe]
    walk_at "rd"
    refine r_cut (fun σ' H' => ∃ pe : Nat, σ' = [some (.ref s), some (.ref shl), some (.ref nl), some (.ref gl), some (.int (la : Nat)), some (.ref swl), some (.ref sdl), u7, u8, some (.int (t0 : Nat)), some (.int (many : Nat)), some (.ref dl), some (.int (k : Nat)), some (.int (g : Nat)), some (.int (pe : Nat)), u15] ∧ H11 = H' ∧ pe ≤ 7) ?_ ?_
    · walk_at "rd"
      refine k_ixL (.inl (.inl hdl)) hdk ?_
      walk_at "rd"
      refine k_i ⟨by decide, by decide⟩ ?_
      walk_at "rd"
      refine k_i (by decide) ?_
      walk_at "rd"
      refine kif_d (fun z => ?_) fun z => ?_
      · refine kif_t ?_
        walk_at "rd"
        exact ⟨t0, rfl, rfl, by omega⟩
      · walk_at "rd"
        refine kif_d (fun z => ?_) fun z => ?_
        · walk_at "rd"
          exact ⟨t0, rfl, rfl, by omega⟩
        · walk_at "rd"
          exact ⟨pe, rfl, rfl, hpe7⟩
    rintro σ' H' ⟨pe, rfl, rfl, hpe7⟩
    refine r_cut (fun σ' H' => ∃ g : Nat, σ' = [some (.ref s), some (.ref shl), some (.ref nl), some (.ref gl), some (.int (la : Nat)), some (.ref swl), some (.ref sdl), u7, u8, some (.int (t0 : Nat)), some (.int (many : Nat)), some (.ref dl), some (.int (k : Nat)), some (.int (g : Nat)), some (.int (pe : Nat)), u15] ∧ H11 = H' ∧ g ∈ G) ?_ ?_
    · walk_at "rd"
      refine kif_d (fun z => ?_) fun z => ?_
      · walk_at "rd"
        exact ⟨t0, rfl, rfl, mt0⟩
      · walk_at "rd"
        exact ⟨g, rfl, rfl, List.mem_of_getElem? hgg⟩
    rintro σ' H' ⟨g, rfl, rfl, hgG⟩
    walk_at "rd"
    refine k_ixL (.inl (.inl hdl)) hdk ?_
    walk_at "rd"
    refine k_i ⟨by decide, by decide⟩ ?_
    walk_at "rd"
    refine k_i (by decide) ?_
    walk_at "rd"
    refine k_rng1 (n := 2) (by decide) (fun j σ' H' => ∃ u7 L MM, σ' = [some (.ref s), some (.ref shl), some (.ref nl), some (.ref gl), some (.int (la : Nat)), some (.ref swl), some (.ref sdl), u7, u8, some (.int (t0 : Nat)), some (.int (many : Nat)), some (.ref dl), some (.int (k : Nat)), some (.int (g : Nat)), some (.int (pe : Nat)), some (.int (d / 16 % 65521))] ∧
        Stp (fun _ => True) H4 (fun _ => none) H' L ∧ L dl = none ∧ H' dl = some (.lst (intsL ds)) ∧ Wd a L H' gl shl swl sdl p0 s0 p1 s1 0 G sh MM ∧ Al MM G (fun i => if i < j then 3 + k else 2 + k) (fun _ => 133) (fun _ => 500 + ((k : Nat) : Int) / 2) ∧ ∀ r, MM 0 t0 = some r → 400 - la ≤ r.ml.length)
      ⟨_, L11, MM, rfl, st11, ldl, hdl, wd, al.mono (fun i _ => by simp) (fun _ _ => Int.le_refl _) (fun _ _ => Int.le_refl _), hml⟩ ?_ ?_
    · rintro j σ' H12 hj ⟨u7, L12, MM, rfl, st12, ldl, hdl, wd, al, hml⟩
      obtain ⟨p, sr, kp, kr, hpj, hsj, sd, hkp, hkr, back⟩ := wd.pick (.inl rfl) hj
      have ivj := al.iv j hj
      have bj : (if j < j then 3 + k else 2 + k) = 2 + k := if_neg (Nat.lt_irrefl j)
      simp only [bj] at ivj
      obtain ⟨rg, hrg⟩ := (al.dm j hj g).mpr hgG
      obtain ⟨_, _, hps, _⟩ := ivj.g g rg hrg
      have fin : ∀ H13, Stp (Two kp kr) H12 L12 H13 L12 → Side a L12 kp kr H13 p sr (postM (MM j) g (k : Nat) pe (d / 16 % 65521) (500 + ((k : Nat) : Int) / 2)) → ∃ u7 L MM, [some (V.ref s), some (.ref shl), some (.ref nl), some (.ref gl), some (.int (la : Nat)), some (.ref swl), some (.ref sdl), some (.int (j : Nat)), u8, some (.int (t0 : Nat)), some (.int (many : Nat)), some (.ref dl), some (.int (k : Nat)), some (.int (g : Nat)), some (.int (pe : Nat)), some (.int (d / 16 % 65521))] = [some (V.ref s), some (.ref shl), some (.ref nl), some (.ref gl), some (.int (la : Nat)), some (.ref swl), some (.ref sdl), u7, u8, some (.int (t0 : Nat)), some (.int (many : Nat)), some (.ref dl), some (.int (k : Nat)), some (.int (g : Nat)), some (.int (pe : Nat)), some (.int (d / 16 % 65521))] ∧
          Stp (fun _ => True) H4 (fun _ => none) H13 L ∧ L dl = none ∧ H13 dl = some (.lst (intsL ds)) ∧ Wd a L H13 gl shl swl sdl p0 s0 p1 s1 0 G sh MM ∧ Al MM G (fun i => if i < j + 1 then 3 + k else 2 + k) (fun _ => 133) (fun _ => 500 + ((k : Nat) : Int) / 2) ∧ ∀ r, MM 0 t0 = some r → 400 - la ≤ r.ml.length := fun H13 st13 sd13 => by
        have ivn : Inv (postM (MM j) g (k : Nat) pe (d / 16 % 65521) (500 + ((k : Nat) : Int) / 2)) (3 + k) 133 (500 + ((k : Nat) : Int) / 2) := (inv_post ivj (by omega) (Int.le_refl _)).mono (by omega) (Int.le_refl _) (Int.le_refl _)
        refine ⟨_, L12, upF MM j (postM (MM j) g (k : Nat) pe (d / 16 % 65521) (500 + ((k : Nat) : Int) / 2)), rfl, st12.trans (st13.mono fun _ _ => trivial), ldl, st13.unl ldl hdl, back H13 L12 _ st13 sd13,
          al.put (j := j) (B' := fun i => if i < j + 1 then 3 + k else 2 + k) (by simpa using ivn) (fun g => postM_dom) (fun i hi => by split <;> split <;> omega) (fun _ _ => Int.le_refl _) (fun _ _ => Int.le_refl _) hj, fun r e => ?_⟩
        by_cases hj0 : j = 0
        · subst hj0
          rw [upF_same] at e
          obtain ⟨r0, e0, l0, _⟩ := postM_ml e
          exact Nat.le_trans (hml r0 e0) l0
        · rw [upF_ne (Ne.symm hj0)] at e; exact hml r e
      walk_at "rd"
      refine kif_d (fun z => ?_) fun z => ?_
      · refine kif_t ?_
        walk_at "rd"
        refine k_ixL (.inl (.inl wd.hsw)) (atI_nat hpj) ?_
        walk_at "rd"
        refine k_ixL (.inl (.inl wd.hsd)) (atI_nat hsj) ?_
        walk_at "rd"
        refine k_i ⟨by decide, by decide⟩ ?_
        walk_at "rd"
        refine sp7_i ⟨p, sr, g, pe, (k : Nat), _, _, L12, kp, kr, MM j, rfl, rfl, rfl, rfl, rfl, rfl, rfl, st12.lab, sd, ⟨rg, hrg, by omega⟩, by omega, hpe7, by omega, by omega, by omega, fun r e => ⟨(ivj.g pe r e).2.1, (ivj.g pe r e).2.2.2.2.1.two⟩, fun r e _ => (ivj.g pe r e).2.2.2.2.1.last, fun H13 st13 sd13 => ?_⟩
        walk_at "rd"
        refine kif_f ?_
        walk_at "rd"
        exact fin H13 st13 sd13
      · walk_at "rd"
        refine k_i (by decide) ?_
        walk_at "rd"
        refine kif_d (fun z => ?_) fun z => ?_
        · walk_at "rd"
          refine k_ixL (.inl (.inl wd.hsw)) (atI_nat hpj) ?_
          walk_at "rd"
          refine k_ixL (.inl (.inl wd.hsd)) (atI_nat hsj) ?_
          walk_at "rd"
          refine k_i ⟨by decide, by decide⟩ ?_
          walk_at "rd"
          refine sp7_i ⟨p, sr, g, pe, (k : Nat), _, _, L12, kp, kr, MM j, rfl, rfl, rfl, rfl, rfl, rfl, rfl, st12.lab, sd, ⟨rg, hrg, by omega⟩, by omega, hpe7, by omega, by omega, by omega, fun r e => ⟨(ivj.g pe r e).2.1, (ivj.g pe r e).2.2.2.2.1.two⟩, fun r e _ => (ivj.g pe r e).2.2.2.2.1.last, fun H13 st13 sd13 => ?_⟩
          walk_at "rd"
          refine kif_f ?_
          walk_at "rd"
          exact fin H13 st13 sd13
        · walk_at "rd"
          exact ⟨_, L12, MM, rfl, st12, ldl, hdl, wd, al.mono (fun i _ => by split <;> split <;> omega) (fun _ _ => Int.le_refl _) (fun _ _ => Int.le_refl _), hml⟩
    · rintro σ' H12 ⟨u7, L12, MM, rfl, st12, ldl, hdl, wd, al, hml⟩
      dsimp only
      exact ⟨_, _, _, _, _, _, L12, MM, rfl, st12, ldl, hdl, wd, al.mono (fun i hi => by simp [hi]; omega) (fun _ _ => Int.le_refl _) (fun _ _ => by omega), hml⟩
  · rintro σ' H11 ⟨u7, u8, u12, u13, u14, u15, L11, MM, rfl, st11, ldl, hdl, wd, al, hml⟩
    refine r_cut (fun σ' H' => ∃ u7 u8 u12 u13 u14 u15 L MM, σ' = [some (.ref s), some (.ref shl), some (.ref nl), some (.ref gl), some (.int (la : Nat)), some (.ref swl), some (.ref sdl), u7, u8, some (.int (t0 : Nat)), some (.int (many : Nat)), some (.ref dl), u12, u13, u14, u15] ∧ Stp (fun _ => True) H4 (fun _ => none) H' L ∧ Wd a L H' gl shl swl sdl p0 s0 p1 s1 0 G sh MM ∧
      Al MM G (fun _ => 846) (fun _ => 133) (fun _ => 1000) ∧ ∀ r, MM 0 t0 = some r → r.ml.length = 400) ?_ ?_
    · walk_at "rd"
      refine k_rng1 (by omega) (fun k σ' H' => ∃ u12 L MM, σ' = [some (.ref s), some (.ref shl), some (.ref nl), some (.ref gl), some (.int (la : Nat)), some (.ref swl), some (.ref sdl), u7, u8, some (.int (t0 : Nat)), some (.int (many : Nat)), some (.ref dl), u12, u13, u14, u15] ∧ Stp (fun _ => True) H4 (fun _ => none) H' L ∧ Wd a L H' gl shl swl sdl p0 s0 p1 s1 0 G sh MM ∧
          Al MM G (fun _ => 446 + k) (fun _ => 133) (fun _ => 1000) ∧ ∀ r, MM 0 t0 = some r → min 400 (400 - la + k) ≤ r.ml.length)
        ⟨_, L11, MM, rfl, st11, wd, al.mono (fun _ _ => by omega) (fun _ _ => Int.le_refl _) (fun _ _ => by omega), fun r e => Nat.le_trans (by omega) (hml r e)⟩ ?_ ?_
      · rintro k σ' H12 hk ⟨u12, L12, MM, rfl, st12, wd, al, hml⟩
        obtain ⟨p, sr, kp, kr, hpj, hsj, sd, hkp, hkr, back⟩ := wd.pick (.inl rfl) (j := 0) (by decide)
        cases hpj
        cases hsj
        have ivj := al.iv 0 (by decide)
        obtain ⟨rg, hrg⟩ := (al.dm 0 (by decide) t1).mpr mt1
        obtain ⟨_, _, hps, _⟩ := ivj.g t1 rg hrg
        walk_at "rd"
        refine k_ixL (.inl (.inl wd.hsw)) at0 ?_
        walk_at "rd"
        refine k_ixL (.inl (.inl wd.hsd)) at0 ?_
        walk_at "rd"
        refine k_ixL (.inl (.inl wd.hg)) a1 ?_
        walk_at "rd"
        refine sp7_i ⟨p0, s0, t1, t0, 3, (k : Nat), 1000, L12, kp, kr, MM 0, rfl, rfl, rfl, rfl, rfl, rfl, rfl, st12.lab, sd, ⟨rg, hrg, by omega⟩, by decide, by omega, by omega, by omega, by decide, fun r e => ⟨(ivj.g t0 r e).2.1, (ivj.g t0 r e).2.2.2.2.1.two⟩, fun r e _ => (ivj.g t0 r e).2.2.2.2.1.last, fun H13 st13 sd13 => ?_⟩
        walk_at "rd"
        refine kif_f ?_
        walk_at "rd"
        have ivn : Inv (postM (MM 0) t1 3 t0 (k : Nat) 1000) (446 + (k + 1)) 133 1000 := (inv_post ivj (by decide) (Int.le_refl _)).mono (by omega) (Int.le_refl _) (Int.le_refl _)
        refine ⟨_, L12, upF MM 0 (postM (MM 0) t1 3 t0 (k : Nat) 1000), rfl, st12.trans (st13.mono fun _ _ => trivial), back H13 L12 _ st13 sd13,
          al.put (j := 0) (B' := fun _ => 446 + (k + 1)) ivn (fun g => postM_dom) (fun i hi => by omega) (fun _ _ => Int.le_refl _) (fun _ _ => Int.le_refl _) (by decide), fun r e => ?_⟩
        rw [upF_same] at e
        obtain ⟨r0, e0, l0, l1⟩ := postM_ml e
        have := hml r0 e0
        by_cases h4 : r0.ml.length < 400
        · have := l1 rfl h4
          omega
        · omega
      · rintro σ' H12 ⟨u12, L12, MM, rfl, st12, wd, al, hml⟩
        dsimp only
        refine ⟨_, _, _, _, _, _, L12, MM, rfl, st12, wd, al.mono (fun _ _ => by omega) (fun _ _ => Int.le_refl _) (fun _ _ => Int.le_refl _), fun r e => ?_⟩
        have h1 := hml r e
        have h2 := ((al.iv 0 (by decide)).g t0 r e).2.1
        omega
    rintro σ' H12 ⟨u7, u8, u12, u13, u14, u15, L12, MM, rfl, st12, wd, al, h400⟩
    clear ldl hdl hml st11 al9 wd9 st9 f9 wd10 st10
    obtain ⟨r0, hr0⟩ := (al.dm 0 (by decide) t0).mpr mt0
    obtain ⟨kvs, R⟩ := id wd.d0.rw_
    obtain ⟨w, l, y0, z0, vs, ev, lw, hw, ll, hl, its, _⟩ := R.ml hr0
    have hlen : vs.length = 400 := its.len.trans (h400 r0 hr0)
    walk_at "rd"
    refine k_ixL (.inl (.inl wd.hsd)) at0 ?_
    walk_at "rd"
    refine k_dgetI R.hs ev ?_
    walk_at "rd"
    refine k_ixL (.inl (.inl hw)) at1 ?_
    walk_at "rd"
    rw [hlen]
    refine kif_no (by simp) ?_
    walk_at "rd"
    refine k_ixL (.inl (.inl wd.hsw)) at0 ?_
    walk_at "rd"
    refine k_ixL (.inl (.inl wd.hsd)) at0 ?_
    walk_at "rd"
    refine sp2_i ⟨p0, s0, L12, 0, 1, MM 0, 133, 1000, rfl, rfl, wd.d0, (al.iv 0 (by decide)).mono (by decide) (Int.le_refl _) (Int.le_refl _), fun H13 s13 => ?_⟩
    walk_at "rd"
    refine kif_f ?_
    have wd13 := wd.same st12.lab s13
    walk_at "rd"
    refine k_ixL (.inl (.inl wd13.hsw)) at1 ?_
    walk_at "rd"
    refine k_ixL (.inl (.inl wd13.hsd)) at1 ?_
    walk_at "rd"
    refine sp2_i ⟨p1, s1, L12, 2, 3, MM 1, 133, 1000, rfl, rfl, wd13.d1, (al.iv 1 (by decide)).mono (by decide) (Int.le_refl _) (Int.le_refl _), fun H14 s14 => ?_⟩
    walk_at "rd"
    refine kif_f ?_
    have wd14 := wd13.same (st12.lab.same s13) s14
    have st14 := st12.trans (Stp.of_same (S := fun _ => True) st12.lab (s13.trans s14))
    walk_at "rd"
    refine k_forL (xs := intL G) (.inl (.inl wd14.hg)) (fun i σ' H' => ∃ u7 u14 L MM, σ' = [some (.ref s), some (.ref shl), some (.ref nl), some (.ref gl), some (.int (la : Nat)), some (.ref swl), some (.ref sdl), u7, u8, some (.int (t0 : Nat)), some (.int (many : Nat)), some (.ref dl), u12, u13, u14, u15] ∧ Stp (fun _ => True) H4 (fun _ => none) H' L ∧ Wd a L H' gl shl swl sdl p0 s0 p1 s1 0 G sh MM ∧
        Al MM G (fun _ => 846 + i) (fun _ => 133) (fun _ => 1000)) ⟨_, _, L12, MM, rfl, st14, wd14, al⟩ (fun i σ' H' _ ⟨_, _, _, _, _, _, wd, _⟩ => .inl (.inl wd.hg)) ?_ ?_
    · rintro i x σ' H15 hx ⟨u7, u14, L15, MM, rfl, st15, wd, al⟩
      obtain ⟨pe, hpe, rfl⟩ : ∃ g, G[i]? = some g ∧ V.int (g : Nat) = x := by
        unfold intL at hx
        rw [List.getElem?_map] at hx
        exact Option.map_eq_some_iff.mp hx
      have hi6 : i < 6 := by
        have := (List.getElem?_eq_some_iff.mp hpe).1
        omega
      have mpe := List.mem_of_getElem? hpe
      refine r_gn ?_
      walk_at "rd"
      refine k_rng1 (n := 2) (by decide) (fun j σ' H' => ∃ u7 L MM, σ' = [some (.ref s), some (.ref shl), some (.ref nl), some (.ref gl), some (.int (la : Nat)), some (.ref swl), some (.ref sdl), u7, u8, some (.int (t0 : Nat)), some (.int (many : Nat)), some (.ref dl), u12, u13, some (.int (pe : Nat)), u15] ∧ Stp (fun _ => True) H4 (fun _ => none) H' L ∧ Wd a L H' gl shl swl sdl p0 s0 p1 s1 0 G sh MM ∧
          Al MM G (fun m => if m < j then 847 + i else 846 + i) (fun _ => 133) (fun _ => 1000)) ⟨_, L15, MM, rfl, st15, wd, al.mono (fun m _ => by simp) (fun _ _ => Int.le_refl _) (fun _ _ => Int.le_refl _)⟩ ?_ ?_
      · rintro j σ' H16 hj ⟨u7, L16, MM, rfl, st16, wd, al⟩
        obtain ⟨p, sr, kp, kr, hpj, hsj, sd, hkp, hkr, back⟩ := wd.pick (.inl rfl) hj
        have ivj := al.iv j hj
        have bj : (if j < j then 847 + i else 846 + i) = 846 + i := if_neg (Nat.lt_irrefl j)
        simp only [bj] at ivj
        obtain ⟨r1, hr1⟩ := (al.dm j hj pe).mpr mpe
        walk_at "rd"
        refine k_ixL (.inl (.inl wd.hsw)) (atI_nat hpj) ?_
        walk_at "rd"
        refine k_ixL (.inl (.inl wd.hsd)) (atI_nat hsj) ?_
        walk_at "rd"
        refine k_ixL (.inl (.inl wd.hg)) a1 ?_
        walk_at "rd"
        refine sp4_i ⟨p, sr, t1, pe, L16, kp, kr, MM j, 846 + i, 133, 1000, r1, rfl, rfl, rfl, rfl, st16.lab, sd, ivj, by omega, (al.dm j hj t1).mpr mt1, hr1, fun M' H17 st17 sd17 iv17 dm17 => ?_⟩
        walk_at "rd"
        refine kif_f ?_
        walk_at "rd"
        refine ⟨_, L16, upF MM j M', rfl, st16.trans (st17.mono fun _ _ => trivial), back H17 L16 _ st17 sd17,
          al.put (j := j) (B' := fun m => if m < j + 1 then 847 + i else 846 + i) (by simpa using iv17.mono (by omega : 846 + i + 1 ≤ 847 + i) (Int.le_refl _) (Int.le_refl _)) dm17 (fun m hm => by split <;> split <;> omega) (fun _ _ => Int.le_refl _) (fun _ _ => Int.le_refl _) hj⟩
      · rintro σ' H16 ⟨u7, L16, MM, rfl, st16, wd, al⟩
        dsimp only
        exact ⟨_, _, L16, MM, rfl, st16, wd, al.mono (fun m hm => by simp [hm]; omega) (fun _ _ => Int.le_refl _) (fun _ _ => Int.le_refl _)⟩
    · rintro σ' H15 ⟨u7, u14, L15, MM, rfl, st15, wd, al⟩
      have lng : (intL G).length ≤ 6 := by unfold intL; rw [List.length_map, lG]; exact hn6
      obtain ⟨r0, hr0⟩ := (al.dm 0 (by decide) t0).mpr mt0
      obtain ⟨p, sr, kp, kr, hpj, hsj, sd, hkp, hkr, back⟩ := wd.pick (.inl rfl) (j := 0) (by decide)
      cases hpj
      cases hsj
      walk_at "rd"
      refine k_ixL (.inl (.inl wd.hsw)) at0 ?_
      walk_at "rd"
      refine k_ixL (.inl (.inl wd.hsd)) at0 ?_
      walk_at "rd"
      refine k_ixL (.inl (.inl wd.hsh)) e5 ?_
      walk_at "rd"
      refine sp4_i ⟨p0, s0, t0, v5, L15, kp, kr, MM 0, 852, 1000, r0, rfl, rfl, rfl, rfl, st15.lab, sd, (al.iv 0 (by decide)).mono (by omega) (Int.le_refl _) (Int.le_refl _), hr0, fun M' H17 st17 sd17 iv17 dm17 => ?_⟩
      walk_at "rd"
      refine kif_f ?_
      have wd17 := back H17 L15 _ st17 sd17
      have al17 : Al (upF MM 0 M') G (fun _ => 852) (fun _ => 800) (fun _ => 1000) := al.put (j := 0) iv17 dm17 (fun _ _ => by omega) (fun _ _ => by decide) (fun _ _ => Int.le_refl _) (by decide)
      have st17' := st15.trans (st17.mono (S' := fun _ => True) fun _ _ => trivial)
      generalize upF MM 0 M' = MM' at *
      walk_at "rd"
      refine r_cut (fun σ' H' => ∃ u7 u8 u12 u13 u14 u15 L MM, σ' = [some (.ref s), some (.ref shl), some (.ref nl), some (.ref gl), some (.int (la : Nat)), some (.ref swl), some (.ref sdl), u7, u8, some (.int (t0 : Nat)), some (.int (many : Nat)), some (.ref dl), u12, u13, u14, u15] ∧ Stp (fun _ => True) H4 (fun _ => none) H' L ∧ Wd a L H' gl shl swl sdl p0 s0 p1 s1 0 G sh MM ∧
        Al MM G (fun _ => 852) (fun _ => 800) (fun _ => 1000)) ?_ ?_
      · walk_at "rd"
        refine k_ixL (.inl (.inl wd17.hsw)) at0 ?_
        walk_at "rd"
        refine k_ixL (.inl (.inl wd17.hsd)) at0 ?_
        walk_at "rd"
        refine sp2_i ⟨p0, s0, L15, 0, 1, MM' 0, 800, 1000, rfl, rfl, wd17.d0, (al17.iv 0 (by decide)).mono (by decide) (Int.le_refl _) (Int.le_refl _), fun H18 s18 => ?_⟩
        walk_at "rd"
        refine kif_f ?_
        have wd18 := wd17.same st17'.lab s18
        walk_at "rd"
        refine k_ixL (.inl (.inl wd18.hsw)) at1 ?_
        walk_at "rd"
        refine k_ixL (.inl (.inl wd18.hsd)) at1 ?_
        walk_at "rd"
        refine sp2_i ⟨p1, s1, L15, 2, 3, MM' 1, 800, 1000, rfl, rfl, wd18.d1, (al17.iv 1 (by decide)).mono (by decide) (Int.le_refl _) (Int.le_refl _), fun H19 s19 => ?_⟩
        walk_at "rd"
        refine kif_f ?_
        walk_at "rd"
        exact ⟨_, _, _, _, _, _, L15, MM', rfl, st17'.trans (.of_same st17'.lab (s18.trans s19)), wd18.same (st17'.lab.same s18) s19, al17⟩
      clear al17 wd17 st17' wd st15 al
      rintro σ' H13 ⟨u7, u8, u12, u13, u14, u15, L13, MM, rfl, st13, wd, al⟩
      walk_at "rd"
      obtain ⟨r0, hr0⟩ := (al.dm 0 (by decide) t0).mpr mt0
      obtain ⟨q1, q2, q3, kt0, km0, kq0, D0⟩ := id wd.d0.sw
      obtain ⟨dx0, ob0⟩ := D0.ob
      refine k_ixL (.inl (.inl wd.hsd)) at0 ?_
      walk_at "rd"
      refine k_ixL (.inl (.inl wd.hsw)) at0 ?_
      walk_at "rd"
      refine sp2_i ⟨p0, t0, L13, 0, MM 0, r0, rfl, rfl, st13.lab, wd.d0.sw, hr0, fun H14 st14 sw14 => ?_⟩
      walk_at "rd"
      refine sp2_i ⟨.none, trivial, .non, .non, ?_⟩
      walk_at "rd"
      refine kif_f ?_
      walk_at "rd"
      have rw14 := wd.d0.rw_.keep st14 (by simp)
      obtain ⟨kvs, R⟩ := id rw14
      obtain ⟨v0', hv0', _⟩ := R.dm.val t0 r0 hr0
      refine k_dpop R.hs ?_
      walk_at "rd"
      refine ⟨kvs, kN t0, v0', R.hs, rfl, hv0', ?_⟩
      obtain ⟨rw15, st15⟩ := R.del st14.lab t0
      have hsw15 := st15.lbl wd.lsw (by simp) (st14.lbl wd.lsw (by simp) wd.hsw)
      have hsd15 := st15.lbl wd.lsd (by simp) (st14.lbl wd.lsd (by simp) wd.hsd)
      have st1415 : Stp (Two 0 1) H13 L13 (upd H14 s0 (HO.dK (dropK kvs (kN t0)))) L13 := (st14.mono fun _ z => .inl z).trans (st15.mono fun _ z => .inr z)
      obtain ⟨p, sr, kp, kr, hpj, hsj, sd, hkp, hkr, back⟩ := wd.pick (.inl rfl) (j := 0) (by decide)
      cases hpj
      cases hsj
      have wd15 : Wd a L13 (upd H14 s0 (HO.dK (dropK kvs (kN t0)))) gl shl swl sdl p0 s0 p1 s1 0 G sh (upF MM 0 (delM (MM 0) t0)) := by
        have d15 : Side a L13 0 1 (upd H14 s0 (HO.dK (dropK kvs (kN t0)))) p0 s0 (delM (MM 0) t0) := ⟨sw14.keep st15 (by simp), rw15, by decide⟩
        exact ⟨st1415.nolab wd.lg wd.hg, st1415.unl wd.lg wd.hg, st1415.nolab wd.lsh wd.hsh, st1415.unl wd.lsh wd.hsh, wd.lsw, hsw15, wd.lsd, hsd15, by rw [upF_same]; exact d15, by rw [upF_ne (by decide)]; exact wd.d1.keep st1415 (by simp) (by simp)⟩
      clear back sd hkp hkr
      have st15' := st13.trans (st1415.mono (S' := fun _ => True) fun _ _ => trivial)
      generalize upd H14 s0 (HO.dK (dropK kvs (kN t0))) = H15 at *
      have iv0 : Inv (delM (MM 0) t0) 852 800 1000 := ⟨fun g r e => by
        by_cases hg : g = t0
        · subst hg; rw [delM_same] at e; cases e
        · rw [delM_ne hg] at e; exact (al.iv 0 (by decide)).g g r e⟩
      have iv1 := al.iv 1 (by decide)
      obtain ⟨r1, hr1⟩ := (al.dm 0 (by decide) t1).mpr mt1
      have hr1' : delM (MM 0) t0 t1 = some r1 := by rw [delM_ne t01]; exact hr1
      have dm0 : ∀ g, (∃ r, delM (MM 0) t0 g = some r) → g ∈ G := fun g ⟨r, e⟩ => by
        by_cases hg : g = t0
        · subst hg; exact mt0
        · rw [delM_ne hg] at e; exact (al.dm 0 (by decide) g).mp ⟨r, e⟩
      have d15 := wd15.d0
      rw [upF_same] at d15
      have n0 : delM (MM 0) t0 t0 = none := delM_same
      generalize delM (MM 0) t0 = Md at *
      walk_at "rd"
      refine r_cut (fun σ' H' => ∃ MM, σ' = [some (.ref s), some (.ref shl), some (.ref nl), some (.ref gl), some (.int (la : Nat)), some (.ref swl), some (.ref sdl), u7, some (.ref s0), some (.int (t0 : Nat)), some (.int (many : Nat)), some (.ref dl), u12, u13, u14, u15] ∧ Stp (fun _ => True) H4 (fun _ => none) H' L13 ∧ Wd a L13 H' gl shl swl sdl p0 s0 p1 s1 0 G sh MM ∧ Inv (MM 0) 853 800 1000 ∧ Inv (MM 1) 852 800 1000 ∧ MM 0 t0 = none ∧ (∃ r, MM 0 t1 = some r) ∧ ∀ g, (∃ r, MM 0 g = some r) → g ∈ G) ?_ ?_
      · walk_at "rd"
        refine k_ixL (.inl (.inl wd15.hsw)) at0 ?_
        walk_at "rd"
        refine k_ixL (.inl (.inl wd15.hg)) a1 ?_
        walk_at "rd"
        obtain ⟨_, _, hps1, _⟩ := iv0.g t1 r1 hr1'
        refine sp7_i ⟨p0, s0, t1, t0, 8, 65520, 0, L13, 0, 1, Md, rfl, rfl, rfl, rfl, rfl, rfl, rfl, st15'.lab, d15, ⟨r1, hr1', by omega⟩, by decide, by omega, by decide, by decide, by decide, fun r e => (by rw [n0] at e; cases e), fun r e => (by rw [n0] at e; cases e), fun H16 st16 sd16 => ?_⟩
        walk_at "rd"
        refine kif_f ?_
        walk_at "rd"
        obtain ⟨p, sr, kp, kr, hpj, hsj, sd, hkp, hkr, back⟩ := wd15.pick (.inl rfl) (j := 0) (by decide)
        refine ⟨upF (upF MM 0 Md) 0 (postM Md t1 8 t0 65520 0), rfl, st15'.trans (st16.mono fun _ _ => trivial), ?_, ?_, ?_, ?_, ?_, ?_⟩
        · have n9 : ¬ Two 0 1 9 := by simp
          exact ⟨wd15.lg, st16.unl wd15.lg wd15.hg, wd15.lsh, st16.unl wd15.lsh wd15.hsh, wd15.lsw, st16.lbl wd15.lsw n9 wd15.hsw, wd15.lsd, st16.lbl wd15.lsd n9 wd15.hsd, by rw [upF_same]; exact sd16, by rw [upF_ne (by decide)]; exact wd15.d1.keep st16 (by simp) (by simp)⟩
        · rw [upF_same]; exact inv_post iv0 (by decide) (by decide)
        · rw [upF_ne (by decide), upF_ne (by decide)]; exact iv1
        · rw [upF_same]
          cases e : postM Md t1 8 t0 65520 0 t0 with
          | none => rfl
          | some r =>
            obtain ⟨r', e'⟩ := postM_dom.mp ⟨r, e⟩
            rw [n0] at e'; cases e'
        · rw [upF_same]; exact postM_dom.mpr ⟨r1, hr1'⟩
        · rw [upF_same]; exact fun g h => dm0 g (postM_dom.mp h)
      clear wd15 d15 iv0 iv1 hr1' dm0 n0 hr1 st15' st1415 rw15 R rw14 sw14 D0 hr0 al wd st13 st14 st15 hsw15 hsd15 hv0' ob0
      rintro σ' H16 ⟨MM, rfl, st16, wd, iv0, iv1, n0, ⟨r1, hr1⟩, dm0⟩
      obtain ⟨q1, q2, q3, kt0, km0, kq0, D0⟩ := id wd.d0.sw
      obtain ⟨dx0, ob0⟩ := D0.ob
      walk_at "rd"
      refine k_ixL (.inl (.inl wd.hsw)) at0 ?_
      walk_at "rd"
      refine sp1_i ⟨p0, L13, 0, MM 0, rfl, wd.d0.sw, fun v H17 s17 fz => ?_⟩
      walk_at "rd"
      have lab17 := st16.lab.same s17
      refine sp1_i ⟨L13, 4, MM 0, fz, lab17, fun g r e => g6 g (dm0 g ⟨r, e⟩), fun pn H18 L18 st18 hpn sw18 => ?_⟩
      have wd17 := wd.same st16.lab s17
      have st17' := st16.trans (Stp.of_same (S := fun _ => True) st16.lab s17)
      have n49 : ¬ (9 : Nat) = 4 := by decide
      have hsw18 := st18.lbl wd17.lsw n49 wd17.hsw
      have lsw18 := st18.ext _ _ wd17.lsw
      walk_at "rd"
      refine k_setL (j := 0) hsw18 (by simp) ?_
      have st19 : Stp (· = 9) H18 L18 (upd H18 swl (HO.lst ([V.ref p0, V.ref p1].set 0 (.ref pn)))) L18 := Stp.write st18.lab lsw18 rfl hsw18
      have hsw19 : upd H18 swl (HO.lst ([V.ref p0, V.ref p1].set 0 (.ref pn))) swl = some (.lst [.ref pn, .ref p1]) := upd_same
      have lsd18 := st18.ext _ _ wd17.lsd
      have hsd19 : upd H18 swl (HO.lst ([V.ref p0, V.ref p1].set 0 (.ref pn))) sdl = some (.lst [.ref s0, .ref s1]) := by
        rw [upd_ne (lne lsd18 lsw18 (by simp))]; exact st18.lbl wd17.lsd n49 wd17.hsd
      have wd19 : Wd a L18 (upd H18 swl (HO.lst ([V.ref p0, V.ref p1].set 0 (.ref pn)))) gl shl swl sdl pn s0 p1 s1 4 G sh MM :=
        ⟨st18.nolab wd17.lg wd17.hg, st19.unl (st18.nolab wd17.lg wd17.hg) (st18.unl wd17.lg wd17.hg), st18.nolab wd17.lsh wd17.hsh, st19.unl (st18.nolab wd17.lsh wd17.hsh) (st18.unl wd17.lsh wd17.hsh), lsw18, hsw19, lsd18, hsd19,
          ⟨sw18.keep st19 (by simp), (wd17.d0.rw_.keep st18 (by simp)).keep st19 (by simp), by decide⟩, (wd17.d1.keep st18 (by simp) (by simp)).keep st19 (by simp) (by simp)⟩
      have st19' := (st17'.trans (st18.mono (S' := fun _ => True) fun _ _ => trivial)).trans (st19.mono fun _ _ => trivial)
      clear st18 st19 hsw18 lsw18 hsw19 lsd18 hsd19 wd17 st17' lab17 fz sw18 wd st16 D0 ob0
      generalize upd H18 swl (HO.lst ([V.ref p0, V.ref p1].set 0 (.ref pn))) = H19 at *
      walk_at "rd"
      refine k_lst (by simp) fun D1 hD1 => ?_
      walk_at "rd"
      refine k_lst (by simp) fun D2 hD2 => ?_
      walk_at "rd"
      refine k_lst (by simp) fun D9 hD9 => ?_
      walk_at "rd"
      refine k_lst (by simp) fun W hW => ?_
      obtain ⟨kvs, R⟩ := id wd19.d0.rw_
      have s1 := same_new (o := HO.lst []) hD1
      have s2 := same_new (o := HO.lst []) hD2
      have s3 := same_new (o := HO.lst []) hD9
      have s4 := same_new (o := HO.lst [V.ref D1, V.ref D2, V.ref D9]) hW
      have w1 : upd H19 D1 (HO.lst []) D1 = some (.lst []) := upd_same
      have w2 : upd (upd H19 D1 (HO.lst [])) D2 (HO.lst []) D2 = some (.lst []) := upd_same
      have w9 : upd (upd (upd H19 D1 (HO.lst [])) D2 (HO.lst [])) D9 (HO.lst []) D9 = some (.lst []) := upd_same
      have wW : upd (upd (upd (upd H19 D1 (HO.lst [])) D2 (HO.lst [])) D9 (HO.lst [])) W (HO.lst [V.ref D1, V.ref D2, V.ref D9]) W = some (.lst [.ref D1, .ref D2, .ref D9]) := upd_same
      have n12 := ne_of_none w1 hD2
      have n19 := ne_of_none (s2 _ _ w1) hD9
      have n29 := ne_of_none w2 hD9
      have n1W := ne_of_none (s3 _ _ (s2 _ _ w1)) hW
      have n2W := ne_of_none (s3 _ _ w2) hW
      have n9W := ne_of_none w9 hW
      have sA := ((s1.trans s2).trans s3).trans s4
      obtain ⟨L20, st20, rw20⟩ := R.new st19'.lab sA h0 ((s1.trans s2).trans s3 |>.free hW) hD1 (s1.free hD2) ((s1.trans s2).free hD9) n12 n19 n29 n1W n2W n9W wW (s4 _ _ (s3 _ _ (s2 _ _ w1))) (s4 _ _ (s3 _ _ w2)) (s4 _ _ w9)
      have hs20 := sA _ _ R.hs
      have := R.dm.len
      walk_at "rd"
      refine k_dputI hs20 (by omega) ?_
      have sw20 := wd19.d0.sw.keep st20 (by simp)
      have wd20 : ∀ M', Side a L20 4 1 (upd (upd (upd (upd (upd H19 D1 (HO.lst [])) D2 (HO.lst [])) D9 (HO.lst [])) W (HO.lst [V.ref D1, V.ref D2, V.ref D9])) s0 (HO.dK (putK kvs (kN t0) (V.ref W)))) pn s0 M' → True := fun _ _ => trivial
      have bs20 := fun (z : ¬ (9 : Nat) = 1) => st20.lbl wd19.lsw z wd19.hsw
      have hsw20 := bs20 (by decide)
      have hsd20 := st20.lbl wd19.lsd (by simp) wd19.hsd
      have st20' := st19'.trans (st20.mono (S' := fun _ => True) fun _ _ => trivial)
      have lg20 := st20.nolab wd19.lg wd19.hg
      have hg20 := st20.unl wd19.lg wd19.hg
      have lsh20 := st20.nolab wd19.lsh wd19.hsh
      have hsh20 := st20.unl wd19.lsh wd19.hsh
      have lsw20 := st20.ext _ _ wd19.lsw
      have lsd20 := st20.ext _ _ wd19.lsd
      have d120 := wd19.d1.keep st20 (by simp) (by simp)
      clear wd20 bs20 s1 s2 s3 s4 w1 w2 w9 wW hs20 sA
      generalize upd (upd (upd (upd (upd H19 D1 (HO.lst [])) D2 (HO.lst [])) D9 (HO.lst [])) W (HO.lst [V.ref D1, V.ref D2, V.ref D9])) s0 (HO.dK (putK kvs (kN t0) (V.ref W))) = H20 at *
      obtain ⟨q1, q2, q3, kt0, km0, kq0, D0⟩ := id sw20
      obtain ⟨dx0, ob0⟩ := D0.ob
      walk_at "rd"
      refine r_cut (fun σ' H' => ∃ L, σ' = [some (.ref s), some (.ref shl), some (.ref nl), some (.ref gl), some (.int (la : Nat)), some (.ref swl), some (.ref sdl), u7, some (.ref s0), some (.int (t0 : Nat)), some (.int (many : Nat)), some (.ref dl), u12, u13, u14, u15] ∧ Stp (fun _ => True) H4 (fun _ => none) H' L ∧ Wd a L H' gl shl swl sdl pn s0 p1 s1 4 G sh (upF MM 0 (upM (MM 0) t0 ⟨[], [], []⟩))) ?_ ?_
      · walk_at "rd"
        refine k_ixL (.inl (.inl hsw20)) at0 ?_
        walk_at "rd"
        refine k_tup (by simp) fun T1 hT1 => ?_
        walk_at "rd"
        refine k_tup (by simp) fun T2 hT2 => ?_
        walk_at "rd"
        refine k_tup (by simp) fun T3 hT3 => ?_
        have s1 := same_new (o := HO.tup []) hT1
        have s2 := same_new (o := HO.tup []) hT2
        have s3 := same_new (o := HO.tup []) hT3
        have e1' := (s2.trans s3) _ _ (show upd H20 T1 (HO.tup []) T1 = some (.tup []) from upd_same)
        have e2' := s3 _ _ (show upd (upd H20 T1 (HO.tup [])) T2 (HO.tup []) T2 = some (.tup []) from upd_same)
        have e3' : upd (upd (upd H20 T1 (HO.tup [])) T2 (HO.tup [])) T3 (HO.tup []) T3 = some (.tup []) := upd_same
        have sT := (s1.trans s2).trans s3
        generalize upd (upd (upd H20 T1 (HO.tup [])) T2 (HO.tup [])) T3 (HO.tup []) = H21 at *
        walk_at "rd"
        refine sp5_i ⟨pn, t0, L20, 4, MM 0, ⟨[], [], []⟩, rfl, rfl, ⟨T1, [], rfl, e1', Its.nil⟩, ⟨T2, [], rfl, e2', Its.nil⟩, ⟨T3, [], rfl, e3', Its.nil⟩, st20'.lab.same sT, sw20.same sT, n0, h0, fun H22 L22 st22 sw22 => ?_⟩
        walk_at "rd"
        refine sp2_i ⟨.none, trivial, .non, .non, ?_⟩
        walk_at "rd"
        refine kif_f ?_
        walk_at "rd"
        have stT : Stp (· = 4) H20 L20 H22 L22 := (Stp.of_same st20'.lab sT).trans st22
        have n94 : ¬ (9 : Nat) = 4 := by decide
        exact ⟨L22, rfl, st20'.trans (stT.mono fun _ _ => trivial), stT.nolab lg20 hg20, stT.unl lg20 hg20, stT.nolab lsh20 hsh20, stT.unl lsh20 hsh20, stT.ext _ _ lsw20, stT.lbl lsw20 n94 hsw20, stT.ext _ _ lsd20, stT.lbl lsd20 n94 hsd20,
          by rw [upF_same]; exact ⟨sw22, rw20.keep stT (by simp), by decide⟩, by rw [upF_ne (by decide)]; exact d120.keep stT (by simp) (by simp)⟩
      rintro σ' H22 ⟨L22, rfl, st22, wd⟩
      have ivN : Inv (upM (MM 0) t0 ⟨[], [], []⟩) 853 800 1000 := ⟨fun g r e => by
        by_cases hg : g = t0
        · subst hg; rw [upM_same] at e; cases e
          exact ⟨by simp, by simp, by simp, fun us z => by simp at z, fun us z => by simp at z, fun us z => by simp at z⟩
        · rw [upM_ne hg] at e; exact iv0.g g r e⟩
      have hN0 : upM (MM 0) t0 (⟨[], [], []⟩ : Row) t0 = some ⟨[], [], []⟩ := upM_same
      have hN1 : upM (MM 0) t0 (⟨[], [], []⟩ : Row) t1 = some r1 := by rw [upM_ne t01]; exact hr1
      have dN := wd.d0
      rw [upF_same] at dN
      have iv1' : Inv (upF MM 0 (upM (MM 0) t0 ⟨[], [], []⟩) 1) 852 800 1000 := by rw [upF_ne (by decide)]; exact iv1
      generalize upM (MM 0) t0 (⟨[], [], []⟩ : Row) = MN at *
      walk_at "rd"
      refine k_ixL (.inl (.inl wd.hsw)) at0 ?_
      walk_at "rd"
      refine sp7_i ⟨pn, s0, t0, t0, 9, 0, 0, L22, 4, 1, MN, rfl, rfl, rfl, rfl, rfl, rfl, rfl, st22.lab, dN, ⟨_, hN0, by simp⟩, by decide, by omega, by decide, by decide, by decide, fun r e => (by rw [hN0] at e; cases e; exact ⟨by simp, fun us z => by simp at z⟩), fun r e _ u hu => (by rw [hN0] at e; cases e; cases hu), fun H23 st23 sd23 => ?_⟩
      walk_at "rd"
      refine kif_f ?_
      have n9 : ¬ Two 4 1 9 := by simp
      have hsw23 := st23.lbl wd.lsw n9 wd.hsw
      have hg23 := st23.unl wd.lg wd.hg
      have ivP := inv_post (g := t0) (peer := t0) (t := 9) (w := 0) (arr := 0) ivN (by decide) (by decide)
      have hP1 : ∃ r, postM MN t0 9 t0 0 0 t1 = some r := postM_dom.mpr ⟨r1, hN1⟩
      have hP0 : ∃ r, postM MN t0 9 t0 0 0 t0 = some r ∧ lastS r.ml = some 0 := by
        have e1 : mailM MN t0 0 0 = upM MN t0 { (⟨[], [], []⟩ : Row) with ml := [] ++ [[0, 0]] } := mailM_put hN0 (by simp)
        unfold postM postedM
        rw [e1, upM_same]
        exact ⟨_, upM_same, rfl⟩
      obtain ⟨rp1, hrp1⟩ := hP1
      obtain ⟨rp0, hrp0, hlast⟩ := hP0
      obtain ⟨_, _, hpsP, _⟩ := ivP.g t1 rp1 hrp1
      generalize postM MN t0 9 t0 0 0 = MP at *
      walk_at "rd"
      refine k_ixL (.inl (.inl hsw23)) at0 ?_
      walk_at "rd"
      refine k_ixL (.inl (.inl hg23)) a1 ?_
      walk_at "rd"
      refine sp7_i ⟨pn, s0, t1, t0, 9, 1, 0, L22, 4, 1, MP, rfl, rfl, rfl, rfl, rfl, rfl, rfl, st23.lab, sd23, ⟨rp1, hrp1, by omega⟩, by decide, by omega, by decide, by decide, by decide, fun r e => ⟨(ivP.g t0 r e).2.1, (ivP.g t0 r e).2.2.2.2.1.two⟩, fun r e _ u hu => (by rw [hrp0] at e; cases e; rw [hlast] at hu; cases hu; decide), fun H24 st24 sd24 => ?_⟩
      walk_at "rd"
      refine kif_f ?_
      have hsw24 := st24.lbl wd.lsw n9 hsw23
      have hsd24 := st24.lbl wd.lsd n9 (st23.lbl wd.lsd n9 wd.hsd)
      have d124 := (wd.d1.keep st23 (by simp) (by simp)).keep st24 (by simp) (by simp)
      have ivQ := inv_post (g := t1) (peer := t0) (t := 9) (w := 1) (arr := 0) ivP (by decide) (by decide)
      walk_at "rd"
      refine k_ixL (.inl (.inl hsw24)) at0 ?_
      walk_at "rd"
      refine sp2_i ⟨pn, s0, L22, 4, 1, _, 800, 1000, rfl, rfl, sd24, ivQ.mono (by decide) (Int.le_refl _) (Int.le_refl _), fun H25 s25 => ?_⟩
      walk_at "rd"
      refine kif_t ?_
      walk_at "rd"
      refine k_ixL (.inl (.inl (s25 _ _ hsw24))) at1 ?_
      walk_at "rd"
      refine k_ixL (.inl (.inl (s25 _ _ hsd24))) at1 ?_
      walk_at "rd"
      refine sp2_i ⟨p1, s1, L22, 2, 3, _, 800, 1000, rfl, rfl, d124.same st24.lab s25, iv1'.mono (by decide) (Int.le_refl _) (Int.le_refl _), fun H26 s26 => q H26⟩
end K74

namespace K74
open PySem L2 Lh
section
variable {P : Program} {w : World} {K : PySem.W.Frag} {mg : Str → Option Value} {base : Heap} {a : Ad}
theorem b_TooMany___init__ {fd : FuncData} (F : Fun K "__init__" "TooMany.__init__" s_TooMany___init__ a.f_TooMany___init__ fd) : Binds K fd ["self", "limit"] [] := F.binds (ps := ["self", "limit"]) fun _ _ _ _ _ _ us hl => match us, hl with | [_, _], _ => rfl
theorem ok_TooMany___init__ {fd : FuncData} (F : Fun K "__init__" "TooMany.__init__" s_TooMany___init__ a.f_TooMany___init__ fd) (T : Txt K mg a) : FnOk P w K mg base CX0 1 a.f_TooMany___init__ fd ["self", "limit"] (sp_TooMany___init__ K a) := by
  refine F.ok sc_TooMany___init__ (fun vs H Q E h => by obtain ⟨x0, x1, rfl, h⟩ := h; rfl) (fun cdv A outer s H vs Q E hr h => ⟨t_TooMany___init__ K a, ?_, by obtain ⟨x0, x1, rfl, h⟩ := h; exact pure_TooMany___init__ T.toCl h⟩)
  exact (pss_one (ps_ost (pv 0) (pv 1)))
theorem b_BadTape___init__ {fd : FuncData} (F : Fun K "__init__" "BadTape.__init__" s_BadTape___init__ a.f_BadTape___init__ fd) : Binds K fd ["self", "place"] [] := F.binds (ps := ["self", "place"]) fun _ _ _ _ _ _ us hl => match us, hl with | [_, _], _ => rfl
theorem ok_BadTape___init__ {fd : FuncData} (F : Fun K "__init__" "BadTape.__init__" s_BadTape___init__ a.f_BadTape___init__ fd) (T : Txt K mg a) : FnOk P w K mg base CX0 1 a.f_BadTape___init__ fd ["self", "place"] (sp_BadTape___init__ K a) := by
  refine F.ok sc_BadTape___init__ (fun vs H Q E h => by obtain ⟨x0, x1, rfl, h⟩ := h; rfl) (fun cdv A outer s H vs Q E hr h => ⟨t_BadTape___init__ K a, ?_, by obtain ⟨x0, x1, rfl, h⟩ := h; exact pure_BadTape___init__ T.toCl h⟩)
  exact (pss_one (ps_ost (pv 0) (pv 1)))
theorem b_check_range {fd : FuncData} (F : Fun K "check_range" "check_range" s_check_range a.f_check_range fd) : Binds K fd ["value", "low", "high"] [] := F.binds (ps := ["value", "low", "high"]) fun _ _ _ _ _ _ us hl => match us, hl with | [_, _, _], _ => rfl
theorem ok_check_range {fd : FuncData} (F : Fun K "check_range" "check_range" s_check_range a.f_check_range fd) (T : Txt K mg a) : FnOk P w K mg base CX0 1 a.f_check_range fd ["value", "low", "high"] (sp_check_range K a) := by
  refine F.ok sc_check_range (fun vs H Q E h => by obtain ⟨x0, x1, x2, rfl, h⟩ := h; rfl) (fun cdv A outer s H vs Q E hr h => ⟨t_check_range K a, ?_, by obtain ⟨x0, x1, x2, rfl, h⟩ := h; exact pure_check_range T.toCl h⟩)
  exact (pss_one (ps_if (PW.pt (pw_or (pt_cmpR op_lt (pv 0) (pv 1) (nomark _)) (pw_or1 (pt_cmpR op_gt (pv 0) (pv 2) (nomark _))))) (pss_one ps_never) pss_nil))
theorem b_check_most {fd : FuncData} (F : Fun K "check_most" "check_most" s_check_most a.f_check_most fd) : Binds K fd ["count", "limit"] [] := F.binds (ps := ["count", "limit"]) fun _ _ _ _ _ _ us hl => match us, hl with | [_, _], _ => rfl
theorem ok_check_most {fd : FuncData} (F : Fun K "check_most" "check_most" s_check_most a.f_check_most fd) (T : Txt K mg a) : FnOk P w K mg base (L2N.CX P w) 3 a.f_check_most fd ["count", "limit"] (sp_check_most K a) := by
  obtain ⟨fd_TooMany___init__, F_TooMany___init__⟩ := T.fn_TooMany___init__
  have G_TooMany___init__ : FnOk P w K mg base CX0 1 a.f_TooMany___init__ fd_TooMany___init__ ["self", "limit"] (sp_TooMany___init__ K a) := ok_TooMany___init__ F_TooMany___init__ T
  have B_TooMany___init__ := b_TooMany___init__ F_TooMany___init__
  refine Lh.okN F sc_check_most (fun vs H Q E h => by obtain ⟨x0, x1, rfl, h⟩ := h; rfl) (fun cdv A outer s H vs Q E hr h => ⟨t_check_most K a E, ?_, by obtain ⟨x0, x1, rfl, h⟩ := h; exact pure_check_most T.toCl h⟩)
  exact (pss_one (ps_if (pt_cmpR op_gt (pv 0) (pv 1) (nomark _)) (pss_one (L2N.ps_raise (by rfl) (L2N.takes_of rfl rfl rfl rfl) (Lh.pmkN T.oex_TooMany T.ii_TooMany T.ti_TooMany G_TooMany___init__ (hr.mono (by decide)) B_TooMany___init__ .nil pass0 (by rfl) T.mgC_TooMany (pa_cons (pv 1) pa_nil)))) pss_nil))
theorem b_arrive {fd : FuncData} (F : Fun K "arrive" "arrive" s_arrive a.f_arrive fd) : Binds K fd ["tape", "steps", "word"] [] := F.binds (ps := ["tape", "steps", "word"]) fun _ _ _ _ _ _ us hl => match us, hl with | [_, _, _], _ => rfl
theorem ok_arrive {fd : FuncData} (F : Fun K "arrive" "arrive" s_arrive a.f_arrive fd) (T : Txt K mg a) : FnOk P w K mg base (L2N.CX P w) 4 a.f_arrive fd ["tape", "steps", "word"] (sp_arrive K a) := by
  obtain ⟨fd_check_range, F_check_range⟩ := T.fn_check_range
  have G_check_range : FnOk P w K mg base CX0 1 a.f_check_range fd_check_range ["value", "low", "high"] (sp_check_range K a) := ok_check_range F_check_range T
  have B_check_range := b_check_range F_check_range
  obtain ⟨fd_check_most, F_check_most⟩ := T.fn_check_most
  have G_check_most : FnOk P w K mg base (L2N.CX P w) 3 a.f_check_most fd_check_most ["count", "limit"] (sp_check_most K a) := ok_check_most F_check_most T
  have B_check_most := b_check_most F_check_most
  obtain ⟨fd_BadTape___init__, F_BadTape___init__⟩ := T.fn_BadTape___init__
  have G_BadTape___init__ : FnOk P w K mg base CX0 1 a.f_BadTape___init__ fd_BadTape___init__ ["self", "place"] (sp_BadTape___init__ K a) := ok_BadTape___init__ F_BadTape___init__ T
  have B_BadTape___init__ := b_BadTape___init__ F_BadTape___init__
  refine Lh.okN F sc_arrive (fun vs H Q E h => by obtain ⟨x0, x1, x2, rfl, h⟩ := h; rfl) (fun cdv A outer s H vs Q E hr h => ⟨t_arrive K a E, ?_, by obtain ⟨x0, x1, x2, rfl, h⟩ := h; exact pure_arrive T.toCl h⟩)
  exact (pss_cons (ps_if (pt_cmpR op_lt (pv 1) pe_int (nomark _)) (pss_one ps_never) pss_nil)
      (pss_cons (ps_expr (pe_call G_check_range (hr.mono (by decide)) (by rfl) T.mgF_check_range T.kp_check_range B_check_range .nil pass0 (pa_cons (pv 2) (pa_cons pe_int (pa_cons (pe_op op_sub (pe_glob rfl T.gl_WORD.choose_spec.1 T.gl_WORD.choose_spec.2) pe_int) pa_nil)))))
      (pss_cons (ps_expr (pe_call G_check_most (hr.mono (by decide)) (by rfl) T.mgF_check_most T.kp_check_most B_check_most .nil (L2N.passes_call (L2N.takes_of rfl rfl rfl rfl) (fun _ _ _ _ h => h)) (pa_cons (pe_op op_add (pe_callB c_len (by rfl) T.mg_len (by decide +kernel) (pa_cons (pv 0) pa_nil)) pe_int) (pa_cons (pe_glob rfl T.gl_MOST_PAIRS.choose_spec.1 T.gl_MOST_PAIRS.choose_spec.2) pa_nil))))
      (pss_cutL (ps_if (PW.pt (pw_and (pt_cmpR op_gt (pe_callB c_len (by rfl) T.mg_len (by decide +kernel) (pa_cons (pv 0) pa_nil)) pe_int (nomark _)) (pw_and1 (pt_cmpR op_gt (pe_ix ix_tup (pe_ix ix_tup (pv 0) (pe_un un_neg pe_int) (fun _ _ => rfl)) pe_int (fun _ _ => rfl)) (pv 1) (nomark _))))) (pss_one (L2N.ps_raise (by rfl) (L2N.takes_of rfl rfl rfl rfl) (Lh.pmkN T.oex_BadTape T.ii_BadTape T.ti_BadTape G_BadTape___init__ (hr.mono (by decide)) B_BadTape___init__ .nil pass0 (by rfl) T.mgC_BadTape (pa_cons (pe_callB c_len (by rfl) T.mg_len (by decide +kernel) (pa_cons (pv 0) pa_nil)) pa_nil)))) pss_nil) (pss_one (ps_ret (pe_op op_catA (pv 0) (pe_tup (pa_cons (pe_tup (pa_cons (pv 1) (pa_cons (pv 2) pa_nil))) pa_nil)))))))))
theorem b_Switch___init__ {fd : FuncData} (F : Fun K "__init__" "Switch.__init__" s_Switch___init__ a.f_Switch___init__ fd) : Binds K fd ["self"] [] := F.binds (ps := ["self"]) fun _ _ _ _ _ _ us hl => match us, hl with | [_], _ => rfl
theorem ok_Switch___init__ {fd : FuncData} (F : Fun K "__init__" "Switch.__init__" s_Switch___init__ a.f_Switch___init__ fd) (T : Txt K mg a) : FnOk P w K mg base CX0 1 a.f_Switch___init__ fd ["self"] (sp_Switch___init__ K a) := by
  refine F.ok sc_Switch___init__ (fun vs H Q E h => by obtain ⟨x0, rfl, h⟩ := h; rfl) (fun cdv A outer s H vs Q E hr h => ⟨t_Switch___init__ K a, ?_, by obtain ⟨x0, rfl, h⟩ := h; exact pure_Switch___init__ T.toCl h⟩)
  exact (pss_cons (ps_fld (pv 0) pe_dnewK rfl)
      (pss_cons (ps_fld (pv 0) pe_dnewK rfl)
      (pss_one (ps_fld (pv 0) pe_dnewK rfl))))
theorem b_Switch_join {fd : FuncData} (F : Fun K "join" "Switch.join" s_Switch_join a.f_Switch_join fd) : Binds K fd ["self", "g", "tape", "mail", "posted"] [] := F.binds (ps := ["self", "g", "tape", "mail", "posted"]) fun _ _ _ _ _ _ us hl => match us, hl with | [_, _, _, _, _], _ => rfl
theorem ok_Switch_join {fd : FuncData} (F : Fun K "join" "Switch.join" s_Switch_join a.f_Switch_join fd) (T : Txt K mg a) : FnOk P w K mg base CX0 2 a.f_Switch_join fd ["self", "g", "tape", "mail", "posted"] (sp_Switch_join K a) := by
  obtain ⟨fd_check_range, F_check_range⟩ := T.fn_check_range
  have G_check_range : FnOk P w K mg base CX0 1 a.f_check_range fd_check_range ["value", "low", "high"] (sp_check_range K a) := ok_check_range F_check_range T
  have B_check_range := b_check_range F_check_range
  refine F.ok sc_Switch_join (fun vs H Q E h => by obtain ⟨x0, x1, x2, x3, x4, rfl, h⟩ := h; rfl) (fun cdv A outer s H vs Q E hr h => ⟨t_Switch_join K a, ?_, by obtain ⟨x0, x1, x2, x3, x4, rfl, h⟩ := h; exact pure_Switch_join T.toCl h⟩)
  exact (pss_cons (ps_expr (pe_call G_check_range (hr.mono (by decide)) (by rfl) T.mgF_check_range T.kp_check_range B_check_range .nil pass0 (pa_cons (pv 1) (pa_cons pe_int (pa_cons (pe_op op_sub (pe_glob rfl T.gl_MOST_GUESTS.choose_spec.1 T.gl_MOST_GUESTS.choose_spec.2) pe_int) pa_nil)))))
      (pss_cons (ps_if (pt_cmp (pc_din (hu_of hr) (pv 1) (pe_fld (pv 0) rfl)) rfl) (pss_one ps_never) pss_nil)
      (pss_cons (ps_dput (hu_of hr) (pe_fld (pv 0) rfl) (pv 1) (pv 2) rfl)
      (pss_cons (ps_dput (hu_of hr) (pe_fld (pv 0) rfl) (pv 1) (pv 3) rfl)
      (pss_one (ps_dput (hu_of hr) (pe_fld (pv 0) rfl) (pv 1) (pe_callTy c_listOf (by rfl) T.mg_list (by decide +kernel) (pa_cons (pv 4) pa_nil)) rfl))))))
theorem b_Switch__check {fd : FuncData} (F : Fun K "_check" "Switch._check" s_Switch__check a.f_Switch__check fd) : Binds K fd ["self", "g"] [] := F.binds (ps := ["self", "g"]) fun _ _ _ _ _ _ us hl => match us, hl with | [_, _], _ => rfl
theorem ok_Switch__check {fd : FuncData} (F : Fun K "_check" "Switch._check" s_Switch__check a.f_Switch__check fd) (T : Txt K mg a) : FnOk P w K mg base CX0 1 a.f_Switch__check fd ["self", "g"] (sp_Switch__check K a) := by
  refine F.ok sc_Switch__check (fun vs H Q E h => by obtain ⟨x0, x1, rfl, h⟩ := h; rfl) (fun cdv A outer s H vs Q E hr h => ⟨t_Switch__check K a, ?_, by obtain ⟨x0, x1, rfl, h⟩ := h; exact pure_Switch__check T.toCl h⟩)
  exact (pss_one (ps_if (pt_cmp (pc_dnotin (hu_of hr) (pv 1) (pe_fld (pv 0) rfl)) rfl) (pss_one ps_never) pss_nil))
theorem b_Switch_leave {fd : FuncData} (F : Fun K "leave" "Switch.leave" s_Switch_leave a.f_Switch_leave fd) : Binds K fd ["self", "g"] [] := F.binds (ps := ["self", "g"]) fun _ _ _ _ _ _ us hl => match us, hl with | [_, _], _ => rfl
theorem ok_Switch_leave {fd : FuncData} (F : Fun K "leave" "Switch.leave" s_Switch_leave a.f_Switch_leave fd) (T : Txt K mg a) : FnOk P w K mg base CX0 2 a.f_Switch_leave fd ["self", "g"] (sp_Switch_leave K a) := by
  obtain ⟨fd_Switch__check, F_Switch__check⟩ := T.fn_Switch__check
  have G_Switch__check : FnOk P w K mg base CX0 1 a.f_Switch__check fd_Switch__check ["self", "g"] (sp_Switch__check K a) := ok_Switch__check F_Switch__check T
  have B_Switch__check := b_Switch__check F_Switch__check
  refine F.ok sc_Switch_leave (fun vs H Q E h => by obtain ⟨x0, x1, rfl, h⟩ := h; rfl) (fun cdv A outer s H vs Q E hr h => ⟨t_Switch_leave K a, ?_, by obtain ⟨x0, x1, rfl, h⟩ := h; exact pure_Switch_leave T.toCl h⟩)
  exact (pss_cons (ps_expr (pe_meth (pv 0) T.cl_Switch T.mt_Switch__check G_Switch__check (hr.mono (by decide)) B_Switch__check .nil pass0 (pa_cons (pv 1) pa_nil)))
      (pss_cons (ps_ddel (pe_fld (pv 0) rfl) (pv 1))
      (pss_cons (ps_ddel (pe_fld (pv 0) rfl) (pv 1))
      (pss_one (ps_ddel (pe_fld (pv 0) rfl) (pv 1))))))
theorem b_Switch_guests {fd : FuncData} (F : Fun K "guests" "Switch.guests" s_Switch_guests a.f_Switch_guests fd) : Binds K fd ["self"] [] := F.binds (ps := ["self"]) fun _ _ _ _ _ _ us hl => match us, hl with | [_], _ => rfl
theorem ok_Switch_guests {fd : FuncData} (F : Fun K "guests" "Switch.guests" s_Switch_guests a.f_Switch_guests fd) (T : Txt K mg a) : FnOk P w K mg base CX0 1 a.f_Switch_guests fd ["self"] (sp_Switch_guests K a) := by
  refine F.ok sc_Switch_guests (fun vs H Q E h => by obtain ⟨x0, rfl, h⟩ := h; rfl) (fun cdv A outer s H vs Q E hr h => ⟨t_Switch_guests K a, ?_, by obtain ⟨x0, rfl, h⟩ := h; exact pure_Switch_guests T.toCl h⟩)
  exact (pss_one (ps_ret (pe_callTy c_tupOf (by rfl) T.mg_tuple (by decide +kernel) (pa_cons (pe_callB (call_sortedDI rfl) (by rfl) T.mg_sorted (by decide +kernel) (pa_cons (pe_fld (pv 0) rfl) pa_nil)) pa_nil))))
theorem b_Switch_feed {fd : FuncData} (F : Fun K "feed" "Switch.feed" s_Switch_feed a.f_Switch_feed fd) : Binds K fd ["self", "g", "time", "word"] [] := F.binds (ps := ["self", "g", "time", "word"]) fun _ _ _ _ _ _ us hl => match us, hl with | [_, _, _, _], _ => rfl
theorem ok_Switch_feed {fd : FuncData} (F : Fun K "feed" "Switch.feed" s_Switch_feed a.f_Switch_feed fd) (T : Txt K mg a) : FnOk P w K mg base (L2N.CX P w) 5 a.f_Switch_feed fd ["self", "g", "time", "word"] (sp_Switch_feed K a) := by
  obtain ⟨fd_Switch__check, F_Switch__check⟩ := T.fn_Switch__check
  have G_Switch__check : FnOk P w K mg base CX0 1 a.f_Switch__check fd_Switch__check ["self", "g"] (sp_Switch__check K a) := ok_Switch__check F_Switch__check T
  have B_Switch__check := b_Switch__check F_Switch__check
  obtain ⟨fd_arrive, F_arrive⟩ := T.fn_arrive
  have G_arrive : FnOk P w K mg base (L2N.CX P w) 4 a.f_arrive fd_arrive ["tape", "steps", "word"] (sp_arrive K a) := ok_arrive F_arrive T
  have B_arrive := b_arrive F_arrive
  refine Lh.okN F sc_Switch_feed (fun vs H Q E h => by obtain ⟨x0, x1, x2, x3, rfl, h⟩ := h; rfl) (fun cdv A outer s H vs Q E hr h => ⟨t_Switch_feed K a E, ?_, by obtain ⟨x0, x1, x2, x3, rfl, h⟩ := h; exact pure_Switch_feed T.toCl h⟩)
  exact (pss_cons (ps_expr (pe_meth (pv 0) T.cl_Switch T.mt_Switch__check G_Switch__check (hr.mono (by decide)) B_Switch__check .nil pass0 (pa_cons (pv 1) pa_nil)))
      (pss_one (ps_dput (hu_of hr) (pe_fld (pv 0) rfl) (pv 1) (pe_call G_arrive (hr.mono (by decide)) (by rfl) T.mgF_arrive T.kp_arrive B_arrive .nil (L2N.passes_call (L2N.takes_of rfl rfl rfl rfl) (fun _ _ _ _ h => h)) (pa_cons (pe_dget (hu_of hr) (pe_fld (pv 0) rfl) (pv 1) (fun _ _ => rfl)) (pa_cons (pv 2) (pa_cons (pv 3) pa_nil)))) rfl)))
theorem b_Switch_post {fd : FuncData} (F : Fun K "post" "Switch.post" s_Switch_post a.f_Switch_post fd) : Binds K fd ["self", "g", "time", "peer", "word", "arrival"] [] := F.binds (ps := ["self", "g", "time", "peer", "word", "arrival"]) fun _ _ _ _ _ _ us hl => match us, hl with | [_, _, _, _, _, _], _ => rfl
theorem ok_Switch_post {fd : FuncData} (F : Fun K "post" "Switch.post" s_Switch_post a.f_Switch_post fd) (T : Txt K mg a) : FnOk P w K mg base (L2N.CX P w) 5 a.f_Switch_post fd ["self", "g", "time", "peer", "word", "arrival"] (sp_Switch_post K a) := by
  obtain ⟨fd_Switch__check, F_Switch__check⟩ := T.fn_Switch__check
  have G_Switch__check : FnOk P w K mg base CX0 1 a.f_Switch__check fd_Switch__check ["self", "g"] (sp_Switch__check K a) := ok_Switch__check F_Switch__check T
  have B_Switch__check := b_Switch__check F_Switch__check
  obtain ⟨fd_check_range, F_check_range⟩ := T.fn_check_range
  have G_check_range : FnOk P w K mg base CX0 1 a.f_check_range fd_check_range ["value", "low", "high"] (sp_check_range K a) := ok_check_range F_check_range T
  have B_check_range := b_check_range F_check_range
  obtain ⟨fd_arrive, F_arrive⟩ := T.fn_arrive
  have G_arrive : FnOk P w K mg base (L2N.CX P w) 4 a.f_arrive fd_arrive ["tape", "steps", "word"] (sp_arrive K a) := ok_arrive F_arrive T
  have B_arrive := b_arrive F_arrive
  refine Lh.okN F sc_Switch_post (fun vs H Q E h => by obtain ⟨x0, x1, x2, x3, x4, x5, rfl, h⟩ := h; rfl) (fun cdv A outer s H vs Q E hr h => ⟨t_Switch_post K a E, ?_, by obtain ⟨x0, x1, x2, x3, x4, x5, rfl, h⟩ := h; exact pure_Switch_post T.toCl h⟩)
  exact (pss_cons (ps_expr (pe_meth (pv 0) T.cl_Switch T.mt_Switch__check G_Switch__check (hr.mono (by decide)) B_Switch__check .nil pass0 (pa_cons (pv 1) pa_nil)))
      (pss_cons (ps_if (pt_cmpR op_lt (pv 2) pe_int (nomark _)) (pss_one ps_never) pss_nil)
      (pss_cons (ps_expr (pe_call G_check_range (hr.mono (by decide)) (by rfl) T.mgF_check_range T.kp_check_range B_check_range .nil pass0 (pa_cons (pv 3) (pa_cons pe_int (pa_cons (pe_glob rfl T.gl_MOST_PEER.choose_spec.1 T.gl_MOST_PEER.choose_spec.2) pa_nil)))))
      (pss_cons (ps_expr (pe_call G_check_range (hr.mono (by decide)) (by rfl) T.mgF_check_range T.kp_check_range B_check_range .nil pass0 (pa_cons (pv 4) (pa_cons pe_int (pa_cons (pe_op op_sub (pe_glob rfl T.gl_WORD.choose_spec.1 T.gl_WORD.choose_spec.2) pe_int) pa_nil)))))
      (pss_cons (ps_if (pt_cmpR op_lt (pv 5) pe_int (nomark _)) (pss_one ps_never) pss_nil)
      (pss_cutL (ps_set (i := 6) sc_Switch_post.nd rfl (by first | exact Or.inl rfl | exact Or.inr rfl) (pe_and (pe_cmp (pc_din (hu_of hr) (pv 3) (pe_fld (pv 0) rfl)) rfl) (pe_one (pe_cmpR op_lt (pe_callB c_len (by rfl) T.mg_len (by decide +kernel) (pa_cons (pe_dget (hu_of hr) (pe_fld (pv 0) rfl) (pv 3) (fun _ _ => rfl)) pa_nil)) (pe_glob rfl T.gl_MOST_MAIL.choose_spec.1 T.gl_MOST_MAIL.choose_spec.2) (nomark _))))) (pss_cutL (ps_if (pt_val (pv 6)) (pss_one (ps_dput (hu_of hr) (pe_fld (pv 0) rfl) (pv 3) (pe_call G_arrive (hr.mono (by decide)) (by rfl) T.mgF_arrive T.kp_arrive B_arrive .nil (L2N.passes_call (L2N.takes_of rfl rfl rfl rfl) (fun _ _ _ _ h => h)) (pa_cons (pe_dget (hu_of hr) (pe_fld (pv 0) rfl) (pv 3) (fun _ _ => rfl)) (pa_cons (pv 5) (pa_cons (pv 4) pa_nil)))) rfl)) pss_nil) (pss_cons (ps_expr (pe_bm PySem.F.plainAttrs_list PySem.F.slot_list_append PySem.F.type_list_append mt_append (pe_dget (hu_of hr) (pe_fld (pv 0) rfl) (pv 1) (fun _ _ => rfl)) (pa_cons (pe_tup (pa_cons (pv 2) (pa_cons (pv 3) (pa_cons (pv 4) pa_nil)))) pa_nil)))
      (pss_one (ps_ret (pv 6)))))))))))
theorem b_Switch_tape {fd : FuncData} (F : Fun K "tape" "Switch.tape" s_Switch_tape a.f_Switch_tape fd) : Binds K fd ["self", "g"] [] := F.binds (ps := ["self", "g"]) fun _ _ _ _ _ _ us hl => match us, hl with | [_, _], _ => rfl
theorem ok_Switch_tape {fd : FuncData} (F : Fun K "tape" "Switch.tape" s_Switch_tape a.f_Switch_tape fd) (T : Txt K mg a) : FnOk P w K mg base CX0 2 a.f_Switch_tape fd ["self", "g"] (sp_Switch_tape K a) := by
  obtain ⟨fd_Switch__check, F_Switch__check⟩ := T.fn_Switch__check
  have G_Switch__check : FnOk P w K mg base CX0 1 a.f_Switch__check fd_Switch__check ["self", "g"] (sp_Switch__check K a) := ok_Switch__check F_Switch__check T
  have B_Switch__check := b_Switch__check F_Switch__check
  refine F.ok sc_Switch_tape (fun vs H Q E h => by obtain ⟨x0, x1, rfl, h⟩ := h; rfl) (fun cdv A outer s H vs Q E hr h => ⟨t_Switch_tape K a, ?_, by obtain ⟨x0, x1, rfl, h⟩ := h; exact pure_Switch_tape T.toCl h⟩)
  exact (pss_cons (ps_expr (pe_meth (pv 0) T.cl_Switch T.mt_Switch__check G_Switch__check (hr.mono (by decide)) B_Switch__check .nil pass0 (pa_cons (pv 1) pa_nil)))
      (pss_one (ps_ret (pe_dget (hu_of hr) (pe_fld (pv 0) rfl) (pv 1) (fun _ _ => rfl)))))
theorem b_Switch_mail {fd : FuncData} (F : Fun K "mail" "Switch.mail" s_Switch_mail a.f_Switch_mail fd) : Binds K fd ["self", "g"] [] := F.binds (ps := ["self", "g"]) fun _ _ _ _ _ _ us hl => match us, hl with | [_, _], _ => rfl
theorem ok_Switch_mail {fd : FuncData} (F : Fun K "mail" "Switch.mail" s_Switch_mail a.f_Switch_mail fd) (T : Txt K mg a) : FnOk P w K mg base CX0 2 a.f_Switch_mail fd ["self", "g"] (sp_Switch_mail K a) := by
  obtain ⟨fd_Switch__check, F_Switch__check⟩ := T.fn_Switch__check
  have G_Switch__check : FnOk P w K mg base CX0 1 a.f_Switch__check fd_Switch__check ["self", "g"] (sp_Switch__check K a) := ok_Switch__check F_Switch__check T
  have B_Switch__check := b_Switch__check F_Switch__check
  refine F.ok sc_Switch_mail (fun vs H Q E h => by obtain ⟨x0, x1, rfl, h⟩ := h; rfl) (fun cdv A outer s H vs Q E hr h => ⟨t_Switch_mail K a, ?_, by obtain ⟨x0, x1, rfl, h⟩ := h; exact pure_Switch_mail T.toCl h⟩)
  exact (pss_cons (ps_expr (pe_meth (pv 0) T.cl_Switch T.mt_Switch__check G_Switch__check (hr.mono (by decide)) B_Switch__check .nil pass0 (pa_cons (pv 1) pa_nil)))
      (pss_one (ps_ret (pe_dget (hu_of hr) (pe_fld (pv 0) rfl) (pv 1) (fun _ _ => rfl)))))
theorem b_Switch_posted {fd : FuncData} (F : Fun K "posted" "Switch.posted" s_Switch_posted a.f_Switch_posted fd) : Binds K fd ["self", "g"] [] := F.binds (ps := ["self", "g"]) fun _ _ _ _ _ _ us hl => match us, hl with | [_, _], _ => rfl
theorem ok_Switch_posted {fd : FuncData} (F : Fun K "posted" "Switch.posted" s_Switch_posted a.f_Switch_posted fd) (T : Txt K mg a) : FnOk P w K mg base CX0 2 a.f_Switch_posted fd ["self", "g"] (sp_Switch_posted K a) := by
  obtain ⟨fd_Switch__check, F_Switch__check⟩ := T.fn_Switch__check
  have G_Switch__check : FnOk P w K mg base CX0 1 a.f_Switch__check fd_Switch__check ["self", "g"] (sp_Switch__check K a) := ok_Switch__check F_Switch__check T
  have B_Switch__check := b_Switch__check F_Switch__check
  refine F.ok sc_Switch_posted (fun vs H Q E h => by obtain ⟨x0, x1, rfl, h⟩ := h; rfl) (fun cdv A outer s H vs Q E hr h => ⟨t_Switch_posted K a, ?_, by obtain ⟨x0, x1, rfl, h⟩ := h; exact pure_Switch_posted T.toCl h⟩)
  exact (pss_cons (ps_expr (pe_meth (pv 0) T.cl_Switch T.mt_Switch__check G_Switch__check (hr.mono (by decide)) B_Switch__check .nil pass0 (pa_cons (pv 1) pa_nil)))
      (pss_one (ps_ret (pe_callTy c_tupOf (by rfl) T.mg_tuple (by decide +kernel) (pa_cons (pe_dget (hu_of hr) (pe_fld (pv 0) rfl) (pv 1) (fun _ _ => rfl)) pa_nil)))))
theorem b_Switch_frozen {fd : FuncData} (F : Fun K "frozen" "Switch.frozen" s_Switch_frozen a.f_Switch_frozen fd) : Binds K fd ["self"] [] := F.binds (ps := ["self"]) fun _ _ _ _ _ _ us hl => match us, hl with | [_], _ => rfl
theorem ok_Switch_frozen {fd : FuncData} (F : Fun K "frozen" "Switch.frozen" s_Switch_frozen a.f_Switch_frozen fd) (T : Txt K mg a) : FnOk P w K mg base CX0 3 a.f_Switch_frozen fd ["self"] (sp_Switch_frozen K a) := by
  obtain ⟨fd_Switch_guests, F_Switch_guests⟩ := T.fn_Switch_guests
  have G_Switch_guests : FnOk P w K mg base CX0 1 a.f_Switch_guests fd_Switch_guests ["self"] (sp_Switch_guests K a) := ok_Switch_guests F_Switch_guests T
  have B_Switch_guests := b_Switch_guests F_Switch_guests
  obtain ⟨fd_Switch_posted, F_Switch_posted⟩ := T.fn_Switch_posted
  have G_Switch_posted : FnOk P w K mg base CX0 2 a.f_Switch_posted fd_Switch_posted ["self", "g"] (sp_Switch_posted K a) := ok_Switch_posted F_Switch_posted T
  have B_Switch_posted := b_Switch_posted F_Switch_posted
  refine F.ok sc_Switch_frozen (fun vs H Q E h => by obtain ⟨x0, rfl, h⟩ := h; rfl) (fun cdv A outer s H vs Q E hr h => ⟨t_Switch_frozen K a, ?_, by obtain ⟨x0, rfl, h⟩ := h; exact pure_Switch_frozen T.toCl h⟩)
  exact (pss_one (ps_ret (pe_callTy c_tupOf (by rfl) T.mg_tuple (by decide +kernel) (pa_cons (pe_lc (own := [("g", 1)]) (g := (gName 1)) (tt := tYes) (by rfl) sc_Switch_frozen.nd (pi_tup (pe_meth0 (pv 0) T.cl_Switch T.mt_Switch_guests G_Switch_guests (hr.mono (by decide)) B_Switch_guests .nil pass0)) (blkOk_by (own := [("g", 1)]) (N := n_Switch_frozen) (sc := defScope s_Switch_frozen) (by decide +kernel)) (fun _ _ _ _ _ => (pg_name (i := 1) sc_Switch_frozen.nd rfl (by first | exact Or.inl rfl | exact Or.inr rfl))) (fun _ _ _ _ _ => pts_nil) (fun _ _ _ _ _ => (pe_tup (pa_cons (pv 1) (pa_cons (pe_dget (hu_of hr) (pe_fld (pv 0) rfl) (pv 1) (fun _ _ => rfl)) (pa_cons (pe_dget (hu_of hr) (pe_fld (pv 0) rfl) (pv 1) (fun _ _ => rfl)) (pa_cons (pe_meth (pv 0) T.cl_Switch T.mt_Switch_posted G_Switch_posted (hr.mono (by decide)) B_Switch_posted .nil pass0 (pa_cons (pv 1) pa_nil)) pa_nil))))))) pa_nil))))
theorem b_thawed_switch {fd : FuncData} (F : Fun K "thawed_switch" "thawed_switch" s_thawed_switch a.f_thawed_switch fd) : Binds K fd ["value"] [] := F.binds (ps := ["value"]) fun _ _ _ _ _ _ us hl => match us, hl with | [_], _ => rfl
theorem ok_thawed_switch {fd : FuncData} (F : Fun K "thawed_switch" "thawed_switch" s_thawed_switch a.f_thawed_switch fd) (T : Txt K mg a) : FnOk P w K mg base CX0 3 a.f_thawed_switch fd ["value"] (sp_thawed_switch K a) := by
  obtain ⟨fd_Switch___init__, F_Switch___init__⟩ := T.fn_Switch___init__
  have G_Switch___init__ : FnOk P w K mg base CX0 1 a.f_Switch___init__ fd_Switch___init__ ["self"] (sp_Switch___init__ K a) := ok_Switch___init__ F_Switch___init__ T
  have B_Switch___init__ := b_Switch___init__ F_Switch___init__
  obtain ⟨fd_Switch_join, F_Switch_join⟩ := T.fn_Switch_join
  have G_Switch_join : FnOk P w K mg base CX0 2 a.f_Switch_join fd_Switch_join ["self", "g", "tape", "mail", "posted"] (sp_Switch_join K a) := ok_Switch_join F_Switch_join T
  have B_Switch_join := b_Switch_join F_Switch_join
  refine F.ok sc_thawed_switch (fun vs H Q E h => by obtain ⟨x0, rfl, h⟩ := h; rfl) (fun cdv A outer s H vs Q E hr h => ⟨t_thawed_switch K a, ?_, by obtain ⟨x0, rfl, h⟩ := h; exact pure_thawed_switch T.toCl h⟩)
  exact (pss_cons (ps_set (i := 1) sc_thawed_switch.nd rfl (by first | exact Or.inl rfl | exact Or.inr rfl) (pe_make0 T.mk_Switch G_Switch___init__ (hr.mono (by decide)) (by rfl) T.mgC_Switch B_Switch___init__ .nil pass0))
      (pss_cons (ps_for PassesOwn.never (by rfl) (pi_tup (pv 0)) (pg_tup (by rfl) (pgs_cons (pg_name (i := 2) sc_thawed_switch.nd rfl (by first | exact Or.inl rfl | exact Or.inr rfl)) (pgs_cons (pg_name (i := 3) sc_thawed_switch.nd rfl (by first | exact Or.inl rfl | exact Or.inr rfl)) (pgs_cons (pg_name (i := 4) sc_thawed_switch.nd rfl (by first | exact Or.inl rfl | exact Or.inr rfl)) (pgs_cons (pg_name (i := 5) sc_thawed_switch.nd rfl (by first | exact Or.inl rfl | exact Or.inr rfl)) pgs_nil))))) (pss_one (ps_expr (pe_meth (pv 1) T.cl_Switch T.mt_Switch_join G_Switch_join (hr.mono (by decide)) B_Switch_join .nil pass0 (pa_cons (pv 2) (pa_cons (pv 3) (pa_cons (pv 4) (pa_cons (pv 5) pa_nil))))))))
      (pss_one (ps_ret (pv 1)))))
theorem b__law_cell {fd : FuncData} (F : Fun K "_law_cell" "_law_cell" s__law_cell a.f__law_cell fd) : Binds K fd ["script", "k"] [] := F.binds (ps := ["script", "k"]) fun _ _ _ _ _ _ us hl => match us, hl with | [_, _], _ => rfl
theorem ok__law_cell {fd : FuncData} (F : Fun K "_law_cell" "_law_cell" s__law_cell a.f__law_cell fd) (T : Txt K mg a) : FnOk P w K mg base CX0 1 a.f__law_cell fd ["script", "k"] (sp__law_cell K a) := by
  refine F.ok sc__law_cell (fun vs H Q E h => by obtain ⟨x0, x1, rfl, h⟩ := h; rfl) (fun cdv A outer s H vs Q E hr h => ⟨t__law_cell K a, ?_, by obtain ⟨x0, x1, rfl, h⟩ := h; exact pure__law_cell T.toCl h⟩)
  exact (pss_cons (ps_if (pt_cmpR op_lt (pv 1) (pe_callB c_len (by rfl) T.mg_len (by decide +kernel) (pa_cons (pv 0) pa_nil)) (nomark _)) (pss_one (ps_ret (pe_ix ix_list (pv 0) (pv 1) (fun _ _ => rfl)))) pss_nil)
      (pss_one (ps_ret pe_int)))
theorem b__law_row {fd : FuncData} (F : Fun K "_law_row" "_law_row" s__law_row a.f__law_row fd) : Binds K fd ["cell", "count", "size"] [] := F.binds (ps := ["cell", "count", "size"]) fun _ _ _ _ _ _ us hl => match us, hl with | [_, _, _], _ => rfl
theorem ok__law_row {fd : FuncData} (F : Fun K "_law_row" "_law_row" s__law_row a.f__law_row fd) (T : Txt K mg a) : FnOk P w K mg base CX0 1 a.f__law_row fd ["cell", "count", "size"] (sp__law_row K a) := by
  refine F.ok sc__law_row (fun vs H Q E h => by obtain ⟨x0, x1, x2, rfl, h⟩ := h; rfl) (fun cdv A outer s H vs Q E hr h => ⟨t__law_row K a, ?_, by obtain ⟨x0, x1, x2, rfl, h⟩ := h; exact pure__law_row T.toCl h⟩)
  exact (pss_cons (ps_set (i := 3) sc__law_row.nd rfl (by first | exact Or.inl rfl | exact Or.inr rfl) (pe_lst pa_nil))
      (pss_cons (ps_set (i := 4) sc__law_row.nd rfl (by first | exact Or.inl rfl | exact Or.inr rfl) (pe_callB c_abs (by rfl) T.mg_abs (by decide +kernel) (pa_cons (pv 0) pa_nil)))
      (pss_cons (ps_if (pt_cmpR op_ge (pv 4) (pe_op op_pow pe_int pe_int) (nomark _)) (pss_cons (ps_for PassesOwn.never (by rfl) (pi_range1 (by rfl) T.mg_range (pa_cons (pv 1) pa_nil)) (pg_name (i := 5) sc__law_row.nd rfl (by first | exact Or.inl rfl | exact Or.inr rfl)) (pss_cons (ps_expr (pe_bm PySem.F.plainAttrs_list PySem.F.slot_list_append PySem.F.type_list_append mt_append (pv 3) (pa_cons (pe_op op_mod (pe_callTy c_int (by rfl) T.mg_int (by decide +kernel) (pa_cons (pv 4) pa_nil)) (pv 2)) pa_nil)))
      (pss_one (ps_set (i := 4) sc__law_row.nd rfl (by first | exact Or.inl rfl | exact Or.inr rfl) (pe_op op_fdiv (pv 4) (pv 2))))))
      (pss_one (ps_ret (pv 3)))) pss_nil)
      (pss_cons (ps_for PassesOwn.never (by rfl) (pi_range1 (by rfl) T.mg_range (pa_cons (pv 1) pa_nil)) (pg_name (i := 5) sc__law_row.nd rfl (by first | exact Or.inl rfl | exact Or.inr rfl)) (pss_cons (ps_set (i := 6) sc__law_row.nd rfl (by first | exact Or.inl rfl | exact Or.inr rfl) (pe_op op_mod (pe_callTy c_int (by rfl) T.mg_int (by decide +kernel) (pa_cons (pe_op op_add (pe_op op_add (pe_op op_mul (pv 4) pe_int) (pe_op op_mul (pv 5) pe_int)) pe_int) pa_nil)) pe_int))
      (pss_cons (ps_set (i := 6) sc__law_row.nd rfl (by first | exact Or.inl rfl | exact Or.inr rfl) (pe_op op_mod (pe_callTy c_int (by rfl) T.mg_int (by decide +kernel) (pa_cons (pe_op op_add (pe_op op_add (pe_op op_mul (pv 6) (pv 6)) (pe_op op_mul (pv 5) pe_int)) (pv 4)) pa_nil)) pe_int))
      (pss_one (ps_expr (pe_bm PySem.F.plainAttrs_list PySem.F.slot_list_append PySem.F.type_list_append mt_append (pv 3) (pa_cons (pe_op op_mod (pe_callTy c_int (by rfl) T.mg_int (by decide +kernel) (pa_cons (pe_op op_fdiv (pv 6) pe_int) pa_nil)) (pv 2)) pa_nil)))))))
      (pss_one (ps_ret (pv 3)))))))
theorem b__law_same {fd : FuncData} (F : Fun K "_law_same" "_law_same" s__law_same a.f__law_same fd) : Binds K fd ["actual", "expected"] [] := F.binds (ps := ["actual", "expected"]) fun _ _ _ _ _ _ us hl => match us, hl with | [_, _], _ => rfl
theorem ok1__law_same {fd : FuncData} (F : Fun K "_law_same" "_law_same" s__law_same a.f__law_same fd) (T : Txt K mg a) (d : Nat) (G__law_same : FnOk P w K mg base CX0 (d + 1) a.f__law_same fd ["actual", "expected"] (sp__law_same K a d)) : FnOk P w K mg base CX0 (d + 1 + 1) a.f__law_same fd ["actual", "expected"] (sp__law_same K a (d + 1)) := by
  have B__law_same := b__law_same F
  refine F.ok sc__law_same (fun vs H Q E h => by obtain ⟨x0, x1, rfl, h⟩ := h; rfl) (fun cdv A outer s H vs Q E hr h => ⟨t__law_same K a (sp__law_same K a d), ?_, by obtain ⟨x0, x1, rfl, h⟩ := h; exact pure__law_same T.toCl (d := d) h⟩)
  exact (pss_cons (ps_if (pt_val (pe_callB call_isi (by rfl) T.mg_isinstance (by decide +kernel) (pa_cons (pv 1) (pa_cons (pe_bltn (v := .ty "tuple") (by rfl) T.mg_tuple (by decide +kernel) rfl) pa_nil)))) (pss_cons (ps_if (PW.pt (pw_or (pt_not (pt_val (pe_callB call_isi (by rfl) T.mg_isinstance (by decide +kernel) (pa_cons (pv 0) (pa_cons (pe_bltn (v := .ty "tuple") (by rfl) T.mg_tuple (by decide +kernel) rfl) pa_nil))))) (pw_or1 (pt_cmpR op_ne (pe_callB c_len (by rfl) T.mg_len (by decide +kernel) (pa_cons (pv 0) pa_nil)) (pe_callB c_len (by rfl) T.mg_len (by decide +kernel) (pa_cons (pv 1) pa_nil)) (nomark _))))) (pss_one (ps_ret pe_bl)) pss_nil)
      (pss_cons (ps_for PassesOwn.never (by rfl) (pi_range1 (by rfl) T.mg_range (pa_cons (pe_callB c_len (by rfl) T.mg_len (by decide +kernel) (pa_cons (pv 1) pa_nil)) pa_nil)) (pg_name (i := 2) sc__law_same.nd rfl (by first | exact Or.inl rfl | exact Or.inr rfl)) (pss_one (ps_if (pt_not (pt_val (pe_call G__law_same hr (by rfl) T.mgF__law_same T.kp__law_same B__law_same .nil pass0 (pa_cons (pe_ix ix_tup (pv 0) (pv 2) (fun _ _ => rfl)) (pa_cons (pe_ix ix_tup (pv 1) (pv 2) (fun _ _ => rfl)) pa_nil))))) (pss_one (ps_ret pe_bl)) pss_nil)))
      (pss_one (ps_ret pe_bl)))) pss_nil)
      (pss_cons (ps_if (pt_val (pe_callB call_isi (by rfl) T.mg_isinstance (by decide +kernel) (pa_cons (pv 1) (pa_cons (pe_bltn (v := .ty "bool") (by rfl) T.mg_bool (by decide +kernel) rfl) pa_nil)))) (pss_one (ps_ret (pe_and (pe_callB call_isi (by rfl) T.mg_isinstance (by decide +kernel) (pa_cons (pv 0) (pa_cons (pe_bltn (v := .ty "bool") (by rfl) T.mg_bool (by decide +kernel) rfl) pa_nil))) (pe_one (pe_cmpR op_eq (pv 0) (pv 1) (nomark _)))))) pss_nil)
      (pss_cons (ps_if (pt_val (pe_callB call_isi (by rfl) T.mg_isinstance (by decide +kernel) (pa_cons (pv 1) (pa_cons (pe_bltn (v := .ty "int") (by rfl) T.mg_int (by decide +kernel) rfl) pa_nil)))) (pss_one (ps_ret (pe_and (pe_callB call_isi (by rfl) T.mg_isinstance (by decide +kernel) (pa_cons (pv 0) (pa_cons (pe_bltn (v := .ty "int") (by rfl) T.mg_int (by decide +kernel) rfl) pa_nil))) (pe_and (pe_not (pe_callB call_isi (by rfl) T.mg_isinstance (by decide +kernel) (pa_cons (pv 0) (pa_cons (pe_bltn (v := .ty "bool") (by rfl) T.mg_bool (by decide +kernel) rfl) pa_nil)))) (pe_one (pe_cmpR op_eq (pv 0) (pv 1) (nomark _))))))) pss_nil)
      (pss_cons (ps_if (pt_val (pe_callB call_isi (by rfl) T.mg_isinstance (by decide +kernel) (pa_cons (pv 1) (pa_cons (pe_bltn (v := .ty "str") (by rfl) T.mg_str (by decide +kernel) rfl) pa_nil)))) (pss_one (ps_ret (pe_and (pe_callB call_isi (by rfl) T.mg_isinstance (by decide +kernel) (pa_cons (pv 0) (pa_cons (pe_bltn (v := .ty "str") (by rfl) T.mg_str (by decide +kernel) rfl) pa_nil))) (pe_one (pe_cmpR op_eq (pv 0) (pv 1) (nomark _)))))) pss_nil)
      (pss_one (ps_ret (pe_and (pe_cmpR o_isN (pv 1) pe_non (nomark _)) (pe_one (pe_cmpR o_isN (pv 0) pe_non (nomark _))))))))))
theorem ok__law_same {fd : FuncData} (F : Fun K "_law_same" "_law_same" s__law_same a.f__law_same fd) (T : Txt K mg a) (d : Nat) : FnOk P w K mg base CX0 (d + 1) a.f__law_same fd ["actual", "expected"] (sp__law_same K a d) := by
  induction d with
  | zero => exact fnOk_none fun vs H Q E h => by obtain ⟨_, _, _, _, z, _⟩ := h; exact z
  | succ d ih => exact ok1__law_same F T d ih
theorem okH__law_same {fd : FuncData} (F : Fun K "_law_same" "_law_same" s__law_same a.f__law_same fd) (T : Txt K mg a) : L2H.FnH P w K mg base CX0 2 a.f__law_same fd ["actual", "expected"] (sph__law_same K a) := by
  have B__law_same := b__law_same F
  have GH0 : L2H.FnH P w K mg base CX0 1 a.f__law_same fd ["actual", "expected"] (fun _ _ _ _ => False) := Lh.fnH_none
  refine Lh.okH F sc__law_same (fun vs H Q E h => by obtain ⟨x0, x1, rfl, h⟩ := h; rfl) (fun cdv A outer s H vs Q E p hot hr h => ⟨th__law_same K a, ?_, by obtain ⟨x0, x1, rfl, h⟩ := h; exact pureh__law_same T.toCl h⟩)
  have hc : L2H.HotC (L2H.cxH CX0 P w K mg base n__law_same "_law_same" (defScope s__law_same) a.f__law_same cdv A outer s H E p).nox := ⟨p, hot, List.mem_cons_self⟩
  exact (pss_cons (ps_if (pt_val (pe_callB call_isi (by rfl) T.mg_isinstance (by decide +kernel) (pa_cons (pv 1) (pa_cons (pe_bltn (v := .ty "tuple") (by rfl) T.mg_tuple (by decide +kernel) rfl) pa_nil)))) (pss_cons (ps_if (PW.pt (pw_or (pt_not (pt_val (pe_callB call_isi (by rfl) T.mg_isinstance (by decide +kernel) (pa_cons (pv 0) (pa_cons (pe_bltn (v := .ty "tuple") (by rfl) T.mg_tuple (by decide +kernel) rfl) pa_nil))))) (pw_or1 (pt_cmpR op_ne (pe_callB c_len (by rfl) T.mg_len (by decide +kernel) (pa_cons (pv 0) pa_nil)) (pe_callB c_len (by rfl) T.mg_len (by decide +kernel) (pa_cons (pv 1) pa_nil)) (nomark _))))) (pss_one (ps_ret pe_bl)) pss_nil)
      (pss_cons (L2H.ps_forH PassesOwn.never hc (L2H.pi_range1H (by rfl) T.mg_range (pa_cons (pe_callB c_len (by rfl) T.mg_len (by decide +kernel) (pa_cons (pv 1) pa_nil)) pa_nil)) (pg_name (i := 2) sc__law_same.nd rfl (by first | exact Or.inl rfl | exact Or.inr rfl)) (pss_one (ps_if (pt_not (pt_val (L2H.pe_callH GH0 hr hc (by rfl) T.mgF__law_same T.kp__law_same B__law_same (fun _ => Lh.pass0At) (pa_cons (pe_ix ix_tup (pv 0) (pv 2) (fun _ _ => rfl)) (pa_cons (pe_ix ix_tup (pv 1) (pv 2) (fun _ _ => rfl)) pa_nil))))) (pss_one (ps_ret pe_bl)) pss_nil)))
      (pss_one (ps_ret pe_bl)))) pss_nil)
      (pss_cons (ps_if (pt_val (pe_callB call_isi (by rfl) T.mg_isinstance (by decide +kernel) (pa_cons (pv 1) (pa_cons (pe_bltn (v := .ty "bool") (by rfl) T.mg_bool (by decide +kernel) rfl) pa_nil)))) (pss_one (ps_ret (pe_and (pe_callB call_isi (by rfl) T.mg_isinstance (by decide +kernel) (pa_cons (pv 0) (pa_cons (pe_bltn (v := .ty "bool") (by rfl) T.mg_bool (by decide +kernel) rfl) pa_nil))) (pe_one (pe_cmpR op_eq (pv 0) (pv 1) (nomark _)))))) pss_nil)
      (pss_cons (ps_if (pt_val (pe_callB call_isi (by rfl) T.mg_isinstance (by decide +kernel) (pa_cons (pv 1) (pa_cons (pe_bltn (v := .ty "int") (by rfl) T.mg_int (by decide +kernel) rfl) pa_nil)))) (pss_one (ps_ret (pe_and (pe_callB call_isi (by rfl) T.mg_isinstance (by decide +kernel) (pa_cons (pv 0) (pa_cons (pe_bltn (v := .ty "int") (by rfl) T.mg_int (by decide +kernel) rfl) pa_nil))) (pe_and (pe_not (pe_callB call_isi (by rfl) T.mg_isinstance (by decide +kernel) (pa_cons (pv 0) (pa_cons (pe_bltn (v := .ty "bool") (by rfl) T.mg_bool (by decide +kernel) rfl) pa_nil)))) (pe_one (pe_cmpR op_eq (pv 0) (pv 1) (nomark _))))))) pss_nil)
      (pss_cons (ps_if (pt_val (pe_callB call_isi (by rfl) T.mg_isinstance (by decide +kernel) (pa_cons (pv 1) (pa_cons (pe_bltn (v := .ty "str") (by rfl) T.mg_str (by decide +kernel) rfl) pa_nil)))) (pss_one (ps_ret (pe_and (pe_callB call_isi (by rfl) T.mg_isinstance (by decide +kernel) (pa_cons (pv 0) (pa_cons (pe_bltn (v := .ty "str") (by rfl) T.mg_str (by decide +kernel) rfl) pa_nil))) (pe_one (pe_cmpR op_eq (pv 0) (pv 1) (nomark _)))))) pss_nil)
      (pss_one (ps_ret (pe_and (pe_cmpR o_isN (pv 1) pe_non (nomark _)) (pe_one (pe_cmpR o_isN (pv 0) pe_non (nomark _))))))))))
theorem b__law_shuffled {fd : FuncData} (F : Fun K "_law_shuffled" "_law_shuffled" s__law_shuffled a.f__law_shuffled fd) : Binds K fd ["cell", "count"] [] := F.binds (ps := ["cell", "count"]) fun _ _ _ _ _ _ us hl => match us, hl with | [_, _], _ => rfl
theorem ok__law_shuffled {fd : FuncData} (F : Fun K "_law_shuffled" "_law_shuffled" s__law_shuffled a.f__law_shuffled fd) (T : Txt K mg a) : FnOk P w K mg base CX0 2 a.f__law_shuffled fd ["cell", "count"] (sp__law_shuffled K a) := by
  obtain ⟨fd__law_row, F__law_row⟩ := T.fn__law_row
  have G__law_row : FnOk P w K mg base CX0 1 a.f__law_row fd__law_row ["cell", "count", "size"] (sp__law_row K a) := ok__law_row F__law_row T
  have B__law_row := b__law_row F__law_row
  refine F.ok sc__law_shuffled (fun vs H Q E h => by obtain ⟨x0, x1, rfl, h⟩ := h; rfl) (fun cdv A outer s H vs Q E hr h => ⟨t__law_shuffled K a, ?_, by obtain ⟨x0, x1, rfl, h⟩ := h; exact pure__law_shuffled T.toCl h⟩)
  exact (pss_cons (ps_setLc (i := 2) (own := [("k", 5)]) (g := (gName 5)) (tt := tYes) (by rfl) sc__law_shuffled.nd rfl rfl (sw_true rfl rfl rfl (by decide +kernel)) (pi_range1 (by rfl) T.mg_range (pa_cons (pv 1) pa_nil)) (blkOk_by (own := [("k", 5)]) (N := n__law_shuffled) (sc := defScope s__law_shuffled) (by decide +kernel)) (fun _ _ _ _ _ => (pg_name (i := 5) sc__law_shuffled.nd rfl (by first | exact Or.inl rfl | exact Or.inr rfl))) (fun _ _ _ _ _ => pts_nil) (fun _ _ _ _ _ => (pv 5)))
      (pss_cons (ps_set (i := 3) sc__law_shuffled.nd rfl (by first | exact Or.inl rfl | exact Or.inr rfl) (pe_call G__law_row (hr.mono (by decide)) (by rfl) T.mgF__law_row T.kp__law_row B__law_row .nil pass0 (pa_cons (pv 0) (pa_cons (pv 1) (pa_cons pe_int pa_nil)))))
      (pss_cons (ps_set (i := 4) sc__law_shuffled.nd rfl (by first | exact Or.inl rfl | exact Or.inr rfl) (pe_lst pa_nil))
      (pss_cons (ps_for PassesOwn.never (by rfl) (pi_range1 (by rfl) T.mg_range (pa_cons (pv 1) pa_nil)) (pg_name (i := 5) sc__law_shuffled.nd rfl (by first | exact Or.inl rfl | exact Or.inr rfl)) (pss_one (ps_expr (pe_bm PySem.F.plainAttrs_list PySem.F.slot_list_append PySem.F.type_list_append mt_append (pv 4) (pa_cons (pe_bm PySem.F.plainAttrs_list PySem.F.slot_list_pop PySem.F.type_list_pop mt_popAt (pv 2) (pa_cons (pe_op op_mod (pe_callTy c_int (by rfl) T.mg_int (by decide +kernel) (pa_cons (pe_ix ix_list (pv 3) (pv 5) (fun _ _ => rfl)) pa_nil)) (pe_callB c_len (by rfl) T.mg_len (by decide +kernel) (pa_cons (pv 2) pa_nil))) pa_nil)) pa_nil)))))
      (pss_one (ps_ret (pv 4)))))))
theorem b__law_pairs {fd : FuncData} (F : Fun K "_law_pairs" "_law_pairs" s__law_pairs a.f__law_pairs fd) : Binds K fd ["seed", "count"] [] := F.binds (ps := ["seed", "count"]) fun _ _ _ _ _ _ us hl => match us, hl with | [_, _], _ => rfl
theorem ok__law_pairs {fd : FuncData} (F : Fun K "_law_pairs" "_law_pairs" s__law_pairs a.f__law_pairs fd) (T : Txt K mg a) : FnOk P w K mg base CX0 1 a.f__law_pairs fd ["seed", "count"] (sp__law_pairs K a) := by
  refine F.ok sc__law_pairs (fun vs H Q E h => by obtain ⟨x0, x1, rfl, h⟩ := h; rfl) (fun cdv A outer s H vs Q E hr h => ⟨t__law_pairs K a, ?_, by obtain ⟨x0, x1, rfl, h⟩ := h; exact pure__law_pairs T.toCl h⟩)
  exact (pss_one (ps_ret (pe_lc (own := [("k", 2)]) (g := (gName 2)) (tt := tYes) (by rfl) sc__law_pairs.nd (pi_range1 (by rfl) T.mg_range (pa_cons (pv 1) pa_nil)) (blkOk_by (own := [("k", 2)]) (N := n__law_pairs) (sc := defScope s__law_pairs) (by decide +kernel)) (fun _ _ _ _ _ => (pg_name (i := 2) sc__law_pairs.nd rfl (by first | exact Or.inl rfl | exact Or.inr rfl))) (fun _ _ _ _ _ => pts_nil) (fun _ _ _ _ _ => (pe_tup (pa_cons (pe_op op_fdiv (pv 2) pe_int) (pa_cons (pe_op op_mod (pe_callTy c_int (by rfl) T.mg_int (by decide +kernel) (pa_cons (pe_op op_add (pv 0) (pe_op op_mul pe_int (pv 2))) pa_nil)) pe_int) pa_nil)))))))
theorem b__law_began {fd : FuncData} (F : Fun K "_law_began" "_law_began" s__law_began a.f__law_began fd) : Binds K fd ["switch", "guests", "shape", "numbers", "full"] [] := F.binds (ps := ["switch", "guests", "shape", "numbers", "full"]) fun _ _ _ _ _ _ us hl => match us, hl with | [_, _, _, _, _], _ => rfl
theorem ok__law_began {fd : FuncData} (F : Fun K "_law_began" "_law_began" s__law_began a.f__law_began fd) (T : Txt K mg a) : FnOk P w K mg base CX0 5 a.f__law_began fd ["switch", "guests", "shape", "numbers", "full"] (sp__law_began K a) := by
  obtain ⟨fd__law_pairs, F__law_pairs⟩ := T.fn__law_pairs
  have G__law_pairs : FnOk P w K mg base CX0 1 a.f__law_pairs fd__law_pairs ["seed", "count"] (sp__law_pairs K a) := ok__law_pairs F__law_pairs T
  have B__law_pairs := b__law_pairs F__law_pairs
  obtain ⟨fd__law_same, F__law_same⟩ := T.fn__law_same
  have G__law_same : FnOk P w K mg base CX0 4 a.f__law_same fd__law_same ["actual", "expected"] (sp__law_same K a 3) := ok__law_same F__law_same T 3
  have B__law_same := b__law_same F__law_same
  obtain ⟨fd_Switch_join, F_Switch_join⟩ := T.fn_Switch_join
  have G_Switch_join : FnOk P w K mg base CX0 2 a.f_Switch_join fd_Switch_join ["self", "g", "tape", "mail", "posted"] (sp_Switch_join K a) := ok_Switch_join F_Switch_join T
  have B_Switch_join := b_Switch_join F_Switch_join
  refine F.ok sc__law_began (fun vs H Q E h => by obtain ⟨x0, x1, x2, x3, x4, rfl, h⟩ := h; rfl) (fun cdv A outer s H vs Q E hr h => ⟨t__law_began K a, ?_, by obtain ⟨x0, x1, x2, x3, x4, rfl, h⟩ := h; exact pure__law_began T.toCl h⟩)
  exact (pss_cons (ps_set (i := 5) sc__law_began.nd rfl (by first | exact Or.inl rfl | exact Or.inr rfl) pe_dnewK)
      (pss_cons (ps_for PassesOwn.never (by rfl) (pi_range1 (by rfl) T.mg_range (pa_cons (pe_callB c_len (by rfl) T.mg_len (by decide +kernel) (pa_cons (pv 1) pa_nil)) pa_nil)) (pg_name (i := 6) sc__law_began.nd rfl (by first | exact Or.inl rfl | exact Or.inr rfl)) (pss_cons (ps_set (i := 7) sc__law_began.nd rfl (by first | exact Or.inl rfl | exact Or.inr rfl) (pe_ix ix_list (pe_lst (pa_cons (pe_op op_mod (pe_callTy c_int (by rfl) T.mg_int (by decide +kernel) (pa_cons (pe_ix ix_list (pv 3) (pe_op op_mul pe_int (pv 6)) (fun _ _ => rfl)) pa_nil)) pe_int) (pa_cons pe_int (pa_cons (pe_op op_mod (pe_callTy c_int (by rfl) T.mg_int (by decide +kernel) (pa_cons (pe_ix ix_list (pv 3) (pe_op op_mul pe_int (pv 6)) (fun _ _ => rfl)) pa_nil)) pe_int) pa_nil)))) (pe_op op_mod (pe_callTy c_int (by rfl) T.mg_int (by decide +kernel) (pa_cons (pe_ix ix_list (pv 3) (pe_op op_mul pe_int (pv 6)) (fun _ _ => rfl)) pa_nil)) pe_int) (fun _ _ => rfl)))
      (pss_cons (ps_set (i := 8) sc__law_began.nd rfl (by first | exact Or.inl rfl | exact Or.inr rfl) (pe_ix ix_list (pe_lst (pa_cons (pe_op op_mod (pe_callTy c_int (by rfl) T.mg_int (by decide +kernel) (pa_cons (pe_ix ix_list (pv 3) (pe_op op_add (pe_op op_mul pe_int (pv 6)) pe_int) (fun _ _ => rfl)) pa_nil)) pe_int) (pa_cons pe_int (pa_cons pe_int (pa_cons pe_int pa_nil))))) (pe_op op_mod (pe_callTy c_int (by rfl) T.mg_int (by decide +kernel) (pa_cons (pe_ix ix_list (pv 3) (pe_op op_add (pe_op op_mul pe_int (pv 6)) pe_int) (fun _ _ => rfl)) pa_nil)) pe_int) (fun _ _ => rfl)))
      (pss_cutL (ps_if (pt_cmpR op_eq (pv 6) pe_int (nomark _)) (pss_cons (ps_set (i := 8) sc__law_began.nd rfl (by first | exact Or.inl rfl | exact Or.inr rfl) (pv 4))
      (pss_one (ps_set (i := 7) sc__law_began.nd rfl (by first | exact Or.inl rfl | exact Or.inr rfl) (pe_op op_mod (pe_callTy c_int (by rfl) T.mg_int (by decide +kernel) (pa_cons (pe_ix ix_list (pv 3) pe_int (fun _ _ => rfl)) pa_nil)) pe_int)))) pss_nil) (pss_cons (ps_setLc (i := 9) (own := [("j", 11)]) (g := (gName 11)) (tt := tYes) (by rfl) sc__law_began.nd rfl rfl (sw_true rfl rfl rfl (by decide +kernel)) (pi_range1 (by rfl) T.mg_range (pa_cons (pe_op op_mod (pe_callTy c_int (by rfl) T.mg_int (by decide +kernel) (pa_cons (pe_ix ix_list (pv 3) (pe_op op_add (pe_op op_mul pe_int (pv 6)) pe_int) (fun _ _ => rfl)) pa_nil)) pe_int) pa_nil)) (blkOk_by (own := [("j", 11)]) (N := n__law_began) (sc := defScope s__law_began) (by decide +kernel)) (fun _ _ _ _ _ => (pg_name (i := 11) sc__law_began.nd rfl (by first | exact Or.inl rfl | exact Or.inr rfl))) (fun _ _ _ _ _ => pts_nil) (fun _ _ _ _ _ => (pe_tup (pa_cons (pv 11) (pa_cons (pe_op op_sub pe_int (pv 11)) (pa_cons (pe_op op_add pe_int (pv 11)) pa_nil))))))
      (pss_cons (ps_dput (hu_of hr) (pv 5) (pe_ix ix_list (pv 1) (pv 6) (fun _ _ => rfl)) (pe_lst (pa_cons (pe_call G__law_pairs (hr.mono (by decide)) (by rfl) T.mgF__law_pairs T.kp__law_pairs B__law_pairs .nil pass0 (pa_cons (pe_op op_add (pv 2) (pv 6)) (pa_cons (pv 7) pa_nil))) (pa_cons (pe_call G__law_pairs (hr.mono (by decide)) (by rfl) T.mgF__law_pairs T.kp__law_pairs B__law_pairs .nil pass0 (pa_cons (pe_op op_add (pv 2) (pe_op op_mul pe_int (pv 6))) (pa_cons (pv 8) pa_nil))) (pa_cons (pv 9) pa_nil)))) rfl)
      (pss_cons (ps_set (i := 10) sc__law_began.nd rfl (by first | exact Or.inl rfl | exact Or.inr rfl) (pe_dget (hu_of hr) (pv 5) (pe_ix ix_list (pv 1) (pv 6) (fun _ _ => rfl)) (fun _ _ => rfl)))
      (pss_one (ps_if (pt_not (pt_val (pe_call G__law_same (hr.mono (by decide)) (by rfl) T.mgF__law_same T.kp__law_same B__law_same .nil pass0 (pa_cons (pe_meth (pv 0) T.cl_Switch T.mt_Switch_join G_Switch_join (hr.mono (by decide)) B_Switch_join .nil pass0 (pa_cons (pe_ix ix_list (pv 1) (pv 6) (fun _ _ => rfl)) (pa_cons (pe_callTy c_tupOf (by rfl) T.mg_tuple (by decide +kernel) (pa_cons (pe_ix ix_list (pv 10) pe_int (fun _ _ => rfl)) pa_nil)) (pa_cons (pe_callTy c_tupOf (by rfl) T.mg_tuple (by decide +kernel) (pa_cons (pe_ix ix_list (pv 10) pe_int (fun _ _ => rfl)) pa_nil)) (pa_cons (pe_callTy c_tupOf (by rfl) T.mg_tuple (by decide +kernel) (pa_cons (pe_ix ix_list (pv 10) pe_int (fun _ _ => rfl)) pa_nil)) pa_nil))))) (pa_cons pe_non pa_nil))))) (pss_one (ps_ret pe_non)) pss_nil)))))))))
      (pss_one (ps_ret (pv 5)))))
theorem b__law_tells {fd : FuncData} (F : Fun K "_law_tells" "_law_tells" s__law_tells a.f__law_tells fd) : Binds K fd ["switch", "rows"] [] := F.binds (ps := ["switch", "rows"]) fun _ _ _ _ _ _ us hl => match us, hl with | [_, _], _ => rfl
theorem ok__law_tells {fd : FuncData} (F : Fun K "_law_tells" "_law_tells" s__law_tells a.f__law_tells fd) (T : Txt K mg a) : FnOk P w K mg base CX0 5 a.f__law_tells fd ["switch", "rows"] (sp__law_tells K a) := by
  obtain ⟨fd_Switch_tape, F_Switch_tape⟩ := T.fn_Switch_tape
  have G_Switch_tape : FnOk P w K mg base CX0 2 a.f_Switch_tape fd_Switch_tape ["self", "g"] (sp_Switch_tape K a) := ok_Switch_tape F_Switch_tape T
  have B_Switch_tape := b_Switch_tape F_Switch_tape
  obtain ⟨fd_Switch_mail, F_Switch_mail⟩ := T.fn_Switch_mail
  have G_Switch_mail : FnOk P w K mg base CX0 2 a.f_Switch_mail fd_Switch_mail ["self", "g"] (sp_Switch_mail K a) := ok_Switch_mail F_Switch_mail T
  have B_Switch_mail := b_Switch_mail F_Switch_mail
  obtain ⟨fd__law_same, F__law_same⟩ := T.fn__law_same
  have G__law_same : FnOk P w K mg base CX0 4 a.f__law_same fd__law_same ["actual", "expected"] (sp__law_same K a 3) := ok__law_same F__law_same T 3
  have B__law_same := b__law_same F__law_same
  obtain ⟨fd_Switch_posted, F_Switch_posted⟩ := T.fn_Switch_posted
  have G_Switch_posted : FnOk P w K mg base CX0 2 a.f_Switch_posted fd_Switch_posted ["self", "g"] (sp_Switch_posted K a) := ok_Switch_posted F_Switch_posted T
  have B_Switch_posted := b_Switch_posted F_Switch_posted
  obtain ⟨fd_Switch_guests, F_Switch_guests⟩ := T.fn_Switch_guests
  have G_Switch_guests : FnOk P w K mg base CX0 1 a.f_Switch_guests fd_Switch_guests ["self"] (sp_Switch_guests K a) := ok_Switch_guests F_Switch_guests T
  have B_Switch_guests := b_Switch_guests F_Switch_guests
  obtain ⟨fd_Switch_frozen, F_Switch_frozen⟩ := T.fn_Switch_frozen
  have G_Switch_frozen : FnOk P w K mg base CX0 3 a.f_Switch_frozen fd_Switch_frozen ["self"] (sp_Switch_frozen K a) := ok_Switch_frozen F_Switch_frozen T
  have B_Switch_frozen := b_Switch_frozen F_Switch_frozen
  refine F.ok sc__law_tells (fun vs H Q E h => by obtain ⟨x0, x1, rfl, h⟩ := h; rfl) (fun cdv A outer s H vs Q E hr h => ⟨t__law_tells K a, ?_, by obtain ⟨x0, x1, rfl, h⟩ := h; exact pure__law_tells T.toCl h⟩)
  exact (pss_cons (ps_set (i := 2) sc__law_tells.nd rfl (by first | exact Or.inl rfl | exact Or.inr rfl) (pe_lst pa_nil))
      (pss_cons (ps_for PassesOwn.never (by rfl) (pi_list (pe_callB cr_sortedI (by rfl) T.mg_sorted (by decide +kernel) (pa_cons (pe_callTy (call_list_dK rfl) (by rfl) T.mg_list (by decide +kernel) (pa_cons (pv 1) pa_nil)) pa_nil))) (pg_name (i := 3) sc__law_tells.nd rfl (by first | exact Or.inl rfl | exact Or.inr rfl)) (pss_cons (ps_set (i := 4) sc__law_tells.nd rfl (by first | exact Or.inl rfl | exact Or.inr rfl) (pe_dget (hu_of hr) (pv 1) (pv 3) (fun _ _ => rfl)))
      (pss_cons (ps_if (PW.pt (pw_or (pt_cmpR (op_neD hr.units) (pe_meth (pv 0) T.cl_Switch T.mt_Switch_tape G_Switch_tape (hr.mono (by decide)) B_Switch_tape .nil pass0 (pa_cons (pv 3) pa_nil)) (pe_callTy c_tupOf (by rfl) T.mg_tuple (by decide +kernel) (pa_cons (pe_ix ix_list (pv 4) pe_int (fun _ _ => rfl)) pa_nil)) (nomark _)) (pw_or1 (pt_cmpR (op_neD hr.units) (pe_meth (pv 0) T.cl_Switch T.mt_Switch_mail G_Switch_mail (hr.mono (by decide)) B_Switch_mail .nil pass0 (pa_cons (pv 3) pa_nil)) (pe_callTy c_tupOf (by rfl) T.mg_tuple (by decide +kernel) (pa_cons (pe_ix ix_list (pv 4) pe_int (fun _ _ => rfl)) pa_nil)) (nomark _))))) (pss_one (ps_ret pe_bl)) pss_nil)
      (pss_cons (ps_if (pt_not (pt_val (pe_call G__law_same (hr.mono (by decide)) (by rfl) T.mgF__law_same T.kp__law_same B__law_same .nil pass0 (pa_cons (pe_meth (pv 0) T.cl_Switch T.mt_Switch_posted G_Switch_posted (hr.mono (by decide)) B_Switch_posted .nil pass0 (pa_cons (pv 3) pa_nil)) (pa_cons (pe_callTy c_tupOf (by rfl) T.mg_tuple (by decide +kernel) (pa_cons (pe_ix ix_list (pv 4) pe_int (fun _ _ => rfl)) pa_nil)) pa_nil))))) (pss_one (ps_ret pe_bl)) pss_nil)
      (pss_one (ps_expr (pe_bm PySem.F.plainAttrs_list PySem.F.slot_list_append PySem.F.type_list_append mt_append (pv 2) (pa_cons (pe_tup (pa_cons (pv 3) (pa_cons (pe_callTy c_tupOf (by rfl) T.mg_tuple (by decide +kernel) (pa_cons (pe_ix ix_list (pv 4) pe_int (fun _ _ => rfl)) pa_nil)) (pa_cons (pe_callTy c_tupOf (by rfl) T.mg_tuple (by decide +kernel) (pa_cons (pe_ix ix_list (pv 4) pe_int (fun _ _ => rfl)) pa_nil)) (pa_cons (pe_callTy c_tupOf (by rfl) T.mg_tuple (by decide +kernel) (pa_cons (pe_ix ix_list (pv 4) pe_int (fun _ _ => rfl)) pa_nil)) pa_nil))))) pa_nil))))))))
      (pss_cons (ps_if (pt_not (pt_val (pe_call G__law_same (hr.mono (by decide)) (by rfl) T.mgF__law_same T.kp__law_same B__law_same .nil pass0 (pa_cons (pe_meth0 (pv 0) T.cl_Switch T.mt_Switch_guests G_Switch_guests (hr.mono (by decide)) B_Switch_guests .nil pass0) (pa_cons (pe_callTy c_tupOf (by rfl) T.mg_tuple (by decide +kernel) (pa_cons (pe_callB cr_sortedI (by rfl) T.mg_sorted (by decide +kernel) (pa_cons (pe_callTy (call_list_dK rfl) (by rfl) T.mg_list (by decide +kernel) (pa_cons (pv 1) pa_nil)) pa_nil)) pa_nil)) pa_nil))))) (pss_one (ps_ret pe_bl)) pss_nil)
      (pss_one (ps_ret (pe_cmpR (op_eqD hr.units) (pe_meth0 (pv 0) T.cl_Switch T.mt_Switch_frozen G_Switch_frozen (hr.mono (by decide)) B_Switch_frozen .nil pass0) (pe_callTy c_tupOf (by rfl) T.mg_tuple (by decide +kernel) (pa_cons (pv 2) pa_nil)) (nomark _)))))))
theorem b__law_post {fd : FuncData} (F : Fun K "_law_post" "_law_post" s__law_post a.f__law_post fd) : Binds K fd ["switch", "rows", "g", "time", "peer", "word", "arrival"] [] := F.binds (ps := ["switch", "rows", "g", "time", "peer", "word", "arrival"]) fun _ _ _ _ _ _ us hl => match us, hl with | [_, _, _, _, _, _, _], _ => rfl
theorem ok__law_post {fd : FuncData} (F : Fun K "_law_post" "_law_post" s__law_post a.f__law_post fd) (T : Txt K mg a) : FnOk P w K mg base CX0 6 a.f__law_post fd ["switch", "rows", "g", "time", "peer", "word", "arrival"] (sp__law_post K a) := by
  obtain ⟨fd__law_same, F__law_same⟩ := T.fn__law_same
  have G__law_same : FnOk P w K mg base CX0 4 a.f__law_same fd__law_same ["actual", "expected"] (sp__law_same K a 3) := ok__law_same F__law_same T 3
  have B__law_same := b__law_same F__law_same
  obtain ⟨fd_Switch_post, F_Switch_post⟩ := T.fn_Switch_post
  have G_Switch_post : FnOk P w K mg base (L2N.CX P w) 5 a.f_Switch_post fd_Switch_post ["self", "g", "time", "peer", "word", "arrival"] (sp_Switch_post K a) := ok_Switch_post F_Switch_post T
  have B_Switch_post := b_Switch_post F_Switch_post
  refine F.ok sc__law_post (fun vs H Q E h => by obtain ⟨x0, x1, x2, x3, x4, x5, x6, rfl, h⟩ := h; rfl) (fun cdv A outer s H vs Q E hr h => ⟨t__law_post K a, ?_, by obtain ⟨x0, x1, x2, x3, x4, x5, x6, rfl, h⟩ := h; exact pure__law_post T.toCl h⟩)
  exact (pss_cons (ps_set (i := 7) sc__law_post.nd rfl (by first | exact Or.inl rfl | exact Or.inr rfl) pe_bl)
      (pss_cutL (ps_if (pt_cmp (pc_din (hu_of hr) (pv 4) (pv 1)) rfl) (pss_cons (ps_set (i := 8) sc__law_post.nd rfl (by first | exact Or.inl rfl | exact Or.inr rfl) (pe_ix ix_list (pe_dget (hu_of hr) (pv 1) (pv 4) (fun _ _ => rfl)) pe_int (fun _ _ => rfl)))
      (pss_one (ps_if (pt_cmpR op_lt (pe_callB c_len (by rfl) T.mg_len (by decide +kernel) (pa_cons (pv 8) pa_nil)) pe_int (nomark _)) (pss_cons (ps_set (i := 7) sc__law_post.nd rfl (by first | exact Or.inl rfl | exact Or.inr rfl) pe_bl)
      (pss_one (ps_expr (pe_bm PySem.F.plainAttrs_list PySem.F.slot_list_append PySem.F.type_list_append mt_append (pv 8) (pa_cons (pe_tup (pa_cons (pv 6) (pa_cons (pv 5) pa_nil))) pa_nil))))) pss_nil))) pss_nil) (pss_cons (ps_set (i := 9) sc__law_post.nd rfl (by first | exact Or.inl rfl | exact Or.inr rfl) (pe_ix ix_list (pe_dget (hu_of hr) (pv 1) (pv 2) (fun _ _ => rfl)) pe_int (fun _ _ => rfl)))
      (pss_cons (ps_expr (pe_bm PySem.F.plainAttrs_list PySem.F.slot_list_append PySem.F.type_list_append mt_append (pv 9) (pa_cons (pe_tup (pa_cons (pv 3) (pa_cons (pv 4) (pa_cons (pv 5) pa_nil)))) pa_nil)))
      (pss_one (ps_ret (pe_call G__law_same (hr.mono (by decide)) (by rfl) T.mgF__law_same T.kp__law_same B__law_same .nil pass0 (pa_cons (pe_meth (pv 0) T.cl_Switch T.mt_Switch_post G_Switch_post (hr.mono (by decide)) B_Switch_post .nil passN (pa_cons (pv 2) (pa_cons (pv 3) (pa_cons (pv 4) (pa_cons (pv 5) (pa_cons (pv 6) pa_nil)))))) (pa_cons (pv 7) pa_nil)))))))))
theorem b__law_too_early {fd : FuncData} (F : Fun K "_law_too_early" "_law_too_early" s__law_too_early a.f__law_too_early fd) : Binds K fd ["switch", "rows", "g", "peer"] [] := F.binds (ps := ["switch", "rows", "g", "peer"]) fun _ _ _ _ _ _ us hl => match us, hl with | [_, _, _, _], _ => rfl
theorem ok__law_too_early {fd : FuncData} (F : Fun K "_law_too_early" "_law_too_early" s__law_too_early a.f__law_too_early fd) (T : Txt K mg a) : FnOk P w K mg base CX0 7 a.f__law_too_early fd ["switch", "rows", "g", "peer"] (sp__law_too_early K a) := by
  obtain ⟨fd__law_post, F__law_post⟩ := T.fn__law_post
  have G__law_post : FnOk P w K mg base CX0 6 a.f__law_post fd__law_post ["switch", "rows", "g", "time", "peer", "word", "arrival"] (sp__law_post K a) := ok__law_post F__law_post T
  have B__law_post := b__law_post F__law_post
  obtain ⟨fd_Switch_post, F_Switch_post⟩ := T.fn_Switch_post
  have G_Switch_post : FnOk P w K mg base (L2N.CX P w) 5 a.f_Switch_post fd_Switch_post ["self", "g", "time", "peer", "word", "arrival"] (sp_Switch_post K a) := ok_Switch_post F_Switch_post T
  have B_Switch_post := b_Switch_post F_Switch_post
  obtain ⟨fd__law_same, F__law_same⟩ := T.fn__law_same
  have G__law_same : FnOk P w K mg base CX0 4 a.f__law_same fd__law_same ["actual", "expected"] (sp__law_same K a 3) := ok__law_same F__law_same T 3
  have B__law_same := b__law_same F__law_same
  have GH__law_same : L2H.FnH P w K mg base CX0 2 a.f__law_same fd__law_same ["actual", "expected"] (sph__law_same K a) := okH__law_same F__law_same T
  refine F.ok sc__law_too_early (fun vs H Q E h => by obtain ⟨x0, x1, x2, x3, rfl, h⟩ := h; rfl) (fun cdv A outer s H vs Q E hr h => ⟨t__law_too_early K a, ?_, by obtain ⟨x0, x1, x2, x3, rfl, h⟩ := h; exact pure__law_too_early T.toCl h⟩)
  exact (pss_cons (ps_set (i := 4) sc__law_too_early.nd rfl (by first | exact Or.inl rfl | exact Or.inr rfl) (pe_ix ix_list (pe_dget (hu_of hr) (pv 1) (pv 3) (fun _ _ => rfl)) pe_int (fun _ _ => rfl)))
      (pss_cons (ps_if (PW.pt (pw_or (pt_cmpR op_eq (pe_callB c_len (by rfl) T.mg_len (by decide +kernel) (pa_cons (pv 4) pa_nil)) pe_int (nomark _)) (pw_or1 (pt_cmpR op_eq (pe_ix ix_tup (pe_ix ix_list (pv 4) (pe_op op_sub (pe_callB c_len (by rfl) T.mg_len (by decide +kernel) (pa_cons (pv 4) pa_nil)) pe_int) (fun _ _ => rfl)) pe_int (fun _ _ => rfl)) pe_int (nomark _))))) (pss_one (ps_ret pe_bl)) pss_nil)
      (pss_cons (ps_if (pt_cmpR op_eq (pe_callB c_len (by rfl) T.mg_len (by decide +kernel) (pa_cons (pv 4) pa_nil)) pe_int (nomark _)) (pss_one (ps_ret (pe_call G__law_post (hr.mono (by decide)) (by rfl) T.mgF__law_post T.kp__law_post B__law_post .nil pass0 (pa_cons (pv 0) (pa_cons (pv 1) (pa_cons (pv 2) (pa_cons pe_int (pa_cons (pv 3) (pa_cons pe_int (pa_cons pe_int pa_nil)))))))))) pss_nil)
      (pss_one (L2N.ps_try_as (i := 5) (tb := fun W => (tSeq (tDrop (tMethE a.C_Switch "post" (sp_Switch_post K a) (WE W) (tVar 0) (tCons (tVar 2) (tCons (tC (.int 1)) (tCons (tVar 3) (tCons (tC (.int 77)) (tCons (tOp rSubI (tOp (rIxT K) (tOp (rIxL K) (tVar 4) (tOp rSubI (tCB (rLenS K) (tCons (tVar 4) tNil)) (tC (.int 1)))) (tC (.int 0))) (tC (.int 1))) tNil)))))))
      (tRet (tC (.bl false))))) (ts := fun xa xc xd => (tRet (tCallS (sph__law_same K a) (fun _ => E0) (tCons (tXf xa xc xd a.C_BadTape "place" (tVar 5)) (tCons (tCB (rLenS K) (tCons (tVar 4) tNil)) tNil))))) (Wout := (fun _ _ _ _ => False)) rfl rfl sc__law_too_early.nd rfl rfl ⟨rfl, by decide, Or.inl T.mgC_BadTape⟩ takesN
 (fun W pn xe tk hp => (pss_cons (ps_expr (pe_methE (pv 0) T.cl_Switch T.mt_Switch_post G_Switch_post (hr.mono (by decide)) B_Switch_post (fun σ => L2N.passAt tk σ) (pa_cons (pv 2) (pa_cons pe_int (pa_cons (pv 3) (pa_cons pe_int (pa_cons (pe_op op_sub (pe_ix ix_tup (pe_ix ix_list (pv 4) (pe_op op_sub (pe_callB c_len (by rfl) T.mg_len (by decide +kernel) (pa_cons (pv 4) pa_nil)) pe_int) (fun _ _ => rfl)) pe_int (fun _ _ => rfl)) pe_int) pa_nil)))))))
      (pss_one (ps_ret pe_bl))))
 (fun xa oe xc xd pn hz hf => (pss_one (ps_ret (L2H.pe_callH GH__law_same (L2H.roomH_mark (hr.mono (by decide)) _) (hotS hz hf) (by rfl) T.mgF__law_same T.kp__law_same B__law_same (fun _ => Lh.pass0At) (pa_cons (pe_xf T.xf_BadTape T.nf_BadTape_place hz.zc hf (pv 5)) (pa_cons (pe_callB c_len (by rfl) T.mg_len (by decide +kernel) (pa_cons (pv 4) pa_nil)) pa_nil)))))))))))
theorem b__law_fed {fd : FuncData} (F : Fun K "_law_fed" "_law_fed" s__law_fed a.f__law_fed fd) : Binds K fd ["switch", "rows", "g", "step"] [] := F.binds (ps := ["switch", "rows", "g", "step"]) fun _ _ _ _ _ _ us hl => match us, hl with | [_, _, _, _], _ => rfl
theorem ok__law_fed {fd : FuncData} (F : Fun K "_law_fed" "_law_fed" s__law_fed a.f__law_fed fd) (T : Txt K mg a) : FnOk P w K mg base CX0 6 a.f__law_fed fd ["switch", "rows", "g", "step"] (sp__law_fed K a) := by
  obtain ⟨fd__law_same, F__law_same⟩ := T.fn__law_same
  have G__law_same : FnOk P w K mg base CX0 4 a.f__law_same fd__law_same ["actual", "expected"] (sp__law_same K a 3) := ok__law_same F__law_same T 3
  have B__law_same := b__law_same F__law_same
  obtain ⟨fd_Switch_feed, F_Switch_feed⟩ := T.fn_Switch_feed
  have G_Switch_feed : FnOk P w K mg base (L2N.CX P w) 5 a.f_Switch_feed fd_Switch_feed ["self", "g", "time", "word"] (sp_Switch_feed K a) := ok_Switch_feed F_Switch_feed T
  have B_Switch_feed := b_Switch_feed F_Switch_feed
  have GH__law_same : L2H.FnH P w K mg base CX0 2 a.f__law_same fd__law_same ["actual", "expected"] (sph__law_same K a) := okH__law_same F__law_same T
  refine F.ok sc__law_fed (fun vs H Q E h => by obtain ⟨x0, x1, x2, x3, rfl, h⟩ := h; rfl) (fun cdv A outer s H vs Q E hr h => ⟨t__law_fed K a, ?_, by obtain ⟨x0, x1, x2, x3, rfl, h⟩ := h; exact pure__law_fed T.toCl h⟩)
  exact (pss_cons (ps_set (i := 4) sc__law_fed.nd rfl (by first | exact Or.inl rfl | exact Or.inr rfl) (pe_ix ix_list (pe_dget (hu_of hr) (pv 1) (pv 2) (fun _ _ => rfl)) pe_int (fun _ _ => rfl)))
      (pss_cons (ps_for PassesOwn.never (by rfl) (pi_range1 (by rfl) T.mg_range (pa_cons (pe_op op_sub pe_int (pe_callB c_len (by rfl) T.mg_len (by decide +kernel) (pa_cons (pv 4) pa_nil))) pa_nil)) (pg_name (i := 5) sc__law_fed.nd rfl (by first | exact Or.inl rfl | exact Or.inr rfl)) (pss_cons (ps_set (i := 6) sc__law_fed.nd rfl (by first | exact Or.inl rfl | exact Or.inr rfl) (pe_op op_mod (pe_callTy c_int (by rfl) T.mg_int (by decide +kernel) (pa_cons (pe_op op_add (pv 3) (pe_op op_mul pe_int (pv 5))) pa_nil)) pe_int))
      (pss_cons (ps_expr (pe_bm PySem.F.plainAttrs_list PySem.F.slot_list_append PySem.F.type_list_append mt_append (pv 4) (pa_cons (pe_tup (pa_cons (pe_op op_add pe_int (pv 5)) (pa_cons (pv 6) pa_nil))) pa_nil)))
      (pss_one (ps_if (pt_not (pt_val (pe_call G__law_same (hr.mono (by decide)) (by rfl) T.mgF__law_same T.kp__law_same B__law_same .nil pass0 (pa_cons (pe_meth (pv 0) T.cl_Switch T.mt_Switch_feed G_Switch_feed (hr.mono (by decide)) B_Switch_feed .nil passN (pa_cons (pv 2) (pa_cons (pe_op op_add pe_int (pv 5)) (pa_cons (pv 6) pa_nil)))) (pa_cons pe_non pa_nil))))) (pss_one (ps_ret pe_bl)) pss_nil)))))
      (pss_one (L2N.ps_try_as (i := 7) (tb := fun W => (tSeq (tDrop (tMethE a.C_Switch "feed" (sp_Switch_feed K a) (WE W) (tVar 0) (tCons (tVar 2) (tCons (tC (.int 9000)) (tCons (tC (.int 1)) tNil)))))
      (tRet (tC (.bl false))))) (ts := fun xa xc xd => (tRet (tCallS (sph__law_same K a) (fun _ => E0) (tCons (tXf xa xc xd a.C_TooMany "limit" (tVar 7)) (tCons (tC (.int 400)) tNil))))) (Wout := (fun _ _ _ _ => False)) rfl rfl sc__law_fed.nd rfl rfl ⟨rfl, by decide, Or.inl T.mgC_TooMany⟩ takesN
 (fun W pn xe tk hp => (pss_cons (ps_expr (pe_methE (pv 0) T.cl_Switch T.mt_Switch_feed G_Switch_feed (hr.mono (by decide)) B_Switch_feed (fun σ => L2N.passAt tk σ) (pa_cons (pv 2) (pa_cons pe_int (pa_cons pe_int pa_nil)))))
      (pss_one (ps_ret pe_bl))))
 (fun xa oe xc xd pn hz hf => (pss_one (ps_ret (L2H.pe_callH GH__law_same (L2H.roomH_mark (hr.mono (by decide)) _) (hotS hz hf) (by rfl) T.mgF__law_same T.kp__law_same B__law_same (fun _ => Lh.pass0At) (pa_cons (pe_xf T.xf_TooMany T.nf_TooMany_limit hz.zc hf (pv 7)) (pa_cons pe_int pa_nil))))))))))
theorem b_law {fd : FuncData} (F : Fun K "law" "law" s_law a.f_law fd) : Binds K fd ["script"] [] := F.binds (ps := ["script"]) fun _ _ _ _ _ _ us hl => match us, hl with | [_], _ => rfl
theorem ok_law {fd : FuncData} (F : Fun K "law" "law" s_law a.f_law fd) (T : Txt K mg a) : FnOk P w K mg base CX0 8 a.f_law fd ["script"] (sp_law K a) := by
  obtain ⟨fd__law_row, F__law_row⟩ := T.fn__law_row
  have G__law_row : FnOk P w K mg base CX0 1 a.f__law_row fd__law_row ["cell", "count", "size"] (sp__law_row K a) := ok__law_row F__law_row T
  have B__law_row := b__law_row F__law_row
  obtain ⟨fd__law_cell, F__law_cell⟩ := T.fn__law_cell
  have G__law_cell : FnOk P w K mg base CX0 1 a.f__law_cell fd__law_cell ["script", "k"] (sp__law_cell K a) := ok__law_cell F__law_cell T
  have B__law_cell := b__law_cell F__law_cell
  obtain ⟨fd__law_shuffled, F__law_shuffled⟩ := T.fn__law_shuffled
  have G__law_shuffled : FnOk P w K mg base CX0 2 a.f__law_shuffled fd__law_shuffled ["cell", "count"] (sp__law_shuffled K a) := ok__law_shuffled F__law_shuffled T
  have B__law_shuffled := b__law_shuffled F__law_shuffled
  obtain ⟨fd_Switch___init__, F_Switch___init__⟩ := T.fn_Switch___init__
  have G_Switch___init__ : FnOk P w K mg base CX0 1 a.f_Switch___init__ fd_Switch___init__ ["self"] (sp_Switch___init__ K a) := ok_Switch___init__ F_Switch___init__ T
  have B_Switch___init__ := b_Switch___init__ F_Switch___init__
  obtain ⟨fd__law_began, F__law_began⟩ := T.fn__law_began
  have G__law_began : FnOk P w K mg base CX0 5 a.f__law_began fd__law_began ["switch", "guests", "shape", "numbers", "full"] (sp__law_began K a) := ok__law_began F__law_began T
  have B__law_began := b__law_began F__law_began
  obtain ⟨fd__law_post, F__law_post⟩ := T.fn__law_post
  have G__law_post : FnOk P w K mg base CX0 6 a.f__law_post fd__law_post ["switch", "rows", "g", "time", "peer", "word", "arrival"] (sp__law_post K a) := ok__law_post F__law_post T
  have B__law_post := b__law_post F__law_post
  obtain ⟨fd__law_tells, F__law_tells⟩ := T.fn__law_tells
  have G__law_tells : FnOk P w K mg base CX0 5 a.f__law_tells fd__law_tells ["switch", "rows"] (sp__law_tells K a) := ok__law_tells F__law_tells T
  have B__law_tells := b__law_tells F__law_tells
  obtain ⟨fd__law_too_early, F__law_too_early⟩ := T.fn__law_too_early
  have G__law_too_early : FnOk P w K mg base CX0 7 a.f__law_too_early fd__law_too_early ["switch", "rows", "g", "peer"] (sp__law_too_early K a) := ok__law_too_early F__law_too_early T
  have B__law_too_early := b__law_too_early F__law_too_early
  obtain ⟨fd__law_fed, F__law_fed⟩ := T.fn__law_fed
  have G__law_fed : FnOk P w K mg base CX0 6 a.f__law_fed fd__law_fed ["switch", "rows", "g", "step"] (sp__law_fed K a) := ok__law_fed F__law_fed T
  have B__law_fed := b__law_fed F__law_fed
  obtain ⟨fd__law_same, F__law_same⟩ := T.fn__law_same
  have G__law_same : FnOk P w K mg base CX0 4 a.f__law_same fd__law_same ["actual", "expected"] (sp__law_same K a 3) := ok__law_same F__law_same T 3
  have B__law_same := b__law_same F__law_same
  obtain ⟨fd_Switch_leave, F_Switch_leave⟩ := T.fn_Switch_leave
  have G_Switch_leave : FnOk P w K mg base CX0 2 a.f_Switch_leave fd_Switch_leave ["self", "g"] (sp_Switch_leave K a) := ok_Switch_leave F_Switch_leave T
  have B_Switch_leave := b_Switch_leave F_Switch_leave
  obtain ⟨fd_thawed_switch, F_thawed_switch⟩ := T.fn_thawed_switch
  have G_thawed_switch : FnOk P w K mg base CX0 3 a.f_thawed_switch fd_thawed_switch ["value"] (sp_thawed_switch K a) := ok_thawed_switch F_thawed_switch T
  have B_thawed_switch := b_thawed_switch F_thawed_switch
  obtain ⟨fd_Switch_frozen, F_Switch_frozen⟩ := T.fn_Switch_frozen
  have G_Switch_frozen : FnOk P w K mg base CX0 3 a.f_Switch_frozen fd_Switch_frozen ["self"] (sp_Switch_frozen K a) := ok_Switch_frozen F_Switch_frozen T
  have B_Switch_frozen := b_Switch_frozen F_Switch_frozen
  obtain ⟨fd_Switch_join, F_Switch_join⟩ := T.fn_Switch_join
  have G_Switch_join : FnOk P w K mg base CX0 2 a.f_Switch_join fd_Switch_join ["self", "g", "tape", "mail", "posted"] (sp_Switch_join K a) := ok_Switch_join F_Switch_join T
  have B_Switch_join := b_Switch_join F_Switch_join
  refine F.ok sc_law (fun vs H Q E h => by obtain ⟨x0, rfl, h⟩ := h; rfl) (fun cdv A outer s H vs Q E hr h => ⟨t_law K a, ?_, by obtain ⟨x0, rfl, h⟩ := h; exact pure_law T.toCl h⟩)
  exact (pss_cons (ps_set (i := 1) sc_law.nd rfl (by first | exact Or.inl rfl | exact Or.inr rfl) (pe_call G__law_row (hr.mono (by decide)) (by rfl) T.mgF__law_row T.kp__law_row B__law_row .nil pass0 (pa_cons (pe_call G__law_cell (hr.mono (by decide)) (by rfl) T.mgF__law_cell T.kp__law_cell B__law_cell .nil pass0 (pa_cons (pv 0) (pa_cons pe_int pa_nil))) (pa_cons pe_int (pa_cons pe_int pa_nil)))))
      (pss_cons (ps_set (i := 2) sc_law.nd rfl (by first | exact Or.inl rfl | exact Or.inr rfl) (pe_call G__law_row (hr.mono (by decide)) (by rfl) T.mgF__law_row T.kp__law_row B__law_row .nil pass0 (pa_cons (pe_call G__law_cell (hr.mono (by decide)) (by rfl) T.mgF__law_cell T.kp__law_cell B__law_cell .nil pass0 (pa_cons (pv 0) (pa_cons pe_int pa_nil))) (pa_cons pe_int (pa_cons pe_int pa_nil)))))
      (pss_cons (ps_set (i := 3) sc_law.nd rfl (by first | exact Or.inl rfl | exact Or.inr rfl) (pe_slice sl_list (pe_call G__law_shuffled (hr.mono (by decide)) (by rfl) T.mgF__law_shuffled T.kp__law_shuffled B__law_shuffled .nil pass0 (pa_cons (pe_call G__law_cell (hr.mono (by decide)) (by rfl) T.mgF__law_cell T.kp__law_cell B__law_cell .nil pass0 (pa_cons (pv 0) (pa_cons pe_int pa_nil))) (pa_cons pe_int pa_nil))) po_none (po_some (pe_op op_add pe_int (pe_op op_mod (pe_callTy c_int (by rfl) T.mg_int (by decide +kernel) (pa_cons (pe_ix ix_list (pv 1) pe_int (fun _ _ => rfl)) pa_nil)) pe_int)))))
      (pss_cons (ps_set (i := 4) sc_law.nd rfl (by first | exact Or.inl rfl | exact Or.inr rfl) (pe_op op_mod (pe_callTy c_int (by rfl) T.mg_int (by decide +kernel) (pa_cons (pe_ix ix_list (pv 1) pe_int (fun _ _ => rfl)) pa_nil)) pe_int))
      (pss_cutL (ps_if (pt_cmpR op_eq (pe_op op_mod (pe_callTy c_int (by rfl) T.mg_int (by decide +kernel) (pa_cons (pe_ix ix_list (pv 1) pe_int (fun _ _ => rfl)) pa_nil)) pe_int) pe_int (nomark _)) (pss_one (ps_set (i := 4) sc_law.nd rfl (by first | exact Or.inl rfl | exact Or.inr rfl) (pe_op op_mod (pe_callTy c_int (by rfl) T.mg_int (by decide +kernel) (pa_cons (pe_ix ix_list (pv 1) pe_int (fun _ _ => rfl)) pa_nil)) pe_int))) pss_nil) (pss_cons (ps_set (i := 5) sc_law.nd rfl (by first | exact Or.inl rfl | exact Or.inr rfl) (pe_lst (pa_cons (pe_make0 T.mk_Switch G_Switch___init__ (hr.mono (by decide)) (by rfl) T.mgC_Switch B_Switch___init__ .nil pass0) (pa_cons (pe_make0 T.mk_Switch G_Switch___init__ (hr.mono (by decide)) (by rfl) T.mgC_Switch B_Switch___init__ .nil pass0) pa_nil))))
      (pss_cons (ps_set (i := 6) sc_law.nd rfl (by first | exact Or.inl rfl | exact Or.inr rfl) (pe_lst pa_nil))
      (pss_cutL (ps_for PassesOwn.never (by rfl) (pi_range1 (by rfl) T.mg_range (pa_cons pe_int pa_nil)) (pg_name (i := 7) sc_law.nd rfl (by first | exact Or.inl rfl | exact Or.inr rfl)) (pss_cons (ps_set (i := 8) sc_law.nd rfl (by first | exact Or.inl rfl | exact Or.inr rfl) (pe_call G__law_began (hr.mono (by decide)) (by rfl) T.mgF__law_began T.kp__law_began B__law_began .nil pass0 (pa_cons (pe_ix ix_list (pv 5) (pv 7) (fun _ _ => rfl)) (pa_cons (pv 3) (pa_cons (pe_op op_add (pe_ix ix_list (pv 1) pe_int (fun _ _ => rfl)) (pv 7)) (pa_cons (pv 2) (pa_cons (pe_op op_sub pe_int (pv 4)) pa_nil)))))))
      (pss_cons (ps_if (pt_cmpR o_isN (pv 8) pe_non (nomark _)) (pss_one (ps_ret pe_bl)) pss_nil)
      (pss_one (ps_expr (pe_bm PySem.F.plainAttrs_list PySem.F.slot_list_append PySem.F.type_list_append mt_append (pv 6) (pa_cons (pv 8) pa_nil))))))) (pss_cons (ps_set (i := 9) sc_law.nd rfl (by first | exact Or.inl rfl | exact Or.inr rfl) (pe_ix ix_list (pv 3) pe_int (fun _ _ => rfl)))
      (pss_cons (ps_set (i := 10) sc_law.nd rfl (by first | exact Or.inl rfl | exact Or.inr rfl) (pe_op op_add (pe_op op_add (pv 4) pe_int) (pe_op op_mod (pe_callTy c_int (by rfl) T.mg_int (by decide +kernel) (pa_cons (pe_ix ix_list (pv 1) pe_int (fun _ _ => rfl)) pa_nil)) pe_int)))
      (pss_cons (ps_set (i := 11) sc_law.nd rfl (by first | exact Or.inl rfl | exact Or.inr rfl) (pe_call G__law_row (hr.mono (by decide)) (by rfl) T.mgF__law_row T.kp__law_row B__law_row .nil pass0 (pa_cons (pe_call G__law_cell (hr.mono (by decide)) (by rfl) T.mgF__law_cell T.kp__law_cell B__law_cell .nil pass0 (pa_cons (pv 0) (pa_cons pe_int pa_nil))) (pa_cons (pv 10) (pa_cons pe_int pa_nil)))))
      (pss_cons (ps_for PassesOwn.never (by rfl) (pi_range1 (by rfl) T.mg_range (pa_cons (pv 10) pa_nil)) (pg_name (i := 12) sc_law.nd rfl (by first | exact Or.inl rfl | exact Or.inr rfl)) (pss_cons (ps_set (i := 13) sc_law.nd rfl (by first | exact Or.inl rfl | exact Or.inr rfl) (pe_ix ix_list (pv 3) (pe_op op_mod (pe_callTy c_int (by rfl) T.mg_int (by decide +kernel) (pa_cons (pe_ix ix_list (pv 11) (pv 12) (fun _ _ => rfl)) pa_nil)) (pe_callB c_len (by rfl) T.mg_len (by decide +kernel) (pa_cons (pv 3) pa_nil))) (fun _ _ => rfl)))
      (pss_cons (ps_set (i := 14) sc_law.nd rfl (by first | exact Or.inl rfl | exact Or.inr rfl) (pe_op op_mod (pe_callTy c_int (by rfl) T.mg_int (by decide +kernel) (pa_cons (pe_op op_fdiv (pe_ix ix_list (pv 11) (pv 12) (fun _ _ => rfl)) pe_int) pa_nil)) pe_int))
      (pss_cutL (ps_if (PW.pt (pw_or (pt_cmpR op_gt (pe_op op_mod (pe_callTy c_int (by rfl) T.mg_int (by decide +kernel) (pa_cons (pe_op op_fdiv (pe_ix ix_list (pv 11) (pv 12) (fun _ _ => rfl)) pe_int) pa_nil)) pe_int) pe_int (nomark _)) (pw_or1 (pt_cmpR op_lt (pv 12) pe_int (nomark _))))) (pss_one (ps_set (i := 14) sc_law.nd rfl (by first | exact Or.inl rfl | exact Or.inr rfl) (pv 9))) pss_nil) (pss_cutL (ps_if (pt_cmpR op_eq (pv 12) pe_int (nomark _)) (pss_one (ps_set (i := 13) sc_law.nd rfl (by first | exact Or.inl rfl | exact Or.inr rfl) (pv 9))) pss_nil) (pss_cons (ps_set (i := 15) sc_law.nd rfl (by first | exact Or.inl rfl | exact Or.inr rfl) (pe_op op_mod (pe_callTy c_int (by rfl) T.mg_int (by decide +kernel) (pa_cons (pe_op op_fdiv (pe_ix ix_list (pv 11) (pv 12) (fun _ _ => rfl)) pe_int) pa_nil)) pe_int))
      (pss_one (ps_for PassesOwn.never (by rfl) (pi_range1 (by rfl) T.mg_range (pa_cons pe_int pa_nil)) (pg_name (i := 7) sc_law.nd rfl (by first | exact Or.inl rfl | exact Or.inr rfl)) (pss_one (ps_if (PW.pt (pw_or (pt_cmpR op_eq (pv 7) pe_int (nomark _)) (pw_or1 (pt_cmpR op_eq (pe_op op_mod (pe_callTy c_int (by rfl) T.mg_int (by decide +kernel) (pa_cons (pv 12) pa_nil)) pe_int) pe_int (nomark _))))) (pss_one (ps_if (pt_not (pt_val (pe_call G__law_post (hr.mono (by decide)) (by rfl) T.mgF__law_post T.kp__law_post B__law_post .nil pass0 (pa_cons (pe_ix ix_list (pv 5) (pv 7) (fun _ _ => rfl)) (pa_cons (pe_ix ix_list (pv 6) (pv 7) (fun _ _ => rfl)) (pa_cons (pv 13) (pa_cons (pv 12) (pa_cons (pv 14) (pa_cons (pv 15) (pa_cons (pe_op op_add pe_int (pe_op op_fdiv (pv 12) pe_int)) pa_nil)))))))))) (pss_one (ps_ret pe_bl)) pss_nil)) pss_nil))))))))))
      (pss_cutL (ps_for PassesOwn.never (by rfl) (pi_range1 (by rfl) T.mg_range (pa_cons (pv 4) pa_nil)) (pg_name (i := 12) sc_law.nd rfl (by first | exact Or.inl rfl | exact Or.inr rfl)) (pss_one (ps_if (pt_not (pt_val (pe_call G__law_post (hr.mono (by decide)) (by rfl) T.mgF__law_post T.kp__law_post B__law_post .nil pass0 (pa_cons (pe_ix ix_list (pv 5) pe_int (fun _ _ => rfl)) (pa_cons (pe_ix ix_list (pv 6) pe_int (fun _ _ => rfl)) (pa_cons (pe_ix ix_list (pv 3) pe_int (fun _ _ => rfl)) (pa_cons pe_int (pa_cons (pv 9) (pa_cons (pv 12) (pa_cons pe_int pa_nil)))))))))) (pss_one (ps_ret pe_bl)) pss_nil))) (pss_cons (ps_if (PW.pt (pw_or (pt_cmpR op_ne (pe_callB c_len (by rfl) T.mg_len (by decide +kernel) (pa_cons (pe_ix ix_list (pe_dget (hu_of hr) (pe_ix ix_list (pv 6) pe_int (fun _ _ => rfl)) (pv 9) (fun _ _ => rfl)) pe_int (fun _ _ => rfl)) pa_nil)) pe_int (nomark _)) (pw_or (pt_not (pt_val (pe_call G__law_tells (hr.mono (by decide)) (by rfl) T.mgF__law_tells T.kp__law_tells B__law_tells .nil pass0 (pa_cons (pe_ix ix_list (pv 5) pe_int (fun _ _ => rfl)) (pa_cons (pe_ix ix_list (pv 6) pe_int (fun _ _ => rfl)) pa_nil))))) (pw_or1 (pt_not (pt_val (pe_call G__law_tells (hr.mono (by decide)) (by rfl) T.mgF__law_tells T.kp__law_tells B__law_tells .nil pass0 (pa_cons (pe_ix ix_list (pv 5) pe_int (fun _ _ => rfl)) (pa_cons (pe_ix ix_list (pv 6) pe_int (fun _ _ => rfl)) pa_nil))))))))) (pss_one (ps_ret pe_bl)) pss_nil)
      (pss_cons (ps_for PassesOwn.never (by rfl) (pi_list (pv 3)) (pg_name (i := 14) sc_law.nd rfl (by first | exact Or.inl rfl | exact Or.inr rfl)) (pss_one (ps_for PassesOwn.never (by rfl) (pi_range1 (by rfl) T.mg_range (pa_cons pe_int pa_nil)) (pg_name (i := 7) sc_law.nd rfl (by first | exact Or.inl rfl | exact Or.inr rfl)) (pss_one (ps_if (pt_not (pt_val (pe_call G__law_too_early (hr.mono (by decide)) (by rfl) T.mgF__law_too_early T.kp__law_too_early B__law_too_early .nil pass0 (pa_cons (pe_ix ix_list (pv 5) (pv 7) (fun _ _ => rfl)) (pa_cons (pe_ix ix_list (pv 6) (pv 7) (fun _ _ => rfl)) (pa_cons (pe_ix ix_list (pv 3) pe_int (fun _ _ => rfl)) (pa_cons (pv 14) pa_nil))))))) (pss_one (ps_ret pe_bl)) pss_nil)))))
      (pss_cons (ps_if (pt_not (pt_val (pe_call G__law_fed (hr.mono (by decide)) (by rfl) T.mgF__law_fed T.kp__law_fed B__law_fed .nil pass0 (pa_cons (pe_ix ix_list (pv 5) pe_int (fun _ _ => rfl)) (pa_cons (pe_ix ix_list (pv 6) pe_int (fun _ _ => rfl)) (pa_cons (pv 9) (pa_cons (pe_ix ix_list (pv 1) pe_int (fun _ _ => rfl)) pa_nil))))))) (pss_one (ps_ret pe_bl)) pss_nil)
      (pss_cutL (ps_if (PW.pt (pw_or (pt_not (pt_val (pe_call G__law_tells (hr.mono (by decide)) (by rfl) T.mgF__law_tells T.kp__law_tells B__law_tells .nil pass0 (pa_cons (pe_ix ix_list (pv 5) pe_int (fun _ _ => rfl)) (pa_cons (pe_ix ix_list (pv 6) pe_int (fun _ _ => rfl)) pa_nil))))) (pw_or1 (pt_not (pt_val (pe_call G__law_tells (hr.mono (by decide)) (by rfl) T.mgF__law_tells T.kp__law_tells B__law_tells .nil pass0 (pa_cons (pe_ix ix_list (pv 5) pe_int (fun _ _ => rfl)) (pa_cons (pe_ix ix_list (pv 6) pe_int (fun _ _ => rfl)) pa_nil)))))))) (pss_one (ps_ret pe_bl)) pss_nil) (pss_cons (ps_set (i := 8) sc_law.nd rfl (by first | exact Or.inl rfl | exact Or.inr rfl) (pe_ix ix_list (pv 6) pe_int (fun _ _ => rfl)))
      (pss_cons (ps_if (pt_not (pt_val (pe_call G__law_same (hr.mono (by decide)) (by rfl) T.mgF__law_same T.kp__law_same B__law_same .nil pass0 (pa_cons (pe_meth (pe_ix ix_list (pv 5) pe_int (fun _ _ => rfl)) T.cl_Switch T.mt_Switch_leave G_Switch_leave (hr.mono (by decide)) B_Switch_leave .nil pass0 (pa_cons (pv 9) pa_nil)) (pa_cons pe_non pa_nil))))) (pss_one (ps_ret pe_bl)) pss_nil)
      (pss_cons (ps_expr (pe_dpop1 (pv 8) (pv 9) ⟨by rfl, by rfl, by rfl, by rfl⟩))
      (pss_cutL (ps_if (pt_not (pt_val (pe_call G__law_post (hr.mono (by decide)) (by rfl) T.mgF__law_post T.kp__law_post B__law_post .nil pass0 (pa_cons (pe_ix ix_list (pv 5) pe_int (fun _ _ => rfl)) (pa_cons (pv 8) (pa_cons (pe_ix ix_list (pv 3) pe_int (fun _ _ => rfl)) (pa_cons pe_int (pa_cons (pv 9) (pa_cons pe_int (pa_cons pe_int pa_nil)))))))))) (pss_one (ps_ret pe_bl)) pss_nil) (pss_cons (ps_asg (pe_call G_thawed_switch (hr.mono (by decide)) (by rfl) T.mgF_thawed_switch T.kp_thawed_switch B_thawed_switch .nil pass0 (pa_cons (pe_meth0 (pe_ix ix_list (pv 5) pe_int (fun _ _ => rfl)) T.cl_Switch T.mt_Switch_frozen G_Switch_frozen (hr.mono (by decide)) B_Switch_frozen .nil pass0) pa_nil)) (pg_sub (pv 5) pe_int set_list))
      (pss_cons (ps_dput (hu_of hr) (pv 8) (pv 9) (pe_lst (pa_cons (pe_lst pa_nil) (pa_cons (pe_lst pa_nil) (pa_cons (pe_lst pa_nil) pa_nil)))) rfl)
      (pss_cutL (ps_if (pt_not (pt_val (pe_call G__law_same (hr.mono (by decide)) (by rfl) T.mgF__law_same T.kp__law_same B__law_same .nil pass0 (pa_cons (pe_meth (pe_ix ix_list (pv 5) pe_int (fun _ _ => rfl)) T.cl_Switch T.mt_Switch_join G_Switch_join (hr.mono (by decide)) B_Switch_join .nil pass0 (pa_cons (pv 9) (pa_cons (pe_tup pa_nil) (pa_cons (pe_tup pa_nil) (pa_cons (pe_tup pa_nil) pa_nil))))) (pa_cons pe_non pa_nil))))) (pss_one (ps_ret pe_bl)) pss_nil) (pss_cons (ps_if (PW.pt (pw_or (pt_not (pt_val (pe_call G__law_post (hr.mono (by decide)) (by rfl) T.mgF__law_post T.kp__law_post B__law_post .nil pass0 (pa_cons (pe_ix ix_list (pv 5) pe_int (fun _ _ => rfl)) (pa_cons (pv 8) (pa_cons (pv 9) (pa_cons pe_int (pa_cons (pv 9) (pa_cons pe_int (pa_cons pe_int pa_nil)))))))))) (pw_or1 (pt_not (pt_val (pe_call G__law_post (hr.mono (by decide)) (by rfl) T.mgF__law_post T.kp__law_post B__law_post .nil pass0 (pa_cons (pe_ix ix_list (pv 5) pe_int (fun _ _ => rfl)) (pa_cons (pv 8) (pa_cons (pe_ix ix_list (pv 3) pe_int (fun _ _ => rfl)) (pa_cons pe_int (pa_cons (pv 9) (pa_cons pe_int (pa_cons pe_int pa_nil))))))))))))) (pss_one (ps_ret pe_bl)) pss_nil)
      (pss_one (ps_ret (pe_and (pe_call G__law_tells (hr.mono (by decide)) (by rfl) T.mgF__law_tells T.kp__law_tells B__law_tells .nil pass0 (pa_cons (pe_ix ix_list (pv 5) pe_int (fun _ _ => rfl)) (pa_cons (pv 8) pa_nil))) (pe_one (pe_call G__law_tells (hr.mono (by decide)) (by rfl) T.mgF__law_tells T.kp__law_tells B__law_tells .nil pass0 (pa_cons (pe_ix ix_list (pv 5) pe_int (fun _ _ => rfl)) (pa_cons (pe_ix ix_list (pv 6) pe_int (fun _ _ => rfl)) pa_nil))))))))))))))))))))))))))))))))
end
end K74

namespace K74
open PySem L2 Lh
theorem all_mk {l : PySem.W.OpenLaw} {w : World} {K : PySem.W.Frag} {h : Heap} {mg : Str → Option Value} {fa : Addr} (X : K.In h) (G : h.Ns mainGlobals mg) (hfa : mg "law" = some (.ref fa))
    {C_TooMany C_BadTape C_Switch : Addr} {f0 f1 f2 f3 f4 f5 f6 f7 f8 f9 f10 f11 f12 f13 f14 f15 f16 f17 f18 f19 f20 f21 f22 f23 f24 f25 f26 f27 : Addr} {od0 an0 od1 an1 od2 an2 od3 an3 od4 an4 od5 an5 od6 an6 od7 an7 od8 an8 od9 an9 od10 an10 od11 an11 od12 an12 od13 an13 od14 an14 od15 an15 od16 an16 od17 an17 od18 an18 od19 an19 od20 an20 od21 an21 od22 an22 od23 an23 od24 an24 od25 an25 od26 an26 od27 an27 : Option Addr} {sl0 sl1 sl2 sl3 sl4 sl5 sl6 sl7 sl8 sl9 sl10 sl11 sl12 sl13 sl14 sl15 sl16 sl17 sl18 sl19 sl20 sl21 sl22 sl23 sl24 sl25 sl26 sl27 : Array (Option Value)} {oc0 kV0 dc0 pm0 cd0 ct0 oc1 kV1 dc1 pm1 cd1 ct1 oc2 kV2 dc2 pm2 cd2 ct2 oc3 kV3 dc3 pm3 cd3 ct3 oc4 kV4 dc4 pm4 cd4 ct4 oc5 kV5 dc5 pm5 cd5 ct5 oc6 kV6 dc6 pm6 cd6 ct6 oc7 kV7 dc7 pm7 cd7 ct7 oc8 kV8 dc8 pm8 cd8 ct8 oc9 kV9 dc9 pm9 cd9 ct9 oc10 kV10 dc10 pm10 cd10 ct10 oc11 kV11 dc11 pm11 cd11 ct11 oc12 kV12 dc12 pm12 cd12 ct12 oc13 kV13 dc13 pm13 cd13 ct13 oc14 kV14 dc14 pm14 cd14 ct14 oc15 kV15 dc15 pm15 cd15 ct15 oc16 kV16 dc16 pm16 cd16 ct16 oc17 kV17 dc17 pm17 cd17 ct17 oc18 kV18 dc18 pm18 cd18 ct18 oc19 kV19 dc19 pm19 cd19 ct19 oc20 kV20 dc20 pm20 cd20 ct20 oc21 kV21 dc21 pm21 cd21 ct21 oc22 kV22 dc22 pm22 cd22 ct22 oc23 kV23 dc23 pm23 cd23 ct23 oc24 kV24 dc24 pm24 cd24 ct24 oc25 kV25 dc25 pm25 cd25 ct25 oc26 kV26 dc26 pm26 cd26 ct26 oc27 kV27 dc27 pm27 cd27 ct27 : Value} {tk_WORD tk_MOST_GUESTS tk_MOST_PAIRS tk_MOST_MAIL tk_MOST_PEER : Tok} {TooMany_nm TooMany_q : Str} {TooMany_N : Addr} {TooMany_bs TooMany_bm : List Value} {TooMany_sn : List Str} {TooMany_sub : List Value} {TooMany_ab : Bool} {TooMany_col : Option Bool} {TooMany_dd : Option Addr} {TooMany_m0 TooMany_m1 TooMany_m2 TooMany_m3 TooMany_m5 : Option Value} {BadTape_nm BadTape_q : Str} {BadTape_N : Addr} {BadTape_bs BadTape_bm : List Value} {BadTape_sn : List Str} {BadTape_sub : List Value} {BadTape_ab : Bool} {BadTape_col : Option Bool} {BadTape_dd : Option Addr} {BadTape_m0 BadTape_m1 BadTape_m2 BadTape_m3 BadTape_m5 : Option Value}
    (aC_TooMany : PySem.W.nsIn K mainGlobals "TooMany" = some (some (.ref C_TooMany)))
    (xL_TooMany : K.lookup C_TooMany = some (excClassObj TooMany_nm TooMany_q C_TooMany TooMany_N TooMany_bs TooMany_bm true TooMany_sn TooMany_sub TooMany_ab TooMany_col TooMany_dd TooMany_m0 TooMany_m1 TooMany_m2 TooMany_m3 TooMany_m5 "ValueError.__new__"))
    (xR_TooMany : PySem.HandSPX.refsVE TooMany_bm = true)
    (xs_TooMany : PySem.W.findIn K (.ref C_TooMany) "__setattr__" = some (some (.builtin "object.__setattr__")))
    (xg_TooMany : PySem.W.findIn K (.ref C_TooMany) "__getattribute__" = some (some (.builtin "BaseException.__getattribute__")))
    (xh_TooMany : PySem.W.findIn K (.ref C_TooMany) "__getattr__" = some none)
    (xi_TooMany : PySem.W.findIn K (.ref C_TooMany) "__init__" = some (some (.ref f0)))
    (xt_TooMany : PySem.W.typeIn K (.ref f0) = some (.type "function"))
    (xk_TooMany : PySem.W.keepIn K (.ref C_TooMany) = true)
    (xe_TooMany : PySem.W.subIn K (.ref C_TooMany) (.type "BaseException") = some true)
    (xy_TooMany : PySem.W.typeIn K (.ref C_TooMany) = some (.type "type"))
    (xd_TooMany : PySem.W.hasDictIn K C_TooMany = true)
    (xc_TooMany : PySem.W.isClsIn K C_TooMany = true)
    (xz_TooMany : PySem.W.subIn K (.ref C_TooMany) (.ref C_TooMany) = some true)
    (xn_TooMany_limit : PySem.W.findIn K (.ref C_TooMany) "limit" = some none)
    (l0 : K.lookup f0 = some ⟨oc0, od0, .func (PySem.W.fnOf "__init__" "TooMany.__init__" (defArgs s_TooMany___init__) (defBody s_TooMany___init__) (defScope s_TooMany___init__) .none kV0 dc0 pm0 an0 cd0 ct0), sl0⟩)
    (c0 : PySem.W.codeIn K cd0 "TooMany.__init__" = true)
    (k0 : PySem.W.keepIn K (.ref f0) = true)
    (aC_BadTape : PySem.W.nsIn K mainGlobals "BadTape" = some (some (.ref C_BadTape)))
    (xL_BadTape : K.lookup C_BadTape = some (excClassObj BadTape_nm BadTape_q C_BadTape BadTape_N BadTape_bs BadTape_bm true BadTape_sn BadTape_sub BadTape_ab BadTape_col BadTape_dd BadTape_m0 BadTape_m1 BadTape_m2 BadTape_m3 BadTape_m5 "ValueError.__new__"))
    (xR_BadTape : PySem.HandSPX.refsVE BadTape_bm = true)
    (xs_BadTape : PySem.W.findIn K (.ref C_BadTape) "__setattr__" = some (some (.builtin "object.__setattr__")))
    (xg_BadTape : PySem.W.findIn K (.ref C_BadTape) "__getattribute__" = some (some (.builtin "BaseException.__getattribute__")))
    (xh_BadTape : PySem.W.findIn K (.ref C_BadTape) "__getattr__" = some none)
    (xi_BadTape : PySem.W.findIn K (.ref C_BadTape) "__init__" = some (some (.ref f1)))
    (xt_BadTape : PySem.W.typeIn K (.ref f1) = some (.type "function"))
    (xk_BadTape : PySem.W.keepIn K (.ref C_BadTape) = true)
    (xe_BadTape : PySem.W.subIn K (.ref C_BadTape) (.type "BaseException") = some true)
    (xy_BadTape : PySem.W.typeIn K (.ref C_BadTape) = some (.type "type"))
    (xd_BadTape : PySem.W.hasDictIn K C_BadTape = true)
    (xc_BadTape : PySem.W.isClsIn K C_BadTape = true)
    (xz_BadTape : PySem.W.subIn K (.ref C_BadTape) (.ref C_BadTape) = some true)
    (xn_BadTape_place : PySem.W.findIn K (.ref C_BadTape) "place" = some none)
    (l1 : K.lookup f1 = some ⟨oc1, od1, .func (PySem.W.fnOf "__init__" "BadTape.__init__" (defArgs s_BadTape___init__) (defBody s_BadTape___init__) (defScope s_BadTape___init__) .none kV1 dc1 pm1 an1 cd1 ct1), sl1⟩)
    (c1 : PySem.W.codeIn K cd1 "BadTape.__init__" = true)
    (k1 : PySem.W.keepIn K (.ref f1) = true)
    (aC_Switch : PySem.W.nsIn K mainGlobals "Switch" = some (some (.ref C_Switch)))
    (pg_Switch : PySem.W.plainGet K C_Switch Str.empty = true)
    (hd_Switch : PySem.W.hasDictIn K C_Switch = true)
    (po_Switch : PySem.W.plainOver K C_Switch = true)
    (sa_Switch : PySem.W.findIn K (.ref C_Switch) "__setattr__" = some (some (.builtin "object.__setattr__")))
    (mk_Switch : PySem.W.makesIn K C_Switch = true)
    (kc_Switch : PySem.W.keepIn K (.ref C_Switch) = true)
    (na_Switch__tapes : PySem.W.findIn K (.ref C_Switch) "_tapes" = some none)
    (na_Switch__mails : PySem.W.findIn K (.ref C_Switch) "_mails" = some none)
    (na_Switch__posts : PySem.W.findIn K (.ref C_Switch) "_posts" = some none)
    (a5 : PySem.W.findIn K (.ref C_Switch) "__init__" = some (some (.ref f5)))
    (i5 : PySem.W.isFn K (.ref f5) = true)
    (l5 : K.lookup f5 = some ⟨oc5, od5, .func (PySem.W.fnOf "__init__" "Switch.__init__" (defArgs s_Switch___init__) (defBody s_Switch___init__) (defScope s_Switch___init__) .none kV5 dc5 pm5 an5 cd5 ct5), sl5⟩)
    (c5 : PySem.W.codeIn K cd5 "Switch.__init__" = true)
    (k5 : PySem.W.keepIn K (.ref f5) = true)
    (a6 : PySem.W.findIn K (.ref C_Switch) "join" = some (some (.ref f6)))
    (i6 : PySem.W.isFn K (.ref f6) = true)
    (l6 : K.lookup f6 = some ⟨oc6, od6, .func (PySem.W.fnOf "join" "Switch.join" (defArgs s_Switch_join) (defBody s_Switch_join) (defScope s_Switch_join) .none kV6 dc6 pm6 an6 cd6 ct6), sl6⟩)
    (c6 : PySem.W.codeIn K cd6 "Switch.join" = true)
    (k6 : PySem.W.keepIn K (.ref f6) = true)
    (a7 : PySem.W.findIn K (.ref C_Switch) "leave" = some (some (.ref f7)))
    (i7 : PySem.W.isFn K (.ref f7) = true)
    (l7 : K.lookup f7 = some ⟨oc7, od7, .func (PySem.W.fnOf "leave" "Switch.leave" (defArgs s_Switch_leave) (defBody s_Switch_leave) (defScope s_Switch_leave) .none kV7 dc7 pm7 an7 cd7 ct7), sl7⟩)
    (c7 : PySem.W.codeIn K cd7 "Switch.leave" = true)
    (k7 : PySem.W.keepIn K (.ref f7) = true)
    (a8 : PySem.W.findIn K (.ref C_Switch) "guests" = some (some (.ref f8)))
    (i8 : PySem.W.isFn K (.ref f8) = true)
    (l8 : K.lookup f8 = some ⟨oc8, od8, .func (PySem.W.fnOf "guests" "Switch.guests" (defArgs s_Switch_guests) (defBody s_Switch_guests) (defScope s_Switch_guests) .none kV8 dc8 pm8 an8 cd8 ct8), sl8⟩)
    (c8 : PySem.W.codeIn K cd8 "Switch.guests" = true)
    (k8 : PySem.W.keepIn K (.ref f8) = true)
    (a9 : PySem.W.findIn K (.ref C_Switch) "feed" = some (some (.ref f9)))
    (i9 : PySem.W.isFn K (.ref f9) = true)
    (l9 : K.lookup f9 = some ⟨oc9, od9, .func (PySem.W.fnOf "feed" "Switch.feed" (defArgs s_Switch_feed) (defBody s_Switch_feed) (defScope s_Switch_feed) .none kV9 dc9 pm9 an9 cd9 ct9), sl9⟩)
    (c9 : PySem.W.codeIn K cd9 "Switch.feed" = true)
    (k9 : PySem.W.keepIn K (.ref f9) = true)
    (a10 : PySem.W.findIn K (.ref C_Switch) "post" = some (some (.ref f10)))
    (i10 : PySem.W.isFn K (.ref f10) = true)
    (l10 : K.lookup f10 = some ⟨oc10, od10, .func (PySem.W.fnOf "post" "Switch.post" (defArgs s_Switch_post) (defBody s_Switch_post) (defScope s_Switch_post) .none kV10 dc10 pm10 an10 cd10 ct10), sl10⟩)
    (c10 : PySem.W.codeIn K cd10 "Switch.post" = true)
    (k10 : PySem.W.keepIn K (.ref f10) = true)
    (a11 : PySem.W.findIn K (.ref C_Switch) "tape" = some (some (.ref f11)))
    (i11 : PySem.W.isFn K (.ref f11) = true)
    (l11 : K.lookup f11 = some ⟨oc11, od11, .func (PySem.W.fnOf "tape" "Switch.tape" (defArgs s_Switch_tape) (defBody s_Switch_tape) (defScope s_Switch_tape) .none kV11 dc11 pm11 an11 cd11 ct11), sl11⟩)
    (c11 : PySem.W.codeIn K cd11 "Switch.tape" = true)
    (k11 : PySem.W.keepIn K (.ref f11) = true)
    (a12 : PySem.W.findIn K (.ref C_Switch) "mail" = some (some (.ref f12)))
    (i12 : PySem.W.isFn K (.ref f12) = true)
    (l12 : K.lookup f12 = some ⟨oc12, od12, .func (PySem.W.fnOf "mail" "Switch.mail" (defArgs s_Switch_mail) (defBody s_Switch_mail) (defScope s_Switch_mail) .none kV12 dc12 pm12 an12 cd12 ct12), sl12⟩)
    (c12 : PySem.W.codeIn K cd12 "Switch.mail" = true)
    (k12 : PySem.W.keepIn K (.ref f12) = true)
    (a13 : PySem.W.findIn K (.ref C_Switch) "posted" = some (some (.ref f13)))
    (i13 : PySem.W.isFn K (.ref f13) = true)
    (l13 : K.lookup f13 = some ⟨oc13, od13, .func (PySem.W.fnOf "posted" "Switch.posted" (defArgs s_Switch_posted) (defBody s_Switch_posted) (defScope s_Switch_posted) .none kV13 dc13 pm13 an13 cd13 ct13), sl13⟩)
    (c13 : PySem.W.codeIn K cd13 "Switch.posted" = true)
    (k13 : PySem.W.keepIn K (.ref f13) = true)
    (a14 : PySem.W.findIn K (.ref C_Switch) "frozen" = some (some (.ref f14)))
    (i14 : PySem.W.isFn K (.ref f14) = true)
    (l14 : K.lookup f14 = some ⟨oc14, od14, .func (PySem.W.fnOf "frozen" "Switch.frozen" (defArgs s_Switch_frozen) (defBody s_Switch_frozen) (defScope s_Switch_frozen) .none kV14 dc14 pm14 an14 cd14 ct14), sl14⟩)
    (c14 : PySem.W.codeIn K cd14 "Switch.frozen" = true)
    (k14 : PySem.W.keepIn K (.ref f14) = true)
    (a15 : PySem.W.findIn K (.ref C_Switch) "_check" = some (some (.ref f15)))
    (i15 : PySem.W.isFn K (.ref f15) = true)
    (l15 : K.lookup f15 = some ⟨oc15, od15, .func (PySem.W.fnOf "_check" "Switch._check" (defArgs s_Switch__check) (defBody s_Switch__check) (defScope s_Switch__check) .none kV15 dc15 pm15 an15 cd15 ct15), sl15⟩)
    (c15 : PySem.W.codeIn K cd15 "Switch._check" = true)
    (k15 : PySem.W.keepIn K (.ref f15) = true)
    (a2 : PySem.W.nsIn K mainGlobals "check_range" = some (some (.ref f2)))
    (l2 : K.lookup f2 = some ⟨oc2, od2, .func (PySem.W.fnOf "check_range" "check_range" (defArgs s_check_range) (defBody s_check_range) (defScope s_check_range) .none kV2 dc2 pm2 an2 cd2 ct2), sl2⟩)
    (c2 : PySem.W.codeIn K cd2 "check_range" = true)
    (k2 : PySem.W.keepIn K (.ref f2) = true)
    (a3 : PySem.W.nsIn K mainGlobals "check_most" = some (some (.ref f3)))
    (l3 : K.lookup f3 = some ⟨oc3, od3, .func (PySem.W.fnOf "check_most" "check_most" (defArgs s_check_most) (defBody s_check_most) (defScope s_check_most) .none kV3 dc3 pm3 an3 cd3 ct3), sl3⟩)
    (c3 : PySem.W.codeIn K cd3 "check_most" = true)
    (k3 : PySem.W.keepIn K (.ref f3) = true)
    (a4 : PySem.W.nsIn K mainGlobals "arrive" = some (some (.ref f4)))
    (l4 : K.lookup f4 = some ⟨oc4, od4, .func (PySem.W.fnOf "arrive" "arrive" (defArgs s_arrive) (defBody s_arrive) (defScope s_arrive) .none kV4 dc4 pm4 an4 cd4 ct4), sl4⟩)
    (c4 : PySem.W.codeIn K cd4 "arrive" = true)
    (k4 : PySem.W.keepIn K (.ref f4) = true)
    (a16 : PySem.W.nsIn K mainGlobals "thawed_switch" = some (some (.ref f16)))
    (l16 : K.lookup f16 = some ⟨oc16, od16, .func (PySem.W.fnOf "thawed_switch" "thawed_switch" (defArgs s_thawed_switch) (defBody s_thawed_switch) (defScope s_thawed_switch) .none kV16 dc16 pm16 an16 cd16 ct16), sl16⟩)
    (c16 : PySem.W.codeIn K cd16 "thawed_switch" = true)
    (k16 : PySem.W.keepIn K (.ref f16) = true)
    (a17 : PySem.W.nsIn K mainGlobals "_law_cell" = some (some (.ref f17)))
    (l17 : K.lookup f17 = some ⟨oc17, od17, .func (PySem.W.fnOf "_law_cell" "_law_cell" (defArgs s__law_cell) (defBody s__law_cell) (defScope s__law_cell) .none kV17 dc17 pm17 an17 cd17 ct17), sl17⟩)
    (c17 : PySem.W.codeIn K cd17 "_law_cell" = true)
    (k17 : PySem.W.keepIn K (.ref f17) = true)
    (a18 : PySem.W.nsIn K mainGlobals "_law_row" = some (some (.ref f18)))
    (l18 : K.lookup f18 = some ⟨oc18, od18, .func (PySem.W.fnOf "_law_row" "_law_row" (defArgs s__law_row) (defBody s__law_row) (defScope s__law_row) .none kV18 dc18 pm18 an18 cd18 ct18), sl18⟩)
    (c18 : PySem.W.codeIn K cd18 "_law_row" = true)
    (k18 : PySem.W.keepIn K (.ref f18) = true)
    (a19 : PySem.W.nsIn K mainGlobals "_law_same" = some (some (.ref f19)))
    (l19 : K.lookup f19 = some ⟨oc19, od19, .func (PySem.W.fnOf "_law_same" "_law_same" (defArgs s__law_same) (defBody s__law_same) (defScope s__law_same) .none kV19 dc19 pm19 an19 cd19 ct19), sl19⟩)
    (c19 : PySem.W.codeIn K cd19 "_law_same" = true)
    (k19 : PySem.W.keepIn K (.ref f19) = true)
    (a20 : PySem.W.nsIn K mainGlobals "_law_shuffled" = some (some (.ref f20)))
    (l20 : K.lookup f20 = some ⟨oc20, od20, .func (PySem.W.fnOf "_law_shuffled" "_law_shuffled" (defArgs s__law_shuffled) (defBody s__law_shuffled) (defScope s__law_shuffled) .none kV20 dc20 pm20 an20 cd20 ct20), sl20⟩)
    (c20 : PySem.W.codeIn K cd20 "_law_shuffled" = true)
    (k20 : PySem.W.keepIn K (.ref f20) = true)
    (a21 : PySem.W.nsIn K mainGlobals "_law_pairs" = some (some (.ref f21)))
    (l21 : K.lookup f21 = some ⟨oc21, od21, .func (PySem.W.fnOf "_law_pairs" "_law_pairs" (defArgs s__law_pairs) (defBody s__law_pairs) (defScope s__law_pairs) .none kV21 dc21 pm21 an21 cd21 ct21), sl21⟩)
    (c21 : PySem.W.codeIn K cd21 "_law_pairs" = true)
    (k21 : PySem.W.keepIn K (.ref f21) = true)
    (a22 : PySem.W.nsIn K mainGlobals "_law_began" = some (some (.ref f22)))
    (l22 : K.lookup f22 = some ⟨oc22, od22, .func (PySem.W.fnOf "_law_began" "_law_began" (defArgs s__law_began) (defBody s__law_began) (defScope s__law_began) .none kV22 dc22 pm22 an22 cd22 ct22), sl22⟩)
    (c22 : PySem.W.codeIn K cd22 "_law_began" = true)
    (k22 : PySem.W.keepIn K (.ref f22) = true)
    (a23 : PySem.W.nsIn K mainGlobals "_law_tells" = some (some (.ref f23)))
    (l23 : K.lookup f23 = some ⟨oc23, od23, .func (PySem.W.fnOf "_law_tells" "_law_tells" (defArgs s__law_tells) (defBody s__law_tells) (defScope s__law_tells) .none kV23 dc23 pm23 an23 cd23 ct23), sl23⟩)
    (c23 : PySem.W.codeIn K cd23 "_law_tells" = true)
    (k23 : PySem.W.keepIn K (.ref f23) = true)
    (a24 : PySem.W.nsIn K mainGlobals "_law_post" = some (some (.ref f24)))
    (l24 : K.lookup f24 = some ⟨oc24, od24, .func (PySem.W.fnOf "_law_post" "_law_post" (defArgs s__law_post) (defBody s__law_post) (defScope s__law_post) .none kV24 dc24 pm24 an24 cd24 ct24), sl24⟩)
    (c24 : PySem.W.codeIn K cd24 "_law_post" = true)
    (k24 : PySem.W.keepIn K (.ref f24) = true)
    (a25 : PySem.W.nsIn K mainGlobals "_law_too_early" = some (some (.ref f25)))
    (l25 : K.lookup f25 = some ⟨oc25, od25, .func (PySem.W.fnOf "_law_too_early" "_law_too_early" (defArgs s__law_too_early) (defBody s__law_too_early) (defScope s__law_too_early) .none kV25 dc25 pm25 an25 cd25 ct25), sl25⟩)
    (c25 : PySem.W.codeIn K cd25 "_law_too_early" = true)
    (k25 : PySem.W.keepIn K (.ref f25) = true)
    (a26 : PySem.W.nsIn K mainGlobals "_law_fed" = some (some (.ref f26)))
    (l26 : K.lookup f26 = some ⟨oc26, od26, .func (PySem.W.fnOf "_law_fed" "_law_fed" (defArgs s__law_fed) (defBody s__law_fed) (defScope s__law_fed) .none kV26 dc26 pm26 an26 cd26 ct26), sl26⟩)
    (c26 : PySem.W.codeIn K cd26 "_law_fed" = true)
    (k26 : PySem.W.keepIn K (.ref f26) = true)
    (a27 : PySem.W.nsIn K mainGlobals "law" = some (some (.ref f27)))
    (l27 : K.lookup f27 = some ⟨oc27, od27, .func (PySem.W.fnOf "law" "law" (defArgs s_law) (defBody s_law) (defScope s_law) .none kV27 dc27 pm27 an27 cd27 ct27), sl27⟩)
    (c27 : PySem.W.codeIn K cd27 "law" = true)
    (k27 : PySem.W.keepIn K (.ref f27) = true)
    (z_abs : PySem.W.nsIn K mainGlobals "abs" = some none)
    (z_bool : PySem.W.nsIn K mainGlobals "bool" = some none)
    (z_int : PySem.W.nsIn K mainGlobals "int" = some none)
    (z_isinstance : PySem.W.nsIn K mainGlobals "isinstance" = some none)
    (z_len : PySem.W.nsIn K mainGlobals "len" = some none)
    (z_list : PySem.W.nsIn K mainGlobals "list" = some none)
    (z_range : PySem.W.nsIn K mainGlobals "range" = some none)
    (z_sorted : PySem.W.nsIn K mainGlobals "sorted" = some none)
    (z_str : PySem.W.nsIn K mainGlobals "str" = some none)
    (z_tuple : PySem.W.nsIn K mainGlobals "tuple" = some none)
    (g_WORD : PySem.W.nsIn K mainGlobals "WORD" = some (some (.int 65521 tk_WORD)))
    (g_MOST_GUESTS : PySem.W.nsIn K mainGlobals "MOST_GUESTS" = some (some (.int 6 tk_MOST_GUESTS)))
    (g_MOST_PAIRS : PySem.W.nsIn K mainGlobals "MOST_PAIRS" = some (some (.int 400 tk_MOST_PAIRS)))
    (g_MOST_MAIL : PySem.W.nsIn K mainGlobals "MOST_MAIL" = some (some (.int 400 tk_MOST_MAIL)))
    (g_MOST_PEER : PySem.W.nsIn K mainGlobals "MOST_PEER" = some (some (.int 7 tk_MOST_PEER))) :
    ∃ fd : FuncData, (∀ (s : Shared) (v : Value), BindsTo s fd ⟨[v], []⟩ [("script", v)]) ∧ ∀ base : Heap, K.In base → base.Ns mainGlobals mg → FnOk l.prog w K mg base CX0 8 fa fd ["script"] (sp1 (prLaw K)) := by
  have e := hfa.symm.trans (PySem.W.mg_of X G a27)
  cases e
  have C : Cl K { C_TooMany := C_TooMany, C_BadTape := C_BadTape, C_Switch := C_Switch, f_TooMany___init__ := f0, f_BadTape___init__ := f1, f_check_range := f2, f_check_most := f3, f_arrive := f4, f_Switch___init__ := f5, f_Switch_join := f6, f_Switch_leave := f7, f_Switch_guests := f8, f_Switch_feed := f9, f_Switch_post := f10, f_Switch_tape := f11, f_Switch_mail := f12, f_Switch_posted := f13, f_Switch_frozen := f14, f_Switch__check := f15, f_thawed_switch := f16, f__law_cell := f17, f__law_row := f18, f__law_same := f19, f__law_shuffled := f20, f__law_pairs := f21, f__law_began := f22, f__law_tells := f23, f__law_post := f24, f__law_too_early := f25, f__law_fed := f26, f_law := fa } := {
    ok := trivial,
    oex_TooMany := ⟨⟨_, _, _, _, _, _, _, _, _, _, _, _, _, _, _, xL_TooMany, xR_TooMany⟩, xs_TooMany, xe_TooMany, xy_TooMany, xk_TooMany⟩,
    xf_TooMany := ⟨xg_TooMany, xh_TooMany, xe_TooMany, xd_TooMany⟩,
    nf_TooMany_limit := xn_TooMany_limit,
    ex_TooMany := Lh.exm_self xe_TooMany xc_TooMany xy_TooMany xz_TooMany,
    oex_BadTape := ⟨⟨_, _, _, _, _, _, _, _, _, _, _, _, _, _, _, xL_BadTape, xR_BadTape⟩, xs_BadTape, xe_BadTape, xy_BadTape, xk_BadTape⟩,
    xf_BadTape := ⟨xg_BadTape, xh_BadTape, xe_BadTape, xd_BadTape⟩,
    nf_BadTape_place := xn_BadTape_place,
    ex_BadTape := Lh.exm_self xe_BadTape xc_BadTape xy_BadTape xz_BadTape,
    cl_Switch := ⟨pg_Switch, hd_Switch, po_Switch, sa_Switch⟩,
    na_Switch__tapes := na_Switch__tapes,
    na_Switch__mails := na_Switch__mails,
    na_Switch__posts := na_Switch__posts }
  have T : Txt K mg { C_TooMany := C_TooMany, C_BadTape := C_BadTape, C_Switch := C_Switch, f_TooMany___init__ := f0, f_BadTape___init__ := f1, f_check_range := f2, f_check_most := f3, f_arrive := f4, f_Switch___init__ := f5, f_Switch_join := f6, f_Switch_leave := f7, f_Switch_guests := f8, f_Switch_feed := f9, f_Switch_post := f10, f_Switch_tape := f11, f_Switch_mail := f12, f_Switch_posted := f13, f_Switch_frozen := f14, f_Switch__check := f15, f_thawed_switch := f16, f__law_cell := f17, f__law_row := f18, f__law_same := f19, f__law_shuffled := f20, f__law_pairs := f21, f__law_began := f22, f__law_tells := f23, f__law_post := f24, f__law_too_early := f25, f__law_fed := f26, f_law := fa } := {
    toCl := C,
    mgC_TooMany := PySem.W.mg_of X G aC_TooMany,
    ii_TooMany := xi_TooMany,
    ti_TooMany := xt_TooMany,
    fn_TooMany___init__ := ⟨_, fun_mk (st := s_TooMany___init__) l0 c0 k0⟩,
    mgC_BadTape := PySem.W.mg_of X G aC_BadTape,
    ii_BadTape := xi_BadTape,
    ti_BadTape := xt_BadTape,
    fn_BadTape___init__ := ⟨_, fun_mk (st := s_BadTape___init__) l1 c1 k1⟩,
    mgC_Switch := PySem.W.mg_of X G aC_Switch,
    fn_Switch___init__ := ⟨_, fun_mk (st := s_Switch___init__) l5 c5 k5⟩,
    mk_Switch := ⟨mk_Switch, a5, i5, kc_Switch⟩,
    fn_Switch_join := ⟨_, fun_mk (st := s_Switch_join) l6 c6 k6⟩,
    mt_Switch_join := ⟨a6, i6, k6⟩,
    fn_Switch_leave := ⟨_, fun_mk (st := s_Switch_leave) l7 c7 k7⟩,
    mt_Switch_leave := ⟨a7, i7, k7⟩,
    fn_Switch_guests := ⟨_, fun_mk (st := s_Switch_guests) l8 c8 k8⟩,
    mt_Switch_guests := ⟨a8, i8, k8⟩,
    fn_Switch_feed := ⟨_, fun_mk (st := s_Switch_feed) l9 c9 k9⟩,
    mt_Switch_feed := ⟨a9, i9, k9⟩,
    fn_Switch_post := ⟨_, fun_mk (st := s_Switch_post) l10 c10 k10⟩,
    mt_Switch_post := ⟨a10, i10, k10⟩,
    fn_Switch_tape := ⟨_, fun_mk (st := s_Switch_tape) l11 c11 k11⟩,
    mt_Switch_tape := ⟨a11, i11, k11⟩,
    fn_Switch_mail := ⟨_, fun_mk (st := s_Switch_mail) l12 c12 k12⟩,
    mt_Switch_mail := ⟨a12, i12, k12⟩,
    fn_Switch_posted := ⟨_, fun_mk (st := s_Switch_posted) l13 c13 k13⟩,
    mt_Switch_posted := ⟨a13, i13, k13⟩,
    fn_Switch_frozen := ⟨_, fun_mk (st := s_Switch_frozen) l14 c14 k14⟩,
    mt_Switch_frozen := ⟨a14, i14, k14⟩,
    fn_Switch__check := ⟨_, fun_mk (st := s_Switch__check) l15 c15 k15⟩,
    mt_Switch__check := ⟨a15, i15, k15⟩,
    mgF_check_range := PySem.W.mg_of X G a2,
    kp_check_range := k2,
    fn_check_range := ⟨_, fun_mk (st := s_check_range) l2 c2 k2⟩,
    mgF_check_most := PySem.W.mg_of X G a3,
    kp_check_most := k3,
    fn_check_most := ⟨_, fun_mk (st := s_check_most) l3 c3 k3⟩,
    mgF_arrive := PySem.W.mg_of X G a4,
    kp_arrive := k4,
    fn_arrive := ⟨_, fun_mk (st := s_arrive) l4 c4 k4⟩,
    mgF_thawed_switch := PySem.W.mg_of X G a16,
    kp_thawed_switch := k16,
    fn_thawed_switch := ⟨_, fun_mk (st := s_thawed_switch) l16 c16 k16⟩,
    mgF__law_cell := PySem.W.mg_of X G a17,
    kp__law_cell := k17,
    fn__law_cell := ⟨_, fun_mk (st := s__law_cell) l17 c17 k17⟩,
    mgF__law_row := PySem.W.mg_of X G a18,
    kp__law_row := k18,
    fn__law_row := ⟨_, fun_mk (st := s__law_row) l18 c18 k18⟩,
    mgF__law_same := PySem.W.mg_of X G a19,
    kp__law_same := k19,
    fn__law_same := ⟨_, fun_mk (st := s__law_same) l19 c19 k19⟩,
    mgF__law_shuffled := PySem.W.mg_of X G a20,
    kp__law_shuffled := k20,
    fn__law_shuffled := ⟨_, fun_mk (st := s__law_shuffled) l20 c20 k20⟩,
    mgF__law_pairs := PySem.W.mg_of X G a21,
    kp__law_pairs := k21,
    fn__law_pairs := ⟨_, fun_mk (st := s__law_pairs) l21 c21 k21⟩,
    mgF__law_began := PySem.W.mg_of X G a22,
    kp__law_began := k22,
    fn__law_began := ⟨_, fun_mk (st := s__law_began) l22 c22 k22⟩,
    mgF__law_tells := PySem.W.mg_of X G a23,
    kp__law_tells := k23,
    fn__law_tells := ⟨_, fun_mk (st := s__law_tells) l23 c23 k23⟩,
    mgF__law_post := PySem.W.mg_of X G a24,
    kp__law_post := k24,
    fn__law_post := ⟨_, fun_mk (st := s__law_post) l24 c24 k24⟩,
    mgF__law_too_early := PySem.W.mg_of X G a25,
    kp__law_too_early := k25,
    fn__law_too_early := ⟨_, fun_mk (st := s__law_too_early) l25 c25 k25⟩,
    mgF__law_fed := PySem.W.mg_of X G a26,
    kp__law_fed := k26,
    fn__law_fed := ⟨_, fun_mk (st := s__law_fed) l26 c26 k26⟩,
    mgF_law := PySem.W.mg_of X G a27,
    kp_law := k27,
    fn_law := ⟨_, fun_mk (st := s_law) l27 c27 k27⟩,
    mg_abs := PySem.W.mg_none_of X G z_abs,
    mg_bool := PySem.W.mg_none_of X G z_bool,
    mg_int := PySem.W.mg_none_of X G z_int,
    mg_isinstance := PySem.W.mg_none_of X G z_isinstance,
    mg_len := PySem.W.mg_none_of X G z_len,
    mg_list := PySem.W.mg_none_of X G z_list,
    mg_range := PySem.W.mg_none_of X G z_range,
    mg_sorted := PySem.W.mg_none_of X G z_sorted,
    mg_str := PySem.W.mg_none_of X G z_str,
    mg_tuple := PySem.W.mg_none_of X G z_tuple,
    gl_WORD := ⟨_, PySem.W.mg_of X G g_WORD, _, rfl⟩,
    gl_MOST_GUESTS := ⟨_, PySem.W.mg_of X G g_MOST_GUESTS, _, rfl⟩,
    gl_MOST_PAIRS := ⟨_, PySem.W.mg_of X G g_MOST_PAIRS, _, rfl⟩,
    gl_MOST_MAIL := ⟨_, PySem.W.mg_of X G g_MOST_MAIL, _, rfl⟩,
    gl_MOST_PEER := ⟨_, PySem.W.mg_of X G g_MOST_PEER, _, rfl⟩ }
  have F := fun_mk (st := s_law) l27 c27 k27
  exact ⟨_, fun s v => .of_eq rfl, fun base _ _ => ok_law F T⟩
theorem walk {l : PySem.W.OpenLaw} {q : Program} {loose : List Str} {XP : (Str → Option Value) → Heap → Prop} {YP : World → Heap → Prop} {d : DefRec} {K : Params → PySem.W.Frag} (hn : l.most = some 63) (hdf : d.params.defaults = [])
    (hY : ∀ (w : World) (h : Heap), YP w h → (K w.params).In h)
    (F : ∀ (w : World) (mg : Str → Option Value) (fa : Addr) (h : Heap), (K w.params).In h → h.Ns mainGlobals mg → mg d.name = some (.ref fa) →
      ∃ fd : FuncData, (∀ (s : Shared) (u : Value), BindsTo s fd ⟨[u], []⟩ [("script", u)]) ∧ ∀ base : Heap, (K w.params).In base → base.Ns mainGlobals mg → FnOk l.prog w (K w.params) mg base CX0 8 fa fd ["script"] (sp1 (prLaw (K w.params)))) :
    PySem.W.WalkO q loose XP YP l.row.toRowW d [] (fun f vs => PySem.call f vs) :=
  L2.walk_of (n := 63) (k := 8) (x := "script") (CX := fun _ => CX0) (sp := fun w => sp1 (prLaw (K w.params))) hn (by decide) hdf ⟨rfl, by decide, by decide⟩ hY F (fun _ _ a ns hl _ hS => ⟨_, rfl, a, ns, rfl, hS, hl, fun _ => rfl⟩) fun _ _ _ _ _ z => z
end K74
open PySem PySem.W PyProof.Rows
theorem PySem.Challenge.cw_lonehost_k74_mailboxes_that_fill_up_holds : PySem.Challenge.rw_lonehost_k74_mailboxes_that_fill_up.Holds := by
  w_on; o_law; k_head; (case hw => w_witness2)
  k_fill
  refine K74.walk (l := PySem.Challenge.rw_lonehost_k74_mailboxes_that_fill_up) rfl rfl (fun w h Y => PySem.W.kIn_of Y) ?F
  case F =>
    intro w mg fa h KX G hmg
    refine' K74.all_mk KX G hmg ?aC_TooMany ?xL_TooMany ?xR_TooMany ?xs_TooMany ?xg_TooMany ?xh_TooMany ?xi_TooMany ?xt_TooMany ?xk_TooMany ?xe_TooMany ?xy_TooMany ?xd_TooMany ?xc_TooMany ?xz_TooMany ?xn_TooMany_limit ?l0 ?c0 ?k0 ?aC_BadTape ?xL_BadTape ?xR_BadTape ?xs_BadTape ?xg_BadTape ?xh_BadTape ?xi_BadTape ?xt_BadTape ?xk_BadTape ?xe_BadTape ?xy_BadTape ?xd_BadTape ?xc_BadTape ?xz_BadTape ?xn_BadTape_place ?l1 ?c1 ?k1 ?aC_Switch ?pg_Switch ?hd_Switch ?po_Switch ?sa_Switch ?mk_Switch ?kc_Switch ?na_Switch__tapes ?na_Switch__mails ?na_Switch__posts ?a5 ?i5 ?l5 ?c5 ?k5 ?a6 ?i6 ?l6 ?c6 ?k6 ?a7 ?i7 ?l7 ?c7 ?k7 ?a8 ?i8 ?l8 ?c8 ?k8 ?a9 ?i9 ?l9 ?c9 ?k9 ?a10 ?i10 ?l10 ?c10 ?k10 ?a11 ?i11 ?l11 ?c11 ?k11 ?a12 ?i12 ?l12 ?c12 ?k12 ?a13 ?i13 ?l13 ?c13 ?k13 ?a14 ?i14 ?l14 ?c14 ?k14 ?a15 ?i15 ?l15 ?c15 ?k15 ?a2 ?l2 ?c2 ?k2 ?a3 ?l3 ?c3 ?k3 ?a4 ?l4 ?c4 ?k4 ?a16 ?l16 ?c16 ?k16 ?a17 ?l17 ?c17 ?k17 ?a18 ?l18 ?c18 ?k18 ?a19 ?l19 ?c19 ?k19 ?a20 ?l20 ?c20 ?k20 ?a21 ?l21 ?c21 ?k21 ?a22 ?l22 ?c22 ?k22 ?a23 ?l23 ?c23 ?k23 ?a24 ?l24 ?c24 ?k24 ?a25 ?l25 ?c25 ?k25 ?a26 ?l26 ?c26 ?k26 ?a27 ?l27 ?c27 ?k27 ?z_abs ?z_bool ?z_int ?z_isinstance ?z_len ?z_list ?z_range ?z_sorted ?z_str ?z_tuple ?g_WORD ?g_MOST_GUESTS ?g_MOST_PAIRS ?g_MOST_MAIL ?g_MOST_PEER
    (case aC_TooMany => k_is)
    (case xL_TooMany => k_is)
    (case xR_TooMany => decide +kernel)
    (case xs_TooMany => k_is)
    (case xg_TooMany => k_is)
    (case xh_TooMany => k_is)
    (case xi_TooMany => k_is)
    (case xt_TooMany => k_is)
    (case xk_TooMany => k_is)
    (case xe_TooMany => k_is)
    (case xy_TooMany => k_is)
    (case xd_TooMany => k_is)
    (case xc_TooMany => k_is)
    (case xz_TooMany => first | rfl | k_is)
    (case xn_TooMany_limit => k_is)
    (case l0 => k_is)
    (case c0 => k_is)
    (case k0 => k_is)
    (case aC_BadTape => k_is)
    (case xL_BadTape => k_is)
    (case xR_BadTape => decide +kernel)
    (case xs_BadTape => k_is)
    (case xg_BadTape => k_is)
    (case xh_BadTape => k_is)
    (case xi_BadTape => k_is)
    (case xt_BadTape => k_is)
    (case xk_BadTape => k_is)
    (case xe_BadTape => k_is)
    (case xy_BadTape => k_is)
    (case xd_BadTape => k_is)
    (case xc_BadTape => k_is)
    (case xz_BadTape => first | rfl | k_is)
    (case xn_BadTape_place => k_is)
    (case l1 => k_is)
    (case c1 => k_is)
    (case k1 => k_is)
    (case aC_Switch => k_is)
    (case pg_Switch => k_is)
    (case hd_Switch => k_is)
    (case po_Switch => k_is)
    (case sa_Switch => k_is)
    (case mk_Switch => k_is)
    (case kc_Switch => k_is)
    (case na_Switch__tapes => k_is)
    (case na_Switch__mails => k_is)
    (case na_Switch__posts => k_is)
    (case a5 => k_is)
    (case i5 => k_is)
    (case l5 => k_is)
    (case c5 => k_is)
    (case k5 => k_is)
    (case a6 => k_is)
    (case i6 => k_is)
    (case l6 => k_is)
    (case c6 => k_is)
    (case k6 => k_is)
    (case a7 => k_is)
    (case i7 => k_is)
    (case l7 => k_is)
    (case c7 => k_is)
    (case k7 => k_is)
    (case a8 => k_is)
    (case i8 => k_is)
    (case l8 => k_is)
    (case c8 => k_is)
    (case k8 => k_is)
    (case a9 => k_is)
    (case i9 => k_is)
    (case l9 => k_is)
    (case c9 => k_is)
    (case k9 => k_is)
    (case a10 => k_is)
    (case i10 => k_is)
    (case l10 => k_is)
    (case c10 => k_is)
    (case k10 => k_is)
    (case a11 => k_is)
    (case i11 => k_is)
    (case l11 => k_is)
    (case c11 => k_is)
    (case k11 => k_is)
    (case a12 => k_is)
    (case i12 => k_is)
    (case l12 => k_is)
    (case c12 => k_is)
    (case k12 => k_is)
    (case a13 => k_is)
    (case i13 => k_is)
    (case l13 => k_is)
    (case c13 => k_is)
    (case k13 => k_is)
    (case a14 => k_is)
    (case i14 => k_is)
    (case l14 => k_is)
    (case c14 => k_is)
    (case k14 => k_is)
    (case a15 => k_is)
    (case i15 => k_is)
    (case l15 => k_is)
    (case c15 => k_is)
    (case k15 => k_is)
    (case a2 => k_is)
    (case l2 => k_is)
    (case c2 => k_is)
    (case k2 => k_is)
    (case a3 => k_is)
    (case l3 => k_is)
    (case c3 => k_is)
    (case k3 => k_is)
    (case a4 => k_is)
    (case l4 => k_is)
    (case c4 => k_is)
    (case k4 => k_is)
    (case a16 => k_is)
    (case l16 => k_is)
    (case c16 => k_is)
    (case k16 => k_is)
    (case a17 => k_is)
    (case l17 => k_is)
    (case c17 => k_is)
    (case k17 => k_is)
    (case a18 => k_is)
    (case l18 => k_is)
    (case c18 => k_is)
    (case k18 => k_is)
    (case a19 => k_is)
    (case l19 => k_is)
    (case c19 => k_is)
    (case k19 => k_is)
    (case a20 => k_is)
    (case l20 => k_is)
    (case c20 => k_is)
    (case k20 => k_is)
    (case a21 => k_is)
    (case l21 => k_is)
    (case c21 => k_is)
    (case k21 => k_is)
    (case a22 => k_is)
    (case l22 => k_is)
    (case c22 => k_is)
    (case k22 => k_is)
    (case a23 => k_is)
    (case l23 => k_is)
    (case c23 => k_is)
    (case k23 => k_is)
    (case a24 => k_is)
    (case l24 => k_is)
    (case c24 => k_is)
    (case k24 => k_is)
    (case a25 => k_is)
    (case l25 => k_is)
    (case c25 => k_is)
    (case k25 => k_is)
    (case a26 => k_is)
    (case l26 => k_is)
    (case c26 => k_is)
    (case k26 => k_is)
    (case a27 => k_is)
    (case l27 => k_is)
    (case c27 => k_is)
    (case k27 => k_is)
    (case z_abs => k_is)
    (case z_bool => k_is)
    (case z_int => k_is)
    (case z_isinstance => k_is)
    (case z_len => k_is)
    (case z_list => k_is)
    (case z_range => k_is)
    (case z_sorted => k_is)
    (case z_str => k_is)
    (case z_tuple => k_is)
    (case g_WORD => k_is)
    (case g_MOST_GUESTS => k_is)
    (case g_MOST_PAIRS => k_is)
    (case g_MOST_MAIL => k_is)
    (case g_MOST_PEER => k_is)

