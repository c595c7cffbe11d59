import PyProof.Rows.All
import Wide.All
import OpenK.AllK
import Wide.FinOn
import HandS.ForMost
import HandS.Exc
import HandS.TryOnly
import HandS.ExcOwn
import HandS.WordsExc
import HandS.ExcInit
import HandS.ExcField
import HandS.IsInst
import HandS.SortRule
import HandS.SortInts
import HandS.SetFor
import HandS.Rev
import HandS.Walk
import PySem.Challenge.RW_lonehost_k60_frames_in_a_drawn_order
set_option Elab.async false
set_option linter.all false
set_option maxRecDepth 100000
set_option maxHeartbeats 4000000
namespace Lh
open PySem L2

/-! ### readings by name -/
abbrev rAddI : R2 := rI0 fun i j => .int (i + j)
abbrev rSubI : R2 := rI0 fun i j => .int (i - j)
abbrev rMulI : R2 := rI CMul fun i j => .int (i * j)
abbrev rFdivI : R2 := rI CDiv fun i j => .int (i / j)
abbrev rModI : R2 := rI (fun _ j => 0 < j) fun i j => .int (i % j)
abbrev rPowI : R2 := rI CPow fun i j => .int (i ^ j.toNat)
abbrev rNegI : V → Hp → VK → Prop := rU fun i => .int (-i)
abbrev rLtI : R2 := rI0 fun i j => .bl (decide (i < j))
abbrev rLeI : R2 := rI0 fun i j => .bl (decide (i ≤ j))
abbrev rGtI : R2 := rI0 fun i j => .bl (decide (j < i))
abbrev rGeI : R2 := rI0 fun i j => .bl (decide (j ≤ i))
def rIsNon : R2 := fun x y H Q => y = .non ∧ Q (.bl (decide (x = .non))) H
def rNotNon : R2 := fun x y H Q => y = .non ∧ Q (.bl (!decide (x = .non))) H
def rLenS (K : PySem.W.Frag) : List V → Hp → VK → Prop := fun xs H Q => ∃ p ys, xs = [.ref p] ∧ (SqL K H p ys ∨ SqT K H p ys) ∧ Q (.int ys.length) H
def rLenDK : List V → Hp → VK → Prop := fun xs H Q => ∃ a kvs, xs = [V.ref a] ∧ H a = some (.dK kvs) ∧ Q (.int kvs.length) H
def rInt1 : List V → Hp → VK → Prop := fun xs H Q => (∃ i, xs = [.int i] ∧ Q (.int i) H) ∨ ∃ k, xs = [.bl k] ∧ Q (.int (if k then 1 else 0)) H
def rAbs : List V → Hp → VK → Prop := fun xs H Q => ∃ i, xs = [.int i] ∧ Q (.int (if i < 0 then -i else i)) H
def rMax2 : List V → Hp → VK → Prop := fun xs H Q => ∃ i j, xs = [.int i, .int j] ∧ Q (.int (if j > i then j else i)) H
def rMin2 : List V → Hp → VK → Prop := fun xs H Q => ∃ i j, xs = [.int i, .int j] ∧ Q (.int (if j < i then j else i)) H
def rListOf (K : PySem.W.Frag) : List V → Hp → VK → Prop := fun xs H Q => ∃ p ys, xs = [.ref p] ∧ (SqL K H p ys ∨ SqT K H p ys) ∧ ∀ l, H l = none → Q (.ref l) (upd H l (.lst ys))
def rTupOf (K : PySem.W.Frag) : List V → Hp → VK → Prop := fun xs H Q => ∃ p ys, xs = [.ref p] ∧ ((SqL K H p ys ∧ ∀ l, H l = none → Q (.ref l) (upd H l (.tup ys))) ∨ (SqT K H p ys ∧ Q (.ref p) H))
section
variable {X : Cx}
theorem o_isN : OpR X (compareOp .Is) rIsNon := op_isN
theorem o_notN : OpR X (compareOp .IsNot) rNotNon := op_notN
theorem c_len : CallR X (.builtin "len") (rLenS X.K) := call_len_seq
theorem c_lenD : CallR X (.builtin "len") rLenDK := call_lenD
theorem c_int : CallR X (.type "int") rInt1 := call_int1
theorem c_abs : CallR X (.builtin "abs") rAbs := call_abs
theorem c_max2 (hc : X.calm = true) : CallR X (.builtin "max") rMax2 := call_max2 hc
theorem c_min2 (hc : X.calm = true) : CallR X (.builtin "min") rMin2 := call_min2 hc
theorem c_listOf : CallR X (.type "list") (rListOf X.K) := call_list_of
theorem c_tupOf : CallR X (.type "tuple") (rTupOf X.K) := call_tuple_of
end

/-! ### a method that may raise, what is raised wished for at the caller's slots -/
section
variable {X : Cx} {CX : CXT} {k : Nat} {f C : Addr} {fd : FuncData} {ps : List Str} {sp : Sp} {E : St → XK} {m : Str} {pos apos : Pos} {e o : Expr} {es : List Expr} {ta : TE} {t : TA}
def tMethE (C : Addr) (m : Str) (sp : Sp) (E : St → XK) (ta : TE) (t : TA) : TE := fun σ H Q => ta σ H fun x H1 => ∃ a dx fs, x = .ref a ∧ H1 a = some (.ins C dx fs) ∧ fs.lookup m = none ∧ t σ H1 fun vs H2 => sp (x :: vs) H2 Q (E σ)
theorem pe_methE {pl : Sem Bool} (he : PE X o ta) (c : Cls X.K C) (hm : Meth X.K C m f) (F : FnOk X.prog X.w X.K X.mg X.base CX k f fd ps sp) (hr : Room k X.A) (hb : Binds X.K fd ps []) (hx : ∀ σ, PassesAt CX X σ (E σ)) (ha : PA X (e :: es) t)
    (hst : starEach (e :: es) X.env = (false, eval e X.env) :: starEach es X.env := by rfl) (hpl : (backTo pos (starEach es X.env)).any (·.1) = false := by rfl)
    (ht : eval (.Call (.Attribute o m apos) (e :: es) [] pos) X.env = (do
      let ov ← eval o X.env
      standAt apos.atName
      let (f, first) ← holding [ov] (getMethod ov m pl)
      callWith pos f first (backTo pos (starEach (e :: es) X.env)) (backToKw pos (keywordEach [] X.env))) := by rfl) :
    PE X (.Call (.Attribute o m apos) (e :: es) [] pos) (tMethE C m sp E ta t) := by
  refine ⟨fun pins s σ H Q I h => ?_⟩
  refine PySem.W.methodCall_KW (pl := pl) (thn (he.run pins s σ H _ I h) fun u s1 ⟨x, H1, I1, rx, a, dx, fs, ex, ea, l, q⟩ => ?_) ht
  subst ex
  obtain rfl : u = Value.ref a := rx
  refine getmeth_ok I1 ea c hm l ?_
  refine PySem.W.callWith_K (first := [.ref a]) (h₀ := X.base) I.ok.mod.kin hm.kp (thn (ha.run pos pins s1 σ H1 _ I1 q) fun us s2 ⟨vs, H2, I2, r, q2⟩ => ⟨I2.kIn, ?_⟩) hst hpl
  exact run_fnS (us := .ref a :: us) (vs := .ref a :: vs) F hr hb (hx σ) I2 (.cons rfl r) q2
end

/-! ### promises by the number of arguments -/
def sp1 (r : V → Hp → VK → XK → Prop) : Sp := fun vs H Q E => ∃ x, vs = [x] ∧ r x H Q E
def sp2 (r : V → V → Hp → VK → XK → Prop) : Sp := fun vs H Q E => ∃ x y, vs = [x, y] ∧ r x y H Q E
def sp3 (r : V → V → V → Hp → VK → XK → Prop) : Sp := fun vs H Q E => ∃ x y z, vs = [x, y, z] ∧ r x y z H Q E
def sp4 (r : V → V → V → V → Hp → VK → XK → Prop) : Sp := fun vs H Q E => ∃ x y z u, vs = [x, y, z, u] ∧ r x y z u H Q E
def sp5 (r : V → V → V → V → V → Hp → VK → XK → Prop) : Sp := fun vs H Q E => ∃ x y z u v, vs = [x, y, z, u, v] ∧ r x y z u v H Q E
theorem sp1_i {r : V → Hp → VK → XK → Prop} {x : V} {H : Hp} {Q : VK} {E : XK} (h : r x H Q E) : sp1 r [x] H Q E := ⟨x, rfl, h⟩
theorem sp2_i {r : V → V → Hp → VK → XK → Prop} {x y : V} {H : Hp} {Q : VK} {E : XK} (h : r x y H Q E) : sp2 r [x, y] H Q E := ⟨x, y, rfl, h⟩
theorem sp3_i {r : V → V → V → Hp → VK → XK → Prop} {x y z : V} {H : Hp} {Q : VK} {E : XK} (h : r x y z H Q E) : sp3 r [x, y, z] H Q E := ⟨x, y, z, rfl, h⟩
theorem sp4_i {r : V → V → V → V → Hp → VK → XK → Prop} {x y z u : V} {H : Hp} {Q : VK} {E : XK} (h : r x y z u H Q E) : sp4 r [x, y, z, u] H Q E := ⟨x, y, z, u, rfl, h⟩
theorem sp5_i {r : V → V → V → V → V → Hp → VK → XK → Prop} {x y z u v : V} {H : Hp} {Q : VK} {E : XK} (h : r x y z u v H Q E) : sp5 r [x, y, z, u, v] H Q E := ⟨x, y, z, u, v, rfl, h⟩

/-! ### steps through a reading -/
section
variable {K : PySem.W.Frag} {C p dx : Addr} {fs : List (Str × V)} {f m : Str} {σ : St} {H : Hp} {Q : VK} {D : Ends} {te ta tb td ty tv : TE} {t u : TS} {c d : TT} {i : Nat} {v x y : V} {r : R2} {tas : TA} {E : XK}
/-- an if -/
def kIf (b : Bool) (A B : Prop) : Prop := if b = true then A else B
theorem kif_t {A B : Prop} (h : A) : kIf true A B := by unfold kIf; rw [if_pos rfl]; exact h
theorem kif_f {A B : Prop} (h : B) : kIf false A B := by unfold kIf; rw [if_neg Bool.false_ne_true]; exact h
theorem kif {b : Bool} {A B : Prop} (h1 : b = true → A) (h2 : b = false → B) : kIf b A B := by
  cases b with
  | true => exact kif_t (h1 rfl)
  | false => exact kif_f (h2 rfl)
theorem kif_of {b : Bool} {A B : Prop} (e : b = true) (h : A) : kIf b A B := by subst e; exact kif_t h
theorem kif_no {b : Bool} {A B : Prop} (e : b = false) (h : B) : kIf b A B := by subst e; exact kif_f h
/-- an if over a proposition that is decided -/
theorem kif_d {P : Prop} [Decidable P] {A B : Prop} (h1 : P → A) (h2 : ¬ P → B) : kIf (decide P) A B :=
  kif (fun e => h1 (of_decide_eq_true e)) fun e => h2 (of_decide_eq_false e)
theorem kif_n {P : Prop} [Decidable P] {A B : Prop} (h1 : ¬ P → A) (h2 : P → B) : kIf (!decide P) A B := by
  by_cases hp : P
  · rw [decide_eq_true hp]; exact kif_f (h2 hp)
  · rw [decide_eq_false hp]; exact kif_t (h1 hp)
def kBl (x : V) (H : Hp) (Q : Bool → Hp → Prop) : Prop := ∃ k, x = .bl k ∧ Q k H
def kFld (K : PySem.W.Frag) (f : Str) (x : V) (H1 : Hp) (Q : VK) : Prop := ∃ a C dx fs v, x = .ref a ∧ H1 a = some (.ins C dx fs) ∧ Cls K C ∧ NoAttr K C f ∧ fs.lookup f = some v ∧ Q v H1
def kSFld (K : PySem.W.Frag) (f : Str) (y x : V) (H2 : Hp) (Q : Hp → Prop) : Prop := ∃ a C dx fs, x = .ref a ∧ H2 a = some (.ins C dx fs) ∧ Cls K C ∧ NoAttr K C f ∧ fs.length < 1000 ∧ Q (upd H2 a (.ins C dx (putF f y fs)))
def kDGet (x y : V) (H2 : Hp) (Q : VK) : Prop := ∃ a v, x = .ref a ∧ DGet H2 a y (some v) ∧ Q v H2
def kDIn (neg : Bool) (x y : V) (H2 : Hp) (Q : VK) : Prop := ∃ a o, x = .ref a ∧ DGet H2 a y o ∧ Q (.bl (if neg then !o.isSome else o.isSome)) H2
def kDPut (v x y : V) (H3 : Hp) (Q : Hp → Prop) : Prop := ∃ a H4, x = .ref a ∧ DPut H3 a y v H4 ∧ Q H4
def kTup (xs : List V) (H1 : Hp) (Q : VK) : Prop := xs.length ≤ sizeLine ∧ ∀ p, H1 p = none → Q (.ref p) (upd H1 p (.tup xs))
def kLst (xs : List V) (H1 : Hp) (Q : VK) : Prop := xs.length ≤ sizeLine ∧ ∀ p, H1 p = none → Q (.ref p) (upd H1 p (.lst xs))
def kMeth (C : Addr) (m : Str) (sp : Sp) (E : XK) (t : TA) (σ : St) (x : V) (H1 : Hp) (Q : VK) : Prop := ∃ a dx fs, x = .ref a ∧ H1 a = some (.ins C dx fs) ∧ fs.lookup m = none ∧ t σ H1 fun vs H2 => sp (x :: (vs ++ [])) H2 Q E
def kMethE (C : Addr) (m : Str) (sp : Sp) (E : St → XK) (t : TA) (σ : St) (x : V) (H1 : Hp) (Q : VK) : Prop := ∃ a dx fs, x = .ref a ∧ H1 a = some (.ins C dx fs) ∧ fs.lookup m = none ∧ t σ H1 fun vs H2 => sp (x :: vs) H2 Q (E σ)
def kBM (K : PySem.W.Frag) (T : String) (r : V → List V → Hp → VK → Prop) (t : TA) (σ : St) (x : V) (H1 : Hp) (Q : VK) : Prop := tyV K T x H1 ∧ t σ H1 fun xs H2 => r x xs H2 Q

theorem r_var (h : σ[i]? = some (some v)) (q : Q v H) : tVar i σ H Q := ⟨v, h, q⟩
theorem r_c (q : Q v H) : tC v σ H Q := q
theorem r_op (h : ta σ H fun x H1 => tb σ H1 fun y H2 => r x y H2 Q) : tOp r ta tb σ H Q := h
theorem r_un {r : V → Hp → VK → Prop} (h : ta σ H fun x H1 => r x H1 Q) : tUn r ta σ H Q := h
theorem r_fld (h : ta σ H fun x H1 => kFld K f x H1 Q) : tFld K ta f σ H Q := h
theorem r_cb {r : List V → Hp → VK → Prop} (h : tas σ H fun vs H1 => r vs H1 Q) : tCB r tas σ H Q := h
theorem r_tup (h : tas σ H fun xs H1 => kTup xs H1 Q) : tTup tas σ H Q := h
theorem r_lst (h : tas σ H fun xs H1 => kLst xs H1 Q) : tLst tas σ H Q := h
theorem r_nil {Q : List V → Hp → Prop} (q : Q [] H) : tNil σ H Q := q
theorem r_cons {Q : List V → Hp → Prop} (h : ta σ H fun x H1 => tas σ H1 fun xs H2 => Q (x :: xs) H2) : tCons ta tas σ H Q := h
theorem r_dget (h : td σ H fun x H1 => ty σ H1 fun y H2 => kDGet x y H2 Q) : tDGet td ty σ H Q := h
theorem r_din (h : ty σ H fun y H1 => td σ H1 fun x H2 => kDIn false x y H2 Q) : tDIn ty td σ H Q := h
theorem r_dnin (h : ty σ H fun y H1 => td σ H1 fun x H2 => kDIn true x y H2 Q) : tDNotIn ty td σ H Q := h
theorem r_call {sp : Sp} (h : tas σ H fun vs H1 => sp (vs ++ []) H1 Q E) : tCall sp [] E tas σ H Q := h
theorem r_meth {sp : Sp} (h : ta σ H fun x H1 => kMeth C m sp E tas σ x H1 Q) : tMeth C m sp [] E ta tas σ H Q := h
theorem r_methE {sp : Sp} {E : St → XK} (h : ta σ H fun x H1 => kMethE C m sp E tas σ x H1 Q) : tMethE C m sp E ta tas σ H Q := h
theorem r_bm {T : String} {r : V → List V → Hp → VK → Prop} (h : ta σ H fun x H1 => kBM K T r tas σ x H1 Q) : tBM K T r ta tas σ H Q := h
theorem r_bm0 {T : String} {r : V → List V → Hp → VK → Prop} (h : ta σ H fun x H1 => kBM K T r tNil σ x H1 Q) : tBM0 K T r ta σ H Q := h
/-! tests -/
variable {Qb : Bool → Hp → Prop}
theorem r_test (h : te σ H fun x H1 => kBl x H1 Qb) : tTest te σ H Qb := h
theorem r_tb (h : te σ H fun x H1 => kBl x H1 Qb) : tB te σ H Qb := h
theorem r_not (h : c σ H fun b H1 => Qb (!b) H1) : tNot c σ H Qb := h
theorem r_and (h : c σ H fun b H1 => kIf b (d σ H1 Qb) (Qb false H1)) : tAnd c d σ H Qb := h
theorem r_or (h : c σ H fun b H1 => kIf b (Qb true H1) (d σ H1 Qb)) : tOr c d σ H Qb := h
theorem r_andV (h : ta σ H fun x H1 => kBl x H1 fun b H1 => kIf b (tb σ H1 Q) (Q (.bl false) H1)) : tAndV ta tb σ H Q := h
theorem r_orV (h : ta σ H fun x H1 => kBl x H1 fun b H1 => kIf b (Q (.bl true) H1) (tb σ H1 Q)) : tOrV ta tb σ H Q := h
theorem r_notV (h : ta σ H fun x H1 => kBl x H1 fun b H1 => Q (.bl (!b)) H1) : tNotV ta σ H Q := h
theorem r_tif (h : c σ H fun b H1 => kIf b (ta σ H1 Q) (tb σ H1 Q)) : tIf c ta tb σ H Q := h
theorem k_bl {b : Bool} (q : Qb b H) : kBl (.bl b) H Qb := ⟨b, rfl, q⟩
/-! values -/
theorem k_i0 {g : Int → Int → V} {i j : Int} (q : Q (g i j) H) : rI0 g (.int i) (.int j) H Q := ⟨i, j, rfl, rfl, q⟩
theorem k_i {g : Int → Int → V} {G : Int → Int → Prop} {i j : Int} (hc : G i j) (q : Q (g i j) H) : rI G g (.int i) (.int j) H Q := ⟨i, j, rfl, rfl, hc, q⟩
theorem k_u {g : Int → V} {i : Int} (q : Q (g i) H) : rU g (.int i) H Q := ⟨i, rfl, q⟩
theorem k_eq (s : scal x y = true) (q : Q (.bl (decide (x = y))) H) : rEq x y H Q := ⟨s, q⟩
theorem k_ne (s : scal x y = true) (q : Q (.bl (!decide (x = y))) H) : rNe x y H Q := ⟨s, q⟩
theorem k_isN (q : Q (.bl (decide (x = .non))) H) : rIsNon x .non H Q := ⟨rfl, q⟩
theorem k_notN (q : Q (.bl (!decide (x = .non))) H) : rNotNon x .non H Q := ⟨rfl, q⟩
theorem k_fld (hc : Cls K C) (hn : NoAttr K C f) (ho : H p = some (.ins C dx fs)) (hl : fs.lookup f = some v) (q : Q v H) : kFld K f (.ref p) H Q := ⟨p, C, dx, fs, v, rfl, ho, hc, hn, hl, q⟩
theorem k_sfld {Q : Hp → Prop} (hc : Cls K C) (hn : NoAttr K C f) (ho : H p = some (.ins C dx fs)) (hl : fs.length < 1000) (q : Q (upd H p (.ins C dx (putF f y fs)))) : kSFld K f y (.ref p) H Q := ⟨p, C, dx, fs, rfl, ho, hc, hn, hl, q⟩
theorem k_ixL {xs : List V} {k : Int} (ho : SqL K H p xs) (ha : atI xs k = some v) (q : Q v H) : rIxL K (.ref p) (.int k) H Q := ⟨p, xs, k, v, rfl, rfl, ho, ha, q⟩
theorem k_ixT {xs : List V} {k : Int} (ho : SqT K H p xs) (ha : atI xs k = some v) (q : Q v H) : rIxT K (.ref p) (.int k) H Q := ⟨p, xs, k, v, rfl, rfl, ho, ha, q⟩
theorem k_len {xs : List V} (ho : SqL K H p xs) (q : Q (.int xs.length) H) : rLenS K [.ref p] H Q := ⟨p, xs, rfl, .inl ho, q⟩
theorem k_lenT {xs : List V} (ho : SqT K H p xs) (q : Q (.int xs.length) H) : rLenS K [.ref p] H Q := ⟨p, xs, rfl, .inr ho, q⟩
theorem k_lenD {kvs : List (Key × V)} (ho : H p = some (.dK kvs)) (q : Q (.int kvs.length) H) : rLenDK [.ref p] H Q := ⟨p, kvs, rfl, ho, q⟩
theorem k_int {k : Int} (q : Q (.int k) H) : rInt1 [.int k] H Q := .inl ⟨k, rfl, q⟩
theorem k_abs {k : Int} (q : Q (.int (if k < 0 then -k else k)) H) : rAbs [.int k] H Q := ⟨k, rfl, q⟩
theorem k_max {k j : Int} (q : Q (.int (if j > k then j else k)) H) : rMax2 [.int k, .int j] H Q := ⟨k, j, rfl, q⟩
theorem k_min {k j : Int} (q : Q (.int (if j < k then j else k)) H) : rMin2 [.int k, .int j] H Q := ⟨k, j, rfl, q⟩
theorem k_listL {xs : List V} (ho : SqL K H p xs) (q : ∀ l, H l = none → Q (.ref l) (upd H l (.lst xs))) : rListOf K [.ref p] H Q := ⟨p, xs, rfl, .inl ho, q⟩
theorem k_listT {xs : List V} (ho : SqT K H p xs) (q : ∀ l, H l = none → Q (.ref l) (upd H l (.lst xs))) : rListOf K [.ref p] H Q := ⟨p, xs, rfl, .inr ho, q⟩
theorem k_tupL {xs : List V} (ho : SqL K H p xs) (q : ∀ l, H l = none → Q (.ref l) (upd H l (.tup xs))) : rTupOf K [.ref p] H Q := ⟨p, xs, rfl, .inl ⟨ho, q⟩⟩
theorem k_tupT {xs : List V} (ho : SqT K H p xs) (q : Q (.ref p) H) : rTupOf K [.ref p] H Q := ⟨p, xs, rfl, .inr ⟨ho, q⟩⟩
theorem k_tup {xs : List V} (hz : xs.length ≤ 1000) (q : ∀ p, H p = none → Q (.ref p) (upd H p (.tup xs))) : kTup xs H Q := ⟨Nat.le_trans hz (by decide), q⟩
theorem k_lst {xs : List V} (hz : xs.length ≤ 1000) (q : ∀ p, H p = none → Q (.ref p) (upd H p (.lst xs))) : kLst xs H Q := ⟨Nat.le_trans hz (by decide), q⟩
theorem k_dget (g : DGet H p y (some v)) (q : Q v H) : kDGet (.ref p) y H Q := ⟨p, v, rfl, g, q⟩
theorem k_dgetS {kvs : List (Key × V)} {s : Str} (ho : H p = some (.dK kvs)) (g : valV kvs (.inr s) = some v) (q : Q v H) : kDGet (.ref p) (.str s) H Q := ⟨p, v, rfl, g ▸ DGet.k (k := Sum.inr s) ho, q⟩
theorem k_dgetI {kvs : List (Key × V)} {k : Int} (ho : H p = some (.dK kvs)) (g : valV kvs (.inl k) = some v) (q : Q v H) : kDGet (.ref p) (.int k) H Q := ⟨p, v, rfl, g ▸ DGet.k (k := Sum.inl k) ho, q⟩
theorem k_dputS {Q : Hp → Prop} {kvs : List (Key × V)} {s : Str} (ho : H p = some (.dK kvs)) (hz : kvs.length ≤ 1000) (q : Q (upd H p (.dK (putK kvs (.inr s) v)))) : kDPut v (.ref p) (.str s) H Q := ⟨p, _, rfl, DPut.k (k := Sum.inr s) ho (small1000 hz), q⟩
theorem k_dputI {Q : Hp → Prop} {kvs : List (Key × V)} {k : Int} (ho : H p = some (.dK kvs)) (hz : kvs.length ≤ 1000) (q : Q (upd H p (.dK (putK kvs (.inl k) v)))) : kDPut v (.ref p) (.int k) H Q := ⟨p, _, rfl, DPut.k (k := Sum.inl k) ho (small1000 hz), q⟩
theorem k_meth {sp : Sp} (ho : H p = some (.ins C dx fs)) (hl : fs.lookup m = none) (q : tas σ H fun vs H2 => sp (.ref p :: (vs ++ [])) H2 Q E) : kMeth C m sp E tas σ (.ref p) H Q := ⟨p, dx, fs, rfl, ho, hl, q⟩
theorem k_methE {sp : Sp} {E : St → XK} (ho : H p = some (.ins C dx fs)) (hl : fs.lookup m = none) (q : tas σ H fun vs H2 => sp (.ref p :: vs) H2 Q (E σ)) : kMethE C m sp E tas σ (.ref p) H Q := ⟨p, dx, fs, rfl, ho, hl, q⟩
theorem k_bml {r : V → List V → Hp → VK → Prop} {xs : List V} (ho : H p = some (.lst xs)) (q : tas σ H fun vs H2 => r (.ref p) vs H2 Q) : kBM K "list" r tas σ (.ref p) H Q := ⟨.inl ⟨rfl, xs, .inl (.inl ho)⟩, q⟩
theorem k_append {xs : List V} (ho : H p = some (.lst xs)) (hz : xs.length ≤ 1000) (q : Q .non (upd H p (.lst (xs ++ [y])))) : rAppend (.ref p) [y] H Q := ⟨p, xs, y, rfl, rfl, ho, small1000 hz, q⟩
theorem k_rep {xs : List V} {k : Int} (ho : H p = some (.lst xs)) (h1 : 0 ≤ k) (h2 : k < 2 ^ 63) (hz : xs.length * k.toNat ≤ sizeLine) (q : ∀ l, H l = none → Q (.ref l) (upd H l (.lst ((List.replicate k.toNat xs).flatten)))) :
    rRep (.ref p) (.int k) H Q := by
  refine ⟨p, k, xs, rfl, rfl, ho, Int.le_trans (by decide) h1, h2, hz, ?_⟩
  first | exact q | exact fun l hl => q l hl | (intro l hl; simpa using q l hl)
/-! statements -/
theorem r_seq (h : t { D with nx := u D } σ H) : tSeq t u D σ H := h
theorem r_asg (h : te σ H fun x H1 => D.nx (σ.set i (some x)) H1) : tAsg te (gName i) D σ H := h
theorem r_asgG {g : TG} (h : te σ H fun x H1 => g x σ H1 D.nx) : tAsg te g D σ H := h
theorem r_sfld (h : tv σ H fun y H1 => ta σ H1 fun x H2 => kSFld K f y x H2 (D.nx σ)) : sFld K ta tv f D σ H := h
theorem r_dput (h : tv σ H fun v H1 => td σ H1 fun x H2 => ty σ H2 fun y H3 => kDPut v x y H3 (D.nx σ)) : sDPut td ty tv D σ H := h
theorem r_ret (h : te σ H D.rt) : tRet te D σ H := h
theorem r_retN (h : D.rt .non H) : tRetN D σ H := h
theorem r_drop (h : te σ H fun _ H1 => D.nx σ H1) : tDrop te D σ H := h
theorem r_next (h : D.nx σ H) : tNext D σ H := h
theorem r_ifs (h : c σ H fun b H1 => kIf b (t D σ H1) (u D σ H1)) : tIfS c t u D σ H := h
theorem r_setL {Q : Hp → Prop} {xs : List V} {k : Int} {j : Nat} (ho : H p = some (.lst xs)) (hi : ixN xs.length k = some j) (q : Q (upd H p (.lst (xs.set j v)))) : rSetL (.ref p) (.int k) v H Q := ⟨p, xs, k, j, rfl, rfl, ho, hi, q⟩
end
/-! ### a cut behind a statement -/
section
variable {X : Cx}
def tCutL (t u : TS) : TS := fun D σ H => ∃ Mid : St → Hp → Prop, t { D with nx := Mid } σ H ∧ ∀ σ' H', Mid σ' H' → u D σ' H'
theorem pss_cutL {st : Stmt} {rest : List Stmt} {t u : TS} (h1 : PS X st t) (h2 : PSs X rest u) : PSs X (st :: rest) (tCutL t u) := by
  refine ⟨fun pins s σ H D I h => ?_⟩
  obtain ⟨Mid, hm, hu⟩ := h
  refine wpAny_execs_cons (thn (h1.run pins s σ H { D with nx := Mid } I hm) fun f s1 q => ?_)
  cases f with
  | next =>
    obtain ⟨σ', H', I', q⟩ := q
    exact h2.run pins s1 σ' H' D I' (hu σ' H' q)
  | ret v => exact q
  | brk => exact q
  | cont => exact q
theorem r_cut {t u : TS} {D : Ends} {σ : St} {H : Hp} (Mid : St → Hp → Prop) (h : t { D with nx := Mid } σ H) (k : ∀ σ' H', Mid σ' H' → u D σ' H') : tCutL t u D σ H := ⟨Mid, h, k⟩
end
/-! ### own exceptions -/
def tRaise (C : Addr) (sp : Sp) (E : XK) (ta : TA) : TS := fun _ σ H => tMkO C sp [] ta σ H fun cls d H' => E cls d H'
def tTryAs (K : PySem.W.Frag) (c : Value) (i : Nat) (tb : WX → TS) (ts : Addr → Value → Option Addr → TS) : TS := fun D σ H => tb (wAs K c i ts (fun _ _ _ _ => False) D) D σ H
/-- an error of the class at S is what «except S» names -/
theorem exm_self {K : PySem.W.Frag} {S : Addr} (h1 : PySem.W.subIn K (.ref S) (.type "BaseException") = some true) (h2 : PySem.W.isClsIn K S = true) (h3 : PySem.W.typeIn K (.ref S) = some (.type "type")) (h4 : PySem.W.subIn K (.ref S) (.ref S) = some true) :
    PySem.W.exmOne K (.ref S) (.ref S) = some true := by
  have e1 : (PySem.W.subIn K (.ref S) (.type "BaseException") == some true) = true := by rw [h1] <;> rfl
  have e2 : ((PySem.W.clsIn K S).isSome && PySem.W.typeIn K (.ref S) == some (.type "type")) = true := by
    have h2' : (PySem.W.clsIn K S).isSome = true := h2
    rw [h2', h3] <;> rfl
  show (if (PySem.W.subIn K (.ref S) (.type "BaseException") == some true) = true then (if ((PySem.W.clsIn K S).isSome && PySem.W.typeIn K (.ref S) == some (.type "type")) = true then PySem.W.subIn K (.ref S) (.ref S) else none) else none) = some true
  rw [if_pos e1, if_pos e2]
  exact h4
/-- what an own exception's __init__ (self.f = v) does -/
def prExc (C : Addr) (f : Str) : V → V → Hp → VK → XK → Prop := fun x v H Q _ => ∃ e : Addr, x = .ref e ∧ H e = some (exo e C none) ∧ ∀ d, H d = none → d ≠ e → Q .non (upd (upd H d (exd d [(f, v)])) e (exo e C (some d)))
theorem pure_exc {K : PySem.W.Frag} {f : Str} {x v : V} {H : Hp} {Q : VK} {E : XK} {C : Addr} (T : OexC K C) (hno : PySem.W.findIn K (.ref C) f = some none)
    (h : prExc C f x v H Q E) : tOst K f (tVar 0) (tVar 1) { nx := fun _ H' => Q .non H', rt := Q } [some x, some v] H := by
  obtain ⟨e, rfl, he, q⟩ := h
  exact ⟨v, rfl, _, rfl, e, C, rfl, T, hno, .inl ⟨he, fun d hd ne => q d hd ne⟩⟩
/-! ### labels: who owns what -/
abbrev Lbl := Nat × Nat × Nat
abbrev Lb := Addr → Option Lbl
def updL (L : Lb) (p : Addr) (l : Lbl) : Lb := fun b => if b = p then some l else L b
theorem updL_same {L : Lb} {p : Addr} {l : Lbl} : updL L p l p = some l := by unfold updL; rw [if_pos rfl]
theorem updL_ne {L : Lb} {p b : Addr} {l : Lbl} (h : b ≠ p) : updL L p l b = L b := by unfold updL; rw [if_neg h]
def Lab (H : Hp) (L : Lb) : Prop := ∀ x l, L x = some l → ∃ o, H x = some o
theorem Lab.ne {H : Hp} {L : Lb} (h : Lab H L) {x p : Addr} {l : Lbl} (hx : L x = some l) (hp : H p = none) : x ≠ p := by
  obtain ⟨o, e⟩ := h x l hx
  exact ne_of_none e hp
theorem Lab.none {H : Hp} {L : Lb} (h : Lab H L) {p : Addr} (hp : H p = Option.none) : L p = Option.none := by
  cases e : L p with
  | none => rfl
  | some l => exact absurd rfl (h.ne e hp)
theorem lne {L : Lb} {x y : Addr} {l m : Lbl} (hx : L x = some l) (hy : L y = some m) (h : l ≠ m) : x ≠ y := by
  intro e; subst e; rw [hx] at hy; exact h (Option.some.inj hy)
/-- a step: only what the owners in S have may change -/
structure Stp (S : Nat → Prop) (H : Hp) (L : Lb) (H' : Hp) (L' : Lb) : Prop where
  dom : ∀ x o, H x = some o → ∃ o', H' x = some o'
  ext : ∀ x l, L x = some l → L' x = some l
  new : ∀ x l, L' x = some l → L x = none → H x = none
  lab : Lab H' L'
  keep : ∀ x o, H x = some o → (∀ l, L x = some l → ¬ S l.1) → H' x = some o
  tup : ∀ x us, H x = some (.tup us) → H' x = some (.tup us)
section
variable {S S' : Nat → Prop} {H H1 H2 : Hp} {L L1 L2 : Lb} {p x : Addr} {o : HO} {l : Lbl}
theorem Stp.refl (h : Lab H L) : Stp S H L H L := ⟨fun _ o e => ⟨o, e⟩, fun _ _ e => e, fun _ _ e n => (by rw [e] at n; cases n), h, fun _ _ e _ => e, fun _ _ e => e⟩
theorem Stp.trans (a : Stp S H L H1 L1) (b : Stp S H1 L1 H2 L2) : Stp S H L H2 L2 := by
  refine ⟨fun x o e => ?_, fun x l e => b.ext x l (a.ext x l e), fun x l e n => ?_, b.lab, fun x o e k => ?_, fun x us e => b.tup x us (a.tup x us e)⟩
  · obtain ⟨o1, e1⟩ := a.dom x o e
    exact b.dom x o1 e1
  · cases e1 : L1 x with
    | some l1 => exact a.new x l1 e1 n
    | none =>
      have z := b.new x l e e1
      cases q : H x with
      | none => rfl
      | some o =>
        obtain ⟨o1, q1⟩ := a.dom x o q
        rw [z] at q1; cases q1
  · refine b.keep x o (a.keep x o e k) fun l1 e1 => ?_
    cases q : L x with
    | some l0 =>
      have z := a.ext x l0 q
      rw [z] at e1; cases e1
      exact k _ q
    | none =>
      have z := a.new x l1 e1 q
      rw [z] at e; cases e
theorem Stp.mono (a : Stp S H L H1 L1) (h : ∀ k, S k → S' k) : Stp S' H L H1 L1 := ⟨a.dom, a.ext, a.new, a.lab, fun x o e k => a.keep x o e (fun l q z => k l q (h _ z)), a.tup⟩
theorem Lab.same (h : Lab H L) (s : Same H H1) : Lab H1 L := fun x l e => by
  obtain ⟨o, q⟩ := h x l e
  exact ⟨o, s x o q⟩
theorem Stp.of_same (h : Lab H L) (s : Same H H1) : Stp S H L H1 L := ⟨fun x o e => ⟨o, s x o e⟩, fun _ _ e => e, fun _ _ e n => (by rw [e] at n; cases n), h.same s, fun x o e _ => s x o e, fun x us e => s x _ e⟩
theorem same_new (hp : H p = none) : Same H (upd H p o) := fun b u e => by rw [upd_ne (ne_of_none e hp)]; exact e
theorem Stp.alloc (h : Lab H L) (hp : H p = none) : Stp S H L (upd H p o) L := .of_same h (same_new hp)
theorem Stp.allocL (h : Lab H L) (hp : H p = none) : Stp S H L (upd H p o) (updL L p l) := by
  have hn : L p = none := h.none hp
  refine ⟨fun x o' e => ⟨o', same_new hp x o' e⟩, fun x m e => ?_, fun x m e n => ?_, fun x m e => ?_, fun x o' e _ => same_new hp x o' e, fun x us e => same_new hp x _ e⟩
  · rw [updL_ne (h.ne e hp)]; exact e
  · by_cases hx : x = p
    · subst hx; exact hp
    · rw [updL_ne hx, n] at e; cases e
  · by_cases hx : x = p
    · subst hx; exact ⟨o, upd_same⟩
    · rw [updL_ne hx] at e
      rw [upd_ne hx]
      exact h x m e
/-- a label for what stands already without one and nobody else knew -/
theorem Stp.label (h : Lab H1 L) (hp : H p = none) (ho : H1 p = some o) (s : Same H H1) (h0 : Lab H L) : Stp S H L H1 (updL L p l) := by
  refine ⟨fun x o e => ⟨o, s x o e⟩, fun x m e => ?_, fun x m e n => ?_, fun x m e => ?_, fun x o' e _ => s x o' e, fun x us e => s x _ e⟩
  · rw [updL_ne (h0.ne e hp)]; exact e
  · by_cases hx : x = p
    · subst hx; exact hp
    · rw [updL_ne hx, n] at e; cases e
  · by_cases hx : x = p
    · subst hx; exact ⟨o, ho⟩
    · rw [updL_ne hx] at e
      exact h x m e
theorem Stp.write {o0 : HO} (h : Lab H L) (hp : L p = some l) (hs : S l.1) (e0 : H p = some o0) (hn : ∀ us, o0 ≠ .tup us := by intro us z; cases z) : Stp S H L (upd H p o) L := by
  refine ⟨fun x o' e => ?_, fun _ _ e => e, fun _ _ e n => (by rw [e] at n; cases n), fun x m e => ?_, fun x o' e k => ?_, fun x us e => ?_⟩
  · by_cases hx : x = p
    · subst hx; exact ⟨o, upd_same⟩
    · rw [upd_ne hx]; exact ⟨o', e⟩
  · by_cases hx : x = p
    · subst hx; exact ⟨o, upd_same⟩
    · rw [upd_ne hx]; exact h x m e
  · have hx : x ≠ p := fun z => k l (by rw [z]; exact hp) hs
    rw [upd_ne hx]; exact e
  · have hx : x ≠ p := fun z => by rw [z, e0] at e; exact hn us (Option.some.inj e)
    rw [upd_ne hx]; exact e
theorem Stp.lbl (a : Stp S H L H1 L1) (hl : L x = some l) (hs : ¬ S l.1) (hx : H x = some o) : H1 x = some o := a.keep x o hx fun m e => by rw [hl] at e; cases e; exact hs
theorem Stp.unl (a : Stp S H L H1 L1) (hl : L x = none) (hx : H x = some o) : H1 x = some o := a.keep x o hx fun m e => by rw [hl] at e; cases e
theorem Stp.fresh (a : Stp S H L H1 L1) (h : H1 p = none) : H p = none := by
  cases e : H p with
  | none => rfl
  | some o =>
    obtain ⟨o', q⟩ := a.dom p o e
    rw [h] at q; cases q
theorem Stp.same (a : Stp (fun _ => False) H L H1 L1) : Same H H1 := fun x o e => a.keep x o e fun _ _ z => z
end
/-! ### lists of places -/
def oV : Option Addr → V
  | none => .non
  | some q => .ref q
/-- qs: where the lists cs stand, owner k, kind j -/
structure OLs (L : Lb) (H : Hp) (k j : Nat) (qs : List (Option Addr)) (cs : List (Option (List Int))) : Prop where
  len : qs.length = cs.length
  no : ∀ i : Nat, cs[i]? = some none → qs[i]? = some none
  yes : ∀ (i : Nat) ws, cs[i]? = some (some ws) → ∃ q, qs[i]? = some (some q) ∧ L q = some (k, j, i) ∧ H q = some (.lst (ws.map .int))
section
variable {L L' : Lb} {H H' : Hp} {k j : Nat} {qs : List (Option Addr)} {cs : List (Option (List Int))} {i : Nat} {q : Addr} {ws : List Int}
theorem OLs.of (h : OLs L H k j qs cs) (e : ∀ x l, L x = some l → L' x = some l) (f : ∀ x i o, L x = some (k, j, i) → H x = some o → H' x = some o) : OLs L' H' k j qs cs :=
  ⟨h.len, h.no, fun i ws c => by
    obtain ⟨q, h1, h2, h3⟩ := h.yes i ws c
    exact ⟨q, h1, e _ _ h2, f q i _ h2 h3⟩⟩
theorem OLs.keep {S : Nat → Prop} (h : OLs L H k j qs cs) (s : Stp S H L H' L') (hk : ¬ S k) : OLs L' H' k j qs cs := h.of s.ext fun _ _ _ hl hx => s.lbl hl hk hx
theorem OLs.at (h : OLs L H k j qs cs) (hi : i < cs.length) : (cs[i]? = some none ∧ qs[i]? = some none) ∨ ∃ ws q, cs[i]? = some (some ws) ∧ qs[i]? = some (some q) ∧ L q = some (k, j, i) ∧ H q = some (.lst (ws.map .int)) := by
  cases e : cs[i]? with
  | none => have := List.getElem?_eq_none_iff.mp e; omega
  | some o =>
    cases o with
    | none => exact .inl ⟨rfl, h.no i e⟩
    | some ws =>
      obtain ⟨q, h1, h2, h3⟩ := h.yes i ws e
      exact .inr ⟨ws, q, rfl, h1, h2, h3⟩
theorem OLs.set (h : OLs L H k j qs cs) (hq : L q = some (k, j, i)) (hh : H q = some (.lst (ws.map .int))) : OLs L H k j (qs.set i (some q)) (cs.set i (some ws)) := by
  refine ⟨by simp [h.len], fun n e => ?_, fun n us e => ?_⟩
  · by_cases hn : i = n
    · subst hn
      rw [List.getElem?_set] at e
      split at e
      · split at e
        · cases e
        · cases e
      · exact absurd rfl (by assumption)
    · rw [List.getElem?_set_ne hn] at e ⊢
      exact h.no n e
  · by_cases hn : i = n
    · subst hn
      have hi : i < cs.length := by
        have := (List.getElem?_eq_some_iff.mp e).1
        simpa using this
      rw [List.getElem?_set_self hi] at e
      cases e
      rw [List.getElem?_set_self (by rw [h.len]; exact hi)]
      exact ⟨q, rfl, hq, hh⟩
    · rw [List.getElem?_set_ne hn] at e
      rw [List.getElem?_set_ne hn]
      exact h.yes n us e
theorem OLs.clear (h : OLs L H k j qs cs) (i : Nat) : OLs L H k j (qs.set i none) (cs.set i none) := by
  refine ⟨by simp [h.len], fun n e => ?_, fun n us e => ?_⟩
  · by_cases hn : i = n
    · subst hn
      have hi : i < cs.length := by
        have := (List.getElem?_eq_some_iff.mp e).1
        simpa using this
      rw [List.getElem?_set_self (by rw [h.len]; exact hi)]
    · rw [List.getElem?_set_ne hn] at e ⊢
      exact h.no n e
  · by_cases hn : i = n
    · subst hn
      have hi : i < cs.length := by
        have := (List.getElem?_eq_some_iff.mp e).1
        simpa using this
      rw [List.getElem?_set_self hi] at e
      cases e
    · rw [List.getElem?_set_ne hn] at e
      rw [List.getElem?_set_ne hn]
      exact h.yes n us e
theorem OLs.push (h : OLs L H k j qs cs) : OLs L H k j (qs ++ [none]) (cs ++ [none]) := by
  refine ⟨by simp [h.len], fun n e => ?_, fun n us e => ?_⟩
  · by_cases hn : n < cs.length
    · rw [List.getElem?_append_left hn] at e
      rw [List.getElem?_append_left (by rw [h.len]; exact hn)]
      exact h.no n e
    · have h2 := (List.getElem?_eq_some_iff.mp e).1
      have : n = cs.length := by simp at h2; omega
      subst this
      rw [← h.len]; simp
  · by_cases hn : n < cs.length
    · rw [List.getElem?_append_left hn] at e
      rw [List.getElem?_append_left (by rw [h.len]; exact hn)]
      exact h.yes n us e
    · have h2 := (List.getElem?_eq_some_iff.mp e).1
      have : n = cs.length := by simp at h2; omega
      subst this
      simp at e
theorem OLs.pop (h : OLs L H k j qs cs) : OLs L H k j qs.dropLast cs.dropLast := by
  refine ⟨by simp [h.len], fun n e => ?_, fun n us e => ?_⟩
  · rw [List.getElem?_dropLast] at e ⊢
    split at e
    · rw [if_pos (by rw [h.len]; assumption)]; exact h.no n e
    · cases e
  · rw [List.getElem?_dropLast] at e
    split at e
    · rw [List.getElem?_dropLast, if_pos (by rw [h.len]; assumption)]; exact h.yes n us e
    · cases e
theorem OLs.write (h : OLs L H k j qs cs) (hi : qs[i]? = some (some q)) (hq : L q = some (k, j, i)) : OLs L (upd H q (.lst (ws.map .int))) k j qs (cs.set i (some ws)) := by
  have e : qs.set i (some q) = qs := by
    apply List.ext_getElem?
    intro n
    by_cases hn : i = n
    · subst hn
      rw [List.getElem?_set_self (List.getElem?_eq_some_iff.mp hi).1, hi]
    · rw [List.getElem?_set_ne hn]
  have h1 : OLs L (upd H q (.lst (ws.map .int))) k j (qs.set i (some q)) (cs.set i (some ws)) := by
    refine ⟨by simp [h.len], fun n c => ?_, fun n us c => ?_⟩
    · by_cases hn : i = n
      · subst hn
        have hl : i < cs.length := by rw [← h.len]; exact (List.getElem?_eq_some_iff.mp hi).1
        rw [List.getElem?_set_self hl] at c; cases c
      · rw [List.getElem?_set_ne hn] at c ⊢
        exact h.no n c
    · by_cases hn : i = n
      · subst hn
        have hl : i < cs.length := by rw [← h.len]; exact (List.getElem?_eq_some_iff.mp hi).1
        rw [List.getElem?_set_self hl] at c; cases c
        rw [List.getElem?_set_self (by rw [h.len]; exact hl)]
        exact ⟨q, rfl, hq, upd_same⟩
      · rw [List.getElem?_set_ne hn] at c
        rw [List.getElem?_set_ne hn]
        obtain ⟨q2, h1, h2, h3⟩ := h.yes n us c
        refine ⟨q2, h1, h2, ?_⟩
        rw [upd_ne]
        · exact h3
        · exact lne h2 hq (by intro z; simp only [Prod.mk.injEq, true_and] at z; exact hn z.symm)
  rw [e] at h1
  exact h1
end
theorem fnOk_none {P : Program} {w : World} {K : PySem.W.Frag} {mg : Str → Option Value} {base : Heap} {CX : CXT} {k : Nat} {f : Addr} {fd : FuncData} {ps : List Str} {sp : Sp} (h : ∀ vs H Q E, ¬ sp vs H Q E) : FnOk P w K mg base CX k f fd ps sp :=
  ⟨fun _ _ _ _ q => (h _ _ _ _ q).elim, fun _ _ _ _ _ _ _ _ _ _ _ _ _ q => (h _ _ _ _ q).elim⟩
theorem nn {H : Hp} {a b : Addr} {o : HO} (h' : H b = none) (h : H a = some o) : a ≠ b := ne_of_none h h'
/-! ### loops -/
section
variable {K : PySem.W.Frag} {g : TG} {tb : TS} {D : Ends} {σ : St} {H : Hp} {p : Addr} {xs : List V} {tas : TA} {te : TE} {c : TT} {i j : Nat} {x y : V}
def kFor (J : It) (g : TG) (tb : TS) (D : Ends) (σ : St) (H1 : Hp) : Prop := ∃ W : Nat → Nat → St → Hp → Prop, (∃ m, W 0 m σ H1) ∧ ∀ i m σ H, W i m σ H →
  (J.stop i H ∧ D.nx σ H) ∨ (J.go i H ∧ ∃ N : St → Hp → Prop, (∀ σ' H', N σ' H' → ∃ m', m' < m ∧ W (i + 1) m' σ' H') ∧ ∀ x H', J.yld i H x H' → g x σ H' fun σ2 H2 => tb { D with nx := N, ct := N, bk := D.nx } σ2 H2)
def kRng1 (g : TG) (tb : TS) (D : Ends) (σ : St) (vs : List V) (H1 : Hp) : Prop := ∃ j : Int, vs = [.int j] ∧ -(2 ^ 62) ≤ j ∧ j < 2 ^ 62 ∧ kFor (Itr 0 j.toNat) g tb D σ H1
def kRng2 (g : TG) (tb : TS) (D : Ends) (σ : St) (vs : List V) (H1 : Hp) : Prop := ∃ i j : Int, vs = [.int i, .int j] ∧ (-(2 ^ 62) ≤ i ∧ i < 2 ^ 62 ∧ -(2 ^ 62) ≤ j ∧ j < 2 ^ 62) ∧ kFor (Itr i (j - i).toNat) g tb D σ H1
def kForL (K : PySem.W.Frag) (g : TG) (tb : TS) (D : Ends) (σ : St) (x : V) (H1 : Hp) : Prop := ∃ a, x = .ref a ∧ (∃ xs, SqL K H1 a xs) ∧ kFor (Itl K a) g tb D σ H1
def kForT (K : PySem.W.Frag) (g : TG) (tb : TS) (D : Ends) (σ : St) (x : V) (H1 : Hp) : Prop := ∃ a, x = .ref a ∧ (∃ xs, SqT K H1 a xs) ∧ kFor (Itt K a) g tb D σ H1
def kEnum (K : PySem.W.Frag) (g : TG) (tb : TS) (D : Ends) (σ : St) (vs : List V) (H1 : Hp) : Prop := ∃ a xs, vs = [.ref a] ∧ SqL K H1 a xs ∧ kFor (Ite K a) g tb D σ H1
theorem r_rng1 (h : tas σ H fun vs H1 => kRng1 g tb D σ vs H1) : tFor (iRng1 tas) g tb D σ H := h
theorem r_rng2 (h : tas σ H fun vs H1 => kRng2 g tb D σ vs H1) : tFor (iRng2 tas) g tb D σ H := h
theorem r_forL (h : te σ H fun x H1 => kForL K g tb D σ x H1) : tFor (iList K te) g tb D σ H := h
theorem r_forT (h : te σ H fun x H1 => kForT K g tb D σ x H1) : tFor (iTup K te) g tb D σ H := h
theorem r_enum (h : tas σ H fun vs H1 => kEnum K g tb D σ vs H1) : tFor (iEnum K tas) g tb D σ H := h
theorem k_rng1 {n : Nat} (hn : n ≤ 100000) (Pv : Nat → St → Hp → Prop) (h0 : Pv 0 σ H)
    (hs : ∀ i σ' H', i < n → Pv i σ' H' → tb { D with nx := Pv (i + 1), ct := Pv (i + 1), bk := D.nx } (σ'.set j (some (.int (i : Nat)))) H') (hd : ∀ σ' H', Pv n σ' H' → D.nx σ' H') : kRng1 (gName j) tb D σ [.int (n : Nat)] H := by
  refine ⟨(n : Nat), rfl, by omega, by omega, ?_⟩
  rw [Int.toNat_natCast]
  refine for_range (lo := 0) (n := n) Pv h0 (fun i σ' H' hi q => ?_) hd
  have e : (0 : Int) + (i : Nat) = (i : Nat) := Int.zero_add _
  show tb _ (σ'.set j (some (.int ((0 : Int) + (i : Nat))))) H'
  rw [e]
  exact hs i σ' H' hi q
/-- range(lo, hi): n turns -/
theorem k_rng2 {lo hi : Nat} (h1 : lo ≤ 100000) (h2 : hi ≤ 100000) (Pv : Nat → St → Hp → Prop) (h0 : Pv lo σ H)
    (hs : ∀ i σ' H', lo ≤ i → i < hi → Pv i σ' H' → tb { D with nx := Pv (i + 1), ct := Pv (i + 1), bk := D.nx } (σ'.set j (some (.int (i : Nat)))) H') (hd : ∀ σ' H', Pv (max lo hi) σ' H' → D.nx σ' H') : kRng2 (gName j) tb D σ [.int (lo : Nat), .int (hi : Nat)] H := by
  refine ⟨(lo : Nat), (hi : Nat), rfl, ⟨by omega, by omega, by omega, by omega⟩, ?_⟩
  refine for_range (lo := (lo : Nat)) (n := ((hi : Int) - (lo : Nat)).toNat) (fun i => Pv (lo + i)) h0 (fun i σ' H' hi' q => ?_) fun σ' H' q => ?_
  · have e : ((lo : Nat) : Int) + (i : Nat) = ((lo + i : Nat) : Nat) := by omega
    show tb _ (σ'.set j (some (.int (((lo : Nat) : Int) + (i : Nat))))) H'
    rw [e]
    exact hs (lo + i) σ' H' (by omega) (by omega) q
  · have e : lo + ((hi : Int) - (lo : Nat)).toNat = max lo hi := by omega
    have q' : Pv (lo + ((hi : Int) - (lo : Nat)).toNat) σ' H' := q
    rw [e] at q'
    exact hd σ' H' q'
theorem k_forL (ho : SqL K H p xs) (Pv : Nat → St → Hp → Prop) (h0 : Pv 0 σ H) (hl : ∀ i σ' H', i ≤ xs.length → Pv i σ' H' → SqL K H' p xs)
    (hs : ∀ i x σ' H', xs[i]? = some x → Pv i σ' H' → g x σ' H' fun σ2 H2 => tb { D with nx := Pv (i + 1), ct := Pv (i + 1), bk := D.nx } σ2 H2) (hd : ∀ σ' H', Pv xs.length σ' H' → D.nx σ' H') : kForL K g tb D σ (.ref p) H :=
  ⟨p, rfl, ⟨xs, ho⟩, for_list Pv h0 hl hs hd⟩
theorem k_forT (ho : SqT K H p xs) (Pv : Nat → St → Hp → Prop) (h0 : Pv 0 σ H) (hl : ∀ i σ' H', i ≤ xs.length → Pv i σ' H' → SqT K H' p xs)
    (hs : ∀ i x σ' H', xs[i]? = some x → Pv i σ' H' → g x σ' H' fun σ2 H2 => tb { D with nx := Pv (i + 1), ct := Pv (i + 1), bk := D.nx } σ2 H2) (hd : ∀ σ' H', Pv xs.length σ' H' → D.nx σ' H') : kForT K g tb D σ (.ref p) H :=
  ⟨p, rfl, ⟨xs, ho⟩, for_tup Pv h0 hl hs hd⟩
theorem g_two {Q : St → Hp → Prop} {T : Addr} (ho : H T = some (.tup [x, y])) (q : Q ((σ.set i (some x)).set j (some y)) H) : gTup K 2 (gCons (gName i) (gCons (gName j) gNil)) (.ref T) σ H Q :=
  ⟨T, [x, y], rfl, .inl (.inl ho), rfl, x, [y], rfl, y, [], rfl, rfl, q⟩
/-- for a, b in enumerate(xs) -/
theorem k_enum (ho : SqL K H p xs) (Pv : Nat → St → Hp → Prop) (h0 : Pv 0 σ H) (hl : ∀ i σ' H', i ≤ xs.length → Pv i σ' H' → SqL K H' p xs)
    (hs : ∀ n x T σ' H', xs[n]? = some x → Pv n σ' H' → H' T = none → tb { D with nx := Pv (n + 1), ct := Pv (n + 1), bk := D.nx } ((σ'.set i (some (.int (n : Nat)))).set j (some x)) (upd H' T (.tup [.int (n : Nat), x])))
    (hd : ∀ σ' H', Pv xs.length σ' H' → D.nx σ' H') : kEnum K (gTup K 2 (gCons (gName i) (gCons (gName j) gNil))) tb D σ [.ref p] H := by
  refine ⟨p, xs, rfl, ho, for_it (walk_enum (K := K) (a := p) (xs := xs)) Pv h0 hl (fun n v σ' H' H2 hn q y => ?_) hd⟩
  obtain ⟨T, x, z, rfl, hT, rfl, e1, e2⟩ := y
  cases e1
  exact g_two upd_same (hs n z T σ' H' e2 q hT)
def kWhile (c : TT) (tb : TS) (D : Ends) (σ : St) (H : Hp) : Prop := tWhile c tb D σ H
/-- a while: Pv at m, the number that falls -/
theorem k_while (Pv : Nat → St → Hp → Prop) (m0 : Nat) (h0 : Pv m0 σ H)
    (hs : ∀ m σ' H', Pv m σ' H' → c σ' H' fun b H1 => kIf b (tb { D with nx := fun σ2 H2 => ∃ m', m' < m ∧ Pv m' σ2 H2, ct := fun σ2 H2 => ∃ m', m' < m ∧ Pv m' σ2 H2, bk := D.nx } σ' H1) (D.nx σ' H1))
    (mono : ∀ σ' H' Q Q', (∀ b H1, Q b H1 → Q' b H1) → c σ' H' Q → c σ' H' Q') : tWhile c tb D σ H := by
  refine ⟨Pv, ⟨m0, h0⟩, fun m σ' H' w => ?_⟩
  refine mono σ' H' _ _ (fun b H1 q => ?_) (hs m σ' H' w)
  cases b with
  | true =>
    rw [if_pos rfl]
    have q' := q
    unfold kIf at q'
    rw [if_pos rfl] at q'
    exact ⟨_, fun _ _ n => n, q'⟩
  | false =>
    rw [if_neg Bool.false_ne_true]
    have q' := q
    unfold kIf at q'
    rw [if_neg Bool.false_ne_true] at q'
    exact q'
end
theorem sm {f : Str} {v : V} {fs : List (Str × V)} {n : Nat} (h : fs.length ≤ n) : (putF f v fs).length ≤ n + 1 := by
  induction fs generalizing n with
  | nil => exact Nat.succ_le_succ (Nat.zero_le _)
  | cons p r ih =>
    obtain ⟨x, y⟩ := p
    unfold putF
    split
    · exact Nat.le_succ_of_le h
    · cases n with
      | zero => exact absurd h (by simp)
      | succ m => exact Nat.succ_le_succ (ih (Nat.le_of_succ_le_succ h))
theorem lt0 : ([] : List (Str × V)).length < 1000 := by decide
theorem lt1 {f : Str} {v : V} : (putF f v []).length < 1000 := Nat.lt_of_le_of_lt (sm (Nat.le_refl 0)) (by decide)
theorem lt2 {f g : Str} {v w : V} : (putF g w (putF f v [])).length < 1000 := Nat.lt_of_le_of_lt (sm (sm (Nat.le_refl 0))) (by decide)
theorem lt3 {f g h : Str} {v w u : V} : (putF h u (putF g w (putF f v []))).length < 1000 := Nat.lt_of_le_of_lt (sm (sm (sm (Nat.le_refl 0)))) (by decide)
theorem lt4 {f g h i : Str} {v w u x : V} : (putF i x (putF h u (putF g w (putF f v [])))).length < 1000 := Nat.lt_of_le_of_lt (sm (sm (sm (sm (Nat.le_refl 0))))) (by decide)
theorem flat_rep {α : Type} (x : α) : ∀ n : Nat, (List.replicate n [x]).flatten = List.replicate n x
  | 0 => rfl
  | n + 1 => by rw [List.replicate_succ, List.flatten_cons, flat_rep x n, List.replicate_succ]; rfl
theorem un {H : Hp} {a b : Addr} {o : HO} (h : upd H a o b = none) : H b = none := by
  by_cases e : b = a
  · subst e; rw [upd_same] at h; cases h
  · rw [upd_ne e] at h; exact h
theorem r_gsub {to ti : TE} {rs : TSet} {v : V} {σ : St} {H : Hp} {Q : St → Hp → Prop} (h : to σ H fun o H1 => ti σ H1 fun i H2 => rs o i v H2 fun H3 => Q σ H3) : gSub to ti rs v σ H Q := h
theorem ixN_nat {n j : Nat} (hj : j < n) : ixN n (j : Int) = some j := by
  unfold ixN
  rw [if_pos (by omega), if_pos (by omega)]
  simp
theorem k_setL {p : Addr} {H : Hp} {v : V} {Q : Hp → Prop} {xs : List V} {j : Nat} (ho : H p = some (.lst xs)) (hj : j < xs.length) (q : Q (upd H p (.lst (xs.set j v)))) : rSetL (.ref p) (.int (j : Nat)) v H Q := r_setL ho (ixN_nat hj) q
/-! ### list comprehensions -/
section
variable {K : PySem.W.Frag} {g : TG} {tt : TT} {te te0 : TE} {vs : List Nat} {σ : St} {H : Hp} {Q : VK} {tas : TA} {j : Nat} {a : Addr} {xs ys : List V}
def kLcL (K : PySem.W.Frag) (g : TG) (tt : TT) (te : TE) (vs : List Nat) (σ : St) (x : V) (H : Hp) (Q : VK) : Prop := tLc (iList K (tC x)) g tt te vs σ H Q
theorem r_lcL (h : te0 σ H fun x H1 => kLcL K g tt te vs σ x H1 Q) : tLc (iList K te0) g tt te vs σ H Q := h
/-- [e for x in xs], e a value of x -/
theorem k_lcL (ho : SqL K H a xs) (hl : ys.length = xs.length) (hz : xs.length ≤ 1000) (hw : ∀ x, wipe ((wipe σ vs).set j (some x)) vs = wipe σ vs)
    (he : ∀ (i : Nat) (x y : V) (H' : Hp), xs[i]? = some x → ys[i]? = some y → Same H H' → ∀ Q : VK, (∀ H2, Same H' H2 → Q y H2) → te ((wipe σ vs).set j (some x)) H' Q)
    (q : ∀ D H', H D = none → Same H H' → H' D = some (.lst ys) → Q (.ref D) H') : kLcL K (gName j) tYes te vs σ (.ref a) H Q := by
  refine ⟨a, rfl, ⟨xs, ho⟩, fun D hD => ?_⟩
  refine lc_list (xs := xs) (fun i H' => Same H H' ∧ H' D = some (.lst (ys.take i))) ⟨same_new hD, upd_same⟩ (fun i H' _ p => p.1.seq ho) (fun i x H' hi p => ?_) fun H' p => ?_
  · have hil : i < xs.length := (List.getElem?_eq_some_iff.mp hi).1
    have hiy : i < ys.length := by omega
    have ey : ys[i]? = some ys[i] := List.getElem?_eq_getElem hiy
    refine ⟨hw x, ?_⟩
    refine he i x ys[i] H' hi ey p.1 _ fun H2 s2 => ⟨ys.take i, s2 _ _ p.2, small1000 (by rw [List.length_take]; omega), fun b o e => ?_, ?_⟩
    · rw [upd_ne (ne_of_none e hD)]; exact s2 _ _ (p.1 b o e)
    · rw [upd_same, List.take_succ, ey]; rfl
  · have p2 := p.2
    rw [List.take_of_length_le (by omega)] at p2
    exact q D H' hD p.1 p2
def kLcR1 (g : TG) (tt : TT) (te : TE) (vs : List Nat) (σ : St) (xs : List V) (H : Hp) (Q : VK) : Prop := tLc (iRng1 fun _ H k => k xs H) g tt te vs σ H Q
theorem r_lcR1 (h : tas σ H fun xs H1 => kLcR1 g tt te vs σ xs H1 Q) : tLc (iRng1 tas) g tt te vs σ H Q := h
/-- [e for k in range(n)] -/
theorem k_lcR1 {n : Nat} (hl : ys.length = n) (hz : n ≤ 1000) (hw : ∀ x, wipe ((wipe σ vs).set j (some x)) vs = wipe σ vs)
    (he : ∀ (i : Nat) (y : V) (H' : Hp), i < n → ys[i]? = some y → Same H H' → ∀ Q : VK, (∀ H2, Same H' H2 → Q y H2) → te ((wipe σ vs).set j (some (.int (i : Nat)))) H' Q)
    (q : ∀ D H', H D = none → Same H H' → H' D = some (.lst ys) → Q (.ref D) H') : kLcR1 (gName j) tYes te vs σ [.int (n : Nat)] H Q := by
  refine ⟨(n : Nat), rfl, by omega, by omega, fun D hD => ?_⟩
  rw [Int.toNat_natCast]
  refine lc_range (lo := 0) (n := n) (fun i H' => Same H H' ∧ H' D = some (.lst (ys.take i))) ⟨same_new hD, upd_same⟩ (fun i H' hi p => ?_) fun H' p => ?_
  · have hiy : i < ys.length := by omega
    have ey : ys[i]? = some ys[i] := List.getElem?_eq_getElem hiy
    rw [Int.zero_add]
    refine ⟨hw _, ?_⟩
    refine he i ys[i] H' hi ey p.1 _ fun H2 s2 => ⟨ys.take i, s2 _ _ p.2, small1000 (by rw [List.length_take]; omega), fun b o e => ?_, ?_⟩
    · rw [upd_ne (ne_of_none e hD)]; exact s2 _ _ (p.1 b o e)
    · rw [upd_same, List.take_succ, ey]; rfl
  · have p2 := p.2
    rw [List.take_of_length_le (by omega)] at p2
    exact q D H' hD p.1 p2
end
/-! ### raising, making, whiles, pops -/
section
variable {K : PySem.W.Frag} {C p : Addr} {sp : Sp} {E : XK} {tas : TA} {σ : St} {H : Hp} {D : Ends} {Q : VK} {f : Str} {v : V} {c : TT} {tb : TS} {xs : List V}
def kRaise (C : Addr) (sp : Sp) (E : XK) (vs : List V) (H : Hp) : Prop := tMkO C sp [] (fun _ H k => k vs H) [] H fun cls d H' => E cls d H'
theorem r_raise (h : tas σ H fun vs H1 => kRaise C sp E vs H1) : tRaise C sp E tas D σ H := h
theorem k_raise (q : ∀ d H', H d = none → Same H H' → H' d = some (.xd [(f, v)]) → E (.ref C) (some d) H') : kRaise C (sp2 (prExc C f)) E [v] H := by
  refine ⟨by simp, fun a ha => ⟨.ref a, v, rfl, a, rfl, upd_same, fun d hd ne => ⟨rfl, d, [(f, v)], upd_same, ?_, un hd, q d _ (un hd) (fun b o e => ?_) upd_same⟩⟩⟩
  · rw [upd_ne ne]; exact upd_same
  · have h1 : b ≠ a := ne_of_none e ha
    have h2 : b ≠ d := ne_of_none e (un hd)
    rw [upd_ne h2, del_ne h1, upd_ne h1, upd_ne h2, upd_ne h1]; exact e
def kMake (C : Addr) (sp : Sp) (E : XK) (vs : List V) (H : Hp) (Q : VK) : Prop := tMake C sp [] E (fun _ H k => k vs H) [] H Q
theorem r_make (h : tas σ H fun vs H1 => kMake C sp E vs H1 Q) : tMake C sp [] E tas σ H Q := h
theorem k_make {vs : List V} (q : ∀ x dx, H x = none → H dx = none → dx ≠ x → sp (.ref x :: (vs ++ [])) (upd (upd H dx (.own x)) x (.ins C dx [])) (fun v H2 => v = .non ∧ Q (.ref x) H2) E) : kMake C sp E vs H Q := q
/-- a while whose test leaves the heap -/
theorem k_whileD (Pv : Nat → St → Hp → Prop) (m0 : Nat) (h0 : Pv m0 σ H)
    (hs : ∀ m σ' H', Pv m σ' H' → ∃ b, (∀ Qb : Bool → Hp → Prop, Qb b H' → c σ' H' Qb) ∧
      (b = true → tb { D with nx := fun σ2 H2 => ∃ m', m' < m ∧ Pv m' σ2 H2, ct := fun σ2 H2 => ∃ m', m' < m ∧ Pv m' σ2 H2, bk := D.nx } σ' H') ∧ (b = false → D.nx σ' H')) : tWhile c tb D σ H := by
  refine ⟨Pv, ⟨m0, h0⟩, fun m σ' H' w => ?_⟩
  obtain ⟨b, h1, h2, h3⟩ := hs m σ' H' w
  refine h1 _ ?_
  cases b with
  | true =>
    rw [if_pos rfl]
    exact ⟨_, fun _ _ n => n, h2 rfl⟩
  | false =>
    rw [if_neg Bool.false_ne_true]
    exact h3 rfl
theorem k_pop {y : V} (ho : H p = some (.lst xs)) (hy : xs[xs.length - 1]? = some y) (q : Q y (upd H p (.lst xs.dropLast))) : rPop (.ref p) [] H Q := ⟨p, xs, y, rfl, rfl, ho, hy, q⟩
theorem Stp.of_new {S : Nat → Prop} {H H' : Hp} {L L' : Lb} (s : Same H H') (ext : ∀ x l, L x = some l → L' x = some l) (new : ∀ x l, L' x = some l → L x = none → H x = none) (lab : Lab H' L') : Stp S H L H' L' :=
  ⟨fun x o e => ⟨o, s x o e⟩, ext, new, lab, fun x o e _ => s x o e, fun x us e => s x _ e⟩
end
theorem OLs.take {L : Lb} {H : Hp} {k j : Nat} {qs : List (Option Addr)} {cs : List (Option (List Int))} (h : OLs L H k j qs cs) (n : Nat) : OLs L H k j (qs.take n) (cs.take n) := by
  refine ⟨by rw [List.length_take, List.length_take, h.len], fun i e => ?_, fun i ws e => ?_⟩
  · rw [List.getElem?_take] at e ⊢
    split at e
    · rw [if_pos (by assumption)]; exact h.no i e
    · cases e
  · rw [List.getElem?_take] at e
    split at e
    · obtain ⟨q, h1, h2, h3⟩ := h.yes i ws e
      refine ⟨q, ?_, h2, h3⟩
      rw [List.getElem?_take, if_pos (by assumption)]; exact h1
    · cases e
theorem take_drop_last {α : Type} (l : List α) {j : Nat} (h : j < l.length) : (l.take (j + 1)).dropLast = l.take j := by
  rw [List.dropLast_eq_take, List.length_take, List.take_take]
  congr 1
  omega
theorem k_popAt {p : Addr} {H : Hp} {Q : VK} {xs : List V} {k : Nat} {y : V} (ho : H p = some (.lst xs)) (hy : xs[k]? = some y) (hz : xs.length ≤ 100000) (q : Q y (upd H p (.lst (xs.eraseIdx k)))) : rPopAt (.ref p) [.int (k : Nat)] H Q := by
  have hk : k < xs.length := (List.getElem?_eq_some_iff.mp hy).1
  exact ⟨p, xs, (k : Nat), k, y, rfl, rfl, ho, by omega, by omega, (ixN_seq (ixN_nat hk)).1, hy, q⟩
theorem k_isi {K : PySem.W.Frag} {H : Hp} {Q : VK} {x : V} {A B : String} {b : Bool} (ty : TyX K H x (.type A)) (hk : PySem.W.kitOne K (.type A) (.type B) = some b) (q : Q (.bl b) H) : rIsi K [x, .ty B] H Q := ⟨x, .ty B, _, _, b, rfl, .ty B, ty, hk, q⟩
theorem tyx_tup {K : PySem.W.Frag} {H : Hp} {a : Addr} {xs : List V} (h : SqT K H a xs) : TyX K H (.ref a) (.type "tuple") := by
  rcases h with (h | ⟨o, h⟩) | ⟨o, its, n, h1, h2, _⟩
  · exact .base (.tup h)
  · exact .fTuple h
  · exact .kTuple h1 h2
theorem dpall_len {K : PySem.W.Frag} {H : Hp} : ∀ {vs : List V} {ds : List PyData}, DpAll K H vs ds → vs.length = ds.length
  | [], [], _ => rfl
  | _ :: _, _ :: _, .cons _ t => by rw [List.length_cons, List.length_cons, dpall_len t]
theorem dpall_at {K : PySem.W.Frag} {H : Hp} : ∀ {vs : List V} {ds : List PyData} {i : Nat}, DpAll K H vs ds → i < ds.length → ∃ v d, vs[i]? = some v ∧ ds[i]? = some d ∧ Dp K H v d
  | [], [], _, _, hi => by simp at hi
  | _ :: _, _ :: _, 0, .cons h _, _ => ⟨_, _, rfl, rfl, h⟩
  | _ :: _, _ :: _, i + 1, .cons _ t, hi => by
    obtain ⟨v, d, h1, h2, h3⟩ := dpall_at (i := i) t (by simpa using hi)
    exact ⟨v, d, by simpa using h1, by simpa using h2, h3⟩
theorem dp_ints {K : PySem.W.Frag} {H : Hp} : ∀ ns : List Int, DpAll K H (ns.map .int) (ns.map .int)
  | [] => .nil
  | n :: r => .cons (.int n) (dp_ints r)
section
variable {S : Nat → Prop} {H H1 : Hp} {L L1 : Lb} {p x : Addr} {o : HO} {l : Lbl}
theorem Stp.nolab (st : Stp S H L H1 L1) (hl : L x = none) (hx : H x = some o) : L1 x = none := by
  cases e : L1 x with
  | none => rfl
  | some m =>
    have z := st.new x m e hl
    rw [z] at hx; cases hx
theorem Stp.relabel (st : Stp S H L H1 L1) (hp : H p = none) (hl : L1 p = none) (ho : H1 p = some o) : Stp S H L H1 (updL L1 p l) := by
  refine ⟨st.dom, fun x m e => ?_, fun x m e n => ?_, fun x m e => ?_, st.keep, st.tup⟩
  · have z := st.ext x m e
    rw [updL_ne (fun w => by rw [w, hl] at z; cases z)]; exact z
  · by_cases hx : x = p
    · subst hx; exact hp
    · rw [updL_ne hx] at e
      exact st.new x m e n
  · by_cases hx : x = p
    · subst hx; exact ⟨o, ho⟩
    · rw [updL_ne hx] at e
      exact st.lab x m e
theorem updL_ext (hl : L p = none) {x : Addr} {m : Lbl} (e : L x = some m) : updL L p l x = some m := by
  rw [updL_ne (fun w => by rw [w, hl] at e; cases e)]; exact e
end
section
variable {K : PySem.W.Frag} {σ : St} {H : Hp} {Q : VK} {D : Ends} {te tk tv : TE} {trs : List (TE × TE)} {p : Addr} {f : Str} {v : V}
def kDisp (p : Addr) (ps : List (V × V)) (H2 : Hp) (Q : VK) : Prop := H2 p = some (.dK []) ∧ ∃ kvs : List (Key × V), ps = kvs.map (fun kv => (kV kv.1, kv.2)) ∧ kvs.length ≤ 15 ∧ Q (.ref p) (upd H2 p (.dK (mergeK [] kvs)))
theorem r_disp (h : ∀ p, H p = none → tPairs trs σ (upd H p (.dK [])) fun ps H2 => kDisp p ps H2 Q) : tDisp trs σ H Q := h
theorem r_pcons {Q : List (V × V) → Hp → Prop} (h : tk σ H fun x H1 => tv σ H1 fun y H2 => tPairs trs σ H2 fun ps H3 => Q ((x, y) :: ps) H3) : tPairs ((tk, tv) :: trs) σ H Q := h
theorem r_pnil {Q : List (V × V) → Hp → Prop} (h : Q [] H) : tPairs [] σ H Q := h
theorem k_disp (kvs : List (Key × V)) (ho : H p = some (.dK [])) (hz : kvs.length ≤ 15) (q : Q (.ref p) (upd H p (.dK (mergeK [] kvs)))) : kDisp p (kvs.map (fun kv => (kV kv.1, kv.2))) H Q := ⟨ho, kvs, rfl, hz, q⟩
def kXf (a : Addr) (cls : Value) (d : Option Addr) (C : Addr) (f : Str) (x : V) (H1 : Hp) (Q : VK) : Prop := x = .ref a ∧ cls = .ref C ∧ ∃ (dd : Addr) (fs : List (Str × V)) (v : V), d = some dd ∧ H1 dd = some (.xd fs) ∧ fs.lookup f = some v ∧ Q v H1
theorem r_xf {a : Addr} {cls : Value} {d : Option Addr} {C : Addr} (h : te σ H fun x H1 => kXf a cls d C f x H1 Q) : tXf a cls d C f te σ H Q := h
theorem k_xf {a dd C : Addr} (ho : H dd = some (.xd [(f, v)])) (q : Q v H) : kXf a (.ref C) (some dd) C f (.ref a) H Q := ⟨rfl, rfl, dd, _, v, rfl, ho, by simp [List.lookup], q⟩
theorem r_try {c : Value} {i : Nat} {tb : WX → TS} {ts : Addr → Value → Option Addr → TS} (h : tb (wAs K c i ts (fun _ _ _ _ => False) D) D σ H) : tTryAs K c i tb ts D σ H := h
theorem k_was {c : Value} {i : Nat} {ts : Addr → Value → Option Addr → TS} {d : Option Addr} {Wo : WX} (hc : PySem.W.exmOne K c c = some true)
    (h : ∀ a, H a = none → ts a c d { nx := fun σ' H' => D.nx (σ'.set i none) H', rt := D.rt, bk := fun σ' H' => D.bk (σ'.set i none) H', ct := fun σ' H' => D.ct (σ'.set i none) H' } (σ.set i (some (.ref a))) H) : wAs K c i ts Wo D c d σ H :=
  ⟨true, hc, fun _ => h, fun z => by cases z⟩
end
theorem k_remN {l : Addr} {H : Hp} {Q : VK} {O : List Nat} {i : Nat} (ho : H l = some (.lst (O.map fun i => V.int (i : Nat)))) (hi : i ∈ O) (q : Q .non (upd H l (.lst ((O.erase i).map fun i => V.int (i : Nat))))) : rRemI (.ref l) [.int (i : Nat)] H Q := by
  have e0 : ∀ M : List Nat, (M.map fun i => V.int (i : Nat)) = (M.map fun i => ((i : Nat) : Int)).map V.int := fun M => by rw [List.map_map]; rfl
  have hj : O.idxOf i < O.length := List.idxOf_lt_length_iff.mpr hi
  have hx : O[O.idxOf i]? = some i := by rw [List.getElem?_eq_getElem hj, List.getElem_idxOf]
  refine ⟨l, O.map fun i => ((i : Nat) : Int), (i : Nat), O.idxOf i, rfl, rfl, by rw [ho, e0], by rw [List.getElem?_map, hx]; rfl, fun m hm => ?_, ?_⟩
  · rw [List.getElem?_map]
    intro z
    have hml : m < O.length := Nat.lt_trans hm hj
    rw [List.getElem?_eq_getElem hml] at z
    have z2 : O[m] = i := Int.ofNat.inj (Option.some.inj z)
    have := List.not_of_lt_findIdx (p := (· == i)) (xs := O) (by exact hm)
    simp [z2] at this
  · have e1 : ((O.map fun i => ((i : Nat) : Int)).eraseIdx (O.idxOf i)).map V.int = (O.erase i).map fun i => V.int (i : Nat) := by
      rw [e0, List.erase_eq_eraseIdx_of_idxOf rfl, List.eraseIdx_eq_take_drop_succ, List.eraseIdx_eq_take_drop_succ, List.map_append, List.map_append, List.map_append, List.map_take, List.map_drop, List.map_take, List.map_drop, List.map_take, List.map_drop]
    rw [e1]; exact q
end Lh

namespace K60
open PySem L2 Lh
def top (i : Nat) : Stmt := PySem.Challenge.pw_lonehost_k60_frames_in_a_drawn_order.main.body.getD i (.Pass ⟨0, 0, 0, 0⟩)
abbrev s_HostBusy___init__ : Stmt := inClass (top 3) 0
abbrev n_HostBusy___init__ : List Str := ["self", "number"]
theorem sc_HostBusy___init__ : FnScope n_HostBusy___init__ ["self", "number"] (defScope s_HostBusy___init__) := ⟨rfl, rfl, rfl, by decide +kernel, rfl, by decide +kernel, by decide +kernel⟩
abbrev s_check_range : Stmt := top 6
abbrev n_check_range : List Str := ["value", "low", "high"]
theorem sc_check_range : FnScope n_check_range ["value", "low", "high"] (defScope s_check_range) := ⟨rfl, rfl, rfl, by decide +kernel, rfl, by decide +kernel, by decide +kernel⟩
abbrev s_Frames___init__ : Stmt := inClass (top 9) 0
abbrev n_Frames___init__ : List Str := ["self", "count"]
theorem sc_Frames___init__ : FnScope n_Frames___init__ ["self", "count"] (defScope s_Frames___init__) := ⟨rfl, rfl, rfl, by decide +kernel, rfl, by decide +kernel, by decide +kernel⟩
abbrev s_Frames_size : Stmt := inClass (top 9) 1
abbrev n_Frames_size : List Str := ["self"]
theorem sc_Frames_size : FnScope n_Frames_size ["self"] (defScope s_Frames_size) := ⟨rfl, rfl, rfl, by decide +kernel, rfl, by decide +kernel, by decide +kernel⟩
abbrev s_Frames_in_use : Stmt := inClass (top 9) 2
abbrev n_Frames_in_use : List Str := ["self", "frame"]
theorem sc_Frames_in_use : FnScope n_Frames_in_use ["self", "frame"] (defScope s_Frames_in_use) := ⟨rfl, rfl, rfl, by decide +kernel, rfl, by decide +kernel, by decide +kernel⟩
abbrev s_Frames__check : Stmt := inClass (top 9) 3
abbrev n_Frames__check : List Str := ["self", "frame"]
theorem sc_Frames__check : FnScope n_Frames__check ["self", "frame"] (defScope s_Frames__check) := ⟨rfl, rfl, rfl, by decide +kernel, rfl, by decide +kernel, by decide +kernel⟩
abbrev s_Frames__use : Stmt := inClass (top 9) 4
abbrev n_Frames__use : List Str := ["self", "frame"]
theorem sc_Frames__use : FnScope n_Frames__use ["self", "frame"] (defScope s_Frames__use) := ⟨rfl, rfl, rfl, by decide +kernel, rfl, by decide +kernel, by decide +kernel⟩
abbrev s_Frames_free_frame : Stmt := inClass (top 9) 5
abbrev n_Frames_free_frame : List Str := ["self", "frame", "content"]
theorem sc_Frames_free_frame : FnScope n_Frames_free_frame ["self"] (defScope s_Frames_free_frame) := ⟨rfl, rfl, rfl, by decide +kernel, rfl, by decide +kernel, by decide +kernel⟩
abbrev s_Frames_order : Stmt := inClass (top 9) 6
abbrev n_Frames_order : List Str := ["self", "pairs", "frame", "content", "pair"]
theorem sc_Frames_order : FnScope n_Frames_order ["self"] (defScope s_Frames_order) := ⟨rfl, rfl, rfl, by decide +kernel, rfl, by decide +kernel, by decide +kernel⟩
abbrev s_Frames_oldest : Stmt := inClass (top 9) 7
abbrev n_Frames_oldest : List Str := ["self", "best", "frame", "content"]
theorem sc_Frames_oldest : FnScope n_Frames_oldest ["self"] (defScope s_Frames_oldest) := ⟨rfl, rfl, rfl, by decide +kernel, rfl, by decide +kernel, by decide +kernel⟩
abbrev s_Frames_fill : Stmt := inClass (top 9) 8
abbrev n_Frames_fill : List Str := ["self", "frame", "words"]
theorem sc_Frames_fill : FnScope n_Frames_fill ["self", "frame", "words"] (defScope s_Frames_fill) := ⟨rfl, rfl, rfl, by decide +kernel, rfl, by decide +kernel, by decide +kernel⟩
abbrev s_Frames_words : Stmt := inClass (top 9) 9
abbrev n_Frames_words : List Str := ["self", "frame"]
theorem sc_Frames_words : FnScope n_Frames_words ["self", "frame"] (defScope s_Frames_words) := ⟨rfl, rfl, rfl, by decide +kernel, rfl, by decide +kernel, by decide +kernel⟩
abbrev s_Frames_word : Stmt := inClass (top 9) 10
abbrev n_Frames_word : List Str := ["self", "frame", "at"]
theorem sc_Frames_word : FnScope n_Frames_word ["self", "frame", "at"] (defScope s_Frames_word) := ⟨rfl, rfl, rfl, by decide +kernel, rfl, by decide +kernel, by decide +kernel⟩
abbrev s_Frames_set_word : Stmt := inClass (top 9) 11
abbrev n_Frames_set_word : List Str := ["self", "frame", "at", "word"]
theorem sc_Frames_set_word : FnScope n_Frames_set_word ["self", "frame", "at", "word"] (defScope s_Frames_set_word) := ⟨rfl, rfl, rfl, by decide +kernel, rfl, by decide +kernel, by decide +kernel⟩
abbrev s_Frames_touch : Stmt := inClass (top 9) 12
abbrev n_Frames_touch : List Str := ["self", "frame"]
theorem sc_Frames_touch : FnScope n_Frames_touch ["self", "frame"] (defScope s_Frames_touch) := ⟨rfl, rfl, rfl, by decide +kernel, rfl, by decide +kernel, by decide +kernel⟩
abbrev s_Frames_empty : Stmt := inClass (top 9) 13
abbrev n_Frames_empty : List Str := ["self", "frame"]
theorem sc_Frames_empty : FnScope n_Frames_empty ["self", "frame"] (defScope s_Frames_empty) := ⟨rfl, rfl, rfl, by decide +kernel, rfl, by decide +kernel, by decide +kernel⟩
abbrev s_Frames_resize : Stmt := inClass (top 9) 14
abbrev n_Frames_resize : List Str := ["self", "count", "frame"]
theorem sc_Frames_resize : FnScope n_Frames_resize ["self", "count"] (defScope s_Frames_resize) := ⟨rfl, rfl, rfl, by decide +kernel, rfl, by decide +kernel, by decide +kernel⟩
abbrev s_Frames_frozen : Stmt := inClass (top 9) 15
abbrev n_Frames_frozen : List Str := ["self", "contents", "content"]
theorem sc_Frames_frozen : FnScope n_Frames_frozen ["self"] (defScope s_Frames_frozen) := ⟨rfl, rfl, rfl, by decide +kernel, rfl, by decide +kernel, by decide +kernel⟩
abbrev s_thawed_frames : Stmt := top 10
abbrev n_thawed_frames : List Str := ["value", "contents", "order", "frames", "frame"]
theorem sc_thawed_frames : FnScope n_thawed_frames ["value"] (defScope s_thawed_frames) := ⟨rfl, rfl, rfl, by decide +kernel, rfl, by decide +kernel, by decide +kernel⟩
abbrev s__law_cell : Stmt := top 12
abbrev n__law_cell : List Str := ["script", "k"]
theorem sc__law_cell : FnScope n__law_cell ["script", "k"] (defScope s__law_cell) := ⟨rfl, rfl, rfl, by decide +kernel, rfl, by decide +kernel, by decide +kernel⟩
abbrev s__law_row : Stmt := top 13
abbrev n__law_row : List Str := ["cell", "count", "size", "numbers", "rest", "k", "mixed"]
theorem sc__law_row : FnScope n__law_row ["cell", "count", "size"] (defScope s__law_row) := ⟨rfl, rfl, rfl, by decide +kernel, rfl, by decide +kernel, by decide +kernel⟩
abbrev s__law_same : Stmt := top 14
abbrev n__law_same : List Str := ["actual", "expected", "k"]
theorem sc__law_same : FnScope n__law_same ["actual", "expected"] (defScope s__law_same) := ⟨rfl, rfl, rfl, by decide +kernel, rfl, by decide +kernel, by decide +kernel⟩
abbrev s__law_shuffled : Stmt := top 15
abbrev n__law_shuffled : List Str := ["cell", "count", "rest", "numbers", "order", "k"]
theorem sc__law_shuffled : FnScope n__law_shuffled ["cell", "count"] (defScope s__law_shuffled) := ⟨rfl, rfl, rfl, by decide +kernel, rfl, by decide +kernel, by decide +kernel⟩
abbrev s__law_content : Stmt := top 16
abbrev n__law_content : List Str := ["word", "j"]
theorem sc__law_content : FnScope n__law_content ["word"] (defScope s__law_content) := ⟨rfl, rfl, rfl, by decide +kernel, rfl, by decide +kernel, by decide +kernel⟩
abbrev s__law_filled : Stmt := top 17
abbrev n__law_filled : List Str := ["side", "frame", "word", "content", "words", "order"]
theorem sc__law_filled : FnScope n__law_filled ["side", "frame", "word"] (defScope s__law_filled) := ⟨rfl, rfl, rfl, by decide +kernel, rfl, by decide +kernel, by decide +kernel⟩
abbrev s__law_begun : Stmt := top 18
abbrev n__law_begun : List Str := ["size", "cell", "seed", "side", "frame"]
theorem sc__law_begun : FnScope n__law_begun ["size", "cell", "seed"] (defScope s__law_begun) := ⟨rfl, rfl, rfl, by decide +kernel, rfl, by decide +kernel, by decide +kernel⟩
abbrev s__law_emptied : Stmt := top 19
abbrev n__law_emptied : List Str := ["side", "frame", "order", "words"]
theorem sc__law_emptied : FnScope n__law_emptied ["side", "frame"] (defScope s__law_emptied) := ⟨rfl, rfl, rfl, by decide +kernel, rfl, by decide +kernel, by decide +kernel⟩
abbrev s__law_resized : Stmt := top 20
abbrev n__law_resized : List Str := ["side", "count", "frames", "words", "due", "frame", "told", "busy", "k"]
theorem sc__law_resized : FnScope n__law_resized ["side", "count"] (defScope s__law_resized) := ⟨rfl, rfl, rfl, by decide +kernel, rfl, by decide +kernel, by decide +kernel⟩
abbrev s__law_done : Stmt := top 21
abbrev n__law_done : List Str := ["side", "kind", "frame", "at", "word", "frames", "words", "order", "content", "step", "looks"]
theorem sc__law_done : FnScope n__law_done ["side", "kind", "frame", "at", "word"] (defScope s__law_done) := ⟨rfl, rfl, rfl, by decide +kernel, rfl, by decide +kernel, by decide +kernel⟩
abbrev s__law_agrees : Stmt := top 22
abbrev n__law_agrees : List Str := ["side", "whole", "frames", "words", "order", "oldest", "free", "frame"]
theorem sc__law_agrees : FnScope n__law_agrees ["side", "whole"] (defScope s__law_agrees) := ⟨rfl, rfl, rfl, by decide +kernel, rfl, by decide +kernel, by decide +kernel⟩
abbrev s_law : Stmt := top 23
abbrev n_law : List Str := ["script", "shape", "sizes", "sides", "k", "side", "many", "deeds", "before", "expected", "frame", "number"]
theorem sc_law : FnScope n_law ["script"] (defScope s_law) := ⟨rfl, rfl, rfl, by decide +kernel, rfl, by decide +kernel, by decide +kernel⟩
/-- where the classes and defs stand -/
structure Ad where
  C_HostBusy : Addr
  C_Frames : Addr
  f_HostBusy___init__ : Addr
  f_check_range : Addr
  f_Frames___init__ : Addr
  f_Frames_size : Addr
  f_Frames_in_use : Addr
  f_Frames__check : Addr
  f_Frames__use : Addr
  f_Frames_free_frame : Addr
  f_Frames_order : Addr
  f_Frames_oldest : Addr
  f_Frames_fill : Addr
  f_Frames_words : Addr
  f_Frames_word : Addr
  f_Frames_set_word : Addr
  f_Frames_touch : Addr
  f_Frames_empty : Addr
  f_Frames_resize : Addr
  f_Frames_frozen : Addr
  f_thawed_frames : Addr
  f__law_cell : Addr
  f__law_row : Addr
  f__law_same : Addr
  f__law_shuffled : Addr
  f__law_content : Addr
  f__law_filled : Addr
  f__law_begun : Addr
  f__law_emptied : Addr
  f__law_resized : Addr
  f__law_done : Addr
  f__law_agrees : Addr
  f_law : Addr
/-- the attributes of a Frames -/
def fl_Frames (v0 v1 v2 : V) : List (Str × V) := (putF "_latest" v2 (putF "_stamps" v1 (putF "_contents" v0 [])))
theorem ne_Frames_0_1 : ¬ (("_contents" : Str) = "_stamps") := by decide +kernel
theorem ne_Frames_0_2 : ¬ (("_contents" : Str) = "_latest") := by decide +kernel
theorem ne_Frames_1_2 : ¬ (("_stamps" : Str) = "_latest") := by decide +kernel
theorem fl_Frames_eq (v0 v1 v2 : V) : fl_Frames v0 v1 v2 = ([("_contents", v0), ("_stamps", v1), ("_latest", v2)] : List (Str × V)) := by
  simp [fl_Frames, putF, ne_Frames_0_1, ne_Frames_0_2, ne_Frames_1_2]
theorem lk_Frames_0 {v0 v1 v2 : V} : (fl_Frames v0 v1 v2).lookup ("_contents" : Str) = some v0 := by
  unfold fl_Frames; rw [lookup_putF, if_neg ne_Frames_0_2]; rw [lookup_putF, if_neg ne_Frames_0_1]; rw [lookup_putF, if_pos rfl]
theorem pu_Frames_0 {v0 v1 v2 w : V} : putF "_contents" w (fl_Frames v0 v1 v2) = fl_Frames w v1 v2 := by
  rw [fl_Frames_eq, fl_Frames_eq]; simp [putF, ne_Frames_0_1, Ne.symm ne_Frames_0_1, ne_Frames_0_2, Ne.symm ne_Frames_0_2, ne_Frames_1_2, Ne.symm ne_Frames_1_2]
theorem lk_Frames_1 {v0 v1 v2 : V} : (fl_Frames v0 v1 v2).lookup ("_stamps" : Str) = some v1 := by
  unfold fl_Frames; rw [lookup_putF, if_neg ne_Frames_1_2]; rw [lookup_putF, if_pos rfl]
theorem pu_Frames_1 {v0 v1 v2 w : V} : putF "_stamps" w (fl_Frames v0 v1 v2) = fl_Frames v0 w v2 := by
  rw [fl_Frames_eq, fl_Frames_eq]; simp [putF, ne_Frames_0_1, Ne.symm ne_Frames_0_1, ne_Frames_0_2, Ne.symm ne_Frames_0_2, ne_Frames_1_2, Ne.symm ne_Frames_1_2]
theorem lk_Frames_2 {v0 v1 v2 : V} : (fl_Frames v0 v1 v2).lookup ("_latest" : Str) = some v2 := by
  unfold fl_Frames; rw [lookup_putF, if_pos rfl]
theorem pu_Frames_2 {v0 v1 v2 w : V} : putF "_latest" w (fl_Frames v0 v1 v2) = fl_Frames v0 v1 w := by
  rw [fl_Frames_eq, fl_Frames_eq]; simp [putF, ne_Frames_0_1, Ne.symm ne_Frames_0_1, ne_Frames_0_2, Ne.symm ne_Frames_0_2, ne_Frames_1_2, Ne.symm ne_Frames_1_2]
theorem ln_Frames {v0 v1 v2 : V} : (fl_Frames v0 v1 v2).length = 3 := by rw [fl_Frames_eq]; rfl
theorem no_Frames {v0 v1 v2 : V} {m : Str} (h0 : ¬ m = "_contents") (h1 : ¬ m = "_stamps") (h2 : ¬ m = "_latest") : (fl_Frames v0 v1 v2).lookup m = none := by
  unfold fl_Frames; rw [lookup_putF, if_neg h2]; rw [lookup_putF, if_neg h1]; rw [lookup_putF, if_neg h0]; rfl
theorem nm_Frames_size {v0 v1 v2 : V} : (fl_Frames v0 v1 v2).lookup ("size" : Str) = none := no_Frames (by decide +kernel) (by decide +kernel) (by decide +kernel)
theorem nm_Frames_in_use {v0 v1 v2 : V} : (fl_Frames v0 v1 v2).lookup ("in_use" : Str) = none := no_Frames (by decide +kernel) (by decide +kernel) (by decide +kernel)
theorem nm_Frames__check {v0 v1 v2 : V} : (fl_Frames v0 v1 v2).lookup ("_check" : Str) = none := no_Frames (by decide +kernel) (by decide +kernel) (by decide +kernel)
theorem nm_Frames__use {v0 v1 v2 : V} : (fl_Frames v0 v1 v2).lookup ("_use" : Str) = none := no_Frames (by decide +kernel) (by decide +kernel) (by decide +kernel)
theorem nm_Frames_free_frame {v0 v1 v2 : V} : (fl_Frames v0 v1 v2).lookup ("free_frame" : Str) = none := no_Frames (by decide +kernel) (by decide +kernel) (by decide +kernel)
theorem nm_Frames_order {v0 v1 v2 : V} : (fl_Frames v0 v1 v2).lookup ("order" : Str) = none := no_Frames (by decide +kernel) (by decide +kernel) (by decide +kernel)
theorem nm_Frames_oldest {v0 v1 v2 : V} : (fl_Frames v0 v1 v2).lookup ("oldest" : Str) = none := no_Frames (by decide +kernel) (by decide +kernel) (by decide +kernel)
theorem nm_Frames_fill {v0 v1 v2 : V} : (fl_Frames v0 v1 v2).lookup ("fill" : Str) = none := no_Frames (by decide +kernel) (by decide +kernel) (by decide +kernel)
theorem nm_Frames_words {v0 v1 v2 : V} : (fl_Frames v0 v1 v2).lookup ("words" : Str) = none := no_Frames (by decide +kernel) (by decide +kernel) (by decide +kernel)
theorem nm_Frames_word {v0 v1 v2 : V} : (fl_Frames v0 v1 v2).lookup ("word" : Str) = none := no_Frames (by decide +kernel) (by decide +kernel) (by decide +kernel)
theorem nm_Frames_set_word {v0 v1 v2 : V} : (fl_Frames v0 v1 v2).lookup ("set_word" : Str) = none := no_Frames (by decide +kernel) (by decide +kernel) (by decide +kernel)
theorem nm_Frames_touch {v0 v1 v2 : V} : (fl_Frames v0 v1 v2).lookup ("touch" : Str) = none := no_Frames (by decide +kernel) (by decide +kernel) (by decide +kernel)
theorem nm_Frames_empty {v0 v1 v2 : V} : (fl_Frames v0 v1 v2).lookup ("empty" : Str) = none := no_Frames (by decide +kernel) (by decide +kernel) (by decide +kernel)
theorem nm_Frames_resize {v0 v1 v2 : V} : (fl_Frames v0 v1 v2).lookup ("resize" : Str) = none := no_Frames (by decide +kernel) (by decide +kernel) (by decide +kernel)
theorem nm_Frames_frozen {v0 v1 v2 : V} : (fl_Frames v0 v1 v2).lookup ("frozen" : Str) = none := no_Frames (by decide +kernel) (by decide +kernel) (by decide +kernel)
/-- what the walk asks of the classes as the top has made them -/
structure Cl (K : PySem.W.Frag) (a : Ad) : Prop where
  ok : True
  cl_Frames : Cls K a.C_Frames
  na_Frames__contents : NoAttr K a.C_Frames "_contents"
  na_Frames__stamps : NoAttr K a.C_Frames "_stamps"
  na_Frames__latest : NoAttr K a.C_Frames "_latest"
  oex_HostBusy : OexC K a.C_HostBusy
  xf_HostBusy : XfC K a.C_HostBusy
  nf_HostBusy_number : PySem.W.findIn K (.ref a.C_HostBusy) "number" = some none
  ex_HostBusy : PySem.W.exmOne K (.ref a.C_HostBusy) (.ref a.C_HostBusy) = some true
end K60

namespace K60
open PySem L2 Lh
/-! ### the frames as data -/
structure Fr where
  cont : List (Option (List Int))
  stm : List Int
  lat : Int
namespace Fr
def use (F : Fr) (i : Nat) : Fr := { F with lat := F.lat + 1, stm := F.stm.set i (F.lat + 1) }
def put (F : Fr) (i : Nat) (o : Option (List Int)) : Fr := { F with cont := F.cont.set i o }
def fill (F : Fr) (i : Nat) (ws : List Int) : Fr := (F.put i (some ws)).use i
def clear (F : Fr) (i : Nat) : Fr := { F with cont := F.cont.set i none, stm := F.stm.set i 0 }
def size (F : Fr) (n : Nat) : Fr := { F with cont := F.cont.take n ++ List.replicate (n - F.cont.length) none, stm := F.stm.take n ++ List.replicate (n - F.cont.length) 0 }
def at_ (F : Fr) (i : Nat) : Int := F.stm.getD i 0
end Fr
/-- the order of use -/
structure Ord (F : Fr) (O : List Nat) : Prop where
  nd : O.Nodup
  mem : ∀ i : Nat, i ∈ O ↔ ∃ ws, F.cont[i]? = some (some ws)
  srt : O.Pairwise fun i j => F.at_ i < F.at_ j
  le : ∀ i ∈ O, F.at_ i ≤ F.lat
  sl : F.stm.length = F.cont.length
def intL (O : List Nat) : List V := O.map fun i => .int (i : Nat)
def intsL (ws : List Int) : List V := ws.map .int
/-- a Frames, owner k, stands at p -/
structure FrAt (a : Ad) (L : Lb) (k : Nat) (H : Hp) (p : Addr) (F : Fr) (c t : Addr) (qs : List (Option Addr)) : Prop where
  lp : L p = some (k, 0, 0)
  lc : L c = some (k, 1, 0)
  lt : L t = some (k, 2, 0)
  ob : ∃ dx, H p = some (.ins a.C_Frames dx (fl_Frames (.ref c) (.ref t) (.int F.lat)))
  hc : H c = some (.lst (qs.map oV))
  ht : H t = some (.lst (F.stm.map .int))
  ls : F.stm.length = F.cont.length
  hq : OLs L H k 3 qs F.cont
  wf : ∀ ws, some ws ∈ F.cont → ws.length = 16
  s1 : 1 ≤ F.cont.length
  s48 : F.cont.length ≤ 48
def FrA (a : Ad) (L : Lb) (k : Nat) (H : Hp) (p : Addr) (F : Fr) : Prop := ∃ c t qs, FrAt a L k H p F c t qs
/-! ### promises: the program -/
def pr_HostBusy___init__ (K : PySem.W.Frag) (a : Ad) : V → V → Hp → VK → XK → Prop := prExc a.C_HostBusy "number"
def pr_check_range (K : PySem.W.Frag) (a : Ad) : V → V → V → Hp → VK → XK → Prop := fun x y z H Q _ => ∃ v l h : Int, x = .int v ∧ y = .int l ∧ z = .int h ∧ l ≤ v ∧ v ≤ h ∧ Q .non H
def pr_Frames___init__ (K : PySem.W.Frag) (a : Ad) : V → V → Hp → VK → XK → Prop := fun x y H Q _ => ∃ (p dx : Addr) (n : Nat), x = .ref p ∧ y = .int (n : Nat) ∧ 1 ≤ n ∧ n ≤ 48 ∧ H p = some (.ins a.C_Frames dx []) ∧
  ∀ (c t : Addr) (H' : Hp), H c = none → H t = none → c ≠ t → (∀ b o, H b = some o → b ≠ p → H' b = some o) → H' p = some (.ins a.C_Frames dx (fl_Frames (.ref c) (.ref t) (.int 0))) → H' c = some (.lst (List.replicate n .non)) → H' t = some (.lst (List.replicate n (.int 0))) → Q .non H'
def pr_Frames_size (K : PySem.W.Frag) (a : Ad) : V → Hp → VK → XK → Prop := fun x H Q _ => ∃ p L k F, x = .ref p ∧ FrA a L k H p F ∧ Q (.int (F.cont.length : Nat)) H
def pr_Frames_in_use (K : PySem.W.Frag) (a : Ad) : V → V → Hp → VK → XK → Prop := fun x y H Q _ => ∃ (p : Addr) (i : Nat) (L : Lb) (k : Nat) (F : Fr) (o : Option (List Int)), x = .ref p ∧ y = .int (i : Nat) ∧ FrA a L k H p F ∧ F.cont[i]? = some o ∧ Q (.bl o.isSome) H
def pr_Frames__check (K : PySem.W.Frag) (a : Ad) : V → V → Hp → VK → XK → Prop := fun x y H Q _ => ∃ (p : Addr) (i : Nat) (L : Lb) (k : Nat) (F : Fr) (ws : List Int), x = .ref p ∧ y = .int (i : Nat) ∧ FrA a L k H p F ∧ F.cont[i]? = some (some ws) ∧ Q .non H
def pr_Frames__use (K : PySem.W.Frag) (a : Ad) : V → V → Hp → VK → XK → Prop := fun x y H Q _ => ∃ (p : Addr) (i : Nat) (L : Lb) (k : Nat) (F : Fr), x = .ref p ∧ y = .int (i : Nat) ∧ Lab H L ∧ FrA a L k H p F ∧ i < F.cont.length ∧
  ∀ H', Stp (· = k) H L H' L → FrA a L k H' p (F.use i) → Q .non H'
/-- the least free frame -/
def least (cs : List (Option (List Int))) : Int := match cs.findIdx? (·.isNone) with
  | some i => (i : Nat)
  | none => -1
def pr_Frames_free_frame (K : PySem.W.Frag) (a : Ad) : V → Hp → VK → XK → Prop := fun x H Q _ => ∃ (p : Addr) (L : Lb) (k : Nat) (F : Fr), x = .ref p ∧ FrA a L k H p F ∧ ∀ H', Same H H' → Q (.int (least F.cont)) H'
def pr_Frames_order (K : PySem.W.Frag) (a : Ad) : V → Hp → VK → XK → Prop := fun x H Q _ => ∃ (p : Addr) (L : Lb) (k : Nat) (F : Fr) (O : List Nat), x = .ref p ∧ FrA a L k H p F ∧ Ord F O ∧
  ∀ q H', H q = none → Same H H' → H' q = some (.tup (intL O)) → Q (.ref q) H'
def first (O : List Nat) : Int := match O with
  | [] => -1
  | i :: _ => (i : Nat)
def pr_Frames_oldest (K : PySem.W.Frag) (a : Ad) : V → Hp → VK → XK → Prop := fun x H Q _ => ∃ (p : Addr) (L : Lb) (k : Nat) (F : Fr) (O : List Nat), x = .ref p ∧ FrA a L k H p F ∧ Ord F O ∧ ∀ H', Same H H' → Q (.int (first O)) H'
def pr_Frames_fill (K : PySem.W.Frag) (a : Ad) : V → V → V → Hp → VK → XK → Prop := fun x y z H Q _ => ∃ (p : Addr) (i : Nat) (w : Addr) (ws : List Int) (L : Lb) (k : Nat) (F : Fr), x = .ref p ∧ y = .int (i : Nat) ∧ z = .ref w ∧ Lab H L ∧ FrA a L k H p F ∧
  F.cont[i]? = some none ∧ ws.length = 16 ∧ H w = some (.tup (intsL ws)) ∧ ∀ H' L', Stp (· = k) H L H' L' → FrA a L' k H' p (F.fill i ws) → Q .non H'
def pr_Frames_words (K : PySem.W.Frag) (a : Ad) : V → V → Hp → VK → XK → Prop := fun x y H Q _ => ∃ (p : Addr) (i : Nat) (L : Lb) (k : Nat) (F : Fr) (ws : List Int), x = .ref p ∧ y = .int (i : Nat) ∧ FrA a L k H p F ∧ F.cont[i]? = some (some ws) ∧
  ∀ q H', H q = none → Same H H' → H' q = some (.tup (intsL ws)) → Q (.ref q) H'
def pr_Frames_word (K : PySem.W.Frag) (a : Ad) : V → V → V → Hp → VK → XK → Prop := fun x y z H Q _ => ∃ (p : Addr) (i at_ : Nat) (L : Lb) (k : Nat) (F : Fr) (ws : List Int) (u : Int), x = .ref p ∧ y = .int (i : Nat) ∧ z = .int (at_ : Nat) ∧ FrA a L k H p F ∧ F.cont[i]? = some (some ws) ∧
  ws[at_]? = some u ∧ Q (.int u) H
def pr_Frames_set_word (K : PySem.W.Frag) (a : Ad) : V → V → V → V → Hp → VK → XK → Prop := fun x y z u H Q _ => ∃ (p : Addr) (i at_ : Nat) (wd : Int) (L : Lb) (k : Nat) (F : Fr) (ws : List Int), x = .ref p ∧ y = .int (i : Nat) ∧ z = .int (at_ : Nat) ∧ u = .int wd ∧ Lab H L ∧ FrA a L k H p F ∧ F.cont[i]? = some (some ws) ∧
  at_ < 16 ∧ ∀ H', Stp (· = k) H L H' L → FrA a L k H' p ((F.put i (some (ws.set at_ wd))).use i) → Q .non H'
def pr_Frames_touch (K : PySem.W.Frag) (a : Ad) : V → V → Hp → VK → XK → Prop := fun x y H Q _ => ∃ (p : Addr) (i : Nat) (L : Lb) (k : Nat) (F : Fr) (ws : List Int), x = .ref p ∧ y = .int (i : Nat) ∧ Lab H L ∧ FrA a L k H p F ∧ F.cont[i]? = some (some ws) ∧
  ∀ H', Stp (· = k) H L H' L → FrA a L k H' p (F.use i) → Q .non H'
def pr_Frames_empty (K : PySem.W.Frag) (a : Ad) : V → V → Hp → VK → XK → Prop := fun x y H Q _ => ∃ (p : Addr) (i : Nat) (L : Lb) (k : Nat) (F : Fr) (ws : List Int), x = .ref p ∧ y = .int (i : Nat) ∧ Lab H L ∧ FrA a L k H p F ∧ F.cont[i]? = some (some ws) ∧
  ∀ H', Stp (· = k) H L H' L → FrA a L k H' p (F.clear i) → Q .non H'
/-- the least frame from n on that is in use -/
def used (F : Fr) (n : Nat) (i : Nat) : Prop := n ≤ i ∧ (∃ ws, F.cont[i]? = some (some ws)) ∧ ∀ j, n ≤ j → j < i → F.cont[j]? = some none
def pr_Frames_resize (K : PySem.W.Frag) (a : Ad) : V → V → Hp → VK → XK → Prop := fun x y H Q E => ∃ (p : Addr) (n : Nat) (L : Lb) (k : Nat) (F : Fr), x = .ref p ∧ y = .int (n : Nat) ∧ Lab H L ∧ FrA a L k H p F ∧ 1 ≤ n ∧ n ≤ 48 ∧
  (∀ i, used F n i → ∀ d H', H d = none → Same H H' → H' d = some (.xd [("number", .int (i : Nat))]) → E (.ref a.C_HostBusy) (some d) H') ∧
  ((∀ i, ¬ used F n i) → ∀ H', Stp (· = k) H L H' L → FrA a L k H' p (F.size n) → Q .non H')
/-- a row of contents as tuples -/
structure OTs (H : Hp) (vs : List V) (cs : List (Option (List Int))) : Prop where
  len : vs.length = cs.length
  no : ∀ i : Nat, cs[i]? = some none → vs[i]? = some .non
  yes : ∀ (i : Nat) ws, cs[i]? = some (some ws) → ∃ q, vs[i]? = some (.ref q) ∧ H q = some (.tup (intsL ws))
/-- a frozen value -/
def FzAt (H : Hp) (v : Addr) (cs : List (Option (List Int))) (O : List Nat) : Prop := ∃ ct ot vs, H v = some (.tup [.ref ct, .ref ot]) ∧ H ct = some (.tup vs) ∧ OTs H vs cs ∧ H ot = some (.tup (intL O))
def pr_Frames_frozen (K : PySem.W.Frag) (a : Ad) : V → Hp → VK → XK → Prop := fun x H Q _ => ∃ (p : Addr) (L : Lb) (k : Nat) (F : Fr) (O : List Nat), x = .ref p ∧ FrA a L k H p F ∧ Ord F O ∧
  ∀ q H', Same H H' → FzAt H' q F.cont O → Q (.ref q) H'
def pr_thawed_frames (K : PySem.W.Frag) (a : Ad) : V → Hp → VK → XK → Prop := fun x H Q _ => ∃ (v : Addr) (F : Fr) (O : List Nat) (L : Lb) (k : Nat), x = .ref v ∧ Lab H L ∧ FzAt H v F.cont O ∧ Ord F O ∧ 1 ≤ F.cont.length ∧ F.cont.length ≤ 48 ∧ (∀ ws, some ws ∈ F.cont → ws.length = 16) ∧
  ∀ p F' H' L', Stp (· = k) H L H' L' → H p = none → FrA a L' k H' p F' → F'.cont = F.cont → Ord F' O → Q (.ref p) H'
/-! ### promises: what all laws share -/
def pr__law_cell (K : PySem.W.Frag) (a : Ad) : V → V → Hp → VK → XK → Prop := fun x y H Q _ => ∃ (s : Addr) (ns : List Int) (k : Nat), x = .ref s ∧ y = .int (k : Nat) ∧ SqL K H s (ns.map .int) ∧ ∀ z : Int, Q (.int z) H
def pr__law_row (K : PySem.W.Frag) (a : Ad) : V → V → V → Hp → VK → XK → Prop := fun x y z H Q _ => ∃ (c : Int) (n : Nat) (m : Int), x = .int c ∧ y = .int (n : Nat) ∧ z = .int m ∧ n ≤ 1000 ∧ 0 < m ∧ m < 1073741824 ∧
  ∀ (ns : List Int) (p : Addr) (H' : Hp), ns.length = n → (∀ u ∈ ns, 0 ≤ u ∧ u < m) → H p = none → Same H H' → H' p = some (.lst (intsL ns)) → Q (.ref p) H'
/-- tuples of None, ints, bools, texts, nested at most d deep -/
def flatD : Nat → PyData → Prop
  | 0, _ => False
  | d + 1, .tuple ds => ds.length ≤ 1000 ∧ ∀ x ∈ ds, flatD d x
  | _ + 1, .none => True
  | _ + 1, .bool _ => True
  | _ + 1, .int _ => True
  | _ + 1, .str _ => True
  | _ + 1, _ => False
def pr__law_same (K : PySem.W.Frag) (a : Ad) (d : Nat) : V → V → Hp → VK → XK → Prop := fun x y H Q _ => ∃ D, flatD d D ∧ Dp K H x D ∧ Dp K H y D ∧ Q (.bl true) H
def pr__law_shuffled (K : PySem.W.Frag) (a : Ad) : V → V → Hp → VK → XK → Prop := fun x y H Q _ => ∃ (c : Int) (n : Nat), x = .int c ∧ y = .int (n : Nat) ∧ n ≤ 1000 ∧
  ∀ (O : List Nat) (p : Addr) (H' : Hp), O.Perm (List.range n) → H p = none → Same H H' → H' p = some (.lst (intL O)) → Q (.ref p) H'
/-! ### promises: this law -/
def pr__law_content (K : PySem.W.Frag) (a : Ad) : V → Hp → VK → XK → Prop := fun x H Q _ => ∃ (w : Int), x = .int w ∧ ∀ (ws : List Int) (p : Addr) (H' : Hp), ws.length = 16 → H p = none → Same H H' → H' p = some (.lst (intsL ws)) → Q (.ref p) H'
def sdD (p w o : Addr) : List (Key × V) := putK (putK (putK [] (.inr "frames") (.ref p)) (.inr "words") (.ref w)) (.inr "order") (.ref o)
/-- a side: its frames of owner kf, the law's own row of owner kl -/
structure SdAt (a : Ad) (L : Lb) (kf kl : Nat) (H : Hp) (s p : Addr) (F : Fr) (O : List Nat) (w o : Addr) (qs : List (Option Addr)) : Prop where
  ls : L s = some (kl, 0, 0)
  lw : L w = some (kl, 1, 0)
  lo : L o = some (kl, 2, 0)
  hs : H s = some (.dK (sdD p w o))
  hw : H w = some (.lst (qs.map oV))
  hq : OLs L H kl 3 qs F.cont
  ho : H o = some (.lst (intL O))
  fr : FrA a L kf H p F
  ord : Ord F O
  ne : kf ≠ kl
def SdA (a : Ad) (L : Lb) (kf kl : Nat) (H : Hp) (s p : Addr) (F : Fr) (O : List Nat) : Prop := ∃ w o qs, SdAt a L kf kl H s p F O w o qs
abbrev Two (k l : Nat) : Nat → Prop := fun o => o = k ∨ o = l
def pr__law_filled (K : PySem.W.Frag) (a : Ad) : V → V → V → Hp → VK → XK → Prop := fun x y z H Q _ => ∃ (s : Addr) (i : Nat) (wd : Int) (L : Lb) (kf kl : Nat) (p : Addr) (F : Fr) (O : List Nat), x = .ref s ∧ y = .int (i : Nat) ∧ z = .int wd ∧ Lab H L ∧ SdA a L kf kl H s p F O ∧ F.cont[i]? = some none ∧
  ∀ ws H' L', ws.length = 16 → Stp (Two kf kl) H L H' L' → SdA a L' kf kl H' s p (F.fill i ws) (O ++ [i]) → Q (.bl true) H'
def pr__law_begun (K : PySem.W.Frag) (a : Ad) : V → V → V → Hp → VK → XK → Prop := fun x y z H Q _ => ∃ (n : Nat) (c sd : Int) (L : Lb) (kf kl : Nat), x = .int (n : Nat) ∧ y = .int c ∧ z = .int sd ∧ 1 ≤ n ∧ n ≤ 48 ∧ Lab H L ∧ kf ≠ kl ∧
  ∀ s p F O H' L', Stp (Two kf kl) H L H' L' → SdA a L' kf kl H' s p F O → F.cont.length = n → H s = none → Q (.ref s) H'
def pr__law_emptied (K : PySem.W.Frag) (a : Ad) : V → V → Hp → VK → XK → Prop := fun x y H Q _ => ∃ (s : Addr) (i : Nat) (L : Lb) (kf kl : Nat) (p : Addr) (F : Fr) (O : List Nat) (ws : List Int) (w o : Addr), x = .ref s ∧ y = .int (i : Nat) ∧ Lab H L ∧ (∃ qs, SdAt a L kf kl H s p F O w o qs) ∧ F.cont[i]? = some (some ws) ∧
  ∀ H', Stp (Two kf kl) H L H' L → (∃ qs, SdAt a L kf kl H' s p (F.clear i) (O.erase i) w o qs) → Q (.bl true) H'
def pr__law_resized (K : PySem.W.Frag) (a : Ad) : V → V → Hp → VK → XK → Prop := fun x y H Q _ => ∃ (s : Addr) (n : Nat) (L : Lb) (kf kl : Nat) (p : Addr) (F : Fr) (O : List Nat), x = .ref s ∧ y = .int (n : Nat) ∧ Lab H L ∧ SdA a L kf kl H s p F O ∧ 1 ≤ n ∧ n ≤ 48 ∧
  ∀ F' O' H', Stp (Two kf kl) H L H' L → SdA a L kf kl H' s p F' O' → Q (.bl true) H'
def pr__law_done (K : PySem.W.Frag) (a : Ad) : V → V → V → V → V → Hp → VK → XK → Prop := fun x y z u v H Q _ => ∃ (s : Addr) (kd : Int) (i at_ : Nat) (wd : Int) (L : Lb) (kf kl : Nat) (p : Addr) (F : Fr) (O : List Nat), x = .ref s ∧ y = .int kd ∧ z = .int (i : Nat) ∧ u = .int (at_ : Nat) ∧ v = .int wd ∧ Lab H L ∧
  SdA a L kf kl H s p F O ∧ i < F.cont.length ∧ at_ < 16 ∧ ∀ F' O' H' L', Stp (Two kf kl) H L H' L' → SdA a L' kf kl H' s p F' O' → Q (.bl true) H'
def pr__law_agrees (K : PySem.W.Frag) (a : Ad) : V → V → Hp → VK → XK → Prop := fun x y H Q _ => ∃ (s : Addr) (b : Bool) (L : Lb) (kf kl : Nat) (p : Addr) (F : Fr) (O : List Nat), x = .ref s ∧ y = .bl b ∧ Lab H L ∧ SdA a L kf kl H s p F O ∧ ∀ H', Same H H' → Q (.bl true) H'
def prLaw (K : PySem.W.Frag) : V → Hp → VK → XK → Prop := fun x H Q _ => ∃ (s : Addr) (ns : List Int), x = .ref s ∧ SqL K H s (ns.map .int) ∧ ns.length ≤ 63 ∧ ∀ H', Q (.bl true) H'
def pr_law (K : PySem.W.Frag) (a : Ad) : V → Hp → VK → XK → Prop := prLaw K
end K60

namespace K60
open PySem L2 Lh
def sp_HostBusy___init__ (K : PySem.W.Frag) (a : Ad) : Sp := sp2 (pr_HostBusy___init__ K a)
def sp_check_range (K : PySem.W.Frag) (a : Ad) : Sp := sp3 (pr_check_range K a)
def sp_Frames___init__ (K : PySem.W.Frag) (a : Ad) : Sp := sp2 (pr_Frames___init__ K a)
def sp_Frames_size (K : PySem.W.Frag) (a : Ad) : Sp := sp1 (pr_Frames_size K a)
def sp_Frames_in_use (K : PySem.W.Frag) (a : Ad) : Sp := sp2 (pr_Frames_in_use K a)
def sp_Frames__check (K : PySem.W.Frag) (a : Ad) : Sp := sp2 (pr_Frames__check K a)
def sp_Frames__use (K : PySem.W.Frag) (a : Ad) : Sp := sp2 (pr_Frames__use K a)
def sp_Frames_free_frame (K : PySem.W.Frag) (a : Ad) : Sp := sp1 (pr_Frames_free_frame K a)
def sp_Frames_order (K : PySem.W.Frag) (a : Ad) : Sp := sp1 (pr_Frames_order K a)
def sp_Frames_oldest (K : PySem.W.Frag) (a : Ad) : Sp := sp1 (pr_Frames_oldest K a)
def sp_Frames_fill (K : PySem.W.Frag) (a : Ad) : Sp := sp3 (pr_Frames_fill K a)
def sp_Frames_words (K : PySem.W.Frag) (a : Ad) : Sp := sp2 (pr_Frames_words K a)
def sp_Frames_word (K : PySem.W.Frag) (a : Ad) : Sp := sp3 (pr_Frames_word K a)
def sp_Frames_set_word (K : PySem.W.Frag) (a : Ad) : Sp := sp4 (pr_Frames_set_word K a)
def sp_Frames_touch (K : PySem.W.Frag) (a : Ad) : Sp := sp2 (pr_Frames_touch K a)
def sp_Frames_empty (K : PySem.W.Frag) (a : Ad) : Sp := sp2 (pr_Frames_empty K a)
def sp_Frames_resize (K : PySem.W.Frag) (a : Ad) : Sp := sp2 (pr_Frames_resize K a)
def sp_Frames_frozen (K : PySem.W.Frag) (a : Ad) : Sp := sp1 (pr_Frames_frozen K a)
def sp_thawed_frames (K : PySem.W.Frag) (a : Ad) : Sp := sp1 (pr_thawed_frames K a)
def sp__law_cell (K : PySem.W.Frag) (a : Ad) : Sp := sp2 (pr__law_cell K a)
def sp__law_row (K : PySem.W.Frag) (a : Ad) : Sp := sp3 (pr__law_row K a)
def sp__law_same (K : PySem.W.Frag) (a : Ad) (d : Nat) : Sp := sp2 (pr__law_same K a d)
def sp__law_shuffled (K : PySem.W.Frag) (a : Ad) : Sp := sp2 (pr__law_shuffled K a)
def sp__law_content (K : PySem.W.Frag) (a : Ad) : Sp := sp1 (pr__law_content K a)
def sp__law_filled (K : PySem.W.Frag) (a : Ad) : Sp := sp3 (pr__law_filled K a)
def sp__law_begun (K : PySem.W.Frag) (a : Ad) : Sp := sp3 (pr__law_begun K a)
def sp__law_emptied (K : PySem.W.Frag) (a : Ad) : Sp := sp2 (pr__law_emptied K a)
def sp__law_resized (K : PySem.W.Frag) (a : Ad) : Sp := sp2 (pr__law_resized K a)
def sp__law_done (K : PySem.W.Frag) (a : Ad) : Sp := sp5 (pr__law_done K a)
def sp__law_agrees (K : PySem.W.Frag) (a : Ad) : Sp := sp2 (pr__law_agrees K a)
def sp_law (K : PySem.W.Frag) (a : Ad) : Sp := sp1 (pr_law K a)
def t_HostBusy___init__ (K : PySem.W.Frag) (a : Ad) : TS :=
  (tOst K "number" (tVar 0) (tVar 1))
def t_check_range (K : PySem.W.Frag) (a : Ad) : TS :=
  (tIfS (tOr (tTest (tOp rLtI (tVar 0) (tVar 1))) (tTest (tOp rGtI (tVar 0) (tVar 2)))) tNever tNext)
def t_Frames___init__ (K : PySem.W.Frag) (a : Ad) : TS :=
  (tSeq (tDrop (tCall (sp_check_range K a) [] E0 (tCons (tVar 1) (tCons (tC (.int 1)) (tCons (tC (.int 48)) tNil)))))
      (tSeq (sFld K (tVar 0) (tOp rRep (tLst (tCons (tC .non) tNil)) (tVar 1)) "_contents")
      (tSeq (sFld K (tVar 0) (tOp rRep (tLst (tCons (tC (.int 0)) tNil)) (tVar 1)) "_stamps")
      (sFld K (tVar 0) (tC (.int 0)) "_latest"))))
def t_Frames_size (K : PySem.W.Frag) (a : Ad) : TS :=
  (tRet (tCB (rLenS K) (tCons (tFld K (tVar 0) "_contents") tNil)))
def t_Frames_in_use (K : PySem.W.Frag) (a : Ad) : TS :=
  (tSeq (tDrop (tCall (sp_check_range K a) [] E0 (tCons (tVar 1) (tCons (tC (.int 0)) (tCons (tOp rSubI (tCB (rLenS K) (tCons (tFld K (tVar 0) "_contents") tNil)) (tC (.int 1))) tNil)))))
      (tRet (tOp rNotNon (tOp (rIxL K) (tFld K (tVar 0) "_contents") (tVar 1)) (tC .non))))
def t_Frames__check (K : PySem.W.Frag) (a : Ad) : TS :=
  (tIfS (tNot (tB (tMeth a.C_Frames "in_use" (sp_Frames_in_use K a) [] E0 (tVar 0) (tCons (tVar 1) tNil)))) tNever tNext)
def t_Frames__use (K : PySem.W.Frag) (a : Ad) : TS :=
  (tSeq (sFld K (tVar 0) (tOp rAddI (tFld K (tVar 0) "_latest") (tC (.int 1))) "_latest")
      (tAsg (tFld K (tVar 0) "_latest") (gSub (tFld K (tVar 0) "_stamps") (tVar 1) rSetL)))
def t_Frames_free_frame (K : PySem.W.Frag) (a : Ad) : TS :=
  (tSeq (tFor (iEnum K (tCons (tFld K (tVar 0) "_contents") tNil)) (gTup K 2 (gCons (gName 1) (gCons (gName 2) gNil))) (tIfS (tTest (tOp rIsNon (tVar 2) (tC .non))) (tRet (tVar 1)) tNext))
      (tRet (tUn rNegI (tC (.int 1)))))
def t_Frames_order (K : PySem.W.Frag) (a : Ad) : TS :=
  (tSeq (tAsg (tLst tNil) (gName 1))
      (tSeq (tFor (iEnum K (tCons (tFld K (tVar 0) "_contents") tNil)) (gTup K 2 (gCons (gName 2) (gCons (gName 3) gNil))) (tIfS (tTest (tOp rNotNon (tVar 3) (tC .non))) (tDrop (tBM K "list" rAppend (tVar 1) (tCons (tTup (tCons (tOp (rIxL K) (tFld K (tVar 0) "_stamps") (tVar 2)) (tCons (tVar 2) tNil))) tNil))) tNext))
      (tRet (tCB (rTupOf K) (tCons (tLc (iList K (tCB (rSortedPO K) (tCons (tVar 1) tNil))) (gName 4) tYes (tOp (rIxT K) (tVar 4) (tC (.int 1))) [4]) tNil)))))
def t_Frames_oldest (K : PySem.W.Frag) (a : Ad) : TS :=
  (tSeq (tAsg (tUn rNegI (tC (.int 1))) (gName 1))
      (tSeq (tFor (iEnum K (tCons (tFld K (tVar 0) "_contents") tNil)) (gTup K 2 (gCons (gName 2) (gCons (gName 3) gNil))) (tIfS (tAnd (tTest (tOp rNotNon (tVar 3) (tC .non))) (tOr (tTest (tOp rLtI (tVar 1) (tC (.int 0)))) (tTest (tOp rLtI (tOp (rIxL K) (tFld K (tVar 0) "_stamps") (tVar 2)) (tOp (rIxL K) (tFld K (tVar 0) "_stamps") (tVar 1)))))) (tAsg (tVar 2) (gName 1)) tNext))
      (tRet (tVar 1))))
def t_Frames_fill (K : PySem.W.Frag) (a : Ad) : TS :=
  (tSeq (tIfS (tB (tMeth a.C_Frames "in_use" (sp_Frames_in_use K a) [] E0 (tVar 0) (tCons (tVar 1) tNil))) tNever tNext)
      (tSeq (tAsg (tCB (rListOf K) (tCons (tVar 2) tNil)) (gSub (tFld K (tVar 0) "_contents") (tVar 1) rSetL))
      (tDrop (tMeth a.C_Frames "_use" (sp_Frames__use K a) [] E0 (tVar 0) (tCons (tVar 1) tNil)))))
def t_Frames_words (K : PySem.W.Frag) (a : Ad) : TS :=
  (tSeq (tDrop (tMeth a.C_Frames "_check" (sp_Frames__check K a) [] E0 (tVar 0) (tCons (tVar 1) tNil)))
      (tRet (tCB (rTupOf K) (tCons (tOp (rIxL K) (tFld K (tVar 0) "_contents") (tVar 1)) tNil))))
def t_Frames_word (K : PySem.W.Frag) (a : Ad) : TS :=
  (tSeq (tDrop (tMeth a.C_Frames "_check" (sp_Frames__check K a) [] E0 (tVar 0) (tCons (tVar 1) tNil)))
      (tSeq (tDrop (tCall (sp_check_range K a) [] E0 (tCons (tVar 2) (tCons (tC (.int 0)) (tCons (tOp rSubI (tC (.int 16)) (tC (.int 1))) tNil)))))
      (tRet (tOp (rIxL K) (tOp (rIxL K) (tFld K (tVar 0) "_contents") (tVar 1)) (tVar 2)))))
def t_Frames_set_word (K : PySem.W.Frag) (a : Ad) : TS :=
  (tSeq (tDrop (tMeth a.C_Frames "_check" (sp_Frames__check K a) [] E0 (tVar 0) (tCons (tVar 1) tNil)))
      (tSeq (tDrop (tCall (sp_check_range K a) [] E0 (tCons (tVar 2) (tCons (tC (.int 0)) (tCons (tOp rSubI (tC (.int 16)) (tC (.int 1))) tNil)))))
      (tSeq (tAsg (tVar 3) (gSub (tOp (rIxL K) (tFld K (tVar 0) "_contents") (tVar 1)) (tVar 2) rSetL))
      (tDrop (tMeth a.C_Frames "_use" (sp_Frames__use K a) [] E0 (tVar 0) (tCons (tVar 1) tNil))))))
def t_Frames_touch (K : PySem.W.Frag) (a : Ad) : TS :=
  (tSeq (tDrop (tMeth a.C_Frames "_check" (sp_Frames__check K a) [] E0 (tVar 0) (tCons (tVar 1) tNil)))
      (tDrop (tMeth a.C_Frames "_use" (sp_Frames__use K a) [] E0 (tVar 0) (tCons (tVar 1) tNil))))
def t_Frames_empty (K : PySem.W.Frag) (a : Ad) : TS :=
  (tSeq (tDrop (tMeth a.C_Frames "_check" (sp_Frames__check K a) [] E0 (tVar 0) (tCons (tVar 1) tNil)))
      (tSeq (tAsg (tC .non) (gSub (tFld K (tVar 0) "_contents") (tVar 1) rSetL))
      (tAsg (tC (.int 0)) (gSub (tFld K (tVar 0) "_stamps") (tVar 1) rSetL))))
def t_Frames_resize (K : PySem.W.Frag) (a : Ad) (E : XK) : TS :=
  (tSeq (tDrop (tCall (sp_check_range K a) [] E0 (tCons (tVar 1) (tCons (tC (.int 1)) (tCons (tC (.int 48)) tNil)))))
      (tSeq (tFor (iRng2 (tCons (tVar 1) (tCons (tCB (rLenS K) (tCons (tFld K (tVar 0) "_contents") tNil)) tNil))) (gName 2) (tIfS (tTest (tOp rNotNon (tOp (rIxL K) (tFld K (tVar 0) "_contents") (tVar 2)) (tC .non))) (tRaise a.C_HostBusy (sp_HostBusy___init__ K a) E (tCons (tVar 2) tNil)) tNext))
      (tSeq (tWhile (tTest (tOp rGtI (tCB (rLenS K) (tCons (tFld K (tVar 0) "_contents") tNil)) (tVar 1))) (tSeq (tDrop (tBM0 K "list" rPop (tFld K (tVar 0) "_contents")))
      (tDrop (tBM0 K "list" rPop (tFld K (tVar 0) "_stamps")))))
      (tWhile (tTest (tOp rLtI (tCB (rLenS K) (tCons (tFld K (tVar 0) "_contents") tNil)) (tVar 1))) (tSeq (tDrop (tBM K "list" rAppend (tFld K (tVar 0) "_contents") (tCons (tC .non) tNil)))
      (tDrop (tBM K "list" rAppend (tFld K (tVar 0) "_stamps") (tCons (tC (.int 0)) tNil))))))))
def t_Frames_frozen (K : PySem.W.Frag) (a : Ad) : TS :=
  (tSeq (tAsg (tLst tNil) (gName 1))
      (tSeq (tFor (iList K (tFld K (tVar 0) "_contents")) (gName 2) (tIfS (tTest (tOp rIsNon (tVar 2) (tC .non))) (tDrop (tBM K "list" rAppend (tVar 1) (tCons (tC .non) tNil))) (tDrop (tBM K "list" rAppend (tVar 1) (tCons (tCB (rTupOf K) (tCons (tVar 2) tNil)) tNil)))))
      (tRet (tTup (tCons (tCB (rTupOf K) (tCons (tVar 1) tNil)) (tCons (tMeth a.C_Frames "order" (sp_Frames_order K a) [] E0 (tVar 0) tNil) tNil))))))
def t_thawed_frames (K : PySem.W.Frag) (a : Ad) : TS :=
  (tSeq (tAsg (tVar 0) (gTup K 2 (gCons (gName 1) (gCons (gName 2) gNil))))
      (tSeq (tAsg (tMake a.C_Frames (sp_Frames___init__ K a) [] E0 (tCons (tCB (rLenS K) (tCons (tVar 1) tNil)) tNil)) (gName 3))
      (tSeq (tFor (iTup K (tVar 2)) (gName 4) (tDrop (tMeth a.C_Frames "fill" (sp_Frames_fill K a) [] E0 (tVar 3) (tCons (tVar 4) (tCons (tOp (rIxT K) (tVar 1) (tVar 4)) tNil)))))
      (tRet (tVar 3)))))
def t__law_cell (K : PySem.W.Frag) (a : Ad) : TS :=
  (tSeq (tIfS (tTest (tOp rLtI (tVar 1) (tCB (rLenS K) (tCons (tVar 0) tNil)))) (tRet (tOp (rIxL K) (tVar 0) (tVar 1))) tNext)
      (tRet (tC (.int 0))))
def t__law_row (K : PySem.W.Frag) (a : Ad) : TS :=
  (tSeq (tAsg (tLst tNil) (gName 3))
      (tSeq (tAsg (tCB rAbs (tCons (tVar 0) tNil)) (gName 4))
      (tSeq (tIfS (tTest (tOp rGeI (tVar 4) (tOp rPowI (tC (.int 10)) (tC (.int 18))))) (tSeq (tFor (iRng1 (tCons (tVar 1) tNil)) (gName 5) (tSeq (tDrop (tBM K "list" rAppend (tVar 3) (tCons (tOp rModI (tCB rInt1 (tCons (tVar 4) tNil)) (tVar 2)) tNil)))
      (tAsg (tOp rFdivI (tVar 4) (tVar 2)) (gName 4))))
      (tRet (tVar 3))) tNext)
      (tSeq (tFor (iRng1 (tCons (tVar 1) tNil)) (gName 5) (tSeq (tAsg (tOp rModI (tCB rInt1 (tCons (tOp rAddI (tOp rAddI (tOp rMulI (tVar 4) (tC (.int 48271))) (tOp rMulI (tVar 5) (tC (.int 69621)))) (tC (.int 12345))) tNil)) (tC (.int 2147483647))) (gName 6))
      (tSeq (tAsg (tOp rModI (tCB rInt1 (tCons (tOp rAddI (tOp rAddI (tOp rMulI (tVar 6) (tVar 6)) (tOp rMulI (tVar 5) (tC (.int 40692)))) (tVar 4)) tNil)) (tC (.int 2147483629))) (gName 6))
      (tDrop (tBM K "list" rAppend (tVar 3) (tCons (tOp rModI (tCB rInt1 (tCons (tOp rFdivI (tVar 6) (tC (.int 7))) tNil)) (tVar 2)) tNil))))))
      (tRet (tVar 3))))))
def t__law_same (K : PySem.W.Frag) (a : Ad) (spr : Sp) : TS :=
  (tSeq (tIfS (tB (tCB (rIsi K) (tCons (tVar 1) (tCons (tC (.ty "tuple")) tNil)))) (tSeq (tIfS (tOr (tNot (tB (tCB (rIsi K) (tCons (tVar 0) (tCons (tC (.ty "tuple")) tNil))))) (tTest (tOp rNe (tCB (rLenS K) (tCons (tVar 0) tNil)) (tCB (rLenS K) (tCons (tVar 1) tNil))))) (tRet (tC (.bl false))) tNext)
      (tSeq (tFor (iRng1 (tCons (tCB (rLenS K) (tCons (tVar 1) tNil)) tNil)) (gName 2) (tIfS (tNot (tB (tCall spr [] E0 (tCons (tOp (rIxT K) (tVar 0) (tVar 2)) (tCons (tOp (rIxT K) (tVar 1) (tVar 2)) tNil))))) (tRet (tC (.bl false))) tNext))
      (tRet (tC (.bl true))))) tNext)
      (tSeq (tIfS (tB (tCB (rIsi K) (tCons (tVar 1) (tCons (tC (.ty "bool")) tNil)))) (tRet (tAndV (tCB (rIsi K) (tCons (tVar 0) (tCons (tC (.ty "bool")) tNil))) (tOp rEq (tVar 0) (tVar 1)))) tNext)
      (tSeq (tIfS (tB (tCB (rIsi K) (tCons (tVar 1) (tCons (tC (.ty "int")) tNil)))) (tRet (tAndV (tCB (rIsi K) (tCons (tVar 0) (tCons (tC (.ty "int")) tNil))) (tAndV (tNotV (tCB (rIsi K) (tCons (tVar 0) (tCons (tC (.ty "bool")) tNil)))) (tOp rEq (tVar 0) (tVar 1))))) tNext)
      (tSeq (tIfS (tB (tCB (rIsi K) (tCons (tVar 1) (tCons (tC (.ty "str")) tNil)))) (tRet (tAndV (tCB (rIsi K) (tCons (tVar 0) (tCons (tC (.ty "str")) tNil))) (tOp rEq (tVar 0) (tVar 1)))) tNext)
      (tRet (tAndV (tOp rIsNon (tVar 1) (tC .non)) (tOp rIsNon (tVar 0) (tC .non))))))))
def t__law_shuffled (K : PySem.W.Frag) (a : Ad) : TS :=
  (tSeq (tAsg (tLc (iRng1 (tCons (tVar 1) tNil)) (gName 5) tYes (tVar 5) [5]) (gName 2))
      (tSeq (tAsg (tCall (sp__law_row K a) [] E0 (tCons (tVar 0) (tCons (tVar 1) (tCons (tC (.int 1048576)) tNil)))) (gName 3))
      (tSeq (tAsg (tLst tNil) (gName 4))
      (tSeq (tFor (iRng1 (tCons (tVar 1) tNil)) (gName 5) (tDrop (tBM K "list" rAppend (tVar 4) (tCons (tBM K "list" rPopAt (tVar 2) (tCons (tOp rModI (tCB rInt1 (tCons (tOp (rIxL K) (tVar 3) (tVar 5)) tNil)) (tCB (rLenS K) (tCons (tVar 2) tNil))) tNil)) tNil))))
      (tRet (tVar 4))))))
def t__law_content (K : PySem.W.Frag) (a : Ad) : TS :=
  (tRet (tLc (iRng1 (tCons (tC (.int 16)) tNil)) (gName 1) tYes (tOp rModI (tCB rInt1 (tCons (tOp rAddI (tVar 0) (tOp rMulI (tC (.int 7)) (tVar 1))) tNil)) (tC (.int 65521))) [1]))
def t__law_filled (K : PySem.W.Frag) (a : Ad) : TS :=
  (tSeq (tAsg (tCall (sp__law_content K a) [] E0 (tCons (tVar 2) tNil)) (gName 3))
      (tSeq (tIfS (tNot (tB (tCall (sp__law_same K a 3) [] E0 (tCons (tMeth a.C_Frames "fill" (sp_Frames_fill K a) [] E0 (tDGet (tVar 0) (tC (.str "frames"))) (tCons (tVar 1) (tCons (tCB (rTupOf K) (tCons (tVar 3) tNil)) tNil))) (tCons (tC .non) tNil))))) (tRet (tC (.bl false))) tNext)
      (tSeq (tAsg (tDGet (tVar 0) (tC (.str "words"))) (gName 4))
      (tSeq (tAsg (tVar 3) (gSub (tVar 4) (tVar 1) rSetL))
      (tSeq (tAsg (tDGet (tVar 0) (tC (.str "order"))) (gName 5))
      (tSeq (tDrop (tBM K "list" rAppend (tVar 5) (tCons (tVar 1) tNil)))
      (tRet (tC (.bl true)))))))))
def t__law_begun (K : PySem.W.Frag) (a : Ad) : TS :=
  (tSeq (tAsg (tDisp [((tC (.str "frames")), (tMake a.C_Frames (sp_Frames___init__ K a) [] E0 (tCons (tVar 0) tNil))), ((tC (.str "words")), (tOp rRep (tLst (tCons (tC .non) tNil)) (tVar 0))), ((tC (.str "order")), (tLst tNil))]) (gName 3))
      (tSeq (tFor (iList K (tCall (sp__law_shuffled K a) [] E0 (tCons (tVar 1) (tCons (tVar 0) tNil)))) (gName 4) (tIfS (tNot (tB (tCall (sp__law_filled K a) [] E0 (tCons (tVar 3) (tCons (tVar 4) (tCons (tOp rAddI (tVar 2) (tOp rMulI (tC (.int 100)) (tVar 4))) tNil)))))) (tRet (tC .non)) tNext))
      (tRet (tVar 3))))
def t__law_emptied (K : PySem.W.Frag) (a : Ad) : TS :=
  (tSeq (tAsg (tDGet (tVar 0) (tC (.str "order"))) (gName 2))
      (tSeq (tDrop (tBM K "list" rRemI (tVar 2) (tCons (tVar 1) tNil)))
      (tSeq (tAsg (tDGet (tVar 0) (tC (.str "words"))) (gName 3))
      (tSeq (tAsg (tC .non) (gSub (tVar 3) (tVar 1) rSetL))
      (tRet (tCall (sp__law_same K a 3) [] E0 (tCons (tMeth a.C_Frames "empty" (sp_Frames_empty K a) [] E0 (tDGet (tVar 0) (tC (.str "frames"))) (tCons (tVar 1) tNil)) (tCons (tC .non) tNil))))))))
def t__law_resized (K : PySem.W.Frag) (a : Ad) : TS :=
  (tSeq (tAsg (tDGet (tVar 0) (tC (.str "frames"))) (gName 2))
      (tSeq (tAsg (tDGet (tVar 0) (tC (.str "words"))) (gName 3))
      (tSeq (tAsg (tC .non) (gName 4))
      (tSeq (tFor (iRng2 (tCons (tVar 1) (tCons (tCB (rLenS K) (tCons (tVar 3) tNil)) tNil))) (gName 5) (tIfS (tAnd (tTest (tOp rNotNon (tOp (rIxL K) (tVar 3) (tVar 5)) (tC .non))) (tTest (tOp rIsNon (tVar 4) (tC .non)))) (tAsg (tVar 5) (gName 4)) tNext))
      (tSeq (tAsg (tUn rNegI (tC (.int 1))) (gName 6))
      (tCutL (tTryAs K (.ref a.C_HostBusy) 7 (fun W => (tAsg (tMethE a.C_Frames "resize" (sp_Frames_resize K a) (WE W) (tVar 2) (tCons (tVar 1) tNil)) (gName 6))) (fun xa xc xd => (tAsg (tTup (tCons (tC (.str "busy")) (tCons (tXf xa xc xd a.C_HostBusy "number" (tVar 7)) tNil))) (gName 6)))) (tCutL (tIfS (tTest (tOp rNotNon (tVar 4) (tC .non))) (tSeq (tIfS (tNot (tB (tCall (sp__law_same K a 3) [] E0 (tCons (tVar 6) (tCons (tTup (tCons (tC (.str "busy")) (tCons (tVar 4) tNil))) tNil))))) (tRet (tC (.bl false))) tNext)
      (tSeq (tFor (iRng1 (tCons (tOp rSubI (tCB (rLenS K) (tCons (tVar 3) tNil)) (tVar 1)) tNil)) (gName 8) (tSeq (tAsg (tOp rSubI (tOp rSubI (tCB (rLenS K) (tCons (tVar 3) tNil)) (tC (.int 1))) (tVar 8)) (gName 5))
      (tIfS (tAnd (tTest (tOp rNotNon (tOp (rIxL K) (tVar 3) (tVar 5)) (tC .non))) (tNot (tB (tCall (sp__law_emptied K a) [] E0 (tCons (tVar 0) (tCons (tVar 5) tNil)))))) (tRet (tC (.bl false))) tNext)))
      (tAsg (tMeth a.C_Frames "resize" (sp_Frames_resize K a) [] E0 (tVar 2) (tCons (tVar 1) tNil)) (gName 6)))) tNext) (tSeq (tFor (iRng1 (tCons (tC (.int 48)) tNil)) (gName 8) (tIfS (tTest (tOp rGtI (tCB (rLenS K) (tCons (tVar 3) tNil)) (tVar 1))) (tDrop (tBM0 K "list" rPop (tVar 3))) (tIfS (tTest (tOp rLtI (tCB (rLenS K) (tCons (tVar 3) tNil)) (tVar 1))) (tDrop (tBM K "list" rAppend (tVar 3) (tCons (tC .non) tNil))) tNext)))
      (tRet (tCall (sp__law_same K a 3) [] E0 (tCons (tVar 6) (tCons (tC .non) tNil))))))))))))
def t__law_done (K : PySem.W.Frag) (a : Ad) : TS :=
  (tSeq (tAsg (tDGet (tVar 0) (tC (.str "frames"))) (gName 5))
      (tSeq (tAsg (tDGet (tVar 0) (tC (.str "words"))) (gName 6))
      (tSeq (tAsg (tDGet (tVar 0) (tC (.str "order"))) (gName 7))
      (tSeq (tAsg (tOp (rIxL K) (tVar 6) (tVar 2)) (gName 8))
      (tSeq (tIfS (tTest (tOp rEq (tVar 1) (tC (.int 6)))) (tSeq (tAsg (tOp (rIxL K) (tLst (tCons (tUn rNegI (tC (.int 30))) (tCons (tUn rNegI (tC (.int 9))) (tCons (tUn rNegI (tC (.int 3))) (tCons (tUn rNegI (tC (.int 1))) (tCons (tC (.int 1)) (tCons (tC (.int 4)) (tCons (tC (.int 16)) (tCons (tC (.int 47)) tNil))))))))) (tOp rModI (tCB rInt1 (tCons (tVar 3) tNil)) (tC (.int 8)))) (gName 9))
      (tRet (tCall (sp__law_resized K a) [] E0 (tCons (tVar 0) (tCons (tCB rMin2 (tCons (tC (.int 48)) (tCons (tCB rMax2 (tCons (tC (.int 1)) (tCons (tOp rAddI (tCB (rLenS K) (tCons (tVar 6) tNil)) (tVar 9)) tNil))) tNil))) tNil))))) tNext)
      (tSeq (tIfS (tTest (tOp rIsNon (tVar 8) (tC .non))) (tRet (tCall (sp__law_filled K a) [] E0 (tCons (tVar 0) (tCons (tVar 2) (tCons (tVar 4) tNil))))) tNext)
      (tSeq (tIfS (tTest (tOp rEq (tVar 1) (tC (.int 5)))) (tRet (tCall (sp__law_emptied K a) [] E0 (tCons (tVar 0) (tCons (tVar 2) tNil)))) tNext)
      (tSeq (tIfS (tTest (tOp rEq (tVar 1) (tC (.int 4)))) (tSeq (tAsg (tTup (tCons (tMeth a.C_Frames "word" (sp_Frames_word K a) [] E0 (tVar 5) (tCons (tVar 2) (tCons (tVar 3) tNil))) (tCons (tMeth a.C_Frames "words" (sp_Frames_words K a) [] E0 (tVar 5) (tCons (tVar 2) tNil)) (tCons (tMeth a.C_Frames "in_use" (sp_Frames_in_use K a) [] E0 (tVar 5) (tCons (tVar 2) tNil)) (tCons (tMeth a.C_Frames "size" (sp_Frames_size K a) [] E0 (tVar 5) tNil) tNil))))) (gName 10))
      (tRet (tCall (sp__law_same K a 3) [] E0 (tCons (tVar 10) (tCons (tTup (tCons (tOp (rIxL K) (tVar 8) (tVar 3)) (tCons (tCB (rTupOf K) (tCons (tVar 8) tNil)) (tCons (tC (.bl true)) (tCons (tCB (rLenS K) (tCons (tVar 6) tNil)) tNil))))) tNil))))) tNext)
      (tSeq (tDrop (tBM K "list" rRemI (tVar 7) (tCons (tVar 2) tNil)))
      (tSeq (tDrop (tBM K "list" rAppend (tVar 7) (tCons (tVar 2) tNil)))
      (tSeq (tIfS (tTest (tOp rEq (tVar 1) (tC (.int 3)))) (tSeq (tAsg (tVar 4) (gSub (tVar 8) (tVar 3) rSetL))
      (tRet (tCall (sp__law_same K a 3) [] E0 (tCons (tMeth a.C_Frames "set_word" (sp_Frames_set_word K a) [] E0 (tVar 5) (tCons (tVar 2) (tCons (tVar 3) (tCons (tVar 4) tNil)))) (tCons (tC .non) tNil))))) tNext)
      (tRet (tCall (sp__law_same K a 3) [] E0 (tCons (tMeth a.C_Frames "touch" (sp_Frames_touch K a) [] E0 (tVar 5) (tCons (tVar 2) tNil)) (tCons (tC .non) tNil)))))))))))))))
def t__law_agrees (K : PySem.W.Frag) (a : Ad) : TS :=
  (tSeq (tAsg (tDGet (tVar 0) (tC (.str "frames"))) (gName 2))
      (tSeq (tAsg (tDGet (tVar 0) (tC (.str "words"))) (gName 3))
      (tSeq (tAsg (tDGet (tVar 0) (tC (.str "order"))) (gName 4))
      (tSeq (tAsg (tUn rNegI (tC (.int 1))) (gName 5))
      (tCutL (tIfS (tTest (tOp rGtI (tCB (rLenS K) (tCons (tVar 4) tNil)) (tC (.int 0)))) (tAsg (tOp (rIxL K) (tVar 4) (tC (.int 0))) (gName 5)) tNext) (tSeq (tAsg (tUn rNegI (tC (.int 1))) (gName 6))
      (tSeq (tFor (iRng1 (tCons (tCB (rLenS K) (tCons (tVar 3) tNil)) tNil)) (gName 7) (tIfS (tAnd (tTest (tOp rIsNon (tOp (rIxL K) (tVar 3) (tVar 7)) (tC .non))) (tTest (tOp rLtI (tVar 6) (tC (.int 0))))) (tAsg (tVar 7) (gName 6)) tNext))
      (tSeq (tIfS (tNot (tB (tCall (sp__law_same K a 3) [] E0 (tCons (tTup (tCons (tMeth a.C_Frames "oldest" (sp_Frames_oldest K a) [] E0 (tVar 2) tNil) (tCons (tMeth a.C_Frames "free_frame" (sp_Frames_free_frame K a) [] E0 (tVar 2) tNil) tNil))) (tCons (tTup (tCons (tVar 5) (tCons (tVar 6) tNil))) tNil))))) (tRet (tC (.bl false))) tNext)
      (tRet (tOrV (tNotV (tVar 1)) (tCall (sp__law_same K a 3) [] E0 (tCons (tMeth a.C_Frames "order" (sp_Frames_order K a) [] E0 (tVar 2) tNil) (tCons (tCB (rTupOf K) (tCons (tVar 4) tNil)) tNil)))))))))))))
def t_law (K : PySem.W.Frag) (a : Ad) : TS :=
  (tSeq (tAsg (tCall (sp__law_row K a) [] E0 (tCons (tCall (sp__law_cell K a) [] E0 (tCons (tVar 0) (tCons (tC (.int 0)) tNil))) (tCons (tC (.int 6)) (tCons (tC (.int 1000000)) tNil)))) (gName 1))
      (tSeq (tAsg (tLst (tCons (tOp rAddI (tC (.int 17)) (tOp rModI (tCB rInt1 (tCons (tOp (rIxL K) (tVar 1) (tC (.int 0))) tNil)) (tC (.int 32)))) (tCons (tOp rAddI (tC (.int 1)) (tOp rModI (tCB rInt1 (tCons (tOp (rIxL K) (tVar 1) (tC (.int 1))) tNil)) (tC (.int 48)))) tNil))) (gName 2))
      (tSeq (tAsg (tLst tNil) (gName 3))
      (tSeq (tFor (iRng1 (tCons (tC (.int 2)) tNil)) (gName 4) (tSeq (tAsg (tCall (sp__law_begun K a) [] E0 (tCons (tOp (rIxL K) (tVar 2) (tVar 4)) (tCons (tCall (sp__law_cell K a) [] E0 (tCons (tVar 0) (tCons (tOp rAddI (tC (.int 1)) (tVar 4)) tNil))) (tCons (tOp (rIxL K) (tVar 1) (tOp rAddI (tC (.int 2)) (tVar 4))) tNil)))) (gName 5))
      (tSeq (tIfS (tOr (tTest (tOp rIsNon (tVar 5) (tC .non))) (tNot (tB (tCall (sp__law_agrees K a) [] E0 (tCons (tVar 5) (tCons (tC (.bl true)) tNil)))))) (tRet (tC (.bl false))) tNext)
      (tDrop (tBM K "list" rAppend (tVar 3) (tCons (tVar 5) tNil))))))
      (tSeq (tAsg (tOp rAddI (tC (.int 240)) (tOp rModI (tCB rInt1 (tCons (tOp (rIxL K) (tVar 1) (tC (.int 4))) tNil)) (tC (.int 161)))) (gName 6))
      (tSeq (tAsg (tCall (sp__law_row K a) [] E0 (tCons (tCall (sp__law_cell K a) [] E0 (tCons (tVar 0) (tCons (tC (.int 3)) tNil))) (tCons (tVar 6) (tCons (tC (.int 1000000000)) tNil)))) (gName 7))
      (tSeq (tAsg (tC .non) (gName 8))
      (tSeq (tAsg (tTup tNil) (gName 9))
      (tSeq (tFor (iRng1 (tCons (tVar 6) tNil)) (gName 4) (tCutL (tIfS (tTest (tOp rEq (tVar 4) (tC (.int 24)))) (tSeq (tAsg (tOp (rIxL K) (tVar 3) (tC (.int 0))) (gName 5))
      (tSeq (tAsg (tDGet (tVar 5) (tC (.str "frames"))) (gName 8))
      (tSeq (tAsg (RT.tTupRev K (tDGet (tVar 5) (tC (.str "order")))) (gName 9))
      (tSeq (sDPut (tVar 5) (tC (.str "frames")) (tCall (sp_thawed_frames K a) [] E0 (tCons (tMeth a.C_Frames "frozen" (sp_Frames_frozen K a) [] E0 (tVar 8) tNil) tNil)))
      (tFor (iTup K (tVar 9)) (gName 10) (tDrop (tMeth a.C_Frames "touch" (sp_Frames_touch K a) [] E0 (tVar 8) (tCons (tVar 10) tNil)))))))) tNext) (tSeq (tAsg (tOp (rIxL K) (tVar 7) (tVar 4)) (gName 11))
      (tSeq (tAsg (tOp (rIxL K) (tVar 3) (tCB rMax2 (tCons (tC (.int 0)) (tCons (tOp rSubI (tOp rModI (tCB rInt1 (tCons (tOp rFdivI (tVar 11) (tC (.int 8))) tNil)) (tC (.int 4))) (tC (.int 2))) tNil)))) (gName 5))
      (tSeq (tAsg (tOp rModI (tCB rInt1 (tCons (tOp rFdivI (tVar 11) (tC (.int 32))) tNil)) (tCB (rLenS K) (tCons (tDGet (tVar 5) (tC (.str "words"))) tNil))) (gName 10))
      (tSeq (tIfS (tNot (tB (tCall (sp__law_done K a) [] E0 (tCons (tVar 5) (tCons (tOp rModI (tCB rInt1 (tCons (tVar 11) tNil)) (tC (.int 8))) (tCons (tVar 10) (tCons (tOp rModI (tCB rInt1 (tCons (tOp rFdivI (tVar 11) (tC (.int 1536))) tNil)) (tC (.int 16))) (tCons (tOp rModI (tCB rInt1 (tCons (tOp rFdivI (tVar 11) (tC (.int 24576))) tNil)) (tC (.int 65521))) tNil)))))))) (tRet (tC (.bl false))) tNext)
      (tIfS (tNot (tB (tCall (sp__law_agrees K a) [] E0 (tCons (tVar 5) (tCons (tOp rEq (tOp rModI (tCB rInt1 (tCons (tVar 4) tNil)) (tC (.int 8))) (tC (.int 7))) tNil))))) (tRet (tC (.bl false))) tNext)))))))
      (tSeq (tFor (iList K (tVar 3)) (gName 5) (tSeq (tIfS (tNot (tB (tCall (sp__law_agrees K a) [] E0 (tCons (tVar 5) (tCons (tC (.bl true)) tNil))))) (tRet (tC (.bl false))) tNext)
      (tFor (iList K (tDGet (tVar 5) (tC (.str "order")))) (gName 10) (tIfS (tNot (tB (tCall (sp__law_same K a 3) [] E0 (tCons (tMeth a.C_Frames "words" (sp_Frames_words K a) [] E0 (tDGet (tVar 5) (tC (.str "frames"))) (tCons (tVar 10) tNil)) (tCons (tCB (rTupOf K) (tCons (tOp (rIxL K) (tDGet (tVar 5) (tC (.str "words"))) (tVar 10)) tNil)) tNil))))) (tRet (tC (.bl false))) tNext))))
      (tRet (tCall (sp__law_same K a 3) [] E0 (tCons (tMeth a.C_Frames "order" (sp_Frames_order K a) [] E0 (tVar 8) tNil) (tCons (tVar 9) tNil))))))))))))))
end K60
namespace K60
open PySem L2 Lh
/-- .. and of the module's names -/
structure Txt (K : PySem.W.Frag) (mg : Str → Option Value) (a : Ad) : Prop extends Cl K a where
  mgC_HostBusy : mg "HostBusy" = some (.ref a.C_HostBusy)
  ii_HostBusy : PySem.W.findIn K (.ref a.C_HostBusy) "__init__" = some (some (.ref a.f_HostBusy___init__))
  ti_HostBusy : PySem.W.typeIn K (.ref a.f_HostBusy___init__) = some (.type "function")
  mgC_Frames : mg "Frames" = some (.ref a.C_Frames)
  mk_Frames : Mk K a.C_Frames a.f_Frames___init__
  mt_Frames_size : Meth K a.C_Frames "size" a.f_Frames_size
  mt_Frames_in_use : Meth K a.C_Frames "in_use" a.f_Frames_in_use
  mt_Frames__check : Meth K a.C_Frames "_check" a.f_Frames__check
  mt_Frames__use : Meth K a.C_Frames "_use" a.f_Frames__use
  mt_Frames_free_frame : Meth K a.C_Frames "free_frame" a.f_Frames_free_frame
  mt_Frames_order : Meth K a.C_Frames "order" a.f_Frames_order
  mt_Frames_oldest : Meth K a.C_Frames "oldest" a.f_Frames_oldest
  mt_Frames_fill : Meth K a.C_Frames "fill" a.f_Frames_fill
  mt_Frames_words : Meth K a.C_Frames "words" a.f_Frames_words
  mt_Frames_word : Meth K a.C_Frames "word" a.f_Frames_word
  mt_Frames_set_word : Meth K a.C_Frames "set_word" a.f_Frames_set_word
  mt_Frames_touch : Meth K a.C_Frames "touch" a.f_Frames_touch
  mt_Frames_empty : Meth K a.C_Frames "empty" a.f_Frames_empty
  mt_Frames_resize : Meth K a.C_Frames "resize" a.f_Frames_resize
  mt_Frames_frozen : Meth K a.C_Frames "frozen" a.f_Frames_frozen
  fn_HostBusy___init__ : ∃ fd, Fun K "__init__" "HostBusy.__init__" s_HostBusy___init__ a.f_HostBusy___init__ fd
  mgF_check_range : mg "check_range" = some (.ref a.f_check_range)
  kp_check_range : PySem.W.keepIn K (.ref a.f_check_range) = true
  fn_check_range : ∃ fd, Fun K "check_range" "check_range" s_check_range a.f_check_range fd
  fn_Frames___init__ : ∃ fd, Fun K "__init__" "Frames.__init__" s_Frames___init__ a.f_Frames___init__ fd
  fn_Frames_size : ∃ fd, Fun K "size" "Frames.size" s_Frames_size a.f_Frames_size fd
  fn_Frames_in_use : ∃ fd, Fun K "in_use" "Frames.in_use" s_Frames_in_use a.f_Frames_in_use fd
  fn_Frames__check : ∃ fd, Fun K "_check" "Frames._check" s_Frames__check a.f_Frames__check fd
  fn_Frames__use : ∃ fd, Fun K "_use" "Frames._use" s_Frames__use a.f_Frames__use fd
  fn_Frames_free_frame : ∃ fd, Fun K "free_frame" "Frames.free_frame" s_Frames_free_frame a.f_Frames_free_frame fd
  fn_Frames_order : ∃ fd, Fun K "order" "Frames.order" s_Frames_order a.f_Frames_order fd
  fn_Frames_oldest : ∃ fd, Fun K "oldest" "Frames.oldest" s_Frames_oldest a.f_Frames_oldest fd
  fn_Frames_fill : ∃ fd, Fun K "fill" "Frames.fill" s_Frames_fill a.f_Frames_fill fd
  fn_Frames_words : ∃ fd, Fun K "words" "Frames.words" s_Frames_words a.f_Frames_words fd
  fn_Frames_word : ∃ fd, Fun K "word" "Frames.word" s_Frames_word a.f_Frames_word fd
  fn_Frames_set_word : ∃ fd, Fun K "set_word" "Frames.set_word" s_Frames_set_word a.f_Frames_set_word fd
  fn_Frames_touch : ∃ fd, Fun K "touch" "Frames.touch" s_Frames_touch a.f_Frames_touch fd
  fn_Frames_empty : ∃ fd, Fun K "empty" "Frames.empty" s_Frames_empty a.f_Frames_empty fd
  fn_Frames_resize : ∃ fd, Fun K "resize" "Frames.resize" s_Frames_resize a.f_Frames_resize fd
  fn_Frames_frozen : ∃ fd, Fun K "frozen" "Frames.frozen" s_Frames_frozen a.f_Frames_frozen fd
  mgF_thawed_frames : mg "thawed_frames" = some (.ref a.f_thawed_frames)
  kp_thawed_frames : PySem.W.keepIn K (.ref a.f_thawed_frames) = true
  fn_thawed_frames : ∃ fd, Fun K "thawed_frames" "thawed_frames" s_thawed_frames a.f_thawed_frames fd
  mgF__law_cell : mg "_law_cell" = some (.ref a.f__law_cell)
  kp__law_cell : PySem.W.keepIn K (.ref a.f__law_cell) = true
  fn__law_cell : ∃ fd, Fun K "_law_cell" "_law_cell" s__law_cell a.f__law_cell fd
  mgF__law_row : mg "_law_row" = some (.ref a.f__law_row)
  kp__law_row : PySem.W.keepIn K (.ref a.f__law_row) = true
  fn__law_row : ∃ fd, Fun K "_law_row" "_law_row" s__law_row a.f__law_row fd
  mgF__law_same : mg "_law_same" = some (.ref a.f__law_same)
  kp__law_same : PySem.W.keepIn K (.ref a.f__law_same) = true
  fn__law_same : ∃ fd, Fun K "_law_same" "_law_same" s__law_same a.f__law_same fd
  mgF__law_shuffled : mg "_law_shuffled" = some (.ref a.f__law_shuffled)
  kp__law_shuffled : PySem.W.keepIn K (.ref a.f__law_shuffled) = true
  fn__law_shuffled : ∃ fd, Fun K "_law_shuffled" "_law_shuffled" s__law_shuffled a.f__law_shuffled fd
  mgF__law_content : mg "_law_content" = some (.ref a.f__law_content)
  kp__law_content : PySem.W.keepIn K (.ref a.f__law_content) = true
  fn__law_content : ∃ fd, Fun K "_law_content" "_law_content" s__law_content a.f__law_content fd
  mgF__law_filled : mg "_law_filled" = some (.ref a.f__law_filled)
  kp__law_filled : PySem.W.keepIn K (.ref a.f__law_filled) = true
  fn__law_filled : ∃ fd, Fun K "_law_filled" "_law_filled" s__law_filled a.f__law_filled fd
  mgF__law_begun : mg "_law_begun" = some (.ref a.f__law_begun)
  kp__law_begun : PySem.W.keepIn K (.ref a.f__law_begun) = true
  fn__law_begun : ∃ fd, Fun K "_law_begun" "_law_begun" s__law_begun a.f__law_begun fd
  mgF__law_emptied : mg "_law_emptied" = some (.ref a.f__law_emptied)
  kp__law_emptied : PySem.W.keepIn K (.ref a.f__law_emptied) = true
  fn__law_emptied : ∃ fd, Fun K "_law_emptied" "_law_emptied" s__law_emptied a.f__law_emptied fd
  mgF__law_resized : mg "_law_resized" = some (.ref a.f__law_resized)
  kp__law_resized : PySem.W.keepIn K (.ref a.f__law_resized) = true
  fn__law_resized : ∃ fd, Fun K "_law_resized" "_law_resized" s__law_resized a.f__law_resized fd
  mgF__law_done : mg "_law_done" = some (.ref a.f__law_done)
  kp__law_done : PySem.W.keepIn K (.ref a.f__law_done) = true
  fn__law_done : ∃ fd, Fun K "_law_done" "_law_done" s__law_done a.f__law_done fd
  mgF__law_agrees : mg "_law_agrees" = some (.ref a.f__law_agrees)
  kp__law_agrees : PySem.W.keepIn K (.ref a.f__law_agrees) = true
  fn__law_agrees : ∃ fd, Fun K "_law_agrees" "_law_agrees" s__law_agrees a.f__law_agrees fd
  mgF_law : mg "law" = some (.ref a.f_law)
  kp_law : PySem.W.keepIn K (.ref a.f_law) = true
  fn_law : ∃ fd, Fun K "law" "law" s_law a.f_law fd
  mg_abs : mg "abs" = none
  mg_bool : mg "bool" = none
  mg_enumerate : mg "enumerate" = none
  mg_int : mg "int" = none
  mg_isinstance : mg "isinstance" = none
  mg_len : mg "len" = none
  mg_list : mg "list" = none
  mg_max : mg "max" = none
  mg_min : mg "min" = none
  mg_range : mg "range" = none
  mg_reversed : mg "reversed" = none
  mg_sorted : mg "sorted" = none
  mg_str : mg "str" = none
  mg_tuple : mg "tuple" = none
  gl_PAGE : ∃ u, mg "PAGE" = some u ∧ RelV (.int 16) u
  gl_MOST_FRAMES : ∃ u, mg "MOST_FRAMES" = some u ∧ RelV (.int 48) u
end K60

namespace K60
open PySem L2 Lh
local macro_rules | `(tactic| walk_at "ne") => `(tactic| first | assumption | exact Ne.symm (by assumption) | ((with_reducible refine' lne ?h1 ?h2 ?h3); (case h1 => assumption); (case h2 => assumption); (case h3 => simp)) | ((with_reducible refine' nn ?h1 ?h2); (case h1 => assumption); (case h2 => walk_at "hp")) | (apply Ne.symm; (with_reducible refine' nn ?h1 ?h2); (case h1 => assumption); (case h2 => walk_at "hp")))
local macro_rules | `(tactic| walk_at "hp") => `(tactic| first | assumption | exact upd_same | (refine Eq.trans (upd_ne ?hne) ?hrest; (case hne => walk_at "ne"); (case hrest => walk_at "hp")))
local macro_rules | `(tactic| walk_at "sq") => `(tactic| first | assumption | (refine Or.inl (Or.inl ?hsq); (case hsq => walk_at "hp")))
local macro_rules | `(tactic| walk_at "r1") => `(tactic| first
  | with_reducible refine r_seq ?_ | with_reducible refine r_asg ?_ | with_reducible refine r_sfld ?_ | with_reducible refine r_ret ?_ | with_reducible refine r_retN ?_ | with_reducible refine r_drop ?_
  | with_reducible refine r_next ?_ | with_reducible refine r_ifs ?_ | with_reducible refine r_dput ?_ | with_reducible refine r_asgG ?_ | with_reducible refine r_gsub ?_
  | ((with_reducible refine' r_var ?hv ?_); (case hv => exact rfl)) | with_reducible refine r_c ?_ | with_reducible refine r_op ?_ | with_reducible refine r_un ?_ | with_reducible refine r_fld ?_
  | with_reducible refine r_cb ?_ | with_reducible refine r_tup ?_ | with_reducible refine r_lst ?_ | with_reducible refine r_nil ?_ | with_reducible refine r_cons ?_ | with_reducible refine r_dget ?_
  | with_reducible refine r_din ?_ | with_reducible refine r_dnin ?_ | with_reducible refine r_call ?_ | with_reducible refine r_meth ?_ | with_reducible refine r_methE ?_ | with_reducible refine r_bm ?_ | with_reducible refine r_bm0 ?_
  | with_reducible refine r_test ?_ | with_reducible refine r_tb ?_ | with_reducible refine r_not ?_ | with_reducible refine r_and ?_ | with_reducible refine r_or ?_ | with_reducible refine r_andV ?_ | with_reducible refine r_orV ?_
  | with_reducible refine r_notV ?_ | with_reducible refine r_tif ?_
  | with_reducible refine k_bl ?_ | with_reducible refine k_i0 ?_ | with_reducible refine k_u ?_ | with_reducible refine k_isN ?_ | with_reducible refine k_notN ?_ | with_reducible refine k_int ?_ | with_reducible refine k_abs ?_ | with_reducible refine k_max ?_ | with_reducible refine k_min ?_
  | with_reducible refine k_eq rfl ?_ | with_reducible refine k_ne rfl ?_
  | ((with_reducible refine' k_fld ?hc ?hn ?ho ?hl ?_); (case hc => assumption); (case hn => assumption); (case ho => walk_at "hp"); (case hl => walk_at "lk"))
  | ((with_reducible refine' k_len ?ho ?_); (case ho => walk_at "sq"))
  | ((with_reducible refine' k_bml ?ho ?_); (case ho => walk_at "hp"))
  | ((with_reducible refine' k_sfld ?hc ?hn ?ho ?hl ?_); (case hc => assumption); (case hn => assumption); (case ho => walk_at "hp"); (case hl => walk_at "ll"))
  | ((with_reducible refine' k_meth ?ho ?hl ?_); (case ho => walk_at "hp"); (case hl => walk_at "nm"))
  | with_reducible refine r_rng1 ?_ | with_reducible refine r_rng2 ?_ | with_reducible refine r_forL ?_ | with_reducible refine r_forT ?_ | with_reducible refine r_enum ?_ | with_reducible refine r_lcL ?_ | with_reducible refine r_lcR1 ?_ | with_reducible refine r_raise ?_ | with_reducible refine r_make ?_
  | ((with_reducible refine' k_dgetS ?ho ?hg ?_); (case ho => walk_at "hp"); (case hg => walk_at "dg"))
  | with_reducible refine r_pcons ?_ | with_reducible refine r_pnil ?_ | with_reducible refine r_xf ?_ | with_reducible refine r_try ?_)
local macro_rules | `(tactic| walk_at "rd") => `(tactic| repeat (first | walk_at "r1" | (dsimp only; walk_at "r1")))
local macro_rules | `(tactic| walk_at "fr") => `(tactic| first | assumption | (apply un; assumption) | (apply un; apply un; assumption) | (apply un; apply un; apply un; assumption) | (apply un; apply un; apply un; apply un; assumption) | (apply un; apply un; apply un; apply un; apply un; assumption) | (apply un; apply un; apply un; apply un; apply un; apply un; assumption))
local macro_rules | `(tactic| walk_at "lk") => `(tactic| first | exact lk_Frames_0 | exact lk_Frames_1 | exact lk_Frames_2)
local macro_rules | `(tactic| walk_at "ll") => `(tactic| first | (rw [ln_Frames]; decide) | with_reducible exact lt0 | with_reducible exact lt1 | with_reducible exact lt2 | with_reducible exact lt3 | with_reducible exact lt4)
local macro_rules | `(tactic| walk_at "nm") => `(tactic| first | exact nm_Frames_size | exact nm_Frames_in_use | exact nm_Frames__check | exact nm_Frames__use | exact nm_Frames_free_frame | exact nm_Frames_order | exact nm_Frames_oldest | exact nm_Frames_fill | exact nm_Frames_words | exact nm_Frames_word | exact nm_Frames_set_word | exact nm_Frames_touch | exact nm_Frames_empty | exact nm_Frames_resize | exact nm_Frames_frozen)
local macro_rules | `(tactic| walk_at "cl") => `(tactic| (have c1 := Cl.cl_Frames (by assumption); have n1 := Cl.na_Frames__contents (by assumption); have n2 := Cl.na_Frames__stamps (by assumption); have n3 := Cl.na_Frames__latest (by assumption)))
theorem pure_HostBusy___init__ {K : PySem.W.Frag} {a : Ad} (C : Cl K a) {x0 x1 : V} {H : Hp} {Q : VK} {E : XK}
    (h : pr_HostBusy___init__ K a x0 x1 H Q E) : t_HostBusy___init__ K a { nx := fun _ H' => Q .non H', rt := Q } [some x0, some x1] H := by
  exact pure_exc C.oex_HostBusy C.nf_HostBusy_number h
theorem pure_check_range {K : PySem.W.Frag} {a : Ad} (C : Cl K a) {x0 x1 x2 : V} {H : Hp} {Q : VK} {E : XK}
    (h : pr_check_range K a x0 x1 x2 H Q E) : t_check_range K a { nx := fun _ H' => Q .non H', rt := Q } [some x0, some x1, some x2] H := by
  obtain ⟨v, l, u, rfl, rfl, rfl, h1, h2, q⟩ := h
  unfold t_check_range
  walk_at "rd"
  refine kif_no (by simp; omega) ?_
  walk_at "rd"
  refine kif_no (by simp; omega) ?_
  walk_at "rd"
  exact q
theorem pure_Frames___init__ {K : PySem.W.Frag} {a : Ad} (C : Cl K a) {x0 x1 : V} {H : Hp} {Q : VK} {E : XK}
    (h : pr_Frames___init__ K a x0 x1 H Q E) : t_Frames___init__ K a { nx := fun _ H' => Q .non H', rt := Q } [some x0, some x1] H := by
  obtain ⟨p, dx, n, rfl, rfl, h1, h48, hp, q⟩ := h
  walk_at "cl"
  unfold t_Frames___init__
  walk_at "rd"
  refine sp3_i ⟨_, _, _, rfl, rfl, rfl, by omega, by omega, ?_⟩
  walk_at "rd"
  refine k_lst (by simp) fun l hl => ?_
  walk_at "rd"
  refine k_rep upd_same (by omega) (by omega) (by simp [sizeLine_eq]; omega) fun c hc => ?_
  walk_at "rd"
  refine k_lst (by simp) fun l2 hl2 => ?_
  walk_at "rd"
  refine k_rep upd_same (by omega) (by omega) (by simp [sizeLine_eq]; omega) fun t ht => ?_
  walk_at "rd"
  rw [Int.toNat_natCast, flat_rep, flat_rep] at *
  refine q c t _ (by walk_at "fr") (by walk_at "fr") (by walk_at "ne") (fun b o e hb => by walk_at "hp") (by exact upd_same) (by walk_at "hp") (by walk_at "hp")
theorem pure_Frames_size {K : PySem.W.Frag} {a : Ad} (C : Cl K a) {x0 : V} {H : Hp} {Q : VK} {E : XK}
    (h : pr_Frames_size K a x0 H Q E) : t_Frames_size K a { nx := fun _ H' => Q .non H', rt := Q } [some x0] H := by
  obtain ⟨p, L, k, F, rfl, ⟨c, t, qs, lp, lc, lt, ⟨dx, ob⟩, hc, ht, ls, hq, wf, s1, s48⟩, q⟩ := h
  walk_at "cl"
  unfold t_Frames_size
  walk_at "rd"
  rw [List.length_map, hq.len]
  exact q
theorem pure_Frames_in_use {K : PySem.W.Frag} {a : Ad} (C : Cl K a) {x0 x1 : V} {H : Hp} {Q : VK} {E : XK}
    (h : pr_Frames_in_use K a x0 x1 H Q E) : t_Frames_in_use K a { nx := fun _ H' => Q .non H', rt := Q } [some x0, some x1] H := by
  obtain ⟨p, i, L, k, F, o, rfl, rfl, ⟨c, t, qs, lp, lc, lt, ⟨dx, ob⟩, hc, ht, ls, hq, wf, s1, s48⟩, ho, q⟩ := h
  have hi : i < F.cont.length := (List.getElem?_eq_some_iff.mp ho).1
  have hql := hq.len
  walk_at "cl"
  unfold t_Frames_in_use
  walk_at "rd"
  refine sp3_i ⟨_, _, _, rfl, rfl, rfl, by omega, by rw [List.length_map]; omega, ?_⟩
  walk_at "rd"
  rcases hq.at hi with ⟨h1, h2⟩ | ⟨ws, w, h1, h2, h3, h4⟩
  · rw [h1] at ho; cases ho
    refine k_ixL (by walk_at "sq") (atI_nat (v := V.non) (by rw [List.getElem?_map, h2]; rfl)) ?_
    walk_at "rd"
    exact q
  · rw [h1] at ho; cases ho
    refine k_ixL (by walk_at "sq") (atI_nat (v := V.ref w) (by rw [List.getElem?_map, h2]; rfl)) ?_
    walk_at "rd"
    exact q
theorem pure_Frames__check {K : PySem.W.Frag} {a : Ad} (C : Cl K a) {x0 x1 : V} {H : Hp} {Q : VK} {E : XK}
    (h : pr_Frames__check K a x0 x1 H Q E) : t_Frames__check K a { nx := fun _ H' => Q .non H', rt := Q } [some x0, some x1] H := by
  obtain ⟨p, i, L, k, F, ws, rfl, rfl, fr, hw, q⟩ := h
  obtain ⟨c, t, qs, lp, lc, lt, ⟨dx, ob⟩, hc, ht, ls, hq, wf, s1, s48⟩ := id fr
  walk_at "cl"
  unfold t_Frames__check
  walk_at "rd"
  refine sp2_i ⟨p, i, L, k, F, _, rfl, rfl, fr, hw, ?_⟩
  walk_at "rd"
  refine kif_no rfl ?_
  walk_at "rd"
  exact q
/-- the parts that a use changes -/
theorem FrAt.used {a : Ad} {L : Lb} {k : Nat} {H : Hp} {p : Addr} {F : Fr} {c t : Addr} {qs : List (Option Addr)} (h : FrAt a L k H p F c t qs) (hL : Lab H L) (i : Nat) {dx : Addr}
    (ob : H p = some (.ins a.C_Frames dx (fl_Frames (.ref c) (.ref t) (.int F.lat)))) :
    Stp (· = k) H L (upd (upd H p (.ins a.C_Frames dx (fl_Frames (.ref c) (.ref t) (.int (F.lat + 1))))) t (HO.lst ((F.stm.map V.int).set i (.int (F.lat + 1))))) L ∧
    FrA a L k (upd (upd H p (.ins a.C_Frames dx (fl_Frames (.ref c) (.ref t) (.int (F.lat + 1))))) t (HO.lst ((F.stm.map V.int).set i (.int (F.lat + 1))))) p (F.use i) := by
  obtain ⟨lp, lc, lt, _, hc, ht, ls, hq, wf, s1, s48⟩ := h
  have st1 : Stp (· = k) H L (upd H p (.ins a.C_Frames dx (fl_Frames (.ref c) (.ref t) (.int (F.lat + 1))))) L := Stp.write hL lp rfl ob
  have st2 := st1.trans (Stp.write (o := HO.lst ((F.stm.map V.int).set i (.int (F.lat + 1)))) st1.lab lt rfl (by rw [upd_ne (lne lt lp (by simp))]; exact ht))
  refine ⟨st2, c, t, qs, lp, lc, lt, ⟨dx, ?_⟩, ?_, ?_, ?_, ?_, wf, s1, s48⟩
  · rw [upd_ne (lne lp lt (by simp))]; exact upd_same
  · rw [upd_ne (lne lc lt (by simp)), upd_ne (lne lc lp (by simp))]; exact hc
  · show _ = some (HO.lst ((F.stm.set i (F.lat + 1)).map V.int))
    rw [upd_same, List.map_set]
  · show (F.stm.set i (F.lat + 1)).length = _
    rw [List.length_set]; exact ls
  · refine hq.of (fun _ _ e => e) fun x j o hl hx => ?_
    rw [upd_ne (lne hl lt (by simp)), upd_ne (lne hl lp (by simp))]; exact hx
theorem pure_Frames__use {K : PySem.W.Frag} {a : Ad} (C : Cl K a) {x0 x1 : V} {H : Hp} {Q : VK} {E : XK}
    (h : pr_Frames__use K a x0 x1 H Q E) : t_Frames__use K a { nx := fun _ H' => Q .non H', rt := Q } [some x0, some x1] H := by
  obtain ⟨p, i, L, k, F, rfl, rfl, hL, ⟨c, t, qs, fr⟩, hi, q⟩ := h
  obtain ⟨lp, lc, lt, ⟨dx, ob⟩, hc, ht, ls, hq, wf, s1, s48⟩ := id fr
  walk_at "cl"
  unfold t_Frames__use
  walk_at "rd"
  rw [pu_Frames_2]
  walk_at "rd"
  refine k_setL (by walk_at "hp") (by rw [List.length_map]; omega) ?_
  have z := fr.used hL i ob
  exact q _ z.1 z.2
theorem least_eq {cs : List (Option (List Int))} {i : Nat} (h : cs[i]? = some none) (hn : ∀ j, j < i → cs[j]? ≠ some none) : least cs = (i : Nat) := by
  have hi := (List.getElem?_eq_some_iff.mp h).1
  have e : cs.findIdx? (·.isNone) = some i := by
    rw [List.findIdx?_eq_some_iff_getElem]
    refine ⟨hi, ?_, fun j hj => ?_⟩
    · have := (List.getElem?_eq_some_iff.mp h).2
      rw [this]; rfl
    · intro z
      have hjl : j < cs.length := Nat.lt_trans hj hi
      have e1 : cs[j]? = some cs[j] := List.getElem?_eq_getElem hjl
      cases q : cs[j] with
      | none => exact hn j hj (by rw [e1, q])
      | some w => rw [q] at z; cases z
  unfold least
  rw [e]
theorem least_no {cs : List (Option (List Int))} (hn : ∀ j, j < cs.length → cs[j]? ≠ some none) : least cs = -1 := by
  have e : cs.findIdx? (·.isNone) = none := by
    rw [List.findIdx?_eq_none_iff]
    intro x hx
    obtain ⟨j, hj, e⟩ := List.mem_iff_getElem.mp hx
    cases x with
    | none => exact absurd (by rw [List.getElem?_eq_getElem hj, e]) (hn j hj)
    | some w => rfl
  unfold least
  rw [e]
theorem pure_Frames_free_frame {K : PySem.W.Frag} {a : Ad} (C : Cl K a) {x0 : V} {H : Hp} {Q : VK} {E : XK}
    (h : pr_Frames_free_frame K a x0 H Q E) : t_Frames_free_frame K a { nx := fun _ H' => Q .non H', rt := Q } [some x0, none, none] H := by
  obtain ⟨p, L, k, F, rfl, ⟨c, t, qs, lp, lc, lt, ⟨dx, ob⟩, hc, ht, ls, hq, wf, s1, s48⟩, q⟩ := h
  walk_at "cl"
  unfold t_Frames_free_frame
  walk_at "rd"
  refine k_enum (xs := qs.map oV) (by walk_at "sq") (fun n σ' H' => Same H H' ∧ (∃ u v, σ' = [some (.ref p), u, v]) ∧ ∀ j, j < n → F.cont[j]? ≠ some none) ⟨Same.refl H, ⟨_, _, rfl⟩, fun j hj => by omega⟩
    (fun n σ' H' hn i => i.1.seq (.inl (.inl hc))) ?_ ?_
  · rintro n x T σ' H' hx ⟨s, ⟨u, v, rfl⟩, hn⟩ hT
    rw [List.getElem?_map] at hx
    have hnl : n < F.cont.length := by
      rw [← hq.len]
      rcases hx' : qs[n]? with _ | z
      · rw [hx'] at hx; cases hx
      · exact (List.getElem?_eq_some_iff.mp hx').1
    walk_at "rd"
    rcases hq.at hnl with ⟨h1, h2⟩ | ⟨ws, w, h1, h2, h3, h4⟩
    · rw [h2] at hx; cases hx
      refine kif_t ?_
      walk_at "rd"
      rw [← least_eq h1 hn]
      exact q _ (s.trans (same_new hT))
    · rw [h2] at hx; cases hx
      refine kif_f ?_
      walk_at "rd"
      refine ⟨s.trans (same_new hT), ⟨_, _, rfl⟩, fun j hj => ?_⟩
      by_cases e : j = n
      · subst e; rw [h1]; simp
      · exact hn j (by omega)
  · rintro σ' H' ⟨s, ⟨u, v, rfl⟩, hn⟩
    walk_at "rd"
    rw [List.length_map, hq.len] at hn
    have := q H' s
    rw [least_no hn] at this
    exact this
/-- the frames in use below n, ascending -/
def inU (F : Fr) (n : Nat) : List Nat := (List.range n).filter fun j => (F.cont[j]?.join).isSome
theorem inU_yes {F : Fr} {n : Nat} {ws : List Int} (h : F.cont[n]? = some (some ws)) : inU F (n + 1) = inU F n ++ [n] := by
  unfold inU; rw [List.range_succ, List.filter_append]; simp [h]
theorem inU_no {F : Fr} {n : Nat} (h : F.cont[n]? = some none) : inU F (n + 1) = inU F n := by
  unfold inU; rw [List.range_succ, List.filter_append]; simp [h]
theorem inU_mem {F : Fr} {n j : Nat} : j ∈ inU F n ↔ j < n ∧ ∃ ws, F.cont[j]? = some (some ws) := by
  unfold inU
  rw [List.mem_filter, List.mem_range]
  constructor
  · rintro ⟨h1, h2⟩
    refine ⟨h1, ?_⟩
    cases e : F.cont[j]? with
    | none => rw [e] at h2; cases h2
    | some o =>
      cases o with
      | none => rw [e] at h2; cases h2
      | some ws => exact ⟨ws, rfl⟩
  · rintro ⟨h1, ws, h2⟩
    exact ⟨h1, by rw [h2]; rfl⟩
theorem inU_nd {F : Fr} {n : Nat} : (inU F n).Nodup := List.nodup_range.filter _
theorem inU_perm {F : Fr} {O : List Nat} (h : Ord F O) : O.Perm (inU F F.cont.length) := by
  rw [List.perm_ext_iff_of_nodup h.nd inU_nd]
  intro j
  rw [h.mem, inU_mem]
  exact ⟨fun ⟨ws, e⟩ => ⟨(List.getElem?_eq_some_iff.mp e).1, ws, e⟩, fun x => x.2⟩
def pairI (F : Fr) (j : Nat) : Int × Int := (F.at_ j, (j : Nat))
/-- xs: where the pairs ps stand as tuples -/
structure PsAt (H : Hp) (xs : List V) (ps : List (Int × Int)) : Prop where
  len : xs.length = ps.length
  at_ : ∀ (m : Nat) z, ps[m]? = some z → ∃ t, xs[m]? = some (.ref t) ∧ H t = some (.tup [.int z.1, .int z.2])
theorem PsAt.nil {H : Hp} : PsAt H [] [] := ⟨rfl, fun m z e => by simp at e⟩
theorem PsAt.of {H H' : Hp} {xs : List V} {ps : List (Int × Int)} (h : PsAt H xs ps) (s : ∀ t us, H t = some (.tup us) → H' t = some (.tup us)) : PsAt H' xs ps := ⟨h.len, fun m z e => by
  obtain ⟨t, h1, h2⟩ := h.at_ m z e
  exact ⟨t, h1, s _ _ h2⟩⟩
theorem PsAt.snoc {H : Hp} {xs : List V} {ps : List (Int × Int)} (h : PsAt H xs ps) {z : Int × Int} {t : Addr} (e : H t = some (.tup [.int z.1, .int z.2])) : PsAt H (xs ++ [.ref t]) (ps ++ [z]) := by
  refine ⟨by simp [h.len], fun m w q => ?_⟩
  by_cases hm : m < ps.length
  · rw [List.getElem?_append_left hm] at q
    rw [List.getElem?_append_left (by rw [h.len]; exact hm)]
    exact h.at_ m w q
  · have h2 := (List.getElem?_eq_some_iff.mp q).1
    have : m = ps.length := by simp at h2; omega
    subst this
    simp at q; subst q
    rw [← h.len]
    exact ⟨t, by simp, e⟩
def pairOf (H : Hp) : V → Int × Int
  | .ref t => match H t with
    | some (.tup [.int a, .int b]) => (a, b)
    | _ => (0, 0)
  | _ => (0, 0)
theorem pairOf_at {H : Hp} {t : Addr} {a b : Int} (h : H t = some (.tup [.int a, .int b])) : pairOf H (.ref t) = (a, b) := by
  simp [pairOf, h]
theorem PsAt.map {H : Hp} {xs : List V} {ps : List (Int × Int)} (h : PsAt H xs ps) : xs.map (pairOf H) = ps := by
  apply List.ext_getElem?
  intro m
  rw [List.getElem?_map]
  by_cases hm : m < ps.length
  · obtain ⟨t, h1, h2⟩ := h.at_ m ps[m] (List.getElem?_eq_getElem hm)
    rw [h1, List.getElem?_eq_getElem hm]
    show some (pairOf H (.ref t)) = _
    rw [pairOf_at h2]
  · rw [List.getElem?_eq_none (by rw [h.len]; omega), List.getElem?_eq_none (by omega)]; rfl
theorem PsAt.mem {H : Hp} {xs : List V} {ps : List (Int × Int)} (h : PsAt H xs ps) {x : V} (hx : x ∈ xs) : ∃ t, x = .ref t ∧ H t = some (.tup [.int (pairOf H x).1, .int (pairOf H x).2]) := by
  obtain ⟨m, hm, e⟩ := List.mem_iff_getElem.mp hx
  have hmp : m < ps.length := by rw [← h.len]; exact hm
  obtain ⟨t, h1, h2⟩ := h.at_ m ps[m] (List.getElem?_eq_getElem hmp)
  rw [List.getElem?_eq_getElem hm, e] at h1
  have h1' := Option.some.inj h1
  subst h1'
  exact ⟨t, rfl, by rw [pairOf_at h2]; exact h2⟩
/-- two sorted rows of pairs with the same members are one -/
theorem pairs_uniq {l m : List (Int × Int)} (p : l.Perm m) (h1 : SrtO.Srtd SrtO.lexB l) (h2 : SrtO.Srtd SrtO.lexB m) : l = m := by
  refine List.Perm.eq_of_pairwise (le := fun x y => SrtO.lexB y x = false) (fun x y _ _ a b => ?_) h1 h2 p
  have a' := SrtO.lexB_no.mp a
  have b' := SrtO.lexB_no.mp b
  ext <;> omega
theorem pure_Frames_order {K : PySem.W.Frag} {a : Ad} (C : Cl K a) {x0 : V} {H : Hp} {Q : VK} {E : XK}
    (h : pr_Frames_order K a x0 H Q E) : t_Frames_order K a { nx := fun _ H' => Q .non H', rt := Q } [some x0, none, none, none, none] H := by
  obtain ⟨p, L, k, F, O, rfl, ⟨c, t, qs, lp, lc, lt, ⟨dx, ob⟩, hc, ht, ls, hq, wf, s1, s48⟩, od, q⟩ := h
  walk_at "cl"
  unfold t_Frames_order
  walk_at "rd"
  refine k_lst (by simp) fun l hl => ?_
  walk_at "rd"
  refine k_enum (xs := qs.map oV) (by walk_at "sq") (fun n σ' H' => (∃ u v, σ' = [some (.ref p), some (.ref l), u, v, none]) ∧ Same H H' ∧ ∃ xs, H' l = some (.lst xs) ∧ PsAt H' xs ((inU F n).map (pairI F)))
    ⟨⟨_, _, rfl⟩, same_new hl, [], upd_same, PsAt.nil⟩ (fun n σ' H' hn i => i.2.1.seq (.inl (.inl hc))) ?_ ?_
  · rintro n x T σ' H' hx ⟨⟨u, v, rfl⟩, s, xs, hxs, ps⟩ hT
    rw [List.getElem?_map] at hx
    have hnl : n < F.cont.length := by
      rw [← hq.len]
      rcases hx' : qs[n]? with _ | z
      · rw [hx'] at hx; cases hx
      · exact (List.getElem?_eq_some_iff.mp hx').1
    have s' : Same H (upd H' T (.tup [.int (n : Nat), x])) := s.trans (same_new hT)
    have hxs' : upd H' T (.tup [.int (n : Nat), x]) l = some (.lst xs) := same_new hT _ _ hxs
    have ps' : PsAt (upd H' T (.tup [.int (n : Nat), x])) xs ((inU F n).map (pairI F)) := ps.of fun t us e => same_new hT _ _ e
    generalize upd H' T (.tup [.int (n : Nat), x]) = H2 at s' hxs' ps' ⊢
    walk_at "rd"
    rcases hq.at hnl with ⟨h1, h2⟩ | ⟨ws, w, h1, h2, h3, h4⟩
    · rw [h2] at hx; cases hx
      refine kif_f ?_
      walk_at "rd"
      refine ⟨⟨_, _, rfl⟩, s', xs, hxs', ?_⟩
      rw [inU_no h1]; exact ps'
    · rw [h2] at hx; cases hx
      refine kif_t ?_
      have ob' := s' _ _ ob
      have ht' := s' _ _ ht
      walk_at "rd"
      have hst : F.stm[n]? = some (F.at_ n) := by
        unfold Fr.at_
        rw [List.getD_eq_getElem?_getD, List.getElem?_eq_getElem (by omega)]; rfl
      refine k_ixL (by walk_at "sq") (atI_nat (v := V.int (F.at_ n)) (by rw [List.getElem?_map, hst]; rfl)) ?_
      walk_at "rd"
      refine k_tup (by simp) fun z hz => ?_
      walk_at "rd"
      have hxz : upd H2 z (HO.tup [V.int (F.at_ n), V.int ↑n]) l = some (.lst xs) := same_new hz _ _ hxs'
      have hlen : xs.length ≤ 1000 := by
        rw [ps'.len, List.length_map]
        have : (inU F n).length ≤ n := by unfold inU; exact Nat.le_trans (List.length_filter_le _ _) (by simp)
        omega
      refine k_append hxz hlen ?_
      refine ⟨⟨_, _, rfl⟩, fun b o e => ?_, xs ++ [.ref z], upd_same, ?_⟩
      · rw [upd_ne (ne_of_none e hl)]; exact same_new hz _ _ (s' b o e)
      · rw [inU_yes h1, List.map_append]
        refine PsAt.snoc (ps'.of fun t us e => ?_) (z := pairI F n) ?_
        · rw [upd_ne (ne_of (same_new hz _ _ e) hxz (by intro w; cases w))]; exact same_new hz _ _ e
        · rw [upd_ne (ne_of (H := upd H2 z (HO.tup [V.int (F.at_ n), V.int ↑n])) upd_same hxz (by intro w; cases w))]; exact upd_same
  · rintro σ' H' ⟨⟨u, v, rfl⟩, s, xs, hxs, ps⟩
    rw [List.length_map, hq.len] at ps
    walk_at "rd"
    refine ⟨l, xs, pairOf H', rfl, .inl (.inl hxs), fun x hx => ps.mem hx, fun ys pa h1 h2 hpa => ?_⟩
    have hy : ys.map (pairOf H') = O.map (pairI F) := by
      refine pairs_uniq ?_ (SrtO.srtd_map h1) ?_
      · refine (h2.perm.map _).trans ?_
        rw [ps.map]
        exact ((inU_perm od).map _).symm
      · refine List.pairwise_map.mpr (od.srt.imp fun {x y} hxy => SrtO.lexB_no.mpr ?_)
        show ¬ (F.at_ y < F.at_ x ∨ F.at_ y = F.at_ x ∧ _)
        omega
    have hyl : ys.length = O.length := by
      have := congrArg List.length hy
      rwa [List.length_map, List.length_map] at this
    have hol : O.length ≤ 48 := by
      rw [(inU_perm od).length_eq]
      have : (inU F F.cont.length).length ≤ F.cont.length := by unfold inU; exact Nat.le_trans (List.length_filter_le _ _) (by simp)
      omega
    refine k_lcL (ys := intL O) (.inl (.inl upd_same)) (by unfold intL; rw [List.length_map]; omega) (by omega) (fun _ => rfl) (fun i x y H2 hx hy2 s2 Q2 q2 => ?_) fun D H2 hD s2 h2' => ?_
    · have hxm : x ∈ xs := h2.perm.mem_iff.mp (List.mem_of_getElem? hx)
      obtain ⟨t2, rfl, e2⟩ := ps.mem hxm
      have e3 : pairOf H' (.ref t2) = pairI F (O.getD i 0) := by
        have z : (ys.map (pairOf H'))[i]? = (O.map (pairI F))[i]? := by rw [hy]
        rw [List.getElem?_map, List.getElem?_map, hx] at z
        have hio : i < O.length := by rw [← hyl]; exact (List.getElem?_eq_some_iff.mp hx).1
        rw [List.getElem?_eq_getElem hio] at z
        rw [List.getD_eq_getElem?_getD, List.getElem?_eq_getElem hio]
        exact Option.some.inj z
      have ey : y = .int ((O.getD i 0 : Nat) : Int) := by
        have hio : i < O.length := by rw [← hyl]; exact (List.getElem?_eq_some_iff.mp hx).1
        unfold intL at hy2
        rw [List.getElem?_map, List.getElem?_eq_getElem hio] at hy2
        rw [List.getD_eq_getElem?_getD, List.getElem?_eq_getElem hio]
        exact (Option.some.inj hy2).symm
      rw [e3] at e2
      walk_at "rd"
      refine k_ixT (xs := [V.int (F.at_ (O.getD i 0)), V.int ((O.getD i 0 : Nat) : Int)]) (.inl (.inl (s2 _ _ (same_new hpa _ _ e2)))) rfl ?_
      rw [ey] at q2
      exact q2 _ (Same.refl _)
    · walk_at "rd"
      refine k_tupL (.inl (.inl h2')) fun z hz => ?_
      have ss : Same H H2 := fun b o e => s2 _ _ (same_new hpa _ _ (s b o e))
      exact q z _ (ss.free hz) (ss.trans (same_new hz)) upd_same
theorem first_least {F : Fr} {O : List Nat} (od : Ord F O) {b : Nat} (hb : ∃ ws, F.cont[b]? = some (some ws)) (hm : ∀ j, (∃ ws, F.cont[j]? = some (some ws)) → F.at_ b ≤ F.at_ j) : first O = (b : Nat) := by
  cases O with
  | nil => exact absurd ((od.mem b).mpr hb) (by simp)
  | cons o r =>
    have ho := (od.mem o).mp (List.mem_cons_self ..)
    have h1 := hm o ho
    rcases List.mem_cons.mp ((od.mem b).mpr hb) with e | e
    · subst e; rfl
    · have h2 := (List.pairwise_cons.mp od.srt).1 b e
      omega
theorem pure_Frames_oldest {K : PySem.W.Frag} {a : Ad} (C : Cl K a) {x0 : V} {H : Hp} {Q : VK} {E : XK}
    (h : pr_Frames_oldest K a x0 H Q E) : t_Frames_oldest K a { nx := fun _ H' => Q .non H', rt := Q } [some x0, none, none, none] H := by
  obtain ⟨p, L, k, F, O, rfl, ⟨c, t, qs, lp, lc, lt, ⟨dx, ob⟩, hc, ht, ls, hq, wf, s1, s48⟩, od, q⟩ := h
  walk_at "cl"
  unfold t_Frames_oldest
  walk_at "rd"
  have hst : ∀ n, n < F.cont.length → F.stm[n]? = some (F.at_ n) := fun n hn => by
    unfold Fr.at_
    rw [List.getD_eq_getElem?_getD, List.getElem?_eq_getElem (by omega)]; rfl
  refine k_enum (xs := qs.map oV) (by walk_at "sq") (fun n σ' H' => Same H H' ∧ ∃ b u v, σ' = [some (.ref p), some (.int b), u, v] ∧
      ((b = -1 ∧ ∀ j, j < n → F.cont[j]? = some none) ∨ ∃ j : Nat, b = (j : Nat) ∧ j < n ∧ (∃ ws, F.cont[j]? = some (some ws)) ∧ ∀ i, i < n → (∃ ws, F.cont[i]? = some (some ws)) → F.at_ j ≤ F.at_ i))
    ⟨Same.refl H, _, _, _, rfl, .inl ⟨rfl, fun j hj => by omega⟩⟩ (fun n σ' H' hn i => i.1.seq (.inl (.inl hc))) ?_ ?_
  · rintro n x T σ' H' hx ⟨s, b, u, v, rfl, iv⟩ hT
    rw [List.getElem?_map] at hx
    have hnl : n < F.cont.length := by
      rw [← hq.len]
      rcases hx' : qs[n]? with _ | z
      · rw [hx'] at hx; cases hx
      · exact (List.getElem?_eq_some_iff.mp hx').1
    have s' : Same H (upd H' T (.tup [.int (n : Nat), x])) := s.trans (same_new hT)
    generalize upd H' T (.tup [.int (n : Nat), x]) = H2 at s' ⊢
    have ob' := s' _ _ ob
    have ht' := s' _ _ ht
    walk_at "rd"
    rcases hq.at hnl with ⟨h1, h2⟩ | ⟨ws, w, h1, h2, h3, h4⟩
    · rw [h2] at hx; cases hx
      refine kif_f ?_
      walk_at "rd"
      refine kif_f ?_
      walk_at "rd"
      refine ⟨s', b, _, _, rfl, ?_⟩
      rcases iv with ⟨e, iv⟩ | ⟨j, e, hj, hu, iv⟩
      · refine .inl ⟨e, fun j hj => ?_⟩
        by_cases ej : j = n
        · subst ej; exact h1
        · exact iv j (by omega)
      · refine .inr ⟨j, e, by omega, hu, fun i hi ui => ?_⟩
        by_cases ei : i = n
        · subst ei; obtain ⟨ws, z⟩ := ui; rw [h1] at z; cases z
        · exact iv i (by omega) ui
    · rw [h2] at hx; cases hx
      refine kif_t ?_
      walk_at "rd"
      rcases iv with ⟨e, iv⟩ | ⟨j, e, hj, hu, iv⟩
      · subst e
        refine kif_t ?_
        refine kif_t ?_
        walk_at "rd"
        refine ⟨s', _, _, _, rfl, .inr ⟨n, rfl, by omega, ⟨ws, h1⟩, fun i hi ui => ?_⟩⟩
        by_cases ei : i = n
        · subst ei; omega
        · obtain ⟨_, z⟩ := ui; rw [iv i (by omega)] at z; cases z
      · subst e
        refine kif_no (by simp) ?_
        walk_at "rd"
        refine k_ixL (by walk_at "sq") (atI_nat (v := V.int (F.at_ n)) (by rw [List.getElem?_map, hst n hnl]; rfl)) ?_
        walk_at "rd"
        refine k_ixL (by walk_at "sq") (atI_nat (v := V.int (F.at_ j)) (by rw [List.getElem?_map, hst j (by omega)]; rfl)) ?_
        walk_at "rd"
        refine kif_d (fun hlt => ?_) fun hge => ?_
        · walk_at "rd"
          refine ⟨s', _, _, _, rfl, .inr ⟨n, rfl, by omega, ⟨ws, h1⟩, fun i hi ui => ?_⟩⟩
          by_cases ei : i = n
          · subst ei; omega
          · have := iv i (by omega) ui; omega
        · walk_at "rd"
          refine ⟨s', _, _, _, rfl, .inr ⟨j, rfl, by omega, hu, fun i hi ui => ?_⟩⟩
          by_cases ei : i = n
          · subst ei; omega
          · exact iv i (by omega) ui
  · rintro σ' H' ⟨s, b, u, v, rfl, iv⟩
    rw [List.length_map, hq.len] at iv
    walk_at "rd"
    rcases iv with ⟨e, iv⟩ | ⟨j, e, hj, hu, iv⟩
    · have e2 : O = [] := by
        cases O with
        | nil => rfl
        | cons o r =>
          obtain ⟨ws, z⟩ := (od.mem o).mp (List.mem_cons_self ..)
          rw [iv o (List.getElem?_eq_some_iff.mp z).1] at z; cases z
      subst e2; subst e
      exact q H' s
    · have e2 := first_least od hu fun i ui => by
        obtain ⟨ws, z⟩ := ui
        exact iv i (List.getElem?_eq_some_iff.mp z).1 ⟨ws, z⟩
      subst e; rw [← e2]
      exact q H' s
/-- the parts that a fill changes -/
theorem FrA.put {a : Ad} {L : Lb} {k : Nat} {H : Hp} {p : Addr} {F : Fr} {c t : Addr} {qs : List (Option Addr)} (h : FrAt a L k H p F c t qs) (hL : Lab H L) {i : Nat} {ws : List Int} (hi : F.cont[i]? = some none) (hw : ws.length = 16) {l : Addr} (hl : H l = none) :
    Stp (· = k) H L (upd (upd H l (.lst (intsL ws))) c (.lst ((qs.map oV).set i (.ref l)))) (updL L l (k, 3, i)) ∧
    FrA a (updL L l (k, 3, i)) k (upd (upd H l (.lst (intsL ws))) c (.lst ((qs.map oV).set i (.ref l)))) p (F.put i (some ws)) := by
  obtain ⟨lp, lc, lt, ⟨dx, ob⟩, hc, ht, ls, hq, wf, s1, s48⟩ := h
  have st1 : Stp (· = k) H L (upd H l (HO.lst (intsL ws))) (updL L l (k, 3, i)) := Stp.allocL hL hl
  have lp' := st1.ext _ _ lp
  have lc' := st1.ext _ _ lc
  have lt' := st1.ext _ _ lt
  have st2 := st1.trans (Stp.write (o := HO.lst ((qs.map oV).set i (.ref l))) st1.lab lc' rfl (same_new hl _ _ hc))
  refine ⟨st2, c, t, qs.set i (some l), lp', lc', lt', ⟨dx, ?_⟩, ?_, ?_, ?_, ?_, ?_, ?_, ?_⟩
  · rw [upd_ne (lne lp lc (by simp))]; exact same_new hl _ _ ob
  · rw [upd_same, List.map_set]; rfl
  · rw [upd_ne (lne lt lc (by simp))]; exact same_new hl _ _ ht
  · show F.stm.length = (F.cont.set i (some ws)).length
    rw [List.length_set]; exact ls
  · refine OLs.set (hq.of (fun x m e => st1.ext x m e) fun x j o hl2 hx => ?_) updL_same ?_
    · rw [upd_ne (lne hl2 lc (by simp))]; exact same_new hl _ _ hx
    · have ne : l ≠ c := fun e => by rw [e, hc] at hl; cases hl
      rw [upd_ne ne]; exact upd_same
  · intro us hus
    have hus' : some us ∈ F.cont.set i (some ws) := hus
    rcases List.mem_or_eq_of_mem_set hus' with e | e
    · exact wf us e
    · cases e; exact hw
  · show 1 ≤ (F.cont.set i (some ws)).length
    rw [List.length_set]; exact s1
  · show (F.cont.set i (some ws)).length ≤ 48
    rw [List.length_set]; exact s48
theorem pure_Frames_fill {K : PySem.W.Frag} {a : Ad} (C : Cl K a) {x0 x1 x2 : V} {H : Hp} {Q : VK} {E : XK}
    (h : pr_Frames_fill K a x0 x1 x2 H Q E) : t_Frames_fill K a { nx := fun _ H' => Q .non H', rt := Q } [some x0, some x1, some x2] H := by
  obtain ⟨p, i, w, ws, L, k, F, rfl, rfl, rfl, hL, ⟨c, t, qs, fr⟩, hi, h16, hw, q⟩ := h
  obtain ⟨lp, lc, lt, ⟨dx, ob⟩, hc, ht, ls, hq, wf, s1, s48⟩ := id fr
  walk_at "cl"
  have hil : i < F.cont.length := (List.getElem?_eq_some_iff.mp hi).1
  unfold t_Frames_fill
  walk_at "rd"
  refine sp2_i ⟨p, i, L, k, F, _, rfl, rfl, ⟨c, t, qs, fr⟩, hi, ?_⟩
  walk_at "rd"
  refine kif_f ?_
  walk_at "rd"
  refine k_listT (.inl (.inl hw)) fun l hl => ?_
  walk_at "rd"
  refine k_setL (by walk_at "hp") (by rw [List.length_map, hq.len]; exact hil) ?_
  obtain ⟨st, fr'⟩ := FrA.put fr hL hi h16 hl
  obtain ⟨c2, t2, qs2, fr2⟩ := id fr'
  obtain ⟨dx2, ob2⟩ := fr2.ob
  walk_at "rd"
  refine sp2_i ⟨p, i, _, k, F.put i (some ws), rfl, rfl, st.lab, fr', by show i < (F.cont.set i (some ws)).length; rw [List.length_set]; exact hil, fun H' st' fa => ?_⟩
  walk_at "rd"
  exact q H' _ (st.trans st') fa
theorem pure_Frames_words {K : PySem.W.Frag} {a : Ad} (C : Cl K a) {x0 x1 : V} {H : Hp} {Q : VK} {E : XK}
    (h : pr_Frames_words K a x0 x1 H Q E) : t_Frames_words K a { nx := fun _ H' => Q .non H', rt := Q } [some x0, some x1] H := by
  obtain ⟨p, i, L, k, F, ws, rfl, rfl, fr, hi, q⟩ := h
  obtain ⟨c, t, qs, lp, lc, lt, ⟨dx, ob⟩, hc, ht, ls, hq, wf, s1, s48⟩ := id fr
  walk_at "cl"
  unfold t_Frames_words
  walk_at "rd"
  refine sp2_i ⟨p, i, L, k, F, _, rfl, rfl, fr, hi, ?_⟩
  walk_at "rd"
  obtain ⟨w, h1, h2, h3⟩ := hq.yes i ws hi
  refine k_ixL (by walk_at "sq") (atI_nat (v := V.ref w) (by rw [List.getElem?_map, h1]; rfl)) ?_
  walk_at "rd"
  refine k_tupL (.inl (.inl h3)) fun z hz => ?_
  exact q z _ hz (same_new hz) upd_same
theorem pure_Frames_word {K : PySem.W.Frag} {a : Ad} (C : Cl K a) {x0 x1 x2 : V} {H : Hp} {Q : VK} {E : XK}
    (h : pr_Frames_word K a x0 x1 x2 H Q E) : t_Frames_word K a { nx := fun _ H' => Q .non H', rt := Q } [some x0, some x1, some x2] H := by
  obtain ⟨p, i, at_, L, k, F, ws, u, rfl, rfl, rfl, fr, hi, hu, q⟩ := h
  obtain ⟨c, t, qs, lp, lc, lt, ⟨dx, ob⟩, hc, ht, ls, hq, wf, s1, s48⟩ := id fr
  have hal : at_ < 16 := by
    have := wf ws (List.mem_of_getElem? hi)
    rw [← this]; exact (List.getElem?_eq_some_iff.mp hu).1
  walk_at "cl"
  unfold t_Frames_word
  walk_at "rd"
  refine sp2_i ⟨p, i, L, k, F, _, rfl, rfl, fr, hi, ?_⟩
  walk_at "rd"
  refine sp3_i ⟨_, _, _, rfl, rfl, rfl, by omega, by omega, ?_⟩
  walk_at "rd"
  obtain ⟨w, h1, h2, h3⟩ := hq.yes i ws hi
  refine k_ixL (by walk_at "sq") (atI_nat (v := V.ref w) (by rw [List.getElem?_map, h1]; rfl)) ?_
  walk_at "rd"
  refine k_ixL (.inl (.inl h3)) (atI_nat (v := V.int u) (by rw [List.getElem?_map, hu]; rfl)) ?_
  exact q
theorem set_self {α : Type} {l : List α} {i : Nat} {x : α} (h : l[i]? = some x) : l.set i x = l := by
  apply List.ext_getElem?
  intro n
  by_cases hn : i = n
  · subst hn
    rw [List.getElem?_set_self (List.getElem?_eq_some_iff.mp h).1, h]
  · rw [List.getElem?_set_ne hn]
/-- a word of a content is written -/
theorem FrA.write {a : Ad} {L : Lb} {k : Nat} {H : Hp} {p : Addr} {F : Fr} {c t : Addr} {qs : List (Option Addr)} (h : FrAt a L k H p F c t qs) (hL : Lab H L) {i : Nat} {ws us : List Int} (hi : F.cont[i]? = some (some ws)) (hw : us.length = 16) {l : Addr} (hl : qs[i]? = some (some l)) (lb : L l = some (k, 3, i)) :
    Stp (· = k) H L (upd H l (.lst (intsL us))) L ∧ FrA a L k (upd H l (.lst (intsL us))) p (F.put i (some us)) := by
  obtain ⟨lp, lc, lt, ⟨dx, ob⟩, hc, ht, ls, hq, wf, s1, s48⟩ := h
  have hl3 : H l = some (.lst (intsL ws)) := by
    obtain ⟨q, q1, q2, q3⟩ := hq.yes i ws hi
    rw [hl] at q1; cases q1; exact q3
  refine ⟨Stp.write hL lb rfl hl3, c, t, qs, lp, lc, lt, ⟨dx, ?_⟩, ?_, ?_, ?_, hq.write hl lb, ?_, ?_, ?_⟩
  · rw [upd_ne (lne lp lb (by simp))]; exact ob
  · rw [upd_ne (lne lc lb (by simp))]; exact hc
  · rw [upd_ne (lne lt lb (by simp))]; exact ht
  · show F.stm.length = (F.cont.set i (some us)).length
    rw [List.length_set]; exact ls
  · intro vs hus
    have hus' : some vs ∈ F.cont.set i (some us) := hus
    rcases List.mem_or_eq_of_mem_set hus' with e | e
    · exact wf vs e
    · cases e; exact hw
  · show 1 ≤ (F.cont.set i (some us)).length
    rw [List.length_set]; exact s1
  · show (F.cont.set i (some us)).length ≤ 48
    rw [List.length_set]; exact s48
theorem pure_Frames_set_word {K : PySem.W.Frag} {a : Ad} (C : Cl K a) {x0 x1 x2 x3 : V} {H : Hp} {Q : VK} {E : XK}
    (h : pr_Frames_set_word K a x0 x1 x2 x3 H Q E) : t_Frames_set_word K a { nx := fun _ H' => Q .non H', rt := Q } [some x0, some x1, some x2, some x3] H := by
  obtain ⟨p, i, at_, wd, L, k, F, ws, rfl, rfl, rfl, rfl, hL, ⟨c, t, qs, fr⟩, hi, hal, q⟩ := h
  obtain ⟨lp, lc, lt, ⟨dx, ob⟩, hc, ht, ls, hq, wf, s1, s48⟩ := id fr
  have hws := wf ws (List.mem_of_getElem? hi)
  have hil : i < F.cont.length := (List.getElem?_eq_some_iff.mp hi).1
  walk_at "cl"
  unfold t_Frames_set_word
  walk_at "rd"
  refine sp2_i ⟨p, i, L, k, F, _, rfl, rfl, ⟨c, t, qs, fr⟩, hi, ?_⟩
  walk_at "rd"
  refine sp3_i ⟨_, _, _, rfl, rfl, rfl, by omega, by omega, ?_⟩
  walk_at "rd"
  obtain ⟨w, h1, h2, h3⟩ := hq.yes i ws hi
  refine k_ixL (by walk_at "sq") (atI_nat (v := V.ref w) (by rw [List.getElem?_map, h1]; rfl)) ?_
  walk_at "rd"
  refine k_setL h3 (by rw [List.length_map]; omega) ?_
  have e : (ws.map V.int).set at_ (V.int wd) = intsL (ws.set at_ wd) := by unfold intsL; rw [List.map_set]
  rw [e]
  obtain ⟨st, fr'⟩ := FrA.write fr hL hi (us := ws.set at_ wd) (by rw [List.length_set]; exact hws) h1 h2
  obtain ⟨c2, t2, qs2, fr2⟩ := id fr'
  obtain ⟨dx2, ob2⟩ := fr2.ob
  walk_at "rd"
  refine sp2_i ⟨p, i, _, k, _, rfl, rfl, st.lab, fr', by show i < (F.cont.set i _).length; rw [List.length_set]; exact hil, fun H' st' fa => ?_⟩
  walk_at "rd"
  exact q H' (st.trans st') fa
theorem pure_Frames_touch {K : PySem.W.Frag} {a : Ad} (C : Cl K a) {x0 x1 : V} {H : Hp} {Q : VK} {E : XK}
    (h : pr_Frames_touch K a x0 x1 H Q E) : t_Frames_touch K a { nx := fun _ H' => Q .non H', rt := Q } [some x0, some x1] H := by
  obtain ⟨p, i, L, k, F, ws, rfl, rfl, hL, fr, hi, q⟩ := h
  obtain ⟨c, t, qs, lp, lc, lt, ⟨dx, ob⟩, hc, ht, ls, hq, wf, s1, s48⟩ := id fr
  walk_at "cl"
  unfold t_Frames_touch
  walk_at "rd"
  refine sp2_i ⟨p, i, L, k, F, _, rfl, rfl, fr, hi, ?_⟩
  walk_at "rd"
  refine sp2_i ⟨p, i, L, k, F, rfl, rfl, hL, fr, (List.getElem?_eq_some_iff.mp hi).1, fun H' st fa => ?_⟩
  walk_at "rd"
  exact q H' st fa
theorem pure_Frames_empty {K : PySem.W.Frag} {a : Ad} (C : Cl K a) {x0 x1 : V} {H : Hp} {Q : VK} {E : XK}
    (h : pr_Frames_empty K a x0 x1 H Q E) : t_Frames_empty K a { nx := fun _ H' => Q .non H', rt := Q } [some x0, some x1] H := by
  obtain ⟨p, i, L, k, F, ws, rfl, rfl, hL, fr, hi, q⟩ := h
  obtain ⟨c, t, qs, lp, lc, lt, ⟨dx, ob⟩, hc, ht, ls, hq, wf, s1, s48⟩ := id fr
  have hil : i < F.cont.length := (List.getElem?_eq_some_iff.mp hi).1
  walk_at "cl"
  unfold t_Frames_empty
  walk_at "rd"
  refine sp2_i ⟨p, i, L, k, F, _, rfl, rfl, fr, hi, ?_⟩
  walk_at "rd"
  refine k_setL hc (by rw [List.length_map, hq.len]; exact hil) ?_
  walk_at "rd"
  refine k_setL (by walk_at "hp") (by rw [List.length_map]; omega) ?_
  have st1 : Stp (· = k) H L (upd H c (HO.lst ((qs.map oV).set i .non))) L := Stp.write hL lc rfl hc
  have st2 := st1.trans (Stp.write (o := HO.lst ((F.stm.map V.int).set i (.int 0))) st1.lab lt rfl (by rw [upd_ne (lne lt lc (by simp))]; exact ht))
  refine q _ st2 ⟨c, t, qs.set i none, lp, lc, lt, ⟨dx, ?_⟩, ?_, ?_, ?_, ?_, ?_, ?_, ?_⟩
  · rw [upd_ne (lne lp lt (by simp)), upd_ne (lne lp lc (by simp))]; exact ob
  · rw [upd_ne (lne lc lt (by simp)), upd_same, List.map_set]; rfl
  · show _ = some (HO.lst ((F.stm.set i 0).map V.int))
    rw [upd_same, List.map_set]
  · show (F.stm.set i 0).length = (F.cont.set i none).length
    rw [List.length_set, List.length_set]; exact ls
  · refine OLs.clear (hq.of (fun x m e => e) fun x j o hl2 hx => ?_) i
    rw [upd_ne (lne hl2 lt (by simp)), upd_ne (lne hl2 lc (by simp))]; exact hx
  · intro us hus
    have hus' : some us ∈ F.cont.set i none := hus
    rcases List.mem_or_eq_of_mem_set hus' with e | e
    · exact wf us e
    · cases e
  · show 1 ≤ (F.cont.set i none).length
    rw [List.length_set]; exact s1
  · show (F.cont.set i none).length ≤ 48
    rw [List.length_set]; exact s48
theorem use_at {F : Fr} {i j : Nat} (hi : i < F.stm.length) : (F.use i).at_ j = if j = i then F.lat + 1 else F.at_ j := by
  show (F.stm.set i (F.lat + 1)).getD j 0 = _
  rw [List.getD_eq_getElem?_getD]
  by_cases e : j = i
  · subst e
    rw [if_pos rfl, List.getElem?_set_self hi]; rfl
  · rw [if_neg e, List.getElem?_set_ne (fun z => e z.symm)]
    show _ = F.stm.getD j 0
    rw [List.getD_eq_getElem?_getD]
/-- a use of a frame that is in the order or has just been filled -/
theorem Ord.useOf {F G : Fr} {O : List Nat} (h : Ord F O) {i : Nat} (hs : G.stm = F.stm) (hl : G.lat = F.lat) (hz : G.cont.length = F.cont.length) (hc : ∀ j : Nat, j ≠ i → G.cont[j]? = F.cont[j]?) (hi : ∃ ws, G.cont[i]? = some (some ws)) : Ord (G.use i) (O.erase i ++ [i]) := by
  have hil : i < G.cont.length := by obtain ⟨ws, e⟩ := hi; exact (List.getElem?_eq_some_iff.mp e).1
  have hsl : i < G.stm.length := by rw [hs, h.sl, ← hz]; exact hil
  have at_eq : ∀ j, G.at_ j = F.at_ j := fun j => by unfold Fr.at_; rw [hs]
  refine ⟨?_, fun j => ?_, ?_, fun j hj => ?_, ?_⟩
  · rw [List.nodup_append]
    refine ⟨h.nd.erase i, by simp, fun x hx y hy => ?_⟩
    have : y = i := by simpa using hy
    subst this
    intro e; subst e
    exact (h.nd.mem_erase_iff.mp hx).1 rfl
  · show j ∈ _ ↔ ∃ ws, G.cont[j]? = some (some ws)
    rw [List.mem_append, h.nd.mem_erase_iff, List.mem_singleton]
    by_cases e : j = i
    · subst e
      exact ⟨fun _ => hi, fun _ => .inr rfl⟩
    · rw [hc j e, h.mem]
      exact ⟨fun z => z.elim (fun z => z.2) fun z => absurd z e, fun z => .inl ⟨e, z⟩⟩
  · rw [List.pairwise_append]
    refine ⟨?_, by simp, fun x hx y hy => ?_⟩
    · have h1 : (O.erase i).Pairwise fun x y => F.at_ x < F.at_ y := h.srt.sublist List.erase_sublist
      refine h1.imp_of_mem fun {x y} hx hy hxy => ?_
      have ex := (h.nd.mem_erase_iff.mp hx).1
      have ey := (h.nd.mem_erase_iff.mp hy).1
      rw [use_at hsl, use_at hsl, if_neg ex, if_neg ey, at_eq, at_eq]; exact hxy
    · have : y = i := by simpa using hy
      subst this
      have ex := h.nd.mem_erase_iff.mp hx
      rw [use_at hsl, use_at hsl, if_neg ex.1, if_pos rfl, at_eq, hl]
      have := h.le x ex.2
      omega
  · show _ ≤ G.lat + 1
    rw [use_at hsl, hl]
    split
    · exact Int.le_refl _
    · rename_i ej
      rcases List.mem_append.mp hj with z | z
      · rw [at_eq]
        have := h.le j (List.mem_of_mem_erase z)
        omega
      · exact absurd (by simpa using z) ej
  · show (G.stm.set i (G.lat + 1)).length = G.cont.length
    rw [List.length_set, hs, hz]; exact h.sl
theorem Ord.touched {F : Fr} {O : List Nat} (h : Ord F O) {i : Nat} {ws : List Int} (hi : F.cont[i]? = some (some ws)) : Ord (F.use i) (O.erase i ++ [i]) := h.useOf rfl rfl rfl (fun _ _ => rfl) ⟨ws, hi⟩
theorem Ord.filled {F : Fr} {O : List Nat} (h : Ord F O) {i : Nat} {ws : List Int} (hi : F.cont[i]? = some none) : Ord (F.fill i ws) (O ++ [i]) := by
  have hn : i ∉ O := fun z => by
    obtain ⟨us, e⟩ := (h.mem i).mp z
    rw [hi] at e; cases e
  have := h.useOf (G := F.put i (some ws)) (i := i) rfl rfl (by show (F.cont.set i _).length = _; rw [List.length_set]) (fun j hj => by
    show (F.cont.set i _)[j]? = _
    rw [List.getElem?_set_ne (fun z => hj z.symm)]) ⟨ws, by
    show (F.cont.set i _)[i]? = _
    rw [List.getElem?_set_self (List.getElem?_eq_some_iff.mp hi).1]⟩
  rw [List.erase_of_not_mem hn] at this
  exact this
theorem Ord.set {F : Fr} {O : List Nat} (h : Ord F O) {i : Nat} {ws us : List Int} (hi : F.cont[i]? = some (some ws)) : Ord ((F.put i (some us)).use i) (O.erase i ++ [i]) :=
  h.useOf (G := F.put i (some us)) rfl rfl (by show (F.cont.set i _).length = _; rw [List.length_set]) (fun j hj => by
    show (F.cont.set i _)[j]? = _
    rw [List.getElem?_set_ne (fun z => hj z.symm)]) ⟨us, by
    show (F.cont.set i _)[i]? = _
    rw [List.getElem?_set_self (List.getElem?_eq_some_iff.mp hi).1]⟩
theorem Ord.clear {F : Fr} {O : List Nat} (h : Ord F O) {i : Nat} {ws : List Int} (hi : F.cont[i]? = some (some ws)) : Ord (F.clear i) (O.erase i) := by
  have at_eq : ∀ j, j ≠ i → (F.clear i).at_ j = F.at_ j := fun j hj => by
    show (F.stm.set i 0).getD j 0 = F.stm.getD j 0
    rw [List.getD_eq_getElem?_getD, List.getElem?_set_ne (fun z => hj z.symm), List.getD_eq_getElem?_getD]
  refine ⟨h.nd.erase i, fun j => ?_, ?_, fun j hj => ?_, ?_⟩
  · rw [h.nd.mem_erase_iff, h.mem]
    show _ ↔ ∃ ws, (F.cont.set i none)[j]? = some (some ws)
    by_cases e : j = i
    · subst e
      rw [List.getElem?_set_self (List.getElem?_eq_some_iff.mp hi).1]
      exact ⟨fun z => absurd rfl z.1, fun ⟨_, z⟩ => by cases z⟩
    · rw [List.getElem?_set_ne (fun z => e z.symm)]
      exact ⟨fun z => z.2, fun z => ⟨e, z⟩⟩
  · refine (h.srt.sublist List.erase_sublist).imp_of_mem fun {x y} hx hy hxy => ?_
    rw [at_eq x (h.nd.mem_erase_iff.mp hx).1, at_eq y (h.nd.mem_erase_iff.mp hy).1]; exact hxy
  · rw [at_eq j (h.nd.mem_erase_iff.mp hj).1]
    exact h.le j (List.mem_of_mem_erase hj)
  · show (F.stm.set i 0).length = (F.cont.set i none).length
    rw [List.length_set, List.length_set]; exact h.sl
theorem size_cont {F : Fr} {n j : Nat} (hu : ∀ i, ¬ used F n i) (ws : List Int) : (F.size n).cont[j]? = some (some ws) ↔ F.cont[j]? = some (some ws) := by
  show (F.cont.take n ++ List.replicate (n - F.cont.length) none)[j]? = _ ↔ _
  by_cases hj : j < n
  · by_cases hjl : j < F.cont.length
    · rw [List.getElem?_append_left (by rw [List.length_take]; omega), List.getElem?_take, if_pos hj]
    · have e1 : F.cont[j]? = none := List.getElem?_eq_none (by omega)
      rw [e1, List.getElem?_append_right (by rw [List.length_take]; omega), List.getElem?_replicate]
      split <;> simp
  · have e0 : (F.cont.take n ++ List.replicate (n - F.cont.length) none)[j]? = none := by
      refine List.getElem?_eq_none ?_
      rw [List.length_append, List.length_take, List.length_replicate]; omega
    rw [e0]
    refine ⟨fun z => (by cases z), fun z => ?_⟩
    exfalso
    -- the least one in use from n on
    have ex : ∃ i, n ≤ i ∧ ∃ ws, F.cont[i]? = some (some ws) := ⟨j, by omega, ws, z⟩
    have : ∀ m i, i < m → n ≤ i → (∃ ws, F.cont[i]? = some (some ws)) → False := by
      intro m
      induction m with
      | zero => intro i h; omega
      | succ m ih =>
        intro i him hni hw
        by_cases hlt : i < m
        · exact ih i hlt hni hw
        · refine hu i ⟨hni, hw, fun q h1 h2 => ?_⟩
          cases e : F.cont[q]? with
          | none =>
            obtain ⟨us, hw⟩ := hw
            have := (List.getElem?_eq_some_iff.mp hw).1
            have := List.getElem?_eq_none_iff.mp e
            omega
          | some o =>
            cases o with
            | none => rfl
            | some us => exact (ih q (by omega) h1 ⟨us, e⟩).elim
    exact this (j + 1) j (by omega) (by omega) ⟨ws, z⟩
theorem Ord.size {F : Fr} {O : List Nat} (h : Ord F O) {n : Nat} (hu : ∀ i, ¬ used F n i) : Ord (F.size n) O := by
  have at_eq : ∀ j ∈ O, (F.size n).at_ j = F.at_ j := fun j hj => by
    obtain ⟨ws, e⟩ := (h.mem j).mp hj
    have hjl := (List.getElem?_eq_some_iff.mp e).1
    have hjn : j < n := by
      have e2 := (size_cont (j := j) hu ws).mpr e
      have h2 : j < (F.cont.take n ++ List.replicate (n - F.cont.length) none).length := (List.getElem?_eq_some_iff.mp e2).1
      rw [List.length_append, List.length_take, List.length_replicate] at h2
      omega
    show (F.stm.take n ++ List.replicate (n - F.cont.length) 0).getD j 0 = F.stm.getD j 0
    rw [List.getD_eq_getElem?_getD, List.getD_eq_getElem?_getD, List.getElem?_append_left (by rw [List.length_take, h.sl]; omega), List.getElem?_take, if_pos hjn]
  refine ⟨h.nd, fun j => ?_, ?_, fun j hj => ?_, ?_⟩
  · rw [h.mem]
    exact ⟨fun ⟨ws, e⟩ => ⟨ws, (size_cont hu ws).mpr e⟩, fun ⟨ws, e⟩ => ⟨ws, (size_cont hu ws).mp e⟩⟩
  · refine h.srt.imp_of_mem fun {x y} hx hy hxy => ?_
    rw [at_eq x hx, at_eq y hy]; exact hxy
  · rw [at_eq j hj]; exact h.le j hj
  · show (F.stm.take n ++ List.replicate (n - F.cont.length) 0).length = (F.cont.take n ++ List.replicate (n - F.cont.length) none).length
    rw [List.length_append, List.length_append, List.length_take, List.length_take, List.length_replicate, List.length_replicate, h.sl]
def Fr.cut (F : Fr) (j : Nat) : Fr := { F with cont := F.cont.take j, stm := F.stm.take j }
def Fr.grow (F : Fr) (j : Nat) : Fr := { F with cont := F.cont ++ List.replicate j none, stm := F.stm ++ List.replicate j 0 }
theorem size_eq (F : Fr) (n : Nat) (hs : F.stm.length = F.cont.length) : F.size n = (F.cut n).grow (n - F.cont.length) := rfl
theorem FrAt.popped {a : Ad} {L : Lb} {k : Nat} {H : Hp} {p : Addr} {F : Fr} {c t : Addr} {qs : List (Option Addr)} {j : Nat} (h : FrAt a L k H p (F.cut (j + 1)) c t (qs.take (j + 1))) (hL : Lab H L) (hj : 1 ≤ j) (hjl : j < F.cont.length) (hq : qs.length = F.cont.length) (hs : F.stm.length = F.cont.length) :
    Stp (· = k) H L (upd (upd H c (.lst ((qs.take j).map oV))) t (.lst ((F.stm.take j).map V.int))) L ∧ FrAt a L k (upd (upd H c (.lst ((qs.take j).map oV))) t (.lst ((F.stm.take j).map V.int))) p (F.cut j) c t (qs.take j) := by
  obtain ⟨lp, lc, lt, ⟨dx, ob⟩, hc, ht, ls, hq', wf, s1, s48⟩ := h
  have st1 : Stp (· = k) H L (upd H c (HO.lst ((qs.take j).map oV))) L := Stp.write hL lc rfl hc
  have st2 := st1.trans (Stp.write (o := HO.lst ((F.stm.take j).map V.int)) st1.lab lt rfl (by rw [upd_ne (lne lt lc (by simp))]; exact ht))
  have hlen : (F.cut j).cont.length = j := by show (F.cont.take j).length = j; rw [List.length_take]; omega
  refine ⟨st2, lp, lc, lt, ⟨dx, ?_⟩, ?_, ?_, ?_, ?_, fun ws hw => wf ws ?_, by omega, ?_⟩
  · rw [upd_ne (lne lp lt (by simp)), upd_ne (lne lp lc (by simp))]; exact ob
  · rw [upd_ne (lne lc lt (by simp)), upd_same]
  · exact upd_same
  · show (F.stm.take j).length = (F.cont.take j).length
    rw [List.length_take, List.length_take, hs]
  · have z := hq'.take j
    have e1 : (qs.take (j + 1)).take j = qs.take j := by rw [List.take_take]; congr 1; omega
    have e2 : (F.cut (j + 1)).cont.take j = (F.cut j).cont := by show (F.cont.take (j + 1)).take j = F.cont.take j; rw [List.take_take]; congr 1; omega
    rw [e1, e2] at z
    refine z.of (fun _ _ e => e) fun x i o hl hx => ?_
    rw [upd_ne (lne hl lt (by simp)), upd_ne (lne hl lc (by simp))]; exact hx
  · have hw' : some ws ∈ F.cont.take j := hw
    show some ws ∈ F.cont.take (j + 1)
    exact List.mem_of_mem_take (i := j) (by rw [List.take_take, Nat.min_eq_left (by omega)]; exact hw')
  · rw [hlen]
    have : (F.cont.take (j + 1)).length ≤ 48 := s48
    rw [List.length_take] at this; omega
theorem FrAt.grown {a : Ad} {L : Lb} {k : Nat} {H : Hp} {p : Addr} {F : Fr} {c t : Addr} {qs : List (Option Addr)} (h : FrAt a L k H p F c t qs) (hL : Lab H L) (hl : F.cont.length < 48) :
    Stp (· = k) H L (upd (upd H c (.lst (qs.map oV ++ [.non]))) t (.lst (F.stm.map V.int ++ [.int 0]))) L ∧ FrAt a L k (upd (upd H c (.lst (qs.map oV ++ [.non]))) t (.lst (F.stm.map V.int ++ [.int 0]))) p { F with cont := F.cont ++ [none], stm := F.stm ++ [0] } c t (qs ++ [none]) := by
  obtain ⟨lp, lc, lt, ⟨dx, ob⟩, hc, ht, ls, hq', wf, s1, s48⟩ := h
  have st1 : Stp (· = k) H L (upd H c (HO.lst (qs.map oV ++ [.non]))) L := Stp.write hL lc rfl hc
  have st2 := st1.trans (Stp.write (o := HO.lst (F.stm.map V.int ++ [.int 0])) st1.lab lt rfl (by rw [upd_ne (lne lt lc (by simp))]; exact ht))
  refine ⟨st2, lp, lc, lt, ⟨dx, ?_⟩, ?_, ?_, ?_, ?_, fun ws hw => wf ws ?_, ?_, ?_⟩
  · rw [upd_ne (lne lp lt (by simp)), upd_ne (lne lp lc (by simp))]; exact ob
  · rw [upd_ne (lne lc lt (by simp)), upd_same, List.map_append]; rfl
  · rw [upd_same]
    show _ = some (HO.lst ((F.stm ++ [0]).map V.int))
    rw [List.map_append]; rfl
  · show (F.stm ++ [0]).length = (F.cont ++ [none]).length
    rw [List.length_append, List.length_append, ls]; rfl
  · refine OLs.push (hq'.of (fun _ _ e => e) fun x i o hl hx => ?_)
    rw [upd_ne (lne hl lt (by simp)), upd_ne (lne hl lc (by simp))]; exact hx
  · have hw' : some ws ∈ F.cont ++ [none] := hw
    rcases List.mem_append.mp hw' with z | z
    · exact z
    · simp at z
  · show 1 ≤ (F.cont ++ [none]).length
    rw [List.length_append]; omega
  · show (F.cont ++ [none]).length ≤ 48
    rw [List.length_append]; simp; omega
theorem last_map {α : Type} (f : α → V) (l : List α) (h : 0 < l.length) : ∃ y, (l.map f)[(l.map f).length - 1]? = some y := by
  refine ⟨f l[l.length - 1], ?_⟩
  rw [List.getElem?_map, List.length_map, List.getElem?_eq_getElem (by omega)]; rfl
theorem pure_Frames_resize {K : PySem.W.Frag} {a : Ad} (C : Cl K a) {x0 x1 : V} {H : Hp} {Q : VK} {E : XK}
    (h : pr_Frames_resize K a x0 x1 H Q E) : t_Frames_resize K a E { nx := fun _ H' => Q .non H', rt := Q } [some x0, some x1, none] H := by
  obtain ⟨p, n, L, k, F, rfl, rfl, hL, ⟨c, t, qs, fr⟩, h1, h48, qe, q⟩ := h
  obtain ⟨lp, lc, lt, ⟨dx, ob⟩, hc, ht, ls, hq, wf, s1, s48⟩ := id fr
  have hql := hq.len
  walk_at "cl"
  unfold t_Frames_resize
  walk_at "rd"
  refine sp3_i ⟨_, _, _, rfl, rfl, rfl, by omega, by omega, ?_⟩
  walk_at "rd"
  refine k_rng2 (lo := n) (hi := (qs.map oV).length) (by omega) (by rw [List.length_map]; omega) (fun j σ' H' => H' = H ∧ (∃ u, σ' = [some (.ref p), some (.int (n : Nat)), u]) ∧ ∀ i, n ≤ i → i < j → F.cont[i]? = some none)
    ⟨rfl, ⟨_, rfl⟩, fun i h1 h2 => by omega⟩ ?_ ?_
  · rintro j σ' H' hnj hj ⟨rfl, ⟨u, rfl⟩, hn⟩
    rw [List.length_map] at hj
    walk_at "rd"
    rcases hq.at (show j < F.cont.length by omega) with ⟨e1, e2⟩ | ⟨ws, w, e1, e2, e3, e4⟩
    · refine k_ixL (by walk_at "sq") (atI_nat (v := V.non) (by rw [List.getElem?_map, e2]; rfl)) ?_
      walk_at "rd"
      refine kif_f ?_
      walk_at "rd"
      refine ⟨rfl, ⟨_, rfl⟩, fun i h1 h2 => ?_⟩
      by_cases e : i = j
      · subst e; exact e1
      · exact hn i h1 (by omega)
    · refine k_ixL (by walk_at "sq") (atI_nat (v := V.ref w) (by rw [List.getElem?_map, e2]; rfl)) ?_
      walk_at "rd"
      refine kif_t ?_
      walk_at "rd"
      exact k_raise (qe j ⟨hnj, ⟨ws, e1⟩, fun i h1 h2 => hn i h1 h2⟩)
  · rintro σ' H' ⟨rfl, ⟨u, rfl⟩, hn⟩
    rw [List.length_map, hql] at hn
    have hu : ∀ i, ¬ used F n i := by
      rintro i ⟨h1, ⟨ws, e⟩, h2⟩
      have hil := (List.getElem?_eq_some_iff.mp e).1
      rw [hn i h1 (by omega)] at e; cases e
    have q := q hu
    walk_at "rd"
    refine k_whileD (fun m σ2 H2 => σ2 = [some (.ref p), some (.int (n : Nat)), u] ∧ m ≤ F.cont.length ∧ (n ≤ m ∨ m = F.cont.length) ∧ Stp (· = k) H' L H2 L ∧ FrAt a L k H2 p (F.cut m) c t (qs.take m)) F.cont.length ⟨rfl, Nat.le_refl _, .inr rfl, Stp.refl hL, ?_⟩ ?_
    · have e1 : F.cut F.cont.length = F := by unfold Fr.cut; rw [List.take_length, ← ls, List.take_length]
      have e2 : qs.take F.cont.length = qs := by rw [← hql, List.take_length]
      rw [e1, e2]; exact fr
    · rintro m σ2 H2 ⟨rfl, hm, hnm, st, fr2⟩
      obtain ⟨dx2, ob2⟩ := fr2.ob
      have hc2 := fr2.hc
      have ht2 := fr2.ht
      have hlen : ((qs.take m).map oV).length = m := by rw [List.length_map, List.length_take]; omega
      refine ⟨decide (n < m), fun Qb qb => ?_, fun e => ?_, fun e => ?_⟩
      · walk_at "rd"
        have e : decide ((n : Int) < (((qs.take m).map oV).length : Nat)) = decide (n < m) := by rw [hlen]; simp
        rw [e]; exact qb
      · have hnm' : n < m := of_decide_eq_true e
        obtain ⟨j, rfl⟩ : ∃ j, m = j + 1 := ⟨m - 1, by omega⟩
        have pp := fr2.popped st.lab (by omega) (by omega) hql ls
        obtain ⟨y, hy⟩ := last_map oV (qs.take (j + 1)) (by rw [List.length_take]; omega)
        have hzt : (F.stm.take (j + 1)).length = j + 1 := by rw [List.length_take]; omega
        obtain ⟨z, hz⟩ := last_map V.int (F.stm.take (j + 1)) (by omega)
        walk_at "rd"
        refine k_pop hc2 hy ?_
        rw [← List.map_dropLast, take_drop_last _ (by omega)]
        walk_at "rd"
        have ob3 : upd H2 c (HO.lst (List.map oV (qs.take j))) p = some (.ins a.C_Frames dx2 (fl_Frames (.ref c) (.ref t) (.int (F.cut (j + 1)).lat))) := by rw [upd_ne (lne lp lc (by simp))]; exact ob2
        refine k_pop (xs := (F.stm.take (j + 1)).map V.int) (by rw [upd_ne (lne lt lc (by simp))]; exact ht2) hz ?_
        rw [← List.map_dropLast, take_drop_last _ (by omega)]
        exact ⟨j, by omega, rfl, by omega, .inl (by omega), st.trans pp.1, pp.2⟩
      · have hnm' : ¬ n < m := of_decide_eq_false e
        have hmin : (n ≤ F.cont.length ∧ m = n) ∨ (F.cont.length ≤ n ∧ m = F.cont.length) := by omega
        have ecut : (F.cut m) = F.cut n := by
          rcases hmin with ⟨_, e⟩ | ⟨h, e⟩
          · rw [e]
          · rw [e]; unfold Fr.cut; rw [List.take_length, List.take_of_length_le h, ← ls, List.take_length, List.take_of_length_le (by omega)]
        have eqs : qs.take m = qs.take n := by
          rcases hmin with ⟨_, e⟩ | ⟨h, e⟩
          · rw [e]
          · rw [e, ← hql, List.take_length, List.take_of_length_le (by omega)]
        rw [ecut, eqs] at fr2
        have hcl : (F.cut n).cont.length = min n F.cont.length := List.length_take
        refine k_whileD (fun m2 σ3 H3 => σ3 = [some (.ref p), some (.int (n : Nat)), u] ∧ m2 ≤ n - F.cont.length ∧ Stp (· = k) H' L H3 L ∧ FrAt a L k H3 p ((F.cut n).grow (n - F.cont.length - m2)) c t (qs.take n ++ List.replicate (n - F.cont.length - m2) none)) (n - F.cont.length) ⟨rfl, Nat.le_refl _, st, ?_⟩ ?_
        · rw [Nat.sub_self]
          have e1 : (F.cut n).grow 0 = F.cut n := by unfold Fr.grow; simp
          rw [e1]; simp; exact fr2
        · rintro m2 σ3 H3 ⟨rfl, hm2, st3, fr3⟩
          obtain ⟨dx3, ob3⟩ := fr3.ob
          have hc3 := fr3.hc
          have ht3 := fr3.ht
          have hlen3 : ((qs.take n ++ List.replicate (n - F.cont.length - m2) none).map oV).length = min n F.cont.length + (n - F.cont.length - m2) := by
            rw [List.length_map, List.length_append, List.length_take, List.length_replicate, hql]
          refine ⟨decide (0 < m2), fun Qb qb => ?_, fun e => ?_, fun e => ?_⟩
          · walk_at "rd"
            have e : decide ((((qs.take n ++ List.replicate (n - F.cont.length - m2) none).map oV).length : Nat) < (n : Int)) = decide (0 < m2) := by
              rw [hlen3]
              apply decide_eq_decide.mpr
              omega
            rw [e]; exact qb
          · have hm0 : 0 < m2 := of_decide_eq_true e
            have gl : ((F.cut n).grow (n - F.cont.length - m2)).cont.length = min n F.cont.length + (n - F.cont.length - m2) := by
              show (F.cont.take n ++ List.replicate _ none).length = _
              rw [List.length_append, List.length_take, List.length_replicate]
            have pp := fr3.grown st3.lab (by rw [gl]; omega)
            walk_at "rd"
            refine k_append hc3 (by rw [hlen3]; omega) ?_
            have ob4 : upd H3 c (HO.lst (List.map oV (qs.take n ++ List.replicate (n - F.cont.length - m2) none) ++ [V.non])) p = some (.ins a.C_Frames dx3 (fl_Frames (.ref c) (.ref t) (.int ((F.cut n).grow (n - F.cont.length - m2)).lat))) := by rw [upd_ne (lne lp lc (by simp))]; exact ob3
            have ht4 : upd H3 c (HO.lst (List.map oV (qs.take n ++ List.replicate (n - F.cont.length - m2) none) ++ [V.non])) t = some (.lst (((F.cut n).grow (n - F.cont.length - m2)).stm.map V.int)) := by rw [upd_ne (lne lt lc (by simp))]; exact ht3
            walk_at "rd"
            refine k_append ht4 (by rw [List.length_map, fr3.ls, gl]; omega) ?_
            have e5 : n - F.cont.length - (m2 - 1) = n - F.cont.length - m2 + 1 := by omega
            refine ⟨m2 - 1, by omega, rfl, by omega, st3.trans pp.1, ?_⟩
            rw [e5, List.replicate_succ']
            have e6 : ({ (F.cut n).grow (n - F.cont.length - m2) with cont := ((F.cut n).grow (n - F.cont.length - m2)).cont ++ [none], stm := ((F.cut n).grow (n - F.cont.length - m2)).stm ++ [0] } : Fr) = (F.cut n).grow (n - F.cont.length - m2 + 1) := by
              unfold Fr.grow
              simp only [List.append_assoc, List.replicate_succ']
            rw [← e6, ← List.append_assoc]
            exact pp.2
          · have hm0 : m2 = 0 := by have : ¬ 0 < m2 := of_decide_eq_false e; omega
            subst hm0
            have z := fr3
            rw [Nat.sub_zero] at z
            exact q H3 st3 ⟨c, t, _, z⟩
theorem OTs.nil {H : Hp} : OTs H [] [] := ⟨rfl, fun i e => by simp at e, fun i ws e => by simp at e⟩
theorem OTs.of {H H' : Hp} {vs : List V} {cs : List (Option (List Int))} (h : OTs H vs cs) (s : ∀ t us, H t = some (.tup us) → H' t = some (.tup us)) : OTs H' vs cs :=
  ⟨h.len, h.no, fun i ws e => by
    obtain ⟨q, h1, h2⟩ := h.yes i ws e
    exact ⟨q, h1, s _ _ h2⟩⟩
theorem OTs.snoc0 {H : Hp} {vs : List V} {cs : List (Option (List Int))} (h : OTs H vs cs) : OTs H (vs ++ [.non]) (cs ++ [none]) := by
  refine ⟨by simp [h.len], fun n e => ?_, fun n us e => ?_⟩
  · by_cases hn : n < cs.length
    · rw [List.getElem?_append_left hn] at e
      rw [List.getElem?_append_left (by rw [h.len]; exact hn)]
      exact h.no n e
    · have h2 := (List.getElem?_eq_some_iff.mp e).1
      have : n = cs.length := by simp at h2; omega
      subst this
      rw [← h.len]; simp
  · by_cases hn : n < cs.length
    · rw [List.getElem?_append_left hn] at e
      rw [List.getElem?_append_left (by rw [h.len]; exact hn)]
      exact h.yes n us e
    · have h2 := (List.getElem?_eq_some_iff.mp e).1
      have : n = cs.length := by simp at h2; omega
      subst this
      simp at e
theorem OTs.snoc1 {H : Hp} {vs : List V} {cs : List (Option (List Int))} (h : OTs H vs cs) {ws : List Int} {q : Addr} (hq : H q = some (.tup (intsL ws))) : OTs H (vs ++ [.ref q]) (cs ++ [some ws]) := by
  refine ⟨by simp [h.len], fun n e => ?_, fun n us e => ?_⟩
  · by_cases hn : n < cs.length
    · rw [List.getElem?_append_left hn] at e
      rw [List.getElem?_append_left (by rw [h.len]; exact hn)]
      exact h.no n e
    · have h2 := (List.getElem?_eq_some_iff.mp e).1
      have : n = cs.length := by simp at h2; omega
      subst this
      simp at e
  · by_cases hn : n < cs.length
    · rw [List.getElem?_append_left hn] at e
      rw [List.getElem?_append_left (by rw [h.len]; exact hn)]
      exact h.yes n us e
    · have h2 := (List.getElem?_eq_some_iff.mp e).1
      have : n = cs.length := by simp at h2; omega
      subst this
      simp at e; subst e
      rw [← h.len]
      exact ⟨q, by simp, hq⟩
theorem take_more {α : Type} {l : List α} {i : Nat} {x : α} (h : l[i]? = some x) : l.take (i + 1) = l.take i ++ [x] := by
  rw [List.take_succ, h]; rfl
theorem pure_Frames_frozen {K : PySem.W.Frag} {a : Ad} (C : Cl K a) {x0 : V} {H : Hp} {Q : VK} {E : XK}
    (h : pr_Frames_frozen K a x0 H Q E) : t_Frames_frozen K a { nx := fun _ H' => Q .non H', rt := Q } [some x0, none, none] H := by
  obtain ⟨p, L, k, F, O, rfl, ⟨c, t, qs, fr⟩, od, q⟩ := h
  obtain ⟨lp, lc, lt, ⟨dx, ob⟩, hc, ht, ls, hq, wf, s1, s48⟩ := id fr
  have hql := hq.len
  walk_at "cl"
  unfold t_Frames_frozen
  walk_at "rd"
  refine k_lst (by simp) fun l hl => ?_
  walk_at "rd"
  refine k_forL (xs := qs.map oV) (by walk_at "sq") (fun n σ' H' => (∃ u, σ' = [some (.ref p), some (.ref l), u]) ∧ Same H H' ∧ ∃ vs, H' l = some (.lst vs) ∧ OTs H' vs (F.cont.take n))
    ⟨⟨_, rfl⟩, same_new hl, [], upd_same, OTs.nil⟩ (fun n σ' H' hn i => i.2.1.seq (.inl (.inl hc))) ?_ ?_
  · rintro n x σ' H' hx ⟨⟨u, rfl⟩, s, vs, hvs, ots⟩
    rw [List.getElem?_map] at hx
    have hnl : n < F.cont.length := by
      rw [← hql]
      rcases hx' : qs[n]? with _ | z
      · rw [hx'] at hx; cases hx
      · exact (List.getElem?_eq_some_iff.mp hx').1
    have hvl : vs.length ≤ 1000 := by rw [ots.len, List.length_take]; omega
    show tIfS _ _ _ _ [some (.ref p), some (.ref l), some x] H'
    walk_at "rd"
    rcases hq.at hnl with ⟨h1, h2⟩ | ⟨ws, w, h1, h2, h3, h4⟩
    · rw [h2] at hx; cases hx
      refine kif_t ?_
      walk_at "rd"
      refine k_append hvs hvl ?_
      refine ⟨⟨_, rfl⟩, fun b o e => ?_, _, upd_same, ?_⟩
      · rw [upd_ne (ne_of_none e hl)]; exact s b o e
      · rw [take_more h1]
        refine (ots.of fun t us e => ?_).snoc0
        rw [upd_ne (ne_of e hvs (by intro w; cases w))]; exact e
    · rw [h2] at hx; cases hx
      refine kif_f ?_
      have h4' := s _ _ h4
      show tDrop _ _ [some (.ref p), some (.ref l), some (.ref w)] H'
      walk_at "rd"
      refine k_tupL (.inl (.inl h4')) fun z hz => ?_
      have hvz : upd H' z (HO.tup (List.map V.int ws)) l = some (.lst vs) := same_new hz _ _ hvs
      walk_at "rd"
      refine k_append hvz hvl ?_
      refine ⟨⟨_, rfl⟩, fun b o e => ?_, _, upd_same, ?_⟩
      · rw [upd_ne (ne_of_none e hl)]; exact same_new hz _ _ (s b o e)
      · rw [take_more h1]
        refine OTs.snoc1 (ots.of fun t us e => ?_) ?_
        · rw [upd_ne (ne_of (same_new hz _ _ e) hvz (by intro w; cases w))]; exact same_new hz _ _ e
        · rw [upd_ne (ne_of (H := upd H' z (HO.tup (List.map V.int ws))) upd_same hvz (by intro w; cases w))]; exact upd_same
  · rintro σ' H' ⟨⟨u, rfl⟩, s, vs, hvs, ots⟩
    rw [List.length_map, hql, List.take_length] at ots
    walk_at "rd"
    refine k_tupL (.inl (.inl hvs)) fun z hz => ?_
    have s2 : Same H (upd H' z (HO.tup vs)) := s.trans (same_new hz)
    have ob2 := s2 _ _ ob
    have fr2 : FrAt a L k (upd H' z (HO.tup vs)) p F c t qs := ⟨lp, lc, lt, ⟨dx, ob2⟩, s2 _ _ hc, s2 _ _ ht, ls, hq.of (fun _ _ e => e) fun x i o _ hx => s2 _ _ hx, wf, s1, s48⟩
    walk_at "rd"
    refine sp1_i ⟨p, L, k, F, O, rfl, ⟨c, t, qs, fr2⟩, od, fun y H3 hy s3 h3 => ?_⟩
    walk_at "rd"
    refine k_tup (by simp) fun r hr => ?_
    have s4 : Same H' (upd H3 r (HO.tup [V.ref z, V.ref y])) := (same_new hz).trans (s3.trans (same_new hr))
    refine q r _ (s.trans s4) ⟨z, y, vs, upd_same, ?_, ots.of fun t us e => s4 _ _ e, ?_⟩
    · exact same_new hr _ _ (s3 _ _ upd_same)
    · exact same_new hr _ _ h3
theorem oV_none (n : Nat) : (List.replicate n (none : Option Addr)).map oV = List.replicate n V.non := by rw [List.map_replicate]; rfl
def newFr (n : Nat) : Fr := { cont := List.replicate n none, stm := List.replicate n 0, lat := 0 }
theorem newOrd (n : Nat) : Ord (newFr n) [] := by
  refine ⟨List.nodup_nil, fun i => ⟨fun z => by simp at z, fun ⟨ws, e⟩ => ?_⟩, List.Pairwise.nil, fun i hi => by simp at hi, ?_⟩
  · have e' : (List.replicate n (none : Option (List Int)))[i]? = some (some ws) := e
    rw [List.getElem?_replicate] at e'
    split at e' <;> cases e'
  · show (List.replicate n (0 : Int)).length = (List.replicate n (none : Option (List Int))).length
    rw [List.length_replicate, List.length_replicate]
/-- a new Frames gets its labels -/
theorem FrA.made {a : Ad} {S : Nat → Prop} {k n : Nat} {H H' : Hp} {L : Lb} {x dx c t : Addr} (hL : Lab H L) (hx : H x = none) (s : Same H H') (hc : H c = none) (ht : H t = none) (xc : x ≠ c) (xt : x ≠ t) (ct : c ≠ t)
    (ob : H' x = some (.ins a.C_Frames dx (fl_Frames (.ref c) (.ref t) (.int 0)))) (oc : H' c = some (.lst (List.replicate n .non))) (ot : H' t = some (.lst (List.replicate n (.int 0)))) (h1 : 1 ≤ n) (h48 : n ≤ 48) :
    Stp S H L H' (updL (updL (updL L x (k, 0, 0)) c (k, 1, 0)) t (k, 2, 0)) ∧ FrA a (updL (updL (updL L x (k, 0, 0)) c (k, 1, 0)) t (k, 2, 0)) k H' x (newFr n) := by
  have lx : updL (updL (updL L x (k, 0, 0)) c (k, 1, 0)) t (k, 2, 0) x = some (k, 0, 0) := by rw [updL_ne xt, updL_ne xc, updL_same]
  have lc : updL (updL (updL L x (k, 0, 0)) c (k, 1, 0)) t (k, 2, 0) c = some (k, 1, 0) := by rw [updL_ne ct, updL_same]
  have lt : updL (updL (updL L x (k, 0, 0)) c (k, 1, 0)) t (k, 2, 0) t = some (k, 2, 0) := updL_same
  have lo : ∀ y, y ≠ x → y ≠ c → y ≠ t → updL (updL (updL L x (k, 0, 0)) c (k, 1, 0)) t (k, 2, 0) y = L y := fun y h1 h2 h3 => by rw [updL_ne h3, updL_ne h2, updL_ne h1]
  refine ⟨Stp.of_new s (fun y l e => ?_) (fun y l e en => ?_) (fun y l e => ?_), c, t, List.replicate n none, lx, lc, lt, ⟨dx, ob⟩, ?_, ?_, ?_, ?_, ?_, ?_, ?_⟩
  · rw [lo y (hL.ne e hx) (hL.ne e hc) (hL.ne e ht)]; exact e
  · by_cases e1 : y = x
    · rw [e1]; exact hx
    · by_cases e2 : y = c
      · rw [e2]; exact hc
      · by_cases e3 : y = t
        · rw [e3]; exact ht
        · rw [lo y e1 e2 e3, en] at e; cases e
  · by_cases e1 : y = x
    · rw [e1]; exact ⟨_, ob⟩
    · by_cases e2 : y = c
      · rw [e2]; exact ⟨_, oc⟩
      · by_cases e3 : y = t
        · rw [e3]; exact ⟨_, ot⟩
        · rw [lo y e1 e2 e3] at e
          obtain ⟨o, q⟩ := hL y l e
          exact ⟨o, s y o q⟩
  · rw [oV_none]; exact oc
  · show _ = some (HO.lst ((List.replicate n (0 : Int)).map V.int))
    rw [List.map_replicate]; exact ot
  · show (List.replicate n (0 : Int)).length = (List.replicate n (none : Option (List Int))).length
    rw [List.length_replicate, List.length_replicate]
  · refine ⟨?_, fun i e => ?_, fun i ws e => ?_⟩
    · show (List.replicate n (none : Option Addr)).length = (List.replicate n (none : Option (List Int))).length
      rw [List.length_replicate, List.length_replicate]
    · have e' : (List.replicate n (none : Option (List Int)))[i]? = some none := e
      rw [List.getElem?_replicate] at e' ⊢
      split at e'
      · rw [if_pos (by assumption)]
      · cases e'
    · have e' : (List.replicate n (none : Option (List Int)))[i]? = some (some ws) := e
      rw [List.getElem?_replicate] at e'
      split at e' <;> cases e'
  · intro ws hw
    have hw' : some ws ∈ List.replicate n (none : Option (List Int)) := hw
    have := List.eq_of_mem_replicate hw'
    cases this
  · show 1 ≤ (List.replicate n (none : Option (List Int))).length
    rw [List.length_replicate]; exact h1
  · show (List.replicate n (none : Option (List Int))).length ≤ 48
    rw [List.length_replicate]; exact h48
theorem Same.mk2 {H : Hp} {x dx C : Addr} (hx : H x = none) (hdx : H dx = none) : Same H (upd (upd H dx (.own x)) x (.ins C dx [])) := fun b o e => by
  rw [upd_ne (ne_of_none e hx), upd_ne (ne_of_none e hdx)]; exact e
theorem pure_thawed_frames {K : PySem.W.Frag} {a : Ad} (C : Cl K a) {x0 : V} {H : Hp} {Q : VK} {E : XK}
    (h : pr_thawed_frames K a x0 H Q E) : t_thawed_frames K a { nx := fun _ H' => Q .non H', rt := Q } [some x0, none, none, none, none] H := by
  obtain ⟨v, F, O, L, k, rfl, hL, ⟨ct, ot, vs, hv, hct, ots, hot⟩, od, s1, s48, wf, q⟩ := h
  walk_at "cl"
  unfold t_thawed_frames
  walk_at "r1"
  walk_at "r1"
  walk_at "r1"
  refine g_two hv ?_
  walk_at "rd"
  refine k_lenT (.inl (.inl hct)) ?_
  walk_at "rd"
  refine k_make fun x dx hx hdx ne => ?_
  refine sp2_i ⟨x, dx, F.cont.length, rfl, by rw [ots.len], s1, s48, upd_same, fun c t H' hc ht cct kp ob oc ot' => ⟨rfl, ?_⟩⟩
  have m2 : Same H (upd (upd H dx (.own x)) x (.ins a.C_Frames dx [])) := Same.mk2 hx hdx
  have sH : Same H H' := fun b o e => kp b o (m2 b o e) (ne_of_none e hx)
  have xc : x ≠ c := ne_of_none (H := upd (upd H dx (.own x)) x (.ins a.C_Frames dx [])) upd_same hc
  have xt : x ≠ t := ne_of_none (H := upd (upd H dx (.own x)) x (.ins a.C_Frames dx [])) upd_same ht
  obtain ⟨st, fa⟩ := FrA.made (S := (· = k)) (k := k) (a := a) hL hx sH (m2.free hc) (m2.free ht) xc xt cct ob oc ot' s1 s48
  generalize updL (updL (updL L x (k, 0, 0)) c (k, 1, 0)) t (k, 2, 0) = L1 at st fa
  walk_at "rd"
  refine k_forT (xs := intL O) (.inl (.inl (st.tup _ _ hot))) (fun n σ' H2 => (∃ u, σ' = [some (.ref v), some (.ref ct), some (.ref ot), some (.ref x), u]) ∧ ∃ L2 G, Stp (· = k) H L H2 L2 ∧ FrA a L2 k H2 x G ∧ Ord G (O.take n) ∧ G.cont.length = F.cont.length ∧
      ∀ j, (j ∈ O.take n → G.cont[j]? = F.cont[j]?) ∧ (j ∉ O.take n → j < F.cont.length → G.cont[j]? = some none))
    ⟨⟨_, rfl⟩, L1, newFr F.cont.length, st, fa, newOrd _, ?_, fun j => ⟨fun z => by simp at z, fun _ hj => ?_⟩⟩ (fun n σ' H2 hn i => by
      obtain ⟨_, L2, G, st2, _⟩ := i
      exact .inl (.inl (st2.tup _ _ hot))) ?_ ?_
  · show (List.replicate F.cont.length (none : Option (List Int))).length = _
    rw [List.length_replicate]
  · show (List.replicate F.cont.length (none : Option (List Int)))[j]? = _
    rw [List.getElem?_replicate, if_pos hj]
  · rintro n y σ' H2 hy ⟨⟨u, rfl⟩, L2, G, st2, fa2, od2, gl, gc⟩
    unfold intL at hy
    rw [List.getElem?_map] at hy
    obtain ⟨j, hj⟩ : ∃ j, O[n]? = some j := by
      cases e : O[n]? with
      | none => rw [e] at hy; cases hy
      | some j => exact ⟨j, rfl⟩
    rw [hj] at hy; cases hy
    have hnl : n < O.length := (List.getElem?_eq_some_iff.mp hj).1
    have hjO : j ∈ O := List.mem_of_getElem? hj
    obtain ⟨ws, hw⟩ := (od.mem j).mp hjO
    have hjl := (List.getElem?_eq_some_iff.mp hw).1
    have hjn : j ∉ O.take n := fun z => by
      have h1 : (O.take n ++ O.drop n).Nodup := by rw [List.take_append_drop]; exact od.nd
      have h2 : j ∈ O.drop n := List.mem_of_getElem? (i := 0) (by rw [List.getElem?_drop]; exact hj)
      exact (List.nodup_append.mp h1).2.2 j z j h2 rfl
    obtain ⟨q1, h3, h4⟩ := ots.yes j ws hw
    have h4' := st2.tup _ _ h4
    have hct' := st2.tup _ _ hct
    have fa2' := fa2
    obtain ⟨c2, t2, qs2, fr2⟩ := fa2'
    obtain ⟨dx2, ob2⟩ := fr2.ob
    show tDrop _ _ [some (.ref v), some (.ref ct), some (.ref ot), some (.ref x), some (.int (j : Nat))] H2
    walk_at "rd"
    refine k_ixT (.inl (.inl hct')) (atI_nat h3) ?_
    walk_at "rd"
    refine sp3_i ⟨x, j, q1, ws, L2, k, G, rfl, rfl, rfl, st2.lab, fa2, (gc j).2 hjn hjl, wf ws (List.mem_of_getElem? hw), h4', fun H3 L3 st3 fa3 => ?_⟩
    walk_at "rd"
    refine ⟨⟨_, rfl⟩, L3, G.fill j ws, st2.trans st3, fa3, ?_, ?_, fun i => ⟨fun z => ?_, fun z hi => ?_⟩⟩
    · rw [take_more hj]; exact od2.filled ((gc j).2 hjn hjl)
    · show (G.cont.set j (some ws)).length = _
      rw [List.length_set]; exact gl
    · rw [take_more hj] at z
      show (G.cont.set j (some ws))[i]? = _
      by_cases e : i = j
      · subst e
        rw [List.getElem?_set_self (by omega), hw]
      · rw [List.getElem?_set_ne (fun w => e w.symm)]
        rcases List.mem_append.mp z with z | z
        · exact (gc i).1 z
        · exact absurd (by simpa using z) e
    · rw [take_more hj] at z
      have e : i ≠ j := fun w => z (by rw [w]; simp)
      show (G.cont.set j (some ws))[i]? = _
      rw [List.getElem?_set_ne (fun w => e w.symm)]
      exact (gc i).2 (fun w => z (List.mem_append_left _ w)) hi
  · rintro σ' H2 ⟨⟨u, rfl⟩, L2, G, st2, fa2, od2, gl, gc⟩
    have hlen : (intL O).length = O.length := by unfold intL; rw [List.length_map]
    rw [hlen, List.take_length] at od2 gc
    walk_at "rd"
    refine q x G H2 L2 st2 hx fa2 ?_ od2
    apply List.ext_getElem?
    intro j
    by_cases hj : j ∈ O
    · exact (gc j).1 hj
    · by_cases hjl : j < F.cont.length
      · rw [(gc j).2 hj hjl]
        cases e : F.cont[j]? with
        | none => rw [List.getElem?_eq_getElem hjl] at e; cases e
        | some o =>
          cases o with
          | none => rfl
          | some ws => exact absurd ((od.mem j).mpr ⟨ws, e⟩) hj
      · rw [List.getElem?_eq_none (by omega), List.getElem?_eq_none (by omega)]
end K60

namespace K60
open PySem L2 Lh
local macro_rules | `(tactic| walk_at "ne") => `(tactic| first | assumption | exact Ne.symm (by assumption) | ((with_reducible refine' lne ?h1 ?h2 ?h3); (case h1 => assumption); (case h2 => assumption); (case h3 => simp)) | ((with_reducible refine' nn ?h1 ?h2); (case h1 => assumption); (case h2 => walk_at "hp")) | (apply Ne.symm; (with_reducible refine' nn ?h1 ?h2); (case h1 => assumption); (case h2 => walk_at "hp")))
local macro_rules | `(tactic| walk_at "hp") => `(tactic| first | assumption | exact upd_same | (refine Eq.trans (upd_ne ?hne) ?hrest; (case hne => walk_at "ne"); (case hrest => walk_at "hp")))
local macro_rules | `(tactic| walk_at "sq") => `(tactic| first | assumption | (refine Or.inl (Or.inl ?hsq); (case hsq => walk_at "hp")))
local macro_rules | `(tactic| walk_at "r1") => `(tactic| first
  | with_reducible refine r_seq ?_ | with_reducible refine r_asg ?_ | with_reducible refine r_sfld ?_ | with_reducible refine r_ret ?_ | with_reducible refine r_retN ?_ | with_reducible refine r_drop ?_
  | with_reducible refine r_next ?_ | with_reducible refine r_ifs ?_ | with_reducible refine r_dput ?_ | with_reducible refine r_asgG ?_ | with_reducible refine r_gsub ?_
  | ((with_reducible refine' r_var ?hv ?_); (case hv => exact rfl)) | with_reducible refine r_c ?_ | with_reducible refine r_op ?_ | with_reducible refine r_un ?_ | with_reducible refine r_fld ?_
  | with_reducible refine r_cb ?_ | with_reducible refine r_tup ?_ | with_reducible refine r_lst ?_ | with_reducible refine r_nil ?_ | with_reducible refine r_cons ?_ | with_reducible refine r_dget ?_
  | with_reducible refine r_din ?_ | with_reducible refine r_dnin ?_ | with_reducible refine r_call ?_ | with_reducible refine r_meth ?_ | with_reducible refine r_methE ?_ | with_reducible refine r_bm ?_ | with_reducible refine r_bm0 ?_
  | with_reducible refine r_test ?_ | with_reducible refine r_tb ?_ | with_reducible refine r_not ?_ | with_reducible refine r_and ?_ | with_reducible refine r_or ?_ | with_reducible refine r_andV ?_ | with_reducible refine r_orV ?_
  | with_reducible refine r_notV ?_ | with_reducible refine r_tif ?_
  | with_reducible refine k_bl ?_ | with_reducible refine k_i0 ?_ | with_reducible refine k_u ?_ | with_reducible refine k_isN ?_ | with_reducible refine k_notN ?_ | with_reducible refine k_int ?_ | with_reducible refine k_abs ?_ | with_reducible refine k_max ?_ | with_reducible refine k_min ?_
  | with_reducible refine k_eq rfl ?_ | with_reducible refine k_ne rfl ?_
  | ((with_reducible refine' k_fld ?hc ?hn ?ho ?hl ?_); (case hc => assumption); (case hn => assumption); (case ho => walk_at "hp"); (case hl => walk_at "lk"))
  | ((with_reducible refine' k_len ?ho ?_); (case ho => walk_at "sq"))
  | ((with_reducible refine' k_bml ?ho ?_); (case ho => walk_at "hp"))
  | ((with_reducible refine' k_sfld ?hc ?hn ?ho ?hl ?_); (case hc => assumption); (case hn => assumption); (case ho => walk_at "hp"); (case hl => walk_at "ll"))
  | ((with_reducible refine' k_meth ?ho ?hl ?_); (case ho => walk_at "hp"); (case hl => walk_at "nm"))
  | with_reducible refine r_rng1 ?_ | with_reducible refine r_rng2 ?_ | with_reducible refine r_forL ?_ | with_reducible refine r_forT ?_ | with_reducible refine r_enum ?_ | with_reducible refine r_lcL ?_ | with_reducible refine r_lcR1 ?_ | with_reducible refine r_raise ?_ | with_reducible refine r_make ?_
  | ((with_reducible refine' k_dgetS ?ho ?hg ?_); (case ho => walk_at "hp"); (case hg => walk_at "dg"))
  | with_reducible refine r_pcons ?_ | with_reducible refine r_pnil ?_ | with_reducible refine r_xf ?_ | with_reducible refine r_try ?_)
local macro_rules | `(tactic| walk_at "rd") => `(tactic| repeat (first | walk_at "r1" | (dsimp only; walk_at "r1")))
local macro_rules | `(tactic| walk_at "fr") => `(tactic| first | assumption | (apply un; assumption) | (apply un; apply un; assumption) | (apply un; apply un; apply un; assumption) | (apply un; apply un; apply un; apply un; assumption) | (apply un; apply un; apply un; apply un; apply un; assumption) | (apply un; apply un; apply un; apply un; apply un; apply un; assumption))
local macro_rules | `(tactic| walk_at "lk") => `(tactic| first | exact lk_Frames_0 | exact lk_Frames_1 | exact lk_Frames_2)
local macro_rules | `(tactic| walk_at "ll") => `(tactic| first | (rw [ln_Frames]; decide) | with_reducible exact lt0 | with_reducible exact lt1 | with_reducible exact lt2 | with_reducible exact lt3 | with_reducible exact lt4)
local macro_rules | `(tactic| walk_at "nm") => `(tactic| first | exact nm_Frames_size | exact nm_Frames_in_use | exact nm_Frames__check | exact nm_Frames__use | exact nm_Frames_free_frame | exact nm_Frames_order | exact nm_Frames_oldest | exact nm_Frames_fill | exact nm_Frames_words | exact nm_Frames_word | exact nm_Frames_set_word | exact nm_Frames_touch | exact nm_Frames_empty | exact nm_Frames_resize | exact nm_Frames_frozen)
local macro_rules | `(tactic| walk_at "cl") => `(tactic| (have c1 := Cl.cl_Frames (by assumption); have n1 := Cl.na_Frames__contents (by assumption); have n2 := Cl.na_Frames__stamps (by assumption); have n3 := Cl.na_Frames__latest (by assumption)))
theorem pure__law_cell {K : PySem.W.Frag} {a : Ad} (C : Cl K a) {x0 x1 : V} {H : Hp} {Q : VK} {E : XK}
    (h : pr__law_cell K a x0 x1 H Q E) : t__law_cell K a { nx := fun _ H' => Q .non H', rt := Q } [some x0, some x1] H := by
  obtain ⟨s, ns, k, rfl, rfl, hs, q⟩ := h
  unfold t__law_cell
  walk_at "rd"
  refine kif_d (fun hk => ?_) fun hk => ?_
  · rw [List.length_map] at hk
    have hk' : k < ns.length := by omega
    walk_at "rd"
    refine k_ixL hs (atI_nat (v := V.int ns[k]) (by rw [List.getElem?_map, List.getElem?_eq_getElem hk']; rfl)) ?_
    exact q _
  · walk_at "rd"
    exact q 0
theorem pure__law_row {K : PySem.W.Frag} {a : Ad} (C : Cl K a) {x0 x1 x2 : V} {H : Hp} {Q : VK} {E : XK}
    (h : pr__law_row K a x0 x1 x2 H Q E) : t__law_row K a { nx := fun _ H' => Q .non H', rt := Q } [some x0, some x1, some x2, none, none, none, none] H := by
  obtain ⟨c, n, m, rfl, rfl, rfl, hn, hm0, hm, q⟩ := h
  unfold t__law_row
  walk_at "rd"
  refine k_lst (by simp) fun l hl => ?_
  walk_at "rd"
  have hr0 : 0 ≤ (if c < 0 then -c else c) := by split <;> omega
  generalize (if c < 0 then -c else c) = r0 at hr0 ⊢
  refine k_i (by unfold CPow; decide) ?_
  walk_at "rd"
  have snoc : ∀ (ns : List Int) (u : Int), intsL ns ++ [V.int u] = intsL (ns ++ [u]) := fun ns u => by unfold intsL; rw [List.map_append]; rfl
  refine kif_d (fun hbig => ?_) fun hsm => ?_
  · walk_at "rd"
    refine k_rng1 (by omega) (fun i σ' H' => Same H H' ∧ ∃ ns r u, σ' = [some (.int c), some (.int (n : Nat)), some (.int m), some (.ref l), some (.int r), u, none] ∧ H' l = some (.lst (intsL ns)) ∧ ns.length = i ∧ ∀ u ∈ ns, 0 ≤ u ∧ u < m)
      ⟨same_new hl, [], r0, _, rfl, upd_same, rfl, by simp⟩ ?_ ?_
    · rintro i σ' H' hi ⟨s, ns, r, u, rfl, hls, hlen, hb⟩
      walk_at "rd"
      refine k_i hm0 ?_
      walk_at "rd"
      refine k_append hls (by unfold intsL; rw [List.length_map]; omega) ?_
      walk_at "rd"
      refine k_i ⟨hm0, hm⟩ ?_
      rw [snoc]
      refine ⟨fun b o e => ?_, _, _, _, rfl, upd_same, by simp [hlen], fun v hv => ?_⟩
      · rw [upd_ne (ne_of_none e hl)]; exact s b o e
      · rcases List.mem_append.mp hv with z | z
        · exact hb v z
        · have : v = r % m := by simpa using z
          subst this
          exact ⟨Int.emod_nonneg _ (by omega), Int.emod_lt_of_pos _ hm0⟩
    · rintro σ' H' ⟨s, ns, r, u, rfl, hls, hlen, hb⟩
      walk_at "rd"
      exact q ns l H' hlen hb hl s hls
  · walk_at "rd"
    have hr : r0 < 10 ^ 18 := by
      have e : (10 : Int) ^ (18 : Int).toNat = 10 ^ 18 := by rfl
      rw [e] at hsm; omega
    refine k_rng1 (by omega) (fun i σ' H' => Same H H' ∧ ∃ ns u v, σ' = [some (.int c), some (.int (n : Nat)), some (.int m), some (.ref l), some (.int r0), u, v] ∧ H' l = some (.lst (intsL ns)) ∧ ns.length = i ∧ ∀ u ∈ ns, 0 ≤ u ∧ u < m)
      ⟨same_new hl, [], _, _, rfl, upd_same, rfl, by simp⟩ ?_ ?_
    · rintro i σ' H' hi ⟨s, ns, u, v, rfl, hls, hlen, hb⟩
      walk_at "rd"
      refine k_i (.inl (by omega)) ?_
      walk_at "rd"
      refine k_i (.inl (by omega)) ?_
      walk_at "rd"
      refine k_i (by decide) ?_
      walk_at "rd"
      generalize hx1 : (r0 * 48271 + (i : Int) * 69621 + 12345) % 2147483647 = x1
      have hx1' : 0 ≤ x1 ∧ x1 < 2147483647 := by omega
      refine k_i (.inl (by omega)) ?_
      walk_at "rd"
      refine k_i (.inl (by omega)) ?_
      walk_at "rd"
      refine k_i (by decide) ?_
      walk_at "rd"
      refine k_i (by unfold CDiv; decide) ?_
      walk_at "rd"
      refine k_i hm0 ?_
      walk_at "rd"
      refine k_append hls (by unfold intsL; rw [List.length_map]; omega) ?_
      rw [snoc]
      refine ⟨fun b o e => ?_, _, _, _, rfl, upd_same, by simp [hlen], fun v hv => ?_⟩
      · rw [upd_ne (ne_of_none e hl)]; exact s b o e
      · rcases List.mem_append.mp hv with z | z
        · exact hb v z
        · rw [List.mem_singleton] at z
          subst z
          exact ⟨Int.emod_nonneg _ (by omega), Int.emod_lt_of_pos _ hm0⟩
    · rintro σ' H' ⟨s, ns, u, v, rfl, hls, hlen, hb⟩
      walk_at "rd"
      exact q ns l H' hlen hb hl s hls
theorem kit_yes {A : String} {K : PySem.W.Frag} : PySem.W.kitOne K (.type A) (.type A) = some true := by
  unfold PySem.W.kitOne
  rw [if_pos (by simp)]
theorem pure__law_same {K : PySem.W.Frag} {a : Ad} (C : Cl K a) {x0 x1 : V} {H : Hp} {Q : VK} {E : XK} {d : Nat}
    (h : pr__law_same K a (d + 1) x0 x1 H Q E) : t__law_same K a (sp__law_same K a d) { nx := fun _ H' => Q .non H', rt := Q } [some x0, some x1, none] H := by
  obtain ⟨D, hd, h0, h1, q⟩ := h
  unfold t__law_same
  walk_at "rd"
  cases D with
  | none =>
    cases h0; cases h1
    refine k_isi (b := false) (.base .non) (kit_ty (by decide +kernel)) ?_
    walk_at "rd"
    refine kif_f ?_
    walk_at "rd"
    refine k_isi (b := false) (.base .non) (kit_ty (by decide +kernel)) ?_
    walk_at "rd"
    refine kif_f ?_
    walk_at "rd"
    refine k_isi (b := false) (.base .non) (kit_ty (by decide +kernel)) ?_
    walk_at "rd"
    refine kif_f ?_
    walk_at "rd"
    refine k_isi (b := false) (.base .non) (kit_ty (by decide +kernel)) ?_
    walk_at "rd"
    refine kif_f ?_
    walk_at "rd"
    refine kif_of rfl ?_
    walk_at "rd"
    exact q
  | bool b =>
    cases h0; cases h1
    refine k_isi (b := false) (.base (.bl b)) (kit_ty (by decide +kernel)) ?_
    walk_at "rd"
    refine kif_f ?_
    walk_at "rd"
    refine k_isi (.base (.bl b)) kit_yes ?_
    walk_at "rd"
    refine kif_t ?_
    walk_at "rd"
    refine k_isi (.base (.bl b)) kit_yes ?_
    walk_at "rd"
    refine kif_t ?_
    walk_at "rd"
    rw [decide_eq_true rfl]
    exact q
  | int i =>
    cases h0; cases h1
    refine k_isi (b := false) (.base (.int i)) (kit_ty (by decide +kernel)) ?_
    walk_at "rd"
    refine kif_f ?_
    walk_at "rd"
    refine k_isi (b := false) (.base (.int i)) (kit_ty (by decide +kernel)) ?_
    walk_at "rd"
    refine kif_f ?_
    walk_at "rd"
    refine k_isi (.base (.int i)) kit_yes ?_
    walk_at "rd"
    refine kif_t ?_
    walk_at "rd"
    refine k_isi (.base (.int i)) kit_yes ?_
    walk_at "rd"
    refine kif_t ?_
    walk_at "rd"
    refine k_isi (b := false) (.base (.int i)) (kit_ty (by decide +kernel)) ?_
    walk_at "rd"
    refine kif_of rfl ?_
    walk_at "rd"
    rw [decide_eq_true rfl]
    exact q
  | str x =>
    cases h0; cases h1
    refine k_isi (b := false) (.base (.str x)) (kit_ty (by decide +kernel)) ?_
    walk_at "rd"
    refine kif_f ?_
    walk_at "rd"
    refine k_isi (b := false) (.base (.str x)) (kit_ty (by decide +kernel)) ?_
    walk_at "rd"
    refine kif_f ?_
    walk_at "rd"
    refine k_isi (b := false) (.base (.str x)) (kit_ty (by decide +kernel)) ?_
    walk_at "rd"
    refine kif_f ?_
    walk_at "rd"
    refine k_isi (.base (.str x)) kit_yes ?_
    walk_at "rd"
    refine kif_t ?_
    walk_at "rd"
    refine k_isi (.base (.str x)) kit_yes ?_
    walk_at "rd"
    refine kif_t ?_
    walk_at "rd"
    rw [decide_eq_true rfl]
    exact q
  | list ds => exact hd.elim
  | dict ds => exact hd.elim
  | tuple ds =>
    obtain ⟨hz, hd⟩ := hd
    cases h0 with | @tup a0 xs _ s0 d0 => ?_
    cases h1 with | @tup a1 ys _ s1 d1 => ?_
    have l0 := dpall_len d0
    have l1 := dpall_len d1
    refine k_isi (tyx_tup s1) kit_yes ?_
    walk_at "rd"
    refine kif_t ?_
    walk_at "rd"
    refine k_isi (tyx_tup s0) kit_yes ?_
    walk_at "rd"
    refine kif_f ?_
    walk_at "rd"
    refine k_lenT s0 ?_
    walk_at "rd"
    refine k_lenT s1 ?_
    walk_at "rd"
    refine kif_no (by rw [l0, l1]; simp) ?_
    walk_at "rd"
    refine k_lenT s1 ?_
    walk_at "rd"
    refine k_rng1 (by omega) (fun i σ' H' => H' = H ∧ ∃ u, σ' = [some (.ref a0), some (.ref a1), u]) ⟨rfl, _, rfl⟩ ?_ ?_
    · rintro i σ' H' hi ⟨rfl, u, rfl⟩
      obtain ⟨v0, e0, p1, p2, p3⟩ := dpall_at (i := i) d0 (by omega)
      obtain ⟨v1, e1, p4, p5, p6⟩ := dpall_at (i := i) d1 (by omega)
      rw [p2] at p5; cases p5
      walk_at "rd"
      refine k_ixT s0 (atI_nat p1) ?_
      walk_at "rd"
      refine k_ixT s1 (atI_nat p4) ?_
      walk_at "rd"
      refine sp2_i ⟨e0, hd e0 (List.mem_of_getElem? p2), p3, p6, ?_⟩
      walk_at "rd"
      refine kif_f ?_
      walk_at "rd"
      exact ⟨rfl, _, rfl⟩
    · rintro σ' H' ⟨rfl, u, rfl⟩
      walk_at "rd"
      exact q
theorem perm_pop {R O : List Nat} {n k j : Nat} (h : (O ++ R).Perm (List.range n)) (hj : R[k]? = some j) : (O ++ [j] ++ R.eraseIdx k).Perm (List.range n) := by
  refine List.Perm.trans ?_ h
  rw [List.append_assoc]
  refine List.Perm.append_left O ?_
  have hk : k < R.length := (List.getElem?_eq_some_iff.mp hj).1
  have e : R = R.take k ++ j :: R.drop (k + 1) := by
    have z : R[k] = j := (List.getElem?_eq_some_iff.mp hj).2
    rw [← z, ← List.drop_eq_getElem_cons hk, List.take_append_drop]
  have e2 : R.eraseIdx k = R.take k ++ R.drop (k + 1) := List.eraseIdx_eq_take_drop_succ ..
  rw [e2]
  conv => rhs; rw [e]
  show (j :: (R.take k ++ R.drop (k + 1))).Perm _
  exact List.perm_middle.symm
theorem pure__law_shuffled {K : PySem.W.Frag} {a : Ad} (C : Cl K a) {x0 x1 : V} {H : Hp} {Q : VK} {E : XK}
    (h : pr__law_shuffled K a x0 x1 H Q E) : t__law_shuffled K a { nx := fun _ H' => Q .non H', rt := Q } [some x0, some x1, none, none, none, none] H := by
  obtain ⟨c, n, rfl, rfl, hn, q⟩ := h
  unfold t__law_shuffled
  walk_at "rd"
  refine k_lcR1 (ys := intL (List.range n)) (by unfold intL; simp) hn (fun _ => rfl) (fun i y H' hi hy s Q2 q2 => ?_) fun r H1 hr s1 hr1 => ?_
  · have ey : y = .int (i : Nat) := by
      unfold intL at hy
      rw [List.getElem?_map, List.getElem?_range hi] at hy
      exact (Option.some.inj hy).symm
    subst ey
    walk_at "rd"
    exact q2 _ (Same.refl _)
  walk_at "rd"
  refine sp3_i ⟨c, n, 1048576, rfl, rfl, rfl, hn, by decide, by decide, fun ns p H2 hlen hb hp s2 hns => ?_⟩
  walk_at "rd"
  refine k_lst (by simp) fun l hl => ?_
  walk_at "rd"
  have sH2 : Same H H2 := s1.trans s2
  have hr2 : H2 r = some (.lst (intL (List.range n))) := s2 _ _ hr1
  have rl : r ≠ l := ne_of_none hr2 hl
  have pl : p ≠ l := ne_of_none hns hl
  have rp : r ≠ p := ne_of_none hr1 hp
  refine k_rng1 (by omega) (fun i σ' H' => Same H H' ∧ ∃ R O u, σ' = [some (.int c), some (.int (n : Nat)), some (.ref r), some (.ref p), some (.ref l), u] ∧ H' r = some (.lst (intL R)) ∧ H' l = some (.lst (intL O)) ∧ H' p = some (.lst (intsL ns)) ∧ R.length = n - i ∧ O.length = i ∧ (O ++ R).Perm (List.range n))
    ⟨sH2.trans (same_new hl), List.range n, [], _, rfl, same_new hl _ _ hr2, upd_same, same_new hl _ _ hns, by simp, rfl, by simp⟩ ?_ ?_
  · rintro i σ' H' hi ⟨s, R, O, u, rfl, hR, hO, hP, lR, lO, pm⟩
    walk_at "rd"
    refine k_ixL (by walk_at "sq") (atI_nat (v := V.int ns[i]) (by unfold intsL; rw [List.getElem?_map, List.getElem?_eq_getElem (by omega)]; rfl)) ?_
    walk_at "rd"
    have hRl : (intL R).length = n - i := by unfold intL; rw [List.length_map]; exact lR
    refine k_i (by rw [hRl]; omega) ?_
    rw [hRl]
    obtain ⟨k, hk⟩ : ∃ k : Nat, ns[i] % ((n - i : Nat) : Int) = (k : Nat) := ⟨(ns[i] % ((n - i : Nat) : Int)).toNat, (Int.toNat_of_nonneg (Int.emod_nonneg _ (by omega))).symm⟩
    have hkl : k < R.length := by
      have := Int.emod_lt_of_pos ns[i] (b := ((n - i : Nat) : Int)) (by omega)
      omega
    rw [hk]
    walk_at "rd"
    refine k_popAt (y := .int ((R[k] : Nat) : Int)) hR (by unfold intL; rw [List.getElem?_map, List.getElem?_eq_getElem hkl]; rfl) (by omega) ?_
    walk_at "rd"
    have eR : (intL R).eraseIdx k = intL (R.eraseIdx k) := by unfold intL; rw [List.eraseIdx_eq_take_drop_succ, List.eraseIdx_eq_take_drop_succ, List.map_append, List.map_take, List.map_drop]
    have eO : intL O ++ [V.int ((R[k] : Nat) : Int)] = intL (O ++ [R[k]]) := by unfold intL; rw [List.map_append]; rfl
    rw [eR]
    refine k_append (xs := intL O) (by rw [upd_ne rl.symm]; exact hO) (by unfold intL; rw [List.length_map]; omega) ?_
    rw [eO]
    refine ⟨fun b o e => ?_, R.eraseIdx k, O ++ [R[k]], _, rfl, ?_, upd_same, ?_, ?_, ?_, perm_pop pm (List.getElem?_eq_getElem hkl)⟩
    · rw [upd_ne (ne_of_none (sH2 _ _ e) hl), upd_ne (ne_of_none e hr)]; exact s b o e
    · rw [upd_ne rl]; exact upd_same
    · rw [upd_ne pl, upd_ne rp.symm]; exact hP
    · rw [List.length_eraseIdx, if_pos hkl]; omega
    · simp [lO]
  · rintro σ' H' ⟨s, R, O, u, rfl, hR, hO, hP, lR, lO, pm⟩
    walk_at "rd"
    have : R = [] := List.eq_nil_of_length_eq_zero (by omega)
    subst this
    rw [List.append_nil] at pm
    refine q O l H' pm (sH2.free hl) s hO
end K60

namespace K60
open PySem L2 Lh
local macro_rules | `(tactic| walk_at "ne") => `(tactic| first | assumption | exact Ne.symm (by assumption) | ((with_reducible refine' lne ?h1 ?h2 ?h3); (case h1 => assumption); (case h2 => assumption); (case h3 => simp)) | ((with_reducible refine' nn ?h1 ?h2); (case h1 => assumption); (case h2 => walk_at "hp")) | (apply Ne.symm; (with_reducible refine' nn ?h1 ?h2); (case h1 => assumption); (case h2 => walk_at "hp")))
local macro_rules | `(tactic| walk_at "hp") => `(tactic| first | assumption | exact upd_same | (refine Eq.trans (upd_ne ?hne) ?hrest; (case hne => walk_at "ne"); (case hrest => walk_at "hp")))
local macro_rules | `(tactic| walk_at "sq") => `(tactic| first | assumption | (refine Or.inl (Or.inl ?hsq); (case hsq => walk_at "hp")))
local macro_rules | `(tactic| walk_at "r1") => `(tactic| first
  | with_reducible refine r_seq ?_ | with_reducible refine r_asg ?_ | with_reducible refine r_sfld ?_ | with_reducible refine r_ret ?_ | with_reducible refine r_retN ?_ | with_reducible refine r_drop ?_
  | with_reducible refine r_next ?_ | with_reducible refine r_ifs ?_ | with_reducible refine r_dput ?_ | with_reducible refine r_asgG ?_ | with_reducible refine r_gsub ?_
  | ((with_reducible refine' r_var ?hv ?_); (case hv => exact rfl)) | with_reducible refine r_c ?_ | with_reducible refine r_op ?_ | with_reducible refine r_un ?_ | with_reducible refine r_fld ?_
  | with_reducible refine r_cb ?_ | with_reducible refine r_tup ?_ | with_reducible refine r_lst ?_ | with_reducible refine r_nil ?_ | with_reducible refine r_cons ?_ | with_reducible refine r_dget ?_
  | with_reducible refine r_din ?_ | with_reducible refine r_dnin ?_ | with_reducible refine r_call ?_ | with_reducible refine r_meth ?_ | with_reducible refine r_methE ?_ | with_reducible refine r_bm ?_ | with_reducible refine r_bm0 ?_
  | with_reducible refine r_test ?_ | with_reducible refine r_tb ?_ | with_reducible refine r_not ?_ | with_reducible refine r_and ?_ | with_reducible refine r_or ?_ | with_reducible refine r_andV ?_ | with_reducible refine r_orV ?_
  | with_reducible refine r_notV ?_ | with_reducible refine r_tif ?_
  | with_reducible refine k_bl ?_ | with_reducible refine k_i0 ?_ | with_reducible refine k_u ?_ | with_reducible refine k_isN ?_ | with_reducible refine k_notN ?_ | with_reducible refine k_int ?_ | with_reducible refine k_abs ?_ | with_reducible refine k_max ?_ | with_reducible refine k_min ?_
  | with_reducible refine k_eq rfl ?_ | with_reducible refine k_ne rfl ?_
  | ((with_reducible refine' k_fld ?hc ?hn ?ho ?hl ?_); (case hc => assumption); (case hn => assumption); (case ho => walk_at "hp"); (case hl => walk_at "lk"))
  | ((with_reducible refine' k_len ?ho ?_); (case ho => walk_at "sq"))
  | ((with_reducible refine' k_bml ?ho ?_); (case ho => walk_at "hp"))
  | ((with_reducible refine' k_sfld ?hc ?hn ?ho ?hl ?_); (case hc => assumption); (case hn => assumption); (case ho => walk_at "hp"); (case hl => walk_at "ll"))
  | ((with_reducible refine' k_meth ?ho ?hl ?_); (case ho => walk_at "hp"); (case hl => walk_at "nm"))
  | ((with_reducible refine' k_methE ?ho ?hl ?_); (case ho => walk_at "hp"); (case hl => walk_at "nm"))
  | with_reducible refine r_rng1 ?_ | with_reducible refine r_rng2 ?_ | with_reducible refine r_forL ?_ | with_reducible refine r_forT ?_ | with_reducible refine r_enum ?_ | with_reducible refine r_lcL ?_ | with_reducible refine r_lcR1 ?_ | with_reducible refine r_raise ?_ | with_reducible refine r_make ?_
  | ((with_reducible refine' k_dgetS ?ho ?hg ?_); (case ho => walk_at "hp"); (case hg => walk_at "dg"))
  | with_reducible refine r_pcons ?_ | with_reducible refine r_pnil ?_ | with_reducible refine r_xf ?_ | with_reducible refine r_try ?_)
local macro_rules | `(tactic| walk_at "rd") => `(tactic| repeat (first | walk_at "r1" | (dsimp only; walk_at "r1")))
local macro_rules | `(tactic| walk_at "fr") => `(tactic| first | assumption | (apply un; assumption) | (apply un; apply un; assumption) | (apply un; apply un; apply un; assumption) | (apply un; apply un; apply un; apply un; assumption) | (apply un; apply un; apply un; apply un; apply un; assumption) | (apply un; apply un; apply un; apply un; apply un; apply un; assumption))
local macro_rules | `(tactic| walk_at "lk") => `(tactic| first | exact lk_Frames_0 | exact lk_Frames_1 | exact lk_Frames_2)
local macro_rules | `(tactic| walk_at "ll") => `(tactic| first | (rw [ln_Frames]; decide) | with_reducible exact lt0 | with_reducible exact lt1 | with_reducible exact lt2 | with_reducible exact lt3 | with_reducible exact lt4)
local macro_rules | `(tactic| walk_at "nm") => `(tactic| first | exact nm_Frames_size | exact nm_Frames_in_use | exact nm_Frames__check | exact nm_Frames__use | exact nm_Frames_free_frame | exact nm_Frames_order | exact nm_Frames_oldest | exact nm_Frames_fill | exact nm_Frames_words | exact nm_Frames_word | exact nm_Frames_set_word | exact nm_Frames_touch | exact nm_Frames_empty | exact nm_Frames_resize | exact nm_Frames_frozen)
local macro_rules | `(tactic| walk_at "cl") => `(tactic| (have c1 := Cl.cl_Frames (by assumption); have n1 := Cl.na_Frames__contents (by assumption); have n2 := Cl.na_Frames__stamps (by assumption); have n3 := Cl.na_Frames__latest (by assumption)))
theorem kfw : ¬ ((Sum.inr ("words" : Str) : Key) = Sum.inr ("frames" : Str)) := by decide +kernel
theorem kfo : ¬ ((Sum.inr ("order" : Str) : Key) = Sum.inr ("frames" : Str)) := by decide +kernel
theorem kwo : ¬ ((Sum.inr ("order" : Str) : Key) = Sum.inr ("words" : Str)) := by decide +kernel
theorem sd_f {p w o : Addr} : valV (sdD p w o) (.inr "frames") = some (.ref p) := by
  unfold sdD
  rw [valV_put, if_neg (fun z => kfo z.symm), valV_put, if_neg (fun z => kfw z.symm), valV_put, if_pos rfl]
theorem sd_w {p w o : Addr} : valV (sdD p w o) (.inr "words") = some (.ref w) := by
  unfold sdD
  rw [valV_put, if_neg (fun z => kwo z.symm), valV_put, if_pos rfl]
theorem sd_o {p w o : Addr} : valV (sdD p w o) (.inr "order") = some (.ref o) := by
  unfold sdD
  rw [valV_put, if_pos rfl]
local macro_rules | `(tactic| walk_at "dg") => `(tactic| first | with_reducible exact sd_f | with_reducible exact sd_w | with_reducible exact sd_o)
theorem Ord.len {F : Fr} {O : List Nat} (h : Ord F O) : O.length ≤ F.cont.length := by
  rw [(inU_perm h).length_eq]
  unfold inU
  exact Nat.le_trans (List.length_filter_le _ _) (by simp)
theorem FrA.s48 {a : Ad} {L : Lb} {k : Nat} {H : Hp} {p : Addr} {F : Fr} (h : FrA a L k H p F) : F.cont.length ≤ 48 := by
  obtain ⟨_, _, _, f⟩ := h
  exact f.s48
theorem FrA.of {a : Ad} {L L' : Lb} {k : Nat} {H H' : Hp} {p : Addr} {F : Fr} (h : FrA a L k H p F) (e : ∀ x l, L x = some l → L' x = some l) (f : ∀ x l o, L x = some l → l.1 = k → H x = some o → H' x = some o) : FrA a L' k H' p F := by
  obtain ⟨c, t, qs, lp, lc, lt, ⟨dx, ob⟩, hc, ht, ls, hq, wf, s1, s48⟩ := h
  exact ⟨c, t, qs, e _ _ lp, e _ _ lc, e _ _ lt, ⟨dx, f _ _ _ lp rfl ob⟩, f _ _ _ lc rfl hc, f _ _ _ lt rfl ht, ls, hq.of e fun x i o hl hx => f _ _ _ hl rfl hx, wf, s1, s48⟩
theorem FrA.keep {a : Ad} {S : Nat → Prop} {L L' : Lb} {k : Nat} {H H' : Hp} {p : Addr} {F : Fr} (h : FrA a L k H p F) (s : Stp S H L H' L') (hk : ¬ S k) : FrA a L' k H' p F :=
  h.of s.ext fun x l o hl el hx => s.lbl hl (by rw [el]; exact hk) hx
theorem SdA.keep {a : Ad} {S : Nat → Prop} {L L' : Lb} {kf kl : Nat} {H H' : Hp} {s p : Addr} {F : Fr} {O : List Nat} (h : SdA a L kf kl H s p F O) (st : Stp S H L H' L') (h1 : ¬ S kf) (h2 : ¬ S kl) : SdA a L' kf kl H' s p F O := by
  obtain ⟨w, o, qs, ls, lw, lo, hs, hw, hq, ho, fr, od, ne⟩ := h
  exact ⟨w, o, qs, st.ext _ _ ls, st.ext _ _ lw, st.ext _ _ lo, st.lbl ls h2 hs, st.lbl lw h2 hw, hq.keep st h2, st.lbl lo h2 ho, fr.keep st h1, od, ne⟩
theorem pure__law_content {K : PySem.W.Frag} {a : Ad} (C : Cl K a) {x0 : V} {H : Hp} {Q : VK} {E : XK}
    (h : pr__law_content K a x0 H Q E) : t__law_content K a { nx := fun _ H' => Q .non H', rt := Q } [some x0, none] H := by
  obtain ⟨w, rfl, q⟩ := h
  unfold t__law_content
  walk_at "rd"
  refine k_lcR1 (n := 16) (ys := intsL ((List.range 16).map fun i : Nat => (w + 7 * (i : Nat)) % 65521)) (by unfold intsL; simp) (by decide) (fun _ => rfl) (fun i y H' hi hy s Q2 q2 => ?_) fun r H1 hr s1 hr1 => ?_
  · have ey : y = .int ((w + 7 * (i : Nat)) % 65521) := by
      unfold intsL at hy
      rw [List.getElem?_map, List.getElem?_map, List.getElem?_range hi] at hy
      exact (Option.some.inj hy).symm
    subst ey
    walk_at "rd"
    refine k_i (.inl (by omega)) ?_
    walk_at "rd"
    refine k_i (by decide) ?_
    exact q2 _ (Same.refl _)
  · exact q _ r H1 (by simp) hr s1 hr1
theorem pure__law_filled {K : PySem.W.Frag} {a : Ad} (C : Cl K a) {x0 x1 x2 : V} {H : Hp} {Q : VK} {E : XK}
    (h : pr__law_filled K a x0 x1 x2 H Q E) : t__law_filled K a { nx := fun _ H' => Q .non H', rt := Q } [some x0, some x1, some x2, none, none, none] H := by
  obtain ⟨s, i, wd, L, kf, kl, p, F, O, rfl, rfl, rfl, hL, ⟨w, o, qs, ls, lw, lo, hs, hw, hq, ho, fr, od, ne⟩, hi, q⟩ := h
  have hil : i < F.cont.length := (List.getElem?_eq_some_iff.mp hi).1
  unfold t__law_filled
  walk_at "rd"
  refine sp1_i ⟨wd, rfl, fun ws pc H1 h16 hpc s1 hp1 => ?_⟩
  have hs1 := s1 _ _ hs
  walk_at "rd"
  have fr1 : FrA a L kf H1 p F := fr.of (fun _ _ e => e) fun x l o _ _ hx => s1 _ _ hx
  obtain ⟨c0, t0, qs0, fr0⟩ := id fr1
  obtain ⟨dx0, ob0⟩ := fr0.ob
  walk_at "rd"
  refine k_tupL (.inl (.inl hp1)) fun z hz => ?_
  have sz : Same H1 (upd H1 z (HO.tup (intsL ws))) := same_new hz
  have fr2 : FrA a L kf (upd H1 z (HO.tup (intsL ws))) p F := fr1.of (fun _ _ e => e) fun x l o _ _ hx => sz _ _ hx
  have hs2 := sz _ _ hs1
  have hw2 := sz _ _ (s1 _ _ hw)
  have ho2 := sz _ _ (s1 _ _ ho)
  have hp2 := sz _ _ hp1
  have hL2 : Lab (upd H1 z (HO.tup (intsL ws))) L := (hL.same s1).same sz
  have sH2 : Same H (upd H1 z (HO.tup (intsL ws))) := s1.trans sz
  have st0 : Stp (Two kf kl) H L (upd H1 z (HO.tup (intsL ws))) L := Stp.of_same hL (s1.trans sz)
  have hz2 : upd H1 z (HO.tup (intsL ws)) z = some (.tup (intsL ws)) := upd_same
  generalize upd H1 z (HO.tup (intsL ws)) = H2 at *
  walk_at "rd"
  refine sp3_i ⟨p, i, z, ws, L, kf, F, rfl, rfl, rfl, hL2, fr2, hi, h16, hz2, fun H3 L3 st fa => ?_⟩
  walk_at "rd"
  refine sp2_i ⟨.none, trivial, .non, .non, ?_⟩
  walk_at "rd"
  refine kif_f ?_
  have nkl : ¬ (kl = kf) := fun e => ne e.symm
  have hpcL : L pc = none := hL.none hpc
  have hpc3 : L3 pc = none := st.nolab hpcL hp2
  have hs3 := st.lbl ls nkl hs2
  have hw3 := st.lbl lw nkl hw2
  have ho3 := st.lbl lo nkl ho2
  have hp3 := st.unl hpcL hp2
  have stA : Stp (Two kf kl) H L H3 (updL L3 pc (kl, 3, i)) := (st0.trans (st.mono fun k e => .inl e)).relabel hpc hpc3 hp3
  have lw3 := stA.ext _ _ lw
  have lo3 := stA.ext _ _ lo
  have ls3 := stA.ext _ _ ls
  have lp3 : updL L3 pc (kl, 3, i) pc = some (kl, 3, i) := updL_same
  have fr3 : FrA a (updL L3 pc (kl, 3, i)) kf H3 p (F.fill i ws) := fa.of (fun x l e => updL_ext hpc3 e) fun x l o _ _ hx => hx
  have hq3 : OLs (updL L3 pc (kl, 3, i)) H3 kl 3 qs F.cont := (hq.of (fun _ _ e => e) fun x i o hl hx => sH2 _ _ hx).of (fun x l e => updL_ext hpc3 (st.ext _ _ e)) fun x i o hl hx => st.lbl hl nkl hx
  generalize updL L3 pc (kl, 3, i) = L4 at *
  walk_at "rd"
  refine k_setL hw3 (by rw [List.length_map, hq.len]; exact hil) ?_
  walk_at "rd"
  refine k_append (xs := intL O) (by rw [upd_ne (lne lo3 lw3 (by simp))]; exact ho3) (by unfold intL; rw [List.length_map]; have := od.len; have := fr.s48; omega) ?_
  walk_at "rd"
  have stB : Stp (· = kl) H3 L4 (upd H3 w (HO.lst ((qs.map oV).set i (.ref pc)))) L4 := Stp.write stA.lab lw3 rfl hw3
  have stC := stB.trans (Stp.write (o := HO.lst (intL O ++ [.int (i : Nat)])) stB.lab lo3 rfl (by rw [upd_ne (lne lo3 lw3 (by simp))]; exact ho3))
  refine q ws _ L4 h16 (stA.trans (stC.mono fun k e => .inr e)) ⟨w, o, qs.set i (some pc), ls3, lw3, lo3, ?_, ?_, ?_, ?_, fr3.keep stC ne, od.filled hi, ne⟩
  · rw [upd_ne (lne ls3 lo3 (by simp)), upd_ne (lne ls3 lw3 (by simp))]; exact hs3
  · rw [upd_ne (lne lw3 lo3 (by simp)), upd_same, List.map_set]; rfl
  · refine OLs.set (hq3.of (fun _ _ e => e) fun x i o hl hx => ?_) lp3 ?_
    · rw [upd_ne (lne hl lo3 (by simp)), upd_ne (lne hl lw3 (by simp))]; exact hx
    · rw [upd_ne (lne lp3 lo3 (by simp)), upd_ne (lne lp3 lw3 (by simp))]; exact hp3
  · rw [upd_same]; unfold intL; rw [List.map_append]; rfl
end K60

namespace K60
open PySem L2 Lh
local macro_rules | `(tactic| walk_at "ne") => `(tactic| first | assumption | exact Ne.symm (by assumption) | ((with_reducible refine' lne ?h1 ?h2 ?h3); (case h1 => assumption); (case h2 => assumption); (case h3 => simp)) | ((with_reducible refine' nn ?h1 ?h2); (case h1 => assumption); (case h2 => walk_at "hp")) | (apply Ne.symm; (with_reducible refine' nn ?h1 ?h2); (case h1 => assumption); (case h2 => walk_at "hp")))
local macro_rules | `(tactic| walk_at "hp") => `(tactic| first | assumption | exact upd_same | (refine Eq.trans (upd_ne ?hne) ?hrest; (case hne => walk_at "ne"); (case hrest => walk_at "hp")))
local macro_rules | `(tactic| walk_at "sq") => `(tactic| first | assumption | (refine Or.inl (Or.inl ?hsq); (case hsq => walk_at "hp")))
local macro_rules | `(tactic| walk_at "r1") => `(tactic| first
  | with_reducible refine r_seq ?_ | with_reducible refine r_asg ?_ | with_reducible refine r_sfld ?_ | with_reducible refine r_ret ?_ | with_reducible refine r_retN ?_ | with_reducible refine r_drop ?_
  | with_reducible refine r_next ?_ | with_reducible refine r_ifs ?_ | with_reducible refine r_dput ?_ | with_reducible refine r_asgG ?_ | with_reducible refine r_gsub ?_
  | ((with_reducible refine' r_var ?hv ?_); (case hv => exact rfl)) | with_reducible refine r_c ?_ | with_reducible refine r_op ?_ | with_reducible refine r_un ?_ | with_reducible refine r_fld ?_
  | with_reducible refine r_cb ?_ | with_reducible refine r_tup ?_ | with_reducible refine r_lst ?_ | with_reducible refine r_nil ?_ | with_reducible refine r_cons ?_ | with_reducible refine r_dget ?_
  | with_reducible refine r_din ?_ | with_reducible refine r_dnin ?_ | with_reducible refine r_call ?_ | with_reducible refine r_meth ?_ | with_reducible refine r_methE ?_ | with_reducible refine r_bm ?_ | with_reducible refine r_bm0 ?_
  | with_reducible refine r_test ?_ | with_reducible refine r_tb ?_ | with_reducible refine r_not ?_ | with_reducible refine r_and ?_ | with_reducible refine r_or ?_ | with_reducible refine r_andV ?_ | with_reducible refine r_orV ?_
  | with_reducible refine r_notV ?_ | with_reducible refine r_tif ?_
  | with_reducible refine k_bl ?_ | with_reducible refine k_i0 ?_ | with_reducible refine k_u ?_ | with_reducible refine k_isN ?_ | with_reducible refine k_notN ?_ | with_reducible refine k_int ?_ | with_reducible refine k_abs ?_ | with_reducible refine k_max ?_ | with_reducible refine k_min ?_
  | with_reducible refine k_eq rfl ?_ | with_reducible refine k_ne rfl ?_
  | ((with_reducible refine' k_fld ?hc ?hn ?ho ?hl ?_); (case hc => assumption); (case hn => assumption); (case ho => walk_at "hp"); (case hl => walk_at "lk"))
  | ((with_reducible refine' k_len ?ho ?_); (case ho => walk_at "sq"))
  | ((with_reducible refine' k_bml ?ho ?_); (case ho => walk_at "hp"))
  | ((with_reducible refine' k_sfld ?hc ?hn ?ho ?hl ?_); (case hc => assumption); (case hn => assumption); (case ho => walk_at "hp"); (case hl => walk_at "ll"))
  | ((with_reducible refine' k_meth ?ho ?hl ?_); (case ho => walk_at "hp"); (case hl => walk_at "nm"))
  | ((with_reducible refine' k_methE ?ho ?hl ?_); (case ho => walk_at "hp"); (case hl => walk_at "nm"))
  | with_reducible refine r_rng1 ?_ | with_reducible refine r_rng2 ?_ | with_reducible refine r_forL ?_ | with_reducible refine r_forT ?_ | with_reducible refine r_enum ?_ | with_reducible refine r_lcL ?_ | with_reducible refine r_lcR1 ?_ | with_reducible refine r_raise ?_ | with_reducible refine r_make ?_
  | ((with_reducible refine' k_dgetS ?ho ?hg ?_); (case ho => walk_at "hp"); (case hg => walk_at "dg"))
  | with_reducible refine r_pcons ?_ | with_reducible refine r_pnil ?_ | with_reducible refine r_xf ?_ | with_reducible refine r_try ?_)
local macro_rules | `(tactic| walk_at "rd") => `(tactic| repeat (first | walk_at "r1" | (dsimp only; walk_at "r1")))
local macro_rules | `(tactic| walk_at "fr") => `(tactic| first | assumption | (apply un; assumption) | (apply un; apply un; assumption) | (apply un; apply un; apply un; assumption) | (apply un; apply un; apply un; apply un; assumption) | (apply un; apply un; apply un; apply un; apply un; assumption) | (apply un; apply un; apply un; apply un; apply un; apply un; assumption))
local macro_rules | `(tactic| walk_at "lk") => `(tactic| first | exact lk_Frames_0 | exact lk_Frames_1 | exact lk_Frames_2)
local macro_rules | `(tactic| walk_at "ll") => `(tactic| first | (rw [ln_Frames]; decide) | with_reducible exact lt0 | with_reducible exact lt1 | with_reducible exact lt2 | with_reducible exact lt3 | with_reducible exact lt4)
local macro_rules | `(tactic| walk_at "nm") => `(tactic| first | exact nm_Frames_size | exact nm_Frames_in_use | exact nm_Frames__check | exact nm_Frames__use | exact nm_Frames_free_frame | exact nm_Frames_order | exact nm_Frames_oldest | exact nm_Frames_fill | exact nm_Frames_words | exact nm_Frames_word | exact nm_Frames_set_word | exact nm_Frames_touch | exact nm_Frames_empty | exact nm_Frames_resize | exact nm_Frames_frozen)
local macro_rules | `(tactic| walk_at "cl") => `(tactic| (have c1 := Cl.cl_Frames (by assumption); have n1 := Cl.na_Frames__contents (by assumption); have n2 := Cl.na_Frames__stamps (by assumption); have n3 := Cl.na_Frames__latest (by assumption)))
local macro_rules | `(tactic| walk_at "dg") => `(tactic| first | with_reducible exact sd_f | with_reducible exact sd_w | with_reducible exact sd_o)
theorem sdD_eq {p w o : Addr} : sdD p w o = mergeK [] [(.inr "frames", .ref p), (.inr "words", .ref w), (.inr "order", .ref o)] := rfl
theorem pure__law_begun {K : PySem.W.Frag} {a : Ad} (C : Cl K a) {x0 x1 x2 : V} {H : Hp} {Q : VK} {E : XK}
    (h : pr__law_begun K a x0 x1 x2 H Q E) : t__law_begun K a { nx := fun _ H' => Q .non H', rt := Q } [some x0, some x1, some x2, none, none] H := by
  obtain ⟨n, c, sd, L, kf, kl, rfl, rfl, rfl, h1, h48, hL, ne, q⟩ := h
  unfold t__law_begun
  walk_at "rd"
  refine r_disp fun s hs => ?_
  walk_at "rd"
  refine k_make fun x dx hx hdx nex => ?_
  refine sp2_i ⟨x, dx, n, rfl, rfl, h1, h48, upd_same, fun c' t H' hc ht cct kp ob oc ot => ⟨rfl, ?_⟩⟩
  have st0 : Stp (Two kf kl) H L (upd H s (.dK [])) L := Stp.alloc hL hs
  have hs0 : upd H s (.dK []) s = some (.dK []) := upd_same
  have hsL : L s = none := hL.none hs
  have sH0 : Same H (upd H s (.dK [])) := same_new hs
  generalize upd H s (.dK []) = H0 at *
  have m2 : Same H0 (upd (upd H0 dx (.own x)) x (.ins a.C_Frames dx [])) := Same.mk2 hx hdx
  have sH : Same H0 H' := fun b o e => kp b o (m2 b o e) (ne_of_none e hx)
  have xc : x ≠ c' := ne_of_none (H := upd (upd H0 dx (.own x)) x (.ins a.C_Frames dx [])) upd_same hc
  have xt : x ≠ t := ne_of_none (H := upd (upd H0 dx (.own x)) x (.ins a.C_Frames dx [])) upd_same ht
  obtain ⟨st1, fa⟩ := FrA.made (S := Two kf kl) (k := kf) (a := a) st0.lab hx sH (m2.free hc) (m2.free ht) xc xt cct ob oc ot h1 h48
  generalize updL (updL (updL L x (kf, 0, 0)) c' (kf, 1, 0)) t (kf, 2, 0) = L1 at st1 fa
  have st2 := st0.trans st1
  walk_at "rd"
  refine k_lst (by simp) fun l hl => ?_
  walk_at "rd"
  refine k_rep upd_same (by omega) (by omega) (by simp [sizeLine_eq]; omega) fun w hw => ?_
  rw [Int.toNat_natCast, flat_rep]
  walk_at "rd"
  refine k_lst (by simp) fun o ho => ?_
  walk_at "rd"
  have s3 : Same H' (upd (upd (upd H' l (HO.lst [V.non])) w (HO.lst (List.replicate n V.non))) o (HO.lst [])) := (same_new hl).trans ((same_new hw).trans (same_new ho))
  have hw3 : upd (upd (upd H' l (HO.lst [V.non])) w (HO.lst (List.replicate n V.non))) o (HO.lst []) w = some (.lst (List.replicate n V.non)) := same_new ho _ _ upd_same
  have ho3 : upd (upd (upd H' l (HO.lst [V.non])) w (HO.lst (List.replicate n V.non))) o (HO.lst []) o = some (.lst []) := upd_same
  have hw0 : H' w = none := un hw
  have ho0 : H' o = none := un (un ho)
  have wo : w ≠ o := ne_of_none (H := upd (upd H' l (HO.lst [V.non])) w (HO.lst (List.replicate n V.non))) upd_same ho
  generalize upd (upd (upd H' l (HO.lst [V.non])) w (HO.lst (List.replicate n V.non))) o (HO.lst []) = H3 at *
  have hs3 : H3 s = some (.dK []) := s3 _ _ (sH _ _ hs0)
  have sw : s ≠ w := ne_of_none (sH _ _ hs0) hw0
  have so : s ≠ o := ne_of_none (sH _ _ hs0) ho0
  have st3 := st2.trans (Stp.of_same (S := Two kf kl) st2.lab s3)
  have hs1 : L1 s = none := st1.nolab hsL hs0
  have hw1 : L1 w = none := st2.lab.none hw0
  have ho1 : L1 o = none := st2.lab.none ho0
  have st4 := st3.relabel (l := (kl, 0, 0)) hs hs1 hs3
  have st5 := st4.relabel (p := w) (l := (kl, 1, 0)) (st2.fresh hw0) (by rw [updL_ne sw.symm]; exact hw1) hw3
  have st6 := st5.relabel (p := o) (l := (kl, 2, 0)) (st2.fresh ho0) (by rw [updL_ne wo.symm, updL_ne so.symm]; exact ho1) ho3
  have ls : updL (updL (updL L1 s (kl, 0, 0)) w (kl, 1, 0)) o (kl, 2, 0) s = some (kl, 0, 0) := by rw [updL_ne so, updL_ne sw, updL_same]
  have lw : updL (updL (updL L1 s (kl, 0, 0)) w (kl, 1, 0)) o (kl, 2, 0) w = some (kl, 1, 0) := by rw [updL_ne wo, updL_same]
  have lo : updL (updL (updL L1 s (kl, 0, 0)) w (kl, 1, 0)) o (kl, 2, 0) o = some (kl, 2, 0) := updL_same
  have fa3 : FrA a (updL (updL (updL L1 s (kl, 0, 0)) w (kl, 1, 0)) o (kl, 2, 0)) kf H3 x (newFr n) := fa.of (fun y m e => by
    refine updL_ext ?_ (updL_ext ?_ (updL_ext hs1 e))
    · rw [updL_ne wo.symm, updL_ne so.symm]; exact ho1
    · rw [updL_ne sw.symm]; exact hw1) fun y m o _ _ e => s3 _ _ e
  generalize updL (updL (updL L1 s (kl, 0, 0)) w (kl, 1, 0)) o (kl, 2, 0) = L4 at *
  refine k_disp [(.inr "frames", .ref x), (.inr "words", .ref w), (.inr "order", .ref o)] hs3 (by simp) ?_
  have st7 := st6.trans (Stp.write (S := Two kf kl) (o := .dK (mergeK [] [(.inr "frames", .ref x), (.inr "words", .ref w), (.inr "order", .ref o)])) st6.lab ls (.inr rfl) hs3)
  have sd0 : SdA a L4 kf kl (upd H3 s (.dK (mergeK [] [(.inr "frames", .ref x), (.inr "words", .ref w), (.inr "order", .ref o)]))) s x (newFr n) [] := by
    refine ⟨w, o, List.replicate n none, ls, lw, lo, upd_same, ?_, ?_, ?_, ?_, newOrd n, ne⟩
    · rw [upd_ne sw.symm, oV_none]; exact hw3
    · refine ⟨?_, fun i e => ?_, fun i ws e => ?_⟩
      · show (List.replicate n (none : Option Addr)).length = (List.replicate n (none : Option (List Int))).length
        rw [List.length_replicate, List.length_replicate]
      · have e' : (List.replicate n (none : Option (List Int)))[i]? = some none := e
        rw [List.getElem?_replicate] at e' ⊢
        split at e'
        · rw [if_pos (by assumption)]
        · cases e'
      · have e' : (List.replicate n (none : Option (List Int)))[i]? = some (some ws) := e
        rw [List.getElem?_replicate] at e'
        split at e' <;> cases e'
    · rw [upd_ne so.symm]; exact ho3
    · refine fa3.of (fun _ _ e => e) fun y l o' hl el hx' => ?_
      rw [upd_ne]
      · exact hx'
      · exact lne hl ls (by intro z; rw [z] at el; exact ne el.symm)
  generalize upd H3 s (.dK (mergeK [] [(.inr "frames", .ref x), (.inr "words", .ref w), (.inr "order", .ref o)])) = H4 at *
  walk_at "rd"
  refine sp2_i ⟨c, n, rfl, rfl, by omega, fun O op H5 pm hop s5 hO => ?_⟩
  have st8 := st7.trans (Stp.of_same (S := Two kf kl) st7.lab s5)
  have hopL : L4 op = none := st7.lab.none hop
  have sd5 : SdA a L4 kf kl H5 s x (newFr n) [] := sd0.keep (Stp.of_same (S := fun _ => False) st7.lab s5) (fun z => z) (fun z => z)
  walk_at "rd"
  refine k_forL (xs := intL O) (.inl (.inl hO)) (fun m σ' H' => (∃ u, σ' = [some (.int (n : Nat)), some (.int c), some (.int sd), some (.ref s), u]) ∧ ∃ L' F, Stp (Two kf kl) H L H' L' ∧ SdA a L' kf kl H' s x F (O.take m) ∧ F.cont.length = n ∧ L' op = none ∧ H' op = some (.lst (intL O)))
    ⟨⟨_, rfl⟩, L4, newFr n, st8, sd5, by show (List.replicate n (none : Option (List Int))).length = n; rw [List.length_replicate], hopL, hO⟩ (fun m σ' H' hm i => by
      obtain ⟨_, L', F, _, _, _, _, e⟩ := i
      exact .inl (.inl e)) ?_ ?_
  · rintro m y σ' H' hy ⟨⟨u, rfl⟩, L', F, st, sd', fl, lop, hop'⟩
    unfold intL at hy
    rw [List.getElem?_map] at hy
    obtain ⟨j, hj⟩ : ∃ j, O[m]? = some j := by
      cases e : O[m]? with
      | none => rw [e] at hy; cases hy
      | some j => exact ⟨j, rfl⟩
    rw [hj] at hy; cases hy
    have hjn : j < n := by
      have := pm.mem_iff.mp (List.mem_of_getElem? hj)
      exact List.mem_range.mp this
    have hjt : j ∉ O.take m := fun z => by
      have h1 : (O.take m ++ O.drop m).Nodup := by rw [List.take_append_drop]; exact pm.nodup_iff.mpr List.nodup_range
      have h2 : j ∈ O.drop m := List.mem_of_getElem? (i := 0) (by rw [List.getElem?_drop]; exact hj)
      exact (List.nodup_append.mp h1).2.2 j z j h2 rfl
    have hFj : F.cont[j]? = some none := by
      obtain ⟨_, _, _, g⟩ := id sd'
      cases e : F.cont[j]? with
      | none =>
        have := List.getElem?_eq_none_iff.mp e
        omega
      | some v =>
        cases v with
        | none => rfl
        | some ws => exact absurd ((g.ord.mem j).mpr ⟨ws, e⟩) hjt
    show tIfS _ _ _ _ [some (.int (n : Nat)), some (.int c), some (.int sd), some (.ref s), some (.int (j : Nat))] H'
    walk_at "rd"
    refine k_i (.inl (by omega)) ?_
    walk_at "rd"
    refine sp3_i ⟨s, j, _, L', kf, kl, x, F, O.take m, rfl, rfl, rfl, st.lab, sd', hFj, fun ws H6 L6 h16 st6 sd6 => ?_⟩
    walk_at "rd"
    refine kif_f ?_
    walk_at "rd"
    refine ⟨⟨_, rfl⟩, L6, F.fill j ws, st.trans st6, ?_, ?_, st6.nolab lop hop', st6.unl lop hop'⟩
    · rw [take_more hj]; exact sd6
    · show (F.cont.set j (some ws)).length = n
      rw [List.length_set]; exact fl
  · rintro σ' H' ⟨⟨u, rfl⟩, L', F, st, sd', fl, lop, hop'⟩
    have hlen : (intL O).length = O.length := by unfold intL; rw [List.length_map]
    rw [hlen, List.take_length] at sd'
    walk_at "rd"
    exact q s x F O H' L' st sd' fl hs
theorem pure__law_emptied {K : PySem.W.Frag} {a : Ad} (C : Cl K a) {x0 x1 : V} {H : Hp} {Q : VK} {E : XK}
    (h : pr__law_emptied K a x0 x1 H Q E) : t__law_emptied K a { nx := fun _ H' => Q .non H', rt := Q } [some x0, some x1, none, none] H := by
  obtain ⟨s, i, L, kf, kl, p, F, O, ws, w, o, rfl, rfl, hL, ⟨qs, ls, lw, lo, hs, hw, hq, ho, fr, od, ne⟩, hi, q⟩ := h
  have hil : i < F.cont.length := (List.getElem?_eq_some_iff.mp hi).1
  unfold t__law_emptied
  walk_at "rd"
  refine k_remN ho ((od.mem i).mpr ⟨ws, hi⟩) ?_
  have stA : Stp (· = kl) H L (upd H o (HO.lst (intL (O.erase i)))) L := Stp.write hL lo rfl ho
  have hs1 : upd H o (HO.lst (intL (O.erase i))) s = some (.dK (sdD p w o)) := by rw [upd_ne (lne ls lo (by simp))]; exact hs
  have hw1 : upd H o (HO.lst (intL (O.erase i))) w = some (.lst (qs.map oV)) := by rw [upd_ne (lne lw lo (by simp))]; exact hw
  show tSeq _ _ _ [some (.ref s), some (.int (i : Nat)), some (.ref o), none] (upd H o (HO.lst (intL (O.erase i))))
  walk_at "rd"
  refine k_setL hw1 (by rw [List.length_map, hq.len]; exact hil) ?_
  have stB := stA.trans (Stp.write (o := HO.lst ((qs.map oV).set i .non)) stA.lab lw rfl hw1)
  have frB := fr.keep stB ne
  have hs2 : upd (upd H o (HO.lst (intL (O.erase i)))) w (HO.lst ((qs.map oV).set i .non)) s = some (.dK (sdD p w o)) := by rw [upd_ne (lne ls lw (by simp))]; exact hs1
  have hw2 : upd (upd H o (HO.lst (intL (O.erase i)))) w (HO.lst ((qs.map oV).set i .non)) w = some (.lst ((qs.set i none).map oV)) := by rw [upd_same, List.map_set]; rfl
  have ho2 : upd (upd H o (HO.lst (intL (O.erase i)))) w (HO.lst ((qs.map oV).set i .non)) o = some (.lst (intL (O.erase i))) := by rw [upd_ne (lne lo lw (by simp))]; exact upd_same
  have hq2 : OLs L (upd (upd H o (HO.lst (intL (O.erase i)))) w (HO.lst ((qs.map oV).set i .non))) kl 3 (qs.set i none) (F.cont.set i none) := OLs.clear (hq.of (fun _ _ e => e) fun x j o' hl hx => by
    rw [upd_ne (lne hl lw (by simp)), upd_ne (lne hl lo (by simp))]; exact hx) i
  generalize upd (upd H o (HO.lst (intL (O.erase i)))) w (HO.lst ((qs.map oV).set i .non)) = H2 at *
  obtain ⟨c0, t0, qs0, fr0⟩ := id frB
  obtain ⟨dx0, ob0⟩ := fr0.ob
  walk_at "rd"
  refine sp2_i ⟨p, i, L, kf, F, ws, rfl, rfl, stB.lab, frB, hi, fun H3 st fa => ?_⟩
  walk_at "rd"
  refine sp2_i ⟨.none, trivial, .non, .non, ?_⟩
  have nkl : ¬ (kl = kf) := fun e => ne e.symm
  exact q H3 ((stB.mono fun k e => .inr e).trans (st.mono fun k e => .inl e)) ⟨qs.set i none, ls, lw, lo, st.lbl ls nkl hs2, st.lbl lw nkl hw2, hq2.keep st nkl, st.lbl lo nkl ho2, fa, od.clear hi, ne⟩
end K60

namespace K60
open PySem L2 Lh
local macro_rules | `(tactic| walk_at "ne") => `(tactic| first | assumption | exact Ne.symm (by assumption) | ((with_reducible refine' lne ?h1 ?h2 ?h3); (case h1 => assumption); (case h2 => assumption); (case h3 => simp)) | ((with_reducible refine' nn ?h1 ?h2); (case h1 => assumption); (case h2 => walk_at "hp")) | (apply Ne.symm; (with_reducible refine' nn ?h1 ?h2); (case h1 => assumption); (case h2 => walk_at "hp")))
local macro_rules | `(tactic| walk_at "hp") => `(tactic| first | assumption | exact upd_same | (refine Eq.trans (upd_ne ?hne) ?hrest; (case hne => walk_at "ne"); (case hrest => walk_at "hp")))
local macro_rules | `(tactic| walk_at "sq") => `(tactic| first | assumption | (refine Or.inl (Or.inl ?hsq); (case hsq => walk_at "hp")))
local macro_rules | `(tactic| walk_at "r1") => `(tactic| first
  | with_reducible refine r_seq ?_ | with_reducible refine r_asg ?_ | with_reducible refine r_sfld ?_ | with_reducible refine r_ret ?_ | with_reducible refine r_retN ?_ | with_reducible refine r_drop ?_
  | with_reducible refine r_next ?_ | with_reducible refine r_ifs ?_ | with_reducible refine r_dput ?_ | with_reducible refine r_asgG ?_ | with_reducible refine r_gsub ?_
  | ((with_reducible refine' r_var ?hv ?_); (case hv => exact rfl)) | with_reducible refine r_c ?_ | with_reducible refine r_op ?_ | with_reducible refine r_un ?_ | with_reducible refine r_fld ?_
  | with_reducible refine r_cb ?_ | with_reducible refine r_tup ?_ | with_reducible refine r_lst ?_ | with_reducible refine r_nil ?_ | with_reducible refine r_cons ?_ | with_reducible refine r_dget ?_
  | with_reducible refine r_din ?_ | with_reducible refine r_dnin ?_ | with_reducible refine r_call ?_ | with_reducible refine r_meth ?_ | with_reducible refine r_methE ?_ | with_reducible refine r_bm ?_ | with_reducible refine r_bm0 ?_
  | with_reducible refine r_test ?_ | with_reducible refine r_tb ?_ | with_reducible refine r_not ?_ | with_reducible refine r_and ?_ | with_reducible refine r_or ?_ | with_reducible refine r_andV ?_ | with_reducible refine r_orV ?_
  | with_reducible refine r_notV ?_ | with_reducible refine r_tif ?_
  | with_reducible refine k_bl ?_ | with_reducible refine k_i0 ?_ | with_reducible refine k_u ?_ | with_reducible refine k_isN ?_ | with_reducible refine k_notN ?_ | with_reducible refine k_int ?_ | with_reducible refine k_abs ?_ | with_reducible refine k_max ?_ | with_reducible refine k_min ?_
  | with_reducible refine k_eq rfl ?_ | with_reducible refine k_ne rfl ?_
  | ((with_reducible refine' k_fld ?hc ?hn ?ho ?hl ?_); (case hc => assumption); (case hn => assumption); (case ho => walk_at "hp"); (case hl => walk_at "lk"))
  | ((with_reducible refine' k_len ?ho ?_); (case ho => walk_at "sq"))
  | ((with_reducible refine' k_bml ?ho ?_); (case ho => walk_at "hp"))
  | ((with_reducible refine' k_sfld ?hc ?hn ?ho ?hl ?_); (case hc => assumption); (case hn => assumption); (case ho => walk_at "hp"); (case hl => walk_at "ll"))
  | ((with_reducible refine' k_meth ?ho ?hl ?_); (case ho => walk_at "hp"); (case hl => walk_at "nm"))
  | ((with_reducible refine' k_methE ?ho ?hl ?_); (case ho => walk_at "hp"); (case hl => walk_at "nm"))
  | with_reducible refine r_rng1 ?_ | with_reducible refine r_rng2 ?_ | with_reducible refine r_forL ?_ | with_reducible refine r_forT ?_ | with_reducible refine r_enum ?_ | with_reducible refine r_lcL ?_ | with_reducible refine r_lcR1 ?_ | with_reducible refine r_raise ?_ | with_reducible refine r_make ?_
  | ((with_reducible refine' k_dgetS ?ho ?hg ?_); (case ho => walk_at "hp"); (case hg => walk_at "dg"))
  | with_reducible refine r_pcons ?_ | with_reducible refine r_pnil ?_ | with_reducible refine r_xf ?_ | with_reducible refine r_try ?_)
local macro_rules | `(tactic| walk_at "rd") => `(tactic| repeat (first | walk_at "r1" | (dsimp only; walk_at "r1")))
local macro_rules | `(tactic| walk_at "fr") => `(tactic| first | assumption | (apply un; assumption) | (apply un; apply un; assumption) | (apply un; apply un; apply un; assumption) | (apply un; apply un; apply un; apply un; assumption) | (apply un; apply un; apply un; apply un; apply un; assumption) | (apply un; apply un; apply un; apply un; apply un; apply un; assumption))
local macro_rules | `(tactic| walk_at "lk") => `(tactic| first | exact lk_Frames_0 | exact lk_Frames_1 | exact lk_Frames_2)
local macro_rules | `(tactic| walk_at "ll") => `(tactic| first | (rw [ln_Frames]; decide) | with_reducible exact lt0 | with_reducible exact lt1 | with_reducible exact lt2 | with_reducible exact lt3 | with_reducible exact lt4)
local macro_rules | `(tactic| walk_at "nm") => `(tactic| first | exact nm_Frames_size | exact nm_Frames_in_use | exact nm_Frames__check | exact nm_Frames__use | exact nm_Frames_free_frame | exact nm_Frames_order | exact nm_Frames_oldest | exact nm_Frames_fill | exact nm_Frames_words | exact nm_Frames_word | exact nm_Frames_set_word | exact nm_Frames_touch | exact nm_Frames_empty | exact nm_Frames_resize | exact nm_Frames_frozen)
local macro_rules | `(tactic| walk_at "cl") => `(tactic| (have c1 := Cl.cl_Frames (by assumption); have n1 := Cl.na_Frames__contents (by assumption); have n2 := Cl.na_Frames__stamps (by assumption); have n3 := Cl.na_Frames__latest (by assumption)))
local macro_rules | `(tactic| walk_at "dg") => `(tactic| first | with_reducible exact sd_f | with_reducible exact sd_w | with_reducible exact sd_o)
/-- the row of words on the way to n places -/
structure OnWay (C W : List (Option (List Int))) (n j : Nat) : Prop where
  down : n ≤ C.length → W = C.take W.length ∧ n ≤ W.length ∧ W.length - n = C.length - n - j
  up : C.length < n → (∃ r, W = C ++ List.replicate r none) ∧ W.length ≤ n ∧ n - W.length = n - C.length - j
theorem OnWay.start (C : List (Option (List Int))) (n : Nat) : OnWay C C n 0 := ⟨fun h => ⟨by rw [List.take_length], h, by omega⟩, fun h => ⟨⟨0, by simp⟩, by omega, by omega⟩⟩
theorem OnWay.pop {C W : List (Option (List Int))} {n j : Nat} (h : OnWay C W n j) (hl : n < W.length) : OnWay C W.dropLast n (j + 1) := by
  have hd : n ≤ C.length := by
    by_cases e : n ≤ C.length
    · exact e
    · have := (h.up (by omega)).2.1; omega
  obtain ⟨e, h2, h3⟩ := h.down hd
  have hwl : W.length ≤ C.length := by have := congrArg List.length e; rw [List.length_take] at this; omega
  refine ⟨fun _ => ⟨?_, by rw [List.length_dropLast]; omega, by rw [List.length_dropLast]; omega⟩, fun h => by omega⟩
  obtain ⟨m, hm⟩ : ∃ m, W.length = m + 1 := ⟨W.length - 1, by omega⟩
  have e2 : W.dropLast = C.take m := by
    rw [e, hm]; exact take_drop_last _ (by omega)
  rw [List.length_dropLast, e2, hm]; rfl
theorem OnWay.push {C W : List (Option (List Int))} {n j : Nat} (h : OnWay C W n j) (hl : W.length < n) : OnWay C (W ++ [none]) n (j + 1) := by
  have hd : C.length < n := by
    by_cases e : n ≤ C.length
    · have := (h.down e).2.1; omega
    · omega
  obtain ⟨⟨r, e⟩, h2, h3⟩ := h.up hd
  refine ⟨fun h => by omega, fun _ => ⟨⟨r + 1, ?_⟩, by rw [List.length_append]; simp; omega, by rw [List.length_append]; simp; omega⟩⟩
  rw [e, List.replicate_succ', List.append_assoc]
theorem OnWay.stay {C W : List (Option (List Int))} {n j : Nat} (h : OnWay C W n j) (hl : W.length = n) : OnWay C W n (j + 1) :=
  ⟨fun z => by obtain ⟨e, h2, h3⟩ := h.down z; exact ⟨e, h2, by omega⟩, fun z => by obtain ⟨e, h2, h3⟩ := h.up z; exact ⟨e, h2, by omega⟩⟩
theorem OnWay.done {F : Fr} {W : List (Option (List Int))} {n : Nat} (h : OnWay F.cont W n 48) (h1 : 1 ≤ n) (h48 : n ≤ 48) (hf : F.cont.length ≤ 48) : W = (F.size n).cont := by
  show W = F.cont.take n ++ List.replicate (n - F.cont.length) none
  by_cases e : n ≤ F.cont.length
  · obtain ⟨e1, e2, e3⟩ := h.down e
    have : W.length = n := by omega
    rw [this] at e1
    rw [e1, show n - F.cont.length = 0 by omega]; simp
  · obtain ⟨⟨r, e1⟩, e2, e3⟩ := h.up (by omega)
    have hr : r = n - F.cont.length := by
      have := congrArg List.length e1
      rw [List.length_append, List.length_replicate] at this
      omega
    rw [e1, hr, List.take_of_length_le (by omega)]
/-- behind the resizing of the frames, ahead of that of the words -/
def Mid (a : Ad) (L : Lb) (kf kl : Nat) (H0 H : Hp) (s p w o : Addr) (n : Nat) : Prop := ∃ G O qs, Stp (Two kf kl) H0 L H L ∧ H s = some (.dK (sdD p w o)) ∧ H w = some (.lst (qs.map oV)) ∧ OLs L H kl 3 qs G.cont ∧ H o = some (.lst (intL O)) ∧ FrA a L kf H p (G.size n) ∧ Ord G O ∧ (∀ i, ¬ used G n i) ∧ G.cont.length ≤ 48
theorem pure__law_resized {K : PySem.W.Frag} {a : Ad} (C : Cl K a) {x0 x1 : V} {H : Hp} {Q : VK} {E : XK}
    (h : pr__law_resized K a x0 x1 H Q E) : t__law_resized K a { nx := fun _ H' => Q .non H', rt := Q } [some x0, some x1, none, none, none, none, none, none, none] H := by
  obtain ⟨s, n, L, kf, kl, p, F, O, rfl, rfl, hL, ⟨w, o, qs, ls, lw, lo, hs, hw, hq, ho, fr, od, ne⟩, h1, h48, q⟩ := h
  have hql := hq.len
  have h48F := fr.s48
  have nkl : ¬ (kl = kf) := fun e => ne e.symm
  unfold t__law_resized
  walk_at "rd"
  refine k_rng2 (lo := n) (hi := (qs.map oV).length) (by omega) (by rw [List.length_map]; omega) (fun j σ' H' => H' = H ∧ ∃ dv u, σ' = [some (.ref s), some (.int (n : Nat)), some (.ref p), some (.ref w), some dv, u, none, none, none] ∧
      ((dv = .non ∧ ∀ i, n ≤ i → i < j → F.cont[i]? = some none) ∨ ∃ d : Nat, dv = .int (d : Nat) ∧ used F n d))
    ⟨rfl, .non, _, rfl, .inl ⟨rfl, fun i h1 h2 => by omega⟩⟩ ?_ ?_
  · rintro j σ' H' hnj hj ⟨rfl, dv, u, rfl, iv⟩
    rw [List.length_map] at hj
    walk_at "rd"
    rcases hq.at (show j < F.cont.length by omega) with ⟨e1, e2⟩ | ⟨ws, w2, e1, e2, e3, e4⟩
    · refine k_ixL (by walk_at "sq") (atI_nat (v := V.non) (by rw [List.getElem?_map, e2]; rfl)) ?_
      walk_at "rd"
      refine kif_f ?_
      refine kif_f ?_
      walk_at "rd"
      refine ⟨rfl, dv, _, rfl, ?_⟩
      rcases iv with ⟨e, iv⟩ | iv
      · refine .inl ⟨e, fun i h1 h2 => ?_⟩
        by_cases ei : i = j
        · subst ei; exact e1
        · exact iv i h1 (by omega)
      · exact .inr iv
    · refine k_ixL (by walk_at "sq") (atI_nat (v := V.ref w2) (by rw [List.getElem?_map, e2]; rfl)) ?_
      walk_at "rd"
      refine kif_t ?_
      walk_at "rd"
      rcases iv with ⟨e, iv⟩ | ⟨d, e, hd⟩
      · subst e
        refine kif_t ?_
        walk_at "rd"
        exact ⟨rfl, _, _, rfl, .inr ⟨j, rfl, hnj, ⟨ws, e1⟩, fun i h1 h2 => iv i h1 h2⟩⟩
      · subst e
        refine kif_f ?_
        walk_at "rd"
        exact ⟨rfl, _, _, rfl, .inr ⟨d, rfl, hd⟩⟩
  · rintro σ' H' ⟨rfl, dv, u, rfl, iv⟩
    rw [List.length_map, hql] at iv
    walk_at "rd"
    obtain ⟨c0, t0, qs0, fr0⟩ := id fr
    obtain ⟨dx0, ob0⟩ := fr0.ob
    refine r_cut (fun σ2 H2 => ∃ u2 tv bz, σ2 = [some (.ref s), some (.int (n : Nat)), some (.ref p), some (.ref w), some dv, u2, some tv, bz, none] ∧
      ((dv = .non ∧ tv = .non ∧ Mid a L kf kl H' H2 s p w o n) ∨ ∃ (d : Nat) (T : Addr), dv = .int (d : Nat) ∧ used F n d ∧ tv = .ref T ∧ H2 T = some (.tup [.str "busy", .int (d : Nat)]) ∧ Same H' H2)) ?_ ?_
    · walk_at "rd"
      rcases iv with ⟨rfl, iv⟩ | ⟨d, rfl, hd⟩
      · have nou : ∀ i, ¬ used F n i := by
          rintro i ⟨g1, ⟨ws, e⟩, g2⟩
          have hil := (List.getElem?_eq_some_iff.mp e).1
          rw [iv i g1 (by omega)] at e; cases e
        refine sp2_i ⟨p, n, L, kf, F, rfl, rfl, hL, fr, h1, h48, fun i hi => absurd hi (nou i), fun _ H2 st fa => ?_⟩
        walk_at "rd"
        exact ⟨_, _, _, rfl, .inl ⟨rfl, rfl, F, O, qs, st.mono fun k e => .inl e, st.lbl ls nkl hs, st.lbl lw nkl hw, hq.keep st nkl, st.lbl lo nkl ho, fa, od, nou, h48F⟩⟩
      · refine sp2_i ⟨p, n, L, kf, F, rfl, rfl, hL, fr, h1, h48, fun i hi dd H2 hdd sm hx => ?_, fun nou => absurd hd (nou d)⟩
        have ei : i = d := by
          obtain ⟨a1, ⟨ws, a2⟩, a3⟩ := hi
          obtain ⟨b1, ⟨us, b2⟩, b3⟩ := hd
          rcases Nat.lt_trichotomy i d with z | z | z
          · rw [b3 i a1 z] at a2; cases a2
          · exact z
          · rw [a3 d b1 z] at b2; cases b2
        subst ei
        refine k_was C.ex_HostBusy fun xa hxa => ?_
        walk_at "rd"
        refine k_xf hx ?_
        walk_at "rd"
        refine k_tup (by simp) fun T hT => ?_
        walk_at "rd"
        exact ⟨_, _, _, rfl, .inr ⟨i, T, rfl, hd, rfl, upd_same, sm.trans (same_new hT)⟩⟩
    · rintro σ2 H2 ⟨u2, tv, bz, rfl, m2⟩
      refine r_cut (fun σ3 H3 => ∃ dv3 u3 bz3 k3, σ3 = [some (.ref s), some (.int (n : Nat)), some (.ref p), some (.ref w), dv3, u3, some .non, bz3, k3] ∧ Mid a L kf kl H' H3 s p w o n) ?_ ?_
      · walk_at "rd"
        rcases m2 with ⟨rfl, rfl, m⟩ | ⟨d, T, rfl, hd, rfl, hT, sm⟩
        · refine kif_f ?_
          walk_at "rd"
          exact ⟨_, _, _, _, rfl, m⟩
        · refine kif_t ?_
          walk_at "rd"
          refine k_tup (by simp) fun T2 hT2 => ?_
          walk_at "rd"
          have sm2 : Same H' (upd H2 T2 (HO.tup [V.str "busy", V.int (d : Nat)])) := sm.trans (same_new hT2)
          have hTa : upd H2 T2 (HO.tup [V.str "busy", V.int (d : Nat)]) T = some (.tup [.str "busy", .int (d : Nat)]) := same_new hT2 _ _ hT
          have hTb : upd H2 T2 (HO.tup [V.str "busy", V.int (d : Nat)]) T2 = some (.tup [.str "busy", .int (d : Nat)]) := upd_same
          generalize upd H2 T2 (HO.tup [V.str "busy", V.int (d : Nat)]) = H3 at *
          have dd : ∀ y, H3 y = some (.tup [.str "busy", .int (d : Nat)]) → Dp K H3 (.ref y) (.tuple [.str "busy", .int (d : Nat)]) := fun y hy => .tup (.inl (.inl hy)) (.cons (.str _) (.cons (.int _) .nil))
          refine sp2_i ⟨.tuple [.str "busy", .int (d : Nat)], ⟨by simp, fun x hx => ?_⟩, dd T hTa, dd T2 hTb, ?_⟩
          · rcases List.mem_cons.mp hx with e | e
            · subst e; trivial
            · have : x = .int (d : Nat) := by simpa using e
              subst this; trivial
          walk_at "rd"
          refine kif_f ?_
          have st3 : Stp (Two kf kl) H' L H3 L := Stp.of_same hL sm2
          have hw3 := sm2 _ _ hw
          have hs3 := sm2 _ _ hs
          walk_at "rd"
          have hdl : d < F.cont.length := by obtain ⟨_, ⟨ws, e⟩, _⟩ := hd; exact (List.getElem?_eq_some_iff.mp e).1
          have hnd : n ≤ d := hd.1
          have eN : (((qs.map oV).length : Nat) : Int) - (n : Nat) = ((F.cont.length - n : Nat) : Nat) := by rw [List.length_map, hql]; omega
          rw [eN]
          refine k_rng1 (by omega) (fun k σ4 H4 => (∃ u4 k4, σ4 = [some (.ref s), some (.int (n : Nat)), some (.ref p), some (.ref w), some (.int (d : Nat)), u4, some (.ref T), bz, k4]) ∧ ∃ G O', Stp (Two kf kl) H' L H4 L ∧ G.cont.length = F.cont.length ∧ (∃ qs', SdAt a L kf kl H4 s p G O' w o qs') ∧ ∀ i, F.cont.length - k ≤ i → i < F.cont.length → G.cont[i]? = some none)
            ⟨⟨_, _, rfl⟩, F, O, st3, rfl, ⟨qs, ls, lw, lo, hs3, hw3, hq.of (fun _ _ e => e) fun x i o _ hx => sm2 _ _ hx, sm2 _ _ ho, fr.of (fun _ _ e => e) fun x l o _ _ hx => sm2 _ _ hx, od, ne⟩, fun i h1 h2 => by omega⟩ ?_ ?_
          · rintro k σ4 H4 hk ⟨⟨u4, k4, rfl⟩, G, O', st4, gl, ⟨qs', sd⟩, gn⟩
            have hw4 := sd.hw
            have hql' := sd.hq.len
            walk_at "rd"
            have eF : (((qs'.map oV).length : Nat) : Int) - 1 - (k : Nat) = ((F.cont.length - 1 - k : Nat) : Nat) := by rw [List.length_map, hql', gl]; omega
            rw [eF]
            walk_at "rd"
            rcases sd.hq.at (show F.cont.length - 1 - k < G.cont.length by omega) with ⟨e1, e2⟩ | ⟨ws, w2, e1, e2, e3, e4⟩
            · refine k_ixL (by walk_at "sq") (atI_nat (v := V.non) (by rw [List.getElem?_map, e2]; rfl)) ?_
              walk_at "rd"
              refine kif_f ?_
              refine kif_f ?_
              walk_at "rd"
              refine ⟨⟨_, _, rfl⟩, G, O', st4, gl, ⟨qs', sd⟩, fun i h1 h2 => ?_⟩
              by_cases ei : i = F.cont.length - 1 - k
              · rw [ei]; exact e1
              · exact gn i (by omega) h2
            · refine k_ixL (by walk_at "sq") (atI_nat (v := V.ref w2) (by rw [List.getElem?_map, e2]; rfl)) ?_
              walk_at "rd"
              refine kif_t ?_
              walk_at "rd"
              refine sp2_i ⟨s, F.cont.length - 1 - k, L, kf, kl, p, G, O', ws, w, o, rfl, rfl, st4.lab, ⟨qs', sd⟩, e1, fun H5 st5 sd5 => ?_⟩
              walk_at "rd"
              refine kif_f ?_
              walk_at "rd"
              refine ⟨⟨_, _, rfl⟩, G.clear (F.cont.length - 1 - k), _, st4.trans st5, ?_, sd5, fun i h1 h2 => ?_⟩
              · show (G.cont.set _ none).length = _
                rw [List.length_set]; exact gl
              · show (G.cont.set (F.cont.length - 1 - k) none)[i]? = _
                by_cases ei : F.cont.length - 1 - k = i
                · rw [ei, List.getElem?_set_self (by omega)]
                · rw [List.getElem?_set_ne ei]; exact gn i (by omega) h2
          · rintro σ4 H4 ⟨⟨u4, k4, rfl⟩, G, O', st4, gl, ⟨qs', sd⟩, gn⟩
            have nou : ∀ i, ¬ used G n i := by
              rintro i ⟨g1, ⟨ws, e⟩, g2⟩
              have hil := (List.getElem?_eq_some_iff.mp e).1
              rw [gn i (by omega) (by omega)] at e; cases e
            obtain ⟨c5, t5, qs5, fr5⟩ := id sd.fr
            obtain ⟨dx5, ob5⟩ := fr5.ob
            walk_at "rd"
            refine sp2_i ⟨p, n, L, kf, G, rfl, rfl, st4.lab, sd.fr, h1, h48, fun i hi => absurd hi (nou i), fun _ H5 st fa => ?_⟩
            walk_at "rd"
            exact ⟨_, _, _, _, rfl, G, O', qs', st4.trans (st.mono fun k e => .inl e), st.lbl ls nkl sd.hs, st.lbl lw nkl sd.hw, sd.hq.keep st nkl, st.lbl lo nkl sd.ho, fa, sd.ord, nou, by omega⟩
      · rintro σ3 H3 ⟨dv3, u3, bz3, k3, rfl, G, O', qs', st, hs3, hw3, hq3, ho3, fa, od3, nou, g48⟩
        walk_at "rd"
        refine k_rng1 (n := 48) (by omega) (fun j σ4 H4 => (∃ u4, σ4 = [some (.ref s), some (.int (n : Nat)), some (.ref p), some (.ref w), dv3, u3, some .non, bz3, u4]) ∧ ∃ W qs4, Stp (Two kf kl) H' L H4 L ∧ H4 s = some (.dK (sdD p w o)) ∧ H4 w = some (.lst (qs4.map oV)) ∧ OLs L H4 kl 3 qs4 W ∧ H4 o = some (.lst (intL O')) ∧ FrA a L kf H4 p (G.size n) ∧ OnWay G.cont W n j)
          ⟨⟨_, rfl⟩, G.cont, qs', st, hs3, hw3, hq3, ho3, fa, OnWay.start _ _⟩ ?_ ?_
        · rintro j σ4 H4 hj ⟨⟨u4, rfl⟩, W, qs4, st4, hs4, hw4, hq4, ho4, fa4, wy⟩
          have hl4 := hq4.len
          walk_at "rd"
          rw [List.length_map, hl4]
          refine kif_d (fun hgt => ?_) fun hle => ?_
          · walk_at "rd"
            obtain ⟨y, hy⟩ := last_map oV qs4 (by omega)
            refine k_pop hw4 hy ?_
            have stx : Stp (· = kl) H4 L (upd H4 w (HO.lst (qs4.map oV).dropLast)) L := Stp.write st4.lab lw rfl hw4
            refine ⟨⟨_, rfl⟩, W.dropLast, qs4.dropLast, st4.trans (stx.mono fun k e => .inr e), ?_, ?_, ?_, ?_, fa4.keep stx ne, wy.pop (by omega)⟩
            · rw [upd_ne (lne ls lw (by simp))]; exact hs4
            · rw [upd_same, List.map_dropLast]
            · refine (hq4.of (fun _ _ e => e) fun x i o' hl hx => ?_).pop
              rw [upd_ne (lne hl lw (by simp))]; exact hx
            · rw [upd_ne (lne lo lw (by simp))]; exact ho4
          · walk_at "rd"
            rw [List.length_map, hl4]
            refine kif_d (fun hlt => ?_) fun hge => ?_
            · walk_at "rd"
              refine k_append hw4 (by rw [List.length_map]; omega) ?_
              have stx : Stp (· = kl) H4 L (upd H4 w (HO.lst (qs4.map oV ++ [.non]))) L := Stp.write st4.lab lw rfl hw4
              refine ⟨⟨_, rfl⟩, W ++ [none], qs4 ++ [none], st4.trans (stx.mono fun k e => .inr e), ?_, ?_, ?_, ?_, fa4.keep stx ne, wy.push (by omega)⟩
              · rw [upd_ne (lne ls lw (by simp))]; exact hs4
              · rw [upd_same, List.map_append]; rfl
              · refine (hq4.of (fun _ _ e => e) fun x i o' hl hx => ?_).push
                rw [upd_ne (lne hl lw (by simp))]; exact hx
              · rw [upd_ne (lne lo lw (by simp))]; exact ho4
            · walk_at "rd"
              exact ⟨⟨_, rfl⟩, W, qs4, st4, hs4, hw4, hq4, ho4, fa4, wy.stay (by omega)⟩
        · rintro σ4 H4 ⟨⟨u4, rfl⟩, W, qs4, st4, hs4, hw4, hq4, ho4, fa4, wy⟩
          rw [wy.done h1 h48 g48] at hq4
          walk_at "rd"
          refine sp2_i ⟨.none, trivial, .non, .non, ?_⟩
          exact q (G.size n) O' H4 st4 ⟨w, o, qs4, ls, lw, lo, hs4, hw4, hq4, ho4, fa4, od3.size nou, ne⟩
end K60

namespace K60
open PySem L2 Lh
local macro_rules | `(tactic| walk_at "ne") => `(tactic| first | assumption | exact Ne.symm (by assumption) | ((with_reducible refine' lne ?h1 ?h2 ?h3); (case h1 => assumption); (case h2 => assumption); (case h3 => simp)) | ((with_reducible refine' nn ?h1 ?h2); (case h1 => assumption); (case h2 => walk_at "hp")) | (apply Ne.symm; (with_reducible refine' nn ?h1 ?h2); (case h1 => assumption); (case h2 => walk_at "hp")))
local macro_rules | `(tactic| walk_at "hp") => `(tactic| first | assumption | exact upd_same | (refine Eq.trans (upd_ne ?hne) ?hrest; (case hne => walk_at "ne"); (case hrest => walk_at "hp")))
local macro_rules | `(tactic| walk_at "sq") => `(tactic| first | assumption | (refine Or.inl (Or.inl ?hsq); (case hsq => walk_at "hp")))
local macro_rules | `(tactic| walk_at "r1") => `(tactic| first
  | with_reducible refine r_seq ?_ | with_reducible refine r_asg ?_ | with_reducible refine r_sfld ?_ | with_reducible refine r_ret ?_ | with_reducible refine r_retN ?_ | with_reducible refine r_drop ?_
  | with_reducible refine r_next ?_ | with_reducible refine r_ifs ?_ | with_reducible refine r_dput ?_ | with_reducible refine r_asgG ?_ | with_reducible refine r_gsub ?_
  | ((with_reducible refine' r_var ?hv ?_); (case hv => exact rfl)) | with_reducible refine r_c ?_ | with_reducible refine r_op ?_ | with_reducible refine r_un ?_ | with_reducible refine r_fld ?_
  | with_reducible refine r_cb ?_ | with_reducible refine r_tup ?_ | with_reducible refine r_lst ?_ | with_reducible refine r_nil ?_ | with_reducible refine r_cons ?_ | with_reducible refine r_dget ?_
  | with_reducible refine r_din ?_ | with_reducible refine r_dnin ?_ | with_reducible refine r_call ?_ | with_reducible refine r_meth ?_ | with_reducible refine r_methE ?_ | with_reducible refine r_bm ?_ | with_reducible refine r_bm0 ?_
  | with_reducible refine r_test ?_ | with_reducible refine r_tb ?_ | with_reducible refine r_not ?_ | with_reducible refine r_and ?_ | with_reducible refine r_or ?_ | with_reducible refine r_andV ?_ | with_reducible refine r_orV ?_
  | with_reducible refine r_notV ?_ | with_reducible refine r_tif ?_
  | with_reducible refine k_bl ?_ | with_reducible refine k_i0 ?_ | with_reducible refine k_u ?_ | with_reducible refine k_isN ?_ | with_reducible refine k_notN ?_ | with_reducible refine k_int ?_ | with_reducible refine k_abs ?_ | with_reducible refine k_max ?_ | with_reducible refine k_min ?_
  | with_reducible refine k_eq rfl ?_ | with_reducible refine k_ne rfl ?_
  | ((with_reducible refine' k_fld ?hc ?hn ?ho ?hl ?_); (case hc => assumption); (case hn => assumption); (case ho => walk_at "hp"); (case hl => walk_at "lk"))
  | ((with_reducible refine' k_len ?ho ?_); (case ho => walk_at "sq"))
  | ((with_reducible refine' k_bml ?ho ?_); (case ho => walk_at "hp"))
  | ((with_reducible refine' k_sfld ?hc ?hn ?ho ?hl ?_); (case hc => assumption); (case hn => assumption); (case ho => walk_at "hp"); (case hl => walk_at "ll"))
  | ((with_reducible refine' k_meth ?ho ?hl ?_); (case ho => walk_at "hp"); (case hl => walk_at "nm"))
  | ((with_reducible refine' k_methE ?ho ?hl ?_); (case ho => walk_at "hp"); (case hl => walk_at "nm"))
  | with_reducible refine r_rng1 ?_ | with_reducible refine r_rng2 ?_ | with_reducible refine r_forL ?_ | with_reducible refine r_forT ?_ | with_reducible refine r_enum ?_ | with_reducible refine r_lcL ?_ | with_reducible refine r_lcR1 ?_ | with_reducible refine r_raise ?_ | with_reducible refine r_make ?_
  | ((with_reducible refine' k_dgetS ?ho ?hg ?_); (case ho => walk_at "hp"); (case hg => walk_at "dg"))
  | with_reducible refine r_pcons ?_ | with_reducible refine r_pnil ?_ | with_reducible refine r_xf ?_ | with_reducible refine r_try ?_)
local macro_rules | `(tactic| walk_at "rd") => `(tactic| repeat (first | walk_at "r1" | (dsimp only; walk_at "r1")))
local macro_rules | `(tactic| walk_at "fr") => `(tactic| first | assumption | (apply un; assumption) | (apply un; apply un; assumption) | (apply un; apply un; apply un; assumption) | (apply un; apply un; apply un; apply un; assumption) | (apply un; apply un; apply un; apply un; apply un; assumption) | (apply un; apply un; apply un; apply un; apply un; apply un; assumption))
local macro_rules | `(tactic| walk_at "lk") => `(tactic| first | exact lk_Frames_0 | exact lk_Frames_1 | exact lk_Frames_2)
local macro_rules | `(tactic| walk_at "ll") => `(tactic| first | (rw [ln_Frames]; decide) | with_reducible exact lt0 | with_reducible exact lt1 | with_reducible exact lt2 | with_reducible exact lt3 | with_reducible exact lt4)
local macro_rules | `(tactic| walk_at "nm") => `(tactic| first | exact nm_Frames_size | exact nm_Frames_in_use | exact nm_Frames__check | exact nm_Frames__use | exact nm_Frames_free_frame | exact nm_Frames_order | exact nm_Frames_oldest | exact nm_Frames_fill | exact nm_Frames_words | exact nm_Frames_word | exact nm_Frames_set_word | exact nm_Frames_touch | exact nm_Frames_empty | exact nm_Frames_resize | exact nm_Frames_frozen)
local macro_rules | `(tactic| walk_at "cl") => `(tactic| (have c1 := Cl.cl_Frames (by assumption); have n1 := Cl.na_Frames__contents (by assumption); have n2 := Cl.na_Frames__stamps (by assumption); have n3 := Cl.na_Frames__latest (by assumption)))
local macro_rules | `(tactic| walk_at "dg") => `(tactic| first | with_reducible exact sd_f | with_reducible exact sd_w | with_reducible exact sd_o)
theorem pure__law_agrees {K : PySem.W.Frag} {a : Ad} (C : Cl K a) {x0 x1 : V} {H : Hp} {Q : VK} {E : XK}
    (h : pr__law_agrees K a x0 x1 H Q E) : t__law_agrees K a { nx := fun _ H' => Q .non H', rt := Q } [some x0, some x1, none, none, none, none, none, none] H := by
  obtain ⟨s, b, L, kf, kl, p, F, O, rfl, rfl, hL, ⟨w, o, qs, ls, lw, lo, hs, hw, hq, ho, fr, od, ne⟩, q⟩ := h
  have hql := hq.len
  have h48F := fr.s48
  have hOl := od.len
  unfold t__law_agrees
  walk_at "rd"
  refine r_cut (fun σ2 H2 => H2 = H ∧ σ2 = [some (.ref s), some (.bl b), some (.ref p), some (.ref w), some (.ref o), some (.int (first O)), none, none]) ?_ ?_
  · walk_at "rd"
    cases hO : O with
    | nil =>
      subst hO
      refine kif_no (by simp [intL]) ?_
      walk_at "rd"
      exact ⟨rfl, rfl⟩
    | cons i r =>
      subst hO
      refine kif_of (by simp [intL]) ?_
      walk_at "rd"
      refine k_ixL (xs := intL (i :: r)) (v := .int (i : Nat)) (by walk_at "sq") (by exact atI_nat (j := 0) rfl) ?_
      walk_at "rd"
      exact ⟨rfl, rfl⟩
  · rintro σ2 H2 ⟨rfl, rfl⟩
    walk_at "rd"
    refine k_rng1 (n := (qs.map oV).length) (by rw [List.length_map]; omega) (fun n σ' H' => H' = H2 ∧ ∃ fv u, σ' = [some (.ref s), some (.bl b), some (.ref p), some (.ref w), some (.ref o), some (.int (first O)), some (.int fv), u] ∧
      ((fv = -1 ∧ ∀ j, j < n → F.cont[j]? ≠ some none) ∨ ∃ i : Nat, fv = (i : Nat) ∧ F.cont[i]? = some none ∧ ∀ j, j < i → F.cont[j]? ≠ some none))
      ⟨rfl, -1, _, rfl, .inl ⟨rfl, fun j hj => by omega⟩⟩ ?_ ?_
    · rintro n σ' H' hn ⟨rfl, fv, u, rfl, iv⟩
      rw [List.length_map] at hn
      walk_at "rd"
      rcases hq.at (show n < F.cont.length by omega) with ⟨e1, e2⟩ | ⟨ws, w2, e1, e2, e3, e4⟩
      · refine k_ixL (by walk_at "sq") (atI_nat (v := V.non) (by rw [List.getElem?_map, e2]; rfl)) ?_
        walk_at "rd"
        refine kif_t ?_
        walk_at "rd"
        rcases iv with ⟨e, iv⟩ | ⟨i, e, iv⟩
        · subst e
          refine kif_t ?_
          walk_at "rd"
          exact ⟨rfl, _, _, rfl, .inr ⟨n, rfl, e1, iv⟩⟩
        · subst e
          refine kif_no (by simp) ?_
          walk_at "rd"
          exact ⟨rfl, _, _, rfl, .inr ⟨i, rfl, iv⟩⟩
      · refine k_ixL (by walk_at "sq") (atI_nat (v := V.ref w2) (by rw [List.getElem?_map, e2]; rfl)) ?_
        walk_at "rd"
        refine kif_f ?_
        refine kif_f ?_
        walk_at "rd"
        refine ⟨rfl, fv, _, rfl, ?_⟩
        rcases iv with ⟨e, iv⟩ | iv
        · refine .inl ⟨e, fun j hj => ?_⟩
          by_cases ej : j = n
          · subst ej; rw [e1]; simp
          · exact iv j (by omega)
        · exact .inr iv
    · rintro σ' H' ⟨rfl, fv, u, rfl, iv⟩
      rw [List.length_map, hql] at iv
      have efv : fv = least F.cont := by
        rcases iv with ⟨e, iv⟩ | ⟨i, e, e1, iv⟩
        · rw [e, least_no iv]
        · rw [e, least_eq e1 iv]
      subst efv
      obtain ⟨c0, t0, qs0, fr0⟩ := id fr
      obtain ⟨dx0, ob0⟩ := fr0.ob
      walk_at "rd"
      refine sp1_i ⟨p, L, kf, F, O, rfl, fr, od, fun H3 s3 => ?_⟩
      have ob3 := s3 _ _ ob0
      have fr3 : FrA a L kf H3 p F := fr.of (fun _ _ e => e) fun x l o _ _ hx => s3 _ _ hx
      walk_at "rd"
      refine sp1_i ⟨p, L, kf, F, rfl, fr3, fun H4 s4 => ?_⟩
      walk_at "rd"
      refine k_tup (by simp) fun T1 hT1 => ?_
      walk_at "rd"
      refine k_tup (by simp) fun T2 hT2 => ?_
      walk_at "rd"
      have h1 : upd (upd H4 T1 (HO.tup [V.int (first O), V.int (least F.cont)])) T2 (HO.tup [V.int (first O), V.int (least F.cont)]) T1 = some (.tup [.int (first O), .int (least F.cont)]) := same_new hT2 _ _ upd_same
      have h2 : upd (upd H4 T1 (HO.tup [V.int (first O), V.int (least F.cont)])) T2 (HO.tup [V.int (first O), V.int (least F.cont)]) T2 = some (.tup [.int (first O), .int (least F.cont)]) := upd_same
      have sm : Same H' (upd (upd H4 T1 (HO.tup [V.int (first O), V.int (least F.cont)])) T2 (HO.tup [V.int (first O), V.int (least F.cont)])) := s3.trans (s4.trans ((same_new hT1).trans (same_new hT2)))
      generalize upd (upd H4 T1 (HO.tup [V.int (first O), V.int (least F.cont)])) T2 (HO.tup [V.int (first O), V.int (least F.cont)]) = H5 at *
      refine sp2_i ⟨.tuple [.int (first O), .int (least F.cont)], ⟨by simp, fun x hx => ?_⟩, .tup (.inl (.inl h1)) (.cons (.int _) (.cons (.int _) .nil)), .tup (.inl (.inl h2)) (.cons (.int _) (.cons (.int _) .nil)), ?_⟩
      · rcases List.mem_cons.mp hx with e | e
        · subst e; trivial
        · have : x = .int (least F.cont) := by simpa using e
          subst this; trivial
      walk_at "rd"
      refine kif_f ?_
      walk_at "rd"
      cases b with
      | false =>
        refine kif_of rfl ?_
        exact q H5 sm
      | true =>
        refine kif_no rfl ?_
        have ob5 := sm _ _ ob0
        have fr5 : FrA a L kf H5 p F := fr.of (fun _ _ e => e) fun x l o _ _ hx => sm _ _ hx
        have ho5 := sm _ _ ho
        walk_at "rd"
        refine sp1_i ⟨p, L, kf, F, O, rfl, fr5, od, fun T3 H6 hT3 s6 h6 => ?_⟩
        walk_at "rd"
        refine k_tupL (.inl (.inl (s6 _ _ ho5))) fun T4 hT4 => ?_
        walk_at "rd"
        have e0 : intL O = (O.map fun i => ((i : Nat) : Int)).map V.int := by unfold intL; rw [List.map_map]; rfl
        have h7 : upd H6 T4 (HO.tup (intL O)) T3 = some (.tup (intL O)) := same_new hT4 _ _ h6
        have h8 : upd H6 T4 (HO.tup (intL O)) T4 = some (.tup (intL O)) := upd_same
        have sm7 : Same H' (upd H6 T4 (HO.tup (intL O))) := sm.trans (s6.trans (same_new hT4))
        rw [e0] at h7 h8 sm7 ⊢
        refine sp2_i ⟨.tuple ((O.map fun i => ((i : Nat) : Int)).map .int), ⟨by rw [List.length_map, List.length_map]; omega, fun x hx => ?_⟩, .tup (.inl (.inl h7)) (dp_ints _), .tup (.inl (.inl h8)) (dp_ints _), q _ sm7⟩
        obtain ⟨i, _, rfl⟩ := List.mem_map.mp hx
        trivial
end K60

namespace K60
open PySem L2 Lh
local macro_rules | `(tactic| walk_at "ne") => `(tactic| first | assumption | exact Ne.symm (by assumption) | ((with_reducible refine' lne ?h1 ?h2 ?h3); (case h1 => assumption); (case h2 => assumption); (case h3 => simp)) | ((with_reducible refine' nn ?h1 ?h2); (case h1 => assumption); (case h2 => walk_at "hp")) | (apply Ne.symm; (with_reducible refine' nn ?h1 ?h2); (case h1 => assumption); (case h2 => walk_at "hp")))
local macro_rules | `(tactic| walk_at "hp") => `(tactic| first | assumption | exact upd_same | (refine Eq.trans (upd_ne ?hne) ?hrest; (case hne => walk_at "ne"); (case hrest => walk_at "hp")))
local macro_rules | `(tactic| walk_at "sq") => `(tactic| first | assumption | (refine Or.inl (Or.inl ?hsq); (case hsq => walk_at "hp")))
local macro_rules | `(tactic| walk_at "r1") => `(tactic| first
  | with_reducible refine r_seq ?_ | with_reducible refine r_asg ?_ | with_reducible refine r_sfld ?_ | with_reducible refine r_ret ?_ | with_reducible refine r_retN ?_ | with_reducible refine r_drop ?_
  | with_reducible refine r_next ?_ | with_reducible refine r_ifs ?_ | with_reducible refine r_dput ?_ | with_reducible refine r_asgG ?_ | with_reducible refine r_gsub ?_
  | ((with_reducible refine' r_var ?hv ?_); (case hv => exact rfl)) | with_reducible refine r_c ?_ | with_reducible refine r_op ?_ | with_reducible refine r_un ?_ | with_reducible refine r_fld ?_
  | with_reducible refine r_cb ?_ | with_reducible refine r_tup ?_ | with_reducible refine r_lst ?_ | with_reducible refine r_nil ?_ | with_reducible refine r_cons ?_ | with_reducible refine r_dget ?_
  | with_reducible refine r_din ?_ | with_reducible refine r_dnin ?_ | with_reducible refine r_call ?_ | with_reducible refine r_meth ?_ | with_reducible refine r_methE ?_ | with_reducible refine r_bm ?_ | with_reducible refine r_bm0 ?_
  | with_reducible refine r_test ?_ | with_reducible refine r_tb ?_ | with_reducible refine r_not ?_ | with_reducible refine r_and ?_ | with_reducible refine r_or ?_ | with_reducible refine r_andV ?_ | with_reducible refine r_orV ?_
  | with_reducible refine r_notV ?_ | with_reducible refine r_tif ?_
  | with_reducible refine k_bl ?_ | with_reducible refine k_i0 ?_ | with_reducible refine k_u ?_ | with_reducible refine k_isN ?_ | with_reducible refine k_notN ?_ | with_reducible refine k_int ?_ | with_reducible refine k_abs ?_ | with_reducible refine k_max ?_ | with_reducible refine k_min ?_
  | with_reducible refine k_eq rfl ?_ | with_reducible refine k_ne rfl ?_
  | ((with_reducible refine' k_fld ?hc ?hn ?ho ?hl ?_); (case hc => assumption); (case hn => assumption); (case ho => walk_at "hp"); (case hl => walk_at "lk"))
  | ((with_reducible refine' k_len ?ho ?_); (case ho => walk_at "sq"))
  | ((with_reducible refine' k_bml ?ho ?_); (case ho => walk_at "hp"))
  | ((with_reducible refine' k_sfld ?hc ?hn ?ho ?hl ?_); (case hc => assumption); (case hn => assumption); (case ho => walk_at "hp"); (case hl => walk_at "ll"))
  | ((with_reducible refine' k_meth ?ho ?hl ?_); (case ho => walk_at "hp"); (case hl => walk_at "nm"))
  | ((with_reducible refine' k_methE ?ho ?hl ?_); (case ho => walk_at "hp"); (case hl => walk_at "nm"))
  | with_reducible refine r_rng1 ?_ | with_reducible refine r_rng2 ?_ | with_reducible refine r_forL ?_ | with_reducible refine r_forT ?_ | with_reducible refine r_enum ?_ | with_reducible refine r_lcL ?_ | with_reducible refine r_lcR1 ?_ | with_reducible refine r_raise ?_ | with_reducible refine r_make ?_
  | ((with_reducible refine' k_dgetS ?ho ?hg ?_); (case ho => walk_at "hp"); (case hg => walk_at "dg"))
  | with_reducible refine r_pcons ?_ | with_reducible refine r_pnil ?_ | with_reducible refine r_xf ?_ | with_reducible refine r_try ?_)
local macro_rules | `(tactic| walk_at "rd") => `(tactic| repeat (first | walk_at "r1" | (dsimp only; walk_at "r1")))
local macro_rules | `(tactic| walk_at "fr") => `(tactic| first | assumption | (apply un; assumption) | (apply un; apply un; assumption) | (apply un; apply un; apply un; assumption) | (apply un; apply un; apply un; apply un; assumption) | (apply un; apply un; apply un; apply un; apply un; assumption) | (apply un; apply un; apply un; apply un; apply un; apply un; assumption))
local macro_rules | `(tactic| walk_at "lk") => `(tactic| first | exact lk_Frames_0 | exact lk_Frames_1 | exact lk_Frames_2)
local macro_rules | `(tactic| walk_at "ll") => `(tactic| first | (rw [ln_Frames]; decide) | with_reducible exact lt0 | with_reducible exact lt1 | with_reducible exact lt2 | with_reducible exact lt3 | with_reducible exact lt4)
local macro_rules | `(tactic| walk_at "nm") => `(tactic| first | exact nm_Frames_size | exact nm_Frames_in_use | exact nm_Frames__check | exact nm_Frames__use | exact nm_Frames_free_frame | exact nm_Frames_order | exact nm_Frames_oldest | exact nm_Frames_fill | exact nm_Frames_words | exact nm_Frames_word | exact nm_Frames_set_word | exact nm_Frames_touch | exact nm_Frames_empty | exact nm_Frames_resize | exact nm_Frames_frozen)
local macro_rules | `(tactic| walk_at "cl") => `(tactic| (have c1 := Cl.cl_Frames (by assumption); have n1 := Cl.na_Frames__contents (by assumption); have n2 := Cl.na_Frames__stamps (by assumption); have n3 := Cl.na_Frames__latest (by assumption)))
local macro_rules | `(tactic| walk_at "dg") => `(tactic| first | with_reducible exact sd_f | with_reducible exact sd_w | with_reducible exact sd_o)
theorem pure__law_done {K : PySem.W.Frag} {a : Ad} (C : Cl K a) {x0 x1 x2 x3 x4 : V} {H : Hp} {Q : VK} {E : XK}
    (h : pr__law_done K a x0 x1 x2 x3 x4 H Q E) : t__law_done K a { nx := fun _ H' => Q .non H', rt := Q } [some x0, some x1, some x2, some x3, some x4, none, none, none, none, none, none] H := by
  obtain ⟨s, kd, i, at_, wd, L, kf, kl, p, F, O, rfl, rfl, rfl, rfl, rfl, hL, sd, hil, hat, q⟩ := h
  obtain ⟨w, o, qs, ls, lw, lo, hs, hw, hq, ho, fr, od, ne⟩ := id sd
  have hql := hq.len
  have h48F := fr.s48
  have hOl := od.len
  have nkl : ¬ (kl = kf) := fun e => ne e.symm
  unfold t__law_done
  walk_at "rd"
  have hx : ∃ x, (qs.map oV)[i]? = some x ∧ ((F.cont[i]? = some none ∧ x = .non) ∨ ∃ ws c, F.cont[i]? = some (some ws) ∧ x = .ref c ∧ qs[i]? = some (some c) ∧ L c = some (kl, 3, i) ∧ H c = some (.lst (intsL ws))) := by
    rcases hq.at hil with ⟨e1, e2⟩ | ⟨ws, c, e1, e2, e3, e4⟩
    · exact ⟨.non, by rw [List.getElem?_map, e2]; rfl, .inl ⟨e1, rfl⟩⟩
    · exact ⟨.ref c, by rw [List.getElem?_map, e2]; rfl, .inr ⟨ws, c, e1, rfl, e2, e3, e4⟩⟩
  obtain ⟨x, hx, hc⟩ := hx
  refine k_ixL (by walk_at "sq") (atI_nat hx) ?_
  walk_at "rd"
  refine kif_d (fun h6 => ?_) fun h6 => ?_
  · walk_at "rd"
    refine k_lst (by simp) fun l hl => ?_
    walk_at "rd"
    refine k_i (by decide) ?_
    walk_at "rd"
    obtain ⟨k, hk, hk8⟩ : ∃ k : Nat, ((at_ : Nat) : Int) % 8 = (k : Nat) ∧ k < 8 := ⟨at_ % 8, by omega, by omega⟩
    rw [hk]
    have hv : ∃ z : Int, ([V.int (-30), V.int (-9), V.int (-3), V.int (-1), V.int 1, V.int 4, V.int 16, V.int 47] : List V)[k]? = some (.int z) := by
      have e : ([V.int (-30), V.int (-9), V.int (-3), V.int (-1), V.int 1, V.int 4, V.int 16, V.int 47] : List V) = ([-30, -9, -3, -1, 1, 4, 16, 47] : List Int).map V.int := rfl
      rw [e, List.getElem?_map, List.getElem?_eq_getElem (by simp; omega)]
      exact ⟨_, rfl⟩
    obtain ⟨z, hz⟩ := hv
    refine k_ixL (.inl (.inl upd_same)) (atI_nat hz) ?_
    have sl : Same H (upd H l (HO.lst [V.int (-30), V.int (-9), V.int (-3), V.int (-1), V.int 1, V.int 4, V.int 16, V.int 47])) := same_new hl
    generalize upd H l (HO.lst [V.int (-30), V.int (-9), V.int (-3), V.int (-1), V.int 1, V.int 4, V.int 16, V.int 47]) = H1 at *
    have hw1 := sl _ _ hw
    walk_at "rd"
    obtain ⟨n, hn, n1, n48⟩ : ∃ n : Nat, (if (if (((qs.map oV).length : Nat) : Int) + z > 1 then (((qs.map oV).length : Nat) : Int) + z else 1) < 48 then (if (((qs.map oV).length : Nat) : Int) + z > 1 then (((qs.map oV).length : Nat) : Int) + z else 1) else 48) = (n : Nat) ∧ 1 ≤ n ∧ n ≤ 48 := by
      refine ⟨(if (if (((qs.map oV).length : Nat) : Int) + z > 1 then (((qs.map oV).length : Nat) : Int) + z else 1) < 48 then (if (((qs.map oV).length : Nat) : Int) + z > 1 then (((qs.map oV).length : Nat) : Int) + z else 1) else 48).toNat, ?_, ?_, ?_⟩ <;> (split <;> split <;> omega)
    rw [hn]
    have st1 : Stp (Two kf kl) H L H1 L := Stp.of_same hL sl
    refine sp2_i ⟨s, n, L, kf, kl, p, F, O, rfl, rfl, st1.lab, sd.keep (Stp.of_same (S := fun _ => False) hL sl) (fun z => z) (fun z => z), n1, n48, fun F' O' H2 st2 sd2 => ?_⟩
    exact q F' O' H2 L (st1.trans st2) sd2
  walk_at "rd"
  rcases hc with ⟨e1, rfl⟩ | ⟨ws, c, e1, rfl, e2, lc, hcc⟩
  · refine kif_t ?_
    walk_at "rd"
    refine sp3_i ⟨s, i, wd, L, kf, kl, p, F, O, rfl, rfl, rfl, hL, sd, e1, fun us H2 L2 h16 st2 sd2 => ?_⟩
    exact q _ _ H2 L2 st2 sd2
  refine kif_f ?_
  walk_at "rd"
  have h16 : ws.length = 16 := by
    obtain ⟨_, _, _, g⟩ := id fr
    exact g.wf ws (List.mem_of_getElem? e1)
  refine kif_d (fun h5 => ?_) fun h5 => ?_
  · walk_at "rd"
    refine sp2_i ⟨s, i, L, kf, kl, p, F, O, ws, w, o, rfl, rfl, hL, ⟨qs, ls, lw, lo, hs, hw, hq, ho, fr, od, ne⟩, e1, fun H2 st2 sd2 => ?_⟩
    obtain ⟨qs2, sd2⟩ := sd2
    exact q _ _ H2 L st2 ⟨w, o, qs2, sd2⟩
  walk_at "rd"
  obtain ⟨c0, t0, qs0, fr0⟩ := id fr
  obtain ⟨dx0, ob0⟩ := fr0.ob
  refine kif_d (fun h4 => ?_) fun h4 => ?_
  · walk_at "rd"
    have hu : ws[at_]? = some ws[at_] := List.getElem?_eq_getElem (by omega)
    refine sp3_i ⟨p, i, at_, L, kf, F, ws, ws[at_], rfl, rfl, rfl, fr, e1, hu, ?_⟩
    walk_at "rd"
    refine sp2_i ⟨p, i, L, kf, F, ws, rfl, rfl, fr, e1, fun T1 H1 hT1 s1 h1 => ?_⟩
    have ob1 := s1 _ _ ob0
    have fr1 : FrA a L kf H1 p F := fr.of (fun _ _ e => e) fun x l o _ _ hx => s1 _ _ hx
    walk_at "rd"
    refine sp2_i ⟨p, i, L, kf, F, _, rfl, rfl, fr1, e1, ?_⟩
    walk_at "rd"
    refine sp1_i ⟨p, L, kf, F, rfl, fr1, ?_⟩
    walk_at "rd"
    refine k_tup (by simp) fun T2 hT2 => ?_
    walk_at "rd"
    have s2 : Same H (upd H1 T2 (HO.tup [V.int ws[at_], V.ref T1, V.bl (some ws).isSome, V.int (F.cont.length : Nat)])) := s1.trans (same_new hT2)
    have h12 := same_new (o := HO.tup [V.int ws[at_], V.ref T1, V.bl (some ws).isSome, V.int (F.cont.length : Nat)]) hT2 _ _ h1
    have h22 : upd H1 T2 (HO.tup [V.int ws[at_], V.ref T1, V.bl (some ws).isSome, V.int (F.cont.length : Nat)]) T2 = some (.tup [V.int ws[at_], V.ref T1, V.bl true, V.int (F.cont.length : Nat)]) := upd_same
    generalize upd H1 T2 (HO.tup [V.int ws[at_], V.ref T1, V.bl (some ws).isSome, V.int (F.cont.length : Nat)]) = H2 at *
    have hcc2 := s2 _ _ hcc
    have hw2 := s2 _ _ hw
    refine k_ixL (.inl (.inl hcc2)) (atI_nat (v := .int ws[at_]) (by unfold intsL; rw [List.getElem?_map, hu]; rfl)) ?_
    walk_at "rd"
    refine k_tupL (.inl (.inl hcc2)) fun T3 hT3 => ?_
    have hw3 := same_new (o := HO.tup (intsL ws)) hT3 _ _ hw2
    walk_at "rd"
    refine k_tup (by simp) fun T4 hT4 => ?_
    rw [List.length_map, hql]
    walk_at "rd"
    have s4 : Same H2 (upd (upd H2 T3 (HO.tup (intsL ws))) T4 (HO.tup [V.int ws[at_], V.ref T3, V.bl true, V.int (F.cont.length : Nat)])) := (same_new hT3).trans (same_new hT4)
    have h14 := s4 _ _ h12
    have h24 := s4 _ _ h22
    have h34 : upd (upd H2 T3 (HO.tup (intsL ws))) T4 (HO.tup [V.int ws[at_], V.ref T3, V.bl true, V.int (F.cont.length : Nat)]) T3 = some (.tup (intsL ws)) := same_new hT4 _ _ upd_same
    have h44 : upd (upd H2 T3 (HO.tup (intsL ws))) T4 (HO.tup [V.int ws[at_], V.ref T3, V.bl true, V.int (F.cont.length : Nat)]) T4 = some (.tup [V.int ws[at_], V.ref T3, V.bl true, V.int (F.cont.length : Nat)]) := upd_same
    have sm := s2.trans s4
    generalize upd (upd H2 T3 (HO.tup (intsL ws))) T4 (HO.tup [V.int ws[at_], V.ref T3, V.bl true, V.int (F.cont.length : Nat)]) = H5 at *
    have dd : ∀ y z, H5 y = some (.tup [V.int ws[at_], V.ref z, V.bl true, V.int (F.cont.length : Nat)]) → H5 z = some (.tup (intsL ws)) → Dp K H5 (.ref y) (.tuple [.int ws[at_], .tuple (ws.map .int), .bool true, .int (F.cont.length : Nat)]) := fun y z hy hz =>
      .tup (.inl (.inl hy)) (.cons (.int _) (.cons (.tup (.inl (.inl hz)) (dp_ints _)) (.cons (.bl _) (.cons (.int _) .nil))))
    refine sp2_i ⟨.tuple [.int ws[at_], .tuple (ws.map .int), .bool true, .int (F.cont.length : Nat)], ⟨by simp, fun x hx => ?_⟩, dd T2 T1 h24 h14, dd T4 T3 h44 h34, ?_⟩
    · simp only [List.mem_cons, List.not_mem_nil, or_false] at hx
      rcases hx with e | e | e | e
      · subst e; trivial
      · subst e
        refine ⟨by rw [List.length_map]; omega, fun y hy => ?_⟩
        obtain ⟨j, _, rfl⟩ := List.mem_map.mp hy
        trivial
      · subst e; trivial
      · subst e; trivial
    have st5 : Stp (Two kf kl) H L H5 L := Stp.of_same hL sm
    exact q F O H5 L st5 (sd.keep (Stp.of_same (S := fun _ => False) hL sm) (fun z => z) (fun z => z))
  walk_at "rd"
  refine k_remN ho ((od.mem i).mpr ⟨ws, e1⟩) ?_
  walk_at "rd"
  refine k_append (xs := intL (O.erase i)) upd_same (by unfold intL; rw [List.length_map]; have := List.length_erase_le (l := O) (a := i); omega) ?_
  rw [upd_upd]
  have eO : intL (O.erase i) ++ [V.int (i : Nat)] = intL (O.erase i ++ [i]) := by unfold intL; rw [List.map_append]; rfl
  rw [eO]
  have stA : Stp (· = kl) H L (upd H o (HO.lst (intL (O.erase i ++ [i])))) L := Stp.write hL lo rfl ho
  have hsA : upd H o (HO.lst (intL (O.erase i ++ [i]))) s = some (.dK (sdD p w o)) := by rw [upd_ne (lne ls lo (by simp))]; exact hs
  have hwA : upd H o (HO.lst (intL (O.erase i ++ [i]))) w = some (.lst (qs.map oV)) := by rw [upd_ne (lne lw lo (by simp))]; exact hw
  have hoA : upd H o (HO.lst (intL (O.erase i ++ [i]))) o = some (.lst (intL (O.erase i ++ [i]))) := upd_same
  have hqA : OLs L (upd H o (HO.lst (intL (O.erase i ++ [i])))) kl 3 qs F.cont := hq.of (fun _ _ e => e) fun x j o' hl hx => by
    rw [upd_ne (lne hl lo (by simp))]; exact hx
  have hcA : upd H o (HO.lst (intL (O.erase i ++ [i]))) c = some (.lst (intsL ws)) := by rw [upd_ne (lne lc lo (by simp))]; exact hcc
  have frA := fr.keep stA ne
  generalize upd H o (HO.lst (intL (O.erase i ++ [i]))) = HA at *
  walk_at "rd"
  refine kif_d (fun h3 => ?_) fun h3 => ?_
  · walk_at "rd"
    refine k_setL hcA (by unfold intsL; rw [List.length_map]; omega) ?_
    have e3 : (intsL ws).set at_ (V.int wd) = intsL (ws.set at_ wd) := by unfold intsL; rw [List.map_set]
    rw [e3]
    have stB := stA.trans (Stp.write (o := HO.lst (intsL (ws.set at_ wd))) stA.lab lc rfl hcA)
    have hsB : upd HA c (HO.lst (intsL (ws.set at_ wd))) s = some (.dK (sdD p w o)) := by rw [upd_ne (lne ls lc (by simp))]; exact hsA
    have hwB : upd HA c (HO.lst (intsL (ws.set at_ wd))) w = some (.lst (qs.map oV)) := by rw [upd_ne (lne lw lc (by simp))]; exact hwA
    have hoB : upd HA c (HO.lst (intsL (ws.set at_ wd))) o = some (.lst (intL (O.erase i ++ [i]))) := by rw [upd_ne (lne lo lc (by simp))]; exact hoA
    have hqB := hqA.write (ws := ws.set at_ wd) e2 lc
    have frB := fr.keep stB ne
    have hqB' : OLs L (upd HA c (HO.lst (intsL (ws.set at_ wd)))) kl 3 qs (F.cont.set i (some (ws.set at_ wd))) := hqB
    generalize upd HA c (HO.lst (intsL (ws.set at_ wd))) = HB at *
    obtain ⟨c9, t9, qs9, fr9⟩ := id frB
    obtain ⟨dx9, ob9⟩ := fr9.ob
    walk_at "rd"
    refine sp4_i ⟨p, i, at_, wd, L, kf, F, ws, rfl, rfl, rfl, rfl, stB.lab, frB, e1, hat, fun H2 st2 fa => ?_⟩
    walk_at "rd"
    refine sp2_i ⟨.none, trivial, .non, .non, ?_⟩
    exact q _ _ H2 L ((stB.mono fun k e => .inr e).trans (st2.mono fun k e => .inl e)) ⟨w, o, qs, ls, lw, lo, st2.lbl ls nkl hsB, st2.lbl lw nkl hwB, hqB'.keep st2 nkl, st2.lbl lo nkl hoB, fa, od.set e1, ne⟩
  · walk_at "rd"
    obtain ⟨c9, t9, qs9, fr9⟩ := id frA
    obtain ⟨dx9, ob9⟩ := fr9.ob
    walk_at "rd"
    refine sp2_i ⟨p, i, L, kf, F, ws, rfl, rfl, stA.lab, frA, e1, fun H2 st2 fa => ?_⟩
    walk_at "rd"
    refine sp2_i ⟨.none, trivial, .non, .non, ?_⟩
    exact q (F.use i) (O.erase i ++ [i]) H2 L ((stA.mono fun k e => .inr e).trans (st2.mono fun k e => .inl e)) ⟨w, o, qs, ls, lw, lo, st2.lbl ls nkl hsA, st2.lbl lw nkl hwA, hqA.keep st2 nkl, st2.lbl lo nkl hoA, fa, od.touched e1, ne⟩
end K60

namespace K60
open PySem L2 Lh
local macro_rules | `(tactic| walk_at "ne") => `(tactic| first | assumption | exact Ne.symm (by assumption) | ((with_reducible refine' lne ?h1 ?h2 ?h3); (case h1 => assumption); (case h2 => assumption); (case h3 => simp)) | ((with_reducible refine' nn ?h1 ?h2); (case h1 => assumption); (case h2 => walk_at "hp")) | (apply Ne.symm; (with_reducible refine' nn ?h1 ?h2); (case h1 => assumption); (case h2 => walk_at "hp")))
local macro_rules | `(tactic| walk_at "hp") => `(tactic| first | assumption | exact upd_same | (refine Eq.trans (upd_ne ?hne) ?hrest; (case hne => walk_at "ne"); (case hrest => walk_at "hp")))
local macro_rules | `(tactic| walk_at "sq") => `(tactic| first | assumption | (refine Or.inl (Or.inl ?hsq); (case hsq => walk_at "hp")))
local macro_rules | `(tactic| walk_at "r1") => `(tactic| first
  | with_reducible refine r_seq ?_ | with_reducible refine r_asg ?_ | with_reducible refine r_sfld ?_ | with_reducible refine r_ret ?_ | with_reducible refine r_retN ?_ | with_reducible refine r_drop ?_
  | with_reducible refine r_next ?_ | with_reducible refine r_ifs ?_ | with_reducible refine r_dput ?_ | with_reducible refine r_asgG ?_ | with_reducible refine r_gsub ?_
  | ((with_reducible refine' r_var ?hv ?_); (case hv => exact rfl)) | with_reducible refine r_c ?_ | with_reducible refine r_op ?_ | with_reducible refine r_un ?_ | with_reducible refine r_fld ?_
  | with_reducible refine r_cb ?_ | with_reducible refine r_tup ?_ | with_reducible refine r_lst ?_ | with_reducible refine r_nil ?_ | with_reducible refine r_cons ?_ | with_reducible refine r_dget ?_
  | with_reducible refine r_din ?_ | with_reducible refine r_dnin ?_ | with_reducible refine r_call ?_ | with_reducible refine r_meth ?_ | with_reducible refine r_methE ?_ | with_reducible refine r_bm ?_ | with_reducible refine r_bm0 ?_
  | with_reducible refine r_test ?_ | with_reducible refine r_tb ?_ | with_reducible refine r_not ?_ | with_reducible refine r_and ?_ | with_reducible refine r_or ?_ | with_reducible refine r_andV ?_ | with_reducible refine r_orV ?_
  | with_reducible refine r_notV ?_ | with_reducible refine r_tif ?_
  | with_reducible refine k_bl ?_ | with_reducible refine k_i0 ?_ | with_reducible refine k_u ?_ | with_reducible refine k_isN ?_ | with_reducible refine k_notN ?_ | with_reducible refine k_int ?_ | with_reducible refine k_abs ?_ | with_reducible refine k_max ?_ | with_reducible refine k_min ?_
  | with_reducible refine k_eq rfl ?_ | with_reducible refine k_ne rfl ?_
  | ((with_reducible refine' k_fld ?hc ?hn ?ho ?hl ?_); (case hc => assumption); (case hn => assumption); (case ho => walk_at "hp"); (case hl => walk_at "lk"))
  | ((with_reducible refine' k_len ?ho ?_); (case ho => walk_at "sq"))
  | ((with_reducible refine' k_bml ?ho ?_); (case ho => walk_at "hp"))
  | ((with_reducible refine' k_sfld ?hc ?hn ?ho ?hl ?_); (case hc => assumption); (case hn => assumption); (case ho => walk_at "hp"); (case hl => walk_at "ll"))
  | ((with_reducible refine' k_meth ?ho ?hl ?_); (case ho => walk_at "hp"); (case hl => walk_at "nm"))
  | ((with_reducible refine' k_methE ?ho ?hl ?_); (case ho => walk_at "hp"); (case hl => walk_at "nm"))
  | with_reducible refine r_rng1 ?_ | with_reducible refine r_rng2 ?_ | with_reducible refine r_forL ?_ | with_reducible refine r_forT ?_ | with_reducible refine r_enum ?_ | with_reducible refine r_lcL ?_ | with_reducible refine r_lcR1 ?_ | with_reducible refine r_raise ?_ | with_reducible refine r_make ?_
  | ((with_reducible refine' k_dgetS ?ho ?hg ?_); (case ho => walk_at "hp"); (case hg => walk_at "dg"))
  | with_reducible refine r_pcons ?_ | with_reducible refine r_pnil ?_ | with_reducible refine r_xf ?_ | with_reducible refine r_try ?_)
local macro_rules | `(tactic| walk_at "rd") => `(tactic| repeat (first | walk_at "r1" | (dsimp only; walk_at "r1")))
local macro_rules | `(tactic| walk_at "fr") => `(tactic| first | assumption | (apply un; assumption) | (apply un; apply un; assumption) | (apply un; apply un; apply un; assumption) | (apply un; apply un; apply un; apply un; assumption) | (apply un; apply un; apply un; apply un; apply un; assumption) | (apply un; apply un; apply un; apply un; apply un; apply un; assumption))
local macro_rules | `(tactic| walk_at "lk") => `(tactic| first | exact lk_Frames_0 | exact lk_Frames_1 | exact lk_Frames_2)
local macro_rules | `(tactic| walk_at "ll") => `(tactic| first | (rw [ln_Frames]; decide) | with_reducible exact lt0 | with_reducible exact lt1 | with_reducible exact lt2 | with_reducible exact lt3 | with_reducible exact lt4)
local macro_rules | `(tactic| walk_at "nm") => `(tactic| first | exact nm_Frames_size | exact nm_Frames_in_use | exact nm_Frames__check | exact nm_Frames__use | exact nm_Frames_free_frame | exact nm_Frames_order | exact nm_Frames_oldest | exact nm_Frames_fill | exact nm_Frames_words | exact nm_Frames_word | exact nm_Frames_set_word | exact nm_Frames_touch | exact nm_Frames_empty | exact nm_Frames_resize | exact nm_Frames_frozen)
local macro_rules | `(tactic| walk_at "cl") => `(tactic| (have c1 := Cl.cl_Frames (by assumption); have n1 := Cl.na_Frames__contents (by assumption); have n2 := Cl.na_Frames__stamps (by assumption); have n3 := Cl.na_Frames__latest (by assumption)))
local macro_rules | `(tactic| walk_at "dg") => `(tactic| first | with_reducible exact sd_f | with_reducible exact sd_w | with_reducible exact sd_o)
/-- stands, without a label -/
def Kp (H : Hp) (L : Lb) (x : Addr) (o : HO) : Prop := L x = none ∧ H x = some o
theorem Kp.step {S : Nat → Prop} {H H' : Hp} {L L' : Lb} {x : Addr} {o : HO} (h : Kp H L x o) (st : Stp S H L H' L') : Kp H' L' x o := ⟨st.nolab h.1 h.2, st.unl h.1 h.2⟩
theorem Kp.new {H H' : Hp} {L : Lb} {x : Addr} {o : HO} (hL : Lab H L) (hx : H x = none) (ho : H' x = some o) : Kp H' L x o := ⟨hL.none hx, ho⟩
theorem FrA.same {a : Ad} {L : Lb} {k : Nat} {H H' : Hp} {p : Addr} {F : Fr} (h : FrA a L k H p F) (s : Same H H') : FrA a L k H' p F := h.of (fun _ _ e => e) fun x l o _ _ hx => s _ _ hx
theorem SdA.same {a : Ad} {L : Lb} {kf kl : Nat} {H H' : Hp} {s p : Addr} {F : Fr} {O : List Nat} (h : SdA a L kf kl H s p F O) (hL : Lab H L) (sm : Same H H') : SdA a L kf kl H' s p F O := h.keep (Stp.of_same (S := fun _ => False) hL sm) (fun z => z) (fun z => z)
/-- both sides, and the set that was thawed from -/
def Bth (a : Ad) (L : Lb) (H : Hp) (s0 s1 : Addr) (k : Nat) (bv ev : V) : Prop := ∃ kf0 p0 F0 O0 p1 F1 O1, SdA a L kf0 1 H s0 p0 F0 O0 ∧ SdA a L 2 3 H s1 p1 F1 O1 ∧
  ((k ≤ 24 ∧ kf0 = 0 ∧ bv = .non) ∨ (24 < k ∧ kf0 = 4 ∧ ∃ b Fb Ob e, bv = .ref b ∧ FrA a L 0 H b Fb ∧ Ord Fb Ob ∧ ev = .ref e ∧ H e = some (.tup (intL Ob))))
theorem Bth.same {a : Ad} {L : Lb} {H H' : Hp} {s0 s1 : Addr} {k : Nat} {bv ev : V} (h : Bth a L H s0 s1 k bv ev) (hL : Lab H L) (sm : Same H H') : Bth a L H' s0 s1 k bv ev := by
  obtain ⟨kf0, p0, F0, O0, p1, F1, O1, d0, d1, c⟩ := h
  refine ⟨kf0, p0, F0, O0, p1, F1, O1, d0.same hL sm, d1.same hL sm, ?_⟩
  rcases c with c | ⟨c1, c2, b, Fb, Ob, e, c3, c4, c5, c6, c7⟩
  · exact .inl c
  · exact .inr ⟨c1, c2, b, Fb, Ob, e, c3, c4.same sm, c5, c6, sm _ _ c7⟩
/-- one of the two sides is taken, changed and put back -/
theorem Bth.pick {a : Ad} {L : Lb} {H : Hp} {s0 s1 : Addr} {k : Nat} {bv ev : V} (h : Bth a L H s0 s1 k bv ev) {j : Nat} (hj : j < 2) :
    ∃ s kf kl p F O, ([V.ref s0, V.ref s1] : List V)[j]? = some (.ref s) ∧ SdA a L kf kl H s p F O ∧ kf ≤ 4 ∧ kl ≤ 4 ∧ ∀ H' L' F' O', Stp (Two kf kl) H L H' L' → SdA a L' kf kl H' s p F' O' → Bth a L' H' s0 s1 k bv ev := by
  obtain ⟨kf0, p0, F0, O0, p1, F1, O1, d0, d1, c⟩ := h
  have hk : kf0 = 0 ∨ kf0 = 4 := by
    rcases c with c | c
    · exact .inl c.2.1
    · exact .inr c.2.1
  have back : ∀ {S : Nat → Prop} {H' L'}, Stp S H L H' L' → (24 < k → ¬ S 0) → ((k ≤ 24 ∧ kf0 = 0 ∧ bv = .non) ∨ (24 < k ∧ kf0 = 4 ∧ ∃ b Fb Ob e, bv = .ref b ∧ FrA a L' 0 H' b Fb ∧ Ord Fb Ob ∧ ev = .ref e ∧ H' e = some (.tup (intL Ob)))) := by
    intro S H' L' st hS
    rcases c with c | ⟨c1, c2, b, Fb, Ob, e, c3, c4, c5, c6, c7⟩
    · exact .inl c
    · exact .inr ⟨c1, c2, b, Fb, Ob, e, c3, c4.keep st (hS c1), c5, c6, st.tup _ _ c7⟩
  have hj2 : j = 0 ∨ j = 1 := by omega
  rcases hj2 with e | e
  · subst e
    refine ⟨s0, kf0, 1, p0, F0, O0, rfl, d0, by omega, by omega, fun H' L' F' O' st sd => ⟨kf0, p0, F', O', p1, F1, O1, sd, d1.keep st (by simp; omega) (by simp; omega), back st fun z => ?_⟩⟩
    rcases c with c | c
    · omega
    · intro w; rcases w with w | w <;> omega
  · subst e
    exact ⟨s1, 2, 3, p1, F1, O1, rfl, d1, by omega, by omega, fun H' L' F' O' st sd => ⟨kf0, p0, F0, O0, p1, F', O', d0.keep st (by simp; omega) (by simp), sd, back st fun z => by intro w; rcases w with w | w <;> omega⟩⟩
theorem rev_erase {O : List Nat} (nd : O.Nodup) {i x : Nat} (hx : O.reverse[i]? = some x) : (O.take (O.length - i) ++ O.reverse.take i).erase x ++ [x] = O.take (O.length - (i + 1)) ++ O.reverse.take (i + 1) := by
  have hi : i < O.length := by
    have := (List.getElem?_eq_some_iff.mp hx).1
    rwa [List.length_reverse] at this
  have hx2 : O[O.length - 1 - i]? = some x := by
    rw [List.getElem?_reverse hi] at hx; exact hx
  have e1 : O.take (O.length - i) = O.take (O.length - (i + 1)) ++ [x] := by
    have : O.length - i = (O.length - 1 - i) + 1 := by omega
    rw [this, take_more hx2]
    congr 2; omega
  have nx : x ∉ O.take (O.length - (i + 1)) := fun z => by
    have h1 : (O.take (O.length - (i + 1)) ++ O.drop (O.length - (i + 1))).Nodup := by rw [List.take_append_drop]; exact nd
    have h2 : x ∈ O.drop (O.length - (i + 1)) := List.mem_of_getElem? (i := 0) (by rw [List.getElem?_drop]; rw [← hx2]; congr 1; omega)
    exact (List.nodup_append.mp h1).2.2 x z x h2 rfl
  rw [take_more hx, e1, List.append_assoc, List.erase_append_right _ nx]
  show O.take (O.length - (i + 1)) ++ ([x] ++ O.reverse.take i).erase x ++ [x] = _
  rw [show ([x] ++ O.reverse.take i).erase x = O.reverse.take i by simp, List.append_assoc]
theorem sd_put {p w o p' : Addr} : putK (sdD p w o) (.inr "frames") (.ref p') = sdD p' w o := by
  have a1 : ¬ (("frames" : Str) = "words") := by decide +kernel
  have a2 : ¬ (("words" : Str) = "frames") := by decide +kernel
  have a3 : ¬ (("frames" : Str) = "order") := by decide +kernel
  have a4 : ¬ (("order" : Str) = "frames") := by decide +kernel
  have a5 : ¬ (("order" : Str) = "words") := by decide +kernel
  have a6 : ¬ (("words" : Str) = "order") := by decide +kernel
  simp [sdD, putK, a1, a2, a3, a4, a5, a6]
theorem sd_len {p w o : Addr} : (sdD p w o).length = 3 := by
  have a1 : ¬ (("frames" : Str) = "words") := by decide +kernel
  have a3 : ¬ (("frames" : Str) = "order") := by decide +kernel
  have a6 : ¬ (("words" : Str) = "order") := by decide +kernel
  simp [sdD, putK, a1, a3, a6]
theorem dp_nats {K : PySem.W.Frag} {H : Hp} (O : List Nat) : DpAll K H (intL O) ((O.map fun i => ((i : Nat) : Int)).map .int) := by
  have e : intL O = (O.map fun i => ((i : Nat) : Int)).map .int := by unfold intL; rw [List.map_map]; rfl
  rw [e]; exact dp_ints _
theorem r_gn {i : Nat} {v : V} {σ : St} {H : Hp} {Q : St → Hp → Prop} (q : Q (σ.set i (some v)) H) : gName i v σ H Q := q
theorem intL_rev (O : List Nat) : (intL O).reverse = intL O.reverse := by unfold intL; rw [List.map_reverse]
theorem Bth.ev {a : Ad} {L : Lb} {H : Hp} {s0 s1 : Addr} {bv ev ev' : V} (h : Bth a L H s0 s1 0 bv ev) : Bth a L H s0 s1 0 bv ev' := by
  obtain ⟨kf0, p0, F0, O0, p1, F1, O1, d0, d1, c⟩ := h
  refine ⟨kf0, p0, F0, O0, p1, F1, O1, d0, d1, ?_⟩
  rcases c with c | c
  · exact .inl c
  · omega
theorem Bth.more {a : Ad} {L : Lb} {H : Hp} {s0 s1 : Addr} {k : Nat} {bv ev : V} (h : Bth a L H s0 s1 k bv ev) (hk : k ≠ 24) : Bth a L H s0 s1 (k + 1) bv ev := by
  obtain ⟨kf0, p0, F0, O0, p1, F1, O1, d0, d1, c⟩ := h
  refine ⟨kf0, p0, F0, O0, p1, F1, O1, d0, d1, ?_⟩
  rcases c with ⟨c1, c2⟩ | ⟨c1, c2⟩
  · exact .inl ⟨by omega, c2⟩
  · exact .inr ⟨by omega, c2⟩
def kTupRev (K : PySem.W.Frag) (v : V) (H1 : Hp) (Q : VK) : Prop := ∃ (a : Addr) (xs : List V), v = .ref a ∧ SqL K H1 a xs ∧ ∀ q, H1 q = none → Q (.ref q) (upd H1 q (.tup xs.reverse))
theorem r_tupRev {K : PySem.W.Frag} {te : TE} {σ : St} {H : Hp} {Q : VK} (h : te σ H fun v H1 => kTupRev K v H1 Q) : RT.tTupRev K te σ H Q := h
theorem k_tupRev {K : PySem.W.Frag} {p : Addr} {xs : List V} {H : Hp} {Q : VK} (ho : SqL K H p xs) (q : ∀ q, H q = none → Q (.ref q) (upd H q (.tup xs.reverse))) : kTupRev K (.ref p) H Q := ⟨p, xs, rfl, ho, q⟩
theorem at0 {x : V} {xs : List V} : atI (x :: xs) 0 = some x := atI_nat (xs := x :: xs) (j := 0) rfl
theorem FrAt.thaw {a : Ad} {L L' : Lb} {H H' : Hp} {s p p' w o : Addr} {F F' : Fr} {O : List Nat} {qs : List (Option Addr)} (D : SdAt a L 0 1 H s p F O w o qs) (st : Stp (· = 4) H L H' L')
    (fr : FrA a L' 4 H' p' F') (hc : F'.cont = F.cont) (od : Ord F' O) : SdA a L' 4 1 (upd H' s (HO.dK (sdD p' w o))) s p' F' O ∧ Stp (Two 4 1) H L (upd H' s (HO.dK (sdD p' w o))) L' := by
  have ls := st.ext _ _ D.ls
  have lw := st.ext _ _ D.lw
  have lo := st.ext _ _ D.lo
  have stW : Stp (· = 1) H' L' (upd H' s (HO.dK (sdD p' w o))) L' := Stp.write st.lab ls rfl (st.lbl D.ls (by simp) D.hs)
  refine ⟨⟨w, o, qs, ls, lw, lo, upd_same, ?_, ?_, ?_, fr.keep stW (by simp), od, by decide⟩, (st.mono fun k e => .inl e).trans (stW.mono fun k e => .inr e)⟩
  · rw [upd_ne (lne lw ls (by simp))]; exact st.lbl D.lw (by simp) D.hw
  · rw [hc]
    exact (D.hq.keep st (by simp)).of (fun _ _ e => e) fun x j o' hl hx => by
      rw [upd_ne (lne hl ls (by simp))]; exact hx
  · rw [upd_ne (lne lo ls (by simp))]; exact st.lbl D.lo (by simp) D.ho
theorem pure_law {K : PySem.W.Frag} {a : Ad} (C : Cl K a) {x0 : V} {H : Hp} {Q : VK} {E : XK}
    (h : pr_law K a x0 H Q E) : t_law K a { nx := fun _ H' => Q .non H', rt := Q } [some x0, none, none, none, none, none, none, none, none, none, none, none] H := by
  obtain ⟨s, ns, rfl, hs, h63, q⟩ := h
  unfold t_law
  walk_at "rd"
  refine sp2_i ⟨s, ns, 0, rfl, rfl, hs, fun z0 => ?_⟩
  walk_at "rd"
  refine sp3_i ⟨z0, 6, 1000000, rfl, rfl, rfl, by decide, by decide, by decide, fun sh p1 H1 shl shb hp1 sm1 h1 => ?_⟩
  walk_at "rd"
  have hx : ∀ i : Nat, i < 6 → ∃ u, sh[i]? = some u ∧ 0 ≤ u ∧ u < 1000000 := fun i hi => ⟨sh[i], List.getElem?_eq_getElem (by omega), shb _ (List.getElem_mem (by omega))⟩
  have ax : ∀ (i : Nat) u, sh[i]? = some u → atI (intsL sh) (i : Nat) = some (V.int u) := fun i u e => atI_nat (by unfold intsL; rw [List.getElem?_map, e]; rfl)
  obtain ⟨u0, e0, _, _⟩ := hx 0 (by omega)
  obtain ⟨u1, e1, _, _⟩ := hx 1 (by omega)
  obtain ⟨u4, e4, _, _⟩ := hx 4 (by omega)
  refine k_ixL (by walk_at "sq") (by exact ax 0 u0 e0) ?_
  walk_at "rd"
  refine k_i (by decide) ?_
  walk_at "rd"
  refine k_ixL (by walk_at "sq") (by exact ax 1 u1 e1) ?_
  walk_at "rd"
  refine k_i (by decide) ?_
  walk_at "rd"
  refine k_lst (by simp) fun p2 hp2 => ?_
  walk_at "rd"
  refine k_lst (by simp) fun sl hsl => ?_
  walk_at "rd"
  have L0 : Lab H (fun _ => none) := fun x l e => by cases e
  obtain ⟨n0, hn0, n01, n02⟩ : ∃ n : Nat, 17 + u0 % 32 = (n : Nat) ∧ 1 ≤ n ∧ n ≤ 48 := ⟨(17 + u0 % 32).toNat, by omega, by omega, by omega⟩
  obtain ⟨n1, hn1, n11, n12⟩ : ∃ n : Nat, 1 + u1 % 48 = (n : Nat) ∧ 1 ≤ n ∧ n ≤ 48 := ⟨(1 + u1 % 48).toNat, by omega, by omega, by omega⟩
  rw [hn0, hn1] at hsl ⊢
  have sm3 : Same H1 (upd (upd H1 p2 (HO.lst [V.int (n0 : Nat), V.int (n1 : Nat)])) sl (HO.lst [])) := (same_new hp2).trans (same_new hsl)
  have hp2' : upd (upd H1 p2 (HO.lst [V.int (n0 : Nat), V.int (n1 : Nat)])) sl (HO.lst []) p2 = some (.lst [V.int (n0 : Nat), V.int (n1 : Nat)]) := same_new hsl _ _ upd_same
  have hsl' : upd (upd H1 p2 (HO.lst [V.int (n0 : Nat), V.int (n1 : Nat)])) sl (HO.lst []) sl = some (.lst []) := upd_same
  have psl : p2 ≠ sl := ne_of_none (H := upd H1 p2 (HO.lst [V.int (n0 : Nat), V.int (n1 : Nat)])) upd_same hsl
  have hslH1 : H1 sl = none := un hsl
  generalize upd (upd H1 p2 (HO.lst [V.int (n0 : Nat), V.int (n1 : Nat)])) sl (HO.lst []) = H3 at *
  have hslH : H sl = none := sm1.free hslH1
  have st3 : Stp (fun _ => True) H (fun _ => none) H3 (updL (fun _ => none) sl (9, 0, 0)) := (Stp.of_same L0 (sm1.trans sm3)).relabel hslH rfl hsl'
  have p1sl : p1 ≠ sl := ne_of_none h1 hslH1
  refine k_rng1 (n := 2) (by omega) (fun k σ' H' => ∃ L u v, σ' = [some (.ref s), some (.ref p1), some (.ref p2), some (.ref sl), u, v, none, none, none, none, none, none] ∧ Stp (fun _ => True) H (fun _ => none) H' L ∧
      Kp H' L p1 (.lst (intsL sh)) ∧ Kp H' L p2 (.lst [V.int (n0 : Nat), V.int (n1 : Nat)]) ∧ L sl = some (9, 0, 0) ∧
      ((k = 0 ∧ H' sl = some (.lst [])) ∨ (k = 1 ∧ ∃ s0 p F O, H' sl = some (.lst [.ref s0]) ∧ SdA a L 0 1 H' s0 p F O) ∨ (k = 2 ∧ ∃ s0 s1, H' sl = some (.lst [.ref s0, .ref s1]) ∧ Bth a L H' s0 s1 0 .non .non)))
    ⟨_, _, _, rfl, st3, ⟨by rw [updL_ne p1sl], sm3 _ _ h1⟩, ⟨by rw [updL_ne psl], hp2'⟩, updL_same, .inl ⟨rfl, hsl'⟩⟩ ?_ ?_
  · rintro k σ' H' hk ⟨L, u, v, rfl, st, k1, k2, lsl, iv⟩
    have hn : ∃ n : Nat, ([V.int (n0 : Nat), V.int (n1 : Nat)] : List V)[k]? = some (.int (n : Nat)) ∧ 1 ≤ n ∧ n ≤ 48 := by
      have : k = 0 ∨ k = 1 := by omega
      rcases this with e | e
      · subst e; exact ⟨n0, rfl, n01, n02⟩
      · subst e; exact ⟨n1, rfl, n11, n12⟩
    obtain ⟨n, hnk, hn1', hn48⟩ := hn
    have hs' : SqL K H' s (ns.map .int) := (show Same H H' from fun b o e => st.unl rfl e).seq hs
    walk_at "rd"
    refine k_ixL (.inl (.inl k2.2)) (atI_nat hnk) ?_
    walk_at "rd"
    refine sp2_i ⟨s, ns, 1 + k, rfl, by simp, hs', fun z1 => ?_⟩
    walk_at "rd"
    obtain ⟨u2, e2, _, _⟩ := hx (2 + k) (by omega)
    have hi2 : (2 : Int) + (k : Nat) = ((2 + k : Nat) : Nat) := by omega
    rw [hi2]
    refine k_ixL (.inl (.inl k1.2)) (ax (2 + k) u2 e2) ?_
    walk_at "rd"
    refine sp3_i ⟨n, z1, u2, L, 2 * k, 2 * k + 1, rfl, rfl, rfl, hn1', hn48, st.lab, by omega, fun sn p F O H4 L4 st4 sd4 _ hsn => ?_⟩
    walk_at "rd"
    refine kif_no (by simp) ?_
    walk_at "rd"
    have k14 := k1.step st4
    have k24 := k2.step st4
    have lsl4 := st4.ext _ _ lsl
    refine sp2_i ⟨sn, true, L4, 2 * k, 2 * k + 1, p, F, O, rfl, rfl, st4.lab, sd4, fun H5 s5 => ?_⟩
    walk_at "rd"
    refine kif_f ?_
    walk_at "rd"
    have st5 : Stp (Two (2 * k) (2 * k + 1)) H' L H5 L4 := st4.trans (Stp.of_same st4.lab s5)
    have sd5 := sd4.same st4.lab s5
    have keep9 : ∀ o, H' sl = some o → H5 sl = some o := fun o e => st5.lbl lsl (by intro z; rcases z with z | z <;> omega) e
    have fin : ∀ xs : List V, xs.length ≤ 10 → H' sl = some (.lst xs) → ((k + 1 = 1 ∧ ∃ s0 p F O, upd H5 sl (HO.lst (xs ++ [.ref sn])) sl = some (.lst [.ref s0]) ∧ SdA a L4 0 1 (upd H5 sl (HO.lst (xs ++ [.ref sn]))) s0 p F O) ∨ (k + 1 = 2 ∧ ∃ s0 s1, upd H5 sl (HO.lst (xs ++ [.ref sn])) sl = some (.lst [.ref s0, .ref s1]) ∧ Bth a L4 (upd H5 sl (HO.lst (xs ++ [.ref sn]))) s0 s1 0 .non .non)) →
        rAppend (.ref sl) [.ref sn] H5 (fun _ H6 => ∃ L u v, [some (V.ref s), some (.ref p1), some (.ref p2), some (.ref sl), some (.int (k : Nat)), some (.ref sn), none, none, none, none, none, none] = [some (V.ref s), some (.ref p1), some (.ref p2), some (.ref sl), u, v, none, none, none, none, none, none] ∧ Stp (fun _ => True) H (fun _ => none) H6 L ∧
          Kp H6 L p1 (.lst (intsL sh)) ∧ Kp H6 L p2 (.lst [V.int (n0 : Nat), V.int (n1 : Nat)]) ∧ L sl = some (9, 0, 0) ∧
          ((k + 1 = 0 ∧ H6 sl = some (.lst [])) ∨ (k + 1 = 1 ∧ ∃ s0 p F O, H6 sl = some (.lst [.ref s0]) ∧ SdA a L 0 1 H6 s0 p F O) ∨ (k + 1 = 2 ∧ ∃ s0 s1, H6 sl = some (.lst [.ref s0, .ref s1]) ∧ Bth a L H6 s0 s1 0 .non .non))) := by
      intro xs hxs e r
      have e5 := keep9 _ e
      have st6 : Stp (· = 9) H5 L4 (upd H5 sl (HO.lst (xs ++ [.ref sn]))) L4 := Stp.write (st4.lab.same s5) lsl4 rfl e5
      refine k_append e5 (by omega) ⟨L4, _, _, rfl, (st.trans (st5.mono fun _ _ => trivial)).trans (st6.mono fun _ _ => trivial), ?_, ?_, lsl4, .inr r⟩
      · exact (k1.step st5).step st6
      · exact (k2.step st5).step st6
    rcases iv with ⟨rfl, e⟩ | ⟨rfl, s0, p0, F0, O0, e, sd0⟩ | ⟨rfl, _⟩
    · have e5 := keep9 _ e
      walk_at "rd"
      refine fin [] (by simp) e (.inl ⟨rfl, sn, p, F, O, by rw [upd_same]; rfl, sd5.keep (Stp.write (S := (· = 9)) (st4.lab.same s5) lsl4 rfl (keep9 _ e)) (by simp) (by simp)⟩)
    · have sd0' := (sd0.keep st5 (by intro z; rcases z with z | z <;> omega) (by intro z; rcases z with z | z <;> omega))
      have st6 : Stp (· = 9) H5 L4 (upd H5 sl (HO.lst ([.ref s0] ++ [.ref sn]))) L4 := Stp.write (st4.lab.same s5) lsl4 rfl (keep9 _ e)
      have e5 := keep9 _ e
      walk_at "rd"
      exact fin [.ref s0] (by simp) e (.inr ⟨rfl, s0, sn, by rw [upd_same]; rfl, 0, p0, F0, O0, p, F, O, sd0'.keep st6 (by simp) (by simp), sd5.keep st6 (by simp) (by simp), .inl ⟨by omega, rfl, rfl⟩⟩)
    · omega
  · rintro σ' H' ⟨L, u, v, rfl, st, k1, k2, lsl, iv⟩
    obtain ⟨s0, s1, hsl4, bth⟩ : ∃ s0 s1, H' sl = some (.lst [.ref s0, .ref s1]) ∧ Bth a L H' s0 s1 0 .non .non := by
      rcases iv with ⟨z, _⟩ | ⟨z, _⟩ | ⟨_, z⟩
      · omega
      · omega
      · exact z
    walk_at "rd"
    refine k_ixL (.inl (.inl k1.2)) (by exact ax 4 u4 e4) ?_
    walk_at "rd"
    refine k_i (by decide) ?_
    walk_at "rd"
    obtain ⟨M, hM, hM1, hM2⟩ : ∃ n : Nat, 240 + u4 % 161 = (n : Nat) ∧ 240 ≤ n ∧ n ≤ 400 := ⟨(240 + u4 % 161).toNat, by omega, by omega, by omega⟩
    rw [hM]
    have hs' : SqL K H' s (ns.map .int) := (show Same H H' from fun b o e => st.unl rfl e).seq hs
    refine sp2_i ⟨s, ns, 3, rfl, rfl, hs', fun z3 => ?_⟩
    walk_at "rd"
    refine sp3_i ⟨z3, M, 1000000000, rfl, rfl, rfl, by omega, by decide, by decide, fun ds p7 H5 dl db hp7 s5 h7 => ?_⟩
    walk_at "rd"
    refine k_tup (by simp) fun p9 hp9 => ?_
    walk_at "rd"
    have s6 : Same H' (upd H5 p9 (HO.tup [])) := s5.trans (same_new hp9)
    have st6 : Stp (fun _ => True) H' L (upd H5 p9 (HO.tup [])) L := Stp.of_same st.lab s6
    have k7 : Kp (upd H5 p9 (HO.tup [])) L p7 (.lst (intsL ds)) := ⟨st.lab.none hp7, same_new hp9 _ _ h7⟩
    have hsl6 := s6 _ _ hsl4
    have b6 := bth.same st.lab s6
    have st7 := st.trans st6
    generalize upd H5 p9 (HO.tup []) = H6 at *
    refine k_rng1 (by omega) (fun k σ' H' => ∃ L bv ev u v w x, σ' = [some (.ref s), some (.ref p1), some (.ref p2), some (.ref sl), u, v, some (.int (M : Nat)), some (.ref p7), some bv, some ev, w, x] ∧ Stp (fun _ => True) H (fun _ => none) H' L ∧
        Kp H' L p7 (.lst (intsL ds)) ∧ L sl = some (9, 0, 0) ∧ H' sl = some (.lst [.ref s0, .ref s1]) ∧ Bth a L H' s0 s1 k bv ev)
      ⟨L, _, _, _, _, _, _, rfl, st7, k7, lsl, hsl6, b6.ev⟩ ?_ ?_
    · rintro k σ' H7 hk ⟨L7, bv, ev, u, v, w, x, rfl, st8, k8, ls8, hs8, b8⟩
      walk_at "rd"
      refine r_cut (fun σ' H' => ∃ L bv ev v w, σ' = [some (.ref s), some (.ref p1), some (.ref p2), some (.ref sl), some (.int (k : Nat)), v, some (.int (M : Nat)), some (.ref p7), some bv, some ev, w, x] ∧ Stp (fun _ => True) H (fun _ => none) H' L ∧
        Kp H' L p7 (.lst (intsL ds)) ∧ L sl = some (9, 0, 0) ∧ H' sl = some (.lst [.ref s0, .ref s1]) ∧ Bth a L H' s0 s1 (k + 1) bv ev) ?_ ?_
      · walk_at "rd"
        refine kif_d (fun h24 => ?_) fun h24 => ?_
        · have hk24 : k = 24 := by injection h24; omega
          subst hk24
          obtain ⟨kf0, p0, F0, O0, p1', F1, O1, d0, d1, c⟩ := b8
          rcases c with ⟨_, rfl, rfl⟩ | ⟨z, _⟩
          · obtain ⟨w0, o0, qs0, D⟩ := id d0
            have hs0 := D.hs
            walk_at "rd"
            refine k_ixL (.inl (.inl hs8)) at0 ?_
            walk_at "rd"
            refine r_tupRev ?_
            walk_at "rd"
            refine k_tupRev (.inl (.inl D.ho)) fun q9 hq9 => ?_
            rw [intL_rev]
            have s9 : Same H7 (upd H7 q9 (HO.tup (intL O0.reverse))) := same_new hq9
            have hq9' : upd H7 q9 (HO.tup (intL O0.reverse)) q9 = some (.tup (intL O0.reverse)) := upd_same
            have D9' : SdAt a L7 0 1 (upd H7 q9 (HO.tup (intL O0.reverse))) s0 p0 F0 O0 w0 o0 qs0 := ⟨D.ls, D.lw, D.lo, s9 _ _ D.hs, s9 _ _ D.hw, D.hq.of (fun _ _ e => e) fun _ _ _ _ z => s9 _ _ z, s9 _ _ D.ho, D.fr.same s9, D.ord, D.ne⟩
            generalize upd H7 q9 (HO.tup (intL O0.reverse)) = H8 at *
            have st78 : Stp (fun _ => False) H7 L7 H8 L7 := .of_same st8.lab s9
            obtain ⟨cc, tt, qq, g0⟩ := id D9'.fr
            obtain ⟨dx0, ob0⟩ := g0.ob
            walk_at "rd"
            refine sp1_i ⟨p0, L7, 0, F0, O0, rfl, D9'.fr, D9'.ord, fun q10 H9 s10 fz => ?_⟩
            walk_at "rd"
            have lab8 := st8.lab.same s9
            have lab9 := lab8.same s10
            refine sp1_i ⟨q10, F0, O0, L7, 4, rfl, lab9, fz, D9'.ord, g0.s1, g0.s48, g0.wf, fun p' F' H10 L10 st10 hp' fr' hc' od' => ?_⟩
            have st810 : Stp (· = 4) H8 L7 H10 L10 := (Stp.of_same lab8 s10).trans st10
            walk_at "rd"
            refine k_dputS (st810.lbl D9'.ls (by simp) D9'.hs) (by rw [sd_len]; decide) ?_
            rw [sd_put]
            obtain ⟨sdN, stN⟩ := FrAt.thaw D9' st810 fr' hc' od'
            have labN := stN.lab
            generalize upd H10 s0 (HO.dK (sdD p' w0 o0)) = H11 at *
            walk_at "rd"
            have stT : Stp (fun _ => True) H7 L7 H11 L10 := (st78.mono fun _ z => z.elim).trans (stN.mono fun _ _ => trivial)
            have stQ : Stp (Two 4 1) H7 L7 H11 L10 := (st78.mono fun _ z => z.elim).trans stN
            have hq11 := stN.tup _ _ hq9'
            have fr0 : FrA a L10 0 H11 p0 F0 := D9'.fr.keep stN (by simp)
            have d1N := d1.keep stQ (by simp) (by simp)
            refine k_forT (xs := intL O0.reverse) (.inl (.inl hq11)) (fun i σ' H' => ∃ y, σ' = [some (.ref s), some (.ref p1), some (.ref p2), some (.ref sl), some (.int (24 : Nat)), some (.ref s0), some (.int (M : Nat)), some (.ref p7), some (.ref p0), some (.ref q9), y, x] ∧
                ∃ Fb, Stp (· = 0) H11 L10 H' L10 ∧ FrA a L10 0 H' p0 Fb ∧ Ord Fb (O0.take (O0.length - i) ++ O0.reverse.take i))
              ⟨_, rfl, F0, .refl labN, fr0, by simpa using D9'.ord⟩ (fun i σ' H' _ ⟨y, _, Fb, st, _⟩ => .inl (.inl (st.tup _ _ hq11))) ?_ ?_
            · rintro i x' σ' H' hxi ⟨y, rfl, Fb, st, fb, ob⟩
              have hxi' := hxi
              unfold intL at hxi'
              rw [List.getElem?_map] at hxi'
              obtain ⟨f, hf, rfl⟩ := Option.map_eq_some_iff.mp hxi'
              have hil : i < O0.length := by
                have := (List.getElem?_eq_some_iff.mp hf).1
                rwa [List.length_reverse] at this
              have hmem : f ∈ O0.take (O0.length - i) ++ O0.reverse.take i := by
                rw [List.getElem?_reverse hil] at hf
                exact List.mem_append_left _ (List.mem_of_getElem? (i := O0.length - 1 - i) (by rw [List.getElem?_take, if_pos (by omega)]; exact hf))
              obtain ⟨ws, hws⟩ := (ob.mem f).mp hmem
              obtain ⟨c2, t2, q2, g2⟩ := id fb
              obtain ⟨dx2, ob2⟩ := g2.ob
              refine r_gn ?_
              walk_at "rd"
              refine sp2_i ⟨p0, f, L10, 0, Fb, ws, rfl, rfl, st.lab, fb, hws, fun H12 st12 fb12 => ?_⟩
              have o2 := ob.touched hws
              rw [rev_erase D9'.ord.nd hf] at o2
              exact ⟨_, rfl, _, st.trans st12, fb12, o2⟩
            · rintro σ' H' ⟨y, rfl, Fb, st, fb, ob⟩
              have eO : O0.take (O0.length - (intL O0.reverse).length) ++ O0.reverse.take (intL O0.reverse).length = O0.reverse := by
                unfold intL
                rw [List.length_map, List.length_reverse, Nat.sub_self, List.take_zero, List.nil_append, List.take_of_length_le (by simp)]
              rw [eO] at ob
              dsimp only
              exact ⟨L10, _, _, _, _, rfl, (st8.trans stT).trans (st.mono fun _ _ => trivial), (k8.step stQ).step st, st.ext _ _ (stQ.ext _ _ ls8), st.lbl (stQ.ext _ _ ls8) (by simp) (stQ.lbl ls8 (by simp) hs8),
                4, p', F', O0, p1', F1, O1, sdN.keep st (by simp) (by simp), d1N.keep st (by simp) (by simp), .inr ⟨by omega, rfl, p0, Fb, O0.reverse, q9, rfl, fb, ob, rfl, st.tup _ _ hq11⟩⟩
          · omega
        · walk_at "rd"
          exact ⟨L7, bv, ev, _, _, rfl, st8, k8, ls8, hs8, b8.more fun e => h24 (by rw [e]; rfl)⟩
      · rintro σ' H8 ⟨L8, bv', ev', v', w', rfl, st9, k9, ls9, hs9, b9⟩
        walk_at "rd"
        obtain ⟨d, hd, d0', d1'⟩ : ∃ d, ds[k]? = some d ∧ 0 ≤ d ∧ d < 1000000000 := ⟨ds[k], List.getElem?_eq_getElem (by omega), db _ (List.getElem_mem (by omega))⟩
        refine k_ixL (.inl (.inl k9.2)) (atI_nat (v := .int d) (by unfold intsL; rw [List.getElem?_map, hd]; rfl)) ?_
        walk_at "rd"
        refine k_i (by first | exact ⟨by decide, by decide⟩ | decide) ?_
        walk_at "rd"
        refine k_i (by first | exact ⟨by decide, by decide⟩ | decide) ?_
        walk_at "rd"
        obtain ⟨j, hj, hj2⟩ : ∃ j : Nat, (if d / 8 % 4 - 2 > 0 then d / 8 % 4 - 2 else 0) = (j : Nat) ∧ j < 2 := by
          refine ⟨(if d / 8 % 4 - 2 > 0 then d / 8 % 4 - 2 else 0).toNat, ?_, ?_⟩ <;> (split <;> omega)
        rw [hj]
        obtain ⟨sd, kf, kl, p, F, O, hsd, sdd, kf4, kl4, back⟩ := b9.pick hj2
        refine k_ixL (.inl (.inl hs9)) (atI_nat hsd) ?_
        obtain ⟨w2, o2, qs2, D2⟩ := id sdd
        have hs2 := D2.hs
        have hw2 := D2.hw
        walk_at "rd"
        refine k_i (by first | exact ⟨by decide, by decide⟩ | decide) ?_
        walk_at "rd"
        have hlen : (qs2.map oV).length = F.cont.length := by rw [List.length_map, D2.hq.len]
        have h1 : 1 ≤ F.cont.length := by obtain ⟨_, _, _, g⟩ := D2.fr; exact g.s1
        have h48 := D2.fr.s48
        rw [hlen]
        refine k_i (by omega) ?_
        walk_at "rd"
        obtain ⟨i, hi, hil⟩ : ∃ i : Nat, d / 32 % ((F.cont.length : Nat) : Int) = (i : Nat) ∧ i < F.cont.length := by
          have m1 := Int.emod_nonneg (d / 32) (b := (F.cont.length : Int)) (by omega)
          have m2 := Int.emod_lt_of_pos (d / 32) (b := (F.cont.length : Int)) (by omega)
          exact ⟨(d / 32 % (F.cont.length : Int)).toNat, by omega, by omega⟩
        rw [hi]
        refine k_i (by first | exact ⟨by decide, by decide⟩ | decide) ?_
        walk_at "rd"
        refine k_i (by first | exact ⟨by decide, by decide⟩ | decide) ?_
        walk_at "rd"
        refine k_i (by first | exact ⟨by decide, by decide⟩ | decide) ?_
        walk_at "rd"
        refine k_i (by first | exact ⟨by decide, by decide⟩ | decide) ?_
        walk_at "rd"
        refine k_i (by first | exact ⟨by decide, by decide⟩ | decide) ?_
        walk_at "rd"
        obtain ⟨t, ht, ht16⟩ : ∃ t : Nat, d / 1536 % 16 = (t : Nat) ∧ t < 16 := ⟨(d / 1536 % 16).toNat, by omega, by omega⟩
        rw [ht]
        refine sp5_i ⟨sd, _, i, t, _, L8, kf, kl, p, F, O, rfl, rfl, rfl, rfl, rfl, st9.lab, sdd, hil, ht16, fun F' O' H9 L9 st10 sd10 => ?_⟩
        walk_at "rd"
        refine kif_f ?_
        walk_at "rd"
        refine k_i (by decide) ?_
        walk_at "rd"
        refine sp2_i ⟨sd, _, L9, kf, kl, p, F', O', rfl, rfl, st10.lab, sd10, fun H10 s10 => ?_⟩
        walk_at "rd"
        refine kif_f ?_
        walk_at "rd"
        have stX : Stp (Two kf kl) H8 L8 H10 L9 := st10.trans (.of_same st10.lab s10)
        have n9 : ¬ Two kf kl 9 := by
          intro z
          rcases z with z | z <;> omega
        exact ⟨L9, _, _, _, _, _, _, rfl, st9.trans (stX.mono fun _ _ => trivial), k9.step stX, stX.ext _ _ ls9, stX.lbl ls9 n9 hs9, back H10 L9 F' O' stX (sd10.same st10.lab s10)⟩
    · rintro σ' H7 ⟨L7, bv, ev, u, v, w, x, rfl, st8, k8, ls8, hs8, b8⟩
      walk_at "rd"
      obtain ⟨kf0, p0, F0, O0, p1', F1, O1, d0, d1, c⟩ := id b8
      rcases c with ⟨z, _⟩ | ⟨_, _, b, Fb, Ob, e, rfl, fb, ob, rfl, he⟩
      · omega
      refine k_forL (xs := [.ref s0, .ref s1]) (.inl (.inl hs8)) (fun i σ' H' => ∃ v w, σ' = [some (.ref s), some (.ref p1), some (.ref p2), some (.ref sl), u, v, some (.int (M : Nat)), some (.ref p7), some (.ref b), some (.ref e), w, x] ∧ Same H7 H')
        ⟨_, _, rfl, fun _ _ e => e⟩ (fun i σ' H' _ ⟨_, _, _, sm⟩ => .inl (.inl (sm _ _ hs8))) ?_ ?_
      · rintro i y σ' H' hy ⟨v', w', rfl, sm⟩
        have hi : i < 2 := (List.getElem?_eq_some_iff.mp hy).1
        obtain ⟨sd, kf, kl, p, F, O, hsd, sdd, _, _, _⟩ := b8.pick hi
        rw [hsd] at hy
        cases hy
        have lab' := st8.lab.same sm
        refine r_gn ?_
        walk_at "rd"
        refine sp2_i ⟨sd, true, L7, kf, kl, p, F, O, rfl, rfl, lab', sdd.same st8.lab sm, fun H8 s9 => ?_⟩
        walk_at "rd"
        refine kif_f ?_
        have sdd8 := sdd.same st8.lab (sm.trans s9)
        obtain ⟨w2, o2, qs2, D2⟩ := id sdd8
        have hs2 := D2.hs
        have hw2 := D2.hw
        walk_at "rd"
        refine k_forL (xs := intL O) (.inl (.inl D2.ho)) (fun i σ' H' => ∃ w, σ' = [some (.ref s), some (.ref p1), some (.ref p2), some (.ref sl), u, some (.ref sd), some (.int (M : Nat)), some (.ref p7), some (.ref b), some (.ref e), w, x] ∧ Same H8 H')
          ⟨_, rfl, fun _ _ e => e⟩ (fun i σ' H' _ ⟨_, _, sm⟩ => .inl (.inl (sm _ _ D2.ho))) ?_ ?_
        · rintro n y σ' H9 hy ⟨w', rfl, sm9⟩
          obtain ⟨f, hf, rfl⟩ : ∃ f, O[n]? = some f ∧ V.int (f : Nat) = y := by
            unfold intL at hy
            rw [List.getElem?_map] at hy
            exact Option.map_eq_some_iff.mp hy
          obtain ⟨ws, hws⟩ := (D2.ord.mem f).mp (List.mem_of_getElem? hf)
          have hs9 := sm9 _ _ hs2
          have hw9 := sm9 _ _ hw2
          have fr9 := D2.fr.same sm9
          obtain ⟨c2, t2, q2, g2⟩ := id fr9
          obtain ⟨dx2, ob2⟩ := g2.ob
          have h16 : ws.length = 16 := g2.wf ws (List.mem_of_getElem? hws)
          refine r_gn ?_
          walk_at "rd"
          refine sp2_i ⟨p, f, L7, kf, F, ws, rfl, rfl, fr9, hws, fun q0 H10 hq0 s10 hq0' => ?_⟩
          have hs10 := s10 _ _ hs9
          have hw10 := s10 _ _ hw9
          walk_at "rd"
          rcases D2.hq.at (i := f) (List.getElem?_eq_some_iff.mp hws).1 with ⟨z, _⟩ | ⟨ws', c, e1, e2, lc, hc⟩
          · rw [hws] at z; cases z
          rw [hws] at e1
          cases e1
          refine k_ixL (.inl (.inl hw10)) (atI_nat (v := .ref c) (by rw [List.getElem?_map, e2]; rfl)) ?_
          have hc10 := s10 _ _ (sm9 _ _ hc)
          walk_at "rd"
          refine k_tupL (.inl (.inl hc10)) fun T hT => ?_
          walk_at "rd"
          refine sp2_i ⟨.tuple (ws.map .int), ⟨by rw [List.length_map]; omega, fun y hy => ?_⟩, .tup (.inl (.inl (same_new hT _ _ hq0'))) (dp_ints ws), .tup (.inl (.inl upd_same)) (dp_ints ws), ?_⟩
          · obtain ⟨_, _, rfl⟩ := List.mem_map.mp hy
            trivial
          walk_at "rd"
          refine kif_f ?_
          walk_at "rd"
          exact ⟨_, rfl, sm9.trans (s10.trans (same_new hT))⟩
        · rintro σ' H9 ⟨w', rfl, sm9⟩
          dsimp only
          exact ⟨_, _, rfl, sm.trans (s9.trans sm9)⟩
      · rintro σ' H8 ⟨v', w', rfl, sm⟩
        have fb8 := fb.same sm
        obtain ⟨c2, t2, q2, g2⟩ := id fb8
        obtain ⟨dx2, ob2⟩ := g2.ob
        walk_at "rd"
        refine sp1_i ⟨b, L7, 0, Fb, Ob, rfl, fb8, ob, fun q9 H9 hq9 s9 hq9' => ?_⟩
        walk_at "rd"
        refine sp2_i ⟨.tuple ((Ob.map fun i => ((i : Nat) : Int)).map .int), ⟨?_, fun y hy => ?_⟩, .tup (.inl (.inl hq9')) (dp_nats Ob), .tup (.inl (.inl (s9 _ _ (sm _ _ he)))) (dp_nats Ob), q _⟩
        · have := ob.len
          have := g2.s48
          rw [List.length_map, List.length_map]; omega
        · obtain ⟨_, _, rfl⟩ := List.mem_map.mp hy
          trivial
end K60

namespace K60
open PySem L2 Lh
section
variable {P : Program} {w : World} {K : PySem.W.Frag} {mg : Str → Option Value} {base : Heap} {a : Ad}
theorem b_HostBusy___init__ {fd : FuncData} (F : Fun K "__init__" "HostBusy.__init__" s_HostBusy___init__ a.f_HostBusy___init__ fd) : Binds K fd ["self", "number"] [] := F.binds (ps := ["self", "number"]) fun _ _ _ _ _ _ us hl => match us, hl with | [_, _], _ => rfl
theorem ok_HostBusy___init__ {fd : FuncData} (F : Fun K "__init__" "HostBusy.__init__" s_HostBusy___init__ a.f_HostBusy___init__ fd) (T : Txt K mg a) : FnOk P w K mg base CX0 1 a.f_HostBusy___init__ fd ["self", "number"] (sp_HostBusy___init__ K a) := by
  refine F.ok sc_HostBusy___init__ (fun vs H Q E h => by obtain ⟨x0, x1, rfl, h⟩ := h; rfl) (fun cdv A outer s H vs Q E hr h => ⟨t_HostBusy___init__ K a, ?_, by obtain ⟨x0, x1, rfl, h⟩ := h; exact pure_HostBusy___init__ T.toCl h⟩)
  exact (pss_one (ps_ost (pv 0) (pv 1)))
theorem b_check_range {fd : FuncData} (F : Fun K "check_range" "check_range" s_check_range a.f_check_range fd) : Binds K fd ["value", "low", "high"] [] := F.binds (ps := ["value", "low", "high"]) fun _ _ _ _ _ _ us hl => match us, hl with | [_, _, _], _ => rfl
theorem ok_check_range {fd : FuncData} (F : Fun K "check_range" "check_range" s_check_range a.f_check_range fd) (T : Txt K mg a) : FnOk P w K mg base CX0 1 a.f_check_range fd ["value", "low", "high"] (sp_check_range K a) := by
  refine F.ok sc_check_range (fun vs H Q E h => by obtain ⟨x0, x1, x2, rfl, h⟩ := h; rfl) (fun cdv A outer s H vs Q E hr h => ⟨t_check_range K a, ?_, by obtain ⟨x0, x1, x2, rfl, h⟩ := h; exact pure_check_range T.toCl h⟩)
  exact (pss_one (ps_if (PW.pt (pw_or (pt_cmpR op_lt (pv 0) (pv 1) (nomark _)) (pw_or1 (pt_cmpR op_gt (pv 0) (pv 2) (nomark _))))) (pss_one ps_never) pss_nil))
theorem b_Frames___init__ {fd : FuncData} (F : Fun K "__init__" "Frames.__init__" s_Frames___init__ a.f_Frames___init__ fd) : Binds K fd ["self", "count"] [] := F.binds (ps := ["self", "count"]) fun _ _ _ _ _ _ us hl => match us, hl with | [_, _], _ => rfl
theorem ok_Frames___init__ {fd : FuncData} (F : Fun K "__init__" "Frames.__init__" s_Frames___init__ a.f_Frames___init__ fd) (T : Txt K mg a) : FnOk P w K mg base CX0 2 a.f_Frames___init__ fd ["self", "count"] (sp_Frames___init__ K a) := by
  obtain ⟨fd_check_range, F_check_range⟩ := T.fn_check_range
  have G_check_range : FnOk P w K mg base CX0 1 a.f_check_range fd_check_range ["value", "low", "high"] (sp_check_range K a) := ok_check_range F_check_range T
  have B_check_range := b_check_range F_check_range
  refine F.ok sc_Frames___init__ (fun vs H Q E h => by obtain ⟨x0, x1, rfl, h⟩ := h; rfl) (fun cdv A outer s H vs Q E hr h => ⟨t_Frames___init__ K a, ?_, by obtain ⟨x0, x1, rfl, h⟩ := h; exact pure_Frames___init__ T.toCl h⟩)
  exact (pss_cons (ps_expr (pe_call G_check_range (hr.mono (by decide)) (by rfl) T.mgF_check_range T.kp_check_range B_check_range .nil pass0 (pa_cons (pv 1) (pa_cons pe_int (pa_cons (pe_glob rfl T.gl_MOST_FRAMES.choose_spec.1 T.gl_MOST_FRAMES.choose_spec.2) pa_nil)))))
      (pss_cons (ps_fld (pv 0) (pe_op op_rep (pe_lst (pa_cons pe_non pa_nil)) (pv 1)) rfl)
      (pss_cons (ps_fld (pv 0) (pe_op op_rep (pe_lst (pa_cons pe_int pa_nil)) (pv 1)) rfl)
      (pss_one (ps_fld (pv 0) pe_int rfl)))))
theorem b_Frames_size {fd : FuncData} (F : Fun K "size" "Frames.size" s_Frames_size a.f_Frames_size fd) : Binds K fd ["self"] [] := F.binds (ps := ["self"]) fun _ _ _ _ _ _ us hl => match us, hl with | [_], _ => rfl
theorem ok_Frames_size {fd : FuncData} (F : Fun K "size" "Frames.size" s_Frames_size a.f_Frames_size fd) (T : Txt K mg a) : FnOk P w K mg base CX0 1 a.f_Frames_size fd ["self"] (sp_Frames_size K a) := by
  refine F.ok sc_Frames_size (fun vs H Q E h => by obtain ⟨x0, rfl, h⟩ := h; rfl) (fun cdv A outer s H vs Q E hr h => ⟨t_Frames_size K a, ?_, by obtain ⟨x0, rfl, h⟩ := h; exact pure_Frames_size T.toCl h⟩)
  exact (pss_one (ps_ret (pe_callB c_len (by rfl) T.mg_len (by decide +kernel) (pa_cons (pe_fld (pv 0) rfl) pa_nil))))
theorem b_Frames_in_use {fd : FuncData} (F : Fun K "in_use" "Frames.in_use" s_Frames_in_use a.f_Frames_in_use fd) : Binds K fd ["self", "frame"] [] := F.binds (ps := ["self", "frame"]) fun _ _ _ _ _ _ us hl => match us, hl with | [_, _], _ => rfl
theorem ok_Frames_in_use {fd : FuncData} (F : Fun K "in_use" "Frames.in_use" s_Frames_in_use a.f_Frames_in_use fd) (T : Txt K mg a) : FnOk P w K mg base CX0 2 a.f_Frames_in_use fd ["self", "frame"] (sp_Frames_in_use K a) := by
  obtain ⟨fd_check_range, F_check_range⟩ := T.fn_check_range
  have G_check_range : FnOk P w K mg base CX0 1 a.f_check_range fd_check_range ["value", "low", "high"] (sp_check_range K a) := ok_check_range F_check_range T
  have B_check_range := b_check_range F_check_range
  refine F.ok sc_Frames_in_use (fun vs H Q E h => by obtain ⟨x0, x1, rfl, h⟩ := h; rfl) (fun cdv A outer s H vs Q E hr h => ⟨t_Frames_in_use K a, ?_, by obtain ⟨x0, x1, rfl, h⟩ := h; exact pure_Frames_in_use T.toCl h⟩)
  exact (pss_cons (ps_expr (pe_call G_check_range (hr.mono (by decide)) (by rfl) T.mgF_check_range T.kp_check_range B_check_range .nil pass0 (pa_cons (pv 1) (pa_cons pe_int (pa_cons (pe_op op_sub (pe_callB c_len (by rfl) T.mg_len (by decide +kernel) (pa_cons (pe_fld (pv 0) rfl) pa_nil)) pe_int) pa_nil)))))
      (pss_one (ps_ret (pe_cmpR o_notN (pe_ix ix_list (pe_fld (pv 0) rfl) (pv 1) (fun _ _ => rfl)) pe_non (nomark _)))))
theorem b_Frames__check {fd : FuncData} (F : Fun K "_check" "Frames._check" s_Frames__check a.f_Frames__check fd) : Binds K fd ["self", "frame"] [] := F.binds (ps := ["self", "frame"]) fun _ _ _ _ _ _ us hl => match us, hl with | [_, _], _ => rfl
theorem ok_Frames__check {fd : FuncData} (F : Fun K "_check" "Frames._check" s_Frames__check a.f_Frames__check fd) (T : Txt K mg a) : FnOk P w K mg base CX0 3 a.f_Frames__check fd ["self", "frame"] (sp_Frames__check K a) := by
  obtain ⟨fd_Frames_in_use, F_Frames_in_use⟩ := T.fn_Frames_in_use
  have G_Frames_in_use : FnOk P w K mg base CX0 2 a.f_Frames_in_use fd_Frames_in_use ["self", "frame"] (sp_Frames_in_use K a) := ok_Frames_in_use F_Frames_in_use T
  have B_Frames_in_use := b_Frames_in_use F_Frames_in_use
  refine F.ok sc_Frames__check (fun vs H Q E h => by obtain ⟨x0, x1, rfl, h⟩ := h; rfl) (fun cdv A outer s H vs Q E hr h => ⟨t_Frames__check K a, ?_, by obtain ⟨x0, x1, rfl, h⟩ := h; exact pure_Frames__check T.toCl h⟩)
  exact (pss_one (ps_if (pt_not (pt_val (pe_meth (pv 0) T.cl_Frames T.mt_Frames_in_use G_Frames_in_use (hr.mono (by decide)) B_Frames_in_use .nil pass0 (pa_cons (pv 1) pa_nil)))) (pss_one ps_never) pss_nil))
theorem b_Frames__use {fd : FuncData} (F : Fun K "_use" "Frames._use" s_Frames__use a.f_Frames__use fd) : Binds K fd ["self", "frame"] [] := F.binds (ps := ["self", "frame"]) fun _ _ _ _ _ _ us hl => match us, hl with | [_, _], _ => rfl
theorem ok_Frames__use {fd : FuncData} (F : Fun K "_use" "Frames._use" s_Frames__use a.f_Frames__use fd) (T : Txt K mg a) : FnOk P w K mg base CX0 1 a.f_Frames__use fd ["self", "frame"] (sp_Frames__use K a) := by
  refine F.ok sc_Frames__use (fun vs H Q E h => by obtain ⟨x0, x1, rfl, h⟩ := h; rfl) (fun cdv A outer s H vs Q E hr h => ⟨t_Frames__use K a, ?_, by obtain ⟨x0, x1, rfl, h⟩ := h; exact pure_Frames__use T.toCl h⟩)
  exact (pss_cons (ps_fld (pv 0) (pe_op op_add (pe_fld (pv 0) rfl) pe_int) rfl)
      (pss_one (ps_asg (pe_fld (pv 0) rfl) (pg_sub (pe_fld (pv 0) rfl) (pv 1) set_list))))
theorem b_Frames_free_frame {fd : FuncData} (F : Fun K "free_frame" "Frames.free_frame" s_Frames_free_frame a.f_Frames_free_frame fd) : Binds K fd ["self"] [] := F.binds (ps := ["self"]) fun _ _ _ _ _ _ us hl => match us, hl with | [_], _ => rfl
theorem ok_Frames_free_frame {fd : FuncData} (F : Fun K "free_frame" "Frames.free_frame" s_Frames_free_frame a.f_Frames_free_frame fd) (T : Txt K mg a) : FnOk P w K mg base CX0 1 a.f_Frames_free_frame fd ["self"] (sp_Frames_free_frame K a) := by
  refine F.ok sc_Frames_free_frame (fun vs H Q E h => by obtain ⟨x0, rfl, h⟩ := h; rfl) (fun cdv A outer s H vs Q E hr h => ⟨t_Frames_free_frame K a, ?_, by obtain ⟨x0, rfl, h⟩ := h; exact pure_Frames_free_frame T.toCl h⟩)
  exact (pss_cons (ps_for PassesOwn.never (by rfl) (pi_enum (by rfl) T.mg_enumerate (pa_cons (pe_fld (pv 0) rfl) pa_nil)) (pg_tup (by rfl) (pgs_cons (pg_name (i := 1) sc_Frames_free_frame.nd rfl (by first | exact Or.inl rfl | exact Or.inr rfl)) (pgs_cons (pg_name (i := 2) sc_Frames_free_frame.nd rfl (by first | exact Or.inl rfl | exact Or.inr rfl)) pgs_nil))) (pss_one (ps_if (pt_cmpR o_isN (pv 2) pe_non (nomark _)) (pss_one (ps_ret (pv 1))) pss_nil)))
      (pss_one (ps_ret (pe_un un_neg pe_int))))
theorem b_Frames_order {fd : FuncData} (F : Fun K "order" "Frames.order" s_Frames_order a.f_Frames_order fd) : Binds K fd ["self"] [] := F.binds (ps := ["self"]) fun _ _ _ _ _ _ us hl => match us, hl with | [_], _ => rfl
theorem ok_Frames_order {fd : FuncData} (F : Fun K "order" "Frames.order" s_Frames_order a.f_Frames_order fd) (T : Txt K mg a) : FnOk P w K mg base CX0 1 a.f_Frames_order fd ["self"] (sp_Frames_order K a) := by
  refine F.ok sc_Frames_order (fun vs H Q E h => by obtain ⟨x0, rfl, h⟩ := h; rfl) (fun cdv A outer s H vs Q E hr h => ⟨t_Frames_order K a, ?_, by obtain ⟨x0, rfl, h⟩ := h; exact pure_Frames_order T.toCl h⟩)
  exact (pss_cons (ps_set (i := 1) sc_Frames_order.nd rfl (by first | exact Or.inl rfl | exact Or.inr rfl) (pe_lst pa_nil))
      (pss_cons (ps_for PassesOwn.never (by rfl) (pi_enum (by rfl) T.mg_enumerate (pa_cons (pe_fld (pv 0) rfl) pa_nil)) (pg_tup (by rfl) (pgs_cons (pg_name (i := 2) sc_Frames_order.nd rfl (by first | exact Or.inl rfl | exact Or.inr rfl)) (pgs_cons (pg_name (i := 3) sc_Frames_order.nd rfl (by first | exact Or.inl rfl | exact Or.inr rfl)) pgs_nil))) (pss_one (ps_if (pt_cmpR o_notN (pv 3) pe_non (nomark _)) (pss_one (ps_expr (pe_bm PySem.F.plainAttrs_list PySem.F.slot_list_append PySem.F.type_list_append mt_append (pv 1) (pa_cons (pe_tup (pa_cons (pe_ix ix_list (pe_fld (pv 0) rfl) (pv 2) (fun _ _ => rfl)) (pa_cons (pv 2) pa_nil))) pa_nil)))) pss_nil)))
      (pss_one (ps_ret (pe_callTy c_tupOf (by rfl) T.mg_tuple (by decide +kernel) (pa_cons (pe_lc (own := [("pair", 4)]) (g := (gName 4)) (tt := tYes) (by rfl) sc_Frames_order.nd (pi_list (pe_callB cr_sortedPO (by rfl) T.mg_sorted (by decide +kernel) (pa_cons (pv 1) pa_nil))) (blkOk_by (own := [("pair", 4)]) (N := n_Frames_order) (sc := defScope s_Frames_order) (by decide +kernel)) (fun _ _ _ _ _ => (pg_name (i := 4) sc_Frames_order.nd rfl (by first | exact Or.inl rfl | exact Or.inr rfl))) (fun _ _ _ _ _ => pts_nil) (fun _ _ _ _ _ => (pe_ix ix_tup (pv 4) pe_int (fun _ _ => rfl)))) pa_nil))))))
theorem b_Frames_oldest {fd : FuncData} (F : Fun K "oldest" "Frames.oldest" s_Frames_oldest a.f_Frames_oldest fd) : Binds K fd ["self"] [] := F.binds (ps := ["self"]) fun _ _ _ _ _ _ us hl => match us, hl with | [_], _ => rfl
theorem ok_Frames_oldest {fd : FuncData} (F : Fun K "oldest" "Frames.oldest" s_Frames_oldest a.f_Frames_oldest fd) (T : Txt K mg a) : FnOk P w K mg base CX0 1 a.f_Frames_oldest fd ["self"] (sp_Frames_oldest K a) := by
  refine F.ok sc_Frames_oldest (fun vs H Q E h => by obtain ⟨x0, rfl, h⟩ := h; rfl) (fun cdv A outer s H vs Q E hr h => ⟨t_Frames_oldest K a, ?_, by obtain ⟨x0, rfl, h⟩ := h; exact pure_Frames_oldest T.toCl h⟩)
  exact (pss_cons (ps_set (i := 1) sc_Frames_oldest.nd rfl (by first | exact Or.inl rfl | exact Or.inr rfl) (pe_un un_neg pe_int))
      (pss_cons (ps_for PassesOwn.never (by rfl) (pi_enum (by rfl) T.mg_enumerate (pa_cons (pe_fld (pv 0) rfl) pa_nil)) (pg_tup (by rfl) (pgs_cons (pg_name (i := 2) sc_Frames_oldest.nd rfl (by first | exact Or.inl rfl | exact Or.inr rfl)) (pgs_cons (pg_name (i := 3) sc_Frames_oldest.nd rfl (by first | exact Or.inl rfl | exact Or.inr rfl)) pgs_nil))) (pss_one (ps_if (PW.pt (pw_and (pt_cmpR o_notN (pv 3) pe_non (nomark _)) (pw_and1 (PW.pt (pw_or (pt_cmpR op_lt (pv 1) pe_int (nomark _)) (pw_or1 (pt_cmpR op_lt (pe_ix ix_list (pe_fld (pv 0) rfl) (pv 2) (fun _ _ => rfl)) (pe_ix ix_list (pe_fld (pv 0) rfl) (pv 1) (fun _ _ => rfl)) (nomark _)))))))) (pss_one (ps_set (i := 1) sc_Frames_oldest.nd rfl (by first | exact Or.inl rfl | exact Or.inr rfl) (pv 2))) pss_nil)))
      (pss_one (ps_ret (pv 1)))))
theorem b_Frames_fill {fd : FuncData} (F : Fun K "fill" "Frames.fill" s_Frames_fill a.f_Frames_fill fd) : Binds K fd ["self", "frame", "words"] [] := F.binds (ps := ["self", "frame", "words"]) fun _ _ _ _ _ _ us hl => match us, hl with | [_, _, _], _ => rfl
theorem ok_Frames_fill {fd : FuncData} (F : Fun K "fill" "Frames.fill" s_Frames_fill a.f_Frames_fill fd) (T : Txt K mg a) : FnOk P w K mg base CX0 3 a.f_Frames_fill fd ["self", "frame", "words"] (sp_Frames_fill K a) := by
  obtain ⟨fd_Frames_in_use, F_Frames_in_use⟩ := T.fn_Frames_in_use
  have G_Frames_in_use : FnOk P w K mg base CX0 2 a.f_Frames_in_use fd_Frames_in_use ["self", "frame"] (sp_Frames_in_use K a) := ok_Frames_in_use F_Frames_in_use T
  have B_Frames_in_use := b_Frames_in_use F_Frames_in_use
  obtain ⟨fd_Frames__use, F_Frames__use⟩ := T.fn_Frames__use
  have G_Frames__use : FnOk P w K mg base CX0 1 a.f_Frames__use fd_Frames__use ["self", "frame"] (sp_Frames__use K a) := ok_Frames__use F_Frames__use T
  have B_Frames__use := b_Frames__use F_Frames__use
  refine F.ok sc_Frames_fill (fun vs H Q E h => by obtain ⟨x0, x1, x2, rfl, h⟩ := h; rfl) (fun cdv A outer s H vs Q E hr h => ⟨t_Frames_fill K a, ?_, by obtain ⟨x0, x1, x2, rfl, h⟩ := h; exact pure_Frames_fill T.toCl h⟩)
  exact (pss_cons (ps_if (pt_val (pe_meth (pv 0) T.cl_Frames T.mt_Frames_in_use G_Frames_in_use (hr.mono (by decide)) B_Frames_in_use .nil pass0 (pa_cons (pv 1) pa_nil))) (pss_one ps_never) pss_nil)
      (pss_cons (ps_asg (pe_callTy c_listOf (by rfl) T.mg_list (by decide +kernel) (pa_cons (pv 2) pa_nil)) (pg_sub (pe_fld (pv 0) rfl) (pv 1) set_list))
      (pss_one (ps_expr (pe_meth (pv 0) T.cl_Frames T.mt_Frames__use G_Frames__use (hr.mono (by decide)) B_Frames__use .nil pass0 (pa_cons (pv 1) pa_nil))))))
theorem b_Frames_words {fd : FuncData} (F : Fun K "words" "Frames.words" s_Frames_words a.f_Frames_words fd) : Binds K fd ["self", "frame"] [] := F.binds (ps := ["self", "frame"]) fun _ _ _ _ _ _ us hl => match us, hl with | [_, _], _ => rfl
theorem ok_Frames_words {fd : FuncData} (F : Fun K "words" "Frames.words" s_Frames_words a.f_Frames_words fd) (T : Txt K mg a) : FnOk P w K mg base CX0 4 a.f_Frames_words fd ["self", "frame"] (sp_Frames_words K a) := by
  obtain ⟨fd_Frames__check, F_Frames__check⟩ := T.fn_Frames__check
  have G_Frames__check : FnOk P w K mg base CX0 3 a.f_Frames__check fd_Frames__check ["self", "frame"] (sp_Frames__check K a) := ok_Frames__check F_Frames__check T
  have B_Frames__check := b_Frames__check F_Frames__check
  refine F.ok sc_Frames_words (fun vs H Q E h => by obtain ⟨x0, x1, rfl, h⟩ := h; rfl) (fun cdv A outer s H vs Q E hr h => ⟨t_Frames_words K a, ?_, by obtain ⟨x0, x1, rfl, h⟩ := h; exact pure_Frames_words T.toCl h⟩)
  exact (pss_cons (ps_expr (pe_meth (pv 0) T.cl_Frames T.mt_Frames__check G_Frames__check (hr.mono (by decide)) B_Frames__check .nil pass0 (pa_cons (pv 1) pa_nil)))
      (pss_one (ps_ret (pe_callTy c_tupOf (by rfl) T.mg_tuple (by decide +kernel) (pa_cons (pe_ix ix_list (pe_fld (pv 0) rfl) (pv 1) (fun _ _ => rfl)) pa_nil)))))
theorem b_Frames_word {fd : FuncData} (F : Fun K "word" "Frames.word" s_Frames_word a.f_Frames_word fd) : Binds K fd ["self", "frame", "at"] [] := F.binds (ps := ["self", "frame", "at"]) fun _ _ _ _ _ _ us hl => match us, hl with | [_, _, _], _ => rfl
theorem ok_Frames_word {fd : FuncData} (F : Fun K "word" "Frames.word" s_Frames_word a.f_Frames_word fd) (T : Txt K mg a) : FnOk P w K mg base CX0 4 a.f_Frames_word fd ["self", "frame", "at"] (sp_Frames_word K a) := by
  obtain ⟨fd_Frames__check, F_Frames__check⟩ := T.fn_Frames__check
  have G_Frames__check : FnOk P w K mg base CX0 3 a.f_Frames__check fd_Frames__check ["self", "frame"] (sp_Frames__check K a) := ok_Frames__check F_Frames__check T
  have B_Frames__check := b_Frames__check F_Frames__check
  obtain ⟨fd_check_range, F_check_range⟩ := T.fn_check_range
  have G_check_range : FnOk P w K mg base CX0 1 a.f_check_range fd_check_range ["value", "low", "high"] (sp_check_range K a) := ok_check_range F_check_range T
  have B_check_range := b_check_range F_check_range
  refine F.ok sc_Frames_word (fun vs H Q E h => by obtain ⟨x0, x1, x2, rfl, h⟩ := h; rfl) (fun cdv A outer s H vs Q E hr h => ⟨t_Frames_word K a, ?_, by obtain ⟨x0, x1, x2, rfl, h⟩ := h; exact pure_Frames_word T.toCl h⟩)
  exact (pss_cons (ps_expr (pe_meth (pv 0) T.cl_Frames T.mt_Frames__check G_Frames__check (hr.mono (by decide)) B_Frames__check .nil pass0 (pa_cons (pv 1) pa_nil)))
      (pss_cons (ps_expr (pe_call G_check_range (hr.mono (by decide)) (by rfl) T.mgF_check_range T.kp_check_range B_check_range .nil pass0 (pa_cons (pv 2) (pa_cons pe_int (pa_cons (pe_op op_sub (pe_glob rfl T.gl_PAGE.choose_spec.1 T.gl_PAGE.choose_spec.2) pe_int) pa_nil)))))
      (pss_one (ps_ret (pe_ix ix_list (pe_ix ix_list (pe_fld (pv 0) rfl) (pv 1) (fun _ _ => rfl)) (pv 2) (fun _ _ => rfl))))))
theorem b_Frames_set_word {fd : FuncData} (F : Fun K "set_word" "Frames.set_word" s_Frames_set_word a.f_Frames_set_word fd) : Binds K fd ["self", "frame", "at", "word"] [] := F.binds (ps := ["self", "frame", "at", "word"]) fun _ _ _ _ _ _ us hl => match us, hl with | [_, _, _, _], _ => rfl
theorem ok_Frames_set_word {fd : FuncData} (F : Fun K "set_word" "Frames.set_word" s_Frames_set_word a.f_Frames_set_word fd) (T : Txt K mg a) : FnOk P w K mg base CX0 4 a.f_Frames_set_word fd ["self", "frame", "at", "word"] (sp_Frames_set_word K a) := by
  obtain ⟨fd_Frames__check, F_Frames__check⟩ := T.fn_Frames__check
  have G_Frames__check : FnOk P w K mg base CX0 3 a.f_Frames__check fd_Frames__check ["self", "frame"] (sp_Frames__check K a) := ok_Frames__check F_Frames__check T
  have B_Frames__check := b_Frames__check F_Frames__check
  obtain ⟨fd_check_range, F_check_range⟩ := T.fn_check_range
  have G_check_range : FnOk P w K mg base CX0 1 a.f_check_range fd_check_range ["value", "low", "high"] (sp_check_range K a) := ok_check_range F_check_range T
  have B_check_range := b_check_range F_check_range
  obtain ⟨fd_Frames__use, F_Frames__use⟩ := T.fn_Frames__use
  have G_Frames__use : FnOk P w K mg base CX0 1 a.f_Frames__use fd_Frames__use ["self", "frame"] (sp_Frames__use K a) := ok_Frames__use F_Frames__use T
  have B_Frames__use := b_Frames__use F_Frames__use
  refine F.ok sc_Frames_set_word (fun vs H Q E h => by obtain ⟨x0, x1, x2, x3, rfl, h⟩ := h; rfl) (fun cdv A outer s H vs Q E hr h => ⟨t_Frames_set_word K a, ?_, by obtain ⟨x0, x1, x2, x3, rfl, h⟩ := h; exact pure_Frames_set_word T.toCl h⟩)
  exact (pss_cons (ps_expr (pe_meth (pv 0) T.cl_Frames T.mt_Frames__check G_Frames__check (hr.mono (by decide)) B_Frames__check .nil pass0 (pa_cons (pv 1) pa_nil)))
      (pss_cons (ps_expr (pe_call G_check_range (hr.mono (by decide)) (by rfl) T.mgF_check_range T.kp_check_range B_check_range .nil pass0 (pa_cons (pv 2) (pa_cons pe_int (pa_cons (pe_op op_sub (pe_glob rfl T.gl_PAGE.choose_spec.1 T.gl_PAGE.choose_spec.2) pe_int) pa_nil)))))
      (pss_cons (ps_asg (pv 3) (pg_sub (pe_ix ix_list (pe_fld (pv 0) rfl) (pv 1) (fun _ _ => rfl)) (pv 2) set_list))
      (pss_one (ps_expr (pe_meth (pv 0) T.cl_Frames T.mt_Frames__use G_Frames__use (hr.mono (by decide)) B_Frames__use .nil pass0 (pa_cons (pv 1) pa_nil)))))))
theorem b_Frames_touch {fd : FuncData} (F : Fun K "touch" "Frames.touch" s_Frames_touch a.f_Frames_touch fd) : Binds K fd ["self", "frame"] [] := F.binds (ps := ["self", "frame"]) fun _ _ _ _ _ _ us hl => match us, hl with | [_, _], _ => rfl
theorem ok_Frames_touch {fd : FuncData} (F : Fun K "touch" "Frames.touch" s_Frames_touch a.f_Frames_touch fd) (T : Txt K mg a) : FnOk P w K mg base CX0 4 a.f_Frames_touch fd ["self", "frame"] (sp_Frames_touch K a) := by
  obtain ⟨fd_Frames__check, F_Frames__check⟩ := T.fn_Frames__check
  have G_Frames__check : FnOk P w K mg base CX0 3 a.f_Frames__check fd_Frames__check ["self", "frame"] (sp_Frames__check K a) := ok_Frames__check F_Frames__check T
  have B_Frames__check := b_Frames__check F_Frames__check
  obtain ⟨fd_Frames__use, F_Frames__use⟩ := T.fn_Frames__use
  have G_Frames__use : FnOk P w K mg base CX0 1 a.f_Frames__use fd_Frames__use ["self", "frame"] (sp_Frames__use K a) := ok_Frames__use F_Frames__use T
  have B_Frames__use := b_Frames__use F_Frames__use
  refine F.ok sc_Frames_touch (fun vs H Q E h => by obtain ⟨x0, x1, rfl, h⟩ := h; rfl) (fun cdv A outer s H vs Q E hr h => ⟨t_Frames_touch K a, ?_, by obtain ⟨x0, x1, rfl, h⟩ := h; exact pure_Frames_touch T.toCl h⟩)
  exact (pss_cons (ps_expr (pe_meth (pv 0) T.cl_Frames T.mt_Frames__check G_Frames__check (hr.mono (by decide)) B_Frames__check .nil pass0 (pa_cons (pv 1) pa_nil)))
      (pss_one (ps_expr (pe_meth (pv 0) T.cl_Frames T.mt_Frames__use G_Frames__use (hr.mono (by decide)) B_Frames__use .nil pass0 (pa_cons (pv 1) pa_nil)))))
theorem b_Frames_empty {fd : FuncData} (F : Fun K "empty" "Frames.empty" s_Frames_empty a.f_Frames_empty fd) : Binds K fd ["self", "frame"] [] := F.binds (ps := ["self", "frame"]) fun _ _ _ _ _ _ us hl => match us, hl with | [_, _], _ => rfl
theorem ok_Frames_empty {fd : FuncData} (F : Fun K "empty" "Frames.empty" s_Frames_empty a.f_Frames_empty fd) (T : Txt K mg a) : FnOk P w K mg base CX0 4 a.f_Frames_empty fd ["self", "frame"] (sp_Frames_empty K a) := by
  obtain ⟨fd_Frames__check, F_Frames__check⟩ := T.fn_Frames__check
  have G_Frames__check : FnOk P w K mg base CX0 3 a.f_Frames__check fd_Frames__check ["self", "frame"] (sp_Frames__check K a) := ok_Frames__check F_Frames__check T
  have B_Frames__check := b_Frames__check F_Frames__check
  refine F.ok sc_Frames_empty (fun vs H Q E h => by obtain ⟨x0, x1, rfl, h⟩ := h; rfl) (fun cdv A outer s H vs Q E hr h => ⟨t_Frames_empty K a, ?_, by obtain ⟨x0, x1, rfl, h⟩ := h; exact pure_Frames_empty T.toCl h⟩)
  exact (pss_cons (ps_expr (pe_meth (pv 0) T.cl_Frames T.mt_Frames__check G_Frames__check (hr.mono (by decide)) B_Frames__check .nil pass0 (pa_cons (pv 1) pa_nil)))
      (pss_cons (ps_asg pe_non (pg_sub (pe_fld (pv 0) rfl) (pv 1) set_list))
      (pss_one (ps_asg pe_int (pg_sub (pe_fld (pv 0) rfl) (pv 1) set_list)))))
theorem b_Frames_resize {fd : FuncData} (F : Fun K "resize" "Frames.resize" s_Frames_resize a.f_Frames_resize fd) : Binds K fd ["self", "count"] [] := F.binds (ps := ["self", "count"]) fun _ _ _ _ _ _ us hl => match us, hl with | [_, _], _ => rfl
theorem ok_Frames_resize {fd : FuncData} (F : Fun K "resize" "Frames.resize" s_Frames_resize a.f_Frames_resize fd) (T : Txt K mg a) : FnOk P w K mg base (L2.CX P w) 3 a.f_Frames_resize fd ["self", "count"] (sp_Frames_resize K a) := by
  obtain ⟨fd_check_range, F_check_range⟩ := T.fn_check_range
  have G_check_range : FnOk P w K mg base CX0 1 a.f_check_range fd_check_range ["value", "low", "high"] (sp_check_range K a) := ok_check_range F_check_range T
  have B_check_range := b_check_range F_check_range
  obtain ⟨fd_HostBusy___init__, F_HostBusy___init__⟩ := T.fn_HostBusy___init__
  have G_HostBusy___init__ : FnOk P w K mg base CX0 1 a.f_HostBusy___init__ fd_HostBusy___init__ ["self", "number"] (sp_HostBusy___init__ K a) := ok_HostBusy___init__ F_HostBusy___init__ T
  have B_HostBusy___init__ := b_HostBusy___init__ F_HostBusy___init__
  refine F.okX sc_Frames_resize (fun vs H Q E h => by obtain ⟨x0, x1, rfl, h⟩ := h; rfl) (fun cdv A outer s H vs Q E hr h => ⟨t_Frames_resize K a E, ?_, by obtain ⟨x0, x1, rfl, h⟩ := h; exact pure_Frames_resize T.toCl h⟩)
  exact (pss_cons (ps_expr (pe_call G_check_range (hr.mono (by decide)) (by rfl) T.mgF_check_range T.kp_check_range B_check_range .nil pass0 (pa_cons (pv 1) (pa_cons pe_int (pa_cons (pe_glob rfl T.gl_MOST_FRAMES.choose_spec.1 T.gl_MOST_FRAMES.choose_spec.2) pa_nil)))))
      (pss_cons (ps_for (passes_of rfl) (by rfl) (pi_range2 (by rfl) T.mg_range (pa_cons (pv 1) (pa_cons (pe_callB c_len (by rfl) T.mg_len (by decide +kernel) (pa_cons (pe_fld (pv 0) rfl) pa_nil)) pa_nil))) (pg_name (i := 2) sc_Frames_resize.nd rfl (by first | exact Or.inl rfl | exact Or.inr rfl)) (pss_one (ps_if (pt_cmpR o_notN (pe_ix ix_list (pe_fld (pv 0) rfl) (pv 2) (fun _ _ => rfl)) pe_non (nomark _)) (pss_one (ps_raise (by rfl) (takes_of rfl rfl rfl rfl) (pmk_oex T.oex_HostBusy T.ii_HostBusy T.ti_HostBusy G_HostBusy___init__ (hr.mono (by decide)) B_HostBusy___init__ .nil pass0 (by rfl) T.mgC_HostBusy (pa_cons (pv 2) pa_nil)))) pss_nil)))
      (pss_cons (ps_while (passes_of rfl) (pt_cmpR op_gt (pe_callB c_len (by rfl) T.mg_len (by decide +kernel) (pa_cons (pe_fld (pv 0) rfl) pa_nil)) (pv 1) (nomark _)) (pss_cons (ps_expr (pe_bm0 PySem.F.plainAttrs_list PySem.F.slot_list_pop PySem.F.type_list_pop mt_pop (pe_fld (pv 0) rfl)))
      (pss_one (ps_expr (pe_bm0 PySem.F.plainAttrs_list PySem.F.slot_list_pop PySem.F.type_list_pop mt_pop (pe_fld (pv 0) rfl))))))
      (pss_one (ps_while (passes_of rfl) (pt_cmpR op_lt (pe_callB c_len (by rfl) T.mg_len (by decide +kernel) (pa_cons (pe_fld (pv 0) rfl) pa_nil)) (pv 1) (nomark _)) (pss_cons (ps_expr (pe_bm PySem.F.plainAttrs_list PySem.F.slot_list_append PySem.F.type_list_append mt_append (pe_fld (pv 0) rfl) (pa_cons pe_non pa_nil)))
      (pss_one (ps_expr (pe_bm PySem.F.plainAttrs_list PySem.F.slot_list_append PySem.F.type_list_append mt_append (pe_fld (pv 0) rfl) (pa_cons pe_int pa_nil))))))))))
theorem b_Frames_frozen {fd : FuncData} (F : Fun K "frozen" "Frames.frozen" s_Frames_frozen a.f_Frames_frozen fd) : Binds K fd ["self"] [] := F.binds (ps := ["self"]) fun _ _ _ _ _ _ us hl => match us, hl with | [_], _ => rfl
theorem ok_Frames_frozen {fd : FuncData} (F : Fun K "frozen" "Frames.frozen" s_Frames_frozen a.f_Frames_frozen fd) (T : Txt K mg a) : FnOk P w K mg base CX0 2 a.f_Frames_frozen fd ["self"] (sp_Frames_frozen K a) := by
  obtain ⟨fd_Frames_order, F_Frames_order⟩ := T.fn_Frames_order
  have G_Frames_order : FnOk P w K mg base CX0 1 a.f_Frames_order fd_Frames_order ["self"] (sp_Frames_order K a) := ok_Frames_order F_Frames_order T
  have B_Frames_order := b_Frames_order F_Frames_order
  refine F.ok sc_Frames_frozen (fun vs H Q E h => by obtain ⟨x0, rfl, h⟩ := h; rfl) (fun cdv A outer s H vs Q E hr h => ⟨t_Frames_frozen K a, ?_, by obtain ⟨x0, rfl, h⟩ := h; exact pure_Frames_frozen T.toCl h⟩)
  exact (pss_cons (ps_set (i := 1) sc_Frames_frozen.nd rfl (by first | exact Or.inl rfl | exact Or.inr rfl) (pe_lst pa_nil))
      (pss_cons (ps_for PassesOwn.never (by rfl) (pi_list (pe_fld (pv 0) rfl)) (pg_name (i := 2) sc_Frames_frozen.nd rfl (by first | exact Or.inl rfl | exact Or.inr rfl)) (pss_one (ps_if (pt_cmpR o_isN (pv 2) pe_non (nomark _)) (pss_one (ps_expr (pe_bm PySem.F.plainAttrs_list PySem.F.slot_list_append PySem.F.type_list_append mt_append (pv 1) (pa_cons pe_non pa_nil)))) (pss_one (ps_expr (pe_bm PySem.F.plainAttrs_list PySem.F.slot_list_append PySem.F.type_list_append mt_append (pv 1) (pa_cons (pe_callTy c_tupOf (by rfl) T.mg_tuple (by decide +kernel) (pa_cons (pv 2) pa_nil)) pa_nil)))))))
      (pss_one (ps_ret (pe_tup (pa_cons (pe_callTy c_tupOf (by rfl) T.mg_tuple (by decide +kernel) (pa_cons (pv 1) pa_nil)) (pa_cons (pe_meth0 (pv 0) T.cl_Frames T.mt_Frames_order G_Frames_order (hr.mono (by decide)) B_Frames_order .nil pass0) pa_nil)))))))
theorem b_thawed_frames {fd : FuncData} (F : Fun K "thawed_frames" "thawed_frames" s_thawed_frames a.f_thawed_frames fd) : Binds K fd ["value"] [] := F.binds (ps := ["value"]) fun _ _ _ _ _ _ us hl => match us, hl with | [_], _ => rfl
theorem ok_thawed_frames {fd : FuncData} (F : Fun K "thawed_frames" "thawed_frames" s_thawed_frames a.f_thawed_frames fd) (T : Txt K mg a) : FnOk P w K mg base CX0 4 a.f_thawed_frames fd ["value"] (sp_thawed_frames K a) := by
  obtain ⟨fd_Frames___init__, F_Frames___init__⟩ := T.fn_Frames___init__
  have G_Frames___init__ : FnOk P w K mg base CX0 2 a.f_Frames___init__ fd_Frames___init__ ["self", "count"] (sp_Frames___init__ K a) := ok_Frames___init__ F_Frames___init__ T
  have B_Frames___init__ := b_Frames___init__ F_Frames___init__
  obtain ⟨fd_Frames_fill, F_Frames_fill⟩ := T.fn_Frames_fill
  have G_Frames_fill : FnOk P w K mg base CX0 3 a.f_Frames_fill fd_Frames_fill ["self", "frame", "words"] (sp_Frames_fill K a) := ok_Frames_fill F_Frames_fill T
  have B_Frames_fill := b_Frames_fill F_Frames_fill
  refine F.ok sc_thawed_frames (fun vs H Q E h => by obtain ⟨x0, rfl, h⟩ := h; rfl) (fun cdv A outer s H vs Q E hr h => ⟨t_thawed_frames K a, ?_, by obtain ⟨x0, rfl, h⟩ := h; exact pure_thawed_frames T.toCl h⟩)
  exact (pss_cons (ps_asg (pv 0) (pg_tup (by rfl) (pgs_cons (pg_name (i := 1) sc_thawed_frames.nd rfl (by first | exact Or.inl rfl | exact Or.inr rfl)) (pgs_cons (pg_name (i := 2) sc_thawed_frames.nd rfl (by first | exact Or.inl rfl | exact Or.inr rfl)) pgs_nil))))
      (pss_cons (ps_set (i := 3) sc_thawed_frames.nd rfl (by first | exact Or.inl rfl | exact Or.inr rfl) (pe_make T.mk_Frames G_Frames___init__ (hr.mono (by decide)) (by rfl) T.mgC_Frames B_Frames___init__ .nil pass0 (pa_cons (pe_callB c_len (by rfl) T.mg_len (by decide +kernel) (pa_cons (pv 1) pa_nil)) pa_nil)))
      (pss_cons (ps_for PassesOwn.never (by rfl) (pi_tup (pv 2)) (pg_name (i := 4) sc_thawed_frames.nd rfl (by first | exact Or.inl rfl | exact Or.inr rfl)) (pss_one (ps_expr (pe_meth (pv 3) T.cl_Frames T.mt_Frames_fill G_Frames_fill (hr.mono (by decide)) B_Frames_fill .nil pass0 (pa_cons (pv 4) (pa_cons (pe_ix ix_tup (pv 1) (pv 4) (fun _ _ => rfl)) pa_nil))))))
      (pss_one (ps_ret (pv 3))))))
theorem b__law_cell {fd : FuncData} (F : Fun K "_law_cell" "_law_cell" s__law_cell a.f__law_cell fd) : Binds K fd ["script", "k"] [] := F.binds (ps := ["script", "k"]) fun _ _ _ _ _ _ us hl => match us, hl with | [_, _], _ => rfl
theorem ok__law_cell {fd : FuncData} (F : Fun K "_law_cell" "_law_cell" s__law_cell a.f__law_cell fd) (T : Txt K mg a) : FnOk P w K mg base CX0 1 a.f__law_cell fd ["script", "k"] (sp__law_cell K a) := by
  refine F.ok sc__law_cell (fun vs H Q E h => by obtain ⟨x0, x1, rfl, h⟩ := h; rfl) (fun cdv A outer s H vs Q E hr h => ⟨t__law_cell K a, ?_, by obtain ⟨x0, x1, rfl, h⟩ := h; exact pure__law_cell T.toCl h⟩)
  exact (pss_cons (ps_if (pt_cmpR op_lt (pv 1) (pe_callB c_len (by rfl) T.mg_len (by decide +kernel) (pa_cons (pv 0) pa_nil)) (nomark _)) (pss_one (ps_ret (pe_ix ix_list (pv 0) (pv 1) (fun _ _ => rfl)))) pss_nil)
      (pss_one (ps_ret pe_int)))
theorem b__law_row {fd : FuncData} (F : Fun K "_law_row" "_law_row" s__law_row a.f__law_row fd) : Binds K fd ["cell", "count", "size"] [] := F.binds (ps := ["cell", "count", "size"]) fun _ _ _ _ _ _ us hl => match us, hl with | [_, _, _], _ => rfl
theorem ok__law_row {fd : FuncData} (F : Fun K "_law_row" "_law_row" s__law_row a.f__law_row fd) (T : Txt K mg a) : FnOk P w K mg base CX0 1 a.f__law_row fd ["cell", "count", "size"] (sp__law_row K a) := by
  refine F.ok sc__law_row (fun vs H Q E h => by obtain ⟨x0, x1, x2, rfl, h⟩ := h; rfl) (fun cdv A outer s H vs Q E hr h => ⟨t__law_row K a, ?_, by obtain ⟨x0, x1, x2, rfl, h⟩ := h; exact pure__law_row T.toCl h⟩)
  exact (pss_cons (ps_set (i := 3) sc__law_row.nd rfl (by first | exact Or.inl rfl | exact Or.inr rfl) (pe_lst pa_nil))
      (pss_cons (ps_set (i := 4) sc__law_row.nd rfl (by first | exact Or.inl rfl | exact Or.inr rfl) (pe_callB c_abs (by rfl) T.mg_abs (by decide +kernel) (pa_cons (pv 0) pa_nil)))
      (pss_cons (ps_if (pt_cmpR op_ge (pv 4) (pe_op op_pow pe_int pe_int) (nomark _)) (pss_cons (ps_for PassesOwn.never (by rfl) (pi_range1 (by rfl) T.mg_range (pa_cons (pv 1) pa_nil)) (pg_name (i := 5) sc__law_row.nd rfl (by first | exact Or.inl rfl | exact Or.inr rfl)) (pss_cons (ps_expr (pe_bm PySem.F.plainAttrs_list PySem.F.slot_list_append PySem.F.type_list_append mt_append (pv 3) (pa_cons (pe_op op_mod (pe_callTy c_int (by rfl) T.mg_int (by decide +kernel) (pa_cons (pv 4) pa_nil)) (pv 2)) pa_nil)))
      (pss_one (ps_set (i := 4) sc__law_row.nd rfl (by first | exact Or.inl rfl | exact Or.inr rfl) (pe_op op_fdiv (pv 4) (pv 2))))))
      (pss_one (ps_ret (pv 3)))) pss_nil)
      (pss_cons (ps_for PassesOwn.never (by rfl) (pi_range1 (by rfl) T.mg_range (pa_cons (pv 1) pa_nil)) (pg_name (i := 5) sc__law_row.nd rfl (by first | exact Or.inl rfl | exact Or.inr rfl)) (pss_cons (ps_set (i := 6) sc__law_row.nd rfl (by first | exact Or.inl rfl | exact Or.inr rfl) (pe_op op_mod (pe_callTy c_int (by rfl) T.mg_int (by decide +kernel) (pa_cons (pe_op op_add (pe_op op_add (pe_op op_mul (pv 4) pe_int) (pe_op op_mul (pv 5) pe_int)) pe_int) pa_nil)) pe_int))
      (pss_cons (ps_set (i := 6) sc__law_row.nd rfl (by first | exact Or.inl rfl | exact Or.inr rfl) (pe_op op_mod (pe_callTy c_int (by rfl) T.mg_int (by decide +kernel) (pa_cons (pe_op op_add (pe_op op_add (pe_op op_mul (pv 6) (pv 6)) (pe_op op_mul (pv 5) pe_int)) (pv 4)) pa_nil)) pe_int))
      (pss_one (ps_expr (pe_bm PySem.F.plainAttrs_list PySem.F.slot_list_append PySem.F.type_list_append mt_append (pv 3) (pa_cons (pe_op op_mod (pe_callTy c_int (by rfl) T.mg_int (by decide +kernel) (pa_cons (pe_op op_fdiv (pv 6) pe_int) pa_nil)) (pv 2)) pa_nil)))))))
      (pss_one (ps_ret (pv 3)))))))
theorem b__law_same {fd : FuncData} (F : Fun K "_law_same" "_law_same" s__law_same a.f__law_same fd) : Binds K fd ["actual", "expected"] [] := F.binds (ps := ["actual", "expected"]) fun _ _ _ _ _ _ us hl => match us, hl with | [_, _], _ => rfl
theorem ok1__law_same {fd : FuncData} (F : Fun K "_law_same" "_law_same" s__law_same a.f__law_same fd) (T : Txt K mg a) (d : Nat) (G__law_same : FnOk P w K mg base CX0 (d + 1) a.f__law_same fd ["actual", "expected"] (sp__law_same K a d)) : FnOk P w K mg base CX0 (d + 1 + 1) a.f__law_same fd ["actual", "expected"] (sp__law_same K a (d + 1)) := by
  have B__law_same := b__law_same F
  refine F.ok sc__law_same (fun vs H Q E h => by obtain ⟨x0, x1, rfl, h⟩ := h; rfl) (fun cdv A outer s H vs Q E hr h => ⟨t__law_same K a (sp__law_same K a d), ?_, by obtain ⟨x0, x1, rfl, h⟩ := h; exact pure__law_same T.toCl (d := d) h⟩)
  exact (pss_cons (ps_if (pt_val (pe_callB call_isi (by rfl) T.mg_isinstance (by decide +kernel) (pa_cons (pv 1) (pa_cons (pe_bltn (v := .ty "tuple") (by rfl) T.mg_tuple (by decide +kernel) rfl) pa_nil)))) (pss_cons (ps_if (PW.pt (pw_or (pt_not (pt_val (pe_callB call_isi (by rfl) T.mg_isinstance (by decide +kernel) (pa_cons (pv 0) (pa_cons (pe_bltn (v := .ty "tuple") (by rfl) T.mg_tuple (by decide +kernel) rfl) pa_nil))))) (pw_or1 (pt_cmpR op_ne (pe_callB c_len (by rfl) T.mg_len (by decide +kernel) (pa_cons (pv 0) pa_nil)) (pe_callB c_len (by rfl) T.mg_len (by decide +kernel) (pa_cons (pv 1) pa_nil)) (nomark _))))) (pss_one (ps_ret pe_bl)) pss_nil)
      (pss_cons (ps_for PassesOwn.never (by rfl) (pi_range1 (by rfl) T.mg_range (pa_cons (pe_callB c_len (by rfl) T.mg_len (by decide +kernel) (pa_cons (pv 1) pa_nil)) pa_nil)) (pg_name (i := 2) sc__law_same.nd rfl (by first | exact Or.inl rfl | exact Or.inr rfl)) (pss_one (ps_if (pt_not (pt_val (pe_call G__law_same hr (by rfl) T.mgF__law_same T.kp__law_same B__law_same .nil pass0 (pa_cons (pe_ix ix_tup (pv 0) (pv 2) (fun _ _ => rfl)) (pa_cons (pe_ix ix_tup (pv 1) (pv 2) (fun _ _ => rfl)) pa_nil))))) (pss_one (ps_ret pe_bl)) pss_nil)))
      (pss_one (ps_ret pe_bl)))) pss_nil)
      (pss_cons (ps_if (pt_val (pe_callB call_isi (by rfl) T.mg_isinstance (by decide +kernel) (pa_cons (pv 1) (pa_cons (pe_bltn (v := .ty "bool") (by rfl) T.mg_bool (by decide +kernel) rfl) pa_nil)))) (pss_one (ps_ret (pe_and (pe_callB call_isi (by rfl) T.mg_isinstance (by decide +kernel) (pa_cons (pv 0) (pa_cons (pe_bltn (v := .ty "bool") (by rfl) T.mg_bool (by decide +kernel) rfl) pa_nil))) (pe_one (pe_cmpR op_eq (pv 0) (pv 1) (nomark _)))))) pss_nil)
      (pss_cons (ps_if (pt_val (pe_callB call_isi (by rfl) T.mg_isinstance (by decide +kernel) (pa_cons (pv 1) (pa_cons (pe_bltn (v := .ty "int") (by rfl) T.mg_int (by decide +kernel) rfl) pa_nil)))) (pss_one (ps_ret (pe_and (pe_callB call_isi (by rfl) T.mg_isinstance (by decide +kernel) (pa_cons (pv 0) (pa_cons (pe_bltn (v := .ty "int") (by rfl) T.mg_int (by decide +kernel) rfl) pa_nil))) (pe_and (pe_not (pe_callB call_isi (by rfl) T.mg_isinstance (by decide +kernel) (pa_cons (pv 0) (pa_cons (pe_bltn (v := .ty "bool") (by rfl) T.mg_bool (by decide +kernel) rfl) pa_nil)))) (pe_one (pe_cmpR op_eq (pv 0) (pv 1) (nomark _))))))) pss_nil)
      (pss_cons (ps_if (pt_val (pe_callB call_isi (by rfl) T.mg_isinstance (by decide +kernel) (pa_cons (pv 1) (pa_cons (pe_bltn (v := .ty "str") (by rfl) T.mg_str (by decide +kernel) rfl) pa_nil)))) (pss_one (ps_ret (pe_and (pe_callB call_isi (by rfl) T.mg_isinstance (by decide +kernel) (pa_cons (pv 0) (pa_cons (pe_bltn (v := .ty "str") (by rfl) T.mg_str (by decide +kernel) rfl) pa_nil))) (pe_one (pe_cmpR op_eq (pv 0) (pv 1) (nomark _)))))) pss_nil)
      (pss_one (ps_ret (pe_and (pe_cmpR o_isN (pv 1) pe_non (nomark _)) (pe_one (pe_cmpR o_isN (pv 0) pe_non (nomark _))))))))))
theorem ok__law_same {fd : FuncData} (F : Fun K "_law_same" "_law_same" s__law_same a.f__law_same fd) (T : Txt K mg a) (d : Nat) : FnOk P w K mg base CX0 (d + 1) a.f__law_same fd ["actual", "expected"] (sp__law_same K a d) := by
  induction d with
  | zero => exact fnOk_none fun vs H Q E h => by obtain ⟨_, _, _, _, z, _⟩ := h; exact z
  | succ d ih => exact ok1__law_same F T d ih
theorem b__law_shuffled {fd : FuncData} (F : Fun K "_law_shuffled" "_law_shuffled" s__law_shuffled a.f__law_shuffled fd) : Binds K fd ["cell", "count"] [] := F.binds (ps := ["cell", "count"]) fun _ _ _ _ _ _ us hl => match us, hl with | [_, _], _ => rfl
theorem ok__law_shuffled {fd : FuncData} (F : Fun K "_law_shuffled" "_law_shuffled" s__law_shuffled a.f__law_shuffled fd) (T : Txt K mg a) : FnOk P w K mg base CX0 2 a.f__law_shuffled fd ["cell", "count"] (sp__law_shuffled K a) := by
  obtain ⟨fd__law_row, F__law_row⟩ := T.fn__law_row
  have G__law_row : FnOk P w K mg base CX0 1 a.f__law_row fd__law_row ["cell", "count", "size"] (sp__law_row K a) := ok__law_row F__law_row T
  have B__law_row := b__law_row F__law_row
  refine F.ok sc__law_shuffled (fun vs H Q E h => by obtain ⟨x0, x1, rfl, h⟩ := h; rfl) (fun cdv A outer s H vs Q E hr h => ⟨t__law_shuffled K a, ?_, by obtain ⟨x0, x1, rfl, h⟩ := h; exact pure__law_shuffled T.toCl h⟩)
  exact (pss_cons (ps_setLc (i := 2) (own := [("k", 5)]) (g := (gName 5)) (tt := tYes) (by rfl) sc__law_shuffled.nd rfl rfl (sw_true rfl rfl rfl (by decide +kernel)) (pi_range1 (by rfl) T.mg_range (pa_cons (pv 1) pa_nil)) (blkOk_by (own := [("k", 5)]) (N := n__law_shuffled) (sc := defScope s__law_shuffled) (by decide +kernel)) (fun _ _ _ _ _ => (pg_name (i := 5) sc__law_shuffled.nd rfl (by first | exact Or.inl rfl | exact Or.inr rfl))) (fun _ _ _ _ _ => pts_nil) (fun _ _ _ _ _ => (pv 5)))
      (pss_cons (ps_set (i := 3) sc__law_shuffled.nd rfl (by first | exact Or.inl rfl | exact Or.inr rfl) (pe_call G__law_row (hr.mono (by decide)) (by rfl) T.mgF__law_row T.kp__law_row B__law_row .nil pass0 (pa_cons (pv 0) (pa_cons (pv 1) (pa_cons pe_int pa_nil)))))
      (pss_cons (ps_set (i := 4) sc__law_shuffled.nd rfl (by first | exact Or.inl rfl | exact Or.inr rfl) (pe_lst pa_nil))
      (pss_cons (ps_for PassesOwn.never (by rfl) (pi_range1 (by rfl) T.mg_range (pa_cons (pv 1) pa_nil)) (pg_name (i := 5) sc__law_shuffled.nd rfl (by first | exact Or.inl rfl | exact Or.inr rfl)) (pss_one (ps_expr (pe_bm PySem.F.plainAttrs_list PySem.F.slot_list_append PySem.F.type_list_append mt_append (pv 4) (pa_cons (pe_bm PySem.F.plainAttrs_list PySem.F.slot_list_pop PySem.F.type_list_pop mt_popAt (pv 2) (pa_cons (pe_op op_mod (pe_callTy c_int (by rfl) T.mg_int (by decide +kernel) (pa_cons (pe_ix ix_list (pv 3) (pv 5) (fun _ _ => rfl)) pa_nil)) (pe_callB c_len (by rfl) T.mg_len (by decide +kernel) (pa_cons (pv 2) pa_nil))) pa_nil)) pa_nil)))))
      (pss_one (ps_ret (pv 4)))))))
theorem b__law_content {fd : FuncData} (F : Fun K "_law_content" "_law_content" s__law_content a.f__law_content fd) : Binds K fd ["word"] [] := F.binds (ps := ["word"]) fun _ _ _ _ _ _ us hl => match us, hl with | [_], _ => rfl
theorem ok__law_content {fd : FuncData} (F : Fun K "_law_content" "_law_content" s__law_content a.f__law_content fd) (T : Txt K mg a) : FnOk P w K mg base CX0 1 a.f__law_content fd ["word"] (sp__law_content K a) := by
  refine F.ok sc__law_content (fun vs H Q E h => by obtain ⟨x0, rfl, h⟩ := h; rfl) (fun cdv A outer s H vs Q E hr h => ⟨t__law_content K a, ?_, by obtain ⟨x0, rfl, h⟩ := h; exact pure__law_content T.toCl h⟩)
  exact (pss_one (ps_ret (pe_lc (own := [("j", 1)]) (g := (gName 1)) (tt := tYes) (by rfl) sc__law_content.nd (pi_range1 (by rfl) T.mg_range (pa_cons pe_int pa_nil)) (blkOk_by (own := [("j", 1)]) (N := n__law_content) (sc := defScope s__law_content) (by decide +kernel)) (fun _ _ _ _ _ => (pg_name (i := 1) sc__law_content.nd rfl (by first | exact Or.inl rfl | exact Or.inr rfl))) (fun _ _ _ _ _ => pts_nil) (fun _ _ _ _ _ => (pe_op op_mod (pe_callTy c_int (by rfl) T.mg_int (by decide +kernel) (pa_cons (pe_op op_add (pv 0) (pe_op op_mul pe_int (pv 1))) pa_nil)) pe_int)))))
theorem b__law_filled {fd : FuncData} (F : Fun K "_law_filled" "_law_filled" s__law_filled a.f__law_filled fd) : Binds K fd ["side", "frame", "word"] [] := F.binds (ps := ["side", "frame", "word"]) fun _ _ _ _ _ _ us hl => match us, hl with | [_, _, _], _ => rfl
theorem ok__law_filled {fd : FuncData} (F : Fun K "_law_filled" "_law_filled" s__law_filled a.f__law_filled fd) (T : Txt K mg a) : FnOk P w K mg base CX0 5 a.f__law_filled fd ["side", "frame", "word"] (sp__law_filled K a) := by
  obtain ⟨fd__law_content, F__law_content⟩ := T.fn__law_content
  have G__law_content : FnOk P w K mg base CX0 1 a.f__law_content fd__law_content ["word"] (sp__law_content K a) := ok__law_content F__law_content T
  have B__law_content := b__law_content F__law_content
  obtain ⟨fd__law_same, F__law_same⟩ := T.fn__law_same
  have G__law_same : FnOk P w K mg base CX0 4 a.f__law_same fd__law_same ["actual", "expected"] (sp__law_same K a 3) := ok__law_same F__law_same T 3
  have B__law_same := b__law_same F__law_same
  obtain ⟨fd_Frames_fill, F_Frames_fill⟩ := T.fn_Frames_fill
  have G_Frames_fill : FnOk P w K mg base CX0 3 a.f_Frames_fill fd_Frames_fill ["self", "frame", "words"] (sp_Frames_fill K a) := ok_Frames_fill F_Frames_fill T
  have B_Frames_fill := b_Frames_fill F_Frames_fill
  refine F.ok sc__law_filled (fun vs H Q E h => by obtain ⟨x0, x1, x2, rfl, h⟩ := h; rfl) (fun cdv A outer s H vs Q E hr h => ⟨t__law_filled K a, ?_, by obtain ⟨x0, x1, x2, rfl, h⟩ := h; exact pure__law_filled T.toCl h⟩)
  exact (pss_cons (ps_set (i := 3) sc__law_filled.nd rfl (by first | exact Or.inl rfl | exact Or.inr rfl) (pe_call G__law_content (hr.mono (by decide)) (by rfl) T.mgF__law_content T.kp__law_content B__law_content .nil pass0 (pa_cons (pv 2) pa_nil)))
      (pss_cons (ps_if (pt_not (pt_val (pe_call G__law_same (hr.mono (by decide)) (by rfl) T.mgF__law_same T.kp__law_same B__law_same .nil pass0 (pa_cons (pe_meth (pe_dget (hu_of hr) (pv 0) pe_str (fun _ _ => rfl)) T.cl_Frames T.mt_Frames_fill G_Frames_fill (hr.mono (by decide)) B_Frames_fill .nil pass0 (pa_cons (pv 1) (pa_cons (pe_callTy c_tupOf (by rfl) T.mg_tuple (by decide +kernel) (pa_cons (pv 3) pa_nil)) pa_nil))) (pa_cons pe_non pa_nil))))) (pss_one (ps_ret pe_bl)) pss_nil)
      (pss_cons (ps_set (i := 4) sc__law_filled.nd rfl (by first | exact Or.inl rfl | exact Or.inr rfl) (pe_dget (hu_of hr) (pv 0) pe_str (fun _ _ => rfl)))
      (pss_cons (ps_asg (pv 3) (pg_sub (pv 4) (pv 1) set_list))
      (pss_cons (ps_set (i := 5) sc__law_filled.nd rfl (by first | exact Or.inl rfl | exact Or.inr rfl) (pe_dget (hu_of hr) (pv 0) pe_str (fun _ _ => rfl)))
      (pss_cons (ps_expr (pe_bm PySem.F.plainAttrs_list PySem.F.slot_list_append PySem.F.type_list_append mt_append (pv 5) (pa_cons (pv 1) pa_nil)))
      (pss_one (ps_ret pe_bl))))))))
theorem b__law_begun {fd : FuncData} (F : Fun K "_law_begun" "_law_begun" s__law_begun a.f__law_begun fd) : Binds K fd ["size", "cell", "seed"] [] := F.binds (ps := ["size", "cell", "seed"]) fun _ _ _ _ _ _ us hl => match us, hl with | [_, _, _], _ => rfl
theorem ok__law_begun {fd : FuncData} (F : Fun K "_law_begun" "_law_begun" s__law_begun a.f__law_begun fd) (T : Txt K mg a) : FnOk P w K mg base CX0 6 a.f__law_begun fd ["size", "cell", "seed"] (sp__law_begun K a) := by
  obtain ⟨fd_Frames___init__, F_Frames___init__⟩ := T.fn_Frames___init__
  have G_Frames___init__ : FnOk P w K mg base CX0 2 a.f_Frames___init__ fd_Frames___init__ ["self", "count"] (sp_Frames___init__ K a) := ok_Frames___init__ F_Frames___init__ T
  have B_Frames___init__ := b_Frames___init__ F_Frames___init__
  obtain ⟨fd__law_shuffled, F__law_shuffled⟩ := T.fn__law_shuffled
  have G__law_shuffled : FnOk P w K mg base CX0 2 a.f__law_shuffled fd__law_shuffled ["cell", "count"] (sp__law_shuffled K a) := ok__law_shuffled F__law_shuffled T
  have B__law_shuffled := b__law_shuffled F__law_shuffled
  obtain ⟨fd__law_filled, F__law_filled⟩ := T.fn__law_filled
  have G__law_filled : FnOk P w K mg base CX0 5 a.f__law_filled fd__law_filled ["side", "frame", "word"] (sp__law_filled K a) := ok__law_filled F__law_filled T
  have B__law_filled := b__law_filled F__law_filled
  refine F.ok sc__law_begun (fun vs H Q E h => by obtain ⟨x0, x1, x2, rfl, h⟩ := h; rfl) (fun cdv A outer s H vs Q E hr h => ⟨t__law_begun K a, ?_, by obtain ⟨x0, x1, x2, rfl, h⟩ := h; exact pure__law_begun T.toCl h⟩)
  exact (pss_cons (ps_set (i := 3) sc__law_begun.nd rfl (by first | exact Or.inl rfl | exact Or.inr rfl) (pe_disp (pps_cons pe_str (pe_make T.mk_Frames G_Frames___init__ (hr.mono (by decide)) (by rfl) T.mgC_Frames B_Frames___init__ .nil pass0 (pa_cons (pv 0) pa_nil)) (pps_cons pe_str (pe_op op_rep (pe_lst (pa_cons pe_non pa_nil)) (pv 0)) (pps_cons pe_str (pe_lst pa_nil) pps_nil))) (by rfl) (by rfl) (fun z => by cases z) (by decide)))
      (pss_cons (ps_for PassesOwn.never (by rfl) (pi_list (pe_call G__law_shuffled (hr.mono (by decide)) (by rfl) T.mgF__law_shuffled T.kp__law_shuffled B__law_shuffled .nil pass0 (pa_cons (pv 1) (pa_cons (pv 0) pa_nil)))) (pg_name (i := 4) sc__law_begun.nd rfl (by first | exact Or.inl rfl | exact Or.inr rfl)) (pss_one (ps_if (pt_not (pt_val (pe_call G__law_filled (hr.mono (by decide)) (by rfl) T.mgF__law_filled T.kp__law_filled B__law_filled .nil pass0 (pa_cons (pv 3) (pa_cons (pv 4) (pa_cons (pe_op op_add (pv 2) (pe_op op_mul pe_int (pv 4))) pa_nil)))))) (pss_one (ps_ret pe_non)) pss_nil)))
      (pss_one (ps_ret (pv 3)))))
theorem b__law_emptied {fd : FuncData} (F : Fun K "_law_emptied" "_law_emptied" s__law_emptied a.f__law_emptied fd) : Binds K fd ["side", "frame"] [] := F.binds (ps := ["side", "frame"]) fun _ _ _ _ _ _ us hl => match us, hl with | [_, _], _ => rfl
theorem ok__law_emptied {fd : FuncData} (F : Fun K "_law_emptied" "_law_emptied" s__law_emptied a.f__law_emptied fd) (T : Txt K mg a) : FnOk P w K mg base CX0 5 a.f__law_emptied fd ["side", "frame"] (sp__law_emptied K a) := by
  obtain ⟨fd__law_same, F__law_same⟩ := T.fn__law_same
  have G__law_same : FnOk P w K mg base CX0 4 a.f__law_same fd__law_same ["actual", "expected"] (sp__law_same K a 3) := ok__law_same F__law_same T 3
  have B__law_same := b__law_same F__law_same
  obtain ⟨fd_Frames_empty, F_Frames_empty⟩ := T.fn_Frames_empty
  have G_Frames_empty : FnOk P w K mg base CX0 4 a.f_Frames_empty fd_Frames_empty ["self", "frame"] (sp_Frames_empty K a) := ok_Frames_empty F_Frames_empty T
  have B_Frames_empty := b_Frames_empty F_Frames_empty
  refine F.ok sc__law_emptied (fun vs H Q E h => by obtain ⟨x0, x1, rfl, h⟩ := h; rfl) (fun cdv A outer s H vs Q E hr h => ⟨t__law_emptied K a, ?_, by obtain ⟨x0, x1, rfl, h⟩ := h; exact pure__law_emptied T.toCl h⟩)
  exact (pss_cons (ps_set (i := 2) sc__law_emptied.nd rfl (by first | exact Or.inl rfl | exact Or.inr rfl) (pe_dget (hu_of hr) (pv 0) pe_str (fun _ _ => rfl)))
      (pss_cons (ps_expr (pe_bm PySem.F.plainAttrs_list PySem.F.slot_list_remove PySem.F.type_list_remove mt_remove (pv 2) (pa_cons (pv 1) pa_nil)))
      (pss_cons (ps_set (i := 3) sc__law_emptied.nd rfl (by first | exact Or.inl rfl | exact Or.inr rfl) (pe_dget (hu_of hr) (pv 0) pe_str (fun _ _ => rfl)))
      (pss_cons (ps_asg pe_non (pg_sub (pv 3) (pv 1) set_list))
      (pss_one (ps_ret (pe_call G__law_same (hr.mono (by decide)) (by rfl) T.mgF__law_same T.kp__law_same B__law_same .nil pass0 (pa_cons (pe_meth (pe_dget (hu_of hr) (pv 0) pe_str (fun _ _ => rfl)) T.cl_Frames T.mt_Frames_empty G_Frames_empty (hr.mono (by decide)) B_Frames_empty .nil pass0 (pa_cons (pv 1) pa_nil)) (pa_cons pe_non pa_nil)))))))))
theorem b__law_resized {fd : FuncData} (F : Fun K "_law_resized" "_law_resized" s__law_resized a.f__law_resized fd) : Binds K fd ["side", "count"] [] := F.binds (ps := ["side", "count"]) fun _ _ _ _ _ _ us hl => match us, hl with | [_, _], _ => rfl
theorem ok__law_resized {fd : FuncData} (F : Fun K "_law_resized" "_law_resized" s__law_resized a.f__law_resized fd) (T : Txt K mg a) : FnOk P w K mg base CX0 6 a.f__law_resized fd ["side", "count"] (sp__law_resized K a) := by
  obtain ⟨fd_Frames_resize, F_Frames_resize⟩ := T.fn_Frames_resize
  have G_Frames_resize : FnOk P w K mg base (L2.CX P w) 3 a.f_Frames_resize fd_Frames_resize ["self", "count"] (sp_Frames_resize K a) := ok_Frames_resize F_Frames_resize T
  have B_Frames_resize := b_Frames_resize F_Frames_resize
  obtain ⟨fd__law_same, F__law_same⟩ := T.fn__law_same
  have G__law_same : FnOk P w K mg base CX0 4 a.f__law_same fd__law_same ["actual", "expected"] (sp__law_same K a 3) := ok__law_same F__law_same T 3
  have B__law_same := b__law_same F__law_same
  obtain ⟨fd__law_emptied, F__law_emptied⟩ := T.fn__law_emptied
  have G__law_emptied : FnOk P w K mg base CX0 5 a.f__law_emptied fd__law_emptied ["side", "frame"] (sp__law_emptied K a) := ok__law_emptied F__law_emptied T
  have B__law_emptied := b__law_emptied F__law_emptied
  refine F.ok sc__law_resized (fun vs H Q E h => by obtain ⟨x0, x1, rfl, h⟩ := h; rfl) (fun cdv A outer s H vs Q E hr h => ⟨t__law_resized K a, ?_, by obtain ⟨x0, x1, rfl, h⟩ := h; exact pure__law_resized T.toCl h⟩)
  exact (pss_cons (ps_set (i := 2) sc__law_resized.nd rfl (by first | exact Or.inl rfl | exact Or.inr rfl) (pe_dget (hu_of hr) (pv 0) pe_str (fun _ _ => rfl)))
      (pss_cons (ps_set (i := 3) sc__law_resized.nd rfl (by first | exact Or.inl rfl | exact Or.inr rfl) (pe_dget (hu_of hr) (pv 0) pe_str (fun _ _ => rfl)))
      (pss_cons (ps_set (i := 4) sc__law_resized.nd rfl (by first | exact Or.inl rfl | exact Or.inr rfl) pe_non)
      (pss_cons (ps_for PassesOwn.never (by rfl) (pi_range2 (by rfl) T.mg_range (pa_cons (pv 1) (pa_cons (pe_callB c_len (by rfl) T.mg_len (by decide +kernel) (pa_cons (pv 3) pa_nil)) pa_nil))) (pg_name (i := 5) sc__law_resized.nd rfl (by first | exact Or.inl rfl | exact Or.inr rfl)) (pss_one (ps_if (PW.pt (pw_and (pt_cmpR o_notN (pe_ix ix_list (pv 3) (pv 5) (fun _ _ => rfl)) pe_non (nomark _)) (pw_and1 (pt_cmpR o_isN (pv 4) pe_non (nomark _))))) (pss_one (ps_set (i := 4) sc__law_resized.nd rfl (by first | exact Or.inl rfl | exact Or.inr rfl) (pv 5))) pss_nil)))
      (pss_cons (ps_set (i := 6) sc__law_resized.nd rfl (by first | exact Or.inl rfl | exact Or.inr rfl) (pe_un un_neg pe_int))
      (pss_cutL (ps_try_as (i := 7) (tb := fun W => (tAsg (tMethE a.C_Frames "resize" (sp_Frames_resize K a) (WE W) (tVar 2) (tCons (tVar 1) tNil)) (gName 6))) (ts := fun xa xc xd => (tAsg (tTup (tCons (tC (.str "busy")) (tCons (tXf xa xc xd a.C_HostBusy "number" (tVar 7)) tNil))) (gName 6))) (Wout := (fun _ _ _ _ => False)) rfl rfl sc__law_resized.nd rfl rfl ⟨rfl, by decide, Or.inl T.mgC_HostBusy⟩ takes0
 (fun W pn xe tk hp => (pss_one (ps_set (i := 6) sc__law_resized.nd rfl (by first | exact Or.inl rfl | exact Or.inr rfl) (pe_methE (pv 2) T.cl_Frames T.mt_Frames_resize G_Frames_resize (hr.mono (by decide)) B_Frames_resize (fun σ => passAt tk σ) (pa_cons (pv 1) pa_nil)))))
 (fun xa oe xc xd pn hz hf => (pss_one (ps_set (i := 6) sc__law_resized.nd rfl (by first | exact Or.inl rfl | exact Or.inr rfl) (pe_tup (pa_cons pe_str (pa_cons (pe_xf T.xf_HostBusy T.nf_HostBusy_number hz hf (pv 7)) pa_nil))))))) (pss_cutL (ps_if (pt_cmpR o_notN (pv 4) pe_non (nomark _)) (pss_cons (ps_if (pt_not (pt_val (pe_call G__law_same (hr.mono (by decide)) (by rfl) T.mgF__law_same T.kp__law_same B__law_same .nil pass0 (pa_cons (pv 6) (pa_cons (pe_tup (pa_cons pe_str (pa_cons (pv 4) pa_nil))) pa_nil))))) (pss_one (ps_ret pe_bl)) pss_nil)
      (pss_cons (ps_for PassesOwn.never (by rfl) (pi_range1 (by rfl) T.mg_range (pa_cons (pe_op op_sub (pe_callB c_len (by rfl) T.mg_len (by decide +kernel) (pa_cons (pv 3) pa_nil)) (pv 1)) pa_nil)) (pg_name (i := 8) sc__law_resized.nd rfl (by first | exact Or.inl rfl | exact Or.inr rfl)) (pss_cons (ps_set (i := 5) sc__law_resized.nd rfl (by first | exact Or.inl rfl | exact Or.inr rfl) (pe_op op_sub (pe_op op_sub (pe_callB c_len (by rfl) T.mg_len (by decide +kernel) (pa_cons (pv 3) pa_nil)) pe_int) (pv 8)))
      (pss_one (ps_if (PW.pt (pw_and (pt_cmpR o_notN (pe_ix ix_list (pv 3) (pv 5) (fun _ _ => rfl)) pe_non (nomark _)) (pw_and1 (pt_not (pt_val (pe_call G__law_emptied (hr.mono (by decide)) (by rfl) T.mgF__law_emptied T.kp__law_emptied B__law_emptied .nil pass0 (pa_cons (pv 0) (pa_cons (pv 5) pa_nil)))))))) (pss_one (ps_ret pe_bl)) pss_nil))))
      (pss_one (ps_set (i := 6) sc__law_resized.nd rfl (by first | exact Or.inl rfl | exact Or.inr rfl) (pe_meth (pv 2) T.cl_Frames T.mt_Frames_resize G_Frames_resize (hr.mono (by decide)) B_Frames_resize .nil passL (pa_cons (pv 1) pa_nil)))))) pss_nil) (pss_cons (ps_for PassesOwn.never (by rfl) (pi_range1 (by rfl) T.mg_range (pa_cons pe_int pa_nil)) (pg_name (i := 8) sc__law_resized.nd rfl (by first | exact Or.inl rfl | exact Or.inr rfl)) (pss_one (ps_if (pt_cmpR op_gt (pe_callB c_len (by rfl) T.mg_len (by decide +kernel) (pa_cons (pv 3) pa_nil)) (pv 1) (nomark _)) (pss_one (ps_expr (pe_bm0 PySem.F.plainAttrs_list PySem.F.slot_list_pop PySem.F.type_list_pop mt_pop (pv 3)))) (pss_one (ps_if (pt_cmpR op_lt (pe_callB c_len (by rfl) T.mg_len (by decide +kernel) (pa_cons (pv 3) pa_nil)) (pv 1) (nomark _)) (pss_one (ps_expr (pe_bm PySem.F.plainAttrs_list PySem.F.slot_list_append PySem.F.type_list_append mt_append (pv 3) (pa_cons pe_non pa_nil)))) pss_nil)))))
      (pss_one (ps_ret (pe_call G__law_same (hr.mono (by decide)) (by rfl) T.mgF__law_same T.kp__law_same B__law_same .nil pass0 (pa_cons (pv 6) (pa_cons pe_non pa_nil)))))))))))))
theorem b__law_done {fd : FuncData} (F : Fun K "_law_done" "_law_done" s__law_done a.f__law_done fd) : Binds K fd ["side", "kind", "frame", "at", "word"] [] := F.binds (ps := ["side", "kind", "frame", "at", "word"]) fun _ _ _ _ _ _ us hl => match us, hl with | [_, _, _, _, _], _ => rfl
theorem ok__law_done {fd : FuncData} (F : Fun K "_law_done" "_law_done" s__law_done a.f__law_done fd) (T : Txt K mg a) : FnOk P w K mg base CX0 7 a.f__law_done fd ["side", "kind", "frame", "at", "word"] (sp__law_done K a) := by
  obtain ⟨fd__law_resized, F__law_resized⟩ := T.fn__law_resized
  have G__law_resized : FnOk P w K mg base CX0 6 a.f__law_resized fd__law_resized ["side", "count"] (sp__law_resized K a) := ok__law_resized F__law_resized T
  have B__law_resized := b__law_resized F__law_resized
  obtain ⟨fd__law_filled, F__law_filled⟩ := T.fn__law_filled
  have G__law_filled : FnOk P w K mg base CX0 5 a.f__law_filled fd__law_filled ["side", "frame", "word"] (sp__law_filled K a) := ok__law_filled F__law_filled T
  have B__law_filled := b__law_filled F__law_filled
  obtain ⟨fd__law_emptied, F__law_emptied⟩ := T.fn__law_emptied
  have G__law_emptied : FnOk P w K mg base CX0 5 a.f__law_emptied fd__law_emptied ["side", "frame"] (sp__law_emptied K a) := ok__law_emptied F__law_emptied T
  have B__law_emptied := b__law_emptied F__law_emptied
  obtain ⟨fd_Frames_word, F_Frames_word⟩ := T.fn_Frames_word
  have G_Frames_word : FnOk P w K mg base CX0 4 a.f_Frames_word fd_Frames_word ["self", "frame", "at"] (sp_Frames_word K a) := ok_Frames_word F_Frames_word T
  have B_Frames_word := b_Frames_word F_Frames_word
  obtain ⟨fd_Frames_words, F_Frames_words⟩ := T.fn_Frames_words
  have G_Frames_words : FnOk P w K mg base CX0 4 a.f_Frames_words fd_Frames_words ["self", "frame"] (sp_Frames_words K a) := ok_Frames_words F_Frames_words T
  have B_Frames_words := b_Frames_words F_Frames_words
  obtain ⟨fd_Frames_in_use, F_Frames_in_use⟩ := T.fn_Frames_in_use
  have G_Frames_in_use : FnOk P w K mg base CX0 2 a.f_Frames_in_use fd_Frames_in_use ["self", "frame"] (sp_Frames_in_use K a) := ok_Frames_in_use F_Frames_in_use T
  have B_Frames_in_use := b_Frames_in_use F_Frames_in_use
  obtain ⟨fd_Frames_size, F_Frames_size⟩ := T.fn_Frames_size
  have G_Frames_size : FnOk P w K mg base CX0 1 a.f_Frames_size fd_Frames_size ["self"] (sp_Frames_size K a) := ok_Frames_size F_Frames_size T
  have B_Frames_size := b_Frames_size F_Frames_size
  obtain ⟨fd__law_same, F__law_same⟩ := T.fn__law_same
  have G__law_same : FnOk P w K mg base CX0 4 a.f__law_same fd__law_same ["actual", "expected"] (sp__law_same K a 3) := ok__law_same F__law_same T 3
  have B__law_same := b__law_same F__law_same
  obtain ⟨fd_Frames_set_word, F_Frames_set_word⟩ := T.fn_Frames_set_word
  have G_Frames_set_word : FnOk P w K mg base CX0 4 a.f_Frames_set_word fd_Frames_set_word ["self", "frame", "at", "word"] (sp_Frames_set_word K a) := ok_Frames_set_word F_Frames_set_word T
  have B_Frames_set_word := b_Frames_set_word F_Frames_set_word
  obtain ⟨fd_Frames_touch, F_Frames_touch⟩ := T.fn_Frames_touch
  have G_Frames_touch : FnOk P w K mg base CX0 4 a.f_Frames_touch fd_Frames_touch ["self", "frame"] (sp_Frames_touch K a) := ok_Frames_touch F_Frames_touch T
  have B_Frames_touch := b_Frames_touch F_Frames_touch
  refine F.ok sc__law_done (fun vs H Q E h => by obtain ⟨x0, x1, x2, x3, x4, rfl, h⟩ := h; rfl) (fun cdv A outer s H vs Q E hr h => ⟨t__law_done K a, ?_, by obtain ⟨x0, x1, x2, x3, x4, rfl, h⟩ := h; exact pure__law_done T.toCl h⟩)
  exact (pss_cons (ps_set (i := 5) sc__law_done.nd rfl (by first | exact Or.inl rfl | exact Or.inr rfl) (pe_dget (hu_of hr) (pv 0) pe_str (fun _ _ => rfl)))
      (pss_cons (ps_set (i := 6) sc__law_done.nd rfl (by first | exact Or.inl rfl | exact Or.inr rfl) (pe_dget (hu_of hr) (pv 0) pe_str (fun _ _ => rfl)))
      (pss_cons (ps_set (i := 7) sc__law_done.nd rfl (by first | exact Or.inl rfl | exact Or.inr rfl) (pe_dget (hu_of hr) (pv 0) pe_str (fun _ _ => rfl)))
      (pss_cons (ps_set (i := 8) sc__law_done.nd rfl (by first | exact Or.inl rfl | exact Or.inr rfl) (pe_ix ix_list (pv 6) (pv 2) (fun _ _ => rfl)))
      (pss_cons (ps_if (pt_cmpR op_eq (pv 1) pe_int (nomark _)) (pss_cons (ps_set (i := 9) sc__law_done.nd rfl (by first | exact Or.inl rfl | exact Or.inr rfl) (pe_ix ix_list (pe_lst (pa_cons (pe_un un_neg pe_int) (pa_cons (pe_un un_neg pe_int) (pa_cons (pe_un un_neg pe_int) (pa_cons (pe_un un_neg pe_int) (pa_cons pe_int (pa_cons pe_int (pa_cons pe_int (pa_cons pe_int pa_nil))))))))) (pe_op op_mod (pe_callTy c_int (by rfl) T.mg_int (by decide +kernel) (pa_cons (pv 3) pa_nil)) pe_int) (fun _ _ => rfl)))
      (pss_one (ps_ret (pe_call G__law_resized (hr.mono (by decide)) (by rfl) T.mgF__law_resized T.kp__law_resized B__law_resized .nil pass0 (pa_cons (pv 0) (pa_cons (pe_callB (c_min2 rfl) (by rfl) T.mg_min (by decide +kernel) (pa_cons pe_int (pa_cons (pe_callB (c_max2 rfl) (by rfl) T.mg_max (by decide +kernel) (pa_cons pe_int (pa_cons (pe_op op_add (pe_callB c_len (by rfl) T.mg_len (by decide +kernel) (pa_cons (pv 6) pa_nil)) (pv 9)) pa_nil))) pa_nil))) pa_nil)))))) pss_nil)
      (pss_cons (ps_if (pt_cmpR o_isN (pv 8) pe_non (nomark _)) (pss_one (ps_ret (pe_call G__law_filled (hr.mono (by decide)) (by rfl) T.mgF__law_filled T.kp__law_filled B__law_filled .nil pass0 (pa_cons (pv 0) (pa_cons (pv 2) (pa_cons (pv 4) pa_nil)))))) pss_nil)
      (pss_cons (ps_if (pt_cmpR op_eq (pv 1) pe_int (nomark _)) (pss_one (ps_ret (pe_call G__law_emptied (hr.mono (by decide)) (by rfl) T.mgF__law_emptied T.kp__law_emptied B__law_emptied .nil pass0 (pa_cons (pv 0) (pa_cons (pv 2) pa_nil))))) pss_nil)
      (pss_cons (ps_if (pt_cmpR op_eq (pv 1) pe_int (nomark _)) (pss_cons (ps_set (i := 10) sc__law_done.nd rfl (by first | exact Or.inl rfl | exact Or.inr rfl) (pe_tup (pa_cons (pe_meth (pv 5) T.cl_Frames T.mt_Frames_word G_Frames_word (hr.mono (by decide)) B_Frames_word .nil pass0 (pa_cons (pv 2) (pa_cons (pv 3) pa_nil))) (pa_cons (pe_meth (pv 5) T.cl_Frames T.mt_Frames_words G_Frames_words (hr.mono (by decide)) B_Frames_words .nil pass0 (pa_cons (pv 2) pa_nil)) (pa_cons (pe_meth (pv 5) T.cl_Frames T.mt_Frames_in_use G_Frames_in_use (hr.mono (by decide)) B_Frames_in_use .nil pass0 (pa_cons (pv 2) pa_nil)) (pa_cons (pe_meth0 (pv 5) T.cl_Frames T.mt_Frames_size G_Frames_size (hr.mono (by decide)) B_Frames_size .nil pass0) pa_nil))))))
      (pss_one (ps_ret (pe_call G__law_same (hr.mono (by decide)) (by rfl) T.mgF__law_same T.kp__law_same B__law_same .nil pass0 (pa_cons (pv 10) (pa_cons (pe_tup (pa_cons (pe_ix ix_list (pv 8) (pv 3) (fun _ _ => rfl)) (pa_cons (pe_callTy c_tupOf (by rfl) T.mg_tuple (by decide +kernel) (pa_cons (pv 8) pa_nil)) (pa_cons pe_bl (pa_cons (pe_callB c_len (by rfl) T.mg_len (by decide +kernel) (pa_cons (pv 6) pa_nil)) pa_nil))))) pa_nil)))))) pss_nil)
      (pss_cons (ps_expr (pe_bm PySem.F.plainAttrs_list PySem.F.slot_list_remove PySem.F.type_list_remove mt_remove (pv 7) (pa_cons (pv 2) pa_nil)))
      (pss_cons (ps_expr (pe_bm PySem.F.plainAttrs_list PySem.F.slot_list_append PySem.F.type_list_append mt_append (pv 7) (pa_cons (pv 2) pa_nil)))
      (pss_cons (ps_if (pt_cmpR op_eq (pv 1) pe_int (nomark _)) (pss_cons (ps_asg (pv 4) (pg_sub (pv 8) (pv 3) set_list))
      (pss_one (ps_ret (pe_call G__law_same (hr.mono (by decide)) (by rfl) T.mgF__law_same T.kp__law_same B__law_same .nil pass0 (pa_cons (pe_meth (pv 5) T.cl_Frames T.mt_Frames_set_word G_Frames_set_word (hr.mono (by decide)) B_Frames_set_word .nil pass0 (pa_cons (pv 2) (pa_cons (pv 3) (pa_cons (pv 4) pa_nil)))) (pa_cons pe_non pa_nil)))))) pss_nil)
      (pss_one (ps_ret (pe_call G__law_same (hr.mono (by decide)) (by rfl) T.mgF__law_same T.kp__law_same B__law_same .nil pass0 (pa_cons (pe_meth (pv 5) T.cl_Frames T.mt_Frames_touch G_Frames_touch (hr.mono (by decide)) B_Frames_touch .nil pass0 (pa_cons (pv 2) pa_nil)) (pa_cons pe_non pa_nil))))))))))))))))
theorem b__law_agrees {fd : FuncData} (F : Fun K "_law_agrees" "_law_agrees" s__law_agrees a.f__law_agrees fd) : Binds K fd ["side", "whole"] [] := F.binds (ps := ["side", "whole"]) fun _ _ _ _ _ _ us hl => match us, hl with | [_, _], _ => rfl
theorem ok__law_agrees {fd : FuncData} (F : Fun K "_law_agrees" "_law_agrees" s__law_agrees a.f__law_agrees fd) (T : Txt K mg a) : FnOk P w K mg base CX0 5 a.f__law_agrees fd ["side", "whole"] (sp__law_agrees K a) := by
  obtain ⟨fd__law_same, F__law_same⟩ := T.fn__law_same
  have G__law_same : FnOk P w K mg base CX0 4 a.f__law_same fd__law_same ["actual", "expected"] (sp__law_same K a 3) := ok__law_same F__law_same T 3
  have B__law_same := b__law_same F__law_same
  obtain ⟨fd_Frames_oldest, F_Frames_oldest⟩ := T.fn_Frames_oldest
  have G_Frames_oldest : FnOk P w K mg base CX0 1 a.f_Frames_oldest fd_Frames_oldest ["self"] (sp_Frames_oldest K a) := ok_Frames_oldest F_Frames_oldest T
  have B_Frames_oldest := b_Frames_oldest F_Frames_oldest
  obtain ⟨fd_Frames_free_frame, F_Frames_free_frame⟩ := T.fn_Frames_free_frame
  have G_Frames_free_frame : FnOk P w K mg base CX0 1 a.f_Frames_free_frame fd_Frames_free_frame ["self"] (sp_Frames_free_frame K a) := ok_Frames_free_frame F_Frames_free_frame T
  have B_Frames_free_frame := b_Frames_free_frame F_Frames_free_frame
  obtain ⟨fd_Frames_order, F_Frames_order⟩ := T.fn_Frames_order
  have G_Frames_order : FnOk P w K mg base CX0 1 a.f_Frames_order fd_Frames_order ["self"] (sp_Frames_order K a) := ok_Frames_order F_Frames_order T
  have B_Frames_order := b_Frames_order F_Frames_order
  refine F.ok sc__law_agrees (fun vs H Q E h => by obtain ⟨x0, x1, rfl, h⟩ := h; rfl) (fun cdv A outer s H vs Q E hr h => ⟨t__law_agrees K a, ?_, by obtain ⟨x0, x1, rfl, h⟩ := h; exact pure__law_agrees T.toCl h⟩)
  exact (pss_cons (ps_set (i := 2) sc__law_agrees.nd rfl (by first | exact Or.inl rfl | exact Or.inr rfl) (pe_dget (hu_of hr) (pv 0) pe_str (fun _ _ => rfl)))
      (pss_cons (ps_set (i := 3) sc__law_agrees.nd rfl (by first | exact Or.inl rfl | exact Or.inr rfl) (pe_dget (hu_of hr) (pv 0) pe_str (fun _ _ => rfl)))
      (pss_cons (ps_set (i := 4) sc__law_agrees.nd rfl (by first | exact Or.inl rfl | exact Or.inr rfl) (pe_dget (hu_of hr) (pv 0) pe_str (fun _ _ => rfl)))
      (pss_cons (ps_set (i := 5) sc__law_agrees.nd rfl (by first | exact Or.inl rfl | exact Or.inr rfl) (pe_un un_neg pe_int))
      (pss_cutL (ps_if (pt_cmpR op_gt (pe_callB c_len (by rfl) T.mg_len (by decide +kernel) (pa_cons (pv 4) pa_nil)) pe_int (nomark _)) (pss_one (ps_set (i := 5) sc__law_agrees.nd rfl (by first | exact Or.inl rfl | exact Or.inr rfl) (pe_ix ix_list (pv 4) pe_int (fun _ _ => rfl)))) pss_nil) (pss_cons (ps_set (i := 6) sc__law_agrees.nd rfl (by first | exact Or.inl rfl | exact Or.inr rfl) (pe_un un_neg pe_int))
      (pss_cons (ps_for PassesOwn.never (by rfl) (pi_range1 (by rfl) T.mg_range (pa_cons (pe_callB c_len (by rfl) T.mg_len (by decide +kernel) (pa_cons (pv 3) pa_nil)) pa_nil)) (pg_name (i := 7) sc__law_agrees.nd rfl (by first | exact Or.inl rfl | exact Or.inr rfl)) (pss_one (ps_if (PW.pt (pw_and (pt_cmpR o_isN (pe_ix ix_list (pv 3) (pv 7) (fun _ _ => rfl)) pe_non (nomark _)) (pw_and1 (pt_cmpR op_lt (pv 6) pe_int (nomark _))))) (pss_one (ps_set (i := 6) sc__law_agrees.nd rfl (by first | exact Or.inl rfl | exact Or.inr rfl) (pv 7))) pss_nil)))
      (pss_cons (ps_if (pt_not (pt_val (pe_call G__law_same (hr.mono (by decide)) (by rfl) T.mgF__law_same T.kp__law_same B__law_same .nil pass0 (pa_cons (pe_tup (pa_cons (pe_meth0 (pv 2) T.cl_Frames T.mt_Frames_oldest G_Frames_oldest (hr.mono (by decide)) B_Frames_oldest .nil pass0) (pa_cons (pe_meth0 (pv 2) T.cl_Frames T.mt_Frames_free_frame G_Frames_free_frame (hr.mono (by decide)) B_Frames_free_frame .nil pass0) pa_nil))) (pa_cons (pe_tup (pa_cons (pv 5) (pa_cons (pv 6) pa_nil))) pa_nil))))) (pss_one (ps_ret pe_bl)) pss_nil)
      (pss_one (ps_ret (pe_or (pe_not (pv 1)) (pe_one (pe_call G__law_same (hr.mono (by decide)) (by rfl) T.mgF__law_same T.kp__law_same B__law_same .nil pass0 (pa_cons (pe_meth0 (pv 2) T.cl_Frames T.mt_Frames_order G_Frames_order (hr.mono (by decide)) B_Frames_order .nil pass0) (pa_cons (pe_callTy c_tupOf (by rfl) T.mg_tuple (by decide +kernel) (pa_cons (pv 4) pa_nil)) pa_nil)))))))))))))))
theorem b_law {fd : FuncData} (F : Fun K "law" "law" s_law a.f_law fd) : Binds K fd ["script"] [] := F.binds (ps := ["script"]) fun _ _ _ _ _ _ us hl => match us, hl with | [_], _ => rfl
theorem ok_law {fd : FuncData} (F : Fun K "law" "law" s_law a.f_law fd) (T : Txt K mg a) : FnOk P w K mg base CX0 8 a.f_law fd ["script"] (sp_law K a) := by
  obtain ⟨fd__law_row, F__law_row⟩ := T.fn__law_row
  have G__law_row : FnOk P w K mg base CX0 1 a.f__law_row fd__law_row ["cell", "count", "size"] (sp__law_row K a) := ok__law_row F__law_row T
  have B__law_row := b__law_row F__law_row
  obtain ⟨fd__law_cell, F__law_cell⟩ := T.fn__law_cell
  have G__law_cell : FnOk P w K mg base CX0 1 a.f__law_cell fd__law_cell ["script", "k"] (sp__law_cell K a) := ok__law_cell F__law_cell T
  have B__law_cell := b__law_cell F__law_cell
  obtain ⟨fd__law_begun, F__law_begun⟩ := T.fn__law_begun
  have G__law_begun : FnOk P w K mg base CX0 6 a.f__law_begun fd__law_begun ["size", "cell", "seed"] (sp__law_begun K a) := ok__law_begun F__law_begun T
  have B__law_begun := b__law_begun F__law_begun
  obtain ⟨fd__law_agrees, F__law_agrees⟩ := T.fn__law_agrees
  have G__law_agrees : FnOk P w K mg base CX0 5 a.f__law_agrees fd__law_agrees ["side", "whole"] (sp__law_agrees K a) := ok__law_agrees F__law_agrees T
  have B__law_agrees := b__law_agrees F__law_agrees
  obtain ⟨fd_thawed_frames, F_thawed_frames⟩ := T.fn_thawed_frames
  have G_thawed_frames : FnOk P w K mg base CX0 4 a.f_thawed_frames fd_thawed_frames ["value"] (sp_thawed_frames K a) := ok_thawed_frames F_thawed_frames T
  have B_thawed_frames := b_thawed_frames F_thawed_frames
  obtain ⟨fd_Frames_frozen, F_Frames_frozen⟩ := T.fn_Frames_frozen
  have G_Frames_frozen : FnOk P w K mg base CX0 2 a.f_Frames_frozen fd_Frames_frozen ["self"] (sp_Frames_frozen K a) := ok_Frames_frozen F_Frames_frozen T
  have B_Frames_frozen := b_Frames_frozen F_Frames_frozen
  obtain ⟨fd_Frames_touch, F_Frames_touch⟩ := T.fn_Frames_touch
  have G_Frames_touch : FnOk P w K mg base CX0 4 a.f_Frames_touch fd_Frames_touch ["self", "frame"] (sp_Frames_touch K a) := ok_Frames_touch F_Frames_touch T
  have B_Frames_touch := b_Frames_touch F_Frames_touch
  obtain ⟨fd__law_done, F__law_done⟩ := T.fn__law_done
  have G__law_done : FnOk P w K mg base CX0 7 a.f__law_done fd__law_done ["side", "kind", "frame", "at", "word"] (sp__law_done K a) := ok__law_done F__law_done T
  have B__law_done := b__law_done F__law_done
  obtain ⟨fd__law_same, F__law_same⟩ := T.fn__law_same
  have G__law_same : FnOk P w K mg base CX0 4 a.f__law_same fd__law_same ["actual", "expected"] (sp__law_same K a 3) := ok__law_same F__law_same T 3
  have B__law_same := b__law_same F__law_same
  obtain ⟨fd_Frames_words, F_Frames_words⟩ := T.fn_Frames_words
  have G_Frames_words : FnOk P w K mg base CX0 4 a.f_Frames_words fd_Frames_words ["self", "frame"] (sp_Frames_words K a) := ok_Frames_words F_Frames_words T
  have B_Frames_words := b_Frames_words F_Frames_words
  obtain ⟨fd_Frames_order, F_Frames_order⟩ := T.fn_Frames_order
  have G_Frames_order : FnOk P w K mg base CX0 1 a.f_Frames_order fd_Frames_order ["self"] (sp_Frames_order K a) := ok_Frames_order F_Frames_order T
  have B_Frames_order := b_Frames_order F_Frames_order
  refine F.ok sc_law (fun vs H Q E h => by obtain ⟨x0, rfl, h⟩ := h; rfl) (fun cdv A outer s H vs Q E hr h => ⟨t_law K a, ?_, by obtain ⟨x0, rfl, h⟩ := h; exact pure_law T.toCl h⟩)
  exact (pss_cons (ps_set (i := 1) sc_law.nd rfl (by first | exact Or.inl rfl | exact Or.inr rfl) (pe_call G__law_row (hr.mono (by decide)) (by rfl) T.mgF__law_row T.kp__law_row B__law_row .nil pass0 (pa_cons (pe_call G__law_cell (hr.mono (by decide)) (by rfl) T.mgF__law_cell T.kp__law_cell B__law_cell .nil pass0 (pa_cons (pv 0) (pa_cons pe_int pa_nil))) (pa_cons pe_int (pa_cons pe_int pa_nil)))))
      (pss_cons (ps_set (i := 2) sc_law.nd rfl (by first | exact Or.inl rfl | exact Or.inr rfl) (pe_lst (pa_cons (pe_op op_add pe_int (pe_op op_mod (pe_callTy c_int (by rfl) T.mg_int (by decide +kernel) (pa_cons (pe_ix ix_list (pv 1) pe_int (fun _ _ => rfl)) pa_nil)) pe_int)) (pa_cons (pe_op op_add pe_int (pe_op op_mod (pe_callTy c_int (by rfl) T.mg_int (by decide +kernel) (pa_cons (pe_ix ix_list (pv 1) pe_int (fun _ _ => rfl)) pa_nil)) pe_int)) pa_nil))))
      (pss_cons (ps_set (i := 3) sc_law.nd rfl (by first | exact Or.inl rfl | exact Or.inr rfl) (pe_lst pa_nil))
      (pss_cons (ps_for PassesOwn.never (by rfl) (pi_range1 (by rfl) T.mg_range (pa_cons pe_int pa_nil)) (pg_name (i := 4) sc_law.nd rfl (by first | exact Or.inl rfl | exact Or.inr rfl)) (pss_cons (ps_set (i := 5) sc_law.nd rfl (by first | exact Or.inl rfl | exact Or.inr rfl) (pe_call G__law_begun (hr.mono (by decide)) (by rfl) T.mgF__law_begun T.kp__law_begun B__law_begun .nil pass0 (pa_cons (pe_ix ix_list (pv 2) (pv 4) (fun _ _ => rfl)) (pa_cons (pe_call G__law_cell (hr.mono (by decide)) (by rfl) T.mgF__law_cell T.kp__law_cell B__law_cell .nil pass0 (pa_cons (pv 0) (pa_cons (pe_op op_add pe_int (pv 4)) pa_nil))) (pa_cons (pe_ix ix_list (pv 1) (pe_op op_add pe_int (pv 4)) (fun _ _ => rfl)) pa_nil)))))
      (pss_cons (ps_if (PW.pt (pw_or (pt_cmpR o_isN (pv 5) pe_non (nomark _)) (pw_or1 (pt_not (pt_val (pe_call G__law_agrees (hr.mono (by decide)) (by rfl) T.mgF__law_agrees T.kp__law_agrees B__law_agrees .nil pass0 (pa_cons (pv 5) (pa_cons pe_bl pa_nil)))))))) (pss_one (ps_ret pe_bl)) pss_nil)
      (pss_one (ps_expr (pe_bm PySem.F.plainAttrs_list PySem.F.slot_list_append PySem.F.type_list_append mt_append (pv 3) (pa_cons (pv 5) pa_nil)))))))
      (pss_cons (ps_set (i := 6) sc_law.nd rfl (by first | exact Or.inl rfl | exact Or.inr rfl) (pe_op op_add pe_int (pe_op op_mod (pe_callTy c_int (by rfl) T.mg_int (by decide +kernel) (pa_cons (pe_ix ix_list (pv 1) pe_int (fun _ _ => rfl)) pa_nil)) pe_int)))
      (pss_cons (ps_set (i := 7) sc_law.nd rfl (by first | exact Or.inl rfl | exact Or.inr rfl) (pe_call G__law_row (hr.mono (by decide)) (by rfl) T.mgF__law_row T.kp__law_row B__law_row .nil pass0 (pa_cons (pe_call G__law_cell (hr.mono (by decide)) (by rfl) T.mgF__law_cell T.kp__law_cell B__law_cell .nil pass0 (pa_cons (pv 0) (pa_cons pe_int pa_nil))) (pa_cons (pv 6) (pa_cons pe_int pa_nil)))))
      (pss_cons (ps_set (i := 8) sc_law.nd rfl (by first | exact Or.inl rfl | exact Or.inr rfl) pe_non)
      (pss_cons (ps_set (i := 9) sc_law.nd rfl (by first | exact Or.inl rfl | exact Or.inr rfl) (pe_tup pa_nil))
      (pss_cons (ps_for PassesOwn.never (by rfl) (pi_range1 (by rfl) T.mg_range (pa_cons (pv 6) pa_nil)) (pg_name (i := 4) sc_law.nd rfl (by first | exact Or.inl rfl | exact Or.inr rfl)) (pss_cutL (ps_if (pt_cmpR op_eq (pv 4) pe_int (nomark _)) (pss_cons (ps_set (i := 5) sc_law.nd rfl (by first | exact Or.inl rfl | exact Or.inr rfl) (pe_ix ix_list (pv 3) pe_int (fun _ _ => rfl)))
      (pss_cons (ps_set (i := 8) sc_law.nd rfl (by first | exact Or.inl rfl | exact Or.inr rfl) (pe_dget (hu_of hr) (pv 5) pe_str (fun _ _ => rfl)))
      (pss_cons (ps_set (i := 9) sc_law.nd rfl (by first | exact Or.inl rfl | exact Or.inr rfl) (RT.pe_tupRev (by rfl) (by rfl) T.mg_tuple (by rfl) T.mg_reversed (pe_dget (hu_of hr) (pv 5) pe_str (fun _ _ => rfl))))
      (pss_cons (ps_dput (hu_of hr) (pv 5) pe_str (pe_call G_thawed_frames (hr.mono (by decide)) (by rfl) T.mgF_thawed_frames T.kp_thawed_frames B_thawed_frames .nil pass0 (pa_cons (pe_meth0 (pv 8) T.cl_Frames T.mt_Frames_frozen G_Frames_frozen (hr.mono (by decide)) B_Frames_frozen .nil pass0) pa_nil)) rfl)
      (pss_one (ps_for PassesOwn.never (by rfl) (pi_tup (pv 9)) (pg_name (i := 10) sc_law.nd rfl (by first | exact Or.inl rfl | exact Or.inr rfl)) (pss_one (ps_expr (pe_meth (pv 8) T.cl_Frames T.mt_Frames_touch G_Frames_touch (hr.mono (by decide)) B_Frames_touch .nil pass0 (pa_cons (pv 10) pa_nil)))))))))) pss_nil) (pss_cons (ps_set (i := 11) sc_law.nd rfl (by first | exact Or.inl rfl | exact Or.inr rfl) (pe_ix ix_list (pv 7) (pv 4) (fun _ _ => rfl)))
      (pss_cons (ps_set (i := 5) sc_law.nd rfl (by first | exact Or.inl rfl | exact Or.inr rfl) (pe_ix ix_list (pv 3) (pe_callB (c_max2 rfl) (by rfl) T.mg_max (by decide +kernel) (pa_cons pe_int (pa_cons (pe_op op_sub (pe_op op_mod (pe_callTy c_int (by rfl) T.mg_int (by decide +kernel) (pa_cons (pe_op op_fdiv (pv 11) pe_int) pa_nil)) pe_int) pe_int) pa_nil))) (fun _ _ => rfl)))
      (pss_cons (ps_set (i := 10) sc_law.nd rfl (by first | exact Or.inl rfl | exact Or.inr rfl) (pe_op op_mod (pe_callTy c_int (by rfl) T.mg_int (by decide +kernel) (pa_cons (pe_op op_fdiv (pv 11) pe_int) pa_nil)) (pe_callB c_len (by rfl) T.mg_len (by decide +kernel) (pa_cons (pe_dget (hu_of hr) (pv 5) pe_str (fun _ _ => rfl)) pa_nil))))
      (pss_cons (ps_if (pt_not (pt_val (pe_call G__law_done (hr.mono (by decide)) (by rfl) T.mgF__law_done T.kp__law_done B__law_done .nil pass0 (pa_cons (pv 5) (pa_cons (pe_op op_mod (pe_callTy c_int (by rfl) T.mg_int (by decide +kernel) (pa_cons (pv 11) pa_nil)) pe_int) (pa_cons (pv 10) (pa_cons (pe_op op_mod (pe_callTy c_int (by rfl) T.mg_int (by decide +kernel) (pa_cons (pe_op op_fdiv (pv 11) pe_int) pa_nil)) pe_int) (pa_cons (pe_op op_mod (pe_callTy c_int (by rfl) T.mg_int (by decide +kernel) (pa_cons (pe_op op_fdiv (pv 11) pe_int) pa_nil)) pe_int) pa_nil)))))))) (pss_one (ps_ret pe_bl)) pss_nil)
      (pss_one (ps_if (pt_not (pt_val (pe_call G__law_agrees (hr.mono (by decide)) (by rfl) T.mgF__law_agrees T.kp__law_agrees B__law_agrees .nil pass0 (pa_cons (pv 5) (pa_cons (pe_cmpR op_eq (pe_op op_mod (pe_callTy c_int (by rfl) T.mg_int (by decide +kernel) (pa_cons (pv 4) pa_nil)) pe_int) pe_int (nomark _)) pa_nil))))) (pss_one (ps_ret pe_bl)) pss_nil))))))))
      (pss_cons (ps_for PassesOwn.never (by rfl) (pi_list (pv 3)) (pg_name (i := 5) sc_law.nd rfl (by first | exact Or.inl rfl | exact Or.inr rfl)) (pss_cons (ps_if (pt_not (pt_val (pe_call G__law_agrees (hr.mono (by decide)) (by rfl) T.mgF__law_agrees T.kp__law_agrees B__law_agrees .nil pass0 (pa_cons (pv 5) (pa_cons pe_bl pa_nil))))) (pss_one (ps_ret pe_bl)) pss_nil)
      (pss_one (ps_for PassesOwn.never (by rfl) (pi_list (pe_dget (hu_of hr) (pv 5) pe_str (fun _ _ => rfl))) (pg_name (i := 10) sc_law.nd rfl (by first | exact Or.inl rfl | exact Or.inr rfl)) (pss_one (ps_if (pt_not (pt_val (pe_call G__law_same (hr.mono (by decide)) (by rfl) T.mgF__law_same T.kp__law_same B__law_same .nil pass0 (pa_cons (pe_meth (pe_dget (hu_of hr) (pv 5) pe_str (fun _ _ => rfl)) T.cl_Frames T.mt_Frames_words G_Frames_words (hr.mono (by decide)) B_Frames_words .nil pass0 (pa_cons (pv 10) pa_nil)) (pa_cons (pe_callTy c_tupOf (by rfl) T.mg_tuple (by decide +kernel) (pa_cons (pe_ix ix_list (pe_dget (hu_of hr) (pv 5) pe_str (fun _ _ => rfl)) (pv 10) (fun _ _ => rfl)) pa_nil)) pa_nil))))) (pss_one (ps_ret pe_bl)) pss_nil))))))
      (pss_one (ps_ret (pe_call G__law_same (hr.mono (by decide)) (by rfl) T.mgF__law_same T.kp__law_same B__law_same .nil pass0 (pa_cons (pe_meth0 (pv 8) T.cl_Frames T.mt_Frames_order G_Frames_order (hr.mono (by decide)) B_Frames_order .nil pass0) (pa_cons (pv 9) pa_nil)))))))))))))))
end
end K60

namespace K60
open PySem L2 Lh
theorem all_mk {l : PySem.W.OpenLaw} {w : World} {K : PySem.W.Frag} {h : Heap} {mg : Str → Option Value} {fa : Addr} (X : K.In h) (G : h.Ns mainGlobals mg) (hfa : mg "law" = some (.ref fa))
    {C_HostBusy C_Frames : Addr} {f0 f1 f2 f3 f4 f5 f6 f7 f8 f9 f10 f11 f12 f13 f14 f15 f16 f17 f18 f19 f20 f21 f22 f23 f24 f25 f26 f27 f28 f29 f30 : Addr} {od0 an0 od1 an1 od2 an2 od3 an3 od4 an4 od5 an5 od6 an6 od7 an7 od8 an8 od9 an9 od10 an10 od11 an11 od12 an12 od13 an13 od14 an14 od15 an15 od16 an16 od17 an17 od18 an18 od19 an19 od20 an20 od21 an21 od22 an22 od23 an23 od24 an24 od25 an25 od26 an26 od27 an27 od28 an28 od29 an29 od30 an30 : Option Addr} {sl0 sl1 sl2 sl3 sl4 sl5 sl6 sl7 sl8 sl9 sl10 sl11 sl12 sl13 sl14 sl15 sl16 sl17 sl18 sl19 sl20 sl21 sl22 sl23 sl24 sl25 sl26 sl27 sl28 sl29 sl30 : Array (Option Value)} {oc0 kV0 dc0 pm0 cd0 ct0 oc1 kV1 dc1 pm1 cd1 ct1 oc2 kV2 dc2 pm2 cd2 ct2 oc3 kV3 dc3 pm3 cd3 ct3 oc4 kV4 dc4 pm4 cd4 ct4 oc5 kV5 dc5 pm5 cd5 ct5 oc6 kV6 dc6 pm6 cd6 ct6 oc7 kV7 dc7 pm7 cd7 ct7 oc8 kV8 dc8 pm8 cd8 ct8 oc9 kV9 dc9 pm9 cd9 ct9 oc10 kV10 dc10 pm10 cd10 ct10 oc11 kV11 dc11 pm11 cd11 ct11 oc12 kV12 dc12 pm12 cd12 ct12 oc13 kV13 dc13 pm13 cd13 ct13 oc14 kV14 dc14 pm14 cd14 ct14 oc15 kV15 dc15 pm15 cd15 ct15 oc16 kV16 dc16 pm16 cd16 ct16 oc17 kV17 dc17 pm17 cd17 ct17 oc18 kV18 dc18 pm18 cd18 ct18 oc19 kV19 dc19 pm19 cd19 ct19 oc20 kV20 dc20 pm20 cd20 ct20 oc21 kV21 dc21 pm21 cd21 ct21 oc22 kV22 dc22 pm22 cd22 ct22 oc23 kV23 dc23 pm23 cd23 ct23 oc24 kV24 dc24 pm24 cd24 ct24 oc25 kV25 dc25 pm25 cd25 ct25 oc26 kV26 dc26 pm26 cd26 ct26 oc27 kV27 dc27 pm27 cd27 ct27 oc28 kV28 dc28 pm28 cd28 ct28 oc29 kV29 dc29 pm29 cd29 ct29 oc30 kV30 dc30 pm30 cd30 ct30 : Value} {tk_PAGE tk_MOST_FRAMES : Tok} {HostBusy_nm HostBusy_q : Str} {HostBusy_N : Addr} {HostBusy_bs HostBusy_bm : List Value} {HostBusy_sn : List Str} {HostBusy_sub : List Value} {HostBusy_ab : Bool} {HostBusy_col : Option Bool} {HostBusy_dd : Option Addr} {HostBusy_m0 HostBusy_m1 HostBusy_m2 HostBusy_m3 HostBusy_m5 : Option Value}
    (aC_HostBusy : PySem.W.nsIn K mainGlobals "HostBusy" = some (some (.ref C_HostBusy)))
    (xL_HostBusy : K.lookup C_HostBusy = some (excClassObj HostBusy_nm HostBusy_q C_HostBusy HostBusy_N HostBusy_bs HostBusy_bm true HostBusy_sn HostBusy_sub HostBusy_ab HostBusy_col HostBusy_dd HostBusy_m0 HostBusy_m1 HostBusy_m2 HostBusy_m3 HostBusy_m5 "ValueError.__new__"))
    (xR_HostBusy : PySem.HandSPX.refsVE HostBusy_bm = true)
    (xs_HostBusy : PySem.W.findIn K (.ref C_HostBusy) "__setattr__" = some (some (.builtin "object.__setattr__")))
    (xg_HostBusy : PySem.W.findIn K (.ref C_HostBusy) "__getattribute__" = some (some (.builtin "BaseException.__getattribute__")))
    (xh_HostBusy : PySem.W.findIn K (.ref C_HostBusy) "__getattr__" = some none)
    (xi_HostBusy : PySem.W.findIn K (.ref C_HostBusy) "__init__" = some (some (.ref f0)))
    (xt_HostBusy : PySem.W.typeIn K (.ref f0) = some (.type "function"))
    (xk_HostBusy : PySem.W.keepIn K (.ref C_HostBusy) = true)
    (xe_HostBusy : PySem.W.subIn K (.ref C_HostBusy) (.type "BaseException") = some true)
    (xy_HostBusy : PySem.W.typeIn K (.ref C_HostBusy) = some (.type "type"))
    (xd_HostBusy : PySem.W.hasDictIn K C_HostBusy = true)
    (xc_HostBusy : PySem.W.isClsIn K C_HostBusy = true)
    (xz_HostBusy : PySem.W.subIn K (.ref C_HostBusy) (.ref C_HostBusy) = some true)
    (xn_HostBusy_number : PySem.W.findIn K (.ref C_HostBusy) "number" = some none)
    (l0 : K.lookup f0 = some ⟨oc0, od0, .func (PySem.W.fnOf "__init__" "HostBusy.__init__" (defArgs s_HostBusy___init__) (defBody s_HostBusy___init__) (defScope s_HostBusy___init__) .none kV0 dc0 pm0 an0 cd0 ct0), sl0⟩)
    (c0 : PySem.W.codeIn K cd0 "HostBusy.__init__" = true)
    (k0 : PySem.W.keepIn K (.ref f0) = true)
    (aC_Frames : PySem.W.nsIn K mainGlobals "Frames" = some (some (.ref C_Frames)))
    (pg_Frames : PySem.W.plainGet K C_Frames Str.empty = true)
    (hd_Frames : PySem.W.hasDictIn K C_Frames = true)
    (po_Frames : PySem.W.plainOver K C_Frames = true)
    (sa_Frames : PySem.W.findIn K (.ref C_Frames) "__setattr__" = some (some (.builtin "object.__setattr__")))
    (mk_Frames : PySem.W.makesIn K C_Frames = true)
    (kc_Frames : PySem.W.keepIn K (.ref C_Frames) = true)
    (na_Frames__contents : PySem.W.findIn K (.ref C_Frames) "_contents" = some none)
    (na_Frames__stamps : PySem.W.findIn K (.ref C_Frames) "_stamps" = some none)
    (na_Frames__latest : PySem.W.findIn K (.ref C_Frames) "_latest" = some none)
    (a2 : PySem.W.findIn K (.ref C_Frames) "__init__" = some (some (.ref f2)))
    (i2 : PySem.W.isFn K (.ref f2) = true)
    (l2 : K.lookup f2 = some ⟨oc2, od2, .func (PySem.W.fnOf "__init__" "Frames.__init__" (defArgs s_Frames___init__) (defBody s_Frames___init__) (defScope s_Frames___init__) .none kV2 dc2 pm2 an2 cd2 ct2), sl2⟩)
    (c2 : PySem.W.codeIn K cd2 "Frames.__init__" = true)
    (k2 : PySem.W.keepIn K (.ref f2) = true)
    (a3 : PySem.W.findIn K (.ref C_Frames) "size" = some (some (.ref f3)))
    (i3 : PySem.W.isFn K (.ref f3) = true)
    (l3 : K.lookup f3 = some ⟨oc3, od3, .func (PySem.W.fnOf "size" "Frames.size" (defArgs s_Frames_size) (defBody s_Frames_size) (defScope s_Frames_size) .none kV3 dc3 pm3 an3 cd3 ct3), sl3⟩)
    (c3 : PySem.W.codeIn K cd3 "Frames.size" = true)
    (k3 : PySem.W.keepIn K (.ref f3) = true)
    (a4 : PySem.W.findIn K (.ref C_Frames) "in_use" = some (some (.ref f4)))
    (i4 : PySem.W.isFn K (.ref f4) = true)
    (l4 : K.lookup f4 = some ⟨oc4, od4, .func (PySem.W.fnOf "in_use" "Frames.in_use" (defArgs s_Frames_in_use) (defBody s_Frames_in_use) (defScope s_Frames_in_use) .none kV4 dc4 pm4 an4 cd4 ct4), sl4⟩)
    (c4 : PySem.W.codeIn K cd4 "Frames.in_use" = true)
    (k4 : PySem.W.keepIn K (.ref f4) = true)
    (a5 : PySem.W.findIn K (.ref C_Frames) "_check" = some (some (.ref f5)))
    (i5 : PySem.W.isFn K (.ref f5) = true)
    (l5 : K.lookup f5 = some ⟨oc5, od5, .func (PySem.W.fnOf "_check" "Frames._check" (defArgs s_Frames__check) (defBody s_Frames__check) (defScope s_Frames__check) .none kV5 dc5 pm5 an5 cd5 ct5), sl5⟩)
    (c5 : PySem.W.codeIn K cd5 "Frames._check" = true)
    (k5 : PySem.W.keepIn K (.ref f5) = true)
    (a6 : PySem.W.findIn K (.ref C_Frames) "_use" = some (some (.ref f6)))
    (i6 : PySem.W.isFn K (.ref f6) = true)
    (l6 : K.lookup f6 = some ⟨oc6, od6, .func (PySem.W.fnOf "_use" "Frames._use" (defArgs s_Frames__use) (defBody s_Frames__use) (defScope s_Frames__use) .none kV6 dc6 pm6 an6 cd6 ct6), sl6⟩)
    (c6 : PySem.W.codeIn K cd6 "Frames._use" = true)
    (k6 : PySem.W.keepIn K (.ref f6) = true)
    (a7 : PySem.W.findIn K (.ref C_Frames) "free_frame" = some (some (.ref f7)))
    (i7 : PySem.W.isFn K (.ref f7) = true)
    (l7 : K.lookup f7 = some ⟨oc7, od7, .func (PySem.W.fnOf "free_frame" "Frames.free_frame" (defArgs s_Frames_free_frame) (defBody s_Frames_free_frame) (defScope s_Frames_free_frame) .none kV7 dc7 pm7 an7 cd7 ct7), sl7⟩)
    (c7 : PySem.W.codeIn K cd7 "Frames.free_frame" = true)
    (k7 : PySem.W.keepIn K (.ref f7) = true)
    (a8 : PySem.W.findIn K (.ref C_Frames) "order" = some (some (.ref f8)))
    (i8 : PySem.W.isFn K (.ref f8) = true)
    (l8 : K.lookup f8 = some ⟨oc8, od8, .func (PySem.W.fnOf "order" "Frames.order" (defArgs s_Frames_order) (defBody s_Frames_order) (defScope s_Frames_order) .none kV8 dc8 pm8 an8 cd8 ct8), sl8⟩)
    (c8 : PySem.W.codeIn K cd8 "Frames.order" = true)
    (k8 : PySem.W.keepIn K (.ref f8) = true)
    (a9 : PySem.W.findIn K (.ref C_Frames) "oldest" = some (some (.ref f9)))
    (i9 : PySem.W.isFn K (.ref f9) = true)
    (l9 : K.lookup f9 = some ⟨oc9, od9, .func (PySem.W.fnOf "oldest" "Frames.oldest" (defArgs s_Frames_oldest) (defBody s_Frames_oldest) (defScope s_Frames_oldest) .none kV9 dc9 pm9 an9 cd9 ct9), sl9⟩)
    (c9 : PySem.W.codeIn K cd9 "Frames.oldest" = true)
    (k9 : PySem.W.keepIn K (.ref f9) = true)
    (a10 : PySem.W.findIn K (.ref C_Frames) "fill" = some (some (.ref f10)))
    (i10 : PySem.W.isFn K (.ref f10) = true)
    (l10 : K.lookup f10 = some ⟨oc10, od10, .func (PySem.W.fnOf "fill" "Frames.fill" (defArgs s_Frames_fill) (defBody s_Frames_fill) (defScope s_Frames_fill) .none kV10 dc10 pm10 an10 cd10 ct10), sl10⟩)
    (c10 : PySem.W.codeIn K cd10 "Frames.fill" = true)
    (k10 : PySem.W.keepIn K (.ref f10) = true)
    (a11 : PySem.W.findIn K (.ref C_Frames) "words" = some (some (.ref f11)))
    (i11 : PySem.W.isFn K (.ref f11) = true)
    (l11 : K.lookup f11 = some ⟨oc11, od11, .func (PySem.W.fnOf "words" "Frames.words" (defArgs s_Frames_words) (defBody s_Frames_words) (defScope s_Frames_words) .none kV11 dc11 pm11 an11 cd11 ct11), sl11⟩)
    (c11 : PySem.W.codeIn K cd11 "Frames.words" = true)
    (k11 : PySem.W.keepIn K (.ref f11) = true)
    (a12 : PySem.W.findIn K (.ref C_Frames) "word" = some (some (.ref f12)))
    (i12 : PySem.W.isFn K (.ref f12) = true)
    (l12 : K.lookup f12 = some ⟨oc12, od12, .func (PySem.W.fnOf "word" "Frames.word" (defArgs s_Frames_word) (defBody s_Frames_word) (defScope s_Frames_word) .none kV12 dc12 pm12 an12 cd12 ct12), sl12⟩)
    (c12 : PySem.W.codeIn K cd12 "Frames.word" = true)
    (k12 : PySem.W.keepIn K (.ref f12) = true)
    (a13 : PySem.W.findIn K (.ref C_Frames) "set_word" = some (some (.ref f13)))
    (i13 : PySem.W.isFn K (.ref f13) = true)
    (l13 : K.lookup f13 = some ⟨oc13, od13, .func (PySem.W.fnOf "set_word" "Frames.set_word" (defArgs s_Frames_set_word) (defBody s_Frames_set_word) (defScope s_Frames_set_word) .none kV13 dc13 pm13 an13 cd13 ct13), sl13⟩)
    (c13 : PySem.W.codeIn K cd13 "Frames.set_word" = true)
    (k13 : PySem.W.keepIn K (.ref f13) = true)
    (a14 : PySem.W.findIn K (.ref C_Frames) "touch" = some (some (.ref f14)))
    (i14 : PySem.W.isFn K (.ref f14) = true)
    (l14 : K.lookup f14 = some ⟨oc14, od14, .func (PySem.W.fnOf "touch" "Frames.touch" (defArgs s_Frames_touch) (defBody s_Frames_touch) (defScope s_Frames_touch) .none kV14 dc14 pm14 an14 cd14 ct14), sl14⟩)
    (c14 : PySem.W.codeIn K cd14 "Frames.touch" = true)
    (k14 : PySem.W.keepIn K (.ref f14) = true)
    (a15 : PySem.W.findIn K (.ref C_Frames) "empty" = some (some (.ref f15)))
    (i15 : PySem.W.isFn K (.ref f15) = true)
    (l15 : K.lookup f15 = some ⟨oc15, od15, .func (PySem.W.fnOf "empty" "Frames.empty" (defArgs s_Frames_empty) (defBody s_Frames_empty) (defScope s_Frames_empty) .none kV15 dc15 pm15 an15 cd15 ct15), sl15⟩)
    (c15 : PySem.W.codeIn K cd15 "Frames.empty" = true)
    (k15 : PySem.W.keepIn K (.ref f15) = true)
    (a16 : PySem.W.findIn K (.ref C_Frames) "resize" = some (some (.ref f16)))
    (i16 : PySem.W.isFn K (.ref f16) = true)
    (l16 : K.lookup f16 = some ⟨oc16, od16, .func (PySem.W.fnOf "resize" "Frames.resize" (defArgs s_Frames_resize) (defBody s_Frames_resize) (defScope s_Frames_resize) .none kV16 dc16 pm16 an16 cd16 ct16), sl16⟩)
    (c16 : PySem.W.codeIn K cd16 "Frames.resize" = true)
    (k16 : PySem.W.keepIn K (.ref f16) = true)
    (a17 : PySem.W.findIn K (.ref C_Frames) "frozen" = some (some (.ref f17)))
    (i17 : PySem.W.isFn K (.ref f17) = true)
    (l17 : K.lookup f17 = some ⟨oc17, od17, .func (PySem.W.fnOf "frozen" "Frames.frozen" (defArgs s_Frames_frozen) (defBody s_Frames_frozen) (defScope s_Frames_frozen) .none kV17 dc17 pm17 an17 cd17 ct17), sl17⟩)
    (c17 : PySem.W.codeIn K cd17 "Frames.frozen" = true)
    (k17 : PySem.W.keepIn K (.ref f17) = true)
    (a1 : PySem.W.nsIn K mainGlobals "check_range" = some (some (.ref f1)))
    (l1 : K.lookup f1 = some ⟨oc1, od1, .func (PySem.W.fnOf "check_range" "check_range" (defArgs s_check_range) (defBody s_check_range) (defScope s_check_range) .none kV1 dc1 pm1 an1 cd1 ct1), sl1⟩)
    (c1 : PySem.W.codeIn K cd1 "check_range" = true)
    (k1 : PySem.W.keepIn K (.ref f1) = true)
    (a18 : PySem.W.nsIn K mainGlobals "thawed_frames" = some (some (.ref f18)))
    (l18 : K.lookup f18 = some ⟨oc18, od18, .func (PySem.W.fnOf "thawed_frames" "thawed_frames" (defArgs s_thawed_frames) (defBody s_thawed_frames) (defScope s_thawed_frames) .none kV18 dc18 pm18 an18 cd18 ct18), sl18⟩)
    (c18 : PySem.W.codeIn K cd18 "thawed_frames" = true)
    (k18 : PySem.W.keepIn K (.ref f18) = true)
    (a19 : PySem.W.nsIn K mainGlobals "_law_cell" = some (some (.ref f19)))
    (l19 : K.lookup f19 = some ⟨oc19, od19, .func (PySem.W.fnOf "_law_cell" "_law_cell" (defArgs s__law_cell) (defBody s__law_cell) (defScope s__law_cell) .none kV19 dc19 pm19 an19 cd19 ct19), sl19⟩)
    (c19 : PySem.W.codeIn K cd19 "_law_cell" = true)
    (k19 : PySem.W.keepIn K (.ref f19) = true)
    (a20 : PySem.W.nsIn K mainGlobals "_law_row" = some (some (.ref f20)))
    (l20 : K.lookup f20 = some ⟨oc20, od20, .func (PySem.W.fnOf "_law_row" "_law_row" (defArgs s__law_row) (defBody s__law_row) (defScope s__law_row) .none kV20 dc20 pm20 an20 cd20 ct20), sl20⟩)
    (c20 : PySem.W.codeIn K cd20 "_law_row" = true)
    (k20 : PySem.W.keepIn K (.ref f20) = true)
    (a21 : PySem.W.nsIn K mainGlobals "_law_same" = some (some (.ref f21)))
    (l21 : K.lookup f21 = some ⟨oc21, od21, .func (PySem.W.fnOf "_law_same" "_law_same" (defArgs s__law_same) (defBody s__law_same) (defScope s__law_same) .none kV21 dc21 pm21 an21 cd21 ct21), sl21⟩)
    (c21 : PySem.W.codeIn K cd21 "_law_same" = true)
    (k21 : PySem.W.keepIn K (.ref f21) = true)
    (a22 : PySem.W.nsIn K mainGlobals "_law_shuffled" = some (some (.ref f22)))
    (l22 : K.lookup f22 = some ⟨oc22, od22, .func (PySem.W.fnOf "_law_shuffled" "_law_shuffled" (defArgs s__law_shuffled) (defBody s__law_shuffled) (defScope s__law_shuffled) .none kV22 dc22 pm22 an22 cd22 ct22), sl22⟩)
    (c22 : PySem.W.codeIn K cd22 "_law_shuffled" = true)
    (k22 : PySem.W.keepIn K (.ref f22) = true)
    (a23 : PySem.W.nsIn K mainGlobals "_law_content" = some (some (.ref f23)))
    (l23 : K.lookup f23 = some ⟨oc23, od23, .func (PySem.W.fnOf "_law_content" "_law_content" (defArgs s__law_content) (defBody s__law_content) (defScope s__law_content) .none kV23 dc23 pm23 an23 cd23 ct23), sl23⟩)
    (c23 : PySem.W.codeIn K cd23 "_law_content" = true)
    (k23 : PySem.W.keepIn K (.ref f23) = true)
    (a24 : PySem.W.nsIn K mainGlobals "_law_filled" = some (some (.ref f24)))
    (l24 : K.lookup f24 = some ⟨oc24, od24, .func (PySem.W.fnOf "_law_filled" "_law_filled" (defArgs s__law_filled) (defBody s__law_filled) (defScope s__law_filled) .none kV24 dc24 pm24 an24 cd24 ct24), sl24⟩)
    (c24 : PySem.W.codeIn K cd24 "_law_filled" = true)
    (k24 : PySem.W.keepIn K (.ref f24) = true)
    (a25 : PySem.W.nsIn K mainGlobals "_law_begun" = some (some (.ref f25)))
    (l25 : K.lookup f25 = some ⟨oc25, od25, .func (PySem.W.fnOf "_law_begun" "_law_begun" (defArgs s__law_begun) (defBody s__law_begun) (defScope s__law_begun) .none kV25 dc25 pm25 an25 cd25 ct25), sl25⟩)
    (c25 : PySem.W.codeIn K cd25 "_law_begun" = true)
    (k25 : PySem.W.keepIn K (.ref f25) = true)
    (a26 : PySem.W.nsIn K mainGlobals "_law_emptied" = some (some (.ref f26)))
    (l26 : K.lookup f26 = some ⟨oc26, od26, .func (PySem.W.fnOf "_law_emptied" "_law_emptied" (defArgs s__law_emptied) (defBody s__law_emptied) (defScope s__law_emptied) .none kV26 dc26 pm26 an26 cd26 ct26), sl26⟩)
    (c26 : PySem.W.codeIn K cd26 "_law_emptied" = true)
    (k26 : PySem.W.keepIn K (.ref f26) = true)
    (a27 : PySem.W.nsIn K mainGlobals "_law_resized" = some (some (.ref f27)))
    (l27 : K.lookup f27 = some ⟨oc27, od27, .func (PySem.W.fnOf "_law_resized" "_law_resized" (defArgs s__law_resized) (defBody s__law_resized) (defScope s__law_resized) .none kV27 dc27 pm27 an27 cd27 ct27), sl27⟩)
    (c27 : PySem.W.codeIn K cd27 "_law_resized" = true)
    (k27 : PySem.W.keepIn K (.ref f27) = true)
    (a28 : PySem.W.nsIn K mainGlobals "_law_done" = some (some (.ref f28)))
    (l28 : K.lookup f28 = some ⟨oc28, od28, .func (PySem.W.fnOf "_law_done" "_law_done" (defArgs s__law_done) (defBody s__law_done) (defScope s__law_done) .none kV28 dc28 pm28 an28 cd28 ct28), sl28⟩)
    (c28 : PySem.W.codeIn K cd28 "_law_done" = true)
    (k28 : PySem.W.keepIn K (.ref f28) = true)
    (a29 : PySem.W.nsIn K mainGlobals "_law_agrees" = some (some (.ref f29)))
    (l29 : K.lookup f29 = some ⟨oc29, od29, .func (PySem.W.fnOf "_law_agrees" "_law_agrees" (defArgs s__law_agrees) (defBody s__law_agrees) (defScope s__law_agrees) .none kV29 dc29 pm29 an29 cd29 ct29), sl29⟩)
    (c29 : PySem.W.codeIn K cd29 "_law_agrees" = true)
    (k29 : PySem.W.keepIn K (.ref f29) = true)
    (a30 : PySem.W.nsIn K mainGlobals "law" = some (some (.ref f30)))
    (l30 : K.lookup f30 = some ⟨oc30, od30, .func (PySem.W.fnOf "law" "law" (defArgs s_law) (defBody s_law) (defScope s_law) .none kV30 dc30 pm30 an30 cd30 ct30), sl30⟩)
    (c30 : PySem.W.codeIn K cd30 "law" = true)
    (k30 : PySem.W.keepIn K (.ref f30) = true)
    (z_abs : PySem.W.nsIn K mainGlobals "abs" = some none)
    (z_bool : PySem.W.nsIn K mainGlobals "bool" = some none)
    (z_enumerate : PySem.W.nsIn K mainGlobals "enumerate" = some none)
    (z_int : PySem.W.nsIn K mainGlobals "int" = some none)
    (z_isinstance : PySem.W.nsIn K mainGlobals "isinstance" = some none)
    (z_len : PySem.W.nsIn K mainGlobals "len" = some none)
    (z_list : PySem.W.nsIn K mainGlobals "list" = some none)
    (z_max : PySem.W.nsIn K mainGlobals "max" = some none)
    (z_min : PySem.W.nsIn K mainGlobals "min" = some none)
    (z_range : PySem.W.nsIn K mainGlobals "range" = some none)
    (z_reversed : PySem.W.nsIn K mainGlobals "reversed" = some none)
    (z_sorted : PySem.W.nsIn K mainGlobals "sorted" = some none)
    (z_str : PySem.W.nsIn K mainGlobals "str" = some none)
    (z_tuple : PySem.W.nsIn K mainGlobals "tuple" = some none)
    (g_PAGE : PySem.W.nsIn K mainGlobals "PAGE" = some (some (.int 16 tk_PAGE)))
    (g_MOST_FRAMES : PySem.W.nsIn K mainGlobals "MOST_FRAMES" = some (some (.int 48 tk_MOST_FRAMES))) :
    ∃ fd : FuncData, (∀ (s : Shared) (v : Value), BindsTo s fd ⟨[v], []⟩ [("script", v)]) ∧ ∀ base : Heap, K.In base → base.Ns mainGlobals mg → FnOk l.prog w K mg base CX0 8 fa fd ["script"] (sp1 (prLaw K)) := by
  have e := hfa.symm.trans (PySem.W.mg_of X G a30)
  cases e
  have C : Cl K { C_HostBusy := C_HostBusy, C_Frames := C_Frames, f_HostBusy___init__ := f0, f_check_range := f1, f_Frames___init__ := f2, f_Frames_size := f3, f_Frames_in_use := f4, f_Frames__check := f5, f_Frames__use := f6, f_Frames_free_frame := f7, f_Frames_order := f8, f_Frames_oldest := f9, f_Frames_fill := f10, f_Frames_words := f11, f_Frames_word := f12, f_Frames_set_word := f13, f_Frames_touch := f14, f_Frames_empty := f15, f_Frames_resize := f16, f_Frames_frozen := f17, f_thawed_frames := f18, f__law_cell := f19, f__law_row := f20, f__law_same := f21, f__law_shuffled := f22, f__law_content := f23, f__law_filled := f24, f__law_begun := f25, f__law_emptied := f26, f__law_resized := f27, f__law_done := f28, f__law_agrees := f29, f_law := fa } := {
    ok := trivial,
    oex_HostBusy := ⟨⟨_, _, _, _, _, _, _, _, _, _, _, _, _, _, _, xL_HostBusy, xR_HostBusy⟩, xs_HostBusy, xe_HostBusy, xy_HostBusy, xk_HostBusy⟩,
    xf_HostBusy := ⟨xg_HostBusy, xh_HostBusy, xe_HostBusy, xd_HostBusy⟩,
    nf_HostBusy_number := xn_HostBusy_number,
    ex_HostBusy := Lh.exm_self xe_HostBusy xc_HostBusy xy_HostBusy xz_HostBusy,
    cl_Frames := ⟨pg_Frames, hd_Frames, po_Frames, sa_Frames⟩,
    na_Frames__contents := na_Frames__contents,
    na_Frames__stamps := na_Frames__stamps,
    na_Frames__latest := na_Frames__latest }
  have T : Txt K mg { C_HostBusy := C_HostBusy, C_Frames := C_Frames, f_HostBusy___init__ := f0, f_check_range := f1, f_Frames___init__ := f2, f_Frames_size := f3, f_Frames_in_use := f4, f_Frames__check := f5, f_Frames__use := f6, f_Frames_free_frame := f7, f_Frames_order := f8, f_Frames_oldest := f9, f_Frames_fill := f10, f_Frames_words := f11, f_Frames_word := f12, f_Frames_set_word := f13, f_Frames_touch := f14, f_Frames_empty := f15, f_Frames_resize := f16, f_Frames_frozen := f17, f_thawed_frames := f18, f__law_cell := f19, f__law_row := f20, f__law_same := f21, f__law_shuffled := f22, f__law_content := f23, f__law_filled := f24, f__law_begun := f25, f__law_emptied := f26, f__law_resized := f27, f__law_done := f28, f__law_agrees := f29, f_law := fa } := {
    toCl := C,
    mgC_HostBusy := PySem.W.mg_of X G aC_HostBusy,
    ii_HostBusy := xi_HostBusy,
    ti_HostBusy := xt_HostBusy,
    fn_HostBusy___init__ := ⟨_, fun_mk (st := s_HostBusy___init__) l0 c0 k0⟩,
    mgC_Frames := PySem.W.mg_of X G aC_Frames,
    fn_Frames___init__ := ⟨_, fun_mk (st := s_Frames___init__) l2 c2 k2⟩,
    mk_Frames := ⟨mk_Frames, a2, i2, kc_Frames⟩,
    fn_Frames_size := ⟨_, fun_mk (st := s_Frames_size) l3 c3 k3⟩,
    mt_Frames_size := ⟨a3, i3, k3⟩,
    fn_Frames_in_use := ⟨_, fun_mk (st := s_Frames_in_use) l4 c4 k4⟩,
    mt_Frames_in_use := ⟨a4, i4, k4⟩,
    fn_Frames__check := ⟨_, fun_mk (st := s_Frames__check) l5 c5 k5⟩,
    mt_Frames__check := ⟨a5, i5, k5⟩,
    fn_Frames__use := ⟨_, fun_mk (st := s_Frames__use) l6 c6 k6⟩,
    mt_Frames__use := ⟨a6, i6, k6⟩,
    fn_Frames_free_frame := ⟨_, fun_mk (st := s_Frames_free_frame) l7 c7 k7⟩,
    mt_Frames_free_frame := ⟨a7, i7, k7⟩,
    fn_Frames_order := ⟨_, fun_mk (st := s_Frames_order) l8 c8 k8⟩,
    mt_Frames_order := ⟨a8, i8, k8⟩,
    fn_Frames_oldest := ⟨_, fun_mk (st := s_Frames_oldest) l9 c9 k9⟩,
    mt_Frames_oldest := ⟨a9, i9, k9⟩,
    fn_Frames_fill := ⟨_, fun_mk (st := s_Frames_fill) l10 c10 k10⟩,
    mt_Frames_fill := ⟨a10, i10, k10⟩,
    fn_Frames_words := ⟨_, fun_mk (st := s_Frames_words) l11 c11 k11⟩,
    mt_Frames_words := ⟨a11, i11, k11⟩,
    fn_Frames_word := ⟨_, fun_mk (st := s_Frames_word) l12 c12 k12⟩,
    mt_Frames_word := ⟨a12, i12, k12⟩,
    fn_Frames_set_word := ⟨_, fun_mk (st := s_Frames_set_word) l13 c13 k13⟩,
    mt_Frames_set_word := ⟨a13, i13, k13⟩,
    fn_Frames_touch := ⟨_, fun_mk (st := s_Frames_touch) l14 c14 k14⟩,
    mt_Frames_touch := ⟨a14, i14, k14⟩,
    fn_Frames_empty := ⟨_, fun_mk (st := s_Frames_empty) l15 c15 k15⟩,
    mt_Frames_empty := ⟨a15, i15, k15⟩,
    fn_Frames_resize := ⟨_, fun_mk (st := s_Frames_resize) l16 c16 k16⟩,
    mt_Frames_resize := ⟨a16, i16, k16⟩,
    fn_Frames_frozen := ⟨_, fun_mk (st := s_Frames_frozen) l17 c17 k17⟩,
    mt_Frames_frozen := ⟨a17, i17, k17⟩,
    mgF_check_range := PySem.W.mg_of X G a1,
    kp_check_range := k1,
    fn_check_range := ⟨_, fun_mk (st := s_check_range) l1 c1 k1⟩,
    mgF_thawed_frames := PySem.W.mg_of X G a18,
    kp_thawed_frames := k18,
    fn_thawed_frames := ⟨_, fun_mk (st := s_thawed_frames) l18 c18 k18⟩,
    mgF__law_cell := PySem.W.mg_of X G a19,
    kp__law_cell := k19,
    fn__law_cell := ⟨_, fun_mk (st := s__law_cell) l19 c19 k19⟩,
    mgF__law_row := PySem.W.mg_of X G a20,
    kp__law_row := k20,
    fn__law_row := ⟨_, fun_mk (st := s__law_row) l20 c20 k20⟩,
    mgF__law_same := PySem.W.mg_of X G a21,
    kp__law_same := k21,
    fn__law_same := ⟨_, fun_mk (st := s__law_same) l21 c21 k21⟩,
    mgF__law_shuffled := PySem.W.mg_of X G a22,
    kp__law_shuffled := k22,
    fn__law_shuffled := ⟨_, fun_mk (st := s__law_shuffled) l22 c22 k22⟩,
    mgF__law_content := PySem.W.mg_of X G a23,
    kp__law_content := k23,
    fn__law_content := ⟨_, fun_mk (st := s__law_content) l23 c23 k23⟩,
    mgF__law_filled := PySem.W.mg_of X G a24,
    kp__law_filled := k24,
    fn__law_filled := ⟨_, fun_mk (st := s__law_filled) l24 c24 k24⟩,
    mgF__law_begun := PySem.W.mg_of X G a25,
    kp__law_begun := k25,
    fn__law_begun := ⟨_, fun_mk (st := s__law_begun) l25 c25 k25⟩,
    mgF__law_emptied := PySem.W.mg_of X G a26,
    kp__law_emptied := k26,
    fn__law_emptied := ⟨_, fun_mk (st := s__law_emptied) l26 c26 k26⟩,
    mgF__law_resized := PySem.W.mg_of X G a27,
    kp__law_resized := k27,
    fn__law_resized := ⟨_, fun_mk (st := s__law_resized) l27 c27 k27⟩,
    mgF__law_done := PySem.W.mg_of X G a28,
    kp__law_done := k28,
    fn__law_done := ⟨_, fun_mk (st := s__law_done) l28 c28 k28⟩,
    mgF__law_agrees := PySem.W.mg_of X G a29,
    kp__law_agrees := k29,
    fn__law_agrees := ⟨_, fun_mk (st := s__law_agrees) l29 c29 k29⟩,
    mgF_law := PySem.W.mg_of X G a30,
    kp_law := k30,
    fn_law := ⟨_, fun_mk (st := s_law) l30 c30 k30⟩,
    mg_abs := PySem.W.mg_none_of X G z_abs,
    mg_bool := PySem.W.mg_none_of X G z_bool,
    mg_enumerate := PySem.W.mg_none_of X G z_enumerate,
    mg_int := PySem.W.mg_none_of X G z_int,
    mg_isinstance := PySem.W.mg_none_of X G z_isinstance,
    mg_len := PySem.W.mg_none_of X G z_len,
    mg_list := PySem.W.mg_none_of X G z_list,
    mg_max := PySem.W.mg_none_of X G z_max,
    mg_min := PySem.W.mg_none_of X G z_min,
    mg_range := PySem.W.mg_none_of X G z_range,
    mg_reversed := PySem.W.mg_none_of X G z_reversed,
    mg_sorted := PySem.W.mg_none_of X G z_sorted,
    mg_str := PySem.W.mg_none_of X G z_str,
    mg_tuple := PySem.W.mg_none_of X G z_tuple,
    gl_PAGE := ⟨_, PySem.W.mg_of X G g_PAGE, _, rfl⟩,
    gl_MOST_FRAMES := ⟨_, PySem.W.mg_of X G g_MOST_FRAMES, _, rfl⟩ }
  have F := fun_mk (st := s_law) l30 c30 k30
  exact ⟨_, fun s v => .of_eq rfl, fun base _ _ => ok_law F T⟩
theorem walk {l : PySem.W.OpenLaw} {q : Program} {loose : List Str} {XP : (Str → Option Value) → Heap → Prop} {YP : World → Heap → Prop} {d : DefRec} {K : Params → PySem.W.Frag} (hn : l.most = some 63) (hdf : d.params.defaults = [])
    (hY : ∀ (w : World) (h : Heap), YP w h → (K w.params).In h)
    (F : ∀ (w : World) (mg : Str → Option Value) (fa : Addr) (h : Heap), (K w.params).In h → h.Ns mainGlobals mg → mg d.name = some (.ref fa) →
      ∃ fd : FuncData, (∀ (s : Shared) (u : Value), BindsTo s fd ⟨[u], []⟩ [("script", u)]) ∧ ∀ base : Heap, (K w.params).In base → base.Ns mainGlobals mg → FnOk l.prog w (K w.params) mg base CX0 8 fa fd ["script"] (sp1 (prLaw (K w.params)))) :
    PySem.W.WalkO q loose XP YP l.row.toRowW d [] (fun f vs => PySem.call f vs) :=
  L2.walk_of (n := 63) (k := 8) (x := "script") (CX := fun _ => CX0) (sp := fun w => sp1 (prLaw (K w.params))) hn (by decide) hdf ⟨rfl, by decide, by decide⟩ hY F (fun _ _ a ns hl _ hS => ⟨_, rfl, a, ns, rfl, hS, hl, fun _ => rfl⟩) fun _ _ _ _ _ z => z
end K60
open PySem PySem.W PyProof.Rows
theorem PySem.Challenge.cw_lonehost_k60_frames_in_a_drawn_order_holds : PySem.Challenge.rw_lonehost_k60_frames_in_a_drawn_order.Holds := by
  w_on; o_law; k_head; (case hw => w_witness2)
  k_fill
  refine K60.walk (l := PySem.Challenge.rw_lonehost_k60_frames_in_a_drawn_order) rfl rfl (fun w h Y => PySem.W.kIn_of Y) ?F
  case F =>
    intro w mg fa h KX G hmg
    refine' K60.all_mk KX G hmg ?aC_HostBusy ?xL_HostBusy ?xR_HostBusy ?xs_HostBusy ?xg_HostBusy ?xh_HostBusy ?xi_HostBusy ?xt_HostBusy ?xk_HostBusy ?xe_HostBusy ?xy_HostBusy ?xd_HostBusy ?xc_HostBusy ?xz_HostBusy ?xn_HostBusy_number ?l0 ?c0 ?k0 ?aC_Frames ?pg_Frames ?hd_Frames ?po_Frames ?sa_Frames ?mk_Frames ?kc_Frames ?na_Frames__contents ?na_Frames__stamps ?na_Frames__latest ?a2 ?i2 ?l2 ?c2 ?k2 ?a3 ?i3 ?l3 ?c3 ?k3 ?a4 ?i4 ?l4 ?c4 ?k4 ?a5 ?i5 ?l5 ?c5 ?k5 ?a6 ?i6 ?l6 ?c6 ?k6 ?a7 ?i7 ?l7 ?c7 ?k7 ?a8 ?i8 ?l8 ?c8 ?k8 ?a9 ?i9 ?l9 ?c9 ?k9 ?a10 ?i10 ?l10 ?c10 ?k10 ?a11 ?i11 ?l11 ?c11 ?k11 ?a12 ?i12 ?l12 ?c12 ?k12 ?a13 ?i13 ?l13 ?c13 ?k13 ?a14 ?i14 ?l14 ?c14 ?k14 ?a15 ?i15 ?l15 ?c15 ?k15 ?a16 ?i16 ?l16 ?c16 ?k16 ?a17 ?i17 ?l17 ?c17 ?k17 ?a1 ?l1 ?c1 ?k1 ?a18 ?l18 ?c18 ?k18 ?a19 ?l19 ?c19 ?k19 ?a20 ?l20 ?c20 ?k20 ?a21 ?l21 ?c21 ?k21 ?a22 ?l22 ?c22 ?k22 ?a23 ?l23 ?c23 ?k23 ?a24 ?l24 ?c24 ?k24 ?a25 ?l25 ?c25 ?k25 ?a26 ?l26 ?c26 ?k26 ?a27 ?l27 ?c27 ?k27 ?a28 ?l28 ?c28 ?k28 ?a29 ?l29 ?c29 ?k29 ?a30 ?l30 ?c30 ?k30 ?z_abs ?z_bool ?z_enumerate ?z_int ?z_isinstance ?z_len ?z_list ?z_max ?z_min ?z_range ?z_reversed ?z_sorted ?z_str ?z_tuple ?g_PAGE ?g_MOST_FRAMES
    (case aC_HostBusy => k_is)
    (case xL_HostBusy => k_is)
    (case xR_HostBusy => decide +kernel)
    (case xs_HostBusy => k_is)
    (case xg_HostBusy => k_is)
    (case xh_HostBusy => k_is)
    (case xi_HostBusy => k_is)
    (case xt_HostBusy => k_is)
    (case xk_HostBusy => k_is)
    (case xe_HostBusy => k_is)
    (case xy_HostBusy => k_is)
    (case xd_HostBusy => k_is)
    (case xc_HostBusy => k_is)
    (case xz_HostBusy => first | rfl | k_is)
    (case xn_HostBusy_number => k_is)
    (case l0 => k_is)
    (case c0 => k_is)
    (case k0 => k_is)
    (case aC_Frames => k_is)
    (case pg_Frames => k_is)
    (case hd_Frames => k_is)
    (case po_Frames => k_is)
    (case sa_Frames => k_is)
    (case mk_Frames => k_is)
    (case kc_Frames => k_is)
    (case na_Frames__contents => k_is)
    (case na_Frames__stamps => k_is)
    (case na_Frames__latest => k_is)
    (case a2 => k_is)
    (case i2 => k_is)
    (case l2 => k_is)
    (case c2 => k_is)
    (case k2 => k_is)
    (case a3 => k_is)
    (case i3 => k_is)
    (case l3 => k_is)
    (case c3 => k_is)
    (case k3 => k_is)
    (case a4 => k_is)
    (case i4 => k_is)
    (case l4 => k_is)
    (case c4 => k_is)
    (case k4 => k_is)
    (case a5 => k_is)
    (case i5 => k_is)
    (case l5 => k_is)
    (case c5 => k_is)
    (case k5 => k_is)
    (case a6 => k_is)
    (case i6 => k_is)
    (case l6 => k_is)
    (case c6 => k_is)
    (case k6 => k_is)
    (case a7 => k_is)
    (case i7 => k_is)
    (case l7 => k_is)
    (case c7 => k_is)
    (case k7 => k_is)
    (case a8 => k_is)
    (case i8 => k_is)
    (case l8 => k_is)
    (case c8 => k_is)
    (case k8 => k_is)
    (case a9 => k_is)
    (case i9 => k_is)
    (case l9 => k_is)
    (case c9 => k_is)
    (case k9 => k_is)
    (case a10 => k_is)
    (case i10 => k_is)
    (case l10 => k_is)
    (case c10 => k_is)
    (case k10 => k_is)
    (case a11 => k_is)
    (case i11 => k_is)
    (case l11 => k_is)
    (case c11 => k_is)
    (case k11 => k_is)
    (case a12 => k_is)
    (case i12 => k_is)
    (case l12 => k_is)
    (case c12 => k_is)
    (case k12 => k_is)
    (case a13 => k_is)
    (case i13 => k_is)
    (case l13 => k_is)
    (case c13 => k_is)
    (case k13 => k_is)
    (case a14 => k_is)
    (case i14 => k_is)
    (case l14 => k_is)
    (case c14 => k_is)
    (case k14 => k_is)
    (case a15 => k_is)
    (case i15 => k_is)
    (case l15 => k_is)
    (case c15 => k_is)
    (case k15 => k_is)
    (case a16 => k_is)
    (case i16 => k_is)
    (case l16 => k_is)
    (case c16 => k_is)
    (case k16 => k_is)
    (case a17 => k_is)
    (case i17 => k_is)
    (case l17 => k_is)
    (case c17 => k_is)
    (case k17 => k_is)
    (case a1 => k_is)
    (case l1 => k_is)
    (case c1 => k_is)
    (case k1 => k_is)
    (case a18 => k_is)
    (case l18 => k_is)
    (case c18 => k_is)
    (case k18 => k_is)
    (case a19 => k_is)
    (case l19 => k_is)
    (case c19 => k_is)
    (case k19 => k_is)
    (case a20 => k_is)
    (case l20 => k_is)
    (case c20 => k_is)
    (case k20 => k_is)
    (case a21 => k_is)
    (case l21 => k_is)
    (case c21 => k_is)
    (case k21 => k_is)
    (case a22 => k_is)
    (case l22 => k_is)
    (case c22 => k_is)
    (case k22 => k_is)
    (case a23 => k_is)
    (case l23 => k_is)
    (case c23 => k_is)
    (case k23 => k_is)
    (case a24 => k_is)
    (case l24 => k_is)
    (case c24 => k_is)
    (case k24 => k_is)
    (case a25 => k_is)
    (case l25 => k_is)
    (case c25 => k_is)
    (case k25 => k_is)
    (case a26 => k_is)
    (case l26 => k_is)
    (case c26 => k_is)
    (case k26 => k_is)
    (case a27 => k_is)
    (case l27 => k_is)
    (case c27 => k_is)
    (case k27 => k_is)
    (case a28 => k_is)
    (case l28 => k_is)
    (case c28 => k_is)
    (case k28 => k_is)
    (case a29 => k_is)
    (case l29 => k_is)
    (case c29 => k_is)
    (case k29 => k_is)
    (case a30 => k_is)
    (case l30 => k_is)
    (case c30 => k_is)
    (case k30 => k_is)
    (case z_abs => k_is)
    (case z_bool => k_is)
    (case z_enumerate => k_is)
    (case z_int => k_is)
    (case z_isinstance => k_is)
    (case z_len => k_is)
    (case z_list => k_is)
    (case z_max => k_is)
    (case z_min => k_is)
    (case z_range => k_is)
    (case z_reversed => k_is)
    (case z_sorted => k_is)
    (case z_str => k_is)
    (case z_tuple => k_is)
    (case g_PAGE => k_is)
    (case g_MOST_FRAMES => k_is)

