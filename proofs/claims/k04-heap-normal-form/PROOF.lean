import PyProof.Rows.All
import Wide.All
import OpenK.AllK
import Wide.FinOn
import HandS.ForMost
import HandS.Wide
import HandS.More
import HandS.Conv
import HandS.IsInst
import HandS.DictComp
import HandS.DeepEq
import HandS.ExcInit
import HandS.ExcField
import HandS.ExcOwn
import HandS.TryOnly
import HandS.WordsExc
import HandS.NoneIn
import HandS.Deep
import HandS.OwnEq
import HandS.Steps
import HandS.Flow
import HandS.Walk
import HandS.CallSlots
import HandS.Codes
import HandS.SortInts
import HandS.TupLe
import KE.GoesMore
import PySem.Challenge.RW_thawedwrites_k04_heap_normal_form
set_option Elab.async false
set_option linter.all false
set_option maxRecDepth 100000
set_option maxHeartbeats 2000000
/-! G: what all laws share: calls by name, heaps and frames -/
namespace G
open PySem PySem.Spec PyProof.Rows L2

/-! ### defs under their names -/
structure Cal (P : Program) (w : World) (K : PySem.W.Frag) (mg : Str → Option Value) (base : Heap) (CX : CXT) (k : Nat) (x : Str) (sp : Sp) : Prop where
  ex : ∃ (f : Addr) (fd : FuncData) (ps : List Str), FnOk P w K mg base CX k f fd ps sp ∧ mg x = some (.ref f) ∧ PySem.W.keepIn K (.ref f) = true ∧ Binds K fd ps []
structure Met (P : Program) (w : World) (K : PySem.W.Frag) (mg : Str → Option Value) (base : Heap) (CX : CXT) (k : Nat) (C : Addr) (m : Str) (sp : Sp) : Prop where
  ex : ∃ (f : Addr) (fd : FuncData) (ps : List Str), Cls K C ∧ Meth K C m f ∧ FnOk P w K mg base CX k f fd ps sp ∧ Binds K fd ps []
structure Mak (P : Program) (w : World) (K : PySem.W.Frag) (mg : Str → Option Value) (base : Heap) (CX : CXT) (k : Nat) (x : Str) (C : Addr) (sp : Sp) : Prop where
  ex : ∃ (f : Addr) (fd : FuncData) (ps : List Str), Mk K C f ∧ FnOk P w K mg base CX k f fd ps sp ∧ mg x = some (.ref C) ∧ Binds K fd ps []
def tCl (sp : Sp) (E : XK) (t : TA) : TE := fun σ H Q => t σ H fun vs H1 => sp vs H1 Q E
def tMt (C : Addr) (m : Str) (sp : Sp) (E : XK) (ta : TE) (t : TA) : TE := fun σ H Q => ta σ H fun x H1 => ∃ a dx fs, x = .ref a ∧ H1 a = some (.ins C dx fs) ∧ fs.lookup m = none ∧ t σ H1 fun vs H2 => sp (x :: vs) H2 Q E
section
variable {X : Cx} {k j : Nat} {C : Addr} {x m : Str} {sp : Sp} {p pos apos : Pos} {e o : Expr} {es : List Expr} {ta : TE} {t : TA} {E : XK} {CX : CXT}
theorem tCall_cl (sp : Sp) (E : XK) (t : TA) : tCall sp [] E t = tCl sp E t := by
  funext σ H Q
  show (t σ H fun vs H1 => sp (vs ++ []) H1 Q E) = t σ H fun vs H1 => sp vs H1 Q E
  congr 1
  funext vs H1
  rw [List.append_nil]
/-- f(e, ..): what it may raise is passed on by hx -/
theorem pe_cx (c : Cal X.prog X.w X.K X.mg X.base CX k x sp) (hr : Room j X.A) (hk : k ≤ j) (hx : Passes CX X E) (hg : Gl X x) (ha : PA X (e :: es) t)
    (hdb : (x == ("__debug__" : Str)) = false := by decide) (he : starEach (e :: es) X.env = (false, eval e X.env) :: starEach es X.env := by rfl) (hpl : (backTo pos (starEach es X.env)).any (·.1) = false := by rfl) :
    PE X (.Call (.Name x p) (e :: es) [] pos) (tCl sp E t) := by
  obtain ⟨f, fd, ps, F, hm, kp, b⟩ := c.ex
  rw [← tCall_cl]
  exact pe_call F (hr.mono hk) hg hm kp b .nil hx ha hdb he hpl
/-- f(e, ..), f raises nothing -/
theorem pe_c (c : Cal X.prog X.w X.K X.mg X.base CX0 k x sp) (hr : Room j X.A) (hk : k ≤ j) (hg : Gl X x) (ha : PA X (e :: es) t)
    (hdb : (x == ("__debug__" : Str)) = false := by decide) (he : starEach (e :: es) X.env = (false, eval e X.env) :: starEach es X.env := by rfl) (hpl : (backTo pos (starEach es X.env)).any (·.1) = false := by rfl) :
    PE X (.Call (.Name x p) (e :: es) [] pos) (tCl sp E0 t) := pe_cx c hr hk pass0 hg ha hdb he hpl
theorem pe_mx {pl : Sem Bool} (c : Met X.prog X.w X.K X.mg X.base CX k C m sp) (hr : Room j X.A) (hk : k ≤ j) (hx : Passes CX X E) (he : PE X o ta) (ha : PA X (e :: es) t)
    (hst : starEach (e :: es) X.env = (false, eval e X.env) :: starEach es X.env := by rfl) (hpl : (backTo pos (starEach es X.env)).any (·.1) = false := by rfl)
    (ht : eval (.Call (.Attribute o m apos) (e :: es) [] pos) X.env = (do
      let ov ← eval o X.env
      standAt apos.atName
      let (f, first) ← holding [ov] (getMethod ov m pl)
      callWith pos f first (backTo pos (starEach (e :: es) X.env)) (backToKw pos (keywordEach [] X.env))) := by rfl) :
    PE X (.Call (.Attribute o m apos) (e :: es) [] pos) (tMt C m sp E ta t) := by
  obtain ⟨f, fd, ps, hc, hm, F, b⟩ := c.ex
  have h := pe_meth (pl := pl) he hc hm F (hr.mono hk) b .nil hx ha hst hpl ht
  have e1 : tMeth C m sp [] E ta t = tMt C m sp E ta t := by
    funext σ H Q
    unfold tMeth tMt
    congr 1
    funext x H1
    simp only [List.append_nil]
  rw [e1] at h
  exact h
theorem pe_m (c : Met X.prog X.w X.K X.mg X.base CX0 k C m sp) {pl : Sem Bool} (hr : Room j X.A) (hk : k ≤ j) (he : PE X o ta) (ha : PA X (e :: es) t)
    (hst : starEach (e :: es) X.env = (false, eval e X.env) :: starEach es X.env := by rfl) (hpl : (backTo pos (starEach es X.env)).any (·.1) = false := by rfl)
    (ht : eval (.Call (.Attribute o m apos) (e :: es) [] pos) X.env = (do
      let ov ← eval o X.env
      standAt apos.atName
      let (f, first) ← holding [ov] (getMethod ov m pl)
      callWith pos f first (backTo pos (starEach (e :: es) X.env)) (backToKw pos (keywordEach [] X.env))) := by rfl) :
    PE X (.Call (.Attribute o m apos) (e :: es) [] pos) (tMt C m sp E0 ta t) := pe_mx (pl := pl) c hr hk pass0 he ha hst hpl ht
theorem pe_mx0 {pl : Sem Bool} (c : Met X.prog X.w X.K X.mg X.base CX k C m sp) (hr : Room j X.A) (hk : k ≤ j) (hx : Passes CX X E) (he : PE X o ta)
    (ht : eval (.Call (.Attribute o m apos) [] [] pos) X.env = (do
      let ov ← eval o X.env
      standAt apos.atName
      let (f, first) ← holding [ov] (getMethod ov m pl)
      callWith pos f first (backTo pos (starEach [] X.env)) (backToKw pos (keywordEach [] X.env))) := by rfl) :
    PE X (.Call (.Attribute o m apos) [] [] pos) (tMt C m sp E ta tNil) := by
  obtain ⟨f, fd, ps, hc, hm, F, b⟩ := c.ex
  have h := pe_meth0 (pl := pl) he hc hm F (hr.mono hk) b .nil hx ht
  have e1 : tMeth C m sp [] E ta tNil = tMt C m sp E ta tNil := by
    funext σ H Q
    unfold tMeth tMt
    rfl
  rw [e1] at h
  exact h
/-- C(e, ..) -/
def tMk (C : Addr) (sp : Sp) (E : XK) (t : TA) : TE := tMake C sp [] E t
theorem pe_k (c : Mak X.prog X.w X.K X.mg X.base CX k x C sp) (hr : Room j X.A) (hk : k + 1 ≤ j) (hx : Passes CX X E) (hg : Gl X x) (ha : PA X (e :: es) t)
    (hdb : (x == ("__debug__" : Str)) = false := by decide) (he : starEach (e :: es) X.env = (false, eval e X.env) :: starEach es X.env := by rfl) (hpl : (backTo pos (starEach es X.env)).any (·.1) = false := by rfl) :
    PE X (.Call (.Name x p) (e :: es) [] pos) (tMk C sp E t) := by
  obtain ⟨f, fd, ps, M, F, hm, b⟩ := c.ex
  exact pe_make M F (hr.mono hk) hg hm b .nil hx ha hdb he hpl
end

/-! ### a text times a number -/
theorem op_mul_str {X : Cx} : OpR X (binaryOp .Mult) (fun x y H Q => ∃ (c : Nat) (n : Int), x = .str ⟨#[c]⟩ ∧ y = .int n ∧ 2 ≤ n ∧ n ≤ 1000 ∧ Q (.str ⟨(List.replicate n.toNat c).toArray⟩) H) := by
  intro pins s σ H x y v u Q I rx ry h
  obtain ⟨c, n, rfl, rfl, h2, h3, q⟩ := h
  obtain ⟨t, rfl⟩ := rx
  obtain ⟨t', rfl⟩ := ry
  have e0 : (n == 1 || (⟨#[c]⟩ : Str).length == 0) = false := by
    have : (n == 1) = false := by simp; omega
    rw [this]; rfl
  refine P.mul_str (by simp; omega) (fun _ _ => ?_) (fun _ _ => ?_) ?_
  · show ¬ (((1 : Nat) : Int) > (2 ^ 63 - 1) / n)
    have : (1001 : Int) ≤ (2 ^ 63 - 1) / n := by
      rw [Int.le_ediv_iff_mul_le (by omega)]
      omega
    omega
  · show Builtin.Str.tooLong (1 * n.toNat) = false
    rw [Nat.one_mul]
    have : n.toNat ≤ 1000 := by omega
    unfold Builtin.Str.tooLong
    rw [sizeLine_eq]
    simp
    omega
  · rw [if_neg (by omega), if_neg (by rw [e0]; simp)]
    have e1 : ∀ (k : Nat) (a : Array Nat), (List.replicate k (#[c] : Array Nat)).foldl (· ++ ·) a = a ++ (List.replicate k c).toArray := by
      intro k
      induction k with
      | zero =>
        intro a
        simp
      | succ k ih =>
        intro a
        rw [List.replicate_succ, List.foldl_cons, ih, List.replicate_succ]
        apply Array.ext'
        simp
    rw [show (⟨#[c]⟩ : Str).cps = #[c] from rfl, e1]
    simp only [Array.empty_append]
    refine ⟨?_, ⟨.str ⟨(List.replicate n.toNat c).toArray⟩, H, I.tok _, ⟨_, rfl⟩, q⟩⟩
    show (List.replicate n.toNat c).toArray.size ≤ sizeLine
    rw [sizeLine_eq]
    simp
    omega

theorem szl {n : Nat} (h : n ≤ 10000) : n ≤ sizeLine := by rw [sizeLine_eq]; omega
theorem szl' {n : Nat} (h : n < 10000) : n < sizeLine := by rw [sizeLine_eq]; omega


/-! ### names of the module; what the built-in names are -/
theorem pe_gv {X : Cx} {x : Str} {v : V} {pos : Pos} (hg : Gl X x) (h : ∃ u, X.mg x = some u ∧ RelV v u) (hd : (x == ("__debug__" : Str)) = false := by decide) : PE X (.Name x pos) (tC v) := by
  obtain ⟨u, hm, r⟩ := h
  exact pe_glob hg hm r hd
structure Blt (mg : Str → Option Value) : Prop where
  len : mg "len" = none
  list : mg "list" = none
  tuple : mg "tuple" = none
  dict : mg "dict" = none
  int : mg "int" = none
  str : mg "str" = none
  bool : mg "bool" = none
  range : mg "range" = none
  isinstance : mg "isinstance" = none
  sorted : mg "sorted" = none
  enumerate : mg "enumerate" = none
  zip : mg "zip" = none
  min : mg "min" = none

/-! ### readings, a step at a time -/
section
variable {D : Ends} {σ : L2.St} {H : Hp} {t1 t2 : TS} {te ta tb : TE} {Q : VK} {v x y : V} {i : Nat} {K : PySem.W.Frag}
theorem g_seq (h : t1 { D with nx := t2 D } σ H) : tSeq t1 t2 D σ H := h
theorem g_next (h : D.nx σ H) : tNext D σ H := h
theorem g_brk (h : D.bk σ H) : tBreak D σ H := h
theorem g_cont (h : D.ct σ H) : tCont D σ H := h
theorem g_asg {g : TG} (h : te σ H fun x H1 => g x σ H1 D.nx) : tAsg te g D σ H := h
theorem g_name {R : L2.St → Hp → Prop} (h : R (σ.set i (some v)) H) : gName i v σ H R := h
theorem g_var (h : σ[i]? = some (some v)) (q : Q v H) : tVar i σ H Q := ⟨v, h, q⟩
theorem g_c (q : Q v H) : tC v σ H Q := q
theorem g_op {r : R2} (h : ta σ H fun x H1 => tb σ H1 fun y H2 => r x y H2 Q) : tOp r ta tb σ H Q := h
theorem g_un {r : V → Hp → VK → Prop} (h : ta σ H fun x H1 => r x H1 Q) : tUn r ta σ H Q := h
theorem g_I0 {g : Int → Int → V} {a b : Int} (q : Q (g a b) H) : rI0 g (.int a) (.int b) H Q := ⟨a, b, rfl, rfl, q⟩
theorem g_I {C : Int → Int → Prop} {g : Int → Int → V} {a b : Int} (hc : C a b) (q : Q (g a b) H) : rI C g (.int a) (.int b) H Q := ⟨a, b, rfl, rfl, hc, q⟩
theorem g_eq (hs : scal x y = true) (q : Q (.bl (decide (x = y))) H) : rEq x y H Q := ⟨hs, q⟩
theorem g_ne (hs : scal x y = true) (q : Q (.bl (!decide (x = y))) H) : rNe x y H Q := ⟨hs, q⟩
theorem g_drop (h : te σ H fun _ H1 => D.nx σ H1) : tDrop te D σ H := h
theorem g_ret (h : te σ H D.rt) : tRet te D σ H := h
theorem g_retN (h : D.rt .non H) : tRetN D σ H := h
theorem g_ifS {c : TT} (h : c σ H fun b H1 => if b = true then t1 D σ H1 else t2 D σ H1) : tIfS c t1 t2 D σ H := h
theorem g_ife {c : TT} (h : c σ H fun b H1 => if b = true then ta σ H1 Q else tb σ H1 Q) : tIf c ta tb σ H Q := h
theorem g_test {R : Bool → Hp → Prop} (h : te σ H fun x H' => ∃ k, x = .bl k ∧ R k H') : tTest te σ H R := h
theorem g_B {R : Bool → Hp → Prop} (h : te σ H fun x H' => ∃ k, x = .bl k ∧ R k H') : tB te σ H R := h
theorem g_bl {b : Bool} {P : Bool → Prop} (h : P b) : ∃ k, V.bl b = .bl k ∧ P k := ⟨b, rfl, h⟩
theorem g_and {t u : TT} {R : Bool → Hp → Prop} (h : t σ H fun c H1 => if c = true then u σ H1 R else R false H1) : tAnd t u σ H R := h
theorem g_or {t u : TT} {R : Bool → Hp → Prop} (h : t σ H fun c H1 => if c = true then R true H1 else u σ H1 R) : tOr t u σ H R := h
theorem g_not {t : TT} {R : Bool → Hp → Prop} (h : t σ H fun c H1 => R (!c) H1) : tNot t σ H R := h
theorem g_andV (h : ta σ H fun x H1 => ∃ c, x = .bl c ∧ if c = true then tb σ H1 Q else Q (.bl false) H1) : tAndV ta tb σ H Q := h
theorem g_orV (h : ta σ H fun x H1 => ∃ c, x = .bl c ∧ if c = true then Q (.bl true) H1 else tb σ H1 Q) : tOrV ta tb σ H Q := h
theorem g_notV (h : ta σ H fun x H1 => ∃ c, x = .bl c ∧ Q (.bl (!c)) H1) : tNotV ta σ H Q := h
theorem g_chain {r r' : R2} {tc : TE} (h : ta σ H fun x H1 => tb σ H1 fun y H2 => r x y H2 fun z H3 => ∃ k, z = .bl k ∧ (if k = true then tc σ H3 fun w' H4 => r' y w' H4 Q else Q (.bl false) H3)) : tChain r r' ta tb tc σ H Q := h
theorem g_nil {R : List V → Hp → Prop} (h : R [] H) : tNil σ H R := h
theorem g_cons {tr : TA} {R : List V → Hp → Prop} (h : ta σ H fun x H1 => tr σ H1 fun xs H2 => R (x :: xs) H2) : tCons ta tr σ H R := h
theorem g_cb {r : List V → Hp → VK → Prop} {t : TA} (h : t σ H fun vs H1 => r vs H1 Q) : tCB r t σ H Q := h
theorem g_cl {sp : Sp} {E : XK} {t : TA} (h : t σ H fun vs H1 => sp vs H1 Q E) : tCl sp E t σ H Q := h
theorem g_mt {C : Addr} {m : Str} {sp : Sp} {E : XK} {t : TA} (h : ta σ H fun x H1 => ∃ a dx fs, x = .ref a ∧ H1 a = some (.ins C dx fs) ∧ fs.lookup m = none ∧ t σ H1 fun vs H2 => sp (x :: vs) H2 Q E) : tMt C m sp E ta t σ H Q := h
theorem g_isN {Q : VK} (q : Q (.bl (decide (x = .non))) H) : rIsN x .non H Q := ⟨rfl, q⟩
theorem g_notN {Q : VK} (q : Q (.bl (!decide (x = .non))) H) : rNotN x .non H Q := ⟨rfl, q⟩
theorem g_ixL {p : Addr} {xs : List V} {k : Int} (h : SqL K H p xs) (ha : atI xs k = some v) (q : Q v H) : rIxL K (.ref p) (.int k) H Q := ⟨p, xs, k, v, rfl, rfl, h, ha, q⟩
theorem g_ixT {p : Addr} {xs : List V} {k : Int} (h : SqT K H p xs) (ha : atI xs k = some v) (q : Q v H) : rIxT K (.ref p) (.int k) H Q := ⟨p, xs, k, v, rfl, rfl, h, ha, q⟩
theorem g_lst {t : TA} (h : t σ H fun xs H1 => xs.length ≤ sizeLine ∧ ∀ p, H1 p = none → Q (.ref p) (upd H1 p (.lst xs))) : tLst t σ H Q := h
theorem g_tup {t : TA} (h : t σ H fun xs H1 => xs.length ≤ sizeLine ∧ ∀ p, H1 p = none → Q (.ref p) (upd H1 p (.tup xs))) : tTup t σ H Q := h
theorem g_sub {to ti : TE} {ts : TSet} {R : L2.St → Hp → Prop} (h : to σ H fun o H1 => ti σ H1 fun i H2 => ts o i v H2 fun H3 => R σ H3) : gSub to ti ts v σ H R := h
theorem g_setL {p : Addr} {xs : List V} {k : Int} {j : Nat} {R : Hp → Prop} (h : H p = some (.lst xs)) (hj : ixN xs.length k = some j) (q : R (upd H p (.lst (xs.set j v)))) : rSetL (.ref p) (.int k) v H R := ⟨p, xs, k, j, rfl, rfl, h, hj, q⟩
theorem g_dec {c A B : Prop} [Decidable c] (h1 : c → A) (h2 : ¬ c → B) : if decide c = true then A else B := by
  by_cases h : c
  · rw [if_pos (decide_eq_true h)]; exact h1 h
  · rw [if_neg (by rw [decide_eq_false h]; exact Bool.false_ne_true)]; exact h2 h
theorem g_decN {c A B : Prop} [Decidable c] (h1 : ¬ c → A) (h2 : c → B) : if (!decide c) = true then A else B := by
  by_cases h : c
  · rw [if_neg (by rw [decide_eq_true h]; exact Bool.false_ne_true)]; exact h2 h
  · rw [if_pos (by rw [decide_eq_false h]; rfl)]; exact h1 h
theorem g_bool {b : Bool} {A B : Prop} (h1 : b = true → A) (h2 : b = false → B) : if b = true then A else B := by
  cases b with
  | true => exact iteT (h1 rfl)
  | false => exact iteF (h2 rfl)
theorem g_boolN {b : Bool} {A B : Prop} (h1 : b = false → A) (h2 : b = true → B) : if (!b) = true then A else B := by
  cases b with
  | true => exact iteF (h2 rfl)
  | false => exact iteT (h1 rfl)
end

/-! ### calls of built-ins, their readings under names -/
abbrev TC := List V → Hp → VK → Prop
def rLenQ (K : PySem.W.Frag) : TC := fun xs H Q => ∃ p ys, xs = [.ref p] ∧ (SqL K H p ys ∨ SqT K H p ys) ∧ Q (.int ys.length) H
def rLenS : TC := fun xs H Q => ∃ z, xs = [.str z] ∧ z.length ≤ sizeLine ∧ Q (.int z.length) H
def rLenD : TC := fun xs H Q => ∃ a kvs, xs = [V.ref a] ∧ H a = some (.dK kvs) ∧ Q (.int kvs.length) H
def rInt1 : TC := fun xs H Q => (∃ i, xs = [.int i] ∧ Q (.int i) H) ∨ ∃ k, xs = [.bl k] ∧ Q (.int (if k then 1 else 0)) H
def rListQ (K : PySem.W.Frag) : TC := fun xs H Q => ∃ p ys, xs = [.ref p] ∧ (SqL K H p ys ∨ SqT K H p ys) ∧ ∀ l, H l = none → Q (.ref l) (upd H l (.lst ys))
def rListKs : TC := fun xs H Q => ∃ (a : Addr) (kvs : List (Key × V)), xs = [.ref a] ∧ Rd H a (.dK kvs) ∧ ∀ p, H p = none → Q (.ref p) (upd H p (.lst (kvs.map fun kv => kV kv.1)))
def rTupQ (K : PySem.W.Frag) : TC := fun xs H Q => ∃ p ys, xs = [.ref p] ∧ ((SqL K H p ys ∧ ∀ l, H l = none → Q (.ref l) (upd H l (.tup ys))) ∨ (SqT K H p ys ∧ Q (.ref p) H))
def rDictQ : TC := fun xs H Q => ∃ (a : Addr) (kvs : List (Key × V)), xs = [.ref a] ∧ Rd H a (.dK kvs) ∧ ∀ p, H p = none → Q (.ref p) (upd H p (.dK kvs))
def rSortedDQ : TC := fun xs H Q => ∃ (a : Addr) (kvs : List (Key × V)) (ks : List Str), xs = [.ref a] ∧ Rd H a (.dK kvs) ∧ kvs.map (·.1) = ks.map Sum.inr ∧ ks.length < 64 ∧ ∀ ys p, ys.Perm ks → sortedS ys = true → H p = none → Q (.ref p) (upd H p (.lst (ys.map V.str)))
section
variable {X : Cx}
theorem c_len : CallR X (.builtin "len") (rLenQ X.K) := call_len_seq
theorem c_lenS : CallR X (.builtin "len") rLenS := call_len_str
theorem c_lenD : CallR X (.builtin "len") rLenD := call_lenD
theorem c_int : CallR X (.type "int") rInt1 := call_int1
theorem c_list : CallR X (.type "list") (rListQ X.K) := call_list_of
theorem c_listK (h : X.calm = true) : CallR X (.type "list") rListKs := call_listD h
theorem c_tuple : CallR X (.type "tuple") (rTupQ X.K) := call_tuple_of
theorem c_dict : CallR X (.type "dict") rDictQ := call_dictD
theorem c_sortedD (h : X.calm = true) : CallR X (.builtin "sorted") rSortedDQ := call_sortedD h
end
section
variable {H : Hp} {Q : VK} {K : PySem.W.Frag} {p : Addr} {xs : List V} {kvs : List (Key × V)}
theorem g_len (h : SqL K H p xs) (q : Q (.int xs.length) H) : rLenQ K [.ref p] H Q := ⟨p, xs, rfl, .inl h, q⟩
theorem g_lenT (h : SqT K H p xs) (q : Q (.int xs.length) H) : rLenQ K [.ref p] H Q := ⟨p, xs, rfl, .inr h, q⟩
theorem g_lenS {z : Str} (h : z.length ≤ sizeLine) (q : Q (.int z.length) H) : rLenS [.str z] H Q := ⟨z, rfl, h, q⟩
theorem g_lenD (h : H p = some (.dK kvs)) (q : Q (.int kvs.length) H) : rLenD [.ref p] H Q := ⟨p, kvs, rfl, h, q⟩
theorem g_int {i : Int} (q : Q (.int i) H) : rInt1 [.int i] H Q := .inl ⟨i, rfl, q⟩
theorem g_list (h : SqL K H p xs) (q : ∀ l, H l = none → Q (.ref l) (upd H l (.lst xs))) : rListQ K [.ref p] H Q := ⟨p, xs, rfl, .inl h, q⟩
theorem g_listK (h : Rd H p (.dK kvs)) (q : ∀ l, H l = none → Q (.ref l) (upd H l (.lst (kvs.map fun kv => kV kv.1)))) : rListKs [.ref p] H Q := ⟨p, kvs, rfl, h, q⟩
theorem g_tupL (h : SqL K H p xs) (q : ∀ l, H l = none → Q (.ref l) (upd H l (.tup xs))) : rTupQ K [.ref p] H Q := ⟨p, xs, rfl, .inl ⟨h, q⟩⟩
theorem g_tupT (h : SqT K H p xs) (q : Q (.ref p) H) : rTupQ K [.ref p] H Q := ⟨p, xs, rfl, .inr ⟨h, q⟩⟩
theorem g_dict (h : Rd H p (.dK kvs)) (q : ∀ l, H l = none → Q (.ref l) (upd H l (.dK kvs))) : rDictQ [.ref p] H Q := ⟨p, kvs, rfl, h, q⟩
theorem g_cut {D : Ends} {σ : L2.St} {t u : TS} (Mid : L2.St → Hp → Prop) (h1 : t { D with nx := Mid } σ H) (h2 : ∀ σ' H', Mid σ' H' → u D σ' H') : C8.tCut t u D σ H := ⟨Mid, h1, h2⟩
theorem g_pow {a b : Int} (h0 : 0 ≤ b ∧ b ≤ 1000000 ∧ a.natAbs < 2 ^ 64) (q : Q (.int (a ^ b.toNat)) H) : rI CPow (fun i j => .int (i ^ j.toNat)) (.int a) (.int b) H Q := ⟨a, b, rfl, rfl, h0, q⟩
theorem st0 {t : TS} {D : Ends} {σ σ' : L2.St} (e : σ = σ') (h : t D σ' H) : t D σ H := e ▸ h
end

/-! ### sep.join(list of texts) -/
def rJoin (K : PySem.W.Frag) : V → List V → Hp → VK → Prop := fun x xs H Q => ∃ a p, ∃ ys : List Str, x = .str a ∧ xs = [.ref p] ∧ (SqL K H p (ys.map V.str) ∨ SqT K H p (ys.map V.str)) ∧
  (ys.map (·.length)).sum + ys.length * a.length ≤ 16777216 ∧ Q (.str (Txt.join a ys)) H
theorem pe_jn {X : Cx} {o e : Expr} {to te : TE} {apos pos : Pos} (ho : PE X o to) (he : PE X e te) (hs : starEach [e] X.env = [(false, eval e X.env)] := by rfl) (hbase : attributeBase o "join" X.env (eval o X.env) = eval o X.env := by rfl) (hline : (apos.endLine == pos.line) = true := by rfl) :
    PE X (.Call (.Attribute o "join" apos) [e] [] pos) (tM1 (rJoin X.K) to te) := pe_join ho he hs hbase hline
section
variable {σ : L2.St} {H : Hp} {K : PySem.W.Frag} {Q : VK}
theorem g_m1 {r : V → List V → Hp → VK → Prop} {to te : TE} (h : to σ H fun x H1 => (∃ a, x = .str a) ∧ te σ H1 fun y H2 => r x [y] H2 Q) : tM1 r to te σ H Q := h
theorem g_isStr {z : Str} {P : Prop} (h : P) : (∃ a, V.str z = .str a) ∧ P := ⟨⟨z, rfl⟩, h⟩
theorem g_join {a : Str} {p : Addr} {ys : List Str} (h : SqL K H p (ys.map V.str)) (hl : (ys.map (·.length)).sum + ys.length * a.length ≤ 16777216) (q : Q (.str (Txt.join a ys)) H) : rJoin K (.str a) [.ref p] H Q := ⟨a, p, ys, rfl, rfl, .inl h, hl, q⟩
theorem g_ixS {z : Str} {k : Int} {c : Nat} (hl : z.length ≤ sizeLine) (h : atI z.cps.toList k = some c) (q : Q (.str ⟨#[c]⟩) H) : rIxS (.str z) (.int k) H Q := ⟨z, k, c, rfl, rfl, hl, h, q⟩
end

/-! ### dicts -/
section
variable {σ : L2.St} {H : Hp} {D : Ends}
theorem g_dput {td ty tv : TE} (h : tv σ H fun v H1 => td σ H1 fun x H2 => ty σ H2 fun y H3 => ∃ a H4, x = .ref a ∧ DPut H3 a y v H4 ∧ D.nx σ H4) : sDPut td ty tv D σ H := h
theorem g_dputS {P : Hp → Prop} {d : Addr} {kvs : List (Key × V)} {z : Str} {v : V} (h : H d = some (.dK kvs)) (hl : kvs.length < 10000) (q : P (upd H d (.dK (putK kvs (.inr z) v)))) : ∃ a H4, V.ref d = .ref a ∧ DPut H a (.str z) v H4 ∧ P H4 :=
  ⟨d, _, rfl, DPut.k (k := Sum.inr z) h (szl' hl), q⟩
theorem g_dputI {P : Hp → Prop} {d : Addr} {kvs : List (Key × V)} {z : Int} {v : V} (h : H d = some (.dK kvs)) (hl : kvs.length < 10000) (q : P (upd H d (.dK (putK kvs (.inl z) v)))) : ∃ a H4, V.ref d = .ref a ∧ DPut H a (.int z) v H4 ∧ P H4 :=
  ⟨d, _, rfl, DPut.k (k := Sum.inl z) h (szl' hl), q⟩
theorem g_dnew {Q : VK} (h : ∀ p, H p = none → Q (.ref p) (upd H p (.dK []))) : tDNewK σ H Q := h
theorem g_dget {Q : VK} {td ty : TE} (h : td σ H fun x H1 => ty σ H1 fun y H2 => ∃ a v, x = .ref a ∧ DGet H2 a y (some v) ∧ Q v H2) : tDGet td ty σ H Q := h
theorem g_dgetS {P : V → Prop} {d : Addr} {kvs : List (Key × V)} {z : Str} {v : V} (h : Rd H d (.dK kvs)) (e : valV kvs (.inr z) = some v) (q : P v) : ∃ a v, V.ref d = .ref a ∧ DGet H a (.str z) (some v) ∧ P v :=
  ⟨d, v, rfl, .inl ⟨kvs, .inr z, h, rfl, e.symm⟩, q⟩
theorem g_dgetI {P : V → Prop} {d : Addr} {kvs : List (Key × V)} {z : Int} {v : V} (h : Rd H d (.dK kvs)) (e : valV kvs (.inl z) = some v) (q : P v) : ∃ a v, V.ref d = .ref a ∧ DGet H a (.int z) (some v) ∧ P v :=
  ⟨d, v, rfl, .inl ⟨kvs, .inl z, h, rfl, e.symm⟩, q⟩
theorem g_din {Q : VK} {ty td : TE} (h : ty σ H fun y H1 => td σ H1 fun x H2 => ∃ a o, x = .ref a ∧ DGet H2 a y o ∧ Q (.bl o.isSome) H2) : tDIn ty td σ H Q := h
theorem g_dnotin {Q : VK} {ty td : TE} (h : ty σ H fun y H1 => td σ H1 fun x H2 => ∃ a o, x = .ref a ∧ DGet H2 a y o ∧ Q (.bl (!o.isSome)) H2) : tDNotIn ty td σ H Q := h
theorem g_hasS {P : Option V → Prop} {d : Addr} {kvs : List (Key × V)} {z : Str} (h : Rd H d (.dK kvs)) (q : P (valV kvs (.inr z))) : ∃ a o, V.ref d = .ref a ∧ DGet H a (.str z) o ∧ P o :=
  ⟨d, _, rfl, .inl ⟨kvs, .inr z, h, rfl, rfl⟩, q⟩
theorem g_hasI {P : Option V → Prop} {d : Addr} {kvs : List (Key × V)} {z : Int} (h : Rd H d (.dK kvs)) (q : P (valV kvs (.inl z))) : ∃ a o, V.ref d = .ref a ∧ DGet H a (.int z) o ∧ P o :=
  ⟨d, _, rfl, .inl ⟨kvs, .inl z, h, rfl, rfl⟩, q⟩
end

theorem g_lock {t : TS} {σ : L2.St} {H : Hp} {D : Ends} {d : Addr} {u : HO} (h : H d = some u) (m : Mut (some u)) (q : ∀ od, t ⟨fun σ' H' => H' d = some (.frz od u) ∧ D.nx σ' (upd H' d u), fun v H' => H' d = some (.frz od u) ∧ D.rt v (upd H' d u), fun σ' H' => H' d = some (.frz od u) ∧ D.bk σ' (upd H' d u), fun σ' H' => H' d = some (.frz od u) ∧ D.ct σ' (upd H' d u)⟩ σ (upd H d (.frz od u))) : tLock t D σ H := ⟨d, u, h, m, q⟩
theorem g_iKeys {td : TE} {σ : L2.St} {H : Hp} {R : It → Hp → Prop} (h : td σ H fun x H1 => ∃ d o, x = .ref d ∧ ((∃ kvs, H1 d = some (.frz o (.dK kvs)) ∧ R (Itk d o kvs) H1) ∨ ∃ kvs, H1 d = some (.frz o (.dT kvs)) ∧ R (Itkt d o kvs) H1)) : iKeys td σ H R := h
theorem g_tup2 {K : PySem.W.Frag} {n i j : Nat} {p : Addr} {x y : V} {σ : L2.St} {H : Hp} {R : L2.St → Hp → Prop} (hn : n = 2) (h : SqT K H p [x, y]) (q : R ((σ.set i (some x)).set j (some y)) H) : gTup K n (gCons (gName i) (gCons (gName j) gNil)) (.ref p) σ H R :=
  ⟨p, [x, y], rfl, h, hn.symm, x, [y], rfl, y, [], rfl, rfl, q⟩
theorem g_while {c : TT} {tb : TS} {D : Ends} {σ : L2.St} {H : Hp} (W : Nat → L2.St → Hp → Prop) (m0 : Nat) (h0 : W m0 σ H) (hs : ∀ m σ H, W m σ H → c σ H fun b H1 => if b = true then ∃ N : L2.St → Hp → Prop, (∀ σ' H', N σ' H' → ∃ m', m' < m ∧ W m' σ' H') ∧ tb { D with nx := N, ct := N, bk := D.nx } σ H1 else D.nx σ H1) : tWhile c tb D σ H := ⟨W, ⟨m0, h0⟩, hs⟩
theorem g_turn {tb : TS} {D : Ends} {σ : L2.St} {H : Hp} {W : Nat → L2.St → Hp → Prop} {m : Nat} (h : tb { D with nx := fun σ' H' => ∃ m', m' < m ∧ W m' σ' H', ct := fun σ' H' => ∃ m', m' < m ∧ W m' σ' H', bk := D.nx } σ H) : ∃ N : L2.St → Hp → Prop, (∀ σ' H', N σ' H' → ∃ m', m' < m ∧ W m' σ' H') ∧ tb { D with nx := N, ct := N, bk := D.nx } σ H := ⟨_, fun _ _ h => h, h⟩
theorem g_aug {i : Nat} {te : TE} {ti : TIp} {D : Ends} {σ : L2.St} {H : Hp} (h : ∃ x, σ[i]? = some (some x) ∧ te σ H fun y H1 => ti x y H1 fun z H2 => D.nx (σ.set i (some z)) H2) : tAug i te ti D σ H := h
/-! ### fields -/
section
variable {K : PySem.W.Frag} {σ : L2.St} {H : Hp} {ta tv : TE} {f : Str}
theorem g_fld {Q : VK} (h : ta σ H fun x H1 => ∃ a C dx fs v, x = .ref a ∧ H1 a = some (.ins C dx fs) ∧ Cls K C ∧ NoAttr K C f ∧ fs.lookup f = some v ∧ Q v H1) : tFld K ta f σ H Q := h
theorem g_sfld {D : Ends} (h : tv σ H fun y H1 => ta σ H1 fun x H2 => ∃ a C dx fs, x = .ref a ∧ H2 a = some (.ins C dx fs) ∧ Cls K C ∧ NoAttr K C f ∧ fs.length < 1000 ∧ D.nx σ (upd H2 a (.ins C dx (putF f y fs)))) : sFld K ta tv f D σ H := h
theorem g_fldv {P : V → Prop} {a C dx : Addr} {fs : List (Str × V)} {v : V} (h : H a = some (.ins C dx fs)) (c : Cls K C) (n : NoAttr K C f) (l : fs.lookup f = some v) (q : P v) : ∃ a' C dx fs v, V.ref a = .ref a' ∧ H a' = some (.ins C dx fs) ∧ Cls K C ∧ NoAttr K C f ∧ fs.lookup f = some v ∧ P v := ⟨a, C, dx, fs, v, rfl, h, c, n, l, q⟩
end
/-! ### methods of lists -/
section
variable {σ : L2.St} {H : Hp} {K : PySem.W.Frag} {Q : VK}
theorem g_bm {T : String} {r : V → List V → Hp → VK → Prop} {to : TE} {t : TA} (h : to σ H fun x H1 => tyV K T x H1 ∧ t σ H1 fun xs H2 => r x xs H2 Q) : tBM K T r to t σ H Q := h
theorem g_bm0 {T : String} {r : V → List V → Hp → VK → Prop} {to : TE} (h : to σ H fun x H1 => tyV K T x H1 ∧ r x [] H1 Q) : tBM0 K T r to σ H Q := h
theorem g_tyL {l : Addr} {xs : List V} {P : Prop} (h : SqL K H l xs) (q : P) : tyV K "list" (.ref l) H ∧ P := ⟨.inl ⟨rfl, xs, h⟩, q⟩
theorem g_app {l : Addr} {xs : List V} {v : V} (h : H l = some (.lst xs)) (hl : xs.length < 10000) (q : Q .non (upd H l (.lst (xs ++ [v])))) : rAppend (.ref l) [v] H Q := ⟨l, xs, v, rfl, rfl, h, szl' hl, q⟩
end

/-! ### loops -/
section
variable {D : Ends} {σ : L2.St} {H : Hp} {K : PySem.W.Frag} {tl : TE} {ta : TA} {g : TG} {tb : TS} {R : It → Hp → Prop}
theorem g_for {wi : TI} (h : wi σ H fun J H1 => ∃ W : Nat → Nat → L2.St → Hp → Prop, (∃ m, W 0 m σ H1) ∧ ∀ i m σ H, W i m σ H →
  (J.stop i H ∧ D.nx σ H) ∨ (J.go i H ∧ ∃ N : L2.St → Hp → Prop, (∀ σ' H', N σ' H' → ∃ m', m' < m ∧ W (i + 1) m' σ' H') ∧ ∀ x H', J.yld i H x H' → g x σ H' fun σ2 H2 => tb { D with nx := N, ct := N, bk := D.nx } σ2 H2)) : tFor wi g tb D σ H := h
theorem g_iList (h : tl σ H fun x H1 => ∃ a, x = .ref a ∧ (∃ xs, SqL K H1 a xs) ∧ R (Itl K a) H1) : iList K tl σ H R := h
theorem g_iTup (h : tl σ H fun x H1 => ∃ a, x = .ref a ∧ (∃ xs, SqT K H1 a xs) ∧ R (Itt K a) H1) : iTup K tl σ H R := h
theorem g_iRng1 (h : ta σ H fun vs H1 => ∃ j : Int, vs = [.int j] ∧ -(2 ^ 62) ≤ j ∧ j < 2 ^ 62 ∧ R (Itr 0 j.toNat) H1) : iRng1 ta σ H R := h
theorem g_iStr (h : tl σ H fun v H1 => ∃ x, v = .str x ∧ R (Its x) H1) : iStr tl σ H R := h
theorem g_iEnum (h : ta σ H fun vs H1 => ∃ a xs, vs = [.ref a] ∧ SqL K H1 a xs ∧ R (Ite K a) H1) : iEnum K ta σ H R := h
theorem g_lc {wi : TI} {tt : TT} {te : TE} {vs : List Nat} {Q : VK} (h : wi σ H fun J H1 => ∀ D, H1 D = none → ∃ W : Nat → Nat → Hp → Prop, (∃ m, W 0 m (upd H1 D (.lst []))) ∧ ∀ i m H, W i m H →
  (J.stop i H ∧ Q (.ref D) H) ∨ (J.go i H ∧ ∃ Nx : Hp → Prop, (∀ H', Nx H' → ∃ m', m' < m ∧ W (i + 1) m' H') ∧ ∀ x H', J.yld i H x H' → g x (wipe σ vs) H' fun σ2 H2 => wipe σ2 vs = wipe σ vs ∧ tt σ2 H2 fun b H3 =>
    if b = true then te σ2 H3 fun y H4 => ∃ acc, H4 D = some (.lst acc) ∧ acc.length < sizeLine ∧ Nx (upd H4 D (.lst (acc ++ [y]))) else Nx H3)) : tLc wi g tt te vs σ H Q := h
theorem g_yes {R : Bool → Hp → Prop} (h : R true H) : tYes σ H R := h
end

/-! ### lists of texts, of numbers -/
theorem inV_str (z : Str) : ∀ ts : List Str, inV (.str z) (ts.map V.str) = decide (z ∈ ts)
  | [] => rfl
  | t :: r => by
    have ih := inV_str z r
    unfold inV at ih ⊢
    rw [List.map_cons, List.any_cons, ih]
    show ((t == z) || decide (z ∈ r)) = decide (z ∈ t :: r)
    rw [Bool.eq_iff_iff]
    simp only [Bool.or_eq_true, beq_iff_eq, decide_eq_true_eq, List.mem_cons]
    constructor
    · rintro (h | h)
      · exact .inl h.symm
      · exact .inr h
    · rintro (h | h)
      · exact .inl h.symm
      · exact .inr h
theorem flat_str : ∀ ts : List Str, (ts.map V.str).all flatV = true
  | [] => rfl
  | _ :: r => by rw [List.map_cons, List.all_cons, flat_str r]; rfl
theorem flat_int : ∀ ts : List Int, (ts.map V.int).all flatV = true
  | [] => rfl
  | _ :: r => by rw [List.map_cons, List.all_cons, flat_int r]; rfl
section
variable {H : Hp} {Q : VK} {K : PySem.W.Frag} {p : Addr}
theorem g_inS {z : Str} {ts : List Str} (h : SqL K H p (ts.map V.str) ∨ SqT K H p (ts.map V.str)) (q : Q (.bl (decide (z ∈ ts))) H) : rIn K false (.str z) (.ref p) H Q :=
  ⟨p, _, rfl, h, rfl, flat_str ts, by rw [if_neg Bool.false_ne_true, inV_str]; exact q⟩
theorem g_notInS {z : Str} {ts : List Str} (h : SqL K H p (ts.map V.str) ∨ SqT K H p (ts.map V.str)) (q : Q (.bl (!decide (z ∈ ts))) H) : rIn K true (.str z) (.ref p) H Q :=
  ⟨p, _, rfl, h, rfl, flat_str ts, by rw [if_pos rfl, inV_str]; exact q⟩
end
theorem sub_len {α : Type} [DecidableEq α] : ∀ {l ts : List α}, l.Nodup → (∀ x ∈ l, x ∈ ts) → l.length ≤ ts.length
  | [], _, _, _ => Nat.zero_le _
  | a :: l, ts, nd, h => by
    have ha : a ∈ ts := h a List.mem_cons_self
    obtain ⟨n1, n2⟩ := List.nodup_cons.mp nd
    have e := List.length_erase_of_mem ha
    have ih := sub_len (l := l) (ts := ts.erase a) n2 fun x hx => (List.mem_erase_of_ne (fun (z : x = a) => n1 (by rw [← z]; exact hx))).mpr (h x (List.mem_cons_of_mem _ hx))
    have pos : 0 < ts.length := List.length_pos_of_mem ha
    rw [List.length_cons]
    omega
/-- a word: one to eight letters a to z -/
def IsW (z : Str) : Prop := 1 ≤ z.length ∧ z.length ≤ 8 ∧ ∀ c ∈ z.cps.toList, 97 ≤ c ∧ c ≤ 122
abbrev abc : Str := Str.ofString "abcdefghijklmnopqrstuvwxyz"
theorem abc_list : abc.cps.toList = (List.range 26).map (97 + ·) := by decide +kernel
theorem abc_size : abc.cps.size = 26 := by decide +kernel
theorem join_cps (l : List Str) : (Txt.join (Str.ofString "") l).cps.toList = (l.map fun z => z.cps.toList).flatten := by
  rw [TL.join_eq]
  induction l with
  | nil => rfl
  | cons x r ih =>
    cases r with
    | nil =>
      show x.cps.toList = _
      simp
    | cons y r =>
      show ((x ++ Str.ofString "" ++ Str.join (Str.ofString "") (y :: r) : Str)).cps.toList = _
      have e : ((x ++ Str.ofString "" ++ Str.join (Str.ofString "") (y :: r) : Str)).cps.toList = (x.cps.toList ++ (Str.ofString "").cps.toList) ++ (Str.join (Str.ofString "") (y :: r)).cps.toList := by
        show ((x.cps ++ (Str.ofString "").cps) ++ (Str.join (Str.ofString "") (y :: r)).cps).toList = _
        rw [Array.toList_append, Array.toList_append]
      rw [e, ih, show (Str.ofString "").cps.toList = [] by decide +kernel, List.append_nil]
      rfl
def one (c : Nat) : Str := ⟨#[c]⟩
theorem jn_ones (l : List Nat) : (Txt.join (Str.ofString "") (l.map one)).cps.toList = l := by
  rw [join_cps]
  induction l with
  | nil => rfl
  | cons a r ih =>
    rw [List.map_cons, List.map_cons, List.flatten_cons, ih]
    rfl

/-! ### frames: all that stood outside S stands as it was, nothing is forgotten -/
structure Fr (S : Addr → Prop) (H H' : Hp) : Prop where
  keep : ∀ b o, H b = some o → ¬ S b → H' b = some o
  free : ∀ b, H' b = none → H b = none
abbrev NoA : Addr → Prop := fun _ => False
section
variable {S S' : Addr → Prop} {H H1 H2 : Hp} {p : Addr} {o : HO}
theorem Fr.refl (H : Hp) : Fr S H H := ⟨fun _ _ h _ => h, fun _ h => h⟩
theorem Fr.trans (a : Fr S H H1) (b : Fr S H1 H2) : Fr S H H2 := ⟨fun c u h n => b.keep c u (a.keep c u h n) n, fun c h => a.free c (b.free c h)⟩
theorem Fr.mono (a : Fr S H H1) (h : ∀ b, S b → S' b) : Fr S' H H1 := ⟨fun c u e n => a.keep c u e fun z => n (h c z), a.free⟩
theorem Fr.new (n : H p = none) : Fr S H (upd H p o) := ⟨fun c u e _ => by rw [upd_ne (ne_of_none e n)]; exact e, fun c e => by
  by_cases h : c = p
  · rw [h]; exact n
  · rw [upd_ne h] at e; exact e⟩
theorem Fr.put (h : S p) : Fr S H (upd H p o) := ⟨fun c u e n => by rw [upd_ne (fun z => n (by rw [z]; exact h))]; exact e, fun c e => by
  by_cases h : c = p
  · rw [h, upd_same] at e; cases e
  · rw [upd_ne h] at e; exact e⟩
/-- what was new ahead may change -/
theorem Fr.upd0 (a : Fr S H H1) (n : H p = none) : Fr S H (upd H1 p o) := ⟨fun c u e h => by rw [upd_ne (ne_of_none e n)]; exact a.keep c u e h, fun c e => by
  by_cases h : c = p
  · rw [h]; exact n
  · rw [upd_ne h] at e; exact a.free c e⟩
theorem Fr.then_new (a : Fr S H H1) (n : H1 p = none) : Fr S H (upd H1 p o) := a.trans (.new n)
theorem Fr.then_put (a : Fr S H H1) (h : S p) : Fr S H (upd H1 p o) := a.trans (.put h)
theorem Fr.ne {q : Addr} {u : HO} (a : Fr S H H1) (n : H1 p = none) (h : H q = some u) : q ≠ p := ne_of_none h (a.free p n)
end
theorem SqL.fr {K : PySem.W.Frag} {S : Addr → Prop} {H H' : Hp} {a : Addr} {xs : List V} (f : Fr S H H') (n : ¬ S a) (h : SqL K H a xs) : SqL K H' a xs := by
  rcases h with (h | ⟨o, h⟩) | h
  · exact .inl (.inl (f.keep _ _ h n))
  · exact .inl (.inr ⟨o, f.keep _ _ h n⟩)
  · exact .inr h
theorem SqT.fr {K : PySem.W.Frag} {S : Addr → Prop} {H H' : Hp} {a : Addr} {xs : List V} (f : Fr S H H') (n : ¬ S a) (h : SqT K H a xs) : SqT K H' a xs := by
  rcases h with (h | ⟨o, h⟩) | h
  · exact .inl (.inl (f.keep _ _ h n))
  · exact .inl (.inr ⟨o, f.keep _ _ h n⟩)
  · exact .inr h
theorem lq {K : PySem.W.Frag} {H : Hp} {a : Addr} {xs : List V} (h : H a = some (.lst xs)) : SqL K H a xs := .inl (.inl h)
theorem tq {K : PySem.W.Frag} {H : Hp} {a : Addr} {xs : List V} (h : H a = some (.tup xs)) : SqT K H a xs := .inl (.inl h)
/-! ### what isinstance says -/
/-- isinstance(v, n) is b, n a built-in class -/
def TyQ (K : PySem.W.Frag) (H : Hp) (v : V) (n : String) (b : Bool) : Prop := ∃ t, TyX K H v t ∧ PySem.W.kitOne K t (.type n) = some b
theorem TyQ.of {K : PySem.W.Frag} {H : Hp} {v : V} {m n : String} {b : Bool} (h : TyX K H v (.type m)) (e : kitB m n = some b) : TyQ K H v n b := ⟨_, h, kit_ty e⟩
section
variable {K : PySem.W.Frag} {H : Hp} {a : Addr} {xs : List V} {kvs : List (Key × V)}
theorem ty_non : TyX K H .non (.type "NoneType") := .base .non
theorem ty_bl {b : Bool} : TyX K H (.bl b) (.type "bool") := .base (.bl b)
theorem ty_int {i : Int} : TyX K H (.int i) (.type "int") := .base (.int i)
theorem ty_str {z : Str} : TyX K H (.str z) (.type "str") := .base (.str z)
theorem ty_L (h : SqL K H a xs) : TyX K H (.ref a) (.type "list") := by
  rcases h with (h | ⟨o, h⟩) | ⟨o, its, n, h, c, _⟩
  · exact .base (.lst h)
  · exact .base (.frz h)
  · exact .kList h c
theorem ty_T (h : SqT K H a xs) : TyX K H (.ref a) (.type "tuple") := by
  rcases h with (h | ⟨o, h⟩) | ⟨o, its, n, h, c, _⟩
  · exact .base (.tup h)
  · exact .fTuple h
  · exact .kTuple h c
theorem ty_D (h : Rd H a (.dK kvs)) : TyX K H (.ref a) (.type "dict") := by
  rcases h with h | ⟨o, h⟩
  · exact .base (.dK h)
  · exact .fDict h
theorem TyOf.fr {S : Addr → Prop} {H' : Hp} {v : V} {t : Value} (f : Fr S H H') (n : ∀ a, v = .ref a → ¬ S a) (h : TyOf K H v t) : TyOf K H' v t := by
  cases h with
  | non => exact .non
  | bl x => exact .bl x
  | int i => exact .int i
  | str x => exact .str x
  | flt x => exact .flt x
  | lst e => exact .lst (f.keep _ _ e (n _ rfl))
  | frz e => exact .frz (f.keep _ _ e (n _ rfl))
  | tup e => exact .tup (f.keep _ _ e (n _ rfl))
  | dK e => exact .dK (f.keep _ _ e (n _ rfl))
  | dT e => exact .dT (f.keep _ _ e (n _ rfl))
  | ins e a b c d g => exact .ins (f.keep _ _ e (n _ rfl)) a b c d g
theorem TyX.fr {S : Addr → Prop} {H' : Hp} {v : V} {t : Value} (f : Fr S H H') (n : ∀ a, v = .ref a → ¬ S a) (h : TyX K H v t) : TyX K H' v t := by
  cases h with
  | base h => exact .base (TyOf.fr f n h)
  | byt b => exact .byt b
  | set e => exact .set (f.keep _ _ e (n _ rfl))
  | kList e c => exact .kList e c
  | kTuple e c => exact .kTuple e c
  | kDict e c => exact .kDict e c
  | fTuple e => exact .fTuple (f.keep _ _ e (n _ rfl))
  | fDict e => exact .fDict (f.keep _ _ e (n _ rfl))
theorem TyQ.fr {S : Addr → Prop} {H' : Hp} {v : V} {m : String} {b : Bool} (f : Fr S H H') (n : ∀ a, v = .ref a → ¬ S a) (h : TyQ K H v m b) : TyQ K H' v m b := by
  obtain ⟨t, h1, h2⟩ := h
  exact ⟨t, TyX.fr f n h1, h2⟩
theorem g_isi {Q : VK} {v : V} {n : String} {b : Bool} (h : TyQ K H v n b) (q : Q (.bl b) H) : rIsi K [v, .ty n] H Q := by
  obtain ⟨t, h1, h2⟩ := h
  exact ⟨v, .ty n, t, _, b, rfl, .ty n, h1, h2, q⟩
/-- isinstance(v, (m, n)) -/
theorem g_isi2 {Q : VK} {v : V} {p : Addr} {m n : String} {b1 b2 : Bool} {t : Value} (hp : H p = some (.tup [.ty m, .ty n])) (h : TyX K H v t) (e1 : PySem.W.kitOne K t (.type m) = some b1) (e2 : PySem.W.kitOne K t (.type n) = some b2) (q : Q (.bl (b1 || b2)) H) : rIsiT K [v, .ref p] H Q := by
  refine ⟨v, p, _, t, [.type m, .type n], b1 || b2, rfl, hp, .cons (.ty m) (.cons (.ty n) .nil), h, ?_, q⟩
  refine kitAny_cons e1 (fun z => kitAny_cons e2 (fun z2 => ?_) (fun z2 => ?_)) (fun z => ?_)
  · rw [z, z2]; exact kitAny_nil
  · rw [z, z2]; rfl
  · rw [z]; rfl
end
/-- either of two things walked -/
theorem pi_or {X : Cx} {tg e : Expr} {w1 w2 : TI} (h1 : PI X tg e w1) (h2 : PI X tg e w2) : PI X tg e (fun σ H R => w1 σ H R ∨ w2 σ H R) := by
  refine ⟨fun pins s σ H R I h => ?_⟩
  rcases h with h | h
  · exact h1.run pins s σ H R I h
  · exact h2.run pins s σ H R I h
def iSeq (K : PySem.W.Frag) (tl : TE) : TI := fun σ H R => iList K tl σ H R ∨ iTup K tl σ H R
theorem pi_seq {X : Cx} {tg e : Expr} {tl : TE} (h : PE X e tl) (h1 : PI X tg e (iList X.K tl)) (h2 : PI X tg e (iTup X.K tl)) : PI X tg e (iSeq X.K tl) := pi_or h1 h2
/-- a loop over a list or a tuple that stands in a slot -/
theorem g_forSeq {K : PySem.W.Frag} {H H0 : Hp} {D : Ends} {σ : L2.St} {g : TG} {tb : TS} {i0 : Nat} {a : Addr} {xs : List V} (hv : σ[i0]? = some (some (.ref a))) (hq : SqL K H0 a xs ∨ SqT K H0 a xs) (Pv : Nat → L2.St → Hp → Prop) (h0 : Pv 0 σ H)
    (hG : ∀ i σ' H', i ≤ xs.length → Pv i σ' H' → Fr NoA H0 H')
    (hs : ∀ i x σ H, xs[i]? = some x → Pv i σ H → g x σ H fun σ2 H2 => tb { D with nx := Pv (i + 1), ct := Pv (i + 1), bk := D.nx } σ2 H2) (hd : ∀ σ H, Pv xs.length σ H → D.nx σ H) : tFor (iSeq K (tVar i0)) g tb D σ H := by
  rcases hq with hq | hq
  · exact .inl ⟨_, hv, a, rfl, ⟨_, SqL.fr (hG 0 σ H (Nat.zero_le _) h0) (fun z => z) hq⟩, for_it walk_list Pv h0 (fun i σ' H' hi p => SqL.fr (hG i σ' H' hi p) (fun z => z) hq) (fun i x σ' H' H2 hi p y => by
      obtain ⟨rfl, y⟩ := y
      exact hs i x σ' _ y p) hd⟩
  · exact .inr ⟨_, hv, a, rfl, ⟨_, SqT.fr (hG 0 σ H (Nat.zero_le _) h0) (fun z => z) hq⟩, for_it walk_tup Pv h0 (fun i σ' H' hi p => SqT.fr (hG i σ' H' hi p) (fun z => z) hq) (fun i x σ' H' H2 hi p y => by
      obtain ⟨rfl, y⟩ := y
      exact hs i x σ' _ y p) hd⟩

/-! ### own errors: an __init__ that stores its arguments -/
def xfs (fl : List Str) (ws : List V) : List (Str × V) := (fl.zip ws).reverse
def spXI (C : Addr) (fl : List Str) : Sp := fun vs H Q _ => ∃ (a : Addr) (ws : List V), vs = .ref a :: ws ∧ ws.length = fl.length ∧ H a = some (exo a C none) ∧
  ∀ (d : Addr) (H' : Hp), H d = none → d ≠ a → H' a = some (exo a C (some d)) → H' d = some (exd d (xfs fl ws)) → (∀ b, b ≠ a → b ≠ d → H' b = H b) → Q .non H'
structure XCls (P : Program) (w : World) (K : PySem.W.Frag) (mg : Str → Option Value) (base : Heap) (x : Str) (C : Addr) (fl : List Str) : Prop where
  oex : OexC K C
  mgx : mg x = some (.ref C)
  xf : XfC K C
  nof : ∀ f ∈ fl, PySem.W.findIn K (.ref C) f = some none
  init : ∃ (fI : Addr) (fd : FuncData) (ps : List Str), PySem.W.findIn K (.ref C) "__init__" = some (some (.ref fI)) ∧ PySem.W.typeIn K (.ref fI) = some (.type "function") ∧ FnOk P w K mg base CX0 1 fI fd ps (spXI C fl) ∧ Binds K fd ps []
/-- the inner part of making C(vs) -/
def MkX (C : Addr) (fl : List Str) (vs : List V) (H1 : Hp) (Q : XK) : Prop := vs.length ≤ 1000 ∧ ∀ a, H1 a = none → spXI C fl (.ref a :: (vs ++ [])) (upd H1 a (exo a C none))
  (fun v H2 => v = .non ∧ ∃ (d : Addr) (fs : List (Str × V)), H2 a = some (exo a C (some d)) ∧ H2 d = some (exd d fs) ∧ H1 d = none ∧ Q (.ref C) (some d) (upd (del H2 a) d (.xd fs))) (fun _ _ _ => False)
def tMkX (C : Addr) (fl : List Str) (ta : TA) : L2.St → Hp → XK → Prop := fun σ H Q => ta σ H fun vs H1 => MkX C fl vs H1 Q
def tRx (W : WX) (t : L2.St → Hp → XK → Prop) : TS := fun _ σ H => t σ H fun cls d H' => W cls d σ H'
section
variable {X : Cx} {x : Str} {C : Addr} {fl : List Str} {e : Expr} {es : List Expr} {ta : TA} {p pos : Pos} {j : Nat}
theorem pmk_x (T : XCls X.prog X.w X.K X.mg X.base x C fl) (hr : Room j X.A) (hk : 2 ≤ j) (hg : Gl X x) (ha : PA X (e :: es) ta)
    (hdb : (x == ("__debug__" : Str)) = false := by decide) (he : starEach (e :: es) X.env = (false, eval e X.env) :: starEach es X.env := by rfl) (hpl : (backTo pos (starEach es X.env)).any (·.1) = false := by rfl) :
    PMk X (.Call (.Name x p) (e :: es) [] pos) (tMkX C fl ta) := by
  obtain ⟨fI, fd, ps, iC, tI, F1, hb⟩ := T.init
  exact pmk_oex T.oex iC tI F1 (hr.mono hk) hb .nil pass0 hg T.mgx ha hdb he hpl
theorem ps_rx {W : WX} {e : Expr} {t : L2.St → Hp → XK → Prop} {pos : Pos} (hc : X.calm = true) (tk : Takes X W) (he : PMk X e t) : PS X (.Raise (some e) none pos) (tRx W t) := ps_raise hc tk he
end
section
variable {σ : L2.St} {H : Hp} {D : Ends}
theorem g_rx {W : WX} {t : L2.St → Hp → XK → Prop} (h : t σ H fun cls d H' => W cls d σ H') : tRx W t D σ H := h
theorem g_mkx {C : Addr} {fl : List Str} {ta : TA} {Q : XK} (h : ta σ H fun vs H1 => MkX C fl vs H1 Q) : tMkX C fl ta σ H Q := h
/-- C(vs) is made: its own dict d is new and holds the arguments -/
theorem g_mk {C : Addr} {fl : List Str} {vs : List V} {Q : XK} (hl : vs.length = fl.length) (h1 : vs.length ≤ 1000) (q : ∀ (d : Addr) (Hf : Hp), H d = none → Hf d = some (.xd (xfs fl vs)) → Fr NoA H Hf → Q (.ref C) (some d) Hf) : MkX C fl vs H Q := by
  refine ⟨h1, fun a ha => ⟨a, vs, by rw [List.append_nil], hl, upd_same, fun d H' hd ne e1 e2 hk => ⟨rfl, d, _, e1, e2, ?_, ?_⟩⟩⟩
  · rw [upd_ne ne] at hd; exact hd
  · have hd' : H d = none := by rw [upd_ne ne] at hd; exact hd
    refine q d _ hd' upd_same ⟨fun b o e _ => ?_, fun b e => ?_⟩
    · have n1 : b ≠ d := ne_of_none e hd'
      have n2 : b ≠ a := ne_of_none e ha
      rw [upd_ne n1, del_ne n2, hk b n2 n1, upd_ne n2]
      exact e
    · by_cases n1 : b = d
      · rw [n1]; exact hd'
      · by_cases n2 : b = a
        · rw [n2]; exact ha
        · rw [upd_ne n1, del_ne n2, hk b n2 n1, upd_ne n2] at e
          exact e
end

/-! ### a method that may raise, called in a try's body -/
def tMtS (C : Addr) (m : Str) (sp : Sp) (E : L2.St → XK) (ta : TE) (t : TA) : TE := fun σ H Q => ta σ H fun x H1 => ∃ a dx fs, x = .ref a ∧ H1 a = some (.ins C dx fs) ∧ fs.lookup m = none ∧ t σ H1 fun vs H2 => sp (x :: vs) H2 Q (E σ)
theorem pe_mS {X : Cx} {CX : CXT} {k j : Nat} {C : Addr} {m : Str} {sp : Sp} {E : L2.St → XK} {o e : Expr} {es : List Expr} {ta : TE} {t : TA} {apos pos : Pos} {pl : Sem Bool} (c : Met X.prog X.w X.K X.mg X.base CX k C m sp) (hr : Room j X.A) (hk : k ≤ j) (hx : ∀ σ, PassesAt CX X σ (E σ)) (he : PE X o ta) (ha : PA X (e :: es) t)
    (hst : starEach (e :: es) X.env = (false, eval e X.env) :: starEach es X.env := by rfl) (hpl : (backTo pos (starEach es X.env)).any (·.1) = false := by rfl)
    (ht : eval (.Call (.Attribute o m apos) (e :: es) [] pos) X.env = (do
      let ov ← eval o X.env
      standAt apos.atName
      let (f, first) ← holding [ov] (getMethod ov m pl)
      callWith pos f first (backTo pos (starEach (e :: es) X.env)) (backToKw pos (keywordEach [] X.env))) := by rfl) :
    PE X (.Call (.Attribute o m apos) (e :: es) [] pos) (tMtS C m sp E ta t) := by
  obtain ⟨f, fd, ps, hc, hm, F, b⟩ := c.ex
  refine ⟨fun pins s σ H Q I h => PySem.W.methodCall_KW (pl := pl) (thn (he.run pins s σ H _ I h) fun u s1 ⟨x, H1, I1, rx, a, dx, fs, ex, ea, l, q⟩ => ?_) ht⟩
  subst ex
  obtain rfl : u = Value.ref a := rx
  refine getmeth_ok I1 ea hc hm l (PySem.W.callWith_K (first := [.ref a]) (h₀ := X.base) I.ok.mod.kin hm.kp (thn (ha.run pos pins s1 σ H1 _ I1 q) fun us s2 ⟨vs, H2, I2, r, q2⟩ => ⟨I2.kIn, ?_⟩) hst hpl)
  exact run_fnS (us := .ref a :: us) (vs := .ref a :: vs) F (hr.mono hk) b (hx σ) I2 (.cons rfl r) q2
theorem g_mtS {C : Addr} {m : Str} {sp : Sp} {E : L2.St → XK} {ta : TE} {t : TA} {σ : L2.St} {H : Hp} {Q : VK} (h : ta σ H fun x H1 => ∃ a dx fs, x = .ref a ∧ H1 a = some (.ins C dx fs) ∧ fs.lookup m = none ∧ t σ H1 fun vs H2 => sp (x :: vs) H2 Q (E σ)) : tMtS C m sp E ta t σ H Q := h
theorem g_xf {a : Addr} {cls : Value} {d : Option Addr} {C : Addr} {f : Str} {te : TE} {σ : L2.St} {H : Hp} {Q : VK} (h : te σ H fun x H1 => x = .ref a ∧ cls = .ref C ∧ ∃ (dd : Addr) (fs : List (Str × V)) (v : V), d = some dd ∧ H1 dd = some (.xd fs) ∧ fs.lookup f = some v ∧ Q v H1) : tXf a cls d C f te σ H Q := h
/-- try: E (an expression) except C as n: return n.f -/
def tTryF (K : PySem.W.Frag) (C : Addr) (i : Nat) (f : Str) (tb : WX → TS) : TS := fun D σ H => tb (wAs K (.ref C) i (fun a cls d => tRet (tXf a cls d C f (tVar i))) (fun _ _ _ _ => False) D) D σ H

/-! ### words, lists of words: what the program's tests say -/
instance (z : Str) : Decidable (IsW z) := by unfold IsW; infer_instance
theorem abc_mem (c : Nat) : c ∈ abc.cps.toList ↔ 97 ≤ c ∧ c ≤ 122 := by
  rw [abc_list]
  simp only [List.mem_map, List.mem_range]
  constructor
  · rintro ⟨k, hk, rfl⟩
    omega
  · rintro ⟨h1, h2⟩
    exact ⟨c - 97, by omega, by omega⟩
/-- a value that is_word can be asked of -/
def WV (K : PySem.W.Frag) (H : Hp) (v : V) : Prop := (∃ z, v = .str z ∧ z.length ≤ 100000) ∨ TyQ K H v "str" false
/-- the value is a word -/
def IsWV (v : V) : Prop := ∃ z, v = .str z ∧ IsW z
def WList (xs : List V) : Prop := ∃ ts : List Str, xs = ts.map V.str ∧ (∀ z ∈ ts, IsW z) ∧ ts.Nodup
def spIsInt (K : PySem.W.Frag) : Sp := fun vs H Q _ => ∃ (v : V) (b1 b2 : Bool), vs = [v] ∧ TyQ K H v "int" b1 ∧ (b1 = true → TyQ K H v "bool" b2) ∧ Q (.bl (b1 && !b2)) H
def spIsWord (K : PySem.W.Frag) : Sp := fun vs H Q _ => ∃ v : V, vs = [v] ∧ WV K H v ∧ ∀ b : Bool, (b = true ↔ IsWV v) → Q (.bl b) H
def spIsWordList (K : PySem.W.Frag) : Sp := fun vs H Q _ => ∃ (v : V) (lo hi : Int), vs = [v, .int lo, .int hi] ∧
  ((∃ t, TyX K H v t ∧ PySem.W.kitOne K t (.type "list") = some false ∧ PySem.W.kitOne K t (.type "tuple") = some false ∧ ∀ H', Fr NoA H H' → Q (.bl false) H') ∨
    ∃ (a : Addr) (xs : List V), v = .ref a ∧ (SqL K H a xs ∨ SqT K H a xs) ∧ xs.length ≤ 1000 ∧ (∀ x ∈ xs, ∀ H', Fr NoA H H' → WV K H' x) ∧ ∀ (b : Bool) (H' : Hp), (b = true ↔ lo ≤ xs.length ∧ xs.length ≤ hi ∧ WList xs) → Fr NoA H H' → Q (.bl b) H')
/-- the value is a number below n -/
def NumB (v : V) (n : Int) : Prop := ∃ i, v = .int i ∧ 0 ≤ i ∧ i < n
def spIsNumber (K : PySem.W.Frag) : Sp := fun vs H Q _ => ∃ (v : V) (n : Int), vs = [v, .int n] ∧ ((∃ i, v = .int i) ∨ (∃ b, v = .bl b) ∨ TyQ K H v "int" false) ∧ ∀ b : Bool, (b = true ↔ NumB v n) → Q (.bl b) H

structure WTxt (mg : Str → Option Value) : Prop where
  LETTERS : ∃ u, mg "LETTERS" = some u ∧ RelV (.str abc) u
  LONGEST : ∃ u, mg "LONGEST" = some u ∧ RelV (.int 8) u
/-! ### the pool of a law: [cells, at, count] -/
structure PoolAt (H : Hp) (p c : Addr) : Prop where
  ex : ∃ (ns : List Int) (a n : Int), H p = some (.lst [.ref c, .int a, .int n]) ∧ H c = some (.lst (ns.map V.int)) ∧ 0 ≤ a ∧ 0 ≤ n
abbrev PS (p c : Addr) : Addr → Prop := fun b => b = p ∨ b = c
def spDraw : Sp := fun vs H Q _ => ∃ (p c : Addr) (lim : Int), vs = [.ref p, .int lim] ∧ PoolAt H p c ∧ 0 < lim ∧ lim < 2 ^ 200 ∧
  ∀ (r : Int) (H' : Hp), 0 ≤ r → r < lim → PoolAt H' p c → Fr (PS p c) H H' → Q (.int r) H'
theorem PoolAt.new {H : Hp} {p c q : Addr} {o : HO} (P : PoolAt H p c) (n : H q = none) : PoolAt (upd H q o) p c := by
  obtain ⟨ns, a, m, h1, h2, h3, h4⟩ := P.ex
  exact ⟨ns, a, m, by rw [upd_ne (ne_of_none h1 n)]; exact h1, by rw [upd_ne (ne_of_none h2 n)]; exact h2, h3, h4⟩
theorem PoolAt.ne {H : Hp} {p c q : Addr} (P : PoolAt H p c) (n : H q = none) : ¬ PS p c q := by
  obtain ⟨ns, a, m, h1, h2, h3, h4⟩ := P.ex
  intro z
  rcases z with z | z
  · rw [z, h1] at n; cases n
  · rw [z, h2] at n; cases n
/-- another list may change -/
theorem PoolAt.put {H : Hp} {p c q : Addr} {o : HO} (P : PoolAt H p c) (n : ¬ PS p c q) : PoolAt (upd H q o) p c := by
  obtain ⟨ns, a, m, h1, h2, h3, h4⟩ := P.ex
  exact ⟨ns, a, m, by rw [upd_ne (fun z => n (.inl z.symm))]; exact h1, by rw [upd_ne (fun z => n (.inr z.symm))]; exact h2, h3, h4⟩
theorem PoolAt.fr {S : Addr → Prop} {H H' : Hp} {p c : Addr} (P : PoolAt H p c) (f : Fr S H H') (n1 : ¬ S p) (n2 : ¬ S c) : PoolAt H' p c := by
  obtain ⟨ns, a, m, h1, h2, h3, h4⟩ := P.ex
  exact ⟨ns, a, m, f.keep _ _ h1 n1, f.keep _ _ h2 n2, h3, h4⟩
def spPick (K : PySem.W.Frag) : Sp := fun vs H Q _ => ∃ (p c r : Addr) (xs : List V), vs = [.ref p, .ref r] ∧ PoolAt H p c ∧ ¬ PS p c r ∧ SqL K H r xs ∧ 0 < xs.length ∧ xs.length < 1000000 ∧
  ∀ (v : V) (H' : Hp), v ∈ xs → PoolAt H' p c → Fr (PS p c) H H' → Q v H'
def spWord (K : PySem.W.Frag) : Sp := fun vs H Q _ => ∃ (p c t : Addr) (ts : List Str), vs = [.ref p, .ref t] ∧ PoolAt H p c ∧ ¬ PS p c t ∧ SqL K H t (ts.map V.str) ∧ ts.length < 26 ∧
  ∀ (z : Str) (H' : Hp), IsW z → z ∉ ts → PoolAt H' p c → Fr (PS p c) H H' → Q (.str z) H'
def spWords (K : PySem.W.Frag) : Sp := fun vs H Q _ => ∃ (p c : Addr) (lo hi : Nat), vs = [.ref p, .int lo, .int hi] ∧ PoolAt H p c ∧ lo ≤ hi ∧ hi ≤ 20 ∧
  ∀ (l : Addr) (ts : List Str) (H' : Hp), (∀ z ∈ ts, IsW z) → ts.Nodup → lo ≤ ts.length → ts.length ≤ hi → H l = none → H' l = some (.lst (ts.map V.str)) → PoolAt H' p c → Fr (PS p c) H H' → Q (.ref l) H'
/-! ### a heap's objects and names, as the laws draw them -/
def ov : Option Nat → V
  | none => .non
  | some n => .int n
def rowK (fs : List Str) (row : List (Option Nat)) : List (Key × V) := (fs.zip row).map fun p => (Sum.inr p.1, ov p.2)
def nmK (ns : List (Str × Option Nat)) : List (Key × V) := ns.map fun p => (Sum.inr p.1, ov p.2)
/-- a value of a heap of n objects -/
def OkV (n : Nat) (o : Option Nat) : Prop := ∀ k, o = some k → k < n
structure OkO (fs : List Str) (n : Nat) (os : List (List (Option Nat))) : Prop where
  len : os.length = n
  row : ∀ r ∈ os, r.length = fs.length ∧ ∀ v ∈ r, OkV n v
/-- at l a list of dicts at the places as, all of them within φ -/
structure ObjsAt (φ : Addr → Prop) (H : Hp) (l : Addr) (as : List Addr) (fs : List Str) (os : List (List (Option Nat))) : Prop where
  lst : H l = some (.lst (as.map V.ref))
  len : as.length = os.length
  obj : ∀ (i : Nat) (a : Addr) (r : List (Option Nat)), as[i]? = some a → os[i]? = some r → H a = some (.dK (rowK fs r))
  phi : φ l ∧ ∀ a ∈ as, φ a
theorem ObjsAt.imp {φ ψ : Addr → Prop} {H : Hp} {l : Addr} {as : List Addr} {fs : List Str} {os : List (List (Option Nat))} (h : ObjsAt φ H l as fs os) (i : ∀ a, φ a → ψ a) : ObjsAt ψ H l as fs os :=
  ⟨h.lst, h.len, h.obj, i _ h.phi.1, fun a m => i a (h.phi.2 a m)⟩
theorem ObjsAt.keep {φ : Addr → Prop} {H H' : Hp} {l : Addr} {as : List Addr} {fs : List Str} {os : List (List (Option Nat))} (h : ObjsAt φ H l as fs os) (k : ∀ a o, φ a → H a = some o → H' a = some o) : ObjsAt φ H' l as fs os :=
  ⟨k _ _ h.phi.1 h.lst, h.len, fun i a r h1 h2 => k _ _ (h.phi.2 a (List.mem_of_getElem? h1)) (h.obj i a r h1 h2), h.phi⟩
theorem ObjsAt.fr {φ S : Addr → Prop} {H H' : Hp} {l : Addr} {as : List Addr} {fs : List Str} {os : List (List (Option Nat))} (h : ObjsAt φ H l as fs os) (f : Fr S H H') (n : ∀ a, φ a → ¬ S a) : ObjsAt φ H' l as fs os :=
  h.keep fun a o p e => f.keep a o e (n a p)
theorem ObjsAt.sep {φ : Addr → Prop} {H : Hp} {l d : Addr} {as : List Addr} {fs : List Str} {os : List (List (Option Nat))} (h : ObjsAt φ H l as fs os) (n : H d = none) : ObjsAt (fun a => φ a ∧ a ≠ d) H l as fs os :=
  ⟨h.lst, h.len, h.obj, ⟨h.phi.1, ne_of_none h.lst n⟩, fun a ha => ⟨h.phi.2 a ha, by
    obtain ⟨j, hj, e⟩ := List.getElem_of_mem ha
    have hj2 : j < os.length := by rw [← h.len]; exact hj
    exact ne_of_none (h.obj j a os[j] (by rw [← e]; simp) (by simp)) n⟩⟩
/-- one more -/
theorem ObjsAt.more {φ : Addr → Prop} {H : Hp} {l d : Addr} {as : List Addr} {fs : List Str} {os : List (List (Option Nat))} {r : List (Option Nat)} (h : ObjsAt (fun a => φ a ∧ a ≠ d) H l as fs os) (nl : ∀ a ∈ as, a ≠ l) (pd : φ d) (hd : H d = some (.dK (rowK fs r))) :
    ObjsAt φ (upd H l (.lst (as.map V.ref ++ [V.ref d]))) l (as ++ [d]) fs (os ++ [r]) := by
  refine ⟨by rw [upd_same, List.map_append]; rfl, by rw [List.length_append, List.length_append, h.len]; rfl, fun i a x h1 h2 => ?_, h.phi.1.1, fun a ha => ?_⟩
  · by_cases hi : i < as.length
    · rw [List.getElem?_append_left hi] at h1
      rw [List.getElem?_append_left (by rw [← h.len]; exact hi)] at h2
      rw [upd_ne (nl a (List.mem_of_getElem? h1))]
      exact h.obj i a x h1 h2
    · have hl : i = as.length := by
        have := (List.getElem?_eq_some_iff.mp h1).1
        rw [List.length_append] at this
        simp at this
        omega
      subst hl
      rw [List.getElem?_append_right (Nat.le_refl _)] at h1
      rw [h.len, List.getElem?_append_right (Nat.le_refl _)] at h2
      simp at h1 h2
      subst h1 h2
      rw [upd_ne (Ne.symm h.phi.1.2)]
      exact hd
  · rcases List.mem_append.mp ha with z | z
    · exact (h.phi.2 a z).1
    · rw [List.mem_singleton.mp z]; exact pd
theorem ObjsAt.nl {φ : Addr → Prop} {H : Hp} {l : Addr} {as : List Addr} {fs : List Str} {os : List (List (Option Nat))} (h : ObjsAt φ H l as fs os) : ∀ a ∈ as, a ≠ l := fun a ha e => by
  obtain ⟨j, hj, e2⟩ := List.getElem_of_mem ha
  have hj2 : j < os.length := by rw [← h.len]; exact hj
  have z := h.obj j a os[j] (by rw [← e2]; simp) (by simp)
  rw [e, h.lst] at z
  cases z
def spValue : Sp := fun vs H Q _ => ∃ (p c : Addr) (n : Nat), vs = [.ref p, .int n] ∧ PoolAt H p c ∧ n ≤ 1000 ∧ ∀ (o : Option Nat) (H' : Hp), OkV n o → PoolAt H' p c → Fr (PS p c) H H' → Q (ov o) H'
def spObjects (K : PySem.W.Frag) : Sp := fun vs H Q _ => ∃ (p c f : Addr) (fs : List Str) (n : Nat), vs = [.ref p, .ref f, .int n] ∧ PoolAt H p c ∧ ¬ PS p c f ∧ SqL K H f (fs.map V.str) ∧ fs.Nodup ∧ fs.length ≤ 10 ∧ n ≤ 1000 ∧
  ∀ (l : Addr) (as : List Addr) (os : List (List (Option Nat))) (H' : Hp), OkO fs n os → ObjsAt (fun a => H a = none) H' l as fs os → PoolAt H' p c → Fr (PS p c) H H' → Q (.ref l) H'
def spNames (K : PySem.W.Frag) : Sp := fun vs H Q _ => ∃ (p c t : Addr) (ts : List Str) (n : Nat), vs = [.ref p, .ref t, .int n] ∧ PoolAt H p c ∧ ¬ PS p c t ∧ SqL K H t (ts.map V.str) ∧ ts.Nodup ∧ ts.length ≤ 100 ∧ n ≤ 1000 ∧
  ∀ (d : Addr) (ns : List (Str × Option Nat)) (H' : Hp), ns.map Prod.fst = ts → (∀ x ∈ ns, OkV n x.2) → H d = none → H' d = some (.dK (nmK ns)) → PoolAt H' p c → Fr (PS p c) H H' → Q (.ref d) H'
theorem keys_rowK (fs : List Str) (row : List (Option Nat)) (h : row.length = fs.length) : (rowK fs row).map Prod.fst = fs.map Sum.inr := by
  unfold rowK
  rw [List.map_map]
  show (fs.zip row).map ((Sum.inr : Str → Key) ∘ Prod.fst) = _
  rw [← List.map_map, List.map_fst_zip (by omega)]
theorem keys_nmK (ns : List (Str × Option Nat)) : (nmK ns).map Prod.fst = (ns.map Prod.fst).map Sum.inr := by
  unfold nmK
  rw [List.map_map, List.map_map]
  rfl
theorem valV_no {κ : Type} [DecidableEq κ] {kvs : List (κ × V)} {k : κ} (h : k ∉ kvs.map Prod.fst) : valV kvs k = none := by
  cases e : valV kvs k with
  | none => rfl
  | some v => exact absurd (valV_in e) h
theorem putK_snoc {κ : Type} [DecidableEq κ] {kvs : List (κ × V)} {k : κ} {u v : V} (h : k ∉ kvs.map Prod.fst) : putK (kvs ++ [(k, u)]) k v = kvs ++ [(k, v)] := by
  unfold putK
  rw [if_pos (by simp), List.map_append]
  congr 1
  · refine (List.map_congr_left (g := id) fun p hp => ?_).trans (List.map_id _)
    rw [if_neg (fun (z : p.1 = k) => h (by rw [← z]; exact List.mem_map_of_mem hp))]
    rfl
  · simp
theorem inr_mem {ts : List Str} {z : Str} : (Sum.inr z : Key) ∈ ts.map Sum.inr ↔ z ∈ ts := by simp
theorem valV_mem {κ : Type} [DecidableEq κ] : ∀ {kvs : List (κ × V)} {k : κ} {v : V}, (kvs.map Prod.fst).Nodup → (k, v) ∈ kvs → valV kvs k = some v
  | [], _, _, _, h => by simp at h
  | p :: r, k, v, nd, h => by
    have nd : (p.1 :: r.map Prod.fst).Nodup := nd
    obtain ⟨n1, n2⟩ := List.nodup_cons.mp nd
    rcases List.mem_cons.mp h with e | e
    · subst e
      exact valV_pos rfl
    · have : ¬ p.1 = k := fun z => n1 (by rw [z]; exact List.mem_map_of_mem (f := Prod.fst) e)
      rw [valV_neg this]
      exact valV_mem n2 e
theorem inr_nodup {ts : List Str} (h : ts.Nodup) : (ts.map (Sum.inr : Str → Key)).Nodup := by
  induction ts with
  | nil => exact List.nodup_nil
  | cons a r ih =>
    obtain ⟨h1, h2⟩ := List.nodup_cons.mp h
    rw [List.map_cons]
    exact List.nodup_cons.mpr ⟨fun m => h1 (inr_mem.mp m), ih h2⟩
theorem val_row {fs : List Str} {row : List (Option Nat)} {j : Nat} {z : Str} {o : Option Nat} (nd : fs.Nodup) (hl : row.length = fs.length) (h1 : fs[j]? = some z) (h2 : row[j]? = some o) : valV (rowK fs row) (.inr z) = some (ov o) := by
  refine valV_mem (by rw [keys_rowK _ _ hl]; exact inr_nodup nd) ?_
  unfold rowK
  refine List.mem_map.mpr ⟨(z, o), ?_, rfl⟩
  refine List.mem_of_getElem? (i := j) ?_
  rw [List.getElem?_zip_eq_some]
  exact ⟨h1, h2⟩
theorem val_nm {ns : List (Str × Option Nat)} {z : Str} {o : Option Nat} (nd : (ns.map Prod.fst).Nodup) (h : (z, o) ∈ ns) : valV (nmK ns) (.inr z) = some (ov o) := by
  refine valV_mem (by rw [keys_nmK]; exact inr_nodup nd) ?_
  unfold nmK
  exact List.mem_map.mpr ⟨(z, o), h, rfl⟩
theorem val_nm_none {ns : List (Str × Option Nat)} {z : Str} (h : z ∉ ns.map Prod.fst) : valV (nmK ns) (.inr z) = none := by
  refine valV_no ?_
  rw [keys_nmK, inr_mem]
  exact h
theorem ov_non (o : Option Nat) : (ov o = .non) ↔ o = none := by
  cases o with
  | none => exact ⟨fun _ => rfl, fun _ => rfl⟩
  | some n => exact ⟨fun h => (by cases h), fun h => (by cases h)⟩
def spIsObj (K : PySem.W.Frag) : Sp := fun vs H Q _ => ∃ (d f : Addr) (fs : List Str) (row : List (Option Nat)) (n : Nat), vs = [.ref d, .ref f, .int n] ∧ H d = some (.dK (rowK fs row)) ∧ (SqL K H f (fs.map V.str) ∨ SqT K H f (fs.map V.str)) ∧ fs.Nodup ∧ row.length = fs.length ∧ fs.length ≤ 10 ∧ (∀ v ∈ row, OkV n v) ∧ Q (.bl true) H
def spCheckObjs (K : PySem.W.Frag) : Sp := fun vs H Q _ => ∃ (l f : Addr) (as : List Addr) (fs : List Str) (os : List (List (Option Nat))) (n : Nat), vs = [.ref l, .ref f] ∧ ObjsAt (fun _ => True) H l as fs os ∧ OkO fs n os ∧ n ≤ 200 ∧ (SqL K H f (fs.map V.str) ∨ SqT K H f (fs.map V.str)) ∧ fs.Nodup ∧ fs.length ≤ 10 ∧
  ∀ H', Fr NoA H H' → Q .non H'
def spCheckNames (K : PySem.W.Frag) : Sp := fun vs H Q _ => ∃ (d : Addr) (ns : List (Str × Option Nat)) (n : Nat), vs = [.ref d, .int n] ∧ H d = some (.dK (nmK ns)) ∧ (ns.map Prod.fst).Nodup ∧ ns.length ≤ 6 ∧ (∀ x ∈ ns, IsW x.1 ∧ OkV n x.2) ∧
  ∀ H', Fr NoA H H' → Q .non H'
/-! ### the order of meeting, in plain Lean -/
def meet (ord : List Nat) : Option Nat → List Nat
  | none => ord
  | some k => if k ∈ ord then ord else ord ++ [k]
def meets (ord : List Nat) (vs : List (Option Nat)) : List Nat := vs.foldl meet ord
def bfs (os : List (List (Option Nat))) : Nat → List Nat → Nat → List Nat
  | 0, ord, _ => ord
  | f + 1, ord, i => if i < ord.length then bfs os f (meets ord (os.getD (ord.getD i 0) [])) (i + 1) else ord
def order (os : List (List (Option Nat))) (roots : List (Option Nat)) : List Nat := bfs os os.length (meets [] roots) 0
structure OkOrd (n : Nat) (ord : List Nat) : Prop where
  nd : ord.Nodup
  lt : ∀ k ∈ ord, k < n
theorem OkOrd.len {n : Nat} {ord : List Nat} (h : OkOrd n ord) : ord.length ≤ n := by
  have := sub_len (ts := List.range n) h.nd fun k hk => List.mem_range.mpr (h.lt k hk)
  simpa using this
theorem meet_ok {n : Nat} {ord : List Nat} {o : Option Nat} (h : OkOrd n ord) (ho : OkV n o) : OkOrd n (meet ord o) := by
  cases o with
  | none => exact h
  | some k =>
    show OkOrd n (if k ∈ ord then ord else ord ++ [k])
    by_cases hk : k ∈ ord
    · rw [if_pos hk]; exact h
    · rw [if_neg hk]
      refine ⟨nd_snoc h.nd hk, fun j hj => ?_⟩
      rcases List.mem_append.mp hj with z | z
      · exact h.lt j z
      · rw [List.mem_singleton.mp z]; exact ho k rfl
theorem meet_sub {ord : List Nat} {o : Option Nat} {k : Nat} (h : k ∈ ord) : k ∈ meet ord o := by
  cases o with
  | none => exact h
  | some j =>
    show k ∈ (if j ∈ ord then ord else ord ++ [j])
    split
    · exact h
    · exact List.mem_append_left _ h
theorem meet_has {ord : List Nat} {k : Nat} : k ∈ meet ord (some k) := by
  show k ∈ (if k ∈ ord then ord else ord ++ [k])
  split
  · assumption
  · exact List.mem_append_right _ (List.mem_singleton.mpr rfl)
theorem meet_pre {ord : List Nat} {o : Option Nat} : ∃ r, meet ord o = ord ++ r := by
  cases o with
  | none => exact ⟨[], by simp [meet]⟩
  | some j =>
    show ∃ r, (if j ∈ ord then ord else ord ++ [j]) = ord ++ r
    split
    · exact ⟨[], by simp⟩
    · exact ⟨[j], rfl⟩
theorem meets_ok {n : Nat} : ∀ {vs : List (Option Nat)} {ord : List Nat}, OkOrd n ord → (∀ o ∈ vs, OkV n o) → OkOrd n (meets ord vs)
  | [], _, h, _ => h
  | v :: r, ord, h, hv => meets_ok (vs := r) (ord := meet ord v) (meet_ok h (hv v List.mem_cons_self)) fun o ho => hv o (List.mem_cons_of_mem _ ho)
theorem meets_pre : ∀ {vs : List (Option Nat)} {ord : List Nat}, ∃ r, meets ord vs = ord ++ r
  | [], ord => ⟨[], by simp [meets]⟩
  | v :: r, ord => by
    obtain ⟨a, ha⟩ := meet_pre (ord := ord) (o := v)
    obtain ⟨b, hb⟩ := meets_pre (vs := r) (ord := meet ord v)
    refine ⟨a ++ b, ?_⟩
    show meets (meet ord v) r = _
    rw [hb, ha, List.append_assoc]
theorem meets_sub {vs : List (Option Nat)} {ord : List Nat} {k : Nat} (h : k ∈ ord) : k ∈ meets ord vs := by
  obtain ⟨r, e⟩ := meets_pre (vs := vs) (ord := ord)
  rw [e]
  exact List.mem_append_left _ h
theorem meets_has : ∀ {vs : List (Option Nat)} {ord : List Nat} {k : Nat}, some k ∈ vs → k ∈ meets ord vs
  | v :: r, ord, k, h => by
    show k ∈ meets (meet ord v) r
    rcases List.mem_cons.mp h with e | e
    · subst e
      exact meets_sub meet_has
    · exact meets_has e
theorem meets_snoc (ord : List Nat) (vs : List (Option Nat)) (v : Option Nat) : meets ord (vs ++ [v]) = meet (meets ord vs) v := by
  unfold meets
  rw [List.foldl_append]
  rfl
/-- what is so while the queue is worked off -/
structure BfsInv (os : List (List (Option Nat))) (roots : List (Option Nat)) (ord : List Nat) (i : Nat) : Prop where
  ok : OkOrd os.length ord
  rt : ∀ k, some k ∈ roots → k ∈ ord
  cl : ∀ j k, j < i → ord[j]? = some k → ∀ m, some m ∈ os.getD k [] → m ∈ ord
  le : i ≤ ord.length
  eq : bfs os (os.length - i) ord i = order os roots
theorem bfs_start {os : List (List (Option Nat))} {roots : List (Option Nat)} (hr : ∀ o ∈ roots, OkV os.length o) : BfsInv os roots (meets [] roots) 0 :=
  ⟨meets_ok ⟨List.nodup_nil, by simp⟩ hr, fun k hk => meets_has hk, fun j k hj => absurd hj (by omega), Nat.zero_le _, rfl⟩
theorem bfs_turn {os : List (List (Option Nat))} {roots : List (Option Nat)} {ord : List Nat} {i k : Nat} (B : BfsInv os roots ord i) (hk : ord[i]? = some k) (ho : ∀ r ∈ os, ∀ v ∈ r, OkV os.length v) : BfsInv os roots (meets ord (os.getD k [])) (i + 1) := by
  have il : i < ord.length := (List.getElem?_eq_some_iff.mp hk).1
  have ek : ord.getD i 0 = k := by rw [List.getD_eq_getElem?_getD, hk]; rfl
  have kl : k < os.length := B.ok.lt k (List.mem_of_getElem? hk)
  have hrow : os.getD k [] = os[k] := by rw [List.getD_eq_getElem?_getD, List.getElem?_eq_getElem kl]; rfl
  have hv : ∀ o ∈ os.getD k [], OkV os.length o := fun o h => ho os[k] (List.getElem_mem kl) o (by rw [← hrow]; exact h)
  obtain ⟨r, er⟩ := meets_pre (vs := os.getD k []) (ord := ord)
  refine ⟨meets_ok B.ok hv, fun j hj => meets_sub (B.rt j hj), fun j m hj hm x hx => ?_, ?_, ?_⟩
  · have jl : j < ord.length := by omega
    have hm2 : ord[j]? = some m := by rw [er, List.getElem?_append_left jl] at hm; exact hm
    by_cases e : j = i
    · subst e
      rw [hk] at hm2
      cases hm2
      exact meets_has hx
    · exact meets_sub (B.cl j m (by omega) hm2 x hx)
  · rw [er, List.length_append]; omega
  · have hl := B.ok.len
    have e1 : os.length - i = (os.length - (i + 1)) + 1 := by omega
    have e2 := B.eq
    rw [e1] at e2
    show bfs os (os.length - (i + 1)) (meets ord (os.getD k [])) (i + 1) = _
    rw [← e2]
    show _ = (if i < ord.length then bfs os (os.length - (i + 1)) (meets ord (os.getD (ord.getD i 0) [])) (i + 1) else ord)
    rw [if_pos il, ek]
theorem bfs_end {os : List (List (Option Nat))} {roots : List (Option Nat)} {ord : List Nat} {i : Nat} (B : BfsInv os roots ord i) (h : ord.length ≤ i) : ord = order os roots := by
  rw [← B.eq]
  cases e : os.length - i with
  | zero => rfl
  | succ f =>
    show ord = (if i < ord.length then bfs os f (meets ord (os.getD (ord.getD i 0) [])) (i + 1) else ord)
    rw [if_neg (by omega)]
/-- the order is closed -/
structure Closed (os : List (List (Option Nat))) (roots : List (Option Nat)) (ord : List Nat) : Prop where
  ok : OkOrd os.length ord
  rt : ∀ k, some k ∈ roots → k ∈ ord
  cl : ∀ k ∈ ord, ∀ m, some m ∈ os.getD k [] → m ∈ ord
theorem bfs_closed {os : List (List (Option Nat))} {roots : List (Option Nat)} {ord : List Nat} {i : Nat} (B : BfsInv os roots ord i) (h : ord.length ≤ i) : Closed os roots (order os roots) := by
  rw [← bfs_end B h]
  refine ⟨B.ok, B.rt, fun k hk m hm => ?_⟩
  obtain ⟨j, hj, e⟩ := List.getElem_of_mem hk
  exact B.cl j k (by omega) (by rw [List.getElem?_eq_getElem hj, e]) m hm
/-- the dict of the new numbers -/
def numK (ord : List Nat) : List (Key × V) := ord.zipIdx.map fun p => (Sum.inl (p.1 : Int), V.int p.2)
theorem numK_len (ord : List Nat) : (numK ord).length = ord.length := by unfold numK; rw [List.length_map, List.length_zipIdx]
theorem keys_numK (ord : List Nat) : (numK ord).map Prod.fst = ord.map fun (k : Nat) => (Sum.inl (k : Int) : Key) := by
  unfold numK
  rw [List.map_map]
  show ord.zipIdx.map ((fun k : Nat => (Sum.inl (k : Int) : Key)) ∘ Prod.fst) = _
  rw [← List.map_map, List.zipIdx_map_fst]
theorem inl_mem {ord : List Nat} {k : Nat} : (Sum.inl (k : Int) : Key) ∈ ord.map (fun (k : Nat) => (Sum.inl (k : Int) : Key)) ↔ k ∈ ord := by
  simp only [List.mem_map]
  constructor
  · rintro ⟨a, h, e⟩
    have := Sum.inl.inj e
    have : a = k := by omega
    rw [← this]
    exact h
  · exact fun h => ⟨k, h, rfl⟩
theorem num_has (ord : List Nat) (k : Nat) : (valV (numK ord) (.inl (k : Int))).isSome = decide (k ∈ ord) := by
  cases e : valV (numK ord) (.inl (k : Int)) with
  | none =>
    have h := valV_not e
    rw [keys_numK, inl_mem] at h
    rw [decide_eq_false h]
    rfl
  | some v =>
    have h := valV_in e
    rw [keys_numK, inl_mem] at h
    rw [decide_eq_true h]
    rfl
theorem num_put {ord : List Nat} {k : Nat} (h : k ∉ ord) : putK (numK ord) (.inl (k : Int)) (.int (ord.length : Nat)) = numK (ord ++ [k]) := by
  rw [putK_new _ (valV_no (by rw [keys_numK, inl_mem]; exact h))]
  unfold numK
  rw [List.zipIdx_append, List.map_append]
  simp
theorem inl_nodup {ord : List Nat} (h : ord.Nodup) : (ord.map fun (k : Nat) => (Sum.inl (k : Int) : Key)).Nodup := by
  induction ord with
  | nil => exact List.nodup_nil
  | cons a r ih =>
    obtain ⟨h1, h2⟩ := List.nodup_cons.mp h
    rw [List.map_cons]
    exact List.nodup_cons.mpr ⟨fun m => h1 (inl_mem.mp m), ih h2⟩
theorem num_get {ord : List Nat} {k i : Nat} (nd : ord.Nodup) (h : ord[i]? = some k) : valV (numK ord) (.inl (k : Int)) = some (.int (i : Nat)) := by
  refine valV_mem (by rw [keys_numK]; exact inl_nodup nd) ?_
  unfold numK
  refine List.mem_map.mpr ⟨(k, i), ?_, rfl⟩
  refine List.mem_of_getElem? (i := i) ?_
  rw [List.getElem?_zipIdx, h]
  simp
theorem num_idx {ord : List Nat} {k : Nat} (nd : ord.Nodup) (h : k ∈ ord) : valV (numK ord) (.inl (k : Int)) = some (.int (ord.idxOf k : Nat)) := by
  refine num_get nd ?_
  have hl := List.idxOf_lt_length_of_mem h
  rw [List.getElem?_eq_getElem hl, List.getElem_idxOf hl]
/-! ### END meet -/
/-! ### data of the heap, all of it within φ -/
mutual
inductive Rp (φ : Addr → Prop) (K : PySem.W.Frag) (H : Hp) : V → PyData → Prop
  | non : Rp φ K H .non .none
  | bl (b : Bool) : Rp φ K H (.bl b) (.bool b)
  | int (i : Int) : Rp φ K H (.int i) (.int i)
  | str (x : Str) : Rp φ K H (.str x) (.str x)
  | lst {a : Addr} {xs : List V} {ds : List PyData} : H a = some (.lst xs) → φ a → RpAll φ K H xs ds → Rp φ K H (.ref a) (.list ds)
  | tup {a : Addr} {xs : List V} {ds : List PyData} : H a = some (.tup xs) → φ a → RpAll φ K H xs ds → Rp φ K H (.ref a) (.tuple ds)
inductive RpAll (φ : Addr → Prop) (K : PySem.W.Frag) (H : Hp) : List V → List PyData → Prop
  | nil : RpAll φ K H [] []
  | cons {v : V} {vs : List V} {d : PyData} {ds : List PyData} : Rp φ K H v d → RpAll φ K H vs ds → RpAll φ K H (v :: vs) (d :: ds)
end
mutual
theorem Rp.dp {φ : Addr → Prop} {K : PySem.W.Frag} {H : Hp} : ∀ {v : V} {d : PyData}, Rp φ K H v d → Dp K H v d
  | _, _, .non => .non
  | _, _, .bl b => .bl b
  | _, _, .int i => .int i
  | _, _, .str x => .str x
  | _, _, .lst h _ r => .lst (lq h) (RpAll.dp r)
  | _, _, .tup h _ r => .tup (tq h) (RpAll.dp r)
theorem RpAll.dp {φ : Addr → Prop} {K : PySem.W.Frag} {H : Hp} : ∀ {vs : List V} {ds : List PyData}, RpAll φ K H vs ds → DpAll K H vs ds
  | _, _, .nil => .nil
  | _, _, .cons h r => .cons (Rp.dp h) (RpAll.dp r)
end
mutual
theorem Rp.fr {φ S : Addr → Prop} {K : PySem.W.Frag} {H H' : Hp} (f : Fr S H H') (n : ∀ a, φ a → ¬ S a) : ∀ {v : V} {d : PyData}, Rp φ K H v d → Rp φ K H' v d
  | _, _, .non => .non
  | _, _, .bl b => .bl b
  | _, _, .int i => .int i
  | _, _, .str x => .str x
  | _, _, .lst h p r => .lst (f.keep _ _ h (n _ p)) p (RpAll.fr f n r)
  | _, _, .tup h p r => .tup (f.keep _ _ h (n _ p)) p (RpAll.fr f n r)
theorem RpAll.fr {φ S : Addr → Prop} {K : PySem.W.Frag} {H H' : Hp} (f : Fr S H H') (n : ∀ a, φ a → ¬ S a) : ∀ {vs : List V} {ds : List PyData}, RpAll φ K H vs ds → RpAll φ K H' vs ds
  | _, _, .nil => .nil
  | _, _, .cons h r => .cons (Rp.fr f n h) (RpAll.fr f n r)
end
mutual
theorem Rp.imp {φ ψ : Addr → Prop} {K : PySem.W.Frag} {H : Hp} (i : ∀ a, φ a → ψ a) : ∀ {v : V} {d : PyData}, Rp φ K H v d → Rp ψ K H v d
  | _, _, .non => .non
  | _, _, .bl b => .bl b
  | _, _, .int i => .int i
  | _, _, .str x => .str x
  | _, _, .lst h p r => .lst h (i _ p) (RpAll.imp i r)
  | _, _, .tup h p r => .tup h (i _ p) (RpAll.imp i r)
theorem RpAll.imp {φ ψ : Addr → Prop} {K : PySem.W.Frag} {H : Hp} (i : ∀ a, φ a → ψ a) : ∀ {vs : List V} {ds : List PyData}, RpAll φ K H vs ds → RpAll ψ K H vs ds
  | _, _, .nil => .nil
  | _, _, .cons h r => .cons (Rp.imp i h) (RpAll.imp i r)
end
mutual
theorem Rp.sep {φ : Addr → Prop} {K : PySem.W.Frag} {H : Hp} {d : Addr} (n : H d = none) : ∀ {v : V} {e : PyData}, Rp φ K H v e → Rp (fun a => φ a ∧ a ≠ d) K H v e
  | _, _, .non => .non
  | _, _, .bl b => .bl b
  | _, _, .int i => .int i
  | _, _, .str x => .str x
  | _, _, .lst h p r => .lst h ⟨p, ne_of_none h n⟩ (RpAll.sep n r)
  | _, _, .tup h p r => .tup h ⟨p, ne_of_none h n⟩ (RpAll.sep n r)
theorem RpAll.sep {φ : Addr → Prop} {K : PySem.W.Frag} {H : Hp} {d : Addr} (n : H d = none) : ∀ {vs : List V} {es : List PyData}, RpAll φ K H vs es → RpAll (fun a => φ a ∧ a ≠ d) K H vs es
  | _, _, .nil => .nil
  | _, _, .cons h r => .cons (Rp.sep n h) (RpAll.sep n r)
end
theorem RpAll.len {φ : Addr → Prop} {K : PySem.W.Frag} {H : Hp} : ∀ {vs : List V} {ds : List PyData}, RpAll φ K H vs ds → vs.length = ds.length
  | _, _, .nil => rfl
  | _, _, .cons _ r => by rw [List.length_cons, List.length_cons, r.len]
theorem RpAll.snoc {φ : Addr → Prop} {K : PySem.W.Frag} {H : Hp} : ∀ {vs : List V} {ds : List PyData} {v : V} {d : PyData}, RpAll φ K H vs ds → Rp φ K H v d → RpAll φ K H (vs ++ [v]) (ds ++ [d])
  | _, _, _, _, .nil, h => .cons h .nil
  | _, _, _, _, .cons h r, h2 => .cons h (r.snoc h2)
theorem RpAll.strs {φ : Addr → Prop} {K : PySem.W.Frag} {H : Hp} : ∀ ts : List Str, RpAll φ K H (ts.map V.str) (ts.map PyData.str)
  | [] => .nil
  | t :: r => .cons (.str t) (RpAll.strs r)
def dov : Option Nat → PyData
  | none => .none
  | some n => .int n
theorem Rp.ov {φ : Addr → Prop} {K : PySem.W.Frag} {H : Hp} (o : Option Nat) : Rp φ K H (ov o) (dov o) := by
  cases o with
  | none => exact .non
  | some n => exact .int n
theorem RpAll.ovs {φ : Addr → Prop} {K : PySem.W.Frag} {H : Hp} (g : Option Nat → Option Nat) : ∀ row : List (Option Nat), RpAll φ K H (row.map fun o => ov (g o)) (row.map fun o => dov (g o))
  | [] => .nil
  | o :: r => .cons (.ov (g o)) (RpAll.ovs g r)
/-- what a name holds -/
def look (ns : List (Str × Option Nat)) (z : Str) : Option Nat := ((ns.find? fun p => decide (p.1 = z)).map Prod.snd).getD none
theorem look_mem {ns : List (Str × Option Nat)} {z : Str} {o : Option Nat} (nd : (ns.map Prod.fst).Nodup) (h : (z, o) ∈ ns) : look ns z = o := by
  unfold look
  have e : ns.find? (fun p => decide (p.1 = z)) = some (z, o) := by
    induction ns with
    | nil => simp at h
    | cons p r ih =>
      obtain ⟨n1, n2⟩ := List.nodup_cons.mp (show (p.1 :: r.map Prod.fst).Nodup from nd)
      rcases List.mem_cons.mp h with e | e
      · subst e
        rw [List.find?_cons_of_pos (by simp)]
      · rw [List.find?_cons_of_neg (by
          simp only [decide_eq_true_eq]
          intro z2
          exact n1 (by rw [z2]; exact List.mem_map_of_mem (f := Prod.fst) e))]
        exact ih n2 e
  rw [e]
  rfl
theorem val_look {ns : List (Str × Option Nat)} {z : Str} (nd : (ns.map Prod.fst).Nodup) (h : z ∈ ns.map Prod.fst) : valV (nmK ns) (.inr z) = some (ov (look ns z)) := by
  obtain ⟨y, hy, rfl⟩ := List.mem_map.mp h
  rw [look_mem nd (show (y.1, y.2) ∈ ns from hy)]
  exact val_nm nd hy
theorem look_ok {ns : List (Str × Option Nat)} {n : Nat} {z : Str} (ho : ∀ x ∈ ns, OkV n x.2) : OkV n (look ns z) := by
  unfold look
  cases e : ns.find? (fun p => decide (p.1 = z)) with
  | none => exact fun k h => (by cases h)
  | some p => exact ho p (List.mem_of_find?_eq_some e)
def shapeD (fs ys : List Str) (ns : List (Str × Option Nat)) (os : List (List (Option Nat))) : PyData :=
  .tuple [.tuple (fs.map .str), .tuple (ys.map fun z => .tuple [.str z, dov ((look ns z).map (order os (ys.map (look ns))).idxOf)]), .tuple ((order os (ys.map (look ns))).map fun k => .tuple ((os.getD k []).map fun o => dov (o.map (order os (ys.map (look ns))).idxOf)))]
def spMeeting (K : PySem.W.Frag) : Sp := fun vs H Q _ => ∃ (l f r : Addr) (as : List Addr) (fs : List Str) (os : List (List (Option Nat))) (n : Nat) (roots : List (Option Nat)), vs = [.ref l, .ref f, .ref r] ∧ ObjsAt (fun _ => True) H l as fs os ∧ OkO fs n os ∧ n ≤ 200 ∧ (SqL K H f (fs.map V.str) ∨ SqT K H f (fs.map V.str)) ∧ fs.Nodup ∧ fs.length ≤ 10 ∧
  SqL K H r (roots.map ov) ∧ (∀ o ∈ roots, OkV n o) ∧ roots.length ≤ 1000 ∧ ∀ d H', H d = none → Closed os roots (order os roots) → H' d = some (.dK (numK (order os roots))) → Fr NoA H H' → Q (.ref d) H'
def spRenum : Sp := fun vs H Q _ => ∃ (o : Option Nat) (d : Addr) (ord : List Nat), vs = [ov o, .ref d] ∧ Rd H d (.dK (numK ord)) ∧ ord.Nodup ∧ (∀ k, o = some k → k ∈ ord) ∧ Q (ov (o.map ord.idxOf)) H
/-! ### a Heap that stands -/
def hf3 (t l d : V) : List (Str × V) := [("fields", t), ("held", l), ("holders", d)]
def hf4 (t l d s : V) : List (Str × V) := [("fields", t), ("held", l), ("holders", d), ("shape", s)]
theorem lk_fields3 (t l d : V) : (hf3 t l d).lookup ("fields" : Str) = some t := by simp [hf3, List.lookup]
theorem ne_ff : (("held" : Str) == "fields") = false ∧ (("holders" : Str) == "fields") = false ∧ (("holders" : Str) == "held") = false ∧ (("shape" : Str) == "fields") = false ∧ (("shape" : Str) == "held") = false ∧ (("shape" : Str) == "holders") = false := by decide +kernel
theorem lk_held3 (t l d : V) : (hf3 t l d).lookup ("held" : Str) = some l := by simp [hf3, List.lookup, ne_ff]
theorem lk_holders3 (t l d : V) : (hf3 t l d).lookup ("holders" : Str) = some d := by simp [hf3, List.lookup, ne_ff]
theorem lk_fields (t l d s : V) : (hf4 t l d s).lookup ("fields" : Str) = some t := by simp [hf4, List.lookup]
theorem lk_held (t l d s : V) : (hf4 t l d s).lookup ("held" : Str) = some l := by simp [hf4, List.lookup, ne_ff]
theorem lk_holders (t l d s : V) : (hf4 t l d s).lookup ("holders" : Str) = some d := by simp [hf4, List.lookup, ne_ff]
theorem lk_shape (t l d s : V) : (hf4 t l d s).lookup ("shape" : Str) = some s := by simp [hf4, List.lookup, ne_ff]
theorem lk_no3 (t l d : V) {m : Str} (h : (m == "fields") = false ∧ (m == "held") = false ∧ (m == "holders") = false) : (hf3 t l d).lookup m = none := by
  obtain ⟨h1, h2, h3⟩ := h
  simp only [hf3, List.lookup, h1, h2, h3]
theorem lk_no (t l d s : V) {m : Str} (h : (m == "fields") = false ∧ (m == "held") = false ∧ (m == "holders") = false ∧ (m == "shape") = false) : (hf4 t l d s).lookup m = none := by
  obtain ⟨h1, h2, h3, h4⟩ := h
  simp only [hf4, List.lookup, h1, h2, h3, h4]
theorem put_f1 (t : V) : putF "fields" t [] = [(("fields" : Str), t)] := rfl
theorem put_f2 (t l : V) : putF "held" l [(("fields" : Str), t)] = [(("fields" : Str), t), ("held", l)] := by
  show (if ("fields" : Str) = "held" then _ else _) = _
  rw [if_neg (by decide +kernel)]
  rfl
theorem put_f3 (t l d : V) : putF "holders" d [(("fields" : Str), t), ("held", l)] = hf3 t l d := by
  show (if ("fields" : Str) = "holders" then _ else (("fields" : Str), t) :: (if ("held" : Str) = "holders" then _ else _)) = _
  rw [if_neg (by decide +kernel), if_neg (by decide +kernel)]
  rfl
theorem put_f4 (t l d s : V) : putF "shape" s (hf3 t l d) = hf4 t l d s := by
  show (if ("fields" : Str) = "shape" then _ else (("fields" : Str), t) :: (if ("held" : Str) = "shape" then _ else (("held" : Str), l) :: (if ("holders" : Str) = "shape" then _ else _))) = _
  rw [if_neg (by decide +kernel), if_neg (by decide +kernel), if_neg (by decide +kernel)]
  rfl
/-- the class's own facts -/
structure HCls (K : PySem.W.Frag) (C : Addr) : Prop where
  cl : Cls K C
  n1 : NoAttr K C "fields"
  n2 : NoAttr K C "held"
  n3 : NoAttr K C "holders"
  n4 : NoAttr K C "shape"
/-- a whole Heap at x, all of it within φ: its tuple of fields at t, its list at l of the dicts at as, its dict of names at d, its shape v -/
structure HeapAt (φ : Addr → Prop) (K : PySem.W.Frag) (C : Addr) (H : Hp) (x : Addr) (fs : List Str) (os : List (List (Option Nat))) (ns : List (Str × Option Nat)) : Prop where
  ex : ∃ (t l d dx : Addr) (v : V) (as : List Addr) (ys : List Str), H x = some (.ins C dx (hf4 (.ref t) (.ref l) (.ref d) v)) ∧ φ x ∧ H t = some (.tup (fs.map V.str)) ∧ φ t ∧ ObjsAt φ H l as fs os ∧ H d = some (.dK (nmK ns)) ∧ φ d ∧ ys.Perm (ns.map Prod.fst) ∧ sortedS ys = true ∧ Rp φ K H v (shapeD fs ys ns os)
theorem HeapAt.fr {φ S : Addr → Prop} {K : PySem.W.Frag} {C : Addr} {H H' : Hp} {x : Addr} {fs : List Str} {os : List (List (Option Nat))} {ns : List (Str × Option Nat)} (h : HeapAt φ K C H x fs os ns) (f : Fr S H H') (n : ∀ a, φ a → ¬ S a) : HeapAt φ K C H' x fs os ns := by
  obtain ⟨t, l, d, dx, v, as, ys, h1, p1, h2, p2, h3, h4, p4, h5, h6, h7⟩ := h.ex
  exact ⟨t, l, d, dx, v, as, ys, f.keep _ _ h1 (n _ p1), p1, f.keep _ _ h2 (n _ p2), p2, h3.fr f n, f.keep _ _ h4 (n _ p4), p4, h5, h6, h7.fr f n⟩
theorem HeapAt.imp {φ ψ : Addr → Prop} {K : PySem.W.Frag} {C : Addr} {H : Hp} {x : Addr} {fs : List Str} {os : List (List (Option Nat))} {ns : List (Str × Option Nat)} (h : HeapAt φ K C H x fs os ns) (i : ∀ a, φ a → ψ a) : HeapAt ψ K C H x fs os ns := by
  obtain ⟨t, l, d, dx, v, as, ys, h1, p1, h2, p2, h3, h4, p4, h5, h6, h7⟩ := h.ex
  exact ⟨t, l, d, dx, v, as, ys, h1, i _ p1, h2, i _ p2, h3.imp i, h4, i _ p4, h5, h6, h7.imp i⟩
/-- the heap's fields, objects and names are right -/
structure OkH (fs : List Str) (os : List (List (Option Nat))) (ns : List (Str × Option Nat)) : Prop where
  fw : ∀ z ∈ fs, IsW z
  fn : fs.Nodup
  f1 : 1 ≤ fs.length
  f2 : fs.length ≤ 2
  ob : OkO fs os.length os
  ol : os.length ≤ 200
  nn : (ns.map Prod.fst).Nodup
  nl : ns.length ≤ 6
  nw : ∀ x ∈ ns, IsW x.1 ∧ OkV os.length x.2
def spShape (K : PySem.W.Frag) (C : Addr) : Sp := fun vs H Q _ => ∃ (φ : Addr → Prop) (x dx t l d : Addr) (as : List Addr) (fs : List Str) (os : List (List (Option Nat))) (ns : List (Str × Option Nat)), vs = [.ref x] ∧ H x = some (.ins C dx (hf3 (.ref t) (.ref l) (.ref d))) ∧ H t = some (.tup (fs.map V.str)) ∧ ObjsAt (fun _ => True) H l as fs os ∧
  H d = some (.dK (nmK ns)) ∧ OkH fs os ns ∧ (∀ a, H a = none → φ a) ∧ φ t ∧ ∀ v ys H', ys.Perm (ns.map Prod.fst) → sortedS ys = true → Rp φ K H' v (shapeD fs ys ns os) → Fr NoA H H' → Q v H'
def spHeapInit (K : PySem.W.Frag) (C : Addr) : Sp := fun vs H Q _ => ∃ (φ : Addr → Prop) (x dx f l d : Addr) (as : List Addr) (fs : List Str) (os : List (List (Option Nat))) (ns : List (Str × Option Nat)), vs = [.ref x, .ref f, .ref l, .ref d] ∧ H x = some (.ins C dx []) ∧ (SqL K H f (fs.map V.str) ∨ (H f = some (.tup (fs.map V.str)) ∧ φ f)) ∧ ObjsAt (fun _ => True) H l as fs os ∧
  H d = some (.dK (nmK ns)) ∧ OkH fs os ns ∧ (∀ a, H a = none → φ a) ∧ φ x ∧ ∀ H', HeapAt φ K C H' x fs os ns → Fr (fun b => b = x) H H' → Q .non H'
theorem upd_fresh_ne {H : Hp} {a b : Addr} {o : HO} (h : (upd H a o) b = none) : a ≠ b := fun z => by
  rw [← z, upd_same] at h
  cases h
/-! ### x not in a tuple of texts, whatever x is -/
theorem str_eq_dict (b : Str) (u : Tok) (l : Addr) (es : Array DictEntry) (n : Nat) (dd : Option Addr) (sl : Array (Option Value)) :
    Meets (Builtin.«str.__eq__» ⟨[.str b u, .ref l], []⟩) (fun _ R s => s.heap.get? l = some { cls := .type "dict", dict := dd, data := .dict es n, slots := sl } ∧ R (.ok (.ret .notImplemented)) s) :=
  .of_wp fun prog w A R s h => by
    obtain ⟨hp, g, d, tk, os⟩ := s
    obtain ⟨hl, h⟩ := h
    wp_walk using wpAny_loadPart' hl, wpAny_load hl
    exact ⟨_, rfl, h⟩
theorem dict_eq_str (b : Str) (u : Tok) (l : Addr) (es : Array DictEntry) (n : Nat) (dd : Option Addr) (sl : Array (Option Value)) :
    Meets (Builtin.«dict.__eq__» ⟨[.ref l, .str b u], []⟩) (fun _ R s => s.heap.get? l = some { cls := .type "dict", dict := dd, data := .dict es n, slots := sl } ∧ R (.ok (.ret .notImplemented)) s) :=
  .of_wp fun prog w A R s h => by
    obtain ⟨hp, g, d, tk, os⟩ := s
    obtain ⟨hl, h⟩ := h
    have f1 := F.sub_str_dict
    wp_walk using wpAny_loadPart' hl, wpAny_load hl
    exact ⟨_, rfl, h⟩
theorem rc_str_dict {A : Around} {s : Shared} {l : Addr} {es : Array DictEntry} {n : Nat} {dd : Option Addr} {sl : Array (Option Value)} (b : Str) (u : Tok) (ho : s.heap.get? l = some { cls := .type "dict", dict := dd, data := .dict es n, slots := sl }) (hu : A.units < cLine) : SeqAt.RcAt A s (.str b u) (.ref l) false := fun prog w E Q h =>
  SeqAt.rc_eq_decline_or (k := false) (typeIs_str s b u) ⟨_, ho, rfl⟩ (by decide) F.sub_dict_str F.slot_str_eq F.slot_dict_eq_refl
    (fun _ hq => call_meets F.slot_str_eq (typeIs_str s b u) F.entry_str_eq (F.args_str_eq_2 _ _) (str_eq_dict b u l es n dd sl) ⟨ho, hq⟩)
    (fun _ hq => call_meets F.slot_dict_eq_refl ⟨_, ho, rfl⟩ F.entry_dict_eq (F.args_dict_eq_2 _ _) (dict_eq_str b u l es n dd sl) ⟨ho, hq⟩)
    (fun _ hq => wpAny_of_eq (rfl : isSame (.str b u) (.ref l) = pure false) hq) (.inr hu) h
theorem eq_str_dict {A : Around} {s : Shared} {l : Addr} {es : Array DictEntry} {n : Nat} {dd : Option Addr} {sl : Array (Option Value)} (b : Str) (u : Tok) (ho : s.heap.get? l = some { cls := .type "dict", dict := dd, data := .dict es n, slots := sl }) (hu : A.units < cLine) : SeqAt.EqAt A s (.str b u) (.ref l) false := fun prog w E Q h => by
  unfold eqBool
  refine wpAny_holding (wpAny_ite_split (fun hab => absurd (eq_of_beq hab) nofun) (fun _ => ?_))
  exact wpAny_bind (rc_str_dict b u ho hu prog w E _ (wpAny_truthy_bool h))
/-- a value that is flat, or an object that is no text: a list, a tuple, a dict -/
def FV (H : Hp) (v : V) : Prop := flatV v = true ∨ ∃ a, v = .ref a ∧ ((∃ xs, H a = some (.lst xs)) ∨ (∃ xs, H a = some (.tup xs)) ∨ ∃ kvs, H a = some (.dK kvs))
def rNoT : R2 := fun x y H Q => ∃ (p a : Addr) (ts : List Str), y = .ref p ∧ H p = some (.tup (ts.map V.str)) ∧ x = .ref a ∧ ((∃ xs, H a = some (.lst xs)) ∨ (∃ xs, H a = some (.tup xs)) ∨ ∃ kvs, H a = some (.dK kvs)) ∧ Q (.bl true) H
theorem op_noT {X : Cx} (hu : X.A.units + 1 < cLine) : OpR X (compareOp .NotIn) rNoT := by
  intro pins s σ H x y v u Q I rx ry h
  obtain ⟨p, a, ts, rfl, hp, rfl, ha, q⟩ := h
  obtain rfl : u = Value.ref p := ry
  obtain rfl : v = Value.ref a := rx
  obtain ⟨its, r, pl, hz⟩ := I.tuple (tq (K := X.K) hp)
  have hu1 : X.A.in1.units < cLine := hu
  have eq : ∀ y, y ∈ its.toArray → SeqAt.EqAt X.A.in1 s y (.ref a) ((fun _ => false) y) := fun y hy => by
    have hy' : y ∈ its := by simpa using hy
    obtain ⟨j, hj, e⟩ := List.getElem_of_mem hy'
    obtain ⟨z, ez⟩ : ∃ z : Str, (ts.map V.str)[j]? = some (.str z) := by
      have hl := r.length
      rw [List.length_map] at hl
      exact ⟨ts[j]'(by omega), by rw [List.getElem?_map, List.getElem?_eq_getElem (by omega)]; rfl⟩
    obtain ⟨w', e1, e2⟩ := r.get ez
    rw [List.getElem?_eq_getElem hj, e] at e1
    cases e1
    obtain ⟨t, rfl⟩ := (show ∃ t, y = Value.str z t from e2)
    rcases ha with ⟨xs, ha⟩ | ⟨xs, ha⟩ | ⟨kvs, ha⟩
    · obtain ⟨its2, r2, pl2, hz2⟩ := I.list (lq (K := X.K) ha)
      exact SeqAt.EqAt.str_list z t pl2.isList hu1
    · obtain ⟨its2, r2, pl2, hz2⟩ := I.tuple (tq (K := X.K) ha)
      exact SeqAt.EqAt.str_tuple z t pl2 hu1
    · obtain ⟨_, _, vs, _, ob, es, ep, ho, hc, hdat, _⟩ := (show ObjOk X.prog X.w H s.heap a (.dK kvs) from I.hok a _ ha)
      obtain ⟨cls, dd, data, sl⟩ := ob
      obtain ⟨c1, c2⟩ := hc
      simp only at c1 hdat
      subst c1 hdat
      exact eq_str_dict z t ho hu1
  refine SeqAt.notIn_tupleAt (fun _ => false) pl eq ?_
  have e : (its.toArray.any fun _ => false) = false := by simp
  rw [e]
  exact ⟨.bl true, H, I, rfl, q⟩
def rNI (K : PySem.W.Frag) : R2 := fun x y H Q => rIn K true x y H Q ∨ rNoT x y H Q
theorem op_ni {X : Cx} (hu : X.A.units + 1 < cLine) : OpR X (compareOp .NotIn) (rNI X.K) := by
  intro pins s σ H x y v u Q I rx ry h
  rcases h with h | h
  · exact op_notIn_seq pins s σ H x y v u Q I rx ry h
  · exact op_noT hu pins s σ H x y v u Q I rx ry h
theorem inV_flat (x : V) (ts : List Str) (hx : ∀ z, x ≠ .str z) : inV x (ts.map V.str) = false := by
  unfold inV
  induction ts with
  | nil => rfl
  | cons t r ih =>
    rw [List.map_cons, List.any_cons, ih]
    cases x with
    | str z => exact absurd rfl (hx z)
    | _ => rfl
/-- x not in a tuple of texts: the answer -/
theorem g_ni {K : PySem.W.Frag} {H : Hp} {Q : VK} {p : Addr} {ts : List Str} {x : V} (hp : H p = some (.tup (ts.map V.str))) (hx : FV H x) (q : ∀ b : Bool, (b = true ↔ ¬ ∃ z, x = .str z ∧ z ∈ ts) → Q (.bl b) H) : rNI K x (.ref p) H Q := by
  rcases hx with hx | ⟨a, rfl, ha⟩
  · refine .inl ⟨p, _, rfl, .inr (tq hp), hx, flat_str ts, ?_⟩
    rw [if_pos rfl]
    refine q _ ?_
    by_cases hs : ∃ z, x = .str z
    · obtain ⟨z, rfl⟩ := hs
      rw [inV_str]
      simp
    · rw [inV_flat x ts fun z e => hs ⟨z, e⟩]
      exact ⟨fun _ ⟨z, e, _⟩ => hs ⟨z, e⟩, fun _ => rfl⟩
  · exact .inr ⟨p, a, ts, rfl, hp, rfl, ha, q true ⟨fun _ ⟨z, e, _⟩ => (by cases e), fun _ => rfl⟩⟩
/-- what a def raises: an error of the class at C with the one field "part" -/
def XR (C : Addr) (H : Hp) (E : XK) (part : Str) : Prop := ∀ (d : Addr) (Hf : Hp), H d = none → Hf d = some (.xd [(("part" : Str), .str part)]) → Fr NoA H Hf → E (.ref C) (some d) Hf
def walkP (fs : List Str) (os : List (List (Option Nat))) (o : Option Nat) (ts : List Str) : Option Nat := ts.foldl (fun o t => o.bind fun k => (os.getD k []).getD (fs.idxOf t) none) o
theorem walkP_none (fs : List Str) (os : List (List (Option Nat))) : ∀ ts : List Str, walkP fs os none ts = none
  | [] => rfl
  | _ :: r => walkP_none fs os r
theorem walkP_cons (fs : List Str) (os : List (List (Option Nat))) (o : Option Nat) (t : Str) (r : List Str) : walkP fs os o (t :: r) = walkP fs os (o.bind fun k => (os.getD k []).getD (fs.idxOf t) none) r := rfl
theorem walkP_snoc (fs : List Str) (os : List (List (Option Nat))) (o : Option Nat) (ts : List Str) (t : Str) : walkP fs os o (ts ++ [t]) = (walkP fs os o ts).bind fun k => (os.getD k []).getD (fs.idxOf t) none := by
  unfold walkP
  rw [List.foldl_append]
  rfl
/-- one field of one object -/
theorem field_get {fs : List Str} {os : List (List (Option Nat))} {k : Nat} {t : Str} (ok : OkO fs os.length os) (nd : fs.Nodup) (hk : k < os.length) (ht : t ∈ fs) : valV (rowK fs os[k]) (.inr t) = some (ov ((os.getD k []).getD (fs.idxOf t) none)) ∧ OkV os.length ((os.getD k []).getD (fs.idxOf t) none) := by
  have hr := ok.row _ (List.getElem_mem hk)
  have hi := List.idxOf_lt_length_of_mem ht
  have e1 : os.getD k [] = os[k] := by rw [List.getD_eq_getElem?_getD, List.getElem?_eq_getElem hk]; rfl
  have il : fs.idxOf t < os[k].length := by rw [hr.1]; exact hi
  have e2 : os[k].getD (fs.idxOf t) none = os[k][fs.idxOf t] := by rw [List.getD_eq_getElem?_getD, List.getElem?_eq_getElem il]; rfl
  rw [e1, e2]
  exact ⟨val_row nd hr.1 (by rw [List.getElem?_eq_getElem hi, List.getElem_idxOf hi]) (List.getElem?_eq_getElem il), hr.2 _ (List.getElem_mem il)⟩
theorem walkP_ok {fs : List Str} {os : List (List (Option Nat))} (ok : OkO fs os.length os) (nd : fs.Nodup) : ∀ {ts : List Str} {o : Option Nat}, OkV os.length o → (∀ t ∈ ts, t ∈ fs) → OkV os.length (walkP fs os o ts)
  | [], _, h, _ => h
  | t :: r, o, h, ht => by
    rw [walkP_cons]
    refine walkP_ok ok nd ?_ fun x hx => ht x (List.mem_cons_of_mem _ hx)
    cases o with
    | none => exact fun k e => by cases e
    | some k => exact (field_get ok nd (h k rfl) (ht t List.mem_cons_self)).2
/-- no name of the heap -/
def BadName (K : PySem.W.Frag) (H : Hp) (ns : List (Str × Option Nat)) (v : V) : Prop := (∃ z, v = .str z ∧ z ∉ ns.map Prod.fst) ∨ TyQ K H v "str" false
def spRoot (K : PySem.W.Frag) (C CA : Addr) : Sp := fun vs H Q E => ∃ (φ : Addr → Prop) (x : Addr) (v : V) (fs : List Str) (os : List (List (Option Nat))) (ns : List (Str × Option Nat)), vs = [.ref x, v] ∧ HeapAt φ K C H x fs os ns ∧ OkH fs os ns ∧
  ((∃ z, v = .str z ∧ z ∈ ns.map Prod.fst ∧ Q (ov (look ns z)) H) ∨ (BadName K H ns v ∧ XR CA H E "name"))
def spAt (K : PySem.W.Frag) (C CA : Addr) : Sp := fun vs H Q E => ∃ (φ : Addr → Prop) (x : Addr) (v pv : V) (fs : List Str) (os : List (List (Option Nat))) (ns : List (Str × Option Nat)), vs = [.ref x, v, pv] ∧ HeapAt φ K C H x fs os ns ∧ OkH fs os ns ∧
  ((BadName K H ns v ∧ XR CA H E "name") ∨ ∃ z, v = .str z ∧ z ∈ ns.map Prod.fst ∧
    ((∃ t, TyX K H pv t ∧ PySem.W.kitOne K t (.type "list") = some false ∧ PySem.W.kitOne K t (.type "tuple") = some false ∧ XR CA H E "path") ∨
      ∃ (a : Addr) (xs : List V), pv = .ref a ∧ (SqL K H a xs ∨ SqT K H a xs) ∧ xs.length ≤ 1000 ∧ (∀ y ∈ xs, FV H y) ∧
        ((∃ ts : List Str, xs = ts.map V.str ∧ (∀ t ∈ ts, t ∈ fs) ∧ ∀ H', Fr NoA H H' → Q (ov (walkP fs os (look ns z) ts)) H') ∨ ((∃ y ∈ xs, ¬ ∃ t, y = .str t ∧ t ∈ fs) ∧ XR CA H E "path"))))
theorem FV.fr {S : Addr → Prop} {H H' : Hp} {v : V} (f : Fr S H H') (n : ∀ a, v = .ref a → ¬ S a) (h : FV H v) : FV H' v := by
  rcases h with h | ⟨a, rfl, h⟩
  · exact .inl h
  · refine .inr ⟨a, rfl, ?_⟩
    rcases h with ⟨xs, h⟩ | ⟨xs, h⟩ | ⟨xs, h⟩
    · exact .inl ⟨xs, f.keep _ _ h (n a rfl)⟩
    · exact .inr (.inl ⟨xs, f.keep _ _ h (n a rfl)⟩)
    · exact .inr (.inr ⟨xs, f.keep _ _ h (n a rfl)⟩)
structure ATxt (P : Program) (w : World) (K : PySem.W.Frag) (mg : Str → Option Value) (base : Heap) (CA : Addr) : Prop where
  x_InvalidArgument : XCls P w K mg base "InvalidArgument" CA ["part"]
/-- heap.at(v, w) raises with this part -/
def AtErr (K : PySem.W.Frag) (H : Hp) (fs : List Str) (ns : List (Str × Option Nat)) (v u : V) (part : Str) : Prop :=
  (part = "name" ∧ BadName K H ns v) ∨ (part = "path" ∧ ∃ z, v = .str z ∧ z ∈ ns.map Prod.fst ∧
    ((∃ t, TyX K H u t ∧ PySem.W.kitOne K t (.type "list") = some false ∧ PySem.W.kitOne K t (.type "tuple") = some false) ∨
      ∃ (a : Addr) (xs : List V), u = .ref a ∧ (SqL K H a xs ∨ SqT K H a xs) ∧ xs.length ≤ 1000 ∧ (∀ y ∈ xs, FV H y) ∧ ∃ y ∈ xs, ¬ ∃ t, y = .str t ∧ t ∈ fs))
theorem AtErr.sp {K : PySem.W.Frag} {C CA : Addr} {φ : Addr → Prop} {H : Hp} {x : Addr} {fs : List Str} {os : List (List (Option Nat))} {ns : List (Str × Option Nat)} {v u : V} {part : Str} {Q : VK} {E : XK} (HA : HeapAt φ K C H x fs os ns) (ok : OkH fs os ns) (h : AtErr K H fs ns v u part) (xr : XR CA H E part) : spAt K C CA [.ref x, v, u] H Q E := by
  refine ⟨φ, x, v, u, fs, os, ns, rfl, HA, ok, ?_⟩
  rcases h with ⟨rfl, hb⟩ | ⟨rfl, z, rfl, hz, h⟩
  · exact .inl ⟨hb, xr⟩
  · refine .inr ⟨z, rfl, hz, ?_⟩
    rcases h with ⟨t, h1, h2, h3⟩ | ⟨a, xs, rfl, h1, h2, h3, h4⟩
    · exact .inl ⟨t, h1, h2, h3, xr⟩
    · exact .inr ⟨a, xs, rfl, h1, h2, h3, .inr ⟨h4, xr⟩⟩
def spSame : Sp := fun vs H Q _ => ∃ o o' : Option Nat, vs = [ov o', ov o] ∧ Q (.bl (decide (o' = o))) H
def spFollow (K : PySem.W.Frag) : Sp := fun vs H Q _ => ∃ (l p : Addr) (as : List Addr) (fs : List Str) (os : List (List (Option Nat))) (o : Option Nat) (ts : List Str), vs = [.ref l, ov o, .ref p] ∧ ObjsAt (fun _ => True) H l as fs os ∧ OkO fs os.length os ∧ fs.Nodup ∧ OkV os.length o ∧ SqL K H p (ts.map V.str) ∧ (∀ t ∈ ts, t ∈ fs) ∧ Q (ov (walkP fs os o ts)) H
def spRefused (K : PySem.W.Frag) (C : Addr) : Sp := fun vs H Q _ => ∃ (φ : Addr → Prop) (x : Addr) (v u : V) (fs : List Str) (os : List (List (Option Nat))) (ns : List (Str × Option Nat)) (part : Str), vs = [.ref x, v, u] ∧ HeapAt φ K C H x fs os ns ∧ OkH fs os ns ∧ AtErr K H fs ns v u part ∧ ∀ H', Fr NoA H H' → Q (.str part) H'
/-! ### data that can be compared -/
theorem strOk_w {z : Str} (h : IsW z) : PyData.strOk z = true := by
  unfold PyData.strOk
  rw [Array.all_eq_true]
  intro i hi
  have := h.2.2 (z.cps[i]) (by simp)
  simp only [decide_eq_true_eq]
  omega
theorem lay_strs : ∀ ts : List Str, (∀ z ∈ ts, IsW z) → PyData.canLayAll0 (ts.map PyData.str) = true
  | [], _ => by simp [PyData.canLayAll0]
  | t :: r, h => by simp [PyData.canLayAll0, PyData.canLay0, strOk_w (h t List.mem_cons_self), lay_strs r fun z hz => h z (List.mem_cons_of_mem _ hz)]
theorem depth_strs : ∀ ts : List Str, PyData.depthAll (ts.map PyData.str) = 0
  | [] => by simp [PyData.depthAll]
  | t :: r => by simp [PyData.depthAll, PyData.depth, depth_strs r]
theorem lay_list {ts : List Str} (h : ∀ z ∈ ts, IsW z) : PyData.canLay0 (.list (ts.map PyData.str)) = true := by
  simp [PyData.canLay0, lay_strs ts h]
theorem shaped_strs {ts : List Str} (h : ∀ z ∈ ts, IsW z) : SeqAt.shaped (.list (ts.map PyData.str)) = true := by
  unfold SeqAt.shaped
  simp [PyData.canLay0, lay_strs ts h, PyData.depth, depth_strs ts]
theorem Dp.strs {K : PySem.W.Frag} {H : Hp} {a : Addr} {ts : List Str} (h : SqL K H a (ts.map V.str)) : Dp K H (.ref a) (.list (ts.map PyData.str)) := by
  refine .lst h ?_
  clear h
  induction ts with
  | nil => exact .nil
  | cons t r ih => exact .cons (.str t) ih
theorem g_neD {K : PySem.W.Frag} {H : Hp} {Q : VK} {x y : V} {d e : PyData} (h1 : Dp K H x d) (h2 : Dp K H y e) (s1 : SeqAt.shaped d = true) (s2 : SeqAt.shaped e = true) (q : Q (.bl (!PyData.eqv d e)) H) : rNeD K x y H Q := ⟨d, e, h1, h2, s1, s2, q⟩
def rIns : V → List V → Hp → VK → Prop := fun x vs H Q => ∃ (l : Addr) (xs : List V) (i : Int) (y : V), x = .ref l ∧ vs = [.int i, y] ∧ H l = some (.lst xs) ∧ xs.length < sizeLine ∧ 0 ≤ i ∧ i < 2 ^ 63 ∧ Q .non (upd H l (.lst (xs.take i.toNat ++ [y] ++ xs.drop i.toNat)))
theorem m_insert {X : Cx} : MtR X "list.insert" rIns := mt_insert
theorem g_ins {H : Hp} {Q : VK} {l : Addr} {xs : List V} {i : Int} {y : V} (h : H l = some (.lst xs)) (hl : xs.length < 10000) (h0 : 0 ≤ i) (h1 : i < 2 ^ 63) (q : Q .non (upd H l (.lst (xs.take i.toNat ++ [y] ++ xs.drop i.toNat)))) : rIns (.ref l) [.int i, y] H Q := ⟨l, xs, i, y, rfl, rfl, h, szl' hl, h0, h1, q⟩
/-- what the laws about heaps keep while they ask -/
structure Held (K : PySem.W.Frag) (C : Addr) (H : Hp) (p c x fl l d : Addr) (as : List Addr) (fs : List Str) (os : List (List (Option Nat))) (ns : List (Str × Option Nat)) : Prop where
  po : PoolAt H p c
  hp : HeapAt (fun a => ¬ PS p c a) K C H x fs os ns
  ok : OkH fs os ns
  ob : ObjsAt (fun a => ¬ PS p c a) H l as fs os
  nm : H d = some (.dK (nmK ns))
  nd : ¬ PS p c d
  flq : H fl = some (.lst (fs.map V.str))
  nf : ¬ PS p c fl
theorem Held.fr {K : PySem.W.Frag} {C : Addr} {H H' : Hp} {p c x fl l d : Addr} {as : List Addr} {fs : List Str} {os : List (List (Option Nat))} {ns : List (Str × Option Nat)} (h : Held K C H p c x fl l d as fs os ns) (f : Fr (PS p c) H H') (po : PoolAt H' p c) : Held K C H' p c x fl l d as fs os ns :=
  ⟨po, h.hp.fr f fun _ z => z, h.ok, h.ob.fr f fun _ z => z, f.keep _ _ h.nm h.nd, h.nd, f.keep _ _ h.flq h.nf, h.nf⟩
theorem Held.fr0 {K : PySem.W.Frag} {C : Addr} {H H' : Hp} {p c x fl l d : Addr} {as : List Addr} {fs : List Str} {os : List (List (Option Nat))} {ns : List (Str × Option Nat)} (h : Held K C H p c x fl l d as fs os ns) (f : Fr NoA H H') : Held K C H' p c x fl l d as fs os ns :=
  h.fr (f.mono fun _ z => z.elim) (h.po.fr f (fun z => z) fun z => z)
def spAsks02 (K : PySem.W.Frag) (C : Addr) : Sp := fun vs H Q _ => ∃ (p c x fl l d : Addr) (as : List Addr) (fs : List Str) (os : List (List (Option Nat))) (ns : List (Str × Option Nat)), vs = [.ref p, .ref x, .ref fl, .ref l, .ref d] ∧ Held K C H p c x fl l d as fs os ns ∧ 1 ≤ ns.length ∧
  ∀ H', PoolAt H' p c → Fr (PS p c) H H' → Q (.bl true) H'
theorem g_mk0 {C : Addr} {sp : Sp} {E : XK} {t : TA} {σ : L2.St} {H : Hp} {Q : VK} (h : t σ H fun vs H1 => ∀ x dx, H1 x = none → H1 dx = none → dx ≠ x → sp (.ref x :: (vs ++ [])) (upd (upd H1 dx (.own x)) x (.ins C dx [])) (fun v H2 => v = .non ∧ Q (.ref x) H2) E) : tMk C sp E t σ H Q := h
theorem g_sl {r : V → Option Int → Option Int → Hp → VK → Prop} {te : TE} {tl th : TO} {σ : L2.St} {H : Hp} {Q : VK} (h : te σ H fun x H1 => tl σ H1 fun l H2 => th σ H2 fun u H3 => r x l u H3 Q) : tSl r te tl th σ H Q := h
theorem g_noPart {σ : L2.St} {H : Hp} {R : Option Int → Hp → Prop} (h : R none H) : tNoPart σ H R := h
theorem g_part {t : TE} {σ : L2.St} {H : Hp} {R : Option Int → Hp → Prop} (h : t σ H fun x H1 => ∃ i, x = .int i ∧ R (some i) H1) : tPart t σ H R := h
theorem g_slL {K : PySem.W.Frag} {H : Hp} {Q : VK} {a : Addr} {xs : List V} {lo hi : Option Int} (h : SqL K H a xs) (q : ∀ p, H p = none → Q (.ref p) (upd H p (.lst (cutV xs lo hi)))) : rSlL K (.ref a) lo hi H Q := ⟨a, xs, rfl, h, q⟩
theorem cut_to (xs : List V) (n : Nat) : cutV xs none (some (n : Int)) = xs.take n := by
  unfold cutV
  rw [HT.sIx_none, HT.sIx_nat]
  simp
def spLaw (K : PySem.W.Frag) : Sp := fun vs H Q _ => ∃ (a : Addr) (ns : List Int), vs = [.ref a] ∧ SqL K H a (ns.map V.int) ∧ ns.length ≤ 63 ∧ ∀ H', Q (.bl true) H'
theorem Fr.out {S : Addr → Prop} {H H1 H2 : Hp} (a : Fr NoA H H1) (b : Fr S H1 H2) (h : ∀ x, S x → H x = none) : Fr NoA H H2 :=
  ⟨fun c o e _ => b.keep c o (a.keep c o e fun z => z) (fun z => by rw [h c z] at e; cases e), fun c e => a.free c (b.free c e)⟩
theorem g_pairs1 {tk tv : TE} {σ : L2.St} {H : Hp} {R : List (V × V) → Hp → Prop} (h : tk σ H fun k H1 => tv σ H1 fun v H2 => R [(k, v)] H2) : tPairs [(tk, tv)] σ H R := h
theorem g_disp1 {H : Hp} {p : Addr} {z : Str} {v : V} {P : Hp → Prop} (h : H p = some (.dK [])) (q : ∀ kvs, P (upd H p (.dK kvs))) : H p = some (.dK []) ∧ ∃ kvs : List (Key × V), [(V.str z, v)] = kvs.map (fun kv => (kV kv.1, kv.2)) ∧ kvs.length ≤ 15 ∧ P (upd H p (.dK (mergeK [] kvs))) :=
  ⟨h, [(.inr z, v)], rfl, by show 1 ≤ 15; decide, q _⟩
structure HTxt (mg : Str → Option Value) : Prop where
  MOST_OBJECTS : ∃ u, mg "MOST_OBJECTS" = some u ∧ RelV (.int 200) u
  MOST_NAMES : ∃ u, mg "MOST_NAMES" = some u ∧ RelV (.int 6) u
theorem atI_0 {x : V} {r : List V} : atI (x :: r) 0 = some x := atI_nat (j := 0) rfl
theorem atI_1 {x y : V} {r : List V} : atI (x :: y :: r) 1 = some y := atI_nat (j := 1) rfl
theorem atI_2 {x y z : V} {r : List V} : atI (x :: y :: z :: r) 2 = some z := atI_nat (j := 2) rfl
theorem atI_of {xs : List V} {k : Int} (h0 : 0 ≤ k) (h1 : k < xs.length) : atI xs k = some (xs[k.toNat]'(by omega)) := by
  have e : ((k.toNat : Nat) : Int) = k := by omega
  have z := atI_nat (xs := xs) (j := k.toNat) (v := xs[k.toNat]'(by omega)) (by simp)
  rw [e] at z
  exact z
theorem ixN_of {n : Nat} {k : Int} (h0 : 0 ≤ k) (h1 : k < n) : ixN n k = some k.toNat := by
  unfold ixN
  rw [if_pos h0, if_pos h1]
section
variable {P : Program} {w : World} {K : PySem.W.Frag} {mg : Str → Option Value} {base : Heap}
theorem ok_xi1 {st : Stmt} {qual x : Str} {f C : Addr} {fd : FuncData} (F : Fun K "__init__" qual st f fd) (sc : FnScope ["self", x] ["self", x] (defScope st)) (T : OexC K C) (no : PySem.W.findIn K (.ref C) x = some none) {p1 p2 p3 p4 : Pos} (hb : defBody st = [.Assign [.Attribute (.Name "self" p1) x p2] (.Name x p3) p4])
    (v0 : Vis (defScope st) "self") (v1 : Vis (defScope st) x) (d1 : (x == ("__debug__" : Str)) = false) (d2 : (x == ("__classdict__" : Str)) = false) : FnOk P w K mg base CX0 1 f fd ["self", x] (spXI C [x]) := by
  refine F.ok sc (fun vs H Q E h => ?_) (fun cdv A outer s H vs Q E hr h => ?_)
  · obtain ⟨a, ws, rfl, hl, _⟩ := h
    rw [List.length_cons, hl]
    rfl
  · obtain ⟨a, ws, rfl, hl, ha, k⟩ := h
    match ws, hl with
    | [v], _ =>
    rw [hb]
    refine ⟨_, pss_one (ps_ost (pe_var (i := 0) rfl v0) (pe_var (i := 1) rfl v1 d1 d2)), ?_⟩
    refine ⟨v, rfl, .ref a, rfl, a, C, rfl, T, no, .inl ⟨ha, fun dx hd ne => ?_⟩⟩
    refine k dx _ hd ne upd_same ?_ fun b n1 n2 => ?_
    · rw [upd_ne ne, upd_same]
      rfl
    · rw [upd_ne n1, upd_ne n2]
theorem ok_xi2 {st : Stmt} {qual x y : Str} {f C : Addr} {fd : FuncData} (F : Fun K "__init__" qual st f fd) (sc : FnScope ["self", x, y] ["self", x, y] (defScope st)) (T : OexC K C) (no : PySem.W.findIn K (.ref C) x = some none) (no2 : PySem.W.findIn K (.ref C) y = some none) {p1 p2 p3 p4 q1 q2 q3 q4 : Pos} (hb : defBody st = [.Assign [.Attribute (.Name "self" p1) x p2] (.Name x p3) p4, .Assign [.Attribute (.Name "self" q1) y q2] (.Name y q3) q4])
    (v0 : Vis (defScope st) "self") (v1 : Vis (defScope st) x) (d1 : (x == ("__debug__" : Str)) = false) (d2 : (x == ("__classdict__" : Str)) = false) (w1 : Vis (defScope st) y) (e1 : (y == ("__debug__" : Str)) = false) (e2 : (y == ("__classdict__" : Str)) = false) : FnOk P w K mg base CX0 1 f fd ["self", x, y] (spXI C [x, y]) := by
  refine F.ok sc (fun vs H Q E h => ?_) (fun cdv A outer s H vs Q E hr h => ?_)
  · obtain ⟨a, ws, rfl, hl, _⟩ := h
    rw [List.length_cons, hl]
    rfl
  · obtain ⟨a, ws, rfl, hl, ha, k⟩ := h
    match ws, hl with
    | [v, u], _ =>
    rw [hb]
    refine ⟨_, pss_cons (ps_ost (pe_var (i := 0) rfl v0) (pe_var (i := 1) rfl v1 d1 d2)) (pss_one (ps_ost (pe_var (i := 0) rfl v0) (pe_var (i := 2) rfl w1 e1 e2))), ?_⟩
    refine ⟨v, rfl, .ref a, rfl, a, C, rfl, T, no, .inl ⟨ha, fun dx hd ne => ?_⟩⟩
    refine ⟨u, rfl, .ref a, rfl, a, C, rfl, T, no2, .inr ⟨dx, _, upd_same, by rw [upd_ne ne, upd_same], by show 1 ≤ 900; decide, ?_⟩⟩
    refine k dx _ hd ne ?_ ?_ fun b n1 n2 => ?_
    · rw [upd_ne (Ne.symm ne), upd_same]
    · rw [upd_same]
      rfl
    · rw [upd_ne n2, upd_ne n1, upd_ne n2]
end
/-- an error of a class is what «except» of that class names -/
theorem exm_own {K : PySem.W.Frag} {S : Addr} (h1 : PySem.W.subIn K (.ref S) (.type "BaseException") = some true) (h2 : PySem.W.isClsIn K S = true) (h3 : PySem.W.typeIn K (.ref S) = some (.type "type")) (h4 : PySem.W.subIn K (.ref S) (.ref S) = some true) : PySem.W.exmOne K (.ref S) (.ref S) = some true := by
  have e2 : (PySem.W.clsIn K S).isSome = true := h2
  simp [PySem.W.exmOne, PySem.W.kitCls, h1, h3, h4, e2]
/-! ### truth of a list, min of two, ints in a list -/
def tTru (K : PySem.W.Frag) (te : TE) : TT := fun σ H Q => te σ H fun x H' => ∃ k, TruV K x H' k ∧ Q k H'
theorem pt_tru {X : Cx} {a : Expr} {ta : TE} (ha : PE X a ta) (he : ∀ whole, isTrue a X.env whole = (do let v ← whole; standAt a.pos; holding [v] (truthy v))) : PT X a (tTru X.K ta) := pt_truth ha he
theorem g_tru {K : PySem.W.Frag} {te : TE} {σ : L2.St} {H : Hp} {R : Bool → Hp → Prop} (h : te σ H fun x H' => ∃ k, TruV K x H' k ∧ R k H') : tTru K te σ H R := h
theorem g_truL {K : PySem.W.Frag} {H : Hp} {p : Addr} {xs : List V} {R : Bool → Prop} (h : SqL K H p xs) (q : R (!xs.isEmpty)) : ∃ k, TruV K (.ref p) H k ∧ R k := ⟨_, .inl ⟨xs, h, rfl⟩, q⟩
def rMin2 : TC := fun xs H Q => ∃ i j, xs = [.int i, .int j] ∧ Q (.int (if j < i then j else i)) H
theorem c_min2 {X : Cx} (hc : X.calm = true) : CallR X (.builtin "min") rMin2 := call_min2 hc
theorem g_min2 {H : Hp} {Q : VK} {i j : Int} (q : Q (.int (if j < i then j else i)) H) : rMin2 [.int i, .int j] H Q := ⟨i, j, rfl, q⟩
theorem g_neg {H : Hp} {Q : VK} {i : Int} (q : Q (.int (-i)) H) : rU (fun i => .int (-i)) (.int i) H Q := ⟨i, rfl, q⟩
def natV (k : Nat) : V := .int (k : Int)
theorem inV_nat (k : Nat) : ∀ ks : List Nat, inV (.int (k : Int)) (ks.map natV) = decide (k ∈ ks)
  | [] => rfl
  | t :: r => by
    have ih := inV_nat k r
    unfold inV at ih ⊢
    rw [List.map_cons, List.any_cons, ih]
    show (((t : Int) == (k : Int)) || decide (k ∈ r)) = decide (k ∈ t :: r)
    rw [Bool.eq_iff_iff]
    simp only [Bool.or_eq_true, beq_iff_eq, decide_eq_true_eq, List.mem_cons]
    constructor
    · rintro (h | h)
      · exact .inl (by omega)
      · exact .inr h
    · rintro (h | h)
      · exact .inl (by omega)
      · exact .inr h
theorem flat_nat : ∀ ts : List Nat, (ts.map natV).all flatV = true
  | [] => rfl
  | _ :: r => by rw [List.map_cons, List.all_cons, flat_nat r]; rfl
theorem g_notInI {H : Hp} {Q : VK} {K : PySem.W.Frag} {p : Addr} {k : Nat} {ks : List Nat} (h : SqL K H p (ks.map natV) ∨ SqT K H p (ks.map natV)) (q : Q (.bl (!decide (k ∈ ks))) H) : rIn K true (.int (k : Int)) (.ref p) H Q :=
  ⟨p, _, rfl, h, rfl, flat_nat ks, by rw [if_pos rfl, inV_nat]; exact q⟩
theorem g_inI {H : Hp} {Q : VK} {K : PySem.W.Frag} {p : Addr} {k : Nat} {ks : List Nat} (h : SqL K H p (ks.map natV) ∨ SqT K H p (ks.map natV)) (q : Q (.bl (decide (k ∈ ks))) H) : rIn K false (.int (k : Int)) (.ref p) H Q :=
  ⟨p, _, rfl, h, rfl, flat_nat ks, by rw [if_neg Bool.false_ne_true, inV_nat]; exact q⟩
theorem asc_ext : ∀ {l1 l2 : List Int}, l1.Pairwise (· < ·) → l2.Pairwise (· < ·) → (∀ x, x ∈ l1 ↔ x ∈ l2) → l1 = l2
  | [], [], _, _, _ => rfl
  | [], b :: r, _, _, h => absurd ((h b).mpr List.mem_cons_self) (by simp)
  | a :: r, [], _, _, h => absurd ((h a).mp List.mem_cons_self) (by simp)
  | a :: r, b :: r', h1, h2, h => by
    obtain ⟨p1, q1⟩ := List.pairwise_cons.mp h1
    obtain ⟨p2, q2⟩ := List.pairwise_cons.mp h2
    have ab : a = b := by
      rcases List.mem_cons.mp ((h a).mp List.mem_cons_self) with e | e
      · exact e
      · rcases List.mem_cons.mp ((h b).mpr List.mem_cons_self) with e2 | e2
        · exact e2.symm
        · have := p2 a e
          have := p1 b e2
          omega
    subst ab
    rw [asc_ext q1 q2 fun x => ?_]
    constructor
    · intro hx
      rcases List.mem_cons.mp ((h x).mp (List.mem_cons_of_mem _ hx)) with e | e
      · have := p1 x hx
        omega
      · exact e
    · intro hx
      rcases List.mem_cons.mp ((h x).mpr (List.mem_cons_of_mem _ hx)) with e | e
      · have := p2 x hx
        omega
      · exact e
end G

namespace G
open PySem PySem.Spec PyProof.Rows L2

/-! ### own __len__, __contains__, __getitem__, __eq__ -/
section
variable {X : Cx} {CX : CXT} {k j : Nat} {C : Addr} {sp : Sp} {E : L2.St → XK}
theorem run_met {A : Around} {f : Addr} {fd : FuncData} {ps : List Str} {pins : List (Addr × Obj)} {σ : L2.St} {H : Hp} {s : Shared} {Q : VK} {us : List Value} {vs : List V} (F : FnOk X.prog X.w X.K X.mg X.base CX k f fd ps sp) (hr : Room k A) (hb : Binds X.K fd ps []) (e0 : Env0 X.prog X.w X.K X.mg X.base A X.stack s H)
    (hx : PassesAt CX X σ (E σ)) (I : Inv X pins σ H s) (r : Vals vs us) (h : sp vs H Q (E σ)) : wpAny (model X.prog X.w) A (call (.ref f) us) (EP X pins σ Q) X.xe s := by
  have hl : us.length = ps.length := by rw [← r.length]; exact F.len _ _ _ _ h
  have b := hb s us I.kIn (by rw [List.append_nil]; exact hl)
  rw [List.append_nil] at b
  refine wpAny_call (codeAny_mono (F.run A X.stack s H ⟨us, []⟩ us vs Q (E σ) hr e0 b r h) fun r s' hq => ?_)
  cases r with
  | error e => exact hx pins H s e s' I hq
  | ok fl =>
    cases fl with
    | ret u => exact I.after hq
    | next => exact False.elim hq
    | brk => exact False.elim hq
    | cont => exact False.elim hq
theorem Passes.at {E : XK} (h : Passes CX X E) : ∀ σ, PassesAt CX X σ ((fun _ => E) σ) := fun σ pins H s e s' I c => h pins σ H s e s' I c
/-- len(x), x an instance with an own __len__ -/
def rLenO (C : Addr) (sp : Sp) (E : XK) : TC := fun xs H Q => ∃ a dx fs, xs = [.ref a] ∧ H a = some (.ins C dx fs) ∧ sp [.ref a] H (fun z H' => ∃ i : Int, z = .int i ∧ 0 ≤ i ∧ i < 2 ^ 63 ∧ Q (.int i) H') E
theorem c_lenO {E : XK} (c : Met X.prog X.w X.K X.mg X.base CX k C "__len__" sp) (hr : Room j X.A) (hk : k + 1 ≤ j) (hx : Passes CX X E) : CallR X (.builtin "len") (rLenO C sp E) := by
  intro pins s σ H xs us Q I r h
  obtain ⟨a, dx, fs, rfl, ha, q⟩ := h
  obtain ⟨u, rfl, ru⟩ := r.one
  cases (show u = Value.ref a from ru)
  obtain ⟨f, fd, ps, hc, hm, F, b⟩ := c.ex
  obtain ⟨mA, J, _⟩ := ins_get I.hok ha
  obtain ⟨od, J, _⟩ := J.look
  obtain ⟨m, hF⟩ := I.fr
  refine PySem.W.len_K hF I.ok.mod.kin J hm.at_ hm.fn (wpAny_mono (run_met (E := fun _ => E) (us := [.ref a]) (vs := [.ref a]) F (hr.mono hk).in1 b I.env0.in1 (Passes.at hx σ) I (.cons rfl .nil) q) (fun w s' z => ?_) fun _ _ x => x)
  obtain ⟨z', H', I', rz, i, ei, h0, h1, qz⟩ := z
  subst ei
  obtain ⟨t, e⟩ := (show ∃ t, w = Value.int i t from rz)
  cases e
  exact ⟨⟨h0, h1⟩, .int i, H', I'.tok _, ⟨_, rfl⟩, qz⟩
/-- x in y, y an instance with an own __contains__ -/
def rInO (C : Addr) (sp : Sp) (E : XK) : R2 := fun x y H Q => ∃ a dx fs, y = .ref a ∧ H a = some (.ins C dx fs) ∧ sp [y, x] H (fun z H' => ∃ b, z = .bl b ∧ Q (.bl b) H') E
theorem op_inO {E : XK} (c : Met X.prog X.w X.K X.mg X.base CX k C "__contains__" sp) (hr : Room j X.A) (hk : k ≤ j) (hx : Passes CX X E) : OpR X (compareOp .In) (rInO C sp E) := by
  intro pins s σ H x y v u Q I rx ry h
  obtain ⟨a, dx, fs, rfl, ha, q⟩ := h
  cases (show u = Value.ref a from ry)
  obtain ⟨f, fd, ps, hc, hm, F, b⟩ := c.ex
  obtain ⟨mA, J, _⟩ := ins_get I.hok ha
  obtain ⟨od, J, _⟩ := J.look
  obtain ⟨m, hF⟩ := I.fr
  refine PySem.W.in_K hF I.ok.mod.kin J hm.at_ hm.fn (wpAny_mono (run_met (E := fun _ => E) (us := [.ref a, v]) (vs := [.ref a, x]) F (hr.mono hk) b I.env0 (Passes.at hx σ) I (.cons rfl (.cons rx .nil)) q) (fun w s' z => ?_) fun _ _ x => x)
  obtain ⟨z', H', I', rz, i, ei, qz⟩ := z
  subst ei
  cases (show w = Value.bool i from rz)
  exact wpAny_truthy_bool ⟨.bl i, H', I', rfl, qz⟩
/-- x == y, both instances of the class at C with an own __eq__ -/
def rEqO (C : Addr) (sp : Sp) (E : XK) : R2 := fun x y H Q => ∃ a b dx dy fs gs, x = .ref a ∧ y = .ref b ∧ H a = some (.ins C dx fs) ∧ H b = some (.ins C dy gs) ∧ sp [x, y] H (fun z H' => ∃ b, z = .bl b ∧ Q (.bl b) H') E
theorem op_eqO {E : XK} (c : Met X.prog X.w X.K X.mg X.base CX k C "__eq__" sp) (hr : Room j X.A) (hk : k ≤ j) (hx : Passes CX X E) : OpR X (compareOp .Eq) (rEqO C sp E) := by
  intro pins s σ H x y v u Q I rx ry h
  obtain ⟨a, b, dx, dy, fs, gs, rfl, rfl, ha, hb', q⟩ := h
  cases (show v = Value.ref a from rx)
  cases (show u = Value.ref b from ry)
  obtain ⟨f, fd, ps, hc, hm, F, bd⟩ := c.ex
  obtain ⟨mA, J, _⟩ := ins_get I.hok ha
  obtain ⟨mB, J', _⟩ := ins_get I.hok hb'
  obtain ⟨od, J, _⟩ := J.look
  obtain ⟨od', J', _⟩ := J'.look
  obtain ⟨m, hF⟩ := I.fr
  show wpAny (model X.prog X.w) X.A (richCompare .Eq (.ref a) (.ref b)) (EP X pins σ Q) X.xe s
  refine PySem.W.cmp_K (op := .Eq) (tb := .ref C) (hr.mono hk).units0 hF I.ok.mod.kin J J'.type (by simp [PySem.W.notFirst]) hm.at_ hm.fn ?_
  refine wpAny_mono (run_met (E := fun _ => E) (us := [.ref a, .ref b]) (vs := [.ref a, .ref b]) F (hr.mono hk) bd I.env0 (Passes.at hx σ) I (.cons rfl (.cons rfl .nil)) q) (fun w s' z => ?_) fun _ _ x => x
  obtain ⟨z', H', I', rz, i, ei, qz⟩ := z
  subst ei
  cases (show w = Value.bool i from rz)
  exact ⟨.bl i, H', I', rfl, qz⟩
/-- x[y], x an instance with an own __getitem__ -/
def tIxO (C : Addr) (sp : Sp) (E : L2.St → XK) (ta tb : TE) : TE := fun σ H Q => ta σ H fun x H1 => tb σ H1 fun y H2 => ∃ a dx fs, x = .ref a ∧ H2 a = some (.ins C dx fs) ∧ sp [x, y] H2 Q (E σ)
theorem pe_ixO {a b : Expr} {ta tb : TE} {pos : Pos} (c : Met X.prog X.w X.K X.mg X.base CX k C "__getitem__" sp) (hfi : ∀ f, PySem.W.findIn X.K (.ref C) "__getitem__" = some (some (.ref f)) → PySem.W.fnIn X.K f = true) (hr : Room j X.A) (hk : k + 1 ≤ j) (hx : ∀ σ, PassesAt CX X σ (E σ)) (ha : PE X a ta) (hb : PE X b tb)
    (hs : ∀ o i, subscripted b true o i = runValue (.builtin "lifetime.subscript" ⟨[o, i], []⟩) := by intro _ _; with_unfolding_all rfl) : PE X (.Subscript a b pos) (tIxO C sp E ta tb) := by
  refine ⟨fun pins s σ H Q I h => ?_⟩
  refine Subscript_ (binT ha hb I h fun v u s2 x y H2 I2 rx ry q => ?_)
  obtain ⟨p, dx, fs, rfl, hp, q⟩ := q
  cases (show v = Value.ref p from rx)
  obtain ⟨f, fd, ps, hc, hm, F, bd⟩ := c.ex
  obtain ⟨mA, J, _⟩ := ins_get I2.hok hp
  obtain ⟨od, J, _⟩ := J.look
  obtain ⟨m, hF⟩ := I2.fr
  exact PySem.W.sub_K hF I2.ok.mod.kin J hm.at_ (hfi f hm.at_) hm.fn (run_met (us := [.ref p, u]) (vs := [.ref p, y]) F (hr.mono hk).in1 bd I2.env0.in1 (hx σ) I2 (.cons rfl (.cons ry .nil)) q) (hs _ _)
theorem g_ixO {ta tb : TE} {σ : L2.St} {H : Hp} {Q : VK} (h : ta σ H fun x H1 => tb σ H1 fun y H2 => ∃ a dx fs, x = .ref a ∧ H2 a = some (.ins C dx fs) ∧ sp [x, y] H2 Q (E σ)) : tIxO C sp E ta tb σ H Q := h
end
def rIsntB : R2 := fun x y H Q => ∃ a b, x = .bl a ∧ y = .bl b ∧ Q (.bl (!decide (a = b))) H
theorem op_isntB {X : Cx} : OpR X (compareOp .IsNot) rIsntB := op_isnot_bl
theorem g_isntB {H : Hp} {Q : VK} {a b : Bool} (q : Q (.bl (!decide (a = b))) H) : rIsntB (.bl a) (.bl b) H Q := ⟨a, b, rfl, rfl, q⟩

end G
namespace G
open PySem PySem.Spec PyProof.Rows L2

/-! ### lists of dicts compared -/
section
open PySem.SeqAt
open AutoSeq1 (wpAny_loadPart')
open MeetsSeq MeetsSeq2 MeetsSeq3 SeqRoads2
variable {prog : Program} {w : World} {A : Around} {R : Result → Shared → Prop}
/-- the loop of != over two lists whose items are equal, pair by pair -/
theorem neq_loop (l b : Addr) (N : Nat) (J : Nat → Shared → Prop) (hl : GQ.ListI prog w A (fun e s' => R (.error e) s') l b N J) (fin : ∀ s, J N s → R (.ok (.ret (.bool false))) s) : ∀ (k i : Nat), N - i = k → i ≤ N → ∀ s, J i s →
    wpAny (model prog w) A.in1 (Builtin.«list.__eq__.loop» ⟨[.ref l, .ref b, rawInt i, rawInt 3], []⟩) (GQ.FinOf prog w A R) (fun e s' => R (.error e) s') s
  | 0, i, hk, hi, s, h => by
    obtain ⟨xs, ys, n, m, gl, gb, z1, z2, _⟩ := hl _ _ h
    have hN : i = N := by omega
    have hR := fin s (hN ▸ h)
    obtain ⟨hp, g, d, tk, os⟩ := s
    wp_walk using wpAny_loadPart' gl, wpAny_loadPart' gb
    have q1 : xs[((i : Nat) : Int).toNat]? = none := by simp; omega
    have q2 : ys[((i : Nat) : Int).toNat]? = none := by simp; omega
    rw [q1, q2]
    wp_walk using wpAny_loadPart' gl, wpAny_loadPart' gb
    show R (.ok (.ret (.bool (xs.size != ys.size)))) _
    rw [z1, z2]
    simpa using hR
  | k + 1, i, hk, hi, s, h => by
    obtain ⟨xs, ys, n, m, gl, gb, z1, z2, turn⟩ := hl _ _ h
    have l1 : i < xs.size := by omega
    have l2 : i < ys.size := by omega
    have ht := turn l1 l2
    obtain ⟨hp, g, d, tk, os⟩ := s
    wp_walk using wpAny_loadPart' gl, wpAny_loadPart' gb
    have q1 : xs[((i : Nat) : Int).toNat]? = some xs[i] := by simp [l1]
    have q2 : ys[((i : Nat) : Int).toNat]? = some ys[i] := by simp [l2]
    have hc : ((i : Int) + 1) = ((i + 1 : Nat) : Int) := by omega
    rw [q1, q2]
    refine wpAny_bind (wpAny_mono ht (fun r s2 h2 => ?_) fun _ _ x => x)
    obtain ⟨rfl, h2⟩ := h2
    have more := neq_loop l b N J hl fin k (i + 1) (by omega) (by omega) s2 h2
    obtain ⟨hp2, g2, d2, tk2, os2⟩ := s2
    wp_walk
    rw [hc]
    refine ⟨plainId_quiet plain_eq_loop _, codeAny_builtin entry_eq_loop ?_⟩
    rw [Around.under_plainId plain_eq_loop _]
    exact more
theorem neq_list {E : Value → Shared → Prop} {s : Shared} {l b : Addr} {N : Nat} {Q : Value → Shared → Prop} (hu : A.units < cLine) (J : Nat → Shared → Prop) (hl : GQ.ListI prog w A E l b N J) (fin : ∀ s, J N s → Q (.bool false) s) (h : J 0 s) : wpAny (model prog w) A (richCompare .NotEq (.ref l) (.ref b)) Q E s := by
  obtain ⟨xs, ys, n, m, gl, gb, z1, z2, _⟩ := hl _ _ h
  have more := neq_loop (A := A) (R := wants (fun v s' => v ≠ .notImplemented ∧ Q v s') E) l b N J hl (fun s' q => ⟨(fun x => nomatch x), fin s' q⟩) _ 0 rfl (Nat.zero_le _) s h
  refine wpAny_richCompare_same_room (op := .NotEq) ⟨_, gl, rfl⟩ ⟨_, gb, rfl⟩ F.slot_list_ne (GQ.call_here F.slot_list_ne ⟨_, gl, rfl⟩ F.entry_list_ne (F.args_list_ne_2 _ _) ?_) hu
  obtain ⟨hp, g, d, tk, os⟩ := s
  have f3 := AutoSeq1.sub_list_list
  have hne : ¬ (xs.size != ys.size) = true := by simp [z1, z2]
  wp_walk using wpAny_loadPart' gl, wpAny_loadPart' gb
  refine ⟨plainId_quiet plain_eq_loop _, codeAny_builtin entry_eq_loop ?_⟩
  rw [Around.under_plainId plain_eq_loop _]
  exact more
end
section
variable {X : Cx} {n : Nat}
/-- two dicts of the same flat items -/
def SD : Eqv := fun x y H => ∃ (p q : Addr) (ks ls : List (Key × V)), x = .ref p ∧ y = .ref q ∧ H p = some (.dK ks) ∧ H q = some (.dK ls) ∧ ks.length = ls.length ∧ ∀ y ∈ ks, valV ls y.1 = some y.2 ∧ flatB y.2 = true
theorem mon_sd : Mon SD := fun x y H H' e d => by
  obtain ⟨p, q, ks, ls, hx, hy, h1, h2, r⟩ := d
  exact ⟨p, q, ks, ls, hx, hy, e _ _ h1, e _ _ h2, r⟩
theorem rcG_sd : RcG X n SD := by
  intro A pins s σ H x y u v sb I rx ry h
  obtain ⟨a, b, ks, ls, rfl, rfl, ea, eb, hlen, hp⟩ := h
  obtain rfl : u = Value.ref a := rx
  obtain rfl : v = Value.ref b := ry
  obtain ⟨_, ya, va, ra, da⟩ := (show ObjOk X.prog X.w H s.heap a (.dK ks) from I.hok a _ ea)
  obtain ⟨_, yb, vb, rb, db⟩ := (show ObjOk X.prog X.w H s.heap b (.dK ls) from I.hok b _ eb)
  have hl : va.length = vb.length := by rw [← ra.length, ← rb.length]; exact hlen
  refine PySem.W.keq_eq (knd := mixKind X.prog X.w) (r := true) ya yb da db sb.room.units0 (fun _ => hits_all rb ra hp) ?_
  refine ⟨?_, H, I, Ext.rfl'⟩
  simp [hl]
theorem eqG_sd : EqG X n SD := rcG_sd.eqG fun _ _ _ d => let ⟨a, b, _, _, hx, hy, _⟩ := d; ⟨a, b, hx, hy⟩
theorem op_eqLD (hr : Room (n + 1) X.A) : OpR X (compareOp .Eq) (rEqG (DList SD)) := op_eqG (rcG_list mon_sd (eqG_sd (n := n))) hr
def rNeG (D : Eqv) : R2 := fun x y H Q => D x y H ∧ ∀ H', Ext H H' → Q (.bl false) H'
theorem op_neLD (hr : Room (n + 1) X.A) : OpR X (compareOp .NotEq) (rNeG (DList SD)) := by
  intro pins s σ H x y v u Q I rx ry h
  obtain ⟨⟨a, b, xs, ys, rfl, rfl, ha, hb, p⟩, q⟩ := h
  cases (show v = Value.ref a from rx)
  cases (show u = Value.ref b from ry)
  show wpAny (model X.prog X.w) X.A (richCompare .NotEq (.ref a) (.ref b)) (EP X pins σ Q) X.xe s
  refine neq_list (N := xs.length) hr.units0 (fun _ s' => LoopI X pins σ H s') (fun i s' z => ?_) (fun s' z => ?_) ⟨H, I, Ext.rfl'⟩
  · obtain ⟨H1, I1, e1⟩ := id z
    obtain ⟨z1, its, k1, r1, e⟩ := I1.hok a _ (e1 _ _ ha)
    obtain ⟨z2, its2, k2, r2, e2⟩ := I1.hok b _ (e1 _ _ hb)
    exact ⟨its.toArray, its2.toArray, k1, k2, e, e2, by rw [List.size_toArray, ← r1.length], by rw [List.size_toArray, ← r2.length, ← p.1], fun h1 h2 => turnG mon_sd (eqG_sd (n := n)) ⟨hr, rfl⟩ p r1 r2 i h1 h2 s' z⟩
  · obtain ⟨H1, I1, e1⟩ := z
    exact ⟨.bl false, H1, I1, rfl, q H1 e1⟩
theorem Fr.ext {H H' : Hp} (e : Ext H H') : Fr NoA H H' := ⟨fun b o h _ => e b o h, fun b h => by
  cases hb : H b with
  | none => rfl
  | some o => rw [e b o hb] at h; cases h⟩
end

end G
namespace G
open PySem PySem.Spec PyProof.Rows L2

/-! ### enumerate(tuple) -/
theorem new_enum1 {v : Value} {o : Obj} {Hh : Heap → Prop} (B : Begins v o Hh) : Meets (Builtin.«enumerate.__new__» ⟨[.type "enumerate", v], []⟩) (fun _ R s => Hh s.heap ∧
      R (.ok (.ret (.ref (s.heap.push o).objs.size))) { s with heap := (s.heap.push o).push { cls := .type "enumerate", data := .fields #[.none, .bool false, .ref s.heap.objs.size, rawInt 0, .none, .none] } }) :=
  .of_wp fun prog w A R s h => by
    obtain ⟨hp, g, d, tk, os⟩ := s
    obtain ⟨h1, h⟩ := h
    have hsub := sub_enumerate
    have it : ∀ {A' : Around} {E : Value → Shared → Prop} {Q : Value → Shared → Prop}, Q (.ref hp.objs.size) ⟨hp.push o, g, d, tk, os⟩ → wpAny (model prog w) A' (pyIter v) Q E ⟨hp, g, d, tk, os⟩ := fun q => B.iter prog w _ _ ⟨hp, g, d, tk, os⟩ _ h1 q
    wp_walk using it
    refine wpAny_stack_any fun st => wpAny_pure ?_
    split
    · rename_i c _ _ _ _ _
      cases (c == Value.type "enumerate") <;> (wp_walk using it; exact ⟨_, rfl, h⟩)
    · wp_walk using it
      exact ⟨_, rfl, h⟩
theorem call_enum1 {prog : Program} {w : World} {A : Around} {E : Value → Shared → Prop} {s : Shared} {v : Value} {o : Obj} {Hh : Heap → Prop} {Q : Value → Shared → Prop} (B : Begins v o Hh) (h1 : Hh s.heap)
    (h : ∀ h', IsEnum h' (s.heap.objs.size + 1) s.heap.objs.size 0 .none → h'.get? s.heap.objs.size = some o → (∀ b o, s.heap.get? b = some o → h'.get? b = some o) → Q (.ref (s.heap.objs.size + 1)) { s with heap := h' }) : wpAny (model prog w) A (call (.type "enumerate") [v]) Q E s := by
  refine callType_new F.called_enumerate (by decide) (F.typeCall_enumerate_1 _) (F.newCall_enumerate_1 _) (fun obj => F.args_object_init_2 obj _) F.entry_enumerate_new (new_enum1 B) ⟨h1, ?_⟩
  have hz : (s.heap.push o).objs.size = s.heap.objs.size + 1 := Heap.size_push ..
  show _ ∧ _
  rw [hz]
  have he : IsEnum ((s.heap.push o).push { cls := .type "enumerate", data := .fields #[.none, .bool false, .ref s.heap.objs.size, rawInt 0, .none, .none] }) (s.heap.objs.size + 1) s.heap.objs.size 0 .none := by
    have z := Heap.get?_push_size (s.heap.push o) (o := { cls := .type "enumerate", data := .fields #[.none, .bool false, .ref s.heap.objs.size, rawInt 0, .none, .none] }) rfl
    rw [hz] at z
    exact z
  exact ⟨⟨_, he, rfl⟩, h _ he (Heap.get?_push_of_some _ (Heap.get?_push_size _ B.free)) fun b o x => Heap.get?_push_of_some _ (Heap.get?_push_of_some _ x)⟩
/-- the tuple at a, each item in a new pair -/
def ItE (K : PySem.W.Frag) (a : Addr) : It :=
  ⟨fun i H => ∃ (xs : List V) (x : V), SqT K H a xs ∧ xs[i]? = some x, fun i H v H' => ∃ T x, v = .ref T ∧ H T = none ∧ H' = upd H T (.tup [.int (i : Nat), x]) ∧ ∀ xs, SqT K H a xs → xs[i]? = some x, fun i H => ∃ xs : List V, SqT K H a xs ∧ xs.length ≤ i⟩
theorem next_enum_endT {prog : Program} {w : World} {A : Around} {E : Value → Shared → Prop} {s : Shared} {en ti t : Addr} {i : Int} {j : Nat} {old : Value} {items : Array Value} {Q : Option Value → Shared → Prop} (hh : A.handled = none) (q1 : IsEnum s.heap en ti i old) (q2 : s.heap.IsTupleIter ti t j) (q3 : s.heap.IsTuple t items) (q4 : items[j]? = none) (hQ : ∀ h', Heap.ExtBut ti s.heap h' → Q none { s with heap := h' }) : wpAny (model prog w) A (pyNext (.ref en)) Q E s := by
  have q0 : s.TypeIs (.ref en) "enumerate" := ⟨_, q1, rfl⟩
  unfold pyNext
  refine wpAny_bind (wpAny_attempt (wpAny_callSpecial?_slot (name := Str.ofString "__next__") q0 F.slot_enumerate_next (wpAny_call_entry F.slot_enumerate_next q0 F.entry_enumerate_next ?_ (F.args_enumerate_next_1 _))))
  show wpAny _ _ (field (.ref en) 2 >>= _) _ _ _
  refine wpAny_bind (wpAny_field q1 rfl (x := .ref ti) rfl ?_)
  refine wpAny_bind (wpAny_nextOf_tuple_end (show A.in1.handled = none from hh) q2 q3 q4 fun h' x z1 z2 => ?_)
  obtain ⟨o, ho, hc⟩ := z2
  exact wpAny_bind (wpAny_isInstance (T := "StopIteration") (b := true) ⟨o, ho, hc⟩ isSubtype_stop (wpAny_pure (hQ _ z1)))
theorem turn_enumT {P : Program} {w : World} {K : PySem.W.Frag} {elts : List Expr} {kk : Nat} {tpos : Pos} (a e it : Addr) (hae : a ≠ e) (hai : a ≠ it) :
    Turn P w K (.Tuple elts kk tpos) (ItE K a) [e, it] e (fun i h => (∃ old, IsEnum h e it ((i : Nat) : Int) old) ∧ h.IsTupleIter it a i ∧ e ≠ it) where
  mem := by simp
  obj := fun i h st b hb => by
    obtain ⟨⟨old, he⟩, ⟨o, ho, hc, hd⟩, _⟩ := st
    have e' : b = e ∨ b = it := by simpa using hb
    rcases e' with z | z
    · rw [z]; exact ⟨_, he, fun v q => nomatch q⟩
    · rw [z]; exact ⟨o, ho, fun v q => by rw [hd] at q; cases q⟩
  keep := fun i h h' st k => let ⟨⟨old, he⟩, hi, hne⟩ := st; ⟨⟨old, k e (by simp) _ he⟩, hi.at fun o q => k it (by simp) o q, hne⟩
  item := by
    intro X hP hw hK hc i pins s σ H E I hf st hg
    subst hP hw hK
    obtain ⟨⟨old, he⟩, hit, hne⟩ := st
    obtain ⟨xs, x, hq, hx⟩ := hg
    obtain ⟨its, rv, pt, hz⟩ := I.tuple hq
    obtain ⟨u, hu, ru⟩ := rv.get hx
    have il : i < its.toArray.size := by
      rw [List.size_toArray]
      exact (List.getElem?_eq_some_iff.mp hu).1
    have hel : e < s.heap.objs.size := Heap.lt_size he
    have hil : it < s.heap.objs.size := by obtain ⟨_, q, _⟩ := hit; exact Heap.lt_size q
    refine wpAny_pyNext_enum_itemD (Draws.tuple (A := X.A.in1) (show X.A.in1.handled = none from I.ok.hd hc) it a hai its.toArray) he ⟨hit, pt⟩ il hne (by simp [hne, Ne.symm hae]) fun y h' tk hy ho hst hT hsz hk => ?_
    have hyu : y = u := by
      have z : its.toArray[i]? = some u := by simpa using hu
      rw [z] at hy
      exact (Option.some.inj hy).symm
    subst hyu
    refine ⟨_, rfl, wpAny_letOwnedTupleGo_enum (s := { s with heap := h', toks := tk + 1 }) ho fun h2 he2 sb => ?_⟩
    have hT2 : h2.get? s.heap.objs.size = some { cls := .type "tuple", data := .seq #[.int i tk, y] } := (sb.2 _ (Nat.ne_of_gt hel)).trans hT
    have new : ObjOk X.prog X.w (upd H s.heap.objs.size (.tup [.int (i : Nat), x])) h2 s.heap.objs.size (.tup [.int (i : Nat), x]) :=
      ⟨by show 2 ≤ sizeLine; decide, [.int i tk, y], .cons ⟨_, rfl⟩ (.cons ru .nil), ⟨_, hT2, rfl, _, rfl⟩⟩
    have I1 : Inv X pins σ (upd H s.heap.objs.size (.tup [.int (i : Nat), x])) { s with heap := h2, toks := tk + 1 } :=
      I.turnedNew (ch := [e, it]) (fun b ob hb q => (sb.2 b (fun z => hb (by simp [z]))).trans (hk b ob (fun z => hb (by simp [z])) (fun z => hb (by simp [z])) q)) hf (Nat.le_refl _) new
    refine ⟨.ref s.heap.objs.size, _, I1, rfl, ⟨_, x, rfl, I.hok.fresh (Nat.le_refl _), rfl, fun ys hy2 => ?_⟩, ⟨⟨y, ?_⟩, hst.1.at fun o q => (sb.2 it (Ne.symm hne)).trans q, hne⟩, fun b hb => ?_⟩
    · rw [I.tuple_inj hy2 hq]
      exact hx
    · have e1 : ((i + 1 : Nat) : Int) = (i : Int) + 1 := by omega
      rw [e1]
      exact he2
    · have hb' : b < s.heap.objs.size := by
        have e' : b = e ∨ b = it := by simpa using hb
        rcases e' with z | z
        · rw [z]; exact hel
        · rw [z]; exact hil
      rw [upd_ne (Nat.ne_of_lt hb')]
      exact (hf b hb).1
  done := by
    intro X hP hw hK hc i pins s σ H E I hf st hg
    subst hP hw hK
    obtain ⟨⟨old, he⟩, hit, hne⟩ := st
    obtain ⟨xs, hq, hx⟩ := hg
    obtain ⟨its, rv, pt, hz⟩ := I.tuple hq
    obtain ⟨f0, f1, f2, f3, f4, f5⟩ := hf it (by simp)
    have hl := rv.length
    exact next_enum_endT (I.ok.hd hc) he hit pt (by simp; omega) fun h' eb => ⟨rfl, I.turned (t' := s.toks) (fun b o hb q => eb b o hb q) f0 f1 f3 f4 f5⟩
  self := fun A i s Q E st h => let ⟨⟨_, he⟩, _⟩ := st; wpAny_pyIter_enum he h
def iEnumT (K : PySem.W.Frag) (ta : TA) : TI := fun σ H R => ta σ H fun vs H1 => ∃ a xs, vs = [.ref a] ∧ SqT K H1 a xs ∧ R (ItE K a) H1
theorem pi_enumT {X : Cx} {e : Expr} {ta : TA} {p pos tpos : Pos} {elts : List Expr} {kk : Nat} (hg : Gl X "enumerate") (hm : X.mg "enumerate" = none) (ha : PA X [e] ta) (hs : starEach [e] X.env = [(false, eval e X.env)] := by rfl) : PI X (.Tuple elts kk tpos) (.Call (.Name "enumerate" p) [e] [] pos) (iEnumT X.K ta) := by
  refine ⟨fun pins s σ H R I h => ?_⟩
  refine Call_ (ld_blt I hg hm boot_enumerate (PyProof.Rows.callWith_type1 (thn (ha.run pos pins s σ H _ I h) fun us s1 ⟨vs, H1, I1, r1, q1⟩ => ?_) hs rfl))
  obtain ⟨a, xs, rfl, hq, q⟩ := q1
  obtain ⟨u, rfl, ru⟩ := r1.one
  cases (show u = Value.ref a from ru)
  obtain ⟨its, rv, pt, hz⟩ := I1.tuple hq
  have la : a < s1.heap.objs.size := by obtain ⟨_, z, _⟩ := pt; exact Heap.lt_size z
  refine call_enum1 (begins_tuple a its.toArray) pt fun h' he hit hk => wpAny_pyIter_enum he ?_
  have I2 : Inv X pins σ H1 { s1 with heap := h' } := I1.kept (t' := s1.toks) hk
  refine ⟨s1.heap.objs.size + 1, [s1.heap.objs.size + 1, s1.heap.objs.size], _, _, H1, rfl, I2, turn_enumT a (s1.heap.objs.size + 1) s1.heap.objs.size (Nat.ne_of_lt (Nat.lt_succ_of_lt la)) (Nat.ne_of_lt la), ⟨⟨.none, he⟩, ⟨_, hit, rfl, rfl⟩, Nat.succ_ne_self _⟩, fun b hb => ?_, q⟩
  have e' : b = s1.heap.objs.size + 1 ∨ b = s1.heap.objs.size := by simpa using hb
  have hle : s1.heap.objs.size ≤ b := e'.elim (fun z => z ▸ Nat.le_succ _) fun z => Nat.le_of_eq z.symm
  exact I1.fpOk hle (I1.hok.fresh hle)
theorem walk_enumT {K : PySem.W.Frag} {a : Addr} {xs : List V} : Walk (ItE K a) xs.length (fun H => SqT K H a xs) (YPair (fun i => some (.int (i : Nat))) (fun i => xs[i]?)) := by
  refine ⟨fun i _ hi q => ⟨xs, xs[i], q, by simp [hi]⟩, fun _ q => ⟨xs, q, Nat.le_refl _⟩, fun i H v H' _ q y => ?_⟩
  obtain ⟨T, x, y1, y2, y3, y4⟩ := y
  exact ⟨T, .int (i : Nat), x, y1, y2, y3, rfl, y4 xs q⟩
theorem g_iEnumT {K : PySem.W.Frag} {ta : TA} {σ : L2.St} {H : Hp} {R : It → Hp → Prop} (h : ta σ H fun vs H1 => ∃ a xs, vs = [.ref a] ∧ SqT K H1 a xs ∧ R (ItE K a) H1) : iEnumT K ta σ H R := h

end G
namespace E
open PySem PySem.Spec PyProof.Rows L2 G

/-- plain data, shared: nobody changes it any more -/
inductive D where
  | non | bl (b : Bool) | int (i : Int) | str (z : Str) | ty (n : String)
  /-- the object at a; where one's own tree of it was found: entry i, way p -/
  | at (a : Addr) (i : Nat) (p : List Nat)
  | lst (xs : List D) | tup (xs : List D)
  | dK (ks : List Key) (xs : List D) | dT (ks : List (List Key)) (xs : List D)
  | obj (C : Addr) (fs : List Str) (xs : List D)
  /-- an exception, its dict at d -/
  | exc (C d : Addr) (fs : List Str) (xs : List D)
/-- a tree with objects of one's own: they know their address -/
inductive T where
  | no
  | sh (d : D)
  | lst (a : Addr) (xs : List T) | tup (xs : List T)
  | dK (a : Addr) (ks : List Key) (xs : List T) | dT (a : Addr) (ks : List (List Key)) (xs : List T)
  | obj (a : Addr) (C : Addr) (fs : List Str) (xs : List T)

mutual
def T.owns : T → List Addr
  | .no => []
  | .sh _ => []
  | .lst a xs => a :: ownsL xs
  | .tup xs => ownsL xs
  | .dK a _ xs => a :: ownsL xs
  | .dT a _ xs => a :: ownsL xs
  | .obj a _ _ xs => a :: ownsL xs
def ownsL : List T → List Addr
  | [] => []
  | x :: xs => x.owns ++ ownsL xs
end
mutual
/-- given away: nobody owns it any more -/
def T.pub : T → Option D
  | .no => none
  | .sh d => some d
  | .lst _ xs => (pubL xs).map D.lst
  | .tup xs => (pubL xs).map D.tup
  | .dK _ ks xs => (pubL xs).map (D.dK ks)
  | .dT _ ks xs => (pubL xs).map (D.dT ks)
  | .obj _ C fs xs => (pubL xs).map (D.obj C fs)
def pubL : List T → Option (List D)
  | [] => some []
  | x :: xs => (x.pub).bind fun d => (pubL xs).map (d :: ·)
end
def T.addr : T → Option Addr
  | .lst a _ => some a
  | .dK a _ _ => some a
  | .dT a _ _ => some a
  | .obj a _ _ _ => some a
  | _ => none
/-- read, as a value: one's own object is told by its address -/
def T.rd (i : Nat) (p : List Nat) : T → Option T
  | .sh d => some (.sh d)
  | .lst a _ => some (.sh (.at a i p))
  | .dK a _ _ => some (.sh (.at a i p))
  | .dT a _ _ => some (.sh (.at a i p))
  | .obj a _ _ _ => some (.sh (.at a i p))
  | _ => none
abbrev sint (i : Int) : T := .sh (.int i)
abbrev sbl (b : Bool) : T := .sh (.bl b)
abbrev sstr (z : Str) : T := .sh (.str z)
abbrev snon : T := .sh .non

/-! ### what represents what -/
inductive RD (H : Hp) (A : Addr → Prop) : V → D → Prop
  | non : RD H A .non .non
  | bl (b : Bool) : RD H A (.bl b) (.bl b)
  | int (i : Int) : RD H A (.int i) (.int i)
  | str (z : Str) : RD H A (.str z) (.str z)
  | ty (n : String) : RD H A (.ty n) (.ty n)
  | at (a : Addr) (i : Nat) (p : List Nat) : RD H A (.ref a) (.at a i p)
  | lst {a : Addr} {vs : List V} {xs : List D} : H a = some (.lst vs) → A a → vs.length = xs.length → (∀ (k : Nat) (v : V) (d : D), vs[k]? = some v → xs[k]? = some d → RD H A v d) → RD H A (.ref a) (.lst xs)
  | tup {a : Addr} {vs : List V} {xs : List D} : H a = some (.tup vs) → A a → vs.length = xs.length → (∀ (k : Nat) (v : V) (d : D), vs[k]? = some v → xs[k]? = some d → RD H A v d) → RD H A (.ref a) (.tup xs)
  | dK {a : Addr} {kvs : List (Key × V)} {xs : List D} : Rd H a (.dK kvs) → A a → kvs.length = xs.length → (∀ (k : Nat) (p : Key × V) (d : D), kvs[k]? = some p → xs[k]? = some d → RD H A p.2 d) → RD H A (.ref a) (.dK (kvs.map Prod.fst) xs)
  | dT {a : Addr} {kvs : List (List Key × V)} {xs : List D} : Rd H a (.dT kvs) → A a → kvs.length = xs.length → (∀ (k : Nat) (p : List Key × V) (d : D), kvs[k]? = some p → xs[k]? = some d → RD H A p.2 d) → RD H A (.ref a) (.dT (kvs.map Prod.fst) xs)
  | obj {a C dx : Addr} {fvs : List (Str × V)} {xs : List D} : H a = some (.ins C dx fvs) → A a → fvs.length = xs.length → (∀ (k : Nat) (p : Str × V) (d : D), fvs[k]? = some p → xs[k]? = some d → RD H A p.2 d) → RD H A (.ref a) (.obj C (fvs.map Prod.fst) xs)
  | exc {a C dd : Addr} {fvs : List (Str × V)} {xs : List D} : H dd = some (.xd fvs) → A dd → fvs.length = xs.length → (∀ (k : Nat) (p : Str × V) (d : D), fvs[k]? = some p → xs[k]? = some d → RD H A p.2 d) → RD H A (.ref a) (.exc C dd (fvs.map Prod.fst) xs)
inductive R (H : Hp) (A : Addr → Prop) : Option V → T → Prop
  | no (x : Option V) : R H A x .no
  | sh {v : V} {d : D} : RD H A v d → R H A (some v) (.sh d)
  | lst {a : Addr} {vs : List V} {xs : List T} : H a = some (.lst vs) → vs.length = xs.length → (∀ (k : Nat) (v : V) (t : T), vs[k]? = some v → xs[k]? = some t → R H A (some v) t) → R H A (some (.ref a)) (.lst a xs)
  | tup {a : Addr} {vs : List V} {xs : List T} : H a = some (.tup vs) → A a → vs.length = xs.length → (∀ (k : Nat) (v : V) (t : T), vs[k]? = some v → xs[k]? = some t → R H A (some v) t) → R H A (some (.ref a)) (.tup xs)
  | dK {a : Addr} {kvs : List (Key × V)} {xs : List T} : H a = some (.dK kvs) → kvs.length = xs.length → (∀ (k : Nat) (p : Key × V) (t : T), kvs[k]? = some p → xs[k]? = some t → R H A (some p.2) t) → R H A (some (.ref a)) (.dK a (kvs.map Prod.fst) xs)
  | dT {a : Addr} {kvs : List (List Key × V)} {xs : List T} : H a = some (.dT kvs) → kvs.length = xs.length → (∀ (k : Nat) (p : List Key × V) (t : T), kvs[k]? = some p → xs[k]? = some t → R H A (some p.2) t) → R H A (some (.ref a)) (.dT a (kvs.map Prod.fst) xs)
  | obj {a C dx : Addr} {fvs : List (Str × V)} {xs : List T} : H a = some (.ins C dx fvs) → fvs.length = xs.length → (∀ (k : Nat) (p : Str × V) (t : T), fvs[k]? = some p → xs[k]? = some t → R H A (some p.2) t) → R H A (some (.ref a)) (.obj a C (fvs.map Prod.fst) xs)

/-- what stands at a stands on -/
structure Kp (H H' : Hp) (a : Addr) : Prop where
  dK : ∀ u, Rd H a (.dK u) → Rd H' a (.dK u)
  dT : ∀ u, Rd H a (.dT u) → Rd H' a (.dT u)
  ins : ∀ C dx fs, H a = some (.ins C dx fs) → H' a = some (.ins C dx fs)
  xd : ∀ fs, H a = some (.xd fs) → H' a = some (.xd fs)
  lst : ∀ vs, H a = some (.lst vs) → H' a = some (.lst vs)
  tup : ∀ vs, H a = some (.tup vs) → H' a = some (.tup vs)
theorem Kp.of {H H' : Hp} {a : Addr} {o : HO} (h : H a = some o) (h' : H' a = some o) : Kp H H' a := by
  have e : ∀ u, H a = some u → H' a = some u := fun u hu => by rw [h] at hu; rw [← hu]; exact h'
  exact ⟨fun u r => r.elim (fun z => .inl (e _ z)) fun ⟨o, z⟩ => .inr ⟨o, e _ z⟩, fun u r => r.elim (fun z => .inl (e _ z)) fun ⟨o, z⟩ => .inr ⟨o, e _ z⟩, fun _ _ _ z => e _ z, fun _ z => e _ z, fun _ z => e _ z, fun _ z => e _ z⟩
theorem Rd.some {H : Hp} {a : Addr} {u : HO} (r : Rd H a u) : ∃ o, H a = some o := r.elim (fun z => ⟨_, z⟩) fun ⟨o, z⟩ => ⟨_, z⟩
section
variable {H H' : Hp} {A A' : Addr → Prop}
theorem RD.mono (h1 : ∀ a o, A a → H a = some o → Kp H H' a ∧ A' a) {v : V} {d : D} (r : RD H A v d) : RD H' A' v d := by
  induction r with
  | non => exact .non
  | bl b => exact .bl b
  | int i => exact .int i
  | str z => exact .str z
  | ty n => exact .ty n
  | «at» a i p => exact .at a i p
  | lst e a l _ ih => obtain ⟨k, a'⟩ := h1 _ _ a e; exact .lst (k.lst _ e) a' l ih
  | tup e a l _ ih => obtain ⟨k, a'⟩ := h1 _ _ a e; exact .tup (k.tup _ e) a' l ih
  | dK r a l _ ih => obtain ⟨o, e⟩ := Rd.some r; obtain ⟨k, a'⟩ := h1 _ o a e; exact .dK (k.dK _ r) a' l ih
  | dT r a l _ ih => obtain ⟨o, e⟩ := Rd.some r; obtain ⟨k, a'⟩ := h1 _ o a e; exact .dT (k.dT _ r) a' l ih
  | obj e a l _ ih => obtain ⟨k, a'⟩ := h1 _ _ a e; exact .obj (k.ins _ _ _ e) a' l ih
  | exc e a l _ ih => obtain ⟨k, a'⟩ := h1 _ _ a e; exact .exc (k.xd _ e) a' l ih
theorem mem_ownsL {a : Addr} : ∀ {ts : List T} {k : Nat} {t : T}, ts[k]? = some t → a ∈ t.owns → a ∈ ownsL ts
  | [], _, _, h, _ => by simp at h
  | t :: ts, 0, u, h, m => by
    simp at h
    subst h
    unfold ownsL
    exact List.mem_append_left _ m
  | t :: ts, k + 1, u, h, m => by
    unfold ownsL
    exact List.mem_append_right _ (mem_ownsL (k := k) (by simpa using h) m)
theorem R.mono (h1 : ∀ a o, A a → H a = some o → Kp H H' a ∧ A' a) {x : Option V} {t : T} (r : R H A x t) : (∀ a o, a ∈ t.owns → H a = some o → H' a = some o) → R H' A' x t := by
  induction r with
  | no x => exact fun _ => .no x
  | sh r => exact fun _ => .sh (r.mono h1)
  | lst e l _ ih => exact fun h2 => .lst (h2 _ _ (by unfold T.owns; exact List.mem_cons_self) e) l fun k v t e1 e2 => ih k v t e1 e2 fun a o m => h2 a o (by unfold T.owns; exact List.mem_cons_of_mem _ (mem_ownsL e2 m))
  | tup e a l _ ih => intro h2; obtain ⟨k, a'⟩ := h1 _ _ a e; exact .tup (k.tup _ e) a' l fun k v t e1 e2 => ih k v t e1 e2 fun a o m => h2 a o (by unfold T.owns; exact mem_ownsL e2 m)
  | dK e l _ ih => exact fun h2 => .dK (h2 _ _ (by unfold T.owns; exact List.mem_cons_self) e) l fun k v t e1 e2 => ih k v t e1 e2 fun a o m => h2 a o (by unfold T.owns; exact List.mem_cons_of_mem _ (mem_ownsL e2 m))
  | dT e l _ ih => exact fun h2 => .dT (h2 _ _ (by unfold T.owns; exact List.mem_cons_self) e) l fun k v t e1 e2 => ih k v t e1 e2 fun a o m => h2 a o (by unfold T.owns; exact List.mem_cons_of_mem _ (mem_ownsL e2 m))
  | obj e l _ ih => exact fun h2 => .obj (h2 _ _ (by unfold T.owns; exact List.mem_cons_self) e) l fun k v t e1 e2 => ih k v t e1 e2 fun a o m => h2 a o (by unfold T.owns; exact List.mem_cons_of_mem _ (mem_ownsL e2 m))
theorem of_ownsL {a : Addr} : ∀ {ts : List T}, a ∈ ownsL ts → ∃ (k : Nat) (t : T), ts[k]? = some t ∧ a ∈ t.owns
  | [], h => by unfold ownsL at h; simp at h
  | t :: ts, h => by
    unfold ownsL at h
    rcases List.mem_append.mp h with h | h
    · exact ⟨0, t, rfl, h⟩
    · obtain ⟨k, u, e, m⟩ := of_ownsL h
      exact ⟨k + 1, u, by simpa using e, m⟩
theorem get_of_len {α β : Type} {l : List α} {m : List β} (h : l.length = m.length) {k : Nat} {y : β} (e : m[k]? = some y) : ∃ x, l[k]? = some x := by
  have := (List.getElem?_eq_some_iff.mp e).1
  exact ⟨l[k]'(by omega), List.getElem?_eq_getElem _⟩
/-- one's own objects stand -/
theorem R.there {x : Option V} {t : T} (r : R H A x t) : ∀ a ∈ t.owns, ∃ o, H a = some o := by
  induction r with
  | no x => intro a m; simp [T.owns] at m
  | sh r => intro a m; simp [T.owns] at m
  | lst e l _ ih =>
    intro a m
    unfold T.owns at m
    rcases List.mem_cons.mp m with m | m
    · rw [m]; exact ⟨_, e⟩
    · obtain ⟨k, t, e2, m⟩ := of_ownsL m
      obtain ⟨v, e1⟩ := get_of_len l e2
      exact ih k v t e1 e2 a m
  | tup e _ l _ ih =>
    intro a m
    unfold T.owns at m
    obtain ⟨k, t, e2, m⟩ := of_ownsL m
    obtain ⟨v, e1⟩ := get_of_len l e2
    exact ih k v t e1 e2 a m
  | dK e l _ ih =>
    intro a m
    unfold T.owns at m
    rcases List.mem_cons.mp m with m | m
    · rw [m]; exact ⟨_, e⟩
    · obtain ⟨k, t, e2, m⟩ := of_ownsL m
      obtain ⟨v, e1⟩ := get_of_len l e2
      exact ih k v t e1 e2 a m
  | dT e l _ ih =>
    intro a m
    unfold T.owns at m
    rcases List.mem_cons.mp m with m | m
    · rw [m]; exact ⟨_, e⟩
    · obtain ⟨k, t, e2, m⟩ := of_ownsL m
      obtain ⟨v, e1⟩ := get_of_len l e2
      exact ih k v t e1 e2 a m
  | obj e l _ ih =>
    intro a m
    unfold T.owns at m
    rcases List.mem_cons.mp m with m | m
    · rw [m]; exact ⟨_, e⟩
    · obtain ⟨k, t, e2, m⟩ := of_ownsL m
      obtain ⟨v, e1⟩ := get_of_len l e2
      exact ih k v t e1 e2 a m
theorem pubL_get : ∀ {ts : List T} {ds : List D}, pubL ts = some ds → ts.length = ds.length ∧ ∀ (k : Nat) (t : T) (d : D), ts[k]? = some t → ds[k]? = some d → t.pub = some d
  | [], ds, h => by
    unfold pubL at h
    cases h
    exact ⟨rfl, fun k t d e => by simp at e⟩
  | t :: ts, ds, h => by
    unfold pubL at h
    cases e1 : t.pub with
    | none => rw [e1] at h; cases h
    | some d =>
    rw [e1] at h
    cases e2 : pubL ts with
    | none => rw [e2] at h; cases h
    | some ds' =>
    rw [e2] at h
    cases h
    obtain ⟨l, g⟩ := pubL_get e2
    refine ⟨by simp [l], fun k u w h1 h2 => ?_⟩
    cases k with
    | zero => simp at h1 h2; subst h1 h2; exact e1
    | succ k => exact g k u w (by simpa using h1) (by simpa using h2)
theorem R.pub (h1 : ∀ a, A a → A' a) {x : Option V} {t : T} (r : R H A x t) : ∀ {d : D}, t.pub = some d → (∀ a ∈ t.owns, A' a) → ∃ v, x = some v ∧ RD H A' v d := by
  induction r with
  | no x => intro d e _; unfold T.pub at e; cases e
  | sh r => intro d e _; unfold T.pub at e; cases e; exact ⟨_, rfl, r.mono fun a o z e => ⟨.of e e, h1 a z⟩⟩
  | lst e l _ ih =>
    intro d hp ho
    unfold T.pub at hp
    cases q : pubL _ with
    | none => rw [q] at hp; cases hp
    | some ds =>
    rw [q] at hp
    cases hp
    obtain ⟨l2, g⟩ := pubL_get q
    refine ⟨_, rfl, .lst e (ho _ (by unfold T.owns; exact List.mem_cons_self)) (l.trans l2) fun k v d e1 e2 => ?_⟩
    obtain ⟨t, e3⟩ := get_of_len l2 e2
    obtain ⟨v', ev, rr⟩ := ih k v t e1 e3 (g k t d e3 e2) fun a m => ho a (by unfold T.owns; exact List.mem_cons_of_mem _ (mem_ownsL e3 m))
    cases ev
    exact rr
  | tup e a l _ ih =>
    intro d hp ho
    unfold T.pub at hp
    cases q : pubL _ with
    | none => rw [q] at hp; cases hp
    | some ds =>
    rw [q] at hp
    cases hp
    obtain ⟨l2, g⟩ := pubL_get q
    refine ⟨_, rfl, .tup e (h1 _ a) (l.trans l2) fun k v d e1 e2 => ?_⟩
    obtain ⟨t, e3⟩ := get_of_len l2 e2
    obtain ⟨v', ev, rr⟩ := ih k v t e1 e3 (g k t d e3 e2) fun a m => ho a (by unfold T.owns; exact mem_ownsL e3 m)
    cases ev
    exact rr
  | dK e l _ ih =>
    intro d hp ho
    unfold T.pub at hp
    cases q : pubL _ with
    | none => rw [q] at hp; cases hp
    | some ds =>
    rw [q] at hp
    cases hp
    obtain ⟨l2, g⟩ := pubL_get q
    refine ⟨_, rfl, .dK (.inl e) (ho _ (by unfold T.owns; exact List.mem_cons_self)) (l.trans l2) fun k v d e1 e2 => ?_⟩
    obtain ⟨t, e3⟩ := get_of_len l2 e2
    obtain ⟨v', ev, rr⟩ := ih k v t e1 e3 (g k t d e3 e2) fun a m => ho a (by unfold T.owns; exact List.mem_cons_of_mem _ (mem_ownsL e3 m))
    cases ev
    exact rr
  | dT e l _ ih =>
    intro d hp ho
    unfold T.pub at hp
    cases q : pubL _ with
    | none => rw [q] at hp; cases hp
    | some ds =>
    rw [q] at hp
    cases hp
    obtain ⟨l2, g⟩ := pubL_get q
    refine ⟨_, rfl, .dT (.inl e) (ho _ (by unfold T.owns; exact List.mem_cons_self)) (l.trans l2) fun k v d e1 e2 => ?_⟩
    obtain ⟨t, e3⟩ := get_of_len l2 e2
    obtain ⟨v', ev, rr⟩ := ih k v t e1 e3 (g k t d e3 e2) fun a m => ho a (by unfold T.owns; exact List.mem_cons_of_mem _ (mem_ownsL e3 m))
    cases ev
    exact rr
  | obj e l _ ih =>
    intro d hp ho
    unfold T.pub at hp
    cases q : pubL _ with
    | none => rw [q] at hp; cases hp
    | some ds =>
    rw [q] at hp
    cases hp
    obtain ⟨l2, g⟩ := pubL_get q
    refine ⟨_, rfl, .obj e (ho _ (by unfold T.owns; exact List.mem_cons_self)) (l.trans l2) fun k v d e1 e2 => ?_⟩
    obtain ⟨t, e3⟩ := get_of_len l2 e2
    obtain ⟨v', ev, rr⟩ := ih k v t e1 e3 (g k t d e3 e2) fun a m => ho a (by unfold T.owns; exact List.mem_cons_of_mem _ (mem_ownsL e3 m))
    cases ev
    exact rr
end

/-! ### how often one owns an address -/
theorem ownsL_append : ∀ xs ys : List T, ownsL (xs ++ ys) = ownsL xs ++ ownsL ys
  | [], ys => by rw [List.nil_append, ownsL, List.nil_append]
  | x :: xs, ys => by rw [List.cons_append, ownsL, ownsL_append xs ys, ownsL, List.append_assoc]
theorem ownsL_one (t : T) : ownsL [t] = t.owns := by rw [ownsL, ownsL, List.append_nil]
theorem ownsL_nil : ownsL [] = [] := by rw [ownsL]
theorem ownsL_cons (t : T) (ts : List T) : ownsL (t :: ts) = t.owns ++ ownsL ts := by rw [ownsL]
theorem ownsL_sh : ∀ ds : List D, ownsL (ds.map T.sh) = []
  | [] => by rw [List.map_nil, ownsL]
  | d :: ds => by rw [List.map_cons, ownsL, ownsL_sh ds, T.owns]; rfl
abbrev cn (a : Addr) (l : List Addr) : Nat := l.count a
theorem cn_set (a : Addr) : ∀ {ts : List T} {i : Nat} {t u : T}, ts[i]? = some t → cn a (ownsL (ts.set i u)) + cn a t.owns = cn a (ownsL ts) + cn a u.owns
  | [], _, _, _, h => by simp at h
  | x :: xs, 0, t, u, h => by
    simp at h
    subst h
    rw [List.set_cons_zero, ownsL, ownsL]
    unfold cn
    rw [List.count_append, List.count_append]
    omega
  | x :: xs, i + 1, t, u, h => by
    rw [List.set_cons_succ, ownsL, ownsL]
    have := cn_set a (ts := xs) (i := i) (t := t) (u := u) (by simpa using h)
    unfold cn at this ⊢
    rw [List.count_append, List.count_append]
    omega
theorem cn_mem {a : Addr} {l : List Addr} : a ∈ l ↔ 0 < cn a l := List.count_pos_iff.symm
theorem cn_no {a : Addr} {l : List Addr} : a ∉ l ↔ cn a l = 0 := by rw [cn_mem]; omega
theorem cn_app (a : Addr) (l m : List Addr) : cn a (l ++ m) = cn a l + cn a m := List.count_append
theorem nofrz {H : Hp} {q : Addr} {o' : HO} (h : ∀ o kvs, o' ≠ .frz o (.dK kvs)) : ∀ a o kvs, L2.upd H q o' a = some (.frz o (.dK kvs)) → H a = some (.frz o (.dK kvs)) := fun a o kvs e => by
  by_cases z : a = q
  · subst z; rw [upd_same] at e; exact absurd (Option.some.inj e) (h o kvs)
  · rw [upd_ne z] at e; exact e
/-! ### an environment -/
structure Cg where
  H0 : Hp
  A0 : Addr → Prop
  S : Addr → Prop
/-- no dict is locked -/
def Calm (H : Hp) : Prop := ∀ a o kvs, H a ≠ some (.frz o (.dK kvs))
def Av (Γ : Cg) (F : List Addr) (a : Addr) : Prop := (Γ.A0 a ∨ Γ.H0 a = none ∨ Γ.S a) ∧ a ∉ F
structure Ok (Γ : Cg) (H : Hp) (xs : List (Option V)) (ts : List T) : Prop where
  len : xs.length = ts.length
  rep : ∀ (k : Nat) (x : Option V) (t : T), xs[k]? = some x → ts[k]? = some t → R H (Av Γ (ownsL ts)) x t
  nd : ∀ a, cn a (ownsL ts) ≤ 1
  new : ∀ a, a ∈ ownsL ts → Γ.S a ∨ Γ.H0 a = none
  fr : Fr Γ.S Γ.H0 H
  nf : ∀ a o kvs, H a = some (.frz o (.dK kvs)) → Γ.H0 a = some (.frz o (.dK kvs))
section
variable {Γ : Cg} {H H' : Hp} {xs xs' : List (Option V)} {ts ts' : List T}
theorem Ok.there (ok : Ok Γ H xs ts) : ∀ a ∈ ownsL ts, ∃ o, H a = some o := fun a m => by
  obtain ⟨k, t, e, m⟩ := of_ownsL m
  obtain ⟨x, e1⟩ := get_of_len ok.len e
  exact (ok.rep k x t e1 e).there a m
theorem Ok.calm (ok : Ok Γ H xs ts) (c : Calm Γ.H0) : Calm H := fun a o kvs e => c a o kvs (ok.nf a o kvs e)
/-- what is shared stands on, where one's own objects alone are changed -/
theorem Ok.av (ok : Ok Γ H xs ts) {M : Addr → Prop} (hM : ∀ a, M a → a ∈ ownsL ts) (hH : ∀ a o, H a = some o → ¬ M a → H' a = some o) (new : ∀ a ∈ ownsL ts', a ∈ ownsL ts ∨ H a = none) :
    ∀ a o, Av Γ (ownsL ts) a → H a = some o → Kp H H' a ∧ Av Γ (ownsL ts') a := fun a o ⟨h1, h2⟩ e =>
  ⟨.of e (hH a o e fun m => h2 (hM a m)), h1, fun m => (new a m).elim h2 fun z => by rw [e] at z; cases z⟩
theorem Ok.tr (ok : Ok Γ H xs ts) {M : Addr → Prop} (hM : ∀ a, M a → a ∈ ownsL ts) (hH : ∀ a o, H a = some o → ¬ M a → H' a = some o) (new : ∀ a ∈ ownsL ts', a ∈ ownsL ts ∨ H a = none) {x : Option V} {t : T} (r : R H (Av Γ (ownsL ts)) x t) (hm : ∀ a ∈ t.owns, ¬ M a) : R H' (Av Γ (ownsL ts')) x t :=
  r.mono (ok.av hM hH new) fun a o m e => hH a o e (hm a m)
theorem Ok.next (M : Addr → Prop) (ok : Ok Γ H xs ts) (len : xs'.length = ts'.length) (hM : ∀ a, M a → a ∈ ownsL ts) (hH : ∀ a o, H a = some o → ¬ M a → H' a = some o) (hf : ∀ a, H' a = none → H a = none) (hz : ∀ a o kvs, H' a = some (.frz o (.dK kvs)) → H a = some (.frz o (.dK kvs)))
    (new : ∀ a ∈ ownsL ts', a ∈ ownsL ts ∨ H a = none) (nd : ∀ a, cn a (ownsL ts') ≤ 1)
    (ent : ∀ (k : Nat) (x : Option V) (t : T), xs'[k]? = some x → ts'[k]? = some t → (∃ j : Nat, xs[j]? = some x ∧ ts[j]? = some t ∧ ∀ a ∈ t.owns, ¬ M a) ∨ R H' (Av Γ (ownsL ts')) x t) : Ok Γ H' xs' ts' where
  len := len
  rep := fun k x t e1 e2 => (ent k x t e1 e2).elim (fun ⟨j, j1, j2, hm⟩ => ok.tr hM hH new (ok.rep j x t j1 j2) hm) id
  nd := nd
  new := fun a m => (new a m).elim (ok.new a) fun z => .inr (ok.fr.free a z)
  fr := ⟨fun b o e n => hH b o (ok.fr.keep b o e n) fun m => (ok.new b (hM b m)).elim n fun z => (by rw [e] at z; cases z), fun b e => ok.fr.free b (hf b e)⟩
  nf := fun a o kvs e => ok.nf a o kvs (hz a o kvs e)
/-- the heap as it is, entries dropped or moved -/
theorem Ok.re (ok : Ok Γ H xs ts) (len : xs'.length = ts'.length) (hc : ∀ a, cn a (ownsL ts') ≤ cn a (ownsL ts))
    (ent : ∀ (k : Nat) (x : Option V) (t : T), xs'[k]? = some x → ts'[k]? = some t → (∃ j : Nat, xs[j]? = some x ∧ ts[j]? = some t) ∨ R H (Av Γ (ownsL ts')) x t) : Ok Γ H xs' ts' :=
  ok.next NoA len (fun _ z => z.elim) (fun _ _ e _ => e) (fun _ e => e) (fun _ _ _ e => e) (fun a m => .inl (by rw [cn_mem] at m ⊢; have := hc a; omega)) (fun a => Nat.le_trans (hc a) (ok.nd a))
    fun k x t e1 e2 => (ent k x t e1 e2).imp (fun ⟨j, h1, h2⟩ => ⟨j, h1, h2, fun _ _ z => z⟩) id
theorem ap_left {α : Type} {l m : List α} {k : Nat} {x : α} (h : l[k]? = some x) : (l ++ m)[k]? = some x := by
  rw [List.getElem?_append_left (List.getElem?_eq_some_iff.mp h).1]
  exact h
theorem ap_right {α : Type} {l m : List α} {k : Nat} {x : α} (h : m[k]? = some x) : (l ++ m)[l.length + k]? = some x := by
  rw [List.getElem?_append_right (by omega), Nat.add_sub_cancel_left]
  exact h
theorem ap_cases {α : Type} {l m : List α} {k : Nat} {x : α} (h : (l ++ m)[k]? = some x) : l[k]? = some x ∨ ∃ j, k = l.length + j ∧ m[j]? = some x := by
  by_cases hk : k < l.length
  · rw [List.getElem?_append_left hk] at h
    exact .inl h
  · rw [List.getElem?_append_right (by omega)] at h
    exact .inr ⟨k - l.length, by omega, h⟩
theorem Ok.drop {ys : List (Option V)} {us : List T} (ok : Ok Γ H (xs ++ ys) (ts ++ us)) (len : xs.length = ts.length) : Ok Γ H xs ts :=
  ok.re len (fun a => by rw [ownsL_append, cn_app]; omega) fun k x t e1 e2 => .inl ⟨k, ap_left e1, ap_left e2⟩
/-- one more, that owns nothing -/
theorem Ok.push {x : Option V} {t : T} (ok : Ok Γ H xs ts) (r : R H (Av Γ (ownsL ts)) x t) (o : t.owns = []) : Ok Γ H (xs ++ [x]) (ts ++ [t]) := by
  have eo : ownsL (ts ++ [t]) = ownsL ts := by rw [ownsL_append, ownsL_one, o, List.append_nil]
  refine ok.re (by simp [ok.len]) (fun a => by rw [eo]; exact Nat.le_refl _) fun k y u e1 e2 => ?_
  rcases ap_cases e1 with e1 | ⟨j, rfl, e1⟩
  · have hk := (List.getElem?_eq_some_iff.mp e1).1
    rw [List.getElem?_append_left (by rw [← ok.len]; exact hk)] at e2
    exact .inl ⟨k, e1, e2⟩
  · have j0 : j = 0 := by
      have := (List.getElem?_eq_some_iff.mp e1).1
      simpa using this
    subst j0
    simp at e1
    subst e1
    rw [ok.len, List.getElem?_append_right (by omega)] at e2
    simp at e2
    subst e2
    rw [eo]
    exact .inr r
theorem Ok.pushD {v : V} {d : D} (ok : Ok Γ H xs ts) (r : RD H (Av Γ (ownsL ts)) v d) : Ok Γ H (xs ++ [some v]) (ts ++ [.sh d]) := ok.push (.sh r) (by rw [T.owns])
/-- the last one goes into place i -/
theorem Ok.setLast {x : Option V} {t : T} {i : Nat} (ok : Ok Γ H (xs ++ [x]) (ts ++ [t])) (len : xs.length = ts.length) (hi : i < xs.length) : Ok Γ H (xs.set i x) (ts.set i t) := by
  obtain ⟨u, hu⟩ : ∃ u, ts[i]? = some u := ⟨ts[i]'(by omega), List.getElem?_eq_getElem _⟩
  refine ok.re (by simp [len]) (fun a => ?_) fun k y w e1 e2 => .inl ?_
  · have := cn_set a (u := t) hu
    rw [ownsL_append, ownsL_one, cn_app]
    omega
  · by_cases hk : i = k
    · subst hk
      rw [List.getElem?_set_self hi] at e1
      rw [List.getElem?_set_self (by omega)] at e2
      cases e1
      cases e2
      exact ⟨xs.length, by simp, by rw [len]; simp⟩
    · rw [List.getElem?_set_ne hk] at e1 e2
      exact ⟨k, ap_left e1, ap_left e2⟩
end

/-! ### ways into a tree -/
def T.kids : T → List T
  | .lst _ xs => xs
  | .tup xs => xs
  | .dK _ _ xs => xs
  | .dT _ _ xs => xs
  | .obj _ _ _ xs => xs
  | _ => []
def T.wk : T → List T → T
  | .lst a _, ys => .lst a ys
  | .tup _, ys => .tup ys
  | .dK a ks _, ys => .dK a ks ys
  | .dT a ks _, ys => .dT a ks ys
  | .obj a C fs _, ys => .obj a C fs ys
  | t, _ => t
def T.get : T → List Nat → Option T
  | t, [] => some t
  | t, k :: p => (t.kids[k]?).bind fun u => u.get p
def T.put : T → List Nat → T → T
  | _, [], u => u
  | t, k :: p, u => match t.kids[k]? with
    | some x => t.wk (t.kids.set k (x.put p u))
    | none => t
def gt (ρ : List T) (i : Nat) (p : List Nat) : Option T := (ρ[i]?).bind fun t => t.get p
def pt (ρ : List T) (i : Nat) (p : List Nat) (u : T) : List T := match ρ[i]? with
  | some t => ρ.set i (t.put p u)
  | none => ρ
theorem wk_cn (a : Addr) {t : T} {ys : List T} (h : t.kids ≠ []) : cn a (t.wk ys).owns + cn a (ownsL t.kids) = cn a t.owns + cn a (ownsL ys) := by
  cases t <;> first
    | exact absurd rfl h
    | (simp only [T.wk, T.kids, T.owns, cn, List.count_cons]; omega)
theorem kids_ne {t : T} {k : Nat} {x : T} (h : t.kids[k]? = some x) : t.kids ≠ [] := fun z => by rw [z] at h; simp at h
theorem put_cn (a : Addr) : ∀ {p : List Nat} {t u u' : T}, t.get p = some u → cn a (t.put p u').owns + cn a u.owns = cn a t.owns + cn a u'.owns
  | [], t, u, u', h => by
    unfold T.get at h
    cases h
    unfold T.put
    omega
  | k :: p, t, u, u', h => by
    unfold T.get at h
    cases e : t.kids[k]? with
    | none => rw [e] at h; cases h
    | some x =>
    rw [e] at h
    have ih := put_cn a (p := p) (t := x) (u := u) (u' := u') h
    have h1 := cn_set a (ts := t.kids) (i := k) (u := x.put p u') e
    have h2 := wk_cn a (t := t) (ys := t.kids.set k (x.put p u')) (kids_ne e)
    unfold T.put
    rw [e]
    show cn a (t.wk (t.kids.set k (x.put p u'))).owns + _ = _
    omega
theorem pt_cn (a : Addr) {ρ : List T} {i : Nat} {p : List Nat} {u u' : T} (h : gt ρ i p = some u) : cn a (ownsL (pt ρ i p u')) + cn a u.owns = cn a (ownsL ρ) + cn a u'.owns := by
  unfold gt at h
  unfold pt
  cases e : ρ[i]? with
  | none => rw [e] at h; cases h
  | some t =>
  rw [e] at h
  have h1 := put_cn a (u' := u') (show t.get p = some u from h)
  have h2 := cn_set a (u := t.put p u') e
  show cn a (ownsL (ρ.set i (t.put p u'))) + _ = _
  omega
theorem pt_len {ρ : List T} {i : Nat} {p : List Nat} {u : T} : (pt ρ i p u).length = ρ.length := by
  unfold pt
  split
  · rw [List.length_set]
  · rfl
section
variable {H H' : Hp} {A A' : Addr → Prop}
/-- at a place of the tree -/
theorem R.focus : ∀ {p : List Nat} {x : Option V} {t u : T}, R H A x t → t.get p = some u → ∃ y, R H A y u ∧ ∀ {H' : Hp} {A' : Addr → Prop} {u' : T}, (∀ a o, A a → H a = some o → Kp H H' a ∧ A' a) → (∀ a o, a ∈ (t.put p .no).owns → H a = some o → H' a = some o) → R H' A' y u' → R H' A' x (t.put p u')
  | [], x, t, u, r, h => by
    unfold T.get at h
    cases h
    exact ⟨x, r, fun _ _ r' => by unfold T.put; exact r'⟩
  | k :: p, x, t, u, r, h => by
    unfold T.get at h
    cases e : t.kids[k]? with
    | none => rw [e] at h; cases h
    | some c =>
    rw [e] at h
    have hc : c.get p = some u := h
    have ep : ∀ w, t.put (k :: p) w = t.wk (t.kids.set k (c.put p w)) := fun w => by
      rw [T.put, e]
    -- the other kids
    have oth : ∀ {H' : Hp} {A' : Addr → Prop} {w : T} {j : Nat} {v : Option V} {q : T}, (∀ a o, A a → H a = some o → Kp H H' a ∧ A' a) → (∀ a o, a ∈ (t.put (k :: p) .no).owns → H a = some o → H' a = some o) → j ≠ k → t.kids[j]? = some q → R H A v q → R H' A' v q := fun {H' A' w j v q} h1 h2 nj eq rq =>
      rq.mono h1 fun a o m => h2 a o (by
        rw [ep, cn_mem]
        have h3 := wk_cn a (t := t) (ys := t.kids.set k (c.put p .no)) (kids_ne e)
        have m2 : a ∈ ownsL (t.kids.set k (c.put p .no)) := mem_ownsL (k := j) (by rw [List.getElem?_set_ne (Ne.symm nj)]; exact eq) m
        rw [cn_mem] at m2
        have h4 : cn a (ownsL t.kids) ≤ cn a t.owns := by
          cases t <;> simp only [T.kids, T.owns, cn, List.count_cons, ownsL, List.count_nil] <;> omega
        omega)
    have hroot : ∀ {H' : Hp} {a : Addr} {o : HO}, (∀ a o, a ∈ (t.put (k :: p) .no).owns → H a = some o → H' a = some o) → t.addr = some a → H a = some o → H' a = some o := fun {H' a o} h2 ha => h2 a o (by
      rw [ep]
      cases t <;> first | (simp [T.addr] at ha; subst ha; simp [T.wk, T.owns]) | (simp [T.addr] at ha))
    have inn : ∀ {H' : Hp}, (∀ a o, a ∈ (t.put (k :: p) .no).owns → H a = some o → H' a = some o) → ∀ a o, a ∈ (c.put p .no).owns → H a = some o → H' a = some o := fun {H'} h2 a o m => h2 a o (by
      rw [ep, cn_mem]
      have h3 := wk_cn a (t := t) (ys := t.kids.set k (c.put p .no)) (kids_ne e)
      have hk := (List.getElem?_eq_some_iff.mp e).1
      have m2 : a ∈ ownsL (t.kids.set k (c.put p .no)) := mem_ownsL (k := k) (List.getElem?_set_self hk) m
      rw [cn_mem] at m2
      have h4 : cn a (ownsL t.kids) ≤ cn a t.owns := by
        cases t <;> simp only [T.kids, T.owns, cn, List.count_cons, ownsL, List.count_nil] <;> omega
      omega)
    have hk := (List.getElem?_eq_some_iff.mp e).1
    cases r with
    | no => simp [T.kids] at e
    | sh r => simp [T.kids] at e
    | lst e0 l kd =>
      obtain ⟨v, e1⟩ := get_of_len l e
      obtain ⟨y, ry, g⟩ := R.focus (kd k v c e1 e) hc
      refine ⟨y, ry, fun {H' A' u'} h1 h2 r' => ?_⟩
      rw [ep]
      refine .lst (hroot h2 rfl e0) (by rw [List.length_set]; exact l) fun j v' t' e3 e4 => ?_
      by_cases nj : j = k
      · subst nj
        rw [e1] at e3
        cases e3
        simp only [T.kids] at e4
        rw [List.getElem?_set_self (by simpa only [T.kids] using hk)] at e4
        cases e4
        exact g h1 (inn h2) r'
      · simp only [T.kids] at e4
        rw [List.getElem?_set_ne (Ne.symm nj)] at e4
        exact oth (w := u') h1 h2 nj e4 (kd j v' t' e3 e4)
    | tup e0 a0 l kd =>
      obtain ⟨v, e1⟩ := get_of_len l e
      obtain ⟨y, ry, g⟩ := R.focus (kd k v c e1 e) hc
      refine ⟨y, ry, fun {H' A' u'} h1 h2 r' => ?_⟩
      rw [ep]
      obtain ⟨kp, a'⟩ := h1 _ _ a0 e0
      refine .tup (kp.tup _ e0) a' (by rw [List.length_set]; exact l) fun j v' t' e3 e4 => ?_
      by_cases nj : j = k
      · subst nj
        rw [e1] at e3
        cases e3
        simp only [T.kids] at e4
        rw [List.getElem?_set_self (by simpa only [T.kids] using hk)] at e4
        cases e4
        exact g h1 (inn h2) r'
      · simp only [T.kids] at e4
        rw [List.getElem?_set_ne (Ne.symm nj)] at e4
        exact oth (w := u') h1 h2 nj e4 (kd j v' t' e3 e4)
    | dK e0 l kd =>
      obtain ⟨v, e1⟩ := get_of_len l e
      obtain ⟨y, ry, g⟩ := R.focus (kd k v c e1 e) hc
      refine ⟨y, ry, fun {H' A' u'} h1 h2 r' => ?_⟩
      rw [ep]
      refine .dK (hroot h2 rfl e0) (by rw [List.length_set]; exact l) fun j v' t' e3 e4 => ?_
      by_cases nj : j = k
      · subst nj
        rw [e1] at e3
        cases e3
        simp only [T.kids] at e4
        rw [List.getElem?_set_self (by simpa only [T.kids] using hk)] at e4
        cases e4
        exact g h1 (inn h2) r'
      · simp only [T.kids] at e4
        rw [List.getElem?_set_ne (Ne.symm nj)] at e4
        exact oth (w := u') h1 h2 nj e4 (kd j v' t' e3 e4)
    | dT e0 l kd =>
      obtain ⟨v, e1⟩ := get_of_len l e
      obtain ⟨y, ry, g⟩ := R.focus (kd k v c e1 e) hc
      refine ⟨y, ry, fun {H' A' u'} h1 h2 r' => ?_⟩
      rw [ep]
      refine .dT (hroot h2 rfl e0) (by rw [List.length_set]; exact l) fun j v' t' e3 e4 => ?_
      by_cases nj : j = k
      · subst nj
        rw [e1] at e3
        cases e3
        simp only [T.kids] at e4
        rw [List.getElem?_set_self (by simpa only [T.kids] using hk)] at e4
        cases e4
        exact g h1 (inn h2) r'
      · simp only [T.kids] at e4
        rw [List.getElem?_set_ne (Ne.symm nj)] at e4
        exact oth (w := u') h1 h2 nj e4 (kd j v' t' e3 e4)
    | obj e0 l kd =>
      obtain ⟨v, e1⟩ := get_of_len l e
      obtain ⟨y, ry, g⟩ := R.focus (kd k v c e1 e) hc
      refine ⟨y, ry, fun {H' A' u'} h1 h2 r' => ?_⟩
      rw [ep]
      refine .obj (hroot h2 rfl e0) (by rw [List.length_set]; exact l) fun j v' t' e3 e4 => ?_
      by_cases nj : j = k
      · subst nj
        rw [e1] at e3
        cases e3
        simp only [T.kids] at e4
        rw [List.getElem?_set_self (by simpa only [T.kids] using hk)] at e4
        cases e4
        exact g h1 (inn h2) r'
      · simp only [T.kids] at e4
        rw [List.getElem?_set_ne (Ne.symm nj)] at e4
        exact oth (w := u') h1 h2 nj e4 (kd j v' t' e3 e4)
end
/-- one's own object: what stands there, its parts -/
inductive Nd : T → Addr → HO → List V → Prop
  | lst {a : Addr} {xs : List T} {vs : List V} : Nd (.lst a xs) a (.lst vs) vs
  | dK {a : Addr} {xs : List T} {kvs : List (Key × V)} : Nd (.dK a (kvs.map Prod.fst) xs) a (.dK kvs) (kvs.map Prod.snd)
  | dT {a : Addr} {xs : List T} {kvs : List (List Key × V)} : Nd (.dT a (kvs.map Prod.fst) xs) a (.dT kvs) (kvs.map Prod.snd)
  | obj {a C dx : Addr} {xs : List T} {fvs : List (Str × V)} : Nd (.obj a C (fvs.map Prod.fst) xs) a (.ins C dx fvs) (fvs.map Prod.snd)
theorem get_map {α β : Type} {f : α → β} {l : List α} {k : Nat} {y : β} (h : (l.map f)[k]? = some y) : ∃ x, l[k]? = some x ∧ f x = y := by
  rw [List.getElem?_map] at h
  cases e : l[k]? with
  | none => rw [e] at h; cases h
  | some x => rw [e] at h; exact ⟨x, rfl, Option.some.inj h⟩
theorem map_get {α β : Type} {f : α → β} {l : List α} {k : Nat} {x : α} (h : l[k]? = some x) : (l.map f)[k]? = some (f x) := by rw [List.getElem?_map, h]; rfl
section
variable {H : Hp} {A : Addr → Prop}
theorem R.nd {x : Option V} {u : T} {a : Addr} (r : R H A x u) (ha : u.addr = some a) : x = some (.ref a) ∧ ∃ o vs, Nd u a o vs ∧ H a = some o ∧ vs.length = u.kids.length ∧ ∀ (k : Nat) (v : V) (t : T), vs[k]? = some v → u.kids[k]? = some t → R H A (some v) t := by
  cases r with
  | no => cases ha
  | sh => cases ha
  | tup => cases ha
  | lst e l kd => cases ha; exact ⟨rfl, _, _, .lst, e, l, kd⟩
  | dK e l kd => cases ha; exact ⟨rfl, _, _, .dK, e, by rw [List.length_map]; exact l, fun k v t h1 h2 => by obtain ⟨p, e1, rfl⟩ := get_map h1; exact kd k p t e1 h2⟩
  | dT e l kd => cases ha; exact ⟨rfl, _, _, .dT, e, by rw [List.length_map]; exact l, fun k v t h1 h2 => by obtain ⟨p, e1, rfl⟩ := get_map h1; exact kd k p t e1 h2⟩
  | obj e l kd => cases ha; exact ⟨rfl, _, _, .obj, e, by rw [List.length_map]; exact l, fun k v t h1 h2 => by obtain ⟨p, e1, rfl⟩ := get_map h1; exact kd k p t e1 h2⟩
theorem R.of_nd {u : T} {a : Addr} {o : HO} {vs : List V} (n : Nd u a o vs) (e : H a = some o) (l : vs.length = u.kids.length) (kd : ∀ (k : Nat) (v : V) (t : T), vs[k]? = some v → u.kids[k]? = some t → R H A (some v) t) : R H A (some (.ref a)) u := by
  cases n with
  | lst => exact .lst e l kd
  | dK => exact .dK e (by rw [List.length_map] at l; exact l) fun k p t h1 h2 => kd k p.2 t (map_get h1) h2
  | dT => exact .dT e (by rw [List.length_map] at l; exact l) fun k p t h1 h2 => kd k p.2 t (map_get h1) h2
  | obj => exact .obj e (by rw [List.length_map] at l; exact l) fun k p t h1 h2 => kd k p.2 t (map_get h1) h2
theorem Nd.owns {u : T} {a : Addr} {o : HO} {vs : List V} (n : Nd u a o vs) : u.owns = a :: ownsL u.kids := by
  cases n <;> rw [T.owns] <;> rfl
theorem Nd.addr {u : T} {a : Addr} {o : HO} {vs : List V} (n : Nd u a o vs) : u.addr = some a := by cases n <;> rfl
end
section
variable {Γ : Cg} {H H' : Hp} {xs ys : List (Option V)} {ts us : List T} {i : Nat} {p : List Nat} {u : T} {a : Addr}
theorem Ok.at (ok : Ok Γ H xs ts) (hg : gt ts i p = some u) : ∃ y, R H (Av Γ (ownsL ts)) y u := by
  unfold gt at hg
  cases e : ts[i]? with
  | none => rw [e] at hg; cases hg
  | some t =>
  rw [e] at hg
  obtain ⟨x, e1⟩ := get_of_len ok.len e
  obtain ⟨y, r, _⟩ := (ok.rep i x t e1 e).focus hg
  exact ⟨y, r⟩
theorem cn_cons (a b : Addr) (l : List Addr) : cn a (b :: l) = cn a l + if b = a then 1 else 0 := by
  unfold cn
  rw [List.count_cons]
  simp
/-- one's own object is changed: its new parts come from the old ones, from the last entries, or are shared -/
theorem Ok.upd (ok : Ok Γ H (xs ++ ys) (ts ++ us)) (len : xs.length = ts.length) (hg : gt ts i p = some u) (ha : u.addr = some a) :
    ∃ o vs, Nd u a o vs ∧ H a = some o ∧ vs.length = u.kids.length ∧ (∀ (k : Nat) (v : V) (t : T), vs[k]? = some v → u.kids[k]? = some t → R H (Av Γ (ownsL (ts ++ us))) (some v) t) ∧
      ∀ (o' : HO) (u' : T) (vs' : List V) (zs : List (Option V)) (ws : List T), Nd u' a o' vs' → vs'.length = u'.kids.length → zs.length = ws.length →
      (∀ b, cn b (ownsL u'.kids) + cn b (ownsL ws) ≤ cn b (ownsL u.kids) + cn b (ownsL us)) →
      (∀ (x : Option V) (t : T), ((∃ (k : Nat) (v : V), x = some v ∧ vs'[k]? = some v ∧ u'.kids[k]? = some t) ∨ ∃ k : Nat, zs[k]? = some x ∧ ws[k]? = some t) →
        (∃ (j : Nat) (v : V), x = some v ∧ vs[j]? = some v ∧ u.kids[j]? = some t) ∨ (∃ j : Nat, ys[j]? = some x ∧ us[j]? = some t) ∨ ∃ v d, x = some v ∧ t = .sh d ∧ RD H (Av Γ (ownsL (ts ++ us))) v d) →
      Ok Γ (L2.upd H a o') (xs ++ zs) (pt ts i p u' ++ ws) := by
  have hg0 := hg
  unfold gt at hg
  cases e : ts[i]? with
  | none => rw [e] at hg; cases hg
  | some t0 =>
  rw [e] at hg
  have hg : t0.get p = some u := hg
  obtain ⟨x0, e1⟩ := get_of_len len e
  obtain ⟨y, ry, g⟩ := (ok.rep i x0 t0 (ap_left e1) (ap_left e)).focus hg
  obtain ⟨ey, o, vs, nd, ha', lv, kd⟩ := ry.nd ha
  subst ey
  refine ⟨o, vs, nd, ha', lv, kd, fun o' u' vs' zs ws nd' lv' lz hc src => ?_⟩
  have own := nd.owns
  have own' := nd'.owns
  -- counts
  have cnt : ∀ b, cn b (ownsL (pt ts i p u' ++ ws)) ≤ cn b (ownsL (ts ++ us)) := fun b => by
    have h1 := pt_cn b (u' := u') hg0
    have h2 := hc b
    rw [own, own', cn_cons, cn_cons] at h1
    rw [ownsL_append, ownsL_append, cn_app, cn_app]
    omega
  have inA : a ∈ u.owns := by rw [own]; exact List.mem_cons_self
  have inT : a ∈ ownsL (ts ++ us) := by
    rw [cn_mem, ownsL_append, cn_app]
    have h1 := pt_cn a (u' := T.no) hg0
    rw [cn_mem] at inA
    have : cn a (T.owns .no) = 0 := by rw [T.owns]; rfl
    omega
  have nd1 : ∀ b, cn b (ownsL ts) + cn b (ownsL us) ≤ 1 := fun b => by
    have := ok.nd b
    rw [ownsL_append, cn_app] at this
    exact this
  have ca : cn a u.owns = 1 + cn a (ownsL u.kids) := by rw [own, cn_cons, if_pos rfl]; omega
  have cle : ∀ b, cn b u.owns ≤ cn b (ownsL ts) := fun b => by
    have h1 := pt_cn b (u' := T.no) hg0
    have : cn b (T.owns .no) = 0 := by rw [T.owns]; rfl
    omega
  have hM : ∀ b, b = a → b ∈ ownsL (ts ++ us) := fun b z => z ▸ inT
  have hH : ∀ b o₁, H b = some o₁ → ¬ b = a → L2.upd H a o' b = some o₁ := fun b o₁ h n => by rw [upd_ne n]; exact h
  have new : ∀ b ∈ ownsL (pt ts i p u' ++ ws), b ∈ ownsL (ts ++ us) ∨ H b = none := fun b m => .inl (by rw [cn_mem] at m ⊢; have := cnt b; omega)
  have tr : ∀ {x : Option V} {t : T}, R H (Av Γ (ownsL (ts ++ us))) x t → a ∉ t.owns → R (L2.upd H a o') (Av Γ (ownsL (pt ts i p u' ++ ws))) x t := fun r n => ok.tr hM hH new r fun b m z => n (z ▸ m)
  have nk : ∀ {j : Nat} {t : T}, u.kids[j]? = some t → a ∉ t.owns := fun {j t} h m => by
    have := mem_ownsL h m
    rw [cn_mem] at this
    have := nd1 a
    have := cle a
    omega
  have nu : ∀ {j : Nat} {t : T}, us[j]? = some t → a ∉ t.owns := fun {j t} h m => by
    have := mem_ownsL h m
    rw [cn_mem] at this
    have := nd1 a
    have := cle a
    omega
  have all : ∀ (x : Option V) (t : T), ((∃ (k : Nat) (v : V), x = some v ∧ vs'[k]? = some v ∧ u'.kids[k]? = some t) ∨ ∃ k : Nat, zs[k]? = some x ∧ ws[k]? = some t) → R (L2.upd H a o') (Av Γ (ownsL (pt ts i p u' ++ ws))) x t := fun x t h => by
    rcases src x t h with ⟨j, v, rfl, h1, h2⟩ | ⟨j, h1, h2⟩ | ⟨v, d, rfl, rfl, r⟩
    · exact tr (kd j v t h1 h2) (nk h2)
    · exact tr (ok.rep (xs.length + j) x t (ap_right h1) (by rw [len]; exact ap_right h2)) (nu h2)
    · exact tr (.sh r) (by rw [T.owns]; simp)
  have lpt : (pt ts i p u').length = ts.length := pt_len
  refine ok.next (fun b => b = a) (by rw [List.length_append, List.length_append, lpt, len, lz]) hM hH (fun b h => ?_) (nofrz (by intro o kvs z; subst z; cases nd')) new (fun b => Nat.le_trans (cnt b) (ok.nd b)) fun k x t h1 h2 => ?_
  · by_cases z : b = a
    · subst z; rw [upd_same] at h; cases h
    · rw [upd_ne z] at h; exact h
  · rcases ap_cases h1 with h1 | ⟨j, rfl, hj⟩
    · have hk := (List.getElem?_eq_some_iff.mp h1).1
      rw [List.getElem?_append_left (by rw [lpt, ← len]; exact hk)] at h2
      unfold pt at h2
      rw [e] at h2
      have h2 : (ts.set i (t0.put p u'))[k]? = some t := h2
      by_cases nk' : i = k
      · subst nk'
        rw [List.getElem?_set_self (by omega)] at h2
        cases h2
        rw [e1] at h1
        cases h1
        right
        refine g (fun b o₁ av hb => ?_) (fun b o₁ m hb => ?_) (.of_nd nd' upd_same lv' fun k v t q1 q2 => all _ _ (.inl ⟨k, v, rfl, q1, q2⟩))
        · exact ok.av hM hH new b o₁ av hb
        · refine hH b o₁ hb fun z => ?_
          subst z
          rw [cn_mem] at m
          have h3 := put_cn b (u' := T.no) hg
          have : cn b (T.owns .no) = 0 := by rw [T.owns]; rfl
          have h4 : cn b t0.owns ≤ cn b (ownsL ts) := by
            have := cn_set b (u := T.no) e
            have : cn b (T.owns .no) = 0 := by rw [T.owns]; rfl
            omega
          have := nd1 b
          omega
      · rw [List.getElem?_set_ne nk'] at h2
        refine .inl ⟨k, ap_left h1, ap_left h2, fun b m z => ?_⟩
        subst z
        -- another slot owns it too
        have m2 : 0 < cn b t.owns := cn_mem.mp m
        have h3 := cn_set b (u := T.no) h2
        have h4 : (ts.set k T.no)[i]? = some t0 := by rw [List.getElem?_set_ne (Ne.symm nk')]; exact e
        have h5 := cn_set b (u := T.no) h4
        have h6 : cn b (T.owns .no) = 0 := by rw [T.owns]; rfl
        have h7 := put_cn b (u' := T.no) hg
        have := nd1 b
        omega
    · rw [len, ← lpt, List.getElem?_append_right (by omega), Nat.add_sub_cancel_left] at h2
      exact .inr (all x t (.inr ⟨j, hj, h2⟩))
end

section
variable {Γ : Cg} {H H' : Hp} {xs ys : List (Option V)} {ts us : List T} {i : Nat} {p : List Nat} {u : T} {a : Addr}
/-- the heap has grown -/
theorem Ok.grow (ok : Ok Γ H xs ts) (hk : ∀ a o, H a = some o → H' a = some o) (hf : ∀ a, H' a = none → H a = none) (hz : ∀ a o kvs, H' a = some (.frz o (.dK kvs)) → H a = some (.frz o (.dK kvs))) : Ok Γ H' xs ts :=
  ok.next NoA ok.len (fun _ z => z.elim) (fun a o e _ => hk a o e) hf hz (fun a m => .inl m) ok.nd fun k x t e1 e2 => .inl ⟨k, e1, e2, fun _ _ z => z⟩
/-- a new object of one's own -/
theorem Ok.alloc {o : HO} {vs : List V} {q : Addr} (ok : Ok Γ H (xs ++ ys) (ts ++ us)) (len : xs.length = ts.length) (hq : H q = none) (hk : ∀ a o, H a = some o → H' a = some o) (hf : ∀ a, H' a = none → H a = none) (hz : ∀ a o kvs, H' a = some (.frz o (.dK kvs)) → H a = some (.frz o (.dK kvs))) (nd : Nd u q o vs) (e : H' q = some o) (lv : vs.length = u.kids.length)
    (hc : ∀ b, cn b (ownsL u.kids) ≤ cn b (ownsL us))
    (src : ∀ (k : Nat) (v : V) (t : T), vs[k]? = some v → u.kids[k]? = some t → (∃ j : Nat, ys[j]? = some (some v) ∧ us[j]? = some t) ∨ ∃ d, t = .sh d ∧ RD H (Av Γ (ownsL (ts ++ us))) v d) : Ok Γ H' (xs ++ [some (.ref q)]) (ts ++ [u]) := by
  have ow := nd.owns
  have nq : ∀ b, b ∈ ownsL (ts ++ us) → b ≠ q := fun b m z => by
    obtain ⟨o, e⟩ := ok.there b m
    rw [z, hq] at e
    cases e
  have hM : ∀ b, NoA b → b ∈ ownsL (ts ++ us) := fun _ z => z.elim
  have hH : ∀ a o, H a = some o → ¬ NoA a → H' a = some o := fun a o h _ => hk a o h
  have cnt : ∀ b, b ≠ q → cn b (ownsL (ts ++ [u])) ≤ cn b (ownsL (ts ++ us)) := fun b n => by
    have := hc b
    rw [ownsL_append, ownsL_append, ownsL_one, cn_app, cn_app, ow, cn_cons, if_neg (Ne.symm n)]
    omega
  have new : ∀ b ∈ ownsL (ts ++ [u]), b ∈ ownsL (ts ++ us) ∨ H b = none := fun b m => by
    by_cases z : b = q
    · exact .inr (z ▸ hq)
    · left
      rw [cn_mem] at m ⊢
      have := cnt b z
      omega
  have tr : ∀ {x : Option V} {t : T}, R H (Av Γ (ownsL (ts ++ us))) x t → R H' (Av Γ (ownsL (ts ++ [u]))) x t := fun r => ok.tr hM hH new r fun _ _ z => z
  refine ok.next NoA (by simp [len]) hM hH hf hz new (fun b => ?_) fun k x t h1 h2 => ?_
  · by_cases z : b = q
    · subst z
      have h1 : cn b (ownsL (ts ++ us)) = 0 := cn_no.mp fun m => nq b m rfl
      have := hc b
      rw [ownsL_append, cn_app] at h1
      rw [ownsL_append, ownsL_one, cn_app, ow, cn_cons, if_pos rfl]
      omega
    · exact Nat.le_trans (cnt b z) (ok.nd b)
  · rcases ap_cases h1 with h1 | ⟨j, rfl, hj⟩
    · have hk := (List.getElem?_eq_some_iff.mp h1).1
      rw [List.getElem?_append_left (by omega)] at h2
      exact .inl ⟨k, ap_left h1, ap_left h2, fun _ _ z => z⟩
    · have j0 : j = 0 := by
        have := (List.getElem?_eq_some_iff.mp hj).1
        simpa using this
      subst j0
      simp at hj
      subst hj
      rw [len, List.getElem?_append_right (by omega)] at h2
      simp at h2
      subst h2
      refine .inr (.of_nd nd e lv fun k v t q1 q2 => ?_)
      rcases src k v t q1 q2 with ⟨j, h1, h2⟩ | ⟨d, rfl, r⟩
      · exact tr (ok.rep (xs.length + j) _ _ (ap_right h1) (by rw [len]; exact ap_right h2))
      · exact tr (.sh r)
def allSh : List T → Option (List D)
  | [] => some []
  | .sh d :: ts => (allSh ts).map (d :: ·)
  | _ :: _ => none
def mkTup (ts : List T) : T := match allSh ts with
  | some ds => .sh (.tup ds)
  | none => .tup ts
theorem allSh_eq : ∀ {ts : List T} {ds : List D}, allSh ts = some ds → ts = ds.map T.sh
  | [], ds, h => by
    unfold allSh at h
    cases h
    rfl
  | t :: ts, ds, h => by
    cases t with
    | sh d =>
      unfold allSh at h
      cases e : allSh ts with
      | none => rw [e] at h; cases h
      | some ds' =>
      rw [e] at h
      cases h
      rw [List.map_cons, ← allSh_eq e]
    | _ => unfold allSh at h; cases h
theorem allSh_map : ∀ ds : List D, allSh (ds.map T.sh) = some ds
  | [] => rfl
  | d :: ds => by rw [List.map_cons, allSh, allSh_map ds]; rfl
theorem mkTup_owns (ts : List T) : (mkTup ts).owns = ownsL ts := by
  unfold mkTup
  split
  · rename_i ds h
    rw [allSh_eq h, ownsL_sh, T.owns]
  · rw [T.owns]
theorem mkTup_R {A : Addr → Prop} {vs : List V} (h : H a = some (.tup vs)) (ha : A a) (l : vs.length = ts.length) (kd : ∀ (k : Nat) (v : V) (t : T), vs[k]? = some v → ts[k]? = some t → R H A (some v) t) : R H A (some (.ref a)) (mkTup ts) := by
  unfold mkTup
  split
  · rename_i ds e
    have e := allSh_eq e
    subst e
    refine .sh (.tup h ha (by rw [l, List.length_map]) fun k v d h1 h2 => ?_)
    cases kd k v (.sh d) h1 (map_get h2) with
    | sh r => exact r
  · exact .tup h ha l kd
/-- a new tuple of the last entries -/
theorem Ok.tup {vs : List V} {q : Addr} (ok : Ok Γ H (xs ++ vs.map some) (ts ++ us)) (len : xs.length = ts.length) (hq : H q = none) : Ok Γ (L2.upd H q (.tup vs)) (xs ++ [some (.ref q)]) (ts ++ [mkTup us]) := by
  have nq : ∀ b, b ∈ ownsL (ts ++ us) → b ≠ q := fun b m z => by
    obtain ⟨o, e⟩ := ok.there b m
    rw [z, hq] at e
    cases e
  have hM : ∀ b, NoA b → b ∈ ownsL (ts ++ us) := fun _ z => z.elim
  have hH : ∀ a o, H a = some o → ¬ NoA a → L2.upd H q (.tup vs) a = some o := fun a o h _ => by rw [upd_ne (ne_of_none h hq)]; exact h
  have eo : ownsL (ts ++ [mkTup us]) = ownsL (ts ++ us) := by rw [ownsL_append, ownsL_append, ownsL_one, mkTup_owns]
  have lu : vs.length = us.length := by
    have := ok.len
    rw [List.length_append, List.length_append, List.length_map] at this
    omega
  refine ok.next NoA (by simp [len]) hM hH (fun b h => ?_) (nofrz (by intro o kvs z; cases z)) (fun b m => .inl (by rw [← eo]; exact m)) (fun b => by rw [eo]; exact ok.nd b) fun k x t h1 h2 => ?_
  · by_cases z : b = q
    · subst z; exact hq
    · rw [upd_ne z] at h; exact h
  · rcases ap_cases h1 with h1 | ⟨j, rfl, hj⟩
    · have hk := (List.getElem?_eq_some_iff.mp h1).1
      rw [List.getElem?_append_left (by omega)] at h2
      exact .inl ⟨k, ap_left h1, ap_left h2, fun _ _ z => z⟩
    · have j0 : j = 0 := by
        have := (List.getElem?_eq_some_iff.mp hj).1
        simpa using this
      subst j0
      simp at hj
      subst hj
      rw [len, List.getElem?_append_right (by omega)] at h2
      simp at h2
      subst h2
      refine .inr (mkTup_R upd_same ⟨.inr (.inl (ok.fr.free q hq)), fun m => ?_⟩ lu fun k v t q1 q2 => ?_)
      · rw [eo] at m
        exact nq q m rfl
      · rw [eo]
        exact ok.tr hM hH (fun b m => .inl m) (ok.rep (xs.length + k) _ _ (ap_right (map_get q1)) (by rw [len]; exact ap_right q2)) fun _ _ z => z
theorem av_le {F F' : List Addr} (h : ∀ b, cn b F' ≤ cn b F) {b : Addr} (z : Av Γ F b) : Av Γ F' b := ⟨z.1, fun m => z.2 (by rw [cn_mem] at m ⊢; have := h b; omega)⟩
/-- another tree for the same value -/
theorem Ok.swap {u' : T} {zs : List (Option V)} {ws : List T} (ok : Ok Γ H (xs ++ ys) (ts ++ us)) (len : xs.length = ts.length) (hg : gt ts i p = some u) (lz : zs.length = ws.length) (hc : ∀ b, cn b u'.owns + cn b (ownsL ws) ≤ cn b u.owns + cn b (ownsL us))
    (hu : ∀ y, R H (Av Γ (ownsL (ts ++ us))) y u → R H (Av Γ (ownsL (pt ts i p u' ++ ws))) y u')
    (hw : ∀ y, R H (Av Γ (ownsL (ts ++ us))) y u → ∀ (k : Nat) (x : Option V) (t : T), zs[k]? = some x → ws[k]? = some t → R H (Av Γ (ownsL (pt ts i p u' ++ ws))) x t) : Ok Γ H (xs ++ zs) (pt ts i p u' ++ ws) := by
  have hg0 := hg
  unfold gt at hg
  cases e : ts[i]? with
  | none => rw [e] at hg; cases hg
  | some t0 =>
  rw [e] at hg
  have hg : t0.get p = some u := hg
  obtain ⟨x0, e1⟩ := get_of_len len e
  obtain ⟨y, ry, g⟩ := (ok.rep i x0 t0 (ap_left e1) (ap_left e)).focus hg
  have cnt : ∀ b, cn b (ownsL (pt ts i p u' ++ ws)) ≤ cn b (ownsL (ts ++ us)) := fun b => by
    have h1 := pt_cn b (u' := u') hg0
    have h2 := hc b
    rw [ownsL_append, ownsL_append, cn_app, cn_app]
    omega
  have lpt : (pt ts i p u').length = ts.length := pt_len
  refine ok.re (by rw [List.length_append, List.length_append, lpt, len, lz]) cnt fun k x t h1 h2 => ?_
  rcases ap_cases h1 with h1 | ⟨j, rfl, hj⟩
  · have hk := (List.getElem?_eq_some_iff.mp h1).1
    rw [List.getElem?_append_left (by rw [lpt, ← len]; exact hk)] at h2
    unfold pt at h2
    rw [e] at h2
    have h2 : (ts.set i (t0.put p u'))[k]? = some t := h2
    by_cases nk' : i = k
    · subst nk'
      rw [List.getElem?_set_self (by omega)] at h2
      cases h2
      rw [e1] at h1
      cases h1
      exact .inr (g (fun b o av hb => ⟨.of hb hb, av_le cnt av⟩) (fun b o _ hb => hb) (hu y ry))
    · rw [List.getElem?_set_ne nk'] at h2
      exact .inl ⟨k, ap_left h1, ap_left h2⟩
  · rw [len, ← lpt, List.getElem?_append_right (by omega), Nat.add_sub_cancel_left] at h2
    exact .inr (hw y ry j x t hj h2)
theorem cn_noT (b : Addr) (d : D) : cn b (T.owns (.sh d)) = 0 := by rw [T.owns]; rfl
/-- one's own object is lent: its tree becomes an entry, an address stays -/
theorem Ok.lend {i' : Nat} {p' : List Nat} (ok : Ok Γ H xs ts) (hg : gt ts i p = some u) (ha : u.addr = some a) : Ok Γ H (xs ++ [some (.ref a)]) (pt ts i p (.sh (.at a i' p')) ++ [u]) := by
  have ok' : Ok Γ H (xs ++ []) (ts ++ []) := by rw [List.append_nil, List.append_nil]; exact ok
  have cnt : ∀ b, cn b (ownsL (pt ts i p (.sh (.at a i' p')) ++ [u])) ≤ cn b (ownsL (ts ++ [])) := fun b => by
    have h1 := pt_cn b (u' := .sh (.at a i' p')) hg
    rw [ownsL_append, ownsL_append, cn_app, cn_app, ownsL_one]
    rw [cn_noT] at h1
    omega
  refine ok'.swap (u := u) ok.len hg rfl (fun b => ?_) (fun y r => ?_) (fun y r k x t h1 h2 => ?_)
  · rw [cn_noT, ownsL_one, ownsL_nil]
    show 0 + cn b u.owns ≤ cn b u.owns + 0
    omega
  · rw [(r.nd ha).1]
    exact .sh (.at a i' p')
  · have k0 : k = 0 := by
      have := (List.getElem?_eq_some_iff.mp h1).1
      simpa using this
    subst k0
    simp at h1 h2
    subst h1 h2
    rw [(r.nd ha).1] at r
    exact r.mono (fun b o av hb => ⟨.of hb hb, av_le cnt av⟩) fun _ _ _ hb => hb
/-- the tree comes back -/
theorem Ok.back (ok : Ok Γ H (xs ++ (ys ++ [some (.ref a)])) (ts ++ (us ++ [u]))) (len : xs.length = ts.length) {i' : Nat} {p' : List Nat} (hl : ys.length = us.length) (hg : gt ts i p = some (.sh (.at a i' p'))) : Ok Γ H (xs ++ ys) (pt ts i p u ++ us) := by
  have cnt : ∀ b, cn b (ownsL (pt ts i p u ++ us)) ≤ cn b (ownsL (ts ++ (us ++ [u]))) := fun b => by
    have h1 := pt_cn b (u' := u) hg
    rw [ownsL_append, ownsL_append, ownsL_append, cn_app, cn_app, cn_app, ownsL_one]
    rw [cn_noT] at h1
    omega
  refine ok.swap (u := .sh (.at a i' p')) len hg hl (fun b => ?_) (fun y r => ?_) (fun y r k x t h1 h2 => ?_)
  · rw [cn_noT, ownsL_append, ownsL_one, cn_app]
    omega
  · cases r with
    | sh r =>
    cases r
    have := ok.rep (xs.length + ys.length) (some (.ref a)) u (ap_right (ap_right (k := 0) rfl)) (by rw [len, hl]; exact ap_right (ap_right (k := 0) rfl))
    exact this.mono (fun b o av hb => ⟨.of hb hb, av_le cnt av⟩) fun _ _ _ hb => hb
  · have := ok.rep (xs.length + k) x t (ap_right (ap_left h1)) (by rw [len]; exact ap_right (ap_left h2))
    exact this.mono (fun b o av hb => ⟨.of hb hb, av_le cnt av⟩) fun _ _ _ hb => hb
/-- an entry is given away -/
theorem Ok.pub {t : T} {d : D} (ok : Ok Γ H xs ts) (e : ts[i]? = some t) (hp : t.pub = some d) : Ok Γ H xs (ts.set i (.sh d)) := by
  have cnt : ∀ b, cn b (ownsL (ts.set i (.sh d))) + cn b t.owns = cn b (ownsL ts) := fun b => by
    have := cn_set b (u := .sh d) e
    rw [cn_noT] at this
    omega
  refine ok.re (by rw [List.length_set]; exact ok.len) (fun b => by have := cnt b; omega) fun k x t' h1 h2 => ?_
  by_cases hk : i = k
  · subst hk
    have hi := (List.getElem?_eq_some_iff.mp e).1
    rw [List.getElem?_set_self hi] at h2
    cases h2
    obtain ⟨v, rfl, r⟩ := (ok.rep i x t h1 e).pub (A' := Av Γ (ownsL (ts.set i (.sh d)))) (fun b z => av_le (fun c => by have := cnt c; omega) z) hp fun b m => by
      have m2 := mem_ownsL e m
      refine ⟨(ok.new b m2).elim (fun z => .inr (.inr z)) fun z => .inr (.inl z), fun m3 => ?_⟩
      rw [cn_mem] at m m3
      have := cnt b
      have := ok.nd b
      omega
    exact .inr (.sh r)
  · rw [List.getElem?_set_ne hk] at h2
    exact .inl ⟨k, h1, h2⟩
/-- behind a call: the callee's world is joined to the caller's -/
theorem Ok.call {as' : List T} {ys' : List (Option V)} (ok : Ok Γ H (xs ++ ys) (ts ++ us)) (len : xs.length = ts.length) (ok' : Ok ⟨H, Av Γ (ownsL (ts ++ us)), fun a => a ∈ ownsL us⟩ H' ys' as') : Ok Γ H' (xs ++ ys') (ts ++ as') := by
  have dis : ∀ b, b ∈ ownsL ts → b ∉ ownsL us := fun b m m2 => by
    rw [cn_mem] at m m2
    have := ok.nd b
    rw [ownsL_append, cn_app] at this
    omega
  have inl : ∀ b, b ∈ ownsL ts → b ∈ ownsL (ts ++ us) := fun b m => by rw [ownsL_append]; exact List.mem_append_left _ m
  have inr : ∀ b, b ∈ ownsL us → b ∈ ownsL (ts ++ us) := fun b m => by rw [ownsL_append]; exact List.mem_append_right _ m
  have dis' : ∀ b, b ∈ ownsL ts → b ∉ ownsL as' := fun b m m2 => (ok'.new b m2).elim (dis b m) fun z => by
    obtain ⟨o, e⟩ := ok.there b (inl b m)
    have z : H b = none := z
    rw [e] at z
    cases z
  refine ⟨by rw [List.length_append, List.length_append, len, ok'.len], fun k x t h1 h2 => ?_, fun b => ?_, fun b m => ?_, ⟨fun b o e n => ?_, fun b e => ok.fr.free b (ok'.fr.free b e)⟩, fun a o kvs e => ok.nf a o kvs (ok'.nf a o kvs e)⟩
  · rcases ap_cases h1 with h1 | ⟨j, rfl, hj⟩
    · have hk := (List.getElem?_eq_some_iff.mp h1).1
      rw [List.getElem?_append_left (by omega)] at h2
      refine (ok.rep k x t (ap_left h1) (ap_left h2)).mono (fun b o av e => ?_) fun b o m e => ok'.fr.keep b o e (dis b (mem_ownsL h2 m))
      refine ⟨.of e (ok'.fr.keep b o e fun m => av.2 (inr b m)), av.1, fun m => ?_⟩
      rw [ownsL_append] at m
      rcases List.mem_append.mp m with m | m
      · exact av.2 (inl b m)
      · rcases ok'.new b m with z | z
        · exact av.2 (inr b z)
        · have z : H b = none := z
          rw [e] at z
          cases z
    · rw [len, List.getElem?_append_right (by omega), Nat.add_sub_cancel_left] at h2
      refine (ok'.rep j x t hj h2).mono (fun b o av e => ⟨.of e e, ?_⟩) fun b o _ e => e
      obtain ⟨h1, h2⟩ := av
      rcases h1 with h1 | h1 | h1
      · exact ⟨h1.1, fun m => by
          rw [ownsL_append] at m
          exact (List.mem_append.mp m).elim (fun m => h1.2 (inl b m)) h2⟩
      · have h1 : H b = none := h1
        exact ⟨.inr (.inl (ok.fr.free b h1)), fun m => by
          rw [ownsL_append] at m
          refine (List.mem_append.mp m).elim (fun m => ?_) h2
          obtain ⟨o, e⟩ := ok.there b (inl b m)
          rw [e] at h1
          cases h1⟩
      · exact ⟨(ok.new b (inr b h1)).elim (fun z => .inr (.inr z)) fun z => .inr (.inl z), fun m => by
          rw [ownsL_append] at m
          exact (List.mem_append.mp m).elim (fun m => dis b m h1) h2⟩
  · rw [ownsL_append, cn_app]
    have h1 := ok.nd b
    rw [ownsL_append, cn_app] at h1
    have h2 := ok'.nd b
    by_cases m : b ∈ ownsL ts
    · have := cn_no.mp (dis' b m)
      omega
    · have := cn_no.mp m
      omega
  · rw [ownsL_append] at m
    rcases List.mem_append.mp m with m | m
    · exact ok.new b (inl b m)
    · rcases ok'.new b m with z | z
      · exact ok.new b (inr b z)
      · exact .inr (ok.fr.free b z)
  · refine ok'.fr.keep b o (ok.fr.keep b o e n) fun m => ?_
    rcases ok.new b (inr b m) with z | z
    · exact n z
    · rw [e] at z; cases z
/-- what the callee finds -/
theorem Ok.enter (ok : Ok Γ H (xs ++ ys) (ts ++ us)) (len : xs.length = ts.length) : Ok ⟨H, Av Γ (ownsL (ts ++ us)), fun a => a ∈ ownsL us⟩ H ys us := by
  have hl : ys.length = us.length := by
    have := ok.len
    rw [List.length_append, List.length_append] at this
    omega
  refine ⟨hl, fun k x t h1 h2 => ?_, fun b => ?_, fun b m => .inl m, .refl H, fun _ _ _ e => e⟩
  · refine (ok.rep (xs.length + k) x t (ap_right h1) (by rw [len]; exact ap_right h2)).mono (fun b o av e => ⟨.of e e, .inl av, fun m => av.2 (by rw [ownsL_append]; exact List.mem_append_right _ m)⟩) fun _ _ _ e => e
  · have := ok.nd b
    rw [ownsL_append, cn_app] at this
    omega
end

end E
namespace E
open PySem PySem.Spec PyProof.Rows L2 G

abbrev Env := List T
abbrev XD := Addr → List Str → List D → Env → Prop
abbrev WE := XD → Env → (T → Env → Prop) → Prop
abbrev WA := XD → Env → (List T → Env → Prop) → Prop
abbrev WT := XD → Env → (Bool → Env → Prop) → Prop
structure En (Γ : Cg) (H : Hp) (σ : L2.St) (tv : List (Option V)) (ρ : Env) (tt : List T) : Prop where
  ok : Ok Γ H (σ ++ tv) (ρ ++ tt)
  len : σ.length = ρ.length
/-- what exceptions meet; whether no dict is locked -/
structure Wx where
  x : WX
  c : Bool
def XOk (W : Wx) (Γ : Cg) (tv : List (Option V)) (tt : List T) (σ : L2.St) (χ : XD) : Prop := (W.c = true → Calm Γ.H0) ∧ ∀ C d fl ds ρ' H', χ C fl ds ρ' → En Γ H' σ (tv ++ [some (.ref 0)]) ρ' (tt ++ [.sh (.exc C d fl ds)]) → W.x (.ref C) (some d) σ H'
def lift (W : Wx) (w : WE) : TE := fun σ H Q => ∃ (Γ : Cg) (tv : List (Option V)) (ρ : Env) (tt : List T) (χ : XD) (Q1 : T → Env → Prop), En Γ H σ tv ρ tt ∧ w χ ρ Q1 ∧ XOk W Γ tv tt σ χ ∧ ∀ t ρ' v H', Q1 t ρ' → En Γ H' σ (tv ++ [some v]) ρ' (tt ++ [t]) → Q v H'
def liftA (W : Wx) (w : WA) : TA := fun σ H Q => ∃ (Γ : Cg) (tv : List (Option V)) (ρ : Env) (tt : List T) (χ : XD) (Q1 : List T → Env → Prop), En Γ H σ tv ρ tt ∧ w χ ρ Q1 ∧ XOk W Γ tv tt σ χ ∧ ∀ ts ρ' vs H', Q1 ts ρ' → En Γ H' σ (tv ++ vs.map some) ρ' (tt ++ ts) → Q vs H'
def liftT (W : Wx) (w : WT) : TT := fun σ H Q => ∃ (Γ : Cg) (tv : List (Option V)) (ρ : Env) (tt : List T) (χ : XD) (Q1 : Bool → Env → Prop), En Γ H σ tv ρ tt ∧ w χ ρ Q1 ∧ XOk W Γ tv tt σ χ ∧ ∀ b ρ' H', Q1 b ρ' → En Γ H' σ tv ρ' tt → Q b H'
def Rf (W : Wx) (t : TE) (w : WE) : Prop := ∀ σ H Q, lift W w σ H Q → t σ H Q
def RfA (W : Wx) (t : TA) (w : WA) : Prop := ∀ σ H Q, liftA W w σ H Q → t σ H Q
def RfT (W : Wx) (t : TT) (w : WT) : Prop := ∀ σ H Q, liftT W w σ H Q → t σ H Q
theorem Ok.mid {Γ : Cg} {H : Hp} {xs ys zs : List (Option V)} {ts us ws : List T} (ok : Ok Γ H (xs ++ (ys ++ zs)) (ts ++ (us ++ ws))) (l1 : xs.length = ts.length) (l2 : ys.length = us.length) : Ok Γ H (xs ++ zs) (ts ++ ws) := by
  have l3 : zs.length = ws.length := by
    have := ok.len
    simp only [List.length_append] at this
    omega
  refine ok.re (by simp [l1, l3]) (fun b => by simp only [ownsL_append, cn_app]; omega) fun k x t h1 h2 => .inl ?_
  rcases ap_cases h1 with h1 | ⟨j, rfl, hj⟩
  · have hk := (List.getElem?_eq_some_iff.mp h1).1
    rw [List.getElem?_append_left (by omega)] at h2
    exact ⟨k, ap_left h1, ap_left h2⟩
  · rw [l1, List.getElem?_append_right (by omega), Nat.add_sub_cancel_left] at h2
    exact ⟨xs.length + (ys.length + j), ap_right (ap_right hj), by rw [l1, l2]; exact ap_right (ap_right h2)⟩
section
variable {Γ : Cg} {H H' : Hp} {σ : L2.St} {tv ys : List (Option V)} {ρ : Env} {tt us : List T} {W : Wx} {χ : XD}
theorem En.tl (e : En Γ H σ tv ρ tt) : tv.length = tt.length := by
  have h1 := e.ok.len
  have h2 := e.len
  simp only [List.length_append] at h1
  omega
theorem En.drop (e : En Γ H σ (tv ++ ys) ρ (tt ++ us)) (h : tv.length = tt.length) : En Γ H σ tv ρ tt :=
  ⟨Ok.drop (ys := ys) (us := us) (by rw [List.append_assoc, List.append_assoc]; exact e.ok) (by simp [e.len, h]), e.len⟩
theorem En.mid {zs : List (Option V)} {ws : List T} (e : En Γ H σ ((tv ++ ys) ++ zs) ρ ((tt ++ us) ++ ws)) (h1 : tv.length = tt.length) (h2 : ys.length = us.length) : En Γ H σ (tv ++ zs) ρ (tt ++ ws) := by
  refine ⟨?_, e.len⟩
  have := e.ok
  have := Ok.mid (xs := σ ++ tv) (ys := ys) (zs := zs) (ts := ρ ++ tt) (us := us) (ws := ws) (by simpa only [List.append_assoc] using this) (by simp [e.len, h1]) h2
  simpa only [List.append_assoc] using this
theorem XOk.deep (x : XOk W Γ tv tt σ χ) (h1 : tv.length = tt.length) (h2 : ys.length = us.length) : XOk W Γ (tv ++ ys) (tt ++ us) σ χ := ⟨x.1, fun C d fl ds ρ' H' c e => x.2 C d fl ds ρ' H' c (e.mid h1 h2)⟩
theorem En.as1 {x : Option V} {t : T} (e : En Γ H σ (tv ++ [x]) ρ (tt ++ [t])) : Ok Γ H ((σ ++ tv) ++ [x]) ((ρ ++ tt) ++ [t]) := by simpa only [List.append_assoc] using e.ok
theorem En.of1 {x : Option V} {t : T} (e : Ok Γ H ((σ ++ tv) ++ [x]) ((ρ ++ tt) ++ [t])) (h : σ.length = ρ.length) : En Γ H σ (tv ++ [x]) ρ (tt ++ [t]) := ⟨by simpa only [List.append_assoc] using e, h⟩
theorem En.as (e : En Γ H σ (tv ++ ys) ρ (tt ++ us)) : Ok Γ H ((σ ++ tv) ++ ys) ((ρ ++ tt) ++ us) := by simpa only [List.append_assoc] using e.ok
theorem En.of (e : Ok Γ H ((σ ++ tv) ++ ys) ((ρ ++ tt) ++ us)) (h : σ.length = ρ.length) : En Γ H σ (tv ++ ys) ρ (tt ++ us) := ⟨by simpa only [List.append_assoc] using e, h⟩
theorem En.l2 (e : En Γ H σ (tv ++ ys) ρ (tt ++ us)) (h : ys.length = us.length) : (σ ++ tv).length = (ρ ++ tt).length := by
  have := e.ok.len
  simp only [List.length_append] at this ⊢
  omega
/-- the last entry's tree -/
theorem En.last {v : V} {t : T} (e : En Γ H σ (tv ++ [some v]) ρ (tt ++ [t])) : R H (Av Γ (ownsL (ρ ++ (tt ++ [t])))) (some v) t := by
  have h1 := e.ok
  have l := e.l2 rfl
  refine h1.rep ((σ ++ tv).length) (some v) t ?_ ?_
  · rw [← List.append_assoc]; simp
  · rw [← List.append_assoc, l]; simp
theorem En.push {v : V} {d : D} (e : En Γ H σ tv ρ tt) (r : RD H (Av Γ (ownsL (ρ ++ tt))) v d) : En Γ H σ (tv ++ [some v]) ρ (tt ++ [.sh d]) := .of1 (e.ok.pushD r) e.len
end
/-! ### names and constants -/
def wC (t : T) : WE := fun _ ρ Q => Q t ρ
def wVar (i : Nat) : WE := fun _ ρ Q => ∃ t u, ρ[i]? = some t ∧ t.rd i [] = some u ∧ Q u ρ
section
variable {W : Wx}
theorem rf_c {v : V} {d : D} (r : ∀ H A, RD H A v d) : Rf W (tC v) (wC (.sh d)) := fun σ H Q ⟨Γ, tv, ρ, tt, χ, Q1, e, h, x, k⟩ => k _ ρ v H h (e.push (r _ _))
theorem rf_int {i : Int} : Rf W (tC (.int i)) (wC (.sh (.int i))) := rf_c fun _ _ => .int i
theorem rf_str {i : Str} : Rf W (tC (.str i)) (wC (.sh (.str i))) := rf_c fun _ _ => .str i
theorem rf_bl {i : Bool} : Rf W (tC (.bl i)) (wC (.sh (.bl i))) := rf_c fun _ _ => .bl i
theorem rf_non : Rf W (tC .non) (wC (.sh .non)) := rf_c fun _ _ => .non
theorem R.rd {H : Hp} {A : Addr → Prop} {x : Option V} {t u : T} {i : Nat} {p : List Nat} (r : R H A x t) (h : t.rd i p = some u) : ∃ v d, x = some v ∧ u = .sh d ∧ RD H A v d := by
  cases r with
  | no => cases h
  | sh r => cases h; exact ⟨_, _, rfl, rfl, r⟩
  | tup => cases h
  | lst => cases h; exact ⟨_, _, rfl, rfl, .at _ _ _⟩
  | dK => cases h; exact ⟨_, _, rfl, rfl, .at _ _ _⟩
  | dT => cases h; exact ⟨_, _, rfl, rfl, .at _ _ _⟩
  | obj => cases h; exact ⟨_, _, rfl, rfl, .at _ _ _⟩
theorem rf_var {i : Nat} : Rf W (tVar i) (wVar i) := fun σ H Q ⟨Γ, tv, ρ, tt, χ, Q1, e, ⟨t, u, h1, h2, h3⟩, x, k⟩ => by
  obtain ⟨y, hy⟩ := get_of_len e.len h1
  obtain ⟨v, d, rfl, rfl, r⟩ := (e.ok.rep i y t (ap_left hy) (ap_left h1)).rd h2
  exact ⟨v, hy, k _ ρ v H h3 (e.push r)⟩
/-! ### operators -/
/-- an operation on the last values: by their trees -/
structure CbD (r : List V → Hp → VK → Prop) (f : Env → List T → (T → Prop) → Prop) : Prop where
  run : ∀ (Γ : Cg) (H : Hp) (σ : L2.St) (tv : List (Option V)) (ρ : Env) (tt : List T) (vs : List V) (as : List T) (Q : VK) (k : T → Prop), En Γ H σ (tv ++ vs.map some) ρ (tt ++ as) → tv.length = tt.length → f ρ as k → (∀ t v H', k t → En Γ H' σ (tv ++ [some v]) ρ (tt ++ [t]) → Q v H') → r vs H Q
def r2 (r : R2) : List V → Hp → VK → Prop := fun vs H Q => ∀ x y, vs = [x, y] → r x y H Q
def r1 (r : V → Hp → VK → Prop) : List V → Hp → VK → Prop := fun vs H Q => ∀ x, vs = [x] → r x H Q
abbrev Fd := Env → List T → (T → Prop) → Prop
def wOp (f : Fd) (wa wb : WE) : WE := fun χ ρ Q => wa χ ρ fun t1 ρ1 => wb χ ρ1 fun t2 ρ2 => f ρ2 [t1, t2] fun t => Q t ρ2
def wUn (f : Fd) (wa : WE) : WE := fun χ ρ Q => wa χ ρ fun t1 ρ1 => f ρ1 [t1] fun t => Q t ρ1
theorem rf_op {r : R2} {f : Fd} {ta tb : TE} {wa wb : WE} (o : CbD (r2 r) f) (ha : Rf W ta wa) (hb : Rf W tb wb) : Rf W (tOp r ta tb) (wOp f wa wb) := fun σ H Q ⟨Γ, tv, ρ, tt, χ, Q1, e, h, x, k⟩ => by
  refine ha σ H _ ⟨Γ, tv, ρ, tt, χ, _, e, h, x, fun t1 ρ1 v1 H1 h1 e1 => ?_⟩
  refine hb σ H1 _ ⟨Γ, _, ρ1, _, χ, _, e1, h1, x.deep e.tl rfl, fun t2 ρ2 v2 H2 h2 e2 => ?_⟩
  exact o.run Γ H2 σ tv ρ2 tt [v1, v2] [t1, t2] Q _ (by rw [List.append_assoc, List.append_assoc] at e2; exact e2) e.tl h2 (fun t v H' q e' => k t ρ2 v H' q e') v1 v2 rfl
theorem rf_un {r : V → Hp → VK → Prop} {f : Fd} {ta : TE} {wa : WE} (o : CbD (r1 r) f) (ha : Rf W ta wa) : Rf W (tUn r ta) (wUn f wa) := fun σ H Q ⟨Γ, tv, ρ, tt, χ, Q1, e, h, x, k⟩ => by
  refine ha σ H _ ⟨Γ, tv, ρ, tt, χ, _, e, h, x, fun t1 ρ1 v1 H1 h1 e1 => ?_⟩
  exact o.run Γ H1 σ tv ρ1 tt [v1] [t1] Q _ e1 e.tl h1 (fun t v H' q e' => k t ρ1 v H' q e') v1 rfl
/-! ### arguments -/
def waN : WA := fun _ ρ Q => Q [] ρ
def waC (wa : WE) (wr : WA) : WA := fun χ ρ Q => wa χ ρ fun t ρ1 => wr χ ρ1 fun ts ρ2 => Q (t :: ts) ρ2
theorem rfa_nil : RfA W tNil waN := fun σ H Q ⟨Γ, tv, ρ, tt, χ, Q1, e, h, x, k⟩ => k [] ρ [] H h (by simpa using e)
theorem rfa_cons {ta : TE} {tr : TA} {wa : WE} {wr : WA} (ha : Rf W ta wa) (hr : RfA W tr wr) : RfA W (tCons ta tr) (waC wa wr) := fun σ H Q ⟨Γ, tv, ρ, tt, χ, Q1, e, h, x, k⟩ => by
  refine ha σ H _ ⟨Γ, tv, ρ, tt, χ, _, e, h, x, fun t1 ρ1 v1 H1 h1 e1 => ?_⟩
  refine hr σ H1 _ ⟨Γ, _, ρ1, _, χ, _, e1, h1, x.deep e.tl rfl, fun ts ρ2 vs H2 h2 e2 => ?_⟩
  exact k (t1 :: ts) ρ2 (v1 :: vs) H2 h2 (by simpa only [List.append_assoc, List.map_cons, List.singleton_append, List.cons_append, List.nil_append] using e2)
def wCb (f : Fd) (wa : WA) : WE := fun χ ρ Q => wa χ ρ fun ts ρ1 => f ρ1 ts fun t => Q t ρ1
theorem rf_cb {r : List V → Hp → VK → Prop} {f : Fd} {ta : TA} {wa : WA} (o : CbD r f) (ha : RfA W ta wa) : Rf W (tCB r ta) (wCb f wa) := fun σ H Q ⟨Γ, tv, ρ, tt, χ, Q1, e, h, x, k⟩ => by
  refine ha σ H _ ⟨Γ, tv, ρ, tt, χ, _, e, h, x, fun ts ρ1 vs H1 h1 e1 => ?_⟩
  exact o.run Γ H1 σ tv ρ1 tt vs ts Q _ e1 e.tl h1 (fun t v H' q e' => k t ρ1 v H' q e')
def wLst (wa : WA) : WE := fun χ ρ Q => wa χ ρ fun ts ρ1 => ts.length ≤ 10000 ∧ ∀ a, Q (.lst a ts) ρ1
def wTup (wa : WA) : WE := fun χ ρ Q => wa χ ρ fun ts ρ1 => ts.length ≤ 10000 ∧ Q (mkTup ts) ρ1
theorem En.tlen {Γ : Cg} {H : Hp} {σ : L2.St} {tv ys : List (Option V)} {ρ : Env} {tt us : List T} (e : En Γ H σ (tv ++ ys) ρ (tt ++ us)) (h : tv.length = tt.length) : ys.length = us.length := by
  have := e.tl
  simp only [List.length_append] at this
  omega
theorem rf_lst {ta : TA} {wa : WA} (ha : RfA W ta wa) : Rf W (tLst ta) (wLst wa) := fun σ H Q ⟨Γ, tv, ρ, tt, χ, Q1, e, h, x, k⟩ => by
  refine ha σ H _ ⟨Γ, tv, ρ, tt, χ, _, e, h, x, fun ts ρ1 vs H1 ⟨hl, h1⟩ e1 => ?_⟩
  have lv : vs.length = ts.length := by simpa using e1.tlen e.tl
  refine ⟨szl (by omega), fun p hp => k _ ρ1 _ _ (h1 p) (.of (Ok.alloc (u := .lst p ts) (vs := vs) e1.as (e1.l2 (by simpa using lv)) hp (fun a o z => by rw [upd_ne (ne_of_none z hp)]; exact z) (fun a z => ?_) (nofrz (by intro o kvs z; cases z)) .lst upd_same lv (fun b => Nat.le_refl _) fun j v t h2 h3 => .inl ⟨j, map_get h2, h3⟩) e1.len)⟩
  by_cases q : a = p
  · rw [q]; exact hp
  · rw [upd_ne q] at z; exact z
theorem rf_tup {ta : TA} {wa : WA} (ha : RfA W ta wa) : Rf W (tTup ta) (wTup wa) := fun σ H Q ⟨Γ, tv, ρ, tt, χ, Q1, e, h, x, k⟩ => by
  refine ha σ H _ ⟨Γ, tv, ρ, tt, χ, _, e, h, x, fun ts ρ1 vs H1 ⟨hl, h1⟩ e1 => ?_⟩
  have lv : vs.length = ts.length := by simpa using e1.tlen e.tl
  exact ⟨szl (by omega), fun p hp => k _ ρ1 _ _ h1 (.of (Ok.tup e1.as (e1.l2 (by simpa using lv)) hp) e1.len)⟩
def wDNew : WE := fun _ ρ Q => ∀ a, Q (.dK a [] []) ρ
theorem rf_dnew : Rf W tDNewK wDNew := fun σ H Q ⟨Γ, tv, ρ, tt, χ, Q1, e, h, x, k⟩ => fun p hp => k _ ρ _ _ (h p) (.of1 (Ok.alloc (ys := []) (us := []) (u := .dK p [] []) (vs := []) (by simpa only [List.append_nil] using e.ok) e.ok.len hp (fun a o z => by rw [upd_ne (ne_of_none z hp)]; exact z) (fun a z => by
  by_cases q : a = p
  · rw [q]; exact hp
  · rw [upd_ne q] at z; exact z) (nofrz (by intro o kvs z; cases z)) (.dK (kvs := [])) upd_same rfl (fun b => Nat.le_refl _) (fun j v t h2 => by simp at h2)) e.len)
/-! ### truth -/
def wB (wa : WE) : WT := fun χ ρ Q => wa χ ρ fun t ρ1 => ∃ b, t = .sh (.bl b) ∧ Q b ρ1
theorem rft_b {ta : TE} {wa : WE} (ha : Rf W ta wa) : RfT W (tB ta) (wB wa) := fun σ H Q ⟨Γ, tv, ρ, tt, χ, Q1, e, h, x, k⟩ => by
  refine ha σ H _ ⟨Γ, tv, ρ, tt, χ, _, e, h, x, fun t1 ρ1 v1 H1 ⟨b, hb, h1⟩ e1 => ?_⟩
  subst hb
  have r := e1.last
  cases r with
  | sh r =>
  cases r
  exact ⟨b, rfl, k b ρ1 H1 h1 (e1.drop e.tl)⟩
theorem rft_test {ta : TE} {wa : WE} (ha : Rf W ta wa) : RfT W (tTest ta) (wB wa) := rft_b ha
def wAnd (w u : WT) : WT := fun χ ρ Q => w χ ρ fun b ρ1 => if b = true then u χ ρ1 Q else Q false ρ1
def wOr (w u : WT) : WT := fun χ ρ Q => w χ ρ fun b ρ1 => if b = true then Q true ρ1 else u χ ρ1 Q
def wNot (w : WT) : WT := fun χ ρ Q => w χ ρ fun b ρ1 => Q (!b) ρ1
theorem rft_and {t u : TT} {w w' : WT} (ha : RfT W t w) (hb : RfT W u w') : RfT W (tAnd t u) (wAnd w w') := fun σ H Q ⟨Γ, tv, ρ, tt, χ, Q1, e, h, x, k⟩ => by
  refine ha σ H _ ⟨Γ, tv, ρ, tt, χ, _, e, h, x, fun b ρ1 H1 h1 e1 => ?_⟩
  cases b with
  | true => exact iteT (hb σ H1 _ ⟨Γ, tv, ρ1, tt, χ, _, e1, h1, x, k⟩)
  | false => exact iteF (k false ρ1 H1 h1 e1)
theorem rft_or {t u : TT} {w w' : WT} (ha : RfT W t w) (hb : RfT W u w') : RfT W (tOr t u) (wOr w w') := fun σ H Q ⟨Γ, tv, ρ, tt, χ, Q1, e, h, x, k⟩ => by
  refine ha σ H _ ⟨Γ, tv, ρ, tt, χ, _, e, h, x, fun b ρ1 H1 h1 e1 => ?_⟩
  cases b with
  | true => exact iteT (k true ρ1 H1 h1 e1)
  | false => exact iteF (hb σ H1 _ ⟨Γ, tv, ρ1, tt, χ, _, e1, h1, x, k⟩)
theorem rft_not {t : TT} {w : WT} (ha : RfT W t w) : RfT W (tNot t) (wNot w) := fun σ H Q ⟨Γ, tv, ρ, tt, χ, Q1, e, h, x, k⟩ =>
  ha σ H _ ⟨Γ, tv, ρ, tt, χ, _, e, h, x, fun b ρ1 H1 h1 e1 => k (!b) ρ1 H1 h1 e1⟩
def wAndV (wa wb : WE) : WE := fun χ ρ Q => wa χ ρ fun t ρ1 => ∃ b, t = .sh (.bl b) ∧ if b = true then wb χ ρ1 Q else Q (.sh (.bl false)) ρ1
def wOrV (wa wb : WE) : WE := fun χ ρ Q => wa χ ρ fun t ρ1 => ∃ b, t = .sh (.bl b) ∧ if b = true then Q (.sh (.bl true)) ρ1 else wb χ ρ1 Q
def wNotV (wa : WE) : WE := fun χ ρ Q => wa χ ρ fun t ρ1 => ∃ b, t = .sh (.bl b) ∧ Q (.sh (.bl (!b))) ρ1
theorem rf_andV {ta tb : TE} {wa wb : WE} (ha : Rf W ta wa) (hb : Rf W tb wb) : Rf W (tAndV ta tb) (wAndV wa wb) := fun σ H Q ⟨Γ, tv, ρ, tt, χ, Q1, e, h, x, k⟩ => by
  refine ha σ H _ ⟨Γ, tv, ρ, tt, χ, _, e, h, x, fun t1 ρ1 v1 H1 ⟨b, eb, h1⟩ e1 => ?_⟩
  subst eb
  have r := e1.last
  cases r with
  | sh r =>
  cases r
  refine ⟨b, rfl, ?_⟩
  have e2 := e1.drop e.tl
  cases b with
  | true => exact iteT (hb σ H1 _ ⟨Γ, tv, ρ1, tt, χ, _, e2, h1, x, k⟩)
  | false => exact iteF (k _ ρ1 _ H1 h1 (e2.push (.bl false)))
theorem rf_orV {ta tb : TE} {wa wb : WE} (ha : Rf W ta wa) (hb : Rf W tb wb) : Rf W (tOrV ta tb) (wOrV wa wb) := fun σ H Q ⟨Γ, tv, ρ, tt, χ, Q1, e, h, x, k⟩ => by
  refine ha σ H _ ⟨Γ, tv, ρ, tt, χ, _, e, h, x, fun t1 ρ1 v1 H1 ⟨b, eb, h1⟩ e1 => ?_⟩
  subst eb
  have r := e1.last
  cases r with
  | sh r =>
  cases r
  refine ⟨b, rfl, ?_⟩
  have e2 := e1.drop e.tl
  cases b with
  | true => exact iteT (k _ ρ1 _ H1 h1 (e2.push (.bl true)))
  | false => exact iteF (hb σ H1 _ ⟨Γ, tv, ρ1, tt, χ, _, e2, h1, x, k⟩)
theorem rf_notV {ta : TE} {wa : WE} (ha : Rf W ta wa) : Rf W (tNotV ta) (wNotV wa) := fun σ H Q ⟨Γ, tv, ρ, tt, χ, Q1, e, h, x, k⟩ => by
  refine ha σ H _ ⟨Γ, tv, ρ, tt, χ, _, e, h, x, fun t1 ρ1 v1 H1 ⟨b, eb, h1⟩ e1 => ?_⟩
  subst eb
  have r := e1.last
  cases r with
  | sh r =>
  cases r
  exact ⟨b, rfl, k _ ρ1 _ H1 h1 ((e1.drop e.tl).push (.bl _))⟩
def wIfE (w : WT) (wa wb : WE) : WE := fun χ ρ Q => w χ ρ fun b ρ1 => if b = true then wa χ ρ1 Q else wb χ ρ1 Q
theorem rf_ifE {t : TT} {ta tb : TE} {w : WT} {wa wb : WE} (hc : RfT W t w) (ha : Rf W ta wa) (hb : Rf W tb wb) : Rf W (tIf t ta tb) (wIfE w wa wb) := fun σ H Q ⟨Γ, tv, ρ, tt, χ, Q1, e, h, x, k⟩ => by
  refine hc σ H _ ⟨Γ, tv, ρ, tt, χ, _, e, h, x, fun b ρ1 H1 h1 e1 => ?_⟩
  cases b with
  | true => exact iteT (ha σ H1 _ ⟨Γ, tv, ρ1, tt, χ, _, e1, h1, x, k⟩)
  | false => exact iteF (hb σ H1 _ ⟨Γ, tv, ρ1, tt, χ, _, e1, h1, x, k⟩)
/-! ### chains: a < b < c -/
def wChain (f g : Fd) (wa wb wc : WE) : WE := fun χ ρ Q => wa χ ρ fun t1 ρ1 => wb χ ρ1 fun t2 ρ2 => ∃ d2, t2 = .sh d2 ∧ f ρ2 [t1, t2] fun t => ∃ b, t = .sh (.bl b) ∧ if b = true then wc χ ρ2 fun t3 ρ3 => g ρ3 [t2, t3] fun t => Q t ρ3 else Q (.sh (.bl false)) ρ2
end

end E
namespace E
open PySem PySem.Spec PyProof.Rows L2 G

section
variable {W : Wx}
theorem En.dup {Γ : Cg} {H : Hp} {σ : L2.St} {tv : List (Option V)} {ρ : Env} {tt : List T} {v1 v2 : V} {t1 : T} {d2 : D} (e : En Γ H σ (tv ++ [some v1, some v2]) ρ (tt ++ [t1, .sh d2])) (h : tv.length = tt.length) : En Γ H σ ((tv ++ [some v2]) ++ [some v1, some v2]) ρ ((tt ++ [.sh d2]) ++ [t1, .sh d2]) := by
  have ok := e.as
  have l := e.l2 rfl
  have ok2 : Ok Γ H ((σ ++ tv) ++ [some v2, some v1, some v2]) ((ρ ++ tt) ++ [.sh d2, t1, .sh d2]) := by
    refine ok.re (by simp at l ⊢; omega) (fun b => ?_) fun k x t h1 h2 => .inl ?_
    · simp only [ownsL_append, cn_app, ownsL_cons, ownsL_nil, T.owns, cn, List.count_nil, List.nil_append, List.append_nil, List.count_append]
      omega
    · rcases ap_cases h1 with h1 | ⟨j, rfl, hj⟩
      · have hk := (List.getElem?_eq_some_iff.mp h1).1
        rw [List.getElem?_append_left (by omega)] at h2
        exact ⟨k, ap_left h1, ap_left h2⟩
      · rw [l, List.getElem?_append_right (by omega), Nat.add_sub_cancel_left] at h2
        match j, hj, h2 with
        | 0, hj, h2 => exact ⟨(σ ++ tv).length + 1, by rw [← hj]; exact ap_right (k := 1) rfl, by rw [l, ← h2]; exact ap_right (k := 1) rfl⟩
        | 1, hj, h2 => exact ⟨(σ ++ tv).length + 0, by rw [← hj]; exact ap_right (k := 0) rfl, by rw [l, ← h2]; exact ap_right (k := 0) rfl⟩
        | 2, hj, h2 => exact ⟨(σ ++ tv).length + 1, by rw [← hj]; exact ap_right (k := 1) rfl, by rw [l, ← h2]; exact ap_right (k := 1) rfl⟩
        | n + 3, hj, _ => simp at hj
  exact ⟨by simpa only [List.append_assoc, List.cons_append, List.nil_append] using ok2, e.len⟩
theorem rf_chain {r r' : R2} {f g : Fd} {ta tb tc : TE} {wa wb wc : WE} (o : CbD (r2 r) f) (o' : CbD (r2 r') g) (ha : Rf W ta wa) (hb : Rf W tb wb) (hc : Rf W tc wc) : Rf W (tChain r r' ta tb tc) (wChain f g wa wb wc) := fun σ H Q ⟨Γ, tv, ρ, tt, χ, Q1, e, h, x, k⟩ => by
  refine ha σ H _ ⟨Γ, tv, ρ, tt, χ, _, e, h, x, fun t1 ρ1 v1 H1 h1 e1 => ?_⟩
  refine hb σ H1 _ ⟨Γ, _, ρ1, _, χ, _, e1, h1, x.deep e.tl rfl, fun t2 ρ2 v2 H2 ⟨d2, ed, h2⟩ e2 => ?_⟩
  subst ed
  rw [List.append_assoc, List.append_assoc] at e2
  have e3 := En.dup e2 e.tl
  refine o.run Γ H2 σ (tv ++ [some v2]) ρ2 (tt ++ [T.sh d2]) [v1, v2] [t1, T.sh d2] _ _ e3 (by simp [e.tl]) h2 (fun t v H' ⟨b, eb, q⟩ e' => ?_) v1 v2 rfl
  subst eb
  have rr := e'.last
  cases rr with
  | sh rr =>
  cases rr
  refine ⟨b, rfl, ?_⟩
  have e4 := e'.drop (by simp [e.tl])
  cases b with
  | true =>
    refine iteT (hc σ H' _ ⟨Γ, _, ρ2, _, χ, _, e4, q, x.deep e.tl rfl, fun t3 ρ3 v3 H3 h3 e5 => ?_⟩)
    exact o'.run Γ H3 σ tv ρ3 tt [v2, v3] [.sh d2, t3] Q _ (by rw [List.append_assoc, List.append_assoc] at e5; exact e5) e.tl h3 (fun t v H' q e' => k t ρ3 v H' q e') v2 v3 rfl
  | false => exact iteF (k _ ρ2 _ H' q ((e4.drop e.tl).push (.bl false)))
end
/-! ### statements -/
structure WK where
  nx : Env → Prop
  rt : T → Env → Prop
  bk : Env → Prop
  ct : Env → Prop
  xc : XD
abbrev WS := WK → Env → Prop
/-- these slots hold what they held -/
def Pn (bs : List Nat) (σ σ' : L2.St) : Prop := ∀ k ∈ bs, σ'[k]? = σ[k]?
theorem Pn.refl (bs : List Nat) (σ : L2.St) : Pn bs σ σ := fun _ _ => rfl
theorem Pn.trans {bs : List Nat} {σ σ1 σ2 : L2.St} (a : Pn bs σ σ1) (b : Pn bs σ1 σ2) : Pn bs σ σ2 := fun k h => (b k h).trans (a k h)
theorem Pn.set {bs : List Nat} {σ : L2.St} {i : Nat} {x : Option V} (h : i ∉ bs) : Pn bs σ (σ.set i x) := fun k hk => by rw [List.getElem?_set_ne (fun (z : i = k) => h (by rw [z]; exact hk))]
structure KOk (bs : List Nat) (Γ : Cg) (tv : List (Option V)) (tt : List T) (σ : L2.St) (W : Wx) (D : Ends) (k : WK) : Prop where
  nx : ∀ ρ' σ' H', k.nx ρ' → Pn bs σ σ' → En Γ H' σ' tv ρ' tt → D.nx σ' H'
  rt : ∀ t ρ' v σ' H', k.rt t ρ' → Pn bs σ σ' → En Γ H' σ' (tv ++ [some v]) ρ' (tt ++ [t]) → D.rt v H'
  bk : ∀ ρ' σ' H', k.bk ρ' → Pn bs σ σ' → En Γ H' σ' tv ρ' tt → D.bk σ' H'
  ct : ∀ ρ' σ' H', k.ct ρ' → Pn bs σ σ' → En Γ H' σ' tv ρ' tt → D.ct σ' H'
  xc : ∀ C d fl ds ρ' σ' H', k.xc C fl ds ρ' → Pn bs σ σ' → En Γ H' σ' (tv ++ [some (.ref 0)]) ρ' (tt ++ [.sh (.exc C d fl ds)]) → W.x (.ref C) (some d) σ' H'
  cal : W.c = true → Calm Γ.H0
def liftS (bs : List Nat) (W : Wx) (w : WS) : TS := fun D σ H => ∃ (Γ : Cg) (tv : List (Option V)) (ρ : Env) (tt : List T) (k : WK), En Γ H σ tv ρ tt ∧ w k ρ ∧ KOk bs Γ tv tt σ W D k
def RfS (bs : List Nat) (W : Wx) (t : TS) (w : WS) : Prop := ∀ D σ H, liftS bs W w D σ H → t D σ H
theorem KOk.at {bs : List Nat} {Γ : Cg} {tv : List (Option V)} {tt : List T} {σ σ1 : L2.St} {W : Wx} {D : Ends} {k : WK} (o : KOk bs Γ tv tt σ W D k) (p : Pn bs σ σ1) : KOk bs Γ tv tt σ1 W D k :=
  ⟨fun ρ' σ' H' h q => o.nx ρ' σ' H' h (p.trans q), fun t ρ' v σ' H' h q => o.rt t ρ' v σ' H' h (p.trans q), fun ρ' σ' H' h q => o.bk ρ' σ' H' h (p.trans q), fun ρ' σ' H' h q => o.ct ρ' σ' H' h (p.trans q), fun C d fl ds ρ' σ' H' h q => o.xc C d fl ds ρ' σ' H' h (p.trans q), o.cal⟩
theorem KOk.x {bs : List Nat} {Γ : Cg} {tv : List (Option V)} {tt : List T} {σ : L2.St} {W : Wx} {D : Ends} {k : WK} (o : KOk bs Γ tv tt σ W D k) : XOk W Γ tv tt σ k.xc := ⟨o.cal, fun C d fl ds ρ' H' h e => o.xc C d fl ds ρ' σ H' h (.refl _ _) e⟩
/-- entries given away between two statements -/
inductive Pubs : Env → Env → Prop
  | refl (ρ : Env) : Pubs ρ ρ
  | step {ρ ρ' : Env} {t : T} {d : D} (i : Nat) : ρ[i]? = some t → t.pub = some d → Pubs (ρ.set i (.sh d)) ρ' → Pubs ρ ρ'
theorem En.pubs {Γ : Cg} {H : Hp} {σ : L2.St} {tv : List (Option V)} {ρ ρ' : Env} {tt : List T} (p : Pubs ρ ρ') : En Γ H σ tv ρ tt → En Γ H σ tv ρ' tt := by
  induction p with
  | refl => exact id
  | step i h1 h2 _ ih =>
    intro e
    refine ih ⟨?_, by rw [List.length_set]; exact e.len⟩
    have := e.ok.pub (i := i) (ap_left h1) h2
    rw [List.set_append_left (h := (List.getElem?_eq_some_iff.mp h1).1)] at this
    exact this
def wSeq (a b : WS) : WS := fun k ρ => a { k with nx := fun ρ1 => ∃ ρ2, Pubs ρ1 ρ2 ∧ b k ρ2 } ρ
section
variable {W : Wx} {bs : List Nat}
theorem rfs_seq {t u : TS} {a b : WS} (ha : RfS bs W t a) (hb : RfS bs W u b) : RfS bs W (tSeq t u) (wSeq a b) := fun D σ H ⟨Γ, tv, ρ, tt, k, e, h, o⟩ =>
  ha _ σ H ⟨Γ, tv, ρ, tt, _, e, h, ⟨fun ρ' σ' H' ⟨ρ2, p, h2⟩ q e2 => hb D σ' H' ⟨Γ, tv, ρ2, tt, k, e2.pubs p, h2, o.at q⟩, o.rt, o.bk, o.ct, o.xc, o.cal⟩⟩
def wNext : WS := fun k ρ => k.nx ρ
def wBrk : WS := fun k ρ => k.bk ρ
def wCont : WS := fun k ρ => k.ct ρ
theorem rfs_next : RfS bs W tNext wNext := fun D σ H ⟨Γ, tv, ρ, tt, k, e, h, o⟩ => o.nx ρ σ H h (.refl _ _) e
theorem rfs_brk : RfS bs W tBreak wBrk := fun D σ H ⟨Γ, tv, ρ, tt, k, e, h, o⟩ => o.bk ρ σ H h (.refl _ _) e
theorem rfs_cont : RfS bs W tCont wCont := fun D σ H ⟨Γ, tv, ρ, tt, k, e, h, o⟩ => o.ct ρ σ H h (.refl _ _) e
def wDrop (w : WE) : WS := fun k ρ => w k.xc ρ fun _ ρ1 => k.nx ρ1
theorem rfs_drop {t : TE} {w : WE} (ha : Rf W t w) : RfS bs W (tDrop t) (wDrop w) := fun D σ H ⟨Γ, tv, ρ, tt, k, e, h, o⟩ =>
  ha σ H _ ⟨Γ, tv, ρ, tt, k.xc, _, e, h, o.x, fun t ρ1 v H1 h1 e1 => o.nx ρ1 σ H1 h1 (.refl _ _) (e1.drop e.tl)⟩
def wRet (w : WE) : WS := fun k ρ => w k.xc ρ k.rt
theorem rfs_ret {t : TE} {w : WE} (ha : Rf W t w) : RfS bs W (tRet t) (wRet w) := fun D σ H ⟨Γ, tv, ρ, tt, k, e, h, o⟩ =>
  ha σ H _ ⟨Γ, tv, ρ, tt, k.xc, _, e, h, o.x, fun t ρ1 v H1 h1 e1 => o.rt t ρ1 v σ H1 h1 (.refl _ _) e1⟩
def wRetN : WS := fun k ρ => k.rt (.sh .non) ρ
theorem rfs_retN : RfS bs W tRetN wRetN := fun D σ H ⟨Γ, tv, ρ, tt, k, e, h, o⟩ => o.rt _ ρ _ σ H h (.refl _ _) (e.push .non)
/-- x, read where its tree goes along -/
def tMv (i : Nat) : TE := tVar i
def T.live : T → Bool
  | .no => false
  | _ => true
def T.left (i : Nat) : T → T
  | .sh d => .sh d
  | .lst a _ => .sh (.at a i [])
  | .dK a _ _ => .sh (.at a i [])
  | .dT a _ _ => .sh (.at a i [])
  | .obj a _ _ _ => .sh (.at a i [])
  | _ => .no
def wMv (i : Nat) : WE := fun _ ρ Q => ∃ t, ρ[i]? = some t ∧ t.live = true ∧ Q t (ρ.set i (t.left i))
theorem R.left {H : Hp} {A : Addr → Prop} {x : Option V} {t : T} (i : Nat) (r : R H A x t) : R H A x (t.left i) := by
  cases r with
  | no => exact .no _
  | sh r => exact .sh r
  | tup => exact .no _
  | lst => exact .sh (.at _ _ _)
  | dK => exact .sh (.at _ _ _)
  | dT => exact .sh (.at _ _ _)
  | obj => exact .sh (.at _ _ _)
theorem left_owns (i : Nat) (t : T) : (t.left i).owns = [] := by cases t <;> simp [T.left, T.owns]
theorem R.live {H : Hp} {A : Addr → Prop} {x : Option V} {t : T} (r : R H A x t) (h : t.live = true) : ∃ v, x = some v := by
  cases r with
  | no => cases h
  | _ => exact ⟨_, rfl⟩
theorem Ok.moved {Γ : Cg} {H : Hp} {xs ys : List (Option V)} {ts us : List T} {i j : Nat} {x : Option V} {t : T} (ok : Ok Γ H (xs ++ ys) (ts ++ us)) (len : xs.length = ts.length) (h1 : xs[i]? = some x) (h2 : ts[i]? = some t) : Ok Γ H ((xs ++ ys) ++ [x]) ((ts.set i (t.left j) ++ us) ++ [t]) := by
  have hi := (List.getElem?_eq_some_iff.mp h2).1
  have cnt : ∀ b, cn b (ownsL ((ts.set i (t.left j) ++ us) ++ [t])) = cn b (ownsL (ts ++ us)) := fun b => by
    have := cn_set b (u := t.left j) h2
    have e : cn b (T.owns (t.left j)) = 0 := by rw [left_owns]; rfl
    simp only [ownsL_append, cn_app, ownsL_one]
    omega
  have ly : ys.length = us.length := by
    have := ok.len
    simp only [List.length_append] at this
    omega
  refine ok.re (by simp [len, ly]) (fun b => Nat.le_of_eq (cnt b)) fun k y w e1 e2 => ?_
  rcases ap_cases e1 with e1 | ⟨m, rfl, hm⟩
  · have hk := (List.getElem?_eq_some_iff.mp e1).1
    rw [List.getElem?_append_left (by rw [List.length_append] at hk ⊢; rw [List.length_set]; omega)] at e2
    by_cases hik : i = k
    · subst hik
      rw [ap_left h1] at e1
      cases e1
      rw [ap_left (List.getElem?_set_self hi)] at e2
      cases e2
      right
      refine ((ok.rep i x t (ap_left h1) (ap_left h2)).left j).mono (fun b o av hb => ⟨.of hb hb, av_le (fun c => Nat.le_of_eq (cnt c)) av⟩) fun _ _ _ hb => hb
    · left
      refine ⟨k, e1, ?_⟩
      rcases ap_cases e2 with e2 | ⟨m, rfl, hm⟩
      · rw [List.getElem?_set_ne hik] at e2
        exact ap_left e2
      · rw [List.length_set]
        exact ap_right hm
  · have m0 : m = 0 := by
      have := (List.getElem?_eq_some_iff.mp hm).1
      simpa using this
    subst m0
    simp at hm
    subst hm
    have : (xs ++ ys).length + 0 = ((ts.set i (t.left j) ++ us)).length + 0 := by simp [len, ly]
    rw [this, ap_right (k := 0) rfl] at e2
    cases e2
    exact .inl ⟨i, ap_left h1, ap_left h2⟩
theorem rf_mv {i : Nat} : Rf W (tMv i) (wMv i) := fun σ H Q ⟨Γ, tv, ρ, tt, χ, Q1, e, ⟨t, h1, h2, h3⟩, x, k⟩ => by
  obtain ⟨y, hy⟩ := get_of_len e.len h1
  obtain ⟨v, rfl⟩ := (e.ok.rep i y t (ap_left hy) (ap_left h1)).live h2
  exact ⟨v, hy, k t _ v H h3 (.of1 (Ok.moved e.ok e.len hy h1) (by rw [List.length_set]; exact e.len))⟩
def wIf (c : WT) (a b : WS) : WS := fun k ρ => c k.xc ρ fun x ρ1 => if x = true then a k ρ1 else b k ρ1
theorem rfs_if {c : TT} {t u : TS} {wc : WT} {a b : WS} (hc : RfT W c wc) (ha : RfS bs W t a) (hb : RfS bs W u b) : RfS bs W (tIfS c t u) (wIf wc a b) := fun D σ H ⟨Γ, tv, ρ, tt, k, e, h, o⟩ => by
  refine hc σ H _ ⟨Γ, tv, ρ, tt, k.xc, _, e, h, o.x, fun b ρ1 H1 h1 e1 => ?_⟩
  cases b with
  | true => exact iteT (ha D σ H1 ⟨Γ, tv, ρ1, tt, k, e1, h1, o⟩)
  | false => exact iteF (hb D σ H1 ⟨Γ, tv, ρ1, tt, k, e1, h1, o⟩)
/-! ### targets -/
abbrev WG := T → Env → (Env → Prop) → Prop
/-- the value to be stored is the last entry -/
def RfG (B : Nat → Prop) (g : TG) (w : WG) : Prop := ∀ (Γ : Cg) (H : Hp) (σ : L2.St) (tv : List (Option V)) (ρ : Env) (tt : List T) (v : V) (t : T) (k : Env → Prop) (Q : L2.St → Hp → Prop), En Γ H σ (tv ++ [some v]) ρ (tt ++ [t]) → tv.length = tt.length → w t ρ k → (∀ ρ' σ' H', k ρ' → (∀ j, B j → σ'[j]? = σ[j]?) → σ'.length = σ.length → En Γ H' σ' tv ρ' tt → Q σ' H') → g v σ H Q
def gwName (i : Nat) : WG := fun t ρ k => i < ρ.length ∧ k (ρ.set i t)
theorem En.set {Γ : Cg} {H : Hp} {σ : L2.St} {tv : List (Option V)} {ρ : Env} {tt : List T} {x : Option V} {t : T} {i : Nat} (e : En Γ H σ (tv ++ [x]) ρ (tt ++ [t])) (hi : i < ρ.length) : En Γ H (σ.set i x) tv (ρ.set i t) tt := by
  have h := Ok.setLast (i := i) e.as1 (e.l2 rfl) (by have := e.len; simp; omega)
  rw [List.set_append_left (h := by rw [e.len]; exact hi), List.set_append_left (h := hi)] at h
  exact ⟨h, by simp [e.len]⟩
theorem rfg_name {B : Nat → Prop} {i : Nat} (h : ¬ B i) : RfG B (gName i) (gwName i) := fun Γ H σ tv ρ tt v t k Q e l ⟨hi, hk⟩ q => q _ _ H hk (fun j hj => by rw [List.getElem?_set_ne (fun (z : i = j) => h (by rw [z]; exact hj))]) (by rw [List.length_set]) (e.set hi)
def wAsg (w : WE) (g : WG) : WS := fun k ρ => w k.xc ρ fun t ρ1 => g t ρ1 k.nx
theorem rfs_asg {t : TE} {g : TG} {w : WE} {wg : WG} (ha : Rf W t w) (hg : RfG (fun k => k ∈ bs) g wg) : RfS bs W (tAsg t g) (wAsg w wg) := fun D σ H ⟨Γ, tv, ρ, tt, k, e, h, o⟩ =>
  ha σ H _ ⟨Γ, tv, ρ, tt, k.xc, _, e, h, o.x, fun t ρ1 v H1 h1 e1 => hg Γ H1 σ tv ρ1 tt v t _ _ e1 e.tl h1 fun ρ' σ' H' q p _ e' => o.nx ρ' σ' H' q (fun j hj => p j hj) e'⟩
end

end E
namespace E
open PySem PySem.Spec PyProof.Rows L2 G

abbrev SpecD := List T → (T → List T → Prop) → (Addr → List Str → List D → List T → Prop) → Prop
def spD (c : Bool) (S : SpecD) : Sp := fun vs H Q E => ∃ (A0 S0 : Addr → Prop) (ts : List T) (Q1 : T → List T → Prop) (χ : Addr → List Str → List D → List T → Prop), (c = true → Calm H) ∧ Ok ⟨H, A0, S0⟩ H (vs.map some) ts ∧ S ts Q1 χ ∧
  (∀ t us v H', Q1 t us → Ok ⟨H, A0, S0⟩ H' (vs.map some ++ [some v]) (us ++ [t]) → Q v H') ∧
  (∀ C d fl ds us H', χ C fl ds us → Ok ⟨H, A0, S0⟩ H' (vs.map some ++ [some (.ref 0)]) (us ++ [.sh (.exc C d fl ds)]) → E (.ref C) (some d) H')
/-- the trees of the parameters at the end: of those slots that are never stored to -/
def kept (bs : List Nat) : Nat → Nat → Env → List T
  | _, 0, _ => []
  | i, n + 1, [] => .no :: kept bs (i + 1) n []
  | i, n + 1, t :: ρ => (if bs.contains i then t else .no) :: kept bs (i + 1) n ρ
theorem kept_len (bs : List Nat) : ∀ (n i : Nat) (ρ : Env), (kept bs i n ρ).length = n
  | 0, _, _ => by simp [kept]
  | n + 1, i, [] => by rw [kept, List.length_cons, kept_len bs n]
  | n + 1, i, t :: ρ => by rw [kept, List.length_cons, kept_len bs n]
theorem kept_cn (bs : List Nat) (b : Addr) : ∀ (n i : Nat) (ρ : Env), cn b (ownsL (kept bs i n ρ)) ≤ cn b (ownsL ρ)
  | 0, _, _ => by simp [kept, ownsL]
  | n + 1, i, [] => by
    have := kept_cn bs b n (i + 1) []
    rw [kept, ownsL_cons, cn_app, T.owns]
    simpa using this
  | n + 1, i, t :: ρ => by
    have := kept_cn bs b n (i + 1) ρ
    rw [kept, ownsL_cons, ownsL_cons, cn_app, cn_app]
    have : cn b (T.owns (if bs.contains i then t else .no)) ≤ cn b t.owns := by
      split
      · exact Nat.le_refl _
      · rw [T.owns]; exact Nat.zero_le _
    omega
theorem kept_get (bs : List Nat) : ∀ (n i : Nat) (ρ : Env) (k : Nat) (t : T), (kept bs i n ρ)[k]? = some t → t = .no ∨ (ρ[k]? = some t ∧ bs.contains (i + k) = true)
  | 0, _, _, k, t, h => by simp [kept] at h
  | n + 1, i, [], 0, t, h => by simp [kept] at h; exact .inl h.symm
  | n + 1, i, [], k + 1, t, h => by
    rw [kept, List.getElem?_cons_succ] at h
    rcases kept_get bs n (i + 1) [] k t h with h | ⟨h, _⟩
    · exact .inl h
    · simp at h
  | n + 1, i, u :: ρ, 0, t, h => by
    rw [kept, List.getElem?_cons_zero] at h
    by_cases c : bs.contains i = true
    · rw [if_pos c] at h
      exact .inr ⟨by simpa using h, by simpa using c⟩
    · rw [if_neg c] at h
      cases h
      exact .inl rfl
  | n + 1, i, u :: ρ, k + 1, t, h => by
    rw [kept, List.getElem?_cons_succ] at h
    rcases kept_get bs n (i + 1) ρ k t h with h | ⟨h, c⟩
    · exact .inl h
    · exact .inr ⟨by simpa using h, by rw [show i + (k + 1) = i + 1 + k by omega]; exact c⟩
theorem endOk {bs : List Nat} {Γ : Cg} {H : Hp} {N : List Str} {vs : List V} {σ : L2.St} {ρ : Env} {x : Option V} {t : T} (e : En Γ H σ ([] ++ [x]) ρ ([] ++ [t])) (p : Pn bs (L2.start N vs) σ) : Ok Γ H (vs.map some ++ [x]) (kept bs 0 vs.length ρ ++ [t]) := by
  have lk : (vs.map some).length = (kept bs 0 vs.length ρ).length := by rw [kept_len, List.length_map]
  have hc : ∀ b, cn b (ownsL (kept bs 0 vs.length ρ ++ [t])) ≤ cn b (ownsL (ρ ++ ([] ++ [t]))) := fun b => by
    have := kept_cn bs b vs.length 0 ρ
    simp only [ownsL_append, cn_app, List.nil_append]
    omega
  refine e.ok.re (by rw [List.length_append, List.length_append, lk]; rfl) hc fun k y u h1 h2 => ?_
  rcases ap_cases h1 with h1 | ⟨j, rfl, hj⟩
  · have hk := (List.getElem?_eq_some_iff.mp h1).1
    rw [List.getElem?_append_left (by omega)] at h2
    rcases kept_get bs _ 0 ρ k u h2 with rfl | ⟨h2, c⟩
    · exact .inr (.no _)
    · left
      refine ⟨k, ap_left ?_, ap_left h2⟩
      have hb : k ∈ bs := by
        rw [Nat.zero_add] at c
        simpa using c
      have q := p k hb
      rw [q]
      unfold L2.start
      exact ap_left h1
  · have j0 : j = 0 := by
      have := (List.getElem?_eq_some_iff.mp hj).1
      simpa using this
    subst j0
    simp at hj
    subst hj
    rw [lk, ap_right (k := 0) rfl] at h2
    cases h2
    exact .inl ⟨σ.length + 0, ap_right (k := 0) rfl, by rw [e.len]; exact ap_right (k := 0) rfl⟩
section
variable {c : Bool} {X : Cx} {N : List Str} {body : List Stmt} {t : TS} {w : WS} {S : SpecD} {vs : List V} {H : Hp} {Q : VK} {E : XK} {bs : List Nat}
theorem lenD {ps : List Str} (hl : ∀ ts Q χ, S ts Q χ → ts.length = ps.length) : ∀ vs H Q E, spD c S vs H Q E → vs.length = ps.length := fun vs H Q E ⟨A0, S0, ts, Q1, χ, hcal, ok, s, _⟩ => by
  rw [← hl ts Q1 χ s, ← ok.len, List.length_map]
def W0 (c : Bool) : Wx := ⟨fun _ _ _ _ => False, c⟩
def WE' (c : Bool) (E : XK) : Wx := ⟨fun cls d _ H => E cls d H, c⟩
def kEnd (bs : List Nat) (n : Nat) (Q1 : T → List T → Prop) (χ : XD) : WK := ⟨fun ρ => Q1 (.sh .non) (kept bs 0 n ρ), fun t ρ => Q1 t (kept bs 0 n ρ), fun _ => False, fun _ => False, χ⟩
def noX : XD := fun _ _ _ _ => False
def toX (bs : List Nat) (n : Nat) (χ : Addr → List Str → List D → List T → Prop) : XD := fun C fl ds ρ => χ C fl ds (kept bs 0 n ρ)
theorem startEn {A0 S0 : Addr → Prop} {ts : List T} (ok : Ok ⟨H, A0, S0⟩ H (vs.map some) ts) (N : List Str) : En ⟨H, A0, S0⟩ H (L2.start N vs) [] (ts ++ List.replicate (N.length - ts.length) .no) [] := by
  have lt : vs.length = ts.length := by rw [← ok.len, List.length_map]
  refine ⟨?_, by simp [L2.start, lt]⟩
  rw [List.append_nil, List.append_nil]
  unfold L2.start
  have hr : ∀ n, ownsL (List.replicate n T.no) = [] := fun n => by
    induction n with
    | zero => rw [List.replicate_zero, ownsL]
    | succ n ih => rw [List.replicate_succ, ownsL, ih, T.owns]; rfl
  refine ok.re (by simp [lt]) (fun b => by rw [ownsL_append, hr, List.append_nil]; exact Nat.le_refl _) fun k x t h1 h2 => ?_
  rcases ap_cases h1 with h1 | ⟨j, rfl, hj⟩
  · have hk := (List.getElem?_eq_some_iff.mp h1).1
    rw [List.getElem?_append_left (by rw [List.length_map] at hk; omega)] at h2
    exact .inl ⟨k, h1, h2⟩
  · rw [List.length_map, lt, List.getElem?_append_right (by omega), Nat.add_sub_cancel_left] at h2
    rw [List.getElem?_replicate] at h2
    split at h2
    · cases h2; exact .inr (.no _)
    · cases h2
theorem bodyD (bs : List Nat) (h : spD c S vs H Q E) (ht : PSs X body t) (n : Nat) (m : Nat) (hn : ∀ ts Q χ, S ts Q χ → ts.length = n) (hm : N.length - n = m) (hw : ∃ w, RfS bs (W0 c) t w ∧ ∀ ts Q1 χ, S ts Q1 χ → w (kEnd bs n Q1 noX) (ts ++ List.replicate m .no)) : ∃ t, PSs X body t ∧ t { nx := fun _ H' => Q .non H', rt := Q } (L2.start N vs) H := by
  obtain ⟨w, hr, hw⟩ := hw
  obtain ⟨A0, S0, ts, Q1, χ, hcal, ok, s, hq, hx⟩ := h
  have ln := hn ts Q1 χ s
  have lv : vs.length = n := by rw [← ln, ← ok.len, List.length_map]
  refine ⟨t, ht, hr _ _ _ ⟨⟨H, A0, S0⟩, [], _, [], _, startEn ok N, by rw [ln, hm]; exact hw ts Q1 χ s, ?_⟩⟩
  exact ⟨fun ρ' σ' H' q p e => hq _ _ _ _ (show Q1 _ (kept bs 0 vs.length ρ') by rw [lv]; exact q) (endOk (e.push .non) p), fun t ρ' v σ' H' q p e => hq _ _ _ _ (show Q1 _ (kept bs 0 vs.length ρ') by rw [lv]; exact q) (endOk e p), fun _ _ _ q => q.elim, fun _ _ _ q => q.elim, fun _ _ _ _ _ _ _ q => q.elim, hcal⟩
theorem bodyX (bs : List Nat) (h : spD c S vs H Q E) (ht : PSs X body t) (n : Nat) (m : Nat) (hn : ∀ ts Q χ, S ts Q χ → ts.length = n) (hm : N.length - n = m) (hw : ∃ w, RfS bs (WE' c E) t w ∧ ∀ ts Q1 χ, S ts Q1 χ → w (kEnd bs n Q1 (toX bs n χ)) (ts ++ List.replicate m .no)) : ∃ t, PSs X body t ∧ t { nx := fun _ H' => Q .non H', rt := Q } (L2.start N vs) H := by
  obtain ⟨w, hr, hw⟩ := hw
  obtain ⟨A0, S0, ts, Q1, χ, hcal, ok, s, hq, hx⟩ := h
  have ln := hn ts Q1 χ s
  have lv : vs.length = n := by rw [← ln, ← ok.len, List.length_map]
  refine ⟨t, ht, hr _ _ _ ⟨⟨H, A0, S0⟩, [], _, [], _, startEn ok N, by rw [ln, hm]; exact hw ts Q1 χ s, ?_⟩⟩
  exact ⟨fun ρ' σ' H' q p e => hq _ _ _ _ (show Q1 _ (kept bs 0 vs.length ρ') by rw [lv]; exact q) (endOk (e.push .non) p), fun t ρ' v σ' H' q p e => hq _ _ _ _ (show Q1 _ (kept bs 0 vs.length ρ') by rw [lv]; exact q) (endOk e p), fun _ _ _ q => q.elim, fun _ _ _ q => q.elim, fun C d fl ds ρ' σ' H' q p e => hx C d fl ds _ H' (show χ C fl ds (kept bs 0 vs.length ρ') by rw [lv]; exact q) (endOk e p), hcal⟩
end
/-! ### calls -/
theorem call_run {c : Bool} {Γ : Cg} {H : Hp} {σ : L2.St} {tv : List (Option V)} {ρ : Env} {tt : List T} {vs : List V} {ts : List T} {S : SpecD} {Q1 : T → List T → Prop} {χ1 : Addr → List Str → List D → List T → Prop} {Q : VK} {E : XK} (e : En Γ H σ (tv ++ vs.map some) ρ (tt ++ ts)) (l : tv.length = tt.length) (hcal : c = true → Calm Γ.H0) (s : S ts Q1 χ1)
    (hq : ∀ t us v H', Q1 t us → En Γ H' σ (tv ++ (vs.map some ++ [some v])) ρ (tt ++ (us ++ [t])) → Q v H')
    (hx : ∀ C d fl ds us H', χ1 C fl ds us → En Γ H' σ (tv ++ (vs.map some ++ [some (.ref 0)])) ρ (tt ++ (us ++ [.sh (.exc C d fl ds)])) → E (.ref C) (some d) H') : spD c S vs H Q E := by
  have lv := e.tlen l
  have ll := e.l2 lv
  exact ⟨_, _, ts, Q1, χ1, fun z => e.ok.calm (hcal z), Ok.enter e.as ll, s, fun t us v H' q ok => hq t us v H' q (.of (Ok.call e.as ll ok) e.len), fun C d fl ds us H' q ok => hx C d fl ds us H' q (.of (Ok.call e.as ll ok) e.len)⟩
inductive LendL : Env → List T → Env → List T → List (Option (Nat × List Nat × Addr)) → Prop
  | nil (ρ : Env) : LendL ρ [] ρ [] []
  | keep {ρ ρ' : Env} {t : T} {ts ts' : List T} {ls : List (Option (Nat × List Nat × Addr))} : LendL ρ ts ρ' ts' ls → LendL ρ (t :: ts) ρ' (t :: ts') (none :: ls)
  | lend {ρ ρ' : Env} {u : T} {ts ts' : List T} {ls : List (Option (Nat × List Nat × Addr))} {a : Addr} {i : Nat} {p : List Nat} : gt ρ i p = some u → u.addr = some a → LendL (pt ρ i p (.sh (.at a i p))) ts ρ' ts' ls → LendL ρ (.sh (.at a i p) :: ts) ρ' (u :: ts') (some (i, p, a) :: ls)
  | pub {ρ ρ' : Env} {t : T} {d : D} {ts ts' : List T} {ls : List (Option (Nat × List Nat × Addr))} : t.pub = some d → LendL ρ ts ρ' ts' ls → LendL ρ (t :: ts) ρ' (.sh d :: ts') (none :: ls)
inductive BackL : Env → List (Option (Nat × List Nat × Addr)) → List T → Env → Prop
  | nil (ρ : Env) : BackL ρ [] [] ρ
  | skip {ρ ρ' : Env} {t : T} {ts : List T} {ls : List (Option (Nat × List Nat × Addr))} : BackL ρ ls ts ρ' → BackL ρ (none :: ls) (t :: ts) ρ'
  | put {ρ ρ' : Env} {t : T} {ts : List T} {ls : List (Option (Nat × List Nat × Addr))} {a : Addr} {i i' : Nat} {p p' : List Nat} : gt ρ i p = some (.sh (.at a i' p')) → BackL (pt ρ i p t) ls ts ρ' → BackL ρ (some (i, p, a) :: ls) (t :: ts) ρ'
section
variable {Γ : Cg} {H : Hp} {σ : L2.St} {tv xs : List (Option V)} {ρ : Env} {tt ts : List T}
theorem gt_app {ρ us : List T} {i : Nat} {p : List Nat} {u : T} (h : gt ρ i p = some u) : gt (ρ ++ us) i p = some u ∧ ∀ w, pt (ρ ++ us) i p w = pt ρ i p w ++ us := by
  unfold gt at h
  cases e : ρ[i]? with
  | none => rw [e] at h; cases h
  | some t =>
  rw [e] at h
  refine ⟨by unfold gt; rw [ap_left e]; exact h, fun w => ?_⟩
  unfold pt
  rw [ap_left e, e]
  exact List.set_append_left _ _ (List.getElem?_eq_some_iff.mp e).1
/-- slot and entry exchange their trees -/
theorem En.xch {x : Option V} {a : Addr} {i i' : Nat} {p p' : List Nat} {u : T} (e : En Γ H σ (tv ++ (x :: xs)) ρ (tt ++ (.sh (.at a i' p') :: ts))) (l : tv.length = tt.length) (hg : gt ρ i p = some u) (ha : u.addr = some a) : En Γ H σ (tv ++ (x :: xs)) (pt ρ i p (.sh (.at a i p))) (tt ++ (u :: ts)) ∧ x = some (.ref a) := by
  have ok := e.ok
  have lx : xs.length = ts.length := by have := e.tlen l; simpa using this
  have rx := ok.rep ((σ ++ tv).length) x (.sh (.at a i' p')) (by rw [← List.append_assoc]; simp) (by rw [← List.append_assoc, show (σ ++ tv).length = (ρ ++ tt).length by simp [e.len, l]]; simp)
  have ex : x = some (.ref a) := by
    cases rx with
    | sh r => cases r; rfl
  refine ⟨⟨?_, by rw [pt_len]; exact e.len⟩, ex⟩
  have cnt : ∀ b, cn b (ownsL (pt ρ i p (.sh (.at a i p)) ++ (tt ++ (u :: ts)))) ≤ cn b (ownsL (ρ ++ (tt ++ (.sh (.at a i' p') :: ts)))) := fun b => by
    have h1 := pt_cn b (u' := .sh (.at a i p)) hg
    rw [cn_noT] at h1
    simp only [ownsL_append, cn_app, ownsL_cons, cn_noT]
    omega
  refine ok.swap (u := u) e.len hg (by simp [l, lx]) (fun b => ?_) (fun y r => ?_) (fun y r k z t h1 h2 => ?_)
  · simp only [ownsL_append, cn_app, ownsL_cons, cn_noT]
    omega
  · rw [(r.nd ha).1]
    exact .sh (.at a i p)
  · have tr : ∀ {z : Option V} {t : T}, R H (Av Γ (ownsL (ρ ++ (tt ++ (.sh (.at a i' p') :: ts))))) z t → R H (Av Γ (ownsL (pt ρ i p (.sh (.at a i p)) ++ (tt ++ (u :: ts))))) z t := fun r => r.mono (fun b o av hb => ⟨.of hb hb, av_le cnt av⟩) fun _ _ _ hb => hb
    rcases ap_cases h1 with h1 | ⟨j, rfl, hj⟩
    · have hk := (List.getElem?_eq_some_iff.mp h1).1
      rw [List.getElem?_append_left (by omega)] at h2
      exact tr (ok.rep (σ.length + k) z t (ap_right (ap_left h1)) (by rw [e.len]; exact ap_right (ap_left h2)))
    · rw [l, List.getElem?_append_right (by omega), Nat.add_sub_cancel_left] at h2
      cases j with
      | zero =>
        simp at hj h2
        subst hj h2
        rw [ex]
        rw [(r.nd ha).1] at r
        exact tr r
      | succ j =>
        rw [List.getElem?_cons_succ] at hj h2
        exact tr (ok.rep (σ.length + (tv.length + (j + 1))) z t (ap_right (ap_right (by rw [List.getElem?_cons_succ]; exact hj))) (by rw [e.len, l]; exact ap_right (ap_right (by rw [List.getElem?_cons_succ]; exact h2))))
/-- an entry's tree goes back into its slot -/
theorem En.back1 {a : Addr} {i i' : Nat} {p p' : List Nat} {u : T} (e : En Γ H σ (tv ++ (some (.ref a) :: xs)) ρ (tt ++ (u :: ts))) (l : tv.length = tt.length) (hg : gt ρ i p = some (.sh (.at a i' p'))) : En Γ H σ (tv ++ xs) (pt ρ i p u) (tt ++ ts) := by
  have ok := e.ok
  have lx : xs.length = ts.length := by have := e.tlen l; simpa using this
  refine ⟨?_, by rw [pt_len]; exact e.len⟩
  have cnt : ∀ b, cn b (ownsL (pt ρ i p u ++ (tt ++ ts))) ≤ cn b (ownsL (ρ ++ (tt ++ (u :: ts)))) := fun b => by
    have h1 := pt_cn b (u' := u) hg
    rw [cn_noT] at h1
    simp only [ownsL_append, cn_app, ownsL_cons]
    omega
  have tr : ∀ {z : Option V} {t : T}, R H (Av Γ (ownsL (ρ ++ (tt ++ (u :: ts))))) z t → R H (Av Γ (ownsL (pt ρ i p u ++ (tt ++ ts)))) z t := fun r => r.mono (fun b o av hb => ⟨.of hb hb, av_le cnt av⟩) fun _ _ _ hb => hb
  refine ok.swap (u := .sh (.at a i' p')) e.len hg (by simp [l, lx]) (fun b => ?_) (fun y r => ?_) (fun y r k z t h1 h2 => ?_)
  · simp only [ownsL_append, cn_app, ownsL_cons, cn_noT]
    omega
  · cases r with
    | sh r =>
    cases r
    exact tr (ok.rep ((σ ++ tv).length) (some (.ref a)) u (by rw [← List.append_assoc]; simp) (by rw [← List.append_assoc, show (σ ++ tv).length = (ρ ++ tt).length by simp [e.len, l]]; simp))
  · rcases ap_cases h1 with h1 | ⟨j, rfl, hj⟩
    · have hk := (List.getElem?_eq_some_iff.mp h1).1
      rw [List.getElem?_append_left (by omega)] at h2
      exact tr (ok.rep (σ.length + k) z t (ap_right (ap_left h1)) (by rw [e.len]; exact ap_right (ap_left h2)))
    · rw [l, List.getElem?_append_right (by omega), Nat.add_sub_cancel_left] at h2
      exact tr (ok.rep (σ.length + (tv.length + (j + 1))) z t (ap_right (ap_right (by rw [List.getElem?_cons_succ]; exact hj))) (by rw [e.len, l]; exact ap_right (ap_right (by rw [List.getElem?_cons_succ]; exact h2))))
theorem En.pubT {x : Option V} {t : T} {d : D} (e : En Γ H σ (tv ++ (x :: xs)) ρ (tt ++ (t :: ts))) (l : tv.length = tt.length) (h : t.pub = some d) : En Γ H σ (tv ++ (x :: xs)) ρ (tt ++ (.sh d :: ts)) := by
  refine ⟨?_, e.len⟩
  have := e.ok.pub (i := ρ.length + tt.length) (t := t) (d := d) (by rw [← List.append_assoc, List.getElem?_append_right (by simp)]; simp) h
  have e2 : (ρ ++ (tt ++ t :: ts)).set (ρ.length + tt.length) (.sh d) = ρ ++ (tt ++ (.sh d :: ts)) := by
    rw [List.set_append_right _ _ (by omega), Nat.add_sub_cancel_left, List.set_append_right _ _ (Nat.le_refl _), Nat.sub_self, List.set_cons_zero]
  rw [e2] at this
  exact this
end
theorem LendL.run {ρ ρ' : Env} {ts ts' : List T} {ls : List (Option (Nat × List Nat × Addr))} (h : LendL ρ ts ρ' ts' ls) : ∀ {Γ : Cg} {H : Hp} {σ : L2.St} {tv xs : List (Option V)} {tt : List T}, En Γ H σ (tv ++ xs) ρ (tt ++ ts) → tv.length = tt.length →
    En Γ H σ (tv ++ xs) ρ' (tt ++ ts') ∧ ls.length = xs.length ∧ ∀ (k : Nat) (i : Nat) (p : List Nat) (a : Addr), ls[k]? = some (some (i, p, a)) → xs[k]? = some (some (.ref a)) := by
  induction h with
  | nil ρ =>
    intro Γ H σ tv xs tt e l
    have : xs = [] := List.eq_nil_of_length_eq_zero (by simpa using e.tlen l)
    subst this
    exact ⟨e, rfl, fun k i p a h => by simp at h⟩
  | @keep ρ ρ' t ts ts' ls h ih =>
    intro Γ H σ tv xs tt e l
    cases xs with
    | nil => have := e.tlen l; simp at this
    | cons x xs =>
    obtain ⟨e1, l1, g⟩ := ih (tv := tv ++ [x]) (xs := xs) (tt := tt ++ [t]) (by simpa only [List.append_assoc, List.singleton_append] using e) (by simp [l])
    refine ⟨by simpa only [List.append_assoc, List.singleton_append] using e1, by simp [l1], fun k i p a h => ?_⟩
    cases k with
    | zero => simp at h
    | succ k => rw [List.getElem?_cons_succ] at h ⊢; exact g k i p a h
  | @lend ρ ρ' u ts ts' ls a i p h1 h2 h ih =>
    intro Γ H σ tv xs tt e l
    cases xs with
    | nil => have := e.tlen l; simp at this
    | cons x xs =>
    obtain ⟨e0, ex⟩ := e.xch l h1 h2
    obtain ⟨e1, l1, g⟩ := ih (tv := tv ++ [x]) (xs := xs) (tt := tt ++ [u]) (by simpa only [List.append_assoc, List.singleton_append] using e0) (by simp [l])
    refine ⟨by simpa only [List.append_assoc, List.singleton_append] using e1, by simp [l1], fun k i' p' a' h => ?_⟩
    cases k with
    | zero => simp at h; obtain ⟨_, _, rfl⟩ := h; rw [ex]; rfl
    | succ k => rw [List.getElem?_cons_succ] at h ⊢; exact g k i' p' a' h
  | @pub ρ ρ' t d ts ts' ls h0 h ih =>
    intro Γ H σ tv xs tt e l
    cases xs with
    | nil => have := e.tlen l; simp at this
    | cons x xs =>
    have e0 := e.pubT l h0
    obtain ⟨e1, l1, g⟩ := ih (tv := tv ++ [x]) (xs := xs) (tt := tt ++ [.sh d]) (by simpa only [List.append_assoc, List.singleton_append] using e0) (by simp [l])
    refine ⟨by simpa only [List.append_assoc, List.singleton_append] using e1, by simp [l1], fun k i p a h => ?_⟩
    cases k with
    | zero => simp at h
    | succ k => rw [List.getElem?_cons_succ] at h ⊢; exact g k i p a h
theorem BackL.run {ρ ρ' : Env} {us : List T} {ls : List (Option (Nat × List Nat × Addr))} (h : BackL ρ ls us ρ') : ∀ {Γ : Cg} {H : Hp} {σ : L2.St} {tv xs ys : List (Option V)} {tt ws : List T}, En Γ H σ (tv ++ (xs ++ ys)) ρ (tt ++ (us ++ ws)) → tv.length = tt.length → xs.length = us.length → (∀ (k : Nat) (i : Nat) (p : List Nat) (a : Addr), ls[k]? = some (some (i, p, a)) → xs[k]? = some (some (.ref a))) → En Γ H σ (tv ++ ys) ρ' (tt ++ ws) := by
  induction h with
  | nil ρ =>
    intro Γ H σ tv xs ys tt ws e l lx g
    have : xs = [] := List.eq_nil_of_length_eq_zero lx
    subst this
    exact e
  | @skip ρ ρ' t ts ls h ih =>
    intro Γ H σ tv xs ys tt ws e l lx g
    cases xs with
    | nil => simp at lx
    | cons x xs =>
    refine ih (xs := xs) (ys := ys) ?_ l (by simpa using lx) fun k i p a h => by have := g (k + 1) i p a (by rw [List.getElem?_cons_succ]; exact h); rw [List.getElem?_cons_succ] at this; exact this
    exact En.mid (tv := tv) (ys := [x]) (us := [t]) (by simpa only [List.append_assoc, List.singleton_append, List.cons_append, List.nil_append] using e) l rfl
  | @put ρ ρ' t ts ls a i i' p p' h1 h ih =>
    intro Γ H σ tv xs ys tt ws e l lx g
    cases xs with
    | nil => simp at lx
    | cons x xs =>
    have ex : x = some (.ref a) := by have := g 0 i p a rfl; simpa using this
    subst ex
    refine ih (xs := xs) (ys := ys) ?_ l (by simpa using lx) fun k i p a h => by have := g (k + 1) i p a (by rw [List.getElem?_cons_succ]; exact h); rw [List.getElem?_cons_succ] at this; exact this
    exact En.back1 (xs := xs ++ ys) (ts := ts ++ ws) (by simpa only [List.cons_append] using e) l h1
def callW (S : SpecD) (χ : XD) (ρ : Env) (ts : List T) (Q : T → Env → Prop) : Prop := ∃ ρ2 ts2 ls, LendL ρ ts ρ2 ts2 ls ∧ S ts2 (fun t us => ∃ ρ3, BackL ρ2 ls us ρ3 ∧ Q t ρ3) (fun C fl ds us => ∃ ρ3, BackL ρ2 ls us ρ3 ∧ χ C fl ds ρ3)
theorem callW_run {c : Bool} {Γ : Cg} {H : Hp} {σ : L2.St} {tv : List (Option V)} {ρ : Env} {tt : List T} {vs : List V} {ts : List T} {S : SpecD} {χ : XD} {Q1 : T → Env → Prop} {Q : VK} {E : XK} (e : En Γ H σ (tv ++ vs.map some) ρ (tt ++ ts)) (l : tv.length = tt.length) (hcal : c = true → Calm Γ.H0) (cw : callW S χ ρ ts Q1)
    (hq : ∀ t ρ' v H', Q1 t ρ' → En Γ H' σ (tv ++ [some v]) ρ' (tt ++ [t]) → Q v H')
    (hx : ∀ C d fl ds ρ' H', χ C fl ds ρ' → En Γ H' σ (tv ++ [some (.ref 0)]) ρ' (tt ++ [.sh (.exc C d fl ds)]) → E (.ref C) (some d) H') : spD c S vs H Q E := by
  obtain ⟨ρ2, ts2, ls, hl, s⟩ := cw
  obtain ⟨e2, ll, g⟩ := hl.run e l
  have lv := e2.tlen l
  refine call_run e2 l hcal s (fun t us v H' ⟨ρ3, b, q⟩ e3 => ?_) (fun C d fl ds us H' ⟨ρ3, b, q⟩ e3 => ?_)
  · have lu : (vs.map some).length = us.length := by have := e3.tlen l; simpa using this
    exact hq t ρ3 v H' q (b.run e3 l lu g)
  · have lu : (vs.map some).length = us.length := by have := e3.tlen l; simpa using this
    exact hx C d fl ds ρ3 H' q (b.run e3 l lu g)

end E
namespace E
open PySem PySem.Spec PyProof.Rows L2 G

/-- the tree that a value stands for -/
def Rs (ρ : Env) (t u : T) : Prop := match t with
  | .sh (.at a i p) => gt ρ i p = some u ∧ u.addr = some a
  | t => t = u
theorem rs_at {ρ : Env} {a : Addr} {i : Nat} {p : List Nat} {u : T} {P : T → Prop} (h1 : gt ρ i p = some u) (h2 : u.addr = some a) (h : P u) : ∃ u, Rs ρ (.sh (.at a i p)) u ∧ P u := ⟨u, ⟨h1, h2⟩, h⟩
theorem rs_id {ρ : Env} {t : T} {P : T → Prop} (h : Rs ρ t t) (h2 : P t) : ∃ u, Rs ρ t u ∧ P u := ⟨t, h, h2⟩
theorem En.entry {Γ : Cg} {H : Hp} {σ : L2.St} {tv xs : List (Option V)} {ρ : Env} {tt ts : List T} {k : Nat} {x : Option V} {t : T} (e : En Γ H σ (tv ++ xs) ρ (tt ++ ts)) (l : tv.length = tt.length) (h1 : xs[k]? = some x) (h2 : ts[k]? = some t) : R H (Av Γ (ownsL (ρ ++ (tt ++ ts)))) x t :=
  e.ok.rep (σ.length + (tv.length + k)) x t (ap_right (ap_right h1)) (by rw [e.len, l]; exact ap_right (ap_right h2))
theorem Rs.rep {Γ : Cg} {H : Hp} {σ : L2.St} {tv : List (Option V)} {ρ : Env} {tt : List T} {x : Option V} {t u : T} (e : En Γ H σ tv ρ tt) (r : R H (Av Γ (ownsL (ρ ++ tt))) x t) (h : Rs ρ t u) : R H (Av Γ (ownsL (ρ ++ tt))) x u := by
  unfold Rs at h
  split at h
  · obtain ⟨h1, h2⟩ := h
    obtain ⟨y, ry⟩ := e.ok.at (gt_app (us := tt) h1).1
    obtain ⟨ey, _⟩ := ry.nd h2
    cases r with
    | sh r =>
    cases r
    rw [ey] at ry
    exact ry
  · rw [← h]; exact r
def T.cls : T → Option (Addr × List Str)
  | .obj _ C fs _ => some (C, fs)
  | .sh (.obj C fs _) => some (C, fs)
  | _ => none
theorem R.cls {H : Hp} {A : Addr → Prop} {v : V} {u : T} {C : Addr} {fs : List Str} (r : R H A (some v) u) (h : u.cls = some (C, fs)) : ∃ a dx fvs, v = .ref a ∧ H a = some (.ins C dx fvs) ∧ fvs.map Prod.fst = fs := by
  cases r with
  | sh r =>
    cases r with
    | obj e _ _ _ => cases h; exact ⟨_, _, _, rfl, e, rfl⟩
    | _ => cases h
  | obj e _ _ => cases h; exact ⟨_, _, _, rfl, e, rfl⟩
  | _ => cases h
theorem lookup_none {α : Type} {m : Str} : ∀ {fvs : List (Str × α)}, (fvs.map Prod.fst).contains m = false → fvs.lookup m = none
  | [], _ => rfl
  | (k, v) :: r, h => by
    simp only [List.map_cons, List.contains_cons, Bool.or_eq_false_iff] at h
    rw [List.lookup_cons, h.1]
    exact lookup_none h.2
section
variable {W : Wx}
def wCall (S : SpecD) (wr : WA) : WE := fun χ ρ Q => wr χ ρ fun ts ρ1 => callW S χ ρ1 ts Q
def wCall0 (S : SpecD) (wr : WA) : WE := fun χ ρ Q => wr χ ρ fun ts ρ1 => callW S noX ρ1 ts Q
theorem rf_cl {c : Bool} {S : SpecD} {E : XK} {t : TA} {wr : WA} (hc : c = true → W.c = true) (hE : ∀ cls d σ H, W.x cls d σ H → E cls d H) (ha : RfA W t wr) : Rf W (tCl (spD c S) E t) (wCall S wr) := fun σ H Q ⟨Γ, tv, ρ, tt, χ, Q1, e, h, x, k⟩ => by
  refine ha σ H _ ⟨Γ, tv, ρ, tt, χ, _, e, h, x, fun ts ρ1 vs H1 h1 e1 => ?_⟩
  exact callW_run e1 e.tl (fun z => x.1 (hc z)) h1 k fun C d fl ds ρ' H' c e' => hE _ _ σ _ (x.2 C d fl ds ρ' H' c e')
theorem rf_cl0 {c : Bool} {S : SpecD} {t : TA} {wr : WA} (hc : c = true → W.c = true) (ha : RfA W t wr) : Rf W (tCl (spD c S) E0 t) (wCall0 S wr) := fun σ H Q ⟨Γ, tv, ρ, tt, χ, Q1, e, h, x, k⟩ => by
  refine ha σ H _ ⟨Γ, tv, ρ, tt, χ, _, e, h, x, fun ts ρ1 vs H1 h1 e1 => ?_⟩
  exact callW_run e1 e.tl (fun z => x.1 (hc z)) h1 k fun C d fl ds ρ' H' c e' => c.elim
def Recv (C : Addr) (m : Str) (ρ : Env) (t : T) : Prop := ∃ u, Rs ρ t u ∧ ∃ fs, u.cls = some (C, fs) ∧ fs.contains m = false
def wMeth (C : Addr) (m : Str) (S : SpecD) (wa : WE) (wr : WA) : WE := fun χ ρ Q => wa χ ρ fun t0 ρ1 => Recv C m ρ1 t0 ∧ wr χ ρ1 fun ts ρ2 => callW S χ ρ2 (t0 :: ts) Q
def wMeth0 (C : Addr) (m : Str) (S : SpecD) (wa : WE) (wr : WA) : WE := fun χ ρ Q => wa χ ρ fun t0 ρ1 => Recv C m ρ1 t0 ∧ wr χ ρ1 fun ts ρ2 => callW S noX ρ2 (t0 :: ts) Q
theorem Recv.run {C : Addr} {m : Str} {Γ : Cg} {H : Hp} {σ : L2.St} {tv : List (Option V)} {ρ : Env} {tt : List T} {v : V} {t : T} (e : En Γ H σ (tv ++ [some v]) ρ (tt ++ [t])) (h : Recv C m ρ t) : ∃ a dx fs, v = .ref a ∧ H a = some (.ins C dx fs) ∧ fs.lookup m = none := by
  obtain ⟨u, hr, fs, hc, hm⟩ := h
  obtain ⟨a, dx, fvs, ev, ea, ef⟩ := (Rs.rep e e.last hr).cls hc
  exact ⟨a, dx, fvs, ev, ea, lookup_none (by rw [ef]; exact hm)⟩
theorem rf_mt {c : Bool} {C : Addr} {m : Str} {S : SpecD} {E : XK} {ta : TE} {t : TA} {wa : WE} {wr : WA} (hc : c = true → W.c = true) (hE : ∀ cls d σ H, W.x cls d σ H → E cls d H) (ha : Rf W ta wa) (hr : RfA W t wr) : Rf W (tMt C m (spD c S) E ta t) (wMeth C m S wa wr) := fun σ H Q ⟨Γ, tv, ρ, tt, χ, Q1, e, h, x, k⟩ => by
  refine ha σ H _ ⟨Γ, tv, ρ, tt, χ, _, e, h, x, fun t0 ρ1 v0 H1 ⟨h0, h1⟩ e1 => ?_⟩
  obtain ⟨a, dx, fs, ev, ea, el⟩ := h0.run e1
  refine ⟨a, dx, fs, ev, ea, el, hr σ H1 _ ⟨Γ, _, ρ1, _, χ, _, e1, h1, x.deep e.tl rfl, fun ts ρ2 vs H2 h2 e2 => ?_⟩⟩
  exact callW_run (vs := v0 :: vs) (ts := t0 :: ts) (by rw [List.append_assoc, List.append_assoc] at e2; exact e2) e.tl (fun z => x.1 (hc z)) h2 k fun C d fl ds ρ' H' c e' => hE _ _ σ _ (x.2 C d fl ds ρ' H' c e')
theorem rf_mt0 {c : Bool} {C : Addr} {m : Str} {S : SpecD} {ta : TE} {t : TA} {wa : WE} {wr : WA} (hc : c = true → W.c = true) (ha : Rf W ta wa) (hr : RfA W t wr) : Rf W (tMt C m (spD c S) E0 ta t) (wMeth0 C m S wa wr) := fun σ H Q ⟨Γ, tv, ρ, tt, χ, Q1, e, h, x, k⟩ => by
  refine ha σ H _ ⟨Γ, tv, ρ, tt, χ, _, e, h, x, fun t0 ρ1 v0 H1 ⟨h0, h1⟩ e1 => ?_⟩
  obtain ⟨a, dx, fs, ev, ea, el⟩ := h0.run e1
  refine ⟨a, dx, fs, ev, ea, el, hr σ H1 _ ⟨Γ, _, ρ1, _, χ, _, e1, h1, x.deep e.tl rfl, fun ts ρ2 vs H2 h2 e2 => ?_⟩⟩
  exact callW_run (vs := v0 :: vs) (ts := t0 :: ts) (by rw [List.append_assoc, List.append_assoc] at e2; exact e2) e.tl (fun z => x.1 (hc z)) h2 k fun C d fl ds ρ' H' c e' => c.elim
/-- C(..): a new object, given to __init__ -/
def wMake (C : Addr) (S : SpecD) (wr : WA) : WE := fun χ ρ Q => wr χ ρ fun ts ρ1 => ∀ a, ∃ ρ2 ts2 ls, LendL ρ1 ts ρ2 ts2 ls ∧ S (.obj a C [] [] :: ts2) (fun t us => t = .sh .non ∧ ∃ u us' ρ3, us = u :: us' ∧ BackL ρ2 ls us' ρ3 ∧ Q u ρ3) (fun C fl ds us => ∃ u us' ρ3, us = u :: us' ∧ BackL ρ2 ls us' ρ3 ∧ χ C fl ds ρ3)
theorem Ok.rot {Γ : Cg} {H : Hp} {xs ys : List (Option V)} {ts us : List T} {x : Option V} {t : T} (ok : Ok Γ H (xs ++ (ys ++ [x])) (ts ++ (us ++ [t]))) (len : xs.length = ts.length) (ly : ys.length = us.length) : Ok Γ H (xs ++ (x :: ys)) (ts ++ (t :: us)) := by
  refine ok.re (by simp [len, ly]) (fun b => by simp only [ownsL_append, ownsL_cons, ownsL_nil, cn_app, List.append_nil]; omega) fun k y u h1 h2 => .inl ?_
  rcases ap_cases h1 with h1 | ⟨j, rfl, hj⟩
  · have hk := (List.getElem?_eq_some_iff.mp h1).1
    rw [List.getElem?_append_left (by omega)] at h2
    exact ⟨k, ap_left h1, ap_left h2⟩
  · rw [len, List.getElem?_append_right (by omega), Nat.add_sub_cancel_left] at h2
    cases j with
    | zero =>
      simp at hj h2
      subst hj h2
      exact ⟨xs.length + (ys.length + 0), ap_right (ap_right (k := 0) rfl), by rw [len, ly]; exact ap_right (ap_right (k := 0) rfl)⟩
    | succ j =>
      rw [List.getElem?_cons_succ] at hj h2
      exact ⟨xs.length + j, ap_right (ap_left hj), by rw [len]; exact ap_right (ap_left h2)⟩
theorem rf_mk {c : Bool} {C : Addr} {S : SpecD} {E : XK} {t : TA} {wr : WA} (hc : c = true → W.c = true) (hE : ∀ cls d σ H, W.x cls d σ H → E cls d H) (hr : RfA W t wr) : Rf W (tMk C (spD c S) E t) (wMake C S wr) := fun σ H Q ⟨Γ, tv, ρ, tt, χ, Q1, e, h, x, k⟩ => by
  refine hr σ H _ ⟨Γ, tv, ρ, tt, χ, _, e, h, x, fun ts ρ1 vs H1 h1 e1 => ?_⟩
  intro p dx hp hdx ne
  obtain ⟨ρ2, ts2, ls, hl, s⟩ := h1 p
  obtain ⟨e2, ll, g⟩ := hl.run e1 e.tl
  have lv := e2.tlen e.tl
  have e3 : Ok Γ (upd (upd H1 dx (.own p)) p (.ins C dx [])) ((σ ++ (tv ++ vs.map some)) ++ [some (.ref p)]) ((ρ2 ++ (tt ++ ts2)) ++ [.obj p C [] []]) := by
    refine Ok.alloc (ys := []) (us := []) (u := .obj p C [] []) (vs := []) (by rw [List.append_nil, List.append_nil]; exact e2.ok) e2.ok.len hp (fun a o z => ?_) (fun a z => ?_) (fun a o kvs z => nofrz (by intro o kvs z; cases z) a o kvs (nofrz (by intro o kvs z; cases z) a o kvs z)) (.obj (fvs := [])) upd_same rfl (fun b => Nat.le_refl _) (fun j v t h2 => by simp at h2)
    · rw [upd_ne (ne_of_none z hp), upd_ne (ne_of_none z hdx)]; exact z
    · by_cases q : a = p
      · rw [q]; exact hp
      · rw [upd_ne q] at z
        by_cases q2 : a = dx
        · rw [q2]; exact hdx
        · rw [upd_ne q2] at z; exact z
  have e4 : En Γ (upd (upd H1 dx (.own p)) p (.ins C dx [])) σ (tv ++ (V.ref p :: vs).map some) ρ2 (tt ++ (.obj p C [] [] :: ts2)) := by
    refine .of (Ok.rot (ys := vs.map some) (us := ts2) ?_ (e2.l2 lv) lv) e2.len
    simpa only [List.append_assoc] using e3
  show spD c S (V.ref p :: (vs ++ [])) _ _ E
  rw [List.append_nil]
  refine call_run e4 e.tl (fun z => x.1 (hc z)) s (fun t us v H' ⟨et, u, us', ρ3, eu, b, q⟩ e5 => ?_) (fun C' d fl ds us H' ⟨u, us', ρ3, eu, b, q⟩ e5 => ?_)
  · subst et eu
    have e5' : En Γ H' σ ((tv ++ [some (.ref p)]) ++ (vs.map some ++ [some v])) ρ2 ((tt ++ [u]) ++ (us' ++ [.sh .non])) := by simpa only [List.append_assoc, List.map_cons, List.cons_append, List.nil_append] using e5
    have lu : (vs.map some).length = us'.length := by have := e5'.tlen (by simp [e.tl]); simpa using this
    have e6 := b.run e5' (by simp [e.tl]) lu g
    have rv := e6.last
    cases rv with
    | sh rv =>
    cases rv
    exact ⟨rfl, k u ρ3 _ H' q (e6.drop (by simp [e.tl]))⟩
  · subst eu
    have e5' : En Γ H' σ ((tv ++ [some (.ref p)]) ++ (vs.map some ++ [some (.ref 0)])) ρ2 ((tt ++ [u]) ++ (us' ++ [.sh (.exc C' d fl ds)])) := by simpa only [List.append_assoc, List.map_cons, List.cons_append, List.nil_append] using e5
    have lu : (vs.map some).length = us'.length := by have := e5'.tlen (by simp [e.tl]); simpa using this
    have e6 := b.run e5' (by simp [e.tl]) lu g
    exact hE _ _ σ _ (x.2 C' d fl ds ρ3 H' q (e6.mid e.tl rfl))
end
/-! ### loops -/
structure Wk (Γ : Cg) (tv xv : List (Option V)) (tt xt : List T) (P : Env → Prop) (J : It) (its : List T) : Prop where
  go : ∀ i H σ ρ, i < its.length → P ρ → En Γ H σ (tv ++ xv) ρ (tt ++ xt) → J.go i H
  stop : ∀ H σ ρ, P ρ → En Γ H σ (tv ++ xv) ρ (tt ++ xt) → J.stop its.length H
  yld : ∀ i H σ ρ x H' zs ws, i < its.length → P ρ → En Γ H σ (tv ++ (xv ++ zs)) ρ (tt ++ (xt ++ ws)) → J.yld i H x H' → ∃ t, its[i]? = some t ∧ En Γ H' σ ((tv ++ (xv ++ zs)) ++ [some x]) ρ ((tt ++ (xt ++ ws)) ++ [t])
abbrev WI := XD → Env → (List T → (Env → Prop) → Env → Prop) → Prop
def RfI (W : Wx) (wi : TI) (w : WI) : Prop := ∀ σ H (Rr : It → Hp → Prop), (∃ (Γ : Cg) (tv : List (Option V)) (ρ : Env) (tt : List T) (χ : XD) (Q1 : List T → (Env → Prop) → Env → Prop), En Γ H σ tv ρ tt ∧ w χ ρ Q1 ∧ XOk W Γ tv tt σ χ ∧
  ∀ its P ρ' H' J xv xt, Q1 its P ρ' → En Γ H' σ (tv ++ xv) ρ' (tt ++ xt) → xv.length = xt.length → Wk Γ tv xv tt xt P J its → Rr J H') → wi σ H Rr
def wFor (wi : WI) (g : WG) (b : WS) : WS := fun k ρ => wi k.xc ρ fun its P ρ1 => ∃ I : Nat → Env → Prop, I 0 ρ1 ∧ (∀ i ρ2, I i ρ2 → P ρ2) ∧
  (∀ (i : Nat) (t : T) (ρ2 : Env), its[i]? = some t → I i ρ2 → g t ρ2 fun ρ3 => b { k with nx := fun ρ' => ∃ ρ4, Pubs ρ' ρ4 ∧ I (i + 1) ρ4, ct := fun ρ' => ∃ ρ4, Pubs ρ' ρ4 ∧ I (i + 1) ρ4, bk := k.nx } ρ3) ∧ ∀ ρ2, I its.length ρ2 → k.nx ρ2
theorem rfs_for {W : Wx} {bs : List Nat} {wi : TI} {g : TG} {tb : TS} {w : WI} {wg : WG} {wb : WS} (hi : RfI W wi w) (hg : RfG (fun k => k ∈ bs) g wg) (hb : RfS bs W tb wb) : RfS bs W (tFor wi g tb) (wFor w wg wb) := fun D σ H ⟨Γ, tv, ρ, tt, k, e, h, o⟩ => by
  refine hi σ H _ ⟨Γ, tv, ρ, tt, k.xc, _, e, h, o.x, fun its P ρ1 H1 J xv xt ⟨I, i0, hP, turn, fin⟩ e1 lx wk => ?_⟩
  have l := e.tl
  refine ⟨fun i m σ' H' => m = its.length - i ∧ i ≤ its.length ∧ ∃ ρ', I i ρ' ∧ Pn bs σ σ' ∧ En Γ H' σ' (tv ++ xv) ρ' (tt ++ xt), ⟨its.length, by simp, Nat.zero_le _, ρ1, i0, .refl _ _, e1⟩, ?_⟩
  rintro i m σ' H' ⟨rfl, hil, ρ', hI, hp, e2⟩
  by_cases hlt : i < its.length
  · refine .inr ⟨wk.go i H' σ' ρ' hlt (hP i ρ' hI) e2, fun σ2 H2 => ∃ ρ2, I (i + 1) ρ2 ∧ Pn bs σ σ2 ∧ En Γ H2 σ2 (tv ++ xv) ρ2 (tt ++ xt), fun σ2 H2 ⟨ρ2, h2, p2, e3⟩ => ⟨its.length - (i + 1), by omega, rfl, hlt, ρ2, h2, p2, e3⟩, fun x H2 y => ?_⟩
    obtain ⟨t, ht, e3⟩ := wk.yld i H' σ' ρ' x H2 [] [] hlt (hP i ρ' hI) (by rw [List.append_nil, List.append_nil]; exact e2) y
    rw [List.append_nil, List.append_nil] at e3
    refine hg Γ H2 σ' (tv ++ xv) ρ' (tt ++ xt) x t _ _ e3 (by simp [l, lx]) (turn i t ρ' ht hI) fun ρ3 σ3 H3 h3 p3 _ e4 => ?_
    have p3' : Pn bs σ σ3 := hp.trans fun j hj => p3 j hj
    refine hb _ σ3 H3 ⟨Γ, _, ρ3, _, _, e4, h3, ?_⟩
    exact ⟨fun ρ4 σ4 H4 ⟨ρ5, pb, h4⟩ p4 e5 => ⟨ρ5, h4, p3'.trans p4, e5.pubs pb⟩, fun t ρ4 v σ4 H4 h4 p4 e5 => o.rt t ρ4 v σ4 H4 h4 (p3'.trans p4) (e5.mid l lx), fun ρ4 σ4 H4 h4 p4 e5 => o.nx ρ4 σ4 H4 h4 (p3'.trans p4) (e5.drop l), fun ρ4 σ4 H4 ⟨ρ5, pb, h4⟩ p4 e5 => ⟨ρ5, h4, p3'.trans p4, e5.pubs pb⟩, fun C d fl ds ρ4 σ4 H4 h4 p4 e5 => o.xc C d fl ds ρ4 σ4 H4 h4 (p3'.trans p4) (e5.mid l lx), o.cal⟩
  · have : i = its.length := by omega
    subst this
    exact .inl ⟨wk.stop H' σ' ρ' (hP _ ρ' hI) e2, o.nx ρ' σ' H' (fin ρ' hI) hp (e2.drop l)⟩
def wWhile (c : WT) (b : WS) : WS := fun k ρ => ∃ I : Nat → Env → Prop, (∃ m, I m ρ) ∧ ∀ m ρ1, I m ρ1 → c k.xc ρ1 fun x ρ2 => if x = true then b { k with nx := fun ρ' => ∃ ρ4, Pubs ρ' ρ4 ∧ ∃ m', m' < m ∧ I m' ρ4, ct := fun ρ' => ∃ ρ4, Pubs ρ' ρ4 ∧ ∃ m', m' < m ∧ I m' ρ4, bk := k.nx } ρ2 else k.nx ρ2
theorem rfs_while {W : Wx} {bs : List Nat} {c : TT} {tb : TS} {wc : WT} {wb : WS} (hc : RfT W c wc) (hb : RfS bs W tb wb) : RfS bs W (tWhile c tb) (wWhile wc wb) := fun D σ H ⟨Γ, tv, ρ, tt, k, e, ⟨I, ⟨m0, i0⟩, turn⟩, o⟩ => by
  refine ⟨fun m σ' H' => ∃ ρ', I m ρ' ∧ Pn bs σ σ' ∧ En Γ H' σ' tv ρ' tt, ⟨m0, ρ, i0, .refl _ _, e⟩, ?_⟩
  rintro m σ' H' ⟨ρ', hI, hp, e2⟩
  refine hc σ' H' _ ⟨Γ, tv, ρ', tt, k.xc, _, e2, turn m ρ' hI, (o.at hp).x, fun b ρ2 H2 h2 e3 => ?_⟩
  cases b with
  | true =>
    refine iteT ⟨fun σ2 H2 => ∃ m', m' < m ∧ ∃ ρ2, I m' ρ2 ∧ Pn bs σ σ2 ∧ En Γ H2 σ2 tv ρ2 tt, fun σ2 H2 ⟨m', hm, h⟩ => ⟨m', hm, h⟩, hb _ σ' H2 ⟨Γ, tv, ρ2, tt, _, e3, h2, ?_⟩⟩
    exact ⟨fun ρ4 σ4 H4 ⟨ρ5, pb, m', hm, h4⟩ p4 e5 => ⟨m', hm, ρ5, h4, hp.trans p4, e5.pubs pb⟩, fun t ρ4 v σ4 H4 h4 p4 e5 => o.rt t ρ4 v σ4 H4 h4 (hp.trans p4) e5, fun ρ4 σ4 H4 h4 p4 e5 => o.nx ρ4 σ4 H4 h4 (hp.trans p4) e5, fun ρ4 σ4 H4 ⟨ρ5, pb, m', hm, h4⟩ p4 e5 => ⟨m', hm, ρ5, h4, hp.trans p4, e5.pubs pb⟩, fun C d fl ds ρ4 σ4 H4 h4 p4 e5 => o.xc C d fl ds ρ4 σ4 H4 h4 (hp.trans p4) e5, o.cal⟩
  | false => exact iteF (o.nx ρ2 σ' H2 h2 hp e3)

end E
namespace E
open PySem PySem.Spec PyProof.Rows L2 G

/-! ### ints -/
theorem En.two {Γ : Cg} {H : Hp} {σ : L2.St} {tv : List (Option V)} {ρ : Env} {tt : List T} {v1 v2 : V} {t1 t2 : T} (e : En Γ H σ (tv ++ [v1, v2].map some) ρ (tt ++ [t1, t2])) (l : tv.length = tt.length) : R H (Av Γ (ownsL (ρ ++ (tt ++ [t1, t2])))) (some v1) t1 ∧ R H (Av Γ (ownsL (ρ ++ (tt ++ [t1, t2])))) (some v2) t2 :=
  ⟨e.entry l (k := 0) rfl rfl, e.entry l (k := 1) rfl rfl⟩
def fI (C : Int → Int → Prop) (g : Int → Int → D) : Fd := fun _ as Q => ∃ a b, as = [.sh (.int a), .sh (.int b)] ∧ C a b ∧ Q (.sh (g a b))
def fI0 (g : Int → Int → D) : Fd := fun _ as Q => ∃ a b, as = [.sh (.int a), .sh (.int b)] ∧ Q (.sh (g a b))
theorem cd_I {C : Int → Int → Prop} {g : Int → Int → V} {gd : Int → Int → D} (hg : ∀ a b H A, RD H A (g a b) (gd a b)) : CbD (r2 (rI C g)) (fI C gd) := ⟨fun Γ H σ tv ρ tt vs as Q k e l ⟨a, b, ea, hc, hk⟩ q x y ev => by
  subst ea ev
  obtain ⟨r1, r2⟩ := e.two l
  cases r1 with
  | sh r1 =>
  cases r1
  cases r2 with
  | sh r2 =>
  cases r2
  exact ⟨a, b, rfl, rfl, hc, q _ _ H hk ((e.drop l).push (hg a b _ _))⟩⟩
theorem cd_I0 {g : Int → Int → V} {gd : Int → Int → D} (hg : ∀ a b H A, RD H A (g a b) (gd a b)) : CbD (r2 (rI0 g)) (fI0 gd) := ⟨fun Γ H σ tv ρ tt vs as Q k e l ⟨a, b, ea, hk⟩ q x y ev => by
  subst ea ev
  obtain ⟨r1, r2⟩ := e.two l
  cases r1 with
  | sh r1 =>
  cases r1
  cases r2 with
  | sh r2 =>
  cases r2
  exact ⟨a, b, rfl, rfl, q _ _ H hk ((e.drop l).push (hg a b _ _))⟩⟩
theorem cd_add : CbD (r2 (rI0 fun i j => .int (i + j))) (fI0 fun i j => .int (i + j)) := cd_I0 fun _ _ _ _ => .int _
theorem cd_sub : CbD (r2 (rI0 fun i j => .int (i - j))) (fI0 fun i j => .int (i - j)) := cd_I0 fun _ _ _ _ => .int _
theorem cd_lt : CbD (r2 (rI0 fun i j => .bl (decide (i < j)))) (fI0 fun i j => .bl (decide (i < j))) := cd_I0 fun _ _ _ _ => .bl _
theorem cd_le : CbD (r2 (rI0 fun i j => .bl (decide (i ≤ j)))) (fI0 fun i j => .bl (decide (i ≤ j))) := cd_I0 fun _ _ _ _ => .bl _
theorem cd_mul : CbD (r2 (rI CMul fun i j => .int (i * j))) (fI CMul fun i j => .int (i * j)) := cd_I fun _ _ _ _ => .int _
theorem cd_fdiv : CbD (r2 (rI CDiv fun i j => .int (i / j))) (fI CDiv fun i j => .int (i / j)) := cd_I fun _ _ _ _ => .int _
theorem cd_mod : CbD (r2 (rI (fun _ j => 0 < j) fun i j => .int (i % j))) (fI (fun _ j => 0 < j) fun i j => .int (i % j)) := cd_I fun _ _ _ _ => .int _
/-! ### scalars -/
def D.sv : D → Option V
  | .non => some .non
  | .bl b => some (.bl b)
  | .int i => some (.int i)
  | .str z => some (.str z)
  | _ => none
theorem RD.sv {H : Hp} {A : Addr → Prop} {v w : V} {d : D} (r : RD H A v d) (h : d.sv = some w) : v = w := by
  cases r <;> first | (cases h; rfl) | cases h
def fEq (neg : Bool) : Fd := fun _ as Q => ∃ d1 d2 v1 v2, as = [.sh d1, .sh d2] ∧ d1.sv = some v1 ∧ d2.sv = some v2 ∧ scal v1 v2 = true ∧ Q (.sh (.bl (if neg then !decide (v1 = v2) else decide (v1 = v2))))
theorem cd_eq : CbD (r2 rEq) (fEq false) := ⟨fun Γ H σ tv ρ tt vs as Q k e l ⟨d1, d2, v1, v2, ea, h1, h2, hs, hk⟩ q x y ev => by
  subst ea ev
  obtain ⟨r1, r2⟩ := e.two l
  cases r1 with
  | sh r1 =>
  cases r2 with
  | sh r2 =>
  rw [r1.sv h1, r2.sv h2]
  exact ⟨hs, q _ _ H hk ((e.drop l).push (.bl _))⟩⟩
theorem cd_ne : CbD (r2 rNe) (fEq true) := ⟨fun Γ H σ tv ρ tt vs as Q k e l ⟨d1, d2, v1, v2, ea, h1, h2, hs, hk⟩ q x y ev => by
  subst ea ev
  obtain ⟨r1, r2⟩ := e.two l
  cases r1 with
  | sh r1 =>
  cases r2 with
  | sh r2 =>
  rw [r1.sv h1, r2.sv h2]
  exact ⟨hs, q _ _ H hk ((e.drop l).push (.bl _))⟩⟩
def T.isNon : T → Bool
  | .sh .non => true
  | _ => false
theorem R.isNon {H : Hp} {A : Addr → Prop} {v : V} {t : T} (r : R H A (some v) t) (hl : t.live = true) : decide (v = .non) = t.isNon := by
  cases r with
  | no => cases hl
  | sh r => cases r <;> simp [T.isNon]
  | _ => simp [T.isNon]
def fIsN (neg : Bool) : Fd := fun _ as Q => ∃ t, as = [t, .sh .non] ∧ t.live = true ∧ Q (.sh (.bl (if neg then !t.isNon else t.isNon)))
theorem cd_isN : CbD (r2 rIsN) (fIsN false) := ⟨fun Γ H σ tv ρ tt vs as Q k e l ⟨t, ea, hl, hk⟩ q x y ev => by
  subst ea ev
  obtain ⟨r1, r2⟩ := e.two l
  cases r2 with
  | sh r2 =>
  cases r2
  exact ⟨rfl, by rw [r1.isNon hl]; exact q _ _ H hk ((e.drop l).push (.bl _))⟩⟩
theorem cd_notN : CbD (r2 rNotN) (fIsN true) := ⟨fun Γ H σ tv ρ tt vs as Q k e l ⟨t, ea, hl, hk⟩ q x y ev => by
  subst ea ev
  obtain ⟨r1, r2⟩ := e.two l
  cases r2 with
  | sh r2 =>
  cases r2
  exact ⟨rfl, by rw [r1.isNon hl]; exact q _ _ H hk ((e.drop l).push (.bl _))⟩⟩
/-! ### lists and tuples -/
def T.lstK : T → Option (List T)
  | .sh (.lst ds) => some (ds.map T.sh)
  | .lst _ xs => some xs
  | _ => none
def T.tupK : T → Option (List T)
  | .sh (.tup ds) => some (ds.map T.sh)
  | .tup xs => some xs
  | _ => none
section
variable {H : Hp} {A : Addr → Prop} {v : V} {u : T} {xs : List T}
theorem R.lstK (r : R H A (some v) u) (h : u.lstK = some xs) : ∃ a vs, v = .ref a ∧ H a = some (.lst vs) ∧ vs.length = xs.length ∧ ∀ (k : Nat) (v : V) (t : T), vs[k]? = some v → xs[k]? = some t → R H A (some v) t := by
  cases r with
  | sh r =>
    cases r with
    | lst e _ l kd => cases h; exact ⟨_, _, rfl, e, by rw [l, List.length_map], fun k v t h1 h2 => by obtain ⟨d, e1, rfl⟩ := get_map h2; exact .sh (kd k v d h1 e1)⟩
    | _ => cases h
  | lst e l kd => cases h; exact ⟨_, _, rfl, e, l, kd⟩
  | _ => cases h
theorem R.tupK (r : R H A (some v) u) (h : u.tupK = some xs) : ∃ a vs, v = .ref a ∧ H a = some (.tup vs) ∧ vs.length = xs.length ∧ ∀ (k : Nat) (v : V) (t : T), vs[k]? = some v → xs[k]? = some t → R H A (some v) t := by
  cases r with
  | sh r =>
    cases r with
    | tup e _ l kd => cases h; exact ⟨_, _, rfl, e, by rw [l, List.length_map], fun k v t h1 h2 => by obtain ⟨d, e1, rfl⟩ := get_map h2; exact .sh (kd k v d h1 e1)⟩
    | _ => cases h
  | tup e _ l kd => cases h; exact ⟨_, _, rfl, e, l, kd⟩
  | _ => cases h
end
def T.seqK (u : T) : Option (List T) := match u.lstK with
  | some xs => some xs
  | none => u.tupK
theorem R.seqK {K : PySem.W.Frag} {H : Hp} {A : Addr → Prop} {v : V} {u : T} {xs : List T} (r : R H A (some v) u) (h : u.seqK = some xs) : ∃ a vs, v = .ref a ∧ (SqL K H a vs ∨ SqT K H a vs) ∧ vs.length = xs.length ∧ ∀ (k : Nat) (v : V) (t : T), vs[k]? = some v → xs[k]? = some t → R H A (some v) t := by
  unfold T.seqK at h
  split at h
  · rename_i ys e
    cases h
    obtain ⟨a, vs, h1, h2, h3, h4⟩ := r.lstK e
    exact ⟨a, vs, h1, .inl (.inl (.inl h2)), h3, h4⟩
  · obtain ⟨a, vs, h1, h2, h3, h4⟩ := r.tupK h
    exact ⟨a, vs, h1, .inr (.inl (.inl h2)), h3, h4⟩
/-- read an item of t0 -/
def T.rdk (t0 x : T) (k : Nat) : Option T := match t0 with
  | .sh (.at _ i p) => x.rd i (p ++ [k])
  | _ => x.rd 0 []
theorem R.rdk {H : Hp} {A : Addr → Prop} {x : Option V} {t0 t u : T} {k : Nat} (r : R H A x t) (h : t0.rdk t k = some u) : ∃ v d, x = some v ∧ u = .sh d ∧ RD H A v d := by
  unfold T.rdk at h
  split at h
  · exact r.rd h
  · exact r.rd h
theorem En.one {Γ : Cg} {H : Hp} {σ : L2.St} {tv : List (Option V)} {ρ : Env} {tt : List T} {v1 : V} {t1 : T} (e : En Γ H σ (tv ++ [v1].map some) ρ (tt ++ [t1])) : R H (Av Γ (ownsL (ρ ++ (tt ++ [t1])))) (some v1) t1 := En.last e
def fLen : Fd := fun ρ as Q => ∃ t, as = [t] ∧ ∃ u, Rs ρ t u ∧ ∃ xs, u.seqK = some xs ∧ Q (.sh (.int xs.length))
theorem En.vs1 {Γ : Cg} {H : Hp} {σ : L2.St} {tv : List (Option V)} {ρ : Env} {tt : List T} {vs : List V} {t : T} (e : En Γ H σ (tv ++ vs.map some) ρ (tt ++ [t])) (l : tv.length = tt.length) : ∃ v, vs = [v] := by
  have := e.tlen l
  rw [List.length_map] at this
  match vs, this with
  | [v], _ => exact ⟨v, rfl⟩
theorem En.vs2 {Γ : Cg} {H : Hp} {σ : L2.St} {tv : List (Option V)} {ρ : Env} {tt : List T} {vs : List V} {t t' : T} (e : En Γ H σ (tv ++ vs.map some) ρ (tt ++ [t, t'])) (l : tv.length = tt.length) : ∃ v w, vs = [v, w] := by
  have := e.tlen l
  rw [List.length_map] at this
  match vs, this with
  | [v, w], _ => exact ⟨v, w, rfl⟩
theorem cd_len {K : PySem.W.Frag} : CbD (rLenQ K) fLen := ⟨fun Γ H σ tv ρ tt vs as Q k e l ⟨t, ea, u, hr, xs, hs, hk⟩ q => by
  subst ea
  obtain ⟨v, rfl⟩ := e.vs1 l
  obtain ⟨a, ws, rfl, h1, h2, _⟩ := (Rs.rep e e.one hr).seqK (K := K) hs
  exact ⟨a, ws, rfl, h1, by rw [h2]; exact q _ _ H hk ((e.drop l).push (.int _))⟩⟩
def fIxL : Fd := fun ρ as Q => ∃ t i, as = [t, .sh (.int i)] ∧ ∃ u, Rs ρ t u ∧ ∃ xs k x y, u.lstK = some xs ∧ ixN xs.length i = some k ∧ xs[k]? = some x ∧ t.rdk x k = some y ∧ Q y
def fIxT : Fd := fun ρ as Q => ∃ t i, as = [t, .sh (.int i)] ∧ ∃ u, Rs ρ t u ∧ ∃ xs k x y, u.tupK = some xs ∧ ixN xs.length i = some k ∧ xs[k]? = some x ∧ t.rdk x k = some y ∧ Q y
theorem cd_ixL {K : PySem.W.Frag} : CbD (r2 (rIxL K)) fIxL := ⟨fun Γ H σ tv ρ tt vs as Q kk e l ⟨t, i, ea, u, hr, xs, k, x, y, hs, hi, hx, hy, hk⟩ q v w ev => by
  subst ea ev
  obtain ⟨r1, r2⟩ := e.two l
  cases r2 with
  | sh r2 =>
  cases r2
  obtain ⟨a, ws, rfl, h1, h2, kd⟩ := (Rs.rep e r1 hr).lstK hs
  obtain ⟨z, hz⟩ := get_of_len h2 hx
  obtain ⟨z', d, ez, rfl, rd⟩ := (kd k z x hz hx).rdk hy
  cases ez
  exact ⟨a, ws, i, z, rfl, rfl, .inl (.inl h1), by unfold atI; rw [h2, hi]; exact hz, q _ _ H hk ((e.push rd).mid l rfl)⟩⟩
theorem cd_ixT {K : PySem.W.Frag} : CbD (r2 (rIxT K)) fIxT := ⟨fun Γ H σ tv ρ tt vs as Q kk e l ⟨t, i, ea, u, hr, xs, k, x, y, hs, hi, hx, hy, hk⟩ q v w ev => by
  subst ea ev
  obtain ⟨r1, r2⟩ := e.two l
  cases r2 with
  | sh r2 =>
  cases r2
  obtain ⟨a, ws, rfl, h1, h2, kd⟩ := (Rs.rep e r1 hr).tupK hs
  obtain ⟨z, hz⟩ := get_of_len h2 hx
  obtain ⟨z', d, ez, rfl, rd⟩ := (kd k z x hz hx).rdk hy
  cases ez
  exact ⟨a, ws, i, z, rfl, rfl, .inl (.inl h1), by unfold atI; rw [h2, hi]; exact hz, q _ _ H hk ((e.push rd).mid l rfl)⟩⟩
/-- x in xs: flat values -/
def svs : List T → Option (List V)
  | [] => some []
  | .sh d :: ts => d.sv.bind fun v => (svs ts).map (v :: ·)
  | _ :: _ => none
theorem svs_eq {H : Hp} {A : Addr → Prop} : ∀ {ts : List T} {ws vs : List V}, svs ts = some ws → vs.length = ts.length → (∀ (k : Nat) (v : V) (t : T), vs[k]? = some v → ts[k]? = some t → R H A (some v) t) → vs = ws ∧ ws.all flatV = true
  | [], ws, vs, h, l, _ => by
    cases h
    exact ⟨List.eq_nil_of_length_eq_zero l, rfl⟩
  | t :: ts, ws, vs, h, l, kd => by
    match vs, l with
    | v :: vs, l =>
    cases t with
    | sh d =>
      unfold svs at h
      cases e1 : d.sv with
      | none => rw [e1] at h; cases h
      | some w =>
      rw [e1] at h
      cases e2 : svs ts with
      | none => rw [e2] at h; cases h
      | some ws' =>
      rw [e2] at h
      cases h
      obtain ⟨i1, i2⟩ := svs_eq e2 (by simpa using l) fun k v t h1 h2 => kd (k + 1) v t (by rw [List.getElem?_cons_succ]; exact h1) (by rw [List.getElem?_cons_succ]; exact h2)
      have r0 := kd 0 v (.sh d) rfl rfl
      cases r0 with
      | sh r0 =>
      have ev := r0.sv e1
      subst ev
      refine ⟨by rw [i1], ?_⟩
      rw [List.all_cons, i2, Bool.and_true]
      cases d <;> first | (cases e1; rfl) | cases e1
    | _ => unfold svs at h; cases h
def fIn (neg : Bool) : Fd := fun ρ as Q => ∃ d t v, as = [.sh d, t] ∧ d.sv = some v ∧ ∃ u, Rs ρ t u ∧ ∃ xs ws, u.seqK = some xs ∧ svs xs = some ws ∧ Q (.sh (.bl (if neg then !inV v ws else inV v ws)))
theorem cd_in {K : PySem.W.Frag} {neg : Bool} : CbD (r2 (rIn K neg)) (fIn neg) := ⟨fun Γ H σ tv ρ tt vs as Q kk e l ⟨d, t, w, ea, hd, u, hr, xs, ws, hs, hw, hk⟩ q x y ev => by
  subst ea ev
  obtain ⟨r1, r2⟩ := e.two l
  cases r1 with
  | sh r1 =>
  have e1 := r1.sv hd
  subst e1
  obtain ⟨a, vs, rfl, h1, h2, kd⟩ := (Rs.rep e r2 hr).seqK (K := K) hs
  obtain ⟨h3, h4⟩ := svs_eq hw h2 kd
  subst h3
  refine ⟨a, vs, rfl, h1, ?_, h4, q _ _ H hk ((e.drop l).push (.bl _))⟩
  cases d <;> first | (cases hd; rfl) | cases hd⟩

end E
namespace E
open PySem PySem.Spec PyProof.Rows L2 G

section
variable {Γ : Cg} {H : Hp} {σ : L2.St} {tv ys : List (Option V)} {ρ : Env} {tt us : List T} {i : Nat} {p : List Nat} {u : T} {a : Addr}
theorem En.updN (e : En Γ H σ (tv ++ ys) ρ (tt ++ us)) (l : tv.length = tt.length) (hg : gt ρ i p = some u) (ha : u.addr = some a) :
    ∃ o vs, Nd u a o vs ∧ H a = some o ∧ vs.length = u.kids.length ∧ (∀ (k : Nat) (v : V) (t : T), vs[k]? = some v → u.kids[k]? = some t → R H (Av Γ (ownsL ((ρ ++ tt) ++ us))) (some v) t) ∧
      ∀ (o' : HO) (u' : T) (vs' : List V) (zs : List (Option V)) (ws : List T), Nd u' a o' vs' → vs'.length = u'.kids.length → zs.length = ws.length →
      (∀ b, cn b (ownsL u'.kids) + cn b (ownsL ws) ≤ cn b (ownsL u.kids) + cn b (ownsL us)) →
      (∀ (x : Option V) (t : T), ((∃ (k : Nat) (v : V), x = some v ∧ vs'[k]? = some v ∧ u'.kids[k]? = some t) ∨ ∃ k : Nat, zs[k]? = some x ∧ ws[k]? = some t) →
        (∃ (j : Nat) (v : V), x = some v ∧ vs[j]? = some v ∧ u.kids[j]? = some t) ∨ (∃ j : Nat, ys[j]? = some x ∧ us[j]? = some t) ∨ ∃ v d, x = some v ∧ t = .sh d ∧ RD H (Av Γ (ownsL ((ρ ++ tt) ++ us))) v d) →
      En Γ (L2.upd H a o') σ (tv ++ zs) (pt ρ i p u') (tt ++ ws) := by
  obtain ⟨g1, g2⟩ := gt_app (us := tt) hg
  obtain ⟨o, vs, nd, ho, lv, kd, f⟩ := Ok.upd e.as (e.l2 (e.tlen l)) g1 ha
  refine ⟨o, vs, nd, ho, lv, kd, fun o' u' vs' zs ws h1 h2 h3 h4 h5 => .of ?_ (by rw [pt_len]; exact e.len)⟩
  have := f o' u' vs' zs ws h1 h2 h3 h4 h5
  rw [g2] at this
  exact this
end
theorem one_cases {α β : Type} {k : Nat} {x y : α} {t u : β} (h1 : [x][k]? = some y) (h2 : [t][k]? = some u) : y = x ∧ u = t := by
  cases k with
  | zero => simp at h1 h2; exact ⟨h1.symm, h2.symm⟩
  | succ k => simp at h1
/-! ### append, pop -/
section
variable {W : Wx} {K : PySem.W.Frag}
def isLst (ρ : Env) (t : T) : Prop := ∃ u, Rs ρ t u ∧ ∃ xs, u.lstK = some xs
theorem isLst.run {Γ : Cg} {H : Hp} {σ : L2.St} {tv : List (Option V)} {ρ : Env} {tt : List T} {v : V} {t : T} (e : En Γ H σ (tv ++ [some v]) ρ (tt ++ [t])) (h : isLst ρ t) : tyV K "list" v H := by
  obtain ⟨u, hr, xs, hx⟩ := h
  obtain ⟨a, vs, rfl, h1, _⟩ := (Rs.rep e e.last hr).lstK hx
  exact .inl ⟨rfl, vs, .inl (.inl h1)⟩
def wApp (wa : WE) (wr : WA) : WE := fun χ ρ Q => wa χ ρ fun t0 ρ1 => isLst ρ1 t0 ∧ wr χ ρ1 fun ts ρ2 => ∃ a i p xs t, t0 = .sh (.at a i p) ∧ ts = [t] ∧ gt ρ2 i p = some (.lst a xs) ∧ xs.length < 10000 ∧ Q (.sh .non) (pt ρ2 i p (.lst a (xs ++ [t])))
theorem rf_app {ta : TE} {tr : TA} {wa : WE} {wr : WA} (ha : Rf W ta wa) (hr : RfA W tr wr) : Rf W (tBM K "list" rAppend ta tr) (wApp wa wr) := fun σ H Q ⟨Γ, tv, ρ, tt, χ, Q1, e, h, x, k⟩ => by
  refine ha σ H _ ⟨Γ, tv, ρ, tt, χ, _, e, h, x, fun t0 ρ1 v0 H1 ⟨h0, h1⟩ e1 => ⟨h0.run e1, ?_⟩⟩
  refine hr σ H1 _ ⟨Γ, _, ρ1, _, χ, _, e1, h1, x.deep e.tl rfl, fun ts ρ2 vs H2 ⟨a, i, p, xs, t, e0, et, hg, hl, h2⟩ e2 => ?_⟩
  subst e0 et
  obtain ⟨y, rfl⟩ := En.vs1 e2 (by simp [e.tl])
  rw [List.append_assoc, List.append_assoc] at e2
  have r0 := e2.entry e.tl (k := 0) rfl rfl
  cases r0 with
  | sh r0 =>
  cases r0
  obtain ⟨o, ws, nd, ho, lv, kd, f⟩ := e2.updN e.tl hg rfl
  cases nd
  refine ⟨a, ws, y, rfl, rfl, ho, szl' (by have : ws.length = xs.length := lv; omega), k _ _ _ _ h2 (f _ _ _ [some .non] [.sh .non] .lst ?_ rfl (fun b => ?_) fun z t' hz => ?_)⟩
  · have : ws.length = xs.length := lv
    simp [T.kids, this]
  · simp only [T.kids, ownsL_append, ownsL_cons, ownsL_nil, cn_app, cn_noT, List.append_nil, T.owns, List.nil_append]
    show _ + _ + 0 ≤ _
    omega
  · rcases hz with ⟨j, v, rfl, h3, h4⟩ | ⟨j, h3, h4⟩
    · simp only [T.kids] at h4
      rcases ap_cases h3 with h3 | ⟨m, rfl, hm⟩
      · have hj := (List.getElem?_eq_some_iff.mp h3).1
        have : ws.length = xs.length := lv
        rw [List.getElem?_append_left (by omega)] at h4
        exact .inl ⟨j, v, rfl, h3, h4⟩
      · have : ws.length = xs.length := lv
        rw [this, List.getElem?_append_right (by omega), Nat.add_sub_cancel_left] at h4
        obtain ⟨rfl, rfl⟩ := one_cases hm h4
        exact .inr (.inl ⟨1, rfl, rfl⟩)
    · obtain ⟨rfl, rfl⟩ := one_cases h3 h4
      exact .inr (.inr ⟨_, _, rfl, rfl, .non⟩)
/-! ### fields -/
def T.objK : T → Option (Addr × List Str × List T)
  | .sh (.obj C fs ds) => some (C, fs, ds.map T.sh)
  | .obj _ C fs xs => some (C, fs, xs)
  | _ => none
def kfind {κ : Type} [DecidableEq κ] (ks : List κ) (k : κ) : Option Nat := ks.findIdx? fun y => decide (y = k)
theorem kfind_spec {κ : Type} [DecidableEq κ] {ks : List κ} {k : κ} {n : Nat} (h : kfind ks k = some n) : ks[n]? = some k ∧ ∀ m, m < n → ks[m]? ≠ some k := by
  unfold kfind at h
  obtain ⟨hn, h1, h2⟩ := List.findIdx?_eq_some_iff_getElem.mp h
  refine ⟨by rw [List.getElem?_eq_getElem hn]; simpa using h1, fun m hm z => ?_⟩
  have := h2 m hm
  rw [List.getElem?_eq_getElem (by omega)] at z
  simp at this z
  exact this z
theorem kfind_none {κ : Type} [DecidableEq κ] {ks : List κ} {k : κ} (h : kfind ks k = none) : k ∉ ks := fun m => by
  unfold kfind at h
  rw [List.findIdx?_eq_none_iff] at h
  have := h k m
  simp at this
theorem lookup_kfind {f : Str} : ∀ {fvs : List (Str × V)} {n : Nat} {q : Str × V}, kfind (fvs.map Prod.fst) f = some n → fvs[n]? = some q → fvs.lookup f = some q.2
  | [], n, q, h, hq => by simp at hq
  | (g, x) :: r, n, q, h, hq => by
    rw [List.map_cons] at h
    unfold kfind at h
    rw [List.findIdx?_cons] at h
    by_cases c : g = f
    · subst c
      simp at h
      subst h
      simp at hq
      subst hq
      simp [List.lookup]
    · rw [if_neg (by simpa using c)] at h
      cases e : (r.map Prod.fst).findIdx? (fun y => decide (y = f)) with
      | none => rw [e] at h; cases h
      | some m =>
      rw [e] at h
      cases h
      rw [List.lookup_cons, beq_eq_false_iff_ne.mpr (Ne.symm c)]
      exact lookup_kfind e (by simpa using hq)
theorem R.objK {H : Hp} {A : Addr → Prop} {v : V} {u : T} {C : Addr} {fs : List Str} {xs : List T} (r : R H A (some v) u) (h : u.objK = some (C, fs, xs)) : ∃ a dx fvs, v = .ref a ∧ H a = some (.ins C dx fvs) ∧ fvs.map Prod.fst = fs ∧ fvs.length = xs.length ∧ ∀ (k : Nat) (q : Str × V) (t : T), fvs[k]? = some q → xs[k]? = some t → R H A (some q.2) t := by
  cases r with
  | sh r =>
    cases r with
    | obj e _ l kd => cases h; exact ⟨_, _, _, rfl, e, rfl, by rw [l, List.length_map], fun k q t h1 h2 => by obtain ⟨d, e1, rfl⟩ := get_map h2; exact .sh (kd k q d h1 e1)⟩
    | _ => cases h
  | obj e l kd => cases h; exact ⟨_, _, _, rfl, e, rfl, l, kd⟩
  | _ => cases h
def wFld (K : PySem.W.Frag) (f : Str) (wa : WE) : WE := fun χ ρ Q => wa χ ρ fun t ρ1 => ∃ u, Rs ρ1 t u ∧ ∃ C fs xs n x y, u.objK = some (C, fs, xs) ∧ (Cls K C ∧ NoAttr K C f) ∧ kfind fs f = some n ∧ xs[n]? = some x ∧ t.rdk x n = some y ∧ Q y ρ1
theorem rf_fld {f : Str} {ta : TE} {wa : WE} (ha : Rf W ta wa) : Rf W (tFld K ta f) (wFld K f wa) := fun σ H Q ⟨Γ, tv, ρ, tt, χ, Q1, e, h, x, k⟩ => by
  refine ha σ H _ ⟨Γ, tv, ρ, tt, χ, _, e, h, x, fun t ρ1 v H1 ⟨u, hr, C, fs, xs, n, z, y, hu, ⟨hc, hn⟩, hf, hz, hy, h1⟩ e1 => ?_⟩
  obtain ⟨a, dx, fvs, rfl, ea, ef, l, kd⟩ := (Rs.rep e1 e1.last hr).objK hu
  obtain ⟨q, hq⟩ := get_of_len l hz
  obtain ⟨w, d, ew, rfl, rd⟩ := (kd n q z hq hz).rdk hy
  cases ew
  exact ⟨a, C, dx, fvs, q.2, rfl, ea, hc, hn, lookup_kfind (by rw [ef]; exact hf) hq, k _ ρ1 _ H1 h1 ((e1.push rd).mid e.tl rfl)⟩
/-- f put: in its place, or at the end -/
inductive PutR {κ : Type} (ks : List κ) (xs : List T) (k : κ) (t : T) : List κ → List T → Prop
  | old {n : Nat} : ks[n]? = some k → (∀ m, ks[m]? = some k → m = n) → PutR ks xs k t ks (xs.set n t)
  | new : k ∉ ks → PutR ks xs k t (ks ++ [k]) (xs ++ [t])
theorem putF_new {f : Str} {v : V} : ∀ {fvs : List (Str × V)}, f ∉ fvs.map Prod.fst → putF f v fvs = fvs ++ [(f, v)]
  | [], _ => rfl
  | (g, x) :: r, h => by
    simp only [List.map_cons, List.mem_cons, not_or] at h
    rw [putF, if_neg (Ne.symm h.1), putF_new h.2]
    rfl
theorem putF_old {f : Str} {v : V} : ∀ {fvs : List (Str × V)} {n : Nat}, (fvs.map Prod.fst)[n]? = some f → (∀ m, (fvs.map Prod.fst)[m]? = some f → m = n) → putF f v fvs = fvs.set n (f, v)
  | [], n, h, _ => by simp at h
  | (g, x) :: r, n, h, u => by
    rw [putF]
    by_cases c : g = f
    · have : n = 0 := (u 0 (by simp [c])).symm
      subst this
      rw [if_pos c, c]
      rfl
    · rw [if_neg c]
      cases n with
      | zero => simp at h; exact absurd h c
      | succ n =>
        rw [List.set_cons_succ, putF_old (n := n) (by simpa using h) fun m hm => by have := u (m + 1) (by simpa using hm); omega]
theorem putK_old {κ : Type} [DecidableEq κ] {k : κ} {v : V} {kvs : List (κ × V)} {n : Nat} (h : (kvs.map Prod.fst)[n]? = some k) (u : ∀ m : Nat, (kvs.map Prod.fst)[m]? = some k → m = n) : putK kvs k v = kvs.set n (k, v) := by
  unfold putK
  obtain ⟨q, hq, eq⟩ := get_map h
  rw [if_pos (by rw [List.any_eq_true]; exact ⟨q, List.mem_of_getElem? hq, by simp [eq]⟩)]
  apply List.ext_getElem?
  intro m
  rw [List.getElem?_map]
  by_cases hm : n = m
  · subst hm
    rw [hq, List.getElem?_set_self (List.getElem?_eq_some_iff.mp hq).1]
    simp [eq]
  · rw [List.getElem?_set_ne hm]
    cases e : kvs[m]? with
    | none => rfl
    | some q' =>
      have : q'.1 ≠ k := fun z => hm (u m (by rw [← z]; exact map_get e)).symm
      simp [this]
theorem putK_new {κ : Type} [DecidableEq κ] {k : κ} {v : V} {kvs : List (κ × V)} (h : k ∉ kvs.map Prod.fst) : putK kvs k v = kvs ++ [(k, v)] := by
  unfold putK
  rw [if_neg]
  intro z
  rw [List.any_eq_true] at z
  obtain ⟨q, hq, e⟩ := z
  simp at e
  exact h (e ▸ List.mem_map_of_mem hq)
theorem put_cases {κ : Type} {ks ks' : List κ} {xs xs' : List T} {k : κ} {t : T} {kvs : List (κ × V)} {v : V} (h : PutR ks xs k t ks' xs') (ek : kvs.map Prod.fst = ks) (l : kvs.length = xs.length) :
    ∃ kvs' : List (κ × V), ((∃ n : Nat, ks[n]? = some k ∧ (∀ m : Nat, ks[m]? = some k → m = n) ∧ kvs' = kvs.set n (k, v)) ∨ (k ∉ ks ∧ kvs' = kvs ++ [(k, v)])) ∧ kvs'.map Prod.fst = ks' ∧ kvs'.length = xs'.length ∧ kvs'.length ≤ kvs.length + 1 ∧
      (∀ b, cn b (ownsL xs') ≤ cn b (ownsL xs) + cn b t.owns) ∧
      ∀ (j : Nat) (w : V) (u : T), (kvs'.map Prod.snd)[j]? = some w → xs'[j]? = some u → ((kvs.map Prod.snd)[j]? = some w ∧ xs[j]? = some u) ∨ (w = v ∧ u = t) := by
  cases h with
  | @old n h1 h2 =>
    have hn : n < kvs.length := by rw [← ek] at h1; have := (List.getElem?_eq_some_iff.mp h1).1; simpa using this
    refine ⟨kvs.set n (k, v), .inl ⟨n, h1, h2, rfl⟩, ?_, by simp [l], by simp, fun b => ?_, fun j w u q1 q2 => ?_⟩
    · rw [List.map_set, ek]
      apply List.ext_getElem?
      intro m
      by_cases hm : n = m
      · subst hm
        rw [List.getElem?_set_self (by rw [← ek]; simpa using hn), h1]
      · rw [List.getElem?_set_ne hm]
    · obtain ⟨x0, hx0⟩ := get_of_len (l := xs) (m := kvs) l.symm (List.getElem?_eq_getElem hn)
      have := cn_set b (u := t) hx0
      omega
    · rw [List.map_set] at q1
      by_cases hm : n = j
      · subst hm
        rw [List.getElem?_set_self (by simpa using hn)] at q1
        rw [List.getElem?_set_self (by omega)] at q2
        cases q1; cases q2
        exact .inr ⟨rfl, rfl⟩
      · rw [List.getElem?_set_ne hm] at q1 q2
        exact .inl ⟨q1, q2⟩
  | new hk =>
    refine ⟨kvs ++ [(k, v)], .inr ⟨hk, rfl⟩, by rw [List.map_append, ek]; rfl, by simp [l], by simp, fun b => by rw [ownsL_append, ownsL_one, cn_app]; exact Nat.le_refl _, fun j w u q1 q2 => ?_⟩
    rw [List.map_append] at q1
    rcases ap_cases q1 with q1 | ⟨m, rfl, hm⟩
    · have hj := (List.getElem?_eq_some_iff.mp q1).1
      rw [List.getElem?_append_left (by rw [List.length_map] at hj; omega)] at q2
      exact .inl ⟨q1, q2⟩
    · rw [List.length_map, l, List.getElem?_append_right (by omega), Nat.add_sub_cancel_left] at q2
      obtain ⟨rfl, rfl⟩ := one_cases hm q2
      exact .inr ⟨rfl, rfl⟩
def wSFld (K : PySem.W.Frag) (f : Str) (wa wv : WE) : WS := fun k ρ => wv k.xc ρ fun t10 ρ1 => ∃ t1, (t1 = t10 ∨ ∃ d, t10.pub = some d ∧ t1 = .sh d) ∧ wa k.xc ρ1 fun t0 ρ2 => ∃ a i p C fs xs fs' xs', t0 = .sh (.at a i p) ∧ gt ρ2 i p = some (.obj a C fs xs) ∧ (Cls K C ∧ NoAttr K C f) ∧ fs.length < 900 ∧ PutR fs xs f t1 fs' xs' ∧ k.nx (pt ρ2 i p (.obj a C fs' xs'))
theorem rfs_fld {bs : List Nat} {f : Str} {ta tv' : TE} {wa wv : WE} (ha : Rf W ta wa) (hv : Rf W tv' wv) : RfS bs W (sFld K ta tv' f) (wSFld K f wa wv) := fun D σ H ⟨Γ, tv, ρ, tt, k, e, h, o⟩ => by
  refine hv σ H _ ⟨Γ, tv, ρ, tt, k.xc, _, e, h, o.x, fun t10 ρ1 v1 H1 ⟨t1, hpt, h1⟩ e10 => ?_⟩
  have e1 : En Γ H1 σ (tv ++ [some v1]) ρ1 (tt ++ [t1]) := by
    rcases hpt with rfl | ⟨d, hd, rfl⟩
    · exact e10
    · exact e10.pubT e.tl hd
  refine ha σ H1 _ ⟨Γ, _, ρ1, _, k.xc, _, e1, h1, o.x.deep e.tl rfl, fun t0 ρ2 v0 H2 ⟨a, i, p, C, fs, xs, fs', xs', e0, hg, ⟨hc, hn⟩, hl, hp, h2⟩ e2 => ?_⟩
  subst e0
  rw [List.append_assoc, List.append_assoc] at e2
  have r0 := e2.entry e.tl (k := 1) rfl rfl
  cases r0 with
  | sh r0 =>
  cases r0
  obtain ⟨oo, ws, nd, ho, lv, kd, g⟩ := e2.updN e.tl hg rfl
  cases nd with
  | @obj _ _ dx _ fvs =>
  have lv' : fvs.length = xs.length := by simpa [T.kids] using lv
  obtain ⟨fvs', hcase, e3, l3, l4, hcn, hsrc⟩ := put_cases (v := v1) hp rfl lv'
  have epf : putF f v1 fvs = fvs' := by
    rcases hcase with ⟨n, q1, q2, rfl⟩ | ⟨q, rfl⟩
    · exact putF_old q1 q2
    · exact putF_new q
  rw [List.length_map] at hl
  refine ⟨a, C, dx, fvs, rfl, ho, hc, hn, by omega, ?_⟩
  rw [epf]
  subst e3
  refine o.nx _ σ _ h2 (.refl _ _) ?_
  have := g (.ins C dx fvs') (.obj a C (fvs'.map Prod.fst) xs') (fvs'.map Prod.snd) [] [] .obj (by simp [T.kids, l3]) rfl (fun b => ?_) (fun z t' hz => ?_)
  · rw [List.append_nil, List.append_nil] at this; exact this
  · have := hcn b
    simp only [T.kids, List.singleton_append, ownsL_cons, ownsL_nil, cn_app, cn_noT, List.append_nil]
    show _ + 0 ≤ _
    omega
  · rcases hz with ⟨j, v, rfl, q1, q2⟩ | ⟨j, q1, q2⟩
    · rcases hsrc j v t' q1 q2 with ⟨z1, z2⟩ | ⟨rfl, rfl⟩
      · exact .inl ⟨j, v, rfl, z1, z2⟩
      · exact .inr (.inl ⟨0, rfl, rfl⟩)
    · simp at q1
/-! ### dicts -/
def T.dictK : T → Option (List Key × List T)
  | .sh (.dK ks ds) => some (ks, ds.map T.sh)
  | .dK _ ks xs => some (ks, xs)
  | _ => none
theorem R.dictK {H : Hp} {A : Addr → Prop} {v : V} {u : T} {ks : List Key} {xs : List T} (r : R H A (some v) u) (h : u.dictK = some (ks, xs)) : ∃ a kvs, v = .ref a ∧ Rd H a (.dK kvs) ∧ kvs.map Prod.fst = ks ∧ kvs.length = xs.length ∧ ∀ (k : Nat) (q : Key × V) (t : T), kvs[k]? = some q → xs[k]? = some t → R H A (some q.2) t := by
  cases r with
  | sh r =>
    cases r with
    | dK e _ l kd => cases h; exact ⟨_, _, rfl, e, rfl, by rw [l, List.length_map], fun k q t h1 h2 => by obtain ⟨d, e1, rfl⟩ := get_map h2; exact .sh (kd k q d h1 e1)⟩
    | _ => cases h
  | dK e l kd => cases h; exact ⟨_, _, rfl, .inl e, rfl, l, kd⟩
  | _ => cases h
def D.key : D → Option Key
  | .int i => some (.inl i)
  | .str z => some (.inr z)
  | _ => none
theorem RD.key {H : Hp} {A : Addr → Prop} {v : V} {d : D} {k : Key} (r : RD H A v d) (h : d.key = some k) : v = kV k := by
  cases r <;> first | (cases h; rfl) | cases h
theorem valV_kfind {κ : Type} [DecidableEq κ] {k : κ} {kvs : List (κ × V)} {n : Nat} {q : κ × V} (h : kfind (kvs.map Prod.fst) k = some n) (hq : kvs[n]? = some q) : valV kvs k = some q.2 := by
  obtain ⟨h1, h2⟩ := kfind_spec h
  unfold valV
  obtain ⟨q', hq', e'⟩ := get_map h1
  rw [hq] at hq'
  cases hq'
  have hn := (List.getElem?_eq_some_iff.mp hq).1
  have : kvs.find? (fun kv => decide (kv.1 = k)) = some q := by
    rw [List.find?_eq_some_iff_getElem]
    refine ⟨by simp [e'], n, hn, (List.getElem?_eq_some_iff.mp hq).2, fun j hj => ?_⟩
    have hz := h2 j hj
    simp only [Bool.not_eq_true', decide_eq_false_iff_not]
    intro z
    exact hz (by rw [← z]; exact map_get (List.getElem?_eq_getElem (by omega)))
  rw [this]
  rfl
theorem valV_no' {κ : Type} [DecidableEq κ] {k : κ} {kvs : List (κ × V)} (h : kfind (kvs.map Prod.fst) k = none) : valV kvs k = none := valV_no (kfind_none h)
def wDGet (wd wk : WE) : WE := fun χ ρ Q => wd χ ρ fun t ρ1 => wk χ ρ1 fun tk ρ2 => ∃ u, Rs ρ2 t u ∧ ∃ ks xs d k n x y, u.dictK = some (ks, xs) ∧ tk = .sh d ∧ d.key = some k ∧ kfind ks k = some n ∧ xs[n]? = some x ∧ t.rdk x n = some y ∧ Q y ρ2
theorem rf_dget {td ty : TE} {wd wk : WE} (hd : Rf W td wd) (hk : Rf W ty wk) : Rf W (tDGet td ty) (wDGet wd wk) := fun σ H Q ⟨Γ, tv, ρ, tt, χ, Q1, e, h, x, k⟩ => by
  refine hd σ H _ ⟨Γ, tv, ρ, tt, χ, _, e, h, x, fun t ρ1 v1 H1 h1 e1 => ?_⟩
  refine hk σ H1 _ ⟨Γ, _, ρ1, _, χ, _, e1, h1, x.deep e.tl rfl, fun tk ρ2 v2 H2 ⟨u, hr, ks, xs, d, ky, n, z, y, hu, etk, hky, hn, hz, hy, h2⟩ e2 => ?_⟩
  subst etk
  rw [List.append_assoc, List.append_assoc] at e2
  have r1 := e2.entry e.tl (k := 0) rfl rfl
  have r2 := e2.entry e.tl (k := 1) rfl rfl
  cases r2 with
  | sh r2 =>
  obtain ⟨a, kvs, rfl, ea, ek, l, kd⟩ := (Rs.rep e2 r1 hr).dictK hu
  obtain ⟨q, hq⟩ := get_of_len l hz
  obtain ⟨w, d', ew, rfl, rd⟩ := (kd n q z hq hz).rdk hy
  cases ew
  exact ⟨a, q.2, rfl, .inl ⟨kvs, ky, ea, r2.key hky, (valV_kfind (by rw [ek]; exact hn) hq).symm⟩, k _ ρ2 _ H2 h2 ((e2.push rd).mid e.tl rfl)⟩
def wDIn (neg : Bool) (wk wd : WE) : WE := fun χ ρ Q => wk χ ρ fun tk ρ1 => wd χ ρ1 fun t ρ2 => ∃ u, Rs ρ2 t u ∧ ∃ ks xs d k, u.dictK = some (ks, xs) ∧ tk = .sh d ∧ d.key = some k ∧ Q (.sh (.bl (if neg then !(kfind ks k).isSome else (kfind ks k).isSome))) ρ2
theorem dget_opt {H : Hp} {a : Addr} {kvs : List (Key × V)} {k : Key} (e : Rd H a (.dK kvs)) : ∃ o, DGet H a (kV k) o ∧ o.isSome = (kfind (kvs.map Prod.fst) k).isSome := by
  cases c : kfind (kvs.map Prod.fst) k with
  | none => exact ⟨none, .inl ⟨kvs, k, e, rfl, (valV_no' c).symm⟩, rfl⟩
  | some n =>
    obtain ⟨h1, _⟩ := kfind_spec c
    obtain ⟨q, hq, _⟩ := get_map h1
    exact ⟨some q.2, .inl ⟨kvs, k, e, rfl, (valV_kfind c hq).symm⟩, rfl⟩
theorem rf_din {td ty : TE} {wd wk : WE} (hk : Rf W ty wk) (hd : Rf W td wd) : Rf W (tDIn ty td) (wDIn false wk wd) := fun σ H Q ⟨Γ, tv, ρ, tt, χ, Q1, e, h, x, k⟩ => by
  refine hk σ H _ ⟨Γ, tv, ρ, tt, χ, _, e, h, x, fun tk ρ1 v1 H1 h1 e1 => ?_⟩
  refine hd σ H1 _ ⟨Γ, _, ρ1, _, χ, _, e1, h1, x.deep e.tl rfl, fun t ρ2 v2 H2 ⟨u, hr, ks, xs, d, ky, hu, etk, hky, h2⟩ e2 => ?_⟩
  subst etk
  rw [List.append_assoc, List.append_assoc] at e2
  have r1 := e2.entry e.tl (k := 0) rfl rfl
  have r2 := e2.entry e.tl (k := 1) rfl rfl
  cases r1 with
  | sh r1 =>
  obtain ⟨a, kvs, rfl, ea, ek, l, kd⟩ := (Rs.rep e2 r2 hr).dictK hu
  obtain ⟨o, ho, hs⟩ := dget_opt (k := ky) ea
  refine ⟨a, o, rfl, by rw [r1.key hky]; exact ho, ?_⟩
  rw [hs, ek]
  exact k _ ρ2 _ H2 h2 ((e2.drop e.tl).push (.bl _))
theorem rf_dnotin {td ty : TE} {wd wk : WE} (hk : Rf W ty wk) (hd : Rf W td wd) : Rf W (tDNotIn ty td) (wDIn true wk wd) := fun σ H Q ⟨Γ, tv, ρ, tt, χ, Q1, e, h, x, k⟩ => by
  refine hk σ H _ ⟨Γ, tv, ρ, tt, χ, _, e, h, x, fun tk ρ1 v1 H1 h1 e1 => ?_⟩
  refine hd σ H1 _ ⟨Γ, _, ρ1, _, χ, _, e1, h1, x.deep e.tl rfl, fun t ρ2 v2 H2 ⟨u, hr, ks, xs, d, ky, hu, etk, hky, h2⟩ e2 => ?_⟩
  subst etk
  rw [List.append_assoc, List.append_assoc] at e2
  have r1 := e2.entry e.tl (k := 0) rfl rfl
  have r2 := e2.entry e.tl (k := 1) rfl rfl
  cases r1 with
  | sh r1 =>
  obtain ⟨a, kvs, rfl, ea, ek, l, kd⟩ := (Rs.rep e2 r2 hr).dictK hu
  obtain ⟨o, ho, hs⟩ := dget_opt (k := ky) ea
  refine ⟨a, o, rfl, by rw [r1.key hky]; exact ho, ?_⟩
  rw [hs, ek]
  exact k _ ρ2 _ H2 h2 ((e2.drop e.tl).push (.bl _))
def wDPut (wd wk wv : WE) : WS := fun k ρ => wv k.xc ρ fun t1 ρ1 => wd k.xc ρ1 fun t0 ρ2 => wk k.xc ρ2 fun tk ρ3 => ∃ a i p ks xs d ky ks' xs', t0 = .sh (.at a i p) ∧ tk = .sh d ∧ d.key = some ky ∧ gt ρ3 i p = some (.dK a ks xs) ∧ ks.length < 10000 ∧ PutR ks xs ky t1 ks' xs' ∧ k.nx (pt ρ3 i p (.dK a ks' xs'))
theorem rfs_dput {bs : List Nat} {td ty tv' : TE} {wd wk wv : WE} (hd : Rf W td wd) (hk : Rf W ty wk) (hv : Rf W tv' wv) : RfS bs W (sDPut td ty tv') (wDPut wd wk wv) := fun D σ H ⟨Γ, tv, ρ, tt, k, e, h, o⟩ => by
  refine hv σ H _ ⟨Γ, tv, ρ, tt, k.xc, _, e, h, o.x, fun t1 ρ1 v1 H1 h1 e1 => ?_⟩
  refine hd σ H1 _ ⟨Γ, _, ρ1, _, k.xc, _, e1, h1, o.x.deep e.tl rfl, fun t0 ρ2 v0 H2 h2 e2 => ?_⟩
  refine hk σ H2 _ ⟨Γ, _, ρ2, _, k.xc, _, e2, h2, (o.x.deep e.tl rfl).deep (by simp [e.tl]) rfl, fun tk ρ3 v3 H3 ⟨a, i, p, ks, xs, d, ky, ks', xs', e0, etk, hky, hg, hl, hp, h3⟩ e3 => ?_⟩
  subst e0 etk
  rw [List.append_assoc, List.append_assoc, List.append_assoc, List.append_assoc] at e3
  have r0 := e3.entry e.tl (k := 1) rfl rfl
  have r1 := e3.entry e.tl (k := 2) rfl rfl
  cases r0 with
  | sh r0 =>
  cases r0
  cases r1 with
  | sh r1 =>
  obtain ⟨oo, ws, nd, ho, lv, kd, g⟩ := e3.updN e.tl hg rfl
  cases nd with
  | @dK _ _ kvs =>
  have lv' : kvs.length = xs.length := by simpa [T.kids] using lv
  obtain ⟨kvs', hcase, e4, l3, l4, hcn, hsrc⟩ := put_cases (v := v1) hp rfl lv'
  have epf : putK kvs ky v1 = kvs' := by
    rcases hcase with ⟨n, q1, q2, rfl⟩ | ⟨q, rfl⟩
    · exact putK_old q1 q2
    · exact putK_new q
  rw [List.length_map] at hl
  refine ⟨a, _, rfl, by rw [r1.key hky]; exact DPut.k ho (szl' hl), ?_⟩
  rw [epf]
  subst e4
  refine o.nx _ σ _ h3 (.refl _ _) ?_
  have := g (.dK kvs') (.dK a (kvs'.map Prod.fst) xs') (kvs'.map Prod.snd) [] [] .dK (by simp [T.kids, l3]) rfl (fun b => ?_) (fun z t' hz => ?_)
  · rw [List.append_nil, List.append_nil] at this; exact this
  · have := hcn b
    simp only [T.kids, List.singleton_append, List.cons_append, List.nil_append, ownsL_cons, ownsL_nil, cn_app, cn_noT, List.append_nil]
    show _ + 0 ≤ _
    omega
  · rcases hz with ⟨j, v, rfl, q1, q2⟩ | ⟨j, q1, q2⟩
    · rcases hsrc j v t' q1 q2 with ⟨z1, z2⟩ | ⟨rfl, rfl⟩
      · exact .inl ⟨j, v, rfl, z1, z2⟩
      · exact .inr (.inl ⟨0, rfl, rfl⟩)
    · simp at q1
end

end E
namespace E
open PySem PySem.Spec PyProof.Rows L2 G

section
variable {W : Wx} {K : PySem.W.Frag}
theorem sh_item {H : Hp} {A : Addr → Prop} {vs : List V} {xs : List T} {ds : List D} (hs : allSh xs = some ds) (l : vs.length = xs.length) (kd : ∀ (k : Nat) (v : V) (t : T), vs[k]? = some v → xs[k]? = some t → R H A (some v) t) {i : Nat} {x : V} (hx : vs[i]? = some x) : ∃ d, ds[i]? = some d ∧ RD H A x d := by
  have e := allSh_eq hs
  subst e
  obtain ⟨d, hd⟩ := get_of_len (l := ds) (m := vs) (by rw [l, List.length_map]) hx
  have r := kd i x (.sh d) hx (map_get hd)
  cases r with
  | sh r => exact ⟨d, hd, r⟩
def wiList (wa : WE) : WI := fun χ ρ Q => wa χ ρ fun t ρ1 => ∃ u, Rs ρ1 t u ∧ ∃ xs ds, u.lstK = some xs ∧ allSh xs = some ds ∧ Q (ds.map T.sh) (fun ρ => Rs ρ t u) ρ1
def wiTup (wa : WE) : WI := fun χ ρ Q => wa χ ρ fun t ρ1 => ∃ u, Rs ρ1 t u ∧ ∃ xs ds, u.tupK = some xs ∧ allSh xs = some ds ∧ Q (ds.map T.sh) (fun ρ => Rs ρ t u) ρ1
theorem rfi_list {ta : TE} {wa : WE} (ha : Rf W ta wa) : RfI W (iList K ta) (wiList wa) := fun σ H Rr ⟨Γ, tv, ρ, tt, χ, Q1, e, h, x, k⟩ => by
  refine ha σ H _ ⟨Γ, tv, ρ, tt, χ, _, e, h, x, fun t ρ1 v H1 ⟨u, hr, xs, ds, hu, hs, h1⟩ e1 => ?_⟩
  have lx : xs.length = ds.length := by rw [allSh_eq hs, List.length_map]
  obtain ⟨a, vs, rfl, ea, l, kd⟩ := (Rs.rep e1 e1.last hr).lstK hu
  refine ⟨a, rfl, ⟨vs, .inl (.inl ea)⟩, k _ _ ρ1 H1 (Itl K a) [some (.ref a)] [t] h1 e1 rfl ⟨fun i H σ ρ hi hp e2 => ?_, fun H σ ρ hp e2 => ?_, fun i H σ ρ y H' zs ws' hi hp e2 hy => ?_⟩⟩
  · obtain ⟨a', ws, ea', h2, l2, _⟩ := (Rs.rep e2 e2.last hp).lstK hu
    cases ea'
    rw [List.length_map] at hi
    exact ⟨ws, ws[i]'(by omega), .inl (.inl h2), List.getElem?_eq_getElem _⟩
  · obtain ⟨a', ws, ea', h2, l2, _⟩ := (Rs.rep e2 e2.last hp).lstK hu
    cases ea'
    exact ⟨ws, .inl (.inl h2), by rw [List.length_map]; omega⟩
  · obtain ⟨a', ws, ea', h2, l2, kd2⟩ := (Rs.rep e2 (e2.entry e.tl (k := 0) rfl rfl) hp).lstK hu
    cases ea'
    obtain ⟨rfl, hy⟩ := hy
    obtain ⟨d, hd, rd⟩ := sh_item hs l2 kd2 (hy ws (.inl (.inl h2)))
    exact ⟨.sh d, map_get hd, e2.push rd⟩
theorem rfi_tup {ta : TE} {wa : WE} (ha : Rf W ta wa) : RfI W (iTup K ta) (wiTup wa) := fun σ H Rr ⟨Γ, tv, ρ, tt, χ, Q1, e, h, x, k⟩ => by
  refine ha σ H _ ⟨Γ, tv, ρ, tt, χ, _, e, h, x, fun t ρ1 v H1 ⟨u, hr, xs, ds, hu, hs, h1⟩ e1 => ?_⟩
  have lx : xs.length = ds.length := by rw [allSh_eq hs, List.length_map]
  obtain ⟨a, vs, rfl, ea, l, kd⟩ := (Rs.rep e1 e1.last hr).tupK hu
  refine ⟨a, rfl, ⟨vs, .inl (.inl ea)⟩, k _ _ ρ1 H1 (Itt K a) [some (.ref a)] [t] h1 e1 rfl ⟨fun i H σ ρ hi hp e2 => ?_, fun H σ ρ hp e2 => ?_, fun i H σ ρ y H' zs ws' hi hp e2 hy => ?_⟩⟩
  · obtain ⟨a', ws, ea', h2, l2, _⟩ := (Rs.rep e2 e2.last hp).tupK hu
    cases ea'
    rw [List.length_map] at hi
    exact ⟨ws, ws[i]'(by omega), .inl (.inl h2), List.getElem?_eq_getElem _⟩
  · obtain ⟨a', ws, ea', h2, l2, _⟩ := (Rs.rep e2 e2.last hp).tupK hu
    cases ea'
    exact ⟨ws, .inl (.inl h2), by rw [List.length_map]; omega⟩
  · obtain ⟨a', ws, ea', h2, l2, kd2⟩ := (Rs.rep e2 (e2.entry e.tl (k := 0) rfl rfl) hp).tupK hu
    cases ea'
    obtain ⟨rfl, hy⟩ := hy
    obtain ⟨d, hd, rd⟩ := sh_item hs l2 kd2 (hy ws (.inl (.inl h2)))
    exact ⟨.sh d, map_get hd, e2.push rd⟩
def wiSeq (wa : WE) : WI := fun χ ρ Q => wiList wa χ ρ Q ∨ wiTup wa χ ρ Q
theorem rfi_seq {ta : TE} {wa : WE} (ha : Rf W ta wa) : RfI W (iSeq K ta) (wiSeq wa) := fun σ H Rr ⟨Γ, tv, ρ, tt, χ, Q1, e, h, x, k⟩ => h.elim (fun h => .inl (rfi_list ha σ H Rr ⟨Γ, tv, ρ, tt, χ, Q1, e, h, x, k⟩)) fun h => .inr (rfi_tup ha σ H Rr ⟨Γ, tv, ρ, tt, χ, Q1, e, h, x, k⟩)
def rngT (lo : Int) (n : Nat) : List T := (List.range n).map fun k => .sh (.int (lo + (k : Nat)))
theorem wk_rng {Γ : Cg} {tv : List (Option V)} {tt : List T} {lo : Int} {n : Nat} (l : tv.length = tt.length) : Wk Γ tv [] tt [] (fun _ => True) (Itr lo n) (rngT lo n) := by
  have ln : (rngT lo n).length = n := by simp [rngT]
  refine ⟨fun i H σ ρ hi _ _ => by rw [ln] at hi; exact hi, fun H σ ρ _ _ => by rw [ln]; exact Nat.le_refl _, fun i H σ ρ y H' zs ws hi _ e hy => ?_⟩
  obtain ⟨rfl, rfl⟩ := hy
  rw [ln] at hi
  refine ⟨.sh (.int (lo + i)), ?_, e.push (.int _)⟩
  unfold rngT
  rw [List.getElem?_map, List.getElem?_range hi]
  rfl
def wiRng1 (wa : WA) : WI := fun χ ρ Q => wa χ ρ fun ts ρ1 => ∃ j : Int, ts = [.sh (.int j)] ∧ (-(2 ^ 62) ≤ j ∧ j < 2 ^ 62) ∧ Q (rngT 0 j.toNat) (fun _ => True) ρ1
def wiRng2 (wa : WA) : WI := fun χ ρ Q => wa χ ρ fun ts ρ1 => ∃ i j : Int, ts = [.sh (.int i), .sh (.int j)] ∧ (-(2 ^ 62) ≤ i ∧ i < 2 ^ 62 ∧ -(2 ^ 62) ≤ j ∧ j < 2 ^ 62) ∧ Q (rngT i (j - i).toNat) (fun _ => True) ρ1
theorem rfi_rng1 {ta : TA} {wa : WA} (ha : RfA W ta wa) : RfI W (iRng1 ta) (wiRng1 wa) := fun σ H Rr ⟨Γ, tv, ρ, tt, χ, Q1, e, h, x, k⟩ => by
  refine ha σ H _ ⟨Γ, tv, ρ, tt, χ, _, e, h, x, fun ts ρ1 vs H1 ⟨j, et, ⟨b1, b2⟩, h1⟩ e1 => ?_⟩
  subst et
  obtain ⟨v, rfl⟩ := e1.vs1 e.tl
  have r := e1.one
  cases r with
  | sh r =>
  cases r
  exact ⟨j, rfl, b1, b2, k _ _ ρ1 H1 _ [] [] h1 (by rw [List.append_nil, List.append_nil]; exact e1.drop e.tl) rfl (wk_rng e.tl)⟩
theorem rfi_rng2 {ta : TA} {wa : WA} (ha : RfA W ta wa) : RfI W (iRng2 ta) (wiRng2 wa) := fun σ H Rr ⟨Γ, tv, ρ, tt, χ, Q1, e, h, x, k⟩ => by
  refine ha σ H _ ⟨Γ, tv, ρ, tt, χ, _, e, h, x, fun ts ρ1 vs H1 ⟨i, j, et, bb, h1⟩ e1 => ?_⟩
  subst et
  obtain ⟨v, w, rfl⟩ := e1.vs2 e.tl
  obtain ⟨r1, r2⟩ := e1.two e.tl
  cases r1 with
  | sh r1 =>
  cases r1
  cases r2 with
  | sh r2 =>
  cases r2
  exact ⟨i, j, rfl, bb, k _ _ ρ1 H1 _ [] [] h1 (by rw [List.append_nil, List.append_nil]; exact e1.drop e.tl) rfl (wk_rng e.tl)⟩
def wiStr (wa : WE) : WI := fun χ ρ Q => wa χ ρ fun t ρ1 => ∃ z : Str, t = .sh (.str z) ∧ Q (z.cps.toList.map fun c => .sh (.str ⟨#[c]⟩)) (fun _ => True) ρ1
theorem rfi_str {ta : TE} {wa : WE} (ha : Rf W ta wa) : RfI W (iStr ta) (wiStr wa) := fun σ H Rr ⟨Γ, tv, ρ, tt, χ, Q1, e, h, x, k⟩ => by
  refine ha σ H _ ⟨Γ, tv, ρ, tt, χ, _, e, h, x, fun t ρ1 v H1 ⟨z, et, h1⟩ e1 => ?_⟩
  subst et
  have r := e1.last
  cases r with
  | sh r =>
  cases r
  have w := walk_str (z := z)
  refine ⟨z, rfl, k _ _ ρ1 H1 _ [] [] h1 (by rw [List.append_nil, List.append_nil]; exact e1.drop e.tl) rfl ⟨fun i H σ ρ hi _ _ => w.goes i H (by simpa using hi) True.intro, fun H σ ρ _ _ => by simpa using w.stops H True.intro, fun i H σ ρ y H' zs ws hi _ e2 hy => ?_⟩⟩
  obtain ⟨rfl, c, hc, rfl⟩ := w.yields i H y H' (by simpa using hi) True.intro hy
  exact ⟨.sh (.str ⟨#[c]⟩), by rw [List.getElem?_map]; simp [hc], e2.push (.str _)⟩
/-! ### enumerate -/
def enumT (ds : List D) : List T := ds.zipIdx.map fun p => .sh (.tup [.int (p.2 : Nat), p.1])
theorem enumT_len (ds : List D) : (enumT ds).length = ds.length := by simp [enumT]
theorem enumT_get {ds : List D} {i : Nat} {d : D} (h : ds[i]? = some d) : (enumT ds)[i]? = some (.sh (.tup [.int (i : Nat), d])) := by
  unfold enumT
  rw [List.getElem?_map, List.getElem?_zipIdx, h]
  simp
theorem En.pair {Γ : Cg} {H : Hp} {σ : L2.St} {tv : List (Option V)} {ρ : Env} {tt : List T} {x y : V} {d d' : D} {q : Addr} (e : En Γ H σ tv ρ tt) (r : RD H (Av Γ (ownsL (ρ ++ tt))) x d) (r' : RD H (Av Γ (ownsL (ρ ++ tt))) y d') (hq : H q = none) : En Γ (upd H q (.tup [x, y])) σ (tv ++ [some (.ref q)]) ρ (tt ++ [.sh (.tup [d, d'])]) := by
  have e1 := e.push r
  have e2 := e1.push (d := d') (v := y) (r'.mono fun b o av hb => ⟨.of hb hb, by
    have : ownsL (ρ ++ (tt ++ [T.sh d])) = ownsL (ρ ++ tt) := by simp only [ownsL_append, ownsL_one, T.owns, List.append_nil]
    rw [this]; exact av⟩)
  rw [List.append_assoc, List.append_assoc] at e2
  exact .of (Ok.tup (vs := [x, y]) (us := [.sh d, .sh d']) e2.as (e2.l2 rfl) hq) e2.len
def wiEnum (wa : WA) : WI := fun χ ρ Q => wa χ ρ fun ts ρ1 => ∃ t, ts = [t] ∧ ∃ u, Rs ρ1 t u ∧ ∃ xs ds, u.lstK = some xs ∧ allSh xs = some ds ∧ Q (enumT ds) (fun ρ => Rs ρ t u) ρ1
def wiEnumT (wa : WA) : WI := fun χ ρ Q => wa χ ρ fun ts ρ1 => ∃ t, ts = [t] ∧ ∃ u, Rs ρ1 t u ∧ ∃ xs ds, u.tupK = some xs ∧ allSh xs = some ds ∧ Q (enumT ds) (fun ρ => Rs ρ t u) ρ1
theorem rfi_enum {ta : TA} {wa : WA} (ha : RfA W ta wa) : RfI W (iEnum K ta) (wiEnum wa) := fun σ H Rr ⟨Γ, tv, ρ, tt, χ, Q1, e, h, x, k⟩ => by
  refine ha σ H _ ⟨Γ, tv, ρ, tt, χ, _, e, h, x, fun ts ρ1 vs H1 ⟨t, et, u, hr, xs, ds, hu, hs, h1⟩ e1 => ?_⟩
  subst et
  obtain ⟨v, rfl⟩ := e1.vs1 e.tl
  have lx : xs.length = ds.length := by rw [allSh_eq hs, List.length_map]
  obtain ⟨a, vs, rfl, ea, l, kd⟩ := (Rs.rep e1 e1.one hr).lstK hu
  refine ⟨a, vs, rfl, .inl (.inl ea), k _ _ ρ1 H1 (Ite K a) [some (.ref a)] [t] h1 e1 rfl ⟨fun i H σ ρ hi hp e2 => ?_, fun H σ ρ hp e2 => ?_, fun i H σ ρ y H' zs ws' hi hp e2 hy => ?_⟩⟩
  · obtain ⟨a', ws, ea', h2, l2, _⟩ := (Rs.rep e2 e2.last hp).lstK hu
    cases ea'
    rw [enumT_len] at hi
    exact ⟨ws, ws[i]'(by omega), .inl (.inl h2), List.getElem?_eq_getElem _⟩
  · obtain ⟨a', ws, ea', h2, l2, _⟩ := (Rs.rep e2 e2.last hp).lstK hu
    cases ea'
    exact ⟨ws, .inl (.inl h2), by rw [enumT_len]; omega⟩
  · obtain ⟨a', ws, ea', h2, l2, kd2⟩ := (Rs.rep e2 (e2.entry e.tl (k := 0) rfl rfl) hp).lstK hu
    cases ea'
    obtain ⟨q, y', rfl, hq, rfl, hy⟩ := hy
    obtain ⟨d, hd, rd⟩ := sh_item hs l2 kd2 (hy ws (.inl (.inl h2)))
    exact ⟨_, enumT_get hd, e2.pair (.int _) rd hq⟩
theorem rfi_enumT {ta : TA} {wa : WA} (ha : RfA W ta wa) : RfI W (iEnumT K ta) (wiEnumT wa) := fun σ H Rr ⟨Γ, tv, ρ, tt, χ, Q1, e, h, x, k⟩ => by
  refine ha σ H _ ⟨Γ, tv, ρ, tt, χ, _, e, h, x, fun ts ρ1 vs H1 ⟨t, et, u, hr, xs, ds, hu, hs, h1⟩ e1 => ?_⟩
  subst et
  obtain ⟨v, rfl⟩ := e1.vs1 e.tl
  have lx : xs.length = ds.length := by rw [allSh_eq hs, List.length_map]
  obtain ⟨a, vs, rfl, ea, l, kd⟩ := (Rs.rep e1 e1.one hr).tupK hu
  refine ⟨a, vs, rfl, .inl (.inl ea), k _ _ ρ1 H1 (ItE K a) [some (.ref a)] [t] h1 e1 rfl ⟨fun i H σ ρ hi hp e2 => ?_, fun H σ ρ hp e2 => ?_, fun i H σ ρ y H' zs ws' hi hp e2 hy => ?_⟩⟩
  · obtain ⟨a', ws, ea', h2, l2, _⟩ := (Rs.rep e2 e2.last hp).tupK hu
    cases ea'
    rw [enumT_len] at hi
    exact ⟨ws, ws[i]'(by omega), .inl (.inl h2), List.getElem?_eq_getElem _⟩
  · obtain ⟨a', ws, ea', h2, l2, _⟩ := (Rs.rep e2 e2.last hp).tupK hu
    cases ea'
    exact ⟨ws, .inl (.inl h2), by rw [enumT_len]; omega⟩
  · obtain ⟨a', ws, ea', h2, l2, kd2⟩ := (Rs.rep e2 (e2.entry e.tl (k := 0) rfl rfl) hp).tupK hu
    cases ea'
    obtain ⟨q, y', rfl, hq, rfl, hy⟩ := hy
    obtain ⟨d, hd, rd⟩ := sh_item hs l2 kd2 (hy ws (.inl (.inl h2)))
    exact ⟨_, enumT_get hd, e2.pair (.int _) rd hq⟩
/-! ### comprehensions -/
def wipeE (ρ : Env) : List Nat → Env
  | [] => ρ
  | v :: vs => (wipeE ρ vs).set v .no
theorem wipeE_len (ρ : Env) : ∀ vs, (wipeE ρ vs).length = ρ.length
  | [] => rfl
  | v :: vs => by rw [wipeE, List.length_set, wipeE_len ρ vs]
theorem cn_drop (b : Addr) {ts : List T} {i : Nat} : cn b (ownsL (ts.set i .no)) ≤ cn b (ownsL ts) := by
  by_cases h : i < ts.length
  · have := cn_set b (u := T.no) (List.getElem?_eq_getElem h)
    have : cn b (T.owns .no) = 0 := by rw [T.owns]; rfl
    omega
  · rw [List.set_eq_of_length_le (by omega)]
    exact Nat.le_refl _
theorem cn_wipe (b : Addr) (ρ : Env) : ∀ vs, cn b (ownsL (wipeE ρ vs)) ≤ cn b (ownsL ρ)
  | [] => Nat.le_refl _
  | v :: vs => Nat.le_trans (cn_drop b) (cn_wipe b ρ vs)
theorem wipeE_get {ρ : Env} {k : Nat} {t : T} : ∀ {vs : List Nat}, (wipeE ρ vs)[k]? = some t → t = .no ∨ (ρ[k]? = some t ∧ k ∉ vs)
  | [], h => .inr ⟨h, by simp⟩
  | v :: vs, h => by
    rw [wipeE] at h
    by_cases hv : v = k
    · subst hv
      by_cases hl : v < (wipeE ρ vs).length
      · rw [List.getElem?_set_self hl] at h; cases h; exact .inl rfl
      · rw [List.getElem?_set, if_pos rfl, if_neg hl] at h; cases h
    · rw [List.getElem?_set_ne hv] at h
      rcases wipeE_get h with h | ⟨h, n⟩
      · exact .inl h
      · exact .inr ⟨h, fun m => (List.mem_cons.mp m).elim (fun z => hv z.symm) n⟩
theorem wipe_get {σ : L2.St} {k : Nat} : ∀ {vs : List Nat}, k ∉ vs → (wipe σ vs)[k]? = σ[k]?
  | [], _ => rfl
  | v :: vs, h => by
    unfold wipe
    rw [List.getElem?_set_ne (fun (z : v = k) => h (by rw [z]; exact List.mem_cons_self)), wipe_get fun m => h (List.mem_cons_of_mem _ m)]
/-- between two states that agree outside vs -/
theorem En.wiped {Γ : Cg} {H : Hp} {σ σ' : L2.St} {tv : List (Option V)} {ρ : Env} {tt : List T} {vs : List Nat} (e : En Γ H σ tv ρ tt) (hl : σ'.length = σ.length) (h : ∀ k, k ∉ vs → σ'[k]? = σ[k]?) : En Γ H σ' tv (wipeE ρ vs) tt := by
  refine ⟨?_, by rw [hl, wipeE_len]; exact e.len⟩
  refine e.ok.re (by simp [hl, wipeE_len, e.len, e.tl]) (fun b => by have := cn_wipe b ρ vs; simp only [ownsL_append, cn_app]; omega) fun k x t h1 h2 => ?_
  rcases ap_cases h1 with h1 | ⟨j, rfl, hj⟩
  · have hk := (List.getElem?_eq_some_iff.mp h1).1
    rw [List.getElem?_append_left (by rw [wipeE_len, ← e.len]; omega)] at h2
    rcases wipeE_get h2 with rfl | ⟨h2, n⟩
    · exact .inr (.no _)
    · rw [h k n] at h1
      exact .inl ⟨k, ap_left h1, ap_left h2⟩
  · have : σ'.length + j = (wipeE ρ vs).length + j := by rw [hl, wipeE_len, e.len]
    rw [this, List.getElem?_append_right (by omega), Nat.add_sub_cancel_left] at h2
    exact .inl ⟨σ.length + j, ap_right hj, by rw [e.len]; exact ap_right h2⟩
theorem wipe_in {k : Nat} (s : L2.St) : ∀ {vs : List Nat}, k ∈ vs → (wipe s vs)[k]? = if k < s.length then some none else none
  | [], hk => by simp at hk
  | v :: vs, hk => by
    unfold wipe
    by_cases c : v = k
    · subst c
      rw [List.getElem?_set, if_pos rfl, wipe_length]
    · rw [List.getElem?_set_ne c]
      exact wipe_in s ((List.mem_cons.mp hk).elim (fun z => absurd z.symm c) id)
theorem wipe_eq {σ σ' : L2.St} {vs : List Nat} (hl : σ'.length = σ.length) (h : ∀ k, k ∉ vs → σ'[k]? = σ[k]?) : wipe σ' vs = wipe σ vs := by
  apply List.ext_getElem?
  intro k
  by_cases hk : k ∈ vs
  · rw [wipe_in _ hk, wipe_in _ hk, hl]
  · rw [wipe_get hk, wipe_get hk]
    exact h k hk
theorem wipe_wipe (σ : L2.St) (vs : List Nat) : wipe (wipe σ vs) vs = wipe σ vs := wipe_eq (wipe_length σ vs) fun k hk => wipe_get hk
/-- the tree as it is, or given away -/
def PubT (y y' : T) : Prop := y' = y ∨ ∃ d, y.pub = some d ∧ y' = .sh d
theorem En.pubt {Γ : Cg} {H : Hp} {σ : L2.St} {tv : List (Option V)} {ρ : Env} {tt : List T} {x : Option V} {y y' : T} (e : En Γ H σ (tv ++ [x]) ρ (tt ++ [y])) (l : tv.length = tt.length) (p : PubT y y') : En Γ H σ (tv ++ [x]) ρ (tt ++ [y']) := by
  rcases p with rfl | ⟨d, h, rfl⟩
  · exact e
  · exact e.pubT l h
/-- [elt for target in iter if test] -/
def wLc (wi : WI) (g : WG) (wt : WT) (we : WE) (vs : List Nat) : WE := fun χ ρ Q => wi χ ρ fun its P ρ1 => ∃ I : Nat → Env → List T → Prop, I 0 (wipeE ρ1 vs) [] ∧ (∀ i ρ2 acc, I i ρ2 acc → P ρ2 ∧ acc.length < 10000) ∧
  (∀ (i : Nat) (t : T) (ρ2 : Env) (acc : List T), its[i]? = some t → I i ρ2 acc → g t ρ2 fun ρ3 => wt noX ρ3 fun b ρ4 => if b = true then we noX ρ4 fun y ρ5 => ∃ y', PubT y y' ∧ I (i + 1) (wipeE ρ5 vs) (acc ++ [y']) else I (i + 1) (wipeE ρ4 vs) acc) ∧ ∀ ρ2 acc, I its.length ρ2 acc → ∀ a, Q (.lst a acc) (wipeE ρ2 vs)
theorem xok_none {Γ : Cg} {tv : List (Option V)} {tt : List T} {σ : L2.St} {c : Bool} (h : c = true → Calm Γ.H0) : XOk ⟨fun _ _ _ _ => False, c⟩ Γ tv tt σ noX := ⟨h, fun _ _ _ _ _ _ z => z.elim⟩
theorem lcCore {g : TG} {tt' : TT} {te : TE} {vs : List Nat} {wg : WG} {wt : WT} {we : WE} {c : Bool} (hg : RfG (fun k => k ∉ vs) g wg) (ht : RfT (W0 c) tt' wt) (he : Rf (W0 c) te we) {Γ : Cg} {H1 : Hp} {σ : L2.St} {tv xv : List (Option V)} {ρ1 : Env} {tt xt : List T} {P : Env → Prop} {J : It} {its : List T} {I : Nat → Env → List T → Prop} {Qd : Addr → Hp → Prop} (cal : c = true → Calm Γ.H0) (l : tv.length = tt.length) (lx : xv.length = xt.length)
    (i0 : I 0 (wipeE ρ1 vs) []) (hP : ∀ i ρ2 acc, I i ρ2 acc → P ρ2 ∧ acc.length < 10000)
    (turn : ∀ (i : Nat) (t : T) (ρ2 : Env) (acc : List T), its[i]? = some t → I i ρ2 acc → wg t ρ2 fun ρ3 => wt noX ρ3 fun b ρ4 => if b = true then we noX ρ4 fun y ρ5 => ∃ y', PubT y y' ∧ I (i + 1) (wipeE ρ5 vs) (acc ++ [y']) else I (i + 1) (wipeE ρ4 vs) acc)
    (e1 : En Γ H1 σ (tv ++ xv) ρ1 (tt ++ xt)) (wk : Wk Γ tv xv tt xt P J its) (fin : ∀ D H2 ρ2 acc, I its.length ρ2 acc → En Γ H2 σ (tv ++ (xv ++ [some (.ref D)])) (wipeE ρ2 vs) (tt ++ (xt ++ [.lst D acc])) → Qd D H2) :
    ∀ D, H1 D = none → ∃ Wn : Nat → Nat → Hp → Prop, (∃ m, Wn 0 m (upd H1 D (.lst []))) ∧ ∀ i m H, Wn i m H →
      (J.stop i H ∧ Qd D H) ∨ (J.go i H ∧ ∃ Nx : Hp → Prop, (∀ H', Nx H' → ∃ m', m' < m ∧ Wn (i + 1) m' H') ∧ ∀ x H', J.yld i H x H' → g x (wipe σ vs) H' fun σ2 H2 => wipe σ2 vs = wipe σ vs ∧ tt' σ2 H2 fun b H3 =>
        if b = true then te σ2 H3 fun y H4 => ∃ acc, H4 D = some (.lst acc) ∧ acc.length < sizeLine ∧ Nx (upd H4 D (.lst (acc ++ [y]))) else Nx H3) := by
  intro D hD
  refine ⟨fun i m H2 => m = its.length - i ∧ i ≤ its.length ∧ ∃ ρ2 acc, I i ρ2 acc ∧ En Γ H2 (wipe σ vs) (tv ++ (xv ++ [some (.ref D)])) ρ2 (tt ++ (xt ++ [.lst D acc])), ⟨its.length, by simp, Nat.zero_le _, _, [], i0, ?_⟩, ?_⟩
  · have e2 : En Γ (upd H1 D (.lst [])) σ (tv ++ (xv ++ [some (.ref D)])) ρ1 (tt ++ (xt ++ [.lst D []])) := by
      rw [← List.append_assoc, ← List.append_assoc]
      refine .of1 (Ok.alloc (ys := []) (us := []) (u := .lst D []) (vs := []) (by simpa only [List.append_nil] using e1.ok) e1.ok.len hD (fun a o z => by rw [upd_ne (ne_of_none z hD)]; exact z) (fun a z => ?_) (nofrz (by intro o kvs z; cases z)) .lst upd_same rfl (fun b => Nat.le_refl _) (fun j v t h2 => by simp at h2)) e1.len
      by_cases q : a = D
      · rw [q]; exact hD
      · rw [upd_ne q] at z; exact z
    exact e2.wiped (wipe_length σ vs) fun k hk => wipe_get hk
  rintro i m H2 ⟨rfl, hil, ρ2, acc, hI, e2⟩
  obtain ⟨hp, hacc⟩ := hP i ρ2 acc hI
  have e2d : En Γ H2 (wipe σ vs) (tv ++ xv) ρ2 (tt ++ xt) := En.drop (ys := [some (.ref D)]) (us := [.lst D acc]) (by rw [List.append_assoc, List.append_assoc]; exact e2) (by simp [l, lx])
  by_cases hlt : i < its.length
  · refine .inr ⟨wk.go i H2 _ ρ2 hlt hp e2d, fun H3 => ∃ ρ3 acc3, I (i + 1) ρ3 acc3 ∧ En Γ H3 (wipe σ vs) (tv ++ (xv ++ [some (.ref D)])) ρ3 (tt ++ (xt ++ [.lst D acc3])), fun H3 ⟨ρ3, acc3, h3, e3⟩ => ⟨its.length - (i + 1), by omega, rfl, hlt, ρ3, acc3, h3, e3⟩, fun y H3 hy => ?_⟩
    obtain ⟨t, ht1, e3⟩ := wk.yld i H2 _ ρ2 y H3 [some (.ref D)] [.lst D acc] hlt hp e2 hy
    refine hg Γ H3 (wipe σ vs) _ ρ2 _ y t _ _ e3 e2.tl (turn i t ρ2 acc ht1 hI) fun ρ3 σ3 H4 h4 p3 l3 e4 => ?_
    have hw3 : wipe σ3 vs = wipe σ vs := (wipe_eq l3 p3).trans (wipe_wipe σ vs)
    refine ⟨hw3, ?_⟩
    have l3' : (wipe σ vs).length = σ3.length := l3.symm
    refine ht σ3 H4 _ ⟨Γ, _, ρ3, _, noX, _, e4, h4, xok_none cal, fun b ρ4 H5 h5 e5 => ?_⟩
    cases b with
    | false => exact iteF ⟨_, acc, h5, e5.wiped l3' fun k hk => (p3 k hk).symm⟩
    | true =>
      refine iteT (he σ3 H5 _ ⟨Γ, _, ρ4, _, noX, _, e5, h5, xok_none cal, fun yt0 ρ5 yv H6 h60 e60 => ?_⟩)
      obtain ⟨yt, hpt', h6⟩ := h60
      have e6 := e60.pubt e5.tl hpt'
      -- the list at D grows
      have hgt : gt (ρ5 ++ (tt ++ (xt ++ [T.lst D acc]))) (ρ5.length + (tt.length + xt.length)) [] = some (.lst D acc) := by
        unfold gt
        rw [List.getElem?_append_right (by omega), Nat.add_sub_cancel_left, List.getElem?_append_right (by omega), Nat.add_sub_cancel_left, List.getElem?_append_right (by omega), Nat.sub_self]
        rfl
      have hpt : ∀ u, pt (ρ5 ++ (tt ++ (xt ++ [T.lst D acc]))) (ρ5.length + (tt.length + xt.length)) [] u = ρ5 ++ (tt ++ (xt ++ [u])) := fun u => by
        unfold pt
        have : (ρ5 ++ (tt ++ (xt ++ [T.lst D acc])))[ρ5.length + (tt.length + xt.length)]? = some (.lst D acc) := by
          rw [List.getElem?_append_right (by omega), Nat.add_sub_cancel_left, List.getElem?_append_right (by omega), Nat.add_sub_cancel_left, List.getElem?_append_right (by omega), Nat.sub_self]
          rfl
        rw [this]
        show (ρ5 ++ (tt ++ (xt ++ [T.lst D acc]))).set _ (T.put _ [] u) = _
        rw [List.set_append_right _ _ (by omega), Nat.add_sub_cancel_left, List.set_append_right _ _ (by omega), Nat.add_sub_cancel_left, List.set_append_right _ _ (by omega), Nat.sub_self]
        rfl
      have ok6 : Ok Γ H6 ((σ3 ++ (tv ++ (xv ++ [some (.ref D)]))) ++ [some yv]) ((ρ5 ++ (tt ++ (xt ++ [T.lst D acc]))) ++ [yt]) := e6.as1
      obtain ⟨o, ws, nd, ho, lv, kd, f⟩ := Ok.upd ok6 (e6.l2 rfl) hgt rfl
      cases nd
      have lv' : ws.length = acc.length := lv
      refine ⟨ws, ho, szl' (by omega), wipeE ρ5 vs, acc ++ [yt], h6, ?_⟩
      have ok7 := f (.lst (ws ++ [yv])) (.lst D (acc ++ [yt])) (ws ++ [yv]) [] [] .lst (by simp [T.kids, lv']) rfl (fun b => ?_) (fun z t' hz => ?_)
      · rw [List.append_nil, List.append_nil, hpt] at ok7
        exact En.wiped (σ := σ3) ⟨ok7, e6.len⟩ l3' fun k hk => (p3 k hk).symm
      · simp only [T.kids, ownsL_append, ownsL_one, ownsL_nil, cn_app]
        show _ + _ + 0 ≤ _
        omega
      · rcases hz with ⟨j, v, rfl, q1, q2⟩ | ⟨j, q1, q2⟩
        · simp only [T.kids] at q2
          rcases ap_cases q1 with q1 | ⟨n, rfl, hn⟩
          · have hj := (List.getElem?_eq_some_iff.mp q1).1
            rw [List.getElem?_append_left (by omega)] at q2
            exact .inl ⟨j, v, rfl, q1, q2⟩
          · rw [lv', List.getElem?_append_right (by omega), Nat.add_sub_cancel_left] at q2
            obtain ⟨rfl, rfl⟩ := one_cases hn q2
            exact .inr (.inl ⟨0, rfl, rfl⟩)
        · simp at q1
  · have : i = its.length := by omega
    subst this
    refine .inl ⟨wk.stop H2 _ ρ2 hp e2d, ?_⟩
    have e3 := e2.wiped (σ' := σ) (vs := vs) (wipe_length σ vs).symm fun k hk => (wipe_get hk).symm
    exact fin D H2 ρ2 acc hI e3
theorem rf_lc {wi : TI} {g : TG} {tt' : TT} {te : TE} {vs : List Nat} {w : WI} {wg : WG} {wt : WT} {we : WE} (hi : RfI W wi w) (hg : RfG (fun k => k ∉ vs) g wg) (ht : RfT (W0 W.c) tt' wt) (he : Rf (W0 W.c) te we) : Rf W (tLc wi g tt' te vs) (wLc w wg wt we vs) := fun σ H Q ⟨Γ, tv, ρ, tt, χ, Q1, e, h, x, k⟩ => by
  refine hi σ H _ ⟨Γ, tv, ρ, tt, χ, _, e, h, x, fun its P ρ1 H1 J xv xt ⟨I, i0, hP, turn, fin⟩ e1 lx wk => ?_⟩
  exact lcCore hg ht he (Qd := fun D H2 => Q (.ref D) H2) x.1 e.tl lx i0 hP turn e1 wk fun D H2 ρ2 acc hI e3 => k _ _ _ H2 (fin ρ2 acc hI D) (En.mid (ys := xv) (us := xt) (by rw [List.append_assoc, List.append_assoc]; exact e3) e.tl lx)
/-! ### targets -/
def gwTup (n : Nat) (w : List T → Env → (Env → Prop) → Prop) : WG := fun t ρ k => ∃ ds, t = .sh (.tup ds) ∧ ds.length = n ∧ w (ds.map T.sh) ρ k
def RfGs (B : Nat → Prop) (g : TGs) (w : List T → Env → (Env → Prop) → Prop) : Prop := ∀ (Γ : Cg) (H : Hp) (σ : L2.St) (tv : List (Option V)) (ρ : Env) (tt : List T) (vs : List V) (ds : List D) (k : Env → Prop) (Q : L2.St → Hp → Prop), En Γ H σ tv ρ tt → vs.length = ds.length → (∀ (j : Nat) (v : V) (d : D), vs[j]? = some v → ds[j]? = some d → RD H (Av Γ (ownsL (ρ ++ tt))) v d) → w (ds.map T.sh) ρ k → (∀ ρ' σ' H', k ρ' → (∀ j, B j → σ'[j]? = σ[j]?) → σ'.length = σ.length → En Γ H' σ' tv ρ' tt → Q σ' H') → g vs σ H Q
def gwNil : List T → Env → (Env → Prop) → Prop := fun _ ρ k => k ρ
/-- names alone -/
def gwCons (i : Nat) (w : List T → Env → (Env → Prop) → Prop) : List T → Env → (Env → Prop) → Prop := fun ts ρ k => ∃ t r, ts = t :: r ∧ i < ρ.length ∧ w r (ρ.set i t) k
theorem rfgs_nil {B : Nat → Prop} {w : List T → Env → (Env → Prop) → Prop} : RfGs B gNil (fun ts ρ k => ts = [] ∧ k ρ) := fun Γ H σ tv ρ tt vs ds k Q e l kd ⟨h0, h⟩ q => by
  have : ds = [] := by simpa using h0
  subst this
  exact ⟨List.eq_nil_of_length_eq_zero l, q ρ σ H h (fun _ _ => rfl) rfl e⟩
theorem rfgs_cons {B : Nat → Prop} {i : Nat} {u : TGs} {w : List T → Env → (Env → Prop) → Prop} (h : ¬ B i) (hu : RfGs B u w) : RfGs B (gCons (gName i) u) (gwCons i w) := fun Γ H σ tv ρ tt vs ds k Q e l kd ⟨t, r, h0, hi, h1⟩ q => by
  cases ds with
  | nil => cases h0
  | cons d ds =>
  cases vs with
  | nil => simp at l
  | cons v vs =>
  rw [List.map_cons] at h0
  cases h0
  refine ⟨v, vs, rfl, ?_⟩
  have e1 := (e.push (kd 0 v d rfl rfl)).set hi
  have hav : ∀ b, Av Γ (ownsL (ρ ++ tt)) b → Av Γ (ownsL (ρ.set i (.sh d) ++ tt)) b := fun b av => av_le (fun c => by
    obtain ⟨x0, hx0⟩ : ∃ x0, ρ[i]? = some x0 := ⟨ρ[i], List.getElem?_eq_getElem hi⟩
    have := cn_set c (u := .sh d) hx0
    rw [cn_noT] at this
    simp only [ownsL_append, cn_app]
    omega) av
  refine hu Γ H (σ.set i (some v)) tv (ρ.set i (.sh d)) tt vs ds k Q e1 (by simpa using l) (fun j v' d' q1 q2 => (kd (j + 1) v' d' (by rw [List.getElem?_cons_succ]; exact q1) (by rw [List.getElem?_cons_succ]; exact q2)).mono fun b o av hb => ⟨.of hb hb, hav b av⟩) h1 fun ρ' σ' H' hk hB hl e2 => q ρ' σ' H' hk (fun j hj => ?_) (by rw [hl, List.length_set]) e2
  rw [hB j hj, List.getElem?_set_ne (fun (z : i = j) => h (by rw [z]; exact hj))]
theorem rfg_tup {B : Nat → Prop} {n : Nat} {u : TGs} {w : List T → Env → (Env → Prop) → Prop} (hu : RfGs B u w) : RfG B (gTup K n u) (gwTup n w) := fun Γ H σ tv ρ tt v t k Q e l ⟨ds, et, hn, h⟩ q => by
  subst et
  have r := e.last
  cases r with
  | sh r =>
  cases r with
  | @tup a vs _ er _ lv kd =>
  have eo : ownsL (ρ ++ (tt ++ [T.sh (.tup ds)])) = ownsL (ρ ++ tt) := by simp only [ownsL_append, ownsL_one, T.owns, List.append_nil]
  exact ⟨a, vs, rfl, .inl (.inl er), lv.trans hn, hu Γ H σ tv ρ tt vs ds k Q (e.drop l) lv (fun j v d q1 q2 => by have := kd j v d q1 q2; rw [eo] at this; exact this) h q⟩
/-! ### x += e -/
def wAug (i : Nat) (f : Int → Int → Int) (w : WE) : WS := fun k ρ => ∃ a, ρ[i]? = some (.sh (.int a)) ∧ w k.xc ρ fun t ρ1 => ∃ b, t = .sh (.int b) ∧ i < ρ1.length ∧ k.nx (ρ1.set i (.sh (.int (f a b))))
theorem rfs_aug {bs : List Nat} {i : Nat} {f : Int → Int → Int} {t : TE} {w : WE} (hb : i ∉ bs) (ha : Rf W t w) : RfS bs W (tAug i t (ipI f)) (wAug i f w) := fun D σ H ⟨Γ, tv, ρ, tt, k, e, ⟨a, h0, h⟩, o⟩ => by
  obtain ⟨y, hy⟩ := get_of_len e.len h0
  have r := e.ok.rep i y _ (ap_left hy) (ap_left h0)
  cases r with
  | sh r =>
  cases r
  refine ⟨_, hy, ha σ H _ ⟨Γ, tv, ρ, tt, k.xc, _, e, h, o.x, fun t ρ1 v H1 ⟨b, et, hi, h1⟩ e1 => ?_⟩⟩
  subst et
  have r := e1.last
  cases r with
  | sh r =>
  cases r
  exact ⟨a, b, rfl, rfl, o.nx _ _ H1 h1 (.set hb) (((e1.drop e.tl).push (.int (f a b))).set hi)⟩
/-! ### raise -/
def wRaise (C : Addr) (fl : List Str) (wa : WA) : WS := fun k ρ => wa k.xc ρ fun ts ρ1 => ∃ ds, pubL ts = some ds ∧ ds.length = fl.length ∧ ds.length ≤ 900 ∧ k.xc C fl.reverse ds.reverse ρ1
theorem En.pubAll {Γ : Cg} {H : Hp} {σ : L2.St} {ρ : Env} : ∀ {ts : List T} {ds : List D} {tv xs : List (Option V)} {tt : List T}, pubL ts = some ds → En Γ H σ (tv ++ xs) ρ (tt ++ ts) → tv.length = tt.length → En Γ H σ (tv ++ xs) ρ (tt ++ ds.map T.sh)
  | [], ds, tv, xs, tt, h, e, l => by cases h; exact e
  | t :: ts, ds, tv, xs, tt, h, e, l => by
    unfold pubL at h
    cases e1 : t.pub with
    | none => rw [e1] at h; cases h
    | some d =>
    rw [e1] at h
    cases e2 : pubL ts with
    | none => rw [e2] at h; cases h
    | some ds' =>
    rw [e2] at h
    cases h
    cases xs with
    | nil => have := e.tlen l; simp at this
    | cons x xs =>
    have e3 := e.pubT l e1
    have := En.pubAll (tv := tv ++ [x]) (xs := xs) (tt := tt ++ [.sh d]) e2 (by simpa only [List.append_assoc, List.singleton_append] using e3) (by simp [l])
    simpa only [List.append_assoc, List.singleton_append, List.map_cons] using this
theorem R.un {H : Hp} {A : Addr → Prop} {v : V} {d : D} (r : R H A (some v) (.sh d)) : RD H A v d := by
  cases r with
  | sh r => exact r
theorem g_mkZ {H : Hp} {C : Addr} {fl : List Str} {vs : List V} {Q : XK} (hl : vs.length = fl.length) (h1 : vs.length ≤ 1000) (q : ∀ (d : Addr) (Hf : Hp), H d = none → Hf d = some (.xd (xfs fl vs)) → Fr NoA H Hf → (∀ b o u, Hf b = some (.frz o u) → H b = some (.frz o u)) → Q (.ref C) (some d) Hf) : MkX C fl vs H Q := by
  refine ⟨h1, fun a ha => ⟨a, vs, by rw [List.append_nil], hl, upd_same, fun d H' hd ne e1 e2 hk => ⟨rfl, d, _, e1, e2, ?_, ?_⟩⟩⟩
  · rw [upd_ne ne] at hd; exact hd
  · have hd' : H d = none := by rw [upd_ne ne] at hd; exact hd
    refine q d _ hd' upd_same ⟨fun b o e _ => ?_, fun b e => ?_⟩ fun b o u e => ?_
    · have n1 : b ≠ d := ne_of_none e hd'
      have n2 : b ≠ a := ne_of_none e ha
      rw [upd_ne n1, del_ne n2, hk b n2 n1, upd_ne n2]
      exact e
    · by_cases n1 : b = d
      · rw [n1]; exact hd'
      · by_cases n2 : b = a
        · rw [n2]; exact ha
        · rw [upd_ne n1, del_ne n2, hk b n2 n1, upd_ne n2] at e
          exact e
    · by_cases n1 : b = d
      · subst n1; rw [upd_same] at e; cases e
      · by_cases n2 : b = a
        · subst n2
          rw [upd_ne n1] at e
          simp [del] at e
        · rw [upd_ne n1, del_ne n2, hk b n2 n1, upd_ne n2] at e
          exact e
theorem rfs_rx {bs : List Nat} {C : Addr} {fl : List Str} {ta : TA} {wa : WA} {Wd : WX} (hW : ∀ c d σ H, W.x c d σ H → Wd c d σ H) (ha : RfA W ta wa) : RfS bs W (tRx Wd (tMkX C fl ta)) (wRaise C fl wa) := fun D σ H ⟨Γ, tv, ρ, tt, k, e, h, o⟩ => by
  refine ha σ H _ ⟨Γ, tv, ρ, tt, k.xc, _, e, h, o.x, fun ts ρ1 vs H1 ⟨ds, hp, hl, h9, h1⟩ e1 => ?_⟩
  have e2 := e1.pubAll hp e.tl
  have lv : vs.length = ds.length := by have := e2.tlen e.tl; simpa using this
  refine g_mkZ (lv.trans hl) (by omega) fun d Hf hd hf ff fz => hW _ _ _ _ ?_
  refine o.xc C d fl.reverse ds.reverse ρ1 σ Hf h1 (.refl _ _) ?_
  have ok2 : Ok Γ Hf (σ ++ (tv ++ vs.map some)) (ρ1 ++ (tt ++ ds.map T.sh)) := e2.ok.grow (fun a o z => ff.keep a o z (fun q => q)) (fun a z => ff.free a z) fun a o kvs z => fz a o _ z
  have e3 : En Γ Hf σ (tv ++ vs.map some) ρ1 (tt ++ ds.map T.sh) := ⟨ok2, e1.len⟩
  have eo : ownsL (ρ1 ++ (tt ++ ds.map T.sh)) = ownsL (ρ1 ++ tt) := by simp only [ownsL_append, ownsL_sh, List.append_nil]
  have nd : d ∉ ownsL (ρ1 ++ tt) := fun m => by
    obtain ⟨o, z⟩ := (e1.drop e.tl).ok.there d m
    rw [hd] at z
    cases z
  refine (e3.drop e.tl).push ?_
  have hr := RD.exc (H := Hf) (A := Av Γ (ownsL (ρ1 ++ tt))) (a := 0) (C := C) (dd := d) (fvs := xfs fl vs) (xs := ds.reverse) hf ⟨.inr (.inl (e1.ok.fr.free d hd)), nd⟩ (by unfold xfs; rw [List.length_reverse, List.length_zip, List.length_reverse]; omega) (fun j q d' h2 h3 => ?_)
  · have em : (xfs fl vs).map Prod.fst = fl.reverse := by
      unfold xfs
      rw [List.map_reverse, List.map_fst_zip (by omega)]
    rw [em] at hr
    exact hr
  · unfold xfs at h2
    have hj := (List.getElem?_eq_some_iff.mp h3).1
    rw [List.length_reverse] at hj
    rw [List.getElem?_reverse (by rw [List.length_zip]; omega)] at h2
    rw [List.getElem?_reverse (by omega)] at h3
    rw [List.length_zip] at h2
    rw [List.getElem?_zip_eq_some] at h2
    have r := e3.entry e.tl (k := min fl.length vs.length - 1 - j) (map_get h2.2) (map_get (by rw [show min fl.length vs.length - 1 - j = ds.length - 1 - j by omega]; exact h3))
    rw [eo] at r
    exact r.un
end

end E
namespace E
open PySem PySem.Spec PyProof.Rows L2 G

section
variable {W : Wx} {K : PySem.W.Frag} {X : Cx}
/-! ### len of dicts and texts -/
def rLenR : List V → Hp → VK → Prop := fun xs H Q => ∃ a kvs, xs = [V.ref a] ∧ Rd H a (.dK kvs) ∧ Q (.int kvs.length) H
theorem c_lenR : CallR X (.builtin "len") rLenR := by
  intro pins s σ H xs us Q I r h
  obtain ⟨a, kvs, rfl, ha, q⟩ := h
  obtain ⟨u, rfl, ru⟩ := vals1 r
  cases ru
  exact d_len I ha fun t s' I' => ⟨.int kvs.length, H, I', ⟨t, rfl⟩, q⟩
def fLenR : Fd := fun ρ as Q => ∃ t, as = [t] ∧ ∃ u, Rs ρ t u ∧ ∃ ks xs, u.dictK = some (ks, xs) ∧ Q (.sh (.int ks.length))
theorem cd_lenR : CbD rLenR fLenR := ⟨fun Γ H σ tv ρ tt vs as Q k e l ⟨t, ea, u, hr, ks, xs, hs, hk⟩ q => by
  subst ea
  obtain ⟨v, rfl⟩ := e.vs1 l
  obtain ⟨a, kvs, rfl, h1, h2, _⟩ := (Rs.rep e e.one hr).dictK hs
  exact ⟨a, kvs, rfl, h1, by rw [show kvs.length = ks.length by rw [← h2, List.length_map]]; exact q _ _ H hk ((e.drop l).push (.int _))⟩⟩
def fLenS : Fd := fun ρ as Q => ∃ z, as = [.sh (.str z)] ∧ z.length ≤ 100000 ∧ Q (.sh (.int z.length))
theorem cd_lenS : CbD rLenS fLenS := ⟨fun Γ H σ tv ρ tt vs as Q k e l ⟨z, ea, hz, hk⟩ q => by
  subst ea
  obtain ⟨v, rfl⟩ := e.vs1 l
  have r := e.one
  cases r with
  | sh r =>
  cases r
  exact ⟨z, rfl, by rw [sizeLine_eq]; omega, q _ _ H hk ((e.drop l).push (.int _))⟩⟩
/-! ### new lists, tuples, dicts out of old ones -/
theorem free_upd {H : Hp} {q : Addr} {o : HO} (hq : H q = none) : ∀ a, upd H q o a = none → H a = none := fun a z => by
  by_cases c : a = q
  · rw [c]; exact hq
  · rw [upd_ne c] at z; exact z
theorem En.newN {Γ : Cg} {H : Hp} {σ : L2.St} {tv ys : List (Option V)} {ρ : Env} {tt us : List T} {q : Addr} {o : HO} {u : T} {vs : List V} (e : En Γ H σ (tv ++ ys) ρ (tt ++ us)) (l : tv.length = tt.length) (hq : H q = none) (nd : Nd u q o vs) (lv : vs.length = u.kids.length)
    (src : ∀ (k : Nat) (v : V) (t : T), vs[k]? = some v → u.kids[k]? = some t → ∃ d, t = .sh d ∧ RD H (Av Γ (ownsL (ρ ++ (tt ++ us)))) v d) : En Γ (upd H q o) σ (tv ++ [some (.ref q)]) ρ (tt ++ [u]) := by
  have hk : ownsL u.kids = [] := by
    have : ∀ ts : List T, (∀ (k : Nat) (t : T), ts[k]? = some t → ∃ d, t = T.sh d) → ownsL ts = [] := fun ts => by
      induction ts with
      | nil => intro _; rw [ownsL]
      | cons t ts ih =>
        intro h
        obtain ⟨d, ed⟩ := h 0 t rfl
        rw [ownsL_cons, ih fun k t' h' => h (k + 1) t' (by rw [List.getElem?_cons_succ]; exact h'), ed, T.owns]
        rfl
    refine this _ fun k t ht => ?_
    obtain ⟨v, hv⟩ := get_of_len lv ht
    obtain ⟨d, ed, _⟩ := src k v t hv ht
    exact ⟨d, ed⟩
  refine .of (Ok.alloc e.as (e.l2 (e.tlen l)) hq (fun a o z => by rw [upd_ne (ne_of_none z hq)]; exact z) (free_upd hq) (nofrz (by intro o kvs z; subst z; cases nd)) nd upd_same lv (fun b => by rw [hk]; exact Nat.zero_le _) fun k v t h1 h2 => ?_) e.len
  obtain ⟨d, ed, rd⟩ := src k v t h1 h2
  exact .inr ⟨d, ed, by rw [List.append_assoc]; exact rd⟩
theorem En.newT {Γ : Cg} {H : Hp} {σ : L2.St} {tv : List (Option V)} {ρ : Env} {tt : List T} {q : Addr} {vs : List V} {ds : List D} (e : En Γ H σ tv ρ tt) (hq : H q = none) (lv : vs.length = ds.length) (src : ∀ (k : Nat) (v : V) (d : D), vs[k]? = some v → ds[k]? = some d → RD H (Av Γ (ownsL (ρ ++ tt))) v d) : En Γ (upd H q (.tup vs)) σ (tv ++ [some (.ref q)]) ρ (tt ++ [.sh (.tup ds)]) := by
  have e1 : En Γ (upd H q (.tup vs)) σ tv ρ tt := ⟨e.ok.grow (fun a o z => by rw [upd_ne (ne_of_none z hq)]; exact z) (free_upd hq) (nofrz (by intro o kvs z; cases z)), e.len⟩
  refine e1.push (.tup upd_same ⟨.inr (.inl (e.ok.fr.free q hq)), fun m => ?_⟩ lv fun k v d h1 h2 => (src k v d h1 h2).mono fun b o av hb => ⟨.of hb (by rw [upd_ne (ne_of_none hb hq)]; exact hb), av⟩)
  obtain ⟨o, z⟩ := e.ok.there q m
  rw [hq] at z
  cases z
def fList : Fd := fun ρ as Q => ∃ t, as = [t] ∧ ∃ u, Rs ρ t u ∧ ∃ xs ds, u.seqK = some xs ∧ allSh xs = some ds ∧ ∀ a, Q (.lst a (ds.map T.sh))
theorem cd_list : CbD (rListQ K) fList := ⟨fun Γ H σ tv ρ tt vs as Q k e l ⟨t, ea, u, hr, xs, ds, hs, hd, hk⟩ q => by
  subst ea
  obtain ⟨v, rfl⟩ := e.vs1 l
  obtain ⟨a, ws, rfl, h1, h2, kd⟩ := (Rs.rep e e.one hr).seqK (K := K) hs
  have ex := allSh_eq hd
  refine ⟨a, ws, rfl, h1, fun p hp => q _ _ _ (hk p) (e.newN l hp .lst (by rw [h2, ex]; rfl) fun j v t q1 q2 => ?_)⟩
  obtain ⟨d, e1, rfl⟩ := get_map q2
  exact ⟨d, rfl, (kd j v (.sh d) q1 (by rw [ex]; exact q2)).un⟩⟩
def kD : Key → D
  | .inl i => .int i
  | .inr z => .str z
theorem kD_rd {H : Hp} {A : Addr → Prop} (k : Key) : RD H A (kV k) (kD k) := by
  cases k with
  | inl i => exact .int i
  | inr z => exact .str z
def fListK : Fd := fun ρ as Q => ∃ t, as = [t] ∧ ∃ u, Rs ρ t u ∧ ∃ ks xs, u.dictK = some (ks, xs) ∧ ∀ a, Q (.lst a (ks.map fun k => .sh (kD k)))
theorem cd_listK : CbD rListKs fListK := ⟨fun Γ H σ tv ρ tt vs as Q k e l ⟨t, ea, u, hr, ks, xs, hs, hk⟩ q => by
  subst ea
  obtain ⟨v, rfl⟩ := e.vs1 l
  obtain ⟨a, kvs, rfl, h1, h2, _⟩ := (Rs.rep e e.one hr).dictK hs
  refine ⟨a, kvs, rfl, h1, fun p hp => q _ _ _ (hk p) (e.newN l hp .lst (by rw [← h2]; simp [T.kids]) fun j v t q1 q2 => ?_)⟩
  simp only [T.kids] at q2
  obtain ⟨ky, e1, rfl⟩ := get_map q2
  obtain ⟨kv, e2, rfl⟩ := get_map q1
  rw [← h2, List.getElem?_map, e2] at e1
  cases e1
  exact ⟨_, rfl, kD_rd _⟩⟩
def fTuple : Fd := fun ρ as Q => ∃ t, as = [t] ∧ ∃ u, Rs ρ t u ∧ ∃ xs ds, u.seqK = some xs ∧ allSh xs = some ds ∧ Q (.sh (.tup ds))
theorem cd_tuple : CbD (rTupQ K) fTuple := ⟨fun Γ H σ tv ρ tt vs as Q k e l ⟨t, ea, u, hr, xs, ds, hs, hd, hk⟩ q => by
  subst ea
  obtain ⟨v, rfl⟩ := e.vs1 l
  have ex := allSh_eq hd
  have ru := Rs.rep e e.one hr
  have e0 := e.drop l
  have eo : ∀ b, Av Γ (ownsL (ρ ++ (tt ++ [t]))) b → Av Γ (ownsL (ρ ++ tt)) b := fun b av => av_le (fun c => by simp only [ownsL_append, cn_app]; omega) av
  unfold T.seqK at hs
  split at hs
  · rename_i ys el
    cases hs
    obtain ⟨a, ws, rfl, h1, h2, kd⟩ := ru.lstK el
    refine ⟨a, ws, rfl, .inl ⟨.inl (.inl h1), fun p hp => q _ _ _ hk (e0.newT hp (by rw [h2, ex, List.length_map]) fun j v d q1 q2 => ?_)⟩⟩
    exact (kd j v (.sh d) q1 (by rw [ex]; exact map_get q2)).un.mono fun b o av hb => ⟨.of hb hb, eo b av⟩
  · obtain ⟨a, ws, ev, h1, h2, kd⟩ := ru.tupK hs
    subst ev
    refine ⟨a, ws, rfl, .inr ⟨.inl (.inl h1), q _ _ _ hk (e0.push ?_)⟩⟩
    have aa : Av Γ (ownsL (ρ ++ (tt ++ [t]))) a := by
      cases ru with
      | sh r =>
        cases r with
        | tup _ aa _ _ => exact aa
        | _ => cases hs
      | tup _ aa _ _ => exact aa
      | _ => cases hs
    exact .tup h1 (eo a aa) (by rw [h2, ex, List.length_map]) fun j v d q1 q2 => (kd j v (.sh d) q1 (by rw [ex]; exact map_get q2)).un.mono fun b o av hb => ⟨.of hb hb, eo b av⟩⟩
def fDict : Fd := fun ρ as Q => ∃ t, as = [t] ∧ ∃ u, Rs ρ t u ∧ ∃ ks xs ds, u.dictK = some (ks, xs) ∧ allSh xs = some ds ∧ ∀ a, Q (.dK a ks (ds.map T.sh))
theorem cd_dict : CbD rDictQ fDict := ⟨fun Γ H σ tv ρ tt vs as Q k e l ⟨t, ea, u, hr, ks, xs, ds, hs, hd, hk⟩ q => by
  subst ea
  obtain ⟨v, rfl⟩ := e.vs1 l
  obtain ⟨a, kvs, rfl, h1, h2, h3, kd⟩ := (Rs.rep e e.one hr).dictK hs
  have ex := allSh_eq hd
  subst h2
  refine ⟨a, kvs, rfl, h1, fun p hp => q _ _ _ (hk p) (e.newN l hp .dK (by rw [List.length_map, h3, ex]; rfl) fun j v t q1 q2 => ?_)⟩
  obtain ⟨d, e1, rfl⟩ := get_map q2
  obtain ⟨kv, e2, rfl⟩ := get_map q1
  exact ⟨d, rfl, (kd j kv (.sh d) e2 (by rw [ex]; exact q2)).un⟩⟩
def fInt : Fd := fun ρ as Q => (∃ i, as = [.sh (.int i)] ∧ Q (.sh (.int i))) ∨ ∃ b, as = [.sh (.bl b)] ∧ Q (.sh (.int (if b then 1 else 0)))
theorem cd_int : CbD rInt1 fInt := ⟨fun Γ H σ tv ρ tt vs as Q k e l h q => by
  rcases h with ⟨i, ea, hk⟩ | ⟨b, ea, hk⟩
  · subst ea
    obtain ⟨v, rfl⟩ := e.vs1 l
    have r := e.one
    cases r with
    | sh r =>
    cases r
    exact .inl ⟨i, rfl, q _ _ H hk ((e.drop l).push (.int _))⟩
  · subst ea
    obtain ⟨v, rfl⟩ := e.vs1 l
    have r := e.one
    cases r with
    | sh r =>
    cases r
    exact .inr ⟨b, rfl, q _ _ H hk ((e.drop l).push (.int _))⟩⟩
/-! ### sorted, of texts -/
theorem svs_strs : ∀ zs : List Str, svs (zs.map fun z => T.sh (.str z)) = some (zs.map V.str)
  | [] => rfl
  | z :: zs => by rw [List.map_cons, svs, svs_strs zs]; rfl
def fSortS : Fd := fun ρ as Q => ∃ t, as = [t] ∧ ∃ u, Rs ρ t u ∧ ∃ zs : List Str, u.lstK = some (zs.map fun z => T.sh (.str z)) ∧ zs.length < 64 ∧ ∀ (ys : List Str) (a : Addr), ys.Perm zs → sortedS ys = true → Q (.lst a (ys.map fun z => T.sh (.str z)))
theorem cd_sortS : CbD (rSortedS K) fSortS := ⟨fun Γ H σ tv ρ tt vs as Q k e l ⟨t, ea, u, hr, zs, hs, h64, hk⟩ q => by
  subst ea
  obtain ⟨v, rfl⟩ := e.vs1 l
  obtain ⟨a, ws, rfl, h1, h2, kd⟩ := (Rs.rep e e.one hr).lstK hs
  obtain ⟨h3, _⟩ := svs_eq (svs_strs zs) h2 kd
  subst h3
  refine ⟨a, zs, rfl, .inl (.inl h1), h64, fun ys p hp1 hp2 hp => q _ _ _ (hk ys p hp1 hp2) (e.newN l hp .lst (by simp [T.kids]) fun j v t q1 q2 => ?_)⟩
  simp only [T.kids] at q2
  obtain ⟨z, e1, rfl⟩ := get_map q2
  obtain ⟨z', e2, rfl⟩ := get_map q1
  rw [e1] at e2
  cases e2
  exact ⟨_, rfl, .str z⟩⟩
def fSortD : Fd := fun ρ as Q => ∃ t, as = [t] ∧ ∃ u, Rs ρ t u ∧ ∃ (zs : List Str) (xs : List T), u.dictK = some (zs.map Sum.inr, xs) ∧ zs.length < 64 ∧ ∀ (ys : List Str) (a : Addr), ys.Perm zs → sortedS ys = true → Q (.lst a (ys.map fun z => T.sh (.str z)))
theorem cd_sortD : CbD rSortedDQ fSortD := ⟨fun Γ H σ tv ρ tt vs as Q k e l ⟨t, ea, u, hr, zs, xs, hs, h64, hk⟩ q => by
  subst ea
  obtain ⟨v, rfl⟩ := e.vs1 l
  obtain ⟨a, kvs, rfl, h1, h2, h3, kd⟩ := (Rs.rep e e.one hr).dictK hs
  refine ⟨a, kvs, zs, rfl, h1, h2, h64, fun ys p hp1 hp2 hp => q _ _ _ (hk ys p hp1 hp2) (e.newN l hp .lst (by simp [T.kids]) fun j v t q1 q2 => ?_)⟩
  simp only [T.kids] at q2
  obtain ⟨z, e1, rfl⟩ := get_map q2
  obtain ⟨z', e2, rfl⟩ := get_map q1
  rw [e1] at e2
  cases e2
  exact ⟨_, rfl, .str z⟩⟩
/-! ### isinstance -/
def T.tyn : T → Option String
  | .sh .non => some "NoneType"
  | .sh (.bl _) => some "bool"
  | .sh (.int _) => some "int"
  | .sh (.str _) => some "str"
  | .sh (.lst _) => some "list"
  | .sh (.tup _) => some "tuple"
  | .sh (.dK _ _) => some "dict"
  | .lst _ _ => some "list"
  | .tup _ => some "tuple"
  | .dK _ _ _ => some "dict"
  | _ => none
theorem R.tyn {H : Hp} {A : Addr → Prop} {v : V} {u : T} {n : String} (r : R H A (some v) u) (h : u.tyn = some n) : TyX K H v (.type n) := by
  cases r with
  | sh r =>
    cases r with
    | non => cases h; exact ty_non
    | bl => cases h; exact ty_bl
    | int => cases h; exact ty_int
    | str => cases h; exact ty_str
    | lst e => cases h; exact ty_L (lq e)
    | tup e => cases h; exact ty_T (tq e)
    | dK e => cases h; exact ty_D e
    | _ => cases h
  | lst e => cases h; exact ty_L (lq e)
  | tup e => cases h; exact ty_T (tq e)
  | dK e => cases h; exact ty_D (.inl e)
  | _ => cases h
def fIsi : Fd := fun ρ as Q => ∃ t n, as = [t, .sh (.ty n)] ∧ ∃ u, Rs ρ t u ∧ ∃ m b, u.tyn = some m ∧ kitB m n = some b ∧ Q (.sh (.bl b))
theorem cd_isi : CbD (rIsi K) fIsi := ⟨fun Γ H σ tv ρ tt vs as Q k e l ⟨t, n, ea, u, hr, m, b, hm, hb, hk⟩ q => by
  subst ea
  obtain ⟨v, w, rfl⟩ := e.vs2 l
  obtain ⟨r1, r2⟩ := e.two l
  have r2 := r2.un
  cases r2
  exact g_isi ⟨_, (Rs.rep e r1 hr).tyn hm, kit_ty hb⟩ (q _ _ H hk ((e.drop l).push (.bl _)))⟩
def fIsi2 : Fd := fun ρ as Q => ∃ t n n', as = [t, .sh (.tup [.ty n, .ty n'])] ∧ ∃ u, Rs ρ t u ∧ ∃ m b b', u.tyn = some m ∧ kitB m n = some b ∧ kitB m n' = some b' ∧ Q (.sh (.bl (b || b')))
theorem cd_isi2 : CbD (rIsiT K) fIsi2 := ⟨fun Γ H σ tv ρ tt vs as Q k e l ⟨t, n, n', ea, u, hr, m, b, b', hm, hb, hb', hk⟩ q => by
  subst ea
  obtain ⟨v, w, rfl⟩ := e.vs2 l
  obtain ⟨r1, r2⟩ := e.two l
  have r2 := r2.un
  cases r2 with
  | @tup a ws _ h1 _ h3 kd =>
  match ws, h3 with
  | [x, y], _ =>
  have rx := kd 0 x _ rfl rfl
  have ry := kd 1 y _ rfl rfl
  cases rx
  cases ry
  exact g_isi2 h1 ((Rs.rep e r1 hr).tyn hm) (kit_ty hb) (kit_ty hb') (q _ _ H hk ((e.drop l).push (.bl _)))⟩
/-! ### list + list, tuple + tuple, slices -/
def fCat : Fd := fun ρ as Q => ∃ t t', as = [t, t'] ∧ ∃ u, Rs ρ t u ∧ ∃ u', Rs ρ t' u' ∧ ∃ xs xs' ds ds', u.lstK = some xs ∧ u'.lstK = some xs' ∧ allSh xs = some ds ∧ allSh xs' = some ds' ∧ ds.length + ds'.length ≤ 10000 ∧ ∀ a, Q (.lst a ((ds ++ ds').map T.sh))
theorem cd_cat : CbD (r2 rCat) fCat := ⟨fun Γ H σ tv ρ tt vs as Q k e l ⟨t, t', ea, u, hr, u', hr', xs, xs', ds, ds', hs, hs', hd, hd', hl, hk⟩ q x y ev => by
  subst ea ev
  obtain ⟨r1, r2⟩ := e.two l
  obtain ⟨a, ws, rfl, h1, h2, kd⟩ := (Rs.rep e r1 hr).lstK hs
  obtain ⟨a', ws', rfl, h1', h2', kd'⟩ := (Rs.rep e r2 hr').lstK hs'
  have ex := allSh_eq hd
  have ex' := allSh_eq hd'
  have lw : ws.length = ds.length := by rw [h2, ex, List.length_map]
  have lw' : ws'.length = ds'.length := by rw [h2', ex', List.length_map]
  refine ⟨a, a', ws, ws', rfl, rfl, h1, h1', szl (by omega), fun p hp => q _ _ _ (hk p) (e.newN l hp .lst (by simp [T.kids, lw, lw']) fun j v t q1 q2 => ?_)⟩
  simp only [T.kids] at q2
  obtain ⟨d, e1, rfl⟩ := get_map q2
  refine ⟨d, rfl, ?_⟩
  rcases ap_cases q1 with q1 | ⟨m, rfl, hm⟩
  · have hj := (List.getElem?_eq_some_iff.mp q1).1
    rw [List.getElem?_append_left (by omega)] at e1
    exact (kd j v (.sh d) q1 (by rw [ex]; exact map_get e1)).un
  · rw [lw, List.getElem?_append_right (by omega), Nat.add_sub_cancel_left] at e1
    exact (kd' m v (.sh d) hm (by rw [ex']; exact map_get e1)).un⟩
def cutL {α : Type} (xs : List α) (lo hi : Option Int) : List α := (xs.drop (HT.sIx xs.length 0 lo)).take (HT.sIx xs.length xs.length hi - HT.sIx xs.length 0 lo)
theorem cut_get {α β : Type} {xs : List α} {ys : List β} {lo hi : Option Int} (l : xs.length = ys.length) {j : Nat} {x : α} {y : β} (h1 : (cutL xs lo hi)[j]? = some x) (h2 : (cutL ys lo hi)[j]? = some y) : ∃ m : Nat, xs[m]? = some x ∧ ys[m]? = some y := by
  unfold cutL at h1 h2
  rw [List.getElem?_take] at h1 h2
  rw [← l] at h2
  split at h1
  · rename_i c
    rw [if_pos c] at h2
    rw [List.getElem?_drop] at h1 h2
    exact ⟨_, h1, h2⟩
  · cases h1
/-- a part of a slice -/
def WO := XD → Env → (Option Int → Env → Prop) → Prop
def RfO (W : Wx) (t : TO) (w : WO) : Prop := ∀ σ H Q, (∃ (Γ : Cg) (tv : List (Option V)) (ρ : Env) (tt : List T) (χ : XD) (Q1 : Option Int → Env → Prop), En Γ H σ tv ρ tt ∧ w χ ρ Q1 ∧ XOk W Γ tv tt σ χ ∧ ∀ b ρ' H', Q1 b ρ' → En Γ H' σ tv ρ' tt → Q b H') → t σ H Q
def woNone : WO := fun _ ρ Q => Q none ρ
def woSome (w : WE) : WO := fun χ ρ Q => w χ ρ fun t ρ1 => ∃ i, t = .sh (.int i) ∧ Q (some i) ρ1
theorem rfo_none : RfO W tNoPart woNone := fun σ H Q ⟨Γ, tv, ρ, tt, χ, Q1, e, h, x, k⟩ => k none ρ H h e
def wSlL (wa : WE) (w1 w2 : WO) : WE := fun χ ρ Q => wa χ ρ fun t ρ1 => w1 χ ρ1 fun lo ρ2 => w2 χ ρ2 fun hi ρ3 => ∃ u, Rs ρ3 t u ∧ ∃ xs ds, u.lstK = some xs ∧ allSh xs = some ds ∧ ∀ a, Q (.lst a ((cutL ds lo hi).map T.sh)) ρ3
theorem rf_slL {ta : TE} {t1 t2 : TO} {wa : WE} {w1 w2 : WO} (ha : Rf W ta wa) (h1 : RfO W t1 w1) (h2 : RfO W t2 w2) : Rf W (tSl (rSlL K) ta t1 t2) (wSlL wa w1 w2) := fun σ H Q ⟨Γ, tv, ρ, tt, χ, Q1, e, h, x, k⟩ => by
  refine ha σ H _ ⟨Γ, tv, ρ, tt, χ, _, e, h, x, fun t ρ1 v H1 q1 e1 => ?_⟩
  refine h1 σ H1 _ ⟨Γ, _, ρ1, _, χ, _, e1, q1, x.deep e.tl rfl, fun lo ρ2 H2 q2 e2 => ?_⟩
  refine h2 σ H2 _ ⟨Γ, _, ρ2, _, χ, _, e2, q2, x.deep e.tl rfl, fun hi ρ3 H3 ⟨u, hr, xs, ds, hu, hs, q3⟩ e3 => ?_⟩
  obtain ⟨a, ws, rfl, ea, l, kd⟩ := (Rs.rep e3 e3.last hr).lstK hu
  have ex := allSh_eq hs
  have lw : ws.length = ds.length := by rw [l, ex, List.length_map]
  refine ⟨a, ws, rfl, .inl (.inl ea), fun p hp => k _ ρ3 _ _ (q3 p) (e3.newN e.tl hp .lst ?_ fun j v t z1 z2 => ?_)⟩
  · simp only [T.kids, List.length_map]
    unfold cutV cutL
    rw [List.length_take, List.length_take, List.length_drop, List.length_drop, lw]
  · simp only [T.kids] at z2
    obtain ⟨d, z3, rfl⟩ := get_map z2
    obtain ⟨m, m1, m2⟩ := cut_get (xs := ws) (ys := ds) lw z1 z3
    exact ⟨d, rfl, (kd m v (.sh d) m1 (by rw [ex]; exact map_get m2)).un⟩
end

end E
namespace E
open PySem PySem.Spec PyProof.Rows L2 G

/-- the lock, with what is known of the entry's heap -/
def tLockN (H0 : Hp) (t : TS) : TS := fun D σ H => ∃ d u, H d = some u ∧ Mut (some u) ∧ ((∀ o' u', H0 d ≠ some (.frz o' u')) → ∀ od, t ⟨fun σ' H' => H' d = some (.frz od u) ∧ D.nx σ' (upd H' d u), fun v H' => H' d = some (.frz od u) ∧ D.rt v (upd H' d u), fun σ' H' => H' d = some (.frz od u) ∧ D.bk σ' (upd H' d u), fun σ' H' => H' d = some (.frz od u) ∧ D.ct σ' (upd H' d u)⟩ σ (upd H d (.frz od u)))
theorem ps_lockN {X : Cx} {st : Stmt} {t : TS} (h : PS X st t) : PS X st (tLockN X.H_0 t) := by
  refine ⟨fun pins s σ H D I hw => ?_⟩
  obtain ⟨d, u, hd, mu, hw⟩ := hw
  obtain ⟨od, I1⟩ := I.lock hd mu
  have nf := I.nofrz hd mu
  refine thn (h.run pins s σ _ _ I1 (hw nf od)) fun f s1 q => ?_
  cases f with
  | next => obtain ⟨σ', H', I2, e, q⟩ := q; exact ⟨σ', _, I2.unlock e nf, q⟩
  | brk => obtain ⟨σ', H', I2, e, q⟩ := q; exact ⟨σ', _, I2.unlock e nf, q⟩
  | cont => obtain ⟨σ', H', I2, e, q⟩ := q; exact ⟨σ', _, I2.unlock e nf, q⟩
  | ret v => obtain ⟨x, σ', H', I2, r, e, q⟩ := q; exact ⟨x, σ', _, I2.unlock e nf, r, q⟩
/-- what an exception meets, one lock being open -/
def unW (H0 : Hp) (W : WX) : WX := fun cls dd σ H => W cls dd σ H ∨ ∃ d od u, H d = some (.frz od u) ∧ (∀ o' u', H0 d ≠ some (.frz o' u')) ∧ W cls dd σ (upd H d u)
theorem takes_un {X : Cx} {W : WX} (t : Takes X W) : Takes X (unW X.H_0 W) := fun u s' ⟨a, B, sI, pins, σ, H, cls, d, e, I, nb, up, sky, na, os, ag, w⟩ => by
  rcases w with w | ⟨dd, od, uu, h1, h2, w⟩
  · exact t u s' ⟨a, B, sI, pins, σ, H, cls, d, e, I, nb, up, sky, na, os, ag, w⟩
  · have ne : a ≠ dd := fun z => by rw [z, h1] at na; cases na
    exact t u s' ⟨a, B, sI, pins, σ, upd H dd uu, cls, d, e, I.unlock h1 h2, nb, up, sky, by rw [upd_ne ne]; exact na, os, ag, w⟩
section
variable {Γ : Cg} {H : Hp} {σ : L2.St} {tv : List (Option V)} {ρ : Env} {tt : List T} {d : Addr} {ks : List Key} {ds : List D}
abbrev lkG (Γ : Cg) (H : Hp) (d : Addr) (od : Obj) (kvs : List (Key × V)) (F : List Addr) : Cg := ⟨upd H d (.frz od (.dK kvs)), Av Γ F, fun a => a ∈ F⟩
theorem En.lock (e : En Γ H σ tv ρ tt) (cal : Calm Γ.H0) (r : RD H (Av Γ (ownsL (ρ ++ tt))) (.ref d) (.dK ks ds)) :
    ∃ kvs : List (Key × V), H d = some (.dK kvs) ∧ kvs.map Prod.fst = ks ∧ ∀ od, En (lkG Γ H d od kvs (ownsL (ρ ++ tt))) (upd H d (.frz od (.dK kvs))) σ tv ρ tt ∧
      ∀ H2 σ2 tv2 ρ2 tt2, En (lkG Γ H d od kvs (ownsL (ρ ++ tt))) H2 σ2 tv2 ρ2 tt2 → H2 d = some (.frz od (.dK kvs)) ∧ En Γ (upd H2 d (.dK kvs)) σ2 tv2 ρ2 tt2 := by
  cases r with
  | @dK _ kvs _ hr ha hl kd =>
  have hd : H d = some (.dK kvs) := by
    rcases hr with h | ⟨o, h⟩
    · exact h
    · exact absurd h (e.ok.calm cal d o kvs)
  refine ⟨kvs, hd, rfl, fun od => ?_⟩
  have nd : d ∉ ownsL (ρ ++ tt) := ha.2
  have kp : ∀ a, Kp H (upd H d (.frz od (.dK kvs))) a := fun a => by
    by_cases z : a = d
    · subst z
      refine ⟨fun u hu => ?_, fun u hu => ?_, fun C dx fs h => ?_, fun fs h => ?_, fun vs h => ?_, fun vs h => ?_⟩
      · rcases hu with hu | ⟨o, hu⟩
        · rw [hd] at hu
          cases hu
          exact .inr ⟨od, upd_same⟩
        · rw [hd] at hu; cases hu
      · rcases hu with hu | ⟨o, hu⟩ <;> (rw [hd] at hu; cases hu)
      all_goals (rw [hd] at h; cases h)
    · have q : upd H d (.frz od (.dK kvs)) a = H a := upd_ne z
      exact ⟨fun u hu => hu.elim (fun h => .inl (by rw [q]; exact h)) fun ⟨o, h⟩ => .inr ⟨o, by rw [q]; exact h⟩, fun u hu => hu.elim (fun h => .inl (by rw [q]; exact h)) fun ⟨o, h⟩ => .inr ⟨o, by rw [q]; exact h⟩, fun C dx fs h => by rw [q]; exact h, fun fs h => by rw [q]; exact h, fun vs h => by rw [q]; exact h, fun vs h => by rw [q]; exact h⟩
  refine ⟨⟨⟨e.ok.len, fun k x t h1 h2 => ?_, e.ok.nd, fun a m => .inl m, .refl _, fun _ _ _ z => z⟩, e.len⟩, fun H2 σ2 tv2 ρ2 tt2 e2 => ?_⟩
  · refine (e.ok.rep k x t h1 h2).mono (fun a o av h => ⟨kp a, .inl av, av.2⟩) fun a o m h => ?_
    rw [upd_ne (fun z => nd (by rw [← z]; exact mem_ownsL h2 m))]
    exact h
  · have h0 : (lkG Γ H d od kvs (ownsL (ρ ++ tt))).H0 d = some (.frz od (.dK kvs)) := upd_same
    have hd2 : H2 d = some (.frz od (.dK kvs)) := e2.ok.fr.keep d _ h0 nd
    refine ⟨hd2, ⟨?_, e2.len⟩⟩
    have nd2 : d ∉ ownsL (ρ2 ++ tt2) := fun m => by
      rcases e2.ok.new d m with z | z
      · exact nd z
      · rw [h0] at z; cases z
    have kp2 : ∀ a, Kp H2 (upd H2 d (.dK kvs)) a := fun a => by
      by_cases z : a = d
      · subst z
        refine ⟨fun u hu => ?_, fun u hu => ?_, fun C dx fs h => ?_, fun fs h => ?_, fun vs h => ?_, fun vs h => ?_⟩
        · rcases hu with hu | ⟨o, hu⟩
          · rw [hd2] at hu
            cases hu
          · rw [hd2] at hu
            cases hu
            exact .inl upd_same
        · rcases hu with hu | ⟨o, hu⟩ <;> (rw [hd2] at hu; cases hu)
        all_goals (rw [hd2] at h; cases h)
      · have q : upd H2 d (.dK kvs) a = H2 a := upd_ne z
        exact ⟨fun u hu => hu.elim (fun h => .inl (by rw [q]; exact h)) fun ⟨o, h⟩ => .inr ⟨o, by rw [q]; exact h⟩, fun u hu => hu.elim (fun h => .inl (by rw [q]; exact h)) fun ⟨o, h⟩ => .inr ⟨o, by rw [q]; exact h⟩, fun C dx fs h => by rw [q]; exact h, fun fs h => by rw [q]; exact h, fun vs h => by rw [q]; exact h, fun vs h => by rw [q]; exact h⟩
    have inA : ∀ b, (lkG Γ H d od kvs (ownsL (ρ ++ tt))).H0 b = none → H b = none := fun b z => by
      have z : upd H d (.frz od (.dK kvs)) b = none := z
      by_cases c : b = d
      · subst c; rw [upd_same] at z; cases z
      · rw [upd_ne c] at z; exact z
    refine ⟨e2.ok.len, fun k x t h1 h2 => ?_, e2.ok.nd, fun a m => ?_, ⟨fun b o h n => ?_, fun b h => ?_⟩, fun a o kvs' h => ?_⟩
    · have hav : ∀ a, Av (lkG Γ H d od kvs (ownsL (ρ ++ tt))) (ownsL (ρ2 ++ tt2)) a → Av Γ (ownsL (ρ2 ++ tt2)) a := fun a av => by
        refine ⟨?_, av.2⟩
        rcases av.1 with z | z | z
        · exact z.1
        · exact .inr (.inl (e.ok.fr.free a (inA a z)))
        · exact (e.ok.new a z).elim (fun z => .inr (.inr z)) fun z => .inr (.inl z)
      refine (e2.ok.rep k x t h1 h2).mono (fun a o av h => ⟨kp2 a, hav a av⟩) fun a o m h => ?_
      · rw [upd_ne (fun z => nd2 (by rw [← z]; exact mem_ownsL h2 m))]
        exact h
    · rcases e2.ok.new a m with z | z
      · exact e.ok.new a z
      · exact .inr (e.ok.fr.free a (inA a z))
    · have hb := e.ok.fr.keep b o h n
      by_cases c : b = d
      · subst c
        rw [hd] at hb
        rw [upd_same]
        exact hb
      · rw [upd_ne c]
        refine e2.ok.fr.keep b o (show upd H d (.frz od (.dK kvs)) b = some o by rw [upd_ne c]; exact hb) fun m => ?_
        rcases e.ok.new b m with z | z
        · exact n z
        · rw [h] at z; cases z
    · by_cases c : b = d
      · subst c; rw [upd_same] at h; cases h
      · rw [upd_ne c] at h
        exact e.ok.fr.free b (inA b (e2.ok.fr.free b h))
    · by_cases c : a = d
      · subst c; rw [upd_same] at h; cases h
      · rw [upd_ne c] at h
        have z := e2.ok.nf a o kvs' h
        have z : upd H d (.frz od (.dK kvs)) a = some (.frz o (.dK kvs')) := z
        rw [upd_ne c] at z
        exact e.ok.nf a o kvs' z
end
section
variable {W : Wx} {K : PySem.W.Frag}
def wForK (i : Nat) (wg : WG) (wb : WS) : WS := fun k ρ => ∃ ks ds, ρ[i]? = some (.sh (.dK ks ds)) ∧ ∃ I : Nat → Env → Prop, I 0 ρ ∧
  (∀ (j : Nat) (ky : Key) (ρ2 : Env), ks[j]? = some ky → I j ρ2 → wg (.sh (kD ky)) ρ2 fun ρ3 => wb { k with nx := fun ρ' => ∃ ρ4, Pubs ρ' ρ4 ∧ I (j + 1) ρ4, ct := fun ρ' => ∃ ρ4, Pubs ρ' ρ4 ∧ I (j + 1) ρ4, bk := k.nx } ρ3) ∧ ∀ ρ2, I ks.length ρ2 → k.nx ρ2
theorem rfs_forK {bs : List Nat} {i : Nat} {H0 : Hp} {g : TG} {tb : TS} {wg : WG} {wb : WS} (hc : W.c = true) (hg : RfG (fun k => k ∈ bs) g wg) (hb : RfS bs ⟨unW H0 W.x, false⟩ tb wb) : RfS bs W (tLockN H0 (tFor (iKeys (tVar i)) g tb)) (wForK i wg wb) := fun D σ H ⟨Γ, tv, ρ, tt, k, e, ⟨ks, ds, hi, I, i0, turn, fin⟩, o⟩ => by
  obtain ⟨y, hy⟩ := get_of_len e.len hi
  have r := e.ok.rep i y _ (ap_left hy) (ap_left hi)
  have cal := o.cal hc
  cases r with
  | sh r =>
  rename_i v
  obtain ⟨d, rfl⟩ : ∃ d, v = V.ref d := by cases r; exact ⟨_, rfl⟩
  obtain ⟨kvs, hd, ek, lk⟩ := e.lock cal r
  refine ⟨d, .dK kvs, hd, True.intro, fun nf od => ?_⟩
  obtain ⟨e1, un⟩ := lk od
  have lks : kvs.length = ks.length := by rw [← ek, List.length_map]
  refine ⟨.ref d, hy, d, od, rfl, .inl ⟨kvs, upd_same, ?_⟩⟩
  refine ⟨fun j m σ' H' => m = kvs.length - j ∧ j ≤ kvs.length ∧ ∃ ρ', I j ρ' ∧ Pn bs σ σ' ∧ En (lkG Γ H d od kvs (ownsL (ρ ++ tt))) H' σ' tv ρ' tt, ⟨kvs.length, by simp, Nat.zero_le _, ρ, i0, .refl _ _, e1⟩, ?_⟩
  rintro j m σ' H' ⟨rfl, hjl, ρ', hI, hp, e2⟩
  obtain ⟨hd2, e2u⟩ := un H' σ' tv ρ' tt e2
  by_cases hlt : j < kvs.length
  · refine .inr ⟨⟨hd2, hlt⟩, fun σ2 H2 => ∃ ρ2, I (j + 1) ρ2 ∧ Pn bs σ σ2 ∧ En (lkG Γ H d od kvs (ownsL (ρ ++ tt))) H2 σ2 tv ρ2 tt, fun σ2 H2 ⟨ρ2, h2, p2, e3⟩ => ⟨kvs.length - (j + 1), by omega, rfl, hlt, ρ2, h2, p2, e3⟩, fun x H2 yy => ?_⟩
    obtain ⟨rfl, ky, vv, hkv, rfl⟩ := yy
    have hky : ks[j]? = some ky := by rw [← ek]; exact map_get hkv
    refine hg _ H2 σ' tv ρ' tt (kV ky) (.sh (kD ky)) _ _ (e2.push (kD_rd ky)) e.tl (turn j ky ρ' hky hI) fun ρ3 σ3 H3 h3 p3 _ e4 => ?_
    have p3' : Pn bs σ σ3 := hp.trans fun j hj => p3 j hj
    refine hb _ σ3 H3 ⟨_, _, ρ3, _, _, e4, h3, ?_⟩
    exact ⟨fun ρ4 σ4 H4 ⟨ρ5, pb, h4⟩ p4 e5 => ⟨ρ5, h4, p3'.trans p4, e5.pubs pb⟩, fun t ρ4 v σ4 H4 h4 p4 e5 => ⟨(un _ _ _ _ _ e5).1, o.rt t ρ4 v σ4 _ h4 (p3'.trans p4) (un _ _ _ _ _ e5).2⟩, fun ρ4 σ4 H4 h4 p4 e5 => ⟨(un _ _ _ _ _ e5).1, o.nx ρ4 σ4 _ h4 (p3'.trans p4) (un _ _ _ _ _ e5).2⟩, fun ρ4 σ4 H4 ⟨ρ5, pb, h4⟩ p4 e5 => ⟨ρ5, h4, p3'.trans p4, e5.pubs pb⟩, fun C d' fl ds' ρ4 σ4 H4 h4 p4 e5 => .inr ⟨d, od, .dK kvs, (un _ _ _ _ _ e5).1, nf, o.xc C d' fl ds' ρ4 σ4 _ h4 (p3'.trans p4) (un _ _ _ _ _ e5).2⟩, fun z => nomatch z⟩
  · have : j = kvs.length := by omega
    subst this
    exact .inl ⟨⟨hd2, Nat.le_refl _⟩, hd2, o.nx ρ' σ' _ (fin ρ' (lks ▸ hI)) hp e2u⟩
end

end E
namespace E
open PySem PySem.Spec PyProof.Rows L2 G

section
variable {W : Wx} {K : PySem.W.Frag}
theorem rf_ty {n : String} : Rf W (tC (.ty n)) (wC (.sh (.ty n))) := rf_c fun _ _ => .ty n
theorem rf_ref {a : Addr} : Rf W (tC (.ref a)) (wC (.sh (.at a 0 []))) := rf_c fun _ _ => .at a 0 []
def wYes : WT := fun _ ρ Q => Q true ρ
theorem rft_yes : RfT W tYes wYes := fun σ H Q ⟨Γ, tv, ρ, tt, χ, Q1, e, h, x, k⟩ => k true ρ H h e
theorem rfo_some {ta : TE} {wa : WE} (ha : Rf W ta wa) : RfO W (tPart ta) (woSome wa) := fun σ H Q ⟨Γ, tv, ρ, tt, χ, Q1, e, h, x, k⟩ => by
  refine ha σ H _ ⟨Γ, tv, ρ, tt, χ, _, e, h, x, fun t ρ1 v H1 ⟨i, et, h1⟩ e1 => ?_⟩
  subst et
  have r := e1.last.un
  cases r
  exact ⟨i, rfl, k _ ρ1 H1 h1 (e1.drop e.tl)⟩
theorem cd_gt : CbD (r2 (rI0 fun i j => .bl (decide (j < i)))) (fI0 fun i j => .bl (decide (j < i))) := cd_I0 fun _ _ _ _ => .bl _
theorem cd_ge : CbD (r2 (rI0 fun i j => .bl (decide (j ≤ i)))) (fI0 fun i j => .bl (decide (j ≤ i))) := cd_I0 fun _ _ _ _ => .bl _
/-- the truth of a value -/
def wTru (wa : WE) : WT := fun χ ρ Q => wa χ ρ fun t ρ1 => ∃ u, Rs ρ1 t u ∧ ((∃ xs, u.seqK = some xs ∧ Q (!xs.isEmpty) ρ1) ∨ (u = .sh .non ∧ Q false ρ1) ∨ (∃ b, u = .sh (.bl b) ∧ Q b ρ1) ∨ ∃ i, u = .sh (.int i) ∧ Q (i != 0) ρ1)
theorem rft_tru {ta : TE} {wa : WE} (ha : Rf W ta wa) : RfT W (G.tTru K ta) (wTru wa) := fun σ H Q ⟨Γ, tv, ρ, tt, χ, Q1, e, h, x, k⟩ => by
  refine ha σ H _ ⟨Γ, tv, ρ, tt, χ, _, e, h, x, fun t ρ1 v H1 ⟨u, hr, h1⟩ e1 => ?_⟩
  have ru := Rs.rep e1 e1.last hr
  have e2 := e1.drop e.tl
  rcases h1 with ⟨xs, hs, h1⟩ | ⟨rfl, h1⟩ | ⟨b, rfl, h1⟩ | ⟨i, rfl, h1⟩
  · obtain ⟨a, vs, rfl, h2, h3, _⟩ := ru.seqK (K := K) hs
    have : (!vs.isEmpty) = !xs.isEmpty := by
      cases vs <;> cases xs <;> simp at h3 ⊢
    rcases h2 with h2 | h2
    · exact ⟨_, .inl ⟨vs, h2, this.symm⟩, k _ ρ1 H1 h1 e2⟩
    · exact ⟨_, .inr (.inl ⟨vs, h2, this.symm⟩), k _ ρ1 H1 h1 e2⟩
  · have r := ru.un
    cases r
    exact ⟨_, rfl, k _ ρ1 H1 h1 e2⟩
  · have r := ru.un
    cases r
    exact ⟨_, rfl, k _ ρ1 H1 h1 e2⟩
  · have r := ru.un
    cases r
    exact ⟨_, rfl, k _ ρ1 H1 h1 e2⟩
/-- [elt for x in d] of a dict -/
def wLcK (i : Nat) (g : WG) (wt : WT) (we : WE) (vs : List Nat) : WE := fun χ ρ Q => ∃ ks ds, ρ[i]? = some (.sh (.dK ks ds)) ∧ ∃ I : Nat → Env → List T → Prop, I 0 (wipeE ρ vs) [] ∧ (∀ j ρ2 acc, I j ρ2 acc → acc.length < 10000) ∧
  (∀ (j : Nat) (ky : Key) (ρ2 : Env) (acc : List T), ks[j]? = some ky → I j ρ2 acc → g (.sh (kD ky)) ρ2 fun ρ3 => wt noX ρ3 fun b ρ4 => if b = true then we noX ρ4 fun y ρ5 => ∃ y', PubT y y' ∧ I (j + 1) (wipeE ρ5 vs) (acc ++ [y']) else I (j + 1) (wipeE ρ4 vs) acc) ∧ ∀ ρ2 acc, I ks.length ρ2 acc → ∀ a, Q (.lst a acc) (wipeE ρ2 vs)
theorem rf_lcK {i : Nat} {g : TG} {tt' : TT} {te : TE} {vs : List Nat} {wg : WG} {wt : WT} {we : WE} (hc : W.c = true) (hg : RfG (fun k => k ∉ vs) g wg) (ht : RfT (W0 false) tt' wt) (he : Rf (W0 false) te we) : Rf W (tLockE (tLc (iKeys (tVar i)) g tt' te vs)) (wLcK i wg wt we vs) := fun σ H Q ⟨Γ, tv, ρ, tt, χ, Q1, e, ⟨ks, ds, hi, I, i0, hP, turn, fin⟩, x, k⟩ => by
  obtain ⟨y, hy⟩ := get_of_len e.len hi
  have r := e.ok.rep i y _ (ap_left hy) (ap_left hi)
  have cal := x.1 hc
  cases r with
  | sh r =>
  rename_i v
  obtain ⟨d, rfl⟩ : ∃ d, v = V.ref d := by cases r; exact ⟨_, rfl⟩
  obtain ⟨kvs, hd, ek, lk⟩ := e.lock cal r
  refine ⟨d, .dK kvs, hd, True.intro, fun od => ?_⟩
  obtain ⟨e1, un⟩ := lk od
  refine ⟨.ref d, hy, d, od, rfl, .inl ⟨kvs, upd_same, ?_⟩⟩
  have lks : kvs.length = ks.length := by rw [← ek, List.length_map]
  have wk : Wk (lkG Γ H d od kvs (ownsL (ρ ++ tt))) tv [] tt [] (fun _ => True) (Itk d od kvs) (ks.map fun ky => .sh (kD ky)) := by
    refine ⟨fun j H' σ' ρ' hj _ e2 => ?_, fun H' σ' ρ' _ e2 => ?_, fun j H' σ' ρ' yv H'' zs ws hj _ e2 hy2 => ?_⟩
    · rw [List.length_map] at hj
      exact ⟨(un H' σ' _ ρ' _ e2).1, by omega⟩
    · rw [List.length_map]
      exact ⟨(un H' σ' _ ρ' _ e2).1, by omega⟩
    · obtain ⟨rfl, ky, vv, hkv, rfl⟩ := hy2
      exact ⟨.sh (kD ky), map_get (by rw [← ek]; exact map_get hkv), e2.push (kD_rd ky)⟩
  refine lcCore hg ht he (P := fun _ => True) (I := I) (xv := []) (xt := []) (ρ1 := ρ) (Qd := fun D H2 => H2 d = some (.frz od (.dK kvs)) ∧ Q (.ref D) (upd H2 d (.dK kvs))) (fun z => nomatch z) e.tl rfl i0 (fun j ρ2 acc h => ⟨True.intro, hP j ρ2 acc h⟩) (fun j t ρ2 acc ht hI => ?_) (by rw [List.append_nil, List.append_nil]; exact e1) wk fun D H2 ρ2 acc hI e3 => ?_
  · obtain ⟨ky, hky, rfl⟩ := get_map ht
    exact turn j ky ρ2 acc hky hI
  · rw [List.length_map] at hI
    rw [List.nil_append, List.nil_append] at e3
    obtain ⟨h1, h2⟩ := un H2 σ _ _ _ e3
    exact ⟨h1, k _ _ _ _ (fin ρ2 acc hI D) h2⟩
end
/-! ### steps -/
section
variable {χ : XD} {ρ ρ1 : Env} {Q : T → Env → Prop} {k : WK} {t u : T} {i : Nat}
theorem d_seq {a b : WS} (h : a { k with nx := fun ρ1 => ∃ ρ2, Pubs ρ1 ρ2 ∧ b k ρ2 } ρ) : wSeq a b k ρ := h
theorem d_p0 {P : Env → Prop} (h : P ρ) : ∃ ρ2, Pubs ρ ρ2 ∧ P ρ2 := ⟨ρ, .refl ρ, h⟩
theorem d_p1 {P : Env → Prop} {d : D} (i : Nat) (h1 : ρ[i]? = some t) (h2 : t.pub = some d) (h : ∃ ρ2, Pubs (ρ.set i (.sh d)) ρ2 ∧ P ρ2) : ∃ ρ2, Pubs ρ ρ2 ∧ P ρ2 := let ⟨ρ2, p, q⟩ := h; ⟨ρ2, .step i h1 h2 p, q⟩
theorem d_next (h : k.nx ρ) : wNext k ρ := h
theorem d_brk (h : k.bk ρ) : wBrk k ρ := h
theorem d_cont (h : k.ct ρ) : wCont k ρ := h
theorem d_drop {w : WE} (h : w k.xc ρ fun _ ρ1 => k.nx ρ1) : wDrop w k ρ := h
theorem d_ret {w : WE} (h : w k.xc ρ k.rt) : wRet w k ρ := h
theorem d_retN (h : k.rt (.sh .non) ρ) : wRetN k ρ := h
theorem d_if {c : WT} {a b : WS} (h : c k.xc ρ fun x ρ1 => if x = true then a k ρ1 else b k ρ1) : wIf c a b k ρ := h
theorem d_asg {w : WE} {g : WG} (h : w k.xc ρ fun t ρ1 => g t ρ1 k.nx) : wAsg w g k ρ := h
theorem d_name {q : Env → Prop} (hi : i < ρ.length) (h : q (ρ.set i t)) : gwName i t ρ q := ⟨hi, h⟩
theorem d_c (h : Q t ρ) : wC t χ ρ Q := h
theorem d_var (h1 : ρ[i]? = some t) (h2 : t.rd i [] = some u) (h : Q u ρ) : wVar i χ ρ Q := ⟨t, u, h1, h2, h⟩
theorem d_mv (h1 : ρ[i]? = some t) (h2 : t.live = true) (h : Q t (ρ.set i (t.left i))) : wMv i χ ρ Q := ⟨t, h1, h2, h⟩
theorem d_op {f : Fd} {wa wb : WE} (h : wa χ ρ fun t1 ρ1 => wb χ ρ1 fun t2 ρ2 => f ρ2 [t1, t2] fun t => Q t ρ2) : wOp f wa wb χ ρ Q := h
theorem d_un {f : Fd} {wa : WE} (h : wa χ ρ fun t1 ρ1 => f ρ1 [t1] fun t => Q t ρ1) : wUn f wa χ ρ Q := h
theorem d_cb {f : Fd} {wa : WA} (h : wa χ ρ fun ts ρ1 => f ρ1 ts fun t => Q t ρ1) : wCb f wa χ ρ Q := h
theorem d_nil {q : List T → Env → Prop} (h : q [] ρ) : waN χ ρ q := h
theorem d_cons {wa : WE} {wr : WA} {q : List T → Env → Prop} (h : wa χ ρ fun t ρ1 => wr χ ρ1 fun ts ρ2 => q (t :: ts) ρ2) : waC wa wr χ ρ q := h
theorem d_lst {wa : WA} (h : wa χ ρ fun ts ρ1 => ts.length ≤ 10000 ∧ ∀ a, Q (.lst a ts) ρ1) : wLst wa χ ρ Q := h
theorem d_tup {wa : WA} (h : wa χ ρ fun ts ρ1 => ts.length ≤ 10000 ∧ Q (mkTup ts) ρ1) : wTup wa χ ρ Q := h
theorem d_dnew (h : ∀ a, Q (.dK a [] []) ρ) : wDNew χ ρ Q := h
theorem d_b {wa : WE} {q : Bool → Env → Prop} (h : wa χ ρ fun t ρ1 => ∃ b, t = .sh (.bl b) ∧ q b ρ1) : wB wa χ ρ q := h
theorem d_isb {b : Bool} {P : Bool → Prop} (h : P b) : ∃ c, T.sh (.bl b) = .sh (.bl c) ∧ P c := ⟨b, rfl, h⟩
theorem d_and {w w' : WT} {q : Bool → Env → Prop} (h : w χ ρ fun b ρ1 => if b = true then w' χ ρ1 q else q false ρ1) : wAnd w w' χ ρ q := h
theorem d_or {w w' : WT} {q : Bool → Env → Prop} (h : w χ ρ fun b ρ1 => if b = true then q true ρ1 else w' χ ρ1 q) : wOr w w' χ ρ q := h
theorem d_not {w : WT} {q : Bool → Env → Prop} (h : w χ ρ fun b ρ1 => q (!b) ρ1) : wNot w χ ρ q := h
theorem d_yes {q : Bool → Env → Prop} (h : q true ρ) : wYes χ ρ q := h
theorem d_andV {wa wb : WE} (h : wa χ ρ fun t ρ1 => ∃ b, t = .sh (.bl b) ∧ if b = true then wb χ ρ1 Q else Q (.sh (.bl false)) ρ1) : wAndV wa wb χ ρ Q := h
theorem d_orV {wa wb : WE} (h : wa χ ρ fun t ρ1 => ∃ b, t = .sh (.bl b) ∧ if b = true then Q (.sh (.bl true)) ρ1 else wb χ ρ1 Q) : wOrV wa wb χ ρ Q := h
theorem d_notV {wa : WE} (h : wa χ ρ fun t ρ1 => ∃ b, t = .sh (.bl b) ∧ Q (.sh (.bl (!b))) ρ1) : wNotV wa χ ρ Q := h
theorem d_ifE {w : WT} {wa wb : WE} (h : w χ ρ fun b ρ1 => if b = true then wa χ ρ1 Q else wb χ ρ1 Q) : wIfE w wa wb χ ρ Q := h
theorem d_chain {f g : Fd} {wa wb wc : WE} (h : wa χ ρ fun t1 ρ1 => wb χ ρ1 fun t2 ρ2 => ∃ d2, t2 = .sh d2 ∧ f ρ2 [t1, t2] fun t => ∃ b, t = .sh (.bl b) ∧ if b = true then wc χ ρ2 fun t3 ρ3 => g ρ3 [t2, t3] fun t => Q t ρ3 else Q (.sh (.bl false)) ρ2) : wChain f g wa wb wc χ ρ Q := h
theorem d_issh {d : D} {P : D → Prop} (h : P d) : ∃ c, T.sh d = .sh c ∧ P c := ⟨d, rfl, h⟩
variable {q : T → Prop}
theorem d_I0 {g : Int → Int → D} {a b : Int} (h : q (.sh (g a b))) : fI0 g ρ [.sh (.int a), .sh (.int b)] q := ⟨a, b, rfl, h⟩
theorem d_I {C : Int → Int → Prop} {g : Int → Int → D} {a b : Int} (hc : C a b) (h : q (.sh (g a b))) : fI C g ρ [.sh (.int a), .sh (.int b)] q := ⟨a, b, rfl, hc, h⟩
theorem d_eq {d1 d2 : D} {v1 v2 : V} (h1 : d1.sv = some v1) (h2 : d2.sv = some v2) (hs : scal v1 v2 = true) (h : q (.sh (.bl (decide (v1 = v2))))) : fEq false ρ [.sh d1, .sh d2] q := ⟨d1, d2, v1, v2, rfl, h1, h2, hs, h⟩
theorem d_ne {d1 d2 : D} {v1 v2 : V} (h1 : d1.sv = some v1) (h2 : d2.sv = some v2) (hs : scal v1 v2 = true) (h : q (.sh (.bl (!decide (v1 = v2))))) : fEq true ρ [.sh d1, .sh d2] q := ⟨d1, d2, v1, v2, rfl, h1, h2, hs, h⟩
theorem d_isN (hl : t.live = true) (h : q (.sh (.bl t.isNon))) : fIsN false ρ [t, .sh .non] q := ⟨t, rfl, hl, h⟩
theorem d_notN (hl : t.live = true) (h : q (.sh (.bl (!t.isNon)))) : fIsN true ρ [t, .sh .non] q := ⟨t, rfl, hl, h⟩
theorem d_ln {xs : List T} (h0 : Rs ρ t u) (h1 : u.seqK = some xs) (h : q (.sh (.int xs.length))) : fLen ρ [t] q := ⟨t, rfl, u, h0, xs, h1, h⟩
theorem d_ixL {xs : List T} {i : Int} {n : Nat} {x y : T} (h0 : Rs ρ t u) (h1 : u.lstK = some xs) (h2 : ixN xs.length i = some n) (h3 : xs[n]? = some x) (h4 : t.rdk x n = some y) (h : q y) : fIxL ρ [t, .sh (.int i)] q := ⟨t, i, rfl, u, h0, xs, n, x, y, h1, h2, h3, h4, h⟩
theorem d_ixT {xs : List T} {i : Int} {n : Nat} {x y : T} (h0 : Rs ρ t u) (h1 : u.tupK = some xs) (h2 : ixN xs.length i = some n) (h3 : xs[n]? = some x) (h4 : t.rdk x n = some y) (h : q y) : fIxT ρ [t, .sh (.int i)] q := ⟨t, i, rfl, u, h0, xs, n, x, y, h1, h2, h3, h4, h⟩
theorem d_in {d : D} {v : V} {xs : List T} {ws : List V} (h1 : d.sv = some v) (h0 : Rs ρ t u) (h2 : u.seqK = some xs) (h3 : svs xs = some ws) (h : q (.sh (.bl (inV v ws)))) : fIn false ρ [.sh d, t] q := ⟨d, t, v, rfl, h1, u, h0, xs, ws, h2, h3, h⟩
theorem d_nin {d : D} {v : V} {xs : List T} {ws : List V} (h1 : d.sv = some v) (h0 : Rs ρ t u) (h2 : u.seqK = some xs) (h3 : svs xs = some ws) (h : q (.sh (.bl (!inV v ws)))) : fIn true ρ [.sh d, t] q := ⟨d, t, v, rfl, h1, u, h0, xs, ws, h2, h3, h⟩
theorem d_fld {K : PySem.W.Frag} {f : Str} {wa : WE} (h : wa χ ρ fun t ρ1 => ∃ u, Rs ρ1 t u ∧ ∃ C fs xs n x y, u.objK = some (C, fs, xs) ∧ (Cls K C ∧ NoAttr K C f) ∧ kfind fs f = some n ∧ xs[n]? = some x ∧ t.rdk x n = some y ∧ Q y ρ1) : wFld K f wa χ ρ Q := h
theorem d_fldv {K : PySem.W.Frag} {f : Str} {C : Addr} {fs : List Str} {xs : List T} {n : Nat} {x y : T} {P : T → Prop} (h0 : Rs ρ t u) (h1 : u.objK = some (C, fs, xs)) (h2 : Cls K C ∧ NoAttr K C f) (h3 : kfind fs f = some n) (h4 : xs[n]? = some x) (h5 : t.rdk x n = some y) (h : P y) : ∃ u, Rs ρ t u ∧ ∃ C fs xs n x y, u.objK = some (C, fs, xs) ∧ (Cls K C ∧ NoAttr K C f) ∧ kfind fs f = some n ∧ xs[n]? = some x ∧ t.rdk x n = some y ∧ P y := ⟨u, h0, C, fs, xs, n, x, y, h1, h2, h3, h4, h5, h⟩
theorem d_dget {wd wk : WE} (h : wd χ ρ fun t ρ1 => wk χ ρ1 fun tk ρ2 => ∃ u, Rs ρ2 t u ∧ ∃ ks xs d k n x y, u.dictK = some (ks, xs) ∧ tk = .sh d ∧ d.key = some k ∧ kfind ks k = some n ∧ xs[n]? = some x ∧ t.rdk x n = some y ∧ Q y ρ2) : wDGet wd wk χ ρ Q := h
theorem d_dgetv {d : D} {ks : List Key} {xs : List T} {ky : Key} {n : Nat} {x y : T} {P : T → Prop} (h0 : Rs ρ t u) (h1 : u.dictK = some (ks, xs)) (h2 : d.key = some ky) (h3 : kfind ks ky = some n) (h4 : xs[n]? = some x) (h5 : t.rdk x n = some y) (h : P y) : ∃ u, Rs ρ t u ∧ ∃ ks xs d' k n x y, u.dictK = some (ks, xs) ∧ T.sh d = .sh d' ∧ d'.key = some k ∧ kfind ks k = some n ∧ xs[n]? = some x ∧ t.rdk x n = some y ∧ P y := ⟨u, h0, ks, xs, d, ky, n, x, y, h1, rfl, h2, h3, h4, h5, h⟩
theorem d_call {S : SpecD} {wr : WA} (h : wr χ ρ fun ts ρ1 => callW S χ ρ1 ts Q) : wCall S wr χ ρ Q := h
theorem d_call0 {S : SpecD} {wr : WA} (h : wr χ ρ fun ts ρ1 => callW S noX ρ1 ts Q) : wCall0 S wr χ ρ Q := h
theorem d_cw {S : SpecD} {ts ts2 : List T} {ρ2 : Env} {ls : List (Option (Nat × List Nat × Addr))} (hl : LendL ρ ts ρ2 ts2 ls) (h : S ts2 (fun t us => ∃ ρ3, BackL ρ2 ls us ρ3 ∧ Q t ρ3) (fun C fl ds us => ∃ ρ3, BackL ρ2 ls us ρ3 ∧ χ C fl ds ρ3)) : callW S χ ρ ts Q := ⟨ρ2, ts2, ls, hl, h⟩
theorem d_back {us : List T} {ρ3 : Env} {ls : List (Option (Nat × List Nat × Addr))} {P : Env → Prop} (hb : BackL ρ ls us ρ3) (h : P ρ3) : ∃ ρ3, BackL ρ ls us ρ3 ∧ P ρ3 := ⟨ρ3, hb, h⟩
theorem d_meth {C : Addr} {m : Str} {S : SpecD} {wa : WE} {wr : WA} (h : wa χ ρ fun t0 ρ1 => Recv C m ρ1 t0 ∧ wr χ ρ1 fun ts ρ2 => callW S χ ρ2 (t0 :: ts) Q) : wMeth C m S wa wr χ ρ Q := h
theorem d_meth0 {C : Addr} {m : Str} {S : SpecD} {wa : WE} {wr : WA} (h : wa χ ρ fun t0 ρ1 => Recv C m ρ1 t0 ∧ wr χ ρ1 fun ts ρ2 => callW S noX ρ2 (t0 :: ts) Q) : wMeth0 C m S wa wr χ ρ Q := h
theorem d_recv {C : Addr} {m : Str} {fs : List Str} {P : Prop} (h0 : Rs ρ t u) (h1 : u.cls = some (C, fs)) (h2 : fs.contains m = false) (h : P) : Recv C m ρ t ∧ P := ⟨⟨u, h0, fs, h1, h2⟩, h⟩
theorem d_app {wa : WE} {wr : WA} (h : wa χ ρ fun t0 ρ1 => isLst ρ1 t0 ∧ wr χ ρ1 fun ts ρ2 => ∃ a i p xs t, t0 = .sh (.at a i p) ∧ ts = [t] ∧ gt ρ2 i p = some (.lst a xs) ∧ xs.length < 10000 ∧ Q (.sh .non) (pt ρ2 i p (.lst a (xs ++ [t])))) : wApp wa wr χ ρ Q := h
theorem d_islst {xs : List T} {P : Prop} (h0 : Rs ρ t u) (h1 : u.lstK = some xs) (h : P) : isLst ρ t ∧ P := ⟨⟨u, h0, xs, h1⟩, h⟩
theorem d_appv {a : Addr} {i : Nat} {p : List Nat} {xs : List T} {P : Env → Prop} (h1 : gt ρ i p = some (.lst a xs)) (h2 : xs.length < 10000) (h : P (pt ρ i p (.lst a (xs ++ [t])))) : ∃ a' i' p' xs t', T.sh (.at a i p) = .sh (.at a' i' p') ∧ [t] = [t'] ∧ gt ρ i' p' = some (.lst a' xs) ∧ xs.length < 10000 ∧ P (pt ρ i' p' (.lst a' (xs ++ [t']))) := ⟨a, i, p, xs, t, rfl, rfl, h1, h2, h⟩
theorem d_for {wi : WI} {g : WG} {b : WS} (h : wi k.xc ρ fun its P ρ1 => ∃ I : Nat → Env → Prop, I 0 ρ1 ∧ (∀ i ρ2, I i ρ2 → P ρ2) ∧
  (∀ (i : Nat) (t : T) (ρ2 : Env), its[i]? = some t → I i ρ2 → g t ρ2 fun ρ3 => b { k with nx := fun ρ' => ∃ ρ4, Pubs ρ' ρ4 ∧ I (i + 1) ρ4, ct := fun ρ' => ∃ ρ4, Pubs ρ' ρ4 ∧ I (i + 1) ρ4, bk := k.nx } ρ3) ∧ ∀ ρ2, I its.length ρ2 → k.nx ρ2) : wFor wi g b k ρ := h
theorem d_iList {wa : WE} {q : List T → (Env → Prop) → Env → Prop} (h : wa χ ρ fun t ρ1 => ∃ u, Rs ρ1 t u ∧ ∃ xs ds, u.lstK = some xs ∧ allSh xs = some ds ∧ q (ds.map T.sh) (fun ρ => Rs ρ t u) ρ1) : wiList wa χ ρ q := h
theorem d_iTup {wa : WE} {q : List T → (Env → Prop) → Env → Prop} (h : wa χ ρ fun t ρ1 => ∃ u, Rs ρ1 t u ∧ ∃ xs ds, u.tupK = some xs ∧ allSh xs = some ds ∧ q (ds.map T.sh) (fun ρ => Rs ρ t u) ρ1) : wiTup wa χ ρ q := h
theorem d_iRng1 {wa : WA} {q : List T → (Env → Prop) → Env → Prop} (h : wa χ ρ fun ts ρ1 => ∃ j : Int, ts = [.sh (.int j)] ∧ (-(2 ^ 62) ≤ j ∧ j < 2 ^ 62) ∧ q (rngT 0 j.toNat) (fun _ => True) ρ1) : wiRng1 wa χ ρ q := h
theorem d_iStr {wa : WE} {q : List T → (Env → Prop) → Env → Prop} (h : wa χ ρ fun t ρ1 => ∃ z : Str, t = .sh (.str z) ∧ q (z.cps.toList.map fun c => .sh (.str ⟨#[c]⟩)) (fun _ => True) ρ1) : wiStr wa χ ρ q := h
theorem d_lc {wi : WI} {g : WG} {wt : WT} {we : WE} {vs : List Nat} (h : wi χ ρ fun its P ρ1 => ∃ I : Nat → Env → List T → Prop, I 0 (wipeE ρ1 vs) [] ∧ (∀ i ρ2 acc, I i ρ2 acc → P ρ2 ∧ acc.length < 10000) ∧
  (∀ (i : Nat) (t : T) (ρ2 : Env) (acc : List T), its[i]? = some t → I i ρ2 acc → g t ρ2 fun ρ3 => wt noX ρ3 fun b ρ4 => if b = true then we noX ρ4 fun y ρ5 => ∃ y', PubT y y' ∧ I (i + 1) (wipeE ρ5 vs) (acc ++ [y']) else I (i + 1) (wipeE ρ4 vs) acc) ∧ ∀ ρ2 acc, I its.length ρ2 acc → ∀ a, Q (.lst a acc) (wipeE ρ2 vs)) : wLc wi g wt we vs χ ρ Q := h
theorem d_iT {b : Bool} {A B : Prop} (h : b = true) (q : A) : if b = true then A else B := by rw [if_pos h]; exact q
theorem d_iF {b : Bool} {A B : Prop} (h : b = false) (q : B) : if b = true then A else B := by rw [h]; exact q
theorem d_iB {b : Bool} {A B : Prop} (h1 : b = true → A) (h2 : b = false → B) : if b = true then A else B := by
  cases b with
  | true => exact h1 rfl
  | false => exact h2 rfl
end

end E
namespace E
open PySem PySem.Spec PyProof.Rows L2 G

section
variable {W : Wx} {K : PySem.W.Frag}
/-- a statement and what follows, by what holds between -/
def wCut (a b : WS) : WS := fun k ρ => ∃ I : Env → Prop, a { k with nx := I } ρ ∧ ∀ ρ', I ρ' → b k ρ'
theorem rfs_cut {bs : List Nat} {t u : TS} {a b : WS} (ha : RfS bs W t a) (hb : RfS bs W u b) : RfS bs W (C8.tCut t u) (wCut a b) := fun D σ H ⟨Γ, tv, ρ, tt, k, e, ⟨I, h1, h2⟩, o⟩ =>
  ⟨fun σ' H' => ∃ ρ', I ρ' ∧ Pn bs σ σ' ∧ En Γ H' σ' tv ρ' tt, ha _ σ H ⟨Γ, tv, ρ, tt, _, e, h1, ⟨fun ρ' σ' H' hI p e' => ⟨ρ', hI, p, e'⟩, o.rt, o.bk, o.ct, o.xc, o.cal⟩⟩, fun σ' H' ⟨ρ', hI, p, e'⟩ => hb D σ' H' ⟨Γ, tv, ρ', tt, k, e', h2 ρ' hI, o.at p⟩⟩
theorem d_cut {k : WK} {ρ : Env} {a b : WS} (I : Env → Prop) (h1 : a { k with nx := I } ρ) (h2 : ∀ ρ', I ρ' → b k ρ') : wCut a b k ρ := ⟨I, h1, h2⟩
/-- xs[i] = v -/
def gwSub (wa wi : WE) : WG := fun t ρ k => wa noX ρ fun t0 ρ1 => wi noX ρ1 fun ti ρ2 => ∃ a i p xs kk n, t0 = .sh (.at a i p) ∧ ti = .sh (.int kk) ∧ gt ρ2 i p = some (.lst a xs) ∧ ixN xs.length kk = some n ∧ k (pt ρ2 i p (.lst a (xs.set n t)))
theorem xok0 {Γ : Cg} {tv : List (Option V)} {tt : List T} {σ : L2.St} : XOk (W0 false) Γ tv tt σ noX := ⟨fun z => (nomatch z), fun _ _ _ _ _ _ z => z.elim⟩
theorem rfg_sub {B : Nat → Prop} {ta ti : TE} {wa wi : WE} (ha : Rf (W0 false) ta wa) (hi : Rf (W0 false) ti wi) : RfG B (gSub ta ti rSetL) (gwSub wa wi) := fun Γ H σ tv ρ tt v t k Q e l h q => by
  refine ha σ H _ ⟨Γ, _, ρ, _, noX, _, e, h, xok0, fun t0 ρ1 v0 H1 h1 e1 => ?_⟩
  refine hi σ H1 _ ⟨Γ, _, ρ1, _, noX, _, e1, h1, xok0, fun t1 ρ2 v1 H2 ⟨a, i, p, xs, kk, n, e0, ei, hg, hn, h2⟩ e2 => ?_⟩
  subst e0 ei
  rw [List.append_assoc, List.append_assoc, List.append_assoc, List.append_assoc] at e2
  have r0 := (e2.entry l (k := 1) rfl rfl).un
  have r1 := (e2.entry l (k := 2) rfl rfl).un
  cases r0
  cases r1
  obtain ⟨o, ws, nd, ho, lv, kd, f⟩ := e2.updN l hg rfl
  cases nd
  have lv' : ws.length = xs.length := lv
  refine ⟨a, ws, kk, n, rfl, rfl, ho, by rw [lv']; exact hn, ?_⟩
  have hnl : n < xs.length := by
    unfold ixN at hn
    split at hn
    · split at hn
      · cases hn; omega
      · cases hn
    · split at hn
      · cases hn; omega
      · cases hn
  refine q _ σ _ h2 (fun _ _ => rfl) rfl ?_
  have := f (.lst (ws.set n v)) (.lst a (xs.set n t)) (ws.set n v) [] [] .lst (by simp [T.kids, lv']) rfl (fun b => ?_) (fun z t' hz => ?_)
  · rw [List.append_nil, List.append_nil] at this; exact this
  · have := cn_set b (u := t) (List.getElem?_eq_getElem hnl)
    simp only [T.kids, List.singleton_append, List.cons_append, List.nil_append, ownsL_cons, ownsL_nil, cn_app, cn_noT, List.append_nil]
    show _ + 0 ≤ _
    omega
  · rcases hz with ⟨j, v', rfl, q1, q2⟩ | ⟨j, q1, q2⟩
    · simp only [T.kids] at q2
      by_cases hm : n = j
      · subst hm
        rw [List.getElem?_set_self (by omega)] at q1
        rw [List.getElem?_set_self hnl] at q2
        cases q1; cases q2
        exact .inr (.inl ⟨0, rfl, rfl⟩)
      · rw [List.getElem?_set_ne hm] at q1 q2
        exact .inl ⟨j, v', rfl, q1, q2⟩
    · simp at q1
theorem d_gsub {ρ : Env} {t : T} {wa wi : WE} {k : Env → Prop} (h : wa noX ρ fun t0 ρ1 => wi noX ρ1 fun ti ρ2 => ∃ a i p xs kk n, t0 = .sh (.at a i p) ∧ ti = .sh (.int kk) ∧ gt ρ2 i p = some (.lst a xs) ∧ ixN xs.length kk = some n ∧ k (pt ρ2 i p (.lst a (xs.set n t)))) : gwSub wa wi t ρ k := h
theorem d_gsubv {ρ : Env} {t : T} {a : Addr} {i : Nat} {p : List Nat} {xs : List T} {kk : Int} {n : Nat} {P : Env → Prop} (h1 : gt ρ i p = some (.lst a xs)) (h2 : ixN xs.length kk = some n) (h : P (pt ρ i p (.lst a (xs.set n t)))) : ∃ a' i' p' xs kk' n, T.sh (.at a i p) = .sh (.at a' i' p') ∧ T.sh (.int kk) = .sh (.int kk') ∧ gt ρ i' p' = some (.lst a' xs) ∧ ixN xs.length kk' = some n ∧ P (pt ρ i' p' (.lst a' (xs.set n t))) := ⟨a, i, p, xs, kk, n, rfl, rfl, h1, h2, h⟩
/-! ### great numbers, powers, texts -/
theorem cd_fdivW : CbD (r2 (rI CDivW fun i j => .int (i / j))) (fI CDivW fun i j => .int (i / j)) := cd_I fun _ _ _ _ => .int _
theorem cd_mulW : CbD (r2 (rI CMulW fun i j => .int (i * j))) (fI CMulW fun i j => .int (i * j)) := cd_I fun _ _ _ _ => .int _
theorem cd_pow : CbD (r2 (rI CPow fun i j => .int (i ^ j.toNat))) (fI CPow fun i j => .int (i ^ j.toNat)) := cd_I fun _ _ _ _ => .int _
def fIxS : Fd := fun ρ as Q => ∃ z i c, as = [.sh (.str z), .sh (.int i)] ∧ z.length ≤ 100000 ∧ atI z.cps.toList i = some c ∧ Q (.sh (.str ⟨#[c]⟩))
theorem cd_ixS : CbD (r2 rIxS) fIxS := ⟨fun Γ H σ tv ρ tt vs as Q k e l ⟨z, i, c, ea, hz, hc, hk⟩ q x y ev => by
  subst ea ev
  obtain ⟨r1, r2⟩ := e.two l
  have r1 := r1.un
  have r2 := r2.un
  cases r1
  cases r2
  exact ⟨z, i, c, rfl, rfl, by rw [sizeLine_eq]; omega, hc, q _ _ H hk ((e.drop l).push (.str _))⟩⟩
def fMulS : Fd := fun ρ as Q => ∃ (c : Nat) (n : Int), as = [.sh (.str ⟨#[c]⟩), .sh (.int n)] ∧ 2 ≤ n ∧ n ≤ 1000 ∧ Q (.sh (.str ⟨(List.replicate n.toNat c).toArray⟩))
theorem cd_mulS : CbD (r2 (fun x y H Q => ∃ (c : Nat) (n : Int), x = .str ⟨#[c]⟩ ∧ y = .int n ∧ 2 ≤ n ∧ n ≤ 1000 ∧ Q (.str ⟨(List.replicate n.toNat c).toArray⟩) H)) fMulS := ⟨fun Γ H σ tv ρ tt vs as Q k e l ⟨c, n, ea, h1, h2, hk⟩ q x y ev => by
  subst ea ev
  obtain ⟨r1, r2⟩ := e.two l
  have r1 := r1.un
  have r2 := r2.un
  cases r1
  cases r2
  exact ⟨c, n, rfl, rfl, h1, h2, q _ _ H hk ((e.drop l).push (.str _))⟩⟩
def fInS (neg : Bool) : Fd := fun ρ as Q => ∃ (c : Nat) (z : Str), as = [.sh (.str ⟨#[c]⟩), .sh (.str z)] ∧ Q (.sh (.bl (if neg then !decide (c ∈ z.cps.toList) else decide (c ∈ z.cps.toList))))
theorem cd_inS : CbD (r2 rInS) (fInS false) := ⟨fun Γ H σ tv ρ tt vs as Q k e l ⟨c, z, ea, hk⟩ q x y ev => by
  subst ea ev
  obtain ⟨r1, r2⟩ := e.two l
  have r1 := r1.un
  have r2 := r2.un
  cases r1
  cases r2
  exact ⟨c, z, rfl, rfl, q _ _ H hk ((e.drop l).push (.bl _))⟩⟩
theorem cd_notInS : CbD (r2 rNotInS) (fInS true) := ⟨fun Γ H σ tv ρ tt vs as Q k e l ⟨c, z, ea, hk⟩ q x y ev => by
  subst ea ev
  obtain ⟨r1, r2⟩ := e.two l
  have r1 := r1.un
  have r2 := r2.un
  cases r1
  cases r2
  exact ⟨c, z, rfl, rfl, q _ _ H hk ((e.drop l).push (.bl _))⟩⟩
/-- sep.join(list of texts) -/
def wJoin (wa wr : WE) : WE := fun χ ρ Q => wa χ ρ fun t0 ρ1 => ∃ z, t0 = .sh (.str z) ∧ wr χ ρ1 fun t ρ2 => ∃ u, Rs ρ2 t u ∧ ∃ ys : List Str, u.seqK = some (ys.map fun y => T.sh (.str y)) ∧ (ys.map (·.length)).sum + ys.length * z.length ≤ 16777216 ∧ Q (.sh (.str (Txt.join z ys))) ρ2
theorem rf_join {ta tr : TE} {wa wr : WE} (ha : Rf W ta wa) (hr : Rf W tr wr) : Rf W (tM1 (rJoin K) ta tr) (wJoin wa wr) := fun σ H Q ⟨Γ, tv, ρ, tt, χ, Q1, e, h, x, k⟩ => by
  refine ha σ H _ ⟨Γ, tv, ρ, tt, χ, _, e, h, x, fun t0 ρ1 v0 H1 ⟨z, ez, h1⟩ e1 => ?_⟩
  subst ez
  have r0 := e1.last.un
  cases r0
  refine ⟨⟨z, rfl⟩, hr σ H1 _ ⟨Γ, _, ρ1, _, χ, _, e1, h1, x.deep e.tl rfl, fun t ρ2 v H2 ⟨u, hs, ys, hu, hl, h2⟩ e2 => ?_⟩⟩
  obtain ⟨a, vs, rfl, h3, h4, kd⟩ := (Rs.rep e2 e2.last hs).seqK (K := K) hu
  obtain ⟨h5, _⟩ := svs_eq (svs_strs ys) h4 kd
  subst h5
  rw [List.append_assoc, List.append_assoc] at e2
  exact ⟨z, a, ys, rfl, rfl, h3, hl, k _ ρ2 _ H2 h2 ((e2.drop e.tl).push (.str _))⟩
theorem d_join {χ : XD} {ρ : Env} {Q : T → Env → Prop} {wa wr : WE} (h : wa χ ρ fun t0 ρ1 => ∃ z, t0 = .sh (.str z) ∧ wr χ ρ1 fun t ρ2 => ∃ u, Rs ρ2 t u ∧ ∃ ys : List Str, u.seqK = some (ys.map fun y => T.sh (.str y)) ∧ (ys.map (·.length)).sum + ys.length * z.length ≤ 16777216 ∧ Q (.sh (.str (Txt.join z ys))) ρ2) : wJoin wa wr χ ρ Q := h
theorem d_int {ρ : Env} {q : T → Prop} {i : Int} (h : q (.sh (.int i))) : fInt ρ [.sh (.int i)] q := .inl ⟨i, rfl, h⟩
theorem d_intb {ρ : Env} {q : T → Prop} {b : Bool} (h : q (.sh (.int (if b then 1 else 0)))) : fInt ρ [.sh (.bl b)] q := .inr ⟨b, rfl, h⟩
theorem d_dput {k : WK} {ρ : Env} {wd wk wv : WE} (h : wv k.xc ρ fun t1 ρ1 => wd k.xc ρ1 fun t0 ρ2 => wk k.xc ρ2 fun tk ρ3 => ∃ a i p ks xs d ky ks' xs', t0 = .sh (.at a i p) ∧ tk = .sh d ∧ d.key = some ky ∧ gt ρ3 i p = some (.dK a ks xs) ∧ ks.length < 10000 ∧ PutR ks xs ky t1 ks' xs' ∧ k.nx (pt ρ3 i p (.dK a ks' xs'))) : wDPut wd wk wv k ρ := h
theorem d_dputv {ρ : Env} {a : Addr} {i : Nat} {p : List Nat} {d : D} {ky : Key} {ks ks' : List Key} {xs xs' : List T} {t : T} {P : Env → Prop} (h1 : d.key = some ky) (h2 : gt ρ i p = some (.dK a ks xs)) (h3 : ks.length < 10000) (h4 : PutR ks xs ky t ks' xs') (h : P (pt ρ i p (.dK a ks' xs'))) : ∃ a' i' p' ks xs d' ky ks' xs', T.sh (.at a i p) = .sh (.at a' i' p') ∧ T.sh d = .sh d' ∧ d'.key = some ky ∧ gt ρ i' p' = some (.dK a' ks xs) ∧ ks.length < 10000 ∧ PutR ks xs ky t ks' xs' ∧ P (pt ρ i' p' (.dK a' ks' xs')) := ⟨a, i, p, ks, xs, d, ky, ks', xs', rfl, rfl, h1, h2, h3, h4, h⟩
theorem d_sfld {K : PySem.W.Frag} {f : Str} {k : WK} {ρ : Env} {wa wv : WE} (h : wv k.xc ρ fun t10 ρ1 => ∃ t1, (t1 = t10 ∨ ∃ d, t10.pub = some d ∧ t1 = .sh d) ∧ wa k.xc ρ1 fun t0 ρ2 => ∃ a i p C fs xs fs' xs', t0 = .sh (.at a i p) ∧ gt ρ2 i p = some (.obj a C fs xs) ∧ (Cls K C ∧ NoAttr K C f) ∧ fs.length < 900 ∧ PutR fs xs f t1 fs' xs' ∧ k.nx (pt ρ2 i p (.obj a C fs' xs'))) : wSFld K f wa wv k ρ := h
theorem d_sfldv {K : PySem.W.Frag} {f : Str} {ρ : Env} {a C : Addr} {i : Nat} {p : List Nat} {fs fs' : List Str} {xs xs' : List T} {t : T} {P : Env → Prop} (h2 : gt ρ i p = some (.obj a C fs xs)) (hc : Cls K C ∧ NoAttr K C f) (h3 : fs.length < 900) (h4 : PutR fs xs f t fs' xs') (h : P (pt ρ i p (.obj a C fs' xs'))) : ∃ a' i' p' C fs xs fs' xs', T.sh (.at a i p) = .sh (.at a' i' p') ∧ gt ρ i' p' = some (.obj a' C fs xs) ∧ (Cls K C ∧ NoAttr K C f) ∧ fs.length < 900 ∧ PutR fs xs f t fs' xs' ∧ P (pt ρ i' p' (.obj a' C fs' xs')) := ⟨a, i, p, C, fs, xs, fs', xs', rfl, h2, hc, h3, h4, h⟩
theorem d_iss {z : Str} {P : Str → Prop} (h : P z) : ∃ y, T.sh (.str z) = .sh (.str y) ∧ P y := ⟨z, rfl, h⟩
theorem pmv {X : Cx} (i : Nat) {x : Str} {pos : Pos} (hN : X.N[i]? = some x := by rfl) (hv : Vis X.env.scope x := by first | exact Or.inl rfl | exact Or.inr (Or.inl rfl) | exact Or.inr (Or.inr rfl)) (hd : (x == ("__debug__" : Str)) = false := by decide)
    (hcd : (x == ("__classdict__" : Str)) = false := by decide) : PE X (.Name x pos) (tMv i) := pe_var hN hv hd hcd
theorem d_st {w : WS} {k : WK} {ρ ρ' : Env} (e : ρ = ρ') (h : w k ρ') : w k ρ := e ▸ h
theorem ixN_nat {n j : Nat} (h : j < n) : ixN n (j : Nat) = some j := by
  unfold ixN
  rw [if_pos (by omega), if_pos (by omega)]
  rfl
theorem ixN_int {n : Nat} {i : Int} (h0 : 0 ≤ i) (h : i < n) : ixN n i = some i.toNat := by
  unfold ixN
  rw [if_pos h0, if_pos h]
end

end E
namespace E
open PySem PySem.Spec PyProof.Rows L2 G

section
variable {χ : XD} {ρ ρ1 : Env} {Q : T → Env → Prop} {k : WK} {t u : T} {i : Nat} {q : T → Prop}
theorem d_isi {n m : String} (b : Bool) (h0 : Rs ρ t u) (h1 : u.tyn = some m) (h2 : kitB m n = some b) (h : q (.sh (.bl b))) : fIsi ρ [t, .sh (.ty n)] q := ⟨t, n, rfl, u, h0, m, b, h1, h2, h⟩
theorem d_isi2 {n n' m : String} (b b' : Bool) (h0 : Rs ρ t u) (h1 : u.tyn = some m) (h2 : kitB m n = some b) (h3 : kitB m n' = some b') (h : q (.sh (.bl (b || b')))) : fIsi2 ρ [t, .sh (.tup [.ty n, .ty n'])] q := ⟨t, n, n', rfl, u, h0, m, b, b', h1, h2, h3, h⟩
theorem d_lenR {ks : List Key} {xs : List T} (h0 : Rs ρ t u) (h1 : u.dictK = some (ks, xs)) (h : q (.sh (.int ks.length))) : fLenR ρ [t] q := ⟨t, rfl, u, h0, ks, xs, h1, h⟩
theorem d_lenS {z : Str} (h1 : z.length ≤ 100000) (h : q (.sh (.int z.length))) : fLenS ρ [.sh (.str z)] q := ⟨z, rfl, h1, h⟩
theorem d_din {wk wd : WE} (h : wk χ ρ fun tk ρ1 => wd χ ρ1 fun t ρ2 => ∃ u, Rs ρ2 t u ∧ ∃ ks xs d k, u.dictK = some (ks, xs) ∧ tk = .sh d ∧ d.key = some k ∧ Q (.sh (.bl (kfind ks k).isSome)) ρ2) : wDIn false wk wd χ ρ Q := h
theorem d_dnin {wk wd : WE} (h : wk χ ρ fun tk ρ1 => wd χ ρ1 fun t ρ2 => ∃ u, Rs ρ2 t u ∧ ∃ ks xs d k, u.dictK = some (ks, xs) ∧ tk = .sh d ∧ d.key = some k ∧ Q (.sh (.bl (!(kfind ks k).isSome))) ρ2) : wDIn true wk wd χ ρ Q := h
theorem d_dinv {d : D} {ks : List Key} {xs : List T} {ky : Key} {P : List Key → Key → Prop} (h0 : Rs ρ t u) (h1 : u.dictK = some (ks, xs)) (h2 : d.key = some ky) (h : P ks ky) : ∃ u, Rs ρ t u ∧ ∃ ks xs d' k, u.dictK = some (ks, xs) ∧ T.sh d = .sh d' ∧ d'.key = some k ∧ P ks k := ⟨u, h0, ks, xs, d, ky, h1, rfl, h2, h⟩
theorem d_while {c : WT} {b : WS} (I : Nat → Env → Prop) (m : Nat) (h0 : I m ρ) (h : ∀ m ρ1, I m ρ1 → c k.xc ρ1 fun x ρ2 => if x = true then b { k with nx := fun ρ' => ∃ ρ4, Pubs ρ' ρ4 ∧ ∃ m', m' < m ∧ I m' ρ4, ct := fun ρ' => ∃ ρ4, Pubs ρ' ρ4 ∧ ∃ m', m' < m ∧ I m' ρ4, bk := k.nx } ρ2 else k.nx ρ2) : wWhile c b k ρ := ⟨I, ⟨m, h0⟩, h⟩
theorem d_tru {wa : WE} {qb : Bool → Env → Prop} (h : wa χ ρ fun t ρ1 => ∃ u, Rs ρ1 t u ∧ ((∃ xs, u.seqK = some xs ∧ qb (!xs.isEmpty) ρ1) ∨ (u = .sh .non ∧ qb false ρ1) ∨ (∃ b, u = .sh (.bl b) ∧ qb b ρ1) ∨ ∃ i, u = .sh (.int i) ∧ qb (i != 0) ρ1)) : wTru wa χ ρ qb := h
theorem d_raise {C : Addr} {fl : List Str} {wa : WA} (h : wa k.xc ρ fun ts ρ1 => ∃ ds, pubL ts = some ds ∧ ds.length = fl.length ∧ ds.length ≤ 900 ∧ k.xc C fl.reverse ds.reverse ρ1) : wRaise C fl wa k ρ := h
theorem d_make {C : Addr} {S : SpecD} {wr : WA} (h : wr χ ρ fun ts ρ1 => ∀ a, ∃ ρ2 ts2 ls, LendL ρ1 ts ρ2 ts2 ls ∧ S (.obj a C [] [] :: ts2) (fun t us => t = .sh .non ∧ ∃ u us' ρ3, us = u :: us' ∧ BackL ρ2 ls us' ρ3 ∧ Q u ρ3) (fun C fl ds us => ∃ u us' ρ3, us = u :: us' ∧ BackL ρ2 ls us' ρ3 ∧ χ C fl ds ρ3)) : wMake C S wr χ ρ Q := h
theorem d_mkw {C a : Addr} {S : SpecD} {ts ts2 : List T} {ρ2 : Env} {ls : List (Option (Nat × List Nat × Addr))} (hl : LendL ρ ts ρ2 ts2 ls) (h : S (.obj a C [] [] :: ts2) (fun t us => t = .sh .non ∧ ∃ u us' ρ3, us = u :: us' ∧ BackL ρ2 ls us' ρ3 ∧ Q u ρ3) (fun C fl ds us => ∃ u us' ρ3, us = u :: us' ∧ BackL ρ2 ls us' ρ3 ∧ χ C fl ds ρ3)) : ∃ ρ2 ts2 ls, LendL ρ ts ρ2 ts2 ls ∧ S (.obj a C [] [] :: ts2) (fun t us => t = .sh .non ∧ ∃ u us' ρ3, us = u :: us' ∧ BackL ρ2 ls us' ρ3 ∧ Q u ρ3) (fun C fl ds us => ∃ u us' ρ3, us = u :: us' ∧ BackL ρ2 ls us' ρ3 ∧ χ C fl ds ρ3) := ⟨ρ2, ts2, ls, hl, h⟩
theorem d_mkb {us' : List T} {ρ3 : Env} {ls : List (Option (Nat × List Nat × Addr))} {P : T → Env → Prop} (hb : BackL ρ ls us' ρ3) (h : P u ρ3) : (T.sh .non = .sh .non) ∧ ∃ v us'' ρ3, u :: us' = v :: us'' ∧ BackL ρ ls us'' ρ3 ∧ P v ρ3 := ⟨rfl, u, us', ρ3, rfl, hb, h⟩
theorem d_forK {g : WG} {b : WS} {ks : List Key} {ds : List D} (h0 : ρ[i]? = some (.sh (.dK ks ds))) (I : Nat → Env → Prop) (h1 : I 0 ρ) (h2 : ∀ (j : Nat) (ky : Key) (ρ2 : Env), ks[j]? = some ky → I j ρ2 → g (.sh (kD ky)) ρ2 fun ρ3 => b { k with nx := fun ρ' => ∃ ρ4, Pubs ρ' ρ4 ∧ I (j + 1) ρ4, ct := fun ρ' => ∃ ρ4, Pubs ρ' ρ4 ∧ I (j + 1) ρ4, bk := k.nx } ρ3) (h3 : ∀ ρ2, I ks.length ρ2 → k.nx ρ2) : wForK i g b k ρ := ⟨ks, ds, h0, I, h1, h2, h3⟩
theorem d_lcK {g : WG} {wt : WT} {we : WE} {vs : List Nat} {ks : List Key} {ds : List D} (h0 : ρ[i]? = some (.sh (.dK ks ds))) (I : Nat → Env → List T → Prop) (h1 : I 0 (wipeE ρ vs) []) (h2 : ∀ j ρ2 acc, I j ρ2 acc → acc.length < 10000)
  (h3 : ∀ (j : Nat) (ky : Key) (ρ2 : Env) (acc : List T), ks[j]? = some ky → I j ρ2 acc → g (.sh (kD ky)) ρ2 fun ρ3 => wt noX ρ3 fun b ρ4 => if b = true then we noX ρ4 fun y ρ5 => ∃ y', PubT y y' ∧ I (j + 1) (wipeE ρ5 vs) (acc ++ [y']) else I (j + 1) (wipeE ρ4 vs) acc) (h4 : ∀ ρ2 acc, I ks.length ρ2 acc → ∀ a, Q (.lst a acc) (wipeE ρ2 vs)) : wLcK i g wt we vs χ ρ Q := ⟨ks, ds, h0, I, h1, h2, h3, h4⟩
theorem d_list {xs : List T} {ds : List D} (h0 : Rs ρ t u) (h1 : u.seqK = some xs) (h2 : allSh xs = some ds) (h : ∀ a, q (.lst a (ds.map T.sh))) : fList ρ [t] q := ⟨t, rfl, u, h0, xs, ds, h1, h2, h⟩
theorem d_listK {ks : List Key} {xs : List T} (h0 : Rs ρ t u) (h1 : u.dictK = some (ks, xs)) (h : ∀ a, q (.lst a (ks.map fun k => .sh (kD k)))) : fListK ρ [t] q := ⟨t, rfl, u, h0, ks, xs, h1, h⟩
theorem d_tuple {xs : List T} {ds : List D} (h0 : Rs ρ t u) (h1 : u.seqK = some xs) (h2 : allSh xs = some ds) (h : q (.sh (.tup ds))) : fTuple ρ [t] q := ⟨t, rfl, u, h0, xs, ds, h1, h2, h⟩
theorem d_dict {ks : List Key} {xs : List T} {ds : List D} (h0 : Rs ρ t u) (h1 : u.dictK = some (ks, xs)) (h2 : allSh xs = some ds) (h : ∀ a, q (.dK a ks (ds.map T.sh))) : fDict ρ [t] q := ⟨t, rfl, u, h0, ks, xs, ds, h1, h2, h⟩
theorem d_sortS {zs : List Str} (h0 : Rs ρ t u) (h1 : u.lstK = some (zs.map fun z => T.sh (.str z))) (h2 : zs.length < 64) (h : ∀ (ys : List Str) (a : Addr), ys.Perm zs → sortedS ys = true → q (.lst a (ys.map fun z => T.sh (.str z)))) : fSortS ρ [t] q := ⟨t, rfl, u, h0, zs, h1, h2, h⟩
theorem d_aug {f : Int → Int → Int} {w : WE} {a : Int} (h0 : ρ[i]? = some (.sh (.int a))) (h : w k.xc ρ fun t ρ1 => ∃ b, t = .sh (.int b) ∧ i < ρ1.length ∧ k.nx (ρ1.set i (.sh (.int (f a b))))) : wAug i f w k ρ := ⟨a, h0, h⟩
theorem d_augv {f : Int → Int} {b : Int} {P : Int → Prop} {A : Prop} (ha : A) (h : P b) : ∃ b', T.sh (.int b) = .sh (.int b') ∧ A ∧ P b' := ⟨b, rfl, ha, h⟩
theorem d_gtup {n : Nat} {w : List T → Env → (Env → Prop) → Prop} {ds : List D} {K' : Env → Prop} (hn : ds.length = n) (h : w (ds.map T.sh) ρ K') : gwTup n w (.sh (.tup ds)) ρ K' := ⟨ds, rfl, hn, h⟩
theorem d_gcons {w : List T → Env → (Env → Prop) → Prop} {r : List T} {K' : Env → Prop} (hi : i < ρ.length) (h : w r (ρ.set i t) K') : gwCons i w (t :: r) ρ K' := ⟨t, r, rfl, hi, h⟩
end

end E
namespace E
open PySem PySem.Spec PyProof.Rows L2 G

section
variable {χ : XD} {ρ ρ1 : Env} {Q : T → Env → Prop} {k : WK} {t u : T} {i : Nat} {q : T → Prop}
theorem d_gtup2 {n : Nat} {w : List T → Env → (Env → Prop) → Prop} {a b : D} {K' : Env → Prop} (hn : [a, b].length = n) (h : w [.sh a, .sh b] ρ K') : gwTup n w (.sh (.tup [a, b])) ρ K' := ⟨[a, b], rfl, hn, h⟩
theorem d_gtup3 {n : Nat} {w : List T → Env → (Env → Prop) → Prop} {a b c : D} {K' : Env → Prop} (hn : [a, b, c].length = n) (h : w [.sh a, .sh b, .sh c] ρ K') : gwTup n w (.sh (.tup [a, b, c])) ρ K' := ⟨[a, b, c], rfl, hn, h⟩
theorem d_augw {b : Int} {P : Int → Prop} {A : Prop} (ha : A) (h : P b) : ∃ b', T.sh (.int b) = .sh (.int b') ∧ A ∧ P b' := ⟨b, rfl, ha, h⟩
theorem d_gnil {p : Prop} (h : p) : ([] : List T) = [] ∧ p := ⟨rfl, h⟩
theorem set_same {ρ : Env} {i : Nat} {t : T} (h : ρ[i]? = some t) : ρ.set i t = ρ := by
  obtain ⟨hl, e⟩ := List.getElem?_eq_some_iff.mp h
  rw [← e, List.set_getElem_self]
/-- a name's tree handed to a call: lent if it is ours, else as it is -/
theorem lendS {t' : T} (h : t.rd i [] = some t') : ∃ l, (∀ (ρ : Env) (ts : List T) (ρ' : Env) (ts' : List T) ls, ρ[i]? = some t → LendL (ρ.set i t') ts ρ' ts' ls → LendL ρ (t' :: ts) ρ' (t :: ts') (l :: ls)) ∧ ∀ (ρ : Env) (us : List T) ls (ρ' : Env), ρ[i]? = some t' → BackL (ρ.set i t) ls us ρ' → BackL ρ (l :: ls) (t :: us) ρ' := by
  have own : ∀ a, t.addr = some a → t' = .sh (.at a i []) → ∃ l, (∀ (ρ : Env) (ts : List T) (ρ' : Env) (ts' : List T) ls, ρ[i]? = some t → LendL (ρ.set i t') ts ρ' ts' ls → LendL ρ (t' :: ts) ρ' (t :: ts') (l :: ls)) ∧ ∀ (ρ : Env) (us : List T) ls (ρ' : Env), ρ[i]? = some t' → BackL (ρ.set i t) ls us ρ' → BackL ρ (l :: ls) (t :: us) ρ' := fun a ha e => by
    subst e
    refine ⟨some (i, [], a), fun ρ ts ρ' ts' ls h0 h1 => ?_, fun ρ us ls ρ' h0 h1 => ?_⟩
    · have g : gt ρ i [] = some t := by unfold gt; rw [h0]; rfl
      refine .lend g ha ?_
      have e2 : pt ρ i [] (.sh (.at a i [])) = ρ.set i (.sh (.at a i [])) := by unfold pt; rw [h0]; rfl
      rw [e2]
      exact h1
    · have g : gt ρ i [] = some (.sh (.at a i [])) := by unfold gt; rw [h0]; rfl
      refine .put g ?_
      have e2 : pt ρ i [] t = ρ.set i t := by unfold pt; rw [h0]; rfl
      rw [e2]
      exact h1
  cases t with
  | sh d =>
    cases h
    refine ⟨none, fun ρ ts ρ' ts' ls h0 h1 => .keep ?_, fun ρ us ls ρ' h0 h1 => .skip ?_⟩
    · rwa [set_same h0] at h1
    · rwa [set_same h0] at h1
  | lst a xs => exact own a rfl (Option.some.inj h).symm
  | dK a ks xs => exact own a rfl (Option.some.inj h).symm
  | dT a ks xs => exact own a rfl (Option.some.inj h).symm
  | obj a C fs xs => exact own a rfl (Option.some.inj h).symm
  | no => cases h
  | tup xs => cases h
end

end E
namespace E
open PySem PySem.Spec PyProof.Rows L2 G

/-- {key: value for target in iter if test} -/
def wDc (wi : WI) (g : WG) (wt : WT) (wk we : WE) (vs : List Nat) : WE := fun χ ρ Q => wi χ ρ fun its P ρ1 => ∃ I : Nat → Env → List Key → List T → Prop, I 0 (wipeE ρ1 vs) [] [] ∧ (∀ i ρ2 ks xs, I i ρ2 ks xs → P ρ2 ∧ ks.length < 10000) ∧
  (∀ (i : Nat) (t : T) (ρ2 : Env) (ks : List Key) (xs : List T), its[i]? = some t → I i ρ2 ks xs → g t ρ2 fun ρ3 => wt noX ρ3 fun b ρ4 => if b = true then wk noX ρ4 fun tk ρ5 => we noX ρ5 fun y ρ6 => ∃ d ky y' ks' xs', tk = .sh d ∧ d.key = some ky ∧ PubT y y' ∧ PutR ks xs ky y' ks' xs' ∧ I (i + 1) (wipeE ρ6 vs) ks' xs' else I (i + 1) (wipeE ρ4 vs) ks xs) ∧ ∀ ρ2 ks xs, I its.length ρ2 ks xs → ∀ a, Q (.dK a ks xs) (wipeE ρ2 vs)
theorem dcCore {g : TG} {tt' : TT} {tk te : TE} {vs : List Nat} {wg : WG} {wt : WT} {wk' we : WE} {c : Bool} (hg : RfG (fun k => k ∉ vs) g wg) (ht : RfT (W0 c) tt' wt) (hk : Rf (W0 c) tk wk') (he : Rf (W0 c) te we) {Γ : Cg} {H1 : Hp} {σ : L2.St} {tv xv : List (Option V)} {ρ1 : Env} {tt xt : List T} {P : Env → Prop} {J : It} {its : List T} {I : Nat → Env → List Key → List T → Prop} {Qd : Addr → Hp → Prop} (cal : c = true → Calm Γ.H0) (l : tv.length = tt.length) (lx : xv.length = xt.length)
    (i0 : I 0 (wipeE ρ1 vs) [] []) (hP : ∀ i ρ2 ks xs, I i ρ2 ks xs → P ρ2 ∧ ks.length < 10000)
    (turn : ∀ (i : Nat) (t : T) (ρ2 : Env) (ks : List Key) (xs : List T), its[i]? = some t → I i ρ2 ks xs → wg t ρ2 fun ρ3 => wt noX ρ3 fun b ρ4 => if b = true then wk' noX ρ4 fun tk ρ5 => we noX ρ5 fun y ρ6 => ∃ d ky y' ks' xs', tk = .sh d ∧ d.key = some ky ∧ PubT y y' ∧ PutR ks xs ky y' ks' xs' ∧ I (i + 1) (wipeE ρ6 vs) ks' xs' else I (i + 1) (wipeE ρ4 vs) ks xs)
    (e1 : En Γ H1 σ (tv ++ xv) ρ1 (tt ++ xt)) (wk : Wk Γ tv xv tt xt P J its) (fin : ∀ D H2 ρ2 ks xs, I its.length ρ2 ks xs → En Γ H2 σ (tv ++ (xv ++ [some (.ref D)])) (wipeE ρ2 vs) (tt ++ (xt ++ [.dK D ks xs])) → Qd D H2) :
    ∀ D, H1 D = none → ∃ Wn : Nat → Nat → Hp → Prop, (∃ m, Wn 0 m (upd H1 D (.dK []))) ∧ ∀ i m H, Wn i m H →
      (J.stop i H ∧ Qd D H) ∨ (J.go i H ∧ ∃ Nx : Hp → Prop, (∀ H', Nx H' → ∃ m', m' < m ∧ Wn (i + 1) m' H') ∧ ∀ x H', J.yld i H x H' → g x (wipe σ vs) H' fun σ2 H2 => wipe σ2 vs = wipe σ vs ∧ tt' σ2 H2 fun b H3 =>
        if b = true then tk σ2 H3 fun y H4 => te σ2 H4 fun z H5 => ∃ kvs k, y = kV k ∧ H5 D = some (.dK kvs) ∧ kvs.length < sizeLine ∧ Nx (upd H5 D (.dK (putK kvs k z))) else Nx H3) := by
  intro D hD
  refine ⟨fun i m H2 => m = its.length - i ∧ i ≤ its.length ∧ ∃ ρ2 ks xs, I i ρ2 ks xs ∧ En Γ H2 (wipe σ vs) (tv ++ (xv ++ [some (.ref D)])) ρ2 (tt ++ (xt ++ [.dK D ks xs])), ⟨its.length, by simp, Nat.zero_le _, _, [], [], i0, ?_⟩, ?_⟩
  · have e2 : En Γ (upd H1 D (.dK [])) σ (tv ++ (xv ++ [some (.ref D)])) ρ1 (tt ++ (xt ++ [.dK D [] []])) := by
      rw [← List.append_assoc, ← List.append_assoc]
      refine .of1 (Ok.alloc (ys := []) (us := []) (u := .dK D [] []) (vs := []) (by simpa only [List.append_nil] using e1.ok) e1.ok.len hD (fun a o z => by rw [upd_ne (ne_of_none z hD)]; exact z) (fun a z => ?_) (nofrz (by intro o kvs z; cases z)) (Nd.dK (a := D) (xs := []) (kvs := [])) upd_same rfl (fun b => Nat.le_refl _) (fun j v t h2 => by simp at h2)) e1.len
      by_cases q : a = D
      · rw [q]; exact hD
      · rw [upd_ne q] at z; exact z
    exact e2.wiped (wipe_length σ vs) fun k hk => wipe_get hk
  rintro i m H2 ⟨rfl, hil, ρ2, ks, xs, hI, e2⟩
  obtain ⟨hp, hacc⟩ := hP i ρ2 ks xs hI
  have e2d : En Γ H2 (wipe σ vs) (tv ++ xv) ρ2 (tt ++ xt) := En.drop (ys := [some (.ref D)]) (us := [.dK D ks xs]) (by rw [List.append_assoc, List.append_assoc]; exact e2) (by simp [l, lx])
  by_cases hlt : i < its.length
  · refine .inr ⟨wk.go i H2 _ ρ2 hlt hp e2d, fun H3 => ∃ ρ3 ks3 xs3, I (i + 1) ρ3 ks3 xs3 ∧ En Γ H3 (wipe σ vs) (tv ++ (xv ++ [some (.ref D)])) ρ3 (tt ++ (xt ++ [.dK D ks3 xs3])), fun H3 ⟨ρ3, ks3, xs3, h3, e3⟩ => ⟨its.length - (i + 1), by omega, rfl, hlt, ρ3, ks3, xs3, h3, e3⟩, fun y H3 hy => ?_⟩
    obtain ⟨t, ht1, e3⟩ := wk.yld i H2 _ ρ2 y H3 [some (.ref D)] [.dK D ks xs] hlt hp e2 hy
    refine hg Γ H3 (wipe σ vs) _ ρ2 _ y t _ _ e3 e2.tl (turn i t ρ2 ks xs ht1 hI) fun ρ3 σ3 H4 h4 p3 l3 e4 => ?_
    have hw3 : wipe σ3 vs = wipe σ vs := (wipe_eq l3 p3).trans (wipe_wipe σ vs)
    refine ⟨hw3, ?_⟩
    have l3' : (wipe σ vs).length = σ3.length := l3.symm
    refine ht σ3 H4 _ ⟨Γ, _, ρ3, _, noX, _, e4, h4, xok_none cal, fun b ρ4 H5 h5 e5 => ?_⟩
    cases b with
    | false => exact iteF ⟨_, ks, xs, h5, e5.wiped l3' fun k hk => (p3 k hk).symm⟩
    | true =>
      refine iteT (hk σ3 H5 _ ⟨Γ, _, ρ4, _, noX, _, e5, h5, xok_none cal, fun tky ρ5 kv H6 h6 e6 => ?_⟩)
      refine he σ3 H6 _ ⟨Γ, _, ρ5, _, noX, _, e6, h6, xok_none cal, fun yt0 ρ6 yv H7 ⟨d, ky, yt, ks', xs', etk, hky, hpt', hput, h7⟩ e70 => ?_⟩
      subst etk
      have e7 := e70.pubt e6.tl hpt'
      have ok7 : Ok Γ H7 ((σ3 ++ (tv ++ (xv ++ [some (.ref D)]))) ++ [some kv, some yv]) ((ρ6 ++ (tt ++ (xt ++ [T.dK D ks xs]))) ++ [.sh d, yt]) := by
        have := e7.ok
        simp only [List.append_assoc, List.cons_append, List.nil_append] at this ⊢
        exact this
      have e7b : En Γ H7 σ3 ((tv ++ (xv ++ [some (.ref D)])) ++ [some kv, some yv]) ρ6 ((tt ++ (xt ++ [T.dK D ks xs])) ++ [.sh d, yt]) := ⟨by
        have := e7.ok
        simp only [List.append_assoc, List.cons_append, List.nil_append] at this ⊢
        exact this, e7.len⟩
      have rk := e7b.entry (by simp [l, lx]) (k := 0) rfl rfl
      have ekv : kv = kV ky := by
        cases rk with
        | sh rk => exact rk.key hky
      have hgt : gt (ρ6 ++ (tt ++ (xt ++ [T.dK D ks xs]))) (ρ6.length + (tt.length + xt.length)) [] = some (.dK D ks xs) := by
        unfold gt
        rw [List.getElem?_append_right (by omega), Nat.add_sub_cancel_left, List.getElem?_append_right (by omega), Nat.add_sub_cancel_left, List.getElem?_append_right (by omega), Nat.sub_self]
        rfl
      have hpt : ∀ u, pt (ρ6 ++ (tt ++ (xt ++ [T.dK D ks xs]))) (ρ6.length + (tt.length + xt.length)) [] u = ρ6 ++ (tt ++ (xt ++ [u])) := fun u => by
        unfold pt
        have : (ρ6 ++ (tt ++ (xt ++ [T.dK D ks xs])))[ρ6.length + (tt.length + xt.length)]? = some (.dK D ks xs) := by
          rw [List.getElem?_append_right (by omega), Nat.add_sub_cancel_left, List.getElem?_append_right (by omega), Nat.add_sub_cancel_left, List.getElem?_append_right (by omega), Nat.sub_self]
          rfl
        rw [this]
        show (ρ6 ++ (tt ++ (xt ++ [T.dK D ks xs]))).set _ (T.put _ [] u) = _
        rw [List.set_append_right _ _ (by omega), Nat.add_sub_cancel_left, List.set_append_right _ _ (by omega), Nat.add_sub_cancel_left, List.set_append_right _ _ (by omega), Nat.sub_self]
        rfl
      obtain ⟨o, ws, nd, ho, lv, kd, f⟩ := Ok.upd ok7 (e7b.l2 rfl) hgt rfl
      cases nd with
      | @dK _ _ kvs =>
      have lv' : kvs.length = xs.length := by simpa [T.kids] using lv
      obtain ⟨kvs', hcase, e4', l3k, l4, hcn, hsrc⟩ := put_cases (v := yv) hput rfl lv'
      have epf : putK kvs ky yv = kvs' := by
        rcases hcase with ⟨n, q1, q2, rfl⟩ | ⟨q, rfl⟩
        · exact putK_old q1 q2
        · exact putK_new q
      rw [List.length_map] at hacc
      refine ⟨kvs, ky, ekv, ho, szl' hacc, wipeE ρ6 vs, ks', xs', h7, ?_⟩
      rw [epf]
      subst e4'
      have ok8 := f (.dK kvs') (.dK D (kvs'.map Prod.fst) xs') (kvs'.map Prod.snd) [] [] .dK (by simp [T.kids, l3k]) rfl (fun b => ?_) (fun z t' hz => ?_)
      · rw [List.append_nil, List.append_nil, hpt] at ok8
        exact En.wiped (σ := σ3) ⟨ok8, e7.len⟩ l3' fun k hk => (p3 k hk).symm
      · have := hcn b
        simp only [T.kids, ownsL_cons, ownsL_nil, cn_app, List.append_nil]
        show _ + 0 ≤ _
        omega
      · rcases hz with ⟨j, v, rfl, q1, q2⟩ | ⟨j, q1, q2⟩
        · rcases hsrc j v t' q1 q2 with ⟨z1, z2⟩ | ⟨rfl, rfl⟩
          · exact .inl ⟨j, v, rfl, z1, z2⟩
          · exact .inr (.inl ⟨1, rfl, rfl⟩)
        · simp at q1
  · have : i = its.length := by omega
    subst this
    refine .inl ⟨wk.stop H2 _ ρ2 hp e2d, ?_⟩
    have e3 := e2.wiped (σ' := σ) (vs := vs) (wipe_length σ vs).symm fun k hk => (wipe_get hk).symm
    exact fin D H2 ρ2 ks xs hI e3
section
variable {W : Wx}
theorem rf_dc {wi : TI} {g : TG} {tt' : TT} {tk te : TE} {vs : List Nat} {w : WI} {wg : WG} {wt : WT} {wk we : WE} (hi : RfI W wi w) (hg : RfG (fun k => k ∉ vs) g wg) (ht : RfT (W0 W.c) tt' wt) (hk : Rf (W0 W.c) tk wk) (he : Rf (W0 W.c) te we) : Rf W (tDc wi g tt' tk te vs) (wDc w wg wt wk we vs) := fun σ H Q ⟨Γ, tv, ρ, tt, χ, Q1, e, h, x, k⟩ => by
  refine hi σ H _ ⟨Γ, tv, ρ, tt, χ, _, e, h, x, fun its P ρ1 H1 J xv xt ⟨I, i0, hP, turn, fin⟩ e1 lx wk' => ?_⟩
  exact dcCore hg ht hk he (Qd := fun D H2 => Q (.ref D) H2) x.1 e.tl lx i0 hP turn e1 wk' fun D H2 ρ2 ks xs hI e3 => k _ _ _ H2 (fin ρ2 ks xs hI D) (En.mid (ys := xv) (us := xt) (by rw [List.append_assoc, List.append_assoc]; exact e3) e.tl lx)
theorem d_dc {χ : XD} {ρ : Env} {Q : T → Env → Prop} {wi : WI} {g : WG} {wt : WT} {wk we : WE} {vs : List Nat} (h : wi χ ρ fun its P ρ1 => ∃ I : Nat → Env → List Key → List T → Prop, I 0 (wipeE ρ1 vs) [] [] ∧ (∀ i ρ2 ks xs, I i ρ2 ks xs → P ρ2 ∧ ks.length < 10000) ∧
  (∀ (i : Nat) (t : T) (ρ2 : Env) (ks : List Key) (xs : List T), its[i]? = some t → I i ρ2 ks xs → g t ρ2 fun ρ3 => wt noX ρ3 fun b ρ4 => if b = true then wk noX ρ4 fun tk ρ5 => we noX ρ5 fun y ρ6 => ∃ d ky y' ks' xs', tk = .sh d ∧ d.key = some ky ∧ PubT y y' ∧ PutR ks xs ky y' ks' xs' ∧ I (i + 1) (wipeE ρ6 vs) ks' xs' else I (i + 1) (wipeE ρ4 vs) ks xs) ∧ ∀ ρ2 ks xs, I its.length ρ2 ks xs → ∀ a, Q (.dK a ks xs) (wipeE ρ2 vs)) : wDc wi g wt wk we vs χ ρ Q := h
end

end E
namespace E
open PySem PySem.Spec PyProof.Rows L2 G

def rDictPs (K : PySem.W.Frag) : TC := fun xs H Q => ∃ (a : Addr) (ps : List Addr) (kvs : List (Key × V)), xs = [.ref a] ∧ SqL K H a (ps.map V.ref) ∧ Paired (fun p kv => SqT K H p [kV kv.1, kv.2]) ps kvs ∧ ∀ p, H p = none → Q (.ref p) (upd H p (.dK (mergeK [] kvs)))
theorem c_dictP {X : L2.Cx} (hc : X.calm = true) : CallR X (.type "dict") (rDictPs X.K) := call_dictP hc
theorem kD_key (k : Key) : (kD k).key = some k := by cases k <;> rfl
theorem mergeK_app : ∀ (more kvs : List (Key × V)), ((kvs ++ more).map Prod.fst).Nodup → mergeK kvs more = kvs ++ more
  | [], kvs, _ => (List.append_nil kvs).symm
  | (k, v) :: r, kvs, nd => by
    have h1 : k ∉ kvs.map Prod.fst := fun m => by
      rw [List.map_append, List.nodup_append] at nd
      exact nd.2.2 k m k (by simp) rfl
    show mergeK (putK kvs k v) r = _
    rw [putK_new h1, mergeK_app r (kvs ++ [(k, v)]) (by rw [List.append_assoc]; exact nd), List.append_assoc]
    rfl
theorem pairsAt {H : Hp} {A : Addr → Prop} {K : PySem.W.Frag} : ∀ (kds : List (Key × D)) (ws : List V), ws.length = kds.length → (∀ (j : Nat) (w : V) (p : Key × D), ws[j]? = some w → kds[j]? = some p → RD H A w (.tup [kD p.1, p.2])) → ∃ (ps : List Addr) (kvs : List (Key × V)), ws = ps.map V.ref ∧ kvs.map Prod.fst = kds.map Prod.fst ∧ Paired (fun p kv => SqT K H p [kV kv.1, kv.2]) ps kvs ∧ ∀ (j : Nat) (kv : Key × V) (p : Key × D), kvs[j]? = some kv → kds[j]? = some p → RD H A kv.2 p.2
  | [], ws, hl, _ => by
    cases ws with
    | nil => exact ⟨[], [], rfl, rfl, .nil, fun j kv p h => by simp at h⟩
    | cons a r => simp at hl
  | p :: r, ws, hl, h => by
    cases ws with
    | nil => simp at hl
    | cons w ws =>
      obtain ⟨ps, kvs, e1, e2, hp, hr⟩ := pairsAt (K := K) r ws (by simpa using hl) fun j w' p' h1 h2 => h (j + 1) w' p' (by simpa using h1) (by simpa using h2)
      have h0 := h 0 w p rfl rfl
      cases h0 with
      | @tup a vs _ ha _ lv kd =>
      match vs, lv, kd, ha with
      | [v1, v2], _, kd, ha =>
        have k1 : v1 = kV p.1 := (kd 0 v1 _ rfl rfl).key (kD_key _)
        have k2 : RD H A v2 p.2 := kd 1 v2 _ rfl rfl
        subst k1
        refine ⟨a :: ps, (p.1, v2) :: kvs, by rw [e1]; rfl, by simp [e2], .cons (tq ha) hp, fun j kv p' h1 h2 => ?_⟩
        cases j with
        | zero => simp at h1 h2; subst h1 h2; exact k2
        | succ j => exact hr j kv p' (by simpa using h1) (by simpa using h2)
section
variable {K : PySem.W.Frag}
def fDictP : Fd := fun ρ as Q => ∃ t, as = [t] ∧ ∃ u, Rs ρ t u ∧ ∃ (kds : List (Key × D)), u.lstK = some (kds.map fun p => T.sh (.tup [kD p.1, p.2])) ∧ (kds.map Prod.fst).Nodup ∧ ∀ a, Q (.dK a (kds.map Prod.fst) (kds.map fun p => T.sh p.2))
theorem cd_dictP : CbD (rDictPs K) fDictP := ⟨fun Γ H σ tv ρ tt vs as Q k e l ⟨t, ea, u, hr, kds, hs, nd, hk⟩ q => by
  subst ea
  obtain ⟨v, rfl⟩ := e.vs1 l
  obtain ⟨a, ws, rfl, h1, h2, kd⟩ := (Rs.rep e e.one hr).lstK hs
  obtain ⟨ps, kvs, rfl, ek, hp, hr2⟩ := pairsAt (K := K) kds ws (by rw [h2, List.length_map]) fun j w p q1 q2 => (kd j w _ q1 (map_get q2)).un
  have nd2 : (([] ++ kvs).map Prod.fst).Nodup := by rw [List.nil_append, ek]; exact nd
  refine ⟨a, ps, kvs, rfl, lq h1, hp, fun p hp' => ?_⟩
  rw [mergeK_app kvs [] nd2, List.nil_append]
  have hk := hk p
  rw [← ek] at hk
  have lk : kvs.length = kds.length := by have := congrArg List.length ek; simpa using this
  refine q _ _ _ hk (e.newN l hp' .dK (by simp [T.kids, lk]) fun j v t q1 q2 => ?_)
  obtain ⟨kd', e1, rfl⟩ := get_map q2
  obtain ⟨kv, e2, rfl⟩ := get_map q1
  exact ⟨_, rfl, hr2 j kv kd' e2 e1⟩⟩
theorem d_dictP {ρ : Env} {t u : T} {q : T → Prop} {kds : List (Key × D)} (h0 : Rs ρ t u) (h1 : u.lstK = some (kds.map fun p => T.sh (.tup [kD p.1, p.2]))) (h2 : (kds.map Prod.fst).Nodup) (h : ∀ a, q (.dK a (kds.map Prod.fst) (kds.map fun p => T.sh p.2))) : fDictP ρ [t] q := ⟨t, rfl, u, h0, kds, h1, h2, h⟩
end
theorem d_iEnumT {χ : XD} {ρ : Env} {wa : WA} {q : List T → (Env → Prop) → Env → Prop} (h : wa χ ρ fun ts ρ1 => ∃ t, ts = [t] ∧ ∃ u, Rs ρ1 t u ∧ ∃ xs ds, u.tupK = some xs ∧ allSh xs = some ds ∧ q (enumT ds) (fun ρ => Rs ρ t u) ρ1) : wiEnumT wa χ ρ q := h
theorem d_iEnum {χ : XD} {ρ : Env} {wa : WA} {q : List T → (Env → Prop) → Env → Prop} (h : wa χ ρ fun ts ρ1 => ∃ t, ts = [t] ∧ ∃ u, Rs ρ1 t u ∧ ∃ xs ds, u.lstK = some xs ∧ allSh xs = some ds ∧ q (enumT ds) (fun ρ => Rs ρ t u) ρ1) : wiEnum wa χ ρ q := h
theorem enumT_at {ds : List D} {i : Nat} {t : T} (h : (enumT ds)[i]? = some t) : ∃ d, ds[i]? = some d ∧ t = .sh (.tup [.int (i : Nat), d]) := by
  have hi : i < ds.length := by rw [← enumT_len]; exact (List.getElem?_eq_some_iff.mp h).1
  have e := enumT_get (List.getElem?_eq_getElem hi)
  rw [h] at e
  exact ⟨_, List.getElem?_eq_getElem hi, Option.some.inj e⟩
def lcSc : Expr → Scope
  | .ListComp _ _ sc _ => sc
  | .DictComp _ _ _ sc _ => sc
  | _ => { kind := .function, names := [], isGenerator := false, isCoroutine := false }
def asgE : Stmt → Expr
  | .Assign _ v _ => v
  | _ => .Name "" ⟨0, 0, 0, 0⟩

end E
namespace E
open PySem PySem.Spec PyProof.Rows L2 G

def rIsiCl (K : PySem.W.Frag) : TC := rIsi K
theorem c_isiC {X : L2.Cx} : CallR X (.builtin "isinstance") (rIsiCl X.K) := call_isi
/-- what isinstance asks of an own class -/
structure IsC (K : PySem.W.Frag) (C : Addr) : Prop where
  cl : Cls K C
  ha : PySem.W.findIn K (.ref C) "__class__" = some (some (.builtin "object.__class__"))
  hn : PySem.W.specialIn K (.builtin "object.__class__") "__get__" = some (some (.builtin "getset_descriptor.__get__"))
  htk : PySem.W.takesIn K (.builtin "object.__class__") = some true
  hm : PySem.W.mroIn K C (.type "object") = some true
  me : PySem.W.kitOne K (.ref C) (.ref C) = some true
  no : ∀ n ∈ ["NoneType", "bool", "int", "str", "list", "tuple", "dict"], PySem.W.kitOne K (.type n) (.ref C) = some false
theorem tyn_in {u : T} {n : String} (h : u.tyn = some n) : n ∈ ["NoneType", "bool", "int", "str", "list", "tuple", "dict"] := by
  unfold T.tyn at h
  split at h <;> first | (cases h; decide) | cases h
def fIsiC (K : PySem.W.Frag) : Fd := fun ρ as Q => ∃ t C u, as = [t, .sh (.at C 0 [])] ∧ Rs ρ t u ∧ IsC K C ∧ (((∃ fs, u.cls = some (C, fs)) ∧ Q (.sh (.bl true))) ∨ ((∃ n, u.tyn = some n) ∧ Q (.sh (.bl false))))
section
variable {K : PySem.W.Frag} {W : Wx}
theorem cd_isiC : CbD (rIsiCl K) (fIsiC K) := ⟨fun Γ H σ tv ρ tt vs as Q k e l ⟨t, C, u, ea, hr, ic, h⟩ q => by
  subst ea
  obtain ⟨v, w, rfl⟩ := e.vs2 l
  obtain ⟨r1, r2⟩ := e.two l
  have r2 := r2.un
  cases r2
  rcases h with ⟨⟨fs, hc⟩, hk⟩ | ⟨⟨n, hn⟩, hk⟩
  · obtain ⟨a, dx, fvs, rfl, ea, _⟩ := (Rs.rep e r1 hr).cls hc
    exact ⟨.ref a, .ref C, .ref C, .ref C, true, rfl, .own C, .base (.ins ea ic.cl ic.ha ic.hn ic.htk ic.hm), ic.me, q _ _ H hk ((e.drop l).push (.bl _))⟩
  · exact ⟨v, .ref C, .type n, .ref C, false, rfl, .own C, (Rs.rep e r1 hr).tyn hn, ic.no n (tyn_in hn), q _ _ H hk ((e.drop l).push (.bl _))⟩⟩
theorem d_isiC1 {ρ : Env} {t u : T} {C : Addr} {fs : List Str} {q : T → Prop} (h0 : Rs ρ t u) (h1 : IsC K C) (h2 : u.cls = some (C, fs)) (h : q (.sh (.bl true))) : fIsiC K ρ [t, .sh (.at C 0 [])] q := ⟨t, C, u, rfl, h0, h1, .inl ⟨⟨fs, h2⟩, h⟩⟩
theorem d_isiC0 {ρ : Env} {t u : T} {C : Addr} {n : String} {q : T → Prop} (h0 : Rs ρ t u) (h1 : IsC K C) (h2 : u.tyn = some n) (h : q (.sh (.bl false))) : fIsiC K ρ [t, .sh (.at C 0 [])] q := ⟨t, C, u, rfl, h0, h1, .inr ⟨⟨n, h2⟩, h⟩⟩
/-- x == y by the own __eq__ of the class of both -/
def wEqO (C : Addr) (S : SpecD) (wa wb : WE) : WE := fun χ ρ Q => wa χ ρ fun t1 ρ1 => wb χ ρ1 fun t2 ρ2 => (∃ u1, Rs ρ2 t1 u1 ∧ ∃ fs, u1.cls = some (C, fs)) ∧ (∃ u2, Rs ρ2 t2 u2 ∧ ∃ fs, u2.cls = some (C, fs)) ∧ callW S noX ρ2 [t1, t2] fun z ρ3 => ∃ b, z = .sh (.bl b) ∧ Q (.sh (.bl b)) ρ3
theorem rf_eqO {c : Bool} {C : Addr} {S : SpecD} {ta tb : TE} {wa wb : WE} (hc : c = true → W.c = true) (ha : Rf W ta wa) (hb : Rf W tb wb) : Rf W (tOp (rEqO C (spD c S) E0) ta tb) (wEqO C S wa wb) := fun σ H Q ⟨Γ, tv, ρ, tt, χ, Q1, e, h, x, k⟩ => by
  refine ha σ H _ ⟨Γ, tv, ρ, tt, χ, _, e, h, x, fun t1 ρ1 v1 H1 h1 e1 => ?_⟩
  refine hb σ H1 _ ⟨Γ, _, ρ1, _, χ, _, e1, h1, x.deep e.tl rfl, fun t2 ρ2 v2 H2 ⟨⟨u1, r1, fs1, c1⟩, ⟨u2, r2, fs2, c2⟩, hcall⟩ e2 => ?_⟩
  rw [List.append_assoc, List.append_assoc] at e2
  obtain ⟨a, dx, fvs, ev1, ea, _⟩ := (Rs.rep e2 (e2.entry e.tl (k := 0) rfl rfl) r1).cls c1
  obtain ⟨b, dy, gvs, ev2, eb, _⟩ := (Rs.rep e2 (e2.entry e.tl (k := 1) rfl rfl) r2).cls c2
  refine ⟨a, b, dx, dy, fvs, gvs, ev1, ev2, ea, eb, ?_⟩
  refine callW_run (vs := [v1, v2]) (ts := [t1, t2]) e2 e.tl (fun z => x.1 (hc z)) hcall (fun z ρ3 v H' ⟨b, ez, hq⟩ e3 => ?_) fun C d fl ds ρ' H' c e' => c.elim
  subst ez
  have r := e3.last
  cases r with
  | sh r =>
  cases r
  exact ⟨b, rfl, k _ _ _ _ hq e3⟩
end

end E
namespace E
open PySem PySem.Spec PyProof.Rows L2 G

mutual
/-- as plain data: lists, tuples, texts, numbers .. -/
def D.py : D → Option PyData
  | .non => some .none
  | .bl b => some (.bool b)
  | .int i => some (.int i)
  | .str z => some (.str z)
  | .lst xs => (D.pyL xs).map PyData.list
  | .tup xs => (D.pyL xs).map PyData.tuple
  | _ => none
def D.pyL : List D → Option (List PyData)
  | [] => some []
  | x :: xs => (x.py).bind fun p => (D.pyL xs).map (p :: ·)
end
theorem pyL_map {α : Type} {f : α → D} {g : α → PyData} (h : ∀ x, (f x).py = some (g x)) : ∀ l : List α, D.pyL (l.map f) = some (l.map g)
  | [] => rfl
  | x :: r => by
    show ((f x).py).bind (fun p => (D.pyL (r.map f)).map (p :: ·)) = _
    rw [h, pyL_map h r]
    rfl
section
variable {K : PySem.W.Frag} {H : Hp} {A : Addr → Prop}
theorem rpAll_of : ∀ {xs : List D} {vs : List V} {ps : List PyData}, vs.length = xs.length → (∀ (k : Nat) (v : V) (d : D), vs[k]? = some v → xs[k]? = some d → ∀ p, d.py = some p → Rp (fun _ => True) K H v p) → D.pyL xs = some ps → RpAll (fun _ => True) K H vs ps
  | [], vs, ps, hl, _, h => by
    cases h
    match vs, hl with
    | [], _ => exact .nil
  | x :: xs, vs, ps, hl, hk, h => by
    match vs, hl with
    | v :: vs, hl =>
      have h : (x.py).bind (fun p => (D.pyL xs).map (p :: ·)) = some ps := h
      cases e1 : x.py with
      | none => rw [e1] at h; cases h
      | some p =>
        cases e2 : D.pyL xs with
        | none => rw [e1, e2] at h; cases h
        | some qs =>
          rw [e1, e2] at h
          cases h
          exact .cons (hk 0 v x rfl rfl p e1) (rpAll_of (by simpa using hl) (fun k w d h1 h2 => hk (k + 1) w d (by simpa using h1) (by simpa using h2)) e2)
theorem RD.rp {v : V} {d : D} (r : RD H A v d) : ∀ p, d.py = some p → Rp (fun _ => True) K H v p := by
  induction r with
  | non => intro p h; cases h; exact .non
  | bl b => intro p h; cases h; exact .bl b
  | int i => intro p h; cases h; exact .int i
  | str z => intro p h; cases h; exact .str z
  | @lst a vs xs e _ l _ ih =>
    intro p h
    have h : (D.pyL xs).map PyData.list = some p := h
    cases e2 : D.pyL xs with
    | none => rw [e2] at h; cases h
    | some qs =>
      rw [e2] at h
      cases h
      exact .lst e trivial (rpAll_of l ih e2)
  | @tup a vs xs e _ l _ ih =>
    intro p h
    have h : (D.pyL xs).map PyData.tuple = some p := h
    cases e2 : D.pyL xs with
    | none => rw [e2] at h; cases h
    | some qs =>
      rw [e2] at h
      cases h
      exact .tup e trivial (rpAll_of l ih e2)
  | _ => intro p h; cases h
/-- a shared tree, or a list of one's own of shared ones -/
def T.py : T → Option PyData
  | .sh d => d.py
  | .lst _ xs => (allSh xs).bind fun ds => (D.pyL ds).map PyData.list
  | _ => none
theorem R.rp {v : V} {t : T} {p : PyData} (r : R H A (some v) t) (h : t.py = some p) : Rp (fun _ => True) K H v p := by
  cases r with
  | sh r => exact r.rp p h
  | @lst a vs xs e l kd =>
    have h : (allSh xs).bind (fun ds => (D.pyL ds).map PyData.list) = some p := h
    cases e1 : allSh xs with
    | none => rw [e1] at h; cases h
    | some ds =>
      have h : (D.pyL ds).map PyData.list = some p := by rw [e1] at h; exact h
      cases e2 : D.pyL ds with
      | none => rw [e2] at h; cases h
      | some qs =>
        rw [e2] at h
        cases h
        have ex := allSh_eq e1
        subst ex
        exact .lst e trivial (rpAll_of (by rw [l, List.length_map]) (fun k w d h1 h2 => (kd k w (.sh d) h1 (map_get h2)).un.rp) e2)
  | _ => cases h
def fEqD (neg : Bool) : Fd := fun ρ as Q => ∃ t1 t2 u1 u2 p1 p2, as = [t1, t2] ∧ Rs ρ t1 u1 ∧ Rs ρ t2 u2 ∧ u1.py = some p1 ∧ u2.py = some p2 ∧ SeqAt.shaped p1 = true ∧ SeqAt.shaped p2 = true ∧ Q (.sh (.bl (if neg then !PyData.eqv p1 p2 else PyData.eqv p1 p2)))
theorem cd_eqD : CbD (r2 (rEqD K)) (fEqD false) := ⟨fun Γ H σ tv ρ tt vs as Q k e l ⟨t1, t2, u1, u2, p1, p2, ea, h1, h2, e1, e2, s1, s2, hk⟩ q x y ev => by
  subst ea ev
  obtain ⟨r1, r2⟩ := e.two l
  exact ⟨p1, p2, ((Rs.rep e r1 h1).rp e1).dp, ((Rs.rep e r2 h2).rp e2).dp, s1, s2, q _ _ H hk ((e.drop l).push (.bl _))⟩⟩
theorem cd_neD : CbD (r2 (rNeD K)) (fEqD true) := ⟨fun Γ H σ tv ρ tt vs as Q k e l ⟨t1, t2, u1, u2, p1, p2, ea, h1, h2, e1, e2, s1, s2, hk⟩ q x y ev => by
  subst ea ev
  obtain ⟨r1, r2⟩ := e.two l
  exact ⟨p1, p2, ((Rs.rep e r1 h1).rp e1).dp, ((Rs.rep e r2 h2).rp e2).dp, s1, s2, q _ _ H hk ((e.drop l).push (.bl _))⟩⟩
theorem d_eqD {ρ : Env} {t1 t2 u1 u2 : T} {p1 p2 : PyData} {q : T → Prop} (h1 : Rs ρ t1 u1) (h2 : Rs ρ t2 u2) (e1 : u1.py = some p1) (e2 : u2.py = some p2) (s1 : SeqAt.shaped p1 = true) (s2 : SeqAt.shaped p2 = true) (h : q (.sh (.bl (PyData.eqv p1 p2)))) : fEqD false ρ [t1, t2] q := ⟨t1, t2, u1, u2, p1, p2, rfl, h1, h2, e1, e2, s1, s2, h⟩
theorem d_neD {ρ : Env} {t1 t2 u1 u2 : T} {p1 p2 : PyData} {q : T → Prop} (h1 : Rs ρ t1 u1) (h2 : Rs ρ t2 u2) (e1 : u1.py = some p1) (e2 : u2.py = some p2) (s1 : SeqAt.shaped p1 = true) (s2 : SeqAt.shaped p2 = true) (h : q (.sh (.bl (!PyData.eqv p1 p2)))) : fEqD true ρ [t1, t2] q := ⟨t1, t2, u1, u2, p1, p2, rfl, h1, h2, e1, e2, s1, s2, h⟩
end
theorem d_eqO {χ : XD} {ρ : Env} {Q : T → Env → Prop} {C : Addr} {S : SpecD} {wa wb : WE} (h : wa χ ρ fun t1 ρ1 => wb χ ρ1 fun t2 ρ2 => (∃ u1, Rs ρ2 t1 u1 ∧ ∃ fs, u1.cls = some (C, fs)) ∧ (∃ u2, Rs ρ2 t2 u2 ∧ ∃ fs, u2.cls = some (C, fs)) ∧ callW S noX ρ2 [t1, t2] fun z ρ3 => ∃ b, z = .sh (.bl b) ∧ Q (.sh (.bl b)) ρ3) : wEqO C S wa wb χ ρ Q := h

end E
namespace E
open PySem PySem.Spec PyProof.Rows L2 G

def wIdx (wa : WE) (wr : WA) : WE := fun χ ρ Q => wa χ ρ fun t0 ρ1 => isLst ρ1 t0 ∧ wr χ ρ1 fun ts ρ2 => ∃ d y u xs ws j z, ts = [.sh d] ∧ d.sv = some y ∧ Rs ρ2 t0 u ∧ u.lstK = some xs ∧ svs xs = some ws ∧ ws[j]? = some z ∧ eqV z y = true ∧ (∀ (m : Nat) (z' : V), m < j → ws[m]? = some z' → eqV z' y = false) ∧ Q (.sh (.int (j : Nat))) ρ2
section
variable {W : Wx} {K : PySem.W.Frag}
theorem rf_idx {ta : TE} {tr : TA} {wa : WE} {wr : WA} (ha : Rf W ta wa) (hr : RfA W tr wr) : Rf W (tBM K "list" (rIndex K) ta tr) (wIdx wa wr) := fun σ H Q ⟨Γ, tv, ρ, tt, χ, Q1, e, h, x, k⟩ => by
  refine ha σ H _ ⟨Γ, tv, ρ, tt, χ, _, e, h, x, fun t0 ρ1 v0 H1 ⟨h0, h1⟩ e1 => ⟨h0.run e1, ?_⟩⟩
  refine hr σ H1 _ ⟨Γ, _, ρ1, _, χ, _, e1, h1, x.deep e.tl rfl, fun ts ρ2 vs H2 ⟨d, y, u, xs, ws, j, z, et, hy, hrs, hu, hw, hj, hz, hm, h2⟩ e2 => ?_⟩
  subst et
  obtain ⟨v, rfl⟩ := En.vs1 e2 (by simp [e.tl])
  rw [List.append_assoc, List.append_assoc] at e2
  have r0 := Rs.rep e2 (e2.entry e.tl (k := 0) rfl rfl) hrs
  have r1 := e2.entry e.tl (k := 1) rfl rfl
  cases r1 with
  | sh r1 =>
  have e3 := r1.sv hy
  subst e3
  obtain ⟨a, vs, rfl, q1, q2, kd⟩ := r0.lstK hu
  obtain ⟨q3, q4⟩ := svs_eq hw q2 kd
  subst q3
  refine ⟨a, vs, v, j, z, rfl, rfl, lq q1, ?_, q4, hj, hz, hm, k _ _ _ _ h2 ((e2.drop e.tl).push (.int _))⟩
  cases d <;> first | (cases hy; rfl) | cases hy
theorem d_idx {χ : XD} {ρ : Env} {Q : T → Env → Prop} {wa : WE} {wr : WA} (h : wa χ ρ fun t0 ρ1 => isLst ρ1 t0 ∧ wr χ ρ1 fun ts ρ2 => ∃ d y u xs ws j z, ts = [.sh d] ∧ d.sv = some y ∧ Rs ρ2 t0 u ∧ u.lstK = some xs ∧ svs xs = some ws ∧ ws[j]? = some z ∧ eqV z y = true ∧ (∀ (m : Nat) (z' : V), m < j → ws[m]? = some z' → eqV z' y = false) ∧ Q (.sh (.int (j : Nat))) ρ2) : wIdx wa wr χ ρ Q := h
end

end E
namespace E
open PySem PySem.Spec PyProof.Rows L2 G

/-- len(x) by the own __len__ of x's class -/
def wLenO (C : Addr) (S : SpecD) (wa : WA) : WE := fun χ ρ Q => wa χ ρ fun ts ρ1 => ∃ t, ts = [t] ∧ (∃ u, Rs ρ1 t u ∧ ∃ fs, u.cls = some (C, fs)) ∧ callW S noX ρ1 [t] fun z ρ2 => ∃ n : Nat, n < 10000 ∧ z = .sh (.int (n : Nat)) ∧ Q (.sh (.int (n : Nat))) ρ2
section
variable {W : Wx}
theorem rf_lenO {c : Bool} {C : Addr} {S : SpecD} {ta : TA} {wa : WA} (hc : c = true → W.c = true) (ha : RfA W ta wa) : Rf W (tCB (rLenO C (spD c S) E0) ta) (wLenO C S wa) := fun σ H Q ⟨Γ, tv, ρ, tt, χ, Q1, e, h, x, k⟩ => by
  refine ha σ H _ ⟨Γ, tv, ρ, tt, χ, _, e, h, x, fun ts ρ1 vs H1 ⟨t, et, ⟨u, r, fs, cu⟩, hcall⟩ e1 => ?_⟩
  subst et
  obtain ⟨v, rfl⟩ := En.vs1 e1 e.tl
  obtain ⟨a, dx, fvs, rfl, ea, _⟩ := (Rs.rep e1 (e1.entry e.tl (k := 0) rfl rfl) r).cls cu
  refine ⟨a, dx, fvs, rfl, ea, ?_⟩
  refine callW_run (vs := [.ref a]) (ts := [t]) e1 e.tl (fun z => x.1 (hc z)) hcall (fun z ρ3 v H' ⟨n, hn, ez, hq⟩ e3 => ?_) fun C d fl ds ρ' H' c e' => c.elim
  subst ez
  have r := e3.last
  cases r with
  | sh r =>
  cases r
  exact ⟨n, rfl, by omega, by omega, k _ _ _ _ hq e3⟩
theorem d_lenO {χ : XD} {ρ : Env} {Q : T → Env → Prop} {C : Addr} {S : SpecD} {wa : WA} (h : wa χ ρ fun ts ρ1 => ∃ t, ts = [t] ∧ (∃ u, Rs ρ1 t u ∧ ∃ fs, u.cls = some (C, fs)) ∧ callW S noX ρ1 [t] fun z ρ2 => ∃ n : Nat, n < 10000 ∧ z = .sh (.int (n : Nat)) ∧ Q (.sh (.int (n : Nat))) ρ2) : wLenO C S wa χ ρ Q := h
end

end E
namespace E
open PySem PySem.Spec PyProof.Rows L2 G

/-- x == y, two dicts with the same keys in the same order and the same plain values -/
def wEqDA (wa wb : WE) : WE := fun χ ρ Q => wa χ ρ fun t1 ρ1 => wb χ ρ1 fun t2 ρ2 => ∃ u1 u2 ks xs ws, Rs ρ2 t1 u1 ∧ Rs ρ2 t2 u2 ∧ u1.dictK = some (ks, xs) ∧ u2.dictK = some (ks, xs) ∧ ks.Nodup ∧ svs xs = some ws ∧ Q (.sh (.bl true)) ρ2
theorem pairs_eq {κ α : Type} : ∀ {l1 l2 : List (κ × α)}, l1.map Prod.fst = l2.map Prod.fst → l1.map Prod.snd = l2.map Prod.snd → l1 = l2
  | [], [], _, _ => rfl
  | [], _ :: _, h, _ => by simp at h
  | _ :: _, [], h, _ => by simp at h
  | (a, b) :: r, (c, d) :: s, h1, h2 => by
    simp only [List.map_cons, List.cons.injEq] at h1 h2
    obtain ⟨rfl, h1⟩ := h1
    obtain ⟨rfl, h2⟩ := h2
    rw [pairs_eq h1 h2]
theorem valV_self {κ : Type} [DecidableEq κ] {kvs : List (κ × V)} (nd : (kvs.map Prod.fst).Nodup) {p : κ × V} (h : p ∈ kvs) : valV kvs p.1 = some p.2 := by
  unfold valV
  induction kvs with
  | nil => cases h
  | cons q r ih =>
    rw [List.map_cons, List.nodup_cons] at nd
    rw [List.find?_cons]
    rcases List.mem_cons.mp h with rfl | h
    · simp
    · have : q.1 ≠ p.1 := fun e => nd.1 (e ▸ List.mem_map.mpr ⟨p, h, rfl⟩)
      rw [decide_eq_false this]
      exact ih nd.2 h
section
variable {W : Wx}
theorem rf_eqDA {ta tb : TE} {wa wb : WE} (hc : W.c = true) (ha : Rf W ta wa) (hb : Rf W tb wb) : Rf W (tOp rEqDA ta tb) (wEqDA wa wb) := fun σ H Q ⟨Γ, tv, ρ, tt, χ, Q1, e, h, x, k⟩ => by
  refine ha σ H _ ⟨Γ, tv, ρ, tt, χ, _, e, h, x, fun t1 ρ1 v1 H1 h1 e1 => ?_⟩
  refine hb σ H1 _ ⟨Γ, _, ρ1, _, χ, _, e1, h1, x.deep e.tl rfl, fun t2 ρ2 v2 H2 ⟨u1, u2, ks, xs, ws, r1, r2, d1, d2, nd, hw, hq⟩ e2 => ?_⟩
  rw [List.append_assoc, List.append_assoc] at e2
  have cal : Calm H2 := e2.ok.calm (x.1 hc)
  have un : ∀ {a : Addr} {kvs : List (Key × V)}, Rd H2 a (.dK kvs) → H2 a = some (.dK kvs) := fun h => h.elim id fun ⟨o, z⟩ => (cal _ _ _ z).elim
  obtain ⟨a, kvs, ev1, ea, k1, l1, kd1⟩ := (Rs.rep e2 (e2.entry e.tl (k := 0) rfl rfl) r1).dictK d1
  obtain ⟨b, lvs, ev2, eb, k2, l2, kd2⟩ := (Rs.rep e2 (e2.entry e.tl (k := 1) rfl rfl) r2).dictK d2
  obtain ⟨s1, fl⟩ := svs_eq (vs := kvs.map Prod.snd) hw (by rw [List.length_map, l1]) fun j v t q1 q2 => by
    obtain ⟨q, hq, rfl⟩ := get_map q1
    exact kd1 j q t hq q2
  obtain ⟨s2, _⟩ := svs_eq (vs := lvs.map Prod.snd) hw (by rw [List.length_map, l2]) fun j v t q1 q2 => by
    obtain ⟨q, hq, rfl⟩ := get_map q1
    exact kd2 j q t hq q2
  have ekl : kvs = lvs := pairs_eq (k1.trans k2.symm) (s1.trans s2.symm)
  subst ekl
  refine ⟨a, b, kvs, kvs, ev1, ev2, un ea, un eb, rfl, fun p hp => ⟨valV_self (by rw [k1]; exact nd) hp, ?_⟩, k _ _ _ _ hq ((e2.drop e.tl).push (.bl _))⟩
  have := List.all_eq_true.mp fl p.2 (by rw [← s1]; exact List.mem_map.mpr ⟨p, hp, rfl⟩)
  cases e3 : p.2 <;> rw [e3] at this <;> first | rfl | cases this
theorem d_eqDA {χ : XD} {ρ : Env} {Q : T → Env → Prop} {wa wb : WE} (h : wa χ ρ fun t1 ρ1 => wb χ ρ1 fun t2 ρ2 => ∃ u1 u2 ks xs ws, Rs ρ2 t1 u1 ∧ Rs ρ2 t2 u2 ∧ u1.dictK = some (ks, xs) ∧ u2.dictK = some (ks, xs) ∧ ks.Nodup ∧ svs xs = some ws ∧ Q (.sh (.bl true)) ρ2) : wEqDA wa wb χ ρ Q := h
end

end E
namespace G
open PySem PySem.Spec PyProof.Rows L2

/-! ### lists of dicts compared, the heap kept -/
section
open PySem.SeqAt
open AutoSeq1 (wpAny_loadPart')
variable {X : Cx} {n : Nat}
theorem rcH_sd {A : Around} {pins : List (Addr × Obj)} {s : Shared} {σ : L2.St} {H : Hp} {x y : V} {u v : Value} (sb : Sub X n A) (I : Inv X pins σ H s) (rx : RelV x u) (ry : RelV y v) (h : SD x y H) :
    wpAny (model X.prog X.w) A (richCompare .Eq u v) (fun r s' => r = .bool true ∧ Inv X pins σ H s') X.xe s := by
  obtain ⟨a, b, ks, ls, rfl, rfl, ea, eb, hlen, hp⟩ := h
  obtain rfl : u = Value.ref a := rx
  obtain rfl : v = Value.ref b := ry
  obtain ⟨_, ya, va, ra, da⟩ := (show ObjOk X.prog X.w H s.heap a (.dK ks) from I.hok a _ ea)
  obtain ⟨_, yb, vb, rb, db⟩ := (show ObjOk X.prog X.w H s.heap b (.dK ls) from I.hok b _ eb)
  have hl : va.length = vb.length := by rw [← ra.length, ← rb.length]; exact hlen
  refine PySem.W.keq_eq (knd := mixKind X.prog X.w) (r := true) ya yb da db sb.room.units0 (fun _ => hits_all rb ra hp) ?_
  refine ⟨?_, I⟩
  simp [hl]
theorem eqH_sd {A : Around} {pins : List (Addr × Obj)} {s : Shared} {σ : L2.St} {H : Hp} {x y : V} {u v : Value} (sb : Sub X n A) (I : Inv X pins σ H s) (rx : RelV x u) (ry : RelV y v) (h : SD x y H) :
    wpAny (model X.prog X.w) A (eqBool u v) (fun r s' => r = true ∧ Inv X pins σ H s') X.xe s := by
  obtain ⟨a, b, ks, ls, rfl, rfl, h'⟩ := id h
  cases rx
  cases ry
  by_cases hab : a = b
  · subst hab
    exact SeqAt.EqAt.same (A := A) (s := s) (.ref a) X.prog X.w X.xe _ ⟨rfl, I⟩
  · refine GQ.eqBool_refG hab (wpAny_mono (rcH_sd (x := .ref a) (y := .ref b) sb I rfl rfl h) (fun r s' q => ?_) fun _ _ x => x)
    obtain ⟨hr, I'⟩ := q
    exact ⟨_, hr, rfl, I'⟩
def rEqLH : R2 := fun x y H Q => DList SD x y H ∧ Q (.bl true) H
theorem op_eqLH (hr : Room (n + 1) X.A) : OpR X (compareOp .Eq) rEqLH := by
  intro pins s σ H x y v u Q I rx ry hq
  obtain ⟨⟨a, b, xs, ys, rfl, rfl, ha, hb, p⟩, q⟩ := hq
  show wpAny (model X.prog X.w) X.A (richCompare .Eq v u) (EP X pins σ Q) X.xe s
  cases rx
  cases ry
  have sb : Sub X (n + 1) X.A := ⟨hr, rfl⟩
  refine wpAny_mono (Q := fun r s' => r = .bool true ∧ Inv X pins σ H s') ?_ (fun r s' z => ?_) fun _ _ x => x
  · refine GQ.rc_listG (N := xs.length) sb.room.units0 (fun _ s' => Inv X pins σ H s') (fun i s' I1 => ?_) (fun s' q => ⟨rfl, q⟩) I
    obtain ⟨z, its, k, r, e⟩ := I1.hok a _ ha
    obtain ⟨z2, its2, k2, r2, e2⟩ := I1.hok b _ hb
    refine ⟨its.toArray, its2.toArray, k, k2, e, e2, by rw [List.size_toArray, ← r.length], by rw [List.size_toArray, ← r2.length, ← p.1], fun h1 h2 => ?_⟩
    have g1 : its[i]? = some its.toArray[i] := by
      have h1' : i < its.length := by simpa using h1
      rw [List.getElem?_eq_getElem h1'] <;> simp
    have g2 : its2[i]? = some its2.toArray[i] := by
      have h2' : i < its2.length := by simpa using h2
      rw [List.getElem?_eq_getElem h2'] <;> simp
    have k1 : i < xs.length := by rw [r.length]; simpa using h1
    have k2 : i < ys.length := by rw [r2.length]; simpa using h2
    obtain ⟨u, hu, ru⟩ := r.get (List.getElem?_eq_getElem k1)
    obtain ⟨v, hv, rv⟩ := r2.get (List.getElem?_eq_getElem k2)
    rw [g1] at hu
    rw [g2] at hv
    rw [Option.some.inj hu, Option.some.inj hv]
    exact eqH_sd sb.in1 I1 ru rv (p.2 i _ _ (List.getElem?_eq_getElem k1) (List.getElem?_eq_getElem k2))
  · obtain ⟨hr', I'⟩ := z
    subst hr'
    exact ⟨.bl true, H, I', rfl, q⟩
end

end G
namespace E
open PySem PySem.Spec PyProof.Rows L2 G

theorem sd_of {H : Hp} {A : Addr → Prop} {v1 v2 : V} {u1 u2 : T} {ks : List Key} {xs : List T} {ws : List V} (cal : Calm H) (r1 : R H A (some v1) u1) (r2 : R H A (some v2) u2) (d1 : u1.dictK = some (ks, xs)) (d2 : u2.dictK = some (ks, xs)) (nd : ks.Nodup) (hw : svs xs = some ws) : SD v1 v2 H := by
  have un : ∀ {a : Addr} {kvs : List (Key × V)}, Rd H a (.dK kvs) → H a = some (.dK kvs) := fun h => h.elim id fun ⟨o, z⟩ => (cal _ _ _ z).elim
  obtain ⟨a, kvs, ev1, ea, k1, l1, kd1⟩ := r1.dictK d1
  obtain ⟨b, lvs, ev2, eb, k2, l2, kd2⟩ := r2.dictK d2
  obtain ⟨s1, fl⟩ := svs_eq (vs := kvs.map Prod.snd) hw (by rw [List.length_map, l1]) fun j v t q1 q2 => by
    obtain ⟨q, hq, rfl⟩ := get_map q1
    exact kd1 j q t hq q2
  obtain ⟨s2, _⟩ := svs_eq (vs := lvs.map Prod.snd) hw (by rw [List.length_map, l2]) fun j v t q1 q2 => by
    obtain ⟨q, hq, rfl⟩ := get_map q1
    exact kd2 j q t hq q2
  have ekl : kvs = lvs := pairs_eq (k1.trans k2.symm) (s1.trans s2.symm)
  subst ekl
  refine ⟨a, b, kvs, kvs, ev1, ev2, un ea, un eb, rfl, fun p hp => ⟨valV_self (by rw [k1]; exact nd) hp, ?_⟩⟩
  have := List.all_eq_true.mp fl p.2 (by rw [← s1]; exact List.mem_map.mpr ⟨p, hp, rfl⟩)
  cases e3 : p.2 <;> rw [e3] at this <;> first | rfl | cases this
/-- x == y, two lists of the same dicts -/
def wEqLH (wa wb : WE) : WE := fun χ ρ Q => wa χ ρ fun t1 ρ1 => wb χ ρ1 fun t2 ρ2 => ∃ u1 u2, ∃ ds : List D, Rs ρ2 t1 u1 ∧ Rs ρ2 t2 u2 ∧ u1.lstK = some (ds.map T.sh) ∧ u2.lstK = some (ds.map T.sh) ∧ (∀ d ∈ ds, ∃ (ks : List Key) (xs : List D) (ws : List V), d = .dK ks xs ∧ ks.Nodup ∧ svs (xs.map T.sh) = some ws) ∧ Q (.sh (.bl true)) ρ2
section
variable {W : Wx}
theorem rf_eqLH {ta tb : TE} {wa wb : WE} (hc : W.c = true) (ha : Rf W ta wa) (hb : Rf W tb wb) : Rf W (tOp rEqLH ta tb) (wEqLH wa wb) := fun σ H Q ⟨Γ, tv, ρ, tt, χ, Q1, e, h, x, k⟩ => by
  refine ha σ H _ ⟨Γ, tv, ρ, tt, χ, _, e, h, x, fun t1 ρ1 v1 H1 h1 e1 => ?_⟩
  refine hb σ H1 _ ⟨Γ, _, ρ1, _, χ, _, e1, h1, x.deep e.tl rfl, fun t2 ρ2 v2 H2 ⟨u1, u2, ds, r1, r2, d1, d2, hd, hq⟩ e2 => ?_⟩
  rw [List.append_assoc, List.append_assoc] at e2
  have cal : Calm H2 := e2.ok.calm (x.1 hc)
  obtain ⟨a, vs, ev1, ea, l1, kd1⟩ := (Rs.rep e2 (e2.entry e.tl (k := 0) rfl rfl) r1).lstK d1
  obtain ⟨b, ws, ev2, eb, l2, kd2⟩ := (Rs.rep e2 (e2.entry e.tl (k := 1) rfl rfl) r2).lstK d2
  refine ⟨⟨a, b, vs, ws, ev1, ev2, ea, eb, by rw [l1, l2], fun i p q h1 h2 => ?_⟩, k _ _ _ _ hq ((e2.drop e.tl).push (.bl _))⟩
  have il : i < ds.length := by have := (List.getElem?_eq_some_iff.mp h1).1; rw [l1, List.length_map] at this; exact this
  have hdi : ds[i]? = some ds[i] := List.getElem?_eq_getElem il
  obtain ⟨ks, xs, ws', ed, nd, hw⟩ := hd _ (List.getElem_mem il)
  rw [ed] at hdi
  exact sd_of cal (kd1 i p _ h1 (map_get hdi)) (kd2 i q _ h2 (map_get hdi)) rfl rfl nd hw
theorem d_eqLH {χ : XD} {ρ : Env} {Q : T → Env → Prop} {wa wb : WE} (h : wa χ ρ fun t1 ρ1 => wb χ ρ1 fun t2 ρ2 => ∃ u1 u2, ∃ ds : List D, Rs ρ2 t1 u1 ∧ Rs ρ2 t2 u2 ∧ u1.lstK = some (ds.map T.sh) ∧ u2.lstK = some (ds.map T.sh) ∧ (∀ d ∈ ds, ∃ (ks : List Key) (xs : List D) (ws : List V), d = .dK ks xs ∧ ks.Nodup ∧ svs (xs.map T.sh) = some ws) ∧ Q (.sh (.bl true)) ρ2) : wEqLH wa wb χ ρ Q := h
end

end E
namespace E
open PySem PySem.Spec PyProof.Rows L2 G

def fIsntB : Fd := fun ρ as Q => ∃ x y : Bool, as = [.sh (.bl x), .sh (.bl y)] ∧ Q (.sh (.bl (x != y)))
theorem cd_isntB : CbD (r2 rIsntB) fIsntB := ⟨fun Γ H σ tv ρ tt vs as Q k e l ⟨x, y, ea, hk⟩ q v w ev => by
  subst ea ev
  obtain ⟨r1, r2⟩ := e.two l
  have r1 := r1.un
  have r2 := r2.un
  cases r1
  cases r2
  exact ⟨x, y, rfl, rfl, q _ _ H hk ((e.drop l).push (.bl _))⟩⟩
theorem d_isntB {ρ : Env} {x y : Bool} {q : T → Prop} (h : q (.sh (.bl (x != y)))) : fIsntB ρ [.sh (.bl x), .sh (.bl y)] q := ⟨x, y, rfl, h⟩
/-- behind the first of two: what holds of every environment with I -/
theorem d_seqR {w1 w2 : WS} {k : WK} {ρ : Env} (I : Env → Prop) (h2 : ∀ ρ', I ρ' → w2 k ρ') (h1 : ∀ NX : Env → Prop, (∀ ρ', I ρ' → NX ρ') → w1 { k with nx := fun ρ1 => ∃ ρ2, Pubs ρ1 ρ2 ∧ NX ρ2 } ρ) : wSeq w1 w2 k ρ := h1 (fun ρ' => w2 k ρ') h2

end E
namespace E
open PySem PySem.Spec PyProof.Rows L2 G

section
variable {χ : XD} {ρ ρ1 : Env} {Q : T → Env → Prop} {k : WK} {t u : T} {i : Nat}
theorem lendN {ρ' : Env} {ts ts' : List T} {ls : List (Option (Nat × List Nat × Addr))} {a : Addr} {p : List Nat} (h1 : gt ρ i p = some u) (h2 : u.addr = some a) (e : pt ρ i p (.sh (.at a i p)) = ρ1) (h : LendL ρ1 ts ρ' ts' ls) : LendL ρ (.sh (.at a i p) :: ts) ρ' (u :: ts') (some (i, p, a) :: ls) := .lend h1 h2 (e ▸ h)
theorem putN {ρ' : Env} {ts : List T} {ls : List (Option (Nat × List Nat × Addr))} {a : Addr} {i' : Nat} {p p' : List Nat} (h1 : gt ρ i p = some (.sh (.at a i' p'))) (e : pt ρ i p t = ρ1) (h : BackL ρ1 ls ts ρ') : BackL ρ (some (i, p, a) :: ls) (t :: ts) ρ' := .put h1 (e ▸ h)
theorem d_nameN {q : Env → Prop} (hi : i < ρ.length) (e : ρ.set i t = ρ1) (h : q ρ1) : gwName i t ρ q := ⟨hi, e ▸ h⟩
theorem d_mvN (h1 : ρ[i]? = some t) (h2 : t.live = true) (e : ρ.set i (t.left i) = ρ1) (h : Q t ρ1) : wMv i χ ρ Q := ⟨t, h1, h2, e ▸ h⟩
theorem d_p1N {P : Env → Prop} {d : D} (i : Nat) (h1 : ρ[i]? = some t) (h2 : t.pub = some d) (e : ρ.set i (.sh d) = ρ1) (h : ∃ ρ2, Pubs ρ1 ρ2 ∧ P ρ2) : ∃ ρ2, Pubs ρ ρ2 ∧ P ρ2 := d_p1 i h1 h2 (e ▸ h)
theorem d_appvN {a : Addr} {i : Nat} {p : List Nat} {xs : List T} {P : Env → Prop} (h1 : gt ρ i p = some (.lst a xs)) (h2 : xs.length < 10000) (e : pt ρ i p (.lst a (xs ++ [t])) = ρ1) (h : P ρ1) : ∃ a' i' p' xs t', T.sh (.at a i p) = .sh (.at a' i' p') ∧ [t] = [t'] ∧ gt ρ i' p' = some (.lst a' xs) ∧ xs.length < 10000 ∧ P (pt ρ i' p' (.lst a' (xs ++ [t']))) := ⟨a, i, p, xs, t, rfl, rfl, h1, h2, e ▸ h⟩
theorem d_gsubvN {a : Addr} {i : Nat} {p : List Nat} {xs : List T} {kk : Int} {n : Nat} {P : Env → Prop} (h1 : gt ρ i p = some (.lst a xs)) (h2 : ixN xs.length kk = some n) (e : pt ρ i p (.lst a (xs.set n t)) = ρ1) (h : P ρ1) : ∃ a' i' p' xs kk' n, T.sh (.at a i p) = .sh (.at a' i' p') ∧ T.sh (.int kk) = .sh (.int kk') ∧ gt ρ i' p' = some (.lst a' xs) ∧ ixN xs.length kk' = some n ∧ P (pt ρ i' p' (.lst a' (xs.set n t))) := ⟨a, i, p, xs, kk, n, rfl, rfl, h1, h2, e ▸ h⟩
theorem d_dputvN {a : Addr} {i : Nat} {p : List Nat} {d : D} {ky : Key} {ks ks' : List Key} {xs xs' : List T} {P : Env → Prop} (h1 : d.key = some ky) (h2 : gt ρ i p = some (.dK a ks xs)) (h3 : ks.length < 10000) (h4 : PutR ks xs ky t ks' xs') (e : pt ρ i p (.dK a ks' xs') = ρ1) (h : P ρ1) : ∃ a' i' p' ks xs d' ky ks' xs', T.sh (.at a i p) = .sh (.at a' i' p') ∧ T.sh d = .sh d' ∧ d'.key = some ky ∧ gt ρ i' p' = some (.dK a' ks xs) ∧ ks.length < 10000 ∧ PutR ks xs ky t ks' xs' ∧ P (pt ρ i' p' (.dK a' ks' xs')) := ⟨a, i, p, ks, xs, d, ky, ks', xs', rfl, rfl, h1, h2, h3, h4, e ▸ h⟩
theorem d_gconsN {w : List T → Env → (Env → Prop) → Prop} {r : List T} {K' : Env → Prop} (hi : i < ρ.length) (e : ρ.set i t = ρ1) (h : w r ρ1 K') : gwCons i w (t :: r) ρ K' := ⟨t, r, rfl, hi, e ▸ h⟩
/-- what comes behind is kept out of sight -/
theorem d_seqV {a b : WS} (h : ∀ B : WS, (∀ k' ρ', b k' ρ' → B k' ρ') → a { k with nx := fun ρ1 => ∃ ρ2, Pubs ρ1 ρ2 ∧ B k ρ2 } ρ) : wSeq a b k ρ := h b fun _ _ h => h
end

end E
set_option Elab.async false
set_option linter.all false
set_option maxRecDepth 100000
set_option maxHeartbeats 4000000

namespace Z
open PySem PySem.Spec PyProof.Rows L2 G E
local macro_rules | `(tactic| walk_at "go") => `(tactic| repeat (first
  | with_reducible refine g_seq ?_ | with_reducible refine g_tru ?_ | with_reducible refine g_min2 ?_ | with_reducible refine g_neg ?_ | with_reducible refine g_asg ?_ | with_reducible refine g_name ?_ | ((with_reducible apply g_var); exact rfl) | with_reducible refine g_c ?_ | with_reducible refine g_op ?_ | with_reducible refine g_un ?_ | with_reducible refine g_I0 ?_
  | with_reducible refine g_drop ?_ | with_reducible refine g_ret ?_ | with_reducible refine g_retN ?_ | with_reducible refine g_ifS ?_ | with_reducible refine g_ife ?_ | with_reducible refine g_test ?_ | with_reducible refine g_B ?_ | with_reducible refine g_bl ?_
  | with_reducible refine g_and ?_ | with_reducible refine g_or ?_ | with_reducible refine g_not ?_ | with_reducible refine g_andV ?_ | with_reducible refine g_orV ?_ | with_reducible refine g_notV ?_ | with_reducible refine g_chain ?_ | with_reducible refine g_nil ?_ | with_reducible refine g_cons ?_ | with_reducible refine g_cb ?_ | with_reducible refine g_cl ?_ | with_reducible refine g_mt ?_
  | with_reducible refine g_next ?_ | with_reducible refine g_brk ?_ | with_reducible refine g_cont ?_ | with_reducible refine g_lst ?_ | with_reducible refine g_tup ?_ | with_reducible refine g_sub ?_ | with_reducible refine g_isN ?_ | with_reducible refine g_notN ?_
  | with_reducible refine g_for ?_ | with_reducible refine g_m1 ?_ | with_reducible refine g_fld ?_ | with_reducible refine g_pairs1 ?_ | with_reducible refine g_mk0 ?_ | with_reducible refine g_sl ?_ | with_reducible refine g_noPart ?_ | with_reducible refine g_part ?_ | with_reducible refine g_mtS ?_ | with_reducible refine g_xf ?_ | with_reducible refine g_sfld ?_ | with_reducible refine g_iKeys ?_ | ((with_reducible apply g_lenD); assumption) | with_reducible refine g_rx ?_ | with_reducible refine g_mkx ?_ | ((with_reducible apply g_isi); assumption) | with_reducible refine g_dput ?_ | with_reducible refine g_dget ?_ | with_reducible refine g_din ?_ | with_reducible refine g_dnotin ?_ | with_reducible refine g_bm ?_ | with_reducible refine g_bm0 ?_ | ((with_reducible apply g_tyL); (first | assumption | exact lq (by assumption))) | with_reducible refine g_isStr ?_ | with_reducible refine g_iList ?_ | with_reducible refine g_iTup ?_ | with_reducible refine g_iRng1 ?_ | with_reducible refine g_iStr ?_ | with_reducible refine g_iEnum ?_ | with_reducible refine g_lc ?_ | with_reducible refine g_yes ?_
  | ((with_reducible apply g_len); (first | assumption | exact lq (by assumption))) | with_reducible refine g_int ?_
  | ((with_reducible apply g_ixL); (first | assumption | exact lq (by assumption)); (first | exact atI_0 | exact atI_1 | exact atI_2))))

local macro_rules | `(tactic| walk_at "ref") => `(tactic| repeat (first
  | with_reducible apply rfs_seq | with_reducible exact rfs_next | with_reducible exact rfs_brk | with_reducible exact rfs_cont | with_reducible apply rfs_drop | with_reducible apply rfs_ret | with_reducible exact rfs_retN | with_reducible apply rfs_if
  | with_reducible apply rfs_asg | ((with_reducible apply rfg_name); decide) | with_reducible apply rfg_tup | with_reducible apply rfgs_cons (by decide) | with_reducible exact rfgs_nil (w := fun _ _ _ => True)
  | with_reducible apply rfs_for | with_reducible apply rfs_while | ((with_reducible apply rfs_forK); (exact rfl)) | with_reducible apply rfs_aug (by decide) | with_reducible apply rfs_fld | with_reducible apply rfs_dput | ((with_reducible apply rfs_rx); (first | exact fun _ _ _ _ h => h | exact fun _ _ _ _ h => .inl h)) 
  | with_reducible exact rf_var | with_reducible exact rf_mv | with_reducible exact rf_int | with_reducible exact rf_str | with_reducible exact rf_bl | with_reducible exact rf_non | with_reducible exact rf_ty | with_reducible exact rf_ref
  | with_reducible apply rf_op (by walk_at "cd") | with_reducible apply rf_un (by walk_at "cd") | with_reducible apply rf_cb (by walk_at "cd") 
  | with_reducible exact rfa_nil | with_reducible apply rfa_cons | with_reducible apply rf_lst | with_reducible apply rf_tup | with_reducible exact rf_dnew
  | with_reducible apply rft_b | with_reducible apply rft_test | with_reducible apply rft_and | with_reducible apply rft_or | with_reducible apply rft_not | with_reducible exact rft_yes | with_reducible apply rft_tru
  | with_reducible apply rf_andV | with_reducible apply rf_orV | with_reducible apply rf_notV | with_reducible apply rf_ifE | with_reducible apply rf_chain (by walk_at "cd") (by walk_at "cd") 
  | ((with_reducible apply rf_cl0); (first | exact fun _ => rfl | exact fun h => nomatch h)) | ((with_reducible apply rf_cl); (first | exact fun _ => rfl | exact fun h => nomatch h); (first | exact fun _ _ _ _ h => h | exact fun _ _ _ _ h => h.elim)) 
  | ((with_reducible apply rf_mt0); (first | exact fun _ => rfl | exact fun h => nomatch h)) | ((with_reducible apply rf_mt); (first | exact fun _ => rfl | exact fun h => nomatch h); (first | exact fun _ _ _ _ h => h | exact fun _ _ _ _ h => h.elim)) 
  | ((with_reducible apply rf_mk); (first | exact fun _ => rfl | exact fun h => nomatch h); (first | exact fun _ _ _ _ h => h | exact fun _ _ _ _ h => h.elim)) 
  | ((with_reducible apply rf_eqO); (first | exact fun _ => rfl | exact fun h => nomatch h)) | ((with_reducible apply rf_lenO); (first | exact fun _ => rfl | exact fun h => nomatch h)) | ((with_reducible apply rf_eqDA); (exact rfl)) | ((with_reducible apply rf_eqLH); (exact rfl)) | with_reducible apply rf_app | with_reducible apply rf_idx | with_reducible apply rf_fld | with_reducible apply rf_dget | with_reducible apply rf_din | with_reducible apply rf_dnotin
  | with_reducible apply rfi_list | with_reducible apply rfi_tup | with_reducible apply rfi_seq | with_reducible apply rfi_rng1 | with_reducible apply rfi_rng2 | with_reducible apply rfi_str | with_reducible apply rfi_enum | with_reducible apply rfi_enumT
  | with_reducible apply rf_lc | with_reducible apply rf_dc | with_reducible exact rfo_none | with_reducible apply rfo_some | with_reducible apply rf_slL | with_reducible apply rfs_cut | with_reducible apply rfg_sub | with_reducible apply rf_join | ((with_reducible apply rf_lcK); (exact rfl))))
local macro_rules | `(tactic| walk_at "cd") => `(tactic| first
  | with_reducible exact cd_add | with_reducible exact cd_sub | with_reducible exact cd_lt | with_reducible exact cd_le | with_reducible exact cd_gt | with_reducible exact cd_ge | with_reducible exact cd_eq | with_reducible exact cd_ne | with_reducible exact cd_isN | with_reducible exact cd_notN | with_reducible exact cd_in | with_reducible exact cd_len | with_reducible exact cd_lenR | with_reducible exact cd_lenS
  | with_reducible exact cd_ixL | with_reducible exact cd_ixT | with_reducible exact cd_mul | with_reducible exact cd_mod | with_reducible exact cd_fdiv | with_reducible exact cd_list | with_reducible exact cd_listK | with_reducible exact cd_tuple | with_reducible exact cd_dict | with_reducible exact cd_dictP | with_reducible exact cd_int | with_reducible exact cd_sortS | with_reducible exact cd_sortD | with_reducible exact cd_isi | with_reducible exact cd_isntB | with_reducible exact cd_isiC | with_reducible exact cd_eqD | with_reducible exact cd_neD | with_reducible exact cd_isi2 | with_reducible exact cd_cat | with_reducible exact cd_fdivW | with_reducible exact cd_mulW | with_reducible exact cd_pow | with_reducible exact cd_ixS | with_reducible exact cd_mulS | with_reducible exact cd_inS | with_reducible exact cd_notInS)

local macro_rules | `(tactic| walk_at "d") => `(tactic| repeat (first
  | with_reducible refine d_seq ?_ | with_reducible refine d_p0 ?_ | with_reducible refine d_next ?_ | with_reducible refine d_brk ?_ | with_reducible refine d_cont ?_ | with_reducible refine d_drop ?_ | with_reducible refine d_ret ?_ | with_reducible refine d_retN ?_ | with_reducible refine d_if ?_ | with_reducible refine d_asg ?_
  | ((with_reducible apply d_nameN); exact of_decide_eq_true rfl; walk_at "nz") | with_reducible refine d_c ?_ | ((with_reducible apply d_var); exact rfl; exact rfl) | ((with_reducible apply d_mvN); exact rfl; exact rfl; walk_at "nz")
  | with_reducible refine d_op ?_ | with_reducible refine d_un ?_ | with_reducible refine d_cb ?_ | with_reducible refine d_nil ?_ | with_reducible refine d_cons ?_ | with_reducible refine d_lst ?_ | with_reducible refine d_tup ?_ | with_reducible refine d_dnew ?_
  | with_reducible refine d_b ?_ | with_reducible refine d_isb ?_ | with_reducible refine d_and ?_ | with_reducible refine d_or ?_ | with_reducible refine d_not ?_ | with_reducible refine d_yes ?_ | with_reducible refine d_andV ?_ | with_reducible refine d_orV ?_ | with_reducible refine d_notV ?_ | with_reducible refine d_ifE ?_ | with_reducible refine d_chain ?_ | with_reducible refine d_issh ?_
  | with_reducible refine d_I0 ?_ | ((with_reducible apply d_eq); exact rfl; exact rfl; exact rfl) | ((with_reducible apply d_ne); exact rfl; exact rfl; exact rfl) | ((with_reducible apply d_isN); exact rfl) | ((with_reducible apply d_notN); exact rfl)
  | with_reducible refine d_fld ?_ | with_reducible refine d_dget ?_ | with_reducible refine d_call ?_ | with_reducible refine d_call0 ?_ | with_reducible refine d_meth ?_ | with_reducible refine d_meth0 ?_ | with_reducible refine d_app ?_ | with_reducible refine d_for ?_ | with_reducible refine d_iList ?_ | with_reducible refine d_iTup ?_ | with_reducible refine d_iRng1 ?_ | with_reducible refine d_iStr ?_ | with_reducible refine d_lc ?_ | with_reducible refine d_dc ?_ | with_reducible refine d_isntB ?_ | with_reducible refine d_eqLH ?_ | with_reducible refine d_eqDA ?_ | with_reducible refine d_lenO ?_ | with_reducible refine d_idx ?_ | with_reducible refine d_eqO ?_ | with_reducible refine d_iEnumT ?_ | with_reducible refine d_iEnum ?_
  | ((with_reducible apply d_islst); (walk_at "rs"); exact rfl) | ((with_reducible apply d_appvN); exact rfl; rotate_left; walk_at "nz"; rotate_left)
  | ((with_reducible apply d_ln); (walk_at "rs"); exact rfl)
  | ((with_reducible apply d_ixL); (walk_at "rs"); exact rfl; exact rfl; exact rfl; exact rfl) | ((with_reducible apply d_ixT); (walk_at "rs"); exact rfl; exact rfl; exact rfl; exact rfl) | ((with_reducible apply d_gsubvN); exact rfl; exact rfl; walk_at "nz") | with_reducible refine d_int ?_ | with_reducible refine d_intb ?_
  | ((with_reducible apply d_isi true); (walk_at "rs"); exact rfl; decide +kernel) | ((with_reducible apply d_isi false); (walk_at "rs"); exact rfl; decide +kernel)
  | ((with_reducible apply d_lenR); (walk_at "rs"); exact rfl) | with_reducible refine d_din ?_ | with_reducible refine d_dnin ?_ | with_reducible refine d_tru ?_ | with_reducible refine d_raise ?_ | with_reducible refine d_make ?_ | ((with_reducible apply d_aug); exact rfl)
  | with_reducible refine d_gtup2 rfl ?_ | with_reducible refine d_gtup3 rfl ?_ | with_reducible refine d_gtup rfl ?_ | with_reducible refine d_gnil ?_ | with_reducible refine d_augw (of_decide_eq_true rfl) ?_ | ((with_reducible apply d_gconsN); exact of_decide_eq_true rfl; walk_at "nz")
  | with_reducible refine d_gsub ?_ | with_reducible refine d_dput ?_ | with_reducible refine d_sfld ?_ | with_reducible refine d_join ?_ | with_reducible refine d_iss ?_
  | with_reducible refine d_iT rfl ?_ | with_reducible refine d_iF rfl ?_))
local macro_rules | `(tactic| walk_at "rs") => `(tactic| first | exact rfl | exact ⟨rfl, rfl⟩)
local macro_rules | `(tactic| walk_at "lend") => `(tactic| repeat (first | exact LendL.nil _ | ((apply lendN); exact rfl; exact rfl; walk_at "nz") | apply LendL.keep))
local macro_rules | `(tactic| walk_at "back") => `(tactic| repeat (first | exact BackL.nil _ | ((apply putN); exact rfl; walk_at "nz") | apply BackL.skip))
local macro_rules | `(tactic| walk_at "cw") => `(tactic| (apply d_cw; (focus walk_at "lend")))
local macro_rules | `(tactic| walk_at "bk") => `(tactic| (apply d_back; (focus walk_at "back")))
local macro_rules | `(tactic| walk_at "nz") => `(tactic| ((try simp only [pt, wipeE, List.map_cons, List.map_nil, _root_.E.T.put, _root_.E.T.kids, _root_.E.T.wk, _root_.E.T.left, List.getElem?_cons_zero, List.getElem?_cons_succ, List.set_cons_zero, List.set_cons_succ]); exact rfl))

def topS (i : Nat) : Stmt := PySem.Challenge.pw_thawedwrites_k04_heap_normal_form.main.body.getD i (.Pass ⟨0, 0, 0, 0⟩)
abbrev s_InvalidHeap_init : Stmt := inClass (topS 2) 0
theorem sc_InvalidHeap_init : FnScope ["self", "part", "where"] ["self", "part", "where"] (defScope s_InvalidHeap_init) := ⟨rfl, rfl, rfl, by decide +kernel, rfl, by decide +kernel, by decide +kernel⟩
abbrev s_InvalidArgument_init : Stmt := inClass (topS 3) 0
theorem sc_InvalidArgument_init : FnScope ["self", "part"] ["self", "part"] (defScope s_InvalidArgument_init) := ⟨rfl, rfl, rfl, by decide +kernel, rfl, by decide +kernel, by decide +kernel⟩
abbrev s_is_integer : Stmt := topS 7
theorem sc_is_integer : FnScope ["value"] ["value"] (defScope s_is_integer) := ⟨rfl, rfl, rfl, by decide +kernel, rfl, by decide +kernel, by decide +kernel⟩
abbrev s_is_word : Stmt := topS 8
theorem sc_is_word : FnScope ["value", "letter"] ["value"] (defScope s_is_word) := ⟨rfl, rfl, rfl, by decide +kernel, rfl, by decide +kernel, by decide +kernel⟩
abbrev s_is_word_list : Stmt := topS 9
theorem sc_is_word_list : FnScope ["values", "least", "most", "seen", "value"] ["values", "least", "most"] (defScope s_is_word_list) := ⟨rfl, rfl, rfl, by decide +kernel, rfl, by decide +kernel, by decide +kernel⟩
abbrev s_is_number_below : Stmt := topS 10
theorem sc_is_number_below : FnScope ["value", "count"] ["value", "count"] (defScope s_is_number_below) := ⟨rfl, rfl, rfl, by decide +kernel, rfl, by decide +kernel, by decide +kernel⟩
abbrev s_is_object : Stmt := topS 14
theorem sc_is_object : FnScope ["item", "fields", "count", "field", "value"] ["item", "fields", "count"] (defScope s_is_object) := ⟨rfl, rfl, rfl, by decide +kernel, rfl, by decide +kernel, by decide +kernel⟩
abbrev s_check_objects : Stmt := topS 15
theorem sc_check_objects : FnScope ["objects", "fields", "at", "item"] ["objects", "fields"] (defScope s_check_objects) := ⟨rfl, rfl, rfl, by decide +kernel, rfl, by decide +kernel, by decide +kernel⟩
abbrev s_check_names : Stmt := topS 16
theorem sc_check_names : FnScope ["names", "count", "name", "value"] ["names", "count"] (defScope s_check_names) := ⟨rfl, rfl, rfl, by decide +kernel, rfl, by decide +kernel, by decide +kernel⟩
abbrev s_meeting_numbers : Stmt := topS 17
theorem sc_meeting_numbers : FnScope ["objects", "fields", "roots", "numbers", "order", "root", "at", "field", "value"] ["objects", "fields", "roots"] (defScope s_meeting_numbers) := ⟨rfl, rfl, rfl, by decide +kernel, rfl, by decide +kernel, by decide +kernel⟩
abbrev s_renumbered : Stmt := topS 18
theorem sc_renumbered : FnScope ["value", "numbers"] ["value", "numbers"] (defScope s_renumbered) := ⟨rfl, rfl, rfl, by decide +kernel, rfl, by decide +kernel, by decide +kernel⟩
abbrev s_Heap_init : Stmt := inClass (topS 19) 0
theorem sc_Heap_init : FnScope ["self", "fields", "objects", "names", "item"] ["self", "fields", "objects", "names"] (defScope s_Heap_init) := ⟨rfl, rfl, rfl, by decide +kernel, rfl, by decide +kernel, by decide +kernel⟩
abbrev s_Heap_reckoned_shape : Stmt := inClass (topS 19) 1
theorem sc_Heap_reckoned_shape : FnScope ["self", "ordered", "numbers", "names", "objects", "number", "item", "name", "field"] ["self"] (defScope s_Heap_reckoned_shape) := ⟨rfl, rfl, rfl, by decide +kernel, rfl, by decide +kernel, by decide +kernel⟩
abbrev s_Heap_eq : Stmt := inClass (topS 19) 2
theorem sc_Heap_eq : FnScope ["self", "other"] ["self", "other"] (defScope s_Heap_eq) := ⟨rfl, rfl, rfl, by decide +kernel, rfl, by decide +kernel, by decide +kernel⟩
abbrev s_Heap_getitem : Stmt := inClass (topS 19) 3
theorem sc_Heap_getitem : FnScope ["self", "at"] ["self", "at"] (defScope s_Heap_getitem) := ⟨rfl, rfl, rfl, by decide +kernel, rfl, by decide +kernel, by decide +kernel⟩
abbrev s_Heap_iter : Stmt := inClass (topS 19) 4
theorem sc_Heap_iter : FnScope ["self"] ["self"] (defScope s_Heap_iter) := ⟨rfl, rfl, rfl, by decide +kernel, rfl, by decide +kernel, by decide +kernel⟩
abbrev s_Heap_contains : Stmt := inClass (topS 19) 5
theorem sc_Heap_contains : FnScope ["self", "x"] ["self", "x"] (defScope s_Heap_contains) := ⟨rfl, rfl, rfl, by decide +kernel, rfl, by decide +kernel, by decide +kernel⟩
abbrev s_Heap_len : Stmt := inClass (topS 19) 6
theorem sc_Heap_len : FnScope ["self"] ["self"] (defScope s_Heap_len) := ⟨rfl, rfl, rfl, by decide +kernel, rfl, by decide +kernel, by decide +kernel⟩
abbrev s_Heap_objects : Stmt := inClass (topS 19) 7
theorem sc_Heap_objects : FnScope ["self", "item"] ["self"] (defScope s_Heap_objects) := ⟨rfl, rfl, rfl, by decide +kernel, rfl, by decide +kernel, by decide +kernel⟩
abbrev s_Heap_names : Stmt := inClass (topS 19) 8
theorem sc_Heap_names : FnScope ["self"] ["self"] (defScope s_Heap_names) := ⟨rfl, rfl, rfl, by decide +kernel, rfl, by decide +kernel, by decide +kernel⟩
abbrev s_Heap_root : Stmt := inClass (topS 19) 9
theorem sc_Heap_root : FnScope ["self", "name"] ["self", "name"] (defScope s_Heap_root) := ⟨rfl, rfl, rfl, by decide +kernel, rfl, by decide +kernel, by decide +kernel⟩
abbrev s_Heap_at : Stmt := inClass (topS 19) 10
theorem sc_Heap_at : FnScope ["self", "name", "path", "value", "field"] ["self", "name", "path"] (defScope s_Heap_at) := ⟨rfl, rfl, rfl, by decide +kernel, rfl, by decide +kernel, by decide +kernel⟩
abbrev s_Heap_parts : Stmt := inClass (topS 19) 11
theorem sc_Heap_parts : FnScope ["self", "name", "depth", "root", "found", "layer", "away", "further", "number", "field", "value"] ["self", "name", "depth"] (defScope s_Heap_parts) := ⟨rfl, rfl, rfl, by decide +kernel, rfl, by decide +kernel, by decide +kernel⟩
abbrev s_Heap_normal : Stmt := inClass (topS 19) 12
theorem sc_Heap_normal : FnScope ["self", "fields", "names", "objects", "items", "row", "k", "field"] ["self"] (defScope s_Heap_normal) := ⟨rfl, rfl, rfl, by decide +kernel, rfl, by decide +kernel, by decide +kernel⟩
abbrev s_l_is_integer : Stmt := topS 21
theorem sc_l_is_integer : FnScope ["_law_x"] ["_law_x"] (defScope s_l_is_integer) := ⟨rfl, rfl, rfl, by decide +kernel, rfl, by decide +kernel, by decide +kernel⟩
abbrev s_l_same : Stmt := topS 22
theorem sc_l_same : FnScope ["_law_actual", "_law_due"] ["_law_actual", "_law_due"] (defScope s_l_same) := ⟨rfl, rfl, rfl, by decide +kernel, rfl, by decide +kernel, by decide +kernel⟩
abbrev s_l_draw : Stmt := topS 23
theorem sc_l_draw : FnScope ["_law_pool", "_law_limit", "_law_cells", "_law_at", "_law_digit", "_law_cell", "_law_number"] ["_law_pool", "_law_limit"] (defScope s_l_draw) := ⟨rfl, rfl, rfl, by decide +kernel, rfl, by decide +kernel, by decide +kernel⟩
abbrev s_l_pick : Stmt := topS 24
theorem sc_l_pick : FnScope ["_law_pool", "_law_row"] ["_law_pool", "_law_row"] (defScope s_l_pick) := ⟨rfl, rfl, rfl, by decide +kernel, rfl, by decide +kernel, by decide +kernel⟩
abbrev s_l_word : Stmt := topS 25
theorem sc_l_word : FnScope ["_law_pool", "_law_taken", "_law_letters", "_law_size", "_law_word_here", "_law_letter", "_law_k"] ["_law_pool", "_law_taken"] (defScope s_l_word) := ⟨rfl, rfl, rfl, by decide +kernel, rfl, by decide +kernel, by decide +kernel⟩
abbrev s_l_words : Stmt := topS 26
theorem sc_l_words : FnScope ["_law_pool", "_law_least", "_law_most", "_law_words_here", "_law_k"] ["_law_pool", "_law_least", "_law_most"] (defScope s_l_words) := ⟨rfl, rfl, rfl, by decide +kernel, rfl, by decide +kernel, by decide +kernel⟩
abbrev s_l_value : Stmt := topS 27
theorem sc_l_value : FnScope ["_law_pool", "_law_count", "_law_value_here"] ["_law_pool", "_law_count"] (defScope s_l_value) := ⟨rfl, rfl, rfl, by decide +kernel, rfl, by decide +kernel, by decide +kernel⟩
abbrev s_l_objects : Stmt := topS 28
theorem sc_l_objects : FnScope ["_law_pool", "_law_fields", "_law_count", "_law_objects_here", "_law_k", "_law_item", "_law_field"] ["_law_pool", "_law_fields", "_law_count"] (defScope s_l_objects) := ⟨rfl, rfl, rfl, by decide +kernel, rfl, by decide +kernel, by decide +kernel⟩
abbrev s_l_names : Stmt := topS 29
theorem sc_l_names : FnScope ["_law_pool", "_law_names_here", "_law_count", "_law_holders", "_law_name", "_law_number"] ["_law_pool", "_law_names_here", "_law_count"] (defScope s_l_names) := ⟨rfl, rfl, rfl, by decide +kernel, rfl, by decide +kernel, by decide +kernel⟩
abbrev s_l_meet : Stmt := topS 30
theorem sc_l_meet : FnScope ["_law_order_here", "_law_value_here"] ["_law_order_here", "_law_value_here"] (defScope s_l_meet) := ⟨rfl, rfl, rfl, by decide +kernel, rfl, by decide +kernel, by decide +kernel⟩
abbrev s_l_order : Stmt := topS 31
theorem sc_l_order : FnScope ["_law_fields", "_law_objects_here", "_law_names_here", "_law_order_here", "_law_name", "_law_done", "_law_item", "_law_field", "_law_word_here"] ["_law_fields", "_law_objects_here", "_law_names_here"] (defScope s_l_order) := ⟨rfl, rfl, rfl, by decide +kernel, rfl, by decide +kernel, by decide +kernel⟩
abbrev s_l_new : Stmt := topS 32
theorem sc_l_new : FnScope ["_law_order_here", "_law_value_here"] ["_law_order_here", "_law_value_here"] (defScope s_l_new) := ⟨rfl, rfl, rfl, by decide +kernel, rfl, by decide +kernel, by decide +kernel⟩
abbrev s_l_is_normal : Stmt := topS 33
theorem sc_l_is_normal : FnScope ["_law_heap", "_law_fields", "_law_objects_here", "_law_names_here", "_law_order_here", "_law_told", "_law_k", "_law_field", "_law_holders", "_law_name", "_law_word_here"] ["_law_heap", "_law_fields", "_law_objects_here", "_law_names_here"] (defScope s_l_is_normal) := ⟨rfl, rfl, rfl, by decide +kernel, rfl, by decide +kernel, by decide +kernel⟩
abbrev s_law : Stmt := topS 34
theorem sc_law : FnScope ["_law_script", "_law_pool", "_law_size", "_law_count", "_law_fields", "_law_words_here", "_law_objects_here", "_law_names_here", "_law_heap", "_law_normal", "_law_item"] ["_law_script"] (defScope s_law) := ⟨rfl, rfl, rfl, by decide +kernel, rfl, by decide +kernel, by decide +kernel⟩
section
variable {P : Program} {w : World} {K : PySem.W.Frag} {mg : Str → Option Value} {base : Heap}
/-! the pool of a law, by data -/
abbrev poolT (p c : Addr) (ns : List Int) (a n : Int) : T := .lst p [.lst c (ns.map fun i => T.sh (.int i)), .sh (.int a), .sh (.int n)]
def sDraw : SpecD := fun ts Q _ => ∃ p c ns a n lim, ts = [poolT p c ns a n, .sh (.int lim)] ∧ (0 ≤ a ∧ 0 ≤ n) ∧ 0 < lim ∧ lim < 2 ^ 200 ∧
  ∀ r ns' a' n', 0 ≤ r → r < lim → (0 ≤ a' ∧ 0 ≤ n') → Q (.sh (.int r)) [poolT p c ns' a' n', .sh (.int lim)]
theorem ok_l_draw {f : Addr} {fd : FuncData} (F : Fun K "_law_draw" "_law_draw" s_l_draw f fd) (B : Blt mg) : FnOk P w K mg base CX0 1 f fd ["_law_pool", "_law_limit"] (spD false sDraw) := by
  refine F.ok sc_l_draw (lenD fun ts Q χ ⟨_, _, _, _, _, _, e, _⟩ => by rw [e]; rfl) (fun cdv A outer s H vs Q E hr h => ?_)
  refine bodyD [0, 1] h (pss_cons (ps_set (i := 2) sc_l_draw.nd rfl (.inl rfl) (pe_ix ix_list (pv 0) pe_int (fun _ _ => rfl)))
      (pss_cons (ps_set (i := 3) sc_l_draw.nd rfl (.inl rfl) (pe_ix ix_list (pv 0) pe_int (fun _ _ => rfl)))
      (pss_cons (ps_asg (pe_op op_add (pe_ix ix_list (pv 0) pe_int (fun _ _ => rfl)) pe_int) (pg_sub (pv 0) pe_int set_list))
      (C8.pss_cut (ps_if (PW.pt (pw_and (pt_cmpR op_lt (pv 3) (pe_callB c_len (by rfl) B.len (by decide +kernel) (pa_cons (pv 2) pa_nil)) (nomark _)) (pw_and1 (pt_cmpR op_ge (pe_ix ix_list (pv 2) (pv 3) (fun _ _ => rfl)) (pe_op op_pow pe_int pe_int) (nomark _)))))
        (pss_cons (ps_set (i := 4) sc_l_draw.nd rfl (.inl rfl) (pe_op op_mod (pe_callTy c_int (by rfl) B.int (by decide +kernel) (pa_cons (pe_ix ix_list (pv 2) (pv 3) (fun _ _ => rfl)) pa_nil)) (pv 1)))
      (pss_cons (ps_asg (pe_op op_fdivW (pe_ix ix_list (pv 2) (pv 3) (fun _ _ => rfl)) (pv 1)) (pg_sub (pv 2) (pv 3) set_list))
      (pss_cons (ps_if (pt_cmpR op_lt (pe_ix ix_list (pv 2) (pv 3) (fun _ _ => rfl)) (pe_op op_pow pe_int pe_int) (nomark _))
        (pss_one (ps_asg (pe_op op_add (pv 3) pe_int) (pg_sub (pv 0) pe_int set_list))) pss_nil)
      (pss_one (ps_ret (pmv 4)))))) pss_nil)
      (pss_cons (ps_asg (pe_op op_add (pv 3) pe_int) (pg_sub (pv 0) pe_int set_list))
      (pss_cons (ps_set (i := 5) sc_l_draw.nd rfl (.inl rfl) pe_int)
      (C8.pss_cut (ps_if (pt_cmpR op_gt (pe_callB c_len (by rfl) B.len (by decide +kernel) (pa_cons (pv 2) pa_nil)) pe_int (nomark _))
        (pss_one (ps_set (i := 5) sc_l_draw.nd rfl (.inl rfl) (pe_ix ix_list (pv 2) (pe_op op_mod (pv 3) (pe_callB c_len (by rfl) B.len (by decide +kernel) (pa_cons (pv 2) pa_nil))) (fun _ _ => rfl)))) pss_nil)
      (pss_cons (ps_set (i := 6) sc_l_draw.nd rfl (.inl rfl) (pe_op op_mod (pe_op op_mul (pe_callTy c_int (by rfl) B.int (by decide +kernel) (pa_cons (pe_op op_add (pe_op op_add (pe_op op_mod (pe_callTy c_int (by rfl) B.int (by decide +kernel) (pa_cons (pv 5) pa_nil)) pe_int) (pe_op op_mul pe_int (pe_ix ix_list (pv 0) pe_int (fun _ _ => rfl)))) pe_int) pa_nil)) pe_int) pe_int))
      (pss_cons (ps_set (i := 6) sc_l_draw.nd rfl (.inl rfl) (pe_op op_mod (pe_callTy c_int (by rfl) B.int (by decide +kernel) (pa_cons (pe_op op_mul (pv 6) (pe_op op_add (pe_op op_fdivW (pv 6) pe_int) pe_int)) pa_nil)) pe_int))
      (pss_cons (ps_set (i := 6) sc_l_draw.nd rfl (.inl rfl) (pe_op op_mod (pe_callTy c_int (by rfl) B.int (by decide +kernel) (pa_cons (pe_op op_mul (pv 6) (pe_op op_add (pe_op op_fdivW (pv 6) pe_int) pe_int)) pa_nil)) pe_int))
      (pss_one (ps_ret (pe_op op_mod (pe_callTy c_int (by rfl) B.int (by decide +kernel) (pa_cons (pe_op op_fdivW (pv 6) pe_int) pa_nil)) (pv 1)))))))))))))) 2 5 (fun ts Q χ ⟨_, _, _, _, _, _, e, _⟩ => by rw [e]; rfl) rfl ?_
  apply Exists.intro
  constructor
  · walk_at "ref"
  rintro ts Q1 χ ⟨p, c, ns, at0, cnt, lim, rfl, ⟨a0, n0⟩, hl, hl2, k⟩
  walk_at "d"
  refine d_st (ρ' := [poolT p c ns at0 (cnt + 1), .sh (.int lim), .sh (.at c 0 [0]), .sh (.int at0), .no, .no, .no]) rfl ?_
  refine d_cut (fun ρ => ρ = [poolT p c ns at0 (cnt + 1), .sh (.int lim), .sh (.at c 0 [0]), .sh (.int at0), .no, .no, .no]) ?_ ?_
  · walk_at "d"
    refine d_iB (fun c1 => ?_) (fun c1 => ?_)
    · have hz : at0 < ((ns.map fun i => T.sh (.int i)).length : Int) := by simpa using c1
      have hz' : at0.toNat < ns.length := by rw [List.length_map] at hz; omega
      have hx : (ns.map fun i => T.sh (.int i))[at0.toNat]? = some (.sh (.int ns[at0.toNat])) := by rw [List.getElem?_map, List.getElem?_eq_getElem hz']; rfl
      generalize ns[at0.toNat] = z at hx
      walk_at "d"
      refine d_ixL (by walk_at "rs") rfl (ixN_int a0 hz) hx rfl ?_
      walk_at "d"
      refine d_I (show (0 : Int) ≤ 18 ∧ (18 : Int) ≤ 1000000 ∧ (10 : Int).natAbs < 2 ^ 64 by decide) ?_
      walk_at "d"
      refine d_iB (fun c2 => ?_) (fun c2 => ?_)
      · walk_at "d"
        refine d_ixL (by walk_at "rs") rfl (ixN_int a0 hz) hx rfl ?_
        walk_at "d"
        refine d_I hl ?_
        walk_at "d"
        refine d_ixL (by walk_at "rs") rfl (ixN_int a0 hz) hx rfl ?_
        walk_at "d"
        refine d_I (wide_div hl (b := 200) (by omega) (by decide) (by decide)) ?_
        walk_at "d"
        refine d_gsubv rfl (ixN_int a0 hz) ?_
        have e3 : (ns.map fun i => T.sh (.int i)).set at0.toNat (.sh (.int (z / lim))) = (ns.set at0.toNat (z / lim)).map fun i => T.sh (.int i) := by rw [List.map_set]
        rw [e3]
        have m0 := Int.emod_nonneg z (show lim ≠ 0 by omega)
        have m1 := Int.emod_lt_of_pos z hl
        have hx2 : ((ns.set at0.toNat (z / lim)).map fun i => T.sh (.int i))[at0.toNat]? = some (.sh (.int (z / lim))) := by rw [List.getElem?_map, List.getElem?_set_self hz']; rfl
        have hl3 : at0 < (((ns.set at0.toNat (z / lim)).map fun i => T.sh (.int i)).length : Int) := by rw [List.length_map, List.length_set]; omega
        generalize ns.set at0.toNat (z / lim) = ns2 at hx2 hl3 ⊢
        walk_at "d"
        refine d_ixL (by walk_at "rs") rfl (ixN_int a0 hl3) hx2 rfl ?_
        walk_at "d"
        refine d_I (show (0 : Int) ≤ 18 ∧ (18 : Int) ≤ 1000000 ∧ (10 : Int).natAbs < 2 ^ 64 by decide) ?_
        walk_at "d"
        refine d_iB (fun c3 => ?_) (fun c3 => ?_)
        · walk_at "d"
          exact k _ ns2 (at0 + 1) (cnt + 1) m0 m1 ⟨by omega, by omega⟩
        · walk_at "d"
          exact k _ ns2 at0 (cnt + 1) m0 m1 ⟨by omega, by omega⟩
      · walk_at "d"
        rfl
    · walk_at "d"
      rfl
  rintro ρ' rfl
  walk_at "d"
  refine d_st (ρ' := [poolT p c ns (at0 + 1) (cnt + 1), .sh (.int lim), .sh (.at c 0 [0]), .sh (.int at0), .no, .sh (.int 0), .no]) rfl ?_
  refine d_cut (fun ρ => ∃ y : Int, ρ = [poolT p c ns (at0 + 1) (cnt + 1), .sh (.int lim), .sh (.at c 0 [0]), .sh (.int at0), .no, .sh (.int y), .no]) ?_ ?_
  · walk_at "d"
    refine d_iB (fun c1 => ?_) (fun c1 => ?_)
    · have hp : (0 : Int) < ((ns.map fun i => T.sh (.int i)).length : Int) := by simpa using c1
      have b0 := Int.emod_nonneg at0 (show ((ns.map fun i => T.sh (.int i)).length : Int) ≠ 0 by omega)
      have b1 := Int.emod_lt_of_pos at0 hp
      walk_at "d"
      refine d_I hp ?_
      refine d_ixL (by walk_at "rs") rfl (ixN_int b0 b1) (x := .sh (.int (ns[(at0 % ((ns.map fun i => T.sh (.int i)).length : Int)).toNat]'(by rw [List.length_map] at b0 b1 ⊢; omega)))) (by rw [List.getElem?_map, List.getElem?_eq_getElem]; rfl) rfl ?_
      walk_at "d"
      exact ⟨_, rfl⟩
    · walk_at "d"
      exact ⟨0, rfl⟩
  rintro ρ' ⟨y, rfl⟩
  walk_at "d"
  refine d_I (show (0 : Int) < 2147483629 by decide) ?_
  walk_at "d"
  refine d_I (.inl ⟨by decide, by decide⟩) ?_
  walk_at "d"
  refine d_I (.inr ⟨by decide, by decide⟩) ?_
  walk_at "d"
  refine d_I (show (0 : Int) < 2147483647 by decide) ?_
  walk_at "d"
  generalize hn1 : (y % 2147483629 + 7919 * (cnt + 1) + 1) * 48271 % 2147483647 = n1
  have n10 : 0 ≤ n1 := by rw [← hn1]; exact Int.emod_nonneg _ (by decide)
  have n11 : n1 < 2147483647 := by rw [← hn1]; exact Int.emod_lt_of_pos _ (by decide)
  refine d_I ⟨by decide, by decide⟩ ?_
  walk_at "d"
  refine d_I (.inl ⟨by omega, by omega⟩) ?_
  walk_at "d"
  refine d_I (show (0 : Int) < 2147483647 by decide) ?_
  walk_at "d"
  generalize hn2 : n1 * (n1 / 1009 + 69621) % 2147483647 = n2
  have n20 : 0 ≤ n2 := by rw [← hn2]; exact Int.emod_nonneg _ (by decide)
  have n21 : n2 < 2147483647 := by rw [← hn2]; exact Int.emod_lt_of_pos _ (by decide)
  refine d_I ⟨by decide, by decide⟩ ?_
  walk_at "d"
  refine d_I (.inl ⟨by omega, by omega⟩) ?_
  walk_at "d"
  refine d_I (show (0 : Int) < 2147483399 by decide) ?_
  walk_at "d"
  refine d_I ⟨by decide, by decide⟩ ?_
  walk_at "d"
  refine d_I hl ?_
  exact k _ ns (at0 + 1) (cnt + 1) (Int.emod_nonneg _ (by omega)) (Int.emod_lt_of_pos _ hl) ⟨by omega, by omega⟩


/-- a list of data, shared or one's own -/
def LD (t : T) (ds : List D) : Prop := t = .sh (.lst ds) ∨ ∃ a, t = .lst a (ds.map T.sh)
theorem LD.rd {t : T} {ds : List D} (h : LD t ds) (i : Nat) : ∃ t', t.rd i [] = some t' ∧ (∀ ρ : E.Env, ρ[i]? = some t → Rs ρ t' t) ∧ t.lstK = some (ds.map T.sh) ∧ t.seqK = some (ds.map T.sh) ∧ t.live = true := by
  rcases h with rfl | ⟨a, rfl⟩
  · exact ⟨_, rfl, fun _ _ => rfl, rfl, rfl, rfl⟩
  · refine ⟨_, rfl, fun ρ h => ⟨?_, rfl⟩, rfl, rfl, rfl⟩
    unfold gt
    rw [h]
    rfl
abbrev dS : Str → D := D.str
theorem svs_S (zs : List Str) : svs ((zs.map dS).map T.sh) = some (zs.map V.str) := by rw [List.map_map]; exact svs_strs zs
def sPick : SpecD := fun ts Q _ => ∃ p c ns a n t, ∃ ds : List D, ts = [poolT p c ns a n, t] ∧ (0 ≤ a ∧ 0 ≤ n) ∧ LD t ds ∧ 0 < ds.length ∧ ds.length < 1000000 ∧
  ∀ d ns' a' n', d ∈ ds → (0 ≤ a' ∧ 0 ≤ n') → Q (.sh d) [poolT p c ns' a' n', t]
theorem ok_l_pick {f : Addr} {fd : FuncData} (F : Fun K "_law_pick" "_law_pick" s_l_pick f fd) (B : Blt mg) (C_l_draw : Cal P w K mg base CX0 1 "_law_draw" (spD false sDraw)) : FnOk P w K mg base CX0 2 f fd ["_law_pool", "_law_row"] (spD false sPick) := by
  refine F.ok sc_l_pick (lenD fun ts Q χ ⟨_, _, _, _, _, _, _, e, _⟩ => by rw [e]; rfl) (fun cdv A outer s H vs Q E hr h => ?_)
  refine bodyD [0, 1] h (pss_one (ps_ret (pe_ix ix_list (pv 1) (pe_c C_l_draw hr (by decide) (by rfl) (pa_cons (pv 0) (pa_cons (pe_callB c_len (by rfl) B.len (by decide +kernel) (pa_cons (pv 1) pa_nil)) pa_nil))) (fun _ _ => rfl)))) 2 0 (fun ts Q χ ⟨_, _, _, _, _, _, _, e, _⟩ => by rw [e]; rfl) rfl ?_
  apply Exists.intro
  constructor
  · walk_at "ref"
  rintro ts Q1 χ ⟨p, c, ns, at0, cnt, t, ds, rfl, hp, hL, h0, h1, k⟩
  obtain ⟨t', hrd, hrs, hk, hk', hv⟩ := hL.rd 1
  walk_at "d"
  refine d_var rfl hrd ?_
  walk_at "d"
  refine d_var rfl hrd ?_
  walk_at "d"
  refine d_ln (hrs _ rfl) hk' ?_
  walk_at "d"
  walk_at "cw"
  rw [List.length_map]
  refine ⟨p, c, ns, at0, cnt, _, rfl, hp, by omega, by omega, fun r ns' a' n' r0 r1 h' => ?_⟩
  walk_at "bk"
  have rl : r.toNat < ds.length := by omega
  refine d_ixL (hrs _ rfl) hk (ixN_int r0 (by rw [List.length_map]; exact r1)) (map_get (List.getElem?_eq_getElem rl)) (y := .sh ds[r.toNat]) (by unfold T.rdk; split <;> rfl) ?_
  exact k _ ns' a' n' (List.getElem_mem rl) h'
def sWord : SpecD := fun ts Q _ => ∃ p c ns a n t, ∃ zs : List Str, ts = [poolT p c ns a n, t] ∧ (0 ≤ a ∧ 0 ≤ n) ∧ LD t (zs.map dS) ∧ zs.length < 26 ∧
  ∀ z ns' a' n', IsW z → z ∉ zs → (0 ≤ a' ∧ 0 ≤ n') → Q (.sh (.str z)) [poolT p c ns' a' n', t]
theorem ok_l_word {f : Addr} {fd : FuncData} (F : Fun K "_law_word" "_law_word" s_l_word f fd) (B : Blt mg) (C_l_draw : Cal P w K mg base CX0 1 "_law_draw" (spD false sDraw)) : FnOk P w K mg base CX0 2 f fd ["_law_pool", "_law_taken"] (spD false sWord) := by
  refine F.ok sc_l_word (lenD fun ts Q χ ⟨_, _, _, _, _, _, _, e, _⟩ => by rw [e]; rfl) (fun cdv A outer s H vs Q E hr h => ?_)
  refine bodyD [0, 1] h (pss_cons (ps_set (i := 2) sc_l_word.nd rfl (.inr rfl) pe_str)
      (pss_cons (ps_set (i := 3) sc_l_word.nd rfl (.inl rfl) (pe_op op_add pe_int (pe_c C_l_draw hr (by decide) (by rfl) (pa_cons (pv 0) (pa_cons pe_int pa_nil)))))
      (pss_cons (ps_set (i := 4) sc_l_word.nd rfl (.inl rfl) (pe_jn pe_str (pe_lc (te := (tOp rIxS (tVar 2) (tCl _ _ (tCons (tVar 0) (tCons _ tNil))))) (own := [("_law_k", 6)]) (g := gName 6) (tt := tYes) rfl sc_l_word.nd (pi_range1 rfl B.range (pa_cons (pv 3) pa_nil)) (blkOk_by (own := [("_law_k", 6)]) (N := ["_law_pool", "_law_taken", "_law_letters", "_law_size", "_law_word_here", "_law_letter", "_law_k"]) (sc := defScope s_l_word) (by decide +kernel)) (fun _ _ _ _ _ => by exact (pg_name (i := 6) sc_l_word.nd rfl (by first | exact Or.inl rfl | exact Or.inr rfl))) (fun _ _ _ _ _ => by exact pts_nil) (fun _ _ _ _ _ => by exact (pe_ix ix_str (pv 2) (pe_c C_l_draw hr (by decide) (by rfl) (pa_cons (pv 0) (pa_cons pe_int pa_nil))) (fun _ _ => rfl))))))
      (pss_cons (ps_if (pt_cmpR op_notIn_seq (pv 4) (pv 1) (by rfl))
        (pss_one (ps_ret (pmv 4))) pss_nil)
      (pss_cons (ps_for PassesOwn.never rfl (pi_str (pv 2)) (pg_name (i := 5) sc_l_word.nd rfl (.inl rfl))
        (pss_one (ps_if (pt_cmpR op_notIn_seq (pe_op op_mul_str (pv 5) pe_int) (pv 1) (by rfl))
        (pss_one (ps_ret (pe_op op_mul_str (pv 5) pe_int))) pss_nil)))
      (pss_one (ps_ret (pmv 4)))))))) 2 5 (fun ts Q χ ⟨_, _, _, _, _, _, _, e, _⟩ => by rw [e]; rfl) rfl ?_
  apply Exists.intro
  constructor
  · walk_at "ref"
  rintro ts Q1 χ ⟨p, c, ns, at0, cnt, t, zs, rfl, hp, hL, hz, k⟩
  obtain ⟨t', hrd, hrs, hk, hk', hv⟩ := hL.rd 1
  walk_at "d"
  walk_at "cw"
  refine ⟨p, c, ns, at0, cnt, _, rfl, hp, by decide, by decide, fun d ns' a' n' d0 d1 h' => ?_⟩
  walk_at "bk"
  walk_at "d"
  refine ⟨1 + d, rfl, ⟨by omega, by omega⟩, fun i ρ acc => ∃ ns a n, ∃ l : List Nat, ρ = [poolT p c ns a n, t, .sh (.str abc), .sh (.int (1 + d)), .no, .no, .no] ∧ (0 ≤ a ∧ 0 ≤ n) ∧ i ≤ (1 + d).toNat ∧ l.length = i ∧ (∀ c ∈ l, 97 ≤ c ∧ c ≤ 122) ∧ acc = (l.map one).map fun z => T.sh (.str z), ⟨ns', a', n', [], rfl, h', Nat.zero_le _, rfl, by simp, rfl⟩, ?_, ?_, ?_⟩
  · rintro i ρ acc ⟨ns, a, n, l, rfl, h, hi, hl, _, rfl⟩
    exact ⟨True.intro, by simp; omega⟩
  · rintro i y ρ acc hi ⟨ns, a, n, l, rfl, h, hil, hl, hc, rfl⟩
    have hi' : i < (1 + d).toNat := by
      have := (List.getElem?_eq_some_iff.mp hi).1
      simpa [rngT] using this
    walk_at "d"
    walk_at "cw"
    refine ⟨p, c, ns, a, n, _, rfl, h, by decide, by decide, fun r ns' a' n' r0 r1 h' => ?_⟩
    walk_at "bk"
    have hx : atI abc.cps.toList r = some (97 + r.toNat) := by
      rw [abc_list]
      have z := atI_nat (xs := (List.range 26).map (97 + ·)) (j := r.toNat) (v := 97 + r.toNat) (by rw [List.getElem?_map, List.getElem?_range (by omega)]; rfl)
      rw [show ((r.toNat : Nat) : Int) = r by omega] at z
      exact z
    refine ⟨abc, r, _, rfl, by decide +kernel, hx, ?_⟩
    refine ⟨_, .inl rfl, ns', a', n', l ++ [97 + r.toNat], rfl, h', by omega, by simp [hl], fun x hx => ?_, ?_⟩
    · rcases List.mem_append.mp hx with h | h
      · exact hc x h
      · have := List.mem_singleton.mp h
        omega
    · rw [List.map_append, List.map_append]
      rfl
  rintro ρ acc ⟨ns', a', n', l, rfl, h', _, hl, hc, rfl⟩ al
  rw [show (rngT 0 (1 + d).toNat).length = (1 + d).toNat by simp [rngT]] at hl
  refine ⟨_, rfl, l.map one, rfl, ?_, ?_⟩
  · rw [show (l.map one).map (fun x => x.length) = l.map (fun _ => 1) by simp [one, Str.length]]
    have e0 : ∀ l : List Nat, (l.map (fun _ => 1)).sum = l.length := fun l => by induction l with | nil => rfl | cons a r ih => simp only [List.map_cons, List.sum_cons, ih, List.length_cons]; omega
    rw [e0, show (Str.ofString "").length = 0 by decide +kernel]
    omega
  have hw : IsW (Txt.join (Str.ofString "") (l.map one)) := by
    have z := jn_ones l
    have zl : (Txt.join (Str.ofString "") (l.map one)).length = l.length := by
      show (Txt.join (Str.ofString "") (l.map one)).cps.size = l.length
      rw [← Array.length_toList, z]
    refine ⟨by omega, by omega, ?_⟩
    rw [z]
    exact hc
  generalize Txt.join (Str.ofString "") (l.map one) = z at hw
  walk_at "d"
  refine d_var rfl hrd ?_
  refine d_nin rfl (hrs _ rfl) hk' (svs_S zs) ?_
  rw [inV_str]
  walk_at "d"
  refine d_iB (fun c1 => ?_) (fun c1 => ?_)
  · walk_at "d"
    exact k z ns' a' n' hw (by simpa using c1) h'
  walk_at "d"
  refine ⟨fun i ρ => ∃ u, ρ = [poolT p c ns' a' n', t, .sh (.str abc), .sh (.int (1 + d)), .sh (.str z), u, .no] ∧ ∀ j, j < i → (⟨(List.replicate 8 (97 + j)).toArray⟩ : Str) ∈ zs, ⟨_, rfl, fun j hj => absurd hj (by omega)⟩, fun _ _ _ => True.intro, ?_, ?_⟩
  · rintro i y ρ hi ⟨u, rfl, hj⟩
    obtain ⟨ch, hch, rfl⟩ := get_map hi
    have hi' : i < 26 := by
      have := (List.getElem?_eq_some_iff.mp hch).1
      rw [Array.length_toList, abc_size] at this
      exact this
    have ech : ch = 97 + i := by
      rw [abc_list] at hch
      simp [List.getElem?_range hi'] at hch
      exact hch.symm
    subst ech
    walk_at "d"
    refine ⟨97 + i, 8, rfl, by decide, by decide, ?_⟩
    walk_at "d"
    refine d_var rfl hrd ?_
    refine d_nin rfl (hrs _ rfl) hk' (svs_S zs) ?_
    rw [inV_str]
    walk_at "d"
    refine d_iB (fun c2 => ?_) (fun c2 => ?_)
    · walk_at "d"
      refine ⟨97 + i, 8, rfl, by decide, by decide, ?_⟩
      refine k _ ns' a' n' ⟨by show 1 ≤ ((List.replicate 8 (97 + i)).toArray).size; simp, by show ((List.replicate 8 (97 + i)).toArray).size ≤ 8; simp, fun c hc => ?_⟩ (by simpa using c2) h'
      have e := List.eq_of_mem_replicate (show c ∈ List.replicate 8 (97 + i) from hc)
      omega
    · walk_at "d"
      refine ⟨_, rfl, fun j hj' => ?_⟩
      by_cases e : j = i
      · subst e; simpa using c2
      · exact hj j (by omega)
  · rintro ρ ⟨u, rfl, hj⟩
    exfalso
    rw [List.length_map, Array.length_toList, abc_size] at hj
    have nd : ((List.range 26).map fun j => (⟨(List.replicate 8 (97 + j)).toArray⟩ : Str)).Nodup := by decide +kernel
    have le := sub_len (ts := zs) nd fun x hx => by
      obtain ⟨j, h1, rfl⟩ := List.mem_map.mp hx
      exact hj j (List.mem_range.mp h1)
    simp at le
    omega
/-- lo to hi words -/
def sWords : SpecD := fun ts Q _ => ∃ p c ns a n, ∃ lo hi : Nat, ts = [poolT p c ns a n, .sh (.int lo), .sh (.int hi)] ∧ (0 ≤ a ∧ 0 ≤ n) ∧ lo ≤ hi ∧ hi ≤ 20 ∧
  ∀ (l : Addr) (zs : List Str) ns' a' n', (∀ z ∈ zs, IsW z) → zs.Nodup → lo ≤ zs.length → zs.length ≤ hi → (0 ≤ a' ∧ 0 ≤ n') → Q (.lst l ((zs.map dS).map T.sh)) [poolT p c ns' a' n', .no, .no]
theorem ok_l_words {f : Addr} {fd : FuncData} (F : Fun K "_law_words" "_law_words" s_l_words f fd) (B : Blt mg) (C_l_draw : Cal P w K mg base CX0 1 "_law_draw" (spD false sDraw)) (C_l_word : Cal P w K mg base CX0 2 "_law_word" (spD false sWord)) : FnOk P w K mg base CX0 3 f fd ["_law_pool", "_law_least", "_law_most"] (spD false sWords) := by
  refine F.ok sc_l_words (lenD fun ts Q χ ⟨_, _, _, _, _, _, _, e, _⟩ => by rw [e]; rfl) (fun cdv A outer s H vs Q E hr h => ?_)
  refine bodyD [0] h (pss_cons (ps_set (i := 3) sc_l_words.nd rfl (.inl rfl) (pe_lst pa_nil))
      (pss_cons (ps_for PassesOwn.never rfl (pi_range1 rfl B.range (pa_cons (pe_op op_add (pv 1) (pe_c C_l_draw hr (by decide) (by rfl) (pa_cons (pv 0) (pa_cons (pe_op op_add (pe_op op_sub (pv 2) (pv 1)) pe_int) pa_nil)))) pa_nil)) (pg_name (i := 4) sc_l_words.nd rfl (.inl rfl))
        (pss_one (ps_expr (pe_bm PySem.F.plainAttrs_list PySem.F.slot_list_append PySem.F.type_list_append mt_append (pv 3) (pa_cons (pe_c C_l_word hr (by decide) (by rfl) (pa_cons (pv 0) (pa_cons (pv 3) pa_nil))) pa_nil)))))
      (pss_one (ps_ret (pmv 3))))) 3 2 (fun ts Q χ ⟨_, _, _, _, _, _, _, e, _⟩ => by rw [e]; rfl) rfl ?_
  apply Exists.intro
  constructor
  · walk_at "ref"
  rintro ts Q1 χ ⟨p, c, ns, at0, cnt, lo, hi, rfl, hp, h1, h2, k⟩
  walk_at "d"
  refine ⟨by simp, fun l => ?_⟩
  walk_at "d"
  walk_at "cw"
  refine ⟨p, c, ns, at0, cnt, _, rfl, hp, by omega, by omega, fun d ns' a' n' d0 d1 h' => ?_⟩
  walk_at "bk"
  walk_at "d"
  refine ⟨(lo : Int) + d, rfl, ⟨by omega, by omega⟩, fun i ρ => ∃ u ns a n, ∃ zs : List Str, ρ = [poolT p c ns a n, .sh (.int lo), .sh (.int hi), .lst l ((zs.map dS).map T.sh), u] ∧ (0 ≤ a ∧ 0 ≤ n) ∧ i ≤ ((lo : Int) + d).toNat ∧ zs.length = i ∧ (∀ z ∈ zs, IsW z) ∧ zs.Nodup, ⟨_, ns', a', n', [], rfl, h', Nat.zero_le _, rfl, by simp, List.nodup_nil⟩, fun _ _ _ => True.intro, ?_, ?_⟩
  · rintro i y ρ hy ⟨u, ns, a, n, zs, rfl, h, hi', hl, hw, nd⟩
    have hi2 : i < ((lo : Int) + d).toNat := by
      have := (List.getElem?_eq_some_iff.mp hy).1
      simpa [rngT] using this
    walk_at "d"
    walk_at "cw"
    refine ⟨p, c, ns, a, n, _, zs, rfl, h, .inr ⟨l, rfl⟩, by omega, fun z ns' a' n' hz nz h' => ?_⟩
    walk_at "bk"
    walk_at "d"
    · simp; omega
    walk_at "d"
    refine ⟨y, ns', a', n', zs ++ [z], ?_, h', by omega, by simp [hl], fun y hy => ?_, nd_snoc nd nz⟩
    · rw [List.map_append, List.map_append]
      rfl
    · rcases List.mem_append.mp hy with h | h
      · exact hw y h
      · rw [List.mem_singleton.mp h]; exact hz
  · rintro ρ ⟨u, ns, a, n, zs, rfl, h, hi', hl, hw, nd⟩
    rw [show (rngT 0 ((lo : Int) + d).toNat).length = ((lo : Int) + d).toNat by simp [rngT]] at hl
    walk_at "d"
    exact k l zs ns a n hw nd (by omega) (by omega) h

/-! heaps as data -/
def oV : Option Nat → D
  | none => .non
  | some k => .int (k : Nat)
def rowD (fs : List Str) (row : List (Option Nat)) : D := .dK (fs.map Sum.inr) (row.map oV)
def objsD (fs : List Str) (os : List (List (Option Nat))) : List D := os.map (rowD fs)
def nmD (ns : List (Str × Option Nat)) : D := .dK (ns.map fun x => Sum.inr x.1) (ns.map fun x => oV x.2)
theorem pubL_sh : ∀ ds : List D, pubL (ds.map T.sh) = some ds
  | [] => by rw [List.map_nil, pubL]
  | d :: ds => by rw [List.map_cons, pubL, pubL_sh ds, T.pub]; rfl
theorem oV_sv (o : Option Nat) : ∃ v, (oV o).sv = some v := by cases o <;> exact ⟨_, rfl⟩
def sValue : SpecD := fun ts Q _ => ∃ p c ns a n, ∃ cn : Nat, ts = [poolT p c ns a n, .sh (.int cn)] ∧ (0 ≤ a ∧ 0 ≤ n) ∧ cn ≤ 1000 ∧ ∀ o ns' a' n', OkV cn o → (0 ≤ a' ∧ 0 ≤ n') → Q (.sh (oV o)) [poolT p c ns' a' n', .no]
theorem ok_l_value {f : Addr} {fd : FuncData} (F : Fun K "_law_value" "_law_value" s_l_value f fd) (B : Blt mg) (C_l_draw : Cal P w K mg base CX0 1 "_law_draw" (spD false sDraw)) : FnOk P w K mg base CX0 2 f fd ["_law_pool", "_law_count"] (spD false sValue) := by
  refine F.ok sc_l_value (lenD fun ts Q χ ⟨_, _, _, _, _, _, e, _⟩ => by rw [e]; rfl) (fun cdv A outer s H vs Q E hr h => ?_)
  refine bodyD [0] h (pss_cons (ps_set (i := 2) sc_l_value.nd rfl (.inl rfl) (pe_c C_l_draw hr (by decide) (by rfl) (pa_cons (pv 0) (pa_cons (pe_op op_add (pe_op op_mul pe_int (pv 1)) pe_int) pa_nil))))
      (pss_cons (ps_if (pt_cmpR op_ge (pv 2) (pe_op op_mul pe_int (pv 1)) (nomark _))
        (pss_one (ps_ret pe_non)) pss_nil)
      (pss_one (ps_ret (pe_op op_mod (pe_callTy c_int (by rfl) B.int (by decide +kernel) (pa_cons (pv 2) pa_nil)) (pv 1)))))) 2 1 (fun ts Q χ ⟨_, _, _, _, _, _, e, _⟩ => by rw [e]; rfl) rfl ?_
  apply Exists.intro
  constructor
  · walk_at "ref"
  rintro ts Q1 χ ⟨p, c, ns, at0, cnt, n, rfl, hp, hn, k⟩
  walk_at "d"
  refine d_I (.inl ⟨by decide, by decide⟩) ?_
  walk_at "d"
  walk_at "cw"
  refine ⟨p, c, ns, at0, cnt, _, rfl, hp, by omega, by omega, fun d ns' a' n' d0 d1 h' => ?_⟩
  walk_at "bk"
  walk_at "d"
  refine d_I (.inl ⟨by decide, by decide⟩) ?_
  walk_at "d"
  refine d_iB (fun c1 => ?_) (fun c1 => ?_)
  · walk_at "d"
    exact k none ns' a' n' (fun k e => by cases e) h'
  · walk_at "d"
    have c1 : d < 4 * (n : Int) := by simpa using c1
    have hp : (0 : Int) < n := by omega
    refine d_I hp ?_
    have m0 := Int.emod_nonneg d (show (n : Int) ≠ 0 by omega)
    have m1 := Int.emod_lt_of_pos d hp
    have e : oV (some (d % (n : Int)).toNat) = .int (d % (n : Int)) := by
      show D.int (((d % (n : Int)).toNat : Nat) : Int) = _
      rw [Int.toNat_of_nonneg m0]
    rw [← e]
    exact k (some _) ns' a' n' (fun j z => by cases z; omega) h'
def sObjects : SpecD := fun ts Q _ => ∃ p c ns a n t, ∃ (fs : List Str) (cn : Nat), ts = [poolT p c ns a n, t, .sh (.int cn)] ∧ (0 ≤ a ∧ 0 ≤ n) ∧ LD t (fs.map dS) ∧ fs.Nodup ∧ fs.length ≤ 10 ∧ cn ≤ 1000 ∧
  ∀ (l : Addr) (os : List (List (Option Nat))) ns' a' n', OkO fs cn os → (0 ≤ a' ∧ 0 ≤ n') → Q (.lst l ((objsD fs os).map T.sh)) [poolT p c ns' a' n', t, .no]
theorem nin_take {fs : List Str} (nd : fs.Nodup) {j : Nat} {z : Str} (h : fs[j]? = some z) : z ∉ fs.take j := fun m => by
  obtain ⟨i, hi⟩ := List.mem_iff_getElem?.mp m
  rw [List.getElem?_take] at hi
  split at hi
  · rename_i hij
    have h1 := (List.getElem?_eq_some_iff.mp h).1
    have h2 := (List.getElem?_eq_some_iff.mp hi).1
    have := (List.getElem?_inj h2 nd).mp (hi.trans h.symm)
    omega
  · cases hi
theorem ok_l_objects {f : Addr} {fd : FuncData} (F : Fun K "_law_objects" "_law_objects" s_l_objects f fd) (B : Blt mg) (C_l_value : Cal P w K mg base CX0 2 "_law_value" (spD false sValue)) : FnOk P w K mg base CX0 3 f fd ["_law_pool", "_law_fields", "_law_count"] (spD false sObjects) := by
  refine F.ok sc_l_objects (lenD fun ts Q χ ⟨_, _, _, _, _, _, _, _, e, _⟩ => by rw [e]; rfl) (fun cdv A outer s H vs Q E hr h => ?_)
  have hu := hu_of hr
  refine bodyD [0, 1] h (pss_cons (ps_set (i := 3) sc_l_objects.nd rfl (.inl rfl) (pe_lst pa_nil))
      (pss_cons (ps_for PassesOwn.never rfl (pi_range1 rfl B.range (pa_cons (pv 2) pa_nil)) (pg_name (i := 4) sc_l_objects.nd rfl (.inl rfl))
        (pss_cons (ps_set (i := 5) sc_l_objects.nd rfl (.inl rfl) pe_dnewK)
      (pss_cons (ps_for PassesOwn.never rfl (pi_list (pv 1)) (pg_name (i := 6) sc_l_objects.nd rfl (.inl rfl))
        (pss_one (ps_dput hu (pv 5) (pv 6) (pe_c C_l_value hr (by decide) (by rfl) (pa_cons (pv 0) (pa_cons (pv 2) pa_nil))) rfl)))
      (pss_one (ps_expr (pe_bm PySem.F.plainAttrs_list PySem.F.slot_list_append PySem.F.type_list_append mt_append (pv 3) (pa_cons (pmv 5) pa_nil)))))))
      (pss_one (ps_ret (pmv 3))))) 3 4 (fun ts Q χ ⟨_, _, _, _, _, _, _, _, e, _⟩ => by rw [e]; rfl) rfl ?_
  apply Exists.intro
  constructor
  · walk_at "ref"
  rintro ts Q1 χ ⟨p, c, ns, at0, cnt, t, fs, n, rfl, hp, hL, nd, hl, hn, k⟩
  obtain ⟨t', hrd, hrs, hk, hk', hv⟩ := hL.rd 1
  walk_at "d"
  refine ⟨by simp, fun l => ?_⟩
  walk_at "d"
  refine ⟨(n : Int), rfl, ⟨by omega, by omega⟩, fun i ρ => ∃ u1 u2 u3 ns a cn, ∃ os : List (List (Option Nat)), ρ = [poolT p c ns a cn, t, .sh (.int n), .lst l ((objsD fs os).map T.sh), u1, u2, u3] ∧ (0 ≤ a ∧ 0 ≤ cn) ∧ i ≤ n ∧ os.length = i ∧ ∀ r ∈ os, r.length = fs.length ∧ ∀ v ∈ r, OkV n v, ⟨_, _, _, ns, at0, cnt, [], rfl, hp, Nat.zero_le _, rfl, by simp⟩, fun _ _ _ => True.intro, ?_, ?_⟩
  · rintro i y ρ hy ⟨u1, u2, u3, ns, a, cn, os, rfl, h, hi, hlo, hos⟩
    have hi2 : i < n := by
      have := (List.getElem?_eq_some_iff.mp hy).1
      simpa [rngT] using this
    walk_at "d"
    intro d
    walk_at "d"
    refine d_var rfl hrd ?_
    refine ⟨t, hrs _ rfl, _, _, hk, allSh_map _, fun j ρ => ∃ u3 ns a cn, ∃ row : List (Option Nat), ρ = [poolT p c ns a cn, t, .sh (.int n), .lst l ((objsD fs os).map T.sh), y, .dK d ((fs.take j).map Sum.inr) ((row.map oV).map T.sh), u3] ∧ (0 ≤ a ∧ 0 ≤ cn) ∧ j ≤ fs.length ∧ row.length = j ∧ ∀ v ∈ row, OkV n v, ⟨_, ns, a, cn, [], rfl, h, Nat.zero_le _, rfl, by simp⟩, ?_, ?_, ?_⟩
    · rintro j ρ ⟨u3, ns, a, cn, row, rfl, _⟩
      exact hrs _ rfl
    · rintro j y2 ρ hy2 ⟨u3, ns, a, cn, row, rfl, h, hj, hrow, hv⟩
      obtain ⟨dd, hdd, rfl⟩ := get_map hy2
      obtain ⟨z, hz, rfl⟩ := get_map hdd
      have hjl := (List.getElem?_eq_some_iff.mp hz).1
      walk_at "d"
      walk_at "cw"
      refine ⟨p, c, ns, a, cn, n, rfl, h, hn, fun o ns' a' n' ho h' => ?_⟩
      walk_at "bk"
      walk_at "d"
      refine d_dputv rfl rfl (by rw [List.length_map, List.length_take]; omega) (.new (by rw [inr_mem]; exact nin_take nd hz)) ?_
      refine d_p0 ⟨.sh (dS z), ns', a', n', row ++ [o], ?_, h', by omega, by simp [hrow], fun v hv' => ?_⟩
      · rw [List.take_succ_eq_append_getElem hjl, List.map_append, List.map_append, List.map_append, (List.getElem?_eq_some_iff.mp hz).2]
        rfl
      · rcases List.mem_append.mp hv' with h | h
        · exact hv v h
        · rw [List.mem_singleton.mp h]; exact ho
    · rintro ρ ⟨u3, ns, a, cn, row, rfl, h, hj, hrow, hv⟩
      rw [List.length_map, List.length_map] at hrow
      rw [List.length_map, List.length_map, List.take_length]
      refine d_p1 5 (d := rowD fs row) rfl (by unfold T.pub; rw [pubL_sh]; rfl) (d_p0 ?_)
      walk_at "d"
      · rw [List.length_map]; unfold objsD; rw [List.length_map]; omega
      walk_at "d"
      refine ⟨y, .sh (rowD fs row), u3, ns, a, cn, os ++ [row], ?_, h, by omega, by simp [hlo], fun r hr => ?_⟩
      · unfold objsD
        rw [List.map_append, List.map_append]
        rfl
      · rcases List.mem_append.mp hr with h | h
        · exact hos r h
        · rw [List.mem_singleton.mp h]; exact ⟨hrow, hv⟩
  · rintro ρ ⟨u1, u2, u3, ns, a, cn, os, rfl, h, hi, hlo, hos⟩
    rw [show (rngT 0 (n : Int).toNat).length = n by simp [rngT]] at hlo
    walk_at "d"
    exact k l os ns a cn ⟨hlo, hos⟩ h

def sNames : SpecD := fun ts Q _ => ∃ p c ns a n t, ∃ (zs : List Str) (cn : Nat), ts = [poolT p c ns a n, t, .sh (.int cn)] ∧ (0 ≤ a ∧ 0 ≤ n) ∧ LD t (zs.map dS) ∧ zs.Nodup ∧ zs.length ≤ 100 ∧ cn ≤ 1000 ∧
  ∀ (d : Addr) (nm : List (Str × Option Nat)) ns' a' n', nm.map Prod.fst = zs → (∀ x ∈ nm, OkV cn x.2) → (0 ≤ a' ∧ 0 ≤ n') → Q (.dK d (nm.map fun x => Sum.inr x.1) ((nm.map fun x => oV x.2).map T.sh)) [poolT p c ns' a' n', t, .no]
theorem snoc_get {α : Type} {l : List α} {x : α} (h : x ∉ l) : (l ++ [x])[l.length]? = some x ∧ ∀ m, (l ++ [x])[m]? = some x → m = l.length := by
  refine ⟨by simp, fun m hm => ?_⟩
  rcases ap_cases hm with hm | ⟨j, rfl, hj⟩
  · exact absurd (List.mem_of_getElem? hm) h
  · have := (List.getElem?_eq_some_iff.mp hj).1
    simp at this
    omega
theorem ok_l_names {f : Addr} {fd : FuncData} (F : Fun K "_law_names" "_law_names" s_l_names f fd) (B : Blt mg) (C_l_draw : Cal P w K mg base CX0 1 "_law_draw" (spD false sDraw)) : FnOk P w K mg base CX0 3 f fd ["_law_pool", "_law_names_here", "_law_count"] (spD false sNames) := by
  refine F.ok sc_l_names (lenD fun ts Q χ ⟨_, _, _, _, _, _, _, _, e, _⟩ => by rw [e]; rfl) (fun cdv A outer s H vs Q E hr h => ?_)
  have hu := hu_of hr
  refine bodyD [0, 1] h (pss_cons (ps_set (i := 3) sc_l_names.nd rfl (.inl rfl) pe_dnewK)
      (pss_cons (ps_for PassesOwn.never rfl (pi_list (pv 1)) (pg_name (i := 4) sc_l_names.nd rfl (.inl rfl))
        (pss_cons (ps_set (i := 5) sc_l_names.nd rfl (.inl rfl) (pe_c C_l_draw hr (by decide) (by rfl) (pa_cons (pv 0) (pa_cons (pe_op op_add (pe_op op_mul pe_int (pv 2)) pe_int) pa_nil))))
      (pss_cons (ps_dput hu (pv 3) (pv 4) pe_non rfl)
      (pss_one (ps_if (pt_cmpR op_lt (pv 5) (pe_op op_mul pe_int (pv 2)) (nomark _))
        (pss_one (ps_dput hu (pv 3) (pv 4) (pe_op op_mod (pe_callTy c_int (by rfl) B.int (by decide +kernel) (pa_cons (pv 5) pa_nil)) (pv 2)) rfl)) pss_nil)))))
      (pss_one (ps_ret (pmv 3))))) 3 3 (fun ts Q χ ⟨_, _, _, _, _, _, _, _, e, _⟩ => by rw [e]; rfl) rfl ?_
  apply Exists.intro
  constructor
  · walk_at "ref"
  rintro ts Q1 χ ⟨p, c, ns, at0, cnt, t, zs, n, rfl, hp, hL, nd, hl, hn, k⟩
  obtain ⟨t', hrd, hrs, hk, hk', hv⟩ := hL.rd 1
  walk_at "d"
  intro d
  walk_at "d"
  refine d_var rfl hrd ?_
  refine ⟨t, hrs _ rfl, _, _, hk, allSh_map _, fun i ρ => ∃ u1 u2 ns a cn, ∃ nm : List (Str × Option Nat), ρ = [poolT p c ns a cn, t, .sh (.int n), .dK d (nm.map fun x => Sum.inr x.1) ((nm.map fun x => oV x.2).map T.sh), u1, u2] ∧ (0 ≤ a ∧ 0 ≤ cn) ∧ i ≤ zs.length ∧ nm.map Prod.fst = zs.take i ∧ ∀ x ∈ nm, OkV n x.2, ⟨_, _, ns, at0, cnt, [], rfl, hp, Nat.zero_le _, rfl, by simp⟩, ?_, ?_, ?_⟩
  · rintro i ρ ⟨u1, u2, ns, a, cn, nm, rfl, _⟩
    exact hrs _ rfl
  · rintro i y ρ hy ⟨u1, u2, ns, a, cn, nm, rfl, h, hi, hnm, hok⟩
    obtain ⟨dd, hdd, rfl⟩ := get_map hy
    obtain ⟨z, hz, rfl⟩ := get_map hdd
    have hil := (List.getElem?_eq_some_iff.mp hz).1
    have ln : nm.length = i := by
      have := congrArg List.length hnm
      rw [List.length_map, List.length_take] at this
      omega
    have nz : z ∉ nm.map Prod.fst := by rw [hnm]; exact nin_take nd hz
    have nk : (Sum.inr z : Key) ∉ nm.map fun x => Sum.inr x.1 := fun m => by
      obtain ⟨x, hx, e⟩ := List.mem_map.mp m
      cases e
      exact nz (List.mem_map_of_mem hx)
    have fin : ∀ (o : Option Nat), OkV n o → (nm ++ [(z, o)]).map Prod.fst = zs.take (i + 1) ∧ ∀ x ∈ nm ++ [(z, o)], OkV n x.2 := fun o ho => by
      refine ⟨?_, fun x hx => ?_⟩
      · rw [List.map_append, hnm, List.take_succ_eq_append_getElem hil, (List.getElem?_eq_some_iff.mp hz).2]
        rfl
      · rcases List.mem_append.mp hx with h | h
        · exact hok x h
        · rw [List.mem_singleton.mp h]; exact ho
    walk_at "d"
    refine d_I (.inl ⟨by decide, by decide⟩) ?_
    walk_at "d"
    walk_at "cw"
    refine ⟨p, c, ns, a, cn, _, rfl, h, by omega, by omega, fun r ns' a' n' r0 r1 h' => ?_⟩
    walk_at "bk"
    walk_at "d"
    refine d_dputv rfl rfl (by rw [List.length_map]; omega) (.new nk) ?_
    walk_at "d"
    refine d_I (.inl ⟨by decide, by decide⟩) ?_
    walk_at "d"
    refine d_iB (fun c1 => ?_) (fun c1 => ?_)
    · have c1 : r < 3 * (n : Int) := by simpa using c1
      have hp : (0 : Int) < n := by omega
      walk_at "d"
      refine d_I hp ?_
      walk_at "d"
      have m0 := Int.emod_nonneg r (show (n : Int) ≠ 0 by omega)
      have m1 := Int.emod_lt_of_pos r hp
      have e : oV (some (r % (n : Int)).toNat) = .int (r % (n : Int)) := by
        show D.int (((r % (n : Int)).toNat : Nat) : Int) = _
        rw [Int.toNat_of_nonneg m0]
      rw [← e]
      obtain ⟨g1, g2⟩ := snoc_get nk
      refine d_dputv rfl rfl (by simp; omega) (.old g1 g2) ?_
      obtain ⟨f1, f2⟩ := fin (some (r % (n : Int)).toNat) (fun j z => by cases z; omega)
      refine d_p0 ⟨.sh (dS z), .sh (.int r), ns', a', n', nm ++ [(z, some (r % (n : Int)).toNat)], ?_, h', by omega, f1, f2⟩
      rw [List.map_append, List.map_append, List.map_append]
      rw [show ((nm.map fun x => oV x.2).map T.sh ++ [T.sh .non]).set (nm.map fun x => (Sum.inr x.1 : Key)).length (T.sh (oV (some (r % (n : Int)).toNat))) = (nm.map fun x => oV x.2).map T.sh ++ [T.sh (oV (some (r % (n : Int)).toNat))] by
        rw [List.set_append_right _ _ (by simp)]
        simp]
      rfl
    · walk_at "d"
      obtain ⟨f1, f2⟩ := fin none (fun j z => by cases z)
      refine ⟨.sh (dS z), .sh (.int r), ns', a', n', nm ++ [(z, none)], ?_, h', by omega, f1, f2⟩
      rw [List.map_append, List.map_append, List.map_append]
      rfl
  · rintro ρ ⟨u1, u2, ns, a, cn, nm, rfl, h, hi, hnm, hok⟩
    rw [List.length_map, List.length_map, List.take_length] at hnm
    walk_at "d"
    exact k d nm ns a cn hnm hok h

/-! words and integers, by data -/
def D.isI : D → Bool
  | .int _ => true
  | _ => false
/-- a value that isinstance can be asked of -/
def D.ok (d : D) : Prop := ∃ m, (T.sh d).tyn = some m
def sIsInt : SpecD := fun ts Q _ => ∃ d : D, ts = [.sh d] ∧ D.ok d ∧ Q (.sh (.bl (D.isI d))) [.no]
theorem ok_is_integer {f : Addr} {fd : FuncData} (F : Fun K "is_integer" "is_integer" s_is_integer f fd) (B : Blt mg) : FnOk P w K mg base CX0 1 f fd ["value"] (spD false sIsInt) := by
  refine F.ok sc_is_integer (lenD fun ts Q χ ⟨_, e, _⟩ => by rw [e]; rfl) (fun cdv A outer s H vs Q E hr h => ?_)
  refine bodyD [] h (pss_one (ps_ret (pe_and (pe_callB call_isi (by rfl) B.isinstance (by decide +kernel) (pa_cons (pv 0) (pa_cons (pe_bltn (v := .ty "int") (by rfl) B.int boot_int rfl) pa_nil))) (pe_one (pe_not (pe_callB call_isi (by rfl) B.isinstance (by decide +kernel) (pa_cons (pv 0) (pa_cons (pe_bltn (v := .ty "bool") (by rfl) B.bool boot_bool rfl) pa_nil)))))))) 1 0 (fun ts Q χ ⟨_, e, _⟩ => by rw [e]; rfl) rfl ?_
  apply Exists.intro
  constructor
  · walk_at "ref"
  rintro ts Q1 χ ⟨d, rfl, ⟨m, hm⟩, q⟩
  cases d <;> first | (walk_at "d"; exact q) | cases hm
/-- a number below n -/
def D.numB (n : Int) : D → Bool
  | .int i => decide (0 ≤ i) && decide (i < n)
  | _ => false
def sIsNum : SpecD := fun ts Q _ => ∃ (d : D) (n : Int), ts = [.sh d, .sh (.int n)] ∧ D.ok d ∧ Q (.sh (.bl (D.numB n d))) [.no, .no]
theorem ok_is_number_below {f : Addr} {fd : FuncData} (F : Fun K "is_number_below" "is_number_below" s_is_number_below f fd) (B : Blt mg) (C_is_integer : Cal P w K mg base CX0 1 "is_integer" (spD false sIsInt)) : FnOk P w K mg base CX0 2 f fd ["value", "count"] (spD false sIsNum) := by
  refine F.ok sc_is_number_below (lenD fun ts Q χ ⟨_, _, e, _⟩ => by rw [e]; rfl) (fun cdv A outer s H vs Q E hr h => ?_)
  refine bodyD [] h (pss_one (ps_ret (pe_and (pe_c C_is_integer hr (by decide) (by rfl) (pa_cons (pv 0) pa_nil)) (pe_one (pe_chain op_le op_lt pe_int (pv 0) (pv 1)))))) 2 0 (fun ts Q χ ⟨_, _, e, _⟩ => by rw [e]; rfl) rfl ?_
  apply Exists.intro
  constructor
  · walk_at "ref"
  rintro ts Q1 χ ⟨d, n, rfl, hd, q⟩
  walk_at "d"
  walk_at "cw"
  refine ⟨d, rfl, hd, ?_⟩
  walk_at "bk"
  cases d with
  | int i =>
    walk_at "d"
    refine d_iB (fun c1 => ?_) (fun c1 => ?_)
    · walk_at "d"
      have q : Q1 (T.sh (.bl (decide (0 ≤ i) && decide (i < n)))) _ := q
      rw [c1, Bool.true_and] at q
      exact q
    · have q : Q1 (T.sh (.bl (decide (0 ≤ i) && decide (i < n)))) _ := q
      rw [c1, Bool.false_and] at q
      exact q
  | _ => walk_at "d"; exact q
/-- a word -/
def D.isW : D → Bool
  | .str z => decide (IsW z)
  | _ => false
/-- texts of a sober length -/
def D.short : D → Prop
  | .str z => z.length ≤ 100000
  | _ => True
def sIsWord : SpecD := fun ts Q _ => ∃ d : D, ts = [.sh d] ∧ D.ok d ∧ D.short d ∧ Q (.sh (.bl (D.isW d))) [.no]
theorem ok_is_word {f : Addr} {fd : FuncData} (F : Fun K "is_word" "is_word" s_is_word f fd) (B : Blt mg) (T : WTxt mg) : FnOk P w K mg base CX0 1 f fd ["value"] (spD false sIsWord) := by
  refine F.ok sc_is_word (lenD fun ts Q χ ⟨_, e, _⟩ => by rw [e]; rfl) (fun cdv A outer s H vs Q E hr h => ?_)
  refine bodyD [] h (pss_cons (ps_if (PW.pt (pw_or (pt_not (pt_val (pe_callB call_isi (by rfl) B.isinstance (by decide +kernel) (pa_cons (pv 0) (pa_cons (pe_bltn (v := .ty "str") (by rfl) B.str boot_str rfl) pa_nil))))) (pw_or1 (pt_not (pt_chain op_le op_le pe_int (pe_callB c_lenS (by rfl) B.len (by decide +kernel) (pa_cons (pv 0) pa_nil)) (pe_gv (by rfl) T.LONGEST))))))
        (pss_one (ps_ret pe_bl)) pss_nil)
      (pss_cons (ps_for PassesOwn.never rfl (pi_str (pv 0)) (pg_name (i := 1) sc_is_word.nd rfl (.inl rfl))
        (pss_one (ps_if (pt_cmpR op_notInS (pv 1) (pe_gv (by rfl) T.LETTERS) (by rfl))
        (pss_one (ps_ret pe_bl)) pss_nil)))
      (pss_one (ps_ret pe_bl)))) 1 1 (fun ts Q χ ⟨_, e, _⟩ => by rw [e]; rfl) rfl ?_
  apply Exists.intro
  constructor
  · walk_at "ref"
  rintro ts Q1 χ ⟨d, rfl, ⟨m, hm⟩, hs, q⟩
  cases d with
  | str z =>
    have wn : (b : Bool) → (b = true ↔ IsW z) → Q1 (.sh (.bl b)) [.no] := fun b hb => by
      have e : b = decide (IsW z) := by rw [Bool.eq_iff_iff, hb, decide_eq_true_eq]
      rw [e]
      exact q
    walk_at "d"
    refine d_lenS hs ?_
    walk_at "d"
    refine d_iB (fun c1 => ?_) (fun c1 => ?_)
    · have c1 : (1 : Int) ≤ z.length := by simpa using c1
      walk_at "d"
      refine d_iB (fun c2 => ?_) (fun c2 => ?_)
      · have c2 : ¬ (z.length : Int) ≤ 8 := by simpa using c2
        walk_at "d"
        exact wn false ⟨fun h => (nomatch h), fun h => absurd h.2.1 (by omega)⟩
      · have c2 : (z.length : Int) ≤ 8 := by simpa using c2
        walk_at "d"
        refine ⟨fun i ρ => ∃ u, ρ = [.sh (.str z), u] ∧ ∀ (j : Nat) (c : Nat), j < i → z.cps.toList[j]? = some c → 97 ≤ c ∧ c ≤ 122, ⟨_, rfl, fun j c hj => absurd hj (by omega)⟩, fun _ _ _ => True.intro, ?_, ?_⟩
        · rintro i y ρ hy ⟨u, rfl, hj⟩
          obtain ⟨ch, hch, rfl⟩ := get_map hy
          walk_at "d"
          refine ⟨ch, abc, rfl, ?_⟩
          walk_at "d"
          refine d_iB (fun c3 => ?_) (fun c3 => ?_)
          · walk_at "d"
            have c3 : ¬ (97 ≤ ch ∧ ch ≤ 122) := by rw [← abc_mem]; simpa using c3
            exact wn false ⟨fun h => (nomatch h), fun h => absurd (h.2.2 ch (List.mem_of_getElem? hch)) c3⟩
          · walk_at "d"
            have c3 : 97 ≤ ch ∧ ch ≤ 122 := by rw [← abc_mem]; simpa using c3
            refine ⟨_, rfl, fun j c hj' hc => ?_⟩
            by_cases e : j = i
            · subst e; rw [hch] at hc; cases hc; exact c3
            · exact hj j c (by omega) hc
        · rintro ρ ⟨u, rfl, hj⟩
          walk_at "d"
          refine wn true ⟨fun _ => ⟨by omega, by omega, fun c hc => ?_⟩, fun _ => rfl⟩
          obtain ⟨j, hj2⟩ := List.mem_iff_getElem?.mp hc
          exact hj j c (by rw [List.length_map]; exact (List.getElem?_eq_some_iff.mp hj2).1) hj2
    · have c1 : ¬ (1 : Int) ≤ z.length := by simpa using c1
      walk_at "d"
      exact wn false ⟨fun h => (nomatch h), fun h => absurd h.1 (by omega)⟩
  | _ => first | (walk_at "d"; exact q) | cases hm
/-- a list or tuple of so many unlike words: what is handed to is_word_list -/
def LT (t : E.T) (ds : List D) : Prop := LD t ds ∨ t = .sh (.tup ds)

theorem LT.rd {t : E.T} {ds : List D} (h : LT t ds) (i : Nat) : ∃ t', t.rd i [] = some t' ∧ (∀ ρ : E.Env, ρ[i]? = some t → Rs ρ t' t) ∧ t.seqK = some (ds.map T.sh) ∧ (t.lstK = some (ds.map T.sh) ∨ t.tupK = some (ds.map T.sh)) ∧ ∃ m b b', t.tyn = some m ∧ kitB m "list" = some b ∧ kitB m "tuple" = some b' ∧ (b || b') = true := by
  rcases h with h | rfl
  · obtain ⟨t', h1, h2, h3, h4, _⟩ := h.rd i
    refine ⟨t', h1, h2, h4, .inl h3, "list", true, false, ?_, by decide +kernel, by decide +kernel, rfl⟩
    rcases h with rfl | ⟨a, rfl⟩ <;> rfl
  · exact ⟨_, rfl, fun _ _ => rfl, rfl, .inr rfl, "tuple", false, true, rfl, by decide +kernel, by decide +kernel, rfl⟩
def WordsD (ds : List D) : Prop := ∃ zs : List Str, ds = zs.map dS ∧ (∀ z ∈ zs, IsW z) ∧ zs.Nodup
def sIsWL : SpecD := fun ts Q _ => ∃ (t : E.T) (ds : List D) (lo hi : Int), ts = [t, .sh (.int lo), .sh (.int hi)] ∧ LT t ds ∧ (∀ d ∈ ds, D.ok d ∧ D.short d) ∧ ds.length ≤ 1000 ∧
  ∀ b : Bool, (b = true ↔ lo ≤ ds.length ∧ ds.length ≤ hi ∧ WordsD ds) → Q (.sh (.bl b)) [t, .no, .no]
theorem wd_snoc {zs : List Str} {z : Str} (h : ∀ x ∈ zs, IsW x) (hz : IsW z) : ∀ x ∈ zs ++ [z], IsW x := fun x hx => by
  rcases List.mem_append.mp hx with h' | h'
  · exact h x h'
  · rw [List.mem_singleton.mp h']; exact hz
theorem ok_is_word_list {f : Addr} {fd : FuncData} (F : Fun K "is_word_list" "is_word_list" s_is_word_list f fd) (B : Blt mg) (C_is_word : Cal P w K mg base CX0 1 "is_word" (spD false sIsWord)) : FnOk P w K mg base CX0 2 f fd ["values", "least", "most"] (spD false sIsWL) := by
  refine F.ok sc_is_word_list (lenD fun ts Q χ ⟨_, _, _, _, e, _⟩ => by rw [e]; rfl) (fun cdv A outer s H vs Q E hr h => ?_)
  refine bodyD [0] h (pss_cons (ps_if (PW.pt (pw_or (pt_not (pt_val (pe_callB call_isiT (by rfl) B.isinstance (by decide +kernel) (pa_cons (pv 0) (pa_cons (pe_tup (pa_cons (pe_bltn (v := .ty "list") (by rfl) B.list boot_list rfl) (pa_cons (pe_bltn (v := .ty "tuple") (by rfl) B.tuple boot_tuple rfl) pa_nil))) pa_nil))))) (pw_or1 (pt_not (pt_chain op_le op_le (pv 1) (pe_callB c_len (by rfl) B.len (by decide +kernel) (pa_cons (pv 0) pa_nil)) (pv 2))))))
        (pss_one (ps_ret pe_bl)) pss_nil)
      (pss_cons (ps_set (i := 3) sc_is_word_list.nd rfl (.inl rfl) (pe_lst pa_nil))
      (pss_cons (ps_for PassesOwn.never rfl (pi_seq (pv 0) (pi_list (pv 0)) (pi_tup (pv 0))) (pg_name (i := 4) sc_is_word_list.nd rfl (.inl rfl))
        (pss_cons (ps_if (PW.pt (pw_or (pt_not (pt_val (pe_c C_is_word hr (by decide) (by rfl) (pa_cons (pv 4) pa_nil)))) (pw_or1 (pt_cmpR op_in_seq (pv 4) (pv 3) (by rfl)))))
        (pss_one (ps_ret pe_bl)) pss_nil)
      (pss_one (ps_expr (pe_bm PySem.F.plainAttrs_list PySem.F.slot_list_append PySem.F.type_list_append mt_append (pv 3) (pa_cons (pmv 4) pa_nil))))))
      (pss_one (ps_ret pe_bl))))) 3 2 (fun ts Q χ ⟨_, _, _, _, e, _⟩ => by rw [e]; rfl) rfl ?_
  apply Exists.intro
  constructor
  · walk_at "ref"
  rintro ts Q1 χ ⟨t, ds, lo, hi, rfl, hL, hok, h1000, q⟩
  obtain ⟨t', hrd, hrs, hk', hlt, m, b, b', hm, hb, hb', hbb⟩ := hL.rd 0
  walk_at "d"
  refine d_var rfl hrd ?_
  walk_at "d"
  refine ⟨by simp, ?_⟩
  walk_at "d"
  refine d_isi2 b b' (by exact hrs _ rfl) hm hb hb' ?_
  rw [hbb]
  walk_at "d"
  refine d_var rfl hrd ?_
  walk_at "d"
  refine d_ln (hrs _ rfl) hk' ?_
  rw [List.length_map]
  walk_at "d"
  refine d_iB (fun c1 => ?_) (fun c1 => ?_)
  · have c1 : lo ≤ ds.length := by simpa using c1
    walk_at "d"
    refine d_iB (fun c2 => ?_) (fun c2 => ?_)
    · have c2 : ¬ (ds.length : Int) ≤ hi := by simpa using c2
      walk_at "d"
      exact q false ⟨fun h => (nomatch h), fun h => absurd h.2.1 c2⟩
    · have c2 : (ds.length : Int) ≤ hi := by simpa using c2
      walk_at "d"
      refine ⟨by simp, fun l => ?_⟩
      walk_at "d"
      have loop : ∀ {ρ : List T} {k : WK} {wb : WS} , (∃ I : Nat → List T → Prop, I 0 ρ ∧ (∀ i ρ2, I i ρ2 → Rs ρ2 t' t) ∧ (∀ (i : Nat) (y : T) (ρ2 : List T), (ds.map T.sh)[i]? = some y → I i ρ2 → gwName 4 y ρ2 fun ρ3 => wb { k with nx := fun ρ' => ∃ ρ4, Pubs ρ' ρ4 ∧ I (i + 1) ρ4, ct := fun ρ' => ∃ ρ4, Pubs ρ' ρ4 ∧ I (i + 1) ρ4, bk := k.nx } ρ3) ∧ ∀ ρ2, I (ds.map T.sh).length ρ2 → k.nx ρ2) → ρ[0]? = some t → wFor (wiSeq (wVar 0)) (gwName 4) wb k ρ := fun {ρ k wb} ⟨I, i1, i2, i3, i4⟩ h0 => by
        rcases hlt with hk | hk
        · exact .inl ⟨t, t', h0, hrd, t, hrs _ h0, _, _, hk, allSh_map _, I, i1, i2, i3, i4⟩
        · exact .inr ⟨t, t', h0, hrd, t, hrs _ h0, _, _, hk, allSh_map _, I, i1, i2, i3, i4⟩
      refine loop ⟨fun i ρ => ∃ u, ∃ zs : List Str, ρ = [t, .sh (.int lo), .sh (.int hi), .lst l ((zs.map dS).map T.sh), u] ∧ i ≤ ds.length ∧ ds.take i = zs.map dS ∧ (∀ z ∈ zs, IsW z) ∧ zs.Nodup, ⟨_, [], rfl, Nat.zero_le _, rfl, by simp, List.nodup_nil⟩, ?_, ?_, ?_⟩ rfl
      · rintro i ρ ⟨u, zs, rfl, _⟩
        exact hrs _ rfl
      · rintro i y ρ hy ⟨u, zs, rfl, hi', htk, hw, nd⟩
        obtain ⟨d, hd, rfl⟩ := get_map hy
        have hil := (List.getElem?_eq_some_iff.mp hd).1
        have hzl : zs.length = i := by
          have := congrArg List.length htk
          rw [List.length_map, List.length_take] at this
          omega
        have dmem := List.mem_of_getElem? hd
        have tk1 : ds.take (i + 1) = zs.map dS ++ [d] := by rw [List.take_succ_eq_append_getElem hil, htk, (List.getElem?_eq_some_iff.mp hd).2]
        walk_at "d"
        walk_at "cw"
        refine ⟨d, rfl, (hok d dmem).1, (hok d dmem).2, ?_⟩
        walk_at "bk"
        walk_at "d"
        cases hdw : D.isW d with
        | false =>
          walk_at "d"
          refine q false ⟨fun h => (nomatch h), fun ⟨_, _, zs', e, hw', _⟩ => ?_⟩
          exfalso
          rw [e] at dmem
          obtain ⟨z, hz, rfl⟩ := List.mem_map.mp dmem
          have : D.isW (dS z) = true := decide_eq_true (hw' z hz)
          rw [this] at hdw
          cases hdw
        | true =>
          obtain ⟨z, rfl, hz⟩ : ∃ z, d = .str z ∧ IsW z := by
            cases d with
            | str z => exact ⟨z, rfl, of_decide_eq_true hdw⟩
            | _ => cases hdw
          walk_at "d"
          refine d_in rfl (by walk_at "rs") rfl (svs_S zs) ?_
          rw [inV_str]
          walk_at "d"
          refine d_iB (fun c3 => ?_) (fun c3 => ?_)
          · have c3 : z ∈ zs := by simpa using c3
            walk_at "d"
            refine q false ⟨fun h => (nomatch h), fun ⟨_, _, zs', e, hw', nd'⟩ => ?_⟩
            exfalso
            have e1 : zs'.take (i + 1) = zs ++ [z] := by
              have := tk1
              rw [e, ← List.map_take, show zs.map dS ++ [D.str z] = (zs ++ [z]).map dS by simp] at this
              exact List.map_inj_right (fun a b h => by cases h; rfl) |>.mp this
            have : (zs'.take (i + 1)).Nodup := nd'.sublist (List.take_sublist _ _)
            rw [e1] at this
            exact (List.nodup_append.mp this).2.2 z c3 z (by simp) rfl
          · have c3 : z ∉ zs := by simpa using c3
            walk_at "d"
            · simp; omega
            walk_at "d"
            refine ⟨.sh (.str z), zs ++ [z], ?_, by omega, by rw [tk1]; simp, wd_snoc hw hz, nd_snoc nd c3⟩
            rw [List.map_append, List.map_append]
            rfl
      · rintro ρ ⟨u, zs, rfl, hi', htk, hw, nd⟩
        rw [List.length_map, List.take_length] at htk
        walk_at "d"
        exact q true ⟨fun _ => ⟨c1, c2, zs, htk, hw, nd⟩, fun _ => rfl⟩
  · have c1 : ¬ lo ≤ ds.length := by simpa using c1
    walk_at "d"
    exact q false ⟨fun h => (nomatch h), fun h => absurd h.1 c1⟩

theorem kfind_of {κ : Type} [DecidableEq κ] {ks : List κ} (nd : ks.Nodup) {j : Nat} {k : κ} (h : ks[j]? = some k) : kfind ks k = some j := by
  unfold kfind
  rw [List.findIdx?_eq_some_iff_getElem]
  obtain ⟨hj, e⟩ := List.getElem?_eq_some_iff.mp h
  refine ⟨hj, by simp [e], fun m hm z => ?_⟩
  have z : ks[m] = k := by simpa using z
  have := (List.getElem?_inj hj nd).mp ((h.trans (by rw [List.getElem?_eq_getElem (by omega : m < ks.length), z])) : ks[j]? = ks[m]?)
  omega
theorem kfind_get {κ : Type} [DecidableEq κ] {ks : List κ} {k : κ} (h : k ∈ ks) : ∃ j, kfind ks k = some j := by
  cases e : kfind ks k with
  | none => exact absurd h (kfind_none e)
  | some j => exact ⟨j, rfl⟩
/-- for x in the list or tuple that slot i holds -/
theorem d_forLT {i : Nat} {t : T} {ds : List D} {g : WG} {wb : WS} {k : WK} {ρ : List T} (hL : LT t ds) (h0 : ρ[i]? = some t) (I : Nat → List T → Prop) (i1 : I 0 ρ) (i2 : ∀ j ρ2, I j ρ2 → ρ2[i]? = some t)
    (i3 : ∀ (j : Nat) (d : D) (ρ2 : List T), ds[j]? = some d → I j ρ2 → g (.sh d) ρ2 fun ρ3 => wb { k with nx := fun ρ' => ∃ ρ4, Pubs ρ' ρ4 ∧ I (j + 1) ρ4, ct := fun ρ' => ∃ ρ4, Pubs ρ' ρ4 ∧ I (j + 1) ρ4, bk := k.nx } ρ3) (i4 : ∀ ρ2, I ds.length ρ2 → k.nx ρ2) : wFor (wiSeq (wVar i)) g wb k ρ := by
  obtain ⟨t', hrd, hrs, _, hlt, _⟩ := hL.rd i
  have i3' : ∀ (j : Nat) (y : T) (ρ2 : List T), (ds.map T.sh)[j]? = some y → I j ρ2 → g y ρ2 fun ρ3 => wb { k with nx := fun ρ' => ∃ ρ4, Pubs ρ' ρ4 ∧ I (j + 1) ρ4, ct := fun ρ' => ∃ ρ4, Pubs ρ' ρ4 ∧ I (j + 1) ρ4, bk := k.nx } ρ3 := fun j y ρ2 hy hI => by
    obtain ⟨d, hd, rfl⟩ := get_map hy
    exact i3 j d ρ2 hd hI
  have i4' : ∀ ρ2, I (ds.map T.sh).length ρ2 → k.nx ρ2 := fun ρ2 h => i4 ρ2 (by rw [List.length_map] at h; exact h)
  rcases hlt with hk | hk
  · exact .inl ⟨t, t', h0, hrd, t, hrs _ h0, _, _, hk, allSh_map _, I, i1, fun j ρ2 h => hrs _ (i2 j ρ2 h), i3', i4'⟩
  · exact .inr ⟨t, t', h0, hrd, t, hrs _ h0, _, _, hk, allSh_map _, I, i1, fun j ρ2 h => hrs _ (i2 j ρ2 h), i3', i4'⟩
/-- None or a number below n -/
def D.valB (n : Int) : D → Bool
  | .non => true
  | d => D.numB n d
def atB (n : Int) (ks : List Key) (xs : List D) (z : Str) : Bool := match kfind ks (.inr z) with
  | some j => match xs[j]? with
    | some d => D.valB n d
    | none => false
  | none => false
def D.objB (fs : List Str) (n : Int) : D → Bool
  | .dK ks xs => decide (ks.length = fs.length) && fs.all (atB n ks xs)
  | _ => false
/-- a dict's parts -/
def D.fine (d : D) : Prop := D.ok d ∧ ∀ ks xs, d = .dK ks xs → ks.length = xs.length ∧ ∀ x ∈ xs, D.ok x
def sIsObj : SpecD := fun ts Q _ => ∃ (d : D) (t : T) (fs : List Str) (n : Int), ts = [.sh d, t, .sh (.int n)] ∧ LT t (fs.map dS) ∧ D.fine d ∧ Q (.sh (.bl (D.objB fs n d))) [.no, t, .no]
theorem ok_is_object {f : Addr} {fd : FuncData} (F : Fun K "is_object" "is_object" s_is_object f fd) (B : Blt mg) (C_is_number_below : Cal P w K mg base CX0 2 "is_number_below" (spD false sIsNum)) : FnOk P w K mg base CX0 3 f fd ["item", "fields", "count"] (spD false sIsObj) := by
  refine F.ok sc_is_object (lenD fun ts Q χ ⟨_, _, _, _, e, _⟩ => by rw [e]; rfl) (fun cdv A outer s H vs Q E hr h => ?_)
  have hu := hu_of hr
  refine bodyD [1] h (pss_cons (ps_if (PW.pt (pw_or (pt_not (pt_val (pe_callB call_isi (by rfl) B.isinstance (by decide +kernel) (pa_cons (pv 0) (pa_cons (pe_bltn (v := .ty "dict") (by rfl) B.dict boot_dict rfl) pa_nil))))) (pw_or1 (pt_cmpR op_ne (pe_callB c_lenR (by rfl) B.len (by decide +kernel) (pa_cons (pv 0) pa_nil)) (pe_callB c_len (by rfl) B.len (by decide +kernel) (pa_cons (pv 1) pa_nil)) (nomark _)))))
        (pss_one (ps_ret pe_bl)) pss_nil)
      (pss_cons (ps_for PassesOwn.never rfl (pi_seq (pv 1) (pi_list (pv 1)) (pi_tup (pv 1))) (pg_name (i := 3) sc_is_object.nd rfl (.inl rfl))
        (pss_cons (ps_if (pt_cmp (pc_dnotin hu (by exact (pv 3)) (by exact (pv 0))))
        (pss_one (ps_ret pe_bl)) pss_nil)
      (pss_cons (ps_set (i := 4) sc_is_object.nd rfl (.inl rfl) (pe_dget hu (by exact (pv 0)) (by exact (pv 3)) (fun _ _ => rfl)))
      (pss_one (ps_if (PW.pt (pw_and (pt_cmpR op_notN1 (pv 4) pe_non (nomark _)) (pw_and1 (pt_not (pt_val (pe_c C_is_number_below hr (by decide) (by rfl) (pa_cons (pv 4) (pa_cons (pv 2) pa_nil))))))))
        (pss_one (ps_ret pe_bl)) pss_nil)))))
      (pss_one (ps_ret pe_bl)))) 3 2 (fun ts Q χ ⟨_, _, _, _, e, _⟩ => by rw [e]; rfl) rfl ?_
  apply Exists.intro
  constructor
  · walk_at "ref"
  rintro ts Q1 χ ⟨d, t, fs, n, rfl, hL, ⟨⟨m, hm⟩, hf⟩, q⟩
  obtain ⟨t', hrd, hrs, hk', hlt, _⟩ := hL.rd 1
  cases d with
  | dK ks xs =>
    obtain ⟨hl, hx⟩ := hf ks xs rfl
    have q : Q1 (.sh (.bl (decide (ks.length = fs.length) && fs.all (atB n ks xs)))) [.no, t, .no] := q
    walk_at "d"
    refine d_var rfl hrd ?_
    walk_at "d"
    refine d_ln (hrs _ rfl) hk' ?_
    rw [List.length_map, List.length_map]
    walk_at "d"
    refine d_iB (fun c1 => ?_) (fun c1 => ?_)
    · have c1 : ¬ ks.length = fs.length := fun z => by rw [z] at c1; simp at c1
      walk_at "d"
      rw [decide_eq_false c1, Bool.false_and] at q
      exact q
    · have c1 : ks.length = fs.length := by
        by_cases z : ks.length = fs.length
        · exact z
        · exfalso
          rw [Bool.not_eq_false', decide_eq_true_eq] at c1
          injection c1 with c1
          omega
      rw [decide_eq_true c1, Bool.true_and] at q
      walk_at "d"
      refine d_forLT hL rfl (fun j ρ => ∃ u1 u2, ρ = [.sh (.dK ks xs), t, .sh (.int n), u1, u2] ∧ ∀ z ∈ fs.take j, atB n ks xs z = true) ⟨_, _, rfl, by simp⟩ ?_ ?_ ?_
      · rintro j ρ ⟨u1, u2, rfl, _⟩
        rfl
      · rintro j dd ρ hd ⟨u1, u2, rfl, hj⟩
        obtain ⟨z, hz, rfl⟩ := get_map hd
        have hzm := List.mem_of_getElem? hz
        have hjl := (List.getElem?_eq_some_iff.mp hz).1
        have no : atB n ks xs z = false → fs.all (atB n ks xs) = false := fun h => by
          rw [Bool.eq_false_iff]
          intro z2
          have := List.all_eq_true.mp z2 z hzm
          rw [h] at this
          cases this
        walk_at "d"
        refine d_dinv (by walk_at "rs") rfl rfl ?_
        walk_at "d"
        cases hkf : kfind ks (.inr z) with
        | none =>
          walk_at "d"
          rw [no (by unfold atB; rw [hkf])] at q
          exact q
        | some jj =>
          obtain ⟨hjj, _⟩ := kfind_spec hkf
          obtain ⟨x, hx2⟩ := get_of_len (l := xs) (m := ks) hl.symm hjj
          have xok := hx x (List.mem_of_getElem? hx2)
          have eat : atB n ks xs z = D.valB n x := by unfold atB; rw [hkf]; show (match xs[jj]? with | some d => D.valB n d | none => false) = _; rw [hx2]
          walk_at "d"
          refine d_dgetv (by walk_at "rs") rfl rfl hkf (map_get hx2) (y := .sh x) rfl ?_
          have more : D.valB n x = true → ∀ y ∈ fs.take (j + 1), atB n ks xs y = true := fun h y hy => by
            rw [List.take_succ_eq_append_getElem hjl, (List.getElem?_eq_some_iff.mp hz).2] at hy
            rcases List.mem_append.mp hy with hy | hy
            · exact hj y hy
            · rw [List.mem_singleton.mp hy, eat]; exact h
          walk_at "d"
          cases hxn : (T.sh x).isNon with
          | true =>
            walk_at "d"
            refine ⟨_, _, rfl, more ?_⟩
            cases x <;> first | rfl | cases hxn
          | false =>
            have ev : D.valB n x = D.numB n x := by cases x <;> first | rfl | cases hxn
            walk_at "d"
            walk_at "cw"
            refine ⟨x, n, rfl, xok, ?_⟩
            walk_at "bk"
            walk_at "d"
            cases hnb : D.numB n x with
            | true =>
              walk_at "d"
              exact ⟨_, _, rfl, more (ev.trans hnb)⟩
            | false =>
              walk_at "d"
              rw [no (eat.trans (ev.trans hnb))] at q
              exact q
      · rintro ρ ⟨u1, u2, rfl, hj⟩
        rw [List.length_map, List.take_length] at hj
        walk_at "d"
        rw [List.all_eq_true.mpr hj] at q
        exact q
  | _ => first | (walk_at "d"; exact q) | cases hm

structure TH' (P : Program) (w : World) (K : PySem.W.Frag) (mg : Str → Option Value) (base : Heap) (CI : Addr) : Prop where
  MOST_OBJECTS : ∃ u, mg "MOST_OBJECTS" = some u ∧ RelV (.int 200) u
  MOST_NAMES : ∃ u, mg "MOST_NAMES" = some u ∧ RelV (.int 6) u
  x_InvalidHeap : XCls P w K mg base "InvalidHeap" CI ["part", "where"]
/-- for at, x in enumerate(the list that slot i holds) -/
theorem d_forEn {i : Nat} {t : T} {ds : List D} {g : WG} {wb : WS} {k : WK} {ρ : List T} (hL : LD t ds) (h0 : ρ[i]? = some t) (I : Nat → List T → Prop) (i1 : I 0 ρ) (i2 : ∀ j ρ2, I j ρ2 → ρ2[i]? = some t)
    (i3 : ∀ (j : Nat) (d : D) (ρ2 : List T), ds[j]? = some d → I j ρ2 → g (.sh (.tup [.int (j : Nat), d])) ρ2 fun ρ3 => wb { k with nx := fun ρ' => ∃ ρ4, Pubs ρ' ρ4 ∧ I (j + 1) ρ4, ct := fun ρ' => ∃ ρ4, Pubs ρ' ρ4 ∧ I (j + 1) ρ4, bk := k.nx } ρ3) (i4 : ∀ ρ2, I ds.length ρ2 → k.nx ρ2) : wFor (wiEnum (waC (wVar i) waN)) g wb k ρ := by
  obtain ⟨t', hrd, hrs, hk, _⟩ := hL.rd i
  refine ⟨t, t', h0, hrd, t', rfl, t, hrs _ h0, _, _, hk, allSh_map _, I, i1, fun j ρ2 h => hrs _ (i2 j ρ2 h), fun j y ρ2 hy hI => ?_, fun ρ2 h => i4 ρ2 (by rw [enumT_len] at h; exact h)⟩
  have hj : j < ds.length := by rw [← enumT_len]; exact (List.getElem?_eq_some_iff.mp hy).1
  have e := enumT_get (List.getElem?_eq_getElem hj)
  rw [hy] at e
  cases e
  exact i3 j _ ρ2 (List.getElem?_eq_getElem hj) hI
def chkO (fs : List Str) (ds : List D) : Option (Str × D) := if 200 < ds.length then some ("objects", .non) else (ds.findIdx? fun d => !D.objB fs ds.length d).map fun (j : Nat) => (Str.ofString "object", D.int (j : Nat))
/-- a check's outcome -/
def chkR (CI : Addr) (us : List T) (Q : T → List T → Prop) (χ : Addr → List Str → List D → List T → Prop) : Option (Str × D) → Prop
  | none => Q (.sh .non) us
  | some (p, w) => χ CI ["where", "part"] [w, .str p] us
def sChkO (CI : Addr) : SpecD := fun ts Q χ => ∃ (t1 t2 : T) (ds : List D) (fs : List Str), ts = [t1, t2] ∧ LD t1 ds ∧ LT t2 (fs.map dS) ∧ (∀ d ∈ ds, D.fine d) ∧ chkR CI [t1, t2] Q χ (chkO fs ds)
theorem ok_check_objects {f CI : Addr} {fd : FuncData} (F : Fun K "check_objects" "check_objects" s_check_objects f fd) (B : Blt mg) (T : TH' P w K mg base CI) (C_is_object : Cal P w K mg base CX0 3 "is_object" (spD false sIsObj)) : FnOk P w K mg base (L2.CX P w) 4 f fd ["objects", "fields"] (spD false (sChkO CI)) := by
  refine F.okX sc_check_objects (lenD fun ts Q χ ⟨_, _, _, _, e, _⟩ => by rw [e]; rfl) (fun cdv A outer s H vs Q E hr h => ?_)
  refine bodyX [0, 1] h (pss_cons (ps_if (PW.pt (pw_or (pt_not (pt_val (pe_callB call_isi (by rfl) B.isinstance (by decide +kernel) (pa_cons (pv 0) (pa_cons (pe_bltn (v := .ty "list") (by rfl) B.list boot_list rfl) pa_nil))))) (pw_or1 (pt_cmpR op_gt (pe_callB c_len (by rfl) B.len (by decide +kernel) (pa_cons (pv 0) pa_nil)) (pe_gv (by rfl) T.MOST_OBJECTS) (nomark _)))))
        (pss_one (ps_rx rfl (takes_of rfl rfl rfl rfl) (pmk_x T.x_InvalidHeap hr (by decide) (by rfl) (pa_cons pe_str (pa_cons pe_non pa_nil))))) pss_nil)
      (pss_one (ps_for (passes_of rfl) rfl (pi_enum (by rfl) B.enumerate (pa_cons (pv 0) pa_nil)) (pg_tup rfl (pgs_cons (pg_name (i := 2) sc_check_objects.nd rfl (.inl rfl)) (pgs_cons (pg_name (i := 3) sc_check_objects.nd rfl (.inl rfl)) pgs_nil)))
        (pss_one (ps_if (pt_not (pt_val (pe_c C_is_object hr (by decide) (by rfl) (pa_cons (pv 3) (pa_cons (pv 1) (pa_cons (pe_callB c_len (by rfl) B.len (by decide +kernel) (pa_cons (pv 0) pa_nil)) pa_nil))))))
        (pss_one (ps_rx rfl (takes_of rfl rfl rfl rfl) (pmk_x T.x_InvalidHeap hr (by decide) (by rfl) (pa_cons pe_str (pa_cons (pv 2) pa_nil))))) pss_nil))))) 2 2 (fun ts Q χ ⟨_, _, _, _, e, _⟩ => by rw [e]; rfl) rfl ?_
  apply Exists.intro
  constructor
  · walk_at "ref"
  rintro ts Q1 χ ⟨t1, t2, ds, fs, rfl, hL, hT, hf, q⟩
  obtain ⟨t1', hrd, hrs, hk, hk', hv⟩ := hL.rd 0
  obtain ⟨t2', hrd2, hrs2, hk2, hlt2, _⟩ := hT.rd 1
  have hty : t1.tyn = some "list" := by rcases hL with rfl | ⟨a, rfl⟩ <;> rfl
  walk_at "d"
  refine d_var rfl hrd ?_
  walk_at "d"
  refine d_isi true (by exact hrs _ rfl) hty (by decide +kernel) ?_
  walk_at "d"
  refine d_var rfl hrd ?_
  walk_at "d"
  refine d_ln (hrs _ rfl) hk' ?_
  rw [List.length_map]
  walk_at "d"
  refine d_iB (fun c1 => ?_) (fun c1 => ?_)
  · have c1 : 200 < ds.length := by
      have : (200 : Int) < ds.length := by simpa using c1
      omega
    walk_at "d"
    refine ⟨[.str "objects", .non], rfl, rfl, by decide, ?_⟩
    unfold chkO at q
    rw [if_pos c1] at q
    exact q
  · have c1 : ¬ 200 < ds.length := by
      have : ¬ (200 : Int) < ds.length := by simpa using c1
      omega
    unfold chkO at q
    rw [if_neg c1] at q
    walk_at "d"
    refine d_forEn hL rfl (fun j ρ => ∃ u1 u2, ρ = [t1, t2, u1, u2] ∧ ∀ (m : Nat) (d : D), m < j → ds[m]? = some d → D.objB fs ds.length d = true) ⟨_, _, rfl, fun m d hm => absurd hm (by omega)⟩ ?_ ?_ ?_
    · rintro j ρ ⟨u1, u2, rfl, _⟩
      rfl
    · rintro j d ρ hd ⟨u1, u2, rfl, hj⟩
      walk_at "d"
      refine d_var rfl hrd2 ?_
      walk_at "d"
      refine d_var rfl hrd ?_
      walk_at "d"
      refine d_ln (by exact hrs _ rfl) hk' ?_
      rw [List.length_map]
      walk_at "d"
      have hdm : d ∈ ds := List.mem_of_getElem? hd
      have fin1 : D.objB fs (ds.length : Nat) d = true → ∀ (m : Nat) (d : D), m < j + 1 → ds[m]? = some d → D.objB fs ds.length d = true := fun hb m d' hm he => by
        rcases Nat.lt_succ_iff_lt_or_eq.mp hm with h1 | rfl
        · exact hj m d' h1 he
        · rw [hd] at he; cases he; exact hb
      have fin2 : D.objB fs (ds.length : Nat) d = false → χ CI ["where", "part"] [.int (j : Nat), .str "object"] [t1, t2] := fun hb => by
        have e : (ds.findIdx? fun d => !D.objB fs ds.length d) = some j := by
          rw [List.findIdx?_eq_some_iff_getElem]
          obtain ⟨hl, he⟩ := List.getElem?_eq_some_iff.mp hd
          refine ⟨hl, by rw [he, hb]; rfl, fun m hm => ?_⟩
          rw [hj m _ hm (List.getElem?_eq_getElem (by omega))]
          decide
        rw [e] at q
        exact q
      rcases hT with (rfl | ⟨a, rfl⟩) | rfl
      all_goals
        cases hrd2
        walk_at "cw"
        refine ⟨d, _, fs, _, rfl, by first | exact .inl (.inl rfl) | exact .inl (.inr ⟨_, rfl⟩) | exact .inr rfl, hf d hdm, ?_⟩
        walk_at "bk"
        walk_at "d"
        cases hb : D.objB fs (ds.length : Nat) d with
        | true =>
          walk_at "d"
          exact ⟨_, _, rfl, fin1 hb⟩
        | false =>
          walk_at "d"
          refine ⟨[.str "object", .int (j : Nat)], rfl, rfl, of_decide_eq_true rfl, ?_⟩
          exact fin2 hb
    · rintro ρ ⟨u1, u2, rfl, hj⟩
      have e : (ds.findIdx? fun d => !D.objB fs ds.length d) = none := by
        rw [List.findIdx?_eq_none_iff]
        intro d hd
        obtain ⟨m, hm⟩ := List.mem_iff_getElem?.mp hd
        rw [hj m d (List.getElem?_eq_some_iff.mp hm).1 hm]
        rfl
      rw [e] at q
      exact q

/-! names that are checked, by data -/
def nmK (ns : List (Str × D)) : List Key := ns.map fun x => Sum.inr x.1
def nmV (ns : List (Str × D)) : List D := ns.map fun x => x.2
def nmB (ns : List (Str × D)) : Bool := decide (ns.length ≤ 6) && ns.all fun x => D.isW (dS x.1)
def sChkN (CI : Addr) : SpecD := fun ts Q χ => ∃ (ns : List (Str × D)) (n : Int), ts = [.sh (.dK (nmK ns) (nmV ns)), .sh (.int n)] ∧ (ns.map fun x => x.1).Nodup ∧ (∀ x ∈ ns, D.ok x.2 ∧ D.short (dS x.1)) ∧
  (nmB ns = false → χ CI ["where", "part"] [.non, .str "names"] [.sh (.dK (nmK ns) (nmV ns)), .no]) ∧
  (nmB ns = true → ∀ ys : List Str, ys.Perm (ns.map fun x => x.1) → sortedS ys = true → chkR CI [.sh (.dK (nmK ns) (nmV ns)), .no] Q χ ((ys.find? fun z => !atB n (nmK ns) (nmV ns) z).map fun z => ("name", .str z)))
theorem ok_check_names {f CI : Addr} {fd : FuncData} (F : Fun K "check_names" "check_names" s_check_names f fd) (B : Blt mg) (T : TH' P w K mg base CI) (C_is_word : Cal P w K mg base CX0 3 "is_word" (spD false sIsWord)) (C_is_number_below : Cal P w K mg base CX0 3 "is_number_below" (spD false sIsNum)) : FnOk P w K mg base (L2.CX P w) 4 f fd ["names", "count"] (spD true (sChkN CI)) := by
  refine F.okX sc_check_names (lenD fun ts Q χ ⟨_, _, e, _⟩ => by rw [e]; rfl) (fun cdv A outer s H vs Q E hr h => ?_)
  have hu := hu_of hr
  refine bodyX [0] h (pss_cons (ps_if (PW.pt (pw_or (pt_not (pt_val (pe_callB call_isi (by rfl) B.isinstance (by decide +kernel) (pa_cons (pv 0) (pa_cons (pe_bltn (v := .ty "dict") (by rfl) B.dict boot_dict rfl) pa_nil))))) (pw_or1 (pt_cmpR op_gt (pe_callB c_lenR (by rfl) B.len (by decide +kernel) (pa_cons (pv 0) pa_nil)) (pe_gv (by rfl) T.MOST_NAMES) (nomark _)))))
        (pss_one (ps_rx rfl (takes_of rfl rfl rfl rfl) (pmk_x T.x_InvalidHeap hr (by decide) (by rfl) (pa_cons pe_str (pa_cons pe_non pa_nil))))) pss_nil)
      (pss_cons (ps_lockN (ps_for (passes_of rfl) rfl (pi_keys (pv 0)) (pg_name (i := 2) sc_check_names.nd rfl (.inl rfl))
        (pss_one (ps_if (pt_not (pt_val (pe_c C_is_word hr (by decide) (by rfl) (pa_cons (pv 2) pa_nil))))
        (pss_one (ps_rx rfl (takes_un (takes_of rfl rfl rfl rfl)) (pmk_x T.x_InvalidHeap hr (by decide) (by rfl) (pa_cons pe_str (pa_cons pe_non pa_nil))))) pss_nil))))
      (pss_one (ps_for (passes_of rfl) rfl (pi_list (pe_callB cr_sortedS (by rfl) B.sorted (by decide +kernel) (pa_cons (pe_callTy (c_listK rfl) (by rfl) B.list (by decide +kernel) (pa_cons (pv 0) pa_nil)) pa_nil))) (pg_name (i := 2) sc_check_names.nd rfl (.inl rfl))
        (pss_cons (ps_set (i := 3) sc_check_names.nd rfl (.inl rfl) (pe_dget hu (by exact (pv 0)) (by exact (pv 2)) (fun _ _ => rfl)))
      (pss_one (ps_if (PW.pt (pw_and (pt_cmpR op_notN1 (pv 3) pe_non (nomark _)) (pw_and1 (pt_not (pt_val (pe_c C_is_number_below hr (by decide) (by rfl) (pa_cons (pv 3) (pa_cons (pv 1) pa_nil))))))))
        (pss_one (ps_rx rfl (takes_of rfl rfl rfl rfl) (pmk_x T.x_InvalidHeap hr (by decide) (by rfl) (pa_cons pe_str (pa_cons (pv 2) pa_nil))))) pss_nil))))))) 2 2 (fun ts Q χ ⟨_, _, e, _⟩ => by rw [e]; rfl) rfl ?_
  apply Exists.intro
  constructor
  · walk_at "ref"
  rintro ts Q1 χ ⟨ns, n, rfl, nd, hok, qf, qt⟩
  walk_at "d"
  have lk : (nmK ns).length = ns.length := by simp [nmK]
  refine d_iB (fun c1 => ?_) (fun c1 => ?_)
  · have c1 : ¬ ns.length ≤ 6 := by
      have : (6 : Int) < (nmK ns).length := by simpa using c1
      omega
    walk_at "d"
    refine ⟨[.str "names", .non], rfl, rfl, by decide, ?_⟩
    exact qf (by unfold nmB; rw [decide_eq_false c1]; rfl)
  have c1 : ns.length ≤ 6 := by
    have : ¬ (6 : Int) < (nmK ns).length := by simpa using c1
    omega
  walk_at "d"
  refine d_forK rfl (fun j ρ => ∃ u1 u2, ρ = [.sh (.dK (nmK ns) (nmV ns)), .sh (.int n), u1, u2] ∧ ∀ (m : Nat) (x : Str × D), m < j → ns[m]? = some x → D.isW (dS x.1) = true) ⟨_, _, rfl, fun m d hm => absurd hm (by omega)⟩ ?_ ?_
  · rintro j ky ρ hky ⟨u1, u2, rfl, hj⟩
    obtain ⟨x, hx, rfl⟩ := get_map hky
    have xm := List.mem_of_getElem? hx
    walk_at "d"
    walk_at "cw"
    refine ⟨dS x.1, rfl, ⟨_, rfl⟩, (hok x xm).2, ?_⟩
    walk_at "bk"
    walk_at "d"
    cases hb : D.isW (dS x.1) with
    | true =>
      walk_at "d"
      refine ⟨_, _, rfl, fun m x' hm he => ?_⟩
      rcases Nat.lt_succ_iff_lt_or_eq.mp hm with h1 | rfl
      · exact hj m x' h1 he
      · rw [hx] at he; cases he; exact hb
    | false =>
      walk_at "d"
      refine ⟨[.str "names", .non], rfl, rfl, of_decide_eq_true rfl, ?_⟩
      refine qf ?_
      unfold nmB
      rw [Bool.and_eq_false_iff]
      right
      rw [List.all_eq_false]
      exact ⟨x, xm, by rw [hb]; decide⟩
  · rintro ρ ⟨u1, u2, rfl, hj⟩
    rw [lk] at hj
    have hB : nmB ns = true := by
      unfold nmB
      rw [decide_eq_true c1, Bool.true_and, List.all_eq_true]
      intro x hx
      obtain ⟨m, hm⟩ := List.mem_iff_getElem?.mp hx
      exact hj m x (List.getElem?_eq_some_iff.mp hm).1 hm
    have qt := qt hB
    walk_at "d"
    refine d_listK rfl rfl fun a0 => ?_
    walk_at "d"
    have ekk : ((nmK ns).map fun k => _root_.E.T.sh (kD k)) = (ns.map fun x => x.1).map fun z => _root_.E.T.sh (.str z) := by
      unfold nmK
      rw [List.map_map, List.map_map]
      rfl
    refine d_sortS (zs := ns.map fun x => x.1) rfl (by rw [← ekk]; rfl) (by rw [List.length_map]; omega) fun ys a1 hp hs => ?_
    have qt := qt ys hp hs
    have hat : ∀ z ∈ ys, ∃ (j : Nat) (x : Str × D), ns[j]? = some x ∧ x.1 = z ∧ kfind (nmK ns) (.inr z) = some j := fun z hz => by
      obtain ⟨x, hx, rfl⟩ := List.mem_map.mp (hp.mem_iff.mp hz)
      obtain ⟨j, hj⟩ := List.mem_iff_getElem?.mp hx
      refine ⟨j, x, hj, rfl, kfind_of ?_ (by unfold nmK; exact map_get hj)⟩
      have : nmK ns = (ns.map fun x => x.1).map Sum.inr := by unfold nmK; rw [List.map_map]; rfl
      rw [this]
      exact List.Pairwise.map Sum.inr (fun _ _ h h2 => h (Sum.inr.inj h2)) nd
    refine ⟨.lst a1 _, rfl, _, ys.map dS, rfl, by rw [show (ys.map fun z => _root_.E.T.sh (.str z)) = (ys.map dS).map _root_.E.T.sh by rw [List.map_map]; rfl]; exact allSh_map _, fun j ρ => ∃ u1 u2, ρ = [.sh (.dK (nmK ns) (nmV ns)), .sh (.int n), u1, u2] ∧ ∀ (m : Nat) (z : Str), m < j → ys[m]? = some z → atB n (nmK ns) (nmV ns) z = true, ⟨_, _, rfl, fun m d hm => absurd hm (by omega)⟩, fun _ _ _ => rfl, ?_, ?_⟩
    · rintro j y ρ hy ⟨u1, u2, rfl, hj⟩
      obtain ⟨d, hd, rfl⟩ := get_map hy
      obtain ⟨z, hz, rfl⟩ := get_map hd
      obtain ⟨k, x, hx, hxz, hk⟩ := hat z (List.mem_of_getElem? hz)
      have hv : (nmV ns)[k]? = some x.2 := by unfold nmV; exact map_get hx
      have ea : atB n (nmK ns) (nmV ns) z = D.valB n x.2 := by unfold atB; rw [hk]; simp only [hv]
      have okx := (hok x (List.mem_of_getElem? hx)).1
      have more : D.valB n x.2 = true → ∀ (m : Nat) (z : Str), m < j + 1 → ys[m]? = some z → atB n (nmK ns) (nmV ns) z = true := fun hb m z' hm he => by
        rcases Nat.lt_succ_iff_lt_or_eq.mp hm with h1 | rfl
        · exact hj m z' h1 he
        · rw [hz] at he; cases he; exact ea.trans hb
      have bad : D.valB n x.2 = false → χ CI ["where", "part"] [.str z, .str "name"] [.sh (.dK (nmK ns) (nmV ns)), .no] := fun hb => by
        have e : (ys.find? fun z => !atB n (nmK ns) (nmV ns) z) = some z := by
          rw [List.find?_eq_some_iff_getElem]
          obtain ⟨hl, he⟩ := List.getElem?_eq_some_iff.mp hz
          refine ⟨by rw [ea, hb]; rfl, j, hl, he, fun m hm => ?_⟩
          rw [hj m _ hm (List.getElem?_eq_getElem (by omega))]
          rfl
        rw [e] at qt
        exact qt
      walk_at "d"
      refine d_dgetv rfl rfl rfl hk (by exact map_get hv) rfl ?_
      walk_at "d"
      refine d_iB (fun c2 => ?_) (fun c2 => ?_)
      · have ev : D.valB n x.2 = D.numB n x.2 := by
          cases e : x.2 <;> rw [e] at c2 <;> first | rfl | cases c2
        walk_at "d"
        walk_at "cw"
        refine ⟨x.2, n, rfl, okx, ?_⟩
        walk_at "bk"
        walk_at "d"
        cases hb : D.numB n x.2 with
        | true =>
          walk_at "d"
          exact ⟨_, _, rfl, more (ev.trans hb)⟩
        | false =>
          walk_at "d"
          refine ⟨[.str "name", .str z], rfl, rfl, of_decide_eq_true rfl, ?_⟩
          exact bad (ev.trans hb)
      · have ev : D.valB n x.2 = true := by
          cases e : x.2 <;> rw [e] at c2 <;> first | rfl | cases c2
        walk_at "d"
        exact ⟨_, _, rfl, more ev⟩
    · rintro ρ ⟨u1, u2, rfl, hj⟩
      rw [List.length_map, List.length_map] at hj
      have e : (ys.find? fun z => !atB n (nmK ns) (nmV ns) z) = none := by
        rw [List.find?_eq_none]
        intro z hz
        obtain ⟨m, hm⟩ := List.mem_iff_getElem?.mp hz
        rw [hj m z (List.getElem?_eq_some_iff.mp hm).1 hm]
        decide
      rw [e] at qt
      exact qt

/-! the order of meeting, by data -/
def jK (ord : List Nat) : List Key := ord.map fun (j : Nat) => Sum.inl (j : Int)
def jV (n : Nat) : List T := (List.range n).map fun (j : Nat) => T.sh (.int (j : Nat))
def jL (ord : List Nat) : List T := ord.map fun (j : Nat) => T.sh (.int (j : Nat))
theorem jK_len (ord : List Nat) : (jK ord).length = ord.length := List.length_map ..
theorem jL_len (ord : List Nat) : (jL ord).length = ord.length := List.length_map ..
theorem jK_snoc (ord : List Nat) (m : Nat) : jK ord ++ [Sum.inl (m : Int)] = jK (ord ++ [m]) := by unfold jK; rw [List.map_append]; rfl
theorem jL_snoc (ord : List Nat) (m : Nat) : jL ord ++ [T.sh (.int (m : Nat))] = jL (ord ++ [m]) := by unfold jL; rw [List.map_append]; rfl
theorem jV_snoc (n : Nat) : jV n ++ [T.sh (.int (n : Nat))] = jV (n + 1) := by unfold jV; rw [List.range_succ, List.map_append]; rfl
theorem jK_mem {ord : List Nat} {m : Nat} : (Sum.inl (m : Int) : Key) ∈ jK ord ↔ m ∈ ord := by
  unfold jK
  rw [List.mem_map]
  refine ⟨fun ⟨j, hj, e⟩ => ?_, fun h => ⟨m, h, rfl⟩⟩
  have e1 := Sum.inl.inj e
  have e2 : j = m := by omega
  exact e2 ▸ hj
theorem jK_find {ord : List Nat} {m : Nat} : (kfind (jK ord) (Sum.inl (m : Int))).isSome = decide (m ∈ ord) := by
  by_cases h : m ∈ ord
  · obtain ⟨j, hj⟩ := kfind_get (jK_mem.mpr h)
    rw [hj, decide_eq_true h]
    rfl
  · rw [decide_eq_false h]
    cases e : kfind (jK ord) (Sum.inl (m : Int)) with
    | none => rfl
    | some j => exact absurd (jK_mem.mp (List.mem_of_getElem? (kfind_spec e).1)) h
theorem rowD_at {fs : List Str} {row : List (Option Nat)} (nd : fs.Nodup) (hl : row.length = fs.length) {j : Nat} {z : Str} {o : Option Nat} (h1 : fs[j]? = some z) (h2 : row[j]? = some o) : kfind (fs.map Sum.inr : List Key) (Sum.inr z) = some j ∧ (row.map fun o => T.sh (oV o))[j]? = some (.sh (oV o)) :=
  ⟨kfind_of (List.Pairwise.map Sum.inr (fun _ _ h h2 => h (Sum.inr.inj h2)) nd) (map_get h1), map_get h2⟩
def sMeeting : SpecD := fun ts Q _ => ∃ (t3 : T) (fs : List Str) (os : List (List (Option Nat))) (roots : List (Option Nat)), ts = [.sh (.lst (objsD fs os)), .sh (.tup (fs.map dS)), t3] ∧ LD t3 (roots.map oV) ∧ OkO fs os.length os ∧ os.length ≤ 200 ∧ fs.Nodup ∧ (∀ o ∈ roots, OkV os.length o) ∧
  ∀ a, Closed os roots (order os roots) → Q (.dK a (jK (order os roots)) (jV (order os roots).length)) [.sh (.lst (objsD fs os)), .sh (.tup (fs.map dS)), t3]
theorem ok_meeting_numbers {f : Addr} {fd : FuncData} (F : Fun K "meeting_numbers" "meeting_numbers" s_meeting_numbers f fd) (B : Blt mg) : FnOk P w K mg base CX0 1 f fd ["objects", "fields", "roots"] (spD false sMeeting) := by
  refine F.ok sc_meeting_numbers (lenD fun ts Q χ ⟨_, _, _, _, e, _⟩ => by rw [e]; rfl) (fun cdv A outer s H vs Q E hr h => ?_)
  have hu := hu_of hr
  refine bodyD [0, 1, 2] h (pss_cons (ps_set (i := 3) sc_meeting_numbers.nd rfl (.inl rfl) pe_dnewK)
      (pss_cons (ps_set (i := 4) sc_meeting_numbers.nd rfl (.inl rfl) (pe_lst pa_nil))
      (pss_cons (ps_for PassesOwn.never rfl (pi_list (pv 2)) (pg_name (i := 5) sc_meeting_numbers.nd rfl (.inl rfl))
        (pss_one (ps_if (PW.pt (pw_and (pt_cmpR op_notN1 (pv 5) pe_non (nomark _)) (pw_and1 (pt_cmp (pc_dnotin hu (by exact (pv 5)) (by exact (pv 3)))))))
        (pss_cons (ps_dput hu (pv 3) (pv 5) (pe_callB c_len (by rfl) B.len (by decide +kernel) (pa_cons (pv 4) pa_nil)) rfl)
      (pss_one (ps_expr (pe_bm PySem.F.plainAttrs_list PySem.F.slot_list_append PySem.F.type_list_append mt_append (pv 4) (pa_cons (pmv 5) pa_nil))))) pss_nil)))
      (pss_cons (ps_set (i := 6) sc_meeting_numbers.nd rfl (.inl rfl) pe_int)
      (pss_cons (ps_while PassesOwn.never (pt_cmpR op_lt (pv 6) (pe_callB c_len (by rfl) B.len (by decide +kernel) (pa_cons (pv 4) pa_nil)) (nomark _))
        (pss_cons (ps_for PassesOwn.never rfl (pi_tup (pv 1)) (pg_name (i := 7) sc_meeting_numbers.nd rfl (.inl rfl))
        (pss_cons (ps_set (i := 8) sc_meeting_numbers.nd rfl (.inl rfl) (pe_dget hu (by exact (pe_ix ix_list (pv 0) (pe_ix ix_list (pv 4) (pv 6) (fun _ _ => rfl)) (fun _ _ => rfl))) (by exact (pv 7)) (fun _ _ => rfl)))
      (pss_one (ps_if (PW.pt (pw_and (pt_cmpR op_notN1 (pv 8) pe_non (nomark _)) (pw_and1 (pt_cmp (pc_dnotin hu (by exact (pv 8)) (by exact (pv 3)))))))
        (pss_cons (ps_dput hu (pv 3) (pv 8) (pe_callB c_len (by rfl) B.len (by decide +kernel) (pa_cons (pv 4) pa_nil)) rfl)
      (pss_one (ps_expr (pe_bm PySem.F.plainAttrs_list PySem.F.slot_list_append PySem.F.type_list_append mt_append (pv 4) (pa_cons (pmv 8) pa_nil))))) pss_nil))))
      (pss_one (ps_aug (i := 6) sc_meeting_numbers.nd rfl (.inl rfl) pe_int ip_add))))
      (pss_one (ps_ret (pmv 3)))))))) 3 6 (fun ts Q χ ⟨_, _, _, _, e, _⟩ => by rw [e]; rfl) rfl ?_
  apply Exists.intro
  constructor
  · walk_at "ref"
  rintro ts Q1 χ ⟨t3, fs, os, roots, rfl, hL, ok, ol, nd, hro, q⟩
  obtain ⟨t3', hrd, hrs, hk, hk', hv⟩ := hL.rd 2
  walk_at "d"
  intro a3
  walk_at "d"
  refine ⟨by decide, fun a4 => ?_⟩
  walk_at "d"
  refine d_var rfl hrd ?_
  refine ⟨t3, by exact hrs _ rfl, _, _, hk, allSh_map _, fun i ρ => ∃ u5 ord, ρ = [.sh (.lst (objsD fs os)), .sh (.tup (fs.map dS)), t3, .dK a3 (jK ord) (jV ord.length), .lst a4 (jL ord), u5, .no, .no, .no] ∧ ord = meets [] (roots.take i) ∧ OkOrd os.length ord, ⟨_, [], rfl, rfl, ⟨List.nodup_nil, by simp⟩⟩, fun i ρ ⟨u, _, e, _⟩ => by rw [e]; exact hrs _ rfl, ?_, ?_⟩
  · rintro i y ρ hy ⟨u, ord, rfl, eo, oko⟩
    obtain ⟨d, hd, rfl⟩ := get_map hy
    obtain ⟨o, ho, rfl⟩ := get_map hd
    obtain ⟨il, e3⟩ := List.getElem?_eq_some_iff.mp ho
    have et : meets [] (roots.take (i + 1)) = meet ord o := by
      rw [List.take_succ_eq_append_getElem il, e3, meets_snoc, eo]
    have ok2 := meet_ok oko (hro o (List.mem_of_getElem? ho))
    have el := oko.len
    cases o with
    | none =>
      walk_at "d"
      exact ⟨_, _, rfl, et.symm, ok2⟩
    | some m =>
      walk_at "d"
      refine d_dinv ⟨rfl, rfl⟩ rfl rfl ?_
      rw [jK_find]
      walk_at "d"
      refine d_iB (fun c => ?_) (fun c => ?_)
      · have c : m ∉ ord := by simpa using c
        have em : meet ord (some m) = ord ++ [m] := if_neg c
        rw [em] at ok2 et
        walk_at "d"
        rw [jL_len]
        refine d_dputv rfl rfl (by rw [jK_len]; omega) (.new (by exact fun z => c (jK_mem.mp z))) ?_
        walk_at "d"
        · show (jL ord).length < 10000
          rw [jL_len]; omega
        walk_at "d"
        refine ⟨.sh (oV (some m)), ord ++ [m], ?_, et.symm, ok2⟩
        rw [← jK_snoc, ← jL_snoc, List.length_append, List.length_singleton, ← jV_snoc]
        rfl
      · have c : m ∈ ord := by simpa using c
        have em : meet ord (some m) = ord := if_pos c
        rw [em] at ok2 et
        walk_at "d"
        exact ⟨_, _, rfl, et.symm, ok2⟩
  · rintro ρ ⟨u, ord, rfl, eo, oko⟩
    rw [List.length_map, List.length_map, List.take_length] at eo
    subst eo
    walk_at "d"
    have hrow : ∀ r ∈ os, ∀ v ∈ r, OkV os.length v := fun r h => (ok.row r h).2
    refine d_while (fun m ρ => ∃ (u1 u2 u3 : T) (ord : List Nat) (i : Nat), ρ = [.sh (.lst (objsD fs os)), .sh (.tup (fs.map dS)), t3, .dK a3 (jK ord) (jV ord.length), .lst a4 (jL ord), u1, .sh (.int (i : Nat)), u2, u3] ∧ m = os.length - i ∧ BfsInv os roots ord i) (os.length - 0) ⟨_, _, _, _, 0, rfl, rfl, bfs_start hro⟩ ?_
    rintro m ρ ⟨u1, u2, u3, ord, i, rfl, rfl, BI⟩
    walk_at "d"
    rw [jL_len]
    refine d_iB (fun c1 => ?_) (fun c1 => ?_)
    · have il : i < ord.length := by
        have : (i : Int) < ord.length := by simpa using c1
        omega
      have el := BI.ok.len
      have hk1 : ord[i]? = some ord[i] := List.getElem?_eq_getElem il
      have kl : ord[i] < os.length := BI.ok.lt _ (List.getElem_mem il)
      have BI2 := bfs_turn BI hk1 hrow
      have eg : os.getD ord[i] [] = os[ord[i]] := by rw [List.getD_eq_getElem?_getD, List.getElem?_eq_getElem kl]; rfl
      have oko := BI.ok
      rw [eg] at BI2
      generalize ord[i] = kk at hk1 kl BI2 eg
      have hrk := ok.row _ (List.getElem_mem kl)
      have hrw : os[kk]? = some os[kk] := List.getElem?_eq_getElem kl
      generalize os[kk] = row at hrk BI2 eg hrw
      walk_at "d"
      refine ⟨_, rfl, _, _, rfl, allSh_map _, fun j ρ => ∃ (u1 u2 u3 : T) (od : List Nat), ρ = [.sh (.lst (objsD fs os)), .sh (.tup (fs.map dS)), t3, .dK a3 (jK od) (jV od.length), .lst a4 (jL od), u1, .sh (.int (i : Nat)), u2, u3] ∧ od = meets ord (row.take j) ∧ OkOrd os.length od, ⟨_, _, _, _, rfl, rfl, oko⟩, fun _ _ _ => rfl, ?_, ?_⟩
      · rintro j y ρ hy ⟨u1, u2, u3, od, rfl, eo, oko4⟩
        obtain ⟨d, hd, rfl⟩ := get_map hy
        obtain ⟨z, hz, rfl⟩ := get_map hd
        have jl : j < row.length := by rw [hrk.1]; exact (List.getElem?_eq_some_iff.mp hz).1
        have ho : row[j]? = some row[j] := List.getElem?_eq_getElem jl
        have et : meets ord (row.take (j + 1)) = meet od row[j] := by rw [List.take_succ_eq_append_getElem jl, meets_snoc, eo]
        have hki : od[i]? = some kk := by
          obtain ⟨q, eq⟩ := meets_pre (vs := row.take j) (ord := ord)
          rw [eo, eq, List.getElem?_append_left il, hk1]
        have ok2 := meet_ok oko4 (hrk.2 _ (List.getElem_mem jl))
        have el4 := oko4.len
        generalize row[j] = o at ho et ok2
        walk_at "d"
        refine d_ixL ⟨rfl, rfl⟩ rfl (ixN_nat (j := i) (by rw [jL_len]; exact (List.getElem?_eq_some_iff.mp hki).1)) (map_get hki) rfl ?_
        refine d_ixL rfl rfl (ixN_nat (j := kk) (by simp [objsD]; exact kl)) (map_get (map_get hrw)) rfl ?_
        walk_at "d"
        obtain ⟨kf, kv⟩ := rowD_at nd hrk.1 hz ho
        refine d_dgetv rfl rfl rfl kf (by rw [List.map_map]; exact kv) rfl ?_
        cases o with
        | none =>
          walk_at "d"
          exact ⟨_, _, _, _, rfl, et.symm, ok2⟩
        | some m =>
          walk_at "d"
          refine d_dinv ⟨rfl, rfl⟩ rfl rfl ?_
          rw [jK_find]
          walk_at "d"
          refine d_iB (fun c => ?_) (fun c => ?_)
          · have c : m ∉ od := by simpa using c
            have em : meet od (some m) = od ++ [m] := if_neg c
            rw [em] at ok2 et
            walk_at "d"
            rw [jL_len]
            refine d_dputv rfl rfl (by rw [jK_len]; omega) (.new (by exact fun z => c (jK_mem.mp z))) ?_
            walk_at "d"
            · show (jL od).length < 10000
              rw [jL_len]; omega
            walk_at "d"
            refine ⟨u1, .sh (dS z), .sh (oV (some m)), od ++ [m], ?_, et.symm, ok2⟩
            rw [← jK_snoc, ← jL_snoc, List.length_append, List.length_singleton, ← jV_snoc]
            rfl
          · have c : m ∈ od := by simpa using c
            have em : meet od (some m) = od := if_pos c
            rw [em] at ok2 et
            walk_at "d"
            exact ⟨_, _, _, _, rfl, et.symm, ok2⟩
      · rintro ρ ⟨u1, u2, u3, od, rfl, eo, oko4⟩
        rw [List.length_map, List.length_map, ← hrk.1, List.take_length] at eo
        subst eo
        walk_at "d"
        exact ⟨os.length - (i + 1), by omega, _, _, _, _, i + 1, rfl, rfl, BI2⟩
    · have hle : ord.length ≤ i := by
        have : ¬ (i : Int) < ord.length := by simpa using c1
        omega
      walk_at "d"
      have ee := bfs_end BI hle
      have cl := bfs_closed BI hle
      rw [ee]
      exact q a3 cl

theorem mem_meets {vs : List (Option Nat)} : ∀ {ord : List Nat} {k : Nat}, k ∈ meets ord vs ↔ k ∈ ord ∨ some k ∈ vs := by
  induction vs with
  | nil => exact fun {ord k} => ⟨.inl, fun h => h.elim id fun z => by simp at z⟩
  | cons v r ih =>
    intro ord k
    show k ∈ meets (meet ord v) r ↔ _
    rw [ih]
    have e : k ∈ meet ord v ↔ k ∈ ord ∨ some k = v := by
      cases v with
      | none => exact ⟨.inl, fun h => h.elim id fun z => by cases z⟩
      | some j =>
        show k ∈ (if j ∈ ord then ord else ord ++ [j]) ↔ _
        split
        · rename_i h
          exact ⟨.inl, fun z => z.elim id fun z => by cases z; exact h⟩
        · rw [List.mem_append, List.mem_singleton]
          exact ⟨fun z => z.imp id (fun e => by rw [e]), fun z => z.imp id (fun e => by cases e; rfl)⟩
    rw [e, List.mem_cons, or_assoc]

/-! ### sorted lists of texts are told by their members -/
theorem sortedS_pw : ∀ {l : List Str}, sortedS l = true → l.Pairwise (fun a b => a.cps.toList ≤ b.cps.toList) := by
  have key : ∀ (l : List Str) (p : Str), risingS p l = true → (p :: l).Pairwise (fun a b => a.cps.toList ≤ b.cps.toList) := by
    intro l
    induction l with
    | nil => exact fun p _ => List.pairwise_cons.mpr ⟨by simp, List.Pairwise.nil⟩
    | cons x r ih =>
      intro p h
      have h : (!ltCps x.cps.toList p.cps.toList && risingS x r) = true := h
      rw [ltCps_eq, Bool.and_eq_true] at h
      have hpx : p.cps.toList ≤ x.cps.toList := by simpa using h.1
      have hr := ih x h.2
      refine List.pairwise_cons.mpr ⟨fun y hy => ?_, hr⟩
      rcases List.mem_cons.mp hy with e | e
      · rw [e]; exact hpx
      · exact List.le_trans hpx ((List.pairwise_cons.mp hr).1 y e)
  intro l h
  cases l with
  | nil => exact List.Pairwise.nil
  | cons p r => exact key r p h
theorem str_ext {a b : Str} (h : a.cps.toList = b.cps.toList) : a = b := by
  cases a
  cases b
  congr
  exact Array.toList_inj.mp h
theorem sortedS_unique : ∀ {l1 l2 : List Str}, sortedS l1 = true → sortedS l2 = true → l1.Perm l2 → l1 = l2 := by
  have key : ∀ {l1 l2 : List Str}, l1.Pairwise (fun a b => a.cps.toList ≤ b.cps.toList) → l2.Pairwise (fun a b => a.cps.toList ≤ b.cps.toList) → l1.Perm l2 → l1 = l2 := by
    intro l1
    induction l1 with
    | nil => exact fun _ _ hp => (List.nil_perm.mp hp).symm
    | cons a r ih =>
      intro l2 h1 h2 hp
      cases l2 with
      | nil => exact absurd (List.perm_nil.mp hp) (by simp)
      | cons b r2 =>
        obtain ⟨p1, q1⟩ := List.pairwise_cons.mp h1
        obtain ⟨p2, q2⟩ := List.pairwise_cons.mp h2
        have ab : a = b := by
          rcases List.mem_cons.mp (hp.mem_iff.mp List.mem_cons_self : a ∈ b :: r2) with e | e
          · exact e
          · rcases List.mem_cons.mp (hp.mem_iff.mpr List.mem_cons_self : b ∈ a :: r) with e2 | e2
            · exact e2.symm
            · exact str_ext (List.le_antisymm (p1 b e2) (p2 a e))
        subst ab
        rw [ih q1 q2 (List.perm_cons a |>.mp hp)]
  intro l1 l2 h1 h2 hp
  exact key (sortedS_pw h1) (sortedS_pw h2) hp
/-! ### the order of meeting under new numbers -/
theorem meet_map {ρ : Nat → Nat} {S : Nat → Prop} (inj : ∀ a b, S a → S b → ρ a = ρ b → a = b) {ord : List Nat} {o : Option Nat} (h1 : ∀ k ∈ ord, S k) (h2 : ∀ k, o = some k → S k) : meet (ord.map ρ) (o.map ρ) = (meet ord o).map ρ := by
  cases o with
  | none => rfl
  | some k =>
    show (if ρ k ∈ ord.map ρ then ord.map ρ else ord.map ρ ++ [ρ k]) = (if k ∈ ord then ord else ord ++ [k]).map ρ
    by_cases hk : k ∈ ord
    · rw [if_pos hk, if_pos (List.mem_map_of_mem hk)]
    · rw [if_neg hk, if_neg, List.map_append]
      · rfl
      · intro z
        obtain ⟨j, hj, e⟩ := List.mem_map.mp z
        rw [inj j k (h1 j hj) (h2 k rfl) e] at hj
        exact hk hj
theorem meets_map {ρ : Nat → Nat} {S : Nat → Prop} (inj : ∀ a b, S a → S b → ρ a = ρ b → a = b) : ∀ {vs : List (Option Nat)} {ord : List Nat}, (∀ k ∈ ord, S k) → (∀ k, some k ∈ vs → S k) → meets (ord.map ρ) (vs.map (Option.map ρ)) = (meets ord vs).map ρ
  | [], _, _, _ => rfl
  | v :: r, ord, h1, h2 => by
    show meets (meet (ord.map ρ) (v.map ρ)) (r.map (Option.map ρ)) = (meets (meet ord v) r).map ρ
    have hv : ∀ k, v = some k → S k := fun k e => h2 k (by rw [e]; exact List.mem_cons_self)
    rw [meet_map inj h1 hv]
    refine meets_map inj (fun k hk => ?_) fun k hk => h2 k (List.mem_cons_of_mem _ hk)
    rcases (mem_meets (vs := [v])).mp (show k ∈ meets ord [v] from hk) with z | z
    · exact h1 k z
    · exact h2 k (by rw [← List.mem_singleton.mp z]; exact List.mem_cons_self)

/-- the numbers of S: what the fields lead to stays in S, and os' has the same rows under the new numbers -/
structure Relab (os os' : List (List (Option Nat))) (ρ : Nat → Nat) (S : Nat → Prop) : Prop where
  inj : ∀ a b, S a → S b → ρ a = ρ b → a = b
  cl : ∀ k, S k → ∀ m, some m ∈ os.getD k [] → S m
  row : ∀ k, S k → os'.getD (ρ k) [] = (os.getD k []).map (Option.map ρ)
theorem bfs_map {os os' : List (List (Option Nat))} {ρ : Nat → Nat} {S : Nat → Prop} (R : Relab os os' ρ S) : ∀ (f : Nat) {ord : List Nat} {i : Nat}, (∀ k ∈ ord, S k) → bfs os' f (ord.map ρ) i = (bfs os f ord i).map ρ
  | 0, _, _, _ => rfl
  | f + 1, ord, i, h => by
    show (if i < (ord.map ρ).length then bfs os' f (meets (ord.map ρ) (os'.getD ((ord.map ρ).getD i 0) [])) (i + 1) else ord.map ρ) = (if i < ord.length then bfs os f (meets ord (os.getD (ord.getD i 0) [])) (i + 1) else ord).map ρ
    rw [List.length_map]
    by_cases hi : i < ord.length
    · rw [if_pos hi, if_pos hi]
      have e1 : (ord.map ρ).getD i 0 = ρ ord[i] := by rw [List.getD_eq_getElem?_getD, List.getElem?_map, List.getElem?_eq_getElem hi]; rfl
      have e2 : ord.getD i 0 = ord[i] := by rw [List.getD_eq_getElem?_getD, List.getElem?_eq_getElem hi]; rfl
      have hk := h ord[i] (List.getElem_mem hi)
      rw [e1, e2, R.row _ hk, meets_map R.inj h (R.cl _ hk)]
      refine bfs_map R f fun k hk2 => ?_
      rcases mem_meets.mp hk2 with z | z
      · exact h k z
      · exact R.cl _ hk k z
    · rw [if_neg hi, if_neg hi]
theorem bfs_ge {os : List (List (Option Nat))} : ∀ (f : Nat) {ord : List Nat} {i : Nat}, ∃ r, bfs os f ord i = ord ++ r
  | 0, ord, _ => ⟨[], (List.append_nil _).symm⟩
  | f + 1, ord, i => by
    show ∃ r, (if i < ord.length then bfs os f (meets ord (os.getD (ord.getD i 0) [])) (i + 1) else ord) = ord ++ r
    by_cases hi : i < ord.length
    · rw [if_pos hi]
      obtain ⟨a, ha⟩ := meets_pre (vs := os.getD (ord.getD i 0) []) (ord := ord)
      obtain ⟨b, hb⟩ := bfs_ge (os := os) f (ord := meets ord (os.getD (ord.getD i 0) [])) (i := i + 1)
      exact ⟨a ++ b, by rw [hb, ha, List.append_assoc]⟩
    · rw [if_neg hi]
      exact ⟨[], (List.append_nil _).symm⟩
theorem bfs_pre {os : List (List (Option Nat))} : ∀ (f g : Nat) {ord : List Nat} {i : Nat}, f ≤ g → ∃ r, bfs os g ord i = bfs os f ord i ++ r
  | 0, g, ord, i, _ => bfs_ge g
  | f + 1, 0, _, _, h => absurd h (by omega)
  | f + 1, g + 1, ord, i, h => by
    show ∃ r, (if i < ord.length then bfs os g (meets ord (os.getD (ord.getD i 0) [])) (i + 1) else ord) = (if i < ord.length then bfs os f (meets ord (os.getD (ord.getD i 0) [])) (i + 1) else ord) ++ r
    by_cases hi : i < ord.length
    · rw [if_pos hi, if_pos hi]
      exact bfs_pre f g (by omega)
    · rw [if_neg hi, if_neg hi]
      exact ⟨[], (List.append_nil _).symm⟩
/-- once the queue is worked off, more turns change nothing -/
theorem bfs_fuel {os : List (List (Option Nat))} : ∀ (f g : Nat) {ord : List Nat} {i : Nat}, (bfs os f ord i).length ≤ i + f → (bfs os g ord i).length ≤ i + g → bfs os f ord i = bfs os g ord i
  | 0, 0, _, _, _, _ => rfl
  | 0, g + 1, ord, i, h, _ => by
    have h : ord.length ≤ i + 0 := h
    show ord = (if i < ord.length then bfs os g (meets ord (os.getD (ord.getD i 0) [])) (i + 1) else ord)
    rw [if_neg (by omega)]
  | f + 1, 0, ord, i, _, h => by
    have h : ord.length ≤ i + 0 := h
    show (if i < ord.length then bfs os f (meets ord (os.getD (ord.getD i 0) [])) (i + 1) else ord) = ord
    rw [if_neg (by omega)]
  | f + 1, g + 1, ord, i, h1, h2 => by
    have e : ∀ f, bfs os (f + 1) ord i = (if i < ord.length then bfs os f (meets ord (os.getD (ord.getD i 0) [])) (i + 1) else ord) := fun _ => rfl
    rw [e] at h1 h2
    rw [e, e]
    by_cases hi : i < ord.length
    · rw [if_pos hi] at h1 h2
      rw [if_pos hi, if_pos hi]
      exact bfs_fuel f g (by omega) (by omega)
    · rw [if_neg hi, if_neg hi]
/-- the order under new numbers -/
theorem order_map {os os' : List (List (Option Nat))} {ρ : Nat → Nat} {S : Nat → Prop} {roots : List (Option Nat)} (R : Relab os os' ρ S) (hr : ∀ k, some k ∈ roots → S k) (hl : os'.length = (order os roots).length) (hn : (order os roots).length ≤ os.length) : order os' (roots.map (Option.map ρ)) = (order os roots).map ρ := by
  have e0 : meets [] (roots.map (Option.map ρ)) = (meets [] roots).map ρ := meets_map R.inj (ord := []) (by simp) hr
  have h0 : ∀ k ∈ meets [] roots, S k := fun k hk => by
    rcases mem_meets.mp hk with z | z
    · simp at z
    · exact hr k z
  show bfs os' os'.length (meets [] (roots.map (Option.map ρ))) 0 = (bfs os os.length (meets [] roots) 0).map ρ
  rw [e0, bfs_map R _ h0]
  congr 1
  have hp : ∃ r, bfs os os.length (meets [] roots) 0 = bfs os os'.length (meets [] roots) 0 ++ r := bfs_pre _ _ (by rw [hl]; exact hn)
  obtain ⟨r, er⟩ := hp
  refine bfs_fuel _ _ ?_ ?_
  · have := congrArg List.length er
    rw [List.length_append] at this
    have e : (order os roots).length = (bfs os os.length (meets [] roots) 0).length := rfl
    omega
  · show (order os roots).length ≤ 0 + os.length
    omega
/-! ### the normal form -/
def rho (ord : List Nat) (o : Option Nat) : Option Nat := o.map ord.idxOf
def nOs (os : List (List (Option Nat))) (ord : List Nat) : List (List (Option Nat)) := ord.map fun k => (os.getD k []).map (rho ord)
def nNs (ns : List (Str × Option Nat)) (ys : List Str) (ord : List Nat) : List (Str × Option Nat) := ys.map fun z => (z, rho ord (look ns z))
theorem nOs_get {os : List (List (Option Nat))} {ord : List Nat} {k : Nat} (hk : k ∈ ord) : (nOs os ord).getD (ord.idxOf k) [] = (os.getD k []).map (rho ord) := by
  have hl := List.idxOf_lt_length_of_mem hk
  unfold nOs
  rw [List.getD_eq_getElem?_getD, List.getElem?_map, List.getElem?_eq_getElem hl, List.getElem_idxOf hl]
  rfl
theorem idx_inj {ord : List Nat} {a b : Nat} (ha : a ∈ ord) (hb : b ∈ ord) (h : ord.idxOf a = ord.idxOf b) : a = b := by
  have la := List.idxOf_lt_length_of_mem ha
  have lb := List.idxOf_lt_length_of_mem hb
  have e1 : ord[ord.idxOf a] = a := List.getElem_idxOf la
  have e2 : ord[ord.idxOf b] = b := List.getElem_idxOf lb
  have e3 : ord[ord.idxOf a] = ord[ord.idxOf b] := by congr 1
  rw [← e1, e3, e2]
theorem idx_range {ord : List Nat} (nd : ord.Nodup) : ord.map ord.idxOf = List.range ord.length := by
  refine List.ext_getElem (by simp) fun i h1 h2 => ?_
  rw [List.length_map] at h1
  rw [List.getElem_map, List.getElem_range, List.Nodup.idxOf_getElem nd]
theorem relab {os : List (List (Option Nat))} {roots : List (Option Nat)} {ord : List Nat} (c : Closed os roots ord) : Relab os (nOs os ord) ord.idxOf (fun k => k ∈ ord) :=
  ⟨fun a b ha hb h => idx_inj ha hb h, fun k hk m hm => c.cl k hk m hm, fun k hk => nOs_get hk⟩
theorem order_normal {os : List (List (Option Nat))} {roots : List (Option Nat)} (c : Closed os roots (order os roots)) : order (nOs os (order os roots)) (roots.map (rho (order os roots))) = List.range (order os roots).length := by
  have h := order_map (relab c) c.rt (by unfold nOs; rw [List.length_map]) c.ok.len
  rw [idx_range c.ok.nd] at h
  exact h
theorem order_closed {os : List (List (Option Nat))} {roots : List (Option Nat)} (hr : ∀ o ∈ roots, OkV os.length o) (ho : ∀ r ∈ os, ∀ v ∈ r, OkV os.length v) : Closed os roots (order os roots) := by
  have key : ∀ (n i : Nat) (ord : List Nat), os.length - i = n → BfsInv os roots ord i → Closed os roots (order os roots) := by
    intro n
    induction n with
    | zero =>
      intro i ord hn B
      have := B.ok.len
      exact bfs_closed B (by omega)
    | succ n ih =>
      intro i ord hn B
      by_cases h : ord.length ≤ i
      · exact bfs_closed B h
      · have hi : i < ord.length := by omega
        exact ih (i + 1) _ (by omega) (bfs_turn B (List.getElem?_eq_getElem hi) ho)
  exact key _ 0 _ rfl (bfs_start hr)
theorem rho_range {m : Nat} {o : Option Nat} (h : OkV m o) : rho (List.range m) o = o := by
  cases o with
  | none => rfl
  | some k =>
    have hk := h k rfl
    show some ((List.range m).idxOf k) = some k
    congr 1
    have e := List.Nodup.idxOf_getElem (List.nodup_range (n := m)) k (by rw [List.length_range]; exact hk)
    rw [List.getElem_range] at e
    exact e
theorem rho_ok {os : List (List (Option Nat))} {roots : List (Option Nat)} {ord : List Nat} (c : Closed os roots ord) {o : Option Nat} (h : ∀ k, o = some k → k ∈ ord) : OkV ord.length (rho ord o) := by
  intro k e
  cases o with
  | none => cases e
  | some j =>
    have e : some (ord.idxOf j) = some k := e
    cases e
    exact List.idxOf_lt_length_of_mem (h j rfl)
theorem map_id_of {α : Type} {f : α → α} : ∀ {l : List α}, (∀ x ∈ l, f x = x) → l.map f = l
  | [], _ => rfl
  | a :: r, h => by rw [List.map_cons, h a List.mem_cons_self, map_id_of fun x hx => h x (List.mem_cons_of_mem _ hx)]
section
variable {os : List (List (Option Nat))} {roots : List (Option Nat)}
theorem nOs_ok (c : Closed os roots (order os roots)) {fs : List Str} (hrow : ∀ r ∈ os, r.length = fs.length) : OkO fs (nOs os (order os roots)).length (nOs os (order os roots)) := by
  refine ⟨rfl, fun r hr => ?_⟩
  unfold nOs at hr
  obtain ⟨k, hk, rfl⟩ := List.mem_map.mp hr
  have kl := c.ok.lt k hk
  have e : os.getD k [] = os[k] := by rw [List.getD_eq_getElem?_getD, List.getElem?_eq_getElem kl]; rfl
  refine ⟨by rw [List.length_map, e]; exact hrow _ (List.getElem_mem kl), fun v hv => ?_⟩
  obtain ⟨o, ho, rfl⟩ := List.mem_map.mp hv
  have : (nOs os (order os roots)).length = (order os roots).length := by unfold nOs; rw [List.length_map]
  rw [this]
  exact rho_ok c fun j e => c.cl k hk j (by rw [← e]; exact ho)
theorem nOs_self {N : List (List (Option Nat))} (h : ∀ r ∈ N, ∀ v ∈ r, OkV N.length v) : nOs N (List.range N.length) = N := by
  unfold nOs
  refine List.ext_getElem (by simp) fun i h1 h2 => ?_
  rw [List.getElem_map, List.getElem_range, List.getD_eq_getElem?_getD, List.getElem?_eq_getElem h2]
  exact map_id_of fun v hv => rho_range (h _ (List.getElem_mem h2) v hv)
theorem nOs_len : (nOs os (order os roots)).length = (order os roots).length := by unfold nOs; rw [List.length_map]
theorem nOs_twice (c : Closed os roots (order os roots)) {fs : List Str} (hrow : ∀ r ∈ os, r.length = fs.length) : nOs (nOs os (order os roots)) (List.range (order os roots).length) = nOs os (order os roots) := by
  have h := nOs_self (N := nOs os (order os roots)) fun r hr v hv => ((nOs_ok c hrow).row r hr).2 v hv
  rw [nOs_len] at h
  exact h
end
section
variable {fs ys : List Str} {os : List (List (Option Nat))} {ns : List (Str × Option Nat)}
abbrev ordH (os : List (List (Option Nat))) (ns : List (Str × Option Nat)) (ys : List Str) : List Nat := order os (ys.map (look ns))
theorem closedH (ok : OkH fs os ns) : Closed os (ys.map (look ns)) (ordH os ns ys) :=
  order_closed (fun o ho => by
    obtain ⟨z, _, rfl⟩ := List.mem_map.mp ho
    exact look_ok fun x hx => (ok.nw x hx).2) fun r h => (ok.ob.row r h).2
theorem nNs_keys {ord : List Nat} : (nNs ns ys ord).map Prod.fst = ys := by
  unfold nNs
  rw [List.map_map]
  exact map_id_of fun _ _ => rfl
theorem nNs_look {ord : List Nat} {z : Str} (nd : ys.Nodup) (hz : z ∈ ys) : look (nNs ns ys ord) z = rho ord (look ns z) :=
  look_mem (by rw [nNs_keys]; exact nd) (by unfold nNs; exact List.mem_map.mpr ⟨z, hz, rfl⟩)
theorem okH_normal (ok : OkH fs os ns) (pe : ys.Perm (ns.map Prod.fst)) : OkH fs (nOs os (ordH os ns ys)) (nNs ns ys (ordH os ns ys)) := by
  have c := closedH (ys := ys) ok
  have hl : (nOs os (ordH os ns ys)).length = (ordH os ns ys).length := nOs_len
  refine { fw := ok.fw, fn := ok.fn, f1 := ok.f1, f2 := ok.f2, ob := nOs_ok c fun r h => (ok.ob.row r h).1, ol := ?_, nn := by rw [nNs_keys]; exact pe.nodup_iff.mpr ok.nn, nl := ?_, nw := fun x hx => ?_ }
  · have := c.ok.len
    have := ok.ol
    rw [hl]
    exact Nat.le_trans c.ok.len ok.ol
  · have e := pe.length_eq
    rw [List.length_map] at e
    unfold nNs
    rw [List.length_map, e]
    exact ok.nl
  · unfold nNs at hx
    obtain ⟨z, hz, rfl⟩ := List.mem_map.mp hx
    obtain ⟨y, hy, e⟩ := List.mem_map.mp (pe.mem_iff.mp hz)
    refine ⟨by rw [← e]; exact (ok.nw y hy).1, ?_⟩
    rw [hl]
    exact rho_ok c fun k ek => c.rt k (List.mem_map.mpr ⟨z, hz, ek⟩)
theorem roots_normal (ok : OkH fs os ns) (pe : ys.Perm (ns.map Prod.fst)) : ys.map (look (nNs ns ys (ordH os ns ys))) = (ys.map (look ns)).map (rho (ordH os ns ys)) := by
  rw [List.map_map]
  exact List.map_congr_left fun z hz => nNs_look (pe.nodup_iff.mpr ok.nn) hz
theorem ordH_normal (ok : OkH fs os ns) (pe : ys.Perm (ns.map Prod.fst)) : ordH (nOs os (ordH os ns ys)) (nNs ns ys (ordH os ns ys)) ys = List.range (ordH os ns ys).length := by
  show order _ (ys.map (look (nNs ns ys (ordH os ns ys)))) = _
  rw [roots_normal ok pe]
  exact order_normal (closedH ok)
theorem nOs_again (ok : OkH fs os ns) (pe : ys.Perm (ns.map Prod.fst)) : nOs (nOs os (ordH os ns ys)) (ordH (nOs os (ordH os ns ys)) (nNs ns ys (ordH os ns ys)) ys) = nOs os (ordH os ns ys) := by
  rw [ordH_normal ok pe]
  exact nOs_twice (closedH ok) fun r h => (ok.ob.row r h).1
theorem nNs_again (ok : OkH fs os ns) (pe : ys.Perm (ns.map Prod.fst)) : nNs (nNs ns ys (ordH os ns ys)) ys (ordH (nOs os (ordH os ns ys)) (nNs ns ys (ordH os ns ys)) ys) = nNs ns ys (ordH os ns ys) := by
  rw [ordH_normal ok pe]
  unfold nNs
  refine List.map_congr_left fun z hz => ?_
  have e := nNs_look (ns := ns) (ord := ordH os ns ys) (pe.nodup_iff.mpr ok.nn) hz
  unfold nNs at e
  rw [e, rho_range]
  exact rho_ok (closedH (ys := ys) ok) fun k ek => (closedH (ys := ys) ok).rt k (List.mem_map.mpr ⟨z, hz, ek⟩)
/-- the shape, told by the normal form -/
theorem shape_nf : shapeD fs ys ns os = .tuple [.tuple (fs.map .str), .tuple (ys.map fun z => .tuple [.str z, dov (rho (ordH os ns ys) (look ns z))]), .tuple ((nOs os (ordH os ns ys)).map fun r => .tuple (r.map dov))] := by
  unfold shapeD nOs
  rw [List.map_map]
  congr 4
  · simp only [Function.comp_def, List.map_map]
    rfl
theorem shape_same (ok : OkH fs os ns) (pe : ys.Perm (ns.map Prod.fst)) : shapeD fs ys (nNs ns ys (ordH os ns ys)) (nOs os (ordH os ns ys)) = shapeD fs ys ns os := by
  rw [shape_nf, shape_nf, nOs_again ok pe]
  congr 4
  refine List.map_congr_left fun z hz => ?_
  rw [nNs_look (pe.nodup_iff.mpr ok.nn) hz, ordH_normal ok pe, rho_range]
  exact rho_ok (closedH (ys := ys) ok) fun k ek => (closedH (ys := ys) ok).rt k (List.mem_map.mpr ⟨z, hz, ek⟩)
end
/-! ### data that == can be asked of, and that is equal to itself -/
structure Gd (n : Nat) (d : PyData) : Prop where
  lay : PyData.canLay0 d = true
  dep : PyData.depth d ≤ n
  slf : PyData.eqv d d = true
theorem Gd.all {n : Nat} : ∀ {xs : List PyData}, (∀ x ∈ xs, Gd n x) → PyData.canLayAll0 xs = true ∧ PyData.depthAll xs ≤ n ∧ PyData.eqvAll xs xs = true
  | [], _ => by simp [PyData.canLayAll0, PyData.depthAll, PyData.eqvAll]
  | x :: r, h => by
    obtain ⟨a, b, c⟩ := Gd.all fun y hy => h y (List.mem_cons_of_mem _ hy)
    have hx := h x List.mem_cons_self
    refine ⟨by simp [PyData.canLayAll0, hx.lay, a], ?_, by simp [PyData.eqvAll, hx.slf, c]⟩
    simp only [PyData.depthAll]
    exact Nat.max_le.mpr ⟨hx.dep, b⟩
theorem Gd.tup {n : Nat} {xs : List PyData} (h : ∀ x ∈ xs, Gd n x) : Gd (n + 1) (.tuple xs) := by
  obtain ⟨a, b, c⟩ := Gd.all h
  exact ⟨by simp [PyData.canLay0, a], by simp only [PyData.depth]; omega, by simp [PyData.eqv, c]⟩
theorem Gd.lst {n : Nat} {xs : List PyData} (h : ∀ x ∈ xs, Gd n x) : Gd (n + 1) (.list xs) := by
  obtain ⟨a, b, c⟩ := Gd.all h
  exact ⟨by simp [PyData.canLay0, a], by simp only [PyData.depth]; omega, by simp [PyData.eqv, c]⟩
theorem Gd.up {n m : Nat} {d : PyData} (h : Gd n d) (hm : n ≤ m) : Gd m d := ⟨h.lay, Nat.le_trans h.dep hm, h.slf⟩
theorem Gd.str {z : Str} (h : IsW z) : Gd 0 (.str z) := ⟨by simp [PyData.canLay0, strOk_w h], by simp [PyData.depth], by simp [PyData.eqv]⟩
theorem Gd.dov (o : Option Nat) : Gd 0 (dov o) := by
  cases o with
  | none => exact ⟨by simp [G.dov, PyData.canLay0], by simp [G.dov, PyData.depth], by simp [G.dov, PyData.eqv]⟩
  | some k => exact ⟨by simp [G.dov, PyData.canLay0], by simp [G.dov, PyData.depth], by simp [G.dov, PyData.eqv]⟩
theorem Gd.shaped {n : Nat} {d : PyData} (h : Gd n d) (hn : n ≤ 64) : SeqAt.shaped d = true := by
  unfold SeqAt.shaped
  rw [h.lay, decide_eq_true (Nat.le_trans h.dep hn)]
  rfl
theorem gd_shape {fs ys : List Str} {os : List (List (Option Nat))} {ns : List (Str × Option Nat)} (hf : ∀ z ∈ fs, IsW z) (hy : ∀ z ∈ ys, IsW z) : Gd 3 (shapeD fs ys ns os) := by
  rw [shape_nf]
  refine .tup fun x hx => ?_
  have hx2 : x = .tuple (fs.map .str) ∨ x = .tuple (ys.map fun z => .tuple [.str z, G.dov (rho (ordH os ns ys) (look ns z))]) ∨ x = .tuple ((nOs os (ordH os ns ys)).map fun r => .tuple (r.map G.dov)) := by simpa only [List.mem_cons, List.not_mem_nil, or_false] using hx
  rcases hx2 with rfl | rfl | rfl
  · refine (Gd.tup (n := 0) fun y hy => ?_).up (by decide)
    obtain ⟨z, hz, rfl⟩ := List.mem_map.mp hy
    exact .str (hf z hz)
  · refine .tup fun y hy' => ?_
    obtain ⟨z, hz, rfl⟩ := List.mem_map.mp hy'
    refine .tup fun u hu => ?_
    have hu2 : u = .str z ∨ u = G.dov (rho (ordH os ns ys) (look ns z)) := by simpa only [List.mem_cons, List.not_mem_nil, or_false] using hu
    rcases hu2 with rfl | rfl
    · exact .str (hy z hz)
    · exact .dov _
  · refine .tup fun y hy' => ?_
    obtain ⟨r, hr, rfl⟩ := List.mem_map.mp hy'
    refine .tup fun u hu => ?_
    obtain ⟨o, ho, rfl⟩ := List.mem_map.mp hu
    exact .dov _

/-! renumbering and the shape, by data -/
def jD (n : Nat) : List D := (List.range n).map fun (j : Nat) => .int (j : Nat)
theorem jV_pub (n : Nat) : pubL (jV n) = some (jD n) := by
  have e : jV n = (jD n).map T.sh := by unfold jV jD; rw [List.map_map]; rfl
  rw [e, pubL_sh]
theorem jK_at {ord : List Nat} (nd : ord.Nodup) {k : Nat} (h : k ∈ ord) : kfind (jK ord) (Sum.inl (k : Int)) = some (ord.idxOf k) ∧ ((jD ord.length).map T.sh)[ord.idxOf k]? = some (.sh (.int (ord.idxOf k : Nat))) := by
  have hl := List.idxOf_lt_length_of_mem h
  refine ⟨kfind_of (List.Pairwise.map _ (fun a b h h2 => h (by have := Sum.inl.inj h2; omega)) nd) (map_get ?_), ?_⟩
  · rw [List.getElem?_eq_getElem hl, List.getElem_idxOf]
  · unfold jD
    rw [List.map_map]
    exact map_get (f := T.sh ∘ fun (j : Nat) => D.int (j : Nat)) (List.getElem?_range hl)
def sRenum : SpecD := fun ts Q _ => ∃ (o : Option Nat) (ord : List Nat), ts = [.sh (oV o), .sh (.dK (jK ord) (jD ord.length))] ∧ ord.Nodup ∧ (∀ k, o = some k → k ∈ ord) ∧ Q (.sh (oV (rho ord o))) [.no, .no]
theorem ok_renumbered {f : Addr} {fd : FuncData} (F : Fun K "renumbered" "renumbered" s_renumbered f fd) (B : Blt mg) : FnOk P w K mg base CX0 1 f fd ["value", "numbers"] (spD false sRenum) := by
  refine F.ok sc_renumbered (lenD fun ts Q χ ⟨_, _, e, _⟩ => by rw [e]; rfl) (fun cdv A outer s H vs Q E hr h => ?_)
  have hu := hu_of hr
  refine bodyD [] h (pss_cons (ps_if (pt_cmpR op_isN1 (pv 0) pe_non (nomark _))
        (pss_one (ps_ret pe_non)) pss_nil)
      (pss_one (ps_ret (pe_dget hu (by exact (pv 1)) (by exact (pv 0)) (fun _ _ => rfl))))) 2 0 (fun ts Q χ ⟨_, _, e, _⟩ => by rw [e]; rfl) rfl ?_
  apply Exists.intro
  constructor
  · walk_at "ref"
  rintro ts Q1 χ ⟨o, ord, rfl, nd, ho, q⟩
  cases o with
  | none =>
    walk_at "d"
    exact q
  | some k =>
    walk_at "d"
    obtain ⟨h1, h2⟩ := jK_at nd (ho k rfl)
    refine d_dgetv rfl rfl rfl h1 h2 rfl ?_
    walk_at "d"
    exact q
theorem nm_at {ns : List (Str × Option Nat)} (nd : (ns.map Prod.fst).Nodup) {z : Str} (h : z ∈ ns.map Prod.fst) : ∃ j, kfind (ns.map fun x => (Sum.inr x.1 : Key)) (Sum.inr z) = some j ∧ ((ns.map fun x => oV x.2).map T.sh)[j]? = some (.sh (oV (look ns z))) := by
  obtain ⟨x, hx, rfl⟩ := List.mem_map.mp h
  obtain ⟨j, hj⟩ := List.mem_iff_getElem?.mp hx
  refine ⟨j, kfind_of ?_ (map_get hj), ?_⟩
  · have : (ns.map fun x => (Sum.inr x.1 : Key)) = (ns.map Prod.fst).map Sum.inr := by rw [List.map_map]; rfl
    rw [this]
    exact List.Pairwise.map Sum.inr (fun _ _ h h2 => h (Sum.inr.inj h2)) nd
  · rw [look_mem nd (o := x.2) hx]
    exact map_get (map_get hj)
theorem strs_sh (ys : List Str) : (ys.map fun z => T.sh (.str z)) = (ys.map dS).map T.sh := by rw [List.map_map]; rfl
def hX (fs : List Str) (os : List (List (Option Nat))) (ns : List (Str × Option Nat)) : List D := [.tup (fs.map dS), .lst (objsD fs os), nmD ns]
def hN3 : List Str := ["fields", "held", "holders"]
def shD (fs ys : List Str) (ns : List (Str × Option Nat)) (os : List (List (Option Nat))) : D := .tup [.tup (fs.map dS), .tup (ys.map fun z => .tup [dS z, oV (rho (ordH os ns ys) (look ns z))]), .tup ((nOs os (ordH os ns ys)).map fun r => .tup (r.map oV))]
def sShape (C : Addr) : SpecD := fun ts Q _ => ∃ (a : Addr) (fs : List Str) (os : List (List (Option Nat))) (ns : List (Str × Option Nat)), ts = [.obj a C ["fields", "held", "holders"] [.sh (.tup (fs.map dS)), .sh (.lst (objsD fs os)), .sh (nmD ns)]] ∧ OkH fs os ns ∧ ∀ ys : List Str, ys.Perm (ns.map Prod.fst) → sortedS ys = true → Q (.sh (shD fs ys ns os)) ts
theorem ok_Heap_reckoned_shape {f C : Addr} {fd : FuncData} (F : Fun K "reckoned_shape" "Heap.reckoned_shape" s_Heap_reckoned_shape f fd) (B : Blt mg) (T : HCls K C) (C_meeting_numbers : Cal P w K mg base CX0 1 "meeting_numbers" (spD false sMeeting)) (C_renumbered : Cal P w K mg base CX0 1 "renumbered" (spD false sRenum)) : FnOk P w K mg base CX0 2 f fd ["self"] (spD true (sShape C)) := by
  refine F.ok sc_Heap_reckoned_shape (lenD fun ts Q χ ⟨_, _, _, _, e, _⟩ => by rw [e]; rfl) (fun cdv A outer s H vs Q E hr h => ?_)
  have hu := hu_of hr
  refine bodyD [0] h (pss_cons (ps_set (i := 1) sc_Heap_reckoned_shape.nd rfl (.inl rfl) (pe_callB cr_sortedS (by rfl) B.sorted (by decide +kernel) (pa_cons (pe_callTy (c_listK rfl) (by rfl) B.list (by decide +kernel) (pa_cons (pe_fld (pv 0) rfl) pa_nil)) pa_nil)))
      (pss_cons (ps_set (i := 2) sc_Heap_reckoned_shape.nd rfl (.inr rfl) (pe_c C_meeting_numbers hr (by decide) (by rfl) (pa_cons (pe_fld (pv 0) rfl) (pa_cons (pe_fld (pv 0) rfl) (pa_cons (pe_lc (te := (tDGet (tFld K (tVar 0) _) (tVar 7))) (own := [("name", 7)]) (g := gName 7) (tt := tYes) rfl sc_Heap_reckoned_shape.nd (pi_list (pv 1)) (blkOk_by (own := [("name", 7)]) (N := ["self", "ordered", "numbers", "names", "objects", "number", "item", "name", "field"]) (sc := defScope s_Heap_reckoned_shape) (by decide +kernel)) (fun _ _ _ _ _ => by exact (pg_name (i := 7) sc_Heap_reckoned_shape.nd rfl (by first | exact Or.inl rfl | exact Or.inr rfl))) (fun _ _ _ _ _ => by exact pts_nil) (fun _ _ _ _ _ => by exact (pe_dget hu (by exact (pe_fld (pv 0) rfl)) (by exact (pv 7)) (fun _ _ => rfl)))) pa_nil)))))
      (pss_cons (ps_set (i := 3) sc_Heap_reckoned_shape.nd rfl (.inl rfl) (pe_callTy c_tuple (by rfl) B.tuple (by decide +kernel) (pa_cons (pe_lc (te := (tTup (tCons (tVar 7) (tCons (tCl _ _ (tCons (tDGet (tFld K (tVar 0) _) (tVar 7)) (tCons (tVar 2) tNil))) tNil)))) (own := [("name", 7)]) (g := gName 7) (tt := tYes) rfl sc_Heap_reckoned_shape.nd (pi_list (pv 1)) (blkOk_by (own := [("name", 7)]) (N := ["self", "ordered", "numbers", "names", "objects", "number", "item", "name", "field"]) (sc := defScope s_Heap_reckoned_shape) (by decide +kernel)) (fun _ _ _ _ _ => by exact (pg_name (i := 7) sc_Heap_reckoned_shape.nd rfl (by first | exact Or.inl rfl | exact Or.inr rfl))) (fun _ _ _ _ _ => by exact pts_nil) (fun _ _ _ _ _ => by exact (pe_tup (pa_cons (pv 7) (pa_cons (pe_c C_renumbered hr (by decide) (by rfl) (pa_cons (pe_dget hu (by exact (pe_fld (pv 0) rfl)) (by exact (pv 7)) (fun _ _ => rfl)) (pa_cons (pv 2) pa_nil))) pa_nil))))) pa_nil)))
      (pss_cons (ps_set (i := 4) sc_Heap_reckoned_shape.nd rfl (.inl rfl) (pe_lst pa_nil))
      (pss_cons (ps_lockN (ps_for PassesOwn.never rfl (pi_keys (pv 2)) (pg_name (i := 5) sc_Heap_reckoned_shape.nd rfl (.inl rfl))
        (pss_cons (ps_set (i := 6) sc_Heap_reckoned_shape.nd rfl (.inr rfl) (pe_ix ix_list (pe_fld (pv 0) rfl) (pv 5) (fun _ _ => rfl)))
      (pss_one (ps_expr (pe_bm PySem.F.plainAttrs_list PySem.F.slot_list_append PySem.F.type_list_append mt_append (pv 4) (pa_cons (pe_callTy c_tuple (by rfl) B.tuple (by decide +kernel) (pa_cons (pe_lc (te := (tCl _ _ (tCons (tDGet (tVar 6) (tVar 8)) (tCons (tVar 2) tNil)))) (own := [("field", 8)]) (g := gName 8) (tt := tYes) rfl sc_Heap_reckoned_shape.nd (pi_tup (pe_fld (pv 0) rfl)) (blkOk_by (own := [("field", 8)]) (N := ["self", "ordered", "numbers", "names", "objects", "number", "item", "name", "field"]) (sc := defScope s_Heap_reckoned_shape) (by decide +kernel)) (fun _ _ _ _ _ => by exact (pg_name (i := 8) sc_Heap_reckoned_shape.nd rfl (by first | exact Or.inl rfl | exact Or.inr rfl))) (fun _ _ _ _ _ => by exact pts_nil) (fun _ _ _ _ _ => by exact (pe_c C_renumbered hr (by decide) (by rfl) (pa_cons (pe_dget hu (by exact (pv 6)) (by exact (pv 8)) (fun _ _ => rfl)) (pa_cons (pv 2) pa_nil))))) pa_nil)) pa_nil)))))))
      (pss_one (ps_ret (pe_tup (pa_cons (pe_fld (pv 0) rfl) (pa_cons (pv 3) (pa_cons (pe_callTy c_tuple (by rfl) B.tuple (by decide +kernel) (pa_cons (pv 4) pa_nil)) pa_nil))))))))))) 1 8 (fun ts Q χ ⟨_, _, _, _, e, _⟩ => by rw [e]; rfl) rfl ?_
  apply Exists.intro
  constructor
  · walk_at "ref"
  rintro ts Q1 χ ⟨a, fs, os, ns, rfl, ok, q⟩
  have nl := ok.nl
  have ol := ok.ol
  walk_at "d"
  refine d_fldv (n := 2) ⟨rfl, rfl⟩ rfl ⟨T.cl, T.n3⟩ (by decide +kernel) rfl rfl ?_
  walk_at "d"
  refine d_listK rfl rfl fun a0 => ?_
  walk_at "d"
  have ekk : ((ns.map fun x => (Sum.inr x.1 : Key)).map fun k => _root_.E.T.sh (kD k)) = (ns.map Prod.fst).map fun z => _root_.E.T.sh (.str z) := by
    rw [List.map_map, List.map_map]
    rfl
  refine d_sortS (zs := ns.map Prod.fst) rfl (by rw [← ekk]; rfl) (by rw [List.length_map]; omega) fun ys a1 hp hs => ?_
  have q := q ys hp hs
  have ylen : ys.length = ns.length := by rw [hp.length_eq, List.length_map]
  walk_at "d"
  refine d_fldv (n := 1) ⟨rfl, rfl⟩ rfl ⟨T.cl, T.n2⟩ (by decide +kernel) rfl rfl ?_
  walk_at "d"
  refine d_fldv (n := 0) ⟨rfl, rfl⟩ rfl ⟨T.cl, T.n1⟩ (by decide +kernel) rfl rfl ?_
  walk_at "d"
  rw [strs_sh]
  have hmem : ∀ z ∈ ys, z ∈ ns.map Prod.fst := fun z hz => hp.mem_iff.mp hz
  refine ⟨_, ⟨rfl, rfl⟩, _, _, rfl, allSh_map _, fun i ρ acc => ρ = [(.obj a C ["fields", "held", "holders"] [.sh (.tup (fs.map dS)), .sh (.lst (objsD fs os)), .sh (nmD ns)]), .lst a1 ((ys.map dS).map _root_.E.T.sh), .no, .no, .no, .no, .no, .no, .no] ∧ acc = (((ys.take i).map (look ns)).map oV).map _root_.E.T.sh, ⟨rfl, rfl⟩, fun i ρ acc ⟨e, ea⟩ => ⟨by rw [e]; exact ⟨rfl, rfl⟩, by rw [ea]; simp only [List.length_map, List.length_take]; omega⟩, ?_, ?_⟩
  · rintro i y ρ acc hy ⟨rfl, rfl⟩
    obtain ⟨d, hd, rfl⟩ := get_map hy
    obtain ⟨z, hz, rfl⟩ := get_map hd
    obtain ⟨il, e3⟩ := List.getElem?_eq_some_iff.mp hz
    obtain ⟨j, hj1, hj2⟩ := nm_at ok.nn (hmem z (List.mem_of_getElem? hz))
    walk_at "d"
    refine d_fldv (n := 2) ⟨rfl, rfl⟩ rfl ⟨T.cl, T.n3⟩ (by decide +kernel) rfl rfl ?_
    walk_at "d"
    refine d_dgetv rfl rfl rfl hj1 hj2 rfl ?_
    refine ⟨_, .inl rfl, rfl, ?_⟩
    rw [List.take_succ_eq_append_getElem il, e3]
    simp only [List.map_append]
    rfl
  rintro ρ acc ⟨rfl, rfl⟩ a2
  rw [List.length_map, List.length_map, List.take_length]
  walk_at "d"
  walk_at "cw"
  refine ⟨_, fs, os, ys.map (look ns), rfl, .inr ⟨_, rfl⟩, ok.ob, ol, ok.fn, fun o ho => ?_, fun a5 cl => ?_⟩
  · obtain ⟨z, _, rfl⟩ := List.mem_map.mp ho
    exact look_ok fun x hx => (ok.nw x hx).2
  walk_at "bk"
  have cl : Closed os (ys.map (look ns)) (ordH os ns ys) := cl
  have q : Q1 (.sh (.tup [.tup (fs.map dS), .tup (ys.map fun z => .tup [dS z, oV (rho (ordH os ns ys) (look ns z))]), .tup ((ordH os ns ys).map fun k => .tup (((os.getD k []).map (rho (ordH os ns ys))).map oV))])) [(.obj a C ["fields", "held", "holders"] [.sh (.tup (fs.map dS)), .sh (.lst (objsD fs os)), .sh (nmD ns)])] := by
    have e : shD fs ys ns os = .tup [.tup (fs.map dS), .tup (ys.map fun z => .tup [dS z, oV (rho (ordH os ns ys) (look ns z))]), .tup ((ordH os ns ys).map fun k => .tup (((os.getD k []).map (rho (ordH os ns ys))).map oV))] := by
      unfold shD nOs
      rw [List.map_map]
      rfl
    rw [← e]
    exact q
  have ond := cl.ok.nd
  have olen := cl.ok.len
  refine d_name (of_decide_eq_true rfl) ?_
  refine d_p1 2 (d := .dK (jK (ordH os ns ys)) (jD (ordH os ns ys).length)) rfl (by unfold _root_.E.T.pub; rw [jV_pub]; rfl) (d_p0 ?_)
  generalize ordH os ns ys = ord at q cl ond olen ⊢
  refine d_st (ρ' := [(.obj a C ["fields", "held", "holders"] [.sh (.tup (fs.map dS)), .sh (.lst (objsD fs os)), .sh (nmD ns)]), .lst a1 ((ys.map dS).map _root_.E.T.sh), .sh (.dK (jK ord) (jD ord.length)), .no, .no, .no, .no, .no, .no]) rfl ?_
  walk_at "d"
  refine ⟨_, ⟨rfl, rfl⟩, _, _, rfl, allSh_map _, fun i ρ acc => ρ = [(.obj a C ["fields", "held", "holders"] [.sh (.tup (fs.map dS)), .sh (.lst (objsD fs os)), .sh (nmD ns)]), .lst a1 ((ys.map dS).map _root_.E.T.sh), .sh (.dK (jK ord) (jD ord.length)), .no, .no, .no, .no, .no, .no] ∧ acc = ((ys.take i).map fun z => D.tup [dS z, oV (rho ord (look ns z))]).map _root_.E.T.sh, ⟨rfl, rfl⟩, fun i ρ acc ⟨e, ea⟩ => ⟨by rw [e]; exact ⟨rfl, rfl⟩, by rw [ea]; simp only [List.length_map, List.length_take]; omega⟩, ?_, ?_⟩
  · rintro i y ρ acc hy ⟨rfl, rfl⟩
    obtain ⟨d, hd, rfl⟩ := get_map hy
    obtain ⟨z, hz, rfl⟩ := get_map hd
    obtain ⟨il, e3⟩ := List.getElem?_eq_some_iff.mp hz
    obtain ⟨j, hj1, hj2⟩ := nm_at ok.nn (hmem z (List.mem_of_getElem? hz))
    walk_at "d"
    refine d_fldv (n := 2) ⟨rfl, rfl⟩ rfl ⟨T.cl, T.n3⟩ (by decide +kernel) rfl rfl ?_
    walk_at "d"
    refine d_dgetv rfl rfl rfl hj1 hj2 rfl ?_
    walk_at "d"
    walk_at "cw"
    refine ⟨look ns z, ord, rfl, ond, fun k ek => cl.rt k (List.mem_map.mpr ⟨z, List.mem_of_getElem? hz, ek⟩), ?_⟩
    walk_at "bk"
    walk_at "d"
    refine ⟨of_decide_eq_true rfl, _, .inl rfl, rfl, ?_⟩
    rw [List.take_succ_eq_append_getElem il, e3]
    simp only [List.map_append]
    rfl
  rintro ρ acc ⟨rfl, rfl⟩ a6
  rw [List.length_map, List.length_map, List.take_length]
  walk_at "d"
  refine d_tuple rfl rfl (allSh_map _) ?_
  walk_at "d"
  refine ⟨by decide, fun a7 => ?_⟩
  refine d_name (of_decide_eq_true rfl) ?_
  refine d_p0 ?_
  refine d_st (ρ' := [(.obj a C ["fields", "held", "holders"] [.sh (.tup (fs.map dS)), .sh (.lst (objsD fs os)), .sh (nmD ns)]), .lst a1 ((ys.map dS).map _root_.E.T.sh), .sh (.dK (jK ord) (jD ord.length)), .sh (.tup (ys.map fun z => D.tup [dS z, oV (rho ord (look ns z))])), .lst a7 [], .no, .no, .no, .no]) rfl ?_
  walk_at "d"
  refine d_forK rfl (fun i ρ => ∃ u5 u6 ds, ρ = [(.obj a C ["fields", "held", "holders"] [.sh (.tup (fs.map dS)), .sh (.lst (objsD fs os)), .sh (nmD ns)]), .lst a1 ((ys.map dS).map _root_.E.T.sh), .sh (.dK (jK ord) (jD ord.length)), .sh (.tup (ys.map fun z => D.tup [dS z, oV (rho ord (look ns z))])), .lst a7 (ds.map _root_.E.T.sh), u5, u6, .no, .no] ∧ ds = (ord.take i).map fun k => D.tup (((os.getD k []).map (rho ord)).map oV)) ⟨_, _, [], rfl, rfl⟩ ?_ ?_
  · rintro i ky ρ hky ⟨u5, u6, ds, rfl, eds⟩
    obtain ⟨k, hk, rfl⟩ := get_map hky
    obtain ⟨il, e3⟩ := List.getElem?_eq_some_iff.mp hk
    have kl : k < os.length := cl.ok.lt k (List.mem_of_getElem? hk)
    have kcl := cl.cl k (List.mem_of_getElem? hk)
    have hrw : os[k]? = some os[k] := List.getElem?_eq_getElem kl
    have eg : os.getD k [] = os[k] := by rw [List.getD_eq_getElem?_getD, hrw]; rfl
    have hrk := ok.ob.row _ (List.getElem_mem kl)
    have eds2 : (ord.take (i + 1)).map (fun k => D.tup (((os.getD k []).map (rho ord)).map oV)) = ds ++ [D.tup (((os[k]).map (rho ord)).map oV)] := by
      rw [List.take_succ_eq_append_getElem il, e3, List.map_append, ← eds, ← eg]
      rfl
    rw [eg] at kcl
    have dl : ds.length = i := by rw [eds, List.length_map, List.length_take]; omega
    generalize os[k] = row at hrw eg hrk eds2 kcl
    walk_at "d"
    refine d_fldv (n := 1) ⟨rfl, rfl⟩ rfl ⟨T.cl, T.n2⟩ (by decide +kernel) rfl rfl ?_
    walk_at "d"
    refine d_ixL rfl rfl (ixN_nat (j := k) (by simp [objsD]; exact kl)) (map_get (map_get hrw)) rfl ?_
    walk_at "d"
    refine d_fldv (n := 0) ⟨rfl, rfl⟩ rfl ⟨T.cl, T.n1⟩ (by decide +kernel) rfl rfl ?_
    have flen := ok.f2
    refine ⟨_, rfl, _, _, rfl, allSh_map _, fun j ρ acc => ρ = [(.obj a C ["fields", "held", "holders"] [.sh (.tup (fs.map dS)), .sh (.lst (objsD fs os)), .sh (nmD ns)]), .lst a1 ((ys.map dS).map _root_.E.T.sh), .sh (.dK (jK ord) (jD ord.length)), .sh (.tup (ys.map fun z => D.tup [dS z, oV (rho ord (look ns z))])), .lst a7 (ds.map _root_.E.T.sh), .sh (.int (k : Nat)), .sh (rowD fs row), .no, .no] ∧ acc = (((row.take j).map (rho ord)).map oV).map _root_.E.T.sh, ⟨rfl, rfl⟩, fun j ρ acc ⟨e, ea⟩ => ⟨rfl, by rw [ea]; simp only [List.length_map, List.length_take, hrk.1]; omega⟩, ?_, ?_⟩
    · rintro j y ρ acc hy ⟨rfl, rfl⟩
      obtain ⟨d, hd, rfl⟩ := get_map hy
      obtain ⟨z, hz, rfl⟩ := get_map hd
      have jl : j < row.length := by rw [hrk.1]; exact (List.getElem?_eq_some_iff.mp hz).1
      have ho : row[j]? = some row[j] := List.getElem?_eq_getElem jl
      have hom : row[j] ∈ row := List.getElem_mem jl
      have et : row.take (j + 1) = row.take j ++ [row[j]] := List.take_succ_eq_append_getElem jl
      generalize row[j] = o at ho et hom
      obtain ⟨kf, kv⟩ := rowD_at ok.fn hrk.1 hz ho
      walk_at "d"
      refine d_dgetv rfl rfl rfl kf (by rw [List.map_map]; exact kv) rfl ?_
      walk_at "d"
      walk_at "cw"
      refine ⟨o, ord, rfl, ond, fun m em => kcl m (em ▸ hom), ?_⟩
      walk_at "bk"
      refine ⟨_, .inl rfl, rfl, ?_⟩
      rw [et]
      simp only [List.map_append]
      rfl
    rintro ρ acc ⟨rfl, rfl⟩ a8
    rw [List.length_map, List.length_map, ← hrk.1, List.take_length]
    walk_at "d"
    refine d_tuple rfl rfl (allSh_map _) ?_
    walk_at "d"
    · rw [List.length_map]; omega
    walk_at "d"
    refine ⟨.sh (.int (k : Nat)), .sh (rowD fs row), ds ++ [D.tup ((row.map (rho ord)).map oV)], ?_, eds2.symm⟩
    rw [List.map_append]
    rfl
  · rintro ρ ⟨u5, u6, ds, rfl, eds⟩
    rw [jK_len, List.take_length] at eds
    walk_at "d"
    refine d_fldv (n := 0) ⟨rfl, rfl⟩ rfl ⟨T.cl, T.n1⟩ (by decide +kernel) rfl rfl ?_
    walk_at "d"
    refine d_tuple ⟨rfl, rfl⟩ rfl (allSh_map _) ?_
    walk_at "d"
    refine ⟨of_decide_eq_true rfl, ?_⟩
    subst eds
    exact q

/-! Heap(..), by data -/
theorem passX0 {X : L2.Cx} : Passes (L2.CX P w) X E0 := fun _ _ _ _ _ _ _ ⟨_, _, _, _, _, _, _, _, _, _, _, _, h⟩ => h.elim
def WordsF (fs : List Str) : Prop := 1 ≤ fs.length ∧ fs.length ≤ 2 ∧ (∀ z ∈ fs, IsW z) ∧ fs.Nodup
theorem wordsF {fs : List Str} : ((1 : Int) ≤ (fs.map dS).length ∧ ((fs.map dS).length : Int) ≤ 2 ∧ WordsD (fs.map dS)) ↔ WordsF fs := by
  have inj : ∀ zs : List Str, fs.map dS = zs.map dS → fs = zs := fun zs h => by
    have h2 := congrArg (List.map fun d : D => match d with | .str z => z | _ => "") h
    rw [List.map_map, List.map_map] at h2
    have e : ∀ l : List Str, l.map ((fun d : D => match d with | .str z => z | _ => "") ∘ dS) = l := fun l => List.map_id l
    rw [e, e] at h2
    exact h2
  rw [List.length_map]
  refine ⟨fun ⟨h1, h2, zs, e, hw, hn⟩ => ?_, fun ⟨h1, h2, h3, h4⟩ => ⟨by omega, by omega, fs, rfl, h3, h4⟩⟩
  have := inj zs e
  subst this
  exact ⟨by omega, by omega, hw, hn⟩
theorem atB_of {ns : List (Str × D)} (nd : (ns.map fun x => x.1).Nodup) {x : Str × D} (h : x ∈ ns) (n : Int) : atB n (Z.nmK ns) (nmV ns) x.1 = D.valB n x.2 := by
  obtain ⟨j, hj⟩ := List.mem_iff_getElem?.mp h
  have e : Z.nmK ns = (ns.map fun x => x.1).map Sum.inr := by unfold Z.nmK; rw [List.map_map]; rfl
  have hk : kfind (Z.nmK ns) (.inr x.1) = some j := kfind_of (by rw [e]; exact List.Pairwise.map Sum.inr (fun _ _ h h2 => h (Sum.inr.inj h2)) nd) (by unfold Z.nmK; exact map_get hj)
  have hv : (nmV ns)[j]? = some x.2 := by unfold nmV; exact map_get hj
  unfold atB
  rw [hk]
  simp only [hv]
/-- what the first check that does not hold tells -/
inductive InitBad (fs : List Str) (ds : List D) (ns : List (Str × D)) : Str → D → Prop
  | fields : ¬ WordsF fs → InitBad fs ds ns "fields" .non
  | objects {p : Str} {w : D} : WordsF fs → chkO fs ds = some (p, w) → InitBad fs ds ns p w
  | names : WordsF fs → chkO fs ds = none → nmB ns = false → InitBad fs ds ns "names" .non
  | name {ys : List Str} {z : Str} : WordsF fs → chkO fs ds = none → nmB ns = true → ys.Perm (ns.map fun x => x.1) → sortedS ys = true → (ys.find? fun z => !atB ds.length (Z.nmK ns) (nmV ns) z) = some z → InitBad fs ds ns "name" (.str z)
def InitOk (fs : List Str) (ds : List D) (ns : List (Str × D)) : Prop := WordsF fs ∧ chkO fs ds = none ∧ nmB ns = true ∧ ∀ x ∈ ns, D.valB ds.length x.2 = true
def hpT (a C : Addr) (fs : List Str) (os : List (List (Option Nat))) (ns : List (Str × Option Nat)) (ys : List Str) : T := .obj a C ["fields", "held", "holders", "shape"] [.sh (.tup (fs.map dS)), .sh (.lst (objsD fs os)), .sh (nmD ns), .sh (shD fs ys ns os)]
def sInit (C CI : Addr) : SpecD := fun ts Q χ => ∃ (a : Addr) (t1 t2 t3 : T) (fs : List Str) (ds : List D) (ns : List (Str × D)), ts = [.obj a C [] [], t1, t2, t3] ∧ LT t1 (fs.map dS) ∧ (∀ z ∈ fs, D.short (dS z)) ∧ fs.length ≤ 1000 ∧ LD t2 ds ∧ (∀ d ∈ ds, D.fine d) ∧ (t3 = .sh (.dK (Z.nmK ns) (nmV ns)) ∨ ∃ b, t3 = .dK b (Z.nmK ns) ((nmV ns).map T.sh)) ∧ (ns.map fun x => x.1).Nodup ∧ (∀ x ∈ ns, D.ok x.2 ∧ D.short (dS x.1)) ∧
  (∀ p w t3', InitBad fs ds ns p w → (t3' = t3 ∨ t3' = .sh (.dK (Z.nmK ns) (nmV ns))) → χ CI ["where", "part"] [w, .str p] [.obj a C [] [], t1, t2, t3']) ∧
  (InitOk fs ds ns → ∃ os no, ds = objsD fs os ∧ ns = no.map (fun x => (x.1, oV x.2)) ∧ OkH fs os no ∧ ∀ ys : List Str, ys.Perm (no.map Prod.fst) → sortedS ys = true → Q (.sh .non) [hpT a C fs os no ys, t1, t2, .sh (.dK (Z.nmK ns) (nmV ns))])
theorem ok_Heap_init {f C CI : Addr} {fd : FuncData} (F : Fun K "__init__" "Heap.__init__" s_Heap_init f fd) (B : Blt mg) (Y : HCls K C) (T : TH' P w K mg base CI) (C_is_word_list : Cal P w K mg base CX0 2 "is_word_list" (spD false sIsWL)) (C_check_objects : Cal P w K mg base (L2.CX P w) 4 "check_objects" (spD false (sChkO CI))) (C_check_names : Cal P w K mg base (L2.CX P w) 4 "check_names" (spD true (sChkN CI)))
    (M_Heap_reckoned_shape : Met P w K mg base CX0 2 C "reckoned_shape" (spD true (sShape C))) : FnOk P w K mg base (L2.CX P w) 5 f fd ["self", "fields", "objects", "names"] (spD true (sInit C CI)) := by
  refine F.okX sc_Heap_init (lenD fun ts Q χ ⟨_, _, _, _, _, _, _, e, _⟩ => by rw [e]; rfl) (fun cdv A outer s H vs Q E hr h => ?_)
  have hu := hu_of hr
  refine bodyX [0, 1, 2, 3] h (pss_cons (ps_if (pt_not (pt_val (pe_c C_is_word_list hr (by decide) (by rfl) (pa_cons (pv 1) (pa_cons pe_int (pa_cons pe_int pa_nil))))))
        (pss_one (ps_rx rfl (takes_of rfl rfl rfl rfl) (pmk_x T.x_InvalidHeap hr (by decide) (by rfl) (pa_cons pe_str (pa_cons pe_non pa_nil))))) pss_nil)
      (pss_cons (ps_expr (pe_cx C_check_objects hr (by decide) (passes_call (takes_of rfl rfl rfl rfl) (fun _ _ _ _ h => h)) (by rfl) (pa_cons (pv 2) (pa_cons (pv 1) pa_nil))))
      (pss_cons (ps_expr (pe_cx C_check_names hr (by decide) (passes_call (takes_of rfl rfl rfl rfl) (fun _ _ _ _ h => h)) (by rfl) (pa_cons (pv 3) (pa_cons (pe_callB c_len (by rfl) B.len (by decide +kernel) (pa_cons (pv 2) pa_nil)) pa_nil))))
      (pss_cons (ps_fld (pv 0) (pe_callTy c_tuple (by rfl) B.tuple (by decide +kernel) (pa_cons (pv 1) pa_nil)) rfl)
      (pss_cons (ps_fld (pv 0) (pe_lc (te := (tCB rDictQ (tCons (tVar 4) tNil))) (own := [("item", 4)]) (g := gName 4) (tt := tYes) rfl sc_Heap_init.nd (pi_list (pv 2)) (blkOk_by (own := [("item", 4)]) (N := ["self", "fields", "objects", "names", "item"]) (sc := defScope s_Heap_init) (by decide +kernel)) (fun _ _ _ _ _ => by exact (pg_name (i := 4) sc_Heap_init.nd rfl (by first | exact Or.inl rfl | exact Or.inr rfl))) (fun _ _ _ _ _ => by exact pts_nil) (fun _ _ _ _ _ => by exact (pe_callTy c_dict (by rfl) B.dict (by decide +kernel) (pa_cons (pv 4) pa_nil)))) rfl)
      (pss_cons (ps_fld (pv 0) (pe_callTy c_dict (by rfl) B.dict (by decide +kernel) (pa_cons (pv 3) pa_nil)) rfl)
      (pss_one (ps_fld (pv 0) (pe_mx0 M_Heap_reckoned_shape hr (by decide) pass0 (pv 0)) rfl)))))))) 4 1 (fun ts Q χ ⟨_, _, _, _, _, _, _, e, _⟩ => by rw [e]; rfl) rfl ?_
  apply Exists.intro
  constructor
  · walk_at "ref"
  rintro ts Q1 χ ⟨a, t1, t2, t3, fs, ds, ns, rfl, hT, hsh, hf1, hL, hfine, h3, nd, hok, bad, good⟩
  obtain ⟨t1', hrd1, hrs1, hk1, hlt1, _⟩ := hT.rd 1
  obtain ⟨t2', hrd2, hrs2, hk2, hk2', hv2⟩ := hL.rd 2
  obtain ⟨l1, le1, ba1⟩ := lendS hrd1
  obtain ⟨l2, le2, ba2⟩ := lendS hrd2
  have hpub : t3.pub = some (.dK (Z.nmK ns) (nmV ns)) := by
    rcases h3 with rfl | ⟨b, rfl⟩
    · rfl
    · unfold _root_.E.T.pub; rw [pubL_sh]; rfl
  walk_at "d"
  refine d_var rfl hrd1 ?_
  walk_at "d"
  refine d_cw (le1 _ _ _ _ _ rfl (.keep (.keep (.nil _)))) ?_
  refine ⟨t1, fs.map dS, 1, 2, rfl, hT, fun d hd => ?_, by rw [List.length_map]; exact hf1, fun b hb => ?_⟩
  · obtain ⟨z, hz, rfl⟩ := List.mem_map.mp hd
    exact ⟨⟨_, rfl⟩, hsh z hz⟩
  rw [wordsF] at hb
  refine d_back (ba1 _ _ _ _ rfl (.skip (.skip (.nil _)))) ?_
  walk_at "d"
  refine d_iB (fun c1 => ?_) (fun c1 => ?_)
  · have c1 : ¬ WordsF fs := fun z => by rw [hb.mpr z] at c1; cases c1
    walk_at "d"
    refine ⟨[.str "fields", .non], rfl, rfl, of_decide_eq_true rfl, ?_⟩
    exact bad _ _ t3 (.fields c1) (.inl rfl)
  have hW : WordsF fs := hb.mp (by cases b <;> first | rfl | cases c1)
  walk_at "d"
  refine d_var rfl hrd2 ?_
  walk_at "d"
  refine d_var rfl hrd1 ?_
  walk_at "d"
  refine d_cw (le2 _ _ _ _ _ rfl (le1 _ _ _ _ _ rfl (.nil _))) ?_
  refine ⟨t2, t1, ds, fs, rfl, hL, hT, hfine, ?_⟩
  cases hco : chkO fs ds with
  | some pw =>
    obtain ⟨p, w'⟩ := pw
    refine d_back (ba2 _ _ _ _ rfl (ba1 _ _ _ _ rfl (.nil _))) ?_
    exact bad _ _ t3 (.objects hW hco) (.inl rfl)
  | none =>
  refine d_back (ba2 _ _ _ _ rfl (ba1 _ _ _ _ rfl (.nil _))) ?_
  refine d_p1 3 (t := t3) rfl hpub (d_p0 ?_)
  refine d_st (ρ' := [.obj a C [] [], t1, t2, .sh (.dK (Z.nmK ns) (nmV ns)), .no]) rfl ?_
  walk_at "d"
  refine d_var rfl hrd2 ?_
  walk_at "d"
  refine d_ln (by exact hrs2 _ rfl) hk2' ?_
  rw [List.length_map]
  walk_at "d"
  walk_at "cw"
  refine ⟨ns, ds.length, rfl, nd, hok, fun hb => ?_, fun hb ys hp hs => ?_⟩
  · walk_at "bk"
    exact bad _ _ _ (.names hW hco hb) (.inr rfl)
  cases hf : (ys.find? fun z => !atB ds.length (Z.nmK ns) (nmV ns) z) with
  | some z =>
    walk_at "bk"
    exact bad _ _ _ (.name hW hco hb hp hs hf) (.inr rfl)
  | none =>
  obtain ⟨os, no, eds, ens, ok, q⟩ := good ⟨hW, hco, hb, fun x hx => by
    have h1 := List.find?_eq_none.mp hf x.1 (hp.mem_iff.mpr (List.mem_map.mpr ⟨x, hx, rfl⟩))
    rw [atB_of nd hx] at h1
    simpa using h1⟩
  have enm : D.dK (Z.nmK ns) (nmV ns) = nmD no := by
    rw [ens]
    unfold Z.nmK nmV nmD
    rw [List.map_map, List.map_map]
    rfl
  have ol := ok.ol
  rw [enm] at q ⊢
  walk_at "bk"
  walk_at "d"
  refine d_var rfl hrd1 ?_
  walk_at "d"
  refine d_tuple (by exact hrs1 _ rfl) hk1 (allSh_map _) ?_
  refine ⟨_, .inl rfl, ?_⟩
  walk_at "d"
  refine d_sfldv rfl ⟨Y.cl, Y.n1⟩ (by decide) (.new (by decide)) ?_
  walk_at "d"
  refine d_var rfl hrd2 ?_
  have dl : ds.length = os.length := by rw [eds]; exact List.length_map ..
  refine ⟨t2, by exact hrs2 _ rfl, _, _, hk2, allSh_map _, fun i ρ acc => ρ = [.obj a C ["fields"] [.sh (.tup (fs.map dS))], t1, t2, .sh (nmD no), .no] ∧ acc = (ds.take i).map _root_.E.T.sh, ⟨rfl, rfl⟩, fun i ρ acc ⟨e, ea⟩ => ⟨by rw [e]; exact hrs2 _ rfl, by rw [ea]; simp only [List.length_map, List.length_take]; omega⟩, ?_, ?_⟩
  · rintro i y ρ acc hy ⟨rfl, rfl⟩
    obtain ⟨d, hd, rfl⟩ := get_map hy
    obtain ⟨il, e3⟩ := List.getElem?_eq_some_iff.mp hd
    have hd' := hd
    rw [eds] at hd'
    obtain ⟨row, hrow, rfl⟩ := get_map hd'
    walk_at "d"
    refine d_dict rfl rfl (allSh_map _) fun b => ?_
    walk_at "d"
    refine ⟨_, .inr ⟨rowD fs row, ?_, rfl⟩, rfl, ?_⟩
    · unfold _root_.E.T.pub
      rw [pubL_sh]
      rfl
    · rw [List.take_succ_eq_append_getElem il, e3, List.map_append]
      rfl
  rintro ρ acc ⟨rfl, rfl⟩ a9
  rw [List.length_map, List.take_length]
  refine ⟨_, .inr ⟨.lst ds, by unfold _root_.E.T.pub; rw [pubL_sh]; rfl, rfl⟩, ?_⟩
  walk_at "d"
  refine d_sfldv rfl ⟨Y.cl, Y.n2⟩ (by decide) (.new (by decide)) ?_
  walk_at "d"
  refine d_dict rfl rfl (allSh_map _) fun b => ?_
  walk_at "d"
  refine ⟨_, .inr ⟨nmD no, by unfold _root_.E.T.pub; rw [pubL_sh]; rfl, rfl⟩, ?_⟩
  walk_at "d"
  refine d_sfldv rfl ⟨Y.cl, Y.n3⟩ (by decide) (.new (by decide)) ?_
  refine d_p0 ?_
  refine d_st (ρ' := [.obj a C ["fields", "held", "holders"] [.sh (.tup (fs.map dS)), .sh (.lst ds), .sh (nmD no)], t1, t2, .sh (nmD no), .no]) rfl ?_
  walk_at "d"
  refine d_recv ⟨rfl, rfl⟩ rfl (by decide +kernel) ?_
  walk_at "d"
  walk_at "cw"
  refine ⟨a, fs, os, no, by rw [eds], ok, fun ys' hp' hs' => ?_⟩
  walk_at "bk"
  refine ⟨_, .inl rfl, ?_⟩
  walk_at "d"
  refine d_sfldv rfl ⟨Y.cl, Y.n4⟩ (by decide) (.new (by decide +kernel)) ?_
  have q := q ys' hp' hs'
  rw [hpT, ← eds] at q
  exact q

/-! what a heap answers, by data -/
theorem valB_ok {n : Nat} {o : Option Nat} (h : OkV n o) : D.valB (n : Int) (oV o) = true := by
  cases o with
  | none => rfl
  | some k =>
    have hk := h k rfl
    show (decide ((0 : Int) ≤ (k : Nat)) && decide (((k : Nat) : Int) < (n : Nat))) = true
    rw [decide_eq_true (by omega), decide_eq_true (by omega)]
    rfl
theorem objB_ok {fs : List Str} {n : Nat} {row : List (Option Nat)} (nd : fs.Nodup) (hl : row.length = fs.length) (hv : ∀ v ∈ row, OkV n v) : D.objB fs (n : Int) (rowD fs row) = true := by
  show (decide ((fs.map (Sum.inr : Str → Key)).length = fs.length) && fs.all (atB (n : Int) (fs.map Sum.inr) (row.map oV))) = true
  rw [decide_eq_true (List.length_map ..), Bool.true_and, List.all_eq_true]
  intro z hz
  obtain ⟨j, hj⟩ := List.mem_iff_getElem?.mp hz
  have jl : j < row.length := by rw [hl]; exact (List.getElem?_eq_some_iff.mp hj).1
  have h1 : kfind (fs.map (Sum.inr : Str → Key)) (.inr z) = some j := kfind_of (List.Pairwise.map Sum.inr (fun _ _ h h2 => h (Sum.inr.inj h2)) nd) (map_get hj)
  have h2 : (row.map oV)[j]? = some (oV row[j]) := map_get (List.getElem?_eq_getElem jl)
  unfold atB
  rw [h1]
  simp only [h2]
  exact valB_ok (hv _ (List.getElem_mem jl))
def noD (no : List (Str × Option Nat)) : List (Str × D) := no.map fun x => (x.1, oV x.2)
theorem okH_W {fs : List Str} {os : List (List (Option Nat))} {no : List (Str × Option Nat)} (ok : OkH fs os no) : WordsF fs := ⟨ok.f1, ok.f2, ok.fw, ok.fn⟩
theorem okH_O {fs : List Str} {os : List (List (Option Nat))} {no : List (Str × Option Nat)} (ok : OkH fs os no) : chkO fs (objsD fs os) = none := by
  have hl : (objsD fs os).length = os.length := List.length_map ..
  have ol := ok.ol
  unfold chkO
  rw [if_neg (by rw [hl]; omega)]
  have e : ((objsD fs os).findIdx? fun d => !D.objB fs (objsD fs os).length d) = none := by
    rw [List.findIdx?_eq_none_iff]
    intro d hd
    obtain ⟨row, hr, rfl⟩ := List.mem_map.mp hd
    obtain ⟨h1, h2⟩ := ok.ob.row row hr
    rw [hl, objB_ok ok.fn h1 h2]
    rfl
  rw [e]
  rfl
theorem okH_N {fs : List Str} {os : List (List (Option Nat))} {no : List (Str × Option Nat)} (ok : OkH fs os no) : nmB (noD no) = true := by
  unfold nmB noD
  rw [List.length_map, decide_eq_true ok.nl, Bool.true_and, List.all_eq_true]
  intro x hx
  obtain ⟨y, hy, rfl⟩ := List.mem_map.mp hx
  exact decide_eq_true (ok.nw y hy).1
theorem noD_keys {no : List (Str × Option Nat)} : (noD no).map (fun x => x.1) = no.map Prod.fst := by unfold noD; rw [List.map_map]; rfl
theorem okH_bad {fs : List Str} {os : List (List (Option Nat))} {no : List (Str × Option Nat)} {p : Str} {w : D} (ok : OkH fs os no) (h : InitBad fs (objsD fs os) (noD no) p w) : False := by
  cases h with
  | fields h => exact h (okH_W ok)
  | objects _ h => rw [okH_O ok] at h; cases h
  | names _ _ h => rw [okH_N ok] at h; cases h
  | @name ys z _ _ _ hp _ h =>
    have hz := List.mem_of_find?_eq_some h
    obtain ⟨x, hx, rfl⟩ := List.mem_map.mp (hp.mem_iff.mp hz)
    have h1 := List.find?_some h
    have nd : ((noD no).map fun x => x.1).Nodup := by rw [noD_keys]; exact ok.nn
    rw [atB_of nd hx] at h1
    obtain ⟨y, hy, rfl⟩ := List.mem_map.mp hx
    have h2 := valB_ok (ok.nw y hy).2
    have hl : (objsD fs os).length = os.length := List.length_map ..
    rw [hl] at h1
    rw [h2] at h1
    cases h1
theorem fine_row (fs : List Str) {row : List (Option Nat)} (hl : row.length = fs.length) : D.fine (rowD fs row) := by
  refine ⟨⟨_, rfl⟩, fun ks xs e => ?_⟩
  cases e
  refine ⟨by simp [hl], fun x hx => ?_⟩
  obtain ⟨o, _, rfl⟩ := List.mem_map.mp hx
  cases o <;> exact ⟨_, rfl⟩
theorem short_w {z : Str} (h : IsW z) : D.short (dS z) := by
  have := h.2.1
  show z.length ≤ 100000
  omega
def nrmO (os : List (List (Option Nat))) (ns : List (Str × Option Nat)) (ys : List Str) := nOs os (ordH os ns ys)
def nrmN (os : List (List (Option Nat))) (ns : List (Str × Option Nat)) (ys : List Str) := nNs ns ys (ordH os ns ys)
/-- a heap, ours or given away -/
def HpT (C : Addr) (t : T) (fs : List Str) (os : List (List (Option Nat))) (ns : List (Str × Option Nat)) (ys : List Str) : Prop := (∃ a, t = hpT a C fs os ns ys) ∨ t = .sh (.obj C ["fields", "held", "holders", "shape"] [.tup (fs.map dS), .lst (objsD fs os), nmD ns, shD fs ys ns os])
theorem rdk_sh {t0 : T} {d : D} {k : Nat} : t0.rdk (.sh d) k = some (.sh d) := by unfold T.rdk; split <;> rfl
theorem HpT.rd {C : Addr} {t : T} {fs : List Str} {os : List (List (Option Nat))} {ns : List (Str × Option Nat)} {ys : List Str} (h : HpT C t fs os ns ys) (i : Nat) : ∃ t', t.rd i [] = some t' ∧ (∀ ρ : E.Env, ρ[i]? = some t → Rs ρ t' t) ∧ t.objK = some (C, (["fields", "held", "holders", "shape"] : List Str), [T.sh (.tup (fs.map dS)), .sh (.lst (objsD fs os)), .sh (nmD ns), .sh (shD fs ys ns os)]) ∧ t.cls = some (C, (["fields", "held", "holders", "shape"] : List Str)) := by
  rcases h with ⟨a, rfl⟩ | rfl
  · exact ⟨_, rfl, fun ρ h => ⟨by unfold gt; rw [h]; rfl, rfl⟩, rfl, rfl⟩
  · exact ⟨_, rfl, fun ρ h => rfl, rfl, rfl⟩
def sNormal (C CI : Addr) : SpecD := fun ts Q _ => ∃ (t : T) (fs : List Str) (os : List (List (Option Nat))) (ns : List (Str × Option Nat)) (ys : List Str), ts = [t] ∧ HpT C t fs os ns ys ∧ OkH fs os ns ∧ ys.Perm (ns.map Prod.fst) ∧ sortedS ys = true ∧ ∀ a, Q (hpT a C fs (nrmO os ns ys) (nrmN os ns ys) ys) [t]
abbrev osc_normal : Scope := { kind := .function, names := [(".0", .local), ("row", .cell), ("enumerate", .globalImplicit), ("fields", .cell)], isGenerator := false, isCoroutine := false }
theorem ok_Heap_normal {f C CI : Addr} {fd : FuncData} (F : Fun K "normal" "Heap.normal" s_Heap_normal f fd) (B : Blt mg) (Y : HCls K C) (K_Heap : Mak P w K mg base (L2.CX P w) 5 "Heap" C (spD true (sInit C CI))) : FnOk P w K mg base CX0 7 f fd ["self"] (spD true (sNormal C CI)) := by
  refine F.ok sc_Heap_normal (lenD fun ts Q χ ⟨_, _, _, _, _, e, _⟩ => by rw [e]; rfl) (fun cdv A outer s H vs Q E hr h => ?_)
  have hu := hu_of hr
  refine bodyD [0] h (pss_cons (ps_asg (pe_fld (pv 0) rfl) (pg_tup rfl (pgs_cons (pg_name (i := 1) sc_Heap_normal.nd rfl (.inr rfl)) (pgs_cons (pg_name (i := 2) sc_Heap_normal.nd rfl (.inl rfl)) (pgs_cons (pg_name (i := 3) sc_Heap_normal.nd rfl (.inl rfl)) pgs_nil)))))
      (pss_cons (ps_setLc (te := (tDc (iEnumT K (tCons (tVar 1) tNil)) (gTup K 2 (gCons (gName 6) (gCons (gName 7) gNil))) tYes (tVar 7) (tOp (rIxT K) (tVar 5) (tVar 6)) ([(("k" : Str), 6), (("field" : Str), 7)].map (·.2)))) (i := 4) (own := [("row", 5)]) (g := gName 5) (tt := tYes) rfl sc_Heap_normal.nd rfl rfl (sw_true rfl rfl rfl (by decide +kernel)) (pi_tup (pv 3)) (blkOk_by (own := [("row", 5)]) (N := ["self", "fields", "names", "objects", "items", "row", "k", "field"]) (sc := defScope s_Heap_normal) (by decide +kernel)) (fun _ _ _ _ _ => by exact (pg_name (i := 5) sc_Heap_normal.nd rfl (by first | exact Or.inl rfl | exact Or.inr rfl))) (fun _ _ _ _ _ => by exact pts_nil) (fun _ _ _ _ _ => by exact (pe_dc (tk := (tVar 7)) (tv := (tOp (rIxT K) (tVar 5) (tVar 6))) (own := [("k", 6), ("field", 7)]) (tt := tYes) rfl sc_Heap_normal.nd (pi_enumT (by rfl) B.enumerate (pa_cons (pv 1) pa_nil)) (blkOk_by (own := [("k", 6), ("field", 7)]) (N := ["self", "fields", "names", "objects", "items", "row", "k", "field"]) (sc := osc_normal) (by decide +kernel)) (fun _ _ _ _ _ => by exact (pg_tup rfl (pgs_cons (pg_name (i := 6) sc_Heap_normal.nd rfl (by first | exact Or.inl rfl | exact Or.inr rfl)) (pgs_cons (pg_name (i := 7) sc_Heap_normal.nd rfl (by first | exact Or.inl rfl | exact Or.inr rfl)) pgs_nil)))) (fun _ _ _ _ _ => pts_nil) (fun _ _ _ _ _ => by exact (pv 7)) (fun _ _ _ _ _ => by exact (pe_ix ix_tup (pv 5) (pv 6) (fun _ _ => rfl))))))
      (pss_one (ps_ret (pe_k K_Heap hr (by decide) passX0 (by rfl) (pa_cons (pv 1) (pa_cons (pv 4) (pa_cons (pe_callTy (c_dictP rfl) (by rfl) B.dict (by decide +kernel) (pa_cons (pe_callTy c_list (by rfl) B.list (by decide +kernel) (pa_cons (pv 2) pa_nil)) pa_nil)) pa_nil)))))))) 1 7 (fun ts Q χ ⟨_, _, _, _, _, e, _⟩ => by rw [e]; rfl) rfl ?_
  apply Exists.intro
  constructor
  · walk_at "ref"
  rintro ts Q1 χ ⟨t, fs, os, ns, ys, rfl, hT, ok, pe, hs, q⟩
  obtain ⟨t', hrd, hrs, hob, _⟩ := hT.rd 0
  walk_at "d"
  refine d_var rfl hrd ?_
  refine d_fldv (n := 3) (by exact hrs _ rfl) hob ⟨Y.cl, Y.n4⟩ (by decide +kernel) rfl rdk_sh ?_
  walk_at "d"
  refine d_gtup3 (a := .tup (fs.map dS)) (b := .tup (ys.map fun z => .tup [dS z, oV (rho (ordH os ns ys) (look ns z))])) (c := .tup ((nrmO os ns ys).map fun r => .tup (r.map oV))) rfl ?_
  have ok2 : OkH fs (nrmO os ns ys) (nrmN os ns ys) := okH_normal ok pe
  have ol2 := ok2.ol
  walk_at "d"
  refine ⟨_, rfl, _, _, rfl, allSh_map _, fun i ρ acc => ρ = [t, .sh (.tup (fs.map dS)), .sh (.tup (ys.map fun z => .tup [dS z, oV (rho (ordH os ns ys) (look ns z))])), .sh (.tup ((nrmO os ns ys).map fun r => .tup (r.map oV))), .no, .no, .no, .no] ∧ acc = (((nrmO os ns ys).take i).map (rowD fs)).map T.sh, ⟨rfl, rfl⟩, fun i ρ acc ⟨e, ea⟩ => ⟨rfl, by rw [ea]; simp only [List.length_map, List.length_take]; omega⟩, ?_, ?_⟩
  · rintro i y ρ acc hy ⟨rfl, rfl⟩
    obtain ⟨d, hd, rfl⟩ := get_map hy
    obtain ⟨row, hrow, rfl⟩ := get_map hd
    obtain ⟨il, e3⟩ := List.getElem?_eq_some_iff.mp hrow
    obtain ⟨hl, hv⟩ := ok2.ob.row row (List.mem_of_getElem? hrow)
    have f2 := ok.f2
    walk_at "d"
    refine ⟨_, rfl, _, rfl, _, _, rfl, allSh_map _, fun j ρ ks xs => ρ = [t, .sh (.tup (fs.map dS)), .sh (.tup (ys.map fun z => .tup [dS z, oV (rho (ordH os ns ys) (look ns z))])), .sh (.tup ((nrmO os ns ys).map fun r => .tup (r.map oV))), .no, .sh (.tup (row.map oV)), .no, .no] ∧ ks = (fs.take j).map Sum.inr ∧ xs = ((row.take j).map oV).map T.sh, ⟨rfl, rfl, rfl⟩, fun j ρ ks xs ⟨e, ek, ex⟩ => ⟨rfl, by rw [ek]; simp only [List.length_map, List.length_take]; omega⟩, ?_, ?_⟩
    · rintro j y ρ ks xs hy ⟨rfl, rfl, rfl⟩
      obtain ⟨d, hd, rfl⟩ := enumT_at hy
      obtain ⟨z, hz, rfl⟩ := get_map hd
      obtain ⟨jf, e4⟩ := List.getElem?_eq_some_iff.mp hz
      have jl : j < row.length := by rw [hl]; exact jf
      have ho : (row.map oV)[j]? = some (oV row[j]) := map_get (List.getElem?_eq_getElem jl)
      walk_at "d"
      refine d_ixT rfl rfl (ixN_nat (j := j) (by simp; exact jl)) (map_get ho) rfl ?_
      refine ⟨_, .inr z, _, _, _, rfl, rfl, .inl rfl, .new (by rw [inr_mem]; exact nin_take ok.fn hz), rfl, ?_, ?_⟩
      · rw [List.take_succ_eq_append_getElem jf, e4, List.map_append]
        rfl
      · rw [List.take_succ_eq_append_getElem jl, List.map_append, List.map_append]
        rfl
    rintro ρ ks xs ⟨rfl, rfl, rfl⟩ a8
    rw [enumT_len, List.length_map, List.take_length, ← hl, List.take_length]
    refine ⟨_, .inr ⟨rowD fs row, by unfold T.pub; rw [pubL_sh]; rfl, rfl⟩, rfl, ?_⟩
    rw [List.take_succ_eq_append_getElem il, e3, List.map_append, List.map_append]
    rfl
  rintro ρ acc ⟨rfl, rfl⟩ a4
  rw [List.length_map, List.length_map, List.take_length]
  walk_at "d"
  refine d_list rfl rfl (allSh_map _) fun a5 => ?_
  walk_at "d"
  have ekds : ((ys.map fun z => D.tup [dS z, oV (rho (ordH os ns ys) (look ns z))]).map T.sh) = (ys.map fun z => ((Sum.inr z : Key), oV (rho (ordH os ns ys) (look ns z)))).map fun p => T.sh (.tup [kD p.1, p.2]) := by
    rw [List.map_map, List.map_map]
    rfl
  refine d_dictP (kds := ys.map fun z => ((Sum.inr z : Key), oV (rho (ordH os ns ys) (look ns z)))) rfl (by rw [← ekds]; rfl) ?_ fun a6 => ?_
  · rw [List.map_map]
    exact List.Pairwise.map _ (fun _ _ h h2 => h (Sum.inr.inj h2)) (pe.nodup_iff.mpr ok.nn)
  walk_at "d"
  intro a
  have ek : Z.nmK (noD (nrmN os ns ys)) = (ys.map fun z => ((Sum.inr z : Key), oV (rho (ordH os ns ys) (look ns z)))).map Prod.fst := by
    unfold Z.nmK noD nrmN nNs
    rw [List.map_map, List.map_map, List.map_map]
    rfl
  have ev : (nmV (noD (nrmN os ns ys))).map T.sh = (ys.map fun z => ((Sum.inr z : Key), oV (rho (ordH os ns ys) (look ns z)))).map fun p => T.sh p.2 := by
    unfold nmV noD nrmN nNs
    rw [List.map_map, List.map_map, List.map_map, List.map_map]
    rfl
  refine ⟨_, _, _, .keep (.lend rfl rfl (.keep (.nil _))), ?_⟩
  refine ⟨a, _, _, _, fs, objsD fs (nrmO os ns ys), noD (nrmN os ns ys), rfl, .inr rfl, fun z hz => short_w (ok.fw z hz), by have := ok.f2; omega, .inr ⟨_, rfl⟩, fun d hd => ?_, .inr ⟨a6, by rw [ek, ev]⟩, by rw [noD_keys]; exact ok2.nn, fun x hx => ?_, fun p w t3' hb _ => (okH_bad ok2 hb).elim, fun _ => ⟨nrmO os ns ys, nrmN os ns ys, rfl, rfl, ok2, fun ys' pe' hs' => ⟨rfl, _, _, _, rfl, .skip (.put rfl (.skip (.nil _))), ?_⟩⟩⟩
  · obtain ⟨row, hr, rfl⟩ := List.mem_map.mp hd
    exact fine_row fs (ok2.ob.row row hr).1
  · obtain ⟨y, hy, rfl⟩ := List.mem_map.mp hx
    refine ⟨?_, short_w (ok2.nw y hy).1⟩
    show D.ok (oV y.2)
    cases y.2 <;> exact ⟨_, rfl⟩
  · have ey : ys' = ys := sortedS_unique hs' hs (pe'.trans (by unfold nrmN; rw [nNs_keys]))
    subst ey
    exact q a

/-! ==, len, objects, names of a heap, by data -/
structure TC (mg : Str → Option Value) (C : Addr) : Prop where
  c_Heap : ∃ u, mg "Heap" = some u ∧ RelV (.ref C) u
theorem shD_py {fs ys : List Str} {ns : List (Str × Option Nat)} {os : List (List (Option Nat))} : (shD fs ys ns os).py = some (shapeD fs ys ns os) := by
  have oP : ∀ o : Option Nat, (oV o).py = some (G.dov o) := fun o => by cases o <;> rfl
  have e1 : (D.tup (fs.map dS)).py = some (.tuple (fs.map .str)) := by
    show (D.pyL (fs.map dS)).map PyData.tuple = _
    rw [pyL_map (g := PyData.str) (fun _ => rfl)]
    rfl
  have e2 : (D.tup (ys.map fun z => .tup [dS z, oV (rho (ordH os ns ys) (look ns z))])).py = some (.tuple (ys.map fun z => .tuple [.str z, G.dov (rho (ordH os ns ys) (look ns z))])) := by
    show (D.pyL (ys.map fun z => D.tup [dS z, oV (rho (ordH os ns ys) (look ns z))])).map PyData.tuple = _
    rw [pyL_map (g := fun z => PyData.tuple [.str z, G.dov (rho (ordH os ns ys) (look ns z))]) (fun z => ?_)]
    · rfl
    · show (D.pyL [dS z, oV (rho (ordH os ns ys) (look ns z))]).map PyData.tuple = _
      have e : D.pyL [dS z, oV (rho (ordH os ns ys) (look ns z))] = some [.str z, G.dov (rho (ordH os ns ys) (look ns z))] := by
        show ((some (PyData.str z)).bind fun p => (((oV (rho (ordH os ns ys) (look ns z))).py).bind fun p => (some []).map (p :: ·)).map (p :: ·)) = _
        rw [oP]
        rfl
      rw [e]
      rfl
  have e3 : (D.tup ((nOs os (ordH os ns ys)).map fun r => .tup (r.map oV))).py = some (.tuple ((nOs os (ordH os ns ys)).map fun r => .tuple (r.map G.dov))) := by
    show (D.pyL ((nOs os (ordH os ns ys)).map fun r => D.tup (r.map oV))).map PyData.tuple = _
    rw [pyL_map (g := fun r => PyData.tuple (r.map G.dov)) (fun r => ?_)]
    · rfl
    · show (D.pyL (r.map oV)).map PyData.tuple = _
      rw [pyL_map oP]
      rfl
  rw [shape_nf]
  show (((D.tup (fs.map dS)).py).bind fun p => (((D.tup (ys.map fun z => .tup [dS z, oV (rho (ordH os ns ys) (look ns z))])).py).bind fun p => (((D.tup ((nOs os (ordH os ns ys)).map fun r => .tup (r.map oV))).py).bind fun p => (some []).map (p :: ·)).map (p :: ·)).map (p :: ·)).map PyData.tuple = _
  rw [e1, e2, e3]
  rfl
def sEqH (C : Addr) : SpecD := fun ts Q _ => ∃ (t1 t2 : T) (fs fs' : List Str) (os os' : List (List (Option Nat))) (ns ns' : List (Str × Option Nat)) (ys ys' : List Str), ts = [t1, t2] ∧ HpT C t1 fs os ns ys ∧ HpT C t2 fs' os' ns' ys' ∧ (∀ z ∈ fs, IsW z) ∧ (∀ z ∈ ys, IsW z) ∧ (∀ z ∈ fs', IsW z) ∧ (∀ z ∈ ys', IsW z) ∧ Q (.sh (.bl (PyData.eqv (shapeD fs ys ns os) (shapeD fs' ys' ns' os')))) [t1, t2]
theorem ok_Heap_eq {f C : Addr} {fd : FuncData} (F : Fun K "__eq__" "Heap.__eq__" s_Heap_eq f fd) (B : Blt mg) (Y : HCls K C) (T : TC mg C) (IC : IsC K C) : FnOk P w K mg base CX0 1 f fd ["self", "other"] (spD false (sEqH C)) := by
  refine F.ok sc_Heap_eq (lenD fun ts Q χ ⟨_, _, _, _, _, _, _, _, _, _, e, _⟩ => by rw [e]; rfl) (fun cdv A outer s H vs Q E hr h => ?_)
  have hu := hu_of hr
  refine bodyD [0, 1] h (pss_one (ps_ret (pe_and (pe_callB c_isiC (by rfl) B.isinstance (by decide +kernel) (pa_cons (pv 1) (pa_cons (pe_gv (by rfl) T.c_Heap) pa_nil))) (pe_one (pe_cmpR (op_eqD hr.units) (pe_fld (pv 0) rfl) (pe_fld (pv 1) rfl) (nomark _)))))) 2 0 (fun ts Q χ ⟨_, _, _, _, _, _, _, _, _, _, e, _⟩ => by rw [e]; rfl) rfl ?_
  apply Exists.intro
  constructor
  · walk_at "ref"
  rintro ts Q1 χ ⟨t1, t2, fs, fs', os, os', ns, ns', ys, ys', rfl, h1, h2, w1, w2, w3, w4, q⟩
  obtain ⟨t1', hrd1, hrs1, hob1, hc1⟩ := h1.rd 0
  obtain ⟨t2', hrd2, hrs2, hob2, hc2⟩ := h2.rd 1
  walk_at "d"
  refine d_var rfl hrd2 ?_
  walk_at "d"
  refine d_isiC1 (by exact hrs2 _ rfl) IC hc2 ?_
  walk_at "d"
  refine d_var rfl hrd1 ?_
  refine d_fldv (n := 3) (by exact hrs1 _ rfl) hob1 ⟨Y.cl, Y.n4⟩ (by decide +kernel) rfl rdk_sh ?_
  walk_at "d"
  refine d_var rfl hrd2 ?_
  refine d_fldv (n := 3) (by exact hrs2 _ rfl) hob2 ⟨Y.cl, Y.n4⟩ (by decide +kernel) rfl rdk_sh ?_
  refine d_eqD rfl rfl shD_py shD_py ((gd_shape w1 w2).shaped (by decide)) ((gd_shape w3 w4).shaped (by decide)) ?_
  exact q
def sLenH (C : Addr) : SpecD := fun ts Q _ => ∃ (t : T) (fs : List Str) (os : List (List (Option Nat))) (ns : List (Str × Option Nat)) (ys : List Str), ts = [t] ∧ HpT C t fs os ns ys ∧ Q (.sh (.int os.length)) [t]
theorem ok_Heap_len {f C : Addr} {fd : FuncData} (F : Fun K "__len__" "Heap.__len__" s_Heap_len f fd) (B : Blt mg) (Y : HCls K C) : FnOk P w K mg base CX0 1 f fd ["self"] (spD false (sLenH C)) := by
  refine F.ok sc_Heap_len (lenD fun ts Q χ ⟨_, _, _, _, _, e, _⟩ => by rw [e]; rfl) (fun cdv A outer s H vs Q E hr h => ?_)
  have hu := hu_of hr
  refine bodyD [0] h (pss_one (ps_ret (pe_callB c_len (by rfl) B.len (by decide +kernel) (pa_cons (pe_fld (pv 0) rfl) pa_nil)))) 1 0 (fun ts Q χ ⟨_, _, _, _, _, e, _⟩ => by rw [e]; rfl) rfl ?_
  apply Exists.intro
  constructor
  · walk_at "ref"
  rintro ts Q1 χ ⟨t, fs, os, ns, ys, rfl, hT, q⟩
  obtain ⟨t', hrd, hrs, hob, _⟩ := hT.rd 0
  walk_at "d"
  refine d_var rfl hrd ?_
  refine d_fldv (n := 1) (by exact hrs _ rfl) hob ⟨Y.cl, Y.n2⟩ (by decide +kernel) rfl rdk_sh ?_
  walk_at "d"
  have e : ((objsD fs os).map T.sh).length = os.length := by simp [objsD]
  rw [e]
  exact q
def sObjsH (C : Addr) : SpecD := fun ts Q _ => ∃ (t : T) (fs : List Str) (os : List (List (Option Nat))) (ns : List (Str × Option Nat)) (ys : List Str), ts = [t] ∧ HpT C t fs os ns ys ∧ os.length < 10000 ∧ ∀ a, Q (.lst a ((objsD fs os).map T.sh)) [t]
theorem ok_Heap_objects {f C : Addr} {fd : FuncData} (F : Fun K "objects" "Heap.objects" s_Heap_objects f fd) (B : Blt mg) (Y : HCls K C) : FnOk P w K mg base CX0 1 f fd ["self"] (spD false (sObjsH C)) := by
  refine F.ok sc_Heap_objects (lenD fun ts Q χ ⟨_, _, _, _, _, e, _⟩ => by rw [e]; rfl) (fun cdv A outer s H vs Q E hr h => ?_)
  have hu := hu_of hr
  refine bodyD [0] h (pss_one (ps_ret (pe_lc (te := (tCB rDictQ (tCons (tVar 1) tNil))) (own := [("item", 1)]) (g := gName 1) (tt := tYes) rfl sc_Heap_objects.nd (pi_list (pe_fld (pv 0) rfl)) (blkOk_by (own := [("item", 1)]) (N := ["self", "item"]) (sc := defScope s_Heap_objects) (by decide +kernel)) (fun _ _ _ _ _ => by exact (pg_name (i := 1) sc_Heap_objects.nd rfl (by first | exact Or.inl rfl | exact Or.inr rfl))) (fun _ _ _ _ _ => by exact pts_nil) (fun _ _ _ _ _ => by exact (pe_callTy c_dict (by rfl) B.dict (by decide +kernel) (pa_cons (pv 1) pa_nil)))))) 1 1 (fun ts Q χ ⟨_, _, _, _, _, e, _⟩ => by rw [e]; rfl) rfl ?_
  apply Exists.intro
  constructor
  · walk_at "ref"
  rintro ts Q1 χ ⟨t, fs, os, ns, ys, rfl, hT, hl, q⟩
  obtain ⟨t', hrd, hrs, hob, _⟩ := hT.rd 0
  walk_at "d"
  refine d_var rfl hrd ?_
  refine d_fldv (n := 1) (by exact hrs _ rfl) hob ⟨Y.cl, Y.n2⟩ (by decide +kernel) rfl rdk_sh ?_
  refine ⟨_, rfl, _, _, rfl, allSh_map _, fun i ρ acc => ρ = [t, .no] ∧ acc = ((objsD fs os).take i).map T.sh, ⟨rfl, rfl⟩, fun i ρ acc ⟨e, ea⟩ => ⟨rfl, by rw [ea]; simp only [List.length_map, List.length_take, objsD]; omega⟩, ?_, ?_⟩
  · rintro i y ρ acc hy ⟨rfl, rfl⟩
    obtain ⟨d, hd, rfl⟩ := get_map hy
    obtain ⟨il, e3⟩ := List.getElem?_eq_some_iff.mp hd
    obtain ⟨row, hrow, rfl⟩ := get_map hd
    walk_at "d"
    refine d_dict rfl rfl (allSh_map _) fun b => ?_
    walk_at "d"
    refine ⟨_, .inr ⟨rowD fs row, ?_, rfl⟩, rfl, ?_⟩
    · unfold T.pub
      rw [pubL_sh]
      rfl
    · rw [List.take_succ_eq_append_getElem il, e3, List.map_append]
      rfl
  rintro ρ acc ⟨rfl, rfl⟩ a9
  rw [List.length_map, List.take_length]
  exact q a9
def sNamesH (C : Addr) : SpecD := fun ts Q _ => ∃ (t : T) (fs : List Str) (os : List (List (Option Nat))) (ns : List (Str × Option Nat)) (ys : List Str), ts = [t] ∧ HpT C t fs os ns ys ∧ ∀ a, Q (.dK a (ns.map fun x => Sum.inr x.1) ((ns.map fun x => oV x.2).map T.sh)) [t]
theorem ok_Heap_names {f C : Addr} {fd : FuncData} (F : Fun K "names" "Heap.names" s_Heap_names f fd) (B : Blt mg) (Y : HCls K C) : FnOk P w K mg base CX0 1 f fd ["self"] (spD false (sNamesH C)) := by
  refine F.ok sc_Heap_names (lenD fun ts Q χ ⟨_, _, _, _, _, e, _⟩ => by rw [e]; rfl) (fun cdv A outer s H vs Q E hr h => ?_)
  have hu := hu_of hr
  refine bodyD [0] h (pss_one (ps_ret (pe_callTy c_dict (by rfl) B.dict (by decide +kernel) (pa_cons (pe_fld (pv 0) rfl) pa_nil)))) 1 0 (fun ts Q χ ⟨_, _, _, _, _, e, _⟩ => by rw [e]; rfl) rfl ?_
  apply Exists.intro
  constructor
  · walk_at "ref"
  rintro ts Q1 χ ⟨t, fs, os, ns, ys, rfl, hT, q⟩
  obtain ⟨t', hrd, hrs, hob, _⟩ := hT.rd 0
  walk_at "d"
  refine d_var rfl hrd ?_
  refine d_fldv (n := 2) (by exact hrs _ rfl) hob ⟨Y.cl, Y.n3⟩ (by decide +kernel) rfl rdk_sh ?_
  walk_at "d"
  refine d_dict rfl rfl (allSh_map _) fun b => ?_
  walk_at "d"
  exact q b

theorem svs_nums : ∀ l : List Nat, svs (l.map fun k => T.sh (.int (k : Nat))) = some (l.map fun k => V.int (k : Nat))
  | [] => rfl
  | k :: l => by rw [List.map_cons, svs, svs_nums l]; rfl
theorem inV_nums (m : Nat) : ∀ l : List Nat, inV (.int (m : Nat)) (l.map fun k => V.int (k : Nat)) = decide (m ∈ l)
  | [] => rfl
  | k :: l => by
    have ih := inV_nums m l
    unfold inV at ih ⊢
    rw [List.map_cons, List.any_cons, ih, Bool.eq_iff_iff]
    simp only [eqV, Bool.or_eq_true, beq_iff_eq, decide_eq_true_eq, List.mem_cons]
    constructor
    · rintro (h | h)
      · exact .inl (by omega)
      · exact .inr h
    · rintro (h | h)
      · exact .inl (by omega)
      · exact .inr h
/-- a list of object numbers, one's own -/
abbrev oNs (a : Addr) (ord : List Nat) : T := .lst a (ord.map fun k => T.sh (.int (k : Nat)))
def sMeet : SpecD := fun ts Q _ => ∃ (a : Addr) (ord : List Nat) (o : Option Nat), ts = [oNs a ord, .sh (oV o)] ∧ ord.length < 1000 ∧ Q (.sh .non) [oNs a (meet ord o), .sh (oV o)]
theorem ok_l_meet {f : Addr} {fd : FuncData} (F : Fun K "_law_meet" "_law_meet" s_l_meet f fd) : FnOk P w K mg base CX0 1 f fd ["_law_order_here", "_law_value_here"] (spD false sMeet) := by
  refine F.ok sc_l_meet (lenD fun ts Q χ ⟨_, _, _, e, _⟩ => by rw [e]; rfl) (fun cdv A outer s H vs Q E hr h => ?_)
  refine bodyD [0, 1] h (pss_one (ps_if (PW.pt (pw_and (pt_cmpR op_notN1 (pv 1) pe_non (nomark _)) (pw_and1 (pt_cmpR op_notIn_seq (pv 1) (pv 0) (by rfl)))))
        (pss_one (ps_expr (pe_bm PySem.F.plainAttrs_list PySem.F.slot_list_append PySem.F.type_list_append mt_append (pv 0) (pa_cons (pmv 1) pa_nil)))) pss_nil)) 2 0 (fun ts Q χ ⟨_, _, _, e, _⟩ => by rw [e]; rfl) rfl ?_
  apply Exists.intro
  constructor
  · walk_at "ref"
  rintro ts Q1 χ ⟨a, ord, o, rfl, hl, q⟩
  cases o with
  | none =>
    walk_at "d"
    exact q
  | some m =>
    walk_at "d"
    refine d_nin rfl (by walk_at "rs") rfl (svs_nums ord) ?_
    rw [inV_nums]
    walk_at "d"
    refine d_iB (fun c => ?_) (fun c => ?_)
    · walk_at "d"
      · rw [List.length_map]; omega
      have e : meet ord (some m) = ord ++ [m] := if_neg (by simpa using c)
      rw [e] at q
      unfold oNs at q
      rw [List.map_append] at q
      exact q
    · walk_at "d"
      have e : meet ord (some m) = ord := if_pos (by simpa using c)
      rw [e] at q
      exact q

/-! the law's small functions, by data -/
theorem ok_l_is_integer {f : Addr} {fd : FuncData} (F : Fun K "_law_is_integer" "_law_is_integer" s_l_is_integer f fd) (B : Blt mg) : FnOk P w K mg base CX0 1 f fd ["_law_x"] (spD false sIsInt) := by
  refine F.ok sc_l_is_integer (lenD fun ts Q χ ⟨_, e, _⟩ => by rw [e]; rfl) (fun cdv A outer s H vs Q E hr h => ?_)
  refine bodyD [] h (pss_one (ps_ret (pe_and (pe_callB call_isi (by rfl) B.isinstance (by decide +kernel) (pa_cons (pv 0) (pa_cons (pe_bltn (v := .ty "int") (by rfl) B.int boot_int rfl) pa_nil))) (pe_one (pe_not (pe_callB call_isi (by rfl) B.isinstance (by decide +kernel) (pa_cons (pv 0) (pa_cons (pe_bltn (v := .ty "bool") (by rfl) B.bool boot_bool rfl) pa_nil)))))))) 1 0 (fun ts Q χ ⟨_, e, _⟩ => by rw [e]; rfl) rfl ?_
  apply Exists.intro
  constructor
  · walk_at "ref"
  rintro ts Q1 χ ⟨d, rfl, ⟨m, hm⟩, q⟩
  cases d <;> first | (walk_at "d"; exact q) | cases hm
def sSame : SpecD := fun ts Q _ => ∃ o o' : Option Nat, ts = [.sh (oV o), .sh (oV o')] ∧ Q (.sh (.bl (decide (o = o')))) [.no, .no]
theorem ok_l_same {f : Addr} {fd : FuncData} (F : Fun K "_law_same" "_law_same" s_l_same f fd) (B : Blt mg) (C_l_is_integer : Cal P w K mg base CX0 1 "_law_is_integer" (spD false sIsInt)) : FnOk P w K mg base CX0 2 f fd ["_law_actual", "_law_due"] (spD false sSame) := by
  refine F.ok sc_l_same (lenD fun ts Q χ ⟨_, _, e, _⟩ => by rw [e]; rfl) (fun cdv A outer s H vs Q E hr h => ?_)
  have hu := hu_of hr
  refine bodyD [] h (pss_cons (ps_if (pt_cmpR op_isN1 (pv 1) pe_non (nomark _))
        (pss_one (ps_ret (pe_cmpR op_isN1 (pv 0) pe_non (nomark _)))) pss_nil)
      (pss_one (ps_ret (pe_and (pe_c C_l_is_integer hr (by decide) (by rfl) (pa_cons (pv 0) pa_nil)) (pe_one (pe_cmpR op_eq (pv 0) (pv 1) (nomark _))))))) 2 0 (fun ts Q χ ⟨_, _, e, _⟩ => by rw [e]; rfl) rfl ?_
  apply Exists.intro
  constructor
  · walk_at "ref"
  rintro ts Q1 χ ⟨o, o', rfl, q⟩
  cases o' with
  | none =>
    cases o with
    | none => walk_at "d"; exact q
    | some k => walk_at "d"; exact q
  | some k' =>
    cases o with
    | none =>
      walk_at "d"
      walk_at "cw"
      refine ⟨.non, rfl, ⟨_, rfl⟩, ?_⟩
      walk_at "bk"
      walk_at "d"
      exact q
    | some k =>
      walk_at "d"
      walk_at "cw"
      refine ⟨.int (k : Nat), rfl, ⟨_, rfl⟩, ?_⟩
      walk_at "bk"
      walk_at "d"
      have e : decide (V.int (k : Nat) = V.int (k' : Nat)) = decide (some k = some k') := by
        rw [decide_eq_decide]
        exact ⟨fun h => by cases h; rfl, fun h => by cases h; rfl⟩
      rw [← e] at q
      exact q
def sNew : SpecD := fun ts Q _ => ∃ (t : T) (ord : List Nat) (o : Option Nat), ts = [t, .sh (oV o)] ∧ LD t (ord.map fun (k : Nat) => .int (k : Nat)) ∧ (∀ k, o = some k → k ∈ ord) ∧ Q (.sh (oV (rho ord o))) [t, .no]
theorem ok_l_new {f : Addr} {fd : FuncData} (F : Fun K "_law_new" "_law_new" s_l_new f fd) (B : Blt mg) : FnOk P w K mg base CX0 1 f fd ["_law_order_here", "_law_value_here"] (spD false sNew) := by
  refine F.ok sc_l_new (lenD fun ts Q χ ⟨_, _, _, e, _⟩ => by rw [e]; rfl) (fun cdv A outer s H vs Q E hr h => ?_)
  have hu := hu_of hr
  refine bodyD [0] h (pss_cons (ps_if (pt_cmpR op_isN1 (pv 1) pe_non (nomark _))
        (pss_one (ps_ret pe_non)) pss_nil)
      (pss_one (ps_ret (pe_bm PySem.F.plainAttrs_list PySem.F.slot_list_index PySem.F.type_list_index mt_index (pv 0) (pa_cons (pv 1) pa_nil))))) 2 0 (fun ts Q χ ⟨_, _, _, e, _⟩ => by rw [e]; rfl) rfl ?_
  apply Exists.intro
  constructor
  · walk_at "ref"
  rintro ts Q1 χ ⟨t, ord, o, rfl, hL, ho, q⟩
  obtain ⟨t', hrd, hrs, hk, hk', hv⟩ := hL.rd 0
  cases o with
  | none => walk_at "d"; exact q
  | some k =>
    have hm := ho k rfl
    have hi := List.idxOf_lt_length_of_mem hm
    walk_at "d"
    refine d_var rfl hrd ?_
    refine d_islst (by exact hrs _ rfl) hk ?_
    walk_at "d"
    have esv : svs ((ord.map fun (k : Nat) => D.int (k : Nat)).map T.sh) = some (ord.map fun k => V.int (k : Nat)) := by
      rw [List.map_map]
      exact svs_nums ord
    refine ⟨.int (k : Nat), .int (k : Nat), t, _, _, ord.idxOf k, .int (k : Nat), rfl, rfl, by exact hrs _ rfl, hk, esv, ?_, by simp [eqV], fun m z hm' hz => ?_, q⟩
    · exact map_get (f := fun (k : Nat) => V.int (k : Nat)) (by rw [List.getElem?_eq_getElem hi, List.getElem_idxOf])
    · obtain ⟨k', hk2, rfl⟩ := get_map hz
      have ne : k' ≠ k := fun e => by
        subst e
        obtain ⟨hl, he⟩ := List.getElem?_eq_some_iff.mp hk2
        have := List.not_of_lt_findIdx (p := (· == k')) (xs := ord) hm'
        rw [he] at this
        simp at this
      simp only [eqV, beq_eq_false_iff_ne]
      omega

/-! the order of meeting, as the law finds it -/
def sOrder : SpecD := fun ts Q _ => ∃ (t1 t2 : T) (fs : List Str) (os : List (List (Option Nat))) (ns : List (Str × Option Nat)), ts = [t1, t2, .sh (nmD ns)] ∧ LD t1 (fs.map dS) ∧ LD t2 (objsD fs os) ∧ OkH fs os ns ∧
  ∀ (ys : List Str) (a : Addr), ys.Perm (ns.map Prod.fst) → sortedS ys = true → Q (.lst a (jL (ordH os ns ys))) [t1, t2, .sh (nmD ns)]
theorem ok_l_order {f : Addr} {fd : FuncData} (F : Fun K "_law_order" "_law_order" s_l_order f fd) (B : Blt mg) (C_l_meet : Cal P w K mg base CX0 1 "_law_meet" (spD false sMeet)) : FnOk P w K mg base CX0 2 f fd ["_law_fields", "_law_objects_here", "_law_names_here"] (spD true sOrder) := by
  refine F.ok sc_l_order (lenD fun ts Q χ ⟨_, _, _, _, _, e, _⟩ => by rw [e]; rfl) (fun cdv A outer s H vs Q E hr h => ?_)
  have hu := hu_of hr
  refine bodyD [0, 1, 2] h (pss_cons (ps_set (i := 3) sc_l_order.nd rfl (.inl rfl) (pe_lst pa_nil))
      (pss_cons (ps_for PassesOwn.never rfl (pi_list (pe_callB cr_sortedS (by rfl) B.sorted (by decide +kernel) (pa_cons (pe_lock (pe_lc (te := (tVar 8)) (own := [("_law_word_here", 8)]) (g := gName 8) (tt := tYes) rfl sc_l_order.nd (pi_keys (pv 2)) (blkOk_by (own := [("_law_word_here", 8)]) (N := ["_law_fields", "_law_objects_here", "_law_names_here", "_law_order_here", "_law_name", "_law_done", "_law_item", "_law_field", "_law_word_here"]) (sc := defScope s_l_order) (by decide +kernel)) (fun _ _ _ _ _ => by exact (pg_name (i := 8) sc_l_order.nd rfl (by first | exact Or.inl rfl | exact Or.inr rfl))) (fun _ _ _ _ _ => by exact pts_nil) (fun _ _ _ _ _ => by exact (pv 8)))) pa_nil))) (pg_name (i := 4) sc_l_order.nd rfl (.inl rfl))
        (pss_one (ps_expr (pe_c C_l_meet hr (by decide) (by rfl) (pa_cons (pv 3) (pa_cons (pe_dget hu (by exact (pv 2)) (by exact (pv 4)) (fun _ _ => rfl)) pa_nil))))))
      (pss_cons (ps_set (i := 5) sc_l_order.nd rfl (.inl rfl) pe_int)
      (pss_cons (ps_while PassesOwn.never (pt_cmpR op_lt (pv 5) (pe_callB c_len (by rfl) B.len (by decide +kernel) (pa_cons (pv 3) pa_nil)) (nomark _))
        (pss_cons (ps_set (i := 6) sc_l_order.nd rfl (.inl rfl) (pe_ix ix_list (pv 1) (pe_ix ix_list (pv 3) (pv 5) (fun _ _ => rfl)) (fun _ _ => rfl)))
      (pss_cons (ps_for PassesOwn.never rfl (pi_list (pv 0)) (pg_name (i := 7) sc_l_order.nd rfl (.inl rfl))
        (pss_one (ps_expr (pe_c C_l_meet hr (by decide) (by rfl) (pa_cons (pv 3) (pa_cons (pe_dget hu (by exact (pv 6)) (by exact (pv 7)) (fun _ _ => rfl)) pa_nil))))))
      (pss_one (ps_set (i := 5) sc_l_order.nd rfl (.inl rfl) (pe_op op_add (pv 5) pe_int))))))
      (pss_one (ps_ret (pmv 3))))))) 3 6 (fun ts Q χ ⟨_, _, _, _, _, e, _⟩ => by rw [e]; rfl) rfl ?_
  apply Exists.intro
  constructor
  · walk_at "ref"
  rintro ts Q1 χ ⟨t1, t2, fs, os, ns, rfl, hL1, hL2, ok, q⟩
  obtain ⟨t1', hrd1, hrs1, hkF, _, hv1⟩ := hL1.rd 0
  obtain ⟨t2', hrd2, hrs2, hk2, hk2', hv2⟩ := hL2.rd 1
  have nl := ok.nl
  have ol := ok.ol
  walk_at "d"
  refine ⟨by decide, fun a3 => ?_⟩
  walk_at "d"
  refine d_lcK (ks := ns.map fun x => (Sum.inr x.1 : Key)) (ds := ns.map fun x => oV x.2) rfl (fun j ρ acc => ρ = [t1, t2, .sh (nmD ns), .lst a3 [], .no, .no, .no, .no, .no] ∧ acc = ((ns.map Prod.fst).take j).map fun z => T.sh (.str z)) ⟨rfl, rfl⟩ (fun j ρ acc ⟨_, ea⟩ => by rw [ea]; simp only [List.length_map, List.length_take]; omega) ?_ ?_
  · rintro j ky ρ acc hky ⟨rfl, rfl⟩
    obtain ⟨x, hx, rfl⟩ := get_map hky
    have hx2 : (ns.map Prod.fst)[j]? = some x.1 := map_get hx
    obtain ⟨il, e3⟩ := List.getElem?_eq_some_iff.mp hx2
    walk_at "d"
    refine ⟨_, .inl rfl, rfl, ?_⟩
    rw [List.take_succ_eq_append_getElem il, e3, List.map_append]
    rfl
  rintro ρ acc ⟨rfl, rfl⟩ a4
  rw [List.length_map, show ns.length = (ns.map Prod.fst).length from (List.length_map ..).symm, List.take_length]
  walk_at "d"
  refine d_sortS (zs := ns.map Prod.fst) rfl rfl (by rw [List.length_map]; omega) fun ys a5 hp hs => ?_
  have q := q ys a3 hp hs
  have hmem : ∀ z ∈ ys, z ∈ ns.map Prod.fst := fun z hz => hp.mem_iff.mp hz
  have hro : ∀ o ∈ ys.map (look ns), OkV os.length o := fun o ho => by
    obtain ⟨z, _, rfl⟩ := List.mem_map.mp ho
    exact look_ok fun x hx => (ok.nw x hx).2
  rw [strs_sh]
  refine ⟨_, rfl, _, _, rfl, allSh_map _, fun i ρ => ∃ u4 ord, ρ = [t1, t2, .sh (nmD ns), .lst a3 (jL ord), u4, .no, .no, .no, .no] ∧ ord = meets [] ((ys.map (look ns)).take i) ∧ OkOrd os.length ord, ⟨_, [], rfl, rfl, ⟨List.nodup_nil, by simp⟩⟩, fun _ _ _ => rfl, ?_, ?_⟩
  · rintro i y ρ hy ⟨u4, ord, rfl, eo, oko⟩
    obtain ⟨d, hd, rfl⟩ := get_map hy
    obtain ⟨z, hz, rfl⟩ := get_map hd
    have ho : (ys.map (look ns))[i]? = some (look ns z) := map_get hz
    obtain ⟨il, e3⟩ := List.getElem?_eq_some_iff.mp ho
    have et : meets [] ((ys.map (look ns)).take (i + 1)) = meet ord (look ns z) := by
      rw [List.take_succ_eq_append_getElem il, e3, meets_snoc, eo]
    have ok2 := meet_ok oko (hro _ (List.mem_of_getElem? ho))
    have el := oko.len
    obtain ⟨j, hj1, hj2⟩ := nm_at ok.nn (hmem z (List.mem_of_getElem? hz))
    walk_at "d"
    refine d_dgetv rfl rfl rfl hj1 hj2 rfl ?_
    walk_at "d"
    walk_at "cw"
    refine ⟨a3, ord, look ns z, rfl, by omega, ?_⟩
    walk_at "bk"
    walk_at "d"
    exact ⟨_, _, rfl, et.symm, ok2⟩
  · rintro ρ ⟨u4, ord, rfl, eo, oko⟩
    rw [List.length_map, List.length_map, show ys.length = (ys.map (look ns)).length from (List.length_map ..).symm, List.take_length] at eo
    subst eo
    walk_at "d"
    have hrow : ∀ r ∈ os, ∀ v ∈ r, OkV os.length v := fun r h => (ok.ob.row r h).2
    refine d_while (fun m ρ => ∃ (u1 u2 u3 : T) (ord : List Nat) (i : Nat), ρ = [t1, t2, .sh (nmD ns), .lst a3 (jL ord), u1, .sh (.int (i : Nat)), u2, u3, .no] ∧ m = os.length - i ∧ BfsInv os (ys.map (look ns)) ord i) (os.length - 0) ⟨_, _, _, _, 0, rfl, rfl, bfs_start hro⟩ ?_
    rintro m ρ ⟨u1, u2, u3, ord, i, rfl, rfl, BI⟩
    walk_at "d"
    rw [jL_len]
    refine d_iB (fun c1 => ?_) (fun c1 => ?_)
    · have il : i < ord.length := by
        have : (i : Int) < ord.length := by simpa using c1
        omega
      have el := BI.ok.len
      have hk1 : ord[i]? = some ord[i] := List.getElem?_eq_getElem il
      have kl : ord[i] < os.length := BI.ok.lt _ (List.getElem_mem il)
      have BI2 := bfs_turn BI hk1 hrow
      have eg : os.getD ord[i] [] = os[ord[i]] := by rw [List.getD_eq_getElem?_getD, List.getElem?_eq_getElem kl]; rfl
      have oko := BI.ok
      rw [eg] at BI2
      generalize ord[i] = kk at hk1 kl BI2 eg
      have hrk := ok.ob.row _ (List.getElem_mem kl)
      have hrw : os[kk]? = some os[kk] := List.getElem?_eq_getElem kl
      generalize os[kk] = row at hrk BI2 eg hrw
      walk_at "d"
      refine d_var rfl hrd2 ?_
      walk_at "d"
      refine d_ixL ⟨rfl, rfl⟩ rfl (ixN_nat (j := i) (by rw [jL_len]; exact il)) (map_get hk1) rfl ?_
      refine d_ixL (by exact hrs2 _ rfl) hk2 (ixN_nat (j := kk) (by simp [objsD]; exact kl)) (map_get (map_get hrw)) rdk_sh ?_
      walk_at "d"
      refine d_var rfl hrd1 ?_
      refine ⟨t1, by exact hrs1 _ rfl, _, _, hkF, allSh_map _, fun j ρ => ∃ (u3 : T) (od : List Nat), ρ = [t1, t2, .sh (nmD ns), .lst a3 (jL od), u1, .sh (.int (i : Nat)), .sh (rowD fs row), u3, .no] ∧ od = meets ord (row.take j) ∧ OkOrd os.length od, ⟨_, _, rfl, rfl, oko⟩, fun j ρ ⟨_, _, e, _⟩ => by rw [e]; exact hrs1 _ rfl, ?_, ?_⟩
      · rintro j y ρ hy ⟨u3, od, rfl, eo, oko4⟩
        obtain ⟨d, hd, rfl⟩ := get_map hy
        obtain ⟨z, hz, rfl⟩ := get_map hd
        have jl : j < row.length := by rw [hrk.1]; exact (List.getElem?_eq_some_iff.mp hz).1
        have ho : row[j]? = some row[j] := List.getElem?_eq_getElem jl
        have et : meets ord (row.take (j + 1)) = meet od row[j] := by rw [List.take_succ_eq_append_getElem jl, meets_snoc, eo]
        have ok2 := meet_ok oko4 (hrk.2 _ (List.getElem_mem jl))
        have el4 := oko4.len
        generalize row[j] = o at ho et ok2
        obtain ⟨kf, kv⟩ := rowD_at ok.fn hrk.1 hz ho
        walk_at "d"
        refine d_dgetv rfl rfl rfl kf (by rw [List.map_map]; exact kv) rfl ?_
        walk_at "d"
        walk_at "cw"
        refine ⟨a3, od, o, rfl, by omega, ?_⟩
        walk_at "bk"
        walk_at "d"
        exact ⟨_, _, rfl, et.symm, ok2⟩
      · rintro ρ ⟨u3, od, rfl, eo, oko4⟩
        rw [List.length_map, List.length_map, ← hrk.1, List.take_length] at eo
        subst eo
        walk_at "d"
        exact ⟨os.length - (i + 1), by omega, _, _, _, _, i + 1, rfl, rfl, BI2⟩
    · have hle : ord.length ≤ i := by
        have : ¬ (i : Int) < ord.length := by simpa using c1
        omega
      walk_at "d"
      have ee := bfs_end BI hle
      rw [ee]
      exact q

theorem gd_fs {fs : List Str} (h : ∀ z ∈ fs, IsW z) : Gd 1 (.tuple (fs.map .str)) := Gd.tup fun y hy => by
  obtain ⟨z, hz, rfl⟩ := List.mem_map.mp hy
  exact .str (h z hz)
theorem fs_py (fs : List Str) : (D.tup (fs.map dS)).py = some (.tuple (fs.map .str)) := by
  show (D.pyL (fs.map dS)).map PyData.tuple = _
  rw [pyL_map (g := PyData.str) (fun _ => rfl)]
  rfl
theorem ys_py (a : Addr) (ys : List Str) : (T.lst a (ys.map fun z => T.sh (.str z))).py = some (.list (ys.map .str)) := by
  rw [strs_sh]
  show (allSh ((ys.map dS).map T.sh)).bind (fun ds => (D.pyL ds).map PyData.list) = _
  rw [allSh_map]
  show (D.pyL (ys.map dS)).map PyData.list = _
  rw [pyL_map (g := PyData.str) (fun _ => rfl)]
  rfl
theorem gd_ys {ys : List Str} (h : ∀ z ∈ ys, IsW z) : Gd 1 (.list (ys.map .str)) := Gd.lst fun y hy => by
  obtain ⟨z, hz, rfl⟩ := List.mem_map.mp hy
  exact .str (h z hz)
/-! is this heap the normal form, as the law asks it -/
def sIsNorm (C : Addr) : SpecD := fun ts Q _ => ∃ (t0 t1 t2 : T) (fs : List Str) (os : List (List (Option Nat))) (ns : List (Str × Option Nat)) (ys : List Str), ts = [t0, t1, t2, .sh (nmD ns)] ∧ HpT C t0 fs (nrmO os ns ys) (nrmN os ns ys) ys ∧ LD t1 (fs.map dS) ∧ LD t2 (objsD fs os) ∧ OkH fs os ns ∧ ys.Perm (ns.map Prod.fst) ∧ sortedS ys = true ∧ Q (.sh (.bl true)) ts
theorem ok_l_is_normal {f C : Addr} {fd : FuncData} (F : Fun K "_law_is_normal" "_law_is_normal" s_l_is_normal f fd) (B : Blt mg) (Y : HCls K C) (C_l_order : Cal P w K mg base CX0 2 "_law_order" (spD true sOrder)) (C_l_new : Cal P w K mg base CX0 1 "_law_new" (spD false sNew)) (C_l_same : Cal P w K mg base CX0 2 "_law_same" (spD false sSame))
    (M_Heap_objects : Met P w K mg base CX0 1 C "objects" (spD false (sObjsH C))) (M_Heap_names : Met P w K mg base CX0 1 C "names" (spD false (sNamesH C))) (M_Heap_len : Met P w K mg base CX0 1 C "__len__" (spD false (sLenH C))) : FnOk P w K mg base CX0 3 f fd ["_law_heap", "_law_fields", "_law_objects_here", "_law_names_here"] (spD true (sIsNorm C)) := by
  refine F.ok sc_l_is_normal (lenD fun ts Q χ ⟨_, _, _, _, _, _, _, e, _⟩ => by rw [e]; rfl) (fun cdv A outer s H vs Q E hr h => ?_)
  have hu := hu_of hr
  refine bodyD [0, 1, 2, 3] h (pss_cons (ps_set (i := 4) sc_l_is_normal.nd rfl (.inl rfl) (pe_c C_l_order hr (by decide) (by rfl) (pa_cons (pv 1) (pa_cons (pv 2) (pa_cons (pv 3) pa_nil)))))
      (pss_cons (ps_set (i := 5) sc_l_is_normal.nd rfl (.inl rfl) (pe_mx0 M_Heap_objects hr (by decide) pass0 (pv 0)))
      (pss_cons (ps_if (PW.pt (pw_or (pt_cmpR (op_neD hr.units) (pe_fld (pv 0) rfl) (pe_callTy c_tuple (by rfl) B.tuple (by decide +kernel) (pa_cons (pv 1) pa_nil)) (nomark _)) (pw_or (pt_cmpR op_ne (pe_callB c_len (by rfl) B.len (by decide +kernel) (pa_cons (pv 5) pa_nil)) (pe_callB c_len (by rfl) B.len (by decide +kernel) (pa_cons (pv 4) pa_nil)) (nomark _)) (pw_or1 (pt_cmpR op_ne (pe_callB (c_lenO M_Heap_len hr (by decide) pass0) (by rfl) B.len (by decide +kernel) (pa_cons (pv 0) pa_nil)) (pe_callB c_len (by rfl) B.len (by decide +kernel) (pa_cons (pv 4) pa_nil)) (nomark _))))))
        (pss_one (ps_ret pe_bl)) pss_nil)
      (pss_cons (ps_for PassesOwn.never rfl (pi_range1 rfl B.range (pa_cons (pe_callB c_len (by rfl) B.len (by decide +kernel) (pa_cons (pv 4) pa_nil)) pa_nil)) (pg_name (i := 6) sc_l_is_normal.nd rfl (.inl rfl))
        (pss_cons (ps_if (pt_cmpR op_ne (pe_callB c_lenR (by rfl) B.len (by decide +kernel) (pa_cons (pe_ix ix_list (pv 5) (pv 6) (fun _ _ => rfl)) pa_nil)) (pe_callB c_len (by rfl) B.len (by decide +kernel) (pa_cons (pv 1) pa_nil)) (nomark _))
        (pss_one (ps_ret pe_bl)) pss_nil)
      (pss_one (ps_for PassesOwn.never rfl (pi_list (pv 1)) (pg_name (i := 7) sc_l_is_normal.nd rfl (.inl rfl))
        (pss_one (ps_if (pt_not (pt_val (pe_c C_l_same hr (by decide) (by rfl) (pa_cons (pe_dget hu (by exact (pe_ix ix_list (pv 5) (pv 6) (fun _ _ => rfl))) (by exact (pv 7)) (fun _ _ => rfl)) (pa_cons (pe_c C_l_new hr (by decide) (by rfl) (pa_cons (pv 4) (pa_cons (pe_dget hu (by exact (pe_ix ix_list (pv 2) (pe_ix ix_list (pv 4) (pv 6) (fun _ _ => rfl)) (fun _ _ => rfl))) (by exact (pv 7)) (fun _ _ => rfl)) pa_nil))) pa_nil)))))
        (pss_one (ps_ret pe_bl)) pss_nil))))))
      (pss_cons (ps_set (i := 8) sc_l_is_normal.nd rfl (.inl rfl) (pe_mx0 M_Heap_names hr (by decide) pass0 (pv 0)))
      (pss_cons (ps_if (pt_cmpR (op_neD hr.units) (pe_callB cr_sortedS (by rfl) B.sorted (by decide +kernel) (pa_cons (pe_lock (pe_lc (te := (tVar 10)) (own := [("_law_word_here", 10)]) (g := gName 10) (tt := tYes) rfl sc_l_is_normal.nd (pi_keys (pv 8)) (blkOk_by (own := [("_law_word_here", 10)]) (N := ["_law_heap", "_law_fields", "_law_objects_here", "_law_names_here", "_law_order_here", "_law_told", "_law_k", "_law_field", "_law_holders", "_law_name", "_law_word_here"]) (sc := defScope s_l_is_normal) (by decide +kernel)) (fun _ _ _ _ _ => by exact (pg_name (i := 10) sc_l_is_normal.nd rfl (by first | exact Or.inl rfl | exact Or.inr rfl))) (fun _ _ _ _ _ => by exact pts_nil) (fun _ _ _ _ _ => by exact (pv 10)))) pa_nil)) (pe_callB cr_sortedS (by rfl) B.sorted (by decide +kernel) (pa_cons (pe_lock (pe_lc (te := (tVar 10)) (own := [("_law_word_here", 10)]) (g := gName 10) (tt := tYes) rfl sc_l_is_normal.nd (pi_keys (pv 3)) (blkOk_by (own := [("_law_word_here", 10)]) (N := ["_law_heap", "_law_fields", "_law_objects_here", "_law_names_here", "_law_order_here", "_law_told", "_law_k", "_law_field", "_law_holders", "_law_name", "_law_word_here"]) (sc := defScope s_l_is_normal) (by decide +kernel)) (fun _ _ _ _ _ => by exact (pg_name (i := 10) sc_l_is_normal.nd rfl (by first | exact Or.inl rfl | exact Or.inr rfl))) (fun _ _ _ _ _ => by exact pts_nil) (fun _ _ _ _ _ => by exact (pv 10)))) pa_nil)) (nomark _))
        (pss_one (ps_ret pe_bl)) pss_nil)
      (pss_cons (ps_lockN (ps_for PassesOwn.never rfl (pi_keys (pv 3)) (pg_name (i := 9) sc_l_is_normal.nd rfl (.inl rfl))
        (pss_one (ps_if (pt_not (pt_val (pe_c C_l_same hr (by decide) (by rfl) (pa_cons (pe_dget hu (by exact (pv 8)) (by exact (pv 9)) (fun _ _ => rfl)) (pa_cons (pe_c C_l_new hr (by decide) (by rfl) (pa_cons (pv 4) (pa_cons (pe_dget hu (by exact (pv 3)) (by exact (pv 9)) (fun _ _ => rfl)) pa_nil))) pa_nil)))))
        (pss_one (ps_ret pe_bl)) pss_nil))))
      (pss_one (ps_ret pe_bl))))))))) 4 7 (fun ts Q χ ⟨_, _, _, _, _, _, _, e, _⟩ => by rw [e]; rfl) rfl ?_
  apply Exists.intro
  constructor
  · walk_at "ref"
  rintro ts Q1 χ ⟨t0, t1, t2, fs, os, ns, ys, rfl, hH, hL1, hL2, ok, pe, hs, q⟩
  obtain ⟨t0', hrd0, hrs0, hob0, hc0⟩ := hH.rd 0
  obtain ⟨t1', hrd1, hrs1, hkF, hkF', hv1⟩ := hL1.rd 1
  obtain ⟨t2', hrd2, hrs2, hkO, hkO', hv2⟩ := hL2.rd 2
  obtain ⟨l0, le0, ba0⟩ := lendS hrd0
  obtain ⟨l1, le1, ba1⟩ := lendS hrd1
  obtain ⟨l2, le2, ba2⟩ := lendS hrd2
  have ok2 : OkH fs (nrmO os ns ys) (nrmN os ns ys) := okH_normal ok pe
  have ol2 := ok2.ol
  have cl : Closed os (ys.map (look ns)) (ordH os ns ys) := closedH ok
  have nlen : (nrmO os ns ys).length = (ordH os ns ys).length := by unfold nrmO nOs; rw [List.length_map]
  walk_at "d"
  refine d_var rfl hrd1 ?_
  walk_at "d"
  refine d_var rfl hrd2 ?_
  walk_at "d"
  refine d_cw (le1 _ _ _ _ _ rfl (le2 _ _ _ _ _ rfl (.keep (.nil _)))) ?_
  refine ⟨t1, t2, fs, os, ns, rfl, hL1, hL2, ok, fun ys' a4 hp' hs' => ?_⟩
  have ey : ys' = ys := sortedS_unique hs' hs (hp'.trans pe.symm)
  subst ey
  refine d_back (ba1 _ _ _ _ rfl (ba2 _ _ _ _ rfl (.skip (.nil _)))) ?_
  walk_at "d"
  refine d_var rfl hrd0 ?_
  refine d_recv (by exact hrs0 _ rfl) hc0 (by decide +kernel) ?_
  walk_at "d"
  refine d_cw (le0 _ _ _ _ _ rfl (.nil _)) ?_
  refine ⟨t0, fs, _, _, ys', rfl, hH, by omega, fun a5 => ?_⟩
  refine d_back (ba0 _ _ _ _ rfl (.nil _)) ?_
  walk_at "d"
  refine d_var rfl hrd0 ?_
  refine d_fldv (n := 0) (by exact hrs0 _ rfl) hob0 ⟨Y.cl, Y.n1⟩ (by decide +kernel) rfl rdk_sh ?_
  walk_at "d"
  refine d_var rfl hrd1 ?_
  walk_at "d"
  refine d_tuple (by exact hrs1 _ rfl) hkF' (allSh_map _) ?_
  refine d_neD rfl rfl (fs_py fs) (fs_py fs) ((gd_fs ok.fw).shaped (by decide)) ((gd_fs ok.fw).shaped (by decide)) ?_
  rw [(gd_fs ok.fw).slf]
  walk_at "d"
  have e1 : ((objsD fs (nrmO os ns ys')).map T.sh).length = (jL (ordH os ns ys')).length := by rw [jL_len, ← nlen]; simp [objsD]
  rw [e1, decide_eq_true rfl]
  walk_at "d"
  refine d_var rfl hrd0 ?_
  walk_at "d"
  refine ⟨_, rfl, ⟨t0, by exact hrs0 _ rfl, _, hc0⟩, ?_⟩
  refine d_cw (le0 _ _ _ _ _ rfl (.nil _)) ?_
  refine ⟨t0, fs, _, _, ys', rfl, hH, ?_⟩
  refine d_back (ba0 _ _ _ _ rfl (.nil _)) ?_
  refine ⟨(nrmO os ns ys').length, by omega, rfl, ?_⟩
  walk_at "d"
  have e2 : (nrmO os ns ys').length = (jL (ordH os ns ys')).length := by rw [jL_len, ← nlen]
  rw [e2, decide_eq_true rfl]
  walk_at "d"
  refine ⟨_, rfl, ⟨by omega, by rw [jL_len]; omega⟩, fun i ρ => ∃ u6 u7, ρ = [t0, t1, t2, .sh (nmD ns), .lst a4 (jL (ordH os ns ys')), .lst a5 ((objsD fs (nrmO os ns ys')).map T.sh), u6, u7, .no, .no, .no], ⟨_, _, rfl⟩, fun _ _ _ => trivial, ?_, ?_⟩
  · rintro i y ρ hy ⟨u6, u7, rfl⟩
    have hi : i < (ordH os ns ys').length := by
      have := (List.getElem?_eq_some_iff.mp hy).1
      simpa [rngT, jL_len] using this
    obtain ⟨k0, hk0, rfl⟩ := get_map hy
    have ek0 : k0 = i := by
      obtain ⟨h1, h2⟩ := List.getElem?_eq_some_iff.mp hk0
      rw [List.getElem_range] at h2
      exact h2.symm
    subst ek0
    rw [show (0 : Int) + (k0 : Nat) = (k0 : Nat) from Int.zero_add _]
    have hord : (ordH os ns ys')[k0]? = some (ordH os ns ys')[k0] := List.getElem?_eq_getElem hi
    have kl : (ordH os ns ys')[k0] < os.length := cl.ok.lt _ (List.getElem_mem hi)
    have kcl := cl.cl _ (List.getElem_mem hi)
    have hN : (nrmO os ns ys')[k0]? = some ((os.getD (ordH os ns ys')[k0] []).map (rho (ordH os ns ys'))) := by
      unfold nrmO nOs
      exact map_get hord
    have hrw : os[(ordH os ns ys')[k0]]? = some os[(ordH os ns ys')[k0]] := List.getElem?_eq_getElem kl
    have eg : os.getD (ordH os ns ys')[k0] [] = os[(ordH os ns ys')[k0]] := by rw [List.getD_eq_getElem?_getD, hrw]; rfl
    have hrk := ok.ob.row _ (List.getElem_mem kl)
    rw [eg] at hN kcl
    generalize (ordH os ns ys')[k0] = kk at hord kl kcl hN hrw eg hrk
    generalize os[kk] = row at kcl hN hrw eg hrk
    walk_at "d"
    refine d_ixL ⟨rfl, rfl⟩ rfl (ixN_nat (j := k0) (by rw [e1, jL_len]; exact hi)) (map_get (map_get hN)) rfl ?_
    walk_at "d"
    refine d_var rfl hrd1 ?_
    walk_at "d"
    refine d_ln (by exact hrs1 _ rfl) hkF' ?_
    refine d_ne rfl rfl rfl ?_
    have e3 : (fs.map (Sum.inr : Str → Key)).length = ((fs.map dS).map T.sh).length := by simp
    rw [e3, decide_eq_true rfl]
    walk_at "d"
    refine d_var rfl hrd1 ?_
    have hl2 : (row.map (rho (ordH os ns ys'))).length = fs.length := by rw [List.length_map]; exact hrk.1
    refine ⟨t1, by exact hrs1 _ rfl, _, _, hkF, allSh_map _, fun j ρ => ∃ u7, ρ = [t0, t1, t2, .sh (nmD ns), .lst a4 (jL (ordH os ns ys')), .lst a5 ((objsD fs (nrmO os ns ys')).map T.sh), .sh (.int (k0 : Nat)), u7, .no, .no, .no], ⟨_, rfl⟩, fun j ρ ⟨_, e⟩ => by rw [e]; exact hrs1 _ rfl, ?_, ?_⟩
    · rintro j y ρ hy ⟨u7, rfl⟩
      obtain ⟨d, hd, rfl⟩ := get_map hy
      obtain ⟨z, hz, rfl⟩ := get_map hd
      have jl : j < row.length := by rw [hrk.1]; exact (List.getElem?_eq_some_iff.mp hz).1
      have ho : row[j]? = some row[j] := List.getElem?_eq_getElem jl
      have hom : row[j] ∈ row := List.getElem_mem jl
      generalize row[j] = o at ho hom
      obtain ⟨kf, kv⟩ := rowD_at ok.fn hrk.1 hz ho
      obtain ⟨kf2, kv2⟩ := rowD_at ok.fn hl2 hz (map_get (f := rho (ordH os ns ys')) ho)
      walk_at "d"
      refine d_ixL ⟨rfl, rfl⟩ rfl (ixN_nat (j := k0) (by rw [e1, jL_len]; exact hi)) (map_get (map_get hN)) rfl ?_
      walk_at "d"
      refine d_dgetv rfl rfl rfl kf2 (by rw [List.map_map]; exact kv2) rfl ?_
      walk_at "d"
      refine d_var rfl hrd2 ?_
      walk_at "d"
      refine d_ixL ⟨rfl, rfl⟩ rfl (ixN_nat (j := k0) (by rw [jL_len]; exact hi)) (map_get hord) rfl ?_
      refine d_ixL (by exact hrs2 _ rfl) hkO (ixN_nat (j := kk) (by simp [objsD]; exact kl)) (map_get (map_get hrw)) rdk_sh ?_
      walk_at "d"
      refine d_dgetv rfl rfl rfl kf (by rw [List.map_map]; exact kv) rfl ?_
      walk_at "d"
      walk_at "cw"
      refine ⟨_, ordH os ns ys', o, rfl, .inr ⟨a4, by rw [List.map_map]; rfl⟩, fun m em => kcl m (em ▸ hom), ?_⟩
      walk_at "bk"
      walk_at "d"
      walk_at "cw"
      refine ⟨rho (ordH os ns ys') o, rho (ordH os ns ys') o, rfl, ?_⟩
      walk_at "bk"
      rw [decide_eq_true rfl]
      walk_at "d"
      exact ⟨_, rfl⟩
    · rintro ρ ⟨u7, rfl⟩
      walk_at "d"
      exact ⟨_, _, rfl⟩
  · rintro ρ ⟨u6, u7, rfl⟩
    walk_at "d"
    refine d_var rfl hrd0 ?_
    refine d_recv (by exact hrs0 _ rfl) hc0 (by decide +kernel) ?_
    walk_at "d"
    refine d_cw (le0 _ _ _ _ _ rfl (.nil _)) ?_
    refine ⟨t0, fs, _, _, ys', rfl, hH, fun a8 => ?_⟩
    refine d_back (ba0 _ _ _ _ rfl (.nil _)) ?_
    refine d_name (of_decide_eq_true rfl) ?_
    refine d_p1 8 (d := nmD (nrmN os ns ys')) rfl (by unfold T.pub; rw [pubL_sh]; rfl) (d_p0 ?_)
    refine d_st (ρ' := [t0, t1, t2, .sh (nmD ns), .lst a4 (jL (ordH os ns ys')), .lst a5 ((objsD fs (nrmO os ns ys')).map T.sh), u6, u7, .sh (nmD (nrmN os ns ys')), .no, .no]) rfl ?_
    walk_at "d"
    have nl2 := ok2.nl
    have nl := ok.nl
    have ekN : (nrmN os ns ys').map Prod.fst = ys' := by unfold nrmN; exact nNs_keys
    refine d_lcK (ks := (nrmN os ns ys').map fun x => (Sum.inr x.1 : Key)) (ds := (nrmN os ns ys').map fun x => oV x.2) rfl (fun j ρ acc => ρ = [t0, t1, t2, .sh (nmD ns), .lst a4 (jL (ordH os ns ys')), .lst a5 ((objsD fs (nrmO os ns ys')).map T.sh), u6, u7, .sh (nmD (nrmN os ns ys')), .no, .no] ∧ acc = (((nrmN os ns ys').map Prod.fst).take j).map fun z => T.sh (.str z)) ⟨rfl, rfl⟩ (fun j ρ acc ⟨_, ea⟩ => by rw [ea]; simp only [List.length_map, List.length_take]; omega) ?_ ?_
    · rintro j ky ρ acc hky ⟨rfl, rfl⟩
      obtain ⟨x, hx, rfl⟩ := get_map hky
      have hx2 : ((nrmN os ns ys').map Prod.fst)[j]? = some x.1 := map_get hx
      obtain ⟨il, e3⟩ := List.getElem?_eq_some_iff.mp hx2
      walk_at "d"
      refine ⟨_, .inl rfl, rfl, ?_⟩
      rw [List.take_succ_eq_append_getElem il, e3, List.map_append]
      rfl
    rintro ρ acc ⟨rfl, rfl⟩ a9
    rw [List.length_map, show (nrmN os ns ys').length = ((nrmN os ns ys').map Prod.fst).length from (List.length_map ..).symm, List.take_length]
    walk_at "d"
    refine d_sortS (zs := (nrmN os ns ys').map Prod.fst) rfl rfl (by rw [List.length_map]; omega) fun ys2 a10 hp2 hs2 => ?_
    walk_at "d"
    refine d_lcK (ks := ns.map fun x => (Sum.inr x.1 : Key)) (ds := ns.map fun x => oV x.2) rfl (fun j ρ acc => ρ = [t0, t1, t2, .sh (nmD ns), .lst a4 (jL (ordH os ns ys')), .lst a5 ((objsD fs (nrmO os ns ys')).map T.sh), u6, u7, .sh (nmD (nrmN os ns ys')), .no, .no] ∧ acc = ((ns.map Prod.fst).take j).map fun z => T.sh (.str z)) ⟨rfl, rfl⟩ (fun j ρ acc ⟨_, ea⟩ => by rw [ea]; simp only [List.length_map, List.length_take]; omega) ?_ ?_
    · rintro j ky ρ acc hky ⟨rfl, rfl⟩
      obtain ⟨x, hx, rfl⟩ := get_map hky
      have hx2 : (ns.map Prod.fst)[j]? = some x.1 := map_get hx
      obtain ⟨il, e3⟩ := List.getElem?_eq_some_iff.mp hx2
      walk_at "d"
      refine ⟨_, .inl rfl, rfl, ?_⟩
      rw [List.take_succ_eq_append_getElem il, e3, List.map_append]
      rfl
    rintro ρ acc ⟨rfl, rfl⟩ a11
    rw [List.length_map, show ns.length = (ns.map Prod.fst).length from (List.length_map ..).symm, List.take_length]
    walk_at "d"
    refine d_sortS (zs := ns.map Prod.fst) rfl rfl (by rw [List.length_map]; omega) fun ys3 a12 hp3 hs3 => ?_
    have ey2 : ys2 = ys' := sortedS_unique hs2 hs (by rw [ekN] at hp2; exact hp2)
    have ey3 : ys3 = ys' := sortedS_unique hs3 hs (hp3.trans pe.symm)
    subst ey2 ey3
    have hyw : ∀ z ∈ ys3, IsW z := fun z hz => by
      obtain ⟨x, hx, rfl⟩ := List.mem_map.mp (pe.mem_iff.mp hz)
      exact (ok.nw x hx).1
    refine d_neD rfl rfl (ys_py _ _) (ys_py _ _) ((gd_ys hyw).shaped (by decide)) ((gd_ys hyw).shaped (by decide)) ?_
    rw [(gd_ys hyw).slf]
    walk_at "d"
    refine d_forK (ks := ns.map fun x => (Sum.inr x.1 : Key)) (ds := ns.map fun x => oV x.2) rfl (fun j ρ => ∃ u9, ρ = [t0, t1, t2, .sh (nmD ns), .lst a4 (jL (ordH os ns ys3)), .lst a5 ((objsD fs (nrmO os ns ys3)).map T.sh), u6, u7, .sh (nmD (nrmN os ns ys3)), u9, .no]) ⟨_, rfl⟩ ?_ ?_
    · rintro j ky ρ hky ⟨u9, rfl⟩
      obtain ⟨x, hx, rfl⟩ := get_map hky
      have xm : x.1 ∈ ns.map Prod.fst := List.mem_map.mpr ⟨x, List.mem_of_getElem? hx, rfl⟩
      have xy : x.1 ∈ ys3 := pe.mem_iff.mpr xm
      obtain ⟨j1, hj1, hj2⟩ := nm_at ok.nn xm
      obtain ⟨j3, hj3, hj4⟩ := nm_at ok2.nn (z := x.1) (by rw [ekN]; exact xy)
      have el : look (nrmN os ns ys3) x.1 = rho (ordH os ns ys3) (look ns x.1) := by
        unfold nrmN
        exact nNs_look (pe.nodup_iff.mpr ok.nn) xy
      rw [el] at hj4
      walk_at "d"
      refine d_dgetv rfl rfl rfl hj3 hj4 rfl ?_
      walk_at "d"
      refine d_dgetv rfl rfl rfl hj1 hj2 rfl ?_
      walk_at "d"
      walk_at "cw"
      refine ⟨_, ordH os ns ys3, look ns x.1, rfl, .inr ⟨a4, by rw [List.map_map]; rfl⟩, fun m em => cl.rt m (List.mem_map.mpr ⟨x.1, xy, em⟩), ?_⟩
      walk_at "bk"
      walk_at "d"
      walk_at "cw"
      refine ⟨rho (ordH os ns ys3) (look ns x.1), rho (ordH os ns ys3) (look ns x.1), rfl, ?_⟩
      walk_at "bk"
      rw [decide_eq_true rfl]
      walk_at "d"
      exact ⟨_, rfl⟩
    · rintro ρ ⟨u9, rfl⟩
      walk_at "d"
      exact q


/-! the law's first line by the heap, all behind it by data -/
def scrE (K : PySem.W.Frag) : TE := tLst (tCons (tCB (rListQ K) (tCons (tSl (rSlL K) (tVar 0) tNoPart (tPart (tC (.int 63)))) tNil)) (tCons (tC (.int 0)) (tCons (tC (.int 0)) tNil)))
def spLawD (K : PySem.W.Frag) : Sp := fun vs H Q _ => ∃ (a : Addr) (ns : List Int), vs = [.ref a] ∧ Calm H ∧ SqL K H a (ns.map V.int) ∧ ∀ H', Q (.bl true) H'
theorem calm_only {H : Hp} (h : Only H) : Calm H := fun a o kvs e => by
  rcases h a with h | ⟨o', xs, h⟩ <;> rw [h] at e <;> cases e
def kLaw : WK := ⟨fun _ => False, fun t _ => t = .sh (.bl true), fun _ => False, fun _ => False, noX⟩
theorem bodyL {Q : VK} {H : Hp} {a : Addr} {ns : List Int} {N : List Str} {X : L2.Cx} {body : List Stmt} {t2 : TS} (hcal : Calm H) (hS : SqL K H a (ns.map V.int)) (q : ∀ H', Q (.bl true) H') (hN : 2 ≤ N.length) (ht : PSs X body (tSeq (tAsg (scrE K) (gName 1)) t2))
    (hw : ∃ w, RfS [] (W0 true) t2 w ∧ ∀ p c, w kLaw (.no :: poolT p c (ns.take 63) 0 0 :: List.replicate (N.length - 2) .no)) : ∃ t, PSs X body t ∧ t { nx := fun _ H' => Q .non H', rt := Q } (L2.start N [.ref a]) H := by
  obtain ⟨w, hr, hw⟩ := hw
  obtain ⟨m, hm⟩ : ∃ m, N.length = m + 2 := ⟨N.length - 2, by omega⟩
  have est : L2.start N [.ref a] = some (.ref a) :: none :: List.replicate m none := by
    unfold L2.start
    rw [hm]
    rfl
  refine ⟨_, ht, ?_⟩
  rw [est]
  refine g_seq ?_
  refine g_asg ?_
  unfold scrE
  walk_at "go"
  refine ⟨63, rfl, g_slL hS fun sl hsl => ?_⟩
  walk_at "go"
  rw [show cutV (ns.map V.int) none (some 63) = (ns.take 63).map V.int by rw [show (63 : Int) = ((63 : Nat) : Int) from rfl, cut_to, List.map_take]]
  refine g_list (lq upd_same) fun c hc => ?_
  walk_at "go"
  refine ⟨szl (by show 3 ≤ 10000; decide), fun p hp => ?_⟩
  have fA : Fr NoA H (upd (upd (upd H sl (.lst ((ns.take 63).map V.int))) c (.lst ((ns.take 63).map V.int))) p (.lst [.ref c, .int 0, .int 0])) := ((Fr.new hsl).then_new hc).then_new hp
  have hcH : H c = none := (Fr.new (S := NoA) (o := .lst ((ns.take 63).map V.int)) hsl).free _ hc
  have hpH : H p = none := ((Fr.new (S := NoA) (o := .lst ((ns.take 63).map V.int)) hsl).then_new (o := .lst ((ns.take 63).map V.int)) hc).free _ hp
  have hpc : p ≠ c := fun z => by rw [z, upd_same] at hp; cases hp
  have e1 : (upd (upd (upd H sl (.lst ((ns.take 63).map V.int))) c (.lst ((ns.take 63).map V.int))) p (.lst [.ref c, .int 0, .int 0])) p = some (.lst [.ref c, .int 0, .int 0]) := upd_same
  have e2 : (upd (upd (upd H sl (.lst ((ns.take 63).map V.int))) c (.lst ((ns.take 63).map V.int))) p (.lst [.ref c, .int 0, .int 0])) c = some (.lst ((ns.take 63).map V.int)) := by rw [upd_ne hpc.symm, upd_same]
  have nf : ∀ b o kvs, (upd (upd (upd H sl (.lst ((ns.take 63).map V.int))) c (.lst ((ns.take 63).map V.int))) p (.lst [.ref c, .int 0, .int 0])) b = some (.frz o (.dK kvs)) → H b = some (.frz o (.dK kvs)) := fun b o kvs z => by
    unfold upd at z
    repeat (split at z; · cases z)
    exact z
  generalize upd (upd (upd H sl (.lst ((ns.take 63).map V.int))) c (.lst ((ns.take 63).map V.int))) p (.lst [.ref c, .int 0, .int 0]) = HA at fA e1 e2 nf ⊢
  walk_at "go"
  show t2 _ (some (.ref a) :: some (.ref p) :: List.replicate m none) HA
  have hno : ∀ n, ownsL (List.replicate n T.no) = [] := fun n => by
    induction n with
    | zero => rw [List.replicate_zero, ownsL]
    | succ n ih => rw [List.replicate_succ, ownsL, ih, T.owns]; rfl
  have eints : ((ns.take 63).map fun i => T.sh (.int i)) = ((ns.take 63).map D.int).map T.sh := by rw [List.map_map]; rfl
  have eow : ownsL (T.no :: poolT p c (ns.take 63) 0 0 :: List.replicate m T.no) = [p, c] := by
    unfold poolT
    rw [eints]
    simp only [ownsL_cons, T.owns, hno, ownsL_sh, ownsL_nil, List.append_nil, List.nil_append]
  have ok : Ok ⟨H, fun _ => False, NoA⟩ HA (some (.ref a) :: some (.ref p) :: List.replicate m none) (T.no :: poolT p c (ns.take 63) 0 0 :: List.replicate m T.no) := by
    refine ⟨by simp, fun k x t h1 h2 => ?_, fun b => ?_, fun b hb => ?_, fA, nf⟩
    · match k, h1, h2 with
      | 0, h1, h2 => cases h2; exact .no _
      | 1, h1, h2 =>
        cases h1
        cases h2
        refine .lst e1 rfl fun j v t q1 q2 => ?_
        match j, q1, q2 with
        | 0, q1, q2 =>
          cases q1
          cases q2
          refine .lst e2 (by simp) fun i v t r1 r2 => ?_
          obtain ⟨z, hz, rfl⟩ := get_map r1
          obtain ⟨z', hz', rfl⟩ := get_map r2
          rw [hz] at hz'
          cases hz'
          exact .sh (.int _)
        | 1, q1, q2 => cases q1; cases q2; exact .sh (.int _)
        | 2, q1, q2 => cases q1; cases q2; exact .sh (.int _)
        | j + 3, q1, q2 => simp at q1
      | k + 2, h1, h2 =>
        have h2 : (List.replicate m T.no)[k]? = some t := by simpa using h2
        rw [List.getElem?_replicate] at h2
        split at h2
        · cases h2; exact .no _
        · cases h2
    · rw [eow]
      show List.count b [p, c] ≤ 1
      rw [List.count_cons, List.count_cons, List.count_nil]
      by_cases q1 : p = b
      · subst q1
        simp [hpc.symm]
      · simp [q1]
        split <;> omega
    · rw [eow] at hb
      rcases List.mem_cons.mp hb with rfl | hb
      · exact .inr hpH
      · rw [List.mem_singleton.mp hb]
        exact .inr hcH
  rw [hm] at hw
  refine hr _ _ _ ⟨⟨H, fun _ => False, NoA⟩, [], _, [], kLaw, ⟨by rw [List.append_nil, List.append_nil]; exact ok, by simp⟩, hw p c, ?_⟩
  refine ⟨fun _ _ _ h => h.elim, fun t ρ' v σ' H' h _ e => ?_, fun _ _ _ h => h.elim, fun _ _ _ h => h.elim, fun _ _ _ _ _ _ _ h => h.elim, fun _ => hcal⟩
  have h : t = .sh (.bl true) := h
  subst h
  have r := e.last
  cases r with
  | sh r =>
  cases r
  exact q H'

/-! a heap of good parts -/
theorem init_good {a C CI : Addr} {t1 t2 t3 : T} {fs : List Str} {os : List (List (Option Nat))} {nm : List (Str × Option Nat)} {Q : T → List T → Prop} {χ : Addr → List Str → List D → List T → Prop} (h1 : LT t1 (fs.map dS)) (h2 : LD t2 (objsD fs os)) (h3 : t3 = .sh (nmD nm) ∨ ∃ b, t3 = .dK b (nm.map fun x => Sum.inr x.1) ((nm.map fun x => oV x.2).map T.sh)) (ok : OkH fs os nm)
    (q : ∀ ys : List Str, ys.Perm (nm.map Prod.fst) → sortedS ys = true → Q (.sh .non) [hpT a C fs os nm ys, t1, t2, .sh (nmD nm)]) : sInit C CI [.obj a C [] [], t1, t2, t3] Q χ := by
  have ek : Z.nmK (noD nm) = nm.map fun x => Sum.inr x.1 := by
    unfold Z.nmK noD
    rw [List.map_map]
    rfl
  have ev : nmV (noD nm) = nm.map fun x => oV x.2 := by
    unfold nmV noD
    rw [List.map_map]
    rfl
  have ed : nmD nm = .dK (Z.nmK (noD nm)) (nmV (noD nm)) := by rw [ek, ev]; rfl
  refine ⟨a, t1, t2, t3, fs, objsD fs os, noD nm, rfl, h1, fun z hz => short_w (ok.fw z hz), by have := ok.f2; omega, h2, fun d hd => ?_, ?_, by rw [noD_keys]; exact ok.nn, fun x hx => ?_, fun p w t3' hb _ => (okH_bad ok hb).elim, fun _ => ⟨os, nm, rfl, rfl, ok, fun ys pe hs => ?_⟩⟩
  · obtain ⟨row, hr, rfl⟩ := List.mem_map.mp hd
    exact fine_row fs (ok.ob.row row hr).1
  · rcases h3 with h3 | ⟨b, h3⟩
    · exact .inl (by rw [h3, ed])
    · exact .inr ⟨b, by rw [h3, ek, ev]⟩
  · obtain ⟨y, hy, rfl⟩ := List.mem_map.mp hx
    refine ⟨?_, short_w (ok.nw y hy).1⟩
    show D.ok (oV y.2)
    cases y.2 <;> exact ⟨_, rfl⟩
  · rw [← ed]
    exact q ys pe hs

/-! the law k04 -/
theorem keys_nd {zs : List Str} (h : zs.Nodup) : (zs.map (Sum.inr : Str → Key)).Nodup := List.Pairwise.map _ (fun _ _ h h2 => h (Sum.inr.inj h2)) h
theorem svs_oV : ∀ row : List (Option Nat), svs ((row.map oV).map T.sh) = some (row.map fun o => match o with | none => V.non | some k => V.int (k : Nat))
  | [] => rfl
  | none :: row => by
    show (svs ((row.map oV).map T.sh)).map _ = _
    rw [svs_oV row]
    rfl
  | some k :: row => by
    show (svs ((row.map oV).map T.sh)).map _ = _
    rw [svs_oV row]
    rfl
theorem svs_nm (nm : List (Str × Option Nat)) : svs ((nm.map fun x => oV x.2).map T.sh) = some ((nm.map Prod.snd).map fun o => match o with | none => V.non | some k => V.int (k : Nat)) := by
  rw [← svs_oV, List.map_map, List.map_map, List.map_map]
  rfl
theorem ok_law {f C CI : Addr} {fd : FuncData} (F : Fun K "law" "law" s_law f fd) (B : Blt mg) (Y : HCls K C) (T : TC mg C) (IC : IsC K C) (C_l_draw : Cal P w K mg base CX0 1 "_law_draw" (spD false sDraw)) (C_l_words : Cal P w K mg base CX0 3 "_law_words" (spD false sWords)) (C_l_objects : Cal P w K mg base CX0 3 "_law_objects" (spD false sObjects)) (C_l_names : Cal P w K mg base CX0 3 "_law_names" (spD false sNames)) (C_l_is_normal : Cal P w K mg base CX0 3 "_law_is_normal" (spD true (sIsNorm C)))
    (K_Heap : Mak P w K mg base (L2.CX P w) 5 "Heap" C (spD true (sInit C CI))) (M_Heap_normal : Met P w K mg base CX0 7 C "normal" (spD true (sNormal C CI))) (M_Heap_eq : Met P w K mg base CX0 1 C "__eq__" (spD false (sEqH C))) (M_Heap_objects : Met P w K mg base CX0 1 C "objects" (spD false (sObjsH C))) (M_Heap_names : Met P w K mg base CX0 1 C "names" (spD false (sNamesH C))) : FnOk P w K mg base CX0 8 f fd ["_law_script"] (spLawD K) := by
  refine F.ok sc_law (fun vs H Q E ⟨_, _, e, _⟩ => by rw [e]; rfl) (fun cdv A outer s H vs Q E hr h => ?_)
  have hu := hu_of hr
  obtain ⟨a, ns0, rfl, hcal, hS, q⟩ := h
  refine bodyL hcal hS q (by decide) (pss_cons (ps_set (i := 1) sc_law.nd rfl (.inl rfl) (pe_lst (pa_cons (pe_callTy c_list (by rfl) B.list (by decide +kernel) (pa_cons (pe_slice sl_list (pv 0) po_none (po_some pe_int)) pa_nil)) (pa_cons pe_int (pa_cons pe_int pa_nil)))))
      (pss_cons (ps_set (i := 2) sc_law.nd rfl (.inl rfl) pe_int)
      (pss_cons (ps_if (pt_cmpR op_eq (pe_c C_l_draw hr (by decide) (by rfl) (pa_cons (pv 1) (pa_cons pe_int pa_nil))) pe_int (nomark _))
        (pss_one (ps_set (i := 2) sc_law.nd rfl (.inl rfl) pe_int)) pss_nil)
      (pss_cons (ps_set (i := 3) sc_law.nd rfl (.inl rfl) (pe_c C_l_draw hr (by decide) (by rfl) (pa_cons (pv 1) (pa_cons (pv 2) pa_nil))))
      (pss_cons (ps_set (i := 4) sc_law.nd rfl (.inl rfl) (pe_c C_l_words hr (by decide) (by rfl) (pa_cons (pv 1) (pa_cons pe_int (pa_cons pe_int pa_nil)))))
      (pss_cons (ps_set (i := 5) sc_law.nd rfl (.inl rfl) (pe_c C_l_words hr (by decide) (by rfl) (pa_cons (pv 1) (pa_cons pe_int (pa_cons pe_int pa_nil)))))
      (pss_cons (ps_set (i := 6) sc_law.nd rfl (.inl rfl) (pe_c C_l_objects hr (by decide) (by rfl) (pa_cons (pv 1) (pa_cons (pv 4) (pa_cons (pv 3) pa_nil)))))
      (pss_cons (ps_set (i := 7) sc_law.nd rfl (.inl rfl) (pe_c C_l_names hr (by decide) (by rfl) (pa_cons (pv 1) (pa_cons (pv 5) (pa_cons (pv 3) pa_nil)))))
      (pss_cons (ps_set (i := 8) sc_law.nd rfl (.inl rfl) (pe_k K_Heap hr (by decide) passX0 (by rfl) (pa_cons (pv 4) (pa_cons (pe_lc (te := (tCB rDictQ (tCons (tVar 10) tNil))) (own := [("_law_item", 10)]) (g := gName 10) (tt := tYes) rfl sc_law.nd (pi_list (pv 6)) (blkOk_by (own := [("_law_item", 10)]) (N := ["_law_script", "_law_pool", "_law_size", "_law_count", "_law_fields", "_law_words_here", "_law_objects_here", "_law_names_here", "_law_heap", "_law_normal", "_law_item"]) (sc := defScope s_law) (by decide +kernel)) (fun _ _ _ _ _ => by exact (pg_name (i := 10) sc_law.nd rfl (by first | exact Or.inl rfl | exact Or.inr rfl))) (fun _ _ _ _ _ => by exact pts_nil) (fun _ _ _ _ _ => by exact (pe_callTy c_dict (by rfl) B.dict (by decide +kernel) (pa_cons (pv 10) pa_nil)))) (pa_cons (pe_callTy c_dict (by rfl) B.dict (by decide +kernel) (pa_cons (pv 7) pa_nil)) pa_nil)))))
      (pss_cons (ps_set (i := 9) sc_law.nd rfl (.inl rfl) (pe_mx0 M_Heap_normal hr (by decide) pass0 (pv 8)))
      (pss_cons (ps_if (PW.pt (pw_or (pt_not (pt_val (pe_callB c_isiC (by rfl) B.isinstance (by decide +kernel) (pa_cons (pv 9) (pa_cons (pe_gv (by rfl) T.c_Heap) pa_nil))))) (pw_or1 (pt_not (pt_val (pe_c C_l_is_normal hr (by decide) (by rfl) (pa_cons (pv 9) (pa_cons (pv 4) (pa_cons (pv 6) (pa_cons (pv 7) pa_nil))))))))))
        (pss_one (ps_ret pe_bl)) pss_nil)
      (pss_cons (ps_if (pt_not (pt_val (pe_c C_l_is_normal hr (by decide) (by rfl) (pa_cons (pe_mx0 M_Heap_normal hr (by decide) pass0 (pv 9)) (pa_cons (pv 4) (pa_cons (pv 6) (pa_cons (pv 7) pa_nil)))))))
        (pss_one (ps_ret pe_bl)) pss_nil)
      (pss_cons (ps_if (PW.pt (pw_or (pt_cmpR op_isntB (pe_cmpR (op_eqO M_Heap_eq hr (by decide) pass0) (pv 8) (pv 9) (nomark _)) pe_bl (nomark _)) (pw_or1 (pt_cmpR op_isntB (pe_cmpR (op_eqO M_Heap_eq hr (by decide) pass0) (pv 9) (pv 8) (nomark _)) pe_bl (nomark _)))))
        (pss_one (ps_ret pe_bl)) pss_nil)
      (pss_one (ps_ret (pe_and (pe_cmpR (op_eqLH (n := 3) (hr.mono (by decide))) (pe_mx0 M_Heap_objects hr (by decide) pass0 (pv 8)) (pv 6) (nomark _)) (pe_and (pe_cmpR (op_eq_dictA hr.units0) (pe_mx0 M_Heap_names hr (by decide) pass0 (pv 8)) (pv 7) (nomark _)) (pe_one (pe_c C_l_is_normal hr (by decide) (by rfl) (pa_cons (pe_mx0 M_Heap_normal hr (by decide) pass0 (pv 8)) (pa_cons (pv 4) (pa_cons (pv 6) (pa_cons (pv 7) pa_nil))))))))))))))))))))))) ?_
  apply Exists.intro
  constructor
  · walk_at "ref"
  intro p c
  refine d_seq (d_asg (d_c (d_name (of_decide_eq_true rfl) (d_p0 ?_))))
  refine d_seqR (fun ρ => ∃ (sz : Nat) (ns : List Int) (a n : Int), ρ = [.no, poolT p c ns a n, .sh (.int (sz : Nat)), .no, .no, .no, .no, .no, .no, .no, .no] ∧ (0 ≤ a ∧ 0 ≤ n) ∧ 1 ≤ sz ∧ sz ≤ 201) ?_ fun NX hNX => ?_
  rotate_left
  · walk_at "d"
    walk_at "cw"
    refine ⟨p, c, _, 0, 0, 8, rfl, by decide, by decide, by decide, fun r ns1 a1 n1 r0 r1 h1 => ?_⟩
    walk_at "bk"
    walk_at "d"
    refine d_iB (fun c1 => ?_) (fun c1 => ?_)
    · walk_at "d"
      exact hNX _ ⟨201, ns1, a1, n1, rfl, h1, by decide, by decide⟩
    · walk_at "d"
      exact hNX _ ⟨12, ns1, a1, n1, rfl, h1, by decide, by decide⟩
  rintro ρ ⟨sz, ns, a, n, rfl, h0, sz1, sz2⟩
  walk_at "d"
  walk_at "cw"
  refine ⟨p, c, ns, a, n, sz, rfl, h0, by omega, by omega, fun r ns1 a1 n1 r0 r1 h1 => ?_⟩
  obtain ⟨cn, rfl⟩ : ∃ cn : Nat, r = (cn : Nat) := ⟨r.toNat, by omega⟩
  have hcn : cn ≤ 200 := by omega
  walk_at "bk"
  walk_at "d"
  walk_at "cw"
  refine ⟨p, c, ns1, a1, n1, 1, 2, rfl, h1, by decide, by decide, fun l4 fs ns2 a2 n2 fw fn f1 f2 h2 => ?_⟩
  walk_at "bk"
  walk_at "d"
  walk_at "cw"
  refine ⟨p, c, ns2, a2, n2, 0, 6, rfl, h2, by decide, by decide, fun l5 zs ns3 a3 n3 zw zn z1 z2 h3 => ?_⟩
  walk_at "bk"
  walk_at "d"
  walk_at "cw"
  refine ⟨p, c, ns3, a3, n3, _, fs, cn, rfl, h3, .inr ⟨_, rfl⟩, fn, by omega, by omega, fun l6 os ns4 a4 n4 oo h4 => ?_⟩
  walk_at "bk"
  walk_at "d"
  walk_at "cw"
  refine ⟨p, c, ns4, a4, n4, _, zs, cn, rfl, h4, .inr ⟨_, rfl⟩, zn, by omega, by omega, fun l7 nm ns5 a5 n5 ez ov h5 => ?_⟩
  walk_at "bk"
  have ok : OkH fs os nm := { fw := fw, fn := fn, f1 := f1, f2 := f2, ob := by rw [oo.len]; exact oo, ol := by rw [oo.len]; omega, nn := by rw [ez]; exact zn, nl := by have := congrArg List.length ez; rw [List.length_map] at this; omega, nw := fun x hx => ⟨zw x.1 (by rw [← ez]; exact List.mem_map_of_mem hx), by rw [oo.len]; exact ov x hx⟩ }
  have ol := ok.ol
  (apply d_nameN); exact of_decide_eq_true rfl; walk_at "nz"
  (apply d_p1N 7); exact rfl; (unfold _root_.E.T.pub; rw [pubL_sh]; rfl); walk_at "nz"
  walk_at "d"
  refine ⟨_, ⟨rfl, rfl⟩, _, _, rfl, allSh_map _, fun i ρ acc => ρ = [.no, poolT p c ns5 a5 n5, .sh (.int (sz : Nat)), .sh (.int (cn : Nat)), .lst l4 ((fs.map dS).map _root_.E.T.sh), .lst l5 ((zs.map dS).map _root_.E.T.sh), .lst l6 ((objsD fs os).map _root_.E.T.sh), .sh (nmD nm), .no, .no, .no] ∧ acc = ((objsD fs os).take i).map _root_.E.T.sh, ⟨rfl, rfl⟩, fun i ρ acc ⟨e, ea⟩ => ⟨by rw [e]; exact ⟨rfl, rfl⟩, by rw [ea]; simp only [List.length_map, List.length_take, objsD]; omega⟩, ?_, ?_⟩
  · rintro i y ρ acc hy ⟨rfl, rfl⟩
    obtain ⟨d, hd, rfl⟩ := get_map hy
    obtain ⟨il, e3⟩ := List.getElem?_eq_some_iff.mp hd
    obtain ⟨row, hrow, rfl⟩ := get_map hd
    walk_at "d"
    refine d_dict rfl rfl (allSh_map _) fun b => ?_
    walk_at "d"
    refine ⟨_, .inr ⟨rowD fs row, ?_, rfl⟩, rfl, ?_⟩
    · unfold _root_.E.T.pub
      rw [pubL_sh]
      rfl
    · rw [List.take_succ_eq_append_getElem il, e3, List.map_append]
      rfl
  rintro ρ acc ⟨rfl, rfl⟩ l8
  rw [List.length_map, List.take_length]
  walk_at "d"
  refine d_dict rfl rfl (allSh_map _) fun l9 => ?_
  walk_at "d"
  intro la
  refine ⟨_, _, _, by walk_at "lend", init_good (.inl (.inr ⟨_, rfl⟩)) (.inr ⟨_, rfl⟩) (.inr ⟨_, rfl⟩) ok fun ys pe hs => ⟨rfl, _, _, _, rfl, by walk_at "back", ?_⟩⟩
  walk_at "d"
  have ok2 : OkH fs (nrmO os nm ys) (nrmN os nm ys) := okH_normal ok pe
  have kN : (nrmN os nm ys).map Prod.fst = ys := by unfold nrmN; exact nNs_keys
  have pe2 : ys.Perm ((nrmN os nm ys).map Prod.fst) := by rw [kN]
  have eO : nrmO (nrmO os nm ys) (nrmN os nm ys) ys = nrmO os nm ys := nOs_again ok pe
  have eN : nrmN (nrmO os nm ys) (nrmN os nm ys) ys = nrmN os nm ys := nNs_again ok pe
  have hyw : ∀ z ∈ ys, IsW z := fun z hz => by
    obtain ⟨x, hx, rfl⟩ := List.mem_map.mp (pe.mem_iff.mp hz)
    exact (ok.nw x hx).1
  have eS : PyData.eqv (shapeD fs ys nm os) (shapeD fs ys (nrmN os nm ys) (nrmO os nm ys)) = true := by
    rw [show shapeD fs ys (nrmN os nm ys) (nrmO os nm ys) = shapeD fs ys nm os from shape_same ok pe]
    exact (gd_shape fw hyw).slf
  have eS2 : PyData.eqv (shapeD fs ys (nrmN os nm ys) (nrmO os nm ys)) (shapeD fs ys nm os) = true := by
    rw [show shapeD fs ys (nrmN os nm ys) (nrmO os nm ys) = shapeD fs ys nm os from shape_same ok pe]
    exact (gd_shape fw hyw).slf
  refine d_recv ⟨rfl, rfl⟩ rfl (by decide +kernel) ?_
  walk_at "d"
  walk_at "cw"
  refine ⟨_, fs, os, nm, ys, rfl, .inl ⟨la, rfl⟩, ok, pe, hs, fun lb => ?_⟩
  walk_at "bk"
  walk_at "d"
  refine d_isiC1 ⟨rfl, rfl⟩ IC rfl ?_
  walk_at "d"
  walk_at "cw"
  refine ⟨_, _, _, fs, os, nm, ys, rfl, .inl ⟨lb, rfl⟩, .inr ⟨_, rfl⟩, .inr ⟨_, rfl⟩, ok, pe, hs, ?_⟩
  walk_at "bk"
  walk_at "d"
  refine d_recv ⟨rfl, rfl⟩ rfl (by decide +kernel) ?_
  walk_at "d"
  walk_at "cw"
  refine ⟨_, fs, _, _, ys, rfl, .inl ⟨lb, rfl⟩, ok2, pe2, hs, fun lc => ?_⟩
  rw [eO, eN]
  walk_at "bk"
  walk_at "d"
  walk_at "cw"
  refine ⟨_, _, _, fs, os, nm, ys, rfl, .inl ⟨lc, rfl⟩, .inr ⟨_, rfl⟩, .inr ⟨_, rfl⟩, ok, pe, hs, ?_⟩
  walk_at "bk"
  walk_at "d"
  refine ⟨⟨_, ⟨rfl, rfl⟩, _, rfl⟩, ⟨_, ⟨rfl, rfl⟩, _, rfl⟩, ?_⟩
  walk_at "cw"
  refine ⟨_, _, fs, fs, os, _, nm, _, ys, ys, rfl, .inl ⟨la, rfl⟩, .inl ⟨lb, rfl⟩, fw, hyw, fw, hyw, ?_⟩
  rw [eS]
  walk_at "bk"
  refine ⟨_, rfl, ?_⟩
  walk_at "d"
  refine ⟨⟨_, ⟨rfl, rfl⟩, _, rfl⟩, ⟨_, ⟨rfl, rfl⟩, _, rfl⟩, ?_⟩
  walk_at "cw"
  refine ⟨_, _, fs, fs, _, os, _, nm, ys, ys, rfl, .inl ⟨lb, rfl⟩, .inl ⟨la, rfl⟩, fw, hyw, fw, hyw, ?_⟩
  rw [eS2]
  walk_at "bk"
  refine ⟨_, rfl, ?_⟩
  walk_at "d"
  refine d_recv ⟨rfl, rfl⟩ rfl (by decide +kernel) ?_
  walk_at "d"
  walk_at "cw"
  refine ⟨_, fs, os, nm, ys, rfl, .inl ⟨la, rfl⟩, by omega, fun ld => ?_⟩
  walk_at "bk"
  walk_at "d"
  refine ⟨_, _, objsD fs os, rfl, ⟨rfl, rfl⟩, rfl, rfl, fun d hd => ?_, ?_⟩
  · obtain ⟨row, hr, rfl⟩ := List.mem_map.mp hd
    exact ⟨_, _, _, rfl, keys_nd ok.fn, svs_oV row⟩
  walk_at "d"
  refine d_recv ⟨rfl, rfl⟩ rfl (by decide +kernel) ?_
  walk_at "d"
  walk_at "cw"
  refine ⟨_, fs, os, nm, ys, rfl, .inl ⟨la, rfl⟩, fun le => ?_⟩
  walk_at "bk"
  walk_at "d"
  refine ⟨_, _, _, _, _, rfl, rfl, rfl, rfl, ?_, svs_nm nm, ?_⟩
  · rw [show (nm.map fun x => (Sum.inr x.1 : Key)) = (nm.map Prod.fst).map Sum.inr by rw [List.map_map]; rfl]
    exact keys_nd ok.nn
  walk_at "d"
  refine d_recv ⟨rfl, rfl⟩ rfl (by decide +kernel) ?_
  walk_at "d"
  walk_at "cw"
  refine ⟨_, fs, os, nm, ys, rfl, .inl ⟨la, rfl⟩, ok, pe, hs, fun lf => ?_⟩
  walk_at "bk"
  walk_at "d"
  walk_at "cw"
  refine ⟨_, _, _, fs, os, nm, ys, rfl, .inl ⟨lf, rfl⟩, .inr ⟨_, rfl⟩, .inr ⟨_, rfl⟩, ok, pe, hs, ?_⟩
  walk_at "bk"
  walk_at "d"
  exact rfl

end
theorem all_mk {l : PySem.W.OpenLaw} {w : World} {K : PySem.W.Frag} {h : Heap} {mg : Str → Option Value} {fa : Addr} (X : K.In h) (Gn : h.Ns mainGlobals mg) (hfa : mg "law" = some (.ref fa))
    {C_Heap' : Addr}
    {X_InvalidHeap' f_xInvalidHeap : Addr} {nm_xInvalidHeap q_xInvalidHeap : Str} {N_xInvalidHeap : Addr} {bs_xInvalidHeap bm_xInvalidHeap : List Value} {sn_xInvalidHeap : List Str} {sub_xInvalidHeap : List Value} {ab_xInvalidHeap : Bool} {col_xInvalidHeap : Option Bool} {dd_xInvalidHeap : Option Addr} {m0_xInvalidHeap m1_xInvalidHeap m2_xInvalidHeap m3_xInvalidHeap m5_xInvalidHeap : Option Value}
    {od_xInvalidHeap an_xInvalidHeap : Option Addr} {sl_xInvalidHeap : Array (Option Value)} {oc_xInvalidHeap kV_xInvalidHeap dc_xInvalidHeap pm_xInvalidHeap cd_xInvalidHeap ct_xInvalidHeap : Value}
    {f_l_draw : Addr} {od_l_draw an_l_draw : Option Addr} {sl_l_draw : Array (Option Value)} {oc_l_draw kV_l_draw dc_l_draw pm_l_draw cd_l_draw ct_l_draw : Value}
    {f_l_word : Addr} {od_l_word an_l_word : Option Addr} {sl_l_word : Array (Option Value)} {oc_l_word kV_l_word dc_l_word pm_l_word cd_l_word ct_l_word : Value}
    {f_l_words : Addr} {od_l_words an_l_words : Option Addr} {sl_l_words : Array (Option Value)} {oc_l_words kV_l_words dc_l_words pm_l_words cd_l_words ct_l_words : Value}
    {f_l_value : Addr} {od_l_value an_l_value : Option Addr} {sl_l_value : Array (Option Value)} {oc_l_value kV_l_value dc_l_value pm_l_value cd_l_value ct_l_value : Value}
    {f_l_objects : Addr} {od_l_objects an_l_objects : Option Addr} {sl_l_objects : Array (Option Value)} {oc_l_objects kV_l_objects dc_l_objects pm_l_objects cd_l_objects ct_l_objects : Value}
    {f_l_names : Addr} {od_l_names an_l_names : Option Addr} {sl_l_names : Array (Option Value)} {oc_l_names kV_l_names dc_l_names pm_l_names cd_l_names ct_l_names : Value}
    {f_is_integer : Addr} {od_is_integer an_is_integer : Option Addr} {sl_is_integer : Array (Option Value)} {oc_is_integer kV_is_integer dc_is_integer pm_is_integer cd_is_integer ct_is_integer : Value}
    {f_is_number_below : Addr} {od_is_number_below an_is_number_below : Option Addr} {sl_is_number_below : Array (Option Value)} {oc_is_number_below kV_is_number_below dc_is_number_below pm_is_number_below cd_is_number_below ct_is_number_below : Value}
    {f_is_word : Addr} {od_is_word an_is_word : Option Addr} {sl_is_word : Array (Option Value)} {oc_is_word kV_is_word dc_is_word pm_is_word cd_is_word ct_is_word : Value}
    {f_is_word_list : Addr} {od_is_word_list an_is_word_list : Option Addr} {sl_is_word_list : Array (Option Value)} {oc_is_word_list kV_is_word_list dc_is_word_list pm_is_word_list cd_is_word_list ct_is_word_list : Value}
    {f_is_object : Addr} {od_is_object an_is_object : Option Addr} {sl_is_object : Array (Option Value)} {oc_is_object kV_is_object dc_is_object pm_is_object cd_is_object ct_is_object : Value}
    {f_check_objects : Addr} {od_check_objects an_check_objects : Option Addr} {sl_check_objects : Array (Option Value)} {oc_check_objects kV_check_objects dc_check_objects pm_check_objects cd_check_objects ct_check_objects : Value}
    {f_check_names : Addr} {od_check_names an_check_names : Option Addr} {sl_check_names : Array (Option Value)} {oc_check_names kV_check_names dc_check_names pm_check_names cd_check_names ct_check_names : Value}
    {f_meeting_numbers : Addr} {od_meeting_numbers an_meeting_numbers : Option Addr} {sl_meeting_numbers : Array (Option Value)} {oc_meeting_numbers kV_meeting_numbers dc_meeting_numbers pm_meeting_numbers cd_meeting_numbers ct_meeting_numbers : Value}
    {f_renumbered : Addr} {od_renumbered an_renumbered : Option Addr} {sl_renumbered : Array (Option Value)} {oc_renumbered kV_renumbered dc_renumbered pm_renumbered cd_renumbered ct_renumbered : Value}
    {f_Heap_reckoned_shape : Addr} {od_Heap_reckoned_shape an_Heap_reckoned_shape : Option Addr} {sl_Heap_reckoned_shape : Array (Option Value)} {oc_Heap_reckoned_shape kV_Heap_reckoned_shape dc_Heap_reckoned_shape pm_Heap_reckoned_shape cd_Heap_reckoned_shape ct_Heap_reckoned_shape : Value}
    {f_Heap_init : Addr} {od_Heap_init an_Heap_init : Option Addr} {sl_Heap_init : Array (Option Value)} {oc_Heap_init kV_Heap_init dc_Heap_init pm_Heap_init cd_Heap_init ct_Heap_init : Value}
    {f_Heap_normal : Addr} {od_Heap_normal an_Heap_normal : Option Addr} {sl_Heap_normal : Array (Option Value)} {oc_Heap_normal kV_Heap_normal dc_Heap_normal pm_Heap_normal cd_Heap_normal ct_Heap_normal : Value}
    {f_Heap_eq : Addr} {od_Heap_eq an_Heap_eq : Option Addr} {sl_Heap_eq : Array (Option Value)} {oc_Heap_eq kV_Heap_eq dc_Heap_eq pm_Heap_eq cd_Heap_eq ct_Heap_eq : Value}
    {f_Heap_len : Addr} {od_Heap_len an_Heap_len : Option Addr} {sl_Heap_len : Array (Option Value)} {oc_Heap_len kV_Heap_len dc_Heap_len pm_Heap_len cd_Heap_len ct_Heap_len : Value}
    {f_Heap_objects : Addr} {od_Heap_objects an_Heap_objects : Option Addr} {sl_Heap_objects : Array (Option Value)} {oc_Heap_objects kV_Heap_objects dc_Heap_objects pm_Heap_objects cd_Heap_objects ct_Heap_objects : Value}
    {f_Heap_names : Addr} {od_Heap_names an_Heap_names : Option Addr} {sl_Heap_names : Array (Option Value)} {oc_Heap_names kV_Heap_names dc_Heap_names pm_Heap_names cd_Heap_names ct_Heap_names : Value}
    {f_l_meet : Addr} {od_l_meet an_l_meet : Option Addr} {sl_l_meet : Array (Option Value)} {oc_l_meet kV_l_meet dc_l_meet pm_l_meet cd_l_meet ct_l_meet : Value}
    {f_l_is_integer : Addr} {od_l_is_integer an_l_is_integer : Option Addr} {sl_l_is_integer : Array (Option Value)} {oc_l_is_integer kV_l_is_integer dc_l_is_integer pm_l_is_integer cd_l_is_integer ct_l_is_integer : Value}
    {f_l_same : Addr} {od_l_same an_l_same : Option Addr} {sl_l_same : Array (Option Value)} {oc_l_same kV_l_same dc_l_same pm_l_same cd_l_same ct_l_same : Value}
    {f_l_new : Addr} {od_l_new an_l_new : Option Addr} {sl_l_new : Array (Option Value)} {oc_l_new kV_l_new dc_l_new pm_l_new cd_l_new ct_l_new : Value}
    {f_l_order : Addr} {od_l_order an_l_order : Option Addr} {sl_l_order : Array (Option Value)} {oc_l_order kV_l_order dc_l_order pm_l_order cd_l_order ct_l_order : Value}
    {f_l_is_normal : Addr} {od_l_is_normal an_l_is_normal : Option Addr} {sl_l_is_normal : Array (Option Value)} {oc_l_is_normal kV_l_is_normal dc_l_is_normal pm_l_is_normal cd_l_is_normal ct_l_is_normal : Value}
    {f_law : Addr} {od_law an_law : Option Addr} {sl_law : Array (Option Value)} {oc_law kV_law dc_law pm_law cd_law ct_law : Value}
    {t_LETTERS : Tok}
    {t_LONGEST : Tok}
    {t_MOST_OBJECTS : Tok}
    {t_MOST_NAMES : Tok}
    (aC_Heap : PySem.W.nsIn K mainGlobals "Heap" = some (some (.ref C_Heap')))
    (pg_Heap : PySem.W.plainGet K C_Heap' Str.empty = true)
    (hd_Heap : PySem.W.hasDictIn K C_Heap' = true)
    (po_Heap : PySem.W.plainOver K C_Heap' = true)
    (sa_Heap : PySem.W.findIn K (.ref C_Heap') "__setattr__" = some (some (.builtin "object.__setattr__")))
    (mk_Heap : PySem.W.makesIn K C_Heap' = true)
    (kc_Heap : PySem.W.keepIn K (.ref C_Heap') = true)
    (n_Heap_fields : PySem.W.findIn K (.ref C_Heap') "fields" = some none)
    (n_Heap_held : PySem.W.findIn K (.ref C_Heap') "held" = some none)
    (n_Heap_holders : PySem.W.findIn K (.ref C_Heap') "holders" = some none)
    (n_Heap_shape : PySem.W.findIn K (.ref C_Heap') "shape" = some none)
    (ha_Heap : PySem.W.findIn K (.ref C_Heap') "__class__" = some (some (.builtin "object.__class__")))
    (hn_Heap : PySem.W.specialIn K (.builtin "object.__class__") "__get__" = some (some (.builtin "getset_descriptor.__get__")))
    (ht_Heap : PySem.W.takesIn K (.builtin "object.__class__") = some true)
    (hm_Heap : PySem.W.mroIn K C_Heap' (.type "object") = some true)
    (me_Heap : PySem.W.kitOne K (.ref C_Heap') (.ref C_Heap') = some true)
    (no_Heap_NoneType : PySem.W.kitOne K (.type "NoneType") (.ref C_Heap') = some false)
    (no_Heap_bool : PySem.W.kitOne K (.type "bool") (.ref C_Heap') = some false)
    (no_Heap_int : PySem.W.kitOne K (.type "int") (.ref C_Heap') = some false)
    (no_Heap_str : PySem.W.kitOne K (.type "str") (.ref C_Heap') = some false)
    (no_Heap_list : PySem.W.kitOne K (.type "list") (.ref C_Heap') = some false)
    (no_Heap_tuple : PySem.W.kitOne K (.type "tuple") (.ref C_Heap') = some false)
    (no_Heap_dict : PySem.W.kitOne K (.type "dict") (.ref C_Heap') = some false)
    (a_xInvalidHeap : PySem.W.nsIn K mainGlobals "InvalidHeap" = some (some (.ref X_InvalidHeap')))
    (xl_xInvalidHeap : K.lookup X_InvalidHeap' = some (excClassObj nm_xInvalidHeap q_xInvalidHeap X_InvalidHeap' N_xInvalidHeap bs_xInvalidHeap bm_xInvalidHeap true sn_xInvalidHeap sub_xInvalidHeap ab_xInvalidHeap col_xInvalidHeap dd_xInvalidHeap m0_xInvalidHeap m1_xInvalidHeap m2_xInvalidHeap m3_xInvalidHeap m5_xInvalidHeap "ValueError.__new__"))
    (bm_ok_xInvalidHeap : PySem.HandSPX.refsVE bm_xInvalidHeap = true)
    (sa_xInvalidHeap : PySem.W.findIn K (.ref X_InvalidHeap') "__setattr__" = some (some (.builtin "object.__setattr__")))
    (ga_xInvalidHeap : PySem.W.findIn K (.ref X_InvalidHeap') "__getattribute__" = some (some (.builtin "BaseException.__getattribute__")))
    (gg_xInvalidHeap : PySem.W.findIn K (.ref X_InvalidHeap') "__getattr__" = some none)
    (nf_xInvalidHeap_part : PySem.W.findIn K (.ref X_InvalidHeap') "part" = some none)
    (nf_xInvalidHeap_where : PySem.W.findIn K (.ref X_InvalidHeap') "where" = some none)
    (kC_xInvalidHeap : PySem.W.keepIn K (.ref X_InvalidHeap') = true)
    (eC_xInvalidHeap : PySem.W.subIn K (.ref X_InvalidHeap') (.type "BaseException") = some true)
    (tC_xInvalidHeap : PySem.W.typeIn K (.ref X_InvalidHeap') = some (.type "type"))
    (hC_xInvalidHeap : PySem.W.hasDictIn K X_InvalidHeap' = true)
    (iC_xInvalidHeap : PySem.W.isClsIn K X_InvalidHeap' = true)
    (sC_xInvalidHeap : PySem.W.subIn K (.ref X_InvalidHeap') (.ref X_InvalidHeap') = some true)
    (ii_xInvalidHeap : PySem.W.findIn K (.ref X_InvalidHeap') "__init__" = some (some (.ref f_xInvalidHeap)))
    (ti_xInvalidHeap : PySem.W.typeIn K (.ref f_xInvalidHeap) = some (.type "function"))
    (l_xInvalidHeap : K.lookup f_xInvalidHeap = some ⟨oc_xInvalidHeap, od_xInvalidHeap, .func (PySem.W.fnOf "__init__" "InvalidHeap.__init__" (defArgs s_InvalidHeap_init) (defBody s_InvalidHeap_init) (defScope s_InvalidHeap_init) .none kV_xInvalidHeap dc_xInvalidHeap pm_xInvalidHeap an_xInvalidHeap cd_xInvalidHeap ct_xInvalidHeap), sl_xInvalidHeap⟩)
    (c_xInvalidHeap : PySem.W.codeIn K cd_xInvalidHeap "InvalidHeap.__init__" = true)
    (k_xInvalidHeap : PySem.W.keepIn K (.ref f_xInvalidHeap) = true)
    (a_l_draw : PySem.W.nsIn K mainGlobals "_law_draw" = some (some (.ref f_l_draw)))
    (l_l_draw : K.lookup f_l_draw = some ⟨oc_l_draw, od_l_draw, .func (PySem.W.fnOf "_law_draw" "_law_draw" (defArgs s_l_draw) (defBody s_l_draw) (defScope s_l_draw) .none kV_l_draw dc_l_draw pm_l_draw an_l_draw cd_l_draw ct_l_draw), sl_l_draw⟩)
    (c_l_draw : PySem.W.codeIn K cd_l_draw "_law_draw" = true)
    (k_l_draw : PySem.W.keepIn K (.ref f_l_draw) = true)
    (a_l_word : PySem.W.nsIn K mainGlobals "_law_word" = some (some (.ref f_l_word)))
    (l_l_word : K.lookup f_l_word = some ⟨oc_l_word, od_l_word, .func (PySem.W.fnOf "_law_word" "_law_word" (defArgs s_l_word) (defBody s_l_word) (defScope s_l_word) .none kV_l_word dc_l_word pm_l_word an_l_word cd_l_word ct_l_word), sl_l_word⟩)
    (c_l_word : PySem.W.codeIn K cd_l_word "_law_word" = true)
    (k_l_word : PySem.W.keepIn K (.ref f_l_word) = true)
    (a_l_words : PySem.W.nsIn K mainGlobals "_law_words" = some (some (.ref f_l_words)))
    (l_l_words : K.lookup f_l_words = some ⟨oc_l_words, od_l_words, .func (PySem.W.fnOf "_law_words" "_law_words" (defArgs s_l_words) (defBody s_l_words) (defScope s_l_words) .none kV_l_words dc_l_words pm_l_words an_l_words cd_l_words ct_l_words), sl_l_words⟩)
    (c_l_words : PySem.W.codeIn K cd_l_words "_law_words" = true)
    (k_l_words : PySem.W.keepIn K (.ref f_l_words) = true)
    (a_l_value : PySem.W.nsIn K mainGlobals "_law_value" = some (some (.ref f_l_value)))
    (l_l_value : K.lookup f_l_value = some ⟨oc_l_value, od_l_value, .func (PySem.W.fnOf "_law_value" "_law_value" (defArgs s_l_value) (defBody s_l_value) (defScope s_l_value) .none kV_l_value dc_l_value pm_l_value an_l_value cd_l_value ct_l_value), sl_l_value⟩)
    (c_l_value : PySem.W.codeIn K cd_l_value "_law_value" = true)
    (k_l_value : PySem.W.keepIn K (.ref f_l_value) = true)
    (a_l_objects : PySem.W.nsIn K mainGlobals "_law_objects" = some (some (.ref f_l_objects)))
    (l_l_objects : K.lookup f_l_objects = some ⟨oc_l_objects, od_l_objects, .func (PySem.W.fnOf "_law_objects" "_law_objects" (defArgs s_l_objects) (defBody s_l_objects) (defScope s_l_objects) .none kV_l_objects dc_l_objects pm_l_objects an_l_objects cd_l_objects ct_l_objects), sl_l_objects⟩)
    (c_l_objects : PySem.W.codeIn K cd_l_objects "_law_objects" = true)
    (k_l_objects : PySem.W.keepIn K (.ref f_l_objects) = true)
    (a_l_names : PySem.W.nsIn K mainGlobals "_law_names" = some (some (.ref f_l_names)))
    (l_l_names : K.lookup f_l_names = some ⟨oc_l_names, od_l_names, .func (PySem.W.fnOf "_law_names" "_law_names" (defArgs s_l_names) (defBody s_l_names) (defScope s_l_names) .none kV_l_names dc_l_names pm_l_names an_l_names cd_l_names ct_l_names), sl_l_names⟩)
    (c_l_names : PySem.W.codeIn K cd_l_names "_law_names" = true)
    (k_l_names : PySem.W.keepIn K (.ref f_l_names) = true)
    (a_is_integer : PySem.W.nsIn K mainGlobals "is_integer" = some (some (.ref f_is_integer)))
    (l_is_integer : K.lookup f_is_integer = some ⟨oc_is_integer, od_is_integer, .func (PySem.W.fnOf "is_integer" "is_integer" (defArgs s_is_integer) (defBody s_is_integer) (defScope s_is_integer) .none kV_is_integer dc_is_integer pm_is_integer an_is_integer cd_is_integer ct_is_integer), sl_is_integer⟩)
    (c_is_integer : PySem.W.codeIn K cd_is_integer "is_integer" = true)
    (k_is_integer : PySem.W.keepIn K (.ref f_is_integer) = true)
    (a_is_number_below : PySem.W.nsIn K mainGlobals "is_number_below" = some (some (.ref f_is_number_below)))
    (l_is_number_below : K.lookup f_is_number_below = some ⟨oc_is_number_below, od_is_number_below, .func (PySem.W.fnOf "is_number_below" "is_number_below" (defArgs s_is_number_below) (defBody s_is_number_below) (defScope s_is_number_below) .none kV_is_number_below dc_is_number_below pm_is_number_below an_is_number_below cd_is_number_below ct_is_number_below), sl_is_number_below⟩)
    (c_is_number_below : PySem.W.codeIn K cd_is_number_below "is_number_below" = true)
    (k_is_number_below : PySem.W.keepIn K (.ref f_is_number_below) = true)
    (a_is_word : PySem.W.nsIn K mainGlobals "is_word" = some (some (.ref f_is_word)))
    (l_is_word : K.lookup f_is_word = some ⟨oc_is_word, od_is_word, .func (PySem.W.fnOf "is_word" "is_word" (defArgs s_is_word) (defBody s_is_word) (defScope s_is_word) .none kV_is_word dc_is_word pm_is_word an_is_word cd_is_word ct_is_word), sl_is_word⟩)
    (c_is_word : PySem.W.codeIn K cd_is_word "is_word" = true)
    (k_is_word : PySem.W.keepIn K (.ref f_is_word) = true)
    (a_is_word_list : PySem.W.nsIn K mainGlobals "is_word_list" = some (some (.ref f_is_word_list)))
    (l_is_word_list : K.lookup f_is_word_list = some ⟨oc_is_word_list, od_is_word_list, .func (PySem.W.fnOf "is_word_list" "is_word_list" (defArgs s_is_word_list) (defBody s_is_word_list) (defScope s_is_word_list) .none kV_is_word_list dc_is_word_list pm_is_word_list an_is_word_list cd_is_word_list ct_is_word_list), sl_is_word_list⟩)
    (c_is_word_list : PySem.W.codeIn K cd_is_word_list "is_word_list" = true)
    (k_is_word_list : PySem.W.keepIn K (.ref f_is_word_list) = true)
    (a_is_object : PySem.W.nsIn K mainGlobals "is_object" = some (some (.ref f_is_object)))
    (l_is_object : K.lookup f_is_object = some ⟨oc_is_object, od_is_object, .func (PySem.W.fnOf "is_object" "is_object" (defArgs s_is_object) (defBody s_is_object) (defScope s_is_object) .none kV_is_object dc_is_object pm_is_object an_is_object cd_is_object ct_is_object), sl_is_object⟩)
    (c_is_object : PySem.W.codeIn K cd_is_object "is_object" = true)
    (k_is_object : PySem.W.keepIn K (.ref f_is_object) = true)
    (a_check_objects : PySem.W.nsIn K mainGlobals "check_objects" = some (some (.ref f_check_objects)))
    (l_check_objects : K.lookup f_check_objects = some ⟨oc_check_objects, od_check_objects, .func (PySem.W.fnOf "check_objects" "check_objects" (defArgs s_check_objects) (defBody s_check_objects) (defScope s_check_objects) .none kV_check_objects dc_check_objects pm_check_objects an_check_objects cd_check_objects ct_check_objects), sl_check_objects⟩)
    (c_check_objects : PySem.W.codeIn K cd_check_objects "check_objects" = true)
    (k_check_objects : PySem.W.keepIn K (.ref f_check_objects) = true)
    (a_check_names : PySem.W.nsIn K mainGlobals "check_names" = some (some (.ref f_check_names)))
    (l_check_names : K.lookup f_check_names = some ⟨oc_check_names, od_check_names, .func (PySem.W.fnOf "check_names" "check_names" (defArgs s_check_names) (defBody s_check_names) (defScope s_check_names) .none kV_check_names dc_check_names pm_check_names an_check_names cd_check_names ct_check_names), sl_check_names⟩)
    (c_check_names : PySem.W.codeIn K cd_check_names "check_names" = true)
    (k_check_names : PySem.W.keepIn K (.ref f_check_names) = true)
    (a_meeting_numbers : PySem.W.nsIn K mainGlobals "meeting_numbers" = some (some (.ref f_meeting_numbers)))
    (l_meeting_numbers : K.lookup f_meeting_numbers = some ⟨oc_meeting_numbers, od_meeting_numbers, .func (PySem.W.fnOf "meeting_numbers" "meeting_numbers" (defArgs s_meeting_numbers) (defBody s_meeting_numbers) (defScope s_meeting_numbers) .none kV_meeting_numbers dc_meeting_numbers pm_meeting_numbers an_meeting_numbers cd_meeting_numbers ct_meeting_numbers), sl_meeting_numbers⟩)
    (c_meeting_numbers : PySem.W.codeIn K cd_meeting_numbers "meeting_numbers" = true)
    (k_meeting_numbers : PySem.W.keepIn K (.ref f_meeting_numbers) = true)
    (a_renumbered : PySem.W.nsIn K mainGlobals "renumbered" = some (some (.ref f_renumbered)))
    (l_renumbered : K.lookup f_renumbered = some ⟨oc_renumbered, od_renumbered, .func (PySem.W.fnOf "renumbered" "renumbered" (defArgs s_renumbered) (defBody s_renumbered) (defScope s_renumbered) .none kV_renumbered dc_renumbered pm_renumbered an_renumbered cd_renumbered ct_renumbered), sl_renumbered⟩)
    (c_renumbered : PySem.W.codeIn K cd_renumbered "renumbered" = true)
    (k_renumbered : PySem.W.keepIn K (.ref f_renumbered) = true)
    (a_Heap_reckoned_shape : PySem.W.findIn K (.ref C_Heap') "reckoned_shape" = some (some (.ref f_Heap_reckoned_shape)))
    (i_Heap_reckoned_shape : PySem.W.isFn K (.ref f_Heap_reckoned_shape) = true)
    (l_Heap_reckoned_shape : K.lookup f_Heap_reckoned_shape = some ⟨oc_Heap_reckoned_shape, od_Heap_reckoned_shape, .func (PySem.W.fnOf "reckoned_shape" "Heap.reckoned_shape" (defArgs s_Heap_reckoned_shape) (defBody s_Heap_reckoned_shape) (defScope s_Heap_reckoned_shape) .none kV_Heap_reckoned_shape dc_Heap_reckoned_shape pm_Heap_reckoned_shape an_Heap_reckoned_shape cd_Heap_reckoned_shape ct_Heap_reckoned_shape), sl_Heap_reckoned_shape⟩)
    (c_Heap_reckoned_shape : PySem.W.codeIn K cd_Heap_reckoned_shape "Heap.reckoned_shape" = true)
    (k_Heap_reckoned_shape : PySem.W.keepIn K (.ref f_Heap_reckoned_shape) = true)
    (a_Heap_init : PySem.W.findIn K (.ref C_Heap') "__init__" = some (some (.ref f_Heap_init)))
    (i_Heap_init : PySem.W.isFn K (.ref f_Heap_init) = true)
    (l_Heap_init : K.lookup f_Heap_init = some ⟨oc_Heap_init, od_Heap_init, .func (PySem.W.fnOf "__init__" "Heap.__init__" (defArgs s_Heap_init) (defBody s_Heap_init) (defScope s_Heap_init) .none kV_Heap_init dc_Heap_init pm_Heap_init an_Heap_init cd_Heap_init ct_Heap_init), sl_Heap_init⟩)
    (c_Heap_init : PySem.W.codeIn K cd_Heap_init "Heap.__init__" = true)
    (k_Heap_init : PySem.W.keepIn K (.ref f_Heap_init) = true)
    (a_Heap_normal : PySem.W.findIn K (.ref C_Heap') "normal" = some (some (.ref f_Heap_normal)))
    (i_Heap_normal : PySem.W.isFn K (.ref f_Heap_normal) = true)
    (l_Heap_normal : K.lookup f_Heap_normal = some ⟨oc_Heap_normal, od_Heap_normal, .func (PySem.W.fnOf "normal" "Heap.normal" (defArgs s_Heap_normal) (defBody s_Heap_normal) (defScope s_Heap_normal) .none kV_Heap_normal dc_Heap_normal pm_Heap_normal an_Heap_normal cd_Heap_normal ct_Heap_normal), sl_Heap_normal⟩)
    (c_Heap_normal : PySem.W.codeIn K cd_Heap_normal "Heap.normal" = true)
    (k_Heap_normal : PySem.W.keepIn K (.ref f_Heap_normal) = true)
    (a_Heap_eq : PySem.W.findIn K (.ref C_Heap') "__eq__" = some (some (.ref f_Heap_eq)))
    (i_Heap_eq : PySem.W.isFn K (.ref f_Heap_eq) = true)
    (l_Heap_eq : K.lookup f_Heap_eq = some ⟨oc_Heap_eq, od_Heap_eq, .func (PySem.W.fnOf "__eq__" "Heap.__eq__" (defArgs s_Heap_eq) (defBody s_Heap_eq) (defScope s_Heap_eq) .none kV_Heap_eq dc_Heap_eq pm_Heap_eq an_Heap_eq cd_Heap_eq ct_Heap_eq), sl_Heap_eq⟩)
    (c_Heap_eq : PySem.W.codeIn K cd_Heap_eq "Heap.__eq__" = true)
    (k_Heap_eq : PySem.W.keepIn K (.ref f_Heap_eq) = true)
    (a_Heap_len : PySem.W.findIn K (.ref C_Heap') "__len__" = some (some (.ref f_Heap_len)))
    (i_Heap_len : PySem.W.isFn K (.ref f_Heap_len) = true)
    (l_Heap_len : K.lookup f_Heap_len = some ⟨oc_Heap_len, od_Heap_len, .func (PySem.W.fnOf "__len__" "Heap.__len__" (defArgs s_Heap_len) (defBody s_Heap_len) (defScope s_Heap_len) .none kV_Heap_len dc_Heap_len pm_Heap_len an_Heap_len cd_Heap_len ct_Heap_len), sl_Heap_len⟩)
    (c_Heap_len : PySem.W.codeIn K cd_Heap_len "Heap.__len__" = true)
    (k_Heap_len : PySem.W.keepIn K (.ref f_Heap_len) = true)
    (a_Heap_objects : PySem.W.findIn K (.ref C_Heap') "objects" = some (some (.ref f_Heap_objects)))
    (i_Heap_objects : PySem.W.isFn K (.ref f_Heap_objects) = true)
    (l_Heap_objects : K.lookup f_Heap_objects = some ⟨oc_Heap_objects, od_Heap_objects, .func (PySem.W.fnOf "objects" "Heap.objects" (defArgs s_Heap_objects) (defBody s_Heap_objects) (defScope s_Heap_objects) .none kV_Heap_objects dc_Heap_objects pm_Heap_objects an_Heap_objects cd_Heap_objects ct_Heap_objects), sl_Heap_objects⟩)
    (c_Heap_objects : PySem.W.codeIn K cd_Heap_objects "Heap.objects" = true)
    (k_Heap_objects : PySem.W.keepIn K (.ref f_Heap_objects) = true)
    (a_Heap_names : PySem.W.findIn K (.ref C_Heap') "names" = some (some (.ref f_Heap_names)))
    (i_Heap_names : PySem.W.isFn K (.ref f_Heap_names) = true)
    (l_Heap_names : K.lookup f_Heap_names = some ⟨oc_Heap_names, od_Heap_names, .func (PySem.W.fnOf "names" "Heap.names" (defArgs s_Heap_names) (defBody s_Heap_names) (defScope s_Heap_names) .none kV_Heap_names dc_Heap_names pm_Heap_names an_Heap_names cd_Heap_names ct_Heap_names), sl_Heap_names⟩)
    (c_Heap_names : PySem.W.codeIn K cd_Heap_names "Heap.names" = true)
    (k_Heap_names : PySem.W.keepIn K (.ref f_Heap_names) = true)
    (a_l_meet : PySem.W.nsIn K mainGlobals "_law_meet" = some (some (.ref f_l_meet)))
    (l_l_meet : K.lookup f_l_meet = some ⟨oc_l_meet, od_l_meet, .func (PySem.W.fnOf "_law_meet" "_law_meet" (defArgs s_l_meet) (defBody s_l_meet) (defScope s_l_meet) .none kV_l_meet dc_l_meet pm_l_meet an_l_meet cd_l_meet ct_l_meet), sl_l_meet⟩)
    (c_l_meet : PySem.W.codeIn K cd_l_meet "_law_meet" = true)
    (k_l_meet : PySem.W.keepIn K (.ref f_l_meet) = true)
    (a_l_is_integer : PySem.W.nsIn K mainGlobals "_law_is_integer" = some (some (.ref f_l_is_integer)))
    (l_l_is_integer : K.lookup f_l_is_integer = some ⟨oc_l_is_integer, od_l_is_integer, .func (PySem.W.fnOf "_law_is_integer" "_law_is_integer" (defArgs s_l_is_integer) (defBody s_l_is_integer) (defScope s_l_is_integer) .none kV_l_is_integer dc_l_is_integer pm_l_is_integer an_l_is_integer cd_l_is_integer ct_l_is_integer), sl_l_is_integer⟩)
    (c_l_is_integer : PySem.W.codeIn K cd_l_is_integer "_law_is_integer" = true)
    (k_l_is_integer : PySem.W.keepIn K (.ref f_l_is_integer) = true)
    (a_l_same : PySem.W.nsIn K mainGlobals "_law_same" = some (some (.ref f_l_same)))
    (l_l_same : K.lookup f_l_same = some ⟨oc_l_same, od_l_same, .func (PySem.W.fnOf "_law_same" "_law_same" (defArgs s_l_same) (defBody s_l_same) (defScope s_l_same) .none kV_l_same dc_l_same pm_l_same an_l_same cd_l_same ct_l_same), sl_l_same⟩)
    (c_l_same : PySem.W.codeIn K cd_l_same "_law_same" = true)
    (k_l_same : PySem.W.keepIn K (.ref f_l_same) = true)
    (a_l_new : PySem.W.nsIn K mainGlobals "_law_new" = some (some (.ref f_l_new)))
    (l_l_new : K.lookup f_l_new = some ⟨oc_l_new, od_l_new, .func (PySem.W.fnOf "_law_new" "_law_new" (defArgs s_l_new) (defBody s_l_new) (defScope s_l_new) .none kV_l_new dc_l_new pm_l_new an_l_new cd_l_new ct_l_new), sl_l_new⟩)
    (c_l_new : PySem.W.codeIn K cd_l_new "_law_new" = true)
    (k_l_new : PySem.W.keepIn K (.ref f_l_new) = true)
    (a_l_order : PySem.W.nsIn K mainGlobals "_law_order" = some (some (.ref f_l_order)))
    (l_l_order : K.lookup f_l_order = some ⟨oc_l_order, od_l_order, .func (PySem.W.fnOf "_law_order" "_law_order" (defArgs s_l_order) (defBody s_l_order) (defScope s_l_order) .none kV_l_order dc_l_order pm_l_order an_l_order cd_l_order ct_l_order), sl_l_order⟩)
    (c_l_order : PySem.W.codeIn K cd_l_order "_law_order" = true)
    (k_l_order : PySem.W.keepIn K (.ref f_l_order) = true)
    (a_l_is_normal : PySem.W.nsIn K mainGlobals "_law_is_normal" = some (some (.ref f_l_is_normal)))
    (l_l_is_normal : K.lookup f_l_is_normal = some ⟨oc_l_is_normal, od_l_is_normal, .func (PySem.W.fnOf "_law_is_normal" "_law_is_normal" (defArgs s_l_is_normal) (defBody s_l_is_normal) (defScope s_l_is_normal) .none kV_l_is_normal dc_l_is_normal pm_l_is_normal an_l_is_normal cd_l_is_normal ct_l_is_normal), sl_l_is_normal⟩)
    (c_l_is_normal : PySem.W.codeIn K cd_l_is_normal "_law_is_normal" = true)
    (k_l_is_normal : PySem.W.keepIn K (.ref f_l_is_normal) = true)
    (a_law : PySem.W.nsIn K mainGlobals "law" = some (some (.ref f_law)))
    (l_law : K.lookup f_law = some ⟨oc_law, od_law, .func (PySem.W.fnOf "law" "law" (defArgs s_law) (defBody s_law) (defScope s_law) .none kV_law dc_law pm_law an_law cd_law ct_law), sl_law⟩)
    (c_law : PySem.W.codeIn K cd_law "law" = true)
    (k_law : PySem.W.keepIn K (.ref f_law) = true)
    (cc_LETTERS : PySem.W.nsIn K mainGlobals "LETTERS" = some (some (.str abc t_LETTERS)))
    (cc_LONGEST : PySem.W.nsIn K mainGlobals "LONGEST" = some (some (.int 8 t_LONGEST)))
    (cc_MOST_OBJECTS : PySem.W.nsIn K mainGlobals "MOST_OBJECTS" = some (some (.int 200 t_MOST_OBJECTS)))
    (cc_MOST_NAMES : PySem.W.nsIn K mainGlobals "MOST_NAMES" = some (some (.int 6 t_MOST_NAMES)))
    (z_len : PySem.W.nsIn K mainGlobals "len" = some none)
    (z_list : PySem.W.nsIn K mainGlobals "list" = some none)
    (z_tuple : PySem.W.nsIn K mainGlobals "tuple" = some none)
    (z_dict : PySem.W.nsIn K mainGlobals "dict" = some none)
    (z_int : PySem.W.nsIn K mainGlobals "int" = some none)
    (z_str : PySem.W.nsIn K mainGlobals "str" = some none)
    (z_bool : PySem.W.nsIn K mainGlobals "bool" = some none)
    (z_range : PySem.W.nsIn K mainGlobals "range" = some none)
    (z_isinstance : PySem.W.nsIn K mainGlobals "isinstance" = some none)
    (z_sorted : PySem.W.nsIn K mainGlobals "sorted" = some none)
    (z_enumerate : PySem.W.nsIn K mainGlobals "enumerate" = some none)
    (z_zip : PySem.W.nsIn K mainGlobals "zip" = some none)
    (z_min : PySem.W.nsIn K mainGlobals "min" = some none) :
    ∃ fd : FuncData, (∀ (s : Shared) (v : Value), BindsTo s fd ⟨[v], []⟩ [("_law_script", v)]) ∧ ∀ base : Heap, K.In base → base.Ns mainGlobals mg → FnOk l.prog w K mg base CX0 8 fa fd ["_law_script"] (spLawD K) := by
  have e := hfa.symm.trans (PySem.W.mg_of X Gn a_law)
  cases e
  have B : Blt mg := { len := PySem.W.mg_none_of X Gn z_len, list := PySem.W.mg_none_of X Gn z_list, tuple := PySem.W.mg_none_of X Gn z_tuple, dict := PySem.W.mg_none_of X Gn z_dict, int := PySem.W.mg_none_of X Gn z_int, str := PySem.W.mg_none_of X Gn z_str, bool := PySem.W.mg_none_of X Gn z_bool, range := PySem.W.mg_none_of X Gn z_range, isinstance := PySem.W.mg_none_of X Gn z_isinstance, sorted := PySem.W.mg_none_of X Gn z_sorted, enumerate := PySem.W.mg_none_of X Gn z_enumerate, zip := PySem.W.mg_none_of X Gn z_zip, min := PySem.W.mg_none_of X Gn z_min }
  have Cl_Heap : Cls K C_Heap' := ⟨pg_Heap, hd_Heap, po_Heap, sa_Heap⟩
  have Is_Heap : IsC K C_Heap' := ⟨Cl_Heap, ha_Heap, hn_Heap, ht_Heap, hm_Heap, me_Heap, fun n hn => by
    simp only [List.mem_cons, List.mem_nil_iff, or_false] at hn
    rcases hn with rfl | rfl | rfl | rfl | rfl | rfl | rfl
    · exact no_Heap_NoneType
    · exact no_Heap_bool
    · exact no_Heap_int
    · exact no_Heap_str
    · exact no_Heap_list
    · exact no_Heap_tuple
    · exact no_Heap_dict⟩
  have F_l_draw := fun_mk (st := s_l_draw) l_l_draw c_l_draw k_l_draw
  have b_l_draw := F_l_draw.binds (ps := ["_law_pool", "_law_limit"]) fun _ _ _ _ _ _ us hl => match us, hl with | [_, _], _ => rfl
  have F_l_word := fun_mk (st := s_l_word) l_l_word c_l_word k_l_word
  have b_l_word := F_l_word.binds (ps := ["_law_pool", "_law_taken"]) fun _ _ _ _ _ _ us hl => match us, hl with | [_, _], _ => rfl
  have F_l_words := fun_mk (st := s_l_words) l_l_words c_l_words k_l_words
  have b_l_words := F_l_words.binds (ps := ["_law_pool", "_law_least", "_law_most"]) fun _ _ _ _ _ _ us hl => match us, hl with | [_, _, _], _ => rfl
  have F_l_value := fun_mk (st := s_l_value) l_l_value c_l_value k_l_value
  have b_l_value := F_l_value.binds (ps := ["_law_pool", "_law_count"]) fun _ _ _ _ _ _ us hl => match us, hl with | [_, _], _ => rfl
  have F_l_objects := fun_mk (st := s_l_objects) l_l_objects c_l_objects k_l_objects
  have b_l_objects := F_l_objects.binds (ps := ["_law_pool", "_law_fields", "_law_count"]) fun _ _ _ _ _ _ us hl => match us, hl with | [_, _, _], _ => rfl
  have F_l_names := fun_mk (st := s_l_names) l_l_names c_l_names k_l_names
  have b_l_names := F_l_names.binds (ps := ["_law_pool", "_law_names_here", "_law_count"]) fun _ _ _ _ _ _ us hl => match us, hl with | [_, _, _], _ => rfl
  have F_is_integer := fun_mk (st := s_is_integer) l_is_integer c_is_integer k_is_integer
  have b_is_integer := F_is_integer.binds (ps := ["value"]) fun _ _ _ _ _ _ us hl => match us, hl with | [_], _ => rfl
  have F_is_number_below := fun_mk (st := s_is_number_below) l_is_number_below c_is_number_below k_is_number_below
  have b_is_number_below := F_is_number_below.binds (ps := ["value", "count"]) fun _ _ _ _ _ _ us hl => match us, hl with | [_, _], _ => rfl
  have F_is_word := fun_mk (st := s_is_word) l_is_word c_is_word k_is_word
  have b_is_word := F_is_word.binds (ps := ["value"]) fun _ _ _ _ _ _ us hl => match us, hl with | [_], _ => rfl
  have F_is_word_list := fun_mk (st := s_is_word_list) l_is_word_list c_is_word_list k_is_word_list
  have b_is_word_list := F_is_word_list.binds (ps := ["values", "least", "most"]) fun _ _ _ _ _ _ us hl => match us, hl with | [_, _, _], _ => rfl
  have F_is_object := fun_mk (st := s_is_object) l_is_object c_is_object k_is_object
  have b_is_object := F_is_object.binds (ps := ["item", "fields", "count"]) fun _ _ _ _ _ _ us hl => match us, hl with | [_, _, _], _ => rfl
  have F_check_objects := fun_mk (st := s_check_objects) l_check_objects c_check_objects k_check_objects
  have b_check_objects := F_check_objects.binds (ps := ["objects", "fields"]) fun _ _ _ _ _ _ us hl => match us, hl with | [_, _], _ => rfl
  have F_check_names := fun_mk (st := s_check_names) l_check_names c_check_names k_check_names
  have b_check_names := F_check_names.binds (ps := ["names", "count"]) fun _ _ _ _ _ _ us hl => match us, hl with | [_, _], _ => rfl
  have F_meeting_numbers := fun_mk (st := s_meeting_numbers) l_meeting_numbers c_meeting_numbers k_meeting_numbers
  have b_meeting_numbers := F_meeting_numbers.binds (ps := ["objects", "fields", "roots"]) fun _ _ _ _ _ _ us hl => match us, hl with | [_, _, _], _ => rfl
  have F_renumbered := fun_mk (st := s_renumbered) l_renumbered c_renumbered k_renumbered
  have b_renumbered := F_renumbered.binds (ps := ["value", "numbers"]) fun _ _ _ _ _ _ us hl => match us, hl with | [_, _], _ => rfl
  have F_Heap_reckoned_shape := fun_mk (st := s_Heap_reckoned_shape) l_Heap_reckoned_shape c_Heap_reckoned_shape k_Heap_reckoned_shape
  have b_Heap_reckoned_shape := F_Heap_reckoned_shape.binds (ps := ["self"]) fun _ _ _ _ _ _ us hl => match us, hl with | [_], _ => rfl
  have F_Heap_init := fun_mk (st := s_Heap_init) l_Heap_init c_Heap_init k_Heap_init
  have b_Heap_init := F_Heap_init.binds (ps := ["self", "fields", "objects", "names"]) fun _ _ _ _ _ _ us hl => match us, hl with | [_, _, _, _], _ => rfl
  have F_Heap_normal := fun_mk (st := s_Heap_normal) l_Heap_normal c_Heap_normal k_Heap_normal
  have b_Heap_normal := F_Heap_normal.binds (ps := ["self"]) fun _ _ _ _ _ _ us hl => match us, hl with | [_], _ => rfl
  have F_Heap_eq := fun_mk (st := s_Heap_eq) l_Heap_eq c_Heap_eq k_Heap_eq
  have b_Heap_eq := F_Heap_eq.binds (ps := ["self", "other"]) fun _ _ _ _ _ _ us hl => match us, hl with | [_, _], _ => rfl
  have F_Heap_len := fun_mk (st := s_Heap_len) l_Heap_len c_Heap_len k_Heap_len
  have b_Heap_len := F_Heap_len.binds (ps := ["self"]) fun _ _ _ _ _ _ us hl => match us, hl with | [_], _ => rfl
  have F_Heap_objects := fun_mk (st := s_Heap_objects) l_Heap_objects c_Heap_objects k_Heap_objects
  have b_Heap_objects := F_Heap_objects.binds (ps := ["self"]) fun _ _ _ _ _ _ us hl => match us, hl with | [_], _ => rfl
  have F_Heap_names := fun_mk (st := s_Heap_names) l_Heap_names c_Heap_names k_Heap_names
  have b_Heap_names := F_Heap_names.binds (ps := ["self"]) fun _ _ _ _ _ _ us hl => match us, hl with | [_], _ => rfl
  have F_l_meet := fun_mk (st := s_l_meet) l_l_meet c_l_meet k_l_meet
  have b_l_meet := F_l_meet.binds (ps := ["_law_order_here", "_law_value_here"]) fun _ _ _ _ _ _ us hl => match us, hl with | [_, _], _ => rfl
  have F_l_is_integer := fun_mk (st := s_l_is_integer) l_l_is_integer c_l_is_integer k_l_is_integer
  have b_l_is_integer := F_l_is_integer.binds (ps := ["_law_x"]) fun _ _ _ _ _ _ us hl => match us, hl with | [_], _ => rfl
  have F_l_same := fun_mk (st := s_l_same) l_l_same c_l_same k_l_same
  have b_l_same := F_l_same.binds (ps := ["_law_actual", "_law_due"]) fun _ _ _ _ _ _ us hl => match us, hl with | [_, _], _ => rfl
  have F_l_new := fun_mk (st := s_l_new) l_l_new c_l_new k_l_new
  have b_l_new := F_l_new.binds (ps := ["_law_order_here", "_law_value_here"]) fun _ _ _ _ _ _ us hl => match us, hl with | [_, _], _ => rfl
  have F_l_order := fun_mk (st := s_l_order) l_l_order c_l_order k_l_order
  have b_l_order := F_l_order.binds (ps := ["_law_fields", "_law_objects_here", "_law_names_here"]) fun _ _ _ _ _ _ us hl => match us, hl with | [_, _, _], _ => rfl
  have F_l_is_normal := fun_mk (st := s_l_is_normal) l_l_is_normal c_l_is_normal k_l_is_normal
  have b_l_is_normal := F_l_is_normal.binds (ps := ["_law_heap", "_law_fields", "_law_objects_here", "_law_names_here"]) fun _ _ _ _ _ _ us hl => match us, hl with | [_, _, _, _], _ => rfl
  have F_law := fun_mk (st := s_law) l_law c_law k_law
  have b_law := F_law.binds (ps := ["_law_script"]) fun _ _ _ _ _ _ us hl => match us, hl with | [_], _ => rfl
  have F_xInvalidHeap := fun_mk (st := s_InvalidHeap_init) l_xInvalidHeap c_xInvalidHeap k_xInvalidHeap
  have b_xInvalidHeap := F_xInvalidHeap.binds (ps := ["self", "part", "where"]) fun _ _ _ _ _ _ us hl => match us, hl with | [_, _, _], _ => rfl
  have oex_xInvalidHeap : OexC K X_InvalidHeap' := ⟨⟨_, _, _, _, _, _, _, _, _, _, _, _, _, _, _, xl_xInvalidHeap, bm_ok_xInvalidHeap⟩, sa_xInvalidHeap, eC_xInvalidHeap, tC_xInvalidHeap, kC_xInvalidHeap⟩
  have te_xInvalidHeap : PySem.W.exmOne K (.ref X_InvalidHeap') (.ref X_InvalidHeap') = some true := exm_own eC_xInvalidHeap iC_xInvalidHeap tC_xInvalidHeap sC_xInvalidHeap
  refine ⟨PySem.W.fnOf "law" "law" (defArgs s_law) (defBody s_law) (defScope s_law) .none kV_law dc_law pm_law an_law cd_law ct_law, fun s v => .of_eq rfl, fun base _ _ => ?_⟩
  have nof_xInvalidHeap : ∀ f ∈ (["part", "where"] : List Str), PySem.W.findIn K (.ref X_InvalidHeap') f = some none := fun f hf => by
    rcases List.mem_cons.mp hf with e | e
    · rw [e]; exact nf_xInvalidHeap_part
    · rw [List.mem_singleton.mp e]; exact nf_xInvalidHeap_where
  have XC_InvalidHeap : XCls l.prog w K mg base "InvalidHeap" X_InvalidHeap' ["part", "where"] := { oex := oex_xInvalidHeap, mgx := PySem.W.mg_of X Gn a_xInvalidHeap, xf := ⟨ga_xInvalidHeap, gg_xInvalidHeap, eC_xInvalidHeap, hC_xInvalidHeap⟩, init := ⟨f_xInvalidHeap, _, _, ii_xInvalidHeap, ti_xInvalidHeap, ok_xi2 (x := "part") (y := "where") F_xInvalidHeap sc_InvalidHeap_init oex_xInvalidHeap nf_xInvalidHeap_part nf_xInvalidHeap_where (by rfl) (.inl rfl) (.inl rfl) (by decide) (by decide) (.inl rfl) (by decide) (by decide), b_xInvalidHeap⟩, nof := nof_xInvalidHeap }
  have G_l_draw : FnOk l.prog w K mg base CX0 1 f_l_draw _ ["_law_pool", "_law_limit"] (spD false sDraw) := ok_l_draw F_l_draw B
  have G_l_word : FnOk l.prog w K mg base CX0 2 f_l_word _ ["_law_pool", "_law_taken"] (spD false sWord) := ok_l_word F_l_word B ⟨_, _, _, G_l_draw.mono (by decide), PySem.W.mg_of X Gn a_l_draw, k_l_draw, b_l_draw⟩
  have G_l_words : FnOk l.prog w K mg base CX0 3 f_l_words _ ["_law_pool", "_law_least", "_law_most"] (spD false sWords) := ok_l_words F_l_words B ⟨_, _, _, G_l_draw.mono (by decide), PySem.W.mg_of X Gn a_l_draw, k_l_draw, b_l_draw⟩ ⟨_, _, _, G_l_word.mono (by decide), PySem.W.mg_of X Gn a_l_word, k_l_word, b_l_word⟩
  have G_l_value : FnOk l.prog w K mg base CX0 2 f_l_value _ ["_law_pool", "_law_count"] (spD false sValue) := ok_l_value F_l_value B ⟨_, _, _, G_l_draw.mono (by decide), PySem.W.mg_of X Gn a_l_draw, k_l_draw, b_l_draw⟩
  have G_l_objects : FnOk l.prog w K mg base CX0 3 f_l_objects _ ["_law_pool", "_law_fields", "_law_count"] (spD false sObjects) := ok_l_objects F_l_objects B ⟨_, _, _, G_l_value.mono (by decide), PySem.W.mg_of X Gn a_l_value, k_l_value, b_l_value⟩
  have G_l_names : FnOk l.prog w K mg base CX0 3 f_l_names _ ["_law_pool", "_law_names_here", "_law_count"] (spD false sNames) := ok_l_names F_l_names B ⟨_, _, _, G_l_draw.mono (by decide), PySem.W.mg_of X Gn a_l_draw, k_l_draw, b_l_draw⟩
  have G_is_integer : FnOk l.prog w K mg base CX0 1 f_is_integer _ ["value"] (spD false sIsInt) := ok_is_integer F_is_integer B
  have G_is_number_below : FnOk l.prog w K mg base CX0 2 f_is_number_below _ ["value", "count"] (spD false sIsNum) := ok_is_number_below F_is_number_below B ⟨_, _, _, G_is_integer.mono (by decide), PySem.W.mg_of X Gn a_is_integer, k_is_integer, b_is_integer⟩
  have G_is_word : FnOk l.prog w K mg base CX0 1 f_is_word _ ["value"] (spD false sIsWord) := ok_is_word F_is_word B (⟨⟨_, PySem.W.mg_of X Gn cc_LETTERS, _, rfl⟩, ⟨_, PySem.W.mg_of X Gn cc_LONGEST, _, rfl⟩⟩)
  have G_is_word_list : FnOk l.prog w K mg base CX0 2 f_is_word_list _ ["values", "least", "most"] (spD false sIsWL) := ok_is_word_list F_is_word_list B ⟨_, _, _, G_is_word.mono (by decide), PySem.W.mg_of X Gn a_is_word, k_is_word, b_is_word⟩
  have G_is_object : FnOk l.prog w K mg base CX0 3 f_is_object _ ["item", "fields", "count"] (spD false sIsObj) := ok_is_object F_is_object B ⟨_, _, _, G_is_number_below.mono (by decide), PySem.W.mg_of X Gn a_is_number_below, k_is_number_below, b_is_number_below⟩
  have G_check_objects : FnOk l.prog w K mg base (L2.CX l.prog w) 4 f_check_objects _ ["objects", "fields"] (spD false (sChkO X_InvalidHeap')) := ok_check_objects F_check_objects B (⟨⟨_, PySem.W.mg_of X Gn cc_MOST_OBJECTS, _, rfl⟩, ⟨_, PySem.W.mg_of X Gn cc_MOST_NAMES, _, rfl⟩, XC_InvalidHeap⟩) ⟨_, _, _, G_is_object.mono (by decide), PySem.W.mg_of X Gn a_is_object, k_is_object, b_is_object⟩
  have G_check_names : FnOk l.prog w K mg base (L2.CX l.prog w) 4 f_check_names _ ["names", "count"] (spD true (sChkN X_InvalidHeap')) := ok_check_names F_check_names B (⟨⟨_, PySem.W.mg_of X Gn cc_MOST_OBJECTS, _, rfl⟩, ⟨_, PySem.W.mg_of X Gn cc_MOST_NAMES, _, rfl⟩, XC_InvalidHeap⟩) ⟨_, _, _, G_is_word.mono (by decide), PySem.W.mg_of X Gn a_is_word, k_is_word, b_is_word⟩ ⟨_, _, _, G_is_number_below.mono (by decide), PySem.W.mg_of X Gn a_is_number_below, k_is_number_below, b_is_number_below⟩
  have G_meeting_numbers : FnOk l.prog w K mg base CX0 1 f_meeting_numbers _ ["objects", "fields", "roots"] (spD false sMeeting) := ok_meeting_numbers F_meeting_numbers B
  have G_renumbered : FnOk l.prog w K mg base CX0 1 f_renumbered _ ["value", "numbers"] (spD false sRenum) := ok_renumbered F_renumbered B
  have G_Heap_reckoned_shape : FnOk l.prog w K mg base CX0 2 f_Heap_reckoned_shape _ ["self"] (spD true (sShape C_Heap')) := ok_Heap_reckoned_shape F_Heap_reckoned_shape B (⟨Cl_Heap, n_Heap_fields, n_Heap_held, n_Heap_holders, n_Heap_shape⟩) ⟨_, _, _, G_meeting_numbers.mono (by decide), PySem.W.mg_of X Gn a_meeting_numbers, k_meeting_numbers, b_meeting_numbers⟩ ⟨_, _, _, G_renumbered.mono (by decide), PySem.W.mg_of X Gn a_renumbered, k_renumbered, b_renumbered⟩
  have G_Heap_init : FnOk l.prog w K mg base (L2.CX l.prog w) 5 f_Heap_init _ ["self", "fields", "objects", "names"] (spD true (sInit C_Heap' X_InvalidHeap')) := ok_Heap_init F_Heap_init B (⟨Cl_Heap, n_Heap_fields, n_Heap_held, n_Heap_holders, n_Heap_shape⟩) (⟨⟨_, PySem.W.mg_of X Gn cc_MOST_OBJECTS, _, rfl⟩, ⟨_, PySem.W.mg_of X Gn cc_MOST_NAMES, _, rfl⟩, XC_InvalidHeap⟩) ⟨_, _, _, G_is_word_list.mono (by decide), PySem.W.mg_of X Gn a_is_word_list, k_is_word_list, b_is_word_list⟩ ⟨_, _, _, G_check_objects.mono (by decide), PySem.W.mg_of X Gn a_check_objects, k_check_objects, b_check_objects⟩ ⟨_, _, _, G_check_names.mono (by decide), PySem.W.mg_of X Gn a_check_names, k_check_names, b_check_names⟩ ⟨_, _, _, Cl_Heap, ⟨a_Heap_reckoned_shape, i_Heap_reckoned_shape, k_Heap_reckoned_shape⟩, G_Heap_reckoned_shape.mono (by decide), b_Heap_reckoned_shape⟩
  have G_Heap_normal : FnOk l.prog w K mg base CX0 7 f_Heap_normal _ ["self"] (spD true (sNormal C_Heap' X_InvalidHeap')) := ok_Heap_normal F_Heap_normal B (⟨Cl_Heap, n_Heap_fields, n_Heap_held, n_Heap_holders, n_Heap_shape⟩) ⟨_, _, _, ⟨mk_Heap, a_Heap_init, i_Heap_init, kc_Heap⟩, G_Heap_init.mono (by decide), PySem.W.mg_of X Gn aC_Heap, b_Heap_init⟩
  have G_Heap_eq : FnOk l.prog w K mg base CX0 1 f_Heap_eq _ ["self", "other"] (spD false (sEqH C_Heap')) := ok_Heap_eq F_Heap_eq B (⟨Cl_Heap, n_Heap_fields, n_Heap_held, n_Heap_holders, n_Heap_shape⟩) (⟨⟨_, PySem.W.mg_of X Gn aC_Heap, rfl⟩⟩) Is_Heap
  have G_Heap_len : FnOk l.prog w K mg base CX0 1 f_Heap_len _ ["self"] (spD false (sLenH C_Heap')) := ok_Heap_len F_Heap_len B (⟨Cl_Heap, n_Heap_fields, n_Heap_held, n_Heap_holders, n_Heap_shape⟩)
  have G_Heap_objects : FnOk l.prog w K mg base CX0 1 f_Heap_objects _ ["self"] (spD false (sObjsH C_Heap')) := ok_Heap_objects F_Heap_objects B (⟨Cl_Heap, n_Heap_fields, n_Heap_held, n_Heap_holders, n_Heap_shape⟩)
  have G_Heap_names : FnOk l.prog w K mg base CX0 1 f_Heap_names _ ["self"] (spD false (sNamesH C_Heap')) := ok_Heap_names F_Heap_names B (⟨Cl_Heap, n_Heap_fields, n_Heap_held, n_Heap_holders, n_Heap_shape⟩)
  have G_l_meet : FnOk l.prog w K mg base CX0 1 f_l_meet _ ["_law_order_here", "_law_value_here"] (spD false sMeet) := ok_l_meet F_l_meet 
  have G_l_is_integer : FnOk l.prog w K mg base CX0 1 f_l_is_integer _ ["_law_x"] (spD false sIsInt) := ok_l_is_integer F_l_is_integer B
  have G_l_same : FnOk l.prog w K mg base CX0 2 f_l_same _ ["_law_actual", "_law_due"] (spD false sSame) := ok_l_same F_l_same B ⟨_, _, _, G_l_is_integer.mono (by decide), PySem.W.mg_of X Gn a_l_is_integer, k_l_is_integer, b_l_is_integer⟩
  have G_l_new : FnOk l.prog w K mg base CX0 1 f_l_new _ ["_law_order_here", "_law_value_here"] (spD false sNew) := ok_l_new F_l_new B
  have G_l_order : FnOk l.prog w K mg base CX0 2 f_l_order _ ["_law_fields", "_law_objects_here", "_law_names_here"] (spD true sOrder) := ok_l_order F_l_order B ⟨_, _, _, G_l_meet.mono (by decide), PySem.W.mg_of X Gn a_l_meet, k_l_meet, b_l_meet⟩
  have G_l_is_normal : FnOk l.prog w K mg base CX0 3 f_l_is_normal _ ["_law_heap", "_law_fields", "_law_objects_here", "_law_names_here"] (spD true (sIsNorm C_Heap')) := ok_l_is_normal F_l_is_normal B (⟨Cl_Heap, n_Heap_fields, n_Heap_held, n_Heap_holders, n_Heap_shape⟩) ⟨_, _, _, G_l_order.mono (by decide), PySem.W.mg_of X Gn a_l_order, k_l_order, b_l_order⟩ ⟨_, _, _, G_l_new.mono (by decide), PySem.W.mg_of X Gn a_l_new, k_l_new, b_l_new⟩ ⟨_, _, _, G_l_same.mono (by decide), PySem.W.mg_of X Gn a_l_same, k_l_same, b_l_same⟩ ⟨_, _, _, Cl_Heap, ⟨a_Heap_objects, i_Heap_objects, k_Heap_objects⟩, G_Heap_objects.mono (by decide), b_Heap_objects⟩ ⟨_, _, _, Cl_Heap, ⟨a_Heap_names, i_Heap_names, k_Heap_names⟩, G_Heap_names.mono (by decide), b_Heap_names⟩ ⟨_, _, _, Cl_Heap, ⟨a_Heap_len, i_Heap_len, k_Heap_len⟩, G_Heap_len.mono (by decide), b_Heap_len⟩
  have G_law : FnOk l.prog w K mg base CX0 8 fa _ ["_law_script"] (spLawD K) := ok_law F_law B (⟨Cl_Heap, n_Heap_fields, n_Heap_held, n_Heap_holders, n_Heap_shape⟩) (⟨⟨_, PySem.W.mg_of X Gn aC_Heap, rfl⟩⟩) Is_Heap ⟨_, _, _, G_l_draw.mono (by decide), PySem.W.mg_of X Gn a_l_draw, k_l_draw, b_l_draw⟩ ⟨_, _, _, G_l_words.mono (by decide), PySem.W.mg_of X Gn a_l_words, k_l_words, b_l_words⟩ ⟨_, _, _, G_l_objects.mono (by decide), PySem.W.mg_of X Gn a_l_objects, k_l_objects, b_l_objects⟩ ⟨_, _, _, G_l_names.mono (by decide), PySem.W.mg_of X Gn a_l_names, k_l_names, b_l_names⟩ ⟨_, _, _, G_l_is_normal.mono (by decide), PySem.W.mg_of X Gn a_l_is_normal, k_l_is_normal, b_l_is_normal⟩ ⟨_, _, _, ⟨mk_Heap, a_Heap_init, i_Heap_init, kc_Heap⟩, G_Heap_init.mono (by decide), PySem.W.mg_of X Gn aC_Heap, b_Heap_init⟩ ⟨_, _, _, Cl_Heap, ⟨a_Heap_normal, i_Heap_normal, k_Heap_normal⟩, G_Heap_normal.mono (by decide), b_Heap_normal⟩ ⟨_, _, _, Cl_Heap, ⟨a_Heap_eq, i_Heap_eq, k_Heap_eq⟩, G_Heap_eq.mono (by decide), b_Heap_eq⟩ ⟨_, _, _, Cl_Heap, ⟨a_Heap_objects, i_Heap_objects, k_Heap_objects⟩, G_Heap_objects.mono (by decide), b_Heap_objects⟩ ⟨_, _, _, Cl_Heap, ⟨a_Heap_names, i_Heap_names, k_Heap_names⟩, G_Heap_names.mono (by decide), b_Heap_names⟩
  exact G_law
end Z
open PySem PySem.W PyProof.Rows
set_option maxRecDepth 100000 in
set_option maxHeartbeats 0 in
theorem PySem.Challenge.cw_thawedwrites_k04_heap_normal_form_holds : PySem.Challenge.rw_thawedwrites_k04_heap_normal_form.Holds := by
  w_on; o_law; k_head; (case hw => w_witness2)
  k_fill
  refine L2.walk_of (l := PySem.Challenge.rw_thawedwrites_k04_heap_normal_form) (n := 63) (k := 8) (x := "_law_script") (CX := fun _ => L2.CX0) (sp := fun w => Z.spLawD _) rfl (by decide) rfl ⟨rfl, by decide, by decide⟩ (fun w h Y => PySem.W.kIn_of Y) ?F (fun _ _ a ns hl hO hS => ⟨a, ns, rfl, Z.calm_only hO, hS, fun _ => rfl⟩) (fun _ _ _ _ _ h => h)
  case F =>
    intro w mg fa h KX Gn hmg
    refine' Z.all_mk KX Gn hmg ?aC_Heap ?pg_Heap ?hd_Heap ?po_Heap ?sa_Heap ?mk_Heap ?kc_Heap ?n_Heap_fields ?n_Heap_held ?n_Heap_holders ?n_Heap_shape ?ha_Heap ?hn_Heap ?ht_Heap ?hm_Heap ?me_Heap ?no_Heap_NoneType ?no_Heap_bool ?no_Heap_int ?no_Heap_str ?no_Heap_list ?no_Heap_tuple ?no_Heap_dict ?a_xInvalidHeap ?xl_xInvalidHeap ?bm_ok_xInvalidHeap ?sa_xInvalidHeap ?ga_xInvalidHeap ?gg_xInvalidHeap ?nf_xInvalidHeap_part ?nf_xInvalidHeap_where ?kC_xInvalidHeap ?eC_xInvalidHeap ?tC_xInvalidHeap ?hC_xInvalidHeap ?iC_xInvalidHeap ?sC_xInvalidHeap ?ii_xInvalidHeap ?ti_xInvalidHeap ?l_xInvalidHeap ?c_xInvalidHeap ?k_xInvalidHeap ?a_l_draw ?l_l_draw ?c_l_draw ?k_l_draw ?a_l_word ?l_l_word ?c_l_word ?k_l_word ?a_l_words ?l_l_words ?c_l_words ?k_l_words ?a_l_value ?l_l_value ?c_l_value ?k_l_value ?a_l_objects ?l_l_objects ?c_l_objects ?k_l_objects ?a_l_names ?l_l_names ?c_l_names ?k_l_names ?a_is_integer ?l_is_integer ?c_is_integer ?k_is_integer ?a_is_number_below ?l_is_number_below ?c_is_number_below ?k_is_number_below ?a_is_word ?l_is_word ?c_is_word ?k_is_word ?a_is_word_list ?l_is_word_list ?c_is_word_list ?k_is_word_list ?a_is_object ?l_is_object ?c_is_object ?k_is_object ?a_check_objects ?l_check_objects ?c_check_objects ?k_check_objects ?a_check_names ?l_check_names ?c_check_names ?k_check_names ?a_meeting_numbers ?l_meeting_numbers ?c_meeting_numbers ?k_meeting_numbers ?a_renumbered ?l_renumbered ?c_renumbered ?k_renumbered ?a_Heap_reckoned_shape ?i_Heap_reckoned_shape ?l_Heap_reckoned_shape ?c_Heap_reckoned_shape ?k_Heap_reckoned_shape ?a_Heap_init ?i_Heap_init ?l_Heap_init ?c_Heap_init ?k_Heap_init ?a_Heap_normal ?i_Heap_normal ?l_Heap_normal ?c_Heap_normal ?k_Heap_normal ?a_Heap_eq ?i_Heap_eq ?l_Heap_eq ?c_Heap_eq ?k_Heap_eq ?a_Heap_len ?i_Heap_len ?l_Heap_len ?c_Heap_len ?k_Heap_len ?a_Heap_objects ?i_Heap_objects ?l_Heap_objects ?c_Heap_objects ?k_Heap_objects ?a_Heap_names ?i_Heap_names ?l_Heap_names ?c_Heap_names ?k_Heap_names ?a_l_meet ?l_l_meet ?c_l_meet ?k_l_meet ?a_l_is_integer ?l_l_is_integer ?c_l_is_integer ?k_l_is_integer ?a_l_same ?l_l_same ?c_l_same ?k_l_same ?a_l_new ?l_l_new ?c_l_new ?k_l_new ?a_l_order ?l_l_order ?c_l_order ?k_l_order ?a_l_is_normal ?l_l_is_normal ?c_l_is_normal ?k_l_is_normal ?a_law ?l_law ?c_law ?k_law ?cc_LETTERS ?cc_LONGEST ?cc_MOST_OBJECTS ?cc_MOST_NAMES ?z_len ?z_list ?z_tuple ?z_dict ?z_int ?z_str ?z_bool ?z_range ?z_isinstance ?z_sorted ?z_enumerate ?z_zip ?z_min
    (case aC_Heap => k_is)
    (case pg_Heap => k_is)
    (case hd_Heap => k_is)
    (case po_Heap => k_is)
    (case sa_Heap => k_is)
    (case mk_Heap => k_is)
    (case kc_Heap => k_is)
    (case n_Heap_fields => k_is)
    (case n_Heap_held => k_is)
    (case n_Heap_holders => k_is)
    (case n_Heap_shape => k_is)
    (case ha_Heap => k_is)
    (case hn_Heap => k_is)
    (case ht_Heap => k_is)
    (case hm_Heap => k_is)
    (case me_Heap => first | rfl | k_is)
    (case no_Heap_NoneType => first | rfl | k_is)
    (case no_Heap_bool => first | rfl | k_is)
    (case no_Heap_int => first | rfl | k_is)
    (case no_Heap_str => first | rfl | k_is)
    (case no_Heap_list => first | rfl | k_is)
    (case no_Heap_tuple => first | rfl | k_is)
    (case no_Heap_dict => first | rfl | k_is)
    (case a_xInvalidHeap => k_is)
    (case xl_xInvalidHeap => k_is)
    (case bm_ok_xInvalidHeap => decide +kernel)
    (case sa_xInvalidHeap => k_is)
    (case ga_xInvalidHeap => k_is)
    (case gg_xInvalidHeap => k_is)
    (case nf_xInvalidHeap_part => k_is)
    (case nf_xInvalidHeap_where => k_is)
    (case kC_xInvalidHeap => k_is)
    (case eC_xInvalidHeap => k_is)
    (case tC_xInvalidHeap => k_is)
    (case hC_xInvalidHeap => k_is)
    (case iC_xInvalidHeap => k_is)
    (case sC_xInvalidHeap => first | rfl | k_is)
    (case ii_xInvalidHeap => k_is)
    (case ti_xInvalidHeap => k_is)
    (case l_xInvalidHeap => k_is)
    (case c_xInvalidHeap => k_is)
    (case k_xInvalidHeap => k_is)
    (case a_l_draw => k_is)
    (case l_l_draw => k_is)
    (case c_l_draw => k_is)
    (case k_l_draw => k_is)
    (case a_l_word => k_is)
    (case l_l_word => k_is)
    (case c_l_word => k_is)
    (case k_l_word => k_is)
    (case a_l_words => k_is)
    (case l_l_words => k_is)
    (case c_l_words => k_is)
    (case k_l_words => k_is)
    (case a_l_value => k_is)
    (case l_l_value => k_is)
    (case c_l_value => k_is)
    (case k_l_value => k_is)
    (case a_l_objects => k_is)
    (case l_l_objects => k_is)
    (case c_l_objects => k_is)
    (case k_l_objects => k_is)
    (case a_l_names => k_is)
    (case l_l_names => k_is)
    (case c_l_names => k_is)
    (case k_l_names => k_is)
    (case a_is_integer => k_is)
    (case l_is_integer => k_is)
    (case c_is_integer => k_is)
    (case k_is_integer => k_is)
    (case a_is_number_below => k_is)
    (case l_is_number_below => k_is)
    (case c_is_number_below => k_is)
    (case k_is_number_below => k_is)
    (case a_is_word => k_is)
    (case l_is_word => k_is)
    (case c_is_word => k_is)
    (case k_is_word => k_is)
    (case a_is_word_list => k_is)
    (case l_is_word_list => k_is)
    (case c_is_word_list => k_is)
    (case k_is_word_list => k_is)
    (case a_is_object => k_is)
    (case l_is_object => k_is)
    (case c_is_object => k_is)
    (case k_is_object => k_is)
    (case a_check_objects => k_is)
    (case l_check_objects => k_is)
    (case c_check_objects => k_is)
    (case k_check_objects => k_is)
    (case a_check_names => k_is)
    (case l_check_names => k_is)
    (case c_check_names => k_is)
    (case k_check_names => k_is)
    (case a_meeting_numbers => k_is)
    (case l_meeting_numbers => k_is)
    (case c_meeting_numbers => k_is)
    (case k_meeting_numbers => k_is)
    (case a_renumbered => k_is)
    (case l_renumbered => k_is)
    (case c_renumbered => k_is)
    (case k_renumbered => k_is)
    (case a_Heap_reckoned_shape => k_is)
    (case i_Heap_reckoned_shape => k_is)
    (case l_Heap_reckoned_shape => k_is)
    (case c_Heap_reckoned_shape => k_is)
    (case k_Heap_reckoned_shape => k_is)
    (case a_Heap_init => k_is)
    (case i_Heap_init => k_is)
    (case l_Heap_init => k_is)
    (case c_Heap_init => k_is)
    (case k_Heap_init => k_is)
    (case a_Heap_normal => k_is)
    (case i_Heap_normal => k_is)
    (case l_Heap_normal => k_is)
    (case c_Heap_normal => k_is)
    (case k_Heap_normal => k_is)
    (case a_Heap_eq => k_is)
    (case i_Heap_eq => k_is)
    (case l_Heap_eq => k_is)
    (case c_Heap_eq => k_is)
    (case k_Heap_eq => k_is)
    (case a_Heap_len => k_is)
    (case i_Heap_len => k_is)
    (case l_Heap_len => k_is)
    (case c_Heap_len => k_is)
    (case k_Heap_len => k_is)
    (case a_Heap_objects => k_is)
    (case i_Heap_objects => k_is)
    (case l_Heap_objects => k_is)
    (case c_Heap_objects => k_is)
    (case k_Heap_objects => k_is)
    (case a_Heap_names => k_is)
    (case i_Heap_names => k_is)
    (case l_Heap_names => k_is)
    (case c_Heap_names => k_is)
    (case k_Heap_names => k_is)
    (case a_l_meet => k_is)
    (case l_l_meet => k_is)
    (case c_l_meet => k_is)
    (case k_l_meet => k_is)
    (case a_l_is_integer => k_is)
    (case l_l_is_integer => k_is)
    (case c_l_is_integer => k_is)
    (case k_l_is_integer => k_is)
    (case a_l_same => k_is)
    (case l_l_same => k_is)
    (case c_l_same => k_is)
    (case k_l_same => k_is)
    (case a_l_new => k_is)
    (case l_l_new => k_is)
    (case c_l_new => k_is)
    (case k_l_new => k_is)
    (case a_l_order => k_is)
    (case l_l_order => k_is)
    (case c_l_order => k_is)
    (case k_l_order => k_is)
    (case a_l_is_normal => k_is)
    (case l_l_is_normal => k_is)
    (case c_l_is_normal => k_is)
    (case k_l_is_normal => k_is)
    (case a_law => k_is)
    (case l_law => k_is)
    (case c_law => k_is)
    (case k_law => k_is)
    (case cc_LETTERS => k_is)
    (case cc_LONGEST => k_is)
    (case cc_MOST_OBJECTS => k_is)
    (case cc_MOST_NAMES => k_is)
    (case z_len => k_is)
    (case z_list => k_is)
    (case z_tuple => k_is)
    (case z_dict => k_is)
    (case z_int => k_is)
    (case z_str => k_is)
    (case z_bool => k_is)
    (case z_range => k_is)
    (case z_isinstance => k_is)
    (case z_sorted => k_is)
    (case z_enumerate => k_is)
    (case z_zip => k_is)
    (case z_min => k_is)
