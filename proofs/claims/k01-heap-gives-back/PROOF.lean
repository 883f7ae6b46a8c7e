import PyProof.Rows.All
import Wide.All
import OpenK.AllK
import Wide.FinOn
import HandS.ForMost
import HandS.Wide
import HandS.More
import HandS.Conv
import HandS.IsInst
import HandS.DictComp
import HandS.DeepEq
import HandS.ExcInit
import HandS.ExcField
import HandS.ExcOwn
import HandS.TryOnly
import HandS.WordsExc
import HandS.NoneIn
import HandS.Deep
import HandS.OwnEq
import HandS.Steps
import HandS.Flow
import HandS.Walk
import HandS.CallSlots
import HandS.Codes
import HandS.SortInts
import HandS.TupLe
import PySem.Challenge.RW_thawedwrites_k01_heap_gives_back
set_option Elab.async false
set_option linter.all false
set_option maxRecDepth 100000
set_option maxHeartbeats 2000000
/-! G: what all laws share: calls by name, heaps and frames -/
namespace G
open PySem PySem.Spec PyProof.Rows L2

/-! ### defs under their names -/
structure Cal (P : Program) (w : World) (K : PySem.W.Frag) (mg : Str → Option Value) (base : Heap) (CX : CXT) (k : Nat) (x : Str) (sp : Sp) : Prop where
  ex : ∃ (f : Addr) (fd : FuncData) (ps : List Str), FnOk P w K mg base CX k f fd ps sp ∧ mg x = some (.ref f) ∧ PySem.W.keepIn K (.ref f) = true ∧ Binds K fd ps []
structure Met (P : Program) (w : World) (K : PySem.W.Frag) (mg : Str → Option Value) (base : Heap) (CX : CXT) (k : Nat) (C : Addr) (m : Str) (sp : Sp) : Prop where
  ex : ∃ (f : Addr) (fd : FuncData) (ps : List Str), Cls K C ∧ Meth K C m f ∧ FnOk P w K mg base CX k f fd ps sp ∧ Binds K fd ps []
structure Mak (P : Program) (w : World) (K : PySem.W.Frag) (mg : Str → Option Value) (base : Heap) (CX : CXT) (k : Nat) (x : Str) (C : Addr) (sp : Sp) : Prop where
  ex : ∃ (f : Addr) (fd : FuncData) (ps : List Str), Mk K C f ∧ FnOk P w K mg base CX k f fd ps sp ∧ mg x = some (.ref C) ∧ Binds K fd ps []
def tCl (sp : Sp) (E : XK) (t : TA) : TE := fun σ H Q => t σ H fun vs H1 => sp vs H1 Q E
def tMt (C : Addr) (m : Str) (sp : Sp) (E : XK) (ta : TE) (t : TA) : TE := fun σ H Q => ta σ H fun x H1 => ∃ a dx fs, x = .ref a ∧ H1 a = some (.ins C dx fs) ∧ fs.lookup m = none ∧ t σ H1 fun vs H2 => sp (x :: vs) H2 Q E
section
variable {X : Cx} {k j : Nat} {C : Addr} {x m : Str} {sp : Sp} {p pos apos : Pos} {e o : Expr} {es : List Expr} {ta : TE} {t : TA} {E : XK} {CX : CXT}
theorem tCall_cl (sp : Sp) (E : XK) (t : TA) : tCall sp [] E t = tCl sp E t := by
  funext σ H Q
  show (t σ H fun vs H1 => sp (vs ++ []) H1 Q E) = t σ H fun vs H1 => sp vs H1 Q E
  congr 1
  funext vs H1
  rw [List.append_nil]
/-- f(e, ..): what it may raise is passed on by hx -/
theorem pe_cx (c : Cal X.prog X.w X.K X.mg X.base CX k x sp) (hr : Room j X.A) (hk : k ≤ j) (hx : Passes CX X E) (hg : Gl X x) (ha : PA X (e :: es) t)
    (hdb : (x == ("__debug__" : Str)) = false := by decide) (he : starEach (e :: es) X.env = (false, eval e X.env) :: starEach es X.env := by rfl) (hpl : (backTo pos (starEach es X.env)).any (·.1) = false := by rfl) :
    PE X (.Call (.Name x p) (e :: es) [] pos) (tCl sp E t) := by
  obtain ⟨f, fd, ps, F, hm, kp, b⟩ := c.ex
  rw [← tCall_cl]
  exact pe_call F (hr.mono hk) hg hm kp b .nil hx ha hdb he hpl
/-- f(e, ..), f raises nothing -/
theorem pe_c (c : Cal X.prog X.w X.K X.mg X.base CX0 k x sp) (hr : Room j X.A) (hk : k ≤ j) (hg : Gl X x) (ha : PA X (e :: es) t)
    (hdb : (x == ("__debug__" : Str)) = false := by decide) (he : starEach (e :: es) X.env = (false, eval e X.env) :: starEach es X.env := by rfl) (hpl : (backTo pos (starEach es X.env)).any (·.1) = false := by rfl) :
    PE X (.Call (.Name x p) (e :: es) [] pos) (tCl sp E0 t) := pe_cx c hr hk pass0 hg ha hdb he hpl
theorem pe_mx {pl : Sem Bool} (c : Met X.prog X.w X.K X.mg X.base CX k C m sp) (hr : Room j X.A) (hk : k ≤ j) (hx : Passes CX X E) (he : PE X o ta) (ha : PA X (e :: es) t)
    (hst : starEach (e :: es) X.env = (false, eval e X.env) :: starEach es X.env := by rfl) (hpl : (backTo pos (starEach es X.env)).any (·.1) = false := by rfl)
    (ht : eval (.Call (.Attribute o m apos) (e :: es) [] pos) X.env = (do
      let ov ← eval o X.env
      standAt apos.atName
      let (f, first) ← holding [ov] (getMethod ov m pl)
      callWith pos f first (backTo pos (starEach (e :: es) X.env)) (backToKw pos (keywordEach [] X.env))) := by rfl) :
    PE X (.Call (.Attribute o m apos) (e :: es) [] pos) (tMt C m sp E ta t) := by
  obtain ⟨f, fd, ps, hc, hm, F, b⟩ := c.ex
  have h := pe_meth (pl := pl) he hc hm F (hr.mono hk) b .nil hx ha hst hpl ht
  have e1 : tMeth C m sp [] E ta t = tMt C m sp E ta t := by
    funext σ H Q
    unfold tMeth tMt
    congr 1
    funext x H1
    simp only [List.append_nil]
  rw [e1] at h
  exact h
theorem pe_m (c : Met X.prog X.w X.K X.mg X.base CX0 k C m sp) {pl : Sem Bool} (hr : Room j X.A) (hk : k ≤ j) (he : PE X o ta) (ha : PA X (e :: es) t)
    (hst : starEach (e :: es) X.env = (false, eval e X.env) :: starEach es X.env := by rfl) (hpl : (backTo pos (starEach es X.env)).any (·.1) = false := by rfl)
    (ht : eval (.Call (.Attribute o m apos) (e :: es) [] pos) X.env = (do
      let ov ← eval o X.env
      standAt apos.atName
      let (f, first) ← holding [ov] (getMethod ov m pl)
      callWith pos f first (backTo pos (starEach (e :: es) X.env)) (backToKw pos (keywordEach [] X.env))) := by rfl) :
    PE X (.Call (.Attribute o m apos) (e :: es) [] pos) (tMt C m sp E0 ta t) := pe_mx (pl := pl) c hr hk pass0 he ha hst hpl ht
theorem pe_mx0 {pl : Sem Bool} (c : Met X.prog X.w X.K X.mg X.base CX k C m sp) (hr : Room j X.A) (hk : k ≤ j) (hx : Passes CX X E) (he : PE X o ta)
    (ht : eval (.Call (.Attribute o m apos) [] [] pos) X.env = (do
      let ov ← eval o X.env
      standAt apos.atName
      let (f, first) ← holding [ov] (getMethod ov m pl)
      callWith pos f first (backTo pos (starEach [] X.env)) (backToKw pos (keywordEach [] X.env))) := by rfl) :
    PE X (.Call (.Attribute o m apos) [] [] pos) (tMt C m sp E ta tNil) := by
  obtain ⟨f, fd, ps, hc, hm, F, b⟩ := c.ex
  have h := pe_meth0 (pl := pl) he hc hm F (hr.mono hk) b .nil hx ht
  have e1 : tMeth C m sp [] E ta tNil = tMt C m sp E ta tNil := by
    funext σ H Q
    unfold tMeth tMt
    rfl
  rw [e1] at h
  exact h
/-- C(e, ..) -/
def tMk (C : Addr) (sp : Sp) (E : XK) (t : TA) : TE := tMake C sp [] E t
theorem pe_k (c : Mak X.prog X.w X.K X.mg X.base CX k x C sp) (hr : Room j X.A) (hk : k + 1 ≤ j) (hx : Passes CX X E) (hg : Gl X x) (ha : PA X (e :: es) t)
    (hdb : (x == ("__debug__" : Str)) = false := by decide) (he : starEach (e :: es) X.env = (false, eval e X.env) :: starEach es X.env := by rfl) (hpl : (backTo pos (starEach es X.env)).any (·.1) = false := by rfl) :
    PE X (.Call (.Name x p) (e :: es) [] pos) (tMk C sp E t) := by
  obtain ⟨f, fd, ps, M, F, hm, b⟩ := c.ex
  exact pe_make M F (hr.mono hk) hg hm b .nil hx ha hdb he hpl
end

/-! ### a text times a number -/
theorem op_mul_str {X : Cx} : OpR X (binaryOp .Mult) (fun x y H Q => ∃ (c : Nat) (n : Int), x = .str ⟨#[c]⟩ ∧ y = .int n ∧ 2 ≤ n ∧ n ≤ 1000 ∧ Q (.str ⟨(List.replicate n.toNat c).toArray⟩) H) := by
  intro pins s σ H x y v u Q I rx ry h
  obtain ⟨c, n, rfl, rfl, h2, h3, q⟩ := h
  obtain ⟨t, rfl⟩ := rx
  obtain ⟨t', rfl⟩ := ry
  have e0 : (n == 1 || (⟨#[c]⟩ : Str).length == 0) = false := by
    have : (n == 1) = false := by simp; omega
    rw [this]; rfl
  refine P.mul_str (by simp; omega) (fun _ _ => ?_) (fun _ _ => ?_) ?_
  · show ¬ (((1 : Nat) : Int) > (2 ^ 63 - 1) / n)
    have : (1001 : Int) ≤ (2 ^ 63 - 1) / n := by
      rw [Int.le_ediv_iff_mul_le (by omega)]
      omega
    omega
  · show Builtin.Str.tooLong (1 * n.toNat) = false
    rw [Nat.one_mul]
    have : n.toNat ≤ 1000 := by omega
    unfold Builtin.Str.tooLong
    rw [sizeLine_eq]
    simp
    omega
  · rw [if_neg (by omega), if_neg (by rw [e0]; simp)]
    have e1 : ∀ (k : Nat) (a : Array Nat), (List.replicate k (#[c] : Array Nat)).foldl (· ++ ·) a = a ++ (List.replicate k c).toArray := by
      intro k
      induction k with
      | zero =>
        intro a
        simp
      | succ k ih =>
        intro a
        rw [List.replicate_succ, List.foldl_cons, ih, List.replicate_succ]
        apply Array.ext'
        simp
    rw [show (⟨#[c]⟩ : Str).cps = #[c] from rfl, e1]
    simp only [Array.empty_append]
    refine ⟨?_, ⟨.str ⟨(List.replicate n.toNat c).toArray⟩, H, I.tok _, ⟨_, rfl⟩, q⟩⟩
    show (List.replicate n.toNat c).toArray.size ≤ sizeLine
    rw [sizeLine_eq]
    simp
    omega

theorem szl {n : Nat} (h : n ≤ 10000) : n ≤ sizeLine := by rw [sizeLine_eq]; omega
theorem szl' {n : Nat} (h : n < 10000) : n < sizeLine := by rw [sizeLine_eq]; omega


/-! ### names of the module; what the built-in names are -/
theorem pe_gv {X : Cx} {x : Str} {v : V} {pos : Pos} (hg : Gl X x) (h : ∃ u, X.mg x = some u ∧ RelV v u) (hd : (x == ("__debug__" : Str)) = false := by decide) : PE X (.Name x pos) (tC v) := by
  obtain ⟨u, hm, r⟩ := h
  exact pe_glob hg hm r hd
structure Blt (mg : Str → Option Value) : Prop where
  len : mg "len" = none
  list : mg "list" = none
  tuple : mg "tuple" = none
  dict : mg "dict" = none
  int : mg "int" = none
  str : mg "str" = none
  bool : mg "bool" = none
  range : mg "range" = none
  isinstance : mg "isinstance" = none
  sorted : mg "sorted" = none
  enumerate : mg "enumerate" = none
  zip : mg "zip" = none
  min : mg "min" = none

/-! ### readings, a step at a time -/
section
variable {D : Ends} {σ : L2.St} {H : Hp} {t1 t2 : TS} {te ta tb : TE} {Q : VK} {v x y : V} {i : Nat} {K : PySem.W.Frag}
theorem g_seq (h : t1 { D with nx := t2 D } σ H) : tSeq t1 t2 D σ H := h
theorem g_next (h : D.nx σ H) : tNext D σ H := h
theorem g_brk (h : D.bk σ H) : tBreak D σ H := h
theorem g_cont (h : D.ct σ H) : tCont D σ H := h
theorem g_asg {g : TG} (h : te σ H fun x H1 => g x σ H1 D.nx) : tAsg te g D σ H := h
theorem g_name {R : L2.St → Hp → Prop} (h : R (σ.set i (some v)) H) : gName i v σ H R := h
theorem g_var (h : σ[i]? = some (some v)) (q : Q v H) : tVar i σ H Q := ⟨v, h, q⟩
theorem g_c (q : Q v H) : tC v σ H Q := q
theorem g_op {r : R2} (h : ta σ H fun x H1 => tb σ H1 fun y H2 => r x y H2 Q) : tOp r ta tb σ H Q := h
theorem g_un {r : V → Hp → VK → Prop} (h : ta σ H fun x H1 => r x H1 Q) : tUn r ta σ H Q := h
theorem g_I0 {g : Int → Int → V} {a b : Int} (q : Q (g a b) H) : rI0 g (.int a) (.int b) H Q := ⟨a, b, rfl, rfl, q⟩
theorem g_I {C : Int → Int → Prop} {g : Int → Int → V} {a b : Int} (hc : C a b) (q : Q (g a b) H) : rI C g (.int a) (.int b) H Q := ⟨a, b, rfl, rfl, hc, q⟩
theorem g_eq (hs : scal x y = true) (q : Q (.bl (decide (x = y))) H) : rEq x y H Q := ⟨hs, q⟩
theorem g_ne (hs : scal x y = true) (q : Q (.bl (!decide (x = y))) H) : rNe x y H Q := ⟨hs, q⟩
theorem g_drop (h : te σ H fun _ H1 => D.nx σ H1) : tDrop te D σ H := h
theorem g_ret (h : te σ H D.rt) : tRet te D σ H := h
theorem g_retN (h : D.rt .non H) : tRetN D σ H := h
theorem g_ifS {c : TT} (h : c σ H fun b H1 => if b = true then t1 D σ H1 else t2 D σ H1) : tIfS c t1 t2 D σ H := h
theorem g_ife {c : TT} (h : c σ H fun b H1 => if b = true then ta σ H1 Q else tb σ H1 Q) : tIf c ta tb σ H Q := h
theorem g_test {R : Bool → Hp → Prop} (h : te σ H fun x H' => ∃ k, x = .bl k ∧ R k H') : tTest te σ H R := h
theorem g_B {R : Bool → Hp → Prop} (h : te σ H fun x H' => ∃ k, x = .bl k ∧ R k H') : tB te σ H R := h
theorem g_bl {b : Bool} {P : Bool → Prop} (h : P b) : ∃ k, V.bl b = .bl k ∧ P k := ⟨b, rfl, h⟩
theorem g_and {t u : TT} {R : Bool → Hp → Prop} (h : t σ H fun c H1 => if c = true then u σ H1 R else R false H1) : tAnd t u σ H R := h
theorem g_or {t u : TT} {R : Bool → Hp → Prop} (h : t σ H fun c H1 => if c = true then R true H1 else u σ H1 R) : tOr t u σ H R := h
theorem g_not {t : TT} {R : Bool → Hp → Prop} (h : t σ H fun c H1 => R (!c) H1) : tNot t σ H R := h
theorem g_andV (h : ta σ H fun x H1 => ∃ c, x = .bl c ∧ if c = true then tb σ H1 Q else Q (.bl false) H1) : tAndV ta tb σ H Q := h
theorem g_orV (h : ta σ H fun x H1 => ∃ c, x = .bl c ∧ if c = true then Q (.bl true) H1 else tb σ H1 Q) : tOrV ta tb σ H Q := h
theorem g_notV (h : ta σ H fun x H1 => ∃ c, x = .bl c ∧ Q (.bl (!c)) H1) : tNotV ta σ H Q := h
theorem g_chain {r r' : R2} {tc : TE} (h : ta σ H fun x H1 => tb σ H1 fun y H2 => r x y H2 fun z H3 => ∃ k, z = .bl k ∧ (if k = true then tc σ H3 fun w' H4 => r' y w' H4 Q else Q (.bl false) H3)) : tChain r r' ta tb tc σ H Q := h
theorem g_nil {R : List V → Hp → Prop} (h : R [] H) : tNil σ H R := h
theorem g_cons {tr : TA} {R : List V → Hp → Prop} (h : ta σ H fun x H1 => tr σ H1 fun xs H2 => R (x :: xs) H2) : tCons ta tr σ H R := h
theorem g_cb {r : List V → Hp → VK → Prop} {t : TA} (h : t σ H fun vs H1 => r vs H1 Q) : tCB r t σ H Q := h
theorem g_cl {sp : Sp} {E : XK} {t : TA} (h : t σ H fun vs H1 => sp vs H1 Q E) : tCl sp E t σ H Q := h
theorem g_mt {C : Addr} {m : Str} {sp : Sp} {E : XK} {t : TA} (h : ta σ H fun x H1 => ∃ a dx fs, x = .ref a ∧ H1 a = some (.ins C dx fs) ∧ fs.lookup m = none ∧ t σ H1 fun vs H2 => sp (x :: vs) H2 Q E) : tMt C m sp E ta t σ H Q := h
theorem g_isN {Q : VK} (q : Q (.bl (decide (x = .non))) H) : rIsN x .non H Q := ⟨rfl, q⟩
theorem g_notN {Q : VK} (q : Q (.bl (!decide (x = .non))) H) : rNotN x .non H Q := ⟨rfl, q⟩
theorem g_ixL {p : Addr} {xs : List V} {k : Int} (h : SqL K H p xs) (ha : atI xs k = some v) (q : Q v H) : rIxL K (.ref p) (.int k) H Q := ⟨p, xs, k, v, rfl, rfl, h, ha, q⟩
theorem g_ixT {p : Addr} {xs : List V} {k : Int} (h : SqT K H p xs) (ha : atI xs k = some v) (q : Q v H) : rIxT K (.ref p) (.int k) H Q := ⟨p, xs, k, v, rfl, rfl, h, ha, q⟩
theorem g_lst {t : TA} (h : t σ H fun xs H1 => xs.length ≤ sizeLine ∧ ∀ p, H1 p = none → Q (.ref p) (upd H1 p (.lst xs))) : tLst t σ H Q := h
theorem g_tup {t : TA} (h : t σ H fun xs H1 => xs.length ≤ sizeLine ∧ ∀ p, H1 p = none → Q (.ref p) (upd H1 p (.tup xs))) : tTup t σ H Q := h
theorem g_sub {to ti : TE} {ts : TSet} {R : L2.St → Hp → Prop} (h : to σ H fun o H1 => ti σ H1 fun i H2 => ts o i v H2 fun H3 => R σ H3) : gSub to ti ts v σ H R := h
theorem g_setL {p : Addr} {xs : List V} {k : Int} {j : Nat} {R : Hp → Prop} (h : H p = some (.lst xs)) (hj : ixN xs.length k = some j) (q : R (upd H p (.lst (xs.set j v)))) : rSetL (.ref p) (.int k) v H R := ⟨p, xs, k, j, rfl, rfl, h, hj, q⟩
theorem g_dec {c A B : Prop} [Decidable c] (h1 : c → A) (h2 : ¬ c → B) : if decide c = true then A else B := by
  by_cases h : c
  · rw [if_pos (decide_eq_true h)]; exact h1 h
  · rw [if_neg (by rw [decide_eq_false h]; exact Bool.false_ne_true)]; exact h2 h
theorem g_decN {c A B : Prop} [Decidable c] (h1 : ¬ c → A) (h2 : c → B) : if (!decide c) = true then A else B := by
  by_cases h : c
  · rw [if_neg (by rw [decide_eq_true h]; exact Bool.false_ne_true)]; exact h2 h
  · rw [if_pos (by rw [decide_eq_false h]; rfl)]; exact h1 h
theorem g_bool {b : Bool} {A B : Prop} (h1 : b = true → A) (h2 : b = false → B) : if b = true then A else B := by
  cases b with
  | true => exact iteT (h1 rfl)
  | false => exact iteF (h2 rfl)
theorem g_boolN {b : Bool} {A B : Prop} (h1 : b = false → A) (h2 : b = true → B) : if (!b) = true then A else B := by
  cases b with
  | true => exact iteF (h2 rfl)
  | false => exact iteT (h1 rfl)
end

/-! ### calls of built-ins, their readings under names -/
abbrev TC := List V → Hp → VK → Prop
def rLenQ (K : PySem.W.Frag) : TC := fun xs H Q => ∃ p ys, xs = [.ref p] ∧ (SqL K H p ys ∨ SqT K H p ys) ∧ Q (.int ys.length) H
def rLenS : TC := fun xs H Q => ∃ z, xs = [.str z] ∧ z.length ≤ sizeLine ∧ Q (.int z.length) H
def rLenD : TC := fun xs H Q => ∃ a kvs, xs = [V.ref a] ∧ H a = some (.dK kvs) ∧ Q (.int kvs.length) H
def rInt1 : TC := fun xs H Q => (∃ i, xs = [.int i] ∧ Q (.int i) H) ∨ ∃ k, xs = [.bl k] ∧ Q (.int (if k then 1 else 0)) H
def rListQ (K : PySem.W.Frag) : TC := fun xs H Q => ∃ p ys, xs = [.ref p] ∧ (SqL K H p ys ∨ SqT K H p ys) ∧ ∀ l, H l = none → Q (.ref l) (upd H l (.lst ys))
def rListKs : TC := fun xs H Q => ∃ (a : Addr) (kvs : List (Key × V)), xs = [.ref a] ∧ Rd H a (.dK kvs) ∧ ∀ p, H p = none → Q (.ref p) (upd H p (.lst (kvs.map fun kv => kV kv.1)))
def rTupQ (K : PySem.W.Frag) : TC := fun xs H Q => ∃ p ys, xs = [.ref p] ∧ ((SqL K H p ys ∧ ∀ l, H l = none → Q (.ref l) (upd H l (.tup ys))) ∨ (SqT K H p ys ∧ Q (.ref p) H))
def rDictQ : TC := fun xs H Q => ∃ (a : Addr) (kvs : List (Key × V)), xs = [.ref a] ∧ Rd H a (.dK kvs) ∧ ∀ p, H p = none → Q (.ref p) (upd H p (.dK kvs))
def rSortedDQ : TC := fun xs H Q => ∃ (a : Addr) (kvs : List (Key × V)) (ks : List Str), xs = [.ref a] ∧ Rd H a (.dK kvs) ∧ kvs.map (·.1) = ks.map Sum.inr ∧ ks.length < 64 ∧ ∀ ys p, ys.Perm ks → sortedS ys = true → H p = none → Q (.ref p) (upd H p (.lst (ys.map V.str)))
section
variable {X : Cx}
theorem c_len : CallR X (.builtin "len") (rLenQ X.K) := call_len_seq
theorem c_lenS : CallR X (.builtin "len") rLenS := call_len_str
theorem c_lenD : CallR X (.builtin "len") rLenD := call_lenD
theorem c_int : CallR X (.type "int") rInt1 := call_int1
theorem c_list : CallR X (.type "list") (rListQ X.K) := call_list_of
theorem c_listK (h : X.calm = true) : CallR X (.type "list") rListKs := call_listD h
theorem c_tuple : CallR X (.type "tuple") (rTupQ X.K) := call_tuple_of
theorem c_dict : CallR X (.type "dict") rDictQ := call_dictD
theorem c_sortedD (h : X.calm = true) : CallR X (.builtin "sorted") rSortedDQ := call_sortedD h
end
section
variable {H : Hp} {Q : VK} {K : PySem.W.Frag} {p : Addr} {xs : List V} {kvs : List (Key × V)}
theorem g_len (h : SqL K H p xs) (q : Q (.int xs.length) H) : rLenQ K [.ref p] H Q := ⟨p, xs, rfl, .inl h, q⟩
theorem g_lenT (h : SqT K H p xs) (q : Q (.int xs.length) H) : rLenQ K [.ref p] H Q := ⟨p, xs, rfl, .inr h, q⟩
theorem g_lenS {z : Str} (h : z.length ≤ sizeLine) (q : Q (.int z.length) H) : rLenS [.str z] H Q := ⟨z, rfl, h, q⟩
theorem g_lenD (h : H p = some (.dK kvs)) (q : Q (.int kvs.length) H) : rLenD [.ref p] H Q := ⟨p, kvs, rfl, h, q⟩
theorem g_int {i : Int} (q : Q (.int i) H) : rInt1 [.int i] H Q := .inl ⟨i, rfl, q⟩
theorem g_list (h : SqL K H p xs) (q : ∀ l, H l = none → Q (.ref l) (upd H l (.lst xs))) : rListQ K [.ref p] H Q := ⟨p, xs, rfl, .inl h, q⟩
theorem g_listK (h : Rd H p (.dK kvs)) (q : ∀ l, H l = none → Q (.ref l) (upd H l (.lst (kvs.map fun kv => kV kv.1)))) : rListKs [.ref p] H Q := ⟨p, kvs, rfl, h, q⟩
theorem g_tupL (h : SqL K H p xs) (q : ∀ l, H l = none → Q (.ref l) (upd H l (.tup xs))) : rTupQ K [.ref p] H Q := ⟨p, xs, rfl, .inl ⟨h, q⟩⟩
theorem g_tupT (h : SqT K H p xs) (q : Q (.ref p) H) : rTupQ K [.ref p] H Q := ⟨p, xs, rfl, .inr ⟨h, q⟩⟩
theorem g_dict (h : Rd H p (.dK kvs)) (q : ∀ l, H l = none → Q (.ref l) (upd H l (.dK kvs))) : rDictQ [.ref p] H Q := ⟨p, kvs, rfl, h, q⟩
theorem g_cut {D : Ends} {σ : L2.St} {t u : TS} (Mid : L2.St → Hp → Prop) (h1 : t { D with nx := Mid } σ H) (h2 : ∀ σ' H', Mid σ' H' → u D σ' H') : C8.tCut t u D σ H := ⟨Mid, h1, h2⟩
theorem g_pow {a b : Int} (h0 : 0 ≤ b ∧ b ≤ 1000000 ∧ a.natAbs < 2 ^ 64) (q : Q (.int (a ^ b.toNat)) H) : rI CPow (fun i j => .int (i ^ j.toNat)) (.int a) (.int b) H Q := ⟨a, b, rfl, rfl, h0, q⟩
theorem st0 {t : TS} {D : Ends} {σ σ' : L2.St} (e : σ = σ') (h : t D σ' H) : t D σ H := e ▸ h
end

/-! ### sep.join(list of texts) -/
def rJoin (K : PySem.W.Frag) : V → List V → Hp → VK → Prop := fun x xs H Q => ∃ a p, ∃ ys : List Str, x = .str a ∧ xs = [.ref p] ∧ (SqL K H p (ys.map V.str) ∨ SqT K H p (ys.map V.str)) ∧
  (ys.map (·.length)).sum + ys.length * a.length ≤ 16777216 ∧ Q (.str (Txt.join a ys)) H
theorem pe_jn {X : Cx} {o e : Expr} {to te : TE} {apos pos : Pos} (ho : PE X o to) (he : PE X e te) (hs : starEach [e] X.env = [(false, eval e X.env)] := by rfl) (hbase : attributeBase o "join" X.env (eval o X.env) = eval o X.env := by rfl) (hline : (apos.endLine == pos.line) = true := by rfl) :
    PE X (.Call (.Attribute o "join" apos) [e] [] pos) (tM1 (rJoin X.K) to te) := pe_join ho he hs hbase hline
section
variable {σ : L2.St} {H : Hp} {K : PySem.W.Frag} {Q : VK}
theorem g_m1 {r : V → List V → Hp → VK → Prop} {to te : TE} (h : to σ H fun x H1 => (∃ a, x = .str a) ∧ te σ H1 fun y H2 => r x [y] H2 Q) : tM1 r to te σ H Q := h
theorem g_isStr {z : Str} {P : Prop} (h : P) : (∃ a, V.str z = .str a) ∧ P := ⟨⟨z, rfl⟩, h⟩
theorem g_join {a : Str} {p : Addr} {ys : List Str} (h : SqL K H p (ys.map V.str)) (hl : (ys.map (·.length)).sum + ys.length * a.length ≤ 16777216) (q : Q (.str (Txt.join a ys)) H) : rJoin K (.str a) [.ref p] H Q := ⟨a, p, ys, rfl, rfl, .inl h, hl, q⟩
theorem g_ixS {z : Str} {k : Int} {c : Nat} (hl : z.length ≤ sizeLine) (h : atI z.cps.toList k = some c) (q : Q (.str ⟨#[c]⟩) H) : rIxS (.str z) (.int k) H Q := ⟨z, k, c, rfl, rfl, hl, h, q⟩
end

/-! ### dicts -/
section
variable {σ : L2.St} {H : Hp} {D : Ends}
theorem g_dput {td ty tv : TE} (h : tv σ H fun v H1 => td σ H1 fun x H2 => ty σ H2 fun y H3 => ∃ a H4, x = .ref a ∧ DPut H3 a y v H4 ∧ D.nx σ H4) : sDPut td ty tv D σ H := h
theorem g_dputS {P : Hp → Prop} {d : Addr} {kvs : List (Key × V)} {z : Str} {v : V} (h : H d = some (.dK kvs)) (hl : kvs.length < 10000) (q : P (upd H d (.dK (putK kvs (.inr z) v)))) : ∃ a H4, V.ref d = .ref a ∧ DPut H a (.str z) v H4 ∧ P H4 :=
  ⟨d, _, rfl, DPut.k (k := Sum.inr z) h (szl' hl), q⟩
theorem g_dputI {P : Hp → Prop} {d : Addr} {kvs : List (Key × V)} {z : Int} {v : V} (h : H d = some (.dK kvs)) (hl : kvs.length < 10000) (q : P (upd H d (.dK (putK kvs (.inl z) v)))) : ∃ a H4, V.ref d = .ref a ∧ DPut H a (.int z) v H4 ∧ P H4 :=
  ⟨d, _, rfl, DPut.k (k := Sum.inl z) h (szl' hl), q⟩
theorem g_dnew {Q : VK} (h : ∀ p, H p = none → Q (.ref p) (upd H p (.dK []))) : tDNewK σ H Q := h
theorem g_dget {Q : VK} {td ty : TE} (h : td σ H fun x H1 => ty σ H1 fun y H2 => ∃ a v, x = .ref a ∧ DGet H2 a y (some v) ∧ Q v H2) : tDGet td ty σ H Q := h
theorem g_dgetS {P : V → Prop} {d : Addr} {kvs : List (Key × V)} {z : Str} {v : V} (h : Rd H d (.dK kvs)) (e : valV kvs (.inr z) = some v) (q : P v) : ∃ a v, V.ref d = .ref a ∧ DGet H a (.str z) (some v) ∧ P v :=
  ⟨d, v, rfl, .inl ⟨kvs, .inr z, h, rfl, e.symm⟩, q⟩
theorem g_dgetI {P : V → Prop} {d : Addr} {kvs : List (Key × V)} {z : Int} {v : V} (h : Rd H d (.dK kvs)) (e : valV kvs (.inl z) = some v) (q : P v) : ∃ a v, V.ref d = .ref a ∧ DGet H a (.int z) (some v) ∧ P v :=
  ⟨d, v, rfl, .inl ⟨kvs, .inl z, h, rfl, e.symm⟩, q⟩
theorem g_din {Q : VK} {ty td : TE} (h : ty σ H fun y H1 => td σ H1 fun x H2 => ∃ a o, x = .ref a ∧ DGet H2 a y o ∧ Q (.bl o.isSome) H2) : tDIn ty td σ H Q := h
theorem g_dnotin {Q : VK} {ty td : TE} (h : ty σ H fun y H1 => td σ H1 fun x H2 => ∃ a o, x = .ref a ∧ DGet H2 a y o ∧ Q (.bl (!o.isSome)) H2) : tDNotIn ty td σ H Q := h
theorem g_hasS {P : Option V → Prop} {d : Addr} {kvs : List (Key × V)} {z : Str} (h : Rd H d (.dK kvs)) (q : P (valV kvs (.inr z))) : ∃ a o, V.ref d = .ref a ∧ DGet H a (.str z) o ∧ P o :=
  ⟨d, _, rfl, .inl ⟨kvs, .inr z, h, rfl, rfl⟩, q⟩
theorem g_hasI {P : Option V → Prop} {d : Addr} {kvs : List (Key × V)} {z : Int} (h : Rd H d (.dK kvs)) (q : P (valV kvs (.inl z))) : ∃ a o, V.ref d = .ref a ∧ DGet H a (.int z) o ∧ P o :=
  ⟨d, _, rfl, .inl ⟨kvs, .inl z, h, rfl, rfl⟩, q⟩
end

theorem g_lock {t : TS} {σ : L2.St} {H : Hp} {D : Ends} {d : Addr} {u : HO} (h : H d = some u) (m : Mut (some u)) (q : ∀ od, t ⟨fun σ' H' => H' d = some (.frz od u) ∧ D.nx σ' (upd H' d u), fun v H' => H' d = some (.frz od u) ∧ D.rt v (upd H' d u), fun σ' H' => H' d = some (.frz od u) ∧ D.bk σ' (upd H' d u), fun σ' H' => H' d = some (.frz od u) ∧ D.ct σ' (upd H' d u)⟩ σ (upd H d (.frz od u))) : tLock t D σ H := ⟨d, u, h, m, q⟩
theorem g_iKeys {td : TE} {σ : L2.St} {H : Hp} {R : It → Hp → Prop} (h : td σ H fun x H1 => ∃ d o, x = .ref d ∧ ((∃ kvs, H1 d = some (.frz o (.dK kvs)) ∧ R (Itk d o kvs) H1) ∨ ∃ kvs, H1 d = some (.frz o (.dT kvs)) ∧ R (Itkt d o kvs) H1)) : iKeys td σ H R := h
theorem g_tup2 {K : PySem.W.Frag} {n i j : Nat} {p : Addr} {x y : V} {σ : L2.St} {H : Hp} {R : L2.St → Hp → Prop} (hn : n = 2) (h : SqT K H p [x, y]) (q : R ((σ.set i (some x)).set j (some y)) H) : gTup K n (gCons (gName i) (gCons (gName j) gNil)) (.ref p) σ H R :=
  ⟨p, [x, y], rfl, h, hn.symm, x, [y], rfl, y, [], rfl, rfl, q⟩
theorem g_while {c : TT} {tb : TS} {D : Ends} {σ : L2.St} {H : Hp} (W : Nat → L2.St → Hp → Prop) (m0 : Nat) (h0 : W m0 σ H) (hs : ∀ m σ H, W m σ H → c σ H fun b H1 => if b = true then ∃ N : L2.St → Hp → Prop, (∀ σ' H', N σ' H' → ∃ m', m' < m ∧ W m' σ' H') ∧ tb { D with nx := N, ct := N, bk := D.nx } σ H1 else D.nx σ H1) : tWhile c tb D σ H := ⟨W, ⟨m0, h0⟩, hs⟩
theorem g_turn {tb : TS} {D : Ends} {σ : L2.St} {H : Hp} {W : Nat → L2.St → Hp → Prop} {m : Nat} (h : tb { D with nx := fun σ' H' => ∃ m', m' < m ∧ W m' σ' H', ct := fun σ' H' => ∃ m', m' < m ∧ W m' σ' H', bk := D.nx } σ H) : ∃ N : L2.St → Hp → Prop, (∀ σ' H', N σ' H' → ∃ m', m' < m ∧ W m' σ' H') ∧ tb { D with nx := N, ct := N, bk := D.nx } σ H := ⟨_, fun _ _ h => h, h⟩
theorem g_aug {i : Nat} {te : TE} {ti : TIp} {D : Ends} {σ : L2.St} {H : Hp} (h : ∃ x, σ[i]? = some (some x) ∧ te σ H fun y H1 => ti x y H1 fun z H2 => D.nx (σ.set i (some z)) H2) : tAug i te ti D σ H := h
/-! ### fields -/
section
variable {K : PySem.W.Frag} {σ : L2.St} {H : Hp} {ta tv : TE} {f : Str}
theorem g_fld {Q : VK} (h : ta σ H fun x H1 => ∃ a C dx fs v, x = .ref a ∧ H1 a = some (.ins C dx fs) ∧ Cls K C ∧ NoAttr K C f ∧ fs.lookup f = some v ∧ Q v H1) : tFld K ta f σ H Q := h
theorem g_sfld {D : Ends} (h : tv σ H fun y H1 => ta σ H1 fun x H2 => ∃ a C dx fs, x = .ref a ∧ H2 a = some (.ins C dx fs) ∧ Cls K C ∧ NoAttr K C f ∧ fs.length < 1000 ∧ D.nx σ (upd H2 a (.ins C dx (putF f y fs)))) : sFld K ta tv f D σ H := h
theorem g_fldv {P : V → Prop} {a C dx : Addr} {fs : List (Str × V)} {v : V} (h : H a = some (.ins C dx fs)) (c : Cls K C) (n : NoAttr K C f) (l : fs.lookup f = some v) (q : P v) : ∃ a' C dx fs v, V.ref a = .ref a' ∧ H a' = some (.ins C dx fs) ∧ Cls K C ∧ NoAttr K C f ∧ fs.lookup f = some v ∧ P v := ⟨a, C, dx, fs, v, rfl, h, c, n, l, q⟩
end
/-! ### methods of lists -/
section
variable {σ : L2.St} {H : Hp} {K : PySem.W.Frag} {Q : VK}
theorem g_bm {T : String} {r : V → List V → Hp → VK → Prop} {to : TE} {t : TA} (h : to σ H fun x H1 => tyV K T x H1 ∧ t σ H1 fun xs H2 => r x xs H2 Q) : tBM K T r to t σ H Q := h
theorem g_bm0 {T : String} {r : V → List V → Hp → VK → Prop} {to : TE} (h : to σ H fun x H1 => tyV K T x H1 ∧ r x [] H1 Q) : tBM0 K T r to σ H Q := h
theorem g_tyL {l : Addr} {xs : List V} {P : Prop} (h : SqL K H l xs) (q : P) : tyV K "list" (.ref l) H ∧ P := ⟨.inl ⟨rfl, xs, h⟩, q⟩
theorem g_app {l : Addr} {xs : List V} {v : V} (h : H l = some (.lst xs)) (hl : xs.length < 10000) (q : Q .non (upd H l (.lst (xs ++ [v])))) : rAppend (.ref l) [v] H Q := ⟨l, xs, v, rfl, rfl, h, szl' hl, q⟩
end

/-! ### loops -/
section
variable {D : Ends} {σ : L2.St} {H : Hp} {K : PySem.W.Frag} {tl : TE} {ta : TA} {g : TG} {tb : TS} {R : It → Hp → Prop}
theorem g_for {wi : TI} (h : wi σ H fun J H1 => ∃ W : Nat → Nat → L2.St → Hp → Prop, (∃ m, W 0 m σ H1) ∧ ∀ i m σ H, W i m σ H →
  (J.stop i H ∧ D.nx σ H) ∨ (J.go i H ∧ ∃ N : L2.St → Hp → Prop, (∀ σ' H', N σ' H' → ∃ m', m' < m ∧ W (i + 1) m' σ' H') ∧ ∀ x H', J.yld i H x H' → g x σ H' fun σ2 H2 => tb { D with nx := N, ct := N, bk := D.nx } σ2 H2)) : tFor wi g tb D σ H := h
theorem g_iList (h : tl σ H fun x H1 => ∃ a, x = .ref a ∧ (∃ xs, SqL K H1 a xs) ∧ R (Itl K a) H1) : iList K tl σ H R := h
theorem g_iTup (h : tl σ H fun x H1 => ∃ a, x = .ref a ∧ (∃ xs, SqT K H1 a xs) ∧ R (Itt K a) H1) : iTup K tl σ H R := h
theorem g_iRng1 (h : ta σ H fun vs H1 => ∃ j : Int, vs = [.int j] ∧ -(2 ^ 62) ≤ j ∧ j < 2 ^ 62 ∧ R (Itr 0 j.toNat) H1) : iRng1 ta σ H R := h
theorem g_iStr (h : tl σ H fun v H1 => ∃ x, v = .str x ∧ R (Its x) H1) : iStr tl σ H R := h
theorem g_iEnum (h : ta σ H fun vs H1 => ∃ a xs, vs = [.ref a] ∧ SqL K H1 a xs ∧ R (Ite K a) H1) : iEnum K ta σ H R := h
theorem g_lc {wi : TI} {tt : TT} {te : TE} {vs : List Nat} {Q : VK} (h : wi σ H fun J H1 => ∀ D, H1 D = none → ∃ W : Nat → Nat → Hp → Prop, (∃ m, W 0 m (upd H1 D (.lst []))) ∧ ∀ i m H, W i m H →
  (J.stop i H ∧ Q (.ref D) H) ∨ (J.go i H ∧ ∃ Nx : Hp → Prop, (∀ H', Nx H' → ∃ m', m' < m ∧ W (i + 1) m' H') ∧ ∀ x H', J.yld i H x H' → g x (wipe σ vs) H' fun σ2 H2 => wipe σ2 vs = wipe σ vs ∧ tt σ2 H2 fun b H3 =>
    if b = true then te σ2 H3 fun y H4 => ∃ acc, H4 D = some (.lst acc) ∧ acc.length < sizeLine ∧ Nx (upd H4 D (.lst (acc ++ [y]))) else Nx H3)) : tLc wi g tt te vs σ H Q := h
theorem g_yes {R : Bool → Hp → Prop} (h : R true H) : tYes σ H R := h
end

/-! ### lists of texts, of numbers -/
theorem inV_str (z : Str) : ∀ ts : List Str, inV (.str z) (ts.map V.str) = decide (z ∈ ts)
  | [] => rfl
  | t :: r => by
    have ih := inV_str z r
    unfold inV at ih ⊢
    rw [List.map_cons, List.any_cons, ih]
    show ((t == z) || decide (z ∈ r)) = decide (z ∈ t :: r)
    rw [Bool.eq_iff_iff]
    simp only [Bool.or_eq_true, beq_iff_eq, decide_eq_true_eq, List.mem_cons]
    constructor
    · rintro (h | h)
      · exact .inl h.symm
      · exact .inr h
    · rintro (h | h)
      · exact .inl h.symm
      · exact .inr h
theorem flat_str : ∀ ts : List Str, (ts.map V.str).all flatV = true
  | [] => rfl
  | _ :: r => by rw [List.map_cons, List.all_cons, flat_str r]; rfl
theorem flat_int : ∀ ts : List Int, (ts.map V.int).all flatV = true
  | [] => rfl
  | _ :: r => by rw [List.map_cons, List.all_cons, flat_int r]; rfl
section
variable {H : Hp} {Q : VK} {K : PySem.W.Frag} {p : Addr}
theorem g_inS {z : Str} {ts : List Str} (h : SqL K H p (ts.map V.str) ∨ SqT K H p (ts.map V.str)) (q : Q (.bl (decide (z ∈ ts))) H) : rIn K false (.str z) (.ref p) H Q :=
  ⟨p, _, rfl, h, rfl, flat_str ts, by rw [if_neg Bool.false_ne_true, inV_str]; exact q⟩
theorem g_notInS {z : Str} {ts : List Str} (h : SqL K H p (ts.map V.str) ∨ SqT K H p (ts.map V.str)) (q : Q (.bl (!decide (z ∈ ts))) H) : rIn K true (.str z) (.ref p) H Q :=
  ⟨p, _, rfl, h, rfl, flat_str ts, by rw [if_pos rfl, inV_str]; exact q⟩
end
theorem sub_len {α : Type} [DecidableEq α] : ∀ {l ts : List α}, l.Nodup → (∀ x ∈ l, x ∈ ts) → l.length ≤ ts.length
  | [], _, _, _ => Nat.zero_le _
  | a :: l, ts, nd, h => by
    have ha : a ∈ ts := h a List.mem_cons_self
    obtain ⟨n1, n2⟩ := List.nodup_cons.mp nd
    have e := List.length_erase_of_mem ha
    have ih := sub_len (l := l) (ts := ts.erase a) n2 fun x hx => (List.mem_erase_of_ne (fun (z : x = a) => n1 (by rw [← z]; exact hx))).mpr (h x (List.mem_cons_of_mem _ hx))
    have pos : 0 < ts.length := List.length_pos_of_mem ha
    rw [List.length_cons]
    omega
/-- a word: one to eight letters a to z -/
def IsW (z : Str) : Prop := 1 ≤ z.length ∧ z.length ≤ 8 ∧ ∀ c ∈ z.cps.toList, 97 ≤ c ∧ c ≤ 122
abbrev abc : Str := Str.ofString "abcdefghijklmnopqrstuvwxyz"
theorem abc_list : abc.cps.toList = (List.range 26).map (97 + ·) := by decide +kernel
theorem abc_size : abc.cps.size = 26 := by decide +kernel
theorem join_cps (l : List Str) : (Txt.join (Str.ofString "") l).cps.toList = (l.map fun z => z.cps.toList).flatten := by
  rw [TL.join_eq]
  induction l with
  | nil => rfl
  | cons x r ih =>
    cases r with
    | nil =>
      show x.cps.toList = _
      simp
    | cons y r =>
      show ((x ++ Str.ofString "" ++ Str.join (Str.ofString "") (y :: r) : Str)).cps.toList = _
      have e : ((x ++ Str.ofString "" ++ Str.join (Str.ofString "") (y :: r) : Str)).cps.toList = (x.cps.toList ++ (Str.ofString "").cps.toList) ++ (Str.join (Str.ofString "") (y :: r)).cps.toList := by
        show ((x.cps ++ (Str.ofString "").cps) ++ (Str.join (Str.ofString "") (y :: r)).cps).toList = _
        rw [Array.toList_append, Array.toList_append]
      rw [e, ih, show (Str.ofString "").cps.toList = [] by decide +kernel, List.append_nil]
      rfl
def one (c : Nat) : Str := ⟨#[c]⟩
theorem jn_ones (l : List Nat) : (Txt.join (Str.ofString "") (l.map one)).cps.toList = l := by
  rw [join_cps]
  induction l with
  | nil => rfl
  | cons a r ih =>
    rw [List.map_cons, List.map_cons, List.flatten_cons, ih]
    rfl

/-! ### frames: all that stood outside S stands as it was, nothing is forgotten -/
structure Fr (S : Addr → Prop) (H H' : Hp) : Prop where
  keep : ∀ b o, H b = some o → ¬ S b → H' b = some o
  free : ∀ b, H' b = none → H b = none
abbrev NoA : Addr → Prop := fun _ => False
section
variable {S S' : Addr → Prop} {H H1 H2 : Hp} {p : Addr} {o : HO}
theorem Fr.refl (H : Hp) : Fr S H H := ⟨fun _ _ h _ => h, fun _ h => h⟩
theorem Fr.trans (a : Fr S H H1) (b : Fr S H1 H2) : Fr S H H2 := ⟨fun c u h n => b.keep c u (a.keep c u h n) n, fun c h => a.free c (b.free c h)⟩
theorem Fr.mono (a : Fr S H H1) (h : ∀ b, S b → S' b) : Fr S' H H1 := ⟨fun c u e n => a.keep c u e fun z => n (h c z), a.free⟩
theorem Fr.new (n : H p = none) : Fr S H (upd H p o) := ⟨fun c u e _ => by rw [upd_ne (ne_of_none e n)]; exact e, fun c e => by
  by_cases h : c = p
  · rw [h]; exact n
  · rw [upd_ne h] at e; exact e⟩
theorem Fr.put (h : S p) : Fr S H (upd H p o) := ⟨fun c u e n => by rw [upd_ne (fun z => n (by rw [z]; exact h))]; exact e, fun c e => by
  by_cases h : c = p
  · rw [h, upd_same] at e; cases e
  · rw [upd_ne h] at e; exact e⟩
/-- what was new ahead may change -/
theorem Fr.upd0 (a : Fr S H H1) (n : H p = none) : Fr S H (upd H1 p o) := ⟨fun c u e h => by rw [upd_ne (ne_of_none e n)]; exact a.keep c u e h, fun c e => by
  by_cases h : c = p
  · rw [h]; exact n
  · rw [upd_ne h] at e; exact a.free c e⟩
theorem Fr.then_new (a : Fr S H H1) (n : H1 p = none) : Fr S H (upd H1 p o) := a.trans (.new n)
theorem Fr.then_put (a : Fr S H H1) (h : S p) : Fr S H (upd H1 p o) := a.trans (.put h)
theorem Fr.ne {q : Addr} {u : HO} (a : Fr S H H1) (n : H1 p = none) (h : H q = some u) : q ≠ p := ne_of_none h (a.free p n)
end
theorem SqL.fr {K : PySem.W.Frag} {S : Addr → Prop} {H H' : Hp} {a : Addr} {xs : List V} (f : Fr S H H') (n : ¬ S a) (h : SqL K H a xs) : SqL K H' a xs := by
  rcases h with (h | ⟨o, h⟩) | h
  · exact .inl (.inl (f.keep _ _ h n))
  · exact .inl (.inr ⟨o, f.keep _ _ h n⟩)
  · exact .inr h
theorem SqT.fr {K : PySem.W.Frag} {S : Addr → Prop} {H H' : Hp} {a : Addr} {xs : List V} (f : Fr S H H') (n : ¬ S a) (h : SqT K H a xs) : SqT K H' a xs := by
  rcases h with (h | ⟨o, h⟩) | h
  · exact .inl (.inl (f.keep _ _ h n))
  · exact .inl (.inr ⟨o, f.keep _ _ h n⟩)
  · exact .inr h
theorem lq {K : PySem.W.Frag} {H : Hp} {a : Addr} {xs : List V} (h : H a = some (.lst xs)) : SqL K H a xs := .inl (.inl h)
theorem tq {K : PySem.W.Frag} {H : Hp} {a : Addr} {xs : List V} (h : H a = some (.tup xs)) : SqT K H a xs := .inl (.inl h)
/-! ### what isinstance says -/
/-- isinstance(v, n) is b, n a built-in class -/
def TyQ (K : PySem.W.Frag) (H : Hp) (v : V) (n : String) (b : Bool) : Prop := ∃ t, TyX K H v t ∧ PySem.W.kitOne K t (.type n) = some b
theorem TyQ.of {K : PySem.W.Frag} {H : Hp} {v : V} {m n : String} {b : Bool} (h : TyX K H v (.type m)) (e : kitB m n = some b) : TyQ K H v n b := ⟨_, h, kit_ty e⟩
section
variable {K : PySem.W.Frag} {H : Hp} {a : Addr} {xs : List V} {kvs : List (Key × V)}
theorem ty_non : TyX K H .non (.type "NoneType") := .base .non
theorem ty_bl {b : Bool} : TyX K H (.bl b) (.type "bool") := .base (.bl b)
theorem ty_int {i : Int} : TyX K H (.int i) (.type "int") := .base (.int i)
theorem ty_str {z : Str} : TyX K H (.str z) (.type "str") := .base (.str z)
theorem ty_L (h : SqL K H a xs) : TyX K H (.ref a) (.type "list") := by
  rcases h with (h | ⟨o, h⟩) | ⟨o, its, n, h, c, _⟩
  · exact .base (.lst h)
  · exact .base (.frz h)
  · exact .kList h c
theorem ty_T (h : SqT K H a xs) : TyX K H (.ref a) (.type "tuple") := by
  rcases h with (h | ⟨o, h⟩) | ⟨o, its, n, h, c, _⟩
  · exact .base (.tup h)
  · exact .fTuple h
  · exact .kTuple h c
theorem ty_D (h : Rd H a (.dK kvs)) : TyX K H (.ref a) (.type "dict") := by
  rcases h with h | ⟨o, h⟩
  · exact .base (.dK h)
  · exact .fDict h
theorem TyOf.fr {S : Addr → Prop} {H' : Hp} {v : V} {t : Value} (f : Fr S H H') (n : ∀ a, v = .ref a → ¬ S a) (h : TyOf K H v t) : TyOf K H' v t := by
  cases h with
  | non => exact .non
  | bl x => exact .bl x
  | int i => exact .int i
  | str x => exact .str x
  | flt x => exact .flt x
  | lst e => exact .lst (f.keep _ _ e (n _ rfl))
  | frz e => exact .frz (f.keep _ _ e (n _ rfl))
  | tup e => exact .tup (f.keep _ _ e (n _ rfl))
  | dK e => exact .dK (f.keep _ _ e (n _ rfl))
  | dT e => exact .dT (f.keep _ _ e (n _ rfl))
  | ins e a b c d g => exact .ins (f.keep _ _ e (n _ rfl)) a b c d g
theorem TyX.fr {S : Addr → Prop} {H' : Hp} {v : V} {t : Value} (f : Fr S H H') (n : ∀ a, v = .ref a → ¬ S a) (h : TyX K H v t) : TyX K H' v t := by
  cases h with
  | base h => exact .base (TyOf.fr f n h)
  | byt b => exact .byt b
  | set e => exact .set (f.keep _ _ e (n _ rfl))
  | kList e c => exact .kList e c
  | kTuple e c => exact .kTuple e c
  | kDict e c => exact .kDict e c
  | fTuple e => exact .fTuple (f.keep _ _ e (n _ rfl))
  | fDict e => exact .fDict (f.keep _ _ e (n _ rfl))
theorem TyQ.fr {S : Addr → Prop} {H' : Hp} {v : V} {m : String} {b : Bool} (f : Fr S H H') (n : ∀ a, v = .ref a → ¬ S a) (h : TyQ K H v m b) : TyQ K H' v m b := by
  obtain ⟨t, h1, h2⟩ := h
  exact ⟨t, TyX.fr f n h1, h2⟩
theorem g_isi {Q : VK} {v : V} {n : String} {b : Bool} (h : TyQ K H v n b) (q : Q (.bl b) H) : rIsi K [v, .ty n] H Q := by
  obtain ⟨t, h1, h2⟩ := h
  exact ⟨v, .ty n, t, _, b, rfl, .ty n, h1, h2, q⟩
/-- isinstance(v, (m, n)) -/
theorem g_isi2 {Q : VK} {v : V} {p : Addr} {m n : String} {b1 b2 : Bool} {t : Value} (hp : H p = some (.tup [.ty m, .ty n])) (h : TyX K H v t) (e1 : PySem.W.kitOne K t (.type m) = some b1) (e2 : PySem.W.kitOne K t (.type n) = some b2) (q : Q (.bl (b1 || b2)) H) : rIsiT K [v, .ref p] H Q := by
  refine ⟨v, p, _, t, [.type m, .type n], b1 || b2, rfl, hp, .cons (.ty m) (.cons (.ty n) .nil), h, ?_, q⟩
  refine kitAny_cons e1 (fun z => kitAny_cons e2 (fun z2 => ?_) (fun z2 => ?_)) (fun z => ?_)
  · rw [z, z2]; exact kitAny_nil
  · rw [z, z2]; rfl
  · rw [z]; rfl
end
/-- either of two things walked -/
theorem pi_or {X : Cx} {tg e : Expr} {w1 w2 : TI} (h1 : PI X tg e w1) (h2 : PI X tg e w2) : PI X tg e (fun σ H R => w1 σ H R ∨ w2 σ H R) := by
  refine ⟨fun pins s σ H R I h => ?_⟩
  rcases h with h | h
  · exact h1.run pins s σ H R I h
  · exact h2.run pins s σ H R I h
def iSeq (K : PySem.W.Frag) (tl : TE) : TI := fun σ H R => iList K tl σ H R ∨ iTup K tl σ H R
theorem pi_seq {X : Cx} {tg e : Expr} {tl : TE} (h : PE X e tl) (h1 : PI X tg e (iList X.K tl)) (h2 : PI X tg e (iTup X.K tl)) : PI X tg e (iSeq X.K tl) := pi_or h1 h2
/-- a loop over a list or a tuple that stands in a slot -/
theorem g_forSeq {K : PySem.W.Frag} {H H0 : Hp} {D : Ends} {σ : L2.St} {g : TG} {tb : TS} {i0 : Nat} {a : Addr} {xs : List V} (hv : σ[i0]? = some (some (.ref a))) (hq : SqL K H0 a xs ∨ SqT K H0 a xs) (Pv : Nat → L2.St → Hp → Prop) (h0 : Pv 0 σ H)
    (hG : ∀ i σ' H', i ≤ xs.length → Pv i σ' H' → Fr NoA H0 H')
    (hs : ∀ i x σ H, xs[i]? = some x → Pv i σ H → g x σ H fun σ2 H2 => tb { D with nx := Pv (i + 1), ct := Pv (i + 1), bk := D.nx } σ2 H2) (hd : ∀ σ H, Pv xs.length σ H → D.nx σ H) : tFor (iSeq K (tVar i0)) g tb D σ H := by
  rcases hq with hq | hq
  · exact .inl ⟨_, hv, a, rfl, ⟨_, SqL.fr (hG 0 σ H (Nat.zero_le _) h0) (fun z => z) hq⟩, for_it walk_list Pv h0 (fun i σ' H' hi p => SqL.fr (hG i σ' H' hi p) (fun z => z) hq) (fun i x σ' H' H2 hi p y => by
      obtain ⟨rfl, y⟩ := y
      exact hs i x σ' _ y p) hd⟩
  · exact .inr ⟨_, hv, a, rfl, ⟨_, SqT.fr (hG 0 σ H (Nat.zero_le _) h0) (fun z => z) hq⟩, for_it walk_tup Pv h0 (fun i σ' H' hi p => SqT.fr (hG i σ' H' hi p) (fun z => z) hq) (fun i x σ' H' H2 hi p y => by
      obtain ⟨rfl, y⟩ := y
      exact hs i x σ' _ y p) hd⟩

/-! ### own errors: an __init__ that stores its arguments -/
def xfs (fl : List Str) (ws : List V) : List (Str × V) := (fl.zip ws).reverse
def spXI (C : Addr) (fl : List Str) : Sp := fun vs H Q _ => ∃ (a : Addr) (ws : List V), vs = .ref a :: ws ∧ ws.length = fl.length ∧ H a = some (exo a C none) ∧
  ∀ (d : Addr) (H' : Hp), H d = none → d ≠ a → H' a = some (exo a C (some d)) → H' d = some (exd d (xfs fl ws)) → (∀ b, b ≠ a → b ≠ d → H' b = H b) → Q .non H'
structure XCls (P : Program) (w : World) (K : PySem.W.Frag) (mg : Str → Option Value) (base : Heap) (x : Str) (C : Addr) (fl : List Str) : Prop where
  oex : OexC K C
  mgx : mg x = some (.ref C)
  xf : XfC K C
  nof : ∀ f ∈ fl, PySem.W.findIn K (.ref C) f = some none
  init : ∃ (fI : Addr) (fd : FuncData) (ps : List Str), PySem.W.findIn K (.ref C) "__init__" = some (some (.ref fI)) ∧ PySem.W.typeIn K (.ref fI) = some (.type "function") ∧ FnOk P w K mg base CX0 1 fI fd ps (spXI C fl) ∧ Binds K fd ps []
/-- the inner part of making C(vs) -/
def MkX (C : Addr) (fl : List Str) (vs : List V) (H1 : Hp) (Q : XK) : Prop := vs.length ≤ 1000 ∧ ∀ a, H1 a = none → spXI C fl (.ref a :: (vs ++ [])) (upd H1 a (exo a C none))
  (fun v H2 => v = .non ∧ ∃ (d : Addr) (fs : List (Str × V)), H2 a = some (exo a C (some d)) ∧ H2 d = some (exd d fs) ∧ H1 d = none ∧ Q (.ref C) (some d) (upd (del H2 a) d (.xd fs))) (fun _ _ _ => False)
def tMkX (C : Addr) (fl : List Str) (ta : TA) : L2.St → Hp → XK → Prop := fun σ H Q => ta σ H fun vs H1 => MkX C fl vs H1 Q
def tRx (W : WX) (t : L2.St → Hp → XK → Prop) : TS := fun _ σ H => t σ H fun cls d H' => W cls d σ H'
section
variable {X : Cx} {x : Str} {C : Addr} {fl : List Str} {e : Expr} {es : List Expr} {ta : TA} {p pos : Pos} {j : Nat}
theorem pmk_x (T : XCls X.prog X.w X.K X.mg X.base x C fl) (hr : Room j X.A) (hk : 2 ≤ j) (hg : Gl X x) (ha : PA X (e :: es) ta)
    (hdb : (x == ("__debug__" : Str)) = false := by decide) (he : starEach (e :: es) X.env = (false, eval e X.env) :: starEach es X.env := by rfl) (hpl : (backTo pos (starEach es X.env)).any (·.1) = false := by rfl) :
    PMk X (.Call (.Name x p) (e :: es) [] pos) (tMkX C fl ta) := by
  obtain ⟨fI, fd, ps, iC, tI, F1, hb⟩ := T.init
  exact pmk_oex T.oex iC tI F1 (hr.mono hk) hb .nil pass0 hg T.mgx ha hdb he hpl
theorem ps_rx {W : WX} {e : Expr} {t : L2.St → Hp → XK → Prop} {pos : Pos} (hc : X.calm = true) (tk : Takes X W) (he : PMk X e t) : PS X (.Raise (some e) none pos) (tRx W t) := ps_raise hc tk he
end
section
variable {σ : L2.St} {H : Hp} {D : Ends}
theorem g_rx {W : WX} {t : L2.St → Hp → XK → Prop} (h : t σ H fun cls d H' => W cls d σ H') : tRx W t D σ H := h
theorem g_mkx {C : Addr} {fl : List Str} {ta : TA} {Q : XK} (h : ta σ H fun vs H1 => MkX C fl vs H1 Q) : tMkX C fl ta σ H Q := h
/-- C(vs) is made: its own dict d is new and holds the arguments -/
theorem g_mk {C : Addr} {fl : List Str} {vs : List V} {Q : XK} (hl : vs.length = fl.length) (h1 : vs.length ≤ 1000) (q : ∀ (d : Addr) (Hf : Hp), H d = none → Hf d = some (.xd (xfs fl vs)) → Fr NoA H Hf → Q (.ref C) (some d) Hf) : MkX C fl vs H Q := by
  refine ⟨h1, fun a ha => ⟨a, vs, by rw [List.append_nil], hl, upd_same, fun d H' hd ne e1 e2 hk => ⟨rfl, d, _, e1, e2, ?_, ?_⟩⟩⟩
  · rw [upd_ne ne] at hd; exact hd
  · have hd' : H d = none := by rw [upd_ne ne] at hd; exact hd
    refine q d _ hd' upd_same ⟨fun b o e _ => ?_, fun b e => ?_⟩
    · have n1 : b ≠ d := ne_of_none e hd'
      have n2 : b ≠ a := ne_of_none e ha
      rw [upd_ne n1, del_ne n2, hk b n2 n1, upd_ne n2]
      exact e
    · by_cases n1 : b = d
      · rw [n1]; exact hd'
      · by_cases n2 : b = a
        · rw [n2]; exact ha
        · rw [upd_ne n1, del_ne n2, hk b n2 n1, upd_ne n2] at e
          exact e
end

/-! ### a method that may raise, called in a try's body -/
def tMtS (C : Addr) (m : Str) (sp : Sp) (E : L2.St → XK) (ta : TE) (t : TA) : TE := fun σ H Q => ta σ H fun x H1 => ∃ a dx fs, x = .ref a ∧ H1 a = some (.ins C dx fs) ∧ fs.lookup m = none ∧ t σ H1 fun vs H2 => sp (x :: vs) H2 Q (E σ)
theorem pe_mS {X : Cx} {CX : CXT} {k j : Nat} {C : Addr} {m : Str} {sp : Sp} {E : L2.St → XK} {o e : Expr} {es : List Expr} {ta : TE} {t : TA} {apos pos : Pos} {pl : Sem Bool} (c : Met X.prog X.w X.K X.mg X.base CX k C m sp) (hr : Room j X.A) (hk : k ≤ j) (hx : ∀ σ, PassesAt CX X σ (E σ)) (he : PE X o ta) (ha : PA X (e :: es) t)
    (hst : starEach (e :: es) X.env = (false, eval e X.env) :: starEach es X.env := by rfl) (hpl : (backTo pos (starEach es X.env)).any (·.1) = false := by rfl)
    (ht : eval (.Call (.Attribute o m apos) (e :: es) [] pos) X.env = (do
      let ov ← eval o X.env
      standAt apos.atName
      let (f, first) ← holding [ov] (getMethod ov m pl)
      callWith pos f first (backTo pos (starEach (e :: es) X.env)) (backToKw pos (keywordEach [] X.env))) := by rfl) :
    PE X (.Call (.Attribute o m apos) (e :: es) [] pos) (tMtS C m sp E ta t) := by
  obtain ⟨f, fd, ps, hc, hm, F, b⟩ := c.ex
  refine ⟨fun pins s σ H Q I h => PySem.W.methodCall_KW (pl := pl) (thn (he.run pins s σ H _ I h) fun u s1 ⟨x, H1, I1, rx, a, dx, fs, ex, ea, l, q⟩ => ?_) ht⟩
  subst ex
  obtain rfl : u = Value.ref a := rx
  refine getmeth_ok I1 ea hc hm l (PySem.W.callWith_K (first := [.ref a]) (h₀ := X.base) I.ok.mod.kin hm.kp (thn (ha.run pos pins s1 σ H1 _ I1 q) fun us s2 ⟨vs, H2, I2, r, q2⟩ => ⟨I2.kIn, ?_⟩) hst hpl)
  exact run_fnS (us := .ref a :: us) (vs := .ref a :: vs) F (hr.mono hk) b (hx σ) I2 (.cons rfl r) q2
theorem g_mtS {C : Addr} {m : Str} {sp : Sp} {E : L2.St → XK} {ta : TE} {t : TA} {σ : L2.St} {H : Hp} {Q : VK} (h : ta σ H fun x H1 => ∃ a dx fs, x = .ref a ∧ H1 a = some (.ins C dx fs) ∧ fs.lookup m = none ∧ t σ H1 fun vs H2 => sp (x :: vs) H2 Q (E σ)) : tMtS C m sp E ta t σ H Q := h
theorem g_xf {a : Addr} {cls : Value} {d : Option Addr} {C : Addr} {f : Str} {te : TE} {σ : L2.St} {H : Hp} {Q : VK} (h : te σ H fun x H1 => x = .ref a ∧ cls = .ref C ∧ ∃ (dd : Addr) (fs : List (Str × V)) (v : V), d = some dd ∧ H1 dd = some (.xd fs) ∧ fs.lookup f = some v ∧ Q v H1) : tXf a cls d C f te σ H Q := h
/-- try: E (an expression) except C as n: return n.f -/
def tTryF (K : PySem.W.Frag) (C : Addr) (i : Nat) (f : Str) (tb : WX → TS) : TS := fun D σ H => tb (wAs K (.ref C) i (fun a cls d => tRet (tXf a cls d C f (tVar i))) (fun _ _ _ _ => False) D) D σ H

/-! ### words, lists of words: what the program's tests say -/
instance (z : Str) : Decidable (IsW z) := by unfold IsW; infer_instance
theorem abc_mem (c : Nat) : c ∈ abc.cps.toList ↔ 97 ≤ c ∧ c ≤ 122 := by
  rw [abc_list]
  simp only [List.mem_map, List.mem_range]
  constructor
  · rintro ⟨k, hk, rfl⟩
    omega
  · rintro ⟨h1, h2⟩
    exact ⟨c - 97, by omega, by omega⟩
/-- a value that is_word can be asked of -/
def WV (K : PySem.W.Frag) (H : Hp) (v : V) : Prop := (∃ z, v = .str z ∧ z.length ≤ 100000) ∨ TyQ K H v "str" false
/-- the value is a word -/
def IsWV (v : V) : Prop := ∃ z, v = .str z ∧ IsW z
def WList (xs : List V) : Prop := ∃ ts : List Str, xs = ts.map V.str ∧ (∀ z ∈ ts, IsW z) ∧ ts.Nodup
def spIsInt (K : PySem.W.Frag) : Sp := fun vs H Q _ => ∃ (v : V) (b1 b2 : Bool), vs = [v] ∧ TyQ K H v "int" b1 ∧ (b1 = true → TyQ K H v "bool" b2) ∧ Q (.bl (b1 && !b2)) H
def spIsWord (K : PySem.W.Frag) : Sp := fun vs H Q _ => ∃ v : V, vs = [v] ∧ WV K H v ∧ ∀ b : Bool, (b = true ↔ IsWV v) → Q (.bl b) H
def spIsWordList (K : PySem.W.Frag) : Sp := fun vs H Q _ => ∃ (v : V) (lo hi : Int), vs = [v, .int lo, .int hi] ∧
  ((∃ t, TyX K H v t ∧ PySem.W.kitOne K t (.type "list") = some false ∧ PySem.W.kitOne K t (.type "tuple") = some false ∧ ∀ H', Fr NoA H H' → Q (.bl false) H') ∨
    ∃ (a : Addr) (xs : List V), v = .ref a ∧ (SqL K H a xs ∨ SqT K H a xs) ∧ xs.length ≤ 1000 ∧ (∀ x ∈ xs, ∀ H', Fr NoA H H' → WV K H' x) ∧ ∀ (b : Bool) (H' : Hp), (b = true ↔ lo ≤ xs.length ∧ xs.length ≤ hi ∧ WList xs) → Fr NoA H H' → Q (.bl b) H')
/-- the value is a number below n -/
def NumB (v : V) (n : Int) : Prop := ∃ i, v = .int i ∧ 0 ≤ i ∧ i < n
def spIsNumber (K : PySem.W.Frag) : Sp := fun vs H Q _ => ∃ (v : V) (n : Int), vs = [v, .int n] ∧ ((∃ i, v = .int i) ∨ (∃ b, v = .bl b) ∨ TyQ K H v "int" false) ∧ ∀ b : Bool, (b = true ↔ NumB v n) → Q (.bl b) H

structure WTxt (mg : Str → Option Value) : Prop where
  LETTERS : ∃ u, mg "LETTERS" = some u ∧ RelV (.str abc) u
  LONGEST : ∃ u, mg "LONGEST" = some u ∧ RelV (.int 8) u
/-! ### the pool of a law: [cells, at, count] -/
structure PoolAt (H : Hp) (p c : Addr) : Prop where
  ex : ∃ (ns : List Int) (a n : Int), H p = some (.lst [.ref c, .int a, .int n]) ∧ H c = some (.lst (ns.map V.int)) ∧ 0 ≤ a ∧ 0 ≤ n
abbrev PS (p c : Addr) : Addr → Prop := fun b => b = p ∨ b = c
def spDraw : Sp := fun vs H Q _ => ∃ (p c : Addr) (lim : Int), vs = [.ref p, .int lim] ∧ PoolAt H p c ∧ 0 < lim ∧ lim < 2 ^ 200 ∧
  ∀ (r : Int) (H' : Hp), 0 ≤ r → r < lim → PoolAt H' p c → Fr (PS p c) H H' → Q (.int r) H'
theorem PoolAt.new {H : Hp} {p c q : Addr} {o : HO} (P : PoolAt H p c) (n : H q = none) : PoolAt (upd H q o) p c := by
  obtain ⟨ns, a, m, h1, h2, h3, h4⟩ := P.ex
  exact ⟨ns, a, m, by rw [upd_ne (ne_of_none h1 n)]; exact h1, by rw [upd_ne (ne_of_none h2 n)]; exact h2, h3, h4⟩
theorem PoolAt.ne {H : Hp} {p c q : Addr} (P : PoolAt H p c) (n : H q = none) : ¬ PS p c q := by
  obtain ⟨ns, a, m, h1, h2, h3, h4⟩ := P.ex
  intro z
  rcases z with z | z
  · rw [z, h1] at n; cases n
  · rw [z, h2] at n; cases n
/-- another list may change -/
theorem PoolAt.put {H : Hp} {p c q : Addr} {o : HO} (P : PoolAt H p c) (n : ¬ PS p c q) : PoolAt (upd H q o) p c := by
  obtain ⟨ns, a, m, h1, h2, h3, h4⟩ := P.ex
  exact ⟨ns, a, m, by rw [upd_ne (fun z => n (.inl z.symm))]; exact h1, by rw [upd_ne (fun z => n (.inr z.symm))]; exact h2, h3, h4⟩
theorem PoolAt.fr {S : Addr → Prop} {H H' : Hp} {p c : Addr} (P : PoolAt H p c) (f : Fr S H H') (n1 : ¬ S p) (n2 : ¬ S c) : PoolAt H' p c := by
  obtain ⟨ns, a, m, h1, h2, h3, h4⟩ := P.ex
  exact ⟨ns, a, m, f.keep _ _ h1 n1, f.keep _ _ h2 n2, h3, h4⟩
def spPick (K : PySem.W.Frag) : Sp := fun vs H Q _ => ∃ (p c r : Addr) (xs : List V), vs = [.ref p, .ref r] ∧ PoolAt H p c ∧ ¬ PS p c r ∧ SqL K H r xs ∧ 0 < xs.length ∧ xs.length < 1000000 ∧
  ∀ (v : V) (H' : Hp), v ∈ xs → PoolAt H' p c → Fr (PS p c) H H' → Q v H'
def spWord (K : PySem.W.Frag) : Sp := fun vs H Q _ => ∃ (p c t : Addr) (ts : List Str), vs = [.ref p, .ref t] ∧ PoolAt H p c ∧ ¬ PS p c t ∧ SqL K H t (ts.map V.str) ∧ ts.length < 26 ∧
  ∀ (z : Str) (H' : Hp), IsW z → z ∉ ts → PoolAt H' p c → Fr (PS p c) H H' → Q (.str z) H'
def spWords (K : PySem.W.Frag) : Sp := fun vs H Q _ => ∃ (p c : Addr) (lo hi : Nat), vs = [.ref p, .int lo, .int hi] ∧ PoolAt H p c ∧ lo ≤ hi ∧ hi ≤ 20 ∧
  ∀ (l : Addr) (ts : List Str) (H' : Hp), (∀ z ∈ ts, IsW z) → ts.Nodup → lo ≤ ts.length → ts.length ≤ hi → H l = none → H' l = some (.lst (ts.map V.str)) → PoolAt H' p c → Fr (PS p c) H H' → Q (.ref l) H'
/-! ### a heap's objects and names, as the laws draw them -/
def ov : Option Nat → V
  | none => .non
  | some n => .int n
def rowK (fs : List Str) (row : List (Option Nat)) : List (Key × V) := (fs.zip row).map fun p => (Sum.inr p.1, ov p.2)
def nmK (ns : List (Str × Option Nat)) : List (Key × V) := ns.map fun p => (Sum.inr p.1, ov p.2)
/-- a value of a heap of n objects -/
def OkV (n : Nat) (o : Option Nat) : Prop := ∀ k, o = some k → k < n
structure OkO (fs : List Str) (n : Nat) (os : List (List (Option Nat))) : Prop where
  len : os.length = n
  row : ∀ r ∈ os, r.length = fs.length ∧ ∀ v ∈ r, OkV n v
/-- at l a list of dicts at the places as, all of them within φ -/
structure ObjsAt (φ : Addr → Prop) (H : Hp) (l : Addr) (as : List Addr) (fs : List Str) (os : List (List (Option Nat))) : Prop where
  lst : H l = some (.lst (as.map V.ref))
  len : as.length = os.length
  obj : ∀ (i : Nat) (a : Addr) (r : List (Option Nat)), as[i]? = some a → os[i]? = some r → H a = some (.dK (rowK fs r))
  phi : φ l ∧ ∀ a ∈ as, φ a
theorem ObjsAt.imp {φ ψ : Addr → Prop} {H : Hp} {l : Addr} {as : List Addr} {fs : List Str} {os : List (List (Option Nat))} (h : ObjsAt φ H l as fs os) (i : ∀ a, φ a → ψ a) : ObjsAt ψ H l as fs os :=
  ⟨h.lst, h.len, h.obj, i _ h.phi.1, fun a m => i a (h.phi.2 a m)⟩
theorem ObjsAt.keep {φ : Addr → Prop} {H H' : Hp} {l : Addr} {as : List Addr} {fs : List Str} {os : List (List (Option Nat))} (h : ObjsAt φ H l as fs os) (k : ∀ a o, φ a → H a = some o → H' a = some o) : ObjsAt φ H' l as fs os :=
  ⟨k _ _ h.phi.1 h.lst, h.len, fun i a r h1 h2 => k _ _ (h.phi.2 a (List.mem_of_getElem? h1)) (h.obj i a r h1 h2), h.phi⟩
theorem ObjsAt.fr {φ S : Addr → Prop} {H H' : Hp} {l : Addr} {as : List Addr} {fs : List Str} {os : List (List (Option Nat))} (h : ObjsAt φ H l as fs os) (f : Fr S H H') (n : ∀ a, φ a → ¬ S a) : ObjsAt φ H' l as fs os :=
  h.keep fun a o p e => f.keep a o e (n a p)
theorem ObjsAt.sep {φ : Addr → Prop} {H : Hp} {l d : Addr} {as : List Addr} {fs : List Str} {os : List (List (Option Nat))} (h : ObjsAt φ H l as fs os) (n : H d = none) : ObjsAt (fun a => φ a ∧ a ≠ d) H l as fs os :=
  ⟨h.lst, h.len, h.obj, ⟨h.phi.1, ne_of_none h.lst n⟩, fun a ha => ⟨h.phi.2 a ha, by
    obtain ⟨j, hj, e⟩ := List.getElem_of_mem ha
    have hj2 : j < os.length := by rw [← h.len]; exact hj
    exact ne_of_none (h.obj j a os[j] (by rw [← e]; simp) (by simp)) n⟩⟩
/-- one more -/
theorem ObjsAt.more {φ : Addr → Prop} {H : Hp} {l d : Addr} {as : List Addr} {fs : List Str} {os : List (List (Option Nat))} {r : List (Option Nat)} (h : ObjsAt (fun a => φ a ∧ a ≠ d) H l as fs os) (nl : ∀ a ∈ as, a ≠ l) (pd : φ d) (hd : H d = some (.dK (rowK fs r))) :
    ObjsAt φ (upd H l (.lst (as.map V.ref ++ [V.ref d]))) l (as ++ [d]) fs (os ++ [r]) := by
  refine ⟨by rw [upd_same, List.map_append]; rfl, by rw [List.length_append, List.length_append, h.len]; rfl, fun i a x h1 h2 => ?_, h.phi.1.1, fun a ha => ?_⟩
  · by_cases hi : i < as.length
    · rw [List.getElem?_append_left hi] at h1
      rw [List.getElem?_append_left (by rw [← h.len]; exact hi)] at h2
      rw [upd_ne (nl a (List.mem_of_getElem? h1))]
      exact h.obj i a x h1 h2
    · have hl : i = as.length := by
        have := (List.getElem?_eq_some_iff.mp h1).1
        rw [List.length_append] at this
        simp at this
        omega
      subst hl
      rw [List.getElem?_append_right (Nat.le_refl _)] at h1
      rw [h.len, List.getElem?_append_right (Nat.le_refl _)] at h2
      simp at h1 h2
      subst h1 h2
      rw [upd_ne (Ne.symm h.phi.1.2)]
      exact hd
  · rcases List.mem_append.mp ha with z | z
    · exact (h.phi.2 a z).1
    · rw [List.mem_singleton.mp z]; exact pd
theorem ObjsAt.nl {φ : Addr → Prop} {H : Hp} {l : Addr} {as : List Addr} {fs : List Str} {os : List (List (Option Nat))} (h : ObjsAt φ H l as fs os) : ∀ a ∈ as, a ≠ l := fun a ha e => by
  obtain ⟨j, hj, e2⟩ := List.getElem_of_mem ha
  have hj2 : j < os.length := by rw [← h.len]; exact hj
  have z := h.obj j a os[j] (by rw [← e2]; simp) (by simp)
  rw [e, h.lst] at z
  cases z
def spValue : Sp := fun vs H Q _ => ∃ (p c : Addr) (n : Nat), vs = [.ref p, .int n] ∧ PoolAt H p c ∧ n ≤ 1000 ∧ ∀ (o : Option Nat) (H' : Hp), OkV n o → PoolAt H' p c → Fr (PS p c) H H' → Q (ov o) H'
def spObjects (K : PySem.W.Frag) : Sp := fun vs H Q _ => ∃ (p c f : Addr) (fs : List Str) (n : Nat), vs = [.ref p, .ref f, .int n] ∧ PoolAt H p c ∧ ¬ PS p c f ∧ SqL K H f (fs.map V.str) ∧ fs.Nodup ∧ fs.length ≤ 10 ∧ n ≤ 1000 ∧
  ∀ (l : Addr) (as : List Addr) (os : List (List (Option Nat))) (H' : Hp), OkO fs n os → ObjsAt (fun a => H a = none) H' l as fs os → PoolAt H' p c → Fr (PS p c) H H' → Q (.ref l) H'
def spNames (K : PySem.W.Frag) : Sp := fun vs H Q _ => ∃ (p c t : Addr) (ts : List Str) (n : Nat), vs = [.ref p, .ref t, .int n] ∧ PoolAt H p c ∧ ¬ PS p c t ∧ SqL K H t (ts.map V.str) ∧ ts.Nodup ∧ ts.length ≤ 100 ∧ n ≤ 1000 ∧
  ∀ (d : Addr) (ns : List (Str × Option Nat)) (H' : Hp), ns.map Prod.fst = ts → (∀ x ∈ ns, OkV n x.2) → H d = none → H' d = some (.dK (nmK ns)) → PoolAt H' p c → Fr (PS p c) H H' → Q (.ref d) H'
theorem keys_rowK (fs : List Str) (row : List (Option Nat)) (h : row.length = fs.length) : (rowK fs row).map Prod.fst = fs.map Sum.inr := by
  unfold rowK
  rw [List.map_map]
  show (fs.zip row).map ((Sum.inr : Str → Key) ∘ Prod.fst) = _
  rw [← List.map_map, List.map_fst_zip (by omega)]
theorem keys_nmK (ns : List (Str × Option Nat)) : (nmK ns).map Prod.fst = (ns.map Prod.fst).map Sum.inr := by
  unfold nmK
  rw [List.map_map, List.map_map]
  rfl
theorem valV_no {κ : Type} [DecidableEq κ] {kvs : List (κ × V)} {k : κ} (h : k ∉ kvs.map Prod.fst) : valV kvs k = none := by
  cases e : valV kvs k with
  | none => rfl
  | some v => exact absurd (valV_in e) h
theorem putK_snoc {κ : Type} [DecidableEq κ] {kvs : List (κ × V)} {k : κ} {u v : V} (h : k ∉ kvs.map Prod.fst) : putK (kvs ++ [(k, u)]) k v = kvs ++ [(k, v)] := by
  unfold putK
  rw [if_pos (by simp), List.map_append]
  congr 1
  · refine (List.map_congr_left (g := id) fun p hp => ?_).trans (List.map_id _)
    rw [if_neg (fun (z : p.1 = k) => h (by rw [← z]; exact List.mem_map_of_mem hp))]
    rfl
  · simp
theorem inr_mem {ts : List Str} {z : Str} : (Sum.inr z : Key) ∈ ts.map Sum.inr ↔ z ∈ ts := by simp
theorem valV_mem {κ : Type} [DecidableEq κ] : ∀ {kvs : List (κ × V)} {k : κ} {v : V}, (kvs.map Prod.fst).Nodup → (k, v) ∈ kvs → valV kvs k = some v
  | [], _, _, _, h => by simp at h
  | p :: r, k, v, nd, h => by
    have nd : (p.1 :: r.map Prod.fst).Nodup := nd
    obtain ⟨n1, n2⟩ := List.nodup_cons.mp nd
    rcases List.mem_cons.mp h with e | e
    · subst e
      exact valV_pos rfl
    · have : ¬ p.1 = k := fun z => n1 (by rw [z]; exact List.mem_map_of_mem (f := Prod.fst) e)
      rw [valV_neg this]
      exact valV_mem n2 e
theorem inr_nodup {ts : List Str} (h : ts.Nodup) : (ts.map (Sum.inr : Str → Key)).Nodup := by
  induction ts with
  | nil => exact List.nodup_nil
  | cons a r ih =>
    obtain ⟨h1, h2⟩ := List.nodup_cons.mp h
    rw [List.map_cons]
    exact List.nodup_cons.mpr ⟨fun m => h1 (inr_mem.mp m), ih h2⟩
theorem val_row {fs : List Str} {row : List (Option Nat)} {j : Nat} {z : Str} {o : Option Nat} (nd : fs.Nodup) (hl : row.length = fs.length) (h1 : fs[j]? = some z) (h2 : row[j]? = some o) : valV (rowK fs row) (.inr z) = some (ov o) := by
  refine valV_mem (by rw [keys_rowK _ _ hl]; exact inr_nodup nd) ?_
  unfold rowK
  refine List.mem_map.mpr ⟨(z, o), ?_, rfl⟩
  refine List.mem_of_getElem? (i := j) ?_
  rw [List.getElem?_zip_eq_some]
  exact ⟨h1, h2⟩
theorem val_nm {ns : List (Str × Option Nat)} {z : Str} {o : Option Nat} (nd : (ns.map Prod.fst).Nodup) (h : (z, o) ∈ ns) : valV (nmK ns) (.inr z) = some (ov o) := by
  refine valV_mem (by rw [keys_nmK]; exact inr_nodup nd) ?_
  unfold nmK
  exact List.mem_map.mpr ⟨(z, o), h, rfl⟩
theorem val_nm_none {ns : List (Str × Option Nat)} {z : Str} (h : z ∉ ns.map Prod.fst) : valV (nmK ns) (.inr z) = none := by
  refine valV_no ?_
  rw [keys_nmK, inr_mem]
  exact h
theorem ov_non (o : Option Nat) : (ov o = .non) ↔ o = none := by
  cases o with
  | none => exact ⟨fun _ => rfl, fun _ => rfl⟩
  | some n => exact ⟨fun h => (by cases h), fun h => (by cases h)⟩
def spIsObj (K : PySem.W.Frag) : Sp := fun vs H Q _ => ∃ (d f : Addr) (fs : List Str) (row : List (Option Nat)) (n : Nat), vs = [.ref d, .ref f, .int n] ∧ H d = some (.dK (rowK fs row)) ∧ (SqL K H f (fs.map V.str) ∨ SqT K H f (fs.map V.str)) ∧ fs.Nodup ∧ row.length = fs.length ∧ fs.length ≤ 10 ∧ (∀ v ∈ row, OkV n v) ∧ Q (.bl true) H
def spCheckObjs (K : PySem.W.Frag) : Sp := fun vs H Q _ => ∃ (l f : Addr) (as : List Addr) (fs : List Str) (os : List (List (Option Nat))) (n : Nat), vs = [.ref l, .ref f] ∧ ObjsAt (fun _ => True) H l as fs os ∧ OkO fs n os ∧ n ≤ 200 ∧ (SqL K H f (fs.map V.str) ∨ SqT K H f (fs.map V.str)) ∧ fs.Nodup ∧ fs.length ≤ 10 ∧
  ∀ H', Fr NoA H H' → Q .non H'
def spCheckNames (K : PySem.W.Frag) : Sp := fun vs H Q _ => ∃ (d : Addr) (ns : List (Str × Option Nat)) (n : Nat), vs = [.ref d, .int n] ∧ H d = some (.dK (nmK ns)) ∧ (ns.map Prod.fst).Nodup ∧ ns.length ≤ 6 ∧ (∀ x ∈ ns, IsW x.1 ∧ OkV n x.2) ∧
  ∀ H', Fr NoA H H' → Q .non H'
/-! ### the order of meeting, in plain Lean -/
def meet (ord : List Nat) : Option Nat → List Nat
  | none => ord
  | some k => if k ∈ ord then ord else ord ++ [k]
def meets (ord : List Nat) (vs : List (Option Nat)) : List Nat := vs.foldl meet ord
def bfs (os : List (List (Option Nat))) : Nat → List Nat → Nat → List Nat
  | 0, ord, _ => ord
  | f + 1, ord, i => if i < ord.length then bfs os f (meets ord (os.getD (ord.getD i 0) [])) (i + 1) else ord
def order (os : List (List (Option Nat))) (roots : List (Option Nat)) : List Nat := bfs os os.length (meets [] roots) 0
structure OkOrd (n : Nat) (ord : List Nat) : Prop where
  nd : ord.Nodup
  lt : ∀ k ∈ ord, k < n
theorem OkOrd.len {n : Nat} {ord : List Nat} (h : OkOrd n ord) : ord.length ≤ n := by
  have := sub_len (ts := List.range n) h.nd fun k hk => List.mem_range.mpr (h.lt k hk)
  simpa using this
theorem meet_ok {n : Nat} {ord : List Nat} {o : Option Nat} (h : OkOrd n ord) (ho : OkV n o) : OkOrd n (meet ord o) := by
  cases o with
  | none => exact h
  | some k =>
    show OkOrd n (if k ∈ ord then ord else ord ++ [k])
    by_cases hk : k ∈ ord
    · rw [if_pos hk]; exact h
    · rw [if_neg hk]
      refine ⟨nd_snoc h.nd hk, fun j hj => ?_⟩
      rcases List.mem_append.mp hj with z | z
      · exact h.lt j z
      · rw [List.mem_singleton.mp z]; exact ho k rfl
theorem meet_sub {ord : List Nat} {o : Option Nat} {k : Nat} (h : k ∈ ord) : k ∈ meet ord o := by
  cases o with
  | none => exact h
  | some j =>
    show k ∈ (if j ∈ ord then ord else ord ++ [j])
    split
    · exact h
    · exact List.mem_append_left _ h
theorem meet_has {ord : List Nat} {k : Nat} : k ∈ meet ord (some k) := by
  show k ∈ (if k ∈ ord then ord else ord ++ [k])
  split
  · assumption
  · exact List.mem_append_right _ (List.mem_singleton.mpr rfl)
theorem meet_pre {ord : List Nat} {o : Option Nat} : ∃ r, meet ord o = ord ++ r := by
  cases o with
  | none => exact ⟨[], by simp [meet]⟩
  | some j =>
    show ∃ r, (if j ∈ ord then ord else ord ++ [j]) = ord ++ r
    split
    · exact ⟨[], by simp⟩
    · exact ⟨[j], rfl⟩
theorem meets_ok {n : Nat} : ∀ {vs : List (Option Nat)} {ord : List Nat}, OkOrd n ord → (∀ o ∈ vs, OkV n o) → OkOrd n (meets ord vs)
  | [], _, h, _ => h
  | v :: r, ord, h, hv => meets_ok (vs := r) (ord := meet ord v) (meet_ok h (hv v List.mem_cons_self)) fun o ho => hv o (List.mem_cons_of_mem _ ho)
theorem meets_pre : ∀ {vs : List (Option Nat)} {ord : List Nat}, ∃ r, meets ord vs = ord ++ r
  | [], ord => ⟨[], by simp [meets]⟩
  | v :: r, ord => by
    obtain ⟨a, ha⟩ := meet_pre (ord := ord) (o := v)
    obtain ⟨b, hb⟩ := meets_pre (vs := r) (ord := meet ord v)
    refine ⟨a ++ b, ?_⟩
    show meets (meet ord v) r = _
    rw [hb, ha, List.append_assoc]
theorem meets_sub {vs : List (Option Nat)} {ord : List Nat} {k : Nat} (h : k ∈ ord) : k ∈ meets ord vs := by
  obtain ⟨r, e⟩ := meets_pre (vs := vs) (ord := ord)
  rw [e]
  exact List.mem_append_left _ h
theorem meets_has : ∀ {vs : List (Option Nat)} {ord : List Nat} {k : Nat}, some k ∈ vs → k ∈ meets ord vs
  | v :: r, ord, k, h => by
    show k ∈ meets (meet ord v) r
    rcases List.mem_cons.mp h with e | e
    · subst e
      exact meets_sub meet_has
    · exact meets_has e
theorem meets_snoc (ord : List Nat) (vs : List (Option Nat)) (v : Option Nat) : meets ord (vs ++ [v]) = meet (meets ord vs) v := by
  unfold meets
  rw [List.foldl_append]
  rfl
/-- what is so while the queue is worked off -/
structure BfsInv (os : List (List (Option Nat))) (roots : List (Option Nat)) (ord : List Nat) (i : Nat) : Prop where
  ok : OkOrd os.length ord
  rt : ∀ k, some k ∈ roots → k ∈ ord
  cl : ∀ j k, j < i → ord[j]? = some k → ∀ m, some m ∈ os.getD k [] → m ∈ ord
  le : i ≤ ord.length
  eq : bfs os (os.length - i) ord i = order os roots
theorem bfs_start {os : List (List (Option Nat))} {roots : List (Option Nat)} (hr : ∀ o ∈ roots, OkV os.length o) : BfsInv os roots (meets [] roots) 0 :=
  ⟨meets_ok ⟨List.nodup_nil, by simp⟩ hr, fun k hk => meets_has hk, fun j k hj => absurd hj (by omega), Nat.zero_le _, rfl⟩
theorem bfs_turn {os : List (List (Option Nat))} {roots : List (Option Nat)} {ord : List Nat} {i k : Nat} (B : BfsInv os roots ord i) (hk : ord[i]? = some k) (ho : ∀ r ∈ os, ∀ v ∈ r, OkV os.length v) : BfsInv os roots (meets ord (os.getD k [])) (i + 1) := by
  have il : i < ord.length := (List.getElem?_eq_some_iff.mp hk).1
  have ek : ord.getD i 0 = k := by rw [List.getD_eq_getElem?_getD, hk]; rfl
  have kl : k < os.length := B.ok.lt k (List.mem_of_getElem? hk)
  have hrow : os.getD k [] = os[k] := by rw [List.getD_eq_getElem?_getD, List.getElem?_eq_getElem kl]; rfl
  have hv : ∀ o ∈ os.getD k [], OkV os.length o := fun o h => ho os[k] (List.getElem_mem kl) o (by rw [← hrow]; exact h)
  obtain ⟨r, er⟩ := meets_pre (vs := os.getD k []) (ord := ord)
  refine ⟨meets_ok B.ok hv, fun j hj => meets_sub (B.rt j hj), fun j m hj hm x hx => ?_, ?_, ?_⟩
  · have jl : j < ord.length := by omega
    have hm2 : ord[j]? = some m := by rw [er, List.getElem?_append_left jl] at hm; exact hm
    by_cases e : j = i
    · subst e
      rw [hk] at hm2
      cases hm2
      exact meets_has hx
    · exact meets_sub (B.cl j m (by omega) hm2 x hx)
  · rw [er, List.length_append]; omega
  · have hl := B.ok.len
    have e1 : os.length - i = (os.length - (i + 1)) + 1 := by omega
    have e2 := B.eq
    rw [e1] at e2
    show bfs os (os.length - (i + 1)) (meets ord (os.getD k [])) (i + 1) = _
    rw [← e2]
    show _ = (if i < ord.length then bfs os (os.length - (i + 1)) (meets ord (os.getD (ord.getD i 0) [])) (i + 1) else ord)
    rw [if_pos il, ek]
theorem bfs_end {os : List (List (Option Nat))} {roots : List (Option Nat)} {ord : List Nat} {i : Nat} (B : BfsInv os roots ord i) (h : ord.length ≤ i) : ord = order os roots := by
  rw [← B.eq]
  cases e : os.length - i with
  | zero => rfl
  | succ f =>
    show ord = (if i < ord.length then bfs os f (meets ord (os.getD (ord.getD i 0) [])) (i + 1) else ord)
    rw [if_neg (by omega)]
/-- the order is closed -/
structure Closed (os : List (List (Option Nat))) (roots : List (Option Nat)) (ord : List Nat) : Prop where
  ok : OkOrd os.length ord
  rt : ∀ k, some k ∈ roots → k ∈ ord
  cl : ∀ k ∈ ord, ∀ m, some m ∈ os.getD k [] → m ∈ ord
theorem bfs_closed {os : List (List (Option Nat))} {roots : List (Option Nat)} {ord : List Nat} {i : Nat} (B : BfsInv os roots ord i) (h : ord.length ≤ i) : Closed os roots (order os roots) := by
  rw [← bfs_end B h]
  refine ⟨B.ok, B.rt, fun k hk m hm => ?_⟩
  obtain ⟨j, hj, e⟩ := List.getElem_of_mem hk
  exact B.cl j k (by omega) (by rw [List.getElem?_eq_getElem hj, e]) m hm
/-- the dict of the new numbers -/
def numK (ord : List Nat) : List (Key × V) := ord.zipIdx.map fun p => (Sum.inl (p.1 : Int), V.int p.2)
theorem numK_len (ord : List Nat) : (numK ord).length = ord.length := by unfold numK; rw [List.length_map, List.length_zipIdx]
theorem keys_numK (ord : List Nat) : (numK ord).map Prod.fst = ord.map fun (k : Nat) => (Sum.inl (k : Int) : Key) := by
  unfold numK
  rw [List.map_map]
  show ord.zipIdx.map ((fun k : Nat => (Sum.inl (k : Int) : Key)) ∘ Prod.fst) = _
  rw [← List.map_map, List.zipIdx_map_fst]
theorem inl_mem {ord : List Nat} {k : Nat} : (Sum.inl (k : Int) : Key) ∈ ord.map (fun (k : Nat) => (Sum.inl (k : Int) : Key)) ↔ k ∈ ord := by
  simp only [List.mem_map]
  constructor
  · rintro ⟨a, h, e⟩
    have := Sum.inl.inj e
    have : a = k := by omega
    rw [← this]
    exact h
  · exact fun h => ⟨k, h, rfl⟩
theorem num_has (ord : List Nat) (k : Nat) : (valV (numK ord) (.inl (k : Int))).isSome = decide (k ∈ ord) := by
  cases e : valV (numK ord) (.inl (k : Int)) with
  | none =>
    have h := valV_not e
    rw [keys_numK, inl_mem] at h
    rw [decide_eq_false h]
    rfl
  | some v =>
    have h := valV_in e
    rw [keys_numK, inl_mem] at h
    rw [decide_eq_true h]
    rfl
theorem num_put {ord : List Nat} {k : Nat} (h : k ∉ ord) : putK (numK ord) (.inl (k : Int)) (.int (ord.length : Nat)) = numK (ord ++ [k]) := by
  rw [putK_new _ (valV_no (by rw [keys_numK, inl_mem]; exact h))]
  unfold numK
  rw [List.zipIdx_append, List.map_append]
  simp
theorem inl_nodup {ord : List Nat} (h : ord.Nodup) : (ord.map fun (k : Nat) => (Sum.inl (k : Int) : Key)).Nodup := by
  induction ord with
  | nil => exact List.nodup_nil
  | cons a r ih =>
    obtain ⟨h1, h2⟩ := List.nodup_cons.mp h
    rw [List.map_cons]
    exact List.nodup_cons.mpr ⟨fun m => h1 (inl_mem.mp m), ih h2⟩
theorem num_get {ord : List Nat} {k i : Nat} (nd : ord.Nodup) (h : ord[i]? = some k) : valV (numK ord) (.inl (k : Int)) = some (.int (i : Nat)) := by
  refine valV_mem (by rw [keys_numK]; exact inl_nodup nd) ?_
  unfold numK
  refine List.mem_map.mpr ⟨(k, i), ?_, rfl⟩
  refine List.mem_of_getElem? (i := i) ?_
  rw [List.getElem?_zipIdx, h]
  simp
theorem num_idx {ord : List Nat} {k : Nat} (nd : ord.Nodup) (h : k ∈ ord) : valV (numK ord) (.inl (k : Int)) = some (.int (ord.idxOf k : Nat)) := by
  refine num_get nd ?_
  have hl := List.idxOf_lt_length_of_mem h
  rw [List.getElem?_eq_getElem hl, List.getElem_idxOf hl]
/-! ### END meet -/
/-! ### data of the heap, all of it within φ -/
mutual
inductive Rp (φ : Addr → Prop) (K : PySem.W.Frag) (H : Hp) : V → PyData → Prop
  | non : Rp φ K H .non .none
  | bl (b : Bool) : Rp φ K H (.bl b) (.bool b)
  | int (i : Int) : Rp φ K H (.int i) (.int i)
  | str (x : Str) : Rp φ K H (.str x) (.str x)
  | lst {a : Addr} {xs : List V} {ds : List PyData} : H a = some (.lst xs) → φ a → RpAll φ K H xs ds → Rp φ K H (.ref a) (.list ds)
  | tup {a : Addr} {xs : List V} {ds : List PyData} : H a = some (.tup xs) → φ a → RpAll φ K H xs ds → Rp φ K H (.ref a) (.tuple ds)
inductive RpAll (φ : Addr → Prop) (K : PySem.W.Frag) (H : Hp) : List V → List PyData → Prop
  | nil : RpAll φ K H [] []
  | cons {v : V} {vs : List V} {d : PyData} {ds : List PyData} : Rp φ K H v d → RpAll φ K H vs ds → RpAll φ K H (v :: vs) (d :: ds)
end
mutual
theorem Rp.dp {φ : Addr → Prop} {K : PySem.W.Frag} {H : Hp} : ∀ {v : V} {d : PyData}, Rp φ K H v d → Dp K H v d
  | _, _, .non => .non
  | _, _, .bl b => .bl b
  | _, _, .int i => .int i
  | _, _, .str x => .str x
  | _, _, .lst h _ r => .lst (lq h) (RpAll.dp r)
  | _, _, .tup h _ r => .tup (tq h) (RpAll.dp r)
theorem RpAll.dp {φ : Addr → Prop} {K : PySem.W.Frag} {H : Hp} : ∀ {vs : List V} {ds : List PyData}, RpAll φ K H vs ds → DpAll K H vs ds
  | _, _, .nil => .nil
  | _, _, .cons h r => .cons (Rp.dp h) (RpAll.dp r)
end
mutual
theorem Rp.fr {φ S : Addr → Prop} {K : PySem.W.Frag} {H H' : Hp} (f : Fr S H H') (n : ∀ a, φ a → ¬ S a) : ∀ {v : V} {d : PyData}, Rp φ K H v d → Rp φ K H' v d
  | _, _, .non => .non
  | _, _, .bl b => .bl b
  | _, _, .int i => .int i
  | _, _, .str x => .str x
  | _, _, .lst h p r => .lst (f.keep _ _ h (n _ p)) p (RpAll.fr f n r)
  | _, _, .tup h p r => .tup (f.keep _ _ h (n _ p)) p (RpAll.fr f n r)
theorem RpAll.fr {φ S : Addr → Prop} {K : PySem.W.Frag} {H H' : Hp} (f : Fr S H H') (n : ∀ a, φ a → ¬ S a) : ∀ {vs : List V} {ds : List PyData}, RpAll φ K H vs ds → RpAll φ K H' vs ds
  | _, _, .nil => .nil
  | _, _, .cons h r => .cons (Rp.fr f n h) (RpAll.fr f n r)
end
mutual
theorem Rp.imp {φ ψ : Addr → Prop} {K : PySem.W.Frag} {H : Hp} (i : ∀ a, φ a → ψ a) : ∀ {v : V} {d : PyData}, Rp φ K H v d → Rp ψ K H v d
  | _, _, .non => .non
  | _, _, .bl b => .bl b
  | _, _, .int i => .int i
  | _, _, .str x => .str x
  | _, _, .lst h p r => .lst h (i _ p) (RpAll.imp i r)
  | _, _, .tup h p r => .tup h (i _ p) (RpAll.imp i r)
theorem RpAll.imp {φ ψ : Addr → Prop} {K : PySem.W.Frag} {H : Hp} (i : ∀ a, φ a → ψ a) : ∀ {vs : List V} {ds : List PyData}, RpAll φ K H vs ds → RpAll ψ K H vs ds
  | _, _, .nil => .nil
  | _, _, .cons h r => .cons (Rp.imp i h) (RpAll.imp i r)
end
mutual
theorem Rp.sep {φ : Addr → Prop} {K : PySem.W.Frag} {H : Hp} {d : Addr} (n : H d = none) : ∀ {v : V} {e : PyData}, Rp φ K H v e → Rp (fun a => φ a ∧ a ≠ d) K H v e
  | _, _, .non => .non
  | _, _, .bl b => .bl b
  | _, _, .int i => .int i
  | _, _, .str x => .str x
  | _, _, .lst h p r => .lst h ⟨p, ne_of_none h n⟩ (RpAll.sep n r)
  | _, _, .tup h p r => .tup h ⟨p, ne_of_none h n⟩ (RpAll.sep n r)
theorem RpAll.sep {φ : Addr → Prop} {K : PySem.W.Frag} {H : Hp} {d : Addr} (n : H d = none) : ∀ {vs : List V} {es : List PyData}, RpAll φ K H vs es → RpAll (fun a => φ a ∧ a ≠ d) K H vs es
  | _, _, .nil => .nil
  | _, _, .cons h r => .cons (Rp.sep n h) (RpAll.sep n r)
end
theorem RpAll.len {φ : Addr → Prop} {K : PySem.W.Frag} {H : Hp} : ∀ {vs : List V} {ds : List PyData}, RpAll φ K H vs ds → vs.length = ds.length
  | _, _, .nil => rfl
  | _, _, .cons _ r => by rw [List.length_cons, List.length_cons, r.len]
theorem RpAll.snoc {φ : Addr → Prop} {K : PySem.W.Frag} {H : Hp} : ∀ {vs : List V} {ds : List PyData} {v : V} {d : PyData}, RpAll φ K H vs ds → Rp φ K H v d → RpAll φ K H (vs ++ [v]) (ds ++ [d])
  | _, _, _, _, .nil, h => .cons h .nil
  | _, _, _, _, .cons h r, h2 => .cons h (r.snoc h2)
theorem RpAll.strs {φ : Addr → Prop} {K : PySem.W.Frag} {H : Hp} : ∀ ts : List Str, RpAll φ K H (ts.map V.str) (ts.map PyData.str)
  | [] => .nil
  | t :: r => .cons (.str t) (RpAll.strs r)
def dov : Option Nat → PyData
  | none => .none
  | some n => .int n
theorem Rp.ov {φ : Addr → Prop} {K : PySem.W.Frag} {H : Hp} (o : Option Nat) : Rp φ K H (ov o) (dov o) := by
  cases o with
  | none => exact .non
  | some n => exact .int n
theorem RpAll.ovs {φ : Addr → Prop} {K : PySem.W.Frag} {H : Hp} (g : Option Nat → Option Nat) : ∀ row : List (Option Nat), RpAll φ K H (row.map fun o => ov (g o)) (row.map fun o => dov (g o))
  | [] => .nil
  | o :: r => .cons (.ov (g o)) (RpAll.ovs g r)
/-- what a name holds -/
def look (ns : List (Str × Option Nat)) (z : Str) : Option Nat := ((ns.find? fun p => decide (p.1 = z)).map Prod.snd).getD none
theorem look_mem {ns : List (Str × Option Nat)} {z : Str} {o : Option Nat} (nd : (ns.map Prod.fst).Nodup) (h : (z, o) ∈ ns) : look ns z = o := by
  unfold look
  have e : ns.find? (fun p => decide (p.1 = z)) = some (z, o) := by
    induction ns with
    | nil => simp at h
    | cons p r ih =>
      obtain ⟨n1, n2⟩ := List.nodup_cons.mp (show (p.1 :: r.map Prod.fst).Nodup from nd)
      rcases List.mem_cons.mp h with e | e
      · subst e
        rw [List.find?_cons_of_pos (by simp)]
      · rw [List.find?_cons_of_neg (by
          simp only [decide_eq_true_eq]
          intro z2
          exact n1 (by rw [z2]; exact List.mem_map_of_mem (f := Prod.fst) e))]
        exact ih n2 e
  rw [e]
  rfl
theorem val_look {ns : List (Str × Option Nat)} {z : Str} (nd : (ns.map Prod.fst).Nodup) (h : z ∈ ns.map Prod.fst) : valV (nmK ns) (.inr z) = some (ov (look ns z)) := by
  obtain ⟨y, hy, rfl⟩ := List.mem_map.mp h
  rw [look_mem nd (show (y.1, y.2) ∈ ns from hy)]
  exact val_nm nd hy
theorem look_ok {ns : List (Str × Option Nat)} {n : Nat} {z : Str} (ho : ∀ x ∈ ns, OkV n x.2) : OkV n (look ns z) := by
  unfold look
  cases e : ns.find? (fun p => decide (p.1 = z)) with
  | none => exact fun k h => (by cases h)
  | some p => exact ho p (List.mem_of_find?_eq_some e)
def shapeD (fs ys : List Str) (ns : List (Str × Option Nat)) (os : List (List (Option Nat))) : PyData :=
  .tuple [.tuple (fs.map .str), .tuple (ys.map fun z => .tuple [.str z, dov ((look ns z).map (order os (ys.map (look ns))).idxOf)]), .tuple ((order os (ys.map (look ns))).map fun k => .tuple ((os.getD k []).map fun o => dov (o.map (order os (ys.map (look ns))).idxOf)))]
def spMeeting (K : PySem.W.Frag) : Sp := fun vs H Q _ => ∃ (l f r : Addr) (as : List Addr) (fs : List Str) (os : List (List (Option Nat))) (n : Nat) (roots : List (Option Nat)), vs = [.ref l, .ref f, .ref r] ∧ ObjsAt (fun _ => True) H l as fs os ∧ OkO fs n os ∧ n ≤ 200 ∧ (SqL K H f (fs.map V.str) ∨ SqT K H f (fs.map V.str)) ∧ fs.Nodup ∧ fs.length ≤ 10 ∧
  SqL K H r (roots.map ov) ∧ (∀ o ∈ roots, OkV n o) ∧ roots.length ≤ 1000 ∧ ∀ d H', H d = none → Closed os roots (order os roots) → H' d = some (.dK (numK (order os roots))) → Fr NoA H H' → Q (.ref d) H'
def spRenum : Sp := fun vs H Q _ => ∃ (o : Option Nat) (d : Addr) (ord : List Nat), vs = [ov o, .ref d] ∧ Rd H d (.dK (numK ord)) ∧ ord.Nodup ∧ (∀ k, o = some k → k ∈ ord) ∧ Q (ov (o.map ord.idxOf)) H
/-! ### a Heap that stands -/
def hf3 (t l d : V) : List (Str × V) := [("fields", t), ("held", l), ("holders", d)]
def hf4 (t l d s : V) : List (Str × V) := [("fields", t), ("held", l), ("holders", d), ("shape", s)]
theorem lk_fields3 (t l d : V) : (hf3 t l d).lookup ("fields" : Str) = some t := by simp [hf3, List.lookup]
theorem ne_ff : (("held" : Str) == "fields") = false ∧ (("holders" : Str) == "fields") = false ∧ (("holders" : Str) == "held") = false ∧ (("shape" : Str) == "fields") = false ∧ (("shape" : Str) == "held") = false ∧ (("shape" : Str) == "holders") = false := by decide +kernel
theorem lk_held3 (t l d : V) : (hf3 t l d).lookup ("held" : Str) = some l := by simp [hf3, List.lookup, ne_ff]
theorem lk_holders3 (t l d : V) : (hf3 t l d).lookup ("holders" : Str) = some d := by simp [hf3, List.lookup, ne_ff]
theorem lk_fields (t l d s : V) : (hf4 t l d s).lookup ("fields" : Str) = some t := by simp [hf4, List.lookup]
theorem lk_held (t l d s : V) : (hf4 t l d s).lookup ("held" : Str) = some l := by simp [hf4, List.lookup, ne_ff]
theorem lk_holders (t l d s : V) : (hf4 t l d s).lookup ("holders" : Str) = some d := by simp [hf4, List.lookup, ne_ff]
theorem lk_shape (t l d s : V) : (hf4 t l d s).lookup ("shape" : Str) = some s := by simp [hf4, List.lookup, ne_ff]
theorem lk_no3 (t l d : V) {m : Str} (h : (m == "fields") = false ∧ (m == "held") = false ∧ (m == "holders") = false) : (hf3 t l d).lookup m = none := by
  obtain ⟨h1, h2, h3⟩ := h
  simp only [hf3, List.lookup, h1, h2, h3]
theorem lk_no (t l d s : V) {m : Str} (h : (m == "fields") = false ∧ (m == "held") = false ∧ (m == "holders") = false ∧ (m == "shape") = false) : (hf4 t l d s).lookup m = none := by
  obtain ⟨h1, h2, h3, h4⟩ := h
  simp only [hf4, List.lookup, h1, h2, h3, h4]
theorem put_f1 (t : V) : putF "fields" t [] = [(("fields" : Str), t)] := rfl
theorem put_f2 (t l : V) : putF "held" l [(("fields" : Str), t)] = [(("fields" : Str), t), ("held", l)] := by
  show (if ("fields" : Str) = "held" then _ else _) = _
  rw [if_neg (by decide +kernel)]
  rfl
theorem put_f3 (t l d : V) : putF "holders" d [(("fields" : Str), t), ("held", l)] = hf3 t l d := by
  show (if ("fields" : Str) = "holders" then _ else (("fields" : Str), t) :: (if ("held" : Str) = "holders" then _ else _)) = _
  rw [if_neg (by decide +kernel), if_neg (by decide +kernel)]
  rfl
theorem put_f4 (t l d s : V) : putF "shape" s (hf3 t l d) = hf4 t l d s := by
  show (if ("fields" : Str) = "shape" then _ else (("fields" : Str), t) :: (if ("held" : Str) = "shape" then _ else (("held" : Str), l) :: (if ("holders" : Str) = "shape" then _ else _))) = _
  rw [if_neg (by decide +kernel), if_neg (by decide +kernel), if_neg (by decide +kernel)]
  rfl
/-- the class's own facts -/
structure HCls (K : PySem.W.Frag) (C : Addr) : Prop where
  cl : Cls K C
  n1 : NoAttr K C "fields"
  n2 : NoAttr K C "held"
  n3 : NoAttr K C "holders"
  n4 : NoAttr K C "shape"
/-- a whole Heap at x, all of it within φ: its tuple of fields at t, its list at l of the dicts at as, its dict of names at d, its shape v -/
structure HeapAt (φ : Addr → Prop) (K : PySem.W.Frag) (C : Addr) (H : Hp) (x : Addr) (fs : List Str) (os : List (List (Option Nat))) (ns : List (Str × Option Nat)) : Prop where
  ex : ∃ (t l d dx : Addr) (v : V) (as : List Addr) (ys : List Str), H x = some (.ins C dx (hf4 (.ref t) (.ref l) (.ref d) v)) ∧ φ x ∧ H t = some (.tup (fs.map V.str)) ∧ φ t ∧ ObjsAt φ H l as fs os ∧ H d = some (.dK (nmK ns)) ∧ φ d ∧ ys.Perm (ns.map Prod.fst) ∧ sortedS ys = true ∧ Rp φ K H v (shapeD fs ys ns os)
theorem HeapAt.fr {φ S : Addr → Prop} {K : PySem.W.Frag} {C : Addr} {H H' : Hp} {x : Addr} {fs : List Str} {os : List (List (Option Nat))} {ns : List (Str × Option Nat)} (h : HeapAt φ K C H x fs os ns) (f : Fr S H H') (n : ∀ a, φ a → ¬ S a) : HeapAt φ K C H' x fs os ns := by
  obtain ⟨t, l, d, dx, v, as, ys, h1, p1, h2, p2, h3, h4, p4, h5, h6, h7⟩ := h.ex
  exact ⟨t, l, d, dx, v, as, ys, f.keep _ _ h1 (n _ p1), p1, f.keep _ _ h2 (n _ p2), p2, h3.fr f n, f.keep _ _ h4 (n _ p4), p4, h5, h6, h7.fr f n⟩
theorem HeapAt.imp {φ ψ : Addr → Prop} {K : PySem.W.Frag} {C : Addr} {H : Hp} {x : Addr} {fs : List Str} {os : List (List (Option Nat))} {ns : List (Str × Option Nat)} (h : HeapAt φ K C H x fs os ns) (i : ∀ a, φ a → ψ a) : HeapAt ψ K C H x fs os ns := by
  obtain ⟨t, l, d, dx, v, as, ys, h1, p1, h2, p2, h3, h4, p4, h5, h6, h7⟩ := h.ex
  exact ⟨t, l, d, dx, v, as, ys, h1, i _ p1, h2, i _ p2, h3.imp i, h4, i _ p4, h5, h6, h7.imp i⟩
/-- the heap's fields, objects and names are right -/
structure OkH (fs : List Str) (os : List (List (Option Nat))) (ns : List (Str × Option Nat)) : Prop where
  fw : ∀ z ∈ fs, IsW z
  fn : fs.Nodup
  f1 : 1 ≤ fs.length
  f2 : fs.length ≤ 2
  ob : OkO fs os.length os
  ol : os.length ≤ 200
  nn : (ns.map Prod.fst).Nodup
  nl : ns.length ≤ 6
  nw : ∀ x ∈ ns, IsW x.1 ∧ OkV os.length x.2
def spShape (K : PySem.W.Frag) (C : Addr) : Sp := fun vs H Q _ => ∃ (φ : Addr → Prop) (x dx t l d : Addr) (as : List Addr) (fs : List Str) (os : List (List (Option Nat))) (ns : List (Str × Option Nat)), vs = [.ref x] ∧ H x = some (.ins C dx (hf3 (.ref t) (.ref l) (.ref d))) ∧ H t = some (.tup (fs.map V.str)) ∧ ObjsAt (fun _ => True) H l as fs os ∧
  H d = some (.dK (nmK ns)) ∧ OkH fs os ns ∧ (∀ a, H a = none → φ a) ∧ φ t ∧ ∀ v ys H', ys.Perm (ns.map Prod.fst) → sortedS ys = true → Rp φ K H' v (shapeD fs ys ns os) → Fr NoA H H' → Q v H'
def spHeapInit (K : PySem.W.Frag) (C : Addr) : Sp := fun vs H Q _ => ∃ (φ : Addr → Prop) (x dx f l d : Addr) (as : List Addr) (fs : List Str) (os : List (List (Option Nat))) (ns : List (Str × Option Nat)), vs = [.ref x, .ref f, .ref l, .ref d] ∧ H x = some (.ins C dx []) ∧ (SqL K H f (fs.map V.str) ∨ (H f = some (.tup (fs.map V.str)) ∧ φ f)) ∧ ObjsAt (fun _ => True) H l as fs os ∧
  H d = some (.dK (nmK ns)) ∧ OkH fs os ns ∧ (∀ a, H a = none → φ a) ∧ φ x ∧ ∀ H', HeapAt φ K C H' x fs os ns → Fr (fun b => b = x) H H' → Q .non H'
theorem upd_fresh_ne {H : Hp} {a b : Addr} {o : HO} (h : (upd H a o) b = none) : a ≠ b := fun z => by
  rw [← z, upd_same] at h
  cases h
/-! ### x not in a tuple of texts, whatever x is -/
theorem str_eq_dict (b : Str) (u : Tok) (l : Addr) (es : Array DictEntry) (n : Nat) (dd : Option Addr) (sl : Array (Option Value)) :
    Meets (Builtin.«str.__eq__» ⟨[.str b u, .ref l], []⟩) (fun _ R s => s.heap.get? l = some { cls := .type "dict", dict := dd, data := .dict es n, slots := sl } ∧ R (.ok (.ret .notImplemented)) s) :=
  .of_wp fun prog w A R s h => by
    obtain ⟨hp, g, d, tk, os⟩ := s
    obtain ⟨hl, h⟩ := h
    wp_walk using wpAny_loadPart' hl, wpAny_load hl
    exact ⟨_, rfl, h⟩
theorem dict_eq_str (b : Str) (u : Tok) (l : Addr) (es : Array DictEntry) (n : Nat) (dd : Option Addr) (sl : Array (Option Value)) :
    Meets (Builtin.«dict.__eq__» ⟨[.ref l, .str b u], []⟩) (fun _ R s => s.heap.get? l = some { cls := .type "dict", dict := dd, data := .dict es n, slots := sl } ∧ R (.ok (.ret .notImplemented)) s) :=
  .of_wp fun prog w A R s h => by
    obtain ⟨hp, g, d, tk, os⟩ := s
    obtain ⟨hl, h⟩ := h
    have f1 := F.sub_str_dict
    wp_walk using wpAny_loadPart' hl, wpAny_load hl
    exact ⟨_, rfl, h⟩
theorem rc_str_dict {A : Around} {s : Shared} {l : Addr} {es : Array DictEntry} {n : Nat} {dd : Option Addr} {sl : Array (Option Value)} (b : Str) (u : Tok) (ho : s.heap.get? l = some { cls := .type "dict", dict := dd, data := .dict es n, slots := sl }) (hu : A.units < cLine) : SeqAt.RcAt A s (.str b u) (.ref l) false := fun prog w E Q h =>
  SeqAt.rc_eq_decline_or (k := false) (typeIs_str s b u) ⟨_, ho, rfl⟩ (by decide) F.sub_dict_str F.slot_str_eq F.slot_dict_eq_refl
    (fun _ hq => call_meets F.slot_str_eq (typeIs_str s b u) F.entry_str_eq (F.args_str_eq_2 _ _) (str_eq_dict b u l es n dd sl) ⟨ho, hq⟩)
    (fun _ hq => call_meets F.slot_dict_eq_refl ⟨_, ho, rfl⟩ F.entry_dict_eq (F.args_dict_eq_2 _ _) (dict_eq_str b u l es n dd sl) ⟨ho, hq⟩)
    (fun _ hq => wpAny_of_eq (rfl : isSame (.str b u) (.ref l) = pure false) hq) (.inr hu) h
theorem eq_str_dict {A : Around} {s : Shared} {l : Addr} {es : Array DictEntry} {n : Nat} {dd : Option Addr} {sl : Array (Option Value)} (b : Str) (u : Tok) (ho : s.heap.get? l = some { cls := .type "dict", dict := dd, data := .dict es n, slots := sl }) (hu : A.units < cLine) : SeqAt.EqAt A s (.str b u) (.ref l) false := fun prog w E Q h => by
  unfold eqBool
  refine wpAny_holding (wpAny_ite_split (fun hab => absurd (eq_of_beq hab) nofun) (fun _ => ?_))
  exact wpAny_bind (rc_str_dict b u ho hu prog w E _ (wpAny_truthy_bool h))
/-- a value that is flat, or an object that is no text: a list, a tuple, a dict -/
def FV (H : Hp) (v : V) : Prop := flatV v = true ∨ ∃ a, v = .ref a ∧ ((∃ xs, H a = some (.lst xs)) ∨ (∃ xs, H a = some (.tup xs)) ∨ ∃ kvs, H a = some (.dK kvs))
def rNoT : R2 := fun x y H Q => ∃ (p a : Addr) (ts : List Str), y = .ref p ∧ H p = some (.tup (ts.map V.str)) ∧ x = .ref a ∧ ((∃ xs, H a = some (.lst xs)) ∨ (∃ xs, H a = some (.tup xs)) ∨ ∃ kvs, H a = some (.dK kvs)) ∧ Q (.bl true) H
theorem op_noT {X : Cx} (hu : X.A.units + 1 < cLine) : OpR X (compareOp .NotIn) rNoT := by
  intro pins s σ H x y v u Q I rx ry h
  obtain ⟨p, a, ts, rfl, hp, rfl, ha, q⟩ := h
  obtain rfl : u = Value.ref p := ry
  obtain rfl : v = Value.ref a := rx
  obtain ⟨its, r, pl, hz⟩ := I.tuple (tq (K := X.K) hp)
  have hu1 : X.A.in1.units < cLine := hu
  have eq : ∀ y, y ∈ its.toArray → SeqAt.EqAt X.A.in1 s y (.ref a) ((fun _ => false) y) := fun y hy => by
    have hy' : y ∈ its := by simpa using hy
    obtain ⟨j, hj, e⟩ := List.getElem_of_mem hy'
    obtain ⟨z, ez⟩ : ∃ z : Str, (ts.map V.str)[j]? = some (.str z) := by
      have hl := r.length
      rw [List.length_map] at hl
      exact ⟨ts[j]'(by omega), by rw [List.getElem?_map, List.getElem?_eq_getElem (by omega)]; rfl⟩
    obtain ⟨w', e1, e2⟩ := r.get ez
    rw [List.getElem?_eq_getElem hj, e] at e1
    cases e1
    obtain ⟨t, rfl⟩ := (show ∃ t, y = Value.str z t from e2)
    rcases ha with ⟨xs, ha⟩ | ⟨xs, ha⟩ | ⟨kvs, ha⟩
    · obtain ⟨its2, r2, pl2, hz2⟩ := I.list (lq (K := X.K) ha)
      exact SeqAt.EqAt.str_list z t pl2.isList hu1
    · obtain ⟨its2, r2, pl2, hz2⟩ := I.tuple (tq (K := X.K) ha)
      exact SeqAt.EqAt.str_tuple z t pl2 hu1
    · obtain ⟨_, _, vs, _, ob, es, ep, ho, hc, hdat, _⟩ := (show ObjOk X.prog X.w H s.heap a (.dK kvs) from I.hok a _ ha)
      obtain ⟨cls, dd, data, sl⟩ := ob
      obtain ⟨c1, c2⟩ := hc
      simp only at c1 hdat
      subst c1 hdat
      exact eq_str_dict z t ho hu1
  refine SeqAt.notIn_tupleAt (fun _ => false) pl eq ?_
  have e : (its.toArray.any fun _ => false) = false := by simp
  rw [e]
  exact ⟨.bl true, H, I, rfl, q⟩
def rNI (K : PySem.W.Frag) : R2 := fun x y H Q => rIn K true x y H Q ∨ rNoT x y H Q
theorem op_ni {X : Cx} (hu : X.A.units + 1 < cLine) : OpR X (compareOp .NotIn) (rNI X.K) := by
  intro pins s σ H x y v u Q I rx ry h
  rcases h with h | h
  · exact op_notIn_seq pins s σ H x y v u Q I rx ry h
  · exact op_noT hu pins s σ H x y v u Q I rx ry h
theorem inV_flat (x : V) (ts : List Str) (hx : ∀ z, x ≠ .str z) : inV x (ts.map V.str) = false := by
  unfold inV
  induction ts with
  | nil => rfl
  | cons t r ih =>
    rw [List.map_cons, List.any_cons, ih]
    cases x with
    | str z => exact absurd rfl (hx z)
    | _ => rfl
/-- x not in a tuple of texts: the answer -/
theorem g_ni {K : PySem.W.Frag} {H : Hp} {Q : VK} {p : Addr} {ts : List Str} {x : V} (hp : H p = some (.tup (ts.map V.str))) (hx : FV H x) (q : ∀ b : Bool, (b = true ↔ ¬ ∃ z, x = .str z ∧ z ∈ ts) → Q (.bl b) H) : rNI K x (.ref p) H Q := by
  rcases hx with hx | ⟨a, rfl, ha⟩
  · refine .inl ⟨p, _, rfl, .inr (tq hp), hx, flat_str ts, ?_⟩
    rw [if_pos rfl]
    refine q _ ?_
    by_cases hs : ∃ z, x = .str z
    · obtain ⟨z, rfl⟩ := hs
      rw [inV_str]
      simp
    · rw [inV_flat x ts fun z e => hs ⟨z, e⟩]
      exact ⟨fun _ ⟨z, e, _⟩ => hs ⟨z, e⟩, fun _ => rfl⟩
  · exact .inr ⟨p, a, ts, rfl, hp, rfl, ha, q true ⟨fun _ ⟨z, e, _⟩ => (by cases e), fun _ => rfl⟩⟩
/-- what a def raises: an error of the class at C with the one field "part" -/
def XR (C : Addr) (H : Hp) (E : XK) (part : Str) : Prop := ∀ (d : Addr) (Hf : Hp), H d = none → Hf d = some (.xd [(("part" : Str), .str part)]) → Fr NoA H Hf → E (.ref C) (some d) Hf
def walkP (fs : List Str) (os : List (List (Option Nat))) (o : Option Nat) (ts : List Str) : Option Nat := ts.foldl (fun o t => o.bind fun k => (os.getD k []).getD (fs.idxOf t) none) o
theorem walkP_none (fs : List Str) (os : List (List (Option Nat))) : ∀ ts : List Str, walkP fs os none ts = none
  | [] => rfl
  | _ :: r => walkP_none fs os r
theorem walkP_cons (fs : List Str) (os : List (List (Option Nat))) (o : Option Nat) (t : Str) (r : List Str) : walkP fs os o (t :: r) = walkP fs os (o.bind fun k => (os.getD k []).getD (fs.idxOf t) none) r := rfl
theorem walkP_snoc (fs : List Str) (os : List (List (Option Nat))) (o : Option Nat) (ts : List Str) (t : Str) : walkP fs os o (ts ++ [t]) = (walkP fs os o ts).bind fun k => (os.getD k []).getD (fs.idxOf t) none := by
  unfold walkP
  rw [List.foldl_append]
  rfl
/-- one field of one object -/
theorem field_get {fs : List Str} {os : List (List (Option Nat))} {k : Nat} {t : Str} (ok : OkO fs os.length os) (nd : fs.Nodup) (hk : k < os.length) (ht : t ∈ fs) : valV (rowK fs os[k]) (.inr t) = some (ov ((os.getD k []).getD (fs.idxOf t) none)) ∧ OkV os.length ((os.getD k []).getD (fs.idxOf t) none) := by
  have hr := ok.row _ (List.getElem_mem hk)
  have hi := List.idxOf_lt_length_of_mem ht
  have e1 : os.getD k [] = os[k] := by rw [List.getD_eq_getElem?_getD, List.getElem?_eq_getElem hk]; rfl
  have il : fs.idxOf t < os[k].length := by rw [hr.1]; exact hi
  have e2 : os[k].getD (fs.idxOf t) none = os[k][fs.idxOf t] := by rw [List.getD_eq_getElem?_getD, List.getElem?_eq_getElem il]; rfl
  rw [e1, e2]
  exact ⟨val_row nd hr.1 (by rw [List.getElem?_eq_getElem hi, List.getElem_idxOf hi]) (List.getElem?_eq_getElem il), hr.2 _ (List.getElem_mem il)⟩
theorem walkP_ok {fs : List Str} {os : List (List (Option Nat))} (ok : OkO fs os.length os) (nd : fs.Nodup) : ∀ {ts : List Str} {o : Option Nat}, OkV os.length o → (∀ t ∈ ts, t ∈ fs) → OkV os.length (walkP fs os o ts)
  | [], _, h, _ => h
  | t :: r, o, h, ht => by
    rw [walkP_cons]
    refine walkP_ok ok nd ?_ fun x hx => ht x (List.mem_cons_of_mem _ hx)
    cases o with
    | none => exact fun k e => by cases e
    | some k => exact (field_get ok nd (h k rfl) (ht t List.mem_cons_self)).2
/-- no name of the heap -/
def BadName (K : PySem.W.Frag) (H : Hp) (ns : List (Str × Option Nat)) (v : V) : Prop := (∃ z, v = .str z ∧ z ∉ ns.map Prod.fst) ∨ TyQ K H v "str" false
def spRoot (K : PySem.W.Frag) (C CA : Addr) : Sp := fun vs H Q E => ∃ (φ : Addr → Prop) (x : Addr) (v : V) (fs : List Str) (os : List (List (Option Nat))) (ns : List (Str × Option Nat)), vs = [.ref x, v] ∧ HeapAt φ K C H x fs os ns ∧ OkH fs os ns ∧
  ((∃ z, v = .str z ∧ z ∈ ns.map Prod.fst ∧ Q (ov (look ns z)) H) ∨ (BadName K H ns v ∧ XR CA H E "name"))
def spAt (K : PySem.W.Frag) (C CA : Addr) : Sp := fun vs H Q E => ∃ (φ : Addr → Prop) (x : Addr) (v pv : V) (fs : List Str) (os : List (List (Option Nat))) (ns : List (Str × Option Nat)), vs = [.ref x, v, pv] ∧ HeapAt φ K C H x fs os ns ∧ OkH fs os ns ∧
  ((BadName K H ns v ∧ XR CA H E "name") ∨ ∃ z, v = .str z ∧ z ∈ ns.map Prod.fst ∧
    ((∃ t, TyX K H pv t ∧ PySem.W.kitOne K t (.type "list") = some false ∧ PySem.W.kitOne K t (.type "tuple") = some false ∧ XR CA H E "path") ∨
      ∃ (a : Addr) (xs : List V), pv = .ref a ∧ (SqL K H a xs ∨ SqT K H a xs) ∧ xs.length ≤ 1000 ∧ (∀ y ∈ xs, FV H y) ∧
        ((∃ ts : List Str, xs = ts.map V.str ∧ (∀ t ∈ ts, t ∈ fs) ∧ ∀ H', Fr NoA H H' → Q (ov (walkP fs os (look ns z) ts)) H') ∨ ((∃ y ∈ xs, ¬ ∃ t, y = .str t ∧ t ∈ fs) ∧ XR CA H E "path"))))
theorem FV.fr {S : Addr → Prop} {H H' : Hp} {v : V} (f : Fr S H H') (n : ∀ a, v = .ref a → ¬ S a) (h : FV H v) : FV H' v := by
  rcases h with h | ⟨a, rfl, h⟩
  · exact .inl h
  · refine .inr ⟨a, rfl, ?_⟩
    rcases h with ⟨xs, h⟩ | ⟨xs, h⟩ | ⟨xs, h⟩
    · exact .inl ⟨xs, f.keep _ _ h (n a rfl)⟩
    · exact .inr (.inl ⟨xs, f.keep _ _ h (n a rfl)⟩)
    · exact .inr (.inr ⟨xs, f.keep _ _ h (n a rfl)⟩)
structure ATxt (P : Program) (w : World) (K : PySem.W.Frag) (mg : Str → Option Value) (base : Heap) (CA : Addr) : Prop where
  x_InvalidArgument : XCls P w K mg base "InvalidArgument" CA ["part"]
/-- heap.at(v, w) raises with this part -/
def AtErr (K : PySem.W.Frag) (H : Hp) (fs : List Str) (ns : List (Str × Option Nat)) (v u : V) (part : Str) : Prop :=
  (part = "name" ∧ BadName K H ns v) ∨ (part = "path" ∧ ∃ z, v = .str z ∧ z ∈ ns.map Prod.fst ∧
    ((∃ t, TyX K H u t ∧ PySem.W.kitOne K t (.type "list") = some false ∧ PySem.W.kitOne K t (.type "tuple") = some false) ∨
      ∃ (a : Addr) (xs : List V), u = .ref a ∧ (SqL K H a xs ∨ SqT K H a xs) ∧ xs.length ≤ 1000 ∧ (∀ y ∈ xs, FV H y) ∧ ∃ y ∈ xs, ¬ ∃ t, y = .str t ∧ t ∈ fs))
theorem AtErr.sp {K : PySem.W.Frag} {C CA : Addr} {φ : Addr → Prop} {H : Hp} {x : Addr} {fs : List Str} {os : List (List (Option Nat))} {ns : List (Str × Option Nat)} {v u : V} {part : Str} {Q : VK} {E : XK} (HA : HeapAt φ K C H x fs os ns) (ok : OkH fs os ns) (h : AtErr K H fs ns v u part) (xr : XR CA H E part) : spAt K C CA [.ref x, v, u] H Q E := by
  refine ⟨φ, x, v, u, fs, os, ns, rfl, HA, ok, ?_⟩
  rcases h with ⟨rfl, hb⟩ | ⟨rfl, z, rfl, hz, h⟩
  · exact .inl ⟨hb, xr⟩
  · refine .inr ⟨z, rfl, hz, ?_⟩
    rcases h with ⟨t, h1, h2, h3⟩ | ⟨a, xs, rfl, h1, h2, h3, h4⟩
    · exact .inl ⟨t, h1, h2, h3, xr⟩
    · exact .inr ⟨a, xs, rfl, h1, h2, h3, .inr ⟨h4, xr⟩⟩
def spSame : Sp := fun vs H Q _ => ∃ o o' : Option Nat, vs = [ov o', ov o] ∧ Q (.bl (decide (o' = o))) H
def spFollow (K : PySem.W.Frag) : Sp := fun vs H Q _ => ∃ (l p : Addr) (as : List Addr) (fs : List Str) (os : List (List (Option Nat))) (o : Option Nat) (ts : List Str), vs = [.ref l, ov o, .ref p] ∧ ObjsAt (fun _ => True) H l as fs os ∧ OkO fs os.length os ∧ fs.Nodup ∧ OkV os.length o ∧ SqL K H p (ts.map V.str) ∧ (∀ t ∈ ts, t ∈ fs) ∧ Q (ov (walkP fs os o ts)) H
def spRefused (K : PySem.W.Frag) (C : Addr) : Sp := fun vs H Q _ => ∃ (φ : Addr → Prop) (x : Addr) (v u : V) (fs : List Str) (os : List (List (Option Nat))) (ns : List (Str × Option Nat)) (part : Str), vs = [.ref x, v, u] ∧ HeapAt φ K C H x fs os ns ∧ OkH fs os ns ∧ AtErr K H fs ns v u part ∧ ∀ H', Fr NoA H H' → Q (.str part) H'
/-! ### data that can be compared -/
theorem strOk_w {z : Str} (h : IsW z) : PyData.strOk z = true := by
  unfold PyData.strOk
  rw [Array.all_eq_true]
  intro i hi
  have := h.2.2 (z.cps[i]) (by simp)
  simp only [decide_eq_true_eq]
  omega
theorem lay_strs : ∀ ts : List Str, (∀ z ∈ ts, IsW z) → PyData.canLayAll0 (ts.map PyData.str) = true
  | [], _ => by simp [PyData.canLayAll0]
  | t :: r, h => by simp [PyData.canLayAll0, PyData.canLay0, strOk_w (h t List.mem_cons_self), lay_strs r fun z hz => h z (List.mem_cons_of_mem _ hz)]
theorem depth_strs : ∀ ts : List Str, PyData.depthAll (ts.map PyData.str) = 0
  | [] => by simp [PyData.depthAll]
  | t :: r => by simp [PyData.depthAll, PyData.depth, depth_strs r]
theorem lay_list {ts : List Str} (h : ∀ z ∈ ts, IsW z) : PyData.canLay0 (.list (ts.map PyData.str)) = true := by
  simp [PyData.canLay0, lay_strs ts h]
theorem shaped_strs {ts : List Str} (h : ∀ z ∈ ts, IsW z) : SeqAt.shaped (.list (ts.map PyData.str)) = true := by
  unfold SeqAt.shaped
  simp [PyData.canLay0, lay_strs ts h, PyData.depth, depth_strs ts]
theorem Dp.strs {K : PySem.W.Frag} {H : Hp} {a : Addr} {ts : List Str} (h : SqL K H a (ts.map V.str)) : Dp K H (.ref a) (.list (ts.map PyData.str)) := by
  refine .lst h ?_
  clear h
  induction ts with
  | nil => exact .nil
  | cons t r ih => exact .cons (.str t) ih
theorem g_neD {K : PySem.W.Frag} {H : Hp} {Q : VK} {x y : V} {d e : PyData} (h1 : Dp K H x d) (h2 : Dp K H y e) (s1 : SeqAt.shaped d = true) (s2 : SeqAt.shaped e = true) (q : Q (.bl (!PyData.eqv d e)) H) : rNeD K x y H Q := ⟨d, e, h1, h2, s1, s2, q⟩
def rIns : V → List V → Hp → VK → Prop := fun x vs H Q => ∃ (l : Addr) (xs : List V) (i : Int) (y : V), x = .ref l ∧ vs = [.int i, y] ∧ H l = some (.lst xs) ∧ xs.length < sizeLine ∧ 0 ≤ i ∧ i < 2 ^ 63 ∧ Q .non (upd H l (.lst (xs.take i.toNat ++ [y] ++ xs.drop i.toNat)))
theorem m_insert {X : Cx} : MtR X "list.insert" rIns := mt_insert
theorem g_ins {H : Hp} {Q : VK} {l : Addr} {xs : List V} {i : Int} {y : V} (h : H l = some (.lst xs)) (hl : xs.length < 10000) (h0 : 0 ≤ i) (h1 : i < 2 ^ 63) (q : Q .non (upd H l (.lst (xs.take i.toNat ++ [y] ++ xs.drop i.toNat)))) : rIns (.ref l) [.int i, y] H Q := ⟨l, xs, i, y, rfl, rfl, h, szl' hl, h0, h1, q⟩
/-- what the laws about heaps keep while they ask -/
structure Held (K : PySem.W.Frag) (C : Addr) (H : Hp) (p c x fl l d : Addr) (as : List Addr) (fs : List Str) (os : List (List (Option Nat))) (ns : List (Str × Option Nat)) : Prop where
  po : PoolAt H p c
  hp : HeapAt (fun a => ¬ PS p c a) K C H x fs os ns
  ok : OkH fs os ns
  ob : ObjsAt (fun a => ¬ PS p c a) H l as fs os
  nm : H d = some (.dK (nmK ns))
  nd : ¬ PS p c d
  flq : H fl = some (.lst (fs.map V.str))
  nf : ¬ PS p c fl
theorem Held.fr {K : PySem.W.Frag} {C : Addr} {H H' : Hp} {p c x fl l d : Addr} {as : List Addr} {fs : List Str} {os : List (List (Option Nat))} {ns : List (Str × Option Nat)} (h : Held K C H p c x fl l d as fs os ns) (f : Fr (PS p c) H H') (po : PoolAt H' p c) : Held K C H' p c x fl l d as fs os ns :=
  ⟨po, h.hp.fr f fun _ z => z, h.ok, h.ob.fr f fun _ z => z, f.keep _ _ h.nm h.nd, h.nd, f.keep _ _ h.flq h.nf, h.nf⟩
theorem Held.fr0 {K : PySem.W.Frag} {C : Addr} {H H' : Hp} {p c x fl l d : Addr} {as : List Addr} {fs : List Str} {os : List (List (Option Nat))} {ns : List (Str × Option Nat)} (h : Held K C H p c x fl l d as fs os ns) (f : Fr NoA H H') : Held K C H' p c x fl l d as fs os ns :=
  h.fr (f.mono fun _ z => z.elim) (h.po.fr f (fun z => z) fun z => z)
def spAsks02 (K : PySem.W.Frag) (C : Addr) : Sp := fun vs H Q _ => ∃ (p c x fl l d : Addr) (as : List Addr) (fs : List Str) (os : List (List (Option Nat))) (ns : List (Str × Option Nat)), vs = [.ref p, .ref x, .ref fl, .ref l, .ref d] ∧ Held K C H p c x fl l d as fs os ns ∧ 1 ≤ ns.length ∧
  ∀ H', PoolAt H' p c → Fr (PS p c) H H' → Q (.bl true) H'
theorem g_mk0 {C : Addr} {sp : Sp} {E : XK} {t : TA} {σ : L2.St} {H : Hp} {Q : VK} (h : t σ H fun vs H1 => ∀ x dx, H1 x = none → H1 dx = none → dx ≠ x → sp (.ref x :: (vs ++ [])) (upd (upd H1 dx (.own x)) x (.ins C dx [])) (fun v H2 => v = .non ∧ Q (.ref x) H2) E) : tMk C sp E t σ H Q := h
theorem g_sl {r : V → Option Int → Option Int → Hp → VK → Prop} {te : TE} {tl th : TO} {σ : L2.St} {H : Hp} {Q : VK} (h : te σ H fun x H1 => tl σ H1 fun l H2 => th σ H2 fun u H3 => r x l u H3 Q) : tSl r te tl th σ H Q := h
theorem g_noPart {σ : L2.St} {H : Hp} {R : Option Int → Hp → Prop} (h : R none H) : tNoPart σ H R := h
theorem g_part {t : TE} {σ : L2.St} {H : Hp} {R : Option Int → Hp → Prop} (h : t σ H fun x H1 => ∃ i, x = .int i ∧ R (some i) H1) : tPart t σ H R := h
theorem g_slL {K : PySem.W.Frag} {H : Hp} {Q : VK} {a : Addr} {xs : List V} {lo hi : Option Int} (h : SqL K H a xs) (q : ∀ p, H p = none → Q (.ref p) (upd H p (.lst (cutV xs lo hi)))) : rSlL K (.ref a) lo hi H Q := ⟨a, xs, rfl, h, q⟩
theorem cut_to (xs : List V) (n : Nat) : cutV xs none (some (n : Int)) = xs.take n := by
  unfold cutV
  rw [HT.sIx_none, HT.sIx_nat]
  simp
def spLaw (K : PySem.W.Frag) : Sp := fun vs H Q _ => ∃ (a : Addr) (ns : List Int), vs = [.ref a] ∧ SqL K H a (ns.map V.int) ∧ ns.length ≤ 63 ∧ ∀ H', Q (.bl true) H'
theorem Fr.out {S : Addr → Prop} {H H1 H2 : Hp} (a : Fr NoA H H1) (b : Fr S H1 H2) (h : ∀ x, S x → H x = none) : Fr NoA H H2 :=
  ⟨fun c o e _ => b.keep c o (a.keep c o e fun z => z) (fun z => by rw [h c z] at e; cases e), fun c e => a.free c (b.free c e)⟩
theorem g_pairs1 {tk tv : TE} {σ : L2.St} {H : Hp} {R : List (V × V) → Hp → Prop} (h : tk σ H fun k H1 => tv σ H1 fun v H2 => R [(k, v)] H2) : tPairs [(tk, tv)] σ H R := h
theorem g_disp1 {H : Hp} {p : Addr} {z : Str} {v : V} {P : Hp → Prop} (h : H p = some (.dK [])) (q : ∀ kvs, P (upd H p (.dK kvs))) : H p = some (.dK []) ∧ ∃ kvs : List (Key × V), [(V.str z, v)] = kvs.map (fun kv => (kV kv.1, kv.2)) ∧ kvs.length ≤ 15 ∧ P (upd H p (.dK (mergeK [] kvs))) :=
  ⟨h, [(.inr z, v)], rfl, by show 1 ≤ 15; decide, q _⟩
structure HTxt (mg : Str → Option Value) : Prop where
  MOST_OBJECTS : ∃ u, mg "MOST_OBJECTS" = some u ∧ RelV (.int 200) u
  MOST_NAMES : ∃ u, mg "MOST_NAMES" = some u ∧ RelV (.int 6) u
theorem atI_0 {x : V} {r : List V} : atI (x :: r) 0 = some x := atI_nat (j := 0) rfl
theorem atI_1 {x y : V} {r : List V} : atI (x :: y :: r) 1 = some y := atI_nat (j := 1) rfl
theorem atI_2 {x y z : V} {r : List V} : atI (x :: y :: z :: r) 2 = some z := atI_nat (j := 2) rfl
theorem atI_of {xs : List V} {k : Int} (h0 : 0 ≤ k) (h1 : k < xs.length) : atI xs k = some (xs[k.toNat]'(by omega)) := by
  have e : ((k.toNat : Nat) : Int) = k := by omega
  have z := atI_nat (xs := xs) (j := k.toNat) (v := xs[k.toNat]'(by omega)) (by simp)
  rw [e] at z
  exact z
theorem ixN_of {n : Nat} {k : Int} (h0 : 0 ≤ k) (h1 : k < n) : ixN n k = some k.toNat := by
  unfold ixN
  rw [if_pos h0, if_pos h1]
section
variable {P : Program} {w : World} {K : PySem.W.Frag} {mg : Str → Option Value} {base : Heap}
theorem ok_xi1 {st : Stmt} {qual x : Str} {f C : Addr} {fd : FuncData} (F : Fun K "__init__" qual st f fd) (sc : FnScope ["self", x] ["self", x] (defScope st)) (T : OexC K C) (no : PySem.W.findIn K (.ref C) x = some none) {p1 p2 p3 p4 : Pos} (hb : defBody st = [.Assign [.Attribute (.Name "self" p1) x p2] (.Name x p3) p4])
    (v0 : Vis (defScope st) "self") (v1 : Vis (defScope st) x) (d1 : (x == ("__debug__" : Str)) = false) (d2 : (x == ("__classdict__" : Str)) = false) : FnOk P w K mg base CX0 1 f fd ["self", x] (spXI C [x]) := by
  refine F.ok sc (fun vs H Q E h => ?_) (fun cdv A outer s H vs Q E hr h => ?_)
  · obtain ⟨a, ws, rfl, hl, _⟩ := h
    rw [List.length_cons, hl]
    rfl
  · obtain ⟨a, ws, rfl, hl, ha, k⟩ := h
    match ws, hl with
    | [v], _ =>
    rw [hb]
    refine ⟨_, pss_one (ps_ost (pe_var (i := 0) rfl v0) (pe_var (i := 1) rfl v1 d1 d2)), ?_⟩
    refine ⟨v, rfl, .ref a, rfl, a, C, rfl, T, no, .inl ⟨ha, fun dx hd ne => ?_⟩⟩
    refine k dx _ hd ne upd_same ?_ fun b n1 n2 => ?_
    · rw [upd_ne ne, upd_same]
      rfl
    · rw [upd_ne n1, upd_ne n2]
theorem ok_xi2 {st : Stmt} {qual x y : Str} {f C : Addr} {fd : FuncData} (F : Fun K "__init__" qual st f fd) (sc : FnScope ["self", x, y] ["self", x, y] (defScope st)) (T : OexC K C) (no : PySem.W.findIn K (.ref C) x = some none) (no2 : PySem.W.findIn K (.ref C) y = some none) {p1 p2 p3 p4 q1 q2 q3 q4 : Pos} (hb : defBody st = [.Assign [.Attribute (.Name "self" p1) x p2] (.Name x p3) p4, .Assign [.Attribute (.Name "self" q1) y q2] (.Name y q3) q4])
    (v0 : Vis (defScope st) "self") (v1 : Vis (defScope st) x) (d1 : (x == ("__debug__" : Str)) = false) (d2 : (x == ("__classdict__" : Str)) = false) (w1 : Vis (defScope st) y) (e1 : (y == ("__debug__" : Str)) = false) (e2 : (y == ("__classdict__" : Str)) = false) : FnOk P w K mg base CX0 1 f fd ["self", x, y] (spXI C [x, y]) := by
  refine F.ok sc (fun vs H Q E h => ?_) (fun cdv A outer s H vs Q E hr h => ?_)
  · obtain ⟨a, ws, rfl, hl, _⟩ := h
    rw [List.length_cons, hl]
    rfl
  · obtain ⟨a, ws, rfl, hl, ha, k⟩ := h
    match ws, hl with
    | [v, u], _ =>
    rw [hb]
    refine ⟨_, pss_cons (ps_ost (pe_var (i := 0) rfl v0) (pe_var (i := 1) rfl v1 d1 d2)) (pss_one (ps_ost (pe_var (i := 0) rfl v0) (pe_var (i := 2) rfl w1 e1 e2))), ?_⟩
    refine ⟨v, rfl, .ref a, rfl, a, C, rfl, T, no, .inl ⟨ha, fun dx hd ne => ?_⟩⟩
    refine ⟨u, rfl, .ref a, rfl, a, C, rfl, T, no2, .inr ⟨dx, _, upd_same, by rw [upd_ne ne, upd_same], by show 1 ≤ 900; decide, ?_⟩⟩
    refine k dx _ hd ne ?_ ?_ fun b n1 n2 => ?_
    · rw [upd_ne (Ne.symm ne), upd_same]
    · rw [upd_same]
      rfl
    · rw [upd_ne n2, upd_ne n1, upd_ne n2]
end
/-- an error of a class is what «except» of that class names -/
theorem exm_own {K : PySem.W.Frag} {S : Addr} (h1 : PySem.W.subIn K (.ref S) (.type "BaseException") = some true) (h2 : PySem.W.isClsIn K S = true) (h3 : PySem.W.typeIn K (.ref S) = some (.type "type")) (h4 : PySem.W.subIn K (.ref S) (.ref S) = some true) : PySem.W.exmOne K (.ref S) (.ref S) = some true := by
  have e2 : (PySem.W.clsIn K S).isSome = true := h2
  simp [PySem.W.exmOne, PySem.W.kitCls, h1, h3, h4, e2]
/-! ### truth of a list, min of two, ints in a list -/
def tTru (K : PySem.W.Frag) (te : TE) : TT := fun σ H Q => te σ H fun x H' => ∃ k, TruV K x H' k ∧ Q k H'
theorem pt_tru {X : Cx} {a : Expr} {ta : TE} (ha : PE X a ta) (he : ∀ whole, isTrue a X.env whole = (do let v ← whole; standAt a.pos; holding [v] (truthy v))) : PT X a (tTru X.K ta) := pt_truth ha he
theorem g_tru {K : PySem.W.Frag} {te : TE} {σ : L2.St} {H : Hp} {R : Bool → Hp → Prop} (h : te σ H fun x H' => ∃ k, TruV K x H' k ∧ R k H') : tTru K te σ H R := h
theorem g_truL {K : PySem.W.Frag} {H : Hp} {p : Addr} {xs : List V} {R : Bool → Prop} (h : SqL K H p xs) (q : R (!xs.isEmpty)) : ∃ k, TruV K (.ref p) H k ∧ R k := ⟨_, .inl ⟨xs, h, rfl⟩, q⟩
def rMin2 : TC := fun xs H Q => ∃ i j, xs = [.int i, .int j] ∧ Q (.int (if j < i then j else i)) H
theorem c_min2 {X : Cx} (hc : X.calm = true) : CallR X (.builtin "min") rMin2 := call_min2 hc
theorem g_min2 {H : Hp} {Q : VK} {i j : Int} (q : Q (.int (if j < i then j else i)) H) : rMin2 [.int i, .int j] H Q := ⟨i, j, rfl, q⟩
theorem g_neg {H : Hp} {Q : VK} {i : Int} (q : Q (.int (-i)) H) : rU (fun i => .int (-i)) (.int i) H Q := ⟨i, rfl, q⟩
def natV (k : Nat) : V := .int (k : Int)
theorem inV_nat (k : Nat) : ∀ ks : List Nat, inV (.int (k : Int)) (ks.map natV) = decide (k ∈ ks)
  | [] => rfl
  | t :: r => by
    have ih := inV_nat k r
    unfold inV at ih ⊢
    rw [List.map_cons, List.any_cons, ih]
    show (((t : Int) == (k : Int)) || decide (k ∈ r)) = decide (k ∈ t :: r)
    rw [Bool.eq_iff_iff]
    simp only [Bool.or_eq_true, beq_iff_eq, decide_eq_true_eq, List.mem_cons]
    constructor
    · rintro (h | h)
      · exact .inl (by omega)
      · exact .inr h
    · rintro (h | h)
      · exact .inl (by omega)
      · exact .inr h
theorem flat_nat : ∀ ts : List Nat, (ts.map natV).all flatV = true
  | [] => rfl
  | _ :: r => by rw [List.map_cons, List.all_cons, flat_nat r]; rfl
theorem g_notInI {H : Hp} {Q : VK} {K : PySem.W.Frag} {p : Addr} {k : Nat} {ks : List Nat} (h : SqL K H p (ks.map natV) ∨ SqT K H p (ks.map natV)) (q : Q (.bl (!decide (k ∈ ks))) H) : rIn K true (.int (k : Int)) (.ref p) H Q :=
  ⟨p, _, rfl, h, rfl, flat_nat ks, by rw [if_pos rfl, inV_nat]; exact q⟩
theorem g_inI {H : Hp} {Q : VK} {K : PySem.W.Frag} {p : Addr} {k : Nat} {ks : List Nat} (h : SqL K H p (ks.map natV) ∨ SqT K H p (ks.map natV)) (q : Q (.bl (decide (k ∈ ks))) H) : rIn K false (.int (k : Int)) (.ref p) H Q :=
  ⟨p, _, rfl, h, rfl, flat_nat ks, by rw [if_neg Bool.false_ne_true, inV_nat]; exact q⟩
theorem asc_ext : ∀ {l1 l2 : List Int}, l1.Pairwise (· < ·) → l2.Pairwise (· < ·) → (∀ x, x ∈ l1 ↔ x ∈ l2) → l1 = l2
  | [], [], _, _, _ => rfl
  | [], b :: r, _, _, h => absurd ((h b).mpr List.mem_cons_self) (by simp)
  | a :: r, [], _, _, h => absurd ((h a).mp List.mem_cons_self) (by simp)
  | a :: r, b :: r', h1, h2, h => by
    obtain ⟨p1, q1⟩ := List.pairwise_cons.mp h1
    obtain ⟨p2, q2⟩ := List.pairwise_cons.mp h2
    have ab : a = b := by
      rcases List.mem_cons.mp ((h a).mp List.mem_cons_self) with e | e
      · exact e
      · rcases List.mem_cons.mp ((h b).mpr List.mem_cons_self) with e2 | e2
        · exact e2.symm
        · have := p2 a e
          have := p1 b e2
          omega
    subst ab
    rw [asc_ext q1 q2 fun x => ?_]
    constructor
    · intro hx
      rcases List.mem_cons.mp ((h x).mp (List.mem_cons_of_mem _ hx)) with e | e
      · have := p1 x hx
        omega
      · exact e
    · intro hx
      rcases List.mem_cons.mp ((h x).mpr (List.mem_cons_of_mem _ hx)) with e | e
      · have := p2 x hx
        omega
      · exact e
end G

namespace G
open PySem PySem.Spec PyProof.Rows L2

/-! ### own __len__, __contains__, __getitem__, __eq__ -/
section
variable {X : Cx} {CX : CXT} {k j : Nat} {C : Addr} {sp : Sp} {E : L2.St → XK}
theorem run_met {A : Around} {f : Addr} {fd : FuncData} {ps : List Str} {pins : List (Addr × Obj)} {σ : L2.St} {H : Hp} {s : Shared} {Q : VK} {us : List Value} {vs : List V} (F : FnOk X.prog X.w X.K X.mg X.base CX k f fd ps sp) (hr : Room k A) (hb : Binds X.K fd ps []) (e0 : Env0 X.prog X.w X.K X.mg X.base A X.stack s H)
    (hx : PassesAt CX X σ (E σ)) (I : Inv X pins σ H s) (r : Vals vs us) (h : sp vs H Q (E σ)) : wpAny (model X.prog X.w) A (call (.ref f) us) (EP X pins σ Q) X.xe s := by
  have hl : us.length = ps.length := by rw [← r.length]; exact F.len _ _ _ _ h
  have b := hb s us I.kIn (by rw [List.append_nil]; exact hl)
  rw [List.append_nil] at b
  refine wpAny_call (codeAny_mono (F.run A X.stack s H ⟨us, []⟩ us vs Q (E σ) hr e0 b r h) fun r s' hq => ?_)
  cases r with
  | error e => exact hx pins H s e s' I hq
  | ok fl =>
    cases fl with
    | ret u => exact I.after hq
    | next => exact False.elim hq
    | brk => exact False.elim hq
    | cont => exact False.elim hq
theorem Passes.at {E : XK} (h : Passes CX X E) : ∀ σ, PassesAt CX X σ ((fun _ => E) σ) := fun σ pins H s e s' I c => h pins σ H s e s' I c
/-- len(x), x an instance with an own __len__ -/
def rLenO (C : Addr) (sp : Sp) (E : XK) : TC := fun xs H Q => ∃ a dx fs, xs = [.ref a] ∧ H a = some (.ins C dx fs) ∧ sp [.ref a] H (fun z H' => ∃ i : Int, z = .int i ∧ 0 ≤ i ∧ i < 2 ^ 63 ∧ Q (.int i) H') E
theorem c_lenO {E : XK} (c : Met X.prog X.w X.K X.mg X.base CX k C "__len__" sp) (hr : Room j X.A) (hk : k + 1 ≤ j) (hx : Passes CX X E) : CallR X (.builtin "len") (rLenO C sp E) := by
  intro pins s σ H xs us Q I r h
  obtain ⟨a, dx, fs, rfl, ha, q⟩ := h
  obtain ⟨u, rfl, ru⟩ := r.one
  cases (show u = Value.ref a from ru)
  obtain ⟨f, fd, ps, hc, hm, F, b⟩ := c.ex
  obtain ⟨mA, J, _⟩ := ins_get I.hok ha
  obtain ⟨od, J, _⟩ := J.look
  obtain ⟨m, hF⟩ := I.fr
  refine PySem.W.len_K hF I.ok.mod.kin J hm.at_ hm.fn (wpAny_mono (run_met (E := fun _ => E) (us := [.ref a]) (vs := [.ref a]) F (hr.mono hk).in1 b I.env0.in1 (Passes.at hx σ) I (.cons rfl .nil) q) (fun w s' z => ?_) fun _ _ x => x)
  obtain ⟨z', H', I', rz, i, ei, h0, h1, qz⟩ := z
  subst ei
  obtain ⟨t, e⟩ := (show ∃ t, w = Value.int i t from rz)
  cases e
  exact ⟨⟨h0, h1⟩, .int i, H', I'.tok _, ⟨_, rfl⟩, qz⟩
/-- x in y, y an instance with an own __contains__ -/
def rInO (C : Addr) (sp : Sp) (E : XK) : R2 := fun x y H Q => ∃ a dx fs, y = .ref a ∧ H a = some (.ins C dx fs) ∧ sp [y, x] H (fun z H' => ∃ b, z = .bl b ∧ Q (.bl b) H') E
theorem op_inO {E : XK} (c : Met X.prog X.w X.K X.mg X.base CX k C "__contains__" sp) (hr : Room j X.A) (hk : k ≤ j) (hx : Passes CX X E) : OpR X (compareOp .In) (rInO C sp E) := by
  intro pins s σ H x y v u Q I rx ry h
  obtain ⟨a, dx, fs, rfl, ha, q⟩ := h
  cases (show u = Value.ref a from ry)
  obtain ⟨f, fd, ps, hc, hm, F, b⟩ := c.ex
  obtain ⟨mA, J, _⟩ := ins_get I.hok ha
  obtain ⟨od, J, _⟩ := J.look
  obtain ⟨m, hF⟩ := I.fr
  refine PySem.W.in_K hF I.ok.mod.kin J hm.at_ hm.fn (wpAny_mono (run_met (E := fun _ => E) (us := [.ref a, v]) (vs := [.ref a, x]) F (hr.mono hk) b I.env0 (Passes.at hx σ) I (.cons rfl (.cons rx .nil)) q) (fun w s' z => ?_) fun _ _ x => x)
  obtain ⟨z', H', I', rz, i, ei, qz⟩ := z
  subst ei
  cases (show w = Value.bool i from rz)
  exact wpAny_truthy_bool ⟨.bl i, H', I', rfl, qz⟩
/-- x == y, both instances of the class at C with an own __eq__ -/
def rEqO (C : Addr) (sp : Sp) (E : XK) : R2 := fun x y H Q => ∃ a b dx dy fs gs, x = .ref a ∧ y = .ref b ∧ H a = some (.ins C dx fs) ∧ H b = some (.ins C dy gs) ∧ sp [x, y] H (fun z H' => ∃ b, z = .bl b ∧ Q (.bl b) H') E
theorem op_eqO {E : XK} (c : Met X.prog X.w X.K X.mg X.base CX k C "__eq__" sp) (hr : Room j X.A) (hk : k ≤ j) (hx : Passes CX X E) : OpR X (compareOp .Eq) (rEqO C sp E) := by
  intro pins s σ H x y v u Q I rx ry h
  obtain ⟨a, b, dx, dy, fs, gs, rfl, rfl, ha, hb', q⟩ := h
  cases (show v = Value.ref a from rx)
  cases (show u = Value.ref b from ry)
  obtain ⟨f, fd, ps, hc, hm, F, bd⟩ := c.ex
  obtain ⟨mA, J, _⟩ := ins_get I.hok ha
  obtain ⟨mB, J', _⟩ := ins_get I.hok hb'
  obtain ⟨od, J, _⟩ := J.look
  obtain ⟨od', J', _⟩ := J'.look
  obtain ⟨m, hF⟩ := I.fr
  show wpAny (model X.prog X.w) X.A (richCompare .Eq (.ref a) (.ref b)) (EP X pins σ Q) X.xe s
  refine PySem.W.cmp_K (op := .Eq) (tb := .ref C) (hr.mono hk).units0 hF I.ok.mod.kin J J'.type (by simp [PySem.W.notFirst]) hm.at_ hm.fn ?_
  refine wpAny_mono (run_met (E := fun _ => E) (us := [.ref a, .ref b]) (vs := [.ref a, .ref b]) F (hr.mono hk) bd I.env0 (Passes.at hx σ) I (.cons rfl (.cons rfl .nil)) q) (fun w s' z => ?_) fun _ _ x => x
  obtain ⟨z', H', I', rz, i, ei, qz⟩ := z
  subst ei
  cases (show w = Value.bool i from rz)
  exact ⟨.bl i, H', I', rfl, qz⟩
/-- x[y], x an instance with an own __getitem__ -/
def tIxO (C : Addr) (sp : Sp) (E : L2.St → XK) (ta tb : TE) : TE := fun σ H Q => ta σ H fun x H1 => tb σ H1 fun y H2 => ∃ a dx fs, x = .ref a ∧ H2 a = some (.ins C dx fs) ∧ sp [x, y] H2 Q (E σ)
theorem pe_ixO {a b : Expr} {ta tb : TE} {pos : Pos} (c : Met X.prog X.w X.K X.mg X.base CX k C "__getitem__" sp) (hfi : ∀ f, PySem.W.findIn X.K (.ref C) "__getitem__" = some (some (.ref f)) → PySem.W.fnIn X.K f = true) (hr : Room j X.A) (hk : k + 1 ≤ j) (hx : ∀ σ, PassesAt CX X σ (E σ)) (ha : PE X a ta) (hb : PE X b tb)
    (hs : ∀ o i, subscripted b true o i = runValue (.builtin "lifetime.subscript" ⟨[o, i], []⟩) := by intro _ _; with_unfolding_all rfl) : PE X (.Subscript a b pos) (tIxO C sp E ta tb) := by
  refine ⟨fun pins s σ H Q I h => ?_⟩
  refine Subscript_ (binT ha hb I h fun v u s2 x y H2 I2 rx ry q => ?_)
  obtain ⟨p, dx, fs, rfl, hp, q⟩ := q
  cases (show v = Value.ref p from rx)
  obtain ⟨f, fd, ps, hc, hm, F, bd⟩ := c.ex
  obtain ⟨mA, J, _⟩ := ins_get I2.hok hp
  obtain ⟨od, J, _⟩ := J.look
  obtain ⟨m, hF⟩ := I2.fr
  exact PySem.W.sub_K hF I2.ok.mod.kin J hm.at_ (hfi f hm.at_) hm.fn (run_met (us := [.ref p, u]) (vs := [.ref p, y]) F (hr.mono hk).in1 bd I2.env0.in1 (hx σ) I2 (.cons rfl (.cons ry .nil)) q) (hs _ _)
theorem g_ixO {ta tb : TE} {σ : L2.St} {H : Hp} {Q : VK} (h : ta σ H fun x H1 => tb σ H1 fun y H2 => ∃ a dx fs, x = .ref a ∧ H2 a = some (.ins C dx fs) ∧ sp [x, y] H2 Q (E σ)) : tIxO C sp E ta tb σ H Q := h
end
def rIsntB : R2 := fun x y H Q => ∃ a b, x = .bl a ∧ y = .bl b ∧ Q (.bl (!decide (a = b))) H
theorem op_isntB {X : Cx} : OpR X (compareOp .IsNot) rIsntB := op_isnot_bl
theorem g_isntB {H : Hp} {Q : VK} {a b : Bool} (q : Q (.bl (!decide (a = b))) H) : rIsntB (.bl a) (.bl b) H Q := ⟨a, b, rfl, rfl, q⟩

end G
namespace G
open PySem PySem.Spec PyProof.Rows L2

/-! ### lists of dicts compared -/
section
open PySem.SeqAt
open AutoSeq1 (wpAny_loadPart')
open MeetsSeq MeetsSeq2 MeetsSeq3 SeqRoads2
variable {prog : Program} {w : World} {A : Around} {R : Result → Shared → Prop}
/-- the loop of != over two lists whose items are equal, pair by pair -/
theorem neq_loop (l b : Addr) (N : Nat) (J : Nat → Shared → Prop) (hl : GQ.ListI prog w A (fun e s' => R (.error e) s') l b N J) (fin : ∀ s, J N s → R (.ok (.ret (.bool false))) s) : ∀ (k i : Nat), N - i = k → i ≤ N → ∀ s, J i s →
    wpAny (model prog w) A.in1 (Builtin.«list.__eq__.loop» ⟨[.ref l, .ref b, rawInt i, rawInt 3], []⟩) (GQ.FinOf prog w A R) (fun e s' => R (.error e) s') s
  | 0, i, hk, hi, s, h => by
    obtain ⟨xs, ys, n, m, gl, gb, z1, z2, _⟩ := hl _ _ h
    have hN : i = N := by omega
    have hR := fin s (hN ▸ h)
    obtain ⟨hp, g, d, tk, os⟩ := s
    wp_walk using wpAny_loadPart' gl, wpAny_loadPart' gb
    have q1 : xs[((i : Nat) : Int).toNat]? = none := by simp; omega
    have q2 : ys[((i : Nat) : Int).toNat]? = none := by simp; omega
    rw [q1, q2]
    wp_walk using wpAny_loadPart' gl, wpAny_loadPart' gb
    show R (.ok (.ret (.bool (xs.size != ys.size)))) _
    rw [z1, z2]
    simpa using hR
  | k + 1, i, hk, hi, s, h => by
    obtain ⟨xs, ys, n, m, gl, gb, z1, z2, turn⟩ := hl _ _ h
    have l1 : i < xs.size := by omega
    have l2 : i < ys.size := by omega
    have ht := turn l1 l2
    obtain ⟨hp, g, d, tk, os⟩ := s
    wp_walk using wpAny_loadPart' gl, wpAny_loadPart' gb
    have q1 : xs[((i : Nat) : Int).toNat]? = some xs[i] := by simp [l1]
    have q2 : ys[((i : Nat) : Int).toNat]? = some ys[i] := by simp [l2]
    have hc : ((i : Int) + 1) = ((i + 1 : Nat) : Int) := by omega
    rw [q1, q2]
    refine wpAny_bind (wpAny_mono ht (fun r s2 h2 => ?_) fun _ _ x => x)
    obtain ⟨rfl, h2⟩ := h2
    have more := neq_loop l b N J hl fin k (i + 1) (by omega) (by omega) s2 h2
    obtain ⟨hp2, g2, d2, tk2, os2⟩ := s2
    wp_walk
    rw [hc]
    refine ⟨plainId_quiet plain_eq_loop _, codeAny_builtin entry_eq_loop ?_⟩
    rw [Around.under_plainId plain_eq_loop _]
    exact more
theorem neq_list {E : Value → Shared → Prop} {s : Shared} {l b : Addr} {N : Nat} {Q : Value → Shared → Prop} (hu : A.units < cLine) (J : Nat → Shared → Prop) (hl : GQ.ListI prog w A E l b N J) (fin : ∀ s, J N s → Q (.bool false) s) (h : J 0 s) : wpAny (model prog w) A (richCompare .NotEq (.ref l) (.ref b)) Q E s := by
  obtain ⟨xs, ys, n, m, gl, gb, z1, z2, _⟩ := hl _ _ h
  have more := neq_loop (A := A) (R := wants (fun v s' => v ≠ .notImplemented ∧ Q v s') E) l b N J hl (fun s' q => ⟨(fun x => nomatch x), fin s' q⟩) _ 0 rfl (Nat.zero_le _) s h
  refine wpAny_richCompare_same_room (op := .NotEq) ⟨_, gl, rfl⟩ ⟨_, gb, rfl⟩ F.slot_list_ne (GQ.call_here F.slot_list_ne ⟨_, gl, rfl⟩ F.entry_list_ne (F.args_list_ne_2 _ _) ?_) hu
  obtain ⟨hp, g, d, tk, os⟩ := s
  have f3 := AutoSeq1.sub_list_list
  have hne : ¬ (xs.size != ys.size) = true := by simp [z1, z2]
  wp_walk using wpAny_loadPart' gl, wpAny_loadPart' gb
  refine ⟨plainId_quiet plain_eq_loop _, codeAny_builtin entry_eq_loop ?_⟩
  rw [Around.under_plainId plain_eq_loop _]
  exact more
end
section
variable {X : Cx} {n : Nat}
/-- two dicts of the same flat items -/
def SD : Eqv := fun x y H => ∃ (p q : Addr) (ks ls : List (Key × V)), x = .ref p ∧ y = .ref q ∧ H p = some (.dK ks) ∧ H q = some (.dK ls) ∧ ks.length = ls.length ∧ ∀ y ∈ ks, valV ls y.1 = some y.2 ∧ flatB y.2 = true
theorem mon_sd : Mon SD := fun x y H H' e d => by
  obtain ⟨p, q, ks, ls, hx, hy, h1, h2, r⟩ := d
  exact ⟨p, q, ks, ls, hx, hy, e _ _ h1, e _ _ h2, r⟩
theorem rcG_sd : RcG X n SD := by
  intro A pins s σ H x y u v sb I rx ry h
  obtain ⟨a, b, ks, ls, rfl, rfl, ea, eb, hlen, hp⟩ := h
  obtain rfl : u = Value.ref a := rx
  obtain rfl : v = Value.ref b := ry
  obtain ⟨_, ya, va, ra, da⟩ := (show ObjOk X.prog X.w H s.heap a (.dK ks) from I.hok a _ ea)
  obtain ⟨_, yb, vb, rb, db⟩ := (show ObjOk X.prog X.w H s.heap b (.dK ls) from I.hok b _ eb)
  have hl : va.length = vb.length := by rw [← ra.length, ← rb.length]; exact hlen
  refine PySem.W.keq_eq (knd := mixKind X.prog X.w) (r := true) ya yb da db sb.room.units0 (fun _ => hits_all rb ra hp) ?_
  refine ⟨?_, H, I, Ext.rfl'⟩
  simp [hl]
theorem eqG_sd : EqG X n SD := rcG_sd.eqG fun _ _ _ d => let ⟨a, b, _, _, hx, hy, _⟩ := d; ⟨a, b, hx, hy⟩
theorem op_eqLD (hr : Room (n + 1) X.A) : OpR X (compareOp .Eq) (rEqG (DList SD)) := op_eqG (rcG_list mon_sd (eqG_sd (n := n))) hr
def rNeG (D : Eqv) : R2 := fun x y H Q => D x y H ∧ ∀ H', Ext H H' → Q (.bl false) H'
theorem op_neLD (hr : Room (n + 1) X.A) : OpR X (compareOp .NotEq) (rNeG (DList SD)) := by
  intro pins s σ H x y v u Q I rx ry h
  obtain ⟨⟨a, b, xs, ys, rfl, rfl, ha, hb, p⟩, q⟩ := h
  cases (show v = Value.ref a from rx)
  cases (show u = Value.ref b from ry)
  show wpAny (model X.prog X.w) X.A (richCompare .NotEq (.ref a) (.ref b)) (EP X pins σ Q) X.xe s
  refine neq_list (N := xs.length) hr.units0 (fun _ s' => LoopI X pins σ H s') (fun i s' z => ?_) (fun s' z => ?_) ⟨H, I, Ext.rfl'⟩
  · obtain ⟨H1, I1, e1⟩ := id z
    obtain ⟨z1, its, k1, r1, e⟩ := I1.hok a _ (e1 _ _ ha)
    obtain ⟨z2, its2, k2, r2, e2⟩ := I1.hok b _ (e1 _ _ hb)
    exact ⟨its.toArray, its2.toArray, k1, k2, e, e2, by rw [List.size_toArray, ← r1.length], by rw [List.size_toArray, ← r2.length, ← p.1], fun h1 h2 => turnG mon_sd (eqG_sd (n := n)) ⟨hr, rfl⟩ p r1 r2 i h1 h2 s' z⟩
  · obtain ⟨H1, I1, e1⟩ := z
    exact ⟨.bl false, H1, I1, rfl, q H1 e1⟩
theorem Fr.ext {H H' : Hp} (e : Ext H H') : Fr NoA H H' := ⟨fun b o h _ => e b o h, fun b h => by
  cases hb : H b with
  | none => rfl
  | some o => rw [e b o hb] at h; cases h⟩
end

end G
set_option Elab.async false
set_option linter.all false
set_option maxRecDepth 100000
set_option maxHeartbeats 4000000

namespace Z
open PySem PySem.Spec PyProof.Rows L2 G
local macro_rules | `(tactic| walk_at "go") => `(tactic| repeat (first
  | with_reducible refine g_seq ?_ | with_reducible refine g_ixO ?_ | with_reducible refine g_isntB ?_ | with_reducible refine g_tru ?_ | with_reducible refine g_min2 ?_ | with_reducible refine g_neg ?_ | with_reducible refine g_asg ?_ | with_reducible refine g_name ?_ | ((with_reducible apply g_var); exact rfl) | with_reducible refine g_c ?_ | with_reducible refine g_op ?_ | with_reducible refine g_un ?_ | with_reducible refine g_I0 ?_
  | with_reducible refine g_drop ?_ | with_reducible refine g_ret ?_ | with_reducible refine g_retN ?_ | with_reducible refine g_ifS ?_ | with_reducible refine g_ife ?_ | with_reducible refine g_test ?_ | with_reducible refine g_B ?_ | with_reducible refine g_bl ?_
  | with_reducible refine g_and ?_ | with_reducible refine g_or ?_ | with_reducible refine g_not ?_ | with_reducible refine g_andV ?_ | with_reducible refine g_orV ?_ | with_reducible refine g_notV ?_ | with_reducible refine g_chain ?_ | with_reducible refine g_nil ?_ | with_reducible refine g_cons ?_ | with_reducible refine g_cb ?_ | with_reducible refine g_cl ?_ | with_reducible refine g_mt ?_
  | with_reducible refine g_next ?_ | with_reducible refine g_brk ?_ | with_reducible refine g_cont ?_ | with_reducible refine g_lst ?_ | with_reducible refine g_tup ?_ | with_reducible refine g_sub ?_ | with_reducible refine g_isN ?_ | with_reducible refine g_notN ?_
  | with_reducible refine g_for ?_ | with_reducible refine g_m1 ?_ | with_reducible refine g_fld ?_ | with_reducible refine g_pairs1 ?_ | with_reducible refine g_mk0 ?_ | with_reducible refine g_sl ?_ | with_reducible refine g_noPart ?_ | with_reducible refine g_part ?_ | with_reducible refine g_mtS ?_ | with_reducible refine g_xf ?_ | with_reducible refine g_sfld ?_ | with_reducible refine g_iKeys ?_ | ((with_reducible apply g_lenD); assumption) | with_reducible refine g_rx ?_ | with_reducible refine g_mkx ?_ | ((with_reducible apply g_isi); assumption) | with_reducible refine g_dput ?_ | with_reducible refine g_dget ?_ | with_reducible refine g_din ?_ | with_reducible refine g_dnotin ?_ | with_reducible refine g_bm ?_ | with_reducible refine g_bm0 ?_ | ((with_reducible apply g_tyL); (first | assumption | exact lq (by assumption))) | with_reducible refine g_isStr ?_ | with_reducible refine g_iList ?_ | with_reducible refine g_iTup ?_ | with_reducible refine g_iRng1 ?_ | with_reducible refine g_iStr ?_ | with_reducible refine g_iEnum ?_ | with_reducible refine g_lc ?_ | with_reducible refine g_yes ?_
  | ((with_reducible apply g_len); (first | assumption | exact lq (by assumption))) | with_reducible refine g_int ?_
  | ((with_reducible apply g_ixL); (first | assumption | exact lq (by assumption)); (first | exact atI_0 | exact atI_1 | exact atI_2))))

def topS (i : Nat) : Stmt := PySem.Challenge.pw_thawedwrites_k01_heap_gives_back.main.body.getD i (.Pass ⟨0, 0, 0, 0⟩)
abbrev s_InvalidHeap_init : Stmt := inClass (topS 2) 0
theorem sc_InvalidHeap_init : FnScope ["self", "part", "where"] ["self", "part", "where"] (defScope s_InvalidHeap_init) := ⟨rfl, rfl, rfl, by decide +kernel, rfl, by decide +kernel, by decide +kernel⟩
abbrev s_InvalidArgument_init : Stmt := inClass (topS 3) 0
theorem sc_InvalidArgument_init : FnScope ["self", "part"] ["self", "part"] (defScope s_InvalidArgument_init) := ⟨rfl, rfl, rfl, by decide +kernel, rfl, by decide +kernel, by decide +kernel⟩
abbrev s_is_integer : Stmt := topS 7
theorem sc_is_integer : FnScope ["value"] ["value"] (defScope s_is_integer) := ⟨rfl, rfl, rfl, by decide +kernel, rfl, by decide +kernel, by decide +kernel⟩
abbrev s_is_word : Stmt := topS 8
theorem sc_is_word : FnScope ["value", "letter"] ["value"] (defScope s_is_word) := ⟨rfl, rfl, rfl, by decide +kernel, rfl, by decide +kernel, by decide +kernel⟩
abbrev s_is_word_list : Stmt := topS 9
theorem sc_is_word_list : FnScope ["values", "least", "most", "seen", "value"] ["values", "least", "most"] (defScope s_is_word_list) := ⟨rfl, rfl, rfl, by decide +kernel, rfl, by decide +kernel, by decide +kernel⟩
abbrev s_is_number_below : Stmt := topS 10
theorem sc_is_number_below : FnScope ["value", "count"] ["value", "count"] (defScope s_is_number_below) := ⟨rfl, rfl, rfl, by decide +kernel, rfl, by decide +kernel, by decide +kernel⟩
abbrev s_is_object : Stmt := topS 14
theorem sc_is_object : FnScope ["item", "fields", "count", "field", "value"] ["item", "fields", "count"] (defScope s_is_object) := ⟨rfl, rfl, rfl, by decide +kernel, rfl, by decide +kernel, by decide +kernel⟩
abbrev s_check_objects : Stmt := topS 15
theorem sc_check_objects : FnScope ["objects", "fields", "at", "item"] ["objects", "fields"] (defScope s_check_objects) := ⟨rfl, rfl, rfl, by decide +kernel, rfl, by decide +kernel, by decide +kernel⟩
abbrev s_check_names : Stmt := topS 16
theorem sc_check_names : FnScope ["names", "count", "name", "value"] ["names", "count"] (defScope s_check_names) := ⟨rfl, rfl, rfl, by decide +kernel, rfl, by decide +kernel, by decide +kernel⟩
abbrev s_meeting_numbers : Stmt := topS 17
theorem sc_meeting_numbers : FnScope ["objects", "fields", "roots", "numbers", "order", "root", "at", "field", "value"] ["objects", "fields", "roots"] (defScope s_meeting_numbers) := ⟨rfl, rfl, rfl, by decide +kernel, rfl, by decide +kernel, by decide +kernel⟩
abbrev s_renumbered : Stmt := topS 18
theorem sc_renumbered : FnScope ["value", "numbers"] ["value", "numbers"] (defScope s_renumbered) := ⟨rfl, rfl, rfl, by decide +kernel, rfl, by decide +kernel, by decide +kernel⟩
abbrev s_Heap_init : Stmt := inClass (topS 19) 0
theorem sc_Heap_init : FnScope ["self", "fields", "objects", "names", "item"] ["self", "fields", "objects", "names"] (defScope s_Heap_init) := ⟨rfl, rfl, rfl, by decide +kernel, rfl, by decide +kernel, by decide +kernel⟩
abbrev s_Heap_reckoned_shape : Stmt := inClass (topS 19) 1
theorem sc_Heap_reckoned_shape : FnScope ["self", "ordered", "numbers", "names", "objects", "number", "item", "name", "field"] ["self"] (defScope s_Heap_reckoned_shape) := ⟨rfl, rfl, rfl, by decide +kernel, rfl, by decide +kernel, by decide +kernel⟩
abbrev s_Heap_eq : Stmt := inClass (topS 19) 2
theorem sc_Heap_eq : FnScope ["self", "other"] ["self", "other"] (defScope s_Heap_eq) := ⟨rfl, rfl, rfl, by decide +kernel, rfl, by decide +kernel, by decide +kernel⟩
abbrev s_Heap_getitem : Stmt := inClass (topS 19) 3
theorem sc_Heap_getitem : FnScope ["self", "at"] ["self", "at"] (defScope s_Heap_getitem) := ⟨rfl, rfl, rfl, by decide +kernel, rfl, by decide +kernel, by decide +kernel⟩
abbrev s_Heap_iter : Stmt := inClass (topS 19) 4
theorem sc_Heap_iter : FnScope ["self"] ["self"] (defScope s_Heap_iter) := ⟨rfl, rfl, rfl, by decide +kernel, rfl, by decide +kernel, by decide +kernel⟩
abbrev s_Heap_contains : Stmt := inClass (topS 19) 5
theorem sc_Heap_contains : FnScope ["self", "x"] ["self", "x"] (defScope s_Heap_contains) := ⟨rfl, rfl, rfl, by decide +kernel, rfl, by decide +kernel, by decide +kernel⟩
abbrev s_Heap_len : Stmt := inClass (topS 19) 6
theorem sc_Heap_len : FnScope ["self"] ["self"] (defScope s_Heap_len) := ⟨rfl, rfl, rfl, by decide +kernel, rfl, by decide +kernel, by decide +kernel⟩
abbrev s_Heap_objects : Stmt := inClass (topS 19) 7
theorem sc_Heap_objects : FnScope ["self", "item"] ["self"] (defScope s_Heap_objects) := ⟨rfl, rfl, rfl, by decide +kernel, rfl, by decide +kernel, by decide +kernel⟩
abbrev s_Heap_names : Stmt := inClass (topS 19) 8
theorem sc_Heap_names : FnScope ["self"] ["self"] (defScope s_Heap_names) := ⟨rfl, rfl, rfl, by decide +kernel, rfl, by decide +kernel, by decide +kernel⟩
abbrev s_Heap_root : Stmt := inClass (topS 19) 9
theorem sc_Heap_root : FnScope ["self", "name"] ["self", "name"] (defScope s_Heap_root) := ⟨rfl, rfl, rfl, by decide +kernel, rfl, by decide +kernel, by decide +kernel⟩
abbrev s_Heap_at : Stmt := inClass (topS 19) 10
theorem sc_Heap_at : FnScope ["self", "name", "path", "value", "field"] ["self", "name", "path"] (defScope s_Heap_at) := ⟨rfl, rfl, rfl, by decide +kernel, rfl, by decide +kernel, by decide +kernel⟩
abbrev s_Heap_parts : Stmt := inClass (topS 19) 11
theorem sc_Heap_parts : FnScope ["self", "name", "depth", "root", "found", "layer", "away", "further", "number", "field", "value"] ["self", "name", "depth"] (defScope s_Heap_parts) := ⟨rfl, rfl, rfl, by decide +kernel, rfl, by decide +kernel, by decide +kernel⟩
abbrev s_Heap_normal : Stmt := inClass (topS 19) 12
theorem sc_Heap_normal : FnScope ["self", "fields", "names", "objects", "items", "row", "k", "field"] ["self"] (defScope s_Heap_normal) := ⟨rfl, rfl, rfl, by decide +kernel, rfl, by decide +kernel, by decide +kernel⟩
abbrev s_l_is_integer : Stmt := topS 21
theorem sc_l_is_integer : FnScope ["_law_x"] ["_law_x"] (defScope s_l_is_integer) := ⟨rfl, rfl, rfl, by decide +kernel, rfl, by decide +kernel, by decide +kernel⟩
abbrev s_l_same : Stmt := topS 22
theorem sc_l_same : FnScope ["_law_actual", "_law_due"] ["_law_actual", "_law_due"] (defScope s_l_same) := ⟨rfl, rfl, rfl, by decide +kernel, rfl, by decide +kernel, by decide +kernel⟩
abbrev s_l_draw : Stmt := topS 23
theorem sc_l_draw : FnScope ["_law_pool", "_law_limit", "_law_cells", "_law_at", "_law_digit", "_law_cell", "_law_number"] ["_law_pool", "_law_limit"] (defScope s_l_draw) := ⟨rfl, rfl, rfl, by decide +kernel, rfl, by decide +kernel, by decide +kernel⟩
abbrev s_l_pick : Stmt := topS 24
theorem sc_l_pick : FnScope ["_law_pool", "_law_row"] ["_law_pool", "_law_row"] (defScope s_l_pick) := ⟨rfl, rfl, rfl, by decide +kernel, rfl, by decide +kernel, by decide +kernel⟩
abbrev s_l_word : Stmt := topS 25
theorem sc_l_word : FnScope ["_law_pool", "_law_taken", "_law_letters", "_law_size", "_law_word_here", "_law_letter", "_law_k"] ["_law_pool", "_law_taken"] (defScope s_l_word) := ⟨rfl, rfl, rfl, by decide +kernel, rfl, by decide +kernel, by decide +kernel⟩
abbrev s_l_words : Stmt := topS 26
theorem sc_l_words : FnScope ["_law_pool", "_law_least", "_law_most", "_law_words_here", "_law_k"] ["_law_pool", "_law_least", "_law_most"] (defScope s_l_words) := ⟨rfl, rfl, rfl, by decide +kernel, rfl, by decide +kernel, by decide +kernel⟩
abbrev s_l_value : Stmt := topS 27
theorem sc_l_value : FnScope ["_law_pool", "_law_count", "_law_value_here"] ["_law_pool", "_law_count"] (defScope s_l_value) := ⟨rfl, rfl, rfl, by decide +kernel, rfl, by decide +kernel, by decide +kernel⟩
abbrev s_l_objects : Stmt := topS 28
theorem sc_l_objects : FnScope ["_law_pool", "_law_fields", "_law_count", "_law_objects_here", "_law_k", "_law_item", "_law_field"] ["_law_pool", "_law_fields", "_law_count"] (defScope s_l_objects) := ⟨rfl, rfl, rfl, by decide +kernel, rfl, by decide +kernel, by decide +kernel⟩
abbrev s_l_names : Stmt := topS 29
theorem sc_l_names : FnScope ["_law_pool", "_law_names_here", "_law_count", "_law_holders", "_law_name", "_law_number"] ["_law_pool", "_law_names_here", "_law_count"] (defScope s_l_names) := ⟨rfl, rfl, rfl, by decide +kernel, rfl, by decide +kernel, by decide +kernel⟩
abbrev s_l_same_items : Stmt := topS 30
theorem sc_l_same_items : FnScope ["_law_actual", "_law_due", "_law_key"] ["_law_actual", "_law_due"] (defScope s_l_same_items) := ⟨rfl, rfl, rfl, by decide +kernel, rfl, by decide +kernel, by decide +kernel⟩
abbrev s_l_gives_back : Stmt := topS 31
theorem sc_l_gives_back : FnScope ["_law_heap", "_law_fields", "_law_objects_here", "_law_names_here", "_law_told", "_law_k", "_law_name"] ["_law_heap", "_law_fields", "_law_objects_here", "_law_names_here"] (defScope s_l_gives_back) := ⟨rfl, rfl, rfl, by decide +kernel, rfl, by decide +kernel, by decide +kernel⟩
abbrev s_l_is_stranger : Stmt := topS 32
theorem sc_l_is_stranger : FnScope ["_law_heap", "_law_key", "_law_part", "e"] ["_law_heap", "_law_key"] (defScope s_l_is_stranger) := ⟨rfl, rfl, rfl, by decide +kernel, rfl, by decide +kernel, by decide +kernel⟩
abbrev s_law : Stmt := topS 33
theorem sc_law : FnScope ["_law_script", "_law_pool", "_law_large", "_law_size", "_law_count", "_law_fields", "_law_words_here", "_law_stranger", "_law_objects_here", "_law_names_here", "_law_item", "_law_passed", "_law_holders", "_law_listed", "_law_heap", "_law_key", "_law_told", "_law_names_told"] ["_law_script"] (defScope s_law) := ⟨rfl, rfl, rfl, by decide +kernel, rfl, by decide +kernel, by decide +kernel⟩
section
variable {P : Program} {w : World} {K : PySem.W.Frag} {mg : Str → Option Value} {base : Heap}
def spHLen (K : PySem.W.Frag) (C : Addr) : Sp := fun vs H Q _ => ∃ (φ : Addr → Prop) (x : Addr) (fs : List Str) (os : List (List (Option Nat))) (ns : List (Str × Option Nat)), vs = [.ref x] ∧ HeapAt φ K C H x fs os ns ∧ Q (.int os.length) H
def spHIn (K : PySem.W.Frag) (C : Addr) : Sp := fun vs H Q _ => ∃ (φ : Addr → Prop) (x : Addr) (v : V) (fs : List Str) (os : List (List (Option Nat))) (ns : List (Str × Option Nat)), vs = [.ref x, v] ∧ HeapAt φ K C H x fs os ns ∧ OkH fs os ns ∧ ((∃ z, v = .str z ∧ Q (.bl (decide (z ∈ ns.map Prod.fst))) H) ∨ (TyQ K H v "str" false ∧ Q (.bl false) H))
def spHObjs (K : PySem.W.Frag) (C : Addr) : Sp := fun vs H Q _ => ∃ (φ : Addr → Prop) (x : Addr) (fs : List Str) (os : List (List (Option Nat))) (ns : List (Str × Option Nat)), vs = [.ref x] ∧ HeapAt φ K C H x fs os ns ∧ os.length ≤ 1000 ∧ ∀ l as H', ObjsAt (fun a => H a = none) H' l as fs os → Fr NoA H H' → Q (.ref l) H'
def spHNms (K : PySem.W.Frag) (C : Addr) : Sp := fun vs H Q _ => ∃ (φ : Addr → Prop) (x : Addr) (fs : List Str) (os : List (List (Option Nat))) (ns : List (Str × Option Nat)), vs = [.ref x] ∧ HeapAt φ K C H x fs os ns ∧ ∀ d H', H d = none → H' d = some (.dK (nmK ns)) → Fr NoA H H' → Q (.ref d) H'

def spSameItems (K : PySem.W.Frag) : Sp := fun vs H Q _ => ∃ (a b : Addr) (ns : List (Str × Option Nat)), vs = [.ref a, .ref b] ∧ H a = some (.dK (nmK ns)) ∧ H b = some (.dK (nmK ns)) ∧ a ≠ b ∧ (ns.map Prod.fst).Nodup ∧ Q (.bl true) H
def spGives (K : PySem.W.Frag) (C : Addr) : Sp := fun vs H Q _ => ∃ (φ : Addr → Prop) (x fl l d : Addr) (as : List Addr) (fs : List Str) (os : List (List (Option Nat))) (ns : List (Str × Option Nat)), vs = [.ref x, .ref fl, .ref l, .ref d] ∧ HeapAt φ K C H x fs os ns ∧ OkH fs os ns ∧ SqL K H fl (fs.map V.str) ∧ ObjsAt (fun _ => True) H l as fs os ∧ H d = some (.dK (nmK ns)) ∧ ¬ φ d ∧ ∀ H', Fr NoA H H' → Q (.bl true) H'
def spStranger (K : PySem.W.Frag) (C : Addr) : Sp := fun vs H Q _ => ∃ (φ : Addr → Prop) (x : Addr) (v : V) (fs : List Str) (os : List (List (Option Nat))) (ns : List (Str × Option Nat)), vs = [.ref x, v] ∧ HeapAt φ K C H x fs os ns ∧ OkH fs os ns ∧ BadName K H ns v ∧ ∀ H', Fr NoA H H' → Q (.bl true) H'
theorem upd_back {H : Hp} {d : Addr} {o u : HO} (h : H d = some u) : upd (upd H d o) d u = H := by
  funext b
  unfold upd
  by_cases hb : b = d
  · rw [if_pos hb, hb, h]
  · rw [if_neg hb, if_neg hb]
theorem rowK_nm (fs : List Str) (row : List (Option Nat)) : rowK fs row = nmK (fs.zip row) := rfl
theorem g_tupOr {c : Bool} {σ : L2.St} {H : Hp} {Q : VK} {i j : Nat} {fl li : Addr} {xs : List V} (h1 : σ[i]? = some (some (.ref fl))) (h2 : σ[j]? = some (some (.ref li))) (hs : SqL K H fl xs) (q : ∀ v H', ((v = .ref li ∧ H' = H) ∨ ∃ p, v = .ref p ∧ H p = none ∧ H' = upd H p (.tup xs)) → Q v H') : if c = true then tCB (rTupQ K) (tCons (tVar i) tNil) σ H Q else tVar j σ H Q := by
  cases c with
  | true => exact iteT ⟨_, h1, g_tupL hs fun p hp => q _ _ (.inr ⟨p, rfl, hp, rfl⟩)⟩
  | false => exact iteF ⟨_, h2, q _ _ (.inl ⟨rfl, rfl⟩)⟩
theorem ObjsAt.here {φ : Addr → Prop} {H : Hp} {l : Addr} {as : List Addr} {fs : List Str} {os : List (List (Option Nat))} (h : ObjsAt φ H l as fs os) : ObjsAt (fun b => H b ≠ none) H l as fs os :=
  ⟨h.lst, h.len, h.obj, by rw [h.lst]; exact Option.some_ne_none _, fun a ha => by
    obtain ⟨j, hj, e⟩ := List.getElem_of_mem ha
    have hj2 : j < os.length := by rw [← h.len]; exact hj
    rw [h.obj j a os[j] (by rw [← e]; simp) (by simp)]
    exact Option.some_ne_none _⟩
/-- what k01 keeps: what was drawn stood in H8 already, the heap is newer than HL -/
structure Hd1 (K : PySem.W.Frag) (C : Addr) (H8 HL J : Hp) (p c x fl l d : Addr) (as : List Addr) (fs : List Str) (os : List (List (Option Nat))) (ns : List (Str × Option Nat)) : Prop where
  hp : HeapAt (fun b => HL b = none) K C J x fs os ns
  ob : ObjsAt (fun b => H8 b ≠ none) J l as fs os
  nm : J d = some (.dK (nmK ns))
  nd : H8 d ≠ none
  flq : J fl = some (.lst (fs.map V.str))
  nf : H8 fl ≠ none
theorem Hd1.fr {C : Addr} {H8 HL J J' : Hp} {p c x fl l d : Addr} {as : List Addr} {fs : List Str} {os : List (List (Option Nat))} {ns : List (Str × Option Nat)} (h : Hd1 K C H8 HL J p c x fl l d as fs os ns) (f : Fr (fun b => H8 b = none ∧ HL b ≠ none) J J') : Hd1 K C H8 HL J' p c x fl l d as fs os ns :=
  ⟨h.hp.fr f fun a pa z => z.2 pa, h.ob.fr f fun a pa z => pa z.1, f.keep _ _ h.nm fun z => h.nd z.1, h.nd, f.keep _ _ h.flq fun z => h.nf z.1, h.nf⟩
theorem Hd1.fr0 {C : Addr} {H8 HL J J' : Hp} {p c x fl l d : Addr} {as : List Addr} {fs : List Str} {os : List (List (Option Nat))} {ns : List (Str × Option Nat)} (h : Hd1 K C H8 HL J p c x fl l d as fs os ns) (f : Fr NoA J J') : Hd1 K C H8 HL J' p c x fl l d as fs os ns := h.fr (f.mono fun _ z => z.elim)
theorem Fr.some {S : Addr → Prop} {H H' : Hp} {a : Addr} (f : Fr S H H') (h : H a ≠ none) : H' a ≠ none := fun z => h (f.free a z)
theorem flat_ov (o : Option Nat) : flatB (ov o) = true := by cases o <;> rfl
theorem sd_nm {H : Hp} {p q : Addr} {ns : List (Str × Option Nat)} (nd : (ns.map Prod.fst).Nodup) (h1 : H p = some (.dK (nmK ns))) (h2 : H q = some (.dK (nmK ns))) : ∀ y ∈ nmK ns, valV (nmK ns) y.1 = some y.2 ∧ flatB y.2 = true := fun y hy => by
  unfold nmK at hy
  obtain ⟨z, hz, rfl⟩ := List.mem_map.mp hy
  exact ⟨val_nm nd (show (z.1, z.2) ∈ ns from hz), flat_ov _⟩
theorem eqv_strsL (ts : List Str) : PyData.eqv (.list (ts.map PyData.str)) (.list (ts.map PyData.str)) = true := by
  have : ∀ ts : List Str, PyData.eqvAll (ts.map PyData.str) (ts.map PyData.str) = true := fun ts => by
    induction ts with
    | nil => simp [PyData.eqvAll]
    | cons t r ih => simp [PyData.eqvAll, PyData.eqv, ih]
  simp [PyData.eqv, this]

theorem ok_l_draw {f : Addr} {fd : FuncData} (F : Fun K "_law_draw" "_law_draw" s_l_draw f fd) (B : Blt mg) : FnOk P w K mg base CX0 1 f fd ["_law_pool", "_law_limit"] spDraw := by
  refine F.ok sc_l_draw (fun vs H Q E h => ?_) (fun cdv A outer s H vs Q E hr h => ?_)
  · obtain ⟨p, c, lim, rfl, _⟩ := h
    rfl
  · obtain ⟨p, c, lim, rfl, Po, hl, hl2, k⟩ := h
    obtain ⟨ns, at0, cnt, h1, h2, a0, n0⟩ := Po.ex
    have npc : p ≠ c := fun z => by
      rw [z, h2] at h1
      cases ns with
      | nil => cases h1
      | cons x r => cases h1
    have hlW : CDivW 0 lim := wide_div hl (b := 200) (by omega) (by decide) (by decide)
    refine ⟨_, (pss_cons (ps_set (i := 2) sc_l_draw.nd rfl (.inl rfl) (pe_ix ix_list (pv 0) pe_int (fun _ _ => rfl)))
      (pss_cons (ps_set (i := 3) sc_l_draw.nd rfl (.inl rfl) (pe_ix ix_list (pv 0) pe_int (fun _ _ => rfl)))
      (pss_cons (ps_asg (pe_op op_add (pe_ix ix_list (pv 0) pe_int (fun _ _ => rfl)) pe_int) (pg_sub (pv 0) pe_int set_list))
      (C8.pss_cut (ps_if (PW.pt (pw_and (pt_cmpR op_lt (pv 3) (pe_callB c_len (by rfl) B.len (by decide +kernel) (pa_cons (pv 2) pa_nil)) (nomark _)) (pw_and1 (pt_cmpR op_ge (pe_ix ix_list (pv 2) (pv 3) (fun _ _ => rfl)) (pe_op op_pow pe_int pe_int) (nomark _)))))
        (pss_cons (ps_set (i := 4) sc_l_draw.nd rfl (.inl rfl) (pe_op op_mod (pe_callTy c_int (by rfl) B.int (by decide +kernel) (pa_cons (pe_ix ix_list (pv 2) (pv 3) (fun _ _ => rfl)) pa_nil)) (pv 1)))
      (pss_cons (ps_asg (pe_op op_fdivW (pe_ix ix_list (pv 2) (pv 3) (fun _ _ => rfl)) (pv 1)) (pg_sub (pv 2) (pv 3) set_list))
      (pss_cons (ps_if (pt_cmpR op_lt (pe_ix ix_list (pv 2) (pv 3) (fun _ _ => rfl)) (pe_op op_pow pe_int pe_int) (nomark _))
        (pss_one (ps_asg (pe_op op_add (pv 3) pe_int) (pg_sub (pv 0) pe_int set_list))) pss_nil)
      (pss_one (ps_ret (pv 4)))))) pss_nil)
      (pss_cons (ps_asg (pe_op op_add (pv 3) pe_int) (pg_sub (pv 0) pe_int set_list))
      (pss_cons (ps_set (i := 5) sc_l_draw.nd rfl (.inl rfl) pe_int)
      (C8.pss_cut (ps_if (pt_cmpR op_gt (pe_callB c_len (by rfl) B.len (by decide +kernel) (pa_cons (pv 2) pa_nil)) pe_int (nomark _))
        (pss_one (ps_set (i := 5) sc_l_draw.nd rfl (.inl rfl) (pe_ix ix_list (pv 2) (pe_op op_mod (pv 3) (pe_callB c_len (by rfl) B.len (by decide +kernel) (pa_cons (pv 2) pa_nil))) (fun _ _ => rfl)))) pss_nil)
      (pss_cons (ps_set (i := 6) sc_l_draw.nd rfl (.inl rfl) (pe_op op_mod (pe_op op_mul (pe_callTy c_int (by rfl) B.int (by decide +kernel) (pa_cons (pe_op op_add (pe_op op_add (pe_op op_mod (pe_callTy c_int (by rfl) B.int (by decide +kernel) (pa_cons (pv 5) pa_nil)) pe_int) (pe_op op_mul pe_int (pe_ix ix_list (pv 0) pe_int (fun _ _ => rfl)))) pe_int) pa_nil)) pe_int) pe_int))
      (pss_cons (ps_set (i := 6) sc_l_draw.nd rfl (.inl rfl) (pe_op op_mod (pe_callTy c_int (by rfl) B.int (by decide +kernel) (pa_cons (pe_op op_mul (pv 6) (pe_op op_add (pe_op op_fdivW (pv 6) pe_int) pe_int)) pa_nil)) pe_int))
      (pss_cons (ps_set (i := 6) sc_l_draw.nd rfl (.inl rfl) (pe_op op_mod (pe_callTy c_int (by rfl) B.int (by decide +kernel) (pa_cons (pe_op op_mul (pv 6) (pe_op op_add (pe_op op_fdivW (pv 6) pe_int) pe_int)) pa_nil)) pe_int))
      (pss_one (ps_ret (pe_op op_mod (pe_callTy c_int (by rfl) B.int (by decide +kernel) (pa_cons (pe_op op_fdivW (pv 6) pe_int) pa_nil)) (pv 1)))))))))))))), ?_⟩
    refine st0 (σ' := [some (.ref p), some (.int lim), none, none, none, none, none]) rfl ?_
    walk_at "go"
    refine g_setL h1 (ixN_of (by decide) (by show (2 : Int) < 3; decide)) ?_
    -- the heap with the count
    have q1 : (upd H p (.lst [.ref c, .int at0, .int (cnt + 1)])) p = some (.lst [.ref c, .int at0, .int (cnt + 1)]) := upd_same
    have q2 : (upd H p (.lst [.ref c, .int at0, .int (cnt + 1)])) c = some (.lst (ns.map V.int)) := by rw [upd_ne npc.symm]; exact h2
    have f1 : Fr (PS p c) H (upd H p (.lst [.ref c, .int at0, .int (cnt + 1)])) := .put (.inl rfl)
    show C8.tCut _ _ _ _ (upd H p (.lst [.ref c, .int at0, .int (cnt + 1)]))
    generalize upd H p (.lst [.ref c, .int at0, .int (cnt + 1)]) = H1 at q1 q2 f1 ⊢
    refine g_cut (fun σ' H' => σ' = [some (.ref p), some (.int lim), some (.ref c), some (.int at0), none, none, none] ∧ H' = H1) ?_ ?_
    · walk_at "go"
      refine g_dec (fun c1 => ?_) (fun c1 => ?_)
      · have hz : at0 < ((ns.map V.int).length : Int) := c1
        have hx : atI (ns.map V.int) at0 = some (.int (ns[at0.toNat]'(by rw [List.length_map] at hz; omega))) := by
          rw [atI_of a0 hz]
          simp
        generalize ns[at0.toNat]'(by rw [List.length_map] at hz; omega) = z at hx
        walk_at "go"
        refine g_ixL (lq q2) hx ?_
        walk_at "go"
        refine g_pow (by decide) ?_
        walk_at "go"
        refine g_dec (fun c2 => ?_) (fun c2 => ⟨rfl, rfl⟩)
        walk_at "go"
        refine g_ixL (lq q2) hx ?_
        walk_at "go"
        refine g_I hl ?_
        walk_at "go"
        refine g_ixL (lq q2) hx ?_
        walk_at "go"
        refine g_I (wide_div hl (b := 200) (by omega) (by decide) (by decide)) ?_
        walk_at "go"
        refine g_setL q2 (ixN_of a0 hz) ?_
        have e3 : (ns.map V.int).set at0.toNat (.int (z / lim)) = (ns.set at0.toNat (z / lim)).map V.int := by rw [List.map_set]
        rw [e3]
        have r1 : (upd H1 c (.lst ((ns.set at0.toNat (z / lim)).map V.int))) p = some (.lst [.ref c, .int at0, .int (cnt + 1)]) := by rw [upd_ne npc]; exact q1
        have r2 : (upd H1 c (.lst ((ns.set at0.toNat (z / lim)).map V.int))) c = some (.lst ((ns.set at0.toNat (z / lim)).map V.int)) := upd_same
        have f2 : Fr (PS p c) H (upd H1 c (.lst ((ns.set at0.toNat (z / lim)).map V.int))) := f1.then_put (.inr rfl)
        have hx2 : atI ((ns.set at0.toNat (z / lim)).map V.int) at0 = some (.int (z / lim)) := by
          rw [atI_of a0 (by rw [List.length_map, List.length_set]; rw [List.length_map] at hz; exact hz)]
          simp
        generalize (ns.set at0.toNat (z / lim)) = ns2 at r1 r2 f2 hx2 ⊢
        generalize upd H1 c (.lst (ns2.map V.int)) = H2 at r1 r2 f2 ⊢
        have m0 := Int.emod_nonneg z (show lim ≠ 0 by omega)
        have m1 := Int.emod_lt_of_pos z hl
        walk_at "go"
        refine g_ixL (lq r2) hx2 ?_
        walk_at "go"
        refine g_pow (by decide) ?_
        walk_at "go"
        refine g_dec (fun c3 => ?_) (fun c3 => ?_)
        · walk_at "go"
          refine g_setL r1 (ixN_of (by decide) (by show (1 : Int) < 3; decide)) ?_
          walk_at "go"
          exact k _ _ m0 m1 ⟨ns2, at0 + 1, cnt + 1, upd_same, by rw [upd_ne npc.symm]; exact r2, by omega, by omega⟩ (f2.then_put (.inl rfl))
        · walk_at "go"
          exact k _ _ m0 m1 ⟨ns2, at0, cnt + 1, r1, r2, by omega, by omega⟩ f2
      · walk_at "go"
        exact ⟨rfl, rfl⟩
    · rintro σ' H' ⟨rfl, rfl⟩
      walk_at "go"
      refine g_setL q1 (ixN_of (by decide) (by show (1 : Int) < 3; decide)) ?_
      have r1 : (upd H' p (.lst [.ref c, .int (at0 + 1), .int (cnt + 1)])) p = some (.lst [.ref c, .int (at0 + 1), .int (cnt + 1)]) := upd_same
      have r2 : (upd H' p (.lst [.ref c, .int (at0 + 1), .int (cnt + 1)])) c = some (.lst (ns.map V.int)) := by rw [upd_ne npc.symm]; exact q2
      have f2 : Fr (PS p c) H (upd H' p (.lst [.ref c, .int (at0 + 1), .int (cnt + 1)])) := f1.then_put (.inl rfl)
      show tSeq _ _ _ _ (upd H' p (.lst [.ref c, .int (at0 + 1), .int (cnt + 1)]))
      generalize upd H' p (.lst [.ref c, .int (at0 + 1), .int (cnt + 1)]) = H2 at r1 r2 f2 ⊢
      walk_at "go"
      refine g_cut (fun σ' H' => ∃ y : Int, σ' = [some (.ref p), some (.int lim), some (.ref c), some (.int at0), none, some (.int y), none] ∧ H' = H2) ?_ ?_
      · walk_at "go"
        refine g_dec (fun c1 => ?_) (fun c1 => ?_)
        · have hp : (0 : Int) < ((ns.map V.int).length : Int) := c1
          have b0 := Int.emod_nonneg at0 (show ((ns.map V.int).length : Int) ≠ 0 by omega)
          have b1 := Int.emod_lt_of_pos at0 hp
          have hx : atI (ns.map V.int) (at0 % ((ns.map V.int).length : Int)) = some (.int (ns[(at0 % ((ns.map V.int).length : Int)).toNat]'(by rw [List.length_map] at b0 b1 ⊢; omega))) := by
            rw [atI_of b0 b1]
            simp
          walk_at "go"
          refine g_I hp ?_
          refine g_ixL (lq r2) hx ?_
          walk_at "go"
          exact ⟨_, rfl, rfl⟩
        · walk_at "go"
          exact ⟨0, rfl, rfl⟩
      · rintro σ' H' ⟨y, rfl, rfl⟩
        walk_at "go"
        refine g_I (show (0 : Int) < 2147483629 by decide) ?_
        walk_at "go"
        refine g_I (.inl ⟨by decide, by decide⟩) ?_
        walk_at "go"
        refine g_I (.inr ⟨by decide, by decide⟩) ?_
        walk_at "go"
        refine g_I (show (0 : Int) < 2147483647 by decide) ?_
        walk_at "go"
        generalize hn1 : (y % 2147483629 + 7919 * (cnt + 1) + 1) * 48271 % 2147483647 = n1
        have n10 : 0 ≤ n1 := by rw [← hn1]; exact Int.emod_nonneg _ (by decide)
        have n11 : n1 < 2147483647 := by rw [← hn1]; exact Int.emod_lt_of_pos _ (by decide)
        refine g_I ⟨by decide, by decide⟩ ?_
        walk_at "go"
        refine g_I (.inl ⟨by omega, by omega⟩) ?_
        walk_at "go"
        refine g_I (show (0 : Int) < 2147483647 by decide) ?_
        walk_at "go"
        generalize hn2 : n1 * (n1 / 1009 + 69621) % 2147483647 = n2
        have n20 : 0 ≤ n2 := by rw [← hn2]; exact Int.emod_nonneg _ (by decide)
        have n21 : n2 < 2147483647 := by rw [← hn2]; exact Int.emod_lt_of_pos _ (by decide)
        refine g_I ⟨by decide, by decide⟩ ?_
        walk_at "go"
        refine g_I (.inl ⟨by omega, by omega⟩) ?_
        walk_at "go"
        refine g_I (show (0 : Int) < 2147483399 by decide) ?_
        walk_at "go"
        refine g_I ⟨by decide, by decide⟩ ?_
        walk_at "go"
        refine g_I hl ?_
        exact k _ _ (Int.emod_nonneg _ (by omega)) (Int.emod_lt_of_pos _ hl) ⟨ns, at0 + 1, cnt + 1, r1, r2, by omega, by omega⟩ f2

theorem ok_l_pick {f : Addr} {fd : FuncData} (F : Fun K "_law_pick" "_law_pick" s_l_pick f fd) (B : Blt mg) (C_l_draw : Cal P w K mg base CX0 1 "_law_draw" spDraw) : FnOk P w K mg base CX0 2 f fd ["_law_pool", "_law_row"] (spPick K) := by
  refine F.ok sc_l_pick (fun vs H Q E h => ?_) (fun cdv A outer s H vs Q E hr h => ?_)
  · obtain ⟨p, c, r, xs, rfl, _⟩ := h
    rfl
  · obtain ⟨p, c, r, xs, rfl, Po, nr, hx, hl, hl2, k⟩ := h
    refine ⟨_, (pss_one (ps_ret (pe_ix ix_list (pv 1) (pe_c C_l_draw hr (by decide) (by rfl) (pa_cons (pv 0) (pa_cons (pe_callB c_len (by rfl) B.len (by decide +kernel) (pa_cons (pv 1) pa_nil)) pa_nil))) (fun _ _ => rfl)))), ?_⟩
    refine st0 (σ' := [some (.ref p), some (.ref r)]) rfl ?_
    walk_at "go"
    refine ⟨p, c, _, rfl, Po, by omega, by omega, fun d H1 d0 d1 Po1 f1 => ?_⟩
    have hx1 : SqL K H1 r xs := SqL.fr f1 nr hx
    refine g_ixL hx1 (atI_of d0 d1) ?_
    exact k _ _ (List.getElem_mem _) Po1 f1
theorem ok_l_word {f : Addr} {fd : FuncData} (F : Fun K "_law_word" "_law_word" s_l_word f fd) (B : Blt mg) (C_l_draw : Cal P w K mg base CX0 1 "_law_draw" spDraw) : FnOk P w K mg base CX0 2 f fd ["_law_pool", "_law_taken"] (spWord K) := by
  refine F.ok sc_l_word (fun vs H Q E h => ?_) (fun cdv A outer s H vs Q E hr h => ?_)
  · obtain ⟨p, c, t, ts, rfl, _⟩ := h
    rfl
  · obtain ⟨p, c, t, ts, rfl, Po, nt, ht, hl, k⟩ := h
    refine ⟨_, (pss_cons (ps_set (i := 2) sc_l_word.nd rfl (.inr rfl) pe_str)
      (pss_cons (ps_set (i := 3) sc_l_word.nd rfl (.inl rfl) (pe_op op_add pe_int (pe_c C_l_draw hr (by decide) (by rfl) (pa_cons (pv 0) (pa_cons pe_int pa_nil)))))
      (pss_cons (ps_set (i := 4) sc_l_word.nd rfl (.inl rfl) (pe_jn pe_str (pe_lc (te := (tOp rIxS (tVar 2) (tCl _ _ (tCons (tVar 0) (tCons _ tNil))))) (own := [("_law_k", 6)]) (g := gName 6) (tt := tYes) rfl sc_l_word.nd (pi_range1 rfl B.range (pa_cons (pv 3) pa_nil)) (blkOk_by (own := [("_law_k", 6)]) (N := ["_law_pool", "_law_taken", "_law_letters", "_law_size", "_law_word_here", "_law_letter", "_law_k"]) (sc := defScope s_l_word) (by decide +kernel)) (fun _ _ _ _ _ => by exact (pg_name (i := 6) sc_l_word.nd rfl (.inl rfl))) (fun _ _ _ _ _ => by exact pts_nil) (fun _ _ _ _ _ => by exact (pe_ix ix_str (pv 2) (pe_c C_l_draw hr (by decide) (by rfl) (pa_cons (pv 0) (pa_cons pe_int pa_nil))) (fun _ _ => rfl))))))
      (pss_cons (ps_if (pt_cmpR op_notIn_seq (pv 4) (pv 1) (by rfl))
        (pss_one (ps_ret (pv 4))) pss_nil)
      (pss_cons (ps_for PassesOwn.never rfl (pi_str (pv 2)) (pg_name (i := 5) sc_l_word.nd rfl (.inl rfl))
        (pss_one (ps_if (pt_cmpR op_notIn_seq (pe_op op_mul_str (pv 5) pe_int) (pv 1) (by rfl))
        (pss_one (ps_ret (pe_op op_mul_str (pv 5) pe_int))) pss_nil)))
      (pss_one (ps_ret (pv 4)))))))), ?_⟩
    refine st0 (σ' := [some (.ref p), some (.ref t), none, none, none, none, none]) rfl ?_
    walk_at "go"
    refine ⟨p, c, 8, rfl, Po, by decide, by decide, fun d H1 d0 d1 Po1 f1 => ?_⟩
    walk_at "go"
    refine ⟨1 + d, rfl, by omega, by omega, fun D hD => ?_⟩
    have ne := Po1.ne hD
    refine lc_range (lo := 0) (n := (1 + d).toNat) (fun i H' => ∃ l : List Nat, l.length = i ∧ (∀ c ∈ l, 97 ≤ c ∧ c ≤ 122) ∧ H' D = some (.lst ((l.map one).map V.str)) ∧ PoolAt H' p c ∧ Fr (PS p c) H H') ⟨[], rfl, by simp, upd_same, Po1.new hD, f1.then_new hD⟩ ?_ ?_
    · rintro i H' hi ⟨l, hl, hc, hd, Po', f'⟩
      walk_at "go"
      refine ⟨rfl, ?_⟩
      walk_at "go"
      refine iteT ?_
      walk_at "go"
      refine ⟨p, c, 26, rfl, Po', by decide, by decide, fun r H2 r0 r1 Po2 f2 => ?_⟩
      have hd2 := f2.keep _ _ hd ne
      have hx : atI abc.cps.toList r = some (97 + r.toNat) := by
        rw [abc_list]
        have z := atI_nat (xs := (List.range 26).map (97 + ·)) (j := r.toNat) (v := 97 + r.toNat) (by rw [List.getElem?_map, List.getElem?_range (by omega)]; rfl)
        rw [show ((r.toNat : Nat) : Int) = r by omega] at z
        exact z
      refine g_ixS (by decide +kernel) hx ?_
      refine ⟨_, hd2, szl' (by simp; omega), l ++ [97 + r.toNat], by simp; omega, fun x h => ?_, ?_, Po2.put ne, (f'.trans f2).upd0 (f1.free _ hD)⟩
      · rcases List.mem_append.mp h with h | h
        · exact hc x h
        · have := List.mem_singleton.mp h
          omega
      · rw [upd_same, List.map_append, List.map_append]
        rfl
    · rintro H' ⟨l, hl, hc, hd, Po', f'⟩
      refine g_join (lq hd) ?_ ?_
      · rw [show (l.map one).map (fun x => x.length) = l.map (fun _ => 1) by simp [one, Str.length]]
        have e0 : ∀ l : List Nat, (l.map (fun _ => 1)).sum = l.length := fun l => by induction l with | nil => rfl | cons a r ih => simp only [List.map_cons, List.sum_cons, ih, List.length_cons]; omega
        rw [e0, show (Str.ofString "").length = 0 by decide +kernel]
        omega
      have hw : IsW (Txt.join (Str.ofString "") (l.map one)) := by
        have z := jn_ones l
        have zl : (Txt.join (Str.ofString "") (l.map one)).length = l.length := by
          show (Txt.join (Str.ofString "") (l.map one)).cps.size = l.length
          rw [← Array.length_toList, z]
        refine ⟨by omega, by omega, ?_⟩
        rw [z]
        exact hc
      generalize Txt.join (Str.ofString "") (l.map one) = z at hw
      have ht' : SqL K H' t (ts.map V.str) := SqL.fr f' nt ht
      walk_at "go"
      refine g_notInS (.inl ht') ?_
      walk_at "go"
      refine g_decN (fun n => ?_) (fun n => ?_)
      · walk_at "go"
        exact k z H' hw n Po' f'
      walk_at "go"
      refine ⟨abc, rfl, for_it walk_str (fun i σ' H2 => ∃ u, σ' = [some (.ref p), some (.ref t), some (.str abc), some (.int (1 + d)), some (.str z), u, none] ∧ H2 = H' ∧ ∀ j, j < i → (⟨(List.replicate 8 (97 + j)).toArray⟩ : Str) ∈ ts) ⟨none, rfl, rfl, fun j hj => absurd hj (by omega)⟩ (fun _ _ _ _ _ => True.intro) ?_ ?_⟩
      · rintro i x σ' H2 H3 hi ⟨u, rfl, rfl, hj⟩ ⟨rfl, ch, hch, rfl⟩
        have ech : ch = 97 + i := by
          have e1 : abc.cps.toList[i]? = some ch := by rw [← hch]; simp
          rw [abc_size] at hi
          rw [abc_list] at e1
          simp [List.getElem?_range hi] at e1
          exact e1.symm
        subst ech
        walk_at "go"
        refine ⟨97 + i, 8, rfl, rfl, by decide, by decide, ?_⟩
        walk_at "go"
        refine g_notInS (.inl ht') ?_
        walk_at "go"
        refine g_decN (fun n => ?_) (fun n => ?_)
        · walk_at "go"
          refine ⟨97 + i, 8, rfl, rfl, by decide, by decide, ?_⟩
          refine k _ H3 ⟨by show 1 ≤ ((List.replicate 8 (97 + i)).toArray).size; simp, by show ((List.replicate 8 (97 + i)).toArray).size ≤ 8; simp, fun c hc => ?_⟩ n Po' f'
          have e := List.eq_of_mem_replicate (show c ∈ List.replicate 8 (97 + i) from hc)
          rw [abc_size] at hi
          omega
        · walk_at "go"
          refine ⟨_, rfl, rfl, fun j hj' => ?_⟩
          by_cases e : j = i
          · subst e; exact n
          · exact hj j (by omega)
      · rintro σ' H2 ⟨u, rfl, rfl, hj⟩
        exfalso
        rw [abc_size] at hj
        have nd : ((List.range 26).map fun j => (⟨(List.replicate 8 (97 + j)).toArray⟩ : Str)).Nodup := by decide +kernel
        have le := sub_len (ts := ts) nd fun x hx => by
          obtain ⟨j, h1, rfl⟩ := List.mem_map.mp hx
          exact hj j (List.mem_range.mp h1)
        simp at le
        omega
theorem ok_l_words {f : Addr} {fd : FuncData} (F : Fun K "_law_words" "_law_words" s_l_words f fd) (B : Blt mg) (C_l_draw : Cal P w K mg base CX0 1 "_law_draw" spDraw) (C_l_word : Cal P w K mg base CX0 2 "_law_word" (spWord K)) : FnOk P w K mg base CX0 3 f fd ["_law_pool", "_law_least", "_law_most"] (spWords K) := by
  refine F.ok sc_l_words (fun vs H Q E h => ?_) (fun cdv A outer s H vs Q E hr h => ?_)
  · obtain ⟨p, c, lo, hi, rfl, _⟩ := h
    rfl
  · obtain ⟨p, c, lo, hi, rfl, Po, hl, hl2, k⟩ := h
    refine ⟨_, (pss_cons (ps_set (i := 3) sc_l_words.nd rfl (.inl rfl) (pe_lst pa_nil))
      (pss_cons (ps_for PassesOwn.never rfl (pi_range1 rfl B.range (pa_cons (pe_op op_add (pv 1) (pe_c C_l_draw hr (by decide) (by rfl) (pa_cons (pv 0) (pa_cons (pe_op op_add (pe_op op_sub (pv 2) (pv 1)) pe_int) pa_nil)))) pa_nil)) (pg_name (i := 4) sc_l_words.nd rfl (.inl rfl))
        (pss_one (ps_expr (pe_bm PySem.F.plainAttrs_list PySem.F.slot_list_append PySem.F.type_list_append mt_append (pv 3) (pa_cons (pe_c C_l_word hr (by decide) (by rfl) (pa_cons (pv 0) (pa_cons (pv 3) pa_nil))) pa_nil)))))
      (pss_one (ps_ret (pv 3))))), ?_⟩
    refine st0 (σ' := [some (.ref p), some (.int lo), some (.int hi), none, none]) rfl ?_
    walk_at "go"
    refine ⟨szl (by decide), fun l hn => ?_⟩
    walk_at "go"
    have nl := Po.ne hn
    refine ⟨p, c, _, rfl, Po.new hn, by omega, by omega, fun d H1 d0 d1 Po1 f1 => ?_⟩
    walk_at "go"
    refine ⟨(lo : Int) + d, rfl, by omega, by omega, for_range (lo := 0) (n := ((lo : Int) + d).toNat) (fun i σ' H' => ∃ (u : Option V) (ts : List Str), σ' = [some (.ref p), some (.int lo), some (.int hi), some (.ref l), u] ∧ ts.length = i ∧ (∀ z ∈ ts, IsW z) ∧ ts.Nodup ∧ H' l = some (.lst (ts.map V.str)) ∧ PoolAt H' p c ∧ Fr (PS p c) H H')
      ⟨none, [], rfl, rfl, by simp, List.nodup_nil, f1.keep _ _ upd_same nl, Po1, (Fr.new hn).trans f1⟩ ?_ ?_⟩
    · rintro i σ' H' hi ⟨u, ts, rfl, hlen, hw, nd, hl, Po', f'⟩
      walk_at "go"
      refine ⟨p, c, l, ts, rfl, Po', nl, lq hl, by omega, fun z H2 hz nz Po2 f2 => ?_⟩
      have hl2 := f2.keep _ _ hl nl
      walk_at "go"
      refine g_app hl2 (by simp; omega) ?_
      refine ⟨_, ts ++ [z], rfl, by simp; omega, fun y hy => ?_, nd_snoc nd nz, ?_, Po2.put nl, (f'.trans f2).upd0 hn⟩
      · rcases List.mem_append.mp hy with h | h
        · exact hw y h
        · rw [List.mem_singleton.mp h]; exact hz
      · rw [upd_same, List.map_append]
        rfl
    · rintro σ' H' ⟨u, ts, rfl, hlen, hw, nd, hl, Po', f'⟩
      walk_at "go"
      exact k l ts H' hw nd (by omega) (by omega) hn hl Po' f'

theorem ok_l_value {f : Addr} {fd : FuncData} (F : Fun K "_law_value" "_law_value" s_l_value f fd) (B : Blt mg) (C_l_draw : Cal P w K mg base CX0 1 "_law_draw" spDraw) : FnOk P w K mg base CX0 2 f fd ["_law_pool", "_law_count"] spValue := by
  refine F.ok sc_l_value (fun vs H Q E h => ?_) (fun cdv A outer s H vs Q E hr h => ?_)
  · obtain ⟨p, c, n, rfl, _⟩ := h
    rfl
  · obtain ⟨p, c, n, rfl, Po, hn, k⟩ := h
    refine ⟨_, (pss_cons (ps_set (i := 2) sc_l_value.nd rfl (.inl rfl) (pe_c C_l_draw hr (by decide) (by rfl) (pa_cons (pv 0) (pa_cons (pe_op op_add (pe_op op_mul pe_int (pv 1)) pe_int) pa_nil))))
      (pss_cons (ps_if (pt_cmpR op_ge (pv 2) (pe_op op_mul pe_int (pv 1)) (nomark _))
        (pss_one (ps_ret pe_non)) pss_nil)
      (pss_one (ps_ret (pe_op op_mod (pe_callTy c_int (by rfl) B.int (by decide +kernel) (pa_cons (pv 2) pa_nil)) (pv 1)))))), ?_⟩
    refine st0 (σ' := [some (.ref p), some (.int n), none]) rfl ?_
    walk_at "go"
    refine g_I (.inl ⟨by decide, by decide⟩) ?_
    walk_at "go"
    refine ⟨p, c, _, rfl, Po, by omega, by omega, fun d H1 d0 d1 Po1 f1 => ?_⟩
    walk_at "go"
    refine g_I (.inl ⟨by decide, by decide⟩) ?_
    walk_at "go"
    refine g_dec (fun c1 => ?_) (fun c1 => ?_)
    · walk_at "go"
      exact k none H1 (fun k e => by cases e) Po1 f1
    · walk_at "go"
      have hp : (0 : Int) < n := by omega
      refine g_I hp ?_
      have m0 := Int.emod_nonneg d (show (n : Int) ≠ 0 by omega)
      have m1 := Int.emod_lt_of_pos d hp
      have e : ov (some (d % (n : Int)).toNat) = .int (d % (n : Int)) := by
        show V.int (((d % (n : Int)).toNat : Nat) : Int) = _
        rw [Int.toNat_of_nonneg m0]
      rw [← e]
      exact k (some _) H1 (fun j z => by cases z; omega) Po1 f1
theorem ok_l_objects {f : Addr} {fd : FuncData} (F : Fun K "_law_objects" "_law_objects" s_l_objects f fd) (B : Blt mg) (C_l_value : Cal P w K mg base CX0 2 "_law_value" spValue) : FnOk P w K mg base CX0 3 f fd ["_law_pool", "_law_fields", "_law_count"] (spObjects K) := by
  refine F.ok sc_l_objects (fun vs H Q E h => ?_) (fun cdv A outer s H vs Q E hr h => ?_)
  · obtain ⟨p, c, f, fs, n, rfl, _⟩ := h
    rfl
  · obtain ⟨p, c, f, fs, n, rfl, Po, nf, hf, nd, hl, hn, k⟩ := h
    have hu := hu_of hr
    refine ⟨_, (pss_cons (ps_set (i := 3) sc_l_objects.nd rfl (.inl rfl) (pe_lst pa_nil))
      (pss_cons (ps_for PassesOwn.never rfl (pi_range1 rfl B.range (pa_cons (pv 2) pa_nil)) (pg_name (i := 4) sc_l_objects.nd rfl (.inl rfl))
        (pss_cons (ps_set (i := 5) sc_l_objects.nd rfl (.inl rfl) pe_dnewK)
      (pss_cons (ps_for PassesOwn.never rfl (pi_list (pv 1)) (pg_name (i := 6) sc_l_objects.nd rfl (.inl rfl))
        (pss_one (ps_dput hu (pv 5) (pv 6) (pe_c C_l_value hr (by decide) (by rfl) (pa_cons (pv 0) (pa_cons (pv 2) pa_nil))) rfl)))
      (pss_one (ps_expr (pe_bm PySem.F.plainAttrs_list PySem.F.slot_list_append PySem.F.type_list_append mt_append (pv 3) (pa_cons (pv 5) pa_nil)))))))
      (pss_one (ps_ret (pv 3))))), ?_⟩
    refine st0 (σ' := [some (.ref p), some (.ref f), some (.int n), none, none, none, none]) rfl ?_
    walk_at "go"
    refine ⟨szl (by decide), fun l hL => ?_⟩
    have nl := Po.ne hL
    walk_at "go"
    refine ⟨(n : Int), rfl, by omega, by omega, for_range (lo := 0) (n := (n : Int).toNat) (fun i σ' H' => ∃ (u1 u2 u3 : Option V) (as : List Addr) (os : List (List (Option Nat))), σ' = [some (.ref p), some (.ref f), some (.int n), some (.ref l), u1, u2, u3] ∧ os.length = i ∧
      (∀ r ∈ os, r.length = fs.length ∧ ∀ v ∈ r, OkV n v) ∧ ObjsAt (fun a => H a = none) H' l as fs os ∧ PoolAt H' p c ∧ Fr (PS p c) H H')
      ⟨none, none, none, [], [], rfl, rfl, by simp, ⟨upd_same, rfl, fun i a r h => by simp at h, hL, by simp⟩, Po.new hL, .new hL⟩ ?_ ?_⟩
    · rintro i σ' H' hi ⟨u1, u2, u3, as, os, rfl, hos, hr', O, Po', f'⟩
      walk_at "go"
      intro d hd
      have nD := Po'.ne hd
      have hd0 : H d = none := f'.free _ hd
      walk_at "go"
      have f0 : Fr (PS p c) H' (upd H' d (.dK [])) := .new hd
      refine ⟨f, rfl, ⟨_, SqL.fr f0 nf (SqL.fr f' nf hf)⟩, for_list (K := K) (a := f) (xs := fs.map V.str) (fun j σ2 H2 => ∃ (u3 : Option V) (row : List (Option Nat)), σ2 = [some (.ref p), some (.ref f), some (.int n), some (.ref l), some (.int (0 + (i : Nat))), some (.ref d), u3] ∧ row.length = j ∧
        (∀ v ∈ row, OkV n v) ∧ H2 d = some (.dK (rowK (fs.take j) row)) ∧ ObjsAt (fun a => H a = none ∧ a ≠ d) H2 l as fs os ∧ PoolAt H2 p c ∧ Fr (PS p c) H H2)
        ⟨u3, [], rfl, rfl, by simp, upd_same, (O.sep hd).fr f0 fun a ha => Po.ne ha.1, Po'.new hd, f'.trans f0⟩ (fun j σ2 H2 _ ⟨_, _, _, _, _, _, _, _, f2⟩ => SqL.fr f2 nf hf) ?_ ?_⟩
      · rintro j x σ2 H2 hj ⟨u3, row, rfl, hrow, hv, hd2, O2, Po2, f2⟩
        rw [List.getElem?_map] at hj
        cases e : fs[j]? with
        | none => rw [e] at hj; cases hj
        | some z =>
        rw [e] at hj
        cases hj
        have jl : j < fs.length := (List.getElem?_eq_some_iff.mp e).1
        walk_at "go"
        refine ⟨p, c, n, rfl, Po2, hn, fun o H3 ho Po3 f3 => ?_⟩
        walk_at "go"
        have hd3 := f3.keep _ _ hd2 nD
        have kl : (rowK (fs.take j) row).length < 10000 := by
          unfold rowK
          rw [List.length_map, List.length_zip]
          omega
        refine g_dputS hd3 kl ?_
        have nk : (Sum.inr z : Key) ∉ (rowK (fs.take j) row).map Prod.fst := by
          rw [keys_rowK _ _ (by rw [List.length_take]; omega), inr_mem]
          intro hz
          obtain ⟨m, hm, em⟩ := List.getElem_of_mem hz
          rw [List.length_take] at hm
          rw [List.getElem_take] at em
          have e2 : fs[m]? = some z := by rw [List.getElem?_eq_getElem (by omega), em]
          have := nd_ix nd e2 e
          omega
        rw [putK_new _ (valV_no nk)]
        have en : rowK (fs.take j) row ++ [((Sum.inr z : Key), ov o)] = rowK (fs.take (j + 1)) (row ++ [o]) := by
          unfold rowK
          rw [List.take_succ_eq_append_getElem jl, List.zip_append (by rw [List.length_take]; omega), List.map_append]
          have : fs[j] = z := (List.getElem?_eq_some_iff.mp e).2
          rw [this]
          rfl
        rw [en]
        refine ⟨_, row ++ [o], rfl, by simp; omega, fun v hv' => ?_, upd_same, O2.keep fun a u ha eu => ?_, Po3.put nD, (f2.trans f3).upd0 hd0⟩
        · rcases List.mem_append.mp hv' with h | h
          · exact hv v h
          · rw [List.mem_singleton.mp h]; exact ho
        · rw [upd_ne ha.2]
          exact f3.keep _ _ eu (Po.ne ha.1)
      · rintro σ2 H2 ⟨u3, row, rfl, hrow, hv, hd2, O2, Po2, f2⟩
        rw [List.length_map] at hrow hd2
        rw [List.take_length] at hd2
        have hl2 := O2.lst
        walk_at "go"
        refine g_app hl2 (by rw [List.length_map, O2.len]; omega) ?_
        refine ⟨_, _, _, as ++ [d], os ++ [row], rfl, by simp; omega, fun r hr2 => ?_, O2.more O2.nl hd0 hd2, Po2.put nl, f2.upd0 hL⟩
        rcases List.mem_append.mp hr2 with h | h
        · exact hr' r h
        · rw [List.mem_singleton.mp h]; exact ⟨hrow, hv⟩
    · rintro σ' H' ⟨u1, u2, u3, as, os, rfl, hos, hr', O, Po', f'⟩
      walk_at "go"
      exact k l as os H' ⟨by omega, hr'⟩ O Po' f'
theorem ok_l_names {f : Addr} {fd : FuncData} (F : Fun K "_law_names" "_law_names" s_l_names f fd) (B : Blt mg) (C_l_draw : Cal P w K mg base CX0 1 "_law_draw" spDraw) : FnOk P w K mg base CX0 3 f fd ["_law_pool", "_law_names_here", "_law_count"] (spNames K) := by
  refine F.ok sc_l_names (fun vs H Q E h => ?_) (fun cdv A outer s H vs Q E hr h => ?_)
  · obtain ⟨p, c, t, ts, n, rfl, _⟩ := h
    rfl
  · obtain ⟨p, c, t, ts, n, rfl, Po, nt, ht, nd, hl, hn, k⟩ := h
    have hu := hu_of hr
    refine ⟨_, (pss_cons (ps_set (i := 3) sc_l_names.nd rfl (.inl rfl) pe_dnewK)
      (pss_cons (ps_for PassesOwn.never rfl (pi_list (pv 1)) (pg_name (i := 4) sc_l_names.nd rfl (.inl rfl))
        (pss_cons (ps_set (i := 5) sc_l_names.nd rfl (.inl rfl) (pe_c C_l_draw hr (by decide) (by rfl) (pa_cons (pv 0) (pa_cons (pe_op op_add (pe_op op_mul pe_int (pv 2)) pe_int) pa_nil))))
      (pss_cons (ps_dput hu (pv 3) (pv 4) pe_non rfl)
      (pss_one (ps_if (pt_cmpR op_lt (pv 5) (pe_op op_mul pe_int (pv 2)) (nomark _))
        (pss_one (ps_dput hu (pv 3) (pv 4) (pe_op op_mod (pe_callTy c_int (by rfl) B.int (by decide +kernel) (pa_cons (pv 5) pa_nil)) (pv 2)) rfl)) pss_nil)))))
      (pss_one (ps_ret (pv 3))))), ?_⟩
    refine st0 (σ' := [some (.ref p), some (.ref t), some (.int n), none, none, none]) rfl ?_
    walk_at "go"
    intro d hd
    have nD := Po.ne hd
    walk_at "go"
    refine ⟨t, rfl, ⟨_, SqL.fr (.new hd) nt ht⟩, for_list (K := K) (a := t) (xs := ts.map V.str) (fun i σ' H' => ∃ (u1 u2 : Option V) (ns : List (Str × Option Nat)), σ' = [some (.ref p), some (.ref t), some (.int n), some (.ref d), u1, u2] ∧ ns.map Prod.fst = ts.take i ∧ (∀ x ∈ ns, OkV n x.2) ∧
      H' d = some (.dK (nmK ns)) ∧ PoolAt H' p c ∧ Fr (PS p c) H H') ⟨none, none, [], rfl, rfl, by simp, upd_same, Po.new hd, .new hd⟩ (fun i σ2 H2 _ ⟨_, _, _, _, _, _, _, _, f2⟩ => SqL.fr f2 nt ht) ?_ ?_⟩
    · rintro i x σ' H' hi ⟨u1, u2, ns, rfl, hk, ho, hd', Po', f'⟩
      rw [List.getElem?_map] at hi
      cases e : ts[i]? with
      | none => rw [e] at hi; cases hi
      | some z =>
      rw [e] at hi
      cases hi
      have il : i < ts.length := (List.getElem?_eq_some_iff.mp e).1
      have ez : ts[i] = z := (List.getElem?_eq_some_iff.mp e).2
      have nsl : ns.length = i := by
        have := congrArg List.length hk
        rw [List.length_map, List.length_take] at this
        omega
      have nk : (Sum.inr z : Key) ∉ (nmK ns).map Prod.fst := by
        rw [keys_nmK, hk, inr_mem]
        intro hz
        obtain ⟨m, hm, em⟩ := List.getElem_of_mem hz
        rw [List.length_take] at hm
        rw [List.getElem_take] at em
        have e2 : ts[m]? = some z := by rw [List.getElem?_eq_getElem (by omega), em]
        have := nd_ix nd e2 e
        omega
      have kl : (nmK ns).length < 9999 := by
        unfold nmK
        rw [List.length_map]
        omega
      have ek : ∀ o, (ns ++ [(z, o)]).map Prod.fst = ts.take (i + 1) := fun o => by
        rw [List.map_append, hk, List.take_succ_eq_append_getElem il, ez]
        rfl
      have eo : ∀ o, nmK ns ++ [((Sum.inr z : Key), ov o)] = nmK (ns ++ [(z, o)]) := fun o => by
        unfold nmK
        rw [List.map_append]
        rfl
      have oo : ∀ o, OkV n o → ∀ x ∈ ns ++ [(z, o)], OkV n x.2 := fun o h x hx => by
        rcases List.mem_append.mp hx with y | y
        · exact ho x y
        · rw [List.mem_singleton.mp y]; exact h
      walk_at "go"
      refine g_I (.inl ⟨by decide, by decide⟩) ?_
      walk_at "go"
      refine ⟨p, c, _, rfl, Po', by omega, by omega, fun r H1 r0 r1 Po1 f1 => ?_⟩
      have hd1 := f1.keep _ _ hd' nD
      walk_at "go"
      refine g_dputS hd1 (by omega) ?_
      rw [putK_new _ (valV_no nk)]
      have q2 : (upd H1 d (.dK (nmK ns ++ [((Sum.inr z : Key), V.non)]))) d = some (.dK (nmK ns ++ [((Sum.inr z : Key), V.non)])) := upd_same
      have Po2 : PoolAt (upd H1 d (.dK (nmK ns ++ [((Sum.inr z : Key), V.non)]))) p c := Po1.put nD
      have f2 : Fr (PS p c) H (upd H1 d (.dK (nmK ns ++ [((Sum.inr z : Key), V.non)]))) := (f'.trans f1).upd0 hd
      generalize upd H1 d (.dK (nmK ns ++ [((Sum.inr z : Key), V.non)])) = H2 at q2 Po2 f2 ⊢
      walk_at "go"
      refine g_I (.inl ⟨by decide, by decide⟩) ?_
      walk_at "go"
      refine g_dec (fun c1 => ?_) (fun c1 => ?_)
      · walk_at "go"
        have hp : (0 : Int) < n := by omega
        refine g_I hp ?_
        have m0 := Int.emod_nonneg r (show (n : Int) ≠ 0 by omega)
        have m1 := Int.emod_lt_of_pos r hp
        have e : ov (some (r % (n : Int)).toNat) = .int (r % (n : Int)) := by
          show V.int (((r % (n : Int)).toNat : Nat) : Int) = _
          rw [Int.toNat_of_nonneg m0]
        rw [← e]
        walk_at "go"
        refine g_dputS q2 (by rw [List.length_append]; show _ + 1 < _; omega) ?_
        rw [putK_snoc nk, eo]
        exact ⟨_, _, _, rfl, ek _, oo _ (fun j h => by cases h; omega), upd_same, Po2.put nD, f2.upd0 hd⟩
      · walk_at "go"
        refine ⟨_, _, ns ++ [(z, none)], rfl, ek _, oo _ (fun j h => by cases h), ?_, Po2, f2⟩
        rw [q2]
        exact congrArg (fun l => some (HO.dK l)) (eo none)
    · rintro σ' H' ⟨u1, u2, ns, rfl, hk, ho, hd', Po', f'⟩
      rw [List.length_map, List.take_length] at hk
      walk_at "go"
      exact k d ns H' hk ho hd hd' Po' f'

theorem ok_is_integer {f : Addr} {fd : FuncData} (F : Fun K "is_integer" "is_integer" s_is_integer f fd) (B : Blt mg) : FnOk P w K mg base CX0 1 f fd ["value"] (spIsInt K) := by
  refine F.ok sc_is_integer (fun vs H Q E h => ?_) (fun cdv A outer s H vs Q E hr h => ?_)
  · obtain ⟨v, b1, b2, rfl, _⟩ := h
    rfl
  · obtain ⟨v, b1, b2, rfl, h1, h2, q⟩ := h
    refine ⟨_, (pss_one (ps_ret (pe_and (pe_callB call_isi (by rfl) B.isinstance (by decide +kernel) (pa_cons (pv 0) (pa_cons (pe_bltn (v := .ty "int") (by rfl) B.int boot_int rfl) pa_nil))) (pe_one (pe_not (pe_callB call_isi (by rfl) B.isinstance (by decide +kernel) (pa_cons (pv 0) (pa_cons (pe_bltn (v := .ty "bool") (by rfl) B.bool boot_bool rfl) pa_nil)))))))), ?_⟩
    refine st0 (σ' := [some v]) rfl ?_
    walk_at "go"
    refine g_bool (fun e => ?_) (fun e => ?_)
    · have h2 := h2 e
      walk_at "go"
      rw [e] at q
      exact q
    · rw [e] at q
      exact q
theorem ok_is_number_below {f : Addr} {fd : FuncData} (F : Fun K "is_number_below" "is_number_below" s_is_number_below f fd) (B : Blt mg) (C_is_integer : Cal P w K mg base CX0 1 "is_integer" (spIsInt K)) : FnOk P w K mg base CX0 2 f fd ["value", "count"] (spIsNumber K) := by
  refine F.ok sc_is_number_below (fun vs H Q E h => ?_) (fun cdv A outer s H vs Q E hr h => ?_)
  · obtain ⟨v, n, rfl, _⟩ := h
    rfl
  · obtain ⟨v, n, rfl, hv, k⟩ := h
    refine ⟨_, (pss_one (ps_ret (pe_and (pe_c C_is_integer hr (by decide) (by rfl) (pa_cons (pv 0) pa_nil)) (pe_one (pe_chain op_le op_lt pe_int (pv 0) (pv 1)))))), ?_⟩
    refine st0 (σ' := [some v, some (.int n)]) rfl ?_
    rcases hv with ⟨i, rfl⟩ | ⟨b, rfl⟩ | hv
    · walk_at "go"
      refine ⟨_, true, false, rfl, .of ty_int (by decide +kernel), fun _ => .of ty_int (by decide +kernel), ?_⟩
      walk_at "go"
      refine iteT ?_
      walk_at "go"
      refine g_dec (fun c1 => ?_) (fun c1 => ?_)
      · walk_at "go"
        refine k _ ⟨fun z => ⟨i, rfl, c1, of_decide_eq_true z⟩, fun ⟨j, e, z1, z2⟩ => by cases e; exact decide_eq_true z2⟩
      · refine k _ ⟨fun z => absurd z (by simp), fun ⟨j, e, z1, z2⟩ => by cases e; exact absurd z1 c1⟩
    · walk_at "go"
      refine ⟨_, true, true, rfl, .of ty_bl (by decide +kernel), fun _ => .of ty_bl (by decide +kernel), ?_⟩
      walk_at "go"
      refine iteF ?_
      exact k _ ⟨fun z => absurd z (by simp), fun ⟨j, e, z1, z2⟩ => by cases e⟩
    · walk_at "go"
      refine ⟨_, false, false, rfl, hv, fun z => absurd z (by simp), ?_⟩
      walk_at "go"
      refine iteF ?_
      refine k _ ⟨fun z => absurd z (by simp), fun ⟨j, e, z1, z2⟩ => ?_⟩
      subst e
      obtain ⟨t, h1, h2⟩ := hv
      cases h1 with
      | base h1 =>
        cases h1 with
        | int =>
          have e : PySem.W.kitOne K (.type "int") (.type "int") = some true := kit_ty (by decide +kernel)
          rw [e] at h2
          cases h2
theorem ok_is_word {f : Addr} {fd : FuncData} (F : Fun K "is_word" "is_word" s_is_word f fd) (B : Blt mg) (T : WTxt mg) : FnOk P w K mg base CX0 1 f fd ["value"] (spIsWord K) := by
  refine F.ok sc_is_word (fun vs H Q E h => ?_) (fun cdv A outer s H vs Q E hr h => ?_)
  · obtain ⟨v, rfl, _⟩ := h
    rfl
  · obtain ⟨v, rfl, hv, k⟩ := h
    refine ⟨_, (pss_cons (ps_if (PW.pt (pw_or (pt_not (pt_val (pe_callB call_isi (by rfl) B.isinstance (by decide +kernel) (pa_cons (pv 0) (pa_cons (pe_bltn (v := .ty "str") (by rfl) B.str boot_str rfl) pa_nil))))) (pw_or1 (pt_not (pt_chain op_le op_le pe_int (pe_callB c_lenS (by rfl) B.len (by decide +kernel) (pa_cons (pv 0) pa_nil)) (pe_gv (by rfl) T.LONGEST))))))
        (pss_one (ps_ret pe_bl)) pss_nil)
      (pss_cons (ps_for PassesOwn.never rfl (pi_str (pv 0)) (pg_name (i := 1) sc_is_word.nd rfl (.inl rfl))
        (pss_one (ps_if (pt_cmpR op_notInS (pv 1) (pe_gv (by rfl) T.LETTERS) (by rfl))
        (pss_one (ps_ret pe_bl)) pss_nil)))
      (pss_one (ps_ret pe_bl)))), ?_⟩
    refine st0 (σ' := [some v, none]) rfl ?_
    rcases hv with ⟨z, rfl, hz⟩ | hv
    · have ht : TyQ K H (.str z) "str" true := .of ty_str (by decide +kernel)
      walk_at "go"
      refine iteF ?_
      have hz2 : z.length ≤ sizeLine := by rw [sizeLine_eq]; omega
      walk_at "go"
      refine g_lenS hz2 ?_
      walk_at "go"
      have bad : ¬ IsW z → Q (.bl false) H := fun n => k false ⟨fun z => absurd z (by simp), fun ⟨y, e, hy⟩ => by cases e; exact absurd hy n⟩
      refine g_dec (fun c1 => ?_) (fun c1 => ?_)
      · walk_at "go"
        refine g_decN (fun c2 => ?_) (fun c2 => ?_)
        · walk_at "go"
          exact bad fun h => by have := h.2.1; omega
        · walk_at "go"
          refine ⟨z, rfl, for_it walk_str (fun i σ' H2 => ∃ u, σ' = [some (.str z), u] ∧ H2 = H ∧ ∀ j c, j < i → z.cps[j]? = some c → 97 ≤ c ∧ c ≤ 122) ⟨none, rfl, rfl, fun j c hj => absurd hj (by omega)⟩ (fun _ _ _ _ _ => True.intro) ?_ ?_⟩
          · rintro i x σ' H2 H3 hi ⟨u, rfl, rfl, hj⟩ ⟨rfl, ch, hch, rfl⟩
            walk_at "go"
            refine ⟨ch, abc, rfl, rfl, ?_⟩
            walk_at "go"
            refine g_decN (fun c3 => ?_) (fun c3 => ?_)
            · walk_at "go"
              refine bad fun h => c3 ((abc_mem ch).mpr (h.2.2 ch ?_))
              exact List.mem_of_getElem? (i := i) (by rw [← hch]; simp)
            · walk_at "go"
              refine ⟨_, rfl, rfl, fun j c hj2 hc => ?_⟩
              by_cases e : j = i
              · subst e
                rw [hch] at hc
                cases hc
                exact (abc_mem ch).mp c3
              · exact hj j c (by omega) hc
          · rintro σ' H2 ⟨u, rfl, rfl, hj⟩
            walk_at "go"
            refine k true ⟨fun _ => ⟨z, rfl, by omega, by omega, fun c hc => ?_⟩, fun _ => rfl⟩
            obtain ⟨j, hl, e⟩ := List.getElem_of_mem hc
            refine hj j c ?_ ?_
            · simpa using hl
            · rw [← e]; simp at hl ⊢
      · walk_at "go"
        refine iteT ?_
        walk_at "go"
        exact bad fun h => by have := h.1; omega
    · walk_at "go"
      refine iteT ?_
      refine iteT ?_
      walk_at "go"
      refine k false ⟨fun z => absurd z (by simp), fun ⟨y, e, hy⟩ => ?_⟩
      subst e
      obtain ⟨t, h1, h2⟩ := hv
      cases h1 with
      | base h1 =>
        cases h1 with
        | str =>
          have e : PySem.W.kitOne K (.type "str") (.type "str") = some true := kit_ty (by decide +kernel)
          rw [e] at h2
          cases h2
theorem ok_is_word_list {f : Addr} {fd : FuncData} (F : Fun K "is_word_list" "is_word_list" s_is_word_list f fd) (B : Blt mg) (C_is_word : Cal P w K mg base CX0 1 "is_word" (spIsWord K)) : FnOk P w K mg base CX0 2 f fd ["values", "least", "most"] (spIsWordList K) := by
  refine F.ok sc_is_word_list (fun vs H Q E h => ?_) (fun cdv A outer s H vs Q E hr h => ?_)
  · obtain ⟨v, lo, hi, rfl, _⟩ := h
    rfl
  · obtain ⟨v, lo, hi, rfl, hv⟩ := h
    refine ⟨_, (pss_cons (ps_if (PW.pt (pw_or (pt_not (pt_val (pe_callB call_isiT (by rfl) B.isinstance (by decide +kernel) (pa_cons (pv 0) (pa_cons (pe_tup (pa_cons (pe_bltn (v := .ty "list") (by rfl) B.list boot_list rfl) (pa_cons (pe_bltn (v := .ty "tuple") (by rfl) B.tuple boot_tuple rfl) pa_nil))) pa_nil))))) (pw_or1 (pt_not (pt_chain op_le op_le (pv 1) (pe_callB c_len (by rfl) B.len (by decide +kernel) (pa_cons (pv 0) pa_nil)) (pv 2))))))
        (pss_one (ps_ret pe_bl)) pss_nil)
      (pss_cons (ps_set (i := 3) sc_is_word_list.nd rfl (.inl rfl) (pe_lst pa_nil))
      (pss_cons (ps_for PassesOwn.never rfl (pi_seq (pv 0) (pi_list (pv 0)) (pi_tup (pv 0))) (pg_name (i := 4) sc_is_word_list.nd rfl (.inl rfl))
        (pss_cons (ps_if (PW.pt (pw_or (pt_not (pt_val (pe_c C_is_word hr (by decide) (by rfl) (pa_cons (pv 4) pa_nil)))) (pw_or1 (pt_cmpR op_in_seq (pv 4) (pv 3) (by rfl)))))
        (pss_one (ps_ret pe_bl)) pss_nil)
      (pss_one (ps_expr (pe_bm PySem.F.plainAttrs_list PySem.F.slot_list_append PySem.F.type_list_append mt_append (pv 3) (pa_cons (pv 4) pa_nil))))))
      (pss_one (ps_ret pe_bl))))), ?_⟩
    refine st0 (σ' := [some v, some (.int lo), some (.int hi), none, none]) rfl ?_
    walk_at "go"
    refine ⟨szl (by decide), fun p hp => ?_⟩
    rcases hv with ⟨t, ht, e1, e2, k⟩ | ⟨a, xs, rfl, hq, hl, hw, k⟩
    · have ht' : TyX K (upd H p (.tup [.ty "list", .ty "tuple"])) v t := TyX.fr (S := NoA) (.new hp) (fun _ _ z => z) ht
      walk_at "go"
      refine g_isi2 (b1 := false) (b2 := false) upd_same ht' e1 e2 ?_
      walk_at "go"
      refine iteT ?_
      refine iteT ?_
      walk_at "go"
      exact k _ (.new hp)
    · have f0 : Fr NoA H (upd H p (.tup [.ty "list", .ty "tuple"])) := .new hp
      have hq' : SqL K (upd H p (.tup [.ty "list", .ty "tuple"])) a xs ∨ SqT K (upd H p (.tup [.ty "list", .ty "tuple"])) a xs := by
        rcases hq with h | h
        · exact .inl (SqL.fr f0 (fun z => z) h)
        · exact .inr (SqT.fr f0 (fun z => z) h)
      have step : ∀ (b1 b2 : Bool) (t : Value), TyX K (upd H p (.tup [.ty "list", .ty "tuple"])) (.ref a) t → PySem.W.kitOne K t (.type "list") = some b1 → PySem.W.kitOne K t (.type "tuple") = some b2 → (b1 || b2) = true → ∀ R : VK, R (.bl true) (upd H p (.tup [.ty "list", .ty "tuple"])) → rIsiT K [.ref a, .ref p] (upd H p (.tup [.ty "list", .ty "tuple"])) R := fun b1 b2 t h1 h2 h3 h4 R r => g_isi2 upd_same h1 h2 h3 (by rw [h4]; exact r)
      have step' : ∀ R : VK, R (.bl true) (upd H p (.tup [.ty "list", .ty "tuple"])) → rIsiT K [.ref a, .ref p] (upd H p (.tup [.ty "list", .ty "tuple"])) R := by
        rcases hq' with h | h
        · exact step true false _ (ty_L h) (kit_ty (by decide +kernel)) (kit_ty (by decide +kernel)) rfl
        · exact step false true _ (ty_T h) (kit_ty (by decide +kernel)) (kit_ty (by decide +kernel)) rfl
      walk_at "go"
      refine step' _ ?_
      generalize upd H p (.tup [.ty "list", .ty "tuple"]) = H1 at f0 hq' ⊢
      clear step step'
      walk_at "go"
      refine iteF ?_
      walk_at "go"
      refine ⟨a, xs, rfl, hq', ?_⟩
      walk_at "go"
      refine g_dec (fun c1 => ?_) (fun c1 => ?_)
      · walk_at "go"
        refine g_decN (fun c2 => ?_) (fun c2 => ?_)
        · walk_at "go"
          exact k false _ ⟨fun z => absurd z (by simp), fun z => absurd z.2.1 c2⟩ f0
        · walk_at "go"
          refine ⟨szl (by decide), fun l hL => ?_⟩
          walk_at "go"
          have lx : H l = none := f0.free _ hL
          refine g_forSeq rfl hq (fun i σ' H2 => ∃ u ts, σ' = [some (.ref a), some (.int lo), some (.int hi), some (.ref l), u] ∧ xs.take i = ts.map V.str ∧ (∀ z ∈ ts, IsW z) ∧ ts.Nodup ∧ H2 l = some (.lst (ts.map V.str)) ∧ Fr NoA H H2)
            ⟨none, [], rfl, rfl, by simp, List.nodup_nil, upd_same, f0.then_new hL⟩ (fun i σ' H2 _ ⟨_, _, _, _, _, _, _, f⟩ => f) ?_ ?_
          · rintro i x σ' H2 hx ⟨u, ts, rfl, e, hw', nd, hl2, f2⟩
            walk_at "go"
            refine ⟨x, rfl, hw x (List.mem_of_getElem? hx) H2 f2, fun b hb => ?_⟩
            walk_at "go"
            have no : ¬ IsWV x → Q (.bl false) H2 := fun n => k false _ ⟨fun z => absurd z (by simp), fun ⟨_, _, ts, e, h, _⟩ => absurd (by
              have hm := List.mem_of_getElem? hx
              rw [e] at hm
              obtain ⟨z, h1, rfl⟩ := List.mem_map.mp hm
              exact ⟨z, rfl, h z h1⟩) n⟩ f2
            refine g_boolN (fun eb => ?_) (fun eb => ?_)
            · refine iteT ?_
              walk_at "go"
              exact no fun h => by rw [hb.mpr h] at eb; cases eb
            obtain ⟨z, rfl, hz⟩ := hb.mp eb
            walk_at "go"
            refine g_inS (.inl (lq hl2)) ?_
            walk_at "go"
            refine g_dec (fun c3 => ?_) (fun c3 => ?_)
            · walk_at "go"
              refine k false _ ⟨fun z => absurd z (by simp), fun ⟨_, _, ys, e2, _, nd2⟩ => ?_⟩ f2
              exfalso
              subst e2
              rw [← List.map_take] at e
              have e3 : ys.take i = ts := List.map_inj_right (fun a b h => by cases h; rfl) |>.mp e
              rw [List.getElem?_map] at hx
              cases e4 : ys[i]? with
              | none => rw [e4] at hx; cases hx
              | some y =>
                rw [e4] at hx
                cases hx
                rw [← e3] at c3
                obtain ⟨m, hm, em⟩ := List.getElem_of_mem c3
                rw [List.length_take] at hm
                rw [List.getElem_take] at em
                have e5 : ys[m]? = some z := by rw [List.getElem?_eq_getElem (by omega), em]
                have := nd_ix nd2 e5 e4
                omega
            · walk_at "go"
              have tl : ts.length ≤ 1000 := by
                have := congrArg List.length e
                rw [List.length_take, List.length_map] at this
                omega
              refine g_app hl2 (by rw [List.length_map]; omega) ?_
              refine ⟨_, ts ++ [z], rfl, ?_, fun y hy => ?_, nd_snoc nd c3, by rw [upd_same, List.map_append]; rfl, f2.upd0 lx⟩
              · rw [List.map_append, ← e]
                obtain ⟨hi2, e6⟩ := List.getElem?_eq_some_iff.mp hx
                rw [List.take_succ_eq_append_getElem hi2, e6]
                rfl
              · rcases List.mem_append.mp hy with h | h
                · exact hw' y h
                · rw [List.mem_singleton.mp h]; exact hz
          · rintro σ' H2 ⟨u, ts, rfl, e, hw', nd, hl2, f2⟩
            walk_at "go"
            rw [List.take_length] at e
            exact k true _ ⟨fun _ => ⟨c1, c2, ts, e, hw', nd⟩, fun _ => rfl⟩ f2
      · walk_at "go"
        refine iteT ?_
        walk_at "go"
        exact k false _ ⟨fun z => absurd z (by simp), fun z => absurd z.1 c1⟩ f0

theorem ok_is_object {f : Addr} {fd : FuncData} (F : Fun K "is_object" "is_object" s_is_object f fd) (B : Blt mg) (C_is_number_below : Cal P w K mg base CX0 2 "is_number_below" (spIsNumber K)) : FnOk P w K mg base CX0 3 f fd ["item", "fields", "count"] (spIsObj K) := by
  refine F.ok sc_is_object (fun vs H Q E h => ?_) (fun cdv A outer s H vs Q E hr h => ?_)
  · obtain ⟨d, f, fs, row, n, rfl, _⟩ := h
    rfl
  · obtain ⟨d, f, fs, row, n, rfl, hd, hf, nd, hl, hl2, ho, q⟩ := h
    have hu := hu_of hr
    have t1 : TyQ K H (.ref d) "dict" true := .of (ty_D (.inl hd)) (by decide +kernel)
    refine ⟨_, (pss_cons (ps_if (PW.pt (pw_or (pt_not (pt_val (pe_callB call_isi (by rfl) B.isinstance (by decide +kernel) (pa_cons (pv 0) (pa_cons (pe_bltn (v := .ty "dict") (by rfl) B.dict boot_dict rfl) pa_nil))))) (pw_or1 (pt_cmpR op_ne (pe_callB c_lenD (by rfl) B.len (by decide +kernel) (pa_cons (pv 0) pa_nil)) (pe_callB c_len (by rfl) B.len (by decide +kernel) (pa_cons (pv 1) pa_nil)) (nomark _)))))
        (pss_one (ps_ret pe_bl)) pss_nil)
      (pss_cons (ps_for PassesOwn.never rfl (pi_seq (pv 1) (pi_list (pv 1)) (pi_tup (pv 1))) (pg_name (i := 3) sc_is_object.nd rfl (.inl rfl))
        (pss_cons (ps_if (pt_cmp (pc_dnotin hu (by exact (pv 3)) (by exact (pv 0))))
        (pss_one (ps_ret pe_bl)) pss_nil)
      (pss_cons (ps_set (i := 4) sc_is_object.nd rfl (.inl rfl) (pe_dget hu (by exact (pv 0)) (by exact (pv 3)) (fun _ _ => rfl)))
      (pss_one (ps_if (PW.pt (pw_and (pt_cmpR op_notN1 (pv 4) pe_non (nomark _)) (pw_and1 (pt_not (pt_val (pe_c C_is_number_below hr (by decide) (by rfl) (pa_cons (pv 4) (pa_cons (pv 2) pa_nil))))))))
        (pss_one (ps_ret pe_bl)) pss_nil)))))
      (pss_one (ps_ret pe_bl)))), ?_⟩
    refine st0 (σ' := [some (.ref d), some (.ref f), some (.int n), none, none]) rfl ?_
    walk_at "go"
    refine iteF ?_
    walk_at "go"
    refine ⟨f, _, rfl, hf, ?_⟩
    walk_at "go"
    have el : ((rowK fs row).length : Int) = (fs.map V.str).length := by
      unfold rowK
      rw [List.length_map, List.length_zip, List.length_map]
      omega
    refine g_ne rfl ?_
    walk_at "go"
    refine g_decN (fun c1 => absurd (congrArg V.int el) c1) (fun c1 => ?_)
    walk_at "go"
    refine g_forSeq rfl hf (fun i σ' H2 => ∃ u1 u2, σ' = [some (.ref d), some (.ref f), some (.int n), u1, u2] ∧ H2 = H) ⟨none, none, rfl, rfl⟩ (fun i σ' H2 _ ⟨_, _, _, e⟩ => e ▸ .refl _) ?_ ?_
    · rintro i x σ' H2 hx ⟨u1, u2, rfl, rfl⟩
      rw [List.getElem?_map] at hx
      cases e : fs[i]? with
      | none => rw [e] at hx; cases hx
      | some z =>
      rw [e] at hx
      cases hx
      have il : i < row.length := by rw [hl]; exact (List.getElem?_eq_some_iff.mp e).1
      have hv := val_row nd hl e (List.getElem?_eq_getElem il)
      have ok := ho _ (List.getElem_mem il)
      generalize row[i] = o at hv ok
      walk_at "go"
      refine g_hasS (.inl hd) ?_
      rw [hv]
      walk_at "go"
      refine iteF ?_
      walk_at "go"
      refine g_dgetS (.inl hd) hv ?_
      walk_at "go"
      refine g_decN (fun c2 => ?_) (fun c2 => ?_)
      · cases o with
        | none => exact absurd rfl c2
        | some m =>
          walk_at "go"
          refine ⟨_, _, rfl, .inl ⟨m, rfl⟩, fun b hb => ?_⟩
          have : b = true := hb.mpr ⟨m, rfl, by omega, by have := ok m rfl; omega⟩
          subst this
          walk_at "go"
          refine iteF ?_
          walk_at "go"
          exact ⟨_, _, rfl, rfl⟩
      · walk_at "go"
        refine iteF ?_
        walk_at "go"
        exact ⟨_, _, rfl, rfl⟩
    · rintro σ' H2 ⟨u1, u2, rfl, rfl⟩
      walk_at "go"
      exact q
theorem ok_check_objects {f : Addr} {fd : FuncData} (F : Fun K "check_objects" "check_objects" s_check_objects f fd) (B : Blt mg) (T : HTxt mg) (C_is_object : Cal P w K mg base CX0 3 "is_object" (spIsObj K)) : FnOk P w K mg base CX0 4 f fd ["objects", "fields"] (spCheckObjs K) := by
  refine F.ok sc_check_objects (fun vs H Q E h => ?_) (fun cdv A outer s H vs Q E hr h => ?_)
  · obtain ⟨l, f, as, fs, os, n, rfl, _⟩ := h
    rfl
  · obtain ⟨l, f, as, fs, os, n, rfl, O, ok, hn, hf, nd, hl2, k⟩ := h
    have t1 : TyQ K H (.ref l) "list" true := .of (ty_L (lq O.lst)) (by decide +kernel)
    have hL := O.lst
    refine ⟨_, (pss_cons (ps_if (PW.pt (pw_or (pt_not (pt_val (pe_callB call_isi (by rfl) B.isinstance (by decide +kernel) (pa_cons (pv 0) (pa_cons (pe_bltn (v := .ty "list") (by rfl) B.list boot_list rfl) pa_nil))))) (pw_or1 (pt_cmpR op_gt (pe_callB c_len (by rfl) B.len (by decide +kernel) (pa_cons (pv 0) pa_nil)) (pe_gv (by rfl) T.MOST_OBJECTS) (nomark _)))))
        (pss_one ps_never) pss_nil)
      (pss_one (ps_for PassesOwn.never rfl (pi_enum (by rfl) B.enumerate (pa_cons (pv 0) pa_nil)) (pg_tup rfl (pgs_cons (pg_name (i := 2) sc_check_objects.nd rfl (.inl rfl)) (pgs_cons (pg_name (i := 3) sc_check_objects.nd rfl (.inl rfl)) pgs_nil)))
        (pss_one (ps_if (pt_not (pt_val (pe_c C_is_object hr (by decide) (by rfl) (pa_cons (pv 3) (pa_cons (pv 1) (pa_cons (pe_callB c_len (by rfl) B.len (by decide +kernel) (pa_cons (pv 0) pa_nil)) pa_nil))))))
        (pss_one ps_never) pss_nil))))), ?_⟩
    refine st0 (σ' := [some (.ref l), some (.ref f), none, none]) rfl ?_
    walk_at "go"
    refine iteF ?_
    walk_at "go"
    have lo : (as.map V.ref).length = n := by rw [List.length_map, O.len, ok.len]
    refine g_dec (fun c1 => absurd c1 (by omega)) (fun c1 => ?_)
    walk_at "go"
    refine ⟨l, _, rfl, lq hL, for_it walk_enum (fun i σ' H2 => ∃ u1 u2, σ' = [some (.ref l), some (.ref f), u1, u2] ∧ Fr NoA H H2) ⟨none, none, rfl, .refl _⟩ (fun i σ' H2 _ ⟨_, _, _, f2⟩ => SqL.fr f2 (fun z => z) (lq hL)) ?_ ?_⟩
    · rintro i x σ' H2 H3 hi ⟨u1, u2, rfl, f2⟩ ⟨p, x1, x2, rfl, np, rfl, e1, e2⟩
      cases e1
      have e2 : (as.map V.ref)[i]? = some x2 := e2
      rw [List.getElem?_map] at e2
      cases e : as[i]? with
      | none => rw [e] at e2; cases e2
      | some a =>
      rw [e] at e2
      cases e2
      have il : i < os.length := by rw [← O.len]; exact (List.getElem?_eq_some_iff.mp e).1
      have f3 : Fr NoA H (upd H2 p (.tup [.int (i : Nat), .ref a])) := f2.then_new np
      have hd := f3.keep _ _ (O.obj i a os[i] e (List.getElem?_eq_getElem il)) (fun z => z)
      refine g_tup2 rfl (tq upd_same) ?_
      have hL3 := f3.keep _ _ hL (fun z => z)
      have hr := ok.row _ (List.getElem_mem il)
      walk_at "go"
      refine ⟨a, f, fs, os[i], n, by rw [lo], hd, ?_, nd, hr.1, hl2, hr.2, ?_⟩
      · rcases hf with h | h
        · exact .inl (SqL.fr f3 (fun z => z) h)
        · exact .inr (SqT.fr f3 (fun z => z) h)
      walk_at "go"
      refine iteF ?_
      walk_at "go"
      exact ⟨_, _, rfl, f3⟩
    · rintro σ' H2 ⟨u1, u2, rfl, f2⟩
      exact k H2 f2
theorem ok_check_names {f : Addr} {fd : FuncData} (F : Fun K "check_names" "check_names" s_check_names f fd) (B : Blt mg) (T : HTxt mg) (C_is_word : Cal P w K mg base CX0 1 "is_word" (spIsWord K)) (C_is_number_below : Cal P w K mg base CX0 2 "is_number_below" (spIsNumber K)) : FnOk P w K mg base CX0 4 f fd ["names", "count"] (spCheckNames K) := by
  refine F.ok sc_check_names (fun vs H Q E h => ?_) (fun cdv A outer s H vs Q E hr h => ?_)
  · obtain ⟨d, ns, n, rfl, _⟩ := h
    rfl
  · obtain ⟨d, ns, n, rfl, hd, nd, hl, ho, k⟩ := h
    have hu := hu_of hr
    have t1 : TyQ K H (.ref d) "dict" true := .of (ty_D (.inl hd)) (by decide +kernel)
    have kl : (nmK ns).length = ns.length := by unfold nmK; rw [List.length_map]
    refine ⟨_, (pss_cons (ps_if (PW.pt (pw_or (pt_not (pt_val (pe_callB call_isi (by rfl) B.isinstance (by decide +kernel) (pa_cons (pv 0) (pa_cons (pe_bltn (v := .ty "dict") (by rfl) B.dict boot_dict rfl) pa_nil))))) (pw_or1 (pt_cmpR op_gt (pe_callB c_lenD (by rfl) B.len (by decide +kernel) (pa_cons (pv 0) pa_nil)) (pe_gv (by rfl) T.MOST_NAMES) (nomark _)))))
        (pss_one ps_never) pss_nil)
      (pss_cons (ps_lock (ps_for PassesOwn.never rfl (pi_keys (pv 0)) (pg_name (i := 2) sc_check_names.nd rfl (.inl rfl))
        (pss_one (ps_if (pt_not (pt_val (pe_c C_is_word hr (by decide) (by rfl) (pa_cons (pv 2) pa_nil))))
        (pss_one ps_never) pss_nil))))
      (pss_one (ps_for PassesOwn.never rfl (pi_list (pe_callB cr_sortedS (by rfl) B.sorted (by decide +kernel) (pa_cons (pe_callTy (c_listK rfl) (by rfl) B.list (by decide +kernel) (pa_cons (pv 0) pa_nil)) pa_nil))) (pg_name (i := 2) sc_check_names.nd rfl (.inl rfl))
        (pss_cons (ps_set (i := 3) sc_check_names.nd rfl (.inl rfl) (pe_dget hu (by exact (pv 0)) (by exact (pv 2)) (fun _ _ => rfl)))
      (pss_one (ps_if (PW.pt (pw_and (pt_cmpR op_notN1 (pv 3) pe_non (nomark _)) (pw_and1 (pt_not (pt_val (pe_c C_is_number_below hr (by decide) (by rfl) (pa_cons (pv 3) (pa_cons (pv 1) pa_nil))))))))
        (pss_one ps_never) pss_nil))))))), ?_⟩
    refine st0 (σ' := [some (.ref d), some (.int n), none, none]) rfl ?_
    walk_at "go"
    refine iteF ?_
    walk_at "go"
    refine g_dec (fun c1 => absurd c1 (by omega)) (fun c1 => ?_)
    walk_at "go"
    refine g_lock hd True.intro fun od => ?_
    walk_at "go"
    have hz : (upd H d (.frz od (.dK (nmK ns)))) d = some (.frz od (.dK (nmK ns))) := upd_same
    refine ⟨d, od, rfl, .inl ⟨_, hz, for_it walk_keys (fun i σ' H2 => ∃ u1, σ' = [some (.ref d), some (.int n), u1, none] ∧ H2 = upd H d (.frz od (.dK (nmK ns)))) ⟨none, rfl, rfl⟩ (fun i σ' H2 _ ⟨_, _, e⟩ => by rw [e]; exact hz) ?_ ?_⟩⟩
    · rintro i x σ' H2 H3 hi ⟨u1, rfl, rfl⟩ ⟨rfl, key, v, e, rfl⟩
      unfold nmK at e
      rw [List.getElem?_map] at e
      cases e2 : ns[i]? with
      | none => rw [e2] at e; cases e
      | some y =>
      rw [e2] at e
      cases e
      have hy := ho y (List.mem_of_getElem? e2)
      walk_at "go"
      refine ⟨_, rfl, .inl ⟨_, rfl, by have := hy.1.2.1; omega⟩, fun b hb => ?_⟩
      have : b = true := hb.mpr ⟨_, rfl, hy.1⟩
      subst this
      walk_at "go"
      refine iteF ?_
      walk_at "go"
      exact ⟨_, rfl, rfl⟩
    · rintro σ' H2 ⟨u1, rfl, rfl⟩
      refine ⟨hz, ?_⟩
      have e : upd (upd H d (.frz od (.dK (nmK ns)))) d (.dK (nmK ns)) = H := by
        funext b
        unfold upd
        by_cases hb : b = d
        · rw [if_pos hb, hb, hd]
        · rw [if_neg hb, if_neg hb]
      rw [e]
      walk_at "go"
      refine g_listK (.inl hd) fun l hl0 => ?_
      walk_at "go"
      have ek : (nmK ns).map (fun kv => kV kv.1) = (ns.map Prod.fst).map V.str := by
        unfold nmK
        rw [List.map_map, List.map_map]
        rfl
      rw [ek]
      refine ⟨l, ns.map Prod.fst, rfl, lq upd_same, by rw [List.length_map]; omega, fun ys p perm srt hp => ?_⟩
      have f2 : Fr NoA H (upd (upd H l (.lst ((ns.map Prod.fst).map V.str))) p (.lst (ys.map V.str))) := (Fr.new hl0).then_new hp
      have hp2 : (upd (upd H l (.lst ((ns.map Prod.fst).map V.str))) p (.lst (ys.map V.str))) p = some (.lst (ys.map V.str)) := upd_same
      generalize upd (upd H l (.lst ((ns.map Prod.fst).map V.str))) p (.lst (ys.map V.str)) = H2 at f2 hp2 ⊢
      refine ⟨p, rfl, ⟨_, lq hp2⟩, for_list (K := K) (a := p) (xs := ys.map V.str) (fun i σ' H3 => ∃ u1 u2, σ' = [some (.ref d), some (.int n), u1, u2] ∧ H3 = H2) ⟨_, _, rfl, rfl⟩ (fun i σ' H3 _ ⟨_, _, _, e⟩ => by rw [e]; exact lq hp2) ?_ ?_⟩
      · rintro i x σ' H3 hx ⟨u1, u2, rfl, rfl⟩
        rw [List.getElem?_map] at hx
        cases e2 : ys[i]? with
        | none => rw [e2] at hx; cases hx
        | some z =>
        rw [e2] at hx
        cases hx
        have mz : z ∈ ns.map Prod.fst := perm.mem_iff.mp (List.mem_of_getElem? e2)
        obtain ⟨y, hy, rfl⟩ := List.mem_map.mp mz
        have hv := val_nm nd (show (y.1, y.2) ∈ ns from hy)
        have ok := (ho y hy).2
        walk_at "go"
        refine g_dgetS (.inl (f2.keep _ _ hd (fun z => z))) hv ?_
        walk_at "go"
        refine g_decN (fun c2 => ?_) (fun c2 => ?_)
        · cases eo : y.2 with
          | none => rw [eo] at c2; exact absurd rfl c2
          | some m =>
            walk_at "go"
            refine ⟨_, _, rfl, .inl ⟨m, rfl⟩, fun b hb => ?_⟩
            have : b = true := hb.mpr ⟨m, rfl, by omega, by have := ok m eo; omega⟩
            subst this
            walk_at "go"
            refine iteF ?_
            walk_at "go"
            exact ⟨_, _, rfl, rfl⟩
        · walk_at "go"
          refine iteF ?_
          walk_at "go"
          exact ⟨_, _, rfl, rfl⟩
      · rintro σ' H3 ⟨u1, u2, rfl, rfl⟩
        exact k _ f2

theorem ok_meeting_numbers {f : Addr} {fd : FuncData} (F : Fun K "meeting_numbers" "meeting_numbers" s_meeting_numbers f fd) (B : Blt mg) : FnOk P w K mg base CX0 1 f fd ["objects", "fields", "roots"] (spMeeting K) := by
  refine F.ok sc_meeting_numbers (fun vs H Q E h => ?_) (fun cdv A outer s H vs Q E hr h => ?_)
  · obtain ⟨l, f, r, as, fs, os, n, roots, rfl, _⟩ := h
    rfl
  · obtain ⟨l, f, r, as, fs, os, n, roots, rfl, O, ok, hn, hf, nd, hl2, hr1, hro, hrl, k⟩ := h
    have hu := hu_of hr
    obtain rfl : os.length = n := ok.len
    refine ⟨_, (pss_cons (ps_set (i := 3) sc_meeting_numbers.nd rfl (.inl rfl) pe_dnewK)
      (pss_cons (ps_set (i := 4) sc_meeting_numbers.nd rfl (.inl rfl) (pe_lst pa_nil))
      (pss_cons (ps_for PassesOwn.never rfl (pi_list (pv 2)) (pg_name (i := 5) sc_meeting_numbers.nd rfl (.inl rfl))
        (pss_one (ps_if (PW.pt (pw_and (pt_cmpR op_notN1 (pv 5) pe_non (nomark _)) (pw_and1 (pt_cmp (pc_dnotin hu (by exact (pv 5)) (by exact (pv 3)))))))
        (pss_cons (ps_dput hu (pv 3) (pv 5) (pe_callB c_len (by rfl) B.len (by decide +kernel) (pa_cons (pv 4) pa_nil)) rfl)
      (pss_one (ps_expr (pe_bm PySem.F.plainAttrs_list PySem.F.slot_list_append PySem.F.type_list_append mt_append (pv 4) (pa_cons (pv 5) pa_nil))))) pss_nil)))
      (pss_cons (ps_set (i := 6) sc_meeting_numbers.nd rfl (.inl rfl) pe_int)
      (pss_cons (ps_while PassesOwn.never (pt_cmpR op_lt (pv 6) (pe_callB c_len (by rfl) B.len (by decide +kernel) (pa_cons (pv 4) pa_nil)) (nomark _))
        (pss_cons (ps_for PassesOwn.never rfl (pi_seq (pv 1) (pi_list (pv 1)) (pi_tup (pv 1))) (pg_name (i := 7) sc_meeting_numbers.nd rfl (.inl rfl))
        (pss_cons (ps_set (i := 8) sc_meeting_numbers.nd rfl (.inl rfl) (pe_dget hu (by exact (pe_ix ix_list (pv 0) (pe_ix ix_list (pv 4) (pv 6) (fun _ _ => rfl)) (fun _ _ => rfl))) (by exact (pv 7)) (fun _ _ => rfl)))
      (pss_one (ps_if (PW.pt (pw_and (pt_cmpR op_notN1 (pv 8) pe_non (nomark _)) (pw_and1 (pt_cmp (pc_dnotin hu (by exact (pv 8)) (by exact (pv 3)))))))
        (pss_cons (ps_dput hu (pv 3) (pv 8) (pe_callB c_len (by rfl) B.len (by decide +kernel) (pa_cons (pv 4) pa_nil)) rfl)
      (pss_one (ps_expr (pe_bm PySem.F.plainAttrs_list PySem.F.slot_list_append PySem.F.type_list_append mt_append (pv 4) (pa_cons (pv 8) pa_nil))))) pss_nil))))
      (pss_one (ps_aug (i := 6) sc_meeting_numbers.nd rfl (.inl rfl) pe_int ip_add))))
      (pss_one (ps_ret (pv 3)))))))), ?_⟩
    refine st0 (σ' := [some (.ref l), some (.ref f), some (.ref r), none, none, none, none, none, none]) rfl ?_
    walk_at "go"
    intro d hd
    walk_at "go"
    refine ⟨szl (by decide), fun e he => ?_⟩
    have hd0 : (upd (upd H d (.dK [])) e (.lst [])) d = some (.dK (numK [])) := by rw [upd_ne (ne_of_none upd_same he), upd_same]; rfl
    have he0 : (upd (upd H d (.dK [])) e (.lst [])) e = some (.lst (([] : List Nat).map fun (j : Nat) => V.int (j : Int))) := upd_same
    have f0 : Fr NoA H (upd (upd H d (.dK [])) e (.lst [])) := (Fr.new hd).then_new he
    have ed : H e = none := (Fr.new (S := NoA) (o := .dK []) hd).free _ he
    have nde : d ≠ e := fun z => by rw [z, upd_same] at he; cases he
    generalize upd (upd H d (.dK [])) e (.lst []) = H0 at hd0 he0 f0
    walk_at "go"
    refine ⟨r, rfl, ⟨_, SqL.fr f0 (fun z => z) hr1⟩, for_list (K := K) (a := r) (xs := roots.map ov) (fun i σ' H2 => ∃ u, σ' = [some (.ref l), some (.ref f), some (.ref r), some (.ref d), some (.ref e), u, none, none, none] ∧ Fr NoA H H2 ∧ OkOrd os.length (meets [] (roots.take i)) ∧ H2 d = some (.dK (numK (meets [] (roots.take i)))) ∧ H2 e = some (.lst ((meets [] (roots.take i)).map fun (j : Nat) => V.int (j : Int))))
      ⟨none, rfl, f0, ⟨List.nodup_nil, by simp [meets]⟩, hd0, he0⟩ (fun i σ' H2 _ ⟨_, _, f2, _⟩ => SqL.fr f2 (fun z => z) hr1) ?_ ?_⟩
    · rintro i x σ' H2 hx ⟨u, rfl, f2, oko, hd2, he2⟩
      rw [List.getElem?_map] at hx
      cases e2 : roots[i]? with
      | none => rw [e2] at hx; cases hx
      | some o =>
      rw [e2] at hx
      cases hx
      obtain ⟨il, e3⟩ := List.getElem?_eq_some_iff.mp e2
      have et : meets [] (roots.take (i + 1)) = meet (meets [] (roots.take i)) o := by
        rw [List.take_succ_eq_append_getElem il, e3, meets_snoc]
      have oo := hro o (List.mem_of_getElem? e2)
      have ok2 := meet_ok oko oo
      rw [et]
      generalize meets [] (roots.take i) = ord at oko hd2 he2 ok2 ⊢
      walk_at "go"
      refine g_decN (fun c1 => ?_) (fun c1 => ?_)
      · cases o with
        | none => exact absurd rfl c1
        | some m =>
          walk_at "go"
          refine g_hasI (z := (m : Int)) (.inl hd2) ?_
          rw [num_has]
          walk_at "go"
          refine g_decN (fun c2 => ?_) (fun c2 => ?_)
          · have el := oko.len
            have em : meet ord (some m) = ord ++ [m] := if_neg c2
            walk_at "go"
            refine g_dputI (z := (m : Int)) hd2 (by rw [numK_len]; omega) ?_
            rw [show ((ord.map fun (j : Nat) => V.int (j : Int)).length : Int) = ((ord.length : Nat) : Int) by rw [List.length_map], num_put c2]
            have he3 : (upd H2 d (.dK (numK (ord ++ [m])))) e = some (.lst (ord.map fun (j : Nat) => V.int (j : Int))) := by rw [upd_ne nde.symm]; exact he2
            walk_at "go"
            refine g_app he3 (by rw [List.length_map]; omega) ?_
            refine ⟨_, rfl, (f2.upd0 hd).upd0 ed, ok2, ?_, ?_⟩
            · rw [upd_ne nde, upd_same, em]
            · rw [upd_same, em, List.map_append]; rfl
          · have em : meet ord (some m) = ord := if_pos c2
            rw [em] at ok2 ⊢
            walk_at "go"
            exact ⟨_, rfl, f2, ok2, hd2, he2⟩
      · have : o = none := (ov_non o).mp c1
        subst this
        walk_at "go"
        refine iteF ?_
        walk_at "go"
        exact ⟨_, rfl, f2, ok2, hd2, he2⟩
    · rintro σ' H2 ⟨u, rfl, f2, oko, hd2, he2⟩
      rw [List.length_map, List.take_length] at oko hd2 he2
      walk_at "go"
      have hrow : ∀ r ∈ os, ∀ v ∈ r, OkV os.length v := fun r h => (ok.row r h).2
      refine g_while (fun m σ' H3 => ∃ (u1 u2 u3 : Option V) (ord : List Nat) (i : Nat), σ' = [some (.ref l), some (.ref f), some (.ref r), some (.ref d), some (.ref e), u1, some (.int (i : Nat)), u2, u3] ∧ m = os.length - i ∧ Fr NoA H H3 ∧ BfsInv os roots ord i ∧ H3 d = some (.dK (numK ord)) ∧ H3 e = some (.lst (ord.map fun (j : Nat) => V.int (j : Int)))) (os.length - 0)
        ⟨_, _, _, _, 0, rfl, rfl, f2, bfs_start hro, hd2, he2⟩ ?_
      rintro m σ' H3 ⟨u1, u2, u3, ord, i, rfl, rfl, f3, BI, hd3, he3⟩
      walk_at "go"
      refine g_dec (fun c1 => ?_) (fun c1 => ?_)
      · rw [List.length_map] at c1
        have il : i < ord.length := by omega
        have el := BI.ok.len
        refine g_turn ?_
        have hk : ord[i]? = some ord[i] := List.getElem?_eq_getElem il
        have kl : ord[i] < os.length := BI.ok.lt _ (List.getElem_mem il)
        have BI2 := bfs_turn BI hk hrow
        have hki : atI (ord.map fun (j : Nat) => V.int (j : Int)) (i : Nat) = some (.int (ord[i] : Nat)) := atI_nat (by rw [List.getElem?_map, hk]; rfl)
        have eg : os.getD ord[i] [] = os[ord[i]] := by rw [List.getD_eq_getElem?_getD, List.getElem?_eq_getElem kl]; rfl
        have oko := BI.ok
        rw [eg] at BI2
        generalize ord[i] = kk at hk kl BI2 hki eg
        have kl2 : kk < as.length := by rw [O.len]; exact kl
        have hob := O.obj kk as[kk] os[kk] (List.getElem?_eq_getElem kl2) (List.getElem?_eq_getElem kl)
        have hrk := ok.row _ (List.getElem_mem kl)
        generalize as[kk]'kl2 = a at hob
        have hax : ∃ a, (as.map V.ref)[kk]? = some (.ref a) ∧ H a = some (.dK (rowK fs os[kk])) := ⟨as[kk], by rw [List.getElem?_map, List.getElem?_eq_getElem kl2]; rfl, O.obj kk as[kk] os[kk] (List.getElem?_eq_getElem kl2) (List.getElem?_eq_getElem kl)⟩
        obtain ⟨a, hax, hob⟩ := hax
        generalize hrw : os[kk] = row at hob hrk BI2 eg
        walk_at "go"
        -- the fields
        refine g_forSeq rfl hf (fun j σ' H4 => ∃ (u1 u2 u3 : Option V), σ' = [some (.ref l), some (.ref f), some (.ref r), some (.ref d), some (.ref e), u1, some (.int (i : Nat)), u2, u3] ∧ Fr NoA H H4 ∧ OkOrd os.length (meets ord (row.take j)) ∧ H4 d = some (.dK (numK (meets ord (row.take j)))) ∧ H4 e = some (.lst ((meets ord (row.take j)).map fun (j : Nat) => V.int (j : Int))))
          ⟨_, _, _, rfl, f3, oko, hd3, he3⟩ (fun j σ' H4 _ ⟨_, _, _, _, f4, _⟩ => f4) ?_ ?_
        · rintro j x σ' H4 hx ⟨u1, u2, u3, rfl, f4, oko4, hd4, he4⟩
          rw [List.getElem?_map] at hx
          cases e5 : fs[j]? with
          | none => rw [e5] at hx; cases hx
          | some z =>
          rw [e5] at hx
          cases hx
          have jl : j < row.length := by rw [hrk.1]; exact (List.getElem?_eq_some_iff.mp e5).1
          have hv := val_row nd hrk.1 e5 (List.getElem?_eq_getElem jl)
          have oo := hrk.2 _ (List.getElem_mem jl)
          have et : meets ord (row.take (j + 1)) = meet (meets ord (row.take j)) row[j] := by rw [List.take_succ_eq_append_getElem jl, meets_snoc]
          rw [et]
          have hki4 : atI ((meets ord (row.take j)).map fun (j : Nat) => V.int (j : Int)) (i : Nat) = some (.int (kk : Nat)) := by
            obtain ⟨q, eq⟩ := meets_pre (vs := row.take j) (ord := ord)
            rw [eq]
            exact atI_nat (by rw [List.getElem?_map, List.getElem?_append_left il, hk]; rfl)
          have ok2 := meet_ok oko4 oo
          generalize row[j] = o at hv oo ok2 ⊢
          generalize meets ord (row.take j) = od at oko4 hd4 he4 hki4 ok2 ⊢
          have hL4 := f4.keep _ _ O.lst (fun z => z)
          have ha4 := f4.keep _ _ hob (fun z => z)
          walk_at "go"
          refine g_ixL (lq he4) hki4 ?_
          refine g_ixL (lq hL4) (atI_nat hax) ?_
          walk_at "go"
          refine g_dgetS (.inl ha4) hv ?_
          walk_at "go"
          refine g_decN (fun c1 => ?_) (fun c1 => ?_)
          · cases o with
            | none => exact absurd rfl c1
            | some m =>
              walk_at "go"
              refine g_hasI (z := (m : Int)) (.inl hd4) ?_
              rw [num_has]
              walk_at "go"
              refine g_decN (fun c2 => ?_) (fun c2 => ?_)
              · have el := oko4.len
                have em : meet od (some m) = od ++ [m] := if_neg c2
                walk_at "go"
                refine g_dputI (z := (m : Int)) hd4 (by rw [numK_len]; omega) ?_
                rw [show ((od.map fun (j : Nat) => V.int (j : Int)).length : Int) = ((od.length : Nat) : Int) by rw [List.length_map], num_put c2]
                have he5 : (upd H4 d (.dK (numK (od ++ [m])))) e = some (.lst (od.map fun (j : Nat) => V.int (j : Int))) := by rw [upd_ne nde.symm]; exact he4
                walk_at "go"
                refine g_app he5 (by rw [List.length_map]; omega) ?_
                refine ⟨_, _, _, rfl, (f4.upd0 hd).upd0 ed, ok2, ?_, ?_⟩
                · rw [upd_ne nde, upd_same, em]
                · rw [upd_same, em, List.map_append]; rfl
              · have em : meet od (some m) = od := if_pos c2
                rw [em] at ok2 ⊢
                walk_at "go"
                exact ⟨_, _, _, rfl, f4, ok2, hd4, he4⟩
          · have : o = none := (ov_non o).mp c1
            subst this
            walk_at "go"
            refine iteF ?_
            walk_at "go"
            exact ⟨_, _, _, rfl, f4, ok2, hd4, he4⟩
        · rintro σ' H4 ⟨u1, u2, u3, rfl, f4, oko4, hd4, he4⟩
          rw [List.length_map, ← hrk.1, List.take_length] at oko4 hd4 he4
          refine ⟨_, rfl, ?_⟩
          walk_at "go"
          refine ⟨_, _, rfl, rfl, ?_⟩
          exact ⟨os.length - (i + 1), by omega, u1, u2, u3, _, i + 1, rfl, rfl, f4, BI2, hd4, he4⟩
      · rw [List.length_map] at c1
        have hle : ord.length ≤ i := by omega
        walk_at "go"
        have ee := bfs_end BI hle
        have cl := bfs_closed BI hle
        rw [ee] at hd3
        exact k d H3 hd cl hd3 f3
theorem ok_renumbered {f : Addr} {fd : FuncData} (F : Fun K "renumbered" "renumbered" s_renumbered f fd) : FnOk P w K mg base CX0 1 f fd ["value", "numbers"] spRenum := by
  refine F.ok sc_renumbered (fun vs H Q E h => ?_) (fun cdv A outer s H vs Q E hr h => ?_)
  · obtain ⟨o, d, ord, rfl, _⟩ := h
    rfl
  · obtain ⟨o, d, ord, rfl, hd, nd, hm, q⟩ := h
    have hu := hu_of hr
    refine ⟨_, (pss_cons (ps_if (pt_cmpR op_isN1 (pv 0) pe_non (nomark _))
        (pss_one (ps_ret pe_non)) pss_nil)
      (pss_one (ps_ret (pe_dget hu (by exact (pv 1)) (by exact (pv 0)) (fun _ _ => rfl))))), ?_⟩
    refine st0 (σ' := [some (ov o), some (.ref d)]) rfl ?_
    walk_at "go"
    cases o with
    | none =>
      refine g_dec (fun c => ?_) (fun c => absurd rfl c)
      walk_at "go"
      exact q
    | some k =>
      refine g_dec (fun c => by cases c) (fun c => ?_)
      walk_at "go"
      refine g_dgetI (z := (k : Int)) hd (num_idx nd (hm k rfl)) ?_
      exact q

theorem ok_Heap_reckoned_shape {f C : Addr} {fd : FuncData} (F : Fun K "reckoned_shape" "Heap.reckoned_shape" s_Heap_reckoned_shape f fd) (B : Blt mg) (T : HCls K C) (C_meeting_numbers : Cal P w K mg base CX0 1 "meeting_numbers" (spMeeting K)) (C_renumbered : Cal P w K mg base CX0 1 "renumbered" spRenum) : FnOk P w K mg base CX0 2 f fd ["self"] (spShape K C) := by
  refine F.ok sc_Heap_reckoned_shape (fun vs H Q E h => ?_) (fun cdv A outer s H vs Q E hr h => ?_)
  · obtain ⟨φ, x, dx, t, l, d, as, fs, os, ns, rfl, _⟩ := h
    rfl
  · obtain ⟨φ, x, dx, t, l, d, as, fs, os, ns, rfl, hx, ht, O, hd, ok, hφ, pt, k⟩ := h
    have hu := hu_of hr
    have nl := ok.nl
    have ol := ok.ol
    refine ⟨_, (pss_cons (ps_set (i := 1) sc_Heap_reckoned_shape.nd rfl (.inl rfl) (pe_callB cr_sortedS (by rfl) B.sorted (by decide +kernel) (pa_cons (pe_callTy (c_listK rfl) (by rfl) B.list (by decide +kernel) (pa_cons (pe_fld (pv 0) rfl) pa_nil)) pa_nil)))
      (pss_cons (ps_set (i := 2) sc_Heap_reckoned_shape.nd rfl (.inr rfl) (pe_c C_meeting_numbers hr (by decide) (by rfl) (pa_cons (pe_fld (pv 0) rfl) (pa_cons (pe_fld (pv 0) rfl) (pa_cons (pe_lc (te := (tDGet (tFld K (tVar 0) _) (tVar 7))) (own := [("name", 7)]) (g := gName 7) (tt := tYes) rfl sc_Heap_reckoned_shape.nd (pi_list (pv 1)) (blkOk_by (own := [("name", 7)]) (N := ["self", "ordered", "numbers", "names", "objects", "number", "item", "name", "field"]) (sc := defScope s_Heap_reckoned_shape) (by decide +kernel)) (fun _ _ _ _ _ => by exact (pg_name (i := 7) sc_Heap_reckoned_shape.nd rfl (.inl rfl))) (fun _ _ _ _ _ => by exact pts_nil) (fun _ _ _ _ _ => by exact (pe_dget hu (by exact (pe_fld (pv 0) rfl)) (by exact (pv 7)) (fun _ _ => rfl)))) pa_nil)))))
      (pss_cons (ps_set (i := 3) sc_Heap_reckoned_shape.nd rfl (.inl rfl) (pe_callTy c_tuple (by rfl) B.tuple (by decide +kernel) (pa_cons (pe_lc (te := (tTup (tCons (tVar 7) (tCons (tCl _ _ (tCons (tDGet (tFld K (tVar 0) _) (tVar 7)) (tCons (tVar 2) tNil))) tNil)))) (own := [("name", 7)]) (g := gName 7) (tt := tYes) rfl sc_Heap_reckoned_shape.nd (pi_list (pv 1)) (blkOk_by (own := [("name", 7)]) (N := ["self", "ordered", "numbers", "names", "objects", "number", "item", "name", "field"]) (sc := defScope s_Heap_reckoned_shape) (by decide +kernel)) (fun _ _ _ _ _ => by exact (pg_name (i := 7) sc_Heap_reckoned_shape.nd rfl (.inl rfl))) (fun _ _ _ _ _ => by exact pts_nil) (fun _ _ _ _ _ => by exact (pe_tup (pa_cons (pv 7) (pa_cons (pe_c C_renumbered hr (by decide) (by rfl) (pa_cons (pe_dget hu (by exact (pe_fld (pv 0) rfl)) (by exact (pv 7)) (fun _ _ => rfl)) (pa_cons (pv 2) pa_nil))) pa_nil))))) pa_nil)))
      (pss_cons (ps_set (i := 4) sc_Heap_reckoned_shape.nd rfl (.inl rfl) (pe_lst pa_nil))
      (pss_cons (ps_lock (ps_for PassesOwn.never rfl (pi_keys (pv 2)) (pg_name (i := 5) sc_Heap_reckoned_shape.nd rfl (.inl rfl))
        (pss_cons (ps_set (i := 6) sc_Heap_reckoned_shape.nd rfl (.inr rfl) (pe_ix ix_list (pe_fld (pv 0) rfl) (pv 5) (fun _ _ => rfl)))
      (pss_one (ps_expr (pe_bm PySem.F.plainAttrs_list PySem.F.slot_list_append PySem.F.type_list_append mt_append (pv 4) (pa_cons (pe_callTy c_tuple (by rfl) B.tuple (by decide +kernel) (pa_cons (pe_lc (te := (tCl _ _ (tCons (tDGet (tVar 6) (tVar 8)) (tCons (tVar 2) tNil)))) (own := [("field", 8)]) (g := gName 8) (tt := tYes) rfl sc_Heap_reckoned_shape.nd (pi_tup (pe_fld (pv 0) rfl)) (blkOk_by (own := [("field", 8)]) (N := ["self", "ordered", "numbers", "names", "objects", "number", "item", "name", "field"]) (sc := defScope s_Heap_reckoned_shape) (by decide +kernel)) (fun _ _ _ _ _ => by exact (pg_name (i := 8) sc_Heap_reckoned_shape.nd rfl (.inl rfl))) (fun _ _ _ _ _ => by exact pts_nil) (fun _ _ _ _ _ => by exact (pe_c C_renumbered hr (by decide) (by rfl) (pa_cons (pe_dget hu (by exact (pv 6)) (by exact (pv 8)) (fun _ _ => rfl)) (pa_cons (pv 2) pa_nil))))) pa_nil)) pa_nil)))))))
      (pss_one (ps_ret (pe_tup (pa_cons (pe_fld (pv 0) rfl) (pa_cons (pv 3) (pa_cons (pe_callTy c_tuple (by rfl) B.tuple (by decide +kernel) (pa_cons (pv 4) pa_nil)) pa_nil))))))))))), ?_⟩
    refine st0 (σ' := [some (.ref x), none, none, none, none, none, none, none, none]) rfl ?_
    have ek : (nmK ns).map (fun kv => kV kv.1) = (ns.map Prod.fst).map V.str := by
      unfold nmK
      rw [List.map_map, List.map_map]
      rfl
    walk_at "go"
    refine g_fldv hx T.cl T.n3 (lk_holders3 _ _ _) ?_
    walk_at "go"
    refine g_listK (.inl hd) fun p1 hp1 => ?_
    walk_at "go"
    rw [ek]
    refine ⟨p1, ns.map Prod.fst, rfl, lq upd_same, by rw [List.length_map]; omega, fun ys p2 perm srt hp2 => ?_⟩
    have f1 : Fr NoA H (upd (upd H p1 (.lst ((ns.map Prod.fst).map V.str))) p2 (.lst (ys.map V.str))) := (Fr.new hp1).then_new hp2
    have hy1 : (upd (upd H p1 (.lst ((ns.map Prod.fst).map V.str))) p2 (.lst (ys.map V.str))) p2 = some (.lst (ys.map V.str)) := upd_same
    generalize upd (upd H p1 (.lst ((ns.map Prod.fst).map V.str))) p2 (.lst (ys.map V.str)) = H1 at f1 hy1 ⊢
    have ysl : ys.length = ns.length := by rw [perm.length_eq, List.length_map]
    have ym : ∀ (i : Nat) (z : Str), ys[i]? = some z → z ∈ ns.map Prod.fst := fun i z h => perm.mem_iff.mp (List.mem_of_getElem? h)
    have no : ∀ a : Addr, ¬ NoA a := fun a z => z
    walk_at "go"
    refine g_fldv (f1.keep _ _ hx (no _)) T.cl T.n2 (lk_held3 _ _ _) ?_
    walk_at "go"
    refine g_fldv (f1.keep _ _ hx (no _)) T.cl T.n1 (lk_fields3 _ _ _) ?_
    walk_at "go"
    refine ⟨p2, rfl, ⟨_, lq hy1⟩, fun D hD => ?_⟩
    have hDH : H D = none := f1.free _ hD
    -- the roots
    refine lc_list (K := K) (a := p2) (xs := ys.map V.str) (fun i H2 => Fr NoA H1 H2 ∧ H2 D = some (.lst ((ys.take i).map fun z => ov (look ns z)))) ⟨.new hD, upd_same⟩ (fun i H2 _ ⟨f2, _⟩ => SqL.fr f2 (no _) (lq hy1)) ?_ ?_
    · rintro i y H2 hi ⟨f2, hD2⟩
      rw [List.getElem?_map] at hi
      cases e : ys[i]? with
      | none => rw [e] at hi; cases hi
      | some z =>
      rw [e] at hi
      cases hi
      obtain ⟨il, e3⟩ := List.getElem?_eq_some_iff.mp e
      walk_at "go"
      refine ⟨rfl, ?_⟩
      walk_at "go"
      refine iteT ?_
      walk_at "go"
      refine g_fldv ((f1.trans f2).keep _ _ hx (no _)) T.cl T.n3 (lk_holders3 _ _ _) ?_
      walk_at "go"
      refine g_dgetS (.inl ((f1.trans f2).keep _ _ hd (no _))) (val_look ok.nn (ym i z e)) ?_
      refine ⟨_, hD2, szl' (by rw [List.length_map, List.length_take]; omega), f2.upd0 hD, ?_⟩
      rw [upd_same, List.take_succ_eq_append_getElem il, e3, List.map_append]
      rfl
    rintro H2 ⟨f12, hD2⟩
    rw [List.length_map, List.take_length] at hD2
    have f2 := f1.trans f12
    walk_at "go"
    have hro : ∀ o ∈ ys.map (look ns), OkV os.length o := fun o h => by
      obtain ⟨z, _, rfl⟩ := List.mem_map.mp h
      exact look_ok fun x hx => (ok.nw x hx).2
    refine ⟨l, t, D, as, fs, os, os.length, ys.map (look ns), rfl, O.fr f2 (fun _ _ z => z), ok.ob, ok.ol, .inr (tq (f2.keep _ _ ht (no _))), ok.fn, by have := ok.f2; omega, lq (by rw [hD2, List.map_map]; rfl), hro, by rw [List.length_map]; omega, fun q H3 hq cl hq3 f23 => ?_⟩
    have f3 := f2.trans f23
    have f13 := f12.trans f23
    have ordl := cl.ok.len
    have qH : H q = none := f2.free _ hq
    have hnu : ∃ ord, order os (ys.map (look ns)) = ord := ⟨_, rfl⟩
    obtain ⟨ord, eord⟩ := hnu
    have k := k
    unfold shapeD at k
    have kk : ∀ v H', Rp φ K H' v (.tuple [.tuple (fs.map .str), .tuple (ys.map fun z => .tuple [.str z, dov ((look ns z).map ord.idxOf)]), .tuple (ord.map fun k => .tuple ((os.getD k []).map fun o => dov (o.map ord.idxOf)))]) → Fr NoA H H' → Q v H' := fun v H' h => by
      rw [← eord] at h
      exact k v ys H' perm srt h
    rw [eord] at cl hq3 ordl
    clear k
    walk_at "go"
    -- names
    refine ⟨p2, rfl, ⟨_, SqL.fr f13 (no _) (lq hy1)⟩, fun D2 hD2' => ?_⟩
    have hD2H : H D2 = none := f3.free _ hD2'
    have nqD : q ≠ D2 := ne_of_none hq3 hD2'
    refine lc_list (K := K) (a := p2) (xs := ys.map V.str) (fun i H4 => ∃ vs, Fr NoA H3 H4 ∧ H4 D2 = some (.lst vs) ∧ RpAll (fun a => (φ a ∧ a ≠ q) ∧ a ≠ D2) K H4 vs ((ys.take i).map fun z => .tuple [.str z, dov ((look ns z).map ord.idxOf)])) ⟨[], .new hD2', upd_same, .nil⟩ (fun i H4 _ ⟨_, f4, _⟩ => SqL.fr (f13.trans f4) (no _) (lq hy1)) ?_ ?_
    · rintro i y H4 hi ⟨vs, f4, hD4, R4⟩
      rw [List.getElem?_map] at hi
      cases e : ys[i]? with
      | none => rw [e] at hi; cases hi
      | some z =>
      rw [e] at hi
      cases hi
      obtain ⟨il, e3⟩ := List.getElem?_eq_some_iff.mp e
      have f4' := f3.trans f4
      walk_at "go"
      refine ⟨rfl, ?_⟩
      walk_at "go"
      refine iteT ?_
      walk_at "go"
      refine g_fldv (f4'.keep _ _ hx (no _)) T.cl T.n3 (lk_holders3 _ _ _) ?_
      walk_at "go"
      refine g_dgetS (.inl (f4'.keep _ _ hd (no _))) (val_look ok.nn (ym i z e)) ?_
      walk_at "go"
      refine ⟨look ns z, q, ord, rfl, .inl (f4.keep _ _ hq3 (no _)), cl.ok.nd, fun m em => cl.rt m (List.mem_map.mpr ⟨z, List.mem_of_getElem? e, em⟩), ?_⟩
      walk_at "go"
      refine ⟨szl (by show 2 ≤ 10000; decide), fun p hp => ?_⟩
      have hpH : H p = none := f4'.free _ hp
      have npD : p ≠ D2 := (ne_of_none hD4 hp).symm
      have npq : p ≠ q := (ne_of_none (f4.keep _ _ hq3 (no _)) hp).symm
      have hl4 := R4.len
      refine ⟨vs, by rw [upd_ne npD.symm]; exact hD4, szl' (by rw [hl4, List.length_map, List.length_take]; omega), vs ++ [.ref p], (f4.then_new hp).upd0 hD2', upd_same, ?_⟩
      rw [List.take_succ_eq_append_getElem il, e3, List.map_append]
      have fD : Fr (fun b => b = D2) H4 (upd (upd H4 p (.tup [.str z, ov ((look ns z).map ord.idxOf)])) D2 (.lst (vs ++ [.ref p]))) := (Fr.new hp).then_put rfl
      refine (R4.fr fD fun a ha => ha.2).snoc (.tup (xs := [.str z, ov ((look ns z).map ord.idxOf)]) ?_ ⟨⟨hφ p hpH, npq⟩, npD⟩ (.cons (.str z) (.cons (.ov _) .nil)))
      rw [upd_ne npD, upd_same]
    rintro H4 ⟨nvs, f34, hD4, R4⟩
    rw [List.length_map, List.take_length] at R4
    have f4 := f3.trans f34
    walk_at "go"
    refine g_tupL (lq hD4) fun nt hnt => ?_
    have R5 : Rp (fun a => φ a ∧ a ≠ q) K (upd H4 nt (.tup nvs)) (.ref nt) (.tuple (ys.map fun z => .tuple [.str z, dov ((look ns z).map ord.idxOf)])) :=
      .tup upd_same ⟨hφ nt (f4.free _ hnt), (ne_of_none (f34.keep _ _ hq3 (no _)) hnt).symm⟩ ((R4.imp fun a ha => ha.1).fr (S := NoA) (.new hnt) fun _ _ z => z)
    have f5 : Fr NoA H (upd H4 nt (.tup nvs)) := f4.then_new hnt
    have f35 : Fr NoA H3 (upd H4 nt (.tup nvs)) := f34.then_new hnt
    generalize upd H4 nt (.tup nvs) = H5 at R5 f5 f35 ⊢
    walk_at "go"
    refine ⟨szl (by decide), fun ob hob => ?_⟩
    have hobH : H ob = none := f5.free _ hob
    have hq5 := f35.keep _ _ hq3 (no _)
    have nqo : q ≠ ob := ne_of_none hq5 hob
    have R6 := R5.sep hob
    walk_at "go"
    have hq6 : (upd H5 ob (.lst [])) q = some (.dK (numK ord)) := by rw [upd_ne nqo]; exact hq5
    refine g_lock hq6 True.intro fun odd => ?_
    walk_at "go"
    have hz : (upd (upd H5 ob (.lst [])) q (.frz odd (.dK (numK ord)))) q = some (.frz odd (.dK (numK ord))) := upd_same
    refine ⟨q, odd, rfl, .inl ⟨_, hz, for_it walk_keys (fun i σ' H7 => ∃ u1 u2 vs, σ' = [some (.ref x), some (.ref p2), some (.ref q), some (.ref nt), some (.ref ob), u1, u2, none, none] ∧ H7 q = some (.frz odd (.dK (numK ord))) ∧ H7 ob = some (.lst vs) ∧ Fr (fun b => b = q) H5 H7 ∧ Fr (fun b => b = q ∨ b = ob) (upd H5 ob (.lst [])) H7 ∧ RpAll (fun a => (φ a ∧ a ≠ q) ∧ a ≠ ob) K H7 vs ((ord.take i).map fun k => .tuple ((os.getD k []).map fun o => dov (o.map ord.idxOf))))
      ⟨none, none, [], rfl, hz, by rw [upd_ne nqo.symm, upd_same], (Fr.new hob).then_put rfl, .put (.inl rfl), .nil⟩ (fun i σ' H7 _ ⟨_, _, _, _, h, _⟩ => h) ?_ ?_⟩⟩
    · rintro i y σ' H7 H8 hi ⟨u1, u2, vs, rfl, hq7, ho7, f57, f67, R7⟩ ⟨rfl, key, v, ekv, rfl⟩
      have hil : i < ord.length := by rw [numK_len] at hi; exact hi
      obtain ⟨kk', ekk⟩ : ∃ m, ord[i]? = some m := ⟨_, List.getElem?_eq_getElem hil⟩
      have ekey : key = Sum.inl (kk' : Int) := by
        have h1 : ((numK ord).map Prod.fst)[i]? = some key := by rw [List.getElem?_map, ekv]; rfl
        rw [keys_numK, List.getElem?_map, ekk] at h1
        exact (Option.some.inj h1).symm
      subst ekey
      have kl : kk' < os.length := cl.ok.lt _ (List.mem_of_getElem? ekk)
      have kl2 : kk' < as.length := by rw [O.len]; exact kl
      have nxq : ∀ (b : Addr) (o : HO), H b = some o → b ≠ q := fun b o hb => ne_of_none hb qH
      have kp7 : ∀ (b : Addr) (o : HO), H b = some o → H8 b = some o := fun b o hb => f57.keep _ _ (f5.keep _ _ hb (no _)) (nxq b o hb)
      have hrk := ok.ob.row _ (List.getElem_mem kl)
      have eg : os.getD kk' [] = os[kk'] := by rw [List.getD_eq_getElem?_getD, List.getElem?_eq_getElem kl]; rfl
      walk_at "go"
      refine g_fldv (kp7 _ _ hx) T.cl T.n2 (lk_held3 _ _ _) ?_
      walk_at "go"
      refine g_ixL (lq (kp7 _ _ O.lst)) (show atI (as.map V.ref) (kk' : Nat) = some (.ref (as[kk']'kl2)) from atI_nat (by rw [List.getElem?_map, List.getElem?_eq_getElem kl2]; rfl)) ?_
      have hrw := O.obj kk' (as[kk']'kl2) os[kk'] (List.getElem?_eq_getElem kl2) (List.getElem?_eq_getElem kl)
      have clk := cl.cl kk' (List.mem_of_getElem? ekk)
      rw [eg] at clk
      generalize as[kk']'kl2 = ra at hrw ⊢
      generalize os[kk'] = row at hrw hrk clk eg
      walk_at "go"
      refine g_fldv (kp7 _ _ hx) T.cl T.n1 (lk_fields3 _ _ _) ?_
      refine ⟨t, rfl, ⟨_, tq (kp7 _ _ ht)⟩, fun D3 hD3 => ?_⟩
      have nD3q : D3 ≠ q := (ne_of_none hq7 hD3).symm
      have nD3o : D3 ≠ ob := (ne_of_none ho7 hD3).symm
      refine lc_tup (K := K) (a := t) (xs := fs.map V.str) (fun j H9 => Fr NoA H8 H9 ∧ H9 D3 = some (.lst ((row.take j).map fun o => ov (o.map ord.idxOf)))) ⟨.new hD3, upd_same⟩ (fun j H9 _ ⟨f9, _⟩ => SqT.fr f9 (no _) (tq (kp7 _ _ ht))) ?_ ?_
      · rintro j y H9 hj ⟨f9, h9⟩
        rw [List.getElem?_map] at hj
        cases e : fs[j]? with
        | none => rw [e] at hj; cases hj
        | some z =>
        rw [e] at hj
        cases hj
        have jl : j < row.length := by rw [hrk.1]; exact (List.getElem?_eq_some_iff.mp e).1
        have hv := val_row ok.fn hrk.1 e (List.getElem?_eq_getElem jl)
        have f2' := ok.f2
        walk_at "go"
        refine ⟨rfl, ?_⟩
        walk_at "go"
        refine iteT ?_
        walk_at "go"
        refine g_dgetS (.inl (f9.keep _ _ (kp7 _ _ hrw) (no _))) hv ?_
        walk_at "go"
        refine ⟨row[j], q, ord, rfl, .inr ⟨odd, f9.keep _ _ hq7 (no _)⟩, cl.ok.nd, fun m em => clk m (by rw [← em]; exact List.getElem_mem jl), ?_⟩
        refine ⟨_, h9, szl' (by rw [List.length_map, List.length_take]; omega), f9.upd0 hD3, ?_⟩
        rw [upd_same, List.take_succ_eq_append_getElem jl, List.map_append]
        rfl
      rintro H9 ⟨f9, h9⟩
      rw [List.length_map, ← hrk.1, List.take_length] at h9
      walk_at "go"
      refine g_tupL (lq h9) fun tt htt => ?_
      have ho9 := f9.keep _ _ ho7 (no _)
      have hq9 := f9.keep _ _ hq7 (no _)
      have nto : tt ≠ ob := (ne_of_none ho9 htt).symm
      have ntq : tt ≠ q := (ne_of_none hq9 htt).symm
      have httH : H tt = none := f5.free _ (f57.free _ (f9.free _ htt))
      walk_at "go"
      have ho10 : (upd H9 tt (.tup (row.map fun o => ov (o.map ord.idxOf)))) ob = some (.lst vs) := by rw [upd_ne nto.symm]; exact ho9
      have hl7 := R7.len
      refine g_app ho10 (by rw [hl7, List.length_map, List.length_take]; omega) ?_
      have fA : Fr (fun b => b = q) H5 (upd (upd H9 tt (.tup (row.map fun o => ov (o.map ord.idxOf)))) ob (.lst (vs ++ [.ref tt]))) := ((f57.trans (f9.mono fun _ z => z.elim)).then_new htt).upd0 hob
      have fB : Fr (fun b => b = ob) H8 (upd (upd H9 tt (.tup (row.map fun o => ov (o.map ord.idxOf)))) ob (.lst (vs ++ [.ref tt]))) := ((f9.mono fun _ z => z.elim).then_new htt).then_put rfl
      refine ⟨_, _, vs ++ [.ref tt], rfl, by rw [upd_ne nqo, upd_ne ntq.symm]; exact hq9, upd_same, fA, f67.trans (fB.mono fun b z => .inr z), ?_⟩
      have hil' : ord[i] = kk' := (List.getElem?_eq_some_iff.mp ekk).2
      rw [List.take_succ_eq_append_getElem hil, hil', List.map_append]
      refine (R7.fr fB fun a ha => ha.2).snoc ?_
      show Rp _ K _ (.ref tt) (.tuple ((os.getD kk' []).map fun o => dov (o.map ord.idxOf)))
      rw [eg]
      refine .tup (xs := row.map fun o => ov (o.map ord.idxOf)) (by rw [upd_ne nto, upd_same]) ⟨⟨hφ tt httH, ntq⟩, nto⟩ ?_
      exact RpAll.ovs (fun o => o.map ord.idxOf) row
    · rintro σ' H7 ⟨u1, u2, vs, rfl, hq7, ho7, f57, f67, R7⟩
      refine ⟨hq7, ?_⟩
      rw [numK_len, List.take_length] at R7
      -- the lock is off
      have f58 : Fr NoA H5 (upd H7 q (.dK (numK ord))) := ⟨fun b o hb _ => by
        by_cases e : b = q
        · rw [e, upd_same, ← hq5, ← e]; exact hb
        · rw [upd_ne e]; exact f57.keep _ _ hb e, fun b hb => by
        by_cases e : b = q
        · rw [e, upd_same] at hb; cases hb
        · rw [upd_ne e] at hb; exact f57.free _ hb⟩
      have R8 : RpAll φ K (upd H7 q (.dK (numK ord))) vs (ord.map fun k => .tuple ((os.getD k []).map fun o => dov (o.map ord.idxOf))) :=
        (R7.fr (S := fun b => b = q) (.put rfl) fun a ha => ha.1.2).imp fun a ha => ha.1.1
      have ho8 : (upd H7 q (.dK (numK ord))) ob = some (.lst vs) := by rw [upd_ne nqo.symm]; exact ho7
      have f8 := f5.trans f58
      have R9 := (R5.fr f58 fun _ _ z => z).imp fun a ha => ha.1
      generalize upd H7 q (.dK (numK ord)) = H8 at f58 R8 ho8 f8 R9 ⊢
      walk_at "go"
      refine g_fldv (f8.keep _ _ hx (no _)) T.cl T.n1 (lk_fields3 _ _ _) ?_
      walk_at "go"
      refine g_tupL (lq ho8) fun t8 ht8 => ?_
      walk_at "go"
      refine ⟨szl (by show 3 ≤ 10000; decide), fun t9 ht9 => ?_⟩
      have f9 : Fr NoA H8 (upd (upd H8 t8 (.tup vs)) t9 (.tup [.ref t, .ref nt, .ref t8])) := (Fr.new ht8).then_new ht9
      have ht8' : H t8 = none := f8.free _ ht8
      have ht9' : H t9 = none := (f8.then_new (o := .tup vs) ht8).free _ ht9
      refine kk (.ref t9) _ (.tup upd_same (hφ t9 ht9') (.cons (.tup (xs := fs.map V.str) ?_ pt (RpAll.strs fs)) (.cons (R9.fr f9 fun _ _ z => z) (.cons (.tup (xs := vs) ?_ (hφ t8 ht8') (R8.fr f9 fun _ _ z => z)) .nil)))) (f8.trans f9)
      · exact f9.keep _ _ (f8.keep _ _ ht (no _)) (no _)
      · rw [upd_ne (upd_fresh_ne ht9), upd_same]
theorem ok_Heap_init {f C : Addr} {fd : FuncData} (F : Fun K "__init__" "Heap.__init__" s_Heap_init f fd) (B : Blt mg) (T : HCls K C) (C_is_word_list : Cal P w K mg base CX0 2 "is_word_list" (spIsWordList K)) (C_check_objects : Cal P w K mg base CX0 4 "check_objects" (spCheckObjs K)) (C_check_names : Cal P w K mg base CX0 4 "check_names" (spCheckNames K))
    (M_Heap_reckoned_shape : Met P w K mg base CX0 2 C "reckoned_shape" (spShape K C)) : FnOk P w K mg base CX0 5 f fd ["self", "fields", "objects", "names"] (spHeapInit K C) := by
  refine F.ok sc_Heap_init (fun vs H Q E h => ?_) (fun cdv A outer s H vs Q E hr h => ?_)
  · obtain ⟨φ, x, dx, f, l, d, as, fs, os, ns, rfl, _⟩ := h
    rfl
  · obtain ⟨φ, x, dx, f, l, d, as, fs, os, ns, rfl, hx, hf, O, hd, ok, hφ, px, k⟩ := h
    have hu := hu_of hr
    have f2' := ok.f2
    have ol := ok.ol
    have no : ∀ a : Addr, ¬ NoA a := fun a z => z
    have hf0 : SqL K H f (fs.map V.str) ∨ SqT K H f (fs.map V.str) := hf.imp (fun h => h) fun h => tq h.1
    refine ⟨_, (pss_cons (ps_if (pt_not (pt_val (pe_c C_is_word_list hr (by decide) (by rfl) (pa_cons (pv 1) (pa_cons pe_int (pa_cons pe_int pa_nil))))))
        (pss_one ps_never) pss_nil)
      (pss_cons (ps_expr (pe_c C_check_objects hr (by decide) (by rfl) (pa_cons (pv 2) (pa_cons (pv 1) pa_nil))))
      (pss_cons (ps_expr (pe_c C_check_names hr (by decide) (by rfl) (pa_cons (pv 3) (pa_cons (pe_callB c_len (by rfl) B.len (by decide +kernel) (pa_cons (pv 2) pa_nil)) pa_nil))))
      (pss_cons (ps_fld (pv 0) (pe_callTy c_tuple (by rfl) B.tuple (by decide +kernel) (pa_cons (pv 1) pa_nil)) rfl)
      (pss_cons (ps_fld (pv 0) (pe_lc (te := (tCB rDictQ (tCons (tVar 4) tNil))) (own := [("item", 4)]) (g := gName 4) (tt := tYes) rfl sc_Heap_init.nd (pi_list (pv 2)) (blkOk_by (own := [("item", 4)]) (N := ["self", "fields", "objects", "names", "item"]) (sc := defScope s_Heap_init) (by decide +kernel)) (fun _ _ _ _ _ => by exact (pg_name (i := 4) sc_Heap_init.nd rfl (.inl rfl))) (fun _ _ _ _ _ => by exact pts_nil) (fun _ _ _ _ _ => by exact (pe_callTy c_dict (by rfl) B.dict (by decide +kernel) (pa_cons (pv 4) pa_nil)))) rfl)
      (pss_cons (ps_fld (pv 0) (pe_callTy c_dict (by rfl) B.dict (by decide +kernel) (pa_cons (pv 3) pa_nil)) rfl)
      (pss_one (ps_fld (pv 0) (pe_mx0 M_Heap_reckoned_shape hr (by decide) pass0 (pv 0)) rfl)))))))), ?_⟩
    refine st0 (σ' := [some (.ref x), some (.ref f), some (.ref l), some (.ref d), none]) rfl ?_
    walk_at "go"
    refine ⟨_, _, _, rfl, .inr ⟨f, _, rfl, hf0, by rw [List.length_map]; omega, fun v hv H' _ => ?_, fun b H1 hb f1 => ?_⟩⟩
    · obtain ⟨z, hz, rfl⟩ := List.mem_map.mp hv
      exact .inl ⟨z, rfl, by have := (ok.fw z hz).2.1; omega⟩
    have hbt : b = true := hb.mpr ⟨by rw [List.length_map]; have := ok.f1; omega, by rw [List.length_map]; omega, fs, rfl, ok.fw, ok.fn⟩
    subst hbt
    walk_at "go"
    refine iteF ?_
    walk_at "go"
    have hf1 : SqL K H1 f (fs.map V.str) ∨ SqT K H1 f (fs.map V.str) := hf0.imp (SqL.fr f1 (no _)) (SqT.fr f1 (no _))
    refine ⟨l, f, as, fs, os, os.length, rfl, O.fr f1 (fun _ _ z => z), ok.ob, ok.ol, hf1, ok.fn, by omega, fun H2 f12 => ?_⟩
    have f2 := f1.trans f12
    have hL2 := f2.keep _ _ O.lst (no _)
    walk_at "go"
    refine ⟨d, ns, os.length, by rw [List.length_map, O.len], f2.keep _ _ hd (no _), ok.nn, ok.nl, ok.nw, fun H3 f23 => ?_⟩
    have f3 := f2.trans f23
    walk_at "go"
    -- self.fields = tuple(fields)
    have hx3 := f3.keep _ _ hx (no _)
    have tup : ∀ R : VK, (∀ (t : Addr) (H4 : Hp), H4 t = some (.tup (fs.map V.str)) → φ t → Fr NoA H3 H4 → R (.ref t) H4) → rTupQ K [.ref f] H3 R := fun R r => by
      rcases hf with h | ⟨h, ph⟩
      · exact g_tupL (SqL.fr f3 (no _) h) fun t ht => r t _ upd_same (hφ t (f3.free _ ht)) (.new ht)
      · exact g_tupT (tq (f3.keep _ _ h (no _))) (r f H3 (f3.keep _ _ h (no _)) ph (.refl _))
    refine tup _ fun t H4 ht4 pt f34 => ?_
    have f4 := f3.trans f34
    have hx4 := f4.keep _ _ hx (no _)
    walk_at "go"
    refine ⟨x, C, dx, [], rfl, hx4, T.cl, T.n1, by decide, ?_⟩
    rw [put_f1]
    have ntx : t ≠ x := ne_of ht4 hx4 (by intro z; cases z)
    have hx5 : (upd H4 x (.ins C dx [(("fields" : Str), .ref t)])) x = some (.ins C dx [(("fields" : Str), .ref t)]) := upd_same
    have f5 : Fr (fun b => b = x) H (upd H4 x (.ins C dx [(("fields" : Str), .ref t)])) := (f4.mono fun _ z => z.elim).then_put rfl
    have ht5 : (upd H4 x (.ins C dx [(("fields" : Str), .ref t)])) t = some (.tup (fs.map V.str)) := by rw [upd_ne ntx]; exact ht4
    generalize upd H4 x (.ins C dx [(("fields" : Str), .ref t)]) = H5 at hx5 f5 ht5 ⊢
    have nlx : ∀ (b : Addr) (o : HO), H b = some o → (∀ dx fs, o ≠ .ins C dx fs) → b ≠ x := fun b o hb ho z => by
      rw [z, hx] at hb
      exact ho dx [] (Option.some.inj hb).symm
    have hL5 := f5.keep _ _ O.lst (nlx _ _ O.lst (by intro a b z; cases z))
    walk_at "go"
    -- self.held = [dict(item) for item in objects]
    refine ⟨l, rfl, ⟨_, lq hL5⟩, fun D hD => ?_⟩
    have hDH : H D = none := f5.free _ hD
    refine lc_list (K := K) (a := l) (xs := as.map V.ref) (fun i H6 => ∃ bs, Fr NoA H5 H6 ∧ ObjsAt (fun a => H5 a = none) H6 D bs fs (os.take i)) ⟨[], .new hD, upd_same, by rw [List.take_zero]; rfl, fun i a r h => by simp at h, hD, by simp⟩ (fun i H6 _ ⟨_, f6, _⟩ => SqL.fr f6 (no _) (lq hL5)) ?_ ?_
    · rintro i y H6 hi ⟨bs, f6, O6⟩
      rw [List.getElem?_map] at hi
      cases e : as[i]? with
      | none => rw [e] at hi; cases hi
      | some a =>
      rw [e] at hi
      cases hi
      have il : i < os.length := by rw [← O.len]; exact (List.getElem?_eq_some_iff.mp e).1
      have hob := O.obj i a os[i] e (List.getElem?_eq_getElem il)
      have hob6 := f6.keep _ _ (f5.keep _ _ hob (nlx _ _ hob (by intro a b z; cases z))) (no _)
      walk_at "go"
      refine ⟨rfl, ?_⟩
      walk_at "go"
      refine iteT ?_
      walk_at "go"
      refine g_dict (.inl hob6) fun p hp => ?_
      have hp5 : H5 p = none := f6.free _ hp
      have O7 := (O6.sep hp).fr (S := NoA) (.new (o := .dK (rowK fs os[i])) hp) fun _ _ z => z
      have lb : bs.length = i := by
        have := O6.len
        rw [List.length_take] at this
        omega
      refine ⟨_, O7.lst, szl' (by rw [List.length_map]; omega), bs ++ [p], (f6.then_new hp).upd0 hD, ?_⟩
      rw [List.take_succ_eq_append_getElem il]
      exact O7.more O7.nl hp5 upd_same
    rintro H6 ⟨bs, f56, O6⟩
    rw [List.length_map, O.len, List.take_length] at O6
    have hx6 := f56.keep _ _ hx5 (no _)
    have ht6 := f56.keep _ _ ht5 (no _)
    walk_at "go"
    refine ⟨x, C, dx, _, rfl, hx6, T.cl, T.n2, by show 1 < 1000; decide, ?_⟩
    rw [put_f2]
    have f6 : Fr (fun b => b = x) H5 (upd H6 x (.ins C dx [(("fields" : Str), .ref t), ("held", .ref D)])) := (f56.mono fun _ z => z.elim).then_put rfl
    have fx6 : Fr (fun b => b = x) H6 (upd H6 x (.ins C dx [(("fields" : Str), .ref t), ("held", .ref D)])) := .put rfl
    have O7 := O6.fr fx6 fun a ha z => by rw [z, hx5] at ha; cases ha
    have hx7 : (upd H6 x (.ins C dx [(("fields" : Str), .ref t), ("held", .ref D)])) x = some (.ins C dx [(("fields" : Str), .ref t), ("held", .ref D)]) := upd_same
    have ht7 := fx6.keep _ _ ht6 ntx
    have f7 := f5.trans f6
    generalize upd H6 x (.ins C dx [(("fields" : Str), .ref t), ("held", .ref D)]) = H7 at f6 O7 hx7 ht7 f7 ⊢
    walk_at "go"
    -- self.holders = dict(names)
    refine g_dict (.inl (f7.keep _ _ hd (nlx _ _ hd (by intro a b z; cases z)))) fun p hp => ?_
    have npx : p ≠ x := (ne_of_none hx7 hp).symm
    have hpH : H p = none := f7.free _ hp
    have hp5 : H5 p = none := f6.free _ hp
    have O8 := (O7.sep hp).fr (S := NoA) (.new (o := .dK (nmK ns)) hp) fun _ _ z => z
    have hx8 : (upd H7 p (.dK (nmK ns))) x = some (.ins C dx [(("fields" : Str), .ref t), ("held", .ref D)]) := by rw [upd_ne npx.symm]; exact hx7
    have ht8 : (upd H7 p (.dK (nmK ns))) t = some (.tup (fs.map V.str)) := by rw [upd_ne (ne_of_none ht7 hp)]; exact ht7
    have hp8 : (upd H7 p (.dK (nmK ns))) p = some (.dK (nmK ns)) := upd_same
    have f8 : Fr (fun b => b = x) H (upd H7 p (.dK (nmK ns))) := f7.then_new hp
    generalize upd H7 p (.dK (nmK ns)) = H8 at O8 hx8 ht8 hp8 f8 ⊢
    walk_at "go"
    refine ⟨x, C, dx, _, rfl, hx8, T.cl, T.n3, by show 2 < 1000; decide, ?_⟩
    rw [put_f3]
    have fx8 : Fr (fun b => b = x) H8 (upd H8 x (.ins C dx (hf3 (.ref t) (.ref D) (.ref p)))) := .put rfl
    have O9 := O8.fr fx8 fun a ha z => by rw [z, hx5] at ha; cases ha.1
    have hx9 : (upd H8 x (.ins C dx (hf3 (.ref t) (.ref D) (.ref p)))) x = some (.ins C dx (hf3 (.ref t) (.ref D) (.ref p))) := upd_same
    have ht9 := fx8.keep _ _ ht8 ntx
    have hp9 := fx8.keep _ _ hp8 npx
    have f9 := f8.trans fx8
    generalize upd H8 x (.ins C dx (hf3 (.ref t) (.ref D) (.ref p))) = H9 at fx8 O9 hx9 ht9 hp9 f9 ⊢
    walk_at "go"
    -- self.shape = self.reckoned_shape()
    refine ⟨x, dx, _, rfl, hx9, lk_no3 _ _ _ (by decide +kernel), ?_⟩
    walk_at "go"
    have O9' : ObjsAt (fun a => H a = none) H9 D bs fs os := O9.imp fun a ha => f5.free _ ha.1
    refine ⟨fun a => φ a ∧ a ≠ x, x, dx, t, D, p, bs, fs, os, ns, rfl, hx9, ht9, O9.imp fun _ _ => True.intro, hp9, ok, fun a ha => ⟨hφ a (f9.free _ ha), (ne_of_none hx9 ha).symm⟩, ⟨pt, ntx⟩, fun v ys H10 perm srt R10 f10 => ?_⟩
    walk_at "go"
    refine ⟨x, C, dx, _, rfl, f10.keep _ _ hx9 (no _), T.cl, T.n4, by show 3 < 1000; decide, ?_⟩
    rw [put_f4]
    have fx10 : Fr (fun b => b = x) H9 (upd H10 x (.ins C dx (hf4 (.ref t) (.ref D) (.ref p) v))) := (f10.mono fun _ z => z.elim).then_put rfl
    refine k _ ⟨t, D, p, dx, v, bs, ys, upd_same, px, fx10.keep _ _ ht9 ntx, pt, ?_, fx10.keep _ _ hp9 npx, hφ p hpH, perm, srt, ?_⟩ (f9.trans fx10)
    · exact (O9'.fr fx10 fun a ha z => by rw [z, hx] at ha; cases ha).imp hφ
    · exact (R10.fr (S := fun b => b = x) (.put rfl) fun a ha => ha.2).imp fun a ha => ha.1

theorem ok_Heap_len {f C : Addr} {fd : FuncData} (F : Fun K "__len__" "Heap.__len__" s_Heap_len f fd) (B : Blt mg) (T0 : HCls K C) : FnOk P w K mg base CX0 1 f fd ["self"] (spHLen K C) := by
  refine F.ok sc_Heap_len (fun vs H Q E h => ?_) (fun cdv A outer s H vs Q E hr h => ?_)
  · obtain ⟨φ, x, fs, os, ns, rfl, _⟩ := h
    rfl
  · obtain ⟨φ, x, fs, os, ns, rfl, HA, q⟩ := h
    obtain ⟨t, l, d, dx, sv, as, ys, hx, px, ht, pt, O, hd, pd, perm, srt, R⟩ := id HA.ex
    refine ⟨_, (pss_one (ps_ret (pe_callB c_len (by rfl) B.len (by decide +kernel) (pa_cons (pe_fld (pv 0) rfl) pa_nil)))), ?_⟩
    refine st0 (σ' := [some (.ref x)]) rfl ?_
    walk_at "go"
    refine g_fldv hx T0.cl T0.n2 (lk_held _ _ _ _) ?_
    walk_at "go"
    refine g_len (lq O.lst) ?_
    rw [List.length_map, O.len]
    exact q
theorem ok_Heap_contains {f C : Addr} {fd : FuncData} (F : Fun K "__contains__" "Heap.__contains__" s_Heap_contains f fd) (B : Blt mg) (T0 : HCls K C) : FnOk P w K mg base CX0 1 f fd ["self", "x"] (spHIn K C) := by
  refine F.ok sc_Heap_contains (fun vs H Q E h => ?_) (fun cdv A outer s H vs Q E hr h => ?_)
  · obtain ⟨φ, x, v, fs, os, ns, rfl, _⟩ := h
    rfl
  · obtain ⟨φ, x, v, fs, os, ns, rfl, HA, ok, hc⟩ := h
    have hu := hu_of hr
    obtain ⟨t, l, d, dx, sv, as, ys, hx, px, ht, pt, O, hd, pd, perm, srt, R⟩ := id HA.ex
    refine ⟨_, (pss_one (ps_ret (pe_and (pe_callB call_isi (by rfl) B.isinstance (by decide +kernel) (pa_cons (pv 1) (pa_cons (pe_bltn (v := .ty "str") (by rfl) B.str boot_str rfl) pa_nil))) (pe_one (pe_cmp (pc_din hu (by exact (pv 1)) (by exact (pe_fld (pv 0) rfl))) rfl))))), ?_⟩
    refine st0 (σ' := [some (.ref x), some v]) rfl ?_
    rcases hc with ⟨z, rfl, q⟩ | ⟨ty, q⟩
    · have ts : TyQ K H (.str z) "str" true := .of ty_str (by decide +kernel)
      walk_at "go"
      refine iteT ?_
      walk_at "go"
      refine g_fldv hx T0.cl T0.n3 (lk_holders _ _ _ _) ?_
      refine g_hasS (.inl hd) ?_
      by_cases hz : z ∈ ns.map Prod.fst
      · rw [val_look ok.nn hz]
        rw [decide_eq_true hz] at q
        exact q
      · rw [val_nm_none hz]
        rw [decide_eq_false hz] at q
        exact q
    · walk_at "go"
      exact q
theorem ok_Heap_objects {f C : Addr} {fd : FuncData} (F : Fun K "objects" "Heap.objects" s_Heap_objects f fd) (B : Blt mg) (T0 : HCls K C) : FnOk P w K mg base CX0 1 f fd ["self"] (spHObjs K C) := by
  refine F.ok sc_Heap_objects (fun vs H Q E h => ?_) (fun cdv A outer s H vs Q E hr h => ?_)
  · obtain ⟨φ, x, fs, os, ns, rfl, _⟩ := h
    rfl
  · obtain ⟨φ, x, fs, os, ns, rfl, HA, ol, q⟩ := h
    have no : ∀ a : Addr, ¬ NoA a := fun a z => z
    obtain ⟨t, l, d, dx, sv, as, ys, hx, px, ht, pt, O, hd, pd, perm, srt, R⟩ := id HA.ex
    refine ⟨_, (pss_one (ps_ret (pe_lc (te := (tCB rDictQ (tCons (tVar 1) tNil))) (own := [("item", 1)]) (g := gName 1) (tt := tYes) rfl sc_Heap_objects.nd (pi_list (pe_fld (pv 0) rfl)) (blkOk_by (own := [("item", 1)]) (N := ["self", "item"]) (sc := defScope s_Heap_objects) (by decide +kernel)) (fun _ _ _ _ _ => by exact (pg_name (i := 1) sc_Heap_objects.nd rfl (.inl rfl))) (fun _ _ _ _ _ => by exact pts_nil) (fun _ _ _ _ _ => by exact (pe_callTy c_dict (by rfl) B.dict (by decide +kernel) (pa_cons (pv 1) pa_nil)))))), ?_⟩
    refine st0 (σ' := [some (.ref x), none]) rfl ?_
    walk_at "go"
    refine g_fldv hx T0.cl T0.n2 (lk_held _ _ _ _) ?_
    walk_at "go"
    refine ⟨l, rfl, ⟨_, lq O.lst⟩, fun D hD => ?_⟩
    refine lc_list (K := K) (a := l) (xs := as.map V.ref) (fun i H9 => ∃ bs, Fr NoA H H9 ∧ ObjsAt (fun b => H b = none) H9 D bs fs (os.take i)) ⟨[], .new hD, upd_same, by rw [List.take_zero]; rfl, fun i a r h => by simp at h, hD, by simp⟩ (fun i H9 _ ⟨_, f9, _⟩ => SqL.fr f9 (no _) (lq O.lst)) ?_ ?_
    · rintro i y H9 hi ⟨bs, f9, O9⟩
      rw [List.getElem?_map] at hi
      cases e : as[i]? with
      | none => rw [e] at hi; cases hi
      | some b =>
      rw [e] at hi
      cases hi
      have il : i < os.length := by rw [← O.len]; exact (List.getElem?_eq_some_iff.mp e).1
      have hob9 := f9.keep _ _ (O.obj i b os[i] e (List.getElem?_eq_getElem il)) (no _)
      walk_at "go"
      refine ⟨rfl, ?_⟩
      walk_at "go"
      refine iteT ?_
      walk_at "go"
      refine g_dict (.inl hob9) fun q hq => ?_
      have O10 := (O9.sep hq).fr (S := NoA) (.new (o := .dK (rowK fs os[i])) hq) fun _ _ z => z
      have lb : bs.length = i := by
        have := O9.len
        rw [List.length_take] at this
        omega
      refine ⟨_, O10.lst, szl' (by rw [List.length_map]; omega), bs ++ [q], (f9.then_new hq).upd0 hD, ?_⟩
      rw [List.take_succ_eq_append_getElem il]
      exact O10.more O10.nl (f9.free _ hq) upd_same
    rintro H9 ⟨bs, f9, O9⟩
    rw [List.length_map, O.len, List.take_length] at O9
    exact q D bs H9 O9 f9
theorem ok_Heap_names {f C : Addr} {fd : FuncData} (F : Fun K "names" "Heap.names" s_Heap_names f fd) (B : Blt mg) (T0 : HCls K C) : FnOk P w K mg base CX0 1 f fd ["self"] (spHNms K C) := by
  refine F.ok sc_Heap_names (fun vs H Q E h => ?_) (fun cdv A outer s H vs Q E hr h => ?_)
  · obtain ⟨φ, x, fs, os, ns, rfl, _⟩ := h
    rfl
  · obtain ⟨φ, x, fs, os, ns, rfl, HA, q⟩ := h
    obtain ⟨t, l, d, dx, sv, as, ys, hx, px, ht, pt, O, hd, pd, perm, srt, R⟩ := id HA.ex
    refine ⟨_, (pss_one (ps_ret (pe_callTy c_dict (by rfl) B.dict (by decide +kernel) (pa_cons (pe_fld (pv 0) rfl) pa_nil)))), ?_⟩
    refine st0 (σ' := [some (.ref x)]) rfl ?_
    walk_at "go"
    refine g_fldv hx T0.cl T0.n3 (lk_holders _ _ _ _) ?_
    walk_at "go"
    exact g_dict (.inl hd) fun p hp => q p _ hp upd_same (.new hp)

theorem ok_Heap_getitem {f C CA : Addr} {fd : FuncData} (F : Fun K "__getitem__" "Heap.__getitem__" s_Heap_getitem f fd) (B : Blt mg) (T0 : HCls K C) (T : ATxt P w K mg base CA) : FnOk P w K mg base (CX P w) 3 f fd ["self", "at"] (spRoot K C CA) := by
  refine F.okX sc_Heap_getitem (fun vs H Q E h => ?_) (fun cdv A outer s H vs Q E hr h => ?_)
  · obtain ⟨φ, x, v, fs, os, ns, rfl, _⟩ := h
    rfl
  · obtain ⟨φ, x, v, fs, os, ns, rfl, HA, ok, hc⟩ := h
    have hu := hu_of hr
    obtain ⟨t, l, d, dx, sv, as, ys, hx, px, ht, pt, O, hd, pd, perm, srt, R⟩ := HA.ex
    refine ⟨_, (pss_cons (ps_if (PW.pt (pw_or (pt_not (pt_val (pe_callB call_isi (by rfl) B.isinstance (by decide +kernel) (pa_cons (pv 1) (pa_cons (pe_bltn (v := .ty "str") (by rfl) B.str boot_str rfl) pa_nil))))) (pw_or1 (pt_cmp (pc_dnotin hu (by exact (pv 1)) (by exact (pe_fld (pv 0) rfl)))))))
        (pss_one (ps_rx rfl (takes_of rfl rfl rfl rfl) (pmk_x T.x_InvalidArgument hr (by decide) (by rfl) (pa_cons pe_str pa_nil)))) pss_nil)
      (pss_one (ps_ret (pe_dget hu (by exact (pe_fld (pv 0) rfl)) (by exact (pv 1)) (fun _ _ => rfl))))), ?_⟩
    refine st0 (σ' := [some (.ref x), some v]) rfl ?_
    have bad : XR CA H E "name" → ∀ (σ' : L2.St) (D : Ends), tMkX CA ["part"] (tCons (tC (V.str "name")) tNil) σ' H (fun cls d H' => (fun (cls : Value) (d : Option Addr) (_ : L2.St) (H : Hp) => E cls d H) cls d σ' H') := fun xr σ' D => by
      walk_at "go"
      exact g_mk rfl (by show 1 ≤ 1000; decide) fun dd Hf hd hf ff => xr dd Hf hd hf ff
    rcases hc with ⟨z, rfl, hz, q⟩ | ⟨hb, xr⟩
    · have ts : TyQ K H (.str z) "str" true := .of ty_str (by decide +kernel)
      walk_at "go"
      refine iteF ?_
      walk_at "go"
      refine g_fldv hx T0.cl T0.n3 (lk_holders _ _ _ _) ?_
      refine g_hasS (.inl hd) ?_
      rw [val_look ok.nn hz]
      walk_at "go"
      refine iteF ?_
      walk_at "go"
      refine g_fldv hx T0.cl T0.n3 (lk_holders _ _ _ _) ?_
      walk_at "go"
      exact g_dgetS (.inl hd) (val_look ok.nn hz) q
    · rcases hb with ⟨z, rfl, hz⟩ | hb
      · have ts : TyQ K H (.str z) "str" true := .of ty_str (by decide +kernel)
        walk_at "go"
        refine iteF ?_
        walk_at "go"
        refine g_fldv hx T0.cl T0.n3 (lk_holders _ _ _ _) ?_
        refine g_hasS (.inl hd) ?_
        rw [val_nm_none hz]
        walk_at "go"
        refine iteT ?_
        exact bad xr _ { nx := fun _ _ => True, rt := fun _ _ => True }
      · walk_at "go"
        refine iteT ?_
        refine iteT ?_
        exact bad xr _ { nx := fun _ _ => True, rt := fun _ _ => True }

theorem ok_l_is_integer {f : Addr} {fd : FuncData} (F : Fun K "_law_is_integer" "_law_is_integer" s_l_is_integer f fd) (B : Blt mg) : FnOk P w K mg base CX0 1 f fd ["_law_x"] (spIsInt K) := by
  refine F.ok sc_l_is_integer (fun vs H Q E h => ?_) (fun cdv A outer s H vs Q E hr h => ?_)
  · obtain ⟨v, b1, b2, rfl, _⟩ := h
    rfl
  · obtain ⟨v, b1, b2, rfl, h1, h2, q⟩ := h
    refine ⟨_, (pss_one (ps_ret (pe_and (pe_callB call_isi (by rfl) B.isinstance (by decide +kernel) (pa_cons (pv 0) (pa_cons (pe_bltn (v := .ty "int") (by rfl) B.int boot_int rfl) pa_nil))) (pe_one (pe_not (pe_callB call_isi (by rfl) B.isinstance (by decide +kernel) (pa_cons (pv 0) (pa_cons (pe_bltn (v := .ty "bool") (by rfl) B.bool boot_bool rfl) pa_nil)))))))), ?_⟩
    refine st0 (σ' := [some v]) rfl ?_
    walk_at "go"
    refine g_bool (fun e => ?_) (fun e => ?_)
    · have h2 := h2 e
      walk_at "go"
      rw [e] at q
      exact q
    · rw [e] at q
      exact q
theorem ok_l_same {f : Addr} {fd : FuncData} (F : Fun K "_law_same" "_law_same" s_l_same f fd) (B : Blt mg) (C_l_is_integer : Cal P w K mg base CX0 1 "_law_is_integer" (spIsInt K)) : FnOk P w K mg base CX0 2 f fd ["_law_actual", "_law_due"] spSame := by
  refine F.ok sc_l_same (fun vs H Q E h => ?_) (fun cdv A outer s H vs Q E hr h => ?_)
  · obtain ⟨o, o', rfl, _⟩ := h
    rfl
  · obtain ⟨o, o', rfl, q⟩ := h
    refine ⟨_, (pss_cons (ps_if (pt_cmpR op_isN1 (pv 1) pe_non (nomark _))
        (pss_one (ps_ret (pe_cmpR op_isN1 (pv 0) pe_non (nomark _)))) pss_nil)
      (pss_one (ps_ret (pe_and (pe_c C_l_is_integer hr (by decide) (by rfl) (pa_cons (pv 0) pa_nil)) (pe_one (pe_cmpR op_eq (pv 0) (pv 1) (nomark _))))))), ?_⟩
    refine st0 (σ' := [some (ov o'), some (ov o)]) rfl ?_
    walk_at "go"
    cases o with
    | none =>
      refine g_dec (fun _ => ?_) (fun c => absurd rfl c)
      walk_at "go"
      have e : decide (ov o' = .non) = decide (o' = none) := by rw [Bool.eq_iff_iff]; simp only [decide_eq_true_eq]; exact ov_non o'
      rw [e]
      exact q
    | some k =>
      refine g_dec (fun c => by cases c) (fun _ => ?_)
      walk_at "go"
      cases o' with
      | none =>
        refine ⟨_, false, false, rfl, .of ty_non (by decide +kernel), fun z => absurd z (by simp), ?_⟩
        walk_at "go"
        refine iteF ?_
        rw [decide_eq_false (by intro z; cases z)] at q
        exact q
      | some m =>
        refine ⟨_, true, false, rfl, .of ty_int (by decide +kernel), fun _ => .of ty_int (by decide +kernel), ?_⟩
        walk_at "go"
        refine iteT ?_
        walk_at "go"
        refine g_eq rfl ?_
        have e : decide (ov (some m) = ov (some k)) = decide (some m = some k) := by
          rw [Bool.eq_iff_iff]
          simp only [decide_eq_true_eq]
          constructor
          · intro z
            have z2 : ((m : Nat) : Int) = ((k : Nat) : Int) := V.int.inj z
            rw [show m = k by omega]
          · intro z
            rw [z]
        rw [e]
        exact q

theorem ok_l_same_items {f : Addr} {fd : FuncData} (F : Fun K "_law_same_items" "_law_same_items" s_l_same_items f fd) (B : Blt mg) (C_l_same : Cal P w K mg base CX0 2 "_law_same" spSame) : FnOk P w K mg base CX0 3 f fd ["_law_actual", "_law_due"] (spSameItems K) := by
  refine F.ok sc_l_same_items (fun vs H Q E h => ?_) (fun cdv A outer s H vs Q E hr h => ?_)
  · obtain ⟨a, b, ns, rfl, _⟩ := h
    rfl
  · obtain ⟨a, b, ns, rfl, ha, hb, ne, nd, q⟩ := h
    have hu := hu_of hr
    have t1 : TyQ K H (.ref a) "dict" true := .of (ty_D (.inl ha)) (by decide +kernel)
    refine ⟨_, (pss_cons (ps_if (PW.pt (pw_or (pt_not (pt_val (pe_callB call_isi (by rfl) B.isinstance (by decide +kernel) (pa_cons (pv 0) (pa_cons (pe_bltn (v := .ty "dict") (by rfl) B.dict boot_dict rfl) pa_nil))))) (pw_or1 (pt_cmpR op_ne (pe_callB c_lenD (by rfl) B.len (by decide +kernel) (pa_cons (pv 0) pa_nil)) (pe_callB c_lenD (by rfl) B.len (by decide +kernel) (pa_cons (pv 1) pa_nil)) (nomark _)))))
        (pss_one (ps_ret pe_bl)) pss_nil)
      (pss_cons (ps_lock (ps_for PassesOwn.never rfl (pi_keys (pv 1)) (pg_name (i := 2) sc_l_same_items.nd rfl (.inl rfl))
        (pss_one (ps_if (PW.pt (pw_or (pt_cmp (pc_dnotin hu (by exact (pv 2)) (by exact (pv 0)))) (pw_or1 (pt_not (pt_val (pe_c C_l_same hr (by decide) (by rfl) (pa_cons (pe_dget hu (by exact (pv 0)) (by exact (pv 2)) (fun _ _ => rfl)) (pa_cons (pe_dget hu (by exact (pv 1)) (by exact (pv 2)) (fun _ _ => rfl)) pa_nil))))))))
        (pss_one (ps_ret pe_bl)) pss_nil))))
      (pss_one (ps_ret pe_bl)))), ?_⟩
    refine st0 (σ' := [some (.ref a), some (.ref b), none]) rfl ?_
    walk_at "go"
    refine iteF ?_
    walk_at "go"
    refine g_ne rfl ?_
    walk_at "go"
    refine g_decN (fun c1 => absurd rfl c1) (fun c1 => ?_)
    walk_at "go"
    refine g_lock hb True.intro fun od => ?_
    walk_at "go"
    have hz : (upd H b (.frz od (.dK (nmK ns)))) b = some (.frz od (.dK (nmK ns))) := upd_same
    have ha2 : (upd H b (.frz od (.dK (nmK ns)))) a = some (.dK (nmK ns)) := by rw [upd_ne ne]; exact ha
    refine ⟨b, od, rfl, .inl ⟨_, hz, for_it walk_keys (fun i σ' H2 => ∃ u1, σ' = [some (.ref a), some (.ref b), u1] ∧ H2 = upd H b (.frz od (.dK (nmK ns)))) ⟨none, rfl, rfl⟩ (fun i σ' H2 _ ⟨_, _, e⟩ => by rw [e]; exact hz) ?_ ?_⟩⟩
    · rintro i x σ' H2 H3 hi ⟨u1, rfl, rfl⟩ ⟨rfl, key, v, e, rfl⟩
      unfold nmK at e
      rw [List.getElem?_map] at e
      cases e2 : ns[i]? with
      | none => rw [e2] at e; cases e
      | some y =>
      rw [e2] at e
      cases e
      have hv := val_nm nd (show (y.1, y.2) ∈ ns from List.mem_of_getElem? e2)
      walk_at "go"
      refine g_hasS (.inl ha2) ?_
      rw [hv]
      walk_at "go"
      refine iteF ?_
      walk_at "go"
      refine g_dgetS (.inl ha2) hv ?_
      walk_at "go"
      refine g_dgetS (.inr ⟨_, hz⟩) hv ?_
      walk_at "go"
      refine ⟨y.2, y.2, rfl, ?_⟩
      walk_at "go"
      refine g_decN (fun c => absurd rfl c) (fun _ => ?_)
      walk_at "go"
      exact ⟨_, rfl, rfl⟩
    · rintro σ' H2 ⟨u1, rfl, rfl⟩
      refine ⟨hz, ?_⟩
      rw [upd_back hb]
      walk_at "go"
      exact q
theorem lay_tuple {ts : List Str} (h : ∀ z ∈ ts, IsW z) : SeqAt.shaped (.tuple (ts.map PyData.str)) = true := by
  unfold SeqAt.shaped
  simp [PyData.canLay0, lay_strs ts h, PyData.depth, depth_strs ts]
theorem eqv_strs : ∀ ts : List Str, PyData.eqv (.tuple (ts.map PyData.str)) (.tuple (ts.map PyData.str)) = true := fun ts => by
  have : ∀ ts : List Str, PyData.eqvAll (ts.map PyData.str) (ts.map PyData.str) = true := fun ts => by
    induction ts with
    | nil => simp [PyData.eqvAll]
    | cons t r ih => simp [PyData.eqvAll, PyData.eqv, ih]
  simp [PyData.eqv, this]
theorem ok_l_gives_back {f C CA : Addr} {fd : FuncData} (F : Fun K "_law_gives_back" "_law_gives_back" s_l_gives_back f fd) (B : Blt mg) (T0 : HCls K C) (C_l_is_integer : Cal P w K mg base CX0 1 "_law_is_integer" (spIsInt K)) (C_l_same : Cal P w K mg base CX0 2 "_law_same" spSame) (C_l_same_items : Cal P w K mg base CX0 3 "_law_same_items" (spSameItems K))
    (M_Heap_len : Met P w K mg base CX0 1 C "__len__" (spHLen K C)) (M_Heap_contains : Met P w K mg base CX0 1 C "__contains__" (spHIn K C)) (M_Heap_getitem : Met P w K mg base (CX P w) 3 C "__getitem__" (spRoot K C CA)) (FI_Heap : ∀ f, PySem.W.findIn K (.ref C) "__getitem__" = some (some (.ref f)) → PySem.W.fnIn K f = true) (M_Heap_objects : Met P w K mg base CX0 1 C "objects" (spHObjs K C)) (M_Heap_names : Met P w K mg base CX0 1 C "names" (spHNms K C)) : FnOk P w K mg base CX0 5 f fd ["_law_heap", "_law_fields", "_law_objects_here", "_law_names_here"] (spGives K C) := by
  refine F.ok sc_l_gives_back (fun vs H Q E h => ?_) (fun cdv A outer s H vs Q E hr h => ?_)
  · obtain ⟨φ, x, fl, l, d, as, fs, os, ns, rfl, _⟩ := h
    rfl
  · obtain ⟨φ, x, fl, l, d, as, fs, os, ns, rfl, HA, ok, hfl, O, hd, npd, k⟩ := h
    have hu := hu_of hr
    have no : ∀ a : Addr, ¬ NoA a := fun a z => z
    have ol := ok.ol
    refine ⟨_, (pss_cons (ps_if (PW.pt (pw_or (pt_cmpR (op_neD hr.units) (pe_fld (pv 0) rfl) (pe_callTy c_tuple (by rfl) B.tuple (by decide +kernel) (pa_cons (pv 1) pa_nil)) (nomark _)) (pw_or1 (pt_not (pt_val (pe_callB call_isi (by rfl) B.isinstance (by decide +kernel) (pa_cons (pe_fld (pv 0) rfl) (pa_cons (pe_bltn (v := .ty "tuple") (by rfl) B.tuple boot_tuple rfl) pa_nil))))))))
        (pss_one (ps_ret pe_bl)) pss_nil)
      (pss_cons (ps_if (PW.pt (pw_or (pt_not (pt_val (pe_c C_l_is_integer hr (by decide) (by rfl) (pa_cons (pe_callB (c_lenO M_Heap_len hr (by decide) pass0) (by rfl) B.len (by decide +kernel) (pa_cons (pv 0) pa_nil)) pa_nil)))) (pw_or1 (pt_cmpR op_ne (pe_callB (c_lenO M_Heap_len hr (by decide) pass0) (by rfl) B.len (by decide +kernel) (pa_cons (pv 0) pa_nil)) (pe_callB c_len (by rfl) B.len (by decide +kernel) (pa_cons (pv 2) pa_nil)) (nomark _)))))
        (pss_one (ps_ret pe_bl)) pss_nil)
      (pss_cons (ps_set (i := 4) sc_l_gives_back.nd rfl (.inl rfl) (pe_mx0 M_Heap_objects hr (by decide) pass0 (pv 0)))
      (pss_cons (ps_if (PW.pt (pw_or (pt_not (pt_val (pe_callB call_isi (by rfl) B.isinstance (by decide +kernel) (pa_cons (pv 4) (pa_cons (pe_bltn (v := .ty "list") (by rfl) B.list boot_list rfl) pa_nil))))) (pw_or1 (pt_cmpR op_ne (pe_callB c_len (by rfl) B.len (by decide +kernel) (pa_cons (pv 4) pa_nil)) (pe_callB c_len (by rfl) B.len (by decide +kernel) (pa_cons (pv 2) pa_nil)) (nomark _)))))
        (pss_one (ps_ret pe_bl)) pss_nil)
      (pss_cons (ps_for PassesOwn.never rfl (pi_range1 rfl B.range (pa_cons (pe_callB c_len (by rfl) B.len (by decide +kernel) (pa_cons (pv 2) pa_nil)) pa_nil)) (pg_name (i := 5) sc_l_gives_back.nd rfl (.inl rfl))
        (pss_one (ps_if (pt_not (pt_val (pe_c C_l_same_items hr (by decide) (by rfl) (pa_cons (pe_ix ix_list (pv 4) (pv 5) (fun _ _ => rfl)) (pa_cons (pe_ix ix_list (pv 2) (pv 5) (fun _ _ => rfl)) pa_nil)))))
        (pss_one (ps_ret pe_bl)) pss_nil)))
      (pss_cons (ps_if (pt_not (pt_val (pe_c C_l_same_items hr (by decide) (by rfl) (pa_cons (pe_mx0 M_Heap_names hr (by decide) pass0 (pv 0)) (pa_cons (pv 3) pa_nil)))))
        (pss_one (ps_ret pe_bl)) pss_nil)
      (pss_cons (ps_lock (ps_for PassesOwn.never rfl (pi_keys (pv 3)) (pg_name (i := 6) sc_l_gives_back.nd rfl (.inl rfl))
        (pss_one (ps_if (PW.pt (pw_or (pt_not (pt_val (pe_c C_l_same hr (by decide) (by rfl) (pa_cons (pe_ixO M_Heap_getitem FI_Heap hr (by decide) (Passes.at passL) (pv 0) (pv 6)) (pa_cons (pe_dget hu (by exact (pv 3)) (by exact (pv 6)) (fun _ _ => rfl)) pa_nil))))) (pw_or1 (pt_cmpR op_isntB (pe_cmpR (op_inO M_Heap_contains hr (by decide) pass0) (pv 6) (pv 0) (by rfl)) pe_bl (nomark _)))))
        (pss_one (ps_ret pe_bl)) pss_nil))))
      (pss_one (ps_ret pe_bl))))))))), ?_⟩
    refine st0 (σ' := [some (.ref x), some (.ref fl), some (.ref l), some (.ref d), none, none, none]) rfl ?_
    obtain ⟨t, l2, d2, dx, sv, as2, ys, hx, px, ht, pt, O2, hd2, pd, perm, srt, R⟩ := id HA.ex
    have el : ∀ {H' : Hp} {a : Addr} {ts : List Str}, SqT K H' a (ts.map V.str) → Dp K H' (.ref a) (.tuple (ts.map PyData.str)) := fun h => .tup h (RpAll.dp (RpAll.strs (φ := fun _ => True) _))
    walk_at "go"
    refine g_fldv hx T0.cl T0.n1 (lk_fields _ _ _ _) ?_
    walk_at "go"
    refine g_tupL hfl fun p hp => ?_
    have f1 : Fr NoA H (upd H p (.tup (fs.map V.str))) := .new hp
    have hp1 : (upd H p (.tup (fs.map V.str))) p = some (.tup (fs.map V.str)) := upd_same
    generalize upd H p (.tup (fs.map V.str)) = H1 at f1 hp1 ⊢
    refine g_neD (el (tq (f1.keep _ _ ht (no _)))) (el (tq hp1)) (lay_tuple ok.fw) (lay_tuple ok.fw) ?_
    rw [eqv_strs]
    walk_at "go"
    refine iteF ?_
    walk_at "go"
    refine g_fldv (f1.keep _ _ hx (no _)) T0.cl T0.n1 (lk_fields _ _ _ _) ?_
    walk_at "go"
    refine g_isi (b := true) (.of (ty_T (tq (f1.keep _ _ ht (no _)))) (by decide +kernel)) ?_
    walk_at "go"
    refine iteF ?_
    walk_at "go"
    have HA1 := HA.fr f1 fun a _ => no a
    refine ⟨x, dx, _, rfl, f1.keep _ _ hx (no _), φ, x, fs, os, ns, rfl, HA1, (os.length : Int), rfl, by omega, by omega, ?_⟩
    walk_at "go"
    refine ⟨_, true, false, rfl, .of ty_int (by decide +kernel), fun _ => .of ty_int (by decide +kernel), ?_⟩
    walk_at "go"
    refine iteF ?_
    walk_at "go"
    refine ⟨x, dx, _, rfl, f1.keep _ _ hx (no _), φ, x, fs, os, ns, rfl, HA1, (os.length : Int), rfl, by omega, by omega, ?_⟩
    walk_at "go"
    refine g_len (SqL.fr f1 (no _) (lq O.lst)) ?_
    walk_at "go"
    rw [List.length_map, O.len]
    refine g_ne rfl ?_
    walk_at "go"
    refine g_decN (fun c => absurd rfl c) (fun _ => ?_)
    walk_at "go"
    refine ⟨x, dx, _, rfl, f1.keep _ _ hx (no _), lk_no _ _ _ _ (by decide +kernel), ?_⟩
    walk_at "go"
    refine ⟨φ, x, fs, os, ns, rfl, HA1, by omega, fun tl bs H2 O3 f2 => ?_⟩
    have f12 := f1.trans f2
    walk_at "go"
    refine g_isi (b := true) (.of (ty_L (lq O3.lst)) (by decide +kernel)) ?_
    walk_at "go"
    refine iteF ?_
    walk_at "go"
    refine g_len (lq O3.lst) ?_
    walk_at "go"
    refine g_len (SqL.fr f12 (no _) (lq O.lst)) ?_
    walk_at "go"
    rw [List.length_map, List.length_map, O.len, O3.len]
    refine g_ne rfl ?_
    walk_at "go"
    refine g_decN (fun c => absurd rfl c) (fun _ => ?_)
    walk_at "go"
    refine g_len (SqL.fr f12 (no _) (lq O.lst)) ?_
    walk_at "go"
    rw [List.length_map, O.len]
    refine ⟨(os.length : Int), rfl, by omega, by omega, for_range (lo := 0) (n := os.length) (fun i σ' H3 => ∃ u, σ' = [some (.ref x), some (.ref fl), some (.ref l), some (.ref d), some (.ref tl), u, none] ∧ H3 = H2) ⟨_, rfl, rfl⟩ ?_ ?_⟩
    · rintro i σ' H3 il ⟨u, rfl, rfl⟩
      rw [Int.zero_add]
      have i1 : i < as.length := by rw [O.len]; exact il
      have i2 : i < bs.length := by rw [O3.len]; exact il
      have ha := f12.keep _ _ (O.obj i as[i] os[i] (List.getElem?_eq_getElem i1) (List.getElem?_eq_getElem il)) (no _)
      have hb := O3.obj i bs[i] os[i] (List.getElem?_eq_getElem i2) (List.getElem?_eq_getElem il)
      have nab : bs[i] ≠ as[i] := fun z => by
        have n1 := O3.phi.2 bs[i] (List.getElem_mem i2)
        have n2 := f1.keep _ _ (O.obj i as[i] os[i] (List.getElem?_eq_getElem i1) (List.getElem?_eq_getElem il)) (no _)
        rw [z, n2] at n1
        cases n1
      walk_at "go"
      refine g_ixL (lq O3.lst) (show atI (bs.map V.ref) (i : Nat) = some (.ref bs[i]) from atI_nat (by rw [List.getElem?_map, List.getElem?_eq_getElem i2]; rfl)) ?_
      walk_at "go"
      refine g_ixL (SqL.fr f12 (no _) (lq O.lst)) (show atI (as.map V.ref) (i : Nat) = some (.ref as[i]) from atI_nat (by rw [List.getElem?_map, List.getElem?_eq_getElem i1]; rfl)) ?_
      walk_at "go"
      have rl := (ok.ob.row os[i] (List.getElem_mem il)).1
      refine ⟨bs[i], as[i], fs.zip os[i], rfl, hb, ha, nab, by rw [List.map_fst_zip (by omega)]; exact ok.fn, ?_⟩
      walk_at "go"
      refine iteF ?_
      walk_at "go"
      exact ⟨_, rfl, rfl⟩
    rintro σ' H3 ⟨u, rfl, rfl⟩
    have HA3 := HA.fr f12 fun a _ => no a
    walk_at "go"
    refine ⟨x, dx, _, rfl, f12.keep _ _ hx (no _), lk_no _ _ _ _ (by decide +kernel), ?_⟩
    walk_at "go"
    refine ⟨φ, x, fs, os, ns, rfl, HA3, fun dn H4 hdn hdn4 f34 => ?_⟩
    have f14 := f12.trans f34
    have hd4 := f14.keep _ _ hd (no _)
    have ndd : dn ≠ d := (ne_of_none (f12.keep _ _ hd (no _)) hdn).symm
    walk_at "go"
    refine ⟨dn, d, ns, rfl, hdn4, hd4, ndd, ok.nn, ?_⟩
    walk_at "go"
    refine iteF ?_
    walk_at "go"
    refine g_lock hd4 True.intro fun od => ?_
    walk_at "go"
    have fz : Fr (fun b => b = d) H4 (upd H4 d (.frz od (.dK (nmK ns)))) := .put rfl
    have hz : (upd H4 d (.frz od (.dK (nmK ns)))) d = some (.frz od (.dK (nmK ns))) := upd_same
    have HAz := (HA.fr f14 fun a _ => no a).fr fz fun a pa e => npd (e ▸ pa)
    obtain ⟨t', l', d', dx', sv', as', ys', hx', _⟩ := id HAz.ex
    refine ⟨d, od, rfl, .inl ⟨_, hz, for_it walk_keys (fun i σ' H5 => ∃ u1, σ' = [some (.ref x), some (.ref fl), some (.ref l), some (.ref d), some (.ref tl), u, u1] ∧ H5 = upd H4 d (.frz od (.dK (nmK ns)))) ⟨none, rfl, rfl⟩ (fun i σ' H5 _ ⟨_, _, e⟩ => by rw [e]; exact hz) ?_ ?_⟩⟩
    · rintro i y σ' H5 H6 hi ⟨u1, rfl, rfl⟩ ⟨rfl, key, v, e, rfl⟩
      unfold nmK at e
      rw [List.getElem?_map] at e
      cases e2 : ns[i]? with
      | none => rw [e2] at e; cases e
      | some y =>
      rw [e2] at e
      cases e
      have hy : y.1 ∈ ns.map Prod.fst := List.mem_map_of_mem (List.mem_of_getElem? e2)
      walk_at "go"
      refine ⟨x, dx', _, rfl, hx', φ, x, _, fs, os, ns, rfl, HAz, ok, .inl ⟨y.1, rfl, hy, ?_⟩⟩
      walk_at "go"
      refine g_dgetS (.inr ⟨_, hz⟩) (val_look ok.nn hy) ?_
      walk_at "go"
      refine ⟨_, _, rfl, ?_⟩
      walk_at "go"
      refine g_decN (fun c => absurd rfl c) (fun _ => ?_)
      walk_at "go"
      refine ⟨x, dx', _, rfl, hx', φ, x, _, fs, os, ns, rfl, HAz, ok, .inl ⟨y.1, rfl, true, ?_, ?_⟩⟩
      · rw [decide_eq_true hy]
      walk_at "go"
      refine iteF ?_
      walk_at "go"
      exact ⟨_, rfl, rfl⟩
    · rintro σ' H5 ⟨u1, rfl, rfl⟩
      refine ⟨hz, ?_⟩
      rw [upd_back hd4]
      walk_at "go"
      exact k H4 f14
theorem ok_l_is_stranger {f C CA : Addr} {fd : FuncData} (F : Fun K "_law_is_stranger" "_law_is_stranger" s_l_is_stranger f fd) (B : Blt mg) (T0 : HCls K C) (T : ATxt P w K mg base CA) (te : PySem.W.exmOne K (.ref CA) (.ref CA) = some true) (M_Heap_contains : Met P w K mg base CX0 1 C "__contains__" (spHIn K C)) (M_Heap_getitem : Met P w K mg base (CX P w) 3 C "__getitem__" (spRoot K C CA)) (FI_Heap : ∀ f, PySem.W.findIn K (.ref C) "__getitem__" = some (some (.ref f)) → PySem.W.fnIn K f = true) : FnOk P w K mg base CX0 5 f fd ["_law_heap", "_law_key"] (spStranger K C) := by
  refine F.ok sc_l_is_stranger (fun vs H Q E h => ?_) (fun cdv A outer s H vs Q E hr h => ?_)
  · obtain ⟨φ, x, v, fs, os, ns, rfl, _⟩ := h
    rfl
  · obtain ⟨φ, x, v, fs, os, ns, rfl, HA, ok, hb, q⟩ := h
    obtain ⟨t, l, d, dx, sv, as, ys, hx, _⟩ := id HA.ex
    refine ⟨_, pss_cons (ps_if (pt_cmpR op_isntB (pe_cmpR (op_inO M_Heap_contains hr (by decide) pass0) (pv 1) (pv 0) (by rfl)) pe_bl (nomark _)) (pss_one (ps_ret pe_bl)) pss_nil)
      (pss_cons (ps_set (i := 2) sc_l_is_stranger.nd rfl (.inl rfl) pe_str)
      (pss_cons (ps_try_as (i := 3) (tb := fun W => tAsg (tTup (tCons (tC (V.str "given")) (tCons (tIxO C (spRoot K C CA) (WE W) (tVar 0) (tVar 1)) tNil))) (gName 2)) (ts := fun a cls d => tAsg (tXf a cls d CA "part" (tVar 3)) (gName 2)) (Wout := fun _ _ _ _ => False) rfl rfl sc_l_is_stranger.nd rfl rfl ⟨rfl, by decide, .inl T.x_InvalidArgument.mgx⟩ takes0
        (fun W pn xe tk _ => pss_one (ps_set (i := 2) sc_l_is_stranger.nd rfl (.inl rfl) (by exact (pe_tup (pa_cons pe_str (pa_cons (pe_ixO M_Heap_getitem FI_Heap hr (by decide) (fun σ => passAt tk σ) (pv 0) (pv 1)) pa_nil))))))
        (fun a oe cls d pn hz hf => pss_one (ps_set (i := 2) sc_l_is_stranger.nd rfl (.inl rfl) (by exact (pe_xf T.x_InvalidArgument.xf (T.x_InvalidArgument.nof "part" List.mem_cons_self) hz hf (pv 3))))))
      (pss_one (ps_ret (pe_cmpR op_eq (pv 2) pe_str (nomark _)))))), ?_⟩
    refine st0 (σ' := [some (.ref x), some v, none, none]) rfl ?_
    walk_at "go"
    refine ⟨x, dx, _, rfl, hx, ?_⟩
    have nb : (∃ z, v = .str z ∧ (z ∉ ns.map Prod.fst)) ∨ TyQ K H v "str" false := hb
    have hin : ∀ Q', Q' (.bl false) H → spHIn K C [.ref x, v] H Q' E0 := fun Q' q' => by
      refine ⟨φ, x, v, fs, os, ns, rfl, HA, ok, ?_⟩
      rcases nb with ⟨z, rfl, hz⟩ | ty
      · exact .inl ⟨z, rfl, by rw [decide_eq_false hz]; exact q'⟩
      · exact .inr ⟨ty, q'⟩
    refine hin _ ⟨false, rfl, ?_⟩
    walk_at "go"
    refine iteF ?_
    walk_at "go"
    refine ⟨x, dx, _, rfl, hx, ?_⟩
    refine ⟨φ, x, v, fs, os, ns, rfl, HA, ok, .inr ⟨hb, fun dd Hf hd hf ff => ?_⟩⟩
    refine ⟨true, te, fun _ a ha => ?_, fun z => Bool.noConfusion z⟩
    walk_at "go"
    refine ⟨rfl, rfl, dd, _, .str "name", rfl, hf, show (xfs ["part"] [V.str "name"]).lookup ("part" : Str) = some (V.str "name") by simp [xfs, List.lookup], ?_⟩
    walk_at "go"
    have q2 := q Hf ff
    refine g_eq rfl ?_
    rw [decide_eq_true (rfl : V.str (Str.ofString "name") = V.str (Str.ofString "name"))]
    exact q2

theorem ok_law {f C : Addr} {fd : FuncData} (F : Fun K "law" "law" s_law f fd) (B : Blt mg) (C_l_draw : Cal P w K mg base CX0 1 "_law_draw" spDraw) (C_l_word : Cal P w K mg base CX0 2 "_law_word" (spWord K)) (C_l_words : Cal P w K mg base CX0 3 "_law_words" (spWords K)) (C_l_objects : Cal P w K mg base CX0 3 "_law_objects" (spObjects K)) (C_l_names : Cal P w K mg base CX0 3 "_law_names" (spNames K))
    (C_l_gives_back : Cal P w K mg base CX0 5 "_law_gives_back" (spGives K C)) (C_l_is_stranger : Cal P w K mg base CX0 5 "_law_is_stranger" (spStranger K C)) (M_Heap_objects : Met P w K mg base CX0 1 C "objects" (spHObjs K C)) (M_Heap_names : Met P w K mg base CX0 1 C "names" (spHNms K C)) (K_Heap : Mak P w K mg base CX0 5 "Heap" C (spHeapInit K C)) : FnOk P w K mg base CX0 7 f fd ["_law_script"] (spLaw K) := by
  refine F.ok sc_law (fun vs H Q E h => ?_) (fun cdv A outer s H vs Q E hr h => ?_)
  · obtain ⟨a, ns, rfl, _⟩ := h
    rfl
  · obtain ⟨a, ns0, rfl, hS, hlen, k⟩ := h
    have hu := hu_of hr
    have no : ∀ a : Addr, ¬ NoA a := fun a z => z
    refine ⟨_, (pss_cons (ps_set (i := 1) sc_law.nd rfl (.inl rfl) (pe_lst (pa_cons (pe_callTy c_list (by rfl) B.list (by decide +kernel) (pa_cons (pe_slice sl_list (pv 0) po_none (po_some pe_int)) pa_nil)) (pa_cons pe_int (pa_cons pe_int pa_nil)))))
      (pss_cons (ps_set (i := 2) sc_law.nd rfl (.inl rfl) (pe_cmpR op_eq (pe_c C_l_draw hr (by decide) (by rfl) (pa_cons (pv 1) (pa_cons pe_int pa_nil))) pe_int (nomark _)))
      (pss_cons (ps_set (i := 3) sc_law.nd rfl (.inl rfl) pe_int)
      (C8.pss_cut (ps_if (pt_val (pv 2))
        (pss_one (ps_set (i := 3) sc_law.nd rfl (.inl rfl) pe_int)) pss_nil)
      (pss_cons (ps_set (i := 4) sc_law.nd rfl (.inl rfl) (pe_c C_l_draw hr (by decide) (by rfl) (pa_cons (pv 1) (pa_cons (pv 3) pa_nil))))
      (pss_cons (ps_set (i := 5) sc_law.nd rfl (.inl rfl) (pe_c C_l_words hr (by decide) (by rfl) (pa_cons (pv 1) (pa_cons pe_int (pa_cons pe_int pa_nil)))))
      (pss_cons (ps_set (i := 6) sc_law.nd rfl (.inl rfl) (pe_c C_l_words hr (by decide) (by rfl) (pa_cons (pv 1) (pa_cons pe_int (pa_cons pe_int pa_nil)))))
      (pss_cons (ps_set (i := 7) sc_law.nd rfl (.inl rfl) (pe_c C_l_word hr (by decide) (by rfl) (pa_cons (pv 1) (pa_cons (pv 6) pa_nil))))
      (pss_cons (ps_set (i := 8) sc_law.nd rfl (.inl rfl) (pe_c C_l_objects hr (by decide) (by rfl) (pa_cons (pv 1) (pa_cons (pv 5) (pa_cons (pv 4) pa_nil)))))
      (pss_cons (ps_set (i := 9) sc_law.nd rfl (.inl rfl) (pe_c C_l_names hr (by decide) (by rfl) (pa_cons (pv 1) (pa_cons (pv 6) (pa_cons (pv 4) pa_nil)))))
      (pss_cons (ps_setLc (te := (tCB rDictQ (tCons (tVar 10) tNil))) (i := 11) (own := [("_law_item", 10)]) (g := gName 10) (tt := tYes) rfl sc_law.nd rfl rfl (sw_true rfl rfl rfl (by decide +kernel)) (pi_list (pv 8)) (blkOk_by (own := [("_law_item", 10)]) (N := ["_law_script", "_law_pool", "_law_large", "_law_size", "_law_count", "_law_fields", "_law_words_here", "_law_stranger", "_law_objects_here", "_law_names_here", "_law_item", "_law_passed", "_law_holders", "_law_listed", "_law_heap", "_law_key", "_law_told", "_law_names_told"]) (sc := defScope s_law) (by decide +kernel)) (fun _ _ _ _ _ => by exact (pg_name (i := 10) sc_law.nd rfl (.inl rfl))) (fun _ _ _ _ _ => by exact pts_nil) (fun _ _ _ _ _ => by exact (pe_callTy c_dict (by rfl) B.dict (by decide +kernel) (pa_cons (pv 10) pa_nil))))
      (pss_cons (ps_set (i := 12) sc_law.nd rfl (.inl rfl) (pe_callTy c_dict (by rfl) B.dict (by decide +kernel) (pa_cons (pv 9) pa_nil)))
      (pss_cons (ps_set (i := 13) sc_law.nd rfl (.inl rfl) (pe_callTy c_list (by rfl) B.list (by decide +kernel) (pa_cons (pv 5) pa_nil)))
      (pss_cons (ps_set (i := 14) sc_law.nd rfl (.inl rfl) (pe_k K_Heap hr (by decide) pass0 (by rfl) (pa_cons (pe_ifExp (pt_cmpR op_eq (pe_c C_l_draw hr (by decide) (by rfl) (pa_cons (pv 1) (pa_cons pe_int pa_nil))) pe_int (nomark _)) (pe_callTy c_tuple (by rfl) B.tuple (by decide +kernel) (pa_cons (pv 5) pa_nil)) (pv 13)) (pa_cons (pv 11) (pa_cons (pv 12) pa_nil)))))
      (pss_cons (ps_if (pt_not (pt_val (pe_c C_l_gives_back hr (by decide) (by rfl) (pa_cons (pv 14) (pa_cons (pv 5) (pa_cons (pv 8) (pa_cons (pv 9) pa_nil)))))))
        (pss_one (ps_ret pe_bl)) pss_nil)
      (pss_cons (ps_if (PW.pt (pw_or (pt_cmpR (op_neLD (n := 3) (hr.mono (by decide))) (pv 11) (pv 8) (nomark _)) (pw_or (pt_cmpR (op_ne_dictA hr.units0) (pv 12) (pv 9) (nomark _)) (pw_or1 (pt_cmpR (op_neD hr.units) (pv 13) (pv 5) (nomark _))))))
        (pss_one (ps_ret pe_bl)) pss_nil)
      (pss_cons (ps_for PassesOwn.never rfl (pi_list (pe_lst (pa_cons (pv 7) (pa_cons pe_non (pa_cons pe_int (pa_cons (pe_lst pa_nil) (pa_cons pe_dnewK (pa_cons (pe_tup pa_nil) pa_nil)))))))) (pg_name (i := 15) sc_law.nd rfl (.inl rfl))
        (pss_one (ps_if (pt_not (pt_val (pe_c C_l_is_stranger hr (by decide) (by rfl) (pa_cons (pv 14) (pa_cons (pv 15) pa_nil)))))
        (pss_one (ps_ret pe_bl)) pss_nil)))
      (pss_cons (ps_for PassesOwn.never rfl (pi_list (pv 11)) (pg_name (i := 10) sc_law.nd rfl (.inl rfl))
        (pss_one (ps_dput hu (pv 10) (pe_ix ix_list (pv 5) pe_int (fun _ _ => rfl)) pe_non rfl)))
      (pss_cons (ps_expr (pe_bm PySem.F.plainAttrs_list PySem.F.slot_list_append PySem.F.type_list_append mt_append (pv 11) (pa_cons pe_dnewK pa_nil)))
      (pss_cons (ps_expr (pe_bm PySem.F.plainAttrs_list PySem.F.slot_list_append PySem.F.type_list_append mt_append (pv 13) (pa_cons pe_str pa_nil)))
      (pss_cons (ps_dput hu (pv 12) pe_str pe_int rfl)
      (pss_cons (ps_set (i := 16) sc_law.nd rfl (.inl rfl) (pe_mx0 M_Heap_objects hr (by decide) pass0 (pv 14)))
      (pss_cons (ps_for PassesOwn.never rfl (pi_list (pv 16)) (pg_name (i := 10) sc_law.nd rfl (.inl rfl))
        (pss_one (ps_dput hu (pv 10) (pe_ix ix_list (pv 5) pe_int (fun _ _ => rfl)) pe_int rfl)))
      (pss_cons (ps_expr (pe_bm PySem.F.plainAttrs_list PySem.F.slot_list_append PySem.F.type_list_append mt_append (pv 16) (pa_cons pe_non pa_nil)))
      (pss_cons (ps_set (i := 17) sc_law.nd rfl (.inl rfl) (pe_mx0 M_Heap_names hr (by decide) pass0 (pv 14)))
      (pss_cons (ps_dput hu (pv 17) pe_str pe_int rfl)
      (pss_one (ps_ret (pe_and (pe_c C_l_gives_back hr (by decide) (by rfl) (pa_cons (pv 14) (pa_cons (pv 5) (pa_cons (pv 8) (pa_cons (pv 9) pa_nil))))) (pe_one (pe_c C_l_is_stranger hr (by decide) (by rfl) (pa_cons (pv 14) (pa_cons pe_str pa_nil))))))))))))))))))))))))))))))))), ?_⟩
    refine st0 (σ' := [some (.ref a), none, none, none, none, none, none, none, none, none, none, none, none, none, none, none, none, none]) rfl ?_
    walk_at "go"
    refine ⟨63, rfl, g_slL hS fun sl hsl => ?_⟩
    walk_at "go"
    rw [show cutV (ns0.map V.int) none (some 63) = (ns0.take 63).map V.int by rw [show (63 : Int) = ((63 : Nat) : Int) from rfl, cut_to, List.map_take]]
    refine g_list (lq upd_same) fun c hc => ?_
    walk_at "go"
    refine ⟨szl (by show 3 ≤ 10000; decide), fun p hp => ?_⟩
    have poA : PoolAt (upd (upd (upd H sl (.lst ((ns0.take 63).map V.int))) c (.lst ((ns0.take 63).map V.int))) p (.lst [.ref c, .int 0, .int 0])) p c := ⟨ns0.take 63, 0, 0, upd_same, by rw [upd_ne (upd_fresh_ne hp), upd_same], by decide, by decide⟩
    generalize upd (upd (upd H sl (.lst ((ns0.take 63).map V.int))) c (.lst ((ns0.take 63).map V.int))) p (.lst [.ref c, .int 0, .int 0]) = HA at poA ⊢
    walk_at "go"
    refine ⟨p, c, 8, rfl, poA, by decide, by decide, fun r H3 r0 r1 po3 f23 => ?_⟩
    walk_at "go"
    refine g_eq rfl ?_
    walk_at "go"
    generalize decide (V.int r = V.int 1) = lg
    refine g_cut (fun σ' H4 => ∃ n : Nat, σ' = [some (.ref a), some (.ref p), some (.bl lg), some (.int (n : Nat)), none, none, none, none, none, none, none, none, none, none, none, none, none, none] ∧ 1 ≤ n ∧ n ≤ 201 ∧ H4 = H3) ?_ ?_
    · walk_at "go"
      refine g_bool (fun _ => ?_) (fun _ => ?_)
      · walk_at "go"
        exact ⟨201, rfl, by decide, by decide, rfl⟩
      · walk_at "go"
        exact ⟨12, rfl, by decide, by decide, rfl⟩
    rintro σ' H4' ⟨n, rfl, n1, n2, rfl⟩
    walk_at "go"
    refine ⟨p, c, _, rfl, po3, by omega, by omega, fun r' H4 r0' r1' po4 f34 => ?_⟩
    obtain ⟨cn, rfl⟩ : ∃ cn : Nat, r' = (cn : Int) := ⟨r'.toNat, by omega⟩
    walk_at "go"
    refine ⟨p, c, 1, 2, rfl, po4, by decide, by decide, fun fl fs H5 fw fnd fl1 fl2 hfl hfl5 po5 f45 => ?_⟩
    have nfl := po4.ne hfl
    walk_at "go"
    refine ⟨p, c, 0, 6, rfl, po5, by decide, by decide, fun wl ws H6 ww wnd wl1 wl2 hwl hwl6 po6 f56 => ?_⟩
    have nwl := po5.ne hwl
    have hfl6 := f56.keep _ _ hfl5 nfl
    walk_at "go"
    refine ⟨p, c, wl, ws, rfl, po6, nwl, lq hwl6, by omega, fun st H6' _ hst po6' f66 => ?_⟩
    have hfl6' := f66.keep _ _ hfl6 nfl
    have hwl6' := f66.keep _ _ hwl6 nwl
    walk_at "go"
    refine ⟨p, c, fl, fs, cn, rfl, po6', nfl, lq hfl6', fnd, by omega, by omega, fun l as os H7 oko O7 po7 f67 => ?_⟩
    have hwl7 := f67.keep _ _ hwl6' nwl
    have hfl7 := f67.keep _ _ hfl6' nfl
    have O7' : ObjsAt (fun b => ¬ PS p c b) H7 l as fs os := O7.imp fun b hb => po6'.ne hb
    walk_at "go"
    refine ⟨p, c, wl, ws, cn, rfl, po7, nwl, lq hwl7, wnd, by omega, by omega, fun d ns H8 hk ho hd hd8 po8 f78 => ?_⟩
    have O8 := O7'.fr f78 fun _ z => z
    have hfl8 := f78.keep _ _ hfl7 nfl
    have ok : OkH fs os ns := { fw := fw, fn := fnd, f1 := fl1, f2 := fl2, ob := by rw [oko.len]; exact oko, ol := by rw [oko.len]; omega, nn := by rw [hk]; exact wnd, nl := by have := congrArg List.length hk; rw [List.length_map] at this; omega, nw := fun x hx => ⟨ww x.1 (by rw [← hk]; exact List.mem_map_of_mem hx), by rw [oko.len]; exact ho x hx⟩ }
    have hst2 : st ∉ ns.map Prod.fst := by rw [hk]; exact hst
    have ndp := po7.ne hd
    clear hwl7 hwl6' hwl6 hfl7 hfl6' hfl6 hfl5 O7 O7' po7 po6 po6' po5 po4 po3 poA f78 f67 f66 f56 f45 f34 f23
    walk_at "go"
    -- what is passed
    refine ⟨l, rfl, ⟨_, lq O8.lst⟩, fun D hD => ?_⟩
    refine lc_list (K := K) (a := l) (xs := as.map V.ref) (fun i H9 => ∃ bs, Fr NoA H8 H9 ∧ ObjsAt (fun b => H8 b = none) H9 D bs fs (os.take i)) ⟨[], .new hD, upd_same, by rw [List.take_zero]; rfl, fun i a r h => by simp at h, hD, by simp⟩ (fun i H9 _ ⟨_, f9, _⟩ => SqL.fr f9 (no _) (lq O8.lst)) ?_ ?_
    · rintro i y H9 hi ⟨bs, f9, O9⟩
      rw [List.getElem?_map] at hi
      cases e : as[i]? with
      | none => rw [e] at hi; cases hi
      | some b =>
      rw [e] at hi
      cases hi
      have il : i < os.length := by rw [← O8.len]; exact (List.getElem?_eq_some_iff.mp e).1
      have hob9 := f9.keep _ _ (O8.obj i b os[i] e (List.getElem?_eq_getElem il)) (no _)
      walk_at "go"
      refine ⟨rfl, ?_⟩
      walk_at "go"
      refine iteT ?_
      walk_at "go"
      refine g_dict (.inl hob9) fun q hq => ?_
      have O10 := (O9.sep hq).fr (S := NoA) (.new (o := .dK (rowK fs os[i])) hq) fun _ _ z => z
      have lb : bs.length = i := by
        have := O9.len
        rw [List.length_take] at this
        omega
      have ol := ok.ol
      refine ⟨_, O10.lst, szl' (by rw [List.length_map]; omega), bs ++ [q], (f9.then_new hq).upd0 hD, ?_⟩
      rw [List.take_succ_eq_append_getElem il]
      exact O10.more O10.nl (f9.free _ hq) upd_same
    rintro H9 ⟨bs, f89, O9⟩
    rw [List.length_map, O8.len, List.take_length] at O9
    walk_at "go"
    refine g_dict (.inl (f89.keep _ _ hd8 (no _))) fun dn hdn => ?_
    have O10 := O9.fr (S := NoA) (.new (o := .dK (nmK ns)) hdn) fun _ _ z => z
    have hdn10 : (upd H9 dn (.dK (nmK ns))) dn = some (.dK (nmK ns)) := upd_same
    have f810 : Fr NoA H8 (upd H9 dn (.dK (nmK ns))) := f89.then_new hdn
    have nbn : ∀ b ∈ bs, b ≠ dn := (O9.sep hdn).phi.2 |> fun h b hb => (h b hb).2
    have nDn : D ≠ dn := (O9.sep hdn).phi.1.2
    have dn8 : H8 dn = none := f89.free _ hdn
    generalize upd H9 dn (.dK (nmK ns)) = H10 at O10 hdn10 f810 ⊢
    walk_at "go"
    refine g_list (lq (f810.keep _ _ hfl8 (no _))) fun li hli => ?_
    have OL := O10.fr (S := NoA) (.new (o := .lst (fs.map V.str)) hli) fun _ _ z => z
    have hli0 : (upd H10 li (.lst (fs.map V.str))) li = some (.lst (fs.map V.str)) := upd_same
    have hdnL : (upd H10 li (.lst (fs.map V.str))) dn = some (.dK (nmK ns)) := by rw [upd_ne (ne_of_none hdn10 hli)]; exact hdn10
    have f8L : Fr NoA H8 (upd H10 li (.lst (fs.map V.str))) := f810.then_new hli
    have nbl : ∀ b ∈ bs, b ≠ li := (O10.sep hli).phi.2 |> fun h b hb => (h b hb).2
    have nDl : D ≠ li := (O10.sep hli).phi.1.2
    have ndl : dn ≠ li := ne_of_none hdn10 hli
    have li8 : H8 li = none := f810.free _ hli
    generalize upd H10 li (.lst (fs.map V.str)) = HL at OL hli0 hdnL f8L ⊢
    have poL : PoolAt HL p c := po8.fr f8L (no _) (no _)
    walk_at "go"
    refine ⟨p, c, 2, rfl, poL, by decide, by decide, fun r2 HM r20 r21 poM fLM => ?_⟩
    walk_at "go"
    refine g_eq rfl ?_
    walk_at "go"
    have n8 : ∀ {b : Addr}, HL b = none → H8 b = none := fun h => f8L.free _ h
    have pp : ∀ b, PS p c b → H8 b ≠ none := fun b z y => po8.ne y z
    have flM : SqL K HM fl (fs.map V.str) := lq (fLM.keep _ _ (f8L.keep _ _ hfl8 (no _)) nfl)
    refine g_tupOr rfl rfl flM fun fv HX hfv => ?_
    have fMX : Fr NoA HM HX := by
      rcases hfv with ⟨_, rfl⟩ | ⟨q, _, hq, rfl⟩
      · exact .refl _
      · exact .new hq
    have keepX : ∀ b o, HL b = some o → ¬ PS p c b → HX b = some o := fun b o h n => fMX.keep _ _ (fLM.keep _ _ h n) (no _)
    obtain ⟨fa, rfl, hfa⟩ : ∃ fa, fv = .ref fa ∧ (HX fa = some (.lst (fs.map V.str)) ∨ (HX fa = some (.tup (fs.map V.str)) ∧ HL fa = none)) := by
      rcases hfv with ⟨rfl, rfl⟩ | ⟨q, rfl, hq, rfl⟩
      · exact ⟨li, rfl, .inl (keepX _ _ hli0 fun z => pp _ z li8)⟩
      · exact ⟨q, rfl, .inr ⟨upd_same, fLM.free _ hq⟩⟩
    clear hfv
    have nps : ∀ b, H8 b = none → ¬ PS p c b := fun b h z => pp b z h
    have OX : ObjsAt (fun b => H8 b = none) HX D bs fs os := OL.keep fun b o h e => keepX b o e (nps b h)
    walk_at "go"
    intro x dx hx hdx nedx
    have f11 : Fr NoA HX (upd (upd HX dx (.own x)) x (.ins C dx [])) := (Fr.new hdx).then_new (by rw [upd_ne (Ne.symm nedx)]; exact hx)
    have hx11 : (upd (upd HX dx (.own x)) x (.ins C dx [])) x = some (.ins C dx []) := upd_same
    generalize upd (upd HX dx (.own x)) x (.ins C dx []) = H11 at f11 hx11 ⊢
    have xL : HL x = none := fLM.free _ (fMX.free _ hx)
    refine ⟨fun b => HL b = none, x, dx, fa, D, dn, bs, fs, os, ns, rfl, hx11, ?_, (OX.imp fun _ _ => True.intro).fr f11 fun _ _ z => z, f11.keep _ _ (keepX _ _ hdnL (nps _ dn8)) (no _), ok, fun b hb => fLM.free _ (fMX.free _ (f11.free _ hb)), xL, fun J HAJ f1112 => ⟨rfl, ?_⟩⟩
    · rcases hfa with h | ⟨h, e⟩
      · exact .inl (lq (f11.keep _ _ h (no _)))
      · exact .inr ⟨f11.keep _ _ h (no _), e⟩
    have fXJ : Fr NoA HX J := f11.out f1112 fun b e => by rw [e]; exact hx
    have keepJ : ∀ b o, HL b = some o → ¬ PS p c b → J b = some o := fun b o h n => fXJ.keep _ _ (keepX b o h n) (no _)
    have nfl8 : H8 fl ≠ none := by rw [hfl8]; exact Option.some_ne_none _
    have nd8 : H8 d ≠ none := by rw [hd8]; exact Option.some_ne_none _
    have g0 : Hd1 K C H8 HL J p c x fl l d as fs os ns := ⟨HAJ, ⟨keepJ _ _ (f8L.keep _ _ O8.lst (no _)) O8.phi.1, O8.len, fun i b r h1 h2 => keepJ _ _ (f8L.keep _ _ (O8.obj i b r h1 h2) (no _)) (O8.phi.2 b (List.mem_of_getElem? h1)), (ObjsAt.here O8).phi⟩, keepJ _ _ (f8L.keep _ _ hd8 (no _)) ndp, nd8, keepJ _ _ (f8L.keep _ _ hfl8 (no _)) nfl, nfl8⟩
    have OJ : ObjsAt (fun b => H8 b = none) J D bs fs os := OX.fr fXJ fun _ _ => no _
    have hdnJ : J dn = some (.dK (nmK ns)) := keepJ _ _ hdnL (nps _ dn8)
    have hliJ : J li = some (.lst (fs.map V.str)) := keepJ _ _ hli0 (nps _ li8)
    have inD : HL D ≠ none := (ObjsAt.here OL).phi.1
    have inB : ∀ b ∈ bs, HL b ≠ none := (ObjsAt.here OL).phi.2
    have inN : HL dn ≠ none := by rw [hdnL]; exact Option.some_ne_none _
    have inL : HL li ≠ none := by rw [hli0]; exact Option.some_ne_none _
    have ndL : ¬ HL d = none := Fr.some f8L nd8
    have ol := ok.ol
    clear hx11 f1112 HAJ keepJ keepX OX fMX fLM poM flM hfa f11 hx hdx nedx
    walk_at "go"
    refine ⟨_, x, fl, l, d, as, fs, os, ns, rfl, g0.hp, ok, lq g0.flq, g0.ob.imp fun _ _ => True.intro, g0.nm, ndL, fun J1 f1 => ?_⟩
    have g1 := g0.fr0 f1
    have OJ1 := OJ.fr f1 fun _ _ => no _
    have hdn1 := f1.keep _ _ hdnJ (no _)
    have hli1 := f1.keep _ _ hliJ (no _)
    clear g0 OJ hdnJ hliJ f1
    walk_at "go"
    refine iteF ?_
    walk_at "go"
    have dd : ∀ i x y, (bs.map V.ref)[i]? = some x → (as.map V.ref)[i]? = some y → SD x y J1 := fun i x y h1 h2 => by
      rw [List.getElem?_map] at h1 h2
      cases e1 : bs[i]? with
      | none => rw [e1] at h1; cases h1
      | some b =>
      cases e2 : as[i]? with
      | none => rw [e2] at h2; cases h2
      | some a' =>
      rw [e1] at h1
      rw [e2] at h2
      cases h1
      cases h2
      have il : i < os.length := by rw [← OJ1.len]; exact (List.getElem?_eq_some_iff.mp e1).1
      have k1 := OJ1.obj i b os[i] e1 (List.getElem?_eq_getElem il)
      have k2 := g1.ob.obj i a' os[i] e2 (List.getElem?_eq_getElem il)
      have rl := (ok.ob.row os[i] (List.getElem_mem il)).1
      exact ⟨b, a', _, _, rfl, rfl, k1, k2, rfl, sd_nm (p := b) (q := a') (by rw [List.map_fst_zip (by omega)]; exact ok.fn) k1 k2⟩
    refine ⟨⟨D, l, _, _, rfl, rfl, OJ1.lst, g1.ob.lst, ⟨by rw [List.length_map, List.length_map, OJ1.len, g1.ob.len], dd⟩⟩, fun J2 ext => ?_⟩
    have f2 := Fr.ext ext
    have g2 := g1.fr0 f2
    have OJ2 := OJ1.fr f2 fun _ _ => no _
    have hdn2 := f2.keep _ _ hdn1 (no _)
    have hli2 := f2.keep _ _ hli1 (no _)
    clear g1 OJ1 hdn1 hli1 f2 dd ext
    walk_at "go"
    refine iteF ?_
    walk_at "go"
    refine ⟨dn, d, _, _, rfl, rfl, hdn2, g2.nm, rfl, sd_nm (p := dn) (q := d) ok.nn hdn2 g2.nm, ?_⟩
    walk_at "go"
    refine iteF ?_
    walk_at "go"
    refine g_neD (Dp.strs (lq hli2)) (Dp.strs (lq g2.flq)) (shaped_strs ok.fw) (shaped_strs ok.fw) ?_
    rw [eqv_strsL]
    walk_at "go"
    refine iteF ?_
    walk_at "go"
    refine ⟨szl (by show 0 ≤ 10000; decide), fun r1 e1 => ?_⟩
    have k1 : Fr NoA J2 (upd J2 r1 (.lst [])) := .new e1
    have l1 : (upd J2 r1 (.lst [])) r1 = some (.lst []) := upd_same
    generalize upd J2 r1 (.lst []) = I1 at k1 l1 ⊢
    walk_at "go"
    intro r2 e2
    have k2 : Fr NoA I1 (upd I1 r2 (.dK [])) := .new e2
    have l2 : (upd I1 r2 (.dK [])) r2 = some (.dK []) := upd_same
    generalize upd I1 r2 (.dK []) = I2 at k2 l2 ⊢
    walk_at "go"
    refine ⟨szl (by show 0 ≤ 10000; decide), fun r3 e3 => ?_⟩
    have k3 : Fr NoA I2 (upd I2 r3 (.tup [])) := .new e3
    have l3 : (upd I2 r3 (.tup [])) r3 = some (.tup []) := upd_same
    generalize upd I2 r3 (.tup []) = I3 at k3 l3 ⊢
    walk_at "go"
    refine ⟨szl (by show 6 ≤ 10000; decide), fun r4 e4 => ?_⟩
    have k4 : Fr NoA I3 (upd I3 r4 (.lst [V.str st, V.non, V.int 0, V.ref r1, V.ref r2, V.ref r3])) := .new e4
    have l4 : (upd I3 r4 (.lst [V.str st, V.non, V.int 0, V.ref r1, V.ref r2, V.ref r3])) r4 = some (.lst [V.str st, V.non, V.int 0, V.ref r1, V.ref r2, V.ref r3]) := upd_same
    generalize upd I3 r4 (.lst [V.str st, V.non, V.int 0, V.ref r1, V.ref r2, V.ref r3]) = I4 at k4 l4 ⊢
    have a1 := ((k2.trans k3).trans k4).keep _ _ l1 (no _)
    have a2 := (k3.trans k4).keep _ _ l2 (no _)
    have a3 := k4.keep _ _ l3 (no _)
    have f4 := ((k1.trans k2).trans k3).trans k4
    have g4 := g2.fr0 f4
    have OJ4 := OJ2.fr f4 fun _ _ => no _
    have hdn4 := f4.keep _ _ hdn2 (no _)
    have hli4 := f4.keep _ _ hli2 (no _)
    have badn : ∀ y ∈ [V.str st, V.non, V.int 0, V.ref r1, V.ref r2, V.ref r3], ∀ H', Fr NoA I4 H' → BadName K H' ns y := fun y hy H' fH => by
      have hy2 : y = .str st ∨ y = .non ∨ y = .int 0 ∨ y = .ref r1 ∨ y = .ref r2 ∨ y = .ref r3 := by simpa only [List.mem_cons, List.not_mem_nil, or_false] using hy
      rcases hy2 with rfl | rfl | rfl | rfl | rfl | rfl
      · exact .inl ⟨st, rfl, hst2⟩
      · exact .inr (.of ty_non (by decide +kernel))
      · exact .inr (.of ty_int (by decide +kernel))
      · exact .inr (.of (ty_L (lq (fH.keep _ _ a1 (no _)))) (by decide +kernel))
      · exact .inr (.of (ty_D (.inl (fH.keep _ _ a2 (no _)))) (by decide +kernel))
      · exact .inr (.of (ty_T (tq (fH.keep _ _ a3 (no _)))) (by decide +kernel))
    generalize [V.str st, V.non, V.int 0, V.ref r1, V.ref r2, V.ref r3] = bads at l4 badn
    clear k1 k2 k3 k4 l1 l2 l3 a1 a2 a3 g2 OJ2 hdn2 hli2 f4
    refine ⟨r4, rfl, ⟨_, lq l4⟩, for_list (K := K) (a := r4) (xs := bads) (fun i σ' J' => ∃ u1, σ' = [some (.ref a), some (.ref p), some (.bl lg), some (.int (n : Nat)), some (.int (cn : Nat)), some (.ref fl), some (.ref wl), some (.str st), some (.ref l), some (.ref d), none, some (.ref D), some (.ref dn), some (.ref li), some (.ref x), u1, none, none] ∧ Fr NoA I4 J') ⟨_, rfl, .refl _⟩ (fun i σ' J' _ ⟨_, _, f⟩ => SqL.fr f (no _) (lq l4)) ?_ ?_⟩
    · rintro i y σ' J5 hy ⟨u, rfl, f5⟩
      walk_at "go"
      refine ⟨_, x, _, fs, os, ns, rfl, (g4.fr0 f5).hp, ok, badn y (List.mem_of_getElem? hy) J5 f5, fun J6 f6 => ?_⟩
      walk_at "go"
      refine iteF ?_
      walk_at "go"
      exact ⟨_, rfl, f5.trans f6⟩
    rintro σ' J5 ⟨u5, rfl, f5⟩
    have g5 := g4.fr0 f5
    have OJ5 := OJ4.fr f5 fun _ _ => no _
    have hdn5 := f5.keep _ _ hdn4 (no _)
    have hli5 := f5.keep _ _ hli4 (no _)
    clear g4 OJ4 hdn4 hli4 f5 badn l4
    obtain ⟨f0, fr, rfl⟩ : ∃ f0 fr, fs = f0 :: fr := by
      cases fs with
      | nil => exact absurd ok.f1 (by decide)
      | cons f0 fr => exact ⟨f0, fr, rfl⟩
    walk_at "go"
    -- what was passed is changed
    have sB : ∀ b ∈ bs, H8 b = none ∧ HL b ≠ none := fun b hb => ⟨OJ5.phi.2 b hb, inB b hb⟩
    have nbD : ∀ b ∈ bs, b ≠ D := OJ5.nl
    have big : ∀ b ∈ bs, ∃ kvs, J5 b = some (.dK kvs) ∧ kvs.length ≤ 10 := fun b hb => by
      obtain ⟨j, hj, e⟩ := List.getElem_of_mem hb
      have hj2 : j < os.length := by rw [← OJ5.len]; exact hj
      refine ⟨_, OJ5.obj j b os[j] (by rw [← e]; simp) (by simp), ?_⟩
      have := (ok.ob.row os[j] (List.getElem_mem hj2)).1
      have := ok.f2
      unfold rowK
      rw [List.length_map, List.length_zip]
      omega
    have lb : bs.length ≤ 200 := by rw [OJ5.len]; exact ol
    refine ⟨D, rfl, ⟨_, lq OJ5.lst⟩, for_list (K := K) (a := D) (xs := bs.map V.ref) (fun i σ' J' => ∃ u1, σ' = [some (.ref a), some (.ref p), some (.bl lg), some (.int (n : Nat)), some (.int (cn : Nat)), some (.ref fl), some (.ref wl), some (.str st), some (.ref l), some (.ref d), u1, some (.ref D), some (.ref dn), some (.ref li), some (.ref x), u5, none, none] ∧ Hd1 K C H8 HL J' p c x fl l d as (f0 :: fr) os ns ∧ J' D = some (.lst (bs.map V.ref)) ∧ J' dn = some (.dK (nmK ns)) ∧ J' li = some (.lst ((f0 :: fr).map V.str)) ∧ ∀ b ∈ bs, ∃ kvs, J' b = some (.dK kvs) ∧ kvs.length ≤ 10 + i) ⟨_, rfl, g5, OJ5.lst, hdn5, hli5, big⟩ (fun i σ' J' _ ⟨_, _, _, e, _⟩ => lq e) ?_ ?_⟩
    · rintro i y σ' J' hy ⟨u1, rfl, g', hD', hn', hl', bg⟩
      rw [List.getElem?_map] at hy
      cases e : bs[i]? with
      | none => rw [e] at hy; cases hy
      | some b =>
      rw [e] at hy
      cases hy
      have hb := List.mem_of_getElem? e
      have il : i < bs.length := (List.getElem?_eq_some_iff.mp e).1
      obtain ⟨kvs, hkv, lkv⟩ := bg b hb
      walk_at "go"
      refine g_ixL (lq g'.flq) atI_0 ?_
      refine g_dputS hkv (by omega) ?_
      refine ⟨_, rfl, g'.fr (.put (sB b hb)), by rw [upd_ne (nbD b hb).symm]; exact hD', by rw [upd_ne (nbn b hb).symm]; exact hn', by rw [upd_ne (nbl b hb).symm]; exact hl', fun b' hb' => ?_⟩
      by_cases eb : b' = b
      · subst eb
        refine ⟨_, upd_same, ?_⟩
        have : (putK kvs (.inr f0) V.non).length ≤ kvs.length + 1 := by
          unfold putK
          split
          · rw [List.length_map]; omega
          · rw [List.length_append]; simp
        omega
      · obtain ⟨kvs', h1, h2⟩ := bg b' hb'
        exact ⟨kvs', by rw [upd_ne eb]; exact h1, by omega⟩
    rintro σ' J6 ⟨u6, rfl, g6, hD6, hn6, hl6, _⟩
    walk_at "go"
    intro e6 he6
    have k7 : Fr NoA J6 (upd J6 e6 (.dK [])) := .new he6
    have g7 := g6.fr0 k7
    have hD7 := k7.keep _ _ hD6 (no _)
    have hn7 := k7.keep _ _ hn6 (no _)
    have hl7 := k7.keep _ _ hl6 (no _)
    generalize upd J6 e6 (.dK []) = J7 at g7 hD7 hn7 hl7 ⊢
    clear g6 hD6 hn6 hl6 k7
    walk_at "go"
    refine g_app hD7 (by rw [List.length_map]; omega) ?_
    have g8 := g7.fr (.put (p := D) (o := .lst (bs.map V.ref ++ [.ref e6])) ⟨OJ5.phi.1, inD⟩)
    have hn8 : (upd J7 D (.lst (bs.map V.ref ++ [.ref e6]))) dn = some (.dK (nmK ns)) := by rw [upd_ne nDn.symm]; exact hn7
    have hl8 : (upd J7 D (.lst (bs.map V.ref ++ [.ref e6]))) li = some (.lst ((f0 :: fr).map V.str)) := by rw [upd_ne nDl.symm]; exact hl7
    generalize upd J7 D (.lst (bs.map V.ref ++ [.ref e6])) = J8 at g8 hn8 hl8 ⊢
    clear g7 hD7 hn7 hl7
    walk_at "go"
    refine g_app hl8 (by rw [List.length_map]; have := ok.f2; omega) ?_
    have g9 := g8.fr (.put (p := li) (o := .lst ((f0 :: fr).map V.str ++ [.str "zz"])) ⟨li8, inL⟩)
    have hn9 : (upd J8 li (.lst ((f0 :: fr).map V.str ++ [.str "zz"]))) dn = some (.dK (nmK ns)) := by rw [upd_ne ndl]; exact hn8
    generalize upd J8 li (.lst ((f0 :: fr).map V.str ++ [.str "zz"])) = J9 at g9 hn9 ⊢
    clear g8 hn8 hl8
    walk_at "go"
    refine g_dputS hn9 (by unfold nmK; rw [List.length_map]; have := ok.nl; omega) ?_
    have g10 := g9.fr (.put (p := dn) (o := .dK (putK (nmK ns) (.inr "zzzzzzzzz") (.int 0))) ⟨dn8, inN⟩)
    generalize upd J9 dn (.dK (putK (nmK ns) (.inr "zzzzzzzzz") (.int 0))) = J10 at g10 ⊢
    clear g9 hn9
    walk_at "go"
    obtain ⟨t', l', d', dx', sv', as', ys', hx', _⟩ := id g10.hp.ex
    refine ⟨x, dx', _, rfl, hx', lk_no _ _ _ _ (by decide +kernel), ?_⟩
    refine ⟨_, x, _, os, ns, rfl, g10.hp, by omega, fun tl cs J11 O11 f11 => ?_⟩
    have g11 := g10.fr0 f11
    walk_at "go"
    have ncT : ∀ b ∈ cs, b ≠ tl := O11.nl
    have new : ∀ b ∈ cs, J10 b = none := O11.phi.2
    have newT : J10 tl = none := O11.phi.1
    have lc : cs.length ≤ 200 := by rw [O11.len]; exact ol
    have big2 : ∀ b ∈ cs, ∃ kvs, J11 b = some (.dK kvs) ∧ kvs.length ≤ 10 := fun b hb => by
      obtain ⟨j, hj, e⟩ := List.getElem_of_mem hb
      have hj2 : j < os.length := by rw [← O11.len]; exact hj
      refine ⟨_, O11.obj j b os[j] (by rw [← e]; simp) (by simp), ?_⟩
      have := (ok.ob.row os[j] (List.getElem_mem hj2)).1
      have := ok.f2
      unfold rowK
      rw [List.length_map, List.length_zip]
      omega
    refine ⟨tl, rfl, ⟨_, lq O11.lst⟩, for_list (K := K) (a := tl) (xs := cs.map V.ref) (fun i σ' J' => ∃ u1, σ' = [some (.ref a), some (.ref p), some (.bl lg), some (.int (n : Nat)), some (.int (cn : Nat)), some (.ref fl), some (.ref wl), some (.str st), some (.ref l), some (.ref d), u1, some (.ref D), some (.ref dn), some (.ref li), some (.ref x), u5, some (.ref tl), none] ∧ Fr NoA J10 J' ∧ J' tl = some (.lst (cs.map V.ref)) ∧ ∀ b ∈ cs, ∃ kvs, J' b = some (.dK kvs) ∧ kvs.length ≤ 10 + i) ⟨_, rfl, f11, O11.lst, big2⟩ (fun i σ' J' _ ⟨_, _, _, e, _⟩ => lq e) ?_ ?_⟩
    · rintro i y σ' J' hy ⟨u1, rfl, f', hT', bg⟩
      rw [List.getElem?_map] at hy
      cases e : cs[i]? with
      | none => rw [e] at hy; cases hy
      | some b =>
      rw [e] at hy
      cases hy
      have hb := List.mem_of_getElem? e
      have il : i < cs.length := (List.getElem?_eq_some_iff.mp e).1
      obtain ⟨kvs, hkv, lkv⟩ := bg b hb
      walk_at "go"
      refine g_ixL (lq (g10.fr0 f').flq) atI_0 ?_
      refine g_dputS hkv (by omega) ?_
      refine ⟨_, rfl, f'.upd0 (new b hb), by rw [upd_ne (ncT b hb).symm]; exact hT', fun b' hb' => ?_⟩
      by_cases eb : b' = b
      · subst eb
        refine ⟨_, upd_same, ?_⟩
        have : (putK kvs (.inr f0) (V.int 5)).length ≤ kvs.length + 1 := by
          unfold putK
          split
          · rw [List.length_map]; omega
          · rw [List.length_append]; simp
        omega
      · obtain ⟨kvs', h1, h2⟩ := bg b' hb'
        exact ⟨kvs', by rw [upd_ne eb]; exact h1, by omega⟩
    rintro σ' J12 ⟨u7, rfl, f12, hT12, _⟩
    walk_at "go"
    refine g_app hT12 (by rw [List.length_map]; omega) ?_
    have g13 := g10.fr0 (f12.upd0 (p := tl) (o := .lst (cs.map V.ref ++ [.non])) newT)
    generalize upd J12 tl (.lst (cs.map V.ref ++ [.non])) = J13 at g13 ⊢
    clear g10 g11 f12 hT12 O11 f11
    walk_at "go"
    obtain ⟨t', l', d', dx', sv', as', ys', hx', _⟩ := id g13.hp.ex
    refine ⟨x, dx', _, rfl, hx', lk_no _ _ _ _ (by decide +kernel), ?_⟩
    refine ⟨_, x, _, os, ns, rfl, g13.hp, fun dm J14 hdm hdm14 f14 => ?_⟩
    walk_at "go"
    refine g_dputS hdm14 (by unfold nmK; rw [List.length_map]; have := ok.nl; omega) ?_
    have g15 := g13.fr0 (f14.upd0 (p := dm) (o := .dK (putK (nmK ns) (.inr "zzzzzzzzz") (.int 1))) hdm)
    generalize upd J14 dm (.dK (putK (nmK ns) (.inr "zzzzzzzzz") (.int 1))) = J15 at g15 ⊢
    clear g13
    walk_at "go"
    refine ⟨_, x, fl, l, d, as, _, os, ns, rfl, g15.hp, ok, lq g15.flq, g15.ob.imp fun _ _ => True.intro, g15.nm, ndL, fun J16 f16 => ?_⟩
    walk_at "go"
    refine iteT ?_
    walk_at "go"
    refine ⟨_, x, _, _, os, ns, rfl, (g15.fr0 f16).hp, ok, .inl ⟨_, rfl, fun hz => ?_⟩, fun J17 _ => k J17⟩
    obtain ⟨y, hy, e⟩ := List.mem_map.mp hz
    have := (ok.nw y hy).1.2.1
    rw [e] at this
    exact absurd this (by decide +kernel)

end
theorem all_mk {l : PySem.W.OpenLaw} {w : World} {K : PySem.W.Frag} {h : Heap} {mg : Str → Option Value} {fa : Addr} (X : K.In h) (Gn : h.Ns mainGlobals mg) (hfa : mg "law" = some (.ref fa))
    {C_Heap' : Addr}
    {X_InvalidArgument' f_xInvalidArgument : Addr} {nm_xInvalidArgument q_xInvalidArgument : Str} {N_xInvalidArgument : Addr} {bs_xInvalidArgument bm_xInvalidArgument : List Value} {sn_xInvalidArgument : List Str} {sub_xInvalidArgument : List Value} {ab_xInvalidArgument : Bool} {col_xInvalidArgument : Option Bool} {dd_xInvalidArgument : Option Addr} {m0_xInvalidArgument m1_xInvalidArgument m2_xInvalidArgument m3_xInvalidArgument m5_xInvalidArgument : Option Value}
    {od_xInvalidArgument an_xInvalidArgument : Option Addr} {sl_xInvalidArgument : Array (Option Value)} {oc_xInvalidArgument kV_xInvalidArgument dc_xInvalidArgument pm_xInvalidArgument cd_xInvalidArgument ct_xInvalidArgument : Value}
    {f_l_draw : Addr} {od_l_draw an_l_draw : Option Addr} {sl_l_draw : Array (Option Value)} {oc_l_draw kV_l_draw dc_l_draw pm_l_draw cd_l_draw ct_l_draw : Value}
    {f_l_word : Addr} {od_l_word an_l_word : Option Addr} {sl_l_word : Array (Option Value)} {oc_l_word kV_l_word dc_l_word pm_l_word cd_l_word ct_l_word : Value}
    {f_l_words : Addr} {od_l_words an_l_words : Option Addr} {sl_l_words : Array (Option Value)} {oc_l_words kV_l_words dc_l_words pm_l_words cd_l_words ct_l_words : Value}
    {f_l_value : Addr} {od_l_value an_l_value : Option Addr} {sl_l_value : Array (Option Value)} {oc_l_value kV_l_value dc_l_value pm_l_value cd_l_value ct_l_value : Value}
    {f_l_objects : Addr} {od_l_objects an_l_objects : Option Addr} {sl_l_objects : Array (Option Value)} {oc_l_objects kV_l_objects dc_l_objects pm_l_objects cd_l_objects ct_l_objects : Value}
    {f_l_names : Addr} {od_l_names an_l_names : Option Addr} {sl_l_names : Array (Option Value)} {oc_l_names kV_l_names dc_l_names pm_l_names cd_l_names ct_l_names : Value}
    {f_is_integer : Addr} {od_is_integer an_is_integer : Option Addr} {sl_is_integer : Array (Option Value)} {oc_is_integer kV_is_integer dc_is_integer pm_is_integer cd_is_integer ct_is_integer : Value}
    {f_is_number_below : Addr} {od_is_number_below an_is_number_below : Option Addr} {sl_is_number_below : Array (Option Value)} {oc_is_number_below kV_is_number_below dc_is_number_below pm_is_number_below cd_is_number_below ct_is_number_below : Value}
    {f_is_word : Addr} {od_is_word an_is_word : Option Addr} {sl_is_word : Array (Option Value)} {oc_is_word kV_is_word dc_is_word pm_is_word cd_is_word ct_is_word : Value}
    {f_is_word_list : Addr} {od_is_word_list an_is_word_list : Option Addr} {sl_is_word_list : Array (Option Value)} {oc_is_word_list kV_is_word_list dc_is_word_list pm_is_word_list cd_is_word_list ct_is_word_list : Value}
    {f_is_object : Addr} {od_is_object an_is_object : Option Addr} {sl_is_object : Array (Option Value)} {oc_is_object kV_is_object dc_is_object pm_is_object cd_is_object ct_is_object : Value}
    {f_check_objects : Addr} {od_check_objects an_check_objects : Option Addr} {sl_check_objects : Array (Option Value)} {oc_check_objects kV_check_objects dc_check_objects pm_check_objects cd_check_objects ct_check_objects : Value}
    {f_check_names : Addr} {od_check_names an_check_names : Option Addr} {sl_check_names : Array (Option Value)} {oc_check_names kV_check_names dc_check_names pm_check_names cd_check_names ct_check_names : Value}
    {f_meeting_numbers : Addr} {od_meeting_numbers an_meeting_numbers : Option Addr} {sl_meeting_numbers : Array (Option Value)} {oc_meeting_numbers kV_meeting_numbers dc_meeting_numbers pm_meeting_numbers cd_meeting_numbers ct_meeting_numbers : Value}
    {f_renumbered : Addr} {od_renumbered an_renumbered : Option Addr} {sl_renumbered : Array (Option Value)} {oc_renumbered kV_renumbered dc_renumbered pm_renumbered cd_renumbered ct_renumbered : Value}
    {f_Heap_reckoned_shape : Addr} {od_Heap_reckoned_shape an_Heap_reckoned_shape : Option Addr} {sl_Heap_reckoned_shape : Array (Option Value)} {oc_Heap_reckoned_shape kV_Heap_reckoned_shape dc_Heap_reckoned_shape pm_Heap_reckoned_shape cd_Heap_reckoned_shape ct_Heap_reckoned_shape : Value}
    {f_Heap_init : Addr} {od_Heap_init an_Heap_init : Option Addr} {sl_Heap_init : Array (Option Value)} {oc_Heap_init kV_Heap_init dc_Heap_init pm_Heap_init cd_Heap_init ct_Heap_init : Value}
    {f_Heap_len : Addr} {od_Heap_len an_Heap_len : Option Addr} {sl_Heap_len : Array (Option Value)} {oc_Heap_len kV_Heap_len dc_Heap_len pm_Heap_len cd_Heap_len ct_Heap_len : Value}
    {f_Heap_contains : Addr} {od_Heap_contains an_Heap_contains : Option Addr} {sl_Heap_contains : Array (Option Value)} {oc_Heap_contains kV_Heap_contains dc_Heap_contains pm_Heap_contains cd_Heap_contains ct_Heap_contains : Value}
    {f_Heap_objects : Addr} {od_Heap_objects an_Heap_objects : Option Addr} {sl_Heap_objects : Array (Option Value)} {oc_Heap_objects kV_Heap_objects dc_Heap_objects pm_Heap_objects cd_Heap_objects ct_Heap_objects : Value}
    {f_Heap_names : Addr} {od_Heap_names an_Heap_names : Option Addr} {sl_Heap_names : Array (Option Value)} {oc_Heap_names kV_Heap_names dc_Heap_names pm_Heap_names cd_Heap_names ct_Heap_names : Value}
    {f_Heap_getitem : Addr} {od_Heap_getitem an_Heap_getitem : Option Addr} {sl_Heap_getitem : Array (Option Value)} {oc_Heap_getitem kV_Heap_getitem dc_Heap_getitem pm_Heap_getitem cd_Heap_getitem ct_Heap_getitem : Value}
    {f_l_is_integer : Addr} {od_l_is_integer an_l_is_integer : Option Addr} {sl_l_is_integer : Array (Option Value)} {oc_l_is_integer kV_l_is_integer dc_l_is_integer pm_l_is_integer cd_l_is_integer ct_l_is_integer : Value}
    {f_l_same : Addr} {od_l_same an_l_same : Option Addr} {sl_l_same : Array (Option Value)} {oc_l_same kV_l_same dc_l_same pm_l_same cd_l_same ct_l_same : Value}
    {f_l_same_items : Addr} {od_l_same_items an_l_same_items : Option Addr} {sl_l_same_items : Array (Option Value)} {oc_l_same_items kV_l_same_items dc_l_same_items pm_l_same_items cd_l_same_items ct_l_same_items : Value}
    {f_l_gives_back : Addr} {od_l_gives_back an_l_gives_back : Option Addr} {sl_l_gives_back : Array (Option Value)} {oc_l_gives_back kV_l_gives_back dc_l_gives_back pm_l_gives_back cd_l_gives_back ct_l_gives_back : Value}
    {f_l_is_stranger : Addr} {od_l_is_stranger an_l_is_stranger : Option Addr} {sl_l_is_stranger : Array (Option Value)} {oc_l_is_stranger kV_l_is_stranger dc_l_is_stranger pm_l_is_stranger cd_l_is_stranger ct_l_is_stranger : Value}
    {f_law : Addr} {od_law an_law : Option Addr} {sl_law : Array (Option Value)} {oc_law kV_law dc_law pm_law cd_law ct_law : Value}
    {t_LETTERS : Tok}
    {t_LONGEST : Tok}
    {t_MOST_OBJECTS : Tok}
    {t_MOST_NAMES : Tok}
    (aC_Heap : PySem.W.nsIn K mainGlobals "Heap" = some (some (.ref C_Heap')))
    (pg_Heap : PySem.W.plainGet K C_Heap' Str.empty = true)
    (hd_Heap : PySem.W.hasDictIn K C_Heap' = true)
    (po_Heap : PySem.W.plainOver K C_Heap' = true)
    (sa_Heap : PySem.W.findIn K (.ref C_Heap') "__setattr__" = some (some (.builtin "object.__setattr__")))
    (mk_Heap : PySem.W.makesIn K C_Heap' = true)
    (kc_Heap : PySem.W.keepIn K (.ref C_Heap') = true)
    (n_Heap_fields : PySem.W.findIn K (.ref C_Heap') "fields" = some none)
    (n_Heap_held : PySem.W.findIn K (.ref C_Heap') "held" = some none)
    (n_Heap_holders : PySem.W.findIn K (.ref C_Heap') "holders" = some none)
    (n_Heap_shape : PySem.W.findIn K (.ref C_Heap') "shape" = some none)
    (a_xInvalidArgument : PySem.W.nsIn K mainGlobals "InvalidArgument" = some (some (.ref X_InvalidArgument')))
    (xl_xInvalidArgument : K.lookup X_InvalidArgument' = some (excClassObj nm_xInvalidArgument q_xInvalidArgument X_InvalidArgument' N_xInvalidArgument bs_xInvalidArgument bm_xInvalidArgument true sn_xInvalidArgument sub_xInvalidArgument ab_xInvalidArgument col_xInvalidArgument dd_xInvalidArgument m0_xInvalidArgument m1_xInvalidArgument m2_xInvalidArgument m3_xInvalidArgument m5_xInvalidArgument "ValueError.__new__"))
    (bm_ok_xInvalidArgument : PySem.HandSPX.refsVE bm_xInvalidArgument = true)
    (sa_xInvalidArgument : PySem.W.findIn K (.ref X_InvalidArgument') "__setattr__" = some (some (.builtin "object.__setattr__")))
    (ga_xInvalidArgument : PySem.W.findIn K (.ref X_InvalidArgument') "__getattribute__" = some (some (.builtin "BaseException.__getattribute__")))
    (gg_xInvalidArgument : PySem.W.findIn K (.ref X_InvalidArgument') "__getattr__" = some none)
    (nf_xInvalidArgument_part : PySem.W.findIn K (.ref X_InvalidArgument') "part" = some none)
    (kC_xInvalidArgument : PySem.W.keepIn K (.ref X_InvalidArgument') = true)
    (eC_xInvalidArgument : PySem.W.subIn K (.ref X_InvalidArgument') (.type "BaseException") = some true)
    (tC_xInvalidArgument : PySem.W.typeIn K (.ref X_InvalidArgument') = some (.type "type"))
    (hC_xInvalidArgument : PySem.W.hasDictIn K X_InvalidArgument' = true)
    (iC_xInvalidArgument : PySem.W.isClsIn K X_InvalidArgument' = true)
    (sC_xInvalidArgument : PySem.W.subIn K (.ref X_InvalidArgument') (.ref X_InvalidArgument') = some true)
    (ii_xInvalidArgument : PySem.W.findIn K (.ref X_InvalidArgument') "__init__" = some (some (.ref f_xInvalidArgument)))
    (ti_xInvalidArgument : PySem.W.typeIn K (.ref f_xInvalidArgument) = some (.type "function"))
    (l_xInvalidArgument : K.lookup f_xInvalidArgument = some ⟨oc_xInvalidArgument, od_xInvalidArgument, .func (PySem.W.fnOf "__init__" "InvalidArgument.__init__" (defArgs s_InvalidArgument_init) (defBody s_InvalidArgument_init) (defScope s_InvalidArgument_init) .none kV_xInvalidArgument dc_xInvalidArgument pm_xInvalidArgument an_xInvalidArgument cd_xInvalidArgument ct_xInvalidArgument), sl_xInvalidArgument⟩)
    (c_xInvalidArgument : PySem.W.codeIn K cd_xInvalidArgument "InvalidArgument.__init__" = true)
    (k_xInvalidArgument : PySem.W.keepIn K (.ref f_xInvalidArgument) = true)
    (a_l_draw : PySem.W.nsIn K mainGlobals "_law_draw" = some (some (.ref f_l_draw)))
    (l_l_draw : K.lookup f_l_draw = some ⟨oc_l_draw, od_l_draw, .func (PySem.W.fnOf "_law_draw" "_law_draw" (defArgs s_l_draw) (defBody s_l_draw) (defScope s_l_draw) .none kV_l_draw dc_l_draw pm_l_draw an_l_draw cd_l_draw ct_l_draw), sl_l_draw⟩)
    (c_l_draw : PySem.W.codeIn K cd_l_draw "_law_draw" = true)
    (k_l_draw : PySem.W.keepIn K (.ref f_l_draw) = true)
    (a_l_word : PySem.W.nsIn K mainGlobals "_law_word" = some (some (.ref f_l_word)))
    (l_l_word : K.lookup f_l_word = some ⟨oc_l_word, od_l_word, .func (PySem.W.fnOf "_law_word" "_law_word" (defArgs s_l_word) (defBody s_l_word) (defScope s_l_word) .none kV_l_word dc_l_word pm_l_word an_l_word cd_l_word ct_l_word), sl_l_word⟩)
    (c_l_word : PySem.W.codeIn K cd_l_word "_law_word" = true)
    (k_l_word : PySem.W.keepIn K (.ref f_l_word) = true)
    (a_l_words : PySem.W.nsIn K mainGlobals "_law_words" = some (some (.ref f_l_words)))
    (l_l_words : K.lookup f_l_words = some ⟨oc_l_words, od_l_words, .func (PySem.W.fnOf "_law_words" "_law_words" (defArgs s_l_words) (defBody s_l_words) (defScope s_l_words) .none kV_l_words dc_l_words pm_l_words an_l_words cd_l_words ct_l_words), sl_l_words⟩)
    (c_l_words : PySem.W.codeIn K cd_l_words "_law_words" = true)
    (k_l_words : PySem.W.keepIn K (.ref f_l_words) = true)
    (a_l_value : PySem.W.nsIn K mainGlobals "_law_value" = some (some (.ref f_l_value)))
    (l_l_value : K.lookup f_l_value = some ⟨oc_l_value, od_l_value, .func (PySem.W.fnOf "_law_value" "_law_value" (defArgs s_l_value) (defBody s_l_value) (defScope s_l_value) .none kV_l_value dc_l_value pm_l_value an_l_value cd_l_value ct_l_value), sl_l_value⟩)
    (c_l_value : PySem.W.codeIn K cd_l_value "_law_value" = true)
    (k_l_value : PySem.W.keepIn K (.ref f_l_value) = true)
    (a_l_objects : PySem.W.nsIn K mainGlobals "_law_objects" = some (some (.ref f_l_objects)))
    (l_l_objects : K.lookup f_l_objects = some ⟨oc_l_objects, od_l_objects, .func (PySem.W.fnOf "_law_objects" "_law_objects" (defArgs s_l_objects) (defBody s_l_objects) (defScope s_l_objects) .none kV_l_objects dc_l_objects pm_l_objects an_l_objects cd_l_objects ct_l_objects), sl_l_objects⟩)
    (c_l_objects : PySem.W.codeIn K cd_l_objects "_law_objects" = true)
    (k_l_objects : PySem.W.keepIn K (.ref f_l_objects) = true)
    (a_l_names : PySem.W.nsIn K mainGlobals "_law_names" = some (some (.ref f_l_names)))
    (l_l_names : K.lookup f_l_names = some ⟨oc_l_names, od_l_names, .func (PySem.W.fnOf "_law_names" "_law_names" (defArgs s_l_names) (defBody s_l_names) (defScope s_l_names) .none kV_l_names dc_l_names pm_l_names an_l_names cd_l_names ct_l_names), sl_l_names⟩)
    (c_l_names : PySem.W.codeIn K cd_l_names "_law_names" = true)
    (k_l_names : PySem.W.keepIn K (.ref f_l_names) = true)
    (a_is_integer : PySem.W.nsIn K mainGlobals "is_integer" = some (some (.ref f_is_integer)))
    (l_is_integer : K.lookup f_is_integer = some ⟨oc_is_integer, od_is_integer, .func (PySem.W.fnOf "is_integer" "is_integer" (defArgs s_is_integer) (defBody s_is_integer) (defScope s_is_integer) .none kV_is_integer dc_is_integer pm_is_integer an_is_integer cd_is_integer ct_is_integer), sl_is_integer⟩)
    (c_is_integer : PySem.W.codeIn K cd_is_integer "is_integer" = true)
    (k_is_integer : PySem.W.keepIn K (.ref f_is_integer) = true)
    (a_is_number_below : PySem.W.nsIn K mainGlobals "is_number_below" = some (some (.ref f_is_number_below)))
    (l_is_number_below : K.lookup f_is_number_below = some ⟨oc_is_number_below, od_is_number_below, .func (PySem.W.fnOf "is_number_below" "is_number_below" (defArgs s_is_number_below) (defBody s_is_number_below) (defScope s_is_number_below) .none kV_is_number_below dc_is_number_below pm_is_number_below an_is_number_below cd_is_number_below ct_is_number_below), sl_is_number_below⟩)
    (c_is_number_below : PySem.W.codeIn K cd_is_number_below "is_number_below" = true)
    (k_is_number_below : PySem.W.keepIn K (.ref f_is_number_below) = true)
    (a_is_word : PySem.W.nsIn K mainGlobals "is_word" = some (some (.ref f_is_word)))
    (l_is_word : K.lookup f_is_word = some ⟨oc_is_word, od_is_word, .func (PySem.W.fnOf "is_word" "is_word" (defArgs s_is_word) (defBody s_is_word) (defScope s_is_word) .none kV_is_word dc_is_word pm_is_word an_is_word cd_is_word ct_is_word), sl_is_word⟩)
    (c_is_word : PySem.W.codeIn K cd_is_word "is_word" = true)
    (k_is_word : PySem.W.keepIn K (.ref f_is_word) = true)
    (a_is_word_list : PySem.W.nsIn K mainGlobals "is_word_list" = some (some (.ref f_is_word_list)))
    (l_is_word_list : K.lookup f_is_word_list = some ⟨oc_is_word_list, od_is_word_list, .func (PySem.W.fnOf "is_word_list" "is_word_list" (defArgs s_is_word_list) (defBody s_is_word_list) (defScope s_is_word_list) .none kV_is_word_list dc_is_word_list pm_is_word_list an_is_word_list cd_is_word_list ct_is_word_list), sl_is_word_list⟩)
    (c_is_word_list : PySem.W.codeIn K cd_is_word_list "is_word_list" = true)
    (k_is_word_list : PySem.W.keepIn K (.ref f_is_word_list) = true)
    (a_is_object : PySem.W.nsIn K mainGlobals "is_object" = some (some (.ref f_is_object)))
    (l_is_object : K.lookup f_is_object = some ⟨oc_is_object, od_is_object, .func (PySem.W.fnOf "is_object" "is_object" (defArgs s_is_object) (defBody s_is_object) (defScope s_is_object) .none kV_is_object dc_is_object pm_is_object an_is_object cd_is_object ct_is_object), sl_is_object⟩)
    (c_is_object : PySem.W.codeIn K cd_is_object "is_object" = true)
    (k_is_object : PySem.W.keepIn K (.ref f_is_object) = true)
    (a_check_objects : PySem.W.nsIn K mainGlobals "check_objects" = some (some (.ref f_check_objects)))
    (l_check_objects : K.lookup f_check_objects = some ⟨oc_check_objects, od_check_objects, .func (PySem.W.fnOf "check_objects" "check_objects" (defArgs s_check_objects) (defBody s_check_objects) (defScope s_check_objects) .none kV_check_objects dc_check_objects pm_check_objects an_check_objects cd_check_objects ct_check_objects), sl_check_objects⟩)
    (c_check_objects : PySem.W.codeIn K cd_check_objects "check_objects" = true)
    (k_check_objects : PySem.W.keepIn K (.ref f_check_objects) = true)
    (a_check_names : PySem.W.nsIn K mainGlobals "check_names" = some (some (.ref f_check_names)))
    (l_check_names : K.lookup f_check_names = some ⟨oc_check_names, od_check_names, .func (PySem.W.fnOf "check_names" "check_names" (defArgs s_check_names) (defBody s_check_names) (defScope s_check_names) .none kV_check_names dc_check_names pm_check_names an_check_names cd_check_names ct_check_names), sl_check_names⟩)
    (c_check_names : PySem.W.codeIn K cd_check_names "check_names" = true)
    (k_check_names : PySem.W.keepIn K (.ref f_check_names) = true)
    (a_meeting_numbers : PySem.W.nsIn K mainGlobals "meeting_numbers" = some (some (.ref f_meeting_numbers)))
    (l_meeting_numbers : K.lookup f_meeting_numbers = some ⟨oc_meeting_numbers, od_meeting_numbers, .func (PySem.W.fnOf "meeting_numbers" "meeting_numbers" (defArgs s_meeting_numbers) (defBody s_meeting_numbers) (defScope s_meeting_numbers) .none kV_meeting_numbers dc_meeting_numbers pm_meeting_numbers an_meeting_numbers cd_meeting_numbers ct_meeting_numbers), sl_meeting_numbers⟩)
    (c_meeting_numbers : PySem.W.codeIn K cd_meeting_numbers "meeting_numbers" = true)
    (k_meeting_numbers : PySem.W.keepIn K (.ref f_meeting_numbers) = true)
    (a_renumbered : PySem.W.nsIn K mainGlobals "renumbered" = some (some (.ref f_renumbered)))
    (l_renumbered : K.lookup f_renumbered = some ⟨oc_renumbered, od_renumbered, .func (PySem.W.fnOf "renumbered" "renumbered" (defArgs s_renumbered) (defBody s_renumbered) (defScope s_renumbered) .none kV_renumbered dc_renumbered pm_renumbered an_renumbered cd_renumbered ct_renumbered), sl_renumbered⟩)
    (c_renumbered : PySem.W.codeIn K cd_renumbered "renumbered" = true)
    (k_renumbered : PySem.W.keepIn K (.ref f_renumbered) = true)
    (a_Heap_reckoned_shape : PySem.W.findIn K (.ref C_Heap') "reckoned_shape" = some (some (.ref f_Heap_reckoned_shape)))
    (i_Heap_reckoned_shape : PySem.W.isFn K (.ref f_Heap_reckoned_shape) = true)
    (l_Heap_reckoned_shape : K.lookup f_Heap_reckoned_shape = some ⟨oc_Heap_reckoned_shape, od_Heap_reckoned_shape, .func (PySem.W.fnOf "reckoned_shape" "Heap.reckoned_shape" (defArgs s_Heap_reckoned_shape) (defBody s_Heap_reckoned_shape) (defScope s_Heap_reckoned_shape) .none kV_Heap_reckoned_shape dc_Heap_reckoned_shape pm_Heap_reckoned_shape an_Heap_reckoned_shape cd_Heap_reckoned_shape ct_Heap_reckoned_shape), sl_Heap_reckoned_shape⟩)
    (c_Heap_reckoned_shape : PySem.W.codeIn K cd_Heap_reckoned_shape "Heap.reckoned_shape" = true)
    (k_Heap_reckoned_shape : PySem.W.keepIn K (.ref f_Heap_reckoned_shape) = true)
    (a_Heap_init : PySem.W.findIn K (.ref C_Heap') "__init__" = some (some (.ref f_Heap_init)))
    (i_Heap_init : PySem.W.isFn K (.ref f_Heap_init) = true)
    (l_Heap_init : K.lookup f_Heap_init = some ⟨oc_Heap_init, od_Heap_init, .func (PySem.W.fnOf "__init__" "Heap.__init__" (defArgs s_Heap_init) (defBody s_Heap_init) (defScope s_Heap_init) .none kV_Heap_init dc_Heap_init pm_Heap_init an_Heap_init cd_Heap_init ct_Heap_init), sl_Heap_init⟩)
    (c_Heap_init : PySem.W.codeIn K cd_Heap_init "Heap.__init__" = true)
    (k_Heap_init : PySem.W.keepIn K (.ref f_Heap_init) = true)
    (a_Heap_len : PySem.W.findIn K (.ref C_Heap') "__len__" = some (some (.ref f_Heap_len)))
    (i_Heap_len : PySem.W.isFn K (.ref f_Heap_len) = true)
    (l_Heap_len : K.lookup f_Heap_len = some ⟨oc_Heap_len, od_Heap_len, .func (PySem.W.fnOf "__len__" "Heap.__len__" (defArgs s_Heap_len) (defBody s_Heap_len) (defScope s_Heap_len) .none kV_Heap_len dc_Heap_len pm_Heap_len an_Heap_len cd_Heap_len ct_Heap_len), sl_Heap_len⟩)
    (c_Heap_len : PySem.W.codeIn K cd_Heap_len "Heap.__len__" = true)
    (k_Heap_len : PySem.W.keepIn K (.ref f_Heap_len) = true)
    (a_Heap_contains : PySem.W.findIn K (.ref C_Heap') "__contains__" = some (some (.ref f_Heap_contains)))
    (i_Heap_contains : PySem.W.isFn K (.ref f_Heap_contains) = true)
    (l_Heap_contains : K.lookup f_Heap_contains = some ⟨oc_Heap_contains, od_Heap_contains, .func (PySem.W.fnOf "__contains__" "Heap.__contains__" (defArgs s_Heap_contains) (defBody s_Heap_contains) (defScope s_Heap_contains) .none kV_Heap_contains dc_Heap_contains pm_Heap_contains an_Heap_contains cd_Heap_contains ct_Heap_contains), sl_Heap_contains⟩)
    (c_Heap_contains : PySem.W.codeIn K cd_Heap_contains "Heap.__contains__" = true)
    (k_Heap_contains : PySem.W.keepIn K (.ref f_Heap_contains) = true)
    (a_Heap_objects : PySem.W.findIn K (.ref C_Heap') "objects" = some (some (.ref f_Heap_objects)))
    (i_Heap_objects : PySem.W.isFn K (.ref f_Heap_objects) = true)
    (l_Heap_objects : K.lookup f_Heap_objects = some ⟨oc_Heap_objects, od_Heap_objects, .func (PySem.W.fnOf "objects" "Heap.objects" (defArgs s_Heap_objects) (defBody s_Heap_objects) (defScope s_Heap_objects) .none kV_Heap_objects dc_Heap_objects pm_Heap_objects an_Heap_objects cd_Heap_objects ct_Heap_objects), sl_Heap_objects⟩)
    (c_Heap_objects : PySem.W.codeIn K cd_Heap_objects "Heap.objects" = true)
    (k_Heap_objects : PySem.W.keepIn K (.ref f_Heap_objects) = true)
    (a_Heap_names : PySem.W.findIn K (.ref C_Heap') "names" = some (some (.ref f_Heap_names)))
    (i_Heap_names : PySem.W.isFn K (.ref f_Heap_names) = true)
    (l_Heap_names : K.lookup f_Heap_names = some ⟨oc_Heap_names, od_Heap_names, .func (PySem.W.fnOf "names" "Heap.names" (defArgs s_Heap_names) (defBody s_Heap_names) (defScope s_Heap_names) .none kV_Heap_names dc_Heap_names pm_Heap_names an_Heap_names cd_Heap_names ct_Heap_names), sl_Heap_names⟩)
    (c_Heap_names : PySem.W.codeIn K cd_Heap_names "Heap.names" = true)
    (k_Heap_names : PySem.W.keepIn K (.ref f_Heap_names) = true)
    (a_Heap_getitem : PySem.W.findIn K (.ref C_Heap') "__getitem__" = some (some (.ref f_Heap_getitem)))
    (i_Heap_getitem : PySem.W.isFn K (.ref f_Heap_getitem) = true)
    (l_Heap_getitem : K.lookup f_Heap_getitem = some ⟨oc_Heap_getitem, od_Heap_getitem, .func (PySem.W.fnOf "__getitem__" "Heap.__getitem__" (defArgs s_Heap_getitem) (defBody s_Heap_getitem) (defScope s_Heap_getitem) .none kV_Heap_getitem dc_Heap_getitem pm_Heap_getitem an_Heap_getitem cd_Heap_getitem ct_Heap_getitem), sl_Heap_getitem⟩)
    (c_Heap_getitem : PySem.W.codeIn K cd_Heap_getitem "Heap.__getitem__" = true)
    (k_Heap_getitem : PySem.W.keepIn K (.ref f_Heap_getitem) = true)
    (a_l_is_integer : PySem.W.nsIn K mainGlobals "_law_is_integer" = some (some (.ref f_l_is_integer)))
    (l_l_is_integer : K.lookup f_l_is_integer = some ⟨oc_l_is_integer, od_l_is_integer, .func (PySem.W.fnOf "_law_is_integer" "_law_is_integer" (defArgs s_l_is_integer) (defBody s_l_is_integer) (defScope s_l_is_integer) .none kV_l_is_integer dc_l_is_integer pm_l_is_integer an_l_is_integer cd_l_is_integer ct_l_is_integer), sl_l_is_integer⟩)
    (c_l_is_integer : PySem.W.codeIn K cd_l_is_integer "_law_is_integer" = true)
    (k_l_is_integer : PySem.W.keepIn K (.ref f_l_is_integer) = true)
    (a_l_same : PySem.W.nsIn K mainGlobals "_law_same" = some (some (.ref f_l_same)))
    (l_l_same : K.lookup f_l_same = some ⟨oc_l_same, od_l_same, .func (PySem.W.fnOf "_law_same" "_law_same" (defArgs s_l_same) (defBody s_l_same) (defScope s_l_same) .none kV_l_same dc_l_same pm_l_same an_l_same cd_l_same ct_l_same), sl_l_same⟩)
    (c_l_same : PySem.W.codeIn K cd_l_same "_law_same" = true)
    (k_l_same : PySem.W.keepIn K (.ref f_l_same) = true)
    (a_l_same_items : PySem.W.nsIn K mainGlobals "_law_same_items" = some (some (.ref f_l_same_items)))
    (l_l_same_items : K.lookup f_l_same_items = some ⟨oc_l_same_items, od_l_same_items, .func (PySem.W.fnOf "_law_same_items" "_law_same_items" (defArgs s_l_same_items) (defBody s_l_same_items) (defScope s_l_same_items) .none kV_l_same_items dc_l_same_items pm_l_same_items an_l_same_items cd_l_same_items ct_l_same_items), sl_l_same_items⟩)
    (c_l_same_items : PySem.W.codeIn K cd_l_same_items "_law_same_items" = true)
    (k_l_same_items : PySem.W.keepIn K (.ref f_l_same_items) = true)
    (a_l_gives_back : PySem.W.nsIn K mainGlobals "_law_gives_back" = some (some (.ref f_l_gives_back)))
    (l_l_gives_back : K.lookup f_l_gives_back = some ⟨oc_l_gives_back, od_l_gives_back, .func (PySem.W.fnOf "_law_gives_back" "_law_gives_back" (defArgs s_l_gives_back) (defBody s_l_gives_back) (defScope s_l_gives_back) .none kV_l_gives_back dc_l_gives_back pm_l_gives_back an_l_gives_back cd_l_gives_back ct_l_gives_back), sl_l_gives_back⟩)
    (c_l_gives_back : PySem.W.codeIn K cd_l_gives_back "_law_gives_back" = true)
    (k_l_gives_back : PySem.W.keepIn K (.ref f_l_gives_back) = true)
    (a_l_is_stranger : PySem.W.nsIn K mainGlobals "_law_is_stranger" = some (some (.ref f_l_is_stranger)))
    (l_l_is_stranger : K.lookup f_l_is_stranger = some ⟨oc_l_is_stranger, od_l_is_stranger, .func (PySem.W.fnOf "_law_is_stranger" "_law_is_stranger" (defArgs s_l_is_stranger) (defBody s_l_is_stranger) (defScope s_l_is_stranger) .none kV_l_is_stranger dc_l_is_stranger pm_l_is_stranger an_l_is_stranger cd_l_is_stranger ct_l_is_stranger), sl_l_is_stranger⟩)
    (c_l_is_stranger : PySem.W.codeIn K cd_l_is_stranger "_law_is_stranger" = true)
    (k_l_is_stranger : PySem.W.keepIn K (.ref f_l_is_stranger) = true)
    (a_law : PySem.W.nsIn K mainGlobals "law" = some (some (.ref f_law)))
    (l_law : K.lookup f_law = some ⟨oc_law, od_law, .func (PySem.W.fnOf "law" "law" (defArgs s_law) (defBody s_law) (defScope s_law) .none kV_law dc_law pm_law an_law cd_law ct_law), sl_law⟩)
    (c_law : PySem.W.codeIn K cd_law "law" = true)
    (k_law : PySem.W.keepIn K (.ref f_law) = true)
    (cc_LETTERS : PySem.W.nsIn K mainGlobals "LETTERS" = some (some (.str abc t_LETTERS)))
    (cc_LONGEST : PySem.W.nsIn K mainGlobals "LONGEST" = some (some (.int 8 t_LONGEST)))
    (cc_MOST_OBJECTS : PySem.W.nsIn K mainGlobals "MOST_OBJECTS" = some (some (.int 200 t_MOST_OBJECTS)))
    (cc_MOST_NAMES : PySem.W.nsIn K mainGlobals "MOST_NAMES" = some (some (.int 6 t_MOST_NAMES)))
    (z_len : PySem.W.nsIn K mainGlobals "len" = some none)
    (z_list : PySem.W.nsIn K mainGlobals "list" = some none)
    (z_tuple : PySem.W.nsIn K mainGlobals "tuple" = some none)
    (z_dict : PySem.W.nsIn K mainGlobals "dict" = some none)
    (z_int : PySem.W.nsIn K mainGlobals "int" = some none)
    (z_str : PySem.W.nsIn K mainGlobals "str" = some none)
    (z_bool : PySem.W.nsIn K mainGlobals "bool" = some none)
    (z_range : PySem.W.nsIn K mainGlobals "range" = some none)
    (z_isinstance : PySem.W.nsIn K mainGlobals "isinstance" = some none)
    (z_sorted : PySem.W.nsIn K mainGlobals "sorted" = some none)
    (z_enumerate : PySem.W.nsIn K mainGlobals "enumerate" = some none)
    (z_zip : PySem.W.nsIn K mainGlobals "zip" = some none)
    (z_min : PySem.W.nsIn K mainGlobals "min" = some none) :
    ∃ fd : FuncData, (∀ (s : Shared) (v : Value), BindsTo s fd ⟨[v], []⟩ [("_law_script", v)]) ∧ ∀ base : Heap, K.In base → base.Ns mainGlobals mg → FnOk l.prog w K mg base CX0 7 fa fd ["_law_script"] (spLaw K) := by
  have e := hfa.symm.trans (PySem.W.mg_of X Gn a_law)
  cases e
  have B : Blt mg := { len := PySem.W.mg_none_of X Gn z_len, list := PySem.W.mg_none_of X Gn z_list, tuple := PySem.W.mg_none_of X Gn z_tuple, dict := PySem.W.mg_none_of X Gn z_dict, int := PySem.W.mg_none_of X Gn z_int, str := PySem.W.mg_none_of X Gn z_str, bool := PySem.W.mg_none_of X Gn z_bool, range := PySem.W.mg_none_of X Gn z_range, isinstance := PySem.W.mg_none_of X Gn z_isinstance, sorted := PySem.W.mg_none_of X Gn z_sorted, enumerate := PySem.W.mg_none_of X Gn z_enumerate, zip := PySem.W.mg_none_of X Gn z_zip, min := PySem.W.mg_none_of X Gn z_min }
  have TW : WTxt mg := ⟨⟨_, PySem.W.mg_of X Gn cc_LETTERS, _, rfl⟩, ⟨_, PySem.W.mg_of X Gn cc_LONGEST, _, rfl⟩⟩
  have TH : HTxt mg := ⟨⟨_, PySem.W.mg_of X Gn cc_MOST_OBJECTS, _, rfl⟩, ⟨_, PySem.W.mg_of X Gn cc_MOST_NAMES, _, rfl⟩⟩
  have TC : HCls K C_Heap' := ⟨⟨pg_Heap, hd_Heap, po_Heap, sa_Heap⟩, n_Heap_fields, n_Heap_held, n_Heap_holders, n_Heap_shape⟩
  have F_l_draw := fun_mk (st := s_l_draw) l_l_draw c_l_draw k_l_draw
  have b_l_draw := F_l_draw.binds (ps := ["_law_pool", "_law_limit"]) fun _ _ _ _ _ _ us hl => match us, hl with | [_, _], _ => rfl
  have F_l_word := fun_mk (st := s_l_word) l_l_word c_l_word k_l_word
  have b_l_word := F_l_word.binds (ps := ["_law_pool", "_law_taken"]) fun _ _ _ _ _ _ us hl => match us, hl with | [_, _], _ => rfl
  have F_l_words := fun_mk (st := s_l_words) l_l_words c_l_words k_l_words
  have b_l_words := F_l_words.binds (ps := ["_law_pool", "_law_least", "_law_most"]) fun _ _ _ _ _ _ us hl => match us, hl with | [_, _, _], _ => rfl
  have F_l_value := fun_mk (st := s_l_value) l_l_value c_l_value k_l_value
  have b_l_value := F_l_value.binds (ps := ["_law_pool", "_law_count"]) fun _ _ _ _ _ _ us hl => match us, hl with | [_, _], _ => rfl
  have F_l_objects := fun_mk (st := s_l_objects) l_l_objects c_l_objects k_l_objects
  have b_l_objects := F_l_objects.binds (ps := ["_law_pool", "_law_fields", "_law_count"]) fun _ _ _ _ _ _ us hl => match us, hl with | [_, _, _], _ => rfl
  have F_l_names := fun_mk (st := s_l_names) l_l_names c_l_names k_l_names
  have b_l_names := F_l_names.binds (ps := ["_law_pool", "_law_names_here", "_law_count"]) fun _ _ _ _ _ _ us hl => match us, hl with | [_, _, _], _ => rfl
  have F_is_integer := fun_mk (st := s_is_integer) l_is_integer c_is_integer k_is_integer
  have b_is_integer := F_is_integer.binds (ps := ["value"]) fun _ _ _ _ _ _ us hl => match us, hl with | [_], _ => rfl
  have F_is_number_below := fun_mk (st := s_is_number_below) l_is_number_below c_is_number_below k_is_number_below
  have b_is_number_below := F_is_number_below.binds (ps := ["value", "count"]) fun _ _ _ _ _ _ us hl => match us, hl with | [_, _], _ => rfl
  have F_is_word := fun_mk (st := s_is_word) l_is_word c_is_word k_is_word
  have b_is_word := F_is_word.binds (ps := ["value"]) fun _ _ _ _ _ _ us hl => match us, hl with | [_], _ => rfl
  have F_is_word_list := fun_mk (st := s_is_word_list) l_is_word_list c_is_word_list k_is_word_list
  have b_is_word_list := F_is_word_list.binds (ps := ["values", "least", "most"]) fun _ _ _ _ _ _ us hl => match us, hl with | [_, _, _], _ => rfl
  have F_is_object := fun_mk (st := s_is_object) l_is_object c_is_object k_is_object
  have b_is_object := F_is_object.binds (ps := ["item", "fields", "count"]) fun _ _ _ _ _ _ us hl => match us, hl with | [_, _, _], _ => rfl
  have F_check_objects := fun_mk (st := s_check_objects) l_check_objects c_check_objects k_check_objects
  have b_check_objects := F_check_objects.binds (ps := ["objects", "fields"]) fun _ _ _ _ _ _ us hl => match us, hl with | [_, _], _ => rfl
  have F_check_names := fun_mk (st := s_check_names) l_check_names c_check_names k_check_names
  have b_check_names := F_check_names.binds (ps := ["names", "count"]) fun _ _ _ _ _ _ us hl => match us, hl with | [_, _], _ => rfl
  have F_meeting_numbers := fun_mk (st := s_meeting_numbers) l_meeting_numbers c_meeting_numbers k_meeting_numbers
  have b_meeting_numbers := F_meeting_numbers.binds (ps := ["objects", "fields", "roots"]) fun _ _ _ _ _ _ us hl => match us, hl with | [_, _, _], _ => rfl
  have F_renumbered := fun_mk (st := s_renumbered) l_renumbered c_renumbered k_renumbered
  have b_renumbered := F_renumbered.binds (ps := ["value", "numbers"]) fun _ _ _ _ _ _ us hl => match us, hl with | [_, _], _ => rfl
  have F_Heap_reckoned_shape := fun_mk (st := s_Heap_reckoned_shape) l_Heap_reckoned_shape c_Heap_reckoned_shape k_Heap_reckoned_shape
  have b_Heap_reckoned_shape := F_Heap_reckoned_shape.binds (ps := ["self"]) fun _ _ _ _ _ _ us hl => match us, hl with | [_], _ => rfl
  have F_Heap_init := fun_mk (st := s_Heap_init) l_Heap_init c_Heap_init k_Heap_init
  have b_Heap_init := F_Heap_init.binds (ps := ["self", "fields", "objects", "names"]) fun _ _ _ _ _ _ us hl => match us, hl with | [_, _, _, _], _ => rfl
  have F_Heap_len := fun_mk (st := s_Heap_len) l_Heap_len c_Heap_len k_Heap_len
  have b_Heap_len := F_Heap_len.binds (ps := ["self"]) fun _ _ _ _ _ _ us hl => match us, hl with | [_], _ => rfl
  have F_Heap_contains := fun_mk (st := s_Heap_contains) l_Heap_contains c_Heap_contains k_Heap_contains
  have b_Heap_contains := F_Heap_contains.binds (ps := ["self", "x"]) fun _ _ _ _ _ _ us hl => match us, hl with | [_, _], _ => rfl
  have F_Heap_objects := fun_mk (st := s_Heap_objects) l_Heap_objects c_Heap_objects k_Heap_objects
  have b_Heap_objects := F_Heap_objects.binds (ps := ["self"]) fun _ _ _ _ _ _ us hl => match us, hl with | [_], _ => rfl
  have F_Heap_names := fun_mk (st := s_Heap_names) l_Heap_names c_Heap_names k_Heap_names
  have b_Heap_names := F_Heap_names.binds (ps := ["self"]) fun _ _ _ _ _ _ us hl => match us, hl with | [_], _ => rfl
  have F_Heap_getitem := fun_mk (st := s_Heap_getitem) l_Heap_getitem c_Heap_getitem k_Heap_getitem
  have b_Heap_getitem := F_Heap_getitem.binds (ps := ["self", "at"]) fun _ _ _ _ _ _ us hl => match us, hl with | [_, _], _ => rfl
  have F_l_is_integer := fun_mk (st := s_l_is_integer) l_l_is_integer c_l_is_integer k_l_is_integer
  have b_l_is_integer := F_l_is_integer.binds (ps := ["_law_x"]) fun _ _ _ _ _ _ us hl => match us, hl with | [_], _ => rfl
  have F_l_same := fun_mk (st := s_l_same) l_l_same c_l_same k_l_same
  have b_l_same := F_l_same.binds (ps := ["_law_actual", "_law_due"]) fun _ _ _ _ _ _ us hl => match us, hl with | [_, _], _ => rfl
  have F_l_same_items := fun_mk (st := s_l_same_items) l_l_same_items c_l_same_items k_l_same_items
  have b_l_same_items := F_l_same_items.binds (ps := ["_law_actual", "_law_due"]) fun _ _ _ _ _ _ us hl => match us, hl with | [_, _], _ => rfl
  have F_l_gives_back := fun_mk (st := s_l_gives_back) l_l_gives_back c_l_gives_back k_l_gives_back
  have b_l_gives_back := F_l_gives_back.binds (ps := ["_law_heap", "_law_fields", "_law_objects_here", "_law_names_here"]) fun _ _ _ _ _ _ us hl => match us, hl with | [_, _, _, _], _ => rfl
  have F_l_is_stranger := fun_mk (st := s_l_is_stranger) l_l_is_stranger c_l_is_stranger k_l_is_stranger
  have b_l_is_stranger := F_l_is_stranger.binds (ps := ["_law_heap", "_law_key"]) fun _ _ _ _ _ _ us hl => match us, hl with | [_, _], _ => rfl
  have F_law := fun_mk (st := s_law) l_law c_law k_law
  have b_law := F_law.binds (ps := ["_law_script"]) fun _ _ _ _ _ _ us hl => match us, hl with | [_], _ => rfl
  have F_xInvalidArgument := fun_mk (st := s_InvalidArgument_init) l_xInvalidArgument c_xInvalidArgument k_xInvalidArgument
  have b_xInvalidArgument := F_xInvalidArgument.binds (ps := ["self", "part"]) fun _ _ _ _ _ _ us hl => match us, hl with | [_, _], _ => rfl
  have oex_xInvalidArgument : OexC K X_InvalidArgument' := ⟨⟨_, _, _, _, _, _, _, _, _, _, _, _, _, _, _, xl_xInvalidArgument, bm_ok_xInvalidArgument⟩, sa_xInvalidArgument, eC_xInvalidArgument, tC_xInvalidArgument, kC_xInvalidArgument⟩
  have te_xInvalidArgument : PySem.W.exmOne K (.ref X_InvalidArgument') (.ref X_InvalidArgument') = some true := exm_own eC_xInvalidArgument iC_xInvalidArgument tC_xInvalidArgument sC_xInvalidArgument
  refine ⟨PySem.W.fnOf "law" "law" (defArgs s_law) (defBody s_law) (defScope s_law) .none kV_law dc_law pm_law an_law cd_law ct_law, fun s v => .of_eq rfl, fun base _ _ => ?_⟩
  have nof_xInvalidArgument : ∀ f ∈ (["part"] : List Str), PySem.W.findIn K (.ref X_InvalidArgument') f = some none := fun f hf => by
    rw [List.mem_singleton.mp hf]
    exact nf_xInvalidArgument_part
  have XC_InvalidArgument : XCls l.prog w K mg base "InvalidArgument" X_InvalidArgument' ["part"] := { oex := oex_xInvalidArgument, mgx := PySem.W.mg_of X Gn a_xInvalidArgument, xf := ⟨ga_xInvalidArgument, gg_xInvalidArgument, eC_xInvalidArgument, hC_xInvalidArgument⟩, init := ⟨f_xInvalidArgument, _, _, ii_xInvalidArgument, ti_xInvalidArgument, ok_xi1 (x := "part") F_xInvalidArgument sc_InvalidArgument_init oex_xInvalidArgument nf_xInvalidArgument_part (by rfl) (.inl rfl) (.inl rfl) (by decide) (by decide), b_xInvalidArgument⟩, nof := nof_xInvalidArgument }
  have TA : ATxt l.prog w K mg base X_InvalidArgument' := ⟨XC_InvalidArgument⟩
  have FI_Heap : ∀ f, PySem.W.findIn K (.ref C_Heap') "__getitem__" = some (some (.ref f)) → PySem.W.fnIn K f = true := fun f hf => by
    have e := a_Heap_getitem.symm.trans hf
    cases e
    simp [PySem.W.fnIn, l_Heap_getitem]
  have G_l_draw : FnOk l.prog w K mg base CX0 1 f_l_draw _ ["_law_pool", "_law_limit"] spDraw := ok_l_draw F_l_draw B
  have C_l_draw : Cal l.prog w K mg base CX0 1 "_law_draw" spDraw := ⟨_, _, _, G_l_draw, PySem.W.mg_of X Gn a_l_draw, k_l_draw, b_l_draw⟩
  have G_l_word : FnOk l.prog w K mg base CX0 2 f_l_word _ ["_law_pool", "_law_taken"] (spWord K) := ok_l_word F_l_word B C_l_draw
  have C_l_word : Cal l.prog w K mg base CX0 2 "_law_word" (spWord K) := ⟨_, _, _, G_l_word, PySem.W.mg_of X Gn a_l_word, k_l_word, b_l_word⟩
  have G_l_words : FnOk l.prog w K mg base CX0 3 f_l_words _ ["_law_pool", "_law_least", "_law_most"] (spWords K) := ok_l_words F_l_words B C_l_draw C_l_word
  have C_l_words : Cal l.prog w K mg base CX0 3 "_law_words" (spWords K) := ⟨_, _, _, G_l_words, PySem.W.mg_of X Gn a_l_words, k_l_words, b_l_words⟩
  have G_l_value : FnOk l.prog w K mg base CX0 2 f_l_value _ ["_law_pool", "_law_count"] spValue := ok_l_value F_l_value B C_l_draw
  have C_l_value : Cal l.prog w K mg base CX0 2 "_law_value" spValue := ⟨_, _, _, G_l_value, PySem.W.mg_of X Gn a_l_value, k_l_value, b_l_value⟩
  have G_l_objects : FnOk l.prog w K mg base CX0 3 f_l_objects _ ["_law_pool", "_law_fields", "_law_count"] (spObjects K) := ok_l_objects F_l_objects B C_l_value
  have C_l_objects : Cal l.prog w K mg base CX0 3 "_law_objects" (spObjects K) := ⟨_, _, _, G_l_objects, PySem.W.mg_of X Gn a_l_objects, k_l_objects, b_l_objects⟩
  have G_l_names : FnOk l.prog w K mg base CX0 3 f_l_names _ ["_law_pool", "_law_names_here", "_law_count"] (spNames K) := ok_l_names F_l_names B C_l_draw
  have C_l_names : Cal l.prog w K mg base CX0 3 "_law_names" (spNames K) := ⟨_, _, _, G_l_names, PySem.W.mg_of X Gn a_l_names, k_l_names, b_l_names⟩
  have G_is_integer : FnOk l.prog w K mg base CX0 1 f_is_integer _ ["value"] (spIsInt K) := ok_is_integer F_is_integer B
  have C_is_integer : Cal l.prog w K mg base CX0 1 "is_integer" (spIsInt K) := ⟨_, _, _, G_is_integer, PySem.W.mg_of X Gn a_is_integer, k_is_integer, b_is_integer⟩
  have G_is_number_below : FnOk l.prog w K mg base CX0 2 f_is_number_below _ ["value", "count"] (spIsNumber K) := ok_is_number_below F_is_number_below B C_is_integer
  have C_is_number_below : Cal l.prog w K mg base CX0 2 "is_number_below" (spIsNumber K) := ⟨_, _, _, G_is_number_below, PySem.W.mg_of X Gn a_is_number_below, k_is_number_below, b_is_number_below⟩
  have G_is_word : FnOk l.prog w K mg base CX0 1 f_is_word _ ["value"] (spIsWord K) := ok_is_word F_is_word B TW
  have C_is_word : Cal l.prog w K mg base CX0 1 "is_word" (spIsWord K) := ⟨_, _, _, G_is_word, PySem.W.mg_of X Gn a_is_word, k_is_word, b_is_word⟩
  have G_is_word_list : FnOk l.prog w K mg base CX0 2 f_is_word_list _ ["values", "least", "most"] (spIsWordList K) := ok_is_word_list F_is_word_list B C_is_word
  have C_is_word_list : Cal l.prog w K mg base CX0 2 "is_word_list" (spIsWordList K) := ⟨_, _, _, G_is_word_list, PySem.W.mg_of X Gn a_is_word_list, k_is_word_list, b_is_word_list⟩
  have G_is_object : FnOk l.prog w K mg base CX0 3 f_is_object _ ["item", "fields", "count"] (spIsObj K) := ok_is_object F_is_object B C_is_number_below
  have C_is_object : Cal l.prog w K mg base CX0 3 "is_object" (spIsObj K) := ⟨_, _, _, G_is_object, PySem.W.mg_of X Gn a_is_object, k_is_object, b_is_object⟩
  have G_check_objects : FnOk l.prog w K mg base CX0 4 f_check_objects _ ["objects", "fields"] (spCheckObjs K) := ok_check_objects F_check_objects B TH C_is_object
  have C_check_objects : Cal l.prog w K mg base CX0 4 "check_objects" (spCheckObjs K) := ⟨_, _, _, G_check_objects, PySem.W.mg_of X Gn a_check_objects, k_check_objects, b_check_objects⟩
  have G_check_names : FnOk l.prog w K mg base CX0 4 f_check_names _ ["names", "count"] (spCheckNames K) := ok_check_names F_check_names B TH C_is_word C_is_number_below
  have C_check_names : Cal l.prog w K mg base CX0 4 "check_names" (spCheckNames K) := ⟨_, _, _, G_check_names, PySem.W.mg_of X Gn a_check_names, k_check_names, b_check_names⟩
  have G_meeting_numbers : FnOk l.prog w K mg base CX0 1 f_meeting_numbers _ ["objects", "fields", "roots"] (spMeeting K) := ok_meeting_numbers F_meeting_numbers B
  have C_meeting_numbers : Cal l.prog w K mg base CX0 1 "meeting_numbers" (spMeeting K) := ⟨_, _, _, G_meeting_numbers, PySem.W.mg_of X Gn a_meeting_numbers, k_meeting_numbers, b_meeting_numbers⟩
  have G_renumbered : FnOk l.prog w K mg base CX0 1 f_renumbered _ ["value", "numbers"] spRenum := ok_renumbered F_renumbered 
  have C_renumbered : Cal l.prog w K mg base CX0 1 "renumbered" spRenum := ⟨_, _, _, G_renumbered, PySem.W.mg_of X Gn a_renumbered, k_renumbered, b_renumbered⟩
  have G_Heap_reckoned_shape : FnOk l.prog w K mg base CX0 2 f_Heap_reckoned_shape _ ["self"] (spShape K C_Heap') := ok_Heap_reckoned_shape F_Heap_reckoned_shape B TC C_meeting_numbers C_renumbered
  have M_Heap_reckoned_shape : Met l.prog w K mg base CX0 2 C_Heap' "reckoned_shape" (spShape K C_Heap') := ⟨_, _, _, ⟨pg_Heap, hd_Heap, po_Heap, sa_Heap⟩, ⟨a_Heap_reckoned_shape, i_Heap_reckoned_shape, k_Heap_reckoned_shape⟩, G_Heap_reckoned_shape, b_Heap_reckoned_shape⟩
  have G_Heap_init : FnOk l.prog w K mg base CX0 5 f_Heap_init _ ["self", "fields", "objects", "names"] (spHeapInit K C_Heap') := ok_Heap_init F_Heap_init B TC C_is_word_list C_check_objects C_check_names M_Heap_reckoned_shape
  have K_Heap : Mak l.prog w K mg base CX0 5 "Heap" C_Heap' (spHeapInit K C_Heap') := ⟨_, _, _, ⟨mk_Heap, a_Heap_init, i_Heap_init, kc_Heap⟩, G_Heap_init, PySem.W.mg_of X Gn aC_Heap, b_Heap_init⟩
  have G_Heap_len : FnOk l.prog w K mg base CX0 1 f_Heap_len _ ["self"] (spHLen K C_Heap') := ok_Heap_len F_Heap_len B TC
  have M_Heap_len : Met l.prog w K mg base CX0 1 C_Heap' "__len__" (spHLen K C_Heap') := ⟨_, _, _, ⟨pg_Heap, hd_Heap, po_Heap, sa_Heap⟩, ⟨a_Heap_len, i_Heap_len, k_Heap_len⟩, G_Heap_len, b_Heap_len⟩
  have G_Heap_contains : FnOk l.prog w K mg base CX0 1 f_Heap_contains _ ["self", "x"] (spHIn K C_Heap') := ok_Heap_contains F_Heap_contains B TC
  have M_Heap_contains : Met l.prog w K mg base CX0 1 C_Heap' "__contains__" (spHIn K C_Heap') := ⟨_, _, _, ⟨pg_Heap, hd_Heap, po_Heap, sa_Heap⟩, ⟨a_Heap_contains, i_Heap_contains, k_Heap_contains⟩, G_Heap_contains, b_Heap_contains⟩
  have G_Heap_objects : FnOk l.prog w K mg base CX0 1 f_Heap_objects _ ["self"] (spHObjs K C_Heap') := ok_Heap_objects F_Heap_objects B TC
  have M_Heap_objects : Met l.prog w K mg base CX0 1 C_Heap' "objects" (spHObjs K C_Heap') := ⟨_, _, _, ⟨pg_Heap, hd_Heap, po_Heap, sa_Heap⟩, ⟨a_Heap_objects, i_Heap_objects, k_Heap_objects⟩, G_Heap_objects, b_Heap_objects⟩
  have G_Heap_names : FnOk l.prog w K mg base CX0 1 f_Heap_names _ ["self"] (spHNms K C_Heap') := ok_Heap_names F_Heap_names B TC
  have M_Heap_names : Met l.prog w K mg base CX0 1 C_Heap' "names" (spHNms K C_Heap') := ⟨_, _, _, ⟨pg_Heap, hd_Heap, po_Heap, sa_Heap⟩, ⟨a_Heap_names, i_Heap_names, k_Heap_names⟩, G_Heap_names, b_Heap_names⟩
  have G_Heap_getitem : FnOk l.prog w K mg base (CX l.prog w) 3 f_Heap_getitem _ ["self", "at"] (spRoot K C_Heap' X_InvalidArgument') := ok_Heap_getitem F_Heap_getitem B TC TA
  have M_Heap_getitem : Met l.prog w K mg base (CX l.prog w) 3 C_Heap' "__getitem__" (spRoot K C_Heap' X_InvalidArgument') := ⟨_, _, _, ⟨pg_Heap, hd_Heap, po_Heap, sa_Heap⟩, ⟨a_Heap_getitem, i_Heap_getitem, k_Heap_getitem⟩, G_Heap_getitem, b_Heap_getitem⟩
  have G_l_is_integer : FnOk l.prog w K mg base CX0 1 f_l_is_integer _ ["_law_x"] (spIsInt K) := ok_l_is_integer F_l_is_integer B
  have C_l_is_integer : Cal l.prog w K mg base CX0 1 "_law_is_integer" (spIsInt K) := ⟨_, _, _, G_l_is_integer, PySem.W.mg_of X Gn a_l_is_integer, k_l_is_integer, b_l_is_integer⟩
  have G_l_same : FnOk l.prog w K mg base CX0 2 f_l_same _ ["_law_actual", "_law_due"] spSame := ok_l_same F_l_same B C_l_is_integer
  have C_l_same : Cal l.prog w K mg base CX0 2 "_law_same" spSame := ⟨_, _, _, G_l_same, PySem.W.mg_of X Gn a_l_same, k_l_same, b_l_same⟩
  have G_l_same_items : FnOk l.prog w K mg base CX0 3 f_l_same_items _ ["_law_actual", "_law_due"] (spSameItems K) := ok_l_same_items F_l_same_items B C_l_same
  have C_l_same_items : Cal l.prog w K mg base CX0 3 "_law_same_items" (spSameItems K) := ⟨_, _, _, G_l_same_items, PySem.W.mg_of X Gn a_l_same_items, k_l_same_items, b_l_same_items⟩
  have G_l_gives_back : FnOk l.prog w K mg base CX0 5 f_l_gives_back _ ["_law_heap", "_law_fields", "_law_objects_here", "_law_names_here"] (spGives K C_Heap') := ok_l_gives_back F_l_gives_back B TC C_l_is_integer C_l_same C_l_same_items M_Heap_len M_Heap_contains M_Heap_getitem FI_Heap M_Heap_objects M_Heap_names
  have C_l_gives_back : Cal l.prog w K mg base CX0 5 "_law_gives_back" (spGives K C_Heap') := ⟨_, _, _, G_l_gives_back, PySem.W.mg_of X Gn a_l_gives_back, k_l_gives_back, b_l_gives_back⟩
  have G_l_is_stranger : FnOk l.prog w K mg base CX0 5 f_l_is_stranger _ ["_law_heap", "_law_key"] (spStranger K C_Heap') := ok_l_is_stranger F_l_is_stranger B TC TA te_xInvalidArgument M_Heap_contains M_Heap_getitem FI_Heap
  have C_l_is_stranger : Cal l.prog w K mg base CX0 5 "_law_is_stranger" (spStranger K C_Heap') := ⟨_, _, _, G_l_is_stranger, PySem.W.mg_of X Gn a_l_is_stranger, k_l_is_stranger, b_l_is_stranger⟩
  have G_law : FnOk l.prog w K mg base CX0 7 fa _ ["_law_script"] (spLaw K) := ok_law F_law B C_l_draw C_l_word C_l_words C_l_objects C_l_names C_l_gives_back C_l_is_stranger M_Heap_objects M_Heap_names K_Heap
  exact G_law
end Z
open PySem PySem.W PyProof.Rows
set_option maxRecDepth 100000 in
set_option maxHeartbeats 0 in
theorem PySem.Challenge.cw_thawedwrites_k01_heap_gives_back_holds : PySem.Challenge.rw_thawedwrites_k01_heap_gives_back.Holds := by
  w_on; o_law; k_head; (case hw => w_witness2)
  k_fill
  refine L2.walk_of (l := PySem.Challenge.rw_thawedwrites_k01_heap_gives_back) (n := 63) (k := 7) (x := "_law_script") (CX := fun _ => L2.CX0) (sp := fun w => G.spLaw _) rfl (by decide) rfl ⟨rfl, by decide, by decide⟩ (fun w h Y => PySem.W.kIn_of Y) ?F (fun _ _ a ns hl _ hS => ⟨a, ns, rfl, hS, hl, fun _ => rfl⟩) (fun _ _ _ _ _ h => h)
  case F =>
    intro w mg fa h KX Gn hmg
    refine' Z.all_mk KX Gn hmg ?aC_Heap ?pg_Heap ?hd_Heap ?po_Heap ?sa_Heap ?mk_Heap ?kc_Heap ?n_Heap_fields ?n_Heap_held ?n_Heap_holders ?n_Heap_shape ?a_xInvalidArgument ?xl_xInvalidArgument ?bm_ok_xInvalidArgument ?sa_xInvalidArgument ?ga_xInvalidArgument ?gg_xInvalidArgument ?nf_xInvalidArgument_part ?kC_xInvalidArgument ?eC_xInvalidArgument ?tC_xInvalidArgument ?hC_xInvalidArgument ?iC_xInvalidArgument ?sC_xInvalidArgument ?ii_xInvalidArgument ?ti_xInvalidArgument ?l_xInvalidArgument ?c_xInvalidArgument ?k_xInvalidArgument ?a_l_draw ?l_l_draw ?c_l_draw ?k_l_draw ?a_l_word ?l_l_word ?c_l_word ?k_l_word ?a_l_words ?l_l_words ?c_l_words ?k_l_words ?a_l_value ?l_l_value ?c_l_value ?k_l_value ?a_l_objects ?l_l_objects ?c_l_objects ?k_l_objects ?a_l_names ?l_l_names ?c_l_names ?k_l_names ?a_is_integer ?l_is_integer ?c_is_integer ?k_is_integer ?a_is_number_below ?l_is_number_below ?c_is_number_below ?k_is_number_below ?a_is_word ?l_is_word ?c_is_word ?k_is_word ?a_is_word_list ?l_is_word_list ?c_is_word_list ?k_is_word_list ?a_is_object ?l_is_object ?c_is_object ?k_is_object ?a_check_objects ?l_check_objects ?c_check_objects ?k_check_objects ?a_check_names ?l_check_names ?c_check_names ?k_check_names ?a_meeting_numbers ?l_meeting_numbers ?c_meeting_numbers ?k_meeting_numbers ?a_renumbered ?l_renumbered ?c_renumbered ?k_renumbered ?a_Heap_reckoned_shape ?i_Heap_reckoned_shape ?l_Heap_reckoned_shape ?c_Heap_reckoned_shape ?k_Heap_reckoned_shape ?a_Heap_init ?i_Heap_init ?l_Heap_init ?c_Heap_init ?k_Heap_init ?a_Heap_len ?i_Heap_len ?l_Heap_len ?c_Heap_len ?k_Heap_len ?a_Heap_contains ?i_Heap_contains ?l_Heap_contains ?c_Heap_contains ?k_Heap_contains ?a_Heap_objects ?i_Heap_objects ?l_Heap_objects ?c_Heap_objects ?k_Heap_objects ?a_Heap_names ?i_Heap_names ?l_Heap_names ?c_Heap_names ?k_Heap_names ?a_Heap_getitem ?i_Heap_getitem ?l_Heap_getitem ?c_Heap_getitem ?k_Heap_getitem ?a_l_is_integer ?l_l_is_integer ?c_l_is_integer ?k_l_is_integer ?a_l_same ?l_l_same ?c_l_same ?k_l_same ?a_l_same_items ?l_l_same_items ?c_l_same_items ?k_l_same_items ?a_l_gives_back ?l_l_gives_back ?c_l_gives_back ?k_l_gives_back ?a_l_is_stranger ?l_l_is_stranger ?c_l_is_stranger ?k_l_is_stranger ?a_law ?l_law ?c_law ?k_law ?cc_LETTERS ?cc_LONGEST ?cc_MOST_OBJECTS ?cc_MOST_NAMES ?z_len ?z_list ?z_tuple ?z_dict ?z_int ?z_str ?z_bool ?z_range ?z_isinstance ?z_sorted ?z_enumerate ?z_zip ?z_min
    (case aC_Heap => k_is)
    (case pg_Heap => k_is)
    (case hd_Heap => k_is)
    (case po_Heap => k_is)
    (case sa_Heap => k_is)
    (case mk_Heap => k_is)
    (case kc_Heap => k_is)
    (case n_Heap_fields => k_is)
    (case n_Heap_held => k_is)
    (case n_Heap_holders => k_is)
    (case n_Heap_shape => k_is)
    (case a_xInvalidArgument => k_is)
    (case xl_xInvalidArgument => k_is)
    (case bm_ok_xInvalidArgument => decide +kernel)
    (case sa_xInvalidArgument => k_is)
    (case ga_xInvalidArgument => k_is)
    (case gg_xInvalidArgument => k_is)
    (case nf_xInvalidArgument_part => k_is)
    (case kC_xInvalidArgument => k_is)
    (case eC_xInvalidArgument => k_is)
    (case tC_xInvalidArgument => k_is)
    (case hC_xInvalidArgument => k_is)
    (case iC_xInvalidArgument => k_is)
    (case sC_xInvalidArgument => first | rfl | k_is)
    (case ii_xInvalidArgument => k_is)
    (case ti_xInvalidArgument => k_is)
    (case l_xInvalidArgument => k_is)
    (case c_xInvalidArgument => k_is)
    (case k_xInvalidArgument => k_is)
    (case a_l_draw => k_is)
    (case l_l_draw => k_is)
    (case c_l_draw => k_is)
    (case k_l_draw => k_is)
    (case a_l_word => k_is)
    (case l_l_word => k_is)
    (case c_l_word => k_is)
    (case k_l_word => k_is)
    (case a_l_words => k_is)
    (case l_l_words => k_is)
    (case c_l_words => k_is)
    (case k_l_words => k_is)
    (case a_l_value => k_is)
    (case l_l_value => k_is)
    (case c_l_value => k_is)
    (case k_l_value => k_is)
    (case a_l_objects => k_is)
    (case l_l_objects => k_is)
    (case c_l_objects => k_is)
    (case k_l_objects => k_is)
    (case a_l_names => k_is)
    (case l_l_names => k_is)
    (case c_l_names => k_is)
    (case k_l_names => k_is)
    (case a_is_integer => k_is)
    (case l_is_integer => k_is)
    (case c_is_integer => k_is)
    (case k_is_integer => k_is)
    (case a_is_number_below => k_is)
    (case l_is_number_below => k_is)
    (case c_is_number_below => k_is)
    (case k_is_number_below => k_is)
    (case a_is_word => k_is)
    (case l_is_word => k_is)
    (case c_is_word => k_is)
    (case k_is_word => k_is)
    (case a_is_word_list => k_is)
    (case l_is_word_list => k_is)
    (case c_is_word_list => k_is)
    (case k_is_word_list => k_is)
    (case a_is_object => k_is)
    (case l_is_object => k_is)
    (case c_is_object => k_is)
    (case k_is_object => k_is)
    (case a_check_objects => k_is)
    (case l_check_objects => k_is)
    (case c_check_objects => k_is)
    (case k_check_objects => k_is)
    (case a_check_names => k_is)
    (case l_check_names => k_is)
    (case c_check_names => k_is)
    (case k_check_names => k_is)
    (case a_meeting_numbers => k_is)
    (case l_meeting_numbers => k_is)
    (case c_meeting_numbers => k_is)
    (case k_meeting_numbers => k_is)
    (case a_renumbered => k_is)
    (case l_renumbered => k_is)
    (case c_renumbered => k_is)
    (case k_renumbered => k_is)
    (case a_Heap_reckoned_shape => k_is)
    (case i_Heap_reckoned_shape => k_is)
    (case l_Heap_reckoned_shape => k_is)
    (case c_Heap_reckoned_shape => k_is)
    (case k_Heap_reckoned_shape => k_is)
    (case a_Heap_init => k_is)
    (case i_Heap_init => k_is)
    (case l_Heap_init => k_is)
    (case c_Heap_init => k_is)
    (case k_Heap_init => k_is)
    (case a_Heap_len => k_is)
    (case i_Heap_len => k_is)
    (case l_Heap_len => k_is)
    (case c_Heap_len => k_is)
    (case k_Heap_len => k_is)
    (case a_Heap_contains => k_is)
    (case i_Heap_contains => k_is)
    (case l_Heap_contains => k_is)
    (case c_Heap_contains => k_is)
    (case k_Heap_contains => k_is)
    (case a_Heap_objects => k_is)
    (case i_Heap_objects => k_is)
    (case l_Heap_objects => k_is)
    (case c_Heap_objects => k_is)
    (case k_Heap_objects => k_is)
    (case a_Heap_names => k_is)
    (case i_Heap_names => k_is)
    (case l_Heap_names => k_is)
    (case c_Heap_names => k_is)
    (case k_Heap_names => k_is)
    (case a_Heap_getitem => k_is)
    (case i_Heap_getitem => k_is)
    (case l_Heap_getitem => k_is)
    (case c_Heap_getitem => k_is)
    (case k_Heap_getitem => k_is)
    (case a_l_is_integer => k_is)
    (case l_l_is_integer => k_is)
    (case c_l_is_integer => k_is)
    (case k_l_is_integer => k_is)
    (case a_l_same => k_is)
    (case l_l_same => k_is)
    (case c_l_same => k_is)
    (case k_l_same => k_is)
    (case a_l_same_items => k_is)
    (case l_l_same_items => k_is)
    (case c_l_same_items => k_is)
    (case k_l_same_items => k_is)
    (case a_l_gives_back => k_is)
    (case l_l_gives_back => k_is)
    (case c_l_gives_back => k_is)
    (case k_l_gives_back => k_is)
    (case a_l_is_stranger => k_is)
    (case l_l_is_stranger => k_is)
    (case c_l_is_stranger => k_is)
    (case k_l_is_stranger => k_is)
    (case a_law => k_is)
    (case l_law => k_is)
    (case c_law => k_is)
    (case k_law => k_is)
    (case cc_LETTERS => k_is)
    (case cc_LONGEST => k_is)
    (case cc_MOST_OBJECTS => k_is)
    (case cc_MOST_NAMES => k_is)
    (case z_len => k_is)
    (case z_list => k_is)
    (case z_tuple => k_is)
    (case z_dict => k_is)
    (case z_int => k_is)
    (case z_str => k_is)
    (case z_bool => k_is)
    (case z_range => k_is)
    (case z_isinstance => k_is)
    (case z_sorted => k_is)
    (case z_enumerate => k_is)
    (case z_zip => k_is)
    (case z_min => k_is)
