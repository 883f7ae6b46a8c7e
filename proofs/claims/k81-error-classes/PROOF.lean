import PyProof.Rows.All
import Wide.All
import OpenK.AllK
import Wide.FinOn
import HandS.ForMost
import HandS.Wide
import HandS.More
import HandS.Conv
import HandS.IsInst
import HandS.DictComp
import HandS.DeepEq
import HandS.ExcInit
import HandS.ExcField
import HandS.ExcOwn
import HandS.TryOnly
import HandS.WordsExc
import HandS.NoneIn
import HandS.Deep
import HandS.OwnEq
import HandS.Steps
import HandS.Flow
import HandS.Walk
import HandS.CallSlots
import HandS.Codes
import HandS.SortInts
import HandS.TupLe
import HandS.Head0
import HandS.Head1
import HandS.Head2
import HandS.HeadEnd
import HandS.HeadHook1
import HandS.HeadHook2
import HandS.HeadHook3
import Wide.Once
import KE.GoesMore
import KE.GoesZip
import HandS.Zip
import PyProof.RulesMatch
import HandS.TupAny
import HandS.Star
import HandS.Defaults
import HandS.TryElse
import PyProof.TupleOfSeq
import KE.SortData
import HandS.TupLen
import HandS.MakeKwOnly
import KE.KeyNested
import HandS.Sort
import HandS.ExcValue
import KE.KExcIs
import PySem.Challenge.RW_thawedwrites_k81_error_classes
set_option Elab.async false
set_option linter.all false
set_option maxRecDepth 100000
set_option maxHeartbeats 2000000
namespace G
open PySem PySem.Spec PyProof.Rows L2
structure Cal (P : Program) (w : World) (K : PySem.W.Frag) (mg : Str → Option Value) (base : Heap) (CX : CXT) (k : Nat) (x : Str) (sp : Sp) : Prop where
  ex : ∃ (f : Addr) (fd : FuncData) (ps : List Str), FnOk P w K mg base CX k f fd ps sp ∧ mg x = some (.ref f) ∧ PySem.W.keepIn K (.ref f) = true ∧ Binds K fd ps []
def tCl (sp : Sp) (E : XK) (t : TA) : TE := fun σ H Q => t σ H fun vs H1 => sp vs H1 Q E
def tMt (C : Addr) (m : Str) (sp : Sp) (E : XK) (ta : TE) (t : TA) : TE := fun σ H Q => ta σ H fun x H1 => ∃ a dx fs, x = .ref a ∧ H1 a = some (.ins C dx fs) ∧ fs.lookup m = none ∧ t σ H1 fun vs H2 => sp (x :: vs) H2 Q E
section
variable {X : Cx} {k j : Nat} {C : Addr} {x m : Str} {sp : Sp} {p pos apos : Pos} {e o : Expr} {es : List Expr} {ta : TE} {t : TA} {E : XK} {CX : CXT}
theorem tCall_cl (sp : Sp) (E : XK) (t : TA) : tCall sp [] E t = tCl sp E t := by
  funext σ H Q
  show (t σ H fun vs H1 => sp (vs ++ []) H1 Q E) = t σ H fun vs H1 => sp vs H1 Q E
  congr 1
  funext vs H1
  rw [List.append_nil]
/-- f(e, ..): what it may raise is passed on by hx -/
theorem pe_cx (c : Cal X.prog X.w X.K X.mg X.base CX k x sp) (hr : Room j X.A) (hk : k ≤ j) (hx : Passes CX X E) (hg : Gl X x) (ha : PA X (e :: es) t)
    (hdb : (x == ("__debug__" : Str)) = false := by decide) (he : starEach (e :: es) X.env = (false, eval e X.env) :: starEach es X.env := by rfl) (hpl : (backTo pos (starEach es X.env)).any (·.1) = false := by rfl) :
    PE X (.Call (.Name x p) (e :: es) [] pos) (tCl sp E t) := by
  obtain ⟨f, fd, ps, F, hm, kp, b⟩ := c.ex
  rw [← tCall_cl]
  exact pe_call F (hr.mono hk) hg hm kp b .nil hx ha hdb he hpl
/-- f(e, ..), f raises nothing -/
theorem pe_c (c : Cal X.prog X.w X.K X.mg X.base CX0 k x sp) (hr : Room j X.A) (hk : k ≤ j) (hg : Gl X x) (ha : PA X (e :: es) t)
    (hdb : (x == ("__debug__" : Str)) = false := by decide) (he : starEach (e :: es) X.env = (false, eval e X.env) :: starEach es X.env := by rfl) (hpl : (backTo pos (starEach es X.env)).any (·.1) = false := by rfl) :
    PE X (.Call (.Name x p) (e :: es) [] pos) (tCl sp E0 t) := pe_cx c hr hk pass0 hg ha hdb he hpl
/-- C(e, ..) -/
def tMk (C : Addr) (sp : Sp) (E : XK) (t : TA) : TE := tMake C sp [] E t
end
theorem op_mul_str {X : Cx} : OpR X (binaryOp .Mult) (fun x y H Q => ∃ (c : Nat) (n : Int), x = .str ⟨#[c]⟩ ∧ y = .int n ∧ 2 ≤ n ∧ n ≤ 1000 ∧ Q (.str ⟨(List.replicate n.toNat c).toArray⟩) H) := by
  intro pins s σ H x y v u Q I rx ry h
  obtain ⟨c, n, rfl, rfl, h2, h3, q⟩ := h
  obtain ⟨t, rfl⟩ := rx
  obtain ⟨t', rfl⟩ := ry
  have e0 : (n == 1 || (⟨#[c]⟩ : Str).length == 0) = false := by
    have : (n == 1) = false := by simp; omega
    rw [this]; rfl
  refine P.mul_str (by simp; omega) (fun _ _ => ?_) (fun _ _ => ?_) ?_
  · show ¬ (((1 : Nat) : Int) > (2 ^ 63 - 1) / n)
    have : (1001 : Int) ≤ (2 ^ 63 - 1) / n := by
      rw [Int.le_ediv_iff_mul_le (by omega)]
      omega
    omega
  · show Builtin.Str.tooLong (1 * n.toNat) = false
    rw [Nat.one_mul]
    have : n.toNat ≤ 1000 := by omega
    unfold Builtin.Str.tooLong
    rw [sizeLine_eq]
    simp
    omega
  · rw [if_neg (by omega), if_neg (by rw [e0]; simp)]
    have e1 : ∀ (k : Nat) (a : Array Nat), (List.replicate k (#[c] : Array Nat)).foldl (· ++ ·) a = a ++ (List.replicate k c).toArray := by
      intro k
      induction k with
      | zero =>
        intro a
        simp
      | succ k ih =>
        intro a
        rw [List.replicate_succ, List.foldl_cons, ih, List.replicate_succ]
        apply Array.ext'
        simp
    rw [show (⟨#[c]⟩ : Str).cps = #[c] from rfl, e1]
    simp only [Array.empty_append]
    refine ⟨?_, ⟨.str ⟨(List.replicate n.toNat c).toArray⟩, H, I.tok _, ⟨_, rfl⟩, q⟩⟩
    show (List.replicate n.toNat c).toArray.size ≤ sizeLine
    rw [sizeLine_eq]
    simp
    omega
theorem szl {n : Nat} (h : n ≤ 10000) : n ≤ sizeLine := by rw [sizeLine_eq]; omega
theorem szl' {n : Nat} (h : n < 10000) : n < sizeLine := by rw [sizeLine_eq]; omega
theorem pe_gv {X : Cx} {x : Str} {v : V} {pos : Pos} (hg : Gl X x) (h : ∃ u, X.mg x = some u ∧ RelV v u) (hd : (x == ("__debug__" : Str)) = false := by decide) : PE X (.Name x pos) (tC v) := by
  obtain ⟨u, hm, r⟩ := h
  exact pe_glob hg hm r hd
structure Blt (mg : Str → Option Value) : Prop where
  len : mg "len" = none
  list : mg "list" = none
  tuple : mg "tuple" = none
  dict : mg "dict" = none
  int : mg "int" = none
  str : mg "str" = none
  bool : mg "bool" = none
  range : mg "range" = none
  isinstance : mg "isinstance" = none
  sorted : mg "sorted" = none
  enumerate : mg "enumerate" = none
  zip : mg "zip" = none
  min : mg "min" = none
abbrev TC := List V → Hp → VK → Prop
def rLenQ (K : PySem.W.Frag) : TC := fun xs H Q => ∃ p ys, xs = [.ref p] ∧ (SqL K H p ys ∨ SqT K H p ys) ∧ Q (.int ys.length) H
def rLenS : TC := fun xs H Q => ∃ z, xs = [.str z] ∧ z.length ≤ sizeLine ∧ Q (.int z.length) H
def rInt1 : TC := fun xs H Q => (∃ i, xs = [.int i] ∧ Q (.int i) H) ∨ ∃ k, xs = [.bl k] ∧ Q (.int (if k then 1 else 0)) H
def rListQ (K : PySem.W.Frag) : TC := fun xs H Q => ∃ p ys, xs = [.ref p] ∧ (SqL K H p ys ∨ SqT K H p ys) ∧ ∀ l, H l = none → Q (.ref l) (upd H l (.lst ys))
def rListKs : TC := fun xs H Q => ∃ (a : Addr) (kvs : List (Key × V)), xs = [.ref a] ∧ Rd H a (.dK kvs) ∧ ∀ p, H p = none → Q (.ref p) (upd H p (.lst (kvs.map fun kv => kV kv.1)))
def rTupQ (K : PySem.W.Frag) : TC := fun xs H Q => ∃ p ys, xs = [.ref p] ∧ ((SqL K H p ys ∧ ∀ l, H l = none → Q (.ref l) (upd H l (.tup ys))) ∨ (SqT K H p ys ∧ Q (.ref p) H))
def rDictQ : TC := fun xs H Q => ∃ (a : Addr) (kvs : List (Key × V)), xs = [.ref a] ∧ Rd H a (.dK kvs) ∧ ∀ p, H p = none → Q (.ref p) (upd H p (.dK kvs))
def rSortedDQ : TC := fun xs H Q => ∃ (a : Addr) (kvs : List (Key × V)) (ks : List Str), xs = [.ref a] ∧ Rd H a (.dK kvs) ∧ kvs.map (·.1) = ks.map Sum.inr ∧ ks.length < 64 ∧ ∀ ys p, ys.Perm ks → sortedS ys = true → H p = none → Q (.ref p) (upd H p (.lst (ys.map V.str)))
section
variable {X : Cx}
theorem c_len : CallR X (.builtin "len") (rLenQ X.K) := call_len_seq
theorem c_int : CallR X (.type "int") rInt1 := call_int1
theorem c_list : CallR X (.type "list") (rListQ X.K) := call_list_of
theorem c_tuple : CallR X (.type "tuple") (rTupQ X.K) := call_tuple_of
end
def rJoin (K : PySem.W.Frag) : V → List V → Hp → VK → Prop := fun x xs H Q => ∃ a p, ∃ ys : List Str, x = .str a ∧ xs = [.ref p] ∧ (SqL K H p (ys.map V.str) ∨ SqT K H p (ys.map V.str)) ∧
  (ys.map (·.length)).sum + ys.length * a.length ≤ 16777216 ∧ Q (.str (Txt.join a ys)) H
theorem pe_jn {X : Cx} {o e : Expr} {to te : TE} {apos pos : Pos} (ho : PE X o to) (he : PE X e te) (hs : starEach [e] X.env = [(false, eval e X.env)] := by rfl) (hbase : attributeBase o "join" X.env (eval o X.env) = eval o X.env := by rfl) (hline : (apos.endLine == pos.line) = true := by rfl) :
    PE X (.Call (.Attribute o "join" apos) [e] [] pos) (tM1 (rJoin X.K) to te) := pe_join ho he hs hbase hline
theorem inV_str (z : Str) : ∀ ts : List Str, inV (.str z) (ts.map V.str) = decide (z ∈ ts)
  | [] => rfl
  | t :: r => by
    have ih := inV_str z r
    unfold inV at ih ⊢
    rw [List.map_cons, List.any_cons, ih]
    show ((t == z) || decide (z ∈ r)) = decide (z ∈ t :: r)
    rw [Bool.eq_iff_iff]
    simp only [Bool.or_eq_true, beq_iff_eq, decide_eq_true_eq, List.mem_cons]
    constructor
    · rintro (h | h)
      · exact .inl h.symm
      · exact .inr h
    · rintro (h | h)
      · exact .inl h.symm
      · exact .inr h
theorem sub_len {α : Type} [DecidableEq α] : ∀ {l ts : List α}, l.Nodup → (∀ x ∈ l, x ∈ ts) → l.length ≤ ts.length
  | [], _, _, _ => Nat.zero_le _
  | a :: l, ts, nd, h => by
    have ha : a ∈ ts := h a List.mem_cons_self
    obtain ⟨n1, n2⟩ := List.nodup_cons.mp nd
    have e := List.length_erase_of_mem ha
    have ih := sub_len (l := l) (ts := ts.erase a) n2 fun x hx => (List.mem_erase_of_ne (fun (z : x = a) => n1 (by rw [← z]; exact hx))).mpr (h x (List.mem_cons_of_mem _ hx))
    have pos : 0 < ts.length := List.length_pos_of_mem ha
    rw [List.length_cons]
    omega
/-- a word: one to eight letters a to z -/
def IsW (z : Str) : Prop := 1 ≤ z.length ∧ z.length ≤ 8 ∧ ∀ c ∈ z.cps.toList, 97 ≤ c ∧ c ≤ 122
abbrev abc : Str := Str.ofString "abcdefghijklmnopqrstuvwxyz"
theorem abc_list : abc.cps.toList = (List.range 26).map (97 + ·) := by decide +kernel
theorem abc_size : abc.cps.size = 26 := by decide +kernel
theorem join_cps (l : List Str) : (Txt.join (Str.ofString "") l).cps.toList = (l.map fun z => z.cps.toList).flatten := by
  rw [TL.join_eq]
  induction l with
  | nil => rfl
  | cons x r ih =>
    cases r with
    | nil =>
      show x.cps.toList = _
      simp
    | cons y r =>
      show ((x ++ Str.ofString "" ++ Str.join (Str.ofString "") (y :: r) : Str)).cps.toList = _
      have e : ((x ++ Str.ofString "" ++ Str.join (Str.ofString "") (y :: r) : Str)).cps.toList = (x.cps.toList ++ (Str.ofString "").cps.toList) ++ (Str.join (Str.ofString "") (y :: r)).cps.toList := by
        show ((x.cps ++ (Str.ofString "").cps) ++ (Str.join (Str.ofString "") (y :: r)).cps).toList = _
        rw [Array.toList_append, Array.toList_append]
      rw [e, ih, show (Str.ofString "").cps.toList = [] by decide +kernel, List.append_nil]
      rfl
def one (c : Nat) : Str := ⟨#[c]⟩
theorem jn_ones (l : List Nat) : (Txt.join (Str.ofString "") (l.map one)).cps.toList = l := by
  rw [join_cps]
  induction l with
  | nil => rfl
  | cons a r ih =>
    rw [List.map_cons, List.map_cons, List.flatten_cons, ih]
    rfl
structure Fr (S : Addr → Prop) (H H' : Hp) : Prop where
  keep : ∀ b o, H b = some o → ¬ S b → H' b = some o
  free : ∀ b, H' b = none → H b = none
abbrev NoA : Addr → Prop := fun _ => False
section
variable {S S' : Addr → Prop} {H H1 H2 : Hp} {p : Addr} {o : HO}
theorem Fr.refl (H : Hp) : Fr S H H := ⟨fun _ _ h _ => h, fun _ h => h⟩
theorem Fr.trans (a : Fr S H H1) (b : Fr S H1 H2) : Fr S H H2 := ⟨fun c u h n => b.keep c u (a.keep c u h n) n, fun c h => a.free c (b.free c h)⟩
theorem Fr.mono (a : Fr S H H1) (h : ∀ b, S b → S' b) : Fr S' H H1 := ⟨fun c u e n => a.keep c u e fun z => n (h c z), a.free⟩
theorem Fr.new (n : H p = none) : Fr S H (upd H p o) := ⟨fun c u e _ => by rw [upd_ne (ne_of_none e n)]; exact e, fun c e => by
  by_cases h : c = p
  · rw [h]; exact n
  · rw [upd_ne h] at e; exact e⟩
theorem Fr.put (h : S p) : Fr S H (upd H p o) := ⟨fun c u e n => by rw [upd_ne (fun z => n (by rw [z]; exact h))]; exact e, fun c e => by
  by_cases h : c = p
  · rw [h, upd_same] at e; cases e
  · rw [upd_ne h] at e; exact e⟩
end
theorem SqL.fr {K : PySem.W.Frag} {S : Addr → Prop} {H H' : Hp} {a : Addr} {xs : List V} (f : Fr S H H') (n : ¬ S a) (h : SqL K H a xs) : SqL K H' a xs := by
  rcases h with (h | ⟨o, h⟩) | h
  · exact .inl (.inl (f.keep _ _ h n))
  · exact .inl (.inr ⟨o, f.keep _ _ h n⟩)
  · exact .inr h
theorem SqT.fr {K : PySem.W.Frag} {S : Addr → Prop} {H H' : Hp} {a : Addr} {xs : List V} (f : Fr S H H') (n : ¬ S a) (h : SqT K H a xs) : SqT K H' a xs := by
  rcases h with (h | ⟨o, h⟩) | h
  · exact .inl (.inl (f.keep _ _ h n))
  · exact .inl (.inr ⟨o, f.keep _ _ h n⟩)
  · exact .inr h
theorem lq {K : PySem.W.Frag} {H : Hp} {a : Addr} {xs : List V} (h : H a = some (.lst xs)) : SqL K H a xs := .inl (.inl h)
theorem tq {K : PySem.W.Frag} {H : Hp} {a : Addr} {xs : List V} (h : H a = some (.tup xs)) : SqT K H a xs := .inl (.inl h)
/-- isinstance(v, n) is b, n a built-in class -/
def TyQ (K : PySem.W.Frag) (H : Hp) (v : V) (n : String) (b : Bool) : Prop := ∃ t, TyX K H v t ∧ PySem.W.kitOne K t (.type n) = some b
theorem TyQ.of {K : PySem.W.Frag} {H : Hp} {v : V} {m n : String} {b : Bool} (h : TyX K H v (.type m)) (e : kitB m n = some b) : TyQ K H v n b := ⟨_, h, kit_ty e⟩
section
variable {K : PySem.W.Frag} {H : Hp} {a : Addr} {xs : List V} {kvs : List (Key × V)}
theorem ty_non : TyX K H .non (.type "NoneType") := .base .non
theorem ty_bl {b : Bool} : TyX K H (.bl b) (.type "bool") := .base (.bl b)
theorem ty_int {i : Int} : TyX K H (.int i) (.type "int") := .base (.int i)
theorem ty_str {z : Str} : TyX K H (.str z) (.type "str") := .base (.str z)
theorem ty_L (h : SqL K H a xs) : TyX K H (.ref a) (.type "list") := by
  rcases h with (h | ⟨o, h⟩) | ⟨o, its, n, h, c, _⟩
  · exact .base (.lst h)
  · exact .base (.frz h)
  · exact .kList h c
theorem ty_T (h : SqT K H a xs) : TyX K H (.ref a) (.type "tuple") := by
  rcases h with (h | ⟨o, h⟩) | ⟨o, its, n, h, c, _⟩
  · exact .base (.tup h)
  · exact .fTuple h
  · exact .kTuple h c
theorem ty_D (h : Rd H a (.dK kvs)) : TyX K H (.ref a) (.type "dict") := by
  rcases h with h | ⟨o, h⟩
  · exact .base (.dK h)
  · exact .fDict h
theorem TyOf.fr {S : Addr → Prop} {H' : Hp} {v : V} {t : Value} (f : Fr S H H') (n : ∀ a, v = .ref a → ¬ S a) (h : TyOf K H v t) : TyOf K H' v t := by
  cases h with
  | non => exact .non
  | bl x => exact .bl x
  | int i => exact .int i
  | str x => exact .str x
  | flt x => exact .flt x
  | lst e => exact .lst (f.keep _ _ e (n _ rfl))
  | frz e => exact .frz (f.keep _ _ e (n _ rfl))
  | tup e => exact .tup (f.keep _ _ e (n _ rfl))
  | dK e => exact .dK (f.keep _ _ e (n _ rfl))
  | dT e => exact .dT (f.keep _ _ e (n _ rfl))
  | ins e a b c d g => exact .ins (f.keep _ _ e (n _ rfl)) a b c d g
theorem TyX.fr {S : Addr → Prop} {H' : Hp} {v : V} {t : Value} (f : Fr S H H') (n : ∀ a, v = .ref a → ¬ S a) (h : TyX K H v t) : TyX K H' v t := by
  cases h with
  | base h => exact .base (TyOf.fr f n h)
  | byt b => exact .byt b
  | set e => exact .set (f.keep _ _ e (n _ rfl))
  | kList e c => exact .kList e c
  | kTuple e c => exact .kTuple e c
  | kDict e c => exact .kDict e c
  | fTuple e => exact .fTuple (f.keep _ _ e (n _ rfl))
  | fDict e => exact .fDict (f.keep _ _ e (n _ rfl))
theorem TyQ.fr {S : Addr → Prop} {H' : Hp} {v : V} {m : String} {b : Bool} (f : Fr S H H') (n : ∀ a, v = .ref a → ¬ S a) (h : TyQ K H v m b) : TyQ K H' v m b := by
  obtain ⟨t, h1, h2⟩ := h
  exact ⟨t, TyX.fr f n h1, h2⟩
theorem g_isi {Q : VK} {v : V} {n : String} {b : Bool} (h : TyQ K H v n b) (q : Q (.bl b) H) : rIsi K [v, .ty n] H Q := by
  obtain ⟨t, h1, h2⟩ := h
  exact ⟨v, .ty n, t, _, b, rfl, .ty n, h1, h2, q⟩
/-- isinstance(v, (m, n)) -/
theorem g_isi2 {Q : VK} {v : V} {p : Addr} {m n : String} {b1 b2 : Bool} {t : Value} (hp : H p = some (.tup [.ty m, .ty n])) (h : TyX K H v t) (e1 : PySem.W.kitOne K t (.type m) = some b1) (e2 : PySem.W.kitOne K t (.type n) = some b2) (q : Q (.bl (b1 || b2)) H) : rIsiT K [v, .ref p] H Q := by
  refine ⟨v, p, _, t, [.type m, .type n], b1 || b2, rfl, hp, .cons (.ty m) (.cons (.ty n) .nil), h, ?_, q⟩
  refine kitAny_cons e1 (fun z => kitAny_cons e2 (fun z2 => ?_) (fun z2 => ?_)) (fun z => ?_)
  · rw [z, z2]; exact kitAny_nil
  · rw [z, z2]; rfl
  · rw [z]; rfl
end
def iSeq (K : PySem.W.Frag) (tl : TE) : TI := fun σ H R => iList K tl σ H R ∨ iTup K tl σ H R
def xfs (fl : List Str) (ws : List V) : List (Str × V) := (fl.zip ws).reverse
def spXI (C : Addr) (fl : List Str) : Sp := fun vs H Q _ => ∃ (a : Addr) (ws : List V), vs = .ref a :: ws ∧ ws.length = fl.length ∧ H a = some (exo a C none) ∧
  ∀ (d : Addr) (H' : Hp), H d = none → d ≠ a → H' a = some (exo a C (some d)) → H' d = some (exd d (xfs fl ws)) → (∀ b, b ≠ a → b ≠ d → H' b = H b) → Q .non H'
structure XCls (P : Program) (w : World) (K : PySem.W.Frag) (mg : Str → Option Value) (base : Heap) (x : Str) (C : Addr) (fl : List Str) : Prop where
  oex : OexC K C
  mgx : mg x = some (.ref C)
  xf : XfC K C
  nof : ∀ f ∈ fl, PySem.W.findIn K (.ref C) f = some none
  init : ∃ (fI : Addr) (fd : FuncData) (ps : List Str), PySem.W.findIn K (.ref C) "__init__" = some (some (.ref fI)) ∧ PySem.W.typeIn K (.ref fI) = some (.type "function") ∧ FnOk P w K mg base CX0 1 fI fd ps (spXI C fl) ∧ Binds K fd ps []
/-- the inner part of making C(vs) -/
def MkX (C : Addr) (fl : List Str) (vs : List V) (H1 : Hp) (Q : XK) : Prop := vs.length ≤ 1000 ∧ ∀ a, H1 a = none → spXI C fl (.ref a :: (vs ++ [])) (upd H1 a (exo a C none))
  (fun v H2 => v = .non ∧ ∃ (d : Addr) (fs : List (Str × V)), H2 a = some (exo a C (some d)) ∧ H2 d = some (exd d fs) ∧ H1 d = none ∧ Q (.ref C) (some d) (upd (del H2 a) d (.xd fs))) (fun _ _ _ => False)
def tMkX (C : Addr) (fl : List Str) (ta : TA) : L2.St → Hp → XK → Prop := fun σ H Q => ta σ H fun vs H1 => MkX C fl vs H1 Q
def tRx (W : WX) (t : L2.St → Hp → XK → Prop) : TS := fun _ σ H => t σ H fun cls d H' => W cls d σ H'
section
variable {X : Cx} {x : Str} {C : Addr} {fl : List Str} {e : Expr} {es : List Expr} {ta : TA} {p pos : Pos} {j : Nat}
theorem pmk_x (T : XCls X.prog X.w X.K X.mg X.base x C fl) (hr : Room j X.A) (hk : 2 ≤ j) (hg : Gl X x) (ha : PA X (e :: es) ta)
    (hdb : (x == ("__debug__" : Str)) = false := by decide) (he : starEach (e :: es) X.env = (false, eval e X.env) :: starEach es X.env := by rfl) (hpl : (backTo pos (starEach es X.env)).any (·.1) = false := by rfl) :
    PMk X (.Call (.Name x p) (e :: es) [] pos) (tMkX C fl ta) := by
  obtain ⟨fI, fd, ps, iC, tI, F1, hb⟩ := T.init
  exact pmk_oex T.oex iC tI F1 (hr.mono hk) hb .nil pass0 hg T.mgx ha hdb he hpl
end
def tMtS (C : Addr) (m : Str) (sp : Sp) (E : L2.St → XK) (ta : TE) (t : TA) : TE := fun σ H Q => ta σ H fun x H1 => ∃ a dx fs, x = .ref a ∧ H1 a = some (.ins C dx fs) ∧ fs.lookup m = none ∧ t σ H1 fun vs H2 => sp (x :: vs) H2 Q (E σ)
instance (z : Str) : Decidable (IsW z) := by unfold IsW; infer_instance
structure PoolAt (H : Hp) (p c : Addr) : Prop where
  ex : ∃ (ns : List Int) (a n : Int), H p = some (.lst [.ref c, .int a, .int n]) ∧ H c = some (.lst (ns.map V.int)) ∧ 0 ≤ a ∧ 0 ≤ n
abbrev PS (p c : Addr) : Addr → Prop := fun b => b = p ∨ b = c
theorem PoolAt.new {H : Hp} {p c q : Addr} {o : HO} (P : PoolAt H p c) (n : H q = none) : PoolAt (upd H q o) p c := by
  obtain ⟨ns, a, m, h1, h2, h3, h4⟩ := P.ex
  exact ⟨ns, a, m, by rw [upd_ne (ne_of_none h1 n)]; exact h1, by rw [upd_ne (ne_of_none h2 n)]; exact h2, h3, h4⟩
/-- another list may change -/
theorem PoolAt.put {H : Hp} {p c q : Addr} {o : HO} (P : PoolAt H p c) (n : ¬ PS p c q) : PoolAt (upd H q o) p c := by
  obtain ⟨ns, a, m, h1, h2, h3, h4⟩ := P.ex
  exact ⟨ns, a, m, by rw [upd_ne (fun z => n (.inl z.symm))]; exact h1, by rw [upd_ne (fun z => n (.inr z.symm))]; exact h2, h3, h4⟩
theorem PoolAt.fr {S : Addr → Prop} {H H' : Hp} {p c : Addr} (P : PoolAt H p c) (f : Fr S H H') (n1 : ¬ S p) (n2 : ¬ S c) : PoolAt H' p c := by
  obtain ⟨ns, a, m, h1, h2, h3, h4⟩ := P.ex
  exact ⟨ns, a, m, f.keep _ _ h1 n1, f.keep _ _ h2 n2, h3, h4⟩
def ov : Option Nat → V
  | none => .non
  | some n => .int n
def rowK (fs : List Str) (row : List (Option Nat)) : List (Key × V) := (fs.zip row).map fun p => (Sum.inr p.1, ov p.2)
def nmK (ns : List (Str × Option Nat)) : List (Key × V) := ns.map fun p => (Sum.inr p.1, ov p.2)
/-- a value of a heap of n objects -/
def OkV (n : Nat) (o : Option Nat) : Prop := ∀ k, o = some k → k < n
structure OkO (fs : List Str) (n : Nat) (os : List (List (Option Nat))) : Prop where
  len : os.length = n
  row : ∀ r ∈ os, r.length = fs.length ∧ ∀ v ∈ r, OkV n v
/-- at l a list of dicts at the places as, all of them within φ -/
structure ObjsAt (φ : Addr → Prop) (H : Hp) (l : Addr) (as : List Addr) (fs : List Str) (os : List (List (Option Nat))) : Prop where
  lst : H l = some (.lst (as.map V.ref))
  len : as.length = os.length
  obj : ∀ (i : Nat) (a : Addr) (r : List (Option Nat)), as[i]? = some a → os[i]? = some r → H a = some (.dK (rowK fs r))
  phi : φ l ∧ ∀ a ∈ as, φ a
theorem ObjsAt.imp {φ ψ : Addr → Prop} {H : Hp} {l : Addr} {as : List Addr} {fs : List Str} {os : List (List (Option Nat))} (h : ObjsAt φ H l as fs os) (i : ∀ a, φ a → ψ a) : ObjsAt ψ H l as fs os :=
  ⟨h.lst, h.len, h.obj, i _ h.phi.1, fun a m => i a (h.phi.2 a m)⟩
theorem ObjsAt.keep {φ : Addr → Prop} {H H' : Hp} {l : Addr} {as : List Addr} {fs : List Str} {os : List (List (Option Nat))} (h : ObjsAt φ H l as fs os) (k : ∀ a o, φ a → H a = some o → H' a = some o) : ObjsAt φ H' l as fs os :=
  ⟨k _ _ h.phi.1 h.lst, h.len, fun i a r h1 h2 => k _ _ (h.phi.2 a (List.mem_of_getElem? h1)) (h.obj i a r h1 h2), h.phi⟩
theorem ObjsAt.fr {φ S : Addr → Prop} {H H' : Hp} {l : Addr} {as : List Addr} {fs : List Str} {os : List (List (Option Nat))} (h : ObjsAt φ H l as fs os) (f : Fr S H H') (n : ∀ a, φ a → ¬ S a) : ObjsAt φ H' l as fs os :=
  h.keep fun a o p e => f.keep a o e (n a p)
theorem valV_no {κ : Type} [DecidableEq κ] {kvs : List (κ × V)} {k : κ} (h : k ∉ kvs.map Prod.fst) : valV kvs k = none := by
  cases e : valV kvs k with
  | none => rfl
  | some v => exact absurd (valV_in e) h
def meet (ord : List Nat) : Option Nat → List Nat
  | none => ord
  | some k => if k ∈ ord then ord else ord ++ [k]
def meets (ord : List Nat) (vs : List (Option Nat)) : List Nat := vs.foldl meet ord
def bfs (os : List (List (Option Nat))) : Nat → List Nat → Nat → List Nat
  | 0, ord, _ => ord
  | f + 1, ord, i => if i < ord.length then bfs os f (meets ord (os.getD (ord.getD i 0) [])) (i + 1) else ord
def order (os : List (List (Option Nat))) (roots : List (Option Nat)) : List Nat := bfs os os.length (meets [] roots) 0
structure OkOrd (n : Nat) (ord : List Nat) : Prop where
  nd : ord.Nodup
  lt : ∀ k ∈ ord, k < n
theorem OkOrd.len {n : Nat} {ord : List Nat} (h : OkOrd n ord) : ord.length ≤ n := by
  have := sub_len (ts := List.range n) h.nd fun k hk => List.mem_range.mpr (h.lt k hk)
  simpa using this
mutual
inductive Rp (φ : Addr → Prop) (K : PySem.W.Frag) (H : Hp) : V → PyData → Prop
  | non : Rp φ K H .non .none
  | bl (b : Bool) : Rp φ K H (.bl b) (.bool b)
  | int (i : Int) : Rp φ K H (.int i) (.int i)
  | str (x : Str) : Rp φ K H (.str x) (.str x)
  | lst {a : Addr} {xs : List V} {ds : List PyData} : H a = some (.lst xs) → φ a → RpAll φ K H xs ds → Rp φ K H (.ref a) (.list ds)
  | tup {a : Addr} {xs : List V} {ds : List PyData} : H a = some (.tup xs) → φ a → RpAll φ K H xs ds → Rp φ K H (.ref a) (.tuple ds)
inductive RpAll (φ : Addr → Prop) (K : PySem.W.Frag) (H : Hp) : List V → List PyData → Prop
  | nil : RpAll φ K H [] []
  | cons {v : V} {vs : List V} {d : PyData} {ds : List PyData} : Rp φ K H v d → RpAll φ K H vs ds → RpAll φ K H (v :: vs) (d :: ds)
end
mutual
theorem Rp.dp {φ : Addr → Prop} {K : PySem.W.Frag} {H : Hp} : ∀ {v : V} {d : PyData}, Rp φ K H v d → Dp K H v d
  | _, _, .non => .non
  | _, _, .bl b => .bl b
  | _, _, .int i => .int i
  | _, _, .str x => .str x
  | _, _, .lst h _ r => .lst (lq h) (RpAll.dp r)
  | _, _, .tup h _ r => .tup (tq h) (RpAll.dp r)
theorem RpAll.dp {φ : Addr → Prop} {K : PySem.W.Frag} {H : Hp} : ∀ {vs : List V} {ds : List PyData}, RpAll φ K H vs ds → DpAll K H vs ds
  | _, _, .nil => .nil
  | _, _, .cons h r => .cons (Rp.dp h) (RpAll.dp r)
end
mutual
theorem Rp.fr {φ S : Addr → Prop} {K : PySem.W.Frag} {H H' : Hp} (f : Fr S H H') (n : ∀ a, φ a → ¬ S a) : ∀ {v : V} {d : PyData}, Rp φ K H v d → Rp φ K H' v d
  | _, _, .non => .non
  | _, _, .bl b => .bl b
  | _, _, .int i => .int i
  | _, _, .str x => .str x
  | _, _, .lst h p r => .lst (f.keep _ _ h (n _ p)) p (RpAll.fr f n r)
  | _, _, .tup h p r => .tup (f.keep _ _ h (n _ p)) p (RpAll.fr f n r)
theorem RpAll.fr {φ S : Addr → Prop} {K : PySem.W.Frag} {H H' : Hp} (f : Fr S H H') (n : ∀ a, φ a → ¬ S a) : ∀ {vs : List V} {ds : List PyData}, RpAll φ K H vs ds → RpAll φ K H' vs ds
  | _, _, .nil => .nil
  | _, _, .cons h r => .cons (Rp.fr f n h) (RpAll.fr f n r)
end
mutual
theorem Rp.imp {φ ψ : Addr → Prop} {K : PySem.W.Frag} {H : Hp} (i : ∀ a, φ a → ψ a) : ∀ {v : V} {d : PyData}, Rp φ K H v d → Rp ψ K H v d
  | _, _, .non => .non
  | _, _, .bl b => .bl b
  | _, _, .int i => .int i
  | _, _, .str x => .str x
  | _, _, .lst h p r => .lst h (i _ p) (RpAll.imp i r)
  | _, _, .tup h p r => .tup h (i _ p) (RpAll.imp i r)
theorem RpAll.imp {φ ψ : Addr → Prop} {K : PySem.W.Frag} {H : Hp} (i : ∀ a, φ a → ψ a) : ∀ {vs : List V} {ds : List PyData}, RpAll φ K H vs ds → RpAll ψ K H vs ds
  | _, _, .nil => .nil
  | _, _, .cons h r => .cons (Rp.imp i h) (RpAll.imp i r)
end
theorem RpAll.len {φ : Addr → Prop} {K : PySem.W.Frag} {H : Hp} : ∀ {vs : List V} {ds : List PyData}, RpAll φ K H vs ds → vs.length = ds.length
  | _, _, .nil => rfl
  | _, _, .cons _ r => by rw [List.length_cons, List.length_cons, r.len]
def dov : Option Nat → PyData
  | none => .none
  | some n => .int n
/-- what a name holds -/
def look (ns : List (Str × Option Nat)) (z : Str) : Option Nat := ((ns.find? fun p => decide (p.1 = z)).map Prod.snd).getD none
def shapeD (fs ys : List Str) (ns : List (Str × Option Nat)) (os : List (List (Option Nat))) : PyData :=
  .tuple [.tuple (fs.map .str), .tuple (ys.map fun z => .tuple [.str z, dov ((look ns z).map (order os (ys.map (look ns))).idxOf)]), .tuple ((order os (ys.map (look ns))).map fun k => .tuple ((os.getD k []).map fun o => dov (o.map (order os (ys.map (look ns))).idxOf)))]
def hf4 (t l d s : V) : List (Str × V) := [("fields", t), ("held", l), ("holders", d), ("shape", s)]
/-- a whole Heap at x, all of it within φ: its tuple of fields at t, its list at l of the dicts at as, its dict of names at d, its shape v -/
structure HeapAt (φ : Addr → Prop) (K : PySem.W.Frag) (C : Addr) (H : Hp) (x : Addr) (fs : List Str) (os : List (List (Option Nat))) (ns : List (Str × Option Nat)) : Prop where
  ex : ∃ (t l d dx : Addr) (v : V) (as : List Addr) (ys : List Str), H x = some (.ins C dx (hf4 (.ref t) (.ref l) (.ref d) v)) ∧ φ x ∧ H t = some (.tup (fs.map V.str)) ∧ φ t ∧ ObjsAt φ H l as fs os ∧ H d = some (.dK (nmK ns)) ∧ φ d ∧ ys.Perm (ns.map Prod.fst) ∧ sortedS ys = true ∧ Rp φ K H v (shapeD fs ys ns os)
theorem HeapAt.fr {φ S : Addr → Prop} {K : PySem.W.Frag} {C : Addr} {H H' : Hp} {x : Addr} {fs : List Str} {os : List (List (Option Nat))} {ns : List (Str × Option Nat)} (h : HeapAt φ K C H x fs os ns) (f : Fr S H H') (n : ∀ a, φ a → ¬ S a) : HeapAt φ K C H' x fs os ns := by
  obtain ⟨t, l, d, dx, v, as, ys, h1, p1, h2, p2, h3, h4, p4, h5, h6, h7⟩ := h.ex
  exact ⟨t, l, d, dx, v, as, ys, f.keep _ _ h1 (n _ p1), p1, f.keep _ _ h2 (n _ p2), p2, h3.fr f n, f.keep _ _ h4 (n _ p4), p4, h5, h6, h7.fr f n⟩
theorem HeapAt.imp {φ ψ : Addr → Prop} {K : PySem.W.Frag} {C : Addr} {H : Hp} {x : Addr} {fs : List Str} {os : List (List (Option Nat))} {ns : List (Str × Option Nat)} (h : HeapAt φ K C H x fs os ns) (i : ∀ a, φ a → ψ a) : HeapAt ψ K C H x fs os ns := by
  obtain ⟨t, l, d, dx, v, as, ys, h1, p1, h2, p2, h3, h4, p4, h5, h6, h7⟩ := h.ex
  exact ⟨t, l, d, dx, v, as, ys, h1, i _ p1, h2, i _ p2, h3.imp i, h4, i _ p4, h5, h6, h7.imp i⟩
/-- the heap's fields, objects and names are right -/
structure OkH (fs : List Str) (os : List (List (Option Nat))) (ns : List (Str × Option Nat)) : Prop where
  fw : ∀ z ∈ fs, IsW z
  fn : fs.Nodup
  f1 : 1 ≤ fs.length
  f2 : fs.length ≤ 2
  ob : OkO fs os.length os
  ol : os.length ≤ 200
  nn : (ns.map Prod.fst).Nodup
  nl : ns.length ≤ 6
  nw : ∀ x ∈ ns, IsW x.1 ∧ OkV os.length x.2
/-- a value that is flat, or an object that is no text: a list, a tuple, a dict -/
def FV (H : Hp) (v : V) : Prop := flatV v = true ∨ ∃ a, v = .ref a ∧ ((∃ xs, H a = some (.lst xs)) ∨ (∃ xs, H a = some (.tup xs)) ∨ ∃ kvs, H a = some (.dK kvs))
theorem FV.fr {S : Addr → Prop} {H H' : Hp} {v : V} (f : Fr S H H') (n : ∀ a, v = .ref a → ¬ S a) (h : FV H v) : FV H' v := by
  rcases h with h | ⟨a, rfl, h⟩
  · exact .inl h
  · refine .inr ⟨a, rfl, ?_⟩
    rcases h with ⟨xs, h⟩ | ⟨xs, h⟩ | ⟨xs, h⟩
    · exact .inl ⟨xs, f.keep _ _ h (n a rfl)⟩
    · exact .inr (.inl ⟨xs, f.keep _ _ h (n a rfl)⟩)
    · exact .inr (.inr ⟨xs, f.keep _ _ h (n a rfl)⟩)
theorem strOk_w {z : Str} (h : IsW z) : PyData.strOk z = true := by
  unfold PyData.strOk
  rw [Array.all_eq_true]
  intro i hi
  have := h.2.2 (z.cps[i]) (by simp)
  simp only [decide_eq_true_eq]
  omega
def rIns : V → List V → Hp → VK → Prop := fun x vs H Q => ∃ (l : Addr) (xs : List V) (i : Int) (y : V), x = .ref l ∧ vs = [.int i, y] ∧ H l = some (.lst xs) ∧ xs.length < sizeLine ∧ 0 ≤ i ∧ i < 2 ^ 63 ∧ Q .non (upd H l (.lst (xs.take i.toNat ++ [y] ++ xs.drop i.toNat)))
/-- what the laws about heaps keep while they ask -/
structure Held (K : PySem.W.Frag) (C : Addr) (H : Hp) (p c x fl l d : Addr) (as : List Addr) (fs : List Str) (os : List (List (Option Nat))) (ns : List (Str × Option Nat)) : Prop where
  po : PoolAt H p c
  hp : HeapAt (fun a => ¬ PS p c a) K C H x fs os ns
  ok : OkH fs os ns
  ob : ObjsAt (fun a => ¬ PS p c a) H l as fs os
  nm : H d = some (.dK (nmK ns))
  nd : ¬ PS p c d
  flq : H fl = some (.lst (fs.map V.str))
  nf : ¬ PS p c fl
theorem Held.fr {K : PySem.W.Frag} {C : Addr} {H H' : Hp} {p c x fl l d : Addr} {as : List Addr} {fs : List Str} {os : List (List (Option Nat))} {ns : List (Str × Option Nat)} (h : Held K C H p c x fl l d as fs os ns) (f : Fr (PS p c) H H') (po : PoolAt H' p c) : Held K C H' p c x fl l d as fs os ns :=
  ⟨po, h.hp.fr f fun _ z => z, h.ok, h.ob.fr f fun _ z => z, f.keep _ _ h.nm h.nd, h.nd, f.keep _ _ h.flq h.nf, h.nf⟩
section
variable {P : Program} {w : World} {K : PySem.W.Frag} {mg : Str → Option Value} {base : Heap}
theorem ok_xi1 {st : Stmt} {qual x : Str} {f C : Addr} {fd : FuncData} (F : Fun K "__init__" qual st f fd) (sc : FnScope ["self", x] ["self", x] (defScope st)) (T : OexC K C) (no : PySem.W.findIn K (.ref C) x = some none) {p1 p2 p3 p4 : Pos} (hb : defBody st = [.Assign [.Attribute (.Name "self" p1) x p2] (.Name x p3) p4])
    (v0 : Vis (defScope st) "self") (v1 : Vis (defScope st) x) (d1 : (x == ("__debug__" : Str)) = false) (d2 : (x == ("__classdict__" : Str)) = false) : FnOk P w K mg base CX0 1 f fd ["self", x] (spXI C [x]) := by
  refine F.ok sc (fun vs H Q E h => ?_) (fun cdv A outer s H vs Q E hr h => ?_)
  · obtain ⟨a, ws, rfl, hl, _⟩ := h
    rw [List.length_cons, hl]
    rfl
  · obtain ⟨a, ws, rfl, hl, ha, k⟩ := h
    match ws, hl with
    | [v], _ =>
    rw [hb]
    refine ⟨_, pss_one (ps_ost (pe_var (i := 0) rfl v0) (pe_var (i := 1) rfl v1 d1 d2)), ?_⟩
    refine ⟨v, rfl, .ref a, rfl, a, C, rfl, T, no, .inl ⟨ha, fun dx hd ne => ?_⟩⟩
    refine k dx _ hd ne upd_same ?_ fun b n1 n2 => ?_
    · rw [upd_ne ne, upd_same]
      rfl
    · rw [upd_ne n1, upd_ne n2]
theorem ok_xi2 {st : Stmt} {qual x y : Str} {f C : Addr} {fd : FuncData} (F : Fun K "__init__" qual st f fd) (sc : FnScope ["self", x, y] ["self", x, y] (defScope st)) (T : OexC K C) (no : PySem.W.findIn K (.ref C) x = some none) (no2 : PySem.W.findIn K (.ref C) y = some none) {p1 p2 p3 p4 q1 q2 q3 q4 : Pos} (hb : defBody st = [.Assign [.Attribute (.Name "self" p1) x p2] (.Name x p3) p4, .Assign [.Attribute (.Name "self" q1) y q2] (.Name y q3) q4])
    (v0 : Vis (defScope st) "self") (v1 : Vis (defScope st) x) (d1 : (x == ("__debug__" : Str)) = false) (d2 : (x == ("__classdict__" : Str)) = false) (w1 : Vis (defScope st) y) (e1 : (y == ("__debug__" : Str)) = false) (e2 : (y == ("__classdict__" : Str)) = false) : FnOk P w K mg base CX0 1 f fd ["self", x, y] (spXI C [x, y]) := by
  refine F.ok sc (fun vs H Q E h => ?_) (fun cdv A outer s H vs Q E hr h => ?_)
  · obtain ⟨a, ws, rfl, hl, _⟩ := h
    rw [List.length_cons, hl]
    rfl
  · obtain ⟨a, ws, rfl, hl, ha, k⟩ := h
    match ws, hl with
    | [v, u], _ =>
    rw [hb]
    refine ⟨_, pss_cons (ps_ost (pe_var (i := 0) rfl v0) (pe_var (i := 1) rfl v1 d1 d2)) (pss_one (ps_ost (pe_var (i := 0) rfl v0) (pe_var (i := 2) rfl w1 e1 e2))), ?_⟩
    refine ⟨v, rfl, .ref a, rfl, a, C, rfl, T, no, .inl ⟨ha, fun dx hd ne => ?_⟩⟩
    refine ⟨u, rfl, .ref a, rfl, a, C, rfl, T, no2, .inr ⟨dx, _, upd_same, by rw [upd_ne ne, upd_same], by show 1 ≤ 900; decide, ?_⟩⟩
    refine k dx _ hd ne ?_ ?_ fun b n1 n2 => ?_
    · rw [upd_ne (Ne.symm ne), upd_same]
    · rw [upd_same]
      rfl
    · rw [upd_ne n2, upd_ne n1, upd_ne n2]
end
/-- an error of a class is what «except» of that class names -/
theorem exm_own {K : PySem.W.Frag} {S : Addr} (h1 : PySem.W.subIn K (.ref S) (.type "BaseException") = some true) (h2 : PySem.W.isClsIn K S = true) (h3 : PySem.W.typeIn K (.ref S) = some (.type "type")) (h4 : PySem.W.subIn K (.ref S) (.ref S) = some true) : PySem.W.exmOne K (.ref S) (.ref S) = some true := by
  have e2 : (PySem.W.clsIn K S).isSome = true := h2
  simp [PySem.W.exmOne, PySem.W.kitCls, h1, h3, h4, e2]
def tTru (K : PySem.W.Frag) (te : TE) : TT := fun σ H Q => te σ H fun x H' => ∃ k, TruV K x H' k ∧ Q k H'
def rMin2 : TC := fun xs H Q => ∃ i j, xs = [.int i, .int j] ∧ Q (.int (if j < i then j else i)) H
end G
namespace G
open PySem PySem.Spec PyProof.Rows L2
structure FnG (P : Program) (w : World) (K : PySem.W.Frag) (mg : Str → Option Value) (base : Heap) (CX : CXT) (k : Nat) (f : Addr) (fd : FuncData) (ps : List Str) (sp : Sp) : Prop where
  len : ∀ vs H Q E, sp vs H Q E → vs.length = ps.length
  go : ∀ (A : Around) (outer : List Env) (s : Shared) (H : Hp) (args : Args) (us : List Value) (vs : List V) (Q : VK) (E : XK), Room k A → A.guards = some [] → Env0 P w K mg base A outer s H → BindsTo s fd args (ps.zip us) →
    Vals vs us → sp vs H Q E → codeAny (model P w) A (.call (.ref f) args) (CR CX outer P w H s Q E) s
section
variable {P : Program} {w : World} {K : PySem.W.Frag} {mg : Str → Option Value} {base : Heap} {CX : CXT} {j k : Nat} {f : Addr} {fd : FuncData} {ps : List Str} {sp : Sp}
theorem FnG.of (F : FnOk P w K mg base CX k f fd ps sp) : FnG P w K mg base CX k f fd ps sp := ⟨F.len, fun A outer s H args us vs Q E hr _ e0 hb r h => F.run A outer s H args us vs Q E hr e0 hb r h⟩
theorem FnG.mono (F : FnG P w K mg base CX j f fd ps sp) (h : j ≤ k) : FnG P w K mg base CX k f fd ps sp := ⟨F.len, fun A outer s H args us vs Q E hr hg e0 hb r q => F.go A outer s H args us vs Q E (hr.mono h) hg e0 hb r q⟩
end
/-- such a def under its name -/
structure CalG (P : Program) (w : World) (K : PySem.W.Frag) (mg : Str → Option Value) (base : Heap) (CX : CXT) (k : Nat) (x : Str) (sp : Sp) : Prop where
  ex : ∃ (f : Addr) (fd : FuncData) (ps : List Str), FnG P w K mg base CX k f fd ps sp ∧ mg x = some (.ref f) ∧ PySem.W.keepIn K (.ref f) = true ∧ Binds K fd ps []
section
variable {X : Cx} {k j : Nat} {x : Str} {sp : Sp} {p pos : Pos} {e : Expr} {es : List Expr} {t : TA} {E : XK} {CX : CXT}
/-- f(e, ..) -/
theorem pe_cg (c : CalG X.prog X.w X.K X.mg X.base CX k x sp) (hr : Room j X.A) (hgd : X.A.guards = some []) (hk : k ≤ j) (hx : Passes CX X E) (hg : Gl X x) (ha : PA X (e :: es) t)
    (hdb : (x == ("__debug__" : Str)) = false := by decide) (he : starEach (e :: es) X.env = (false, eval e X.env) :: starEach es X.env := by rfl) (hpl : (backTo pos (starEach es X.env)).any (·.1) = false := by rfl) :
    PE X (.Call (.Name x p) (e :: es) [] pos) (tCl sp E t) := by
  obtain ⟨f, fd, ps, F, hm, kp, hb⟩ := c.ex
  refine ⟨fun pins s σ H Q I h => wpAny_Call_Name_kw (ld_glob I hg hm ?_ hdb)⟩
  refine PySem.W.callWith_K (h₀ := X.base) I.ok.mod.kin kp (thn (ha.run pos pins s σ H _ I h) fun us s1 ⟨vs, H1, I1, rv, q⟩ => ⟨I1.kIn, ?_⟩) he hpl
  have hl : (us ++ []).length = ps.length := by
    rw [List.append_nil, ← rv.length]
    exact F.len _ _ _ _ q
  have hb1 := hb s1 us I1.kIn hl
  rw [List.append_nil] at hb1
  refine wpAny_call (codeAny_mono (F.go X.A X.stack s1 H1 ⟨us, []⟩ us vs Q E (hr.mono hk) hgd I1.env0 hb1 rv q) fun r s2 hq => ?_)
  match r, hq with
  | .error e, hq => exact hx pins σ H1 s1 e s2 I1 hq
  | .ok (.ret u), hq => exact I1.after hq
end
/-- from the body -/
theorem fnG_of {P : Program} {w : World} {K : PySem.W.Frag} {mg : Str → Option Value} {base : Heap} {x qual : Str} {st : Stmt} {f : Addr} {fd : FuncData} {N ps : List Str} {k : Nat} {sp : Sp} (F : Fun K x qual st f fd) (S : FnScope N ps (defScope st)) (len : ∀ vs H Q E, sp vs H Q E → vs.length = ps.length)
    (hbody : ∀ (cdv : Value) (A : Around) (outer : List Env) (s : Shared) (H : Hp) (vs : List V) (Q : VK) (E : XK), Room k (A.deeper (envOfC qual (defScope st) s.heap.objs.size f cdv)) → A.guards = some [] → sp vs H Q E →
      ∃ t, PSs (cxOf CX0 P w K mg base N qual (defScope st) f cdv A outer s H E).nox (defBody st) t ∧ t { nx := fun _ H' => Q .non H', rt := Q } (start N vs) H) : FnG P w K mg base CX0 (k + 1) f fd ps sp := by
  obtain ⟨oc, od, kV, doc, pm, an, cdv, ct, osl, rfl, lk, hcd⟩ := F.ex
  refine ⟨len, fun A outer s H args us vs Q E hr hgd e0 hb r hsp => ?_⟩
  have keep : ∀ b o, base.get? b = some o → s.heap.get? b = some o := fun b o e => (e0.bs b o e).1
  have KX := e0.mod.kin.keeps keep
  refine codeAny_call_function hr.depth (KX _ _ lk) rfl S.co S.gen rfl (PySem.W.codeRec_of KX hcd) (hb _ _ _ _ ?_)
  refine wpAny_newFunctionEnv_cells S.kind (fun y hy => ?_) fun env he s1 inC => ?_
  · exact (S.par y.1 (List.of_mem_zip hy).1).imp id fun q => ⟨q, PySem.W.cellsFrom_some _ _ _ (.inl q)⟩
  subst he
  obtain ⟨t, ht, hq⟩ := hbody cdv A outer s H vs Q E (hr.deeper _) hgd hsp
  have I := inv_start (E := E) (CX := CX0) S hr.hd e0 (len _ _ _ _ hsp) r inC
  refine ⟨(e0.mod.nolimit.keeps keep).keeps inC.toInCall.keep, codeAny_func (wpAny_mono (ht.nox.run [] s1 (start N vs) H _ I hq) (fun fl s2 z => ?_) fun _ _ z => z)⟩
  match fl, z with
  | .ret u, ⟨v, σ2, H2, J, rv, q⟩ => exact ⟨v, H2, J.os, J.bare, J.base, J.hok, rv, q⟩
  | .next, ⟨σ2, H2, J, q⟩ => exact ⟨.non, H2, J.os, J.bare, J.base, J.hok, rfl, q⟩
  | .brk, ⟨_, _, _, q⟩ => exact q.elim
  | .cont, ⟨_, _, _, q⟩ => exact q.elim
/-- repr(plain data) -/
def rRepr (K : PySem.W.Frag) : List V → Hp → VK → Prop := fun xs H Q => ∃ (x : V) (d : PyData), xs = [x] ∧ Dp K H x d ∧ d.hasDict = false ∧ d.showable = true ∧ d.depth ≤ 64 ∧ d.shown.length ≤ sizeLine ∧ Q (.str d.shown) H
theorem call_reprD {X : Cx} (hu : X.A.units + 70 < cLine) (hgd : X.A.guards = some []) : CallR X (.builtin "repr") (rRepr X.K) := by
  intro pins s σ H xs us Q I rv ⟨x, d, ex, hd, nd, hs, hdep, hsz, q⟩
  subst ex
  obtain ⟨u, rfl, ru⟩ := rv.one
  have far : ∀ a, u = Value.ref a → wpAny (model X.prog X.w) X.A (call (.builtin "repr") [u]) (fun u' s' => ∃ y H', Inv X pins σ H' s' ∧ RelV y u' ∧ Q y H') X.xe s := fun a e => by
    subst e
    obtain ⟨as, rd⟩ := Dp.reads I d _ _ hd ru
    refine repr_of_reads' rd hs (PySem.PyData.noDict_hsm nd) hgd (by omega) (fun _ _ z => z) (fun h' u tk hk => ?_) hsz
    exact ⟨.str d.shown, H, I.kept hk, ⟨u, rfl⟩, q⟩
  cases hd with
  | non =>
    obtain rfl : u = .none := ru
    exact PySem.P.repr_of_none ⟨.str _, H, I.tok _, ⟨_, rfl⟩, q⟩
  | bl b =>
    obtain rfl : u = .bool b := ru
    exact PySem.P.repr_of_bool ⟨.str _, H, I.tok _, ⟨_, rfl⟩, q⟩
  | int i =>
    obtain ⟨t, rfl⟩ := ru
    exact PySem.P.repr_of_int (of_decide_eq_true hs) ⟨.str _, H, I.tok _, ⟨_, rfl⟩, q⟩
  | str z =>
    obtain ⟨t, rfl⟩ := ru
    exact PySem.P.repr_of_str ⟨.str _, H, I.tok _, ⟨_, rfl⟩, q⟩ hsz
  | lst => exact far _ ru
  | tup => exact far _ ru
end G
namespace G
open PySem PySem.Spec PyProof.Rows L2
section
variable {P : Program} {w : World} {K : PySem.W.Frag} {mg mb : Str → Option Value} {CX : CXT} {k : Nat} {fa a : Addr} {fd : FuncData} {x : Str} {sp : Sp} {s₁ : Shared} {vs : List Value} {ns : List Int}
abbrev LawEnd (s₁ : Shared) : Result → Shared → Prop := fun r s' => r = .ok (.ret (.bool true)) ∧ OldK s₁.heap s'.heap ∧ s'.os = s₁.os ∧ AllBare s'.gens
/-- over an abstract heap that tracks the script at most -/
theorem lawG_core {H : Hp} (KX : K.In s₁.heap) (hns : s₁.heap.Ns mainGlobals mg) (hb : s₁.heap.Ns builtinsNs mb) (hbb : ∀ x : Str, x ≠ "__name__" → mb x = bootBuiltins x) (hlim : s₁.heap.NoLimit) (hg : s₁.gens = #[])
    (ha : s₁.heap.get? a = some { cls := .type "list", data := .seq vs.toArray }) (hr : Room k callerA) (F : ∀ base : Heap, K.In base → base.Ns mainGlobals mg → FnG P w K mg base CX k fa fd [x] sp)
    (hbind : ∀ (s : Shared) (u : Value), BindsTo s fd ⟨[u], []⟩ [(x, u)]) (hO : Only H) (hok : HOk P w H s₁.heap) (hA : ∀ b, H b ≠ none → b = a) (hK : H a ≠ none → K.lookup a = none)
    (hsp : sp [.ref a] H (fun v _ => v = .bl true) fun _ _ _ => False) (hCX : ∀ e s', CX [] H s₁ (fun _ _ _ => False) e s' → False) :
    codeAny (model P w) callerA (.call (.ref fa) ⟨[.ref a], []⟩) (LawEnd s₁) s₁ := by
  have other : ∀ {b : Addr}, (b = a → False) → H b = none := fun {b} h => by
    by_cases z : H b = none
    · exact z
    · exact (h (hA b z)).elim
  have dictFree : ∀ {b : Addr} {o : Obj} {es : Array DictEntry} {ep : Nat}, s₁.heap.get? b = some o → o.data = .dict es ep → H b = none := fun {b o es ep} e d => other fun z => by
    rw [z, ha] at e
    cases e
    exact nomatch d
  have low : ∀ {b : Addr} {m : Str → Option Value}, s₁.heap.Ns b m → (hidT s₁.heap H).Ns b m := fun ⟨o, es, ep, e, d, r⟩ => ⟨o, es, ep, hidT_get e (dictFree e d), d, r⟩
  have lowK : K.In (hidT s₁.heap H) := fun b o e => hidT_get (KX b o e) (by
    by_cases z : H b = none
    · exact z
    · have := hA b z
      subst this
      rw [hK z] at e
      cases e)
  obtain ⟨mc, c1, c2⟩ := hlim
  have md : Mod K mg (hidT s₁.heap H) := { kin := lowK, glob := low hns, blt := ⟨mb, low hb, hbb⟩, nolimit := ⟨mc, low c1, c2⟩ }
  have e0 : Env0 P w K mg (hidT s₁.heap H) callerA [] s₁ H := { frames := rfl, mod := md, bs := fun b o e => of_hidT e, bsz := Nat.le_of_eq (hidT_size _ _), funs := trivial, frf := (fun b z => absurd z (List.not_mem_nil)), hok := hok, bare := .of_eq hg }
  refine codeAny_mono ((F _ lowK (low hns)).go callerA [] s₁ H ⟨[.ref a], []⟩ [.ref a] [.ref a] _ _ hr rfl e0 (hbind s₁ (.ref a)) (.cons rfl .nil) hsp) fun r s' h => ?_
  match r, h with
  | .error e, h => exact (hCX e s' h).elim
  | .ok (.ret u), ⟨v, H', os, bare, un, hok', rv, q⟩ =>
    have q : v = .bl true := q
    subst q
    obtain rfl : u = Value.bool true := rv
    refine ⟨rfl, OldK.of_keep fun b o e => ?_, os, bare⟩
    rcases hO b with z | ⟨ob, xs, z⟩
    · exact un.keep b o e z (fun m => absurd m (List.not_mem_nil)) (fun m => absurd m (List.not_mem_nil))
    · obtain ⟨e1, _⟩ := hok b _ z
      obtain ⟨e2, _⟩ := hok' b _ (un.frzs b ob _ z)
      rw [e] at e1
      cases e1
      exact e2
theorem lawG (KX : K.In s₁.heap) (hns : s₁.heap.Ns mainGlobals mg) (hb : s₁.heap.Ns builtinsNs mb) (hbb : ∀ x : Str, x ≠ "__name__" → mb x = bootBuiltins x) (hlim : s₁.heap.NoLimit) (hg : s₁.gens = #[])
    (ha : s₁.heap.get? a = some { cls := .type "list", data := .seq vs.toArray }) (hi : IntsAre vs ns) (hl : ns.length ≤ sizeLine) (hr : Room k callerA) (F : ∀ base : Heap, K.In base → base.Ns mainGlobals mg → FnG P w K mg base CX k fa fd [x] sp)
    (hbind : ∀ (s : Shared) (u : Value), BindsTo s fd ⟨[u], []⟩ [(x, u)]) (hsp : ∀ H : Hp, Only H → SqL K H a (ns.map V.int) → sp [.ref a] H (fun v _ => v = .bl true) fun _ _ _ => False)
    (hCX : ∀ H e s', CX [] H s₁ (fun _ _ _ => False) e s' → False) : codeAny (model P w) callerA (.call (.ref fa) ⟨[.ref a], []⟩) (LawEnd s₁) s₁ := by
  have rv := vals_ints hi
  have ln := hi.length
  cases hk : K.lookup a with
  | some o =>
    have e := KX a o hk
    rw [ha] at e
    cases e
    have hO : Only (fun _ => none) := fun _ => .inl rfl
    exact lawG_core (H := fun _ => none) KX hns hb hbb hlim hg ha hr F hbind hO (fun b u z => by cases z) (fun b z => absurd rfl z) (fun z => absurd rfl z) (hsp _ hO (.inr ⟨_, vs.toArray, _, hk, rfl, rfl, rfl, by rw [List.size_toArray, ln]; exact hl, by simpa using rv⟩)) fun e s' => hCX _ e s'
  | none =>
    let H0 : Hp := fun b => if b = a then some (.frz { cls := .type "list", data := .seq vs.toArray } (.lst (ns.map V.int))) else none
    have at0 : H0 a = some (.frz { cls := .type "list", data := .seq vs.toArray } (.lst (ns.map V.int))) := if_pos rfl
    have off : ∀ b, b ≠ a → H0 b = none := fun b h => if_neg h
    have hO : Only H0 := fun b => by
      by_cases z : b = a
      · rw [z]; exact .inr ⟨_, _, at0⟩
      · exact .inl (off b z)
    refine lawG_core (H := H0) KX hns hb hbb hlim hg ha hr F hbind hO (fun b u z => ?_) (fun b z => ?_) (fun _ => hk) (hsp H0 hO (.inl (.inr ⟨_, at0⟩))) fun e s' => hCX _ e s'
    · by_cases y : b = a
      · subst y
        rw [at0] at z
        cases z
        exact ⟨ha, by rw [List.length_map]; exact hl, vs, _, rv, ha⟩
      · rw [off b y] at z
        cases z
    · by_cases y : b = a
      · exact y
      · exact absurd (off b y) z
end
def xisB (K : PySem.W.Frag) (C : Addr) : Bool := (PySem.W.clsIn K C).isSome && (decide (PySem.W.findIn K (.ref C) "__class__" = some (some (.builtin "object.__class__"))) && (decide (PySem.W.specialIn K (.builtin "object.__class__") "__get__" = some (some (.builtin "getset_descriptor.__get__"))) && (decide (PySem.W.takesIn K (.builtin "object.__class__") = some true) && decide (PySem.W.mroIn K C (.type "object") = some true))))
/-- each of these classes asked for each of those -/
def famB (K : PySem.W.Frag) (cs : List Addr) (us : List Value) (tab : Nat → Nat → Bool) : Bool := cs.all (xisB K) && (List.range cs.length).all fun i => (List.range us.length).all fun j => decide (PySem.W.kitOne K (.ref (cs.getD i 0)) (us.getD j .none) = some (tab i j))
def due81 (i j : Nat) : Bool := decide (j < 2) || (if i < 6 then decide (j = 2 + i) else (decide (j = 8) || decide (j = 3 + i)))
theorem famB_k {K : PySem.W.Frag} {cs : List Addr} {us : List Value} {tab : Nat → Nat → Bool} (h : famB K cs us tab = true) (i : Nat) (hi : i < cs.length) (j : Nat) (hj : j < us.length) : PySem.W.kitOne K (.ref (cs.getD i 0)) (us.getD j .none) = some (tab i j) :=
  of_decide_eq_true (List.all_eq_true.mp (List.all_eq_true.mp (Bool.and_eq_true_iff.mp h).2 i (List.mem_range.mpr hi)) j (List.mem_range.mpr hj))
end G
namespace G
open PySem PySem.Spec PyProof.Rows L2
abbrev AlZ : Type := Bool × List He.FnV × List (Option (List (Option (Str × Int))))
abbrev ExZ : Type := List (PySem.W.Frag → List Bool)
def obsZ (fn : List He.FnD) (ts : List He.Tab) (ex : ExZ) (K : PySem.W.Frag) : AlZ := ((ex.all fun f => (f K).all id) && fn.all fun d => (He.Fa.code d.at_ d.qual).ok K, fn.map fun d => He.fnObs K d.at_, ts.map fun t => He.dicW K (t.1 K))
def valZ (fn : List He.FnD) (ts : List He.Tab) (w : World) : AlZ := (true, fn.map He.FnD.val, ts.map fun t => some (He.keysIn w.params t.2))
def SaysZ (fn : List He.FnD) (ts : List He.Tab) (ex : ExZ) (w : World) (K : PySem.W.Frag) : Prop := obsZ fn ts ex K = valZ fn ts w
/-- a list, its spine evaluated -/
def frL {α β : Type} : List α → (List α → β) → β
  | [], k => k []
  | x :: r, k => frL r fun r => k (x :: r)
theorem frL_eq {α β : Type} : ∀ (l : List α) (k : List α → β), frL l k = k l
  | [], _ => rfl
  | x :: r, k => by
    show frL r (fun r => k (x :: r)) = _
    rw [frL_eq r]
/-- all objects below n but lists -/
def allG (n : Nat) (g : Addr → Option Obj) : PySem.W.Frag := (He.frG g (List.range n)).filter fun p => p.2.cls != .type "list"
theorem lookZ_mem {a : Addr} {o : Obj} : ∀ {l : List (Addr × Obj)}, l.lookup a = some o → (a, o) ∈ l
  | [], h => by cases h
  | (b, u) :: r, h => by
    rw [List.lookup_cons] at h
    cases q : (a == b) with
    | true =>
      rw [q] at h
      cases h
      rw [beq_iff_eq.mp q]
      exact List.mem_cons_self
    | false =>
      rw [q] at h
      exact List.mem_cons_of_mem _ (lookZ_mem h)
theorem frG_mem {g : Addr → Option Obj} {as : List Addr} {a : Addr} {o : Obj} (h : (a, o) ∈ He.frG g as) : g a = some o := by
  unfold He.frG at h
  obtain ⟨b, _, e⟩ := List.mem_filterMap.mp h
  cases hb : g b with
  | none => rw [hb] at e; cases e
  | some u =>
    rw [hb] at e
    have e2 : (b, u) = (a, o) := Option.some.inj e
    injection e2 with e3 e4
    rw [← e3, ← e4]
    exact hb
theorem allG_in {n : Nat} {h : Heap} : (allG n h.get?).In h := fun _ _ e => frG_mem (List.mem_filter.mp (lookZ_mem e)).1
theorem allG_nol {n : Nat} {g : Addr → Option Obj} : ∀ a o, (allG n g).lookup a = some o → o.cls ≠ .type "list" := fun a o e z => by
  have h := (List.mem_filter.mp (lookZ_mem e)).2
  have h : (o.cls != .type "list") = true := h
  rw [z] at h
  exact absurd h (by decide)
def obsZG (n : Nat) (fn : List He.FnD) (ts : List He.Tab) (ex : ExZ) (g : Addr → Option Obj) : AlZ := frL (allG n g) fun K => obsZ fn ts ex K
theorem obsZG_is {n : Nat} {fn : List He.FnD} {ts : List He.Tab} {ex : ExZ} {g : Addr → Option Obj} : obsZG n fn ts ex g = obsZ fn ts ex (allG n g) := frL_eq _ _
def hookZ (n : Nat) (fn : List He.FnD) (ts : List He.Tab) (ex : ExZ) : PySem.W.Hook where
  α := AlZ
  obs := fun s => obsZG n fn ts ex s.heap.get?
  val := fun w => valZ fn ts w
  says := fun w h => ∃ K : PySem.W.Frag, K.In h ∧ (∀ a o, K.lookup a = some o → o.cls ≠ .type "list") ∧ SaysZ fn ts ex w K
  of := fun _ _ e => ⟨_, allG_in, allG_nol, obsZG_is.symm.trans e⟩
  keeps := fun _ _ _ ⟨K, hK, hN, c⟩ k => ⟨K, PySem.W.Frag.In.keeps hK k, hN, c⟩
theorem obsZG_eq {n : Nat} {fn : List He.FnD} {ts : List He.Tab} {ex : ExZ} {g : Addr → Option Obj} {s : Shared} (h : ∀ a, g a = s.heap.get? a) : obsZG n fn ts ex g = (hookZ n fn ts ex).obs s := by
  have e : g = s.heap.get? := funext h
  rw [e] <;> rfl
section
variable {fn : List He.FnD} {ts : List He.Tab} {ex : ExZ} {w : World} {K : PySem.W.Frag}
theorem SaysZ.bl (c : SaysZ fn ts ex w K) (j i : Nat) {f : PySem.W.Frag → List Bool} {b : Bool} (hj : ex[j]? = some f) (hi : (f K)[i]? = some b) : b = true := by
  have c1 := (He.ba (show ((ex.all fun f => (f K).all id) && fn.all fun d => (He.Fa.code d.at_ d.qual).ok K) = true from congrArg (fun z : AlZ => z.1) c)).1
  have c2 := List.all_eq_true.mp c1 f (List.mem_of_getElem? hj)
  exact List.all_eq_true.mp c2 b (List.mem_of_getElem? hi)
theorem SaysZ.is (c : SaysZ fn ts ex w K) (j i : Nat) {f : PySem.W.Frag → List Bool} {p : Prop} [d : Decidable p] (hj : ex[j]? = some f) (hi : (f K)[i]? = some (decide p)) : p := of_decide_eq_true (c.bl j i hj hi)
theorem SaysZ.def_ (c : SaysZ fn ts ex w K) (i : Nat) {d : He.FnD} (h : fn[i]? = some d) :
    ∃ oc od osl kV doc pm an cdv ct, K.lookup (He.fAd K d.at_) = some ⟨oc, od, .func (PySem.W.fnOf d.name d.qual d.params d.body d.scope .none kV doc pm an cdv ct), osl⟩ ∧ PySem.W.codeIn K cdv d.qual = true := by
  have c2 := (He.ba (show ((ex.all fun f => (f K).all id) && fn.all fun d => (He.Fa.code d.at_ d.qual).ok K) = true from congrArg (fun z : AlZ => z.1) c)).2
  have e : fn.map (fun d => He.fnObs K d.at_) = fn.map He.FnD.val := congrArg (fun z : AlZ => z.2.1) c
  have e2 : (fn.map fun d => He.fnObs K d.at_)[i]? = (fn.map He.FnD.val)[i]? := by rw [e]
  rw [List.getElem?_map, List.getElem?_map, h] at e2
  exact He.fn_ok (Option.some.inj e2) (List.all_eq_true.mp c2 d (List.mem_of_getElem? h))
end
def excB (K : PySem.W.Frag) (C : Addr) : Bool := match K.lookup C with
  | some ⟨.type c, _, .cls cd, sl⟩ => decide (c = "type") && (match cd.mro, sl.toList with
    | .ref C' :: bm, [_, _, _, _, some (.builtin n), _] => decide (C' = C) && (decide (n = "ValueError.__new__") && (!cd.hasDel && (cd.hasDict && PySem.HandSPX.refsVE bm)))
    | _, _ => false)
  | _ => false
theorem excB_ok {K : PySem.W.Frag} {C : Addr} (h : excB K C = true) : ∃ nm q N bs bm sn sub ab col dd m0 m1 m2 m3 m5, K.lookup C = some (excClassObj nm q C N bs bm true sn sub ab col dd m0 m1 m2 m3 m5 "ValueError.__new__") ∧ PySem.HandSPX.refsVE bm = true := by
  unfold excB at h
  split at h
  · rename_i c dd cd sl ho
    obtain ⟨h1, h⟩ := He.ba h
    split at h
    · rename_i C' bm k0 k1 k2 k3 n k5 hm hs
      obtain ⟨h2, h⟩ := He.ba h
      obtain ⟨h3, h⟩ := He.ba h
      obtain ⟨h4, h⟩ := He.ba h
      obtain ⟨h5, h6⟩ := He.ba h
      obtain ⟨nm, bs, mro, ns, qn, hd, sn, sub, ab, col, del⟩ := cd
      dsimp only at hm h4 h5
      have hdel : del = false := by cases del <;> first | rfl | cases h4
      subst hm hdel h5
      have hsl : sl = #[k0, k1, k2, k3, some (.builtin n), k5] := by
        obtain ⟨l⟩ := sl
        simp only at hs
        rw [hs]
      subst hsl
      rw [of_decide_eq_true h1, of_decide_eq_true h2, of_decide_eq_true h3] at ho
      exact ⟨nm, qn, ns, bs, bm, sn, sub, ab, col, dd, k0, k1, k2, k3, k5, ho, h6⟩
    · cases h
  · cases h
theorem walkG_ofE {l : PySem.W.OpenLaw} {n k : Nat} {q : Program} {loose : List Str} {XP : (Str → Option Value) → Heap → Prop} {YP : World → Heap → Prop} {d : DefRec} {CX : CXT} {x : Str}
    (hn : l.most = some n) (hn2 : n ≤ sizeLine) (hdf : d.params.defaults = []) (hr : Room k callerA)
    (F : ∀ (w : World) (mg : Str → Option Value) (fa : Addr) (h : Heap), YP w h → h.Ns mainGlobals mg → mg d.name = some (.ref fa) →
      ∃ (K : PySem.W.Frag) (fd : FuncData) (sp : Sp), K.In h ∧ (∀ (s : Shared) (u : Value), BindsTo s fd ⟨[u], []⟩ [(x, u)]) ∧
        (∀ (H : Hp) (a : Addr) (ns : List Int), ns.length ≤ n → Only H → SqL K H a (ns.map V.int) → sp [.ref a] H (fun v _ => v = .bl true) fun _ _ _ => False) ∧
        ∀ base : Heap, K.In base → base.Ns mainGlobals mg → FnG l.prog w K mg base CX k fa fd [x] sp)
    (hCX : ∀ (H : Hp) (s : Shared) (e : Value) (s' : Shared), CX [] H s (fun _ _ _ => False) e s' → False) :
    PySem.W.WalkO q loose XP YP l.row.toRowW d [] (fun f vs => PySem.call f vs) := by
  refine Att.attach_call hn hdf fun w s₀ s₁ mg mb fa o pm cd doc a vs ns B Y ho hd hcd hmg hobj hints hlen hg => ?_
  obtain ⟨K, fd, sp, KX, hb, hsp, hF⟩ := F w mg fa _ Y B.T.g hmg
  exact lawG KX B.T.g B.T.b B.T.builtins B.T.nolimit hg hobj hints (Nat.le_trans hlen hn2) hr hF hb (fun H h1 h2 => hsp H a ns hlen h1 h2) fun H e s' => hCX H s₁ e s'
end G
set_option Elab.async false
set_option linter.all false
set_option maxRecDepth 100000
set_option maxHeartbeats 4000000
namespace Z
open PySem PySem.Spec PyProof.Rows L2 G
def topS (i : Nat) : Stmt := PySem.Challenge.pw_thawedwrites_k81_error_classes.main.body.getD i (.Pass ⟨0, 0, 0, 0⟩)
abbrev s_InvalidHeap_init : Stmt := inClass (topS 2) 0
theorem sc_InvalidHeap_init : FnScope ["self", "part", "where"] ["self", "part", "where"] (defScope s_InvalidHeap_init) := ⟨rfl, rfl, rfl, by decide +kernel, rfl, by decide +kernel, by decide +kernel⟩
abbrev s_InvalidProgram_init : Stmt := inClass (topS 3) 0
theorem sc_InvalidProgram_init : FnScope ["self", "part", "place"] ["self", "part", "place"] (defScope s_InvalidProgram_init) := ⟨rfl, rfl, rfl, by decide +kernel, rfl, by decide +kernel, by decide +kernel⟩
abbrev s_InvalidFacts_init : Stmt := inClass (topS 4) 0
theorem sc_InvalidFacts_init : FnScope ["self", "part"] ["self", "part"] (defScope s_InvalidFacts_init) := ⟨rfl, rfl, rfl, by decide +kernel, rfl, by decide +kernel, by decide +kernel⟩
abbrev s_InvalidArgument_init : Stmt := inClass (topS 5) 0
theorem sc_InvalidArgument_init : FnScope ["self", "part"] ["self", "part"] (defScope s_InvalidArgument_init) := ⟨rfl, rfl, rfl, by decide +kernel, rfl, by decide +kernel, by decide +kernel⟩
abbrev s_InvalidText_init : Stmt := inClass (topS 6) 0
theorem sc_InvalidText_init : FnScope ["self", "line"] ["self", "line"] (defScope s_InvalidText_init) := ⟨rfl, rfl, rfl, by decide +kernel, rfl, by decide +kernel, by decide +kernel⟩
abbrev s_LimitExceeded_init : Stmt := inClass (topS 7) 0
theorem sc_LimitExceeded_init : FnScope ["self", "limit"] ["self", "limit"] (defScope s_LimitExceeded_init) := ⟨rfl, rfl, rfl, by decide +kernel, rfl, by decide +kernel, by decide +kernel⟩
abbrev s_RunError_init : Stmt := inClass (topS 8) 0
theorem sc_RunError_init : FnScope ["self", "name"] ["self", "name"] (defScope s_RunError_init) := ⟨rfl, rfl, rfl, by decide +kernel, rfl, by decide +kernel, by decide +kernel⟩
abbrev s_l_draw : Stmt := topS 12
theorem sc_l_draw : FnScope ["_law_pool", "_law_limit", "_law_cells", "_law_at", "_law_digit", "_law_cell", "_law_number"] ["_law_pool", "_law_limit"] (defScope s_l_draw) := ⟨rfl, rfl, rfl, by decide +kernel, rfl, by decide +kernel, by decide +kernel⟩
abbrev s_l_word : Stmt := topS 14
theorem sc_l_word : FnScope ["_law_pool", "_law_taken", "_law_letters", "_law_size", "_law_word_here", "_law_letter", "_law_k"] ["_law_pool", "_law_taken"] (defScope s_l_word) := ⟨rfl, rfl, rfl, by decide +kernel, rfl, by decide +kernel, by decide +kernel⟩
abbrev s_l_exact : Stmt := topS 16
theorem sc_l_exact : FnScope ["_law_actual", "_law_due_here"] ["_law_actual", "_law_due_here"] (defScope s_l_exact) := ⟨rfl, rfl, rfl, by decide +kernel, rfl, by decide +kernel, by decide +kernel⟩
abbrev s_l_family : Stmt := topS 17
theorem sc_l_family : FnScope ["_law_e", "_law_base", "_law_first", "_law_second"] ["_law_e"] (defScope s_l_family) := ⟨rfl, rfl, rfl, by decide +kernel, rfl, by decide +kernel, by decide +kernel⟩
abbrev s_l_due : Stmt := topS 18
theorem sc_l_due : FnScope ["_law_places", "_law_k"] ["_law_places"] (defScope s_l_due) := ⟨rfl, rfl, rfl, by decide +kernel, rfl, by decide +kernel, by decide +kernel⟩
abbrev s_law : Stmt := topS 19
theorem sc_law : FnScope ["_law_script", "_law_pool", "_law_word_here", "_law_number", "_law_place", "_law_heap", "_law_program", "_law_facts", "_law_argument", "_law_text", "_law_limit", "_law_hollow", "_law_refused", "_law_told", "_law_families", "_law_due_here", "_law_k"] ["_law_script"] (defScope s_law) := ⟨rfl, rfl, rfl, by decide +kernel, rfl, by decide +kernel, by decide +kernel⟩
abbrev D_xInvalidHeap : He.FnD := ⟨("InvalidHeap", some "__init__"), "__init__", "InvalidHeap.__init__", defArgs s_InvalidHeap_init, defBody s_InvalidHeap_init, defScope s_InvalidHeap_init⟩
abbrev D_xInvalidProgram : He.FnD := ⟨("InvalidProgram", some "__init__"), "__init__", "InvalidProgram.__init__", defArgs s_InvalidProgram_init, defBody s_InvalidProgram_init, defScope s_InvalidProgram_init⟩
abbrev D_xInvalidFacts : He.FnD := ⟨("InvalidFacts", some "__init__"), "__init__", "InvalidFacts.__init__", defArgs s_InvalidFacts_init, defBody s_InvalidFacts_init, defScope s_InvalidFacts_init⟩
abbrev D_xInvalidArgument : He.FnD := ⟨("InvalidArgument", some "__init__"), "__init__", "InvalidArgument.__init__", defArgs s_InvalidArgument_init, defBody s_InvalidArgument_init, defScope s_InvalidArgument_init⟩
abbrev D_xInvalidText : He.FnD := ⟨("InvalidText", some "__init__"), "__init__", "InvalidText.__init__", defArgs s_InvalidText_init, defBody s_InvalidText_init, defScope s_InvalidText_init⟩
abbrev D_xLimitExceeded : He.FnD := ⟨("LimitExceeded", some "__init__"), "__init__", "LimitExceeded.__init__", defArgs s_LimitExceeded_init, defBody s_LimitExceeded_init, defScope s_LimitExceeded_init⟩
abbrev D_xHollow : He.FnD := ⟨("Hollow", some "__init__"), "__init__", "RunError.__init__", defArgs s_RunError_init, defBody s_RunError_init, defScope s_RunError_init⟩
abbrev D_xRefused : He.FnD := ⟨("Refused", some "__init__"), "__init__", "RunError.__init__", defArgs s_RunError_init, defBody s_RunError_init, defScope s_RunError_init⟩
abbrev D_l_draw : He.FnD := ⟨("_law_draw", none), "_law_draw", "_law_draw", defArgs s_l_draw, defBody s_l_draw, defScope s_l_draw⟩
abbrev D_l_word : He.FnD := ⟨("_law_word", none), "_law_word", "_law_word", defArgs s_l_word, defBody s_l_word, defScope s_l_word⟩
abbrev D_l_exact : He.FnD := ⟨("_law_exact", none), "_law_exact", "_law_exact", defArgs s_l_exact, defBody s_l_exact, defScope s_l_exact⟩
abbrev D_l_family : He.FnD := ⟨("_law_family", none), "_law_family", "_law_family", defArgs s_l_family, defBody s_l_family, defScope s_l_family⟩
abbrev D_l_due : He.FnD := ⟨("_law_due", none), "_law_due", "_law_due", defArgs s_l_due, defBody s_l_due, defScope s_l_due⟩
abbrev D_law : He.FnD := ⟨("law", none), "law", "law", defArgs s_law, defBody s_law, defScope s_law⟩
abbrev fnZ0 : List He.FnD := [D_xInvalidHeap, D_xInvalidProgram, D_xInvalidFacts, D_xInvalidArgument, D_xInvalidText, D_xLimitExceeded, D_xHollow, D_xRefused, D_l_draw, D_l_word, D_l_exact, D_l_family, D_l_due, D_law]
abbrev fnZ : List He.FnD := fnZ0
abbrev tsZ : List He.Tab := []
def exZ0 (K : PySem.W.Frag) : List Bool := [decide (PySem.W.nsIn K mainGlobals "InvalidHeap" = some (some (.ref (He.ga K "InvalidHeap")))),
  G.excB K (He.ga K "InvalidHeap"),
  decide (PySem.W.findIn K (.ref (He.ga K "InvalidHeap")) "__setattr__" = some (some (.builtin "object.__setattr__"))),
  decide (PySem.W.findIn K (.ref (He.ga K "InvalidHeap")) "__getattribute__" = some (some (.builtin "BaseException.__getattribute__"))),
  decide (PySem.W.findIn K (.ref (He.ga K "InvalidHeap")) "__getattr__" = some none),
  decide (PySem.W.findIn K (.ref (He.ga K "InvalidHeap")) "part" = some none),
  decide (PySem.W.findIn K (.ref (He.ga K "InvalidHeap")) "where" = some none),
  decide (PySem.W.keepIn K (.ref (He.ga K "InvalidHeap")) = true),
  decide (PySem.W.subIn K (.ref (He.ga K "InvalidHeap")) (.type "BaseException") = some true),
  decide (PySem.W.typeIn K (.ref (He.ga K "InvalidHeap")) = some (.type "type")),
  decide (PySem.W.hasDictIn K (He.ga K "InvalidHeap") = true),
  decide (PySem.W.isClsIn K (He.ga K "InvalidHeap") = true),
  decide (PySem.W.subIn K (.ref (He.ga K "InvalidHeap")) (.ref (He.ga K "InvalidHeap")) = some true),
  decide (PySem.W.findIn K (.ref (He.ga K "InvalidHeap")) "__init__" = some (some (.ref (He.ma K (He.ga K "InvalidHeap") "__init__")))),
  decide (PySem.W.typeIn K (.ref (He.ma K (He.ga K "InvalidHeap") "__init__")) = some (.type "function")),
  decide (PySem.W.keepIn K (.ref (He.ma K (He.ga K "InvalidHeap") "__init__")) = true),
  decide (PySem.W.nsIn K mainGlobals "InvalidProgram" = some (some (.ref (He.ga K "InvalidProgram")))),
  G.excB K (He.ga K "InvalidProgram"),
  decide (PySem.W.findIn K (.ref (He.ga K "InvalidProgram")) "__setattr__" = some (some (.builtin "object.__setattr__"))),
  decide (PySem.W.findIn K (.ref (He.ga K "InvalidProgram")) "__getattribute__" = some (some (.builtin "BaseException.__getattribute__"))),
  decide (PySem.W.findIn K (.ref (He.ga K "InvalidProgram")) "__getattr__" = some none),
  decide (PySem.W.findIn K (.ref (He.ga K "InvalidProgram")) "part" = some none),
  decide (PySem.W.findIn K (.ref (He.ga K "InvalidProgram")) "place" = some none),
  decide (PySem.W.keepIn K (.ref (He.ga K "InvalidProgram")) = true),
  decide (PySem.W.subIn K (.ref (He.ga K "InvalidProgram")) (.type "BaseException") = some true)]
def exZ1 (K : PySem.W.Frag) : List Bool := [decide (PySem.W.typeIn K (.ref (He.ga K "InvalidProgram")) = some (.type "type")),
  decide (PySem.W.hasDictIn K (He.ga K "InvalidProgram") = true),
  decide (PySem.W.isClsIn K (He.ga K "InvalidProgram") = true),
  decide (PySem.W.subIn K (.ref (He.ga K "InvalidProgram")) (.ref (He.ga K "InvalidProgram")) = some true),
  decide (PySem.W.findIn K (.ref (He.ga K "InvalidProgram")) "__init__" = some (some (.ref (He.ma K (He.ga K "InvalidProgram") "__init__")))),
  decide (PySem.W.typeIn K (.ref (He.ma K (He.ga K "InvalidProgram") "__init__")) = some (.type "function")),
  decide (PySem.W.keepIn K (.ref (He.ma K (He.ga K "InvalidProgram") "__init__")) = true),
  decide (PySem.W.nsIn K mainGlobals "InvalidFacts" = some (some (.ref (He.ga K "InvalidFacts")))),
  G.excB K (He.ga K "InvalidFacts"),
  decide (PySem.W.findIn K (.ref (He.ga K "InvalidFacts")) "__setattr__" = some (some (.builtin "object.__setattr__"))),
  decide (PySem.W.findIn K (.ref (He.ga K "InvalidFacts")) "__getattribute__" = some (some (.builtin "BaseException.__getattribute__"))),
  decide (PySem.W.findIn K (.ref (He.ga K "InvalidFacts")) "__getattr__" = some none),
  decide (PySem.W.findIn K (.ref (He.ga K "InvalidFacts")) "part" = some none),
  decide (PySem.W.keepIn K (.ref (He.ga K "InvalidFacts")) = true),
  decide (PySem.W.subIn K (.ref (He.ga K "InvalidFacts")) (.type "BaseException") = some true),
  decide (PySem.W.typeIn K (.ref (He.ga K "InvalidFacts")) = some (.type "type")),
  decide (PySem.W.hasDictIn K (He.ga K "InvalidFacts") = true),
  decide (PySem.W.isClsIn K (He.ga K "InvalidFacts") = true),
  decide (PySem.W.subIn K (.ref (He.ga K "InvalidFacts")) (.ref (He.ga K "InvalidFacts")) = some true),
  decide (PySem.W.findIn K (.ref (He.ga K "InvalidFacts")) "__init__" = some (some (.ref (He.ma K (He.ga K "InvalidFacts") "__init__")))),
  decide (PySem.W.typeIn K (.ref (He.ma K (He.ga K "InvalidFacts") "__init__")) = some (.type "function")),
  decide (PySem.W.keepIn K (.ref (He.ma K (He.ga K "InvalidFacts") "__init__")) = true),
  decide (PySem.W.nsIn K mainGlobals "InvalidArgument" = some (some (.ref (He.ga K "InvalidArgument")))),
  G.excB K (He.ga K "InvalidArgument"),
  decide (PySem.W.findIn K (.ref (He.ga K "InvalidArgument")) "__setattr__" = some (some (.builtin "object.__setattr__")))]
def exZ2 (K : PySem.W.Frag) : List Bool := [decide (PySem.W.findIn K (.ref (He.ga K "InvalidArgument")) "__getattribute__" = some (some (.builtin "BaseException.__getattribute__"))),
  decide (PySem.W.findIn K (.ref (He.ga K "InvalidArgument")) "__getattr__" = some none),
  decide (PySem.W.findIn K (.ref (He.ga K "InvalidArgument")) "part" = some none),
  decide (PySem.W.keepIn K (.ref (He.ga K "InvalidArgument")) = true),
  decide (PySem.W.subIn K (.ref (He.ga K "InvalidArgument")) (.type "BaseException") = some true),
  decide (PySem.W.typeIn K (.ref (He.ga K "InvalidArgument")) = some (.type "type")),
  decide (PySem.W.hasDictIn K (He.ga K "InvalidArgument") = true),
  decide (PySem.W.isClsIn K (He.ga K "InvalidArgument") = true),
  decide (PySem.W.subIn K (.ref (He.ga K "InvalidArgument")) (.ref (He.ga K "InvalidArgument")) = some true),
  decide (PySem.W.findIn K (.ref (He.ga K "InvalidArgument")) "__init__" = some (some (.ref (He.ma K (He.ga K "InvalidArgument") "__init__")))),
  decide (PySem.W.typeIn K (.ref (He.ma K (He.ga K "InvalidArgument") "__init__")) = some (.type "function")),
  decide (PySem.W.keepIn K (.ref (He.ma K (He.ga K "InvalidArgument") "__init__")) = true),
  decide (PySem.W.nsIn K mainGlobals "InvalidText" = some (some (.ref (He.ga K "InvalidText")))),
  G.excB K (He.ga K "InvalidText"),
  decide (PySem.W.findIn K (.ref (He.ga K "InvalidText")) "__setattr__" = some (some (.builtin "object.__setattr__"))),
  decide (PySem.W.findIn K (.ref (He.ga K "InvalidText")) "__getattribute__" = some (some (.builtin "BaseException.__getattribute__"))),
  decide (PySem.W.findIn K (.ref (He.ga K "InvalidText")) "__getattr__" = some none),
  decide (PySem.W.findIn K (.ref (He.ga K "InvalidText")) "line" = some none),
  decide (PySem.W.keepIn K (.ref (He.ga K "InvalidText")) = true),
  decide (PySem.W.subIn K (.ref (He.ga K "InvalidText")) (.type "BaseException") = some true),
  decide (PySem.W.typeIn K (.ref (He.ga K "InvalidText")) = some (.type "type")),
  decide (PySem.W.hasDictIn K (He.ga K "InvalidText") = true),
  decide (PySem.W.isClsIn K (He.ga K "InvalidText") = true),
  decide (PySem.W.subIn K (.ref (He.ga K "InvalidText")) (.ref (He.ga K "InvalidText")) = some true),
  decide (PySem.W.findIn K (.ref (He.ga K "InvalidText")) "__init__" = some (some (.ref (He.ma K (He.ga K "InvalidText") "__init__"))))]
def exZ3 (K : PySem.W.Frag) : List Bool := [decide (PySem.W.typeIn K (.ref (He.ma K (He.ga K "InvalidText") "__init__")) = some (.type "function")),
  decide (PySem.W.keepIn K (.ref (He.ma K (He.ga K "InvalidText") "__init__")) = true),
  decide (PySem.W.nsIn K mainGlobals "LimitExceeded" = some (some (.ref (He.ga K "LimitExceeded")))),
  G.excB K (He.ga K "LimitExceeded"),
  decide (PySem.W.findIn K (.ref (He.ga K "LimitExceeded")) "__setattr__" = some (some (.builtin "object.__setattr__"))),
  decide (PySem.W.findIn K (.ref (He.ga K "LimitExceeded")) "__getattribute__" = some (some (.builtin "BaseException.__getattribute__"))),
  decide (PySem.W.findIn K (.ref (He.ga K "LimitExceeded")) "__getattr__" = some none),
  decide (PySem.W.findIn K (.ref (He.ga K "LimitExceeded")) "limit" = some none),
  decide (PySem.W.keepIn K (.ref (He.ga K "LimitExceeded")) = true),
  decide (PySem.W.subIn K (.ref (He.ga K "LimitExceeded")) (.type "BaseException") = some true),
  decide (PySem.W.typeIn K (.ref (He.ga K "LimitExceeded")) = some (.type "type")),
  decide (PySem.W.hasDictIn K (He.ga K "LimitExceeded") = true),
  decide (PySem.W.isClsIn K (He.ga K "LimitExceeded") = true),
  decide (PySem.W.subIn K (.ref (He.ga K "LimitExceeded")) (.ref (He.ga K "LimitExceeded")) = some true),
  decide (PySem.W.findIn K (.ref (He.ga K "LimitExceeded")) "__init__" = some (some (.ref (He.ma K (He.ga K "LimitExceeded") "__init__")))),
  decide (PySem.W.typeIn K (.ref (He.ma K (He.ga K "LimitExceeded") "__init__")) = some (.type "function")),
  decide (PySem.W.keepIn K (.ref (He.ma K (He.ga K "LimitExceeded") "__init__")) = true),
  decide (PySem.W.nsIn K mainGlobals "Hollow" = some (some (.ref (He.ga K "Hollow")))),
  G.excB K (He.ga K "Hollow"),
  decide (PySem.W.findIn K (.ref (He.ga K "Hollow")) "__setattr__" = some (some (.builtin "object.__setattr__"))),
  decide (PySem.W.findIn K (.ref (He.ga K "Hollow")) "__getattribute__" = some (some (.builtin "BaseException.__getattribute__"))),
  decide (PySem.W.findIn K (.ref (He.ga K "Hollow")) "__getattr__" = some none),
  decide (PySem.W.findIn K (.ref (He.ga K "Hollow")) "name" = some none),
  decide (PySem.W.keepIn K (.ref (He.ga K "Hollow")) = true),
  decide (PySem.W.subIn K (.ref (He.ga K "Hollow")) (.type "BaseException") = some true)]
def exZ4 (K : PySem.W.Frag) : List Bool := [decide (PySem.W.typeIn K (.ref (He.ga K "Hollow")) = some (.type "type")),
  decide (PySem.W.hasDictIn K (He.ga K "Hollow") = true),
  decide (PySem.W.isClsIn K (He.ga K "Hollow") = true),
  decide (PySem.W.subIn K (.ref (He.ga K "Hollow")) (.ref (He.ga K "Hollow")) = some true),
  decide (PySem.W.findIn K (.ref (He.ga K "Hollow")) "__init__" = some (some (.ref (He.ma K (He.ga K "Hollow") "__init__")))),
  decide (PySem.W.typeIn K (.ref (He.ma K (He.ga K "Hollow") "__init__")) = some (.type "function")),
  decide (PySem.W.keepIn K (.ref (He.ma K (He.ga K "Hollow") "__init__")) = true),
  decide (PySem.W.nsIn K mainGlobals "Refused" = some (some (.ref (He.ga K "Refused")))),
  G.excB K (He.ga K "Refused"),
  decide (PySem.W.findIn K (.ref (He.ga K "Refused")) "__setattr__" = some (some (.builtin "object.__setattr__"))),
  decide (PySem.W.findIn K (.ref (He.ga K "Refused")) "__getattribute__" = some (some (.builtin "BaseException.__getattribute__"))),
  decide (PySem.W.findIn K (.ref (He.ga K "Refused")) "__getattr__" = some none),
  decide (PySem.W.findIn K (.ref (He.ga K "Refused")) "name" = some none),
  decide (PySem.W.keepIn K (.ref (He.ga K "Refused")) = true),
  decide (PySem.W.subIn K (.ref (He.ga K "Refused")) (.type "BaseException") = some true),
  decide (PySem.W.typeIn K (.ref (He.ga K "Refused")) = some (.type "type")),
  decide (PySem.W.hasDictIn K (He.ga K "Refused") = true),
  decide (PySem.W.isClsIn K (He.ga K "Refused") = true),
  decide (PySem.W.subIn K (.ref (He.ga K "Refused")) (.ref (He.ga K "Refused")) = some true),
  decide (PySem.W.findIn K (.ref (He.ga K "Refused")) "__init__" = some (some (.ref (He.ma K (He.ga K "Refused") "__init__")))),
  decide (PySem.W.typeIn K (.ref (He.ma K (He.ga K "Refused") "__init__")) = some (.type "function")),
  decide (PySem.W.keepIn K (.ref (He.ma K (He.ga K "Refused") "__init__")) = true),
  decide (PySem.W.nsIn K mainGlobals "_law_draw" = some (some (.ref (He.ga K "_law_draw")))),
  decide (PySem.W.keepIn K (.ref (He.ga K "_law_draw")) = true),
  decide (PySem.W.nsIn K mainGlobals "_law_word" = some (some (.ref (He.ga K "_law_word"))))]
def exZ5 (K : PySem.W.Frag) : List Bool := [decide (PySem.W.keepIn K (.ref (He.ga K "_law_word")) = true),
  decide (PySem.W.nsIn K mainGlobals "_law_exact" = some (some (.ref (He.ga K "_law_exact")))),
  decide (PySem.W.keepIn K (.ref (He.ga K "_law_exact")) = true),
  decide (PySem.W.nsIn K mainGlobals "_law_family" = some (some (.ref (He.ga K "_law_family")))),
  decide (PySem.W.keepIn K (.ref (He.ga K "_law_family")) = true),
  decide (PySem.W.nsIn K mainGlobals "_law_due" = some (some (.ref (He.ga K "_law_due")))),
  decide (PySem.W.keepIn K (.ref (He.ga K "_law_due")) = true),
  decide (PySem.W.nsIn K mainGlobals "law" = some (some (.ref (He.ga K "law")))),
  decide (PySem.W.keepIn K (.ref (He.ga K "law")) = true),
  decide (PySem.W.nsIn K mainGlobals "ThawError" = some (some (.ref (He.ga K "ThawError")))),
  decide (PySem.W.nsIn K mainGlobals "RunError" = some (some (.ref (He.ga K "RunError")))),
  decide (PySem.W.nsIn K mainGlobals "ValueError" = some none),
  decide (famB K [(He.ga K "InvalidHeap"), (He.ga K "InvalidProgram"), (He.ga K "InvalidFacts"), (He.ga K "InvalidArgument"), (He.ga K "InvalidText"), (He.ga K "LimitExceeded"), (He.ga K "Hollow"), (He.ga K "Refused")] [.ref (He.ga K "ThawError"), .type "ValueError", .ref (He.ga K "InvalidHeap"), .ref (He.ga K "InvalidProgram"), .ref (He.ga K "InvalidFacts"), .ref (He.ga K "InvalidArgument"), .ref (He.ga K "InvalidText"), .ref (He.ga K "LimitExceeded"), .ref (He.ga K "RunError"), .ref (He.ga K "Hollow"), .ref (He.ga K "Refused")] due81 = true),
  decide (PySem.W.nsIn K mainGlobals "len" = some none),
  decide (PySem.W.nsIn K mainGlobals "list" = some none),
  decide (PySem.W.nsIn K mainGlobals "tuple" = some none),
  decide (PySem.W.nsIn K mainGlobals "dict" = some none),
  decide (PySem.W.nsIn K mainGlobals "int" = some none),
  decide (PySem.W.nsIn K mainGlobals "str" = some none),
  decide (PySem.W.nsIn K mainGlobals "bool" = some none),
  decide (PySem.W.nsIn K mainGlobals "range" = some none),
  decide (PySem.W.nsIn K mainGlobals "isinstance" = some none),
  decide (PySem.W.nsIn K mainGlobals "sorted" = some none),
  decide (PySem.W.nsIn K mainGlobals "enumerate" = some none),
  decide (PySem.W.nsIn K mainGlobals "zip" = some none)]
def exZ6 (K : PySem.W.Frag) : List Bool := [decide (PySem.W.nsIn K mainGlobals "min" = some none),
  decide (PySem.W.nsIn K mainGlobals "repr" = some none)]
abbrev exZ : G.ExZ := [exZ0, exZ1, exZ2, exZ3, exZ4, exZ5, exZ6]
def nmZ0 : List PySem.Str := ["ThawError", "InvalidHeap", "InvalidProgram", "InvalidFacts", "InvalidArgument", "InvalidText", "LimitExceeded", "RunError", "Hollow", "Refused", "_law_draw", "_law_pick", "_law_word", "_law_words", "_law_exact", "_law_family", "_law_due"]
def nmZ : List PySem.Str := nmZ0
abbrev RZ : PySem.W.OpenRow := PySem.W.OpenLaw.row PySem.Challenge.rw_thawedwrites_k81_error_classes
abbrev hkZ : PySem.W.Hook := G.hookZ 1500 fnZ tsZ exZ
def obZ (s : PySem.W.SharedT) : G.AlZ := G.obsZG 1500 fnZ tsZ exZ (HandSHeadRun.getT s)
theorem obZ_eq (s : PySem.W.SharedT) : obZ s = hkZ.obs s.abs := G.obsZG_eq (HandSHeadRun.getT_eq s)
abbrev qvZ : Program := PySem.W.view RZ.prog [19]
theorem runZ0 (w : World) : HandSHeadRun.RunEq RZ qvZ hkZ obZ 15000 nmZ (w.withFollow "special-get-raises" false) := by
  intro os
  kernel_rfl
theorem runZ1 (w : World) : HandSHeadRun.RunEq RZ qvZ hkZ obZ 15000 nmZ (w.withFollow "special-get-raises" true) := by
  intro os
  kernel_rfl
theorem runZ (w : World) : HandSHeadRun.RunEq RZ qvZ hkZ obZ 15000 nmZ w := PySem.W.byRow2 "special-get-raises" runZ0 runZ1 w
end Z
namespace G
open PySem PySem.Spec PyProof.Rows L2
section
variable {X : Cx} {CX : CXT} {k j : Nat} {C : Addr} {sp : Sp} {E : L2.St → XK}
theorem Passes.at {E : XK} (h : Passes CX X E) : ∀ σ, PassesAt CX X σ ((fun _ => E) σ) := fun σ pins H s e s' I c => h pins σ H s e s' I c
/-- len(x), x an instance with an own __len__ -/
def rLenO (C : Addr) (sp : Sp) (E : XK) : TC := fun xs H Q => ∃ a dx fs, xs = [.ref a] ∧ H a = some (.ins C dx fs) ∧ sp [.ref a] H (fun z H' => ∃ i : Int, z = .int i ∧ 0 ≤ i ∧ i < 2 ^ 63 ∧ Q (.int i) H') E
/-- x == y, both instances of the class at C with an own __eq__ -/
def rEqO (C : Addr) (sp : Sp) (E : XK) : R2 := fun x y H Q => ∃ a b dx dy fs gs, x = .ref a ∧ y = .ref b ∧ H a = some (.ins C dx fs) ∧ H b = some (.ins C dy gs) ∧ sp [x, y] H (fun z H' => ∃ b, z = .bl b ∧ Q (.bl b) H') E
end
def rIsntB : R2 := fun x y H Q => ∃ a b, x = .bl a ∧ y = .bl b ∧ Q (.bl (!decide (a = b))) H
end G
namespace G
open PySem PySem.Spec PyProof.Rows L2
section
variable {X : Cx} {n : Nat}
/-- two dicts of the same flat items -/
def SD : Eqv := fun x y H => ∃ (p q : Addr) (ks ls : List (Key × V)), x = .ref p ∧ y = .ref q ∧ H p = some (.dK ks) ∧ H q = some (.dK ls) ∧ ks.length = ls.length ∧ ∀ y ∈ ks, valV ls y.1 = some y.2 ∧ flatB y.2 = true
theorem Fr.ext {H H' : Hp} (e : Ext H H') : Fr NoA H H' := ⟨fun b o h _ => e b o h, fun b h => by
  cases hb : H b with
  | none => rfl
  | some o => rw [e b o hb] at h; cases h⟩
end
end G
namespace G
open PySem PySem.Spec PyProof.Rows L2
/-- the tuple at a, each item in a new pair -/
def ItE (K : PySem.W.Frag) (a : Addr) : It :=
  ⟨fun i H => ∃ (xs : List V) (x : V), SqT K H a xs ∧ xs[i]? = some x, fun i H v H' => ∃ T x, v = .ref T ∧ H T = none ∧ H' = upd H T (.tup [.int (i : Nat), x]) ∧ ∀ xs, SqT K H a xs → xs[i]? = some x, fun i H => ∃ xs : List V, SqT K H a xs ∧ xs.length ≤ i⟩
def iEnumT (K : PySem.W.Frag) (ta : TA) : TI := fun σ H R => ta σ H fun vs H1 => ∃ a xs, vs = [.ref a] ∧ SqT K H1 a xs ∧ R (ItE K a) H1
end G
namespace E
open PySem PySem.Spec PyProof.Rows L2 G
/-- plain data, shared: nobody changes it any more -/
inductive D where
  | non | bl (b : Bool) | int (i : Int) | str (z : Str) | ty (n : String)
  /-- the object at a; where one's own tree of it was found: entry i, way p -/
  | at (a : Addr) (i : Nat) (p : List Nat)
  | lst (xs : List D) | tup (xs : List D)
  /-- a list of ints that nobody can change: the law's script -/
  | scr (xs : List Int)
  | dK (ks : List Key) (xs : List D) | dT (ks : List (List Key)) (xs : List D)
  | obj (C : Addr) (fs : List Str) (xs : List D)
  /-- an exception, its dict at d -/
  | exc (C d : Addr) (fs : List Str) (xs : List D)
  /-- an exception as a value -/
  | xv (C : Addr) (fs : List Str) (xs : List D)
/-- a tree with objects of one's own: they know their address -/
inductive T where
  | no
  | sh (d : D)
  | lst (a : Addr) (xs : List T) | tup (xs : List T)
  | dK (a : Addr) (ks : List Key) (xs : List T) | dT (a : Addr) (ks : List (List Key)) (xs : List T)
  | obj (a : Addr) (C : Addr) (fs : List Str) (xs : List T)
mutual
def T.owns : T → List Addr
  | .no => []
  | .sh _ => []
  | .lst a xs => a :: ownsL xs
  | .tup xs => ownsL xs
  | .dK a _ xs => a :: ownsL xs
  | .dT a _ xs => a :: ownsL xs
  | .obj a _ _ xs => a :: ownsL xs
def ownsL : List T → List Addr
  | [] => []
  | x :: xs => x.owns ++ ownsL xs
end
mutual
/-- given away: nobody owns it any more -/
def T.pub : T → Option D
  | .no => none
  | .sh d => some d
  | .lst _ xs => (pubL xs).map D.lst
  | .tup xs => (pubL xs).map D.tup
  | .dK _ ks xs => (pubL xs).map (D.dK ks)
  | .dT _ ks xs => (pubL xs).map (D.dT ks)
  | .obj _ C fs xs => (pubL xs).map (D.obj C fs)
def pubL : List T → Option (List D)
  | [] => some []
  | x :: xs => (x.pub).bind fun d => (pubL xs).map (d :: ·)
end
def T.addr : T → Option Addr
  | .lst a _ => some a
  | .dK a _ _ => some a
  | .dT a _ _ => some a
  | .obj a _ _ _ => some a
  | _ => none
/-- read, as a value: one's own object is told by its address -/
def T.rd (i : Nat) (p : List Nat) : T → Option T
  | .sh d => some (.sh d)
  | .lst a _ => some (.sh (.at a i p))
  | .dK a _ _ => some (.sh (.at a i p))
  | .dT a _ _ => some (.sh (.at a i p))
  | .obj a _ _ _ => some (.sh (.at a i p))
  | _ => none
/-- an exception object as a value, its dict at d -/
def xo (a C d : Addr) : HO := .ext fun h => ∃ (oe : Obj) (vs : Array Value), h.get? a = some oe ∧ Zc (.ref C) (some d) oe ∧ oe.data = .fields vs
inductive RD (H : Hp) (A : Addr → Prop) : V → D → Prop
  | non : RD H A .non .non
  | bl (b : Bool) : RD H A (.bl b) (.bl b)
  | int (i : Int) : RD H A (.int i) (.int i)
  | str (z : Str) : RD H A (.str z) (.str z)
  | ty (n : String) : RD H A (.ty n) (.ty n)
  | at (a : Addr) (i : Nat) (p : List Nat) : RD H A (.ref a) (.at a i p)
  | lst {a : Addr} {vs : List V} {xs : List D} : H a = some (.lst vs) → A a → vs.length = xs.length → (∀ (k : Nat) (v : V) (d : D), vs[k]? = some v → xs[k]? = some d → RD H A v d) → RD H A (.ref a) (.lst xs)
  | scr {a : Addr} {xs : List Int} : Rd H a (.lst (xs.map V.int)) → A a → RD H A (.ref a) (.scr xs)
  | tup {a : Addr} {vs : List V} {xs : List D} : H a = some (.tup vs) → A a → vs.length = xs.length → (∀ (k : Nat) (v : V) (d : D), vs[k]? = some v → xs[k]? = some d → RD H A v d) → RD H A (.ref a) (.tup xs)
  | dK {a : Addr} {kvs : List (Key × V)} {xs : List D} : Rd H a (.dK kvs) → A a → kvs.length = xs.length → (∀ (k : Nat) (p : Key × V) (d : D), kvs[k]? = some p → xs[k]? = some d → RD H A p.2 d) → RD H A (.ref a) (.dK (kvs.map Prod.fst) xs)
  | dT {a : Addr} {kvs : List (List Key × V)} {xs : List D} : Rd H a (.dT kvs) → A a → kvs.length = xs.length → (∀ (k : Nat) (p : List Key × V) (d : D), kvs[k]? = some p → xs[k]? = some d → RD H A p.2 d) → RD H A (.ref a) (.dT (kvs.map Prod.fst) xs)
  | obj {a C dx : Addr} {fvs : List (Str × V)} {xs : List D} : H a = some (.ins C dx fvs) → A a → fvs.length = xs.length → (∀ (k : Nat) (p : Str × V) (d : D), fvs[k]? = some p → xs[k]? = some d → RD H A p.2 d) → RD H A (.ref a) (.obj C (fvs.map Prod.fst) xs)
  | exc {a C dd : Addr} {fvs : List (Str × V)} {xs : List D} : H dd = some (.xd fvs) → A dd → fvs.length = xs.length → (∀ (k : Nat) (p : Str × V) (d : D), fvs[k]? = some p → xs[k]? = some d → RD H A p.2 d) → RD H A (.ref a) (.exc C dd (fvs.map Prod.fst) xs)
  | xv {a C dd : Addr} {fvs : List (Str × V)} {xs : List D} : H a = some (xo a C dd) → A a → H dd = some (.xd fvs) → A dd → fvs.length = xs.length → (∀ (k : Nat) (p : Str × V) (d : D), fvs[k]? = some p → xs[k]? = some d → RD H A p.2 d) → RD H A (.ref a) (.xv C (fvs.map Prod.fst) xs)
inductive R (H : Hp) (A : Addr → Prop) : Option V → T → Prop
  | no (x : Option V) : R H A x .no
  | sh {v : V} {d : D} : RD H A v d → R H A (some v) (.sh d)
  | lst {a : Addr} {vs : List V} {xs : List T} : H a = some (.lst vs) → vs.length = xs.length → (∀ (k : Nat) (v : V) (t : T), vs[k]? = some v → xs[k]? = some t → R H A (some v) t) → R H A (some (.ref a)) (.lst a xs)
  | tup {a : Addr} {vs : List V} {xs : List T} : H a = some (.tup vs) → A a → vs.length = xs.length → (∀ (k : Nat) (v : V) (t : T), vs[k]? = some v → xs[k]? = some t → R H A (some v) t) → R H A (some (.ref a)) (.tup xs)
  | dK {a : Addr} {kvs : List (Key × V)} {xs : List T} : H a = some (.dK kvs) → kvs.length = xs.length → (∀ (k : Nat) (p : Key × V) (t : T), kvs[k]? = some p → xs[k]? = some t → R H A (some p.2) t) → R H A (some (.ref a)) (.dK a (kvs.map Prod.fst) xs)
  | dT {a : Addr} {kvs : List (List Key × V)} {xs : List T} : H a = some (.dT kvs) → kvs.length = xs.length → (∀ (k : Nat) (p : List Key × V) (t : T), kvs[k]? = some p → xs[k]? = some t → R H A (some p.2) t) → R H A (some (.ref a)) (.dT a (kvs.map Prod.fst) xs)
  | obj {a C dx : Addr} {fvs : List (Str × V)} {xs : List T} : H a = some (.ins C dx fvs) → fvs.length = xs.length → (∀ (k : Nat) (p : Str × V) (t : T), fvs[k]? = some p → xs[k]? = some t → R H A (some p.2) t) → R H A (some (.ref a)) (.obj a C (fvs.map Prod.fst) xs)
/-- what stands at a stands on -/
structure Kp (H H' : Hp) (a : Addr) : Prop where
  dK : ∀ u, Rd H a (.dK u) → Rd H' a (.dK u)
  dT : ∀ u, Rd H a (.dT u) → Rd H' a (.dT u)
  ins : ∀ C dx fs, H a = some (.ins C dx fs) → H' a = some (.ins C dx fs)
  xd : ∀ fs, H a = some (.xd fs) → H' a = some (.xd fs)
  lst : ∀ vs, H a = some (.lst vs) → H' a = some (.lst vs)
  tup : ∀ vs, H a = some (.tup vs) → H' a = some (.tup vs)
  lr : ∀ u, Rd H a (.lst u) → Rd H' a (.lst u)
  ex : ∀ φ, H a = some (.ext φ) → H' a = some (.ext φ)
theorem Kp.of {H H' : Hp} {a : Addr} {o : HO} (h : H a = some o) (h' : H' a = some o) : Kp H H' a := by
  have e : ∀ u, H a = some u → H' a = some u := fun u hu => by rw [h] at hu; rw [← hu]; exact h'
  exact ⟨fun u r => r.elim (fun z => .inl (e _ z)) fun ⟨o, z⟩ => .inr ⟨o, e _ z⟩, fun u r => r.elim (fun z => .inl (e _ z)) fun ⟨o, z⟩ => .inr ⟨o, e _ z⟩, fun _ _ _ z => e _ z, fun _ z => e _ z, fun _ z => e _ z, fun _ z => e _ z, fun u r => r.elim (fun z => .inl (e _ z)) fun ⟨o, z⟩ => .inr ⟨o, e _ z⟩, fun _ z => e _ z⟩
theorem Rd.some {H : Hp} {a : Addr} {u : HO} (r : Rd H a u) : ∃ o, H a = some o := r.elim (fun z => ⟨_, z⟩) fun ⟨o, z⟩ => ⟨_, z⟩
section
variable {H H' : Hp} {A A' : Addr → Prop}
theorem RD.mono (h1 : ∀ a o, A a → H a = some o → Kp H H' a ∧ A' a) {v : V} {d : D} (r : RD H A v d) : RD H' A' v d := by
  induction r with
  | non => exact .non
  | bl b => exact .bl b
  | int i => exact .int i
  | str z => exact .str z
  | ty n => exact .ty n
  | «at» a i p => exact .at a i p
  | lst e a l _ ih => obtain ⟨k, a'⟩ := h1 _ _ a e; exact .lst (k.lst _ e) a' l ih
  | scr r a => obtain ⟨o, e⟩ := Rd.some r; obtain ⟨k, a'⟩ := h1 _ o a e; exact .scr (k.lr _ r) a'
  | tup e a l _ ih => obtain ⟨k, a'⟩ := h1 _ _ a e; exact .tup (k.tup _ e) a' l ih
  | dK r a l _ ih => obtain ⟨o, e⟩ := Rd.some r; obtain ⟨k, a'⟩ := h1 _ o a e; exact .dK (k.dK _ r) a' l ih
  | dT r a l _ ih => obtain ⟨o, e⟩ := Rd.some r; obtain ⟨k, a'⟩ := h1 _ o a e; exact .dT (k.dT _ r) a' l ih
  | obj e a l _ ih => obtain ⟨k, a'⟩ := h1 _ _ a e; exact .obj (k.ins _ _ _ e) a' l ih
  | exc e a l _ ih => obtain ⟨k, a'⟩ := h1 _ _ a e; exact .exc (k.xd _ e) a' l ih
  | xv e0 a0 e a l _ ih => obtain ⟨k0, a0'⟩ := h1 _ _ a0 e0; obtain ⟨k, a'⟩ := h1 _ _ a e; exact .xv (k0.ex _ e0) a0' (k.xd _ e) a' l ih
theorem mem_ownsL {a : Addr} : ∀ {ts : List T} {k : Nat} {t : T}, ts[k]? = some t → a ∈ t.owns → a ∈ ownsL ts
  | [], _, _, h, _ => by simp at h
  | t :: ts, 0, u, h, m => by
    simp at h
    subst h
    unfold ownsL
    exact List.mem_append_left _ m
  | t :: ts, k + 1, u, h, m => by
    unfold ownsL
    exact List.mem_append_right _ (mem_ownsL (k := k) (by simpa using h) m)
theorem R.mono (h1 : ∀ a o, A a → H a = some o → Kp H H' a ∧ A' a) {x : Option V} {t : T} (r : R H A x t) : (∀ a o, a ∈ t.owns → H a = some o → H' a = some o) → R H' A' x t := by
  induction r with
  | no x => exact fun _ => .no x
  | sh r => exact fun _ => .sh (r.mono h1)
  | lst e l _ ih => exact fun h2 => .lst (h2 _ _ (by unfold T.owns; exact List.mem_cons_self) e) l fun k v t e1 e2 => ih k v t e1 e2 fun a o m => h2 a o (by unfold T.owns; exact List.mem_cons_of_mem _ (mem_ownsL e2 m))
  | tup e a l _ ih => intro h2; obtain ⟨k, a'⟩ := h1 _ _ a e; exact .tup (k.tup _ e) a' l fun k v t e1 e2 => ih k v t e1 e2 fun a o m => h2 a o (by unfold T.owns; exact mem_ownsL e2 m)
  | dK e l _ ih => exact fun h2 => .dK (h2 _ _ (by unfold T.owns; exact List.mem_cons_self) e) l fun k v t e1 e2 => ih k v t e1 e2 fun a o m => h2 a o (by unfold T.owns; exact List.mem_cons_of_mem _ (mem_ownsL e2 m))
  | dT e l _ ih => exact fun h2 => .dT (h2 _ _ (by unfold T.owns; exact List.mem_cons_self) e) l fun k v t e1 e2 => ih k v t e1 e2 fun a o m => h2 a o (by unfold T.owns; exact List.mem_cons_of_mem _ (mem_ownsL e2 m))
  | obj e l _ ih => exact fun h2 => .obj (h2 _ _ (by unfold T.owns; exact List.mem_cons_self) e) l fun k v t e1 e2 => ih k v t e1 e2 fun a o m => h2 a o (by unfold T.owns; exact List.mem_cons_of_mem _ (mem_ownsL e2 m))
theorem of_ownsL {a : Addr} : ∀ {ts : List T}, a ∈ ownsL ts → ∃ (k : Nat) (t : T), ts[k]? = some t ∧ a ∈ t.owns
  | [], h => by unfold ownsL at h; simp at h
  | t :: ts, h => by
    unfold ownsL at h
    rcases List.mem_append.mp h with h | h
    · exact ⟨0, t, rfl, h⟩
    · obtain ⟨k, u, e, m⟩ := of_ownsL h
      exact ⟨k + 1, u, by simpa using e, m⟩
theorem get_of_len {α β : Type} {l : List α} {m : List β} (h : l.length = m.length) {k : Nat} {y : β} (e : m[k]? = some y) : ∃ x, l[k]? = some x := by
  have := (List.getElem?_eq_some_iff.mp e).1
  exact ⟨l[k]'(by omega), List.getElem?_eq_getElem _⟩
/-- one's own objects stand -/
theorem R.there {x : Option V} {t : T} (r : R H A x t) : ∀ a ∈ t.owns, ∃ o, H a = some o := by
  induction r with
  | no x => intro a m; simp [T.owns] at m
  | sh r => intro a m; simp [T.owns] at m
  | lst e l _ ih =>
    intro a m
    unfold T.owns at m
    rcases List.mem_cons.mp m with m | m
    · rw [m]; exact ⟨_, e⟩
    · obtain ⟨k, t, e2, m⟩ := of_ownsL m
      obtain ⟨v, e1⟩ := get_of_len l e2
      exact ih k v t e1 e2 a m
  | tup e _ l _ ih =>
    intro a m
    unfold T.owns at m
    obtain ⟨k, t, e2, m⟩ := of_ownsL m
    obtain ⟨v, e1⟩ := get_of_len l e2
    exact ih k v t e1 e2 a m
  | dK e l _ ih =>
    intro a m
    unfold T.owns at m
    rcases List.mem_cons.mp m with m | m
    · rw [m]; exact ⟨_, e⟩
    · obtain ⟨k, t, e2, m⟩ := of_ownsL m
      obtain ⟨v, e1⟩ := get_of_len l e2
      exact ih k v t e1 e2 a m
  | dT e l _ ih =>
    intro a m
    unfold T.owns at m
    rcases List.mem_cons.mp m with m | m
    · rw [m]; exact ⟨_, e⟩
    · obtain ⟨k, t, e2, m⟩ := of_ownsL m
      obtain ⟨v, e1⟩ := get_of_len l e2
      exact ih k v t e1 e2 a m
  | obj e l _ ih =>
    intro a m
    unfold T.owns at m
    rcases List.mem_cons.mp m with m | m
    · rw [m]; exact ⟨_, e⟩
    · obtain ⟨k, t, e2, m⟩ := of_ownsL m
      obtain ⟨v, e1⟩ := get_of_len l e2
      exact ih k v t e1 e2 a m
/-- one's own object is no tuple -/
theorem R.nt {x : Option V} {t : T} (r : R H A x t) : ∀ a ∈ t.owns, ∀ ws, H a ≠ some (.tup ws) := by
  induction r with
  | no x => intro a m; simp [T.owns] at m
  | sh r => intro a m; simp [T.owns] at m
  | lst e l _ ih =>
    intro a m
    unfold T.owns at m
    rcases List.mem_cons.mp m with m | m
    · intro ws z; rw [m, e] at z; cases z
    · obtain ⟨k, t, e2, m⟩ := of_ownsL m
      obtain ⟨v, e1⟩ := get_of_len l e2
      exact ih k v t e1 e2 a m
  | tup e _ l _ ih =>
    intro a m
    unfold T.owns at m
    obtain ⟨k, t, e2, m⟩ := of_ownsL m
    obtain ⟨v, e1⟩ := get_of_len l e2
    exact ih k v t e1 e2 a m
  | dK e l _ ih =>
    intro a m
    unfold T.owns at m
    rcases List.mem_cons.mp m with m | m
    · intro ws z; rw [m, e] at z; cases z
    · obtain ⟨k, t, e2, m⟩ := of_ownsL m
      obtain ⟨v, e1⟩ := get_of_len l e2
      exact ih k v t e1 e2 a m
  | dT e l _ ih =>
    intro a m
    unfold T.owns at m
    rcases List.mem_cons.mp m with m | m
    · intro ws z; rw [m, e] at z; cases z
    · obtain ⟨k, t, e2, m⟩ := of_ownsL m
      obtain ⟨v, e1⟩ := get_of_len l e2
      exact ih k v t e1 e2 a m
  | obj e l _ ih =>
    intro a m
    unfold T.owns at m
    rcases List.mem_cons.mp m with m | m
    · intro ws z; rw [m, e] at z; cases z
    · obtain ⟨k, t, e2, m⟩ := of_ownsL m
      obtain ⟨v, e1⟩ := get_of_len l e2
      exact ih k v t e1 e2 a m
theorem pubL_get : ∀ {ts : List T} {ds : List D}, pubL ts = some ds → ts.length = ds.length ∧ ∀ (k : Nat) (t : T) (d : D), ts[k]? = some t → ds[k]? = some d → t.pub = some d
  | [], ds, h => by
    unfold pubL at h
    cases h
    exact ⟨rfl, fun k t d e => by simp at e⟩
  | t :: ts, ds, h => by
    unfold pubL at h
    cases e1 : t.pub with
    | none => rw [e1] at h; cases h
    | some d =>
    rw [e1] at h
    cases e2 : pubL ts with
    | none => rw [e2] at h; cases h
    | some ds' =>
    rw [e2] at h
    cases h
    obtain ⟨l, g⟩ := pubL_get e2
    refine ⟨by simp [l], fun k u w h1 h2 => ?_⟩
    cases k with
    | zero => simp at h1 h2; subst h1 h2; exact e1
    | succ k => exact g k u w (by simpa using h1) (by simpa using h2)
theorem R.pub (h1 : ∀ a, A a → A' a) {x : Option V} {t : T} (r : R H A x t) : ∀ {d : D}, t.pub = some d → (∀ a ∈ t.owns, A' a) → ∃ v, x = some v ∧ RD H A' v d := by
  induction r with
  | no x => intro d e _; unfold T.pub at e; cases e
  | sh r => intro d e _; unfold T.pub at e; cases e; exact ⟨_, rfl, r.mono fun a o z e => ⟨.of e e, h1 a z⟩⟩
  | lst e l _ ih =>
    intro d hp ho
    unfold T.pub at hp
    cases q : pubL _ with
    | none => rw [q] at hp; cases hp
    | some ds =>
    rw [q] at hp
    cases hp
    obtain ⟨l2, g⟩ := pubL_get q
    refine ⟨_, rfl, .lst e (ho _ (by unfold T.owns; exact List.mem_cons_self)) (l.trans l2) fun k v d e1 e2 => ?_⟩
    obtain ⟨t, e3⟩ := get_of_len l2 e2
    obtain ⟨v', ev, rr⟩ := ih k v t e1 e3 (g k t d e3 e2) fun a m => ho a (by unfold T.owns; exact List.mem_cons_of_mem _ (mem_ownsL e3 m))
    cases ev
    exact rr
  | tup e a l _ ih =>
    intro d hp ho
    unfold T.pub at hp
    cases q : pubL _ with
    | none => rw [q] at hp; cases hp
    | some ds =>
    rw [q] at hp
    cases hp
    obtain ⟨l2, g⟩ := pubL_get q
    refine ⟨_, rfl, .tup e (h1 _ a) (l.trans l2) fun k v d e1 e2 => ?_⟩
    obtain ⟨t, e3⟩ := get_of_len l2 e2
    obtain ⟨v', ev, rr⟩ := ih k v t e1 e3 (g k t d e3 e2) fun a m => ho a (by unfold T.owns; exact mem_ownsL e3 m)
    cases ev
    exact rr
  | dK e l _ ih =>
    intro d hp ho
    unfold T.pub at hp
    cases q : pubL _ with
    | none => rw [q] at hp; cases hp
    | some ds =>
    rw [q] at hp
    cases hp
    obtain ⟨l2, g⟩ := pubL_get q
    refine ⟨_, rfl, .dK (.inl e) (ho _ (by unfold T.owns; exact List.mem_cons_self)) (l.trans l2) fun k v d e1 e2 => ?_⟩
    obtain ⟨t, e3⟩ := get_of_len l2 e2
    obtain ⟨v', ev, rr⟩ := ih k v t e1 e3 (g k t d e3 e2) fun a m => ho a (by unfold T.owns; exact List.mem_cons_of_mem _ (mem_ownsL e3 m))
    cases ev
    exact rr
  | dT e l _ ih =>
    intro d hp ho
    unfold T.pub at hp
    cases q : pubL _ with
    | none => rw [q] at hp; cases hp
    | some ds =>
    rw [q] at hp
    cases hp
    obtain ⟨l2, g⟩ := pubL_get q
    refine ⟨_, rfl, .dT (.inl e) (ho _ (by unfold T.owns; exact List.mem_cons_self)) (l.trans l2) fun k v d e1 e2 => ?_⟩
    obtain ⟨t, e3⟩ := get_of_len l2 e2
    obtain ⟨v', ev, rr⟩ := ih k v t e1 e3 (g k t d e3 e2) fun a m => ho a (by unfold T.owns; exact List.mem_cons_of_mem _ (mem_ownsL e3 m))
    cases ev
    exact rr
  | obj e l _ ih =>
    intro d hp ho
    unfold T.pub at hp
    cases q : pubL _ with
    | none => rw [q] at hp; cases hp
    | some ds =>
    rw [q] at hp
    cases hp
    obtain ⟨l2, g⟩ := pubL_get q
    refine ⟨_, rfl, .obj e (ho _ (by unfold T.owns; exact List.mem_cons_self)) (l.trans l2) fun k v d e1 e2 => ?_⟩
    obtain ⟨t, e3⟩ := get_of_len l2 e2
    obtain ⟨v', ev, rr⟩ := ih k v t e1 e3 (g k t d e3 e2) fun a m => ho a (by unfold T.owns; exact List.mem_cons_of_mem _ (mem_ownsL e3 m))
    cases ev
    exact rr
end
theorem ownsL_append : ∀ xs ys : List T, ownsL (xs ++ ys) = ownsL xs ++ ownsL ys
  | [], ys => by rw [List.nil_append, ownsL, List.nil_append]
  | x :: xs, ys => by rw [List.cons_append, ownsL, ownsL_append xs ys, ownsL, List.append_assoc]
theorem ownsL_one (t : T) : ownsL [t] = t.owns := by rw [ownsL, ownsL, List.append_nil]
theorem ownsL_nil : ownsL [] = [] := by rw [ownsL]
theorem ownsL_cons (t : T) (ts : List T) : ownsL (t :: ts) = t.owns ++ ownsL ts := by rw [ownsL]
theorem ownsL_sh : ∀ ds : List D, ownsL (ds.map T.sh) = []
  | [] => by rw [List.map_nil, ownsL]
  | d :: ds => by rw [List.map_cons, ownsL, ownsL_sh ds, T.owns]; rfl
abbrev cn (a : Addr) (l : List Addr) : Nat := l.count a
theorem cn_set (a : Addr) : ∀ {ts : List T} {i : Nat} {t u : T}, ts[i]? = some t → cn a (ownsL (ts.set i u)) + cn a t.owns = cn a (ownsL ts) + cn a u.owns
  | [], _, _, _, h => by simp at h
  | x :: xs, 0, t, u, h => by
    simp at h
    subst h
    rw [List.set_cons_zero, ownsL, ownsL]
    unfold cn
    rw [List.count_append, List.count_append]
    omega
  | x :: xs, i + 1, t, u, h => by
    rw [List.set_cons_succ, ownsL, ownsL]
    have := cn_set a (ts := xs) (i := i) (t := t) (u := u) (by simpa using h)
    unfold cn at this ⊢
    rw [List.count_append, List.count_append]
    omega
theorem cn_mem {a : Addr} {l : List Addr} : a ∈ l ↔ 0 < cn a l := List.count_pos_iff.symm
theorem cn_no {a : Addr} {l : List Addr} : a ∉ l ↔ cn a l = 0 := by rw [cn_mem]; omega
theorem cn_app (a : Addr) (l m : List Addr) : cn a (l ++ m) = cn a l + cn a m := List.count_append
theorem nofrz {H : Hp} {q : Addr} {o' : HO} (h : ∀ o kvs, o' ≠ .frz o (.dK kvs)) : ∀ a o kvs, L2.upd H q o' a = some (.frz o (.dK kvs)) → H a = some (.frz o (.dK kvs)) := fun a o kvs e => by
  by_cases z : a = q
  · subst z; rw [upd_same] at e; exact absurd (Option.some.inj e) (h o kvs)
  · rw [upd_ne z] at e; exact e
structure Cg where
  H0 : Hp
  A0 : Addr → Prop
  S : Addr → Prop
/-- no dict is locked -/
def Calm (H : Hp) : Prop := ∀ a o kvs, H a ≠ some (.frz o (.dK kvs))
def Av (Γ : Cg) (F : List Addr) (a : Addr) : Prop := ((Γ.A0 a ∨ ∃ vs, Γ.H0 a = some (.tup vs)) ∨ Γ.H0 a = none ∨ Γ.S a) ∧ a ∉ F
structure Ok (Γ : Cg) (H : Hp) (xs : List (Option V)) (ts : List T) : Prop where
  len : xs.length = ts.length
  rep : ∀ (k : Nat) (x : Option V) (t : T), xs[k]? = some x → ts[k]? = some t → R H (Av Γ (ownsL ts)) x t
  nd : ∀ a, cn a (ownsL ts) ≤ 1
  new : ∀ a, a ∈ ownsL ts → Γ.S a ∨ Γ.H0 a = none
  fr : Fr Γ.S Γ.H0 H
  nf : ∀ a o kvs, H a = some (.frz o (.dK kvs)) → Γ.H0 a = some (.frz o (.dK kvs))
section
variable {Γ : Cg} {H H' : Hp} {xs xs' : List (Option V)} {ts ts' : List T}
theorem Ok.there (ok : Ok Γ H xs ts) : ∀ a ∈ ownsL ts, ∃ o, H a = some o := fun a m => by
  obtain ⟨k, t, e, m⟩ := of_ownsL m
  obtain ⟨x, e1⟩ := get_of_len ok.len e
  exact (ok.rep k x t e1 e).there a m
theorem Ok.nt (ok : Ok Γ H xs ts) : ∀ a ∈ ownsL ts, ∀ ws, H a ≠ some (.tup ws) := fun a m => by
  obtain ⟨k, t, e, m⟩ := of_ownsL m
  obtain ⟨x, e1⟩ := get_of_len ok.len e
  exact (ok.rep k x t e1 e).nt a m
/-- every tuple may be shared -/
theorem Ok.avT (ok : Ok Γ H xs ts) {a : Addr} {ws : List V} (h : H a = some (.tup ws)) : Av Γ (ownsL ts) a := by
  refine ⟨?_, fun m => ok.nt a m ws h⟩
  cases c : Γ.H0 a with
  | none => exact .inr (.inl rfl)
  | some o =>
    by_cases s : Γ.S a
    · exact .inr (.inr s)
    · have := ok.fr.keep a o c s
      rw [this] at h
      cases h
      exact .inl (.inr ⟨ws, rfl⟩)
theorem Ok.calm (ok : Ok Γ H xs ts) (c : Calm Γ.H0) : Calm H := fun a o kvs e => c a o kvs (ok.nf a o kvs e)
/-- what is shared stands on, where one's own objects alone are changed -/
theorem Ok.av (ok : Ok Γ H xs ts) {M : Addr → Prop} (hM : ∀ a, M a → a ∈ ownsL ts) (hH : ∀ a o, H a = some o → ¬ M a → H' a = some o) (new : ∀ a ∈ ownsL ts', a ∈ ownsL ts ∨ H a = none) :
    ∀ a o, Av Γ (ownsL ts) a → H a = some o → Kp H H' a ∧ Av Γ (ownsL ts') a := fun a o ⟨h1, h2⟩ e =>
  ⟨.of e (hH a o e fun m => h2 (hM a m)), h1, fun m => (new a m).elim h2 fun z => by rw [e] at z; cases z⟩
theorem Ok.tr (ok : Ok Γ H xs ts) {M : Addr → Prop} (hM : ∀ a, M a → a ∈ ownsL ts) (hH : ∀ a o, H a = some o → ¬ M a → H' a = some o) (new : ∀ a ∈ ownsL ts', a ∈ ownsL ts ∨ H a = none) {x : Option V} {t : T} (r : R H (Av Γ (ownsL ts)) x t) (hm : ∀ a ∈ t.owns, ¬ M a) : R H' (Av Γ (ownsL ts')) x t :=
  r.mono (ok.av hM hH new) fun a o m e => hH a o e (hm a m)
theorem Ok.next (M : Addr → Prop) (ok : Ok Γ H xs ts) (len : xs'.length = ts'.length) (hM : ∀ a, M a → a ∈ ownsL ts) (hH : ∀ a o, H a = some o → ¬ M a → H' a = some o) (hf : ∀ a, H' a = none → H a = none) (hz : ∀ a o kvs, H' a = some (.frz o (.dK kvs)) → H a = some (.frz o (.dK kvs)))
    (new : ∀ a ∈ ownsL ts', a ∈ ownsL ts ∨ H a = none) (nd : ∀ a, cn a (ownsL ts') ≤ 1)
    (ent : ∀ (k : Nat) (x : Option V) (t : T), xs'[k]? = some x → ts'[k]? = some t → (∃ j : Nat, xs[j]? = some x ∧ ts[j]? = some t ∧ ∀ a ∈ t.owns, ¬ M a) ∨ R H' (Av Γ (ownsL ts')) x t) : Ok Γ H' xs' ts' where
  len := len
  rep := fun k x t e1 e2 => (ent k x t e1 e2).elim (fun ⟨j, j1, j2, hm⟩ => ok.tr hM hH new (ok.rep j x t j1 j2) hm) id
  nd := nd
  new := fun a m => (new a m).elim (ok.new a) fun z => .inr (ok.fr.free a z)
  fr := ⟨fun b o e n => hH b o (ok.fr.keep b o e n) fun m => (ok.new b (hM b m)).elim n fun z => (by rw [e] at z; cases z), fun b e => ok.fr.free b (hf b e)⟩
  nf := fun a o kvs e => ok.nf a o kvs (hz a o kvs e)
/-- the heap as it is, entries dropped or moved -/
theorem Ok.re (ok : Ok Γ H xs ts) (len : xs'.length = ts'.length) (hc : ∀ a, cn a (ownsL ts') ≤ cn a (ownsL ts))
    (ent : ∀ (k : Nat) (x : Option V) (t : T), xs'[k]? = some x → ts'[k]? = some t → (∃ j : Nat, xs[j]? = some x ∧ ts[j]? = some t) ∨ R H (Av Γ (ownsL ts')) x t) : Ok Γ H xs' ts' :=
  ok.next NoA len (fun _ z => z.elim) (fun _ _ e _ => e) (fun _ e => e) (fun _ _ _ e => e) (fun a m => .inl (by rw [cn_mem] at m ⊢; have := hc a; omega)) (fun a => Nat.le_trans (hc a) (ok.nd a))
    fun k x t e1 e2 => (ent k x t e1 e2).imp (fun ⟨j, h1, h2⟩ => ⟨j, h1, h2, fun _ _ z => z⟩) id
theorem ap_left {α : Type} {l m : List α} {k : Nat} {x : α} (h : l[k]? = some x) : (l ++ m)[k]? = some x := by
  rw [List.getElem?_append_left (List.getElem?_eq_some_iff.mp h).1]
  exact h
theorem ap_right {α : Type} {l m : List α} {k : Nat} {x : α} (h : m[k]? = some x) : (l ++ m)[l.length + k]? = some x := by
  rw [List.getElem?_append_right (by omega), Nat.add_sub_cancel_left]
  exact h
theorem ap_cases {α : Type} {l m : List α} {k : Nat} {x : α} (h : (l ++ m)[k]? = some x) : l[k]? = some x ∨ ∃ j, k = l.length + j ∧ m[j]? = some x := by
  by_cases hk : k < l.length
  · rw [List.getElem?_append_left hk] at h
    exact .inl h
  · rw [List.getElem?_append_right (by omega)] at h
    exact .inr ⟨k - l.length, by omega, h⟩
theorem Ok.drop {ys : List (Option V)} {us : List T} (ok : Ok Γ H (xs ++ ys) (ts ++ us)) (len : xs.length = ts.length) : Ok Γ H xs ts :=
  ok.re len (fun a => by rw [ownsL_append, cn_app]; omega) fun k x t e1 e2 => .inl ⟨k, ap_left e1, ap_left e2⟩
/-- one more, that owns nothing -/
theorem Ok.push {x : Option V} {t : T} (ok : Ok Γ H xs ts) (r : R H (Av Γ (ownsL ts)) x t) (o : t.owns = []) : Ok Γ H (xs ++ [x]) (ts ++ [t]) := by
  have eo : ownsL (ts ++ [t]) = ownsL ts := by rw [ownsL_append, ownsL_one, o, List.append_nil]
  refine ok.re (by simp [ok.len]) (fun a => by rw [eo]; exact Nat.le_refl _) fun k y u e1 e2 => ?_
  rcases ap_cases e1 with e1 | ⟨j, rfl, e1⟩
  · have hk := (List.getElem?_eq_some_iff.mp e1).1
    rw [List.getElem?_append_left (by rw [← ok.len]; exact hk)] at e2
    exact .inl ⟨k, e1, e2⟩
  · have j0 : j = 0 := by
      have := (List.getElem?_eq_some_iff.mp e1).1
      simpa using this
    subst j0
    simp at e1
    subst e1
    rw [ok.len, List.getElem?_append_right (by omega)] at e2
    simp at e2
    subst e2
    rw [eo]
    exact .inr r
theorem Ok.pushD {v : V} {d : D} (ok : Ok Γ H xs ts) (r : RD H (Av Γ (ownsL ts)) v d) : Ok Γ H (xs ++ [some v]) (ts ++ [.sh d]) := ok.push (.sh r) (by rw [T.owns])
/-- the last one goes into place i -/
theorem Ok.setLast {x : Option V} {t : T} {i : Nat} (ok : Ok Γ H (xs ++ [x]) (ts ++ [t])) (len : xs.length = ts.length) (hi : i < xs.length) : Ok Γ H (xs.set i x) (ts.set i t) := by
  obtain ⟨u, hu⟩ : ∃ u, ts[i]? = some u := ⟨ts[i]'(by omega), List.getElem?_eq_getElem _⟩
  refine ok.re (by simp [len]) (fun a => ?_) fun k y w e1 e2 => .inl ?_
  · have := cn_set a (u := t) hu
    rw [ownsL_append, ownsL_one, cn_app]
    omega
  · by_cases hk : i = k
    · subst hk
      rw [List.getElem?_set_self hi] at e1
      rw [List.getElem?_set_self (by omega)] at e2
      cases e1
      cases e2
      exact ⟨xs.length, by simp, by rw [len]; simp⟩
    · rw [List.getElem?_set_ne hk] at e1 e2
      exact ⟨k, ap_left e1, ap_left e2⟩
end
def T.kids : T → List T
  | .lst _ xs => xs
  | .tup xs => xs
  | .dK _ _ xs => xs
  | .dT _ _ xs => xs
  | .obj _ _ _ xs => xs
  | _ => []
def T.wk : T → List T → T
  | .lst a _, ys => .lst a ys
  | .tup _, ys => .tup ys
  | .dK a ks _, ys => .dK a ks ys
  | .dT a ks _, ys => .dT a ks ys
  | .obj a C fs _, ys => .obj a C fs ys
  | t, _ => t
def T.get : T → List Nat → Option T
  | t, [] => some t
  | t, k :: p => (t.kids[k]?).bind fun u => u.get p
def T.put : T → List Nat → T → T
  | _, [], u => u
  | t, k :: p, u => match t.kids[k]? with
    | some x => t.wk (t.kids.set k (x.put p u))
    | none => t
def gt (ρ : List T) (i : Nat) (p : List Nat) : Option T := (ρ[i]?).bind fun t => t.get p
def pt (ρ : List T) (i : Nat) (p : List Nat) (u : T) : List T := match ρ[i]? with
  | some t => ρ.set i (t.put p u)
  | none => ρ
theorem wk_cn (a : Addr) {t : T} {ys : List T} (h : t.kids ≠ []) : cn a (t.wk ys).owns + cn a (ownsL t.kids) = cn a t.owns + cn a (ownsL ys) := by
  cases t <;> first
    | exact absurd rfl h
    | (simp only [T.wk, T.kids, T.owns, cn, List.count_cons]; omega)
theorem kids_ne {t : T} {k : Nat} {x : T} (h : t.kids[k]? = some x) : t.kids ≠ [] := fun z => by rw [z] at h; simp at h
theorem put_cn (a : Addr) : ∀ {p : List Nat} {t u u' : T}, t.get p = some u → cn a (t.put p u').owns + cn a u.owns = cn a t.owns + cn a u'.owns
  | [], t, u, u', h => by
    unfold T.get at h
    cases h
    unfold T.put
    omega
  | k :: p, t, u, u', h => by
    unfold T.get at h
    cases e : t.kids[k]? with
    | none => rw [e] at h; cases h
    | some x =>
    rw [e] at h
    have ih := put_cn a (p := p) (t := x) (u := u) (u' := u') h
    have h1 := cn_set a (ts := t.kids) (i := k) (u := x.put p u') e
    have h2 := wk_cn a (t := t) (ys := t.kids.set k (x.put p u')) (kids_ne e)
    unfold T.put
    rw [e]
    show cn a (t.wk (t.kids.set k (x.put p u'))).owns + _ = _
    omega
theorem pt_cn (a : Addr) {ρ : List T} {i : Nat} {p : List Nat} {u u' : T} (h : gt ρ i p = some u) : cn a (ownsL (pt ρ i p u')) + cn a u.owns = cn a (ownsL ρ) + cn a u'.owns := by
  unfold gt at h
  unfold pt
  cases e : ρ[i]? with
  | none => rw [e] at h; cases h
  | some t =>
  rw [e] at h
  have h1 := put_cn a (u' := u') (show t.get p = some u from h)
  have h2 := cn_set a (u := t.put p u') e
  show cn a (ownsL (ρ.set i (t.put p u'))) + _ = _
  omega
theorem pt_len {ρ : List T} {i : Nat} {p : List Nat} {u : T} : (pt ρ i p u).length = ρ.length := by
  unfold pt
  split
  · rw [List.length_set]
  · rfl
section
variable {H H' : Hp} {A A' : Addr → Prop}
/-- at a place of the tree -/
theorem R.focus : ∀ {p : List Nat} {x : Option V} {t u : T}, R H A x t → t.get p = some u → ∃ y, R H A y u ∧ ∀ {H' : Hp} {A' : Addr → Prop} {u' : T}, (∀ a o, A a → H a = some o → Kp H H' a ∧ A' a) → (∀ a o, a ∈ (t.put p .no).owns → H a = some o → H' a = some o) → R H' A' y u' → R H' A' x (t.put p u')
  | [], x, t, u, r, h => by
    unfold T.get at h
    cases h
    exact ⟨x, r, fun _ _ r' => by unfold T.put; exact r'⟩
  | k :: p, x, t, u, r, h => by
    unfold T.get at h
    cases e : t.kids[k]? with
    | none => rw [e] at h; cases h
    | some c =>
    rw [e] at h
    have hc : c.get p = some u := h
    have ep : ∀ w, t.put (k :: p) w = t.wk (t.kids.set k (c.put p w)) := fun w => by
      rw [T.put, e]
    -- the other kids
    have oth : ∀ {H' : Hp} {A' : Addr → Prop} {w : T} {j : Nat} {v : Option V} {q : T}, (∀ a o, A a → H a = some o → Kp H H' a ∧ A' a) → (∀ a o, a ∈ (t.put (k :: p) .no).owns → H a = some o → H' a = some o) → j ≠ k → t.kids[j]? = some q → R H A v q → R H' A' v q := fun {H' A' w j v q} h1 h2 nj eq rq =>
      rq.mono h1 fun a o m => h2 a o (by
        rw [ep, cn_mem]
        have h3 := wk_cn a (t := t) (ys := t.kids.set k (c.put p .no)) (kids_ne e)
        have m2 : a ∈ ownsL (t.kids.set k (c.put p .no)) := mem_ownsL (k := j) (by rw [List.getElem?_set_ne (Ne.symm nj)]; exact eq) m
        rw [cn_mem] at m2
        have h4 : cn a (ownsL t.kids) ≤ cn a t.owns := by
          cases t <;> simp only [T.kids, T.owns, cn, List.count_cons, ownsL, List.count_nil] <;> omega
        omega)
    have hroot : ∀ {H' : Hp} {a : Addr} {o : HO}, (∀ a o, a ∈ (t.put (k :: p) .no).owns → H a = some o → H' a = some o) → t.addr = some a → H a = some o → H' a = some o := fun {H' a o} h2 ha => h2 a o (by
      rw [ep]
      cases t <;> first | (simp [T.addr] at ha; subst ha; simp [T.wk, T.owns]) | (simp [T.addr] at ha))
    have inn : ∀ {H' : Hp}, (∀ a o, a ∈ (t.put (k :: p) .no).owns → H a = some o → H' a = some o) → ∀ a o, a ∈ (c.put p .no).owns → H a = some o → H' a = some o := fun {H'} h2 a o m => h2 a o (by
      rw [ep, cn_mem]
      have h3 := wk_cn a (t := t) (ys := t.kids.set k (c.put p .no)) (kids_ne e)
      have hk := (List.getElem?_eq_some_iff.mp e).1
      have m2 : a ∈ ownsL (t.kids.set k (c.put p .no)) := mem_ownsL (k := k) (List.getElem?_set_self hk) m
      rw [cn_mem] at m2
      have h4 : cn a (ownsL t.kids) ≤ cn a t.owns := by
        cases t <;> simp only [T.kids, T.owns, cn, List.count_cons, ownsL, List.count_nil] <;> omega
      omega)
    have hk := (List.getElem?_eq_some_iff.mp e).1
    cases r with
    | no => simp [T.kids] at e
    | sh r => simp [T.kids] at e
    | lst e0 l kd =>
      obtain ⟨v, e1⟩ := get_of_len l e
      obtain ⟨y, ry, g⟩ := R.focus (kd k v c e1 e) hc
      refine ⟨y, ry, fun {H' A' u'} h1 h2 r' => ?_⟩
      rw [ep]
      refine .lst (hroot h2 rfl e0) (by rw [List.length_set]; exact l) fun j v' t' e3 e4 => ?_
      by_cases nj : j = k
      · subst nj
        rw [e1] at e3
        cases e3
        simp only [T.kids] at e4
        rw [List.getElem?_set_self (by simpa only [T.kids] using hk)] at e4
        cases e4
        exact g h1 (inn h2) r'
      · simp only [T.kids] at e4
        rw [List.getElem?_set_ne (Ne.symm nj)] at e4
        exact oth (w := u') h1 h2 nj e4 (kd j v' t' e3 e4)
    | tup e0 a0 l kd =>
      obtain ⟨v, e1⟩ := get_of_len l e
      obtain ⟨y, ry, g⟩ := R.focus (kd k v c e1 e) hc
      refine ⟨y, ry, fun {H' A' u'} h1 h2 r' => ?_⟩
      rw [ep]
      obtain ⟨kp, a'⟩ := h1 _ _ a0 e0
      refine .tup (kp.tup _ e0) a' (by rw [List.length_set]; exact l) fun j v' t' e3 e4 => ?_
      by_cases nj : j = k
      · subst nj
        rw [e1] at e3
        cases e3
        simp only [T.kids] at e4
        rw [List.getElem?_set_self (by simpa only [T.kids] using hk)] at e4
        cases e4
        exact g h1 (inn h2) r'
      · simp only [T.kids] at e4
        rw [List.getElem?_set_ne (Ne.symm nj)] at e4
        exact oth (w := u') h1 h2 nj e4 (kd j v' t' e3 e4)
    | dK e0 l kd =>
      obtain ⟨v, e1⟩ := get_of_len l e
      obtain ⟨y, ry, g⟩ := R.focus (kd k v c e1 e) hc
      refine ⟨y, ry, fun {H' A' u'} h1 h2 r' => ?_⟩
      rw [ep]
      refine .dK (hroot h2 rfl e0) (by rw [List.length_set]; exact l) fun j v' t' e3 e4 => ?_
      by_cases nj : j = k
      · subst nj
        rw [e1] at e3
        cases e3
        simp only [T.kids] at e4
        rw [List.getElem?_set_self (by simpa only [T.kids] using hk)] at e4
        cases e4
        exact g h1 (inn h2) r'
      · simp only [T.kids] at e4
        rw [List.getElem?_set_ne (Ne.symm nj)] at e4
        exact oth (w := u') h1 h2 nj e4 (kd j v' t' e3 e4)
    | dT e0 l kd =>
      obtain ⟨v, e1⟩ := get_of_len l e
      obtain ⟨y, ry, g⟩ := R.focus (kd k v c e1 e) hc
      refine ⟨y, ry, fun {H' A' u'} h1 h2 r' => ?_⟩
      rw [ep]
      refine .dT (hroot h2 rfl e0) (by rw [List.length_set]; exact l) fun j v' t' e3 e4 => ?_
      by_cases nj : j = k
      · subst nj
        rw [e1] at e3
        cases e3
        simp only [T.kids] at e4
        rw [List.getElem?_set_self (by simpa only [T.kids] using hk)] at e4
        cases e4
        exact g h1 (inn h2) r'
      · simp only [T.kids] at e4
        rw [List.getElem?_set_ne (Ne.symm nj)] at e4
        exact oth (w := u') h1 h2 nj e4 (kd j v' t' e3 e4)
    | obj e0 l kd =>
      obtain ⟨v, e1⟩ := get_of_len l e
      obtain ⟨y, ry, g⟩ := R.focus (kd k v c e1 e) hc
      refine ⟨y, ry, fun {H' A' u'} h1 h2 r' => ?_⟩
      rw [ep]
      refine .obj (hroot h2 rfl e0) (by rw [List.length_set]; exact l) fun j v' t' e3 e4 => ?_
      by_cases nj : j = k
      · subst nj
        rw [e1] at e3
        cases e3
        simp only [T.kids] at e4
        rw [List.getElem?_set_self (by simpa only [T.kids] using hk)] at e4
        cases e4
        exact g h1 (inn h2) r'
      · simp only [T.kids] at e4
        rw [List.getElem?_set_ne (Ne.symm nj)] at e4
        exact oth (w := u') h1 h2 nj e4 (kd j v' t' e3 e4)
end
/-- one's own object: what stands there, its parts -/
inductive Nd : T → Addr → HO → List V → Prop
  | lst {a : Addr} {xs : List T} {vs : List V} : Nd (.lst a xs) a (.lst vs) vs
  | dK {a : Addr} {xs : List T} {kvs : List (Key × V)} : Nd (.dK a (kvs.map Prod.fst) xs) a (.dK kvs) (kvs.map Prod.snd)
  | dT {a : Addr} {xs : List T} {kvs : List (List Key × V)} : Nd (.dT a (kvs.map Prod.fst) xs) a (.dT kvs) (kvs.map Prod.snd)
  | obj {a C dx : Addr} {xs : List T} {fvs : List (Str × V)} : Nd (.obj a C (fvs.map Prod.fst) xs) a (.ins C dx fvs) (fvs.map Prod.snd)
theorem get_map {α β : Type} {f : α → β} {l : List α} {k : Nat} {y : β} (h : (l.map f)[k]? = some y) : ∃ x, l[k]? = some x ∧ f x = y := by
  rw [List.getElem?_map] at h
  cases e : l[k]? with
  | none => rw [e] at h; cases h
  | some x => rw [e] at h; exact ⟨x, rfl, Option.some.inj h⟩
theorem map_get {α β : Type} {f : α → β} {l : List α} {k : Nat} {x : α} (h : l[k]? = some x) : (l.map f)[k]? = some (f x) := by rw [List.getElem?_map, h]; rfl
section
variable {H : Hp} {A : Addr → Prop}
theorem R.nd {x : Option V} {u : T} {a : Addr} (r : R H A x u) (ha : u.addr = some a) : x = some (.ref a) ∧ ∃ o vs, Nd u a o vs ∧ H a = some o ∧ vs.length = u.kids.length ∧ ∀ (k : Nat) (v : V) (t : T), vs[k]? = some v → u.kids[k]? = some t → R H A (some v) t := by
  cases r with
  | no => cases ha
  | sh => cases ha
  | tup => cases ha
  | lst e l kd => cases ha; exact ⟨rfl, _, _, .lst, e, l, kd⟩
  | dK e l kd => cases ha; exact ⟨rfl, _, _, .dK, e, by rw [List.length_map]; exact l, fun k v t h1 h2 => by obtain ⟨p, e1, rfl⟩ := get_map h1; exact kd k p t e1 h2⟩
  | dT e l kd => cases ha; exact ⟨rfl, _, _, .dT, e, by rw [List.length_map]; exact l, fun k v t h1 h2 => by obtain ⟨p, e1, rfl⟩ := get_map h1; exact kd k p t e1 h2⟩
  | obj e l kd => cases ha; exact ⟨rfl, _, _, .obj, e, by rw [List.length_map]; exact l, fun k v t h1 h2 => by obtain ⟨p, e1, rfl⟩ := get_map h1; exact kd k p t e1 h2⟩
theorem R.of_nd {u : T} {a : Addr} {o : HO} {vs : List V} (n : Nd u a o vs) (e : H a = some o) (l : vs.length = u.kids.length) (kd : ∀ (k : Nat) (v : V) (t : T), vs[k]? = some v → u.kids[k]? = some t → R H A (some v) t) : R H A (some (.ref a)) u := by
  cases n with
  | lst => exact .lst e l kd
  | dK => exact .dK e (by rw [List.length_map] at l; exact l) fun k p t h1 h2 => kd k p.2 t (map_get h1) h2
  | dT => exact .dT e (by rw [List.length_map] at l; exact l) fun k p t h1 h2 => kd k p.2 t (map_get h1) h2
  | obj => exact .obj e (by rw [List.length_map] at l; exact l) fun k p t h1 h2 => kd k p.2 t (map_get h1) h2
theorem Nd.owns {u : T} {a : Addr} {o : HO} {vs : List V} (n : Nd u a o vs) : u.owns = a :: ownsL u.kids := by
  cases n <;> rw [T.owns] <;> rfl
theorem Nd.addr {u : T} {a : Addr} {o : HO} {vs : List V} (n : Nd u a o vs) : u.addr = some a := by cases n <;> rfl
end
section
variable {Γ : Cg} {H H' : Hp} {xs ys : List (Option V)} {ts us : List T} {i : Nat} {p : List Nat} {u : T} {a : Addr}
theorem Ok.at (ok : Ok Γ H xs ts) (hg : gt ts i p = some u) : ∃ y, R H (Av Γ (ownsL ts)) y u := by
  unfold gt at hg
  cases e : ts[i]? with
  | none => rw [e] at hg; cases hg
  | some t =>
  rw [e] at hg
  obtain ⟨x, e1⟩ := get_of_len ok.len e
  obtain ⟨y, r, _⟩ := (ok.rep i x t e1 e).focus hg
  exact ⟨y, r⟩
theorem cn_cons (a b : Addr) (l : List Addr) : cn a (b :: l) = cn a l + if b = a then 1 else 0 := by
  unfold cn
  rw [List.count_cons]
  simp
/-- one's own object is changed: its new parts come from the old ones, from the last entries, or are shared -/
theorem Ok.upd (ok : Ok Γ H (xs ++ ys) (ts ++ us)) (len : xs.length = ts.length) (hg : gt ts i p = some u) (ha : u.addr = some a) :
    ∃ o vs, Nd u a o vs ∧ H a = some o ∧ vs.length = u.kids.length ∧ (∀ (k : Nat) (v : V) (t : T), vs[k]? = some v → u.kids[k]? = some t → R H (Av Γ (ownsL (ts ++ us))) (some v) t) ∧
      ∀ (o' : HO) (u' : T) (vs' : List V) (zs : List (Option V)) (ws : List T), Nd u' a o' vs' → vs'.length = u'.kids.length → zs.length = ws.length →
      (∀ b, cn b (ownsL u'.kids) + cn b (ownsL ws) ≤ cn b (ownsL u.kids) + cn b (ownsL us)) →
      (∀ (x : Option V) (t : T), ((∃ (k : Nat) (v : V), x = some v ∧ vs'[k]? = some v ∧ u'.kids[k]? = some t) ∨ ∃ k : Nat, zs[k]? = some x ∧ ws[k]? = some t) →
        (∃ (j : Nat) (v : V), x = some v ∧ vs[j]? = some v ∧ u.kids[j]? = some t) ∨ (∃ j : Nat, ys[j]? = some x ∧ us[j]? = some t) ∨ ∃ v d, x = some v ∧ t = .sh d ∧ RD H (Av Γ (ownsL (ts ++ us))) v d) →
      Ok Γ (L2.upd H a o') (xs ++ zs) (pt ts i p u' ++ ws) := by
  have hg0 := hg
  unfold gt at hg
  cases e : ts[i]? with
  | none => rw [e] at hg; cases hg
  | some t0 =>
  rw [e] at hg
  have hg : t0.get p = some u := hg
  obtain ⟨x0, e1⟩ := get_of_len len e
  obtain ⟨y, ry, g⟩ := (ok.rep i x0 t0 (ap_left e1) (ap_left e)).focus hg
  obtain ⟨ey, o, vs, nd, ha', lv, kd⟩ := ry.nd ha
  subst ey
  refine ⟨o, vs, nd, ha', lv, kd, fun o' u' vs' zs ws nd' lv' lz hc src => ?_⟩
  have own := nd.owns
  have own' := nd'.owns
  -- counts
  have cnt : ∀ b, cn b (ownsL (pt ts i p u' ++ ws)) ≤ cn b (ownsL (ts ++ us)) := fun b => by
    have h1 := pt_cn b (u' := u') hg0
    have h2 := hc b
    rw [own, own', cn_cons, cn_cons] at h1
    rw [ownsL_append, ownsL_append, cn_app, cn_app]
    omega
  have inA : a ∈ u.owns := by rw [own]; exact List.mem_cons_self
  have inT : a ∈ ownsL (ts ++ us) := by
    rw [cn_mem, ownsL_append, cn_app]
    have h1 := pt_cn a (u' := T.no) hg0
    rw [cn_mem] at inA
    have : cn a (T.owns .no) = 0 := by rw [T.owns]; rfl
    omega
  have nd1 : ∀ b, cn b (ownsL ts) + cn b (ownsL us) ≤ 1 := fun b => by
    have := ok.nd b
    rw [ownsL_append, cn_app] at this
    exact this
  have ca : cn a u.owns = 1 + cn a (ownsL u.kids) := by rw [own, cn_cons, if_pos rfl]; omega
  have cle : ∀ b, cn b u.owns ≤ cn b (ownsL ts) := fun b => by
    have h1 := pt_cn b (u' := T.no) hg0
    have : cn b (T.owns .no) = 0 := by rw [T.owns]; rfl
    omega
  have hM : ∀ b, b = a → b ∈ ownsL (ts ++ us) := fun b z => z ▸ inT
  have hH : ∀ b o₁, H b = some o₁ → ¬ b = a → L2.upd H a o' b = some o₁ := fun b o₁ h n => by rw [upd_ne n]; exact h
  have new : ∀ b ∈ ownsL (pt ts i p u' ++ ws), b ∈ ownsL (ts ++ us) ∨ H b = none := fun b m => .inl (by rw [cn_mem] at m ⊢; have := cnt b; omega)
  have tr : ∀ {x : Option V} {t : T}, R H (Av Γ (ownsL (ts ++ us))) x t → a ∉ t.owns → R (L2.upd H a o') (Av Γ (ownsL (pt ts i p u' ++ ws))) x t := fun r n => ok.tr hM hH new r fun b m z => n (z ▸ m)
  have nk : ∀ {j : Nat} {t : T}, u.kids[j]? = some t → a ∉ t.owns := fun {j t} h m => by
    have := mem_ownsL h m
    rw [cn_mem] at this
    have := nd1 a
    have := cle a
    omega
  have nu : ∀ {j : Nat} {t : T}, us[j]? = some t → a ∉ t.owns := fun {j t} h m => by
    have := mem_ownsL h m
    rw [cn_mem] at this
    have := nd1 a
    have := cle a
    omega
  have all : ∀ (x : Option V) (t : T), ((∃ (k : Nat) (v : V), x = some v ∧ vs'[k]? = some v ∧ u'.kids[k]? = some t) ∨ ∃ k : Nat, zs[k]? = some x ∧ ws[k]? = some t) → R (L2.upd H a o') (Av Γ (ownsL (pt ts i p u' ++ ws))) x t := fun x t h => by
    rcases src x t h with ⟨j, v, rfl, h1, h2⟩ | ⟨j, h1, h2⟩ | ⟨v, d, rfl, rfl, r⟩
    · exact tr (kd j v t h1 h2) (nk h2)
    · exact tr (ok.rep (xs.length + j) x t (ap_right h1) (by rw [len]; exact ap_right h2)) (nu h2)
    · exact tr (.sh r) (by rw [T.owns]; simp)
  have lpt : (pt ts i p u').length = ts.length := pt_len
  refine ok.next (fun b => b = a) (by rw [List.length_append, List.length_append, lpt, len, lz]) hM hH (fun b h => ?_) (nofrz (by intro o kvs z; subst z; cases nd')) new (fun b => Nat.le_trans (cnt b) (ok.nd b)) fun k x t h1 h2 => ?_
  · by_cases z : b = a
    · subst z; rw [upd_same] at h; cases h
    · rw [upd_ne z] at h; exact h
  · rcases ap_cases h1 with h1 | ⟨j, rfl, hj⟩
    · have hk := (List.getElem?_eq_some_iff.mp h1).1
      rw [List.getElem?_append_left (by rw [lpt, ← len]; exact hk)] at h2
      unfold pt at h2
      rw [e] at h2
      have h2 : (ts.set i (t0.put p u'))[k]? = some t := h2
      by_cases nk' : i = k
      · subst nk'
        rw [List.getElem?_set_self (by omega)] at h2
        cases h2
        rw [e1] at h1
        cases h1
        right
        refine g (fun b o₁ av hb => ?_) (fun b o₁ m hb => ?_) (.of_nd nd' upd_same lv' fun k v t q1 q2 => all _ _ (.inl ⟨k, v, rfl, q1, q2⟩))
        · exact ok.av hM hH new b o₁ av hb
        · refine hH b o₁ hb fun z => ?_
          subst z
          rw [cn_mem] at m
          have h3 := put_cn b (u' := T.no) hg
          have : cn b (T.owns .no) = 0 := by rw [T.owns]; rfl
          have h4 : cn b t0.owns ≤ cn b (ownsL ts) := by
            have := cn_set b (u := T.no) e
            have : cn b (T.owns .no) = 0 := by rw [T.owns]; rfl
            omega
          have := nd1 b
          omega
      · rw [List.getElem?_set_ne nk'] at h2
        refine .inl ⟨k, ap_left h1, ap_left h2, fun b m z => ?_⟩
        subst z
        -- another slot owns it too
        have m2 : 0 < cn b t.owns := cn_mem.mp m
        have h3 := cn_set b (u := T.no) h2
        have h4 : (ts.set k T.no)[i]? = some t0 := by rw [List.getElem?_set_ne (Ne.symm nk')]; exact e
        have h5 := cn_set b (u := T.no) h4
        have h6 : cn b (T.owns .no) = 0 := by rw [T.owns]; rfl
        have h7 := put_cn b (u' := T.no) hg
        have := nd1 b
        omega
    · rw [len, ← lpt, List.getElem?_append_right (by omega), Nat.add_sub_cancel_left] at h2
      exact .inr (all x t (.inr ⟨j, hj, h2⟩))
end
section
variable {Γ : Cg} {H H' : Hp} {xs ys : List (Option V)} {ts us : List T} {i : Nat} {p : List Nat} {u : T} {a : Addr}
/-- the heap has grown -/
theorem Ok.grow (ok : Ok Γ H xs ts) (hk : ∀ a o, H a = some o → H' a = some o) (hf : ∀ a, H' a = none → H a = none) (hz : ∀ a o kvs, H' a = some (.frz o (.dK kvs)) → H a = some (.frz o (.dK kvs))) : Ok Γ H' xs ts :=
  ok.next NoA ok.len (fun _ z => z.elim) (fun a o e _ => hk a o e) hf hz (fun a m => .inl m) ok.nd fun k x t e1 e2 => .inl ⟨k, e1, e2, fun _ _ z => z⟩
/-- a new object of one's own -/
theorem Ok.alloc {o : HO} {vs : List V} {q : Addr} (ok : Ok Γ H (xs ++ ys) (ts ++ us)) (len : xs.length = ts.length) (hq : H q = none) (hk : ∀ a o, H a = some o → H' a = some o) (hf : ∀ a, H' a = none → H a = none) (hz : ∀ a o kvs, H' a = some (.frz o (.dK kvs)) → H a = some (.frz o (.dK kvs))) (nd : Nd u q o vs) (e : H' q = some o) (lv : vs.length = u.kids.length)
    (hc : ∀ b, cn b (ownsL u.kids) ≤ cn b (ownsL us))
    (src : ∀ (k : Nat) (v : V) (t : T), vs[k]? = some v → u.kids[k]? = some t → (∃ j : Nat, ys[j]? = some (some v) ∧ us[j]? = some t) ∨ ∃ d, t = .sh d ∧ RD H (Av Γ (ownsL (ts ++ us))) v d) : Ok Γ H' (xs ++ [some (.ref q)]) (ts ++ [u]) := by
  have ow := nd.owns
  have nq : ∀ b, b ∈ ownsL (ts ++ us) → b ≠ q := fun b m z => by
    obtain ⟨o, e⟩ := ok.there b m
    rw [z, hq] at e
    cases e
  have hM : ∀ b, NoA b → b ∈ ownsL (ts ++ us) := fun _ z => z.elim
  have hH : ∀ a o, H a = some o → ¬ NoA a → H' a = some o := fun a o h _ => hk a o h
  have cnt : ∀ b, b ≠ q → cn b (ownsL (ts ++ [u])) ≤ cn b (ownsL (ts ++ us)) := fun b n => by
    have := hc b
    rw [ownsL_append, ownsL_append, ownsL_one, cn_app, cn_app, ow, cn_cons, if_neg (Ne.symm n)]
    omega
  have new : ∀ b ∈ ownsL (ts ++ [u]), b ∈ ownsL (ts ++ us) ∨ H b = none := fun b m => by
    by_cases z : b = q
    · exact .inr (z ▸ hq)
    · left
      rw [cn_mem] at m ⊢
      have := cnt b z
      omega
  have tr : ∀ {x : Option V} {t : T}, R H (Av Γ (ownsL (ts ++ us))) x t → R H' (Av Γ (ownsL (ts ++ [u]))) x t := fun r => ok.tr hM hH new r fun _ _ z => z
  refine ok.next NoA (by simp [len]) hM hH hf hz new (fun b => ?_) fun k x t h1 h2 => ?_
  · by_cases z : b = q
    · subst z
      have h1 : cn b (ownsL (ts ++ us)) = 0 := cn_no.mp fun m => nq b m rfl
      have := hc b
      rw [ownsL_append, cn_app] at h1
      rw [ownsL_append, ownsL_one, cn_app, ow, cn_cons, if_pos rfl]
      omega
    · exact Nat.le_trans (cnt b z) (ok.nd b)
  · rcases ap_cases h1 with h1 | ⟨j, rfl, hj⟩
    · have hk := (List.getElem?_eq_some_iff.mp h1).1
      rw [List.getElem?_append_left (by omega)] at h2
      exact .inl ⟨k, ap_left h1, ap_left h2, fun _ _ z => z⟩
    · have j0 : j = 0 := by
        have := (List.getElem?_eq_some_iff.mp hj).1
        simpa using this
      subst j0
      simp at hj
      subst hj
      rw [len, List.getElem?_append_right (by omega)] at h2
      simp at h2
      subst h2
      refine .inr (.of_nd nd e lv fun k v t q1 q2 => ?_)
      rcases src k v t q1 q2 with ⟨j, h1, h2⟩ | ⟨d, rfl, r⟩
      · exact tr (ok.rep (xs.length + j) _ _ (ap_right h1) (by rw [len]; exact ap_right h2))
      · exact tr (.sh r)
def allSh : List T → Option (List D)
  | [] => some []
  | .sh d :: ts => (allSh ts).map (d :: ·)
  | _ :: _ => none
def mkTup (ts : List T) : T := match allSh ts with
  | some ds => .sh (.tup ds)
  | none => .tup ts
theorem allSh_eq : ∀ {ts : List T} {ds : List D}, allSh ts = some ds → ts = ds.map T.sh
  | [], ds, h => by
    unfold allSh at h
    cases h
    rfl
  | t :: ts, ds, h => by
    cases t with
    | sh d =>
      unfold allSh at h
      cases e : allSh ts with
      | none => rw [e] at h; cases h
      | some ds' =>
      rw [e] at h
      cases h
      rw [List.map_cons, ← allSh_eq e]
    | _ => unfold allSh at h; cases h
theorem allSh_map : ∀ ds : List D, allSh (ds.map T.sh) = some ds
  | [] => rfl
  | d :: ds => by rw [List.map_cons, allSh, allSh_map ds]; rfl
theorem mkTup_owns (ts : List T) : (mkTup ts).owns = ownsL ts := by
  unfold mkTup
  split
  · rename_i ds h
    rw [allSh_eq h, ownsL_sh, T.owns]
  · rw [T.owns]
theorem mkTup_R {A : Addr → Prop} {vs : List V} (h : H a = some (.tup vs)) (ha : A a) (l : vs.length = ts.length) (kd : ∀ (k : Nat) (v : V) (t : T), vs[k]? = some v → ts[k]? = some t → R H A (some v) t) : R H A (some (.ref a)) (mkTup ts) := by
  unfold mkTup
  split
  · rename_i ds e
    have e := allSh_eq e
    subst e
    refine .sh (.tup h ha (by rw [l, List.length_map]) fun k v d h1 h2 => ?_)
    cases kd k v (.sh d) h1 (map_get h2) with
    | sh r => exact r
  · exact .tup h ha l kd
/-- a new tuple of the last entries -/
theorem Ok.tup {vs : List V} {q : Addr} (ok : Ok Γ H (xs ++ vs.map some) (ts ++ us)) (len : xs.length = ts.length) (hq : H q = none) : Ok Γ (L2.upd H q (.tup vs)) (xs ++ [some (.ref q)]) (ts ++ [mkTup us]) := by
  have nq : ∀ b, b ∈ ownsL (ts ++ us) → b ≠ q := fun b m z => by
    obtain ⟨o, e⟩ := ok.there b m
    rw [z, hq] at e
    cases e
  have hM : ∀ b, NoA b → b ∈ ownsL (ts ++ us) := fun _ z => z.elim
  have hH : ∀ a o, H a = some o → ¬ NoA a → L2.upd H q (.tup vs) a = some o := fun a o h _ => by rw [upd_ne (ne_of_none h hq)]; exact h
  have eo : ownsL (ts ++ [mkTup us]) = ownsL (ts ++ us) := by rw [ownsL_append, ownsL_append, ownsL_one, mkTup_owns]
  have lu : vs.length = us.length := by
    have := ok.len
    rw [List.length_append, List.length_append, List.length_map] at this
    omega
  refine ok.next NoA (by simp [len]) hM hH (fun b h => ?_) (nofrz (by intro o kvs z; cases z)) (fun b m => .inl (by rw [← eo]; exact m)) (fun b => by rw [eo]; exact ok.nd b) fun k x t h1 h2 => ?_
  · by_cases z : b = q
    · subst z; exact hq
    · rw [upd_ne z] at h; exact h
  · rcases ap_cases h1 with h1 | ⟨j, rfl, hj⟩
    · have hk := (List.getElem?_eq_some_iff.mp h1).1
      rw [List.getElem?_append_left (by omega)] at h2
      exact .inl ⟨k, ap_left h1, ap_left h2, fun _ _ z => z⟩
    · have j0 : j = 0 := by
        have := (List.getElem?_eq_some_iff.mp hj).1
        simpa using this
      subst j0
      simp at hj
      subst hj
      rw [len, List.getElem?_append_right (by omega)] at h2
      simp at h2
      subst h2
      refine .inr (mkTup_R upd_same ⟨.inr (.inl (ok.fr.free q hq)), fun m => ?_⟩ lu fun k v t q1 q2 => ?_)
      · rw [eo] at m
        exact nq q m rfl
      · rw [eo]
        exact ok.tr hM hH (fun b m => .inl m) (ok.rep (xs.length + k) _ _ (ap_right (map_get q1)) (by rw [len]; exact ap_right q2)) fun _ _ z => z
theorem av_le {F F' : List Addr} (h : ∀ b, cn b F' ≤ cn b F) {b : Addr} (z : Av Γ F b) : Av Γ F' b := ⟨z.1, fun m => z.2 (by rw [cn_mem] at m ⊢; have := h b; omega)⟩
/-- another tree for the same value -/
theorem Ok.swap {u' : T} {zs : List (Option V)} {ws : List T} (ok : Ok Γ H (xs ++ ys) (ts ++ us)) (len : xs.length = ts.length) (hg : gt ts i p = some u) (lz : zs.length = ws.length) (hc : ∀ b, cn b u'.owns + cn b (ownsL ws) ≤ cn b u.owns + cn b (ownsL us))
    (hu : ∀ y, R H (Av Γ (ownsL (ts ++ us))) y u → R H (Av Γ (ownsL (pt ts i p u' ++ ws))) y u')
    (hw : ∀ y, R H (Av Γ (ownsL (ts ++ us))) y u → ∀ (k : Nat) (x : Option V) (t : T), zs[k]? = some x → ws[k]? = some t → R H (Av Γ (ownsL (pt ts i p u' ++ ws))) x t) : Ok Γ H (xs ++ zs) (pt ts i p u' ++ ws) := by
  have hg0 := hg
  unfold gt at hg
  cases e : ts[i]? with
  | none => rw [e] at hg; cases hg
  | some t0 =>
  rw [e] at hg
  have hg : t0.get p = some u := hg
  obtain ⟨x0, e1⟩ := get_of_len len e
  obtain ⟨y, ry, g⟩ := (ok.rep i x0 t0 (ap_left e1) (ap_left e)).focus hg
  have cnt : ∀ b, cn b (ownsL (pt ts i p u' ++ ws)) ≤ cn b (ownsL (ts ++ us)) := fun b => by
    have h1 := pt_cn b (u' := u') hg0
    have h2 := hc b
    rw [ownsL_append, ownsL_append, cn_app, cn_app]
    omega
  have lpt : (pt ts i p u').length = ts.length := pt_len
  refine ok.re (by rw [List.length_append, List.length_append, lpt, len, lz]) cnt fun k x t h1 h2 => ?_
  rcases ap_cases h1 with h1 | ⟨j, rfl, hj⟩
  · have hk := (List.getElem?_eq_some_iff.mp h1).1
    rw [List.getElem?_append_left (by rw [lpt, ← len]; exact hk)] at h2
    unfold pt at h2
    rw [e] at h2
    have h2 : (ts.set i (t0.put p u'))[k]? = some t := h2
    by_cases nk' : i = k
    · subst nk'
      rw [List.getElem?_set_self (by omega)] at h2
      cases h2
      rw [e1] at h1
      cases h1
      exact .inr (g (fun b o av hb => ⟨.of hb hb, av_le cnt av⟩) (fun b o _ hb => hb) (hu y ry))
    · rw [List.getElem?_set_ne nk'] at h2
      exact .inl ⟨k, ap_left h1, ap_left h2⟩
  · rw [len, ← lpt, List.getElem?_append_right (by omega), Nat.add_sub_cancel_left] at h2
    exact .inr (hw y ry j x t hj h2)
theorem cn_noT (b : Addr) (d : D) : cn b (T.owns (.sh d)) = 0 := by rw [T.owns]; rfl
/-- one's own object is lent: its tree becomes an entry, an address stays -/
theorem Ok.lend {i' : Nat} {p' : List Nat} (ok : Ok Γ H xs ts) (hg : gt ts i p = some u) (ha : u.addr = some a) : Ok Γ H (xs ++ [some (.ref a)]) (pt ts i p (.sh (.at a i' p')) ++ [u]) := by
  have ok' : Ok Γ H (xs ++ []) (ts ++ []) := by rw [List.append_nil, List.append_nil]; exact ok
  have cnt : ∀ b, cn b (ownsL (pt ts i p (.sh (.at a i' p')) ++ [u])) ≤ cn b (ownsL (ts ++ [])) := fun b => by
    have h1 := pt_cn b (u' := .sh (.at a i' p')) hg
    rw [ownsL_append, ownsL_append, cn_app, cn_app, ownsL_one]
    rw [cn_noT] at h1
    omega
  refine ok'.swap (u := u) ok.len hg rfl (fun b => ?_) (fun y r => ?_) (fun y r k x t h1 h2 => ?_)
  · rw [cn_noT, ownsL_one, ownsL_nil]
    show 0 + cn b u.owns ≤ cn b u.owns + 0
    omega
  · rw [(r.nd ha).1]
    exact .sh (.at a i' p')
  · have k0 : k = 0 := by
      have := (List.getElem?_eq_some_iff.mp h1).1
      simpa using this
    subst k0
    simp at h1 h2
    subst h1 h2
    rw [(r.nd ha).1] at r
    exact r.mono (fun b o av hb => ⟨.of hb hb, av_le cnt av⟩) fun _ _ _ hb => hb
/-- an entry is given away -/
theorem Ok.pub {t : T} {d : D} (ok : Ok Γ H xs ts) (e : ts[i]? = some t) (hp : t.pub = some d) : Ok Γ H xs (ts.set i (.sh d)) := by
  have cnt : ∀ b, cn b (ownsL (ts.set i (.sh d))) + cn b t.owns = cn b (ownsL ts) := fun b => by
    have := cn_set b (u := .sh d) e
    rw [cn_noT] at this
    omega
  refine ok.re (by rw [List.length_set]; exact ok.len) (fun b => by have := cnt b; omega) fun k x t' h1 h2 => ?_
  by_cases hk : i = k
  · subst hk
    have hi := (List.getElem?_eq_some_iff.mp e).1
    rw [List.getElem?_set_self hi] at h2
    cases h2
    obtain ⟨v, rfl, r⟩ := (ok.rep i x t h1 e).pub (A' := Av Γ (ownsL (ts.set i (.sh d)))) (fun b z => av_le (fun c => by have := cnt c; omega) z) hp fun b m => by
      have m2 := mem_ownsL e m
      refine ⟨(ok.new b m2).elim (fun z => .inr (.inr z)) fun z => .inr (.inl z), fun m3 => ?_⟩
      rw [cn_mem] at m m3
      have := cnt b
      have := ok.nd b
      omega
    exact .inr (.sh r)
  · rw [List.getElem?_set_ne hk] at h2
    exact .inl ⟨k, h1, h2⟩
/-- behind a call: the callee's world is joined to the caller's -/
theorem Ok.call {as' : List T} {ys' : List (Option V)} (ok : Ok Γ H (xs ++ ys) (ts ++ us)) (len : xs.length = ts.length) (ok' : Ok ⟨H, Av Γ (ownsL (ts ++ us)), fun a => a ∈ ownsL us⟩ H' ys' as') : Ok Γ H' (xs ++ ys') (ts ++ as') := by
  have dis : ∀ b, b ∈ ownsL ts → b ∉ ownsL us := fun b m m2 => by
    rw [cn_mem] at m m2
    have := ok.nd b
    rw [ownsL_append, cn_app] at this
    omega
  have inl : ∀ b, b ∈ ownsL ts → b ∈ ownsL (ts ++ us) := fun b m => by rw [ownsL_append]; exact List.mem_append_left _ m
  have inr : ∀ b, b ∈ ownsL us → b ∈ ownsL (ts ++ us) := fun b m => by rw [ownsL_append]; exact List.mem_append_right _ m
  have dis' : ∀ b, b ∈ ownsL ts → b ∉ ownsL as' := fun b m m2 => (ok'.new b m2).elim (dis b m) fun z => by
    obtain ⟨o, e⟩ := ok.there b (inl b m)
    have z : H b = none := z
    rw [e] at z
    cases z
  refine ⟨by rw [List.length_append, List.length_append, len, ok'.len], fun k x t h1 h2 => ?_, fun b => ?_, fun b m => ?_, ⟨fun b o e n => ?_, fun b e => ok.fr.free b (ok'.fr.free b e)⟩, fun a o kvs e => ok.nf a o kvs (ok'.nf a o kvs e)⟩
  · rcases ap_cases h1 with h1 | ⟨j, rfl, hj⟩
    · have hk := (List.getElem?_eq_some_iff.mp h1).1
      rw [List.getElem?_append_left (by omega)] at h2
      refine (ok.rep k x t (ap_left h1) (ap_left h2)).mono (fun b o av e => ?_) fun b o m e => ok'.fr.keep b o e (dis b (mem_ownsL h2 m))
      refine ⟨.of e (ok'.fr.keep b o e fun m => av.2 (inr b m)), av.1, fun m => ?_⟩
      rw [ownsL_append] at m
      rcases List.mem_append.mp m with m | m
      · exact av.2 (inl b m)
      · rcases ok'.new b m with z | z
        · exact av.2 (inr b z)
        · have z : H b = none := z
          rw [e] at z
          cases z
    · rw [len, List.getElem?_append_right (by omega), Nat.add_sub_cancel_left] at h2
      refine (ok'.rep j x t hj h2).mono (fun b o av e => ⟨.of e e, ?_⟩) fun b o _ e => e
      obtain ⟨h1, h2⟩ := av
      rcases h1 with (h1 | ⟨ws, h1⟩) | h1 | h1
      · exact ⟨h1.1, fun m => by
          rw [ownsL_append] at m
          exact (List.mem_append.mp m).elim (fun m => h1.2 (inl b m)) h2⟩
      · have h1 : H b = some (.tup ws) := h1
        have av := ok.avT h1
        exact ⟨av.1, fun m => by
          rw [ownsL_append] at m
          exact (List.mem_append.mp m).elim (fun m => av.2 (inl b m)) h2⟩
      · have h1 : H b = none := h1
        exact ⟨.inr (.inl (ok.fr.free b h1)), fun m => by
          rw [ownsL_append] at m
          refine (List.mem_append.mp m).elim (fun m => ?_) h2
          obtain ⟨o, e⟩ := ok.there b (inl b m)
          rw [e] at h1
          cases h1⟩
      · exact ⟨(ok.new b (inr b h1)).elim (fun z => .inr (.inr z)) fun z => .inr (.inl z), fun m => by
          rw [ownsL_append] at m
          exact (List.mem_append.mp m).elim (fun m => dis b m h1) h2⟩
  · rw [ownsL_append, cn_app]
    have h1 := ok.nd b
    rw [ownsL_append, cn_app] at h1
    have h2 := ok'.nd b
    by_cases m : b ∈ ownsL ts
    · have := cn_no.mp (dis' b m)
      omega
    · have := cn_no.mp m
      omega
  · rw [ownsL_append] at m
    rcases List.mem_append.mp m with m | m
    · exact ok.new b (inl b m)
    · rcases ok'.new b m with z | z
      · exact ok.new b (inr b z)
      · exact .inr (ok.fr.free b z)
  · refine ok'.fr.keep b o (ok.fr.keep b o e n) fun m => ?_
    rcases ok.new b (inr b m) with z | z
    · exact n z
    · rw [e] at z; cases z
/-- what the callee finds -/
theorem Ok.enter (ok : Ok Γ H (xs ++ ys) (ts ++ us)) (len : xs.length = ts.length) : Ok ⟨H, Av Γ (ownsL (ts ++ us)), fun a => a ∈ ownsL us⟩ H ys us := by
  have hl : ys.length = us.length := by
    have := ok.len
    rw [List.length_append, List.length_append] at this
    omega
  refine ⟨hl, fun k x t h1 h2 => ?_, fun b => ?_, fun b m => .inl m, .refl H, fun _ _ _ e => e⟩
  · refine (ok.rep (xs.length + k) x t (ap_right h1) (by rw [len]; exact ap_right h2)).mono (fun b o av e => ⟨.of e e, .inl (.inl av), fun m => av.2 (by rw [ownsL_append]; exact List.mem_append_right _ m)⟩) fun _ _ _ e => e
  · have := ok.nd b
    rw [ownsL_append, cn_app] at this
    omega
end
end E
namespace E
open PySem PySem.Spec PyProof.Rows L2 G
abbrev Env := List T
abbrev XD := Addr → List Str → List D → Env → Prop
abbrev WE := XD → Env → (T → Env → Prop) → Prop
abbrev WA := XD → Env → (List T → Env → Prop) → Prop
abbrev WT := XD → Env → (Bool → Env → Prop) → Prop
structure En (Γ : Cg) (H : Hp) (σ : L2.St) (tv : List (Option V)) (ρ : Env) (tt : List T) : Prop where
  ok : Ok Γ H (σ ++ tv) (ρ ++ tt)
  len : σ.length = ρ.length
/-- what exceptions meet; whether no dict is locked -/
structure Wx where
  x : WX
  c : Bool
def XOk (W : Wx) (Γ : Cg) (tv : List (Option V)) (tt : List T) (σ : L2.St) (χ : XD) : Prop := (W.c = true → Calm Γ.H0) ∧ ∀ C d fl ds ρ' H', χ C fl ds ρ' → En Γ H' σ (tv ++ [some (.ref 0)]) ρ' (tt ++ [.sh (.exc C d fl ds)]) → W.x (.ref C) (some d) σ H'
def lift (W : Wx) (w : WE) : TE := fun σ H Q => ∃ (Γ : Cg) (tv : List (Option V)) (ρ : Env) (tt : List T) (χ : XD) (Q1 : T → Env → Prop), En Γ H σ tv ρ tt ∧ w χ ρ Q1 ∧ XOk W Γ tv tt σ χ ∧ ∀ t ρ' v H', Q1 t ρ' → En Γ H' σ (tv ++ [some v]) ρ' (tt ++ [t]) → Q v H'
def liftA (W : Wx) (w : WA) : TA := fun σ H Q => ∃ (Γ : Cg) (tv : List (Option V)) (ρ : Env) (tt : List T) (χ : XD) (Q1 : List T → Env → Prop), En Γ H σ tv ρ tt ∧ w χ ρ Q1 ∧ XOk W Γ tv tt σ χ ∧ ∀ ts ρ' vs H', Q1 ts ρ' → En Γ H' σ (tv ++ vs.map some) ρ' (tt ++ ts) → Q vs H'
def liftT (W : Wx) (w : WT) : TT := fun σ H Q => ∃ (Γ : Cg) (tv : List (Option V)) (ρ : Env) (tt : List T) (χ : XD) (Q1 : Bool → Env → Prop), En Γ H σ tv ρ tt ∧ w χ ρ Q1 ∧ XOk W Γ tv tt σ χ ∧ ∀ b ρ' H', Q1 b ρ' → En Γ H' σ tv ρ' tt → Q b H'
def Rf (W : Wx) (t : TE) (w : WE) : Prop := ∀ σ H Q, lift W w σ H Q → t σ H Q
def RfA (W : Wx) (t : TA) (w : WA) : Prop := ∀ σ H Q, liftA W w σ H Q → t σ H Q
def RfT (W : Wx) (t : TT) (w : WT) : Prop := ∀ σ H Q, liftT W w σ H Q → t σ H Q
theorem Ok.mid {Γ : Cg} {H : Hp} {xs ys zs : List (Option V)} {ts us ws : List T} (ok : Ok Γ H (xs ++ (ys ++ zs)) (ts ++ (us ++ ws))) (l1 : xs.length = ts.length) (l2 : ys.length = us.length) : Ok Γ H (xs ++ zs) (ts ++ ws) := by
  have l3 : zs.length = ws.length := by
    have := ok.len
    simp only [List.length_append] at this
    omega
  refine ok.re (by simp [l1, l3]) (fun b => by simp only [ownsL_append, cn_app]; omega) fun k x t h1 h2 => .inl ?_
  rcases ap_cases h1 with h1 | ⟨j, rfl, hj⟩
  · have hk := (List.getElem?_eq_some_iff.mp h1).1
    rw [List.getElem?_append_left (by omega)] at h2
    exact ⟨k, ap_left h1, ap_left h2⟩
  · rw [l1, List.getElem?_append_right (by omega), Nat.add_sub_cancel_left] at h2
    exact ⟨xs.length + (ys.length + j), ap_right (ap_right hj), by rw [l1, l2]; exact ap_right (ap_right h2)⟩
section
variable {Γ : Cg} {H H' : Hp} {σ : L2.St} {tv ys : List (Option V)} {ρ : Env} {tt us : List T} {W : Wx} {χ : XD}
theorem En.tl (e : En Γ H σ tv ρ tt) : tv.length = tt.length := by
  have h1 := e.ok.len
  have h2 := e.len
  simp only [List.length_append] at h1
  omega
theorem En.drop (e : En Γ H σ (tv ++ ys) ρ (tt ++ us)) (h : tv.length = tt.length) : En Γ H σ tv ρ tt :=
  ⟨Ok.drop (ys := ys) (us := us) (by rw [List.append_assoc, List.append_assoc]; exact e.ok) (by simp [e.len, h]), e.len⟩
theorem En.mid {zs : List (Option V)} {ws : List T} (e : En Γ H σ ((tv ++ ys) ++ zs) ρ ((tt ++ us) ++ ws)) (h1 : tv.length = tt.length) (h2 : ys.length = us.length) : En Γ H σ (tv ++ zs) ρ (tt ++ ws) := by
  refine ⟨?_, e.len⟩
  have := e.ok
  have := Ok.mid (xs := σ ++ tv) (ys := ys) (zs := zs) (ts := ρ ++ tt) (us := us) (ws := ws) (by simpa only [List.append_assoc] using this) (by simp [e.len, h1]) h2
  simpa only [List.append_assoc] using this
theorem XOk.deep (x : XOk W Γ tv tt σ χ) (h1 : tv.length = tt.length) (h2 : ys.length = us.length) : XOk W Γ (tv ++ ys) (tt ++ us) σ χ := ⟨x.1, fun C d fl ds ρ' H' c e => x.2 C d fl ds ρ' H' c (e.mid h1 h2)⟩
theorem En.as1 {x : Option V} {t : T} (e : En Γ H σ (tv ++ [x]) ρ (tt ++ [t])) : Ok Γ H ((σ ++ tv) ++ [x]) ((ρ ++ tt) ++ [t]) := by simpa only [List.append_assoc] using e.ok
theorem En.of1 {x : Option V} {t : T} (e : Ok Γ H ((σ ++ tv) ++ [x]) ((ρ ++ tt) ++ [t])) (h : σ.length = ρ.length) : En Γ H σ (tv ++ [x]) ρ (tt ++ [t]) := ⟨by simpa only [List.append_assoc] using e, h⟩
theorem En.as (e : En Γ H σ (tv ++ ys) ρ (tt ++ us)) : Ok Γ H ((σ ++ tv) ++ ys) ((ρ ++ tt) ++ us) := by simpa only [List.append_assoc] using e.ok
theorem En.of (e : Ok Γ H ((σ ++ tv) ++ ys) ((ρ ++ tt) ++ us)) (h : σ.length = ρ.length) : En Γ H σ (tv ++ ys) ρ (tt ++ us) := ⟨by simpa only [List.append_assoc] using e, h⟩
theorem En.l2 (e : En Γ H σ (tv ++ ys) ρ (tt ++ us)) (h : ys.length = us.length) : (σ ++ tv).length = (ρ ++ tt).length := by
  have := e.ok.len
  simp only [List.length_append] at this ⊢
  omega
/-- the last entry's tree -/
theorem En.last {v : V} {t : T} (e : En Γ H σ (tv ++ [some v]) ρ (tt ++ [t])) : R H (Av Γ (ownsL (ρ ++ (tt ++ [t])))) (some v) t := by
  have h1 := e.ok
  have l := e.l2 rfl
  refine h1.rep ((σ ++ tv).length) (some v) t ?_ ?_
  · rw [← List.append_assoc]; simp
  · rw [← List.append_assoc, l]; simp
theorem En.push {v : V} {d : D} (e : En Γ H σ tv ρ tt) (r : RD H (Av Γ (ownsL (ρ ++ tt))) v d) : En Γ H σ (tv ++ [some v]) ρ (tt ++ [.sh d]) := .of1 (e.ok.pushD r) e.len
end
def wC (t : T) : WE := fun _ ρ Q => Q t ρ
def wVar (i : Nat) : WE := fun _ ρ Q => ∃ t u, ρ[i]? = some t ∧ t.rd i [] = some u ∧ Q u ρ
section
variable {W : Wx}
theorem rf_c {v : V} {d : D} (r : ∀ H A, RD H A v d) : Rf W (tC v) (wC (.sh d)) := fun σ H Q ⟨Γ, tv, ρ, tt, χ, Q1, e, h, x, k⟩ => k _ ρ v H h (e.push (r _ _))
theorem rf_int {i : Int} : Rf W (tC (.int i)) (wC (.sh (.int i))) := rf_c fun _ _ => .int i
theorem rf_str {i : Str} : Rf W (tC (.str i)) (wC (.sh (.str i))) := rf_c fun _ _ => .str i
theorem rf_bl {i : Bool} : Rf W (tC (.bl i)) (wC (.sh (.bl i))) := rf_c fun _ _ => .bl i
theorem rf_non : Rf W (tC .non) (wC (.sh .non)) := rf_c fun _ _ => .non
theorem R.rd {H : Hp} {A : Addr → Prop} {x : Option V} {t u : T} {i : Nat} {p : List Nat} (r : R H A x t) (h : t.rd i p = some u) : ∃ v d, x = some v ∧ u = .sh d ∧ RD H A v d := by
  cases r with
  | no => cases h
  | sh r => cases h; exact ⟨_, _, rfl, rfl, r⟩
  | tup => cases h
  | lst => cases h; exact ⟨_, _, rfl, rfl, .at _ _ _⟩
  | dK => cases h; exact ⟨_, _, rfl, rfl, .at _ _ _⟩
  | dT => cases h; exact ⟨_, _, rfl, rfl, .at _ _ _⟩
  | obj => cases h; exact ⟨_, _, rfl, rfl, .at _ _ _⟩
theorem rf_var {i : Nat} : Rf W (tVar i) (wVar i) := fun σ H Q ⟨Γ, tv, ρ, tt, χ, Q1, e, ⟨t, u, h1, h2, h3⟩, x, k⟩ => by
  obtain ⟨y, hy⟩ := get_of_len e.len h1
  obtain ⟨v, d, rfl, rfl, r⟩ := (e.ok.rep i y t (ap_left hy) (ap_left h1)).rd h2
  exact ⟨v, hy, k _ ρ v H h3 (e.push r)⟩
/-- an operation on the last values: by their trees -/
structure CbD (r : List V → Hp → VK → Prop) (f : Env → List T → (T → Prop) → Prop) : Prop where
  run : ∀ (Γ : Cg) (H : Hp) (σ : L2.St) (tv : List (Option V)) (ρ : Env) (tt : List T) (vs : List V) (as : List T) (Q : VK) (k : T → Prop), En Γ H σ (tv ++ vs.map some) ρ (tt ++ as) → tv.length = tt.length → f ρ as k → (∀ t v H', k t → En Γ H' σ (tv ++ [some v]) ρ (tt ++ [t]) → Q v H') → r vs H Q
def r2 (r : R2) : List V → Hp → VK → Prop := fun vs H Q => ∀ x y, vs = [x, y] → r x y H Q
def r1 (r : V → Hp → VK → Prop) : List V → Hp → VK → Prop := fun vs H Q => ∀ x, vs = [x] → r x H Q
abbrev Fd := Env → List T → (T → Prop) → Prop
def wOp (f : Fd) (wa wb : WE) : WE := fun χ ρ Q => wa χ ρ fun t1 ρ1 => wb χ ρ1 fun t2 ρ2 => f ρ2 [t1, t2] fun t => Q t ρ2
def wUn (f : Fd) (wa : WE) : WE := fun χ ρ Q => wa χ ρ fun t1 ρ1 => f ρ1 [t1] fun t => Q t ρ1
theorem rf_op {r : R2} {f : Fd} {ta tb : TE} {wa wb : WE} (o : CbD (r2 r) f) (ha : Rf W ta wa) (hb : Rf W tb wb) : Rf W (tOp r ta tb) (wOp f wa wb) := fun σ H Q ⟨Γ, tv, ρ, tt, χ, Q1, e, h, x, k⟩ => by
  refine ha σ H _ ⟨Γ, tv, ρ, tt, χ, _, e, h, x, fun t1 ρ1 v1 H1 h1 e1 => ?_⟩
  refine hb σ H1 _ ⟨Γ, _, ρ1, _, χ, _, e1, h1, x.deep e.tl rfl, fun t2 ρ2 v2 H2 h2 e2 => ?_⟩
  exact o.run Γ H2 σ tv ρ2 tt [v1, v2] [t1, t2] Q _ (by rw [List.append_assoc, List.append_assoc] at e2; exact e2) e.tl h2 (fun t v H' q e' => k t ρ2 v H' q e') v1 v2 rfl
theorem rf_un {r : V → Hp → VK → Prop} {f : Fd} {ta : TE} {wa : WE} (o : CbD (r1 r) f) (ha : Rf W ta wa) : Rf W (tUn r ta) (wUn f wa) := fun σ H Q ⟨Γ, tv, ρ, tt, χ, Q1, e, h, x, k⟩ => by
  refine ha σ H _ ⟨Γ, tv, ρ, tt, χ, _, e, h, x, fun t1 ρ1 v1 H1 h1 e1 => ?_⟩
  exact o.run Γ H1 σ tv ρ1 tt [v1] [t1] Q _ e1 e.tl h1 (fun t v H' q e' => k t ρ1 v H' q e') v1 rfl
def waN : WA := fun _ ρ Q => Q [] ρ
def waC (wa : WE) (wr : WA) : WA := fun χ ρ Q => wa χ ρ fun t ρ1 => wr χ ρ1 fun ts ρ2 => Q (t :: ts) ρ2
theorem rfa_nil : RfA W tNil waN := fun σ H Q ⟨Γ, tv, ρ, tt, χ, Q1, e, h, x, k⟩ => k [] ρ [] H h (by simpa using e)
theorem rfa_cons {ta : TE} {tr : TA} {wa : WE} {wr : WA} (ha : Rf W ta wa) (hr : RfA W tr wr) : RfA W (tCons ta tr) (waC wa wr) := fun σ H Q ⟨Γ, tv, ρ, tt, χ, Q1, e, h, x, k⟩ => by
  refine ha σ H _ ⟨Γ, tv, ρ, tt, χ, _, e, h, x, fun t1 ρ1 v1 H1 h1 e1 => ?_⟩
  refine hr σ H1 _ ⟨Γ, _, ρ1, _, χ, _, e1, h1, x.deep e.tl rfl, fun ts ρ2 vs H2 h2 e2 => ?_⟩
  exact k (t1 :: ts) ρ2 (v1 :: vs) H2 h2 (by simpa only [List.append_assoc, List.map_cons, List.singleton_append, List.cons_append, List.nil_append] using e2)
def wCb (f : Fd) (wa : WA) : WE := fun χ ρ Q => wa χ ρ fun ts ρ1 => f ρ1 ts fun t => Q t ρ1
theorem rf_cb {r : List V → Hp → VK → Prop} {f : Fd} {ta : TA} {wa : WA} (o : CbD r f) (ha : RfA W ta wa) : Rf W (tCB r ta) (wCb f wa) := fun σ H Q ⟨Γ, tv, ρ, tt, χ, Q1, e, h, x, k⟩ => by
  refine ha σ H _ ⟨Γ, tv, ρ, tt, χ, _, e, h, x, fun ts ρ1 vs H1 h1 e1 => ?_⟩
  exact o.run Γ H1 σ tv ρ1 tt vs ts Q _ e1 e.tl h1 (fun t v H' q e' => k t ρ1 v H' q e')
def wLst (wa : WA) : WE := fun χ ρ Q => wa χ ρ fun ts ρ1 => ts.length ≤ 10000 ∧ ∀ a, Q (.lst a ts) ρ1
def wTup (wa : WA) : WE := fun χ ρ Q => wa χ ρ fun ts ρ1 => ts.length ≤ 10000 ∧ Q (mkTup ts) ρ1
theorem En.tlen {Γ : Cg} {H : Hp} {σ : L2.St} {tv ys : List (Option V)} {ρ : Env} {tt us : List T} (e : En Γ H σ (tv ++ ys) ρ (tt ++ us)) (h : tv.length = tt.length) : ys.length = us.length := by
  have := e.tl
  simp only [List.length_append] at this
  omega
theorem rf_lst {ta : TA} {wa : WA} (ha : RfA W ta wa) : Rf W (tLst ta) (wLst wa) := fun σ H Q ⟨Γ, tv, ρ, tt, χ, Q1, e, h, x, k⟩ => by
  refine ha σ H _ ⟨Γ, tv, ρ, tt, χ, _, e, h, x, fun ts ρ1 vs H1 ⟨hl, h1⟩ e1 => ?_⟩
  have lv : vs.length = ts.length := by simpa using e1.tlen e.tl
  refine ⟨szl (by omega), fun p hp => k _ ρ1 _ _ (h1 p) (.of (Ok.alloc (u := .lst p ts) (vs := vs) e1.as (e1.l2 (by simpa using lv)) hp (fun a o z => by rw [upd_ne (ne_of_none z hp)]; exact z) (fun a z => ?_) (nofrz (by intro o kvs z; cases z)) .lst upd_same lv (fun b => Nat.le_refl _) fun j v t h2 h3 => .inl ⟨j, map_get h2, h3⟩) e1.len)⟩
  by_cases q : a = p
  · rw [q]; exact hp
  · rw [upd_ne q] at z; exact z
theorem rf_tup {ta : TA} {wa : WA} (ha : RfA W ta wa) : Rf W (tTup ta) (wTup wa) := fun σ H Q ⟨Γ, tv, ρ, tt, χ, Q1, e, h, x, k⟩ => by
  refine ha σ H _ ⟨Γ, tv, ρ, tt, χ, _, e, h, x, fun ts ρ1 vs H1 ⟨hl, h1⟩ e1 => ?_⟩
  have lv : vs.length = ts.length := by simpa using e1.tlen e.tl
  exact ⟨szl (by omega), fun p hp => k _ ρ1 _ _ h1 (.of (Ok.tup e1.as (e1.l2 (by simpa using lv)) hp) e1.len)⟩
def wDNew : WE := fun _ ρ Q => ∀ a, Q (.dK a [] []) ρ
theorem rf_dnew : Rf W tDNewK wDNew := fun σ H Q ⟨Γ, tv, ρ, tt, χ, Q1, e, h, x, k⟩ => fun p hp => k _ ρ _ _ (h p) (.of1 (Ok.alloc (ys := []) (us := []) (u := .dK p [] []) (vs := []) (by simpa only [List.append_nil] using e.ok) e.ok.len hp (fun a o z => by rw [upd_ne (ne_of_none z hp)]; exact z) (fun a z => by
  by_cases q : a = p
  · rw [q]; exact hp
  · rw [upd_ne q] at z; exact z) (nofrz (by intro o kvs z; cases z)) (.dK (kvs := [])) upd_same rfl (fun b => Nat.le_refl _) (fun j v t h2 => by simp at h2)) e.len)
def wB (wa : WE) : WT := fun χ ρ Q => wa χ ρ fun t ρ1 => ∃ b, t = .sh (.bl b) ∧ Q b ρ1
theorem rft_b {ta : TE} {wa : WE} (ha : Rf W ta wa) : RfT W (tB ta) (wB wa) := fun σ H Q ⟨Γ, tv, ρ, tt, χ, Q1, e, h, x, k⟩ => by
  refine ha σ H _ ⟨Γ, tv, ρ, tt, χ, _, e, h, x, fun t1 ρ1 v1 H1 ⟨b, hb, h1⟩ e1 => ?_⟩
  subst hb
  have r := e1.last
  cases r with
  | sh r =>
  cases r
  exact ⟨b, rfl, k b ρ1 H1 h1 (e1.drop e.tl)⟩
theorem rft_test {ta : TE} {wa : WE} (ha : Rf W ta wa) : RfT W (tTest ta) (wB wa) := rft_b ha
def wAnd (w u : WT) : WT := fun χ ρ Q => w χ ρ fun b ρ1 => if b = true then u χ ρ1 Q else Q false ρ1
def wOr (w u : WT) : WT := fun χ ρ Q => w χ ρ fun b ρ1 => if b = true then Q true ρ1 else u χ ρ1 Q
def wNot (w : WT) : WT := fun χ ρ Q => w χ ρ fun b ρ1 => Q (!b) ρ1
theorem rft_and {t u : TT} {w w' : WT} (ha : RfT W t w) (hb : RfT W u w') : RfT W (tAnd t u) (wAnd w w') := fun σ H Q ⟨Γ, tv, ρ, tt, χ, Q1, e, h, x, k⟩ => by
  refine ha σ H _ ⟨Γ, tv, ρ, tt, χ, _, e, h, x, fun b ρ1 H1 h1 e1 => ?_⟩
  cases b with
  | true => exact iteT (hb σ H1 _ ⟨Γ, tv, ρ1, tt, χ, _, e1, h1, x, k⟩)
  | false => exact iteF (k false ρ1 H1 h1 e1)
theorem rft_or {t u : TT} {w w' : WT} (ha : RfT W t w) (hb : RfT W u w') : RfT W (tOr t u) (wOr w w') := fun σ H Q ⟨Γ, tv, ρ, tt, χ, Q1, e, h, x, k⟩ => by
  refine ha σ H _ ⟨Γ, tv, ρ, tt, χ, _, e, h, x, fun b ρ1 H1 h1 e1 => ?_⟩
  cases b with
  | true => exact iteT (k true ρ1 H1 h1 e1)
  | false => exact iteF (hb σ H1 _ ⟨Γ, tv, ρ1, tt, χ, _, e1, h1, x, k⟩)
theorem rft_not {t : TT} {w : WT} (ha : RfT W t w) : RfT W (tNot t) (wNot w) := fun σ H Q ⟨Γ, tv, ρ, tt, χ, Q1, e, h, x, k⟩ =>
  ha σ H _ ⟨Γ, tv, ρ, tt, χ, _, e, h, x, fun b ρ1 H1 h1 e1 => k (!b) ρ1 H1 h1 e1⟩
def wAndV (wa wb : WE) : WE := fun χ ρ Q => wa χ ρ fun t ρ1 => ∃ b, t = .sh (.bl b) ∧ if b = true then wb χ ρ1 Q else Q (.sh (.bl false)) ρ1
def wOrV (wa wb : WE) : WE := fun χ ρ Q => wa χ ρ fun t ρ1 => ∃ b, t = .sh (.bl b) ∧ if b = true then Q (.sh (.bl true)) ρ1 else wb χ ρ1 Q
def wNotV (wa : WE) : WE := fun χ ρ Q => wa χ ρ fun t ρ1 => ∃ b, t = .sh (.bl b) ∧ Q (.sh (.bl (!b))) ρ1
theorem rf_andV {ta tb : TE} {wa wb : WE} (ha : Rf W ta wa) (hb : Rf W tb wb) : Rf W (tAndV ta tb) (wAndV wa wb) := fun σ H Q ⟨Γ, tv, ρ, tt, χ, Q1, e, h, x, k⟩ => by
  refine ha σ H _ ⟨Γ, tv, ρ, tt, χ, _, e, h, x, fun t1 ρ1 v1 H1 ⟨b, eb, h1⟩ e1 => ?_⟩
  subst eb
  have r := e1.last
  cases r with
  | sh r =>
  cases r
  refine ⟨b, rfl, ?_⟩
  have e2 := e1.drop e.tl
  cases b with
  | true => exact iteT (hb σ H1 _ ⟨Γ, tv, ρ1, tt, χ, _, e2, h1, x, k⟩)
  | false => exact iteF (k _ ρ1 _ H1 h1 (e2.push (.bl false)))
theorem rf_orV {ta tb : TE} {wa wb : WE} (ha : Rf W ta wa) (hb : Rf W tb wb) : Rf W (tOrV ta tb) (wOrV wa wb) := fun σ H Q ⟨Γ, tv, ρ, tt, χ, Q1, e, h, x, k⟩ => by
  refine ha σ H _ ⟨Γ, tv, ρ, tt, χ, _, e, h, x, fun t1 ρ1 v1 H1 ⟨b, eb, h1⟩ e1 => ?_⟩
  subst eb
  have r := e1.last
  cases r with
  | sh r =>
  cases r
  refine ⟨b, rfl, ?_⟩
  have e2 := e1.drop e.tl
  cases b with
  | true => exact iteT (k _ ρ1 _ H1 h1 (e2.push (.bl true)))
  | false => exact iteF (hb σ H1 _ ⟨Γ, tv, ρ1, tt, χ, _, e2, h1, x, k⟩)
theorem rf_notV {ta : TE} {wa : WE} (ha : Rf W ta wa) : Rf W (tNotV ta) (wNotV wa) := fun σ H Q ⟨Γ, tv, ρ, tt, χ, Q1, e, h, x, k⟩ => by
  refine ha σ H _ ⟨Γ, tv, ρ, tt, χ, _, e, h, x, fun t1 ρ1 v1 H1 ⟨b, eb, h1⟩ e1 => ?_⟩
  subst eb
  have r := e1.last
  cases r with
  | sh r =>
  cases r
  exact ⟨b, rfl, k _ ρ1 _ H1 h1 ((e1.drop e.tl).push (.bl _))⟩
def wIfE (w : WT) (wa wb : WE) : WE := fun χ ρ Q => w χ ρ fun b ρ1 => if b = true then wa χ ρ1 Q else wb χ ρ1 Q
theorem rf_ifE {t : TT} {ta tb : TE} {w : WT} {wa wb : WE} (hc : RfT W t w) (ha : Rf W ta wa) (hb : Rf W tb wb) : Rf W (tIf t ta tb) (wIfE w wa wb) := fun σ H Q ⟨Γ, tv, ρ, tt, χ, Q1, e, h, x, k⟩ => by
  refine hc σ H _ ⟨Γ, tv, ρ, tt, χ, _, e, h, x, fun b ρ1 H1 h1 e1 => ?_⟩
  cases b with
  | true => exact iteT (ha σ H1 _ ⟨Γ, tv, ρ1, tt, χ, _, e1, h1, x, k⟩)
  | false => exact iteF (hb σ H1 _ ⟨Γ, tv, ρ1, tt, χ, _, e1, h1, x, k⟩)
def wChain (f g : Fd) (wa wb wc : WE) : WE := fun χ ρ Q => wa χ ρ fun t1 ρ1 => wb χ ρ1 fun t2 ρ2 => ∃ d2, t2 = .sh d2 ∧ f ρ2 [t1, t2] fun t => ∃ b, t = .sh (.bl b) ∧ if b = true then wc χ ρ2 fun t3 ρ3 => g ρ3 [t2, t3] fun t => Q t ρ3 else Q (.sh (.bl false)) ρ2
end
end E
namespace E
open PySem PySem.Spec PyProof.Rows L2 G
section
variable {W : Wx}
theorem En.dup {Γ : Cg} {H : Hp} {σ : L2.St} {tv : List (Option V)} {ρ : Env} {tt : List T} {v1 v2 : V} {t1 : T} {d2 : D} (e : En Γ H σ (tv ++ [some v1, some v2]) ρ (tt ++ [t1, .sh d2])) (h : tv.length = tt.length) : En Γ H σ ((tv ++ [some v2]) ++ [some v1, some v2]) ρ ((tt ++ [.sh d2]) ++ [t1, .sh d2]) := by
  have ok := e.as
  have l := e.l2 rfl
  have ok2 : Ok Γ H ((σ ++ tv) ++ [some v2, some v1, some v2]) ((ρ ++ tt) ++ [.sh d2, t1, .sh d2]) := by
    refine ok.re (by simp at l ⊢; omega) (fun b => ?_) fun k x t h1 h2 => .inl ?_
    · simp only [ownsL_append, cn_app, ownsL_cons, ownsL_nil, T.owns, cn, List.count_nil, List.nil_append, List.append_nil, List.count_append]
      omega
    · rcases ap_cases h1 with h1 | ⟨j, rfl, hj⟩
      · have hk := (List.getElem?_eq_some_iff.mp h1).1
        rw [List.getElem?_append_left (by omega)] at h2
        exact ⟨k, ap_left h1, ap_left h2⟩
      · rw [l, List.getElem?_append_right (by omega), Nat.add_sub_cancel_left] at h2
        match j, hj, h2 with
        | 0, hj, h2 => exact ⟨(σ ++ tv).length + 1, by rw [← hj]; exact ap_right (k := 1) rfl, by rw [l, ← h2]; exact ap_right (k := 1) rfl⟩
        | 1, hj, h2 => exact ⟨(σ ++ tv).length + 0, by rw [← hj]; exact ap_right (k := 0) rfl, by rw [l, ← h2]; exact ap_right (k := 0) rfl⟩
        | 2, hj, h2 => exact ⟨(σ ++ tv).length + 1, by rw [← hj]; exact ap_right (k := 1) rfl, by rw [l, ← h2]; exact ap_right (k := 1) rfl⟩
        | n + 3, hj, _ => simp at hj
  exact ⟨by simpa only [List.append_assoc, List.cons_append, List.nil_append] using ok2, e.len⟩
theorem rf_chain {r r' : R2} {f g : Fd} {ta tb tc : TE} {wa wb wc : WE} (o : CbD (r2 r) f) (o' : CbD (r2 r') g) (ha : Rf W ta wa) (hb : Rf W tb wb) (hc : Rf W tc wc) : Rf W (tChain r r' ta tb tc) (wChain f g wa wb wc) := fun σ H Q ⟨Γ, tv, ρ, tt, χ, Q1, e, h, x, k⟩ => by
  refine ha σ H _ ⟨Γ, tv, ρ, tt, χ, _, e, h, x, fun t1 ρ1 v1 H1 h1 e1 => ?_⟩
  refine hb σ H1 _ ⟨Γ, _, ρ1, _, χ, _, e1, h1, x.deep e.tl rfl, fun t2 ρ2 v2 H2 ⟨d2, ed, h2⟩ e2 => ?_⟩
  subst ed
  rw [List.append_assoc, List.append_assoc] at e2
  have e3 := En.dup e2 e.tl
  refine o.run Γ H2 σ (tv ++ [some v2]) ρ2 (tt ++ [T.sh d2]) [v1, v2] [t1, T.sh d2] _ _ e3 (by simp [e.tl]) h2 (fun t v H' ⟨b, eb, q⟩ e' => ?_) v1 v2 rfl
  subst eb
  have rr := e'.last
  cases rr with
  | sh rr =>
  cases rr
  refine ⟨b, rfl, ?_⟩
  have e4 := e'.drop (by simp [e.tl])
  cases b with
  | true =>
    refine iteT (hc σ H' _ ⟨Γ, _, ρ2, _, χ, _, e4, q, x.deep e.tl rfl, fun t3 ρ3 v3 H3 h3 e5 => ?_⟩)
    exact o'.run Γ H3 σ tv ρ3 tt [v2, v3] [.sh d2, t3] Q _ (by rw [List.append_assoc, List.append_assoc] at e5; exact e5) e.tl h3 (fun t v H' q e' => k t ρ3 v H' q e') v2 v3 rfl
  | false => exact iteF (k _ ρ2 _ H' q ((e4.drop e.tl).push (.bl false)))
end
structure WK where
  nx : Env → Prop
  rt : T → Env → Prop
  bk : Env → Prop
  ct : Env → Prop
  xc : XD
abbrev WS := WK → Env → Prop
/-- these slots hold what they held -/
def Pn (bs : List Nat) (σ σ' : L2.St) : Prop := ∀ k ∈ bs, σ'[k]? = σ[k]?
theorem Pn.refl (bs : List Nat) (σ : L2.St) : Pn bs σ σ := fun _ _ => rfl
theorem Pn.trans {bs : List Nat} {σ σ1 σ2 : L2.St} (a : Pn bs σ σ1) (b : Pn bs σ1 σ2) : Pn bs σ σ2 := fun k h => (b k h).trans (a k h)
theorem Pn.set {bs : List Nat} {σ : L2.St} {i : Nat} {x : Option V} (h : i ∉ bs) : Pn bs σ (σ.set i x) := fun k hk => by rw [List.getElem?_set_ne (fun (z : i = k) => h (by rw [z]; exact hk))]
structure KOk (bs : List Nat) (Γ : Cg) (tv : List (Option V)) (tt : List T) (σ : L2.St) (W : Wx) (D : Ends) (k : WK) : Prop where
  nx : ∀ ρ' σ' H', k.nx ρ' → Pn bs σ σ' → En Γ H' σ' tv ρ' tt → D.nx σ' H'
  rt : ∀ t ρ' v σ' H', k.rt t ρ' → Pn bs σ σ' → En Γ H' σ' (tv ++ [some v]) ρ' (tt ++ [t]) → D.rt v H'
  bk : ∀ ρ' σ' H', k.bk ρ' → Pn bs σ σ' → En Γ H' σ' tv ρ' tt → D.bk σ' H'
  ct : ∀ ρ' σ' H', k.ct ρ' → Pn bs σ σ' → En Γ H' σ' tv ρ' tt → D.ct σ' H'
  xc : ∀ C d fl ds ρ' σ' H', k.xc C fl ds ρ' → Pn bs σ σ' → En Γ H' σ' (tv ++ [some (.ref 0)]) ρ' (tt ++ [.sh (.exc C d fl ds)]) → W.x (.ref C) (some d) σ' H'
  cal : W.c = true → Calm Γ.H0
def liftS (bs : List Nat) (W : Wx) (w : WS) : TS := fun D σ H => ∃ (Γ : Cg) (tv : List (Option V)) (ρ : Env) (tt : List T) (k : WK), En Γ H σ tv ρ tt ∧ w k ρ ∧ KOk bs Γ tv tt σ W D k
def RfS (bs : List Nat) (W : Wx) (t : TS) (w : WS) : Prop := ∀ D σ H, liftS bs W w D σ H → t D σ H
theorem KOk.at {bs : List Nat} {Γ : Cg} {tv : List (Option V)} {tt : List T} {σ σ1 : L2.St} {W : Wx} {D : Ends} {k : WK} (o : KOk bs Γ tv tt σ W D k) (p : Pn bs σ σ1) : KOk bs Γ tv tt σ1 W D k :=
  ⟨fun ρ' σ' H' h q => o.nx ρ' σ' H' h (p.trans q), fun t ρ' v σ' H' h q => o.rt t ρ' v σ' H' h (p.trans q), fun ρ' σ' H' h q => o.bk ρ' σ' H' h (p.trans q), fun ρ' σ' H' h q => o.ct ρ' σ' H' h (p.trans q), fun C d fl ds ρ' σ' H' h q => o.xc C d fl ds ρ' σ' H' h (p.trans q), o.cal⟩
theorem KOk.x {bs : List Nat} {Γ : Cg} {tv : List (Option V)} {tt : List T} {σ : L2.St} {W : Wx} {D : Ends} {k : WK} (o : KOk bs Γ tv tt σ W D k) : XOk W Γ tv tt σ k.xc := ⟨o.cal, fun C d fl ds ρ' H' h e => o.xc C d fl ds ρ' σ H' h (.refl _ _) e⟩
/-- entries given away between two statements -/
inductive Pubs : Env → Env → Prop
  | refl (ρ : Env) : Pubs ρ ρ
  | step {ρ ρ' : Env} {t : T} {d : D} (i : Nat) : ρ[i]? = some t → t.pub = some d → Pubs (ρ.set i (.sh d)) ρ' → Pubs ρ ρ'
theorem En.pubs {Γ : Cg} {H : Hp} {σ : L2.St} {tv : List (Option V)} {ρ ρ' : Env} {tt : List T} (p : Pubs ρ ρ') : En Γ H σ tv ρ tt → En Γ H σ tv ρ' tt := by
  induction p with
  | refl => exact id
  | step i h1 h2 _ ih =>
    intro e
    refine ih ⟨?_, by rw [List.length_set]; exact e.len⟩
    have := e.ok.pub (i := i) (ap_left h1) h2
    rw [List.set_append_left (h := (List.getElem?_eq_some_iff.mp h1).1)] at this
    exact this
def wSeq (a b : WS) : WS := fun k ρ => a { k with nx := fun ρ1 => ∃ ρ2, Pubs ρ1 ρ2 ∧ b k ρ2 } ρ
section
variable {W : Wx} {bs : List Nat}
theorem rfs_seq {t u : TS} {a b : WS} (ha : RfS bs W t a) (hb : RfS bs W u b) : RfS bs W (tSeq t u) (wSeq a b) := fun D σ H ⟨Γ, tv, ρ, tt, k, e, h, o⟩ =>
  ha _ σ H ⟨Γ, tv, ρ, tt, _, e, h, ⟨fun ρ' σ' H' ⟨ρ2, p, h2⟩ q e2 => hb D σ' H' ⟨Γ, tv, ρ2, tt, k, e2.pubs p, h2, o.at q⟩, o.rt, o.bk, o.ct, o.xc, o.cal⟩⟩
def wNext : WS := fun k ρ => k.nx ρ
def wBrk : WS := fun k ρ => k.bk ρ
def wCont : WS := fun k ρ => k.ct ρ
theorem rfs_next : RfS bs W tNext wNext := fun D σ H ⟨Γ, tv, ρ, tt, k, e, h, o⟩ => o.nx ρ σ H h (.refl _ _) e
theorem rfs_brk : RfS bs W tBreak wBrk := fun D σ H ⟨Γ, tv, ρ, tt, k, e, h, o⟩ => o.bk ρ σ H h (.refl _ _) e
theorem rfs_cont : RfS bs W tCont wCont := fun D σ H ⟨Γ, tv, ρ, tt, k, e, h, o⟩ => o.ct ρ σ H h (.refl _ _) e
def wDrop (w : WE) : WS := fun k ρ => w k.xc ρ fun _ ρ1 => k.nx ρ1
theorem rfs_drop {t : TE} {w : WE} (ha : Rf W t w) : RfS bs W (tDrop t) (wDrop w) := fun D σ H ⟨Γ, tv, ρ, tt, k, e, h, o⟩ =>
  ha σ H _ ⟨Γ, tv, ρ, tt, k.xc, _, e, h, o.x, fun t ρ1 v H1 h1 e1 => o.nx ρ1 σ H1 h1 (.refl _ _) (e1.drop e.tl)⟩
def wRet (w : WE) : WS := fun k ρ => w k.xc ρ k.rt
theorem rfs_ret {t : TE} {w : WE} (ha : Rf W t w) : RfS bs W (tRet t) (wRet w) := fun D σ H ⟨Γ, tv, ρ, tt, k, e, h, o⟩ =>
  ha σ H _ ⟨Γ, tv, ρ, tt, k.xc, _, e, h, o.x, fun t ρ1 v H1 h1 e1 => o.rt t ρ1 v σ H1 h1 (.refl _ _) e1⟩
def wRetN : WS := fun k ρ => k.rt (.sh .non) ρ
theorem rfs_retN : RfS bs W tRetN wRetN := fun D σ H ⟨Γ, tv, ρ, tt, k, e, h, o⟩ => o.rt _ ρ _ σ H h (.refl _ _) (e.push .non)
/-- x, read where its tree goes along -/
def tMv (i : Nat) : TE := tVar i
def T.live : T → Bool
  | .no => false
  | _ => true
def T.left (i : Nat) : T → T
  | .sh d => .sh d
  | .lst a _ => .sh (.at a i [])
  | .dK a _ _ => .sh (.at a i [])
  | .dT a _ _ => .sh (.at a i [])
  | .obj a _ _ _ => .sh (.at a i [])
  | _ => .no
def wMv (i : Nat) : WE := fun _ ρ Q => ∃ t, ρ[i]? = some t ∧ t.live = true ∧ Q t (ρ.set i (t.left i))
theorem R.left {H : Hp} {A : Addr → Prop} {x : Option V} {t : T} (i : Nat) (r : R H A x t) : R H A x (t.left i) := by
  cases r with
  | no => exact .no _
  | sh r => exact .sh r
  | tup => exact .no _
  | lst => exact .sh (.at _ _ _)
  | dK => exact .sh (.at _ _ _)
  | dT => exact .sh (.at _ _ _)
  | obj => exact .sh (.at _ _ _)
theorem left_owns (i : Nat) (t : T) : (t.left i).owns = [] := by cases t <;> simp [T.left, T.owns]
theorem R.live {H : Hp} {A : Addr → Prop} {x : Option V} {t : T} (r : R H A x t) (h : t.live = true) : ∃ v, x = some v := by
  cases r with
  | no => cases h
  | _ => exact ⟨_, rfl⟩
theorem Ok.moved {Γ : Cg} {H : Hp} {xs ys : List (Option V)} {ts us : List T} {i j : Nat} {x : Option V} {t : T} (ok : Ok Γ H (xs ++ ys) (ts ++ us)) (len : xs.length = ts.length) (h1 : xs[i]? = some x) (h2 : ts[i]? = some t) : Ok Γ H ((xs ++ ys) ++ [x]) ((ts.set i (t.left j) ++ us) ++ [t]) := by
  have hi := (List.getElem?_eq_some_iff.mp h2).1
  have cnt : ∀ b, cn b (ownsL ((ts.set i (t.left j) ++ us) ++ [t])) = cn b (ownsL (ts ++ us)) := fun b => by
    have := cn_set b (u := t.left j) h2
    have e : cn b (T.owns (t.left j)) = 0 := by rw [left_owns]; rfl
    simp only [ownsL_append, cn_app, ownsL_one]
    omega
  have ly : ys.length = us.length := by
    have := ok.len
    simp only [List.length_append] at this
    omega
  refine ok.re (by simp [len, ly]) (fun b => Nat.le_of_eq (cnt b)) fun k y w e1 e2 => ?_
  rcases ap_cases e1 with e1 | ⟨m, rfl, hm⟩
  · have hk := (List.getElem?_eq_some_iff.mp e1).1
    rw [List.getElem?_append_left (by rw [List.length_append] at hk ⊢; rw [List.length_set]; omega)] at e2
    by_cases hik : i = k
    · subst hik
      rw [ap_left h1] at e1
      cases e1
      rw [ap_left (List.getElem?_set_self hi)] at e2
      cases e2
      right
      refine ((ok.rep i x t (ap_left h1) (ap_left h2)).left j).mono (fun b o av hb => ⟨.of hb hb, av_le (fun c => Nat.le_of_eq (cnt c)) av⟩) fun _ _ _ hb => hb
    · left
      refine ⟨k, e1, ?_⟩
      rcases ap_cases e2 with e2 | ⟨m, rfl, hm⟩
      · rw [List.getElem?_set_ne hik] at e2
        exact ap_left e2
      · rw [List.length_set]
        exact ap_right hm
  · have m0 : m = 0 := by
      have := (List.getElem?_eq_some_iff.mp hm).1
      simpa using this
    subst m0
    simp at hm
    subst hm
    have : (xs ++ ys).length + 0 = ((ts.set i (t.left j) ++ us)).length + 0 := by simp [len, ly]
    rw [this, ap_right (k := 0) rfl] at e2
    cases e2
    exact .inl ⟨i, ap_left h1, ap_left h2⟩
theorem rf_mv {i : Nat} : Rf W (tMv i) (wMv i) := fun σ H Q ⟨Γ, tv, ρ, tt, χ, Q1, e, ⟨t, h1, h2, h3⟩, x, k⟩ => by
  obtain ⟨y, hy⟩ := get_of_len e.len h1
  obtain ⟨v, rfl⟩ := (e.ok.rep i y t (ap_left hy) (ap_left h1)).live h2
  exact ⟨v, hy, k t _ v H h3 (.of1 (Ok.moved e.ok e.len hy h1) (by rw [List.length_set]; exact e.len))⟩
def wIf (c : WT) (a b : WS) : WS := fun k ρ => c k.xc ρ fun x ρ1 => if x = true then a k ρ1 else b k ρ1
theorem rfs_if {c : TT} {t u : TS} {wc : WT} {a b : WS} (hc : RfT W c wc) (ha : RfS bs W t a) (hb : RfS bs W u b) : RfS bs W (tIfS c t u) (wIf wc a b) := fun D σ H ⟨Γ, tv, ρ, tt, k, e, h, o⟩ => by
  refine hc σ H _ ⟨Γ, tv, ρ, tt, k.xc, _, e, h, o.x, fun b ρ1 H1 h1 e1 => ?_⟩
  cases b with
  | true => exact iteT (ha D σ H1 ⟨Γ, tv, ρ1, tt, k, e1, h1, o⟩)
  | false => exact iteF (hb D σ H1 ⟨Γ, tv, ρ1, tt, k, e1, h1, o⟩)
abbrev WG := T → Env → (Env → Prop) → Prop
/-- the value to be stored is the last entry -/
def RfG (B : Nat → Prop) (g : TG) (w : WG) : Prop := ∀ (Γ : Cg) (H : Hp) (σ : L2.St) (tv : List (Option V)) (ρ : Env) (tt : List T) (v : V) (t : T) (k : Env → Prop) (Q : L2.St → Hp → Prop), En Γ H σ (tv ++ [some v]) ρ (tt ++ [t]) → tv.length = tt.length → w t ρ k → (∀ ρ' σ' H', k ρ' → (∀ j, B j → σ'[j]? = σ[j]?) → σ'.length = σ.length → En Γ H' σ' tv ρ' tt → Q σ' H') → g v σ H Q
def gwName (i : Nat) : WG := fun t ρ k => i < ρ.length ∧ k (ρ.set i t)
theorem En.set {Γ : Cg} {H : Hp} {σ : L2.St} {tv : List (Option V)} {ρ : Env} {tt : List T} {x : Option V} {t : T} {i : Nat} (e : En Γ H σ (tv ++ [x]) ρ (tt ++ [t])) (hi : i < ρ.length) : En Γ H (σ.set i x) tv (ρ.set i t) tt := by
  have h := Ok.setLast (i := i) e.as1 (e.l2 rfl) (by have := e.len; simp; omega)
  rw [List.set_append_left (h := by rw [e.len]; exact hi), List.set_append_left (h := hi)] at h
  exact ⟨h, by simp [e.len]⟩
theorem rfg_name {B : Nat → Prop} {i : Nat} (h : ¬ B i) : RfG B (gName i) (gwName i) := fun Γ H σ tv ρ tt v t k Q e l ⟨hi, hk⟩ q => q _ _ H hk (fun j hj => by rw [List.getElem?_set_ne (fun (z : i = j) => h (by rw [z]; exact hj))]) (by rw [List.length_set]) (e.set hi)
def wAsg (w : WE) (g : WG) : WS := fun k ρ => w k.xc ρ fun t ρ1 => g t ρ1 k.nx
theorem rfs_asg {t : TE} {g : TG} {w : WE} {wg : WG} (ha : Rf W t w) (hg : RfG (fun k => k ∈ bs) g wg) : RfS bs W (tAsg t g) (wAsg w wg) := fun D σ H ⟨Γ, tv, ρ, tt, k, e, h, o⟩ =>
  ha σ H _ ⟨Γ, tv, ρ, tt, k.xc, _, e, h, o.x, fun t ρ1 v H1 h1 e1 => hg Γ H1 σ tv ρ1 tt v t _ _ e1 e.tl h1 fun ρ' σ' H' q p _ e' => o.nx ρ' σ' H' q (fun j hj => p j hj) e'⟩
end
end E
namespace E
open PySem PySem.Spec PyProof.Rows L2 G
abbrev SpecD := List T → (T → List T → Prop) → (Addr → List Str → List D → List T → Prop) → Prop
def spD (c : Bool) (S : SpecD) : Sp := fun vs H Q E => ∃ (A0 S0 : Addr → Prop) (ts : List T) (Q1 : T → List T → Prop) (χ : Addr → List Str → List D → List T → Prop), (c = true → Calm H) ∧ Ok ⟨H, A0, S0⟩ H (vs.map some) ts ∧ S ts Q1 χ ∧
  (∀ t us v H', Q1 t us → Ok ⟨H, A0, S0⟩ H' (vs.map some ++ [some v]) (us ++ [t]) → Q v H') ∧
  (∀ C d fl ds us H', χ C fl ds us → Ok ⟨H, A0, S0⟩ H' (vs.map some ++ [some (.ref 0)]) (us ++ [.sh (.exc C d fl ds)]) → E (.ref C) (some d) H')
/-- the trees of the parameters at the end: of those slots that are never stored to -/
def kept (bs : List Nat) : Nat → Nat → Env → List T
  | _, 0, _ => []
  | i, n + 1, [] => .no :: kept bs (i + 1) n []
  | i, n + 1, t :: ρ => (if bs.contains i then t else .no) :: kept bs (i + 1) n ρ
theorem kept_len (bs : List Nat) : ∀ (n i : Nat) (ρ : Env), (kept bs i n ρ).length = n
  | 0, _, _ => by simp [kept]
  | n + 1, i, [] => by rw [kept, List.length_cons, kept_len bs n]
  | n + 1, i, t :: ρ => by rw [kept, List.length_cons, kept_len bs n]
theorem kept_cn (bs : List Nat) (b : Addr) : ∀ (n i : Nat) (ρ : Env), cn b (ownsL (kept bs i n ρ)) ≤ cn b (ownsL ρ)
  | 0, _, _ => by simp [kept, ownsL]
  | n + 1, i, [] => by
    have := kept_cn bs b n (i + 1) []
    rw [kept, ownsL_cons, cn_app, T.owns]
    simpa using this
  | n + 1, i, t :: ρ => by
    have := kept_cn bs b n (i + 1) ρ
    rw [kept, ownsL_cons, ownsL_cons, cn_app, cn_app]
    have : cn b (T.owns (if bs.contains i then t else .no)) ≤ cn b t.owns := by
      split
      · exact Nat.le_refl _
      · rw [T.owns]; exact Nat.zero_le _
    omega
theorem kept_get (bs : List Nat) : ∀ (n i : Nat) (ρ : Env) (k : Nat) (t : T), (kept bs i n ρ)[k]? = some t → t = .no ∨ (ρ[k]? = some t ∧ bs.contains (i + k) = true)
  | 0, _, _, k, t, h => by simp [kept] at h
  | n + 1, i, [], 0, t, h => by simp [kept] at h; exact .inl h.symm
  | n + 1, i, [], k + 1, t, h => by
    rw [kept, List.getElem?_cons_succ] at h
    rcases kept_get bs n (i + 1) [] k t h with h | ⟨h, _⟩
    · exact .inl h
    · simp at h
  | n + 1, i, u :: ρ, 0, t, h => by
    rw [kept, List.getElem?_cons_zero] at h
    by_cases c : bs.contains i = true
    · rw [if_pos c] at h
      exact .inr ⟨by simpa using h, by simpa using c⟩
    · rw [if_neg c] at h
      cases h
      exact .inl rfl
  | n + 1, i, u :: ρ, k + 1, t, h => by
    rw [kept, List.getElem?_cons_succ] at h
    rcases kept_get bs n (i + 1) ρ k t h with h | ⟨h, c⟩
    · exact .inl h
    · exact .inr ⟨by simpa using h, by rw [show i + (k + 1) = i + 1 + k by omega]; exact c⟩
theorem endOk {bs : List Nat} {Γ : Cg} {H : Hp} {N : List Str} {vs : List V} {σ : L2.St} {ρ : Env} {x : Option V} {t : T} (e : En Γ H σ ([] ++ [x]) ρ ([] ++ [t])) (p : Pn bs (L2.start N vs) σ) : Ok Γ H (vs.map some ++ [x]) (kept bs 0 vs.length ρ ++ [t]) := by
  have lk : (vs.map some).length = (kept bs 0 vs.length ρ).length := by rw [kept_len, List.length_map]
  have hc : ∀ b, cn b (ownsL (kept bs 0 vs.length ρ ++ [t])) ≤ cn b (ownsL (ρ ++ ([] ++ [t]))) := fun b => by
    have := kept_cn bs b vs.length 0 ρ
    simp only [ownsL_append, cn_app, List.nil_append]
    omega
  refine e.ok.re (by rw [List.length_append, List.length_append, lk]; rfl) hc fun k y u h1 h2 => ?_
  rcases ap_cases h1 with h1 | ⟨j, rfl, hj⟩
  · have hk := (List.getElem?_eq_some_iff.mp h1).1
    rw [List.getElem?_append_left (by omega)] at h2
    rcases kept_get bs _ 0 ρ k u h2 with rfl | ⟨h2, c⟩
    · exact .inr (.no _)
    · left
      refine ⟨k, ap_left ?_, ap_left h2⟩
      have hb : k ∈ bs := by
        rw [Nat.zero_add] at c
        simpa using c
      have q := p k hb
      rw [q]
      unfold L2.start
      exact ap_left h1
  · have j0 : j = 0 := by
      have := (List.getElem?_eq_some_iff.mp hj).1
      simpa using this
    subst j0
    simp at hj
    subst hj
    rw [lk, ap_right (k := 0) rfl] at h2
    cases h2
    exact .inl ⟨σ.length + 0, ap_right (k := 0) rfl, by rw [e.len]; exact ap_right (k := 0) rfl⟩
section
variable {c : Bool} {X : Cx} {N : List Str} {body : List Stmt} {t : TS} {w : WS} {S : SpecD} {vs : List V} {H : Hp} {Q : VK} {E : XK} {bs : List Nat}
theorem lenD {ps : List Str} (hl : ∀ ts Q χ, S ts Q χ → ts.length = ps.length) : ∀ vs H Q E, spD c S vs H Q E → vs.length = ps.length := fun vs H Q E ⟨A0, S0, ts, Q1, χ, hcal, ok, s, _⟩ => by
  rw [← hl ts Q1 χ s, ← ok.len, List.length_map]
def W0 (c : Bool) : Wx := ⟨fun _ _ _ _ => False, c⟩
def kEnd (bs : List Nat) (n : Nat) (Q1 : T → List T → Prop) (χ : XD) : WK := ⟨fun ρ => Q1 (.sh .non) (kept bs 0 n ρ), fun t ρ => Q1 t (kept bs 0 n ρ), fun _ => False, fun _ => False, χ⟩
def noX : XD := fun _ _ _ _ => False
theorem startEn {A0 S0 : Addr → Prop} {ts : List T} (ok : Ok ⟨H, A0, S0⟩ H (vs.map some) ts) (N : List Str) : En ⟨H, A0, S0⟩ H (L2.start N vs) [] (ts ++ List.replicate (N.length - ts.length) .no) [] := by
  have lt : vs.length = ts.length := by rw [← ok.len, List.length_map]
  refine ⟨?_, by simp [L2.start, lt]⟩
  rw [List.append_nil, List.append_nil]
  unfold L2.start
  have hr : ∀ n, ownsL (List.replicate n T.no) = [] := fun n => by
    induction n with
    | zero => rw [List.replicate_zero, ownsL]
    | succ n ih => rw [List.replicate_succ, ownsL, ih, T.owns]; rfl
  refine ok.re (by simp [lt]) (fun b => by rw [ownsL_append, hr, List.append_nil]; exact Nat.le_refl _) fun k x t h1 h2 => ?_
  rcases ap_cases h1 with h1 | ⟨j, rfl, hj⟩
  · have hk := (List.getElem?_eq_some_iff.mp h1).1
    rw [List.getElem?_append_left (by rw [List.length_map] at hk; omega)] at h2
    exact .inl ⟨k, h1, h2⟩
  · rw [List.length_map, lt, List.getElem?_append_right (by omega), Nat.add_sub_cancel_left] at h2
    rw [List.getElem?_replicate] at h2
    split at h2
    · cases h2; exact .inr (.no _)
    · cases h2
theorem bodyD (bs : List Nat) (h : spD c S vs H Q E) (ht : PSs X body t) (n : Nat) (m : Nat) (hn : ∀ ts Q χ, S ts Q χ → ts.length = n) (hm : N.length - n = m) (hw : ∃ w, RfS bs (W0 c) t w ∧ ∀ ts Q1 χ, S ts Q1 χ → w (kEnd bs n Q1 noX) (ts ++ List.replicate m .no)) : ∃ t, PSs X body t ∧ t { nx := fun _ H' => Q .non H', rt := Q } (L2.start N vs) H := by
  obtain ⟨w, hr, hw⟩ := hw
  obtain ⟨A0, S0, ts, Q1, χ, hcal, ok, s, hq, hx⟩ := h
  have ln := hn ts Q1 χ s
  have lv : vs.length = n := by rw [← ln, ← ok.len, List.length_map]
  refine ⟨t, ht, hr _ _ _ ⟨⟨H, A0, S0⟩, [], _, [], _, startEn ok N, by rw [ln, hm]; exact hw ts Q1 χ s, ?_⟩⟩
  exact ⟨fun ρ' σ' H' q p e => hq _ _ _ _ (show Q1 _ (kept bs 0 vs.length ρ') by rw [lv]; exact q) (endOk (e.push .non) p), fun t ρ' v σ' H' q p e => hq _ _ _ _ (show Q1 _ (kept bs 0 vs.length ρ') by rw [lv]; exact q) (endOk e p), fun _ _ _ q => q.elim, fun _ _ _ q => q.elim, fun _ _ _ _ _ _ _ q => q.elim, hcal⟩
end
theorem call_run {c : Bool} {Γ : Cg} {H : Hp} {σ : L2.St} {tv : List (Option V)} {ρ : Env} {tt : List T} {vs : List V} {ts : List T} {S : SpecD} {Q1 : T → List T → Prop} {χ1 : Addr → List Str → List D → List T → Prop} {Q : VK} {E : XK} (e : En Γ H σ (tv ++ vs.map some) ρ (tt ++ ts)) (l : tv.length = tt.length) (hcal : c = true → Calm Γ.H0) (s : S ts Q1 χ1)
    (hq : ∀ t us v H', Q1 t us → En Γ H' σ (tv ++ (vs.map some ++ [some v])) ρ (tt ++ (us ++ [t])) → Q v H')
    (hx : ∀ C d fl ds us H', χ1 C fl ds us → En Γ H' σ (tv ++ (vs.map some ++ [some (.ref 0)])) ρ (tt ++ (us ++ [.sh (.exc C d fl ds)])) → E (.ref C) (some d) H') : spD c S vs H Q E := by
  have lv := e.tlen l
  have ll := e.l2 lv
  exact ⟨_, _, ts, Q1, χ1, fun z => e.ok.calm (hcal z), Ok.enter e.as ll, s, fun t us v H' q ok => hq t us v H' q (.of (Ok.call e.as ll ok) e.len), fun C d fl ds us H' q ok => hx C d fl ds us H' q (.of (Ok.call e.as ll ok) e.len)⟩
inductive LendL : Env → List T → Env → List T → List (Option (Nat × List Nat × Addr)) → Prop
  | nil (ρ : Env) : LendL ρ [] ρ [] []
  | keep {ρ ρ' : Env} {t : T} {ts ts' : List T} {ls : List (Option (Nat × List Nat × Addr))} : LendL ρ ts ρ' ts' ls → LendL ρ (t :: ts) ρ' (t :: ts') (none :: ls)
  | lend {ρ ρ' : Env} {u : T} {ts ts' : List T} {ls : List (Option (Nat × List Nat × Addr))} {a : Addr} {i : Nat} {p : List Nat} : gt ρ i p = some u → u.addr = some a → LendL (pt ρ i p (.sh (.at a i p))) ts ρ' ts' ls → LendL ρ (.sh (.at a i p) :: ts) ρ' (u :: ts') (some (i, p, a) :: ls)
  | pub {ρ ρ' : Env} {t : T} {d : D} {ts ts' : List T} {ls : List (Option (Nat × List Nat × Addr))} : t.pub = some d → LendL ρ ts ρ' ts' ls → LendL ρ (t :: ts) ρ' (.sh d :: ts') (none :: ls)
inductive BackL : Env → List (Option (Nat × List Nat × Addr)) → List T → Env → Prop
  | nil (ρ : Env) : BackL ρ [] [] ρ
  | skip {ρ ρ' : Env} {t : T} {ts : List T} {ls : List (Option (Nat × List Nat × Addr))} : BackL ρ ls ts ρ' → BackL ρ (none :: ls) (t :: ts) ρ'
  | put {ρ ρ' : Env} {t : T} {ts : List T} {ls : List (Option (Nat × List Nat × Addr))} {a : Addr} {i i' : Nat} {p p' : List Nat} : gt ρ i p = some (.sh (.at a i' p')) → BackL (pt ρ i p t) ls ts ρ' → BackL ρ (some (i, p, a) :: ls) (t :: ts) ρ'
section
variable {Γ : Cg} {H : Hp} {σ : L2.St} {tv xs : List (Option V)} {ρ : Env} {tt ts : List T}
theorem gt_app {ρ us : List T} {i : Nat} {p : List Nat} {u : T} (h : gt ρ i p = some u) : gt (ρ ++ us) i p = some u ∧ ∀ w, pt (ρ ++ us) i p w = pt ρ i p w ++ us := by
  unfold gt at h
  cases e : ρ[i]? with
  | none => rw [e] at h; cases h
  | some t =>
  rw [e] at h
  refine ⟨by unfold gt; rw [ap_left e]; exact h, fun w => ?_⟩
  unfold pt
  rw [ap_left e, e]
  exact List.set_append_left _ _ (List.getElem?_eq_some_iff.mp e).1
/-- slot and entry exchange their trees -/
theorem En.xch {x : Option V} {a : Addr} {i i' : Nat} {p p' : List Nat} {u : T} (e : En Γ H σ (tv ++ (x :: xs)) ρ (tt ++ (.sh (.at a i' p') :: ts))) (l : tv.length = tt.length) (hg : gt ρ i p = some u) (ha : u.addr = some a) : En Γ H σ (tv ++ (x :: xs)) (pt ρ i p (.sh (.at a i p))) (tt ++ (u :: ts)) ∧ x = some (.ref a) := by
  have ok := e.ok
  have lx : xs.length = ts.length := by have := e.tlen l; simpa using this
  have rx := ok.rep ((σ ++ tv).length) x (.sh (.at a i' p')) (by rw [← List.append_assoc]; simp) (by rw [← List.append_assoc, show (σ ++ tv).length = (ρ ++ tt).length by simp [e.len, l]]; simp)
  have ex : x = some (.ref a) := by
    cases rx with
    | sh r => cases r; rfl
  refine ⟨⟨?_, by rw [pt_len]; exact e.len⟩, ex⟩
  have cnt : ∀ b, cn b (ownsL (pt ρ i p (.sh (.at a i p)) ++ (tt ++ (u :: ts)))) ≤ cn b (ownsL (ρ ++ (tt ++ (.sh (.at a i' p') :: ts)))) := fun b => by
    have h1 := pt_cn b (u' := .sh (.at a i p)) hg
    rw [cn_noT] at h1
    simp only [ownsL_append, cn_app, ownsL_cons, cn_noT]
    omega
  refine ok.swap (u := u) e.len hg (by simp [l, lx]) (fun b => ?_) (fun y r => ?_) (fun y r k z t h1 h2 => ?_)
  · simp only [ownsL_append, cn_app, ownsL_cons, cn_noT]
    omega
  · rw [(r.nd ha).1]
    exact .sh (.at a i p)
  · have tr : ∀ {z : Option V} {t : T}, R H (Av Γ (ownsL (ρ ++ (tt ++ (.sh (.at a i' p') :: ts))))) z t → R H (Av Γ (ownsL (pt ρ i p (.sh (.at a i p)) ++ (tt ++ (u :: ts))))) z t := fun r => r.mono (fun b o av hb => ⟨.of hb hb, av_le cnt av⟩) fun _ _ _ hb => hb
    rcases ap_cases h1 with h1 | ⟨j, rfl, hj⟩
    · have hk := (List.getElem?_eq_some_iff.mp h1).1
      rw [List.getElem?_append_left (by omega)] at h2
      exact tr (ok.rep (σ.length + k) z t (ap_right (ap_left h1)) (by rw [e.len]; exact ap_right (ap_left h2)))
    · rw [l, List.getElem?_append_right (by omega), Nat.add_sub_cancel_left] at h2
      cases j with
      | zero =>
        simp at hj h2
        subst hj h2
        rw [ex]
        rw [(r.nd ha).1] at r
        exact tr r
      | succ j =>
        rw [List.getElem?_cons_succ] at hj h2
        exact tr (ok.rep (σ.length + (tv.length + (j + 1))) z t (ap_right (ap_right (by rw [List.getElem?_cons_succ]; exact hj))) (by rw [e.len, l]; exact ap_right (ap_right (by rw [List.getElem?_cons_succ]; exact h2))))
/-- an entry's tree goes back into its slot -/
theorem En.back1 {a : Addr} {i i' : Nat} {p p' : List Nat} {u : T} (e : En Γ H σ (tv ++ (some (.ref a) :: xs)) ρ (tt ++ (u :: ts))) (l : tv.length = tt.length) (hg : gt ρ i p = some (.sh (.at a i' p'))) : En Γ H σ (tv ++ xs) (pt ρ i p u) (tt ++ ts) := by
  have ok := e.ok
  have lx : xs.length = ts.length := by have := e.tlen l; simpa using this
  refine ⟨?_, by rw [pt_len]; exact e.len⟩
  have cnt : ∀ b, cn b (ownsL (pt ρ i p u ++ (tt ++ ts))) ≤ cn b (ownsL (ρ ++ (tt ++ (u :: ts)))) := fun b => by
    have h1 := pt_cn b (u' := u) hg
    rw [cn_noT] at h1
    simp only [ownsL_append, cn_app, ownsL_cons]
    omega
  have tr : ∀ {z : Option V} {t : T}, R H (Av Γ (ownsL (ρ ++ (tt ++ (u :: ts))))) z t → R H (Av Γ (ownsL (pt ρ i p u ++ (tt ++ ts)))) z t := fun r => r.mono (fun b o av hb => ⟨.of hb hb, av_le cnt av⟩) fun _ _ _ hb => hb
  refine ok.swap (u := .sh (.at a i' p')) e.len hg (by simp [l, lx]) (fun b => ?_) (fun y r => ?_) (fun y r k z t h1 h2 => ?_)
  · simp only [ownsL_append, cn_app, ownsL_cons, cn_noT]
    omega
  · cases r with
    | sh r =>
    cases r
    exact tr (ok.rep ((σ ++ tv).length) (some (.ref a)) u (by rw [← List.append_assoc]; simp) (by rw [← List.append_assoc, show (σ ++ tv).length = (ρ ++ tt).length by simp [e.len, l]]; simp))
  · rcases ap_cases h1 with h1 | ⟨j, rfl, hj⟩
    · have hk := (List.getElem?_eq_some_iff.mp h1).1
      rw [List.getElem?_append_left (by omega)] at h2
      exact tr (ok.rep (σ.length + k) z t (ap_right (ap_left h1)) (by rw [e.len]; exact ap_right (ap_left h2)))
    · rw [l, List.getElem?_append_right (by omega), Nat.add_sub_cancel_left] at h2
      exact tr (ok.rep (σ.length + (tv.length + (j + 1))) z t (ap_right (ap_right (by rw [List.getElem?_cons_succ]; exact hj))) (by rw [e.len, l]; exact ap_right (ap_right (by rw [List.getElem?_cons_succ]; exact h2))))
theorem En.pubT {x : Option V} {t : T} {d : D} (e : En Γ H σ (tv ++ (x :: xs)) ρ (tt ++ (t :: ts))) (l : tv.length = tt.length) (h : t.pub = some d) : En Γ H σ (tv ++ (x :: xs)) ρ (tt ++ (.sh d :: ts)) := by
  refine ⟨?_, e.len⟩
  have := e.ok.pub (i := ρ.length + tt.length) (t := t) (d := d) (by rw [← List.append_assoc, List.getElem?_append_right (by simp)]; simp) h
  have e2 : (ρ ++ (tt ++ t :: ts)).set (ρ.length + tt.length) (.sh d) = ρ ++ (tt ++ (.sh d :: ts)) := by
    rw [List.set_append_right _ _ (by omega), Nat.add_sub_cancel_left, List.set_append_right _ _ (Nat.le_refl _), Nat.sub_self, List.set_cons_zero]
  rw [e2] at this
  exact this
end
theorem LendL.run {ρ ρ' : Env} {ts ts' : List T} {ls : List (Option (Nat × List Nat × Addr))} (h : LendL ρ ts ρ' ts' ls) : ∀ {Γ : Cg} {H : Hp} {σ : L2.St} {tv xs : List (Option V)} {tt : List T}, En Γ H σ (tv ++ xs) ρ (tt ++ ts) → tv.length = tt.length →
    En Γ H σ (tv ++ xs) ρ' (tt ++ ts') ∧ ls.length = xs.length ∧ ∀ (k : Nat) (i : Nat) (p : List Nat) (a : Addr), ls[k]? = some (some (i, p, a)) → xs[k]? = some (some (.ref a)) := by
  induction h with
  | nil ρ =>
    intro Γ H σ tv xs tt e l
    have : xs = [] := List.eq_nil_of_length_eq_zero (by simpa using e.tlen l)
    subst this
    exact ⟨e, rfl, fun k i p a h => by simp at h⟩
  | @keep ρ ρ' t ts ts' ls h ih =>
    intro Γ H σ tv xs tt e l
    cases xs with
    | nil => have := e.tlen l; simp at this
    | cons x xs =>
    obtain ⟨e1, l1, g⟩ := ih (tv := tv ++ [x]) (xs := xs) (tt := tt ++ [t]) (by simpa only [List.append_assoc, List.singleton_append] using e) (by simp [l])
    refine ⟨by simpa only [List.append_assoc, List.singleton_append] using e1, by simp [l1], fun k i p a h => ?_⟩
    cases k with
    | zero => simp at h
    | succ k => rw [List.getElem?_cons_succ] at h ⊢; exact g k i p a h
  | @lend ρ ρ' u ts ts' ls a i p h1 h2 h ih =>
    intro Γ H σ tv xs tt e l
    cases xs with
    | nil => have := e.tlen l; simp at this
    | cons x xs =>
    obtain ⟨e0, ex⟩ := e.xch l h1 h2
    obtain ⟨e1, l1, g⟩ := ih (tv := tv ++ [x]) (xs := xs) (tt := tt ++ [u]) (by simpa only [List.append_assoc, List.singleton_append] using e0) (by simp [l])
    refine ⟨by simpa only [List.append_assoc, List.singleton_append] using e1, by simp [l1], fun k i' p' a' h => ?_⟩
    cases k with
    | zero => simp at h; obtain ⟨_, _, rfl⟩ := h; rw [ex]; rfl
    | succ k => rw [List.getElem?_cons_succ] at h ⊢; exact g k i' p' a' h
  | @pub ρ ρ' t d ts ts' ls h0 h ih =>
    intro Γ H σ tv xs tt e l
    cases xs with
    | nil => have := e.tlen l; simp at this
    | cons x xs =>
    have e0 := e.pubT l h0
    obtain ⟨e1, l1, g⟩ := ih (tv := tv ++ [x]) (xs := xs) (tt := tt ++ [.sh d]) (by simpa only [List.append_assoc, List.singleton_append] using e0) (by simp [l])
    refine ⟨by simpa only [List.append_assoc, List.singleton_append] using e1, by simp [l1], fun k i p a h => ?_⟩
    cases k with
    | zero => simp at h
    | succ k => rw [List.getElem?_cons_succ] at h ⊢; exact g k i p a h
theorem BackL.run {ρ ρ' : Env} {us : List T} {ls : List (Option (Nat × List Nat × Addr))} (h : BackL ρ ls us ρ') : ∀ {Γ : Cg} {H : Hp} {σ : L2.St} {tv xs ys : List (Option V)} {tt ws : List T}, En Γ H σ (tv ++ (xs ++ ys)) ρ (tt ++ (us ++ ws)) → tv.length = tt.length → xs.length = us.length → (∀ (k : Nat) (i : Nat) (p : List Nat) (a : Addr), ls[k]? = some (some (i, p, a)) → xs[k]? = some (some (.ref a))) → En Γ H σ (tv ++ ys) ρ' (tt ++ ws) := by
  induction h with
  | nil ρ =>
    intro Γ H σ tv xs ys tt ws e l lx g
    have : xs = [] := List.eq_nil_of_length_eq_zero lx
    subst this
    exact e
  | @skip ρ ρ' t ts ls h ih =>
    intro Γ H σ tv xs ys tt ws e l lx g
    cases xs with
    | nil => simp at lx
    | cons x xs =>
    refine ih (xs := xs) (ys := ys) ?_ l (by simpa using lx) fun k i p a h => by have := g (k + 1) i p a (by rw [List.getElem?_cons_succ]; exact h); rw [List.getElem?_cons_succ] at this; exact this
    exact En.mid (tv := tv) (ys := [x]) (us := [t]) (by simpa only [List.append_assoc, List.singleton_append, List.cons_append, List.nil_append] using e) l rfl
  | @put ρ ρ' t ts ls a i i' p p' h1 h ih =>
    intro Γ H σ tv xs ys tt ws e l lx g
    cases xs with
    | nil => simp at lx
    | cons x xs =>
    have ex : x = some (.ref a) := by have := g 0 i p a rfl; simpa using this
    subst ex
    refine ih (xs := xs) (ys := ys) ?_ l (by simpa using lx) fun k i p a h => by have := g (k + 1) i p a (by rw [List.getElem?_cons_succ]; exact h); rw [List.getElem?_cons_succ] at this; exact this
    exact En.back1 (xs := xs ++ ys) (ts := ts ++ ws) (by simpa only [List.cons_append] using e) l h1
/-- what a tree reads as, own parts that stand elsewhere read too -/
inductive Deep (ρ : Env) : T → D → Prop
  | pub {t : T} {d : D} : t.pub = some d → Deep ρ t d
  | at {a : Addr} {i : Nat} {p : List Nat} {u : T} {d : D} : gt ρ i p = some u → u.addr = some a → u.pub = some d → Deep ρ (.sh (.at a i p)) d
  | lst {a : Addr} {xs : List T} {ds : List D} : xs.length = ds.length → (∀ (k : Nat) (t : T) (d : D), xs[k]? = some t → ds[k]? = some d → Deep ρ t d) → Deep ρ (.lst a xs) (.lst ds)
theorem R.addr_eq {A : Addr → Prop} {y : Option V} {u : T} {a : Addr} (r : R H A y u) (ha : u.addr = some a) : y = some (.ref a) := by
  cases r <;> simp only [T.addr, Option.some.injEq, reduceCtorEq] at ha <;> subst ha <;> rfl
theorem Deep.rd {xs0 : List (Option V)} {us : List T} (ok : Ok Γ H xs0 (ρ ++ us)) {t : T} {d : D} (h : Deep ρ t d) : ∀ {x : Option V} {A : Addr → Prop}, R H A x t → ∃ v, x = some v ∧ RD H (fun _ => True) v d := by
  induction h with
  | pub hp => exact fun r => r.pub (fun _ _ => trivial) hp fun _ _ => trivial
  | «at» h1 h2 h3 =>
    intro x A r
    cases r with
    | sh r =>
    cases r
    obtain ⟨y, r2⟩ := ok.at (gt_app h1).1
    have ey := R.addr_eq r2 h2
    subst ey
    exact r2.pub (fun _ _ => trivial) h3 fun _ _ => trivial
  | lst l _ ih =>
    intro x A r
    cases r with
    | lst e l2 g =>
    refine ⟨_, rfl, .lst e trivial (l2.trans l) fun k v d hv hd => ?_⟩
    obtain ⟨t, ht⟩ := get_of_len l hd
    obtain ⟨v', ev, r'⟩ := ih k t d ht hd (g k v t hv ht)
    cases ev
    exact r'
def callK (S : SpecD) (ρ : Env) (ts : List T) (Q : T → Env → Prop) : Prop := ∃ ds : List D, ts.length = ds.length ∧ (∀ (k : Nat) (t : T) (d : D), ts[k]? = some t → ds[k]? = some d → Deep ρ t d) ∧ S (ds.map T.sh) (fun t _ => ∃ b, t = .sh (.bl b) ∧ Q t ρ) (fun _ _ _ _ => False)
theorem callK_run {c : Bool} {Γ : Cg} {H : Hp} {σ : L2.St} {tv : List (Option V)} {ρ : Env} {tt : List T} {vs : List V} {ts : List T} {S : SpecD} {Q1 : T → Env → Prop} {Q : VK} {E : XK} (e : En Γ H σ (tv ++ vs.map some) ρ (tt ++ ts)) (l : tv.length = tt.length) (hcal : c = true → Calm Γ.H0) (cw : callK S ρ ts Q1)
    (hq : ∀ t ρ' v H', Q1 t ρ' → En Γ H' σ (tv ++ [some v]) ρ' (tt ++ [t]) → Q v H') : spD c S vs H Q E := by
  obtain ⟨ds, hl, hd, s⟩ := cw
  have lv := e.tlen l
  rw [List.length_map] at lv
  have av : ∀ a, Av ⟨H, fun _ => True, fun _ => False⟩ (ownsL (ds.map T.sh)) a := fun a => ⟨.inl (.inl trivial), by rw [ownsL_sh]; exact List.not_mem_nil⟩
  refine ⟨fun _ => True, fun _ => False, ds.map T.sh, _, _, fun z => e.ok.calm (hcal z), ⟨by rw [List.length_map, List.length_map]; omega, fun k x t h1 h2 => ?_, fun a => by rw [ownsL_sh]; exact Nat.zero_le _, (fun a m => by rw [ownsL_sh] at m; cases m), Fr.refl H, fun a o kvs h => h⟩, s, fun t us v H' ⟨b, et, q⟩ ok => ?_, fun C d fl ds us H' f ok => f.elim⟩
  · rw [List.getElem?_map] at h2
    cases hk : ds[k]? with
    | none => rw [hk] at h2; cases h2
    | some d =>
      rw [hk] at h2
      cases h2
      obtain ⟨t0, ht⟩ := get_of_len hl hk
      have r0 := e.ok.rep (σ.length + (tv.length + k)) x t0 (ap_right (ap_right h1)) (by rw [e.len, l]; exact ap_right (ap_right ht))
      obtain ⟨v, ev, r⟩ := (hd k t0 d ht hk).rd e.ok r0
      subst ev
      exact .sh (r.mono fun a o _ e => ⟨.of e e, av a⟩)
  · subst et
    have lu := ok.len
    rw [List.length_append, List.length_append] at lu
    have rl := ok.rep (vs.map some).length (some v) (.sh (.bl b)) (ap_right (k := 0) rfl) (by
      have : (vs.map some).length = us.length := by simpa using lu
      rw [this]
      exact ap_right (k := 0) rfl)
    cases rl with
    | sh rl =>
    cases rl
    have e0 := e.drop l
    refine hq _ ρ _ H' q (En.push ⟨Ok.next (fun _ => False) e0.ok e0.ok.len (fun a f => f.elim) (fun a o h _ => ok.fr.keep a o h id) ok.fr.free ok.nf (fun a m => .inl m) e0.ok.nd fun k x t h1 h2 => .inl ⟨k, h1, h2, fun _ _ f => f⟩, e0.len⟩ (.bl b))
def callW (S : SpecD) (χ : XD) (ρ : Env) (ts : List T) (Q : T → Env → Prop) : Prop := (∃ ρ2 ts2 ls, LendL ρ ts ρ2 ts2 ls ∧ S ts2 (fun t us => ∃ ρ3, BackL ρ2 ls us ρ3 ∧ Q t ρ3) (fun C fl ds us => ∃ ρ3, BackL ρ2 ls us ρ3 ∧ χ C fl ds ρ3)) ∨ callK S ρ ts Q
theorem callW_run {c : Bool} {Γ : Cg} {H : Hp} {σ : L2.St} {tv : List (Option V)} {ρ : Env} {tt : List T} {vs : List V} {ts : List T} {S : SpecD} {χ : XD} {Q1 : T → Env → Prop} {Q : VK} {E : XK} (e : En Γ H σ (tv ++ vs.map some) ρ (tt ++ ts)) (l : tv.length = tt.length) (hcal : c = true → Calm Γ.H0) (cw : callW S χ ρ ts Q1)
    (hq : ∀ t ρ' v H', Q1 t ρ' → En Γ H' σ (tv ++ [some v]) ρ' (tt ++ [t]) → Q v H')
    (hx : ∀ C d fl ds ρ' H', χ C fl ds ρ' → En Γ H' σ (tv ++ [some (.ref 0)]) ρ' (tt ++ [.sh (.exc C d fl ds)]) → E (.ref C) (some d) H') : spD c S vs H Q E := by
  rcases cw with cw | cw
  rotate_left
  · exact callK_run e l hcal cw hq
  obtain ⟨ρ2, ts2, ls, hl, s⟩ := cw
  obtain ⟨e2, ll, g⟩ := hl.run e l
  have lv := e2.tlen l
  refine call_run e2 l hcal s (fun t us v H' ⟨ρ3, b, q⟩ e3 => ?_) (fun C d fl ds us H' ⟨ρ3, b, q⟩ e3 => ?_)
  · have lu : (vs.map some).length = us.length := by have := e3.tlen l; simpa using this
    exact hq t ρ3 v H' q (b.run e3 l lu g)
  · have lu : (vs.map some).length = us.length := by have := e3.tlen l; simpa using this
    exact hx C d fl ds ρ3 H' q (b.run e3 l lu g)
end E
namespace E
open PySem PySem.Spec PyProof.Rows L2 G
/-- the tree that a value stands for -/
def Rs (ρ : Env) (t u : T) : Prop := match t with
  | .sh (.at a i p) => gt ρ i p = some u ∧ u.addr = some a
  | t => t = u
theorem En.entry {Γ : Cg} {H : Hp} {σ : L2.St} {tv xs : List (Option V)} {ρ : Env} {tt ts : List T} {k : Nat} {x : Option V} {t : T} (e : En Γ H σ (tv ++ xs) ρ (tt ++ ts)) (l : tv.length = tt.length) (h1 : xs[k]? = some x) (h2 : ts[k]? = some t) : R H (Av Γ (ownsL (ρ ++ (tt ++ ts)))) x t :=
  e.ok.rep (σ.length + (tv.length + k)) x t (ap_right (ap_right h1)) (by rw [e.len, l]; exact ap_right (ap_right h2))
theorem Rs.rep {Γ : Cg} {H : Hp} {σ : L2.St} {tv : List (Option V)} {ρ : Env} {tt : List T} {x : Option V} {t u : T} (e : En Γ H σ tv ρ tt) (r : R H (Av Γ (ownsL (ρ ++ tt))) x t) (h : Rs ρ t u) : R H (Av Γ (ownsL (ρ ++ tt))) x u := by
  unfold Rs at h
  split at h
  · obtain ⟨h1, h2⟩ := h
    obtain ⟨y, ry⟩ := e.ok.at (gt_app (us := tt) h1).1
    obtain ⟨ey, _⟩ := ry.nd h2
    cases r with
    | sh r =>
    cases r
    rw [ey] at ry
    exact ry
  · rw [← h]; exact r
def T.cls : T → Option (Addr × List Str)
  | .obj _ C fs _ => some (C, fs)
  | .sh (.obj C fs _) => some (C, fs)
  | _ => none
theorem R.cls {H : Hp} {A : Addr → Prop} {v : V} {u : T} {C : Addr} {fs : List Str} (r : R H A (some v) u) (h : u.cls = some (C, fs)) : ∃ a dx fvs, v = .ref a ∧ H a = some (.ins C dx fvs) ∧ fvs.map Prod.fst = fs := by
  cases r with
  | sh r =>
    cases r with
    | obj e _ _ _ => cases h; exact ⟨_, _, _, rfl, e, rfl⟩
    | _ => cases h
  | obj e _ _ => cases h; exact ⟨_, _, _, rfl, e, rfl⟩
  | _ => cases h
theorem lookup_none {α : Type} {m : Str} : ∀ {fvs : List (Str × α)}, (fvs.map Prod.fst).contains m = false → fvs.lookup m = none
  | [], _ => rfl
  | (k, v) :: r, h => by
    simp only [List.map_cons, List.contains_cons, Bool.or_eq_false_iff] at h
    rw [List.lookup_cons, h.1]
    exact lookup_none h.2
section
variable {W : Wx}
def wCall (S : SpecD) (wr : WA) : WE := fun χ ρ Q => wr χ ρ fun ts ρ1 => callW S χ ρ1 ts Q
def wCall0 (S : SpecD) (wr : WA) : WE := fun χ ρ Q => wr χ ρ fun ts ρ1 => callW S noX ρ1 ts Q
theorem rf_cl {c : Bool} {S : SpecD} {E : XK} {t : TA} {wr : WA} (hc : c = true → W.c = true) (hE : ∀ cls d σ H, W.x cls d σ H → E cls d H) (ha : RfA W t wr) : Rf W (tCl (spD c S) E t) (wCall S wr) := fun σ H Q ⟨Γ, tv, ρ, tt, χ, Q1, e, h, x, k⟩ => by
  refine ha σ H _ ⟨Γ, tv, ρ, tt, χ, _, e, h, x, fun ts ρ1 vs H1 h1 e1 => ?_⟩
  exact callW_run e1 e.tl (fun z => x.1 (hc z)) h1 k fun C d fl ds ρ' H' c e' => hE _ _ σ _ (x.2 C d fl ds ρ' H' c e')
theorem rf_cl0 {c : Bool} {S : SpecD} {t : TA} {wr : WA} (hc : c = true → W.c = true) (ha : RfA W t wr) : Rf W (tCl (spD c S) E0 t) (wCall0 S wr) := fun σ H Q ⟨Γ, tv, ρ, tt, χ, Q1, e, h, x, k⟩ => by
  refine ha σ H _ ⟨Γ, tv, ρ, tt, χ, _, e, h, x, fun ts ρ1 vs H1 h1 e1 => ?_⟩
  exact callW_run e1 e.tl (fun z => x.1 (hc z)) h1 k fun C d fl ds ρ' H' c e' => c.elim
def Recv (C : Addr) (m : Str) (ρ : Env) (t : T) : Prop := ∃ u, Rs ρ t u ∧ ∃ fs, u.cls = some (C, fs) ∧ fs.contains m = false
def wMeth (C : Addr) (m : Str) (S : SpecD) (wa : WE) (wr : WA) : WE := fun χ ρ Q => wa χ ρ fun t0 ρ1 => Recv C m ρ1 t0 ∧ wr χ ρ1 fun ts ρ2 => callW S χ ρ2 (t0 :: ts) Q
def wMeth0 (C : Addr) (m : Str) (S : SpecD) (wa : WE) (wr : WA) : WE := fun χ ρ Q => wa χ ρ fun t0 ρ1 => Recv C m ρ1 t0 ∧ wr χ ρ1 fun ts ρ2 => callW S noX ρ2 (t0 :: ts) Q
theorem Recv.run {C : Addr} {m : Str} {Γ : Cg} {H : Hp} {σ : L2.St} {tv : List (Option V)} {ρ : Env} {tt : List T} {v : V} {t : T} (e : En Γ H σ (tv ++ [some v]) ρ (tt ++ [t])) (h : Recv C m ρ t) : ∃ a dx fs, v = .ref a ∧ H a = some (.ins C dx fs) ∧ fs.lookup m = none := by
  obtain ⟨u, hr, fs, hc, hm⟩ := h
  obtain ⟨a, dx, fvs, ev, ea, ef⟩ := (Rs.rep e e.last hr).cls hc
  exact ⟨a, dx, fvs, ev, ea, lookup_none (by rw [ef]; exact hm)⟩
theorem rf_mt {c : Bool} {C : Addr} {m : Str} {S : SpecD} {E : XK} {ta : TE} {t : TA} {wa : WE} {wr : WA} (hc : c = true → W.c = true) (hE : ∀ cls d σ H, W.x cls d σ H → E cls d H) (ha : Rf W ta wa) (hr : RfA W t wr) : Rf W (tMt C m (spD c S) E ta t) (wMeth C m S wa wr) := fun σ H Q ⟨Γ, tv, ρ, tt, χ, Q1, e, h, x, k⟩ => by
  refine ha σ H _ ⟨Γ, tv, ρ, tt, χ, _, e, h, x, fun t0 ρ1 v0 H1 ⟨h0, h1⟩ e1 => ?_⟩
  obtain ⟨a, dx, fs, ev, ea, el⟩ := h0.run e1
  refine ⟨a, dx, fs, ev, ea, el, hr σ H1 _ ⟨Γ, _, ρ1, _, χ, _, e1, h1, x.deep e.tl rfl, fun ts ρ2 vs H2 h2 e2 => ?_⟩⟩
  exact callW_run (vs := v0 :: vs) (ts := t0 :: ts) (by rw [List.append_assoc, List.append_assoc] at e2; exact e2) e.tl (fun z => x.1 (hc z)) h2 k fun C d fl ds ρ' H' c e' => hE _ _ σ _ (x.2 C d fl ds ρ' H' c e')
theorem rf_mt0 {c : Bool} {C : Addr} {m : Str} {S : SpecD} {ta : TE} {t : TA} {wa : WE} {wr : WA} (hc : c = true → W.c = true) (ha : Rf W ta wa) (hr : RfA W t wr) : Rf W (tMt C m (spD c S) E0 ta t) (wMeth0 C m S wa wr) := fun σ H Q ⟨Γ, tv, ρ, tt, χ, Q1, e, h, x, k⟩ => by
  refine ha σ H _ ⟨Γ, tv, ρ, tt, χ, _, e, h, x, fun t0 ρ1 v0 H1 ⟨h0, h1⟩ e1 => ?_⟩
  obtain ⟨a, dx, fs, ev, ea, el⟩ := h0.run e1
  refine ⟨a, dx, fs, ev, ea, el, hr σ H1 _ ⟨Γ, _, ρ1, _, χ, _, e1, h1, x.deep e.tl rfl, fun ts ρ2 vs H2 h2 e2 => ?_⟩⟩
  exact callW_run (vs := v0 :: vs) (ts := t0 :: ts) (by rw [List.append_assoc, List.append_assoc] at e2; exact e2) e.tl (fun z => x.1 (hc z)) h2 k fun C d fl ds ρ' H' c e' => c.elim
/-- C(..): a new object, given to __init__ -/
def wMake (C : Addr) (S : SpecD) (wr : WA) : WE := fun χ ρ Q => wr χ ρ fun ts ρ1 => ∀ a, ∃ ρ2 ts2 ls, LendL ρ1 ts ρ2 ts2 ls ∧ S (.obj a C [] [] :: ts2) (fun t us => t = .sh .non ∧ ∃ u us' ρ3, us = u :: us' ∧ BackL ρ2 ls us' ρ3 ∧ Q u ρ3) (fun C fl ds us => ∃ u us' ρ3, us = u :: us' ∧ BackL ρ2 ls us' ρ3 ∧ χ C fl ds ρ3)
theorem Ok.rot {Γ : Cg} {H : Hp} {xs ys : List (Option V)} {ts us : List T} {x : Option V} {t : T} (ok : Ok Γ H (xs ++ (ys ++ [x])) (ts ++ (us ++ [t]))) (len : xs.length = ts.length) (ly : ys.length = us.length) : Ok Γ H (xs ++ (x :: ys)) (ts ++ (t :: us)) := by
  refine ok.re (by simp [len, ly]) (fun b => by simp only [ownsL_append, ownsL_cons, ownsL_nil, cn_app, List.append_nil]; omega) fun k y u h1 h2 => .inl ?_
  rcases ap_cases h1 with h1 | ⟨j, rfl, hj⟩
  · have hk := (List.getElem?_eq_some_iff.mp h1).1
    rw [List.getElem?_append_left (by omega)] at h2
    exact ⟨k, ap_left h1, ap_left h2⟩
  · rw [len, List.getElem?_append_right (by omega), Nat.add_sub_cancel_left] at h2
    cases j with
    | zero =>
      simp at hj h2
      subst hj h2
      exact ⟨xs.length + (ys.length + 0), ap_right (ap_right (k := 0) rfl), by rw [len, ly]; exact ap_right (ap_right (k := 0) rfl)⟩
    | succ j =>
      rw [List.getElem?_cons_succ] at hj h2
      exact ⟨xs.length + j, ap_right (ap_left hj), by rw [len]; exact ap_right (ap_left h2)⟩
theorem rf_mk {c : Bool} {C : Addr} {S : SpecD} {E : XK} {t : TA} {wr : WA} (hc : c = true → W.c = true) (hE : ∀ cls d σ H, W.x cls d σ H → E cls d H) (hr : RfA W t wr) : Rf W (tMk C (spD c S) E t) (wMake C S wr) := fun σ H Q ⟨Γ, tv, ρ, tt, χ, Q1, e, h, x, k⟩ => by
  refine hr σ H _ ⟨Γ, tv, ρ, tt, χ, _, e, h, x, fun ts ρ1 vs H1 h1 e1 => ?_⟩
  intro p dx hp hdx ne
  obtain ⟨ρ2, ts2, ls, hl, s⟩ := h1 p
  obtain ⟨e2, ll, g⟩ := hl.run e1 e.tl
  have lv := e2.tlen e.tl
  have e3 : Ok Γ (upd (upd H1 dx (.own p)) p (.ins C dx [])) ((σ ++ (tv ++ vs.map some)) ++ [some (.ref p)]) ((ρ2 ++ (tt ++ ts2)) ++ [.obj p C [] []]) := by
    refine Ok.alloc (ys := []) (us := []) (u := .obj p C [] []) (vs := []) (by rw [List.append_nil, List.append_nil]; exact e2.ok) e2.ok.len hp (fun a o z => ?_) (fun a z => ?_) (fun a o kvs z => nofrz (by intro o kvs z; cases z) a o kvs (nofrz (by intro o kvs z; cases z) a o kvs z)) (.obj (fvs := [])) upd_same rfl (fun b => Nat.le_refl _) (fun j v t h2 => by simp at h2)
    · rw [upd_ne (ne_of_none z hp), upd_ne (ne_of_none z hdx)]; exact z
    · by_cases q : a = p
      · rw [q]; exact hp
      · rw [upd_ne q] at z
        by_cases q2 : a = dx
        · rw [q2]; exact hdx
        · rw [upd_ne q2] at z; exact z
  have e4 : En Γ (upd (upd H1 dx (.own p)) p (.ins C dx [])) σ (tv ++ (V.ref p :: vs).map some) ρ2 (tt ++ (.obj p C [] [] :: ts2)) := by
    refine .of (Ok.rot (ys := vs.map some) (us := ts2) ?_ (e2.l2 lv) lv) e2.len
    simpa only [List.append_assoc] using e3
  show spD c S (V.ref p :: (vs ++ [])) _ _ E
  rw [List.append_nil]
  refine call_run e4 e.tl (fun z => x.1 (hc z)) s (fun t us v H' ⟨et, u, us', ρ3, eu, b, q⟩ e5 => ?_) (fun C' d fl ds us H' ⟨u, us', ρ3, eu, b, q⟩ e5 => ?_)
  · subst et eu
    have e5' : En Γ H' σ ((tv ++ [some (.ref p)]) ++ (vs.map some ++ [some v])) ρ2 ((tt ++ [u]) ++ (us' ++ [.sh .non])) := by simpa only [List.append_assoc, List.map_cons, List.cons_append, List.nil_append] using e5
    have lu : (vs.map some).length = us'.length := by have := e5'.tlen (by simp [e.tl]); simpa using this
    have e6 := b.run e5' (by simp [e.tl]) lu g
    have rv := e6.last
    cases rv with
    | sh rv =>
    cases rv
    exact ⟨rfl, k u ρ3 _ H' q (e6.drop (by simp [e.tl]))⟩
  · subst eu
    have e5' : En Γ H' σ ((tv ++ [some (.ref p)]) ++ (vs.map some ++ [some (.ref 0)])) ρ2 ((tt ++ [u]) ++ (us' ++ [.sh (.exc C' d fl ds)])) := by simpa only [List.append_assoc, List.map_cons, List.cons_append, List.nil_append] using e5
    have lu : (vs.map some).length = us'.length := by have := e5'.tlen (by simp [e.tl]); simpa using this
    have e6 := b.run e5' (by simp [e.tl]) lu g
    exact hE _ _ σ _ (x.2 C' d fl ds ρ3 H' q (e6.mid e.tl rfl))
end
structure Wk (Γ : Cg) (tv xv : List (Option V)) (tt xt : List T) (P : Env → Prop) (J : It) (its : List T) : Prop where
  go : ∀ i H σ ρ, i < its.length → P ρ → En Γ H σ (tv ++ xv) ρ (tt ++ xt) → J.go i H
  stop : ∀ H σ ρ, P ρ → En Γ H σ (tv ++ xv) ρ (tt ++ xt) → J.stop its.length H
  yld : ∀ i H σ ρ x H' zs ws, i < its.length → P ρ → En Γ H σ (tv ++ (xv ++ zs)) ρ (tt ++ (xt ++ ws)) → J.yld i H x H' → ∃ t, its[i]? = some t ∧ En Γ H' σ ((tv ++ (xv ++ zs)) ++ [some x]) ρ ((tt ++ (xt ++ ws)) ++ [t])
abbrev WI := XD → Env → (List T → (Env → Prop) → Env → Prop) → Prop
def RfI (W : Wx) (wi : TI) (w : WI) : Prop := ∀ σ H (Rr : It → Hp → Prop), (∃ (Γ : Cg) (tv : List (Option V)) (ρ : Env) (tt : List T) (χ : XD) (Q1 : List T → (Env → Prop) → Env → Prop), En Γ H σ tv ρ tt ∧ w χ ρ Q1 ∧ XOk W Γ tv tt σ χ ∧
  ∀ its P ρ' H' J xv xt, Q1 its P ρ' → En Γ H' σ (tv ++ xv) ρ' (tt ++ xt) → xv.length = xt.length → Wk Γ tv xv tt xt P J its → Rr J H') → wi σ H Rr
def wFor (wi : WI) (g : WG) (b : WS) : WS := fun k ρ => wi k.xc ρ fun its P ρ1 => ∃ I : Nat → Env → Prop, I 0 ρ1 ∧ (∀ i ρ2, I i ρ2 → P ρ2) ∧
  (∀ (i : Nat) (t : T) (ρ2 : Env), its[i]? = some t → I i ρ2 → g t ρ2 fun ρ3 => b { k with nx := fun ρ' => ∃ ρ4, Pubs ρ' ρ4 ∧ I (i + 1) ρ4, ct := fun ρ' => ∃ ρ4, Pubs ρ' ρ4 ∧ I (i + 1) ρ4, bk := k.nx } ρ3) ∧ ∀ ρ2, I its.length ρ2 → k.nx ρ2
theorem rfs_for {W : Wx} {bs : List Nat} {wi : TI} {g : TG} {tb : TS} {w : WI} {wg : WG} {wb : WS} (hi : RfI W wi w) (hg : RfG (fun k => k ∈ bs) g wg) (hb : RfS bs W tb wb) : RfS bs W (tFor wi g tb) (wFor w wg wb) := fun D σ H ⟨Γ, tv, ρ, tt, k, e, h, o⟩ => by
  refine hi σ H _ ⟨Γ, tv, ρ, tt, k.xc, _, e, h, o.x, fun its P ρ1 H1 J xv xt ⟨I, i0, hP, turn, fin⟩ e1 lx wk => ?_⟩
  have l := e.tl
  refine ⟨fun i m σ' H' => m = its.length - i ∧ i ≤ its.length ∧ ∃ ρ', I i ρ' ∧ Pn bs σ σ' ∧ En Γ H' σ' (tv ++ xv) ρ' (tt ++ xt), ⟨its.length, by simp, Nat.zero_le _, ρ1, i0, .refl _ _, e1⟩, ?_⟩
  rintro i m σ' H' ⟨rfl, hil, ρ', hI, hp, e2⟩
  by_cases hlt : i < its.length
  · refine .inr ⟨wk.go i H' σ' ρ' hlt (hP i ρ' hI) e2, fun σ2 H2 => ∃ ρ2, I (i + 1) ρ2 ∧ Pn bs σ σ2 ∧ En Γ H2 σ2 (tv ++ xv) ρ2 (tt ++ xt), fun σ2 H2 ⟨ρ2, h2, p2, e3⟩ => ⟨its.length - (i + 1), by omega, rfl, hlt, ρ2, h2, p2, e3⟩, fun x H2 y => ?_⟩
    obtain ⟨t, ht, e3⟩ := wk.yld i H' σ' ρ' x H2 [] [] hlt (hP i ρ' hI) (by rw [List.append_nil, List.append_nil]; exact e2) y
    rw [List.append_nil, List.append_nil] at e3
    refine hg Γ H2 σ' (tv ++ xv) ρ' (tt ++ xt) x t _ _ e3 (by simp [l, lx]) (turn i t ρ' ht hI) fun ρ3 σ3 H3 h3 p3 _ e4 => ?_
    have p3' : Pn bs σ σ3 := hp.trans fun j hj => p3 j hj
    refine hb _ σ3 H3 ⟨Γ, _, ρ3, _, _, e4, h3, ?_⟩
    exact ⟨fun ρ4 σ4 H4 ⟨ρ5, pb, h4⟩ p4 e5 => ⟨ρ5, h4, p3'.trans p4, e5.pubs pb⟩, fun t ρ4 v σ4 H4 h4 p4 e5 => o.rt t ρ4 v σ4 H4 h4 (p3'.trans p4) (e5.mid l lx), fun ρ4 σ4 H4 h4 p4 e5 => o.nx ρ4 σ4 H4 h4 (p3'.trans p4) (e5.drop l), fun ρ4 σ4 H4 ⟨ρ5, pb, h4⟩ p4 e5 => ⟨ρ5, h4, p3'.trans p4, e5.pubs pb⟩, fun C d fl ds ρ4 σ4 H4 h4 p4 e5 => o.xc C d fl ds ρ4 σ4 H4 h4 (p3'.trans p4) (e5.mid l lx), o.cal⟩
  · have : i = its.length := by omega
    subst this
    exact .inl ⟨wk.stop H' σ' ρ' (hP _ ρ' hI) e2, o.nx ρ' σ' H' (fin ρ' hI) hp (e2.drop l)⟩
def wWhile (c : WT) (b : WS) : WS := fun k ρ => ∃ I : Nat → Env → Prop, (∃ m, I m ρ) ∧ ∀ m ρ1, I m ρ1 → c k.xc ρ1 fun x ρ2 => if x = true then b { k with nx := fun ρ' => ∃ ρ4, Pubs ρ' ρ4 ∧ ∃ m', m' < m ∧ I m' ρ4, ct := fun ρ' => ∃ ρ4, Pubs ρ' ρ4 ∧ ∃ m', m' < m ∧ I m' ρ4, bk := k.nx } ρ2 else k.nx ρ2
theorem rfs_while {W : Wx} {bs : List Nat} {c : TT} {tb : TS} {wc : WT} {wb : WS} (hc : RfT W c wc) (hb : RfS bs W tb wb) : RfS bs W (tWhile c tb) (wWhile wc wb) := fun D σ H ⟨Γ, tv, ρ, tt, k, e, ⟨I, ⟨m0, i0⟩, turn⟩, o⟩ => by
  refine ⟨fun m σ' H' => ∃ ρ', I m ρ' ∧ Pn bs σ σ' ∧ En Γ H' σ' tv ρ' tt, ⟨m0, ρ, i0, .refl _ _, e⟩, ?_⟩
  rintro m σ' H' ⟨ρ', hI, hp, e2⟩
  refine hc σ' H' _ ⟨Γ, tv, ρ', tt, k.xc, _, e2, turn m ρ' hI, (o.at hp).x, fun b ρ2 H2 h2 e3 => ?_⟩
  cases b with
  | true =>
    refine iteT ⟨fun σ2 H2 => ∃ m', m' < m ∧ ∃ ρ2, I m' ρ2 ∧ Pn bs σ σ2 ∧ En Γ H2 σ2 tv ρ2 tt, fun σ2 H2 ⟨m', hm, h⟩ => ⟨m', hm, h⟩, hb _ σ' H2 ⟨Γ, tv, ρ2, tt, _, e3, h2, ?_⟩⟩
    exact ⟨fun ρ4 σ4 H4 ⟨ρ5, pb, m', hm, h4⟩ p4 e5 => ⟨m', hm, ρ5, h4, hp.trans p4, e5.pubs pb⟩, fun t ρ4 v σ4 H4 h4 p4 e5 => o.rt t ρ4 v σ4 H4 h4 (hp.trans p4) e5, fun ρ4 σ4 H4 h4 p4 e5 => o.nx ρ4 σ4 H4 h4 (hp.trans p4) e5, fun ρ4 σ4 H4 ⟨ρ5, pb, m', hm, h4⟩ p4 e5 => ⟨m', hm, ρ5, h4, hp.trans p4, e5.pubs pb⟩, fun C d fl ds ρ4 σ4 H4 h4 p4 e5 => o.xc C d fl ds ρ4 σ4 H4 h4 (hp.trans p4) e5, o.cal⟩
  | false => exact iteF (o.nx ρ2 σ' H2 h2 hp e3)
end E
namespace E
open PySem PySem.Spec PyProof.Rows L2 G
theorem En.two {Γ : Cg} {H : Hp} {σ : L2.St} {tv : List (Option V)} {ρ : Env} {tt : List T} {v1 v2 : V} {t1 t2 : T} (e : En Γ H σ (tv ++ [v1, v2].map some) ρ (tt ++ [t1, t2])) (l : tv.length = tt.length) : R H (Av Γ (ownsL (ρ ++ (tt ++ [t1, t2])))) (some v1) t1 ∧ R H (Av Γ (ownsL (ρ ++ (tt ++ [t1, t2])))) (some v2) t2 :=
  ⟨e.entry l (k := 0) rfl rfl, e.entry l (k := 1) rfl rfl⟩
def fI (C : Int → Int → Prop) (g : Int → Int → D) : Fd := fun _ as Q => ∃ a b, as = [.sh (.int a), .sh (.int b)] ∧ C a b ∧ Q (.sh (g a b))
def fI0 (g : Int → Int → D) : Fd := fun _ as Q => ∃ a b, as = [.sh (.int a), .sh (.int b)] ∧ Q (.sh (g a b))
theorem cd_I {C : Int → Int → Prop} {g : Int → Int → V} {gd : Int → Int → D} (hg : ∀ a b H A, RD H A (g a b) (gd a b)) : CbD (r2 (rI C g)) (fI C gd) := ⟨fun Γ H σ tv ρ tt vs as Q k e l ⟨a, b, ea, hc, hk⟩ q x y ev => by
  subst ea ev
  obtain ⟨r1, r2⟩ := e.two l
  cases r1 with
  | sh r1 =>
  cases r1
  cases r2 with
  | sh r2 =>
  cases r2
  exact ⟨a, b, rfl, rfl, hc, q _ _ H hk ((e.drop l).push (hg a b _ _))⟩⟩
theorem cd_I0 {g : Int → Int → V} {gd : Int → Int → D} (hg : ∀ a b H A, RD H A (g a b) (gd a b)) : CbD (r2 (rI0 g)) (fI0 gd) := ⟨fun Γ H σ tv ρ tt vs as Q k e l ⟨a, b, ea, hk⟩ q x y ev => by
  subst ea ev
  obtain ⟨r1, r2⟩ := e.two l
  cases r1 with
  | sh r1 =>
  cases r1
  cases r2 with
  | sh r2 =>
  cases r2
  exact ⟨a, b, rfl, rfl, q _ _ H hk ((e.drop l).push (hg a b _ _))⟩⟩
theorem cd_add : CbD (r2 (rI0 fun i j => .int (i + j))) (fI0 fun i j => .int (i + j)) := cd_I0 fun _ _ _ _ => .int _
theorem cd_sub : CbD (r2 (rI0 fun i j => .int (i - j))) (fI0 fun i j => .int (i - j)) := cd_I0 fun _ _ _ _ => .int _
theorem cd_lt : CbD (r2 (rI0 fun i j => .bl (decide (i < j)))) (fI0 fun i j => .bl (decide (i < j))) := cd_I0 fun _ _ _ _ => .bl _
theorem cd_le : CbD (r2 (rI0 fun i j => .bl (decide (i ≤ j)))) (fI0 fun i j => .bl (decide (i ≤ j))) := cd_I0 fun _ _ _ _ => .bl _
theorem cd_mul : CbD (r2 (rI CMul fun i j => .int (i * j))) (fI CMul fun i j => .int (i * j)) := cd_I fun _ _ _ _ => .int _
theorem cd_fdiv : CbD (r2 (rI CDiv fun i j => .int (i / j))) (fI CDiv fun i j => .int (i / j)) := cd_I fun _ _ _ _ => .int _
theorem cd_mod : CbD (r2 (rI (fun _ j => 0 < j) fun i j => .int (i % j))) (fI (fun _ j => 0 < j) fun i j => .int (i % j)) := cd_I fun _ _ _ _ => .int _
def D.sv : D → Option V
  | .non => some .non
  | .bl b => some (.bl b)
  | .int i => some (.int i)
  | .str z => some (.str z)
  | _ => none
theorem RD.sv {H : Hp} {A : Addr → Prop} {v w : V} {d : D} (r : RD H A v d) (h : d.sv = some w) : v = w := by
  cases r <;> first | (cases h; rfl) | cases h
def fEq (neg : Bool) : Fd := fun _ as Q => ∃ d1 d2 v1 v2, as = [.sh d1, .sh d2] ∧ d1.sv = some v1 ∧ d2.sv = some v2 ∧ scal v1 v2 = true ∧ Q (.sh (.bl (if neg then !decide (v1 = v2) else decide (v1 = v2))))
theorem cd_eq : CbD (r2 rEq) (fEq false) := ⟨fun Γ H σ tv ρ tt vs as Q k e l ⟨d1, d2, v1, v2, ea, h1, h2, hs, hk⟩ q x y ev => by
  subst ea ev
  obtain ⟨r1, r2⟩ := e.two l
  cases r1 with
  | sh r1 =>
  cases r2 with
  | sh r2 =>
  rw [r1.sv h1, r2.sv h2]
  exact ⟨hs, q _ _ H hk ((e.drop l).push (.bl _))⟩⟩
theorem cd_ne : CbD (r2 rNe) (fEq true) := ⟨fun Γ H σ tv ρ tt vs as Q k e l ⟨d1, d2, v1, v2, ea, h1, h2, hs, hk⟩ q x y ev => by
  subst ea ev
  obtain ⟨r1, r2⟩ := e.two l
  cases r1 with
  | sh r1 =>
  cases r2 with
  | sh r2 =>
  rw [r1.sv h1, r2.sv h2]
  exact ⟨hs, q _ _ H hk ((e.drop l).push (.bl _))⟩⟩
def T.isNon : T → Bool
  | .sh .non => true
  | _ => false
theorem R.isNon {H : Hp} {A : Addr → Prop} {v : V} {t : T} (r : R H A (some v) t) (hl : t.live = true) : decide (v = .non) = t.isNon := by
  cases r with
  | no => cases hl
  | sh r => cases r <;> simp [T.isNon]
  | _ => simp [T.isNon]
def fIsN (neg : Bool) : Fd := fun _ as Q => ∃ t, as = [t, .sh .non] ∧ t.live = true ∧ Q (.sh (.bl (if neg then !t.isNon else t.isNon)))
theorem cd_isN : CbD (r2 rIsN) (fIsN false) := ⟨fun Γ H σ tv ρ tt vs as Q k e l ⟨t, ea, hl, hk⟩ q x y ev => by
  subst ea ev
  obtain ⟨r1, r2⟩ := e.two l
  cases r2 with
  | sh r2 =>
  cases r2
  exact ⟨rfl, by rw [r1.isNon hl]; exact q _ _ H hk ((e.drop l).push (.bl _))⟩⟩
theorem cd_notN : CbD (r2 rNotN) (fIsN true) := ⟨fun Γ H σ tv ρ tt vs as Q k e l ⟨t, ea, hl, hk⟩ q x y ev => by
  subst ea ev
  obtain ⟨r1, r2⟩ := e.two l
  cases r2 with
  | sh r2 =>
  cases r2
  exact ⟨rfl, by rw [r1.isNon hl]; exact q _ _ H hk ((e.drop l).push (.bl _))⟩⟩
def T.lstK : T → Option (List T)
  | .sh (.lst ds) => some (ds.map T.sh)
  | .lst _ xs => some xs
  | _ => none
def T.tupK : T → Option (List T)
  | .sh (.tup ds) => some (ds.map T.sh)
  | .tup xs => some xs
  | _ => none
section
variable {H : Hp} {A : Addr → Prop} {v : V} {u : T} {xs : List T}
theorem R.lstK (r : R H A (some v) u) (h : u.lstK = some xs) : ∃ a vs, v = .ref a ∧ H a = some (.lst vs) ∧ vs.length = xs.length ∧ ∀ (k : Nat) (v : V) (t : T), vs[k]? = some v → xs[k]? = some t → R H A (some v) t := by
  cases r with
  | sh r =>
    cases r with
    | lst e _ l kd => cases h; exact ⟨_, _, rfl, e, by rw [l, List.length_map], fun k v t h1 h2 => by obtain ⟨d, e1, rfl⟩ := get_map h2; exact .sh (kd k v d h1 e1)⟩
    | _ => cases h
  | lst e l kd => cases h; exact ⟨_, _, rfl, e, l, kd⟩
  | _ => cases h
theorem R.tupK (r : R H A (some v) u) (h : u.tupK = some xs) : ∃ a vs, v = .ref a ∧ H a = some (.tup vs) ∧ vs.length = xs.length ∧ ∀ (k : Nat) (v : V) (t : T), vs[k]? = some v → xs[k]? = some t → R H A (some v) t := by
  cases r with
  | sh r =>
    cases r with
    | tup e _ l kd => cases h; exact ⟨_, _, rfl, e, by rw [l, List.length_map], fun k v t h1 h2 => by obtain ⟨d, e1, rfl⟩ := get_map h2; exact .sh (kd k v d h1 e1)⟩
    | _ => cases h
  | tup e _ l kd => cases h; exact ⟨_, _, rfl, e, l, kd⟩
  | _ => cases h
end
/-- a list, or the law's script -/
def T.lstQ : T → Option (List T)
  | .sh (.lst ds) => some (ds.map T.sh)
  | .lst _ xs => some xs
  | .sh (.scr ns) => some ((ns.map D.int).map T.sh)
  | _ => none
theorem lstQ_of {u : T} {xs : List T} (h : u.lstK = some xs) : u.lstQ = some xs := by
  unfold T.lstK at h
  split at h <;> first | exact h | cases h
theorem R.lstQ {K : PySem.W.Frag} {H : Hp} {A : Addr → Prop} {v : V} {u : T} {xs : List T} (r : R H A (some v) u) (h : u.lstQ = some xs) : ∃ a vs, v = .ref a ∧ SqL K H a vs ∧ vs.length = xs.length ∧ ∀ (k : Nat) (v : V) (t : T), vs[k]? = some v → xs[k]? = some t → R H A (some v) t := by
  cases r with
  | sh r =>
    cases r with
    | lst e _ l kd => cases h; exact ⟨_, _, rfl, .inl (.inl e), by rw [l, List.length_map], fun k v t h1 h2 => by obtain ⟨d, e1, rfl⟩ := get_map h2; exact .sh (kd k v d h1 e1)⟩
    | scr e _ =>
      cases h
      refine ⟨_, _, rfl, .inl e, by simp, fun k v t h1 h2 => ?_⟩
      obtain ⟨d, e1, rfl⟩ := get_map h2
      obtain ⟨i, e2, rfl⟩ := get_map e1
      obtain ⟨j, e3, rfl⟩ := get_map h1
      rw [e2] at e3
      cases e3
      exact .sh (.int _)
    | _ => cases h
  | lst e l kd => cases h; exact ⟨_, _, rfl, .inl (.inl e), l, kd⟩
  | _ => cases h
def T.seqK (u : T) : Option (List T) := match u.lstQ with
  | some xs => some xs
  | none => u.tupK
theorem R.seqK {K : PySem.W.Frag} {H : Hp} {A : Addr → Prop} {v : V} {u : T} {xs : List T} (r : R H A (some v) u) (h : u.seqK = some xs) : ∃ a vs, v = .ref a ∧ (SqL K H a vs ∨ SqT K H a vs) ∧ vs.length = xs.length ∧ ∀ (k : Nat) (v : V) (t : T), vs[k]? = some v → xs[k]? = some t → R H A (some v) t := by
  unfold T.seqK at h
  split at h
  · rename_i ys e
    cases h
    obtain ⟨a, vs, h1, h2, h3, h4⟩ := r.lstQ (K := K) e
    exact ⟨a, vs, h1, .inl h2, h3, h4⟩
  · obtain ⟨a, vs, h1, h2, h3, h4⟩ := r.tupK h
    exact ⟨a, vs, h1, .inr (.inl (.inl h2)), h3, h4⟩
/-- read an item of t0 -/
def T.rdk (t0 x : T) (k : Nat) : Option T := match t0 with
  | .sh (.at _ i p) => x.rd i (p ++ [k])
  | _ => x.rd 0 []
theorem R.rdk {H : Hp} {A : Addr → Prop} {x : Option V} {t0 t u : T} {k : Nat} (r : R H A x t) (h : t0.rdk t k = some u) : ∃ v d, x = some v ∧ u = .sh d ∧ RD H A v d := by
  unfold T.rdk at h
  split at h
  · exact r.rd h
  · exact r.rd h
theorem En.one {Γ : Cg} {H : Hp} {σ : L2.St} {tv : List (Option V)} {ρ : Env} {tt : List T} {v1 : V} {t1 : T} (e : En Γ H σ (tv ++ [v1].map some) ρ (tt ++ [t1])) : R H (Av Γ (ownsL (ρ ++ (tt ++ [t1])))) (some v1) t1 := En.last e
def fLen : Fd := fun ρ as Q => ∃ t, as = [t] ∧ ∃ u, Rs ρ t u ∧ ∃ xs, u.seqK = some xs ∧ Q (.sh (.int xs.length))
theorem En.vs1 {Γ : Cg} {H : Hp} {σ : L2.St} {tv : List (Option V)} {ρ : Env} {tt : List T} {vs : List V} {t : T} (e : En Γ H σ (tv ++ vs.map some) ρ (tt ++ [t])) (l : tv.length = tt.length) : ∃ v, vs = [v] := by
  have := e.tlen l
  rw [List.length_map] at this
  match vs, this with
  | [v], _ => exact ⟨v, rfl⟩
theorem En.vs2 {Γ : Cg} {H : Hp} {σ : L2.St} {tv : List (Option V)} {ρ : Env} {tt : List T} {vs : List V} {t t' : T} (e : En Γ H σ (tv ++ vs.map some) ρ (tt ++ [t, t'])) (l : tv.length = tt.length) : ∃ v w, vs = [v, w] := by
  have := e.tlen l
  rw [List.length_map] at this
  match vs, this with
  | [v, w], _ => exact ⟨v, w, rfl⟩
theorem cd_len {K : PySem.W.Frag} : CbD (rLenQ K) fLen := ⟨fun Γ H σ tv ρ tt vs as Q k e l ⟨t, ea, u, hr, xs, hs, hk⟩ q => by
  subst ea
  obtain ⟨v, rfl⟩ := e.vs1 l
  obtain ⟨a, ws, rfl, h1, h2, _⟩ := (Rs.rep e e.one hr).seqK (K := K) hs
  exact ⟨a, ws, rfl, h1, by rw [h2]; exact q _ _ H hk ((e.drop l).push (.int _))⟩⟩
def fIxL : Fd := fun ρ as Q => ∃ t i, as = [t, .sh (.int i)] ∧ ∃ u, Rs ρ t u ∧ ∃ xs k x y, u.lstQ = some xs ∧ ixN xs.length i = some k ∧ xs[k]? = some x ∧ t.rdk x k = some y ∧ Q y
def fIxT : Fd := fun ρ as Q => ∃ t i, as = [t, .sh (.int i)] ∧ ∃ u, Rs ρ t u ∧ ∃ xs k x y, u.tupK = some xs ∧ ixN xs.length i = some k ∧ xs[k]? = some x ∧ t.rdk x k = some y ∧ Q y
theorem cd_ixL {K : PySem.W.Frag} : CbD (r2 (rIxL K)) fIxL := ⟨fun Γ H σ tv ρ tt vs as Q kk e l ⟨t, i, ea, u, hr, xs, k, x, y, hs, hi, hx, hy, hk⟩ q v w ev => by
  subst ea ev
  obtain ⟨r1, r2⟩ := e.two l
  cases r2 with
  | sh r2 =>
  cases r2
  obtain ⟨a, ws, rfl, h1, h2, kd⟩ := (Rs.rep e r1 hr).lstQ (K := K) hs
  obtain ⟨z, hz⟩ := get_of_len h2 hx
  obtain ⟨z', d, ez, rfl, rd⟩ := (kd k z x hz hx).rdk hy
  cases ez
  exact ⟨a, ws, i, z, rfl, rfl, h1, by unfold atI; rw [h2, hi]; exact hz, q _ _ H hk ((e.push rd).mid l rfl)⟩⟩
theorem cd_ixT {K : PySem.W.Frag} : CbD (r2 (rIxT K)) fIxT := ⟨fun Γ H σ tv ρ tt vs as Q kk e l ⟨t, i, ea, u, hr, xs, k, x, y, hs, hi, hx, hy, hk⟩ q v w ev => by
  subst ea ev
  obtain ⟨r1, r2⟩ := e.two l
  cases r2 with
  | sh r2 =>
  cases r2
  obtain ⟨a, ws, rfl, h1, h2, kd⟩ := (Rs.rep e r1 hr).tupK hs
  obtain ⟨z, hz⟩ := get_of_len h2 hx
  obtain ⟨z', d, ez, rfl, rd⟩ := (kd k z x hz hx).rdk hy
  cases ez
  exact ⟨a, ws, i, z, rfl, rfl, .inl (.inl h1), by unfold atI; rw [h2, hi]; exact hz, q _ _ H hk ((e.push rd).mid l rfl)⟩⟩
/-- x in xs: flat values -/
def svs : List T → Option (List V)
  | [] => some []
  | .sh d :: ts => d.sv.bind fun v => (svs ts).map (v :: ·)
  | _ :: _ => none
theorem svs_eq {H : Hp} {A : Addr → Prop} : ∀ {ts : List T} {ws vs : List V}, svs ts = some ws → vs.length = ts.length → (∀ (k : Nat) (v : V) (t : T), vs[k]? = some v → ts[k]? = some t → R H A (some v) t) → vs = ws ∧ ws.all flatV = true
  | [], ws, vs, h, l, _ => by
    cases h
    exact ⟨List.eq_nil_of_length_eq_zero l, rfl⟩
  | t :: ts, ws, vs, h, l, kd => by
    match vs, l with
    | v :: vs, l =>
    cases t with
    | sh d =>
      unfold svs at h
      cases e1 : d.sv with
      | none => rw [e1] at h; cases h
      | some w =>
      rw [e1] at h
      cases e2 : svs ts with
      | none => rw [e2] at h; cases h
      | some ws' =>
      rw [e2] at h
      cases h
      obtain ⟨i1, i2⟩ := svs_eq e2 (by simpa using l) fun k v t h1 h2 => kd (k + 1) v t (by rw [List.getElem?_cons_succ]; exact h1) (by rw [List.getElem?_cons_succ]; exact h2)
      have r0 := kd 0 v (.sh d) rfl rfl
      cases r0 with
      | sh r0 =>
      have ev := r0.sv e1
      subst ev
      refine ⟨by rw [i1], ?_⟩
      rw [List.all_cons, i2, Bool.and_true]
      cases d <;> first | (cases e1; rfl) | cases e1
    | _ => unfold svs at h; cases h
def fIn (neg : Bool) : Fd := fun ρ as Q => ∃ d t v, as = [.sh d, t] ∧ d.sv = some v ∧ ∃ u, Rs ρ t u ∧ ∃ xs ws, u.seqK = some xs ∧ svs xs = some ws ∧ Q (.sh (.bl (if neg then !inV v ws else inV v ws)))
theorem cd_in {K : PySem.W.Frag} {neg : Bool} : CbD (r2 (rIn K neg)) (fIn neg) := ⟨fun Γ H σ tv ρ tt vs as Q kk e l ⟨d, t, w, ea, hd, u, hr, xs, ws, hs, hw, hk⟩ q x y ev => by
  subst ea ev
  obtain ⟨r1, r2⟩ := e.two l
  cases r1 with
  | sh r1 =>
  have e1 := r1.sv hd
  subst e1
  obtain ⟨a, vs, rfl, h1, h2, kd⟩ := (Rs.rep e r2 hr).seqK (K := K) hs
  obtain ⟨h3, h4⟩ := svs_eq hw h2 kd
  subst h3
  refine ⟨a, vs, rfl, h1, ?_, h4, q _ _ H hk ((e.drop l).push (.bl _))⟩
  cases d <;> first | (cases hd; rfl) | cases hd⟩
end E
namespace E
open PySem PySem.Spec PyProof.Rows L2 G
section
variable {Γ : Cg} {H : Hp} {σ : L2.St} {tv ys : List (Option V)} {ρ : Env} {tt us : List T} {i : Nat} {p : List Nat} {u : T} {a : Addr}
theorem En.updN (e : En Γ H σ (tv ++ ys) ρ (tt ++ us)) (l : tv.length = tt.length) (hg : gt ρ i p = some u) (ha : u.addr = some a) :
    ∃ o vs, Nd u a o vs ∧ H a = some o ∧ vs.length = u.kids.length ∧ (∀ (k : Nat) (v : V) (t : T), vs[k]? = some v → u.kids[k]? = some t → R H (Av Γ (ownsL ((ρ ++ tt) ++ us))) (some v) t) ∧
      ∀ (o' : HO) (u' : T) (vs' : List V) (zs : List (Option V)) (ws : List T), Nd u' a o' vs' → vs'.length = u'.kids.length → zs.length = ws.length →
      (∀ b, cn b (ownsL u'.kids) + cn b (ownsL ws) ≤ cn b (ownsL u.kids) + cn b (ownsL us)) →
      (∀ (x : Option V) (t : T), ((∃ (k : Nat) (v : V), x = some v ∧ vs'[k]? = some v ∧ u'.kids[k]? = some t) ∨ ∃ k : Nat, zs[k]? = some x ∧ ws[k]? = some t) →
        (∃ (j : Nat) (v : V), x = some v ∧ vs[j]? = some v ∧ u.kids[j]? = some t) ∨ (∃ j : Nat, ys[j]? = some x ∧ us[j]? = some t) ∨ ∃ v d, x = some v ∧ t = .sh d ∧ RD H (Av Γ (ownsL ((ρ ++ tt) ++ us))) v d) →
      En Γ (L2.upd H a o') σ (tv ++ zs) (pt ρ i p u') (tt ++ ws) := by
  obtain ⟨g1, g2⟩ := gt_app (us := tt) hg
  obtain ⟨o, vs, nd, ho, lv, kd, f⟩ := Ok.upd e.as (e.l2 (e.tlen l)) g1 ha
  refine ⟨o, vs, nd, ho, lv, kd, fun o' u' vs' zs ws h1 h2 h3 h4 h5 => .of ?_ (by rw [pt_len]; exact e.len)⟩
  have := f o' u' vs' zs ws h1 h2 h3 h4 h5
  rw [g2] at this
  exact this
end
theorem one_cases {α β : Type} {k : Nat} {x y : α} {t u : β} (h1 : [x][k]? = some y) (h2 : [t][k]? = some u) : y = x ∧ u = t := by
  cases k with
  | zero => simp at h1 h2; exact ⟨h1.symm, h2.symm⟩
  | succ k => simp at h1
section
variable {W : Wx} {K : PySem.W.Frag}
def isLst (ρ : Env) (t : T) : Prop := ∃ u, Rs ρ t u ∧ ∃ xs, u.lstK = some xs
theorem isLst.run {Γ : Cg} {H : Hp} {σ : L2.St} {tv : List (Option V)} {ρ : Env} {tt : List T} {v : V} {t : T} (e : En Γ H σ (tv ++ [some v]) ρ (tt ++ [t])) (h : isLst ρ t) : tyV K "list" v H := by
  obtain ⟨u, hr, xs, hx⟩ := h
  obtain ⟨a, vs, rfl, h1, _⟩ := (Rs.rep e e.last hr).lstK hx
  exact .inl ⟨rfl, vs, .inl (.inl h1)⟩
def wApp (wa : WE) (wr : WA) : WE := fun χ ρ Q => wa χ ρ fun t0 ρ1 => isLst ρ1 t0 ∧ wr χ ρ1 fun ts ρ2 => ∃ a i p xs t, t0 = .sh (.at a i p) ∧ ts = [t] ∧ gt ρ2 i p = some (.lst a xs) ∧ xs.length < 10000 ∧ Q (.sh .non) (pt ρ2 i p (.lst a (xs ++ [t])))
theorem rf_app {ta : TE} {tr : TA} {wa : WE} {wr : WA} (ha : Rf W ta wa) (hr : RfA W tr wr) : Rf W (tBM K "list" rAppend ta tr) (wApp wa wr) := fun σ H Q ⟨Γ, tv, ρ, tt, χ, Q1, e, h, x, k⟩ => by
  refine ha σ H _ ⟨Γ, tv, ρ, tt, χ, _, e, h, x, fun t0 ρ1 v0 H1 ⟨h0, h1⟩ e1 => ⟨h0.run e1, ?_⟩⟩
  refine hr σ H1 _ ⟨Γ, _, ρ1, _, χ, _, e1, h1, x.deep e.tl rfl, fun ts ρ2 vs H2 ⟨a, i, p, xs, t, e0, et, hg, hl, h2⟩ e2 => ?_⟩
  subst e0 et
  obtain ⟨y, rfl⟩ := En.vs1 e2 (by simp [e.tl])
  rw [List.append_assoc, List.append_assoc] at e2
  have r0 := e2.entry e.tl (k := 0) rfl rfl
  cases r0 with
  | sh r0 =>
  cases r0
  obtain ⟨o, ws, nd, ho, lv, kd, f⟩ := e2.updN e.tl hg rfl
  cases nd
  refine ⟨a, ws, y, rfl, rfl, ho, szl' (by have : ws.length = xs.length := lv; omega), k _ _ _ _ h2 (f _ _ _ [some .non] [.sh .non] .lst ?_ rfl (fun b => ?_) fun z t' hz => ?_)⟩
  · have : ws.length = xs.length := lv
    simp [T.kids, this]
  · simp only [T.kids, ownsL_append, ownsL_cons, ownsL_nil, cn_app, cn_noT, List.append_nil, T.owns, List.nil_append]
    show _ + _ + 0 ≤ _
    omega
  · rcases hz with ⟨j, v, rfl, h3, h4⟩ | ⟨j, h3, h4⟩
    · simp only [T.kids] at h4
      rcases ap_cases h3 with h3 | ⟨m, rfl, hm⟩
      · have hj := (List.getElem?_eq_some_iff.mp h3).1
        have : ws.length = xs.length := lv
        rw [List.getElem?_append_left (by omega)] at h4
        exact .inl ⟨j, v, rfl, h3, h4⟩
      · have : ws.length = xs.length := lv
        rw [this, List.getElem?_append_right (by omega), Nat.add_sub_cancel_left] at h4
        obtain ⟨rfl, rfl⟩ := one_cases hm h4
        exact .inr (.inl ⟨1, rfl, rfl⟩)
    · obtain ⟨rfl, rfl⟩ := one_cases h3 h4
      exact .inr (.inr ⟨_, _, rfl, rfl, .non⟩)
def T.objK : T → Option (Addr × List Str × List T)
  | .sh (.obj C fs ds) => some (C, fs, ds.map T.sh)
  | .obj _ C fs xs => some (C, fs, xs)
  | _ => none
def kfind {κ : Type} [DecidableEq κ] (ks : List κ) (k : κ) : Option Nat := ks.findIdx? fun y => decide (y = k)
theorem kfind_spec {κ : Type} [DecidableEq κ] {ks : List κ} {k : κ} {n : Nat} (h : kfind ks k = some n) : ks[n]? = some k ∧ ∀ m, m < n → ks[m]? ≠ some k := by
  unfold kfind at h
  obtain ⟨hn, h1, h2⟩ := List.findIdx?_eq_some_iff_getElem.mp h
  refine ⟨by rw [List.getElem?_eq_getElem hn]; simpa using h1, fun m hm z => ?_⟩
  have := h2 m hm
  rw [List.getElem?_eq_getElem (by omega)] at z
  simp at this z
  exact this z
theorem kfind_none {κ : Type} [DecidableEq κ] {ks : List κ} {k : κ} (h : kfind ks k = none) : k ∉ ks := fun m => by
  unfold kfind at h
  rw [List.findIdx?_eq_none_iff] at h
  have := h k m
  simp at this
theorem lookup_kfind {f : Str} : ∀ {fvs : List (Str × V)} {n : Nat} {q : Str × V}, kfind (fvs.map Prod.fst) f = some n → fvs[n]? = some q → fvs.lookup f = some q.2
  | [], n, q, h, hq => by simp at hq
  | (g, x) :: r, n, q, h, hq => by
    rw [List.map_cons] at h
    unfold kfind at h
    rw [List.findIdx?_cons] at h
    by_cases c : g = f
    · subst c
      simp at h
      subst h
      simp at hq
      subst hq
      simp [List.lookup]
    · rw [if_neg (by simpa using c)] at h
      cases e : (r.map Prod.fst).findIdx? (fun y => decide (y = f)) with
      | none => rw [e] at h; cases h
      | some m =>
      rw [e] at h
      cases h
      rw [List.lookup_cons, beq_eq_false_iff_ne.mpr (Ne.symm c)]
      exact lookup_kfind e (by simpa using hq)
theorem R.objK {H : Hp} {A : Addr → Prop} {v : V} {u : T} {C : Addr} {fs : List Str} {xs : List T} (r : R H A (some v) u) (h : u.objK = some (C, fs, xs)) : ∃ a dx fvs, v = .ref a ∧ H a = some (.ins C dx fvs) ∧ fvs.map Prod.fst = fs ∧ fvs.length = xs.length ∧ ∀ (k : Nat) (q : Str × V) (t : T), fvs[k]? = some q → xs[k]? = some t → R H A (some q.2) t := by
  cases r with
  | sh r =>
    cases r with
    | obj e _ l kd => cases h; exact ⟨_, _, _, rfl, e, rfl, by rw [l, List.length_map], fun k q t h1 h2 => by obtain ⟨d, e1, rfl⟩ := get_map h2; exact .sh (kd k q d h1 e1)⟩
    | _ => cases h
  | obj e l kd => cases h; exact ⟨_, _, _, rfl, e, rfl, l, kd⟩
  | _ => cases h
def wFld (K : PySem.W.Frag) (f : Str) (wa : WE) : WE := fun χ ρ Q => wa χ ρ fun t ρ1 => ∃ u, Rs ρ1 t u ∧ ∃ C fs xs n x y, u.objK = some (C, fs, xs) ∧ (Cls K C ∧ NoAttr K C f) ∧ kfind fs f = some n ∧ xs[n]? = some x ∧ t.rdk x n = some y ∧ Q y ρ1
theorem rf_fld {f : Str} {ta : TE} {wa : WE} (ha : Rf W ta wa) : Rf W (tFld K ta f) (wFld K f wa) := fun σ H Q ⟨Γ, tv, ρ, tt, χ, Q1, e, h, x, k⟩ => by
  refine ha σ H _ ⟨Γ, tv, ρ, tt, χ, _, e, h, x, fun t ρ1 v H1 ⟨u, hr, C, fs, xs, n, z, y, hu, ⟨hc, hn⟩, hf, hz, hy, h1⟩ e1 => ?_⟩
  obtain ⟨a, dx, fvs, rfl, ea, ef, l, kd⟩ := (Rs.rep e1 e1.last hr).objK hu
  obtain ⟨q, hq⟩ := get_of_len l hz
  obtain ⟨w, d, ew, rfl, rd⟩ := (kd n q z hq hz).rdk hy
  cases ew
  exact ⟨a, C, dx, fvs, q.2, rfl, ea, hc, hn, lookup_kfind (by rw [ef]; exact hf) hq, k _ ρ1 _ H1 h1 ((e1.push rd).mid e.tl rfl)⟩
/-- f put: in its place, or at the end -/
inductive PutR {κ : Type} (ks : List κ) (xs : List T) (k : κ) (t : T) : List κ → List T → Prop
  | old {n : Nat} : ks[n]? = some k → (∀ m, ks[m]? = some k → m = n) → PutR ks xs k t ks (xs.set n t)
  | new : k ∉ ks → PutR ks xs k t (ks ++ [k]) (xs ++ [t])
theorem putF_new {f : Str} {v : V} : ∀ {fvs : List (Str × V)}, f ∉ fvs.map Prod.fst → putF f v fvs = fvs ++ [(f, v)]
  | [], _ => rfl
  | (g, x) :: r, h => by
    simp only [List.map_cons, List.mem_cons, not_or] at h
    rw [putF, if_neg (Ne.symm h.1), putF_new h.2]
    rfl
theorem putF_old {f : Str} {v : V} : ∀ {fvs : List (Str × V)} {n : Nat}, (fvs.map Prod.fst)[n]? = some f → (∀ m, (fvs.map Prod.fst)[m]? = some f → m = n) → putF f v fvs = fvs.set n (f, v)
  | [], n, h, _ => by simp at h
  | (g, x) :: r, n, h, u => by
    rw [putF]
    by_cases c : g = f
    · have : n = 0 := (u 0 (by simp [c])).symm
      subst this
      rw [if_pos c, c]
      rfl
    · rw [if_neg c]
      cases n with
      | zero => simp at h; exact absurd h c
      | succ n =>
        rw [List.set_cons_succ, putF_old (n := n) (by simpa using h) fun m hm => by have := u (m + 1) (by simpa using hm); omega]
theorem putK_old {κ : Type} [DecidableEq κ] {k : κ} {v : V} {kvs : List (κ × V)} {n : Nat} (h : (kvs.map Prod.fst)[n]? = some k) (u : ∀ m : Nat, (kvs.map Prod.fst)[m]? = some k → m = n) : putK kvs k v = kvs.set n (k, v) := by
  unfold putK
  obtain ⟨q, hq, eq⟩ := get_map h
  rw [if_pos (by rw [List.any_eq_true]; exact ⟨q, List.mem_of_getElem? hq, by simp [eq]⟩)]
  apply List.ext_getElem?
  intro m
  rw [List.getElem?_map]
  by_cases hm : n = m
  · subst hm
    rw [hq, List.getElem?_set_self (List.getElem?_eq_some_iff.mp hq).1]
    simp [eq]
  · rw [List.getElem?_set_ne hm]
    cases e : kvs[m]? with
    | none => rfl
    | some q' =>
      have : q'.1 ≠ k := fun z => hm (u m (by rw [← z]; exact map_get e)).symm
      simp [this]
theorem putK_new {κ : Type} [DecidableEq κ] {k : κ} {v : V} {kvs : List (κ × V)} (h : k ∉ kvs.map Prod.fst) : putK kvs k v = kvs ++ [(k, v)] := by
  unfold putK
  rw [if_neg]
  intro z
  rw [List.any_eq_true] at z
  obtain ⟨q, hq, e⟩ := z
  simp at e
  exact h (e ▸ List.mem_map_of_mem hq)
theorem put_cases {κ : Type} {ks ks' : List κ} {xs xs' : List T} {k : κ} {t : T} {kvs : List (κ × V)} {v : V} (h : PutR ks xs k t ks' xs') (ek : kvs.map Prod.fst = ks) (l : kvs.length = xs.length) :
    ∃ kvs' : List (κ × V), ((∃ n : Nat, ks[n]? = some k ∧ (∀ m : Nat, ks[m]? = some k → m = n) ∧ kvs' = kvs.set n (k, v)) ∨ (k ∉ ks ∧ kvs' = kvs ++ [(k, v)])) ∧ kvs'.map Prod.fst = ks' ∧ kvs'.length = xs'.length ∧ kvs'.length ≤ kvs.length + 1 ∧
      (∀ b, cn b (ownsL xs') ≤ cn b (ownsL xs) + cn b t.owns) ∧
      ∀ (j : Nat) (w : V) (u : T), (kvs'.map Prod.snd)[j]? = some w → xs'[j]? = some u → ((kvs.map Prod.snd)[j]? = some w ∧ xs[j]? = some u) ∨ (w = v ∧ u = t) := by
  cases h with
  | @old n h1 h2 =>
    have hn : n < kvs.length := by rw [← ek] at h1; have := (List.getElem?_eq_some_iff.mp h1).1; simpa using this
    refine ⟨kvs.set n (k, v), .inl ⟨n, h1, h2, rfl⟩, ?_, by simp [l], by simp, fun b => ?_, fun j w u q1 q2 => ?_⟩
    · rw [List.map_set, ek]
      apply List.ext_getElem?
      intro m
      by_cases hm : n = m
      · subst hm
        rw [List.getElem?_set_self (by rw [← ek]; simpa using hn), h1]
      · rw [List.getElem?_set_ne hm]
    · obtain ⟨x0, hx0⟩ := get_of_len (l := xs) (m := kvs) l.symm (List.getElem?_eq_getElem hn)
      have := cn_set b (u := t) hx0
      omega
    · rw [List.map_set] at q1
      by_cases hm : n = j
      · subst hm
        rw [List.getElem?_set_self (by simpa using hn)] at q1
        rw [List.getElem?_set_self (by omega)] at q2
        cases q1; cases q2
        exact .inr ⟨rfl, rfl⟩
      · rw [List.getElem?_set_ne hm] at q1 q2
        exact .inl ⟨q1, q2⟩
  | new hk =>
    refine ⟨kvs ++ [(k, v)], .inr ⟨hk, rfl⟩, by rw [List.map_append, ek]; rfl, by simp [l], by simp, fun b => by rw [ownsL_append, ownsL_one, cn_app]; exact Nat.le_refl _, fun j w u q1 q2 => ?_⟩
    rw [List.map_append] at q1
    rcases ap_cases q1 with q1 | ⟨m, rfl, hm⟩
    · have hj := (List.getElem?_eq_some_iff.mp q1).1
      rw [List.getElem?_append_left (by rw [List.length_map] at hj; omega)] at q2
      exact .inl ⟨q1, q2⟩
    · rw [List.length_map, l, List.getElem?_append_right (by omega), Nat.add_sub_cancel_left] at q2
      obtain ⟨rfl, rfl⟩ := one_cases hm q2
      exact .inr ⟨rfl, rfl⟩
def wSFld (K : PySem.W.Frag) (f : Str) (wa wv : WE) : WS := fun k ρ => wv k.xc ρ fun t10 ρ1 => ∃ t1, (t1 = t10 ∨ ∃ d, t10.pub = some d ∧ t1 = .sh d) ∧ wa k.xc ρ1 fun t0 ρ2 => ∃ a i p C fs xs fs' xs', t0 = .sh (.at a i p) ∧ gt ρ2 i p = some (.obj a C fs xs) ∧ (Cls K C ∧ NoAttr K C f) ∧ fs.length < 900 ∧ PutR fs xs f t1 fs' xs' ∧ k.nx (pt ρ2 i p (.obj a C fs' xs'))
theorem rfs_fld {bs : List Nat} {f : Str} {ta tv' : TE} {wa wv : WE} (ha : Rf W ta wa) (hv : Rf W tv' wv) : RfS bs W (sFld K ta tv' f) (wSFld K f wa wv) := fun D σ H ⟨Γ, tv, ρ, tt, k, e, h, o⟩ => by
  refine hv σ H _ ⟨Γ, tv, ρ, tt, k.xc, _, e, h, o.x, fun t10 ρ1 v1 H1 ⟨t1, hpt, h1⟩ e10 => ?_⟩
  have e1 : En Γ H1 σ (tv ++ [some v1]) ρ1 (tt ++ [t1]) := by
    rcases hpt with rfl | ⟨d, hd, rfl⟩
    · exact e10
    · exact e10.pubT e.tl hd
  refine ha σ H1 _ ⟨Γ, _, ρ1, _, k.xc, _, e1, h1, o.x.deep e.tl rfl, fun t0 ρ2 v0 H2 ⟨a, i, p, C, fs, xs, fs', xs', e0, hg, ⟨hc, hn⟩, hl, hp, h2⟩ e2 => ?_⟩
  subst e0
  rw [List.append_assoc, List.append_assoc] at e2
  have r0 := e2.entry e.tl (k := 1) rfl rfl
  cases r0 with
  | sh r0 =>
  cases r0
  obtain ⟨oo, ws, nd, ho, lv, kd, g⟩ := e2.updN e.tl hg rfl
  cases nd with
  | @obj _ _ dx _ fvs =>
  have lv' : fvs.length = xs.length := by simpa [T.kids] using lv
  obtain ⟨fvs', hcase, e3, l3, l4, hcn, hsrc⟩ := put_cases (v := v1) hp rfl lv'
  have epf : putF f v1 fvs = fvs' := by
    rcases hcase with ⟨n, q1, q2, rfl⟩ | ⟨q, rfl⟩
    · exact putF_old q1 q2
    · exact putF_new q
  rw [List.length_map] at hl
  refine ⟨a, C, dx, fvs, rfl, ho, hc, hn, by omega, ?_⟩
  rw [epf]
  subst e3
  refine o.nx _ σ _ h2 (.refl _ _) ?_
  have := g (.ins C dx fvs') (.obj a C (fvs'.map Prod.fst) xs') (fvs'.map Prod.snd) [] [] .obj (by simp [T.kids, l3]) rfl (fun b => ?_) (fun z t' hz => ?_)
  · rw [List.append_nil, List.append_nil] at this; exact this
  · have := hcn b
    simp only [T.kids, List.singleton_append, ownsL_cons, ownsL_nil, cn_app, cn_noT, List.append_nil]
    show _ + 0 ≤ _
    omega
  · rcases hz with ⟨j, v, rfl, q1, q2⟩ | ⟨j, q1, q2⟩
    · rcases hsrc j v t' q1 q2 with ⟨z1, z2⟩ | ⟨rfl, rfl⟩
      · exact .inl ⟨j, v, rfl, z1, z2⟩
      · exact .inr (.inl ⟨0, rfl, rfl⟩)
    · simp at q1
def T.dictK : T → Option (List Key × List T)
  | .sh (.dK ks ds) => some (ks, ds.map T.sh)
  | .dK _ ks xs => some (ks, xs)
  | _ => none
theorem R.dictK {H : Hp} {A : Addr → Prop} {v : V} {u : T} {ks : List Key} {xs : List T} (r : R H A (some v) u) (h : u.dictK = some (ks, xs)) : ∃ a kvs, v = .ref a ∧ Rd H a (.dK kvs) ∧ kvs.map Prod.fst = ks ∧ kvs.length = xs.length ∧ ∀ (k : Nat) (q : Key × V) (t : T), kvs[k]? = some q → xs[k]? = some t → R H A (some q.2) t := by
  cases r with
  | sh r =>
    cases r with
    | dK e _ l kd => cases h; exact ⟨_, _, rfl, e, rfl, by rw [l, List.length_map], fun k q t h1 h2 => by obtain ⟨d, e1, rfl⟩ := get_map h2; exact .sh (kd k q d h1 e1)⟩
    | _ => cases h
  | dK e l kd => cases h; exact ⟨_, _, rfl, .inl e, rfl, l, kd⟩
  | _ => cases h
def D.key : D → Option Key
  | .int i => some (.inl i)
  | .str z => some (.inr z)
  | _ => none
theorem RD.key {H : Hp} {A : Addr → Prop} {v : V} {d : D} {k : Key} (r : RD H A v d) (h : d.key = some k) : v = kV k := by
  cases r <;> first | (cases h; rfl) | cases h
theorem valV_kfind {κ : Type} [DecidableEq κ] {k : κ} {kvs : List (κ × V)} {n : Nat} {q : κ × V} (h : kfind (kvs.map Prod.fst) k = some n) (hq : kvs[n]? = some q) : valV kvs k = some q.2 := by
  obtain ⟨h1, h2⟩ := kfind_spec h
  unfold valV
  obtain ⟨q', hq', e'⟩ := get_map h1
  rw [hq] at hq'
  cases hq'
  have hn := (List.getElem?_eq_some_iff.mp hq).1
  have : kvs.find? (fun kv => decide (kv.1 = k)) = some q := by
    rw [List.find?_eq_some_iff_getElem]
    refine ⟨by simp [e'], n, hn, (List.getElem?_eq_some_iff.mp hq).2, fun j hj => ?_⟩
    have hz := h2 j hj
    simp only [Bool.not_eq_true', decide_eq_false_iff_not]
    intro z
    exact hz (by rw [← z]; exact map_get (List.getElem?_eq_getElem (by omega)))
  rw [this]
  rfl
theorem valV_no' {κ : Type} [DecidableEq κ] {k : κ} {kvs : List (κ × V)} (h : kfind (kvs.map Prod.fst) k = none) : valV kvs k = none := valV_no (kfind_none h)
def wDGet (wd wk : WE) : WE := fun χ ρ Q => wd χ ρ fun t ρ1 => wk χ ρ1 fun tk ρ2 => ∃ u, Rs ρ2 t u ∧ ∃ ks xs d k n x y, u.dictK = some (ks, xs) ∧ tk = .sh d ∧ d.key = some k ∧ kfind ks k = some n ∧ xs[n]? = some x ∧ t.rdk x n = some y ∧ Q y ρ2
theorem rf_dget {td ty : TE} {wd wk : WE} (hd : Rf W td wd) (hk : Rf W ty wk) : Rf W (tDGet td ty) (wDGet wd wk) := fun σ H Q ⟨Γ, tv, ρ, tt, χ, Q1, e, h, x, k⟩ => by
  refine hd σ H _ ⟨Γ, tv, ρ, tt, χ, _, e, h, x, fun t ρ1 v1 H1 h1 e1 => ?_⟩
  refine hk σ H1 _ ⟨Γ, _, ρ1, _, χ, _, e1, h1, x.deep e.tl rfl, fun tk ρ2 v2 H2 ⟨u, hr, ks, xs, d, ky, n, z, y, hu, etk, hky, hn, hz, hy, h2⟩ e2 => ?_⟩
  subst etk
  rw [List.append_assoc, List.append_assoc] at e2
  have r1 := e2.entry e.tl (k := 0) rfl rfl
  have r2 := e2.entry e.tl (k := 1) rfl rfl
  cases r2 with
  | sh r2 =>
  obtain ⟨a, kvs, rfl, ea, ek, l, kd⟩ := (Rs.rep e2 r1 hr).dictK hu
  obtain ⟨q, hq⟩ := get_of_len l hz
  obtain ⟨w, d', ew, rfl, rd⟩ := (kd n q z hq hz).rdk hy
  cases ew
  exact ⟨a, q.2, rfl, .inl ⟨kvs, ky, ea, r2.key hky, (valV_kfind (by rw [ek]; exact hn) hq).symm⟩, k _ ρ2 _ H2 h2 ((e2.push rd).mid e.tl rfl)⟩
def wDIn (neg : Bool) (wk wd : WE) : WE := fun χ ρ Q => wk χ ρ fun tk ρ1 => wd χ ρ1 fun t ρ2 => ∃ u, Rs ρ2 t u ∧ ∃ ks xs d k, u.dictK = some (ks, xs) ∧ tk = .sh d ∧ d.key = some k ∧ Q (.sh (.bl (if neg then !(kfind ks k).isSome else (kfind ks k).isSome))) ρ2
theorem dget_opt {H : Hp} {a : Addr} {kvs : List (Key × V)} {k : Key} (e : Rd H a (.dK kvs)) : ∃ o, DGet H a (kV k) o ∧ o.isSome = (kfind (kvs.map Prod.fst) k).isSome := by
  cases c : kfind (kvs.map Prod.fst) k with
  | none => exact ⟨none, .inl ⟨kvs, k, e, rfl, (valV_no' c).symm⟩, rfl⟩
  | some n =>
    obtain ⟨h1, _⟩ := kfind_spec c
    obtain ⟨q, hq, _⟩ := get_map h1
    exact ⟨some q.2, .inl ⟨kvs, k, e, rfl, (valV_kfind c hq).symm⟩, rfl⟩
theorem rf_din {td ty : TE} {wd wk : WE} (hk : Rf W ty wk) (hd : Rf W td wd) : Rf W (tDIn ty td) (wDIn false wk wd) := fun σ H Q ⟨Γ, tv, ρ, tt, χ, Q1, e, h, x, k⟩ => by
  refine hk σ H _ ⟨Γ, tv, ρ, tt, χ, _, e, h, x, fun tk ρ1 v1 H1 h1 e1 => ?_⟩
  refine hd σ H1 _ ⟨Γ, _, ρ1, _, χ, _, e1, h1, x.deep e.tl rfl, fun t ρ2 v2 H2 ⟨u, hr, ks, xs, d, ky, hu, etk, hky, h2⟩ e2 => ?_⟩
  subst etk
  rw [List.append_assoc, List.append_assoc] at e2
  have r1 := e2.entry e.tl (k := 0) rfl rfl
  have r2 := e2.entry e.tl (k := 1) rfl rfl
  cases r1 with
  | sh r1 =>
  obtain ⟨a, kvs, rfl, ea, ek, l, kd⟩ := (Rs.rep e2 r2 hr).dictK hu
  obtain ⟨o, ho, hs⟩ := dget_opt (k := ky) ea
  refine ⟨a, o, rfl, by rw [r1.key hky]; exact ho, ?_⟩
  rw [hs, ek]
  exact k _ ρ2 _ H2 h2 ((e2.drop e.tl).push (.bl _))
theorem rf_dnotin {td ty : TE} {wd wk : WE} (hk : Rf W ty wk) (hd : Rf W td wd) : Rf W (tDNotIn ty td) (wDIn true wk wd) := fun σ H Q ⟨Γ, tv, ρ, tt, χ, Q1, e, h, x, k⟩ => by
  refine hk σ H _ ⟨Γ, tv, ρ, tt, χ, _, e, h, x, fun tk ρ1 v1 H1 h1 e1 => ?_⟩
  refine hd σ H1 _ ⟨Γ, _, ρ1, _, χ, _, e1, h1, x.deep e.tl rfl, fun t ρ2 v2 H2 ⟨u, hr, ks, xs, d, ky, hu, etk, hky, h2⟩ e2 => ?_⟩
  subst etk
  rw [List.append_assoc, List.append_assoc] at e2
  have r1 := e2.entry e.tl (k := 0) rfl rfl
  have r2 := e2.entry e.tl (k := 1) rfl rfl
  cases r1 with
  | sh r1 =>
  obtain ⟨a, kvs, rfl, ea, ek, l, kd⟩ := (Rs.rep e2 r2 hr).dictK hu
  obtain ⟨o, ho, hs⟩ := dget_opt (k := ky) ea
  refine ⟨a, o, rfl, by rw [r1.key hky]; exact ho, ?_⟩
  rw [hs, ek]
  exact k _ ρ2 _ H2 h2 ((e2.drop e.tl).push (.bl _))
def wDPut (wd wk wv : WE) : WS := fun k ρ => wv k.xc ρ fun t1 ρ1 => wd k.xc ρ1 fun t0 ρ2 => wk k.xc ρ2 fun tk ρ3 => ∃ a i p ks xs d ky ks' xs', t0 = .sh (.at a i p) ∧ tk = .sh d ∧ d.key = some ky ∧ gt ρ3 i p = some (.dK a ks xs) ∧ ks.length < 10000 ∧ PutR ks xs ky t1 ks' xs' ∧ k.nx (pt ρ3 i p (.dK a ks' xs'))
theorem rfs_dput {bs : List Nat} {td ty tv' : TE} {wd wk wv : WE} (hd : Rf W td wd) (hk : Rf W ty wk) (hv : Rf W tv' wv) : RfS bs W (sDPut td ty tv') (wDPut wd wk wv) := fun D σ H ⟨Γ, tv, ρ, tt, k, e, h, o⟩ => by
  refine hv σ H _ ⟨Γ, tv, ρ, tt, k.xc, _, e, h, o.x, fun t1 ρ1 v1 H1 h1 e1 => ?_⟩
  refine hd σ H1 _ ⟨Γ, _, ρ1, _, k.xc, _, e1, h1, o.x.deep e.tl rfl, fun t0 ρ2 v0 H2 h2 e2 => ?_⟩
  refine hk σ H2 _ ⟨Γ, _, ρ2, _, k.xc, _, e2, h2, (o.x.deep e.tl rfl).deep (by simp [e.tl]) rfl, fun tk ρ3 v3 H3 ⟨a, i, p, ks, xs, d, ky, ks', xs', e0, etk, hky, hg, hl, hp, h3⟩ e3 => ?_⟩
  subst e0 etk
  rw [List.append_assoc, List.append_assoc, List.append_assoc, List.append_assoc] at e3
  have r0 := e3.entry e.tl (k := 1) rfl rfl
  have r1 := e3.entry e.tl (k := 2) rfl rfl
  cases r0 with
  | sh r0 =>
  cases r0
  cases r1 with
  | sh r1 =>
  obtain ⟨oo, ws, nd, ho, lv, kd, g⟩ := e3.updN e.tl hg rfl
  cases nd with
  | @dK _ _ kvs =>
  have lv' : kvs.length = xs.length := by simpa [T.kids] using lv
  obtain ⟨kvs', hcase, e4, l3, l4, hcn, hsrc⟩ := put_cases (v := v1) hp rfl lv'
  have epf : putK kvs ky v1 = kvs' := by
    rcases hcase with ⟨n, q1, q2, rfl⟩ | ⟨q, rfl⟩
    · exact putK_old q1 q2
    · exact putK_new q
  rw [List.length_map] at hl
  refine ⟨a, _, rfl, by rw [r1.key hky]; exact DPut.k ho (szl' hl), ?_⟩
  rw [epf]
  subst e4
  refine o.nx _ σ _ h3 (.refl _ _) ?_
  have := g (.dK kvs') (.dK a (kvs'.map Prod.fst) xs') (kvs'.map Prod.snd) [] [] .dK (by simp [T.kids, l3]) rfl (fun b => ?_) (fun z t' hz => ?_)
  · rw [List.append_nil, List.append_nil] at this; exact this
  · have := hcn b
    simp only [T.kids, List.singleton_append, List.cons_append, List.nil_append, ownsL_cons, ownsL_nil, cn_app, cn_noT, List.append_nil]
    show _ + 0 ≤ _
    omega
  · rcases hz with ⟨j, v, rfl, q1, q2⟩ | ⟨j, q1, q2⟩
    · rcases hsrc j v t' q1 q2 with ⟨z1, z2⟩ | ⟨rfl, rfl⟩
      · exact .inl ⟨j, v, rfl, z1, z2⟩
      · exact .inr (.inl ⟨0, rfl, rfl⟩)
    · simp at q1
end
end E
namespace E
open PySem PySem.Spec PyProof.Rows L2 G
section
variable {W : Wx} {K : PySem.W.Frag}
theorem sh_item {H : Hp} {A : Addr → Prop} {vs : List V} {xs : List T} {ds : List D} (hs : allSh xs = some ds) (l : vs.length = xs.length) (kd : ∀ (k : Nat) (v : V) (t : T), vs[k]? = some v → xs[k]? = some t → R H A (some v) t) {i : Nat} {x : V} (hx : vs[i]? = some x) : ∃ d, ds[i]? = some d ∧ RD H A x d := by
  have e := allSh_eq hs
  subst e
  obtain ⟨d, hd⟩ := get_of_len (l := ds) (m := vs) (by rw [l, List.length_map]) hx
  have r := kd i x (.sh d) hx (map_get hd)
  cases r with
  | sh r => exact ⟨d, hd, r⟩
def wiList (wa : WE) : WI := fun χ ρ Q => wa χ ρ fun t ρ1 => ∃ u, Rs ρ1 t u ∧ ∃ xs ds, u.lstK = some xs ∧ allSh xs = some ds ∧ Q (ds.map T.sh) (fun ρ => Rs ρ t u) ρ1
def wiTup (wa : WE) : WI := fun χ ρ Q => wa χ ρ fun t ρ1 => ∃ u, Rs ρ1 t u ∧ ∃ xs ds, u.tupK = some xs ∧ allSh xs = some ds ∧ Q (ds.map T.sh) (fun ρ => Rs ρ t u) ρ1
theorem rfi_list {ta : TE} {wa : WE} (ha : Rf W ta wa) : RfI W (iList K ta) (wiList wa) := fun σ H Rr ⟨Γ, tv, ρ, tt, χ, Q1, e, h, x, k⟩ => by
  refine ha σ H _ ⟨Γ, tv, ρ, tt, χ, _, e, h, x, fun t ρ1 v H1 ⟨u, hr, xs, ds, hu, hs, h1⟩ e1 => ?_⟩
  have lx : xs.length = ds.length := by rw [allSh_eq hs, List.length_map]
  obtain ⟨a, vs, rfl, ea, l, kd⟩ := (Rs.rep e1 e1.last hr).lstK hu
  refine ⟨a, rfl, ⟨vs, .inl (.inl ea)⟩, k _ _ ρ1 H1 (Itl K a) [some (.ref a)] [t] h1 e1 rfl ⟨fun i H σ ρ hi hp e2 => ?_, fun H σ ρ hp e2 => ?_, fun i H σ ρ y H' zs ws' hi hp e2 hy => ?_⟩⟩
  · obtain ⟨a', ws, ea', h2, l2, _⟩ := (Rs.rep e2 e2.last hp).lstK hu
    cases ea'
    rw [List.length_map] at hi
    exact ⟨ws, ws[i]'(by omega), .inl (.inl h2), List.getElem?_eq_getElem _⟩
  · obtain ⟨a', ws, ea', h2, l2, _⟩ := (Rs.rep e2 e2.last hp).lstK hu
    cases ea'
    exact ⟨ws, .inl (.inl h2), by rw [List.length_map]; omega⟩
  · obtain ⟨a', ws, ea', h2, l2, kd2⟩ := (Rs.rep e2 (e2.entry e.tl (k := 0) rfl rfl) hp).lstK hu
    cases ea'
    obtain ⟨rfl, hy⟩ := hy
    obtain ⟨d, hd, rd⟩ := sh_item hs l2 kd2 (hy ws (.inl (.inl h2)))
    exact ⟨.sh d, map_get hd, e2.push rd⟩
theorem rfi_tup {ta : TE} {wa : WE} (ha : Rf W ta wa) : RfI W (iTup K ta) (wiTup wa) := fun σ H Rr ⟨Γ, tv, ρ, tt, χ, Q1, e, h, x, k⟩ => by
  refine ha σ H _ ⟨Γ, tv, ρ, tt, χ, _, e, h, x, fun t ρ1 v H1 ⟨u, hr, xs, ds, hu, hs, h1⟩ e1 => ?_⟩
  have lx : xs.length = ds.length := by rw [allSh_eq hs, List.length_map]
  obtain ⟨a, vs, rfl, ea, l, kd⟩ := (Rs.rep e1 e1.last hr).tupK hu
  refine ⟨a, rfl, ⟨vs, .inl (.inl ea)⟩, k _ _ ρ1 H1 (Itt K a) [some (.ref a)] [t] h1 e1 rfl ⟨fun i H σ ρ hi hp e2 => ?_, fun H σ ρ hp e2 => ?_, fun i H σ ρ y H' zs ws' hi hp e2 hy => ?_⟩⟩
  · obtain ⟨a', ws, ea', h2, l2, _⟩ := (Rs.rep e2 e2.last hp).tupK hu
    cases ea'
    rw [List.length_map] at hi
    exact ⟨ws, ws[i]'(by omega), .inl (.inl h2), List.getElem?_eq_getElem _⟩
  · obtain ⟨a', ws, ea', h2, l2, _⟩ := (Rs.rep e2 e2.last hp).tupK hu
    cases ea'
    exact ⟨ws, .inl (.inl h2), by rw [List.length_map]; omega⟩
  · obtain ⟨a', ws, ea', h2, l2, kd2⟩ := (Rs.rep e2 (e2.entry e.tl (k := 0) rfl rfl) hp).tupK hu
    cases ea'
    obtain ⟨rfl, hy⟩ := hy
    obtain ⟨d, hd, rd⟩ := sh_item hs l2 kd2 (hy ws (.inl (.inl h2)))
    exact ⟨.sh d, map_get hd, e2.push rd⟩
def wiSeq (wa : WE) : WI := fun χ ρ Q => wiList wa χ ρ Q ∨ wiTup wa χ ρ Q
theorem rfi_seq {ta : TE} {wa : WE} (ha : Rf W ta wa) : RfI W (iSeq K ta) (wiSeq wa) := fun σ H Rr ⟨Γ, tv, ρ, tt, χ, Q1, e, h, x, k⟩ => h.elim (fun h => .inl (rfi_list ha σ H Rr ⟨Γ, tv, ρ, tt, χ, Q1, e, h, x, k⟩)) fun h => .inr (rfi_tup ha σ H Rr ⟨Γ, tv, ρ, tt, χ, Q1, e, h, x, k⟩)
def rngT (lo : Int) (n : Nat) : List T := (List.range n).map fun k => .sh (.int (lo + (k : Nat)))
theorem wk_rng {Γ : Cg} {tv : List (Option V)} {tt : List T} {lo : Int} {n : Nat} (l : tv.length = tt.length) : Wk Γ tv [] tt [] (fun _ => True) (Itr lo n) (rngT lo n) := by
  have ln : (rngT lo n).length = n := by simp [rngT]
  refine ⟨fun i H σ ρ hi _ _ => by rw [ln] at hi; exact hi, fun H σ ρ _ _ => by rw [ln]; exact Nat.le_refl _, fun i H σ ρ y H' zs ws hi _ e hy => ?_⟩
  obtain ⟨rfl, rfl⟩ := hy
  rw [ln] at hi
  refine ⟨.sh (.int (lo + i)), ?_, e.push (.int _)⟩
  unfold rngT
  rw [List.getElem?_map, List.getElem?_range hi]
  rfl
def wiRng1 (wa : WA) : WI := fun χ ρ Q => wa χ ρ fun ts ρ1 => ∃ j : Int, ts = [.sh (.int j)] ∧ (-(2 ^ 62) ≤ j ∧ j < 2 ^ 62) ∧ Q (rngT 0 j.toNat) (fun _ => True) ρ1
def wiRng2 (wa : WA) : WI := fun χ ρ Q => wa χ ρ fun ts ρ1 => ∃ i j : Int, ts = [.sh (.int i), .sh (.int j)] ∧ (-(2 ^ 62) ≤ i ∧ i < 2 ^ 62 ∧ -(2 ^ 62) ≤ j ∧ j < 2 ^ 62) ∧ Q (rngT i (j - i).toNat) (fun _ => True) ρ1
theorem rfi_rng1 {ta : TA} {wa : WA} (ha : RfA W ta wa) : RfI W (iRng1 ta) (wiRng1 wa) := fun σ H Rr ⟨Γ, tv, ρ, tt, χ, Q1, e, h, x, k⟩ => by
  refine ha σ H _ ⟨Γ, tv, ρ, tt, χ, _, e, h, x, fun ts ρ1 vs H1 ⟨j, et, ⟨b1, b2⟩, h1⟩ e1 => ?_⟩
  subst et
  obtain ⟨v, rfl⟩ := e1.vs1 e.tl
  have r := e1.one
  cases r with
  | sh r =>
  cases r
  exact ⟨j, rfl, b1, b2, k _ _ ρ1 H1 _ [] [] h1 (by rw [List.append_nil, List.append_nil]; exact e1.drop e.tl) rfl (wk_rng e.tl)⟩
theorem rfi_rng2 {ta : TA} {wa : WA} (ha : RfA W ta wa) : RfI W (iRng2 ta) (wiRng2 wa) := fun σ H Rr ⟨Γ, tv, ρ, tt, χ, Q1, e, h, x, k⟩ => by
  refine ha σ H _ ⟨Γ, tv, ρ, tt, χ, _, e, h, x, fun ts ρ1 vs H1 ⟨i, j, et, bb, h1⟩ e1 => ?_⟩
  subst et
  obtain ⟨v, w, rfl⟩ := e1.vs2 e.tl
  obtain ⟨r1, r2⟩ := e1.two e.tl
  cases r1 with
  | sh r1 =>
  cases r1
  cases r2 with
  | sh r2 =>
  cases r2
  exact ⟨i, j, rfl, bb, k _ _ ρ1 H1 _ [] [] h1 (by rw [List.append_nil, List.append_nil]; exact e1.drop e.tl) rfl (wk_rng e.tl)⟩
def wiStr (wa : WE) : WI := fun χ ρ Q => wa χ ρ fun t ρ1 => ∃ z : Str, t = .sh (.str z) ∧ Q (z.cps.toList.map fun c => .sh (.str ⟨#[c]⟩)) (fun _ => True) ρ1
theorem rfi_str {ta : TE} {wa : WE} (ha : Rf W ta wa) : RfI W (iStr ta) (wiStr wa) := fun σ H Rr ⟨Γ, tv, ρ, tt, χ, Q1, e, h, x, k⟩ => by
  refine ha σ H _ ⟨Γ, tv, ρ, tt, χ, _, e, h, x, fun t ρ1 v H1 ⟨z, et, h1⟩ e1 => ?_⟩
  subst et
  have r := e1.last
  cases r with
  | sh r =>
  cases r
  have w := walk_str (z := z)
  refine ⟨z, rfl, k _ _ ρ1 H1 _ [] [] h1 (by rw [List.append_nil, List.append_nil]; exact e1.drop e.tl) rfl ⟨fun i H σ ρ hi _ _ => w.goes i H (by simpa using hi) True.intro, fun H σ ρ _ _ => by simpa using w.stops H True.intro, fun i H σ ρ y H' zs ws hi _ e2 hy => ?_⟩⟩
  obtain ⟨rfl, c, hc, rfl⟩ := w.yields i H y H' (by simpa using hi) True.intro hy
  exact ⟨.sh (.str ⟨#[c]⟩), by rw [List.getElem?_map]; simp [hc], e2.push (.str _)⟩
def enumT (ds : List D) : List T := ds.zipIdx.map fun p => .sh (.tup [.int (p.2 : Nat), p.1])
theorem enumT_len (ds : List D) : (enumT ds).length = ds.length := by simp [enumT]
theorem enumT_get {ds : List D} {i : Nat} {d : D} (h : ds[i]? = some d) : (enumT ds)[i]? = some (.sh (.tup [.int (i : Nat), d])) := by
  unfold enumT
  rw [List.getElem?_map, List.getElem?_zipIdx, h]
  simp
theorem En.pair {Γ : Cg} {H : Hp} {σ : L2.St} {tv : List (Option V)} {ρ : Env} {tt : List T} {x y : V} {d d' : D} {q : Addr} (e : En Γ H σ tv ρ tt) (r : RD H (Av Γ (ownsL (ρ ++ tt))) x d) (r' : RD H (Av Γ (ownsL (ρ ++ tt))) y d') (hq : H q = none) : En Γ (upd H q (.tup [x, y])) σ (tv ++ [some (.ref q)]) ρ (tt ++ [.sh (.tup [d, d'])]) := by
  have e1 := e.push r
  have e2 := e1.push (d := d') (v := y) (r'.mono fun b o av hb => ⟨.of hb hb, by
    have : ownsL (ρ ++ (tt ++ [T.sh d])) = ownsL (ρ ++ tt) := by simp only [ownsL_append, ownsL_one, T.owns, List.append_nil]
    rw [this]; exact av⟩)
  rw [List.append_assoc, List.append_assoc] at e2
  exact .of (Ok.tup (vs := [x, y]) (us := [.sh d, .sh d']) e2.as (e2.l2 rfl) hq) e2.len
def wiEnum (wa : WA) : WI := fun χ ρ Q => wa χ ρ fun ts ρ1 => ∃ t, ts = [t] ∧ ∃ u, Rs ρ1 t u ∧ ∃ xs ds, u.lstK = some xs ∧ allSh xs = some ds ∧ Q (enumT ds) (fun ρ => Rs ρ t u) ρ1
def wiEnumT (wa : WA) : WI := fun χ ρ Q => wa χ ρ fun ts ρ1 => ∃ t, ts = [t] ∧ ∃ u, Rs ρ1 t u ∧ ∃ xs ds, u.tupK = some xs ∧ allSh xs = some ds ∧ Q (enumT ds) (fun ρ => Rs ρ t u) ρ1
theorem rfi_enum {ta : TA} {wa : WA} (ha : RfA W ta wa) : RfI W (iEnum K ta) (wiEnum wa) := fun σ H Rr ⟨Γ, tv, ρ, tt, χ, Q1, e, h, x, k⟩ => by
  refine ha σ H _ ⟨Γ, tv, ρ, tt, χ, _, e, h, x, fun ts ρ1 vs H1 ⟨t, et, u, hr, xs, ds, hu, hs, h1⟩ e1 => ?_⟩
  subst et
  obtain ⟨v, rfl⟩ := e1.vs1 e.tl
  have lx : xs.length = ds.length := by rw [allSh_eq hs, List.length_map]
  obtain ⟨a, vs, rfl, ea, l, kd⟩ := (Rs.rep e1 e1.one hr).lstK hu
  refine ⟨a, vs, rfl, .inl (.inl ea), k _ _ ρ1 H1 (Ite K a) [some (.ref a)] [t] h1 e1 rfl ⟨fun i H σ ρ hi hp e2 => ?_, fun H σ ρ hp e2 => ?_, fun i H σ ρ y H' zs ws' hi hp e2 hy => ?_⟩⟩
  · obtain ⟨a', ws, ea', h2, l2, _⟩ := (Rs.rep e2 e2.last hp).lstK hu
    cases ea'
    rw [enumT_len] at hi
    exact ⟨ws, ws[i]'(by omega), .inl (.inl h2), List.getElem?_eq_getElem _⟩
  · obtain ⟨a', ws, ea', h2, l2, _⟩ := (Rs.rep e2 e2.last hp).lstK hu
    cases ea'
    exact ⟨ws, .inl (.inl h2), by rw [enumT_len]; omega⟩
  · obtain ⟨a', ws, ea', h2, l2, kd2⟩ := (Rs.rep e2 (e2.entry e.tl (k := 0) rfl rfl) hp).lstK hu
    cases ea'
    obtain ⟨q, y', rfl, hq, rfl, hy⟩ := hy
    obtain ⟨d, hd, rd⟩ := sh_item hs l2 kd2 (hy ws (.inl (.inl h2)))
    exact ⟨_, enumT_get hd, e2.pair (.int _) rd hq⟩
theorem rfi_enumT {ta : TA} {wa : WA} (ha : RfA W ta wa) : RfI W (iEnumT K ta) (wiEnumT wa) := fun σ H Rr ⟨Γ, tv, ρ, tt, χ, Q1, e, h, x, k⟩ => by
  refine ha σ H _ ⟨Γ, tv, ρ, tt, χ, _, e, h, x, fun ts ρ1 vs H1 ⟨t, et, u, hr, xs, ds, hu, hs, h1⟩ e1 => ?_⟩
  subst et
  obtain ⟨v, rfl⟩ := e1.vs1 e.tl
  have lx : xs.length = ds.length := by rw [allSh_eq hs, List.length_map]
  obtain ⟨a, vs, rfl, ea, l, kd⟩ := (Rs.rep e1 e1.one hr).tupK hu
  refine ⟨a, vs, rfl, .inl (.inl ea), k _ _ ρ1 H1 (ItE K a) [some (.ref a)] [t] h1 e1 rfl ⟨fun i H σ ρ hi hp e2 => ?_, fun H σ ρ hp e2 => ?_, fun i H σ ρ y H' zs ws' hi hp e2 hy => ?_⟩⟩
  · obtain ⟨a', ws, ea', h2, l2, _⟩ := (Rs.rep e2 e2.last hp).tupK hu
    cases ea'
    rw [enumT_len] at hi
    exact ⟨ws, ws[i]'(by omega), .inl (.inl h2), List.getElem?_eq_getElem _⟩
  · obtain ⟨a', ws, ea', h2, l2, _⟩ := (Rs.rep e2 e2.last hp).tupK hu
    cases ea'
    exact ⟨ws, .inl (.inl h2), by rw [enumT_len]; omega⟩
  · obtain ⟨a', ws, ea', h2, l2, kd2⟩ := (Rs.rep e2 (e2.entry e.tl (k := 0) rfl rfl) hp).tupK hu
    cases ea'
    obtain ⟨q, y', rfl, hq, rfl, hy⟩ := hy
    obtain ⟨d, hd, rd⟩ := sh_item hs l2 kd2 (hy ws (.inl (.inl h2)))
    exact ⟨_, enumT_get hd, e2.pair (.int _) rd hq⟩
def wipeE (ρ : Env) : List Nat → Env
  | [] => ρ
  | v :: vs => (wipeE ρ vs).set v .no
theorem wipeE_len (ρ : Env) : ∀ vs, (wipeE ρ vs).length = ρ.length
  | [] => rfl
  | v :: vs => by rw [wipeE, List.length_set, wipeE_len ρ vs]
theorem cn_drop (b : Addr) {ts : List T} {i : Nat} : cn b (ownsL (ts.set i .no)) ≤ cn b (ownsL ts) := by
  by_cases h : i < ts.length
  · have := cn_set b (u := T.no) (List.getElem?_eq_getElem h)
    have : cn b (T.owns .no) = 0 := by rw [T.owns]; rfl
    omega
  · rw [List.set_eq_of_length_le (by omega)]
    exact Nat.le_refl _
theorem cn_wipe (b : Addr) (ρ : Env) : ∀ vs, cn b (ownsL (wipeE ρ vs)) ≤ cn b (ownsL ρ)
  | [] => Nat.le_refl _
  | v :: vs => Nat.le_trans (cn_drop b) (cn_wipe b ρ vs)
theorem wipeE_get {ρ : Env} {k : Nat} {t : T} : ∀ {vs : List Nat}, (wipeE ρ vs)[k]? = some t → t = .no ∨ (ρ[k]? = some t ∧ k ∉ vs)
  | [], h => .inr ⟨h, by simp⟩
  | v :: vs, h => by
    rw [wipeE] at h
    by_cases hv : v = k
    · subst hv
      by_cases hl : v < (wipeE ρ vs).length
      · rw [List.getElem?_set_self hl] at h; cases h; exact .inl rfl
      · rw [List.getElem?_set, if_pos rfl, if_neg hl] at h; cases h
    · rw [List.getElem?_set_ne hv] at h
      rcases wipeE_get h with h | ⟨h, n⟩
      · exact .inl h
      · exact .inr ⟨h, fun m => (List.mem_cons.mp m).elim (fun z => hv z.symm) n⟩
theorem wipe_get {σ : L2.St} {k : Nat} : ∀ {vs : List Nat}, k ∉ vs → (wipe σ vs)[k]? = σ[k]?
  | [], _ => rfl
  | v :: vs, h => by
    unfold wipe
    rw [List.getElem?_set_ne (fun (z : v = k) => h (by rw [z]; exact List.mem_cons_self)), wipe_get fun m => h (List.mem_cons_of_mem _ m)]
/-- between two states that agree outside vs -/
theorem En.wiped {Γ : Cg} {H : Hp} {σ σ' : L2.St} {tv : List (Option V)} {ρ : Env} {tt : List T} {vs : List Nat} (e : En Γ H σ tv ρ tt) (hl : σ'.length = σ.length) (h : ∀ k, k ∉ vs → σ'[k]? = σ[k]?) : En Γ H σ' tv (wipeE ρ vs) tt := by
  refine ⟨?_, by rw [hl, wipeE_len]; exact e.len⟩
  refine e.ok.re (by simp [hl, wipeE_len, e.len, e.tl]) (fun b => by have := cn_wipe b ρ vs; simp only [ownsL_append, cn_app]; omega) fun k x t h1 h2 => ?_
  rcases ap_cases h1 with h1 | ⟨j, rfl, hj⟩
  · have hk := (List.getElem?_eq_some_iff.mp h1).1
    rw [List.getElem?_append_left (by rw [wipeE_len, ← e.len]; omega)] at h2
    rcases wipeE_get h2 with rfl | ⟨h2, n⟩
    · exact .inr (.no _)
    · rw [h k n] at h1
      exact .inl ⟨k, ap_left h1, ap_left h2⟩
  · have : σ'.length + j = (wipeE ρ vs).length + j := by rw [hl, wipeE_len, e.len]
    rw [this, List.getElem?_append_right (by omega), Nat.add_sub_cancel_left] at h2
    exact .inl ⟨σ.length + j, ap_right hj, by rw [e.len]; exact ap_right h2⟩
theorem wipe_in {k : Nat} (s : L2.St) : ∀ {vs : List Nat}, k ∈ vs → (wipe s vs)[k]? = if k < s.length then some none else none
  | [], hk => by simp at hk
  | v :: vs, hk => by
    unfold wipe
    by_cases c : v = k
    · subst c
      rw [List.getElem?_set, if_pos rfl, wipe_length]
    · rw [List.getElem?_set_ne c]
      exact wipe_in s ((List.mem_cons.mp hk).elim (fun z => absurd z.symm c) id)
theorem wipe_eq {σ σ' : L2.St} {vs : List Nat} (hl : σ'.length = σ.length) (h : ∀ k, k ∉ vs → σ'[k]? = σ[k]?) : wipe σ' vs = wipe σ vs := by
  apply List.ext_getElem?
  intro k
  by_cases hk : k ∈ vs
  · rw [wipe_in _ hk, wipe_in _ hk, hl]
  · rw [wipe_get hk, wipe_get hk]
    exact h k hk
theorem wipe_wipe (σ : L2.St) (vs : List Nat) : wipe (wipe σ vs) vs = wipe σ vs := wipe_eq (wipe_length σ vs) fun k hk => wipe_get hk
/-- the tree as it is, or given away -/
def PubT (y y' : T) : Prop := y' = y ∨ ∃ d, y.pub = some d ∧ y' = .sh d
theorem En.pubt {Γ : Cg} {H : Hp} {σ : L2.St} {tv : List (Option V)} {ρ : Env} {tt : List T} {x : Option V} {y y' : T} (e : En Γ H σ (tv ++ [x]) ρ (tt ++ [y])) (l : tv.length = tt.length) (p : PubT y y') : En Γ H σ (tv ++ [x]) ρ (tt ++ [y']) := by
  rcases p with rfl | ⟨d, h, rfl⟩
  · exact e
  · exact e.pubT l h
/-- [elt for target in iter if test] -/
def wLc (wi : WI) (g : WG) (wt : WT) (we : WE) (vs : List Nat) : WE := fun χ ρ Q => wi χ ρ fun its P ρ1 => ∃ I : Nat → Env → List T → Prop, I 0 (wipeE ρ1 vs) [] ∧ (∀ i ρ2 acc, I i ρ2 acc → P ρ2 ∧ acc.length < 10000) ∧
  (∀ (i : Nat) (t : T) (ρ2 : Env) (acc : List T), its[i]? = some t → I i ρ2 acc → g t ρ2 fun ρ3 => wt noX ρ3 fun b ρ4 => if b = true then we noX ρ4 fun y ρ5 => ∃ y', PubT y y' ∧ I (i + 1) (wipeE ρ5 vs) (acc ++ [y']) else I (i + 1) (wipeE ρ4 vs) acc) ∧ ∀ ρ2 acc, I its.length ρ2 acc → ∀ a, Q (.lst a acc) (wipeE ρ2 vs)
theorem xok_none {Γ : Cg} {tv : List (Option V)} {tt : List T} {σ : L2.St} {c : Bool} (h : c = true → Calm Γ.H0) : XOk ⟨fun _ _ _ _ => False, c⟩ Γ tv tt σ noX := ⟨h, fun _ _ _ _ _ _ z => z.elim⟩
theorem lcCore {g : TG} {tt' : TT} {te : TE} {vs : List Nat} {wg : WG} {wt : WT} {we : WE} {c : Bool} (hg : RfG (fun k => k ∉ vs) g wg) (ht : RfT (W0 c) tt' wt) (he : Rf (W0 c) te we) {Γ : Cg} {H1 : Hp} {σ : L2.St} {tv xv : List (Option V)} {ρ1 : Env} {tt xt : List T} {P : Env → Prop} {J : It} {its : List T} {I : Nat → Env → List T → Prop} {Qd : Addr → Hp → Prop} (cal : c = true → Calm Γ.H0) (l : tv.length = tt.length) (lx : xv.length = xt.length)
    (i0 : I 0 (wipeE ρ1 vs) []) (hP : ∀ i ρ2 acc, I i ρ2 acc → P ρ2 ∧ acc.length < 10000)
    (turn : ∀ (i : Nat) (t : T) (ρ2 : Env) (acc : List T), its[i]? = some t → I i ρ2 acc → wg t ρ2 fun ρ3 => wt noX ρ3 fun b ρ4 => if b = true then we noX ρ4 fun y ρ5 => ∃ y', PubT y y' ∧ I (i + 1) (wipeE ρ5 vs) (acc ++ [y']) else I (i + 1) (wipeE ρ4 vs) acc)
    (e1 : En Γ H1 σ (tv ++ xv) ρ1 (tt ++ xt)) (wk : Wk Γ tv xv tt xt P J its) (fin : ∀ D H2 ρ2 acc, I its.length ρ2 acc → En Γ H2 σ (tv ++ (xv ++ [some (.ref D)])) (wipeE ρ2 vs) (tt ++ (xt ++ [.lst D acc])) → Qd D H2) :
    ∀ D, H1 D = none → ∃ Wn : Nat → Nat → Hp → Prop, (∃ m, Wn 0 m (upd H1 D (.lst []))) ∧ ∀ i m H, Wn i m H →
      (J.stop i H ∧ Qd D H) ∨ (J.go i H ∧ ∃ Nx : Hp → Prop, (∀ H', Nx H' → ∃ m', m' < m ∧ Wn (i + 1) m' H') ∧ ∀ x H', J.yld i H x H' → g x (wipe σ vs) H' fun σ2 H2 => wipe σ2 vs = wipe σ vs ∧ tt' σ2 H2 fun b H3 =>
        if b = true then te σ2 H3 fun y H4 => ∃ acc, H4 D = some (.lst acc) ∧ acc.length < sizeLine ∧ Nx (upd H4 D (.lst (acc ++ [y]))) else Nx H3) := by
  intro D hD
  refine ⟨fun i m H2 => m = its.length - i ∧ i ≤ its.length ∧ ∃ ρ2 acc, I i ρ2 acc ∧ En Γ H2 (wipe σ vs) (tv ++ (xv ++ [some (.ref D)])) ρ2 (tt ++ (xt ++ [.lst D acc])), ⟨its.length, by simp, Nat.zero_le _, _, [], i0, ?_⟩, ?_⟩
  · have e2 : En Γ (upd H1 D (.lst [])) σ (tv ++ (xv ++ [some (.ref D)])) ρ1 (tt ++ (xt ++ [.lst D []])) := by
      rw [← List.append_assoc, ← List.append_assoc]
      refine .of1 (Ok.alloc (ys := []) (us := []) (u := .lst D []) (vs := []) (by simpa only [List.append_nil] using e1.ok) e1.ok.len hD (fun a o z => by rw [upd_ne (ne_of_none z hD)]; exact z) (fun a z => ?_) (nofrz (by intro o kvs z; cases z)) .lst upd_same rfl (fun b => Nat.le_refl _) (fun j v t h2 => by simp at h2)) e1.len
      by_cases q : a = D
      · rw [q]; exact hD
      · rw [upd_ne q] at z; exact z
    exact e2.wiped (wipe_length σ vs) fun k hk => wipe_get hk
  rintro i m H2 ⟨rfl, hil, ρ2, acc, hI, e2⟩
  obtain ⟨hp, hacc⟩ := hP i ρ2 acc hI
  have e2d : En Γ H2 (wipe σ vs) (tv ++ xv) ρ2 (tt ++ xt) := En.drop (ys := [some (.ref D)]) (us := [.lst D acc]) (by rw [List.append_assoc, List.append_assoc]; exact e2) (by simp [l, lx])
  by_cases hlt : i < its.length
  · refine .inr ⟨wk.go i H2 _ ρ2 hlt hp e2d, fun H3 => ∃ ρ3 acc3, I (i + 1) ρ3 acc3 ∧ En Γ H3 (wipe σ vs) (tv ++ (xv ++ [some (.ref D)])) ρ3 (tt ++ (xt ++ [.lst D acc3])), fun H3 ⟨ρ3, acc3, h3, e3⟩ => ⟨its.length - (i + 1), by omega, rfl, hlt, ρ3, acc3, h3, e3⟩, fun y H3 hy => ?_⟩
    obtain ⟨t, ht1, e3⟩ := wk.yld i H2 _ ρ2 y H3 [some (.ref D)] [.lst D acc] hlt hp e2 hy
    refine hg Γ H3 (wipe σ vs) _ ρ2 _ y t _ _ e3 e2.tl (turn i t ρ2 acc ht1 hI) fun ρ3 σ3 H4 h4 p3 l3 e4 => ?_
    have hw3 : wipe σ3 vs = wipe σ vs := (wipe_eq l3 p3).trans (wipe_wipe σ vs)
    refine ⟨hw3, ?_⟩
    have l3' : (wipe σ vs).length = σ3.length := l3.symm
    refine ht σ3 H4 _ ⟨Γ, _, ρ3, _, noX, _, e4, h4, xok_none cal, fun b ρ4 H5 h5 e5 => ?_⟩
    cases b with
    | false => exact iteF ⟨_, acc, h5, e5.wiped l3' fun k hk => (p3 k hk).symm⟩
    | true =>
      refine iteT (he σ3 H5 _ ⟨Γ, _, ρ4, _, noX, _, e5, h5, xok_none cal, fun yt0 ρ5 yv H6 h60 e60 => ?_⟩)
      obtain ⟨yt, hpt', h6⟩ := h60
      have e6 := e60.pubt e5.tl hpt'
      -- the list at D grows
      have hgt : gt (ρ5 ++ (tt ++ (xt ++ [T.lst D acc]))) (ρ5.length + (tt.length + xt.length)) [] = some (.lst D acc) := by
        unfold gt
        rw [List.getElem?_append_right (by omega), Nat.add_sub_cancel_left, List.getElem?_append_right (by omega), Nat.add_sub_cancel_left, List.getElem?_append_right (by omega), Nat.sub_self]
        rfl
      have hpt : ∀ u, pt (ρ5 ++ (tt ++ (xt ++ [T.lst D acc]))) (ρ5.length + (tt.length + xt.length)) [] u = ρ5 ++ (tt ++ (xt ++ [u])) := fun u => by
        unfold pt
        have : (ρ5 ++ (tt ++ (xt ++ [T.lst D acc])))[ρ5.length + (tt.length + xt.length)]? = some (.lst D acc) := by
          rw [List.getElem?_append_right (by omega), Nat.add_sub_cancel_left, List.getElem?_append_right (by omega), Nat.add_sub_cancel_left, List.getElem?_append_right (by omega), Nat.sub_self]
          rfl
        rw [this]
        show (ρ5 ++ (tt ++ (xt ++ [T.lst D acc]))).set _ (T.put _ [] u) = _
        rw [List.set_append_right _ _ (by omega), Nat.add_sub_cancel_left, List.set_append_right _ _ (by omega), Nat.add_sub_cancel_left, List.set_append_right _ _ (by omega), Nat.sub_self]
        rfl
      have ok6 : Ok Γ H6 ((σ3 ++ (tv ++ (xv ++ [some (.ref D)]))) ++ [some yv]) ((ρ5 ++ (tt ++ (xt ++ [T.lst D acc]))) ++ [yt]) := e6.as1
      obtain ⟨o, ws, nd, ho, lv, kd, f⟩ := Ok.upd ok6 (e6.l2 rfl) hgt rfl
      cases nd
      have lv' : ws.length = acc.length := lv
      refine ⟨ws, ho, szl' (by omega), wipeE ρ5 vs, acc ++ [yt], h6, ?_⟩
      have ok7 := f (.lst (ws ++ [yv])) (.lst D (acc ++ [yt])) (ws ++ [yv]) [] [] .lst (by simp [T.kids, lv']) rfl (fun b => ?_) (fun z t' hz => ?_)
      · rw [List.append_nil, List.append_nil, hpt] at ok7
        exact En.wiped (σ := σ3) ⟨ok7, e6.len⟩ l3' fun k hk => (p3 k hk).symm
      · simp only [T.kids, ownsL_append, ownsL_one, ownsL_nil, cn_app]
        show _ + _ + 0 ≤ _
        omega
      · rcases hz with ⟨j, v, rfl, q1, q2⟩ | ⟨j, q1, q2⟩
        · simp only [T.kids] at q2
          rcases ap_cases q1 with q1 | ⟨n, rfl, hn⟩
          · have hj := (List.getElem?_eq_some_iff.mp q1).1
            rw [List.getElem?_append_left (by omega)] at q2
            exact .inl ⟨j, v, rfl, q1, q2⟩
          · rw [lv', List.getElem?_append_right (by omega), Nat.add_sub_cancel_left] at q2
            obtain ⟨rfl, rfl⟩ := one_cases hn q2
            exact .inr (.inl ⟨0, rfl, rfl⟩)
        · simp at q1
  · have : i = its.length := by omega
    subst this
    refine .inl ⟨wk.stop H2 _ ρ2 hp e2d, ?_⟩
    have e3 := e2.wiped (σ' := σ) (vs := vs) (wipe_length σ vs).symm fun k hk => (wipe_get hk).symm
    exact fin D H2 ρ2 acc hI e3
theorem rf_lc {wi : TI} {g : TG} {tt' : TT} {te : TE} {vs : List Nat} {w : WI} {wg : WG} {wt : WT} {we : WE} (hi : RfI W wi w) (hg : RfG (fun k => k ∉ vs) g wg) (ht : RfT (W0 W.c) tt' wt) (he : Rf (W0 W.c) te we) : Rf W (tLc wi g tt' te vs) (wLc w wg wt we vs) := fun σ H Q ⟨Γ, tv, ρ, tt, χ, Q1, e, h, x, k⟩ => by
  refine hi σ H _ ⟨Γ, tv, ρ, tt, χ, _, e, h, x, fun its P ρ1 H1 J xv xt ⟨I, i0, hP, turn, fin⟩ e1 lx wk => ?_⟩
  exact lcCore hg ht he (Qd := fun D H2 => Q (.ref D) H2) x.1 e.tl lx i0 hP turn e1 wk fun D H2 ρ2 acc hI e3 => k _ _ _ H2 (fin ρ2 acc hI D) (En.mid (ys := xv) (us := xt) (by rw [List.append_assoc, List.append_assoc]; exact e3) e.tl lx)
def gwTup (n : Nat) (w : List T → Env → (Env → Prop) → Prop) : WG := fun t ρ k => ∃ ds, t = .sh (.tup ds) ∧ ds.length = n ∧ w (ds.map T.sh) ρ k
def RfGs (B : Nat → Prop) (g : TGs) (w : List T → Env → (Env → Prop) → Prop) : Prop := ∀ (Γ : Cg) (H : Hp) (σ : L2.St) (tv : List (Option V)) (ρ : Env) (tt : List T) (vs : List V) (ds : List D) (k : Env → Prop) (Q : L2.St → Hp → Prop), En Γ H σ tv ρ tt → vs.length = ds.length → (∀ (j : Nat) (v : V) (d : D), vs[j]? = some v → ds[j]? = some d → RD H (Av Γ (ownsL (ρ ++ tt))) v d) → w (ds.map T.sh) ρ k → (∀ ρ' σ' H', k ρ' → (∀ j, B j → σ'[j]? = σ[j]?) → σ'.length = σ.length → En Γ H' σ' tv ρ' tt → Q σ' H') → g vs σ H Q
/-- names alone -/
def gwCons (i : Nat) (w : List T → Env → (Env → Prop) → Prop) : List T → Env → (Env → Prop) → Prop := fun ts ρ k => ∃ t r, ts = t :: r ∧ i < ρ.length ∧ w r (ρ.set i t) k
theorem rfgs_nil {B : Nat → Prop} {w : List T → Env → (Env → Prop) → Prop} : RfGs B gNil (fun ts ρ k => ts = [] ∧ k ρ) := fun Γ H σ tv ρ tt vs ds k Q e l kd ⟨h0, h⟩ q => by
  have : ds = [] := by simpa using h0
  subst this
  exact ⟨List.eq_nil_of_length_eq_zero l, q ρ σ H h (fun _ _ => rfl) rfl e⟩
theorem rfgs_cons {B : Nat → Prop} {i : Nat} {u : TGs} {w : List T → Env → (Env → Prop) → Prop} (h : ¬ B i) (hu : RfGs B u w) : RfGs B (gCons (gName i) u) (gwCons i w) := fun Γ H σ tv ρ tt vs ds k Q e l kd ⟨t, r, h0, hi, h1⟩ q => by
  cases ds with
  | nil => cases h0
  | cons d ds =>
  cases vs with
  | nil => simp at l
  | cons v vs =>
  rw [List.map_cons] at h0
  cases h0
  refine ⟨v, vs, rfl, ?_⟩
  have e1 := (e.push (kd 0 v d rfl rfl)).set hi
  have hav : ∀ b, Av Γ (ownsL (ρ ++ tt)) b → Av Γ (ownsL (ρ.set i (.sh d) ++ tt)) b := fun b av => av_le (fun c => by
    obtain ⟨x0, hx0⟩ : ∃ x0, ρ[i]? = some x0 := ⟨ρ[i], List.getElem?_eq_getElem hi⟩
    have := cn_set c (u := .sh d) hx0
    rw [cn_noT] at this
    simp only [ownsL_append, cn_app]
    omega) av
  refine hu Γ H (σ.set i (some v)) tv (ρ.set i (.sh d)) tt vs ds k Q e1 (by simpa using l) (fun j v' d' q1 q2 => (kd (j + 1) v' d' (by rw [List.getElem?_cons_succ]; exact q1) (by rw [List.getElem?_cons_succ]; exact q2)).mono fun b o av hb => ⟨.of hb hb, hav b av⟩) h1 fun ρ' σ' H' hk hB hl e2 => q ρ' σ' H' hk (fun j hj => ?_) (by rw [hl, List.length_set]) e2
  rw [hB j hj, List.getElem?_set_ne (fun (z : i = j) => h (by rw [z]; exact hj))]
theorem rfg_tup {B : Nat → Prop} {n : Nat} {u : TGs} {w : List T → Env → (Env → Prop) → Prop} (hu : RfGs B u w) : RfG B (gTup K n u) (gwTup n w) := fun Γ H σ tv ρ tt v t k Q e l ⟨ds, et, hn, h⟩ q => by
  subst et
  have r := e.last
  cases r with
  | sh r =>
  cases r with
  | @tup a vs _ er _ lv kd =>
  have eo : ownsL (ρ ++ (tt ++ [T.sh (.tup ds)])) = ownsL (ρ ++ tt) := by simp only [ownsL_append, ownsL_one, T.owns, List.append_nil]
  exact ⟨a, vs, rfl, .inl (.inl er), lv.trans hn, hu Γ H σ tv ρ tt vs ds k Q (e.drop l) lv (fun j v d q1 q2 => by have := kd j v d q1 q2; rw [eo] at this; exact this) h q⟩
def wAug (i : Nat) (f : Int → Int → Int) (w : WE) : WS := fun k ρ => ∃ a, ρ[i]? = some (.sh (.int a)) ∧ w k.xc ρ fun t ρ1 => ∃ b, t = .sh (.int b) ∧ i < ρ1.length ∧ k.nx (ρ1.set i (.sh (.int (f a b))))
theorem rfs_aug {bs : List Nat} {i : Nat} {f : Int → Int → Int} {t : TE} {w : WE} (hb : i ∉ bs) (ha : Rf W t w) : RfS bs W (tAug i t (ipI f)) (wAug i f w) := fun D σ H ⟨Γ, tv, ρ, tt, k, e, ⟨a, h0, h⟩, o⟩ => by
  obtain ⟨y, hy⟩ := get_of_len e.len h0
  have r := e.ok.rep i y _ (ap_left hy) (ap_left h0)
  cases r with
  | sh r =>
  cases r
  refine ⟨_, hy, ha σ H _ ⟨Γ, tv, ρ, tt, k.xc, _, e, h, o.x, fun t ρ1 v H1 ⟨b, et, hi, h1⟩ e1 => ?_⟩⟩
  subst et
  have r := e1.last
  cases r with
  | sh r =>
  cases r
  exact ⟨a, b, rfl, rfl, o.nx _ _ H1 h1 (.set hb) (((e1.drop e.tl).push (.int (f a b))).set hi)⟩
def wRaise (C : Addr) (fl : List Str) (wa : WA) : WS := fun k ρ => wa k.xc ρ fun ts ρ1 => ∃ ds, pubL ts = some ds ∧ ds.length = fl.length ∧ ds.length ≤ 900 ∧ k.xc C fl.reverse ds.reverse ρ1
theorem En.pubAll {Γ : Cg} {H : Hp} {σ : L2.St} {ρ : Env} : ∀ {ts : List T} {ds : List D} {tv xs : List (Option V)} {tt : List T}, pubL ts = some ds → En Γ H σ (tv ++ xs) ρ (tt ++ ts) → tv.length = tt.length → En Γ H σ (tv ++ xs) ρ (tt ++ ds.map T.sh)
  | [], ds, tv, xs, tt, h, e, l => by cases h; exact e
  | t :: ts, ds, tv, xs, tt, h, e, l => by
    unfold pubL at h
    cases e1 : t.pub with
    | none => rw [e1] at h; cases h
    | some d =>
    rw [e1] at h
    cases e2 : pubL ts with
    | none => rw [e2] at h; cases h
    | some ds' =>
    rw [e2] at h
    cases h
    cases xs with
    | nil => have := e.tlen l; simp at this
    | cons x xs =>
    have e3 := e.pubT l e1
    have := En.pubAll (tv := tv ++ [x]) (xs := xs) (tt := tt ++ [.sh d]) e2 (by simpa only [List.append_assoc, List.singleton_append] using e3) (by simp [l])
    simpa only [List.append_assoc, List.singleton_append, List.map_cons] using this
theorem R.un {H : Hp} {A : Addr → Prop} {v : V} {d : D} (r : R H A (some v) (.sh d)) : RD H A v d := by
  cases r with
  | sh r => exact r
theorem g_mkZ {H : Hp} {C : Addr} {fl : List Str} {vs : List V} {Q : XK} (hl : vs.length = fl.length) (h1 : vs.length ≤ 1000) (q : ∀ (d : Addr) (Hf : Hp), H d = none → Hf d = some (.xd (xfs fl vs)) → Fr NoA H Hf → (∀ b o u, Hf b = some (.frz o u) → H b = some (.frz o u)) → Q (.ref C) (some d) Hf) : MkX C fl vs H Q := by
  refine ⟨h1, fun a ha => ⟨a, vs, by rw [List.append_nil], hl, upd_same, fun d H' hd ne e1 e2 hk => ⟨rfl, d, _, e1, e2, ?_, ?_⟩⟩⟩
  · rw [upd_ne ne] at hd; exact hd
  · have hd' : H d = none := by rw [upd_ne ne] at hd; exact hd
    refine q d _ hd' upd_same ⟨fun b o e _ => ?_, fun b e => ?_⟩ fun b o u e => ?_
    · have n1 : b ≠ d := ne_of_none e hd'
      have n2 : b ≠ a := ne_of_none e ha
      rw [upd_ne n1, del_ne n2, hk b n2 n1, upd_ne n2]
      exact e
    · by_cases n1 : b = d
      · rw [n1]; exact hd'
      · by_cases n2 : b = a
        · rw [n2]; exact ha
        · rw [upd_ne n1, del_ne n2, hk b n2 n1, upd_ne n2] at e
          exact e
    · by_cases n1 : b = d
      · subst n1; rw [upd_same] at e; cases e
      · by_cases n2 : b = a
        · subst n2
          rw [upd_ne n1] at e
          simp [del] at e
        · rw [upd_ne n1, del_ne n2, hk b n2 n1, upd_ne n2] at e
          exact e
theorem rfs_rx {bs : List Nat} {C : Addr} {fl : List Str} {ta : TA} {wa : WA} {Wd : WX} (hW : ∀ c d σ H, W.x c d σ H → Wd c d σ H) (ha : RfA W ta wa) : RfS bs W (tRx Wd (tMkX C fl ta)) (wRaise C fl wa) := fun D σ H ⟨Γ, tv, ρ, tt, k, e, h, o⟩ => by
  refine ha σ H _ ⟨Γ, tv, ρ, tt, k.xc, _, e, h, o.x, fun ts ρ1 vs H1 ⟨ds, hp, hl, h9, h1⟩ e1 => ?_⟩
  have e2 := e1.pubAll hp e.tl
  have lv : vs.length = ds.length := by have := e2.tlen e.tl; simpa using this
  refine g_mkZ (lv.trans hl) (by omega) fun d Hf hd hf ff fz => hW _ _ _ _ ?_
  refine o.xc C d fl.reverse ds.reverse ρ1 σ Hf h1 (.refl _ _) ?_
  have ok2 : Ok Γ Hf (σ ++ (tv ++ vs.map some)) (ρ1 ++ (tt ++ ds.map T.sh)) := e2.ok.grow (fun a o z => ff.keep a o z (fun q => q)) (fun a z => ff.free a z) fun a o kvs z => fz a o _ z
  have e3 : En Γ Hf σ (tv ++ vs.map some) ρ1 (tt ++ ds.map T.sh) := ⟨ok2, e1.len⟩
  have eo : ownsL (ρ1 ++ (tt ++ ds.map T.sh)) = ownsL (ρ1 ++ tt) := by simp only [ownsL_append, ownsL_sh, List.append_nil]
  have nd : d ∉ ownsL (ρ1 ++ tt) := fun m => by
    obtain ⟨o, z⟩ := (e1.drop e.tl).ok.there d m
    rw [hd] at z
    cases z
  refine (e3.drop e.tl).push ?_
  have hr := RD.exc (H := Hf) (A := Av Γ (ownsL (ρ1 ++ tt))) (a := 0) (C := C) (dd := d) (fvs := xfs fl vs) (xs := ds.reverse) hf ⟨.inr (.inl (e1.ok.fr.free d hd)), nd⟩ (by unfold xfs; rw [List.length_reverse, List.length_zip, List.length_reverse]; omega) (fun j q d' h2 h3 => ?_)
  · have em : (xfs fl vs).map Prod.fst = fl.reverse := by
      unfold xfs
      rw [List.map_reverse, List.map_fst_zip (by omega)]
    rw [em] at hr
    exact hr
  · unfold xfs at h2
    have hj := (List.getElem?_eq_some_iff.mp h3).1
    rw [List.length_reverse] at hj
    rw [List.getElem?_reverse (by rw [List.length_zip]; omega)] at h2
    rw [List.getElem?_reverse (by omega)] at h3
    rw [List.length_zip] at h2
    rw [List.getElem?_zip_eq_some] at h2
    have r := e3.entry e.tl (k := min fl.length vs.length - 1 - j) (map_get h2.2) (map_get (by rw [show min fl.length vs.length - 1 - j = ds.length - 1 - j by omega]; exact h3))
    rw [eo] at r
    exact r.un
end
end E
namespace E
open PySem PySem.Spec PyProof.Rows L2 G
section
variable {W : Wx} {K : PySem.W.Frag} {X : Cx}
def rLenR : List V → Hp → VK → Prop := fun xs H Q => ∃ a kvs, xs = [V.ref a] ∧ Rd H a (.dK kvs) ∧ Q (.int kvs.length) H
def fLenR : Fd := fun ρ as Q => ∃ t, as = [t] ∧ ∃ u, Rs ρ t u ∧ ∃ ks xs, u.dictK = some (ks, xs) ∧ Q (.sh (.int ks.length))
theorem cd_lenR : CbD rLenR fLenR := ⟨fun Γ H σ tv ρ tt vs as Q k e l ⟨t, ea, u, hr, ks, xs, hs, hk⟩ q => by
  subst ea
  obtain ⟨v, rfl⟩ := e.vs1 l
  obtain ⟨a, kvs, rfl, h1, h2, _⟩ := (Rs.rep e e.one hr).dictK hs
  exact ⟨a, kvs, rfl, h1, by rw [show kvs.length = ks.length by rw [← h2, List.length_map]]; exact q _ _ H hk ((e.drop l).push (.int _))⟩⟩
def fLenS : Fd := fun ρ as Q => ∃ z, as = [.sh (.str z)] ∧ z.length ≤ 100000 ∧ Q (.sh (.int z.length))
theorem cd_lenS : CbD rLenS fLenS := ⟨fun Γ H σ tv ρ tt vs as Q k e l ⟨z, ea, hz, hk⟩ q => by
  subst ea
  obtain ⟨v, rfl⟩ := e.vs1 l
  have r := e.one
  cases r with
  | sh r =>
  cases r
  exact ⟨z, rfl, by rw [sizeLine_eq]; omega, q _ _ H hk ((e.drop l).push (.int _))⟩⟩
theorem free_upd {H : Hp} {q : Addr} {o : HO} (hq : H q = none) : ∀ a, upd H q o a = none → H a = none := fun a z => by
  by_cases c : a = q
  · rw [c]; exact hq
  · rw [upd_ne c] at z; exact z
theorem En.newN {Γ : Cg} {H : Hp} {σ : L2.St} {tv ys : List (Option V)} {ρ : Env} {tt us : List T} {q : Addr} {o : HO} {u : T} {vs : List V} (e : En Γ H σ (tv ++ ys) ρ (tt ++ us)) (l : tv.length = tt.length) (hq : H q = none) (nd : Nd u q o vs) (lv : vs.length = u.kids.length)
    (src : ∀ (k : Nat) (v : V) (t : T), vs[k]? = some v → u.kids[k]? = some t → ∃ d, t = .sh d ∧ RD H (Av Γ (ownsL (ρ ++ (tt ++ us)))) v d) : En Γ (upd H q o) σ (tv ++ [some (.ref q)]) ρ (tt ++ [u]) := by
  have hk : ownsL u.kids = [] := by
    have : ∀ ts : List T, (∀ (k : Nat) (t : T), ts[k]? = some t → ∃ d, t = T.sh d) → ownsL ts = [] := fun ts => by
      induction ts with
      | nil => intro _; rw [ownsL]
      | cons t ts ih =>
        intro h
        obtain ⟨d, ed⟩ := h 0 t rfl
        rw [ownsL_cons, ih fun k t' h' => h (k + 1) t' (by rw [List.getElem?_cons_succ]; exact h'), ed, T.owns]
        rfl
    refine this _ fun k t ht => ?_
    obtain ⟨v, hv⟩ := get_of_len lv ht
    obtain ⟨d, ed, _⟩ := src k v t hv ht
    exact ⟨d, ed⟩
  refine .of (Ok.alloc e.as (e.l2 (e.tlen l)) hq (fun a o z => by rw [upd_ne (ne_of_none z hq)]; exact z) (free_upd hq) (nofrz (by intro o kvs z; subst z; cases nd)) nd upd_same lv (fun b => by rw [hk]; exact Nat.zero_le _) fun k v t h1 h2 => ?_) e.len
  obtain ⟨d, ed, rd⟩ := src k v t h1 h2
  exact .inr ⟨d, ed, by rw [List.append_assoc]; exact rd⟩
theorem En.newT {Γ : Cg} {H : Hp} {σ : L2.St} {tv : List (Option V)} {ρ : Env} {tt : List T} {q : Addr} {vs : List V} {ds : List D} (e : En Γ H σ tv ρ tt) (hq : H q = none) (lv : vs.length = ds.length) (src : ∀ (k : Nat) (v : V) (d : D), vs[k]? = some v → ds[k]? = some d → RD H (Av Γ (ownsL (ρ ++ tt))) v d) : En Γ (upd H q (.tup vs)) σ (tv ++ [some (.ref q)]) ρ (tt ++ [.sh (.tup ds)]) := by
  have e1 : En Γ (upd H q (.tup vs)) σ tv ρ tt := ⟨e.ok.grow (fun a o z => by rw [upd_ne (ne_of_none z hq)]; exact z) (free_upd hq) (nofrz (by intro o kvs z; cases z)), e.len⟩
  refine e1.push (.tup upd_same ⟨.inr (.inl (e.ok.fr.free q hq)), fun m => ?_⟩ lv fun k v d h1 h2 => (src k v d h1 h2).mono fun b o av hb => ⟨.of hb (by rw [upd_ne (ne_of_none hb hq)]; exact hb), av⟩)
  obtain ⟨o, z⟩ := e.ok.there q m
  rw [hq] at z
  cases z
def fList : Fd := fun ρ as Q => ∃ t, as = [t] ∧ ∃ u, Rs ρ t u ∧ ∃ xs ds, u.seqK = some xs ∧ allSh xs = some ds ∧ ∀ a, Q (.lst a (ds.map T.sh))
theorem cd_list : CbD (rListQ K) fList := ⟨fun Γ H σ tv ρ tt vs as Q k e l ⟨t, ea, u, hr, xs, ds, hs, hd, hk⟩ q => by
  subst ea
  obtain ⟨v, rfl⟩ := e.vs1 l
  obtain ⟨a, ws, rfl, h1, h2, kd⟩ := (Rs.rep e e.one hr).seqK (K := K) hs
  have ex := allSh_eq hd
  refine ⟨a, ws, rfl, h1, fun p hp => q _ _ _ (hk p) (e.newN l hp .lst (by rw [h2, ex]; rfl) fun j v t q1 q2 => ?_)⟩
  obtain ⟨d, e1, rfl⟩ := get_map q2
  exact ⟨d, rfl, (kd j v (.sh d) q1 (by rw [ex]; exact q2)).un⟩⟩
def kD : Key → D
  | .inl i => .int i
  | .inr z => .str z
theorem kD_rd {H : Hp} {A : Addr → Prop} (k : Key) : RD H A (kV k) (kD k) := by
  cases k with
  | inl i => exact .int i
  | inr z => exact .str z
def fListK : Fd := fun ρ as Q => ∃ t, as = [t] ∧ ∃ u, Rs ρ t u ∧ ∃ ks xs, u.dictK = some (ks, xs) ∧ ∀ a, Q (.lst a (ks.map fun k => .sh (kD k)))
theorem cd_listK : CbD rListKs fListK := ⟨fun Γ H σ tv ρ tt vs as Q k e l ⟨t, ea, u, hr, ks, xs, hs, hk⟩ q => by
  subst ea
  obtain ⟨v, rfl⟩ := e.vs1 l
  obtain ⟨a, kvs, rfl, h1, h2, _⟩ := (Rs.rep e e.one hr).dictK hs
  refine ⟨a, kvs, rfl, h1, fun p hp => q _ _ _ (hk p) (e.newN l hp .lst (by rw [← h2]; simp [T.kids]) fun j v t q1 q2 => ?_)⟩
  simp only [T.kids] at q2
  obtain ⟨ky, e1, rfl⟩ := get_map q2
  obtain ⟨kv, e2, rfl⟩ := get_map q1
  rw [← h2, List.getElem?_map, e2] at e1
  cases e1
  exact ⟨_, rfl, kD_rd _⟩⟩
def fTuple : Fd := fun ρ as Q => ∃ t, as = [t] ∧ ∃ u, Rs ρ t u ∧ ∃ xs ds, u.seqK = some xs ∧ allSh xs = some ds ∧ Q (.sh (.tup ds))
theorem cd_tuple : CbD (rTupQ K) fTuple := ⟨fun Γ H σ tv ρ tt vs as Q k e l ⟨t, ea, u, hr, xs, ds, hs, hd, hk⟩ q => by
  subst ea
  obtain ⟨v, rfl⟩ := e.vs1 l
  have ex := allSh_eq hd
  have ru := Rs.rep e e.one hr
  have e0 := e.drop l
  have eo : ∀ b, Av Γ (ownsL (ρ ++ (tt ++ [t]))) b → Av Γ (ownsL (ρ ++ tt)) b := fun b av => av_le (fun c => by simp only [ownsL_append, cn_app]; omega) av
  unfold T.seqK at hs
  split at hs
  · rename_i ys el
    cases hs
    obtain ⟨a, ws, rfl, h1, h2, kd⟩ := ru.lstQ (K := K) el
    refine ⟨a, ws, rfl, .inl ⟨h1, fun p hp => q _ _ _ hk (e0.newT hp (by rw [h2, ex, List.length_map]) fun j v d q1 q2 => ?_)⟩⟩
    exact (kd j v (.sh d) q1 (by rw [ex]; exact map_get q2)).un.mono fun b o av hb => ⟨.of hb hb, eo b av⟩
  · obtain ⟨a, ws, ev, h1, h2, kd⟩ := ru.tupK hs
    subst ev
    refine ⟨a, ws, rfl, .inr ⟨.inl (.inl h1), q _ _ _ hk (e0.push ?_)⟩⟩
    have aa : Av Γ (ownsL (ρ ++ (tt ++ [t]))) a := by
      cases ru with
      | sh r =>
        cases r with
        | tup _ aa _ _ => exact aa
        | _ => cases hs
      | tup _ aa _ _ => exact aa
      | _ => cases hs
    exact .tup h1 (eo a aa) (by rw [h2, ex, List.length_map]) fun j v d q1 q2 => (kd j v (.sh d) q1 (by rw [ex]; exact map_get q2)).un.mono fun b o av hb => ⟨.of hb hb, eo b av⟩⟩
def fDict : Fd := fun ρ as Q => ∃ t, as = [t] ∧ ∃ u, Rs ρ t u ∧ ∃ ks xs ds, u.dictK = some (ks, xs) ∧ allSh xs = some ds ∧ ∀ a, Q (.dK a ks (ds.map T.sh))
theorem cd_dict : CbD rDictQ fDict := ⟨fun Γ H σ tv ρ tt vs as Q k e l ⟨t, ea, u, hr, ks, xs, ds, hs, hd, hk⟩ q => by
  subst ea
  obtain ⟨v, rfl⟩ := e.vs1 l
  obtain ⟨a, kvs, rfl, h1, h2, h3, kd⟩ := (Rs.rep e e.one hr).dictK hs
  have ex := allSh_eq hd
  subst h2
  refine ⟨a, kvs, rfl, h1, fun p hp => q _ _ _ (hk p) (e.newN l hp .dK (by rw [List.length_map, h3, ex]; rfl) fun j v t q1 q2 => ?_)⟩
  obtain ⟨d, e1, rfl⟩ := get_map q2
  obtain ⟨kv, e2, rfl⟩ := get_map q1
  exact ⟨d, rfl, (kd j kv (.sh d) e2 (by rw [ex]; exact q2)).un⟩⟩
def fInt : Fd := fun ρ as Q => (∃ i, as = [.sh (.int i)] ∧ Q (.sh (.int i))) ∨ ∃ b, as = [.sh (.bl b)] ∧ Q (.sh (.int (if b then 1 else 0)))
theorem cd_int : CbD rInt1 fInt := ⟨fun Γ H σ tv ρ tt vs as Q k e l h q => by
  rcases h with ⟨i, ea, hk⟩ | ⟨b, ea, hk⟩
  · subst ea
    obtain ⟨v, rfl⟩ := e.vs1 l
    have r := e.one
    cases r with
    | sh r =>
    cases r
    exact .inl ⟨i, rfl, q _ _ H hk ((e.drop l).push (.int _))⟩
  · subst ea
    obtain ⟨v, rfl⟩ := e.vs1 l
    have r := e.one
    cases r with
    | sh r =>
    cases r
    exact .inr ⟨b, rfl, q _ _ H hk ((e.drop l).push (.int _))⟩⟩
theorem svs_strs : ∀ zs : List Str, svs (zs.map fun z => T.sh (.str z)) = some (zs.map V.str)
  | [] => rfl
  | z :: zs => by rw [List.map_cons, svs, svs_strs zs]; rfl
def fSortS : Fd := fun ρ as Q => ∃ t, as = [t] ∧ ∃ u, Rs ρ t u ∧ ∃ zs : List Str, u.lstK = some (zs.map fun z => T.sh (.str z)) ∧ zs.length < 64 ∧ ∀ (ys : List Str) (a : Addr), ys.Perm zs → sortedS ys = true → Q (.lst a (ys.map fun z => T.sh (.str z)))
theorem cd_sortS : CbD (rSortedS K) fSortS := ⟨fun Γ H σ tv ρ tt vs as Q k e l ⟨t, ea, u, hr, zs, hs, h64, hk⟩ q => by
  subst ea
  obtain ⟨v, rfl⟩ := e.vs1 l
  obtain ⟨a, ws, rfl, h1, h2, kd⟩ := (Rs.rep e e.one hr).lstK hs
  obtain ⟨h3, _⟩ := svs_eq (svs_strs zs) h2 kd
  subst h3
  refine ⟨a, zs, rfl, .inl (.inl h1), h64, fun ys p hp1 hp2 hp => q _ _ _ (hk ys p hp1 hp2) (e.newN l hp .lst (by simp [T.kids]) fun j v t q1 q2 => ?_)⟩
  simp only [T.kids] at q2
  obtain ⟨z, e1, rfl⟩ := get_map q2
  obtain ⟨z', e2, rfl⟩ := get_map q1
  rw [e1] at e2
  cases e2
  exact ⟨_, rfl, .str z⟩⟩
def fSortD : Fd := fun ρ as Q => ∃ t, as = [t] ∧ ∃ u, Rs ρ t u ∧ ∃ (zs : List Str) (xs : List T), u.dictK = some (zs.map Sum.inr, xs) ∧ zs.length < 64 ∧ ∀ (ys : List Str) (a : Addr), ys.Perm zs → sortedS ys = true → Q (.lst a (ys.map fun z => T.sh (.str z)))
theorem cd_sortD : CbD rSortedDQ fSortD := ⟨fun Γ H σ tv ρ tt vs as Q k e l ⟨t, ea, u, hr, zs, xs, hs, h64, hk⟩ q => by
  subst ea
  obtain ⟨v, rfl⟩ := e.vs1 l
  obtain ⟨a, kvs, rfl, h1, h2, h3, kd⟩ := (Rs.rep e e.one hr).dictK hs
  refine ⟨a, kvs, zs, rfl, h1, h2, h64, fun ys p hp1 hp2 hp => q _ _ _ (hk ys p hp1 hp2) (e.newN l hp .lst (by simp [T.kids]) fun j v t q1 q2 => ?_)⟩
  simp only [T.kids] at q2
  obtain ⟨z, e1, rfl⟩ := get_map q2
  obtain ⟨z', e2, rfl⟩ := get_map q1
  rw [e1] at e2
  cases e2
  exact ⟨_, rfl, .str z⟩⟩
def T.tyn : T → Option String
  | .sh .non => some "NoneType"
  | .sh (.bl _) => some "bool"
  | .sh (.int _) => some "int"
  | .sh (.str _) => some "str"
  | .sh (.lst _) => some "list"
  | .sh (.tup _) => some "tuple"
  | .sh (.dK _ _) => some "dict"
  | .lst _ _ => some "list"
  | .tup _ => some "tuple"
  | .dK _ _ _ => some "dict"
  | _ => none
theorem R.tyn {H : Hp} {A : Addr → Prop} {v : V} {u : T} {n : String} (r : R H A (some v) u) (h : u.tyn = some n) : TyX K H v (.type n) := by
  cases r with
  | sh r =>
    cases r with
    | non => cases h; exact ty_non
    | bl => cases h; exact ty_bl
    | int => cases h; exact ty_int
    | str => cases h; exact ty_str
    | lst e => cases h; exact ty_L (lq e)
    | tup e => cases h; exact ty_T (tq e)
    | dK e => cases h; exact ty_D e
    | _ => cases h
  | lst e => cases h; exact ty_L (lq e)
  | tup e => cases h; exact ty_T (tq e)
  | dK e => cases h; exact ty_D (.inl e)
  | _ => cases h
def fIsi : Fd := fun ρ as Q => ∃ t n, as = [t, .sh (.ty n)] ∧ ∃ u, Rs ρ t u ∧ ∃ m b, u.tyn = some m ∧ kitB m n = some b ∧ Q (.sh (.bl b))
theorem cd_isi : CbD (rIsi K) fIsi := ⟨fun Γ H σ tv ρ tt vs as Q k e l ⟨t, n, ea, u, hr, m, b, hm, hb, hk⟩ q => by
  subst ea
  obtain ⟨v, w, rfl⟩ := e.vs2 l
  obtain ⟨r1, r2⟩ := e.two l
  have r2 := r2.un
  cases r2
  exact g_isi ⟨_, (Rs.rep e r1 hr).tyn hm, kit_ty hb⟩ (q _ _ H hk ((e.drop l).push (.bl _)))⟩
def fIsi2 : Fd := fun ρ as Q => ∃ t n n', as = [t, .sh (.tup [.ty n, .ty n'])] ∧ ∃ u, Rs ρ t u ∧ ∃ m b b', u.tyn = some m ∧ kitB m n = some b ∧ kitB m n' = some b' ∧ Q (.sh (.bl (b || b')))
theorem cd_isi2 : CbD (rIsiT K) fIsi2 := ⟨fun Γ H σ tv ρ tt vs as Q k e l ⟨t, n, n', ea, u, hr, m, b, b', hm, hb, hb', hk⟩ q => by
  subst ea
  obtain ⟨v, w, rfl⟩ := e.vs2 l
  obtain ⟨r1, r2⟩ := e.two l
  have r2 := r2.un
  cases r2 with
  | @tup a ws _ h1 _ h3 kd =>
  match ws, h3 with
  | [x, y], _ =>
  have rx := kd 0 x _ rfl rfl
  have ry := kd 1 y _ rfl rfl
  cases rx
  cases ry
  exact g_isi2 h1 ((Rs.rep e r1 hr).tyn hm) (kit_ty hb) (kit_ty hb') (q _ _ H hk ((e.drop l).push (.bl _)))⟩
def fCat : Fd := fun ρ as Q => ∃ t t', as = [t, t'] ∧ ∃ u, Rs ρ t u ∧ ∃ u', Rs ρ t' u' ∧ ∃ xs xs' ds ds', u.lstK = some xs ∧ u'.lstK = some xs' ∧ allSh xs = some ds ∧ allSh xs' = some ds' ∧ ds.length + ds'.length ≤ 10000 ∧ ∀ a, Q (.lst a ((ds ++ ds').map T.sh))
theorem cd_cat : CbD (r2 rCat) fCat := ⟨fun Γ H σ tv ρ tt vs as Q k e l ⟨t, t', ea, u, hr, u', hr', xs, xs', ds, ds', hs, hs', hd, hd', hl, hk⟩ q x y ev => by
  subst ea ev
  obtain ⟨r1, r2⟩ := e.two l
  obtain ⟨a, ws, rfl, h1, h2, kd⟩ := (Rs.rep e r1 hr).lstK hs
  obtain ⟨a', ws', rfl, h1', h2', kd'⟩ := (Rs.rep e r2 hr').lstK hs'
  have ex := allSh_eq hd
  have ex' := allSh_eq hd'
  have lw : ws.length = ds.length := by rw [h2, ex, List.length_map]
  have lw' : ws'.length = ds'.length := by rw [h2', ex', List.length_map]
  refine ⟨a, a', ws, ws', rfl, rfl, h1, h1', szl (by omega), fun p hp => q _ _ _ (hk p) (e.newN l hp .lst (by simp [T.kids, lw, lw']) fun j v t q1 q2 => ?_)⟩
  simp only [T.kids] at q2
  obtain ⟨d, e1, rfl⟩ := get_map q2
  refine ⟨d, rfl, ?_⟩
  rcases ap_cases q1 with q1 | ⟨m, rfl, hm⟩
  · have hj := (List.getElem?_eq_some_iff.mp q1).1
    rw [List.getElem?_append_left (by omega)] at e1
    exact (kd j v (.sh d) q1 (by rw [ex]; exact map_get e1)).un
  · rw [lw, List.getElem?_append_right (by omega), Nat.add_sub_cancel_left] at e1
    exact (kd' m v (.sh d) hm (by rw [ex']; exact map_get e1)).un⟩
def cutL {α : Type} (xs : List α) (lo hi : Option Int) : List α := (xs.drop (HT.sIx xs.length 0 lo)).take (HT.sIx xs.length xs.length hi - HT.sIx xs.length 0 lo)
theorem cut_get {α β : Type} {xs : List α} {ys : List β} {lo hi : Option Int} (l : xs.length = ys.length) {j : Nat} {x : α} {y : β} (h1 : (cutL xs lo hi)[j]? = some x) (h2 : (cutL ys lo hi)[j]? = some y) : ∃ m : Nat, xs[m]? = some x ∧ ys[m]? = some y := by
  unfold cutL at h1 h2
  rw [List.getElem?_take] at h1 h2
  rw [← l] at h2
  split at h1
  · rename_i c
    rw [if_pos c] at h2
    rw [List.getElem?_drop] at h1 h2
    exact ⟨_, h1, h2⟩
  · cases h1
/-- a part of a slice -/
def WO := XD → Env → (Option Int → Env → Prop) → Prop
def RfO (W : Wx) (t : TO) (w : WO) : Prop := ∀ σ H Q, (∃ (Γ : Cg) (tv : List (Option V)) (ρ : Env) (tt : List T) (χ : XD) (Q1 : Option Int → Env → Prop), En Γ H σ tv ρ tt ∧ w χ ρ Q1 ∧ XOk W Γ tv tt σ χ ∧ ∀ b ρ' H', Q1 b ρ' → En Γ H' σ tv ρ' tt → Q b H') → t σ H Q
def woNone : WO := fun _ ρ Q => Q none ρ
def woSome (w : WE) : WO := fun χ ρ Q => w χ ρ fun t ρ1 => ∃ i, t = .sh (.int i) ∧ Q (some i) ρ1
theorem rfo_none : RfO W tNoPart woNone := fun σ H Q ⟨Γ, tv, ρ, tt, χ, Q1, e, h, x, k⟩ => k none ρ H h e
def wSlL (wa : WE) (w1 w2 : WO) : WE := fun χ ρ Q => wa χ ρ fun t ρ1 => w1 χ ρ1 fun lo ρ2 => w2 χ ρ2 fun hi ρ3 => ∃ u, Rs ρ3 t u ∧ ∃ xs ds, u.lstQ = some xs ∧ allSh xs = some ds ∧ ∀ a, Q (.lst a ((cutL ds lo hi).map T.sh)) ρ3
theorem rf_slL {ta : TE} {t1 t2 : TO} {wa : WE} {w1 w2 : WO} (ha : Rf W ta wa) (h1 : RfO W t1 w1) (h2 : RfO W t2 w2) : Rf W (tSl (rSlL K) ta t1 t2) (wSlL wa w1 w2) := fun σ H Q ⟨Γ, tv, ρ, tt, χ, Q1, e, h, x, k⟩ => by
  refine ha σ H _ ⟨Γ, tv, ρ, tt, χ, _, e, h, x, fun t ρ1 v H1 q1 e1 => ?_⟩
  refine h1 σ H1 _ ⟨Γ, _, ρ1, _, χ, _, e1, q1, x.deep e.tl rfl, fun lo ρ2 H2 q2 e2 => ?_⟩
  refine h2 σ H2 _ ⟨Γ, _, ρ2, _, χ, _, e2, q2, x.deep e.tl rfl, fun hi ρ3 H3 ⟨u, hr, xs, ds, hu, hs, q3⟩ e3 => ?_⟩
  obtain ⟨a, ws, rfl, ea, l, kd⟩ := (Rs.rep e3 e3.last hr).lstQ (K := K) hu
  have ex := allSh_eq hs
  have lw : ws.length = ds.length := by rw [l, ex, List.length_map]
  refine ⟨a, ws, rfl, ea, fun p hp => k _ ρ3 _ _ (q3 p) (e3.newN e.tl hp .lst ?_ fun j v t z1 z2 => ?_)⟩
  · simp only [T.kids, List.length_map]
    unfold cutV cutL
    rw [List.length_take, List.length_take, List.length_drop, List.length_drop, lw]
  · simp only [T.kids] at z2
    obtain ⟨d, z3, rfl⟩ := get_map z2
    obtain ⟨m, m1, m2⟩ := cut_get (xs := ws) (ys := ds) lw z1 z3
    exact ⟨d, rfl, (kd m v (.sh d) m1 (by rw [ex]; exact map_get m2)).un⟩
end
end E
namespace E
open PySem PySem.Spec PyProof.Rows L2 G
/-- the lock, with what is known of the entry's heap -/
def tLockN (H0 : Hp) (t : TS) : TS := fun D σ H => ∃ d u, H d = some u ∧ Mut (some u) ∧ ((∀ o' u', H0 d ≠ some (.frz o' u')) → ∀ od, t ⟨fun σ' H' => H' d = some (.frz od u) ∧ D.nx σ' (upd H' d u), fun v H' => H' d = some (.frz od u) ∧ D.rt v (upd H' d u), fun σ' H' => H' d = some (.frz od u) ∧ D.bk σ' (upd H' d u), fun σ' H' => H' d = some (.frz od u) ∧ D.ct σ' (upd H' d u)⟩ σ (upd H d (.frz od u)))
/-- what an exception meets, one lock being open -/
def unW (H0 : Hp) (W : WX) : WX := fun cls dd σ H => W cls dd σ H ∨ ∃ d od u, H d = some (.frz od u) ∧ (∀ o' u', H0 d ≠ some (.frz o' u')) ∧ W cls dd σ (upd H d u)
section
variable {Γ : Cg} {H : Hp} {σ : L2.St} {tv : List (Option V)} {ρ : Env} {tt : List T} {d : Addr} {ks : List Key} {ds : List D}
abbrev lkG (Γ : Cg) (H : Hp) (d : Addr) (od : Obj) (kvs : List (Key × V)) (F : List Addr) : Cg := ⟨upd H d (.frz od (.dK kvs)), Av Γ F, fun a => a ∈ F⟩
theorem En.lock (e : En Γ H σ tv ρ tt) (cal : Calm Γ.H0) (r : RD H (Av Γ (ownsL (ρ ++ tt))) (.ref d) (.dK ks ds)) :
    ∃ kvs : List (Key × V), H d = some (.dK kvs) ∧ kvs.map Prod.fst = ks ∧ ∀ od, En (lkG Γ H d od kvs (ownsL (ρ ++ tt))) (upd H d (.frz od (.dK kvs))) σ tv ρ tt ∧
      ∀ H2 σ2 tv2 ρ2 tt2, En (lkG Γ H d od kvs (ownsL (ρ ++ tt))) H2 σ2 tv2 ρ2 tt2 → H2 d = some (.frz od (.dK kvs)) ∧ En Γ (upd H2 d (.dK kvs)) σ2 tv2 ρ2 tt2 := by
  cases r with
  | @dK _ kvs _ hr ha hl kd =>
  have hd : H d = some (.dK kvs) := by
    rcases hr with h | ⟨o, h⟩
    · exact h
    · exact absurd h (e.ok.calm cal d o kvs)
  refine ⟨kvs, hd, rfl, fun od => ?_⟩
  have nd : d ∉ ownsL (ρ ++ tt) := ha.2
  have kp : ∀ a, Kp H (upd H d (.frz od (.dK kvs))) a := fun a => by
    by_cases z : a = d
    · subst z
      refine ⟨fun u hu => ?_, fun u hu => ?_, fun C dx fs h => ?_, fun fs h => ?_, fun vs h => ?_, fun vs h => ?_, fun u hu => by rcases hu with hu | ⟨o, hu⟩ <;> (rw [hd] at hu; cases hu), fun φ h => by rw [hd] at h; cases h⟩
      · rcases hu with hu | ⟨o, hu⟩
        · rw [hd] at hu
          cases hu
          exact .inr ⟨od, upd_same⟩
        · rw [hd] at hu; cases hu
      · rcases hu with hu | ⟨o, hu⟩ <;> (rw [hd] at hu; cases hu)
      all_goals (rw [hd] at h; cases h)
    · have q : upd H d (.frz od (.dK kvs)) a = H a := upd_ne z
      exact ⟨fun u hu => hu.elim (fun h => .inl (by rw [q]; exact h)) fun ⟨o, h⟩ => .inr ⟨o, by rw [q]; exact h⟩, fun u hu => hu.elim (fun h => .inl (by rw [q]; exact h)) fun ⟨o, h⟩ => .inr ⟨o, by rw [q]; exact h⟩, fun C dx fs h => by rw [q]; exact h, fun fs h => by rw [q]; exact h, fun vs h => by rw [q]; exact h, fun vs h => by rw [q]; exact h, fun u hu => hu.elim (fun h => .inl (by rw [q]; exact h)) fun ⟨o, h⟩ => .inr ⟨o, by rw [q]; exact h⟩, fun φ h => by rw [q]; exact h⟩
  refine ⟨⟨⟨e.ok.len, fun k x t h1 h2 => ?_, e.ok.nd, fun a m => .inl m, .refl _, fun _ _ _ z => z⟩, e.len⟩, fun H2 σ2 tv2 ρ2 tt2 e2 => ?_⟩
  · refine (e.ok.rep k x t h1 h2).mono (fun a o av h => ⟨kp a, .inl (.inl av), av.2⟩) fun a o m h => ?_
    rw [upd_ne (fun z => nd (by rw [← z]; exact mem_ownsL h2 m))]
    exact h
  · have h0 : (lkG Γ H d od kvs (ownsL (ρ ++ tt))).H0 d = some (.frz od (.dK kvs)) := upd_same
    have hd2 : H2 d = some (.frz od (.dK kvs)) := e2.ok.fr.keep d _ h0 nd
    refine ⟨hd2, ⟨?_, e2.len⟩⟩
    have nd2 : d ∉ ownsL (ρ2 ++ tt2) := fun m => by
      rcases e2.ok.new d m with z | z
      · exact nd z
      · rw [h0] at z; cases z
    have kp2 : ∀ a, Kp H2 (upd H2 d (.dK kvs)) a := fun a => by
      by_cases z : a = d
      · subst z
        refine ⟨fun u hu => ?_, fun u hu => ?_, fun C dx fs h => ?_, fun fs h => ?_, fun vs h => ?_, fun vs h => ?_, fun u hu => by rcases hu with hu | ⟨o, hu⟩ <;> (rw [hd2] at hu; cases hu), fun φ h => by rw [hd2] at h; cases h⟩
        · rcases hu with hu | ⟨o, hu⟩
          · rw [hd2] at hu
            cases hu
          · rw [hd2] at hu
            cases hu
            exact .inl upd_same
        · rcases hu with hu | ⟨o, hu⟩ <;> (rw [hd2] at hu; cases hu)
        all_goals (rw [hd2] at h; cases h)
      · have q : upd H2 d (.dK kvs) a = H2 a := upd_ne z
        exact ⟨fun u hu => hu.elim (fun h => .inl (by rw [q]; exact h)) fun ⟨o, h⟩ => .inr ⟨o, by rw [q]; exact h⟩, fun u hu => hu.elim (fun h => .inl (by rw [q]; exact h)) fun ⟨o, h⟩ => .inr ⟨o, by rw [q]; exact h⟩, fun C dx fs h => by rw [q]; exact h, fun fs h => by rw [q]; exact h, fun vs h => by rw [q]; exact h, fun vs h => by rw [q]; exact h, fun u hu => hu.elim (fun h => .inl (by rw [q]; exact h)) fun ⟨o, h⟩ => .inr ⟨o, by rw [q]; exact h⟩, fun φ h => by rw [q]; exact h⟩
    have inA : ∀ b, (lkG Γ H d od kvs (ownsL (ρ ++ tt))).H0 b = none → H b = none := fun b z => by
      have z : upd H d (.frz od (.dK kvs)) b = none := z
      by_cases c : b = d
      · subst c; rw [upd_same] at z; cases z
      · rw [upd_ne c] at z; exact z
    refine ⟨e2.ok.len, fun k x t h1 h2 => ?_, e2.ok.nd, fun a m => ?_, ⟨fun b o h n => ?_, fun b h => ?_⟩, fun a o kvs' h => ?_⟩
    · have hav : ∀ a, Av (lkG Γ H d od kvs (ownsL (ρ ++ tt))) (ownsL (ρ2 ++ tt2)) a → Av Γ (ownsL (ρ2 ++ tt2)) a := fun a av => by
        refine ⟨?_, av.2⟩
        rcases av.1 with (z | ⟨ws, z⟩) | z | z
        · exact z.1
        · have z : upd H d (.frz od (.dK kvs)) a = some (.tup ws) := z
          by_cases c : a = d
          · subst c; rw [upd_same] at z; cases z
          · rw [upd_ne c] at z; exact (e.ok.avT z).1
        · exact .inr (.inl (e.ok.fr.free a (inA a z)))
        · exact (e.ok.new a z).elim (fun z => .inr (.inr z)) fun z => .inr (.inl z)
      refine (e2.ok.rep k x t h1 h2).mono (fun a o av h => ⟨kp2 a, hav a av⟩) fun a o m h => ?_
      · rw [upd_ne (fun z => nd2 (by rw [← z]; exact mem_ownsL h2 m))]
        exact h
    · rcases e2.ok.new a m with z | z
      · exact e.ok.new a z
      · exact .inr (e.ok.fr.free a (inA a z))
    · have hb := e.ok.fr.keep b o h n
      by_cases c : b = d
      · subst c
        rw [hd] at hb
        rw [upd_same]
        exact hb
      · rw [upd_ne c]
        refine e2.ok.fr.keep b o (show upd H d (.frz od (.dK kvs)) b = some o by rw [upd_ne c]; exact hb) fun m => ?_
        rcases e.ok.new b m with z | z
        · exact n z
        · rw [h] at z; cases z
    · by_cases c : b = d
      · subst c; rw [upd_same] at h; cases h
      · rw [upd_ne c] at h
        exact e.ok.fr.free b (inA b (e2.ok.fr.free b h))
    · by_cases c : a = d
      · subst c; rw [upd_same] at h; cases h
      · rw [upd_ne c] at h
        have z := e2.ok.nf a o kvs' h
        have z : upd H d (.frz od (.dK kvs)) a = some (.frz o (.dK kvs')) := z
        rw [upd_ne c] at z
        exact e.ok.nf a o kvs' z
end
section
variable {W : Wx} {K : PySem.W.Frag}
def wForK (i : Nat) (wg : WG) (wb : WS) : WS := fun k ρ => ∃ ks ds, ρ[i]? = some (.sh (.dK ks ds)) ∧ ∃ I : Nat → Env → Prop, I 0 ρ ∧
  (∀ (j : Nat) (ky : Key) (ρ2 : Env), ks[j]? = some ky → I j ρ2 → wg (.sh (kD ky)) ρ2 fun ρ3 => wb { k with nx := fun ρ' => ∃ ρ4, Pubs ρ' ρ4 ∧ I (j + 1) ρ4, ct := fun ρ' => ∃ ρ4, Pubs ρ' ρ4 ∧ I (j + 1) ρ4, bk := k.nx } ρ3) ∧ ∀ ρ2, I ks.length ρ2 → k.nx ρ2
theorem rfs_forK {bs : List Nat} {i : Nat} {H0 : Hp} {g : TG} {tb : TS} {wg : WG} {wb : WS} (hc : W.c = true) (hg : RfG (fun k => k ∈ bs) g wg) (hb : RfS bs ⟨unW H0 W.x, false⟩ tb wb) : RfS bs W (tLockN H0 (tFor (iKeys (tVar i)) g tb)) (wForK i wg wb) := fun D σ H ⟨Γ, tv, ρ, tt, k, e, ⟨ks, ds, hi, I, i0, turn, fin⟩, o⟩ => by
  obtain ⟨y, hy⟩ := get_of_len e.len hi
  have r := e.ok.rep i y _ (ap_left hy) (ap_left hi)
  have cal := o.cal hc
  cases r with
  | sh r =>
  rename_i v
  obtain ⟨d, rfl⟩ : ∃ d, v = V.ref d := by cases r; exact ⟨_, rfl⟩
  obtain ⟨kvs, hd, ek, lk⟩ := e.lock cal r
  refine ⟨d, .dK kvs, hd, True.intro, fun nf od => ?_⟩
  obtain ⟨e1, un⟩ := lk od
  have lks : kvs.length = ks.length := by rw [← ek, List.length_map]
  refine ⟨.ref d, hy, d, od, rfl, .inl ⟨kvs, upd_same, ?_⟩⟩
  refine ⟨fun j m σ' H' => m = kvs.length - j ∧ j ≤ kvs.length ∧ ∃ ρ', I j ρ' ∧ Pn bs σ σ' ∧ En (lkG Γ H d od kvs (ownsL (ρ ++ tt))) H' σ' tv ρ' tt, ⟨kvs.length, by simp, Nat.zero_le _, ρ, i0, .refl _ _, e1⟩, ?_⟩
  rintro j m σ' H' ⟨rfl, hjl, ρ', hI, hp, e2⟩
  obtain ⟨hd2, e2u⟩ := un H' σ' tv ρ' tt e2
  by_cases hlt : j < kvs.length
  · refine .inr ⟨⟨hd2, hlt⟩, fun σ2 H2 => ∃ ρ2, I (j + 1) ρ2 ∧ Pn bs σ σ2 ∧ En (lkG Γ H d od kvs (ownsL (ρ ++ tt))) H2 σ2 tv ρ2 tt, fun σ2 H2 ⟨ρ2, h2, p2, e3⟩ => ⟨kvs.length - (j + 1), by omega, rfl, hlt, ρ2, h2, p2, e3⟩, fun x H2 yy => ?_⟩
    obtain ⟨rfl, ky, vv, hkv, rfl⟩ := yy
    have hky : ks[j]? = some ky := by rw [← ek]; exact map_get hkv
    refine hg _ H2 σ' tv ρ' tt (kV ky) (.sh (kD ky)) _ _ (e2.push (kD_rd ky)) e.tl (turn j ky ρ' hky hI) fun ρ3 σ3 H3 h3 p3 _ e4 => ?_
    have p3' : Pn bs σ σ3 := hp.trans fun j hj => p3 j hj
    refine hb _ σ3 H3 ⟨_, _, ρ3, _, _, e4, h3, ?_⟩
    exact ⟨fun ρ4 σ4 H4 ⟨ρ5, pb, h4⟩ p4 e5 => ⟨ρ5, h4, p3'.trans p4, e5.pubs pb⟩, fun t ρ4 v σ4 H4 h4 p4 e5 => ⟨(un _ _ _ _ _ e5).1, o.rt t ρ4 v σ4 _ h4 (p3'.trans p4) (un _ _ _ _ _ e5).2⟩, fun ρ4 σ4 H4 h4 p4 e5 => ⟨(un _ _ _ _ _ e5).1, o.nx ρ4 σ4 _ h4 (p3'.trans p4) (un _ _ _ _ _ e5).2⟩, fun ρ4 σ4 H4 ⟨ρ5, pb, h4⟩ p4 e5 => ⟨ρ5, h4, p3'.trans p4, e5.pubs pb⟩, fun C d' fl ds' ρ4 σ4 H4 h4 p4 e5 => .inr ⟨d, od, .dK kvs, (un _ _ _ _ _ e5).1, nf, o.xc C d' fl ds' ρ4 σ4 _ h4 (p3'.trans p4) (un _ _ _ _ _ e5).2⟩, fun z => nomatch z⟩
  · have : j = kvs.length := by omega
    subst this
    exact .inl ⟨⟨hd2, Nat.le_refl _⟩, hd2, o.nx ρ' σ' _ (fin ρ' (lks ▸ hI)) hp e2u⟩
end
end E
namespace E
open PySem PySem.Spec PyProof.Rows L2 G
section
variable {W : Wx} {K : PySem.W.Frag}
theorem rf_ty {n : String} : Rf W (tC (.ty n)) (wC (.sh (.ty n))) := rf_c fun _ _ => .ty n
theorem rf_ref {a : Addr} : Rf W (tC (.ref a)) (wC (.sh (.at a 0 []))) := rf_c fun _ _ => .at a 0 []
def wYes : WT := fun _ ρ Q => Q true ρ
theorem rft_yes : RfT W tYes wYes := fun σ H Q ⟨Γ, tv, ρ, tt, χ, Q1, e, h, x, k⟩ => k true ρ H h e
theorem rfo_some {ta : TE} {wa : WE} (ha : Rf W ta wa) : RfO W (tPart ta) (woSome wa) := fun σ H Q ⟨Γ, tv, ρ, tt, χ, Q1, e, h, x, k⟩ => by
  refine ha σ H _ ⟨Γ, tv, ρ, tt, χ, _, e, h, x, fun t ρ1 v H1 ⟨i, et, h1⟩ e1 => ?_⟩
  subst et
  have r := e1.last.un
  cases r
  exact ⟨i, rfl, k _ ρ1 H1 h1 (e1.drop e.tl)⟩
theorem cd_gt : CbD (r2 (rI0 fun i j => .bl (decide (j < i)))) (fI0 fun i j => .bl (decide (j < i))) := cd_I0 fun _ _ _ _ => .bl _
theorem cd_ge : CbD (r2 (rI0 fun i j => .bl (decide (j ≤ i)))) (fI0 fun i j => .bl (decide (j ≤ i))) := cd_I0 fun _ _ _ _ => .bl _
/-- the truth of a value -/
def wTru (wa : WE) : WT := fun χ ρ Q => wa χ ρ fun t ρ1 => ∃ u, Rs ρ1 t u ∧ ((∃ xs, u.seqK = some xs ∧ Q (!xs.isEmpty) ρ1) ∨ (u = .sh .non ∧ Q false ρ1) ∨ (∃ b, u = .sh (.bl b) ∧ Q b ρ1) ∨ ∃ i, u = .sh (.int i) ∧ Q (i != 0) ρ1)
theorem rft_tru {ta : TE} {wa : WE} (ha : Rf W ta wa) : RfT W (G.tTru K ta) (wTru wa) := fun σ H Q ⟨Γ, tv, ρ, tt, χ, Q1, e, h, x, k⟩ => by
  refine ha σ H _ ⟨Γ, tv, ρ, tt, χ, _, e, h, x, fun t ρ1 v H1 ⟨u, hr, h1⟩ e1 => ?_⟩
  have ru := Rs.rep e1 e1.last hr
  have e2 := e1.drop e.tl
  rcases h1 with ⟨xs, hs, h1⟩ | ⟨rfl, h1⟩ | ⟨b, rfl, h1⟩ | ⟨i, rfl, h1⟩
  · obtain ⟨a, vs, rfl, h2, h3, _⟩ := ru.seqK (K := K) hs
    have : (!vs.isEmpty) = !xs.isEmpty := by
      cases vs <;> cases xs <;> simp at h3 ⊢
    rcases h2 with h2 | h2
    · exact ⟨_, .inl ⟨vs, h2, this.symm⟩, k _ ρ1 H1 h1 e2⟩
    · exact ⟨_, .inr (.inl ⟨vs, h2, this.symm⟩), k _ ρ1 H1 h1 e2⟩
  · have r := ru.un
    cases r
    exact ⟨_, rfl, k _ ρ1 H1 h1 e2⟩
  · have r := ru.un
    cases r
    exact ⟨_, rfl, k _ ρ1 H1 h1 e2⟩
  · have r := ru.un
    cases r
    exact ⟨_, rfl, k _ ρ1 H1 h1 e2⟩
/-- [elt for x in d] of a dict -/
def wLcK (i : Nat) (g : WG) (wt : WT) (we : WE) (vs : List Nat) : WE := fun χ ρ Q => ∃ ks ds, ρ[i]? = some (.sh (.dK ks ds)) ∧ ∃ I : Nat → Env → List T → Prop, I 0 (wipeE ρ vs) [] ∧ (∀ j ρ2 acc, I j ρ2 acc → acc.length < 10000) ∧
  (∀ (j : Nat) (ky : Key) (ρ2 : Env) (acc : List T), ks[j]? = some ky → I j ρ2 acc → g (.sh (kD ky)) ρ2 fun ρ3 => wt noX ρ3 fun b ρ4 => if b = true then we noX ρ4 fun y ρ5 => ∃ y', PubT y y' ∧ I (j + 1) (wipeE ρ5 vs) (acc ++ [y']) else I (j + 1) (wipeE ρ4 vs) acc) ∧ ∀ ρ2 acc, I ks.length ρ2 acc → ∀ a, Q (.lst a acc) (wipeE ρ2 vs)
theorem rf_lcK {i : Nat} {g : TG} {tt' : TT} {te : TE} {vs : List Nat} {wg : WG} {wt : WT} {we : WE} (hc : W.c = true) (hg : RfG (fun k => k ∉ vs) g wg) (ht : RfT (W0 false) tt' wt) (he : Rf (W0 false) te we) : Rf W (tLockE (tLc (iKeys (tVar i)) g tt' te vs)) (wLcK i wg wt we vs) := fun σ H Q ⟨Γ, tv, ρ, tt, χ, Q1, e, ⟨ks, ds, hi, I, i0, hP, turn, fin⟩, x, k⟩ => by
  obtain ⟨y, hy⟩ := get_of_len e.len hi
  have r := e.ok.rep i y _ (ap_left hy) (ap_left hi)
  have cal := x.1 hc
  cases r with
  | sh r =>
  rename_i v
  obtain ⟨d, rfl⟩ : ∃ d, v = V.ref d := by cases r; exact ⟨_, rfl⟩
  obtain ⟨kvs, hd, ek, lk⟩ := e.lock cal r
  refine ⟨d, .dK kvs, hd, True.intro, fun od => ?_⟩
  obtain ⟨e1, un⟩ := lk od
  refine ⟨.ref d, hy, d, od, rfl, .inl ⟨kvs, upd_same, ?_⟩⟩
  have lks : kvs.length = ks.length := by rw [← ek, List.length_map]
  have wk : Wk (lkG Γ H d od kvs (ownsL (ρ ++ tt))) tv [] tt [] (fun _ => True) (Itk d od kvs) (ks.map fun ky => .sh (kD ky)) := by
    refine ⟨fun j H' σ' ρ' hj _ e2 => ?_, fun H' σ' ρ' _ e2 => ?_, fun j H' σ' ρ' yv H'' zs ws hj _ e2 hy2 => ?_⟩
    · rw [List.length_map] at hj
      exact ⟨(un H' σ' _ ρ' _ e2).1, by omega⟩
    · rw [List.length_map]
      exact ⟨(un H' σ' _ ρ' _ e2).1, by omega⟩
    · obtain ⟨rfl, ky, vv, hkv, rfl⟩ := hy2
      exact ⟨.sh (kD ky), map_get (by rw [← ek]; exact map_get hkv), e2.push (kD_rd ky)⟩
  refine lcCore hg ht he (P := fun _ => True) (I := I) (xv := []) (xt := []) (ρ1 := ρ) (Qd := fun D H2 => H2 d = some (.frz od (.dK kvs)) ∧ Q (.ref D) (upd H2 d (.dK kvs))) (fun z => nomatch z) e.tl rfl i0 (fun j ρ2 acc h => ⟨True.intro, hP j ρ2 acc h⟩) (fun j t ρ2 acc ht hI => ?_) (by rw [List.append_nil, List.append_nil]; exact e1) wk fun D H2 ρ2 acc hI e3 => ?_
  · obtain ⟨ky, hky, rfl⟩ := get_map ht
    exact turn j ky ρ2 acc hky hI
  · rw [List.length_map] at hI
    rw [List.nil_append, List.nil_append] at e3
    obtain ⟨h1, h2⟩ := un H2 σ _ _ _ e3
    exact ⟨h1, k _ _ _ _ (fin ρ2 acc hI D) h2⟩
end
section
variable {χ : XD} {ρ ρ1 : Env} {Q : T → Env → Prop} {k : WK} {t u : T} {i : Nat}
theorem d_seq {a b : WS} (h : a { k with nx := fun ρ1 => ∃ ρ2, Pubs ρ1 ρ2 ∧ b k ρ2 } ρ) : wSeq a b k ρ := h
theorem d_p0 {P : Env → Prop} (h : P ρ) : ∃ ρ2, Pubs ρ ρ2 ∧ P ρ2 := ⟨ρ, .refl ρ, h⟩
theorem d_p1 {P : Env → Prop} {d : D} (i : Nat) (h1 : ρ[i]? = some t) (h2 : t.pub = some d) (h : ∃ ρ2, Pubs (ρ.set i (.sh d)) ρ2 ∧ P ρ2) : ∃ ρ2, Pubs ρ ρ2 ∧ P ρ2 := let ⟨ρ2, p, q⟩ := h; ⟨ρ2, .step i h1 h2 p, q⟩
theorem d_next (h : k.nx ρ) : wNext k ρ := h
theorem d_brk (h : k.bk ρ) : wBrk k ρ := h
theorem d_cont (h : k.ct ρ) : wCont k ρ := h
theorem d_drop {w : WE} (h : w k.xc ρ fun _ ρ1 => k.nx ρ1) : wDrop w k ρ := h
theorem d_ret {w : WE} (h : w k.xc ρ k.rt) : wRet w k ρ := h
theorem d_retN (h : k.rt (.sh .non) ρ) : wRetN k ρ := h
theorem d_if {c : WT} {a b : WS} (h : c k.xc ρ fun x ρ1 => if x = true then a k ρ1 else b k ρ1) : wIf c a b k ρ := h
theorem d_asg {w : WE} {g : WG} (h : w k.xc ρ fun t ρ1 => g t ρ1 k.nx) : wAsg w g k ρ := h
theorem d_c (h : Q t ρ) : wC t χ ρ Q := h
theorem d_var (h1 : ρ[i]? = some t) (h2 : t.rd i [] = some u) (h : Q u ρ) : wVar i χ ρ Q := ⟨t, u, h1, h2, h⟩
theorem d_op {f : Fd} {wa wb : WE} (h : wa χ ρ fun t1 ρ1 => wb χ ρ1 fun t2 ρ2 => f ρ2 [t1, t2] fun t => Q t ρ2) : wOp f wa wb χ ρ Q := h
theorem d_un {f : Fd} {wa : WE} (h : wa χ ρ fun t1 ρ1 => f ρ1 [t1] fun t => Q t ρ1) : wUn f wa χ ρ Q := h
theorem d_cb {f : Fd} {wa : WA} (h : wa χ ρ fun ts ρ1 => f ρ1 ts fun t => Q t ρ1) : wCb f wa χ ρ Q := h
theorem d_nil {q : List T → Env → Prop} (h : q [] ρ) : waN χ ρ q := h
theorem d_cons {wa : WE} {wr : WA} {q : List T → Env → Prop} (h : wa χ ρ fun t ρ1 => wr χ ρ1 fun ts ρ2 => q (t :: ts) ρ2) : waC wa wr χ ρ q := h
theorem d_lst {wa : WA} (h : wa χ ρ fun ts ρ1 => ts.length ≤ 10000 ∧ ∀ a, Q (.lst a ts) ρ1) : wLst wa χ ρ Q := h
theorem d_tup {wa : WA} (h : wa χ ρ fun ts ρ1 => ts.length ≤ 10000 ∧ Q (mkTup ts) ρ1) : wTup wa χ ρ Q := h
theorem d_dnew (h : ∀ a, Q (.dK a [] []) ρ) : wDNew χ ρ Q := h
theorem d_b {wa : WE} {q : Bool → Env → Prop} (h : wa χ ρ fun t ρ1 => ∃ b, t = .sh (.bl b) ∧ q b ρ1) : wB wa χ ρ q := h
theorem d_isb {b : Bool} {P : Bool → Prop} (h : P b) : ∃ c, T.sh (.bl b) = .sh (.bl c) ∧ P c := ⟨b, rfl, h⟩
theorem d_and {w w' : WT} {q : Bool → Env → Prop} (h : w χ ρ fun b ρ1 => if b = true then w' χ ρ1 q else q false ρ1) : wAnd w w' χ ρ q := h
theorem d_or {w w' : WT} {q : Bool → Env → Prop} (h : w χ ρ fun b ρ1 => if b = true then q true ρ1 else w' χ ρ1 q) : wOr w w' χ ρ q := h
theorem d_not {w : WT} {q : Bool → Env → Prop} (h : w χ ρ fun b ρ1 => q (!b) ρ1) : wNot w χ ρ q := h
theorem d_yes {q : Bool → Env → Prop} (h : q true ρ) : wYes χ ρ q := h
theorem d_andV {wa wb : WE} (h : wa χ ρ fun t ρ1 => ∃ b, t = .sh (.bl b) ∧ if b = true then wb χ ρ1 Q else Q (.sh (.bl false)) ρ1) : wAndV wa wb χ ρ Q := h
theorem d_orV {wa wb : WE} (h : wa χ ρ fun t ρ1 => ∃ b, t = .sh (.bl b) ∧ if b = true then Q (.sh (.bl true)) ρ1 else wb χ ρ1 Q) : wOrV wa wb χ ρ Q := h
theorem d_notV {wa : WE} (h : wa χ ρ fun t ρ1 => ∃ b, t = .sh (.bl b) ∧ Q (.sh (.bl (!b))) ρ1) : wNotV wa χ ρ Q := h
theorem d_ifE {w : WT} {wa wb : WE} (h : w χ ρ fun b ρ1 => if b = true then wa χ ρ1 Q else wb χ ρ1 Q) : wIfE w wa wb χ ρ Q := h
theorem d_chain {f g : Fd} {wa wb wc : WE} (h : wa χ ρ fun t1 ρ1 => wb χ ρ1 fun t2 ρ2 => ∃ d2, t2 = .sh d2 ∧ f ρ2 [t1, t2] fun t => ∃ b, t = .sh (.bl b) ∧ if b = true then wc χ ρ2 fun t3 ρ3 => g ρ3 [t2, t3] fun t => Q t ρ3 else Q (.sh (.bl false)) ρ2) : wChain f g wa wb wc χ ρ Q := h
theorem d_issh {d : D} {P : D → Prop} (h : P d) : ∃ c, T.sh d = .sh c ∧ P c := ⟨d, rfl, h⟩
variable {q : T → Prop}
theorem d_I0 {g : Int → Int → D} {a b : Int} (h : q (.sh (g a b))) : fI0 g ρ [.sh (.int a), .sh (.int b)] q := ⟨a, b, rfl, h⟩
theorem d_I {C : Int → Int → Prop} {g : Int → Int → D} {a b : Int} (hc : C a b) (h : q (.sh (g a b))) : fI C g ρ [.sh (.int a), .sh (.int b)] q := ⟨a, b, rfl, hc, h⟩
theorem d_eq {d1 d2 : D} {v1 v2 : V} (h1 : d1.sv = some v1) (h2 : d2.sv = some v2) (hs : scal v1 v2 = true) (h : q (.sh (.bl (decide (v1 = v2))))) : fEq false ρ [.sh d1, .sh d2] q := ⟨d1, d2, v1, v2, rfl, h1, h2, hs, h⟩
theorem d_ne {d1 d2 : D} {v1 v2 : V} (h1 : d1.sv = some v1) (h2 : d2.sv = some v2) (hs : scal v1 v2 = true) (h : q (.sh (.bl (!decide (v1 = v2))))) : fEq true ρ [.sh d1, .sh d2] q := ⟨d1, d2, v1, v2, rfl, h1, h2, hs, h⟩
theorem d_isN (hl : t.live = true) (h : q (.sh (.bl t.isNon))) : fIsN false ρ [t, .sh .non] q := ⟨t, rfl, hl, h⟩
theorem d_notN (hl : t.live = true) (h : q (.sh (.bl (!t.isNon)))) : fIsN true ρ [t, .sh .non] q := ⟨t, rfl, hl, h⟩
theorem d_ln {xs : List T} (h0 : Rs ρ t u) (h1 : u.seqK = some xs) (h : q (.sh (.int xs.length))) : fLen ρ [t] q := ⟨t, rfl, u, h0, xs, h1, h⟩
theorem d_ixL {xs : List T} {i : Int} {n : Nat} {x y : T} (h0 : Rs ρ t u) (h1 : u.lstK = some xs) (h2 : ixN xs.length i = some n) (h3 : xs[n]? = some x) (h4 : t.rdk x n = some y) (h : q y) : fIxL ρ [t, .sh (.int i)] q := ⟨t, i, rfl, u, h0, xs, n, x, y, lstQ_of h1, h2, h3, h4, h⟩
theorem d_ixT {xs : List T} {i : Int} {n : Nat} {x y : T} (h0 : Rs ρ t u) (h1 : u.tupK = some xs) (h2 : ixN xs.length i = some n) (h3 : xs[n]? = some x) (h4 : t.rdk x n = some y) (h : q y) : fIxT ρ [t, .sh (.int i)] q := ⟨t, i, rfl, u, h0, xs, n, x, y, h1, h2, h3, h4, h⟩
theorem d_in {d : D} {v : V} {xs : List T} {ws : List V} (h1 : d.sv = some v) (h0 : Rs ρ t u) (h2 : u.seqK = some xs) (h3 : svs xs = some ws) (h : q (.sh (.bl (inV v ws)))) : fIn false ρ [.sh d, t] q := ⟨d, t, v, rfl, h1, u, h0, xs, ws, h2, h3, h⟩
theorem d_nin {d : D} {v : V} {xs : List T} {ws : List V} (h1 : d.sv = some v) (h0 : Rs ρ t u) (h2 : u.seqK = some xs) (h3 : svs xs = some ws) (h : q (.sh (.bl (!inV v ws)))) : fIn true ρ [.sh d, t] q := ⟨d, t, v, rfl, h1, u, h0, xs, ws, h2, h3, h⟩
theorem d_fld {K : PySem.W.Frag} {f : Str} {wa : WE} (h : wa χ ρ fun t ρ1 => ∃ u, Rs ρ1 t u ∧ ∃ C fs xs n x y, u.objK = some (C, fs, xs) ∧ (Cls K C ∧ NoAttr K C f) ∧ kfind fs f = some n ∧ xs[n]? = some x ∧ t.rdk x n = some y ∧ Q y ρ1) : wFld K f wa χ ρ Q := h
theorem d_fldv {K : PySem.W.Frag} {f : Str} {C : Addr} {fs : List Str} {xs : List T} {n : Nat} {x y : T} {P : T → Prop} (h0 : Rs ρ t u) (h1 : u.objK = some (C, fs, xs)) (h2 : Cls K C ∧ NoAttr K C f) (h3 : kfind fs f = some n) (h4 : xs[n]? = some x) (h5 : t.rdk x n = some y) (h : P y) : ∃ u, Rs ρ t u ∧ ∃ C fs xs n x y, u.objK = some (C, fs, xs) ∧ (Cls K C ∧ NoAttr K C f) ∧ kfind fs f = some n ∧ xs[n]? = some x ∧ t.rdk x n = some y ∧ P y := ⟨u, h0, C, fs, xs, n, x, y, h1, h2, h3, h4, h5, h⟩
theorem d_dget {wd wk : WE} (h : wd χ ρ fun t ρ1 => wk χ ρ1 fun tk ρ2 => ∃ u, Rs ρ2 t u ∧ ∃ ks xs d k n x y, u.dictK = some (ks, xs) ∧ tk = .sh d ∧ d.key = some k ∧ kfind ks k = some n ∧ xs[n]? = some x ∧ t.rdk x n = some y ∧ Q y ρ2) : wDGet wd wk χ ρ Q := h
theorem d_dgetv {d : D} {ks : List Key} {xs : List T} {ky : Key} {n : Nat} {x y : T} {P : T → Prop} (h0 : Rs ρ t u) (h1 : u.dictK = some (ks, xs)) (h2 : d.key = some ky) (h3 : kfind ks ky = some n) (h4 : xs[n]? = some x) (h5 : t.rdk x n = some y) (h : P y) : ∃ u, Rs ρ t u ∧ ∃ ks xs d' k n x y, u.dictK = some (ks, xs) ∧ T.sh d = .sh d' ∧ d'.key = some k ∧ kfind ks k = some n ∧ xs[n]? = some x ∧ t.rdk x n = some y ∧ P y := ⟨u, h0, ks, xs, d, ky, n, x, y, h1, rfl, h2, h3, h4, h5, h⟩
theorem d_call {S : SpecD} {wr : WA} (h : wr χ ρ fun ts ρ1 => callW S χ ρ1 ts Q) : wCall S wr χ ρ Q := h
theorem d_call0 {S : SpecD} {wr : WA} (h : wr χ ρ fun ts ρ1 => callW S noX ρ1 ts Q) : wCall0 S wr χ ρ Q := h
theorem d_cw {S : SpecD} {ts ts2 : List T} {ρ2 : Env} {ls : List (Option (Nat × List Nat × Addr))} (hl : LendL ρ ts ρ2 ts2 ls) (h : S ts2 (fun t us => ∃ ρ3, BackL ρ2 ls us ρ3 ∧ Q t ρ3) (fun C fl ds us => ∃ ρ3, BackL ρ2 ls us ρ3 ∧ χ C fl ds ρ3)) : callW S χ ρ ts Q := .inl ⟨ρ2, ts2, ls, hl, h⟩
theorem d_back {us : List T} {ρ3 : Env} {ls : List (Option (Nat × List Nat × Addr))} {P : Env → Prop} (hb : BackL ρ ls us ρ3) (h : P ρ3) : ∃ ρ3, BackL ρ ls us ρ3 ∧ P ρ3 := ⟨ρ3, hb, h⟩
theorem d_meth {C : Addr} {m : Str} {S : SpecD} {wa : WE} {wr : WA} (h : wa χ ρ fun t0 ρ1 => Recv C m ρ1 t0 ∧ wr χ ρ1 fun ts ρ2 => callW S χ ρ2 (t0 :: ts) Q) : wMeth C m S wa wr χ ρ Q := h
theorem d_meth0 {C : Addr} {m : Str} {S : SpecD} {wa : WE} {wr : WA} (h : wa χ ρ fun t0 ρ1 => Recv C m ρ1 t0 ∧ wr χ ρ1 fun ts ρ2 => callW S noX ρ2 (t0 :: ts) Q) : wMeth0 C m S wa wr χ ρ Q := h
theorem d_recv {C : Addr} {m : Str} {fs : List Str} {P : Prop} (h0 : Rs ρ t u) (h1 : u.cls = some (C, fs)) (h2 : fs.contains m = false) (h : P) : Recv C m ρ t ∧ P := ⟨⟨u, h0, fs, h1, h2⟩, h⟩
theorem d_app {wa : WE} {wr : WA} (h : wa χ ρ fun t0 ρ1 => isLst ρ1 t0 ∧ wr χ ρ1 fun ts ρ2 => ∃ a i p xs t, t0 = .sh (.at a i p) ∧ ts = [t] ∧ gt ρ2 i p = some (.lst a xs) ∧ xs.length < 10000 ∧ Q (.sh .non) (pt ρ2 i p (.lst a (xs ++ [t])))) : wApp wa wr χ ρ Q := h
theorem d_islst {xs : List T} {P : Prop} (h0 : Rs ρ t u) (h1 : u.lstK = some xs) (h : P) : isLst ρ t ∧ P := ⟨⟨u, h0, xs, h1⟩, h⟩
theorem d_for {wi : WI} {g : WG} {b : WS} (h : wi k.xc ρ fun its P ρ1 => ∃ I : Nat → Env → Prop, I 0 ρ1 ∧ (∀ i ρ2, I i ρ2 → P ρ2) ∧
  (∀ (i : Nat) (t : T) (ρ2 : Env), its[i]? = some t → I i ρ2 → g t ρ2 fun ρ3 => b { k with nx := fun ρ' => ∃ ρ4, Pubs ρ' ρ4 ∧ I (i + 1) ρ4, ct := fun ρ' => ∃ ρ4, Pubs ρ' ρ4 ∧ I (i + 1) ρ4, bk := k.nx } ρ3) ∧ ∀ ρ2, I its.length ρ2 → k.nx ρ2) : wFor wi g b k ρ := h
theorem d_iList {wa : WE} {q : List T → (Env → Prop) → Env → Prop} (h : wa χ ρ fun t ρ1 => ∃ u, Rs ρ1 t u ∧ ∃ xs ds, u.lstK = some xs ∧ allSh xs = some ds ∧ q (ds.map T.sh) (fun ρ => Rs ρ t u) ρ1) : wiList wa χ ρ q := h
theorem d_iTup {wa : WE} {q : List T → (Env → Prop) → Env → Prop} (h : wa χ ρ fun t ρ1 => ∃ u, Rs ρ1 t u ∧ ∃ xs ds, u.tupK = some xs ∧ allSh xs = some ds ∧ q (ds.map T.sh) (fun ρ => Rs ρ t u) ρ1) : wiTup wa χ ρ q := h
theorem d_iRng1 {wa : WA} {q : List T → (Env → Prop) → Env → Prop} (h : wa χ ρ fun ts ρ1 => ∃ j : Int, ts = [.sh (.int j)] ∧ (-(2 ^ 62) ≤ j ∧ j < 2 ^ 62) ∧ q (rngT 0 j.toNat) (fun _ => True) ρ1) : wiRng1 wa χ ρ q := h
theorem d_iStr {wa : WE} {q : List T → (Env → Prop) → Env → Prop} (h : wa χ ρ fun t ρ1 => ∃ z : Str, t = .sh (.str z) ∧ q (z.cps.toList.map fun c => .sh (.str ⟨#[c]⟩)) (fun _ => True) ρ1) : wiStr wa χ ρ q := h
theorem d_lc {wi : WI} {g : WG} {wt : WT} {we : WE} {vs : List Nat} (h : wi χ ρ fun its P ρ1 => ∃ I : Nat → Env → List T → Prop, I 0 (wipeE ρ1 vs) [] ∧ (∀ i ρ2 acc, I i ρ2 acc → P ρ2 ∧ acc.length < 10000) ∧
  (∀ (i : Nat) (t : T) (ρ2 : Env) (acc : List T), its[i]? = some t → I i ρ2 acc → g t ρ2 fun ρ3 => wt noX ρ3 fun b ρ4 => if b = true then we noX ρ4 fun y ρ5 => ∃ y', PubT y y' ∧ I (i + 1) (wipeE ρ5 vs) (acc ++ [y']) else I (i + 1) (wipeE ρ4 vs) acc) ∧ ∀ ρ2 acc, I its.length ρ2 acc → ∀ a, Q (.lst a acc) (wipeE ρ2 vs)) : wLc wi g wt we vs χ ρ Q := h
theorem d_iT {b : Bool} {A B : Prop} (h : b = true) (q : A) : if b = true then A else B := by rw [if_pos h]; exact q
theorem d_iF {b : Bool} {A B : Prop} (h : b = false) (q : B) : if b = true then A else B := by rw [h]; exact q
theorem d_iB {b : Bool} {A B : Prop} (h1 : b = true → A) (h2 : b = false → B) : if b = true then A else B := by
  cases b with
  | true => exact h1 rfl
  | false => exact h2 rfl
end
end E
namespace E
open PySem PySem.Spec PyProof.Rows L2 G
section
variable {W : Wx} {K : PySem.W.Frag}
/-- a statement and what follows, by what holds between -/
def wCut (a b : WS) : WS := fun k ρ => ∃ I : Env → Prop, a { k with nx := I } ρ ∧ ∀ ρ', I ρ' → b k ρ'
theorem rfs_cut {bs : List Nat} {t u : TS} {a b : WS} (ha : RfS bs W t a) (hb : RfS bs W u b) : RfS bs W (C8.tCut t u) (wCut a b) := fun D σ H ⟨Γ, tv, ρ, tt, k, e, ⟨I, h1, h2⟩, o⟩ =>
  ⟨fun σ' H' => ∃ ρ', I ρ' ∧ Pn bs σ σ' ∧ En Γ H' σ' tv ρ' tt, ha _ σ H ⟨Γ, tv, ρ, tt, _, e, h1, ⟨fun ρ' σ' H' hI p e' => ⟨ρ', hI, p, e'⟩, o.rt, o.bk, o.ct, o.xc, o.cal⟩⟩, fun σ' H' ⟨ρ', hI, p, e'⟩ => hb D σ' H' ⟨Γ, tv, ρ', tt, k, e', h2 ρ' hI, o.at p⟩⟩
theorem d_cut {k : WK} {ρ : Env} {a b : WS} (I : Env → Prop) (h1 : a { k with nx := I } ρ) (h2 : ∀ ρ', I ρ' → b k ρ') : wCut a b k ρ := ⟨I, h1, h2⟩
/-- xs[i] = v -/
def gwSub (wa wi : WE) : WG := fun t ρ k => wa noX ρ fun t0 ρ1 => wi noX ρ1 fun ti ρ2 => ∃ a i p xs kk n, t0 = .sh (.at a i p) ∧ ti = .sh (.int kk) ∧ gt ρ2 i p = some (.lst a xs) ∧ ixN xs.length kk = some n ∧ k (pt ρ2 i p (.lst a (xs.set n t)))
theorem xok0 {Γ : Cg} {tv : List (Option V)} {tt : List T} {σ : L2.St} : XOk (W0 false) Γ tv tt σ noX := ⟨fun z => (nomatch z), fun _ _ _ _ _ _ z => z.elim⟩
theorem rfg_sub {B : Nat → Prop} {ta ti : TE} {wa wi : WE} (ha : Rf (W0 false) ta wa) (hi : Rf (W0 false) ti wi) : RfG B (gSub ta ti rSetL) (gwSub wa wi) := fun Γ H σ tv ρ tt v t k Q e l h q => by
  refine ha σ H _ ⟨Γ, _, ρ, _, noX, _, e, h, xok0, fun t0 ρ1 v0 H1 h1 e1 => ?_⟩
  refine hi σ H1 _ ⟨Γ, _, ρ1, _, noX, _, e1, h1, xok0, fun t1 ρ2 v1 H2 ⟨a, i, p, xs, kk, n, e0, ei, hg, hn, h2⟩ e2 => ?_⟩
  subst e0 ei
  rw [List.append_assoc, List.append_assoc, List.append_assoc, List.append_assoc] at e2
  have r0 := (e2.entry l (k := 1) rfl rfl).un
  have r1 := (e2.entry l (k := 2) rfl rfl).un
  cases r0
  cases r1
  obtain ⟨o, ws, nd, ho, lv, kd, f⟩ := e2.updN l hg rfl
  cases nd
  have lv' : ws.length = xs.length := lv
  refine ⟨a, ws, kk, n, rfl, rfl, ho, by rw [lv']; exact hn, ?_⟩
  have hnl : n < xs.length := by
    unfold ixN at hn
    split at hn
    · split at hn
      · cases hn; omega
      · cases hn
    · split at hn
      · cases hn; omega
      · cases hn
  refine q _ σ _ h2 (fun _ _ => rfl) rfl ?_
  have := f (.lst (ws.set n v)) (.lst a (xs.set n t)) (ws.set n v) [] [] .lst (by simp [T.kids, lv']) rfl (fun b => ?_) (fun z t' hz => ?_)
  · rw [List.append_nil, List.append_nil] at this; exact this
  · have := cn_set b (u := t) (List.getElem?_eq_getElem hnl)
    simp only [T.kids, List.singleton_append, List.cons_append, List.nil_append, ownsL_cons, ownsL_nil, cn_app, cn_noT, List.append_nil]
    show _ + 0 ≤ _
    omega
  · rcases hz with ⟨j, v', rfl, q1, q2⟩ | ⟨j, q1, q2⟩
    · simp only [T.kids] at q2
      by_cases hm : n = j
      · subst hm
        rw [List.getElem?_set_self (by omega)] at q1
        rw [List.getElem?_set_self hnl] at q2
        cases q1; cases q2
        exact .inr (.inl ⟨0, rfl, rfl⟩)
      · rw [List.getElem?_set_ne hm] at q1 q2
        exact .inl ⟨j, v', rfl, q1, q2⟩
    · simp at q1
theorem d_gsub {ρ : Env} {t : T} {wa wi : WE} {k : Env → Prop} (h : wa noX ρ fun t0 ρ1 => wi noX ρ1 fun ti ρ2 => ∃ a i p xs kk n, t0 = .sh (.at a i p) ∧ ti = .sh (.int kk) ∧ gt ρ2 i p = some (.lst a xs) ∧ ixN xs.length kk = some n ∧ k (pt ρ2 i p (.lst a (xs.set n t)))) : gwSub wa wi t ρ k := h
theorem d_gsubv {ρ : Env} {t : T} {a : Addr} {i : Nat} {p : List Nat} {xs : List T} {kk : Int} {n : Nat} {P : Env → Prop} (h1 : gt ρ i p = some (.lst a xs)) (h2 : ixN xs.length kk = some n) (h : P (pt ρ i p (.lst a (xs.set n t)))) : ∃ a' i' p' xs kk' n, T.sh (.at a i p) = .sh (.at a' i' p') ∧ T.sh (.int kk) = .sh (.int kk') ∧ gt ρ i' p' = some (.lst a' xs) ∧ ixN xs.length kk' = some n ∧ P (pt ρ i' p' (.lst a' (xs.set n t))) := ⟨a, i, p, xs, kk, n, rfl, rfl, h1, h2, h⟩
theorem cd_fdivW : CbD (r2 (rI CDivW fun i j => .int (i / j))) (fI CDivW fun i j => .int (i / j)) := cd_I fun _ _ _ _ => .int _
theorem cd_mulW : CbD (r2 (rI CMulW fun i j => .int (i * j))) (fI CMulW fun i j => .int (i * j)) := cd_I fun _ _ _ _ => .int _
theorem cd_pow : CbD (r2 (rI CPow fun i j => .int (i ^ j.toNat))) (fI CPow fun i j => .int (i ^ j.toNat)) := cd_I fun _ _ _ _ => .int _
def fIxS : Fd := fun ρ as Q => ∃ z i c, as = [.sh (.str z), .sh (.int i)] ∧ z.length ≤ 100000 ∧ atI z.cps.toList i = some c ∧ Q (.sh (.str ⟨#[c]⟩))
theorem cd_ixS : CbD (r2 rIxS) fIxS := ⟨fun Γ H σ tv ρ tt vs as Q k e l ⟨z, i, c, ea, hz, hc, hk⟩ q x y ev => by
  subst ea ev
  obtain ⟨r1, r2⟩ := e.two l
  have r1 := r1.un
  have r2 := r2.un
  cases r1
  cases r2
  exact ⟨z, i, c, rfl, rfl, by rw [sizeLine_eq]; omega, hc, q _ _ H hk ((e.drop l).push (.str _))⟩⟩
def fMulS : Fd := fun ρ as Q => ∃ (c : Nat) (n : Int), as = [.sh (.str ⟨#[c]⟩), .sh (.int n)] ∧ 2 ≤ n ∧ n ≤ 1000 ∧ Q (.sh (.str ⟨(List.replicate n.toNat c).toArray⟩))
theorem cd_mulS : CbD (r2 (fun x y H Q => ∃ (c : Nat) (n : Int), x = .str ⟨#[c]⟩ ∧ y = .int n ∧ 2 ≤ n ∧ n ≤ 1000 ∧ Q (.str ⟨(List.replicate n.toNat c).toArray⟩) H)) fMulS := ⟨fun Γ H σ tv ρ tt vs as Q k e l ⟨c, n, ea, h1, h2, hk⟩ q x y ev => by
  subst ea ev
  obtain ⟨r1, r2⟩ := e.two l
  have r1 := r1.un
  have r2 := r2.un
  cases r1
  cases r2
  exact ⟨c, n, rfl, rfl, h1, h2, q _ _ H hk ((e.drop l).push (.str _))⟩⟩
def fInS (neg : Bool) : Fd := fun ρ as Q => ∃ (c : Nat) (z : Str), as = [.sh (.str ⟨#[c]⟩), .sh (.str z)] ∧ Q (.sh (.bl (if neg then !decide (c ∈ z.cps.toList) else decide (c ∈ z.cps.toList))))
theorem cd_inS : CbD (r2 rInS) (fInS false) := ⟨fun Γ H σ tv ρ tt vs as Q k e l ⟨c, z, ea, hk⟩ q x y ev => by
  subst ea ev
  obtain ⟨r1, r2⟩ := e.two l
  have r1 := r1.un
  have r2 := r2.un
  cases r1
  cases r2
  exact ⟨c, z, rfl, rfl, q _ _ H hk ((e.drop l).push (.bl _))⟩⟩
theorem cd_notInS : CbD (r2 rNotInS) (fInS true) := ⟨fun Γ H σ tv ρ tt vs as Q k e l ⟨c, z, ea, hk⟩ q x y ev => by
  subst ea ev
  obtain ⟨r1, r2⟩ := e.two l
  have r1 := r1.un
  have r2 := r2.un
  cases r1
  cases r2
  exact ⟨c, z, rfl, rfl, q _ _ H hk ((e.drop l).push (.bl _))⟩⟩
/-- sep.join(list of texts) -/
def wJoin (wa wr : WE) : WE := fun χ ρ Q => wa χ ρ fun t0 ρ1 => ∃ z, t0 = .sh (.str z) ∧ wr χ ρ1 fun t ρ2 => ∃ u, Rs ρ2 t u ∧ ∃ ys : List Str, u.seqK = some (ys.map fun y => T.sh (.str y)) ∧ (ys.map (·.length)).sum + ys.length * z.length ≤ 16777216 ∧ Q (.sh (.str (Txt.join z ys))) ρ2
theorem rf_join {ta tr : TE} {wa wr : WE} (ha : Rf W ta wa) (hr : Rf W tr wr) : Rf W (tM1 (rJoin K) ta tr) (wJoin wa wr) := fun σ H Q ⟨Γ, tv, ρ, tt, χ, Q1, e, h, x, k⟩ => by
  refine ha σ H _ ⟨Γ, tv, ρ, tt, χ, _, e, h, x, fun t0 ρ1 v0 H1 ⟨z, ez, h1⟩ e1 => ?_⟩
  subst ez
  have r0 := e1.last.un
  cases r0
  refine ⟨⟨z, rfl⟩, hr σ H1 _ ⟨Γ, _, ρ1, _, χ, _, e1, h1, x.deep e.tl rfl, fun t ρ2 v H2 ⟨u, hs, ys, hu, hl, h2⟩ e2 => ?_⟩⟩
  obtain ⟨a, vs, rfl, h3, h4, kd⟩ := (Rs.rep e2 e2.last hs).seqK (K := K) hu
  obtain ⟨h5, _⟩ := svs_eq (svs_strs ys) h4 kd
  subst h5
  rw [List.append_assoc, List.append_assoc] at e2
  exact ⟨z, a, ys, rfl, rfl, h3, hl, k _ ρ2 _ H2 h2 ((e2.drop e.tl).push (.str _))⟩
theorem d_join {χ : XD} {ρ : Env} {Q : T → Env → Prop} {wa wr : WE} (h : wa χ ρ fun t0 ρ1 => ∃ z, t0 = .sh (.str z) ∧ wr χ ρ1 fun t ρ2 => ∃ u, Rs ρ2 t u ∧ ∃ ys : List Str, u.seqK = some (ys.map fun y => T.sh (.str y)) ∧ (ys.map (·.length)).sum + ys.length * z.length ≤ 16777216 ∧ Q (.sh (.str (Txt.join z ys))) ρ2) : wJoin wa wr χ ρ Q := h
theorem d_int {ρ : Env} {q : T → Prop} {i : Int} (h : q (.sh (.int i))) : fInt ρ [.sh (.int i)] q := .inl ⟨i, rfl, h⟩
theorem d_intb {ρ : Env} {q : T → Prop} {b : Bool} (h : q (.sh (.int (if b then 1 else 0)))) : fInt ρ [.sh (.bl b)] q := .inr ⟨b, rfl, h⟩
theorem d_dput {k : WK} {ρ : Env} {wd wk wv : WE} (h : wv k.xc ρ fun t1 ρ1 => wd k.xc ρ1 fun t0 ρ2 => wk k.xc ρ2 fun tk ρ3 => ∃ a i p ks xs d ky ks' xs', t0 = .sh (.at a i p) ∧ tk = .sh d ∧ d.key = some ky ∧ gt ρ3 i p = some (.dK a ks xs) ∧ ks.length < 10000 ∧ PutR ks xs ky t1 ks' xs' ∧ k.nx (pt ρ3 i p (.dK a ks' xs'))) : wDPut wd wk wv k ρ := h
theorem d_sfld {K : PySem.W.Frag} {f : Str} {k : WK} {ρ : Env} {wa wv : WE} (h : wv k.xc ρ fun t10 ρ1 => ∃ t1, (t1 = t10 ∨ ∃ d, t10.pub = some d ∧ t1 = .sh d) ∧ wa k.xc ρ1 fun t0 ρ2 => ∃ a i p C fs xs fs' xs', t0 = .sh (.at a i p) ∧ gt ρ2 i p = some (.obj a C fs xs) ∧ (Cls K C ∧ NoAttr K C f) ∧ fs.length < 900 ∧ PutR fs xs f t1 fs' xs' ∧ k.nx (pt ρ2 i p (.obj a C fs' xs'))) : wSFld K f wa wv k ρ := h
theorem d_iss {z : Str} {P : Str → Prop} (h : P z) : ∃ y, T.sh (.str z) = .sh (.str y) ∧ P y := ⟨z, rfl, h⟩
theorem pmv {X : Cx} (i : Nat) {x : Str} {pos : Pos} (hN : X.N[i]? = some x := by rfl) (hv : Vis X.env.scope x := by first | exact Or.inl rfl | exact Or.inr (Or.inl rfl) | exact Or.inr (Or.inr rfl)) (hd : (x == ("__debug__" : Str)) = false := by decide)
    (hcd : (x == ("__classdict__" : Str)) = false := by decide) : PE X (.Name x pos) (tMv i) := pe_var hN hv hd hcd
theorem d_st {w : WS} {k : WK} {ρ ρ' : Env} (e : ρ = ρ') (h : w k ρ') : w k ρ := e ▸ h
theorem ixN_int {n : Nat} {i : Int} (h0 : 0 ≤ i) (h : i < n) : ixN n i = some i.toNat := by
  unfold ixN
  rw [if_pos h0, if_pos h]
end
end E
namespace E
open PySem PySem.Spec PyProof.Rows L2 G
section
variable {χ : XD} {ρ ρ1 : Env} {Q : T → Env → Prop} {k : WK} {t u : T} {i : Nat} {q : T → Prop}
theorem d_isi {n m : String} (b : Bool) (h0 : Rs ρ t u) (h1 : u.tyn = some m) (h2 : kitB m n = some b) (h : q (.sh (.bl b))) : fIsi ρ [t, .sh (.ty n)] q := ⟨t, n, rfl, u, h0, m, b, h1, h2, h⟩
theorem d_lenR {ks : List Key} {xs : List T} (h0 : Rs ρ t u) (h1 : u.dictK = some (ks, xs)) (h : q (.sh (.int ks.length))) : fLenR ρ [t] q := ⟨t, rfl, u, h0, ks, xs, h1, h⟩
theorem d_din {wk wd : WE} (h : wk χ ρ fun tk ρ1 => wd χ ρ1 fun t ρ2 => ∃ u, Rs ρ2 t u ∧ ∃ ks xs d k, u.dictK = some (ks, xs) ∧ tk = .sh d ∧ d.key = some k ∧ Q (.sh (.bl (kfind ks k).isSome)) ρ2) : wDIn false wk wd χ ρ Q := h
theorem d_dnin {wk wd : WE} (h : wk χ ρ fun tk ρ1 => wd χ ρ1 fun t ρ2 => ∃ u, Rs ρ2 t u ∧ ∃ ks xs d k, u.dictK = some (ks, xs) ∧ tk = .sh d ∧ d.key = some k ∧ Q (.sh (.bl (!(kfind ks k).isSome))) ρ2) : wDIn true wk wd χ ρ Q := h
theorem d_tru {wa : WE} {qb : Bool → Env → Prop} (h : wa χ ρ fun t ρ1 => ∃ u, Rs ρ1 t u ∧ ((∃ xs, u.seqK = some xs ∧ qb (!xs.isEmpty) ρ1) ∨ (u = .sh .non ∧ qb false ρ1) ∨ (∃ b, u = .sh (.bl b) ∧ qb b ρ1) ∨ ∃ i, u = .sh (.int i) ∧ qb (i != 0) ρ1)) : wTru wa χ ρ qb := h
theorem d_raise {C : Addr} {fl : List Str} {wa : WA} (h : wa k.xc ρ fun ts ρ1 => ∃ ds, pubL ts = some ds ∧ ds.length = fl.length ∧ ds.length ≤ 900 ∧ k.xc C fl.reverse ds.reverse ρ1) : wRaise C fl wa k ρ := h
theorem d_make {C : Addr} {S : SpecD} {wr : WA} (h : wr χ ρ fun ts ρ1 => ∀ a, ∃ ρ2 ts2 ls, LendL ρ1 ts ρ2 ts2 ls ∧ S (.obj a C [] [] :: ts2) (fun t us => t = .sh .non ∧ ∃ u us' ρ3, us = u :: us' ∧ BackL ρ2 ls us' ρ3 ∧ Q u ρ3) (fun C fl ds us => ∃ u us' ρ3, us = u :: us' ∧ BackL ρ2 ls us' ρ3 ∧ χ C fl ds ρ3)) : wMake C S wr χ ρ Q := h
theorem d_mkw {C a : Addr} {S : SpecD} {ts ts2 : List T} {ρ2 : Env} {ls : List (Option (Nat × List Nat × Addr))} (hl : LendL ρ ts ρ2 ts2 ls) (h : S (.obj a C [] [] :: ts2) (fun t us => t = .sh .non ∧ ∃ u us' ρ3, us = u :: us' ∧ BackL ρ2 ls us' ρ3 ∧ Q u ρ3) (fun C fl ds us => ∃ u us' ρ3, us = u :: us' ∧ BackL ρ2 ls us' ρ3 ∧ χ C fl ds ρ3)) : ∃ ρ2 ts2 ls, LendL ρ ts ρ2 ts2 ls ∧ S (.obj a C [] [] :: ts2) (fun t us => t = .sh .non ∧ ∃ u us' ρ3, us = u :: us' ∧ BackL ρ2 ls us' ρ3 ∧ Q u ρ3) (fun C fl ds us => ∃ u us' ρ3, us = u :: us' ∧ BackL ρ2 ls us' ρ3 ∧ χ C fl ds ρ3) := ⟨ρ2, ts2, ls, hl, h⟩
theorem d_mkb {us' : List T} {ρ3 : Env} {ls : List (Option (Nat × List Nat × Addr))} {P : T → Env → Prop} (hb : BackL ρ ls us' ρ3) (h : P u ρ3) : (T.sh .non = .sh .non) ∧ ∃ v us'' ρ3, u :: us' = v :: us'' ∧ BackL ρ ls us'' ρ3 ∧ P v ρ3 := ⟨rfl, u, us', ρ3, rfl, hb, h⟩
theorem d_list {xs : List T} {ds : List D} (h0 : Rs ρ t u) (h1 : u.seqK = some xs) (h2 : allSh xs = some ds) (h : ∀ a, q (.lst a (ds.map T.sh))) : fList ρ [t] q := ⟨t, rfl, u, h0, xs, ds, h1, h2, h⟩
theorem d_tuple {xs : List T} {ds : List D} (h0 : Rs ρ t u) (h1 : u.seqK = some xs) (h2 : allSh xs = some ds) (h : q (.sh (.tup ds))) : fTuple ρ [t] q := ⟨t, rfl, u, h0, xs, ds, h1, h2, h⟩
theorem d_aug {f : Int → Int → Int} {w : WE} {a : Int} (h0 : ρ[i]? = some (.sh (.int a))) (h : w k.xc ρ fun t ρ1 => ∃ b, t = .sh (.int b) ∧ i < ρ1.length ∧ k.nx (ρ1.set i (.sh (.int (f a b))))) : wAug i f w k ρ := ⟨a, h0, h⟩
theorem d_gtup {n : Nat} {w : List T → Env → (Env → Prop) → Prop} {ds : List D} {K' : Env → Prop} (hn : ds.length = n) (h : w (ds.map T.sh) ρ K') : gwTup n w (.sh (.tup ds)) ρ K' := ⟨ds, rfl, hn, h⟩
end
end E
namespace E
open PySem PySem.Spec PyProof.Rows L2 G
section
variable {χ : XD} {ρ ρ1 : Env} {Q : T → Env → Prop} {k : WK} {t u : T} {i : Nat} {q : T → Prop}
theorem d_gtup2 {n : Nat} {w : List T → Env → (Env → Prop) → Prop} {a b : D} {K' : Env → Prop} (hn : [a, b].length = n) (h : w [.sh a, .sh b] ρ K') : gwTup n w (.sh (.tup [a, b])) ρ K' := ⟨[a, b], rfl, hn, h⟩
theorem d_gtup3 {n : Nat} {w : List T → Env → (Env → Prop) → Prop} {a b c : D} {K' : Env → Prop} (hn : [a, b, c].length = n) (h : w [.sh a, .sh b, .sh c] ρ K') : gwTup n w (.sh (.tup [a, b, c])) ρ K' := ⟨[a, b, c], rfl, hn, h⟩
theorem d_augw {b : Int} {P : Int → Prop} {A : Prop} (ha : A) (h : P b) : ∃ b', T.sh (.int b) = .sh (.int b') ∧ A ∧ P b' := ⟨b, rfl, ha, h⟩
theorem d_gnil {p : Prop} (h : p) : ([] : List T) = [] ∧ p := ⟨rfl, h⟩
end
end E
namespace E
open PySem PySem.Spec PyProof.Rows L2 G
/-- {key: value for target in iter if test} -/
def wDc (wi : WI) (g : WG) (wt : WT) (wk we : WE) (vs : List Nat) : WE := fun χ ρ Q => wi χ ρ fun its P ρ1 => ∃ I : Nat → Env → List Key → List T → Prop, I 0 (wipeE ρ1 vs) [] [] ∧ (∀ i ρ2 ks xs, I i ρ2 ks xs → P ρ2 ∧ ks.length < 10000) ∧
  (∀ (i : Nat) (t : T) (ρ2 : Env) (ks : List Key) (xs : List T), its[i]? = some t → I i ρ2 ks xs → g t ρ2 fun ρ3 => wt noX ρ3 fun b ρ4 => if b = true then wk noX ρ4 fun tk ρ5 => we noX ρ5 fun y ρ6 => ∃ d ky y' ks' xs', tk = .sh d ∧ d.key = some ky ∧ PubT y y' ∧ PutR ks xs ky y' ks' xs' ∧ I (i + 1) (wipeE ρ6 vs) ks' xs' else I (i + 1) (wipeE ρ4 vs) ks xs) ∧ ∀ ρ2 ks xs, I its.length ρ2 ks xs → ∀ a, Q (.dK a ks xs) (wipeE ρ2 vs)
theorem dcCore {g : TG} {tt' : TT} {tk te : TE} {vs : List Nat} {wg : WG} {wt : WT} {wk' we : WE} {c : Bool} (hg : RfG (fun k => k ∉ vs) g wg) (ht : RfT (W0 c) tt' wt) (hk : Rf (W0 c) tk wk') (he : Rf (W0 c) te we) {Γ : Cg} {H1 : Hp} {σ : L2.St} {tv xv : List (Option V)} {ρ1 : Env} {tt xt : List T} {P : Env → Prop} {J : It} {its : List T} {I : Nat → Env → List Key → List T → Prop} {Qd : Addr → Hp → Prop} (cal : c = true → Calm Γ.H0) (l : tv.length = tt.length) (lx : xv.length = xt.length)
    (i0 : I 0 (wipeE ρ1 vs) [] []) (hP : ∀ i ρ2 ks xs, I i ρ2 ks xs → P ρ2 ∧ ks.length < 10000)
    (turn : ∀ (i : Nat) (t : T) (ρ2 : Env) (ks : List Key) (xs : List T), its[i]? = some t → I i ρ2 ks xs → wg t ρ2 fun ρ3 => wt noX ρ3 fun b ρ4 => if b = true then wk' noX ρ4 fun tk ρ5 => we noX ρ5 fun y ρ6 => ∃ d ky y' ks' xs', tk = .sh d ∧ d.key = some ky ∧ PubT y y' ∧ PutR ks xs ky y' ks' xs' ∧ I (i + 1) (wipeE ρ6 vs) ks' xs' else I (i + 1) (wipeE ρ4 vs) ks xs)
    (e1 : En Γ H1 σ (tv ++ xv) ρ1 (tt ++ xt)) (wk : Wk Γ tv xv tt xt P J its) (fin : ∀ D H2 ρ2 ks xs, I its.length ρ2 ks xs → En Γ H2 σ (tv ++ (xv ++ [some (.ref D)])) (wipeE ρ2 vs) (tt ++ (xt ++ [.dK D ks xs])) → Qd D H2) :
    ∀ D, H1 D = none → ∃ Wn : Nat → Nat → Hp → Prop, (∃ m, Wn 0 m (upd H1 D (.dK []))) ∧ ∀ i m H, Wn i m H →
      (J.stop i H ∧ Qd D H) ∨ (J.go i H ∧ ∃ Nx : Hp → Prop, (∀ H', Nx H' → ∃ m', m' < m ∧ Wn (i + 1) m' H') ∧ ∀ x H', J.yld i H x H' → g x (wipe σ vs) H' fun σ2 H2 => wipe σ2 vs = wipe σ vs ∧ tt' σ2 H2 fun b H3 =>
        if b = true then tk σ2 H3 fun y H4 => te σ2 H4 fun z H5 => ∃ kvs k, y = kV k ∧ H5 D = some (.dK kvs) ∧ kvs.length < sizeLine ∧ Nx (upd H5 D (.dK (putK kvs k z))) else Nx H3) := by
  intro D hD
  refine ⟨fun i m H2 => m = its.length - i ∧ i ≤ its.length ∧ ∃ ρ2 ks xs, I i ρ2 ks xs ∧ En Γ H2 (wipe σ vs) (tv ++ (xv ++ [some (.ref D)])) ρ2 (tt ++ (xt ++ [.dK D ks xs])), ⟨its.length, by simp, Nat.zero_le _, _, [], [], i0, ?_⟩, ?_⟩
  · have e2 : En Γ (upd H1 D (.dK [])) σ (tv ++ (xv ++ [some (.ref D)])) ρ1 (tt ++ (xt ++ [.dK D [] []])) := by
      rw [← List.append_assoc, ← List.append_assoc]
      refine .of1 (Ok.alloc (ys := []) (us := []) (u := .dK D [] []) (vs := []) (by simpa only [List.append_nil] using e1.ok) e1.ok.len hD (fun a o z => by rw [upd_ne (ne_of_none z hD)]; exact z) (fun a z => ?_) (nofrz (by intro o kvs z; cases z)) (Nd.dK (a := D) (xs := []) (kvs := [])) upd_same rfl (fun b => Nat.le_refl _) (fun j v t h2 => by simp at h2)) e1.len
      by_cases q : a = D
      · rw [q]; exact hD
      · rw [upd_ne q] at z; exact z
    exact e2.wiped (wipe_length σ vs) fun k hk => wipe_get hk
  rintro i m H2 ⟨rfl, hil, ρ2, ks, xs, hI, e2⟩
  obtain ⟨hp, hacc⟩ := hP i ρ2 ks xs hI
  have e2d : En Γ H2 (wipe σ vs) (tv ++ xv) ρ2 (tt ++ xt) := En.drop (ys := [some (.ref D)]) (us := [.dK D ks xs]) (by rw [List.append_assoc, List.append_assoc]; exact e2) (by simp [l, lx])
  by_cases hlt : i < its.length
  · refine .inr ⟨wk.go i H2 _ ρ2 hlt hp e2d, fun H3 => ∃ ρ3 ks3 xs3, I (i + 1) ρ3 ks3 xs3 ∧ En Γ H3 (wipe σ vs) (tv ++ (xv ++ [some (.ref D)])) ρ3 (tt ++ (xt ++ [.dK D ks3 xs3])), fun H3 ⟨ρ3, ks3, xs3, h3, e3⟩ => ⟨its.length - (i + 1), by omega, rfl, hlt, ρ3, ks3, xs3, h3, e3⟩, fun y H3 hy => ?_⟩
    obtain ⟨t, ht1, e3⟩ := wk.yld i H2 _ ρ2 y H3 [some (.ref D)] [.dK D ks xs] hlt hp e2 hy
    refine hg Γ H3 (wipe σ vs) _ ρ2 _ y t _ _ e3 e2.tl (turn i t ρ2 ks xs ht1 hI) fun ρ3 σ3 H4 h4 p3 l3 e4 => ?_
    have hw3 : wipe σ3 vs = wipe σ vs := (wipe_eq l3 p3).trans (wipe_wipe σ vs)
    refine ⟨hw3, ?_⟩
    have l3' : (wipe σ vs).length = σ3.length := l3.symm
    refine ht σ3 H4 _ ⟨Γ, _, ρ3, _, noX, _, e4, h4, xok_none cal, fun b ρ4 H5 h5 e5 => ?_⟩
    cases b with
    | false => exact iteF ⟨_, ks, xs, h5, e5.wiped l3' fun k hk => (p3 k hk).symm⟩
    | true =>
      refine iteT (hk σ3 H5 _ ⟨Γ, _, ρ4, _, noX, _, e5, h5, xok_none cal, fun tky ρ5 kv H6 h6 e6 => ?_⟩)
      refine he σ3 H6 _ ⟨Γ, _, ρ5, _, noX, _, e6, h6, xok_none cal, fun yt0 ρ6 yv H7 ⟨d, ky, yt, ks', xs', etk, hky, hpt', hput, h7⟩ e70 => ?_⟩
      subst etk
      have e7 := e70.pubt e6.tl hpt'
      have ok7 : Ok Γ H7 ((σ3 ++ (tv ++ (xv ++ [some (.ref D)]))) ++ [some kv, some yv]) ((ρ6 ++ (tt ++ (xt ++ [T.dK D ks xs]))) ++ [.sh d, yt]) := by
        have := e7.ok
        simp only [List.append_assoc, List.cons_append, List.nil_append] at this ⊢
        exact this
      have e7b : En Γ H7 σ3 ((tv ++ (xv ++ [some (.ref D)])) ++ [some kv, some yv]) ρ6 ((tt ++ (xt ++ [T.dK D ks xs])) ++ [.sh d, yt]) := ⟨by
        have := e7.ok
        simp only [List.append_assoc, List.cons_append, List.nil_append] at this ⊢
        exact this, e7.len⟩
      have rk := e7b.entry (by simp [l, lx]) (k := 0) rfl rfl
      have ekv : kv = kV ky := by
        cases rk with
        | sh rk => exact rk.key hky
      have hgt : gt (ρ6 ++ (tt ++ (xt ++ [T.dK D ks xs]))) (ρ6.length + (tt.length + xt.length)) [] = some (.dK D ks xs) := by
        unfold gt
        rw [List.getElem?_append_right (by omega), Nat.add_sub_cancel_left, List.getElem?_append_right (by omega), Nat.add_sub_cancel_left, List.getElem?_append_right (by omega), Nat.sub_self]
        rfl
      have hpt : ∀ u, pt (ρ6 ++ (tt ++ (xt ++ [T.dK D ks xs]))) (ρ6.length + (tt.length + xt.length)) [] u = ρ6 ++ (tt ++ (xt ++ [u])) := fun u => by
        unfold pt
        have : (ρ6 ++ (tt ++ (xt ++ [T.dK D ks xs])))[ρ6.length + (tt.length + xt.length)]? = some (.dK D ks xs) := by
          rw [List.getElem?_append_right (by omega), Nat.add_sub_cancel_left, List.getElem?_append_right (by omega), Nat.add_sub_cancel_left, List.getElem?_append_right (by omega), Nat.sub_self]
          rfl
        rw [this]
        show (ρ6 ++ (tt ++ (xt ++ [T.dK D ks xs]))).set _ (T.put _ [] u) = _
        rw [List.set_append_right _ _ (by omega), Nat.add_sub_cancel_left, List.set_append_right _ _ (by omega), Nat.add_sub_cancel_left, List.set_append_right _ _ (by omega), Nat.sub_self]
        rfl
      obtain ⟨o, ws, nd, ho, lv, kd, f⟩ := Ok.upd ok7 (e7b.l2 rfl) hgt rfl
      cases nd with
      | @dK _ _ kvs =>
      have lv' : kvs.length = xs.length := by simpa [T.kids] using lv
      obtain ⟨kvs', hcase, e4', l3k, l4, hcn, hsrc⟩ := put_cases (v := yv) hput rfl lv'
      have epf : putK kvs ky yv = kvs' := by
        rcases hcase with ⟨n, q1, q2, rfl⟩ | ⟨q, rfl⟩
        · exact putK_old q1 q2
        · exact putK_new q
      rw [List.length_map] at hacc
      refine ⟨kvs, ky, ekv, ho, szl' hacc, wipeE ρ6 vs, ks', xs', h7, ?_⟩
      rw [epf]
      subst e4'
      have ok8 := f (.dK kvs') (.dK D (kvs'.map Prod.fst) xs') (kvs'.map Prod.snd) [] [] .dK (by simp [T.kids, l3k]) rfl (fun b => ?_) (fun z t' hz => ?_)
      · rw [List.append_nil, List.append_nil, hpt] at ok8
        exact En.wiped (σ := σ3) ⟨ok8, e7.len⟩ l3' fun k hk => (p3 k hk).symm
      · have := hcn b
        simp only [T.kids, ownsL_cons, ownsL_nil, cn_app, List.append_nil]
        show _ + 0 ≤ _
        omega
      · rcases hz with ⟨j, v, rfl, q1, q2⟩ | ⟨j, q1, q2⟩
        · rcases hsrc j v t' q1 q2 with ⟨z1, z2⟩ | ⟨rfl, rfl⟩
          · exact .inl ⟨j, v, rfl, z1, z2⟩
          · exact .inr (.inl ⟨1, rfl, rfl⟩)
        · simp at q1
  · have : i = its.length := by omega
    subst this
    refine .inl ⟨wk.stop H2 _ ρ2 hp e2d, ?_⟩
    have e3 := e2.wiped (σ' := σ) (vs := vs) (wipe_length σ vs).symm fun k hk => (wipe_get hk).symm
    exact fin D H2 ρ2 ks xs hI e3
section
variable {W : Wx}
theorem rf_dc {wi : TI} {g : TG} {tt' : TT} {tk te : TE} {vs : List Nat} {w : WI} {wg : WG} {wt : WT} {wk we : WE} (hi : RfI W wi w) (hg : RfG (fun k => k ∉ vs) g wg) (ht : RfT (W0 W.c) tt' wt) (hk : Rf (W0 W.c) tk wk) (he : Rf (W0 W.c) te we) : Rf W (tDc wi g tt' tk te vs) (wDc w wg wt wk we vs) := fun σ H Q ⟨Γ, tv, ρ, tt, χ, Q1, e, h, x, k⟩ => by
  refine hi σ H _ ⟨Γ, tv, ρ, tt, χ, _, e, h, x, fun its P ρ1 H1 J xv xt ⟨I, i0, hP, turn, fin⟩ e1 lx wk' => ?_⟩
  exact dcCore hg ht hk he (Qd := fun D H2 => Q (.ref D) H2) x.1 e.tl lx i0 hP turn e1 wk' fun D H2 ρ2 ks xs hI e3 => k _ _ _ H2 (fin ρ2 ks xs hI D) (En.mid (ys := xv) (us := xt) (by rw [List.append_assoc, List.append_assoc]; exact e3) e.tl lx)
theorem d_dc {χ : XD} {ρ : Env} {Q : T → Env → Prop} {wi : WI} {g : WG} {wt : WT} {wk we : WE} {vs : List Nat} (h : wi χ ρ fun its P ρ1 => ∃ I : Nat → Env → List Key → List T → Prop, I 0 (wipeE ρ1 vs) [] [] ∧ (∀ i ρ2 ks xs, I i ρ2 ks xs → P ρ2 ∧ ks.length < 10000) ∧
  (∀ (i : Nat) (t : T) (ρ2 : Env) (ks : List Key) (xs : List T), its[i]? = some t → I i ρ2 ks xs → g t ρ2 fun ρ3 => wt noX ρ3 fun b ρ4 => if b = true then wk noX ρ4 fun tk ρ5 => we noX ρ5 fun y ρ6 => ∃ d ky y' ks' xs', tk = .sh d ∧ d.key = some ky ∧ PubT y y' ∧ PutR ks xs ky y' ks' xs' ∧ I (i + 1) (wipeE ρ6 vs) ks' xs' else I (i + 1) (wipeE ρ4 vs) ks xs) ∧ ∀ ρ2 ks xs, I its.length ρ2 ks xs → ∀ a, Q (.dK a ks xs) (wipeE ρ2 vs)) : wDc wi g wt wk we vs χ ρ Q := h
end
end E
namespace E
open PySem PySem.Spec PyProof.Rows L2 G
def rDictPs (K : PySem.W.Frag) : TC := fun xs H Q => ∃ (a : Addr) (ps : List Addr) (kvs : List (Key × V)), xs = [.ref a] ∧ SqL K H a (ps.map V.ref) ∧ Paired (fun p kv => SqT K H p [kV kv.1, kv.2]) ps kvs ∧ ∀ p, H p = none → Q (.ref p) (upd H p (.dK (mergeK [] kvs)))
theorem kD_key (k : Key) : (kD k).key = some k := by cases k <;> rfl
theorem mergeK_app : ∀ (more kvs : List (Key × V)), ((kvs ++ more).map Prod.fst).Nodup → mergeK kvs more = kvs ++ more
  | [], kvs, _ => (List.append_nil kvs).symm
  | (k, v) :: r, kvs, nd => by
    have h1 : k ∉ kvs.map Prod.fst := fun m => by
      rw [List.map_append, List.nodup_append] at nd
      exact nd.2.2 k m k (by simp) rfl
    show mergeK (putK kvs k v) r = _
    rw [putK_new h1, mergeK_app r (kvs ++ [(k, v)]) (by rw [List.append_assoc]; exact nd), List.append_assoc]
    rfl
theorem pairsAt {H : Hp} {A : Addr → Prop} {K : PySem.W.Frag} : ∀ (kds : List (Key × D)) (ws : List V), ws.length = kds.length → (∀ (j : Nat) (w : V) (p : Key × D), ws[j]? = some w → kds[j]? = some p → RD H A w (.tup [kD p.1, p.2])) → ∃ (ps : List Addr) (kvs : List (Key × V)), ws = ps.map V.ref ∧ kvs.map Prod.fst = kds.map Prod.fst ∧ Paired (fun p kv => SqT K H p [kV kv.1, kv.2]) ps kvs ∧ ∀ (j : Nat) (kv : Key × V) (p : Key × D), kvs[j]? = some kv → kds[j]? = some p → RD H A kv.2 p.2
  | [], ws, hl, _ => by
    cases ws with
    | nil => exact ⟨[], [], rfl, rfl, .nil, fun j kv p h => by simp at h⟩
    | cons a r => simp at hl
  | p :: r, ws, hl, h => by
    cases ws with
    | nil => simp at hl
    | cons w ws =>
      obtain ⟨ps, kvs, e1, e2, hp, hr⟩ := pairsAt (K := K) r ws (by simpa using hl) fun j w' p' h1 h2 => h (j + 1) w' p' (by simpa using h1) (by simpa using h2)
      have h0 := h 0 w p rfl rfl
      cases h0 with
      | @tup a vs _ ha _ lv kd =>
      match vs, lv, kd, ha with
      | [v1, v2], _, kd, ha =>
        have k1 : v1 = kV p.1 := (kd 0 v1 _ rfl rfl).key (kD_key _)
        have k2 : RD H A v2 p.2 := kd 1 v2 _ rfl rfl
        subst k1
        refine ⟨a :: ps, (p.1, v2) :: kvs, by rw [e1]; rfl, by simp [e2], .cons (tq ha) hp, fun j kv p' h1 h2 => ?_⟩
        cases j with
        | zero => simp at h1 h2; subst h1 h2; exact k2
        | succ j => exact hr j kv p' (by simpa using h1) (by simpa using h2)
section
variable {K : PySem.W.Frag}
def fDictP : Fd := fun ρ as Q => ∃ t, as = [t] ∧ ∃ u, Rs ρ t u ∧ ∃ (kds : List (Key × D)), u.lstK = some (kds.map fun p => T.sh (.tup [kD p.1, p.2])) ∧ (kds.map Prod.fst).Nodup ∧ ∀ a, Q (.dK a (kds.map Prod.fst) (kds.map fun p => T.sh p.2))
theorem cd_dictP : CbD (rDictPs K) fDictP := ⟨fun Γ H σ tv ρ tt vs as Q k e l ⟨t, ea, u, hr, kds, hs, nd, hk⟩ q => by
  subst ea
  obtain ⟨v, rfl⟩ := e.vs1 l
  obtain ⟨a, ws, rfl, h1, h2, kd⟩ := (Rs.rep e e.one hr).lstK hs
  obtain ⟨ps, kvs, rfl, ek, hp, hr2⟩ := pairsAt (K := K) kds ws (by rw [h2, List.length_map]) fun j w p q1 q2 => (kd j w _ q1 (map_get q2)).un
  have nd2 : (([] ++ kvs).map Prod.fst).Nodup := by rw [List.nil_append, ek]; exact nd
  refine ⟨a, ps, kvs, rfl, lq h1, hp, fun p hp' => ?_⟩
  rw [mergeK_app kvs [] nd2, List.nil_append]
  have hk := hk p
  rw [← ek] at hk
  have lk : kvs.length = kds.length := by have := congrArg List.length ek; simpa using this
  refine q _ _ _ hk (e.newN l hp' .dK (by simp [T.kids, lk]) fun j v t q1 q2 => ?_)
  obtain ⟨kd', e1, rfl⟩ := get_map q2
  obtain ⟨kv, e2, rfl⟩ := get_map q1
  exact ⟨_, rfl, hr2 j kv kd' e2 e1⟩⟩
end
theorem d_iEnumT {χ : XD} {ρ : Env} {wa : WA} {q : List T → (Env → Prop) → Env → Prop} (h : wa χ ρ fun ts ρ1 => ∃ t, ts = [t] ∧ ∃ u, Rs ρ1 t u ∧ ∃ xs ds, u.tupK = some xs ∧ allSh xs = some ds ∧ q (enumT ds) (fun ρ => Rs ρ t u) ρ1) : wiEnumT wa χ ρ q := h
theorem d_iEnum {χ : XD} {ρ : Env} {wa : WA} {q : List T → (Env → Prop) → Env → Prop} (h : wa χ ρ fun ts ρ1 => ∃ t, ts = [t] ∧ ∃ u, Rs ρ1 t u ∧ ∃ xs ds, u.lstK = some xs ∧ allSh xs = some ds ∧ q (enumT ds) (fun ρ => Rs ρ t u) ρ1) : wiEnum wa χ ρ q := h
end E
namespace E
open PySem PySem.Spec PyProof.Rows L2 G
def rIsiCl (K : PySem.W.Frag) : TC := rIsi K
/-- what isinstance asks of an own class -/
structure IsC (K : PySem.W.Frag) (C : Addr) : Prop where
  cl : Cls K C
  ha : PySem.W.findIn K (.ref C) "__class__" = some (some (.builtin "object.__class__"))
  hn : PySem.W.specialIn K (.builtin "object.__class__") "__get__" = some (some (.builtin "getset_descriptor.__get__"))
  htk : PySem.W.takesIn K (.builtin "object.__class__") = some true
  hm : PySem.W.mroIn K C (.type "object") = some true
  me : PySem.W.kitOne K (.ref C) (.ref C) = some true
  no : ∀ n ∈ ["NoneType", "bool", "int", "str", "list", "tuple", "dict"], PySem.W.kitOne K (.type n) (.ref C) = some false
theorem tyn_in {u : T} {n : String} (h : u.tyn = some n) : n ∈ ["NoneType", "bool", "int", "str", "list", "tuple", "dict"] := by
  unfold T.tyn at h
  split at h <;> first | (cases h; decide) | cases h
/-- a class whose instances are none of the class at C -/
structure NotC (K : PySem.W.Frag) (C' C : Addr) : Prop where
  me : IsC K C'
  no : PySem.W.kitOne K (.ref C') (.ref C) = some false
def fIsiC (K : PySem.W.Frag) : Fd := fun ρ as Q => ∃ t C u, as = [t, .sh (.at C 0 [])] ∧ Rs ρ t u ∧ IsC K C ∧ (((∃ fs, u.cls = some (C, fs)) ∧ Q (.sh (.bl true))) ∨ ((∃ n, u.tyn = some n) ∧ Q (.sh (.bl false))) ∨ ((∃ C' fs, u.cls = some (C', fs) ∧ NotC K C' C) ∧ Q (.sh (.bl false))))
section
variable {K : PySem.W.Frag} {W : Wx}
theorem cd_isiC : CbD (rIsiCl K) (fIsiC K) := ⟨fun Γ H σ tv ρ tt vs as Q k e l ⟨t, C, u, ea, hr, ic, h⟩ q => by
  subst ea
  obtain ⟨v, w, rfl⟩ := e.vs2 l
  obtain ⟨r1, r2⟩ := e.two l
  have r2 := r2.un
  cases r2
  rcases h with ⟨⟨fs, hc⟩, hk⟩ | ⟨⟨n, hn⟩, hk⟩ | ⟨⟨C', fs, hc, nc⟩, hk⟩
  · obtain ⟨a, dx, fvs, rfl, ea, _⟩ := (Rs.rep e r1 hr).cls hc
    exact ⟨.ref a, .ref C, .ref C, .ref C, true, rfl, .own C, .base (.ins ea ic.cl ic.ha ic.hn ic.htk ic.hm), ic.me, q _ _ H hk ((e.drop l).push (.bl _))⟩
  · exact ⟨v, .ref C, .type n, .ref C, false, rfl, .own C, (Rs.rep e r1 hr).tyn hn, ic.no n (tyn_in hn), q _ _ H hk ((e.drop l).push (.bl _))⟩
  · obtain ⟨a, dx, fvs, rfl, ea, _⟩ := (Rs.rep e r1 hr).cls hc
    exact ⟨.ref a, .ref C, .ref C', .ref C, false, rfl, .own C, .base (.ins ea nc.me.cl nc.me.ha nc.me.hn nc.me.htk nc.me.hm), nc.no, q _ _ H hk ((e.drop l).push (.bl _))⟩⟩
/-- x == y by the own __eq__ of the class of both -/
def wEqO (C : Addr) (S : SpecD) (wa wb : WE) : WE := fun χ ρ Q => wa χ ρ fun t1 ρ1 => wb χ ρ1 fun t2 ρ2 => (∃ u1, Rs ρ2 t1 u1 ∧ ∃ fs, u1.cls = some (C, fs)) ∧ (∃ u2, Rs ρ2 t2 u2 ∧ ∃ fs, u2.cls = some (C, fs)) ∧ callW S noX ρ2 [t1, t2] fun z ρ3 => ∃ b, z = .sh (.bl b) ∧ Q (.sh (.bl b)) ρ3
theorem rf_eqO {c : Bool} {C : Addr} {S : SpecD} {ta tb : TE} {wa wb : WE} (hc : c = true → W.c = true) (ha : Rf W ta wa) (hb : Rf W tb wb) : Rf W (tOp (rEqO C (spD c S) E0) ta tb) (wEqO C S wa wb) := fun σ H Q ⟨Γ, tv, ρ, tt, χ, Q1, e, h, x, k⟩ => by
  refine ha σ H _ ⟨Γ, tv, ρ, tt, χ, _, e, h, x, fun t1 ρ1 v1 H1 h1 e1 => ?_⟩
  refine hb σ H1 _ ⟨Γ, _, ρ1, _, χ, _, e1, h1, x.deep e.tl rfl, fun t2 ρ2 v2 H2 ⟨⟨u1, r1, fs1, c1⟩, ⟨u2, r2, fs2, c2⟩, hcall⟩ e2 => ?_⟩
  rw [List.append_assoc, List.append_assoc] at e2
  obtain ⟨a, dx, fvs, ev1, ea, _⟩ := (Rs.rep e2 (e2.entry e.tl (k := 0) rfl rfl) r1).cls c1
  obtain ⟨b, dy, gvs, ev2, eb, _⟩ := (Rs.rep e2 (e2.entry e.tl (k := 1) rfl rfl) r2).cls c2
  refine ⟨a, b, dx, dy, fvs, gvs, ev1, ev2, ea, eb, ?_⟩
  refine callW_run (vs := [v1, v2]) (ts := [t1, t2]) e2 e.tl (fun z => x.1 (hc z)) hcall (fun z ρ3 v H' ⟨b, ez, hq⟩ e3 => ?_) fun C d fl ds ρ' H' c e' => c.elim
  subst ez
  have r := e3.last
  cases r with
  | sh r =>
  cases r
  exact ⟨b, rfl, k _ _ _ _ hq e3⟩
end
end E
namespace E
open PySem PySem.Spec PyProof.Rows L2 G
mutual
/-- as plain data: lists, tuples, texts, numbers .. -/
def D.py : D → Option PyData
  | .non => some .none
  | .bl b => some (.bool b)
  | .int i => some (.int i)
  | .str z => some (.str z)
  | .lst xs => (D.pyL xs).map PyData.list
  | .tup xs => (D.pyL xs).map PyData.tuple
  | _ => none
def D.pyL : List D → Option (List PyData)
  | [] => some []
  | x :: xs => (x.py).bind fun p => (D.pyL xs).map (p :: ·)
end
theorem pyL_map {α : Type} {f : α → D} {g : α → PyData} (h : ∀ x, (f x).py = some (g x)) : ∀ l : List α, D.pyL (l.map f) = some (l.map g)
  | [] => rfl
  | x :: r => by
    show ((f x).py).bind (fun p => (D.pyL (r.map f)).map (p :: ·)) = _
    rw [h, pyL_map h r]
    rfl
section
variable {K : PySem.W.Frag} {H : Hp} {A : Addr → Prop}
theorem rpAll_of : ∀ {xs : List D} {vs : List V} {ps : List PyData}, vs.length = xs.length → (∀ (k : Nat) (v : V) (d : D), vs[k]? = some v → xs[k]? = some d → ∀ p, d.py = some p → Rp (fun _ => True) K H v p) → D.pyL xs = some ps → RpAll (fun _ => True) K H vs ps
  | [], vs, ps, hl, _, h => by
    cases h
    match vs, hl with
    | [], _ => exact .nil
  | x :: xs, vs, ps, hl, hk, h => by
    match vs, hl with
    | v :: vs, hl =>
      have h : (x.py).bind (fun p => (D.pyL xs).map (p :: ·)) = some ps := h
      cases e1 : x.py with
      | none => rw [e1] at h; cases h
      | some p =>
        cases e2 : D.pyL xs with
        | none => rw [e1, e2] at h; cases h
        | some qs =>
          rw [e1, e2] at h
          cases h
          exact .cons (hk 0 v x rfl rfl p e1) (rpAll_of (by simpa using hl) (fun k w d h1 h2 => hk (k + 1) w d (by simpa using h1) (by simpa using h2)) e2)
theorem RD.rp {v : V} {d : D} (r : RD H A v d) : ∀ p, d.py = some p → Rp (fun _ => True) K H v p := by
  induction r with
  | non => intro p h; cases h; exact .non
  | bl b => intro p h; cases h; exact .bl b
  | int i => intro p h; cases h; exact .int i
  | str z => intro p h; cases h; exact .str z
  | @lst a vs xs e _ l _ ih =>
    intro p h
    have h : (D.pyL xs).map PyData.list = some p := h
    cases e2 : D.pyL xs with
    | none => rw [e2] at h; cases h
    | some qs =>
      rw [e2] at h
      cases h
      exact .lst e trivial (rpAll_of l ih e2)
  | @tup a vs xs e _ l _ ih =>
    intro p h
    have h : (D.pyL xs).map PyData.tuple = some p := h
    cases e2 : D.pyL xs with
    | none => rw [e2] at h; cases h
    | some qs =>
      rw [e2] at h
      cases h
      exact .tup e trivial (rpAll_of l ih e2)
  | _ => intro p h; cases h
/-- a shared tree, or a list of one's own of shared ones -/
def T.py : T → Option PyData
  | .sh d => d.py
  | .lst _ xs => (allSh xs).bind fun ds => (D.pyL ds).map PyData.list
  | _ => none
theorem R.rp {v : V} {t : T} {p : PyData} (r : R H A (some v) t) (h : t.py = some p) : Rp (fun _ => True) K H v p := by
  cases r with
  | sh r => exact r.rp p h
  | @lst a vs xs e l kd =>
    have h : (allSh xs).bind (fun ds => (D.pyL ds).map PyData.list) = some p := h
    cases e1 : allSh xs with
    | none => rw [e1] at h; cases h
    | some ds =>
      have h : (D.pyL ds).map PyData.list = some p := by rw [e1] at h; exact h
      cases e2 : D.pyL ds with
      | none => rw [e2] at h; cases h
      | some qs =>
        rw [e2] at h
        cases h
        have ex := allSh_eq e1
        subst ex
        exact .lst e trivial (rpAll_of (by rw [l, List.length_map]) (fun k w d h1 h2 => (kd k w (.sh d) h1 (map_get h2)).un.rp) e2)
  | _ => cases h
def fEqD (neg : Bool) : Fd := fun ρ as Q => ∃ t1 t2 u1 u2 p1 p2, as = [t1, t2] ∧ Rs ρ t1 u1 ∧ Rs ρ t2 u2 ∧ u1.py = some p1 ∧ u2.py = some p2 ∧ SeqAt.shaped p1 = true ∧ SeqAt.shaped p2 = true ∧ Q (.sh (.bl (if neg then !PyData.eqv p1 p2 else PyData.eqv p1 p2)))
theorem cd_eqD : CbD (r2 (rEqD K)) (fEqD false) := ⟨fun Γ H σ tv ρ tt vs as Q k e l ⟨t1, t2, u1, u2, p1, p2, ea, h1, h2, e1, e2, s1, s2, hk⟩ q x y ev => by
  subst ea ev
  obtain ⟨r1, r2⟩ := e.two l
  exact ⟨p1, p2, ((Rs.rep e r1 h1).rp e1).dp, ((Rs.rep e r2 h2).rp e2).dp, s1, s2, q _ _ H hk ((e.drop l).push (.bl _))⟩⟩
theorem cd_neD : CbD (r2 (rNeD K)) (fEqD true) := ⟨fun Γ H σ tv ρ tt vs as Q k e l ⟨t1, t2, u1, u2, p1, p2, ea, h1, h2, e1, e2, s1, s2, hk⟩ q x y ev => by
  subst ea ev
  obtain ⟨r1, r2⟩ := e.two l
  exact ⟨p1, p2, ((Rs.rep e r1 h1).rp e1).dp, ((Rs.rep e r2 h2).rp e2).dp, s1, s2, q _ _ H hk ((e.drop l).push (.bl _))⟩⟩
end
theorem d_eqO {χ : XD} {ρ : Env} {Q : T → Env → Prop} {C : Addr} {S : SpecD} {wa wb : WE} (h : wa χ ρ fun t1 ρ1 => wb χ ρ1 fun t2 ρ2 => (∃ u1, Rs ρ2 t1 u1 ∧ ∃ fs, u1.cls = some (C, fs)) ∧ (∃ u2, Rs ρ2 t2 u2 ∧ ∃ fs, u2.cls = some (C, fs)) ∧ callW S noX ρ2 [t1, t2] fun z ρ3 => ∃ b, z = .sh (.bl b) ∧ Q (.sh (.bl b)) ρ3) : wEqO C S wa wb χ ρ Q := h
end E
namespace E
open PySem PySem.Spec PyProof.Rows L2 G
def wIdx (wa : WE) (wr : WA) : WE := fun χ ρ Q => wa χ ρ fun t0 ρ1 => isLst ρ1 t0 ∧ wr χ ρ1 fun ts ρ2 => ∃ d y u xs ws j z, ts = [.sh d] ∧ d.sv = some y ∧ Rs ρ2 t0 u ∧ u.lstK = some xs ∧ svs xs = some ws ∧ ws[j]? = some z ∧ eqV z y = true ∧ (∀ (m : Nat) (z' : V), m < j → ws[m]? = some z' → eqV z' y = false) ∧ Q (.sh (.int (j : Nat))) ρ2
section
variable {W : Wx} {K : PySem.W.Frag}
theorem rf_idx {ta : TE} {tr : TA} {wa : WE} {wr : WA} (ha : Rf W ta wa) (hr : RfA W tr wr) : Rf W (tBM K "list" (rIndex K) ta tr) (wIdx wa wr) := fun σ H Q ⟨Γ, tv, ρ, tt, χ, Q1, e, h, x, k⟩ => by
  refine ha σ H _ ⟨Γ, tv, ρ, tt, χ, _, e, h, x, fun t0 ρ1 v0 H1 ⟨h0, h1⟩ e1 => ⟨h0.run e1, ?_⟩⟩
  refine hr σ H1 _ ⟨Γ, _, ρ1, _, χ, _, e1, h1, x.deep e.tl rfl, fun ts ρ2 vs H2 ⟨d, y, u, xs, ws, j, z, et, hy, hrs, hu, hw, hj, hz, hm, h2⟩ e2 => ?_⟩
  subst et
  obtain ⟨v, rfl⟩ := En.vs1 e2 (by simp [e.tl])
  rw [List.append_assoc, List.append_assoc] at e2
  have r0 := Rs.rep e2 (e2.entry e.tl (k := 0) rfl rfl) hrs
  have r1 := e2.entry e.tl (k := 1) rfl rfl
  cases r1 with
  | sh r1 =>
  have e3 := r1.sv hy
  subst e3
  obtain ⟨a, vs, rfl, q1, q2, kd⟩ := r0.lstK hu
  obtain ⟨q3, q4⟩ := svs_eq hw q2 kd
  subst q3
  refine ⟨a, vs, v, j, z, rfl, rfl, lq q1, ?_, q4, hj, hz, hm, k _ _ _ _ h2 ((e2.drop e.tl).push (.int _))⟩
  cases d <;> first | (cases hy; rfl) | cases hy
theorem d_idx {χ : XD} {ρ : Env} {Q : T → Env → Prop} {wa : WE} {wr : WA} (h : wa χ ρ fun t0 ρ1 => isLst ρ1 t0 ∧ wr χ ρ1 fun ts ρ2 => ∃ d y u xs ws j z, ts = [.sh d] ∧ d.sv = some y ∧ Rs ρ2 t0 u ∧ u.lstK = some xs ∧ svs xs = some ws ∧ ws[j]? = some z ∧ eqV z y = true ∧ (∀ (m : Nat) (z' : V), m < j → ws[m]? = some z' → eqV z' y = false) ∧ Q (.sh (.int (j : Nat))) ρ2) : wIdx wa wr χ ρ Q := h
end
end E
namespace E
open PySem PySem.Spec PyProof.Rows L2 G
/-- len(x) by the own __len__ of x's class -/
def wLenO (C : Addr) (S : SpecD) (wa : WA) : WE := fun χ ρ Q => wa χ ρ fun ts ρ1 => ∃ t, ts = [t] ∧ (∃ u, Rs ρ1 t u ∧ ∃ fs, u.cls = some (C, fs)) ∧ callW S noX ρ1 [t] fun z ρ2 => ∃ n : Nat, n < 10000 ∧ z = .sh (.int (n : Nat)) ∧ Q (.sh (.int (n : Nat))) ρ2
section
variable {W : Wx}
theorem rf_lenO {c : Bool} {C : Addr} {S : SpecD} {ta : TA} {wa : WA} (hc : c = true → W.c = true) (ha : RfA W ta wa) : Rf W (tCB (rLenO C (spD c S) E0) ta) (wLenO C S wa) := fun σ H Q ⟨Γ, tv, ρ, tt, χ, Q1, e, h, x, k⟩ => by
  refine ha σ H _ ⟨Γ, tv, ρ, tt, χ, _, e, h, x, fun ts ρ1 vs H1 ⟨t, et, ⟨u, r, fs, cu⟩, hcall⟩ e1 => ?_⟩
  subst et
  obtain ⟨v, rfl⟩ := En.vs1 e1 e.tl
  obtain ⟨a, dx, fvs, rfl, ea, _⟩ := (Rs.rep e1 (e1.entry e.tl (k := 0) rfl rfl) r).cls cu
  refine ⟨a, dx, fvs, rfl, ea, ?_⟩
  refine callW_run (vs := [.ref a]) (ts := [t]) e1 e.tl (fun z => x.1 (hc z)) hcall (fun z ρ3 v H' ⟨n, hn, ez, hq⟩ e3 => ?_) fun C d fl ds ρ' H' c e' => c.elim
  subst ez
  have r := e3.last
  cases r with
  | sh r =>
  cases r
  exact ⟨n, rfl, by omega, by omega, k _ _ _ _ hq e3⟩
theorem d_lenO {χ : XD} {ρ : Env} {Q : T → Env → Prop} {C : Addr} {S : SpecD} {wa : WA} (h : wa χ ρ fun ts ρ1 => ∃ t, ts = [t] ∧ (∃ u, Rs ρ1 t u ∧ ∃ fs, u.cls = some (C, fs)) ∧ callW S noX ρ1 [t] fun z ρ2 => ∃ n : Nat, n < 10000 ∧ z = .sh (.int (n : Nat)) ∧ Q (.sh (.int (n : Nat))) ρ2) : wLenO C S wa χ ρ Q := h
end
end E
namespace E
open PySem PySem.Spec PyProof.Rows L2 G
/-- x == y, two dicts with the same keys in the same order and the same plain values -/
def wEqDA (wa wb : WE) : WE := fun χ ρ Q => wa χ ρ fun t1 ρ1 => wb χ ρ1 fun t2 ρ2 => ∃ u1 u2 ks xs ws, Rs ρ2 t1 u1 ∧ Rs ρ2 t2 u2 ∧ u1.dictK = some (ks, xs) ∧ u2.dictK = some (ks, xs) ∧ ks.Nodup ∧ svs xs = some ws ∧ Q (.sh (.bl true)) ρ2
theorem pairs_eq {κ α : Type} : ∀ {l1 l2 : List (κ × α)}, l1.map Prod.fst = l2.map Prod.fst → l1.map Prod.snd = l2.map Prod.snd → l1 = l2
  | [], [], _, _ => rfl
  | [], _ :: _, h, _ => by simp at h
  | _ :: _, [], h, _ => by simp at h
  | (a, b) :: r, (c, d) :: s, h1, h2 => by
    simp only [List.map_cons, List.cons.injEq] at h1 h2
    obtain ⟨rfl, h1⟩ := h1
    obtain ⟨rfl, h2⟩ := h2
    rw [pairs_eq h1 h2]
theorem valV_self {κ : Type} [DecidableEq κ] {kvs : List (κ × V)} (nd : (kvs.map Prod.fst).Nodup) {p : κ × V} (h : p ∈ kvs) : valV kvs p.1 = some p.2 := by
  unfold valV
  induction kvs with
  | nil => cases h
  | cons q r ih =>
    rw [List.map_cons, List.nodup_cons] at nd
    rw [List.find?_cons]
    rcases List.mem_cons.mp h with rfl | h
    · simp
    · have : q.1 ≠ p.1 := fun e => nd.1 (e ▸ List.mem_map.mpr ⟨p, h, rfl⟩)
      rw [decide_eq_false this]
      exact ih nd.2 h
section
variable {W : Wx}
theorem rf_eqDA {ta tb : TE} {wa wb : WE} (hc : W.c = true) (ha : Rf W ta wa) (hb : Rf W tb wb) : Rf W (tOp rEqDA ta tb) (wEqDA wa wb) := fun σ H Q ⟨Γ, tv, ρ, tt, χ, Q1, e, h, x, k⟩ => by
  refine ha σ H _ ⟨Γ, tv, ρ, tt, χ, _, e, h, x, fun t1 ρ1 v1 H1 h1 e1 => ?_⟩
  refine hb σ H1 _ ⟨Γ, _, ρ1, _, χ, _, e1, h1, x.deep e.tl rfl, fun t2 ρ2 v2 H2 ⟨u1, u2, ks, xs, ws, r1, r2, d1, d2, nd, hw, hq⟩ e2 => ?_⟩
  rw [List.append_assoc, List.append_assoc] at e2
  have cal : Calm H2 := e2.ok.calm (x.1 hc)
  have un : ∀ {a : Addr} {kvs : List (Key × V)}, Rd H2 a (.dK kvs) → H2 a = some (.dK kvs) := fun h => h.elim id fun ⟨o, z⟩ => (cal _ _ _ z).elim
  obtain ⟨a, kvs, ev1, ea, k1, l1, kd1⟩ := (Rs.rep e2 (e2.entry e.tl (k := 0) rfl rfl) r1).dictK d1
  obtain ⟨b, lvs, ev2, eb, k2, l2, kd2⟩ := (Rs.rep e2 (e2.entry e.tl (k := 1) rfl rfl) r2).dictK d2
  obtain ⟨s1, fl⟩ := svs_eq (vs := kvs.map Prod.snd) hw (by rw [List.length_map, l1]) fun j v t q1 q2 => by
    obtain ⟨q, hq, rfl⟩ := get_map q1
    exact kd1 j q t hq q2
  obtain ⟨s2, _⟩ := svs_eq (vs := lvs.map Prod.snd) hw (by rw [List.length_map, l2]) fun j v t q1 q2 => by
    obtain ⟨q, hq, rfl⟩ := get_map q1
    exact kd2 j q t hq q2
  have ekl : kvs = lvs := pairs_eq (k1.trans k2.symm) (s1.trans s2.symm)
  subst ekl
  refine ⟨a, b, kvs, kvs, ev1, ev2, un ea, un eb, rfl, fun p hp => ⟨valV_self (by rw [k1]; exact nd) hp, ?_⟩, k _ _ _ _ hq ((e2.drop e.tl).push (.bl _))⟩
  have := List.all_eq_true.mp fl p.2 (by rw [← s1]; exact List.mem_map.mpr ⟨p, hp, rfl⟩)
  cases e3 : p.2 <;> rw [e3] at this <;> first | rfl | cases this
theorem d_eqDA {χ : XD} {ρ : Env} {Q : T → Env → Prop} {wa wb : WE} (h : wa χ ρ fun t1 ρ1 => wb χ ρ1 fun t2 ρ2 => ∃ u1 u2 ks xs ws, Rs ρ2 t1 u1 ∧ Rs ρ2 t2 u2 ∧ u1.dictK = some (ks, xs) ∧ u2.dictK = some (ks, xs) ∧ ks.Nodup ∧ svs xs = some ws ∧ Q (.sh (.bl true)) ρ2) : wEqDA wa wb χ ρ Q := h
end
end E
namespace G
open PySem PySem.Spec PyProof.Rows L2
section
open PySem.SeqAt
open AutoSeq1 (wpAny_loadPart')
variable {X : Cx} {n : Nat}
def rEqLH : R2 := fun x y H Q => DList SD x y H ∧ Q (.bl true) H
end
end G
namespace E
open PySem PySem.Spec PyProof.Rows L2 G
theorem sd_of {H : Hp} {A : Addr → Prop} {v1 v2 : V} {u1 u2 : T} {ks : List Key} {xs : List T} {ws : List V} (cal : Calm H) (r1 : R H A (some v1) u1) (r2 : R H A (some v2) u2) (d1 : u1.dictK = some (ks, xs)) (d2 : u2.dictK = some (ks, xs)) (nd : ks.Nodup) (hw : svs xs = some ws) : SD v1 v2 H := by
  have un : ∀ {a : Addr} {kvs : List (Key × V)}, Rd H a (.dK kvs) → H a = some (.dK kvs) := fun h => h.elim id fun ⟨o, z⟩ => (cal _ _ _ z).elim
  obtain ⟨a, kvs, ev1, ea, k1, l1, kd1⟩ := r1.dictK d1
  obtain ⟨b, lvs, ev2, eb, k2, l2, kd2⟩ := r2.dictK d2
  obtain ⟨s1, fl⟩ := svs_eq (vs := kvs.map Prod.snd) hw (by rw [List.length_map, l1]) fun j v t q1 q2 => by
    obtain ⟨q, hq, rfl⟩ := get_map q1
    exact kd1 j q t hq q2
  obtain ⟨s2, _⟩ := svs_eq (vs := lvs.map Prod.snd) hw (by rw [List.length_map, l2]) fun j v t q1 q2 => by
    obtain ⟨q, hq, rfl⟩ := get_map q1
    exact kd2 j q t hq q2
  have ekl : kvs = lvs := pairs_eq (k1.trans k2.symm) (s1.trans s2.symm)
  subst ekl
  refine ⟨a, b, kvs, kvs, ev1, ev2, un ea, un eb, rfl, fun p hp => ⟨valV_self (by rw [k1]; exact nd) hp, ?_⟩⟩
  have := List.all_eq_true.mp fl p.2 (by rw [← s1]; exact List.mem_map.mpr ⟨p, hp, rfl⟩)
  cases e3 : p.2 <;> rw [e3] at this <;> first | rfl | cases this
/-- x == y, two lists of the same dicts -/
def wEqLH (wa wb : WE) : WE := fun χ ρ Q => wa χ ρ fun t1 ρ1 => wb χ ρ1 fun t2 ρ2 => ∃ u1 u2, ∃ ds : List D, Rs ρ2 t1 u1 ∧ Rs ρ2 t2 u2 ∧ u1.lstK = some (ds.map T.sh) ∧ u2.lstK = some (ds.map T.sh) ∧ (∀ d ∈ ds, ∃ (ks : List Key) (xs : List D) (ws : List V), d = .dK ks xs ∧ ks.Nodup ∧ svs (xs.map T.sh) = some ws) ∧ Q (.sh (.bl true)) ρ2
section
variable {W : Wx}
theorem rf_eqLH {ta tb : TE} {wa wb : WE} (hc : W.c = true) (ha : Rf W ta wa) (hb : Rf W tb wb) : Rf W (tOp rEqLH ta tb) (wEqLH wa wb) := fun σ H Q ⟨Γ, tv, ρ, tt, χ, Q1, e, h, x, k⟩ => by
  refine ha σ H _ ⟨Γ, tv, ρ, tt, χ, _, e, h, x, fun t1 ρ1 v1 H1 h1 e1 => ?_⟩
  refine hb σ H1 _ ⟨Γ, _, ρ1, _, χ, _, e1, h1, x.deep e.tl rfl, fun t2 ρ2 v2 H2 ⟨u1, u2, ds, r1, r2, d1, d2, hd, hq⟩ e2 => ?_⟩
  rw [List.append_assoc, List.append_assoc] at e2
  have cal : Calm H2 := e2.ok.calm (x.1 hc)
  obtain ⟨a, vs, ev1, ea, l1, kd1⟩ := (Rs.rep e2 (e2.entry e.tl (k := 0) rfl rfl) r1).lstK d1
  obtain ⟨b, ws, ev2, eb, l2, kd2⟩ := (Rs.rep e2 (e2.entry e.tl (k := 1) rfl rfl) r2).lstK d2
  refine ⟨⟨a, b, vs, ws, ev1, ev2, ea, eb, by rw [l1, l2], fun i p q h1 h2 => ?_⟩, k _ _ _ _ hq ((e2.drop e.tl).push (.bl _))⟩
  have il : i < ds.length := by have := (List.getElem?_eq_some_iff.mp h1).1; rw [l1, List.length_map] at this; exact this
  have hdi : ds[i]? = some ds[i] := List.getElem?_eq_getElem il
  obtain ⟨ks, xs, ws', ed, nd, hw⟩ := hd _ (List.getElem_mem il)
  rw [ed] at hdi
  exact sd_of cal (kd1 i p _ h1 (map_get hdi)) (kd2 i q _ h2 (map_get hdi)) rfl rfl nd hw
theorem d_eqLH {χ : XD} {ρ : Env} {Q : T → Env → Prop} {wa wb : WE} (h : wa χ ρ fun t1 ρ1 => wb χ ρ1 fun t2 ρ2 => ∃ u1 u2, ∃ ds : List D, Rs ρ2 t1 u1 ∧ Rs ρ2 t2 u2 ∧ u1.lstK = some (ds.map T.sh) ∧ u2.lstK = some (ds.map T.sh) ∧ (∀ d ∈ ds, ∃ (ks : List Key) (xs : List D) (ws : List V), d = .dK ks xs ∧ ks.Nodup ∧ svs (xs.map T.sh) = some ws) ∧ Q (.sh (.bl true)) ρ2) : wEqLH wa wb χ ρ Q := h
end
end E
namespace E
open PySem PySem.Spec PyProof.Rows L2 G
def fIsntB : Fd := fun ρ as Q => ∃ x y : Bool, as = [.sh (.bl x), .sh (.bl y)] ∧ Q (.sh (.bl (x != y)))
theorem cd_isntB : CbD (r2 rIsntB) fIsntB := ⟨fun Γ H σ tv ρ tt vs as Q k e l ⟨x, y, ea, hk⟩ q v w ev => by
  subst ea ev
  obtain ⟨r1, r2⟩ := e.two l
  have r1 := r1.un
  have r2 := r2.un
  cases r1
  cases r2
  exact ⟨x, y, rfl, rfl, q _ _ H hk ((e.drop l).push (.bl _))⟩⟩
theorem d_isntB {ρ : Env} {x y : Bool} {q : T → Prop} (h : q (.sh (.bl (x != y)))) : fIsntB ρ [.sh (.bl x), .sh (.bl y)] q := ⟨x, y, rfl, h⟩
end E
namespace E
open PySem PySem.Spec PyProof.Rows L2 G
section
variable {χ : XD} {ρ ρ1 : Env} {Q : T → Env → Prop} {k : WK} {t u : T} {i : Nat}
theorem lendN {ρ' : Env} {ts ts' : List T} {ls : List (Option (Nat × List Nat × Addr))} {a : Addr} {p : List Nat} (h1 : gt ρ i p = some u) (h2 : u.addr = some a) (e : pt ρ i p (.sh (.at a i p)) = ρ1) (h : LendL ρ1 ts ρ' ts' ls) : LendL ρ (.sh (.at a i p) :: ts) ρ' (u :: ts') (some (i, p, a) :: ls) := .lend h1 h2 (e ▸ h)
theorem putN {ρ' : Env} {ts : List T} {ls : List (Option (Nat × List Nat × Addr))} {a : Addr} {i' : Nat} {p p' : List Nat} (h1 : gt ρ i p = some (.sh (.at a i' p'))) (e : pt ρ i p t = ρ1) (h : BackL ρ1 ls ts ρ') : BackL ρ (some (i, p, a) :: ls) (t :: ts) ρ' := .put h1 (e ▸ h)
theorem d_nameN {q : Env → Prop} (hi : i < ρ.length) (e : ρ.set i t = ρ1) (h : q ρ1) : gwName i t ρ q := ⟨hi, e ▸ h⟩
theorem d_mvN (h1 : ρ[i]? = some t) (h2 : t.live = true) (e : ρ.set i (t.left i) = ρ1) (h : Q t ρ1) : wMv i χ ρ Q := ⟨t, h1, h2, e ▸ h⟩
theorem d_p1N {P : Env → Prop} {d : D} (i : Nat) (h1 : ρ[i]? = some t) (h2 : t.pub = some d) (e : ρ.set i (.sh d) = ρ1) (h : ∃ ρ2, Pubs ρ1 ρ2 ∧ P ρ2) : ∃ ρ2, Pubs ρ ρ2 ∧ P ρ2 := d_p1 i h1 h2 (e ▸ h)
theorem d_appvN {a : Addr} {i : Nat} {p : List Nat} {xs : List T} {P : Env → Prop} (h1 : gt ρ i p = some (.lst a xs)) (h2 : xs.length < 10000) (e : pt ρ i p (.lst a (xs ++ [t])) = ρ1) (h : P ρ1) : ∃ a' i' p' xs t', T.sh (.at a i p) = .sh (.at a' i' p') ∧ [t] = [t'] ∧ gt ρ i' p' = some (.lst a' xs) ∧ xs.length < 10000 ∧ P (pt ρ i' p' (.lst a' (xs ++ [t']))) := ⟨a, i, p, xs, t, rfl, rfl, h1, h2, e ▸ h⟩
theorem d_gsubvN {a : Addr} {i : Nat} {p : List Nat} {xs : List T} {kk : Int} {n : Nat} {P : Env → Prop} (h1 : gt ρ i p = some (.lst a xs)) (h2 : ixN xs.length kk = some n) (e : pt ρ i p (.lst a (xs.set n t)) = ρ1) (h : P ρ1) : ∃ a' i' p' xs kk' n, T.sh (.at a i p) = .sh (.at a' i' p') ∧ T.sh (.int kk) = .sh (.int kk') ∧ gt ρ i' p' = some (.lst a' xs) ∧ ixN xs.length kk' = some n ∧ P (pt ρ i' p' (.lst a' (xs.set n t))) := ⟨a, i, p, xs, kk, n, rfl, rfl, h1, h2, e ▸ h⟩
theorem d_gconsN {w : List T → Env → (Env → Prop) → Prop} {r : List T} {K' : Env → Prop} (hi : i < ρ.length) (e : ρ.set i t = ρ1) (h : w r ρ1 K') : gwCons i w (t :: r) ρ K' := ⟨t, r, rfl, hi, e ▸ h⟩
end
end E
namespace G
open PySem PySem.Spec PyProof.Rows L2
def chrV (z : Str) (i : Nat) : Option V := z.cps[i]?.map fun c => .str ⟨#[c]⟩
def ItzS (K : PySem.W.Frag) (z : Str) (b : Addr) : It :=
  ⟨fun i H => ∃ (ys : List V) (x y : V), SqT K H b ys ∧ chrV z i = some x ∧ ys[i]? = some y,
    fun i H v H' => ∃ T x y, v = .ref T ∧ H T = none ∧ H' = upd H T (.tup [x, y]) ∧ chrV z i = some x ∧ ∀ ys, SqT K H b ys → ys[i]? = some y,
    fun i H => ∃ ys : List V, SqT K H b ys ∧ i ≤ z.cps.size ∧ i ≤ ys.length ∧ (z.cps.size = i ∨ ys.length = i)⟩
def iZipS (K : PySem.W.Frag) (ta : TA) : TI := fun σ H R => ta σ H fun vs H1 => ∃ z b ys, vs = [.str z, .ref b] ∧ SqT K H1 b ys ∧ R (ItzS K z b) H1
end G
namespace G
open PySem PySem.Spec PyProof.Rows L2
abbrev TM := V → TS
def mcNil : TM := fun _ D σ H => D.nx σ H
def mcLit (lit : Str) (tb : TS) (r : TM) : TM := fun v D σ H => ∃ z, v = .str z ∧ if z = lit then tb D σ H else r v D σ H
def mcAny (tb : TS) : TM := fun _ D σ H => tb D σ H
def tMat (te : TE) (tm : TM) : TS := fun D σ H => te σ H fun v H1 => tm v D σ H1
end G
namespace G
open PySem PySem.Spec PyProof.Rows L2
def tKGet (tab : List (Str × Str)) (ty : TE) : TE := fun σ H Q => ty σ H fun y H1 => ∃ p ∈ tab, y = .str p.1 ∧ Q (.str p.2) H1
end G
namespace E
open PySem PySem.Spec PyProof.Rows L2 G
section
variable {K : PySem.W.Frag} {W : Wx}
/-- the shared part of what stands on top: pushed item by item -/
theorem En.pushL {Γ : Cg} {H : Hp} {σ : L2.St} {ρ : Env} : ∀ {xs : List V} {ds : List D} {tv : List (Option V)} {tt : List T}, En Γ H σ tv ρ tt → xs.length = ds.length → (∀ (k : Nat) (v : V) (d : D), xs[k]? = some v → ds[k]? = some d → RD H (Av Γ (ownsL (ρ ++ tt))) v d) → En Γ H σ (tv ++ xs.map some) ρ (tt ++ ds.map T.sh)
  | [], [], tv, tt, e, _, _ => by simpa using e
  | [], _ :: _, _, _, _, l, _ => by simp at l
  | _ :: _, [], _, _, _, l, _ => by simp at l
  | x :: xs, d :: ds, tv, tt, e, l, h => by
    have e1 := e.push (h 0 x d rfl rfl)
    have ow : ownsL (ρ ++ (tt ++ [T.sh d])) = ownsL (ρ ++ tt) := by simp only [ownsL_append, ownsL_one, T.owns, List.append_nil]
    have e2 := En.pushL (xs := xs) (ds := ds) e1 (by simpa using l) fun k v d' h1 h2 => by
      rw [ow]
      exact h (k + 1) v d' (by simpa using h1) (by simpa using h2)
    simpa only [List.append_assoc, List.map_cons, List.singleton_append, List.cons_append, List.nil_append] using e2
theorem rd_drop {Γ : Cg} {H : Hp} {ρ : Env} {tt us : List T} {v : V} {d : D} (h : RD H (Av Γ (ownsL (ρ ++ (tt ++ us)))) v d) : RD H (Av Γ (ownsL (ρ ++ tt))) v d := h.mono fun b o av hb => ⟨.of hb hb, av.1, fun m => av.2 (by
  rw [ownsL_append] at m ⊢
  rw [ownsL_append]
  rcases List.mem_append.mp m with m | m
  · exact List.mem_append_left _ m
  · exact List.mem_append_right _ (List.mem_append_left _ m))⟩
theorem rd_tup {H : Hp} {A : Addr → Prop} {v : V} {ds : List D} (r : R H A (some v) (.sh (.tup ds))) : ∃ a vs, v = .ref a ∧ H a = some (.tup vs) ∧ A a ∧ vs.length = ds.length ∧ ∀ (k : Nat) (w : V) (d : D), vs[k]? = some w → ds[k]? = some d → RD H A w d := by
  cases r with
  | sh r =>
  cases r with
  | tup h1 h2 h3 h4 => exact ⟨_, _, rfl, h1, h2, h3, h4⟩
def fCatT : Fd := fun ρ as Q => ∃ ds es, as = [.sh (.tup ds), .sh (.tup es)] ∧ ds.length + es.length ≤ 10000 ∧ Q (.sh (.tup (ds ++ es)))
theorem cd_catT : CbD (r2 (rCatA K)) fCatT := ⟨fun Γ H σ tv ρ tt vs as Q k e l ⟨ds, es, ea, hl, hk⟩ q x y ev => by
  subst ea ev
  obtain ⟨r1, r2⟩ := e.two l
  obtain ⟨a, xs, rfl, ha, aa, lx, kx⟩ := rd_tup r1
  obtain ⟨b, ys, rfl, hb, ab, ly, ky⟩ := rd_tup r2
  have e0 := e.drop l
  have kx' : ∀ (k : Nat) (w : V) (d : D), xs[k]? = some w → ds[k]? = some d → RD H (Av Γ (ownsL (ρ ++ tt))) w d := fun k w d h1 h2 => rd_drop (kx k w d h1 h2)
  have ky' : ∀ (k : Nat) (w : V) (d : D), ys[k]? = some w → es[k]? = some d → RD H (Av Γ (ownsL (ρ ++ tt))) w d := fun k w d h1 h2 => rd_drop (ky k w d h1 h2)
  refine ⟨a, b, xs, ys, rfl, rfl, tq ha, tq hb, szl (by omega), fun z => ?_, fun _ z => ?_, fun _ _ p hp => ?_⟩
  · subst z
    have : ds = [] := List.eq_nil_of_length_eq_zero (by simpa using lx.symm)
    subst this
    exact q _ _ H hk (e0.push (by rw [List.nil_append]; exact rd_drop (.tup hb ab ly ky)))
  · subst z
    have : es = [] := List.eq_nil_of_length_eq_zero (by simpa using ly.symm)
    subst this
    exact q _ _ H hk (e0.push (by rw [List.append_nil]; exact rd_drop (.tup ha aa lx kx)))
  · refine q _ _ _ hk (e0.newT hp (by simp [lx, ly]) fun k w d h1 h2 => ?_)
    rcases ap_cases h1 with h3 | ⟨j, ej, h3⟩
    · have : k < ds.length := by rw [← lx]; exact (List.getElem?_eq_some_iff.mp h3).1
      rw [List.getElem?_append_left this] at h2
      exact kx' k w d h3 h2
    · rw [ej, List.getElem?_append_right (by omega), lx, Nat.add_sub_cancel_left] at h2
      exact ky' j w d h3 h2⟩
def fCatL : Fd := fun ρ as Q => ∃ (t1 t2 u1 u2 : T) (ds es : List D), as = [t1, t2] ∧ Rs ρ t1 u1 ∧ Rs ρ t2 u2 ∧ u1.lstK = some (ds.map T.sh) ∧ u2.lstK = some (es.map T.sh) ∧ ds.length + es.length ≤ 10000 ∧ ∀ a, Q (.lst a ((ds ++ es).map T.sh))
theorem cd_catL : CbD (r2 rCat) fCatL := ⟨fun Γ H σ tv ρ tt vs as Q k e l ⟨t1, t2, u1, u2, ds, es, ea, h1, h2, k1, k2, hl, hk⟩ q x y ev => by
  subst ea ev
  obtain ⟨r1, r2⟩ := e.two l
  obtain ⟨a, xs, rfl, ha, lx, kx⟩ := (Rs.rep e r1 h1).lstK k1
  obtain ⟨b, ys, rfl, hb, ly, ky⟩ := (Rs.rep e r2 h2).lstK k2
  rw [List.length_map] at lx ly
  refine ⟨a, b, xs, ys, rfl, rfl, ha, hb, szl (by omega), fun p hp => ?_⟩
  refine q _ _ _ (hk p) (e.newN l hp .lst (by simp [T.kids, lx, ly]) fun j v t z1 z2 => ?_)
  simp only [T.kids] at z2
  obtain ⟨d, z3, rfl⟩ := get_map z2
  refine ⟨d, rfl, ?_⟩
  rcases ap_cases z1 with z4 | ⟨m, em, z4⟩
  · have : j < ds.length := by rw [← lx]; exact (List.getElem?_eq_some_iff.mp z4).1
    rw [List.getElem?_append_left this] at z3
    exact (kx j v (.sh d) z4 (map_get z3)).un
  · rw [em, List.getElem?_append_right (by omega), lx, Nat.add_sub_cancel_left] at z3
    exact (ky m v (.sh d) z4 (map_get z3)).un⟩
theorem d_catL {ρ : Env} {t1 t2 u1 u2 : T} {ds es : List D} {q : T → Prop} (h1 : Rs ρ t1 u1) (h2 : Rs ρ t2 u2) (k1 : u1.lstK = some (ds.map T.sh)) (k2 : u2.lstK = some (es.map T.sh)) (hl : ds.length + es.length ≤ 10000) (h : ∀ a, q (.lst a ((ds ++ es).map T.sh))) : fCatL ρ [t1, t2] q := ⟨t1, t2, u1, u2, ds, es, rfl, h1, h2, k1, k2, hl, h⟩
def wSlT (wa : WE) (w1 w2 : WO) : WE := fun χ ρ Q => wa χ ρ fun t ρ1 => w1 χ ρ1 fun lo ρ2 => w2 χ ρ2 fun hi ρ3 => ∃ ds, t = .sh (.tup ds) ∧ Q (.sh (.tup (cutL ds lo hi))) ρ3
theorem rf_slT {ta : TE} {t1 t2 : TO} {wa : WE} {w1 w2 : WO} (ha : Rf W ta wa) (h1 : RfO W t1 w1) (h2 : RfO W t2 w2) : Rf W (tSl (rSlA K) ta t1 t2) (wSlT wa w1 w2) := fun σ H Q ⟨Γ, tv, ρ, tt, χ, Q1, e, h, x, k⟩ => by
  refine ha σ H _ ⟨Γ, tv, ρ, tt, χ, _, e, h, x, fun t ρ1 v H1 q1 e1 => ?_⟩
  refine h1 σ H1 _ ⟨Γ, _, ρ1, _, χ, _, e1, q1, x.deep e.tl rfl, fun lo ρ2 H2 q2 e2 => ?_⟩
  refine h2 σ H2 _ ⟨Γ, _, ρ2, _, χ, _, e2, q2, x.deep e.tl rfl, fun hi ρ3 H3 ⟨ds, et, q3⟩ e3 => ?_⟩
  subst et
  obtain ⟨a, ws, rfl, ea, aa, lw, kd⟩ := rd_tup e3.last
  have e4 := e3.drop e.tl
  refine ⟨a, ws, rfl, tq ea, fun z => ?_, fun z p hp => ?_⟩
  · have ec : cutL ds lo hi = ds := by
      unfold cutL
      rw [← lw, z.1, z.2, List.drop_zero, Nat.sub_zero, lw, List.take_length]
    refine k _ ρ3 _ _ q3 (e4.push ?_)
    rw [ec]
    exact rd_drop (.tup ea aa lw kd)
  · refine k _ ρ3 _ _ q3 (e4.newT hp ?_ fun j v d z1 z2 => ?_)
    · unfold cutV cutL
      rw [List.length_take, List.length_take, List.length_drop, List.length_drop, lw]
    · obtain ⟨m, m1, m2⟩ := cut_get (xs := ws) (ys := ds) lw z1 z2
      exact rd_drop (kd m v d m1 m2)
theorem d_slT {χ : XD} {ρ : Env} {Q : T → Env → Prop} {wa : WE} {w1 w2 : WO} (h : wa χ ρ fun t ρ1 => w1 χ ρ1 fun lo ρ2 => w2 χ ρ2 fun hi ρ3 => ∃ ds, t = .sh (.tup ds) ∧ Q (.sh (.tup (cutL ds lo hi))) ρ3) : wSlT wa w1 w2 χ ρ Q := h
theorem d_istup {ds : List D} {P : List D → Prop} (h : P ds) : ∃ es, T.sh (.tup ds) = .sh (.tup es) ∧ P es := ⟨ds, rfl, h⟩
def waStar (we : WE) (wr : WA) : WA := fun χ ρ Q => we χ ρ fun t ρ1 => ∃ u, Rs ρ1 t u ∧ ∃ ds : List D, u.seqK = some (ds.map T.sh) ∧ wr χ ρ1 fun ts ρ2 => Q (ds.map T.sh ++ ts) ρ2
theorem rfa_star {te : TE} {tr : TA} {we : WE} {wr : WA} (he : Rf W te we) (hr : RfA W tr wr) : RfA W (StX.tStar K te tr) (waStar we wr) := fun σ H Q ⟨Γ, tv, ρ, tt, χ, Q1, e, h, x, k⟩ => by
  refine he σ H _ ⟨Γ, tv, ρ, tt, χ, _, e, h, x, fun t1 ρ1 v1 H1 ⟨u, hu, ds, hs, h1⟩ e1 => ?_⟩
  obtain ⟨a, vs, rfl, hq, lv, kd⟩ := (Rs.rep e1 e1.last hu).seqK (K := K) hs
  rw [List.length_map] at lv
  have e2 := (e1.drop e.tl).pushL lv fun j v d q1 q2 => rd_drop (kd j v (.sh d) q1 (map_get q2)).un
  refine ⟨a, vs, rfl, hq.symm, hr σ H1 _ ⟨Γ, _, ρ1, _, χ, _, e2, h1, x.deep e.tl (by simp [lv]), fun ts ρ2 ws H2 h2 e3 => ?_⟩⟩
  exact k _ ρ2 _ H2 h2 (by simpa only [List.append_assoc, List.map_append] using e3)
theorem d_star {χ : XD} {ρ : Env} {q : List T → Env → Prop} {we : WE} {wr : WA} (h : we χ ρ fun t ρ1 => ∃ u, Rs ρ1 t u ∧ ∃ ds : List D, u.seqK = some (ds.map T.sh) ∧ wr χ ρ1 fun ts ρ2 => q (ds.map T.sh ++ ts) ρ2) : waStar we wr χ ρ q := h
abbrev WM := T → WS
def wmNil : WM := fun _ k ρ => k.nx ρ
def wmLit (lit : Str) (wb : WS) (r : WM) : WM := fun t k ρ => ∃ z, t = .sh (.str z) ∧ if z = lit then wb k ρ else r t k ρ
def wmAny (wb : WS) : WM := fun _ k ρ => wb k ρ
def wMat (we : WE) (wm : WM) : WS := fun k ρ => we k.xc ρ fun t ρ1 => wm t k ρ1
def RfM (bs : List Nat) (W : Wx) (tm : TM) (wm : WM) : Prop := ∀ D σ H v, (∃ (Γ : Cg) (tv : List (Option V)) (ρ : Env) (tt : List T) (k : WK) (t : T), En Γ H σ (tv ++ [some v]) ρ (tt ++ [t]) ∧ tv.length = tt.length ∧ wm t k ρ ∧ KOk bs Γ tv tt σ W D k) → tm v D σ H
variable {bs : List Nat}
theorem rfm_nil : RfM bs W mcNil wmNil := fun D σ H v ⟨Γ, tv, ρ, tt, k, t, e, l, h, o⟩ => o.nx ρ σ H h (.refl _ _) (e.drop l)
theorem rfm_any {tb : TS} {wb : WS} (hb : RfS bs W tb wb) : RfM bs W (mcAny tb) (wmAny wb) := fun D σ H v ⟨Γ, tv, ρ, tt, k, t, e, l, h, o⟩ => hb D σ H ⟨Γ, tv, ρ, tt, k, e.drop l, h, o⟩
theorem rfm_lit {lit : Str} {tb : TS} {wb : WS} {tm : TM} {wm : WM} (hb : RfS bs W tb wb) (hm : RfM bs W tm wm) : RfM bs W (mcLit lit tb tm) (wmLit lit wb wm) := fun D σ H v ⟨Γ, tv, ρ, tt, k, t, e, l, ⟨z, et, h⟩, o⟩ => by
  subst et
  have r := e.last.un
  cases r
  refine ⟨z, rfl, ?_⟩
  by_cases q : z = lit
  · rw [if_pos q] at h ⊢
    exact hb D σ H ⟨Γ, tv, ρ, tt, k, e.drop l, h, o⟩
  · rw [if_neg q] at h ⊢
    exact hm D σ H _ ⟨Γ, tv, ρ, tt, k, _, e, l, h, o⟩
theorem rfs_mat {te : TE} {we : WE} {tm : TM} {wm : WM} (he : Rf W te we) (hm : RfM bs W tm wm) : RfS bs W (tMat te tm) (wMat we wm) := fun D σ H ⟨Γ, tv, ρ, tt, k, e, h, o⟩ => by
  refine he σ H _ ⟨Γ, tv, ρ, tt, k.xc, _, e, h, o.x, fun t ρ1 v H1 h1 e1 => hm D σ H1 v ⟨Γ, tv, ρ1, tt, k, t, e1, e.tl, h1, o⟩⟩
theorem d_mat {k : WK} {ρ : Env} {we : WE} {wm : WM} (h : we k.xc ρ fun t ρ1 => wm t k ρ1) : wMat we wm k ρ := h
theorem d_many {k : WK} {ρ : Env} {t : T} {wb : WS} (h : wb k ρ) : wmAny wb t k ρ := h
theorem d_mnil {k : WK} {ρ : Env} {t : T} (h : k.nx ρ) : wmNil t k ρ := h
def wKGet (tab : List (Str × Str)) (wa : WE) : WE := fun χ ρ Q => wa χ ρ fun t ρ1 => ∃ p ∈ tab, t = .sh (.str p.1) ∧ Q (.sh (.str p.2)) ρ1
theorem rf_kget {tab : List (Str × Str)} {ta : TE} {wa : WE} (ha : Rf W ta wa) : Rf W (tKGet tab ta) (wKGet tab wa) := fun σ H Q ⟨Γ, tv, ρ, tt, χ, Q1, e, h, x, k⟩ => by
  refine ha σ H _ ⟨Γ, tv, ρ, tt, χ, _, e, h, x, fun t ρ1 v H1 ⟨p, hp, et, h1⟩ e1 => ?_⟩
  subst et
  have r := e1.last.un
  cases r
  exact ⟨p, hp, rfl, k _ ρ1 _ H1 h1 ((e1.drop e.tl).push (.str _))⟩
theorem d_kget {χ : XD} {ρ : Env} {Q : T → Env → Prop} {tab : List (Str × Str)} {wa : WE} (h : wa χ ρ fun t ρ1 => ∃ p ∈ tab, t = .sh (.str p.1) ∧ Q (.sh (.str p.2)) ρ1) : wKGet tab wa χ ρ Q := h
def fRepr : Fd := fun ρ as Q => ∃ t u p, as = [t] ∧ Rs ρ t u ∧ u.py = some p ∧ p.hasDict = false ∧ p.showable = true ∧ p.depth ≤ 64 ∧ p.shown.length ≤ sizeLine ∧ Q (.sh (.str p.shown))
theorem cd_repr : CbD (rRepr K) fRepr := ⟨fun Γ H σ tv ρ tt vs as Q k e l ⟨t, u, p, ea, hr, hp, nd, sh, dp, sz, hk⟩ q => by
  subst ea
  obtain ⟨v, rfl⟩ := e.vs1 l
  have r := Rs.rep e e.one hr
  exact ⟨v, p, rfl, (r.rp (K := K) hp).dp, nd, sh, dp, sz, q _ _ H hk ((e.drop l).push (.str _))⟩⟩
theorem d_reprG {ρ : Env} {t u : T} {p : PyData} {q : T → Prop} (h0 : Rs ρ t u) (h1 : u.py = some p) (nd : p.hasDict = false) (sh : p.showable = true) (dp : p.depth ≤ 64) (sz : p.shown.length ≤ sizeLine) (h : q (.sh (.str p.shown))) : fRepr ρ [t] q := ⟨t, u, p, rfl, h0, h1, nd, sh, dp, sz, h⟩
def zipST (z : Str) (ds : List D) : List T := (List.zip (z.cps.toList.map fun c => D.str ⟨#[c]⟩) ds).map fun p => .sh (.tup [p.1, p.2])
def wiZipS (wa : WA) : WI := fun χ ρ Q => wa χ ρ fun ts ρ1 => ∃ z ds, ts = [.sh (.str z), .sh (.tup ds)] ∧ z.cps.size = ds.length ∧ Q (zipST z ds) (fun _ => True) ρ1
theorem zipST_len {z : Str} {ds : List D} (h : z.cps.size = ds.length) : (zipST z ds).length = ds.length := by
  unfold zipST
  rw [List.length_map, List.length_zip, List.length_map, Array.length_toList, h, Nat.min_self]
theorem zipST_get {z : Str} {ds : List D} {i c : Nat} {d : D} (h1 : z.cps[i]? = some c) (h2 : ds[i]? = some d) : (zipST z ds)[i]? = some (.sh (.tup [.str ⟨#[c]⟩, d])) := by
  unfold zipST
  have h3 : (z.cps.toList.map fun c => D.str ⟨#[c]⟩)[i]? = some (.str ⟨#[c]⟩) := map_get (by simpa using h1)
  rw [List.getElem?_map, (List.getElem?_zip_eq_some (z := (D.str ⟨#[c]⟩, d))).mpr ⟨h3, h2⟩]
  rfl
theorem rfi_zipS {ta : TA} {wa : WA} (ha : RfA W ta wa) : RfI W (iZipS K ta) (wiZipS wa) := fun σ H Rr ⟨Γ, tv, ρ, tt, χ, Q1, e, h, x, k⟩ => by
  refine ha σ H _ ⟨Γ, tv, ρ, tt, χ, _, e, h, x, fun ts ρ1 vs H1 ⟨z, ds, et, hl, h1⟩ e1 => ?_⟩
  subst et
  obtain ⟨v, w, rfl⟩ := e1.vs2 e.tl
  obtain ⟨r1, r2⟩ := e1.two e.tl
  have r1 := r1.un
  cases r1
  obtain ⟨b, ys, rfl, hb, ab, ly, ky⟩ := rd_tup r2
  have ln := zipST_len hl
  refine ⟨z, b, ys, rfl, tq hb, k _ _ ρ1 H1 (ItzS K z b) [some (.str z), some (.ref b)] [.sh (.str z), .sh (.tup ds)] h1 e1 rfl ⟨fun i H2 σ2 ρ2 hi _ e2 => ?_, fun H2 σ2 ρ2 _ e2 => ?_, fun i H2 σ2 ρ2 y H3 zs ws hi _ e2 hy => ?_⟩⟩
  · obtain ⟨_, q2⟩ := En.two (v1 := .str z) (v2 := .ref b) e2 e.tl
    obtain ⟨b', ys', eb, hb', _, ly', _⟩ := rd_tup q2
    cases eb
    rw [ln] at hi
    refine ⟨ys', .str ⟨#[z.cps[i]'(by omega)]⟩, ys'[i]'(by omega), tq hb', ?_, List.getElem?_eq_getElem _⟩
    unfold chrV
    rw [Array.getElem?_eq_getElem (by omega)]
    rfl
  · obtain ⟨_, q2⟩ := En.two (v1 := .str z) (v2 := .ref b) e2 e.tl
    obtain ⟨b', ys', eb, hb', _, ly', _⟩ := rd_tup q2
    cases eb
    exact ⟨ys', tq hb', by omega, by omega, .inr (by omega)⟩
  · obtain ⟨b', ys', eb, hb', _, ly', ky'⟩ := rd_tup (e2.entry e.tl (k := 1) rfl rfl)
    cases eb
    obtain ⟨T, x, y', rfl, hT, rfl, hx, hy⟩ := hy
    have hy := hy ys' (tq hb')
    have il : i < ds.length := by rw [ln] at hi; exact hi
    unfold chrV at hx
    cases ec : z.cps[i]? with
    | none => rw [ec] at hx; cases hx
    | some c =>
    rw [ec] at hx
    cases hx
    exact ⟨_, zipST_get ec (List.getElem?_eq_getElem il), e2.pair (.str _) (ky' i y' _ hy (List.getElem?_eq_getElem il)) hT⟩
theorem d_iZipS {χ : XD} {ρ : Env} {wa : WA} {q : List T → (Env → Prop) → Env → Prop} (h : wa χ ρ fun ts ρ1 => ∃ z ds, ts = [.sh (.str z), .sh (.tup ds)] ∧ z.cps.size = ds.length ∧ q (zipST z ds) (fun _ => True) ρ1) : wiZipS wa χ ρ q := h
end
end E
namespace E
open PySem PySem.Spec PyProof.Rows L2 G
/-- a written tuple of texts under a name of the module -/
structure KTup (K : PySem.W.Frag) (a : Addr) (zs : List Str) : Prop where
  at_ : ∃ (o : Obj) (its : Array Value) (n : Nat), K.lookup a = some o ∧ o.cls = .type "tuple" ∧ o.data = .seq its n ∧ its.size ≤ sizeLine ∧ Vals (zs.map V.str) its.toList
def rInK (a : Addr) (zs : List Str) : R2 := fun x y H Q => y = .ref a ∧ flatV x = true ∧ Q (.bl (inV x (zs.map V.str))) H
section
variable {K : PySem.W.Frag} {W : Wx}
def fInK (a : Addr) (zs : List Str) : Fd := fun ρ as Q => ∃ d v, as = [.sh d, .sh (.at a 0 [])] ∧ d.sv = some v ∧ Q (.sh (.bl (inV v (zs.map V.str))))
theorem sv_flat {d : D} {v : V} (h : d.sv = some v) : flatV v = true := by cases d <;> first | (cases h; rfl) | cases h
theorem cd_inK {a : Addr} {zs : List Str} : CbD (r2 (rInK a zs)) (fInK a zs) := ⟨fun Γ H σ tv ρ tt vs as Q k e l ⟨d, v, ea, hd, hk⟩ q x y ev => by
  subst ea ev
  obtain ⟨r1, r2⟩ := e.two l
  have r2 := r2.un
  cases r2
  have ex := r1.un.sv hd
  subst ex
  exact ⟨rfl, sv_flat hd, q _ _ H hk ((e.drop l).push (.bl _))⟩⟩
/-- xs.extend(list) -/
def wExt (wa : WE) (wr : WA) : WE := fun χ ρ Q => wa χ ρ fun t0 ρ1 => isLst ρ1 t0 ∧ wr χ ρ1 fun ts ρ2 => ∃ (a : Addr) (i : Nat) (p : List Nat) (xs : List T) (t u : T) (es : List D), t0 = .sh (.at a i p) ∧ ts = [t] ∧ gt ρ2 i p = some (.lst a xs) ∧ Rs ρ2 t u ∧ u.lstK = some (es.map T.sh) ∧ xs.length + es.length ≤ 10000 ∧ Q (.sh .non) (pt ρ2 i p (.lst a (xs ++ es.map T.sh)))
theorem rf_ext {ta : TE} {tr : TA} {wa : WE} {wr : WA} (ha : Rf W ta wa) (hr : RfA W tr wr) : Rf W (tBM K "list" rExtend ta tr) (wExt wa wr) := fun σ H Q ⟨Γ, tv, ρ, tt, χ, Q1, e, h, x, k⟩ => by
  refine ha σ H _ ⟨Γ, tv, ρ, tt, χ, _, e, h, x, fun t0 ρ1 v0 H1 ⟨h0, h1⟩ e1 => ⟨h0.run e1, ?_⟩⟩
  refine hr σ H1 _ ⟨Γ, _, ρ1, _, χ, _, e1, h1, x.deep e.tl rfl, fun ts ρ2 vs H2 ⟨a, i, p, xs, t, u, es, e0, et, hg, hr2, hk, hl, h2⟩ e2 => ?_⟩
  subst e0 et
  obtain ⟨y, rfl⟩ := En.vs1 e2 (by simp [e.tl])
  rw [List.append_assoc, List.append_assoc] at e2
  have r0 := e2.entry e.tl (k := 0) rfl rfl
  cases r0 with
  | sh r0 =>
  cases r0
  obtain ⟨b, ys, rfl, hb, lb, kb⟩ := (Rs.rep e2 (e2.entry e.tl (k := 1) rfl rfl) hr2).lstK hk
  rw [List.length_map] at lb
  obtain ⟨o, ws, nd, ho, lv, kd, f⟩ := e2.updN e.tl hg rfl
  cases nd
  have lv : ws.length = xs.length := lv
  refine ⟨a, b, ws, ys, rfl, rfl, ho, hb, szl (by omega), k _ _ _ _ h2 (f _ _ _ [some .non] [.sh .non] .lst ?_ rfl (fun c => ?_) fun z t' hz => ?_)⟩
  · simp [T.kids, lv, lb]
  · have z : ownsL (es.map T.sh) = [] := ownsL_sh es
    simp only [T.kids, ownsL_append, ownsL_cons, ownsL_nil, cn_app, cn_noT, List.append_nil, T.owns, List.nil_append, z]
    show cn c (ownsL xs) + 0 ≤ cn c (ownsL xs) + cn c t.owns
    omega
  · rcases hz with ⟨j, v, rfl, h3, h4⟩ | ⟨j, h3, h4⟩
    · simp only [T.kids] at h4
      rcases ap_cases h3 with h5 | ⟨m, em, h5⟩
      · have hj := (List.getElem?_eq_some_iff.mp h5).1
        rw [List.getElem?_append_left (by omega)] at h4
        exact .inl ⟨j, v, rfl, h5, h4⟩
      · rw [em, lv, List.getElem?_append_right (by omega), Nat.add_sub_cancel_left] at h4
        obtain ⟨d, hd, rfl⟩ := get_map h4
        refine .inr (.inr ⟨v, d, rfl, rfl, ?_⟩)
        have := (kb m v (.sh d) h5 (map_get hd)).un
        rw [List.append_assoc]
        exact this
    · obtain ⟨rfl, rfl⟩ := one_cases h3 h4
      exact .inr (.inr ⟨_, _, rfl, rfl, .non⟩)
theorem d_ext {χ : XD} {ρ : Env} {Q : T → Env → Prop} {wa : WE} {wr : WA} (h : wa χ ρ fun t0 ρ1 => isLst ρ1 t0 ∧ wr χ ρ1 fun ts ρ2 => ∃ (a : Addr) (i : Nat) (p : List Nat) (xs : List T) (t u : T) (es : List D), t0 = .sh (.at a i p) ∧ ts = [t] ∧ gt ρ2 i p = some (.lst a xs) ∧ Rs ρ2 t u ∧ u.lstK = some (es.map T.sh) ∧ xs.length + es.length ≤ 10000 ∧ Q (.sh .non) (pt ρ2 i p (.lst a (xs ++ es.map T.sh)))) : wExt wa wr χ ρ Q := h
end
end E
namespace E
open PySem PySem.Spec PyProof.Rows L2 G
theorem d_ixT0 {ρ : Env} {d : D} {ds : List D} {q : T → Prop} (h : q (.sh d)) : fIxT ρ [.sh (.tup (d :: ds)), .sh (.int 0)] q := by
  refine ⟨_, 0, rfl, _, rfl, _, 0, _, _, rfl, ?_, rfl, rfl, h⟩
  unfold ixN
  simp
def fNeg : Fd := fun ρ as Q => ∃ i : Int, as = [.sh (.int i)] ∧ Q (.sh (.int (-i)))
theorem cd_neg : CbD (r1 (rU fun i => V.int (-i))) fNeg := ⟨fun Γ H σ tv ρ tt vs as Q k e l ⟨i, ea, hk⟩ q x ev => by
  subst ea ev
  have r := e.one.un
  cases r
  exact ⟨i, rfl, q _ _ H hk ((e.drop l).push (.int _))⟩⟩
theorem d_neg {ρ : Env} {i : Int} {q : T → Prop} (h : q (.sh (.int (-i)))) : fNeg ρ [.sh (.int i)] q := ⟨i, rfl, h⟩
theorem d_le10 {ts : List T} {P : Prop} (h1 : ts.length ≤ 10000) (h : P) : ts.length ≤ 10000 ∧ P := ⟨h1, h⟩
theorem d_oSome {χ : XD} {ρ : Env} {Q : Option Int → Env → Prop} {w : WE} (h : w χ ρ fun t ρ1 => ∃ i, t = .sh (.int i) ∧ Q (some i) ρ1) : woSome w χ ρ Q := h
theorem d_oNone {χ : XD} {ρ : Env} {Q : Option Int → Env → Prop} (h : Q none ρ) : woNone χ ρ Q := h
theorem d_isI {k : Int} {P : Int → Prop} (h : P k) : ∃ i, T.sh (.int k) = .sh (.int i) ∧ P i := ⟨k, rfl, h⟩
def wNev : WS := fun _ _ => False
theorem rfs_never {bs : List Nat} {W : Wx} : RfS bs W tNever wNev := fun D σ H ⟨Γ, tv, ρ, tt, k, e, h, o⟩ => h
end E
namespace E
open PySem PySem.Spec PyProof.Rows L2 G
/-- e, which is the object at a -/
def tOnly (a : Addr) (te : TE) : TE := fun σ H Q => te σ H fun v H1 => v = .ref a ∧ Q v H1
section
variable {K : PySem.W.Frag} {W : Wx} {a : Addr}
theorem KTup.sq (hk : KTup K a []) (H : Hp) : SqT K H a [] := .inr hk.at_
def wOnly (a : Addr) (we : WE) : WE := fun χ ρ Q => we χ ρ fun t ρ1 => t = .sh (.at a 0 []) ∧ Q t ρ1
theorem rf_only {te : TE} {we : WE} (ha : Rf W te we) : Rf W (tOnly a te) (wOnly a we) := fun σ H Q ⟨Γ, tv, ρ, tt, χ, Q1, e, h, x, k⟩ => by
  refine ha σ H _ ⟨Γ, tv, ρ, tt, χ, _, e, h, x, fun t ρ1 v H1 ⟨et, h1⟩ e1 => ?_⟩
  have r := e1.last
  rw [et] at r
  have r := r.un
  cases r
  exact ⟨rfl, k t ρ1 _ H1 h1 e1⟩
theorem d_only {χ : XD} {ρ : Env} {Q : T → Env → Prop} {we : WE} (h : we χ ρ fun t ρ1 => t = .sh (.at a 0 []) ∧ Q t ρ1) : wOnly a we χ ρ Q := h
theorem d_isat {P : Prop} (h : P) : T.sh (.at a 0 []) = .sh (.at a 0 []) ∧ P := ⟨rfl, h⟩
/-- len(e) -/
def wLenK (a : Addr) (we : WE) : WE := fun χ ρ Q => we χ ρ fun t ρ1 => t = .sh (.at a 0 []) ∧ Q (.sh (.int 0)) ρ1
theorem rf_lenK {te : TE} {we : WE} (hk : KTup K a []) (ha : Rf W te we) : Rf W (tCB (rLenQ K) (tCons (tOnly a te) tNil)) (wLenK a we) := fun σ H Q ⟨Γ, tv, ρ, tt, χ, Q1, e, h, x, k⟩ => by
  refine ha σ H _ ⟨Γ, tv, ρ, tt, χ, _, e, h, x, fun t ρ1 v H1 ⟨et, h1⟩ e1 => ?_⟩
  subst et
  have r := e1.last.un
  cases r
  exact ⟨rfl, a, [], rfl, .inr (hk.sq _), k _ ρ1 _ H1 h1 ((e1.drop e.tl).push (.int _))⟩
theorem d_lenK {χ : XD} {ρ : Env} {Q : T → Env → Prop} {we : WE} (h : we χ ρ fun t ρ1 => t = .sh (.at a 0 []) ∧ Q (.sh (.int 0)) ρ1) : wLenK a we χ ρ Q := h
/-- tuple(e) -/
theorem rf_tupK {te : TE} {we : WE} (hk : KTup K a []) (ha : Rf W te we) : Rf W (tCB (rTupQ K) (tCons (tOnly a te) tNil)) (wOnly a we) := fun σ H Q ⟨Γ, tv, ρ, tt, χ, Q1, e, h, x, k⟩ => by
  refine ha σ H _ ⟨Γ, tv, ρ, tt, χ, _, e, h, x, fun t ρ1 v H1 ⟨et, h1⟩ e1 => ?_⟩
  subst et
  have r := e1.last.un
  cases r
  exact ⟨rfl, a, [], rfl, .inr ⟨hk.sq _, k _ ρ1 _ H1 h1 e1⟩⟩
/-- isinstance(e, (list, tuple)) -/
def wIsiTK (a : Addr) (we : WE) (wr : WA) : WE := fun χ ρ Q => we χ ρ fun t ρ1 => t = .sh (.at a 0 []) ∧ wr χ ρ1 fun ts ρ2 => ts = [.sh (.tup [.ty "list", .ty "tuple"])] ∧ Q (.sh (.bl true)) ρ2
theorem rf_isiTK {te : TE} {we : WE} {tr : TA} {wr : WA} (hk : KTup K a []) (ha : Rf W te we) (hr : RfA W tr wr) : Rf W (tCB (rIsiT K) (tCons (tOnly a te) tr)) (wIsiTK a we wr) := fun σ H Q ⟨Γ, tv, ρ, tt, χ, Q1, e, h, x, k⟩ => by
  refine ha σ H _ ⟨Γ, tv, ρ, tt, χ, _, e, h, x, fun t ρ1 v H1 ⟨et, h1⟩ e1 => ?_⟩
  subst et
  have r := e1.last.un
  cases r
  refine ⟨rfl, hr σ H1 _ ⟨Γ, _, ρ1, _, χ, _, e1, h1, x.deep e.tl rfl, fun ts ρ2 vs H2 ⟨ets, h2⟩ e2 => ?_⟩⟩
  subst ets
  obtain ⟨w, rfl⟩ := En.vs1 e2 (by simp [e.tl])
  rw [List.append_assoc, List.append_assoc] at e2
  obtain ⟨p, ws, rfl, hp, _, lw, kw⟩ := rd_tup (e2.entry e.tl (k := 1) rfl rfl)
  match ws, lw with
  | [x1, x2], _ =>
    have r1 := kw 0 x1 _ rfl rfl
    have r2 := kw 1 x2 _ rfl rfl
    cases r1
    cases r2
    obtain ⟨o, its, n, hl, hc, _⟩ := hk.at_
    exact g_isi2 (b1 := false) (b2 := true) hp (.kTuple hl hc) (by rfl) (by rfl) (k _ ρ2 _ H2 h2 ((e2.drop e.tl).push (.bl _)))
theorem d_isiTK {χ : XD} {ρ : Env} {Q : T → Env → Prop} {we : WE} {wr : WA} (h : we χ ρ fun t ρ1 => t = .sh (.at a 0 []) ∧ wr χ ρ1 fun ts ρ2 => ts = [.sh (.tup [.ty "list", .ty "tuple"])] ∧ Q (.sh (.bl true)) ρ2) : wIsiTK a we wr χ ρ Q := h
/-- for x in e -/
def wiTupE (a : Addr) (we : WE) : WI := fun χ ρ Q => we χ ρ fun t ρ1 => t = .sh (.at a 0 []) ∧ Q [] (fun _ => True) ρ1
theorem rfi_tupE {te : TE} {we : WE} (hk : KTup K a []) (ha : Rf W te we) : RfI W (iTup K (tOnly a te)) (wiTupE a we) := fun σ H Rr ⟨Γ, tv, ρ, tt, χ, Q1, e, h, x, k⟩ => by
  refine ha σ H _ ⟨Γ, tv, ρ, tt, χ, _, e, h, x, fun t ρ1 v H1 ⟨et, h1⟩ e1 => ?_⟩
  subst et
  have r := e1.last.un
  cases r
  refine ⟨rfl, a, rfl, ⟨[], hk.sq _⟩, k _ _ ρ1 H1 (Itt K a) [some (.ref a)] [.sh (.at a 0 [])] h1 e1 rfl ⟨fun i H σ ρ hi _ _ => absurd hi (Nat.not_lt_zero _), fun H σ ρ _ _ => ⟨[], hk.sq _, Nat.le_refl _⟩, fun i H σ ρ y H' zs ws' hi _ _ _ => absurd hi (Nat.not_lt_zero _)⟩⟩
theorem rfi_seqE {te : TE} {we : WE} (hk : KTup K a []) (ha : Rf W te we) : RfI W (iSeq K (tOnly a te)) (wiTupE a we) := fun σ H Rr h => .inr (rfi_tupE hk ha σ H Rr h)
theorem d_iTupE {χ : XD} {ρ : Env} {we : WE} {q : List T → (Env → Prop) → Env → Prop} (h : we χ ρ fun t ρ1 => t = .sh (.at a 0 []) ∧ q [] (fun _ => True) ρ1) : wiTupE a we χ ρ q := h
theorem d_sfldvN {f : Str} {ρ ρ1 : Env} {a C : Addr} {i : Nat} {p : List Nat} {fs fs' : List Str} {xs xs' : List T} {t : T} {P : Env → Prop} (h2 : gt ρ i p = some (.obj a C fs xs)) (hc : Cls K C ∧ NoAttr K C f) (h3 : fs.length < 900) (h4 : PutR fs xs f t fs' xs') (e : pt ρ i p (.obj a C fs' xs') = ρ1) (h : P ρ1) : ∃ a' i' p' C fs xs fs' xs', T.sh (.at a i p) = .sh (.at a' i' p') ∧ gt ρ i' p' = some (.obj a' C fs xs) ∧ (Cls K C ∧ NoAttr K C f) ∧ fs.length < 900 ∧ PutR fs xs f t fs' xs' ∧ P (pt ρ i' p' (.obj a' C fs' xs')) := ⟨a, i, p, C, fs, xs, fs', xs', rfl, h2, hc, h3, h4, e ▸ h⟩
end
end E
namespace G
open PySem PySem.Spec PyProof.Rows L2
end G
namespace E
open PySem PySem.Spec PyProof.Rows L2 G
def keysD : List D → Option (List Key)
  | [] => some []
  | d :: ds => d.key.bind fun k => (keysD ds).map (k :: ·)
def D.keyT : D → Option (List Key)
  | .tup ds => keysD ds
  | _ => none
theorem keysD_vals {H : Hp} {A : Addr → Prop} : ∀ {ds : List D} {vs : List V} {ks : List Key}, keysD ds = some ks → vs.length = ds.length → (∀ (k : Nat) (v : V) (d : D), vs[k]? = some v → ds[k]? = some d → RD H A v d) → vs = ks.map kV
  | [], vs, ks, h, l, _ => by
    cases h
    exact List.eq_nil_of_length_eq_zero l
  | d :: ds, [], ks, h, l, _ => by simp at l
  | d :: ds, v :: vs, ks, h, l, kd => by
    unfold keysD at h
    cases e1 : d.key with
    | none => rw [e1] at h; cases h
    | some k =>
    rw [e1] at h
    cases e2 : keysD ds with
    | none => rw [e2] at h; cases h
    | some ks' =>
    rw [e2] at h
    cases h
    have e3 : vs = ks'.map kV := keysD_vals e2 (by simpa using l) fun k v' d' h1 h2 => kd (k + 1) v' d' (by simpa using h1) (by simpa using h2)
    rw [(kd 0 v d rfl rfl).key e1, e3]
    rfl
theorem RD.keyT {H : Hp} {A : Addr → Prop} {v : V} {d : D} {ks : List Key} (r : RD H A v d) (h : d.keyT = some ks) : ∃ b, v = .ref b ∧ H b = some (.tup (ks.map kV)) := by
  cases r with
  | tup e _ l kd => exact ⟨_, rfl, by rw [← keysD_vals h l kd]; exact e⟩
  | _ => cases h
def T.dictT : T → Option (List (List Key) × List T)
  | .sh (.dT ks ds) => some (ks, ds.map T.sh)
  | .dT _ ks xs => some (ks, xs)
  | _ => none
theorem R.dictT {H : Hp} {A : Addr → Prop} {v : V} {u : T} {ks : List (List Key)} {xs : List T} (r : R H A (some v) u) (h : u.dictT = some (ks, xs)) : ∃ a kvs, v = .ref a ∧ Rd H a (.dT kvs) ∧ kvs.map Prod.fst = ks ∧ kvs.length = xs.length ∧ ∀ (k : Nat) (q : List Key × V) (t : T), kvs[k]? = some q → xs[k]? = some t → R H A (some q.2) t := by
  cases r with
  | sh r =>
    cases r with
    | dT e _ l kd => cases h; exact ⟨_, _, rfl, e, rfl, by rw [l, List.length_map], fun k q t h1 h2 => by obtain ⟨d, e1, rfl⟩ := get_map h2; exact .sh (kd k q d h1 e1)⟩
    | _ => cases h
  | dT e l kd => cases h; exact ⟨_, _, rfl, .inl e, rfl, l, kd⟩
  | _ => cases h
section
variable {K : PySem.W.Frag} {W : Wx}
def tDGetT (td ty : TE) : TE := tDGet td ty
def wDGetT (wd wk : WE) : WE := fun χ ρ Q => wd χ ρ fun t ρ1 => wk χ ρ1 fun tk ρ2 => ∃ u, Rs ρ2 t u ∧ ∃ ks xs d k n x y, u.dictT = some (ks, xs) ∧ tk = .sh d ∧ d.keyT = some k ∧ kfind ks k = some n ∧ xs[n]? = some x ∧ t.rdk x n = some y ∧ Q y ρ2
theorem rf_dgetT {td ty : TE} {wd wk : WE} (hd : Rf W td wd) (hk : Rf W ty wk) : Rf W (tDGetT td ty) (wDGetT wd wk) := fun σ H Q ⟨Γ, tv, ρ, tt, χ, Q1, e, h, x, k⟩ => by
  refine hd σ H _ ⟨Γ, tv, ρ, tt, χ, _, e, h, x, fun t ρ1 v1 H1 h1 e1 => ?_⟩
  refine hk σ H1 _ ⟨Γ, _, ρ1, _, χ, _, e1, h1, x.deep e.tl rfl, fun tk ρ2 v2 H2 ⟨u, hr, ks, xs, d, ky, n, z, y, hu, etk, hky, hn, hz, hy, h2⟩ e2 => ?_⟩
  subst etk
  rw [List.append_assoc, List.append_assoc] at e2
  have r1 := e2.entry e.tl (k := 0) rfl rfl
  have r2 := e2.entry e.tl (k := 1) rfl rfl
  cases r2 with
  | sh r2 =>
  obtain ⟨a, kvs, rfl, ea, ek, l, kd⟩ := (Rs.rep e2 r1 hr).dictT hu
  obtain ⟨q, hq⟩ := get_of_len l hz
  obtain ⟨w, d', ew, rfl, rd⟩ := (kd n q z hq hz).rdk hy
  cases ew
  obtain ⟨b, rfl, hb⟩ := r2.keyT hky
  exact ⟨a, q.2, rfl, .inr ⟨kvs, ky, b, ea, rfl, hb, (valV_kfind (by rw [ek]; exact hn) hq).symm⟩, k _ ρ2 _ H2 h2 ((e2.push rd).mid e.tl rfl)⟩
theorem d_dgetT {χ : XD} {ρ : Env} {Q : T → Env → Prop} {wd wk : WE} (h : wd χ ρ fun t ρ1 => wk χ ρ1 fun tk ρ2 => ∃ u, Rs ρ2 t u ∧ ∃ ks xs d k n x y, u.dictT = some (ks, xs) ∧ tk = .sh d ∧ d.keyT = some k ∧ kfind ks k = some n ∧ xs[n]? = some x ∧ t.rdk x n = some y ∧ Q y ρ2) : wDGetT wd wk χ ρ Q := h
def sDPutT (td ty tv : TE) : TS := sDPut td ty tv
def wDPutT (wd wk wv : WE) : WS := fun k ρ => wv k.xc ρ fun t1 ρ1 => wd k.xc ρ1 fun t0 ρ2 => wk k.xc ρ2 fun tk ρ3 => ∃ a i p ks xs d ky ks' xs', t0 = .sh (.at a i p) ∧ tk = .sh d ∧ d.keyT = some ky ∧ gt ρ3 i p = some (.dT a ks xs) ∧ ks.length < 10000 ∧ PutR ks xs ky t1 ks' xs' ∧ k.nx (pt ρ3 i p (.dT a ks' xs'))
theorem rfs_dputT {bs : List Nat} {td ty tv' : TE} {wd wk wv : WE} (hd : Rf W td wd) (hk : Rf W ty wk) (hv : Rf W tv' wv) : RfS bs W (sDPutT td ty tv') (wDPutT wd wk wv) := fun D σ H ⟨Γ, tv, ρ, tt, k, e, h, o⟩ => by
  refine hv σ H _ ⟨Γ, tv, ρ, tt, k.xc, _, e, h, o.x, fun t1 ρ1 v1 H1 h1 e1 => ?_⟩
  refine hd σ H1 _ ⟨Γ, _, ρ1, _, k.xc, _, e1, h1, o.x.deep e.tl rfl, fun t0 ρ2 v0 H2 h2 e2 => ?_⟩
  refine hk σ H2 _ ⟨Γ, _, ρ2, _, k.xc, _, e2, h2, (o.x.deep e.tl rfl).deep (by simp [e.tl]) rfl, fun tk ρ3 v3 H3 ⟨a, i, p, ks, xs, d, ky, ks', xs', e0, etk, hky, hg, hl, hp, h3⟩ e3 => ?_⟩
  subst e0 etk
  rw [List.append_assoc, List.append_assoc, List.append_assoc, List.append_assoc] at e3
  have r0 := e3.entry e.tl (k := 1) rfl rfl
  have r1 := e3.entry e.tl (k := 2) rfl rfl
  cases r0 with
  | sh r0 =>
  cases r0
  cases r1 with
  | sh r1 =>
  obtain ⟨oo, ws, nd, ho, lv, kd, g⟩ := e3.updN e.tl hg rfl
  cases nd with
  | @dT _ _ kvs =>
  have lv' : kvs.length = xs.length := by simpa [T.kids] using lv
  obtain ⟨kvs', hcase, e4, l3, l4, hcn, hsrc⟩ := put_cases (v := v1) hp rfl lv'
  have epf : putK kvs ky v1 = kvs' := by
    rcases hcase with ⟨n, q1, q2, rfl⟩ | ⟨q, rfl⟩
    · exact putK_old q1 q2
    · exact putK_new q
  rw [List.length_map] at hl
  obtain ⟨b, rfl, hb⟩ := r1.keyT hky
  refine ⟨a, _, rfl, DPut.t ho hb (szl' hl), ?_⟩
  rw [epf]
  subst e4
  refine o.nx _ σ _ h3 (.refl _ _) ?_
  have := g (.dT kvs') (.dT a (kvs'.map Prod.fst) xs') (kvs'.map Prod.snd) [] [] .dT (by simp [T.kids, l3]) rfl (fun b => ?_) (fun z t' hz => ?_)
  · rw [List.append_nil, List.append_nil] at this; exact this
  · have := hcn b
    simp only [T.kids, List.singleton_append, List.cons_append, List.nil_append, ownsL_cons, ownsL_nil, cn_app, cn_noT, List.append_nil]
    show _ + 0 ≤ _
    omega
  · rcases hz with ⟨j, v, rfl, q1, q2⟩ | ⟨j, q1, q2⟩
    · rcases hsrc j v t' q1 q2 with ⟨z1, z2⟩ | ⟨rfl, rfl⟩
      · exact .inl ⟨j, v, rfl, z1, z2⟩
      · exact .inr (.inl ⟨0, rfl, rfl⟩)
    · simp at q1
theorem d_dputT {k : WK} {ρ : Env} {wd wk wv : WE} (h : wv k.xc ρ fun t1 ρ1 => wd k.xc ρ1 fun t0 ρ2 => wk k.xc ρ2 fun tk ρ3 => ∃ a i p ks xs d ky ks' xs', t0 = .sh (.at a i p) ∧ tk = .sh d ∧ d.keyT = some ky ∧ gt ρ3 i p = some (.dT a ks xs) ∧ ks.length < 10000 ∧ PutR ks xs ky t1 ks' xs' ∧ k.nx (pt ρ3 i p (.dT a ks' xs'))) : wDPutT wd wk wv k ρ := h
def isDct (ρ : Env) (t : T) : Prop := ∃ u, Rs ρ t u ∧ ∃ kx, u.dictK = some kx
theorem isDct.run {Γ : Cg} {H : Hp} {σ : L2.St} {tv : List (Option V)} {ρ : Env} {tt : List T} {v : V} {t : T} (e : En Γ H σ (tv ++ [some v]) ρ (tt ++ [t])) (h : isDct ρ t) : ∃ a, v = .ref a ∧ IsD H a := by
  obtain ⟨u, hr, ⟨ks, xs⟩, hx⟩ := h
  obtain ⟨a, kvs, rfl, h1, _⟩ := (Rs.rep e e.last hr).dictK hx
  exact ⟨a, rfl, .inl ⟨kvs, h1⟩⟩
def wGet1 (wd wk : WE) : WE := fun χ ρ Q => wd χ ρ fun t ρ1 => isDct ρ1 t ∧ wk χ ρ1 fun tk ρ2 => ∃ u, Rs ρ2 t u ∧ ∃ ks xs d ky, u.dictK = some (ks, xs) ∧ tk = .sh d ∧ d.key = some ky ∧ (∀ n, kfind ks ky = some n → ∃ x y, xs[n]? = some x ∧ t.rdk x n = some y ∧ Q y ρ2) ∧ (kfind ks ky = none → Q (.sh .non) ρ2)
theorem rf_get1 {td ty : TE} {wd wk : WE} (hd : Rf W td wd) (hk : Rf W ty wk) : Rf W (tDGet1 td ty) (wGet1 wd wk) := fun σ H Q ⟨Γ, tv, ρ, tt, χ, Q1, e, h, x, k⟩ => by
  refine hd σ H _ ⟨Γ, tv, ρ, tt, χ, _, e, h, x, fun t ρ1 v1 H1 ⟨h0, h1⟩ e1 => ?_⟩
  obtain ⟨a, rfl, isd⟩ := h0.run e1
  refine ⟨a, rfl, isd, hk σ H1 _ ⟨Γ, _, ρ1, _, χ, _, e1, h1, x.deep e.tl rfl, fun tk ρ2 v2 H2 ⟨u, hr, ks, xs, d, ky, hu, etk, hky, hs, hn⟩ e2 => ?_⟩⟩
  subst etk
  rw [List.append_assoc, List.append_assoc] at e2
  have r1 := e2.entry e.tl (k := 0) rfl rfl
  have r2 := e2.entry e.tl (k := 1) rfl rfl
  cases r2 with
  | sh r2 =>
  obtain ⟨a', kvs, ea', ea, ek, l, kd⟩ := (Rs.rep e2 r1 hr).dictK hu
  cases ea'
  cases c : kfind ks ky with
  | none => exact ⟨none, .inl ⟨kvs, ky, ea, r2.key hky, (valV_no' (by rw [ek]; exact c)).symm⟩, k _ ρ2 _ H2 (hn c) ((e2.drop e.tl).push .non)⟩
  | some n =>
    obtain ⟨z, y, hz, hy, h2⟩ := hs n c
    obtain ⟨q, hq⟩ := get_of_len l hz
    obtain ⟨w, d', ew, rfl, rd⟩ := (kd n q z hq hz).rdk hy
    cases ew
    exact ⟨some q.2, .inl ⟨kvs, ky, ea, r2.key hky, (valV_kfind (by rw [ek]; exact c) hq).symm⟩, k _ ρ2 _ H2 h2 ((e2.push rd).mid e.tl rfl)⟩
theorem d_get1 {χ : XD} {ρ : Env} {Q : T → Env → Prop} {wd wk : WE} (h : wd χ ρ fun t ρ1 => isDct ρ1 t ∧ wk χ ρ1 fun tk ρ2 => ∃ u, Rs ρ2 t u ∧ ∃ ks xs d ky, u.dictK = some (ks, xs) ∧ tk = .sh d ∧ d.key = some ky ∧ (∀ n, kfind ks ky = some n → ∃ x y, xs[n]? = some x ∧ t.rdk x n = some y ∧ Q y ρ2) ∧ (kfind ks ky = none → Q (.sh .non) ρ2)) : wGet1 wd wk χ ρ Q := h
end
end E
namespace E
open PySem PySem.Spec PyProof.Rows L2 G
section
variable {K : PySem.W.Frag} {W : Wx}
/-- n.f, n being slot i's, an exception whose fields stand at dd -/
def tXe (C dd : Addr) (i : Nat) (f : Str) : TE := fun σ H Q => ∃ a, σ[i]? = some (some (.ref a)) ∧ tXf a (.ref C) (some dd) C f (tVar i) σ H Q
def wXe (C dd : Addr) (i : Nat) (f : Str) : WE := fun _ ρ Q => ∃ fl ds n d, ρ[i]? = some (.sh (.exc C dd fl ds)) ∧ kfind fl f = some n ∧ ds[n]? = some d ∧ Q (.sh d) ρ
theorem rf_xe {C dd : Addr} {i : Nat} {f : Str} : Rf W (tXe C dd i f) (wXe C dd i f) := fun σ H Q ⟨Γ, tv, ρ, tt, χ, Q1, e, ⟨fl, ds, n, d, h1, h2, h3, h4⟩, x, k⟩ => by
  obtain ⟨y, hy⟩ := get_of_len e.len h1
  have r := e.ok.rep i y _ (ap_left hy) (ap_left h1)
  cases r with
  | sh r =>
  cases r with
  | @exc a _ _ fvs _ ea _ l kd =>
  obtain ⟨q, hq⟩ := get_of_len l h3
  exact ⟨a, hy, .ref a, hy, rfl, rfl, dd, fvs, q.2, rfl, ea, lookup_kfind h2 hq, k _ ρ _ H h4 (e.push (kd n q d hq h3))⟩
def sTryF (K : PySem.W.Frag) (C : Addr) (i : Nat) (f : Str) (F : TE → TE) (tb : WX → TS) : TS := fun D σ H => tb (wAs K (.ref C) i (fun a cls d => tRet (F (tXf a cls d C f (tVar i)))) (fun _ _ _ _ => False) D) D σ H
def Mono (F : TE → TE) : Prop := ∀ (t1 t2 : TE) (σ : L2.St), (∀ H Q, t1 σ H Q → t2 σ H Q) → ∀ H Q, F t1 σ H Q → F t2 σ H Q
def wTryF (K : PySem.W.Frag) (C : Addr) (i : Nat) (wb : WS) (wh : Addr → WE) : WS := fun k ρ => wb { k with xc := fun C' fl ds ρ' => C' = C ∧ PySem.W.exmOne K (.ref C) (.ref C) = some true ∧ i < ρ'.length ∧ ∀ dd, wh dd noX (ρ'.set i (.sh (.exc C dd fl ds))) k.rt } ρ
theorem KOk.newX {bs : List Nat} {Γ : Cg} {tv : List (Option V)} {tt : List T} {σ : L2.St} {D : Ends} {k : WK} {V : WX} {χ : XD} (o : KOk bs Γ tv tt σ W D k) (h : ∀ C d fl ds ρ' σ' H', χ C fl ds ρ' → Pn bs σ σ' → En Γ H' σ' (tv ++ [some (.ref 0)]) ρ' (tt ++ [.sh (.exc C d fl ds)]) → V (.ref C) (some d) σ' H') : KOk bs Γ tv tt σ ⟨V, W.c⟩ D { k with xc := χ } := ⟨o.nx, o.rt, o.bk, o.ct, h, o.cal⟩
theorem rfs_tryF {bs : List Nat} {C : Addr} {i : Nat} {f : Str} {F : TE → TE} {tb : WX → TS} {wb : WS} {wh : Addr → WE} (hi : i ∉ bs) (hm : Mono F) (hb : ∀ V : WX, RfS bs ⟨V, W.c⟩ (tb V) wb) (hh : ∀ dd, Rf W (F (tXe C dd i f)) (wh dd)) : RfS bs W (sTryF K C i f F tb) (wTryF K C i wb wh) := fun D σ H ⟨Γ, tv, ρ, tt, k, e, h, o⟩ => by
  refine hb _ D σ H ⟨Γ, tv, ρ, tt, _, e, h, o.newX fun C' d fl ds ρ' σ' H' ⟨ec, te, hl, hx⟩ p e' => ?_⟩
  subst ec
  refine ⟨true, te, fun _ a ha => ?_, fun z => Bool.noConfusion z⟩
  have r := e'.last
  have e0 := e'.drop e.tl
  have e1 : En Γ H' σ' (tv ++ [some (.ref a)]) ρ' (tt ++ [.sh (.exc C' d fl ds)]) := by
    cases r with
    | sh r =>
    cases r with
    | exc h1 h2 h3 h4 => exact (e'.push (.exc (C := C') (a := a) h1 h2 h3 h4)).mid e.tl rfl
  have e2 := e1.set hl
  refine hm _ _ _ (fun H2 Q2 ⟨a', ha', hq⟩ => ?_) _ _ (hh d _ H' _ ⟨Γ, tv, _, tt, noX, _, e2, hx d, ⟨o.cal, fun _ _ _ _ _ _ z => z.elim⟩, fun t ρ2 v H2 q2 e3 => o.rt t ρ2 v _ H2 q2 (p.trans (.set hi)) e3⟩)
  rw [List.getElem?_set_self (by rw [e'.len]; exact hl)] at ha'
  cases ha'
  exact hq
theorem d_tryF {k : WK} {ρ : Env} {C : Addr} {i : Nat} {wb : WS} {wh : Addr → WE} (h : wb { k with xc := fun C' fl ds ρ' => C' = C ∧ PySem.W.exmOne K (.ref C) (.ref C) = some true ∧ i < ρ'.length ∧ ∀ dd, wh dd noX (ρ'.set i (.sh (.exc C dd fl ds))) k.rt } ρ) : wTryF K C i wb wh k ρ := h
def hdsS : List (Addr × TS) → List (Value × (Addr → Value → Option Addr → TS)) := List.map fun p => (.ref p.1, fun _ _ _ => p.2)
def sTryM (K : PySem.W.Frag) (Wout : WX) (l : List (Addr × TS)) (tb : WX → TS) (u : TS) : TS := fun D σ H => tb (wMany K Wout D (hdsS l)) { D with nx := u D } σ H
def wHds (K : PySem.W.Frag) (k : WK) : List (Addr × WS) → XD
  | [] => k.xc
  | (c, w) :: r => fun C fl ds ρ => ∃ b, PySem.W.exmOne K (.ref C) (.ref c) = some b ∧ (b = true → w { k with xc := noX } ρ) ∧ (b = false → wHds K k r C fl ds ρ)
inductive RfH (bs : List Nat) (W : Wx) : List (Addr × TS) → List (Addr × WS) → Prop
  | nil : RfH bs W [] []
  | cons {c : Addr} {t : TS} {w : WS} {l : List (Addr × TS)} {m : List (Addr × WS)} : RfS bs W t w → RfH bs W l m → RfH bs W ((c, t) :: l) ((c, w) :: m)
def wTryM (K : PySem.W.Frag) (m : List (Addr × WS)) (wb wu : WS) : WS := fun k ρ => wb { k with nx := wu k, xc := wHds K k m } ρ
theorem wHds_run {bs : List Nat} {Wout : WX} {l : List (Addr × TS)} {m : List (Addr × WS)} {Γ : Cg} {tv : List (Option V)} {tt : List T} {σ σ' : L2.St} {D : Ends} {k : WK} {C d : Addr} {fl : List Str} {ds : List E.D} {ρ' : Env} {H' : Hp} (hW : ∀ c d σ H, W.x c d σ H → Wout c d σ H) (htl : tv.length = tt.length) (o : KOk bs Γ tv tt σ W D k) (p : Pn bs σ σ') (e' : En Γ H' σ' (tv ++ [some (.ref 0)]) ρ' (tt ++ [.sh (.exc C d fl ds)])) (hh : RfH bs W l m) : wHds K k m C fl ds ρ' → wMany K Wout D (hdsS l) (.ref C) (some d) σ' H' := by
  induction hh with
  | nil => exact fun hx => hW _ _ _ _ (o.xc C d fl ds ρ' σ' H' hx p e')
  | cons r1 _ ih =>
    rintro ⟨b, h1, h2, h3⟩
    refine ⟨b, h1, fun z a ha => ?_, fun z => ih (h3 z)⟩
    exact r1 D σ' H' ⟨Γ, tv, ρ', tt, _, e'.drop htl, h2 z, ⟨(o.at p).nx, (o.at p).rt, (o.at p).bk, (o.at p).ct, fun _ _ _ _ _ _ _ z => z.elim, o.cal⟩⟩
theorem rfs_tryM {bs : List Nat} {Wout : WX} {l : List (Addr × TS)} {m : List (Addr × WS)} {tb : WX → TS} {u : TS} {wb wu : WS} (hW : ∀ c d σ H, W.x c d σ H → Wout c d σ H) (hh : RfH bs W l m) (hb : ∀ V : WX, RfS bs ⟨V, W.c⟩ (tb V) wb) (hu : RfS bs W u wu) : RfS bs W (sTryM K Wout l tb u) (wTryM K m wb wu) := fun D σ H ⟨Γ, tv, ρ, tt, k, e, h, o⟩ => by
  refine hb _ _ σ H ⟨Γ, tv, ρ, tt, _, e, h, ⟨fun ρ' σ' H' h2 q e2 => hu D σ' H' ⟨Γ, tv, ρ', tt, k, e2, h2, o.at q⟩, o.rt, o.bk, o.ct, fun C d fl ds ρ' σ' H' hx p e' => ?_, o.cal⟩⟩
  exact wHds_run hW e.tl o p e' hh hx
theorem d_tryM {k : WK} {ρ : Env} {m : List (Addr × WS)} {wb wu : WS} (h : wb { k with nx := wu k, xc := wHds K k m } ρ) : wTryM K m wb wu k ρ := h
end
end E
namespace E
open PySem PySem.Spec PyProof.Rows L2 G
def tLk (H0 : Hp) (td : TE) : TE := fun σ H Q => td σ H fun x H1 => ∃ d u, x = .ref d ∧ H1 d = some u ∧ Mut (some u) ∧ ((∀ o' u', H0 d ≠ some (.frz o' u')) → ∀ od, Q x (upd H1 d (.frz od u)))
def tUnl (H0 : Hp) (t : TE) : TE := fun σ H Q => t σ H fun v H' => ∃ d od u, H' d = some (.frz od u) ∧ (∀ o' u', H0 d ≠ some (.frz o' u')) ∧ Q v (upd H' d u)
def itemsT : List Key → List D → List T
  | k :: ks, d :: ds => .sh (.tup [kD k, d]) :: itemsT ks ds
  | _, _ => []
theorem itemsT_len : ∀ {ks : List Key} {ds : List D}, ks.length = ds.length → (itemsT ks ds).length = ds.length
  | [], [], _ => rfl
  | k :: ks, d :: ds, h => by simp only [itemsT, List.length_cons]; rw [itemsT_len (by simpa using h)]
theorem itemsT_at : ∀ {ks : List Key} {ds : List D} {i : Nat} {k : Key} {d : D}, ks[i]? = some k → ds[i]? = some d → (itemsT ks ds)[i]? = some (.sh (.tup [kD k, d]))
  | k :: ks, d :: ds, 0, _, _, h1, h2 => by simp at h1 h2; simp [itemsT, h1, h2]
  | k :: ks, d :: ds, i + 1, _, _, h1, h2 => by simp only [itemsT, List.getElem?_cons_succ] at h1 h2 ⊢; exact itemsT_at h1 h2
  | [], _, _, _, _, h, _ => by simp at h
  | _ :: _, [], _, _, _, _, h => by simp at h
section
variable {W : Wx}
theorem wk_items {Γ : Cg} {H0 : Hp} {tv : List (Option V)} {tt : List T} {d : Addr} {od : Obj} {kvs : List (Key × V)} {ks : List Key} {ds : List D} {F : List Addr} (l : tv.length = tt.length) (ek : kvs.map Prod.fst = ks) (ld : ks.length = ds.length)
    (un : ∀ H2 σ2 tv2 ρ2 tt2, En (lkG Γ H0 d od kvs F) H2 σ2 tv2 ρ2 tt2 → H2 d = some (.frz od (.dK kvs))) : Wk (lkG Γ H0 d od kvs F) tv [some (.ref d)] tt [.sh (.dK ks ds)] (fun _ => True) (Iti d od kvs) (itemsT ks ds) := by
  have lk : kvs.length = ks.length := by rw [← ek, List.length_map]
  have li := itemsT_len ld
  refine ⟨fun i H σ ρ hi _ e => ⟨un _ _ _ _ _ e, by omega⟩, fun H σ ρ _ e => ⟨un _ _ _ _ _ e, by omega⟩, fun i H σ ρ x H' zs ws hi _ e ⟨q, k, v, hk, ex, hq, eH⟩ => ?_⟩
  subst ex eH
  have hd := un _ _ _ _ _ e
  obtain ⟨a, kvs', ea, hr, ek', l', kd⟩ := (e.entry l (k := 0) rfl rfl).dictK (ks := ks) (xs := ds.map T.sh) rfl
  cases ea
  have ekk : kvs' = kvs := by
    rcases hr with h | ⟨o, h⟩
    · rw [hd] at h; cases h
    · rw [hd] at h; cases h; rfl
  subst ekk
  have hdi : i < ds.length := by omega
  have h2 : ds[i]? = some ds[i] := List.getElem?_eq_getElem hdi
  have h3 : (ds.map T.sh)[i]? = some (.sh ds[i]) := by rw [List.getElem?_map, h2]; rfl
  have r := kd i (k, v) _ hk h3
  have hks : ks[i]? = some k := by rw [← ek, List.getElem?_map, hk]; rfl
  cases r with
  | sh r => exact ⟨_, itemsT_at hks h2, e.pair (kD_rd k) r hq⟩
/-- {k: v for target in e.items()} -/
def wDcI (wd : WE) (g : WG) (wt : WT) (wk we : WE) (vs : List Nat) : WE := fun χ ρ Q => wd χ ρ fun t ρ1 => ∃ ks ds, t.pub = some (.dK ks ds) ∧ ks.length = ds.length ∧ ∃ I : Nat → Env → List Key → List T → Prop, I 0 (wipeE ρ1 vs) [] [] ∧ (∀ i ρ2 ks xs, I i ρ2 ks xs → ks.length < 10000) ∧
  (∀ (i : Nat) (t : T) (ρ2 : Env) (ks' : List Key) (xs : List T), (itemsT ks ds)[i]? = some t → I i ρ2 ks' xs → g t ρ2 fun ρ3 => wt noX ρ3 fun b ρ4 => if b = true then wk noX ρ4 fun tk ρ5 => we noX ρ5 fun y ρ6 => ∃ d ky y' ks2 xs', tk = .sh d ∧ d.key = some ky ∧ PubT y y' ∧ PutR ks' xs ky y' ks2 xs' ∧ I (i + 1) (wipeE ρ6 vs) ks2 xs' else I (i + 1) (wipeE ρ4 vs) ks' xs) ∧ ∀ ρ2 ks' xs, I (itemsT ks ds).length ρ2 ks' xs → ∀ a, Q (.dK a ks' xs) (wipeE ρ2 vs)
theorem rf_dcI {H0 : Hp} {td : TE} {g : TG} {tt' : TT} {tk te : TE} {vs : List Nat} {wd : WE} {wg : WG} {wt : WT} {wk we : WE} (hc : W.c = true) (hd : Rf W td wd) (hg : RfG (fun k => k ∉ vs) g wg) (ht : RfT (W0 false) tt' wt) (hk : Rf (W0 false) tk wk) (he : Rf (W0 false) te we) : Rf W (tUnl H0 (tDc (iItems (tLk H0 td)) g tt' tk te vs)) (wDcI wd wg wt wk we vs) := fun σ H Q ⟨Γ, tv, ρ, tt, χ, Q1, e, h, x, k⟩ => by
  refine hd σ H _ ⟨Γ, tv, ρ, tt, χ, _, e, h, x, fun t ρ1 v H1 ⟨ks, ds, hp, ld, I, i0, hP, turn, fin⟩ e1 => ?_⟩
  have e2 := e1.pubT (xs := []) (ts := []) e.tl hp
  have r := e2.last
  cases r with
  | sh r =>
  obtain ⟨d, rfl⟩ : ∃ d, v = V.ref d := by cases r; exact ⟨_, rfl⟩
  obtain ⟨kvs, hdd, ek, lk⟩ := e2.lock (x.1 hc) r
  refine ⟨d, .dK kvs, rfl, hdd, True.intro, fun nf od => ⟨d, od, kvs, rfl, upd_same, ?_⟩⟩
  obtain ⟨e3, un⟩ := lk od
  exact dcCore hg ht hk he (c := false) (P := fun _ => True) (I := I) (xv := [some (.ref d)]) (xt := [.sh (.dK ks ds)]) (ρ1 := ρ1) (its := itemsT ks ds)
    (Qd := fun D H2 => ∃ d od u, H2 d = some (.frz od u) ∧ (∀ o' u', H0 d ≠ some (.frz o' u')) ∧ Q (.ref D) (upd H2 d u)) (fun z => nomatch z) e.tl rfl i0 (fun i ρ2 ks xs hI => ⟨True.intro, hP i ρ2 ks xs hI⟩) turn e3 (wk_items e.tl ek ld fun H2 σ2 tv2 ρ2 tt2 e4 => (un _ _ _ _ _ e4).1)
    fun D H2 ρ2 ks' xs hI e4 => ⟨d, od, .dK kvs, (un _ _ _ _ _ e4).1, nf, k _ _ _ _ (fin ρ2 ks' xs hI D) (En.mid (ys := [some (.ref d)]) (us := [.sh (.dK ks ds)]) (by rw [List.append_assoc, List.append_assoc]; exact (un _ _ _ _ _ e4).2) e.tl rfl)⟩
theorem d_dcI {χ : XD} {ρ : Env} {Q : T → Env → Prop} {wd : WE} {g : WG} {wt : WT} {wk we : WE} {vs : List Nat} (h : wd χ ρ fun t ρ1 => ∃ ks ds, t.pub = some (.dK ks ds) ∧ ks.length = ds.length ∧ ∃ I : Nat → Env → List Key → List T → Prop, I 0 (wipeE ρ1 vs) [] [] ∧ (∀ i ρ2 ks xs, I i ρ2 ks xs → ks.length < 10000) ∧
  (∀ (i : Nat) (t : T) (ρ2 : Env) (ks' : List Key) (xs : List T), (itemsT ks ds)[i]? = some t → I i ρ2 ks' xs → g t ρ2 fun ρ3 => wt noX ρ3 fun b ρ4 => if b = true then wk noX ρ4 fun tk ρ5 => we noX ρ5 fun y ρ6 => ∃ d ky y' ks2 xs', tk = .sh d ∧ d.key = some ky ∧ PubT y y' ∧ PutR ks' xs ky y' ks2 xs' ∧ I (i + 1) (wipeE ρ6 vs) ks2 xs' else I (i + 1) (wipeE ρ4 vs) ks' xs) ∧ ∀ ρ2 ks' xs, I (itemsT ks ds).length ρ2 ks' xs → ∀ a, Q (.dK a ks' xs) (wipeE ρ2 vs)) : wDcI wd g wt wk we vs χ ρ Q := h
end
end E
namespace G
open PySem PySem.Spec PyProof.Rows L2
section
variable {X : Cx} {CX : CXT} {k j : Nat} {C : Addr} {x : Str} {sp : Sp} {E : L2.St → XK} {e : Expr} {es : List Expr} {t : TA} {p pos : Pos}
def tClS (sp : Sp) (E : L2.St → XK) (t : TA) : TE := fun σ H Q => tCl sp (E σ) t σ H Q
def tMkS (C : Addr) (sp : Sp) (E : L2.St → XK) (t : TA) : TE := fun σ H Q => tMk C sp (E σ) t σ H Q
end
end G
namespace E
open PySem PySem.Spec PyProof.Rows L2 G
section
variable {W : Wx}
/-- W, the slots being those of σ -/
def Wx.on (W : Wx) (σ : L2.St) : Wx := ⟨fun cls d σ' H => σ' = σ ∧ W.x cls d σ' H, W.c⟩
theorem XOk.on {Γ : Cg} {tv : List (Option V)} {tt : List T} {σ : L2.St} {χ : XD} (x : XOk W Γ tv tt σ χ) : XOk (W.on σ) Γ tv tt σ χ := ⟨x.1, fun C d fl ds ρ' H' h e => ⟨rfl, x.2 C d fl ds ρ' H' h e⟩⟩
theorem rf_clS {c : Bool} {S : SpecD} {E : L2.St → XK} {t : TA} {wr : WA} (hc : c = true → W.c = true) (hE : ∀ cls d σ H, W.x cls d σ H → E σ cls d H) (ha : ∀ V : WX, RfA ⟨V, W.c⟩ t wr) : Rf W (tClS (spD c S) E t) (wCall S wr) := fun σ H Q ⟨Γ, tv, ρ, tt, χ, Q1, e, h, x, k⟩ =>
  rf_cl (W := W.on σ) hc (fun cls d σ' H ⟨z, q⟩ => hE cls d σ H (z ▸ q)) (ha _) σ H Q ⟨Γ, tv, ρ, tt, χ, Q1, e, h, x.on, k⟩
theorem rf_mkS {c : Bool} {C : Addr} {S : SpecD} {E : L2.St → XK} {t : TA} {wr : WA} (hc : c = true → W.c = true) (hE : ∀ cls d σ H, W.x cls d σ H → E σ cls d H) (ha : ∀ V : WX, RfA ⟨V, W.c⟩ t wr) : Rf W (tMkS C (spD c S) E t) (wMake C S wr) := fun σ H Q ⟨Γ, tv, ρ, tt, χ, Q1, e, h, x, k⟩ =>
  rf_mk (W := W.on σ) hc (fun cls d σ' H ⟨z, q⟩ => hE cls d σ H (z ▸ q)) (ha _) σ H Q ⟨Γ, tv, ρ, tt, χ, Q1, e, h, x.on, k⟩
theorem rf_mtS {c : Bool} {C : Addr} {m : Str} {S : SpecD} {E : L2.St → XK} {ta : TE} {t : TA} {wa : WE} {wr : WA} (hc : c = true → W.c = true) (hE : ∀ cls d σ H, W.x cls d σ H → E σ cls d H) (hr : ∀ V : WX, Rf ⟨V, W.c⟩ ta wa) (ha : ∀ V : WX, RfA ⟨V, W.c⟩ t wr) : Rf W (tMtS C m (spD c S) E ta t) (wMeth C m S wa wr) := fun σ H Q ⟨Γ, tv, ρ, tt, χ, Q1, e, h, x, k⟩ =>
  rf_mt (W := W.on σ) (E := E σ) hc (fun cls d σ' H ⟨z, q⟩ => hE cls d σ H (z ▸ q)) (hr _) (ha _) σ H Q ⟨Γ, tv, ρ, tt, χ, Q1, e, h, x.on, k⟩
def wDNewT : WE := fun _ ρ Q => ∀ p, Q (.dT p [] []) ρ
theorem rf_dnewT : Rf W tDNewT wDNewT := fun σ H Q ⟨Γ, tv, ρ, tt, χ, Q1, e, h, x, k⟩ => fun p hp => k _ ρ _ _ (h p) (.of1 (Ok.alloc (ys := []) (us := []) (u := .dT p [] []) (vs := []) (by simpa only [List.append_nil] using e.ok) e.ok.len hp (fun a o z => by rw [upd_ne (ne_of_none z hp)]; exact z) (fun a z => by
  by_cases q : a = p
  · rw [q]; exact hp
  · rw [upd_ne q] at z; exact z) (nofrz (by intro o kvs z; cases z)) (.dT (kvs := [])) upd_same rfl (fun b => Nat.le_refl _) (fun j v t h2 => by simp at h2)) e.len)
theorem d_dnewT {χ : XD} {ρ : Env} {Q : T → Env → Prop} (h : ∀ p, Q (.dT p [] []) ρ) : wDNewT χ ρ Q := h
end
end E
namespace E
open PySem PySem.Spec PyProof.Rows L2 G
/-- a class whose instances have these fields -/
structure FCls (K : PySem.W.Frag) (C : Addr) (fs : List Str) : Prop where
  cl : Cls K C
  na : ∀ f ∈ fs, NoAttr K C f
theorem FCls.at {K : PySem.W.Frag} {C : Addr} {fs : List Str} {f : Str} (h : FCls K C fs) (m : f ∈ fs) : Cls K C ∧ NoAttr K C f := ⟨h.cl, h.na f m⟩
theorem kfN {κ : Type} [DecidableEq κ] {ks : List κ} {k : κ} (n : Nat) (h : kfind ks k = some n) : kfind ks k = some n := h
theorem d_keep {t : T} {P : T → Prop} (h : P t) : ∃ t1, (t1 = t ∨ ∃ d, t.pub = some d ∧ t1 = .sh d) ∧ P t1 := ⟨t, .inl rfl, h⟩
theorem PutR.at {κ : Type} [DecidableEq κ] {ks : List κ} {xs : List T} {k : κ} {t : T} {n : Nat} (h : kfind ks k = some n) (nd : ks.Nodup) : PutR ks xs k t ks (xs.set n t) := by
  have h1 := (kfind_spec h).1
  refine .old h1 fun m hm => ?_
  exact (List.getElem?_inj (List.getElem?_eq_some_iff.mp hm).1 nd).mp (hm.trans h1.symm)
end E
namespace E
open PySem PySem.Spec PyProof.Rows L2 G
section
variable {K : PySem.W.Frag} {W : Wx}
def fInD (neg : Bool) : Fd := fun ρ as Q => ∃ t1 t2 u1 u2 p1 ps, as = [t1, t2] ∧ Rs ρ t1 u1 ∧ Rs ρ t2 u2 ∧ u1.py = some p1 ∧ u2.py = some (.list ps) ∧ SeqAt.shaped p1 = true ∧ SeqAt.shaped (.list ps) = true ∧ Q (.sh (.bl (if neg then !ps.any (fun z => PyData.eqv z p1) else ps.any fun z => PyData.eqv z p1)))
theorem cd_inD : CbD (r2 (rInD K)) (fInD false) := ⟨fun Γ H σ tv ρ tt vs as Q k e l ⟨t1, t2, u1, u2, p1, p2, ea, h1, h2, e1, e2, s1, s2, hk⟩ q x y ev => by
  subst ea ev
  obtain ⟨r1, r2⟩ := e.two l
  exact ⟨p1, p2, ((Rs.rep e r1 h1).rp e1).dp, ((Rs.rep e r2 h2).rp e2).dp, s1, s2, q _ _ H hk ((e.drop l).push (.bl _))⟩⟩
theorem cd_notInD : CbD (r2 (rNotInD K)) (fInD true) := ⟨fun Γ H σ tv ρ tt vs as Q k e l ⟨t1, t2, u1, u2, p1, p2, ea, h1, h2, e1, e2, s1, s2, hk⟩ q x y ev => by
  subst ea ev
  obtain ⟨r1, r2⟩ := e.two l
  exact ⟨p1, p2, ((Rs.rep e r1 h1).rp e1).dp, ((Rs.rep e r2 h2).rp e2).dp, s1, s2, q _ _ H hk ((e.drop l).push (.bl _))⟩⟩
theorem aug_of_fld {i : Nat} {f : Str} {v : V} {D : Ends} {σ : L2.St} {H : Hp} (h : sFld K (tVar i) (tOp (rI0 fun i j => .int (i + j)) (tFld K (tVar i) f) (tC v)) f D σ H) : sFldAug K (tVar i) (tC v) rAdd f D σ H := by
  obtain ⟨x, e1, a, C, dx, fs, u, rfl, h1, c1, n1, l1, i1, j1, rfl, rfl, y, e2, a', C', dx', fs', rfl, h2, c2, n2, l2, q⟩ := h
  rw [e1] at e2
  cases e2
  rw [h1] at h2
  cases h2
  exact ⟨_, e1, a, C, dx, fs, _, rfl, h1, c1, n1, l1, i1, j1, rfl, rfl, dx, fs, h1, l2, q⟩
theorem rfs_faug {bs : List Nat} {i : Nat} {f : Str} {v : V} {w : WS} (h : RfS bs W (sFld K (tVar i) (tOp (rI0 fun i j => .int (i + j)) (tFld K (tVar i) f) (tC v)) f) w) : RfS bs W (sFldAug K (tVar i) (tC v) rAdd f) w := fun D σ H l => aug_of_fld (h D σ H l)
def tDGet1T (td ty : TE) : TE := tDGet1 td ty
def tDGet2T (td ty tx : TE) : TE := tDGet2 td ty tx
def isDctT (ρ : Env) (t : T) : Prop := ∃ u, Rs ρ t u ∧ ∃ kx, u.dictT = some kx
theorem isDctT.run {Γ : Cg} {H : Hp} {σ : L2.St} {tv : List (Option V)} {ρ : Env} {tt : List T} {v : V} {t : T} (e : En Γ H σ (tv ++ [some v]) ρ (tt ++ [t])) (h : isDctT ρ t) : ∃ a, v = .ref a ∧ IsD H a := by
  obtain ⟨u, hr, ⟨ks, xs⟩, hx⟩ := h
  obtain ⟨a, kvs, rfl, h1, _⟩ := (Rs.rep e e.last hr).dictT hx
  exact ⟨a, rfl, .inr ⟨kvs, h1⟩⟩
theorem valV_noT {κ : Type} [DecidableEq κ] {kvs : List (κ × V)} {k : κ} (h : kfind (kvs.map Prod.fst) k = none) : valV kvs k = none := by
  have h := kfind_none h
  unfold valV
  cases c : kvs.find? (fun kv => decide (kv.1 = k)) with
  | none => rfl
  | some p =>
    have h1 := List.find?_some c
    have h2 := List.mem_of_find?_eq_some c
    exact absurd (List.mem_map.mpr ⟨p, h2, of_decide_eq_true h1⟩) h
def wGet1T (wd wk : WE) : WE := fun χ ρ Q => wd χ ρ fun t ρ1 => isDctT ρ1 t ∧ wk χ ρ1 fun tk ρ2 => ∃ u, Rs ρ2 t u ∧ ∃ ks xs d ky, u.dictT = some (ks, xs) ∧ tk = .sh d ∧ d.keyT = some ky ∧ (∀ n, kfind ks ky = some n → ∃ x y, xs[n]? = some x ∧ t.rdk x n = some y ∧ Q y ρ2) ∧ (kfind ks ky = none → Q (.sh .non) ρ2)
theorem rf_get1T {td ty : TE} {wd wk : WE} (hd : Rf W td wd) (hk : Rf W ty wk) : Rf W (tDGet1T td ty) (wGet1T wd wk) := fun σ H Q ⟨Γ, tv, ρ, tt, χ, Q1, e, h, x, k⟩ => by
  refine hd σ H _ ⟨Γ, tv, ρ, tt, χ, _, e, h, x, fun t ρ1 v1 H1 ⟨h0, h1⟩ e1 => ?_⟩
  obtain ⟨a, rfl, isd⟩ := h0.run e1
  refine ⟨a, rfl, isd, hk σ H1 _ ⟨Γ, _, ρ1, _, χ, _, e1, h1, x.deep e.tl rfl, fun tk ρ2 v2 H2 ⟨u, hr, ks, xs, d, ky, hu, etk, hky, hs, hn⟩ e2 => ?_⟩⟩
  subst etk
  rw [List.append_assoc, List.append_assoc] at e2
  have r1 := e2.entry e.tl (k := 0) rfl rfl
  have r2 := e2.entry e.tl (k := 1) rfl rfl
  cases r2 with
  | sh r2 =>
  obtain ⟨a', kvs, ea', ea, ek, l, kd⟩ := (Rs.rep e2 r1 hr).dictT hu
  cases ea'
  obtain ⟨b, rfl, hb⟩ := r2.keyT hky
  cases c : kfind ks ky with
  | none => exact ⟨none, .inr ⟨kvs, ky, b, ea, rfl, hb, (valV_noT (by rw [ek]; exact c)).symm⟩, k _ ρ2 _ H2 (hn c) ((e2.drop e.tl).push .non)⟩
  | some n =>
    obtain ⟨z, y, hz, hy, h2⟩ := hs n c
    obtain ⟨q, hq⟩ := get_of_len l hz
    obtain ⟨w, d', ew, rfl, rd⟩ := (kd n q z hq hz).rdk hy
    cases ew
    exact ⟨some q.2, .inr ⟨kvs, ky, b, ea, rfl, hb, (valV_kfind (by rw [ek]; exact c) hq).symm⟩, k _ ρ2 _ H2 h2 ((e2.push rd).mid e.tl rfl)⟩
theorem d_get1T {χ : XD} {ρ : Env} {Q : T → Env → Prop} {wd wk : WE} (h : wd χ ρ fun t ρ1 => isDctT ρ1 t ∧ wk χ ρ1 fun tk ρ2 => ∃ u, Rs ρ2 t u ∧ ∃ ks xs d ky, u.dictT = some (ks, xs) ∧ tk = .sh d ∧ d.keyT = some ky ∧ (∀ n, kfind ks ky = some n → ∃ x y, xs[n]? = some x ∧ t.rdk x n = some y ∧ Q y ρ2) ∧ (kfind ks ky = none → Q (.sh .non) ρ2)) : wGet1T wd wk χ ρ Q := h
/-- d.get(k, x), x shared -/
def wGet2T (wd wk wx : WE) : WE := fun χ ρ Q => wd χ ρ fun t ρ1 => isDctT ρ1 t ∧ wk χ ρ1 fun tk ρ2 => wx χ ρ2 fun tx ρ3 => ∃ dx, tx = .sh dx ∧ ∃ u, Rs ρ3 t u ∧ ∃ ks xs d ky, u.dictT = some (ks, xs) ∧ tk = .sh d ∧ d.keyT = some ky ∧ (∀ n, kfind ks ky = some n → ∃ x y, xs[n]? = some x ∧ t.rdk x n = some y ∧ Q y ρ3) ∧ (kfind ks ky = none → Q (.sh dx) ρ3)
theorem rf_get2T {td ty tx : TE} {wd wk wx : WE} (hd : Rf W td wd) (hk : Rf W ty wk) (hx : Rf W tx wx) : Rf W (tDGet2T td ty tx) (wGet2T wd wk wx) := fun σ H Q ⟨Γ, tv, ρ, tt, χ, Q1, e, h, x, k⟩ => by
  refine hd σ H _ ⟨Γ, tv, ρ, tt, χ, _, e, h, x, fun t ρ1 v1 H1 ⟨h0, h1⟩ e1 => ?_⟩
  obtain ⟨a, rfl, isd⟩ := h0.run e1
  refine ⟨a, rfl, isd, hk σ H1 _ ⟨Γ, _, ρ1, _, χ, _, e1, h1, x.deep e.tl rfl, fun tk ρ2 v2 H2 h2 e2 => ?_⟩⟩
  refine hx σ H2 _ ⟨Γ, _, ρ2, _, χ, _, e2, h2, (x.deep e.tl rfl).deep e1.tl rfl, fun tx ρ3 v3 H3 ⟨dx, etx, u, hr, ks, xs, d, ky, hu, etk, hky, hs, hn⟩ e3 => ?_⟩
  subst etk etx
  rw [List.append_assoc, List.append_assoc, List.append_assoc, List.append_assoc] at e3
  have r1 := e3.entry e.tl (k := 0) rfl rfl
  have r2 := e3.entry e.tl (k := 1) rfl rfl
  have r3 := e3.entry e.tl (k := 2) rfl rfl
  cases r2 with
  | sh r2 =>
  cases r3 with
  | sh r3 =>
  obtain ⟨a', kvs, ea', ea, ek, l, kd⟩ := (Rs.rep e3 r1 hr).dictT hu
  cases ea'
  obtain ⟨b, rfl, hb⟩ := r2.keyT hky
  cases c : kfind ks ky with
  | none => exact ⟨none, .inr ⟨kvs, ky, b, ea, rfl, hb, (valV_noT (by rw [ek]; exact c)).symm⟩, k _ ρ3 _ H3 (hn c) ((e3.push r3).mid e.tl rfl)⟩
  | some n =>
    obtain ⟨z, y, hz, hy, h2⟩ := hs n c
    obtain ⟨q, hq⟩ := get_of_len l hz
    obtain ⟨w, d', ew, rfl, rd⟩ := (kd n q z hq hz).rdk hy
    cases ew
    exact ⟨some q.2, .inr ⟨kvs, ky, b, ea, rfl, hb, (valV_kfind (by rw [ek]; exact c) hq).symm⟩, k _ ρ3 _ H3 h2 ((e3.push rd).mid e.tl rfl)⟩
theorem d_get2T {χ : XD} {ρ : Env} {Q : T → Env → Prop} {wd wk wx : WE} (h : wd χ ρ fun t ρ1 => isDctT ρ1 t ∧ wk χ ρ1 fun tk ρ2 => wx χ ρ2 fun tx ρ3 => ∃ dx, tx = .sh dx ∧ ∃ u, Rs ρ3 t u ∧ ∃ ks xs d ky, u.dictT = some (ks, xs) ∧ tk = .sh d ∧ d.keyT = some ky ∧ (∀ n, kfind ks ky = some n → ∃ x y, xs[n]? = some x ∧ t.rdk x n = some y ∧ Q y ρ3) ∧ (kfind ks ky = none → Q (.sh dx) ρ3)) : wGet2T wd wk wx χ ρ Q := h
end
end E
namespace E
open PySem PySem.Spec PyProof.Rows L2 G
theorem d_ltset {i : Nat} {ρ ρ1 : Env} {t : T} {NX : Env → Prop} (h1 : i < ρ.length) (e : ρ.set i t = ρ1) (h : NX ρ1) : i < ρ.length ∧ NX (ρ.set i t) := ⟨h1, e ▸ h⟩
section
variable {K : PySem.W.Frag} {W : Wx}
def tForO (K : PySem.W.Frag) (i : Nat) (g : TG) (tb : TS) : TS := tFor (iList K (tVar i)) g tb
/-- for x in l, l the list in slot i: its items are told by their place -/
def wForO (i : Nat) (wg : WG) (wb : WS) : WS := fun k ρ => ∃ (a : Addr) (n : Nat) (I : Nat → Env → Prop), I 0 ρ ∧
  (∀ j ρ2, I j ρ2 → ∃ xs, ρ2[i]? = some (.lst a xs) ∧ xs.length = n) ∧
  (∀ (j : Nat) (ρ2 : Env) (xs : List T), j < n → I j ρ2 → ρ2[i]? = some (.lst a xs) → ∃ x y, xs[j]? = some x ∧ x.rd i [j] = some y ∧ wg y ρ2 fun ρ3 => wb { k with nx := fun ρ' => ∃ ρ4, Pubs ρ' ρ4 ∧ I (j + 1) ρ4, ct := fun ρ' => ∃ ρ4, Pubs ρ' ρ4 ∧ I (j + 1) ρ4, bk := k.nx } ρ3) ∧ ∀ ρ2, I n ρ2 → k.nx ρ2
theorem rfs_forO {bs : List Nat} {i : Nat} {g : TG} {tb : TS} {wg : WG} {wb : WS} (hg : RfG (fun k => k ∈ bs) g wg) (hb : RfS bs W tb wb) : RfS bs W (tForO K i g tb) (wForO i wg wb) := fun D σ H ⟨Γ, tv, ρ, tt, k, e, ⟨a, n, I, i0, hl, turn, fin⟩, o⟩ => by
  obtain ⟨xs0, hx0, hn0⟩ := hl 0 ρ i0
  obtain ⟨y, hy⟩ := get_of_len e.len hx0
  have r := e.ok.rep i y _ (ap_left hy) (ap_left hx0)
  cases r with
  | @lst _ vs _ e0 l0 kd0 =>
  refine ⟨.ref a, hy, a, rfl, ⟨vs, .inl (.inl e0)⟩, fun j m σ' H' => m = n - j ∧ j ≤ n ∧ ∃ ρ', I j ρ' ∧ Pn bs σ σ' ∧ En Γ H' σ' tv ρ' tt, ⟨n, by simp, Nat.zero_le _, ρ, i0, .refl _ _, e⟩, ?_⟩
  rintro j m σ' H' ⟨rfl, hjl, ρ', hI, hp, e2⟩
  obtain ⟨xs, hx, hn⟩ := hl j ρ' hI
  obtain ⟨y', hy'⟩ := get_of_len e2.len hx
  have r2 := e2.ok.rep i y' _ (ap_left hy') (ap_left hx)
  cases r2 with
  | @lst _ ws _ h2 l2 kd2 =>
  by_cases hlt : j < n
  · obtain ⟨x, yv, hxj, hrd, ht⟩ := turn j ρ' xs hlt hI hx
    refine .inr ⟨⟨ws, ws[j]'(by omega), .inl (.inl h2), List.getElem?_eq_getElem _⟩, fun σ2 H2 => ∃ ρ2, I (j + 1) ρ2 ∧ Pn bs σ σ2 ∧ En Γ H2 σ2 tv ρ2 tt, fun σ2 H2 ⟨ρ2, h2, p2, e3⟩ => ⟨n - (j + 1), by omega, rfl, hlt, ρ2, h2, p2, e3⟩, fun x' H2 yy => ?_⟩
    obtain ⟨rfl, hy3⟩ := yy
    have hw := hy3 ws (.inl (.inl h2))
    obtain ⟨v, d, ev, rfl, rd⟩ := (kd2 j x' x hw hxj).rd hrd
    cases ev
    refine hg Γ H2 σ' tv ρ' tt _ (.sh d) _ _ (e2.push rd) e.tl ht fun ρ3 σ3 H3 h3 p3 _ e4 => ?_
    have p3' : Pn bs σ σ3 := hp.trans fun j hj => p3 j hj
    refine hb _ σ3 H3 ⟨Γ, _, ρ3, _, _, e4, h3, ?_⟩
    exact ⟨fun ρ4 σ4 H4 ⟨ρ5, pb, h4⟩ p4 e5 => ⟨ρ5, h4, p3'.trans p4, e5.pubs pb⟩, fun t ρ4 v σ4 H4 h4 p4 e5 => o.rt t ρ4 v σ4 H4 h4 (p3'.trans p4) e5, fun ρ4 σ4 H4 h4 p4 e5 => o.nx ρ4 σ4 H4 h4 (p3'.trans p4) e5, fun ρ4 σ4 H4 ⟨ρ5, pb, h4⟩ p4 e5 => ⟨ρ5, h4, p3'.trans p4, e5.pubs pb⟩, fun C d fl ds ρ4 σ4 H4 h4 p4 e5 => o.xc C d fl ds ρ4 σ4 H4 h4 (p3'.trans p4) e5, o.cal⟩
  · have : j = n := by omega
    subst this
    exact .inl ⟨⟨ws, .inl (.inl h2), by omega⟩, o.nx ρ' σ' H' (fin ρ' hI) hp e2⟩
end
end E
namespace G
open PySem PySem.Spec PyProof.Rows L2
section
variable {X : Cx}
def rSortST (K : PySem.W.Frag) : TC := fun vs H Q => ∃ (a : Addr) (xs : List Str), vs = [V.ref a] ∧ SqT K H a (xs.map V.str) ∧ xs.length < 64 ∧ ∀ (ys : List Str) (p : Addr), ys.Perm xs → sortedS ys = true → H p = none → Q (.ref p) (upd H p (.lst (ys.map V.str)))
end
end G
namespace E
open PySem PySem.Spec PyProof.Rows L2 G
section
variable {K : PySem.W.Frag} {W : Wx}
def fSortT : Fd := fun ρ as Q => ∃ t, as = [t] ∧ ∃ u, Rs ρ t u ∧ ∃ zs : List Str, u.tupK = some (zs.map fun z => T.sh (.str z)) ∧ zs.length < 64 ∧ ∀ (ys : List Str) (a : Addr), ys.Perm zs → sortedS ys = true → Q (.lst a (ys.map fun z => T.sh (.str z)))
theorem cd_sortT : CbD (rSortST K) fSortT := ⟨fun Γ H σ tv ρ tt vs as Q k e l ⟨t, ea, u, hr, zs, hs, h64, hk⟩ q => by
  subst ea
  obtain ⟨v, rfl⟩ := e.vs1 l
  obtain ⟨a, ws, rfl, h1, h2, kd⟩ := (Rs.rep e e.one hr).tupK hs
  obtain ⟨h3, _⟩ := svs_eq (svs_strs zs) h2 kd
  subst h3
  refine ⟨a, zs, rfl, .inl (.inl h1), h64, fun ys p hp1 hp2 hp => q _ _ _ (hk ys p hp1 hp2) (e.newN l hp .lst (by simp [T.kids]) fun j v t q1 q2 => ?_)⟩
  simp only [T.kids] at q2
  obtain ⟨z, e1, rfl⟩ := get_map q2
  obtain ⟨z', e2, rfl⟩ := get_map q1
  rw [e1] at e2
  cases e2
  exact ⟨_, rfl, .str z⟩⟩
def wMake0 (C : Addr) (S : SpecD) (wr : WA) : WE := fun χ ρ Q => wr χ ρ fun ts ρ1 => ∀ a, ∃ ρ2 ts2 ls, LendL ρ1 ts ρ2 ts2 ls ∧ S (.obj a C [] [] :: ts2) (fun t us => t = .sh .non ∧ ∃ u us' ρ3, us = u :: us' ∧ BackL ρ2 ls us' ρ3 ∧ Q u ρ3) (fun C fl ds us => ∃ u us' ρ3, us = u :: us' ∧ BackL ρ2 ls us' ρ3 ∧ noX C fl ds ρ3)
theorem rf_mk0 {c : Bool} {C : Addr} {S : SpecD} {t : TA} {wr : WA} (hc : c = true → W.c = true) (hr : RfA W t wr) : Rf W (tMk C (spD c S) E0 t) (wMake0 C S wr) := fun σ H Q ⟨Γ, tv, ρ, tt, χ, Q1, e, h, x, k⟩ => by
  refine hr σ H _ ⟨Γ, tv, ρ, tt, χ, _, e, h, x, fun ts ρ1 vs H1 h1 e1 => ?_⟩
  intro p dx hp hdx ne
  obtain ⟨ρ2, ts2, ls, hl, s⟩ := h1 p
  obtain ⟨e2, ll, g⟩ := hl.run e1 e.tl
  have lv := e2.tlen e.tl
  have e3 : Ok Γ (upd (upd H1 dx (.own p)) p (.ins C dx [])) ((σ ++ (tv ++ vs.map some)) ++ [some (.ref p)]) ((ρ2 ++ (tt ++ ts2)) ++ [.obj p C [] []]) := by
    refine Ok.alloc (ys := []) (us := []) (u := .obj p C [] []) (vs := []) (by rw [List.append_nil, List.append_nil]; exact e2.ok) e2.ok.len hp (fun a o z => ?_) (fun a z => ?_) (fun a o kvs z => nofrz (by intro o kvs z; cases z) a o kvs (nofrz (by intro o kvs z; cases z) a o kvs z)) (.obj (fvs := [])) upd_same rfl (fun b => Nat.le_refl _) (fun j v t h2 => by simp at h2)
    · rw [upd_ne (ne_of_none z hp), upd_ne (ne_of_none z hdx)]; exact z
    · by_cases q : a = p
      · rw [q]; exact hp
      · rw [upd_ne q] at z
        by_cases q2 : a = dx
        · rw [q2]; exact hdx
        · rw [upd_ne q2] at z; exact z
  have e4 : En Γ (upd (upd H1 dx (.own p)) p (.ins C dx [])) σ (tv ++ (V.ref p :: vs).map some) ρ2 (tt ++ (.obj p C [] [] :: ts2)) := by
    refine .of (Ok.rot (ys := vs.map some) (us := ts2) ?_ (e2.l2 lv) lv) e2.len
    simpa only [List.append_assoc] using e3
  show spD c S (V.ref p :: (vs ++ [])) _ _ E0
  rw [List.append_nil]
  refine call_run e4 e.tl (fun z => x.1 (hc z)) s (fun t us v H' ⟨et, u, us', ρ3, eu, b, q⟩ e5 => ?_) (fun C' d fl ds us H' ⟨u, us', ρ3, eu, b, q⟩ e5 => ?_)
  · subst et eu
    have e5' : En Γ H' σ ((tv ++ [some (.ref p)]) ++ (vs.map some ++ [some v])) ρ2 ((tt ++ [u]) ++ (us' ++ [.sh .non])) := by simpa only [List.append_assoc, List.map_cons, List.cons_append, List.nil_append] using e5
    have lu : (vs.map some).length = us'.length := by have := e5'.tlen (by simp [e.tl]); simpa using this
    have e6 := b.run e5' (by simp [e.tl]) lu g
    have rv := e6.last
    cases rv with
    | sh rv =>
    cases rv
    exact ⟨rfl, k u ρ3 _ H' q (e6.drop (by simp [e.tl]))⟩
  · subst eu
    have e5' : En Γ H' σ ((tv ++ [some (.ref p)]) ++ (vs.map some ++ [some (.ref 0)])) ρ2 ((tt ++ [u]) ++ (us' ++ [.sh (.exc C' d fl ds)])) := by simpa only [List.append_assoc, List.map_cons, List.cons_append, List.nil_append] using e5
    have lu : (vs.map some).length = us'.length := by have := e5'.tlen (by simp [e.tl]); simpa using this
    have e6 := b.run e5' (by simp [e.tl]) lu g
    exact q.elim
theorem d_make0 {χ : XD} {ρ : Env} {Q : T → Env → Prop} {C : Addr} {S : SpecD} {wr : WA} (h : wr χ ρ fun ts ρ1 => ∀ a, ∃ ρ2 ts2 ls, LendL ρ1 ts ρ2 ts2 ls ∧ S (.obj a C [] [] :: ts2) (fun t us => t = .sh .non ∧ ∃ u us' ρ3, us = u :: us' ∧ BackL ρ2 ls us' ρ3 ∧ Q u ρ3) (fun C fl ds us => ∃ u us' ρ3, us = u :: us' ∧ BackL ρ2 ls us' ρ3 ∧ noX C fl ds ρ3)) : wMake0 C S wr χ ρ Q := h
end
end E
namespace E
open PySem PySem.Spec PyProof.Rows L2 G
theorem u70 {j : Nat} {A : Around} (h : Room j A) : A.units + 70 < cLine := by have := h.un; omega
/-- the law: at every script of at most 63 ints it gives True -/
def sLaw : SpecD := fun ts Q _ => ∃ ns : List Int, ts = [.sh (.scr ns)] ∧ ns.length ≤ 63 ∧ Q (.sh (.bl true)) [.no]
/-- no list stands in what is known of the top -/
def NoLst (K : PySem.W.Frag) : Prop := ∀ a o, K.lookup a = some o → o.cls ≠ .type "list"
theorem law_sp {K : PySem.W.Frag} (hN : NoLst K) {H : Hp} {a : Addr} {ns : List Int} (hl : ns.length ≤ 63) (hO : Only H) (hS : SqL K H a (ns.map V.int)) : spD true sLaw [.ref a] H (fun v _ => v = .bl true) fun _ _ _ => False := by
  have hr : Rd H a (.lst (ns.map V.int)) := by
    rcases hS with h | ⟨o, its, n, hk, hc, _⟩
    · exact h
    · exact absurd hc (hN a o hk)
  refine ⟨fun _ => True, fun _ => False, [.sh (.scr ns)], fun t us => t = .sh (.bl true), fun _ _ _ _ => False, fun _ b o kvs e => ?_, ?_, ⟨ns, rfl, hl, rfl⟩, fun t us v H' e ok => ?_, fun _ _ _ _ _ _ h => h.elim⟩
  · rcases hO b with h | ⟨o', xs, h⟩ <;> rw [h] at e <;> cases e
  · have ow : ownsL [T.sh (.scr ns)] = [] := by rw [ownsL_cons, T.owns, ownsL_nil]; rfl
    refine ⟨rfl, fun k x t h1 h2 => ?_, fun b => ?_, fun b m => ?_, .refl _, fun _ _ _ z => z⟩
    · match k, h1, h2 with
      | 0, h1, h2 =>
        cases h1
        cases h2
        exact .sh (.scr hr ⟨.inl (.inl trivial), by rw [ow]; exact List.not_mem_nil⟩)
      | k + 1, h1, h2 => simp at h2
    · rw [ow]; exact Nat.zero_le _
    · rw [ow] at m; cases m
  · subst e
    have hl2 := ok.len
    have l1 : us.length = 1 := by simpa using hl2.symm
    have r := ok.rep us.length (some v) (.sh (.bl true)) (by rw [l1]; rfl) (by simp)
    cases r with
    | sh r => cases r; rfl
section
variable {K : PySem.W.Frag} {W : Wx}
def iListP (K : PySem.W.Frag) (ta : TE) : TI := iList K ta
def wiListP (wa : WE) : WI := fun χ ρ Q => wa χ ρ fun t ρ1 => ∃ ds, t.pub = some (.lst ds) ∧ Q (ds.map T.sh) (fun _ => True) ρ1
theorem rfi_listP {ta : TE} {wa : WE} (ha : Rf W ta wa) : RfI W (iListP K ta) (wiListP wa) := fun σ H Rr ⟨Γ, tv, ρ, tt, χ, Q1, e, h, x, k⟩ => by
  refine ha σ H _ ⟨Γ, tv, ρ, tt, χ, _, e, h, x, fun t ρ1 v H1 ⟨ds, hp, h1⟩ e0 => ?_⟩
  have e1 := e0.pubT e.tl hp
  have hu : (T.sh (.lst ds)).lstK = some (ds.map T.sh) := rfl
  have hs := allSh_map ds
  have hr : ∀ ρ : Env, Rs ρ (.sh (.lst ds)) (.sh (.lst ds)) := fun _ => rfl
  obtain ⟨a, vs, rfl, ea, l, kd⟩ := (Rs.rep e1 e1.last (hr _)).lstK hu
  refine ⟨a, rfl, ⟨vs, .inl (.inl ea)⟩, k _ _ ρ1 H1 (Itl K a) [some (.ref a)] [.sh (.lst ds)] h1 e1 rfl ⟨fun i H σ ρ hi _ e2 => ?_, fun H σ ρ _ e2 => ?_, fun i H σ ρ y H' zs ws' hi _ e2 hy => ?_⟩⟩
  · obtain ⟨a', ws, ea', h2, l2, _⟩ := (Rs.rep e2 e2.last (hr _)).lstK hu
    cases ea'
    rw [List.length_map] at hi l2
    exact ⟨ws, ws[i]'(by omega), .inl (.inl h2), List.getElem?_eq_getElem _⟩
  · obtain ⟨a', ws, ea', h2, l2, _⟩ := (Rs.rep e2 e2.last (hr _)).lstK hu
    cases ea'
    exact ⟨ws, .inl (.inl h2), by omega⟩
  · obtain ⟨a', ws, ea', h2, l2, kd2⟩ := (Rs.rep e2 (e2.entry e.tl (k := 0) rfl rfl) (hr _)).lstK hu
    cases ea'
    obtain ⟨rfl, hy⟩ := hy
    obtain ⟨d, hd, rd⟩ := sh_item hs l2 kd2 (hy ws (.inl (.inl h2)))
    exact ⟨.sh d, map_get hd, e2.push rd⟩
theorem d_iListP {χ : XD} {ρ : Env} {wa : WE} {q : List T → (Env → Prop) → Env → Prop} (h : wa χ ρ fun t ρ1 => ∃ ds, t.pub = some (.lst ds) ∧ q (ds.map T.sh) (fun _ => True) ρ1) : wiListP wa χ ρ q := h
theorem d_slL {χ : XD} {ρ : Env} {Q : T → Env → Prop} {wa : WE} {w1 w2 : WO} (h : wa χ ρ fun t ρ1 => w1 χ ρ1 fun lo ρ2 => w2 χ ρ2 fun hi ρ3 => ∃ u, Rs ρ3 t u ∧ ∃ xs ds, u.lstQ = some xs ∧ allSh xs = some ds ∧ ∀ a, Q (.lst a ((cutL ds lo hi).map T.sh)) ρ3) : wSlL wa w1 w2 χ ρ Q := h
theorem cutL_take {α : Type} (xs : List α) (k : Nat) : cutL xs none (some (k : Int)) = xs.take k := by
  unfold cutL HT.sIx
  have e : ¬ ((k : Int) < 0) := by omega
  simp only [if_neg e, List.drop_zero, Nat.sub_zero, Int.toNat_natCast]
  rw [List.take_eq_take_iff]
  omega
end
end E
namespace E
open PySem PySem.Spec PyProof.Rows L2 G
/-- u, a dict of one's own at a with shared values -/
structure Dk (u : T) (a : Addr) (ho : HO) (vals : List V) (ds : List D) : Prop where
  ow : u.owns = [a]
  ln : vals.length = ds.length
  nf : ∀ o kvs, ho ≠ .frz o kvs
  nt : ∀ ws, ho ≠ .tup ws
  rp : ∀ (H : Hp) (A : Addr → Prop), H a = some ho → (∀ (k : Nat) (v : V) (d : D), vals[k]? = some v → ds[k]? = some d → RD H A v d) → R H A (some (.ref a)) u
section
variable {Γ : Cg} {H : Hp} {xs : List (Option V)} {ts : List T} {u : T} {a : Addr} {ho : HO} {vals : List V} {ds : List D}
abbrev lkA (Γ : Cg) (H : Hp) (a : Addr) (od : Obj) (ho : HO) (F G : List Addr) : Cg := ⟨L2.upd H a (.frz od ho), Av Γ F, fun b => b ∈ G⟩
theorem get_app1 {α : Type} {l m : List α} {x : α} {k : Nat} {y : α} (h : (l ++ x :: m)[k]? = some y) : l[k]? = some y ∨ (k = l.length ∧ y = x) ∨ ∃ j, k = l.length + (j + 1) ∧ m[j]? = some y := by
  rcases ap_cases h with h1 | ⟨j, rfl, h1⟩
  · exact .inl h1
  · cases j with
    | zero => exact .inr (.inl ⟨rfl, (Option.some.inj h1).symm⟩)
    | succ j => exact .inr (.inr ⟨j, rfl, h1⟩)
theorem Ok.lockA (ok : Ok Γ H (xs ++ [some (.ref a)]) (ts ++ [u])) (l : xs.length = ts.length) (dk : Dk u a ho vals ds) (hd : H a = some ho) (hv : ∀ (k : Nat) (v : V) (d : D), vals[k]? = some v → ds[k]? = some d → RD H (Av Γ (ownsL (ts ++ [u]))) v d) (od : Obj) :
    Ok (lkA Γ H a od ho (ownsL (ts ++ [u])) (ownsL ts)) (L2.upd H a (.frz od ho)) (xs ++ some (.ref a) :: vals.map some) (ts ++ T.sh (.at a 0 []) :: ds.map T.sh) := by
  have eo : ownsL (ts ++ T.sh (.at a 0 []) :: ds.map T.sh) = ownsL ts := by rw [ownsL_append, ownsL_cons, T.owns, ownsL_sh]; simp
  have eo2 : ownsL (ts ++ [u]) = ownsL ts ++ [a] := by rw [ownsL_append, ownsL_one, dk.ow]
  have na : a ∉ ownsL ts := fun m => by
    have h1 := ok.nd a
    rw [eo2, cn_app] at h1
    have h2 := cn_mem.mp m
    have h3 : cn a [a] = 1 := by simp [cn]
    omega
  have kp : ∀ b o, Av Γ (ownsL (ts ++ [u])) b → H b = some o → Kp H (L2.upd H a (.frz od ho)) b ∧ Av (lkA Γ H a od ho (ownsL (ts ++ [u])) (ownsL ts)) (ownsL ts) b := fun b o av h => by
    have hb : b ≠ a := fun z => av.2 (by rw [eo2, z]; simp)
    exact ⟨.of h (by rw [upd_ne hb]; exact h), .inl (.inl av), fun m => av.2 (by rw [eo2]; exact List.mem_append_left _ m)⟩
  refine ⟨by simp [l, dk.ln], fun k x t h1 h2 => ?_, fun b => ?_, fun b m => .inl (by rw [eo] at m; exact m), .refl _, fun _ _ _ z => z⟩
  · rw [eo]
    rcases get_app1 h1 with h3 | ⟨rfl, rfl⟩ | ⟨j, rfl, h3⟩
    · have hk := (List.getElem?_eq_some_iff.mp h3).1
      rw [List.getElem?_append_left (by omega)] at h2
      refine (ok.rep k x t (ap_left h3) (ap_left h2)).mono kp fun b o m h => ?_
      rw [upd_ne (fun z => na (by rw [← z]; exact mem_ownsL h2 m))]
      exact h
    · rw [l, List.getElem?_append_right (by omega), Nat.sub_self] at h2
      cases h2
      exact .sh (.at a 0 [])
    · rw [l, List.getElem?_append_right (by omega), Nat.add_sub_cancel_left] at h2
      have h2 : (ds.map T.sh)[j]? = some t := by simpa using h2
      obtain ⟨v, hv1, rfl⟩ := get_map h3
      obtain ⟨d, hd1, rfl⟩ := get_map h2
      exact .sh ((hv j v d hv1 hd1).mono kp)
  · rw [eo]
    have := ok.nd b
    rw [eo2, cn_app] at this
    omega
theorem Ok.unlockA {H2 : Hp} {xs2 : List (Option V)} {ts2 : List T} (ok : Ok Γ H (xs ++ [some (.ref a)]) (ts ++ [u])) (dk : Dk u a ho vals ds) (hd : H a = some ho) {od : Obj}
    (ok2 : Ok (lkA Γ H a od ho (ownsL (ts ++ [u])) (ownsL ts)) H2 xs2 ts2) (hv : ∀ (k : Nat) (v : V) (d : D), vals[k]? = some v → ds[k]? = some d → ∃ j : Nat, xs2[j]? = some (some v) ∧ ts2[j]? = some (T.sh d)) :
    H2 a = some (.frz od ho) ∧ Ok Γ (L2.upd H2 a ho) (xs2 ++ [some (.ref a)]) (ts2 ++ [u]) := by
  have eo2 : ownsL (ts ++ [u]) = ownsL ts ++ [a] := by rw [ownsL_append, ownsL_one, dk.ow]
  have ao : a ∈ ownsL (ts ++ [u]) := by rw [eo2]; simp
  have na : a ∉ ownsL ts := fun m => by
    have h1 := ok.nd a
    rw [eo2, cn_app] at h1
    have h2 := cn_mem.mp m
    have h3 : cn a [a] = 1 := by simp [cn]
    omega
  have h0 : (lkA Γ H a od ho (ownsL (ts ++ [u])) (ownsL ts)).H0 a = some (.frz od ho) := upd_same
  have hd2 : H2 a = some (.frz od ho) := ok2.fr.keep a _ h0 na
  have na2 : a ∉ ownsL ts2 := fun m => by
    rcases ok2.new a m with z | z
    · exact na z
    · rw [h0] at z; cases z
  have e2 : ownsL (ts2 ++ [u]) = ownsL ts2 ++ [a] := by rw [ownsL_append, ownsL_one, dk.ow]
  have inA : ∀ b, (lkA Γ H a od ho (ownsL (ts ++ [u])) (ownsL ts)).H0 b = none → H b = none := fun b z => by
    have z : L2.upd H a (.frz od ho) b = none := z
    by_cases c : b = a
    · subst c; rw [upd_same] at z; cases z
    · rw [upd_ne c] at z; exact z
  have kp : ∀ b o, Av (lkA Γ H a od ho (ownsL (ts ++ [u])) (ownsL ts)) (ownsL ts2) b → H2 b = some o → Kp H2 (L2.upd H2 a ho) b ∧ Av Γ (ownsL (ts2 ++ [u])) b := fun b o av h => by
    have key : b ≠ a ∧ ((Γ.A0 b ∨ ∃ vs, Γ.H0 b = some (.tup vs)) ∨ Γ.H0 b = none ∨ Γ.S b) := by
      rcases av.1 with (z | ⟨ws, z⟩) | z | z
      · exact ⟨fun e => z.2 (by rw [e]; exact ao), z.1⟩
      · have z : L2.upd H a (.frz od ho) b = some (.tup ws) := z
        by_cases c : b = a
        · subst c; rw [upd_same] at z; cases z
        · rw [upd_ne c] at z; exact ⟨c, (ok.avT z).1⟩
      · exact ⟨(fun e => by rw [e, h0] at z; cases z), .inr (.inl (ok.fr.free b (inA b z)))⟩
      · exact ⟨fun e => na (by rw [← e]; exact z), (ok.new b (by rw [eo2]; exact List.mem_append_left _ z)).elim (fun z => .inr (.inr z)) fun z => .inr (.inl z)⟩
    refine ⟨.of h (by rw [upd_ne key.1]; exact h), key.2, fun m => ?_⟩
    rw [e2] at m
    rcases List.mem_append.mp m with m | m
    · exact av.2 m
    · exact key.1 (by simpa using m)
  refine ⟨hd2, ⟨by simp [ok2.len], fun k x t h1 h2 => ?_, fun b => ?_, fun b m => ?_, ⟨fun b o h n => ?_, fun b h => ?_⟩, fun b o kvs h => ?_⟩⟩
  · rcases get_app1 h1 with h3 | ⟨rfl, rfl⟩ | ⟨j, rfl, h3⟩
    · have hk := (List.getElem?_eq_some_iff.mp h3).1
      rw [List.getElem?_append_left (by rw [← ok2.len]; exact hk)] at h2
      refine (ok2.rep k x t h3 h2).mono kp fun b o m h => ?_
      rw [upd_ne (fun z => na2 (by rw [← z]; exact mem_ownsL h2 m))]
      exact h
    · rw [ok2.len, List.getElem?_append_right (by omega), Nat.sub_self] at h2
      cases h2
      refine dk.rp _ _ upd_same fun k v d h1 h2 => ?_
      obtain ⟨j, j1, j2⟩ := hv k v d h1 h2
      have r := ok2.rep j _ _ j1 j2
      cases r with
      | sh r => exact r.mono kp
    · simp at h3
  · rw [e2, cn_app]
    have h1 := ok2.nd b
    by_cases c : b = a
    · subst c
      have := cn_no.mp na2
      have h3 : cn b [b] = 1 := by simp [cn]
      omega
    · have h3 : cn b [a] = 0 := cn_no.mp (by simpa using c)
      omega
  · rw [e2] at m
    rcases List.mem_append.mp m with m | m
    · rcases ok2.new b m with z | z
      · exact ok.new b (by rw [eo2]; exact List.mem_append_left _ z)
      · exact .inr (ok.fr.free b (inA b z))
    · have : b = a := by simpa using m
      subst this
      exact ok.new b ao
  · have hb := ok.fr.keep b o h n
    have hne : b ≠ a := fun c => by
      subst c
      rcases ok.new b ao with z | z
      · exact n z
      · rw [h] at z; cases z
    rw [upd_ne hne]
    refine ok2.fr.keep b o (show L2.upd H a (.frz od ho) b = some o by rw [upd_ne hne]; exact hb) fun m => ?_
    rcases ok.new b (by rw [eo2]; exact List.mem_append_left _ m) with z | z
    · exact n z
    · rw [h] at z; cases z
  · by_cases c : b = a
    · subst c; rw [upd_same] at h; cases h
    · rw [upd_ne c] at h
      exact ok.fr.free b (inA b (ok2.fr.free b h))
  · by_cases c : b = a
    · subst c
      rw [upd_same] at h
      exact absurd (Option.some.inj h) (dk.nf o _)
    · rw [upd_ne c] at h
      have z := ok2.nf b o kvs h
      have z : L2.upd H a (.frz od ho) b = some (.frz o (.dK kvs)) := z
      rw [upd_ne c] at z
      exact ok.nf b o kvs z
theorem dk_dT {H : Hp} {A : Addr → Prop} {a : Addr} {ks : List (List Key)} {ds : List D} {y : Option V} (r : R H A y (.dT a ks (ds.map T.sh))) : y = some (.ref a) ∧ ∃ kvs : List (List Key × V), H a = some (.dT kvs) ∧ kvs.map Prod.fst = ks ∧ Dk (.dT a ks (ds.map T.sh)) a (.dT kvs) (kvs.map Prod.snd) ds ∧ ∀ (k : Nat) (v : V) (d : D), (kvs.map Prod.snd)[k]? = some v → ds[k]? = some d → RD H A v d := by
  cases r with
  | @dT _ kvs _ h l kd =>
  rw [List.length_map] at l
  refine ⟨rfl, kvs, h, rfl, ⟨by rw [T.owns, ownsL_sh], by rw [List.length_map]; exact l, (fun _ _ z => by cases z), (fun _ z => by cases z), fun H' A' h' hv => ?_⟩, fun k v d h1 h2 => ?_⟩
  · refine .dT h' (by rw [List.length_map]; exact l) fun k p t h1 h2 => ?_
    obtain ⟨d, hd, rfl⟩ := get_map h2
    exact .sh (hv k p.2 d (map_get h1) hd)
  · obtain ⟨p, hp, rfl⟩ := get_map h1
    exact (kd k p (.sh d) hp (map_get h2)).un
end
section
theorem wipeE_ne {ρ : Env} {i : Nat} : ∀ {vs : List Nat}, i ∉ vs → (wipeE ρ vs)[i]? = ρ[i]?
  | [], _ => rfl
  | v :: vs, h => by
    have h1 : v ≠ i := fun e => h (by rw [e]; exact List.mem_cons_self)
    rw [wipeE, List.getElem?_set_ne h1, wipeE_ne fun m => h (List.mem_cons_of_mem _ m)]
theorem pt_slot {ρ : Env} {i : Nat} {t w : T} (h : ρ[i]? = some t) : gt ρ i [] = some t ∧ pt ρ i [] w = ρ.set i w := by
  refine ⟨by unfold gt; rw [h]; rfl, ?_⟩
  unfold pt
  rw [h]
  show ρ.set i (T.put t [] w) = _
  unfold T.put
  rfl
variable {K : PySem.W.Frag} {W : Wx}
def tLockT (t : TE) : TE := tLockE t
/-- [elt for x in d], d one's own, with tuples as keys -/
def wLcT (i : Nat) (g : WG) (wt : WT) (we : WE) (vs : List Nat) : WE := fun χ ρ Q => ∃ (a : Addr) (ks : List (List Key)) (ds : List D), ρ[i]? = some (.dT a ks (ds.map T.sh)) ∧ ∃ I : Nat → Env → List T → Prop, I 0 (wipeE (ρ.set i (.sh (.at a i []))) vs) [] ∧ (∀ j ρ2 acc, I j ρ2 acc → ρ2[i]? = some (.sh (.at a i [])) ∧ acc.length < 10000) ∧
  (∀ (j : Nat) (ky : List Key) (ρ2 : Env) (acc : List T), ks[j]? = some ky → I j ρ2 acc → g (.sh (.tup (ky.map kD))) ρ2 fun ρ3 => wt noX ρ3 fun b ρ4 => if b = true then we noX ρ4 fun y ρ5 => ∃ y', PubT y y' ∧ I (j + 1) (wipeE ρ5 vs) (acc ++ [y']) else I (j + 1) (wipeE ρ4 vs) acc) ∧ ∀ ρ2 acc, I ks.length ρ2 acc → ∀ b, Q (.lst b acc) ((wipeE ρ2 vs).set i (.dT a ks (ds.map T.sh)))
theorem rf_lcT {i : Nat} {g : TG} {tt' : TT} {te : TE} {vs : List Nat} {wg : WG} {wt : WT} {we : WE} (hv : i ∉ vs) (hg : RfG (fun k => k ∉ vs) g wg) (ht : RfT (W0 false) tt' wt) (he : Rf (W0 false) te we) : Rf W (tLockT (tLc (iKeys (tVar i)) g tt' te vs)) (wLcT i wg wt we vs) := fun σ H Q ⟨Γ, tv, ρ, tt, χ, Q1, e, ⟨a, ks, ds, hi, I, i0, hP, turn, fin⟩, x, k⟩ => by
  obtain ⟨y, hy⟩ := get_of_len e.len hi
  have r := e.ok.rep i y _ (ap_left hy) (ap_left hi)
  obtain ⟨rfl, _⟩ := dk_dT r
  have e1 := e.push (v := .ref a) (d := .at a i []) (.at a i [])
  obtain ⟨e2, _, _⟩ := (LendL.lend (i := i) (p := []) (pt_slot hi (w := .no)).1 rfl (.nil _)).run e1 e.tl
  rw [(pt_slot hi).2] at e2
  have ok1 : Ok Γ H ((σ ++ tv) ++ [some (.ref a)]) ((ρ.set i (.sh (.at a i [])) ++ tt) ++ [.dT a ks (ds.map T.sh)]) := by simpa only [List.append_assoc] using e2.ok
  have r2 := e2.last
  obtain ⟨_, kvs, hd, ek, dk, hv2⟩ := dk_dT r2
  have lp := e.tl
  have le : (ρ.set i (.sh (.at a i []))).length = ρ.length := List.length_set
  have la : (σ ++ tv).length = (ρ.set i (.sh (.at a i [])) ++ tt).length := by rw [List.length_append, List.length_append, le, e.len, lp]
  have lks : kvs.length = ks.length := by rw [← ek, List.length_map]
  refine ⟨a, .dT kvs, hd, True.intro, fun od => ?_⟩
  have ok3 := ok1.lockA la dk hd (by simpa only [List.append_assoc] using hv2) od
  have fz : ∀ {H2 : Hp} {xs2 : List (Option V)} {ts2 : List T}, Ok (lkA Γ H a od (.dT kvs) (ownsL ((ρ.set i (.sh (.at a i [])) ++ tt) ++ [.dT a ks (ds.map T.sh)])) (ownsL (ρ.set i (.sh (.at a i [])) ++ tt))) H2 xs2 ts2 → H2 a = some (.frz od (.dT kvs)) := fun ok2 => ok2.fr.keep a _ upd_same fun m => by
    have h1 := ok1.nd a
    rw [ownsL_append, ownsL_one, dk.ow, cn_app] at h1
    have h2 := cn_mem.mp m
    have h3 : cn a [a] = 1 := by simp [cn]
    omega
  refine ⟨.ref a, hy, a, od, rfl, .inr ⟨kvs, upd_same, ?_⟩⟩
  have wk : Wk (lkA Γ H a od (.dT kvs) (ownsL ((ρ.set i (.sh (.at a i [])) ++ tt) ++ [.dT a ks (ds.map T.sh)])) (ownsL (ρ.set i (.sh (.at a i [])) ++ tt))) tv (some (.ref a) :: (kvs.map Prod.snd).map some) tt (.sh (.at a 0 []) :: ds.map T.sh) (fun _ => True) (Itkt a od kvs) (ks.map fun ky => .sh (.tup (ky.map kD))) := by
    refine ⟨fun j H' σ' ρ' hj _ e2 => ?_, fun H' σ' ρ' _ e2 => ?_, fun j H' σ' ρ' yv H'' zs ws hj _ e2 hy2 => ?_⟩
    · rw [List.length_map] at hj
      exact ⟨fz e2.ok, by omega⟩
    · rw [List.length_map]
      exact ⟨fz e2.ok, by omega⟩
    · obtain ⟨rfl, ky, vv, q, hkv, rfl, hq⟩ := hy2
      refine ⟨.sh (.tup (ky.map kD)), map_get (by rw [← ek]; exact map_get hkv), e2.push (.tup hq (e2.ok.avT hq) (by rw [List.length_map, List.length_map]) fun n v d h1 h2 => ?_)⟩
      obtain ⟨z, hz, rfl⟩ := get_map h1
      obtain ⟨z', hz', rfl⟩ := get_map h2
      rw [hz] at hz'
      cases hz'
      exact kD_rd z
  refine lcCore hg ht he (P := fun _ => True) (I := I) (xv := some (.ref a) :: (kvs.map Prod.snd).map some) (xt := .sh (.at a 0 []) :: ds.map T.sh) (ρ1 := ρ.set i (.sh (.at a i []))) (Qd := fun D H2 => H2 a = some (.frz od (.dT kvs)) ∧ Q (.ref D) (upd H2 a (.dT kvs))) (fun z => nomatch z) e.tl (by simp [← dk.ln]) i0 (fun j ρ2 acc h => ⟨True.intro, (hP j ρ2 acc h).2⟩) (fun j t ρ2 acc ht hI => ?_) ⟨by simpa only [List.append_assoc] using ok3, by rw [le, e.len]⟩ wk fun Dd H2 ρ2 acc hI e3 => ?_
  · obtain ⟨ky, hky, rfl⟩ := get_map ht
    exact turn j ky ρ2 acc hky hI
  · rw [List.length_map] at hI
    have l2 : (wipeE ρ2 vs).length = σ.length := e3.len.symm
    have hvv : ∀ (n : Nat) (v : V) (d : D), (kvs.map Prod.snd)[n]? = some v → ds[n]? = some d → ∃ j : Nat, (σ ++ (tv ++ ((some (.ref a) :: (kvs.map Prod.snd).map some) ++ [some (.ref Dd)])))[j]? = some (some v) ∧ (wipeE ρ2 vs ++ (tt ++ ((T.sh (.at a 0 []) :: ds.map T.sh) ++ [.lst Dd acc])))[j]? = some (T.sh d) := fun n v d n1 n2 => by
      refine ⟨σ.length + (tv.length + (n + 1)), ?_, ?_⟩
      · rw [List.getElem?_append_right (by omega), Nat.add_sub_cancel_left, List.getElem?_append_right (by omega), Nat.add_sub_cancel_left]
        exact ap_left (l := (kvs.map Prod.snd).map some) (map_get n1)
      · rw [← l2, List.getElem?_append_right (by omega), Nat.add_sub_cancel_left, lp, List.getElem?_append_right (by omega), Nat.add_sub_cancel_left]
        exact ap_left (l := ds.map T.sh) (map_get n2)
    obtain ⟨h1, ok4⟩ := ok1.unlockA dk hd e3.ok hvv
    refine ⟨h1, ?_⟩
    have e4 : En Γ (upd H2 a (.dT kvs)) σ ((tv ++ (some (.ref a) :: (kvs.map Prod.snd).map some)) ++ [some (.ref Dd), some (.ref a)]) (wipeE ρ2 vs) ((tt ++ (.sh (.at a 0 []) :: ds.map T.sh)) ++ [.lst Dd acc, .dT a ks (ds.map T.sh)]) := ⟨by simpa only [List.append_assoc, List.cons_append, List.nil_append] using ok4, e3.len⟩
    have e5 : En Γ (upd H2 a (.dT kvs)) σ ((tv ++ [some (.ref Dd)]) ++ ([some (.ref a)] ++ [])) (wipeE ρ2 vs) ((tt ++ [.lst Dd acc]) ++ ([.dT a ks (ds.map T.sh)] ++ [])) := by simpa only [List.append_assoc, List.cons_append, List.nil_append] using e4.mid e.tl (by simp [← dk.ln])
    have hat : (wipeE ρ2 vs)[i]? = some (.sh (.at a i [])) := by rw [wipeE_ne hv]; exact (hP _ _ _ hI).1
    have e6 := (BackL.put (a := a) (pt_slot hat (w := .no)).1 (.nil _)).run e5 (by simp [lp]) rfl (fun n i2 p2 a2 h => by
      cases n with
      | zero => simp at h; obtain ⟨_, _, rfl⟩ := h; rfl
      | succ n => simp at h)
    rw [(pt_slot hat).2, List.append_nil, List.append_nil] at e6
    exact k _ _ _ _ (fin ρ2 acc hI Dd) e6
theorem d_lcT {χ : XD} {ρ : Env} {Q : T → Env → Prop} {i : Nat} {g : WG} {wt : WT} {we : WE} {vs : List Nat} (h : ∃ (a : Addr) (ks : List (List Key)) (ds : List D), ρ[i]? = some (.dT a ks (ds.map T.sh)) ∧ ∃ I : Nat → Env → List T → Prop, I 0 (wipeE (ρ.set i (.sh (.at a i []))) vs) [] ∧ (∀ j ρ2 acc, I j ρ2 acc → ρ2[i]? = some (.sh (.at a i [])) ∧ acc.length < 10000) ∧
  (∀ (j : Nat) (ky : List Key) (ρ2 : Env) (acc : List T), ks[j]? = some ky → I j ρ2 acc → g (.sh (.tup (ky.map kD))) ρ2 fun ρ3 => wt noX ρ3 fun b ρ4 => if b = true then we noX ρ4 fun y ρ5 => ∃ y', PubT y y' ∧ I (j + 1) (wipeE ρ5 vs) (acc ++ [y']) else I (j + 1) (wipeE ρ4 vs) acc) ∧ ∀ ρ2 acc, I ks.length ρ2 acc → ∀ b, Q (.lst b acc) ((wipeE ρ2 vs).set i (.dT a ks (ds.map T.sh)))) : wLcT i g wt we vs χ ρ Q := h
theorem rep_pw {α β : Type} {R : α → β → Prop} {xs : List α} {ds : List β} (l : xs.length = ds.length) (h : ∀ (k : Nat) v d, xs[k]? = some v → ds[k]? = some d → R v d) : ∀ n : Nat, (List.replicate n xs).flatten.length = (List.replicate n ds).flatten.length ∧ ∀ (k : Nat) v d, (List.replicate n xs).flatten[k]? = some v → (List.replicate n ds).flatten[k]? = some d → R v d
  | 0 => ⟨rfl, fun k v d h1 => by simp at h1⟩
  | n + 1 => by
    obtain ⟨l1, h1⟩ := rep_pw l h n
    simp only [List.replicate_succ, List.flatten_cons]
    refine ⟨by rw [List.length_append, List.length_append, l, l1], fun k v d g1 g2 => ?_⟩
    rcases ap_cases g1 with z | ⟨m, rfl, z⟩
    · have : k < ds.length := by rw [← l]; exact (List.getElem?_eq_some_iff.mp z).1
      rw [List.getElem?_append_left this] at g2
      exact h k v d z g2
    · rw [l, List.getElem?_append_right (by omega), Nat.add_sub_cancel_left] at g2
      exact h1 m v d z g2
def fRepL : Fd := fun ρ as Q => ∃ (t1 u1 : T) (n : Nat) (ds : List D), as = [t1, .sh (.int n)] ∧ Rs ρ t1 u1 ∧ u1.lstK = some (ds.map T.sh) ∧ ds.length * n ≤ 10000 ∧ n < 10000 ∧ ∀ a, Q (.lst a ((List.replicate n ds).flatten.map T.sh))
theorem cd_repL : CbD (r2 rRep) fRepL := ⟨fun Γ H σ tv ρ tt vs as Q k e l ⟨t1, u1, n, ds, ea, h1, k1, hl, hn, hk⟩ q x y ev => by
  subst ea ev
  obtain ⟨r1, r2⟩ := e.two l
  obtain ⟨a, xs, rfl, ha, lx, kx⟩ := (Rs.rep e r1 h1).lstK k1
  rw [List.length_map] at lx
  have ey := r2.un
  cases ey
  obtain ⟨p1, p2⟩ := rep_pw (R := fun v d => RD H _ v d) lx (fun k v d z1 z2 => (kx k v (.sh d) z1 (map_get z2)).un) n
  refine ⟨a, n, xs, rfl, rfl, ha, by omega, by omega, by rw [lx, Int.toNat_natCast]; exact szl hl, fun p hp => ?_⟩
  rw [Int.toNat_natCast]
  refine q _ _ _ (hk p) (e.newN l hp .lst (by simp only [T.kids, List.length_map]; exact p1) fun j v t z1 z2 => ?_)
  simp only [T.kids] at z2
  obtain ⟨d, z3, rfl⟩ := get_map z2
  exact ⟨d, rfl, p2 j v d z1 z3⟩⟩
end
end E
namespace E
open PySem PySem.Spec PyProof.Rows L2 G
def wIdxD (wa : WE) (wr : WA) : WE := fun χ ρ Q => wa χ ρ fun t0 ρ1 => isLst ρ1 t0 ∧ wr χ ρ1 fun ts ρ2 => ∃ t u0 u d ds j z, ts = [t] ∧ Rs ρ2 t0 u0 ∧ Rs ρ2 t u ∧ u0.py = some (.list ds) ∧ u.py = some d ∧ SeqAt.shaped (.list ds) = true ∧ SeqAt.shaped d = true ∧ ds[j]? = some z ∧ PyData.eqv z d = true ∧ (∀ (m : Nat) (z' : PyData), m < j → ds[m]? = some z' → PyData.eqv z' d = false) ∧ Q (.sh (.int (j : Nat))) ρ2
section
variable {W : Wx} {K : PySem.W.Frag}
theorem rf_idxD {ta : TE} {tr : TA} {wa : WE} {wr : WA} (ha : Rf W ta wa) (hr : RfA W tr wr) : Rf W (tBM K "list" (rIndexD K) ta tr) (wIdxD wa wr) := fun σ H Q ⟨Γ, tv, ρ, tt, χ, Q1, e, h, x, k⟩ => by
  refine ha σ H _ ⟨Γ, tv, ρ, tt, χ, _, e, h, x, fun t0 ρ1 v0 H1 ⟨h0, h1⟩ e1 => ⟨h0.run e1, ?_⟩⟩
  obtain ⟨u', hr', xs', hx'⟩ := h0
  obtain ⟨a, vs', rfl, _, _⟩ := (Rs.rep e1 e1.last hr').lstK hx'
  refine hr σ H1 _ ⟨Γ, _, ρ1, _, χ, _, e1, h1, x.deep e.tl rfl, fun ts ρ2 vs H2 ⟨t, u0, u, d, ds, j, z, et, r0, r1, p0, p1, s0, s1, hj, hz, hm, h2⟩ e2 => ?_⟩
  subst et
  obtain ⟨v, rfl⟩ := En.vs1 e2 (by simp [e.tl])
  rw [List.append_assoc, List.append_assoc] at e2
  have q0 := ((Rs.rep e2 (e2.entry e.tl (k := 0) rfl rfl) r0).rp (K := K) p0).dp
  have q1 := ((Rs.rep e2 (e2.entry e.tl (k := 1) rfl rfl) r1).rp (K := K) p1).dp
  exact ⟨a, v, d, ds, j, z, rfl, rfl, q0, q1, s0, s1, hj, hz, hm, k _ _ _ _ h2 ((e2.drop e.tl).push (.int _))⟩
theorem d_idxD {χ : XD} {ρ : Env} {Q : T → Env → Prop} {wa : WE} {wr : WA} (h : wa χ ρ fun t0 ρ1 => isLst ρ1 t0 ∧ wr χ ρ1 fun ts ρ2 => ∃ t u0 u d ds j z, ts = [t] ∧ Rs ρ2 t0 u0 ∧ Rs ρ2 t u ∧ u0.py = some (.list ds) ∧ u.py = some d ∧ SeqAt.shaped (.list ds) = true ∧ SeqAt.shaped d = true ∧ ds[j]? = some z ∧ PyData.eqv z d = true ∧ (∀ (m : Nat) (z' : PyData), m < j → ds[m]? = some z' → PyData.eqv z' d = false) ∧ Q (.sh (.int (j : Nat))) ρ2) : wIdxD wa wr χ ρ Q := h
end
end E
namespace E
open PySem PySem.Spec PyProof.Rows L2 G
def wPs : List (WE × WE) → XD → Env → (List Key → List T → Env → Prop) → Prop
  | [], _, ρ, Q => Q [] [] ρ
  | (wk, wv) :: r, χ, ρ, Q => wk χ ρ fun t ρ1 => ∃ ky, t = .sh (kD ky) ∧ wv χ ρ1 fun u ρ2 => wPs r χ ρ2 fun ks ts ρ3 => Q (ky :: ks) (u :: ts) ρ3
inductive RfPs (W : Wx) : List (TE × TE) → List (WE × WE) → Prop
  | nil : RfPs W [] []
  | cons {tk tv : TE} {wk wv : WE} {trs : List (TE × TE)} {ws : List (WE × WE)} : Rf W tk wk → Rf W tv wv → RfPs W trs ws → RfPs W ((tk, tv) :: trs) ((wk, wv) :: ws)
theorem RfPs.run {W : Wx} {trs : List (TE × TE)} {ws : List (WE × WE)} (h : RfPs W trs ws) : ∀ {Γ : Cg} {H : Hp} {σ : L2.St} {tv : List (Option V)} {ρ : Env} {tt : List T} {χ : XD} {Q1 : List Key → List T → Env → Prop} {Q : List (V × V) → Hp → Prop}, En Γ H σ tv ρ tt → wPs ws χ ρ Q1 → XOk W Γ tv tt σ χ →
    (∀ (ks : List Key) (ts : List T) (vs : List V) ρ' H', Q1 ks ts ρ' → ks.length = vs.length → vs.length = ts.length → En Γ H' σ (tv ++ vs.map some) ρ' (tt ++ ts) → Q ((ks.zip vs).map fun kv => (kV kv.1, kv.2)) H') → tPairs trs σ H Q := by
  induction h with
  | nil => intro Γ H σ tv ρ tt χ Q1 Q e h x q; exact q [] [] [] ρ H h rfl rfl (by rw [List.map_nil, List.append_nil, List.append_nil]; exact e)
  | cons hk hv _ ih =>
    intro Γ H σ tv ρ tt χ Q1 Q e h x q
    refine hk σ H _ ⟨Γ, tv, ρ, tt, χ, _, e, h, x, fun t ρ1 v H1 ⟨ky, et, h1⟩ e1 => ?_⟩
    subst et
    have r := e1.last
    have ev : v = kV ky := by
      cases r with
      | sh r => exact r.key (kD_key _)
    subst ev
    refine hv σ H1 _ ⟨Γ, tv, ρ1, tt, χ, _, e1.drop e.tl, h1, x, fun u ρ2 v2 H2 h2 e2 => ?_⟩
    refine ih e2 h2 (x.deep e.tl rfl) fun ks ts vs ρ3 H3 h3 l1 l2 e3 => ?_
    exact q (ky :: ks) (u :: ts) (v2 :: vs) ρ3 H3 h3 (by simp [l1]) (by simp [l2]) (by simpa only [List.append_assoc, List.map_cons, List.singleton_append] using e3)
/-- {k: v, ..}: the keys are ints and texts -/
def wDisp (ws : List (WE × WE)) : WE := fun χ ρ Q => wPs ws χ ρ fun ks ts ρ1 => ks.Nodup ∧ ks.length ≤ 15 ∧ ∀ a, Q (.dK a ks ts) ρ1
section
variable {W : Wx} {K : PySem.W.Frag}
theorem zip_fst {α β : Type} : ∀ {l : List α} {m : List β}, l.length = m.length → (l.zip m).map Prod.fst = l
  | [], _, _ => rfl
  | a :: l, [], h => by simp at h
  | a :: l, b :: m, h => by simp [zip_fst (l := l) (m := m) (by simpa using h)]
theorem zip_snd {α β : Type} : ∀ {l : List α} {m : List β}, l.length = m.length → (l.zip m).map Prod.snd = m
  | [], [], _ => rfl
  | [], b :: m, h => by simp at h
  | a :: l, [], h => by simp at h
  | a :: l, b :: m, h => by simp [zip_snd (l := l) (m := m) (by simpa using h)]
theorem rf_disp {trs : List (TE × TE)} {ws : List (WE × WE)} (h : RfPs W trs ws) : Rf W (tDisp trs) (wDisp ws) := fun σ H Q ⟨Γ, tv, ρ, tt, χ, Q1, e, hw, x, k⟩ => by
  intro p hp
  have e1 : En Γ (upd H p (.dK [])) σ (tv ++ [some (.ref p)]) ρ (tt ++ [.dK p [] []]) := En.newN (ys := []) (us := []) (by rw [List.append_nil, List.append_nil]; exact e) e.tl hp (Nd.dK (a := p) (xs := []) (kvs := [])) rfl (fun k v t h1 h2 => by simp at h1)
  refine h.run e1 hw (x.deep e.tl rfl) fun ks ts vs ρ' H' ⟨nd, l15, hq⟩ l1 l2 e2 => ?_
  have lp := e.tl
  have ok2 : Ok Γ H' ((σ ++ (tv ++ [some (.ref p)])) ++ vs.map some) ((ρ' ++ (tt ++ [T.dK p [] []])) ++ ts) := by
    have := e2.ok
    simp only [List.append_assoc] at this ⊢
    exact this
  have l0 : (σ ++ (tv ++ [some (V.ref p)])).length = (ρ' ++ (tt ++ [T.dK p [] []])).length := by simp [e2.len, lp]
  have hgt : gt (ρ' ++ (tt ++ [T.dK p [] []])) (ρ'.length + tt.length) [] = some (.dK p [] []) := by
    unfold gt
    rw [List.getElem?_append_right (by omega), Nat.add_sub_cancel_left, List.getElem?_append_right (by omega), Nat.sub_self]
    rfl
  have hpt : ∀ u, pt (ρ' ++ (tt ++ [T.dK p [] []])) (ρ'.length + tt.length) [] u = ρ' ++ (tt ++ [u]) := fun u => by
    unfold pt
    have : (ρ' ++ (tt ++ [T.dK p [] []]))[ρ'.length + tt.length]? = some (.dK p [] []) := by
      rw [List.getElem?_append_right (by omega), Nat.add_sub_cancel_left, List.getElem?_append_right (by omega), Nat.sub_self]
      rfl
    rw [this]
    show (ρ' ++ (tt ++ [T.dK p [] []])).set _ (T.put _ [] u) = _
    rw [List.set_append_right _ _ (by omega), Nat.add_sub_cancel_left, List.set_append_right _ _ (by omega), Nat.sub_self]
    rfl
  have lt : (vs.map some).length = ts.length := by rw [List.length_map]; exact l2
  obtain ⟨ks0, hk0⟩ : ∃ ks0 : List Key, ks0 = [] := ⟨_, rfl⟩
  obtain ⟨o, ws', nd', ho, lv, kd, f⟩ := Ok.upd (u := .dK p ks0 []) ok2 l0 (by rw [hk0]; exact hgt) rfl
  cases nd' with
  | @dK _ _ kvs0 =>
  have ek : kvs0 = [] := by
    have lv : kvs0.length = 0 := by simpa [T.kids] using lv
    exact List.eq_nil_of_length_eq_zero lv
  subst ek
  have zf : (ks.zip vs).map Prod.fst = ks := zip_fst l1
  have zs : (ks.zip vs).map Prod.snd = vs := zip_snd l1
  have zl : (ks.zip vs).length = ks.length := by rw [← List.length_map (f := Prod.fst), zf]
  refine ⟨ho, ks.zip vs, rfl, by rw [zl]; exact l15, ?_⟩
  rw [mergeK_app (ks.zip vs) [] (by rw [List.nil_append, zf]; exact nd), List.nil_append]
  have ok8 := f (.dK (ks.zip vs)) (.dK p ks ts) vs [] [] (by have := Nd.dK (a := p) (xs := ts) (kvs := ks.zip vs); rw [zf, zs] at this; exact this) (by simp [T.kids, l2]) rfl (fun b => ?_) (fun z t' hz => ?_)
  · rw [List.append_nil, List.append_nil, hpt] at ok8
    exact k _ _ _ _ (hq p) ⟨ok8, e2.len⟩
  · simp only [T.kids, ownsL_nil]
    show _ + 0 ≤ 0 + _
    omega
  · rcases hz with ⟨j, v, rfl, q1, q2⟩ | ⟨j, q1, q2⟩
    · exact .inr (.inl ⟨j, map_get q1, q2⟩)
    · simp at q1
theorem d_disp {χ : XD} {ρ : Env} {Q : T → Env → Prop} {ws : List (WE × WE)} (h : wPs ws χ ρ fun ks ts ρ1 => ks.Nodup ∧ ks.length ≤ 15 ∧ ∀ a, Q (.dK a ks ts) ρ1) : wDisp ws χ ρ Q := h
theorem d_ps1 {χ : XD} {ρ : Env} {Q : List Key → List T → Env → Prop} {wk wv : WE} {r : List (WE × WE)} (h : wk χ ρ fun t ρ1 => ∃ ky, t = .sh (kD ky) ∧ wv χ ρ1 fun u ρ2 => wPs r χ ρ2 fun ks ts ρ3 => Q (ky :: ks) (u :: ts) ρ3) : wPs ((wk, wv) :: r) χ ρ Q := h
theorem d_ps0 {χ : XD} {ρ : Env} {Q : List Key → List T → Env → Prop} (h : Q [] [] ρ) : wPs [] χ ρ Q := h
theorem d_kyS {z : Str} {P : Key → Prop} (h : P (.inr z)) : ∃ ky, T.sh (D.str z) = .sh (kD ky) ∧ P ky := ⟨.inr z, rfl, h⟩
theorem dk_dK {H : Hp} {A : Addr → Prop} {a : Addr} {ks : List Key} {ds : List D} {y : Option V} (r : R H A y (.dK a ks (ds.map T.sh))) : y = some (.ref a) ∧ ∃ kvs : List (Key × V), H a = some (.dK kvs) ∧ kvs.map Prod.fst = ks ∧ Dk (.dK a ks (ds.map T.sh)) a (.dK kvs) (kvs.map Prod.snd) ds ∧ ∀ (k : Nat) (v : V) (d : D), (kvs.map Prod.snd)[k]? = some v → ds[k]? = some d → RD H A v d := by
  cases r with
  | @dK _ kvs _ h l kd =>
  rw [List.length_map] at l
  refine ⟨rfl, kvs, h, rfl, ⟨by rw [T.owns, ownsL_sh], by rw [List.length_map]; exact l, (fun _ _ z => by cases z), (fun _ z => by cases z), fun H' A' h' hv => ?_⟩, fun k v d h1 h2 => ?_⟩
  · refine .dK h' (by rw [List.length_map]; exact l) fun k p t h1 h2 => ?_
    obtain ⟨d, hd, rfl⟩ := get_map h2
    exact .sh (hv k p.2 d (map_get h1) hd)
  · obtain ⟨p, hp, rfl⟩ := get_map h1
    exact (kd k p (.sh d) hp (map_get h2)).un
/-- for x in td.values(): the dict is one's own, found in slot i by the way p; the body neither leaves nor raises -/
def wForV (wd : WE) (wg : WG) (wb : WS) : WS := fun k ρ => ∃ (i : Nat) (p : List Nat) (a : Addr) (ks : List Key) (ds : List D), gt ρ i p = some (.dK a ks (ds.map T.sh)) ∧ wd noX (pt ρ i p (.sh (.at a i p))) (fun t ρ1 => (∃ i' p', t = .sh (.at a i' p')) ∧ ρ1 = pt ρ i p (.sh (.at a i p))) ∧ ∃ I : Nat → Env → Prop, I 0 (pt ρ i p (.sh (.at a i p))) ∧ (∀ j ρ2, I j ρ2 → gt ρ2 i p = some (.sh (.at a i p))) ∧
  (∀ (j : Nat) (d : D) (ρ2 : Env), ds[j]? = some d → I j ρ2 → wg (.sh d) ρ2 fun ρ3 => wb ⟨fun ρ' => ∃ ρ4, Pubs ρ' ρ4 ∧ I (j + 1) ρ4, fun _ _ => False, fun _ => False, fun ρ' => ∃ ρ4, Pubs ρ' ρ4 ∧ I (j + 1) ρ4, noX⟩ ρ3) ∧ ∀ ρ2, I ds.length ρ2 → k.nx (pt ρ2 i p (.dK a ks (ds.map T.sh)))
theorem rfs_forV {bs : List Nat} {H0 : Hp} {td : TE} {g : TG} {tb : TS} {wd : WE} {wg : WG} {wb : WS} (hd0 : Rf (W0 false) td wd) (hg : RfG (fun k => k ∈ bs) g wg) (hb : RfS bs ⟨unW H0 W.x, false⟩ tb wb) : RfS bs W (tLockN H0 (tFor (iVals td) g tb)) (wForV wd wg wb) := fun Dn σ H ⟨Γ, tv, ρ, tt, k, e, ⟨i, p, a, ks, ds, hi, hw, I, i0, hP, turn, fin⟩, o⟩ => by
  have e1 := e.push (v := .ref a) (d := .at a i p) (.at a i p)
  obtain ⟨e2, _, _⟩ := (LendL.lend (i := i) (p := p) hi rfl (.nil _)).run e1 e.tl
  generalize pt ρ i p (.sh (.at a i p)) = ρ1 at hw i0 e2
  have ok1 : Ok Γ H ((σ ++ tv) ++ [some (.ref a)]) ((ρ1 ++ tt) ++ [.dK a ks (ds.map T.sh)]) := by simpa only [List.append_assoc] using e2.ok
  have r2 := e2.last
  obtain ⟨_, kvs, hd, ek, dk, hv2⟩ := dk_dK r2
  have lp := e.tl
  have l1 : σ.length = ρ1.length := e2.len
  have la : (σ ++ tv).length = (ρ1 ++ tt).length := by rw [List.length_append, List.length_append, l1, lp]
  have lks : kvs.length = ds.length := by have := dk.ln; rwa [List.length_map] at this
  refine ⟨a, .dK kvs, hd, True.intro, fun nf od => ?_⟩
  have ok3 := ok1.lockA la dk hd (by simpa only [List.append_assoc] using hv2) od
  have fz : ∀ {H2 : Hp} {xs2 : List (Option V)} {ts2 : List T}, Ok (lkA Γ H a od (.dK kvs) (ownsL ((ρ1 ++ tt) ++ [.dK a ks (ds.map T.sh)])) (ownsL (ρ1 ++ tt))) H2 xs2 ts2 → H2 a = some (.frz od (.dK kvs)) := fun ok2 => ok2.fr.keep a _ upd_same fun m => by
    have h1 := ok1.nd a
    rw [ownsL_append, ownsL_one, dk.ow, cn_app] at h1
    have h2 := cn_mem.mp m
    have h3 : cn a [a] = 1 := by simp [cn]
    omega
  have e3 : En (lkA Γ H a od (.dK kvs) (ownsL ((ρ1 ++ tt) ++ [.dK a ks (ds.map T.sh)])) (ownsL (ρ1 ++ tt))) (upd H a (.frz od (.dK kvs))) σ (tv ++ (some (.ref a) :: (kvs.map Prod.snd).map some)) ρ1 (tt ++ (T.sh (.at a 0 []) :: ds.map T.sh)) := ⟨by simpa only [List.append_assoc] using ok3, l1⟩
  have lx : (some (V.ref a) :: (kvs.map Prod.snd).map some).length = (T.sh (.at a 0 []) :: ds.map T.sh).length := by simp [lks]
  refine hd0 σ _ _ ⟨_, _, ρ1, _, noX, _, e3, hw, xok_none (fun z => nomatch z), fun t ρ1' v H1 ⟨⟨i', p', et⟩, er⟩ e4 => ?_⟩
  subst et er
  have ev : v = .ref a := by
    have r := e4.last
    cases r with
    | sh r => cases r; rfl
  subst ev
  have e5 := e4.drop e3.tl
  refine ⟨a, od, kvs, rfl, fz e5.ok, ?_⟩
  generalize hΓ : lkA Γ H a od (.dK kvs) (ownsL ((ρ1' ++ tt) ++ [.dK a ks (ds.map T.sh)])) (ownsL (ρ1' ++ tt)) = Γ' at e3 e4 e5 fz
  refine ⟨fun j m σ' H' => m = kvs.length - j ∧ j ≤ kvs.length ∧ ∃ ρ', I j ρ' ∧ Pn bs σ σ' ∧ En Γ' H' σ' (tv ++ (some (.ref a) :: (kvs.map Prod.snd).map some)) ρ' (tt ++ (T.sh (.at a 0 []) :: ds.map T.sh)), ⟨kvs.length, by simp, Nat.zero_le _, ρ1', i0, .refl _ _, e5⟩, ?_⟩
  rintro j m σ' H' ⟨rfl, hjl, ρ', hI, hp, e6⟩
  have hfz := fz e6.ok
  by_cases hlt : j < kvs.length
  · refine .inr ⟨⟨hfz, hlt⟩, fun σ2 H2 => ∃ ρ2, I (j + 1) ρ2 ∧ Pn bs σ σ2 ∧ En Γ' H2 σ2 (tv ++ (some (.ref a) :: (kvs.map Prod.snd).map some)) ρ2 (tt ++ (T.sh (.at a 0 []) :: ds.map T.sh)), fun σ2 H2 ⟨ρ2, h2, p2, e3⟩ => ⟨kvs.length - (j + 1), by omega, rfl, hlt, ρ2, h2, p2, e3⟩, fun x H2 yy => ?_⟩
    obtain ⟨rfl, ky, hkv⟩ := yy
    have hjd : ds[j]? = some (ds[j]'(by omega)) := List.getElem?_eq_getElem _
    generalize ds[j]'(by omega) = d at hjd
    have rx := (e6.entry lp (k := j + 1) (x := some x) (t := .sh d) (map_get (map_get hkv)) (map_get hjd)).un
    refine hg _ H2 σ' _ ρ' _ x (.sh d) _ _ (e6.push rx) e6.tl (turn j d ρ' hjd hI) fun ρ3 σ3 H3 h3 p3 _ e7 => ?_
    have p3' : Pn bs σ σ3 := hp.trans fun j hj => p3 j hj
    refine hb _ σ3 H3 ⟨_, _, ρ3, _, _, e7, h3, ?_⟩
    exact ⟨fun ρ4 σ4 H4 ⟨ρ5, pb, h4⟩ p4 e8 => ⟨ρ5, h4, p3'.trans p4, e8.pubs pb⟩, fun _ _ _ _ _ z => z.elim, fun _ _ _ z => z.elim, fun ρ4 σ4 H4 ⟨ρ5, pb, h4⟩ p4 e8 => ⟨ρ5, h4, p3'.trans p4, e8.pubs pb⟩, fun _ _ _ _ _ _ _ z => z.elim, fun z => nomatch z⟩
  · have : j = kvs.length := by omega
    subst this
    subst hΓ
    have l2 : σ'.length = ρ'.length := e6.len
    have hvv : ∀ (n : Nat) (v : V) (d : D), (kvs.map Prod.snd)[n]? = some v → ds[n]? = some d → ∃ j : Nat, (σ' ++ (tv ++ (some (.ref a) :: (kvs.map Prod.snd).map some)))[j]? = some (some v) ∧ (ρ' ++ (tt ++ (T.sh (.at a 0 []) :: ds.map T.sh)))[j]? = some (T.sh d) := fun n v d n1 n2 => by
      refine ⟨σ'.length + (tv.length + (n + 1)), ?_, ?_⟩
      · rw [List.getElem?_append_right (by omega), Nat.add_sub_cancel_left, List.getElem?_append_right (by omega), Nat.add_sub_cancel_left]
        exact map_get n1
      · rw [l2, List.getElem?_append_right (by omega), Nat.add_sub_cancel_left, lp, List.getElem?_append_right (by omega), Nat.add_sub_cancel_left]
        exact map_get n2
    obtain ⟨h1, ok4⟩ := ok1.unlockA dk hd e6.ok hvv
    have e7 : En Γ (upd H' a (.dK kvs)) σ' ((tv ++ (some (.ref a) :: (kvs.map Prod.snd).map some)) ++ ([some (.ref a)] ++ [])) ρ' ((tt ++ (T.sh (.at a 0 []) :: ds.map T.sh)) ++ ([.dK a ks (ds.map T.sh)] ++ [])) := ⟨by simpa only [List.append_assoc, List.cons_append, List.nil_append, List.append_nil] using ok4, l2⟩
    have hat := hP _ _ (lks ▸ hI)
    have e8 := (BackL.put (a := a) hat (.nil _)).run e7 e6.tl rfl (fun n i2 p2 a2 h => by
      cases n with
      | zero => simp at h; obtain ⟨_, _, rfl⟩ := h; rfl
      | succ n => simp at h)
    rw [List.append_nil, List.append_nil] at e8
    exact .inl ⟨⟨h1, Nat.le_refl _⟩, h1, o.nx _ σ' _ (fin ρ' (lks ▸ hI)) hp (e8.drop lp)⟩
theorem d_forV {wd : WE} {wg : WG} {wb : WS} {k : WK} {ρ : Env} (h : ∃ (i : Nat) (p : List Nat) (a : Addr) (ks : List Key) (ds : List D), gt ρ i p = some (.dK a ks (ds.map T.sh)) ∧ wd noX (pt ρ i p (.sh (.at a i p))) (fun t ρ1 => (∃ i' p', t = .sh (.at a i' p')) ∧ ρ1 = pt ρ i p (.sh (.at a i p))) ∧ ∃ I : Nat → Env → Prop, I 0 (pt ρ i p (.sh (.at a i p))) ∧ (∀ j ρ2, I j ρ2 → gt ρ2 i p = some (.sh (.at a i p))) ∧
  (∀ (j : Nat) (d : D) (ρ2 : Env), ds[j]? = some d → I j ρ2 → wg (.sh d) ρ2 fun ρ3 => wb ⟨fun ρ' => ∃ ρ4, Pubs ρ' ρ4 ∧ I (j + 1) ρ4, fun _ _ => False, fun _ => False, fun ρ' => ∃ ρ4, Pubs ρ' ρ4 ∧ I (j + 1) ρ4, noX⟩ ρ3) ∧ ∀ ρ2, I ds.length ρ2 → k.nx (pt ρ2 i p (.dK a ks (ds.map T.sh)))) : wForV wd wg wb k ρ := h
end
end E
namespace G
open PySem PySem.Spec PyProof.Rows L2
section
variable {X : Cx}
def rSortData (K : PySem.W.Frag) : TC := fun vs H Q => ∃ (γ : Type) (enc : γ → PyData) (a : Addr) (bs : List (V × γ)), vs = [V.ref a] ∧ SqL K H a (bs.map (·.1)) ∧ (∀ b ∈ bs, Dp K H b.1 (enc b.2)) ∧ PySem.W.AllAlike (bs.map fun b => enc b.2) ∧ PySem.W.Sortable (bs.map fun b => enc b.2) ∧ bs.length ≤ sizeLine ∧ (∀ b ∈ bs, (enc b.2).depth ≤ 60) ∧
  ∀ p, H p = none → Q (.ref p) (upd H p (.lst ((bs.mergeSort (PySem.W.dataLe false fun b => enc b.2)).map (·.1))))
end
end G
namespace E
open PySem PySem.Spec PyProof.Rows L2 G
section
variable {K : PySem.W.Frag}
def fSortData : Fd := fun ρ as Q => ∃ (t u : T) (xs : List (D × PyData)), as = [t] ∧ Rs ρ t u ∧ u.lstK = some (xs.map fun x => T.sh x.1) ∧ (∀ x ∈ xs, x.1.py = some x.2) ∧ PySem.W.AllAlike (xs.map (·.2)) ∧ PySem.W.Sortable (xs.map (·.2)) ∧ xs.length < 10000 ∧ (∀ x ∈ xs, x.2.depth ≤ 60) ∧ ∀ a, Q (.lst a ((xs.mergeSort (PySem.W.dataLe false (·.2))).map fun x => T.sh x.1))
theorem cd_sortData : CbD (rSortData K) fSortData := ⟨fun Γ H σ tv ρ tt vs as Q k e l ⟨t, u, xs, ea, hr, hs, hp, ha, hk, hl, hd, hq⟩ q => by
  subst ea
  obtain ⟨v, rfl⟩ := e.vs1 l
  obtain ⟨a, ws, rfl, h1, h2, kd⟩ := (Rs.rep e e.one hr).lstK hs
  rw [List.length_map] at h2
  have zf : (ws.zip xs).map Prod.fst = ws := zip_fst h2
  have zs : (ws.zip xs).map Prod.snd = xs := zip_snd h2
  have zl : (ws.zip xs).length = xs.length := by rw [← List.length_map (f := Prod.snd), zs]
  have zm : ∀ b ∈ ws.zip xs, RD H (Av Γ (ownsL (ρ ++ (tt ++ [t])))) b.1 b.2.1 ∧ b.2 ∈ xs := fun b hb => by
    obtain ⟨i, hi⟩ := List.mem_iff_getElem?.mp hb
    obtain ⟨g1, g2⟩ := List.getElem?_zip_eq_some.mp hi
    exact ⟨(kd i b.1 (.sh b.2.1) g1 (map_get g2)).un, List.mem_of_getElem? g2⟩
  have ze : (ws.zip xs).map (fun b => b.2.2) = xs.map (·.2) := by
    have : (fun b : V × (D × PyData) => b.2.2) = (fun x : D × PyData => x.2) ∘ Prod.snd := rfl
    rw [this, ← List.map_map, zs]
  refine ⟨D × PyData, fun x => x.2, a, ws.zip xs, rfl, ?_, fun b hb => ?_, by rw [ze]; exact ha, by rw [ze]; exact hk, by rw [zl]; exact szl (by omega), fun b hb => hd _ (zm b hb).2, fun p hp2 => ?_⟩
  · show SqL K H a ((ws.zip xs).map Prod.fst)
    rw [zf]
    exact lq h1
  · obtain ⟨z1, z2⟩ := zm b hb
    exact ((R.sh z1).rp (K := K) (hp b.2 z2)).dp
  have em : ((ws.zip xs).mergeSort (PySem.W.dataLe false fun b => b.2.2)).map Prod.snd = xs.mergeSort (PySem.W.dataLe false (·.2)) := (List.map_mergeSort (s := PySem.W.dataLe false fun x : D × PyData => x.2) (f := Prod.snd) (fun _ _ _ _ => rfl)).trans (by rw [zs])
  have hq := hq p
  rw [← em, List.map_map] at hq
  refine q _ _ _ hq (e.newN l hp2 .lst (by simp [T.kids]) fun j v t q1 q2 => ?_)
  obtain ⟨b1, g1, rfl⟩ := get_map q1
  obtain ⟨b2, g2, rfl⟩ := get_map (show (((ws.zip xs).mergeSort (PySem.W.dataLe false fun b => b.2.2)).map _)[j]? = some t from q2)
  rw [g1] at g2
  cases g2
  refine ⟨b1.2.1, rfl, ?_⟩
  have := (zm b1 (List.mem_mergeSort.mp (List.mem_of_getElem? g1))).1
  exact this⟩
end
end E
namespace E
open PySem PySem.Spec PyProof.Rows L2 G
def rIsB : L2.R2 := fun x y H Q => ∃ b, y = .bl b ∧ (∀ z, x ≠ .byt z) ∧ (∀ z, x ≠ .flt z) ∧ Q (.bl (decide (x = .bl b))) H
def D.isB : D → Bool → Bool
  | .bl a, b => decide (a = b)
  | _, _ => false
theorem RD.isB {H : Hp} {A : Addr → Prop} {v : V} {d : D} {b : Bool} (r : RD H A v d) : (∀ z, v ≠ .byt z) ∧ (∀ z, v ≠ .flt z) ∧ decide (v = .bl b) = d.isB b := by
  cases r <;> refine ⟨fun _ z => (by cases z), fun _ z => (by cases z), ?_⟩ <;> simp [D.isB]
def fIsB : Fd := fun ρ as Q => ∃ d b, as = [.sh d, .sh (.bl b)] ∧ Q (.sh (.bl (d.isB b)))
theorem cd_isB : CbD (r2 rIsB) fIsB := ⟨fun Γ H σ tv ρ tt vs as Q k e l ⟨d, b, ea, hk⟩ q v w ev => by
  subst ea ev
  obtain ⟨r1, r2⟩ := e.two l
  have r1 := r1.un
  have r2 := r2.un
  cases r2
  obtain ⟨z1, z2, z3⟩ := r1.isB (b := b)
  refine ⟨b, rfl, z1, z2, ?_⟩
  rw [z3]
  exact q _ _ H hk ((e.drop l).push (.bl _))⟩
theorem d_isB {ρ : Env} {d : D} {b : Bool} {q : T → Prop} (h : q (.sh (.bl (d.isB b)))) : fIsB ρ [.sh d, .sh (.bl b)] q := ⟨d, b, rfl, h⟩
end E
namespace E
open PySem PySem.Spec PyProof.Rows L2 G
section
variable {W : Wx} {K : PySem.W.Frag}
def wIns (wa : WE) (wr : WA) : WE := fun χ ρ Q => wa χ ρ fun t0 ρ1 => isLst ρ1 t0 ∧ wr χ ρ1 fun ts ρ2 => ∃ (a : Addr) (i : Nat) (p : List Nat) (xs : List T) (n : Nat) (t : T), t0 = .sh (.at a i p) ∧ ts = [.sh (.int n), t] ∧ gt ρ2 i p = some (.lst a xs) ∧ xs.length < 10000 ∧ n ≤ xs.length ∧ Q (.sh .non) (pt ρ2 i p (.lst a (xs.take n ++ [t] ++ xs.drop n)))
theorem take_get {α : Type} {l : List α} {n k : Nat} {x : α} (h : (l.take n)[k]? = some x) : l[k]? = some x ∧ k < n := by
  rw [List.getElem?_take] at h
  split at h
  · rename_i z; exact ⟨h, z⟩
  · cases h
theorem ins_cases {α β : Type} {l : List α} {m : List β} {n k : Nat} {x y : α} {u v : β} (hl : l.length = m.length) (hn : n ≤ l.length) (h1 : (l.take n ++ [x] ++ l.drop n)[k]? = some y) (h2 : (m.take n ++ [u] ++ m.drop n)[k]? = some v) : (∃ j : Nat, l[j]? = some y ∧ m[j]? = some v) ∨ (y = x ∧ v = u) := by
  have l1 : (l.take n).length = n := by rw [List.length_take]; omega
  have l2 : (m.take n).length = n := by rw [List.length_take]; omega
  rw [List.append_assoc] at h1 h2
  by_cases c : k < n
  · rw [List.getElem?_append_left (by omega)] at h1 h2
    exact .inl ⟨k, (take_get h1).1, (take_get h2).1⟩
  · rw [List.getElem?_append_right (by omega), l1] at h1
    rw [List.getElem?_append_right (by omega), l2] at h2
    cases e : k - n with
    | zero =>
      rw [e] at h1 h2
      simp at h1 h2
      exact .inr ⟨h1.symm, h2.symm⟩
    | succ j =>
      rw [e] at h1 h2
      rw [List.singleton_append, List.getElem?_cons_succ, List.getElem?_drop] at h1 h2
      exact .inl ⟨n + j, h1, h2⟩
theorem rf_ins {ta : TE} {tr : TA} {wa : WE} {wr : WA} (ha : Rf W ta wa) (hr : RfA W tr wr) : Rf W (tBM K "list" rIns ta tr) (wIns wa wr) := fun σ H Q ⟨Γ, tv, ρ, tt, χ, Q1, e, h, x, k⟩ => by
  refine ha σ H _ ⟨Γ, tv, ρ, tt, χ, _, e, h, x, fun t0 ρ1 v0 H1 ⟨h0, h1⟩ e1 => ⟨h0.run e1, ?_⟩⟩
  refine hr σ H1 _ ⟨Γ, _, ρ1, _, χ, _, e1, h1, x.deep e.tl rfl, fun ts ρ2 vs H2 ⟨a, i, p, xs, n, t, e0, et, hg, hl, hn, h2⟩ e2 => ?_⟩
  subst e0 et
  obtain ⟨y0, y, rfl⟩ := En.vs2 e2 (by simp [e.tl])
  rw [List.append_assoc, List.append_assoc] at e2
  have r0 := e2.entry e.tl (k := 0) rfl rfl
  have r1 := e2.entry e.tl (k := 1) rfl rfl
  cases r0 with
  | sh r0 =>
  cases r0
  cases r1 with
  | sh r1 =>
  cases r1
  obtain ⟨o, ws, nd, ho, lv, kd, f⟩ := e2.updN e.tl hg rfl
  cases nd
  have lw : ws.length = xs.length := lv
  refine ⟨a, ws, n, y, rfl, rfl, ho, szl' (by omega), by omega, by omega, k _ _ _ _ h2 ?_⟩
  rw [Int.toNat_natCast]
  refine f _ _ _ [some .non] [.sh .non] .lst ?_ rfl (fun b => ?_) fun z t' hz => ?_
  · simp only [T.kids, List.length_append, List.length_take, List.length_drop, List.length_singleton]
    omega
  · have hx : cn b (ownsL (xs.take n)) + cn b (ownsL (xs.drop n)) = cn b (ownsL xs) := by
      rw [← cn_app, ← ownsL_append, List.take_append_drop]
    simp only [T.kids, ownsL_append, ownsL_cons, ownsL_nil, cn_app, cn_noT, List.append_nil, T.owns, List.nil_append] at hx ⊢
    have hc : cn b ([] : List Addr) = 0 := rfl
    omega
  · rcases hz with ⟨j, v, rfl, h3, h4⟩ | ⟨j, h3, h4⟩
    · simp only [T.kids] at h4
      rcases ins_cases lw (by omega) h3 h4 with ⟨m, h5, h6⟩ | ⟨rfl, rfl⟩
      · exact .inl ⟨m, v, rfl, h5, h6⟩
      · exact .inr (.inl ⟨2, rfl, rfl⟩)
    · obtain ⟨rfl, rfl⟩ := one_cases h3 h4
      exact .inr (.inr ⟨_, _, rfl, rfl, .non⟩)
variable {ρ : Env} {t t0 : T} {χ : XD} {Q : T → Env → Prop}
theorem d_ins {wa : WE} {wr : WA} (h : wa χ ρ fun t0 ρ1 => isLst ρ1 t0 ∧ wr χ ρ1 fun ts ρ2 => ∃ (a : Addr) (i : Nat) (p : List Nat) (xs : List T) (n : Nat) (t : T), t0 = .sh (.at a i p) ∧ ts = [.sh (.int n), t] ∧ gt ρ2 i p = some (.lst a xs) ∧ xs.length < 10000 ∧ n ≤ xs.length ∧ Q (.sh .non) (pt ρ2 i p (.lst a (xs.take n ++ [t] ++ xs.drop n)))) : wIns wa wr χ ρ Q := h
theorem d_insvN {ρ1 : Env} {a : Addr} {i : Nat} {p : List Nat} {xs : List T} {n : Nat} {P : Env → Prop} (h1 : gt ρ i p = some (.lst a xs)) (h2 : xs.length < 10000) (h3 : n ≤ xs.length) (e : pt ρ i p (.lst a (xs.take n ++ [t] ++ xs.drop n)) = ρ1) (h : P ρ1) : ∃ (a' : Addr) (i' : Nat) (p' : List Nat) (xs' : List T) (n' : Nat) (t' : T), T.sh (.at a i p) = .sh (.at a' i' p') ∧ [T.sh (.int n), t] = [.sh (.int n'), t'] ∧ gt ρ i' p' = some (.lst a' xs') ∧ xs'.length < 10000 ∧ n' ≤ xs'.length ∧ P (pt ρ i' p' (.lst a' (xs'.take n' ++ [t'] ++ xs'.drop n'))) := ⟨a, i, p, xs, n, t, rfl, rfl, h1, h2, h3, e ▸ h⟩
end
end E
namespace E
open PySem PySem.Spec PyProof.Rows L2 G
section
variable {W : Wx} {K : PySem.W.Frag}
def wPop (wa : WE) : WE := fun χ ρ Q => wa χ ρ fun t0 ρ1 => isLst ρ1 t0 ∧ ∃ (a : Addr) (i : Nat) (p : List Nat) (xs : List T) (t : T), t0 = .sh (.at a i p) ∧ gt ρ1 i p = some (.lst a (xs ++ [t])) ∧ Q t (pt ρ1 i p (.lst a xs))
theorem rf_pop {ta : TE} {wa : WE} (ha : Rf W ta wa) : Rf W (tBM0 K "list" rPop ta) (wPop wa) := fun σ H Q ⟨Γ, tv, ρ, tt, χ, Q1, e, h, x, k⟩ => by
  refine ha σ H _ ⟨Γ, tv, ρ, tt, χ, _, e, h, x, fun t0 ρ1 v0 H1 ⟨h0, a, i, p, xs, t, e0, hg, h2⟩ e1 => ⟨h0.run e1, ?_⟩⟩
  subst e0
  have r0 := e1.last
  cases r0 with
  | sh r0 =>
  cases r0
  obtain ⟨o, ws, nd, ho, lv, kd, f⟩ := e1.updN e.tl hg rfl
  cases nd
  have lw : ws.length = xs.length + 1 := by have : ws.length = (xs ++ [t]).length := lv; simpa using this
  have hy : ws[ws.length - 1]? = some (ws[ws.length - 1]'(by omega)) := List.getElem?_eq_getElem _
  generalize ws[ws.length - 1]'(by omega) = y at hy
  refine ⟨a, ws, y, rfl, rfl, ho, hy, k _ _ _ _ h2 (f _ _ _ [some y] [t] .lst ?_ rfl (fun b => ?_) fun z t' hz => ?_)⟩
  · simp [T.kids, lw]
  · simp only [T.kids, ownsL_append, ownsL_cons, ownsL_nil, cn_app, cn_noT, List.append_nil, T.owns, List.nil_append]
    omega
  · rcases hz with ⟨j, v, rfl, h3, h4⟩ | ⟨j, h3, h4⟩
    · simp only [T.kids] at h4 ⊢
      have hj := (List.getElem?_eq_some_iff.mp h4).1
      rw [List.getElem?_dropLast] at h3
      split at h3
      · exact .inl ⟨j, v, rfl, h3, by rw [List.getElem?_append_left hj]; exact h4⟩
      · cases h3
    · obtain ⟨rfl, rfl⟩ := one_cases h3 h4
      refine .inl ⟨ws.length - 1, _, rfl, hy, ?_⟩
      simp only [T.kids]
      rw [lw, Nat.add_sub_cancel, List.getElem?_append_right (Nat.le_refl _), Nat.sub_self]
      rfl
variable {ρ : Env} {t t0 : T} {χ : XD} {Q : T → Env → Prop}
theorem d_pop {wa : WE} (h : wa χ ρ fun t0 ρ1 => isLst ρ1 t0 ∧ ∃ (a : Addr) (i : Nat) (p : List Nat) (xs : List T) (t : T), t0 = .sh (.at a i p) ∧ gt ρ1 i p = some (.lst a (xs ++ [t])) ∧ Q t (pt ρ1 i p (.lst a xs))) : wPop wa χ ρ Q := h
def fLenT : Fd := fun ρ as Q => ∃ t, as = [t] ∧ ∃ a ks xs, Rs ρ t (.dT a ks xs) ∧ Q (.sh (.int ks.length))
theorem cd_lenT : CbD rLenT fLenT := ⟨fun Γ H σ tv ρ tt vs as Q k e l ⟨t, ea, a, ks, xs, hr, hk⟩ q => by
  subst ea
  obtain ⟨v, rfl⟩ := e.vs1 l
  have r := Rs.rep e e.one hr
  cases r with
  | @dT _ kvs _ h1 _ _ =>
  exact ⟨a, kvs, rfl, h1, by have e2 : ((kvs.length : Nat) : Int) = ((kvs.map Prod.fst).length : Nat) := by rw [List.length_map]
                             rw [e2]; exact q _ _ H hk ((e.drop l).push (.int _))⟩⟩
theorem d_lenT {q : T → Prop} {ρ : Env} {t : T} {a : Addr} {ks : List (List Key)} {xs : List T} (h0 : Rs ρ t (.dT a ks xs)) (h : q (.sh (.int ks.length))) : fLenT ρ [t] q := ⟨t, rfl, a, ks, xs, h0, h⟩
def wGet2 (wd wk wx : WE) : WE := fun χ ρ Q => wd χ ρ fun t ρ1 => isDct ρ1 t ∧ wk χ ρ1 fun tk ρ2 => wx χ ρ2 fun tx ρ3 => ∃ dx, tx = .sh dx ∧ ∃ u, Rs ρ3 t u ∧ ∃ ks xs d ky, u.dictK = some (ks, xs) ∧ tk = .sh d ∧ d.key = some ky ∧ (∀ n, kfind ks ky = some n → ∃ x y, xs[n]? = some x ∧ t.rdk x n = some y ∧ Q y ρ3) ∧ (kfind ks ky = none → Q (.sh dx) ρ3)
theorem rf_get2 {td ty tx : TE} {wd wk wx : WE} (hd : Rf W td wd) (hk : Rf W ty wk) (hx : Rf W tx wx) : Rf W (tDGet2 td ty tx) (wGet2 wd wk wx) := fun σ H Q ⟨Γ, tv, ρ, tt, χ, Q1, e, h, x, k⟩ => by
  refine hd σ H _ ⟨Γ, tv, ρ, tt, χ, _, e, h, x, fun t ρ1 v1 H1 ⟨h0, h1⟩ e1 => ?_⟩
  obtain ⟨a, rfl, isd⟩ := h0.run e1
  refine ⟨a, rfl, isd, hk σ H1 _ ⟨Γ, _, ρ1, _, χ, _, e1, h1, x.deep e.tl rfl, fun tk ρ2 v2 H2 h2 e2 => ?_⟩⟩
  refine hx σ H2 _ ⟨Γ, _, ρ2, _, χ, _, e2, h2, (x.deep e.tl rfl).deep e1.tl rfl, fun tx ρ3 v3 H3 ⟨dx, etx, u, hr, ks, xs, d, ky, hu, etk, hky, hs, hn⟩ e3 => ?_⟩
  subst etk etx
  rw [List.append_assoc, List.append_assoc, List.append_assoc, List.append_assoc] at e3
  have r1 := e3.entry e.tl (k := 0) rfl rfl
  have r2 := e3.entry e.tl (k := 1) rfl rfl
  have r3 := e3.entry e.tl (k := 2) rfl rfl
  cases r2 with
  | sh r2 =>
  cases r3 with
  | sh r3 =>
  obtain ⟨a', kvs, ea', ea, ek, l, kd⟩ := (Rs.rep e3 r1 hr).dictK hu
  cases ea'
  cases c : kfind ks ky with
  | none => exact ⟨none, .inl ⟨kvs, ky, ea, r2.key hky, (valV_no' (by rw [ek]; exact c)).symm⟩, k _ ρ3 _ H3 (hn c) ((e3.push r3).mid e.tl rfl)⟩
  | some n =>
    obtain ⟨z, y, hz, hy, h2⟩ := hs n c
    obtain ⟨q, hq⟩ := get_of_len l hz
    obtain ⟨w, d', ew, rfl, rd⟩ := (kd n q z hq hz).rdk hy
    cases ew
    exact ⟨some q.2, .inl ⟨kvs, ky, ea, r2.key hky, (valV_kfind (by rw [ek]; exact c) hq).symm⟩, k _ ρ3 _ H3 h2 ((e3.push rd).mid e.tl rfl)⟩
theorem d_get2 {wd wk wx : WE} (h : wd χ ρ fun t ρ1 => isDct ρ1 t ∧ wk χ ρ1 fun tk ρ2 => wx χ ρ2 fun tx ρ3 => ∃ dx, tx = .sh dx ∧ ∃ u, Rs ρ3 t u ∧ ∃ ks xs d ky, u.dictK = some (ks, xs) ∧ tk = .sh d ∧ d.key = some ky ∧ (∀ n, kfind ks ky = some n → ∃ x y, xs[n]? = some x ∧ t.rdk x n = some y ∧ Q y ρ3) ∧ (kfind ks ky = none → Q (.sh dx) ρ3)) : wGet2 wd wk wx χ ρ Q := h
end
end E
namespace E
open PySem PySem.Spec PyProof.Rows L2 G
section
variable {W : Wx} {K : PySem.W.Frag}
def tAppT (t : TE) : TE := t
def wAppT (wa : WE) (wr : WA) : WE := fun χ ρ Q => wa χ ρ fun t0 ρ1 => (∃ a xs, t0 = .lst a xs) ∧ wr χ ρ1 fun ts ρ2 => ∃ a xs t, t0 = .lst a xs ∧ ts = [t] ∧ xs.length < 10000 ∧ Q (.sh .non) ρ2
theorem rf_appT {ta : TE} {tr : TA} {wa : WE} {wr : WA} (ha : Rf W ta wa) (hr : RfA W tr wr) : Rf W (tAppT (tBM K "list" rAppend ta tr)) (wAppT wa wr) := fun σ H Q ⟨Γ, tv, ρ, tt, χ, Q1, e, h, x, k⟩ => by
  refine ha σ H _ ⟨Γ, tv, ρ, tt, χ, _, e, h, x, fun t0 ρ1 v0 H1 ⟨⟨a, xs, e0⟩, h1⟩ e1 => ?_⟩
  subst e0
  have r0 := e1.last
  have ty : tyV K "list" v0 H1 := by
    cases r0 with
    | lst hh l kd => exact .inl ⟨rfl, _, .inl (.inl hh)⟩
  refine ⟨ty, hr σ H1 _ ⟨Γ, _, ρ1, _, χ, _, e1, h1, x.deep e.tl rfl, fun ts ρ2 vs H2 ⟨a', xs', t, e0', et, hl, h2⟩ e2 => ?_⟩⟩
  cases e0'
  subst et
  obtain ⟨y, rfl⟩ := En.vs1 e2 (by simp [e.tl])
  have lp := e.tl
  have l1 : σ.length = ρ2.length := e2.len
  have l0 : (σ ++ (tv ++ [some v0])).length = (ρ2 ++ (tt ++ [T.lst a xs])).length := by simp [l1, lp]
  have hgt : gt (ρ2 ++ (tt ++ [T.lst a xs])) (ρ2.length + tt.length) [] = some (.lst a xs) := by
    unfold gt
    rw [List.getElem?_append_right (by omega), Nat.add_sub_cancel_left, List.getElem?_append_right (by omega), Nat.sub_self]
    rfl
  have hpt : ∀ u, pt (ρ2 ++ (tt ++ [T.lst a xs])) (ρ2.length + tt.length) [] u = ρ2 ++ (tt ++ [u]) := fun u => by
    unfold pt
    have : (ρ2 ++ (tt ++ [T.lst a xs]))[ρ2.length + tt.length]? = some (.lst a xs) := by
      rw [List.getElem?_append_right (by omega), Nat.add_sub_cancel_left, List.getElem?_append_right (by omega), Nat.sub_self]
      rfl
    rw [this]
    show (ρ2 ++ (tt ++ [T.lst a xs])).set _ (T.put _ [] u) = _
    rw [List.set_append_right _ _ (by omega), Nat.add_sub_cancel_left, List.set_append_right _ _ (by omega), Nat.sub_self]
    rfl
  have ok2 : Ok Γ H2 ((σ ++ (tv ++ [some v0])) ++ [some y]) ((ρ2 ++ (tt ++ [T.lst a xs])) ++ [t]) := by
    have := e2.ok
    simp only [List.append_assoc, List.map_cons, List.map_nil] at this ⊢
    exact this
  have e2' := e2
  rw [List.append_assoc, List.append_assoc] at e2'
  have r0' := e2'.entry e.tl (k := 0) rfl rfl
  obtain ⟨o, ws, nd, ho, lv, kd, f⟩ := Ok.upd (u := .lst a xs) ok2 l0 hgt rfl
  cases nd
  have lw : ws.length = xs.length := lv
  have ev : v0 = .ref a := by cases r0' with | lst => rfl
  subst ev
  have ok8 := f (.lst (ws ++ [y])) (.lst a (xs ++ [t])) (ws ++ [y]) [some .non] [.sh .non] .lst (by simp [T.kids, lw]) rfl (fun b => ?_) (fun z t' hz => ?_)
  · rw [hpt] at ok8
    have e8 : En Γ (L2.upd H2 a (.lst (ws ++ [y]))) σ ((tv ++ [some (V.ref a)]) ++ [some .non]) ρ2 ((tt ++ [T.lst a (xs ++ [t])]) ++ [.sh .non]) := ⟨by simp only [List.append_assoc] at ok8 ⊢; exact ok8, e2.len⟩
    exact ⟨a, ws, y, rfl, rfl, ho, szl' (by omega), k _ _ _ _ h2 (e8.mid e.tl rfl)⟩
  · simp only [T.kids, ownsL_append, ownsL_cons, ownsL_nil, cn_app, cn_noT, List.append_nil, T.owns, List.nil_append]
    show _ + _ + 0 ≤ _
    omega
  · rcases hz with ⟨j, v, rfl, h3, h4⟩ | ⟨j, h3, h4⟩
    · simp only [T.kids] at h4
      rcases ap_cases h3 with h3 | ⟨m, rfl, hm⟩
      · have hj := (List.getElem?_eq_some_iff.mp h3).1
        rw [List.getElem?_append_left (by omega)] at h4
        exact .inl ⟨j, v, rfl, h3, h4⟩
      · rw [lw, List.getElem?_append_right (by omega), Nat.add_sub_cancel_left] at h4
        obtain ⟨rfl, rfl⟩ := one_cases hm h4
        exact .inr (.inl ⟨0, rfl, rfl⟩)
    · obtain ⟨rfl, rfl⟩ := one_cases h3 h4
      exact .inr (.inr ⟨_, _, rfl, rfl, .non⟩)
variable {ρ : Env} {t t0 : T} {χ : XD} {Q : T → Env → Prop}
theorem d_appT {wa : WE} {wr : WA} (h : wa χ ρ fun t0 ρ1 => (∃ a xs, t0 = .lst a xs) ∧ wr χ ρ1 fun ts ρ2 => ∃ a xs t, t0 = .lst a xs ∧ ts = [t] ∧ xs.length < 10000 ∧ Q (.sh .non) ρ2) : wAppT wa wr χ ρ Q := h
def tRe (t : TE) (i : Nat) (p : List Nat) : TE := t
def wRe (i : Nat) (p : List Nat) (w : WE) : WE := fun χ ρ Q => w χ ρ fun t ρ1 => ∃ a i0 p0, t = .sh (.at a i0 p0) ∧ Q (.sh (.at a i p)) ρ1
theorem rf_re {ta : TE} {wa : WE} {i : Nat} {p : List Nat} (ha : Rf W ta wa) : Rf W (tRe ta i p) (wRe i p wa) := fun σ H Q ⟨Γ, tv, ρ, tt, χ, Q1, e, h, x, k⟩ => by
  refine ha σ H _ ⟨Γ, tv, ρ, tt, χ, _, e, h, x, fun t0 ρ1 v0 H1 ⟨a, i0, p0, e0, h1⟩ e1 => ?_⟩
  subst e0
  have r0 := e1.last
  cases r0 with
  | sh r0 =>
  cases r0
  exact k _ _ _ _ h1 ((e1.drop e.tl).push (.at a i p))
theorem d_re {i : Nat} {p : List Nat} {wa : WE} (h : wa χ ρ fun t ρ1 => ∃ a i0 p0, t = .sh (.at a i0 p0) ∧ Q (.sh (.at a i p)) ρ1) : wRe i p wa χ ρ Q := h
theorem d_rev {a : Addr} {i i0 : Nat} {p p0 : List Nat} {P : T → Prop} (h : P (.sh (.at a i p))) : ∃ a' i0' p0', T.sh (.at a i0 p0) = .sh (.at a' i0' p0') ∧ P (.sh (.at a' i p)) := ⟨a, i0, p0, rfl, h⟩
end
end E
namespace E
open PySem PySem.Spec PyProof.Rows L2 G
section
variable {K : PySem.W.Frag}
theorem cd_min2 : CbD rMin2 (fI0 fun i j => .int (if j < i then j else i)) := ⟨fun Γ H σ tv ρ tt vs as Q k e l ⟨a, b, ea, hk⟩ q => by
  subst ea
  obtain ⟨v, w, rfl⟩ := e.vs2 l
  obtain ⟨r1, r2⟩ := e.two l
  cases r1 with
  | sh r1 =>
  cases r1
  cases r2 with
  | sh r2 =>
  cases r2
  exact ⟨a, b, rfl, q _ _ H hk ((e.drop l).push (.int _))⟩⟩
def rMax2 : TC := fun xs H Q => ∃ i j, xs = [.int i, .int j] ∧ Q (.int (if j > i then j else i)) H
theorem cd_max2 : CbD rMax2 (fI0 fun i j => .int (if j > i then j else i)) := ⟨fun Γ H σ tv ρ tt vs as Q k e l ⟨a, b, ea, hk⟩ q => by
  subst ea
  obtain ⟨v, w, rfl⟩ := e.vs2 l
  obtain ⟨r1, r2⟩ := e.two l
  cases r1 with
  | sh r1 =>
  cases r1
  cases r2 with
  | sh r2 =>
  cases r2
  exact ⟨a, b, rfl, q _ _ H hk ((e.drop l).push (.int _))⟩⟩
def rCatP (K : PySem.W.Frag) : R2 := rCatA K
def fCatP : Fd := fun ρ as Q => ∃ ds es t, as = [.sh (.tup ds), t] ∧ t.pub = some (.tup es) ∧ ds.length + es.length ≤ 10000 ∧ Q (.sh (.tup (ds ++ es)))
theorem cd_catP : CbD (r2 (rCatP K)) fCatP := ⟨fun Γ H σ tv ρ tt vs as Q k e l ⟨ds, es, t, ea, hp, hl, hk⟩ q x y ev => by
  subst ea
  subst ev
  have e1 : En Γ H σ ((tv ++ [some x]) ++ [some y]) ρ ((tt ++ [.sh (.tup ds)]) ++ [t]) := by rw [List.append_assoc, List.append_assoc]; exact e
  have e2 := e1.pubT (by rw [List.length_append, List.length_append, l]; rfl) hp
  rw [List.append_assoc, List.append_assoc] at e2
  exact (cd_catT (K := K)).run Γ H σ tv ρ tt [x, y] [.sh (.tup ds), .sh (.tup es)] Q k e2 l ⟨ds, es, rfl, hl, hk⟩ q x y rfl⟩
end
end E
namespace E
open PySem PySem.Spec PyProof.Rows L2 G
section
variable {X : L2.Cx} {CX : CXT} {k j : Nat} {C : Addr} {sp : Sp}
/-- x | y, both instances of the class at C with an own __or__ -/
def rOrO (C : Addr) (sp : Sp) (E : XK) : R2 := fun x y H Q => ∃ a b dx dy fs gs, x = .ref a ∧ y = .ref b ∧ H a = some (.ins C dx fs) ∧ H b = some (.ins C dy gs) ∧ sp [x, y] H (fun z H' => (∃ p, z = .ref p) ∧ Q z H') E
end
section
variable {K : PySem.W.Frag} {W : Wx}
def wOrO (C : Addr) (S : SpecD) (wa wb : WE) : WE := fun χ ρ Q => wa χ ρ fun t1 ρ1 => wb χ ρ1 fun t2 ρ2 => (∃ u1, Rs ρ2 t1 u1 ∧ ∃ fs, u1.cls = some (C, fs)) ∧ (∃ u2, Rs ρ2 t2 u2 ∧ ∃ fs, u2.cls = some (C, fs)) ∧ callW S noX ρ2 [t1, t2] fun z ρ3 => (∃ a C' fs xs, z = .obj a C' fs xs) ∧ Q z ρ3
theorem rf_orO {c : Bool} {C : Addr} {S : SpecD} {ta tb : TE} {wa wb : WE} (hc : c = true → W.c = true) (ha : Rf W ta wa) (hb : Rf W tb wb) : Rf W (tOp (rOrO C (spD c S) E0) ta tb) (wOrO C S wa wb) := fun σ H Q ⟨Γ, tv, ρ, tt, χ, Q1, e, h, x, k⟩ => by
  refine ha σ H _ ⟨Γ, tv, ρ, tt, χ, _, e, h, x, fun t1 ρ1 v1 H1 h1 e1 => ?_⟩
  refine hb σ H1 _ ⟨Γ, _, ρ1, _, χ, _, e1, h1, x.deep e.tl rfl, fun t2 ρ2 v2 H2 ⟨⟨u1, r1, fs1, c1⟩, ⟨u2, r2, fs2, c2⟩, hcall⟩ e2 => ?_⟩
  rw [List.append_assoc, List.append_assoc] at e2
  obtain ⟨a, dx, fvs, ev1, ea, _⟩ := (Rs.rep e2 (e2.entry e.tl (k := 0) rfl rfl) r1).cls c1
  obtain ⟨b, dy, gvs, ev2, eb, _⟩ := (Rs.rep e2 (e2.entry e.tl (k := 1) rfl rfl) r2).cls c2
  refine ⟨a, b, dx, dy, fvs, gvs, ev1, ev2, ea, eb, ?_⟩
  refine callW_run (vs := [v1, v2]) (ts := [t1, t2]) e2 e.tl (fun z => x.1 (hc z)) hcall (fun z ρ3 v H' ⟨⟨p, C', fs, xs, ez⟩, hq⟩ e3 => ?_) fun C d fl ds ρ' H' c e' => c.elim
  subst ez
  have r := e3.last
  cases r with
  | obj _ _ _ => exact ⟨⟨p, rfl⟩, k _ _ _ _ hq e3⟩
theorem d_orO {χ : XD} {ρ : Env} {C : Addr} {S : SpecD} {wa wb : WE} {Q : T → Env → Prop} (h : wa χ ρ fun t1 ρ1 => wb χ ρ1 fun t2 ρ2 => (∃ u1, Rs ρ2 t1 u1 ∧ ∃ fs, u1.cls = some (C, fs)) ∧ (∃ u2, Rs ρ2 t2 u2 ∧ ∃ fs, u2.cls = some (C, fs)) ∧ callW S noX ρ2 [t1, t2] fun z ρ3 => (∃ a C' fs xs, z = .obj a C' fs xs) ∧ Q z ρ3) : wOrO C S wa wb χ ρ Q := h
end
end E
namespace E
open PySem PySem.Spec PyProof.Rows L2 G
section
variable {K : PySem.W.Frag}
theorem ints_of {H : Hp} {A : Addr → Prop} {xs : List V} {ns : List Int} (l : xs.length = (ns.map D.int).length) (h : ∀ (k : Nat) (v : V) (d : D), xs[k]? = some v → (ns.map D.int)[k]? = some d → RD H A v d) : xs = ns.map V.int := by
  apply List.ext_getElem?
  intro k
  by_cases c : k < xs.length
  · have c2 : k < ns.length := by rw [l, List.length_map] at c; exact c
    have e1 : xs[k]? = some xs[k] := List.getElem?_eq_getElem c
    have e2 : (ns.map D.int)[k]? = some (.int ns[k]) := by rw [List.getElem?_map, List.getElem?_eq_getElem c2]; rfl
    have r := h k _ _ e1 e2
    generalize xs[k] = v at r e1
    cases r
    rw [e1, List.getElem?_map, List.getElem?_eq_getElem c2]
    rfl
  · have c2 : ¬ k < ns.length := by rw [l, List.length_map] at c; exact c
    rw [List.getElem?_eq_none (by omega), List.getElem?_eq_none (by rw [List.length_map]; omega)]
def fLtT : Fd := fun ρ as Q => ∃ ns ms : List Int, as = [.sh (.tup (ns.map D.int)), .sh (.tup (ms.map D.int))] ∧ Q (.sh (.bl (HT.lexLt ns ms)))
theorem cd_ltT : CbD (r2 (rLtT K)) fLtT := ⟨fun Γ H σ tv ρ tt vs as Q k e l ⟨ns, ms, ea, hk⟩ q x y ev => by
  subst ea ev
  obtain ⟨r1, r2⟩ := e.two l
  obtain ⟨a, xs, rfl, ha, aa, lx, kx⟩ := rd_tup r1
  obtain ⟨b, ys, rfl, hb, ab, ly, ky⟩ := rd_tup r2
  have ex := ints_of lx kx
  have ey := ints_of ly ky
  subst ex ey
  exact ⟨a, b, ns, ms, rfl, rfl, tq ha, tq hb, q _ _ H hk ((e.drop l).push (.bl _))⟩⟩
/-- ns <= ms, from the first pair that differs on -/
def lexLe (ns ms : List Int) : Bool := Ob.lexAt (fun j => decide (ns.getD j 0 = ms.getD j 0)) (fun j => decide (ns.getD j 0 ≤ ms.getD j 0)) (decide (ns.length ≤ ms.length)) 0 (min ns.length ms.length)
def fLeT : Fd := fun ρ as Q => ∃ ns ms : List Int, as = [.sh (.tup (ns.map D.int)), .sh (.tup (ms.map D.int))] ∧ Q (.sh (.bl (lexLe ns ms)))
theorem cd_leT : CbD (r2 (rLeT K)) fLeT := ⟨fun Γ H σ tv ρ tt vs as Q k e l ⟨ns, ms, ea, hk⟩ q x y ev => by
  subst ea ev
  obtain ⟨r1, r2⟩ := e.two l
  obtain ⟨a, xs, rfl, ha, aa, lx, kx⟩ := rd_tup r1
  obtain ⟨b, ys, rfl, hb, ab, ly, ky⟩ := rd_tup r2
  have ex := ints_of lx kx
  have ey := ints_of ly ky
  subst ex ey
  exact ⟨a, b, ns, ms, rfl, rfl, tq ha, tq hb, q _ _ H hk ((e.drop l).push (.bl _))⟩⟩
end
end E
namespace E
open PySem PySem.Spec PyProof.Rows L2 G
def tDGet1N (td ty : TE) : TE := fun σ H Q => td σ H fun x H1 => ∃ a, x = .ref a ∧ IsD H1 a ∧ ty σ H1 fun y H2 => (∃ o, DGet H2 a y o ∧ Q (o.getD .non) H2) ∨ (y = .non ∧ (∃ kvs, Rd H2 a (.dT kvs)) ∧ Q .non H2)
section
variable {K : PySem.W.Frag} {W : Wx}
def wGet1N (wd wk : WE) : WE := fun χ ρ Q => wd χ ρ fun t ρ1 => isDctT ρ1 t ∧ wk χ ρ1 fun tk ρ2 => ∃ u, Rs ρ2 t u ∧ ∃ ks xs d, u.dictT = some (ks, xs) ∧ tk = .sh d ∧ ((∃ ky, d.keyT = some ky ∧ (∀ n, kfind ks ky = some n → ∃ x y, xs[n]? = some x ∧ t.rdk x n = some y ∧ Q y ρ2) ∧ (kfind ks ky = none → Q (.sh .non) ρ2)) ∨ (d = .non ∧ Q (.sh .non) ρ2))
theorem rf_get1N {td ty : TE} {wd wk : WE} (hd : Rf W td wd) (hk : Rf W ty wk) : Rf W (tDGet1N td ty) (wGet1N wd wk) := fun σ H Q ⟨Γ, tv, ρ, tt, χ, Q1, e, h, x, k⟩ => by
  refine hd σ H _ ⟨Γ, tv, ρ, tt, χ, _, e, h, x, fun t ρ1 v1 H1 ⟨h0, h1⟩ e1 => ?_⟩
  obtain ⟨a, rfl, isd⟩ := h0.run e1
  refine ⟨a, rfl, isd, hk σ H1 _ ⟨Γ, _, ρ1, _, χ, _, e1, h1, x.deep e.tl rfl, fun tk ρ2 v2 H2 ⟨u, hr, ks, xs, d, hu, etk, hs⟩ e2 => ?_⟩⟩
  subst etk
  rw [List.append_assoc, List.append_assoc] at e2
  have r1 := e2.entry e.tl (k := 0) rfl rfl
  have r2 := e2.entry e.tl (k := 1) rfl rfl
  cases r2 with
  | sh r2 =>
  obtain ⟨a', kvs, ea', ea, ek, l, kd⟩ := (Rs.rep e2 r1 hr).dictT hu
  cases ea'
  rcases hs with ⟨ky, hky, hs, hn⟩ | ⟨rfl, hq⟩
  · obtain ⟨b, rfl, hb⟩ := r2.keyT hky
    cases c : kfind ks ky with
    | none => exact .inl ⟨none, .inr ⟨kvs, ky, b, ea, rfl, hb, (valV_noT (by rw [ek]; exact c)).symm⟩, k _ ρ2 _ H2 (hn c) ((e2.drop e.tl).push .non)⟩
    | some n =>
      obtain ⟨z, y, hz, hy, h2⟩ := hs n c
      obtain ⟨q, hq⟩ := get_of_len l hz
      obtain ⟨w, d', ew, rfl, rd⟩ := (kd n q z hq hz).rdk hy
      cases ew
      exact .inl ⟨some q.2, .inr ⟨kvs, ky, b, ea, rfl, hb, (valV_kfind (by rw [ek]; exact c) hq).symm⟩, k _ ρ2 _ H2 h2 ((e2.push rd).mid e.tl rfl)⟩
  · cases r2
    exact .inr ⟨rfl, ⟨kvs, ea⟩, k _ ρ2 _ H2 hq ((e2.drop e.tl).push .non)⟩
theorem d_get1N {χ : XD} {ρ : Env} {Q : T → Env → Prop} {wd wk : WE} (h : wd χ ρ fun t ρ1 => isDctT ρ1 t ∧ wk χ ρ1 fun tk ρ2 => ∃ u, Rs ρ2 t u ∧ ∃ ks xs d, u.dictT = some (ks, xs) ∧ tk = .sh d ∧ ((∃ ky, d.keyT = some ky ∧ (∀ n, kfind ks ky = some n → ∃ x y, xs[n]? = some x ∧ t.rdk x n = some y ∧ Q y ρ2) ∧ (kfind ks ky = none → Q (.sh .non) ρ2)) ∨ (d = .non ∧ Q (.sh .non) ρ2))) : wGet1N wd wk χ ρ Q := h
end
def tDInT (ty td : TE) : TE := tDIn ty td
def tDNotInT (ty td : TE) : TE := tDNotIn ty td
section
variable {K : PySem.W.Frag} {W : Wx}
def wDInT (neg : Bool) (wk wd : WE) : WE := fun χ ρ Q => wk χ ρ fun tk ρ1 => wd χ ρ1 fun t ρ2 => ∃ u, Rs ρ2 t u ∧ ∃ ks xs d k, u.dictT = some (ks, xs) ∧ tk = .sh d ∧ d.keyT = some k ∧ Q (.sh (.bl (if neg then !(kfind ks k).isSome else (kfind ks k).isSome))) ρ2
theorem rf_dinT' {td ty : TE} {wd wk : WE} (neg : Bool) (hk : Rf W ty wk) (hd : Rf W td wd) : Rf W (if neg then tDNotInT ty td else tDInT ty td) (wDInT neg wk wd) := fun σ H Q ⟨Γ, tv, ρ, tt, χ, Q1, e, h, x, k⟩ => by
  have main : ty σ H fun y H1 => td σ H1 fun x H2 => ∃ a o, x = .ref a ∧ DGet H2 a y o ∧ Q (.bl (if neg then !o.isSome else o.isSome)) H2 := by
    refine hk σ H _ ⟨Γ, tv, ρ, tt, χ, _, e, h, x, fun tk ρ1 v1 H1 h1 e1 => ?_⟩
    refine hd σ H1 _ ⟨Γ, _, ρ1, _, χ, _, e1, h1, x.deep e.tl rfl, fun t ρ2 v2 H2 ⟨u, hr, ks, xs, d, ky, hu, etk, hky, h2⟩ e2 => ?_⟩
    subst etk
    rw [List.append_assoc, List.append_assoc] at e2
    have r1 := e2.entry e.tl (k := 0) rfl rfl
    have r2 := e2.entry e.tl (k := 1) rfl rfl
    cases r1 with
    | sh r1 =>
    obtain ⟨a, kvs, ea', ea, ek, l, kd⟩ := (Rs.rep e2 r2 hr).dictT hu
    cases ea'
    obtain ⟨b, rfl, hb⟩ := r1.keyT hky
    have : ∃ o, DGet H2 a (.ref b) o ∧ o.isSome = (kfind ks ky).isSome := by
      cases c : kfind ks ky with
      | none => exact ⟨none, .inr ⟨kvs, ky, b, ea, rfl, hb, (valV_noT (by rw [ek]; exact c)).symm⟩, rfl⟩
      | some n =>
        obtain ⟨h1, _⟩ := kfind_spec c
        rw [← ek] at h1
        obtain ⟨q, hq, _⟩ := get_map h1
        exact ⟨some q.2, .inr ⟨kvs, ky, b, ea, rfl, hb, (valV_kfind (by rw [ek]; exact c) hq).symm⟩, rfl⟩
    obtain ⟨o, ho, hs⟩ := this
    refine ⟨a, o, rfl, ho, ?_⟩
    rw [hs]
    exact k _ ρ2 _ H2 h2 ((e2.drop e.tl).push (.bl _))
  cases neg
  · exact main
  · exact main
theorem rf_dinT {td ty : TE} {wd wk : WE} (hk : Rf W ty wk) (hd : Rf W td wd) : Rf W (tDInT ty td) (wDInT false wk wd) := rf_dinT' false hk hd
theorem rf_dnotinT {td ty : TE} {wd wk : WE} (hk : Rf W ty wk) (hd : Rf W td wd) : Rf W (tDNotInT ty td) (wDInT true wk wd) := rf_dinT' true hk hd
theorem d_dinT {χ : XD} {ρ : Env} {Q : T → Env → Prop} {wk wd : WE} (h : wk χ ρ fun tk ρ1 => wd χ ρ1 fun t ρ2 => ∃ u, Rs ρ2 t u ∧ ∃ ks xs d k, u.dictT = some (ks, xs) ∧ tk = .sh d ∧ d.keyT = some k ∧ Q (.sh (.bl (kfind ks k).isSome)) ρ2) : wDInT false wk wd χ ρ Q := h
theorem d_dninT {χ : XD} {ρ : Env} {Q : T → Env → Prop} {wk wd : WE} (h : wk χ ρ fun tk ρ1 => wd χ ρ1 fun t ρ2 => ∃ u, Rs ρ2 t u ∧ ∃ ks xs d k, u.dictT = some (ks, xs) ∧ tk = .sh d ∧ d.keyT = some k ∧ Q (.sh (.bl (!(kfind ks k).isSome))) ρ2) : wDInT true wk wd χ ρ Q := h
end
end E
namespace E
open PySem PySem.Spec PyProof.Rows L2 G
section
variable {X : L2.Cx} {ti te : TE} {i e : Expr} {p pos : Pos}
def tNinRgK (x : V) (Q : VK) : V → Hp → Prop := fun y H2 => ∃ (k : Int) (a : Addr) (j : Int), x = .int k ∧ y = .ref a ∧ H2 a = some (.rng 0 j) ∧ Q (.bl (!decide (0 ≤ k ∧ k < j))) H2
def rRg1 : List V → Hp → VK → Prop := fun vs H Q => ∃ j, vs = [V.int j] ∧ ∀ p, H p = none → Q (.ref p) (upd H p (.rng 0 j))
def tNinRg (ti te : TE) : TE := fun σ H Q => ti σ H fun x H1 => tCB rRg1 (tCons te tNil) σ H1 (tNinRgK x Q)
end
section
variable {K : PySem.W.Frag} {W : Wx}
def wNinRg (wk wn : WE) : WE := fun χ ρ Q => wk χ ρ fun tk ρ1 => wn χ ρ1 fun tn ρ2 => ∃ k j : Int, tk = .sh (.int k) ∧ tn = .sh (.int j) ∧ Q (.sh (.bl (!decide (0 ≤ k ∧ k < j)))) ρ2
theorem rf_ninRg {tk tn : TE} {wk wn : WE} (hk : Rf W tk wk) (hn : Rf W tn wn) : Rf W (tNinRg tk tn) (wNinRg wk wn) := fun σ H Q ⟨Γ, tv, ρ, tt, χ, Q1, e, h, x, k⟩ => by
  refine hk σ H _ ⟨Γ, tv, ρ, tt, χ, _, e, h, x, fun tk ρ1 v1 H1 h1 e1 => ?_⟩
  show tn σ H1 _
  refine hn σ H1 _ ⟨Γ, _, ρ1, _, χ, _, e1, h1, x.deep e.tl rfl, fun t ρ2 v2 H2 ⟨i, j, etk, etn, h2⟩ e2 => ?_⟩
  subst etk etn
  rw [List.append_assoc, List.append_assoc] at e2
  have r1 := e2.entry e.tl (k := 0) rfl rfl
  have r2 := e2.entry e.tl (k := 1) rfl rfl
  cases r1 with
  | sh r1 =>
  cases r1
  cases r2 with
  | sh r2 =>
  cases r2
  refine ⟨j, rfl, fun a ha => ⟨i, a, j, rfl, rfl, upd_same, ?_⟩⟩
  have e3 := (e2.drop e.tl).push (.bl (!decide (0 ≤ i ∧ i < j)))
  exact k _ ρ2 _ _ h2 ⟨e3.ok.grow (fun b o hb => by rw [upd_ne (fun z => by subst z; rw [ha] at hb; cases hb)]; exact hb) (fun b hb => by
    by_cases z : b = a
    · rw [z]; exact ha
    · rwa [upd_ne z] at hb) (nofrz fun _ _ z => by cases z), e3.len⟩
theorem d_ninRg {χ : XD} {ρ : Env} {Q : T → Env → Prop} {wk wn : WE} (h : wk χ ρ fun tk ρ1 => wn χ ρ1 fun tn ρ2 => ∃ k j : Int, tk = .sh (.int k) ∧ tn = .sh (.int j) ∧ Q (.sh (.bl (!decide (0 ≤ k ∧ k < j)))) ρ2) : wNinRg wk wn χ ρ Q := h
end
end E
namespace E
open PySem PySem.Spec PyProof.Rows L2 G
section
variable {X : L2.Cx} {e : Expr} {te : TE} {pos : Pos} {n : Str}
theorem xo_ok {P : Program} {w : World} {H : Hp} {h : Heap} {a C d : Addr} {oe : Obj} {vs : Array Value} (e : h.get? a = some oe) (z : Zc (.ref C) (some d) oe) (q : oe.data = .fields vs) : ObjOk P w H h a (xo a C d) :=
  ⟨⟨oe, vs, e, z, q⟩, ⟨oe, e⟩, fun _ _ ⟨o, v, q, r⟩ k => ⟨o, v, k o q, r⟩⟩
/-- an exception made, and kept as a value -/
def tXval (t : L2.St → Hp → XK → Prop) : TE := fun σ H Q => t σ H fun cls d H' => ∃ C dd, cls = .ref C ∧ d = some dd ∧ ∀ a, H' a = none → Q (.ref a) (upd H' a (xo a C dd))
theorem pe_xval {t : L2.St → Hp → XK → Prop} (he : PMk X e t) : PE X e (tXval t) := by
  refine ⟨fun pins s σ H Q I h => ?_⟩
  refine wpAny_mono (he pins s σ H _ I h) (fun u s1 hu => ?_) fun _ _ x => x
  obtain ⟨a, oe, vs, sI, H', cls, d, rfl, J, k, hne, ha, hz, hd, h1, na, os, ag, r, C, dd, rfl, rfl, q⟩ := hu
  have J1 := J.laidN (h' := s1.heap) (t' := s1.toks) k hne na (xo_ok ha hz hd)
  exact ⟨.ref a, _, ⟨J1.ok, os.trans J1.os, ag, J1.base, J1.loc, J1.cell, J1.free, J1.freeC, J1.pin, J1.hok, J1.len⟩, rfl, q a na⟩
/-- e.f of such a value -/
def tXvf (K : PySem.W.Frag) (f : Str) (te : TE) : TE := fun σ H Q => te σ H fun x H1 => ∃ (a C dd : Addr) (fs : List (Str × V)) (v : V), x = .ref a ∧ H1 a = some (xo a C dd) ∧ H1 dd = some (.xd fs) ∧ XfC K C ∧ PySem.W.findIn K (.ref C) f = some none ∧ fs.lookup f = some v ∧ Q v H1
theorem pe_xvf (he : PE X e te) (hb : attributeBase e n X.env (eval e X.env) = eval e X.env := by rfl) : PE X (.Attribute e n pos) (tXvf X.K n te) := by
  refine ⟨fun pins s σ H Q I h => ?_⟩
  refine attr_of hb (thn (he.run pins s σ H _ I h) fun u s1 hh => ?_)
  obtain ⟨x, H1, I1, rx, a, C, dd, fs, v, ex, ea, ed, T, hno, l, q⟩ := hh
  subst ex
  obtain rfl : u = Value.ref a := rx
  have hy : ObjOk X.prog X.w H1 s1.heap a (xo a C dd) := I1.hok a _ ea
  obtain ⟨⟨oe, vs, ha, hz, hd⟩, _, _⟩ := hy
  have hx : ObjOk X.prog X.w H1 s1.heap dd (.xd fs) := I1.hok dd _ ed
  obtain ⟨mA, hns, hr⟩ := hx
  obtain ⟨od, ho, hl⟩ := lookIn_ns hns
  obtain ⟨u, hu, ru⟩ := RelO.some_of (v := v) (o := mA n) (by rw [← l]; exact hr n)
  have J : PySem.W.InstAt s1.heap a oe C (some od) := ⟨ha, hz.1, by unfold PySem.W.notCls; rw [hd] <;> rfl, by rw [hz.2]; exact ho⟩
  exact HandSPX.exc_get I1.kIn J T.ga T.gg T.exC (PySem.W.findObj_own T.hdC hno rfl (by rw [hl, hu])) (handed_of ru) ⟨v, H1, I1.tok _, ru, q⟩
/-- what isinstance asks of the class of such a value -/
structure XIs (K : PySem.W.Frag) (C : Addr) : Prop where
  cl : (PySem.W.clsIn K C).isSome = true
  ha : PySem.W.findIn K (.ref C) "__class__" = some (some (.builtin "object.__class__"))
  hn : PySem.W.specialIn K (.builtin "object.__class__") "__get__" = some (some (.builtin "getset_descriptor.__get__"))
  ht : PySem.W.takesIn K (.builtin "object.__class__") = some true
  hm : PySem.W.mroIn K C (.type "object") = some true
def rIsX (K : PySem.W.Frag) : List V → Hp → VK → Prop := fun xs H Q => ∃ (a C dd : Addr) (fs : List (Str × V)) (c : V) (u : Value) (b : Bool), xs = [.ref a, c] ∧ ClsV c u ∧ H a = some (xo a C dd) ∧ H dd = some (.xd fs) ∧ XfC K C ∧ XIs K C ∧ PySem.W.kitOne K (.ref C) u = some b ∧ Q (.bl b) H
theorem call_isX : CallR X (.builtin "isinstance") (rIsX X.K) := by
  intro pins s σ H xs us Q I r h
  obtain ⟨a, C, dd, fs, c, u, b, rfl, k, ea, ed, T, S, e, q⟩ := h
  obtain ⟨u1, u2, rfl, r1, r2⟩ := vals2 r
  have e2 := k.eq r2
  subst e2
  obtain rfl : u1 = Value.ref a := r1
  have hy : ObjOk X.prog X.w H s.heap a (xo a C dd) := I.hok a _ ea
  obtain ⟨⟨oe, vs, ha, hz, hd⟩, _, _⟩ := hy
  have hx : ObjOk X.prog X.w H s.heap dd (.xd fs) := I.hok dd _ ed
  obtain ⟨mA, hns, hr⟩ := hx
  obtain ⟨od, ho, hl⟩ := lookIn_ns hns
  have J : PySem.W.InstAt s.heap a oe C (some od) := ⟨ha, hz.1, by unfold PySem.W.notCls; rw [hd] <;> rfl, by rw [hz.2]; exact ho⟩
  exact PySem.W.kia_one (PySem.W.kitx_exc S.cl T.ga T.gg T.exC S.ha S.hn S.ht S.hm) I.kIn J e (fun z => nomatch z) fun tk => ⟨.bl b, H, I.tok tk, rfl, q⟩
end
section
variable {K : PySem.W.Frag} {W : Wx}
def wMkV (C : Addr) (fl : List Str) (wa : WA) : WE := fun χ ρ Q => wa χ ρ fun ts ρ1 => ∃ ds, pubL ts = some ds ∧ ds.length = fl.length ∧ ds.length ≤ 900 ∧ Q (.sh (.xv C fl.reverse ds.reverse)) ρ1
theorem rf_mkV {C : Addr} {fl : List Str} {ta : TA} {wa : WA} (ha : RfA W ta wa) : Rf W (tXval (tMkX C fl ta)) (wMkV C fl wa) := fun σ H Q ⟨Γ, tv, ρ, tt, χ, Q1, e, h, x, k⟩ => by
  refine ha σ H _ ⟨Γ, tv, ρ, tt, χ, _, e, h, x, fun ts ρ1 vs H1 ⟨ds, hp, hl, h9, h1⟩ e1 => ?_⟩
  have e2 := e1.pubAll hp e.tl
  have lv : vs.length = ds.length := by have := e2.tlen e.tl; simpa using this
  refine g_mkZ (lv.trans hl) (by omega) fun d Hf hd hf ff fz => ⟨C, d, rfl, rfl, fun a ha => ?_⟩
  have ok2 : Ok Γ Hf (σ ++ (tv ++ vs.map some)) (ρ1 ++ (tt ++ ds.map T.sh)) := e2.ok.grow (fun a o z => ff.keep a o z (fun q => q)) (fun a z => ff.free a z) fun a o kvs z => fz a o _ z
  have ok3 : Ok Γ (upd Hf a (xo a C d)) (σ ++ (tv ++ vs.map some)) (ρ1 ++ (tt ++ ds.map T.sh)) := ok2.grow (fun b o hb => by rw [upd_ne (fun z => by subst z; rw [ha] at hb; cases hb)]; exact hb) (fun b hb => by
    by_cases z : b = a
    · rw [z]; exact ha
    · rwa [upd_ne z] at hb) (nofrz fun _ _ z => by unfold xo at z; cases z)
  have e3 : En Γ (upd Hf a (xo a C d)) σ (tv ++ vs.map some) ρ1 (tt ++ ds.map T.sh) := ⟨ok3, e1.len⟩
  have eo : ownsL (ρ1 ++ (tt ++ ds.map T.sh)) = ownsL (ρ1 ++ tt) := by simp only [ownsL_append, ownsL_sh, List.append_nil]
  have nd : d ∉ ownsL (ρ1 ++ tt) := fun m => by
    obtain ⟨o, z⟩ := (e1.drop e.tl).ok.there d m
    rw [hd] at z
    cases z
  have ha1 : H1 a = none := ff.free a ha
  have na : a ∉ ownsL (ρ1 ++ tt) := fun m => by
    obtain ⟨o, z⟩ := (e1.drop e.tl).ok.there a m
    rw [ha1] at z
    cases z
  have nad : d ≠ a := fun z => by
    rw [z, ha] at hf
    cases hf
  refine k _ _ _ _ h1 ((e3.drop e.tl).push ?_)
  have hr := RD.xv (H := upd Hf a (xo a C d)) (A := Av Γ (ownsL (ρ1 ++ tt))) (a := a) (C := C) (dd := d) (fvs := xfs fl vs) (xs := ds.reverse) upd_same ⟨.inr (.inl (e1.ok.fr.free a ha1)), na⟩ (by rw [upd_ne nad]; exact hf) ⟨.inr (.inl (e1.ok.fr.free d hd)), nd⟩ (by unfold xfs; rw [List.length_reverse, List.length_zip, List.length_reverse]; omega) (fun j q d' h2 h3 => ?_)
  · have em : (xfs fl vs).map Prod.fst = fl.reverse := by
      unfold xfs
      rw [List.map_reverse, List.map_fst_zip (by omega)]
    rw [em] at hr
    exact hr
  · unfold xfs at h2
    have hj := (List.getElem?_eq_some_iff.mp h3).1
    rw [List.length_reverse] at hj
    rw [List.getElem?_reverse (by rw [List.length_zip]; omega)] at h2
    rw [List.getElem?_reverse (by omega)] at h3
    rw [List.length_zip] at h2
    rw [List.getElem?_zip_eq_some] at h2
    have r := e3.entry e.tl (k := min fl.length vs.length - 1 - j) (map_get h2.2) (map_get (by rw [show min fl.length vs.length - 1 - j = ds.length - 1 - j by omega]; exact h3))
    rw [eo] at r
    exact r.un
theorem d_mkV {χ : XD} {ρ : Env} {Q : T → Env → Prop} {C : Addr} {fl : List Str} {wa : WA} (h : wa χ ρ fun ts ρ1 => ∃ ds, pubL ts = some ds ∧ ds.length = fl.length ∧ ds.length ≤ 900 ∧ Q (.sh (.xv C fl.reverse ds.reverse)) ρ1) : wMkV C fl wa χ ρ Q := h
def wXvf (K : PySem.W.Frag) (f : Str) (wa : WE) : WE := fun χ ρ Q => wa χ ρ fun t ρ1 => ∃ C fl ds n d, t = .sh (.xv C fl ds) ∧ XfC K C ∧ PySem.W.findIn K (.ref C) f = some none ∧ kfind fl f = some n ∧ ds[n]? = some d ∧ Q (.sh d) ρ1
theorem rf_xvf {f : Str} {ta : TE} {wa : WE} (ha : Rf W ta wa) : Rf W (tXvf K f ta) (wXvf K f wa) := fun σ H Q ⟨Γ, tv, ρ, tt, χ, Q1, e, h, x, k⟩ => by
  refine ha σ H _ ⟨Γ, tv, ρ, tt, χ, _, e, h, x, fun t ρ1 v H1 ⟨C, fl, ds, n, d, et, hx, hn, hf, hd, h1⟩ e1 => ?_⟩
  subst et
  have r := e1.last
  cases r with
  | sh r =>
  cases r with
  | @xv a _ dd fvs _ ea _ ed _ l kd =>
  obtain ⟨q, hq⟩ := get_of_len l hd
  exact ⟨a, C, dd, fvs, q.2, rfl, ea, ed, hx, hn, lookup_kfind hf hq, k _ ρ1 _ H1 h1 ((e1.push (kd n q d hq hd)).mid e.tl rfl)⟩
theorem d_xvf {χ : XD} {ρ : Env} {Q : T → Env → Prop} {f : Str} {wa : WE} (h : wa χ ρ fun t ρ1 => ∃ C fl ds n d, t = .sh (.xv C fl ds) ∧ XfC K C ∧ PySem.W.findIn K (.ref C) f = some none ∧ kfind fl f = some n ∧ ds[n]? = some d ∧ Q (.sh d) ρ1) : wXvf K f wa χ ρ Q := h
inductive CsD : D → Value → Prop
  | own (A : Addr) : CsD (.at A 0 []) (.ref A)
  | ty (n : String) : CsD (.ty n) (.type n)
def fIsX (K : PySem.W.Frag) : Fd := fun _ as Q => ∃ C fl ds c u b, as = [.sh (.xv C fl ds), .sh c] ∧ CsD c u ∧ XfC K C ∧ XIs K C ∧ PySem.W.kitOne K (.ref C) u = some b ∧ Q (.sh (.bl b))
theorem cd_isX : CbD (rIsX K) (fIsX K) := ⟨fun Γ H σ tv ρ tt vs as Q k e l ⟨C, fl, ds, c, u, b, ea, hc, hx, hi, hk, h⟩ q => by
  subst ea
  obtain ⟨v, w, rfl⟩ := e.vs2 l
  obtain ⟨r1, r2⟩ := e.two l
  have r1 := r1.un
  have r2 := r2.un
  cases r1 with
  | @xv a _ dd fvs _ ea _ ed _ _ _ =>
  have hcv : ClsV w u := by
    cases hc with
    | own A => cases r2; exact .own A
    | ty n => cases r2; exact .ty n
  exact ⟨a, C, dd, fvs, w, u, b, rfl, hcv, ea, ed, hx, hi, hk, q _ _ H h ((e.drop l).push (.bl _))⟩⟩
theorem d_isX {ρ : Env} {C : Addr} {fl : List Str} {ds : List D} {c : D} {u : Value} {b : Bool} {q : T → Prop} (h1 : CsD c u) (h2 : XfC K C) (h3 : XIs K C) (h4 : PySem.W.kitOne K (.ref C) u = some b) (h : q (.sh (.bl b))) : fIsX K ρ [.sh (.xv C fl ds), .sh c] q := ⟨C, fl, ds, c, u, b, rfl, h1, h2, h3, h4, h⟩
def rCatL2 : R2 := rCat
theorem op_catL2 {X : L2.Cx} : OpR X (binaryOp .Add) rCatL2 := op_cat
def fCatL2 : Fd := fun ρ as Q => ∃ (t1 t2 u1 : T) (ds es : List D), as = [t1, t2] ∧ Rs ρ t1 u1 ∧ u1.lstK = some (ds.map T.sh) ∧ t2.pub = some (.lst es) ∧ ds.length + es.length ≤ 10000 ∧ ∀ a, Q (.lst a ((ds ++ es).map T.sh))
theorem cd_catL2 : CbD (r2 rCatL2) fCatL2 := ⟨fun Γ H σ tv ρ tt vs as Q k e l ⟨t1, t2, u1, ds, es, ea, h1, k1, hp, hl, hk⟩ q x y ev => by
  subst ea
  subst ev
  have e1 : En Γ H σ ((tv ++ [some x]) ++ [some y]) ρ ((tt ++ [t1]) ++ [t2]) := by rw [List.append_assoc, List.append_assoc]; exact e
  have e2 := e1.pubT (by rw [List.length_append, List.length_append, l]; rfl) hp
  rw [List.append_assoc, List.append_assoc] at e2
  exact cd_catL.run Γ H σ tv ρ tt [x, y] [t1, .sh (.lst es)] Q k e2 l ⟨t1, .sh (.lst es), u1, .sh (.lst es), ds, es, rfl, h1, rfl, k1, rfl, hl, hk⟩ q x y rfl⟩
theorem d_catL2 {ρ : Env} {t1 t2 u1 : T} {ds es : List D} {q : T → Prop} (h1 : Rs ρ t1 u1) (k1 : u1.lstK = some (ds.map T.sh)) (hp : t2.pub = some (.lst es)) (hl : ds.length + es.length ≤ 10000) (h : ∀ a, q (.lst a ((ds ++ es).map T.sh))) : fCatL2 ρ [t1, t2] q := ⟨t1, t2, u1, ds, es, rfl, h1, k1, hp, hl, h⟩
end
end E
namespace E
open PySem PySem.Spec PyProof.Rows L2 G
variable {K : PySem.W.Frag}
class StpD (X : Prop) (Y : outParam Prop) : Prop where
  go : Y → X
class StpE (X : Prop) (Y : outParam Prop) : Prop where
  go : Y → X
class Stp (X : Prop) (Y : outParam Prop) : Prop where
  go : Y → X
instance i_de {X Y : Prop} [h : StpD X Y] : StpE X Y := ⟨h.go⟩
instance i_ew {X Y : Prop} [h : StpE X Y] : Stp X Y := ⟨h.go⟩
theorem idS {bs : List Nat} {W : Wx} {t : TS} {w : WS} (h : RfS bs W t w) : RfS bs W t w := h
theorem idE {W : Wx} {t : TE} {w : WE} (h : Rf W t w) : Rf W t w := h
theorem idA {W : Wx} {t : TA} {w : WA} (h : RfA W t w) : RfA W t w := h
theorem idT {W : Wx} {t : TT} {w : WT} (h : RfT W t w) : RfT W t w := h
theorem idI {W : Wx} {t : TI} {w : WI} (h : RfI W t w) : RfI W t w := h
instance i_d_seq {a b : WS} : StpD (wSeq a b k ρ) (a { k with nx := fun ρ1 => ∃ ρ2, Pubs ρ1 ρ2 ∧ b k ρ2 } ρ) := ⟨d_seq⟩
instance i_d_p0 {P : Env → Prop} : StpD (∃ ρ2, Pubs ρ ρ2 ∧ P ρ2) (P ρ) := ⟨d_p0⟩
instance i_d_next  : StpD (wNext k ρ) (k.nx ρ) := ⟨d_next⟩
instance i_d_brk  : StpD (wBrk k ρ) (k.bk ρ) := ⟨d_brk⟩
instance i_d_cont  : StpD (wCont k ρ) (k.ct ρ) := ⟨d_cont⟩
instance i_d_drop {w : WE} : StpD (wDrop w k ρ) (w k.xc ρ fun _ ρ1 => k.nx ρ1) := ⟨d_drop⟩
instance i_d_ret {w : WE} : StpD (wRet w k ρ) (w k.xc ρ k.rt) := ⟨d_ret⟩
instance i_d_retN  : StpD (wRetN k ρ) (k.rt (.sh .non) ρ) := ⟨d_retN⟩
instance i_d_if {c : WT} {a b : WS} : StpD (wIf c a b k ρ) (c k.xc ρ fun x ρ1 => if x = true then a k ρ1 else b k ρ1) := ⟨d_if⟩
instance i_d_asg {w : WE} {g : WG} : StpD (wAsg w g k ρ) (w k.xc ρ fun t ρ1 => g t ρ1 k.nx) := ⟨d_asg⟩
instance i_d_c  : StpD (wC t χ ρ Q) (Q t ρ) := ⟨d_c⟩
instance i_d_op {f : Fd} {wa wb : WE} : StpD (wOp f wa wb χ ρ Q) (wa χ ρ fun t1 ρ1 => wb χ ρ1 fun t2 ρ2 => f ρ2 [t1, t2] fun t => Q t ρ2) := ⟨d_op⟩
instance i_d_un {f : Fd} {wa : WE} : StpD (wUn f wa χ ρ Q) (wa χ ρ fun t1 ρ1 => f ρ1 [t1] fun t => Q t ρ1) := ⟨d_un⟩
instance i_d_cb {f : Fd} {wa : WA} : StpD (wCb f wa χ ρ Q) (wa χ ρ fun ts ρ1 => f ρ1 ts fun t => Q t ρ1) := ⟨d_cb⟩
instance i_d_nil {q : List T → Env → Prop} : StpD (waN χ ρ q) (q [] ρ) := ⟨d_nil⟩
instance i_d_cons {wa : WE} {wr : WA} {q : List T → Env → Prop} : StpD (waC wa wr χ ρ q) (wa χ ρ fun t ρ1 => wr χ ρ1 fun ts ρ2 => q (t :: ts) ρ2) := ⟨d_cons⟩
instance i_d_lst {wa : WA} : StpD (wLst wa χ ρ Q) (wa χ ρ fun ts ρ1 => ts.length ≤ 10000 ∧ ∀ a, Q (.lst a ts) ρ1) := ⟨d_lst⟩
instance i_d_tup {wa : WA} : StpD (wTup wa χ ρ Q) (wa χ ρ fun ts ρ1 => ts.length ≤ 10000 ∧ Q (mkTup ts) ρ1) := ⟨d_tup⟩
instance i_d_dnew  : StpD (wDNew χ ρ Q) (∀ a, Q (.dK a [] []) ρ) := ⟨d_dnew⟩
instance i_d_b {wa : WE} {q : Bool → Env → Prop} : StpD (wB wa χ ρ q) (wa χ ρ fun t ρ1 => ∃ b, t = .sh (.bl b) ∧ q b ρ1) := ⟨d_b⟩
instance i_d_isb {b : Bool} {P : Bool → Prop} : StpD (∃ c, T.sh (.bl b) = .sh (.bl c) ∧ P c) (P b) := ⟨d_isb⟩
instance i_d_and {w w' : WT} {q : Bool → Env → Prop} : StpD (wAnd w w' χ ρ q) (w χ ρ fun b ρ1 => if b = true then w' χ ρ1 q else q false ρ1) := ⟨d_and⟩
instance i_d_or {w w' : WT} {q : Bool → Env → Prop} : StpD (wOr w w' χ ρ q) (w χ ρ fun b ρ1 => if b = true then q true ρ1 else w' χ ρ1 q) := ⟨d_or⟩
instance i_d_not {w : WT} {q : Bool → Env → Prop} : StpD (wNot w χ ρ q) (w χ ρ fun b ρ1 => q (!b) ρ1) := ⟨d_not⟩
instance i_d_yes {q : Bool → Env → Prop} : StpD (wYes χ ρ q) (q true ρ) := ⟨d_yes⟩
instance i_d_andV {wa wb : WE} : StpD (wAndV wa wb χ ρ Q) (wa χ ρ fun t ρ1 => ∃ b, t = .sh (.bl b) ∧ if b = true then wb χ ρ1 Q else Q (.sh (.bl false)) ρ1) := ⟨d_andV⟩
instance i_d_orV {wa wb : WE} : StpD (wOrV wa wb χ ρ Q) (wa χ ρ fun t ρ1 => ∃ b, t = .sh (.bl b) ∧ if b = true then Q (.sh (.bl true)) ρ1 else wb χ ρ1 Q) := ⟨d_orV⟩
instance i_d_notV {wa : WE} : StpD (wNotV wa χ ρ Q) (wa χ ρ fun t ρ1 => ∃ b, t = .sh (.bl b) ∧ Q (.sh (.bl (!b))) ρ1) := ⟨d_notV⟩
instance i_d_ifE {w : WT} {wa wb : WE} : StpD (wIfE w wa wb χ ρ Q) (w χ ρ fun b ρ1 => if b = true then wa χ ρ1 Q else wb χ ρ1 Q) := ⟨d_ifE⟩
instance i_d_chain {f g : Fd} {wa wb wc : WE} : StpD (wChain f g wa wb wc χ ρ Q) (wa χ ρ fun t1 ρ1 => wb χ ρ1 fun t2 ρ2 => ∃ d2, t2 = .sh d2 ∧ f ρ2 [t1, t2] fun t => ∃ b, t = .sh (.bl b) ∧ if b = true then wc χ ρ2 fun t3 ρ3 => g ρ3 [t2, t3] fun t => Q t ρ3 else Q (.sh (.bl false)) ρ2) := ⟨d_chain⟩
instance i_d_issh {d : D} {P : D → Prop} : StpD (∃ c, T.sh d = .sh c ∧ P c) (P d) := ⟨d_issh⟩
instance i_d_I0 {g : Int → Int → D} {a b : Int} : StpD (fI0 g ρ [.sh (.int a), .sh (.int b)] q) (q (.sh (g a b))) := ⟨d_I0⟩
instance i_d_fld {K : PySem.W.Frag} {f : Str} {wa : WE} : StpD (wFld K f wa χ ρ Q) (wa χ ρ fun t ρ1 => ∃ u, Rs ρ1 t u ∧ ∃ C fs xs n x y, u.objK = some (C, fs, xs) ∧ (Cls K C ∧ NoAttr K C f) ∧ kfind fs f = some n ∧ xs[n]? = some x ∧ t.rdk x n = some y ∧ Q y ρ1) := ⟨d_fld⟩
instance i_d_dget {wd wk : WE} : StpD (wDGet wd wk χ ρ Q) (wd χ ρ fun t ρ1 => wk χ ρ1 fun tk ρ2 => ∃ u, Rs ρ2 t u ∧ ∃ ks xs d k n x y, u.dictK = some (ks, xs) ∧ tk = .sh d ∧ d.key = some k ∧ kfind ks k = some n ∧ xs[n]? = some x ∧ t.rdk x n = some y ∧ Q y ρ2) := ⟨d_dget⟩
instance i_d_call {S : SpecD} {wr : WA} : StpD (wCall S wr χ ρ Q) (wr χ ρ fun ts ρ1 => callW S χ ρ1 ts Q) := ⟨d_call⟩
instance i_d_call0 {S : SpecD} {wr : WA} : StpD (wCall0 S wr χ ρ Q) (wr χ ρ fun ts ρ1 => callW S noX ρ1 ts Q) := ⟨d_call0⟩
instance i_d_meth {C : Addr} {m : Str} {S : SpecD} {wa : WE} {wr : WA} : StpD (wMeth C m S wa wr χ ρ Q) (wa χ ρ fun t0 ρ1 => Recv C m ρ1 t0 ∧ wr χ ρ1 fun ts ρ2 => callW S χ ρ2 (t0 :: ts) Q) := ⟨d_meth⟩
instance i_d_meth0 {C : Addr} {m : Str} {S : SpecD} {wa : WE} {wr : WA} : StpD (wMeth0 C m S wa wr χ ρ Q) (wa χ ρ fun t0 ρ1 => Recv C m ρ1 t0 ∧ wr χ ρ1 fun ts ρ2 => callW S noX ρ2 (t0 :: ts) Q) := ⟨d_meth0⟩
instance i_d_app {wa : WE} {wr : WA} : StpD (wApp wa wr χ ρ Q) (wa χ ρ fun t0 ρ1 => isLst ρ1 t0 ∧ wr χ ρ1 fun ts ρ2 => ∃ a i p xs t, t0 = .sh (.at a i p) ∧ ts = [t] ∧ gt ρ2 i p = some (.lst a xs) ∧ xs.length < 10000 ∧ Q (.sh .non) (pt ρ2 i p (.lst a (xs ++ [t])))) := ⟨d_app⟩
instance i_d_ins {wa : WE} {wr : WA} : StpD (wIns wa wr χ ρ Q) (wa χ ρ fun t0 ρ1 => isLst ρ1 t0 ∧ wr χ ρ1 fun ts ρ2 => ∃ (a : Addr) (i : Nat) (p : List Nat) (xs : List T) (n : Nat) (t : T), t0 = .sh (.at a i p) ∧ ts = [.sh (.int n), t] ∧ gt ρ2 i p = some (.lst a xs) ∧ xs.length < 10000 ∧ n ≤ xs.length ∧ Q (.sh .non) (pt ρ2 i p (.lst a (xs.take n ++ [t] ++ xs.drop n)))) := ⟨d_ins⟩
instance i_d_ext {χ : XD} {ρ : Env} {Q : T → Env → Prop} {wa : WE} {wr : WA} : StpD (wExt wa wr χ ρ Q) (wa χ ρ fun t0 ρ1 => isLst ρ1 t0 ∧ wr χ ρ1 fun ts ρ2 => ∃ (a : Addr) (i : Nat) (p : List Nat) (xs : List T) (t u : T) (es : List D), t0 = .sh (.at a i p) ∧ ts = [t] ∧ gt ρ2 i p = some (.lst a xs) ∧ Rs ρ2 t u ∧ u.lstK = some (es.map T.sh) ∧ xs.length + es.length ≤ 10000 ∧ Q (.sh .non) (pt ρ2 i p (.lst a (xs ++ es.map T.sh)))) := ⟨d_ext⟩
instance i_d_kget {χ : XD} {ρ : Env} {Q : T → Env → Prop} {tab : List (Str × Str)} {wa : WE} : StpD (wKGet tab wa χ ρ Q) (wa χ ρ fun t ρ1 => ∃ p ∈ tab, t = .sh (.str p.1) ∧ Q (.sh (.str p.2)) ρ1) := ⟨d_kget⟩
instance i_d_slT {χ : XD} {ρ : Env} {Q : T → Env → Prop} {wa : WE} {w1 w2 : WO} : StpD (wSlT wa w1 w2 χ ρ Q) (wa χ ρ fun t ρ1 => w1 χ ρ1 fun lo ρ2 => w2 χ ρ2 fun hi ρ3 => ∃ ds, t = .sh (.tup ds) ∧ Q (.sh (.tup (cutL ds lo hi))) ρ3) := ⟨d_slT⟩
instance i_d_star {χ : XD} {ρ : Env} {q : List T → Env → Prop} {we : WE} {wr : WA} : StpD (waStar we wr χ ρ q) (we χ ρ fun t ρ1 => ∃ u, Rs ρ1 t u ∧ ∃ ds : List D, u.seqK = some (ds.map T.sh) ∧ wr χ ρ1 fun ts ρ2 => q (ds.map T.sh ++ ts) ρ2) := ⟨d_star⟩
instance i_d_iZipS {χ : XD} {ρ : Env} {wa : WA} {q : List T → (Env → Prop) → Env → Prop} : StpD (wiZipS wa χ ρ q) (wa χ ρ fun ts ρ1 => ∃ z ds, ts = [.sh (.str z), .sh (.tup ds)] ∧ z.cps.size = ds.length ∧ q (zipST z ds) (fun _ => True) ρ1) := ⟨d_iZipS⟩
instance i_d_mat {k : WK} {ρ : Env} {we : WE} {wm : WM} : StpD (wMat we wm k ρ) (we k.xc ρ fun t ρ1 => wm t k ρ1) := ⟨d_mat⟩
instance i_d_many {k : WK} {ρ : Env} {t : T} {wb : WS} : StpD (wmAny wb t k ρ) (wb k ρ) := ⟨d_many⟩
instance i_d_mnil {k : WK} {ρ : Env} {t : T} : StpD (wmNil t k ρ) (k.nx ρ) := ⟨d_mnil⟩
instance i_d_istup {ds : List D} {P : List D → Prop} : StpD (∃ es, T.sh (.tup ds) = .sh (.tup es) ∧ P es) (P ds) := ⟨d_istup⟩
instance i_d_ixT0 {ρ : Env} {d : D} {ds : List D} {q : T → Prop} : StpD (fIxT ρ [.sh (.tup (d :: ds)), .sh (.int 0)] q) (q (.sh d)) := ⟨d_ixT0⟩
instance i_d_neg {ρ : Env} {i : Int} {q : T → Prop} : StpD (fNeg ρ [.sh (.int i)] q) (q (.sh (.int (-i)))) := ⟨d_neg⟩
instance i_d_for {wi : WI} {g : WG} {b : WS} : StpD (wFor wi g b k ρ) (wi k.xc ρ fun its P ρ1 => ∃ I : Nat → Env → Prop, I 0 ρ1 ∧ (∀ i ρ2, I i ρ2 → P ρ2) ∧
  (∀ (i : Nat) (t : T) (ρ2 : Env), its[i]? = some t → I i ρ2 → g t ρ2 fun ρ3 => b { k with nx := fun ρ' => ∃ ρ4, Pubs ρ' ρ4 ∧ I (i + 1) ρ4, ct := fun ρ' => ∃ ρ4, Pubs ρ' ρ4 ∧ I (i + 1) ρ4, bk := k.nx } ρ3) ∧ ∀ ρ2, I its.length ρ2 → k.nx ρ2) := ⟨d_for⟩
instance i_d_iList {wa : WE} {q : List T → (Env → Prop) → Env → Prop} : StpD (wiList wa χ ρ q) (wa χ ρ fun t ρ1 => ∃ u, Rs ρ1 t u ∧ ∃ xs ds, u.lstK = some xs ∧ allSh xs = some ds ∧ q (ds.map T.sh) (fun ρ => Rs ρ t u) ρ1) := ⟨d_iList⟩
instance i_d_iTup {wa : WE} {q : List T → (Env → Prop) → Env → Prop} : StpD (wiTup wa χ ρ q) (wa χ ρ fun t ρ1 => ∃ u, Rs ρ1 t u ∧ ∃ xs ds, u.tupK = some xs ∧ allSh xs = some ds ∧ q (ds.map T.sh) (fun ρ => Rs ρ t u) ρ1) := ⟨d_iTup⟩
instance i_d_iRng1 {wa : WA} {q : List T → (Env → Prop) → Env → Prop} : StpD (wiRng1 wa χ ρ q) (wa χ ρ fun ts ρ1 => ∃ j : Int, ts = [.sh (.int j)] ∧ (-(2 ^ 62) ≤ j ∧ j < 2 ^ 62) ∧ q (rngT 0 j.toNat) (fun _ => True) ρ1) := ⟨d_iRng1⟩
instance i_d_iStr {wa : WE} {q : List T → (Env → Prop) → Env → Prop} : StpD (wiStr wa χ ρ q) (wa χ ρ fun t ρ1 => ∃ z : Str, t = .sh (.str z) ∧ q (z.cps.toList.map fun c => .sh (.str ⟨#[c]⟩)) (fun _ => True) ρ1) := ⟨d_iStr⟩
instance i_d_lcT {χ : XD} {ρ : Env} {Q : T → Env → Prop} {i : Nat} {g : WG} {wt : WT} {we : WE} {vs : List Nat} : StpD (wLcT i g wt we vs χ ρ Q) (∃ (a : Addr) (ks : List (List Key)) (ds : List D), ρ[i]? = some (.dT a ks (ds.map T.sh)) ∧ ∃ I : Nat → Env → List T → Prop, I 0 (wipeE (ρ.set i (.sh (.at a i []))) vs) [] ∧ (∀ j ρ2 acc, I j ρ2 acc → ρ2[i]? = some (.sh (.at a i [])) ∧ acc.length < 10000) ∧
  (∀ (j : Nat) (ky : List Key) (ρ2 : Env) (acc : List T), ks[j]? = some ky → I j ρ2 acc → g (.sh (.tup (ky.map kD))) ρ2 fun ρ3 => wt noX ρ3 fun b ρ4 => if b = true then we noX ρ4 fun y ρ5 => ∃ y', PubT y y' ∧ I (j + 1) (wipeE ρ5 vs) (acc ++ [y']) else I (j + 1) (wipeE ρ4 vs) acc) ∧ ∀ ρ2 acc, I ks.length ρ2 acc → ∀ b, Q (.lst b acc) ((wipeE ρ2 vs).set i (.dT a ks (ds.map T.sh)))) := ⟨d_lcT⟩
instance i_d_lc {wi : WI} {g : WG} {wt : WT} {we : WE} {vs : List Nat} : StpD (wLc wi g wt we vs χ ρ Q) (wi χ ρ fun its P ρ1 => ∃ I : Nat → Env → List T → Prop, I 0 (wipeE ρ1 vs) [] ∧ (∀ i ρ2 acc, I i ρ2 acc → P ρ2 ∧ acc.length < 10000) ∧
  (∀ (i : Nat) (t : T) (ρ2 : Env) (acc : List T), its[i]? = some t → I i ρ2 acc → g t ρ2 fun ρ3 => wt noX ρ3 fun b ρ4 => if b = true then we noX ρ4 fun y ρ5 => ∃ y', PubT y y' ∧ I (i + 1) (wipeE ρ5 vs) (acc ++ [y']) else I (i + 1) (wipeE ρ4 vs) acc) ∧ ∀ ρ2 acc, I its.length ρ2 acc → ∀ a, Q (.lst a acc) (wipeE ρ2 vs)) := ⟨d_lc⟩
instance i_d_dc {χ : XD} {ρ : Env} {Q : T → Env → Prop} {wi : WI} {g : WG} {wt : WT} {wk we : WE} {vs : List Nat} : StpD (wDc wi g wt wk we vs χ ρ Q) (wi χ ρ fun its P ρ1 => ∃ I : Nat → Env → List Key → List T → Prop, I 0 (wipeE ρ1 vs) [] [] ∧ (∀ i ρ2 ks xs, I i ρ2 ks xs → P ρ2 ∧ ks.length < 10000) ∧
  (∀ (i : Nat) (t : T) (ρ2 : Env) (ks : List Key) (xs : List T), its[i]? = some t → I i ρ2 ks xs → g t ρ2 fun ρ3 => wt noX ρ3 fun b ρ4 => if b = true then wk noX ρ4 fun tk ρ5 => we noX ρ5 fun y ρ6 => ∃ d ky y' ks' xs', tk = .sh d ∧ d.key = some ky ∧ PubT y y' ∧ PutR ks xs ky y' ks' xs' ∧ I (i + 1) (wipeE ρ6 vs) ks' xs' else I (i + 1) (wipeE ρ4 vs) ks xs) ∧ ∀ ρ2 ks xs, I its.length ρ2 ks xs → ∀ a, Q (.dK a ks xs) (wipeE ρ2 vs)) := ⟨d_dc⟩
instance i_d_isntB {ρ : Env} {x y : Bool} {q : T → Prop} : StpD (fIsntB ρ [.sh (.bl x), .sh (.bl y)] q) (q (.sh (.bl (x != y)))) := ⟨d_isntB⟩
instance i_d_eqLH {χ : XD} {ρ : Env} {Q : T → Env → Prop} {wa wb : WE} : StpD (wEqLH wa wb χ ρ Q) (wa χ ρ fun t1 ρ1 => wb χ ρ1 fun t2 ρ2 => ∃ u1 u2, ∃ ds : List D, Rs ρ2 t1 u1 ∧ Rs ρ2 t2 u2 ∧ u1.lstK = some (ds.map T.sh) ∧ u2.lstK = some (ds.map T.sh) ∧ (∀ d ∈ ds, ∃ (ks : List Key) (xs : List D) (ws : List V), d = .dK ks xs ∧ ks.Nodup ∧ svs (xs.map T.sh) = some ws) ∧ Q (.sh (.bl true)) ρ2) := ⟨d_eqLH⟩
instance i_d_eqDA {χ : XD} {ρ : Env} {Q : T → Env → Prop} {wa wb : WE} : StpD (wEqDA wa wb χ ρ Q) (wa χ ρ fun t1 ρ1 => wb χ ρ1 fun t2 ρ2 => ∃ u1 u2 ks xs ws, Rs ρ2 t1 u1 ∧ Rs ρ2 t2 u2 ∧ u1.dictK = some (ks, xs) ∧ u2.dictK = some (ks, xs) ∧ ks.Nodup ∧ svs xs = some ws ∧ Q (.sh (.bl true)) ρ2) := ⟨d_eqDA⟩
instance i_d_lenO {χ : XD} {ρ : Env} {Q : T → Env → Prop} {C : Addr} {S : SpecD} {wa : WA} : StpD (wLenO C S wa χ ρ Q) (wa χ ρ fun ts ρ1 => ∃ t, ts = [t] ∧ (∃ u, Rs ρ1 t u ∧ ∃ fs, u.cls = some (C, fs)) ∧ callW S noX ρ1 [t] fun z ρ2 => ∃ n : Nat, n < 10000 ∧ z = .sh (.int (n : Nat)) ∧ Q (.sh (.int (n : Nat))) ρ2) := ⟨d_lenO⟩
instance i_d_idx {χ : XD} {ρ : Env} {Q : T → Env → Prop} {wa : WE} {wr : WA} : StpD (wIdx wa wr χ ρ Q) (wa χ ρ fun t0 ρ1 => isLst ρ1 t0 ∧ wr χ ρ1 fun ts ρ2 => ∃ d y u xs ws j z, ts = [.sh d] ∧ d.sv = some y ∧ Rs ρ2 t0 u ∧ u.lstK = some xs ∧ svs xs = some ws ∧ ws[j]? = some z ∧ eqV z y = true ∧ (∀ (m : Nat) (z' : V), m < j → ws[m]? = some z' → eqV z' y = false) ∧ Q (.sh (.int (j : Nat))) ρ2) := ⟨d_idx⟩
instance i_d_idxD {χ : XD} {ρ : Env} {Q : T → Env → Prop} {wa : WE} {wr : WA} : StpD (wIdxD wa wr χ ρ Q) (wa χ ρ fun t0 ρ1 => isLst ρ1 t0 ∧ wr χ ρ1 fun ts ρ2 => ∃ t u0 u d ds j z, ts = [t] ∧ Rs ρ2 t0 u0 ∧ Rs ρ2 t u ∧ u0.py = some (.list ds) ∧ u.py = some d ∧ SeqAt.shaped (.list ds) = true ∧ SeqAt.shaped d = true ∧ ds[j]? = some z ∧ PyData.eqv z d = true ∧ (∀ (m : Nat) (z' : PyData), m < j → ds[m]? = some z' → PyData.eqv z' d = false) ∧ Q (.sh (.int (j : Nat))) ρ2) := ⟨d_idxD⟩
instance i_d_eqO {χ : XD} {ρ : Env} {Q : T → Env → Prop} {C : Addr} {S : SpecD} {wa wb : WE} : StpD (wEqO C S wa wb χ ρ Q) (wa χ ρ fun t1 ρ1 => wb χ ρ1 fun t2 ρ2 => (∃ u1, Rs ρ2 t1 u1 ∧ ∃ fs, u1.cls = some (C, fs)) ∧ (∃ u2, Rs ρ2 t2 u2 ∧ ∃ fs, u2.cls = some (C, fs)) ∧ callW S noX ρ2 [t1, t2] fun z ρ3 => ∃ b, z = .sh (.bl b) ∧ Q (.sh (.bl b)) ρ3) := ⟨d_eqO⟩
instance i_d_iEnumT {χ : XD} {ρ : Env} {wa : WA} {q : List T → (Env → Prop) → Env → Prop} : StpD (wiEnumT wa χ ρ q) (wa χ ρ fun ts ρ1 => ∃ t, ts = [t] ∧ ∃ u, Rs ρ1 t u ∧ ∃ xs ds, u.tupK = some xs ∧ allSh xs = some ds ∧ q (enumT ds) (fun ρ => Rs ρ t u) ρ1) := ⟨d_iEnumT⟩
instance i_d_iEnum {χ : XD} {ρ : Env} {wa : WA} {q : List T → (Env → Prop) → Env → Prop} : StpD (wiEnum wa χ ρ q) (wa χ ρ fun ts ρ1 => ∃ t, ts = [t] ∧ ∃ u, Rs ρ1 t u ∧ ∃ xs ds, u.lstK = some xs ∧ allSh xs = some ds ∧ q (enumT ds) (fun ρ => Rs ρ t u) ρ1) := ⟨d_iEnum⟩
instance i_d_int {ρ : Env} {q : T → Prop} {i : Int} : StpD (fInt ρ [.sh (.int i)] q) (q (.sh (.int i))) := ⟨d_int⟩
instance i_d_intb {ρ : Env} {q : T → Prop} {b : Bool} : StpD (fInt ρ [.sh (.bl b)] q) (q (.sh (.int (if b then 1 else 0)))) := ⟨d_intb⟩
instance i_d_din {wk wd : WE} : StpD (wDIn false wk wd χ ρ Q) (wk χ ρ fun tk ρ1 => wd χ ρ1 fun t ρ2 => ∃ u, Rs ρ2 t u ∧ ∃ ks xs d k, u.dictK = some (ks, xs) ∧ tk = .sh d ∧ d.key = some k ∧ Q (.sh (.bl (kfind ks k).isSome)) ρ2) := ⟨d_din⟩
instance i_d_dnin {wk wd : WE} : StpD (wDIn true wk wd χ ρ Q) (wk χ ρ fun tk ρ1 => wd χ ρ1 fun t ρ2 => ∃ u, Rs ρ2 t u ∧ ∃ ks xs d k, u.dictK = some (ks, xs) ∧ tk = .sh d ∧ d.key = some k ∧ Q (.sh (.bl (!(kfind ks k).isSome))) ρ2) := ⟨d_dnin⟩
instance i_d_ninRg {χ : XD} {ρ : Env} {Q : T → Env → Prop} {wk wn : WE} : StpD (wNinRg wk wn χ ρ Q) (wk χ ρ fun tk ρ1 => wn χ ρ1 fun tn ρ2 => ∃ k j : Int, tk = .sh (.int k) ∧ tn = .sh (.int j) ∧ Q (.sh (.bl (!decide (0 ≤ k ∧ k < j)))) ρ2) := ⟨d_ninRg⟩
instance i_d_dinT {χ : XD} {ρ : Env} {Q : T → Env → Prop} {wk wd : WE} : StpD (wDInT false wk wd χ ρ Q) (wk χ ρ fun tk ρ1 => wd χ ρ1 fun t ρ2 => ∃ u, Rs ρ2 t u ∧ ∃ ks xs d k, u.dictT = some (ks, xs) ∧ tk = .sh d ∧ d.keyT = some k ∧ Q (.sh (.bl (kfind ks k).isSome)) ρ2) := ⟨d_dinT⟩
instance i_d_dninT {χ : XD} {ρ : Env} {Q : T → Env → Prop} {wk wd : WE} : StpD (wDInT true wk wd χ ρ Q) (wk χ ρ fun tk ρ1 => wd χ ρ1 fun t ρ2 => ∃ u, Rs ρ2 t u ∧ ∃ ks xs d k, u.dictT = some (ks, xs) ∧ tk = .sh d ∧ d.keyT = some k ∧ Q (.sh (.bl (!(kfind ks k).isSome))) ρ2) := ⟨d_dninT⟩
instance i_d_tru {wa : WE} {qb : Bool → Env → Prop} : StpD (wTru wa χ ρ qb) (wa χ ρ fun t ρ1 => ∃ u, Rs ρ1 t u ∧ ((∃ xs, u.seqK = some xs ∧ qb (!xs.isEmpty) ρ1) ∨ (u = .sh .non ∧ qb false ρ1) ∨ (∃ b, u = .sh (.bl b) ∧ qb b ρ1) ∨ ∃ i, u = .sh (.int i) ∧ qb (i != 0) ρ1)) := ⟨d_tru⟩
instance i_d_raise {C : Addr} {fl : List Str} {wa : WA} : StpD (wRaise C fl wa k ρ) (wa k.xc ρ fun ts ρ1 => ∃ ds, pubL ts = some ds ∧ ds.length = fl.length ∧ ds.length ≤ 900 ∧ k.xc C fl.reverse ds.reverse ρ1) := ⟨d_raise⟩
instance i_d_make {C : Addr} {S : SpecD} {wr : WA} : StpD (wMake C S wr χ ρ Q) (wr χ ρ fun ts ρ1 => ∀ a, ∃ ρ2 ts2 ls, LendL ρ1 ts ρ2 ts2 ls ∧ S (.obj a C [] [] :: ts2) (fun t us => t = .sh .non ∧ ∃ u us' ρ3, us = u :: us' ∧ BackL ρ2 ls us' ρ3 ∧ Q u ρ3) (fun C fl ds us => ∃ u us' ρ3, us = u :: us' ∧ BackL ρ2 ls us' ρ3 ∧ χ C fl ds ρ3)) := ⟨d_make⟩
instance i_d_gnil {p : Prop} : StpD (([] : List T) = [] ∧ p) (p) := ⟨d_gnil⟩
instance i_d_gsub {ρ : Env} {t : T} {wa wi : WE} {k : Env → Prop} : StpD (gwSub wa wi t ρ k) (wa noX ρ fun t0 ρ1 => wi noX ρ1 fun ti ρ2 => ∃ a i p xs kk n, t0 = .sh (.at a i p) ∧ ti = .sh (.int kk) ∧ gt ρ2 i p = some (.lst a xs) ∧ ixN xs.length kk = some n ∧ k (pt ρ2 i p (.lst a (xs.set n t)))) := ⟨d_gsub⟩
instance i_d_dput {k : WK} {ρ : Env} {wd wk wv : WE} : StpD (wDPut wd wk wv k ρ) (wv k.xc ρ fun t1 ρ1 => wd k.xc ρ1 fun t0 ρ2 => wk k.xc ρ2 fun tk ρ3 => ∃ a i p ks xs d ky ks' xs', t0 = .sh (.at a i p) ∧ tk = .sh d ∧ d.key = some ky ∧ gt ρ3 i p = some (.dK a ks xs) ∧ ks.length < 10000 ∧ PutR ks xs ky t1 ks' xs' ∧ k.nx (pt ρ3 i p (.dK a ks' xs'))) := ⟨d_dput⟩
instance i_d_sfld {K : PySem.W.Frag} {f : Str} {k : WK} {ρ : Env} {wa wv : WE} : StpD (wSFld K f wa wv k ρ) (wv k.xc ρ fun t10 ρ1 => ∃ t1, (t1 = t10 ∨ ∃ d, t10.pub = some d ∧ t1 = .sh d) ∧ wa k.xc ρ1 fun t0 ρ2 => ∃ a i p C fs xs fs' xs', t0 = .sh (.at a i p) ∧ gt ρ2 i p = some (.obj a C fs xs) ∧ (Cls K C ∧ NoAttr K C f) ∧ fs.length < 900 ∧ PutR fs xs f t1 fs' xs' ∧ k.nx (pt ρ2 i p (.obj a C fs' xs'))) := ⟨d_sfld⟩
instance i_d_join {χ : XD} {ρ : Env} {Q : T → Env → Prop} {wa wr : WE} : StpD (wJoin wa wr χ ρ Q) (wa χ ρ fun t0 ρ1 => ∃ z, t0 = .sh (.str z) ∧ wr χ ρ1 fun t ρ2 => ∃ u, Rs ρ2 t u ∧ ∃ ys : List Str, u.seqK = some (ys.map fun y => T.sh (.str y)) ∧ (ys.map (·.length)).sum + ys.length * z.length ≤ 16777216 ∧ Q (.sh (.str (Txt.join z ys))) ρ2) := ⟨d_join⟩
instance i_d_iss {z : Str} {P : Str → Prop} : StpD (∃ y, T.sh (.str z) = .sh (.str y) ∧ P y) (P z) := ⟨d_iss⟩
instance i_d_xvf {χ : XD} {ρ : Env} {Q : T → Env → Prop} {f : Str} {wa : WE} : StpE (wXvf K f wa χ ρ Q) (wa χ ρ fun t ρ1 => ∃ C fl ds n d, t = .sh (.xv C fl ds) ∧ XfC K C ∧ PySem.W.findIn K (.ref C) f = some none ∧ kfind fl f = some n ∧ ds[n]? = some d ∧ Q (.sh d) ρ1) := ⟨d_xvf⟩
instance i_d_mkV {χ : XD} {ρ : Env} {Q : T → Env → Prop} {C : Addr} {fl : List Str} {wa : WA} : StpE (wMkV C fl wa χ ρ Q) (wa χ ρ fun ts ρ1 => ∃ ds, pubL ts = some ds ∧ ds.length = fl.length ∧ ds.length ≤ 900 ∧ Q (.sh (.xv C fl.reverse ds.reverse)) ρ1) := ⟨d_mkV⟩
instance i_d_dgetT {χ : XD} {ρ : Env} {Q : T → Env → Prop} {wd wk : WE} : StpE (wDGetT wd wk χ ρ Q) (wd χ ρ fun t ρ1 => wk χ ρ1 fun tk ρ2 => ∃ u, Rs ρ2 t u ∧ ∃ ks xs d k n x y, u.dictT = some (ks, xs) ∧ tk = .sh d ∧ d.keyT = some k ∧ kfind ks k = some n ∧ xs[n]? = some x ∧ t.rdk x n = some y ∧ Q y ρ2) := ⟨d_dgetT⟩
instance i_d_get1 {χ : XD} {ρ : Env} {Q : T → Env → Prop} {wd wk : WE} : StpE (wGet1 wd wk χ ρ Q) (wd χ ρ fun t ρ1 => isDct ρ1 t ∧ wk χ ρ1 fun tk ρ2 => ∃ u, Rs ρ2 t u ∧ ∃ ks xs d ky, u.dictK = some (ks, xs) ∧ tk = .sh d ∧ d.key = some ky ∧ (∀ n, kfind ks ky = some n → ∃ x y, xs[n]? = some x ∧ t.rdk x n = some y ∧ Q y ρ2) ∧ (kfind ks ky = none → Q (.sh .non) ρ2)) := ⟨d_get1⟩
instance i_d_dnewT {χ : XD} {ρ : Env} {Q : T → Env → Prop} : StpE (wDNewT χ ρ Q) (∀ p, Q (.dT p [] []) ρ) := ⟨d_dnewT⟩
instance i_d_dcI {χ : XD} {ρ : Env} {Q : T → Env → Prop} {wd : WE} {g : WG} {wt : WT} {wk we : WE} {vs : List Nat} : StpE (wDcI wd g wt wk we vs χ ρ Q) (wd χ ρ fun t ρ1 => ∃ ks ds, t.pub = some (.dK ks ds) ∧ ks.length = ds.length ∧ ∃ I : Nat → Env → List Key → List T → Prop, I 0 (wipeE ρ1 vs) [] [] ∧ (∀ i ρ2 ks xs, I i ρ2 ks xs → ks.length < 10000) ∧
  (∀ (i : Nat) (t : T) (ρ2 : Env) (ks' : List Key) (xs : List T), (itemsT ks ds)[i]? = some t → I i ρ2 ks' xs → g t ρ2 fun ρ3 => wt noX ρ3 fun b ρ4 => if b = true then wk noX ρ4 fun tk ρ5 => we noX ρ5 fun y ρ6 => ∃ d ky y' ks2 xs', tk = .sh d ∧ d.key = some ky ∧ PubT y y' ∧ PutR ks' xs ky y' ks2 xs' ∧ I (i + 1) (wipeE ρ6 vs) ks2 xs' else I (i + 1) (wipeE ρ4 vs) ks' xs) ∧ ∀ ρ2 ks' xs, I (itemsT ks ds).length ρ2 ks' xs → ∀ a, Q (.dK a ks' xs) (wipeE ρ2 vs)) := ⟨d_dcI⟩
instance i_d_tryF {k : WK} {ρ : Env} {C : Addr} {i : Nat} {wb : WS} {wh : Addr → WE} : StpE (wTryF K C i wb wh k ρ) (wb { k with xc := fun C' fl ds ρ' => C' = C ∧ PySem.W.exmOne K (.ref C) (.ref C) = some true ∧ i < ρ'.length ∧ ∀ dd, wh dd noX (ρ'.set i (.sh (.exc C dd fl ds))) k.rt } ρ) := ⟨d_tryF⟩
instance i_d_tryM {k : WK} {ρ : Env} {m : List (Addr × WS)} {wb wu : WS} : StpE (wTryM K m wb wu k ρ) (wb { k with nx := wu k, xc := wHds K k m } ρ) := ⟨d_tryM⟩
instance i_d_oSome {χ : XD} {ρ : Env} {Q : Option Int → Env → Prop} {w : WE} : StpE (woSome w χ ρ Q) (w χ ρ fun t ρ1 => ∃ i, t = .sh (.int i) ∧ Q (some i) ρ1) := ⟨d_oSome⟩
instance i_d_only {χ : XD} {ρ : Env} {Q : T → Env → Prop} {we : WE} : StpE (wOnly a we χ ρ Q) (we χ ρ fun t ρ1 => t = .sh (.at a 0 []) ∧ Q t ρ1) := ⟨d_only⟩
instance i_d_isat {P : Prop} : StpE (T.sh (.at a 0 []) = .sh (.at a 0 []) ∧ P) (P) := ⟨d_isat⟩
instance i_d_lenK {χ : XD} {ρ : Env} {Q : T → Env → Prop} {we : WE} : StpE (wLenK a we χ ρ Q) (we χ ρ fun t ρ1 => t = .sh (.at a 0 []) ∧ Q (.sh (.int 0)) ρ1) := ⟨d_lenK⟩
instance i_d_isiTK {χ : XD} {ρ : Env} {Q : T → Env → Prop} {we : WE} {wr : WA} : StpE (wIsiTK a we wr χ ρ Q) (we χ ρ fun t ρ1 => t = .sh (.at a 0 []) ∧ wr χ ρ1 fun ts ρ2 => ts = [.sh (.tup [.ty "list", .ty "tuple"])] ∧ Q (.sh (.bl true)) ρ2) := ⟨d_isiTK⟩
instance i_d_iTupE {χ : XD} {ρ : Env} {we : WE} {q : List T → (Env → Prop) → Env → Prop} : StpE (wiTupE a we χ ρ q) (we χ ρ fun t ρ1 => t = .sh (.at a 0 []) ∧ q [] (fun _ => True) ρ1) := ⟨d_iTupE⟩
instance i_d_oNone {χ : XD} {ρ : Env} {Q : Option Int → Env → Prop} : StpE (woNone χ ρ Q) (Q none ρ) := ⟨d_oNone⟩
instance i_d_isI {k : Int} {P : Int → Prop} : StpE (∃ i, T.sh (.int k) = .sh (.int i) ∧ P i) (P k) := ⟨d_isI⟩
instance i_d_dputT {k : WK} {ρ : Env} {wd wk wv : WE} : StpE (wDPutT wd wk wv k ρ) (wv k.xc ρ fun t1 ρ1 => wd k.xc ρ1 fun t0 ρ2 => wk k.xc ρ2 fun tk ρ3 => ∃ a i p ks xs d ky ks' xs', t0 = .sh (.at a i p) ∧ tk = .sh d ∧ d.keyT = some ky ∧ gt ρ3 i p = some (.dT a ks xs) ∧ ks.length < 10000 ∧ PutR ks xs ky t1 ks' xs' ∧ k.nx (pt ρ3 i p (.dT a ks' xs'))) := ⟨d_dputT⟩
instance i_d_get1N {χ : XD} {ρ : Env} {Q : T → Env → Prop} {wd wk : WE} : Stp (wGet1N wd wk χ ρ Q) (wd χ ρ fun t ρ1 => isDctT ρ1 t ∧ wk χ ρ1 fun tk ρ2 => ∃ u, Rs ρ2 t u ∧ ∃ ks xs d, u.dictT = some (ks, xs) ∧ tk = .sh d ∧ ((∃ ky, d.keyT = some ky ∧ (∀ n, kfind ks ky = some n → ∃ x y, xs[n]? = some x ∧ t.rdk x n = some y ∧ Q y ρ2) ∧ (kfind ks ky = none → Q (.sh .non) ρ2)) ∨ (d = .non ∧ Q (.sh .non) ρ2))) := ⟨d_get1N⟩
instance i_d_get1T {χ : XD} {ρ : Env} {Q : T → Env → Prop} {wd wk : WE} : Stp (wGet1T wd wk χ ρ Q) (wd χ ρ fun t ρ1 => isDctT ρ1 t ∧ wk χ ρ1 fun tk ρ2 => ∃ u, Rs ρ2 t u ∧ ∃ ks xs d ky, u.dictT = some (ks, xs) ∧ tk = .sh d ∧ d.keyT = some ky ∧ (∀ n, kfind ks ky = some n → ∃ x y, xs[n]? = some x ∧ t.rdk x n = some y ∧ Q y ρ2) ∧ (kfind ks ky = none → Q (.sh .non) ρ2)) := ⟨d_get1T⟩
instance i_d_get2T {χ : XD} {ρ : Env} {Q : T → Env → Prop} {wd wk wx : WE} : Stp (wGet2T wd wk wx χ ρ Q) (wd χ ρ fun t ρ1 => isDctT ρ1 t ∧ wk χ ρ1 fun tk ρ2 => wx χ ρ2 fun tx ρ3 => ∃ dx, tx = .sh dx ∧ ∃ u, Rs ρ3 t u ∧ ∃ ks xs d ky, u.dictT = some (ks, xs) ∧ tk = .sh d ∧ d.keyT = some ky ∧ (∀ n, kfind ks ky = some n → ∃ x y, xs[n]? = some x ∧ t.rdk x n = some y ∧ Q y ρ3) ∧ (kfind ks ky = none → Q (.sh dx) ρ3)) := ⟨d_get2T⟩
instance i_d_get2 {wd wk wx : WE} : Stp (wGet2 wd wk wx χ ρ Q) (wd χ ρ fun t ρ1 => isDct ρ1 t ∧ wk χ ρ1 fun tk ρ2 => wx χ ρ2 fun tx ρ3 => ∃ dx, tx = .sh dx ∧ ∃ u, Rs ρ3 t u ∧ ∃ ks xs d ky, u.dictK = some (ks, xs) ∧ tk = .sh d ∧ d.key = some ky ∧ (∀ n, kfind ks ky = some n → ∃ x y, xs[n]? = some x ∧ t.rdk x n = some y ∧ Q y ρ3) ∧ (kfind ks ky = none → Q (.sh dx) ρ3)) := ⟨d_get2⟩
instance i_d_pop {wa : WE} : Stp (wPop wa χ ρ Q) (wa χ ρ fun t0 ρ1 => isLst ρ1 t0 ∧ ∃ (a : Addr) (i : Nat) (p : List Nat) (xs : List T) (t : T), t0 = .sh (.at a i p) ∧ gt ρ1 i p = some (.lst a (xs ++ [t])) ∧ Q t (pt ρ1 i p (.lst a xs))) := ⟨d_pop⟩
instance i_d_appT {wa : WE} {wr : WA} : Stp (wAppT wa wr χ ρ Q) (wa χ ρ fun t0 ρ1 => (∃ a xs, t0 = .lst a xs) ∧ wr χ ρ1 fun ts ρ2 => ∃ a xs t, t0 = .lst a xs ∧ ts = [t] ∧ xs.length < 10000 ∧ Q (.sh .non) ρ2) := ⟨d_appT⟩
instance i_d_re {i : Nat} {p : List Nat} {wa : WE} : Stp (wRe i p wa χ ρ Q) (wa χ ρ fun t ρ1 => ∃ a i0 p0, t = .sh (.at a i0 p0) ∧ Q (.sh (.at a i p)) ρ1) := ⟨d_re⟩
instance i_d_slL {χ : XD} {ρ : Env} {Q : T → Env → Prop} {wa : WE} {w1 w2 : WO} : Stp (wSlL wa w1 w2 χ ρ Q) (wa χ ρ fun t ρ1 => w1 χ ρ1 fun lo ρ2 => w2 χ ρ2 fun hi ρ3 => ∃ u, Rs ρ3 t u ∧ ∃ xs ds, u.lstQ = some xs ∧ allSh xs = some ds ∧ ∀ a, Q (.lst a ((cutL ds lo hi).map T.sh)) ρ3) := ⟨d_slL⟩
instance i_d_iListP {χ : XD} {ρ : Env} {wa : WE} {q : List T → (Env → Prop) → Env → Prop} : Stp (wiListP wa χ ρ q) (wa χ ρ fun t ρ1 => ∃ ds, t.pub = some (.lst ds) ∧ q (ds.map T.sh) (fun _ => True) ρ1) := ⟨d_iListP⟩
instance i_d_make0 {χ : XD} {ρ : Env} {Q : T → Env → Prop} {C : Addr} {S : SpecD} {wr : WA} : Stp (wMake0 C S wr χ ρ Q) (wr χ ρ fun ts ρ1 => ∀ a, ∃ ρ2 ts2 ls, LendL ρ1 ts ρ2 ts2 ls ∧ S (.obj a C [] [] :: ts2) (fun t us => t = .sh .non ∧ ∃ u us' ρ3, us = u :: us' ∧ BackL ρ2 ls us' ρ3 ∧ Q u ρ3) (fun C fl ds us => ∃ u us' ρ3, us = u :: us' ∧ BackL ρ2 ls us' ρ3 ∧ noX C fl ds ρ3)) := ⟨d_make0⟩
instance i_d_rev {a : Addr} {i i0 : Nat} {p p0 : List Nat} {P : T → Prop} : Stp (∃ a' i0' p0', T.sh (.at a i0 p0) = .sh (.at a' i0' p0') ∧ P (.sh (.at a' i p))) (P (.sh (.at a i p))) := ⟨d_rev⟩
instance i_d_orO {χ : XD} {ρ : Env} {C : Addr} {S : SpecD} {wa wb : WE} {Q : T → Env → Prop} : Stp (wOrO C S wa wb χ ρ Q) (wa χ ρ fun t1 ρ1 => wb χ ρ1 fun t2 ρ2 => (∃ u1, Rs ρ2 t1 u1 ∧ ∃ fs, u1.cls = some (C, fs)) ∧ (∃ u2, Rs ρ2 t2 u2 ∧ ∃ fs, u2.cls = some (C, fs)) ∧ callW S noX ρ2 [t1, t2] fun z ρ3 => (∃ a C' fs xs, z = .obj a C' fs xs) ∧ Q z ρ3) := ⟨d_orO⟩
instance i_d_isB {ρ : Env} {d : D} {b : Bool} {q : T → Prop} : Stp (fIsB ρ [.sh d, .sh (.bl b)] q) (q (.sh (.bl (d.isB b)))) := ⟨d_isB⟩
instance i_d_disp {χ : XD} {ρ : Env} {Q : T → Env → Prop} {ws : List (WE × WE)} : Stp (wDisp ws χ ρ Q) (wPs ws χ ρ fun ks ts ρ1 => ks.Nodup ∧ ks.length ≤ 15 ∧ ∀ a, Q (.dK a ks ts) ρ1) := ⟨d_disp⟩
instance i_d_ps1 {χ : XD} {ρ : Env} {Q : List Key → List T → Env → Prop} {wk wv : WE} {r : List (WE × WE)} : Stp (wPs ((wk, wv) :: r) χ ρ Q) (wk χ ρ fun t ρ1 => ∃ ky, t = .sh (kD ky) ∧ wv χ ρ1 fun u ρ2 => wPs r χ ρ2 fun ks ts ρ3 => Q (ky :: ks) (u :: ts) ρ3) := ⟨d_ps1⟩
instance i_d_ps0 {χ : XD} {ρ : Env} {Q : List Key → List T → Env → Prop} : Stp (wPs [] χ ρ Q) (Q [] [] ρ) := ⟨d_ps0⟩
instance i_d_kyS {z : Str} {P : Key → Prop} : Stp (∃ ky, T.sh (D.str z) = .sh (kD ky) ∧ P ky) (P (.inr z)) := ⟨d_kyS⟩
instance i_d_forV {wd : WE} {wg : WG} {wb : WS} {k : WK} {ρ : Env} : Stp (wForV wd wg wb k ρ) (∃ (i : Nat) (p : List Nat) (a : Addr) (ks : List Key) (ds : List D), gt ρ i p = some (.dK a ks (ds.map T.sh)) ∧ wd noX (pt ρ i p (.sh (.at a i p))) (fun t ρ1 => (∃ i' p', t = .sh (.at a i' p')) ∧ ρ1 = pt ρ i p (.sh (.at a i p))) ∧ ∃ I : Nat → Env → Prop, I 0 (pt ρ i p (.sh (.at a i p))) ∧ (∀ j ρ2, I j ρ2 → gt ρ2 i p = some (.sh (.at a i p))) ∧
  (∀ (j : Nat) (d : D) (ρ2 : Env), ds[j]? = some d → I j ρ2 → wg (.sh d) ρ2 fun ρ3 => wb ⟨fun ρ' => ∃ ρ4, Pubs ρ' ρ4 ∧ I (j + 1) ρ4, fun _ _ => False, fun _ => False, fun ρ' => ∃ ρ4, Pubs ρ' ρ4 ∧ I (j + 1) ρ4, noX⟩ ρ3) ∧ ∀ ρ2, I ds.length ρ2 → k.nx (pt ρ2 i p (.dK a ks (ds.map T.sh)))) := ⟨d_forV⟩
instance i_d_keep {t : T} {P : T → Prop} : Stp (∃ t1, (t1 = t ∨ ∃ d, t.pub = some d ∧ t1 = .sh d) ∧ P t1) (P t) := ⟨d_keep⟩
end E
set_option Elab.async false
set_option linter.all false
set_option maxRecDepth 100000
set_option maxHeartbeats 4000000
namespace Z
open PySem PySem.Spec PyProof.Rows L2 G E
local macro_rules | `(tactic| fail "s1") => `(tactic| ((with_reducible apply d_le10); exact of_decide_eq_true rfl))
local macro_rules | `(tactic| fail "s1") => `(tactic| with_reducible refine d_iF rfl ?_)
local macro_rules | `(tactic| fail "s1") => `(tactic| with_reducible refine d_iT rfl ?_)
local macro_rules | `(tactic| fail "s1") => `(tactic| with_reducible refine d_iss ?_)
local macro_rules | `(tactic| fail "s1") => `(tactic| with_reducible refine d_join ?_)
local macro_rules | `(tactic| fail "s1") => `(tactic| with_reducible refine d_sfld ?_)
local macro_rules | `(tactic| fail "s1") => `(tactic| with_reducible refine d_dputT ?_)
local macro_rules | `(tactic| fail "s1") => `(tactic| with_reducible refine d_dput ?_)
local macro_rules | `(tactic| fail "s1") => `(tactic| with_reducible refine d_gsub ?_)
local macro_rules | `(tactic| fail "s1") => `(tactic| ((with_reducible apply d_gconsN); exact of_decide_eq_true rfl; fail "nz"))
local macro_rules | `(tactic| fail "s1") => `(tactic| with_reducible refine d_augw (of_decide_eq_true rfl) ?_)
local macro_rules | `(tactic| fail "s1") => `(tactic| with_reducible refine d_gnil ?_)
local macro_rules | `(tactic| fail "s1") => `(tactic| with_reducible refine d_gtup rfl ?_)
local macro_rules | `(tactic| fail "s1") => `(tactic| with_reducible refine d_gtup3 rfl ?_)
local macro_rules | `(tactic| fail "s1") => `(tactic| with_reducible refine d_gtup2 rfl ?_)
local macro_rules | `(tactic| fail "s1") => `(tactic| ((with_reducible apply d_aug); exact rfl))
local macro_rules | `(tactic| fail "s1") => `(tactic| with_reducible refine d_make ?_)
local macro_rules | `(tactic| fail "s1") => `(tactic| with_reducible refine d_raise ?_)
local macro_rules | `(tactic| fail "s1") => `(tactic| with_reducible refine d_tru ?_)
local macro_rules | `(tactic| fail "s1") => `(tactic| with_reducible refine d_dninT ?_)
local macro_rules | `(tactic| fail "s1") => `(tactic| with_reducible refine d_dinT ?_)
local macro_rules | `(tactic| fail "s1") => `(tactic| with_reducible refine d_ninRg ?_)
local macro_rules | `(tactic| fail "s1") => `(tactic| with_reducible refine d_dnin ?_)
local macro_rules | `(tactic| fail "s1") => `(tactic| with_reducible refine d_din ?_)
local macro_rules | `(tactic| fail "s1") => `(tactic| ((with_reducible apply d_lenR); (fail "rs"); exact rfl))
local macro_rules | `(tactic| fail "s1") => `(tactic| ((with_reducible apply d_isi false); (fail "rs"); exact rfl; decide +kernel))
local macro_rules | `(tactic| fail "s1") => `(tactic| ((with_reducible apply d_isi true); (fail "rs"); exact rfl; decide +kernel))
local macro_rules | `(tactic| fail "s1") => `(tactic| with_reducible refine d_intb ?_)
local macro_rules | `(tactic| fail "s1") => `(tactic| with_reducible refine d_int ?_)
local macro_rules | `(tactic| fail "s1") => `(tactic| ((with_reducible apply d_gsubvN); exact rfl; exact rfl; fail "nz"))
local macro_rules | `(tactic| fail "s1") => `(tactic| ((with_reducible apply d_ixT); (fail "rs"); exact rfl; exact rfl; exact rfl; exact rfl))
local macro_rules | `(tactic| fail "s1") => `(tactic| ((with_reducible apply d_ixL); (fail "rs"); exact rfl; exact rfl; exact rfl; exact rfl))
local macro_rules | `(tactic| fail "s1") => `(tactic| ((with_reducible apply d_ln); (fail "rs"); exact rfl))
local macro_rules | `(tactic| fail "s1") => `(tactic| ((with_reducible apply d_insvN); exact rfl; rotate_left; rotate_left; fail "nz"; rotate_left))
local macro_rules | `(tactic| fail "s1") => `(tactic| ((with_reducible apply d_appvN); exact rfl; rotate_left; fail "nz"; rotate_left))
local macro_rules | `(tactic| fail "s1") => `(tactic| ((with_reducible apply d_islst); (fail "rs"); exact rfl))
local macro_rules | `(tactic| fail "s1") => `(tactic| with_reducible refine d_iEnum ?_)
local macro_rules | `(tactic| fail "s1") => `(tactic| with_reducible refine d_iEnumT ?_)
local macro_rules | `(tactic| fail "s1") => `(tactic| with_reducible refine d_eqO ?_)
local macro_rules | `(tactic| fail "s1") => `(tactic| with_reducible refine d_idxD ?_)
local macro_rules | `(tactic| fail "s1") => `(tactic| with_reducible refine d_idx ?_)
local macro_rules | `(tactic| fail "s1") => `(tactic| with_reducible refine d_lenO ?_)
local macro_rules | `(tactic| fail "s1") => `(tactic| with_reducible refine d_eqDA ?_)
local macro_rules | `(tactic| fail "s1") => `(tactic| with_reducible refine d_eqLH ?_)
local macro_rules | `(tactic| fail "s1") => `(tactic| with_reducible refine d_isntB ?_)
local macro_rules | `(tactic| fail "s1") => `(tactic| with_reducible refine d_dc ?_)
local macro_rules | `(tactic| fail "s1") => `(tactic| with_reducible refine d_lc ?_)
local macro_rules | `(tactic| fail "s1") => `(tactic| with_reducible refine d_lcT ?_)
local macro_rules | `(tactic| fail "s1") => `(tactic| with_reducible refine d_iStr ?_)
local macro_rules | `(tactic| fail "s1") => `(tactic| with_reducible refine d_iRng1 ?_)
local macro_rules | `(tactic| fail "s1") => `(tactic| with_reducible refine d_iTup ?_)
local macro_rules | `(tactic| fail "s1") => `(tactic| with_reducible refine d_iList ?_)
local macro_rules | `(tactic| fail "s1") => `(tactic| with_reducible refine d_for ?_)
local macro_rules | `(tactic| fail "s1") => `(tactic| with_reducible refine d_isI ?_)
local macro_rules | `(tactic| fail "s1") => `(tactic| with_reducible refine d_oNone ?_)
local macro_rules | `(tactic| fail "s1") => `(tactic| with_reducible refine d_iTupE ?_)
local macro_rules | `(tactic| fail "s1") => `(tactic| with_reducible refine d_isiTK ?_)
local macro_rules | `(tactic| fail "s1") => `(tactic| with_reducible refine d_lenK ?_)
local macro_rules | `(tactic| fail "s1") => `(tactic| with_reducible refine d_isat ?_)
local macro_rules | `(tactic| fail "s1") => `(tactic| with_reducible refine d_only ?_)
local macro_rules | `(tactic| fail "s1") => `(tactic| with_reducible refine d_oSome ?_)
local macro_rules | `(tactic| fail "s1") => `(tactic| with_reducible refine d_neg ?_)
local macro_rules | `(tactic| fail "s1") => `(tactic| with_reducible refine d_ixT0 ?_)
local macro_rules | `(tactic| fail "s1") => `(tactic| with_reducible refine d_istup ?_)
local macro_rules | `(tactic| fail "s1") => `(tactic| with_reducible refine d_mnil ?_)
local macro_rules | `(tactic| fail "s1") => `(tactic| with_reducible refine d_many ?_)
local macro_rules | `(tactic| fail "s1") => `(tactic| with_reducible refine d_mat ?_)
local macro_rules | `(tactic| fail "s1") => `(tactic| with_reducible refine d_iZipS ?_)
local macro_rules | `(tactic| fail "s1") => `(tactic| with_reducible refine d_star ?_)
local macro_rules | `(tactic| fail "s1") => `(tactic| with_reducible refine d_slT ?_)
local macro_rules | `(tactic| fail "s1") => `(tactic| with_reducible refine d_kget ?_)
local macro_rules | `(tactic| fail "s1") => `(tactic| with_reducible refine d_ext ?_)
local macro_rules | `(tactic| fail "s1") => `(tactic| with_reducible refine d_ins ?_)
local macro_rules | `(tactic| fail "s1") => `(tactic| with_reducible refine d_app ?_)
local macro_rules | `(tactic| fail "s1") => `(tactic| with_reducible refine d_meth0 ?_)
local macro_rules | `(tactic| fail "s1") => `(tactic| with_reducible refine d_meth ?_)
local macro_rules | `(tactic| fail "s1") => `(tactic| with_reducible refine d_call0 ?_)
local macro_rules | `(tactic| fail "s1") => `(tactic| with_reducible refine d_call ?_)
local macro_rules | `(tactic| fail "s1") => `(tactic| with_reducible refine d_tryM ?_)
local macro_rules | `(tactic| fail "s1") => `(tactic| with_reducible refine d_tryF ?_)
local macro_rules | `(tactic| fail "s1") => `(tactic| with_reducible refine d_dcI ?_)
local macro_rules | `(tactic| fail "s1") => `(tactic| with_reducible refine d_dnewT ?_)
local macro_rules | `(tactic| fail "s1") => `(tactic| with_reducible refine d_get1 ?_)
local macro_rules | `(tactic| fail "s1") => `(tactic| with_reducible refine d_dgetT ?_)
local macro_rules | `(tactic| fail "s1") => `(tactic| with_reducible refine d_dget ?_)
local macro_rules | `(tactic| fail "s1") => `(tactic| with_reducible refine d_mkV ?_)
local macro_rules | `(tactic| fail "s1") => `(tactic| with_reducible refine d_xvf ?_)
local macro_rules | `(tactic| fail "s1") => `(tactic| with_reducible refine d_fld ?_)
local macro_rules | `(tactic| fail "s1") => `(tactic| ((with_reducible apply d_notN); exact rfl))
local macro_rules | `(tactic| fail "s1") => `(tactic| ((with_reducible apply d_isN); exact rfl))
local macro_rules | `(tactic| fail "s1") => `(tactic| ((with_reducible apply d_ne); exact rfl; exact rfl; exact rfl))
local macro_rules | `(tactic| fail "s1") => `(tactic| ((with_reducible apply d_eq); exact rfl; exact rfl; exact rfl))
local macro_rules | `(tactic| fail "s1") => `(tactic| with_reducible refine d_I0 ?_)
local macro_rules | `(tactic| fail "s1") => `(tactic| with_reducible refine d_issh ?_)
local macro_rules | `(tactic| fail "s1") => `(tactic| with_reducible refine d_chain ?_)
local macro_rules | `(tactic| fail "s1") => `(tactic| with_reducible refine d_ifE ?_)
local macro_rules | `(tactic| fail "s1") => `(tactic| with_reducible refine d_notV ?_)
local macro_rules | `(tactic| fail "s1") => `(tactic| with_reducible refine d_orV ?_)
local macro_rules | `(tactic| fail "s1") => `(tactic| with_reducible refine d_andV ?_)
local macro_rules | `(tactic| fail "s1") => `(tactic| with_reducible refine d_yes ?_)
local macro_rules | `(tactic| fail "s1") => `(tactic| with_reducible refine d_not ?_)
local macro_rules | `(tactic| fail "s1") => `(tactic| with_reducible refine d_or ?_)
local macro_rules | `(tactic| fail "s1") => `(tactic| with_reducible refine d_and ?_)
local macro_rules | `(tactic| fail "s1") => `(tactic| with_reducible refine d_isb ?_)
local macro_rules | `(tactic| fail "s1") => `(tactic| with_reducible refine d_b ?_)
local macro_rules | `(tactic| fail "s1") => `(tactic| with_reducible refine d_dnew ?_)
local macro_rules | `(tactic| fail "s1") => `(tactic| with_reducible refine d_tup ?_)
local macro_rules | `(tactic| fail "s1") => `(tactic| with_reducible refine d_lst ?_)
local macro_rules | `(tactic| fail "s1") => `(tactic| with_reducible refine d_cons ?_)
local macro_rules | `(tactic| fail "s1") => `(tactic| with_reducible refine d_nil ?_)
local macro_rules | `(tactic| fail "s1") => `(tactic| with_reducible refine d_cb ?_)
local macro_rules | `(tactic| fail "s1") => `(tactic| with_reducible refine d_un ?_)
local macro_rules | `(tactic| fail "s1") => `(tactic| with_reducible refine d_op ?_)
local macro_rules | `(tactic| fail "s1") => `(tactic| ((with_reducible apply d_mvN); exact rfl; exact rfl; fail "nz"))
local macro_rules | `(tactic| fail "s1") => `(tactic| ((with_reducible apply d_var); exact rfl; exact rfl))
local macro_rules | `(tactic| fail "s1") => `(tactic| with_reducible refine d_c ?_)
local macro_rules | `(tactic| fail "s1") => `(tactic| ((with_reducible apply d_nameN); exact of_decide_eq_true rfl; fail "nz"))
local macro_rules | `(tactic| fail "s1") => `(tactic| with_reducible refine d_asg ?_)
local macro_rules | `(tactic| fail "s1") => `(tactic| with_reducible refine d_if ?_)
local macro_rules | `(tactic| fail "s1") => `(tactic| with_reducible refine d_retN ?_)
local macro_rules | `(tactic| fail "s1") => `(tactic| with_reducible refine d_ret ?_)
local macro_rules | `(tactic| fail "s1") => `(tactic| with_reducible refine d_drop ?_)
local macro_rules | `(tactic| fail "s1") => `(tactic| with_reducible refine d_cont ?_)
local macro_rules | `(tactic| fail "s1") => `(tactic| with_reducible refine d_brk ?_)
local macro_rules | `(tactic| fail "s1") => `(tactic| with_reducible refine d_next ?_)
local macro_rules | `(tactic| fail "s1") => `(tactic| with_reducible refine d_p0 ?_)
local macro_rules | `(tactic| fail "s") => `(tactic| repeat fail "s1")
local macro_rules | `(tactic| fail "d1") => `(tactic| with_reducible refine d_iF rfl ?_)
local macro_rules | `(tactic| fail "d1") => `(tactic| with_reducible refine d_iT rfl ?_)
local macro_rules | `(tactic| fail "d1") => `(tactic| ((with_reducible apply d_gconsN); exact of_decide_eq_true rfl; fail "nz"))
local macro_rules | `(tactic| fail "d1") => `(tactic| with_reducible refine d_gtup rfl ?_)
local macro_rules | `(tactic| fail "d1") => `(tactic| with_reducible refine d_gtup3 rfl ?_)
local macro_rules | `(tactic| fail "d1") => `(tactic| with_reducible refine d_gtup2 rfl ?_)
local macro_rules | `(tactic| fail "d1") => `(tactic| ((with_reducible apply d_aug); exact rfl))
local macro_rules | `(tactic| fail "d1") => `(tactic| ((with_reducible apply d_lenR); (fail "rs"); exact rfl))
local macro_rules | `(tactic| fail "d1") => `(tactic| ((with_reducible apply d_isi false); (fail "rs"); exact rfl; decide +kernel))
local macro_rules | `(tactic| fail "d1") => `(tactic| ((with_reducible apply d_isi true); (fail "rs"); exact rfl; decide +kernel))
local macro_rules | `(tactic| fail "d1") => `(tactic| ((with_reducible apply d_gsubvN); exact rfl; exact rfl; fail "nz"))
local macro_rules | `(tactic| fail "d1") => `(tactic| ((with_reducible apply d_ixT); (fail "rs"); exact rfl; exact rfl; exact rfl; exact rfl))
local macro_rules | `(tactic| fail "d1") => `(tactic| ((with_reducible apply d_ixL); (fail "rs"); exact rfl; exact rfl; exact rfl; exact rfl))
local macro_rules | `(tactic| fail "d1") => `(tactic| ((with_reducible apply d_ln); (fail "rs"); exact rfl))
local macro_rules | `(tactic| fail "d1") => `(tactic| ((with_reducible apply d_insvN); exact rfl; rotate_left; rotate_left; fail "nz"; rotate_left))
local macro_rules | `(tactic| fail "d1") => `(tactic| ((with_reducible apply d_appvN); exact rfl; rotate_left; fail "nz"; rotate_left))
local macro_rules | `(tactic| fail "d1") => `(tactic| ((with_reducible apply d_islst); (fail "rs"); exact rfl))
local macro_rules | `(tactic| fail "d1") => `(tactic| ((with_reducible apply d_notN); exact rfl))
local macro_rules | `(tactic| fail "d1") => `(tactic| ((with_reducible apply d_isN); exact rfl))
local macro_rules | `(tactic| fail "d1") => `(tactic| ((with_reducible apply d_ne); exact rfl; exact rfl; exact rfl))
local macro_rules | `(tactic| fail "d1") => `(tactic| ((with_reducible apply d_eq); exact rfl; exact rfl; exact rfl))
local macro_rules | `(tactic| fail "d1") => `(tactic| ((with_reducible apply d_mvN); exact rfl; exact rfl; fail "nz"))
local macro_rules | `(tactic| fail "d1") => `(tactic| ((with_reducible apply d_var); exact rfl; exact rfl))
local macro_rules | `(tactic| fail "d1") => `(tactic| ((with_reducible apply d_nameN); exact of_decide_eq_true rfl; fail "nz"))
local macro_rules | `(tactic| fail "d1") => `(tactic| with_reducible refine StpD.go ?_)
local macro_rules | `(tactic| fail "d1") => `(tactic| with_reducible refine d_augw (of_decide_eq_true rfl) ?_)
local macro_rules | `(tactic| fail "d") => `(tactic| repeat fail "d1")
local macro_rules | `(tactic| fail "e1") => `(tactic| ((with_reducible apply d_le10); exact of_decide_eq_true rfl))
local macro_rules | `(tactic| fail "e1") => `(tactic| with_reducible refine d_iF rfl ?_)
local macro_rules | `(tactic| fail "e1") => `(tactic| with_reducible refine d_iT rfl ?_)
local macro_rules | `(tactic| fail "e1") => `(tactic| ((with_reducible apply d_gconsN); exact of_decide_eq_true rfl; fail "nz"))
local macro_rules | `(tactic| fail "e1") => `(tactic| with_reducible refine d_augw (of_decide_eq_true rfl) ?_)
local macro_rules | `(tactic| fail "e1") => `(tactic| with_reducible refine d_gtup rfl ?_)
local macro_rules | `(tactic| fail "e1") => `(tactic| with_reducible refine d_gtup3 rfl ?_)
local macro_rules | `(tactic| fail "e1") => `(tactic| with_reducible refine d_gtup2 rfl ?_)
local macro_rules | `(tactic| fail "e1") => `(tactic| ((with_reducible apply d_aug); exact rfl))
local macro_rules | `(tactic| fail "e1") => `(tactic| ((with_reducible apply d_lenR); (fail "rs"); exact rfl))
local macro_rules | `(tactic| fail "e1") => `(tactic| ((with_reducible apply d_isi false); (fail "rs"); exact rfl; decide +kernel))
local macro_rules | `(tactic| fail "e1") => `(tactic| ((with_reducible apply d_isi true); (fail "rs"); exact rfl; decide +kernel))
local macro_rules | `(tactic| fail "e1") => `(tactic| ((with_reducible apply d_gsubvN); exact rfl; exact rfl; fail "nz"))
local macro_rules | `(tactic| fail "e1") => `(tactic| ((with_reducible apply d_ixT); (fail "rs"); exact rfl; exact rfl; exact rfl; exact rfl))
local macro_rules | `(tactic| fail "e1") => `(tactic| ((with_reducible apply d_ixL); (fail "rs"); exact rfl; exact rfl; exact rfl; exact rfl))
local macro_rules | `(tactic| fail "e1") => `(tactic| ((with_reducible apply d_ln); (fail "rs"); exact rfl))
local macro_rules | `(tactic| fail "e1") => `(tactic| ((with_reducible apply d_insvN); exact rfl; rotate_left; rotate_left; fail "nz"; rotate_left))
local macro_rules | `(tactic| fail "e1") => `(tactic| ((with_reducible apply d_appvN); exact rfl; rotate_left; fail "nz"; rotate_left))
local macro_rules | `(tactic| fail "e1") => `(tactic| ((with_reducible apply d_islst); (fail "rs"); exact rfl))
local macro_rules | `(tactic| fail "e1") => `(tactic| ((with_reducible apply d_notN); exact rfl))
local macro_rules | `(tactic| fail "e1") => `(tactic| ((with_reducible apply d_isN); exact rfl))
local macro_rules | `(tactic| fail "e1") => `(tactic| ((with_reducible apply d_ne); exact rfl; exact rfl; exact rfl))
local macro_rules | `(tactic| fail "e1") => `(tactic| ((with_reducible apply d_eq); exact rfl; exact rfl; exact rfl))
local macro_rules | `(tactic| fail "e1") => `(tactic| ((with_reducible apply d_mvN); exact rfl; exact rfl; fail "nz"))
local macro_rules | `(tactic| fail "e1") => `(tactic| ((with_reducible apply d_var); exact rfl; exact rfl))
local macro_rules | `(tactic| fail "e1") => `(tactic| ((with_reducible apply d_nameN); exact of_decide_eq_true rfl; fail "nz"))
local macro_rules | `(tactic| fail "e1") => `(tactic| with_reducible refine StpE.go ?_)
local macro_rules | `(tactic| fail "e") => `(tactic| repeat fail "e1")
local macro_rules | `(tactic| fail "cd1") => `(tactic| with_reducible exact cd_notInS)
local macro_rules | `(tactic| fail "cd1") => `(tactic| with_reducible exact cd_inS)
local macro_rules | `(tactic| fail "cd1") => `(tactic| with_reducible exact cd_mulS)
local macro_rules | `(tactic| fail "cd1") => `(tactic| with_reducible exact cd_ixS)
local macro_rules | `(tactic| fail "cd1") => `(tactic| with_reducible exact cd_pow)
local macro_rules | `(tactic| fail "cd1") => `(tactic| with_reducible exact cd_mulW)
local macro_rules | `(tactic| fail "cd1") => `(tactic| with_reducible exact cd_fdivW)
local macro_rules | `(tactic| fail "cd1") => `(tactic| with_reducible exact cd_cat)
local macro_rules | `(tactic| fail "cd1") => `(tactic| with_reducible exact cd_isi2)
local macro_rules | `(tactic| fail "cd1") => `(tactic| with_reducible exact cd_neD)
local macro_rules | `(tactic| fail "cd1") => `(tactic| with_reducible exact cd_notInD)
local macro_rules | `(tactic| fail "cd1") => `(tactic| with_reducible exact cd_inD)
local macro_rules | `(tactic| fail "cd1") => `(tactic| with_reducible exact cd_eqD)
local macro_rules | `(tactic| fail "cd1") => `(tactic| with_reducible exact cd_isX)
local macro_rules | `(tactic| fail "cd1") => `(tactic| with_reducible exact cd_isiC)
local macro_rules | `(tactic| fail "cd1") => `(tactic| with_reducible exact cd_isB)
local macro_rules | `(tactic| fail "cd1") => `(tactic| with_reducible exact cd_isntB)
local macro_rules | `(tactic| fail "cd1") => `(tactic| with_reducible exact cd_isi)
local macro_rules | `(tactic| fail "cd1") => `(tactic| with_reducible exact cd_sortData)
local macro_rules | `(tactic| fail "cd1") => `(tactic| with_reducible exact cd_sortD)
local macro_rules | `(tactic| fail "cd1") => `(tactic| with_reducible exact cd_sortT)
local macro_rules | `(tactic| fail "cd1") => `(tactic| with_reducible exact cd_sortS)
local macro_rules | `(tactic| fail "cd1") => `(tactic| with_reducible exact cd_int)
local macro_rules | `(tactic| fail "cd1") => `(tactic| with_reducible exact cd_dictP)
local macro_rules | `(tactic| fail "cd1") => `(tactic| with_reducible exact cd_dict)
local macro_rules | `(tactic| fail "cd1") => `(tactic| with_reducible exact cd_tuple)
local macro_rules | `(tactic| fail "cd1") => `(tactic| with_reducible exact cd_listK)
local macro_rules | `(tactic| fail "cd1") => `(tactic| with_reducible exact cd_list)
local macro_rules | `(tactic| fail "cd1") => `(tactic| with_reducible exact cd_fdiv)
local macro_rules | `(tactic| fail "cd1") => `(tactic| with_reducible exact cd_mod)
local macro_rules | `(tactic| fail "cd1") => `(tactic| with_reducible exact cd_mul)
local macro_rules | `(tactic| fail "cd1") => `(tactic| with_reducible exact cd_ixT)
local macro_rules | `(tactic| fail "cd1") => `(tactic| with_reducible exact cd_ixL)
local macro_rules | `(tactic| fail "cd1") => `(tactic| with_reducible exact cd_lenS)
local macro_rules | `(tactic| fail "cd1") => `(tactic| with_reducible exact cd_lenT)
local macro_rules | `(tactic| fail "cd1") => `(tactic| with_reducible exact cd_lenR)
local macro_rules | `(tactic| fail "cd1") => `(tactic| with_reducible exact cd_len)
local macro_rules | `(tactic| fail "cd1") => `(tactic| with_reducible exact cd_neg)
local macro_rules | `(tactic| fail "cd1") => `(tactic| with_reducible exact cd_repr)
local macro_rules | `(tactic| fail "cd1") => `(tactic| with_reducible exact cd_repL)
local macro_rules | `(tactic| fail "cd1") => `(tactic| with_reducible exact cd_catL)
local macro_rules | `(tactic| fail "cd1") => `(tactic| with_reducible exact cd_leT)
local macro_rules | `(tactic| fail "cd1") => `(tactic| with_reducible exact cd_ltT)
local macro_rules | `(tactic| fail "cd1") => `(tactic| with_reducible exact cd_catL2)
local macro_rules | `(tactic| fail "cd1") => `(tactic| with_reducible exact cd_catP)
local macro_rules | `(tactic| fail "cd1") => `(tactic| with_reducible exact cd_max2)
local macro_rules | `(tactic| fail "cd1") => `(tactic| with_reducible exact cd_min2)
local macro_rules | `(tactic| fail "cd1") => `(tactic| with_reducible exact cd_catT)
local macro_rules | `(tactic| fail "cd1") => `(tactic| with_reducible exact cd_inK)
local macro_rules | `(tactic| fail "cd1") => `(tactic| with_reducible exact cd_in)
local macro_rules | `(tactic| fail "cd1") => `(tactic| with_reducible exact cd_notN)
local macro_rules | `(tactic| fail "cd1") => `(tactic| with_reducible exact cd_isN)
local macro_rules | `(tactic| fail "cd1") => `(tactic| with_reducible exact cd_ne)
local macro_rules | `(tactic| fail "cd1") => `(tactic| with_reducible exact cd_eq)
local macro_rules | `(tactic| fail "cd1") => `(tactic| with_reducible exact cd_ge)
local macro_rules | `(tactic| fail "cd1") => `(tactic| with_reducible exact cd_gt)
local macro_rules | `(tactic| fail "cd1") => `(tactic| with_reducible exact cd_le)
local macro_rules | `(tactic| fail "cd1") => `(tactic| with_reducible exact cd_lt)
local macro_rules | `(tactic| fail "cd1") => `(tactic| with_reducible exact cd_sub)
local macro_rules | `(tactic| fail "cd1") => `(tactic| with_reducible exact cd_add)
local macro_rules | `(tactic| fail "cd") => `(tactic| fail "cd1")
local macro_rules | `(tactic| fail "refX") => `(tactic| with_reducible apply rfo_some)
local macro_rules | `(tactic| fail "refX") => `(tactic| with_reducible exact rfo_none)
local macro_rules | `(tactic| fail "refX") => `(tactic| with_reducible exact rfm_nil)
local macro_rules | `(tactic| fail "refX") => `(tactic| with_reducible apply rfm_any)
local macro_rules | `(tactic| fail "refX") => `(tactic| with_reducible apply rfm_lit)
local macro_rules | `(tactic| fail "refX") => `(tactic| with_reducible exact RfPs.nil)
local macro_rules | `(tactic| fail "refX") => `(tactic| with_reducible apply RfPs.cons)
local macro_rules | `(tactic| fail "refX") => `(tactic| with_reducible exact RfH.nil)
local macro_rules | `(tactic| fail "refX") => `(tactic| with_reducible apply RfH.cons)
local macro_rules | `(tactic| fail "refI") => `(tactic| with_reducible apply rfi_enumT)
local macro_rules | `(tactic| fail "refI") => `(tactic| with_reducible apply rfi_enum)
local macro_rules | `(tactic| fail "refI") => `(tactic| with_reducible apply rfi_str)
local macro_rules | `(tactic| fail "refI") => `(tactic| with_reducible apply rfi_rng2)
local macro_rules | `(tactic| fail "refI") => `(tactic| with_reducible apply rfi_rng1)
local macro_rules | `(tactic| fail "refI") => `(tactic| with_reducible apply rfi_seq)
local macro_rules | `(tactic| fail "refI") => `(tactic| with_reducible apply rfi_tup)
local macro_rules | `(tactic| fail "refI") => `(tactic| with_reducible apply rfi_listP)
local macro_rules | `(tactic| fail "refI") => `(tactic| with_reducible apply rfi_list)
local macro_rules | `(tactic| fail "refI") => `(tactic| with_reducible apply rfi_zipS)
local macro_rules | `(tactic| fail "refI") => `(tactic| ((with_reducible apply rfi_seqE); (assumption)))
local macro_rules | `(tactic| fail "refI") => `(tactic| ((with_reducible apply rfi_tupE); (assumption)))
local macro_rules | `(tactic| fail "refG") => `(tactic| with_reducible apply rfg_sub)
local macro_rules | `(tactic| fail "refG") => `(tactic| with_reducible exact rfgs_nil (w := fun _ _ _ => True))
local macro_rules | `(tactic| fail "refG") => `(tactic| with_reducible apply rfgs_cons (by decide))
local macro_rules | `(tactic| fail "refG") => `(tactic| with_reducible apply rfg_tup)
local macro_rules | `(tactic| fail "refG") => `(tactic| ((with_reducible apply rfg_name); decide))
local macro_rules | `(tactic| fail "refT") => `(tactic| with_reducible apply rft_tru)
local macro_rules | `(tactic| fail "refT") => `(tactic| with_reducible exact rft_yes)
local macro_rules | `(tactic| fail "refT") => `(tactic| with_reducible apply rft_not)
local macro_rules | `(tactic| fail "refT") => `(tactic| with_reducible apply rft_or)
local macro_rules | `(tactic| fail "refT") => `(tactic| with_reducible apply rft_and)
local macro_rules | `(tactic| fail "refT") => `(tactic| with_reducible apply rft_test)
local macro_rules | `(tactic| fail "refT") => `(tactic| with_reducible apply rft_b)
local macro_rules | `(tactic| fail "refS") => `(tactic| with_reducible apply rfs_cut)
local macro_rules | `(tactic| fail "refS") => `(tactic| with_reducible exact rfs_never)
local macro_rules | `(tactic| fail "refS") => `(tactic| with_reducible apply rfs_mat)
local macro_rules | `(tactic| fail "refS") => `(tactic| ((with_reducible apply rfs_rx); (first | exact fun _ _ _ _ h => h | exact fun _ _ _ _ h => .inl h)))
local macro_rules | `(tactic| fail "refS") => `(tactic| ((with_reducible apply rfs_tryF); (decide); (exact fun _ _ _ h _ _ => h _ _)))
local macro_rules | `(tactic| fail "refS") => `(tactic| ((with_reducible apply rfs_tryM); (first | exact fun _ _ _ _ h => h | exact fun _ _ _ _ h => h.elim)))
local macro_rules | `(tactic| fail "refS") => `(tactic| with_reducible apply rfs_dput)
local macro_rules | `(tactic| fail "refS") => `(tactic| with_reducible apply rfs_dputT)
local macro_rules | `(tactic| fail "refS") => `(tactic| with_reducible apply rfs_faug)
local macro_rules | `(tactic| fail "refS") => `(tactic| with_reducible apply rfs_fld)
local macro_rules | `(tactic| fail "refS") => `(tactic| with_reducible apply rfs_aug (by decide))
local macro_rules | `(tactic| fail "refS") => `(tactic| with_reducible apply rfs_forV)
local macro_rules | `(tactic| fail "refS") => `(tactic| ((with_reducible apply rfs_forK); (exact rfl)))
local macro_rules | `(tactic| fail "refS") => `(tactic| with_reducible apply rfs_while)
local macro_rules | `(tactic| fail "refS") => `(tactic| with_reducible apply rfs_forO)
local macro_rules | `(tactic| fail "refS") => `(tactic| with_reducible apply rfs_for)
local macro_rules | `(tactic| fail "refS") => `(tactic| with_reducible apply rfs_asg)
local macro_rules | `(tactic| fail "refS") => `(tactic| with_reducible apply rfs_if)
local macro_rules | `(tactic| fail "refS") => `(tactic| with_reducible exact rfs_retN)
local macro_rules | `(tactic| fail "refS") => `(tactic| with_reducible apply rfs_ret)
local macro_rules | `(tactic| fail "refS") => `(tactic| with_reducible apply rfs_drop)
local macro_rules | `(tactic| fail "refS") => `(tactic| with_reducible exact rfs_cont)
local macro_rules | `(tactic| fail "refS") => `(tactic| with_reducible exact rfs_brk)
local macro_rules | `(tactic| fail "refS") => `(tactic| with_reducible exact rfs_next)
local macro_rules | `(tactic| fail "refS") => `(tactic| with_reducible apply rfs_seq)
local macro_rules | `(tactic| fail "refA") => `(tactic| with_reducible apply rfa_star)
local macro_rules | `(tactic| fail "refA") => `(tactic| with_reducible apply rfa_cons)
local macro_rules | `(tactic| fail "refA") => `(tactic| with_reducible exact rfa_nil)
local macro_rules | `(tactic| fail "refE") => `(tactic| ((with_reducible apply rf_lcK); (exact rfl)))
local macro_rules | `(tactic| fail "refE") => `(tactic| ((with_reducible apply rf_lcT); (decide)))
local macro_rules | `(tactic| fail "refE") => `(tactic| with_reducible apply rf_join)
local macro_rules | `(tactic| fail "refE") => `(tactic| with_reducible apply rf_slL)
local macro_rules | `(tactic| fail "refE") => `(tactic| with_reducible apply rf_dc)
local macro_rules | `(tactic| fail "refE") => `(tactic| ((with_reducible apply rf_dcI); (exact rfl)))
local macro_rules | `(tactic| fail "refE") => `(tactic| with_reducible apply rf_lc)
local macro_rules | `(tactic| fail "refE") => `(tactic| with_reducible apply rf_ninRg)
local macro_rules | `(tactic| fail "refE") => `(tactic| with_reducible apply rf_dnotinT)
local macro_rules | `(tactic| fail "refE") => `(tactic| with_reducible apply rf_dinT)
local macro_rules | `(tactic| fail "refE") => `(tactic| with_reducible apply rf_dnotin)
local macro_rules | `(tactic| fail "refE") => `(tactic| with_reducible apply rf_din)
local macro_rules | `(tactic| fail "refE") => `(tactic| with_reducible apply rf_dget)
local macro_rules | `(tactic| fail "refE") => `(tactic| with_reducible apply rf_get2T)
local macro_rules | `(tactic| fail "refE") => `(tactic| with_reducible apply rf_get1T)
local macro_rules | `(tactic| fail "refE") => `(tactic| with_reducible apply rf_get1N)
local macro_rules | `(tactic| fail "refE") => `(tactic| with_reducible apply rf_get1)
local macro_rules | `(tactic| fail "refE") => `(tactic| with_reducible apply rf_dgetT)
local macro_rules | `(tactic| fail "refE") => `(tactic| with_reducible apply rf_mkV)
local macro_rules | `(tactic| fail "refE") => `(tactic| with_reducible apply rf_xvf)
local macro_rules | `(tactic| fail "refE") => `(tactic| with_reducible apply rf_idxD)
local macro_rules | `(tactic| fail "refE") => `(tactic| with_reducible apply rf_idx)
local macro_rules | `(tactic| fail "refE") => `(tactic| with_reducible apply rf_slT)
local macro_rules | `(tactic| fail "refE") => `(tactic| with_reducible apply rf_kget)
local macro_rules | `(tactic| fail "refE") => `(tactic| with_reducible apply rf_ext)
local macro_rules | `(tactic| fail "refE") => `(tactic| with_reducible apply rf_ins)
local macro_rules | `(tactic| fail "refE") => `(tactic| with_reducible apply rf_get2)
local macro_rules | `(tactic| fail "refE") => `(tactic| with_reducible apply rf_re)
local macro_rules | `(tactic| fail "refE") => `(tactic| with_reducible apply rf_appT)
local macro_rules | `(tactic| fail "refE") => `(tactic| with_reducible apply rf_pop)
local macro_rules | `(tactic| fail "refE") => `(tactic| ((with_reducible apply rf_eqLH); (exact rfl)))
local macro_rules | `(tactic| fail "refE") => `(tactic| ((with_reducible apply rf_eqDA); (exact rfl)))
local macro_rules | `(tactic| fail "refE") => `(tactic| ((with_reducible apply rf_lenO); (first | exact fun _ => rfl | exact fun h => absurd h Bool.false_ne_true)))
local macro_rules | `(tactic| fail "refE") => `(tactic| ((with_reducible apply rf_orO); (first | exact fun _ => rfl | exact fun h => absurd h Bool.false_ne_true)))
local macro_rules | `(tactic| fail "refE") => `(tactic| ((with_reducible apply rf_eqO); (first | exact fun _ => rfl | exact fun h => absurd h Bool.false_ne_true)))
local macro_rules | `(tactic| fail "refE") => `(tactic| ((with_reducible apply rf_mk0); (first | exact fun _ => rfl | exact fun h => absurd h Bool.false_ne_true)))
local macro_rules | `(tactic| fail "refE") => `(tactic| ((with_reducible apply rf_mk); (first | exact fun _ => rfl | exact fun h => absurd h Bool.false_ne_true); (first | exact fun _ _ _ _ h => h | exact fun _ _ _ _ h => h.elim)))
local macro_rules | `(tactic| fail "refE") => `(tactic| ((with_reducible apply rf_mt); (first | exact fun _ => rfl | exact fun h => absurd h Bool.false_ne_true); (first | exact fun _ _ _ _ h => h | exact fun _ _ _ _ h => h.elim)))
local macro_rules | `(tactic| fail "refE") => `(tactic| ((with_reducible apply rf_mt0); (first | exact fun _ => rfl | exact fun h => absurd h Bool.false_ne_true)))
local macro_rules | `(tactic| fail "refE") => `(tactic| ((with_reducible apply rf_cl); (first | exact fun _ => rfl | exact fun h => absurd h Bool.false_ne_true); (first | exact fun _ _ _ _ h => h | exact fun _ _ _ _ h => h.elim)))
local macro_rules | `(tactic| fail "refE") => `(tactic| ((with_reducible apply rf_cl0); (first | exact fun _ => rfl | exact fun h => absurd h Bool.false_ne_true)))
local macro_rules | `(tactic| fail "refE") => `(tactic| with_reducible apply rf_chain (by fail "cd") (by fail "cd"))
local macro_rules | `(tactic| fail "refE") => `(tactic| with_reducible apply rf_ifE)
local macro_rules | `(tactic| fail "refE") => `(tactic| with_reducible apply rf_notV)
local macro_rules | `(tactic| fail "refE") => `(tactic| with_reducible apply rf_orV)
local macro_rules | `(tactic| fail "refE") => `(tactic| with_reducible apply rf_andV)
local macro_rules | `(tactic| fail "refE") => `(tactic| ((with_reducible apply rf_mtS); (first | exact fun _ => rfl | exact fun h => absurd h Bool.false_ne_true); (exact fun _ _ _ _ h => h)))
local macro_rules | `(tactic| fail "refE") => `(tactic| ((with_reducible apply rf_mkS); (first | exact fun _ => rfl | exact fun h => absurd h Bool.false_ne_true); (exact fun _ _ _ _ h => h)))
local macro_rules | `(tactic| fail "refE") => `(tactic| ((with_reducible apply rf_clS); (first | exact fun _ => rfl | exact fun h => absurd h Bool.false_ne_true); (exact fun _ _ _ _ h => h)))
local macro_rules | `(tactic| fail "refE") => `(tactic| with_reducible exact rf_xe)
local macro_rules | `(tactic| fail "refE") => `(tactic| with_reducible exact rf_dnewT)
local macro_rules | `(tactic| fail "refE") => `(tactic| with_reducible apply rf_disp)
local macro_rules | `(tactic| fail "refE") => `(tactic| with_reducible exact rf_dnew)
local macro_rules | `(tactic| fail "refE") => `(tactic| with_reducible apply rf_cb (by fail "cd"))
local macro_rules | `(tactic| fail "refE") => `(tactic| with_reducible apply rf_un (by fail "cd"))
local macro_rules | `(tactic| fail "refE") => `(tactic| with_reducible apply rf_only)
local macro_rules | `(tactic| fail "refE") => `(tactic| ((with_reducible apply rf_isiTK); (assumption)))
local macro_rules | `(tactic| fail "refE") => `(tactic| ((with_reducible apply rf_tupK); (assumption)))
local macro_rules | `(tactic| fail "refE") => `(tactic| ((with_reducible apply rf_lenK); (assumption)))
local macro_rules | `(tactic| fail "refE") => `(tactic| with_reducible exact rf_ref)
local macro_rules | `(tactic| fail "refE") => `(tactic| with_reducible exact rf_ty)
local macro_rules | `(tactic| fail "refE") => `(tactic| with_reducible exact rf_bl)
local macro_rules | `(tactic| fail "refE") => `(tactic| with_reducible apply rf_app)
local macro_rules | `(tactic| fail "refE") => `(tactic| with_reducible exact rf_non)
local macro_rules | `(tactic| fail "refE") => `(tactic| with_reducible apply rf_lst)
local macro_rules | `(tactic| fail "refE") => `(tactic| with_reducible apply rf_tup)
local macro_rules | `(tactic| fail "refE") => `(tactic| with_reducible apply rf_fld)
local macro_rules | `(tactic| fail "refE") => `(tactic| with_reducible exact rf_int)
local macro_rules | `(tactic| fail "refE") => `(tactic| with_reducible exact rf_str)
local macro_rules | `(tactic| fail "refE") => `(tactic| with_reducible exact rf_mv)
local macro_rules | `(tactic| fail "refE") => `(tactic| with_reducible apply rf_op (by fail "cd"))
local macro_rules | `(tactic| fail "refE") => `(tactic| with_reducible exact rf_var)
local macro_rules | `(tactic| fail "ref1") => `(tactic| intro _)
local macro_rules | `(tactic| fail "ref1") => `(tactic| fail "refX")
local macro_rules | `(tactic| fail "ref1") => `(tactic| ((with_reducible apply idI); fail "refI"))
local macro_rules | `(tactic| fail "ref1") => `(tactic| fail "refG")
local macro_rules | `(tactic| fail "ref1") => `(tactic| ((with_reducible apply idT); fail "refT"))
local macro_rules | `(tactic| fail "ref1") => `(tactic| ((with_reducible apply idS); fail "refS"))
local macro_rules | `(tactic| fail "ref1") => `(tactic| ((with_reducible apply idA); fail "refA"))
local macro_rules | `(tactic| fail "ref1") => `(tactic| ((with_reducible apply idE); fail "refE"))
local macro_rules | `(tactic| fail "ref") => `(tactic| repeat fail "ref1")
local macro_rules | `(tactic| fail "back1") => `(tactic| apply BackL.skip)
local macro_rules | `(tactic| fail "back1") => `(tactic| ((apply putN); exact rfl; fail "nz"))
local macro_rules | `(tactic| fail "back1") => `(tactic| exact BackL.nil _)
local macro_rules | `(tactic| fail "back") => `(tactic| repeat fail "back1")
local macro_rules | `(tactic| fail "lend1") => `(tactic| apply LendL.keep)
local macro_rules | `(tactic| fail "lend1") => `(tactic| ((apply lendN); exact rfl; exact rfl; fail "nz"))
local macro_rules | `(tactic| fail "lend1") => `(tactic| exact LendL.nil _)
local macro_rules | `(tactic| fail "lend") => `(tactic| repeat fail "lend1")
local macro_rules | `(tactic| fail "w1") => `(tactic| ((with_reducible apply d_mkb); (focus fail "back")))
local macro_rules | `(tactic| fail "w1") => `(tactic| ((with_reducible apply d_mkw); (focus fail "lend")))
local macro_rules | `(tactic| fail "w1") => `(tactic| ((with_reducible apply d_back); (focus fail "back")))
local macro_rules | `(tactic| fail "w1") => `(tactic| ((with_reducible apply d_cw); (focus fail "lend")))
local macro_rules | `(tactic| fail "w1") => `(tactic| ((with_reducible apply d_sfldvN); (exact rfl); (fail "fc"); (decide); (first | exact .new (by decide) | ((apply PutR.at); (fail "fi"); (decide +kernel))); (fail "nz")))
local macro_rules | `(tactic| fail "w1") => `(tactic| ((with_reducible apply d_ltset); (exact of_decide_eq_true rfl); (fail "nz")))
local macro_rules | `(tactic| fail "w1") => `(tactic| ((with_reducible apply d_recv); (fail "rs"); (exact rfl); (decide +kernel)))
local macro_rules | `(tactic| fail "w1") => `(tactic| ((with_reducible apply d_dgetv); (fail "rs"); (exact rfl); (exact rfl); (fail "fi"); (exact rfl); (first | exact rfl | exact rdk_sh)))
local macro_rules | `(tactic| fail "w1") => `(tactic| ((with_reducible apply d_fldv); (fail "rs"); (exact rfl); (fail "fc"); (fail "fi"); (exact rfl); (first | exact rfl | exact rdk_sh)))
local macro_rules | `(tactic| fail "w1") => `(tactic| ((with_reducible apply d_le10); exact of_decide_eq_true rfl))
local macro_rules | `(tactic| fail "w1") => `(tactic| with_reducible refine d_iF rfl ?_)
local macro_rules | `(tactic| fail "w1") => `(tactic| with_reducible refine d_iT rfl ?_)
local macro_rules | `(tactic| fail "w1") => `(tactic| ((with_reducible apply d_gconsN); exact of_decide_eq_true rfl; fail "nz"))
local macro_rules | `(tactic| fail "w1") => `(tactic| with_reducible refine d_augw (of_decide_eq_true rfl) ?_)
local macro_rules | `(tactic| fail "w1") => `(tactic| with_reducible refine d_gtup rfl ?_)
local macro_rules | `(tactic| fail "w1") => `(tactic| with_reducible refine d_gtup3 rfl ?_)
local macro_rules | `(tactic| fail "w1") => `(tactic| with_reducible refine d_gtup2 rfl ?_)
local macro_rules | `(tactic| fail "w1") => `(tactic| ((with_reducible apply d_lenT); (fail "rs")))
local macro_rules | `(tactic| fail "w1") => `(tactic| ((with_reducible apply d_aug); exact rfl))
local macro_rules | `(tactic| fail "w1") => `(tactic| ((with_reducible apply d_lenR); (fail "rs"); exact rfl))
local macro_rules | `(tactic| fail "w1") => `(tactic| ((with_reducible apply d_isi false); (fail "rs"); exact rfl; decide +kernel))
local macro_rules | `(tactic| fail "w1") => `(tactic| ((with_reducible apply d_isi true); (fail "rs"); exact rfl; decide +kernel))
local macro_rules | `(tactic| fail "w1") => `(tactic| ((with_reducible apply d_gsubvN); exact rfl; exact rfl; fail "nz"))
local macro_rules | `(tactic| fail "w1") => `(tactic| ((with_reducible apply d_ixT); (fail "rs"); exact rfl; exact rfl; exact rfl; exact rfl))
local macro_rules | `(tactic| fail "w1") => `(tactic| ((with_reducible apply d_ixL); (fail "rs"); exact rfl; exact rfl; exact rfl; exact rfl))
local macro_rules | `(tactic| fail "w1") => `(tactic| ((with_reducible apply d_ln); (fail "rs"); exact rfl))
local macro_rules | `(tactic| fail "w1") => `(tactic| ((with_reducible apply d_insvN); exact rfl; rotate_left; rotate_left; fail "nz"; rotate_left))
local macro_rules | `(tactic| fail "w1") => `(tactic| ((with_reducible apply d_appvN); exact rfl; rotate_left; fail "nz"; rotate_left))
local macro_rules | `(tactic| fail "w1") => `(tactic| ((with_reducible apply d_islst); (fail "rs"); exact rfl))
local macro_rules | `(tactic| fail "w1") => `(tactic| ((with_reducible apply d_notN); exact rfl))
local macro_rules | `(tactic| fail "w1") => `(tactic| ((with_reducible apply d_isN); exact rfl))
local macro_rules | `(tactic| fail "w1") => `(tactic| ((with_reducible apply d_ne); exact rfl; exact rfl; exact rfl))
local macro_rules | `(tactic| fail "w1") => `(tactic| ((with_reducible apply d_eq); exact rfl; exact rfl; exact rfl))
local macro_rules | `(tactic| fail "w1") => `(tactic| ((with_reducible apply d_mvN); exact rfl; exact rfl; fail "nz"))
local macro_rules | `(tactic| fail "w1") => `(tactic| ((with_reducible apply d_var); exact rfl; exact rfl))
local macro_rules | `(tactic| fail "w1") => `(tactic| ((with_reducible apply d_nameN); exact of_decide_eq_true rfl; fail "nz"))
local macro_rules | `(tactic| fail "w1") => `(tactic| with_reducible refine Stp.go ?_)
local macro_rules | `(tactic| fail "w") => `(tactic| repeat fail "w1")
local macro_rules | `(tactic| fail "cw") => `(tactic| (apply d_cw; (focus fail "lend")))
local macro_rules | `(tactic| fail "bk") => `(tactic| (apply d_back; (focus fail "back")))
local macro_rules | `(tactic| fail "fi1") => `(tactic| exact kfN 9 (by decide +kernel))
local macro_rules | `(tactic| fail "fi1") => `(tactic| exact kfN 8 (by decide +kernel))
local macro_rules | `(tactic| fail "fi1") => `(tactic| exact kfN 7 (by decide +kernel))
local macro_rules | `(tactic| fail "fi1") => `(tactic| exact kfN 6 (by decide +kernel))
local macro_rules | `(tactic| fail "fi1") => `(tactic| exact kfN 5 (by decide +kernel))
local macro_rules | `(tactic| fail "fi1") => `(tactic| exact kfN 4 (by decide +kernel))
local macro_rules | `(tactic| fail "fi1") => `(tactic| exact kfN 3 (by decide +kernel))
local macro_rules | `(tactic| fail "fi1") => `(tactic| exact kfN 2 (by decide +kernel))
local macro_rules | `(tactic| fail "fi1") => `(tactic| exact kfN 1 (by decide +kernel))
local macro_rules | `(tactic| fail "fi1") => `(tactic| exact kfN 0 (by decide +kernel))
local macro_rules | `(tactic| fail "fi") => `(tactic| fail "fi1")
local macro_rules | `(tactic| fail "fc") => `(tactic| ((apply FCls.at); (assumption); (decide +kernel)))
local macro_rules | `(tactic| fail "rs1") => `(tactic| exact ⟨rfl, rfl⟩)
local macro_rules | `(tactic| fail "rs1") => `(tactic| exact rfl)
local macro_rules | `(tactic| fail "rs") => `(tactic| fail "rs1")
local macro_rules | `(tactic| fail "nz") => `(tactic| ((try simp only [pt, wipeE, List.cons_append, List.nil_append, List.replicate, List.map_cons, List.map_nil, _root_.E.T.put, _root_.E.T.kids, _root_.E.T.wk, _root_.E.T.left, Int.reduceToNat, List.getElem?_cons_zero, List.getElem?_cons_succ, List.set_cons_zero, List.set_cons_succ]); exact rfl))
section
variable {P : Program} {w : World} {K : PySem.W.Frag} {mg : Str → Option Value} {base : Heap}
abbrev poolT (p c : Addr) (ns : List Int) (a n : Int) : T := .lst p [.lst c (ns.map fun i => T.sh (.int i)), .sh (.int a), .sh (.int n)]
def sDraw : SpecD := fun ts Q _ => ∃ p c ns a n lim, ts = [poolT p c ns a n, .sh (.int lim)] ∧ (0 ≤ a ∧ 0 ≤ n) ∧ 0 < lim ∧ lim < 2 ^ 200 ∧
  ∀ r ns' a' n', 0 ≤ r → r < lim → (0 ≤ a' ∧ 0 ≤ n') → Q (.sh (.int r)) [poolT p c ns' a' n', .sh (.int lim)]
theorem ok_l_draw {f : Addr} {fd : FuncData} (F : Fun K "_law_draw" "_law_draw" s_l_draw f fd) (B : Blt mg) : FnOk P w K mg base CX0 1 f fd ["_law_pool", "_law_limit"] (spD false sDraw) := by
  refine F.ok sc_l_draw (lenD fun ts Q χ ⟨_, _, _, _, _, _, e, _⟩ => by rw [e]; rfl) (fun cdv A outer s H vs Q E hr h => ?_)
  refine bodyD [0, 1] h (pss_cons (ps_set (i := 2) sc_l_draw.nd rfl (.inl rfl) (pe_ix ix_list (pv 0) pe_int (fun _ _ => rfl)))
      (pss_cons (ps_set (i := 3) sc_l_draw.nd rfl (.inl rfl) (pe_ix ix_list (pv 0) pe_int (fun _ _ => rfl)))
      (pss_cons (ps_asg (pe_op op_add (pe_ix ix_list (pv 0) pe_int (fun _ _ => rfl)) pe_int) (pg_sub (pv 0) pe_int set_list))
      (C8.pss_cut (ps_if (PW.pt (pw_and (pt_cmpR op_lt (pv 3) (pe_callB c_len (by rfl) B.len (by decide +kernel) (pa_cons (pv 2) pa_nil)) (nomark _)) (pw_and1 (pt_cmpR op_ge (pe_ix ix_list (pv 2) (pv 3) (fun _ _ => rfl)) (pe_op op_pow pe_int pe_int) (nomark _)))))
        (pss_cons (ps_set (i := 4) sc_l_draw.nd rfl (.inl rfl) (pe_op op_mod (pe_callTy c_int (by rfl) B.int (by decide +kernel) (pa_cons (pe_ix ix_list (pv 2) (pv 3) (fun _ _ => rfl)) pa_nil)) (pv 1)))
      (pss_cons (ps_asg (pe_op op_fdivW (pe_ix ix_list (pv 2) (pv 3) (fun _ _ => rfl)) (pv 1)) (pg_sub (pv 2) (pv 3) set_list))
      (pss_cons (ps_if (pt_cmpR op_lt (pe_ix ix_list (pv 2) (pv 3) (fun _ _ => rfl)) (pe_op op_pow pe_int pe_int) (nomark _))
        (pss_one (ps_asg (pe_op op_add (pv 3) pe_int) (pg_sub (pv 0) pe_int set_list))) pss_nil)
      (pss_one (ps_ret (pmv 4)))))) pss_nil)
      (pss_cons (ps_asg (pe_op op_add (pv 3) pe_int) (pg_sub (pv 0) pe_int set_list))
      (pss_cons (ps_set (i := 5) sc_l_draw.nd rfl (.inl rfl) pe_int)
      (C8.pss_cut (ps_if (pt_cmpR op_gt (pe_callB c_len (by rfl) B.len (by decide +kernel) (pa_cons (pv 2) pa_nil)) pe_int (nomark _))
        (pss_one (ps_set (i := 5) sc_l_draw.nd rfl (.inl rfl) (pe_ix ix_list (pv 2) (pe_op op_mod (pv 3) (pe_callB c_len (by rfl) B.len (by decide +kernel) (pa_cons (pv 2) pa_nil))) (fun _ _ => rfl)))) pss_nil)
      (pss_cons (ps_set (i := 6) sc_l_draw.nd rfl (.inl rfl) (pe_op op_mod (pe_op op_mul (pe_callTy c_int (by rfl) B.int (by decide +kernel) (pa_cons (pe_op op_add (pe_op op_add (pe_op op_mod (pe_callTy c_int (by rfl) B.int (by decide +kernel) (pa_cons (pv 5) pa_nil)) pe_int) (pe_op op_mul pe_int (pe_ix ix_list (pv 0) pe_int (fun _ _ => rfl)))) pe_int) pa_nil)) pe_int) pe_int))
      (pss_cons (ps_set (i := 6) sc_l_draw.nd rfl (.inl rfl) (pe_op op_mod (pe_callTy c_int (by rfl) B.int (by decide +kernel) (pa_cons (pe_op op_mul (pv 6) (pe_op op_add (pe_op op_fdivW (pv 6) pe_int) pe_int)) pa_nil)) pe_int))
      (pss_cons (ps_set (i := 6) sc_l_draw.nd rfl (.inl rfl) (pe_op op_mod (pe_callTy c_int (by rfl) B.int (by decide +kernel) (pa_cons (pe_op op_mul (pv 6) (pe_op op_add (pe_op op_fdivW (pv 6) pe_int) pe_int)) pa_nil)) pe_int))
      (pss_one (ps_ret (pe_op op_mod (pe_callTy c_int (by rfl) B.int (by decide +kernel) (pa_cons (pe_op op_fdivW (pv 6) pe_int) pa_nil)) (pv 1)))))))))))))) 2 5 (fun ts Q χ ⟨_, _, _, _, _, _, e, _⟩ => by rw [e]; rfl) rfl ?_
  apply Exists.intro
  constructor
  · fail "ref"
  rintro ts Q1 χ ⟨p, c, ns, at0, cnt, lim, rfl, ⟨a0, n0⟩, hl, hl2, k⟩
  fail "d"
  refine d_st (ρ' := [poolT p c ns at0 (cnt + 1), .sh (.int lim), .sh (.at c 0 [0]), .sh (.int at0), .no, .no, .no]) rfl ?_
  refine d_cut (fun ρ => ρ = [poolT p c ns at0 (cnt + 1), .sh (.int lim), .sh (.at c 0 [0]), .sh (.int at0), .no, .no, .no]) ?_ ?_
  · fail "d"
    refine d_iB (fun c1 => ?_) (fun c1 => ?_)
    · have hz : at0 < ((ns.map fun i => T.sh (.int i)).length : Int) := by simpa using c1
      have hz' : at0.toNat < ns.length := by rw [List.length_map] at hz; omega
      have hx : (ns.map fun i => T.sh (.int i))[at0.toNat]? = some (.sh (.int ns[at0.toNat])) := by rw [List.getElem?_map, List.getElem?_eq_getElem hz']; rfl
      generalize ns[at0.toNat] = z at hx
      fail "d"
      refine d_ixL (by fail "rs") rfl (ixN_int a0 hz) hx rfl ?_
      fail "d"
      refine d_I (show (0 : Int) ≤ 18 ∧ (18 : Int) ≤ 1000000 ∧ (10 : Int).natAbs < 2 ^ 64 by decide) ?_
      fail "d"
      refine d_iB (fun c2 => ?_) (fun c2 => ?_)
      · fail "d"
        refine d_ixL (by fail "rs") rfl (ixN_int a0 hz) hx rfl ?_
        fail "d"
        refine d_I hl ?_
        fail "d"
        refine d_ixL (by fail "rs") rfl (ixN_int a0 hz) hx rfl ?_
        fail "d"
        refine d_I (wide_div hl (b := 200) (by omega) (by decide) (by decide)) ?_
        fail "d"
        refine d_gsubv rfl (ixN_int a0 hz) ?_
        have e3 : (ns.map fun i => T.sh (.int i)).set at0.toNat (.sh (.int (z / lim))) = (ns.set at0.toNat (z / lim)).map fun i => T.sh (.int i) := by rw [List.map_set]
        rw [e3]
        have m0 := Int.emod_nonneg z (show lim ≠ 0 by omega)
        have m1 := Int.emod_lt_of_pos z hl
        have hx2 : ((ns.set at0.toNat (z / lim)).map fun i => T.sh (.int i))[at0.toNat]? = some (.sh (.int (z / lim))) := by rw [List.getElem?_map, List.getElem?_set_self hz']; rfl
        have hl3 : at0 < (((ns.set at0.toNat (z / lim)).map fun i => T.sh (.int i)).length : Int) := by rw [List.length_map, List.length_set]; omega
        generalize ns.set at0.toNat (z / lim) = ns2 at hx2 hl3 ⊢
        fail "d"
        refine d_ixL (by fail "rs") rfl (ixN_int a0 hl3) hx2 rfl ?_
        fail "d"
        refine d_I (show (0 : Int) ≤ 18 ∧ (18 : Int) ≤ 1000000 ∧ (10 : Int).natAbs < 2 ^ 64 by decide) ?_
        fail "d"
        refine d_iB (fun c3 => ?_) (fun c3 => ?_)
        · fail "d"
          exact k _ ns2 (at0 + 1) (cnt + 1) m0 m1 ⟨by omega, by omega⟩
        · fail "d"
          exact k _ ns2 at0 (cnt + 1) m0 m1 ⟨by omega, by omega⟩
      · fail "d"
        rfl
    · fail "d"
      rfl
  rintro ρ' rfl
  fail "d"
  refine d_st (ρ' := [poolT p c ns (at0 + 1) (cnt + 1), .sh (.int lim), .sh (.at c 0 [0]), .sh (.int at0), .no, .sh (.int 0), .no]) rfl ?_
  refine d_cut (fun ρ => ∃ y : Int, ρ = [poolT p c ns (at0 + 1) (cnt + 1), .sh (.int lim), .sh (.at c 0 [0]), .sh (.int at0), .no, .sh (.int y), .no]) ?_ ?_
  · fail "d"
    refine d_iB (fun c1 => ?_) (fun c1 => ?_)
    · have hp : (0 : Int) < ((ns.map fun i => T.sh (.int i)).length : Int) := by simpa using c1
      have b0 := Int.emod_nonneg at0 (show ((ns.map fun i => T.sh (.int i)).length : Int) ≠ 0 by omega)
      have b1 := Int.emod_lt_of_pos at0 hp
      fail "d"
      refine d_I hp ?_
      refine d_ixL (by fail "rs") rfl (ixN_int b0 b1) (x := .sh (.int (ns[(at0 % ((ns.map fun i => T.sh (.int i)).length : Int)).toNat]'(by rw [List.length_map] at b0 b1 ⊢; omega)))) (by rw [List.getElem?_map, List.getElem?_eq_getElem]; rfl) rfl ?_
      fail "d"
      exact ⟨_, rfl⟩
    · fail "d"
      exact ⟨0, rfl⟩
  rintro ρ' ⟨y, rfl⟩
  fail "d"
  refine d_I (show (0 : Int) < 2147483629 by decide) ?_
  fail "d"
  refine d_I (.inl ⟨by decide, by decide⟩) ?_
  fail "d"
  refine d_I (.inr ⟨by decide, by decide⟩) ?_
  fail "d"
  refine d_I (show (0 : Int) < 2147483647 by decide) ?_
  fail "d"
  generalize hn1 : (y % 2147483629 + 7919 * (cnt + 1) + 1) * 48271 % 2147483647 = n1
  have n10 : 0 ≤ n1 := by rw [← hn1]; exact Int.emod_nonneg _ (by decide)
  have n11 : n1 < 2147483647 := by rw [← hn1]; exact Int.emod_lt_of_pos _ (by decide)
  refine d_I ⟨by decide, by decide⟩ ?_
  fail "d"
  refine d_I (.inl ⟨by omega, by omega⟩) ?_
  fail "d"
  refine d_I (show (0 : Int) < 2147483647 by decide) ?_
  fail "d"
  generalize hn2 : n1 * (n1 / 1009 + 69621) % 2147483647 = n2
  have n20 : 0 ≤ n2 := by rw [← hn2]; exact Int.emod_nonneg _ (by decide)
  have n21 : n2 < 2147483647 := by rw [← hn2]; exact Int.emod_lt_of_pos _ (by decide)
  refine d_I ⟨by decide, by decide⟩ ?_
  fail "d"
  refine d_I (.inl ⟨by omega, by omega⟩) ?_
  fail "d"
  refine d_I (show (0 : Int) < 2147483399 by decide) ?_
  fail "d"
  refine d_I ⟨by decide, by decide⟩ ?_
  fail "d"
  refine d_I hl ?_
  exact k _ ns (at0 + 1) (cnt + 1) (Int.emod_nonneg _ (by omega)) (Int.emod_lt_of_pos _ hl) ⟨by omega, by omega⟩
/-- a list of data, shared or one's own -/
def LD (t : T) (ds : List D) : Prop := t = .sh (.lst ds) ∨ ∃ a, t = .lst a (ds.map T.sh)
theorem LD.rd {t : T} {ds : List D} (h : LD t ds) (i : Nat) : ∃ t', t.rd i [] = some t' ∧ (∀ ρ : E.Env, ρ[i]? = some t → Rs ρ t' t) ∧ t.lstK = some (ds.map T.sh) ∧ t.seqK = some (ds.map T.sh) ∧ t.live = true := by
  rcases h with rfl | ⟨a, rfl⟩
  · exact ⟨_, rfl, fun _ _ => rfl, rfl, rfl, rfl⟩
  · refine ⟨_, rfl, fun ρ h => ⟨?_, rfl⟩, rfl, rfl, rfl⟩
    unfold gt
    rw [h]
    rfl
abbrev dS : Str → D := D.str
theorem svs_S (zs : List Str) : svs ((zs.map dS).map T.sh) = some (zs.map V.str) := by rw [List.map_map]; exact svs_strs zs
def sWord : SpecD := fun ts Q _ => ∃ p c ns a n t, ∃ zs : List Str, ts = [poolT p c ns a n, t] ∧ (0 ≤ a ∧ 0 ≤ n) ∧ LD t (zs.map dS) ∧ zs.length < 26 ∧
  ∀ z ns' a' n', IsW z → z ∉ zs → (0 ≤ a' ∧ 0 ≤ n') → Q (.sh (.str z)) [poolT p c ns' a' n', t]
theorem ok_l_word {f : Addr} {fd : FuncData} (F : Fun K "_law_word" "_law_word" s_l_word f fd) (B : Blt mg) (C_l_draw : Cal P w K mg base CX0 1 "_law_draw" (spD false sDraw)) : FnOk P w K mg base CX0 2 f fd ["_law_pool", "_law_taken"] (spD false sWord) := by
  refine F.ok sc_l_word (lenD fun ts Q χ ⟨_, _, _, _, _, _, _, e, _⟩ => by rw [e]; rfl) (fun cdv A outer s H vs Q E hr h => ?_)
  refine bodyD [0, 1] h (pss_cons (ps_set (i := 2) sc_l_word.nd rfl (.inr rfl) pe_str)
      (pss_cons (ps_set (i := 3) sc_l_word.nd rfl (.inl rfl) (pe_op op_add pe_int (pe_c C_l_draw hr (by first | decide | omega) (by rfl) (pa_cons (pv 0) (pa_cons pe_int pa_nil)))))
      (pss_cons (ps_set (i := 4) sc_l_word.nd rfl (.inl rfl) (pe_jn pe_str (pe_lc (te := (tOp rIxS (tVar 2) (tCl _ _ (tCons (tVar 0) (tCons _ tNil))))) (own := [("_law_k", 6)]) (g := gName 6) (tt := tYes) rfl sc_l_word.nd (pi_range1 rfl B.range (pa_cons (pv 3) pa_nil)) (blkOk_by (own := [("_law_k", 6)]) (N := ["_law_pool", "_law_taken", "_law_letters", "_law_size", "_law_word_here", "_law_letter", "_law_k"]) (sc := defScope s_l_word) (by decide +kernel)) (fun _ _ _ _ _ => by exact (pg_name (i := 6) sc_l_word.nd rfl (by first | exact Or.inl rfl | exact Or.inr rfl))) (fun _ _ _ _ _ => by exact pts_nil) (fun _ _ _ _ _ => by exact (pe_ix ix_str (pv 2) (pe_c C_l_draw hr (by first | decide | omega) (by rfl) (pa_cons (pv 0) (pa_cons pe_int pa_nil))) (fun _ _ => rfl))))))
      (pss_cons (ps_if (pt_cmpR op_notIn_seq (pv 4) (pv 1) (by rfl))
        (pss_one (ps_ret (pmv 4))) pss_nil)
      (pss_cons (ps_for PassesOwn.never rfl (pi_str (pv 2)) (pg_name (i := 5) sc_l_word.nd rfl (.inl rfl))
        (pss_one (ps_if (pt_cmpR op_notIn_seq (pe_op op_mul_str (pv 5) pe_int) (pv 1) (by rfl))
        (pss_one (ps_ret (pe_op op_mul_str (pv 5) pe_int))) pss_nil)))
      (pss_one (ps_ret (pmv 4)))))))) 2 5 (fun ts Q χ ⟨_, _, _, _, _, _, _, e, _⟩ => by rw [e]; rfl) rfl ?_
  apply Exists.intro
  constructor
  · fail "ref"
  rintro ts Q1 χ ⟨p, c, ns, at0, cnt, t, zs, rfl, hp, hL, hz, k⟩
  obtain ⟨t', hrd, hrs, hk, hk', hv⟩ := hL.rd 1
  fail "d"
  fail "cw"
  refine ⟨p, c, ns, at0, cnt, _, rfl, hp, by decide, by decide, fun d ns' a' n' d0 d1 h' => ?_⟩
  fail "bk"
  fail "d"
  refine ⟨1 + d, rfl, ⟨by omega, by omega⟩, fun i ρ acc => ∃ ns a n, ∃ l : List Nat, ρ = [poolT p c ns a n, t, .sh (.str abc), .sh (.int (1 + d)), .no, .no, .no] ∧ (0 ≤ a ∧ 0 ≤ n) ∧ i ≤ (1 + d).toNat ∧ l.length = i ∧ (∀ c ∈ l, 97 ≤ c ∧ c ≤ 122) ∧ acc = (l.map one).map fun z => T.sh (.str z), ⟨ns', a', n', [], rfl, h', Nat.zero_le _, rfl, by simp, rfl⟩, ?_, ?_, ?_⟩
  · rintro i ρ acc ⟨ns, a, n, l, rfl, h, hi, hl, _, rfl⟩
    exact ⟨True.intro, by simp; omega⟩
  · rintro i y ρ acc hi ⟨ns, a, n, l, rfl, h, hil, hl, hc, rfl⟩
    have hi' : i < (1 + d).toNat := by
      have := (List.getElem?_eq_some_iff.mp hi).1
      simpa [rngT] using this
    fail "d"
    fail "cw"
    refine ⟨p, c, ns, a, n, _, rfl, h, by decide, by decide, fun r ns' a' n' r0 r1 h' => ?_⟩
    fail "bk"
    have hx : atI abc.cps.toList r = some (97 + r.toNat) := by
      rw [abc_list]
      have z := atI_nat (xs := (List.range 26).map (97 + ·)) (j := r.toNat) (v := 97 + r.toNat) (by rw [List.getElem?_map, List.getElem?_range (by omega)]; rfl)
      rw [show ((r.toNat : Nat) : Int) = r by omega] at z
      exact z
    refine ⟨abc, r, _, rfl, by decide +kernel, hx, ?_⟩
    refine ⟨_, .inl rfl, ns', a', n', l ++ [97 + r.toNat], rfl, h', by omega, by simp [hl], fun x hx => ?_, ?_⟩
    · rcases List.mem_append.mp hx with h | h
      · exact hc x h
      · have := List.mem_singleton.mp h
        omega
    · rw [List.map_append, List.map_append]
      rfl
  rintro ρ acc ⟨ns', a', n', l, rfl, h', _, hl, hc, rfl⟩ al
  rw [show (rngT 0 (1 + d).toNat).length = (1 + d).toNat by simp [rngT]] at hl
  refine ⟨_, rfl, l.map one, rfl, ?_, ?_⟩
  · rw [show (l.map one).map (fun x => x.length) = l.map (fun _ => 1) by simp [one, Str.length]]
    have e0 : ∀ l : List Nat, (l.map (fun _ => 1)).sum = l.length := fun l => by induction l with | nil => rfl | cons a r ih => simp only [List.map_cons, List.sum_cons, ih, List.length_cons]; omega
    rw [e0, show (Str.ofString "").length = 0 by decide +kernel]
    omega
  have hw : IsW (Txt.join (Str.ofString "") (l.map one)) := by
    have z := jn_ones l
    have zl : (Txt.join (Str.ofString "") (l.map one)).length = l.length := by
      show (Txt.join (Str.ofString "") (l.map one)).cps.size = l.length
      rw [← Array.length_toList, z]
    refine ⟨by omega, by omega, ?_⟩
    rw [z]
    exact hc
  generalize Txt.join (Str.ofString "") (l.map one) = z at hw
  fail "d"
  refine d_var rfl hrd ?_
  refine d_nin rfl (hrs _ rfl) hk' (svs_S zs) ?_
  rw [inV_str]
  fail "d"
  refine d_iB (fun c1 => ?_) (fun c1 => ?_)
  · fail "d"
    exact k z ns' a' n' hw (by simpa using c1) h'
  fail "d"
  refine ⟨fun i ρ => ∃ u, ρ = [poolT p c ns' a' n', t, .sh (.str abc), .sh (.int (1 + d)), .sh (.str z), u, .no] ∧ ∀ j, j < i → (⟨(List.replicate 8 (97 + j)).toArray⟩ : Str) ∈ zs, ⟨_, rfl, fun j hj => absurd hj (by omega)⟩, fun _ _ _ => True.intro, ?_, ?_⟩
  · rintro i y ρ hi ⟨u, rfl, hj⟩
    obtain ⟨ch, hch, rfl⟩ := get_map hi
    have hi' : i < 26 := by
      have := (List.getElem?_eq_some_iff.mp hch).1
      rw [Array.length_toList, abc_size] at this
      exact this
    have ech : ch = 97 + i := by
      rw [abc_list] at hch
      simp [List.getElem?_range hi'] at hch
      exact hch.symm
    subst ech
    fail "d"
    refine ⟨97 + i, 8, rfl, by decide, by decide, ?_⟩
    fail "d"
    refine d_var rfl hrd ?_
    refine d_nin rfl (hrs _ rfl) hk' (svs_S zs) ?_
    rw [inV_str]
    fail "d"
    refine d_iB (fun c2 => ?_) (fun c2 => ?_)
    · fail "d"
      refine ⟨97 + i, 8, rfl, by decide, by decide, ?_⟩
      refine k _ ns' a' n' ⟨by show 1 ≤ ((List.replicate 8 (97 + i)).toArray).size; simp, by show ((List.replicate 8 (97 + i)).toArray).size ≤ 8; simp, fun c hc => ?_⟩ (by simpa using c2) h'
      have e := List.eq_of_mem_replicate (show c ∈ List.replicate 8 (97 + i) from hc)
      omega
    · fail "d"
      refine ⟨_, rfl, fun j hj' => ?_⟩
      by_cases e : j = i
      · subst e; simpa using c2
      · exact hj j (by omega)
  · rintro ρ ⟨u, rfl, hj⟩
    exfalso
    rw [List.length_map, Array.length_toList, abc_size] at hj
    have nd : ((List.range 26).map fun j => (⟨(List.replicate 8 (97 + j)).toArray⟩ : Str)).Nodup := by decide +kernel
    have le := sub_len (ts := zs) nd fun x hx => by
      obtain ⟨j, h1, rfl⟩ := List.mem_map.mp hx
      exact hj j (List.mem_range.mp h1)
    simp at le
    omega
structure Gd (n : Nat) (d : PyData) : Prop where
  lay : PyData.canLay0 d = true
  dep : PyData.depth d ≤ n
  slf : PyData.eqv d d = true
theorem Gd.all {n : Nat} : ∀ {xs : List PyData}, (∀ x ∈ xs, Gd n x) → PyData.canLayAll0 xs = true ∧ PyData.depthAll xs ≤ n ∧ PyData.eqvAll xs xs = true
  | [], _ => by simp [PyData.canLayAll0, PyData.depthAll, PyData.eqvAll]
  | x :: r, h => by
    obtain ⟨a, b, c⟩ := Gd.all fun y hy => h y (List.mem_cons_of_mem _ hy)
    have hx := h x List.mem_cons_self
    refine ⟨by simp [PyData.canLayAll0, hx.lay, a], ?_, by simp [PyData.eqvAll, hx.slf, c]⟩
    simp only [PyData.depthAll]
    exact Nat.max_le.mpr ⟨hx.dep, b⟩
theorem Gd.tup {n : Nat} {xs : List PyData} (h : ∀ x ∈ xs, Gd n x) : Gd (n + 1) (.tuple xs) := by
  obtain ⟨a, b, c⟩ := Gd.all h
  exact ⟨by simp [PyData.canLay0, a], by simp only [PyData.depth]; omega, by simp [PyData.eqv, c]⟩
theorem Gd.lst {n : Nat} {xs : List PyData} (h : ∀ x ∈ xs, Gd n x) : Gd (n + 1) (.list xs) := by
  obtain ⟨a, b, c⟩ := Gd.all h
  exact ⟨by simp [PyData.canLay0, a], by simp only [PyData.depth]; omega, by simp [PyData.eqv, c]⟩
theorem Gd.up {n m : Nat} {d : PyData} (h : Gd n d) (hm : n ≤ m) : Gd m d := ⟨h.lay, Nat.le_trans h.dep hm, h.slf⟩
theorem Gd.str {z : Str} (h : IsW z) : Gd 0 (.str z) := ⟨by simp [PyData.canLay0, strOk_w h], by simp [PyData.depth], by simp [PyData.eqv]⟩
theorem Gd.shaped {n : Nat} {d : PyData} (h : Gd n d) (hn : n ≤ 64) : SeqAt.shaped d = true := by
  unfold SeqAt.shaped
  rw [h.lay, decide_eq_true (Nat.le_trans h.dep hn)]
  rfl
structure Sw (n m : Nat) (d : PyData) : Prop where
  gd : Gd n d
  wt : d.weight ≤ m
  is : d.intsShort 13 = true
  sh : d.showable = true
theorem Sw.up {n n' m m' : Nat} {d : PyData} (h : Sw n m d) (hn : n ≤ n') (hm : m ≤ m') : Sw n' m' d := ⟨h.gd.up hn, Nat.le_trans h.wt hm, h.is, h.sh⟩
theorem Sw.non : Sw 0 0 .none := ⟨⟨by simp [PyData.canLay0], by simp [PyData.depth], by simp [PyData.eqv]⟩, by simp [PyData.weight], by simp [PyData.intsShort], by simp [PyData.showable]⟩
theorem Sw.bl (b : Bool) : Sw 0 0 (.bool b) := ⟨⟨by simp [PyData.canLay0], by simp [PyData.depth], by simp [PyData.eqv]⟩, by simp [PyData.weight], by simp [PyData.intsShort], by simp [PyData.showable]⟩
theorem Sw.str {z : Str} (h : IsW z) : Sw 0 8 (.str z) := ⟨.str h, by
  have h2 : z.length ≤ 8 := h.2.1
  show z.cps.size ≤ 8
  exact h2, by simp [PyData.intsShort], by simp [PyData.showable]⟩
theorem Sw.all {n m : Nat} : ∀ {xs : List PyData}, (∀ x ∈ xs, Sw n m x) → PyData.weightAll xs ≤ xs.length * (m + 1) ∧ PyData.intsShortAll 13 xs = true ∧ PyData.showableAll xs = true
  | [], _ => by simp [PyData.weightAll, PyData.intsShortAll, PyData.showableAll]
  | x :: r, h => by
    obtain ⟨a, b, c⟩ := Sw.all fun y hy => h y (List.mem_cons_of_mem _ hy)
    have hx := h x List.mem_cons_self
    refine ⟨?_, by simp [PyData.intsShortAll, hx.is, b], by simp [PyData.showableAll, hx.sh, c]⟩
    have := hx.wt
    simp only [PyData.weightAll, List.length_cons, Nat.succ_mul]
    omega
theorem Sw.tup {n m : Nat} {xs : List PyData} (h : ∀ x ∈ xs, Sw n m x) : Sw (n + 1) (xs.length * (m + 1)) (.tuple xs) := by
  obtain ⟨a, b, c⟩ := Sw.all h
  exact ⟨.tup fun x hx => (h x hx).gd, by simpa [PyData.weight] using a, by simpa [PyData.intsShort] using b, by simpa [PyData.showable] using c⟩
theorem Sw.lst {n m : Nat} {xs : List PyData} (h : ∀ x ∈ xs, Sw n m x) : Sw (n + 1) (xs.length * (m + 1)) (.list xs) := by
  obtain ⟨a, b, c⟩ := Sw.all h
  exact ⟨.lst fun x hx => (h x hx).gd, by simpa [PyData.weight] using a, by simpa [PyData.intsShort] using b, by simpa [PyData.showable] using c⟩
theorem Sw.size {n m : Nat} {d : PyData} (h : Sw n m d) (hn : n ≤ 64) (hm : m ≤ 2 ^ 20) : d.shown.length ≤ sizeLine := by
  refine Nat.le_trans (shown_le13 ?_ h.is) (by rw [sizeLine_eq]; decide)
  unfold PyData.layable0
  rw [h.gd.lay, decide_eq_true (Nat.le_trans h.gd.dep hn), decide_eq_true (Nat.le_trans h.wt hm)]
  rfl
/-- repr of both is the same: any plain data whose numbers are shown within 40 signs -/
def sExactX : SpecD := fun ts Q _ => ∃ (d : D) (p : PyData), ts = [.sh d, .sh d] ∧ d.py = some p ∧ p.hasDict = false ∧ p.showable = true ∧ p.depth ≤ 64 ∧ p.shown.length ≤ sizeLine ∧ Q (.sh (.bl true)) [.no, .no]
theorem ok_l_exactX {f : Addr} {fd : FuncData} (F : Fun K "_law_exact" "_law_exact" s_l_exact f fd) (B : Blt mg) (B_repr : mg "repr" = none) : FnG P w K mg base CX0 2 f fd ["_law_actual", "_law_due_here"] (spD false sExactX) := by
  refine fnG_of F sc_l_exact (lenD (by intro ts Q χ h; repeat (first | (obtain ⟨e, _⟩ := h; subst e; rfl) | (obtain ⟨_, h⟩ := h)))) (fun cdv A outer s H vs Q E hr hgd h => ?_)
  have hu := hu_of hr
  refine bodyD [] h (pss_one (ps_ret (pe_cmpR op_eq (pe_callB (call_reprD (u70 hr) hgd) (by rfl) B_repr (by decide +kernel) (pa_cons (pv 0) pa_nil)) (pe_callB (call_reprD (u70 hr) hgd) (by rfl) B_repr (by decide +kernel) (pa_cons (pv 1) pa_nil)) (nomark _)))) 2 0 (by intro ts Q χ h; repeat (first | (obtain ⟨e, _⟩ := h; subst e; rfl) | (obtain ⟨_, h⟩ := h))) rfl ?_
  apply Exists.intro
  constructor
  · fail "ref"
  rintro ts Q1 χ ⟨d, p, rfl, hp, hd, hs, hh, hl, q⟩
  have hr : ∀ ρ, Rs ρ (T.sh d) (.sh d) := fun ρ => by
    cases d with
    | «at» a i p => cases hp
    | _ => rfl
  fail "w"
  refine d_reprG (hr _) hp hd hs hh hl ?_
  fail "w"
  refine d_reprG (hr _) hp hd hs hh hl ?_
  fail "w"
  rw [decide_eq_true rfl]
  fail "w"
  exact q
structure Sx (n m : Nat) (d : PyData) : Prop where
  gd : Gd n d
  wt : d.weight ≤ m
  is : d.intsShort 40 = true
  sh : d.showable = true
theorem Sx.up {n n' m m' : Nat} {d : PyData} (h : Sx n m d) (hn : n ≤ n') (hm : m ≤ m') : Sx n' m' d := ⟨h.gd.up hn, Nat.le_trans h.wt hm, h.is, h.sh⟩
theorem Sx.bl (b : Bool) : Sx 0 0 (.bool b) := ⟨⟨by simp [PyData.canLay0], by simp [PyData.depth], by simp [PyData.eqv]⟩, by simp [PyData.weight], by simp [PyData.intsShort], by simp [PyData.showable]⟩
theorem Sx.str {z : Str} (h : IsW z) : Sx 0 8 (.str z) := ⟨.str h, by
  have h2 : z.length ≤ 8 := h.2.1
  show z.cps.size ≤ 8
  exact h2, by simp [PyData.intsShort], by simp [PyData.showable]⟩
theorem Sx.int {i : Int} (h0 : 0 ≤ i) (h : i < 10 ^ 30) : Sx 0 120 (.int i) := by
  have hn : i.natAbs < 10 ^ 30 := by omega
  have hl : i.natAbs.log2 < 100 := by
    by_cases z : i.natAbs = 0
    · rw [z]; decide
    · exact (Nat.log2_lt z).mpr (Nat.lt_trans hn (by decide))
  refine ⟨⟨by simp [PyData.canLay0], by simp [PyData.depth], by simp [PyData.eqv]⟩, ?_, ?_, ?_⟩
  · show (if (i == 0) = true then 0 else i.natAbs.log2 + 1) ≤ 120
    split <;> omega
  · show decide ((Str.ofString (toString i)).length ≤ 40) = true
    have e := PySem.int_text_length_le10 (k := 30) (by decide) hn
    rw [PySem.ofString_length]
    exact decide_eq_true (by omega)
  · show decide (i.natAbs.log2 < 1920) = true
    exact decide_eq_true (by omega)
theorem Sx.all {n m : Nat} : ∀ {xs : List PyData}, (∀ x ∈ xs, Sx n m x) → PyData.weightAll xs ≤ xs.length * (m + 1) ∧ PyData.intsShortAll 40 xs = true ∧ PyData.showableAll xs = true
  | [], _ => by simp [PyData.weightAll, PyData.intsShortAll, PyData.showableAll]
  | x :: r, h => by
    obtain ⟨a, b, c⟩ := Sx.all fun y hy => h y (List.mem_cons_of_mem _ hy)
    have hx := h x List.mem_cons_self
    refine ⟨?_, by simp [PyData.intsShortAll, hx.is, b], by simp [PyData.showableAll, hx.sh, c]⟩
    have := hx.wt
    simp only [PyData.weightAll, List.length_cons, Nat.succ_mul]
    omega
theorem Sx.tup {n m : Nat} {xs : List PyData} (h : ∀ x ∈ xs, Sx n m x) : Sx (n + 1) (xs.length * (m + 1)) (.tuple xs) := by
  obtain ⟨a, b, c⟩ := Sx.all h
  exact ⟨.tup fun x hx => (h x hx).gd, by simpa [PyData.weight] using a, by simpa [PyData.intsShort] using b, by simpa [PyData.showable] using c⟩
theorem Sx.lst {n m : Nat} {xs : List PyData} (h : ∀ x ∈ xs, Sx n m x) : Sx (n + 1) (xs.length * (m + 1)) (.list xs) := by
  obtain ⟨a, b, c⟩ := Sx.all h
  exact ⟨.lst fun x hx => (h x hx).gd, by simpa [PyData.weight] using a, by simpa [PyData.intsShort] using b, by simpa [PyData.showable] using c⟩
theorem Sx.fin {n m : Nat} {d : PyData} (h : Sx n m d) (hn : n ≤ 64) (hm : m ≤ 10000) : d.hasDict = false ∧ d.showable = true ∧ d.depth ≤ 64 ∧ d.shown.length ≤ sizeLine := by
  refine ⟨PyData.hasDict_of_canLay _ h.gd.lay, h.sh, Nat.le_trans h.gd.dep hn, ?_⟩
  have h2 := PyData.shown_le 40 (by decide) d (PyData.leavesShort_of_canLay0 40 d h.gd.lay h.is)
  have h3 := h.wt
  rw [sizeLine_eq]
  omega
structure T81 (P : Program) (w : World) (K : PySem.W.Frag) (mg : Str → Option Value) (base : Heap) (CT C1 C2 C3 C4 C5 C6 CR C7 C8 : Addr) : Prop where
  x_InvalidHeap : XCls P w K mg base "InvalidHeap" C1 ["part", "where"]
  x_InvalidProgram : XCls P w K mg base "InvalidProgram" C2 ["part", "place"]
  x_InvalidFacts : XCls P w K mg base "InvalidFacts" C3 ["part"]
  x_InvalidArgument : XCls P w K mg base "InvalidArgument" C4 ["part"]
  x_InvalidText : XCls P w K mg base "InvalidText" C5 ["line"]
  x_LimitExceeded : XCls P w K mg base "LimitExceeded" C6 ["limit"]
  x_Hollow : XCls P w K mg base "Hollow" C7 ["name"]
  x_Refused : XCls P w K mg base "Refused" C8 ["name"]
  c_ThawError : ∃ u, mg "ThawError" = some u ∧ RelV (.ref CT) u
  c_RunError : ∃ u, mg "RunError" = some u ∧ RelV (.ref CR) u
  b_ValueError : mg "ValueError" = none
section
variable {P : Program} {w : World} {K : PySem.W.Frag} {mg : Str → Option Value} {base : Heap} {CT C1 C2 C3 C4 C5 C6 CR C7 C8 : Addr} (h : T81 P w K mg base CT C1 C2 C3 C4 C5 C6 CR C7 C8)
include h
theorem T81.c_InvalidHeap : ∃ u, mg "InvalidHeap" = some u ∧ RelV (.ref C1) u := ⟨_, h.x_InvalidHeap.mgx, rfl⟩
theorem T81.c_InvalidProgram : ∃ u, mg "InvalidProgram" = some u ∧ RelV (.ref C2) u := ⟨_, h.x_InvalidProgram.mgx, rfl⟩
theorem T81.c_InvalidFacts : ∃ u, mg "InvalidFacts" = some u ∧ RelV (.ref C3) u := ⟨_, h.x_InvalidFacts.mgx, rfl⟩
theorem T81.c_InvalidArgument : ∃ u, mg "InvalidArgument" = some u ∧ RelV (.ref C4) u := ⟨_, h.x_InvalidArgument.mgx, rfl⟩
theorem T81.c_InvalidText : ∃ u, mg "InvalidText" = some u ∧ RelV (.ref C5) u := ⟨_, h.x_InvalidText.mgx, rfl⟩
theorem T81.c_LimitExceeded : ∃ u, mg "LimitExceeded" = some u ∧ RelV (.ref C6) u := ⟨_, h.x_LimitExceeded.mgx, rfl⟩
theorem T81.c_Hollow : ∃ u, mg "Hollow" = some u ∧ RelV (.ref C7) u := ⟨_, h.x_Hollow.mgx, rfl⟩
theorem T81.c_Refused : ∃ u, mg "Refused" = some u ∧ RelV (.ref C8) u := ⟨_, h.x_Refused.mgx, rfl⟩
end
/-- the classes that _law_family asks for, in its order -/
abbrev us81 (CT C1 C2 C3 C4 C5 C6 CR C7 C8 : Addr) : List Value := [.ref CT, .type "ValueError", .ref C1, .ref C2, .ref C3, .ref C4, .ref C5, .ref C6, .ref CR, .ref C7, .ref C8]
def sFam (K : PySem.W.Frag) (us : List Value) : SpecD := fun ts Q _ => ∃ (C : Addr) (fl : List Str) (ds : List D) (b : Nat → Bool), ts = [.sh (.xv C fl ds)] ∧ XfC K C ∧ XIs K C ∧ (∀ j, j < 11 → PySem.W.kitOne K (.ref C) (us.getD j .none) = some (b j)) ∧ ∀ a, Q (.lst a ((List.range 11).map fun j => T.sh (.bl (b j)))) ts
theorem ok_l_family {f CT C1 C2 C3 C4 C5 C6 CR C7 C8 : Addr} {fd : FuncData} (F : Fun K "_law_family" "_law_family" s_l_family f fd) (B : Blt mg) (T : T81 P w K mg base CT C1 C2 C3 C4 C5 C6 CR C7 C8) : FnOk P w K mg base CX0 1 f fd ["_law_e"] (spD false (sFam K (us81 CT C1 C2 C3 C4 C5 C6 CR C7 C8))) := by
  refine F.ok sc_l_family (lenD (by intro ts Q χ h; repeat (first | (obtain ⟨e, _⟩ := h; subst e; rfl) | (obtain ⟨_, h⟩ := h)))) (fun cdv A outer s H vs Q E hr h => ?_)
  have hu := hu_of hr
  refine bodyD [0] h (pss_cons (ps_set (i := 1) sc_l_family.nd rfl (.inl rfl) (pe_lst (pa_cons (pe_callB call_isX (by rfl) B.isinstance (by decide +kernel) (pa_cons (pv 0) (pa_cons (pe_gv (by rfl) T.c_ThawError) pa_nil))) (pa_cons (pe_callB call_isX (by rfl) B.isinstance (by decide +kernel) (pa_cons (pv 0) (pa_cons (pe_bltn (v := .ty "ValueError") (by rfl) T.b_ValueError PyProof.Rows.Boot.«ValueError» rfl) pa_nil))) pa_nil))))
      (pss_cons (ps_set (i := 2) sc_l_family.nd rfl (.inl rfl) (pe_lst (pa_cons (pe_callB call_isX (by rfl) B.isinstance (by decide +kernel) (pa_cons (pv 0) (pa_cons (pe_gv (by rfl) T.c_InvalidHeap) pa_nil))) (pa_cons (pe_callB call_isX (by rfl) B.isinstance (by decide +kernel) (pa_cons (pv 0) (pa_cons (pe_gv (by rfl) T.c_InvalidProgram) pa_nil))) (pa_cons (pe_callB call_isX (by rfl) B.isinstance (by decide +kernel) (pa_cons (pv 0) (pa_cons (pe_gv (by rfl) T.c_InvalidFacts) pa_nil))) pa_nil)))))
      (pss_cons (ps_set (i := 3) sc_l_family.nd rfl (.inl rfl) (pe_lst (pa_cons (pe_callB call_isX (by rfl) B.isinstance (by decide +kernel) (pa_cons (pv 0) (pa_cons (pe_gv (by rfl) T.c_InvalidArgument) pa_nil))) (pa_cons (pe_callB call_isX (by rfl) B.isinstance (by decide +kernel) (pa_cons (pv 0) (pa_cons (pe_gv (by rfl) T.c_InvalidText) pa_nil))) (pa_cons (pe_callB call_isX (by rfl) B.isinstance (by decide +kernel) (pa_cons (pv 0) (pa_cons (pe_gv (by rfl) T.c_LimitExceeded) pa_nil))) pa_nil)))))
      (pss_one (ps_ret (pe_op op_cat (pe_op op_cat (pe_op op_cat (pv 1) (pv 2)) (pv 3)) (pe_lst (pa_cons (pe_callB call_isX (by rfl) B.isinstance (by decide +kernel) (pa_cons (pv 0) (pa_cons (pe_gv (by rfl) T.c_RunError) pa_nil))) (pa_cons (pe_callB call_isX (by rfl) B.isinstance (by decide +kernel) (pa_cons (pv 0) (pa_cons (pe_gv (by rfl) T.c_Hollow) pa_nil))) (pa_cons (pe_callB call_isX (by rfl) B.isinstance (by decide +kernel) (pa_cons (pv 0) (pa_cons (pe_gv (by rfl) T.c_Refused) pa_nil))) pa_nil)))))))))) 1 3 (by intro ts Q χ h; repeat (first | (obtain ⟨e, _⟩ := h; subst e; rfl) | (obtain ⟨_, h⟩ := h))) rfl ?_
  apply Exists.intro
  constructor
  · fail "ref"
  rintro ts Q1 χ ⟨C, fl, ds, b, rfl, hx, hi, hk, q⟩
  fail "w"
  refine d_isX (.own _) hx hi (hk 0 (by decide)) ?_
  fail "w"
  refine d_isX (.ty _) hx hi (hk 1 (by decide)) ?_
  fail "w"
  intro a1
  fail "w"
  refine d_isX (.own _) hx hi (hk 2 (by decide)) ?_
  fail "w"
  refine d_isX (.own _) hx hi (hk 3 (by decide)) ?_
  fail "w"
  refine d_isX (.own _) hx hi (hk 4 (by decide)) ?_
  fail "w"
  intro a2
  fail "w"
  refine d_isX (.own _) hx hi (hk 5 (by decide)) ?_
  fail "w"
  refine d_isX (.own _) hx hi (hk 6 (by decide)) ?_
  fail "w"
  refine d_isX (.own _) hx hi (hk 7 (by decide)) ?_
  fail "w"
  intro a3
  fail "w"
  refine d_catL (ds := [.bl (b 0), .bl (b 1)]) (es := [.bl (b 2), .bl (b 3), .bl (b 4)]) ⟨rfl, rfl⟩ ⟨rfl, rfl⟩ rfl rfl (by simp) fun a4 => ?_
  fail "w"
  refine d_catL (ds := [.bl (b 0), .bl (b 1), .bl (b 2), .bl (b 3), .bl (b 4)]) (es := [.bl (b 5), .bl (b 6), .bl (b 7)]) rfl ⟨rfl, rfl⟩ rfl rfl (by simp) fun a5 => ?_
  fail "w"
  refine d_isX (.own _) hx hi (hk 8 (by decide)) ?_
  fail "w"
  refine d_isX (.own _) hx hi (hk 9 (by decide)) ?_
  fail "w"
  refine d_isX (.own _) hx hi (hk 10 (by decide)) ?_
  fail "w"
  intro a6
  refine d_catL (ds := [.bl (b 0), .bl (b 1), .bl (b 2), .bl (b 3), .bl (b 4), .bl (b 5), .bl (b 6), .bl (b 7)]) (es := [.bl (b 8), .bl (b 9), .bl (b 10)]) rfl rfl rfl rfl (by simp) fun a7 => ?_
  fail "w"
  exact q _
theorem svs_I : ∀ ns : List Int, svs (ns.map fun i => T.sh (.int i)) = some (ns.map V.int)
  | [] => rfl
  | x :: r => by
    show (some (V.int x)).bind (fun v => (svs (r.map fun i => T.sh (.int i))).map (v :: ·)) = _
    rw [svs_I r]
    rfl
theorem inV_int (i : Int) : ∀ ns : List Int, inV (.int i) (ns.map V.int) = decide (i ∈ ns)
  | [] => rfl
  | t :: r => by
    have ih := inV_int i r
    unfold inV at ih ⊢
    rw [List.map_cons, List.any_cons, ih]
    show ((t == i) || decide (i ∈ r)) = decide (i ∈ t :: r)
    rw [Bool.eq_iff_iff]
    simp only [Bool.or_eq_true, beq_iff_eq, decide_eq_true_eq, List.mem_cons]
    constructor
    · rintro (h | h)
      · exact .inl h.symm
      · exact .inr h
    · rintro (h | h)
      · exact .inl h.symm
      · exact .inr h
def sDue81 : SpecD := fun ts Q _ => ∃ (a : Addr) (ns : List Int), ts = [.lst a (ns.map fun i => T.sh (.int i))] ∧ ∀ b, Q (.lst b ((List.range 11).map fun (k : Nat) => T.sh (.bl (decide (k < 2) || decide ((k : Int) ∈ ns))))) ts
theorem ok_l_due {f : Addr} {fd : FuncData} (F : Fun K "_law_due" "_law_due" s_l_due f fd) (B : Blt mg)  : FnOk P w K mg base CX0 1 f fd ["_law_places"] (spD false sDue81) := by
  refine F.ok sc_l_due (lenD (by intro ts Q χ h; repeat (first | (obtain ⟨e, _⟩ := h; subst e; rfl) | (obtain ⟨_, h⟩ := h)))) (fun cdv A outer s H vs Q E hr h => ?_)
  have hu := hu_of hr
  refine bodyD [0] h (pss_one (ps_ret (pe_lc (te := (tOrV (tOp _ (tVar 1) _) (tOp (rIn K false) (tVar 1) (tVar 0)))) (own := [("_law_k", 1)]) (g := gName 1) (tt := tYes) rfl sc_l_due.nd (pi_range1 rfl B.range (pa_cons pe_int pa_nil)) (blkOk_by (own := [("_law_k", 1)]) (N := ["_law_places", "_law_k"]) (sc := defScope s_l_due) (by decide +kernel)) (fun _ _ _ _ _ => by exact (pg_name (i := 1) sc_l_due.nd rfl (by first | exact Or.inl rfl | exact Or.inr rfl))) (fun _ _ _ _ _ => by exact pts_nil) (fun _ _ _ _ _ => by exact (pe_or (pe_cmpR op_lt (pv 1) pe_int (nomark _)) (pe_one (pe_cmpR op_in_seq (pv 1) (pv 0) (by rfl)))))))) 1 1 (by intro ts Q χ h; repeat (first | (obtain ⟨e, _⟩ := h; subst e; rfl) | (obtain ⟨_, h⟩ := h))) rfl ?_
  apply Exists.intro
  constructor
  · fail "ref"
  rintro ts Q1 χ ⟨a, ns, rfl, q⟩
  fail "w"
  refine ⟨_, rfl, ⟨by decide, by decide⟩, fun i ρ acc => i ≤ 11 ∧ acc = ((List.range i).map fun (k : Nat) => T.sh (.bl (decide (k < 2) || decide ((k : Int) ∈ ns)))) ∧ ρ = [.lst a (ns.map fun i => T.sh (.int i)), .no], ⟨by decide, rfl, rfl⟩, fun i ρ acc ⟨hi, ea, _⟩ => ⟨trivial, by rw [ea, List.length_map, List.length_range]; omega⟩, ?_, ?_⟩
  · rintro i y ρ acc hy ⟨hi, rfl, rfl⟩
    have hi2 : i < 11 := by simpa [rngT] using (List.getElem?_eq_some_iff.mp hy).1
    have ey : y = .sh (.int (i : Nat)) := by
      unfold rngT at hy
      obtain ⟨j, hj, rfl⟩ := get_map hy
      obtain ⟨hl, e⟩ := List.getElem?_eq_some_iff.mp hj
      rw [List.getElem_range] at e
      rw [← e]
      simp
    subst ey
    fail "w"
    have fin : ∀ c : Bool, c = (decide (i < 2) || decide ((i : Int) ∈ ns)) → ∃ y', PubT (T.sh (D.bl c)) y' ∧ (i + 1 ≤ 11 ∧ ((List.range i).map fun (k : Nat) => T.sh (.bl (decide (k < 2) || decide ((k : Int) ∈ ns)))) ++ [y'] = ((List.range (i + 1)).map fun (k : Nat) => T.sh (.bl (decide (k < 2) || decide ((k : Int) ∈ ns))))) := fun c ec => by
      refine ⟨_, .inl rfl, by omega, ?_⟩
      rw [List.range_succ, List.map_append, ec]
      rfl
    by_cases c2 : i < 2
    · rw [if_pos (decide_eq_true (by omega))]
      obtain ⟨y', h1, h2, h3⟩ := fin true (by rw [decide_eq_true c2]; rfl)
      exact ⟨y', h1, h2, h3, rfl⟩
    · rw [if_neg (by rw [decide_eq_false (by omega)]; decide)]
      fail "w"
      refine d_in (v := .int i) (ws := ns.map V.int) rfl ⟨rfl, rfl⟩ rfl (svs_I ns) ?_
      rw [inV_int]
      obtain ⟨y', h1, h2, h3⟩ := fin (decide ((i : Int) ∈ ns)) (by rw [decide_eq_false c2]; rfl)
      exact ⟨y', h1, h2, h3, rfl⟩
  rintro ρ acc ⟨_, rfl, rfl⟩ b
  exact q b
theorem xis1_ok {K : PySem.W.Frag} {C : Addr} (h : xisB K C = true) : XIs K C := by
  obtain ⟨h1, h⟩ := Bool.and_eq_true_iff.mp h
  obtain ⟨h2, h⟩ := Bool.and_eq_true_iff.mp h
  obtain ⟨h3, h⟩ := Bool.and_eq_true_iff.mp h
  obtain ⟨h4, h5⟩ := Bool.and_eq_true_iff.mp h
  exact ⟨h1, of_decide_eq_true h2, of_decide_eq_true h3, of_decide_eq_true h4, of_decide_eq_true h5⟩
theorem fam81_x {K : PySem.W.Frag} {CT C1 C2 C3 C4 C5 C6 CR C7 C8 C : Addr} (h : famB K [C1, C2, C3, C4, C5, C6, C7, C8] [.ref CT, .type "ValueError", .ref C1, .ref C2, .ref C3, .ref C4, .ref C5, .ref C6, .ref CR, .ref C7, .ref C8] due81 = true) (hm : C ∈ [C1, C2, C3, C4, C5, C6, C7, C8]) : XIs K C := xis1_ok (List.all_eq_true.mp (Bool.and_eq_true_iff.mp h).1 C hm)
theorem fam81_k {K : PySem.W.Frag} {CT C1 C2 C3 C4 C5 C6 CR C7 C8 : Addr} (h : famB K [C1, C2, C3, C4, C5, C6, C7, C8] [.ref CT, .type "ValueError", .ref C1, .ref C2, .ref C3, .ref C4, .ref C5, .ref C6, .ref CR, .ref C7, .ref C8] due81 = true) (i : Nat) (hi : i < 8) (j : Nat) (hj : j < 11) : PySem.W.kitOne K (.ref ([C1, C2, C3, C4, C5, C6, C7, C8].getD i 0)) ((us81 CT C1 C2 C3 C4 C5 C6 CR C7 C8).getD j .none) = some (due81 i j) := famB_k h i hi j hj
theorem cut81 {ns : List Int} (h : ns.length ≤ 63) : (cutL (ns.map D.int) none (some 63)).map T.sh = ns.map fun i => T.sh (.int i) := by
  have e : cutL (ns.map D.int) none (some 63) = ns.map D.int := by
    rw [show (63 : Int) = ((63 : Nat) : Int) from rfl, cutL_take, List.take_of_length_le (by simpa using h)]
  rw [e, List.map_map]
  rfl
theorem pub81a {a : D} : pubL [T.sh a] = some [a] := by
  unfold pubL pubL T.pub
  rfl
theorem pub81b {a b : D} : pubL [T.sh a, .sh b] = some [a, b] := by
  unfold pubL
  rw [pub81a]
  unfold T.pub
  rfl
theorem pubL_sh81 : ∀ ds : List D, pubL (ds.map T.sh) = some ds
  | [] => by rw [List.map_nil, pubL]
  | d :: ds => by rw [List.map_cons, pubL, pubL_sh81 ds, T.pub]; rfl
theorem pub81L {a : Addr} {ds : List D} : (T.lst a (ds.map T.sh)).pub = some (.lst ds) := by
  unfold T.pub
  rw [pubL_sh81]
  rfl
abbrev told81 (z : Str) (r : Int) (ms : List Int) : D := .lst [.str z, .int r, .str z, .tup (ms.map D.int), .str z, .str z, .int r, .int r]
theorem told81_py {z : Str} {r : Int} {ms : List Int} (hz : IsW z) (r0 : 0 ≤ r) (r1 : r < 10 ^ 30) (hm : ∀ m ∈ ms, 0 ≤ m ∧ m < 20) (hl : ms.length ≤ 8) : ∃ p, (told81 z r ms).py = some p ∧ Sx 2 9000 p := by
  have e1 : (D.tup (ms.map D.int)).py = some (.tuple (ms.map PyData.int)) := by
    show (D.pyL (ms.map D.int)).map PyData.tuple = _
    rw [pyL_map (g := fun i : Int => PyData.int i) (fun _ => rfl)]
    rfl
  have s1 : Sx 1 1000 (.tuple (ms.map PyData.int)) := (Sx.tup (n := 0) (m := 120) fun y hy => by
    obtain ⟨m, h, rfl⟩ := List.mem_map.mp hy
    obtain ⟨m0, m1⟩ := hm m h
    exact Sx.int m0 (Int.lt_trans m1 (by decide +kernel))).up (by decide) (by rw [List.length_map]; omega)
  refine ⟨.list [.str z, .int r, .str z, .tuple (ms.map PyData.int), .str z, .str z, .int r, .int r], ?_, ?_⟩
  · show (D.pyL [.str z, .int r, .str z, .tup (ms.map D.int), .str z, .str z, .int r, .int r]).map PyData.list = _
    show (Option.map PyData.list ((some (PyData.str z)).bind fun p => ((some (PyData.int r)).bind fun p => ((some (PyData.str z)).bind fun p => (((D.tup (ms.map D.int)).py).bind fun p => (D.pyL [.str z, .str z, .int r, .int r]).map (p :: ·)).map (p :: ·)).map (p :: ·)).map (p :: ·))) = _
    rw [e1]
    rfl
  · have sz : Sx 1 1000 (.str z) := (Sx.str hz).up (by decide) (by decide)
    have si : Sx 1 1000 (.int r) := (Sx.int r0 r1).up (by decide) (by decide)
    refine (Sx.lst (n := 1) (m := 1000) fun y hy => ?_).up (by decide) (by simp)
    simp only [List.mem_cons, List.not_mem_nil, or_false] at hy
    rcases hy with rfl | rfl | rfl | rfl | rfl | rfl | rfl | rfl <;> assumption
theorem pubLc81 {t : T} {d : D} {ts : List T} {ds : List D} (h1 : t.pub = some d) (h2 : pubL ts = some ds) : pubL (t :: ts) = some (d :: ds) := by
  unfold pubL
  rw [h1, h2]
  rfl
theorem pubLn81 : pubL [] = some [] := by unfold pubL; rfl
abbrev blD (l : List Bool) : D := .lst (l.map D.bl)
def famL (i : Nat) : List Bool := (List.range 11).map (due81 i)
def dueL (ns : List Int) : List Bool := (List.range 11).map fun (k : Nat) => decide (k < 2) || decide ((k : Int) ∈ ns)
theorem pubF81 {b : Addr} {i : Nat} : (T.lst b ((List.range 11).map fun j => T.sh (.bl (due81 i j)))).pub = some (blD (famL i)) := by
  rw [show ((List.range 11).map fun j => T.sh (.bl (due81 i j))) = ((famL i).map D.bl).map T.sh by unfold famL; rw [List.map_map, List.map_map]; rfl]
  exact pub81L
theorem pubD81 {b : Addr} {ns : List Int} : (T.lst b ((List.range 11).map fun (k : Nat) => T.sh (.bl (decide (k < 2) || decide ((k : Int) ∈ ns))))).pub = some (blD (dueL ns)) := by
  rw [show ((List.range 11).map fun (k : Nat) => T.sh (.bl (decide (k < 2) || decide ((k : Int) ∈ ns)))) = ((dueL ns).map D.bl).map T.sh by unfold dueL; rw [List.map_map, List.map_map]; rfl]
  exact pub81L
theorem pubN81 {a : Addr} {ts : List T} {ds : List D} (h : pubL ts = some ds) : (T.lst a ts).pub = some (.lst ds) := by
  unfold T.pub
  rw [h]
  rfl
theorem bls_py (ls : List (List Bool)) (h : ∀ l ∈ ls, l.length ≤ 11) (hl : ls.length ≤ 8) : ∃ p, (D.lst (ls.map blD)).py = some p ∧ Sx 2 1000 p := by
  have e1 : ∀ l : List Bool, (blD l).py = some (.list (l.map PyData.bool)) := fun l => by
    show (D.pyL (l.map D.bl)).map PyData.list = _
    rw [pyL_map (g := fun b : Bool => PyData.bool b) (fun _ => rfl)]
    rfl
  refine ⟨.list (ls.map fun l => .list (l.map PyData.bool)), ?_, ?_⟩
  · show (D.pyL (ls.map blD)).map PyData.list = _
    rw [pyL_map (g := fun l : List Bool => PyData.list (l.map PyData.bool)) e1]
    rfl
  · refine (Sx.lst (n := 1) (m := 11) fun y hy => ?_).up (by decide) (by rw [List.length_map]; omega)
    obtain ⟨l, hm, rfl⟩ := List.mem_map.mp hy
    have := h l hm
    refine (Sx.lst (n := 0) (m := 0) fun y hy => ?_).up (by decide) (by rw [List.length_map]; omega)
    obtain ⟨b, _, rfl⟩ := List.mem_map.mp hy
    exact Sx.bl b
abbrev fam8 : List (List Bool) := [famL 0, famL 1, famL 2, famL 3, famL 4, famL 5, famL 6, famL 7]
abbrev shL (ds : List D) : List T := ds.map T.sh
abbrev env81 (ns0 : List Int) (pl : T) (z : Str) (r : Int) (u : List T) : List T := .sh (.scr ns0) :: pl :: .sh (.str z) :: .sh (.int r) :: u
open _root_.E.T (sh no)
theorem ok_law {f CT C1 C2 C3 C4 C5 C6 CR C7 C8 : Addr} {fd : FuncData} (F : Fun K "law" "law" s_law f fd) (B : Blt mg) (T : T81 P w K mg base CT C1 C2 C3 C4 C5 C6 CR C7 C8) (YB : famB K [C1, C2, C3, C4, C5, C6, C7, C8] [.ref CT, .type "ValueError", .ref C1, .ref C2, .ref C3, .ref C4, .ref C5, .ref C6, .ref CR, .ref C7, .ref C8] due81 = true) (C_l_draw : Cal P w K mg base CX0 1 "_law_draw" (spD false sDraw)) (C_l_word : Cal P w K mg base CX0 2 "_law_word" (spD false sWord)) (C_l_exact : CalG P w K mg base CX0 2 "_law_exact" (spD false sExactX)) (C_l_family : Cal P w K mg base CX0 1 "_law_family" (spD false (sFam K (us81 CT C1 C2 C3 C4 C5 C6 CR C7 C8)))) (C_l_due : Cal P w K mg base CX0 1 "_law_due" (spD false sDue81)) : FnG P w K mg base CX0 6 f fd ["_law_script"] (spD true sLaw) := by
  refine fnG_of F sc_law (lenD (by intro ts Q χ h; repeat (first | (obtain ⟨e, _⟩ := h; subst e; rfl) | (obtain ⟨_, h⟩ := h)))) (fun cdv A outer s H vs Q E hr hgd h => ?_)
  have hu := hu_of hr
  refine bodyD [] h (pss_cons (ps_set (i := 1) sc_law.nd rfl (.inr rfl) (pe_lst (pa_cons (pe_callTy c_list (by rfl) B.list (by decide +kernel) (pa_cons (pe_slice sl_list (pv 0) po_none (po_some pe_int)) pa_nil)) (pa_cons pe_int (pa_cons pe_int pa_nil)))))
      (pss_cons (ps_set (i := 2) sc_law.nd rfl (.inl rfl) (pe_c C_l_word hr (by first | decide | omega) (by rfl) (pa_cons (pv 1) (pa_cons (pe_lst pa_nil) pa_nil))))
      (pss_cons (ps_set (i := 3) sc_law.nd rfl (.inl rfl) (pe_c C_l_draw hr (by first | decide | omega) (by rfl) (pa_cons (pv 1) (pa_cons (pe_op op_pow pe_int pe_int) pa_nil))))
      (pss_cons (ps_set (i := 4) sc_law.nd rfl (.inl rfl) (pe_callTy c_tuple (by rfl) B.tuple (by decide +kernel) (pa_cons (pe_lc (te := (tCl _ _ (tCons (tVar 1) (tCons _ tNil)))) (own := [("_law_k", 16)]) (g := gName 16) (tt := tYes) rfl sc_law.nd (pi_range1 rfl B.range (pa_cons (pe_c C_l_draw hr (by first | decide | omega) (by rfl) (pa_cons (pv 1) (pa_cons pe_int pa_nil))) pa_nil)) (blkOk_by (own := [("_law_k", 16)]) (N := ["_law_script", "_law_pool", "_law_word_here", "_law_number", "_law_place", "_law_heap", "_law_program", "_law_facts", "_law_argument", "_law_text", "_law_limit", "_law_hollow", "_law_refused", "_law_told", "_law_families", "_law_due_here", "_law_k"]) (sc := defScope s_law) (by decide +kernel)) (fun _ _ _ _ _ => by exact (pg_name (i := 16) sc_law.nd rfl (by first | exact Or.inl rfl | exact Or.inr rfl))) (fun _ _ _ _ _ => by exact pts_nil) (fun _ _ _ _ _ => by exact (pe_c C_l_draw hr (by first | decide | omega) (by rfl) (pa_cons (pv 1) (pa_cons pe_int pa_nil))))) pa_nil)))
      (pss_cons (ps_set (i := 5) sc_law.nd rfl (.inl rfl) (pe_xval (pmk_x T.x_InvalidHeap hr (by first | decide | omega) (by rfl) (pa_cons (pv 2) (pa_cons (pv 3) pa_nil)))))
      (pss_cons (ps_set (i := 6) sc_law.nd rfl (.inl rfl) (pe_xval (pmk_x T.x_InvalidProgram hr (by first | decide | omega) (by rfl) (pa_cons (pv 2) (pa_cons (pv 4) pa_nil)))))
      (pss_cons (ps_set (i := 7) sc_law.nd rfl (.inl rfl) (pe_xval (pmk_x T.x_InvalidFacts hr (by first | decide | omega) (by rfl) (pa_cons (pv 2) pa_nil))))
      (pss_cons (ps_set (i := 8) sc_law.nd rfl (.inl rfl) (pe_xval (pmk_x T.x_InvalidArgument hr (by first | decide | omega) (by rfl) (pa_cons (pv 2) pa_nil))))
      (pss_cons (ps_set (i := 9) sc_law.nd rfl (.inl rfl) (pe_xval (pmk_x T.x_InvalidText hr (by first | decide | omega) (by rfl) (pa_cons (pv 3) pa_nil))))
      (pss_cons (ps_set (i := 10) sc_law.nd rfl (.inl rfl) (pe_xval (pmk_x T.x_LimitExceeded hr (by first | decide | omega) (by rfl) (pa_cons (pv 3) pa_nil))))
      (pss_cons (ps_set (i := 11) sc_law.nd rfl (.inl rfl) (pe_xval (pmk_x T.x_Hollow hr (by first | decide | omega) (by rfl) (pa_cons (pv 2) pa_nil))))
      (pss_cons (ps_set (i := 12) sc_law.nd rfl (.inl rfl) (pe_xval (pmk_x T.x_Refused hr (by first | decide | omega) (by rfl) (pa_cons (pv 2) pa_nil))))
      (pss_cons (ps_set (i := 13) sc_law.nd rfl (.inl rfl) (pe_lst (pa_cons (pe_xvf (pv 5) rfl) (pa_cons (pe_xvf (pv 5) rfl) (pa_cons (pe_xvf (pv 6) rfl) (pa_cons (pe_xvf (pv 6) rfl) (pa_cons (pe_xvf (pv 7) rfl) (pa_cons (pe_xvf (pv 8) rfl) (pa_cons (pe_xvf (pv 9) rfl) (pa_cons (pe_xvf (pv 10) rfl) pa_nil))))))))))
      (pss_cons (ps_if (pt_not (pt_val (pe_cg C_l_exact hr hgd (by decide) pass0 (by rfl) (pa_cons (pv 13) (pa_cons (pe_lst (pa_cons (pv 2) (pa_cons (pv 3) (pa_cons (pv 2) (pa_cons (pv 4) (pa_cons (pv 2) (pa_cons (pv 2) (pa_cons (pv 3) (pa_cons (pv 3) pa_nil))))))))) pa_nil)))))
        (pss_one (ps_ret pe_bl)) pss_nil)
      (pss_cons (ps_if (pt_not (pt_val (pe_cg C_l_exact hr hgd (by decide) pass0 (by rfl) (pa_cons (pe_lst (pa_cons (pe_xvf (pv 11) rfl) (pa_cons (pe_xvf (pv 12) rfl) pa_nil))) (pa_cons (pe_lst (pa_cons (pv 2) (pa_cons (pv 2) pa_nil))) pa_nil)))))
        (pss_one (ps_ret pe_bl)) pss_nil)
      (pss_cons (ps_set (i := 14) sc_law.nd rfl (.inl rfl) (pe_lst (pa_cons (pe_c C_l_family hr (by first | decide | omega) (by rfl) (pa_cons (pv 5) pa_nil)) (pa_cons (pe_c C_l_family hr (by first | decide | omega) (by rfl) (pa_cons (pv 6) pa_nil)) (pa_cons (pe_c C_l_family hr (by first | decide | omega) (by rfl) (pa_cons (pv 7) pa_nil)) (pa_cons (pe_c C_l_family hr (by first | decide | omega) (by rfl) (pa_cons (pv 8) pa_nil)) pa_nil))))))
      (pss_cons (ps_set (i := 14) sc_law.nd rfl (.inl rfl) (pe_op op_catL2 (pv 14) (pe_lst (pa_cons (pe_c C_l_family hr (by first | decide | omega) (by rfl) (pa_cons (pv 9) pa_nil)) (pa_cons (pe_c C_l_family hr (by first | decide | omega) (by rfl) (pa_cons (pv 10) pa_nil)) (pa_cons (pe_c C_l_family hr (by first | decide | omega) (by rfl) (pa_cons (pv 11) pa_nil)) (pa_cons (pe_c C_l_family hr (by first | decide | omega) (by rfl) (pa_cons (pv 12) pa_nil)) pa_nil)))))))
      (pss_cons (ps_set (i := 15) sc_law.nd rfl (.inl rfl) (pe_op op_catL2 (pe_lc (te := (tCl _ _ (tCons (tLst (tCons (tOp _ _ (tVar 16)) tNil)) tNil))) (own := [("_law_k", 16)]) (g := gName 16) (tt := tYes) rfl sc_law.nd (pi_range1 rfl B.range (pa_cons pe_int pa_nil)) (blkOk_by (own := [("_law_k", 16)]) (N := ["_law_script", "_law_pool", "_law_word_here", "_law_number", "_law_place", "_law_heap", "_law_program", "_law_facts", "_law_argument", "_law_text", "_law_limit", "_law_hollow", "_law_refused", "_law_told", "_law_families", "_law_due_here", "_law_k"]) (sc := defScope s_law) (by decide +kernel)) (fun _ _ _ _ _ => by exact (pg_name (i := 16) sc_law.nd rfl (by first | exact Or.inl rfl | exact Or.inr rfl))) (fun _ _ _ _ _ => by exact pts_nil) (fun _ _ _ _ _ => by exact (pe_c C_l_due hr (by first | decide | omega) (by rfl) (pa_cons (pe_lst (pa_cons (pe_op op_add pe_int (pv 16)) pa_nil)) pa_nil)))) (pe_lst (pa_cons (pe_c C_l_due hr (by first | decide | omega) (by rfl) (pa_cons (pe_lst (pa_cons pe_int (pa_cons pe_int pa_nil))) pa_nil)) (pa_cons (pe_c C_l_due hr (by first | decide | omega) (by rfl) (pa_cons (pe_lst (pa_cons pe_int (pa_cons pe_int pa_nil))) pa_nil)) pa_nil)))))
      (pss_one (ps_ret (pe_cg C_l_exact hr hgd (by decide) pass0 (by rfl) (pa_cons (pv 14) (pa_cons (pv 15) pa_nil))))))))))))))))))))))) 1 16 (by intro ts Q χ h; repeat (first | (obtain ⟨e, _⟩ := h; subst e; rfl) | (obtain ⟨_, h⟩ := h))) rfl ?_
  apply Exists.intro
  constructor
  · fail "ref"
  rintro ts Q1 χ ⟨ns0, rfl, hl0, q⟩
  fail "w"
  refine ⟨_, rfl, _, _, rfl, allSh_map _, fun c0 => ?_⟩
  fail "w"
  refine d_list rfl rfl (allSh_map _) fun c => ?_
  rw [cut81 hl0]
  fail "w"
  intro p
  fail "w"
  intro a1
  fail "w"
  refine ⟨p, c, _, 0, 0, _, [], rfl, ⟨by decide, by decide⟩, .inr ⟨a1, rfl⟩, by decide, fun z ns1 n1 m1 hz _ h1 => ?_⟩
  fail "bk"
  fail "w"
  refine ⟨10, 30, rfl, ⟨by decide, by decide, by decide⟩, ?_⟩
  fail "w"
  refine ⟨p, c, ns1, n1, m1, _, rfl, h1, by decide +kernel, by decide +kernel, fun r ns2 n2 m2 r0 r1 h2 => ?_⟩
  fail "bk"
  fail "w"
  refine ⟨p, c, ns2, n2, m2, _, rfl, h2, by decide, by decide, fun k ns3 n3 m3 k0 k8 h3 => ?_⟩
  obtain ⟨kn, rfl⟩ : ∃ kn : Nat, k = (kn : Nat) := ⟨k.toNat, by omega⟩
  fail "bk"
  fail "w"
  refine ⟨_, rfl, ⟨by omega, by omega⟩, fun i ρ acc => ∃ (ns : List Int) (a b : Int) (ms : List Int), acc = shL (ms.map D.int) ∧ ms.length ≤ i ∧ i ≤ 8 ∧ (∀ m ∈ ms, 0 ≤ m ∧ m < 20) ∧ (0 ≤ a ∧ 0 ≤ b) ∧ ρ = env81 ns0 (poolT p c ns a b) z r [.no, .no, .no, .no, .no, .no, .no, .no, .no, .no, .no, .no, .no], ⟨ns3, n3, m3, [], rfl, by decide, by decide, by simp, h3, rfl⟩, fun i ρ acc ⟨_, _, _, ms, ea, hl, hi, _, _, _⟩ => ⟨trivial, by rw [ea]; unfold shL; rw [List.length_map, List.length_map]; omega⟩, ?_, ?_⟩
  · rintro i y ρ acc hy ⟨ns4, n4, m4, ms, rfl, hl, hi, hm, h4, rfl⟩
    have hi2 : i < kn := by simpa [rngT] using (List.getElem?_eq_some_iff.mp hy).1
    have hy2 : ∃ j : Int, y = .sh (.int j) := by
      unfold rngT at hy
      obtain ⟨j, hj, rfl⟩ := get_map hy
      exact ⟨_, rfl⟩
    obtain ⟨jy, rfl⟩ := hy2
    simp only [env81]
    fail "w"
    refine ⟨p, c, ns4, n4, m4, _, rfl, h4, by decide, by decide, fun e ns5 n5 m5 e0 e1 h5 => ?_⟩
    fail "bk"
    refine ⟨_, .inl rfl, ns5, n5, m5, ms ++ [e], by unfold shL; rw [List.map_append, List.map_append]; rfl, by rw [List.length_append]; simp; omega, by omega, fun m hx => ?_, h5, rfl⟩
    rcases List.mem_append.mp hx with hx | hx
    · exact hm m hx
    · rw [List.mem_singleton.mp hx]
      exact ⟨e0, e1⟩
  rintro ρ acc ⟨ns4, n4, m4, ms, rfl, hl, _, hm, h4, rfl⟩ a2
  rw [show (rngT 0 ((kn : Nat) : Int).toNat).length = kn by simp [rngT]] at hl
  simp only [env81]
  fail "w"
  refine d_tuple rfl rfl (allSh_map _) ?_
  (apply d_nameN); exact of_decide_eq_true rfl; fail "nz"
  fail "w"
  refine ⟨_, pub81b, rfl, by simp, ?_⟩
  (apply d_nameN); exact of_decide_eq_true rfl; fail "nz"
  fail "w"
  refine ⟨_, pub81b, rfl, by simp, ?_⟩
  (apply d_nameN); exact of_decide_eq_true rfl; fail "nz"
  fail "w"
  refine ⟨_, pub81a, rfl, by simp, ?_⟩
  (apply d_nameN); exact of_decide_eq_true rfl; fail "nz"
  fail "w"
  refine ⟨_, pub81a, rfl, by simp, ?_⟩
  (apply d_nameN); exact of_decide_eq_true rfl; fail "nz"
  fail "w"
  refine ⟨_, pub81a, rfl, by simp, ?_⟩
  (apply d_nameN); exact of_decide_eq_true rfl; fail "nz"
  fail "w"
  refine ⟨_, pub81a, rfl, by simp, ?_⟩
  (apply d_nameN); exact of_decide_eq_true rfl; fail "nz"
  fail "w"
  refine ⟨_, pub81a, rfl, by simp, ?_⟩
  (apply d_nameN); exact of_decide_eq_true rfl; fail "nz"
  fail "w"
  refine ⟨_, pub81a, rfl, by simp, ?_⟩
  (apply d_nameN); exact of_decide_eq_true rfl; fail "nz"
  fail "w"
  refine ⟨_, _, _, 1, _, rfl, T.x_InvalidHeap.xf, T.x_InvalidHeap.nof "part" (by simp), (by decide +kernel), rfl, ?_⟩
  fail "w"
  refine ⟨_, _, _, 0, _, rfl, T.x_InvalidHeap.xf, T.x_InvalidHeap.nof "where" (by simp), (by decide +kernel), rfl, ?_⟩
  fail "w"
  refine ⟨_, _, _, 1, _, rfl, T.x_InvalidProgram.xf, T.x_InvalidProgram.nof "part" (by simp), (by decide +kernel), rfl, ?_⟩
  fail "w"
  refine ⟨_, _, _, 0, _, rfl, T.x_InvalidProgram.xf, T.x_InvalidProgram.nof "place" (by simp), (by decide +kernel), rfl, ?_⟩
  fail "w"
  refine ⟨_, _, _, 0, _, rfl, T.x_InvalidFacts.xf, T.x_InvalidFacts.nof "part" (by simp), (by decide +kernel), rfl, ?_⟩
  fail "w"
  refine ⟨_, _, _, 0, _, rfl, T.x_InvalidArgument.xf, T.x_InvalidArgument.nof "part" (by simp), (by decide +kernel), rfl, ?_⟩
  fail "w"
  refine ⟨_, _, _, 0, _, rfl, T.x_InvalidText.xf, T.x_InvalidText.nof "line" (by simp), (by decide +kernel), rfl, ?_⟩
  fail "w"
  refine ⟨_, _, _, 0, _, rfl, T.x_LimitExceeded.xf, T.x_LimitExceeded.nof "limit" (by simp), (by decide +kernel), rfl, ?_⟩
  fail "w"
  intro a13
  (apply d_nameN); exact of_decide_eq_true rfl; fail "nz"
  (apply d_p1N 13 (d := told81 z r ms)); exact rfl; exact pub81L (ds := [.str z, .int r, .str z, .tup (ms.map D.int), .str z, .str z, .int r, .int r]); fail "nz"
  fail "e"
  intro a14
  fail "e"
  refine d_cw (.keep (.pub (d := told81 z r ms) (pub81L (ds := [.str z, .int r, .str z, .tup (ms.map D.int), .str z, .str z, .int r, .int r])) (.nil _))) ?_
  obtain ⟨y, y1, y2⟩ := told81_py hz r0 r1 hm (by omega : ms.length ≤ 8)
  obtain ⟨f1, f2, f3, f4⟩ := y2.fin (by decide) (by decide)
  refine ⟨_, _, rfl, y1, f1, f2, f3, f4, ?_⟩
  fail "w"
  refine ⟨_, _, _, 0, _, rfl, T.x_Hollow.xf, T.x_Hollow.nof "name" (by simp), (by decide +kernel), rfl, ?_⟩
  fail "w"
  refine ⟨_, _, _, 0, _, rfl, T.x_Refused.xf, T.x_Refused.nof "name" (by simp), (by decide +kernel), rfl, ?_⟩
  fail "e"
  intro a15
  fail "e"
  intro a16
  fail "e"
  refine d_cw (.pub (d := .lst [.str z, .str z]) (pub81L (ds := [.str z, .str z])) (.pub (d := .lst [.str z, .str z]) (pub81L (ds := [.str z, .str z])) (.nil _))) ?_
  obtain ⟨f1, f2, f3, f4⟩ := (show Sx 1 100 (.list [.str z, .str z]) from (Sx.lst (n := 0) (m := 8) fun y hy => by
    simp only [List.mem_cons, List.not_mem_nil, or_false] at hy
    rcases hy with rfl | rfl <;> exact Sx.str hz).up (by decide) (by simp)).fin (by decide) (by decide)
  refine ⟨_, _, rfl, rfl, f1, f2, f3, f4, ?_⟩
  fail "w"
  refine ⟨_, _, _, due81 0, rfl, T.x_InvalidHeap.xf, fam81_x YB (by simp), fun j hj => fam81_k YB 0 (by decide) j hj, fun b0 => ?_⟩
  fail "w"
  refine ⟨_, _, _, due81 1, rfl, T.x_InvalidProgram.xf, fam81_x YB (by simp), fun j hj => fam81_k YB 1 (by decide) j hj, fun b1 => ?_⟩
  fail "w"
  refine ⟨_, _, _, due81 2, rfl, T.x_InvalidFacts.xf, fam81_x YB (by simp), fun j hj => fam81_k YB 2 (by decide) j hj, fun b2 => ?_⟩
  fail "w"
  refine ⟨_, _, _, due81 3, rfl, T.x_InvalidArgument.xf, fam81_x YB (by simp), fun j hj => fam81_k YB 3 (by decide) j hj, fun b3 => ?_⟩
  fail "w"
  intro a17
  (apply d_nameN); exact of_decide_eq_true rfl; fail "nz"
  (apply d_p1N 14 (d := .lst [blD (famL 0), blD (famL 1), blD (famL 2), blD (famL 3)])); exact rfl; exact pubN81 (pubLc81 pubF81 (pubLc81 pubF81 (pubLc81 pubF81 (pubLc81 pubF81 pubLn81)))); fail "nz"
  fail "w"
  refine ⟨_, _, _, due81 4, rfl, T.x_InvalidText.xf, fam81_x YB (by simp), fun j hj => fam81_k YB 4 (by decide) j hj, fun b4 => ?_⟩
  fail "w"
  refine ⟨_, _, _, due81 5, rfl, T.x_LimitExceeded.xf, fam81_x YB (by simp), fun j hj => fam81_k YB 5 (by decide) j hj, fun b5 => ?_⟩
  fail "w"
  refine ⟨_, _, _, due81 6, rfl, T.x_Hollow.xf, fam81_x YB (by simp), fun j hj => fam81_k YB 6 (by decide) j hj, fun b6 => ?_⟩
  fail "w"
  refine ⟨_, _, _, due81 7, rfl, T.x_Refused.xf, fam81_x YB (by simp), fun j hj => fam81_k YB 7 (by decide) j hj, fun b7 => ?_⟩
  fail "w"
  intro a18
  fail "w"
  refine d_catL2 rfl rfl (pubN81 (pubLc81 pubF81 (pubLc81 pubF81 (pubLc81 pubF81 (pubLc81 pubF81 pubLn81))))) (by simp) fun a19 => ?_
  (apply d_nameN); exact of_decide_eq_true rfl; fail "nz"
  (apply d_p1N 14 (d := .lst (fam8.map blD))); exact rfl; exact pub81L (ds := fam8.map blD); fail "nz"
  fail "w"
  refine ⟨_, rfl, ⟨by decide, by decide⟩, fun i ρ acc => i ≤ 6 ∧ acc = shL ((List.range i).map fun (j : Nat) => blD (dueL [2 + (j : Int)])) ∧ ρ = env81 ns0 (poolT p c ns4 n4 m4) z r [sh (D.tup (List.map D.int ms)), sh (D.xv C1 (["part", "where"] : List Str).reverse [D.str z, D.int r].reverse), sh (D.xv C2 (["part", "place"] : List Str).reverse [D.str z, D.tup (List.map D.int ms)].reverse), sh (D.xv C3 (["part"] : List Str).reverse [D.str z].reverse), sh (D.xv C4 (["part"] : List Str).reverse [D.str z].reverse), sh (D.xv C5 (["line"] : List Str).reverse [D.int r].reverse), sh (D.xv C6 (["limit"] : List Str).reverse [D.int r].reverse), sh (D.xv C7 (["name"] : List Str).reverse [D.str z].reverse), sh (D.xv C8 (["name"] : List Str).reverse [D.str z].reverse), sh (told81 z r ms), sh (D.lst (fam8.map blD)), no, no], ⟨by decide, rfl, rfl⟩, fun i ρ acc ⟨hi, ea, _⟩ => ⟨trivial, by rw [ea]; unfold shL; rw [List.length_map, List.length_map, List.length_range]; omega⟩, ?_, ?_⟩
  · rintro i y ρ acc hy ⟨hi, rfl, rfl⟩
    have hi2 : i < 6 := by simpa [rngT] using (List.getElem?_eq_some_iff.mp hy).1
    have ey : y = sh (D.int (i : Nat)) := by
      unfold rngT at hy
      obtain ⟨j, hj, rfl⟩ := get_map hy
      obtain ⟨hl, e⟩ := List.getElem?_eq_some_iff.mp hj
      rw [List.getElem_range] at e
      rw [← e]
      simp
    subst ey
    simp only [env81]
    fail "w"
    intro a20
    fail "w"
    refine ⟨_, [2 + (i : Int)], rfl, fun b9 => ?_⟩
    fail "bk"
    refine ⟨_, .inr ⟨_, pubD81, rfl⟩, by omega, ?_, rfl⟩
    unfold shL
    rw [List.range_succ, List.map_append, List.map_append]
    rfl
  rintro ρ acc ⟨_, rfl, rfl⟩ a21
  rw [show (rngT 0 (Int.toNat 6)).length = 6 from rfl]
  simp only [env81]
  fail "w"
  intro a22
  fail "w"
  refine ⟨_, [8, 9], rfl, fun b10 => ?_⟩
  fail "bk"
  fail "w"
  intro a23
  fail "w"
  refine ⟨_, [8, 10], rfl, fun b11 => ?_⟩
  fail "bk"
  fail "w"
  intro a24
  refine d_catL2 (ds := (List.range 6).map fun (j : Nat) => blD (dueL [2 + (j : Int)])) rfl rfl (pubN81 (pubLc81 pubD81 (pubLc81 pubD81 pubLn81))) (by simp) fun a25 => ?_
  have ed : ((List.range 6).map fun (j : Nat) => blD (dueL [2 + (j : Int)])) ++ [blD (dueL [8, 9]), blD (dueL [8, 10])] = fam8.map blD := by
    have e1 : ((List.range 6).map fun (j : Nat) => dueL [2 + (j : Int)]) ++ [dueL [8, 9], dueL [8, 10]] = fam8 := by decide +kernel
    rw [← e1, List.map_append, List.map_map]
    rfl
  rw [ed]
  (apply d_nameN); exact of_decide_eq_true rfl; fail "nz"
  (apply d_p1N 15 (d := .lst (fam8.map blD))); exact rfl; exact pub81L (ds := fam8.map blD); fail "nz"
  fail "w"
  obtain ⟨y, y1, y2⟩ := bls_py fam8 (by decide +kernel) (by decide)
  obtain ⟨f1, f2, f3, f4⟩ := y2.fin (by decide) (by decide)
  refine ⟨_, _, rfl, y1, f1, f2, f3, f4, ?_⟩
  fail "w"
  exact q
end
theorem all_mk {l : PySem.W.OpenLaw} {w : World} {K : PySem.W.Frag} {h : Heap} {mg : Str → Option Value} {fa : Addr} (X : K.In h) (Gn : h.Ns mainGlobals mg) (hfa : mg "law" = some (.ref fa))
    {X_InvalidHeap' f_xInvalidHeap : Addr} {nm_xInvalidHeap q_xInvalidHeap : Str} {N_xInvalidHeap : Addr} {bs_xInvalidHeap bm_xInvalidHeap : List Value} {sn_xInvalidHeap : List Str} {sub_xInvalidHeap : List Value} {ab_xInvalidHeap : Bool} {col_xInvalidHeap : Option Bool} {dd_xInvalidHeap : Option Addr} {m0_xInvalidHeap m1_xInvalidHeap m2_xInvalidHeap m3_xInvalidHeap m5_xInvalidHeap : Option Value}
    {od_xInvalidHeap an_xInvalidHeap : Option Addr} {sl_xInvalidHeap : Array (Option Value)} {oc_xInvalidHeap kV_xInvalidHeap dc_xInvalidHeap pm_xInvalidHeap cd_xInvalidHeap ct_xInvalidHeap : Value}
    {X_InvalidProgram' f_xInvalidProgram : Addr} {nm_xInvalidProgram q_xInvalidProgram : Str} {N_xInvalidProgram : Addr} {bs_xInvalidProgram bm_xInvalidProgram : List Value} {sn_xInvalidProgram : List Str} {sub_xInvalidProgram : List Value} {ab_xInvalidProgram : Bool} {col_xInvalidProgram : Option Bool} {dd_xInvalidProgram : Option Addr} {m0_xInvalidProgram m1_xInvalidProgram m2_xInvalidProgram m3_xInvalidProgram m5_xInvalidProgram : Option Value}
    {od_xInvalidProgram an_xInvalidProgram : Option Addr} {sl_xInvalidProgram : Array (Option Value)} {oc_xInvalidProgram kV_xInvalidProgram dc_xInvalidProgram pm_xInvalidProgram cd_xInvalidProgram ct_xInvalidProgram : Value}
    {X_InvalidFacts' f_xInvalidFacts : Addr} {nm_xInvalidFacts q_xInvalidFacts : Str} {N_xInvalidFacts : Addr} {bs_xInvalidFacts bm_xInvalidFacts : List Value} {sn_xInvalidFacts : List Str} {sub_xInvalidFacts : List Value} {ab_xInvalidFacts : Bool} {col_xInvalidFacts : Option Bool} {dd_xInvalidFacts : Option Addr} {m0_xInvalidFacts m1_xInvalidFacts m2_xInvalidFacts m3_xInvalidFacts m5_xInvalidFacts : Option Value}
    {od_xInvalidFacts an_xInvalidFacts : Option Addr} {sl_xInvalidFacts : Array (Option Value)} {oc_xInvalidFacts kV_xInvalidFacts dc_xInvalidFacts pm_xInvalidFacts cd_xInvalidFacts ct_xInvalidFacts : Value}
    {X_InvalidArgument' f_xInvalidArgument : Addr} {nm_xInvalidArgument q_xInvalidArgument : Str} {N_xInvalidArgument : Addr} {bs_xInvalidArgument bm_xInvalidArgument : List Value} {sn_xInvalidArgument : List Str} {sub_xInvalidArgument : List Value} {ab_xInvalidArgument : Bool} {col_xInvalidArgument : Option Bool} {dd_xInvalidArgument : Option Addr} {m0_xInvalidArgument m1_xInvalidArgument m2_xInvalidArgument m3_xInvalidArgument m5_xInvalidArgument : Option Value}
    {od_xInvalidArgument an_xInvalidArgument : Option Addr} {sl_xInvalidArgument : Array (Option Value)} {oc_xInvalidArgument kV_xInvalidArgument dc_xInvalidArgument pm_xInvalidArgument cd_xInvalidArgument ct_xInvalidArgument : Value}
    {X_InvalidText' f_xInvalidText : Addr} {nm_xInvalidText q_xInvalidText : Str} {N_xInvalidText : Addr} {bs_xInvalidText bm_xInvalidText : List Value} {sn_xInvalidText : List Str} {sub_xInvalidText : List Value} {ab_xInvalidText : Bool} {col_xInvalidText : Option Bool} {dd_xInvalidText : Option Addr} {m0_xInvalidText m1_xInvalidText m2_xInvalidText m3_xInvalidText m5_xInvalidText : Option Value}
    {od_xInvalidText an_xInvalidText : Option Addr} {sl_xInvalidText : Array (Option Value)} {oc_xInvalidText kV_xInvalidText dc_xInvalidText pm_xInvalidText cd_xInvalidText ct_xInvalidText : Value}
    {X_LimitExceeded' f_xLimitExceeded : Addr} {nm_xLimitExceeded q_xLimitExceeded : Str} {N_xLimitExceeded : Addr} {bs_xLimitExceeded bm_xLimitExceeded : List Value} {sn_xLimitExceeded : List Str} {sub_xLimitExceeded : List Value} {ab_xLimitExceeded : Bool} {col_xLimitExceeded : Option Bool} {dd_xLimitExceeded : Option Addr} {m0_xLimitExceeded m1_xLimitExceeded m2_xLimitExceeded m3_xLimitExceeded m5_xLimitExceeded : Option Value}
    {od_xLimitExceeded an_xLimitExceeded : Option Addr} {sl_xLimitExceeded : Array (Option Value)} {oc_xLimitExceeded kV_xLimitExceeded dc_xLimitExceeded pm_xLimitExceeded cd_xLimitExceeded ct_xLimitExceeded : Value}
    {X_Hollow' f_xHollow : Addr} {nm_xHollow q_xHollow : Str} {N_xHollow : Addr} {bs_xHollow bm_xHollow : List Value} {sn_xHollow : List Str} {sub_xHollow : List Value} {ab_xHollow : Bool} {col_xHollow : Option Bool} {dd_xHollow : Option Addr} {m0_xHollow m1_xHollow m2_xHollow m3_xHollow m5_xHollow : Option Value}
    {od_xHollow an_xHollow : Option Addr} {sl_xHollow : Array (Option Value)} {oc_xHollow kV_xHollow dc_xHollow pm_xHollow cd_xHollow ct_xHollow : Value}
    {X_Refused' f_xRefused : Addr} {nm_xRefused q_xRefused : Str} {N_xRefused : Addr} {bs_xRefused bm_xRefused : List Value} {sn_xRefused : List Str} {sub_xRefused : List Value} {ab_xRefused : Bool} {col_xRefused : Option Bool} {dd_xRefused : Option Addr} {m0_xRefused m1_xRefused m2_xRefused m3_xRefused m5_xRefused : Option Value}
    {od_xRefused an_xRefused : Option Addr} {sl_xRefused : Array (Option Value)} {oc_xRefused kV_xRefused dc_xRefused pm_xRefused cd_xRefused ct_xRefused : Value}
    {f_l_draw : Addr} {od_l_draw an_l_draw : Option Addr} {sl_l_draw : Array (Option Value)} {oc_l_draw kV_l_draw dc_l_draw pm_l_draw cd_l_draw ct_l_draw : Value}
    {f_l_word : Addr} {od_l_word an_l_word : Option Addr} {sl_l_word : Array (Option Value)} {oc_l_word kV_l_word dc_l_word pm_l_word cd_l_word ct_l_word : Value}
    {f_l_exact : Addr} {od_l_exact an_l_exact : Option Addr} {sl_l_exact : Array (Option Value)} {oc_l_exact kV_l_exact dc_l_exact pm_l_exact cd_l_exact ct_l_exact : Value}
    {f_l_family : Addr} {od_l_family an_l_family : Option Addr} {sl_l_family : Array (Option Value)} {oc_l_family kV_l_family dc_l_family pm_l_family cd_l_family ct_l_family : Value}
    {f_l_due : Addr} {od_l_due an_l_due : Option Addr} {sl_l_due : Array (Option Value)} {oc_l_due kV_l_due dc_l_due pm_l_due cd_l_due ct_l_due : Value}
    {f_law : Addr} {od_law an_law : Option Addr} {sl_law : Array (Option Value)} {oc_law kV_law dc_law pm_law cd_law ct_law : Value}
    {CT' : Addr}
    {CR' : Addr}
    (a_xInvalidHeap : PySem.W.nsIn K mainGlobals "InvalidHeap" = some (some (.ref X_InvalidHeap')))
    (xl_xInvalidHeap : K.lookup X_InvalidHeap' = some (excClassObj nm_xInvalidHeap q_xInvalidHeap X_InvalidHeap' N_xInvalidHeap bs_xInvalidHeap bm_xInvalidHeap true sn_xInvalidHeap sub_xInvalidHeap ab_xInvalidHeap col_xInvalidHeap dd_xInvalidHeap m0_xInvalidHeap m1_xInvalidHeap m2_xInvalidHeap m3_xInvalidHeap m5_xInvalidHeap "ValueError.__new__"))
    (bm_ok_xInvalidHeap : PySem.HandSPX.refsVE bm_xInvalidHeap = true)
    (sa_xInvalidHeap : PySem.W.findIn K (.ref X_InvalidHeap') "__setattr__" = some (some (.builtin "object.__setattr__")))
    (ga_xInvalidHeap : PySem.W.findIn K (.ref X_InvalidHeap') "__getattribute__" = some (some (.builtin "BaseException.__getattribute__")))
    (gg_xInvalidHeap : PySem.W.findIn K (.ref X_InvalidHeap') "__getattr__" = some none)
    (nf_xInvalidHeap_part : PySem.W.findIn K (.ref X_InvalidHeap') "part" = some none)
    (nf_xInvalidHeap_where : PySem.W.findIn K (.ref X_InvalidHeap') "where" = some none)
    (kC_xInvalidHeap : PySem.W.keepIn K (.ref X_InvalidHeap') = true)
    (eC_xInvalidHeap : PySem.W.subIn K (.ref X_InvalidHeap') (.type "BaseException") = some true)
    (tC_xInvalidHeap : PySem.W.typeIn K (.ref X_InvalidHeap') = some (.type "type"))
    (hC_xInvalidHeap : PySem.W.hasDictIn K X_InvalidHeap' = true)
    (iC_xInvalidHeap : PySem.W.isClsIn K X_InvalidHeap' = true)
    (sC_xInvalidHeap : PySem.W.subIn K (.ref X_InvalidHeap') (.ref X_InvalidHeap') = some true)
    (ii_xInvalidHeap : PySem.W.findIn K (.ref X_InvalidHeap') "__init__" = some (some (.ref f_xInvalidHeap)))
    (ti_xInvalidHeap : PySem.W.typeIn K (.ref f_xInvalidHeap) = some (.type "function"))
    (l_xInvalidHeap : K.lookup f_xInvalidHeap = some ⟨oc_xInvalidHeap, od_xInvalidHeap, .func (PySem.W.fnOf "__init__" "InvalidHeap.__init__" (defArgs s_InvalidHeap_init) (defBody s_InvalidHeap_init) (defScope s_InvalidHeap_init) .none kV_xInvalidHeap dc_xInvalidHeap pm_xInvalidHeap an_xInvalidHeap cd_xInvalidHeap ct_xInvalidHeap), sl_xInvalidHeap⟩)
    (c_xInvalidHeap : PySem.W.codeIn K cd_xInvalidHeap "InvalidHeap.__init__" = true)
    (k_xInvalidHeap : PySem.W.keepIn K (.ref f_xInvalidHeap) = true)
    (a_xInvalidProgram : PySem.W.nsIn K mainGlobals "InvalidProgram" = some (some (.ref X_InvalidProgram')))
    (xl_xInvalidProgram : K.lookup X_InvalidProgram' = some (excClassObj nm_xInvalidProgram q_xInvalidProgram X_InvalidProgram' N_xInvalidProgram bs_xInvalidProgram bm_xInvalidProgram true sn_xInvalidProgram sub_xInvalidProgram ab_xInvalidProgram col_xInvalidProgram dd_xInvalidProgram m0_xInvalidProgram m1_xInvalidProgram m2_xInvalidProgram m3_xInvalidProgram m5_xInvalidProgram "ValueError.__new__"))
    (bm_ok_xInvalidProgram : PySem.HandSPX.refsVE bm_xInvalidProgram = true)
    (sa_xInvalidProgram : PySem.W.findIn K (.ref X_InvalidProgram') "__setattr__" = some (some (.builtin "object.__setattr__")))
    (ga_xInvalidProgram : PySem.W.findIn K (.ref X_InvalidProgram') "__getattribute__" = some (some (.builtin "BaseException.__getattribute__")))
    (gg_xInvalidProgram : PySem.W.findIn K (.ref X_InvalidProgram') "__getattr__" = some none)
    (nf_xInvalidProgram_part : PySem.W.findIn K (.ref X_InvalidProgram') "part" = some none)
    (nf_xInvalidProgram_place : PySem.W.findIn K (.ref X_InvalidProgram') "place" = some none)
    (kC_xInvalidProgram : PySem.W.keepIn K (.ref X_InvalidProgram') = true)
    (eC_xInvalidProgram : PySem.W.subIn K (.ref X_InvalidProgram') (.type "BaseException") = some true)
    (tC_xInvalidProgram : PySem.W.typeIn K (.ref X_InvalidProgram') = some (.type "type"))
    (hC_xInvalidProgram : PySem.W.hasDictIn K X_InvalidProgram' = true)
    (iC_xInvalidProgram : PySem.W.isClsIn K X_InvalidProgram' = true)
    (sC_xInvalidProgram : PySem.W.subIn K (.ref X_InvalidProgram') (.ref X_InvalidProgram') = some true)
    (ii_xInvalidProgram : PySem.W.findIn K (.ref X_InvalidProgram') "__init__" = some (some (.ref f_xInvalidProgram)))
    (ti_xInvalidProgram : PySem.W.typeIn K (.ref f_xInvalidProgram) = some (.type "function"))
    (l_xInvalidProgram : K.lookup f_xInvalidProgram = some ⟨oc_xInvalidProgram, od_xInvalidProgram, .func (PySem.W.fnOf "__init__" "InvalidProgram.__init__" (defArgs s_InvalidProgram_init) (defBody s_InvalidProgram_init) (defScope s_InvalidProgram_init) .none kV_xInvalidProgram dc_xInvalidProgram pm_xInvalidProgram an_xInvalidProgram cd_xInvalidProgram ct_xInvalidProgram), sl_xInvalidProgram⟩)
    (c_xInvalidProgram : PySem.W.codeIn K cd_xInvalidProgram "InvalidProgram.__init__" = true)
    (k_xInvalidProgram : PySem.W.keepIn K (.ref f_xInvalidProgram) = true)
    (a_xInvalidFacts : PySem.W.nsIn K mainGlobals "InvalidFacts" = some (some (.ref X_InvalidFacts')))
    (xl_xInvalidFacts : K.lookup X_InvalidFacts' = some (excClassObj nm_xInvalidFacts q_xInvalidFacts X_InvalidFacts' N_xInvalidFacts bs_xInvalidFacts bm_xInvalidFacts true sn_xInvalidFacts sub_xInvalidFacts ab_xInvalidFacts col_xInvalidFacts dd_xInvalidFacts m0_xInvalidFacts m1_xInvalidFacts m2_xInvalidFacts m3_xInvalidFacts m5_xInvalidFacts "ValueError.__new__"))
    (bm_ok_xInvalidFacts : PySem.HandSPX.refsVE bm_xInvalidFacts = true)
    (sa_xInvalidFacts : PySem.W.findIn K (.ref X_InvalidFacts') "__setattr__" = some (some (.builtin "object.__setattr__")))
    (ga_xInvalidFacts : PySem.W.findIn K (.ref X_InvalidFacts') "__getattribute__" = some (some (.builtin "BaseException.__getattribute__")))
    (gg_xInvalidFacts : PySem.W.findIn K (.ref X_InvalidFacts') "__getattr__" = some none)
    (nf_xInvalidFacts_part : PySem.W.findIn K (.ref X_InvalidFacts') "part" = some none)
    (kC_xInvalidFacts : PySem.W.keepIn K (.ref X_InvalidFacts') = true)
    (eC_xInvalidFacts : PySem.W.subIn K (.ref X_InvalidFacts') (.type "BaseException") = some true)
    (tC_xInvalidFacts : PySem.W.typeIn K (.ref X_InvalidFacts') = some (.type "type"))
    (hC_xInvalidFacts : PySem.W.hasDictIn K X_InvalidFacts' = true)
    (iC_xInvalidFacts : PySem.W.isClsIn K X_InvalidFacts' = true)
    (sC_xInvalidFacts : PySem.W.subIn K (.ref X_InvalidFacts') (.ref X_InvalidFacts') = some true)
    (ii_xInvalidFacts : PySem.W.findIn K (.ref X_InvalidFacts') "__init__" = some (some (.ref f_xInvalidFacts)))
    (ti_xInvalidFacts : PySem.W.typeIn K (.ref f_xInvalidFacts) = some (.type "function"))
    (l_xInvalidFacts : K.lookup f_xInvalidFacts = some ⟨oc_xInvalidFacts, od_xInvalidFacts, .func (PySem.W.fnOf "__init__" "InvalidFacts.__init__" (defArgs s_InvalidFacts_init) (defBody s_InvalidFacts_init) (defScope s_InvalidFacts_init) .none kV_xInvalidFacts dc_xInvalidFacts pm_xInvalidFacts an_xInvalidFacts cd_xInvalidFacts ct_xInvalidFacts), sl_xInvalidFacts⟩)
    (c_xInvalidFacts : PySem.W.codeIn K cd_xInvalidFacts "InvalidFacts.__init__" = true)
    (k_xInvalidFacts : PySem.W.keepIn K (.ref f_xInvalidFacts) = true)
    (a_xInvalidArgument : PySem.W.nsIn K mainGlobals "InvalidArgument" = some (some (.ref X_InvalidArgument')))
    (xl_xInvalidArgument : K.lookup X_InvalidArgument' = some (excClassObj nm_xInvalidArgument q_xInvalidArgument X_InvalidArgument' N_xInvalidArgument bs_xInvalidArgument bm_xInvalidArgument true sn_xInvalidArgument sub_xInvalidArgument ab_xInvalidArgument col_xInvalidArgument dd_xInvalidArgument m0_xInvalidArgument m1_xInvalidArgument m2_xInvalidArgument m3_xInvalidArgument m5_xInvalidArgument "ValueError.__new__"))
    (bm_ok_xInvalidArgument : PySem.HandSPX.refsVE bm_xInvalidArgument = true)
    (sa_xInvalidArgument : PySem.W.findIn K (.ref X_InvalidArgument') "__setattr__" = some (some (.builtin "object.__setattr__")))
    (ga_xInvalidArgument : PySem.W.findIn K (.ref X_InvalidArgument') "__getattribute__" = some (some (.builtin "BaseException.__getattribute__")))
    (gg_xInvalidArgument : PySem.W.findIn K (.ref X_InvalidArgument') "__getattr__" = some none)
    (nf_xInvalidArgument_part : PySem.W.findIn K (.ref X_InvalidArgument') "part" = some none)
    (kC_xInvalidArgument : PySem.W.keepIn K (.ref X_InvalidArgument') = true)
    (eC_xInvalidArgument : PySem.W.subIn K (.ref X_InvalidArgument') (.type "BaseException") = some true)
    (tC_xInvalidArgument : PySem.W.typeIn K (.ref X_InvalidArgument') = some (.type "type"))
    (hC_xInvalidArgument : PySem.W.hasDictIn K X_InvalidArgument' = true)
    (iC_xInvalidArgument : PySem.W.isClsIn K X_InvalidArgument' = true)
    (sC_xInvalidArgument : PySem.W.subIn K (.ref X_InvalidArgument') (.ref X_InvalidArgument') = some true)
    (ii_xInvalidArgument : PySem.W.findIn K (.ref X_InvalidArgument') "__init__" = some (some (.ref f_xInvalidArgument)))
    (ti_xInvalidArgument : PySem.W.typeIn K (.ref f_xInvalidArgument) = some (.type "function"))
    (l_xInvalidArgument : K.lookup f_xInvalidArgument = some ⟨oc_xInvalidArgument, od_xInvalidArgument, .func (PySem.W.fnOf "__init__" "InvalidArgument.__init__" (defArgs s_InvalidArgument_init) (defBody s_InvalidArgument_init) (defScope s_InvalidArgument_init) .none kV_xInvalidArgument dc_xInvalidArgument pm_xInvalidArgument an_xInvalidArgument cd_xInvalidArgument ct_xInvalidArgument), sl_xInvalidArgument⟩)
    (c_xInvalidArgument : PySem.W.codeIn K cd_xInvalidArgument "InvalidArgument.__init__" = true)
    (k_xInvalidArgument : PySem.W.keepIn K (.ref f_xInvalidArgument) = true)
    (a_xInvalidText : PySem.W.nsIn K mainGlobals "InvalidText" = some (some (.ref X_InvalidText')))
    (xl_xInvalidText : K.lookup X_InvalidText' = some (excClassObj nm_xInvalidText q_xInvalidText X_InvalidText' N_xInvalidText bs_xInvalidText bm_xInvalidText true sn_xInvalidText sub_xInvalidText ab_xInvalidText col_xInvalidText dd_xInvalidText m0_xInvalidText m1_xInvalidText m2_xInvalidText m3_xInvalidText m5_xInvalidText "ValueError.__new__"))
    (bm_ok_xInvalidText : PySem.HandSPX.refsVE bm_xInvalidText = true)
    (sa_xInvalidText : PySem.W.findIn K (.ref X_InvalidText') "__setattr__" = some (some (.builtin "object.__setattr__")))
    (ga_xInvalidText : PySem.W.findIn K (.ref X_InvalidText') "__getattribute__" = some (some (.builtin "BaseException.__getattribute__")))
    (gg_xInvalidText : PySem.W.findIn K (.ref X_InvalidText') "__getattr__" = some none)
    (nf_xInvalidText_line : PySem.W.findIn K (.ref X_InvalidText') "line" = some none)
    (kC_xInvalidText : PySem.W.keepIn K (.ref X_InvalidText') = true)
    (eC_xInvalidText : PySem.W.subIn K (.ref X_InvalidText') (.type "BaseException") = some true)
    (tC_xInvalidText : PySem.W.typeIn K (.ref X_InvalidText') = some (.type "type"))
    (hC_xInvalidText : PySem.W.hasDictIn K X_InvalidText' = true)
    (iC_xInvalidText : PySem.W.isClsIn K X_InvalidText' = true)
    (sC_xInvalidText : PySem.W.subIn K (.ref X_InvalidText') (.ref X_InvalidText') = some true)
    (ii_xInvalidText : PySem.W.findIn K (.ref X_InvalidText') "__init__" = some (some (.ref f_xInvalidText)))
    (ti_xInvalidText : PySem.W.typeIn K (.ref f_xInvalidText) = some (.type "function"))
    (l_xInvalidText : K.lookup f_xInvalidText = some ⟨oc_xInvalidText, od_xInvalidText, .func (PySem.W.fnOf "__init__" "InvalidText.__init__" (defArgs s_InvalidText_init) (defBody s_InvalidText_init) (defScope s_InvalidText_init) .none kV_xInvalidText dc_xInvalidText pm_xInvalidText an_xInvalidText cd_xInvalidText ct_xInvalidText), sl_xInvalidText⟩)
    (c_xInvalidText : PySem.W.codeIn K cd_xInvalidText "InvalidText.__init__" = true)
    (k_xInvalidText : PySem.W.keepIn K (.ref f_xInvalidText) = true)
    (a_xLimitExceeded : PySem.W.nsIn K mainGlobals "LimitExceeded" = some (some (.ref X_LimitExceeded')))
    (xl_xLimitExceeded : K.lookup X_LimitExceeded' = some (excClassObj nm_xLimitExceeded q_xLimitExceeded X_LimitExceeded' N_xLimitExceeded bs_xLimitExceeded bm_xLimitExceeded true sn_xLimitExceeded sub_xLimitExceeded ab_xLimitExceeded col_xLimitExceeded dd_xLimitExceeded m0_xLimitExceeded m1_xLimitExceeded m2_xLimitExceeded m3_xLimitExceeded m5_xLimitExceeded "ValueError.__new__"))
    (bm_ok_xLimitExceeded : PySem.HandSPX.refsVE bm_xLimitExceeded = true)
    (sa_xLimitExceeded : PySem.W.findIn K (.ref X_LimitExceeded') "__setattr__" = some (some (.builtin "object.__setattr__")))
    (ga_xLimitExceeded : PySem.W.findIn K (.ref X_LimitExceeded') "__getattribute__" = some (some (.builtin "BaseException.__getattribute__")))
    (gg_xLimitExceeded : PySem.W.findIn K (.ref X_LimitExceeded') "__getattr__" = some none)
    (nf_xLimitExceeded_limit : PySem.W.findIn K (.ref X_LimitExceeded') "limit" = some none)
    (kC_xLimitExceeded : PySem.W.keepIn K (.ref X_LimitExceeded') = true)
    (eC_xLimitExceeded : PySem.W.subIn K (.ref X_LimitExceeded') (.type "BaseException") = some true)
    (tC_xLimitExceeded : PySem.W.typeIn K (.ref X_LimitExceeded') = some (.type "type"))
    (hC_xLimitExceeded : PySem.W.hasDictIn K X_LimitExceeded' = true)
    (iC_xLimitExceeded : PySem.W.isClsIn K X_LimitExceeded' = true)
    (sC_xLimitExceeded : PySem.W.subIn K (.ref X_LimitExceeded') (.ref X_LimitExceeded') = some true)
    (ii_xLimitExceeded : PySem.W.findIn K (.ref X_LimitExceeded') "__init__" = some (some (.ref f_xLimitExceeded)))
    (ti_xLimitExceeded : PySem.W.typeIn K (.ref f_xLimitExceeded) = some (.type "function"))
    (l_xLimitExceeded : K.lookup f_xLimitExceeded = some ⟨oc_xLimitExceeded, od_xLimitExceeded, .func (PySem.W.fnOf "__init__" "LimitExceeded.__init__" (defArgs s_LimitExceeded_init) (defBody s_LimitExceeded_init) (defScope s_LimitExceeded_init) .none kV_xLimitExceeded dc_xLimitExceeded pm_xLimitExceeded an_xLimitExceeded cd_xLimitExceeded ct_xLimitExceeded), sl_xLimitExceeded⟩)
    (c_xLimitExceeded : PySem.W.codeIn K cd_xLimitExceeded "LimitExceeded.__init__" = true)
    (k_xLimitExceeded : PySem.W.keepIn K (.ref f_xLimitExceeded) = true)
    (a_xHollow : PySem.W.nsIn K mainGlobals "Hollow" = some (some (.ref X_Hollow')))
    (xl_xHollow : K.lookup X_Hollow' = some (excClassObj nm_xHollow q_xHollow X_Hollow' N_xHollow bs_xHollow bm_xHollow true sn_xHollow sub_xHollow ab_xHollow col_xHollow dd_xHollow m0_xHollow m1_xHollow m2_xHollow m3_xHollow m5_xHollow "ValueError.__new__"))
    (bm_ok_xHollow : PySem.HandSPX.refsVE bm_xHollow = true)
    (sa_xHollow : PySem.W.findIn K (.ref X_Hollow') "__setattr__" = some (some (.builtin "object.__setattr__")))
    (ga_xHollow : PySem.W.findIn K (.ref X_Hollow') "__getattribute__" = some (some (.builtin "BaseException.__getattribute__")))
    (gg_xHollow : PySem.W.findIn K (.ref X_Hollow') "__getattr__" = some none)
    (nf_xHollow_name : PySem.W.findIn K (.ref X_Hollow') "name" = some none)
    (kC_xHollow : PySem.W.keepIn K (.ref X_Hollow') = true)
    (eC_xHollow : PySem.W.subIn K (.ref X_Hollow') (.type "BaseException") = some true)
    (tC_xHollow : PySem.W.typeIn K (.ref X_Hollow') = some (.type "type"))
    (hC_xHollow : PySem.W.hasDictIn K X_Hollow' = true)
    (iC_xHollow : PySem.W.isClsIn K X_Hollow' = true)
    (sC_xHollow : PySem.W.subIn K (.ref X_Hollow') (.ref X_Hollow') = some true)
    (ii_xHollow : PySem.W.findIn K (.ref X_Hollow') "__init__" = some (some (.ref f_xHollow)))
    (ti_xHollow : PySem.W.typeIn K (.ref f_xHollow) = some (.type "function"))
    (l_xHollow : K.lookup f_xHollow = some ⟨oc_xHollow, od_xHollow, .func (PySem.W.fnOf "__init__" "RunError.__init__" (defArgs s_RunError_init) (defBody s_RunError_init) (defScope s_RunError_init) .none kV_xHollow dc_xHollow pm_xHollow an_xHollow cd_xHollow ct_xHollow), sl_xHollow⟩)
    (c_xHollow : PySem.W.codeIn K cd_xHollow "RunError.__init__" = true)
    (k_xHollow : PySem.W.keepIn K (.ref f_xHollow) = true)
    (a_xRefused : PySem.W.nsIn K mainGlobals "Refused" = some (some (.ref X_Refused')))
    (xl_xRefused : K.lookup X_Refused' = some (excClassObj nm_xRefused q_xRefused X_Refused' N_xRefused bs_xRefused bm_xRefused true sn_xRefused sub_xRefused ab_xRefused col_xRefused dd_xRefused m0_xRefused m1_xRefused m2_xRefused m3_xRefused m5_xRefused "ValueError.__new__"))
    (bm_ok_xRefused : PySem.HandSPX.refsVE bm_xRefused = true)
    (sa_xRefused : PySem.W.findIn K (.ref X_Refused') "__setattr__" = some (some (.builtin "object.__setattr__")))
    (ga_xRefused : PySem.W.findIn K (.ref X_Refused') "__getattribute__" = some (some (.builtin "BaseException.__getattribute__")))
    (gg_xRefused : PySem.W.findIn K (.ref X_Refused') "__getattr__" = some none)
    (nf_xRefused_name : PySem.W.findIn K (.ref X_Refused') "name" = some none)
    (kC_xRefused : PySem.W.keepIn K (.ref X_Refused') = true)
    (eC_xRefused : PySem.W.subIn K (.ref X_Refused') (.type "BaseException") = some true)
    (tC_xRefused : PySem.W.typeIn K (.ref X_Refused') = some (.type "type"))
    (hC_xRefused : PySem.W.hasDictIn K X_Refused' = true)
    (iC_xRefused : PySem.W.isClsIn K X_Refused' = true)
    (sC_xRefused : PySem.W.subIn K (.ref X_Refused') (.ref X_Refused') = some true)
    (ii_xRefused : PySem.W.findIn K (.ref X_Refused') "__init__" = some (some (.ref f_xRefused)))
    (ti_xRefused : PySem.W.typeIn K (.ref f_xRefused) = some (.type "function"))
    (l_xRefused : K.lookup f_xRefused = some ⟨oc_xRefused, od_xRefused, .func (PySem.W.fnOf "__init__" "RunError.__init__" (defArgs s_RunError_init) (defBody s_RunError_init) (defScope s_RunError_init) .none kV_xRefused dc_xRefused pm_xRefused an_xRefused cd_xRefused ct_xRefused), sl_xRefused⟩)
    (c_xRefused : PySem.W.codeIn K cd_xRefused "RunError.__init__" = true)
    (k_xRefused : PySem.W.keepIn K (.ref f_xRefused) = true)
    (a_l_draw : PySem.W.nsIn K mainGlobals "_law_draw" = some (some (.ref f_l_draw)))
    (l_l_draw : K.lookup f_l_draw = some ⟨oc_l_draw, od_l_draw, .func (PySem.W.fnOf "_law_draw" "_law_draw" (defArgs s_l_draw) (defBody s_l_draw) (defScope s_l_draw) .none kV_l_draw dc_l_draw pm_l_draw an_l_draw cd_l_draw ct_l_draw), sl_l_draw⟩)
    (c_l_draw : PySem.W.codeIn K cd_l_draw "_law_draw" = true)
    (k_l_draw : PySem.W.keepIn K (.ref f_l_draw) = true)
    (a_l_word : PySem.W.nsIn K mainGlobals "_law_word" = some (some (.ref f_l_word)))
    (l_l_word : K.lookup f_l_word = some ⟨oc_l_word, od_l_word, .func (PySem.W.fnOf "_law_word" "_law_word" (defArgs s_l_word) (defBody s_l_word) (defScope s_l_word) .none kV_l_word dc_l_word pm_l_word an_l_word cd_l_word ct_l_word), sl_l_word⟩)
    (c_l_word : PySem.W.codeIn K cd_l_word "_law_word" = true)
    (k_l_word : PySem.W.keepIn K (.ref f_l_word) = true)
    (a_l_exact : PySem.W.nsIn K mainGlobals "_law_exact" = some (some (.ref f_l_exact)))
    (l_l_exact : K.lookup f_l_exact = some ⟨oc_l_exact, od_l_exact, .func (PySem.W.fnOf "_law_exact" "_law_exact" (defArgs s_l_exact) (defBody s_l_exact) (defScope s_l_exact) .none kV_l_exact dc_l_exact pm_l_exact an_l_exact cd_l_exact ct_l_exact), sl_l_exact⟩)
    (c_l_exact : PySem.W.codeIn K cd_l_exact "_law_exact" = true)
    (k_l_exact : PySem.W.keepIn K (.ref f_l_exact) = true)
    (a_l_family : PySem.W.nsIn K mainGlobals "_law_family" = some (some (.ref f_l_family)))
    (l_l_family : K.lookup f_l_family = some ⟨oc_l_family, od_l_family, .func (PySem.W.fnOf "_law_family" "_law_family" (defArgs s_l_family) (defBody s_l_family) (defScope s_l_family) .none kV_l_family dc_l_family pm_l_family an_l_family cd_l_family ct_l_family), sl_l_family⟩)
    (c_l_family : PySem.W.codeIn K cd_l_family "_law_family" = true)
    (k_l_family : PySem.W.keepIn K (.ref f_l_family) = true)
    (a_l_due : PySem.W.nsIn K mainGlobals "_law_due" = some (some (.ref f_l_due)))
    (l_l_due : K.lookup f_l_due = some ⟨oc_l_due, od_l_due, .func (PySem.W.fnOf "_law_due" "_law_due" (defArgs s_l_due) (defBody s_l_due) (defScope s_l_due) .none kV_l_due dc_l_due pm_l_due an_l_due cd_l_due ct_l_due), sl_l_due⟩)
    (c_l_due : PySem.W.codeIn K cd_l_due "_law_due" = true)
    (k_l_due : PySem.W.keepIn K (.ref f_l_due) = true)
    (a_law : PySem.W.nsIn K mainGlobals "law" = some (some (.ref f_law)))
    (l_law : K.lookup f_law = some ⟨oc_law, od_law, .func (PySem.W.fnOf "law" "law" (defArgs s_law) (defBody s_law) (defScope s_law) .none kV_law dc_law pm_law an_law cd_law ct_law), sl_law⟩)
    (c_law : PySem.W.codeIn K cd_law "law" = true)
    (k_law : PySem.W.keepIn K (.ref f_law) = true)
    (a_CT : PySem.W.nsIn K mainGlobals "ThawError" = some (some (.ref CT')))
    (a_CR : PySem.W.nsIn K mainGlobals "RunError" = some (some (.ref CR')))
    (z_VE : PySem.W.nsIn K mainGlobals "ValueError" = some none)
    (yb : famB K [X_InvalidHeap', X_InvalidProgram', X_InvalidFacts', X_InvalidArgument', X_InvalidText', X_LimitExceeded', X_Hollow', X_Refused'] [.ref CT', .type "ValueError", .ref X_InvalidHeap', .ref X_InvalidProgram', .ref X_InvalidFacts', .ref X_InvalidArgument', .ref X_InvalidText', .ref X_LimitExceeded', .ref CR', .ref X_Hollow', .ref X_Refused'] due81 = true)
    (z_len : PySem.W.nsIn K mainGlobals "len" = some none)
    (z_list : PySem.W.nsIn K mainGlobals "list" = some none)
    (z_tuple : PySem.W.nsIn K mainGlobals "tuple" = some none)
    (z_dict : PySem.W.nsIn K mainGlobals "dict" = some none)
    (z_int : PySem.W.nsIn K mainGlobals "int" = some none)
    (z_str : PySem.W.nsIn K mainGlobals "str" = some none)
    (z_bool : PySem.W.nsIn K mainGlobals "bool" = some none)
    (z_range : PySem.W.nsIn K mainGlobals "range" = some none)
    (z_isinstance : PySem.W.nsIn K mainGlobals "isinstance" = some none)
    (z_sorted : PySem.W.nsIn K mainGlobals "sorted" = some none)
    (z_enumerate : PySem.W.nsIn K mainGlobals "enumerate" = some none)
    (z_zip : PySem.W.nsIn K mainGlobals "zip" = some none)
    (z_min : PySem.W.nsIn K mainGlobals "min" = some none)
    (z_repr : PySem.W.nsIn K mainGlobals "repr" = some none) :
    ∃ fd : FuncData, (∀ (s : Shared) (v : Value), BindsTo s fd ⟨[v], []⟩ [("_law_script", v)]) ∧ ∀ base : Heap, K.In base → base.Ns mainGlobals mg → FnG l.prog w K mg base CX0 6 fa fd ["_law_script"] (spD true sLaw) := by
  have e := hfa.symm.trans (PySem.W.mg_of X Gn a_law)
  cases e
  have B : Blt mg := { len := PySem.W.mg_none_of X Gn z_len, list := PySem.W.mg_none_of X Gn z_list, tuple := PySem.W.mg_none_of X Gn z_tuple, dict := PySem.W.mg_none_of X Gn z_dict, int := PySem.W.mg_none_of X Gn z_int, str := PySem.W.mg_none_of X Gn z_str, bool := PySem.W.mg_none_of X Gn z_bool, range := PySem.W.mg_none_of X Gn z_range, isinstance := PySem.W.mg_none_of X Gn z_isinstance, sorted := PySem.W.mg_none_of X Gn z_sorted, enumerate := PySem.W.mg_none_of X Gn z_enumerate, zip := PySem.W.mg_none_of X Gn z_zip, min := PySem.W.mg_none_of X Gn z_min }
  have F_l_draw := fun_mk (st := s_l_draw) l_l_draw c_l_draw k_l_draw
  have b_l_draw := F_l_draw.binds (ps := ["_law_pool", "_law_limit"]) fun _ _ _ _ _ _ us hl => match us, hl with | [_, _], _ => rfl
  have F_l_word := fun_mk (st := s_l_word) l_l_word c_l_word k_l_word
  have b_l_word := F_l_word.binds (ps := ["_law_pool", "_law_taken"]) fun _ _ _ _ _ _ us hl => match us, hl with | [_, _], _ => rfl
  have F_l_exact := fun_mk (st := s_l_exact) l_l_exact c_l_exact k_l_exact
  have b_l_exact := F_l_exact.binds (ps := ["_law_actual", "_law_due_here"]) fun _ _ _ _ _ _ us hl => match us, hl with | [_, _], _ => rfl
  have F_l_family := fun_mk (st := s_l_family) l_l_family c_l_family k_l_family
  have b_l_family := F_l_family.binds (ps := ["_law_e"]) fun _ _ _ _ _ _ us hl => match us, hl with | [_], _ => rfl
  have F_l_due := fun_mk (st := s_l_due) l_l_due c_l_due k_l_due
  have b_l_due := F_l_due.binds (ps := ["_law_places"]) fun _ _ _ _ _ _ us hl => match us, hl with | [_], _ => rfl
  have F_law := fun_mk (st := s_law) l_law c_law k_law
  have b_law := F_law.binds (ps := ["_law_script"]) fun _ _ _ _ _ _ us hl => match us, hl with | [_], _ => rfl
  have F_xInvalidHeap := fun_mk (st := s_InvalidHeap_init) l_xInvalidHeap c_xInvalidHeap k_xInvalidHeap
  have b_xInvalidHeap := F_xInvalidHeap.binds (ps := ["self", "part", "where"]) fun _ _ _ _ _ _ us hl => match us, hl with | [_, _, _], _ => rfl
  have oex_xInvalidHeap : OexC K X_InvalidHeap' := ⟨⟨_, _, _, _, _, _, _, _, _, _, _, _, _, _, _, xl_xInvalidHeap, bm_ok_xInvalidHeap⟩, sa_xInvalidHeap, eC_xInvalidHeap, tC_xInvalidHeap, kC_xInvalidHeap⟩
  have te_xInvalidHeap : PySem.W.exmOne K (.ref X_InvalidHeap') (.ref X_InvalidHeap') = some true := exm_own eC_xInvalidHeap iC_xInvalidHeap tC_xInvalidHeap sC_xInvalidHeap
  have F_xInvalidProgram := fun_mk (st := s_InvalidProgram_init) l_xInvalidProgram c_xInvalidProgram k_xInvalidProgram
  have b_xInvalidProgram := F_xInvalidProgram.binds (ps := ["self", "part", "place"]) fun _ _ _ _ _ _ us hl => match us, hl with | [_, _, _], _ => rfl
  have oex_xInvalidProgram : OexC K X_InvalidProgram' := ⟨⟨_, _, _, _, _, _, _, _, _, _, _, _, _, _, _, xl_xInvalidProgram, bm_ok_xInvalidProgram⟩, sa_xInvalidProgram, eC_xInvalidProgram, tC_xInvalidProgram, kC_xInvalidProgram⟩
  have te_xInvalidProgram : PySem.W.exmOne K (.ref X_InvalidProgram') (.ref X_InvalidProgram') = some true := exm_own eC_xInvalidProgram iC_xInvalidProgram tC_xInvalidProgram sC_xInvalidProgram
  have F_xInvalidFacts := fun_mk (st := s_InvalidFacts_init) l_xInvalidFacts c_xInvalidFacts k_xInvalidFacts
  have b_xInvalidFacts := F_xInvalidFacts.binds (ps := ["self", "part"]) fun _ _ _ _ _ _ us hl => match us, hl with | [_, _], _ => rfl
  have oex_xInvalidFacts : OexC K X_InvalidFacts' := ⟨⟨_, _, _, _, _, _, _, _, _, _, _, _, _, _, _, xl_xInvalidFacts, bm_ok_xInvalidFacts⟩, sa_xInvalidFacts, eC_xInvalidFacts, tC_xInvalidFacts, kC_xInvalidFacts⟩
  have te_xInvalidFacts : PySem.W.exmOne K (.ref X_InvalidFacts') (.ref X_InvalidFacts') = some true := exm_own eC_xInvalidFacts iC_xInvalidFacts tC_xInvalidFacts sC_xInvalidFacts
  have F_xInvalidArgument := fun_mk (st := s_InvalidArgument_init) l_xInvalidArgument c_xInvalidArgument k_xInvalidArgument
  have b_xInvalidArgument := F_xInvalidArgument.binds (ps := ["self", "part"]) fun _ _ _ _ _ _ us hl => match us, hl with | [_, _], _ => rfl
  have oex_xInvalidArgument : OexC K X_InvalidArgument' := ⟨⟨_, _, _, _, _, _, _, _, _, _, _, _, _, _, _, xl_xInvalidArgument, bm_ok_xInvalidArgument⟩, sa_xInvalidArgument, eC_xInvalidArgument, tC_xInvalidArgument, kC_xInvalidArgument⟩
  have te_xInvalidArgument : PySem.W.exmOne K (.ref X_InvalidArgument') (.ref X_InvalidArgument') = some true := exm_own eC_xInvalidArgument iC_xInvalidArgument tC_xInvalidArgument sC_xInvalidArgument
  have F_xInvalidText := fun_mk (st := s_InvalidText_init) l_xInvalidText c_xInvalidText k_xInvalidText
  have b_xInvalidText := F_xInvalidText.binds (ps := ["self", "line"]) fun _ _ _ _ _ _ us hl => match us, hl with | [_, _], _ => rfl
  have oex_xInvalidText : OexC K X_InvalidText' := ⟨⟨_, _, _, _, _, _, _, _, _, _, _, _, _, _, _, xl_xInvalidText, bm_ok_xInvalidText⟩, sa_xInvalidText, eC_xInvalidText, tC_xInvalidText, kC_xInvalidText⟩
  have te_xInvalidText : PySem.W.exmOne K (.ref X_InvalidText') (.ref X_InvalidText') = some true := exm_own eC_xInvalidText iC_xInvalidText tC_xInvalidText sC_xInvalidText
  have F_xLimitExceeded := fun_mk (st := s_LimitExceeded_init) l_xLimitExceeded c_xLimitExceeded k_xLimitExceeded
  have b_xLimitExceeded := F_xLimitExceeded.binds (ps := ["self", "limit"]) fun _ _ _ _ _ _ us hl => match us, hl with | [_, _], _ => rfl
  have oex_xLimitExceeded : OexC K X_LimitExceeded' := ⟨⟨_, _, _, _, _, _, _, _, _, _, _, _, _, _, _, xl_xLimitExceeded, bm_ok_xLimitExceeded⟩, sa_xLimitExceeded, eC_xLimitExceeded, tC_xLimitExceeded, kC_xLimitExceeded⟩
  have te_xLimitExceeded : PySem.W.exmOne K (.ref X_LimitExceeded') (.ref X_LimitExceeded') = some true := exm_own eC_xLimitExceeded iC_xLimitExceeded tC_xLimitExceeded sC_xLimitExceeded
  have F_xHollow := fun_mk (st := s_RunError_init) l_xHollow c_xHollow k_xHollow
  have b_xHollow := F_xHollow.binds (ps := ["self", "name"]) fun _ _ _ _ _ _ us hl => match us, hl with | [_, _], _ => rfl
  have oex_xHollow : OexC K X_Hollow' := ⟨⟨_, _, _, _, _, _, _, _, _, _, _, _, _, _, _, xl_xHollow, bm_ok_xHollow⟩, sa_xHollow, eC_xHollow, tC_xHollow, kC_xHollow⟩
  have te_xHollow : PySem.W.exmOne K (.ref X_Hollow') (.ref X_Hollow') = some true := exm_own eC_xHollow iC_xHollow tC_xHollow sC_xHollow
  have F_xRefused := fun_mk (st := s_RunError_init) l_xRefused c_xRefused k_xRefused
  have b_xRefused := F_xRefused.binds (ps := ["self", "name"]) fun _ _ _ _ _ _ us hl => match us, hl with | [_, _], _ => rfl
  have oex_xRefused : OexC K X_Refused' := ⟨⟨_, _, _, _, _, _, _, _, _, _, _, _, _, _, _, xl_xRefused, bm_ok_xRefused⟩, sa_xRefused, eC_xRefused, tC_xRefused, kC_xRefused⟩
  have te_xRefused : PySem.W.exmOne K (.ref X_Refused') (.ref X_Refused') = some true := exm_own eC_xRefused iC_xRefused tC_xRefused sC_xRefused
  refine ⟨PySem.W.fnOf "law" "law" (defArgs s_law) (defBody s_law) (defScope s_law) .none kV_law dc_law pm_law an_law cd_law ct_law, fun s v => .of_eq rfl, fun base _ _ => ?_⟩
  have nof_xInvalidHeap : ∀ f ∈ (["part", "where"] : List Str), PySem.W.findIn K (.ref X_InvalidHeap') f = some none := fun f hf => by
    rcases List.mem_cons.mp hf with e | e
    · rw [e]; exact nf_xInvalidHeap_part
    · rw [List.mem_singleton.mp e]; exact nf_xInvalidHeap_where
  have XC_InvalidHeap : XCls l.prog w K mg base "InvalidHeap" X_InvalidHeap' ["part", "where"] := { oex := oex_xInvalidHeap, mgx := PySem.W.mg_of X Gn a_xInvalidHeap, xf := ⟨ga_xInvalidHeap, gg_xInvalidHeap, eC_xInvalidHeap, hC_xInvalidHeap⟩, init := ⟨f_xInvalidHeap, _, _, ii_xInvalidHeap, ti_xInvalidHeap, ok_xi2 (x := "part") (y := "where") F_xInvalidHeap sc_InvalidHeap_init oex_xInvalidHeap nf_xInvalidHeap_part nf_xInvalidHeap_where (by rfl) (.inl rfl) (.inl rfl) (by decide) (by decide) (.inl rfl) (by decide) (by decide), b_xInvalidHeap⟩, nof := nof_xInvalidHeap }
  have nof_xInvalidProgram : ∀ f ∈ (["part", "place"] : List Str), PySem.W.findIn K (.ref X_InvalidProgram') f = some none := fun f hf => by
    rcases List.mem_cons.mp hf with e | e
    · rw [e]; exact nf_xInvalidProgram_part
    · rw [List.mem_singleton.mp e]; exact nf_xInvalidProgram_place
  have XC_InvalidProgram : XCls l.prog w K mg base "InvalidProgram" X_InvalidProgram' ["part", "place"] := { oex := oex_xInvalidProgram, mgx := PySem.W.mg_of X Gn a_xInvalidProgram, xf := ⟨ga_xInvalidProgram, gg_xInvalidProgram, eC_xInvalidProgram, hC_xInvalidProgram⟩, init := ⟨f_xInvalidProgram, _, _, ii_xInvalidProgram, ti_xInvalidProgram, ok_xi2 (x := "part") (y := "place") F_xInvalidProgram sc_InvalidProgram_init oex_xInvalidProgram nf_xInvalidProgram_part nf_xInvalidProgram_place (by rfl) (.inl rfl) (.inl rfl) (by decide) (by decide) (.inl rfl) (by decide) (by decide), b_xInvalidProgram⟩, nof := nof_xInvalidProgram }
  have nof_xInvalidFacts : ∀ f ∈ (["part"] : List Str), PySem.W.findIn K (.ref X_InvalidFacts') f = some none := fun f hf => by
    rw [List.mem_singleton.mp hf]
    exact nf_xInvalidFacts_part
  have XC_InvalidFacts : XCls l.prog w K mg base "InvalidFacts" X_InvalidFacts' ["part"] := { oex := oex_xInvalidFacts, mgx := PySem.W.mg_of X Gn a_xInvalidFacts, xf := ⟨ga_xInvalidFacts, gg_xInvalidFacts, eC_xInvalidFacts, hC_xInvalidFacts⟩, init := ⟨f_xInvalidFacts, _, _, ii_xInvalidFacts, ti_xInvalidFacts, ok_xi1 (x := "part") F_xInvalidFacts sc_InvalidFacts_init oex_xInvalidFacts nf_xInvalidFacts_part (by rfl) (.inl rfl) (.inl rfl) (by decide) (by decide), b_xInvalidFacts⟩, nof := nof_xInvalidFacts }
  have nof_xInvalidArgument : ∀ f ∈ (["part"] : List Str), PySem.W.findIn K (.ref X_InvalidArgument') f = some none := fun f hf => by
    rw [List.mem_singleton.mp hf]
    exact nf_xInvalidArgument_part
  have XC_InvalidArgument : XCls l.prog w K mg base "InvalidArgument" X_InvalidArgument' ["part"] := { oex := oex_xInvalidArgument, mgx := PySem.W.mg_of X Gn a_xInvalidArgument, xf := ⟨ga_xInvalidArgument, gg_xInvalidArgument, eC_xInvalidArgument, hC_xInvalidArgument⟩, init := ⟨f_xInvalidArgument, _, _, ii_xInvalidArgument, ti_xInvalidArgument, ok_xi1 (x := "part") F_xInvalidArgument sc_InvalidArgument_init oex_xInvalidArgument nf_xInvalidArgument_part (by rfl) (.inl rfl) (.inl rfl) (by decide) (by decide), b_xInvalidArgument⟩, nof := nof_xInvalidArgument }
  have nof_xInvalidText : ∀ f ∈ (["line"] : List Str), PySem.W.findIn K (.ref X_InvalidText') f = some none := fun f hf => by
    rw [List.mem_singleton.mp hf]
    exact nf_xInvalidText_line
  have XC_InvalidText : XCls l.prog w K mg base "InvalidText" X_InvalidText' ["line"] := { oex := oex_xInvalidText, mgx := PySem.W.mg_of X Gn a_xInvalidText, xf := ⟨ga_xInvalidText, gg_xInvalidText, eC_xInvalidText, hC_xInvalidText⟩, init := ⟨f_xInvalidText, _, _, ii_xInvalidText, ti_xInvalidText, ok_xi1 (x := "line") F_xInvalidText sc_InvalidText_init oex_xInvalidText nf_xInvalidText_line (by rfl) (.inl rfl) (.inl rfl) (by decide) (by decide), b_xInvalidText⟩, nof := nof_xInvalidText }
  have nof_xLimitExceeded : ∀ f ∈ (["limit"] : List Str), PySem.W.findIn K (.ref X_LimitExceeded') f = some none := fun f hf => by
    rw [List.mem_singleton.mp hf]
    exact nf_xLimitExceeded_limit
  have XC_LimitExceeded : XCls l.prog w K mg base "LimitExceeded" X_LimitExceeded' ["limit"] := { oex := oex_xLimitExceeded, mgx := PySem.W.mg_of X Gn a_xLimitExceeded, xf := ⟨ga_xLimitExceeded, gg_xLimitExceeded, eC_xLimitExceeded, hC_xLimitExceeded⟩, init := ⟨f_xLimitExceeded, _, _, ii_xLimitExceeded, ti_xLimitExceeded, ok_xi1 (x := "limit") F_xLimitExceeded sc_LimitExceeded_init oex_xLimitExceeded nf_xLimitExceeded_limit (by rfl) (.inl rfl) (.inl rfl) (by decide) (by decide), b_xLimitExceeded⟩, nof := nof_xLimitExceeded }
  have nof_xHollow : ∀ f ∈ (["name"] : List Str), PySem.W.findIn K (.ref X_Hollow') f = some none := fun f hf => by
    rw [List.mem_singleton.mp hf]
    exact nf_xHollow_name
  have XC_Hollow : XCls l.prog w K mg base "Hollow" X_Hollow' ["name"] := { oex := oex_xHollow, mgx := PySem.W.mg_of X Gn a_xHollow, xf := ⟨ga_xHollow, gg_xHollow, eC_xHollow, hC_xHollow⟩, init := ⟨f_xHollow, _, _, ii_xHollow, ti_xHollow, ok_xi1 (x := "name") F_xHollow sc_RunError_init oex_xHollow nf_xHollow_name (by rfl) (.inl rfl) (.inl rfl) (by decide) (by decide), b_xHollow⟩, nof := nof_xHollow }
  have nof_xRefused : ∀ f ∈ (["name"] : List Str), PySem.W.findIn K (.ref X_Refused') f = some none := fun f hf => by
    rw [List.mem_singleton.mp hf]
    exact nf_xRefused_name
  have XC_Refused : XCls l.prog w K mg base "Refused" X_Refused' ["name"] := { oex := oex_xRefused, mgx := PySem.W.mg_of X Gn a_xRefused, xf := ⟨ga_xRefused, gg_xRefused, eC_xRefused, hC_xRefused⟩, init := ⟨f_xRefused, _, _, ii_xRefused, ti_xRefused, ok_xi1 (x := "name") F_xRefused sc_RunError_init oex_xRefused nf_xRefused_name (by rfl) (.inl rfl) (.inl rfl) (by decide) (by decide), b_xRefused⟩, nof := nof_xRefused }
  have G_l_draw : FnOk l.prog w K mg base CX0 1 f_l_draw _ ["_law_pool", "_law_limit"] (spD false sDraw) := ok_l_draw F_l_draw B
  have G_l_word : FnOk l.prog w K mg base CX0 2 f_l_word _ ["_law_pool", "_law_taken"] (spD false sWord) := ok_l_word F_l_word B ⟨_, _, _, G_l_draw.mono (by decide), PySem.W.mg_of X Gn a_l_draw, k_l_draw, b_l_draw⟩
  have G_l_exactX : FnG l.prog w K mg base CX0 2 f_l_exact _ ["_law_actual", "_law_due_here"] (spD false sExactX) := ok_l_exactX F_l_exact B (PySem.W.mg_none_of X Gn z_repr)
  have G_l_family : FnOk l.prog w K mg base CX0 1 f_l_family _ ["_law_e"] (spD false (sFam K (us81 CT' X_InvalidHeap' X_InvalidProgram' X_InvalidFacts' X_InvalidArgument' X_InvalidText' X_LimitExceeded' CR' X_Hollow' X_Refused'))) := ok_l_family F_l_family B (⟨XC_InvalidHeap, XC_InvalidProgram, XC_InvalidFacts, XC_InvalidArgument, XC_InvalidText, XC_LimitExceeded, XC_Hollow, XC_Refused, ⟨_, PySem.W.mg_of X Gn a_CT, rfl⟩, ⟨_, PySem.W.mg_of X Gn a_CR, rfl⟩, PySem.W.mg_none_of X Gn z_VE⟩)
  have G_l_due : FnOk l.prog w K mg base CX0 1 f_l_due _ ["_law_places"] (spD false sDue81) := ok_l_due F_l_due B
  have G_law : FnG l.prog w K mg base CX0 6 fa _ ["_law_script"] (spD true sLaw) := ok_law F_law B (⟨XC_InvalidHeap, XC_InvalidProgram, XC_InvalidFacts, XC_InvalidArgument, XC_InvalidText, XC_LimitExceeded, XC_Hollow, XC_Refused, ⟨_, PySem.W.mg_of X Gn a_CT, rfl⟩, ⟨_, PySem.W.mg_of X Gn a_CR, rfl⟩, PySem.W.mg_none_of X Gn z_VE⟩) (yb) ⟨_, _, _, G_l_draw.mono (by decide), PySem.W.mg_of X Gn a_l_draw, k_l_draw, b_l_draw⟩ ⟨_, _, _, G_l_word.mono (by decide), PySem.W.mg_of X Gn a_l_word, k_l_word, b_l_word⟩ ⟨_, _, _, G_l_exactX.mono (by decide), PySem.W.mg_of X Gn a_l_exact, k_l_exact, b_l_exact⟩ ⟨_, _, _, G_l_family.mono (by decide), PySem.W.mg_of X Gn a_l_family, k_l_family, b_l_family⟩ ⟨_, _, _, G_l_due.mono (by decide), PySem.W.mg_of X Gn a_l_due, k_l_due, b_l_due⟩
  exact G_law
theorem factsZ {w : World} {K : PySem.W.Frag} {h : Heap} {mg : Str → Option Value} {fa : Addr} (X : K.In h) (Gn : h.Ns mainGlobals mg) (hfa : mg "law" = some (.ref fa)) (c : G.SaysZ fnZ tsZ exZ w K) :
    ∃ fd : FuncData, (∀ (s : Shared) (v : Value), BindsTo s fd ⟨[v], []⟩ [("_law_script", v)]) ∧ ∀ base : Heap, K.In base → base.Ns mainGlobals mg → FnG (PySem.Challenge.rw_thawedwrites_k81_error_classes).prog w K mg base CX0 6 fa fd ["_law_script"] (spD true sLaw) := by
  obtain ⟨oc_xInvalidHeap, od_xInvalidHeap, sl_xInvalidHeap, kV_xInvalidHeap, dc_xInvalidHeap, pm_xInvalidHeap, an_xInvalidHeap, cd_xInvalidHeap, ct_xInvalidHeap, l_xInvalidHeap, c_xInvalidHeap⟩ := c.def_ 0 (d := D_xInvalidHeap) rfl
  obtain ⟨oc_xInvalidProgram, od_xInvalidProgram, sl_xInvalidProgram, kV_xInvalidProgram, dc_xInvalidProgram, pm_xInvalidProgram, an_xInvalidProgram, cd_xInvalidProgram, ct_xInvalidProgram, l_xInvalidProgram, c_xInvalidProgram⟩ := c.def_ 1 (d := D_xInvalidProgram) rfl
  obtain ⟨oc_xInvalidFacts, od_xInvalidFacts, sl_xInvalidFacts, kV_xInvalidFacts, dc_xInvalidFacts, pm_xInvalidFacts, an_xInvalidFacts, cd_xInvalidFacts, ct_xInvalidFacts, l_xInvalidFacts, c_xInvalidFacts⟩ := c.def_ 2 (d := D_xInvalidFacts) rfl
  obtain ⟨oc_xInvalidArgument, od_xInvalidArgument, sl_xInvalidArgument, kV_xInvalidArgument, dc_xInvalidArgument, pm_xInvalidArgument, an_xInvalidArgument, cd_xInvalidArgument, ct_xInvalidArgument, l_xInvalidArgument, c_xInvalidArgument⟩ := c.def_ 3 (d := D_xInvalidArgument) rfl
  obtain ⟨oc_xInvalidText, od_xInvalidText, sl_xInvalidText, kV_xInvalidText, dc_xInvalidText, pm_xInvalidText, an_xInvalidText, cd_xInvalidText, ct_xInvalidText, l_xInvalidText, c_xInvalidText⟩ := c.def_ 4 (d := D_xInvalidText) rfl
  obtain ⟨oc_xLimitExceeded, od_xLimitExceeded, sl_xLimitExceeded, kV_xLimitExceeded, dc_xLimitExceeded, pm_xLimitExceeded, an_xLimitExceeded, cd_xLimitExceeded, ct_xLimitExceeded, l_xLimitExceeded, c_xLimitExceeded⟩ := c.def_ 5 (d := D_xLimitExceeded) rfl
  obtain ⟨oc_xHollow, od_xHollow, sl_xHollow, kV_xHollow, dc_xHollow, pm_xHollow, an_xHollow, cd_xHollow, ct_xHollow, l_xHollow, c_xHollow⟩ := c.def_ 6 (d := D_xHollow) rfl
  obtain ⟨oc_xRefused, od_xRefused, sl_xRefused, kV_xRefused, dc_xRefused, pm_xRefused, an_xRefused, cd_xRefused, ct_xRefused, l_xRefused, c_xRefused⟩ := c.def_ 7 (d := D_xRefused) rfl
  obtain ⟨oc_l_draw, od_l_draw, sl_l_draw, kV_l_draw, dc_l_draw, pm_l_draw, an_l_draw, cd_l_draw, ct_l_draw, l_l_draw, c_l_draw⟩ := c.def_ 8 (d := D_l_draw) rfl
  obtain ⟨oc_l_word, od_l_word, sl_l_word, kV_l_word, dc_l_word, pm_l_word, an_l_word, cd_l_word, ct_l_word, l_l_word, c_l_word⟩ := c.def_ 9 (d := D_l_word) rfl
  obtain ⟨oc_l_exact, od_l_exact, sl_l_exact, kV_l_exact, dc_l_exact, pm_l_exact, an_l_exact, cd_l_exact, ct_l_exact, l_l_exact, c_l_exact⟩ := c.def_ 10 (d := D_l_exact) rfl
  obtain ⟨oc_l_family, od_l_family, sl_l_family, kV_l_family, dc_l_family, pm_l_family, an_l_family, cd_l_family, ct_l_family, l_l_family, c_l_family⟩ := c.def_ 11 (d := D_l_family) rfl
  obtain ⟨oc_l_due, od_l_due, sl_l_due, kV_l_due, dc_l_due, pm_l_due, an_l_due, cd_l_due, ct_l_due, l_l_due, c_l_due⟩ := c.def_ 12 (d := D_l_due) rfl
  obtain ⟨oc_law, od_law, sl_law, kV_law, dc_law, pm_law, an_law, cd_law, ct_law, l_law, c_law⟩ := c.def_ 13 (d := D_law) rfl
  have a_xInvalidHeap : PySem.W.nsIn K mainGlobals "InvalidHeap" = some (some (.ref (He.ga K "InvalidHeap"))) := c.is 0 0 rfl rfl
  obtain ⟨_, _, _, _, _, _, _, _, _, _, _, _, _, _, _, xl_xInvalidHeap, bm_ok_xInvalidHeap⟩ := G.excB_ok (c.bl 0 1 rfl rfl)
  have sa_xInvalidHeap : PySem.W.findIn K (.ref (He.ga K "InvalidHeap")) "__setattr__" = some (some (.builtin "object.__setattr__")) := c.is 0 2 rfl rfl
  have ga_xInvalidHeap : PySem.W.findIn K (.ref (He.ga K "InvalidHeap")) "__getattribute__" = some (some (.builtin "BaseException.__getattribute__")) := c.is 0 3 rfl rfl
  have gg_xInvalidHeap : PySem.W.findIn K (.ref (He.ga K "InvalidHeap")) "__getattr__" = some none := c.is 0 4 rfl rfl
  have nf_xInvalidHeap_part : PySem.W.findIn K (.ref (He.ga K "InvalidHeap")) "part" = some none := c.is 0 5 rfl rfl
  have nf_xInvalidHeap_where : PySem.W.findIn K (.ref (He.ga K "InvalidHeap")) "where" = some none := c.is 0 6 rfl rfl
  have kC_xInvalidHeap : PySem.W.keepIn K (.ref (He.ga K "InvalidHeap")) = true := c.is 0 7 rfl rfl
  have eC_xInvalidHeap : PySem.W.subIn K (.ref (He.ga K "InvalidHeap")) (.type "BaseException") = some true := c.is 0 8 rfl rfl
  have tC_xInvalidHeap : PySem.W.typeIn K (.ref (He.ga K "InvalidHeap")) = some (.type "type") := c.is 0 9 rfl rfl
  have hC_xInvalidHeap : PySem.W.hasDictIn K (He.ga K "InvalidHeap") = true := c.is 0 10 rfl rfl
  have iC_xInvalidHeap : PySem.W.isClsIn K (He.ga K "InvalidHeap") = true := c.is 0 11 rfl rfl
  have sC_xInvalidHeap : PySem.W.subIn K (.ref (He.ga K "InvalidHeap")) (.ref (He.ga K "InvalidHeap")) = some true := c.is 0 12 rfl rfl
  have ii_xInvalidHeap : PySem.W.findIn K (.ref (He.ga K "InvalidHeap")) "__init__" = some (some (.ref (He.ma K (He.ga K "InvalidHeap") "__init__"))) := c.is 0 13 rfl rfl
  have ti_xInvalidHeap : PySem.W.typeIn K (.ref (He.ma K (He.ga K "InvalidHeap") "__init__")) = some (.type "function") := c.is 0 14 rfl rfl
  have k_xInvalidHeap : PySem.W.keepIn K (.ref (He.ma K (He.ga K "InvalidHeap") "__init__")) = true := c.is 0 15 rfl rfl
  have a_xInvalidProgram : PySem.W.nsIn K mainGlobals "InvalidProgram" = some (some (.ref (He.ga K "InvalidProgram"))) := c.is 0 16 rfl rfl
  obtain ⟨_, _, _, _, _, _, _, _, _, _, _, _, _, _, _, xl_xInvalidProgram, bm_ok_xInvalidProgram⟩ := G.excB_ok (c.bl 0 17 rfl rfl)
  have sa_xInvalidProgram : PySem.W.findIn K (.ref (He.ga K "InvalidProgram")) "__setattr__" = some (some (.builtin "object.__setattr__")) := c.is 0 18 rfl rfl
  have ga_xInvalidProgram : PySem.W.findIn K (.ref (He.ga K "InvalidProgram")) "__getattribute__" = some (some (.builtin "BaseException.__getattribute__")) := c.is 0 19 rfl rfl
  have gg_xInvalidProgram : PySem.W.findIn K (.ref (He.ga K "InvalidProgram")) "__getattr__" = some none := c.is 0 20 rfl rfl
  have nf_xInvalidProgram_part : PySem.W.findIn K (.ref (He.ga K "InvalidProgram")) "part" = some none := c.is 0 21 rfl rfl
  have nf_xInvalidProgram_place : PySem.W.findIn K (.ref (He.ga K "InvalidProgram")) "place" = some none := c.is 0 22 rfl rfl
  have kC_xInvalidProgram : PySem.W.keepIn K (.ref (He.ga K "InvalidProgram")) = true := c.is 0 23 rfl rfl
  have eC_xInvalidProgram : PySem.W.subIn K (.ref (He.ga K "InvalidProgram")) (.type "BaseException") = some true := c.is 0 24 rfl rfl
  have tC_xInvalidProgram : PySem.W.typeIn K (.ref (He.ga K "InvalidProgram")) = some (.type "type") := c.is 1 0 rfl rfl
  have hC_xInvalidProgram : PySem.W.hasDictIn K (He.ga K "InvalidProgram") = true := c.is 1 1 rfl rfl
  have iC_xInvalidProgram : PySem.W.isClsIn K (He.ga K "InvalidProgram") = true := c.is 1 2 rfl rfl
  have sC_xInvalidProgram : PySem.W.subIn K (.ref (He.ga K "InvalidProgram")) (.ref (He.ga K "InvalidProgram")) = some true := c.is 1 3 rfl rfl
  have ii_xInvalidProgram : PySem.W.findIn K (.ref (He.ga K "InvalidProgram")) "__init__" = some (some (.ref (He.ma K (He.ga K "InvalidProgram") "__init__"))) := c.is 1 4 rfl rfl
  have ti_xInvalidProgram : PySem.W.typeIn K (.ref (He.ma K (He.ga K "InvalidProgram") "__init__")) = some (.type "function") := c.is 1 5 rfl rfl
  have k_xInvalidProgram : PySem.W.keepIn K (.ref (He.ma K (He.ga K "InvalidProgram") "__init__")) = true := c.is 1 6 rfl rfl
  have a_xInvalidFacts : PySem.W.nsIn K mainGlobals "InvalidFacts" = some (some (.ref (He.ga K "InvalidFacts"))) := c.is 1 7 rfl rfl
  obtain ⟨_, _, _, _, _, _, _, _, _, _, _, _, _, _, _, xl_xInvalidFacts, bm_ok_xInvalidFacts⟩ := G.excB_ok (c.bl 1 8 rfl rfl)
  have sa_xInvalidFacts : PySem.W.findIn K (.ref (He.ga K "InvalidFacts")) "__setattr__" = some (some (.builtin "object.__setattr__")) := c.is 1 9 rfl rfl
  have ga_xInvalidFacts : PySem.W.findIn K (.ref (He.ga K "InvalidFacts")) "__getattribute__" = some (some (.builtin "BaseException.__getattribute__")) := c.is 1 10 rfl rfl
  have gg_xInvalidFacts : PySem.W.findIn K (.ref (He.ga K "InvalidFacts")) "__getattr__" = some none := c.is 1 11 rfl rfl
  have nf_xInvalidFacts_part : PySem.W.findIn K (.ref (He.ga K "InvalidFacts")) "part" = some none := c.is 1 12 rfl rfl
  have kC_xInvalidFacts : PySem.W.keepIn K (.ref (He.ga K "InvalidFacts")) = true := c.is 1 13 rfl rfl
  have eC_xInvalidFacts : PySem.W.subIn K (.ref (He.ga K "InvalidFacts")) (.type "BaseException") = some true := c.is 1 14 rfl rfl
  have tC_xInvalidFacts : PySem.W.typeIn K (.ref (He.ga K "InvalidFacts")) = some (.type "type") := c.is 1 15 rfl rfl
  have hC_xInvalidFacts : PySem.W.hasDictIn K (He.ga K "InvalidFacts") = true := c.is 1 16 rfl rfl
  have iC_xInvalidFacts : PySem.W.isClsIn K (He.ga K "InvalidFacts") = true := c.is 1 17 rfl rfl
  have sC_xInvalidFacts : PySem.W.subIn K (.ref (He.ga K "InvalidFacts")) (.ref (He.ga K "InvalidFacts")) = some true := c.is 1 18 rfl rfl
  have ii_xInvalidFacts : PySem.W.findIn K (.ref (He.ga K "InvalidFacts")) "__init__" = some (some (.ref (He.ma K (He.ga K "InvalidFacts") "__init__"))) := c.is 1 19 rfl rfl
  have ti_xInvalidFacts : PySem.W.typeIn K (.ref (He.ma K (He.ga K "InvalidFacts") "__init__")) = some (.type "function") := c.is 1 20 rfl rfl
  have k_xInvalidFacts : PySem.W.keepIn K (.ref (He.ma K (He.ga K "InvalidFacts") "__init__")) = true := c.is 1 21 rfl rfl
  have a_xInvalidArgument : PySem.W.nsIn K mainGlobals "InvalidArgument" = some (some (.ref (He.ga K "InvalidArgument"))) := c.is 1 22 rfl rfl
  obtain ⟨_, _, _, _, _, _, _, _, _, _, _, _, _, _, _, xl_xInvalidArgument, bm_ok_xInvalidArgument⟩ := G.excB_ok (c.bl 1 23 rfl rfl)
  have sa_xInvalidArgument : PySem.W.findIn K (.ref (He.ga K "InvalidArgument")) "__setattr__" = some (some (.builtin "object.__setattr__")) := c.is 1 24 rfl rfl
  have ga_xInvalidArgument : PySem.W.findIn K (.ref (He.ga K "InvalidArgument")) "__getattribute__" = some (some (.builtin "BaseException.__getattribute__")) := c.is 2 0 rfl rfl
  have gg_xInvalidArgument : PySem.W.findIn K (.ref (He.ga K "InvalidArgument")) "__getattr__" = some none := c.is 2 1 rfl rfl
  have nf_xInvalidArgument_part : PySem.W.findIn K (.ref (He.ga K "InvalidArgument")) "part" = some none := c.is 2 2 rfl rfl
  have kC_xInvalidArgument : PySem.W.keepIn K (.ref (He.ga K "InvalidArgument")) = true := c.is 2 3 rfl rfl
  have eC_xInvalidArgument : PySem.W.subIn K (.ref (He.ga K "InvalidArgument")) (.type "BaseException") = some true := c.is 2 4 rfl rfl
  have tC_xInvalidArgument : PySem.W.typeIn K (.ref (He.ga K "InvalidArgument")) = some (.type "type") := c.is 2 5 rfl rfl
  have hC_xInvalidArgument : PySem.W.hasDictIn K (He.ga K "InvalidArgument") = true := c.is 2 6 rfl rfl
  have iC_xInvalidArgument : PySem.W.isClsIn K (He.ga K "InvalidArgument") = true := c.is 2 7 rfl rfl
  have sC_xInvalidArgument : PySem.W.subIn K (.ref (He.ga K "InvalidArgument")) (.ref (He.ga K "InvalidArgument")) = some true := c.is 2 8 rfl rfl
  have ii_xInvalidArgument : PySem.W.findIn K (.ref (He.ga K "InvalidArgument")) "__init__" = some (some (.ref (He.ma K (He.ga K "InvalidArgument") "__init__"))) := c.is 2 9 rfl rfl
  have ti_xInvalidArgument : PySem.W.typeIn K (.ref (He.ma K (He.ga K "InvalidArgument") "__init__")) = some (.type "function") := c.is 2 10 rfl rfl
  have k_xInvalidArgument : PySem.W.keepIn K (.ref (He.ma K (He.ga K "InvalidArgument") "__init__")) = true := c.is 2 11 rfl rfl
  have a_xInvalidText : PySem.W.nsIn K mainGlobals "InvalidText" = some (some (.ref (He.ga K "InvalidText"))) := c.is 2 12 rfl rfl
  obtain ⟨_, _, _, _, _, _, _, _, _, _, _, _, _, _, _, xl_xInvalidText, bm_ok_xInvalidText⟩ := G.excB_ok (c.bl 2 13 rfl rfl)
  have sa_xInvalidText : PySem.W.findIn K (.ref (He.ga K "InvalidText")) "__setattr__" = some (some (.builtin "object.__setattr__")) := c.is 2 14 rfl rfl
  have ga_xInvalidText : PySem.W.findIn K (.ref (He.ga K "InvalidText")) "__getattribute__" = some (some (.builtin "BaseException.__getattribute__")) := c.is 2 15 rfl rfl
  have gg_xInvalidText : PySem.W.findIn K (.ref (He.ga K "InvalidText")) "__getattr__" = some none := c.is 2 16 rfl rfl
  have nf_xInvalidText_line : PySem.W.findIn K (.ref (He.ga K "InvalidText")) "line" = some none := c.is 2 17 rfl rfl
  have kC_xInvalidText : PySem.W.keepIn K (.ref (He.ga K "InvalidText")) = true := c.is 2 18 rfl rfl
  have eC_xInvalidText : PySem.W.subIn K (.ref (He.ga K "InvalidText")) (.type "BaseException") = some true := c.is 2 19 rfl rfl
  have tC_xInvalidText : PySem.W.typeIn K (.ref (He.ga K "InvalidText")) = some (.type "type") := c.is 2 20 rfl rfl
  have hC_xInvalidText : PySem.W.hasDictIn K (He.ga K "InvalidText") = true := c.is 2 21 rfl rfl
  have iC_xInvalidText : PySem.W.isClsIn K (He.ga K "InvalidText") = true := c.is 2 22 rfl rfl
  have sC_xInvalidText : PySem.W.subIn K (.ref (He.ga K "InvalidText")) (.ref (He.ga K "InvalidText")) = some true := c.is 2 23 rfl rfl
  have ii_xInvalidText : PySem.W.findIn K (.ref (He.ga K "InvalidText")) "__init__" = some (some (.ref (He.ma K (He.ga K "InvalidText") "__init__"))) := c.is 2 24 rfl rfl
  have ti_xInvalidText : PySem.W.typeIn K (.ref (He.ma K (He.ga K "InvalidText") "__init__")) = some (.type "function") := c.is 3 0 rfl rfl
  have k_xInvalidText : PySem.W.keepIn K (.ref (He.ma K (He.ga K "InvalidText") "__init__")) = true := c.is 3 1 rfl rfl
  have a_xLimitExceeded : PySem.W.nsIn K mainGlobals "LimitExceeded" = some (some (.ref (He.ga K "LimitExceeded"))) := c.is 3 2 rfl rfl
  obtain ⟨_, _, _, _, _, _, _, _, _, _, _, _, _, _, _, xl_xLimitExceeded, bm_ok_xLimitExceeded⟩ := G.excB_ok (c.bl 3 3 rfl rfl)
  have sa_xLimitExceeded : PySem.W.findIn K (.ref (He.ga K "LimitExceeded")) "__setattr__" = some (some (.builtin "object.__setattr__")) := c.is 3 4 rfl rfl
  have ga_xLimitExceeded : PySem.W.findIn K (.ref (He.ga K "LimitExceeded")) "__getattribute__" = some (some (.builtin "BaseException.__getattribute__")) := c.is 3 5 rfl rfl
  have gg_xLimitExceeded : PySem.W.findIn K (.ref (He.ga K "LimitExceeded")) "__getattr__" = some none := c.is 3 6 rfl rfl
  have nf_xLimitExceeded_limit : PySem.W.findIn K (.ref (He.ga K "LimitExceeded")) "limit" = some none := c.is 3 7 rfl rfl
  have kC_xLimitExceeded : PySem.W.keepIn K (.ref (He.ga K "LimitExceeded")) = true := c.is 3 8 rfl rfl
  have eC_xLimitExceeded : PySem.W.subIn K (.ref (He.ga K "LimitExceeded")) (.type "BaseException") = some true := c.is 3 9 rfl rfl
  have tC_xLimitExceeded : PySem.W.typeIn K (.ref (He.ga K "LimitExceeded")) = some (.type "type") := c.is 3 10 rfl rfl
  have hC_xLimitExceeded : PySem.W.hasDictIn K (He.ga K "LimitExceeded") = true := c.is 3 11 rfl rfl
  have iC_xLimitExceeded : PySem.W.isClsIn K (He.ga K "LimitExceeded") = true := c.is 3 12 rfl rfl
  have sC_xLimitExceeded : PySem.W.subIn K (.ref (He.ga K "LimitExceeded")) (.ref (He.ga K "LimitExceeded")) = some true := c.is 3 13 rfl rfl
  have ii_xLimitExceeded : PySem.W.findIn K (.ref (He.ga K "LimitExceeded")) "__init__" = some (some (.ref (He.ma K (He.ga K "LimitExceeded") "__init__"))) := c.is 3 14 rfl rfl
  have ti_xLimitExceeded : PySem.W.typeIn K (.ref (He.ma K (He.ga K "LimitExceeded") "__init__")) = some (.type "function") := c.is 3 15 rfl rfl
  have k_xLimitExceeded : PySem.W.keepIn K (.ref (He.ma K (He.ga K "LimitExceeded") "__init__")) = true := c.is 3 16 rfl rfl
  have a_xHollow : PySem.W.nsIn K mainGlobals "Hollow" = some (some (.ref (He.ga K "Hollow"))) := c.is 3 17 rfl rfl
  obtain ⟨_, _, _, _, _, _, _, _, _, _, _, _, _, _, _, xl_xHollow, bm_ok_xHollow⟩ := G.excB_ok (c.bl 3 18 rfl rfl)
  have sa_xHollow : PySem.W.findIn K (.ref (He.ga K "Hollow")) "__setattr__" = some (some (.builtin "object.__setattr__")) := c.is 3 19 rfl rfl
  have ga_xHollow : PySem.W.findIn K (.ref (He.ga K "Hollow")) "__getattribute__" = some (some (.builtin "BaseException.__getattribute__")) := c.is 3 20 rfl rfl
  have gg_xHollow : PySem.W.findIn K (.ref (He.ga K "Hollow")) "__getattr__" = some none := c.is 3 21 rfl rfl
  have nf_xHollow_name : PySem.W.findIn K (.ref (He.ga K "Hollow")) "name" = some none := c.is 3 22 rfl rfl
  have kC_xHollow : PySem.W.keepIn K (.ref (He.ga K "Hollow")) = true := c.is 3 23 rfl rfl
  have eC_xHollow : PySem.W.subIn K (.ref (He.ga K "Hollow")) (.type "BaseException") = some true := c.is 3 24 rfl rfl
  have tC_xHollow : PySem.W.typeIn K (.ref (He.ga K "Hollow")) = some (.type "type") := c.is 4 0 rfl rfl
  have hC_xHollow : PySem.W.hasDictIn K (He.ga K "Hollow") = true := c.is 4 1 rfl rfl
  have iC_xHollow : PySem.W.isClsIn K (He.ga K "Hollow") = true := c.is 4 2 rfl rfl
  have sC_xHollow : PySem.W.subIn K (.ref (He.ga K "Hollow")) (.ref (He.ga K "Hollow")) = some true := c.is 4 3 rfl rfl
  have ii_xHollow : PySem.W.findIn K (.ref (He.ga K "Hollow")) "__init__" = some (some (.ref (He.ma K (He.ga K "Hollow") "__init__"))) := c.is 4 4 rfl rfl
  have ti_xHollow : PySem.W.typeIn K (.ref (He.ma K (He.ga K "Hollow") "__init__")) = some (.type "function") := c.is 4 5 rfl rfl
  have k_xHollow : PySem.W.keepIn K (.ref (He.ma K (He.ga K "Hollow") "__init__")) = true := c.is 4 6 rfl rfl
  have a_xRefused : PySem.W.nsIn K mainGlobals "Refused" = some (some (.ref (He.ga K "Refused"))) := c.is 4 7 rfl rfl
  obtain ⟨_, _, _, _, _, _, _, _, _, _, _, _, _, _, _, xl_xRefused, bm_ok_xRefused⟩ := G.excB_ok (c.bl 4 8 rfl rfl)
  have sa_xRefused : PySem.W.findIn K (.ref (He.ga K "Refused")) "__setattr__" = some (some (.builtin "object.__setattr__")) := c.is 4 9 rfl rfl
  have ga_xRefused : PySem.W.findIn K (.ref (He.ga K "Refused")) "__getattribute__" = some (some (.builtin "BaseException.__getattribute__")) := c.is 4 10 rfl rfl
  have gg_xRefused : PySem.W.findIn K (.ref (He.ga K "Refused")) "__getattr__" = some none := c.is 4 11 rfl rfl
  have nf_xRefused_name : PySem.W.findIn K (.ref (He.ga K "Refused")) "name" = some none := c.is 4 12 rfl rfl
  have kC_xRefused : PySem.W.keepIn K (.ref (He.ga K "Refused")) = true := c.is 4 13 rfl rfl
  have eC_xRefused : PySem.W.subIn K (.ref (He.ga K "Refused")) (.type "BaseException") = some true := c.is 4 14 rfl rfl
  have tC_xRefused : PySem.W.typeIn K (.ref (He.ga K "Refused")) = some (.type "type") := c.is 4 15 rfl rfl
  have hC_xRefused : PySem.W.hasDictIn K (He.ga K "Refused") = true := c.is 4 16 rfl rfl
  have iC_xRefused : PySem.W.isClsIn K (He.ga K "Refused") = true := c.is 4 17 rfl rfl
  have sC_xRefused : PySem.W.subIn K (.ref (He.ga K "Refused")) (.ref (He.ga K "Refused")) = some true := c.is 4 18 rfl rfl
  have ii_xRefused : PySem.W.findIn K (.ref (He.ga K "Refused")) "__init__" = some (some (.ref (He.ma K (He.ga K "Refused") "__init__"))) := c.is 4 19 rfl rfl
  have ti_xRefused : PySem.W.typeIn K (.ref (He.ma K (He.ga K "Refused") "__init__")) = some (.type "function") := c.is 4 20 rfl rfl
  have k_xRefused : PySem.W.keepIn K (.ref (He.ma K (He.ga K "Refused") "__init__")) = true := c.is 4 21 rfl rfl
  have a_l_draw : PySem.W.nsIn K mainGlobals "_law_draw" = some (some (.ref (He.ga K "_law_draw"))) := c.is 4 22 rfl rfl
  have k_l_draw : PySem.W.keepIn K (.ref (He.ga K "_law_draw")) = true := c.is 4 23 rfl rfl
  have a_l_word : PySem.W.nsIn K mainGlobals "_law_word" = some (some (.ref (He.ga K "_law_word"))) := c.is 4 24 rfl rfl
  have k_l_word : PySem.W.keepIn K (.ref (He.ga K "_law_word")) = true := c.is 5 0 rfl rfl
  have a_l_exact : PySem.W.nsIn K mainGlobals "_law_exact" = some (some (.ref (He.ga K "_law_exact"))) := c.is 5 1 rfl rfl
  have k_l_exact : PySem.W.keepIn K (.ref (He.ga K "_law_exact")) = true := c.is 5 2 rfl rfl
  have a_l_family : PySem.W.nsIn K mainGlobals "_law_family" = some (some (.ref (He.ga K "_law_family"))) := c.is 5 3 rfl rfl
  have k_l_family : PySem.W.keepIn K (.ref (He.ga K "_law_family")) = true := c.is 5 4 rfl rfl
  have a_l_due : PySem.W.nsIn K mainGlobals "_law_due" = some (some (.ref (He.ga K "_law_due"))) := c.is 5 5 rfl rfl
  have k_l_due : PySem.W.keepIn K (.ref (He.ga K "_law_due")) = true := c.is 5 6 rfl rfl
  have a_law : PySem.W.nsIn K mainGlobals "law" = some (some (.ref (He.ga K "law"))) := c.is 5 7 rfl rfl
  have k_law : PySem.W.keepIn K (.ref (He.ga K "law")) = true := c.is 5 8 rfl rfl
  have a_CT : PySem.W.nsIn K mainGlobals "ThawError" = some (some (.ref (He.ga K "ThawError"))) := c.is 5 9 rfl rfl
  have a_CR : PySem.W.nsIn K mainGlobals "RunError" = some (some (.ref (He.ga K "RunError"))) := c.is 5 10 rfl rfl
  have z_VE : PySem.W.nsIn K mainGlobals "ValueError" = some none := c.is 5 11 rfl rfl
  have yb : famB K [(He.ga K "InvalidHeap"), (He.ga K "InvalidProgram"), (He.ga K "InvalidFacts"), (He.ga K "InvalidArgument"), (He.ga K "InvalidText"), (He.ga K "LimitExceeded"), (He.ga K "Hollow"), (He.ga K "Refused")] [.ref (He.ga K "ThawError"), .type "ValueError", .ref (He.ga K "InvalidHeap"), .ref (He.ga K "InvalidProgram"), .ref (He.ga K "InvalidFacts"), .ref (He.ga K "InvalidArgument"), .ref (He.ga K "InvalidText"), .ref (He.ga K "LimitExceeded"), .ref (He.ga K "RunError"), .ref (He.ga K "Hollow"), .ref (He.ga K "Refused")] due81 = true := c.is 5 12 rfl rfl
  have z_len : PySem.W.nsIn K mainGlobals "len" = some none := c.is 5 13 rfl rfl
  have z_list : PySem.W.nsIn K mainGlobals "list" = some none := c.is 5 14 rfl rfl
  have z_tuple : PySem.W.nsIn K mainGlobals "tuple" = some none := c.is 5 15 rfl rfl
  have z_dict : PySem.W.nsIn K mainGlobals "dict" = some none := c.is 5 16 rfl rfl
  have z_int : PySem.W.nsIn K mainGlobals "int" = some none := c.is 5 17 rfl rfl
  have z_str : PySem.W.nsIn K mainGlobals "str" = some none := c.is 5 18 rfl rfl
  have z_bool : PySem.W.nsIn K mainGlobals "bool" = some none := c.is 5 19 rfl rfl
  have z_range : PySem.W.nsIn K mainGlobals "range" = some none := c.is 5 20 rfl rfl
  have z_isinstance : PySem.W.nsIn K mainGlobals "isinstance" = some none := c.is 5 21 rfl rfl
  have z_sorted : PySem.W.nsIn K mainGlobals "sorted" = some none := c.is 5 22 rfl rfl
  have z_enumerate : PySem.W.nsIn K mainGlobals "enumerate" = some none := c.is 5 23 rfl rfl
  have z_zip : PySem.W.nsIn K mainGlobals "zip" = some none := c.is 5 24 rfl rfl
  have z_min : PySem.W.nsIn K mainGlobals "min" = some none := c.is 6 0 rfl rfl
  have z_repr : PySem.W.nsIn K mainGlobals "repr" = some none := c.is 6 1 rfl rfl
  obtain ⟨fd, h1, h2⟩ := all_mk (l := PySem.Challenge.rw_thawedwrites_k81_error_classes) (w := w) X Gn hfa a_xInvalidHeap xl_xInvalidHeap bm_ok_xInvalidHeap sa_xInvalidHeap ga_xInvalidHeap gg_xInvalidHeap nf_xInvalidHeap_part nf_xInvalidHeap_where kC_xInvalidHeap eC_xInvalidHeap tC_xInvalidHeap hC_xInvalidHeap iC_xInvalidHeap sC_xInvalidHeap ii_xInvalidHeap ti_xInvalidHeap l_xInvalidHeap c_xInvalidHeap k_xInvalidHeap a_xInvalidProgram xl_xInvalidProgram bm_ok_xInvalidProgram sa_xInvalidProgram ga_xInvalidProgram gg_xInvalidProgram nf_xInvalidProgram_part nf_xInvalidProgram_place kC_xInvalidProgram eC_xInvalidProgram tC_xInvalidProgram hC_xInvalidProgram iC_xInvalidProgram sC_xInvalidProgram ii_xInvalidProgram ti_xInvalidProgram l_xInvalidProgram c_xInvalidProgram k_xInvalidProgram a_xInvalidFacts xl_xInvalidFacts bm_ok_xInvalidFacts sa_xInvalidFacts ga_xInvalidFacts gg_xInvalidFacts nf_xInvalidFacts_part kC_xInvalidFacts eC_xInvalidFacts tC_xInvalidFacts hC_xInvalidFacts iC_xInvalidFacts sC_xInvalidFacts ii_xInvalidFacts ti_xInvalidFacts l_xInvalidFacts c_xInvalidFacts k_xInvalidFacts a_xInvalidArgument xl_xInvalidArgument bm_ok_xInvalidArgument sa_xInvalidArgument ga_xInvalidArgument gg_xInvalidArgument nf_xInvalidArgument_part kC_xInvalidArgument eC_xInvalidArgument tC_xInvalidArgument hC_xInvalidArgument iC_xInvalidArgument sC_xInvalidArgument ii_xInvalidArgument ti_xInvalidArgument l_xInvalidArgument c_xInvalidArgument k_xInvalidArgument a_xInvalidText xl_xInvalidText bm_ok_xInvalidText sa_xInvalidText ga_xInvalidText gg_xInvalidText nf_xInvalidText_line kC_xInvalidText eC_xInvalidText tC_xInvalidText hC_xInvalidText iC_xInvalidText sC_xInvalidText ii_xInvalidText ti_xInvalidText l_xInvalidText c_xInvalidText k_xInvalidText a_xLimitExceeded xl_xLimitExceeded bm_ok_xLimitExceeded sa_xLimitExceeded ga_xLimitExceeded gg_xLimitExceeded nf_xLimitExceeded_limit kC_xLimitExceeded eC_xLimitExceeded tC_xLimitExceeded hC_xLimitExceeded iC_xLimitExceeded sC_xLimitExceeded ii_xLimitExceeded ti_xLimitExceeded l_xLimitExceeded c_xLimitExceeded k_xLimitExceeded a_xHollow xl_xHollow bm_ok_xHollow sa_xHollow ga_xHollow gg_xHollow nf_xHollow_name kC_xHollow eC_xHollow tC_xHollow hC_xHollow iC_xHollow sC_xHollow ii_xHollow ti_xHollow l_xHollow c_xHollow k_xHollow a_xRefused xl_xRefused bm_ok_xRefused sa_xRefused ga_xRefused gg_xRefused nf_xRefused_name kC_xRefused eC_xRefused tC_xRefused hC_xRefused iC_xRefused sC_xRefused ii_xRefused ti_xRefused l_xRefused c_xRefused k_xRefused a_l_draw l_l_draw c_l_draw k_l_draw a_l_word l_l_word c_l_word k_l_word a_l_exact l_l_exact c_l_exact k_l_exact a_l_family l_l_family c_l_family k_l_family a_l_due l_l_due c_l_due k_l_due a_law l_law c_law k_law a_CT a_CR z_VE yb z_len z_list z_tuple z_dict z_int z_str z_bool z_range z_isinstance z_sorted z_enumerate z_zip z_min z_repr
  exact ⟨fd, h1, h2⟩
end Z
open PySem PySem.W PySem.Calls PyProof.Rows
set_option maxRecDepth 100000 in
set_option maxHeartbeats 0 in
theorem PySem.Challenge.cw_thawedwrites_k81_error_classes_holds : PySem.Challenge.rw_thawedwrites_k81_error_classes.Holds := by
  w_on; o_law
  refine HandSHeadRun.head_any (r := Z.RZ) (q := Z.qvZ) (H := Z.hkZ) (ob := Z.obZ) (M := 15000) (loose := Z.nmZ) (d := HandSHeadRun.topDef Z.RZ.prog 19) (kwd := []) Z.obZ_eq
    (by kernel_rfl) (fun s => by kernel_rfl) Z.runZ (by kernel_rfl) (by kernel_rfl) (by kernel_rfl) (by rfl) (by first | assumption | decide +kernel) (by decide +kernel) ⟨rfl, rfl, rfl, rfl, rfl, by decide +kernel⟩ ?hw ?hc
  case hw => w_witness2
  case hc =>
    refine G.walkG_ofE (l := PySem.Challenge.rw_thawedwrites_k81_error_classes) (n := 63) (k := 6) (x := "_law_script") (CX := L2.CX0) rfl (by decide) (by kernel_rfl) ⟨rfl, by decide, by decide⟩ ?F (fun _ _ _ _ z => z)
    intro w mg fa h Y Gn hmg0
    obtain ⟨K, KX, hN, c⟩ := Y
    have hmg : mg ("law" : PySem.Str) = some (.ref fa) := by
      have e : (HandSHeadRun.topDef Z.RZ.prog 19).name = ("law" : PySem.Str) := by kernel_rfl
      rw [← e]
      exact hmg0
    obtain ⟨fd, hb, hF⟩ := Z.factsZ (w := w) KX Gn hmg c
    exact ⟨K, fd, (E.spD true E.sLaw), KX, hb, fun H a ns hl hO hS => E.law_sp hN hl hO hS, hF⟩
