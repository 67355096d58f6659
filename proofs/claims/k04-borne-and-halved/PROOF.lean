import PyProof.Rows.All
import Wide.All
import OpenK.AllK
import Wide.FinOn
import KE.KStateDown
import HandS.ForMost
import HandS.ForExc
import HandS.Style
import HandS.IsInst
import HandS.Wide
import HandS.Evl
import HandS.More
import HandS.Conv
import HandS.Defaults
import HandS.Head0
import HandS.Head1
import HandS.Head2
import HandS.HeadEnd
import HandS.HeadHook1
import HandS.HeadHook2
import HandS.HeadHook3
import HandS.HeadHook4
import HandS.EndBits
import PySem.Challenge.RW_cutrow_k04_borne_and_halved
set_option Elab.async false
set_option linter.all false
set_option maxRecDepth 100000
set_option maxHeartbeats 4000000
namespace Ct
open PySem PySem.Spec PyProof.Rows L2 Evl
theorem l1 : 1 ≤ 100000 := by decide
theorem l2 : 2 ≤ 100000 := by decide
theorem n1 : 1 ≤ sizeLine := by decide
theorem n2 : 2 ≤ sizeLine := by decide
theorem n3 : 3 ≤ sizeLine := by decide
theorem n4 : 4 ≤ sizeLine := by decide
/-! ### built-ins by name -/
theorem bo_len : bootBuiltins "len" = some (.builtin "len") := by decide +kernel
theorem bo_sum : bootBuiltins "sum" = some (.builtin "sum") := by decide +kernel
theorem bo_max : bootBuiltins "max" = some (.builtin "max") := by decide +kernel
theorem bo_min : bootBuiltins "min" = some (.builtin "min") := by decide +kernel
theorem bo_abs : bootBuiltins "abs" = some (.builtin "abs") := by decide +kernel
theorem bo_all : bootBuiltins "all" = some (.builtin "all") := by decide +kernel
theorem bo_any : bootBuiltins "any" = some (.builtin "any") := by decide +kernel
theorem bo_isinstance : bootBuiltins "isinstance" = some (.builtin "isinstance") := by decide +kernel
theorem bo_list : bootBuiltins "list" = some (.type "list") := by decide +kernel
theorem bo_int : bootBuiltins "int" = some (.type "int") := by decide +kernel
theorem bo_str : bootBuiltins "str" = some (.type "str") := by decide +kernel
theorem bo_bool : bootBuiltins "bool" = some (.type "bool") := by decide +kernel
theorem bo_tuple : bootBuiltins "tuple" = some (.type "tuple") := by decide +kernel
/-! ### three comparisons in a chain -/
def tChain3 (r1 r2 r3 : R2) (ta tb tc td : TE) : TT := fun σ H Q => ta σ H fun x H1 => tb σ H1 fun y H2 => r1 x y H2 fun z H3 => ∃ k, z = .bl k ∧
  (if k = true then tc σ H3 fun w H4 => r2 y w H4 fun z2 H5 => ∃ k2, z2 = .bl k2 ∧ (if k2 = true then td σ H5 fun u H6 => r3 w u H6 fun z3 H7 => ∃ k3, z3 = .bl k3 ∧ Q k3 H7 else Q false H5) else Q false H3)
section
variable {X : Cx} {a b c d : Expr} {ta tb tc td : TE} {pos : Pos}
theorem pt_chain3 {o1 o2 o3 : CmpOp} {r1 r2 r3 : R2} (h1 : OpR X (compareOp o1) r1) (h2 : OpR X (compareOp o2) r2) (h3 : OpR X (compareOp o3) r3) (ha : PE X a ta) (hb : PE X b tb) (hc : PE X c tc) (hd : PE X d td)
    (hm : lastMarks [o1, o2, o3] [b, c, d] = false := by with_unfolding_all rfl) : PT X (.Compare a [o1, o2, o3] [b, c, d] pos) (tChain3 r1 r2 r3 ta tb tc td) := by
  refine ⟨fun pins s σ H Q I h => ?_⟩
  refine isTrue_chain (thn (ha.run pins s σ H _ I h) fun v s1 ⟨x, H1, I1, q1, w1⟩ => test_link (thn (hb.run pins s1 σ H1 _ I1 w1) fun u s2 ⟨y, H2, I2, q2, w2⟩ =>
    thn (h1 pins s2 σ H2 x y v u _ I2 q1 q2 w2) fun e s3 ⟨z, H3, I3, q3, k, e3, w3⟩ => ?_)) hm
  subst e3
  cases q3
  refine wpAny_truthy_bool ?_
  cases k with
  | false => exact ite_ff ⟨H3, I3, w3⟩
  | true =>
    refine ite_tt (test_link (thn (hc.run pins s3 σ H3 _ I3 w3) fun u4 s4 ⟨w', H4, I4, q4, w4⟩ =>
      thn (h2 pins s4 σ H4 y w' u u4 _ I4 q2 q4 w4) fun e5 s5 ⟨z2, H5, I5, q5, k2, e6, w5⟩ => ?_))
    subst e6
    cases q5
    refine wpAny_truthy_bool ?_
    cases k2 with
    | false => exact ite_ff ⟨H5, I5, w5⟩
    | true =>
      refine ite_tt (test_last (thn (hd.run pins s5 σ H5 _ I5 w5) fun u6 s6 ⟨w6, H6, I6, q6, w6'⟩ => thn (h3 pins s6 σ H6 w' w6 u4 u6 _ I6 q4 q6 w6') fun e7 s7 ⟨z3, H7, I7, q7, k3, e8, w7⟩ => ?_))
      subst e8
      cases q7
      exact wpAny_truthy_bool ⟨H7, I7, w7⟩
end
/-! ### a def as it is known, by its name -/
section
variable (P : Program) (w : World) (K : PySem.W.Frag) (mg : Str → Option Value) (base : Heap)
structure Kept (CX : CXT) (k : Nat) (x : Str) (ps : List Str) (sp : Sp) : Prop where
  fn : ∃ fd, FnOk P w K mg base CX k (He.ga K x) fd ps sp ∧ Binds K fd ps []
  g : mg x = some (.ref (He.ga K x))
  kp : PySem.W.keepIn K (.ref (He.ga K x)) = true
structure KeptM (CX : CXT) (k : Nat) (c m : Str) (ps : List Str) (sp : Sp) : Prop where
  fn : ∃ fd, FnOk P w K mg base CX k (He.ma K (He.ga K c) m) fd ps sp ∧ Binds K fd ps []
  kp : PySem.W.keepIn K (.ref (He.ma K (He.ga K c) m)) = true
end
section
variable {P : Program} {w : World} {K : PySem.W.Frag} {mg : Str → Option Value} {base : Heap}
theorem Kept.mk' {CX : CXT} {k : Nat} {x : Str} {ps : List Str} {sp : Sp} (fd : FuncData) (F : FnOk P w K mg base CX k (He.ga K x) fd ps sp) (b : Binds K fd ps []) (g : mg x = some (.ref (He.ga K x))) (kp : PySem.W.keepIn K (.ref (He.ga K x)) = true) : Kept P w K mg base CX k x ps sp := ⟨⟨fd, F, b⟩, g, kp⟩
end
section
variable {X : Cx} {k j : Nat} {x c m : Str} {ps : List Str} {sp : Sp} {p pos apos : Pos} {e o : Expr} {es : List Expr} {ta : TE} {t : TA}
theorem pe_d (D : Kept X.prog X.w X.K X.mg X.base CX0 k x ps sp) (hr : Room k X.A) (hg : Gl X x) (ha : PA X (e :: es) t) (hdb : (x == ("__debug__" : Str)) = false := by decide)
    (he : starEach (e :: es) X.env = (false, eval e X.env) :: starEach es X.env := by rfl) (hpl : (backTo pos (starEach es X.env)).any (·.1) = false := by rfl) : PE X (.Call (.Name x p) (e :: es) [] pos) (tCall sp [] E0 t) := by
  obtain ⟨fd, F, b⟩ := D.fn
  exact pe_call F hr hg D.g D.kp b .nil pass0 ha hdb he hpl
theorem pe_d0 (D : Kept X.prog X.w X.K X.mg X.base CX0 k x ps sp) (hr : Room k X.A) (hg : Gl X x) (hdb : (x == ("__debug__" : Str)) = false := by decide) : PE X (.Call (.Name x p) [] [] pos) (tCall sp [] E0 tNil) := by
  obtain ⟨fd, F, b⟩ := D.fn
  exact pe_call0 F hr hg D.g D.kp b .nil pass0 hdb
theorem pe_mk (M : Mk X.K (He.ga X.K c) (He.ma X.K (He.ga X.K c) "__init__")) (D : KeptM X.prog X.w X.K X.mg X.base CX0 k c "__init__" ps sp) (hr : Room (k + 1) X.A) (hg : Gl X c) (g : X.mg c = some (.ref (He.ga X.K c))) (ha : PA X (e :: es) t)
    (hdb : (c == ("__debug__" : Str)) = false := by decide) (he : starEach (e :: es) X.env = (false, eval e X.env) :: starEach es X.env := by rfl) (hpl : (backTo pos (starEach es X.env)).any (·.1) = false := by rfl) : PE X (.Call (.Name c p) (e :: es) [] pos) (tMake (He.ga X.K c) sp [] E0 t) := by
  obtain ⟨fd, F, b⟩ := D.fn
  exact pe_make M F hr hg g b .nil pass0 ha hdb he hpl
theorem pe_mt {pl : Sem Bool} (ho : PE X o ta) (cl : Cls X.K (He.ga X.K c)) (hm : Meth X.K (He.ga X.K c) m (He.ma X.K (He.ga X.K c) m)) (D : KeptM X.prog X.w X.K X.mg X.base CX0 k c m ps sp) (hr : Room k X.A) (ha : PA X (e :: es) t)
    (hst : starEach (e :: es) X.env = (false, eval e X.env) :: starEach es X.env := by rfl) (hpl : (backTo pos (starEach es X.env)).any (·.1) = false := by rfl)
    (ht : eval (.Call (.Attribute o m apos) (e :: es) [] pos) X.env = (do
      let ov ← eval o X.env
      standAt apos.atName
      let (f, first) ← holding [ov] (getMethod ov m pl)
      callWith pos f first (backTo pos (starEach (e :: es) X.env)) (backToKw pos (keywordEach [] X.env))) := by rfl) :
    PE X (.Call (.Attribute o m apos) (e :: es) [] pos) (tMeth (He.ga X.K c) m sp [] E0 ta t) := by
  obtain ⟨fd, F, b⟩ := D.fn
  exact pe_meth ho cl hm F hr b .nil pass0 ha hst hpl ht
end
/-! ### rules that speak of K, K told -/
section
variable {X : Cx} {K : PySem.W.Frag} {tg : Expr}
theorem ix_listK (h : X.K = K) : IxR X (rIxL K) := by subst h; exact ix_list
theorem ix_tupK (h : X.K = K) : IxR X (rIxT K) := by subst h; exact ix_tup
theorem sl_listK (h : X.K = K) : SlR X (rSlL K) := by subst h; exact sl_list
theorem call_len_seqK (h : X.K = K) : CallR X (.builtin "len") (fun xs H Q => ∃ p ys, xs = [.ref p] ∧ (SqL K H p ys ∨ SqT K H p ys) ∧ Q (.int ys.length) H) := by subst h; exact call_len_seq
theorem call_list_ofK (h : X.K = K) : CallR X (.type "list") (fun xs H Q => ∃ p ys, xs = [.ref p] ∧ (SqL K H p ys ∨ SqT K H p ys) ∧ ∀ l, H l = none → Q (.ref l) (upd H l (.lst ys))) := by subst h; exact call_list_of
theorem call_isiK' (h : X.K = K) : CallR X (.builtin "isinstance") (rIsi K) := by subst h; exact call_isi
theorem op_eqDK (h : X.K = K) (hu : X.A.units + 64 < cLine) : OpR X (compareOp .Eq) (rEqD K) := by subst h; exact op_eqD hu
theorem pe_fldK {e : Expr} {f : Str} {ta : TE} {pos : Pos} (h : X.K = K) (he : PE X e ta) (hb : attributeBase e f X.env (eval e X.env) = eval e X.env) : PE X (.Attribute e f pos) (tFld K ta f) := by subst h; exact pe_fld he hb
theorem pi_listK {l : Expr} {tl : TE} (h : X.K = K) (hl : PE X l tl) : PI X tg l (iList K tl) := by subst h; exact pi_list hl
end
/-! ### promises: a value, a new list -/
abbrev VF := List V → Hp → V → Prop
abbrev LF := List V → Hp → List V → Prop
def Pv (F : VF) : Sp := fun vs H Q _ => ∃ z, F vs H z ∧ RetV z H Q
def Pl (F : LF) : Sp := fun vs H Q _ => ∃ xs, F vs H xs ∧ RetL xs H Q
def MonoV (F : VF) : Prop := ∀ vs H H1 z, Ex H H1 → F vs H z → F vs H1 z
def MonoL (F : LF) : Prop := ∀ vs H H1 z, Ex H H1 → F vs H z → F vs H1 z
section
variable {K : PySem.W.Frag} {σ : L2.St} {H H' : Hp} {ta tb tc td te tx : TE} {t u : TT} {x y z v : V} {r r' r2 r3 : R2} {vs : List V} {ar : TA}
theorem ev_callV {F : VF} (m : MonoV F) (h : EvA ar σ H vs) (f : F vs H z) : Ev (tCall (Pv F) [] E0 ar) σ H z :=
  ev_call h fun H1 e Q q E => ⟨z, by rw [List.append_nil]; exact m _ _ _ _ e f, fun H2 e2 => q H2 e2⟩
theorem el_callL {F : LF} {xs : List V} (m : MonoL F) (h : EvA ar σ H vs) (f : F vs H xs) : EvL (tCall (Pl F) [] E0 ar) σ H xs :=
  el_call h fun H1 e Q q E => ⟨xs, by rw [List.append_nil]; exact m _ _ _ _ e f, fun p H2 hp e2 h2 => q p H2 hp e2 h2⟩
/-! ### comparisons in a chain -/
theorem ev_ch {p q : Bool} (ha : Ev ta σ H x) (hb : Ev tb σ H y) (hr : RV r x y H (.bl p)) (hc : p = true → Ev tc σ H z) (hr2 : p = true → RV r' y z H (.bl q)) : Ev (tChain r r' ta tb tc) σ H (.bl (p && q)) := fun H1 e Q k =>
  ha H1 e _ fun H2 e2 => hb H2 (e.trans e2) _ fun H3 e3 => hr H3 ((e.trans e2).trans e3) _ fun H4 e4 => ⟨p, rfl, by
    cases p with
    | true =>
      show tc σ H4 _
      exact hc rfl H4 (((e.trans e2).trans e3).trans e4) _ fun H5 e5 => hr2 rfl H5 ((((e.trans e2).trans e3).trans e4).trans e5) Q fun H6 e6 => k H6 ((((e2.trans e3).trans e4).trans e5).trans e6)
    | false =>
      show Q (.bl false) H4
      exact k H4 ((e2.trans e3).trans e4)⟩
theorem et_ch {p q : Bool} (ha : Ev ta σ H x) (hb : Ev tb σ H y) (hr : RV r x y H (.bl p)) (hc : p = true → Ev tc σ H z) (hr2 : p = true → RV r' y z H (.bl q)) : EvT (tTest (tChain r r' ta tb tc)) σ H (p && q) := et_test (ev_ch ha hb hr hc hr2)
theorem et_ch3 {w : V} {p q s : Bool} (ha : Ev ta σ H x) (hb : Ev tb σ H y) (hr : RV r x y H (.bl p)) (hc : p = true → Ev tc σ H z) (hr2 : p = true → RV r' y z H (.bl q)) (hd : p = true → q = true → Ev td σ H w) (hr3 : p = true → q = true → RV r3 z w H (.bl s)) :
    EvT (tChain3 r r' r3 ta tb tc td) σ H (p && (q && s)) := fun H1 e Q k =>
  ha H1 e _ fun H2 e2 => hb H2 (e.trans e2) _ fun H3 e3 => hr H3 ((e.trans e2).trans e3) _ fun H4 e4 => ⟨p, rfl, by
    cases p with
    | false =>
      show Q false H4
      exact k H4 ((e2.trans e3).trans e4)
    | true =>
      show tc σ H4 _
      refine hc rfl H4 (((e.trans e2).trans e3).trans e4) _ fun H5 e5 => hr2 rfl H5 ((((e.trans e2).trans e3).trans e4).trans e5) _ fun H6 e6 => ⟨q, rfl, ?_⟩
      cases q with
      | false =>
        show Q false H6
        exact k H6 ((((e2.trans e3).trans e4).trans e5).trans e6)
      | true =>
        show td σ H6 _
        exact hd rfl rfl H6 (((((e.trans e2).trans e3).trans e4).trans e5).trans e6) _ fun H7 e7 => hr3 rfl rfl H7 ((((((e.trans e2).trans e3).trans e4).trans e5).trans e6).trans e7) _ fun H8 e8 => ⟨s, rfl, k H8 ((((((e2.trans e3).trans e4).trans e5).trans e6).trans e7).trans e8)⟩⟩
/-! ### fields, methods -/
theorem ev_fld {a C dx : Addr} {fs : List (Str × V)} {f : Str} (h : Ev ta σ H (.ref a)) (ho : H a = some (.ins C dx fs)) (c : Cls K C) (n : NoAttr K C f) (l : fs.lookup f = some v) : Ev (tFld K ta f) σ H v := fun H1 e Q q =>
  h H1 e _ fun H2 e2 => ⟨a, C, dx, fs, v, rfl, (e.trans e2) a _ ho, c, n, l, q H2 e2⟩
theorem ev_meth {a C dx : Addr} {fs : List (Str × V)} {m : Str} {sp : Sp} (h : Ev ta σ H (.ref a)) (ho : H a = some (.ins C dx fs)) (l : fs.lookup m = none) (hv : EvA ar σ H vs) (hs : SpV sp (.ref a :: vs) H z) : Ev (tMeth C m sp [] E0 ta ar) σ H z := fun H1 e Q q =>
  h H1 e _ fun H2 e2 => ⟨a, dx, fs, rfl, (e.trans e2) a _ ho, l, hv H2 (e.trans e2) _ fun H3 e3 => by
    rw [List.append_nil]
    exact hs H3 ((e.trans e2).trans e3) Q (fun H4 e4 => q H4 ((e2.trans e3).trans e4)) E0⟩
theorem ev_methV {a C dx : Addr} {fs : List (Str × V)} {m : Str} {F : VF} (mo : MonoV F) (h : Ev ta σ H (.ref a)) (ho : H a = some (.ins C dx fs)) (l : fs.lookup m = none) (hv : EvA ar σ H vs) (f : F (.ref a :: vs) H z) : Ev (tMeth C m (Pv F) [] E0 ta ar) σ H z :=
  ev_meth h ho l hv fun H1 e Q q E => ⟨z, mo _ _ _ _ e f, fun H2 e2 => q H2 e2⟩
/-! ### built-in calls -/
theorem ex_q {a : Addr} {xs : List V} (e : Ex H H') (h : SqL K H a xs ∨ SqT K H a xs) : SqL K H' a xs ∨ SqT K H' a xs := h.elim (fun h => .inl (ex_l e h)) fun h => .inr (ex_t e h)
theorem ev_ln {p : Addr} {xs : List V} (ha : Ev ta σ H (.ref p)) (h : SqL K H p xs ∨ SqT K H p xs) : Ev (tCB (fun xs H Q => ∃ p ys, xs = [.ref p] ∧ (SqL K H p ys ∨ SqT K H p ys) ∧ Q (.int ys.length) H) (tCons ta tNil)) σ H (.int (xs.length : Int)) := fun H1 e Q q =>
  ha H1 e _ fun H2 e2 => ⟨p, xs, rfl, ex_q (e.trans e2) h, q H2 e2⟩
theorem el_ls {p : Addr} {xs : List V} (ha : Ev ta σ H (.ref p)) (h : SqL K H p xs ∨ SqT K H p xs) : EvL (tCB (fun xs H Q => ∃ p ys, xs = [.ref p] ∧ (SqL K H p ys ∨ SqT K H p ys) ∧ ∀ l, H l = none → Q (.ref l) (upd H l (.lst ys))) (tCons ta tNil)) σ H xs := fun H1 e Q q =>
  ha H1 e _ fun H2 e2 => ⟨p, xs, rfl, ex_q (e.trans e2) h, fun l hl => q l _ (fresh_back e2 hl) (e2.trans (Ex.new hl)) upd_same⟩
theorem ev_sum {p : Addr} {ns : List Int} (ha : Ev ta σ H (.ref p)) (h : SqL K H p (ns.map V.int)) : Ev (tCB (rSum K) (tCons ta tNil)) σ H (.int ns.sum) := fun H1 e Q q =>
  ha H1 e _ fun H2 e2 => ⟨p, ns, rfl, ex_l (e.trans e2) h, q H2 e2⟩
theorem ev_sumN {ns : List Int} (ha : EvL ta σ H (ns.map V.int)) : Ev (tCB (rSum K) (tCons ta tNil)) σ H (.int ns.sum) := fun H1 e Q q =>
  ha H1 e _ fun p H2 _ e2 h2 => ⟨p, ns, rfl, sq_of h2, q H2 e2⟩
theorem ev_allN {bs : List Bool} (ha : EvL ta σ H (bs.map V.bl)) : Ev (tCB (rAll K) (tCons ta tNil)) σ H (.bl (bs.all id)) := fun H1 e Q q =>
  ha H1 e _ fun p H2 _ e2 h2 => ⟨p, bs, rfl, sq_of h2, q H2 e2⟩
theorem ev_anyN {bs : List Bool} (ha : EvL ta σ H (bs.map V.bl)) : Ev (tCB (rAny K) (tCons ta tNil)) σ H (.bl (bs.any id)) := fun H1 e Q q =>
  ha H1 e _ fun p H2 _ e2 h2 => ⟨p, bs, rfl, sq_of h2, q H2 e2⟩
/-- the greatest, the least of a list -/
def mxL : List Int → Int
  | [] => 0
  | [a] => a
  | a :: r => max a (mxL r)
def mnL : List Int → Int
  | [] => 0
  | [a] => a
  | a :: r => min a (mnL r)
theorem mxL_cons (a b : Int) (r : List Int) : mxL (a :: b :: r) = max a (mxL (b :: r)) := rfl
theorem mnL_cons (a b : Int) (r : List Int) : mnL (a :: b :: r) = min a (mnL (b :: r)) := rfl
theorem mxL_ge : ∀ {ns : List Int} {y : Int}, y ∈ ns → y ≤ mxL ns
  | [a], y, h => by
    have e := List.mem_singleton.mp h
    subst e
    exact Int.le_refl _
  | a :: b :: r, y, h => by
    rw [mxL_cons]
    rcases List.mem_cons.mp h with e | h
    · subst e
      omega
    · have := mxL_ge (ns := b :: r) h
      omega
theorem mxL_mem : ∀ {ns : List Int}, 0 < ns.length → mxL ns ∈ ns
  | [a], _ => List.mem_singleton.mpr rfl
  | a :: b :: r, _ => by
    rw [mxL_cons]
    have h := mxL_mem (ns := b :: r) (by simp)
    by_cases c : a ≤ mxL (b :: r)
    · rw [show max a (mxL (b :: r)) = mxL (b :: r) by omega]
      exact List.mem_cons_of_mem _ h
    · rw [show max a (mxL (b :: r)) = a by omega]
      exact List.mem_cons_self
theorem mxL_eq {ns : List Int} {m : Int} (h : m ∈ ns) (hm : ∀ y, y ∈ ns → y ≤ m) : m = mxL ns := by
  have h0 : 0 < ns.length := List.length_pos_of_mem h
  have h1 := hm _ (mxL_mem h0)
  have h2 := mxL_ge h
  omega
theorem mnL_le : ∀ {ns : List Int} {y : Int}, y ∈ ns → mnL ns ≤ y
  | [a], y, h => by
    have e := List.mem_singleton.mp h
    subst e
    exact Int.le_refl _
  | a :: b :: r, y, h => by
    rw [mnL_cons]
    rcases List.mem_cons.mp h with e | h
    · subst e
      omega
    · have := mnL_le (ns := b :: r) h
      omega
theorem mnL_mem : ∀ {ns : List Int}, 0 < ns.length → mnL ns ∈ ns
  | [a], _ => List.mem_singleton.mpr rfl
  | a :: b :: r, _ => by
    rw [mnL_cons]
    have h := mnL_mem (ns := b :: r) (by simp)
    by_cases c : mnL (b :: r) ≤ a
    · rw [show min a (mnL (b :: r)) = mnL (b :: r) by omega]
      exact List.mem_cons_of_mem _ h
    · rw [show min a (mnL (b :: r)) = a by omega]
      exact List.mem_cons_self
theorem mnL_eq {ns : List Int} {m : Int} (h : m ∈ ns) (hm : ∀ y, y ∈ ns → m ≤ y) : m = mnL ns := by
  have h0 : 0 < ns.length := List.length_pos_of_mem h
  have h1 := hm _ (mnL_mem h0)
  have h2 := mnL_le h
  omega
theorem ev_max {p : Addr} {ns : List Int} (ha : Ev ta σ H (.ref p)) (h : SqL K H p (ns.map V.int)) (h0 : 0 < ns.length) : Ev (tCB (rMax K) (tCons ta tNil)) σ H (.int (mxL ns)) := fun H1 e Q q =>
  ha H1 e _ fun H2 e2 => ⟨p, ns, rfl, ex_l (e.trans e2) h, h0, fun m hm hy => by rw [mxL_eq hm hy]; exact q H2 e2⟩
theorem ev_maxN {ns : List Int} (ha : EvL ta σ H (ns.map V.int)) (h0 : 0 < ns.length) : Ev (tCB (rMax K) (tCons ta tNil)) σ H (.int (mxL ns)) := fun H1 e Q q =>
  ha H1 e _ fun p H2 _ e2 h2 => ⟨p, ns, rfl, sq_of h2, h0, fun m hm hy => by rw [mxL_eq hm hy]; exact q H2 e2⟩
theorem ev_min {p : Addr} {ns : List Int} (ha : Ev ta σ H (.ref p)) (h : SqL K H p (ns.map V.int)) (h0 : 0 < ns.length) : Ev (tCB (rMin K) (tCons ta tNil)) σ H (.int (mnL ns)) := fun H1 e Q q =>
  ha H1 e _ fun H2 e2 => ⟨p, ns, rfl, ex_l (e.trans e2) h, h0, fun m hm hy => by rw [mnL_eq hm hy]; exact q H2 e2⟩
theorem ev_minN {ns : List Int} (ha : EvL ta σ H (ns.map V.int)) (h0 : 0 < ns.length) : Ev (tCB (rMin K) (tCons ta tNil)) σ H (.int (mnL ns)) := fun H1 e Q q =>
  ha H1 e _ fun p H2 _ e2 h2 => ⟨p, ns, rfl, sq_of h2, h0, fun m hm hy => by rw [mnL_eq hm hy]; exact q H2 e2⟩
theorem ev_abs {i : Int} (ha : Ev ta σ H (.int i)) : Ev (tCB (fun xs H Q => ∃ i, xs = [.int i] ∧ Q (.int (if i < 0 then -i else i)) H) (tCons ta tNil)) σ H (.int (if i < 0 then -i else i)) := fun H1 e Q q =>
  ha H1 e _ fun H2 e2 => ⟨i, rfl, q H2 e2⟩
theorem ev_mx2 {i j : Int} (ha : Ev ta σ H (.int i)) (hb : Ev tb σ H (.int j)) : Ev (tCB (fun xs H Q => ∃ i j, xs = [.int i, .int j] ∧ Q (.int (if j > i then j else i)) H) (tCons ta (tCons tb tNil))) σ H (.int (if j > i then j else i)) := fun H1 e Q q =>
  ha H1 e _ fun H2 e2 => hb H2 (e.trans e2) _ fun H3 e3 => ⟨i, j, rfl, q H3 (e2.trans e3)⟩
/-! ### isinstance -/
theorem tyx_ex {w : Value} (e : Ex H H') (h : TyX K H x w) : TyX K H' x w := by
  cases h with
  | base b =>
    refine .base ?_
    cases b with
    | non => exact .non
    | bl y => exact .bl y
    | int i => exact .int i
    | str y => exact .str y
    | flt y => exact .flt y
    | lst ea => exact .lst (e _ _ ea)
    | frz ea => exact .frz (e _ _ ea)
    | tup ea => exact .tup (e _ _ ea)
    | dK ea => exact .dK (e _ _ ea)
    | dT ea => exact .dT (e _ _ ea)
    | ins ea cl h1 h2 h3 h4 => exact .ins (e _ _ ea) cl h1 h2 h3 h4
  | byt y => exact .byt y
  | set ea => exact .set (e _ _ ea)
  | kList a b => exact .kList a b
  | kTuple a b => exact .kTuple a b
  | kDict a b => exact .kDict a b
  | fTuple ea => exact .fTuple (e _ _ ea)
  | fDict ea => exact .fDict (e _ _ ea)
theorem ev_isi {c : V} {w cu : Value} {b : Bool} (ha : Ev ta σ H x) (hb : Ev tb σ H c) (hc : ClsV c cu) (ht : TyX K H x w) (hk : PySem.W.kitOne K w cu = some b) : Ev (tCB (rIsi K) (tCons ta (tCons tb tNil))) σ H (.bl b) := fun H1 e Q q =>
  ha H1 e _ fun H2 e2 => hb H2 (e.trans e2) _ fun H3 e3 => ⟨x, c, w, cu, b, rfl, hc, tyx_ex ((e.trans e2).trans e3) ht, hk, q H3 (e2.trans e3)⟩
/-- a built-in class -/
theorem ev_isT {n m : String} {b : Bool} (ha : Ev ta σ H x) (ht : TyX K H x (.type n)) (hk : kitB n m = some b) : Ev (tCB (rIsi K) (tCons ta (tCons (tC (.ty m)) tNil))) σ H (.bl b) := ev_isi ha ev_c (.ty m) ht (kit_ty hk)
theorem tx_lst {a : Addr} {xs : List V} (h : H a = some (.lst xs)) : TyX K H (.ref a) (.type "list") := .base (.lst h)
theorem tx_tup {a : Addr} {xs : List V} (h : H a = some (.tup xs)) : TyX K H (.ref a) (.type "tuple") := .base (.tup h)
theorem tx_int {i : Int} : TyX K H (.int i) (.type "int") := .base (.int i)
theorem tx_bl {b : Bool} : TyX K H (.bl b) (.type "bool") := .base (.bl b)
/-! ### comprehensions over whole lists -/
theorem given_all {n : Nat} {v : Nat → V} : given n (fun _ => true) v = (List.range n).map v := by
  unfold given
  rw [List.filter_eq_self.mpr fun _ _ => rfl]
theorem range_map_get {α β : Type} (xs : List α) (d : α) (g : α → β) : (List.range xs.length).map (fun i => g (xs.getD i d)) = xs.map g := by
  apply List.ext_getElem?
  intro i
  rw [List.getElem?_map, List.getElem?_map]
  by_cases h : i < xs.length
  · rw [List.getElem?_range h, List.getElem?_eq_getElem h]
    simp [List.getD, h]
  · rw [List.getElem?_eq_none (by simpa using h), List.getElem?_eq_none (by simpa using h)]
    rfl
theorem et_yes : EvT tYes σ H true := fun H1 _ _ q => q H1 (Ex.refl H1)
theorem el_map {a : Addr} {xs : List V} {tl : TE} {j : Nat} {ws : List Nat} (g : V → V) (h : Ev tl σ H (.ref a)) (hx : SqL K H a xs) (hz : xs.length ≤ 40000) (hw : ∀ x, wipe ((wipe σ ws).set j (some x)) ws = wipe σ ws)
    (he : ∀ (x : V) H1, Ex H H1 → x ∈ xs → Ev te ((wipe σ ws).set j (some x)) H1 (g x)) : EvL (tLc (iList K tl) (gName j) tYes te ws) σ H (xs.map g) := by
  have q := el_lcL (te := te) (t := tYes) (j := j) (vs := ws) (fun _ => true) (fun i => g (xs.getD i .non)) h hx hz hw (fun i x H1 e hi => et_yes) (fun i x H1 e hi _ => by
    have e2 : xs.getD i .non = x := by simp [List.getD, hi]
    rw [e2]
    exact he x H1 e (List.mem_of_getElem? hi))
  rw [given_all, range_map_get] at q
  exact q
theorem el_mapI {a : Addr} {ns : List Int} {tl : TE} {j : Nat} {ws : List Nat} (g : Int → V) (h : Ev tl σ H (.ref a)) (hx : SqL K H a (ns.map V.int)) (hz : ns.length ≤ 40000) (hw : ∀ x, wipe ((wipe σ ws).set j (some x)) ws = wipe σ ws)
    (he : ∀ (n : Int) H1, Ex H H1 → n ∈ ns → Ev te ((wipe σ ws).set j (some (.int n))) H1 (g n)) : EvL (tLc (iList K tl) (gName j) tYes te ws) σ H (ns.map g) := by
  have q := el_lcL (te := te) (t := tYes) (j := j) (vs := ws) (fun _ => true) (fun i => g (ns.getD i 0)) h hx (by rw [List.length_map]; exact hz) hw (fun i x H1 e hi => et_yes) (fun i x H1 e hi _ => by
    rw [List.getElem?_map] at hi
    cases hn : ns[i]? with
    | none => rw [hn] at hi; cases hi
    | some n =>
      rw [hn] at hi
      have e2 : x = .int n := (Option.some.inj hi).symm
      subst e2
      have e3 : ns.getD i 0 = n := by simp [List.getD, hn]
      rw [e3]
      exact he n H1 e (List.mem_of_getElem? hn))
  rw [given_all, List.length_map, range_map_get] at q
  exact q
theorem el_mapIB {a : Addr} {ns : List Int} {tl : TE} {j : Nat} {ws : List Nat} (g : Int → Bool) (h : Ev tl σ H (.ref a)) (hx : SqL K H a (ns.map V.int)) (hz : ns.length ≤ 40000) (hw : ∀ x, wipe ((wipe σ ws).set j (some x)) ws = wipe σ ws)
    (he : ∀ (n : Int) H1, Ex H H1 → n ∈ ns → Ev te ((wipe σ ws).set j (some (.int n))) H1 (.bl (g n))) : EvL (tLc (iList K tl) (gName j) tYes te ws) σ H ((ns.map g).map V.bl) := by
  have q := el_mapI (K := K) (fun n => V.bl (g n)) h hx hz hw he
  rw [List.map_map]
  exact q
theorem el_mapII {a : Addr} {ns : List Int} {tl : TE} {j : Nat} {ws : List Nat} (g : Int → Int) (h : Ev tl σ H (.ref a)) (hx : SqL K H a (ns.map V.int)) (hz : ns.length ≤ 40000) (hw : ∀ x, wipe ((wipe σ ws).set j (some x)) ws = wipe σ ws)
    (he : ∀ (n : Int) H1, Ex H H1 → n ∈ ns → Ev te ((wipe σ ws).set j (some (.int n))) H1 (.int (g n))) : EvL (tLc (iList K tl) (gName j) tYes te ws) σ H ((ns.map g).map V.int) := by
  have q := el_mapI (K := K) (fun n => V.int (g n)) h hx hz hw he
  rw [List.map_map]
  exact q
theorem el_mapB {a : Addr} {xs : List V} {tl : TE} {j : Nat} {ws : List Nat} (g : V → Bool) (h : Ev tl σ H (.ref a)) (hx : SqL K H a xs) (hz : xs.length ≤ 40000) (hw : ∀ x, wipe ((wipe σ ws).set j (some x)) ws = wipe σ ws)
    (he : ∀ (x : V) H1, Ex H H1 → x ∈ xs → Ev te ((wipe σ ws).set j (some x)) H1 (.bl (g x))) : EvL (tLc (iList K tl) (gName j) tYes te ws) σ H ((xs.map g).map V.bl) := by
  have q := el_map (K := K) (fun n => V.bl (g n)) h hx hz hw he
  rw [List.map_map]
  exact q
theorem el_mapR {ar : TA} {j : Nat} {ws : List Nat} {n : Nat} (g : Nat → V) (h : EvA ar σ H [.int (n : Int)]) (hn : n ≤ 40000) (hw : ∀ x, wipe ((wipe σ ws).set j (some x)) ws = wipe σ ws)
    (he : ∀ (i : Nat) H1, Ex H H1 → i < n → Ev te ((wipe σ ws).set j (some (.int (i : Int)))) H1 (g i)) : EvL (tLc (iRng1 ar) (gName j) tYes te ws) σ H ((List.range n).map g) := by
  have q := el_lcR1 (te := te) (t := tYes) (j := j) (vs := ws) (fun _ => true) g h (by omega) hw (fun i H1 e hi => et_yes) (fun i H1 e hi _ => he i H1 e (by omega))
  rw [given_all, Int.toNat_natCast] at q
  exact q
theorem el_mapRI {ar : TA} {j : Nat} {ws : List Nat} {n : Nat} (g : Nat → Int) (h : EvA ar σ H [.int (n : Int)]) (hn : n ≤ 40000) (hw : ∀ x, wipe ((wipe σ ws).set j (some x)) ws = wipe σ ws)
    (he : ∀ (i : Nat) H1, Ex H H1 → i < n → Ev te ((wipe σ ws).set j (some (.int (i : Int)))) H1 (.int (g i))) : EvL (tLc (iRng1 ar) (gName j) tYes te ws) σ H (((List.range n).map g).map V.int) := by
  have q := el_mapR (fun n => V.int (g n)) h hn hw he
  rw [List.map_map]
  exact q
theorem el_mapRB {ar : TA} {j : Nat} {ws : List Nat} {n : Nat} (g : Nat → Bool) (h : EvA ar σ H [.int (n : Int)]) (hn : n ≤ 40000) (hw : ∀ x, wipe ((wipe σ ws).set j (some x)) ws = wipe σ ws)
    (he : ∀ (i : Nat) H1, Ex H H1 → i < n → Ev te ((wipe σ ws).set j (some (.int (i : Int)))) H1 (.bl (g i))) : EvL (tLc (iRng1 ar) (gName j) tYes te ws) σ H (((List.range n).map g).map V.bl) := by
  have q := el_mapR (fun n => V.bl (g n)) h hn hw he
  rw [List.map_map]
  exact q
theorem el_is {xs ys : List V} (h : EvL te σ H xs) (e : xs = ys) : EvL te σ H ys := by
  rw [← e]
  exact h
/-! ### two lists joined -/
theorem el_cat {xs ys : List V} (ha : EvL ta σ H xs) (hb : EvL tb σ H ys) (hl : xs.length + ys.length ≤ 100000) : EvL (tOp rCat ta tb) σ H (xs ++ ys) := fun H1 e Q q =>
  ha H1 e _ fun p H2 hp e2 h2 => hb H2 (e.trans e2) _ fun p' H3 hp' e3 h3 => ⟨p, p', xs, ys, rfl, rfl, e3 _ _ h2, h3, sz_of hl, fun r hr => q r _ (fresh_back (e2.trans e3) hr) ((e2.trans e3).trans (Ex.new hr)) upd_same⟩
theorem el_cat1 {p : Addr} {xs ys : List V} (ha : Ev ta σ H (.ref p)) (hx : H p = some (.lst xs)) (hb : EvL tb σ H ys) (hl : xs.length + ys.length ≤ 100000) : EvL (tOp rCat ta tb) σ H (xs ++ ys) := fun H1 e Q q =>
  ha H1 e _ fun H2 e2 => hb H2 (e.trans e2) _ fun p' H3 hp' e3 h3 => ⟨p, p', xs, ys, rfl, rfl, ((e.trans e2).trans e3) _ _ hx, h3, sz_of hl, fun r hr => q r _ (fresh_back (e2.trans e3) hr) ((e2.trans e3).trans (Ex.new hr)) upd_same⟩
theorem el_cat2 {p : Addr} {xs ys : List V} (ha : EvL ta σ H xs) (hb : Ev tb σ H (.ref p)) (hx : H p = some (.lst ys)) (hl : xs.length + ys.length ≤ 100000) : EvL (tOp rCat ta tb) σ H (xs ++ ys) := fun H1 e Q q =>
  ha H1 e _ fun p' H2 hp' e2 h2 => hb H2 (e.trans e2) _ fun H3 e3 => ⟨p', p, xs, ys, rfl, rfl, e3 _ _ h2, ((e.trans e2).trans e3) _ _ hx, sz_of hl, fun r hr => q r _ (fresh_back (e2.trans e3) hr) ((e2.trans e3).trans (Ex.new hr)) upd_same⟩
theorem el_cat3 {p p' : Addr} {xs ys : List V} (ha : Ev ta σ H (.ref p)) (hx : H p = some (.lst xs)) (hb : Ev tb σ H (.ref p')) (hy : H p' = some (.lst ys)) (hl : xs.length + ys.length ≤ 100000) : EvL (tOp rCat ta tb) σ H (xs ++ ys) := fun H1 e Q q =>
  ha H1 e _ fun H2 e2 => hb H2 (e.trans e2) _ fun H3 e3 => ⟨p, p', xs, ys, rfl, rfl, ((e.trans e2).trans e3) _ _ hx, ((e.trans e2).trans e3) _ _ hy, sz_of hl, fun r hr => q r _ (fresh_back (e2.trans e3) hr) ((e2.trans e3).trans (Ex.new hr)) upd_same⟩
/-! ### an item of a list of whole numbers -/
theorem at_int {ns : List Int} {i : Nat} {n : Int} (h : ns[i]? = some n) : atI (ns.map V.int) (i : Int) = some (.int n) := atI_nat (by rw [List.getElem?_map, h]; rfl)
theorem ev_ixI {a : Addr} {ns : List Int} {i : Int} {n : Int} (ha : Ev ta σ H (.ref a)) (hl : SqL K H a (ns.map V.int)) (hb : Ev tb σ H (.int i)) (h0 : 0 ≤ i) (h : ns[i.toNat]? = some n) : Ev (tOp (rIxL K) ta tb) σ H (.int n) :=
  ev_op ha hb (rv_ixL hl (by rw [show i = ((i.toNat : Nat) : Int) by omega]; exact at_int h))
theorem ev_ixN {a : Addr} {xs : List V} {i : Int} (ha : Ev ta σ H (.ref a)) (hl : SqL K H a xs) (hb : Ev tb σ H (.int i)) (h0 : 0 ≤ i) (h : xs[i.toNat]? = some v) : Ev (tOp (rIxL K) ta tb) σ H v :=
  ev_op ha hb (rv_ixL hl (by rw [show i = ((i.toNat : Nat) : Int) by omega]; exact atI_nat h))
theorem ev_ixLast {a : Addr} {xs : List V} (ha : Ev ta σ H (.ref a)) (hl : SqL K H a (xs ++ [v])) : Ev (tOp (rIxL K) ta (tUn (rU fun i => .int (-i)) (tC (.int 1)))) σ H v := ev_op ha (ev_un ev_c ru_neg) (rv_ixL hl (atI_last xs v))
theorem int_at {ns : List Int} {i : Nat} (h : (ns.map V.int)[i]? = some x) : ∃ n, x = .int n ∧ ns[i]? = some n := by
  rw [List.getElem?_map] at h
  cases hn : ns[i]? with
  | none => rw [hn] at h; cases h
  | some n => rw [hn] at h; exact ⟨n, (Option.some.inj h).symm, rfl⟩
theorem take_snoc {α : Type} {l : List α} {i : Nat} {a : α} (h : l[i]? = some a) : l.take (i + 1) = l.take i ++ [a] := by
  rw [List.take_add_one, h]
  rfl
theorem drop_at {α : Type} {l : List α} {i : Nat} {a : α} (h : l[i]? = some a) : l.drop i = a :: l.drop (i + 1) := by
  obtain ⟨h1, h2⟩ := List.getElem?_eq_some_iff.mp h
  rw [List.drop_eq_getElem_cons h1, h2]
/-! ### loops -/
variable {D : Ends} {tu tw tz : TS}
theorem q_forEn {ar : TA} {a : Addr} {xs : List V} {p q : Nat} (h : EvA ar σ H [.ref a]) (hx : SqL K H a xs) (Pw : Nat → L2.St → Hp → Prop) (h0 : ∀ H1, Ex H H1 → Pw 0 σ H1) (hl : ∀ i σ' H', i ≤ xs.length → Pw i σ' H' → SqL K H' a xs)
    (hs : ∀ i x σ' H', xs[i]? = some x → Pw i σ' H' → ∀ H2, Ex H' H2 → tu { D with nx := Pw (i + 1), ct := Pw (i + 1), bk := tz D } ((σ'.set p (some (.int (i : Int)))).set q (some x)) H2) (hd : ∀ σ' H', Pw xs.length σ' H' → tz D σ' H') :
    tSeq (tFor (iEnum K ar) (gTup K 2 (gCons (gName p) (gCons (gName q) gNil))) tu) tz D σ H :=
  h H (Ex.refl H) _ fun H1 e => ⟨a, xs, rfl, ex_l e hx, fun i m σ H => m = xs.length - i ∧ i ≤ xs.length ∧ Pw i σ H, ⟨xs.length, by simp, Nat.zero_le _, h0 H1 e⟩, by
    rintro i m σ H ⟨rfl, hi, pw⟩
    have hq := hl i σ H hi pw
    by_cases hlt : i < xs.length
    · refine .inr ⟨⟨xs, xs[i], hq, by simp [hlt]⟩, Pw (i + 1), fun σ' H' p' => ⟨xs.length - (i + 1), by omega, rfl, hlt, p'⟩, fun x H' y => ?_⟩
      obtain ⟨T, z, rfl, hT, rfl, y⟩ := y
      refine ⟨T, _, rfl, st_of upd_same, rfl, .int (i : Int), [z], rfl, z, [], rfl, rfl, ?_⟩
      exact hs i z σ H (y xs hq) pw _ (Ex.new hT)
    · have e : i = xs.length := by omega
      subst e
      exact .inl ⟨⟨xs, hq, Nat.le_refl _⟩, hd σ H pw⟩⟩
end
/-! ### data: lists of whole numbers, of lists -/
abbrev dI (ns : List Int) : PyData := .list (ns.map PyData.int)
abbrev dP (p : Int × Int) : PyData := .tuple [.int p.1, .int p.2]
section
variable {K : PySem.W.Frag} {H : Hp}
theorem dpa_int : ∀ ns : List Int, DpAll K H (ns.map V.int) (ns.map PyData.int)
  | [] => .nil
  | n :: r => .cons (.int n) (dpa_int r)
theorem dp_int {a : Addr} {ns : List Int} (h : SqL K H a (ns.map V.int)) : Dp K H (.ref a) (dI ns) := .lst h (dpa_int ns)
theorem lay_int : ∀ ns : List Int, PyData.canLayAll0 (ns.map PyData.int) = true
  | [] => by simp [PyData.canLayAll0]
  | n :: r => by
    rw [List.map_cons, PyData.canLayAll0, lay_int r]
    simp [PyData.canLay0]
theorem dep_int : ∀ ns : List Int, PyData.depthAll (ns.map PyData.int) ≤ 1
  | [] => by simp [PyData.depthAll]
  | n :: r => by
    rw [List.map_cons, PyData.depthAll]
    have := dep_int r
    simp [PyData.depth]
    omega
theorem sh_int (ns : List Int) : SeqAt.shaped (dI ns) = true := by
  unfold SeqAt.shaped
  rw [Bool.and_eq_true]
  refine ⟨by simp only [PyData.canLay0]; exact lay_int ns, decide_eq_true ?_⟩
  have := dep_int ns
  simp only [PyData.depth]
  omega
theorem eqvA_int : ∀ ns ms : List Int, PyData.eqvAll (ns.map PyData.int) (ms.map PyData.int) = decide (ns = ms)
  | [], [] => by simp [PyData.eqvAll]
  | [], m :: ms => by simp [PyData.eqvAll]
  | n :: ns, [] => by simp [PyData.eqvAll]
  | n :: ns, m :: ms => by
    rw [List.map_cons, List.map_cons, PyData.eqvAll, eqvA_int ns ms]
    simp only [PyData.eqv]
    by_cases h : n = m
    · subst h
      by_cases h2 : ns = ms <;> simp [h2]
    · simp [h]
theorem eqv_dI (ns ms : List Int) : PyData.eqv (dI ns) (dI ms) = decide (ns = ms) := by
  simp only [PyData.eqv]
  exact eqvA_int ns ms
/-- two lists of lists of whole numbers -/
theorem sh_ints2 (as bs : List Int) : SeqAt.shaped (.list [dI as, dI bs]) = true := by
  unfold SeqAt.shaped
  rw [Bool.and_eq_true]
  refine ⟨?_, decide_eq_true ?_⟩
  · simp only [PyData.canLay0, PyData.canLayAll0, lay_int, Bool.and_self]
  · have h1 := dep_int as
    have h2 := dep_int bs
    simp only [PyData.depth, PyData.depthAll]
    omega
theorem eqv_ints2 (as bs cs ds : List Int) : PyData.eqv (.list [dI as, dI bs]) (.list [dI cs, dI ds]) = (decide (as = cs) && decide (bs = ds)) := by
  simp only [PyData.eqv, PyData.eqvAll, eqvA_int, Bool.and_true]
theorem rv_eqI {a b : Addr} {ns ms : List Int} (h1 : SqL K H a (ns.map V.int)) (h2 : SqL K H b (ms.map V.int)) : RV (rEqD K) (.ref a) (.ref b) H (.bl (decide (ns = ms))) := fun H1 e Q q =>
  ⟨dI ns, dI ms, dp_int (ex_l e h1), dp_int (ex_l e h2), sh_int ns, sh_int ms, by rw [eqv_dI]; exact q H1 (Ex.refl H1)⟩
theorem rv_neI {a b : Addr} {ns ms : List Int} (h1 : SqL K H a (ns.map V.int)) (h2 : SqL K H b (ms.map V.int)) : RV (rNeD K) (.ref a) (.ref b) H (.bl (!decide (ns = ms))) := fun H1 e Q q =>
  ⟨dI ns, dI ms, dp_int (ex_l e h1), dp_int (ex_l e h2), sh_int ns, sh_int ms, by rw [eqv_dI]; exact q H1 (Ex.refl H1)⟩
/-- x in a list of whole numbers -/
theorem inV_int (n : Int) : ∀ ns : List Int, inV (.int n) (ns.map V.int) = decide (n ∈ ns)
  | [] => by simp [inV]
  | m :: r => by
    have ih := inV_int n r
    unfold inV at ih ⊢
    rw [List.map_cons, List.any_cons, ih]
    simp only [eqV]
    by_cases h : m = n
    · subst h
      simp
    · have h2 : ¬ n = m := fun q => h q.symm
      simp [h, h2]
theorem flat_int (ns : List Int) : (ns.map V.int).all flatV = true := by
  rw [List.all_eq_true]
  intro x hx
  obtain ⟨n, _, rfl⟩ := List.mem_map.mp hx
  rfl
theorem rv_inI {p : Addr} {n : Int} {ns : List Int} (h : SqL K H p (ns.map V.int)) : RV (rIn K false) (.int n) (.ref p) H (.bl (decide (n ∈ ns))) := by
  have q := rv_isL (x := .int n) h rfl (flat_int ns)
  rw [inV_int] at q
  exact q
theorem rv_niI {p : Addr} {n : Int} {ns : List Int} (h : SqL K H p (ns.map V.int)) : RV (rIn K true) (.int n) (.ref p) H (.bl (!decide (n ∈ ns))) := by
  have q := rv_niL (x := .int n) h rfl (flat_int ns)
  rw [inV_int] at q
  exact q
/-- the first place of a number in a list -/
theorem ev_index {σ : L2.St} {ta tb : TE} {a : Addr} {ns : List Int} {n : Int} (ha : Ev ta σ H (.ref a)) (hl : SqL K H a (ns.map V.int)) (hb : Ev tb σ H (.int n)) (hm : n ∈ ns) : Ev (tBM K "list" (rIndex K) ta (tCons tb tNil)) σ H (.int ((ns.findIdx (· == n) : Nat) : Int)) := fun H1 e Q q =>
  ha H1 e _ fun H2 e2 => ⟨.inl ⟨rfl, _, ex_l (e.trans e2) hl⟩, hb H2 (e.trans e2) _ fun H3 e3 => by
    have hlt : ns.findIdx (· == n) < ns.length := List.findIdx_lt_length_of_exists ⟨n, hm, by simp⟩
    have hat : ns[ns.findIdx (· == n)]'hlt = n := by
      have := List.findIdx_getElem (p := (· == n)) (xs := ns) (w := hlt)
      simpa using this
    refine ⟨a, _, _, ns.findIdx (· == n), .int n, rfl, rfl, ex_l ((e.trans e2).trans e3) hl, rfl, flat_int ns, by rw [List.getElem?_map, List.getElem?_eq_getElem hlt, hat]; rfl, by simp [eqV], fun m z' hmj hz => ?_, q H3 (e2.trans e3)⟩
    obtain ⟨k, rfl, hk⟩ := int_at hz
    have h1 := List.not_of_lt_findIdx (p := (· == n)) (xs := ns) hmj
    obtain ⟨h2, h3⟩ := List.getElem?_eq_some_iff.mp hk
    rw [h3] at h1
    simp only [eqV]
    simpa using h1⟩
/-- xs[-1] = e -/
theorem s_setLast {σ : L2.St} {D : Ends} {te ta : TE} {l : Addr} {xs : List V} {v w : V} (hl : H l = some (.lst (xs ++ [w]))) (h : Ev te σ H v) (ho : Ev ta σ H (.ref l)) (k : ∀ H1, Ex H H1 → D.nx σ (upd H1 l (.lst (xs ++ [v])))) :
    tAsg te (gSub ta (tUn (rU fun i => .int (-i)) (tC (.int 1))) rSetL) D σ H := h H (Ex.refl H) _ fun H1 e1 => ho H1 e1 _ fun H2 e2 => ⟨1, rfl, l, xs ++ [w], -1, xs.length, rfl, rfl, (e1.trans e2) l _ hl, by
      unfold ixN
      rw [if_neg (by omega), if_pos (by rw [List.length_append, List.length_singleton]; omega), List.length_append, List.length_singleton]
      congr 1
      omega, by
    have e0 : (xs ++ [w]).set xs.length v = xs ++ [v] := by
      rw [List.set_append_right _ _ (Nat.le_refl _), Nat.sub_self]
      rfl
    rw [e0]
    exact k H2 (e1.trans e2)⟩
end
/-! ### a reading by its parts, what is behind told -/
section
variable {σ : L2.St} {H : Hp} {D : Ends} {te : TE} {g : TG} {tz : TS} {ta tr : TA} {Q : VK} {QA : List V → Hp → Prop}
theorem r_asg (h : te σ H fun x H1 => g x σ H1 (tz D)) : tSeq (tAsg te g) tz D σ H := h
theorem r_lst (h : ta σ H fun xs H1 => xs.length ≤ sizeLine ∧ ∀ p, H1 p = none → Q (.ref p) (upd H1 p (.lst xs))) : tLst ta σ H Q := h
theorem r_tup (h : ta σ H fun xs H1 => xs.length ≤ sizeLine ∧ ∀ p, H1 p = none → Q (.ref p) (upd H1 p (.tup xs))) : tTup ta σ H Q := h
theorem r_cons (h : te σ H fun x H1 => tr σ H1 fun xs H2 => QA (x :: xs) H2) : tCons te tr σ H QA := h
theorem r_nil (h : QA [] H) : tNil σ H QA := h
theorem r_ev {v : V} (h : Ev te σ H v) (k : ∀ H1, Ex H H1 → Q v H1) : te σ H Q := h H (Ex.refl H) Q k
theorem r_el {xs : List V} (h : EvL te σ H xs) (k : ∀ p H1, H p = none → Ex H H1 → H1 p = some (.lst xs) → Q (.ref p) H1) : te σ H Q := h H (Ex.refl H) Q k
end
/-! ### more of lists, calls and loops -/
section
variable {K : PySem.W.Frag} {σ : L2.St} {H : Hp} {ta tb tc te : TE} {t : TT} {u v w : V} {D : Ends} {tu tz : TS} {ar : TA} {i j l : Nat}
theorem q_par3 (h : EvA ar σ H [u, v, w]) (k : ∀ H1, Ex H H1 → tz D (((σ.set i (some u)).set j (some v)).set l (some w)) H1) : tSeq (tPar3 i j l ar) tz D σ H := h H (Ex.refl H) _ fun H1 e => ⟨u, v, w, rfl, k H1 e⟩
theorem q_par (h : EvA ar σ H [u, v]) (k : ∀ H1, Ex H H1 → tz D ((σ.set i (some u)).set j (some v)) H1) : tSeq (tPar i j ar) tz D σ H := h H (Ex.refl H) _ fun H1 e => ⟨u, v, rfl, k H1 e⟩
theorem s_par (h : EvA ar σ H [u, v]) (k : ∀ H1, Ex H H1 → D.nx ((σ.set i (some u)).set j (some v)) H1) : tPar i j ar D σ H := h H (Ex.refl H) _ fun H1 e => ⟨u, v, rfl, k H1 e⟩
theorem el_callNN {F : LF} {xs ys zs : List V} (ha : EvL ta σ H xs) (hb : EvL tb σ H ys) (f : ∀ p q H', Ex H H' → H' p = some (.lst xs) → H' q = some (.lst ys) → F [.ref p, .ref q] H' zs) : EvL (tCall (Pl F) [] E0 (tCons ta (tCons tb tNil))) σ H zs := fun H1 e Q k =>
  ha H1 e _ fun p H2 hp e2 h2 => hb H2 (e.trans e2) _ fun q H3 hq e3 h3 => ⟨zs, f p q H3 ((e.trans e2).trans e3) (e3 _ _ h2) h3, fun r H4 hr e4 h4 => k r H4 (fresh_back (e2.trans e3) hr) ((e2.trans e3).trans e4) h4⟩
theorem el_lcR2 {vs : List Nat} {lo hi : Int} (f : Nat → Bool) (v : Nat → V) (h : EvA ar σ H [.int lo, .int hi]) (hn : 0 ≤ lo ∧ lo ≤ 40000 ∧ -40000 ≤ hi ∧ hi ≤ 40000) (hw : ∀ x, wipe ((wipe σ vs).set j (some x)) vs = wipe σ vs)
    (ht : ∀ (i : Nat) H1, Ex H H1 → lo + (i : Int) < hi → EvT t ((wipe σ vs).set j (some (.int (lo + (i : Int))))) H1 (f i)) (he : ∀ (i : Nat) H1, Ex H H1 → lo + (i : Int) < hi → f i = true → Ev te ((wipe σ vs).set j (some (.int (lo + (i : Int))))) H1 (v i)) :
    EvL (tLc (iRng2 ar) (gName j) t te vs) σ H (given (hi - lo).toNat f v) := fun H0 e Q q => h H0 e _ fun H1 e1 => ⟨lo, hi, rfl, ⟨by omega, by omega, by omega, by omega⟩, fun Dl hD =>
  lc_range (lo := lo) (n := (hi - lo).toNat) (Cw H1 f v Dl) ⟨hD, Ex.new hD, upd_same⟩ (fun i H' hi2 p => ⟨hw _, cw_turn p (by omega) (ht i H1 (e.trans e1) (by omega)) (fun hf => he i H1 (e.trans e1) (by omega) hf)⟩) (fun H' p => q Dl H' (fresh_back e1 p.1) (e1.trans p.2.1) p.2.2)⟩
theorem el_rg2 {a b : Int} (ha : Ev ta σ H (.int a)) (hb : Ev tb σ H (.int b)) (h : RgOk a b) : EvL (tLstRg (tRg2 ta tb)) σ H (rgV a b) := fun H1 e Q q =>
  ha H1 e _ fun H2 e2 => hb H2 (e.trans e2) _ fun H3 e3 => ⟨a, b, rfl, rfl, h, fun p hp => q p _ (fresh_back (e2.trans e3) hp) ((e2.trans e3).trans (Ex.new hp)) upd_same⟩
theorem r_forL {tl : TE} {g : TG} (h : tl σ H fun x H1 => ∃ a, x = .ref a ∧ (∃ xs, SqL K H1 a xs) ∧ ∃ W : Nat → Nat → L2.St → Hp → Prop, (∃ m, W 0 m σ H1) ∧ ∀ i m σ H, W i m σ H →
      ((Itl K a).stop i H ∧ tz D σ H) ∨ ((Itl K a).go i H ∧ ∃ N : L2.St → Hp → Prop, (∀ σ' H', N σ' H' → ∃ m', m' < m ∧ W (i + 1) m' σ' H') ∧ ∀ x H', (Itl K a).yld i H x H' → g x σ H' fun σ2 H2 => tu { D with nx := N, ct := N, bk := tz D } σ2 H2)) : tSeq (tFor (iList K tl) g tu) tz D σ H := h
theorem r_loop {a : Addr} {xs : List V} (hx : SqL K H a xs) (Pw : Nat → L2.St → Hp → Prop) (h0 : Pw 0 σ H) (hl : ∀ i σ' H', i ≤ xs.length → Pw i σ' H' → SqL K H' a xs)
    (hs : ∀ i x σ' H', xs[i]? = some x → Pw i σ' H' → tu { D with nx := Pw (i + 1), ct := Pw (i + 1), bk := tz D } (σ'.set j (some x)) H') (hd : ∀ σ' H', Pw xs.length σ' H' → tz D σ' H') :
    ∃ b, V.ref a = .ref b ∧ (∃ xs, SqL K H b xs) ∧ ∃ W : Nat → Nat → L2.St → Hp → Prop, (∃ m, W 0 m σ H) ∧ ∀ i m σ H, W i m σ H →
      ((Itl K b).stop i H ∧ tz D σ H) ∨ ((Itl K b).go i H ∧ ∃ N : L2.St → Hp → Prop, (∀ σ' H', N σ' H' → ∃ m', m' < m ∧ W (i + 1) m' σ' H') ∧ ∀ x H', (Itl K b).yld i H x H' → gName j x σ H' fun σ2 H2 => tu { D with nx := N, ct := N, bk := tz D } σ2 H2) :=
  ⟨a, rfl, ⟨xs, hx⟩, for_list (D := { D with nx := tz D }) Pw h0 hl hs hd⟩
end
/-! ### lists of pairs -/
def Prs (H : Hp) (xs : List V) (ps : List (Int × Int)) : Prop := xs.length = ps.length ∧ ∀ (i : Nat) (p : Int × Int), ps[i]? = some p → ∃ t : Addr, xs[i]? = some (V.ref t) ∧ H t = some (.tup [.int p.1, .int p.2])
theorem Prs.mono {H H' : Hp} {xs : List V} {ps : List (Int × Int)} (e : Ex H H') (h : Prs H xs ps) : Prs H' xs ps := ⟨h.1, fun i p hp => by
  obtain ⟨t, h1, h2⟩ := h.2 i p hp
  exact ⟨t, h1, e _ _ h2⟩⟩
theorem Prs.nil {H : Hp} : Prs H [] [] := ⟨rfl, fun i p h => by cases h⟩
theorem Prs.snoc {H : Hp} {xs : List V} {ps : List (Int × Int)} {t : Addr} {a b : Int} (h : Prs H xs ps) (ht : H t = some (.tup [.int a, .int b])) : Prs H (xs ++ [.ref t]) (ps ++ [(a, b)]) := by
  refine ⟨by rw [List.length_append, List.length_append, h.1]; rfl, fun i p hp => ?_⟩
  by_cases hi : i < ps.length
  · rw [List.getElem?_append_left hi] at hp
    obtain ⟨u, h1, h2⟩ := h.2 i p hp
    exact ⟨u, by rw [List.getElem?_append_left (by rw [h.1]; exact hi)]; exact h1, h2⟩
  · rw [List.getElem?_append_right (by omega)] at hp
    have hz : i - ps.length = 0 := by
      have := (List.getElem?_eq_some_iff.mp hp).1
      simp at this
      omega
    rw [hz] at hp
    have e : (a, b) = p := Option.some.inj hp
    subst e
    exact ⟨t, by rw [List.getElem?_append_right (by rw [h.1]; omega), h.1, hz]; rfl, ht⟩
section
variable {K : PySem.W.Frag} {σ : L2.St} {H : Hp} {D : Ends} {tu tz : TS} {tl : TE}
theorem q_forPr {a : Addr} {xs : List V} {ps : List (Int × Int)} {p q : Nat} (h : Ev tl σ H (.ref a)) (hx : SqL K H a xs) (hp : Prs H xs ps) (Pw : Nat → L2.St → Hp → Prop) (h0 : ∀ H1, Ex H H1 → Pw 0 σ H1) (hl : ∀ i σ' H', i ≤ ps.length → Pw i σ' H' → Ex H H')
    (hs : ∀ i z σ' H', ps[i]? = some z → Pw i σ' H' → tu { D with nx := Pw (i + 1), ct := Pw (i + 1), bk := tz D } ((σ'.set p (some (.int z.1))).set q (some (.int z.2))) H') (hd : ∀ σ' H', Pw ps.length σ' H' → tz D σ' H') :
    tSeq (tFor (iList K tl) (gTup K 2 (gCons (gName p) (gCons (gName q) gNil))) tu) tz D σ H :=
  q_forL h hx Pw h0 (fun i σ' H' hi pw => ex_l (hl i σ' H' (by rw [← hp.1]; exact hi) pw) hx) (fun i x σ' H' hi pw => by
    have hlt : i < ps.length := by rw [← hp.1]; exact (List.getElem?_eq_some_iff.mp hi).1
    obtain ⟨t, h1, h2⟩ := hp.2 i ps[i] (List.getElem?_eq_getElem hlt)
    rw [hi] at h1
    have e : x = .ref t := Option.some.inj h1
    subst e
    refine ⟨t, _, rfl, st_of (hl i σ' H' (by omega) pw t _ h2), rfl, .int ps[i].1, [.int ps[i].2], rfl, .int ps[i].2, [], rfl, rfl, ?_⟩
    exact hs i ps[i] σ' H' (List.getElem?_eq_getElem hlt) pw) (by rw [hp.1]; exact hd)
end
end Ct

namespace Ct
open PySem PySem.Spec PyProof.Rows L2 Evl
abbrev R : PySem.W.OpenRow := PySem.W.OpenLaw.row PySem.Challenge.rw_cutrow_k04_borne_and_halved
def top (i : Nat) : Stmt := PySem.Challenge.pw_cutrow_k04_borne_and_halved.main.body.getD i (.Pass ⟨0, 0, 0, 0⟩)
abbrev s_is_whole : Stmt := top 7
abbrev s_check_row : Stmt := top 8
abbrev s_are_cuts : Stmt := top 9
abbrev s_check_cuts : Stmt := top 10
abbrev s_sums_of : Stmt := top 11
abbrev s_parts_of : Stmt := top 12
abbrev s_borne : Stmt := top 13
abbrev s_halved : Stmt := top 14
abbrev s__law_cell_at : Stmt := top 16
abbrev s__law_draw : Stmt := top 17
abbrev s__law_row : Stmt := top 18
abbrev s__law_numbers : Stmt := top 19
abbrev s__law_rising : Stmt := top 20
abbrev s__law_borne : Stmt := top 21
abbrev s__law_linked : Stmt := top 22
abbrev s__law_pairs : Stmt := top 23
abbrev s_law : Stmt := top 24
structure Tx (K : PySem.W.Frag) (mg : Str → Option Value) : Prop where
  d_is_whole : ∃ fd, FunD K "is_whole" "is_whole" (defArgs s_is_whole) (defBody s_is_whole) (defScope s_is_whole) [] [] (He.ga K "is_whole") fd
  d_check_row : ∃ fd, FunD K "check_row" "check_row" (defArgs s_check_row) (defBody s_check_row) (defScope s_check_row) [] [] (He.ga K "check_row") fd
  d_are_cuts : ∃ fd, FunD K "are_cuts" "are_cuts" (defArgs s_are_cuts) (defBody s_are_cuts) (defScope s_are_cuts) [] [] (He.ga K "are_cuts") fd
  d_check_cuts : ∃ fd, FunD K "check_cuts" "check_cuts" (defArgs s_check_cuts) (defBody s_check_cuts) (defScope s_check_cuts) [] [] (He.ga K "check_cuts") fd
  d_sums_of : ∃ fd, FunD K "sums_of" "sums_of" (defArgs s_sums_of) (defBody s_sums_of) (defScope s_sums_of) [] [] (He.ga K "sums_of") fd
  d_parts_of : ∃ fd, FunD K "parts_of" "parts_of" (defArgs s_parts_of) (defBody s_parts_of) (defScope s_parts_of) [] [] (He.ga K "parts_of") fd
  d_borne : ∃ fd, FunD K "borne" "borne" (defArgs s_borne) (defBody s_borne) (defScope s_borne) [] [] (He.ga K "borne") fd
  d_halved : ∃ fd, FunD K "halved" "halved" (defArgs s_halved) (defBody s_halved) (defScope s_halved) [] [] (He.ga K "halved") fd
  d__law_cell_at : ∃ fd, FunD K "_law_cell_at" "_law_cell_at" (defArgs s__law_cell_at) (defBody s__law_cell_at) (defScope s__law_cell_at) [] [] (He.ga K "_law_cell_at") fd
  d__law_draw : ∃ fd, FunD K "_law_draw" "_law_draw" (defArgs s__law_draw) (defBody s__law_draw) (defScope s__law_draw) [] [] (He.ga K "_law_draw") fd
  d__law_row : ∃ fd, FunD K "_law_row" "_law_row" (defArgs s__law_row) (defBody s__law_row) (defScope s__law_row) [] [] (He.ga K "_law_row") fd
  d__law_numbers : ∃ fd, FunD K "_law_numbers" "_law_numbers" (defArgs s__law_numbers) (defBody s__law_numbers) (defScope s__law_numbers) [] [] (He.ga K "_law_numbers") fd
  d__law_rising : ∃ fd, FunD K "_law_rising" "_law_rising" (defArgs s__law_rising) (defBody s__law_rising) (defScope s__law_rising) [] [] (He.ga K "_law_rising") fd
  d__law_borne : ∃ fd, FunD K "_law_borne" "_law_borne" (defArgs s__law_borne) (defBody s__law_borne) (defScope s__law_borne) [] [] (He.ga K "_law_borne") fd
  d__law_linked : ∃ fd, FunD K "_law_linked" "_law_linked" (defArgs s__law_linked) (defBody s__law_linked) (defScope s__law_linked) [] [] (He.ga K "_law_linked") fd
  d__law_pairs : ∃ fd, FunD K "_law_pairs" "_law_pairs" (defArgs s__law_pairs) (defBody s__law_pairs) (defScope s__law_pairs) [] [] (He.ga K "_law_pairs") fd
  d_law : ∃ fd, FunD K "law" "law" (defArgs s_law) (defBody s_law) (defScope s_law) [] [] (He.ga K "law") fd
  g_CutError : mg "CutError" = some (.ref (He.ga K "CutError"))
  g_BadRow : mg "BadRow" = some (.ref (He.ga K "BadRow"))
  g_BadCuts : mg "BadCuts" = some (.ref (He.ga K "BadCuts"))
  c_GREATEST : ∃ t, mg "GREATEST" = some (.int 1000000 t)
  c_LONGEST : ∃ t, mg "LONGEST" = some (.int 1000000 t)
  g_is_whole : mg "is_whole" = some (.ref (He.ga K "is_whole"))
  g_check_row : mg "check_row" = some (.ref (He.ga K "check_row"))
  g_are_cuts : mg "are_cuts" = some (.ref (He.ga K "are_cuts"))
  g_check_cuts : mg "check_cuts" = some (.ref (He.ga K "check_cuts"))
  g_sums_of : mg "sums_of" = some (.ref (He.ga K "sums_of"))
  g_parts_of : mg "parts_of" = some (.ref (He.ga K "parts_of"))
  g_borne : mg "borne" = some (.ref (He.ga K "borne"))
  g_halved : mg "halved" = some (.ref (He.ga K "halved"))
  g__law_cell_at : mg "_law_cell_at" = some (.ref (He.ga K "_law_cell_at"))
  g__law_draw : mg "_law_draw" = some (.ref (He.ga K "_law_draw"))
  g__law_row : mg "_law_row" = some (.ref (He.ga K "_law_row"))
  g__law_numbers : mg "_law_numbers" = some (.ref (He.ga K "_law_numbers"))
  g__law_rising : mg "_law_rising" = some (.ref (He.ga K "_law_rising"))
  g__law_borne : mg "_law_borne" = some (.ref (He.ga K "_law_borne"))
  g__law_linked : mg "_law_linked" = some (.ref (He.ga K "_law_linked"))
  g__law_pairs : mg "_law_pairs" = some (.ref (He.ga K "_law_pairs"))
  g_law : mg "law" = some (.ref (He.ga K "law"))
  z_abs : mg "abs" = none
  z_all : mg "all" = none
  z_any : mg "any" = none
  z_bool : mg "bool" = none
  z_int : mg "int" = none
  z_isinstance : mg "isinstance" = none
  z_len : mg "len" = none
  z_list : mg "list" = none
  z_min : mg "min" = none
  z_range : mg "range" = none
  z_sum : mg "sum" = none
  z_tuple : mg "tuple" = none
end Ct
namespace Ct
open PySem PySem.Spec PyProof.Rows L2 Evl
open He (ga ma)
section
variable {P : Program} {w : World} {K : PySem.W.Frag} {mg : Str → Option Value} {base : Heap}
/-! ### rows: what is reckoned -/
def risB (l : Int) : List Int → Int → Bool
  | [], _ => true
  | c :: r, m => (decide (l < c) && decide (c < m)) && risB c r m
def psums (ns : List Int) : List Int := (List.range (ns.length + 1)).map fun k => (ns.take k).sum
theorem psums_len (ns : List Int) : (psums ns).length = ns.length + 1 := by simp [psums]
theorem psums_at {ns : List Int} {k : Nat} (h : k ≤ ns.length) : (psums ns)[k]? = some (ns.take k).sum := by
  unfold psums
  rw [List.getElem?_map, List.getElem?_range (by omega)]
  rfl
theorem psums_end (ns : List Int) : psums ns = ((List.range ns.length).map fun k => (ns.take k).sum) ++ [ns.sum] := by
  unfold psums
  rw [List.range_succ, List.map_append, List.map_singleton, List.take_length]
theorem psums_snoc (ns : List Int) (n : Int) : psums (ns ++ [n]) = psums ns ++ [ns.sum + n] := by
  rw [psums_end (ns ++ [n])]
  congr 1
  · unfold psums
    rw [List.length_append, List.length_singleton]
    apply List.map_congr_left
    intro k hk
    rw [List.take_append_of_le_length (by have := List.mem_range.mp hk; omega)]
  · rw [List.sum_append, List.sum_singleton]
/-- what the parts bear, by the sums ahead -/
def partsP (ns cs : List Int) : List Int := if ns = [] then [] else
  (List.range (cs.length + 1)).map fun k => (ns.take ((cs ++ [(ns.length : Int)]).getD k 0).toNat).sum - (ns.take ((0 :: cs).getD k 0).toNat).sum
theorem ris_mem : ∀ {cs : List Int} {l m : Int}, risB l cs m = true → ∀ c ∈ cs, l < c ∧ c < m
  | [], _, _, _, c, h => by cases h
  | d :: r, l, m, h, c, hc => by
    simp only [risB, Bool.and_eq_true, decide_eq_true_eq] at h
    obtain ⟨⟨h1, h2⟩, h3⟩ := h
    rcases List.mem_cons.mp hc with e | hc
    · subst e
      exact ⟨h1, h2⟩
    · have := ris_mem h3 c hc
      omega
/-! ### the promises -/
def F_is_whole (K : PySem.W.Frag) : VF := fun vs H z => ∃ x n b c, vs = [x] ∧ TyX K H x (.type n) ∧ kitB n "int" = some b ∧ kitB n "bool" = some c ∧ z = .bl (b && !c)
def sp_is_whole (K : PySem.W.Frag) : Sp := Pv (F_is_whole K)
theorem m_is_whole : MonoV (F_is_whole K) := fun vs H H1 z e ⟨x, n, b, c, h1, h2, h3⟩ => ⟨x, n, b, c, h1, tyx_ex e h2, h3⟩
theorem F_is_whole_int {H : Hp} {i : Int} : F_is_whole K [.int i] H (.bl true) := ⟨.int i, "int", true, false, rfl, tx_int, by decide +kernel, by decide +kernel, rfl⟩
def F_check_row (_ : PySem.W.Frag) : VF := fun vs H z => ∃ (a : Addr) (ns : List Int), vs = [.ref a] ∧ H a = some (.lst (ns.map V.int)) ∧ ns.length ≤ 1000 ∧ (∀ n ∈ ns, 0 ≤ n ∧ n ≤ 1000000) ∧ z = .non
def sp_check_row (K : PySem.W.Frag) : Sp := Pv (F_check_row K)
theorem m_check_row : MonoV (F_check_row K) := fun vs H H1 z e ⟨a, ns, h1, h2, h3⟩ => ⟨a, ns, h1, e _ _ h2, h3⟩
def F_check_number (_ : PySem.W.Frag) : VF := fun vs H z => ∃ (n l : Int), vs = [.int n, .int l] ∧ l ≤ n ∧ z = .non
def sp_check_number (K : PySem.W.Frag) : Sp := Pv (F_check_number K)
theorem m_check_number : MonoV (F_check_number K) := fun vs H H1 z e h => h
def F_are_cuts (_ : PySem.W.Frag) : VF := fun vs H z => ∃ (a : Addr) (cs : List Int) (m : Int), vs = [.ref a, .int m] ∧ H a = some (.lst (cs.map V.int)) ∧ z = .bl (risB 0 cs m)
def sp_are_cuts (K : PySem.W.Frag) : Sp := Pv (F_are_cuts K)
theorem m_are_cuts : MonoV (F_are_cuts K) := fun vs H H1 z e ⟨a, ns, m, h1, h2, h3⟩ => ⟨a, ns, m, h1, e _ _ h2, h3⟩
def F_check_cuts (_ : PySem.W.Frag) : VF := fun vs H z => ∃ (a : Addr) (cs : List Int) (m : Int), vs = [.ref a, .int m] ∧ H a = some (.lst (cs.map V.int)) ∧ risB 0 cs m = true ∧ z = .non
def sp_check_cuts (K : PySem.W.Frag) : Sp := Pv (F_check_cuts K)
theorem m_check_cuts : MonoV (F_check_cuts K) := fun vs H H1 z e ⟨a, ns, m, h1, h2, h3⟩ => ⟨a, ns, m, h1, e _ _ h2, h3⟩
def F_sums_of (_ : PySem.W.Frag) : LF := fun vs H xs => ∃ (a : Addr) (ns : List Int), vs = [.ref a] ∧ H a = some (.lst (ns.map V.int)) ∧ ns.length ≤ 1000 ∧ xs = (psums ns).map V.int
def sp_sums_of (K : PySem.W.Frag) : Sp := Pl (F_sums_of K)
theorem m_sums_of : MonoL (F_sums_of K) := fun vs H H1 z e ⟨a, ns, h1, h2, h3⟩ => ⟨a, ns, h1, e _ _ h2, h3⟩
def F_parts_of (_ : PySem.W.Frag) : LF := fun vs H xs => ∃ (a c : Addr) (ns cs : List Int), vs = [.ref a, .ref c] ∧ H a = some (.lst (ns.map V.int)) ∧ H c = some (.lst (cs.map V.int)) ∧ ns.length ≤ 1000 ∧ cs.length ≤ 1000 ∧ risB 0 cs ns.length = true ∧ xs = (partsP ns cs).map V.int
def sp_parts_of (K : PySem.W.Frag) : Sp := Pl (F_parts_of K)
theorem m_parts_of : MonoL (F_parts_of K) := fun vs H H1 z e ⟨a, c, ns, cs, h1, h2, h3, h4⟩ => ⟨a, c, ns, cs, h1, e _ _ h2, e _ _ h3, h4⟩
/-! ### the defs -/
theorem sc_is_whole : FnScope ["thing"] ["thing"] (defScope s_is_whole) := ⟨rfl, rfl, rfl, by decide +kernel, rfl, by decide +kernel, by decide +kernel⟩
theorem ok_is_whole (T : Tx K mg) : Kept P w K mg base CX0 1 "is_whole" ["thing"] (sp_is_whole K) := by
  obtain ⟨fd, F⟩ := T.d_is_whole
  refine ⟨⟨fd, F.ok sc_is_whole (fun vs H Q E h => by obtain ⟨_, ⟨_, _, _, _, rfl, _⟩, _⟩ := h; rfl) (fun cdv A outer s H vs Q E hR h => ?_), F.bindsN fun _ _ _ _ _ _ us hl => match us, hl with | [_], _ => rfl⟩, T.g_is_whole, F.kp⟩
  · obtain ⟨z, ⟨x, n, b, c, rfl, ht, hb, hc, rfl⟩, k⟩ := h
    refine ⟨_, (PSs.nox (pss_one (ps_ret (pe_and (pe_callB call_isi (by rfl) T.z_isinstance bo_isinstance (pa_cons (pv 0) (pa_cons (pe_bltn (v := .ty "int") (by rfl) T.z_int bo_int rfl) pa_nil))) (pe_one (pe_not (pe_callB call_isi (by rfl) T.z_isinstance bo_isinstance (pa_cons (pv 0) (pa_cons (pe_bltn (v := .ty "bool") (by rfl) T.z_bool bo_bool rfl) pa_nil))))))))), ?_⟩
    exact s_ret (ev_andV (ev_isT (ev_var rfl) ht hb) fun _ => ev_notV (ev_isT (ev_var rfl) ht hc)) fun H1 e => k H1 e
theorem sc_check_row : FnScope ["row", "load"] ["row"] (defScope s_check_row) := ⟨rfl, rfl, rfl, by decide +kernel, rfl, by decide +kernel, by decide +kernel⟩
theorem ok_check_row (T : Tx K mg) : Kept P w K mg base CX0 2 "check_row" ["row"] (sp_check_row K) := by
  have D_is_whole : Kept P w K mg base CX0 1 "is_whole" ["thing"] (sp_is_whole K) := ok_is_whole T
  obtain ⟨t_GREATEST, c_GREATEST⟩ := T.c_GREATEST
  obtain ⟨t_LONGEST, c_LONGEST⟩ := T.c_LONGEST
  obtain ⟨fd, F⟩ := T.d_check_row
  refine ⟨⟨fd, F.ok sc_check_row (fun vs H Q E h => by obtain ⟨_, ⟨_, _, rfl, _⟩, _⟩ := h; rfl) (fun cdv A outer s H vs Q E hR h => ?_), F.bindsN fun _ _ _ _ _ _ us hl => match us, hl with | [_], _ => rfl⟩, T.g_check_row, F.kp⟩
  · obtain ⟨z, ⟨a, ns, rfl, ha, hl, hn, rfl⟩, k⟩ := h
    refine ⟨_, (PSs.nox (pss_cons (ps_if (PW.pt (pw_or (pt_not (pt_val (pe_callB call_isi (by rfl) T.z_isinstance bo_isinstance (pa_cons (pv 0) (pa_cons (pe_bltn (v := .ty "list") (by rfl) T.z_list bo_list rfl) pa_nil))))) (pw_or1 (pt_cmpR op_gt (pe_callB call_len_seq (by rfl) T.z_len bo_len (pa_cons (pv 0) pa_nil)) (pe_glob (v := .int 1000000) (by rfl) c_LONGEST ⟨_, rfl⟩) (nomark _))))) (pss_one ps_never) pss_nil) (pss_one (ps_if (pt_not (pt_val (pe_callB (cr_all rfl) (by rfl) T.z_all bo_all (pa_cons (pe_lc (own := [("load", 1)]) (g := gName 1) (tt := tYes) rfl sc_check_row.nd (pi_list (pv 0)) (blkOk_by (N := ["row", "load"]) (sc := defScope s_check_row) (by decide +kernel)) (fun _ _ _ _ _ => pg_name (i := 1) sc_check_row.nd rfl (Or.inl rfl)) (fun _ _ _ _ _ => pts_nil) (fun _ _ _ _ _ => (pe_and (pe_d D_is_whole (hR.mono (by decide)) (by rfl) (pa_cons (pv 1) pa_nil)) (pe_one (pe_chain op_le op_le pe_int (pv 1) (pe_glob (v := .int 1000000) (by rfl) c_GREATEST ⟨_, rfl⟩)))))) pa_nil)))) (pss_one ps_never) pss_nil)))), ?_⟩
    refine q_when (b := false) (et_is (et_or (et_not (et_B (ev_isT (b := true) (ev_var rfl) (tx_lst ha) (by decide +kernel)))) fun _ => et_test (ev_op (ev_ln (ev_var rfl) (.inl (sq_of ha))) ev_c rv_I0)) ?_) (fun h => by cases h) fun _ H1 e1 => ?_
    · rw [List.length_map]
      simp
      omega
    have ha1 := e1 _ _ ha
    refine s_when (b := false) (et_is (et_not (et_B (ev_allN (el_mapIB (fun n => true && (decide (0 ≤ n) && decide (n ≤ 1000000))) (ev_var rfl) (sq_of ha1) (by omega) (fun x => rfl) fun n H2 e2 hm =>
      ev_andV (ev_callV m_is_whole (ea_cons (ev_var rfl) ea_nil) F_is_whole_int) fun _ => ev_ch ev_c (ev_var rfl) rv_I0 (fun _ => ev_c) fun _ => rv_I0)))) ?_) (fun h => by cases h) fun _ H2 e2 => k _ (e1.trans e2)
    rw [Bool.not_eq_false', List.all_eq_true]
    intro b hb
    obtain ⟨n, hm, rfl⟩ := List.mem_map.mp hb
    have := hn n hm
    simp [this.1, this.2]
theorem sc_are_cuts : FnScope ["cuts", "many", "last", "cut"] ["cuts", "many"] (defScope s_are_cuts) := ⟨rfl, rfl, rfl, by decide +kernel, rfl, by decide +kernel, by decide +kernel⟩
theorem ok_are_cuts (T : Tx K mg) : Kept P w K mg base CX0 2 "are_cuts" ["cuts", "many"] (sp_are_cuts K) := by
  have D_is_whole : Kept P w K mg base CX0 1 "is_whole" ["thing"] (sp_is_whole K) := ok_is_whole T
  obtain ⟨fd, F⟩ := T.d_are_cuts
  refine ⟨⟨fd, F.ok sc_are_cuts (fun vs H Q E h => by obtain ⟨_, ⟨_, _, _, rfl, _⟩, _⟩ := h; rfl) (fun cdv A outer s H vs Q E hR h => ?_), F.bindsN fun _ _ _ _ _ _ us hl => match us, hl with | [_, _], _ => rfl⟩, T.g_are_cuts, F.kp⟩
  · obtain ⟨z, ⟨a, cs, m, rfl, ha, rfl⟩, k⟩ := h
    refine ⟨_, (PSs.nox (pss_cons (ps_set (i := 2) sc_are_cuts.nd rfl (Or.inl rfl) pe_int) (pss_cons (ps_for PassesOwn.never rfl (pi_list (pv 0)) (pg_name (i := 3) sc_are_cuts.nd rfl (Or.inl rfl)) (pss_cons (ps_if (PW.pt (pw_or (pt_not (pt_val (pe_d D_is_whole (hR.mono (by decide)) (by rfl) (pa_cons (pv 3) pa_nil)))) (pw_or1 (pt_not (pt_chain op_lt op_lt (pv 2) (pv 3) (pv 1)))))) (pss_one (ps_ret pe_bl)) pss_nil) (pss_one (ps_set (i := 2) sc_are_cuts.nd rfl (Or.inl rfl) (pv 3))))) (pss_one (ps_ret pe_bl))))), ?_⟩
    refine q_asg ev_c fun H1 e1 => ?_
    refine q_forLn (ev_var rfl) (sq_of (e1 _ _ ha)) (fun i σ' H' => ∃ l v, σ' = [some (.ref a), some (.int m), some (.int l), v] ∧ Ex H H' ∧ risB 0 cs m = risB l (cs.drop i) m) (fun H2 e2 => ⟨0, none, rfl, e1.trans e2, rfl⟩) (fun i σ' H' _ ⟨_, _, _, e, _⟩ => sq_of (e _ _ ha)) ?_ ?_
    · rintro i x σ' H' hi ⟨l, v, rfl, e, hr⟩
      obtain ⟨c, rfl, hc⟩ := int_at hi
      rw [drop_at hc] at hr
      refine q_when (b := !(decide (l < c) && decide (c < m))) (et_is (et_or (et_not (et_B (ev_callV m_is_whole (ea_cons (ev_var rfl) ea_nil) F_is_whole_int))) fun _ => et_not (et_ch (ev_var rfl) (ev_var rfl) rv_I0 (fun _ => ev_var rfl) fun _ => rv_I0)) (by simp)) (fun hb H2 e2 => s_ret ev_c fun H3 e3 => ?_) fun hb H2 e2 => s_asg (ev_var rfl) fun H3 e3 => ⟨c, _, rfl, (e.trans e2).trans e3, ?_⟩
      · have e0 : risB 0 cs m = false := by
          rw [hr, risB]
          rw [Bool.not_eq_true'] at hb
          rw [hb, Bool.false_and]
        rw [e0] at k
        exact k _ ((e.trans e2).trans e3)
      · rw [hr, risB]
        rw [Bool.not_eq_false'] at hb
        rw [hb, Bool.true_and]
    · rintro σ' H' ⟨l, v, rfl, e, hr⟩
      refine s_ret ev_c fun H3 e3 => ?_
      have e0 : risB 0 cs m = true := by
        rw [hr, List.drop_eq_nil_of_le (by rw [List.length_map]; exact Nat.le_refl _)]
        rfl
      rw [e0] at k
      exact k _ (e.trans e3)
theorem sc_check_cuts : FnScope ["cuts", "many"] ["cuts", "many"] (defScope s_check_cuts) := ⟨rfl, rfl, rfl, by decide +kernel, rfl, by decide +kernel, by decide +kernel⟩
theorem ok_check_cuts (T : Tx K mg) : Kept P w K mg base CX0 3 "check_cuts" ["cuts", "many"] (sp_check_cuts K) := by
  have D_are_cuts : Kept P w K mg base CX0 2 "are_cuts" ["cuts", "many"] (sp_are_cuts K) := ok_are_cuts T
  obtain ⟨fd, F⟩ := T.d_check_cuts
  refine ⟨⟨fd, F.ok sc_check_cuts (fun vs H Q E h => by obtain ⟨_, ⟨_, _, _, rfl, _⟩, _⟩ := h; rfl) (fun cdv A outer s H vs Q E hR h => ?_), F.bindsN fun _ _ _ _ _ _ us hl => match us, hl with | [_, _], _ => rfl⟩, T.g_check_cuts, F.kp⟩
  · obtain ⟨z, ⟨a, cs, m, rfl, ha, hr, rfl⟩, k⟩ := h
    refine ⟨_, (PSs.nox (pss_one (ps_if (PW.pt (pw_or (pt_not (pt_val (pe_callB call_isi (by rfl) T.z_isinstance bo_isinstance (pa_cons (pv 0) (pa_cons (pe_bltn (v := .ty "list") (by rfl) T.z_list bo_list rfl) pa_nil))))) (pw_or1 (pt_not (pt_val (pe_d D_are_cuts (hR.mono (by decide)) (by rfl) (pa_cons (pv 0) (pa_cons (pv 1) pa_nil)))))))) (pss_one ps_never) pss_nil))), ?_⟩
    exact s_when (b := false) (et_is (et_or (et_not (et_B (ev_isT (b := true) (ev_var rfl) (tx_lst ha) (by decide +kernel)))) fun _ => et_not (et_B (ev_callV m_are_cuts (ea_cons (ev_var rfl) (ea_cons (ev_var rfl) ea_nil)) ⟨a, cs, m, rfl, ha, rfl⟩))) (by rw [hr]; rfl)) (fun h => by cases h) fun _ H1 e1 => k _ e1
theorem sc_sums_of : FnScope ["row", "found", "load"] ["row"] (defScope s_sums_of) := ⟨rfl, rfl, rfl, by decide +kernel, rfl, by decide +kernel, by decide +kernel⟩
theorem ok_sums_of (T : Tx K mg) : Kept P w K mg base CX0 1 "sums_of" ["row"] (sp_sums_of K) := by
  obtain ⟨fd, F⟩ := T.d_sums_of
  refine ⟨⟨fd, F.ok sc_sums_of (fun vs H Q E h => by obtain ⟨_, ⟨_, _, rfl, _⟩, _⟩ := h; rfl) (fun cdv A outer s H vs Q E hR h => ?_), F.bindsN fun _ _ _ _ _ _ us hl => match us, hl with | [_], _ => rfl⟩, T.g_sums_of, F.kp⟩
  · obtain ⟨z, ⟨a, ns, rfl, ha, hl, rfl⟩, k⟩ := h
    refine ⟨_, (PSs.nox (pss_cons (ps_set (i := 1) sc_sums_of.nd rfl (Or.inl rfl) (pe_lst (pa_cons pe_int pa_nil))) (pss_cons (ps_for PassesOwn.never rfl (pi_list (pv 0)) (pg_name (i := 2) sc_sums_of.nd rfl (Or.inl rfl)) (pss_one (ps_expr (pe_bm PySem.F.plainAttrs_list PySem.F.slot_list_append PySem.F.type_list_append mt_append (pv 1) (pa_cons (pe_op op_add (pe_ix ix_list (pv 1) (pe_un un_neg pe_int) (fun _ _ => rfl)) (pv 2)) pa_nil))))) (pss_one (ps_ret (pv 1)))))), ?_⟩
    refine q_asgL (el_lst (ea_cons ev_c ea_nil) (by decide)) fun p H1 hp e1 h1 => ?_
    refine q_forLn (ev_var rfl) (sq_of (e1 _ _ ha)) (fun i σ' H' => ∃ v, σ' = [some (.ref a), some (.ref p), v] ∧ Ex H H' ∧ H' p = some (.lst ((psums (ns.take i)).map V.int))) (fun H2 e2 => ⟨none, rfl, e1.trans e2, e2 _ _ h1⟩) (fun i σ' H' _ ⟨_, _, e, _⟩ => sq_of (e _ _ ha)) ?_ ?_
    · rintro i x σ' H' hi ⟨v, rfl, e, hH⟩
      obtain ⟨c, rfl, hc⟩ := int_at hi
      have hlt := (List.getElem?_eq_some_iff.mp hc).1
      have hE : (psums (ns.take i)).map V.int = ((List.range (ns.take i).length).map fun k => ((ns.take i).take k).sum).map V.int ++ [V.int (ns.take i).sum] := by
        rw [psums_end, List.map_append, List.map_singleton]
      refine s_app hH (ev_var rfl) (ev_op (ev_ixLast (ev_var rfl) (sq_of (by rw [hH, hE]))) (ev_var rfl) rv_I0) ?_ fun H2 e2 => ⟨_, rfl, Ex.mut (e.trans e2) hp, ?_⟩
      · rw [List.length_map, psums_len, List.length_take]
        omega
      · rw [upd_same, take_snoc hc, psums_snoc, List.map_append, List.map_singleton]
    · rintro σ' H' ⟨v, rfl, e, hH⟩
      rw [List.length_map, List.take_length] at hH
      exact s_ret (ev_var rfl) fun H2 e2 => k p _ hp (e.trans e2) (e2 _ _ hH)
theorem sc_parts_of : FnScope ["row", "cuts", "sums", "begins", "ends", "k"] ["row", "cuts"] (defScope s_parts_of) := ⟨rfl, rfl, rfl, by decide +kernel, rfl, by decide +kernel, by decide +kernel⟩
theorem ok_parts_of (T : Tx K mg) : Kept P w K mg base CX0 2 "parts_of" ["row", "cuts"] (sp_parts_of K) := by
  have D_sums_of : Kept P w K mg base CX0 1 "sums_of" ["row"] (sp_sums_of K) := ok_sums_of T
  obtain ⟨fd, F⟩ := T.d_parts_of
  refine ⟨⟨fd, F.ok sc_parts_of (fun vs H Q E h => by obtain ⟨_, ⟨_, _, _, _, rfl, _⟩, _⟩ := h; rfl) (fun cdv A outer s H vs Q E hR h => ?_), F.bindsN fun _ _ _ _ _ _ us hl => match us, hl with | [_, _], _ => rfl⟩, T.g_parts_of, F.kp⟩
  · obtain ⟨z, ⟨a, c, ns, cs, rfl, ha, hc, hl, hcl, hr, rfl⟩, k⟩ := h
    refine ⟨_, (PSs.nox (pss_cons (ps_if (pt_cmpR op_eq (pe_callB call_len_seq (by rfl) T.z_len bo_len (pa_cons (pv 0) pa_nil)) pe_int (nomark _)) (pss_one (ps_ret (pe_lst pa_nil))) pss_nil) (pss_cons (ps_set (i := 2) sc_parts_of.nd rfl (Or.inr rfl) (pe_d D_sums_of (hR.mono (by decide)) (by rfl) (pa_cons (pv 0) pa_nil))) (pss_cons (ps_set (i := 3) sc_parts_of.nd rfl (Or.inr rfl) (pe_op op_cat (pe_lst (pa_cons pe_int pa_nil)) (pv 1))) (pss_cons (ps_set (i := 4) sc_parts_of.nd rfl (Or.inr rfl) (pe_op op_cat (pv 1) (pe_lst (pa_cons (pe_callB call_len_seq (by rfl) T.z_len bo_len (pa_cons (pv 0) pa_nil)) pa_nil)))) (pss_one (ps_ret (pe_lc (own := [("k", 5)]) (g := gName 5) (tt := tYes) rfl sc_parts_of.nd (pi_range1 (by rfl) T.z_range (pa_cons (pe_callB call_len_seq (by rfl) T.z_len bo_len (pa_cons (pv 3) pa_nil)) pa_nil)) (blkOk_by (N := ["row", "cuts", "sums", "begins", "ends", "k"]) (sc := defScope s_parts_of) (by decide +kernel)) (fun _ _ _ _ _ => pg_name (i := 5) sc_parts_of.nd rfl (Or.inl rfl)) (fun _ _ _ _ _ => pts_nil) (fun _ _ _ _ _ => (pe_op op_sub (pe_ix (ix_listK (K := K) rfl) (pv 2) (pe_ix (ix_listK (K := K) rfl) (pv 4) (pv 5) (fun _ _ => rfl)) (fun _ _ => rfl)) (pe_ix (ix_listK (K := K) rfl) (pv 2) (pe_ix (ix_listK (K := K) rfl) (pv 3) (pv 5) (fun _ _ => rfl)) (fun _ _ => rfl)))))))))))), ?_⟩
    refine q_when (b := decide (ns.length = 0)) (et_is (et_test (ev_op (ev_ln (ev_var rfl) (.inl (sq_of ha))) ev_c (rv_eq rfl))) ?_) (fun hb H1 e1 => ?_) fun hb H1 e1 => ?_
    · rw [List.length_map]
      by_cases h0 : ns.length = 0
      · rw [decide_eq_true h0, decide_eq_true]
        rw [h0]
        rfl
      · rw [decide_eq_false h0, decide_eq_false]
        intro q
        injection q with q
        omega
    · have h0 : ns = [] := List.length_eq_zero_iff.mp (of_decide_eq_true hb)
      subst h0
      exact s_retL (el_lst ea_nil (by decide)) fun p H2 hp e2 h2 => k p _ (fresh_back e1 hp) (e1.trans e2) h2
    have h0 : ns ≠ [] := fun q => by
      have := of_decide_eq_false hb
      rw [q] at this
      exact this rfl
    have hmem := ris_mem hr
    refine q_asgL (el_callL m_sums_of (ea_cons (ev_var rfl) ea_nil) ⟨a, ns, rfl, e1 _ _ ha, hl, rfl⟩) fun s H2 hs e2 hS => ?_
    refine q_asgL (el_cat2 (el_lst (ea_cons ev_c ea_nil) (by decide)) (ev_var rfl) ((e1.trans e2) _ _ hc) (by rw [List.length_map]; simp; omega)) fun b H3 hb3 e3 hB => ?_
    refine q_asgL (el_cat1 (ev_var rfl) (((e1.trans e2).trans e3) _ _ hc) (el_lst (ea_cons (ev_ln (ev_var rfl) (.inl (sq_of (((e1.trans e2).trans e3) _ _ ha)))) ea_nil) l1) (by rw [List.length_map]; simp; omega)) fun d H4 hd e4 hD => ?_
    have hS4 := (e3.trans e4) _ _ hS
    have hB4 := e4 _ _ hB
    have eB : ([V.int 0] ++ cs.map V.int) = (0 :: cs).map V.int := rfl
    have eD : (cs.map V.int ++ [V.int ((ns.map V.int).length : Int)]) = (cs ++ [(ns.length : Int)]).map V.int := by rw [List.map_append, List.length_map]; rfl
    rw [eB] at hB4
    rw [eD] at hD
    have hi0 : ∀ i, i < cs.length + 1 → ∃ x, (0 :: cs)[i]? = some x ∧ 0 ≤ x ∧ x ≤ ns.length := fun i hi => by
      refine ⟨(0 :: cs)[i]'(by simpa using hi), List.getElem?_eq_getElem _, ?_⟩
      have hm := List.getElem_mem (l := 0 :: cs) (n := i) (by simpa using hi)
      rcases List.mem_cons.mp hm with q | q
      · omega
      · have := hmem _ q
        omega
    have hi1 : ∀ i, i < cs.length + 1 → ∃ x, (cs ++ [(ns.length : Int)])[i]? = some x ∧ 0 ≤ x ∧ x ≤ ns.length := fun i hi => by
      refine ⟨(cs ++ [(ns.length : Int)])[i]'(by simpa using hi), List.getElem?_eq_getElem _, ?_⟩
      have hm := List.getElem_mem (l := cs ++ [(ns.length : Int)]) (n := i) (by simpa using hi)
      rcases List.mem_append.mp hm with q | q
      · have := hmem _ q
        omega
      · have := List.mem_singleton.mp q
        omega
    refine s_retL (el_is (el_mapRI (n := cs.length + 1) (fun k => (ns.take ((cs ++ [(ns.length : Int)]).getD k 0).toNat).sum - (ns.take ((0 :: cs).getD k 0).toNat).sum) (ea_cons (ev_is (ev_ln (ev_var rfl) (.inl (sq_of hB4))) (by simp)) ea_nil) (by omega) (fun x => rfl) fun i H5 e5 hi => ?_) ?_) fun p H5 hp e5 h5 => k p _ (fresh_back ((((e1.trans e2).trans e3).trans e4)) hp) ((((e1.trans e2).trans e3).trans e4).trans e5) h5
    · obtain ⟨x, hx, hx0, hx1⟩ := hi0 i hi
      obtain ⟨y, hy, hy0, hy1⟩ := hi1 i hi
      have ex : (0 :: cs).getD i 0 = x := by simp [List.getD, hx]
      have ey : (cs ++ [(ns.length : Int)]).getD i 0 = y := by simp only [List.getD, hy, Option.getD]
      rw [ex, ey]
      exact ev_op (ev_ixI (ev_var rfl) (sq_of (e5 _ _ hS4)) (ev_ixI (ev_var rfl) (sq_of (e5 _ _ hD)) (ev_var rfl) (Int.natCast_nonneg _) (by simpa using hy)) hy0 (psums_at (by omega))) (ev_ixI (ev_var rfl) (sq_of (e5 _ _ hS4)) (ev_ixI (ev_var rfl) (sq_of (e5 _ _ hB4)) (ev_var rfl) (Int.natCast_nonneg _) (by simpa using hx)) hx0 (psums_at (by omega))) rv_I0
    · unfold partsP
      rw [if_neg h0]
/-! ### borne, halved -/
def apartP (ns : List Int) : List Int := (psums ns).map fun s => if 2 * s - ns.sum < 0 then -(2 * s - ns.sum) else 2 * s - ns.sum
def halvedP (ns : List Int) : Nat := (apartP ns).findIdx (· == mnL (apartP ns))
def F_borne (_ : PySem.W.Frag) : LF := fun vs H xs => ∃ (a c : Addr) (ns cs : List Int), vs = [.ref a, .ref c] ∧ H a = some (.lst (ns.map V.int)) ∧ H c = some (.lst (cs.map V.int)) ∧ ns.length ≤ 1000 ∧ cs.length ≤ 1000 ∧ (∀ n ∈ ns, 0 ≤ n ∧ n ≤ 1000000) ∧ risB 0 cs ns.length = true ∧ xs = (partsP ns cs).map V.int
def sp_borne (K : PySem.W.Frag) : Sp := Pl (F_borne K)
theorem m_borne : MonoL (F_borne K) := fun vs H H1 z e ⟨a, c, ns, cs, h1, h2, h3, h4⟩ => ⟨a, c, ns, cs, h1, e _ _ h2, e _ _ h3, h4⟩
def F_halved (_ : PySem.W.Frag) : VF := fun vs H z => ∃ (a : Addr) (ns : List Int), vs = [.ref a] ∧ H a = some (.lst (ns.map V.int)) ∧ ns.length ≤ 1000 ∧ (∀ n ∈ ns, 0 ≤ n ∧ n ≤ 1000000) ∧ z = .int (halvedP ns : Nat)
def sp_halved (K : PySem.W.Frag) : Sp := Pv (F_halved K)
theorem m_halved : MonoV (F_halved K) := fun vs H H1 z e ⟨a, ns, h1, h2, h3⟩ => ⟨a, ns, h1, e _ _ h2, h3⟩
theorem sc_borne : FnScope ["row", "cuts"] ["row", "cuts"] (defScope s_borne) := ⟨rfl, rfl, rfl, by decide +kernel, rfl, by decide +kernel, by decide +kernel⟩
theorem ok_borne (T : Tx K mg) : Kept P w K mg base CX0 4 "borne" ["row", "cuts"] (sp_borne K) := by
  have D_check_cuts : Kept P w K mg base CX0 3 "check_cuts" ["cuts", "many"] (sp_check_cuts K) := ok_check_cuts T
  have D_check_row : Kept P w K mg base CX0 2 "check_row" ["row"] (sp_check_row K) := ok_check_row T
  have D_parts_of : Kept P w K mg base CX0 2 "parts_of" ["row", "cuts"] (sp_parts_of K) := ok_parts_of T
  obtain ⟨fd, F⟩ := T.d_borne
  refine ⟨⟨fd, F.ok sc_borne (fun vs H Q E h => by obtain ⟨_, ⟨_, _, _, _, rfl, _⟩, _⟩ := h; rfl) (fun cdv A outer s H vs Q E hR h => ?_), F.bindsN fun _ _ _ _ _ _ us hl => match us, hl with | [_, _], _ => rfl⟩, T.g_borne, F.kp⟩
  · obtain ⟨z, ⟨a, c, ns, cs, rfl, ha, hc, hl, hcl, hn, hr, rfl⟩, k⟩ := h
    refine ⟨_, (PSs.nox (pss_cons (ps_expr (pe_d D_check_row (hR.mono (by decide)) (by rfl) (pa_cons (pv 0) pa_nil))) (pss_cons (ps_expr (pe_d D_check_cuts (hR.mono (by decide)) (by rfl) (pa_cons (pv 1) (pa_cons (pe_callB call_len_seq (by rfl) T.z_len bo_len (pa_cons (pv 0) pa_nil)) pa_nil)))) (pss_one (ps_ret (pe_d D_parts_of (hR.mono (by decide)) (by rfl) (pa_cons (pv 0) (pa_cons (pv 1) pa_nil)))))))), ?_⟩
    refine q_drop (ev_callV m_check_row (ea_cons (ev_var rfl) ea_nil) ⟨a, ns, rfl, ha, hl, hn, rfl⟩) fun H1 e1 => ?_
    refine q_drop (ev_callV m_check_cuts (ea_cons (ev_var rfl) (ea_cons (ev_ln (ev_var rfl) (.inl (sq_of (e1 _ _ ha)))) ea_nil)) ⟨c, cs, _, rfl, e1 _ _ hc, by rw [List.length_map]; exact hr, rfl⟩) fun H2 e2 => ?_
    exact s_retL (el_callL m_parts_of (ea_cons (ev_var rfl) (ea_cons (ev_var rfl) ea_nil)) ⟨a, c, ns, cs, rfl, (e1.trans e2) _ _ ha, (e1.trans e2) _ _ hc, hl, hcl, hr, rfl⟩) fun p H3 hp e3 h3 => k p _ (fresh_back (e1.trans e2) hp) ((e1.trans e2).trans e3) h3
theorem sc_halved : FnScope ["row", "sums", "apart", "one"] ["row"] (defScope s_halved) := ⟨rfl, rfl, rfl, by decide +kernel, rfl, by decide +kernel, by decide +kernel⟩
theorem ok_halved (T : Tx K mg) : Kept P w K mg base CX0 3 "halved" ["row"] (sp_halved K) := by
  have D_check_row : Kept P w K mg base CX0 2 "check_row" ["row"] (sp_check_row K) := ok_check_row T
  have D_sums_of : Kept P w K mg base CX0 1 "sums_of" ["row"] (sp_sums_of K) := ok_sums_of T
  obtain ⟨fd, F⟩ := T.d_halved
  refine ⟨⟨fd, F.ok sc_halved (fun vs H Q E h => by obtain ⟨_, ⟨_, _, rfl, _⟩, _⟩ := h; rfl) (fun cdv A outer s H vs Q E hR h => ?_), F.bindsN fun _ _ _ _ _ _ us hl => match us, hl with | [_], _ => rfl⟩, T.g_halved, F.kp⟩
  · obtain ⟨z, ⟨a, ns, rfl, ha, hl, hn, rfl⟩, k⟩ := h
    refine ⟨_, (PSs.nox (pss_cons (ps_expr (pe_d D_check_row (hR.mono (by decide)) (by rfl) (pa_cons (pv 0) pa_nil))) (pss_cons (ps_set (i := 1) sc_halved.nd rfl (Or.inr rfl) (pe_d D_sums_of (hR.mono (by decide)) (by rfl) (pa_cons (pv 0) pa_nil))) (pss_cons (ps_setLc (i := 2) rfl sc_halved.nd rfl rfl (sw_true rfl rfl rfl (by decide +kernel)) (own := [("one", 3)]) (g := gName 3) (tt := tYes) (pi_list (pv 1)) (blkOk_by (N := ["row", "sums", "apart", "one"]) (sc := defScope s_halved) (by decide +kernel)) (fun _ _ _ _ _ => pg_name (i := 3) sc_halved.nd rfl (Or.inl rfl)) (fun _ _ _ _ _ => pts_nil) (fun _ _ _ _ _ => (pe_callB call_abs (by rfl) T.z_abs bo_abs (pa_cons (pe_op op_sub (pe_op op_mul pe_int (pv 3)) (pe_ix (ix_listK (K := K) rfl) (pv 1) (pe_un un_neg pe_int) (fun _ _ => rfl))) pa_nil)))) (pss_one (ps_ret (pe_bm PySem.F.plainAttrs_list PySem.F.slot_list_index PySem.F.type_list_index mt_index (pv 2) (pa_cons (pe_callB (cr_min rfl) (by rfl) T.z_min bo_min (pa_cons (pv 2) pa_nil)) pa_nil)))))))), ?_⟩
    refine q_drop (ev_callV m_check_row (ea_cons (ev_var rfl) ea_nil) ⟨a, ns, rfl, ha, hl, hn, rfl⟩) fun H1 e1 => ?_
    refine q_asgL (el_callL m_sums_of (ea_cons (ev_var rfl) ea_nil) ⟨a, ns, rfl, e1 _ _ ha, hl, rfl⟩) fun s H2 hs e2 hS => ?_
    refine q_asgL (el_mapII (fun x => if 2 * x - ns.sum < 0 then -(2 * x - ns.sum) else 2 * x - ns.sum) (ev_var rfl) (sq_of hS) (by rw [psums_len]; omega) (fun x => rfl) fun n H3 e3 hm => ev_abs (ev_op (ev_op ev_c (ev_var rfl) (rv_I (.inl ⟨by decide, by decide⟩))) (ev_ixLast (ev_var rfl) (sq_of (by
      rw [e3 _ _ hS, psums_end, List.map_append]
      rfl))) rv_I0)) fun p H3 hp e3 hA => ?_
    refine s_ret (ev_index (n := mnL (apartP ns)) (ns := apartP ns) (ev_var rfl) (sq_of hA) (ev_min (ns := apartP ns) (ev_var rfl) (sq_of hA) ?_) (mnL_mem ?_)) fun H4 e4 => k _ (((e1.trans e2).trans e3).trans e4)
    · unfold apartP
      rw [List.length_map, psums_len]
      omega
    · unfold apartP
      rw [List.length_map, psums_len]
      omega

end
end Ct
namespace Ct
open PySem PySem.Spec PyProof.Rows L2 Evl
open He (ga ma)
section
variable {P : Program} {w : World} {K : PySem.W.Frag} {mg : Str → Option Value} {base : Heap}
/-! ### the laws' own helpers: what is reckoned -/
def primesL : List Int := [1000003, 1000033, 1000037, 1000039, 1000081, 1000099, 1000117, 1000121, 1000133, 1000151, 1000159, 1000171, 1000183, 1000187, 1000193, 1000199]
def cellZ (ns : List Int) (k : Int) : Int := if k < ns.length then ns.getD k.toNat 0 else 0
def drawZ (c k m : Int) : Int := (c * 48271 + k * 69621) % (primesL.getD (k % 16).toNat 0) % m
theorem primes_at {k : Int} (h0 : 0 ≤ k) : ∃ p, primesL[(k % 16).toNat]? = some p ∧ 0 < p ∧ primesL.getD (k % 16).toNat 0 = p := by
  have h1 : (k % 16).toNat < 16 := by omega
  generalize (k % 16).toNat = j at h1
  have : ∀ j : Fin 16, ∃ p, primesL[j.val]? = some p ∧ 0 < p ∧ primesL.getD j.val 0 = p := by decide +kernel
  exact this ⟨j, h1⟩
theorem drawZ_lo {c k m : Int} (hm : 0 < m) : 0 ≤ drawZ c k m := Int.emod_nonneg _ (by omega)
theorem drawZ_hi {c k m : Int} (hm : 0 < m) : drawZ c k m < m := Int.emod_lt_of_pos _ hm
def mostZ (d : Int) : Int := [3, 30, 1000001, 10].getD d.toNat 0
theorem mostZ_at {d : Int} (h0 : 0 ≤ d) (h1 : d < 4) : ([3, 30, 1000001, 10] : List Int)[d.toNat]? = some (mostZ d) ∧ 3 ≤ mostZ d ∧ mostZ d ≤ 1000001 := by
  have h2 : d.toNat < 4 := by omega
  unfold mostZ
  generalize d.toNat = j at h2
  have : ∀ j : Fin 4, ([3, 30, 1000001, 10] : List Int)[j.val]? = some (([3, 30, 1000001, 10] : List Int).getD j.val 0) ∧ 3 ≤ ([3, 30, 1000001, 10] : List Int).getD j.val 0 ∧ ([3, 30, 1000001, 10] : List Int).getD j.val 0 ≤ 1000001 := by decide +kernel
  exact this ⟨j, h2⟩
def load1 (most : Int) (c : Int) (k : Nat) : Int := drawZ c ((k : Int) % 5 + 1) most
def load2 (kind most : Int) (c : Int) (k : Nat) : Int := if (decide (kind = 1) && decide (0 < drawZ c ((k : Int) % 7 + 1) 3)) = true then 0 else load1 most c k
def load3 (kind most : Int) (c : Int) (k : Nat) : Int := if decide (kind = 2) = true then most / 2 + load2 kind most c k % 2 else load2 kind most c k
def kindZ (ns : List Int) : Int := drawZ (cellZ ns 0) 6 4
def mostL (ns : List Int) : Int := mostZ (drawZ (cellZ ns 1) 7 4)
def lawRow (ns : List Int) : List Int := (List.range ns.length).map fun k => load3 (kindZ ns) (mostL ns) (ns.getD k 0) k
theorem lawRow_len (ns : List Int) : (lawRow ns).length = ns.length := by simp [lawRow]
theorem mostL_ok (ns : List Int) : 3 ≤ mostL ns ∧ mostL ns ≤ 1000001 := (mostZ_at (drawZ_lo (by decide)) (drawZ_hi (by decide))).2
theorem lawRow_ok (ns : List Int) : ∀ n ∈ lawRow ns, 0 ≤ n ∧ n ≤ 1000000 := by
  intro n hn
  obtain ⟨k, _, rfl⟩ := List.mem_map.mp hn
  obtain ⟨m0, m1⟩ := mostL_ok ns
  have l1 : 0 ≤ load1 (mostL ns) (ns.getD k 0) k ∧ load1 (mostL ns) (ns.getD k 0) k < mostL ns := ⟨drawZ_lo (by omega), drawZ_hi (by omega)⟩
  have l2 : 0 ≤ load2 (kindZ ns) (mostL ns) (ns.getD k 0) k ∧ load2 (kindZ ns) (mostL ns) (ns.getD k 0) k < mostL ns := by
    unfold load2
    split
    · omega
    · exact l1
  unfold load3
  split <;> omega
/-- a place's load put behind -/
def addLast (f : List Int) (n : Int) : List Int := f.dropLast ++ [f.getLastD 0 + n]
def bornePut (cs : List Int) : Nat → List Int → List Int → List Int
  | _, [], f => f
  | i, n :: r, f => bornePut cs (i + 1) r (addLast (if decide ((i : Int) ∈ cs) = true then f ++ [0] else f) n)
def borneL (ns cs : List Int) : List Int := if ns = [] then [] else bornePut cs 0 ns [0]
theorem bornePut_snoc (cs : List Int) (n : Int) : ∀ (r : List Int) (i : Nat) (f : List Int), bornePut cs i (r ++ [n]) f = addLast (if decide (((i + r.length : Nat) : Int) ∈ cs) = true then bornePut cs i r f ++ [0] else bornePut cs i r f) n
  | [], i, f => rfl
  | a :: r, i, f => by
    rw [List.cons_append, bornePut, bornePut_snoc cs n r (i + 1)]
    rw [show i + 1 + r.length = i + (a :: r).length by simp; omega]
    rfl
theorem addLast_len (f : List Int) (n : Int) (h : f ≠ []) : (addLast f n).length = f.length := by
  unfold addLast
  have := List.length_pos_iff.mpr h
  simp
  omega
theorem addLast_ne (f : List Int) (n : Int) : addLast f n ≠ [] := by simp [addLast]
theorem bornePut_ne (cs : List Int) : ∀ (r : List Int) (i : Nat) (f : List Int), f ≠ [] → bornePut cs i r f ≠ []
  | [], _, _, h => h
  | a :: r, i, f, h => bornePut_ne cs r (i + 1) _ (addLast_ne _ _)
theorem bornePut_len (cs : List Int) : ∀ (r : List Int) (i : Nat) (f : List Int), f ≠ [] → (bornePut cs i r f).length ≤ f.length + r.length
  | [], _, _, _ => Nat.le_refl _
  | a :: r, i, f, h => by
    have h1 := bornePut_len cs r (i + 1) (addLast (if decide ((i : Int) ∈ cs) = true then f ++ [0] else f) a) (addLast_ne _ _)
    have h2 : (addLast (if decide ((i : Int) ∈ cs) = true then f ++ [0] else f) a).length ≤ f.length + 1 := by
      split
      · rw [addLast_len _ _ (by simp)]
        simp
      · rw [addLast_len _ _ h]
        omega
    rw [bornePut, List.length_cons]
    omega
/-! ### the promises -/
def F__law_cell_at (K : PySem.W.Frag) : VF := fun vs H z => ∃ (a : Addr) (ns : List Int) (k : Int), vs = [.ref a, .int k] ∧ SqL K H a (ns.map V.int) ∧ 0 ≤ k ∧ z = .int (cellZ ns k)
def sp__law_cell_at (K : PySem.W.Frag) : Sp := Pv (F__law_cell_at K)
theorem m__law_cell_at : MonoV (F__law_cell_at K) := fun vs H H1 z e ⟨a, ns, k, h1, h2, h3⟩ => ⟨a, ns, k, h1, ex_l e h2, h3⟩
def F__law_draw (_ : PySem.W.Frag) : VF := fun vs H z => ∃ (c k m : Int), vs = [.int c, .int k, .int m] ∧ 0 ≤ k ∧ 0 < m ∧ z = .int (drawZ c k m)
def sp__law_draw (K : PySem.W.Frag) : Sp := Pv (F__law_draw K)
theorem m__law_draw : MonoV (F__law_draw K) := fun vs H H1 z e h => h
def F__law_row (K : PySem.W.Frag) : LF := fun vs H xs => ∃ (a : Addr) (ns : List Int), vs = [.ref a] ∧ SqL K H a (ns.map V.int) ∧ ns.length ≤ 63 ∧ xs = (lawRow ns).map V.int
def sp__law_row (K : PySem.W.Frag) : Sp := Pl (F__law_row K)
theorem m__law_row : MonoL (F__law_row K) := fun vs H H1 z e ⟨a, ns, h1, h2, h3⟩ => ⟨a, ns, h1, ex_l e h2, h3⟩
def F__law_numbers (_ : PySem.W.Frag) : VF := fun vs H z => ∃ (a : Addr) (ns : List Int), vs = [.ref a] ∧ H a = some (.lst (ns.map V.int)) ∧ ns.length ≤ 1000 ∧ z = .bl true
def sp__law_numbers (K : PySem.W.Frag) : Sp := Pv (F__law_numbers K)
theorem m__law_numbers : MonoV (F__law_numbers K) := fun vs H H1 z e ⟨a, ns, h1, h2, h3⟩ => ⟨a, ns, h1, e _ _ h2, h3⟩
def F__law_rising (_ : PySem.W.Frag) : VF := fun vs H z => ∃ (a : Addr) (cs : List Int) (l m : Int), vs = [.ref a, .int l, .int m] ∧ H a = some (.lst (cs.map V.int)) ∧ z = .bl (risB (l - 1) cs m)
def sp__law_rising (K : PySem.W.Frag) : Sp := Pv (F__law_rising K)
theorem m__law_rising : MonoV (F__law_rising K) := fun vs H H1 z e ⟨a, ns, l, m, h1, h2, h3⟩ => ⟨a, ns, l, m, h1, e _ _ h2, h3⟩
def F__law_borne (_ : PySem.W.Frag) : LF := fun vs H xs => ∃ (a c : Addr) (ns cs : List Int), vs = [.ref a, .ref c] ∧ H a = some (.lst (ns.map V.int)) ∧ H c = some (.lst (cs.map V.int)) ∧ ns.length ≤ 1000 ∧ xs = (borneL ns cs).map V.int
def sp__law_borne (K : PySem.W.Frag) : Sp := Pl (F__law_borne K)
theorem m__law_borne : MonoL (F__law_borne K) := fun vs H H1 z e ⟨a, c, ns, cs, h1, h2, h3, h4⟩ => ⟨a, c, ns, cs, h1, e _ _ h2, e _ _ h3, h4⟩
/-! ### the defs -/
theorem sc__law_cell_at : FnScope ["_law_script", "_law_k"] ["_law_script", "_law_k"] (defScope s__law_cell_at) := ⟨rfl, rfl, rfl, by decide +kernel, rfl, by decide +kernel, by decide +kernel⟩
theorem ok__law_cell_at (T : Tx K mg) : Kept P w K mg base CX0 1 "_law_cell_at" ["_law_script", "_law_k"] (sp__law_cell_at K) := by
  obtain ⟨fd, F⟩ := T.d__law_cell_at
  refine ⟨⟨fd, F.ok sc__law_cell_at (fun vs H Q E h => by obtain ⟨_, ⟨_, _, _, rfl, _⟩, _⟩ := h; rfl) (fun cdv A outer s H vs Q E hR h => ?_), F.bindsN fun _ _ _ _ _ _ us hl => match us, hl with | [_, _], _ => rfl⟩, T.g__law_cell_at, F.kp⟩
  · obtain ⟨z, ⟨a, ns, j, rfl, ha, hj, rfl⟩, k⟩ := h
    refine ⟨_, (PSs.nox (pss_cons (ps_if (pt_cmpR op_lt (pv 1) (pe_callB call_len_seq (by rfl) T.z_len bo_len (pa_cons (pv 0) pa_nil)) (nomark _)) (pss_one (ps_ret (pe_ix ix_list (pv 0) (pv 1) (fun _ _ => rfl)))) pss_nil) (pss_one (ps_ret pe_int)))), ?_⟩
    refine q_when (b := decide (j < ns.length)) (et_is (et_test (ev_op (ev_var rfl) (ev_ln (ev_var rfl) (.inl ha)) rv_I0)) (by rw [List.length_map])) (fun hb H1 e1 => ?_) fun hb H1 e1 => ?_
    · have hb2 := of_decide_eq_true hb
      have e0 : cellZ ns j = ns.getD j.toNat 0 := if_pos hb2
      rw [e0] at k
      refine s_ret (ev_ixI (n := ns.getD j.toNat 0) (ev_var rfl) (ex_l e1 ha) (ev_var rfl) hj ?_) fun H2 e2 => k _ (e1.trans e2)
      rw [List.getD_eq_getElem?_getD, List.getElem?_eq_getElem (by omega)]
      rfl
    · have hb2 := of_decide_eq_false hb
      have e0 : cellZ ns j = 0 := if_neg hb2
      rw [e0] at k
      exact s_ret ev_c fun H2 e2 => k _ (e1.trans e2)
theorem sc__law_draw : FnScope ["_law_cell", "_law_k", "_law_many", "_law_primes"] ["_law_cell", "_law_k", "_law_many"] (defScope s__law_draw) := ⟨rfl, rfl, rfl, by decide +kernel, rfl, by decide +kernel, by decide +kernel⟩
theorem ok__law_draw (T : Tx K mg) : Kept P w K mg base CX0 1 "_law_draw" ["_law_cell", "_law_k", "_law_many"] (sp__law_draw K) := by
  obtain ⟨fd, F⟩ := T.d__law_draw
  refine ⟨⟨fd, F.ok sc__law_draw (fun vs H Q E h => by obtain ⟨_, ⟨_, _, _, rfl, _⟩, _⟩ := h; rfl) (fun cdv A outer s H vs Q E hR h => ?_), F.bindsN fun _ _ _ _ _ _ us hl => match us, hl with | [_, _, _], _ => rfl⟩, T.g__law_draw, F.kp⟩
  · obtain ⟨z, ⟨c, j, m, rfl, hj, hm, rfl⟩, k⟩ := h
    refine ⟨_, (PSs.nox (pss_cons (ps_set (i := 3) sc__law_draw.nd rfl (Or.inl rfl) (pe_tup (pa_cons pe_int (pa_cons pe_int (pa_cons pe_int (pa_cons pe_int (pa_cons pe_int (pa_cons pe_int (pa_cons pe_int (pa_cons pe_int (pa_cons pe_int (pa_cons pe_int (pa_cons pe_int (pa_cons pe_int (pa_cons pe_int (pa_cons pe_int (pa_cons pe_int (pa_cons pe_int pa_nil)))))))))))))))))) (pss_one (ps_ret (pe_op op_mod (pe_op op_mod (pe_op op_add (pe_op op_mul (pv 0) pe_int) (pe_op op_mul (pv 1) pe_int)) (pe_ix ix_tup (pv 3) (pe_op op_mod (pv 1) pe_int) (fun _ _ => rfl))) (pv 2)))))), ?_⟩
    refine q_asgU (eu_tup (vs := primesL.map V.int) (by
      unfold primesL
      exact ea_cons ev_c (ea_cons ev_c (ea_cons ev_c (ea_cons ev_c (ea_cons ev_c (ea_cons ev_c (ea_cons ev_c (ea_cons ev_c (ea_cons ev_c (ea_cons ev_c (ea_cons ev_c (ea_cons ev_c (ea_cons ev_c (ea_cons ev_c (ea_cons ev_c (ea_cons ev_c ea_nil)))))))))))))))) (by decide)) fun p H1 hp e1 h1 => ?_
    obtain ⟨pr, hpr, hp0, hpe⟩ := primes_at hj
    have hd : drawZ c j m = (c * 48271 + j * 69621) % pr % m := by unfold drawZ; rw [hpe]
    rw [hd] at k
    exact s_ret (ev_op (ev_op (ev_op (ev_op (ev_var rfl) ev_c (rv_I (.inr ⟨by decide, by decide⟩))) (ev_op (ev_var rfl) ev_c (rv_I (.inr ⟨by decide, by decide⟩))) rv_I0)
      (ev_op (ev_var rfl) (ev_op (ev_var rfl) ev_c (rv_I (by decide))) (rv_ixT (st_of h1) (by
        rw [show j % 16 = (((j % 16).toNat : Nat) : Int) by omega]
        exact at_int hpr))) (rv_I hp0)) (ev_var rfl) (rv_I hm)) fun H2 e2 => k _ (e1.trans e2)
theorem sc__law_row : FnScope ["_law_script", "_law_kind", "_law_most", "_law_row_here", "_law_k", "_law_load"] ["_law_script"] (defScope s__law_row) := ⟨rfl, rfl, rfl, by decide +kernel, rfl, by decide +kernel, by decide +kernel⟩
theorem ok__law_row (T : Tx K mg) : Kept P w K mg base CX0 2 "_law_row" ["_law_script"] (sp__law_row K) := by
  have D__law_cell_at : Kept P w K mg base CX0 1 "_law_cell_at" ["_law_script", "_law_k"] (sp__law_cell_at K) := ok__law_cell_at T
  have D__law_draw : Kept P w K mg base CX0 1 "_law_draw" ["_law_cell", "_law_k", "_law_many"] (sp__law_draw K) := ok__law_draw T
  obtain ⟨fd, F⟩ := T.d__law_row
  refine ⟨⟨fd, F.ok sc__law_row (fun vs H Q E h => by obtain ⟨_, ⟨_, _, rfl, _⟩, _⟩ := h; rfl) (fun cdv A outer s H vs Q E hR h => ?_), F.bindsN fun _ _ _ _ _ _ us hl => match us, hl with | [_], _ => rfl⟩, T.g__law_row, F.kp⟩
  · obtain ⟨z, ⟨a, ns, rfl, ha, hl, rfl⟩, k⟩ := h
    refine ⟨_, (PSs.nox (pss_cons (ps_set (i := 1) sc__law_row.nd rfl (Or.inl rfl) (pe_d D__law_draw (hR.mono (by decide)) (by rfl) (pa_cons (pe_d D__law_cell_at (hR.mono (by decide)) (by rfl) (pa_cons (pv 0) (pa_cons pe_int pa_nil))) (pa_cons pe_int (pa_cons pe_int pa_nil))))) (pss_cons (ps_set (i := 2) sc__law_row.nd rfl (Or.inl rfl) (pe_ix ix_tup (pe_tup (pa_cons pe_int (pa_cons pe_int (pa_cons pe_int (pa_cons pe_int pa_nil))))) (pe_d D__law_draw (hR.mono (by decide)) (by rfl) (pa_cons (pe_d D__law_cell_at (hR.mono (by decide)) (by rfl) (pa_cons (pv 0) (pa_cons pe_int pa_nil))) (pa_cons pe_int (pa_cons pe_int pa_nil)))) (fun _ _ => rfl))) (pss_cons (ps_set (i := 3) sc__law_row.nd rfl (Or.inl rfl) (pe_lst pa_nil)) (pss_cons (ps_for PassesOwn.never rfl (pi_range1 (by rfl) T.z_range (pa_cons (pe_callB call_len_seq (by rfl) T.z_len bo_len (pa_cons (pv 0) pa_nil)) pa_nil)) (pg_name (i := 4) sc__law_row.nd rfl (Or.inl rfl)) (pss_cons (ps_set (i := 5) sc__law_row.nd rfl (Or.inl rfl) (pe_d D__law_draw (hR.mono (by decide)) (by rfl) (pa_cons (pe_ix ix_list (pv 0) (pv 4) (fun _ _ => rfl)) (pa_cons (pe_op op_add (pe_op op_mod (pv 4) pe_int) pe_int) (pa_cons (pv 2) pa_nil))))) (pss_cons (ps_if (PW.pt (pw_and (pt_cmpR op_eq (pv 1) pe_int (nomark _)) (pw_and1 (pt_cmpR op_gt (pe_d D__law_draw (hR.mono (by decide)) (by rfl) (pa_cons (pe_ix ix_list (pv 0) (pv 4) (fun _ _ => rfl)) (pa_cons (pe_op op_add (pe_op op_mod (pv 4) pe_int) pe_int) (pa_cons pe_int pa_nil)))) pe_int (nomark _))))) (pss_one (ps_set (i := 5) sc__law_row.nd rfl (Or.inl rfl) pe_int)) pss_nil) (pss_cons (ps_if (pt_cmpR op_eq (pv 1) pe_int (nomark _)) (pss_one (ps_set (i := 5) sc__law_row.nd rfl (Or.inl rfl) (pe_op op_add (pe_op op_fdiv (pv 2) pe_int) (pe_op op_mod (pv 5) pe_int)))) pss_nil) (pss_one (ps_expr (pe_bm PySem.F.plainAttrs_list PySem.F.slot_list_append PySem.F.type_list_append mt_append (pv 3) (pa_cons (pv 5) pa_nil)))))))) (pss_one (ps_ret (pv 3)))))))), ?_⟩
    refine q_asg (v := .int (kindZ ns)) (ev_callV m__law_draw (ea_cons (ev_callV m__law_cell_at (ea_cons (ev_var rfl) (ea_cons ev_c ea_nil)) ⟨a, ns, 0, rfl, ha, by decide, rfl⟩) (ea_cons ev_c (ea_cons ev_c ea_nil))) ⟨_, 6, 4, rfl, by decide, by decide, rfl⟩) fun H1 e1 => ?_
    obtain ⟨hm1, hm2, hm3⟩ := mostZ_at (d := drawZ (cellZ ns 1) 7 4) (drawZ_lo (by decide)) (drawZ_hi (by decide))
    refine q_asg (v := .int (mostL ns)) (fun H2 e2 Q q => r_tup (r_cons (r_ev ev_c fun H3 e3 => r_cons (r_ev ev_c fun H4 e4 => r_cons (r_ev ev_c fun H5 e5 => r_cons (r_ev ev_c fun H6 e6 => r_nil ⟨by decide, fun p hp => ?_⟩))))) ) fun H2 e2 => ?_
    · have eb : Ex H2 (upd H6 p (.tup [.int 3, .int 30, .int 1000001, .int 10])) := (((e3.trans e4).trans e5).trans e6).trans (Ex.new hp)
      refine r_ev (ev_callV m__law_draw (ea_cons (ev_callV m__law_cell_at (ea_cons (ev_var rfl) (ea_cons ev_c ea_nil)) ⟨a, ns, 1, rfl, ex_l ((e1.trans e2).trans eb) ha, by decide, rfl⟩) (ea_cons ev_c (ea_cons ev_c ea_nil))) ⟨_, 7, 4, rfl, by decide, by decide, rfl⟩) fun H7 e7 => ?_
      refine rv_ixT (xs := ([3, 30, 1000001, 10] : List Int).map V.int) (st_of (e7 _ _ upd_same)) ?_ H7 (Ex.refl _) Q fun H8 e8 => q _ ((eb.trans e7).trans e8)
      rw [show drawZ (cellZ ns 1) 7 4 = (((drawZ (cellZ ns 1) 7 4).toNat : Nat) : Int) by have := drawZ_lo (c := cellZ ns 1) (k := 7) (m := 4) (by decide); omega]
      exact at_int hm1
    have e12 := e1.trans e2
    refine q_asgL (el_lst ea_nil (by decide)) fun p H3 hp e3 h3 => ?_
    have hp0 := fresh_back e12 hp
    refine q_forR1 (n := (ns.length : Int)) (ea_cons (ev_is (ev_ln (ev_var rfl) (.inl (ex_l (e12.trans e3) ha))) (by rw [List.length_map])) ea_nil) (by omega)
      (fun i σ' H' => ∃ v ld, σ' = [some (.ref a), some (.int (kindZ ns)), some (.int (mostL ns)), some (.ref p), v, ld] ∧ Ex H H' ∧ H' p = some (.lst (((List.range i).map fun k => load3 (kindZ ns) (mostL ns) (ns.getD k 0) k).map V.int)))
      (fun H4 e4 => ⟨none, none, rfl, (e12.trans e3).trans e4, e4 _ _ h3⟩) ?_ ?_
    · rintro i σ' H' hi ⟨v, ld, rfl, e, hH⟩
      have hi2 : i < ns.length := by omega
      have hat : ns[((i : Int)).toNat]? = some (ns.getD i 0) := by
        rw [Int.toNat_natCast, List.getD_eq_getElem?_getD, List.getElem?_eq_getElem hi2]
        rfl
      obtain ⟨m0, m1⟩ := mostL_ok ns
      refine q_asg (v := .int (load1 (mostL ns) (ns.getD i 0) i)) (ev_callV m__law_draw (ea_cons (ev_ixI (ev_var rfl) (ex_l e ha) (ev_var rfl) (Int.natCast_nonneg _) hat) (ea_cons (ev_op (ev_op (ev_var rfl) ev_c (rv_I (by decide))) ev_c rv_I0) (ea_cons (ev_var rfl) ea_nil))) ⟨_, _, _, rfl, by omega, by omega, rfl⟩) fun H4 e4 => ?_
      refine q_ifAsg (v := .int (load2 (kindZ ns) (mostL ns) (ns.getD i 0) i)) (b := decide (kindZ ns = 1) && decide (0 < drawZ (ns.getD i 0) ((i : Int) % 7 + 1) 3)) (et_and (et_is (et_test (ev_op (ev_var rfl) ev_c (rv_eq rfl))) (by simp)) fun _ => et_test (ev_op (ev_callV m__law_draw (ea_cons (ev_ixI (ev_var rfl) (ex_l (e.trans e4) ha) (ev_var rfl) (Int.natCast_nonneg _) hat) (ea_cons (ev_op (ev_op (ev_var rfl) ev_c (rv_I (by decide))) ev_c rv_I0) (ea_cons ev_c ea_nil))) ⟨_, _, _, rfl, by omega, by decide, rfl⟩) ev_c rv_I0))
        (fun hb => ev_is ev_c (by rw [load2, if_pos hb])) (fun hb => by rw [load2, if_neg (by rw [hb]; decide)]; rfl) fun H5 e5 => ?_
      refine q_ifAsg (v := .int (load3 (kindZ ns) (mostL ns) (ns.getD i 0) i)) (b := decide (kindZ ns = 2)) (et_is (et_test (ev_op (ev_var rfl) ev_c (rv_eq rfl))) (by simp))
        (fun hb => ev_is (ev_op (ev_op (ev_var rfl) ev_c (rv_I ⟨by decide, by decide⟩)) (ev_op (ev_var rfl) ev_c (rv_I (by decide))) rv_I0) (by rw [load3, if_pos hb])) (fun hb => by rw [load3, if_neg (by rw [hb]; decide)]; rfl) fun H6 e6 => ?_
      have e46 := (e4.trans e5).trans e6
      refine s_app (e46 _ _ hH) (ev_var rfl) (ev_var rfl) (by simp; omega) fun H7 e7 => ⟨_, _, rfl, Ex.mut ((e.trans e46).trans e7) hp0, ?_⟩
      rw [upd_same, List.range_succ, List.map_append, List.map_append]
      rfl
    · rintro σ' H' ⟨v, ld, rfl, e, hH⟩
      rw [Int.toNat_natCast] at hH
      exact s_ret (ev_var rfl) fun H4 e4 => k p _ hp0 (e.trans e4) (e4 _ _ hH)
theorem sc__law_numbers : FnScope ["_law_found", "_law_one"] ["_law_found"] (defScope s__law_numbers) := ⟨rfl, rfl, rfl, by decide +kernel, rfl, by decide +kernel, by decide +kernel⟩
theorem ok__law_numbers (T : Tx K mg) : Kept P w K mg base CX0 1 "_law_numbers" ["_law_found"] (sp__law_numbers K) := by
  obtain ⟨fd, F⟩ := T.d__law_numbers
  refine ⟨⟨fd, F.ok sc__law_numbers (fun vs H Q E h => by obtain ⟨_, ⟨_, _, rfl, _⟩, _⟩ := h; rfl) (fun cdv A outer s H vs Q E hR h => ?_), F.bindsN fun _ _ _ _ _ _ us hl => match us, hl with | [_], _ => rfl⟩, T.g__law_numbers, F.kp⟩
  · obtain ⟨z, ⟨a, ns, rfl, ha, hl, rfl⟩, k⟩ := h
    refine ⟨_, (PSs.nox (pss_cons (ps_if (pt_not (pt_val (pe_callB call_isi (by rfl) T.z_isinstance bo_isinstance (pa_cons (pv 0) (pa_cons (pe_bltn (v := .ty "list") (by rfl) T.z_list bo_list rfl) pa_nil))))) (pss_one (ps_ret pe_bl)) pss_nil) (pss_one (ps_ret (pe_not (pe_callB (cr_any rfl) (by rfl) T.z_any bo_any (pa_cons (pe_lc (own := [("_law_one", 1)]) (g := gName 1) (tt := tYes) rfl sc__law_numbers.nd (pi_list (pv 0)) (blkOk_by (N := ["_law_found", "_law_one"]) (sc := defScope s__law_numbers) (by decide +kernel)) (fun _ _ _ _ _ => pg_name (i := 1) sc__law_numbers.nd rfl (Or.inl rfl)) (fun _ _ _ _ _ => pts_nil) (fun _ _ _ _ _ => (pe_or (pe_callB (call_isiK' (K := K) rfl) (by rfl) T.z_isinstance bo_isinstance (pa_cons (pv 1) (pa_cons (pe_bltn (v := .ty "bool") (by rfl) T.z_bool bo_bool rfl) pa_nil))) (pe_one (pe_not (pe_callB (call_isiK' (K := K) rfl) (by rfl) T.z_isinstance bo_isinstance (pa_cons (pv 1) (pa_cons (pe_bltn (v := .ty "int") (by rfl) T.z_int bo_int rfl) pa_nil)))))))) pa_nil))))))), ?_⟩
    refine q_when (b := false) (et_not (et_B (ev_isT (b := true) (ev_var rfl) (tx_lst ha) (by decide +kernel)))) (fun h => by cases h) fun _ H1 e1 => ?_
    refine s_ret (ev_is (ev_notV (ev_anyN (el_mapIB (fun n => false || !true) (ev_var rfl) (sq_of (e1 _ _ ha)) (by omega) (fun x => rfl) fun n H2 e2 hm => ev_orV (ev_isT (ev_var rfl) tx_int (by decide +kernel)) fun _ => ev_notV (ev_isT (ev_var rfl) tx_int (by decide +kernel))))) ?_) fun H2 e2 => k _ (e1.trans e2)
    have e0 : ((ns.map fun _ => (false || !true)).any id) = false := by
      rw [List.any_eq_false]
      intro b hb
      obtain ⟨_, _, rfl⟩ := List.mem_map.mp hb
      decide
    rw [e0]
    rfl
theorem sc__law_rising : FnScope ["_law_places", "_law_least", "_law_many", "_law_last", "_law_place"] ["_law_places", "_law_least", "_law_many"] (defScope s__law_rising) := ⟨rfl, rfl, rfl, by decide +kernel, rfl, by decide +kernel, by decide +kernel⟩
theorem ok__law_rising (T : Tx K mg) : Kept P w K mg base CX0 1 "_law_rising" ["_law_places", "_law_least", "_law_many"] (sp__law_rising K) := by
  obtain ⟨fd, F⟩ := T.d__law_rising
  refine ⟨⟨fd, F.ok sc__law_rising (fun vs H Q E h => by obtain ⟨_, ⟨_, _, _, _, rfl, _⟩, _⟩ := h; rfl) (fun cdv A outer s H vs Q E hR h => ?_), F.bindsN fun _ _ _ _ _ _ us hl => match us, hl with | [_, _, _], _ => rfl⟩, T.g__law_rising, F.kp⟩
  · obtain ⟨z, ⟨a, cs, l0, m, rfl, ha, rfl⟩, k⟩ := h
    refine ⟨_, (PSs.nox (pss_cons (ps_set (i := 3) sc__law_rising.nd rfl (Or.inl rfl) (pe_op op_sub (pv 1) pe_int)) (pss_cons (ps_for PassesOwn.never rfl (pi_list (pv 0)) (pg_name (i := 4) sc__law_rising.nd rfl (Or.inl rfl)) (pss_cons (ps_if (pt_not (pt_chain op_lt op_lt (pv 3) (pv 4) (pv 2))) (pss_one (ps_ret pe_bl)) pss_nil) (pss_one (ps_set (i := 3) sc__law_rising.nd rfl (Or.inl rfl) (pv 4))))) (pss_one (ps_ret pe_bl))))), ?_⟩
    refine q_asg (v := .int (l0 - 1)) (ev_op (ev_var rfl) ev_c rv_I0) fun H1 e1 => ?_
    refine q_forLn (ev_var rfl) (sq_of (e1 _ _ ha)) (fun i σ' H' => ∃ l v, σ' = [some (.ref a), some (.int l0), some (.int m), some (.int l), v] ∧ Ex H H' ∧ risB (l0 - 1) cs m = risB l (cs.drop i) m) (fun H2 e2 => ⟨l0 - 1, none, rfl, e1.trans e2, rfl⟩) (fun i σ' H' _ ⟨_, _, _, e, _⟩ => sq_of (e _ _ ha)) ?_ ?_
    · rintro i x σ' H' hi ⟨l, v, rfl, e, hr⟩
      obtain ⟨c, rfl, hc⟩ := int_at hi
      rw [drop_at hc] at hr
      refine q_when (b := !(decide (l < c) && decide (c < m))) (et_not (et_ch (ev_var rfl) (ev_var rfl) rv_I0 (fun _ => ev_var rfl) fun _ => rv_I0)) (fun hb H2 e2 => s_ret ev_c fun H3 e3 => ?_) fun hb H2 e2 => s_asg (ev_var rfl) fun H3 e3 => ⟨c, _, rfl, (e.trans e2).trans e3, ?_⟩
      · have e0 : risB (l0 - 1) cs m = false := by
          rw [hr, risB]
          rw [Bool.not_eq_true'] at hb
          rw [hb, Bool.false_and]
        rw [e0] at k
        exact k _ ((e.trans e2).trans e3)
      · rw [hr, risB]
        rw [Bool.not_eq_false'] at hb
        rw [hb, Bool.true_and]
    · rintro σ' H' ⟨l, v, rfl, e, hr⟩
      refine s_ret ev_c fun H3 e3 => ?_
      have e0 : risB (l0 - 1) cs m = true := by
        rw [hr, List.drop_eq_nil_of_le (by rw [List.length_map]; exact Nat.le_refl _)]
        rfl
      rw [e0] at k
      exact k _ (e.trans e3)
theorem sc__law_borne : FnScope ["_law_row_here", "_law_cuts", "_law_found", "_law_place"] ["_law_row_here", "_law_cuts"] (defScope s__law_borne) := ⟨rfl, rfl, rfl, by decide +kernel, rfl, by decide +kernel, by decide +kernel⟩
theorem ok__law_borne (T : Tx K mg) : Kept P w K mg base CX0 1 "_law_borne" ["_law_row_here", "_law_cuts"] (sp__law_borne K) := by
  obtain ⟨fd, F⟩ := T.d__law_borne
  refine ⟨⟨fd, F.ok sc__law_borne (fun vs H Q E h => by obtain ⟨_, ⟨_, _, _, _, rfl, _⟩, _⟩ := h; rfl) (fun cdv A outer s H vs Q E hR h => ?_), F.bindsN fun _ _ _ _ _ _ us hl => match us, hl with | [_, _], _ => rfl⟩, T.g__law_borne, F.kp⟩
  · obtain ⟨z, ⟨a, c, ns, cs, rfl, ha, hc, hl, rfl⟩, k⟩ := h
    refine ⟨_, (PSs.nox (pss_cons (ps_if (pt_cmpR (op_eqD hR.units) (pv 0) (pe_lst pa_nil) (nomark _)) (pss_one (ps_ret (pe_lst pa_nil))) pss_nil) (pss_cons (ps_set (i := 2) sc__law_borne.nd rfl (Or.inl rfl) (pe_lst (pa_cons pe_int pa_nil))) (pss_cons (ps_for PassesOwn.never rfl (pi_range1 (by rfl) T.z_range (pa_cons (pe_callB call_len_seq (by rfl) T.z_len bo_len (pa_cons (pv 0) pa_nil)) pa_nil)) (pg_name (i := 3) sc__law_borne.nd rfl (Or.inl rfl)) (pss_cons (ps_if (pt_cmpR op_in_seq (pv 3) (pv 1) (by rfl)) (pss_one (ps_expr (pe_bm PySem.F.plainAttrs_list PySem.F.slot_list_append PySem.F.type_list_append mt_append (pv 2) (pa_cons pe_int pa_nil)))) pss_nil) (pss_one (ps_asg (pe_op op_add (pe_ix ix_list (pv 2) (pe_un un_neg pe_int) (fun _ _ => rfl)) (pe_ix ix_list (pv 0) (pv 3) (fun _ _ => rfl))) (pg_sub (pv 2) (pe_un un_neg pe_int) set_list))))) (pss_one (ps_ret (pv 2))))))), ?_⟩
    refine q_when (b := decide (ns = [])) (et_test (ev_opL (xs := ([] : List Int).map V.int) (ev_var rfl) (el_lst ea_nil (by decide)) fun p H1 h1 e1 => rv_eqI (sq_of (e1 _ _ ha)) (sq_of h1))) (fun hb H1 e1 => ?_) fun hb H1 e1 => ?_
    · have e0 : borneL ns cs = [] := if_pos (of_decide_eq_true hb)
      rw [e0] at k
      exact s_retL (el_lst ea_nil (by decide)) fun p H2 hp e2 h2 => k p _ (fresh_back e1 hp) (e1.trans e2) h2
    have e0 : borneL ns cs = bornePut cs 0 ns [0] := if_neg (of_decide_eq_false hb)
    rw [e0] at k
    refine q_asgL (xs := ([0] : List Int).map V.int) (el_lst (ea_cons ev_c ea_nil) (by decide)) fun p H2 hp e2 h2 => ?_
    have hp0 := fresh_back e1 hp
    have e12 := e1.trans e2
    refine q_forR1 (n := (ns.length : Int)) (ea_cons (ev_is (ev_ln (ev_var rfl) (.inl (sq_of (e12 _ _ ha)))) (by rw [List.length_map])) ea_nil) (by omega)
      (fun i σ' H' => ∃ v, σ' = [some (.ref a), some (.ref c), some (.ref p), v] ∧ Ex H H' ∧ H' p = some (.lst ((bornePut cs 0 (ns.take i) [0]).map V.int)))
      (fun H3 e3 => ⟨none, rfl, e12.trans e3, e3 _ _ h2⟩) ?_ ?_
    · rintro i σ' H' hi ⟨v, rfl, e, hH⟩
      have hi2 : i < ns.length := by omega
      have hat : ns[i]? = some ns[i] := List.getElem?_eq_getElem hi2
      have hlen : (bornePut cs 0 (ns.take i) [0]).length ≤ 1 + i := by
        have := bornePut_len cs (ns.take i) 0 [0] (by simp)
        rw [List.length_take] at this
        simp at this
        omega
      -- behind the test the list is g
      have step : ∀ (g : List Int) (H2 : Hp), g ≠ [] → Ex H H2 → H2 p = some (.lst (g.map V.int)) → bornePut cs 0 (ns.take (i + 1)) [0] = addLast g ns[i] →
          tAsg (tOp (rI0 fun i j => .int (i + j)) (tOp (rIxL K) (tVar 2) (tUn (rU fun i => .int (-i)) (tC (.int 1)))) (tOp (rIxL K) (tVar 0) (tVar 3))) (gSub (tVar 2) (tUn (rU fun i => .int (-i)) (tC (.int 1))) rSetL)
            { nx := fun σ' H' => ∃ v, σ' = [some (.ref a), some (.ref c), some (.ref p), v] ∧ Ex H H' ∧ H' p = some (.lst ((bornePut cs 0 (ns.take (i + 1)) [0]).map V.int)), rt := Q, bk := tRet (tVar 2) { nx := fun _ H' => Q .non H', rt := Q },
              ct := fun σ' H' => ∃ v, σ' = [some (.ref a), some (.ref c), some (.ref p), v] ∧ Ex H H' ∧ H' p = some (.lst ((bornePut cs 0 (ns.take (i + 1)) [0]).map V.int)) }
            [some (.ref a), some (.ref c), some (.ref p), some (.int (i : Int))] H2 := by
        intro g H2 hg e2 h2 eg
        obtain ⟨g0, x, rfl⟩ : ∃ g0 x, g = g0 ++ [x] := ⟨g.dropLast, g.getLast hg, (List.dropLast_concat_getLast hg).symm⟩
        rw [List.map_append] at h2
        refine s_setLast (xs := g0.map V.int) (w := .int x) h2 (ev_op (ev_ixLast (ev_var rfl) (sq_of h2)) (ev_ixI (ev_var rfl) (sq_of (e2 _ _ ha)) (ev_var rfl) (Int.natCast_nonneg _) (by rw [Int.toNat_natCast]; exact hat)) rv_I0) (ev_var rfl) fun H3 e3 => ⟨_, rfl, Ex.mut (e2.trans e3) hp0, ?_⟩
        rw [upd_same, eg]
        simp [addLast]
      refine q_when (b := decide ((i : Int) ∈ cs)) (et_test (ev_op (ev_var rfl) (ev_var rfl) (rv_inI (sq_of (e _ _ hc))))) (fun hb H2 e2 => ?_) fun hb H2 e2 => ?_
      · refine s_app (e2 _ _ hH) (ev_var rfl) ev_c (by rw [List.length_map]; omega) fun H3 e3 => ?_
        refine step (bornePut cs 0 (ns.take i) [0] ++ [0]) _ (by simp) (Ex.mut ((e.trans e2).trans e3) hp0) ?_ ?_
        · rw [upd_same, List.map_append]
          rfl
        · rw [take_snoc hat, bornePut_snoc, List.length_take, Nat.min_eq_left (Nat.le_of_lt hi2), Nat.zero_add, if_pos hb]
      · refine step (bornePut cs 0 (ns.take i) [0]) _ (bornePut_ne cs _ _ _ (by simp)) (e.trans e2) (e2 _ _ hH) ?_
        rw [take_snoc hat, bornePut_snoc, List.length_take, Nat.min_eq_left (Nat.le_of_lt hi2), Nat.zero_add, if_neg (by rw [hb]; decide)]
    · rintro σ' H' ⟨v, rfl, e, hH⟩
      rw [Int.toNat_natCast, List.take_length] at hH
      exact s_ret (ev_var rfl) fun H4 e4 => k p _ hp0 (e.trans e4) (e4 _ _ hH)

end
end Ct
namespace Ct
open PySem PySem.Spec PyProof.Rows L2 Evl
open He (ga ma)
section
variable {P : Program} {w : World} {K : PySem.W.Frag} {mg : Str → Option Value} {base : Heap}
/-! ### plain: the two reckonings of what the parts bear -/
def psm (ns : List Int) (x : Int) : Int := (ns.take x.toNat).sum
def seg (ns : List Int) (l : Int) : List Int → Int → List Int
  | [], e => [psm ns e - psm ns l]
  | c :: r, e => (psm ns c - psm ns l) :: seg ns c r e
theorem segR (ns : List Int) (e : Int) : ∀ (cs : List Int) (l : Int), ((List.range (cs.length + 1)).map fun k => psm ns ((cs ++ [e]).getD k 0) - psm ns ((l :: cs).getD k 0)) = seg ns l cs e
  | [], l => rfl
  | c :: r, l => by
    rw [List.length_cons, List.range_succ_eq_map, List.map_cons, List.map_map]
    exact congrArg (List.cons _) (segR ns e r c)
theorem parts_seg {ns cs : List Int} (h : ns ≠ []) : partsP ns cs = seg ns 0 cs ns.length := by
  unfold partsP
  rw [if_neg h]
  exact segR ns ns.length cs 0
theorem ris_head : ∀ {cs : List Int} {l m : Int}, risB l cs m = true → ∀ i, l < i → (i ∈ cs → ∃ c r, cs = c :: r ∧ c ≤ i)
  | [], _, _, _, i, _, h => by cases h
  | c :: r, l, m, h, i, hi, hm => by
    refine ⟨c, r, rfl, ?_⟩
    simp only [risB, Bool.and_eq_true, decide_eq_true_eq] at h
    rcases List.mem_cons.mp hm with e | hm
    · omega
    · have := ris_mem h.2 i hm
      omega
theorem ris_weak : ∀ {cs : List Int} {l l' m : Int}, l' ≤ l → risB l cs m = true → risB l' cs m = true
  | [], _, _, _, _, _ => rfl
  | c :: r, l, l', m, h, hr => by
    simp only [risB, Bool.and_eq_true, decide_eq_true_eq] at hr ⊢
    exact ⟨⟨by omega, hr.1.2⟩, hr.2⟩
theorem ris_up : ∀ {cs : List Int} {l m : Int}, risB (l - 1) cs m = true → l ∉ cs → risB l cs m = true
  | [], _, _, _, _ => rfl
  | c :: r, l, m, hr, hn => by
    simp only [risB, Bool.and_eq_true, decide_eq_true_eq] at hr ⊢
    have : c ≠ l := fun q => hn (by rw [q]; exact List.mem_cons_self)
    exact ⟨⟨by omega, hr.1.2⟩, hr.2⟩
theorem put_seg (ns cs : List Int) : ∀ (r : List Int) (i : Nat) (pre f0 : List Int) (x : Int) (cr : List Int) (l : Int), ns = pre ++ r → pre.length = i → (∀ j : Int, (i : Int) ≤ j → (j ∈ cs ↔ j ∈ cr)) → risB ((i : Int) - 1) cr ns.length = true → x = psm ns i - psm ns l →
    bornePut cs i r (f0 ++ [x]) = f0 ++ seg ns l cr ns.length
  | [], i, pre, f0, x, cr, l, e, hp, hm, hr, hx => by
    have hl : (ns.length : Int) = i := by rw [e, List.append_nil, hp]
    cases cr with
    | nil =>
      rw [bornePut, seg, hx, hl]
    | cons c q =>
      simp only [risB, Bool.and_eq_true, decide_eq_true_eq] at hr
      omega
  | n :: r, i, pre, f0, x, cr, l, e, hp, hm, hr, hx => by
    have e2 : ns = (pre ++ [n]) ++ r := by rw [e, List.append_assoc]; rfl
    have hp2 : (pre ++ [n]).length = i + 1 := by rw [List.length_append, hp]; rfl
    have hs : psm ns ((i + 1 : Nat) : Int) = psm ns i + n := by
      unfold psm
      rw [Int.toNat_natCast, Int.toNat_natCast]
      have h1 : ns.take (i + 1) = pre ++ [n] := by rw [e2, ← hp2, List.take_left]
      have h2 : ns.take i = pre := by rw [e, ← hp, List.take_left]
      rw [h1, h2, List.sum_append, List.sum_singleton]
    rw [bornePut]
    by_cases hi : (i : Int) ∈ cs
    · rw [if_pos (decide_eq_true hi)]
      have hi2 := (hm i (Int.le_refl _)).mp hi
      obtain ⟨c, q, rfl, hc⟩ := ris_head hr i (by omega) hi2
      have hr2 := hr
      simp only [risB, Bool.and_eq_true, decide_eq_true_eq] at hr2
      have ec : c = i := by omega
      subst ec
      have ih := put_seg ns cs r (i + 1) (pre ++ [n]) (f0 ++ [x]) (psm ns ((i + 1 : Nat) : Int) - psm ns i) q i e2 hp2 (fun j hj => ?_) ?_ rfl
      · have ea : addLast (f0 ++ [x] ++ [0]) n = (f0 ++ [x]) ++ [psm ns ((i + 1 : Nat) : Int) - psm ns i] := by
          rw [hs]
          simp [addLast]
          omega
        rw [ea, ih, seg, hx, List.append_assoc]
        rfl
      · rw [hm j (by omega)]
        refine ⟨fun h => ?_, fun h => List.mem_cons_of_mem _ h⟩
        rcases List.mem_cons.mp h with z | z
        · omega
        · exact z
      · have : ((i + 1 : Nat) : Int) - 1 = i := by omega
        rw [this]
        exact hr2.2
    · rw [if_neg (by rw [decide_eq_false hi]; decide)]
      have hi2 : (i : Int) ∉ cr := fun z => hi ((hm i (Int.le_refl _)).mpr z)
      have ih := put_seg ns cs r (i + 1) (pre ++ [n]) f0 (x + n) cr l e2 hp2 (fun j hj => hm j (by omega)) ?_ (by rw [hs, hx]; omega)
      · have ea : addLast (f0 ++ [x]) n = f0 ++ [x + n] := by simp [addLast]
        rw [ea, ih]
      · have : ((i + 1 : Nat) : Int) - 1 = i := by omega
        rw [this]
        exact ris_up hr hi2
theorem parts_borne {ns cs : List Int} (hr : risB 0 cs ns.length = true) : partsP ns cs = borneL ns cs := by
  by_cases h : ns = []
  · subst h
    rfl
  rw [parts_seg h]
  unfold borneL
  rw [if_neg h]
  have q := put_seg ns cs ns 0 [] [] 0 cs 0 rfl rfl (fun _ _ => Iff.rfl) (ris_weak (by decide) hr) (by simp [psm])
  exact q.symm
theorem ris_of_pw : ∀ {cs : List Int} {l m : Int}, cs.Pairwise (· < ·) → (∀ c ∈ cs, l < c ∧ c < m) → risB l cs m = true
  | [], _, _, _, _ => rfl
  | c :: r, l, m, hp, h => by
    rw [List.pairwise_cons] at hp
    simp only [risB, Bool.and_eq_true, decide_eq_true_eq]
    exact ⟨h c List.mem_cons_self, ris_of_pw hp.2 fun d hd => ⟨hp.1 d hd, (h d (List.mem_cons_of_mem _ hd)).2⟩⟩
/-- the cuts that a law draws; all places -/
def cutsZ (ns : List Int) (i : Nat) : Bool := decide (drawZ (ns.getD (i + 1) 0) ((1 + (i : Int)) % 3 + 9) 3 = 0)
def cutsL (ns : List Int) : List Int := ((List.range (ns.length - 1)).filter (cutsZ ns)).map fun (i : Nat) => 1 + (i : Int)
theorem ris_map (f : Nat → Bool) (n : Nat) : risB 0 (((List.range (n - 1)).filter f).map fun (i : Nat) => 1 + (i : Int)) n = true := by
  refine ris_of_pw ?_ fun c hc => ?_
  · rw [List.pairwise_map]
    exact (List.pairwise_lt_range.filter f).imp fun h => by omega
  · obtain ⟨i, hi, rfl⟩ := List.mem_map.mp hc
    have := List.mem_range.mp (List.mem_filter.mp hi).1
    omega
theorem cutsL_ris (ns : List Int) (n : Nat) (h : n = ns.length) : risB 0 (cutsL ns) n = true := by
  rw [h]
  exact ris_map _ _
theorem cutsL_len (ns : List Int) : (cutsL ns).length ≤ ns.length := by
  unfold cutsL
  rw [List.length_map]
  have := List.length_filter_le (cutsZ ns) (List.range (ns.length - 1))
  rw [List.length_range] at this
  omega
def allP (n : Nat) : List Int := (List.range (n - 1)).map fun (i : Nat) => 1 + (i : Int)
theorem allP_ris (n : Nat) : risB 0 (allP n) n = true := by
  have q := ris_map (fun _ => true) n
  rw [List.filter_eq_self.mpr fun _ _ => rfl] at q
  exact q
theorem rgV_all (n : Nat) : rgV 1 (n : Int) = (allP n).map V.int := by
  unfold rgV allP
  rw [List.map_map, show ((n : Int) - 1).toNat = n - 1 by omega]
  rfl
theorem sum_nn : ∀ {ns : List Int}, (∀ n ∈ ns, 0 ≤ n) → 0 ≤ ns.sum
  | [], _ => by simp
  | a :: r, h => by
    rw [List.sum_cons]
    have h1 := h a List.mem_cons_self
    have h2 := sum_nn (ns := r) fun n hn => h n (List.mem_cons_of_mem _ hn)
    omega
/-! ### the evenest parting -/
def ap (ns : List Int) (k : Nat) : Int := if 2 * (ns.take k).sum - ns.sum < 0 then -(2 * (ns.take k).sum - ns.sum) else 2 * (ns.take k).sum - ns.sum
theorem apart_eq (ns : List Int) : apartP ns = (List.range (ns.length + 1)).map (ap ns) := by
  unfold apartP psums
  rw [List.map_map]
  rfl
structure HInv (ns : List Int) (i : Nat) (best : Int) (at_ : Nat) : Prop where
  le : at_ ≤ i
  eq : best = ap ns at_
  all : ∀ k, k ≤ i → best ≤ ap ns k
  fst : ∀ k, k < at_ → best < ap ns k
theorem HInv.start {ns : List Int} (h : ∀ n ∈ ns, 0 ≤ n ∧ n ≤ 1000000) : HInv ns 0 ns.sum 0 := by
  have h0 : 0 ≤ ns.sum := sum_nn fun n hn => (h n hn).1
  have e : ap ns 0 = ns.sum := by
    unfold ap
    simp
    omega
  exact ⟨Nat.le_refl _, e.symm, fun k hk => by rw [show k = 0 by omega, e]; exact Int.le_refl _, fun k hk => by omega⟩
theorem HInv.next {ns : List Int} {i : Nat} {best x : Int} {at_ : Nat} (h : HInv ns i best at_) (hx : x = ap ns (i + 1)) : if x < best then HInv ns (i + 1) x (i + 1) else HInv ns (i + 1) best at_ := by
  split
  · rename_i hlt
    refine ⟨Nat.le_refl _, hx, fun k hk => ?_, fun k hk => ?_⟩
    · by_cases hk2 : k ≤ i
      · have := h.all k hk2
        omega
      · rw [show k = i + 1 by omega, hx]
        exact Int.le_refl _
    · have := h.all k (by omega)
      omega
  · rename_i hge
    refine ⟨by have := h.le; omega, h.eq, fun k hk => ?_, h.fst⟩
    by_cases hk2 : k ≤ i
    · exact h.all k hk2
    · rw [show k = i + 1 by omega, ← hx]
      omega
theorem HInv.done {ns : List Int} {best : Int} {at_ : Nat} (h : HInv ns ns.length best at_) : halvedP ns = at_ := by
  have hat : at_ < (apartP ns).length := by
    rw [apart_eq, List.length_map, List.length_range]
    have := h.le
    omega
  have hget : ∀ k (hk : k < (apartP ns).length), (apartP ns)[k] = ap ns k := fun k hk => by
    simp [apart_eq]
  have hm : best = mnL (apartP ns) := mnL_eq (by
    rw [h.eq, ← hget at_ hat]
    exact List.getElem_mem _) fun y hy => by
    rw [apart_eq] at hy
    obtain ⟨k, hk, rfl⟩ := List.mem_map.mp hy
    exact h.all k (by have := List.mem_range.mp hk; omega)
  unfold halvedP
  rw [← hm]
  rw [List.findIdx_eq hat]
  refine ⟨by rw [hget, h.eq]; simp, fun j hj => ?_⟩
  rw [hget j (by omega)]
  have := h.fst j hj
  simp
  omega

end
end Ct
namespace Ct
open PySem PySem.Spec PyProof.Rows L2 Evl
open He (ga ma)
section
variable {P : Program} {w : World} {K : PySem.W.Frag} {mg : Str → Option Value} {base : Heap}
/-! ### the law -/
def sp_law (K : PySem.W.Frag) : Sp := fun vs H Q _ => ∃ (a : Addr) (ns : List Int), vs = [.ref a] ∧ SqL K H a (ns.map V.int) ∧ ns.length ≤ 63 ∧ ∀ H', Q (.bl true) H'
theorem sc_law : FnScope ["_law_script", "_law_row_here", "_law_cuts", "_law_some", "_law_handed", "_law_found", "_law_ahead", "_law_best", "_law_at", "_law_place"] ["_law_script"] (defScope s_law) := ⟨rfl, rfl, rfl, by decide +kernel, rfl, by decide +kernel, by decide +kernel⟩
theorem ok_law (T : Tx K mg) {fd : FuncData} (F : FunD K "law" "law" (defArgs s_law) (defBody s_law) (defScope s_law) [] [] (ga K "law") fd) : FnOk P w K mg base CX0 5 (ga K "law") fd ["_law_script"] (sp_law K) := by
  have D__law_borne : Kept P w K mg base CX0 1 "_law_borne" ["_law_row_here", "_law_cuts"] (sp__law_borne K) := ok__law_borne T
  have D__law_draw : Kept P w K mg base CX0 1 "_law_draw" ["_law_cell", "_law_k", "_law_many"] (sp__law_draw K) := ok__law_draw T
  have D__law_numbers : Kept P w K mg base CX0 1 "_law_numbers" ["_law_found"] (sp__law_numbers K) := ok__law_numbers T
  have D__law_row : Kept P w K mg base CX0 2 "_law_row" ["_law_script"] (sp__law_row K) := ok__law_row T
  have D_borne : Kept P w K mg base CX0 4 "borne" ["row", "cuts"] (sp_borne K) := ok_borne T
  have D_halved : Kept P w K mg base CX0 3 "halved" ["row"] (sp_halved K) := ok_halved T
  refine F.ok sc_law (fun vs H Q E h => by obtain ⟨_, _, rfl, _⟩ := h; rfl) (fun cdv A outer s H vs Q E hR h => ?_)
  · obtain ⟨a, ns, rfl, ha, hl, k⟩ := h
    refine ⟨_, (PSs.nox (pss_cons (ps_set (i := 1) sc_law.nd rfl (Or.inl rfl) (pe_d D__law_row (hR.mono (by decide)) (by rfl) (pa_cons (pv 0) pa_nil))) (pss_cons (ps_setLc (i := 2) rfl sc_law.nd rfl rfl (sw_true rfl rfl rfl (by decide +kernel)) (own := [("_law_place", 9)]) (g := gName 9) (tt := _) (pi_range2 (by rfl) T.z_range (pa_cons pe_int (pa_cons (pe_callB call_len_seq (by rfl) T.z_len bo_len (pa_cons (pv 1) pa_nil)) pa_nil))) (blkOk_by (N := ["_law_script", "_law_row_here", "_law_cuts", "_law_some", "_law_handed", "_law_found", "_law_ahead", "_law_best", "_law_at", "_law_place"]) (sc := defScope s_law) (by decide +kernel)) (fun _ _ _ _ _ => pg_name (i := 9) sc_law.nd rfl (Or.inl rfl)) (fun _ _ _ _ _ => (pts_one (pt_cmpR op_eq (pe_d D__law_draw (hR.mono (by decide)) (by rfl) (pa_cons (pe_ix (ix_listK (K := K) rfl) (pv 0) (pv 9) (fun _ _ => rfl)) (pa_cons (pe_op op_add (pe_op op_mod (pv 9) pe_int) pe_int) (pa_cons pe_int pa_nil)))) pe_int (nomark _)))) (fun _ _ _ _ _ => (pv 9))) (pss_cons (ps_for PassesOwn.never rfl (pi_list (pe_lst (pa_cons (pv 2) (pa_cons (pe_listRg rfl (by rfl) T.z_list (prg_2 (by rfl) T.z_range pe_int (pe_callB call_len_seq (by rfl) T.z_len bo_len (pa_cons (pv 1) pa_nil)))) (pa_cons (pe_lst pa_nil) (pa_cons (pv 2) pa_nil)))))) (pg_name (i := 3) sc_law.nd rfl (Or.inl rfl)) (pss_cons (ps_set (i := 4) sc_law.nd rfl (Or.inl rfl) (pe_lst (pa_cons (pe_callTy call_list_of (by rfl) T.z_list bo_list (pa_cons (pv 1) pa_nil)) (pa_cons (pe_callTy call_list_of (by rfl) T.z_list bo_list (pa_cons (pv 3) pa_nil)) pa_nil)))) (pss_cons (ps_set (i := 5) sc_law.nd rfl (Or.inl rfl) (pe_d D_borne (hR.mono (by decide)) (by rfl) (pa_cons (pe_ix ix_list (pv 4) pe_int (fun _ _ => rfl)) (pa_cons (pe_ix ix_list (pv 4) pe_int (fun _ _ => rfl)) pa_nil)))) (pss_cons (ps_if (PW.pt (pw_or (pt_not (pt_val (pe_d D__law_numbers (hR.mono (by decide)) (by rfl) (pa_cons (pv 5) pa_nil)))) (pw_or (pt_cmpR (op_neD hR.units) (pv 5) (pe_d D__law_borne (hR.mono (by decide)) (by rfl) (pa_cons (pv 1) (pa_cons (pv 3) pa_nil))) (nomark _)) (pw_or1 (pt_cmpR (op_neD hR.units) (pv 4) (pe_lst (pa_cons (pv 1) (pa_cons (pv 3) pa_nil))) (nomark _)))))) (pss_one (ps_ret pe_bl)) pss_nil) (pss_one (ps_expr (pe_bm PySem.F.plainAttrs_list PySem.F.slot_list_append PySem.F.type_list_append mt_append (pv 5) (pa_cons pe_int pa_nil)))))))) (pss_cons (ps_par3 (i := 6) (j := 7) (l := 8) (by rfl) sc_law.nd rfl rfl rfl (by decide) (by decide) (by decide) rfl rfl rfl (pa_cons pe_int (pa_cons (pe_callB (cr_sum rfl) (by rfl) T.z_sum bo_sum (pa_cons (pv 1) pa_nil)) (pa_cons pe_int pa_nil))) (by rfl)) (pss_cons (ps_for PassesOwn.never rfl (pi_range1 (by rfl) T.z_range (pa_cons (pe_callB call_len_seq (by rfl) T.z_len bo_len (pa_cons (pv 1) pa_nil)) pa_nil)) (pg_name (i := 9) sc_law.nd rfl (Or.inl rfl)) (pss_cons (ps_set (i := 6) sc_law.nd rfl (Or.inl rfl) (pe_op op_add (pv 6) (pe_ix ix_list (pv 1) (pv 9) (fun _ _ => rfl)))) (pss_one (ps_if (pt_cmpR op_lt (pe_callB call_abs (by rfl) T.z_abs bo_abs (pa_cons (pe_op op_sub (pe_callB (cr_sum rfl) (by rfl) T.z_sum bo_sum (pa_cons (pv 1) pa_nil)) (pe_op op_mul pe_int (pv 6))) pa_nil)) (pv 7) (nomark _)) (pss_one (ps_par (i := 7) (j := 8) (by rfl) sc_law.nd rfl rfl (by decide) rfl rfl (pa_cons (pe_callB call_abs (by rfl) T.z_abs bo_abs (pa_cons (pe_op op_sub (pe_callB (cr_sum rfl) (by rfl) T.z_sum bo_sum (pa_cons (pv 1) pa_nil)) (pe_op op_mul pe_int (pv 6))) pa_nil)) (pa_cons (pe_op op_add (pv 9) pe_int) pa_nil)) (by rfl))) pss_nil)))) (pss_cons (ps_set (i := 4) sc_law.nd rfl (Or.inl rfl) (pe_callTy call_list_of (by rfl) T.z_list bo_list (pa_cons (pv 1) pa_nil))) (pss_one (ps_ret (pe_and (pe_cmpR op_eq (pe_d D_halved (hR.mono (by decide)) (by rfl) (pa_cons (pv 4) pa_nil)) (pv 8) (nomark _)) (pe_and (pe_not (pe_callB call_isi (by rfl) T.z_isinstance bo_isinstance (pa_cons (pe_d D_halved (hR.mono (by decide)) (by rfl) (pa_cons (pv 4) pa_nil)) (pa_cons (pe_bltn (v := .ty "bool") (by rfl) T.z_bool bo_bool rfl) pa_nil)))) (pe_and (pe_cmpR (op_eqD hR.units) (pv 4) (pv 1) (nomark _)) (pe_one (pe_cmpR (op_eqD hR.units) (pe_d D_borne (hR.mono (by decide)) (by rfl) (pa_cons (pe_lst pa_nil) (pa_cons (pe_lst pa_nil) pa_nil))) (pe_lst pa_nil) (nomark _))))))))))))))), ?_⟩
    refine q_asgL (el_callL m__law_row (ea_cons (ev_var rfl) ea_nil) ⟨a, ns, rfl, ha, hl, rfl⟩) fun p H1 hp e1 hrow => ?_
    have hR := lawRow_ok ns
    have hRl := lawRow_len ns
    generalize hRR : lawRow ns = R at hrow hR hRl
    refine q_asgL (xs := (cutsL ns).map V.int) (el_is (el_lcR2 (cutsZ ns) (fun i => .int (1 + (i : Int))) (ea_cons ev_c (ea_cons (ev_ln (ev_var rfl) (.inl (sq_of hrow))) ea_nil)) (by rw [List.length_map]; omega) (fun x => rfl)
      (fun i H2 e2 hi => ?_) fun i H2 e2 hi hf => ev_var rfl) ?_) fun c H2 hc e2 hcuts => ?_
    · rw [List.length_map, hRl] at hi
      refine et_is (et_test (ev_op (ev_callV m__law_draw (ea_cons (ev_ixI (n := ns.getD (i + 1) 0) (ev_var rfl) (ex_l (e1.trans e2) ha) (ev_var rfl) (by omega) ?_) (ea_cons (ev_op (ev_op (ev_var rfl) ev_c (rv_I (by decide))) ev_c rv_I0) (ea_cons ev_c ea_nil))) ⟨_, _, _, rfl, by omega, by decide, rfl⟩) ev_c (rv_eq rfl))) ?_
      · rw [List.getD_eq_getElem?_getD, show ((1 : Int) + (i : Int)).toNat = i + 1 by omega, List.getElem?_eq_getElem (by omega)]
        rfl
      · simp [cutsZ]
    · unfold given cutsL
      rw [List.length_map, hRl, List.map_map, show ((ns.length : Int) - 1).toNat = ns.length - 1 by omega]
      rfl
    have e12 := e1.trans e2
    have hrow2 := e2 _ _ hrow
    refine r_forL (r_lst (r_cons (r_ev (ev_var rfl) fun H3 e3 => r_cons (r_el (el_rg2 ev_c (ev_ln (ev_var rfl) (.inl (sq_of (e3 _ _ hrow2)))) (.of_le (by decide) (by rw [List.length_map]; omega) (by decide) (by omega))) fun q1 H4 hq1 e4 h4 => r_cons (r_el (el_lst ea_nil (by decide)) fun q2 H5 hq2 e5 h5 =>
      r_cons (r_ev (ev_var rfl) fun H6 e6 => r_nil ⟨n4, fun q3 hq3 => ?_⟩))))))
    rw [List.length_map, rgV_all] at h4
    have e26 : Ex H2 (upd H6 q3 (.lst [.ref c, .ref q1, .ref q2, .ref c])) := (((e3.trans e4).trans e5).trans e6).trans (Ex.new hq3)
    generalize hU : upd H6 q3 (.lst [.ref c, .ref q1, .ref q2, .ref c]) = HU at e26
    have hq : HU q3 = some (.lst [.ref c, .ref q1, .ref q2, .ref c]) := by rw [← hU]; exact upd_same
    have items : ∀ x ∈ [V.ref c, .ref q1, .ref q2, .ref c], ∃ (q : Addr) (cs : List Int), x = .ref q ∧ HU q = some (.lst (cs.map V.int)) ∧ cs.length ≤ 63 ∧ risB 0 cs R.length = true := by
      have g4 : HU q1 = some (.lst ((allP R.length).map V.int)) := by rw [← hU]; exact (((e5.trans e6).trans (Ex.new hq3))) _ _ h4
      have g5 : HU q2 = some (.lst (([] : List Int).map V.int)) := by rw [← hU]; exact (e6.trans (Ex.new hq3)) _ _ h5
      have gc := e26 _ _ hcuts
      have lc := cutsL_len ns
      have la : (allP R.length).length ≤ 63 := by
        unfold allP
        rw [List.length_map, List.length_range]
        omega
      intro x hx
      rcases List.mem_cons.mp hx with z | hx
      · exact ⟨c, _, z, gc, by omega, cutsL_ris ns _ hRl⟩
      rcases List.mem_cons.mp hx with z | hx
      · exact ⟨q1, _, z, g4, la, allP_ris _⟩
      rcases List.mem_cons.mp hx with z | hx
      · exact ⟨q2, [], z, g5, by decide, rfl⟩
      exact ⟨c, _, List.mem_singleton.mp hx, gc, by omega, cutsL_ris ns _ hRl⟩
    have ha2 := ex_l e12 ha
    clear h4 h5 hq1 hq2 hq3 hU e3 e4 e5 e6
    refine r_loop (sq_of hq) (fun i σ' H' => ∃ v3 v4 v5, σ' = [some (.ref a), some (.ref p), some (.ref c), v3, v4, v5, none, none, none, none] ∧ Ex HU H') ⟨none, none, none, rfl, Ex.refl _⟩ (fun i σ' H' _ ⟨_, _, _, _, e⟩ => sq_of (e _ _ hq)) ?_ ?_
    · rintro i x σ' H' hi ⟨v3, v4, v5, rfl, e⟩
      obtain ⟨q, cs, rfl, hcs, hcl, hris⟩ := items x (List.mem_of_getElem? hi)
      have hcs1 := e _ _ hcs
      have hrow1 := (e26.trans e) _ _ hrow2
      refine r_asg (r_lst (r_cons (r_el (el_ls (ev_var rfl) (.inl (sq_of hrow1))) fun p1 H3 hp1 e3 h3 => r_cons (r_el (el_ls (ev_var rfl) (.inl (sq_of (e3 _ _ hcs1)))) fun p2 H4 hp2 e4 h4 => r_nil ⟨n2, fun p3 hp3 => ?_⟩))))
      have ea : Ex H' (upd H4 p3 (.lst [.ref p1, .ref p2])) := (e3.trans e4).trans (Ex.new hp3)
      have g1 : upd H4 p3 (.lst [.ref p1, .ref p2]) p1 = some (.lst (R.map V.int)) := (e4.trans (Ex.new hp3)) _ _ h3
      have g2 : upd H4 p3 (.lst [.ref p1, .ref p2]) p2 = some (.lst (cs.map V.int)) := (Ex.new hp3) _ _ h4
      have g3 : upd H4 p3 (.lst [.ref p1, .ref p2]) p3 = some (.lst [.ref p1, .ref p2]) := upd_same
      generalize upd H4 p3 (.lst [.ref p1, .ref p2]) = HV at ea g1 g2 g3
      refine q_asgL (el_callL m_borne (ea_cons (ev_ixN (ev_var rfl) (sq_of g3) ev_c (by decide) rfl) (ea_cons (ev_ixN (ev_var rfl) (sq_of g3) ev_c (by decide) rfl) ea_nil)) ⟨p1, p2, R, cs, rfl, g1, g2, by omega, by omega, hR, hris, rfl⟩) fun f H5 hf e5 h5 => ?_
      have hrow5 := (ea.trans e5) _ _ hrow1
      have hcs5 := (ea.trans e5) _ _ hcs1
      refine q_when (b := false) (et_is (et_or (et_not (et_B (ev_callV m__law_numbers (ea_cons (ev_var rfl) ea_nil) ⟨f, _, rfl, h5, ?_, rfl⟩))) fun _ => et_or (et_test (ev_opL (xs := (borneL R cs).map V.int) (ev_var rfl) (el_callL m__law_borne (ea_cons (ev_var rfl) (ea_cons (ev_var rfl) ea_nil)) ⟨p, q, R, cs, rfl, hrow5, hcs5, by omega, rfl⟩) fun r H6 h6 e6 => rv_neI (sq_of (e6 _ _ h5)) (sq_of h6))) fun _ =>
        et_test (ev_opL (z := .bl (!(decide (R = R) && decide (cs = cs)))) (ev_var rfl) (el_lst (ea_cons (ev_var rfl) (ea_cons (ev_var rfl) ea_nil)) l2) fun r H6 h6 e6 H7 e7 Q q => ?_)) ?_) (fun h => by cases h) fun _ H6 e6 => ?_
      · unfold partsP
        split
        · decide
        · rw [List.length_map, List.length_range]
          omega
      · have t1 := (e5.trans e6).trans e7
        have t2 := e6.trans e7
        refine ⟨.list [dI R, dI cs], .list [dI R, dI cs], .lst (sq_of (t1 _ _ g3)) (.cons (dp_int (sq_of (t1 _ _ g1))) (.cons (dp_int (sq_of (t1 _ _ g2))) .nil)), .lst (sq_of (e7 _ _ h6)) (.cons (dp_int (sq_of (t2 _ _ hrow5))) (.cons (dp_int (sq_of (t2 _ _ hcs5))) .nil)), sh_ints2 _ _, sh_ints2 _ _, ?_⟩
        rw [eqv_ints2]
        exact q _ (Ex.refl _)
      · rw [parts_borne hris]
        simp
      · have hz : ((partsP R cs).map V.int).length < 100000 := by
          unfold partsP
          split
          · decide
          · rw [List.length_map, List.length_map, List.length_range]
            omega
        exact s_app (e6 _ _ h5) (ev_var rfl) ev_c hz fun H7 e7 => ⟨_, _, _, rfl, Ex.mut ((((e.trans ea).trans e5).trans e6).trans e7) (fresh_back (e.trans ea) hf)⟩
    · rintro σ' H' ⟨v3, v4, v5, rfl, e⟩
      have e0 := e26.trans e
      have hrow3 := e0 _ _ hrow2
      clear items hq
      refine q_par3 (ea_cons ev_c (ea_cons (ev_sum (ev_var rfl) (sq_of hrow3)) (ea_cons ev_c ea_nil))) fun H3 e3 => ?_
      refine q_forR1 (n := (R.length : Int)) (ea_cons (ev_is (ev_ln (ev_var rfl) (.inl (sq_of (e3 _ _ hrow3)))) (by rw [List.length_map])) ea_nil) (by omega)
        (fun i σ' H' => ∃ (best : Int) (at_ : Nat) (v9 : Option V), σ' = [some (.ref a), some (.ref p), some (.ref c), v3, v4, v5, some (.int (R.take i).sum), some (.int best), some (.int (at_ : Nat)), v9] ∧ Ex H2 H' ∧ HInv R i best at_)
        (fun H4 e4 => ⟨_, 0, none, rfl, (e0.trans e3).trans e4, HInv.start hR⟩) ?_ ?_
      · rintro i σ' H' hi ⟨best, at_, v9, rfl, e, hI⟩
        have hi2 : i < R.length := by omega
        have hat : R[((i : Int)).toNat]? = some R[i] := by rw [Int.toNat_natCast]; exact List.getElem?_eq_getElem hi2
        have hat2 : R[i]? = some R[i] := List.getElem?_eq_getElem hi2
        have hrow4 := e _ _ hrow2
        have es : (R.take (i + 1)).sum = (R.take i).sum + R[i] := by rw [take_snoc hat2, List.sum_append, List.sum_singleton]
        refine q_asg (v := .int (R.take (i + 1)).sum) (ev_is (ev_op (ev_var rfl) (ev_ixI (ev_var rfl) (sq_of hrow4) (ev_var rfl) (Int.natCast_nonneg _) hat) rv_I0) (by rw [es])) fun H4 e4 => ?_
        have hx : (if R.sum - 2 * (R.take (i + 1)).sum < 0 then -(R.sum - 2 * (R.take (i + 1)).sum) else R.sum - 2 * (R.take (i + 1)).sum) = ap R (i + 1) := by
          unfold ap
          split <;> split <;> omega
        have hn := hI.next hx
        have evx : ∀ H5 σ1, Ex H4 H5 → σ1 = [some (.ref a), some (.ref p), some (.ref c), v3, v4, v5, some (.int (R.take (i + 1)).sum), some (.int best), some (.int (at_ : Nat)), some (.int (i : Int))] → Ev (tCB (fun xs H Q => ∃ i, xs = [.int i] ∧ Q (.int (if i < 0 then -i else i)) H) (tCons (tOp (rI0 fun i j => .int (i - j)) (tCB (rSum K) (tCons (tVar 1) tNil)) (tOp (rI CMul fun i j => .int (i * j)) (tC (.int 2)) (tVar 6))) tNil)) σ1 H5 (.int (ap R (i + 1))) := by
          intro H5 σ1 e5 es1
          subst es1
          rw [← hx]
          exact ev_abs (ev_op (ev_sum (ev_var rfl) (sq_of ((e4.trans e5) _ _ hrow4))) (ev_op ev_c (ev_var rfl) (rv_I (.inl ⟨by decide, by decide⟩))) rv_I0)
        refine s_when (b := decide (ap R (i + 1) < best)) (et_test (ev_op (evx H4 _ (Ex.refl _) rfl) (ev_var rfl) rv_I0)) (fun hb H5 e5 => ?_) fun hb H5 e5 => ?_
        · rw [if_pos (by rw [hx]; exact of_decide_eq_true hb), hx] at hn
          refine s_par (ea_cons (evx H5 _ e5 rfl) (ea_cons (ev_op (ev_var rfl) ev_c rv_I0) ea_nil)) fun H6 e6 => ⟨_, i + 1, _, rfl, ((e.trans e4).trans e5).trans e6, hn⟩
        · rw [if_neg (by rw [hx]; exact of_decide_eq_false hb)] at hn
          exact ⟨_, at_, _, rfl, (e.trans e4).trans e5, hn⟩
      · rintro σ' H' ⟨best, at_, v9, rfl, e, hI⟩
        rw [Int.toNat_natCast] at hI
        have hrow4 := e _ _ hrow2
        refine q_asgL (el_ls (ev_var rfl) (.inl (sq_of hrow4))) fun h H4 hh e4 h4 => ?_
        have fh : ∀ H5, Ex H4 H5 → F_halved K [.ref h] H5 (.int (halvedP R : Nat)) := fun H5 e5 => ⟨h, R, rfl, e5 _ _ h4, by omega, hR, rfl⟩
        refine s_ret (ev_is (ev_andV (ev_op (ev_callV m_halved (ea_cons (ev_var rfl) ea_nil) (fh H4 (Ex.refl _))) (ev_var rfl) (rv_eq rfl)) fun _ => ev_andV (ev_notV (ev_isT (b := false) (ev_callV m_halved (ea_cons (ev_var rfl) ea_nil) (fh H4 (Ex.refl _))) tx_int (by decide +kernel))) fun _ =>
          ev_andV (ev_op (ev_var rfl) (ev_var rfl) (rv_eqI (sq_of h4) (sq_of (e4 _ _ hrow4)))) fun _ => ev_opLL (xs := (partsP [] []).map V.int) (ys := ([] : List Int).map V.int) (z := .bl (decide (partsP [] [] = []))) (el_callNN (el_lst ea_nil (by decide)) (el_lst ea_nil (by decide)) fun p1 p2 H5 e5 h5 h6 => ⟨p1, p2, [], [], rfl, h5, h6, by decide, by decide, (fun n hn => by cases hn), rfl, rfl⟩) (el_lst ea_nil (by decide)) fun p1 p2 H5 h5 h6 e5 => rv_eqI (sq_of h5) (sq_of h6)) ?_) fun H5 e5 => k _
        rw [hI.done]
        simp [partsP]

end
end Ct
namespace Ct
open PySem PySem.Spec PyProof.Rows L2 Evl
set_option maxHeartbeats 0
def d_is_whole : He.DefD := ⟨("is_whole", none), "is_whole", "is_whole", defArgs s_is_whole, defBody s_is_whole, defScope s_is_whole, [], []⟩
def d_check_row : He.DefD := ⟨("check_row", none), "check_row", "check_row", defArgs s_check_row, defBody s_check_row, defScope s_check_row, [], []⟩
def d_are_cuts : He.DefD := ⟨("are_cuts", none), "are_cuts", "are_cuts", defArgs s_are_cuts, defBody s_are_cuts, defScope s_are_cuts, [], []⟩
def d_check_cuts : He.DefD := ⟨("check_cuts", none), "check_cuts", "check_cuts", defArgs s_check_cuts, defBody s_check_cuts, defScope s_check_cuts, [], []⟩
def d_sums_of : He.DefD := ⟨("sums_of", none), "sums_of", "sums_of", defArgs s_sums_of, defBody s_sums_of, defScope s_sums_of, [], []⟩
def d_parts_of : He.DefD := ⟨("parts_of", none), "parts_of", "parts_of", defArgs s_parts_of, defBody s_parts_of, defScope s_parts_of, [], []⟩
def d_borne : He.DefD := ⟨("borne", none), "borne", "borne", defArgs s_borne, defBody s_borne, defScope s_borne, [], []⟩
def d_halved : He.DefD := ⟨("halved", none), "halved", "halved", defArgs s_halved, defBody s_halved, defScope s_halved, [], []⟩
def d__law_cell_at : He.DefD := ⟨("_law_cell_at", none), "_law_cell_at", "_law_cell_at", defArgs s__law_cell_at, defBody s__law_cell_at, defScope s__law_cell_at, [], []⟩
def d__law_draw : He.DefD := ⟨("_law_draw", none), "_law_draw", "_law_draw", defArgs s__law_draw, defBody s__law_draw, defScope s__law_draw, [], []⟩
def d__law_row : He.DefD := ⟨("_law_row", none), "_law_row", "_law_row", defArgs s__law_row, defBody s__law_row, defScope s__law_row, [], []⟩
def d__law_numbers : He.DefD := ⟨("_law_numbers", none), "_law_numbers", "_law_numbers", defArgs s__law_numbers, defBody s__law_numbers, defScope s__law_numbers, [], []⟩
def d__law_rising : He.DefD := ⟨("_law_rising", none), "_law_rising", "_law_rising", defArgs s__law_rising, defBody s__law_rising, defScope s__law_rising, [], []⟩
def d__law_borne : He.DefD := ⟨("_law_borne", none), "_law_borne", "_law_borne", defArgs s__law_borne, defBody s__law_borne, defScope s__law_borne, [], []⟩
def d__law_linked : He.DefD := ⟨("_law_linked", none), "_law_linked", "_law_linked", defArgs s__law_linked, defBody s__law_linked, defScope s__law_linked, [], []⟩
def d__law_pairs : He.DefD := ⟨("_law_pairs", none), "_law_pairs", "_law_pairs", defArgs s__law_pairs, defBody s__law_pairs, defScope s__law_pairs, [], []⟩
def d_law : He.DefD := ⟨("law", none), "law", "law", defArgs s_law, defBody s_law, defScope s_law, [], []⟩
def fn : List He.DefD := ([d_is_whole, d_check_row, d_are_cuts, d_check_cuts, d_sums_of, d_parts_of, d_borne, d_halved, d__law_cell_at, d__law_draw, d__law_row, d__law_numbers, d__law_rising, d__law_borne, d__law_linked, d__law_pairs, d_law] : List He.DefD)
def fa : List He.Fa := ([(.glo "CutError"), (.glo "BadRow"), (.glo "BadCuts"), (.int "GREATEST" 1000000), (.int "LONGEST" 1000000), (.glo "is_whole"), (.glo "check_row"), (.glo "are_cuts"), (.glo "check_cuts"), (.glo "sums_of"), (.glo "parts_of"), (.glo "borne"), (.glo "halved"), (.glo "_law_cell_at"), (.glo "_law_draw"), (.glo "_law_row"), (.glo "_law_numbers"), (.glo "_law_rising"), (.glo "_law_borne"), (.glo "_law_linked")] : List He.Fa) ++ ([(.glo "_law_pairs"), (.glo "law"), (.free "abs"), (.free "all"), (.free "any"), (.free "bool"), (.free "int"), (.free "isinstance"), (.free "len"), (.free "list"), (.free "min"), (.free "range"), (.free "sum"), (.free "tuple")] : List He.Fa)
def ex (K : PySem.W.Frag) : Bool := true
abbrev hk : PySem.W.Hook := He.hookX 5 fa fn [] [] ex
def ob (s : PySem.W.SharedT) : He.AlX := He.obsX 5 fa fn [] [] ex (HandSHeadRun.getT s)
theorem ob_eq (s : PySem.W.SharedT) : ob s = hk.obs s.abs := He.obsX_eq (HandSHeadRun.getT_eq s)
def loose : List PySem.Str := (["CutError", "BadRow", "BadCuts", "GREATEST", "LONGEST", "is_whole", "check_row", "are_cuts", "check_cuts", "sums_of", "parts_of", "borne", "halved", "_law_cell_at", "_law_draw", "_law_row", "_law_numbers", "_law_rising", "_law_borne", "_law_linked"] : List PySem.Str) ++ (["_law_pairs"] : List PySem.Str)
theorem run (w : PySem.World) : HandSHeadRun.RunEq R (PySem.W.view R.prog [24]) hk ob 4000 loose w := by
  intro os
  kernel_rfl
theorem tx_of {w : World} {h0 : Heap} {K : PySem.W.Frag} {h : Heap} {mg : Str → Option Value} (X : K.In h) (G : h.Ns mainGlobals mg) (c : He.SaysX fa fn [] [] ex w h0 K) : Tx K mg := by
  have e0 := c.more
  exact {
    d_is_whole := c.t.d.defs (d := d_is_whole) (by simp [fn])
    d_check_row := c.t.d.defs (d := d_check_row) (by simp [fn])
    d_are_cuts := c.t.d.defs (d := d_are_cuts) (by simp [fn])
    d_check_cuts := c.t.d.defs (d := d_check_cuts) (by simp [fn])
    d_sums_of := c.t.d.defs (d := d_sums_of) (by simp [fn])
    d_parts_of := c.t.d.defs (d := d_parts_of) (by simp [fn])
    d_borne := c.t.d.defs (d := d_borne) (by simp [fn])
    d_halved := c.t.d.defs (d := d_halved) (by simp [fn])
    d__law_cell_at := c.t.d.defs (d := d__law_cell_at) (by simp [fn])
    d__law_draw := c.t.d.defs (d := d__law_draw) (by simp [fn])
    d__law_row := c.t.d.defs (d := d__law_row) (by simp [fn])
    d__law_numbers := c.t.d.defs (d := d__law_numbers) (by simp [fn])
    d__law_rising := c.t.d.defs (d := d__law_rising) (by simp [fn])
    d__law_borne := c.t.d.defs (d := d__law_borne) (by simp [fn])
    d__law_linked := c.t.d.defs (d := d__law_linked) (by simp [fn])
    d__law_pairs := c.t.d.defs (d := d__law_pairs) (by simp [fn])
    d_law := c.t.d.defs (d := d_law) (by simp [fn])
    g_CutError := He.glo_ok X G (c.t.d.fact 0 (f := .glo "CutError") (by rfl))
    g_BadRow := He.glo_ok X G (c.t.d.fact 1 (f := .glo "BadRow") (by rfl))
    g_BadCuts := He.glo_ok X G (c.t.d.fact 2 (f := .glo "BadCuts") (by rfl))
    c_GREATEST := He.int_ok X G (c.t.d.fact 3 (f := .int "GREATEST" 1000000) (by rfl))
    c_LONGEST := He.int_ok X G (c.t.d.fact 4 (f := .int "LONGEST" 1000000) (by rfl))
    g_is_whole := He.glo_ok X G (c.t.d.fact 5 (f := .glo "is_whole") (by rfl))
    g_check_row := He.glo_ok X G (c.t.d.fact 6 (f := .glo "check_row") (by rfl))
    g_are_cuts := He.glo_ok X G (c.t.d.fact 7 (f := .glo "are_cuts") (by rfl))
    g_check_cuts := He.glo_ok X G (c.t.d.fact 8 (f := .glo "check_cuts") (by rfl))
    g_sums_of := He.glo_ok X G (c.t.d.fact 9 (f := .glo "sums_of") (by rfl))
    g_parts_of := He.glo_ok X G (c.t.d.fact 10 (f := .glo "parts_of") (by rfl))
    g_borne := He.glo_ok X G (c.t.d.fact 11 (f := .glo "borne") (by rfl))
    g_halved := He.glo_ok X G (c.t.d.fact 12 (f := .glo "halved") (by rfl))
    g__law_cell_at := He.glo_ok X G (c.t.d.fact 13 (f := .glo "_law_cell_at") (by rfl))
    g__law_draw := He.glo_ok X G (c.t.d.fact 14 (f := .glo "_law_draw") (by rfl))
    g__law_row := He.glo_ok X G (c.t.d.fact 15 (f := .glo "_law_row") (by rfl))
    g__law_numbers := He.glo_ok X G (c.t.d.fact 16 (f := .glo "_law_numbers") (by rfl))
    g__law_rising := He.glo_ok X G (c.t.d.fact 17 (f := .glo "_law_rising") (by rfl))
    g__law_borne := He.glo_ok X G (c.t.d.fact 18 (f := .glo "_law_borne") (by rfl))
    g__law_linked := He.glo_ok X G (c.t.d.fact 19 (f := .glo "_law_linked") (by rfl))
    g__law_pairs := He.glo_ok X G (c.t.d.fact 20 (f := .glo "_law_pairs") (by rfl))
    g_law := He.glo_ok X G (c.t.d.fact 21 (f := .glo "law") (by rfl))
    z_abs := He.free_ok X G (c.t.d.fact 22 (f := .free "abs") (by rfl))
    z_all := He.free_ok X G (c.t.d.fact 23 (f := .free "all") (by rfl))
    z_any := He.free_ok X G (c.t.d.fact 24 (f := .free "any") (by rfl))
    z_bool := He.free_ok X G (c.t.d.fact 25 (f := .free "bool") (by rfl))
    z_int := He.free_ok X G (c.t.d.fact 26 (f := .free "int") (by rfl))
    z_isinstance := He.free_ok X G (c.t.d.fact 27 (f := .free "isinstance") (by rfl))
    z_len := He.free_ok X G (c.t.d.fact 28 (f := .free "len") (by rfl))
    z_list := He.free_ok X G (c.t.d.fact 29 (f := .free "list") (by rfl))
    z_min := He.free_ok X G (c.t.d.fact 30 (f := .free "min") (by rfl))
    z_range := He.free_ok X G (c.t.d.fact 31 (f := .free "range") (by rfl))
    z_sum := He.free_ok X G (c.t.d.fact 32 (f := .free "sum") (by rfl))
    z_tuple := He.free_ok X G (c.t.d.fact 33 (f := .free "tuple") (by rfl))
  }
set_option maxHeartbeats 4000000
end Ct
namespace Ct
open PySem PySem.Spec PyProof.Rows L2 Evl
open He (ga ma)
theorem facts {P : Program} {w : World} {K : PySem.W.Frag} {h h0 : Heap} {mg : Str → Option Value} {f : Addr} (X : K.In h) (G : h.Ns mainGlobals mg) (hfa : mg ("law" : Str) = some (.ref f)) (c : He.SaysX fa fn [] [] ex w h0 K) :
    ∃ fd : FuncData, (∀ (s : Shared) (v : Value), BindsTo s fd ⟨[v], []⟩ [("_law_script", v)]) ∧ ∀ base : Heap, K.In base → base.Ns mainGlobals mg → FnOk P w K mg base CX0 5 f fd ["_law_script"] (sp_law K) := by
  have T := tx_of X G c
  have e := hfa.symm.trans T.g_law
  cases e
  obtain ⟨fd, F⟩ := T.d_law
  have b := FunD.bindsA (ps := ["_law_script"]) F fun _ _ _ _ _ _ us hl => match us, hl with | [_], _ => rfl
  exact ⟨fd, fun s v => b s [v] rfl, fun base _ _ => ok_law T F⟩
end Ct
open PySem PySem.W PySem.Calls PyProof.Rows
set_option maxHeartbeats 0
theorem PySem.Challenge.cw_cutrow_k04_borne_and_halved_holds : PySem.Challenge.rw_cutrow_k04_borne_and_halved.Holds := by
  w_on; o_law
  refine HandSHeadRun.head_any (r := OpenLaw.row PySem.Challenge.rw_cutrow_k04_borne_and_halved) (q := view (OpenLaw.row PySem.Challenge.rw_cutrow_k04_borne_and_halved).prog [24]) (H := Ct.hk) (ob := Ct.ob) (M := 4000) (loose := Ct.loose) (d := HandSHeadRun.topDef (OpenLaw.row PySem.Challenge.rw_cutrow_k04_borne_and_halved).prog 24) (kwd := []) Ct.ob_eq
    (by kernel_rfl) (fun s => by kernel_rfl) Ct.run (by kernel_rfl) (by kernel_rfl) (by kernel_rfl) (by rfl) (by first | assumption | decide +kernel) (by decide +kernel) ⟨rfl, rfl, rfl, rfl, rfl, by decide +kernel⟩ ?hw ?hc
  case hw => w_witness2
  case hc =>
    refine L2.walk_ofE (l := PySem.Challenge.rw_cutrow_k04_borne_and_halved) (n := 63) (k := 5) (x := "_law_script") (CX := L2.CX0) rfl (by decide) (by kernel_rfl) ⟨rfl, by decide, by decide⟩ ?F (fun _ _ _ _ z => z)
    intro w mg fa h Y G hmg0
    obtain ⟨K, KX, c⟩ := Y
    have hmg : mg ("law" : PySem.Str) = some (.ref fa) := by
      have e : (HandSHeadRun.topDef (OpenLaw.row PySem.Challenge.rw_cutrow_k04_borne_and_halved).prog 24).name = ("law" : PySem.Str) := by kernel_rfl
      rw [← e]
      exact hmg0
    obtain ⟨fd, hb, hF⟩ := Ct.facts (P := (PySem.Challenge.rw_cutrow_k04_borne_and_halved).prog) (w := w) KX G hmg c
    exact ⟨K, fd, Ct.sp_law K, KX, hb, fun H a ns hl _ hS => ⟨a, ns, rfl, hS, hl, fun _ => rfl⟩, hF⟩

