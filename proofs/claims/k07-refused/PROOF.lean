import PyProof.Rows.All
import Wide.All
import OpenK.AllK
import Wide.FinOn
import KE.KStateDown
import HandS.ForMost
import HandS.ForExc
import HandS.Style
import HandS.IsInst
import HandS.Wide
import HandS.Evl
import HandS.More
import HandS.Conv
import HandS.Defaults
import HandS.Head0
import HandS.Head1
import HandS.Head2
import HandS.HeadEnd
import HandS.HeadHook1
import HandS.HeadHook2
import HandS.HeadHook3
import HandS.HeadHook4
import HandS.EndBits
import HandS.ExcCtx
import HandS.ExcIs
import HandS.HotCalls
import HandS.ExcInitHot
import HandS.CallLocal
import PySem.Challenge.RW_cutrow_k07_refused
set_option Elab.async false
set_option linter.all false
set_option maxRecDepth 100000
set_option maxHeartbeats 4000000
namespace Ct
open PySem PySem.Spec PyProof.Rows L2 Evl
theorem l1 : 1 ≤ 100000 := by decide
theorem l2 : 2 ≤ 100000 := by decide
theorem n1 : 1 ≤ sizeLine := by decide
theorem n2 : 2 ≤ sizeLine := by decide
theorem n3 : 3 ≤ sizeLine := by decide
theorem n4 : 4 ≤ sizeLine := by decide
/-! ### built-ins by name -/
theorem bo_len : bootBuiltins "len" = some (.builtin "len") := by decide +kernel
theorem bo_sum : bootBuiltins "sum" = some (.builtin "sum") := by decide +kernel
theorem bo_max : bootBuiltins "max" = some (.builtin "max") := by decide +kernel
theorem bo_min : bootBuiltins "min" = some (.builtin "min") := by decide +kernel
theorem bo_abs : bootBuiltins "abs" = some (.builtin "abs") := by decide +kernel
theorem bo_all : bootBuiltins "all" = some (.builtin "all") := by decide +kernel
theorem bo_any : bootBuiltins "any" = some (.builtin "any") := by decide +kernel
theorem bo_isinstance : bootBuiltins "isinstance" = some (.builtin "isinstance") := by decide +kernel
theorem bo_list : bootBuiltins "list" = some (.type "list") := by decide +kernel
theorem bo_int : bootBuiltins "int" = some (.type "int") := by decide +kernel
theorem bo_str : bootBuiltins "str" = some (.type "str") := by decide +kernel
theorem bo_bool : bootBuiltins "bool" = some (.type "bool") := by decide +kernel
theorem bo_tuple : bootBuiltins "tuple" = some (.type "tuple") := by decide +kernel
/-! ### three comparisons in a chain -/
def tChain3 (r1 r2 r3 : R2) (ta tb tc td : TE) : TT := fun σ H Q => ta σ H fun x H1 => tb σ H1 fun y H2 => r1 x y H2 fun z H3 => ∃ k, z = .bl k ∧
  (if k = true then tc σ H3 fun w H4 => r2 y w H4 fun z2 H5 => ∃ k2, z2 = .bl k2 ∧ (if k2 = true then td σ H5 fun u H6 => r3 w u H6 fun z3 H7 => ∃ k3, z3 = .bl k3 ∧ Q k3 H7 else Q false H5) else Q false H3)
section
variable {X : Cx} {a b c d : Expr} {ta tb tc td : TE} {pos : Pos}
theorem pt_chain3 {o1 o2 o3 : CmpOp} {r1 r2 r3 : R2} (h1 : OpR X (compareOp o1) r1) (h2 : OpR X (compareOp o2) r2) (h3 : OpR X (compareOp o3) r3) (ha : PE X a ta) (hb : PE X b tb) (hc : PE X c tc) (hd : PE X d td)
    (hm : lastMarks [o1, o2, o3] [b, c, d] = false := by with_unfolding_all rfl) : PT X (.Compare a [o1, o2, o3] [b, c, d] pos) (tChain3 r1 r2 r3 ta tb tc td) := by
  refine ⟨fun pins s σ H Q I h => ?_⟩
  refine isTrue_chain (thn (ha.run pins s σ H _ I h) fun v s1 ⟨x, H1, I1, q1, w1⟩ => test_link (thn (hb.run pins s1 σ H1 _ I1 w1) fun u s2 ⟨y, H2, I2, q2, w2⟩ =>
    thn (h1 pins s2 σ H2 x y v u _ I2 q1 q2 w2) fun e s3 ⟨z, H3, I3, q3, k, e3, w3⟩ => ?_)) hm
  subst e3
  cases q3
  refine wpAny_truthy_bool ?_
  cases k with
  | false => exact ite_ff ⟨H3, I3, w3⟩
  | true =>
    refine ite_tt (test_link (thn (hc.run pins s3 σ H3 _ I3 w3) fun u4 s4 ⟨w', H4, I4, q4, w4⟩ =>
      thn (h2 pins s4 σ H4 y w' u u4 _ I4 q2 q4 w4) fun e5 s5 ⟨z2, H5, I5, q5, k2, e6, w5⟩ => ?_))
    subst e6
    cases q5
    refine wpAny_truthy_bool ?_
    cases k2 with
    | false => exact ite_ff ⟨H5, I5, w5⟩
    | true =>
      refine ite_tt (test_last (thn (hd.run pins s5 σ H5 _ I5 w5) fun u6 s6 ⟨w6, H6, I6, q6, w6'⟩ => thn (h3 pins s6 σ H6 w' w6 u4 u6 _ I6 q4 q6 w6') fun e7 s7 ⟨z3, H7, I7, q7, k3, e8, w7⟩ => ?_))
      subst e8
      cases q7
      exact wpAny_truthy_bool ⟨H7, I7, w7⟩
end
/-! ### a def as it is known, by its name -/
section
variable (P : Program) (w : World) (K : PySem.W.Frag) (mg : Str → Option Value) (base : Heap)
structure Kept (CX : CXT) (k : Nat) (x : Str) (ps : List Str) (sp : Sp) : Prop where
  fn : ∃ fd, FnOk P w K mg base CX k (He.ga K x) fd ps sp ∧ Binds K fd ps []
  g : mg x = some (.ref (He.ga K x))
  kp : PySem.W.keepIn K (.ref (He.ga K x)) = true
structure KeptM (CX : CXT) (k : Nat) (c m : Str) (ps : List Str) (sp : Sp) : Prop where
  fn : ∃ fd, FnOk P w K mg base CX k (He.ma K (He.ga K c) m) fd ps sp ∧ Binds K fd ps []
  kp : PySem.W.keepIn K (.ref (He.ma K (He.ga K c) m)) = true
end
section
variable {P : Program} {w : World} {K : PySem.W.Frag} {mg : Str → Option Value} {base : Heap}
theorem Kept.mk' {CX : CXT} {k : Nat} {x : Str} {ps : List Str} {sp : Sp} (fd : FuncData) (F : FnOk P w K mg base CX k (He.ga K x) fd ps sp) (b : Binds K fd ps []) (g : mg x = some (.ref (He.ga K x))) (kp : PySem.W.keepIn K (.ref (He.ga K x)) = true) : Kept P w K mg base CX k x ps sp := ⟨⟨fd, F, b⟩, g, kp⟩
end
section
variable {X : Cx} {k j : Nat} {x c m : Str} {ps : List Str} {sp : Sp} {p pos apos : Pos} {e o : Expr} {es : List Expr} {ta : TE} {t : TA}
theorem pe_d (D : Kept X.prog X.w X.K X.mg X.base CX0 k x ps sp) (hr : Room k X.A) (hg : Gl X x) (ha : PA X (e :: es) t) (hdb : (x == ("__debug__" : Str)) = false := by decide)
    (he : starEach (e :: es) X.env = (false, eval e X.env) :: starEach es X.env := by rfl) (hpl : (backTo pos (starEach es X.env)).any (·.1) = false := by rfl) : PE X (.Call (.Name x p) (e :: es) [] pos) (tCall sp [] E0 t) := by
  obtain ⟨fd, F, b⟩ := D.fn
  exact pe_call F hr hg D.g D.kp b .nil pass0 ha hdb he hpl
theorem pe_d0 (D : Kept X.prog X.w X.K X.mg X.base CX0 k x ps sp) (hr : Room k X.A) (hg : Gl X x) (hdb : (x == ("__debug__" : Str)) = false := by decide) : PE X (.Call (.Name x p) [] [] pos) (tCall sp [] E0 tNil) := by
  obtain ⟨fd, F, b⟩ := D.fn
  exact pe_call0 F hr hg D.g D.kp b .nil pass0 hdb
theorem pe_mk (M : Mk X.K (He.ga X.K c) (He.ma X.K (He.ga X.K c) "__init__")) (D : KeptM X.prog X.w X.K X.mg X.base CX0 k c "__init__" ps sp) (hr : Room (k + 1) X.A) (hg : Gl X c) (g : X.mg c = some (.ref (He.ga X.K c))) (ha : PA X (e :: es) t)
    (hdb : (c == ("__debug__" : Str)) = false := by decide) (he : starEach (e :: es) X.env = (false, eval e X.env) :: starEach es X.env := by rfl) (hpl : (backTo pos (starEach es X.env)).any (·.1) = false := by rfl) : PE X (.Call (.Name c p) (e :: es) [] pos) (tMake (He.ga X.K c) sp [] E0 t) := by
  obtain ⟨fd, F, b⟩ := D.fn
  exact pe_make M F hr hg g b .nil pass0 ha hdb he hpl
theorem pe_mt {pl : Sem Bool} (ho : PE X o ta) (cl : Cls X.K (He.ga X.K c)) (hm : Meth X.K (He.ga X.K c) m (He.ma X.K (He.ga X.K c) m)) (D : KeptM X.prog X.w X.K X.mg X.base CX0 k c m ps sp) (hr : Room k X.A) (ha : PA X (e :: es) t)
    (hst : starEach (e :: es) X.env = (false, eval e X.env) :: starEach es X.env := by rfl) (hpl : (backTo pos (starEach es X.env)).any (·.1) = false := by rfl)
    (ht : eval (.Call (.Attribute o m apos) (e :: es) [] pos) X.env = (do
      let ov ← eval o X.env
      standAt apos.atName
      let (f, first) ← holding [ov] (getMethod ov m pl)
      callWith pos f first (backTo pos (starEach (e :: es) X.env)) (backToKw pos (keywordEach [] X.env))) := by rfl) :
    PE X (.Call (.Attribute o m apos) (e :: es) [] pos) (tMeth (He.ga X.K c) m sp [] E0 ta t) := by
  obtain ⟨fd, F, b⟩ := D.fn
  exact pe_meth ho cl hm F hr b .nil pass0 ha hst hpl ht
end
/-! ### rules that speak of K, K told -/
section
variable {X : Cx} {K : PySem.W.Frag} {tg : Expr}
theorem ix_listK (h : X.K = K) : IxR X (rIxL K) := by subst h; exact ix_list
theorem ix_tupK (h : X.K = K) : IxR X (rIxT K) := by subst h; exact ix_tup
theorem sl_listK (h : X.K = K) : SlR X (rSlL K) := by subst h; exact sl_list
theorem call_len_seqK (h : X.K = K) : CallR X (.builtin "len") (fun xs H Q => ∃ p ys, xs = [.ref p] ∧ (SqL K H p ys ∨ SqT K H p ys) ∧ Q (.int ys.length) H) := by subst h; exact call_len_seq
theorem call_list_ofK (h : X.K = K) : CallR X (.type "list") (fun xs H Q => ∃ p ys, xs = [.ref p] ∧ (SqL K H p ys ∨ SqT K H p ys) ∧ ∀ l, H l = none → Q (.ref l) (upd H l (.lst ys))) := by subst h; exact call_list_of
theorem call_isiK' (h : X.K = K) : CallR X (.builtin "isinstance") (rIsi K) := by subst h; exact call_isi
theorem op_eqDK (h : X.K = K) (hu : X.A.units + 64 < cLine) : OpR X (compareOp .Eq) (rEqD K) := by subst h; exact op_eqD hu
theorem pe_fldK {e : Expr} {f : Str} {ta : TE} {pos : Pos} (h : X.K = K) (he : PE X e ta) (hb : attributeBase e f X.env (eval e X.env) = eval e X.env) : PE X (.Attribute e f pos) (tFld K ta f) := by subst h; exact pe_fld he hb
theorem pi_listK {l : Expr} {tl : TE} (h : X.K = K) (hl : PE X l tl) : PI X tg l (iList K tl) := by subst h; exact pi_list hl
end
/-! ### promises: a value, a new list -/
abbrev VF := List V → Hp → V → Prop
abbrev LF := List V → Hp → List V → Prop
def Pv (F : VF) : Sp := fun vs H Q _ => ∃ z, F vs H z ∧ RetV z H Q
def Pl (F : LF) : Sp := fun vs H Q _ => ∃ xs, F vs H xs ∧ RetL xs H Q
def MonoV (F : VF) : Prop := ∀ vs H H1 z, Ex H H1 → F vs H z → F vs H1 z
def MonoL (F : LF) : Prop := ∀ vs H H1 z, Ex H H1 → F vs H z → F vs H1 z
section
variable {K : PySem.W.Frag} {σ : L2.St} {H H' : Hp} {ta tb tc td te tx : TE} {t u : TT} {x y z v : V} {r r' r2 r3 : R2} {vs : List V} {ar : TA}
theorem ev_callV {F : VF} (m : MonoV F) (h : EvA ar σ H vs) (f : F vs H z) : Ev (tCall (Pv F) [] E0 ar) σ H z :=
  ev_call h fun H1 e Q q E => ⟨z, by rw [List.append_nil]; exact m _ _ _ _ e f, fun H2 e2 => q H2 e2⟩
theorem el_callL {F : LF} {xs : List V} (m : MonoL F) (h : EvA ar σ H vs) (f : F vs H xs) : EvL (tCall (Pl F) [] E0 ar) σ H xs :=
  el_call h fun H1 e Q q E => ⟨xs, by rw [List.append_nil]; exact m _ _ _ _ e f, fun p H2 hp e2 h2 => q p H2 hp e2 h2⟩
/-! ### comparisons in a chain -/
theorem ev_ch {p q : Bool} (ha : Ev ta σ H x) (hb : Ev tb σ H y) (hr : RV r x y H (.bl p)) (hc : p = true → Ev tc σ H z) (hr2 : p = true → RV r' y z H (.bl q)) : Ev (tChain r r' ta tb tc) σ H (.bl (p && q)) := fun H1 e Q k =>
  ha H1 e _ fun H2 e2 => hb H2 (e.trans e2) _ fun H3 e3 => hr H3 ((e.trans e2).trans e3) _ fun H4 e4 => ⟨p, rfl, by
    cases p with
    | true =>
      show tc σ H4 _
      exact hc rfl H4 (((e.trans e2).trans e3).trans e4) _ fun H5 e5 => hr2 rfl H5 ((((e.trans e2).trans e3).trans e4).trans e5) Q fun H6 e6 => k H6 ((((e2.trans e3).trans e4).trans e5).trans e6)
    | false =>
      show Q (.bl false) H4
      exact k H4 ((e2.trans e3).trans e4)⟩
theorem et_ch {p q : Bool} (ha : Ev ta σ H x) (hb : Ev tb σ H y) (hr : RV r x y H (.bl p)) (hc : p = true → Ev tc σ H z) (hr2 : p = true → RV r' y z H (.bl q)) : EvT (tTest (tChain r r' ta tb tc)) σ H (p && q) := et_test (ev_ch ha hb hr hc hr2)
theorem et_ch3 {w : V} {p q s : Bool} (ha : Ev ta σ H x) (hb : Ev tb σ H y) (hr : RV r x y H (.bl p)) (hc : p = true → Ev tc σ H z) (hr2 : p = true → RV r' y z H (.bl q)) (hd : p = true → q = true → Ev td σ H w) (hr3 : p = true → q = true → RV r3 z w H (.bl s)) :
    EvT (tChain3 r r' r3 ta tb tc td) σ H (p && (q && s)) := fun H1 e Q k =>
  ha H1 e _ fun H2 e2 => hb H2 (e.trans e2) _ fun H3 e3 => hr H3 ((e.trans e2).trans e3) _ fun H4 e4 => ⟨p, rfl, by
    cases p with
    | false =>
      show Q false H4
      exact k H4 ((e2.trans e3).trans e4)
    | true =>
      show tc σ H4 _
      refine hc rfl H4 (((e.trans e2).trans e3).trans e4) _ fun H5 e5 => hr2 rfl H5 ((((e.trans e2).trans e3).trans e4).trans e5) _ fun H6 e6 => ⟨q, rfl, ?_⟩
      cases q with
      | false =>
        show Q false H6
        exact k H6 ((((e2.trans e3).trans e4).trans e5).trans e6)
      | true =>
        show td σ H6 _
        exact hd rfl rfl H6 (((((e.trans e2).trans e3).trans e4).trans e5).trans e6) _ fun H7 e7 => hr3 rfl rfl H7 ((((((e.trans e2).trans e3).trans e4).trans e5).trans e6).trans e7) _ fun H8 e8 => ⟨s, rfl, k H8 ((((((e2.trans e3).trans e4).trans e5).trans e6).trans e7).trans e8)⟩⟩
/-! ### fields, methods -/
theorem ev_fld {a C dx : Addr} {fs : List (Str × V)} {f : Str} (h : Ev ta σ H (.ref a)) (ho : H a = some (.ins C dx fs)) (c : Cls K C) (n : NoAttr K C f) (l : fs.lookup f = some v) : Ev (tFld K ta f) σ H v := fun H1 e Q q =>
  h H1 e _ fun H2 e2 => ⟨a, C, dx, fs, v, rfl, (e.trans e2) a _ ho, c, n, l, q H2 e2⟩
theorem ev_meth {a C dx : Addr} {fs : List (Str × V)} {m : Str} {sp : Sp} (h : Ev ta σ H (.ref a)) (ho : H a = some (.ins C dx fs)) (l : fs.lookup m = none) (hv : EvA ar σ H vs) (hs : SpV sp (.ref a :: vs) H z) : Ev (tMeth C m sp [] E0 ta ar) σ H z := fun H1 e Q q =>
  h H1 e _ fun H2 e2 => ⟨a, dx, fs, rfl, (e.trans e2) a _ ho, l, hv H2 (e.trans e2) _ fun H3 e3 => by
    rw [List.append_nil]
    exact hs H3 ((e.trans e2).trans e3) Q (fun H4 e4 => q H4 ((e2.trans e3).trans e4)) E0⟩
theorem ev_methV {a C dx : Addr} {fs : List (Str × V)} {m : Str} {F : VF} (mo : MonoV F) (h : Ev ta σ H (.ref a)) (ho : H a = some (.ins C dx fs)) (l : fs.lookup m = none) (hv : EvA ar σ H vs) (f : F (.ref a :: vs) H z) : Ev (tMeth C m (Pv F) [] E0 ta ar) σ H z :=
  ev_meth h ho l hv fun H1 e Q q E => ⟨z, mo _ _ _ _ e f, fun H2 e2 => q H2 e2⟩
/-! ### built-in calls -/
theorem ex_q {a : Addr} {xs : List V} (e : Ex H H') (h : SqL K H a xs ∨ SqT K H a xs) : SqL K H' a xs ∨ SqT K H' a xs := h.elim (fun h => .inl (ex_l e h)) fun h => .inr (ex_t e h)
theorem ev_ln {p : Addr} {xs : List V} (ha : Ev ta σ H (.ref p)) (h : SqL K H p xs ∨ SqT K H p xs) : Ev (tCB (fun xs H Q => ∃ p ys, xs = [.ref p] ∧ (SqL K H p ys ∨ SqT K H p ys) ∧ Q (.int ys.length) H) (tCons ta tNil)) σ H (.int (xs.length : Int)) := fun H1 e Q q =>
  ha H1 e _ fun H2 e2 => ⟨p, xs, rfl, ex_q (e.trans e2) h, q H2 e2⟩
theorem el_ls {p : Addr} {xs : List V} (ha : Ev ta σ H (.ref p)) (h : SqL K H p xs ∨ SqT K H p xs) : EvL (tCB (fun xs H Q => ∃ p ys, xs = [.ref p] ∧ (SqL K H p ys ∨ SqT K H p ys) ∧ ∀ l, H l = none → Q (.ref l) (upd H l (.lst ys))) (tCons ta tNil)) σ H xs := fun H1 e Q q =>
  ha H1 e _ fun H2 e2 => ⟨p, xs, rfl, ex_q (e.trans e2) h, fun l hl => q l _ (fresh_back e2 hl) (e2.trans (Ex.new hl)) upd_same⟩
theorem ev_sum {p : Addr} {ns : List Int} (ha : Ev ta σ H (.ref p)) (h : SqL K H p (ns.map V.int)) : Ev (tCB (rSum K) (tCons ta tNil)) σ H (.int ns.sum) := fun H1 e Q q =>
  ha H1 e _ fun H2 e2 => ⟨p, ns, rfl, ex_l (e.trans e2) h, q H2 e2⟩
theorem ev_sumN {ns : List Int} (ha : EvL ta σ H (ns.map V.int)) : Ev (tCB (rSum K) (tCons ta tNil)) σ H (.int ns.sum) := fun H1 e Q q =>
  ha H1 e _ fun p H2 _ e2 h2 => ⟨p, ns, rfl, sq_of h2, q H2 e2⟩
theorem ev_allN {bs : List Bool} (ha : EvL ta σ H (bs.map V.bl)) : Ev (tCB (rAll K) (tCons ta tNil)) σ H (.bl (bs.all id)) := fun H1 e Q q =>
  ha H1 e _ fun p H2 _ e2 h2 => ⟨p, bs, rfl, sq_of h2, q H2 e2⟩
theorem ev_anyN {bs : List Bool} (ha : EvL ta σ H (bs.map V.bl)) : Ev (tCB (rAny K) (tCons ta tNil)) σ H (.bl (bs.any id)) := fun H1 e Q q =>
  ha H1 e _ fun p H2 _ e2 h2 => ⟨p, bs, rfl, sq_of h2, q H2 e2⟩
/-- the greatest, the least of a list -/
def mxL : List Int → Int
  | [] => 0
  | [a] => a
  | a :: r => max a (mxL r)
def mnL : List Int → Int
  | [] => 0
  | [a] => a
  | a :: r => min a (mnL r)
theorem mxL_cons (a b : Int) (r : List Int) : mxL (a :: b :: r) = max a (mxL (b :: r)) := rfl
theorem mnL_cons (a b : Int) (r : List Int) : mnL (a :: b :: r) = min a (mnL (b :: r)) := rfl
theorem mxL_ge : ∀ {ns : List Int} {y : Int}, y ∈ ns → y ≤ mxL ns
  | [a], y, h => by
    have e := List.mem_singleton.mp h
    subst e
    exact Int.le_refl _
  | a :: b :: r, y, h => by
    rw [mxL_cons]
    rcases List.mem_cons.mp h with e | h
    · subst e
      omega
    · have := mxL_ge (ns := b :: r) h
      omega
theorem mxL_mem : ∀ {ns : List Int}, 0 < ns.length → mxL ns ∈ ns
  | [a], _ => List.mem_singleton.mpr rfl
  | a :: b :: r, _ => by
    rw [mxL_cons]
    have h := mxL_mem (ns := b :: r) (by simp)
    by_cases c : a ≤ mxL (b :: r)
    · rw [show max a (mxL (b :: r)) = mxL (b :: r) by omega]
      exact List.mem_cons_of_mem _ h
    · rw [show max a (mxL (b :: r)) = a by omega]
      exact List.mem_cons_self
theorem mxL_eq {ns : List Int} {m : Int} (h : m ∈ ns) (hm : ∀ y, y ∈ ns → y ≤ m) : m = mxL ns := by
  have h0 : 0 < ns.length := List.length_pos_of_mem h
  have h1 := hm _ (mxL_mem h0)
  have h2 := mxL_ge h
  omega
theorem mnL_le : ∀ {ns : List Int} {y : Int}, y ∈ ns → mnL ns ≤ y
  | [a], y, h => by
    have e := List.mem_singleton.mp h
    subst e
    exact Int.le_refl _
  | a :: b :: r, y, h => by
    rw [mnL_cons]
    rcases List.mem_cons.mp h with e | h
    · subst e
      omega
    · have := mnL_le (ns := b :: r) h
      omega
theorem mnL_mem : ∀ {ns : List Int}, 0 < ns.length → mnL ns ∈ ns
  | [a], _ => List.mem_singleton.mpr rfl
  | a :: b :: r, _ => by
    rw [mnL_cons]
    have h := mnL_mem (ns := b :: r) (by simp)
    by_cases c : mnL (b :: r) ≤ a
    · rw [show min a (mnL (b :: r)) = mnL (b :: r) by omega]
      exact List.mem_cons_of_mem _ h
    · rw [show min a (mnL (b :: r)) = a by omega]
      exact List.mem_cons_self
theorem mnL_eq {ns : List Int} {m : Int} (h : m ∈ ns) (hm : ∀ y, y ∈ ns → m ≤ y) : m = mnL ns := by
  have h0 : 0 < ns.length := List.length_pos_of_mem h
  have h1 := hm _ (mnL_mem h0)
  have h2 := mnL_le h
  omega
theorem ev_max {p : Addr} {ns : List Int} (ha : Ev ta σ H (.ref p)) (h : SqL K H p (ns.map V.int)) (h0 : 0 < ns.length) : Ev (tCB (rMax K) (tCons ta tNil)) σ H (.int (mxL ns)) := fun H1 e Q q =>
  ha H1 e _ fun H2 e2 => ⟨p, ns, rfl, ex_l (e.trans e2) h, h0, fun m hm hy => by rw [mxL_eq hm hy]; exact q H2 e2⟩
theorem ev_maxN {ns : List Int} (ha : EvL ta σ H (ns.map V.int)) (h0 : 0 < ns.length) : Ev (tCB (rMax K) (tCons ta tNil)) σ H (.int (mxL ns)) := fun H1 e Q q =>
  ha H1 e _ fun p H2 _ e2 h2 => ⟨p, ns, rfl, sq_of h2, h0, fun m hm hy => by rw [mxL_eq hm hy]; exact q H2 e2⟩
theorem ev_min {p : Addr} {ns : List Int} (ha : Ev ta σ H (.ref p)) (h : SqL K H p (ns.map V.int)) (h0 : 0 < ns.length) : Ev (tCB (rMin K) (tCons ta tNil)) σ H (.int (mnL ns)) := fun H1 e Q q =>
  ha H1 e _ fun H2 e2 => ⟨p, ns, rfl, ex_l (e.trans e2) h, h0, fun m hm hy => by rw [mnL_eq hm hy]; exact q H2 e2⟩
theorem ev_minN {ns : List Int} (ha : EvL ta σ H (ns.map V.int)) (h0 : 0 < ns.length) : Ev (tCB (rMin K) (tCons ta tNil)) σ H (.int (mnL ns)) := fun H1 e Q q =>
  ha H1 e _ fun p H2 _ e2 h2 => ⟨p, ns, rfl, sq_of h2, h0, fun m hm hy => by rw [mnL_eq hm hy]; exact q H2 e2⟩
theorem ev_abs {i : Int} (ha : Ev ta σ H (.int i)) : Ev (tCB (fun xs H Q => ∃ i, xs = [.int i] ∧ Q (.int (if i < 0 then -i else i)) H) (tCons ta tNil)) σ H (.int (if i < 0 then -i else i)) := fun H1 e Q q =>
  ha H1 e _ fun H2 e2 => ⟨i, rfl, q H2 e2⟩
theorem ev_mx2 {i j : Int} (ha : Ev ta σ H (.int i)) (hb : Ev tb σ H (.int j)) : Ev (tCB (fun xs H Q => ∃ i j, xs = [.int i, .int j] ∧ Q (.int (if j > i then j else i)) H) (tCons ta (tCons tb tNil))) σ H (.int (if j > i then j else i)) := fun H1 e Q q =>
  ha H1 e _ fun H2 e2 => hb H2 (e.trans e2) _ fun H3 e3 => ⟨i, j, rfl, q H3 (e2.trans e3)⟩
/-! ### isinstance -/
theorem tyx_ex {w : Value} (e : Ex H H') (h : TyX K H x w) : TyX K H' x w := by
  cases h with
  | base b =>
    refine .base ?_
    cases b with
    | non => exact .non
    | bl y => exact .bl y
    | int i => exact .int i
    | str y => exact .str y
    | flt y => exact .flt y
    | lst ea => exact .lst (e _ _ ea)
    | frz ea => exact .frz (e _ _ ea)
    | tup ea => exact .tup (e _ _ ea)
    | dK ea => exact .dK (e _ _ ea)
    | dT ea => exact .dT (e _ _ ea)
    | ins ea cl h1 h2 h3 h4 => exact .ins (e _ _ ea) cl h1 h2 h3 h4
  | byt y => exact .byt y
  | set ea => exact .set (e _ _ ea)
  | kList a b => exact .kList a b
  | kTuple a b => exact .kTuple a b
  | kDict a b => exact .kDict a b
  | fTuple ea => exact .fTuple (e _ _ ea)
  | fDict ea => exact .fDict (e _ _ ea)
theorem ev_isi {c : V} {w cu : Value} {b : Bool} (ha : Ev ta σ H x) (hb : Ev tb σ H c) (hc : ClsV c cu) (ht : TyX K H x w) (hk : PySem.W.kitOne K w cu = some b) : Ev (tCB (rIsi K) (tCons ta (tCons tb tNil))) σ H (.bl b) := fun H1 e Q q =>
  ha H1 e _ fun H2 e2 => hb H2 (e.trans e2) _ fun H3 e3 => ⟨x, c, w, cu, b, rfl, hc, tyx_ex ((e.trans e2).trans e3) ht, hk, q H3 (e2.trans e3)⟩
/-- a built-in class -/
theorem ev_isT {n m : String} {b : Bool} (ha : Ev ta σ H x) (ht : TyX K H x (.type n)) (hk : kitB n m = some b) : Ev (tCB (rIsi K) (tCons ta (tCons (tC (.ty m)) tNil))) σ H (.bl b) := ev_isi ha ev_c (.ty m) ht (kit_ty hk)
theorem tx_lst {a : Addr} {xs : List V} (h : H a = some (.lst xs)) : TyX K H (.ref a) (.type "list") := .base (.lst h)
theorem tx_tup {a : Addr} {xs : List V} (h : H a = some (.tup xs)) : TyX K H (.ref a) (.type "tuple") := .base (.tup h)
theorem tx_int {i : Int} : TyX K H (.int i) (.type "int") := .base (.int i)
theorem tx_bl {b : Bool} : TyX K H (.bl b) (.type "bool") := .base (.bl b)
/-! ### comprehensions over whole lists -/
theorem given_all {n : Nat} {v : Nat → V} : given n (fun _ => true) v = (List.range n).map v := by
  unfold given
  rw [List.filter_eq_self.mpr fun _ _ => rfl]
theorem range_map_get {α β : Type} (xs : List α) (d : α) (g : α → β) : (List.range xs.length).map (fun i => g (xs.getD i d)) = xs.map g := by
  apply List.ext_getElem?
  intro i
  rw [List.getElem?_map, List.getElem?_map]
  by_cases h : i < xs.length
  · rw [List.getElem?_range h, List.getElem?_eq_getElem h]
    simp [List.getD, h]
  · rw [List.getElem?_eq_none (by simpa using h), List.getElem?_eq_none (by simpa using h)]
    rfl
theorem et_yes : EvT tYes σ H true := fun H1 _ _ q => q H1 (Ex.refl H1)
theorem el_map {a : Addr} {xs : List V} {tl : TE} {j : Nat} {ws : List Nat} (g : V → V) (h : Ev tl σ H (.ref a)) (hx : SqL K H a xs) (hz : xs.length ≤ 40000) (hw : ∀ x, wipe ((wipe σ ws).set j (some x)) ws = wipe σ ws)
    (he : ∀ (x : V) H1, Ex H H1 → x ∈ xs → Ev te ((wipe σ ws).set j (some x)) H1 (g x)) : EvL (tLc (iList K tl) (gName j) tYes te ws) σ H (xs.map g) := by
  have q := el_lcL (te := te) (t := tYes) (j := j) (vs := ws) (fun _ => true) (fun i => g (xs.getD i .non)) h hx hz hw (fun i x H1 e hi => et_yes) (fun i x H1 e hi _ => by
    have e2 : xs.getD i .non = x := by simp [List.getD, hi]
    rw [e2]
    exact he x H1 e (List.mem_of_getElem? hi))
  rw [given_all, range_map_get] at q
  exact q
theorem el_mapI {a : Addr} {ns : List Int} {tl : TE} {j : Nat} {ws : List Nat} (g : Int → V) (h : Ev tl σ H (.ref a)) (hx : SqL K H a (ns.map V.int)) (hz : ns.length ≤ 40000) (hw : ∀ x, wipe ((wipe σ ws).set j (some x)) ws = wipe σ ws)
    (he : ∀ (n : Int) H1, Ex H H1 → n ∈ ns → Ev te ((wipe σ ws).set j (some (.int n))) H1 (g n)) : EvL (tLc (iList K tl) (gName j) tYes te ws) σ H (ns.map g) := by
  have q := el_lcL (te := te) (t := tYes) (j := j) (vs := ws) (fun _ => true) (fun i => g (ns.getD i 0)) h hx (by rw [List.length_map]; exact hz) hw (fun i x H1 e hi => et_yes) (fun i x H1 e hi _ => by
    rw [List.getElem?_map] at hi
    cases hn : ns[i]? with
    | none => rw [hn] at hi; cases hi
    | some n =>
      rw [hn] at hi
      have e2 : x = .int n := (Option.some.inj hi).symm
      subst e2
      have e3 : ns.getD i 0 = n := by simp [List.getD, hn]
      rw [e3]
      exact he n H1 e (List.mem_of_getElem? hn))
  rw [given_all, List.length_map, range_map_get] at q
  exact q
theorem el_mapIB {a : Addr} {ns : List Int} {tl : TE} {j : Nat} {ws : List Nat} (g : Int → Bool) (h : Ev tl σ H (.ref a)) (hx : SqL K H a (ns.map V.int)) (hz : ns.length ≤ 40000) (hw : ∀ x, wipe ((wipe σ ws).set j (some x)) ws = wipe σ ws)
    (he : ∀ (n : Int) H1, Ex H H1 → n ∈ ns → Ev te ((wipe σ ws).set j (some (.int n))) H1 (.bl (g n))) : EvL (tLc (iList K tl) (gName j) tYes te ws) σ H ((ns.map g).map V.bl) := by
  have q := el_mapI (K := K) (fun n => V.bl (g n)) h hx hz hw he
  rw [List.map_map]
  exact q
theorem el_mapII {a : Addr} {ns : List Int} {tl : TE} {j : Nat} {ws : List Nat} (g : Int → Int) (h : Ev tl σ H (.ref a)) (hx : SqL K H a (ns.map V.int)) (hz : ns.length ≤ 40000) (hw : ∀ x, wipe ((wipe σ ws).set j (some x)) ws = wipe σ ws)
    (he : ∀ (n : Int) H1, Ex H H1 → n ∈ ns → Ev te ((wipe σ ws).set j (some (.int n))) H1 (.int (g n))) : EvL (tLc (iList K tl) (gName j) tYes te ws) σ H ((ns.map g).map V.int) := by
  have q := el_mapI (K := K) (fun n => V.int (g n)) h hx hz hw he
  rw [List.map_map]
  exact q
theorem el_mapB {a : Addr} {xs : List V} {tl : TE} {j : Nat} {ws : List Nat} (g : V → Bool) (h : Ev tl σ H (.ref a)) (hx : SqL K H a xs) (hz : xs.length ≤ 40000) (hw : ∀ x, wipe ((wipe σ ws).set j (some x)) ws = wipe σ ws)
    (he : ∀ (x : V) H1, Ex H H1 → x ∈ xs → Ev te ((wipe σ ws).set j (some x)) H1 (.bl (g x))) : EvL (tLc (iList K tl) (gName j) tYes te ws) σ H ((xs.map g).map V.bl) := by
  have q := el_map (K := K) (fun n => V.bl (g n)) h hx hz hw he
  rw [List.map_map]
  exact q
theorem el_mapR {ar : TA} {j : Nat} {ws : List Nat} {n : Nat} (g : Nat → V) (h : EvA ar σ H [.int (n : Int)]) (hn : n ≤ 40000) (hw : ∀ x, wipe ((wipe σ ws).set j (some x)) ws = wipe σ ws)
    (he : ∀ (i : Nat) H1, Ex H H1 → i < n → Ev te ((wipe σ ws).set j (some (.int (i : Int)))) H1 (g i)) : EvL (tLc (iRng1 ar) (gName j) tYes te ws) σ H ((List.range n).map g) := by
  have q := el_lcR1 (te := te) (t := tYes) (j := j) (vs := ws) (fun _ => true) g h (by omega) hw (fun i H1 e hi => et_yes) (fun i H1 e hi _ => he i H1 e (by omega))
  rw [given_all, Int.toNat_natCast] at q
  exact q
theorem el_mapRI {ar : TA} {j : Nat} {ws : List Nat} {n : Nat} (g : Nat → Int) (h : EvA ar σ H [.int (n : Int)]) (hn : n ≤ 40000) (hw : ∀ x, wipe ((wipe σ ws).set j (some x)) ws = wipe σ ws)
    (he : ∀ (i : Nat) H1, Ex H H1 → i < n → Ev te ((wipe σ ws).set j (some (.int (i : Int)))) H1 (.int (g i))) : EvL (tLc (iRng1 ar) (gName j) tYes te ws) σ H (((List.range n).map g).map V.int) := by
  have q := el_mapR (fun n => V.int (g n)) h hn hw he
  rw [List.map_map]
  exact q
theorem el_mapRB {ar : TA} {j : Nat} {ws : List Nat} {n : Nat} (g : Nat → Bool) (h : EvA ar σ H [.int (n : Int)]) (hn : n ≤ 40000) (hw : ∀ x, wipe ((wipe σ ws).set j (some x)) ws = wipe σ ws)
    (he : ∀ (i : Nat) H1, Ex H H1 → i < n → Ev te ((wipe σ ws).set j (some (.int (i : Int)))) H1 (.bl (g i))) : EvL (tLc (iRng1 ar) (gName j) tYes te ws) σ H (((List.range n).map g).map V.bl) := by
  have q := el_mapR (fun n => V.bl (g n)) h hn hw he
  rw [List.map_map]
  exact q
theorem el_is {xs ys : List V} (h : EvL te σ H xs) (e : xs = ys) : EvL te σ H ys := by
  rw [← e]
  exact h
/-! ### two lists joined -/
theorem el_cat {xs ys : List V} (ha : EvL ta σ H xs) (hb : EvL tb σ H ys) (hl : xs.length + ys.length ≤ 100000) : EvL (tOp rCat ta tb) σ H (xs ++ ys) := fun H1 e Q q =>
  ha H1 e _ fun p H2 hp e2 h2 => hb H2 (e.trans e2) _ fun p' H3 hp' e3 h3 => ⟨p, p', xs, ys, rfl, rfl, e3 _ _ h2, h3, sz_of hl, fun r hr => q r _ (fresh_back (e2.trans e3) hr) ((e2.trans e3).trans (Ex.new hr)) upd_same⟩
theorem el_cat1 {p : Addr} {xs ys : List V} (ha : Ev ta σ H (.ref p)) (hx : H p = some (.lst xs)) (hb : EvL tb σ H ys) (hl : xs.length + ys.length ≤ 100000) : EvL (tOp rCat ta tb) σ H (xs ++ ys) := fun H1 e Q q =>
  ha H1 e _ fun H2 e2 => hb H2 (e.trans e2) _ fun p' H3 hp' e3 h3 => ⟨p, p', xs, ys, rfl, rfl, ((e.trans e2).trans e3) _ _ hx, h3, sz_of hl, fun r hr => q r _ (fresh_back (e2.trans e3) hr) ((e2.trans e3).trans (Ex.new hr)) upd_same⟩
theorem el_cat2 {p : Addr} {xs ys : List V} (ha : EvL ta σ H xs) (hb : Ev tb σ H (.ref p)) (hx : H p = some (.lst ys)) (hl : xs.length + ys.length ≤ 100000) : EvL (tOp rCat ta tb) σ H (xs ++ ys) := fun H1 e Q q =>
  ha H1 e _ fun p' H2 hp' e2 h2 => hb H2 (e.trans e2) _ fun H3 e3 => ⟨p', p, xs, ys, rfl, rfl, e3 _ _ h2, ((e.trans e2).trans e3) _ _ hx, sz_of hl, fun r hr => q r _ (fresh_back (e2.trans e3) hr) ((e2.trans e3).trans (Ex.new hr)) upd_same⟩
theorem el_cat3 {p p' : Addr} {xs ys : List V} (ha : Ev ta σ H (.ref p)) (hx : H p = some (.lst xs)) (hb : Ev tb σ H (.ref p')) (hy : H p' = some (.lst ys)) (hl : xs.length + ys.length ≤ 100000) : EvL (tOp rCat ta tb) σ H (xs ++ ys) := fun H1 e Q q =>
  ha H1 e _ fun H2 e2 => hb H2 (e.trans e2) _ fun H3 e3 => ⟨p, p', xs, ys, rfl, rfl, ((e.trans e2).trans e3) _ _ hx, ((e.trans e2).trans e3) _ _ hy, sz_of hl, fun r hr => q r _ (fresh_back (e2.trans e3) hr) ((e2.trans e3).trans (Ex.new hr)) upd_same⟩
/-! ### an item of a list of whole numbers -/
theorem at_int {ns : List Int} {i : Nat} {n : Int} (h : ns[i]? = some n) : atI (ns.map V.int) (i : Int) = some (.int n) := atI_nat (by rw [List.getElem?_map, h]; rfl)
theorem ev_ixI {a : Addr} {ns : List Int} {i : Int} {n : Int} (ha : Ev ta σ H (.ref a)) (hl : SqL K H a (ns.map V.int)) (hb : Ev tb σ H (.int i)) (h0 : 0 ≤ i) (h : ns[i.toNat]? = some n) : Ev (tOp (rIxL K) ta tb) σ H (.int n) :=
  ev_op ha hb (rv_ixL hl (by rw [show i = ((i.toNat : Nat) : Int) by omega]; exact at_int h))
theorem ev_ixN {a : Addr} {xs : List V} {i : Int} (ha : Ev ta σ H (.ref a)) (hl : SqL K H a xs) (hb : Ev tb σ H (.int i)) (h0 : 0 ≤ i) (h : xs[i.toNat]? = some v) : Ev (tOp (rIxL K) ta tb) σ H v :=
  ev_op ha hb (rv_ixL hl (by rw [show i = ((i.toNat : Nat) : Int) by omega]; exact atI_nat h))
theorem ev_ixLast {a : Addr} {xs : List V} (ha : Ev ta σ H (.ref a)) (hl : SqL K H a (xs ++ [v])) : Ev (tOp (rIxL K) ta (tUn (rU fun i => .int (-i)) (tC (.int 1)))) σ H v := ev_op ha (ev_un ev_c ru_neg) (rv_ixL hl (atI_last xs v))
theorem int_at {ns : List Int} {i : Nat} (h : (ns.map V.int)[i]? = some x) : ∃ n, x = .int n ∧ ns[i]? = some n := by
  rw [List.getElem?_map] at h
  cases hn : ns[i]? with
  | none => rw [hn] at h; cases h
  | some n => rw [hn] at h; exact ⟨n, (Option.some.inj h).symm, rfl⟩
theorem take_snoc {α : Type} {l : List α} {i : Nat} {a : α} (h : l[i]? = some a) : l.take (i + 1) = l.take i ++ [a] := by
  rw [List.take_add_one, h]
  rfl
theorem drop_at {α : Type} {l : List α} {i : Nat} {a : α} (h : l[i]? = some a) : l.drop i = a :: l.drop (i + 1) := by
  obtain ⟨h1, h2⟩ := List.getElem?_eq_some_iff.mp h
  rw [List.drop_eq_getElem_cons h1, h2]
/-! ### loops -/
variable {D : Ends} {tu tw tz : TS}
theorem q_forEn {ar : TA} {a : Addr} {xs : List V} {p q : Nat} (h : EvA ar σ H [.ref a]) (hx : SqL K H a xs) (Pw : Nat → L2.St → Hp → Prop) (h0 : ∀ H1, Ex H H1 → Pw 0 σ H1) (hl : ∀ i σ' H', i ≤ xs.length → Pw i σ' H' → SqL K H' a xs)
    (hs : ∀ i x σ' H', xs[i]? = some x → Pw i σ' H' → ∀ H2, Ex H' H2 → tu { D with nx := Pw (i + 1), ct := Pw (i + 1), bk := tz D } ((σ'.set p (some (.int (i : Int)))).set q (some x)) H2) (hd : ∀ σ' H', Pw xs.length σ' H' → tz D σ' H') :
    tSeq (tFor (iEnum K ar) (gTup K 2 (gCons (gName p) (gCons (gName q) gNil))) tu) tz D σ H :=
  h H (Ex.refl H) _ fun H1 e => ⟨a, xs, rfl, ex_l e hx, fun i m σ H => m = xs.length - i ∧ i ≤ xs.length ∧ Pw i σ H, ⟨xs.length, by simp, Nat.zero_le _, h0 H1 e⟩, by
    rintro i m σ H ⟨rfl, hi, pw⟩
    have hq := hl i σ H hi pw
    by_cases hlt : i < xs.length
    · refine .inr ⟨⟨xs, xs[i], hq, by simp [hlt]⟩, Pw (i + 1), fun σ' H' p' => ⟨xs.length - (i + 1), by omega, rfl, hlt, p'⟩, fun x H' y => ?_⟩
      obtain ⟨T, z, rfl, hT, rfl, y⟩ := y
      refine ⟨T, _, rfl, st_of upd_same, rfl, .int (i : Int), [z], rfl, z, [], rfl, rfl, ?_⟩
      exact hs i z σ H (y xs hq) pw _ (Ex.new hT)
    · have e : i = xs.length := by omega
      subst e
      exact .inl ⟨⟨xs, hq, Nat.le_refl _⟩, hd σ H pw⟩⟩
end
/-! ### data: lists of whole numbers, of lists -/
abbrev dI (ns : List Int) : PyData := .list (ns.map PyData.int)
abbrev dP (p : Int × Int) : PyData := .tuple [.int p.1, .int p.2]
section
variable {K : PySem.W.Frag} {H : Hp}
theorem dpa_int : ∀ ns : List Int, DpAll K H (ns.map V.int) (ns.map PyData.int)
  | [] => .nil
  | n :: r => .cons (.int n) (dpa_int r)
theorem dp_int {a : Addr} {ns : List Int} (h : SqL K H a (ns.map V.int)) : Dp K H (.ref a) (dI ns) := .lst h (dpa_int ns)
theorem lay_int : ∀ ns : List Int, PyData.canLayAll0 (ns.map PyData.int) = true
  | [] => by simp [PyData.canLayAll0]
  | n :: r => by
    rw [List.map_cons, PyData.canLayAll0, lay_int r]
    simp [PyData.canLay0]
theorem dep_int : ∀ ns : List Int, PyData.depthAll (ns.map PyData.int) ≤ 1
  | [] => by simp [PyData.depthAll]
  | n :: r => by
    rw [List.map_cons, PyData.depthAll]
    have := dep_int r
    simp [PyData.depth]
    omega
theorem sh_int (ns : List Int) : SeqAt.shaped (dI ns) = true := by
  unfold SeqAt.shaped
  rw [Bool.and_eq_true]
  refine ⟨by simp only [PyData.canLay0]; exact lay_int ns, decide_eq_true ?_⟩
  have := dep_int ns
  simp only [PyData.depth]
  omega
theorem eqvA_int : ∀ ns ms : List Int, PyData.eqvAll (ns.map PyData.int) (ms.map PyData.int) = decide (ns = ms)
  | [], [] => by simp [PyData.eqvAll]
  | [], m :: ms => by simp [PyData.eqvAll]
  | n :: ns, [] => by simp [PyData.eqvAll]
  | n :: ns, m :: ms => by
    rw [List.map_cons, List.map_cons, PyData.eqvAll, eqvA_int ns ms]
    simp only [PyData.eqv]
    by_cases h : n = m
    · subst h
      by_cases h2 : ns = ms <;> simp [h2]
    · simp [h]
theorem eqv_dI (ns ms : List Int) : PyData.eqv (dI ns) (dI ms) = decide (ns = ms) := by
  simp only [PyData.eqv]
  exact eqvA_int ns ms
/-- two lists of lists of whole numbers -/
theorem sh_ints2 (as bs : List Int) : SeqAt.shaped (.list [dI as, dI bs]) = true := by
  unfold SeqAt.shaped
  rw [Bool.and_eq_true]
  refine ⟨?_, decide_eq_true ?_⟩
  · simp only [PyData.canLay0, PyData.canLayAll0, lay_int, Bool.and_self]
  · have h1 := dep_int as
    have h2 := dep_int bs
    simp only [PyData.depth, PyData.depthAll]
    omega
theorem eqv_ints2 (as bs cs ds : List Int) : PyData.eqv (.list [dI as, dI bs]) (.list [dI cs, dI ds]) = (decide (as = cs) && decide (bs = ds)) := by
  simp only [PyData.eqv, PyData.eqvAll, eqvA_int, Bool.and_true]
theorem rv_eqI {a b : Addr} {ns ms : List Int} (h1 : SqL K H a (ns.map V.int)) (h2 : SqL K H b (ms.map V.int)) : RV (rEqD K) (.ref a) (.ref b) H (.bl (decide (ns = ms))) := fun H1 e Q q =>
  ⟨dI ns, dI ms, dp_int (ex_l e h1), dp_int (ex_l e h2), sh_int ns, sh_int ms, by rw [eqv_dI]; exact q H1 (Ex.refl H1)⟩
theorem rv_neI {a b : Addr} {ns ms : List Int} (h1 : SqL K H a (ns.map V.int)) (h2 : SqL K H b (ms.map V.int)) : RV (rNeD K) (.ref a) (.ref b) H (.bl (!decide (ns = ms))) := fun H1 e Q q =>
  ⟨dI ns, dI ms, dp_int (ex_l e h1), dp_int (ex_l e h2), sh_int ns, sh_int ms, by rw [eqv_dI]; exact q H1 (Ex.refl H1)⟩
/-- x in a list of whole numbers -/
theorem inV_int (n : Int) : ∀ ns : List Int, inV (.int n) (ns.map V.int) = decide (n ∈ ns)
  | [] => by simp [inV]
  | m :: r => by
    have ih := inV_int n r
    unfold inV at ih ⊢
    rw [List.map_cons, List.any_cons, ih]
    simp only [eqV]
    by_cases h : m = n
    · subst h
      simp
    · have h2 : ¬ n = m := fun q => h q.symm
      simp [h, h2]
theorem flat_int (ns : List Int) : (ns.map V.int).all flatV = true := by
  rw [List.all_eq_true]
  intro x hx
  obtain ⟨n, _, rfl⟩ := List.mem_map.mp hx
  rfl
theorem rv_inI {p : Addr} {n : Int} {ns : List Int} (h : SqL K H p (ns.map V.int)) : RV (rIn K false) (.int n) (.ref p) H (.bl (decide (n ∈ ns))) := by
  have q := rv_isL (x := .int n) h rfl (flat_int ns)
  rw [inV_int] at q
  exact q
theorem rv_niI {p : Addr} {n : Int} {ns : List Int} (h : SqL K H p (ns.map V.int)) : RV (rIn K true) (.int n) (.ref p) H (.bl (!decide (n ∈ ns))) := by
  have q := rv_niL (x := .int n) h rfl (flat_int ns)
  rw [inV_int] at q
  exact q
/-- the first place of a number in a list -/
theorem ev_index {σ : L2.St} {ta tb : TE} {a : Addr} {ns : List Int} {n : Int} (ha : Ev ta σ H (.ref a)) (hl : SqL K H a (ns.map V.int)) (hb : Ev tb σ H (.int n)) (hm : n ∈ ns) : Ev (tBM K "list" (rIndex K) ta (tCons tb tNil)) σ H (.int ((ns.findIdx (· == n) : Nat) : Int)) := fun H1 e Q q =>
  ha H1 e _ fun H2 e2 => ⟨.inl ⟨rfl, _, ex_l (e.trans e2) hl⟩, hb H2 (e.trans e2) _ fun H3 e3 => by
    have hlt : ns.findIdx (· == n) < ns.length := List.findIdx_lt_length_of_exists ⟨n, hm, by simp⟩
    have hat : ns[ns.findIdx (· == n)]'hlt = n := by
      have := List.findIdx_getElem (p := (· == n)) (xs := ns) (w := hlt)
      simpa using this
    refine ⟨a, _, _, ns.findIdx (· == n), .int n, rfl, rfl, ex_l ((e.trans e2).trans e3) hl, rfl, flat_int ns, by rw [List.getElem?_map, List.getElem?_eq_getElem hlt, hat]; rfl, by simp [eqV], fun m z' hmj hz => ?_, q H3 (e2.trans e3)⟩
    obtain ⟨k, rfl, hk⟩ := int_at hz
    have h1 := List.not_of_lt_findIdx (p := (· == n)) (xs := ns) hmj
    obtain ⟨h2, h3⟩ := List.getElem?_eq_some_iff.mp hk
    rw [h3] at h1
    simp only [eqV]
    simpa using h1⟩
/-- xs[-1] = e -/
theorem s_setLast {σ : L2.St} {D : Ends} {te ta : TE} {l : Addr} {xs : List V} {v w : V} (hl : H l = some (.lst (xs ++ [w]))) (h : Ev te σ H v) (ho : Ev ta σ H (.ref l)) (k : ∀ H1, Ex H H1 → D.nx σ (upd H1 l (.lst (xs ++ [v])))) :
    tAsg te (gSub ta (tUn (rU fun i => .int (-i)) (tC (.int 1))) rSetL) D σ H := h H (Ex.refl H) _ fun H1 e1 => ho H1 e1 _ fun H2 e2 => ⟨1, rfl, l, xs ++ [w], -1, xs.length, rfl, rfl, (e1.trans e2) l _ hl, by
      unfold ixN
      rw [if_neg (by omega), if_pos (by rw [List.length_append, List.length_singleton]; omega), List.length_append, List.length_singleton]
      congr 1
      omega, by
    have e0 : (xs ++ [w]).set xs.length v = xs ++ [v] := by
      rw [List.set_append_right _ _ (Nat.le_refl _), Nat.sub_self]
      rfl
    rw [e0]
    exact k H2 (e1.trans e2)⟩
end
/-! ### a reading by its parts, what is behind told -/
section
variable {σ : L2.St} {H : Hp} {D : Ends} {te : TE} {g : TG} {tz : TS} {ta tr : TA} {Q : VK} {QA : List V → Hp → Prop}
theorem r_asg (h : te σ H fun x H1 => g x σ H1 (tz D)) : tSeq (tAsg te g) tz D σ H := h
theorem r_lst (h : ta σ H fun xs H1 => xs.length ≤ sizeLine ∧ ∀ p, H1 p = none → Q (.ref p) (upd H1 p (.lst xs))) : tLst ta σ H Q := h
theorem r_tup (h : ta σ H fun xs H1 => xs.length ≤ sizeLine ∧ ∀ p, H1 p = none → Q (.ref p) (upd H1 p (.tup xs))) : tTup ta σ H Q := h
theorem r_cons (h : te σ H fun x H1 => tr σ H1 fun xs H2 => QA (x :: xs) H2) : tCons te tr σ H QA := h
theorem r_nil (h : QA [] H) : tNil σ H QA := h
theorem r_ev {v : V} (h : Ev te σ H v) (k : ∀ H1, Ex H H1 → Q v H1) : te σ H Q := h H (Ex.refl H) Q k
theorem r_el {xs : List V} (h : EvL te σ H xs) (k : ∀ p H1, H p = none → Ex H H1 → H1 p = some (.lst xs) → Q (.ref p) H1) : te σ H Q := h H (Ex.refl H) Q k
end
/-! ### more of lists, calls and loops -/
section
variable {K : PySem.W.Frag} {σ : L2.St} {H : Hp} {ta tb tc te : TE} {t : TT} {u v w : V} {D : Ends} {tu tz : TS} {ar : TA} {i j l : Nat}
theorem q_par3 (h : EvA ar σ H [u, v, w]) (k : ∀ H1, Ex H H1 → tz D (((σ.set i (some u)).set j (some v)).set l (some w)) H1) : tSeq (tPar3 i j l ar) tz D σ H := h H (Ex.refl H) _ fun H1 e => ⟨u, v, w, rfl, k H1 e⟩
theorem q_par (h : EvA ar σ H [u, v]) (k : ∀ H1, Ex H H1 → tz D ((σ.set i (some u)).set j (some v)) H1) : tSeq (tPar i j ar) tz D σ H := h H (Ex.refl H) _ fun H1 e => ⟨u, v, rfl, k H1 e⟩
theorem s_par (h : EvA ar σ H [u, v]) (k : ∀ H1, Ex H H1 → D.nx ((σ.set i (some u)).set j (some v)) H1) : tPar i j ar D σ H := h H (Ex.refl H) _ fun H1 e => ⟨u, v, rfl, k H1 e⟩
theorem el_callNN {F : LF} {xs ys zs : List V} (ha : EvL ta σ H xs) (hb : EvL tb σ H ys) (f : ∀ p q H', Ex H H' → H' p = some (.lst xs) → H' q = some (.lst ys) → F [.ref p, .ref q] H' zs) : EvL (tCall (Pl F) [] E0 (tCons ta (tCons tb tNil))) σ H zs := fun H1 e Q k =>
  ha H1 e _ fun p H2 hp e2 h2 => hb H2 (e.trans e2) _ fun q H3 hq e3 h3 => ⟨zs, f p q H3 ((e.trans e2).trans e3) (e3 _ _ h2) h3, fun r H4 hr e4 h4 => k r H4 (fresh_back (e2.trans e3) hr) ((e2.trans e3).trans e4) h4⟩
theorem el_lcR2 {vs : List Nat} {lo hi : Int} (f : Nat → Bool) (v : Nat → V) (h : EvA ar σ H [.int lo, .int hi]) (hn : 0 ≤ lo ∧ lo ≤ 40000 ∧ -40000 ≤ hi ∧ hi ≤ 40000) (hw : ∀ x, wipe ((wipe σ vs).set j (some x)) vs = wipe σ vs)
    (ht : ∀ (i : Nat) H1, Ex H H1 → lo + (i : Int) < hi → EvT t ((wipe σ vs).set j (some (.int (lo + (i : Int))))) H1 (f i)) (he : ∀ (i : Nat) H1, Ex H H1 → lo + (i : Int) < hi → f i = true → Ev te ((wipe σ vs).set j (some (.int (lo + (i : Int))))) H1 (v i)) :
    EvL (tLc (iRng2 ar) (gName j) t te vs) σ H (given (hi - lo).toNat f v) := fun H0 e Q q => h H0 e _ fun H1 e1 => ⟨lo, hi, rfl, ⟨by omega, by omega, by omega, by omega⟩, fun Dl hD =>
  lc_range (lo := lo) (n := (hi - lo).toNat) (Cw H1 f v Dl) ⟨hD, Ex.new hD, upd_same⟩ (fun i H' hi2 p => ⟨hw _, cw_turn p (by omega) (ht i H1 (e.trans e1) (by omega)) (fun hf => he i H1 (e.trans e1) (by omega) hf)⟩) (fun H' p => q Dl H' (fresh_back e1 p.1) (e1.trans p.2.1) p.2.2)⟩
theorem el_rg2 {a b : Int} (ha : Ev ta σ H (.int a)) (hb : Ev tb σ H (.int b)) (h : RgOk a b) : EvL (tLstRg (tRg2 ta tb)) σ H (rgV a b) := fun H1 e Q q =>
  ha H1 e _ fun H2 e2 => hb H2 (e.trans e2) _ fun H3 e3 => ⟨a, b, rfl, rfl, h, fun p hp => q p _ (fresh_back (e2.trans e3) hp) ((e2.trans e3).trans (Ex.new hp)) upd_same⟩
theorem r_forL {tl : TE} {g : TG} (h : tl σ H fun x H1 => ∃ a, x = .ref a ∧ (∃ xs, SqL K H1 a xs) ∧ ∃ W : Nat → Nat → L2.St → Hp → Prop, (∃ m, W 0 m σ H1) ∧ ∀ i m σ H, W i m σ H →
      ((Itl K a).stop i H ∧ tz D σ H) ∨ ((Itl K a).go i H ∧ ∃ N : L2.St → Hp → Prop, (∀ σ' H', N σ' H' → ∃ m', m' < m ∧ W (i + 1) m' σ' H') ∧ ∀ x H', (Itl K a).yld i H x H' → g x σ H' fun σ2 H2 => tu { D with nx := N, ct := N, bk := tz D } σ2 H2)) : tSeq (tFor (iList K tl) g tu) tz D σ H := h
theorem r_loop {a : Addr} {xs : List V} (hx : SqL K H a xs) (Pw : Nat → L2.St → Hp → Prop) (h0 : Pw 0 σ H) (hl : ∀ i σ' H', i ≤ xs.length → Pw i σ' H' → SqL K H' a xs)
    (hs : ∀ i x σ' H', xs[i]? = some x → Pw i σ' H' → tu { D with nx := Pw (i + 1), ct := Pw (i + 1), bk := tz D } (σ'.set j (some x)) H') (hd : ∀ σ' H', Pw xs.length σ' H' → tz D σ' H') :
    ∃ b, V.ref a = .ref b ∧ (∃ xs, SqL K H b xs) ∧ ∃ W : Nat → Nat → L2.St → Hp → Prop, (∃ m, W 0 m σ H) ∧ ∀ i m σ H, W i m σ H →
      ((Itl K b).stop i H ∧ tz D σ H) ∨ ((Itl K b).go i H ∧ ∃ N : L2.St → Hp → Prop, (∀ σ' H', N σ' H' → ∃ m', m' < m ∧ W (i + 1) m' σ' H') ∧ ∀ x H', (Itl K b).yld i H x H' → gName j x σ H' fun σ2 H2 => tu { D with nx := N, ct := N, bk := tz D } σ2 H2) :=
  ⟨a, rfl, ⟨xs, hx⟩, for_list (D := { D with nx := tz D }) Pw h0 hl hs hd⟩
end
/-! ### what a reading leaves, told by a relation: the heap ahead, the value, the heap behind -/
abbrev RF := Hp → V → Hp → Prop
abbrev XF := List V → Hp → RF → Prop
def EvX (te : TE) (σ : L2.St) (H : Hp) (R : RF) : Prop := ∀ H1, Ex H H1 → ∀ Q : VK, (∀ v H2, Ex H1 H2 → R H1 v H2 → Q v H2) → te σ H1 Q
def Px (F : XF) : Sp := fun vs H Q _ => ∃ R, F vs H R ∧ ∀ v H2, Ex H H2 → R H v H2 → Q v H2
def MonoX (F : XF) : Prop := ∀ vs H H1 R, Ex H H1 → F vs H R → F vs H1 R
def Anti (R : RF) : Prop := ∀ H H1 v H2, Ex H H1 → R H1 v H2 → R H v H2
section
variable {K : PySem.W.Frag} {σ : L2.St} {H : Hp} {ta tb tc te tv : TE} {t : TT} {u v w z : V} {D : Ends} {tu tz : TS} {ar : TA} {i j l : Nat} {R : RF} {vs : List V}
theorem ex_call {F : XF} (m : MonoX F) (an : Anti R) (h : EvA ar σ H vs) (f : F vs H R) : EvX (tCall (Px F) [] E0 ar) σ H R := fun H1 e Q q =>
  h H1 e _ fun H2 e2 => ⟨R, by rw [List.append_nil]; exact m _ _ _ _ (e.trans e2) f, fun v H3 e3 r => q v H3 (e2.trans e3) (an _ _ _ _ e2 r)⟩
theorem x_asg (h : EvX te σ H R) (k : ∀ v H1, Ex H H1 → R H v H1 → tz D (σ.set i (some v)) H1) : tSeq (tAsg te (gName i)) tz D σ H := h H (Ex.refl H) _ k
theorem x_ret (h : EvX te σ H R) (k : ∀ v H1, Ex H H1 → R H v H1 → D.rt v H1) : tRet te D σ H := h H (Ex.refl H) _ k
theorem r_ex {Q : VK} (h : EvX te σ H R) (k : ∀ v H1, Ex H H1 → R H v H1 → Q v H1) : te σ H Q := h H (Ex.refl H) _ k
/-- a call whose one argument is a new list -/
theorem ev_callV1N {F : VF} {xs : List V} (ha : EvL ta σ H xs) (f : ∀ p H', Ex H H' → H' p = some (.lst xs) → F [.ref p] H' z) : Ev (tCall (Pv F) [] E0 (tCons ta tNil)) σ H z := fun H1 e Q q =>
  ha H1 e _ fun p H2 _ e2 h2 => ⟨z, f p H2 (e.trans e2) h2, fun H3 e3 => q H3 (e2.trans e3)⟩
/-- calls and methods whose first argument is a new list -/
theorem ev_callVN {F : VF} {xs : List V} {ar : TA} {vs : List V} (hx : EvL ta σ H xs) (hb : EvA ar σ H vs) (f : ∀ p H', Ex H H' → H' p = some (.lst xs) → F (.ref p :: vs) H' z) : Ev (tCall (Pv F) [] E0 (tCons ta ar)) σ H z := fun H1 e Q q =>
  hx H1 e _ fun p H2 _ e2 h2 => hb H2 (e.trans e2) _ fun H3 e3 => ⟨z, by rw [List.append_nil]; exact f p H3 ((e.trans e2).trans e3) (e3 _ _ h2), fun H4 e4 => q H4 ((e2.trans e3).trans e4)⟩
theorem ev_methVN {a C dx : Addr} {fs : List (Str × V)} {m : Str} {F : VF} {xs vs : List V} {ar : TA} (h : Ev ta σ H (.ref a)) (ho : H a = some (.ins C dx fs)) (l : fs.lookup m = none) (hx : EvL te σ H xs) (hb : EvA ar σ H vs) (f : ∀ p H', Ex H H' → H' p = some (.lst xs) → F (.ref a :: .ref p :: vs) H' z) :
    Ev (tMeth C m (Pv F) [] E0 ta (tCons te ar)) σ H z := fun H1 e Q q =>
  h H1 e _ fun H2 e2 => ⟨a, dx, fs, rfl, (e.trans e2) a _ ho, l, hx H2 (e.trans e2) _ fun p H3 _ e3 h3 => hb H3 ((e.trans e2).trans e3) _ fun H4 e4 => ⟨z, by rw [List.append_nil]; exact f p H4 (((e.trans e2).trans e3).trans e4) (e4 _ _ h3), fun H5 e5 => q H5 (((e2.trans e3).trans e4).trans e5)⟩⟩
/-- a list, new or old -/
def EvRL (te : TE) (σ : L2.St) (H : Hp) (xs : List V) : Prop := ∀ H1, Ex H H1 → ∀ Q : VK, (∀ c H2, Ex H1 H2 → H2 c = some (.lst xs) → Q (.ref c) H2) → te σ H1 Q
theorem rl_new {xs : List V} (h : EvL te σ H xs) : EvRL te σ H xs := fun H1 e Q q => h H1 e Q fun p H2 _ e2 h2 => q p H2 e2 h2
theorem rl_old {xs : List V} {c : Addr} (h : Ev te σ H (.ref c)) (hc : H c = some (.lst xs)) : EvRL te σ H xs := fun H1 e Q q => h H1 e Q fun H2 e2 => q c H2 e2 ((e.trans e2) _ _ hc)
theorem r_par (h : ar σ H fun vs H1 => ∃ v w, vs = [v, w] ∧ tz D ((σ.set i (some v)).set j (some w)) H1) : tSeq (tPar i j ar) tz D σ H := h
theorem ex_callN {F : XF} {xs : List V} (an : Anti R) (hx : EvL ta σ H xs) (hb : EvA ar σ H vs) (f : ∀ p H', Ex H H' → H' p = some (.lst xs) → F (.ref p :: vs) H' R) : EvX (tCall (Px F) [] E0 (tCons ta ar)) σ H R := fun H1 e Q q =>
  hx H1 e _ fun p H2 _ e2 h2 => hb H2 (e.trans e2) _ fun H3 e3 => ⟨R, by rw [List.append_nil]; exact f p H3 ((e.trans e2).trans e3) (e3 _ _ h2), fun v H4 e4 r => q v H4 ((e2.trans e3).trans e4) (an _ _ _ _ (e2.trans e3) r)⟩
theorem rl_fldX {f : Str} {xs : List V} (h : EvX te σ H R) (hr : ∀ H1 v H2, R H1 v H2 → ∃ (x C dx : Addr) (fs : List (Str × V)) (p : Addr), v = .ref x ∧ H2 x = some (.ins C dx fs) ∧ Cls K C ∧ NoAttr K C f ∧ fs.lookup f = some (.ref p) ∧ H2 p = some (.lst xs)) : EvRL (tFld K te f) σ H xs := fun H1 e Q q =>
  h H1 e _ fun v H2 e2 r => by
    obtain ⟨x, C, dx, fs, p, rfl, hx, c, n, l, hp⟩ := hr _ _ _ r
    exact ⟨x, C, dx, fs, .ref p, rfl, hx, c, n, l, q p H2 e2 hp⟩
theorem ev_fldX {f : Str} (h : EvX te σ H R) (hr : ∀ H1 v H2, R H1 v H2 → ∃ (x C dx : Addr) (fs : List (Str × V)), v = .ref x ∧ H2 x = some (.ins C dx fs) ∧ Cls K C ∧ NoAttr K C f ∧ fs.lookup f = some z) : Ev (tFld K te f) σ H z := fun H1 e Q q =>
  h H1 e _ fun v H2 e2 r => by
    obtain ⟨x, C, dx, fs, rfl, hx, c, n, l⟩ := hr _ _ _ r
    exact ⟨x, C, dx, fs, z, rfl, hx, c, n, l, q H2 e2⟩
theorem ev_opRL {r : R2} {xs ys : List V} (ha : EvRL ta σ H xs) (hb : EvL tb σ H ys) (hr : ∀ p q H1, H1 p = some (.lst xs) → H1 q = some (.lst ys) → Ex H H1 → RV r (.ref p) (.ref q) H1 z) : Ev (tOp r ta tb) σ H z := fun H1 e Q k =>
  ha H1 e _ fun p H2 e2 hp => hb H2 (e.trans e2) _ fun q H3 _ e3 hq => hr p q H3 (e3 p _ hp) hq ((e.trans e2).trans e3) H3 (Ex.refl H3) Q fun H4 e4 => k H4 ((e2.trans e3).trans e4)
/-! ### what is behind a store to a field -/
theorem putF_len (f : Str) (v : V) : ∀ fs : List (Str × V), (putF f v fs).length ≤ fs.length + 1
  | [] => Nat.le_refl _
  | (g, x) :: r => by
    have ih := putF_len f v r
    unfold putF
    split
    · exact Nat.le_succ _
    · exact Nat.succ_le_succ ih
theorem q_fldL {x C dx : Addr} {fs : List (Str × V)} {xs : List V} {f : Str} (hx : H x = some (.ins C dx fs)) (hv : EvL tv σ H xs) (ho : Ev ta σ H (.ref x)) (cl : Cls K C) (na : NoAttr K C f) (hl : fs.length < 1000)
    (k : ∀ p H1, H p = none → Ex H H1 → H1 p = some (.lst xs) → tz D σ (upd H1 x (.ins C dx (putF f (.ref p) fs)))) : tSeq (sFld K ta tv f) tz D σ H :=
  hv H (Ex.refl H) _ fun p H1 hp e h1 => ho H1 e _ fun H2 e2 => ⟨x, C, dx, fs, rfl, (e.trans e2) _ _ hx, cl, na, hl, k p H2 hp (e.trans e2) (e2 _ _ h1)⟩
theorem s_fldL {x C dx : Addr} {fs : List (Str × V)} {xs : List V} {f : Str} (hx : H x = some (.ins C dx fs)) (hv : EvL tv σ H xs) (ho : Ev ta σ H (.ref x)) (cl : Cls K C) (na : NoAttr K C f) (hl : fs.length < 1000)
    (k : ∀ p H1, H p = none → Ex H H1 → H1 p = some (.lst xs) → D.nx σ (upd H1 x (.ins C dx (putF f (.ref p) fs)))) : sFld K ta tv f D σ H :=
  hv H (Ex.refl H) _ fun p H1 hp e h1 => ho H1 e _ fun H2 e2 => ⟨x, C, dx, fs, rfl, (e.trans e2) _ _ hx, cl, na, hl, k p H2 hp (e.trans e2) (e2 _ _ h1)⟩
theorem q_fldV {x C dx : Addr} {fs : List (Str × V)} {f : Str} (hx : H x = some (.ins C dx fs)) (hv : Ev tv σ H v) (ho : Ev ta σ H (.ref x)) (cl : Cls K C) (na : NoAttr K C f) (hl : fs.length < 1000)
    (k : ∀ H1, Ex H H1 → tz D σ (upd H1 x (.ins C dx (putF f v fs)))) : tSeq (sFld K ta tv f) tz D σ H :=
  hv H (Ex.refl H) _ fun H1 e => ho H1 e _ fun H2 e2 => ⟨x, C, dx, fs, rfl, (e.trans e2) _ _ hx, cl, na, hl, k H2 (e.trans e2)⟩
theorem s_fldV {x C dx : Addr} {fs : List (Str × V)} {f : Str} (hx : H x = some (.ins C dx fs)) (hv : Ev tv σ H v) (ho : Ev ta σ H (.ref x)) (cl : Cls K C) (na : NoAttr K C f) (hl : fs.length < 1000)
    (k : ∀ H1, Ex H H1 → D.nx σ (upd H1 x (.ins C dx (putF f v fs)))) : sFld K ta tv f D σ H :=
  hv H (Ex.refl H) _ fun H1 e => ho H1 e _ fun H2 e2 => ⟨x, C, dx, fs, rfl, (e.trans e2) _ _ hx, cl, na, hl, k H2 (e.trans e2)⟩
/-- all but x as it was -/
def Exx (x : Addr) (H H' : Hp) : Prop := ∀ a o, H a = some o → a ≠ x → H' a = some o
theorem Exx.of {x : Addr} {H H' : Hp} (e : Ex H H') : Exx x H H' := fun a o h _ => e a o h
theorem Exx.trans {x : Addr} {H H1 H2 : Hp} (a : Exx x H H1) (b : Exx x H1 H2) : Exx x H H2 := fun c o h n => b c o (a c o h n) n
theorem Exx.put {x : Addr} {H H' : Hp} {o : HO} (e : Ex H H') : Exx x H (upd H' x o) := fun a u h n => by
  rw [upd_ne n]
  exact e a u h
/-- a new instance's own heap, then all but it as it was: the old one grew -/
theorem Exx.made {x dx C : Addr} {H H' : Hp} (nx : H x = none) (nd : H dx = none) (e : Exx x (upd (upd H dx (.own x)) x (.ins C dx [])) H') : Ex H H' := fun a o h =>
  e a o (by rw [upd_ne (ne_of_none h nx), upd_ne (ne_of_none h nd)]; exact h) (ne_of_none h nx)
/-! ### comprehensions over a new list -/
theorem el_mapNIB {ns : List Int} {tl : TE} {j : Nat} {ws : List Nat} (g : Int → Bool) (h : EvL tl σ H (ns.map V.int)) (hz : ns.length ≤ 40000) (hw : ∀ x, wipe ((wipe σ ws).set j (some x)) ws = wipe σ ws)
    (he : ∀ (n : Int) H1, Ex H H1 → n ∈ ns → Ev te ((wipe σ ws).set j (some (.int n))) H1 (.bl (g n))) : EvL (tLc (iList K tl) (gName j) tYes te ws) σ H ((ns.map g).map V.bl) := by
  have q := el_lcNL (K := K) (te := te) (t := tYes) (j := j) (vs := ws) (fun _ => true) (fun i => V.bl (g (ns.getD i 0))) h (by rw [List.length_map]; exact hz) hw (fun i x H1 e hi => et_yes) (fun i x H1 e hi _ => by
    obtain ⟨n, rfl, hn⟩ := int_at hi
    have e3 : ns.getD i 0 = n := by simp [List.getD, hn]
    rw [e3]
    exact he n H1 e (List.mem_of_getElem? hn))
  rw [given_all, List.length_map, range_map_get (g := fun n => V.bl (g n))] at q
  rw [List.map_map]
  exact q
theorem el_mapNII {ns : List Int} {tl : TE} {j : Nat} {ws : List Nat} (g : Int → Int) (h : EvL tl σ H (ns.map V.int)) (hz : ns.length ≤ 40000) (hw : ∀ x, wipe ((wipe σ ws).set j (some x)) ws = wipe σ ws)
    (he : ∀ (n : Int) H1, Ex H H1 → n ∈ ns → Ev te ((wipe σ ws).set j (some (.int n))) H1 (.int (g n))) : EvL (tLc (iList K tl) (gName j) tYes te ws) σ H ((ns.map g).map V.int) := by
  have q := el_lcNL (K := K) (te := te) (t := tYes) (j := j) (vs := ws) (fun _ => true) (fun i => V.int (g (ns.getD i 0))) h (by rw [List.length_map]; exact hz) hw (fun i x H1 e hi => et_yes) (fun i x H1 e hi _ => by
    obtain ⟨n, rfl, hn⟩ := int_at hi
    have e3 : ns.getD i 0 = n := by simp [List.getD, hn]
    rw [e3]
    exact he n H1 e (List.mem_of_getElem? hn))
  rw [given_all, List.length_map, range_map_get (g := fun n => V.int (g n))] at q
  rw [List.map_map]
  exact q
/-! ### is, is not of truths; backwards; pop -/
theorem rv_isB {a b : Bool} : RV rIsB (.bl a) (.bl b) H (.bl (decide (a = b))) := fun H1 _ _ q => ⟨a, b, rfl, rfl, q H1 (Ex.refl H1)⟩
theorem rv_notB {a b : Bool} : RV rNotB (.bl a) (.bl b) H (.bl (!decide (a = b))) := fun H1 _ _ q => ⟨a, b, rfl, rfl, q H1 (Ex.refl H1)⟩
theorem el_rev {a : Addr} {xs : List V} (h : Ev te σ H (.ref a)) (hx : SqL K H a xs) : EvL (tRevL K te) σ H xs.reverse := fun H1 e Q q =>
  h H1 e _ fun H2 e2 => ⟨a, xs, rfl, ex_l (e.trans e2) hx, fun p hp => q p _ (fresh_back e2 hp) (e2.trans (Ex.new hp)) upd_same⟩
/-- xs.pop() -/
theorem q_pop {p : Addr} {xs : List V} (hl : H p = some (.lst (xs ++ [v]))) (ha : Ev ta σ H (.ref p)) (k : ∀ H1, Ex H H1 → tz D σ (upd H1 p (.lst xs))) : tSeq (tDrop (tBM0 K "list" rPop ta)) tz D σ H := ha H (Ex.refl H) _ fun H1 e1 =>
  ⟨Or.inl ⟨rfl, _, sq_of (e1 p _ hl)⟩, p, xs ++ [v], v, rfl, rfl, e1 p _ hl, by simp, by rw [List.dropLast_concat]; exact k H1 e1⟩
/-- xs.append((a, b)) -/
theorem q_appT {p : Addr} {xs : List V} {us : List V} (hl : H p = some (.lst xs)) (ha : Ev ta σ H (.ref p)) (h : EvU te σ H us) (hz : xs.length < 100000) (k : ∀ q H1, H q = none → Ex H H1 → H1 q = some (.tup us) → tz D σ (upd H1 p (.lst (xs ++ [.ref q])))) :
    tSeq (tDrop (tBM K "list" rAppend ta (tCons te tNil))) tz D σ H := q_appU hl ha h hz k
/-- a loop over a tuple made on the way -/
theorem q_forNT {tl : TE} {xs : List V} (h : EvU tl σ H xs) (Pw : L2.St → Hp → Prop) (h0 : ∀ H1, Ex H H1 → Pw σ H1) (hs : ∀ x σ' H0 H', Ex H H0 → Ex H0 H' → x ∈ xs → Pw σ' H' → tu { D with nx := fun σ2 H2 => Ex H0 H2 ∧ Pw σ2 H2, ct := fun σ2 H2 => Ex H0 H2 ∧ Pw σ2 H2, bk := tz D } (σ'.set j (some x)) H')
    (hd : ∀ σ' H', Ex H H' → Pw σ' H' → tz D σ' H') : tSeq (tFor (iTup K tl) (gName j) tu) tz D σ H :=
  h H (Ex.refl H) _ fun p H1 hp e h1 => ⟨p, rfl, ⟨xs, st_of h1⟩, for_tup (D := { D with nx := tz D }) (fun _ σ' H' => Ex H1 H' ∧ Pw σ' H') ⟨Ex.refl H1, h0 H1 e⟩ (fun i σ' H' _ q => st_of (q.1 _ _ h1)) (fun i x σ' H' hi q => hs x σ' H1 H' e q.1 (List.mem_of_getElem? hi) q.2) (fun σ' H' q => hd σ' H' (e.trans q.1) q.2)⟩
end
/-! ### lists of pairs -/
def Prs (H : Hp) (xs : List V) (ps : List (Int × Int)) : Prop := xs.length = ps.length ∧ ∀ (i : Nat) (p : Int × Int), ps[i]? = some p → ∃ t : Addr, xs[i]? = some (V.ref t) ∧ H t = some (.tup [.int p.1, .int p.2])
theorem Prs.mono {H H' : Hp} {xs : List V} {ps : List (Int × Int)} (e : Ex H H') (h : Prs H xs ps) : Prs H' xs ps := ⟨h.1, fun i p hp => by
  obtain ⟨t, h1, h2⟩ := h.2 i p hp
  exact ⟨t, h1, e _ _ h2⟩⟩
theorem Prs.nil {H : Hp} : Prs H [] [] := ⟨rfl, fun i p h => by cases h⟩
theorem Prs.snoc {H : Hp} {xs : List V} {ps : List (Int × Int)} {t : Addr} {a b : Int} (h : Prs H xs ps) (ht : H t = some (.tup [.int a, .int b])) : Prs H (xs ++ [.ref t]) (ps ++ [(a, b)]) := by
  refine ⟨by rw [List.length_append, List.length_append, h.1]; rfl, fun i p hp => ?_⟩
  by_cases hi : i < ps.length
  · rw [List.getElem?_append_left hi] at hp
    obtain ⟨u, h1, h2⟩ := h.2 i p hp
    exact ⟨u, by rw [List.getElem?_append_left (by rw [h.1]; exact hi)]; exact h1, h2⟩
  · rw [List.getElem?_append_right (by omega)] at hp
    have hz : i - ps.length = 0 := by
      have := (List.getElem?_eq_some_iff.mp hp).1
      simp at this
      omega
    rw [hz] at hp
    have e : (a, b) = p := Option.some.inj hp
    subst e
    exact ⟨t, by rw [List.getElem?_append_right (by rw [h.1]; omega), h.1, hz]; rfl, ht⟩
theorem Prs.upd {H : Hp} {xs ys : List V} {ps : List (Int × Int)} {c : Addr} {o : HO} (h : Prs H xs ps) (hc : H c = some (.lst ys)) : Prs (upd H c o) xs ps := ⟨h.1, fun i p hp => by
  obtain ⟨t, h1, h2⟩ := h.2 i p hp
  have n : t ≠ c := ne_of h2 hc (by intro z; cases z)
  exact ⟨t, h1, by rw [upd_ne n]; exact h2⟩⟩
theorem Prs.take {H : Hp} {xs : List V} {ps : List (Int × Int)} (h : Prs H xs ps) (k : Nat) : Prs H (xs.take k) (ps.take k) := ⟨by rw [List.length_take, List.length_take, h.1], fun i p hp => by
  rw [List.getElem?_take] at hp ⊢
  split at hp
  · rename_i hi
    obtain ⟨t, h1, h2⟩ := h.2 i p hp
    exact ⟨t, by rw [if_pos hi]; exact h1, h2⟩
  · cases hp⟩
theorem cutV_to {xs : List V} {k : Nat} : cutV xs none (some (k : Int)) = xs.take k := by
  unfold cutV
  rw [HT.sIx_none, HT.sIx_nat, List.drop_zero, Nat.sub_zero]
  by_cases h : k ≤ xs.length
  · rw [Nat.min_eq_left h]
  · rw [Nat.min_eq_right (by omega), List.take_of_length_le (Nat.le_refl _), List.take_of_length_le (by omega)]
theorem cutV_last {xs : List V} : cutV xs none (some (-1)) = xs.dropLast := by
  unfold cutV
  rw [HT.sIx_none, List.drop_zero, Nat.sub_zero, List.dropLast_eq_take]
  congr 1
  show (if (-1 : Int) < 0 then ((-1 : Int) + (xs.length : Int)).toNat else min (-1 : Int).toNat xs.length) = xs.length - 1
  rw [if_pos (by decide)]
  omega
theorem cutV_mid {xs : List V} {a b : Int} (h0 : 0 ≤ a) (h1 : a ≤ b) (h2 : b ≤ xs.length) : cutV xs (some a) (some b) = (xs.drop a.toNat).take (b.toNat - a.toNat) := by
  unfold cutV
  rw [show a = ((a.toNat : Nat) : Int) by omega, show b = ((b.toNat : Nat) : Int) by omega, HT.sIx_nat, HT.sIx_nat, Nat.min_eq_left (by omega), Nat.min_eq_left (by omega)]
  simp only [Int.toNat_natCast]
section
variable {K : PySem.W.Frag} {σ : L2.St} {H : Hp} {D : Ends} {tu tz : TS} {te : TE} {i j : Nat} {R : RF}
theorem x_asgT2 (h : EvX te σ H R) (k : ∀ v H1, Ex H H1 → R H v H1 → ∃ t u w, v = .ref t ∧ SqT K H1 t [u, w] ∧ tz D ((σ.set i (some u)).set j (some w)) H1) : tSeq (tAsg te (gTup K 2 (gCons (gName i) (gCons (gName j) gNil)))) tz D σ H :=
  h H (Ex.refl H) _ fun v H1 e r => by
    obtain ⟨t, u, w, rfl, hs, q⟩ := k v H1 e r
    exact ⟨t, _, rfl, hs, rfl, u, [w], rfl, w, [], rfl, rfl, q⟩
end
section
variable {K : PySem.W.Frag} {σ : L2.St} {H : Hp} {D : Ends} {tu tz : TS} {tl : TE}
theorem q_forPr {a : Addr} {xs : List V} {ps : List (Int × Int)} {p q : Nat} (h : Ev tl σ H (.ref a)) (hx : SqL K H a xs) (hp : Prs H xs ps) (Pw : Nat → L2.St → Hp → Prop) (h0 : ∀ H1, Ex H H1 → Pw 0 σ H1) (hl : ∀ i σ' H', i ≤ ps.length → Pw i σ' H' → Ex H H')
    (hs : ∀ i z σ' H', ps[i]? = some z → Pw i σ' H' → tu { D with nx := Pw (i + 1), ct := Pw (i + 1), bk := tz D } ((σ'.set p (some (.int z.1))).set q (some (.int z.2))) H') (hd : ∀ σ' H', Pw ps.length σ' H' → tz D σ' H') :
    tSeq (tFor (iList K tl) (gTup K 2 (gCons (gName p) (gCons (gName q) gNil))) tu) tz D σ H :=
  q_forL h hx Pw h0 (fun i σ' H' hi pw => ex_l (hl i σ' H' (by rw [← hp.1]; exact hi) pw) hx) (fun i x σ' H' hi pw => by
    have hlt : i < ps.length := by rw [← hp.1]; exact (List.getElem?_eq_some_iff.mp hi).1
    obtain ⟨t, h1, h2⟩ := hp.2 i ps[i] (List.getElem?_eq_getElem hlt)
    rw [hi] at h1
    have e : x = .ref t := Option.some.inj h1
    subst e
    refine ⟨t, _, rfl, st_of (hl i σ' H' (by omega) pw t _ h2), rfl, .int ps[i].1, [.int ps[i].2], rfl, .int ps[i].2, [], rfl, rfl, ?_⟩
    exact hs i ps[i] σ' H' (List.getElem?_eq_getElem hlt) pw) (by rw [hp.1]; exact hd)
end
end Ct

namespace Ct
open PySem PySem.Spec PyProof.Rows L2 Evl
abbrev R : PySem.W.OpenRow := PySem.W.OpenLaw.row PySem.Challenge.rw_cutrow_k07_refused
def top (i : Nat) : Stmt := PySem.Challenge.pw_cutrow_k07_refused.main.body.getD i (.Pass ⟨0, 0, 0, 0⟩)
abbrev s_is_whole : Stmt := top 9
abbrev s_check_row : Stmt := top 10
abbrev s_check_number : Stmt := top 11
abbrev s_are_cuts : Stmt := top 12
abbrev s_check_cuts : Stmt := top 13
abbrev s_sums_of : Stmt := top 14
abbrev s_parts_of : Stmt := top 15
abbrev s_borne : Stmt := top 16
abbrev s_halved : Stmt := top 17
abbrev s_are_linked : Stmt := top 20
abbrev s_Fewest___init__ : Stmt := inClass (top 21) 0
abbrev s_Fewest_shows : Stmt := inClass (top 21) 1
abbrev s_Great___init__ : Stmt := inClass (top 22) 0
abbrev s_Great_shows : Stmt := inClass (top 22) 1
abbrev s_Least___init__ : Stmt := inClass (top 23) 0
abbrev s_Least_shows : Stmt := inClass (top 23) 1
abbrev s_Most___init__ : Stmt := inClass (top 24) 0
abbrev s_Most_shows : Stmt := inClass (top 24) 1
abbrev s_are_places : Stmt := top 25
abbrev s_filled : Stmt := top 27
abbrev s_fewest : Stmt := top 28
abbrev s_lowest : Stmt := top 29
abbrev s_fullest : Stmt := top 30
abbrev s_written : Stmt := top 32
abbrev s__law_cell_at : Stmt := top 34
abbrev s__law_draw : Stmt := top 35
abbrev s__law_row : Stmt := top 36
abbrev s__law_numbers : Stmt := top 37
abbrev s__law_rising : Stmt := top 38
abbrev s__law_kinds : Stmt := top 39
abbrev s__law_with_row : Stmt := top 40
abbrev s__law_with_number : Stmt := top 41
abbrev s__law_with_cuts : Stmt := top 42
abbrev s__law_cut_text : Stmt := top 43
abbrev s__law_told : Stmt := top 44
abbrev s__law_all : Stmt := top 45
abbrev s_law : Stmt := top 46
structure Tx (K : PySem.W.Frag) (mg : Str → Option Value) : Prop where
  d_is_whole : ∃ fd, FunD K "is_whole" "is_whole" (defArgs s_is_whole) (defBody s_is_whole) (defScope s_is_whole) [] [] (He.ga K "is_whole") fd
  d_check_row : ∃ fd, FunD K "check_row" "check_row" (defArgs s_check_row) (defBody s_check_row) (defScope s_check_row) [] [] (He.ga K "check_row") fd
  d_check_number : ∃ fd, FunD K "check_number" "check_number" (defArgs s_check_number) (defBody s_check_number) (defScope s_check_number) [] [] (He.ga K "check_number") fd
  d_are_cuts : ∃ fd, FunD K "are_cuts" "are_cuts" (defArgs s_are_cuts) (defBody s_are_cuts) (defScope s_are_cuts) [] [] (He.ga K "are_cuts") fd
  d_check_cuts : ∃ fd, FunD K "check_cuts" "check_cuts" (defArgs s_check_cuts) (defBody s_check_cuts) (defScope s_check_cuts) [] [] (He.ga K "check_cuts") fd
  d_sums_of : ∃ fd, FunD K "sums_of" "sums_of" (defArgs s_sums_of) (defBody s_sums_of) (defScope s_sums_of) [] [] (He.ga K "sums_of") fd
  d_parts_of : ∃ fd, FunD K "parts_of" "parts_of" (defArgs s_parts_of) (defBody s_parts_of) (defScope s_parts_of) [] [] (He.ga K "parts_of") fd
  d_borne : ∃ fd, FunD K "borne" "borne" (defArgs s_borne) (defBody s_borne) (defScope s_borne) [] [] (He.ga K "borne") fd
  d_halved : ∃ fd, FunD K "halved" "halved" (defArgs s_halved) (defBody s_halved) (defScope s_halved) [] [] (He.ga K "halved") fd
  d_are_linked : ∃ fd, FunD K "are_linked" "are_linked" (defArgs s_are_linked) (defBody s_are_linked) (defScope s_are_linked) [] [] (He.ga K "are_linked") fd
  d_Fewest___init__ : ∃ fd, FunD K "__init__" "Fewest.__init__" (defArgs s_Fewest___init__) (defBody s_Fewest___init__) (defScope s_Fewest___init__) [] [] (He.ma K (He.ga K "Fewest") "__init__") fd
  d_Fewest_shows : ∃ fd, FunD K "shows" "Fewest.shows" (defArgs s_Fewest_shows) (defBody s_Fewest_shows) (defScope s_Fewest_shows) [] [] (He.ma K (He.ga K "Fewest") "shows") fd
  d_Great___init__ : ∃ fd, FunD K "__init__" "Great.__init__" (defArgs s_Great___init__) (defBody s_Great___init__) (defScope s_Great___init__) [] [] (He.ma K (He.ga K "Great") "__init__") fd
  d_Great_shows : ∃ fd, FunD K "shows" "Great.shows" (defArgs s_Great_shows) (defBody s_Great_shows) (defScope s_Great_shows) [] [] (He.ma K (He.ga K "Great") "shows") fd
  d_Least___init__ : ∃ fd, FunD K "__init__" "Least.__init__" (defArgs s_Least___init__) (defBody s_Least___init__) (defScope s_Least___init__) [] [] (He.ma K (He.ga K "Least") "__init__") fd
  d_Least_shows : ∃ fd, FunD K "shows" "Least.shows" (defArgs s_Least_shows) (defBody s_Least_shows) (defScope s_Least_shows) [] [] (He.ma K (He.ga K "Least") "shows") fd
  d_Most___init__ : ∃ fd, FunD K "__init__" "Most.__init__" (defArgs s_Most___init__) (defBody s_Most___init__) (defScope s_Most___init__) [] [] (He.ma K (He.ga K "Most") "__init__") fd
  d_Most_shows : ∃ fd, FunD K "shows" "Most.shows" (defArgs s_Most_shows) (defBody s_Most_shows) (defScope s_Most_shows) [] [] (He.ma K (He.ga K "Most") "shows") fd
  d_are_places : ∃ fd, FunD K "are_places" "are_places" (defArgs s_are_places) (defBody s_are_places) (defScope s_are_places) [] [] (He.ga K "are_places") fd
  d_filled : ∃ fd, FunD K "filled" "filled" (defArgs s_filled) (defBody s_filled) (defScope s_filled) [] [] (He.ga K "filled") fd
  d_fewest : ∃ fd, FunD K "fewest" "fewest" (defArgs s_fewest) (defBody s_fewest) (defScope s_fewest) [] [] (He.ga K "fewest") fd
  d_lowest : ∃ fd, FunD K "lowest" "lowest" (defArgs s_lowest) (defBody s_lowest) (defScope s_lowest) [] [] (He.ga K "lowest") fd
  d_fullest : ∃ fd, FunD K "fullest" "fullest" (defArgs s_fullest) (defBody s_fullest) (defScope s_fullest) [] [] (He.ga K "fullest") fd
  d_written : ∃ fd, FunD K "written" "written" (defArgs s_written) (defBody s_written) (defScope s_written) [] [] (He.ga K "written") fd
  d__law_cell_at : ∃ fd, FunD K "_law_cell_at" "_law_cell_at" (defArgs s__law_cell_at) (defBody s__law_cell_at) (defScope s__law_cell_at) [] [] (He.ga K "_law_cell_at") fd
  d__law_draw : ∃ fd, FunD K "_law_draw" "_law_draw" (defArgs s__law_draw) (defBody s__law_draw) (defScope s__law_draw) [] [] (He.ga K "_law_draw") fd
  d__law_row : ∃ fd, FunD K "_law_row" "_law_row" (defArgs s__law_row) (defBody s__law_row) (defScope s__law_row) [] [] (He.ga K "_law_row") fd
  d__law_numbers : ∃ fd, FunD K "_law_numbers" "_law_numbers" (defArgs s__law_numbers) (defBody s__law_numbers) (defScope s__law_numbers) [] [] (He.ga K "_law_numbers") fd
  d__law_rising : ∃ fd, FunD K "_law_rising" "_law_rising" (defArgs s__law_rising) (defBody s__law_rising) (defScope s__law_rising) [] [] (He.ga K "_law_rising") fd
  d__law_kinds : ∃ fd, FunD K "_law_kinds" "_law_kinds" (defArgs s__law_kinds) (defBody s__law_kinds) (defScope s__law_kinds) [] [] (He.ga K "_law_kinds") fd
  d__law_with_row : ∃ fd, FunD K "_law_with_row" "_law_with_row" (defArgs s__law_with_row) (defBody s__law_with_row) (defScope s__law_with_row) [] [] (He.ga K "_law_with_row") fd
  d__law_with_number : ∃ fd, FunD K "_law_with_number" "_law_with_number" (defArgs s__law_with_number) (defBody s__law_with_number) (defScope s__law_with_number) [] [] (He.ga K "_law_with_number") fd
  d__law_with_cuts : ∃ fd, FunD K "_law_with_cuts" "_law_with_cuts" (defArgs s__law_with_cuts) (defBody s__law_with_cuts) (defScope s__law_with_cuts) [] [] (He.ga K "_law_with_cuts") fd
  d__law_cut_text : ∃ fd, FunD K "_law_cut_text" "_law_cut_text" (defArgs s__law_cut_text) (defBody s__law_cut_text) (defScope s__law_cut_text) [] [] (He.ga K "_law_cut_text") fd
  d__law_told : ∃ fd, FunD K "_law_told" "_law_told" (defArgs s__law_told) (defBody s__law_told) (defScope s__law_told) [] [] (He.ga K "_law_told") fd
  d__law_all : ∃ fd, FunD K "_law_all" "_law_all" (defArgs s__law_all) (defBody s__law_all) (defScope s__law_all) [] [] (He.ga K "_law_all") fd
  d_law : ∃ fd, FunD K "law" "law" (defArgs s_law) (defBody s_law) (defScope s_law) [] [] (He.ga K "law") fd
  g_CutError : mg "CutError" = some (.ref (He.ga K "CutError"))
  g_BadRow : mg "BadRow" = some (.ref (He.ga K "BadRow"))
  g_BadNumber : mg "BadNumber" = some (.ref (He.ga K "BadNumber"))
  g_BadCuts : mg "BadCuts" = some (.ref (He.ga K "BadCuts"))
  g_BadText : mg "BadText" = some (.ref (He.ga K "BadText"))
  c_GREATEST : ∃ t, mg "GREATEST" = some (.int 1000000 t)
  c_LONGEST : ∃ t, mg "LONGEST" = some (.int 1000000 t)
  g_is_whole : mg "is_whole" = some (.ref (He.ga K "is_whole"))
  g_check_row : mg "check_row" = some (.ref (He.ga K "check_row"))
  g_check_number : mg "check_number" = some (.ref (He.ga K "check_number"))
  g_are_cuts : mg "are_cuts" = some (.ref (He.ga K "are_cuts"))
  g_check_cuts : mg "check_cuts" = some (.ref (He.ga K "check_cuts"))
  g_sums_of : mg "sums_of" = some (.ref (He.ga K "sums_of"))
  g_parts_of : mg "parts_of" = some (.ref (He.ga K "parts_of"))
  g_borne : mg "borne" = some (.ref (He.ga K "borne"))
  g_halved : mg "halved" = some (.ref (He.ga K "halved"))
  g_Answer : mg "Answer" = some (.ref (He.ga K "Answer"))
  g_are_linked : mg "are_linked" = some (.ref (He.ga K "are_linked"))
  g_Fewest : mg "Fewest" = some (.ref (He.ga K "Fewest"))
  g_Great : mg "Great" = some (.ref (He.ga K "Great"))
  g_Least : mg "Least" = some (.ref (He.ga K "Least"))
  g_Most : mg "Most" = some (.ref (He.ga K "Most"))
  g_are_places : mg "are_places" = some (.ref (He.ga K "are_places"))
  g_filled : mg "filled" = some (.ref (He.ga K "filled"))
  g_fewest : mg "fewest" = some (.ref (He.ga K "fewest"))
  g_lowest : mg "lowest" = some (.ref (He.ga K "lowest"))
  g_fullest : mg "fullest" = some (.ref (He.ga K "fullest"))
  g_written : mg "written" = some (.ref (He.ga K "written"))
  g__law_cell_at : mg "_law_cell_at" = some (.ref (He.ga K "_law_cell_at"))
  g__law_draw : mg "_law_draw" = some (.ref (He.ga K "_law_draw"))
  g__law_row : mg "_law_row" = some (.ref (He.ga K "_law_row"))
  g__law_numbers : mg "_law_numbers" = some (.ref (He.ga K "_law_numbers"))
  g__law_rising : mg "_law_rising" = some (.ref (He.ga K "_law_rising"))
  g__law_kinds : mg "_law_kinds" = some (.ref (He.ga K "_law_kinds"))
  g__law_with_row : mg "_law_with_row" = some (.ref (He.ga K "_law_with_row"))
  g__law_with_number : mg "_law_with_number" = some (.ref (He.ga K "_law_with_number"))
  g__law_with_cuts : mg "_law_with_cuts" = some (.ref (He.ga K "_law_with_cuts"))
  g__law_cut_text : mg "_law_cut_text" = some (.ref (He.ga K "_law_cut_text"))
  g__law_told : mg "_law_told" = some (.ref (He.ga K "_law_told"))
  g__law_all : mg "_law_all" = some (.ref (He.ga K "_law_all"))
  g_law : mg "law" = some (.ref (He.ga K "law"))
  z_ValueError : mg "ValueError" = none
  z_abs : mg "abs" = none
  z_all : mg "all" = none
  z_any : mg "any" = none
  z_bool : mg "bool" = none
  z_enumerate : mg "enumerate" = none
  z_int : mg "int" = none
  z_isinstance : mg "isinstance" = none
  z_len : mg "len" = none
  z_list : mg "list" = none
  z_max : mg "max" = none
  z_min : mg "min" = none
  z_range : mg "range" = none
  z_str : mg "str" = none
  z_sum : mg "sum" = none
  cls_Fewest : Cls K (He.ga K "Fewest")
  mk_Fewest : Mk K (He.ga K "Fewest") (He.ma K (He.ga K "Fewest") "__init__")
  mt_Fewest_shows : Meth K (He.ga K "Fewest") "shows" (He.ma K (He.ga K "Fewest") "shows")
  na_Fewest_cuts : NoAttr K (He.ga K "Fewest") "cuts"
  na_Fewest_stretches : NoAttr K (He.ga K "Fewest") "stretches"
  cls_Great : Cls K (He.ga K "Great")
  mk_Great : Mk K (He.ga K "Great") (He.ma K (He.ga K "Great") "__init__")
  mt_Great_shows : Meth K (He.ga K "Great") "shows" (He.ma K (He.ga K "Great") "shows")
  na_Great_place : NoAttr K (He.ga K "Great") "place"
  cls_Least : Cls K (He.ga K "Least")
  mk_Least : Mk K (He.ga K "Least") (He.ma K (He.ga K "Least") "__init__")
  mt_Least_shows : Meth K (He.ga K "Least") "shows" (He.ma K (He.ga K "Least") "shows")
  na_Least_cuts : NoAttr K (He.ga K "Least") "cuts"
  na_Least_number : NoAttr K (He.ga K "Least") "number"
  na_Least_stretches : NoAttr K (He.ga K "Least") "stretches"
  cls_Most : Cls K (He.ga K "Most")
  mk_Most : Mk K (He.ga K "Most") (He.ma K (He.ga K "Most") "__init__")
  mt_Most_shows : Meth K (He.ga K "Most") "shows" (He.ma K (He.ga K "Most") "shows")
  na_Most_cuts : NoAttr K (He.ga K "Most") "cuts"
  na_Most_places : NoAttr K (He.ga K "Most") "places"
  o_sp : PySem.W.specialIn K (.builtin "object.__class__") "__get__" = some (some (.builtin "getset_descriptor.__get__"))
  o_tk : PySem.W.takesIn K (.builtin "object.__class__") = some true
  oc_Fewest : PySem.W.findIn K (.ref (He.ga K "Fewest")) "__class__" = some (some (.builtin "object.__class__"))
  om_Fewest : PySem.W.mroIn K (He.ga K "Fewest") (.type "object") = some true
  ki_Fewest_Answer : PySem.W.kitOne K (.ref (He.ga K "Fewest")) (.ref (He.ga K "Answer")) = some true
  ki_Fewest_Fewest : PySem.W.kitOne K (.ref (He.ga K "Fewest")) (.ref (He.ga K "Fewest")) = some true
  ki_Fewest_Great : PySem.W.kitOne K (.ref (He.ga K "Fewest")) (.ref (He.ga K "Great")) = some false
  ki_Fewest_Least : PySem.W.kitOne K (.ref (He.ga K "Fewest")) (.ref (He.ga K "Least")) = some false
  ki_Fewest_Most : PySem.W.kitOne K (.ref (He.ga K "Fewest")) (.ref (He.ga K "Most")) = some false
  oc_Great : PySem.W.findIn K (.ref (He.ga K "Great")) "__class__" = some (some (.builtin "object.__class__"))
  om_Great : PySem.W.mroIn K (He.ga K "Great") (.type "object") = some true
  ki_Great_Answer : PySem.W.kitOne K (.ref (He.ga K "Great")) (.ref (He.ga K "Answer")) = some true
  ki_Great_Fewest : PySem.W.kitOne K (.ref (He.ga K "Great")) (.ref (He.ga K "Fewest")) = some false
  ki_Great_Great : PySem.W.kitOne K (.ref (He.ga K "Great")) (.ref (He.ga K "Great")) = some true
  ki_Great_Least : PySem.W.kitOne K (.ref (He.ga K "Great")) (.ref (He.ga K "Least")) = some false
  ki_Great_Most : PySem.W.kitOne K (.ref (He.ga K "Great")) (.ref (He.ga K "Most")) = some false
  oc_Least : PySem.W.findIn K (.ref (He.ga K "Least")) "__class__" = some (some (.builtin "object.__class__"))
  om_Least : PySem.W.mroIn K (He.ga K "Least") (.type "object") = some true
  ki_Least_Answer : PySem.W.kitOne K (.ref (He.ga K "Least")) (.ref (He.ga K "Answer")) = some true
  ki_Least_Fewest : PySem.W.kitOne K (.ref (He.ga K "Least")) (.ref (He.ga K "Fewest")) = some false
  ki_Least_Great : PySem.W.kitOne K (.ref (He.ga K "Least")) (.ref (He.ga K "Great")) = some false
  ki_Least_Least : PySem.W.kitOne K (.ref (He.ga K "Least")) (.ref (He.ga K "Least")) = some true
  ki_Least_Most : PySem.W.kitOne K (.ref (He.ga K "Least")) (.ref (He.ga K "Most")) = some false
  oc_Most : PySem.W.findIn K (.ref (He.ga K "Most")) "__class__" = some (some (.builtin "object.__class__"))
  om_Most : PySem.W.mroIn K (He.ga K "Most") (.type "object") = some true
  ki_Most_Answer : PySem.W.kitOne K (.ref (He.ga K "Most")) (.ref (He.ga K "Answer")) = some true
  ki_Most_Fewest : PySem.W.kitOne K (.ref (He.ga K "Most")) (.ref (He.ga K "Fewest")) = some false
  ki_Most_Great : PySem.W.kitOne K (.ref (He.ga K "Most")) (.ref (He.ga K "Great")) = some false
  ki_Most_Least : PySem.W.kitOne K (.ref (He.ga K "Most")) (.ref (He.ga K "Least")) = some false
  ki_Most_Most : PySem.W.kitOne K (.ref (He.ga K "Most")) (.ref (He.ga K "Most")) = some true
  sb_CutError : PySem.W.subIn K (.ref (He.ga K "CutError")) (.type "BaseException") = some true
  tt_CutError : PySem.W.typeIn K (.ref (He.ga K "CutError")) = some (.type "type")
  hd_CutError : PySem.W.hasDictIn K (He.ga K "CutError") = true
  sb_BadRow : PySem.W.subIn K (.ref (He.ga K "BadRow")) (.type "BaseException") = some true
  tt_BadRow : PySem.W.typeIn K (.ref (He.ga K "BadRow")) = some (.type "type")
  hd_BadRow : PySem.W.hasDictIn K (He.ga K "BadRow") = true
  sb_BadNumber : PySem.W.subIn K (.ref (He.ga K "BadNumber")) (.type "BaseException") = some true
  tt_BadNumber : PySem.W.typeIn K (.ref (He.ga K "BadNumber")) = some (.type "type")
  hd_BadNumber : PySem.W.hasDictIn K (He.ga K "BadNumber") = true
  sb_BadCuts : PySem.W.subIn K (.ref (He.ga K "BadCuts")) (.type "BaseException") = some true
  tt_BadCuts : PySem.W.typeIn K (.ref (He.ga K "BadCuts")) = some (.type "type")
  hd_BadCuts : PySem.W.hasDictIn K (He.ga K "BadCuts") = true
  sb_BadText : PySem.W.subIn K (.ref (He.ga K "BadText")) (.type "BaseException") = some true
  tt_BadText : PySem.W.typeIn K (.ref (He.ga K "BadText")) = some (.type "type")
  hd_BadText : PySem.W.hasDictIn K (He.ga K "BadText") = true
  xi_BadRow : PySem.W.excIn K (He.ga K "BadRow") [.type "ValueError", .type "Exception", .type "BaseException", .type "object"] "ValueError.__new__" = true
  kp_BadRow : PySem.W.keepIn K (.ref (He.ga K "BadRow")) = true
  cu_BadRow : PySem.W.subIn K (.ref (He.ga K "BadRow")) (.ref (He.ga K "CutError")) = some true
  hg_BadRow : PySem.W.findIn K (.ref (He.ga K "BadRow")) "__getattribute__" = some (some (.builtin "BaseException.__getattribute__"))
  hk_BadRow : PySem.W.findIn K (.ref (He.ga K "BadRow")) "__getattr__" = some none
  ha_BadRow : PySem.W.findIn K (.ref (He.ga K "BadRow")) "__class__" = some (some (.builtin "object.__class__"))
  hm_BadRow : PySem.W.mroIn K (He.ga K "BadRow") (.type "object") = some true
  kx_BadRow_BadRow : PySem.W.kitOne K (.ref (He.ga K "BadRow")) (.ref (He.ga K "BadRow")) = some true
  kx_BadRow_BadNumber : PySem.W.kitOne K (.ref (He.ga K "BadRow")) (.ref (He.ga K "BadNumber")) = some false
  kx_BadRow_BadCuts : PySem.W.kitOne K (.ref (He.ga K "BadRow")) (.ref (He.ga K "BadCuts")) = some false
  kx_BadRow_BadText : PySem.W.kitOne K (.ref (He.ga K "BadRow")) (.ref (He.ga K "BadText")) = some false
  kv_BadRow : PySem.W.kitOne K (.ref (He.ga K "BadRow")) (.type "ValueError") = some true
  xi_BadNumber : PySem.W.excIn K (He.ga K "BadNumber") [.type "ValueError", .type "Exception", .type "BaseException", .type "object"] "ValueError.__new__" = true
  kp_BadNumber : PySem.W.keepIn K (.ref (He.ga K "BadNumber")) = true
  cu_BadNumber : PySem.W.subIn K (.ref (He.ga K "BadNumber")) (.ref (He.ga K "CutError")) = some true
  hg_BadNumber : PySem.W.findIn K (.ref (He.ga K "BadNumber")) "__getattribute__" = some (some (.builtin "BaseException.__getattribute__"))
  hk_BadNumber : PySem.W.findIn K (.ref (He.ga K "BadNumber")) "__getattr__" = some none
  ha_BadNumber : PySem.W.findIn K (.ref (He.ga K "BadNumber")) "__class__" = some (some (.builtin "object.__class__"))
  hm_BadNumber : PySem.W.mroIn K (He.ga K "BadNumber") (.type "object") = some true
  kx_BadNumber_BadRow : PySem.W.kitOne K (.ref (He.ga K "BadNumber")) (.ref (He.ga K "BadRow")) = some false
  kx_BadNumber_BadNumber : PySem.W.kitOne K (.ref (He.ga K "BadNumber")) (.ref (He.ga K "BadNumber")) = some true
  kx_BadNumber_BadCuts : PySem.W.kitOne K (.ref (He.ga K "BadNumber")) (.ref (He.ga K "BadCuts")) = some false
  kx_BadNumber_BadText : PySem.W.kitOne K (.ref (He.ga K "BadNumber")) (.ref (He.ga K "BadText")) = some false
  kv_BadNumber : PySem.W.kitOne K (.ref (He.ga K "BadNumber")) (.type "ValueError") = some true
  xi_BadCuts : PySem.W.excIn K (He.ga K "BadCuts") [.type "ValueError", .type "Exception", .type "BaseException", .type "object"] "ValueError.__new__" = true
  kp_BadCuts : PySem.W.keepIn K (.ref (He.ga K "BadCuts")) = true
  cu_BadCuts : PySem.W.subIn K (.ref (He.ga K "BadCuts")) (.ref (He.ga K "CutError")) = some true
  hg_BadCuts : PySem.W.findIn K (.ref (He.ga K "BadCuts")) "__getattribute__" = some (some (.builtin "BaseException.__getattribute__"))
  hk_BadCuts : PySem.W.findIn K (.ref (He.ga K "BadCuts")) "__getattr__" = some none
  ha_BadCuts : PySem.W.findIn K (.ref (He.ga K "BadCuts")) "__class__" = some (some (.builtin "object.__class__"))
  hm_BadCuts : PySem.W.mroIn K (He.ga K "BadCuts") (.type "object") = some true
  kx_BadCuts_BadRow : PySem.W.kitOne K (.ref (He.ga K "BadCuts")) (.ref (He.ga K "BadRow")) = some false
  kx_BadCuts_BadNumber : PySem.W.kitOne K (.ref (He.ga K "BadCuts")) (.ref (He.ga K "BadNumber")) = some false
  kx_BadCuts_BadCuts : PySem.W.kitOne K (.ref (He.ga K "BadCuts")) (.ref (He.ga K "BadCuts")) = some true
  kx_BadCuts_BadText : PySem.W.kitOne K (.ref (He.ga K "BadCuts")) (.ref (He.ga K "BadText")) = some false
  kv_BadCuts : PySem.W.kitOne K (.ref (He.ga K "BadCuts")) (.type "ValueError") = some true
  xi_BadText : PySem.W.excIn K (He.ga K "BadText") [.type "ValueError", .type "Exception", .type "BaseException", .type "object"] "ValueError.__new__" = true
  kp_BadText : PySem.W.keepIn K (.ref (He.ga K "BadText")) = true
  cu_BadText : PySem.W.subIn K (.ref (He.ga K "BadText")) (.ref (He.ga K "CutError")) = some true
  hg_BadText : PySem.W.findIn K (.ref (He.ga K "BadText")) "__getattribute__" = some (some (.builtin "BaseException.__getattribute__"))
  hk_BadText : PySem.W.findIn K (.ref (He.ga K "BadText")) "__getattr__" = some none
  ha_BadText : PySem.W.findIn K (.ref (He.ga K "BadText")) "__class__" = some (some (.builtin "object.__class__"))
  hm_BadText : PySem.W.mroIn K (He.ga K "BadText") (.type "object") = some true
  kx_BadText_BadRow : PySem.W.kitOne K (.ref (He.ga K "BadText")) (.ref (He.ga K "BadRow")) = some false
  kx_BadText_BadNumber : PySem.W.kitOne K (.ref (He.ga K "BadText")) (.ref (He.ga K "BadNumber")) = some false
  kx_BadText_BadCuts : PySem.W.kitOne K (.ref (He.ga K "BadText")) (.ref (He.ga K "BadCuts")) = some false
  kx_BadText_BadText : PySem.W.kitOne K (.ref (He.ga K "BadText")) (.ref (He.ga K "BadText")) = some true
  kv_BadText : PySem.W.kitOne K (.ref (He.ga K "BadText")) (.type "ValueError") = some true
theorem ec_BadRow {K : PySem.W.Frag} {mg : Str → Option Value} (T : Tx K mg) : ExcC K (He.ga K "BadRow") := ⟨T.hg_BadRow, T.hk_BadRow, T.sb_BadRow, T.hd_BadRow, T.ha_BadRow, T.o_sp, T.o_tk, T.hm_BadRow⟩
theorem xm_BadRow {K : PySem.W.Frag} {mg : Str → Option Value} (T : Tx K mg) : PySem.W.exmOne K (.ref (He.ga K "BadRow")) (.ref (He.ga K "CutError")) = some true := PySem.W.exm_ref T.sb_CutError T.hd_CutError T.tt_CutError T.cu_BadRow
theorem ec_BadNumber {K : PySem.W.Frag} {mg : Str → Option Value} (T : Tx K mg) : ExcC K (He.ga K "BadNumber") := ⟨T.hg_BadNumber, T.hk_BadNumber, T.sb_BadNumber, T.hd_BadNumber, T.ha_BadNumber, T.o_sp, T.o_tk, T.hm_BadNumber⟩
theorem xm_BadNumber {K : PySem.W.Frag} {mg : Str → Option Value} (T : Tx K mg) : PySem.W.exmOne K (.ref (He.ga K "BadNumber")) (.ref (He.ga K "CutError")) = some true := PySem.W.exm_ref T.sb_CutError T.hd_CutError T.tt_CutError T.cu_BadNumber
theorem ec_BadCuts {K : PySem.W.Frag} {mg : Str → Option Value} (T : Tx K mg) : ExcC K (He.ga K "BadCuts") := ⟨T.hg_BadCuts, T.hk_BadCuts, T.sb_BadCuts, T.hd_BadCuts, T.ha_BadCuts, T.o_sp, T.o_tk, T.hm_BadCuts⟩
theorem xm_BadCuts {K : PySem.W.Frag} {mg : Str → Option Value} (T : Tx K mg) : PySem.W.exmOne K (.ref (He.ga K "BadCuts")) (.ref (He.ga K "CutError")) = some true := PySem.W.exm_ref T.sb_CutError T.hd_CutError T.tt_CutError T.cu_BadCuts
theorem ec_BadText {K : PySem.W.Frag} {mg : Str → Option Value} (T : Tx K mg) : ExcC K (He.ga K "BadText") := ⟨T.hg_BadText, T.hk_BadText, T.sb_BadText, T.hd_BadText, T.ha_BadText, T.o_sp, T.o_tk, T.hm_BadText⟩
theorem xm_BadText {K : PySem.W.Frag} {mg : Str → Option Value} (T : Tx K mg) : PySem.W.exmOne K (.ref (He.ga K "BadText")) (.ref (He.ga K "CutError")) = some true := PySem.W.exm_ref T.sb_CutError T.hd_CutError T.tt_CutError T.cu_BadText
end Ct
namespace Ct
open PySem PySem.Spec PyProof.Rows L2 Evl
open He (ga ma)
section
variable {P : Program} {w : World} {K : PySem.W.Frag} {mg : Str → Option Value} {base : Heap}
/-! ### raising: calls, suites -/
theorem bo_ValueError : bootBuiltins "ValueError" = some (.type "ValueError") := by decide +kernel
section
variable {X : Cx}
theorem PS.nox1 {st : Stmt} {t : TS} (h : PS X.nox st t) : PS X st t := ⟨fun pins s σ H D I hw => by
  have q := h.run pins s σ H D (I.wish _) hw
  exact wpAny_mono q (fun f s1 r => r.unwish) fun _ _ z => False.elim z⟩
theorem takesN : L2N.Takes X (fun _ _ _ _ => False) := fun u s' hx => by
  obtain ⟨_, _, _, _, _, _, _, _, _, _, _, _, _, _, _, _, q⟩ := hx
  exact q.elim
/-- a def that raises the class named c -/
def Rz (K : PySem.W.Frag) (c : Str) (F : List V → Hp → Prop) : Sp := fun vs H _ E => F vs H ∧ ∀ H2, Ex H H2 → E (.ref (ga K c)) none H2
def MonoF (F : List V → Hp → Prop) : Prop := ∀ vs H H1, Ex H H1 → F vs H → F vs H1
variable {k : Nat} {x : Str} {ps : List Str} {sp : Sp} {W : WX} {p pos : Pos} {e : Expr} {es : List Expr} {t : TA}
theorem pe_dX (D : Kept X.prog X.w X.K X.mg X.base (L2N.CX X.prog X.w) k x ps sp) (hr : Room k X.A) (hg : Gl X x) (tk : L2N.Takes X W) (ha : PA X (e :: es) t) (hdb : (x == ("__debug__" : Str)) = false := by decide)
    (h1 : starEach (e :: es) X.env = (false, eval e X.env) :: starEach es X.env := by rfl) (h2 : (backTo pos (starEach es X.env)).any (·.1) = false := by rfl) : PE X (.Call (.Name x p) (e :: es) [] pos) (tCallS sp (WE W) t) := by
  obtain ⟨fd, F, b⟩ := D.fn
  exact pe_callS F hr hg D.g D.kp b (fun σ => L2N.passAt tk σ) ha hdb h1 h2
/-- a local name that holds the def x -/
def tCallLX (i : Nat) (f : Addr) (sp : Sp) (W : WX) (t : TA) : TE := fun σ H Q => σ[i]? = some (some (.ref f)) ∧ t σ H fun vs H1 => sp vs H1 Q (WE W σ)
theorem pe_dLX {i : Nat} {y : Str} (D : Kept X.prog X.w X.K X.mg X.base (L2N.CX X.prog X.w) k x ps sp) (hr : Room k X.A) (hN : X.N[i]? = some y) (hv : Vis X.env.scope y) (tk : L2N.Takes X W) (ha : PA X (e :: es) t) (hdb : (y == ("__debug__" : Str)) = false := by decide)
    (hcd : (y == ("__classdict__" : Str)) = false := by decide) (h1 : starEach (e :: es) X.env = (false, eval e X.env) :: starEach es X.env := by rfl) (h2 : (backTo pos (starEach es X.env)).any (·.1) = false := by rfl) :
    PE X (.Call (.Name y p) (e :: es) [] pos) (tCallLX i (ga X.K x) sp W t) := by
  obtain ⟨fd, F, b⟩ := D.fn
  refine ⟨fun pins s σ H Q I hq => ?_⟩
  have hs := hq.1
  have ht := hq.2
  have look := (pe_var (pos := p) hN hv hdb hcd).run pins s σ H (fun v H1 => v = .ref (ga X.K x) ∧ H1 = H) I ⟨_, hs, rfl, rfl⟩
  refine wpAny_Call_Name_kw (thn look fun u s1 hu => ?_)
  obtain ⟨v, H1, I1, r1, rfl, rfl⟩ := hu
  cases r1
  have go := ha.run pos pins s1 σ _ _ I1 ht
  refine PySem.W.callWith_K (h₀ := X.base) I.ok.mod.kin D.kp (thn go fun us s2 hus => ?_) h1 h2
  obtain ⟨vs, H2, I2, r, q⟩ := hus
  exact ⟨I2.kIn, run_fnS (E := WE W) F hr b (L2N.passAt tk σ) I2 r q⟩
end
theorem pe_dLXK {X : Cx} {K : PySem.W.Frag} {k : Nat} {x : Str} {ps : List Str} {sp : Sp} {W : WX} {p pos : Pos} {e : Expr} {es : List Expr} {t : TA} {i : Nat} {y : Str} (hK : X.K = K) (D : Kept X.prog X.w K X.mg X.base (L2N.CX X.prog X.w) k x ps sp) (hr : Room k X.A) (hN : X.N[i]? = some y) (hv : Vis X.env.scope y)
    (tk : L2N.Takes X W) (ha : PA X (e :: es) t) (hdb : (y == ("__debug__" : Str)) = false := by decide) (hcd : (y == ("__classdict__" : Str)) = false := by decide) (h1 : starEach (e :: es) X.env = (false, eval e X.env) :: starEach es X.env := by rfl)
    (h2 : (backTo pos (starEach es X.env)).any (·.1) = false := by rfl) : PE X (.Call (.Name y p) (e :: es) [] pos) (tCallLX i (ga K x) sp W t) := by
  subst hK
  exact pe_dLX D hr hN hv tk ha hdb hcd h1 h2
section
variable {K : PySem.W.Frag} {σ : L2.St} {H : Hp} {ta te : TE} {ar : TA} {vs : List V} {c : Str} {F : List V → Hp → Prop} {W : WX} {Q : VK}
theorem er_call (m : MonoF F) (h : EvA ar σ H vs) (f : F vs H) (w : ∀ H1, Ex H H1 → W (.ref (ga K c)) none σ H1) : tCallS (Rz K c F) (WE W) ar σ H Q :=
  h H (Ex.refl H) _ fun H1 e => ⟨m _ _ _ e f, fun H2 e2 => w H2 (e.trans e2)⟩
theorem er_callN {xs : List V} (hx : EvL ta σ H xs) (h : EvA ar σ H vs) (f : ∀ p H1, Ex H H1 → H1 p = some (.lst xs) → F (.ref p :: vs) H1) (w : ∀ H1, Ex H H1 → W (.ref (ga K c)) none σ H1) : tCallS (Rz K c F) (WE W) (tCons ta ar) σ H Q :=
  hx H (Ex.refl H) _ fun p H1 _ e1 h1 => h H1 e1 _ fun H2 e2 => ⟨f p H2 (e1.trans e2) (e2 _ _ h1), fun H3 e3 => w H3 ((e1.trans e2).trans e3)⟩
theorem er_callL {i : Nat} {f : Addr} (hi : σ[i]? = some (some (.ref f))) (m : MonoF F) (h : EvA ar σ H vs) (g : F vs H) (w : ∀ H1, Ex H H1 → W (.ref (ga K c)) none σ H1) : tCallLX i f (Rz K c F) W ar σ H Q :=
  ⟨hi, h H (Ex.refl H) _ fun H1 e => ⟨m _ _ _ e g, fun H2 e2 => w H2 (e.trans e2)⟩⟩
end
/-! ### a def that is handed the exception that is handled -/
section
variable (P : Program) (w : World) (K : PySem.W.Frag) (mg : Str → Option Value) (base : Heap)
abbrev SpE := Addr → Value → Option Addr → Sp
structure FnE (k : Nat) (f : Addr) (fd : FuncData) (ps : List Str) (sp : SpE) : Prop where
  len : ∀ a cls d vs H Q E, sp a cls d vs H Q E → vs.length = ps.length
  run : ∀ (A : Around) (outer : List Env) (s : Shared) (H : Hp) (args : Args) (us : List Value) (vs : List V) (Q : VK) (E : XK) (q : Addr × Obj) (cls : Value) (d : Option Addr), L2H.RoomH k A → L2H.PinOk outer H s q → Zc cls d q.2 → (∃ vs, q.2.data = .fields vs) →
    Env0 P w K mg base A outer s H → BindsTo s fd args (ps.zip us) → Vals vs us → sp q.1 cls d vs H Q E → codeAny (model P w) A (.call (.ref f) args) (CR CX0 outer P w H s Q E) s
structure KeptE (k : Nat) (x : Str) (ps : List Str) (sp : SpE) : Prop where
  fn : ∃ fd, FnE P w K mg base k (He.ga K x) fd ps sp ∧ Binds K fd ps []
  g : mg x = some (.ref (He.ga K x))
  kp : PySem.W.keepIn K (.ref (He.ga K x)) = true
end
section
variable {P : Program} {w : World} {K : PySem.W.Frag} {mg : Str → Option Value} {base : Heap}
theorem fnE_of {x qual : Str} {params : Arguments} {body : List Stmt} {scope : Scope} {f : Addr} {fd : FuncData} {N ps : List Str} {k : Nat} {sp : SpE} (F : FunD K x qual params body scope [] [] f fd) (S : FnScope N ps scope) (len : ∀ a cls d vs H Q E, sp a cls d vs H Q E → vs.length = ps.length)
    (hb : ∀ (cdv : Value) (A : Around) (outer : List Env) (s : Shared) (H : Hp) (vs : List V) (Q : VK) (E : XK) (q : Addr × Obj) (cls : Value) (d : Option Addr), Zc cls d q.2 → (∃ vs, q.2.data = .fields vs) → sp q.1 cls d vs H Q E →
      ∃ t, PSs (L2H.cxH CX0 P w K mg base N qual scope f cdv A outer s H E q) body t ∧ t { nx := fun _ H' => Q .non H', rt := Q } (start N vs) H) : FnE P w K mg base (k + 1) f fd ps sp := by
  obtain ⟨oc, od, dV, kV, doc, pm, an, cdv, ct, osl, rfl, lk, hcd, _, _⟩ := F.ex
  refine ⟨len, ?_⟩
  intro A outer s H args us vs Q E q cls d hr hpin hz hf e0 hbind r hsp
  have inK : K.In s.heap := e0.mod.kin.keeps fun b o z => (e0.bs b o z).1
  have noL : s.heap.NoLimit := e0.mod.nolimit.keeps fun b o z => (e0.bs b o z).1
  have hlen := len _ _ _ _ _ _ _ hsp
  have par : ∀ y ∈ ps.zip us, scope.names.lookup y.1 = some .local ∨ (scope.names.lookup y.1 = some .cell ∧ ((cellsFrom (s.heap.objs.size + 1) scope.names []).lookup y.1).isSome = true) := by
    rintro ⟨n, v⟩ hy
    cases S.par n (List.of_mem_zip hy).1 with
    | inl z => exact .inl z
    | inr z => exact .inr ⟨z, PySem.W.cellsFrom_some _ _ _ (.inl z)⟩
  have rec_ := PySem.W.codeRec_of inK hcd
  have bind := hbind
  refine codeAny_call_function hr.depth (inK _ _ lk) rfl S.co S.gen rfl rec_ (bind _ _ _ _ ?_)
  refine wpAny_newFunctionEnv_cells S.kind par ?_
  intro env henv s1 hx
  subst henv
  refine ⟨noL.keeps hx.toInCall.keep, codeAny_func ?_⟩
  obtain ⟨t, ht, hq⟩ := hb cdv A outer s H vs Q E q cls d hz hf hsp
  have I := L2H.inv_startH (CX := CX0) (E := E) (qual := qual) (f := f) (cd := cdv) S hpin e0 hlen r hx
  refine wpAny_mono (ht.run [] s1 _ H _ I hq) ?_ fun _ _ z => z
  intro fl s' hs
  cases fl with
  | next =>
    obtain ⟨σ', H', J, z⟩ := hs
    exact ⟨.non, H', J.os, J.bare, J.base, J.hok, rfl, z⟩
  | ret u =>
    obtain ⟨v, σ', H', J, rv, z⟩ := hs
    exact ⟨v, H', J.os, J.bare, J.base, J.hok, rv, z⟩
  | brk => exact hs.elim fun _ z => z.elim fun _ z => False.elim z.2
  | cont => exact hs.elim fun _ z => z.elim fun _ z => False.elim z.2
variable {X : Cx} {k : Nat} {x : Str} {ps : List Str} {sp : SpE} {p pos : Pos} {e : Expr} {es : List Expr} {t : TA}
def tCallE (sp : SpE) (a : Addr) (cls : Value) (d : Option Addr) (t : TA) : TE := fun σ H Q => t σ H fun vs H1 => sp a cls d vs H1 Q E0
theorem pe_dE {a : Addr} {oe : Obj} {cls : Value} {d : Option Addr} (D : KeptE X.prog X.w X.K X.mg X.base k x ps sp) (hr : L2H.RoomH k X.A) (hp : (a, oe) ∈ X.pn) (hz : Zc cls d oe) (hf : ∃ vs, oe.data = .fields vs) (hg : Gl X x) (ha : PA X (e :: es) t)
    (hdb : (x == ("__debug__" : Str)) = false := by decide) (h1 : starEach (e :: es) X.env = (false, eval e X.env) :: starEach es X.env := by rfl) (h2 : (backTo pos (starEach es X.env)).any (·.1) = false := by rfl) : PE X (.Call (.Name x p) (e :: es) [] pos) (tCallE sp a cls d t) := by
  obtain ⟨fd, F, b⟩ := D.fn
  refine ⟨fun pins s σ H Q I hq => ?_⟩
  have go := ha.run pos pins s σ H _ I hq
  refine wpAny_Call_Name_kw (ld_glob I hg D.g ?_ hdb)
  refine PySem.W.callWith_K (h₀ := X.base) I.ok.mod.kin D.kp (thn go fun us s1 hus => ?_) h1 h2
  obtain ⟨vs, H1, I1, r, z⟩ := hus
  refine ⟨I1.kIn, ?_⟩
  have hl : us.length = ps.length := by
    rw [← r.length]
    exact F.len _ _ _ _ _ _ _ z
  have bd := b s1 us I1.kIn (by rw [List.append_nil]; exact hl)
  rw [List.append_nil] at bd
  obtain ⟨g1, g2, g3, g4, g5⟩ := I1.pin (a, oe) (List.mem_append_left _ hp)
  have pin : L2H.PinOk X.stack H1 s1 (a, oe) := ⟨g1, g2, fun hm => by
    rcases List.mem_cons.mp (I1.stkSub a hm) with y | y
    · exact g3 y
    · exact g4 y, g5⟩
  have run := F.run X.A X.stack s1 H1 ⟨us, []⟩ us vs Q E0 (a, oe) cls d hr pin hz hf I1.env0 bd r z
  refine wpAny_call (codeAny_mono run ?_)
  intro res s2 hres
  match res, hres with
  | .ok (.ret u), y => exact I1.after y
/-- isinstance of the exception, wherever it is pinned -/
theorem call_isP {a D : Addr} {oe : Obj} (C : ExcC X.K D) (hp : (a, oe) ∈ X.pn) (hz : Zc (.ref D) none oe) (hf : ∃ vs, oe.data = .fields vs) : CallR X (.builtin "isinstance") (rIsE X.K D a) := by
  intro pins s σ H xs us Q I r hq
  obtain ⟨c, cv, b, rfl, hcv, hk, q⟩ := hq
  cases r with
  | cons r1 rr =>
    cases rr with
    | cons r2 rn =>
      cases rn
      cases r1
      have hc := hcv _ r2
      subst hc
      have g := (I.pin (a, oe) (List.mem_append_left _ hp)).1
      obtain ⟨fs, hfs⟩ := hf
      have at_ : PySem.W.InstAt s.heap a oe D none := by
        obtain ⟨o1, o2, o3, o4⟩ := oe
        obtain ⟨z1, z2⟩ := hz
        simp only at z1 z2 hfs
        subst z1 z2 hfs
        exact ⟨g, rfl, rfl, trivial⟩
      have kit := PySem.W.handS_kitx_exc (x := a) (ox := oe) C.hg C.hk C.hs C.hd C.ha C.hn C.ht C.hm
      refine PySem.W.kia_one kit I.kIn at_ hk (fun z => nomatch z) ?_
      intro tk
      exact ⟨.bl b, H, I.kept (t' := tk) fun _ _ z => z, rfl, q⟩
end
section
variable {K : PySem.W.Frag} {σ : L2.St} {H : Hp} {ta tb : TE} {a D C : Addr} {b : Bool}
theorem ev_isE (ha : Ev ta σ H (.ref a)) (hk : PySem.W.kitOne K (.ref D) (.ref C) = some b) : Ev (tCB (rIsE K D a) (tCons ta (tCons (tC (.ref C)) tNil))) σ H (.bl b) := fun H1 e Q q =>
  ha H1 e _ fun H2 e2 => ⟨.ref C, .ref C, b, rfl, fun u r => r, hk, q H2 e2⟩
theorem ev_isEV {n : String} (ha : Ev ta σ H (.ref a)) (hk : PySem.W.kitOne K (.ref D) (.type n) = some b) : Ev (tCB (rIsE K D a) (tCons ta (tCons (tC (.ty n)) tNil))) σ H (.bl b) := fun H1 e Q q =>
  ha H1 e _ fun H2 e2 => ⟨.ty n, .type n, b, rfl, fun u r => r, hk, q H2 e2⟩
end

end
end Ct
namespace Ct
open PySem PySem.Spec PyProof.Rows L2 Evl
open He (ga ma)
section
variable {P : Program} {w : World} {K : PySem.W.Frag} {mg : Str → Option Value} {base : Heap}
/-! ### rows: what is reckoned -/
def risB (l : Int) : List Int → Int → Bool
  | [], _ => true
  | c :: r, m => (decide (l < c) && decide (c < m)) && risB c r m
def psums (ns : List Int) : List Int := (List.range (ns.length + 1)).map fun k => (ns.take k).sum
theorem psums_len (ns : List Int) : (psums ns).length = ns.length + 1 := by simp [psums]
theorem psums_at {ns : List Int} {k : Nat} (h : k ≤ ns.length) : (psums ns)[k]? = some (ns.take k).sum := by
  unfold psums
  rw [List.getElem?_map, List.getElem?_range (by omega)]
  rfl
theorem psums_end (ns : List Int) : psums ns = ((List.range ns.length).map fun k => (ns.take k).sum) ++ [ns.sum] := by
  unfold psums
  rw [List.range_succ, List.map_append, List.map_singleton, List.take_length]
theorem psums_snoc (ns : List Int) (n : Int) : psums (ns ++ [n]) = psums ns ++ [ns.sum + n] := by
  rw [psums_end (ns ++ [n])]
  congr 1
  · unfold psums
    rw [List.length_append, List.length_singleton]
    apply List.map_congr_left
    intro k hk
    rw [List.take_append_of_le_length (by have := List.mem_range.mp hk; omega)]
  · rw [List.sum_append, List.sum_singleton]
/-- what the parts bear, by the sums ahead -/
def partsP (ns cs : List Int) : List Int := if ns = [] then [] else
  (List.range (cs.length + 1)).map fun k => (ns.take ((cs ++ [(ns.length : Int)]).getD k 0).toNat).sum - (ns.take ((0 :: cs).getD k 0).toNat).sum
def psm (ns : List Int) (x : Int) : Int := (ns.take x.toNat).sum
theorem ris_mem : ∀ {cs : List Int} {l m : Int}, risB l cs m = true → ∀ c ∈ cs, l < c ∧ c < m
  | [], _, _, _, c, h => by cases h
  | d :: r, l, m, h, c, hc => by
    simp only [risB, Bool.and_eq_true, decide_eq_true_eq] at h
    obtain ⟨⟨h1, h2⟩, h3⟩ := h
    rcases List.mem_cons.mp hc with e | hc
    · subst e
      exact ⟨h1, h2⟩
    · have := ris_mem h3 c hc
      omega
/-! ### the promises -/
def F_is_whole (K : PySem.W.Frag) : VF := fun vs H z => ∃ x n b c, vs = [x] ∧ TyX K H x (.type n) ∧ kitB n "int" = some b ∧ kitB n "bool" = some c ∧ z = .bl (b && !c)
def sp_is_whole (K : PySem.W.Frag) : Sp := Pv (F_is_whole K)
theorem m_is_whole : MonoV (F_is_whole K) := fun vs H H1 z e ⟨x, n, b, c, h1, h2, h3⟩ => ⟨x, n, b, c, h1, tyx_ex e h2, h3⟩
theorem F_is_whole_int {H : Hp} {i : Int} : F_is_whole K [.int i] H (.bl true) := ⟨.int i, "int", true, false, rfl, tx_int, by decide +kernel, by decide +kernel, rfl⟩
def F_check_row (_ : PySem.W.Frag) : VF := fun vs H z => ∃ (a : Addr) (ns : List Int), vs = [.ref a] ∧ H a = some (.lst (ns.map V.int)) ∧ ns.length ≤ 1000 ∧ (∀ n ∈ ns, 0 ≤ n ∧ n ≤ 1000000) ∧ z = .non
def sp_check_row (K : PySem.W.Frag) : Sp := Pv (F_check_row K)
theorem m_check_row : MonoV (F_check_row K) := fun vs H H1 z e ⟨a, ns, h1, h2, h3⟩ => ⟨a, ns, h1, e _ _ h2, h3⟩
def F_check_number (_ : PySem.W.Frag) : VF := fun vs H z => ∃ (n l : Int), vs = [.int n, .int l] ∧ l ≤ n ∧ z = .non
def sp_check_number (K : PySem.W.Frag) : Sp := Pv (F_check_number K)
theorem m_check_number : MonoV (F_check_number K) := fun vs H H1 z e h => h
def F_are_cuts (_ : PySem.W.Frag) : VF := fun vs H z => ∃ (a : Addr) (cs : List Int) (m : Int), vs = [.ref a, .int m] ∧ H a = some (.lst (cs.map V.int)) ∧ z = .bl (risB 0 cs m)
def sp_are_cuts (K : PySem.W.Frag) : Sp := Pv (F_are_cuts K)
theorem m_are_cuts : MonoV (F_are_cuts K) := fun vs H H1 z e ⟨a, ns, m, h1, h2, h3⟩ => ⟨a, ns, m, h1, e _ _ h2, h3⟩
def F_check_cuts (_ : PySem.W.Frag) : VF := fun vs H z => ∃ (a : Addr) (cs : List Int) (m : Int), vs = [.ref a, .int m] ∧ H a = some (.lst (cs.map V.int)) ∧ risB 0 cs m = true ∧ z = .non
def sp_check_cuts (K : PySem.W.Frag) : Sp := Pv (F_check_cuts K)
theorem m_check_cuts : MonoV (F_check_cuts K) := fun vs H H1 z e ⟨a, ns, m, h1, h2, h3⟩ => ⟨a, ns, m, h1, e _ _ h2, h3⟩
def F_sums_of (_ : PySem.W.Frag) : LF := fun vs H xs => ∃ (a : Addr) (ns : List Int), vs = [.ref a] ∧ H a = some (.lst (ns.map V.int)) ∧ ns.length ≤ 1000 ∧ xs = (psums ns).map V.int
def sp_sums_of (K : PySem.W.Frag) : Sp := Pl (F_sums_of K)
theorem m_sums_of : MonoL (F_sums_of K) := fun vs H H1 z e ⟨a, ns, h1, h2, h3⟩ => ⟨a, ns, h1, e _ _ h2, h3⟩
def F_parts_of (_ : PySem.W.Frag) : LF := fun vs H xs => ∃ (a c : Addr) (ns cs : List Int), vs = [.ref a, .ref c] ∧ H a = some (.lst (ns.map V.int)) ∧ H c = some (.lst (cs.map V.int)) ∧ ns.length ≤ 1000 ∧ cs.length ≤ 1000 ∧ risB 0 cs ns.length = true ∧ xs = (partsP ns cs).map V.int
def sp_parts_of (K : PySem.W.Frag) : Sp := Pl (F_parts_of K)
theorem m_parts_of : MonoL (F_parts_of K) := fun vs H H1 z e ⟨a, c, ns, cs, h1, h2, h3, h4⟩ => ⟨a, c, ns, cs, h1, e _ _ h2, e _ _ h3, h4⟩
/-! ### the defs -/
theorem sc_is_whole : FnScope ["thing"] ["thing"] (defScope s_is_whole) := ⟨rfl, rfl, rfl, by decide +kernel, rfl, by decide +kernel, by decide +kernel⟩
theorem ok_is_whole (T : Tx K mg) : Kept P w K mg base CX0 1 "is_whole" ["thing"] (sp_is_whole K) := by
  obtain ⟨fd, F⟩ := T.d_is_whole
  refine ⟨⟨fd, F.ok sc_is_whole (fun vs H Q E h => by obtain ⟨_, ⟨_, _, _, _, rfl, _⟩, _⟩ := h; rfl) (fun cdv A outer s H vs Q E hRm h => ?_), F.bindsN fun _ _ _ _ _ _ us hl => match us, hl with | [_], _ => rfl⟩, T.g_is_whole, F.kp⟩
  · obtain ⟨z, ⟨x, n, b, c, rfl, ht, hb, hc, rfl⟩, k⟩ := h
    refine ⟨_, (PSs.nox (pss_one (ps_ret (pe_and (pe_callB call_isi (by rfl) T.z_isinstance bo_isinstance (pa_cons (pv 0) (pa_cons (pe_bltn (v := .ty "int") (by rfl) T.z_int bo_int rfl) pa_nil))) (pe_one (pe_not (pe_callB call_isi (by rfl) T.z_isinstance bo_isinstance (pa_cons (pv 0) (pa_cons (pe_bltn (v := .ty "bool") (by rfl) T.z_bool bo_bool rfl) pa_nil))))))))), ?_⟩
    exact s_ret (ev_andV (ev_isT (ev_var rfl) ht hb) fun _ => ev_notV (ev_isT (ev_var rfl) ht hc)) fun H1 e => k H1 e
theorem sc_check_row : FnScope ["row", "load"] ["row"] (defScope s_check_row) := ⟨rfl, rfl, rfl, by decide +kernel, rfl, by decide +kernel, by decide +kernel⟩
theorem ok_check_row (T : Tx K mg) : Kept P w K mg base CX0 2 "check_row" ["row"] (sp_check_row K) := by
  have D_is_whole : Kept P w K mg base CX0 1 "is_whole" ["thing"] (sp_is_whole K) := ok_is_whole T
  obtain ⟨t_GREATEST, c_GREATEST⟩ := T.c_GREATEST
  obtain ⟨t_LONGEST, c_LONGEST⟩ := T.c_LONGEST
  obtain ⟨fd, F⟩ := T.d_check_row
  refine ⟨⟨fd, F.ok sc_check_row (fun vs H Q E h => by obtain ⟨_, ⟨_, _, rfl, _⟩, _⟩ := h; rfl) (fun cdv A outer s H vs Q E hRm h => ?_), F.bindsN fun _ _ _ _ _ _ us hl => match us, hl with | [_], _ => rfl⟩, T.g_check_row, F.kp⟩
  · obtain ⟨z, ⟨a, ns, rfl, ha, hl, hn, rfl⟩, k⟩ := h
    refine ⟨_, (PSs.nox (pss_cons (ps_if (PW.pt (pw_or (pt_not (pt_val (pe_callB call_isi (by rfl) T.z_isinstance bo_isinstance (pa_cons (pv 0) (pa_cons (pe_bltn (v := .ty "list") (by rfl) T.z_list bo_list rfl) pa_nil))))) (pw_or1 (pt_cmpR op_gt (pe_callB call_len_seq (by rfl) T.z_len bo_len (pa_cons (pv 0) pa_nil)) (pe_glob (v := .int 1000000) (by rfl) c_LONGEST ⟨_, rfl⟩) (nomark _))))) (pss_one ps_never) pss_nil) (pss_one (ps_if (pt_not (pt_val (pe_callB (cr_all rfl) (by rfl) T.z_all bo_all (pa_cons (pe_lc (own := [("load", 1)]) (g := gName 1) (tt := tYes) rfl sc_check_row.nd (pi_list (pv 0)) (blkOk_by (N := ["row", "load"]) (sc := defScope s_check_row) (by decide +kernel)) (fun _ _ _ _ _ => pg_name (i := 1) sc_check_row.nd rfl (Or.inl rfl)) (fun _ _ _ _ _ => pts_nil) (fun _ _ _ _ _ => (pe_and (pe_d D_is_whole (hRm.mono (by decide)) (by rfl) (pa_cons (pv 1) pa_nil)) (pe_one (pe_chain op_le op_le pe_int (pv 1) (pe_glob (v := .int 1000000) (by rfl) c_GREATEST ⟨_, rfl⟩)))))) pa_nil)))) (pss_one ps_never) pss_nil)))), ?_⟩
    refine q_when (b := false) (et_is (et_or (et_not (et_B (ev_isT (b := true) (ev_var rfl) (tx_lst ha) (by decide +kernel)))) fun _ => et_test (ev_op (ev_ln (ev_var rfl) (.inl (sq_of ha))) ev_c rv_I0)) ?_) (fun h => by cases h) fun _ H1 e1 => ?_
    · rw [List.length_map]
      simp
      omega
    have ha1 := e1 _ _ ha
    refine s_when (b := false) (et_is (et_not (et_B (ev_allN (el_mapIB (fun n => true && (decide (0 ≤ n) && decide (n ≤ 1000000))) (ev_var rfl) (sq_of ha1) (by omega) (fun x => rfl) fun n H2 e2 hm =>
      ev_andV (ev_callV m_is_whole (ea_cons (ev_var rfl) ea_nil) F_is_whole_int) fun _ => ev_ch ev_c (ev_var rfl) rv_I0 (fun _ => ev_c) fun _ => rv_I0)))) ?_) (fun h => by cases h) fun _ H2 e2 => k _ (e1.trans e2)
    rw [Bool.not_eq_false', List.all_eq_true]
    intro b hb
    obtain ⟨n, hm, rfl⟩ := List.mem_map.mp hb
    have := hn n hm
    simp [this.1, this.2]
theorem sc_are_cuts : FnScope ["cuts", "many", "last", "cut"] ["cuts", "many"] (defScope s_are_cuts) := ⟨rfl, rfl, rfl, by decide +kernel, rfl, by decide +kernel, by decide +kernel⟩
theorem ok_are_cuts (T : Tx K mg) : Kept P w K mg base CX0 2 "are_cuts" ["cuts", "many"] (sp_are_cuts K) := by
  have D_is_whole : Kept P w K mg base CX0 1 "is_whole" ["thing"] (sp_is_whole K) := ok_is_whole T
  obtain ⟨fd, F⟩ := T.d_are_cuts
  refine ⟨⟨fd, F.ok sc_are_cuts (fun vs H Q E h => by obtain ⟨_, ⟨_, _, _, rfl, _⟩, _⟩ := h; rfl) (fun cdv A outer s H vs Q E hRm h => ?_), F.bindsN fun _ _ _ _ _ _ us hl => match us, hl with | [_, _], _ => rfl⟩, T.g_are_cuts, F.kp⟩
  · obtain ⟨z, ⟨a, cs, m, rfl, ha, rfl⟩, k⟩ := h
    refine ⟨_, (PSs.nox (pss_cons (ps_set (i := 2) sc_are_cuts.nd rfl (Or.inl rfl) pe_int) (pss_cons (ps_for PassesOwn.never rfl (pi_list (pv 0)) (pg_name (i := 3) sc_are_cuts.nd rfl (Or.inl rfl)) (pss_cons (ps_if (PW.pt (pw_or (pt_not (pt_val (pe_d D_is_whole (hRm.mono (by decide)) (by rfl) (pa_cons (pv 3) pa_nil)))) (pw_or1 (pt_not (pt_chain op_lt op_lt (pv 2) (pv 3) (pv 1)))))) (pss_one (ps_ret pe_bl)) pss_nil) (pss_one (ps_set (i := 2) sc_are_cuts.nd rfl (Or.inl rfl) (pv 3))))) (pss_one (ps_ret pe_bl))))), ?_⟩
    refine q_asg ev_c fun H1 e1 => ?_
    refine q_forLn (ev_var rfl) (sq_of (e1 _ _ ha)) (fun i σ' H' => ∃ l v, σ' = [some (.ref a), some (.int m), some (.int l), v] ∧ Ex H H' ∧ risB 0 cs m = risB l (cs.drop i) m) (fun H2 e2 => ⟨0, none, rfl, e1.trans e2, rfl⟩) (fun i σ' H' _ ⟨_, _, _, e, _⟩ => sq_of (e _ _ ha)) ?_ ?_
    · rintro i x σ' H' hi ⟨l, v, rfl, e, hr⟩
      obtain ⟨c, rfl, hc⟩ := int_at hi
      rw [drop_at hc] at hr
      refine q_when (b := !(decide (l < c) && decide (c < m))) (et_is (et_or (et_not (et_B (ev_callV m_is_whole (ea_cons (ev_var rfl) ea_nil) F_is_whole_int))) fun _ => et_not (et_ch (ev_var rfl) (ev_var rfl) rv_I0 (fun _ => ev_var rfl) fun _ => rv_I0)) (by simp)) (fun hb H2 e2 => s_ret ev_c fun H3 e3 => ?_) fun hb H2 e2 => s_asg (ev_var rfl) fun H3 e3 => ⟨c, _, rfl, (e.trans e2).trans e3, ?_⟩
      · have e0 : risB 0 cs m = false := by
          rw [hr, risB]
          rw [Bool.not_eq_true'] at hb
          rw [hb, Bool.false_and]
        rw [e0] at k
        exact k _ ((e.trans e2).trans e3)
      · rw [hr, risB]
        rw [Bool.not_eq_false'] at hb
        rw [hb, Bool.true_and]
    · rintro σ' H' ⟨l, v, rfl, e, hr⟩
      refine s_ret ev_c fun H3 e3 => ?_
      have e0 : risB 0 cs m = true := by
        rw [hr, List.drop_eq_nil_of_le (by rw [List.length_map]; exact Nat.le_refl _)]
        rfl
      rw [e0] at k
      exact k _ (e.trans e3)
theorem sc_check_cuts : FnScope ["cuts", "many"] ["cuts", "many"] (defScope s_check_cuts) := ⟨rfl, rfl, rfl, by decide +kernel, rfl, by decide +kernel, by decide +kernel⟩
theorem ok_check_cuts (T : Tx K mg) : Kept P w K mg base CX0 3 "check_cuts" ["cuts", "many"] (sp_check_cuts K) := by
  have D_are_cuts : Kept P w K mg base CX0 2 "are_cuts" ["cuts", "many"] (sp_are_cuts K) := ok_are_cuts T
  obtain ⟨fd, F⟩ := T.d_check_cuts
  refine ⟨⟨fd, F.ok sc_check_cuts (fun vs H Q E h => by obtain ⟨_, ⟨_, _, _, rfl, _⟩, _⟩ := h; rfl) (fun cdv A outer s H vs Q E hRm h => ?_), F.bindsN fun _ _ _ _ _ _ us hl => match us, hl with | [_, _], _ => rfl⟩, T.g_check_cuts, F.kp⟩
  · obtain ⟨z, ⟨a, cs, m, rfl, ha, hr, rfl⟩, k⟩ := h
    refine ⟨_, (PSs.nox (pss_one (ps_if (PW.pt (pw_or (pt_not (pt_val (pe_callB call_isi (by rfl) T.z_isinstance bo_isinstance (pa_cons (pv 0) (pa_cons (pe_bltn (v := .ty "list") (by rfl) T.z_list bo_list rfl) pa_nil))))) (pw_or1 (pt_not (pt_val (pe_d D_are_cuts (hRm.mono (by decide)) (by rfl) (pa_cons (pv 0) (pa_cons (pv 1) pa_nil)))))))) (pss_one ps_never) pss_nil))), ?_⟩
    exact s_when (b := false) (et_is (et_or (et_not (et_B (ev_isT (b := true) (ev_var rfl) (tx_lst ha) (by decide +kernel)))) fun _ => et_not (et_B (ev_callV m_are_cuts (ea_cons (ev_var rfl) (ea_cons (ev_var rfl) ea_nil)) ⟨a, cs, m, rfl, ha, rfl⟩))) (by rw [hr]; rfl)) (fun h => by cases h) fun _ H1 e1 => k _ e1
theorem sc_check_number : FnScope ["number", "least"] ["number", "least"] (defScope s_check_number) := ⟨rfl, rfl, rfl, by decide +kernel, rfl, by decide +kernel, by decide +kernel⟩
theorem ok_check_number (T : Tx K mg) : Kept P w K mg base CX0 2 "check_number" ["number", "least"] (sp_check_number K) := by
  have D_is_whole : Kept P w K mg base CX0 1 "is_whole" ["thing"] (sp_is_whole K) := ok_is_whole T
  obtain ⟨fd, F⟩ := T.d_check_number
  refine ⟨⟨fd, F.ok sc_check_number (fun vs H Q E h => by obtain ⟨_, ⟨_, _, rfl, _⟩, _⟩ := h; rfl) (fun cdv A outer s H vs Q E hRm h => ?_), F.bindsN fun _ _ _ _ _ _ us hl => match us, hl with | [_, _], _ => rfl⟩, T.g_check_number, F.kp⟩
  · obtain ⟨z, ⟨n, l, rfl, hn, rfl⟩, k⟩ := h
    refine ⟨_, (PSs.nox (pss_one (ps_if (PW.pt (pw_or (pt_not (pt_val (pe_d D_is_whole (hRm.mono (by decide)) (by rfl) (pa_cons (pv 0) pa_nil)))) (pw_or1 (pt_cmpR op_lt (pv 0) (pv 1) (nomark _))))) (pss_one ps_never) pss_nil))), ?_⟩
    exact s_when (b := false) (et_is (et_or (et_not (et_B (ev_callV m_is_whole (ea_cons (ev_var rfl) ea_nil) F_is_whole_int))) fun _ => et_test (ev_op (ev_var rfl) (ev_var rfl) rv_I0)) (by simp; omega)) (fun h => by cases h) fun _ H1 e1 => k _ e1
theorem sc_sums_of : FnScope ["row", "found", "load"] ["row"] (defScope s_sums_of) := ⟨rfl, rfl, rfl, by decide +kernel, rfl, by decide +kernel, by decide +kernel⟩
theorem ok_sums_of (T : Tx K mg) : Kept P w K mg base CX0 1 "sums_of" ["row"] (sp_sums_of K) := by
  obtain ⟨fd, F⟩ := T.d_sums_of
  refine ⟨⟨fd, F.ok sc_sums_of (fun vs H Q E h => by obtain ⟨_, ⟨_, _, rfl, _⟩, _⟩ := h; rfl) (fun cdv A outer s H vs Q E hRm h => ?_), F.bindsN fun _ _ _ _ _ _ us hl => match us, hl with | [_], _ => rfl⟩, T.g_sums_of, F.kp⟩
  · obtain ⟨z, ⟨a, ns, rfl, ha, hl, rfl⟩, k⟩ := h
    refine ⟨_, (PSs.nox (pss_cons (ps_set (i := 1) sc_sums_of.nd rfl (Or.inl rfl) (pe_lst (pa_cons pe_int pa_nil))) (pss_cons (ps_for PassesOwn.never rfl (pi_list (pv 0)) (pg_name (i := 2) sc_sums_of.nd rfl (Or.inl rfl)) (pss_one (ps_expr (pe_bm PySem.F.plainAttrs_list PySem.F.slot_list_append PySem.F.type_list_append mt_append (pv 1) (pa_cons (pe_op op_add (pe_ix ix_list (pv 1) (pe_un un_neg pe_int) (fun _ _ => rfl)) (pv 2)) pa_nil))))) (pss_one (ps_ret (pv 1)))))), ?_⟩
    refine q_asgL (el_lst (ea_cons ev_c ea_nil) (by decide)) fun p H1 hp e1 h1 => ?_
    refine q_forLn (ev_var rfl) (sq_of (e1 _ _ ha)) (fun i σ' H' => ∃ v, σ' = [some (.ref a), some (.ref p), v] ∧ Ex H H' ∧ H' p = some (.lst ((psums (ns.take i)).map V.int))) (fun H2 e2 => ⟨none, rfl, e1.trans e2, e2 _ _ h1⟩) (fun i σ' H' _ ⟨_, _, e, _⟩ => sq_of (e _ _ ha)) ?_ ?_
    · rintro i x σ' H' hi ⟨v, rfl, e, hH⟩
      obtain ⟨c, rfl, hc⟩ := int_at hi
      have hlt := (List.getElem?_eq_some_iff.mp hc).1
      have hE : (psums (ns.take i)).map V.int = ((List.range (ns.take i).length).map fun k => ((ns.take i).take k).sum).map V.int ++ [V.int (ns.take i).sum] := by
        rw [psums_end, List.map_append, List.map_singleton]
      refine s_app hH (ev_var rfl) (ev_op (ev_ixLast (ev_var rfl) (sq_of (by rw [hH, hE]))) (ev_var rfl) rv_I0) ?_ fun H2 e2 => ⟨_, rfl, Ex.mut (e.trans e2) hp, ?_⟩
      · rw [List.length_map, psums_len, List.length_take]
        omega
      · rw [upd_same, take_snoc hc, psums_snoc, List.map_append, List.map_singleton]
    · rintro σ' H' ⟨v, rfl, e, hH⟩
      rw [List.length_map, List.take_length] at hH
      exact s_ret (ev_var rfl) fun H2 e2 => k p _ hp (e.trans e2) (e2 _ _ hH)
theorem sc_parts_of : FnScope ["row", "cuts", "sums", "begins", "ends", "k"] ["row", "cuts"] (defScope s_parts_of) := ⟨rfl, rfl, rfl, by decide +kernel, rfl, by decide +kernel, by decide +kernel⟩
theorem ok_parts_of (T : Tx K mg) : Kept P w K mg base CX0 2 "parts_of" ["row", "cuts"] (sp_parts_of K) := by
  have D_sums_of : Kept P w K mg base CX0 1 "sums_of" ["row"] (sp_sums_of K) := ok_sums_of T
  obtain ⟨fd, F⟩ := T.d_parts_of
  refine ⟨⟨fd, F.ok sc_parts_of (fun vs H Q E h => by obtain ⟨_, ⟨_, _, _, _, rfl, _⟩, _⟩ := h; rfl) (fun cdv A outer s H vs Q E hRm h => ?_), F.bindsN fun _ _ _ _ _ _ us hl => match us, hl with | [_, _], _ => rfl⟩, T.g_parts_of, F.kp⟩
  · obtain ⟨z, ⟨a, c, ns, cs, rfl, ha, hc, hl, hcl, hr, rfl⟩, k⟩ := h
    refine ⟨_, (PSs.nox (pss_cons (ps_if (pt_cmpR op_eq (pe_callB call_len_seq (by rfl) T.z_len bo_len (pa_cons (pv 0) pa_nil)) pe_int (nomark _)) (pss_one (ps_ret (pe_lst pa_nil))) pss_nil) (pss_cons (ps_set (i := 2) sc_parts_of.nd rfl (Or.inr rfl) (pe_d D_sums_of (hRm.mono (by decide)) (by rfl) (pa_cons (pv 0) pa_nil))) (pss_cons (ps_set (i := 3) sc_parts_of.nd rfl (Or.inr rfl) (pe_op op_cat (pe_lst (pa_cons pe_int pa_nil)) (pv 1))) (pss_cons (ps_set (i := 4) sc_parts_of.nd rfl (Or.inr rfl) (pe_op op_cat (pv 1) (pe_lst (pa_cons (pe_callB call_len_seq (by rfl) T.z_len bo_len (pa_cons (pv 0) pa_nil)) pa_nil)))) (pss_one (ps_ret (pe_lc (own := [("k", 5)]) (g := gName 5) (tt := tYes) rfl sc_parts_of.nd (pi_range1 (by rfl) T.z_range (pa_cons (pe_callB call_len_seq (by rfl) T.z_len bo_len (pa_cons (pv 3) pa_nil)) pa_nil)) (blkOk_by (N := ["row", "cuts", "sums", "begins", "ends", "k"]) (sc := defScope s_parts_of) (by decide +kernel)) (fun _ _ _ _ _ => pg_name (i := 5) sc_parts_of.nd rfl (Or.inl rfl)) (fun _ _ _ _ _ => pts_nil) (fun _ _ _ _ _ => (pe_op op_sub (pe_ix (ix_listK (K := K) rfl) (pv 2) (pe_ix (ix_listK (K := K) rfl) (pv 4) (pv 5) (fun _ _ => rfl)) (fun _ _ => rfl)) (pe_ix (ix_listK (K := K) rfl) (pv 2) (pe_ix (ix_listK (K := K) rfl) (pv 3) (pv 5) (fun _ _ => rfl)) (fun _ _ => rfl)))))))))))), ?_⟩
    refine q_when (b := decide (ns.length = 0)) (et_is (et_test (ev_op (ev_ln (ev_var rfl) (.inl (sq_of ha))) ev_c (rv_eq rfl))) ?_) (fun hb H1 e1 => ?_) fun hb H1 e1 => ?_
    · rw [List.length_map]
      by_cases h0 : ns.length = 0
      · rw [decide_eq_true h0, decide_eq_true]
        rw [h0]
        rfl
      · rw [decide_eq_false h0, decide_eq_false]
        intro q
        injection q with q
        omega
    · have h0 : ns = [] := List.length_eq_zero_iff.mp (of_decide_eq_true hb)
      subst h0
      exact s_retL (el_lst ea_nil (by decide)) fun p H2 hp e2 h2 => k p _ (fresh_back e1 hp) (e1.trans e2) h2
    have h0 : ns ≠ [] := fun q => by
      have := of_decide_eq_false hb
      rw [q] at this
      exact this rfl
    have hmem := ris_mem hr
    refine q_asgL (el_callL m_sums_of (ea_cons (ev_var rfl) ea_nil) ⟨a, ns, rfl, e1 _ _ ha, hl, rfl⟩) fun s H2 hs e2 hS => ?_
    refine q_asgL (el_cat2 (el_lst (ea_cons ev_c ea_nil) (by decide)) (ev_var rfl) ((e1.trans e2) _ _ hc) (by rw [List.length_map]; simp; omega)) fun b H3 hb3 e3 hB => ?_
    refine q_asgL (el_cat1 (ev_var rfl) (((e1.trans e2).trans e3) _ _ hc) (el_lst (ea_cons (ev_ln (ev_var rfl) (.inl (sq_of (((e1.trans e2).trans e3) _ _ ha)))) ea_nil) l1) (by rw [List.length_map]; simp; omega)) fun d H4 hd e4 hD => ?_
    have hS4 := (e3.trans e4) _ _ hS
    have hB4 := e4 _ _ hB
    have eB : ([V.int 0] ++ cs.map V.int) = (0 :: cs).map V.int := rfl
    have eD : (cs.map V.int ++ [V.int ((ns.map V.int).length : Int)]) = (cs ++ [(ns.length : Int)]).map V.int := by rw [List.map_append, List.length_map]; rfl
    rw [eB] at hB4
    rw [eD] at hD
    have hi0 : ∀ i, i < cs.length + 1 → ∃ x, (0 :: cs)[i]? = some x ∧ 0 ≤ x ∧ x ≤ ns.length := fun i hi => by
      refine ⟨(0 :: cs)[i]'(by simpa using hi), List.getElem?_eq_getElem _, ?_⟩
      have hm := List.getElem_mem (l := 0 :: cs) (n := i) (by simpa using hi)
      rcases List.mem_cons.mp hm with q | q
      · omega
      · have := hmem _ q
        omega
    have hi1 : ∀ i, i < cs.length + 1 → ∃ x, (cs ++ [(ns.length : Int)])[i]? = some x ∧ 0 ≤ x ∧ x ≤ ns.length := fun i hi => by
      refine ⟨(cs ++ [(ns.length : Int)])[i]'(by simpa using hi), List.getElem?_eq_getElem _, ?_⟩
      have hm := List.getElem_mem (l := cs ++ [(ns.length : Int)]) (n := i) (by simpa using hi)
      rcases List.mem_append.mp hm with q | q
      · have := hmem _ q
        omega
      · have := List.mem_singleton.mp q
        omega
    refine s_retL (el_is (el_mapRI (n := cs.length + 1) (fun k => (ns.take ((cs ++ [(ns.length : Int)]).getD k 0).toNat).sum - (ns.take ((0 :: cs).getD k 0).toNat).sum) (ea_cons (ev_is (ev_ln (ev_var rfl) (.inl (sq_of hB4))) (by simp)) ea_nil) (by omega) (fun x => rfl) fun i H5 e5 hi => ?_) ?_) fun p H5 hp e5 h5 => k p _ (fresh_back ((((e1.trans e2).trans e3).trans e4)) hp) ((((e1.trans e2).trans e3).trans e4).trans e5) h5
    · obtain ⟨x, hx, hx0, hx1⟩ := hi0 i hi
      obtain ⟨y, hy, hy0, hy1⟩ := hi1 i hi
      have ex : (0 :: cs).getD i 0 = x := by simp [List.getD, hx]
      have ey : (cs ++ [(ns.length : Int)]).getD i 0 = y := by simp only [List.getD, hy, Option.getD]
      rw [ex, ey]
      exact ev_op (ev_ixI (ev_var rfl) (sq_of (e5 _ _ hS4)) (ev_ixI (ev_var rfl) (sq_of (e5 _ _ hD)) (ev_var rfl) (Int.natCast_nonneg _) (by simpa using hy)) hy0 (psums_at (by omega))) (ev_ixI (ev_var rfl) (sq_of (e5 _ _ hS4)) (ev_ixI (ev_var rfl) (sq_of (e5 _ _ hB4)) (ev_var rfl) (Int.natCast_nonneg _) (by simpa using hx)) hx0 (psums_at (by omega))) rv_I0
    · unfold partsP
      rw [if_neg h0]
/-! ### borne, halved -/
def apartP (ns : List Int) : List Int := (psums ns).map fun s => if 2 * s - ns.sum < 0 then -(2 * s - ns.sum) else 2 * s - ns.sum
def halvedP (ns : List Int) : Nat := (apartP ns).findIdx (· == mnL (apartP ns))
def F_borne (_ : PySem.W.Frag) : LF := fun vs H xs => ∃ (a c : Addr) (ns cs : List Int), vs = [.ref a, .ref c] ∧ H a = some (.lst (ns.map V.int)) ∧ H c = some (.lst (cs.map V.int)) ∧ ns.length ≤ 1000 ∧ cs.length ≤ 1000 ∧ (∀ n ∈ ns, 0 ≤ n ∧ n ≤ 1000000) ∧ risB 0 cs ns.length = true ∧ xs = (partsP ns cs).map V.int
def sp_borne (K : PySem.W.Frag) : Sp := Pl (F_borne K)
theorem m_borne : MonoL (F_borne K) := fun vs H H1 z e ⟨a, c, ns, cs, h1, h2, h3, h4⟩ => ⟨a, c, ns, cs, h1, e _ _ h2, e _ _ h3, h4⟩
def F_halved (_ : PySem.W.Frag) : VF := fun vs H z => ∃ (a : Addr) (ns : List Int), vs = [.ref a] ∧ H a = some (.lst (ns.map V.int)) ∧ ns.length ≤ 1000 ∧ (∀ n ∈ ns, 0 ≤ n ∧ n ≤ 1000000) ∧ z = .int (halvedP ns : Nat)
def sp_halved (K : PySem.W.Frag) : Sp := Pv (F_halved K)
theorem m_halved : MonoV (F_halved K) := fun vs H H1 z e ⟨a, ns, h1, h2, h3⟩ => ⟨a, ns, h1, e _ _ h2, h3⟩
theorem sc_borne : FnScope ["row", "cuts"] ["row", "cuts"] (defScope s_borne) := ⟨rfl, rfl, rfl, by decide +kernel, rfl, by decide +kernel, by decide +kernel⟩
theorem ok_borne (T : Tx K mg) : Kept P w K mg base CX0 4 "borne" ["row", "cuts"] (sp_borne K) := by
  have D_check_cuts : Kept P w K mg base CX0 3 "check_cuts" ["cuts", "many"] (sp_check_cuts K) := ok_check_cuts T
  have D_check_row : Kept P w K mg base CX0 2 "check_row" ["row"] (sp_check_row K) := ok_check_row T
  have D_parts_of : Kept P w K mg base CX0 2 "parts_of" ["row", "cuts"] (sp_parts_of K) := ok_parts_of T
  obtain ⟨fd, F⟩ := T.d_borne
  refine ⟨⟨fd, F.ok sc_borne (fun vs H Q E h => by obtain ⟨_, ⟨_, _, _, _, rfl, _⟩, _⟩ := h; rfl) (fun cdv A outer s H vs Q E hRm h => ?_), F.bindsN fun _ _ _ _ _ _ us hl => match us, hl with | [_, _], _ => rfl⟩, T.g_borne, F.kp⟩
  · obtain ⟨z, ⟨a, c, ns, cs, rfl, ha, hc, hl, hcl, hn, hr, rfl⟩, k⟩ := h
    refine ⟨_, (PSs.nox (pss_cons (ps_expr (pe_d D_check_row (hRm.mono (by decide)) (by rfl) (pa_cons (pv 0) pa_nil))) (pss_cons (ps_expr (pe_d D_check_cuts (hRm.mono (by decide)) (by rfl) (pa_cons (pv 1) (pa_cons (pe_callB call_len_seq (by rfl) T.z_len bo_len (pa_cons (pv 0) pa_nil)) pa_nil)))) (pss_one (ps_ret (pe_d D_parts_of (hRm.mono (by decide)) (by rfl) (pa_cons (pv 0) (pa_cons (pv 1) pa_nil)))))))), ?_⟩
    refine q_drop (ev_callV m_check_row (ea_cons (ev_var rfl) ea_nil) ⟨a, ns, rfl, ha, hl, hn, rfl⟩) fun H1 e1 => ?_
    refine q_drop (ev_callV m_check_cuts (ea_cons (ev_var rfl) (ea_cons (ev_ln (ev_var rfl) (.inl (sq_of (e1 _ _ ha)))) ea_nil)) ⟨c, cs, _, rfl, e1 _ _ hc, by rw [List.length_map]; exact hr, rfl⟩) fun H2 e2 => ?_
    exact s_retL (el_callL m_parts_of (ea_cons (ev_var rfl) (ea_cons (ev_var rfl) ea_nil)) ⟨a, c, ns, cs, rfl, (e1.trans e2) _ _ ha, (e1.trans e2) _ _ hc, hl, hcl, hr, rfl⟩) fun p H3 hp e3 h3 => k p _ (fresh_back (e1.trans e2) hp) ((e1.trans e2).trans e3) h3
theorem sc_halved : FnScope ["row", "sums", "apart", "one"] ["row"] (defScope s_halved) := ⟨rfl, rfl, rfl, by decide +kernel, rfl, by decide +kernel, by decide +kernel⟩
theorem ok_halved (T : Tx K mg) : Kept P w K mg base CX0 3 "halved" ["row"] (sp_halved K) := by
  have D_check_row : Kept P w K mg base CX0 2 "check_row" ["row"] (sp_check_row K) := ok_check_row T
  have D_sums_of : Kept P w K mg base CX0 1 "sums_of" ["row"] (sp_sums_of K) := ok_sums_of T
  obtain ⟨fd, F⟩ := T.d_halved
  refine ⟨⟨fd, F.ok sc_halved (fun vs H Q E h => by obtain ⟨_, ⟨_, _, rfl, _⟩, _⟩ := h; rfl) (fun cdv A outer s H vs Q E hRm h => ?_), F.bindsN fun _ _ _ _ _ _ us hl => match us, hl with | [_], _ => rfl⟩, T.g_halved, F.kp⟩
  · obtain ⟨z, ⟨a, ns, rfl, ha, hl, hn, rfl⟩, k⟩ := h
    refine ⟨_, (PSs.nox (pss_cons (ps_expr (pe_d D_check_row (hRm.mono (by decide)) (by rfl) (pa_cons (pv 0) pa_nil))) (pss_cons (ps_set (i := 1) sc_halved.nd rfl (Or.inr rfl) (pe_d D_sums_of (hRm.mono (by decide)) (by rfl) (pa_cons (pv 0) pa_nil))) (pss_cons (ps_setLc (i := 2) rfl sc_halved.nd rfl rfl (sw_true rfl rfl rfl (by decide +kernel)) (own := [("one", 3)]) (g := gName 3) (tt := tYes) (pi_list (pv 1)) (blkOk_by (N := ["row", "sums", "apart", "one"]) (sc := defScope s_halved) (by decide +kernel)) (fun _ _ _ _ _ => pg_name (i := 3) sc_halved.nd rfl (Or.inl rfl)) (fun _ _ _ _ _ => pts_nil) (fun _ _ _ _ _ => (pe_callB call_abs (by rfl) T.z_abs bo_abs (pa_cons (pe_op op_sub (pe_op op_mul pe_int (pv 3)) (pe_ix (ix_listK (K := K) rfl) (pv 1) (pe_un un_neg pe_int) (fun _ _ => rfl))) pa_nil)))) (pss_one (ps_ret (pe_bm PySem.F.plainAttrs_list PySem.F.slot_list_index PySem.F.type_list_index mt_index (pv 2) (pa_cons (pe_callB (cr_min rfl) (by rfl) T.z_min bo_min (pa_cons (pv 2) pa_nil)) pa_nil)))))))), ?_⟩
    refine q_drop (ev_callV m_check_row (ea_cons (ev_var rfl) ea_nil) ⟨a, ns, rfl, ha, hl, hn, rfl⟩) fun H1 e1 => ?_
    refine q_asgL (el_callL m_sums_of (ea_cons (ev_var rfl) ea_nil) ⟨a, ns, rfl, e1 _ _ ha, hl, rfl⟩) fun s H2 hs e2 hS => ?_
    refine q_asgL (el_mapII (fun x => if 2 * x - ns.sum < 0 then -(2 * x - ns.sum) else 2 * x - ns.sum) (ev_var rfl) (sq_of hS) (by rw [psums_len]; omega) (fun x => rfl) fun n H3 e3 hm => ev_abs (ev_op (ev_op ev_c (ev_var rfl) (rv_I (.inl ⟨by decide, by decide⟩))) (ev_ixLast (ev_var rfl) (sq_of (by
      rw [e3 _ _ hS, psums_end, List.map_append]
      rfl))) rv_I0)) fun p H3 hp e3 hA => ?_
    refine s_ret (ev_index (n := mnL (apartP ns)) (ns := apartP ns) (ev_var rfl) (sq_of hA) (ev_min (ns := apartP ns) (ev_var rfl) (sq_of hA) ?_) (mnL_mem ?_)) fun H4 e4 => k _ (((e1.trans e2).trans e3).trans e4)
    · unfold apartP
      rw [List.length_map, psums_len]
      omega
    · unfold apartP
      rw [List.length_map, psums_len]
      omega

end
end Ct
namespace Ct
open PySem PySem.Spec PyProof.Rows L2 Evl
open He (ga ma)
section
variable {P : Program} {w : World} {K : PySem.W.Frag} {mg : Str → Option Value} {base : Heap}
/-! ### the laws' own helpers: what is reckoned -/
def primesL : List Int := [1000003, 1000033, 1000037, 1000039, 1000081, 1000099, 1000117, 1000121, 1000133, 1000151, 1000159, 1000171, 1000183, 1000187, 1000193, 1000199]
def cellZ (ns : List Int) (k : Int) : Int := if k < ns.length then ns.getD k.toNat 0 else 0
def drawZ (c k m : Int) : Int := (c * 48271 + k * 69621) % (primesL.getD (k % 16).toNat 0) % m
theorem primes_at {k : Int} (h0 : 0 ≤ k) : ∃ p, primesL[(k % 16).toNat]? = some p ∧ 0 < p ∧ primesL.getD (k % 16).toNat 0 = p := by
  have h1 : (k % 16).toNat < 16 := by omega
  generalize (k % 16).toNat = j at h1
  have : ∀ j : Fin 16, ∃ p, primesL[j.val]? = some p ∧ 0 < p ∧ primesL.getD j.val 0 = p := by decide +kernel
  exact this ⟨j, h1⟩
theorem drawZ_lo {c k m : Int} (hm : 0 < m) : 0 ≤ drawZ c k m := Int.emod_nonneg _ (by omega)
theorem drawZ_hi {c k m : Int} (hm : 0 < m) : drawZ c k m < m := Int.emod_lt_of_pos _ hm
def mostZ (d : Int) : Int := [3, 30, 1000001, 10].getD d.toNat 0
theorem mostZ_at {d : Int} (h0 : 0 ≤ d) (h1 : d < 4) : ([3, 30, 1000001, 10] : List Int)[d.toNat]? = some (mostZ d) ∧ 3 ≤ mostZ d ∧ mostZ d ≤ 1000001 := by
  have h2 : d.toNat < 4 := by omega
  unfold mostZ
  generalize d.toNat = j at h2
  have : ∀ j : Fin 4, ([3, 30, 1000001, 10] : List Int)[j.val]? = some (([3, 30, 1000001, 10] : List Int).getD j.val 0) ∧ 3 ≤ ([3, 30, 1000001, 10] : List Int).getD j.val 0 ∧ ([3, 30, 1000001, 10] : List Int).getD j.val 0 ≤ 1000001 := by decide +kernel
  exact this ⟨j, h2⟩
def load1 (most : Int) (c : Int) (k : Nat) : Int := drawZ c ((k : Int) % 5 + 1) most
def load2 (kind most : Int) (c : Int) (k : Nat) : Int := if (decide (kind = 1) && decide (0 < drawZ c ((k : Int) % 7 + 1) 3)) = true then 0 else load1 most c k
def load3 (kind most : Int) (c : Int) (k : Nat) : Int := if decide (kind = 2) = true then most / 2 + load2 kind most c k % 2 else load2 kind most c k
def kindZ (ns : List Int) : Int := drawZ (cellZ ns 0) 6 4
def mostL (ns : List Int) : Int := mostZ (drawZ (cellZ ns 1) 7 4)
def lawRow (ns : List Int) : List Int := (List.range ns.length).map fun k => load3 (kindZ ns) (mostL ns) (ns.getD k 0) k
theorem lawRow_len (ns : List Int) : (lawRow ns).length = ns.length := by simp [lawRow]
theorem mostL_ok (ns : List Int) : 3 ≤ mostL ns ∧ mostL ns ≤ 1000001 := (mostZ_at (drawZ_lo (by decide)) (drawZ_hi (by decide))).2
theorem lawRow_ok (ns : List Int) : ∀ n ∈ lawRow ns, 0 ≤ n ∧ n ≤ 1000000 := by
  intro n hn
  obtain ⟨k, _, rfl⟩ := List.mem_map.mp hn
  obtain ⟨m0, m1⟩ := mostL_ok ns
  have l1 : 0 ≤ load1 (mostL ns) (ns.getD k 0) k ∧ load1 (mostL ns) (ns.getD k 0) k < mostL ns := ⟨drawZ_lo (by omega), drawZ_hi (by omega)⟩
  have l2 : 0 ≤ load2 (kindZ ns) (mostL ns) (ns.getD k 0) k ∧ load2 (kindZ ns) (mostL ns) (ns.getD k 0) k < mostL ns := by
    unfold load2
    split
    · omega
    · exact l1
  unfold load3
  split <;> omega
/-- a place's load put behind -/
def addLast (f : List Int) (n : Int) : List Int := f.dropLast ++ [f.getLastD 0 + n]
def bornePut (cs : List Int) : Nat → List Int → List Int → List Int
  | _, [], f => f
  | i, n :: r, f => bornePut cs (i + 1) r (addLast (if decide ((i : Int) ∈ cs) = true then f ++ [0] else f) n)
def borneL (ns cs : List Int) : List Int := if ns = [] then [] else bornePut cs 0 ns [0]
theorem bornePut_snoc (cs : List Int) (n : Int) : ∀ (r : List Int) (i : Nat) (f : List Int), bornePut cs i (r ++ [n]) f = addLast (if decide (((i + r.length : Nat) : Int) ∈ cs) = true then bornePut cs i r f ++ [0] else bornePut cs i r f) n
  | [], i, f => rfl
  | a :: r, i, f => by
    rw [List.cons_append, bornePut, bornePut_snoc cs n r (i + 1)]
    rw [show i + 1 + r.length = i + (a :: r).length by simp; omega]
    rfl
theorem addLast_len (f : List Int) (n : Int) (h : f ≠ []) : (addLast f n).length = f.length := by
  unfold addLast
  have := List.length_pos_iff.mpr h
  simp
  omega
theorem addLast_ne (f : List Int) (n : Int) : addLast f n ≠ [] := by simp [addLast]
theorem bornePut_ne (cs : List Int) : ∀ (r : List Int) (i : Nat) (f : List Int), f ≠ [] → bornePut cs i r f ≠ []
  | [], _, _, h => h
  | a :: r, i, f, h => bornePut_ne cs r (i + 1) _ (addLast_ne _ _)
theorem bornePut_len (cs : List Int) : ∀ (r : List Int) (i : Nat) (f : List Int), f ≠ [] → (bornePut cs i r f).length ≤ f.length + r.length
  | [], _, _, _ => Nat.le_refl _
  | a :: r, i, f, h => by
    have h1 := bornePut_len cs r (i + 1) (addLast (if decide ((i : Int) ∈ cs) = true then f ++ [0] else f) a) (addLast_ne _ _)
    have h2 : (addLast (if decide ((i : Int) ∈ cs) = true then f ++ [0] else f) a).length ≤ f.length + 1 := by
      split
      · rw [addLast_len _ _ (by simp)]
        simp
      · rw [addLast_len _ _ h]
        omega
    rw [bornePut, List.length_cons]
    omega
/-! ### the promises -/
def F__law_cell_at (K : PySem.W.Frag) : VF := fun vs H z => ∃ (a : Addr) (ns : List Int) (k : Int), vs = [.ref a, .int k] ∧ SqL K H a (ns.map V.int) ∧ 0 ≤ k ∧ z = .int (cellZ ns k)
def sp__law_cell_at (K : PySem.W.Frag) : Sp := Pv (F__law_cell_at K)
theorem m__law_cell_at : MonoV (F__law_cell_at K) := fun vs H H1 z e ⟨a, ns, k, h1, h2, h3⟩ => ⟨a, ns, k, h1, ex_l e h2, h3⟩
def F__law_draw (_ : PySem.W.Frag) : VF := fun vs H z => ∃ (c k m : Int), vs = [.int c, .int k, .int m] ∧ 0 ≤ k ∧ 0 < m ∧ z = .int (drawZ c k m)
def sp__law_draw (K : PySem.W.Frag) : Sp := Pv (F__law_draw K)
theorem m__law_draw : MonoV (F__law_draw K) := fun vs H H1 z e h => h
def F__law_row (K : PySem.W.Frag) : LF := fun vs H xs => ∃ (a : Addr) (ns : List Int), vs = [.ref a] ∧ SqL K H a (ns.map V.int) ∧ ns.length ≤ 63 ∧ xs = (lawRow ns).map V.int
def sp__law_row (K : PySem.W.Frag) : Sp := Pl (F__law_row K)
theorem m__law_row : MonoL (F__law_row K) := fun vs H H1 z e ⟨a, ns, h1, h2, h3⟩ => ⟨a, ns, h1, ex_l e h2, h3⟩
def F__law_numbers (_ : PySem.W.Frag) : VF := fun vs H z => ∃ (a : Addr) (ns : List Int), vs = [.ref a] ∧ H a = some (.lst (ns.map V.int)) ∧ ns.length ≤ 1000 ∧ z = .bl true
def sp__law_numbers (K : PySem.W.Frag) : Sp := Pv (F__law_numbers K)
theorem m__law_numbers : MonoV (F__law_numbers K) := fun vs H H1 z e ⟨a, ns, h1, h2, h3⟩ => ⟨a, ns, h1, e _ _ h2, h3⟩
def F__law_rising (_ : PySem.W.Frag) : VF := fun vs H z => ∃ (a : Addr) (cs : List Int) (l m : Int), vs = [.ref a, .int l, .int m] ∧ H a = some (.lst (cs.map V.int)) ∧ z = .bl (risB (l - 1) cs m)
def sp__law_rising (K : PySem.W.Frag) : Sp := Pv (F__law_rising K)
theorem m__law_rising : MonoV (F__law_rising K) := fun vs H H1 z e ⟨a, ns, l, m, h1, h2, h3⟩ => ⟨a, ns, l, m, h1, e _ _ h2, h3⟩
def F__law_borne (_ : PySem.W.Frag) : LF := fun vs H xs => ∃ (a c : Addr) (ns cs : List Int), vs = [.ref a, .ref c] ∧ H a = some (.lst (ns.map V.int)) ∧ H c = some (.lst (cs.map V.int)) ∧ ns.length ≤ 1000 ∧ xs = (borneL ns cs).map V.int
def sp__law_borne (K : PySem.W.Frag) : Sp := Pl (F__law_borne K)
theorem m__law_borne : MonoL (F__law_borne K) := fun vs H H1 z e ⟨a, c, ns, cs, h1, h2, h3, h4⟩ => ⟨a, c, ns, cs, h1, e _ _ h2, e _ _ h3, h4⟩
/-! ### the defs -/
theorem sc__law_cell_at : FnScope ["_law_script", "_law_k"] ["_law_script", "_law_k"] (defScope s__law_cell_at) := ⟨rfl, rfl, rfl, by decide +kernel, rfl, by decide +kernel, by decide +kernel⟩
theorem ok__law_cell_at (T : Tx K mg) : Kept P w K mg base CX0 1 "_law_cell_at" ["_law_script", "_law_k"] (sp__law_cell_at K) := by
  obtain ⟨fd, F⟩ := T.d__law_cell_at
  refine ⟨⟨fd, F.ok sc__law_cell_at (fun vs H Q E h => by obtain ⟨_, ⟨_, _, _, rfl, _⟩, _⟩ := h; rfl) (fun cdv A outer s H vs Q E hRm h => ?_), F.bindsN fun _ _ _ _ _ _ us hl => match us, hl with | [_, _], _ => rfl⟩, T.g__law_cell_at, F.kp⟩
  · obtain ⟨z, ⟨a, ns, j, rfl, ha, hj, rfl⟩, k⟩ := h
    refine ⟨_, (PSs.nox (pss_cons (ps_if (pt_cmpR op_lt (pv 1) (pe_callB call_len_seq (by rfl) T.z_len bo_len (pa_cons (pv 0) pa_nil)) (nomark _)) (pss_one (ps_ret (pe_ix ix_list (pv 0) (pv 1) (fun _ _ => rfl)))) pss_nil) (pss_one (ps_ret pe_int)))), ?_⟩
    refine q_when (b := decide (j < ns.length)) (et_is (et_test (ev_op (ev_var rfl) (ev_ln (ev_var rfl) (.inl ha)) rv_I0)) (by rw [List.length_map])) (fun hb H1 e1 => ?_) fun hb H1 e1 => ?_
    · have hb2 := of_decide_eq_true hb
      have e0 : cellZ ns j = ns.getD j.toNat 0 := if_pos hb2
      rw [e0] at k
      refine s_ret (ev_ixI (n := ns.getD j.toNat 0) (ev_var rfl) (ex_l e1 ha) (ev_var rfl) hj ?_) fun H2 e2 => k _ (e1.trans e2)
      rw [List.getD_eq_getElem?_getD, List.getElem?_eq_getElem (by omega)]
      rfl
    · have hb2 := of_decide_eq_false hb
      have e0 : cellZ ns j = 0 := if_neg hb2
      rw [e0] at k
      exact s_ret ev_c fun H2 e2 => k _ (e1.trans e2)
theorem sc__law_draw : FnScope ["_law_cell", "_law_k", "_law_many", "_law_primes"] ["_law_cell", "_law_k", "_law_many"] (defScope s__law_draw) := ⟨rfl, rfl, rfl, by decide +kernel, rfl, by decide +kernel, by decide +kernel⟩
theorem ok__law_draw (T : Tx K mg) : Kept P w K mg base CX0 1 "_law_draw" ["_law_cell", "_law_k", "_law_many"] (sp__law_draw K) := by
  obtain ⟨fd, F⟩ := T.d__law_draw
  refine ⟨⟨fd, F.ok sc__law_draw (fun vs H Q E h => by obtain ⟨_, ⟨_, _, _, rfl, _⟩, _⟩ := h; rfl) (fun cdv A outer s H vs Q E hRm h => ?_), F.bindsN fun _ _ _ _ _ _ us hl => match us, hl with | [_, _, _], _ => rfl⟩, T.g__law_draw, F.kp⟩
  · obtain ⟨z, ⟨c, j, m, rfl, hj, hm, rfl⟩, k⟩ := h
    refine ⟨_, (PSs.nox (pss_cons (ps_set (i := 3) sc__law_draw.nd rfl (Or.inl rfl) (pe_tup (pa_cons pe_int (pa_cons pe_int (pa_cons pe_int (pa_cons pe_int (pa_cons pe_int (pa_cons pe_int (pa_cons pe_int (pa_cons pe_int (pa_cons pe_int (pa_cons pe_int (pa_cons pe_int (pa_cons pe_int (pa_cons pe_int (pa_cons pe_int (pa_cons pe_int (pa_cons pe_int pa_nil)))))))))))))))))) (pss_one (ps_ret (pe_op op_mod (pe_op op_mod (pe_op op_add (pe_op op_mul (pv 0) pe_int) (pe_op op_mul (pv 1) pe_int)) (pe_ix ix_tup (pv 3) (pe_op op_mod (pv 1) pe_int) (fun _ _ => rfl))) (pv 2)))))), ?_⟩
    refine q_asgU (eu_tup (vs := primesL.map V.int) (by
      unfold primesL
      exact ea_cons ev_c (ea_cons ev_c (ea_cons ev_c (ea_cons ev_c (ea_cons ev_c (ea_cons ev_c (ea_cons ev_c (ea_cons ev_c (ea_cons ev_c (ea_cons ev_c (ea_cons ev_c (ea_cons ev_c (ea_cons ev_c (ea_cons ev_c (ea_cons ev_c (ea_cons ev_c ea_nil)))))))))))))))) (by decide)) fun p H1 hp e1 h1 => ?_
    obtain ⟨pr, hpr, hp0, hpe⟩ := primes_at hj
    have hd : drawZ c j m = (c * 48271 + j * 69621) % pr % m := by unfold drawZ; rw [hpe]
    rw [hd] at k
    exact s_ret (ev_op (ev_op (ev_op (ev_op (ev_var rfl) ev_c (rv_I (.inr ⟨by decide, by decide⟩))) (ev_op (ev_var rfl) ev_c (rv_I (.inr ⟨by decide, by decide⟩))) rv_I0)
      (ev_op (ev_var rfl) (ev_op (ev_var rfl) ev_c (rv_I (by decide))) (rv_ixT (st_of h1) (by
        rw [show j % 16 = (((j % 16).toNat : Nat) : Int) by omega]
        exact at_int hpr))) (rv_I hp0)) (ev_var rfl) (rv_I hm)) fun H2 e2 => k _ (e1.trans e2)
theorem sc__law_row : FnScope ["_law_script", "_law_kind", "_law_most", "_law_row_here", "_law_k", "_law_load"] ["_law_script"] (defScope s__law_row) := ⟨rfl, rfl, rfl, by decide +kernel, rfl, by decide +kernel, by decide +kernel⟩
theorem ok__law_row (T : Tx K mg) : Kept P w K mg base CX0 2 "_law_row" ["_law_script"] (sp__law_row K) := by
  have D__law_cell_at : Kept P w K mg base CX0 1 "_law_cell_at" ["_law_script", "_law_k"] (sp__law_cell_at K) := ok__law_cell_at T
  have D__law_draw : Kept P w K mg base CX0 1 "_law_draw" ["_law_cell", "_law_k", "_law_many"] (sp__law_draw K) := ok__law_draw T
  obtain ⟨fd, F⟩ := T.d__law_row
  refine ⟨⟨fd, F.ok sc__law_row (fun vs H Q E h => by obtain ⟨_, ⟨_, _, rfl, _⟩, _⟩ := h; rfl) (fun cdv A outer s H vs Q E hRm h => ?_), F.bindsN fun _ _ _ _ _ _ us hl => match us, hl with | [_], _ => rfl⟩, T.g__law_row, F.kp⟩
  · obtain ⟨z, ⟨a, ns, rfl, ha, hl, rfl⟩, k⟩ := h
    refine ⟨_, (PSs.nox (pss_cons (ps_set (i := 1) sc__law_row.nd rfl (Or.inl rfl) (pe_d D__law_draw (hRm.mono (by decide)) (by rfl) (pa_cons (pe_d D__law_cell_at (hRm.mono (by decide)) (by rfl) (pa_cons (pv 0) (pa_cons pe_int pa_nil))) (pa_cons pe_int (pa_cons pe_int pa_nil))))) (pss_cons (ps_set (i := 2) sc__law_row.nd rfl (Or.inl rfl) (pe_ix ix_tup (pe_tup (pa_cons pe_int (pa_cons pe_int (pa_cons pe_int (pa_cons pe_int pa_nil))))) (pe_d D__law_draw (hRm.mono (by decide)) (by rfl) (pa_cons (pe_d D__law_cell_at (hRm.mono (by decide)) (by rfl) (pa_cons (pv 0) (pa_cons pe_int pa_nil))) (pa_cons pe_int (pa_cons pe_int pa_nil)))) (fun _ _ => rfl))) (pss_cons (ps_set (i := 3) sc__law_row.nd rfl (Or.inl rfl) (pe_lst pa_nil)) (pss_cons (ps_for PassesOwn.never rfl (pi_range1 (by rfl) T.z_range (pa_cons (pe_callB call_len_seq (by rfl) T.z_len bo_len (pa_cons (pv 0) pa_nil)) pa_nil)) (pg_name (i := 4) sc__law_row.nd rfl (Or.inl rfl)) (pss_cons (ps_set (i := 5) sc__law_row.nd rfl (Or.inl rfl) (pe_d D__law_draw (hRm.mono (by decide)) (by rfl) (pa_cons (pe_ix ix_list (pv 0) (pv 4) (fun _ _ => rfl)) (pa_cons (pe_op op_add (pe_op op_mod (pv 4) pe_int) pe_int) (pa_cons (pv 2) pa_nil))))) (pss_cons (ps_if (PW.pt (pw_and (pt_cmpR op_eq (pv 1) pe_int (nomark _)) (pw_and1 (pt_cmpR op_gt (pe_d D__law_draw (hRm.mono (by decide)) (by rfl) (pa_cons (pe_ix ix_list (pv 0) (pv 4) (fun _ _ => rfl)) (pa_cons (pe_op op_add (pe_op op_mod (pv 4) pe_int) pe_int) (pa_cons pe_int pa_nil)))) pe_int (nomark _))))) (pss_one (ps_set (i := 5) sc__law_row.nd rfl (Or.inl rfl) pe_int)) pss_nil) (pss_cons (ps_if (pt_cmpR op_eq (pv 1) pe_int (nomark _)) (pss_one (ps_set (i := 5) sc__law_row.nd rfl (Or.inl rfl) (pe_op op_add (pe_op op_fdiv (pv 2) pe_int) (pe_op op_mod (pv 5) pe_int)))) pss_nil) (pss_one (ps_expr (pe_bm PySem.F.plainAttrs_list PySem.F.slot_list_append PySem.F.type_list_append mt_append (pv 3) (pa_cons (pv 5) pa_nil)))))))) (pss_one (ps_ret (pv 3)))))))), ?_⟩
    refine q_asg (v := .int (kindZ ns)) (ev_callV m__law_draw (ea_cons (ev_callV m__law_cell_at (ea_cons (ev_var rfl) (ea_cons ev_c ea_nil)) ⟨a, ns, 0, rfl, ha, by decide, rfl⟩) (ea_cons ev_c (ea_cons ev_c ea_nil))) ⟨_, 6, 4, rfl, by decide, by decide, rfl⟩) fun H1 e1 => ?_
    obtain ⟨hm1, hm2, hm3⟩ := mostZ_at (d := drawZ (cellZ ns 1) 7 4) (drawZ_lo (by decide)) (drawZ_hi (by decide))
    refine q_asg (v := .int (mostL ns)) (fun H2 e2 Q q => r_tup (r_cons (r_ev ev_c fun H3 e3 => r_cons (r_ev ev_c fun H4 e4 => r_cons (r_ev ev_c fun H5 e5 => r_cons (r_ev ev_c fun H6 e6 => r_nil ⟨by decide, fun p hp => ?_⟩))))) ) fun H2 e2 => ?_
    · have eb : Ex H2 (upd H6 p (.tup [.int 3, .int 30, .int 1000001, .int 10])) := (((e3.trans e4).trans e5).trans e6).trans (Ex.new hp)
      refine r_ev (ev_callV m__law_draw (ea_cons (ev_callV m__law_cell_at (ea_cons (ev_var rfl) (ea_cons ev_c ea_nil)) ⟨a, ns, 1, rfl, ex_l ((e1.trans e2).trans eb) ha, by decide, rfl⟩) (ea_cons ev_c (ea_cons ev_c ea_nil))) ⟨_, 7, 4, rfl, by decide, by decide, rfl⟩) fun H7 e7 => ?_
      refine rv_ixT (xs := ([3, 30, 1000001, 10] : List Int).map V.int) (st_of (e7 _ _ upd_same)) ?_ H7 (Ex.refl _) Q fun H8 e8 => q _ ((eb.trans e7).trans e8)
      rw [show drawZ (cellZ ns 1) 7 4 = (((drawZ (cellZ ns 1) 7 4).toNat : Nat) : Int) by have := drawZ_lo (c := cellZ ns 1) (k := 7) (m := 4) (by decide); omega]
      exact at_int hm1
    have e12 := e1.trans e2
    refine q_asgL (el_lst ea_nil (by decide)) fun p H3 hp e3 h3 => ?_
    have hp0 := fresh_back e12 hp
    refine q_forR1 (n := (ns.length : Int)) (ea_cons (ev_is (ev_ln (ev_var rfl) (.inl (ex_l (e12.trans e3) ha))) (by rw [List.length_map])) ea_nil) (by omega)
      (fun i σ' H' => ∃ v ld, σ' = [some (.ref a), some (.int (kindZ ns)), some (.int (mostL ns)), some (.ref p), v, ld] ∧ Ex H H' ∧ H' p = some (.lst (((List.range i).map fun k => load3 (kindZ ns) (mostL ns) (ns.getD k 0) k).map V.int)))
      (fun H4 e4 => ⟨none, none, rfl, (e12.trans e3).trans e4, e4 _ _ h3⟩) ?_ ?_
    · rintro i σ' H' hi ⟨v, ld, rfl, e, hH⟩
      have hi2 : i < ns.length := by omega
      have hat : ns[((i : Int)).toNat]? = some (ns.getD i 0) := by
        rw [Int.toNat_natCast, List.getD_eq_getElem?_getD, List.getElem?_eq_getElem hi2]
        rfl
      obtain ⟨m0, m1⟩ := mostL_ok ns
      refine q_asg (v := .int (load1 (mostL ns) (ns.getD i 0) i)) (ev_callV m__law_draw (ea_cons (ev_ixI (ev_var rfl) (ex_l e ha) (ev_var rfl) (Int.natCast_nonneg _) hat) (ea_cons (ev_op (ev_op (ev_var rfl) ev_c (rv_I (by decide))) ev_c rv_I0) (ea_cons (ev_var rfl) ea_nil))) ⟨_, _, _, rfl, by omega, by omega, rfl⟩) fun H4 e4 => ?_
      refine q_ifAsg (v := .int (load2 (kindZ ns) (mostL ns) (ns.getD i 0) i)) (b := decide (kindZ ns = 1) && decide (0 < drawZ (ns.getD i 0) ((i : Int) % 7 + 1) 3)) (et_and (et_is (et_test (ev_op (ev_var rfl) ev_c (rv_eq rfl))) (by simp)) fun _ => et_test (ev_op (ev_callV m__law_draw (ea_cons (ev_ixI (ev_var rfl) (ex_l (e.trans e4) ha) (ev_var rfl) (Int.natCast_nonneg _) hat) (ea_cons (ev_op (ev_op (ev_var rfl) ev_c (rv_I (by decide))) ev_c rv_I0) (ea_cons ev_c ea_nil))) ⟨_, _, _, rfl, by omega, by decide, rfl⟩) ev_c rv_I0))
        (fun hb => ev_is ev_c (by rw [load2, if_pos hb])) (fun hb => by rw [load2, if_neg (by rw [hb]; decide)]; rfl) fun H5 e5 => ?_
      refine q_ifAsg (v := .int (load3 (kindZ ns) (mostL ns) (ns.getD i 0) i)) (b := decide (kindZ ns = 2)) (et_is (et_test (ev_op (ev_var rfl) ev_c (rv_eq rfl))) (by simp))
        (fun hb => ev_is (ev_op (ev_op (ev_var rfl) ev_c (rv_I ⟨by decide, by decide⟩)) (ev_op (ev_var rfl) ev_c (rv_I (by decide))) rv_I0) (by rw [load3, if_pos hb])) (fun hb => by rw [load3, if_neg (by rw [hb]; decide)]; rfl) fun H6 e6 => ?_
      have e46 := (e4.trans e5).trans e6
      refine s_app (e46 _ _ hH) (ev_var rfl) (ev_var rfl) (by simp; omega) fun H7 e7 => ⟨_, _, rfl, Ex.mut ((e.trans e46).trans e7) hp0, ?_⟩
      rw [upd_same, List.range_succ, List.map_append, List.map_append]
      rfl
    · rintro σ' H' ⟨v, ld, rfl, e, hH⟩
      rw [Int.toNat_natCast] at hH
      exact s_ret (ev_var rfl) fun H4 e4 => k p _ hp0 (e.trans e4) (e4 _ _ hH)
theorem sc__law_numbers : FnScope ["_law_found", "_law_one"] ["_law_found"] (defScope s__law_numbers) := ⟨rfl, rfl, rfl, by decide +kernel, rfl, by decide +kernel, by decide +kernel⟩
theorem ok__law_numbers (T : Tx K mg) : Kept P w K mg base CX0 1 "_law_numbers" ["_law_found"] (sp__law_numbers K) := by
  obtain ⟨fd, F⟩ := T.d__law_numbers
  refine ⟨⟨fd, F.ok sc__law_numbers (fun vs H Q E h => by obtain ⟨_, ⟨_, _, rfl, _⟩, _⟩ := h; rfl) (fun cdv A outer s H vs Q E hRm h => ?_), F.bindsN fun _ _ _ _ _ _ us hl => match us, hl with | [_], _ => rfl⟩, T.g__law_numbers, F.kp⟩
  · obtain ⟨z, ⟨a, ns, rfl, ha, hl, rfl⟩, k⟩ := h
    refine ⟨_, (PSs.nox (pss_cons (ps_if (pt_not (pt_val (pe_callB call_isi (by rfl) T.z_isinstance bo_isinstance (pa_cons (pv 0) (pa_cons (pe_bltn (v := .ty "list") (by rfl) T.z_list bo_list rfl) pa_nil))))) (pss_one (ps_ret pe_bl)) pss_nil) (pss_one (ps_ret (pe_not (pe_callB (cr_any rfl) (by rfl) T.z_any bo_any (pa_cons (pe_lc (own := [("_law_one", 1)]) (g := gName 1) (tt := tYes) rfl sc__law_numbers.nd (pi_list (pv 0)) (blkOk_by (N := ["_law_found", "_law_one"]) (sc := defScope s__law_numbers) (by decide +kernel)) (fun _ _ _ _ _ => pg_name (i := 1) sc__law_numbers.nd rfl (Or.inl rfl)) (fun _ _ _ _ _ => pts_nil) (fun _ _ _ _ _ => (pe_or (pe_callB (call_isiK' (K := K) rfl) (by rfl) T.z_isinstance bo_isinstance (pa_cons (pv 1) (pa_cons (pe_bltn (v := .ty "bool") (by rfl) T.z_bool bo_bool rfl) pa_nil))) (pe_one (pe_not (pe_callB (call_isiK' (K := K) rfl) (by rfl) T.z_isinstance bo_isinstance (pa_cons (pv 1) (pa_cons (pe_bltn (v := .ty "int") (by rfl) T.z_int bo_int rfl) pa_nil)))))))) pa_nil))))))), ?_⟩
    refine q_when (b := false) (et_not (et_B (ev_isT (b := true) (ev_var rfl) (tx_lst ha) (by decide +kernel)))) (fun h => by cases h) fun _ H1 e1 => ?_
    refine s_ret (ev_is (ev_notV (ev_anyN (el_mapIB (fun n => false || !true) (ev_var rfl) (sq_of (e1 _ _ ha)) (by omega) (fun x => rfl) fun n H2 e2 hm => ev_orV (ev_isT (ev_var rfl) tx_int (by decide +kernel)) fun _ => ev_notV (ev_isT (ev_var rfl) tx_int (by decide +kernel))))) ?_) fun H2 e2 => k _ (e1.trans e2)
    have e0 : ((ns.map fun _ => (false || !true)).any id) = false := by
      rw [List.any_eq_false]
      intro b hb
      obtain ⟨_, _, rfl⟩ := List.mem_map.mp hb
      decide
    rw [e0]
    rfl
theorem sc__law_rising : FnScope ["_law_places", "_law_least", "_law_many", "_law_last", "_law_place"] ["_law_places", "_law_least", "_law_many"] (defScope s__law_rising) := ⟨rfl, rfl, rfl, by decide +kernel, rfl, by decide +kernel, by decide +kernel⟩
theorem ok__law_rising (T : Tx K mg) : Kept P w K mg base CX0 1 "_law_rising" ["_law_places", "_law_least", "_law_many"] (sp__law_rising K) := by
  obtain ⟨fd, F⟩ := T.d__law_rising
  refine ⟨⟨fd, F.ok sc__law_rising (fun vs H Q E h => by obtain ⟨_, ⟨_, _, _, _, rfl, _⟩, _⟩ := h; rfl) (fun cdv A outer s H vs Q E hRm h => ?_), F.bindsN fun _ _ _ _ _ _ us hl => match us, hl with | [_, _, _], _ => rfl⟩, T.g__law_rising, F.kp⟩
  · obtain ⟨z, ⟨a, cs, l0, m, rfl, ha, rfl⟩, k⟩ := h
    refine ⟨_, (PSs.nox (pss_cons (ps_set (i := 3) sc__law_rising.nd rfl (Or.inl rfl) (pe_op op_sub (pv 1) pe_int)) (pss_cons (ps_for PassesOwn.never rfl (pi_list (pv 0)) (pg_name (i := 4) sc__law_rising.nd rfl (Or.inl rfl)) (pss_cons (ps_if (pt_not (pt_chain op_lt op_lt (pv 3) (pv 4) (pv 2))) (pss_one (ps_ret pe_bl)) pss_nil) (pss_one (ps_set (i := 3) sc__law_rising.nd rfl (Or.inl rfl) (pv 4))))) (pss_one (ps_ret pe_bl))))), ?_⟩
    refine q_asg (v := .int (l0 - 1)) (ev_op (ev_var rfl) ev_c rv_I0) fun H1 e1 => ?_
    refine q_forLn (ev_var rfl) (sq_of (e1 _ _ ha)) (fun i σ' H' => ∃ l v, σ' = [some (.ref a), some (.int l0), some (.int m), some (.int l), v] ∧ Ex H H' ∧ risB (l0 - 1) cs m = risB l (cs.drop i) m) (fun H2 e2 => ⟨l0 - 1, none, rfl, e1.trans e2, rfl⟩) (fun i σ' H' _ ⟨_, _, _, e, _⟩ => sq_of (e _ _ ha)) ?_ ?_
    · rintro i x σ' H' hi ⟨l, v, rfl, e, hr⟩
      obtain ⟨c, rfl, hc⟩ := int_at hi
      rw [drop_at hc] at hr
      refine q_when (b := !(decide (l < c) && decide (c < m))) (et_not (et_ch (ev_var rfl) (ev_var rfl) rv_I0 (fun _ => ev_var rfl) fun _ => rv_I0)) (fun hb H2 e2 => s_ret ev_c fun H3 e3 => ?_) fun hb H2 e2 => s_asg (ev_var rfl) fun H3 e3 => ⟨c, _, rfl, (e.trans e2).trans e3, ?_⟩
      · have e0 : risB (l0 - 1) cs m = false := by
          rw [hr, risB]
          rw [Bool.not_eq_true'] at hb
          rw [hb, Bool.false_and]
        rw [e0] at k
        exact k _ ((e.trans e2).trans e3)
      · rw [hr, risB]
        rw [Bool.not_eq_false'] at hb
        rw [hb, Bool.true_and]
    · rintro σ' H' ⟨l, v, rfl, e, hr⟩
      refine s_ret ev_c fun H3 e3 => ?_
      have e0 : risB (l0 - 1) cs m = true := by
        rw [hr, List.drop_eq_nil_of_le (by rw [List.length_map]; exact Nat.le_refl _)]
        rfl
      rw [e0] at k
      exact k _ (e.trans e3)

end
end Ct
namespace Ct
open PySem PySem.Spec PyProof.Rows L2 Evl
open He (ga ma)
section
variable {P : Program} {w : World} {K : PySem.W.Frag} {mg : Str → Option Value} {base : Heap}
/-! ### plain: the two reckonings of what the parts bear -/
def seg (ns : List Int) (l : Int) : List Int → Int → List Int
  | [], e => [psm ns e - psm ns l]
  | c :: r, e => (psm ns c - psm ns l) :: seg ns c r e
theorem segR (ns : List Int) (e : Int) : ∀ (cs : List Int) (l : Int), ((List.range (cs.length + 1)).map fun k => psm ns ((cs ++ [e]).getD k 0) - psm ns ((l :: cs).getD k 0)) = seg ns l cs e
  | [], l => rfl
  | c :: r, l => by
    rw [List.length_cons, List.range_succ_eq_map, List.map_cons, List.map_map]
    exact congrArg (List.cons _) (segR ns e r c)
theorem parts_seg {ns cs : List Int} (h : ns ≠ []) : partsP ns cs = seg ns 0 cs ns.length := by
  unfold partsP
  rw [if_neg h]
  exact segR ns ns.length cs 0
theorem ris_head : ∀ {cs : List Int} {l m : Int}, risB l cs m = true → ∀ i, l < i → (i ∈ cs → ∃ c r, cs = c :: r ∧ c ≤ i)
  | [], _, _, _, i, _, h => by cases h
  | c :: r, l, m, h, i, hi, hm => by
    refine ⟨c, r, rfl, ?_⟩
    simp only [risB, Bool.and_eq_true, decide_eq_true_eq] at h
    rcases List.mem_cons.mp hm with e | hm
    · omega
    · have := ris_mem h.2 i hm
      omega
theorem ris_weak : ∀ {cs : List Int} {l l' m : Int}, l' ≤ l → risB l cs m = true → risB l' cs m = true
  | [], _, _, _, _, _ => rfl
  | c :: r, l, l', m, h, hr => by
    simp only [risB, Bool.and_eq_true, decide_eq_true_eq] at hr ⊢
    exact ⟨⟨by omega, hr.1.2⟩, hr.2⟩
theorem ris_up : ∀ {cs : List Int} {l m : Int}, risB (l - 1) cs m = true → l ∉ cs → risB l cs m = true
  | [], _, _, _, _ => rfl
  | c :: r, l, m, hr, hn => by
    simp only [risB, Bool.and_eq_true, decide_eq_true_eq] at hr ⊢
    have : c ≠ l := fun q => hn (by rw [q]; exact List.mem_cons_self)
    exact ⟨⟨by omega, hr.1.2⟩, hr.2⟩
theorem put_seg (ns cs : List Int) : ∀ (r : List Int) (i : Nat) (pre f0 : List Int) (x : Int) (cr : List Int) (l : Int), ns = pre ++ r → pre.length = i → (∀ j : Int, (i : Int) ≤ j → (j ∈ cs ↔ j ∈ cr)) → risB ((i : Int) - 1) cr ns.length = true → x = psm ns i - psm ns l →
    bornePut cs i r (f0 ++ [x]) = f0 ++ seg ns l cr ns.length
  | [], i, pre, f0, x, cr, l, e, hp, hm, hr, hx => by
    have hl : (ns.length : Int) = i := by rw [e, List.append_nil, hp]
    cases cr with
    | nil =>
      rw [bornePut, seg, hx, hl]
    | cons c q =>
      simp only [risB, Bool.and_eq_true, decide_eq_true_eq] at hr
      omega
  | n :: r, i, pre, f0, x, cr, l, e, hp, hm, hr, hx => by
    have e2 : ns = (pre ++ [n]) ++ r := by rw [e, List.append_assoc]; rfl
    have hp2 : (pre ++ [n]).length = i + 1 := by rw [List.length_append, hp]; rfl
    have hs : psm ns ((i + 1 : Nat) : Int) = psm ns i + n := by
      unfold psm
      rw [Int.toNat_natCast, Int.toNat_natCast]
      have h1 : ns.take (i + 1) = pre ++ [n] := by rw [e2, ← hp2, List.take_left]
      have h2 : ns.take i = pre := by rw [e, ← hp, List.take_left]
      rw [h1, h2, List.sum_append, List.sum_singleton]
    rw [bornePut]
    by_cases hi : (i : Int) ∈ cs
    · rw [if_pos (decide_eq_true hi)]
      have hi2 := (hm i (Int.le_refl _)).mp hi
      obtain ⟨c, q, rfl, hc⟩ := ris_head hr i (by omega) hi2
      have hr2 := hr
      simp only [risB, Bool.and_eq_true, decide_eq_true_eq] at hr2
      have ec : c = i := by omega
      subst ec
      have ih := put_seg ns cs r (i + 1) (pre ++ [n]) (f0 ++ [x]) (psm ns ((i + 1 : Nat) : Int) - psm ns i) q i e2 hp2 (fun j hj => ?_) ?_ rfl
      · have ea : addLast (f0 ++ [x] ++ [0]) n = (f0 ++ [x]) ++ [psm ns ((i + 1 : Nat) : Int) - psm ns i] := by
          rw [hs]
          simp [addLast]
          omega
        rw [ea, ih, seg, hx, List.append_assoc]
        rfl
      · rw [hm j (by omega)]
        refine ⟨fun h => ?_, fun h => List.mem_cons_of_mem _ h⟩
        rcases List.mem_cons.mp h with z | z
        · omega
        · exact z
      · have : ((i + 1 : Nat) : Int) - 1 = i := by omega
        rw [this]
        exact hr2.2
    · rw [if_neg (by rw [decide_eq_false hi]; decide)]
      have hi2 : (i : Int) ∉ cr := fun z => hi ((hm i (Int.le_refl _)).mpr z)
      have ih := put_seg ns cs r (i + 1) (pre ++ [n]) f0 (x + n) cr l e2 hp2 (fun j hj => hm j (by omega)) ?_ (by rw [hs, hx]; omega)
      · have ea : addLast (f0 ++ [x]) n = f0 ++ [x + n] := by simp [addLast]
        rw [ea, ih]
      · have : ((i + 1 : Nat) : Int) - 1 = i := by omega
        rw [this]
        exact ris_up hr hi2
theorem parts_borne {ns cs : List Int} (hr : risB 0 cs ns.length = true) : partsP ns cs = borneL ns cs := by
  by_cases h : ns = []
  · subst h
    rfl
  rw [parts_seg h]
  unfold borneL
  rw [if_neg h]
  have q := put_seg ns cs ns 0 [] [] 0 cs 0 rfl rfl (fun _ _ => Iff.rfl) (ris_weak (by decide) hr) (by simp [psm])
  exact q.symm
theorem ris_of_pw : ∀ {cs : List Int} {l m : Int}, cs.Pairwise (· < ·) → (∀ c ∈ cs, l < c ∧ c < m) → risB l cs m = true
  | [], _, _, _, _ => rfl
  | c :: r, l, m, hp, h => by
    rw [List.pairwise_cons] at hp
    simp only [risB, Bool.and_eq_true, decide_eq_true_eq]
    exact ⟨h c List.mem_cons_self, ris_of_pw hp.2 fun d hd => ⟨hp.1 d hd, (h d (List.mem_cons_of_mem _ hd)).2⟩⟩
theorem sum_nn : ∀ {ns : List Int}, (∀ n ∈ ns, 0 ≤ n) → 0 ≤ ns.sum
  | [], _ => by simp
  | a :: r, h => by
    rw [List.sum_cons]
    have h1 := h a List.mem_cons_self
    have h2 := sum_nn (ns := r) fun n hn => h n (List.mem_cons_of_mem _ hn)
    omega

end
end Ct
namespace Ct
open PySem PySem.Spec PyProof.Rows L2 Evl
open He (ga ma)
section
variable {P : Program} {w : World} {K : PySem.W.Frag} {mg : Str → Option Value} {base : Heap}
/-! ### answers: what is reckoned -/
def lnkB (ns : List Int) (l : Int) : List (Int × Int) → Int → Bool
  | [], _ => true
  | p :: r, b => ((decide (l ≤ p.1) && (decide (p.1 < p.2) && decide (p.2 < ns.length))) && !decide (psm ns (p.2 + 1) - psm ns p.1 ≤ b)) && lnkB ns p.2 r b
def showsFew (ns : List Int) (b : Int) (cs : List Int) (ps : List (Int × Int)) : Bool :=
  if (!risB 0 cs ns.length || !lnkB ns 0 ps b) = true then false else if (!decide (cs.length = ps.length)) = true then false else (partsP ns cs).all fun x => decide (x ≤ b)
def showsGr (ns : List Int) (b p : Int) : Bool := (decide (0 ≤ p) && decide (p < ns.length)) && decide (b < ns.getD p.toNat 0)
def showsLst (ns : List Int) (m : Int) (cs : List Int) (k : Int) (ps : List (Int × Int)) : Bool :=
  if (decide (k < 0) || (!risB 0 cs ns.length || decide (m ≤ (cs.length : Int)))) = true then false else if (!(partsP ns cs).all fun x => decide (x ≤ k)) = true then false else
    if (decide (k = 0) || decide (k ∈ ns)) = true then true else decide ((ps.length : Int) = m) && lnkB ns 0 ps (k - 1)
def gapsP (ns ps : List Int) : List Int := (List.range (ps.length + 1)).map fun k => psm ns ((ps ++ [(ns.length : Int)]).getD k 0) - psm ns ((0 :: ps.map (· + 1)).getD k 0)
def showsMst (ns : List Int) (b : Int) (cs ps : List Int) : Bool :=
  if (!risB 0 cs ns.length || !risB (-1) ps ns.length) = true then false else if (!(gapsP ns ps).all fun x => decide (x < b)) = true then false else
    if decide (ps.length = 0) = true then decide (cs.length = 0) else decide (cs.length + 1 = ps.length) && decide (b ≤ mnL (partsP ns cs))
theorem partsP_len {ns cs : List Int} : (partsP ns cs).length ≤ cs.length + 1 := by
  unfold partsP
  split
  · simp
  · rw [List.length_map, List.length_range]
    exact Nat.le_refl _
/-! ### the objects -/
def fFew (p q : Addr) : List (Str × V) := putF "stretches" (.ref q) (putF "cuts" (.ref p) [])
def fGr (v : V) : List (Str × V) := putF "place" v []
def fLst (p : Addr) (v : V) (q : Addr) : List (Str × V) := putF "stretches" (.ref q) (putF "number" v (putF "cuts" (.ref p) []))
def fMst (p q : Addr) : List (Str × V) := putF "places" (.ref q) (putF "cuts" (.ref p) [])
theorem fFew_cuts {p q : Addr} : (fFew p q).lookup ("cuts" : Str) = some (.ref p) := by unfold fFew; rw [lookup_putF, if_neg (by decide +kernel), lookup_putF, if_pos rfl]
theorem fFew_stretches {p q : Addr} : (fFew p q).lookup ("stretches" : Str) = some (.ref q) := by unfold fFew; rw [lookup_putF, if_pos rfl]
theorem fFew_shows {p q : Addr} : (fFew p q).lookup ("shows" : Str) = none := by unfold fFew; rw [lookup_putF, if_neg (by decide +kernel), lookup_putF, if_neg (by decide +kernel)] <;> rfl
theorem fGr_place {v : V} : (fGr v).lookup ("place" : Str) = some v := by unfold fGr; rw [lookup_putF, if_pos rfl]
theorem fGr_shows {v : V} : (fGr v).lookup ("shows" : Str) = none := by unfold fGr; rw [lookup_putF, if_neg (by decide +kernel)] <;> rfl
theorem fLst_cuts {p q : Addr} {v : V} : (fLst p v q).lookup ("cuts" : Str) = some (.ref p) := by unfold fLst; rw [lookup_putF, if_neg (by decide +kernel), lookup_putF, if_neg (by decide +kernel), lookup_putF, if_pos rfl]
theorem fLst_number {p q : Addr} {v : V} : (fLst p v q).lookup ("number" : Str) = some v := by unfold fLst; rw [lookup_putF, if_neg (by decide +kernel), lookup_putF, if_pos rfl]
theorem fLst_stretches {p q : Addr} {v : V} : (fLst p v q).lookup ("stretches" : Str) = some (.ref q) := by unfold fLst; rw [lookup_putF, if_pos rfl]
theorem fLst_shows {p q : Addr} {v : V} : (fLst p v q).lookup ("shows" : Str) = none := by unfold fLst; rw [lookup_putF, if_neg (by decide +kernel), lookup_putF, if_neg (by decide +kernel), lookup_putF, if_neg (by decide +kernel)] <;> rfl
theorem fMst_cuts {p q : Addr} : (fMst p q).lookup ("cuts" : Str) = some (.ref p) := by unfold fMst; rw [lookup_putF, if_neg (by decide +kernel), lookup_putF, if_pos rfl]
theorem fMst_places {p q : Addr} : (fMst p q).lookup ("places" : Str) = some (.ref q) := by unfold fMst; rw [lookup_putF, if_pos rfl]
theorem fMst_shows {p q : Addr} : (fMst p q).lookup ("shows" : Str) = none := by unfold fMst; rw [lookup_putF, if_neg (by decide +kernel), lookup_putF, if_neg (by decide +kernel)] <;> rfl
abbrev C_Few (K : PySem.W.Frag) : Addr := ga K "Fewest"
abbrev C_Gr (K : PySem.W.Frag) : Addr := ga K "Great"
abbrev C_Lst (K : PySem.W.Frag) : Addr := ga K "Least"
abbrev C_Mst (K : PySem.W.Frag) : Addr := ga K "Most"
/-- a Fewest stands at x: its lists at p and q -/
def FewAt (K : PySem.W.Frag) (H : Hp) (x p q : Addr) (xs ys : List V) : Prop := ∃ dx, H x = some (.ins (C_Few K) dx (fFew p q)) ∧ H p = some (.lst xs) ∧ H q = some (.lst ys)
def GrAt (K : PySem.W.Frag) (H : Hp) (x : Addr) (v : V) : Prop := ∃ dx, H x = some (.ins (C_Gr K) dx (fGr v))
def LstAt (K : PySem.W.Frag) (H : Hp) (x p : Addr) (v : V) (q : Addr) (xs ys : List V) : Prop := ∃ dx, H x = some (.ins (C_Lst K) dx (fLst p v q)) ∧ H p = some (.lst xs) ∧ H q = some (.lst ys)
def MstAt (K : PySem.W.Frag) (H : Hp) (x p q : Addr) (xs ys : List V) : Prop := ∃ dx, H x = some (.ins (C_Mst K) dx (fMst p q)) ∧ H p = some (.lst xs) ∧ H q = some (.lst ys)
section
variable {H H' : Hp} {x p q : Addr} {xs ys : List V} {v : V}
theorem FewAt.mono (e : Ex H H') (h : FewAt K H x p q xs ys) : FewAt K H' x p q xs ys := let ⟨dx, a, b, c⟩ := h; ⟨dx, e _ _ a, e _ _ b, e _ _ c⟩
theorem GrAt.mono (e : Ex H H') (h : GrAt K H x v) : GrAt K H' x v := let ⟨dx, a⟩ := h; ⟨dx, e _ _ a⟩
theorem LstAt.mono (e : Ex H H') (h : LstAt K H x p v q xs ys) : LstAt K H' x p v q xs ys := let ⟨dx, a, b, c⟩ := h; ⟨dx, e _ _ a, e _ _ b, e _ _ c⟩
theorem MstAt.mono (e : Ex H H') (h : MstAt K H x p q xs ys) : MstAt K H' x p q xs ys := let ⟨dx, a, b, c⟩ := h; ⟨dx, e _ _ a, e _ _ b, e _ _ c⟩
end
def RFew (K : PySem.W.Frag) (xs ys : List V) : RF := fun H1 v H2 => ∃ x p q, v = .ref x ∧ H1 x = none ∧ H1 p = none ∧ H1 q = none ∧ p ≠ q ∧ FewAt K H2 x p q xs ys
def RGr (K : PySem.W.Frag) (z : V) : RF := fun H1 v H2 => ∃ x, v = .ref x ∧ H1 x = none ∧ GrAt K H2 x z
def RLst (K : PySem.W.Frag) (xs : List V) (z : V) (ys : List V) : RF := fun H1 v H2 => ∃ x p q, v = .ref x ∧ H1 x = none ∧ H1 p = none ∧ H1 q = none ∧ p ≠ q ∧ LstAt K H2 x p z q xs ys
def RMst (K : PySem.W.Frag) (xs ys : List V) : RF := fun H1 v H2 => ∃ x p q, v = .ref x ∧ H1 x = none ∧ H1 p = none ∧ H1 q = none ∧ p ≠ q ∧ MstAt K H2 x p q xs ys
theorem anti_Few {xs ys : List V} : Anti (RFew K xs ys) := fun H H1 v H2 e ⟨x, p, q, h, h1, h2, h3, h4⟩ => ⟨x, p, q, h, fresh_back e h1, fresh_back e h2, fresh_back e h3, h4⟩
theorem anti_Gr {z : V} : Anti (RGr K z) := fun H H1 v H2 e ⟨x, h, h1, h2⟩ => ⟨x, h, fresh_back e h1, h2⟩
theorem anti_Lst {xs ys : List V} {z : V} : Anti (RLst K xs z ys) := fun H H1 v H2 e ⟨x, p, q, h, h1, h2, h3, h4⟩ => ⟨x, p, q, h, fresh_back e h1, fresh_back e h2, fresh_back e h3, h4⟩
theorem anti_Mst {xs ys : List V} : Anti (RMst K xs ys) := fun H H1 v H2 e ⟨x, p, q, h, h1, h2, h3, h4⟩ => ⟨x, p, q, h, fresh_back e h1, fresh_back e h2, fresh_back e h3, h4⟩
/-! ### the promises -/
def F_are_linked (_ : PySem.W.Frag) : VF := fun vs H z => ∃ (a s : Addr) (ns : List Int) (xs : List V) (ps : List (Int × Int)) (b : Int), vs = [.ref a, .ref s, .int b] ∧ H a = some (.lst (ns.map V.int)) ∧ H s = some (.lst xs) ∧ Prs H xs ps ∧ ns.length ≤ 1000 ∧ z = .bl (lnkB ns 0 ps b)
def sp_are_linked (K : PySem.W.Frag) : Sp := Pv (F_are_linked K)
theorem m_are_linked : MonoV (F_are_linked K) := fun vs H H1 z e ⟨a, s, ns, xs, ps, b, h1, h2, h3, h4, h5⟩ => ⟨a, s, ns, xs, ps, b, h1, e _ _ h2, e _ _ h3, h4.mono e, h5⟩
def F_are_places (_ : PySem.W.Frag) : VF := fun vs H z => ∃ (a : Addr) (cs : List Int) (m : Int), vs = [.ref a, .int m] ∧ H a = some (.lst (cs.map V.int)) ∧ z = .bl (risB (-1) cs m)
def sp_are_places (K : PySem.W.Frag) : Sp := Pv (F_are_places K)
theorem m_are_places : MonoV (F_are_places K) := fun vs H H1 z e ⟨a, ns, m, h1, h2, h3⟩ => ⟨a, ns, m, h1, e _ _ h2, h3⟩
def sp_Fewest___init__ (K : PySem.W.Frag) : Sp := fun vs H Q _ => ∃ (x dx c s : Addr) (xs ys : List V), vs = [.ref x, .ref c, .ref s] ∧ H x = some (.ins (C_Few K) dx []) ∧ H c = some (.lst xs) ∧ H s = some (.lst ys) ∧
  ∀ H' p q, Exx x H H' → H p = none → H q = none → p ≠ q → FewAt K H' x p q xs ys → Q .non H'
def sp_Great___init__ (K : PySem.W.Frag) : Sp := fun vs H Q _ => ∃ (x dx : Addr) (v : V), vs = [.ref x, v] ∧ H x = some (.ins (C_Gr K) dx []) ∧ ∀ H', Exx x H H' → GrAt K H' x v → Q .non H'
def sp_Least___init__ (K : PySem.W.Frag) : Sp := fun vs H Q _ => ∃ (x dx c s : Addr) (v : V) (xs ys : List V), vs = [.ref x, .ref c, v, .ref s] ∧ H x = some (.ins (C_Lst K) dx []) ∧ H c = some (.lst xs) ∧ H s = some (.lst ys) ∧
  ∀ H' p q, Exx x H H' → H p = none → H q = none → p ≠ q → LstAt K H' x p v q xs ys → Q .non H'
def sp_Most___init__ (K : PySem.W.Frag) : Sp := fun vs H Q _ => ∃ (x dx c s : Addr) (xs ys : List V), vs = [.ref x, .ref c, .ref s] ∧ H x = some (.ins (C_Mst K) dx []) ∧ H c = some (.lst xs) ∧ H s = some (.lst ys) ∧
  ∀ H' p q, Exx x H H' → H p = none → H q = none → p ≠ q → MstAt K H' x p q xs ys → Q .non H'
def F_Fewest_shows (K : PySem.W.Frag) : VF := fun vs H z => ∃ (x p q a : Addr) (cs : List Int) (ys : List V) (ps : List (Int × Int)) (ns : List Int) (b : Int), vs = [.ref x, .ref a, .int b] ∧ FewAt K H x p q (cs.map V.int) ys ∧ Prs H ys ps ∧ H a = some (.lst (ns.map V.int)) ∧ ns.length ≤ 1000 ∧ cs.length ≤ 1000 ∧ z = .bl (showsFew ns b cs ps)
def sp_Fewest_shows (K : PySem.W.Frag) : Sp := Pv (F_Fewest_shows K)
theorem m_Fewest_shows : MonoV (F_Fewest_shows K) := fun vs H H1 z e ⟨x, p, q, a, cs, ys, ps, ns, b, h1, h2, h3, h4, h5⟩ => ⟨x, p, q, a, cs, ys, ps, ns, b, h1, h2.mono e, h3.mono e, e _ _ h4, h5⟩
def F_Great_shows (K : PySem.W.Frag) : VF := fun vs H z => ∃ (x a : Addr) (p : Int) (ns : List Int) (b : Int), vs = [.ref x, .ref a, .int b] ∧ GrAt K H x (.int p) ∧ H a = some (.lst (ns.map V.int)) ∧ z = .bl (showsGr ns b p)
def sp_Great_shows (K : PySem.W.Frag) : Sp := Pv (F_Great_shows K)
theorem m_Great_shows : MonoV (F_Great_shows K) := fun vs H H1 z e ⟨x, a, p, ns, b, h1, h2, h3, h4⟩ => ⟨x, a, p, ns, b, h1, h2.mono e, e _ _ h3, h4⟩
def F_Least_shows (K : PySem.W.Frag) : VF := fun vs H z => ∃ (x p q a : Addr) (k : Int) (cs : List Int) (ys : List V) (ps : List (Int × Int)) (ns : List Int) (m : Int), vs = [.ref x, .ref a, .int m] ∧ LstAt K H x p (.int k) q (cs.map V.int) ys ∧ Prs H ys ps ∧ H a = some (.lst (ns.map V.int)) ∧ ns.length ≤ 1000 ∧ cs.length ≤ 1000 ∧ z = .bl (showsLst ns m cs k ps)
def sp_Least_shows (K : PySem.W.Frag) : Sp := Pv (F_Least_shows K)
theorem m_Least_shows : MonoV (F_Least_shows K) := fun vs H H1 z e ⟨x, p, q, a, k, cs, ys, ps, ns, m, h1, h2, h3, h4, h5⟩ => ⟨x, p, q, a, k, cs, ys, ps, ns, m, h1, h2.mono e, h3.mono e, e _ _ h4, h5⟩
def F_Most_shows (K : PySem.W.Frag) : VF := fun vs H z => ∃ (x p q a : Addr) (cs ps : List Int) (ns : List Int) (b : Int), vs = [.ref x, .ref a, .int b] ∧ MstAt K H x p q (cs.map V.int) (ps.map V.int) ∧ H a = some (.lst (ns.map V.int)) ∧ ns.length ≤ 1000 ∧ cs.length ≤ 1000 ∧ ps.length ≤ 1000 ∧ z = .bl (showsMst ns b cs ps)
def sp_Most_shows (K : PySem.W.Frag) : Sp := Pv (F_Most_shows K)
theorem m_Most_shows : MonoV (F_Most_shows K) := fun vs H H1 z e ⟨x, p, q, a, cs, ps, ns, b, h1, h2, h3, h4⟩ => ⟨x, p, q, a, cs, ps, ns, b, h1, h2.mono e, e _ _ h3, h4⟩
/-! ### making them -/
section
variable {σ : L2.St} {H : Hp} {ta tb tc : TE}
theorem ex_mkFew {xs ys : List V} (ha : EvRL ta σ H xs) (hb : EvRL tb σ H ys) : EvX (tMake (C_Few K) (sp_Fewest___init__ K) [] E0 (tCons ta (tCons tb tNil))) σ H (RFew K xs ys) := fun H1 e Q q =>
  ha H1 e _ fun c H2 e2 hc => hb H2 (e.trans e2) _ fun s H3 e3 hs => fun x dx nx nd ne => by
    have e13 := e2.trans e3
    have em : Ex H3 (upd (upd H3 dx (.own x)) x (.ins (C_Few K) dx [])) := Exx.made nx nd (fun _ _ h _ => h)
    refine ⟨x, dx, c, s, xs, ys, rfl, upd_same, em _ _ (e3 _ _ hc), em _ _ hs, fun H' p q' ex hp hq hpq hat => ⟨rfl, q _ _ (e13.trans (Exx.made nx nd ex)) ⟨x, p, q', rfl, fresh_back e13 nx, fresh_back (e13.trans em) hp, fresh_back (e13.trans em) hq, hpq, hat⟩⟩⟩
theorem ex_mkGr {v : V} (ha : Ev ta σ H v) : EvX (tMake (C_Gr K) (sp_Great___init__ K) [] E0 (tCons ta tNil)) σ H (RGr K v) := fun H1 e Q q =>
  ha H1 e _ fun H3 e13 => fun x dx nx nd ne => ⟨x, dx, v, rfl, upd_same, fun H' ex hat => ⟨rfl, q _ _ (e13.trans (Exx.made nx nd ex)) ⟨x, rfl, fresh_back e13 nx, hat⟩⟩⟩
theorem ex_mkLst {v : V} {xs ys : List V} (ha : EvRL ta σ H xs) (hb : Ev tb σ H v) (hd : EvRL tc σ H ys) : EvX (tMake (C_Lst K) (sp_Least___init__ K) [] E0 (tCons ta (tCons tb (tCons tc tNil)))) σ H (RLst K xs v ys) := fun H1 e Q q =>
  ha H1 e _ fun c H2 e2 hc => hb H2 (e.trans e2) _ fun H3 e3 => hd H3 ((e.trans e2).trans e3) _ fun s H4 e4 hs => fun x dx nx nd ne => by
    have e13 := (e2.trans e3).trans e4
    have em : Ex H4 (upd (upd H4 dx (.own x)) x (.ins (C_Lst K) dx [])) := Exx.made nx nd (fun _ _ h _ => h)
    refine ⟨x, dx, c, s, v, xs, ys, rfl, upd_same, em _ _ ((e3.trans e4) _ _ hc), em _ _ hs, fun H' p q' ex hp hq hpq hat => ⟨rfl, q _ _ (e13.trans (Exx.made nx nd ex)) ⟨x, p, q', rfl, fresh_back e13 nx, fresh_back (e13.trans em) hp, fresh_back (e13.trans em) hq, hpq, hat⟩⟩⟩
theorem ex_mkMst {xs ys : List V} (ha : EvRL ta σ H xs) (hb : EvRL tb σ H ys) : EvX (tMake (C_Mst K) (sp_Most___init__ K) [] E0 (tCons ta (tCons tb tNil))) σ H (RMst K xs ys) := fun H1 e Q q =>
  ha H1 e _ fun c H2 e2 hc => hb H2 (e.trans e2) _ fun s H3 e3 hs => fun x dx nx nd ne => by
    have e13 := e2.trans e3
    have em : Ex H3 (upd (upd H3 dx (.own x)) x (.ins (C_Mst K) dx [])) := Exx.made nx nd (fun _ _ h _ => h)
    refine ⟨x, dx, c, s, xs, ys, rfl, upd_same, em _ _ (e3 _ _ hc), em _ _ hs, fun H' p q' ex hp hq hpq hat => ⟨rfl, q _ _ (e13.trans (Exx.made nx nd ex)) ⟨x, p, q', rfl, fresh_back e13 nx, fresh_back (e13.trans em) hp, fresh_back (e13.trans em) hq, hpq, hat⟩⟩⟩
end
/-! ### the defs -/
theorem sc_are_linked : FnScope ["row", "stretches", "bound", "sums", "last", "first", "end"] ["row", "stretches", "bound"] (defScope s_are_linked) := ⟨rfl, rfl, rfl, by decide +kernel, rfl, by decide +kernel, by decide +kernel⟩
theorem ok_are_linked (T : Tx K mg) : Kept P w K mg base CX0 2 "are_linked" ["row", "stretches", "bound"] (sp_are_linked K) := by
  have D_sums_of : Kept P w K mg base CX0 1 "sums_of" ["row"] (sp_sums_of K) := ok_sums_of T
  obtain ⟨fd, F⟩ := T.d_are_linked
  refine ⟨⟨fd, F.ok sc_are_linked (fun vs H Q E h => by obtain ⟨_, ⟨_, _, _, _, _, _, rfl, _⟩, _⟩ := h; rfl) (fun cdv A outer s H vs Q E hRm h => ?_), F.bindsN fun _ _ _ _ _ _ us hl => match us, hl with | [_, _, _], _ => rfl⟩, T.g_are_linked, F.kp⟩
  · obtain ⟨z, ⟨a, s, ns, xs, ps, b, rfl, ha, hs, hp, hl, rfl⟩, k⟩ := h
    refine ⟨_, (PSs.nox (pss_cons (ps_set (i := 3) sc_are_linked.nd rfl (Or.inl rfl) (pe_d D_sums_of (hRm.mono (by decide)) (by rfl) (pa_cons (pv 0) pa_nil))) (pss_cons (ps_set (i := 4) sc_are_linked.nd rfl (Or.inl rfl) pe_int) (pss_cons (ps_for PassesOwn.never rfl (pi_list (pv 1)) (pg_tup (by rfl) (pgs_cons (pg_name (i := 5) sc_are_linked.nd rfl (Or.inl rfl)) (pgs_cons (pg_name (i := 6) sc_are_linked.nd rfl (Or.inl rfl)) pgs_nil))) (pss_cons (ps_if (PW.pt (pw_or (pt_not (pt_chain3 op_le op_lt op_lt (pv 4) (pv 5) (pv 6) (pe_callB call_len_seq (by rfl) T.z_len bo_len (pa_cons (pv 0) pa_nil)))) (pw_or1 (pt_cmpR op_le (pe_op op_sub (pe_ix ix_list (pv 3) (pe_op op_add (pv 6) pe_int) (fun _ _ => rfl)) (pe_ix ix_list (pv 3) (pv 5) (fun _ _ => rfl))) (pv 2) (nomark _))))) (pss_one (ps_ret pe_bl)) pss_nil) (pss_one (ps_set (i := 4) sc_are_linked.nd rfl (Or.inl rfl) (pv 6))))) (pss_one (ps_ret pe_bl)))))), ?_⟩
    refine q_asgL (el_callL m_sums_of (ea_cons (ev_var rfl) ea_nil) ⟨a, ns, rfl, ha, hl, rfl⟩) fun S H1 hS0 e1 hS => ?_
    refine q_asg ev_c fun H2 e2 => ?_
    have hS2 := e2 _ _ hS
    have e12 := e1.trans e2
    refine q_forPr (ev_var rfl) (sq_of (e12 _ _ hs)) (hp.mono e12) (fun i σ' H' => ∃ l v5 v6, σ' = [some (.ref a), some (.ref s), some (.int b), some (.ref S), some (.int l), v5, v6] ∧ Ex H2 H' ∧ 0 ≤ l ∧ lnkB ns 0 ps b = lnkB ns l (ps.drop i) b) (fun H3 e3 => ⟨0, none, none, rfl, e3, Int.le_refl _, rfl⟩) (fun i σ' H' _ ⟨_, _, _, _, e, _⟩ => e) ?_ ?_
    · rintro i ⟨f, d⟩ σ' H' hi ⟨l, v5, v6, rfl, e, hl0, hr⟩
      rw [drop_at hi] at hr
      have ha' := (e12.trans e) _ _ ha
      have hS' := e _ _ hS2
      refine q_when (b := !((decide (l ≤ f) && (decide (f < d) && decide (d < ns.length))) && !decide (psm ns (d + 1) - psm ns f ≤ b)))
        (et_is (et_or (et_not (et_ch3 (s := decide (d < ns.length)) (ev_var rfl) (ev_var rfl) rv_I0 (fun _ => ev_var rfl) (fun _ => rv_I0) (fun _ _ => ev_is (ev_ln (ev_var rfl) (.inl (sq_of ha'))) (by rw [List.length_map])) fun _ _ => rv_I0)) fun hb =>
          et_test (ev_op (ev_op (ev_ixI (n := psm ns (d + 1)) (ev_var rfl) (sq_of hS') (ev_op (ev_var rfl) ev_c rv_I0) ?_ ?_) (ev_ixI (n := psm ns f) (ev_var rfl) (sq_of hS') (ev_var rfl) ?_ ?_) rv_I0) (ev_var rfl) rv_I0)) (by simp)) (fun hb H3 e3 => s_ret ev_c fun H4 e4 => ?_) fun hb H3 e3 => s_asg (ev_var rfl) fun H4 e4 => ⟨d, _, _, rfl, (e.trans e3).trans e4, ?_, ?_⟩
      · simp at hb
        omega
      · simp at hb
        exact psums_at (by omega)
      · simp at hb
        omega
      · simp at hb
        exact psums_at (by omega)
      · have e0 : lnkB ns 0 ps b = false := by
          rw [hr, lnkB]
          rw [Bool.not_eq_true'] at hb
          rw [hb, Bool.false_and]
        rw [e0] at k
        exact k _ (((e12.trans e).trans e3).trans e4)
      · simp at hb
        omega
      · rw [hr, lnkB]
        rw [Bool.not_eq_false'] at hb
        rw [hb, Bool.true_and]
    · rintro σ' H' ⟨l, v5, v6, rfl, e, hl0, hr⟩
      refine s_ret ev_c fun H3 e3 => ?_
      have e0 : lnkB ns 0 ps b = true := by
        rw [hr, List.drop_eq_nil_of_le (Nat.le_refl _)]
        rfl
      rw [e0] at k
      exact k _ ((e12.trans e).trans e3)
theorem sc_are_places : FnScope ["places", "many", "last", "place"] ["places", "many"] (defScope s_are_places) := ⟨rfl, rfl, rfl, by decide +kernel, rfl, by decide +kernel, by decide +kernel⟩
theorem ok_are_places (T : Tx K mg) : Kept P w K mg base CX0 2 "are_places" ["places", "many"] (sp_are_places K) := by
  have D_is_whole : Kept P w K mg base CX0 1 "is_whole" ["thing"] (sp_is_whole K) := ok_is_whole T
  obtain ⟨fd, F⟩ := T.d_are_places
  refine ⟨⟨fd, F.ok sc_are_places (fun vs H Q E h => by obtain ⟨_, ⟨_, _, _, rfl, _⟩, _⟩ := h; rfl) (fun cdv A outer s H vs Q E hRm h => ?_), F.bindsN fun _ _ _ _ _ _ us hl => match us, hl with | [_, _], _ => rfl⟩, T.g_are_places, F.kp⟩
  · obtain ⟨z, ⟨a, cs, m, rfl, ha, rfl⟩, k⟩ := h
    refine ⟨_, (PSs.nox (pss_cons (ps_set (i := 2) sc_are_places.nd rfl (Or.inl rfl) (pe_un un_neg pe_int)) (pss_cons (ps_for PassesOwn.never rfl (pi_list (pv 0)) (pg_name (i := 3) sc_are_places.nd rfl (Or.inl rfl)) (pss_cons (ps_if (PW.pt (pw_or (pt_not (pt_val (pe_d D_is_whole (hRm.mono (by decide)) (by rfl) (pa_cons (pv 3) pa_nil)))) (pw_or1 (pt_not (pt_chain op_lt op_lt (pv 2) (pv 3) (pv 1)))))) (pss_one (ps_ret pe_bl)) pss_nil) (pss_one (ps_set (i := 2) sc_are_places.nd rfl (Or.inl rfl) (pv 3))))) (pss_one (ps_ret pe_bl))))), ?_⟩
    refine q_asg (v := .int (-1)) (ev_un ev_c ru_neg) fun H1 e1 => ?_
    refine q_forLn (ev_var rfl) (sq_of (e1 _ _ ha)) (fun i σ' H' => ∃ l v, σ' = [some (.ref a), some (.int m), some (.int l), v] ∧ Ex H H' ∧ risB (-1) cs m = risB l (cs.drop i) m) (fun H2 e2 => ⟨-1, none, rfl, e1.trans e2, rfl⟩) (fun i σ' H' _ ⟨_, _, _, e, _⟩ => sq_of (e _ _ ha)) ?_ ?_
    · rintro i x σ' H' hi ⟨l, v, rfl, e, hr⟩
      obtain ⟨c, rfl, hc⟩ := int_at hi
      rw [drop_at hc] at hr
      refine q_when (b := !(decide (l < c) && decide (c < m))) (et_is (et_or (et_not (et_B (ev_callV m_is_whole (ea_cons (ev_var rfl) ea_nil) F_is_whole_int))) fun _ => et_not (et_ch (ev_var rfl) (ev_var rfl) rv_I0 (fun _ => ev_var rfl) fun _ => rv_I0)) (by simp)) (fun hb H2 e2 => s_ret ev_c fun H3 e3 => ?_) fun hb H2 e2 => s_asg (ev_var rfl) fun H3 e3 => ⟨c, _, rfl, (e.trans e2).trans e3, ?_⟩
      · have e0 : risB (-1) cs m = false := by
          rw [hr, risB]
          rw [Bool.not_eq_true'] at hb
          rw [hb, Bool.false_and]
        rw [e0] at k
        exact k _ ((e.trans e2).trans e3)
      · rw [hr, risB]
        rw [Bool.not_eq_false'] at hb
        rw [hb, Bool.true_and]
    · rintro σ' H' ⟨l, v, rfl, e, hr⟩
      refine s_ret ev_c fun H3 e3 => ?_
      have e0 : risB (-1) cs m = true := by
        rw [hr, List.drop_eq_nil_of_le (by rw [List.length_map]; exact Nat.le_refl _)]
        rfl
      rw [e0] at k
      exact k _ (e.trans e3)
theorem sc_Fewest___init__ : FnScope ["self", "cuts", "stretches"] ["self", "cuts", "stretches"] (defScope s_Fewest___init__) := ⟨rfl, rfl, rfl, by decide +kernel, rfl, by decide +kernel, by decide +kernel⟩
theorem ok_Fewest___init__ (T : Tx K mg) : KeptM P w K mg base CX0 1 "Fewest" "__init__" ["self", "cuts", "stretches"] (sp_Fewest___init__ K) := by
  obtain ⟨fd, F⟩ := T.d_Fewest___init__
  refine ⟨⟨fd, F.ok sc_Fewest___init__ (fun vs H Q E h => by obtain ⟨_, _, _, _, _, _, rfl, _⟩ := h; rfl) (fun cdv A outer s H vs Q E hRm h => ?_), F.bindsN fun _ _ _ _ _ _ us hl => match us, hl with | [_, _, _], _ => rfl⟩, F.kp⟩
  · obtain ⟨x, dx, c, s, xs, ys, rfl, hx, hc, hs, k⟩ := h
    refine ⟨_, (PSs.nox (pss_cons (ps_fld (pv 0) (pe_callTy call_list_of (by rfl) T.z_list bo_list (pa_cons (pv 1) pa_nil)) rfl) (pss_one (ps_fld (pv 0) (pe_callTy call_list_of (by rfl) T.z_list bo_list (pa_cons (pv 2) pa_nil)) rfl)))), ?_⟩
    refine q_fldL hx (el_ls (ev_var rfl) (.inl (sq_of hc))) (ev_var rfl) T.cls_Fewest T.na_Fewest_cuts (by decide) fun p H1 hp e1 h1 => ?_
    have ncx : s ≠ x := ne_of hs hx (by intro z; cases z)
    have npx : p ≠ x := (ne_of_none hx hp).symm
    have hs1 : upd H1 x (.ins (ga K "Fewest") dx (putF "cuts" (.ref p) [])) s = some (.lst ys) := by rw [upd_ne ncx]; exact e1 _ _ hs
    refine s_fldL upd_same (el_ls (ev_var rfl) (.inl (sq_of hs1))) (ev_var rfl) T.cls_Fewest T.na_Fewest_stretches (Nat.lt_of_le_of_lt (putF_len _ _ _) (by decide)) fun q H2 hq e2 h2 => ?_
    have hp1 : upd H1 x (.ins (ga K "Fewest") dx (putF "cuts" (.ref p) [])) p = some (.lst xs) := by rw [upd_ne npx]; exact h1
    have hqx : q ≠ x := (ne_of_none upd_same hq).symm
    have hpq : p ≠ q := ne_of_none hp1 hq
    have hq1 : H1 q = none := by rw [upd_ne hqx] at hq; exact hq
    refine k _ p q ((Exx.put e1).trans (Exx.put e2)) hp (fresh_back e1 hq1) hpq ⟨dx, upd_same, ?_, ?_⟩
    · rw [upd_ne npx]
      exact e2 _ _ hp1
    · rw [upd_ne hqx]
      exact h2
theorem sc_Great___init__ : FnScope ["self", "place"] ["self", "place"] (defScope s_Great___init__) := ⟨rfl, rfl, rfl, by decide +kernel, rfl, by decide +kernel, by decide +kernel⟩
theorem ok_Great___init__ (T : Tx K mg) : KeptM P w K mg base CX0 1 "Great" "__init__" ["self", "place"] (sp_Great___init__ K) := by
  obtain ⟨fd, F⟩ := T.d_Great___init__
  refine ⟨⟨fd, F.ok sc_Great___init__ (fun vs H Q E h => by obtain ⟨_, _, _, rfl, _⟩ := h; rfl) (fun cdv A outer s H vs Q E hRm h => ?_), F.bindsN fun _ _ _ _ _ _ us hl => match us, hl with | [_, _], _ => rfl⟩, F.kp⟩
  · obtain ⟨x, dx, v, rfl, hx, k⟩ := h
    refine ⟨_, (PSs.nox (pss_one (ps_fld (pv 0) (pv 1) rfl))), ?_⟩
    exact s_fldV hx (ev_var rfl) (ev_var rfl) T.cls_Great T.na_Great_place (by decide) fun H1 e1 => k _ (Exx.put e1) ⟨dx, upd_same⟩
theorem sc_Least___init__ : FnScope ["self", "cuts", "number", "stretches"] ["self", "cuts", "number", "stretches"] (defScope s_Least___init__) := ⟨rfl, rfl, rfl, by decide +kernel, rfl, by decide +kernel, by decide +kernel⟩
theorem ok_Least___init__ (T : Tx K mg) : KeptM P w K mg base CX0 1 "Least" "__init__" ["self", "cuts", "number", "stretches"] (sp_Least___init__ K) := by
  obtain ⟨fd, F⟩ := T.d_Least___init__
  refine ⟨⟨fd, F.ok sc_Least___init__ (fun vs H Q E h => by obtain ⟨_, _, _, _, _, _, _, rfl, _⟩ := h; rfl) (fun cdv A outer s H vs Q E hRm h => ?_), F.bindsN fun _ _ _ _ _ _ us hl => match us, hl with | [_, _, _, _], _ => rfl⟩, F.kp⟩
  · obtain ⟨x, dx, c, s, v, xs, ys, rfl, hx, hc, hs, k⟩ := h
    refine ⟨_, (PSs.nox (pss_cons (ps_fld (pv 0) (pe_callTy call_list_of (by rfl) T.z_list bo_list (pa_cons (pv 1) pa_nil)) rfl) (pss_cons (ps_fld (pv 0) (pv 2) rfl) (pss_one (ps_fld (pv 0) (pe_callTy call_list_of (by rfl) T.z_list bo_list (pa_cons (pv 3) pa_nil)) rfl))))), ?_⟩
    refine q_fldL hx (el_ls (ev_var rfl) (.inl (sq_of hc))) (ev_var rfl) T.cls_Least T.na_Least_cuts (by decide) fun p H1 hp e1 h1 => ?_
    have ncx : s ≠ x := ne_of hs hx (by intro z; cases z)
    have npx : p ≠ x := (ne_of_none hx hp).symm
    have hs1 : upd H1 x (.ins (ga K "Least") dx (putF "cuts" (.ref p) [])) s = some (.lst ys) := by rw [upd_ne ncx]; exact e1 _ _ hs
    have hp1 : upd H1 x (.ins (ga K "Least") dx (putF "cuts" (.ref p) [])) p = some (.lst xs) := by rw [upd_ne npx]; exact h1
    refine q_fldV upd_same (ev_var rfl) (ev_var rfl) T.cls_Least T.na_Least_number (Nat.lt_of_le_of_lt (putF_len _ _ _) (by decide)) fun H2 e2 => ?_
    have hs2 : upd H2 x (.ins (ga K "Least") dx (putF "number" v (putF "cuts" (.ref p) []))) s = some (.lst ys) := by rw [upd_ne ncx]; exact e2 _ _ hs1
    have hp2 : upd H2 x (.ins (ga K "Least") dx (putF "number" v (putF "cuts" (.ref p) []))) p = some (.lst xs) := by rw [upd_ne npx]; exact e2 _ _ hp1
    refine s_fldL upd_same (el_ls (ev_var rfl) (.inl (sq_of hs2))) (ev_var rfl) T.cls_Least T.na_Least_stretches (Nat.lt_of_le_of_lt (putF_len _ _ _) (Nat.lt_of_le_of_lt (Nat.succ_le_succ (putF_len _ _ _)) (by decide))) fun q H3 hq e3 h3 => ?_
    have hqx : q ≠ x := (ne_of_none upd_same hq).symm
    have hpq : p ≠ q := ne_of_none hp2 hq
    have hq2 : H2 q = none := by rw [upd_ne hqx] at hq; exact hq
    have hq1 : H1 q = none := by
      have z := fresh_back e2 hq2
      rw [upd_ne hqx] at z
      exact z
    refine k _ p q (((Exx.put e1).trans (Exx.put e2)).trans (Exx.put e3)) hp (fresh_back e1 hq1) hpq ⟨dx, upd_same, ?_, ?_⟩
    · rw [upd_ne npx]
      exact e3 _ _ hp2
    · rw [upd_ne hqx]
      exact h3
theorem sc_Most___init__ : FnScope ["self", "cuts", "places"] ["self", "cuts", "places"] (defScope s_Most___init__) := ⟨rfl, rfl, rfl, by decide +kernel, rfl, by decide +kernel, by decide +kernel⟩
theorem ok_Most___init__ (T : Tx K mg) : KeptM P w K mg base CX0 1 "Most" "__init__" ["self", "cuts", "places"] (sp_Most___init__ K) := by
  obtain ⟨fd, F⟩ := T.d_Most___init__
  refine ⟨⟨fd, F.ok sc_Most___init__ (fun vs H Q E h => by obtain ⟨_, _, _, _, _, _, rfl, _⟩ := h; rfl) (fun cdv A outer s H vs Q E hRm h => ?_), F.bindsN fun _ _ _ _ _ _ us hl => match us, hl with | [_, _, _], _ => rfl⟩, F.kp⟩
  · obtain ⟨x, dx, c, s, xs, ys, rfl, hx, hc, hs, k⟩ := h
    refine ⟨_, (PSs.nox (pss_cons (ps_fld (pv 0) (pe_callTy call_list_of (by rfl) T.z_list bo_list (pa_cons (pv 1) pa_nil)) rfl) (pss_one (ps_fld (pv 0) (pe_callTy call_list_of (by rfl) T.z_list bo_list (pa_cons (pv 2) pa_nil)) rfl)))), ?_⟩
    refine q_fldL hx (el_ls (ev_var rfl) (.inl (sq_of hc))) (ev_var rfl) T.cls_Most T.na_Most_cuts (by decide) fun p H1 hp e1 h1 => ?_
    have ncx : s ≠ x := ne_of hs hx (by intro z; cases z)
    have npx : p ≠ x := (ne_of_none hx hp).symm
    have hs1 : upd H1 x (.ins (ga K "Most") dx (putF "cuts" (.ref p) [])) s = some (.lst ys) := by rw [upd_ne ncx]; exact e1 _ _ hs
    refine s_fldL upd_same (el_ls (ev_var rfl) (.inl (sq_of hs1))) (ev_var rfl) T.cls_Most T.na_Most_places (Nat.lt_of_le_of_lt (putF_len _ _ _) (by decide)) fun q H2 hq e2 h2 => ?_
    have hp1 : upd H1 x (.ins (ga K "Most") dx (putF "cuts" (.ref p) [])) p = some (.lst xs) := by rw [upd_ne npx]; exact h1
    have hqx : q ≠ x := (ne_of_none upd_same hq).symm
    have hpq : p ≠ q := ne_of_none hp1 hq
    have hq1 : H1 q = none := by rw [upd_ne hqx] at hq; exact hq
    refine k _ p q ((Exx.put e1).trans (Exx.put e2)) hp (fresh_back e1 hq1) hpq ⟨dx, upd_same, ?_, ?_⟩
    · rw [upd_ne npx]
      exact e2 _ _ hp1
    · rw [upd_ne hqx]
      exact h2

end
end Ct
namespace Ct
open PySem PySem.Spec PyProof.Rows L2 Evl
open He (ga ma)
section
variable {P : Program} {w : World} {K : PySem.W.Frag} {mg : Str → Option Value} {base : Heap}
/-! ### plain: rows filled -/
def fillG (b : Int) : Int → Int → Int → List Int → List Int × List (Int × Int)
  | _, _, _, [] => ([], [])
  | i, f, t, n :: r => if b < t + n then (i :: (fillG b (i + 1) i n r).1, (f, i) :: (fillG b (i + 1) i n r).2) else fillG b (i + 1) f (t + n) r
theorem psm_zero (ns : List Int) : psm ns 0 = 0 := by simp [psm]
theorem psm_all (ns : List Int) : psm ns ns.length = ns.sum := by simp [psm]
theorem psm_step {ns pre r : List Int} {n : Int} {i : Nat} (e : ns = pre ++ n :: r) (hp : pre.length = i) : psm ns ((i : Int) + 1) = psm ns i + n := by
  unfold psm
  have h1 : ns.take (i + 1) = pre ++ [n] := by
    have e2 : ns = (pre ++ [n]) ++ r := by rw [e, List.append_assoc]; rfl
    rw [e2, show i + 1 = (pre ++ [n]).length by rw [List.length_append, hp]; rfl, List.take_left]
  have h2 : ns.take i = pre := by rw [e, ← hp, List.take_left]
  rw [show ((i : Int) + 1).toNat = i + 1 by omega, Int.toNat_natCast, h1, h2, List.sum_append, List.sum_singleton]
theorem psm_mono {ns : List Int} (h : ∀ n ∈ ns, 0 ≤ n) {x y : Int} (hxy : x ≤ y) : psm ns x ≤ psm ns y := by
  unfold psm
  have e : ns.take y.toNat = ns.take x.toNat ++ (ns.take y.toNat).drop x.toNat := by
    have h1 := List.take_append_drop x.toNat (ns.take y.toNat)
    rw [List.take_take, Nat.min_eq_left (by omega)] at h1
    exact h1.symm
  rw [e, List.sum_append]
  have := sum_nn (ns := (ns.take y.toNat).drop x.toNat) fun n hn => h n (List.mem_of_mem_take (List.mem_of_mem_drop hn))
  omega
theorem fill_ok (ns : List Int) (b : Int) : ∀ (r : List Int) (i : Nat) (pre : List Int) (f t : Int), ns = pre ++ r → pre.length = i → (∀ n ∈ r, 0 ≤ n ∧ n ≤ b) → 0 ≤ f → f ≤ i → t = psm ns i - psm ns f → t ≤ b →
    risB ((i : Int) - 1) (fillG b i f t r).1 ns.length = true ∧ lnkB ns f (fillG b i f t r).2 b = true ∧ (fillG b i f t r).1.length = (fillG b i f t r).2.length ∧ (∀ x ∈ seg ns f (fillG b i f t r).1 ns.length, x ≤ b)
  | [], i, pre, f, t, e, hp, hn, hf0, hf, ht, htb => by
    refine ⟨rfl, rfl, rfl, fun x hx => ?_⟩
    have hl : (ns.length : Int) = i := by rw [e, List.append_nil, hp]
    have hx2 := List.mem_singleton.mp (show x ∈ [psm ns ns.length - psm ns f] from hx)
    rw [hl] at hx2
    omega
  | n :: r, i, pre, f, t, e, hp, hn, hf0, hf, ht, htb => by
    have e2 : ns = (pre ++ [n]) ++ r := by rw [e, List.append_assoc]; rfl
    have hp2 : (pre ++ [n]).length = i + 1 := by rw [List.length_append, hp]; rfl
    have hs := psm_step e hp
    have hn0 := hn n List.mem_cons_self
    have hlen : (i : Int) < ns.length := by
      rw [e, List.length_append, hp, List.length_cons]
      omega
    have hr : ∀ m ∈ r, 0 ≤ m ∧ m ≤ b := fun m hm => hn m (List.mem_cons_of_mem _ hm)
    unfold fillG
    by_cases hc : b < t + n
    · rw [if_pos hc]
      have ih := fill_ok ns b r (i + 1) (pre ++ [n]) i n e2 hp2 hr (by omega) (by omega) (by rw [show (((i + 1 : Nat)) : Int) = (i : Int) + 1 by omega, hs]; omega) hn0.2
      rw [show (((i + 1 : Nat)) : Int) = (i : Int) + 1 by omega] at ih
      obtain ⟨h1, h2, h3, h4⟩ := ih
      have hfi : f < i := by
        rcases Int.lt_or_le f i with z | z
        · exact z
        · have : f = i := by omega
          subst this
          omega
      refine ⟨?_, ?_, ?_, ?_⟩
      · rw [risB, Bool.and_eq_true, Bool.and_eq_true, decide_eq_true_eq, decide_eq_true_eq]
        refine ⟨⟨by omega, hlen⟩, ?_⟩
        rw [show (i : Int) + 1 - 1 = i by omega] at h1
        exact h1
      · rw [lnkB, h2, Bool.and_true]
        simp only [Bool.and_eq_true, decide_eq_true_eq, Bool.not_eq_true', decide_eq_false_iff_not]
        refine ⟨⟨Int.le_refl _, hfi, hlen⟩, ?_⟩
        rw [hs]
        omega
      · rw [List.length_cons, List.length_cons, h3]
      · intro x hx
        rw [seg] at hx
        rcases List.mem_cons.mp hx with z | z
        · omega
        · exact h4 x z
    · rw [if_neg hc]
      have ih := fill_ok ns b r (i + 1) (pre ++ [n]) f (t + n) e2 hp2 hr hf0 (by omega) (by rw [show (((i + 1 : Nat)) : Int) = (i : Int) + 1 by omega, hs]; omega) (by omega)
      rw [show (((i + 1 : Nat)) : Int) = (i : Int) + 1 by omega] at ih
      obtain ⟨h1, h2, h3, h4⟩ := ih
      refine ⟨?_, h2, h3, h4⟩
      exact ris_weak (by omega) h1
def fillC (ns : List Int) (b : Int) : List Int := (fillG b 0 0 0 ns).1
def fillS (ns : List Int) (b : Int) : List (Int × Int) := (fillG b 0 0 0 ns).2
structure FillOk (ns : List Int) (b : Int) (cs : List Int) (ps : List (Int × Int)) : Prop where
  ris : risB 0 cs ns.length = true
  lnk : lnkB ns 0 ps b = true
  len : cs.length = ps.length
  all : ∀ x ∈ partsP ns cs, x ≤ b
theorem fill_is {ns : List Int} {b : Int} (h : ∀ n ∈ ns, 0 ≤ n ∧ n ≤ b) (hb : 0 ≤ b) : FillOk ns b (fillC ns b) (fillS ns b) := by
  obtain ⟨h1, h2, h3, h4⟩ := fill_ok ns b ns 0 [] 0 0 rfl rfl h (Int.le_refl _) (Int.le_refl _) (by simp) hb
  refine ⟨?_, h2, h3, ?_⟩
  · -- the first place is no cut
    cases ns with
    | nil => rfl
    | cons n r =>
      have hn := (h n List.mem_cons_self).2
      have e0 : fillC (n :: r) b = (fillG b 1 0 n r).1 := by
        unfold fillC
        rw [fillG, if_neg (by omega), Int.zero_add, Int.zero_add]
      obtain ⟨g1, _, _, _⟩ := fill_ok (n :: r) b r 1 [n] 0 n rfl rfl (fun m hm => h m (List.mem_cons_of_mem _ hm)) (Int.le_refl _) (by decide) (by simp [psm]) hn
      rw [e0]
      exact g1
  · by_cases h0 : ns = []
    · subst h0
      intro x hx
      cases hx
    · rw [parts_seg h0]
      exact h4
theorem fill_sum {ns : List Int} (h : ∀ n ∈ ns, 0 ≤ n) : ∀ (r : List Int) (i : Int) (f t : Int), (∀ n ∈ r, 0 ≤ n) → t + r.sum ≤ ns.sum → (fillG ns.sum i f t r).1 = []
  | [], _, _, _, _, _ => rfl
  | n :: r, i, f, t, hn, ht => by
    rw [List.sum_cons] at ht
    have h2 := sum_nn (ns := r) fun m hm => hn m (List.mem_cons_of_mem _ hm)
    rw [fillG, if_neg (by omega)]
    exact fill_sum h r (i + 1) f (t + n) (fun m hm => hn m (List.mem_cons_of_mem _ hm)) (by omega)
theorem fillC_sum {ns : List Int} (h : ∀ n ∈ ns, 0 ≤ n) : fillC ns ns.sum = [] := fill_sum h ns 0 0 0 h (by omega)
theorem lnk_take (ns : List Int) (b : Int) : ∀ (ps : List (Int × Int)) (l : Int) (k : Nat), lnkB ns l ps b = true → lnkB ns l (ps.take k) b = true
  | [], l, k, h => by rw [List.take_nil]; exact h
  | p :: r, l, 0, h => rfl
  | p :: r, l, k + 1, h => by
    rw [List.take_succ_cons, lnkB]
    rw [lnkB, Bool.and_eq_true] at h
    rw [h.1, lnk_take ns b r p.2 k h.2]
    rfl
theorem fillG_len (b : Int) : ∀ (r : List Int) (i f t : Int), (fillG b i f t r).1.length ≤ r.length ∧ (fillG b i f t r).2.length ≤ r.length
  | [], _, _, _ => ⟨Nat.le_refl _, Nat.le_refl _⟩
  | n :: r, i, f, t => by
    unfold fillG
    split
    · have := fillG_len b r (i + 1) i n
      simp only [List.length_cons]
      omega
    · have := fillG_len b r (i + 1) f (t + n)
      simp only [List.length_cons]
      omega
/-! ### plain: as many as can be -/
def fullG (b : Int) : Int → Int → List Int → List Int
  | _, _, [] => []
  | i, t, n :: r => if b ≤ t + n then i :: fullG b (i + 1) 0 r else fullG b (i + 1) (t + n) r
def gapSeg (ns : List Int) (l : Int) : List Int → Int → List Int
  | [], e => [psm ns e - psm ns l]
  | p :: r, e => (psm ns p - psm ns l) :: gapSeg ns (p + 1) r e
theorem gapR (ns : List Int) (e : Int) : ∀ (ps : List Int) (l : Int), ((List.range (ps.length + 1)).map fun k => psm ns ((ps ++ [e]).getD k 0) - psm ns ((l :: ps.map (· + 1)).getD k 0)) = gapSeg ns l ps e
  | [], l => rfl
  | p :: r, l => by
    rw [List.length_cons, List.range_succ_eq_map, List.map_cons, List.map_map]
    exact congrArg (List.cons _) (gapR ns e r (p + 1))
theorem gaps_seg (ns ps : List Int) : gapsP ns ps = gapSeg ns 0 ps ns.length := gapR ns ns.length ps 0
def cutsOf (ps : List Int) : List Int := ps.dropLast.map (· + 1)
theorem full_ok {ns : List Int} (b : Int) (h0 : ∀ n ∈ ns, 0 ≤ n) : ∀ (r : List Int) (i : Nat) (pre : List Int) (l t : Int), ns = pre ++ r → pre.length = i → 0 ≤ l → l ≤ i → t = psm ns i - psm ns l → t < b → 1 ≤ b →
    risB ((i : Int) - 1) (fullG b i t r) ns.length = true ∧ (∀ x ∈ gapSeg ns l (fullG b i t r) ns.length, x < b) ∧ (fullG b i t r ≠ [] → ∀ x ∈ seg ns l (cutsOf (fullG b i t r)) ns.length, b ≤ x)
  | [], i, pre, l, t, e, hp, hl0, hl, ht, htb, hb => by
    refine ⟨rfl, fun x hx => ?_, fun z => absurd rfl z⟩
    have hi : (ns.length : Int) = i := by rw [e, List.append_nil, hp]
    have hx2 := List.mem_singleton.mp (show x ∈ [psm ns ns.length - psm ns l] from hx)
    rw [hi] at hx2
    omega
  | n :: r, i, pre, l, t, e, hp, hl0, hl, ht, htb, hb => by
    have e2 : ns = (pre ++ [n]) ++ r := by rw [e, List.append_assoc]; rfl
    have hp2 : (pre ++ [n]).length = i + 1 := by rw [List.length_append, hp]; rfl
    have hs := psm_step e hp
    have hlen : (i : Int) < ns.length := by
      rw [e, List.length_append, hp, List.length_cons]
      omega
    have hcast : (((i + 1 : Nat)) : Int) = (i : Int) + 1 := by omega
    unfold fullG
    by_cases hc : b ≤ t + n
    · rw [if_pos hc]
      have ih := full_ok (ns := ns) b h0 r (i + 1) (pre ++ [n]) (i + 1) 0 e2 hp2 (by omega) (by omega) (by rw [hcast]; omega) (by omega) hb
      rw [hcast] at ih
      obtain ⟨h1, h2, h3⟩ := ih
      refine ⟨?_, ?_, fun _ => ?_⟩
      · rw [risB, Bool.and_eq_true, Bool.and_eq_true, decide_eq_true_eq, decide_eq_true_eq]
        refine ⟨⟨by omega, hlen⟩, ?_⟩
        rw [show (i : Int) + 1 - 1 = i by omega] at h1
        exact h1
      · intro x hx
        rw [gapSeg] at hx
        rcases List.mem_cons.mp hx with z | z
        · omega
        · exact h2 x z
      · cases hf : fullG b (↑i + 1) 0 r with
        | nil =>
          intro x hx
          have hx2 := List.mem_singleton.mp (show x ∈ [psm ns ns.length - psm ns l] from hx)
          have hm := psm_mono h0 (show (i : Int) + 1 ≤ ns.length by omega)
          omega
        | cons q s =>
          rw [hf] at h3
          have h4 := h3 (by simp)
          intro x hx
          have e3 : cutsOf (↑i :: q :: s) = ((i : Int) + 1) :: cutsOf (q :: s) := rfl
          rw [e3, seg] at hx
          rcases List.mem_cons.mp hx with z | z
          · omega
          · exact h4 x z
    · rw [if_neg hc]
      have ih := full_ok (ns := ns) b h0 r (i + 1) (pre ++ [n]) l (t + n) e2 hp2 hl0 (by omega) (by rw [hcast, hs]; omega) (by omega) hb
      rw [hcast] at ih
      obtain ⟨h1, h2, h3⟩ := ih
      exact ⟨ris_weak (by omega) h1, h2, h3⟩
def fullP (ns : List Int) (b : Int) : List Int := fullG b 0 0 ns
theorem fullG_len (b : Int) : ∀ (r : List Int) (i t : Int), (fullG b i t r).length ≤ r.length
  | [], _, _ => Nat.le_refl _
  | n :: r, i, t => by
    unfold fullG
    split
    · have := fullG_len b r (i + 1) 0
      simp only [List.length_cons]
      omega
    · have := fullG_len b r (i + 1) (t + n)
      simp only [List.length_cons]
      omega
structure FullOk (ns : List Int) (b : Int) (cs ps : List Int) : Prop where
  ris : risB 0 cs ns.length = true
  risp : risB (-1) ps ns.length = true
  gaps : ∀ x ∈ gapsP ns ps, x < b
  non : ps = [] → cs = []
  len : ps ≠ [] → cs.length + 1 = ps.length
  all : ps ≠ [] → ∀ x ∈ partsP ns cs, b ≤ x
theorem ris_succ : ∀ {ps : List Int} {l m : Int}, risB l ps m = true → risB (l + 1) (cutsOf ps) m = true
  | [], _, _, _ => rfl
  | [p], _, _, _ => rfl
  | p :: q :: s, l, m, h => by
    have e3 : cutsOf (p :: q :: s) = (p + 1) :: cutsOf (q :: s) := rfl
    rw [e3, risB]
    rw [risB, Bool.and_eq_true, Bool.and_eq_true, decide_eq_true_eq, decide_eq_true_eq] at h
    have h2 := h.2
    rw [risB, Bool.and_eq_true, Bool.and_eq_true, decide_eq_true_eq, decide_eq_true_eq] at h2
    rw [ris_succ (ps := q :: s) h.2, decide_eq_true (show l + 1 < p + 1 by omega), decide_eq_true (show p + 1 < m by omega)]
    rfl
theorem full_is {ns : List Int} {b : Int} (h : ∀ n ∈ ns, 0 ≤ n) (hb : 1 ≤ b) : FullOk ns b (cutsOf (fullP ns b)) (fullP ns b) := by
  obtain ⟨h1, h2, h3⟩ := full_ok b h ns 0 [] 0 0 rfl rfl (Int.le_refl _) (Int.le_refl _) (by simp) (by omega) hb
  have h4 : risB (-1) (fullP ns b) ns.length = true := h1
  refine ⟨ris_succ (l := -1) h4, h4, ?_, fun z => by rw [z]; rfl, fun z => ?_, fun z => ?_⟩
  · rw [gaps_seg]
    exact h2
  · unfold cutsOf
    rw [List.length_map, List.length_dropLast]
    have := List.length_pos_iff.mpr z
    omega
  · by_cases h0 : ns = []
    · subst h0
      exact absurd rfl z
    · rw [parts_seg h0]
      exact h3 z

end
end Ct
namespace Ct
open PySem PySem.Spec PyProof.Rows L2 Evl
open He (ga ma)
section
variable {P : Program} {w : World} {K : PySem.W.Frag} {mg : Str → Option Value} {base : Heap}
/-! ### whether it is so -/
theorem all_map_le (ls : List Int) (b : Int) : ((ls.map fun x => decide (x ≤ b)).all id) = ls.all fun x => decide (x ≤ b) := by
  rw [List.all_map]
  rfl
theorem all_map_lt (ls : List Int) (b : Int) : ((ls.map fun x => decide (x < b)).all id) = ls.all fun x => decide (x < b) := by
  rw [List.all_map]
  rfl
theorem sc_Fewest_shows : FnScope ["self", "row", "bound", "part"] ["self", "row", "bound"] (defScope s_Fewest_shows) := ⟨rfl, rfl, rfl, by decide +kernel, rfl, by decide +kernel, by decide +kernel⟩
theorem ok_Fewest_shows (T : Tx K mg) : KeptM P w K mg base CX0 3 "Fewest" "shows" ["self", "row", "bound"] (sp_Fewest_shows K) := by
  have D_are_cuts : Kept P w K mg base CX0 2 "are_cuts" ["cuts", "many"] (sp_are_cuts K) := ok_are_cuts T
  have D_are_linked : Kept P w K mg base CX0 2 "are_linked" ["row", "stretches", "bound"] (sp_are_linked K) := ok_are_linked T
  have D_parts_of : Kept P w K mg base CX0 2 "parts_of" ["row", "cuts"] (sp_parts_of K) := ok_parts_of T
  obtain ⟨fd, F⟩ := T.d_Fewest_shows
  refine ⟨⟨fd, F.ok sc_Fewest_shows (fun vs H Q E h => by obtain ⟨_, ⟨_, _, _, _, _, _, _, _, _, rfl, _⟩, _⟩ := h; rfl) (fun cdv A outer s H vs Q E hRm h => ?_), F.bindsN fun _ _ _ _ _ _ us hl => match us, hl with | [_, _, _], _ => rfl⟩, F.kp⟩
  · obtain ⟨z, ⟨x, p, q, a, cs, ys, ps, ns, b, rfl, ⟨dx, hx, hp, hq⟩, hP, ha, hl, hcl, rfl⟩, k⟩ := h
    refine ⟨_, (PSs.nox (pss_cons (ps_if (PW.pt (pw_or (pt_not (pt_val (pe_d D_are_cuts (hRm.mono (by decide)) (by rfl) (pa_cons (pe_fld (pv 0) rfl) (pa_cons (pe_callB call_len_seq (by rfl) T.z_len bo_len (pa_cons (pv 1) pa_nil)) pa_nil))))) (pw_or1 (pt_not (pt_val (pe_d D_are_linked (hRm.mono (by decide)) (by rfl) (pa_cons (pv 1) (pa_cons (pe_fld (pv 0) rfl) (pa_cons (pv 2) pa_nil))))))))) (pss_one (ps_ret pe_bl)) pss_nil) (pss_cons (ps_if (pt_cmpR op_ne (pe_callB call_len_seq (by rfl) T.z_len bo_len (pa_cons (pe_fld (pv 0) rfl) pa_nil)) (pe_callB call_len_seq (by rfl) T.z_len bo_len (pa_cons (pe_fld (pv 0) rfl) pa_nil)) (nomark _)) (pss_one (ps_ret pe_bl)) pss_nil) (pss_one (ps_ret (pe_callB (cr_all rfl) (by rfl) T.z_all bo_all (pa_cons (pe_lc (own := [("part", 3)]) (g := gName 3) (tt := tYes) rfl sc_Fewest_shows.nd (pi_list (pe_d D_parts_of (hRm.mono (by decide)) (by rfl) (pa_cons (pv 1) (pa_cons (pe_fld (pv 0) rfl) pa_nil)))) (blkOk_by (N := ["self", "row", "bound", "part"]) (sc := defScope s_Fewest_shows) (by decide +kernel)) (fun _ _ _ _ _ => pg_name (i := 3) sc_Fewest_shows.nd rfl (Or.inl rfl)) (fun _ _ _ _ _ => pts_nil) (fun _ _ _ _ _ => (pe_cmpR op_le (pv 3) (pv 2) (nomark _)))) pa_nil))))))), ?_⟩
    refine q_when (b := !risB 0 cs ns.length || !lnkB ns 0 ps b) (et_or (et_not (et_B (ev_callV m_are_cuts (ea_cons (ev_fld (ev_var rfl) hx T.cls_Fewest T.na_Fewest_cuts fFew_cuts) (ea_cons (ev_ln (ev_var rfl) (.inl (sq_of ha))) ea_nil)) ⟨p, cs, _, rfl, hp, by rw [List.length_map]⟩))) fun _ =>
      et_not (et_B (ev_callV m_are_linked (ea_cons (ev_var rfl) (ea_cons (ev_fld (ev_var rfl) hx T.cls_Fewest T.na_Fewest_stretches fFew_stretches) (ea_cons (ev_var rfl) ea_nil))) ⟨a, q, ns, ys, ps, b, rfl, ha, hq, hP, hl, rfl⟩))) (fun hb H1 e1 => ?_) fun hb H1 e1 => ?_
    · have e0 : showsFew ns b cs ps = false := by unfold showsFew; rw [if_pos hb]
      rw [e0] at k
      exact s_ret ev_c fun H2 e2 => k _ (e1.trans e2)
    have hr : risB 0 cs ns.length = true := by
      simp at hb
      exact hb.1
    refine q_when (b := !decide (cs.length = ps.length)) (et_is (et_test (ev_op (ev_ln (ev_fld (ev_var rfl) (e1 _ _ hx) T.cls_Fewest T.na_Fewest_cuts fFew_cuts) (.inl (sq_of (e1 _ _ hp)))) (ev_ln (ev_fld (ev_var rfl) (e1 _ _ hx) T.cls_Fewest T.na_Fewest_stretches fFew_stretches) (.inl (sq_of (e1 _ _ hq)))) (rv_ne rfl))) ?_) (fun hb2 H2 e2 => ?_) fun hb2 H2 e2 => ?_
    · rw [List.length_map, hP.1]
      congr 1
      by_cases hc : cs.length = ps.length
      · rw [decide_eq_true hc, decide_eq_true]
        rw [hc]
      · rw [decide_eq_false hc, decide_eq_false]
        intro z
        injection z with z
        omega
    · have e0 : showsFew ns b cs ps = false := by unfold showsFew; rw [if_neg (by rw [hb]; decide), if_pos hb2]
      rw [e0] at k
      exact s_ret ev_c fun H3 e3 => k _ ((e1.trans e2).trans e3)
    · have e0 : showsFew ns b cs ps = (partsP ns cs).all fun x => decide (x ≤ b) := by unfold showsFew; rw [if_neg (by rw [hb]; decide), if_neg (by rw [hb2]; decide)]
      rw [e0, ← all_map_le] at k
      have e12 := e1.trans e2
      exact s_ret (ev_allN (el_mapNIB (fun y => decide (y ≤ b)) (el_callL m_parts_of (ea_cons (ev_var rfl) (ea_cons (ev_fld (ev_var rfl) (e12 _ _ hx) T.cls_Fewest T.na_Fewest_cuts fFew_cuts) ea_nil)) ⟨a, p, ns, cs, rfl, e12 _ _ ha, e12 _ _ hp, hl, hcl, hr, rfl⟩) (by have := partsP_len (ns := ns) (cs := cs); omega) (fun y => rfl) fun n H3 e3 hm => ev_op (ev_var rfl) (ev_var rfl) rv_I0)) fun H3 e3 => k _ (e12.trans e3)
theorem sc_Great_shows : FnScope ["self", "row", "bound"] ["self", "row", "bound"] (defScope s_Great_shows) := ⟨rfl, rfl, rfl, by decide +kernel, rfl, by decide +kernel, by decide +kernel⟩
theorem ok_Great_shows (T : Tx K mg) : KeptM P w K mg base CX0 1 "Great" "shows" ["self", "row", "bound"] (sp_Great_shows K) := by
  obtain ⟨fd, F⟩ := T.d_Great_shows
  refine ⟨⟨fd, F.ok sc_Great_shows (fun vs H Q E h => by obtain ⟨_, ⟨_, _, _, _, _, rfl, _⟩, _⟩ := h; rfl) (fun cdv A outer s H vs Q E hRm h => ?_), F.bindsN fun _ _ _ _ _ _ us hl => match us, hl with | [_, _, _], _ => rfl⟩, F.kp⟩
  · obtain ⟨z, ⟨x, a, p, ns, b, rfl, ⟨dx, hx⟩, ha, rfl⟩, k⟩ := h
    refine ⟨_, (PSs.nox (pss_one (ps_ret (pe_and (pe_chain op_le op_lt pe_int (pe_fld (pv 0) rfl) (pe_callB call_len_seq (by rfl) T.z_len bo_len (pa_cons (pv 1) pa_nil))) (pe_one (pe_cmpR op_gt (pe_ix ix_list (pv 1) (pe_fld (pv 0) rfl) (fun _ _ => rfl)) (pv 2) (nomark _))))))), ?_⟩
    refine s_ret (ev_andV (ev_ch ev_c (ev_fld (ev_var rfl) hx T.cls_Great T.na_Great_place fGr_place) rv_I0 (fun _ => ev_is (ev_ln (ev_var rfl) (.inl (sq_of ha))) (by rw [List.length_map])) fun _ => rv_I0) fun hb => ev_op (ev_ixI (n := ns.getD p.toNat 0) (ev_var rfl) (sq_of ha) (ev_fld (ev_var rfl) hx T.cls_Great T.na_Great_place fGr_place) ?_ ?_) (ev_var rfl) rv_I0) fun H1 e1 => k _ e1
    · simp at hb
      omega
    · simp at hb
      rw [List.getD_eq_getElem?_getD, List.getElem?_eq_getElem (by omega)]
      rfl
theorem sc_Least_shows : FnScope ["self", "row", "count", "part"] ["self", "row", "count"] (defScope s_Least_shows) := ⟨rfl, rfl, rfl, by decide +kernel, rfl, by decide +kernel, by decide +kernel⟩
theorem ok_Least_shows (T : Tx K mg) : KeptM P w K mg base CX0 3 "Least" "shows" ["self", "row", "count"] (sp_Least_shows K) := by
  have D_are_cuts : Kept P w K mg base CX0 2 "are_cuts" ["cuts", "many"] (sp_are_cuts K) := ok_are_cuts T
  have D_are_linked : Kept P w K mg base CX0 2 "are_linked" ["row", "stretches", "bound"] (sp_are_linked K) := ok_are_linked T
  have D_parts_of : Kept P w K mg base CX0 2 "parts_of" ["row", "cuts"] (sp_parts_of K) := ok_parts_of T
  obtain ⟨fd, F⟩ := T.d_Least_shows
  refine ⟨⟨fd, F.ok sc_Least_shows (fun vs H Q E h => by obtain ⟨_, ⟨_, _, _, _, _, _, _, _, _, _, rfl, _⟩, _⟩ := h; rfl) (fun cdv A outer s H vs Q E hRm h => ?_), F.bindsN fun _ _ _ _ _ _ us hl => match us, hl with | [_, _, _], _ => rfl⟩, F.kp⟩
  · obtain ⟨z, ⟨x, p, q, a, j, cs, ys, ps, ns, m, rfl, ⟨dx, hx, hp, hq⟩, hP, ha, hl, hcl, rfl⟩, k⟩ := h
    refine ⟨_, (PSs.nox (pss_cons (ps_if (PW.pt (pw_or (pt_cmpR op_lt (pe_fld (pv 0) rfl) pe_int (nomark _)) (pw_or (pt_not (pt_val (pe_d D_are_cuts (hRm.mono (by decide)) (by rfl) (pa_cons (pe_fld (pv 0) rfl) (pa_cons (pe_callB call_len_seq (by rfl) T.z_len bo_len (pa_cons (pv 1) pa_nil)) pa_nil))))) (pw_or1 (pt_cmpR op_ge (pe_callB call_len_seq (by rfl) T.z_len bo_len (pa_cons (pe_fld (pv 0) rfl) pa_nil)) (pv 2) (nomark _)))))) (pss_one (ps_ret pe_bl)) pss_nil) (pss_cons (ps_if (pt_not (pt_val (pe_callB (cr_all rfl) (by rfl) T.z_all bo_all (pa_cons (pe_lc (own := [("part", 3)]) (g := gName 3) (tt := tYes) rfl sc_Least_shows.nd (pi_list (pe_d D_parts_of (hRm.mono (by decide)) (by rfl) (pa_cons (pv 1) (pa_cons (pe_fld (pv 0) rfl) pa_nil)))) (blkOk_by (N := ["self", "row", "count", "part"]) (sc := defScope s_Least_shows) (by decide +kernel)) (fun _ _ _ _ _ => pg_name (i := 3) sc_Least_shows.nd rfl (Or.inl rfl)) (fun _ _ _ _ _ => pts_nil) (fun _ _ _ _ _ => (pe_cmpR op_le (pv 3) (pe_fldK (K := K) rfl (pv 0) rfl) (nomark _)))) pa_nil)))) (pss_one (ps_ret pe_bl)) pss_nil) (pss_cons (ps_if (PW.pt (pw_or (pt_cmpR op_eq (pe_fld (pv 0) rfl) pe_int (nomark _)) (pw_or1 (pt_cmpR op_in_seq (pe_fld (pv 0) rfl) (pv 1) (by rfl))))) (pss_one (ps_ret pe_bl)) pss_nil) (pss_one (ps_ret (pe_and (pe_cmpR op_eq (pe_callB call_len_seq (by rfl) T.z_len bo_len (pa_cons (pe_fld (pv 0) rfl) pa_nil)) (pv 2) (nomark _)) (pe_one (pe_d D_are_linked (hRm.mono (by decide)) (by rfl) (pa_cons (pv 1) (pa_cons (pe_fld (pv 0) rfl) (pa_cons (pe_op op_sub (pe_fld (pv 0) rfl) pe_int) pa_nil)))))))))))), ?_⟩
    refine q_when (b := decide (j < 0) || (!risB 0 cs ns.length || decide (m ≤ (cs.length : Int)))) (et_or (et_test (ev_op (ev_fld (ev_var rfl) hx T.cls_Least T.na_Least_number fLst_number) ev_c rv_I0)) fun _ => et_or (et_not (et_B (ev_callV m_are_cuts (ea_cons (ev_fld (ev_var rfl) hx T.cls_Least T.na_Least_cuts fLst_cuts) (ea_cons (ev_ln (ev_var rfl) (.inl (sq_of ha))) ea_nil)) ⟨p, cs, _, rfl, hp, by rw [List.length_map]⟩))) fun _ =>
      et_is (et_test (ev_op (ev_ln (ev_fld (ev_var rfl) hx T.cls_Least T.na_Least_cuts fLst_cuts) (.inl (sq_of hp))) (ev_var rfl) rv_I0)) (by rw [List.length_map])) (fun hb H1 e1 => ?_) fun hb H1 e1 => ?_
    · have e0 : showsLst ns m cs j ps = false := by unfold showsLst; rw [if_pos hb]
      rw [e0] at k
      exact s_ret ev_c fun H2 e2 => k _ (e1.trans e2)
    have hr : risB 0 cs ns.length = true := by
      simp at hb
      exact hb.2.1
    refine q_when (b := !(partsP ns cs).all fun x => decide (x ≤ j)) (et_is (et_not (et_B (ev_allN (el_mapNIB (fun y => decide (y ≤ j)) (el_callL m_parts_of (ea_cons (ev_var rfl) (ea_cons (ev_fld (ev_var rfl) (e1 _ _ hx) T.cls_Least T.na_Least_cuts fLst_cuts) ea_nil)) ⟨a, p, ns, cs, rfl, e1 _ _ ha, e1 _ _ hp, hl, hcl, hr, rfl⟩) (by have := partsP_len (ns := ns) (cs := cs); omega) (fun y => rfl) fun n H3 e3 hm => ev_op (ev_var rfl) (ev_fld (ev_var rfl) ((e1.trans e3) _ _ hx) T.cls_Least T.na_Least_number fLst_number) rv_I0)))) (by rw [all_map_le])) (fun hb2 H2 e2 => ?_) fun hb2 H2 e2 => ?_
    · have e0 : showsLst ns m cs j ps = false := by unfold showsLst; rw [if_neg (by rw [hb]; decide), if_pos hb2]
      rw [e0] at k
      exact s_ret ev_c fun H3 e3 => k _ ((e1.trans e2).trans e3)
    have e12 := e1.trans e2
    refine q_when (b := decide (j = 0) || decide (j ∈ ns)) (et_or (et_is (et_test (ev_op (ev_fld (ev_var rfl) (e12 _ _ hx) T.cls_Least T.na_Least_number fLst_number) ev_c (rv_eq rfl))) (by simp)) fun _ => et_test (ev_op (ev_fld (ev_var rfl) (e12 _ _ hx) T.cls_Least T.na_Least_number fLst_number) (ev_var rfl) (rv_inI (sq_of (e12 _ _ ha))))) (fun hb3 H3 e3 => ?_) fun hb3 H3 e3 => ?_
    · have e0 : showsLst ns m cs j ps = true := by unfold showsLst; rw [if_neg (by rw [hb]; decide), if_neg (by rw [hb2]; decide), if_pos hb3]
      rw [e0] at k
      exact s_ret ev_c fun H4 e4 => k _ ((e12.trans e3).trans e4)
    · have e0 : showsLst ns m cs j ps = (decide ((ps.length : Int) = m) && lnkB ns 0 ps (j - 1)) := by unfold showsLst; rw [if_neg (by rw [hb]; decide), if_neg (by rw [hb2]; decide), if_neg (by rw [hb3]; decide)]
      rw [e0] at k
      have e13 := e12.trans e3
      refine s_ret (ev_andV (ev_is (ev_op (ev_ln (ev_fld (ev_var rfl) (e13 _ _ hx) T.cls_Least T.na_Least_stretches fLst_stretches) (.inl (sq_of (e13 _ _ hq)))) (ev_var rfl) (rv_eq rfl)) (by rw [hP.1]; simp)) fun _ =>
        ev_callV m_are_linked (ea_cons (ev_var rfl) (ea_cons (ev_fld (ev_var rfl) (e13 _ _ hx) T.cls_Least T.na_Least_stretches fLst_stretches) (ea_cons (ev_op (ev_fld (ev_var rfl) (e13 _ _ hx) T.cls_Least T.na_Least_number fLst_number) ev_c rv_I0) ea_nil))) ⟨a, q, ns, ys, ps, _, rfl, e13 _ _ ha, e13 _ _ hq, hP.mono e13, hl, rfl⟩) fun H4 e4 => k _ (e13.trans e4)
theorem sc_Most_shows : FnScope ["self", "row", "bound", "sums", "begins", "ends", "place", "k"] ["self", "row", "bound"] (defScope s_Most_shows) := ⟨rfl, rfl, rfl, by decide +kernel, rfl, by decide +kernel, by decide +kernel⟩
theorem ok_Most_shows (T : Tx K mg) : KeptM P w K mg base CX0 3 "Most" "shows" ["self", "row", "bound"] (sp_Most_shows K) := by
  have D_are_cuts : Kept P w K mg base CX0 2 "are_cuts" ["cuts", "many"] (sp_are_cuts K) := ok_are_cuts T
  have D_are_places : Kept P w K mg base CX0 2 "are_places" ["places", "many"] (sp_are_places K) := ok_are_places T
  have D_parts_of : Kept P w K mg base CX0 2 "parts_of" ["row", "cuts"] (sp_parts_of K) := ok_parts_of T
  have D_sums_of : Kept P w K mg base CX0 1 "sums_of" ["row"] (sp_sums_of K) := ok_sums_of T
  obtain ⟨fd, F⟩ := T.d_Most_shows
  refine ⟨⟨fd, F.ok sc_Most_shows (fun vs H Q E h => by obtain ⟨_, ⟨_, _, _, _, _, _, _, _, rfl, _⟩, _⟩ := h; rfl) (fun cdv A outer s H vs Q E hRm h => ?_), F.bindsN fun _ _ _ _ _ _ us hl => match us, hl with | [_, _, _], _ => rfl⟩, F.kp⟩
  · obtain ⟨z, ⟨x, p, q, a, cs, ps, ns, b, rfl, ⟨dx, hx, hp, hq⟩, ha, hl, hcl, hpl, rfl⟩, k⟩ := h
    refine ⟨_, (PSs.nox (pss_cons (ps_if (PW.pt (pw_or (pt_not (pt_val (pe_d D_are_cuts (hRm.mono (by decide)) (by rfl) (pa_cons (pe_fld (pv 0) rfl) (pa_cons (pe_callB call_len_seq (by rfl) T.z_len bo_len (pa_cons (pv 1) pa_nil)) pa_nil))))) (pw_or1 (pt_not (pt_val (pe_d D_are_places (hRm.mono (by decide)) (by rfl) (pa_cons (pe_fld (pv 0) rfl) (pa_cons (pe_callB call_len_seq (by rfl) T.z_len bo_len (pa_cons (pv 1) pa_nil)) pa_nil)))))))) (pss_one (ps_ret pe_bl)) pss_nil) (pss_cons (ps_set (i := 3) sc_Most_shows.nd rfl (Or.inr rfl) (pe_d D_sums_of (hRm.mono (by decide)) (by rfl) (pa_cons (pv 1) pa_nil))) (pss_cons (ps_set (i := 4) sc_Most_shows.nd rfl (Or.inr rfl) (pe_op op_cat (pe_lst (pa_cons pe_int pa_nil)) (pe_lc (own := [("place", 6)]) (g := gName 6) (tt := tYes) rfl sc_Most_shows.nd (pi_list (pe_fld (pv 0) rfl)) (blkOk_by (N := ["self", "row", "bound", "sums", "begins", "ends", "place", "k"]) (sc := defScope s_Most_shows) (by decide +kernel)) (fun _ _ _ _ _ => pg_name (i := 6) sc_Most_shows.nd rfl (Or.inl rfl)) (fun _ _ _ _ _ => pts_nil) (fun _ _ _ _ _ => (pe_op op_add (pv 6) pe_int))))) (pss_cons (ps_set (i := 5) sc_Most_shows.nd rfl (Or.inr rfl) (pe_op op_cat (pe_fld (pv 0) rfl) (pe_lst (pa_cons (pe_callB call_len_seq (by rfl) T.z_len bo_len (pa_cons (pv 1) pa_nil)) pa_nil)))) (pss_cons (ps_if (pt_not (pt_val (pe_callB (cr_all rfl) (by rfl) T.z_all bo_all (pa_cons (pe_lc (own := [("k", 7)]) (g := gName 7) (tt := tYes) rfl sc_Most_shows.nd (pi_range1 (by rfl) T.z_range (pa_cons (pe_callB call_len_seq (by rfl) T.z_len bo_len (pa_cons (pv 4) pa_nil)) pa_nil)) (blkOk_by (N := ["self", "row", "bound", "sums", "begins", "ends", "place", "k"]) (sc := defScope s_Most_shows) (by decide +kernel)) (fun _ _ _ _ _ => pg_name (i := 7) sc_Most_shows.nd rfl (Or.inl rfl)) (fun _ _ _ _ _ => pts_nil) (fun _ _ _ _ _ => (pe_cmpR op_lt (pe_op op_sub (pe_ix (ix_listK (K := K) rfl) (pv 3) (pe_ix (ix_listK (K := K) rfl) (pv 5) (pv 7) (fun _ _ => rfl)) (fun _ _ => rfl)) (pe_ix (ix_listK (K := K) rfl) (pv 3) (pe_ix (ix_listK (K := K) rfl) (pv 4) (pv 7) (fun _ _ => rfl)) (fun _ _ => rfl))) (pv 2) (nomark _)))) pa_nil)))) (pss_one (ps_ret pe_bl)) pss_nil) (pss_cons (ps_if (pt_cmpR op_eq (pe_callB call_len_seq (by rfl) T.z_len bo_len (pa_cons (pe_fld (pv 0) rfl) pa_nil)) pe_int (nomark _)) (pss_one (ps_ret (pe_cmpR op_eq (pe_callB call_len_seq (by rfl) T.z_len bo_len (pa_cons (pe_fld (pv 0) rfl) pa_nil)) pe_int (nomark _)))) pss_nil) (pss_one (ps_ret (pe_and (pe_cmpR op_eq (pe_op op_add (pe_callB call_len_seq (by rfl) T.z_len bo_len (pa_cons (pe_fld (pv 0) rfl) pa_nil)) pe_int) (pe_callB call_len_seq (by rfl) T.z_len bo_len (pa_cons (pe_fld (pv 0) rfl) pa_nil)) (nomark _)) (pe_one (pe_cmpR op_ge (pe_callB (cr_min rfl) (by rfl) T.z_min bo_min (pa_cons (pe_d D_parts_of (hRm.mono (by decide)) (by rfl) (pa_cons (pv 1) (pa_cons (pe_fld (pv 0) rfl) pa_nil))) pa_nil)) (pv 2) (nomark _))))))))))))), ?_⟩
    refine q_when (b := !risB 0 cs ns.length || !risB (-1) ps ns.length) (et_or (et_not (et_B (ev_callV m_are_cuts (ea_cons (ev_fld (ev_var rfl) hx T.cls_Most T.na_Most_cuts fMst_cuts) (ea_cons (ev_ln (ev_var rfl) (.inl (sq_of ha))) ea_nil)) ⟨p, cs, _, rfl, hp, by rw [List.length_map]⟩))) fun _ =>
      et_not (et_B (ev_callV m_are_places (ea_cons (ev_fld (ev_var rfl) hx T.cls_Most T.na_Most_places fMst_places) (ea_cons (ev_ln (ev_var rfl) (.inl (sq_of ha))) ea_nil)) ⟨q, ps, _, rfl, hq, by rw [List.length_map]⟩))) (fun hb H1 e1 => ?_) fun hb H1 e1 => ?_
    · have e0 : showsMst ns b cs ps = false := by unfold showsMst; rw [if_pos hb]
      rw [e0] at k
      exact s_ret ev_c fun H2 e2 => k _ (e1.trans e2)
    have hr : risB 0 cs ns.length = true := by
      simp at hb
      exact hb.1
    have hr2 : risB (-1) ps ns.length = true := by
      simp at hb
      exact hb.2
    have hmem := ris_mem hr2
    refine q_asgL (el_callL m_sums_of (ea_cons (ev_var rfl) ea_nil) ⟨a, ns, rfl, e1 _ _ ha, hl, rfl⟩) fun s H2 hs e2 hS => ?_
    have e12 := e1.trans e2
    refine q_asgL (el_cat (el_lst (ea_cons ev_c ea_nil) (by decide)) (el_mapII (fun y => y + 1) (ev_fld (ev_var rfl) (e12 _ _ hx) T.cls_Most T.na_Most_places fMst_places) (sq_of (e12 _ _ hq)) (by omega) (fun y => rfl) fun n H3 e3 hm => ev_op (ev_var rfl) ev_c rv_I0) (by rw [List.length_map, List.length_map]; simp; omega)) fun bg H3 hb3 e3 hB => ?_
    have e13 := e12.trans e3
    refine q_asgL (el_cat1 (ev_fld (ev_var rfl) (e13 _ _ hx) T.cls_Most T.na_Most_places fMst_places) (e13 _ _ hq) (el_lst (ea_cons (ev_ln (ev_var rfl) (.inl (sq_of (e13 _ _ ha)))) ea_nil) l1) (by rw [List.length_map]; simp; omega)) fun d H4 hd e4 hD => ?_
    have e14 := e13.trans e4
    have hS4 := (e3.trans e4) _ _ hS
    have hB4 := e4 _ _ hB
    have eB : ([V.int 0] ++ (ps.map (fun y => y + 1)).map V.int) = (0 :: ps.map (· + 1)).map V.int := rfl
    have eD : (ps.map V.int ++ [V.int ((ns.map V.int).length : Int)]) = (ps ++ [(ns.length : Int)]).map V.int := by rw [List.map_append, List.length_map]; rfl
    rw [eB] at hB4
    rw [eD] at hD
    have hi0 : ∀ i, i < ps.length + 1 → ∃ x : Int, (0 :: ps.map (· + 1) : List Int)[i]? = some x ∧ 0 ≤ x ∧ x ≤ (ns.length : Int) := fun i hi => by
      refine ⟨(0 :: ps.map (· + 1) : List Int)[i]'(by simpa using hi), List.getElem?_eq_getElem _, ?_⟩
      have hm := List.getElem_mem (l := (0 :: ps.map (· + 1) : List Int)) (n := i) (by simpa using hi)
      rcases List.mem_cons.mp hm with q | q
      · omega
      · obtain ⟨y, hy, e⟩ := List.mem_map.mp q
        have := hmem _ hy
        omega
    have hi1 : ∀ i, i < ps.length + 1 → ∃ x : Int, (ps ++ [(ns.length : Int)])[i]? = some x ∧ 0 ≤ x ∧ x ≤ (ns.length : Int) := fun i hi => by
      refine ⟨(ps ++ [(ns.length : Int)])[i]'(by simpa using hi), List.getElem?_eq_getElem _, ?_⟩
      have hm := List.getElem_mem (l := ps ++ [(ns.length : Int)]) (n := i) (by simpa using hi)
      rcases List.mem_append.mp hm with q | q
      · have := hmem _ q
        omega
      · have := List.mem_singleton.mp q
        omega
    refine q_when (b := !(gapsP ns ps).all fun x => decide (x < b)) (et_is (et_not (et_B (ev_allN (el_mapRB (n := ps.length + 1) (fun k => decide (psm ns ((ps ++ [(ns.length : Int)]).getD k 0) - psm ns ((0 :: ps.map (· + 1)).getD k 0) < b)) (ea_cons (ev_is (ev_ln (ev_var rfl) (.inl (sq_of hB4))) (by simp)) ea_nil) (by omega) (fun x => rfl) fun i H5 e5 hi => ?_)))) ?_) (fun hb2 H5 e5 => ?_) fun hb2 H5 e5 => ?_
    · obtain ⟨x, hx, hx0, hx1⟩ := hi0 i hi
      obtain ⟨y, hy, hy0, hy1⟩ := hi1 i hi
      have ex : (0 :: ps.map (· + 1)).getD i 0 = x := by simp only [List.getD, hx, Option.getD]
      have ey : (ps ++ [(ns.length : Int)]).getD i 0 = y := by simp only [List.getD, hy, Option.getD]
      rw [ex, ey]
      exact ev_op (ev_op (ev_ixI (ev_var rfl) (sq_of (e5 _ _ hS4)) (ev_ixI (ev_var rfl) (sq_of (e5 _ _ hD)) (ev_var rfl) (Int.natCast_nonneg _) (by simpa using hy)) hy0 (psums_at (by omega))) (ev_ixI (ev_var rfl) (sq_of (e5 _ _ hS4)) (ev_ixI (ev_var rfl) (sq_of (e5 _ _ hB4)) (ev_var rfl) (Int.natCast_nonneg _) (by simpa using hx)) hx0 (psums_at (by omega))) rv_I0) (ev_var rfl) rv_I0
    · congr 1
      unfold gapsP
      rw [List.all_map, List.all_map]
      rfl
    · have e0 : showsMst ns b cs ps = false := by unfold showsMst; rw [if_neg (by rw [hb]; decide), if_pos hb2]
      rw [e0] at k
      exact s_ret ev_c fun H6 e6 => k _ ((e14.trans e5).trans e6)
    have e15 := e14.trans e5
    refine q_when (b := decide (ps.length = 0)) (et_is (et_test (ev_op (ev_ln (ev_fld (ev_var rfl) (e15 _ _ hx) T.cls_Most T.na_Most_places fMst_places) (.inl (sq_of (e15 _ _ hq)))) ev_c (rv_eq rfl))) (by simp)) (fun hb3 H6 e6 => ?_) fun hb3 H6 e6 => ?_
    · have e0 : showsMst ns b cs ps = decide (cs.length = 0) := by unfold showsMst; rw [if_neg (by rw [hb]; decide), if_neg (by rw [hb2]; decide), if_pos hb3]
      rw [e0] at k
      have e16 := e15.trans e6
      exact s_ret (ev_is (ev_op (ev_ln (ev_fld (ev_var rfl) (e16 _ _ hx) T.cls_Most T.na_Most_cuts fMst_cuts) (.inl (sq_of (e16 _ _ hp)))) ev_c (rv_eq rfl)) (by simp)) fun H7 e7 => k _ (e16.trans e7)
    · have e0 : showsMst ns b cs ps = (decide (cs.length + 1 = ps.length) && decide (b ≤ mnL (partsP ns cs))) := by unfold showsMst; rw [if_neg (by rw [hb]; decide), if_neg (by rw [hb2]; decide), if_neg (by rw [hb3]; decide)]
      rw [e0] at k
      have e16 := e15.trans e6
      have hne : 0 < (partsP ns cs).length := by
        unfold partsP
        split
        · rename_i h0
          subst h0
          have : ps ≠ [] := fun z => by
            rw [z] at hb3
            cases hb3
          obtain ⟨y, r, rfl⟩ := List.exists_cons_of_ne_nil this
          have := hmem y List.mem_cons_self
          simp at this
          omega
        · rw [List.length_map, List.length_range]
          omega
      refine s_ret (ev_andV (ev_is (ev_op (ev_op (ev_ln (ev_fld (ev_var rfl) (e16 _ _ hx) T.cls_Most T.na_Most_cuts fMst_cuts) (.inl (sq_of (e16 _ _ hp)))) ev_c rv_I0) (ev_ln (ev_fld (ev_var rfl) (e16 _ _ hx) T.cls_Most T.na_Most_places fMst_places) (.inl (sq_of (e16 _ _ hq)))) (rv_eq rfl)) ?_) fun _ =>
        ev_op (ev_minN (el_callL m_parts_of (ea_cons (ev_var rfl) (ea_cons (ev_fld (ev_var rfl) (e16 _ _ hx) T.cls_Most T.na_Most_cuts fMst_cuts) ea_nil)) ⟨a, p, ns, cs, rfl, e16 _ _ ha, e16 _ _ hp, hl, hcl, hr, rfl⟩) hne) (ev_var rfl) rv_I0) fun H7 e7 => k _ (e16.trans e7)
      rw [List.length_map, List.length_map]
      congr 1
      by_cases hc : cs.length + 1 = ps.length
      · rw [decide_eq_true hc, decide_eq_true]
        rw [← hc]
        rfl
      · rw [decide_eq_false hc, decide_eq_false]
        intro z
        injection z with z
        omega

end
end Ct
namespace Ct
open PySem PySem.Spec PyProof.Rows L2 Evl
open He (ga ma)
section
variable {P : Program} {w : World} {K : PySem.W.Frag} {mg : Str → Option Value} {base : Heap}
/-! ### the best cuttings: promises -/
def RFill (cs : List Int) (ps : List (Int × Int)) : RF := fun H1 v H2 => ∃ (t c s : Addr) (xs : List V), v = .ref t ∧ H1 t = none ∧ H1 c = none ∧ H1 s = none ∧ c ≠ s ∧ H2 t = some (.tup [.ref c, .ref s]) ∧ H2 c = some (.lst (cs.map V.int)) ∧ H2 s = some (.lst xs) ∧ Prs H2 xs ps
theorem anti_Fill {cs : List Int} {ps : List (Int × Int)} : Anti (RFill cs ps) := fun H H1 v H2 e ⟨t, c, s, xs, h, h1, h2, h3, h4⟩ => ⟨t, c, s, xs, h, fresh_back e h1, fresh_back e h2, fresh_back e h3, h4⟩
def F_filled (_ : PySem.W.Frag) : XF := fun vs H R => ∃ (a : Addr) (ns : List Int) (b : Int), vs = [.ref a, .int b] ∧ H a = some (.lst (ns.map V.int)) ∧ ns.length ≤ 1000 ∧ R = RFill (fillC ns b) (fillS ns b)
def sp_filled (K : PySem.W.Frag) : Sp := Px (F_filled K)
theorem m_filled : MonoX (F_filled K) := fun vs H H1 z e ⟨a, ns, b, h1, h2, h3⟩ => ⟨a, ns, b, h1, e _ _ h2, h3⟩
def RFewP (K : PySem.W.Frag) (cs : List Int) (ps : List (Int × Int)) : RF := fun H1 v H2 => ∃ ys, RFew K (cs.map V.int) ys H1 v H2 ∧ Prs H2 ys ps
theorem anti_FewP {cs : List Int} {ps : List (Int × Int)} : Anti (RFewP K cs ps) := fun H H1 v H2 e ⟨ys, h, h1⟩ => ⟨ys, anti_Few _ _ _ _ e h, h1⟩
def grAt (ns : List Int) (b : Int) : Nat := ns.findIdx fun n => decide (b < n)
def fewR (K : PySem.W.Frag) (ns : List Int) (b : Int) : RF := if grAt ns b < ns.length then RGr K (.int (grAt ns b : Nat)) else RFewP K (fillC ns b) (fillS ns b)
theorem anti_few {ns : List Int} {b : Int} : Anti (fewR K ns b) := by
  unfold fewR
  split
  · exact anti_Gr
  · exact anti_FewP
def F_fewest (K : PySem.W.Frag) : XF := fun vs H R => ∃ (a : Addr) (ns : List Int) (b : Int), vs = [.ref a, .int b] ∧ H a = some (.lst (ns.map V.int)) ∧ ns.length ≤ 1000 ∧ (∀ n ∈ ns, 0 ≤ n ∧ n ≤ 1000000) ∧ 0 ≤ b ∧ R = fewR K ns b
def sp_fewest (K : PySem.W.Frag) : Sp := Px (F_fewest K)
theorem m_fewest : MonoX (F_fewest K) := fun vs H H1 z e ⟨a, ns, b, h1, h2, h3⟩ => ⟨a, ns, b, h1, e _ _ h2, h3⟩
structure LowOk (ns : List Int) (m : Int) (cs : List Int) (k : Int) (ps : List (Int × Int)) : Prop where
  pos : 0 ≤ k
  ris : risB 0 cs ns.length = true
  few : (cs.length : Int) < m
  all : ∀ x ∈ partsP ns cs, x ≤ k
  why : k = 0 ∨ k ∈ ns ∨ ((ps.length : Int) = m ∧ lnkB ns 0 ps (k - 1) = true)
def RLow (K : PySem.W.Frag) (ns : List Int) (m : Int) : RF := fun H1 v H2 => ∃ (cs : List Int) (k : Int) (ps : List (Int × Int)) (ys : List V), LowOk ns m cs k ps ∧ cs.length ≤ ns.length ∧ ps.length ≤ ns.length ∧ RLst K (cs.map V.int) (.int k) ys H1 v H2 ∧ Prs H2 ys ps
theorem anti_Low {ns : List Int} {m : Int} : Anti (RLow K ns m) := fun H H1 v H2 e ⟨cs, k, ps, ys, h, h1, h2, h3, h4⟩ => ⟨cs, k, ps, ys, h, h1, h2, anti_Lst _ _ _ _ e h3, h4⟩
def F_lowest (K : PySem.W.Frag) : XF := fun vs H R => ∃ (a : Addr) (ns : List Int) (m : Int), vs = [.ref a, .int m] ∧ H a = some (.lst (ns.map V.int)) ∧ ns.length ≤ 1000 ∧ (∀ n ∈ ns, 0 ≤ n ∧ n ≤ 1000000) ∧ 1 ≤ m ∧ R = RLow K ns m
def sp_lowest (K : PySem.W.Frag) : Sp := Px (F_lowest K)
theorem m_lowest : MonoX (F_lowest K) := fun vs H H1 z e ⟨a, ns, m, h1, h2, h3⟩ => ⟨a, ns, m, h1, e _ _ h2, h3⟩
def F_fullest (K : PySem.W.Frag) : XF := fun vs H R => ∃ (a : Addr) (ns : List Int) (b : Int), vs = [.ref a, .int b] ∧ H a = some (.lst (ns.map V.int)) ∧ ns.length ≤ 1000 ∧ (∀ n ∈ ns, 0 ≤ n ∧ n ≤ 1000000) ∧ 1 ≤ b ∧ R = RMst K ((cutsOf (fullP ns b)).map V.int) ((fullP ns b).map V.int)
def sp_fullest (K : PySem.W.Frag) : Sp := Px (F_fullest K)
theorem m_fullest : MonoX (F_fullest K) := fun vs H H1 z e ⟨a, ns, b, h1, h2, h3⟩ => ⟨a, ns, b, h1, e _ _ h2, h3⟩
/-! ### the defs -/
theorem sc_filled : FnScope ["row", "bound", "cuts", "stretches", "first", "total", "place", "load"] ["row", "bound"] (defScope s_filled) := ⟨rfl, rfl, rfl, by decide +kernel, rfl, by decide +kernel, by decide +kernel⟩
theorem ok_filled (T : Tx K mg) : Kept P w K mg base CX0 1 "filled" ["row", "bound"] (sp_filled K) := by
  obtain ⟨fd, F⟩ := T.d_filled
  refine ⟨⟨fd, F.ok sc_filled (fun vs H Q E h => by obtain ⟨_, ⟨_, _, _, rfl, _⟩, _⟩ := h; rfl) (fun cdv A outer s H vs Q E hRm h => ?_), F.bindsN fun _ _ _ _ _ _ us hl => match us, hl with | [_, _], _ => rfl⟩, T.g_filled, F.kp⟩
  · obtain ⟨z, ⟨a, ns, b, rfl, ha, hl, rfl⟩, k⟩ := h
    refine ⟨_, (PSs.nox (pss_cons (ps_set (i := 2) sc_filled.nd rfl (Or.inl rfl) (pe_lst pa_nil)) (pss_cons (ps_set (i := 3) sc_filled.nd rfl (Or.inl rfl) (pe_lst pa_nil)) (pss_cons (ps_set (i := 4) sc_filled.nd rfl (Or.inl rfl) pe_int) (pss_cons (ps_set (i := 5) sc_filled.nd rfl (Or.inl rfl) pe_int) (pss_cons (ps_for PassesOwn.never rfl (pi_enum (by rfl) T.z_enumerate (pa_cons (pv 0) pa_nil)) (pg_tup (by rfl) (pgs_cons (pg_name (i := 6) sc_filled.nd rfl (Or.inl rfl)) (pgs_cons (pg_name (i := 7) sc_filled.nd rfl (Or.inl rfl)) pgs_nil))) (pss_cons (ps_aug (i := 5) sc_filled.nd rfl (Or.inl rfl) (pv 7) ip_add) (pss_one (ps_if (pt_cmpR op_gt (pv 5) (pv 1) (nomark _)) (pss_cons (ps_expr (pe_bm PySem.F.plainAttrs_list PySem.F.slot_list_append PySem.F.type_list_append mt_append (pv 3) (pa_cons (pe_tup (pa_cons (pv 4) (pa_cons (pv 6) pa_nil))) pa_nil))) (pss_cons (ps_expr (pe_bm PySem.F.plainAttrs_list PySem.F.slot_list_append PySem.F.type_list_append mt_append (pv 2) (pa_cons (pv 6) pa_nil))) (pss_cons (ps_set (i := 4) sc_filled.nd rfl (Or.inl rfl) (pv 6)) (pss_one (ps_set (i := 5) sc_filled.nd rfl (Or.inl rfl) (pv 7)))))) pss_nil)))) (pss_one (ps_ret (pe_tup (pa_cons (pv 2) (pa_cons (pv 3) pa_nil))))))))))), ?_⟩
    refine q_asgL (xs := ([] : List Int).map V.int) (el_lst ea_nil (by decide)) fun c H1 hc e1 h1 => ?_
    refine q_asgL (el_lst ea_nil (by decide)) fun s H2 hs e2 h2 => ?_
    refine q_asg ev_c fun H3 e3 => ?_
    refine q_asg ev_c fun H4 e4 => ?_
    have e14 := ((e1.trans e2).trans e3).trans e4
    have hc4 := ((e2.trans e3).trans e4) _ _ h1
    have hs4 := (e3.trans e4) _ _ h2
    have hs0 := fresh_back e1 hs
    have ncs : c ≠ s := ne_of_none h1 hs
    refine q_forEn (ea_cons (ev_var rfl) ea_nil) (sq_of (e14 _ _ ha)) (fun i σ' H' => ∃ (f t : Int) (v6 v7 : Option V) (cs : List Int) (ps : List (Int × Int)) (xs : List V), σ' = [some (.ref a), some (.int b), some (.ref c), some (.ref s), some (.int f), some (.int t), v6, v7] ∧ Ex H H' ∧ H' c = some (.lst (cs.map V.int)) ∧ H' s = some (.lst xs) ∧ Prs H' xs ps ∧
      cs.length ≤ i ∧ ps.length ≤ i ∧ fillC ns b = cs ++ (fillG b i f t (ns.drop i)).1 ∧ fillS ns b = ps ++ (fillG b i f t (ns.drop i)).2)
      (fun H5 e5 => ⟨0, 0, none, none, [], [], [], rfl, e14.trans e5, e5 _ _ hc4, e5 _ _ hs4, Prs.nil, Nat.le_refl _, Nat.le_refl _, rfl, rfl⟩) (fun i σ' H' _ ⟨_, _, _, _, _, _, _, _, e, _⟩ => sq_of (e _ _ ha)) ?_ ?_
    · rintro i x σ' H' hi ⟨f, t, v6, v7, cs, ps, xs, rfl, e, hC, hS, hP, hcl, hpl, hf1, hf2⟩ H5 e5
      obtain ⟨n, rfl, hn⟩ := int_at hi
      have hi2 := (List.getElem?_eq_some_iff.mp hn).1
      rw [drop_at hn, fillG] at hf1 hf2
      refine q_aug (a := t) (b := n) rfl (ev_var rfl) fun H6 e6 => ?_
      have e56 := e5.trans e6
      refine s_when (b := decide (b < t + n)) (et_test (ev_op (ev_var rfl) (ev_var rfl) rv_I0)) (fun hb H7 e7 => ?_) fun hb H7 e7 => ?_
      · have hb2 := of_decide_eq_true hb
        rw [if_pos hb2] at hf1 hf2
        have e57 := e56.trans e7
        refine q_appU (e57 _ _ hS) (ev_var rfl) (eu_tup (ea_cons (ev_var rfl) (ea_cons (ev_var rfl) ea_nil)) l2) (by rw [hP.1]; omega) fun q H8 hq e8 h8 => ?_
        have e58 := e57.trans e8
        have hC8 : upd H8 s (.lst (xs ++ [.ref q])) c = some (.lst (cs.map V.int)) := by rw [upd_ne ncs]; exact e58 _ _ hC
        have P8 : Prs (upd H8 s (.lst (xs ++ [.ref q]))) (xs ++ [.ref q]) (ps ++ [(f, (i : Int))]) := ((hP.mono e58).snoc h8).upd (e58 _ _ hS)
        refine q_app hC8 (ev_var rfl) (ev_var rfl) (by rw [List.length_map]; omega) fun H9 e9 => ?_
        have P9 : Prs (upd H9 c (.lst (cs.map V.int ++ [.int (i : Int)]))) (xs ++ [.ref q]) (ps ++ [(f, (i : Int))]) := (P8.mono e9).upd (e9 _ _ hC8)
        have S9 : upd H9 c (.lst (cs.map V.int ++ [.int (i : Int)])) s = some (.lst (xs ++ [.ref q])) := by rw [upd_ne ncs.symm]; exact e9 _ _ upd_same
        have E9 : Ex H (upd H9 c (.lst (cs.map V.int ++ [.int (i : Int)]))) := Ex.mut ((Ex.mut (e.trans e58) hs0).trans e9) hc
        refine q_asg (ev_var rfl) fun H10 e10 => ?_
        refine s_asg (ev_var rfl) fun H11 e11 => ⟨(i : Int), n, _, _, cs ++ [(i : Int)], ps ++ [(f, (i : Int))], _, rfl, E9.trans (e10.trans e11), ?_, (e10.trans e11) _ _ S9, P9.mono (e10.trans e11), ?_, ?_, ?_, ?_⟩
        · rw [List.map_append]
          exact (e10.trans e11) _ _ upd_same
        · rw [List.length_append, List.length_singleton]
          omega
        · rw [List.length_append, List.length_singleton]
          omega
        · rw [hf1, List.append_assoc, show (((i + 1 : Nat)) : Int) = (i : Int) + 1 by omega]
          rfl
        · rw [hf2, List.append_assoc, show (((i + 1 : Nat)) : Int) = (i : Int) + 1 by omega]
          rfl
      · have hb2 := of_decide_eq_false hb
        rw [if_neg hb2] at hf1 hf2
        have e57 := e56.trans e7
        refine ⟨f, t + n, _, _, cs, ps, xs, rfl, e.trans e57, e57 _ _ hC, e57 _ _ hS, hP.mono e57, by omega, by omega, ?_, ?_⟩
        · rw [hf1, show (((i + 1 : Nat)) : Int) = (i : Int) + 1 by omega]
        · rw [hf2, show (((i + 1 : Nat)) : Int) = (i : Int) + 1 by omega]
    · rintro σ' H' ⟨f, t, v6, v7, cs, ps, xs, rfl, e, hC, hS, hP, hcl, hpl, hf1, hf2⟩
      rw [List.length_map, List.drop_eq_nil_of_le (Nat.le_refl _)] at hf1 hf2
      rw [show (fillG b (ns.length : Int) f t []).1 = [] from rfl, List.append_nil] at hf1
      rw [show (fillG b (ns.length : Int) f t []).2 = [] from rfl, List.append_nil] at hf2
      refine s_retU (eu_tup (ea_cons (ev_var rfl) (ea_cons (ev_var rfl) ea_nil)) l2) fun u H5 hu e5 h5 => k _ _ (e.trans e5) ⟨u, c, s, xs, rfl, fresh_back e hu, hc, hs0, ncs, h5, ?_, e5 _ _ hS, ?_⟩
      · rw [hf1]
        exact e5 _ _ hC
      · rw [hf2]
        exact hP.mono e5
theorem sc_fewest : FnScope ["row", "bound", "place", "load", "cuts", "stretches"] ["row", "bound"] (defScope s_fewest) := ⟨rfl, rfl, rfl, by decide +kernel, rfl, by decide +kernel, by decide +kernel⟩
theorem ok_fewest (T : Tx K mg) : Kept P w K mg base CX0 3 "fewest" ["row", "bound"] (sp_fewest K) := by
  have D_Fewest___init__ : KeptM P w K mg base CX0 1 "Fewest" "__init__" ["self", "cuts", "stretches"] (sp_Fewest___init__ K) := ok_Fewest___init__ T
  have D_Great___init__ : KeptM P w K mg base CX0 1 "Great" "__init__" ["self", "place"] (sp_Great___init__ K) := ok_Great___init__ T
  have D_check_number : Kept P w K mg base CX0 2 "check_number" ["number", "least"] (sp_check_number K) := ok_check_number T
  have D_check_row : Kept P w K mg base CX0 2 "check_row" ["row"] (sp_check_row K) := ok_check_row T
  have D_filled : Kept P w K mg base CX0 1 "filled" ["row", "bound"] (sp_filled K) := ok_filled T
  obtain ⟨fd, F⟩ := T.d_fewest
  refine ⟨⟨fd, F.ok sc_fewest (fun vs H Q E h => by obtain ⟨_, ⟨_, _, _, rfl, _⟩, _⟩ := h; rfl) (fun cdv A outer s H vs Q E hRm h => ?_), F.bindsN fun _ _ _ _ _ _ us hl => match us, hl with | [_, _], _ => rfl⟩, T.g_fewest, F.kp⟩
  · obtain ⟨z, ⟨a, ns, b, rfl, ha, hl, hn, hb, rfl⟩, k⟩ := h
    refine ⟨_, (PSs.nox (pss_cons (ps_expr (pe_d D_check_row (hRm.mono (by decide)) (by rfl) (pa_cons (pv 0) pa_nil))) (pss_cons (ps_expr (pe_d D_check_number (hRm.mono (by decide)) (by rfl) (pa_cons (pv 1) (pa_cons pe_int pa_nil)))) (pss_cons (ps_for PassesOwn.never rfl (pi_enum (by rfl) T.z_enumerate (pa_cons (pv 0) pa_nil)) (pg_tup (by rfl) (pgs_cons (pg_name (i := 2) sc_fewest.nd rfl (Or.inl rfl)) (pgs_cons (pg_name (i := 3) sc_fewest.nd rfl (Or.inl rfl)) pgs_nil))) (pss_one (ps_if (pt_cmpR op_gt (pv 3) (pv 1) (nomark _)) (pss_one (ps_ret (pe_mk T.mk_Great D_Great___init__ (hRm.mono (by decide)) (by rfl) T.g_Great (pa_cons (pv 2) pa_nil)))) pss_nil))) (pss_cons (ps_asg (pe_d D_filled (hRm.mono (by decide)) (by rfl) (pa_cons (pv 0) (pa_cons (pv 1) pa_nil))) (pg_tup (by rfl) (pgs_cons (pg_name (i := 4) sc_fewest.nd rfl (Or.inl rfl)) (pgs_cons (pg_name (i := 5) sc_fewest.nd rfl (Or.inl rfl)) pgs_nil)))) (pss_one (ps_ret (pe_mk T.mk_Fewest D_Fewest___init__ (hRm.mono (by decide)) (by rfl) T.g_Fewest (pa_cons (pv 4) (pa_cons (pv 5) pa_nil)))))))))), ?_⟩
    refine q_drop (ev_callV m_check_row (ea_cons (ev_var rfl) ea_nil) ⟨a, ns, rfl, ha, hl, hn, rfl⟩) fun H1 e1 => ?_
    refine q_drop (ev_callV m_check_number (ea_cons (ev_var rfl) (ea_cons ev_c ea_nil)) ⟨b, 0, rfl, hb, rfl⟩) fun H2 e2 => ?_
    have e12 := e1.trans e2
    refine q_forEn (ea_cons (ev_var rfl) ea_nil) (sq_of (e12 _ _ ha)) (fun i σ' H' => ∃ (v2 v3 : Option V), σ' = [some (.ref a), some (.int b), v2, v3, none, none] ∧ Ex H H' ∧ ∀ j (hj : j < i) (hj2 : j < ns.length), ns[j] ≤ b)
      (fun H3 e3 => ⟨none, none, rfl, e12.trans e3, fun j hj _ => absurd hj (Nat.not_lt_zero _)⟩) (fun i σ' H' _ ⟨_, _, _, e, _⟩ => sq_of (e _ _ ha)) ?_ ?_
    · rintro i x σ' H' hi ⟨v2, v3, rfl, e, hp⟩ H3 e3
      obtain ⟨n, rfl, hn⟩ := int_at hi
      obtain ⟨hi2, hn2⟩ := List.getElem?_eq_some_iff.mp hn
      refine s_when (b := decide (b < n)) (et_test (ev_op (ev_var rfl) (ev_var rfl) rv_I0)) (fun hc H4 e4 => ?_) fun hc H4 e4 => ⟨_, _, rfl, (e.trans e3).trans e4, fun j hj hj2 => ?_⟩
      · have hg : grAt ns b = i := by
          unfold grAt
          rw [List.findIdx_eq hi2]
          refine ⟨by rw [hn2]; exact hc, fun j hj => ?_⟩
          have := hp j hj (by omega)
          simp
          omega
        have hR : fewR K ns b = RGr K (.int (i : Int)) := by
          unfold fewR
          rw [hg, if_pos hi2]
        rw [hR] at k
        exact x_ret (ex_mkGr (ev_var rfl)) fun v H5 e5 r => k _ _ (((e.trans e3).trans e4).trans e5) (anti_Gr _ _ _ _ ((e.trans e3).trans e4) r)
      · have hc2 := of_decide_eq_false hc
        by_cases h : j < i
        · exact hp j h hj2
        · have : j = i := by omega
          subst this
          rw [hn2]
          omega
    · rintro σ' H' ⟨v2, v3, rfl, e, hp⟩
      rw [List.length_map] at hp
      have hg : ¬ grAt ns b < ns.length := fun z => by
        have h1 := List.findIdx_getElem (p := fun n => decide (b < n)) (xs := ns) (w := z)
        have h2 := hp (grAt ns b) z z
        have h3 := of_decide_eq_true h1
        unfold grAt at h2
        omega
      have hR : fewR K ns b = RFewP K (fillC ns b) (fillS ns b) := by
        unfold fewR
        rw [if_neg hg]
      rw [hR] at k
      refine x_asgT2 (ex_call m_filled anti_Fill (ea_cons (ev_var rfl) (ea_cons (ev_var rfl) ea_nil)) ⟨a, ns, b, rfl, e _ _ ha, hl, rfl⟩) fun v H3 e3 r => ?_
      obtain ⟨t, c, s, xs, rfl, ht, hc, hs, ncs, hT, hC, hS, hP⟩ := r
      refine ⟨t, _, _, rfl, st_of hT, ?_⟩
      exact x_ret (ex_mkFew (rl_old (ev_var rfl) hC) (rl_old (ev_var rfl) hS)) fun v H4 e4 r => k _ _ ((e.trans e3).trans e4) ⟨xs, anti_Few _ _ _ _ (e.trans e3) r, hP.mono e4⟩
theorem sc_fullest : FnScope ["row", "bound", "places", "total", "place", "load"] ["row", "bound"] (defScope s_fullest) := ⟨rfl, rfl, rfl, by decide +kernel, rfl, by decide +kernel, by decide +kernel⟩
theorem ok_fullest (T : Tx K mg) : Kept P w K mg base CX0 3 "fullest" ["row", "bound"] (sp_fullest K) := by
  have D_Most___init__ : KeptM P w K mg base CX0 1 "Most" "__init__" ["self", "cuts", "places"] (sp_Most___init__ K) := ok_Most___init__ T
  have D_check_number : Kept P w K mg base CX0 2 "check_number" ["number", "least"] (sp_check_number K) := ok_check_number T
  have D_check_row : Kept P w K mg base CX0 2 "check_row" ["row"] (sp_check_row K) := ok_check_row T
  obtain ⟨fd, F⟩ := T.d_fullest
  refine ⟨⟨fd, F.ok sc_fullest (fun vs H Q E h => by obtain ⟨_, ⟨_, _, _, rfl, _⟩, _⟩ := h; rfl) (fun cdv A outer s H vs Q E hRm h => ?_), F.bindsN fun _ _ _ _ _ _ us hl => match us, hl with | [_, _], _ => rfl⟩, T.g_fullest, F.kp⟩
  · obtain ⟨z, ⟨a, ns, b, rfl, ha, hl, hn, hb, rfl⟩, k⟩ := h
    refine ⟨_, (PSs.nox (pss_cons (ps_expr (pe_d D_check_row (hRm.mono (by decide)) (by rfl) (pa_cons (pv 0) pa_nil))) (pss_cons (ps_expr (pe_d D_check_number (hRm.mono (by decide)) (by rfl) (pa_cons (pv 1) (pa_cons pe_int pa_nil)))) (pss_cons (ps_set (i := 2) sc_fullest.nd rfl (Or.inl rfl) (pe_lst pa_nil)) (pss_cons (ps_set (i := 3) sc_fullest.nd rfl (Or.inl rfl) pe_int) (pss_cons (ps_for PassesOwn.never rfl (pi_enum (by rfl) T.z_enumerate (pa_cons (pv 0) pa_nil)) (pg_tup (by rfl) (pgs_cons (pg_name (i := 4) sc_fullest.nd rfl (Or.inl rfl)) (pgs_cons (pg_name (i := 5) sc_fullest.nd rfl (Or.inl rfl)) pgs_nil))) (pss_cons (ps_aug (i := 3) sc_fullest.nd rfl (Or.inl rfl) (pv 5) ip_add) (pss_one (ps_if (pt_cmpR op_ge (pv 3) (pv 1) (nomark _)) (pss_cons (ps_expr (pe_bm PySem.F.plainAttrs_list PySem.F.slot_list_append PySem.F.type_list_append mt_append (pv 2) (pa_cons (pv 4) pa_nil))) (pss_one (ps_set (i := 3) sc_fullest.nd rfl (Or.inl rfl) pe_int))) pss_nil)))) (pss_one (ps_ret (pe_mk T.mk_Most D_Most___init__ (hRm.mono (by decide)) (by rfl) T.g_Most (pa_cons (pe_lc (own := [("place", 4)]) (g := gName 4) (tt := tYes) rfl sc_fullest.nd (pi_list (pe_slice sl_list (pv 2) po_none (po_some (pe_un un_neg pe_int)))) (blkOk_by (N := ["row", "bound", "places", "total", "place", "load"]) (sc := defScope s_fullest) (by decide +kernel)) (fun _ _ _ _ _ => pg_name (i := 4) sc_fullest.nd rfl (Or.inl rfl)) (fun _ _ _ _ _ => pts_nil) (fun _ _ _ _ _ => (pe_op op_add (pv 4) pe_int))) (pa_cons (pv 2) pa_nil))))))))))), ?_⟩
    refine q_drop (ev_callV m_check_row (ea_cons (ev_var rfl) ea_nil) ⟨a, ns, rfl, ha, hl, hn, rfl⟩) fun H1 e1 => ?_
    refine q_drop (ev_callV m_check_number (ea_cons (ev_var rfl) (ea_cons ev_c ea_nil)) ⟨b, 1, rfl, hb, rfl⟩) fun H2 e2 => ?_
    refine q_asgL (xs := ([] : List Int).map V.int) (el_lst ea_nil (by decide)) fun c H3 hc e3 h3 => ?_
    refine q_asg ev_c fun H4 e4 => ?_
    have e12 := e1.trans e2
    have e14 := (e12.trans e3).trans e4
    have hc0 := fresh_back e12 hc
    refine q_forEn (ea_cons (ev_var rfl) ea_nil) (sq_of (e14 _ _ ha)) (fun i σ' H' => ∃ (t : Int) (v4 v5 : Option V) (cs : List Int), σ' = [some (.ref a), some (.int b), some (.ref c), some (.int t), v4, v5] ∧ Ex H H' ∧ H' c = some (.lst (cs.map V.int)) ∧ cs.length ≤ i ∧ fullP ns b = cs ++ fullG b i t (ns.drop i))
      (fun H5 e5 => ⟨0, none, none, [], rfl, e14.trans e5, (e4.trans e5) _ _ h3, Nat.le_refl _, rfl⟩) (fun i σ' H' _ ⟨_, _, _, _, _, e, _⟩ => sq_of (e _ _ ha)) ?_ ?_
    · rintro i x σ' H' hi ⟨t, v4, v5, cs, rfl, e, hC, hcl, hf⟩ H5 e5
      obtain ⟨n, rfl, hn⟩ := int_at hi
      have hi2 := (List.getElem?_eq_some_iff.mp hn).1
      rw [drop_at hn, fullG] at hf
      refine q_aug (a := t) (b := n) rfl (ev_var rfl) fun H6 e6 => ?_
      have e56 := e5.trans e6
      refine s_when (b := decide (b ≤ t + n)) (et_test (ev_op (ev_var rfl) (ev_var rfl) rv_I0)) (fun hb H7 e7 => ?_) fun hb H7 e7 => ?_
      · rw [if_pos (of_decide_eq_true hb)] at hf
        have e57 := e56.trans e7
        refine q_app (e57 _ _ hC) (ev_var rfl) (ev_var rfl) (by rw [List.length_map]; omega) fun H8 e8 => ?_
        refine s_asg ev_c fun H9 e9 => ⟨0, _, _, cs ++ [(i : Int)], rfl, (Ex.mut ((e.trans e57).trans e8) hc0).trans e9, ?_, ?_, ?_⟩
        · rw [List.map_append]
          exact e9 _ _ upd_same
        · rw [List.length_append, List.length_singleton]
          omega
        · rw [hf, List.append_assoc, show (((i + 1 : Nat)) : Int) = (i : Int) + 1 by omega]
          rfl
      · rw [if_neg (of_decide_eq_false hb)] at hf
        have e57 := e56.trans e7
        exact ⟨t + n, _, _, cs, rfl, e.trans e57, e57 _ _ hC, by omega, by rw [hf, show (((i + 1 : Nat)) : Int) = (i : Int) + 1 by omega]⟩
    · rintro σ' H' ⟨t, v4, v5, cs, rfl, e, hC, hcl, hf⟩
      rw [List.length_map] at hcl hf
      rw [List.drop_eq_nil_of_le (Nat.le_refl _), show fullG b (ns.length : Int) t [] = [] from rfl, List.append_nil] at hf
      rw [hf] at k
      exact x_ret (ex_mkMst (xs := (cutsOf cs).map V.int) (rl_new (el_mapNII (ns := cs.dropLast) (fun n => n + 1) (el_is (el_sl (ev_var rfl) eo_none (eo_some (ev_un ev_c ru_neg)) (sq_of hC)) (by rw [cutV_last, List.map_dropLast])) (by rw [List.length_dropLast]; omega) (fun x => rfl) fun n H5 e5 hm => ev_op (ev_var rfl) ev_c rv_I0)) (rl_old (ev_var rfl) hC)) fun v H5 e5 r => k _ _ (e.trans e5) (anti_Mst _ _ _ _ e r)
theorem mx0_ok {ns : List Int} : 0 ≤ mxL (0 :: ns) ∧ (∀ n ∈ ns, n ≤ mxL (0 :: ns)) ∧ (mxL (0 :: ns) = 0 ∨ mxL (0 :: ns) ∈ ns) := by
  refine ⟨mxL_ge List.mem_cons_self, fun n hn => mxL_ge (List.mem_cons_of_mem _ hn), ?_⟩
  have := mxL_mem (ns := 0 :: ns) (by simp)
  exact List.mem_cons.mp this
section
variable {σ : L2.St} {H : Hp} {ta tb tc : TE}
/-- filled(row, bound)[0], [1] -/
theorem rl_fill0 {a : Addr} {ns : List Int} {b : Int} (ha : Ev ta σ H (.ref a)) (hb : Ev tb σ H (.int b)) (h : H a = some (.lst (ns.map V.int))) (hl : ns.length ≤ 1000) : EvRL (tOp (rIxT K) (tCall (sp_filled K) [] E0 (tCons ta (tCons tb tNil))) (tC (.int 0))) σ H ((fillC ns b).map V.int) := fun H1 e Q q =>
  ex_call m_filled anti_Fill (ea_cons ha (ea_cons hb ea_nil)) ⟨a, ns, b, rfl, h, hl, rfl⟩ H1 e _ fun v H2 e2 r => by
    obtain ⟨t, c, s, xs, rfl, ht, hc, hs, ncs, hT, hC, hS, hP⟩ := r
    exact ⟨t, _, 0, .ref c, rfl, rfl, st_of hT, rfl, q c H2 e2 hC⟩
theorem ev_fillLen {a : Addr} {ns : List Int} {b : Int} (ha : Ev ta σ H (.ref a)) (hb : Ev tb σ H (.int b)) (h : H a = some (.lst (ns.map V.int))) (hl : ns.length ≤ 1000) :
    Ev (tCB (fun xs H Q => ∃ p ys, xs = [.ref p] ∧ (SqL K H p ys ∨ SqT K H p ys) ∧ Q (.int ys.length) H) (tCons (tOp (rIxT K) (tCall (sp_filled K) [] E0 (tCons ta (tCons tb tNil))) (tC (.int 0))) tNil)) σ H (.int ((fillC ns b).length : Int)) := fun H1 e Q q =>
  rl_fill0 ha hb h hl H1 e _ fun c H2 e2 hc => ⟨c, _, rfl, .inl (sq_of hc), by rw [List.length_map]; exact q H2 e2⟩
/-- filled(row, bound)[1][:count] -/
theorem ex_fillS {a : Addr} {ns : List Int} {b m : Int} (ha : Ev ta σ H (.ref a)) (hb : Ev tb σ H (.int b)) (hm : Ev tc σ H (.int m)) (h0 : 0 ≤ m) (h : H a = some (.lst (ns.map V.int))) (hl : ns.length ≤ 1000) :
    EvX (tSl (rSlL K) (tOp (rIxT K) (tCall (sp_filled K) [] E0 (tCons ta (tCons tb tNil))) (tC (.int 1))) tNoPart (tPart tc)) σ H (fun H1 v H2 => ∃ (p : Addr) (xs : List V), v = .ref p ∧ H1 p = none ∧ H2 p = some (.lst xs) ∧ Prs H2 xs ((fillS ns b).take m.toNat)) := fun H1 e Q q =>
  ex_call m_filled anti_Fill (ea_cons ha (ea_cons hb ea_nil)) ⟨a, ns, b, rfl, h, hl, rfl⟩ H1 e _ fun v H2 e2 r => by
    obtain ⟨t, c, s, xs, rfl, ht, hc, hs, ncs, hT, hC, hS, hP⟩ := r
    refine ⟨t, _, 1, .ref s, rfl, rfl, st_of hT, rfl, ?_⟩
    refine hm H2 (e.trans e2) _ fun H3 e3 => ⟨m, rfl, s, xs, rfl, sq_of (e3 _ _ hS), fun p hp => ?_⟩
    have eq : cutV xs none (some m) = xs.take m.toNat := by
      rw [show m = ((m.toNat : Nat) : Int) by omega]
      exact cutV_to
    refine q (.ref p) _ ((e2.trans e3).trans (Ex.new hp)) ⟨p, _, rfl, fresh_back (e2.trans e3) hp, upd_same, ?_⟩
    rw [eq]
    exact (hP.mono (e3.trans (Ex.new hp))).take _
end
theorem sc_lowest : FnScope ["row", "count", "low", "high", "middle", "stretches"] ["row", "count"] (defScope s_lowest) := ⟨rfl, rfl, rfl, by decide +kernel, rfl, by decide +kernel, by decide +kernel⟩
theorem ok_lowest (T : Tx K mg) : Kept P w K mg base CX0 3 "lowest" ["row", "count"] (sp_lowest K) := by
  have D_Least___init__ : KeptM P w K mg base CX0 1 "Least" "__init__" ["self", "cuts", "number", "stretches"] (sp_Least___init__ K) := ok_Least___init__ T
  have D_check_number : Kept P w K mg base CX0 2 "check_number" ["number", "least"] (sp_check_number K) := ok_check_number T
  have D_check_row : Kept P w K mg base CX0 2 "check_row" ["row"] (sp_check_row K) := ok_check_row T
  have D_filled : Kept P w K mg base CX0 1 "filled" ["row", "bound"] (sp_filled K) := ok_filled T
  obtain ⟨fd, F⟩ := T.d_lowest
  refine ⟨⟨fd, F.ok sc_lowest (fun vs H Q E h => by obtain ⟨_, ⟨_, _, _, rfl, _⟩, _⟩ := h; rfl) (fun cdv A outer s H vs Q E hRm h => ?_), F.bindsN fun _ _ _ _ _ _ us hl => match us, hl with | [_, _], _ => rfl⟩, T.g_lowest, F.kp⟩
  · obtain ⟨z, ⟨a, ns, m, rfl, ha, hl, hn, hm, rfl⟩, k⟩ := h
    refine ⟨_, (PSs.nox (pss_cons (ps_expr (pe_d D_check_row (hRm.mono (by decide)) (by rfl) (pa_cons (pv 0) pa_nil))) (pss_cons (ps_expr (pe_d D_check_number (hRm.mono (by decide)) (by rfl) (pa_cons (pv 1) (pa_cons pe_int pa_nil)))) (pss_cons (ps_set (i := 2) sc_lowest.nd rfl (Or.inl rfl) (pe_callB (cr_max rfl) (by rfl) T.z_max bo_max (pa_cons (pe_op op_cat (pe_lst (pa_cons pe_int pa_nil)) (pv 0)) pa_nil))) (pss_cons (ps_set (i := 3) sc_lowest.nd rfl (Or.inl rfl) (pe_callB (cr_sum rfl) (by rfl) T.z_sum bo_sum (pa_cons (pv 0) pa_nil))) (pss_cons (ps_while PassesOwn.never (pt_cmpR op_lt (pv 2) (pv 3) (nomark _)) (pss_cons (ps_set (i := 4) sc_lowest.nd rfl (Or.inl rfl) (pe_op op_fdiv (pe_op op_add (pv 2) (pv 3)) pe_int)) (pss_one (ps_if (pt_cmpR op_lt (pe_callB call_len_seq (by rfl) T.z_len bo_len (pa_cons (pe_ix ix_tup (pe_d D_filled (hRm.mono (by decide)) (by rfl) (pa_cons (pv 0) (pa_cons (pv 4) pa_nil))) pe_int (fun _ _ => rfl)) pa_nil)) (pv 1) (nomark _)) (pss_one (ps_set (i := 3) sc_lowest.nd rfl (Or.inl rfl) (pv 4))) (pss_one (ps_set (i := 2) sc_lowest.nd rfl (Or.inl rfl) (pe_op op_add (pv 4) pe_int))))))) (pss_cons (ps_set (i := 5) sc_lowest.nd rfl (Or.inl rfl) (pe_lst pa_nil)) (pss_cons (ps_if (PW.pt (pw_and (pt_cmpR op_gt (pv 2) pe_int (nomark _)) (pw_and1 (pt_cmpR op_notIn_seq (pv 2) (pv 0) (by rfl))))) (pss_one (ps_set (i := 5) sc_lowest.nd rfl (Or.inl rfl) (pe_slice sl_list (pe_ix ix_tup (pe_d D_filled (hRm.mono (by decide)) (by rfl) (pa_cons (pv 0) (pa_cons (pe_op op_sub (pv 2) pe_int) pa_nil))) pe_int (fun _ _ => rfl)) po_none (po_some (pv 1))))) pss_nil) (pss_one (ps_ret (pe_mk T.mk_Least D_Least___init__ (hRm.mono (by decide)) (by rfl) T.g_Least (pa_cons (pe_ix ix_tup (pe_d D_filled (hRm.mono (by decide)) (by rfl) (pa_cons (pv 0) (pa_cons (pv 2) pa_nil))) pe_int (fun _ _ => rfl)) (pa_cons (pv 2) (pa_cons (pv 5) pa_nil)))))))))))))), ?_⟩
    refine q_drop (ev_callV m_check_row (ea_cons (ev_var rfl) ea_nil) ⟨a, ns, rfl, ha, hl, hn, rfl⟩) fun H1 e1 => ?_
    refine q_drop (ev_callV m_check_number (ea_cons (ev_var rfl) (ea_cons ev_c ea_nil)) ⟨m, 1, rfl, hm, rfl⟩) fun H2 e2 => ?_
    have e12 := e1.trans e2
    have hn0 : ∀ n ∈ ns, 0 ≤ n := fun n h => (hn n h).1
    obtain ⟨mx0, mx1, mx2⟩ := mx0_ok (ns := ns)
    have hsum : mxL (0 :: ns) ≤ ns.sum := by
      rcases mx2 with z | z
      · rw [z]
        exact sum_nn hn0
      · obtain ⟨u, w, e⟩ := List.append_of_mem z
        have h1 := sum_nn (ns := u) fun n hh => hn0 n (by rw [e]; exact List.mem_append_left _ hh)
        have h2 := sum_nn (ns := w) fun n hh => hn0 n (by rw [e]; exact List.mem_append_right _ (List.mem_cons_of_mem _ hh))
        have h3 : ns.sum = u.sum + (mxL (0 :: ns) + w.sum) := by
          conv => lhs; rw [e]
          rw [List.sum_append, List.sum_cons]
        omega
    refine q_asg (v := .int (mxL (0 :: ns))) (ev_maxN (ns := 0 :: ns) (el_is (el_cat2 (el_lst (ea_cons ev_c ea_nil) (by decide)) (ev_var rfl) (e12 _ _ ha) (by rw [List.length_map]; simp; omega)) rfl) (by simp)) fun H3 e3 => ?_
    refine q_asg (ev_sum (ev_var rfl) (sq_of ((e12.trans e3) _ _ ha))) fun H4 e4 => ?_
    have e14 := (e12.trans e3).trans e4
    refine q_while (fun w σ' H' => ∃ (low high : Int) (v4 : Option V), σ' = [some (.ref a), some (.int m), some (.int low), some (.int high), v4, none] ∧ Ex H H' ∧ w = (high - low).toNat ∧ mxL (0 :: ns) ≤ low ∧ low ≤ high ∧ ((fillC ns high).length : Int) < m ∧ (low = mxL (0 :: ns) ∨ ¬ ((fillC ns (low - 1)).length : Int) < m)) _
      ⟨mxL (0 :: ns), ns.sum, none, rfl, e14, rfl, Int.le_refl _, hsum, by rw [fillC_sum hn0]; exact Int.lt_of_lt_of_le (by decide) hm, .inl rfl⟩ ?_
    rintro w σ' H' ⟨low, high, v4, rfl, e, rfl, hlo, hlh, hP, hN⟩
    refine ⟨decide (low < high), et_test (ev_op (ev_var rfl) (ev_var rfl) rv_I0), fun hb H5 e5 => ?_, fun hb H5 e5 => ?_⟩
    · have hb2 := of_decide_eq_true hb
      refine ⟨fun σ2 H2 => ∃ (low2 high2 : Int) (v4 : Option V), σ2 = [some (.ref a), some (.int m), some (.int low2), some (.int high2), v4, none] ∧ Ex H H2 ∧ (high2 - low2).toNat < (high - low).toNat ∧ mxL (0 :: ns) ≤ low2 ∧ low2 ≤ high2 ∧ ((fillC ns high2).length : Int) < m ∧ (low2 = mxL (0 :: ns) ∨ ¬ ((fillC ns (low2 - 1)).length : Int) < m),
        fun σ2 H2 ⟨low2, high2, v4, e1, e2, e3, e4⟩ => ⟨_, e3, low2, high2, v4, e1, e2, rfl, e4⟩, ?_⟩
      refine q_asg (v := .int ((low + high) / 2)) (ev_op (ev_op (ev_var rfl) (ev_var rfl) rv_I0) ev_c (rv_I ⟨by decide, by decide⟩)) fun H6 e6 => ?_
      have e06 := (e.trans e5).trans e6
      refine s_if (b := decide (((fillC ns ((low + high) / 2)).length : Int) < m)) (et_test (ev_op (ev_fillLen (ev_var rfl) (ev_var rfl) (e06 _ _ ha) hl) (ev_var rfl) rv_I0)) (fun hc H7 e7 => ?_) fun hc H7 e7 => ?_
      · exact s_asg (ev_var rfl) fun H8 e8 => ⟨low, (low + high) / 2, _, rfl, (e06.trans e7).trans e8, by omega, hlo, by omega, of_decide_eq_true hc, hN⟩
      · refine s_asg (ev_op (ev_var rfl) ev_c rv_I0) fun H8 e8 => ⟨(low + high) / 2 + 1, high, _, rfl, (e06.trans e7).trans e8, by omega, by omega, by omega, hP, .inr ?_⟩
        rw [show (low + high) / 2 + 1 - 1 = (low + high) / 2 by omega]
        exact of_decide_eq_false hc
    · have hb2 := of_decide_eq_false hb
      have hE : high = low := by omega
      subst hE
      have e05 := e.trans e5
      refine q_asgL (xs := ([] : List V)) (el_lst ea_nil (by decide)) fun s0 H6 hs0 e6 h6 => ?_
      have e06 := e05.trans e6
      have hh : ∀ n ∈ ns, 0 ≤ n ∧ n ≤ high := fun n h => ⟨hn0 n h, Int.le_trans (mx1 n h) hlo⟩
      have hF := fill_is hh (Int.le_trans mx0 hlo)
      have hcl : (fillC ns high).length ≤ ns.length := (fillG_len high ns 0 0 0).1
      -- behind the test the stretches are ps, at s
      have fin : ∀ (ps : List (Int × Int)) (s : Addr) (xs : List V) (H7 : Hp), Ex H6 H7 → H7 s = some (.lst xs) → Prs H7 xs ps → ps.length ≤ ns.length → (high = 0 ∨ high ∈ ns ∨ ((ps.length : Int) = m ∧ lnkB ns 0 ps (high - 1) = true)) →
          tRet (tMake (C_Lst K) (sp_Least___init__ K) [] E0 (tCons (tOp (rIxT K) (tCall (sp_filled K) [] E0 (tCons (tVar 0) (tCons (tVar 2) tNil))) (tC (.int 0))) (tCons (tVar 2) (tCons (tVar 5) tNil)))) { nx := fun _ H' => Q .non H', rt := Q } [some (.ref a), some (.int m), some (.int high), some (.int high), v4, some (.ref s)] H7 := fun ps s xs H7 e7 hs hPr hpl why =>
        x_ret (ex_mkLst (rl_fill0 (ev_var rfl) (ev_var rfl) ((e06.trans e7) _ _ ha) hl) (ev_var rfl) (rl_old (ev_var rfl) hs)) fun v H8 e8 r => k _ _ ((e06.trans e7).trans e8) ⟨fillC ns high, high, ps, xs, ⟨Int.le_trans mx0 hlo, hF.ris, hP, hF.all, why⟩, hcl, hpl, anti_Lst _ _ _ _ (e06.trans e7) r, hPr.mono e8⟩
      refine q_when (b := decide (0 < high) && !decide (high ∈ ns)) (et_and (et_test (ev_op (ev_var rfl) ev_c rv_I0)) fun _ => et_test (ev_op (ev_var rfl) (ev_var rfl) (rv_niI (sq_of (e06 _ _ ha))))) (fun hc H7 e7 => ?_) fun hc H7 e7 => ?_
      · simp only [Bool.and_eq_true, decide_eq_true_eq, Bool.not_eq_true', decide_eq_false_iff_not] at hc
        obtain ⟨hc1, hc2⟩ := hc
        have hne : high ≠ mxL (0 :: ns) := fun z => by
          rcases mx2 with q | q
          · omega
          · rw [← z] at q
            exact hc2 q
        have hN2 : ¬ ((fillC ns (high - 1)).length : Int) < m := hN.resolve_left hne
        have hF2 := fill_is (b := high - 1) (fun n h => ⟨hn0 n h, by have := mx1 n h; omega⟩) (by omega)
        refine x_asg (D := { nx := fun _ H' => Q .non H', rt := Q }) (ex_fillS (ev_var rfl) (ev_op (ev_var rfl) ev_c rv_I0) (ev_var rfl) (by omega) ((e06.trans e7) _ _ ha) hl) fun v H8 e8 r => ?_
        obtain ⟨p, xs, rfl, hp0, hp, hPr⟩ := r
        have hlen := hF2.len
        have hlt : ((fillS ns (high - 1)).take m.toNat).length = m.toNat := by
          rw [List.length_take]
          omega
        refine fin _ p xs H8 (e7.trans e8) hp hPr ?_ (.inr (.inr ⟨by rw [hlt]; omega, lnk_take _ _ _ _ _ hF2.lnk⟩))
        have := (fillG_len (high - 1) ns 0 0 0).2
        rw [List.length_take]
        exact Nat.le_trans (Nat.min_le_right _ _) this
      · refine fin [] s0 [] H7 e7 (e7 _ _ h6) Prs.nil (Nat.zero_le _) ?_
        by_cases h0 : 0 < high
        · right
          left
          rw [decide_eq_true h0, Bool.true_and, Bool.not_eq_false'] at hc
          exact of_decide_eq_true hc
        · left
          omega

end
end Ct
namespace Ct
open PySem PySem.Spec PyProof.Rows L2 Evl
open He (ga ma)
section
variable {P : Program} {w : World} {K : PySem.W.Frag} {mg : Str → Option Value} {base : Heap}
/-! ### what is refused -/
def whV : V → Bool
  | .int _ => true
  | _ => false
def itB : V → Bool
  | .int i => decide (0 ≤ i) && decide (i ≤ 1000000)
  | _ => false
def risV : Int → List V → Int → Bool
  | _, [], _ => true
  | l, .int c :: r, m => (decide (l < c) && decide (c < m)) && risV c r m
  | _, _ :: _, _ => false
def NoInt (K : PySem.W.Frag) (H : Hp) (x : V) : Prop := whV x = false ∧ ∃ n b c, TyX K H x (.type n) ∧ kitB n "int" = some b ∧ kitB n "bool" = some c ∧ (b && !c) = false
def Thing (K : PySem.W.Frag) (H : Hp) (x : V) : Prop := (∃ i, x = .int i) ∨ NoInt K H x
def NoList (K : PySem.W.Frag) (H : Hp) (x : V) : Prop := ∃ n, TyX K H x (.type n) ∧ kitB n "list" = some false
def NoRow (K : PySem.W.Frag) (H : Hp) (x : V) : Prop := NoList K H x ∨ ∃ a xs, x = .ref a ∧ H a = some (.lst xs) ∧ xs.length ≤ 1000 ∧ (∀ y ∈ xs, Thing K H y) ∧ xs.all itB = false
def NoNum (K : PySem.W.Frag) (H : Hp) (x : V) (l : Int) : Prop := (∃ i, x = .int i ∧ i < l) ∨ NoInt K H x
def NoCuts (K : PySem.W.Frag) (H : Hp) (x : V) (m : Int) : Prop := NoList K H x ∨ ∃ a xs, x = .ref a ∧ H a = some (.lst xs) ∧ (∀ y ∈ xs, Thing K H y) ∧ risV 0 xs m = false
section
variable {H H' : Hp} {x : V} {l m : Int}
theorem NoInt.mono (e : Ex H H') (h : NoInt K H x) : NoInt K H' x := let ⟨w, n, b, c, h1, h2⟩ := h; ⟨w, n, b, c, tyx_ex e h1, h2⟩
theorem Thing.mono (e : Ex H H') (h : Thing K H x) : Thing K H' x := h.imp id fun h => h.mono e
theorem NoList.mono (e : Ex H H') (h : NoList K H x) : NoList K H' x := let ⟨n, h1, h2⟩ := h; ⟨n, tyx_ex e h1, h2⟩
theorem NoRow.mono (e : Ex H H') (h : NoRow K H x) : NoRow K H' x := h.imp (fun h => h.mono e) fun ⟨a, xs, h1, h2, h3, h4, h5⟩ => ⟨a, xs, h1, e _ _ h2, h3, fun y hy => (h4 y hy).mono e, h5⟩
theorem NoNum.mono (e : Ex H H') (h : NoNum K H x l) : NoNum K H' x l := h.imp id fun h => h.mono e
theorem NoCuts.mono (e : Ex H H') (h : NoCuts K H x m) : NoCuts K H' x m := h.imp (fun h => h.mono e) fun ⟨a, xs, h1, h2, h4, h5⟩ => ⟨a, xs, h1, e _ _ h2, fun y hy => (h4 y hy).mono e, h5⟩
theorem noInt_whole (h : NoInt K H x) : F_is_whole K [x] H (.bl false) := let ⟨_, n, b, c, h1, h2, h3, h4⟩ := h; ⟨x, n, b, c, rfl, h1, h2, h3, by rw [h4]⟩
end
section
variable {σ : L2.St} {H : Hp} {D : Ends} {te ta tb : TE} {t : TT} {tz : TS} {Q : VK}
theorem r_drop (h : te σ H fun _ H1 => tz D σ H1) : tSeq (tDrop te) tz D σ H := h
theorem r_ret (h : te σ H D.rt) : tRet te D σ H := h
theorem er_if {b : Bool} (h : EvT t σ H b) (h1 : b = true → ∀ H1, Ex H H1 → ta σ H1 Q) (h2 : b = false → ∀ H1, Ex H H1 → tb σ H1 Q) : tIf t ta tb σ H Q := h H (Ex.refl H) _ fun H1 e => by
  cases b with
  | true =>
    show ta σ H1 Q
    exact h1 rfl H1 e
  | false =>
    show tb σ H1 Q
    exact h2 rfl H1 e
end
def GoodRow (H : Hp) (a : Addr) (ns : List Int) : Prop := H a = some (.lst (ns.map V.int)) ∧ ns.length ≤ 1000 ∧ ∀ n ∈ ns, 0 ≤ n ∧ n ≤ 1000000
theorem GoodRow.mono {H H' : Hp} {a : Addr} {ns : List Int} (e : Ex H H') (h : GoodRow H a ns) : GoodRow H' a ns := ⟨e _ _ h.1, h.2⟩
def F_are_cutsG (K : PySem.W.Frag) : VF := fun vs H z => ∃ (a : Addr) (xs : List V) (m : Int), vs = [.ref a, .int m] ∧ H a = some (.lst xs) ∧ (∀ y ∈ xs, Thing K H y) ∧ z = .bl (risV 0 xs m)
def sp_are_cutsG (K : PySem.W.Frag) : Sp := Pv (F_are_cutsG K)
theorem m_are_cutsG : MonoV (F_are_cutsG K) := fun vs H H1 z e ⟨a, xs, m, h1, h2, h3, h4⟩ => ⟨a, xs, m, h1, e _ _ h2, fun y hy => (h3 y hy).mono e, h4⟩
def F_check_rowX (K : PySem.W.Frag) : List V → Hp → Prop := fun vs H => ∃ x, vs = [x] ∧ NoRow K H x
def sp_check_rowX (K : PySem.W.Frag) : Sp := Rz K "BadRow" (F_check_rowX K)
theorem m_check_rowX : MonoF (F_check_rowX K) := fun vs H H1 e ⟨x, h1, h2⟩ => ⟨x, h1, h2.mono e⟩
def F_check_numberN (K : PySem.W.Frag) : List V → Hp → Prop := fun vs H => ∃ x l, vs = [x, .int l] ∧ NoNum K H x l
def sp_check_numberN (K : PySem.W.Frag) : Sp := Rz K "BadNumber" (F_check_numberN K)
theorem m_check_numberN : MonoF (F_check_numberN K) := fun vs H H1 e ⟨x, l, h1, h2⟩ => ⟨x, l, h1, h2.mono e⟩
def F_check_cutsY (K : PySem.W.Frag) : List V → Hp → Prop := fun vs H => ∃ x m, vs = [x, .int m] ∧ NoCuts K H x m
def sp_check_cutsY (K : PySem.W.Frag) : Sp := Rz K "BadCuts" (F_check_cutsY K)
theorem m_check_cutsY : MonoF (F_check_cutsY K) := fun vs H H1 e ⟨x, m, h1, h2⟩ => ⟨x, m, h1, h2.mono e⟩
/-- a bad row alone, with a second argument -/
def F_row2X (K : PySem.W.Frag) : List V → Hp → Prop := fun vs H => ∃ x y, vs = [x, y] ∧ NoRow K H x
theorem m_row2X : MonoF (F_row2X K) := fun vs H H1 e ⟨x, y, h1, h2⟩ => ⟨x, y, h1, h2.mono e⟩
def F_cuts2Y (K : PySem.W.Frag) : List V → Hp → Prop := fun vs H => ∃ a ns y, vs = [.ref a, y] ∧ GoodRow H a ns ∧ NoCuts K H y ns.length
theorem m_cuts2Y : MonoF (F_cuts2Y K) := fun vs H H1 e ⟨a, ns, y, h1, h2, h3⟩ => ⟨a, ns, y, h1, h2.mono e, h3.mono e⟩
def F_num2N (K : PySem.W.Frag) (l : Int) : List V → Hp → Prop := fun vs H => ∃ a ns y, vs = [.ref a, y] ∧ GoodRow H a ns ∧ NoNum K H y l
theorem m_num2N {l : Int} : MonoF (F_num2N K l) := fun vs H H1 e ⟨a, ns, y, h1, h2, h3⟩ => ⟨a, ns, y, h1, h2.mono e, h3.mono e⟩
def sp_borneX (K : PySem.W.Frag) : Sp := Rz K "BadRow" (F_row2X K)
def sp_writtenX (K : PySem.W.Frag) : Sp := Rz K "BadRow" (F_row2X K)
def sp_fewestX (K : PySem.W.Frag) : Sp := Rz K "BadRow" (F_row2X K)
def sp_lowestX (K : PySem.W.Frag) : Sp := Rz K "BadRow" (F_row2X K)
def sp_fullestX (K : PySem.W.Frag) : Sp := Rz K "BadRow" (F_row2X K)
def sp_halvedX (K : PySem.W.Frag) : Sp := Rz K "BadRow" (F_check_rowX K)
def sp_borneY (K : PySem.W.Frag) : Sp := Rz K "BadCuts" (F_cuts2Y K)
def sp_writtenY (K : PySem.W.Frag) : Sp := Rz K "BadCuts" (F_cuts2Y K)
def sp_fewestN (K : PySem.W.Frag) : Sp := Rz K "BadNumber" (F_num2N K 0)
def sp_lowestN (K : PySem.W.Frag) : Sp := Rz K "BadNumber" (F_num2N K 1)
def sp_fullestN (K : PySem.W.Frag) : Sp := Rz K "BadNumber" (F_num2N K 1)
theorem ok_are_cutsG (T : Tx K mg) : Kept P w K mg base CX0 2 "are_cuts" ["cuts", "many"] (sp_are_cutsG K) := by
  have D_is_whole : Kept P w K mg base CX0 1 "is_whole" ["thing"] (sp_is_whole K) := ok_is_whole T
  obtain ⟨fd, F⟩ := T.d_are_cuts
  refine ⟨⟨fd, F.ok sc_are_cuts (fun vs H Q E h => by obtain ⟨_, ⟨_, _, _, rfl, _⟩, _⟩ := h; rfl) (fun cdv A outer s H vs Q E hRm h => ?_), F.bindsN fun _ _ _ _ _ _ us hl => match us, hl with | [_, _], _ => rfl⟩, T.g_are_cuts, F.kp⟩
  · obtain ⟨z, ⟨a, xs, m, rfl, ha, hy, rfl⟩, k⟩ := h
    refine ⟨_, (PSs.nox (pss_cons (ps_set (i := 2) sc_are_cuts.nd rfl (Or.inl rfl) pe_int) (pss_cons (ps_for PassesOwn.never rfl (pi_list (pv 0)) (pg_name (i := 3) sc_are_cuts.nd rfl (Or.inl rfl)) (pss_cons (ps_if (PW.pt (pw_or (pt_not (pt_val (pe_d D_is_whole (hRm.mono (by decide)) (by rfl) (pa_cons (pv 3) pa_nil)))) (pw_or1 (pt_not (pt_chain op_lt op_lt (pv 2) (pv 3) (pv 1)))))) (pss_one (ps_ret pe_bl)) pss_nil) (pss_one (ps_set (i := 2) sc_are_cuts.nd rfl (Or.inl rfl) (pv 3))))) (pss_one (ps_ret pe_bl))))), ?_⟩
    refine q_asg ev_c fun H1 e1 => ?_
    refine q_forLn (ev_var rfl) (sq_of (e1 _ _ ha)) (fun i σ' H' => ∃ l v, σ' = [some (.ref a), some (.int m), some (.int l), v] ∧ Ex H H' ∧ risV 0 xs m = risV l (xs.drop i) m) (fun H2 e2 => ⟨0, none, rfl, e1.trans e2, rfl⟩) (fun i σ' H' _ ⟨_, _, _, e, _⟩ => sq_of (e _ _ ha)) ?_ ?_
    · rintro i x σ' H' hi ⟨l, v, rfl, e, hr⟩
      rw [drop_at hi] at hr
      rcases (hy x (List.mem_of_getElem? hi)).mono e with ⟨c, rfl⟩ | hx
      · refine q_when (b := !(decide (l < c) && decide (c < m))) (et_is (et_or (et_not (et_B (ev_callV m_is_whole (ea_cons (ev_var rfl) ea_nil) F_is_whole_int))) fun _ => et_not (et_ch (ev_var rfl) (ev_var rfl) rv_I0 (fun _ => ev_var rfl) fun _ => rv_I0)) (by simp)) (fun hb H2 e2 => s_ret ev_c fun H3 e3 => ?_) fun hb H2 e2 => s_asg (ev_var rfl) fun H3 e3 => ⟨c, _, rfl, (e.trans e2).trans e3, ?_⟩
        · have e0 : risV 0 xs m = false := by
            rw [hr, risV]
            rw [Bool.not_eq_true'] at hb
            rw [hb, Bool.false_and]
          rw [e0] at k
          exact k _ ((e.trans e2).trans e3)
        · rw [hr, risV]
          rw [Bool.not_eq_false'] at hb
          rw [hb, Bool.true_and]
      · refine q_when (b := true) (et_is (et_or (a := true) (b := true) (et_is (et_not (et_B (ev_callV m_is_whole (ea_cons (ev_var rfl) ea_nil) (noInt_whole hx)))) rfl) fun h => by cases h) rfl) (fun _ H2 e2 => s_ret ev_c fun H3 e3 => ?_) fun h => by cases h
        have e0 : risV 0 xs m = false := by
          rw [hr]
          cases x <;> first | rfl | (have := hx.1; cases this)
        rw [e0] at k
        exact k _ ((e.trans e2).trans e3)
    · rintro σ' H' ⟨l, v, rfl, e, hr⟩
      refine s_ret ev_c fun H3 e3 => ?_
      have e0 : risV 0 xs m = true := by
        rw [hr, List.drop_eq_nil_of_le (Nat.le_refl _)]
        rfl
      rw [e0] at k
      exact k _ (e.trans e3)
theorem ok_check_rowX (T : Tx K mg) : Kept P w K mg base (L2N.CX P w) 2 "check_row" ["row"] (sp_check_rowX K) := by
  have D_is_whole : Kept P w K mg base CX0 1 "is_whole" ["thing"] (sp_is_whole K) := ok_is_whole T
  obtain ⟨t_GREATEST, c_GREATEST⟩ := T.c_GREATEST
  obtain ⟨t_LONGEST, c_LONGEST⟩ := T.c_LONGEST
  obtain ⟨fd, F⟩ := T.d_check_row
  refine ⟨⟨fd, F.ok sc_check_row (fun vs H Q E h => by obtain ⟨⟨_, rfl, _⟩, _⟩ := h; rfl) (fun cdv A outer s H vs Q E hRm h => ?_), F.bindsN fun _ _ _ _ _ _ us hl => match us, hl with | [_], _ => rfl⟩, T.g_check_row, F.kp⟩
  · obtain ⟨⟨x, rfl, hx⟩, kE⟩ := h
    refine ⟨_, (pss_cons (ps_if (PW.pt (pw_or (pt_not (pt_val (pe_callB call_isi (by rfl) T.z_isinstance bo_isinstance (pa_cons (pv 0) (pa_cons (pe_bltn (v := .ty "list") (by rfl) T.z_list bo_list rfl) pa_nil))))) (pw_or1 (pt_cmpR op_gt (pe_callB call_len_seq (by rfl) T.z_len bo_len (pa_cons (pv 0) pa_nil)) (pe_glob (v := .int 1000000) (by rfl) c_LONGEST ⟨_, rfl⟩) (nomark _))))) (pss_one (L2N.ps_raise rfl (L2N.takes_of rfl rfl rfl rfl) (L2N.pmk_own PySem.F.excBase_ValueError T.xi_BadRow T.g_BadRow T.kp_BadRow (raises_own T.sb_BadRow T.tt_BadRow) (by rfl)))) pss_nil) (pss_one (ps_if (pt_not (pt_val (pe_callB (cr_all rfl) (by rfl) T.z_all bo_all (pa_cons (pe_lc (own := [("load", 1)]) (g := gName 1) (tt := tYes) rfl sc_check_row.nd (pi_list (pv 0)) (blkOk_by (N := ["row", "load"]) (sc := defScope s_check_row) (by decide +kernel)) (fun _ _ _ _ _ => pg_name (i := 1) sc_check_row.nd rfl (Or.inl rfl)) (fun _ _ _ _ _ => pts_nil) (fun _ _ _ _ _ => (pe_and (pe_d D_is_whole (hRm.mono (by decide)) (by rfl) (pa_cons (pv 1) pa_nil)) (pe_one (pe_chain op_le op_le pe_int (pv 1) (pe_glob (v := .int 1000000) (by rfl) c_GREATEST ⟨_, rfl⟩)))))) pa_nil)))) (pss_one (L2N.ps_raise rfl (L2N.takes_of rfl rfl rfl rfl) (L2N.pmk_own PySem.F.excBase_ValueError T.xi_BadRow T.g_BadRow T.kp_BadRow (raises_own T.sb_BadRow T.tt_BadRow) (by rfl)))) pss_nil))), ?_⟩
    rcases hx with ⟨n, ht, hb⟩ | ⟨a, xs, rfl, ha, hl, hy, hall⟩
    · exact q_when (b := true) (et_is (et_or (a := true) (b := true) (et_is (et_not (et_B (ev_isT (b := false) (ev_var rfl) ht hb))) rfl) fun h => by cases h) rfl) (fun _ H1 e1 => kE _ e1) fun h => by cases h
    · refine q_when (b := false) (et_is (et_or (et_not (et_B (ev_isT (b := true) (ev_var rfl) (tx_lst ha) (by decide +kernel)))) fun _ => et_test (ev_op (ev_ln (ev_var rfl) (.inl (sq_of ha))) ev_c rv_I0)) ?_) (fun h => by cases h) fun _ H1 e1 => ?_
      · simp
        omega
      have ha1 := e1 _ _ ha
      refine s_when (b := true) (et_is (et_not (et_B (ev_allN (el_mapB itB (ev_var rfl) (sq_of ha1) (by omega) (fun x => rfl) fun y H2 e2 hm => ?_)))) ?_) (fun _ H2 e2 => kE _ (e1.trans e2)) fun h => by cases h
      · rcases (hy y hm).mono (e1.trans e2) with ⟨i, rfl⟩ | hn
        · exact ev_is (ev_andV (ev_callV m_is_whole (ea_cons (ev_var rfl) ea_nil) F_is_whole_int) fun _ => ev_ch ev_c (ev_var rfl) rv_I0 (fun _ => ev_c) fun _ => rv_I0) rfl
        · refine ev_is (ev_andV (b := false) (ev_callV m_is_whole (ea_cons (ev_var rfl) ea_nil) (noInt_whole hn)) fun h => by cases h) ?_
          have h1 := hn.1
          cases y <;> first | rfl | cases h1
      · have e0 : ((xs.map itB).all id) = xs.all itB := by
          rw [List.all_map]
          rfl
        rw [e0, hall]
        rfl
theorem ok_check_numberN (T : Tx K mg) : Kept P w K mg base (L2N.CX P w) 2 "check_number" ["number", "least"] (sp_check_numberN K) := by
  have D_is_whole : Kept P w K mg base CX0 1 "is_whole" ["thing"] (sp_is_whole K) := ok_is_whole T
  obtain ⟨fd, F⟩ := T.d_check_number
  refine ⟨⟨fd, F.ok sc_check_number (fun vs H Q E h => by obtain ⟨⟨_, _, rfl, _⟩, _⟩ := h; rfl) (fun cdv A outer s H vs Q E hRm h => ?_), F.bindsN fun _ _ _ _ _ _ us hl => match us, hl with | [_, _], _ => rfl⟩, T.g_check_number, F.kp⟩
  · obtain ⟨⟨x, l, rfl, hx⟩, kE⟩ := h
    refine ⟨_, (pss_one (ps_if (PW.pt (pw_or (pt_not (pt_val (pe_d D_is_whole (hRm.mono (by decide)) (by rfl) (pa_cons (pv 0) pa_nil)))) (pw_or1 (pt_cmpR op_lt (pv 0) (pv 1) (nomark _))))) (pss_one (L2N.ps_raise rfl (L2N.takes_of rfl rfl rfl rfl) (L2N.pmk_own PySem.F.excBase_ValueError T.xi_BadNumber T.g_BadNumber T.kp_BadNumber (raises_own T.sb_BadNumber T.tt_BadNumber) (by rfl)))) pss_nil)), ?_⟩
    rcases hx with ⟨i, rfl, hi⟩ | hn
    · exact s_when (b := true) (et_is (et_or (et_not (et_B (ev_callV m_is_whole (ea_cons (ev_var rfl) ea_nil) F_is_whole_int))) fun _ => et_test (ev_op (ev_var rfl) (ev_var rfl) rv_I0)) (by simp; omega)) (fun _ H1 e1 => kE _ e1) fun h => by cases h
    · exact s_when (b := true) (et_is (et_or (a := true) (b := true) (et_is (et_not (et_B (ev_callV m_is_whole (ea_cons (ev_var rfl) ea_nil) (noInt_whole hn)))) rfl) fun h => by cases h) rfl) (fun _ H1 e1 => kE _ e1) fun h => by cases h
theorem ok_check_cutsY (T : Tx K mg) : Kept P w K mg base (L2N.CX P w) 3 "check_cuts" ["cuts", "many"] (sp_check_cutsY K) := by
  have D_are_cutsG : Kept P w K mg base CX0 2 "are_cuts" ["cuts", "many"] (sp_are_cutsG K) := ok_are_cutsG T
  obtain ⟨fd, F⟩ := T.d_check_cuts
  refine ⟨⟨fd, F.ok sc_check_cuts (fun vs H Q E h => by obtain ⟨⟨_, _, rfl, _⟩, _⟩ := h; rfl) (fun cdv A outer s H vs Q E hRm h => ?_), F.bindsN fun _ _ _ _ _ _ us hl => match us, hl with | [_, _], _ => rfl⟩, T.g_check_cuts, F.kp⟩
  · obtain ⟨⟨x, m, rfl, hx⟩, kE⟩ := h
    refine ⟨_, (pss_one (ps_if (PW.pt (pw_or (pt_not (pt_val (pe_callB call_isi (by rfl) T.z_isinstance bo_isinstance (pa_cons (pv 0) (pa_cons (pe_bltn (v := .ty "list") (by rfl) T.z_list bo_list rfl) pa_nil))))) (pw_or1 (pt_not (pt_val (pe_d D_are_cutsG (hRm.mono (by decide)) (by rfl) (pa_cons (pv 0) (pa_cons (pv 1) pa_nil)))))))) (pss_one (L2N.ps_raise rfl (L2N.takes_of rfl rfl rfl rfl) (L2N.pmk_own PySem.F.excBase_ValueError T.xi_BadCuts T.g_BadCuts T.kp_BadCuts (raises_own T.sb_BadCuts T.tt_BadCuts) (by rfl)))) pss_nil)), ?_⟩
    rcases hx with ⟨n, ht, hb⟩ | ⟨a, xs, rfl, ha, hy, hr⟩
    · exact s_when (b := true) (et_is (et_or (a := true) (b := true) (et_is (et_not (et_B (ev_isT (b := false) (ev_var rfl) ht hb))) rfl) fun h => by cases h) rfl) (fun _ H1 e1 => kE _ e1) fun h => by cases h
    · exact s_when (b := true) (et_is (et_or (et_not (et_B (ev_isT (b := true) (ev_var rfl) (tx_lst ha) (by decide +kernel)))) fun _ => et_not (et_B (ev_callV m_are_cutsG (ea_cons (ev_var rfl) (ea_cons (ev_var rfl) ea_nil)) ⟨a, xs, m, rfl, ha, hy, rfl⟩))) (by rw [hr]; rfl)) (fun _ H1 e1 => kE _ e1) fun h => by cases h
theorem ok_borneX (T : Tx K mg) : Kept P w K mg base (L2N.CX P w) 3 "borne" ["row", "cuts"] (sp_borneX K) := by
  have D_check_rowX : Kept P w K mg base (L2N.CX P w) 2 "check_row" ["row"] (sp_check_rowX K) := ok_check_rowX T
  obtain ⟨fd, F⟩ := T.d_borne
  refine ⟨⟨fd, F.ok sc_borne (fun vs H Q E h => by obtain ⟨⟨_, _, rfl, _⟩, _⟩ := h; rfl) (fun cdv A outer s H vs Q E hRm h => ?_), F.bindsN fun _ _ _ _ _ _ us hl => match us, hl with | [_, _], _ => rfl⟩, T.g_borne, F.kp⟩
  · obtain ⟨⟨x, y, rfl, hx⟩, kE⟩ := h
    refine ⟨_, (pss_cons (ps_expr (pe_dX D_check_rowX (hRm.mono (by decide)) (by rfl) (L2N.takes_of rfl rfl rfl rfl) (pa_cons (pv 0) pa_nil))) pss_never), ?_⟩
    exact r_drop (er_call m_check_rowX (ea_cons (ev_var rfl) ea_nil) ⟨x, rfl, hx⟩ fun H1 e1 => kE _ e1)
theorem sc_written : FnScope ["row", "cuts", "begins", "ends", "parts", "k", "load"] ["row", "cuts"] (defScope s_written) := ⟨rfl, rfl, rfl, by decide +kernel, rfl, by decide +kernel, by decide +kernel⟩
theorem ok_writtenX (T : Tx K mg) : Kept P w K mg base (L2N.CX P w) 3 "written" ["row", "cuts"] (sp_writtenX K) := by
  have D_check_rowX : Kept P w K mg base (L2N.CX P w) 2 "check_row" ["row"] (sp_check_rowX K) := ok_check_rowX T
  obtain ⟨fd, F⟩ := T.d_written
  refine ⟨⟨fd, F.ok sc_written (fun vs H Q E h => by obtain ⟨⟨_, _, rfl, _⟩, _⟩ := h; rfl) (fun cdv A outer s H vs Q E hRm h => ?_), F.bindsN fun _ _ _ _ _ _ us hl => match us, hl with | [_, _], _ => rfl⟩, T.g_written, F.kp⟩
  · obtain ⟨⟨x, y, rfl, hx⟩, kE⟩ := h
    refine ⟨_, (pss_cons (ps_expr (pe_dX D_check_rowX (hRm.mono (by decide)) (by rfl) (L2N.takes_of rfl rfl rfl rfl) (pa_cons (pv 0) pa_nil))) pss_never), ?_⟩
    exact r_drop (er_call m_check_rowX (ea_cons (ev_var rfl) ea_nil) ⟨x, rfl, hx⟩ fun H1 e1 => kE _ e1)
theorem ok_halvedX (T : Tx K mg) : Kept P w K mg base (L2N.CX P w) 3 "halved" ["row"] (sp_halvedX K) := by
  have D_check_rowX : Kept P w K mg base (L2N.CX P w) 2 "check_row" ["row"] (sp_check_rowX K) := ok_check_rowX T
  obtain ⟨fd, F⟩ := T.d_halved
  refine ⟨⟨fd, F.ok sc_halved (fun vs H Q E h => by obtain ⟨⟨_, rfl, _⟩, _⟩ := h; rfl) (fun cdv A outer s H vs Q E hRm h => ?_), F.bindsN fun _ _ _ _ _ _ us hl => match us, hl with | [_], _ => rfl⟩, T.g_halved, F.kp⟩
  · obtain ⟨⟨x, rfl, hx⟩, kE⟩ := h
    refine ⟨_, (pss_cons (ps_expr (pe_dX D_check_rowX (hRm.mono (by decide)) (by rfl) (L2N.takes_of rfl rfl rfl rfl) (pa_cons (pv 0) pa_nil))) pss_never), ?_⟩
    exact r_drop (er_call m_check_rowX (ea_cons (ev_var rfl) ea_nil) ⟨x, rfl, hx⟩ fun H1 e1 => kE _ e1)
theorem ok_fewestX (T : Tx K mg) : Kept P w K mg base (L2N.CX P w) 3 "fewest" ["row", "bound"] (sp_fewestX K) := by
  have D_check_rowX : Kept P w K mg base (L2N.CX P w) 2 "check_row" ["row"] (sp_check_rowX K) := ok_check_rowX T
  obtain ⟨fd, F⟩ := T.d_fewest
  refine ⟨⟨fd, F.ok sc_fewest (fun vs H Q E h => by obtain ⟨⟨_, _, rfl, _⟩, _⟩ := h; rfl) (fun cdv A outer s H vs Q E hRm h => ?_), F.bindsN fun _ _ _ _ _ _ us hl => match us, hl with | [_, _], _ => rfl⟩, T.g_fewest, F.kp⟩
  · obtain ⟨⟨x, y, rfl, hx⟩, kE⟩ := h
    refine ⟨_, (pss_cons (ps_expr (pe_dX D_check_rowX (hRm.mono (by decide)) (by rfl) (L2N.takes_of rfl rfl rfl rfl) (pa_cons (pv 0) pa_nil))) pss_never), ?_⟩
    exact r_drop (er_call m_check_rowX (ea_cons (ev_var rfl) ea_nil) ⟨x, rfl, hx⟩ fun H1 e1 => kE _ e1)
theorem ok_lowestX (T : Tx K mg) : Kept P w K mg base (L2N.CX P w) 3 "lowest" ["row", "count"] (sp_lowestX K) := by
  have D_check_rowX : Kept P w K mg base (L2N.CX P w) 2 "check_row" ["row"] (sp_check_rowX K) := ok_check_rowX T
  obtain ⟨fd, F⟩ := T.d_lowest
  refine ⟨⟨fd, F.ok sc_lowest (fun vs H Q E h => by obtain ⟨⟨_, _, rfl, _⟩, _⟩ := h; rfl) (fun cdv A outer s H vs Q E hRm h => ?_), F.bindsN fun _ _ _ _ _ _ us hl => match us, hl with | [_, _], _ => rfl⟩, T.g_lowest, F.kp⟩
  · obtain ⟨⟨x, y, rfl, hx⟩, kE⟩ := h
    refine ⟨_, (pss_cons (ps_expr (pe_dX D_check_rowX (hRm.mono (by decide)) (by rfl) (L2N.takes_of rfl rfl rfl rfl) (pa_cons (pv 0) pa_nil))) pss_never), ?_⟩
    exact r_drop (er_call m_check_rowX (ea_cons (ev_var rfl) ea_nil) ⟨x, rfl, hx⟩ fun H1 e1 => kE _ e1)
theorem ok_fullestX (T : Tx K mg) : Kept P w K mg base (L2N.CX P w) 3 "fullest" ["row", "bound"] (sp_fullestX K) := by
  have D_check_rowX : Kept P w K mg base (L2N.CX P w) 2 "check_row" ["row"] (sp_check_rowX K) := ok_check_rowX T
  obtain ⟨fd, F⟩ := T.d_fullest
  refine ⟨⟨fd, F.ok sc_fullest (fun vs H Q E h => by obtain ⟨⟨_, _, rfl, _⟩, _⟩ := h; rfl) (fun cdv A outer s H vs Q E hRm h => ?_), F.bindsN fun _ _ _ _ _ _ us hl => match us, hl with | [_, _], _ => rfl⟩, T.g_fullest, F.kp⟩
  · obtain ⟨⟨x, y, rfl, hx⟩, kE⟩ := h
    refine ⟨_, (pss_cons (ps_expr (pe_dX D_check_rowX (hRm.mono (by decide)) (by rfl) (L2N.takes_of rfl rfl rfl rfl) (pa_cons (pv 0) pa_nil))) pss_never), ?_⟩
    exact r_drop (er_call m_check_rowX (ea_cons (ev_var rfl) ea_nil) ⟨x, rfl, hx⟩ fun H1 e1 => kE _ e1)
theorem ok_borneY (T : Tx K mg) : Kept P w K mg base (L2N.CX P w) 4 "borne" ["row", "cuts"] (sp_borneY K) := by
  have D_check_cutsY : Kept P w K mg base (L2N.CX P w) 3 "check_cuts" ["cuts", "many"] (sp_check_cutsY K) := ok_check_cutsY T
  have D_check_row : Kept P w K mg base CX0 2 "check_row" ["row"] (sp_check_row K) := ok_check_row T
  obtain ⟨fd, F⟩ := T.d_borne
  refine ⟨⟨fd, F.ok sc_borne (fun vs H Q E h => by obtain ⟨⟨_, _, _, rfl, _⟩, _⟩ := h; rfl) (fun cdv A outer s H vs Q E hRm h => ?_), F.bindsN fun _ _ _ _ _ _ us hl => match us, hl with | [_, _], _ => rfl⟩, T.g_borne, F.kp⟩
  · obtain ⟨⟨a, ns, y, rfl, ha, hy⟩, kE⟩ := h
    refine ⟨_, (pss_cons (ps_expr (pe_d D_check_row (hRm.mono (by decide)) (by rfl) (pa_cons (pv 0) pa_nil))) (pss_cons (ps_expr (pe_dX D_check_cutsY (hRm.mono (by decide)) (by rfl) (L2N.takes_of rfl rfl rfl rfl) (pa_cons (pv 1) (pa_cons (pe_callB call_len_seq (by rfl) T.z_len bo_len (pa_cons (pv 0) pa_nil)) pa_nil)))) pss_never)), ?_⟩
    refine q_drop (ev_callV m_check_row (ea_cons (ev_var rfl) ea_nil) ⟨a, ns, rfl, ha.1, ha.2.1, ha.2.2, rfl⟩) fun H1 e1 => ?_
    exact r_drop (er_call m_check_cutsY (ea_cons (ev_var rfl) (ea_cons (ev_is (ev_ln (ev_var rfl) (.inl (sq_of (e1 _ _ ha.1)))) (by rw [List.length_map])) ea_nil)) ⟨y, _, rfl, hy.mono e1⟩ fun H2 e2 => kE _ (e1.trans e2))
theorem ok_writtenY (T : Tx K mg) : Kept P w K mg base (L2N.CX P w) 4 "written" ["row", "cuts"] (sp_writtenY K) := by
  have D_check_cutsY : Kept P w K mg base (L2N.CX P w) 3 "check_cuts" ["cuts", "many"] (sp_check_cutsY K) := ok_check_cutsY T
  have D_check_row : Kept P w K mg base CX0 2 "check_row" ["row"] (sp_check_row K) := ok_check_row T
  obtain ⟨fd, F⟩ := T.d_written
  refine ⟨⟨fd, F.ok sc_written (fun vs H Q E h => by obtain ⟨⟨_, _, _, rfl, _⟩, _⟩ := h; rfl) (fun cdv A outer s H vs Q E hRm h => ?_), F.bindsN fun _ _ _ _ _ _ us hl => match us, hl with | [_, _], _ => rfl⟩, T.g_written, F.kp⟩
  · obtain ⟨⟨a, ns, y, rfl, ha, hy⟩, kE⟩ := h
    refine ⟨_, (pss_cons (ps_expr (pe_d D_check_row (hRm.mono (by decide)) (by rfl) (pa_cons (pv 0) pa_nil))) (pss_cons (ps_expr (pe_dX D_check_cutsY (hRm.mono (by decide)) (by rfl) (L2N.takes_of rfl rfl rfl rfl) (pa_cons (pv 1) (pa_cons (pe_callB call_len_seq (by rfl) T.z_len bo_len (pa_cons (pv 0) pa_nil)) pa_nil)))) pss_never)), ?_⟩
    refine q_drop (ev_callV m_check_row (ea_cons (ev_var rfl) ea_nil) ⟨a, ns, rfl, ha.1, ha.2.1, ha.2.2, rfl⟩) fun H1 e1 => ?_
    exact r_drop (er_call m_check_cutsY (ea_cons (ev_var rfl) (ea_cons (ev_is (ev_ln (ev_var rfl) (.inl (sq_of (e1 _ _ ha.1)))) (by rw [List.length_map])) ea_nil)) ⟨y, _, rfl, hy.mono e1⟩ fun H2 e2 => kE _ (e1.trans e2))
theorem ok_fewestN (T : Tx K mg) : Kept P w K mg base (L2N.CX P w) 3 "fewest" ["row", "bound"] (sp_fewestN K) := by
  have D_check_numberN : Kept P w K mg base (L2N.CX P w) 2 "check_number" ["number", "least"] (sp_check_numberN K) := ok_check_numberN T
  have D_check_row : Kept P w K mg base CX0 2 "check_row" ["row"] (sp_check_row K) := ok_check_row T
  obtain ⟨fd, F⟩ := T.d_fewest
  refine ⟨⟨fd, F.ok sc_fewest (fun vs H Q E h => by obtain ⟨⟨_, _, _, rfl, _⟩, _⟩ := h; rfl) (fun cdv A outer s H vs Q E hRm h => ?_), F.bindsN fun _ _ _ _ _ _ us hl => match us, hl with | [_, _], _ => rfl⟩, T.g_fewest, F.kp⟩
  · obtain ⟨⟨a, ns, y, rfl, ha, hy⟩, kE⟩ := h
    refine ⟨_, (pss_cons (ps_expr (pe_d D_check_row (hRm.mono (by decide)) (by rfl) (pa_cons (pv 0) pa_nil))) (pss_cons (ps_expr (pe_dX D_check_numberN (hRm.mono (by decide)) (by rfl) (L2N.takes_of rfl rfl rfl rfl) (pa_cons (pv 1) (pa_cons pe_int pa_nil)))) pss_never)), ?_⟩
    refine q_drop (ev_callV m_check_row (ea_cons (ev_var rfl) ea_nil) ⟨a, ns, rfl, ha.1, ha.2.1, ha.2.2, rfl⟩) fun H1 e1 => ?_
    exact r_drop (er_call m_check_numberN (ea_cons (ev_var rfl) (ea_cons ev_c ea_nil)) ⟨y, _, rfl, hy.mono e1⟩ fun H2 e2 => kE _ (e1.trans e2))
theorem ok_lowestN (T : Tx K mg) : Kept P w K mg base (L2N.CX P w) 3 "lowest" ["row", "count"] (sp_lowestN K) := by
  have D_check_numberN : Kept P w K mg base (L2N.CX P w) 2 "check_number" ["number", "least"] (sp_check_numberN K) := ok_check_numberN T
  have D_check_row : Kept P w K mg base CX0 2 "check_row" ["row"] (sp_check_row K) := ok_check_row T
  obtain ⟨fd, F⟩ := T.d_lowest
  refine ⟨⟨fd, F.ok sc_lowest (fun vs H Q E h => by obtain ⟨⟨_, _, _, rfl, _⟩, _⟩ := h; rfl) (fun cdv A outer s H vs Q E hRm h => ?_), F.bindsN fun _ _ _ _ _ _ us hl => match us, hl with | [_, _], _ => rfl⟩, T.g_lowest, F.kp⟩
  · obtain ⟨⟨a, ns, y, rfl, ha, hy⟩, kE⟩ := h
    refine ⟨_, (pss_cons (ps_expr (pe_d D_check_row (hRm.mono (by decide)) (by rfl) (pa_cons (pv 0) pa_nil))) (pss_cons (ps_expr (pe_dX D_check_numberN (hRm.mono (by decide)) (by rfl) (L2N.takes_of rfl rfl rfl rfl) (pa_cons (pv 1) (pa_cons pe_int pa_nil)))) pss_never)), ?_⟩
    refine q_drop (ev_callV m_check_row (ea_cons (ev_var rfl) ea_nil) ⟨a, ns, rfl, ha.1, ha.2.1, ha.2.2, rfl⟩) fun H1 e1 => ?_
    exact r_drop (er_call m_check_numberN (ea_cons (ev_var rfl) (ea_cons ev_c ea_nil)) ⟨y, _, rfl, hy.mono e1⟩ fun H2 e2 => kE _ (e1.trans e2))
theorem ok_fullestN (T : Tx K mg) : Kept P w K mg base (L2N.CX P w) 3 "fullest" ["row", "bound"] (sp_fullestN K) := by
  have D_check_numberN : Kept P w K mg base (L2N.CX P w) 2 "check_number" ["number", "least"] (sp_check_numberN K) := ok_check_numberN T
  have D_check_row : Kept P w K mg base CX0 2 "check_row" ["row"] (sp_check_row K) := ok_check_row T
  obtain ⟨fd, F⟩ := T.d_fullest
  refine ⟨⟨fd, F.ok sc_fullest (fun vs H Q E h => by obtain ⟨⟨_, _, _, rfl, _⟩, _⟩ := h; rfl) (fun cdv A outer s H vs Q E hRm h => ?_), F.bindsN fun _ _ _ _ _ _ us hl => match us, hl with | [_, _], _ => rfl⟩, T.g_fullest, F.kp⟩
  · obtain ⟨⟨a, ns, y, rfl, ha, hy⟩, kE⟩ := h
    refine ⟨_, (pss_cons (ps_expr (pe_d D_check_row (hRm.mono (by decide)) (by rfl) (pa_cons (pv 0) pa_nil))) (pss_cons (ps_expr (pe_dX D_check_numberN (hRm.mono (by decide)) (by rfl) (L2N.takes_of rfl rfl rfl rfl) (pa_cons (pv 1) (pa_cons pe_int pa_nil)))) pss_never)), ?_⟩
    refine q_drop (ev_callV m_check_row (ea_cons (ev_var rfl) ea_nil) ⟨a, ns, rfl, ha.1, ha.2.1, ha.2.2, rfl⟩) fun H1 e1 => ?_
    exact r_drop (er_call m_check_numberN (ea_cons (ev_var rfl) (ea_cons ev_c ea_nil)) ⟨y, _, rfl, hy.mono e1⟩ fun H2 e2 => kE _ (e1.trans e2))

end
end Ct
namespace Ct
open PySem PySem.Spec PyProof.Rows L2 Evl
open He (ga ma)
section
variable {P : Program} {w : World} {K : PySem.W.Frag} {mg : Str → Option Value} {base : Heap}
/-! ### law 7: the refusals asked -/
inductive Rf where
  | row
  | num
  | cut
def Rf.nm : Rf → Str
  | .row => "BadRow"
  | .num => "BadNumber"
  | .cut => "BadCuts"
def Rf.kinds : Rf → List Bool
  | .row => [true, false, false, false, true]
  | .num => [false, true, false, false, true]
  | .cut => [false, false, true, false, true]
def AskRow (K : PySem.W.Frag) (H : Hp) (x y : V) : Prop := ∃ d, x = .int d ∧ 0 ≤ d ∧ d ≤ 5 ∧ NoRow K H y
def AskNum (K : PySem.W.Frag) (H : Hp) (x y : V) : Prop := ∃ d, x = .int d ∧ 0 ≤ d ∧ d ≤ 2 ∧ NoNum K H y (if d = 0 then 0 else 1)
def AskCut (K : PySem.W.Frag) (H : Hp) (x y : V) : Prop := ∃ a ns, x = .ref a ∧ GoodRow H a ns ∧ NoCuts K H y ns.length
def F__law_with_rowX (K : PySem.W.Frag) : List V → Hp → Prop := fun vs H => ∃ x y, vs = [x, y] ∧ AskRow K H x y
def F__law_with_numberN (K : PySem.W.Frag) : List V → Hp → Prop := fun vs H => ∃ x y, vs = [x, y] ∧ AskNum K H x y
section
variable {H H' : Hp} {x y : V}
theorem AskRow.mono (e : Ex H H') (h : AskRow K H x y) : AskRow K H' x y := let ⟨d, h1, h2, h3, h4⟩ := h; ⟨d, h1, h2, h3, h4.mono e⟩
theorem AskNum.mono (e : Ex H H') (h : AskNum K H x y) : AskNum K H' x y := let ⟨d, h1, h2, h3, h4⟩ := h; ⟨d, h1, h2, h3, h4.mono e⟩
theorem AskCut.mono (e : Ex H H') (h : AskCut K H x y) : AskCut K H' x y := let ⟨a, ns, h1, h2, h3⟩ := h; ⟨a, ns, h1, h2.mono e, h3.mono e⟩
end
theorem m__law_with_rowX : MonoF (F__law_with_rowX K) := fun vs H H1 e ⟨x, y, h1, h2⟩ => ⟨x, y, h1, h2.mono e⟩
theorem m__law_with_numberN : MonoF (F__law_with_numberN K) := fun vs H H1 e ⟨x, y, h1, h2⟩ => ⟨x, y, h1, h2.mono e⟩
def sp__law_with_rowX (K : PySem.W.Frag) : Sp := Rz K "BadRow" (F__law_with_rowX K)
def sp__law_with_numberN (K : PySem.W.Frag) : Sp := Rz K "BadNumber" (F__law_with_numberN K)
def sp__law_with_cutsY (K : PySem.W.Frag) : Sp := Rz K "BadCuts" (F_cuts2Y K)
def sp__law_cut_textY (K : PySem.W.Frag) : Sp := Rz K "BadCuts" (F_cuts2Y K)
theorem sc__law_with_row : FnScope ["_law_door", "_law_row_here"] ["_law_door", "_law_row_here"] (defScope s__law_with_row) := ⟨rfl, rfl, rfl, by decide +kernel, rfl, by decide +kernel, by decide +kernel⟩
theorem ok__law_with_rowX (T : Tx K mg) : Kept P w K mg base (L2N.CX P w) 4 "_law_with_row" ["_law_door", "_law_row_here"] (sp__law_with_rowX K) := by
  have D_borneX : Kept P w K mg base (L2N.CX P w) 3 "borne" ["row", "cuts"] (sp_borneX K) := ok_borneX T
  have D_fewestX : Kept P w K mg base (L2N.CX P w) 3 "fewest" ["row", "bound"] (sp_fewestX K) := ok_fewestX T
  have D_fullestX : Kept P w K mg base (L2N.CX P w) 3 "fullest" ["row", "bound"] (sp_fullestX K) := ok_fullestX T
  have D_halvedX : Kept P w K mg base (L2N.CX P w) 3 "halved" ["row"] (sp_halvedX K) := ok_halvedX T
  have D_lowestX : Kept P w K mg base (L2N.CX P w) 3 "lowest" ["row", "count"] (sp_lowestX K) := ok_lowestX T
  have D_writtenX : Kept P w K mg base (L2N.CX P w) 3 "written" ["row", "cuts"] (sp_writtenX K) := ok_writtenX T
  obtain ⟨fd, F⟩ := T.d__law_with_row
  refine ⟨⟨fd, F.ok sc__law_with_row (fun vs H Q E h => by obtain ⟨⟨_, _, rfl, _⟩, _⟩ := h; rfl) (fun cdv A outer s H vs Q E hRm h => ?_), F.bindsN fun _ _ _ _ _ _ us hl => match us, hl with | [_, _], _ => rfl⟩, T.g__law_with_row, F.kp⟩
  · obtain ⟨⟨_, y, rfl, d, rfl, hd0, hd5, hy⟩, kE⟩ := h
    refine ⟨_, (pss_cons (ps_if (pt_cmpR op_lt (pv 0) pe_int (nomark _)) (pss_one (ps_ret (pe_ifExp (pt_cmpR op_eq (pv 0) pe_int (nomark _)) (pe_dX D_borneX (hRm.mono (by decide)) (by rfl) (L2N.takes_of rfl rfl rfl rfl) (pa_cons (pv 1) (pa_cons pe_non pa_nil))) (pe_ifExp (pt_cmpR op_eq (pv 0) pe_int (nomark _)) (pe_dX D_halvedX (hRm.mono (by decide)) (by rfl) (L2N.takes_of rfl rfl rfl rfl) (pa_cons (pv 1) pa_nil)) (pe_dX D_writtenX (hRm.mono (by decide)) (by rfl) (L2N.takes_of rfl rfl rfl rfl) (pa_cons (pv 1) (pa_cons pe_non pa_nil))))))) pss_nil) (pss_one (ps_ret (pe_ifExp (pt_cmpR op_eq (pv 0) pe_int (nomark _)) (pe_dX D_fewestX (hRm.mono (by decide)) (by rfl) (L2N.takes_of rfl rfl rfl rfl) (pa_cons (pv 1) (pa_cons (pe_un un_neg pe_int) pa_nil))) (pe_ifExp (pt_cmpR op_eq (pv 0) pe_int (nomark _)) (pe_dX D_lowestX (hRm.mono (by decide)) (by rfl) (L2N.takes_of rfl rfl rfl rfl) (pa_cons (pv 1) (pa_cons pe_int pa_nil))) (pe_dX D_fullestX (hRm.mono (by decide)) (by rfl) (L2N.takes_of rfl rfl rfl rfl) (pa_cons (pv 1) (pa_cons pe_non pa_nil)))))))), ?_⟩
    have tst : ∀ (H5 : Hp) (σ' : L2.St) (j : Int), σ'[0]? = some (some (.int d)) → EvT (tTest (tOp rEq (tVar 0) (tC (.int j)))) σ' H5 (decide (d = j)) := fun H5 σ' j g => et_is (et_test (ev_op (ev_var g) ev_c (rv_eq rfl))) (by simp)
    refine q_when (b := decide (d < 3)) (et_test (ev_op (ev_var rfl) ev_c rv_I0)) (fun _ H1 e1 => ?_) fun _ H1 e1 => ?_
    · refine r_ret (er_if (tst _ _ 0 rfl) (fun _ H2 e2 => ?_) fun _ H2 e2 => er_if (tst _ _ 1 rfl) (fun _ H3 e3 => ?_) fun _ H3 e3 => ?_)
      · exact er_call m_row2X (ea_cons (ev_var rfl) (ea_cons ev_c ea_nil)) ⟨y, _, rfl, hy.mono (e1.trans e2)⟩ fun H4 e4 => kE _ ((e1.trans e2).trans e4)
      · exact er_call m_check_rowX (ea_cons (ev_var rfl) ea_nil) ⟨y, rfl, hy.mono ((e1.trans e2).trans e3)⟩ fun H4 e4 => kE _ (((e1.trans e2).trans e3).trans e4)
      · exact er_call m_row2X (ea_cons (ev_var rfl) (ea_cons ev_c ea_nil)) ⟨y, _, rfl, hy.mono ((e1.trans e2).trans e3)⟩ fun H4 e4 => kE _ (((e1.trans e2).trans e3).trans e4)
    · refine r_ret (er_if (tst _ _ 3 rfl) (fun _ H2 e2 => ?_) fun _ H2 e2 => er_if (tst _ _ 4 rfl) (fun _ H3 e3 => ?_) fun _ H3 e3 => ?_)
      · exact er_call m_row2X (ea_cons (ev_var rfl) (ea_cons (ev_un ev_c ru_neg) ea_nil)) ⟨y, _, rfl, hy.mono (e1.trans e2)⟩ fun H4 e4 => kE _ ((e1.trans e2).trans e4)
      · exact er_call m_row2X (ea_cons (ev_var rfl) (ea_cons ev_c ea_nil)) ⟨y, _, rfl, hy.mono ((e1.trans e2).trans e3)⟩ fun H4 e4 => kE _ (((e1.trans e2).trans e3).trans e4)
      · exact er_call m_row2X (ea_cons (ev_var rfl) (ea_cons ev_c ea_nil)) ⟨y, _, rfl, hy.mono ((e1.trans e2).trans e3)⟩ fun H4 e4 => kE _ (((e1.trans e2).trans e3).trans e4)
theorem good53 {H : Hp} {a : Addr} (h : H a = some (.lst (([5, 3] : List Int).map V.int))) : GoodRow H a [5, 3] := ⟨h, by decide, by decide⟩
theorem el_53 {σ : L2.St} {H : Hp} : EvL (tLst (tCons (tC (.int 5)) (tCons (tC (.int 3)) tNil))) σ H (([5, 3] : List Int).map V.int) := el_lst (ea_cons ev_c (ea_cons ev_c ea_nil)) l2
theorem sc__law_with_number : FnScope ["_law_door", "_law_thing"] ["_law_door", "_law_thing"] (defScope s__law_with_number) := ⟨rfl, rfl, rfl, by decide +kernel, rfl, by decide +kernel, by decide +kernel⟩
theorem ok__law_with_numberN (T : Tx K mg) : Kept P w K mg base (L2N.CX P w) 4 "_law_with_number" ["_law_door", "_law_thing"] (sp__law_with_numberN K) := by
  have D_fewestN : Kept P w K mg base (L2N.CX P w) 3 "fewest" ["row", "bound"] (sp_fewestN K) := ok_fewestN T
  have D_fullestN : Kept P w K mg base (L2N.CX P w) 3 "fullest" ["row", "bound"] (sp_fullestN K) := ok_fullestN T
  have D_lowestN : Kept P w K mg base (L2N.CX P w) 3 "lowest" ["row", "count"] (sp_lowestN K) := ok_lowestN T
  obtain ⟨fd, F⟩ := T.d__law_with_number
  refine ⟨⟨fd, F.ok sc__law_with_number (fun vs H Q E h => by obtain ⟨⟨_, _, rfl, _⟩, _⟩ := h; rfl) (fun cdv A outer s H vs Q E hRm h => ?_), F.bindsN fun _ _ _ _ _ _ us hl => match us, hl with | [_, _], _ => rfl⟩, T.g__law_with_number, F.kp⟩
  · obtain ⟨⟨_, y, rfl, d, rfl, hd0, hd2, hy⟩, kE⟩ := h
    refine ⟨_, (pss_one (ps_ret (pe_ifExp (pt_cmpR op_eq (pv 0) pe_int (nomark _)) (pe_dX D_fewestN (hRm.mono (by decide)) (by rfl) (L2N.takes_of rfl rfl rfl rfl) (pa_cons (pe_lst (pa_cons pe_int (pa_cons pe_int pa_nil))) (pa_cons (pv 1) pa_nil))) (pe_ifExp (pt_cmpR op_eq (pv 0) pe_int (nomark _)) (pe_dX D_lowestN (hRm.mono (by decide)) (by rfl) (L2N.takes_of rfl rfl rfl rfl) (pa_cons (pe_lst (pa_cons pe_int (pa_cons pe_int pa_nil))) (pa_cons (pv 1) pa_nil))) (pe_dX D_fullestN (hRm.mono (by decide)) (by rfl) (L2N.takes_of rfl rfl rfl rfl) (pa_cons (pe_lst (pa_cons pe_int (pa_cons pe_int pa_nil))) (pa_cons (pv 1) pa_nil))))))), ?_⟩
    have tst : ∀ (H5 : Hp) (σ' : L2.St) (j : Int), σ'[0]? = some (some (.int d)) → EvT (tTest (tOp rEq (tVar 0) (tC (.int j)))) σ' H5 (decide (d = j)) := fun H5 σ' j g => et_is (et_test (ev_op (ev_var g) ev_c (rv_eq rfl))) (by simp)
    refine r_ret (er_if (tst _ _ 0 rfl) (fun hb H2 e2 => ?_) fun hb H2 e2 => ?_)
    · rw [if_pos (of_decide_eq_true hb)] at hy
      exact er_callN (F := F_num2N K 0) el_53 (ea_cons (ev_var rfl) ea_nil) (fun p H3 e3 h3 => ⟨p, _, y, rfl, good53 h3, hy.mono (e2.trans e3)⟩) fun H4 e4 => kE _ (e2.trans e4)
    · rw [if_neg (of_decide_eq_false hb)] at hy
      refine er_if (tst _ _ 1 rfl) (fun _ H3 e3 => ?_) fun _ H3 e3 => ?_
      · exact er_callN (F := F_num2N K 1) el_53 (ea_cons (ev_var rfl) ea_nil) (fun p H4 e4 h4 => ⟨p, _, y, rfl, good53 h4, hy.mono ((e2.trans e3).trans e4)⟩) fun H4 e4 => kE _ ((e2.trans e3).trans e4)
      · exact er_callN (F := F_num2N K 1) el_53 (ea_cons (ev_var rfl) ea_nil) (fun p H4 e4 h4 => ⟨p, _, y, rfl, good53 h4, hy.mono ((e2.trans e3).trans e4)⟩) fun H4 e4 => kE _ ((e2.trans e3).trans e4)
theorem sc__law_with_cuts : FnScope ["_law_row_here", "_law_cuts"] ["_law_row_here", "_law_cuts"] (defScope s__law_with_cuts) := ⟨rfl, rfl, rfl, by decide +kernel, rfl, by decide +kernel, by decide +kernel⟩
theorem ok__law_with_cutsY (T : Tx K mg) : Kept P w K mg base (L2N.CX P w) 5 "_law_with_cuts" ["_law_row_here", "_law_cuts"] (sp__law_with_cutsY K) := by
  have D_borneY : Kept P w K mg base (L2N.CX P w) 4 "borne" ["row", "cuts"] (sp_borneY K) := ok_borneY T
  obtain ⟨fd, F⟩ := T.d__law_with_cuts
  refine ⟨⟨fd, F.ok sc__law_with_cuts (fun vs H Q E h => by obtain ⟨⟨_, _, _, rfl, _⟩, _⟩ := h; rfl) (fun cdv A outer s H vs Q E hRm h => ?_), F.bindsN fun _ _ _ _ _ _ us hl => match us, hl with | [_, _], _ => rfl⟩, T.g__law_with_cuts, F.kp⟩
  · obtain ⟨⟨a, ns, y, rfl, ha, hy⟩, kE⟩ := h
    refine ⟨_, (pss_one (ps_ret (pe_dX D_borneY (hRm.mono (by decide)) (by rfl) (L2N.takes_of rfl rfl rfl rfl) (pa_cons (pv 0) (pa_cons (pv 1) pa_nil))))), ?_⟩
    exact r_ret (er_call m_cuts2Y (ea_cons (ev_var rfl) (ea_cons (ev_var rfl) ea_nil)) ⟨a, ns, y, rfl, ha, hy⟩ fun H4 e4 => kE _ e4)
theorem sc__law_cut_text : FnScope ["_law_row_here", "_law_cuts"] ["_law_row_here", "_law_cuts"] (defScope s__law_cut_text) := ⟨rfl, rfl, rfl, by decide +kernel, rfl, by decide +kernel, by decide +kernel⟩
theorem ok__law_cut_textY (T : Tx K mg) : Kept P w K mg base (L2N.CX P w) 5 "_law_cut_text" ["_law_row_here", "_law_cuts"] (sp__law_cut_textY K) := by
  have D_writtenY : Kept P w K mg base (L2N.CX P w) 4 "written" ["row", "cuts"] (sp_writtenY K) := ok_writtenY T
  obtain ⟨fd, F⟩ := T.d__law_cut_text
  refine ⟨⟨fd, F.ok sc__law_cut_text (fun vs H Q E h => by obtain ⟨⟨_, _, _, rfl, _⟩, _⟩ := h; rfl) (fun cdv A outer s H vs Q E hRm h => ?_), F.bindsN fun _ _ _ _ _ _ us hl => match us, hl with | [_, _], _ => rfl⟩, T.g__law_cut_text, F.kp⟩
  · obtain ⟨⟨a, ns, y, rfl, ha, hy⟩, kE⟩ := h
    refine ⟨_, (pss_one (ps_ret (pe_dX D_writtenY (hRm.mono (by decide)) (by rfl) (L2N.takes_of rfl rfl rfl rfl) (pa_cons (pv 0) (pa_cons (pv 1) pa_nil))))), ?_⟩
    exact r_ret (er_call m_cuts2Y (ea_cons (ev_var rfl) (ea_cons (ev_var rfl) ea_nil)) ⟨a, ns, y, rfl, ha, hy⟩ fun H4 e4 => kE _ e4)
/-! ### of what class the refusal is -/
def sp__law_kindsE (K : PySem.W.Frag) : SpE := fun a cls d vs H Q _ => ∃ c : Rf, cls = .ref (ga K c.nm) ∧ d = none ∧ vs = [.ref a] ∧ RetL (c.kinds.map V.bl) H Q
theorem sc__law_kinds : FnScope ["_law_error", "_law_found"] ["_law_error"] (defScope s__law_kinds) := ⟨rfl, rfl, rfl, by decide +kernel, rfl, by decide +kernel, by decide +kernel⟩
theorem ok__law_kindsE (T : Tx K mg) : KeptE P w K mg base 1 "_law_kinds" ["_law_error"] (sp__law_kindsE K) := by
  obtain ⟨fd, F⟩ := T.d__law_kinds
  refine ⟨⟨fd, fnE_of F sc__law_kinds (fun a cls d vs H Q E h => by obtain ⟨_, _, _, rfl, _⟩ := h; rfl) (fun cdv A outer s H vs Q E q cls d hz hf h => ?_), F.bindsN fun _ _ _ _ _ _ us hl => match us, hl with | [_], _ => rfl⟩, T.g__law_kinds, F.kp⟩
  · obtain ⟨c, rfl, rfl, rfl, k⟩ := h
    cases c with
    | row =>
      refine ⟨_, (pss_cons (ps_set (i := 1) sc__law_kinds.nd rfl (Or.inl rfl) (pe_lst (pa_cons (pe_callB (call_isP (ec_BadRow T) List.mem_cons_self hz hf) (by rfl) T.z_isinstance bo_isinstance (pa_cons (pv 0) (pa_cons (pe_glob (v := .ref (ga K "BadRow")) (by rfl) T.g_BadRow rfl) pa_nil))) (pa_cons (pe_callB (call_isP (ec_BadRow T) List.mem_cons_self hz hf) (by rfl) T.z_isinstance bo_isinstance (pa_cons (pv 0) (pa_cons (pe_glob (v := .ref (ga K "BadNumber")) (by rfl) T.g_BadNumber rfl) pa_nil))) (pa_cons (pe_callB (call_isP (ec_BadRow T) List.mem_cons_self hz hf) (by rfl) T.z_isinstance bo_isinstance (pa_cons (pv 0) (pa_cons (pe_glob (v := .ref (ga K "BadCuts")) (by rfl) T.g_BadCuts rfl) pa_nil))) pa_nil))))) (pss_one (ps_ret (pe_op op_cat (pv 1) (pe_lst (pa_cons (pe_callB (call_isP (ec_BadRow T) List.mem_cons_self hz hf) (by rfl) T.z_isinstance bo_isinstance (pa_cons (pv 0) (pa_cons (pe_glob (v := .ref (ga K "BadText")) (by rfl) T.g_BadText rfl) pa_nil))) (pa_cons (pe_callB (call_isP (ec_BadRow T) List.mem_cons_self hz hf) (by rfl) T.z_isinstance bo_isinstance (pa_cons (pv 0) (pa_cons (pe_bltn (v := .ty "ValueError") (by rfl) T.z_ValueError bo_ValueError rfl) pa_nil))) pa_nil))))))), ?_⟩
      refine q_asgL (xs := ([true, false, false] : List Bool).map V.bl) (el_lst (ea_cons (ev_isE (ev_var rfl) T.kx_BadRow_BadRow) (ea_cons (ev_isE (ev_var rfl) T.kx_BadRow_BadNumber) (ea_cons (ev_isE (ev_var rfl) T.kx_BadRow_BadCuts) ea_nil))) (by decide)) fun p H1 hp e1 h1 => ?_
      exact s_retL (el_is (el_cat1 (ev_var rfl) h1 (el_lst (ea_cons (ev_isE (ev_var rfl) T.kx_BadRow_BadText) (ea_cons (ev_isEV (ev_var rfl) T.kv_BadRow) ea_nil)) l2) (by decide)) rfl) fun r H2 hr e2 h2 => k r _ (fresh_back e1 hr) (e1.trans e2) h2
    | num =>
      refine ⟨_, (pss_cons (ps_set (i := 1) sc__law_kinds.nd rfl (Or.inl rfl) (pe_lst (pa_cons (pe_callB (call_isP (ec_BadNumber T) List.mem_cons_self hz hf) (by rfl) T.z_isinstance bo_isinstance (pa_cons (pv 0) (pa_cons (pe_glob (v := .ref (ga K "BadRow")) (by rfl) T.g_BadRow rfl) pa_nil))) (pa_cons (pe_callB (call_isP (ec_BadNumber T) List.mem_cons_self hz hf) (by rfl) T.z_isinstance bo_isinstance (pa_cons (pv 0) (pa_cons (pe_glob (v := .ref (ga K "BadNumber")) (by rfl) T.g_BadNumber rfl) pa_nil))) (pa_cons (pe_callB (call_isP (ec_BadNumber T) List.mem_cons_self hz hf) (by rfl) T.z_isinstance bo_isinstance (pa_cons (pv 0) (pa_cons (pe_glob (v := .ref (ga K "BadCuts")) (by rfl) T.g_BadCuts rfl) pa_nil))) pa_nil))))) (pss_one (ps_ret (pe_op op_cat (pv 1) (pe_lst (pa_cons (pe_callB (call_isP (ec_BadNumber T) List.mem_cons_self hz hf) (by rfl) T.z_isinstance bo_isinstance (pa_cons (pv 0) (pa_cons (pe_glob (v := .ref (ga K "BadText")) (by rfl) T.g_BadText rfl) pa_nil))) (pa_cons (pe_callB (call_isP (ec_BadNumber T) List.mem_cons_self hz hf) (by rfl) T.z_isinstance bo_isinstance (pa_cons (pv 0) (pa_cons (pe_bltn (v := .ty "ValueError") (by rfl) T.z_ValueError bo_ValueError rfl) pa_nil))) pa_nil))))))), ?_⟩
      refine q_asgL (xs := ([false, true, false] : List Bool).map V.bl) (el_lst (ea_cons (ev_isE (ev_var rfl) T.kx_BadNumber_BadRow) (ea_cons (ev_isE (ev_var rfl) T.kx_BadNumber_BadNumber) (ea_cons (ev_isE (ev_var rfl) T.kx_BadNumber_BadCuts) ea_nil))) (by decide)) fun p H1 hp e1 h1 => ?_
      exact s_retL (el_is (el_cat1 (ev_var rfl) h1 (el_lst (ea_cons (ev_isE (ev_var rfl) T.kx_BadNumber_BadText) (ea_cons (ev_isEV (ev_var rfl) T.kv_BadNumber) ea_nil)) l2) (by decide)) rfl) fun r H2 hr e2 h2 => k r _ (fresh_back e1 hr) (e1.trans e2) h2
    | cut =>
      refine ⟨_, (pss_cons (ps_set (i := 1) sc__law_kinds.nd rfl (Or.inl rfl) (pe_lst (pa_cons (pe_callB (call_isP (ec_BadCuts T) List.mem_cons_self hz hf) (by rfl) T.z_isinstance bo_isinstance (pa_cons (pv 0) (pa_cons (pe_glob (v := .ref (ga K "BadRow")) (by rfl) T.g_BadRow rfl) pa_nil))) (pa_cons (pe_callB (call_isP (ec_BadCuts T) List.mem_cons_self hz hf) (by rfl) T.z_isinstance bo_isinstance (pa_cons (pv 0) (pa_cons (pe_glob (v := .ref (ga K "BadNumber")) (by rfl) T.g_BadNumber rfl) pa_nil))) (pa_cons (pe_callB (call_isP (ec_BadCuts T) List.mem_cons_self hz hf) (by rfl) T.z_isinstance bo_isinstance (pa_cons (pv 0) (pa_cons (pe_glob (v := .ref (ga K "BadCuts")) (by rfl) T.g_BadCuts rfl) pa_nil))) pa_nil))))) (pss_one (ps_ret (pe_op op_cat (pv 1) (pe_lst (pa_cons (pe_callB (call_isP (ec_BadCuts T) List.mem_cons_self hz hf) (by rfl) T.z_isinstance bo_isinstance (pa_cons (pv 0) (pa_cons (pe_glob (v := .ref (ga K "BadText")) (by rfl) T.g_BadText rfl) pa_nil))) (pa_cons (pe_callB (call_isP (ec_BadCuts T) List.mem_cons_self hz hf) (by rfl) T.z_isinstance bo_isinstance (pa_cons (pv 0) (pa_cons (pe_bltn (v := .ty "ValueError") (by rfl) T.z_ValueError bo_ValueError rfl) pa_nil))) pa_nil))))))), ?_⟩
      refine q_asgL (xs := ([false, false, true] : List Bool).map V.bl) (el_lst (ea_cons (ev_isE (ev_var rfl) T.kx_BadCuts_BadRow) (ea_cons (ev_isE (ev_var rfl) T.kx_BadCuts_BadNumber) (ea_cons (ev_isE (ev_var rfl) T.kx_BadCuts_BadCuts) ea_nil))) (by decide)) fun p H1 hp e1 h1 => ?_
      exact s_retL (el_is (el_cat1 (ev_var rfl) h1 (el_lst (ea_cons (ev_isE (ev_var rfl) T.kx_BadCuts_BadText) (ea_cons (ev_isEV (ev_var rfl) T.kv_BadCuts) ea_nil)) l2) (by decide)) rfl) fun r H2 hr e2 h2 => k r _ (fresh_back e1 hr) (e1.trans e2) h2
/-! ### what is told -/
def Asked (K : PySem.W.Frag) (H : Hp) (f : Addr) (x y : V) (c : Rf) : Prop :=
  (f = ga K "_law_with_row" ∧ c = .row ∧ AskRow K H x y) ∨ (f = ga K "_law_with_number" ∧ c = .num ∧ AskNum K H x y) ∨ (f = ga K "_law_with_cuts" ∧ c = .cut ∧ AskCut K H x y) ∨ (f = ga K "_law_cut_text" ∧ c = .cut ∧ AskCut K H x y)
theorem Asked.mono {H H' : Hp} {f : Addr} {x y : V} {c : Rf} (e : Ex H H') (h : Asked K H f x y c) : Asked K H' f x y c := by
  rcases h with ⟨h1, h2, h3⟩ | ⟨h1, h2, h3⟩ | ⟨h1, h2, h3⟩ | ⟨h1, h2, h3⟩
  · exact .inl ⟨h1, h2, h3.mono e⟩
  · exact .inr (.inl ⟨h1, h2, h3.mono e⟩)
  · exact .inr (.inr (.inl ⟨h1, h2, h3.mono e⟩))
  · exact .inr (.inr (.inr ⟨h1, h2, h3.mono e⟩))
def F__law_told (K : PySem.W.Frag) : LF := fun vs H zs => ∃ f x y c, vs = [.ref f, x, y] ∧ Asked K H f x y c ∧ zs = c.kinds.map V.bl
def sp__law_told (K : PySem.W.Frag) : Sp := Pl (F__law_told K)
theorem m__law_told : MonoL (F__law_told K) := fun vs H H1 z e ⟨f, x, y, c, h1, h2, h3⟩ => ⟨f, x, y, c, h1, h2.mono e, h3⟩
section
variable {σ : L2.St} {H : Hp} {ar : TA} {a : Addr} {c : Rf}
theorem el_kinds (h : EvA ar σ H [.ref a]) : EvL (tCallE (sp__law_kindsE K) a (.ref (ga K c.nm)) none ar) σ H (c.kinds.map V.bl) := fun H1 e Q q =>
  h H1 e _ fun H2 e2 => ⟨c, rfl, rfl, rfl, fun p H3 hp e3 h3 => q p H3 (fresh_back e2 hp) (e2.trans e3) h3⟩
end
theorem sc__law_told : FnScope ["_law_ask", "_law_one", "_law_other", "_law_error"] ["_law_ask", "_law_one", "_law_other"] (defScope s__law_told) := ⟨rfl, rfl, rfl, by decide +kernel, rfl, by decide +kernel, by decide +kernel⟩
theorem ok__law_told (T : Tx K mg) : Kept P w K mg base CX0 6 "_law_told" ["_law_ask", "_law_one", "_law_other"] (sp__law_told K) := by
  have D__law_cut_textY : Kept P w K mg base (L2N.CX P w) 5 "_law_cut_text" ["_law_row_here", "_law_cuts"] (sp__law_cut_textY K) := ok__law_cut_textY T
  have D__law_kindsE : KeptE P w K mg base 1 "_law_kinds" ["_law_error"] (sp__law_kindsE K) := ok__law_kindsE T
  have D__law_with_cutsY : Kept P w K mg base (L2N.CX P w) 5 "_law_with_cuts" ["_law_row_here", "_law_cuts"] (sp__law_with_cutsY K) := ok__law_with_cutsY T
  have D__law_with_numberN : Kept P w K mg base (L2N.CX P w) 4 "_law_with_number" ["_law_door", "_law_thing"] (sp__law_with_numberN K) := ok__law_with_numberN T
  have D__law_with_rowX : Kept P w K mg base (L2N.CX P w) 4 "_law_with_row" ["_law_door", "_law_row_here"] (sp__law_with_rowX K) := ok__law_with_rowX T
  obtain ⟨fd, F⟩ := T.d__law_told
  refine ⟨⟨fd, F.ok sc__law_told (fun vs H Q E h => by obtain ⟨_, ⟨_, _, _, _, rfl, _⟩, _⟩ := h; rfl) (fun cdv A outer s H vs Q E hRm h => ?_), F.bindsN fun _ _ _ _ _ _ us hl => match us, hl with | [_, _, _], _ => rfl⟩, T.g__law_told, F.kp⟩
  · obtain ⟨z, ⟨f, x, y, c, rfl, hA, rfl⟩, k⟩ := h
    rcases hA with ⟨rfl, rfl, hA⟩ | ⟨rfl, rfl, hA⟩ | ⟨rfl, rfl, hA⟩ | ⟨rfl, rfl, hA⟩
    · refine ⟨_, (PSs.nox (pss_cons (L2N.ps_try_as (i := 3) (Wout := fun _ _ _ _ => False) rfl rfl sc__law_told.nd rfl rfl ⟨rfl, by decide, .inl T.g_CutError⟩ takesN (fun W pn xe tk _ => (pss_one (ps_expr (pe_dLXK (i := 0) (K := K) rfl D__law_with_rowX (hRm.mono (by decide)) rfl (Or.inl rfl) tk (pa_cons (pv 1) (pa_cons (pv 2) pa_nil)))))) (fun a oe cls d pn hz hf => (pss_one (ps_ret (pe_dE D__law_kindsE (L2H.roomH_mark (hRm.mono (by decide)) _) List.mem_cons_self hz.zc hf (by rfl) (pa_cons (pv 3) pa_nil)))))) (pss_one (ps_ret (pe_lst pa_nil))))), ?_⟩
      refine r_drop (er_callL rfl m__law_with_rowX (ea_cons (ev_var rfl) (ea_cons (ev_var rfl) ea_nil)) ⟨x, y, rfl, hA⟩ fun H1 e1 => ⟨true, xm_BadRow T, fun _ a ha => ?_, fun q => nomatch q⟩)
      exact s_retL (el_kinds (c := .row) (ea_cons (ev_var rfl) ea_nil)) fun p H2 hp e2 h2 => k p _ (fresh_back e1 hp) (e1.trans e2) h2
    · refine ⟨_, (PSs.nox (pss_cons (L2N.ps_try_as (i := 3) (Wout := fun _ _ _ _ => False) rfl rfl sc__law_told.nd rfl rfl ⟨rfl, by decide, .inl T.g_CutError⟩ takesN (fun W pn xe tk _ => (pss_one (ps_expr (pe_dLXK (i := 0) (K := K) rfl D__law_with_numberN (hRm.mono (by decide)) rfl (Or.inl rfl) tk (pa_cons (pv 1) (pa_cons (pv 2) pa_nil)))))) (fun a oe cls d pn hz hf => (pss_one (ps_ret (pe_dE D__law_kindsE (L2H.roomH_mark (hRm.mono (by decide)) _) List.mem_cons_self hz.zc hf (by rfl) (pa_cons (pv 3) pa_nil)))))) (pss_one (ps_ret (pe_lst pa_nil))))), ?_⟩
      refine r_drop (er_callL rfl m__law_with_numberN (ea_cons (ev_var rfl) (ea_cons (ev_var rfl) ea_nil)) ⟨x, y, rfl, hA⟩ fun H1 e1 => ⟨true, xm_BadNumber T, fun _ a ha => ?_, fun q => nomatch q⟩)
      exact s_retL (el_kinds (c := .num) (ea_cons (ev_var rfl) ea_nil)) fun p H2 hp e2 h2 => k p _ (fresh_back e1 hp) (e1.trans e2) h2
    · obtain ⟨b, ns, rfl, hg, hc⟩ := hA
      refine ⟨_, (PSs.nox (pss_cons (L2N.ps_try_as (i := 3) (Wout := fun _ _ _ _ => False) rfl rfl sc__law_told.nd rfl rfl ⟨rfl, by decide, .inl T.g_CutError⟩ takesN (fun W pn xe tk _ => (pss_one (ps_expr (pe_dLXK (i := 0) (K := K) rfl D__law_with_cutsY (hRm.mono (by decide)) rfl (Or.inl rfl) tk (pa_cons (pv 1) (pa_cons (pv 2) pa_nil)))))) (fun a oe cls d pn hz hf => (pss_one (ps_ret (pe_dE D__law_kindsE (L2H.roomH_mark (hRm.mono (by decide)) _) List.mem_cons_self hz.zc hf (by rfl) (pa_cons (pv 3) pa_nil)))))) (pss_one (ps_ret (pe_lst pa_nil))))), ?_⟩
      refine r_drop (er_callL rfl m_cuts2Y (ea_cons (ev_var rfl) (ea_cons (ev_var rfl) ea_nil)) ⟨b, ns, y, rfl, hg, hc⟩ fun H1 e1 => ⟨true, xm_BadCuts T, fun _ a ha => ?_, fun q => nomatch q⟩)
      exact s_retL (el_kinds (c := .cut) (ea_cons (ev_var rfl) ea_nil)) fun p H2 hp e2 h2 => k p _ (fresh_back e1 hp) (e1.trans e2) h2
    · obtain ⟨b, ns, rfl, hg, hc⟩ := hA
      refine ⟨_, (PSs.nox (pss_cons (L2N.ps_try_as (i := 3) (Wout := fun _ _ _ _ => False) rfl rfl sc__law_told.nd rfl rfl ⟨rfl, by decide, .inl T.g_CutError⟩ takesN (fun W pn xe tk _ => (pss_one (ps_expr (pe_dLXK (i := 0) (K := K) rfl D__law_cut_textY (hRm.mono (by decide)) rfl (Or.inl rfl) tk (pa_cons (pv 1) (pa_cons (pv 2) pa_nil)))))) (fun a oe cls d pn hz hf => (pss_one (ps_ret (pe_dE D__law_kindsE (L2H.roomH_mark (hRm.mono (by decide)) _) List.mem_cons_self hz.zc hf (by rfl) (pa_cons (pv 3) pa_nil)))))) (pss_one (ps_ret (pe_lst pa_nil))))), ?_⟩
      refine r_drop (er_callL rfl m_cuts2Y (ea_cons (ev_var rfl) (ea_cons (ev_var rfl) ea_nil)) ⟨b, ns, y, rfl, hg, hc⟩ fun H1 e1 => ⟨true, xm_BadCuts T, fun _ a ha => ?_, fun q => nomatch q⟩)
      exact s_retL (el_kinds (c := .cut) (ea_cons (ev_var rfl) ea_nil)) fun p H2 hp e2 h2 => k p _ (fresh_back e1 hp) (e1.trans e2) h2

end
end Ct
namespace Ct
open PySem PySem.Spec PyProof.Rows L2 Evl
open He (ga ma)
section
variable {P : Program} {w : World} {K : PySem.W.Frag} {mg : Str → Option Value} {base : Heap}
/-! ### values told by a word of the heap -/
abbrev PF := Hp → V → Prop
def Mo (P : PF) : Prop := ∀ H H' v, Ex H H' → P H v → P H' v
def EvP (te : TE) (σ : L2.St) (H : Hp) (P : PF) : Prop := ∀ H1, Ex H H1 → ∀ Q : VK, (∀ v H2, Ex H1 H2 → P H2 v → Q v H2) → te σ H1 Q
def EvAP (ta : TA) (σ : L2.St) (H : Hp) (n : Nat) (P : PF) : Prop := ∀ H1, Ex H H1 → ∀ Q : List V → Hp → Prop, (∀ vs H2, Ex H1 H2 → vs.length = n → (∀ x ∈ vs, P H2 x) → Q vs H2) → ta σ H1 Q
/-- pairs displayed -/
def EvPr (ta : TA) (σ : L2.St) (H : Hp) (ps : List (Int × Int)) : Prop := ∀ H1, Ex H H1 → ∀ Q : List V → Hp → Prop, (∀ xs H2, Ex H1 H2 → Prs H2 xs ps → Q xs H2) → ta σ H1 Q
theorem Prs.cons {H : Hp} {xs : List V} {ps : List (Int × Int)} {t : Addr} {a b : Int} (h : Prs H xs ps) (ht : H t = some (.tup [.int a, .int b])) : Prs H (.ref t :: xs) ((a, b) :: ps) := by
  refine ⟨by rw [List.length_cons, List.length_cons, h.1], fun i p hp => ?_⟩
  cases i with
  | zero =>
    have e : (a, b) = p := Option.some.inj hp
    subst e
    exact ⟨t, rfl, ht⟩
  | succ i => exact h.2 i p hp
section
variable {K : PySem.W.Frag} {σ : L2.St} {H : Hp} {ta tb tc te tl : TE} {tr : TA} {P P' : PF} {v w : V} {n i : Nat} {ps : List (Int × Int)} {D : Ends} {tz tu : TS} {g : TG}
theorem ap_nil : EvAP tNil σ H 0 P := fun H1 _ Q q => q [] H1 (Ex.refl H1) rfl (fun x h => by cases h)
theorem ap_cons (mo : Mo P) (h : EvP te σ H P) (hr : EvAP tr σ H n P) : EvAP (tCons te tr) σ H (n + 1) P := fun H1 e Q q =>
  h H1 e _ fun v H2 e2 hv => hr H2 (e.trans e2) _ fun vs H3 e3 hn hvs => q (v :: vs) H3 (e2.trans e3) (by rw [List.length_cons, hn]) (fun x hx => by
    rcases List.mem_cons.mp hx with z | z
    · rw [z]
      exact mo _ _ _ e3 hv
    · exact hvs x z)
theorem pr_nil : EvPr tNil σ H [] := fun H1 _ Q q => q [] H1 (Ex.refl H1) Prs.nil
theorem pr_cons {a b : Int} (ha : Ev ta σ H (.int a)) (hb : Ev tb σ H (.int b)) (hr : EvPr tr σ H ps) : EvPr (tCons (tTup (tCons ta (tCons tb tNil))) tr) σ H ((a, b) :: ps) := fun H1 e Q q =>
  eu_tup (ea_cons ha (ea_cons hb ea_nil)) l2 H1 e _ fun t H2 _ e2 ht => hr H2 (e.trans e2) _ fun xs H3 e3 hP => q _ H3 (e2.trans e3) (hP.cons (e3 _ _ ht))
theorem ep_imp (h : EvP te σ H P) (k : ∀ H' v, P H' v → P' H' v) : EvP te σ H P' := fun H1 e Q q => h H1 e Q fun v H2 e2 p => q v H2 e2 (k _ _ p)
theorem ep_ev (h : Ev te σ H v) : EvP te σ H (fun _ u => u = v) := fun H1 e Q q => h H1 e Q fun H2 e2 => q v H2 e2 rfl
theorem ep_lst {xs : List V} (h : EvL te σ H xs) : EvP te σ H (fun H' u => ∃ p, u = .ref p ∧ H' p = some (.lst xs)) := fun H1 e Q q => h H1 e Q fun p H2 _ e2 h2 => q _ H2 e2 ⟨p, rfl, h2⟩
theorem ep_prs (h : EvPr tr σ H ps) (hl : ps.length ≤ 100000) : EvP (tLst tr) σ H (fun H' u => ∃ p ys, u = .ref p ∧ H' p = some (.lst ys) ∧ Prs H' ys ps) := fun H1 e Q q => h H1 e _ fun xs H2 e2 hP =>
  ⟨sz_of (by rw [hP.1]; exact hl), fun p hp => q _ _ (e2.trans (Ex.new hp)) ⟨p, xs, rfl, upd_same, hP.mono (Ex.new hp)⟩⟩
theorem ep_tup2 {P1 P2 : PF} (m1 : Mo P1) (m2 : Mo P2) (h1 : EvP ta σ H P1) (h2 : EvP tb σ H P2) : EvP (tTup (tCons ta (tCons tb tNil))) σ H (fun H' u => ∃ t a b, u = .ref t ∧ H' t = some (.tup [a, b]) ∧ P1 H' a ∧ P2 H' b) := fun H1 e Q q =>
  h1 H1 e _ fun a H2 e2 p1 => h2 H2 (e.trans e2) _ fun b H3 e3 p2 => ⟨n2, fun t ht => q _ _ ((e2.trans e3).trans (Ex.new ht)) ⟨t, a, b, rfl, upd_same, m1 _ _ _ (e3.trans (Ex.new ht)) p1, m2 _ _ _ (Ex.new ht) p2⟩⟩
theorem ep_tup3 {P1 P2 P3 : PF} (m1 : Mo P1) (m2 : Mo P2) (m3 : Mo P3) (h1 : EvP ta σ H P1) (h2 : EvP tb σ H P2) (h3 : EvP tc σ H P3) : EvP (tTup (tCons ta (tCons tb (tCons tc tNil)))) σ H (fun H' u => ∃ t a b c, u = .ref t ∧ H' t = some (.tup [a, b, c]) ∧ P1 H' a ∧ P2 H' b ∧ P3 H' c) := fun H1 e Q q =>
  h1 H1 e _ fun a H2 e2 p1 => h2 H2 (e.trans e2) _ fun b H3 e3 p2 => h3 H3 ((e.trans e2).trans e3) _ fun c H4 e4 p3 => ⟨n3, fun t ht => q _ _ (((e2.trans e3).trans e4).trans (Ex.new ht)) ⟨t, a, b, c, rfl, upd_same, m1 _ _ _ ((e3.trans e4).trans (Ex.new ht)) p1, m2 _ _ _ (e4.trans (Ex.new ht)) p2, m3 _ _ _ (Ex.new ht) p3⟩⟩
theorem mo_eq : Mo (fun _ u => u = v) := fun _ _ _ _ h => h
theorem mo_lst {xs : List V} : Mo (fun H' u => ∃ p, u = .ref p ∧ H' p = some (.lst xs)) := fun _ _ _ e ⟨p, h1, h2⟩ => ⟨p, h1, e _ _ h2⟩
theorem mo_prs : Mo (fun H' u => ∃ p ys, u = .ref p ∧ H' p = some (.lst ys) ∧ Prs H' ys ps) := fun _ _ _ e ⟨p, ys, h1, h2, h3⟩ => ⟨p, ys, h1, e _ _ h2, h3.mono e⟩
/-- a list of such, made and told -/
theorem q_asgLP (h : EvAP tr σ H n P) (hn : n ≤ 100000) (k : ∀ p xs H1 H2, Ex H H1 → H1 p = none → xs.length = n → (∀ x ∈ xs, P H1 x) → H2 = upd H1 p (.lst xs) → tz D (σ.set i (some (.ref p))) H2) : tSeq (tAsg (tLst tr) (gName i)) tz D σ H :=
  h H (Ex.refl H) _ fun xs H1 e hl hP => ⟨sz_of (by omega), fun p hp => k p xs H1 _ e hp hl hP rfl⟩
/-- a loop over a list of such, made on the way | that stands -/
theorem q_forP (mo : Mo P) (h : EvAP tr σ H n P) (hn : n ≤ 100000) (Pw : L2.St → Hp → Prop) (h0 : ∀ H1, Ex H H1 → Pw σ H1) (hs : ∀ x σ' H0 H', Ex H H0 → Ex H0 H' → P H' x → Pw σ' H' → g x σ' H' fun σ2 H2 => tu { D with nx := fun σ2 H2 => Ex H0 H2 ∧ Pw σ2 H2, ct := fun σ2 H2 => Ex H0 H2 ∧ Pw σ2 H2, bk := tz D } σ2 H2)
    (hd : ∀ σ' H', Ex H H' → Pw σ' H' → tz D σ' H') : tSeq (tFor (iList K (tLst tr)) g tu) tz D σ H :=
  h H (Ex.refl H) _ fun xs H1 e hl hP => ⟨sz_of (by omega), fun a ha => ⟨a, rfl, ⟨xs, sq_of upd_same⟩, for_list (D := { D with nx := tz D }) (fun _ σ' H' => Ex (upd H1 a (.lst xs)) H' ∧ Pw σ' H') ⟨Ex.refl _, h0 _ (e.trans (Ex.new ha))⟩ (fun i σ' H' _ q => sq_of (q.1 _ _ upd_same))
    (fun i x σ' H' hi q => hs x σ' _ H' (e.trans (Ex.new ha)) q.1 (mo _ _ _ ((Ex.new ha).trans q.1) (hP x (List.mem_of_getElem? hi))) q.2) (fun σ' H' q => hd σ' H' ((e.trans (Ex.new ha)).trans q.1) q.2)⟩⟩
theorem q_forS {a : Addr} {xs : List V} (h : Ev tl σ H (.ref a)) (hx : H a = some (.lst xs)) (Pw : L2.St → Hp → Prop) (h0 : ∀ H1, Ex H H1 → Pw σ H1) (hs : ∀ x σ' H0 H', Ex H H0 → Ex H0 H' → x ∈ xs → Pw σ' H' → g x σ' H' fun σ2 H2 => tu { D with nx := fun σ2 H2 => Ex H0 H2 ∧ Pw σ2 H2, ct := fun σ2 H2 => Ex H0 H2 ∧ Pw σ2 H2, bk := tz D } σ2 H2)
    (hd : ∀ σ' H', Ex H H' → Pw σ' H' → tz D σ' H') : tSeq (tFor (iList K tl) g tu) tz D σ H :=
  h H (Ex.refl H) _ fun H1 e => ⟨a, rfl, ⟨xs, sq_of (e _ _ hx)⟩, for_list (D := { D with nx := tz D }) (fun _ σ' H' => Ex H1 H' ∧ Pw σ' H') ⟨Ex.refl _, h0 _ e⟩ (fun i σ' H' _ q => sq_of ((e.trans q.1) _ _ hx))
    (fun i x σ' H' hi q => hs x σ' _ H' e q.1 (List.mem_of_getElem? hi) q.2) (fun σ' H' q => hd σ' H' (e.trans q.1) q.2)⟩
end

end
end Ct
namespace Ct
open PySem PySem.Spec PyProof.Rows L2 Evl
open He (ga ma)
section
variable {P : Program} {w : World} {K : PySem.W.Frag} {mg : Str → Option Value} {base : Heap}
/-! ### lists of truths compared -/
abbrev dB (bs : List Bool) : PyData := .list (bs.map PyData.bool)
section
variable {K : PySem.W.Frag} {H : Hp}
theorem dpa_bl : ∀ bs : List Bool, DpAll K H (bs.map V.bl) (bs.map PyData.bool)
  | [] => .nil
  | b :: r => .cons (.bl b) (dpa_bl r)
theorem lay_bl : ∀ bs : List Bool, PyData.canLayAll0 (bs.map PyData.bool) = true
  | [] => by simp [PyData.canLayAll0]
  | n :: r => by
    rw [List.map_cons, PyData.canLayAll0, lay_bl r]
    simp [PyData.canLay0]
theorem dep_bl : ∀ bs : List Bool, PyData.depthAll (bs.map PyData.bool) ≤ 1
  | [] => by simp [PyData.depthAll]
  | n :: r => by
    rw [List.map_cons, PyData.depthAll]
    have := dep_bl r
    simp [PyData.depth]
    omega
theorem sh_bl (bs : List Bool) : SeqAt.shaped (dB bs) = true := by
  unfold SeqAt.shaped
  rw [Bool.and_eq_true]
  refine ⟨by simp only [PyData.canLay0]; exact lay_bl bs, decide_eq_true ?_⟩
  have := dep_bl bs
  simp only [PyData.depth]
  omega
theorem eqvA_bl : ∀ bs cs : List Bool, PyData.eqvAll (bs.map PyData.bool) (cs.map PyData.bool) = decide (bs = cs)
  | [], [] => by simp [PyData.eqvAll]
  | [], m :: ms => by simp [PyData.eqvAll]
  | n :: ns, [] => by simp [PyData.eqvAll]
  | n :: ns, m :: ms => by
    rw [List.map_cons, List.map_cons, PyData.eqvAll, eqvA_bl ns ms]
    simp only [PyData.eqv]
    cases n <;> cases m <;> by_cases h2 : ns = ms <;> simp [h2]
theorem eqv_dB (bs cs : List Bool) : PyData.eqv (dB bs) (dB cs) = decide (bs = cs) := by
  simp only [PyData.eqv]
  exact eqvA_bl bs cs
theorem rv_eqB {a b : Addr} {bs cs : List Bool} (h1 : H a = some (.lst (bs.map V.bl))) (h2 : H b = some (.lst (cs.map V.bl))) : RV (rEqD K) (.ref a) (.ref b) H (.bl (decide (bs = cs))) := fun H1 e Q q =>
  ⟨dB bs, dB cs, .lst (sq_of (e _ _ h1)) (dpa_bl bs), .lst (sq_of (e _ _ h2)) (dpa_bl cs), sh_bl bs, sh_bl cs, by rw [eqv_dB]; exact q H1 (Ex.refl H1)⟩
theorem rv_neB {a b : Addr} {bs cs : List Bool} (h1 : H a = some (.lst (bs.map V.bl))) (h2 : H b = some (.lst (cs.map V.bl))) : RV (rNeD K) (.ref a) (.ref b) H (.bl (!decide (bs = cs))) := fun H1 e Q q =>
  ⟨dB bs, dB cs, .lst (sq_of (e _ _ h1)) (dpa_bl bs), .lst (sq_of (e _ _ h2)) (dpa_bl cs), sh_bl bs, sh_bl cs, by rw [eqv_dB]; exact q H1 (Ex.refl H1)⟩
end
/-! ### all of them -/
def F__law_all (K : PySem.W.Frag) : VF := fun vs H z => ∃ (f ds ts du : Addr) (doors : List Int) (xs : List V) (c : Rf), vs = [.ref f, .ref ds, .ref ts, .ref du] ∧ H ds = some (.lst (doors.map V.int)) ∧ H ts = some (.lst xs) ∧ xs.length ≤ 1000 ∧ H du = some (.lst (c.kinds.map V.bl)) ∧
  (∀ d ∈ doors, ∀ y ∈ xs, Asked K H f (.int d) y c) ∧ z = .bl true
def sp__law_all (K : PySem.W.Frag) : Sp := Pv (F__law_all K)
theorem m__law_all : MonoV (F__law_all K) := fun vs H H1 z e ⟨f, ds, ts, du, doors, xs, c, h1, h2, h3, h4, h5, h6, h7⟩ => ⟨f, ds, ts, du, doors, xs, c, h1, e _ _ h2, e _ _ h3, h4, e _ _ h5, fun d hd y hy => (h6 d hd y hy).mono e, h7⟩
theorem all_yes {α : Type} (xs : List α) : ((xs.map fun _ => true).all id) = true := by
  rw [List.all_eq_true]
  intro b hb
  obtain ⟨_, _, rfl⟩ := List.mem_map.mp hb
  rfl
theorem sc__law_all : FnScope ["_law_ask", "_law_doors", "_law_things", "_law_due", "_law_door", "_law_thing"] ["_law_ask", "_law_doors", "_law_things", "_law_due"] (defScope s__law_all) := ⟨rfl, rfl, rfl, by decide +kernel, rfl, by decide +kernel, by decide +kernel⟩
theorem ok__law_all (T : Tx K mg) : Kept P w K mg base CX0 7 "_law_all" ["_law_ask", "_law_doors", "_law_things", "_law_due"] (sp__law_all K) := by
  have D__law_told : Kept P w K mg base CX0 6 "_law_told" ["_law_ask", "_law_one", "_law_other"] (sp__law_told K) := ok__law_told T
  obtain ⟨fd, F⟩ := T.d__law_all
  refine ⟨⟨fd, F.ok sc__law_all (fun vs H Q E h => by obtain ⟨_, ⟨_, _, _, _, _, _, _, rfl, _⟩, _⟩ := h; rfl) (fun cdv A outer s H vs Q E hRm h => ?_), F.bindsN fun _ _ _ _ _ _ us hl => match us, hl with | [_, _, _, _], _ => rfl⟩, T.g__law_all, F.kp⟩
  · obtain ⟨z, ⟨f, ds, ts, du, doors, xs, c, rfl, hds, hts, hl, hdu, hA, rfl⟩, k⟩ := h
    refine ⟨_, (PSs.nox (pss_cons (ps_for PassesOwn.never rfl (pi_list (pv 1)) (pg_name (i := 4) sc__law_all.nd rfl (Or.inr rfl)) (pss_one (ps_if (pt_not (pt_val (pe_callB (cr_all rfl) (by rfl) T.z_all bo_all (pa_cons (pe_lc (own := [("_law_thing", 5)]) (g := gName 5) (tt := tYes) rfl sc__law_all.nd (pi_list (pv 2)) (blkOk_by (N := ["_law_ask", "_law_doors", "_law_things", "_law_due", "_law_door", "_law_thing"]) (sc := defScope s__law_all) (by decide +kernel)) (fun _ _ _ _ _ => pg_name (i := 5) sc__law_all.nd rfl (Or.inl rfl)) (fun _ _ _ _ _ => pts_nil) (fun _ _ _ _ _ => (pe_cmpR (op_eqDK (K := K) rfl hRm.units) (pe_d D__law_told (hRm.mono (by decide)) (by rfl) (pa_cons (pv 0) (pa_cons (pv 4) (pa_cons (pv 5) pa_nil)))) (pv 3) (nomark _)))) pa_nil)))) (pss_one (ps_ret pe_bl)) pss_nil))) (pss_one (ps_ret pe_bl)))), ?_⟩
    refine q_forLn (ev_var rfl) (sq_of hds) (fun i σ' H' => ∃ v4, σ' = [some (.ref f), some (.ref ds), some (.ref ts), some (.ref du), v4, none] ∧ Ex H H') (fun H2 e2 => ⟨none, rfl, e2⟩) (fun i σ' H' _ ⟨_, _, e⟩ => sq_of (e _ _ hds)) ?_ ?_
    · rintro i x σ' H' hi ⟨v4, rfl, e⟩
      obtain ⟨d, rfl, hd⟩ := int_at hi
      have hdm := List.mem_of_getElem? hd
      refine s_when (b := false) (et_is (et_not (et_B (ev_allN (el_mapB (fun _ => true) (ev_var rfl) (sq_of (e _ _ hts)) (by omega) (fun x => rfl) fun y H2 e2 hm => ?_)))) (by rw [all_yes]; rfl)) (fun h => by cases h) fun _ H2 e2 => ⟨_, rfl, e.trans e2⟩
      exact ev_is (ev_opL1 (el_callL m__law_told (ea_cons (ev_var rfl) (ea_cons (ev_var rfl) (ea_cons (ev_var rfl) ea_nil))) ⟨f, .int d, y, c, rfl, (hA d hdm y hm).mono (e.trans e2), rfl⟩) (fun H3 e3 => ev_var rfl) fun p H3 h3 e3 => rv_eqB h3 (((e.trans e2).trans e3) _ _ hdu)) (by simp)
    · rintro σ' H' ⟨v4, rfl, e⟩
      exact s_ret ev_c fun H2 e2 => k _ (e.trans e2)

end
end Ct
namespace Ct
open PySem PySem.Spec PyProof.Rows L2 Evl
open He (ga ma)
section
variable {P : Program} {w : World} {K : PySem.W.Frag} {mg : Str → Option Value} {base : Heap}
/-! ### law 7: items and lists that are refused -/
section
variable {K : PySem.W.Frag} {H : Hp} {a : Addr} {xs : List V} {i : Int} {s : Str} {b : Bool} {y : V}
theorem nl_non : NoList K H .non := ⟨"NoneType", .base .non, by decide +kernel⟩
theorem nl_int : NoList K H (.int i) := ⟨"int", .base (.int i), by decide +kernel⟩
theorem nl_str : NoList K H (.str s) := ⟨"str", .base (.str s), by decide +kernel⟩
theorem nl_tup (h : H a = some (.tup xs)) : NoList K H (.ref a) := ⟨"tuple", .base (.tup h), by decide +kernel⟩
theorem nl_dK {kvs : List (Key × V)} (h : H a = some (.dK kvs)) : NoList K H (.ref a) := ⟨"dict", .base (.dK h), by decide +kernel⟩
theorem ni_non : NoInt K H .non := ⟨rfl, "NoneType", false, false, .base .non, by decide +kernel, by decide +kernel, rfl⟩
theorem ni_str : NoInt K H (.str s) := ⟨rfl, "str", false, false, .base (.str s), by decide +kernel, by decide +kernel, rfl⟩
theorem ni_bl : NoInt K H (.bl b) := ⟨rfl, "bool", true, true, .base (.bl b), by decide +kernel, by decide +kernel, rfl⟩
theorem ni_lst (h : H a = some (.lst xs)) : NoInt K H (.ref a) := ⟨rfl, "list", false, false, .base (.lst h), by decide +kernel, by decide +kernel, rfl⟩
theorem ni_tup (h : H a = some (.tup xs)) : NoInt K H (.ref a) := ⟨rfl, "tuple", false, false, .base (.tup h), by decide +kernel, by decide +kernel, rfl⟩
def BadIt (K : PySem.W.Frag) (H : Hp) (y : V) : Prop := Thing K H y ∧ itB y = false
theorem bad_ni (h : NoInt K H y) : BadIt K H y := ⟨.inr h, by
  have w := h.1
  cases y <;> first | rfl | cases w⟩
theorem bad_int (h : ¬ (0 ≤ i ∧ i ≤ 1000000)) : BadIt K H (.int i) := ⟨.inl ⟨i, rfl⟩, by
  show (decide (0 ≤ i) && decide (i ≤ 1000000)) = false
  by_cases h0 : 0 ≤ i
  · rw [decide_eq_false (show ¬ i ≤ 1000000 from fun z => h ⟨h0, z⟩), Bool.and_false]
  · rw [decide_eq_false h0, Bool.false_and]⟩
theorem nr_one (h : H a = some (.lst [y])) (hy : BadIt K H y) : NoRow K H (.ref a) := .inr ⟨a, [y], rfl, h, (show 1 ≤ 1000 by decide), fun z hz => by rw [List.mem_singleton.mp hz]; exact hy.1, by
  show (itB y && true) = false
  rw [hy.2]
  rfl⟩
theorem nc_ints {cs : List Int} {m : Int} (h : H a = some (.lst (cs.map V.int))) (hr : risV 0 (cs.map V.int) m = false) : NoCuts K H (.ref a) m := .inr ⟨a, _, rfl, h, fun z hz => by
  obtain ⟨c, _, rfl⟩ := List.mem_map.mp hz
  exact .inl ⟨c, rfl⟩, hr⟩
theorem nc_one {m : Int} (h : H a = some (.lst [y])) (hy : NoInt K H y) : NoCuts K H (.ref a) m := .inr ⟨a, _, rfl, h, fun z hz => by rw [List.mem_singleton.mp hz]; exact .inr hy, by
  have w := hy.1
  cases y <;> first | rfl | cases w⟩
theorem mo_row : Mo (NoRow K) := fun _ _ _ e h => h.mono e
theorem mo_num {l : Int} : Mo (fun H y => NoNum K H y l) := fun _ _ _ e h => h.mono e
theorem mo_cuts {m : Int} : Mo (fun H y => NoCuts K H y m) := fun _ _ _ e h => h.mono e
end
section
variable {K : PySem.W.Frag} {σ : L2.St} {H : Hp} {te ta tb tc : TE} {tr ar : TA} {P Pi : PF} {v x z : V} {xs ys zs vs : List V} {D : Ends} {tz tu : TS} {g : TG} {t : TT}
theorem ep_of (h : Ev te σ H v) (p : ∀ H1, P H1 v) : EvP te σ H P := fun H1 e Q q => h H1 e Q fun H2 e2 => q v H2 e2 (p H2)
theorem ep_ofU (h : EvU te σ H xs) (p : ∀ a H1, H1 a = some (.tup xs) → P H1 (.ref a)) : EvP te σ H P := fun H1 e Q q => h H1 e Q fun a H2 _ e2 h2 => q _ H2 e2 (p a H2 h2)
theorem ep_ofL (h : EvL te σ H xs) (p : ∀ a H1, H1 a = some (.lst xs) → P H1 (.ref a)) : EvP te σ H P := fun H1 e Q q => h H1 e Q fun a H2 _ e2 h2 => q _ H2 e2 (p a H2 h2)
theorem ep_dict (p : ∀ a H1, H1 a = some (.dK []) → P H1 (.ref a)) : EvP tDNewK σ H P := fun H1 e Q q => fun a ha => q _ _ (Ex.new ha) (p a _ upd_same)
theorem ep_listP (mo : Mo Pi) (h : EvP te σ H Pi) (p : ∀ a y H1, H1 a = some (.lst [y]) → Pi H1 y → P H1 (.ref a)) : EvP (tLst (tCons te tNil)) σ H P := fun H1 e Q q =>
  h H1 e _ fun v H2 e2 hv => ⟨sz_of l1, fun a ha => q _ _ (e2.trans (Ex.new ha)) (p a v _ upd_same (mo _ _ _ (Ex.new ha) hv))⟩
theorem el_if7 {b : Bool} (h : EvT t σ H b) (h1 : b = true → EvL ta σ H xs) (h2 : b = false → EvL tb σ H xs) : EvL (tIf t ta tb) σ H xs := fun H1 e Q q => h H1 e _ fun H2 e2 => by
  cases b with
  | true =>
    show ta σ H2 Q
    exact h1 rfl H2 (e.trans e2) Q fun p H3 hp e3 h3 => q p H3 (fresh_back e2 hp) (e2.trans e3) h3
  | false =>
    show tb σ H2 Q
    exact h2 rfl H2 (e.trans e2) Q fun p H3 hp e3 h3 => q p H3 (fresh_back e2 hp) (e2.trans e3) h3
theorem el_rg1 {b : Int} (ha : Ev ta σ H (.int b)) (h : RgOk 0 b) : EvL (tLstRg (tRg1 ta)) σ H (rgV 0 b) := fun H1 e Q q =>
  ha H1 e _ fun H2 e2 => ⟨b, rfl, h, fun p hp => q p _ (fresh_back e2 hp) (e2.trans (Ex.new hp)) upd_same⟩
theorem ev_callV2N {F : VF} (ha : Ev ta σ H x) (hb : EvL tb σ H ys) (hc : EvA ar σ H vs) (f : ∀ p H', Ex H H' → H' p = some (.lst ys) → F (x :: .ref p :: vs) H' z) : Ev (tCall (Pv F) [] E0 (tCons ta (tCons tb ar))) σ H z := fun H1 e Q q =>
  ha H1 e _ fun H2 e2 => hb H2 (e.trans e2) _ fun p H3 _ e3 h3 => hc H3 ((e.trans e2).trans e3) _ fun H4 e4 => ⟨z, by rw [List.append_nil]; exact f p H4 (((e.trans e2).trans e3).trans e4) (e4 _ _ h3), fun H5 e5 => q H5 (((e2.trans e3).trans e4).trans e5)⟩
theorem ev_callV2NN {F : VF} (ha : Ev ta σ H x) (hb : EvL tb σ H ys) (hd : EvL tc σ H zs) (hc : EvA ar σ H vs) (f : ∀ p q H', Ex H H' → H' p = some (.lst ys) → H' q = some (.lst zs) → F (x :: .ref p :: .ref q :: vs) H' z) : Ev (tCall (Pv F) [] E0 (tCons ta (tCons tb (tCons tc ar)))) σ H z := fun H1 e Q k =>
  ha H1 e _ fun H2 e2 => hb H2 (e.trans e2) _ fun p H3 _ e3 h3 => hd H3 ((e.trans e2).trans e3) _ fun q H4 _ e4 h4 => hc H4 (((e.trans e2).trans e3).trans e4) _ fun H5 e5 => ⟨z, by rw [List.append_nil]; exact f p q H5 ((((e.trans e2).trans e3).trans e4).trans e5) ((e4.trans e5) _ _ h3) (e5 _ _ h4), fun H6 e6 => k H6 ((((e2.trans e3).trans e4).trans e5).trans e6)⟩
theorem el_callVL {F : LF} (ha : Ev ta σ H x) (hb : EvL tb σ H ys) (f : ∀ p H', Ex H H' → H' p = some (.lst ys) → F [x, .ref p] H' zs) : EvL (tCall (Pl F) [] E0 (tCons ta (tCons tb tNil))) σ H zs := fun H1 e Q k =>
  ha H1 e _ fun H2 e2 => hb H2 (e.trans e2) _ fun p H3 _ e3 h3 => ⟨zs, f p H3 ((e.trans e2).trans e3) h3, fun r H4 hr e4 h4 => k r H4 (fresh_back (e2.trans e3) hr) ((e2.trans e3).trans e4) h4⟩
theorem q_forR3 {j : Nat} {lo hi c : Int} {n : Nat} (h : EvA ar σ H [.int lo, .int hi, .int c]) (hr : RgC lo hi c n) (Pw : Nat → L2.St → Hp → Prop) (h0 : ∀ H1, Ex H H1 → Pw 0 σ H1)
    (hs : ∀ (i : Nat) σ' H', i < n → Pw i σ' H' → tu { D with nx := Pw (i + 1), ct := Pw (i + 1), bk := tz D } (σ'.set j (some (.int (lo + (i : Nat) * c)))) H') (hd : ∀ σ' H', Pw n σ' H' → tz D σ' H') : tSeq (tFor (iRng3 ar) (gName j) tu) tz D σ H :=
  h H (Ex.refl H) _ fun H1 e => ⟨lo, hi, c, n, rfl, hr, for_rangeC (D := { D with nx := tz D }) Pw (h0 H1 e) hs hd⟩
theorem s_forS {tl : TE} {a : Addr} (h : Ev tl σ H (.ref a)) (hx : H a = some (.lst xs)) (Pw : L2.St → Hp → Prop) (h0 : ∀ H1, Ex H H1 → Pw σ H1) (hs : ∀ x σ' H0 H', Ex H H0 → Ex H0 H' → x ∈ xs → Pw σ' H' → g x σ' H' fun σ2 H2 => tu { D with nx := fun σ2 H2 => Ex H0 H2 ∧ Pw σ2 H2, ct := fun σ2 H2 => Ex H0 H2 ∧ Pw σ2 H2, bk := D.nx } σ2 H2)
    (hd : ∀ σ' H', Ex H H' → Pw σ' H' → D.nx σ' H') : tFor (iList K tl) g tu D σ H :=
  h H (Ex.refl H) _ fun H1 e => ⟨a, rfl, ⟨xs, sq_of (e _ _ hx)⟩, for_list (fun _ σ' H' => Ex H1 H' ∧ Pw σ' H') ⟨Ex.refl _, h0 _ e⟩ (fun i σ' H' _ q => sq_of ((e.trans q.1) _ _ hx))
    (fun i x σ' H' hi q => hs x σ' _ H' e q.1 (List.mem_of_getElem? hi) q.2) (fun σ' H' q => hd σ' H' (e.trans q.1) q.2)⟩
end
/-- the heap without the list that is being made -/
def dl (H : Hp) (p : Addr) : Hp := fun b => if b = p then none else H b
theorem dl_ne {H : Hp} {p b : Addr} (h : b ≠ p) : dl H p b = H b := if_neg h
theorem dl_same {H : Hp} {p : Addr} : dl H p p = none := if_pos rfl
theorem ex_dl {H : Hp} {p : Addr} : Ex (dl H p) H := fun a o h => by
  by_cases e : a = p
  · rw [e, dl_same] at h
    cases h
  · rw [dl_ne e] at h
    exact h
theorem dl_ex {H H' : Hp} {p : Addr} (e : Ex H H') : Ex (dl H p) (dl H' p) := fun a o h => by
  by_cases c : a = p
  · rw [c, dl_same] at h
    cases h
  · rw [dl_ne c] at h ⊢
    exact e _ _ h
theorem dl_of {H0 H : Hp} {p : Addr} (hp : H0 p = none) (e : Ex H0 H) : Ex H0 (dl H p) := fun a o h => by
  rw [dl_ne (ne_of_none h hp)]
  exact e _ _ h
theorem dl_upd {H : Hp} {p : Addr} {o : HO} : dl (upd H p o) p = dl H p := by
  funext b
  by_cases c : b = p
  · rw [c, dl_same, dl_same]
  · rw [dl_ne c, dl_ne c, upd_ne c]
theorem rg_many : ∀ m : Fin 64, Builtin.Range.small 0 (m.val : Int) (1 + (m.val : Int) / 6) = true ∧ Builtin.Range.rangeSize 0 (m.val : Int) (1 + (m.val : Int) / 6) = ((Builtin.Range.rangeSize 0 (m.val : Int) (1 + (m.val : Int) / 6)).toNat : Int) ∧
    (Builtin.Range.rangeSize 0 (m.val : Int) (1 + (m.val : Int) / 6)).toNat ≤ 64 ∧ ∀ i : Fin 64, i.val < (Builtin.Range.rangeSize 0 (m.val : Int) (1 + (m.val : Int) / 6)).toNat → 0 + (i.val : Int) * (1 + (m.val : Int) / 6) < (m.val : Int) := by decide +kernel
theorem rg_at {m : Nat} (h : m ≤ 63) : ∃ n, RgC 0 (m : Int) (1 + (m : Int) / 6) n ∧ n ≤ 64 ∧ ∀ i : Nat, i < n → 0 + (i : Int) * (1 + (m : Int) / 6) < (m : Int) := by
  obtain ⟨h1, h2, h3, h4⟩ := rg_many ⟨m, by omega⟩
  exact ⟨_, ⟨by omega, by omega, h1, h2⟩, h3, fun i hi => h4 ⟨i, by omega⟩ hi⟩
theorem low_great {cs : List Int} {k : Int} {ps : List (Int × Int)} (h : LowOk [1000000, 1000000, 1000000] 1000000000 cs k ps) (hl : ps.length ≤ 3) : k = 1000000 := by
  have hpos : 1000000 ≤ k := by
    have hall := h.all
    rw [parts_seg (by decide)] at hall
    cases cs with
    | nil =>
      have := hall 3000000 (by decide)
      omega
    | cons c r =>
      have hc := ris_mem h.ris c List.mem_cons_self
      have h1 := hall (psm [1000000, 1000000, 1000000] c - psm [1000000, 1000000, 1000000] 0) List.mem_cons_self
      have h2 : c = 1 ∨ c = 2 := by
        have : ((([1000000, 1000000, 1000000] : List Int).length : Nat) : Int) = 3 := rfl
        omega
      rcases h2 with rfl | rfl
      · have : psm [1000000, 1000000, 1000000] 1 - psm [1000000, 1000000, 1000000] 0 = 1000000 := by decide
        omega
      · have : psm [1000000, 1000000, 1000000] 2 - psm [1000000, 1000000, 1000000] 0 = 2000000 := by decide
        omega
  rcases h.why with z | z | ⟨z, _⟩
  · omega
  · simp at z
    exact z
  · omega
def kindsN (j : Nat) : List Bool := [decide ((j : Int) = 0), decide ((j : Int) = 1), decide ((j : Int) = 2), false, true]
def sp_law (K : PySem.W.Frag) : Sp := fun vs H Q _ => ∃ (a : Addr) (ns : List Int), vs = [.ref a] ∧ SqL K H a (ns.map V.int) ∧ ns.length ≤ 63 ∧ ∀ H', Q (.bl true) H'
theorem five_bad {far : Int} (hf : 0 ≤ far) {d : Int} (h0 : 0 ≤ d) (h1 : d < 5) : ∃ v, ([.non, .str "1", .bl true, .int (1000001 + far), .int (-1)] : List V)[d.toNat]? = some v ∧ ∀ (K : PySem.W.Frag) (H : Hp), BadIt K H v := by
  have h2 : d.toNat < 5 := by omega
  generalize d.toNat = j at h2
  match j, h2 with
  | 0, _ => exact ⟨_, rfl, fun K H => bad_ni ni_non⟩
  | 1, _ => exact ⟨_, rfl, fun K H => bad_ni ni_str⟩
  | 2, _ => exact ⟨_, rfl, fun K H => bad_ni ni_bl⟩
  | 3, _ => exact ⟨_, rfl, fun K H => bad_int (by omega)⟩
  | 4, _ => exact ⟨_, rfl, fun K H => bad_int (by omega)⟩
section
variable {r : R2} {σ : L2.St} {H : Hp} {ta tb : TE} {y z : V}
theorem ev_opU7 {xs : List V} (ha : EvU ta σ H xs) (hb : Ev tb σ H y) (hr : ∀ p H1, H1 p = some (.tup xs) → RV r (.ref p) y H1 z) : Ev (tOp r ta tb) σ H z := fun H1 e Q q =>
  ha H1 e _ fun p H2 _ e2 hp => hb H2 (e.trans e2) _ fun H3 e3 => hr p H3 (e3 _ _ hp) H3 (Ex.refl H3) Q fun H4 e4 => q H4 ((e2.trans e3).trans e4)
end
theorem cutV_to7 {xs : List V} {k : Nat} : cutV xs (some (k : Int)) none = xs.drop k := by
  unfold cutV
  rw [HT.sIx_none, HT.sIx_nat]
  by_cases h : k ≤ xs.length
  · rw [Nat.min_eq_left h, List.take_of_length_le (by rw [List.length_drop]; exact Nat.le_refl _)]
  · rw [Nat.min_eq_right (by omega), Nat.sub_self, List.take_zero, List.drop_eq_nil_of_le (by omega)]
theorem sc_law : FnScope ["_law_script", "_law_far", "_law_due", "_law_k", "_law_row_here", "_law_many", "_law_kept", "_law_rows", "_law_at", "_law_numbers_here", "_law_cuts", "_law_ask", "_law_some", "_law_told_here", "_law_great"] ["_law_script"] (defScope s_law) := ⟨rfl, rfl, rfl, by decide +kernel, rfl, by decide +kernel, by decide +kernel⟩
theorem ok_law (T : Tx K mg) {fd : FuncData} (F : FunD K "law" "law" (defArgs s_law) (defBody s_law) (defScope s_law) [] [] (ga K "law") fd) : FnOk P w K mg base CX0 8 (ga K "law") fd ["_law_script"] (sp_law K) := by
  have D__law_all : Kept P w K mg base CX0 7 "_law_all" ["_law_ask", "_law_doors", "_law_things", "_law_due"] (sp__law_all K) := ok__law_all T
  have D__law_cell_at : Kept P w K mg base CX0 1 "_law_cell_at" ["_law_script", "_law_k"] (sp__law_cell_at K) := ok__law_cell_at T
  have D__law_row : Kept P w K mg base CX0 2 "_law_row" ["_law_script"] (sp__law_row K) := ok__law_row T
  have D__law_told : Kept P w K mg base CX0 6 "_law_told" ["_law_ask", "_law_one", "_law_other"] (sp__law_told K) := ok__law_told T
  have D_borne : Kept P w K mg base CX0 4 "borne" ["row", "cuts"] (sp_borne K) := ok_borne T
  have D_fewest : Kept P w K mg base CX0 3 "fewest" ["row", "bound"] (sp_fewest K) := ok_fewest T
  have D_fullest : Kept P w K mg base CX0 3 "fullest" ["row", "bound"] (sp_fullest K) := ok_fullest T
  have D_halved : Kept P w K mg base CX0 3 "halved" ["row"] (sp_halved K) := ok_halved T
  have D_lowest : Kept P w K mg base CX0 3 "lowest" ["row", "count"] (sp_lowest K) := ok_lowest T
  refine F.ok sc_law (fun vs H Q E h => by obtain ⟨_, _, rfl, _⟩ := h; rfl) (fun cdv A outer s H vs Q E hRm h => ?_)
  · obtain ⟨a, ns, rfl, ha, hl, k⟩ := h
    refine ⟨_, (PSs.nox (pss_cons (ps_set (i := 1) sc_law.nd rfl (Or.inl rfl) (pe_op op_mod (pe_d D__law_cell_at (hRm.mono (by decide)) (by rfl) (pa_cons (pv 0) (pa_cons pe_int pa_nil))) (pe_op op_pow pe_int pe_int))) (pss_cons (ps_set (i := 2) sc_law.nd rfl (Or.inl rfl) (pe_lst pa_nil)) (pss_cons (ps_for PassesOwn.never rfl (pi_range1 (by rfl) T.z_range (pa_cons pe_int pa_nil)) (pg_name (i := 3) sc_law.nd rfl (Or.inl rfl)) (pss_one (ps_expr (pe_bm PySem.F.plainAttrs_list PySem.F.slot_list_append PySem.F.type_list_append mt_append (pv 2) (pa_cons (pe_lst (pa_cons (pe_cmpR op_eq (pv 3) pe_int (nomark _)) (pa_cons (pe_cmpR op_eq (pv 3) pe_int (nomark _)) (pa_cons (pe_cmpR op_eq (pv 3) pe_int (nomark _)) (pa_cons pe_bl (pa_cons pe_bl pa_nil)))))) pa_nil))))) (pss_cons (ps_set (i := 4) sc_law.nd rfl (Or.inl rfl) (pe_d D__law_row (hRm.mono (by decide)) (by rfl) (pa_cons (pv 0) pa_nil))) (pss_cons (ps_par (i := 5) (j := 6) (by rfl) sc_law.nd rfl rfl (by decide) rfl rfl (pa_cons (pe_callB call_len_seq (by rfl) T.z_len bo_len (pa_cons (pv 4) pa_nil)) (pa_cons (pe_callTy call_list_of (by rfl) T.z_list bo_list (pa_cons (pv 4) pa_nil)) pa_nil)) (by rfl)) (pss_cons (ps_set (i := 7) sc_law.nd rfl (Or.inl rfl) (pe_lst (pa_cons pe_non (pa_cons (pe_tup pa_nil) (pa_cons (pe_tup (pa_cons pe_int pa_nil)) (pa_cons pe_str (pa_cons pe_dnewK (pa_cons pe_int (pa_cons (pe_lst (pa_cons pe_non pa_nil)) (pa_cons (pe_lst (pa_cons pe_str pa_nil)) (pa_cons (pe_lst (pa_cons pe_bl pa_nil)) (pa_cons (pe_lst (pa_cons (pe_un un_neg pe_int) pa_nil)) (pa_cons (pe_lst (pa_cons (pe_op op_sub (pe_un un_neg pe_int) (pv 1)) pa_nil)) (pa_cons (pe_lst (pa_cons pe_int pa_nil)) (pa_cons (pe_lst (pa_cons (pe_op op_add pe_int (pv 1)) pa_nil)) (pa_cons (pe_lst (pa_cons (pe_lst (pa_cons pe_int pa_nil)) pa_nil)) pa_nil)))))))))))))))) (pss_cons (ps_for PassesOwn.never rfl (pi_range3 (by rfl) T.z_range (pa_cons pe_int (pa_cons (pv 5) (pa_cons (pe_op op_add pe_int (pe_op op_fdiv (pv 5) pe_int)) pa_nil)))) (pg_name (i := 8) sc_law.nd rfl (Or.inl rfl)) (pss_one (ps_expr (pe_bm PySem.F.plainAttrs_list PySem.F.slot_list_append PySem.F.type_list_append mt_append (pv 7) (pa_cons (pe_op op_cat (pe_op op_cat (pe_slice sl_list (pv 4) po_none (po_some (pv 8))) (pe_lst (pa_cons (pe_ix ix_tup (pe_tup (pa_cons pe_non (pa_cons pe_str (pa_cons pe_bl (pa_cons (pe_op op_add pe_int (pv 1)) (pa_cons (pe_un un_neg pe_int) pa_nil)))))) (pe_op op_mod (pv 8) pe_int) (fun _ _ => rfl)) pa_nil))) (pe_slice sl_list (pv 4) (po_some (pe_op op_add (pv 8) pe_int)) po_none)) pa_nil))))) (pss_cons (ps_if (pt_not (pt_val (pe_d D__law_all (hRm.mono (by decide)) (by rfl) (pa_cons (pe_glob (v := .ref (ga K "_law_with_row")) (by rfl) T.g__law_with_row rfl) (pa_cons (pe_listRg rfl (by rfl) T.z_list (prg_1 (by rfl) T.z_range pe_int)) (pa_cons (pv 7) (pa_cons (pe_ix ix_list (pv 2) pe_int (fun _ _ => rfl)) pa_nil))))))) (pss_one (ps_ret pe_bl)) pss_nil) (pss_cons (ps_set (i := 9) sc_law.nd rfl (Or.inl rfl) (pe_lst (pa_cons pe_non (pa_cons pe_str (pa_cons (pe_un un_neg pe_int) (pa_cons (pe_op op_sub (pe_un un_neg pe_int) (pv 1)) (pa_cons pe_bl (pa_cons (pe_lst (pa_cons pe_int pa_nil)) (pa_cons (pe_tup (pa_cons pe_int pa_nil)) pa_nil))))))))) (pss_cons (ps_if (pt_not (pt_val (pe_d D__law_all (hRm.mono (by decide)) (by rfl) (pa_cons (pe_glob (v := .ref (ga K "_law_with_number")) (by rfl) T.g__law_with_number rfl) (pa_cons (pe_lst (pa_cons pe_int (pa_cons pe_int (pa_cons pe_int pa_nil)))) (pa_cons (pv 9) (pa_cons (pe_ix ix_list (pv 2) pe_int (fun _ _ => rfl)) pa_nil))))))) (pss_one (ps_ret pe_bl)) pss_nil) (pss_cons (ps_if (pt_not (pt_val (pe_d D__law_all (hRm.mono (by decide)) (by rfl) (pa_cons (pe_glob (v := .ref (ga K "_law_with_number")) (by rfl) T.g__law_with_number rfl) (pa_cons (pe_lst (pa_cons pe_int (pa_cons pe_int pa_nil))) (pa_cons (pe_lst (pa_cons pe_int pa_nil)) (pa_cons (pe_ix ix_list (pv 2) pe_int (fun _ _ => rfl)) pa_nil))))))) (pss_one (ps_ret pe_bl)) pss_nil) (pss_cons (ps_set (i := 10) sc_law.nd rfl (Or.inl rfl) (pe_lst (pa_cons pe_non (pa_cons (pe_tup pa_nil) (pa_cons pe_str (pa_cons pe_dnewK (pa_cons pe_int (pa_cons (pe_lst (pa_cons pe_int pa_nil)) (pa_cons (pe_lst (pa_cons (pv 5) pa_nil)) (pa_cons (pe_lst (pa_cons (pe_op op_add (pv 5) (pv 1)) pa_nil)) (pa_cons (pe_lst (pa_cons (pe_un un_neg pe_int) pa_nil)) (pa_cons (pe_lst (pa_cons (pe_op op_sub (pe_un un_neg pe_int) (pv 1)) pa_nil)) (pa_cons (pe_lst (pa_cons pe_int (pa_cons pe_int pa_nil))) (pa_cons (pe_lst (pa_cons pe_int (pa_cons pe_int pa_nil))) (pa_cons (pe_lst (pa_cons pe_bl pa_nil)) (pa_cons (pe_lst (pa_cons pe_str pa_nil)) (pa_cons (pe_lst (pa_cons pe_non pa_nil)) pa_nil))))))))))))))))) (pss_cons (ps_for PassesOwn.never rfl (pi_tup (pe_tup (pa_cons pe_int (pa_cons pe_int pa_nil)))) (pg_name (i := 11) sc_law.nd rfl (Or.inl rfl)) (pss_one (ps_for PassesOwn.never rfl (pi_list (pv 10)) (pg_name (i := 12) sc_law.nd rfl (Or.inl rfl)) (pss_cons (ps_set (i := 13) sc_law.nd rfl (Or.inl rfl) (pe_ifExp (pt_cmpR op_eq (pv 11) pe_int (nomark _)) (pe_d D__law_told (hRm.mono (by decide)) (by rfl) (pa_cons (pe_glob (v := .ref (ga K "_law_with_cuts")) (by rfl) T.g__law_with_cuts rfl) (pa_cons (pv 4) (pa_cons (pv 12) pa_nil)))) (pe_d D__law_told (hRm.mono (by decide)) (by rfl) (pa_cons (pe_glob (v := .ref (ga K "_law_cut_text")) (by rfl) T.g__law_cut_text rfl) (pa_cons (pv 4) (pa_cons (pv 12) pa_nil)))))) (pss_one (ps_if (pt_cmpR (op_neD hRm.units) (pv 13) (pe_ix ix_list (pv 2) pe_int (fun _ _ => rfl)) (nomark _)) (pss_one (ps_ret pe_bl)) pss_nil)))))) (pss_cons (ps_set (i := 14) sc_law.nd rfl (Or.inl rfl) (pe_op op_rep (pe_lst (pa_cons pe_int pa_nil)) pe_int)) (pss_cons (ps_if (PW.pt (pw_or (pt_cmpR (op_neD hRm.units) (pe_fld (pe_d D_fewest (hRm.mono (by decide)) (by rfl) (pa_cons (pv 14) (pa_cons (pe_op op_pow pe_int pe_int) pa_nil))) rfl) (pe_lst pa_nil) (nomark _)) (pw_or1 (pt_cmpR op_ne (pe_fld (pe_d D_lowest (hRm.mono (by decide)) (by rfl) (pa_cons (pv 14) (pa_cons (pe_op op_pow pe_int pe_int) pa_nil))) rfl) pe_int (nomark _))))) (pss_one (ps_ret pe_bl)) pss_nil) (pss_cons (ps_if (pt_cmpR (op_neD hRm.units) (pe_fld (pe_d D_fullest (hRm.mono (by decide)) (by rfl) (pa_cons (pv 14) (pa_cons (pe_op op_pow pe_int pe_int) pa_nil))) rfl) (pe_lst pa_nil) (nomark _)) (pss_one (ps_ret pe_bl)) pss_nil) (pss_one (ps_ret (pe_and (pe_cmpR (op_eqD hRm.units) (pv 4) (pv 6) (nomark _)) (pe_and (pe_cmpR (op_eqD hRm.units) (pe_d D_borne (hRm.mono (by decide)) (by rfl) (pa_cons (pv 14) (pa_cons (pe_lst (pa_cons pe_int (pa_cons pe_int pa_nil))) pa_nil))) (pv 14) (nomark _)) (pe_and (pe_cmpR op_eq (pe_d D_halved (hRm.mono (by decide)) (by rfl) (pa_cons (pe_lst pa_nil) pa_nil)) pe_int (nomark _)) (pe_one (pe_cmpR op_eq (pe_d D_halved (hRm.mono (by decide)) (by rfl) (pa_cons (pv 14) pa_nil)) pe_int (nomark _))))))))))))))))))))))))), ?_⟩
    have p6 : V.int ((10 : Int) ^ (6 : Int).toNat) = .int 1000000 := by rfl
    have p9 : V.int ((10 : Int) ^ (9 : Int).toNat) = .int 1000000000 := by rfl
    refine q_asg (v := .int (cellZ ns 0 % 1000000)) (ev_op (ev_callV m__law_cell_at (ea_cons (ev_var rfl) (ea_cons ev_c ea_nil)) ⟨a, ns, 0, rfl, ha, by decide, rfl⟩) (ev_is (ev_op ev_c ev_c (rv_I ⟨by decide, by decide, by decide⟩)) p6) (rv_I (by decide))) fun H1 e1 => ?_
    have hf0 : 0 ≤ cellZ ns 0 % 1000000 := Int.emod_nonneg _ (by decide)
    generalize cellZ ns 0 % 1000000 = far at hf0
    -- what is due
    refine q_asgL (xs := ([] : List V)) (el_lst ea_nil (by decide)) fun d H2 hd e2 h2 => ?_
    refine q_forR1 (n := 3) (ea_cons ev_c ea_nil) (by omega) (fun i σ' H' => ∃ v3 xs, σ' = [some (.ref a), some (.int far), some (.ref d), v3, none, none, none, none, none, none, none, none, none, none, none] ∧ Ex H1 H' ∧ H' d = some (.lst xs) ∧ xs.length = i ∧ ∀ j, j < i → ∃ q, xs[j]? = some (.ref q) ∧ H' q = some (.lst ((kindsN j).map V.bl)) ∧ q ≠ d)
      (fun H3 e3 => ⟨none, [], rfl, e2.trans e3, e3 _ _ h2, rfl, fun j hj => by omega⟩) ?_ ?_
    · rintro i σ' H' hi ⟨v3, xs, rfl, e, hD, hlen, hq⟩
      have tst : ∀ (σ' : L2.St) (j : Int), σ'[3]? = some (some (.int (i : Int))) → Ev (tOp rEq (tVar 3) (tC (.int j))) σ' H' (.bl (decide ((i : Int) = j))) := fun σ' j g => ev_is (ev_op (ev_var g) ev_c (rv_eq rfl)) (by simp)
      refine s_appL hD (ev_var rfl) (ys := (kindsN i).map V.bl) (el_lst (ea_cons (tst _ 0 rfl) (ea_cons (tst _ 1 rfl) (ea_cons (tst _ 2 rfl) (ea_cons ev_c (ea_cons ev_c ea_nil))))) (by show 5 ≤ 100000; decide)) (by omega) fun p H3 hp e3 h3 => ⟨_, xs ++ [.ref p], rfl, Ex.mut (e.trans e3) hd, upd_same, by rw [List.length_append, hlen]; rfl, fun j hj => ?_⟩
      have npd : p ≠ d := (ne_of_none hD hp).symm
      by_cases hji : j < i
      · obtain ⟨q, g1, g2, g3⟩ := hq j hji
        exact ⟨q, by rw [List.getElem?_append_left (by omega)]; exact g1, by rw [upd_ne g3]; exact e3 _ _ g2, g3⟩
      · have : j = i := by omega
        subst this
        exact ⟨p, by rw [List.getElem?_append_right (by omega), hlen, Nat.sub_self]; rfl, by rw [upd_ne npd]; exact h3, npd⟩
    rintro σ' H3 ⟨v3, dxs, rfl, e3, hD, hDl, hDq⟩
    obtain ⟨q0, d0, k0, _⟩ := hDq 0 (by decide)
    obtain ⟨q1, d1, k1, _⟩ := hDq 1 (by decide)
    obtain ⟨q2, d2, k2, _⟩ := hDq 2 (by decide)
    have hrow : Rf.row.kinds = kindsN 0 := by decide
    have hnum : Rf.num.kinds = kindsN 1 := by decide
    have hcut : Rf.cut.kinds = kindsN 2 := by decide
    rw [← hrow] at k0
    rw [← hnum] at k1
    rw [← hcut] at k2
    clear hDq hrow hnum hcut hd h2 e2
    have e03 := e1.trans e3
    -- the row
    refine q_asgL (el_callL m__law_row (ea_cons (ev_var rfl) ea_nil) ⟨a, ns, rfl, ex_l e03 ha, hl, rfl⟩) fun p H4 hp e4 hR0 => ?_
    have hR := lawRow_ok ns
    have hRl := lawRow_len ns
    generalize lawRow ns = R at hR0 hR hRl
    refine r_par (r_cons (r_ev (v := .int (R.length : Int)) (ev_is (ev_ln (ev_var rfl) (.inl (sq_of hR0))) (by rw [List.length_map])) fun H5 e5 => r_cons (r_el (el_ls (ev_var rfl) (.inl (sq_of (e5 _ _ hR0)))) fun kp H6 hkp e6 hK0 => r_nil ⟨_, _, rfl, ?_⟩)))
    have e36 := (e4.trans e5).trans e6
    have hR6 := (e5.trans e6) _ _ hR0
    clear hp hkp
    -- what is no row
    refine q_asgLP (P := NoRow K) (ap_cons mo_row (ep_of ev_c fun H => .inl nl_non) (ap_cons mo_row (ep_ofU (eu_tup ea_nil (by decide)) fun a H h => .inl (nl_tup h)) (ap_cons mo_row (ep_ofU (eu_tup (ea_cons ev_c ea_nil) l1) fun a H h => .inl (nl_tup h)) (ap_cons mo_row (ep_of ev_c fun H => .inl nl_str) (ap_cons mo_row (ep_dict fun a H h => .inl (nl_dK h)) (ap_cons mo_row (ep_of ev_c fun H => .inl nl_int)
      (ap_cons mo_row (ep_ofL (el_lst (ea_cons ev_c ea_nil) l1) fun a H h => nr_one h (bad_ni ni_non)) (ap_cons mo_row (ep_ofL (el_lst (ea_cons ev_c ea_nil) l1) fun a H h => nr_one h (bad_ni ni_str)) (ap_cons mo_row (ep_ofL (el_lst (ea_cons ev_c ea_nil) l1) fun a H h => nr_one h (bad_ni ni_bl)) (ap_cons mo_row (ep_ofL (el_lst (ea_cons (ev_un ev_c ru_neg) ea_nil) l1) fun a H h => nr_one h (bad_int (by decide)))
      (ap_cons mo_row (ep_ofL (el_lst (ea_cons (ev_op (ev_un ev_c ru_neg) (ev_var rfl) rv_I0) ea_nil) l1) fun a H h => nr_one h (bad_int (by omega))) (ap_cons mo_row (ep_ofL (el_lst (ea_cons ev_c ea_nil) l1) fun a H h => nr_one h (bad_int (by decide))) (ap_cons mo_row (ep_ofL (el_lst (ea_cons (ev_op ev_c (ev_var rfl) rv_I0) ea_nil) l1) fun a H h => nr_one h (bad_int (by omega)))
      (ap_cons mo_row (ep_listP (Pi := BadIt K) (fun _ _ _ e h => ⟨h.1.mono e, h.2⟩) (ep_ofL (el_lst (ea_cons ev_c ea_nil) l1) fun a H h => bad_ni (ni_lst h)) fun a y H h hy => nr_one h hy) ap_nil)))))))))))))) (by decide) fun rp xs0 H7 H8 e7 hrp hlen0 hP0 hH8 => ?_
    have eH8 : Ex H7 H8 := by rw [hH8]; exact Ex.new hrp
    have hL8 : H8 rp = some (.lst xs0) := by rw [hH8]; exact upd_same
    obtain ⟨n, hrg, hn64, hin⟩ := rg_at (m := R.length) (by omega)
    have hR7 := e7 _ _ hR6
    refine q_forR3 (lo := 0) (hi := (R.length : Int)) (c := 1 + (R.length : Int) / 6) (ea_cons ev_c (ea_cons (ev_var rfl) (ea_cons (ev_op ev_c (ev_op (ev_var rfl) ev_c (rv_I ⟨by decide, by decide⟩)) rv_I0) ea_nil))) hrg
      (fun i σ' H' => ∃ v8 ys, σ' = [some (.ref a), some (.int far), some (.ref d), v3, some (.ref p), some (.int (R.length : Int)), some (.ref kp), some (.ref rp), v8, none, none, none, none, none, none] ∧ Ex H7 H' ∧ H' rp = some (.lst ys) ∧ ys.length ≤ 14 + i ∧ ∀ y ∈ ys, NoRow K (dl H' rp) y)
      (fun H9 e9 => ⟨none, xs0, rfl, eH8.trans e9, e9 _ _ hL8, by omega, fun y hy => (hP0 y hy).mono (dl_of hrp (eH8.trans e9))⟩) ?_ ?_
    · rintro i σ' H' hi ⟨v8, ys, rfl, e, hY, hyl, hys⟩
      have hat := hin i hi
      have hat0 : (0 : Int) ≤ 0 + (i : Nat) * (1 + (R.length : Int) / 6) := by
        have h1 : (0 : Int) ≤ (i : Int) * (1 + (R.length : Int) / 6) := Int.mul_nonneg (by omega) (by omega)
        omega
      generalize (0 : Int) + (i : Nat) * (1 + (R.length : Int) / 6) = at_ at hat hat0
      have hR' := e _ _ hR7
      obtain ⟨v, hv, hbad⟩ := five_bad hf0 (d := at_ % 5) (by omega) (by omega)
      have en : at_ = ((at_.toNat : Nat) : Int) := by omega
      have hlr : (R.map V.int).length ≤ 63 := by rw [List.length_map]; omega
      refine s_appL hY (ev_var rfl) (ys := (R.map V.int).take at_.toNat ++ [v] ++ (R.map V.int).drop (at_.toNat + 1)) (el_cat (el_cat (el_is (el_sl (ev_var rfl) eo_none (eo_some (ev_var rfl)) (sq_of hR')) (by rw [en]; exact cutV_to)) (el_lst (ea_cons (ev_opU7 (xs := [.non, .str "1", .bl true, .int (1000001 + far), .int (-1)]) (eu_tup (ea_cons ev_c (ea_cons ev_c (ea_cons ev_c (ea_cons (ev_op ev_c (ev_var rfl) rv_I0) (ea_cons (ev_un ev_c ru_neg) ea_nil))))) (by show 5 ≤ 100000; decide)) (ev_op (ev_var rfl) ev_c (rv_I (by decide))) fun p' H' hp' => rv_ixT (v := v) (st_of hp') (by
          rw [show at_ % 5 = (((at_ % 5).toNat : Nat) : Int) by omega]
          exact atI_nat hv)) ea_nil) l1) (by rw [List.length_take]; simp only [List.length_singleton]; omega))
          (el_is (el_sl (ev_var rfl) (eo_some (ev_op (ev_var rfl) ev_c rv_I0)) eo_none (sq_of hR')) (by rw [show at_ + 1 = ((at_.toNat + 1 : Nat) : Int) by omega]; exact cutV_to7)) (by rw [List.length_append, List.length_take, List.length_drop, List.length_singleton]; omega)) (by omega) fun q H9 hq e9 h9 => ⟨_, ys ++ [.ref q], rfl, Ex.mut (e.trans e9) hrp, upd_same, by rw [List.length_append, List.length_singleton]; omega, fun y hy => ?_⟩
      have nq : q ≠ rp := (ne_of_none hY hq).symm
      rw [dl_upd]
      rcases List.mem_append.mp hy with z | z
      · exact (hys y z).mono (dl_ex e9)
      · rw [List.mem_singleton.mp z]
        refine .inr ⟨q, _, rfl, by rw [dl_ne nq]; exact h9, by rw [List.length_append, List.length_append, List.length_take, List.length_drop, List.length_singleton]; omega, fun y hy => ?_, ?_⟩
        · rcases List.mem_append.mp hy with hy | hy
          · rcases List.mem_append.mp hy with hy | hy
            · obtain ⟨c, _, rfl⟩ := List.mem_map.mp (List.mem_of_mem_take hy)
              exact .inl ⟨c, rfl⟩
            · rw [List.mem_singleton.mp hy]
              exact (hbad K _).1
          · obtain ⟨c, _, rfl⟩ := List.mem_map.mp (List.mem_of_mem_drop hy)
            exact .inl ⟨c, rfl⟩
        · rw [List.all_append, List.all_append]
          have hb : ([v] : List V).all itB = false := by
            show (itB v && true) = false
            rw [(hbad K H).2]
            rfl
          rw [hb, Bool.and_false, Bool.false_and]
    rintro σ' H9 ⟨v8, rys, rfl, e9, hY, hyl, hys⟩
    have e39 := e36.trans (e7.trans e9)
    have hys9 : ∀ H', Ex H9 H' → ∀ y ∈ rys, NoRow K H' y := fun H' e' y hy => (hys y hy).mono (ex_dl.trans e')
    have dueAt : ∀ (H' : Hp) (σ' : L2.St) (j : Nat) (q : Addr), Ex H3 H' → σ'[2]? = some (some (.ref d)) → dxs[j]? = some (.ref q) → Ev (tOp (rIxL K) (tVar 2) (tC (.int (j : Int)))) σ' H' (.ref q) := fun H' σ' j q e' g hj => ev_ixN (ev_var g) (sq_of (e' _ _ hD)) ev_c (Int.natCast_nonneg _) (by rw [Int.toNat_natCast]; exact hj)
    refine q_when (b := false) (et_not (et_B (ev_callV2N (F := F__law_all K) (z := .bl true) ev_c (el_is (el_rg1 ev_c (.of_le (by decide) (by decide) (by decide) (by decide))) (ys := ([0, 1, 2, 3, 4, 5] : List Int).map V.int) rfl) (ea_cons (ev_var rfl) (ea_cons (dueAt _ _ 0 q0 e39 rfl d0) ea_nil)) fun r H' e' h' => ⟨_, r, rp, q0, [0, 1, 2, 3, 4, 5], rys, .row, rfl, h', e' _ _ hY, by omega, (e39.trans e') _ _ k0, fun x hx y hy => .inl ⟨rfl, rfl, x, rfl, ?_, ?_, hys9 H' e' y hy⟩, rfl⟩))) (fun h => by cases h) fun _ H10 e10 => ?_
    · simp only [List.mem_cons, List.not_mem_nil, or_false] at hx
      omega
    · simp only [List.mem_cons, List.not_mem_nil, or_false] at hx
      omega
    have e310 := e39.trans e10
    -- what is no number
    refine q_asgLP (P := fun H y => NoNum K H y 0) (ap_cons mo_num (ep_of ev_c fun H => .inr ni_non) (ap_cons mo_num (ep_of ev_c fun H => .inr ni_str) (ap_cons mo_num (ep_of (ev_un ev_c ru_neg) fun H => .inl ⟨_, rfl, by decide⟩) (ap_cons mo_num (ep_of (ev_op (ev_un ev_c ru_neg) (ev_var rfl) rv_I0) fun H => .inl ⟨_, rfl, by omega⟩) (ap_cons mo_num (ep_of ev_c fun H => .inr ni_bl)
      (ap_cons mo_num (ep_ofL (el_lst (ea_cons ev_c ea_nil) l1) fun a H h => .inr (ni_lst h)) (ap_cons mo_num (ep_ofU (eu_tup (ea_cons ev_c ea_nil) l1) fun a H h => .inr (ni_tup h)) ap_nil))))))) (by decide) fun np nxs H11 H12 e11 hnp hlenn hPn hH12 => ?_
    have eH12 : Ex H11 H12 := by rw [hH12]; exact Ex.new hnp
    have hL12 : H12 np = some (.lst nxs) := by rw [hH12]; exact upd_same
    have e312 := e310.trans (e11.trans eH12)
    refine q_when (b := false) (et_not (et_B (ev_callV2N (F := F__law_all K) (z := .bl true) ev_c (ys := ([0, 1, 2] : List Int).map V.int) (el_lst (ea_cons ev_c (ea_cons ev_c (ea_cons ev_c ea_nil))) (by decide)) (ea_cons (ev_var rfl) (ea_cons (dueAt _ _ 1 q1 e312 rfl d1) ea_nil)) fun r H' e' h' => ⟨_, r, np, q1, [0, 1, 2], nxs, .num, rfl, h', e' _ _ hL12, by omega, (e312.trans e') _ _ k1, fun x hx y hy => .inr (.inl ⟨rfl, rfl, x, rfl, ?_, ?_, ?_⟩), rfl⟩))) (fun h => by cases h) fun _ H13 e13 => ?_
    · simp only [List.mem_cons, List.not_mem_nil, or_false] at hx
      omega
    · simp only [List.mem_cons, List.not_mem_nil, or_false] at hx
      omega
    · rcases (hPn y hy).mono (eH12.trans e') with ⟨i, rfl, hi⟩ | hi
      · exact .inl ⟨i, rfl, by split <;> omega⟩
      · exact .inr hi
    have e313 := e312.trans e13
    refine q_when (b := false) (et_not (et_B (ev_callV2NN (F := F__law_all K) (z := .bl true) ev_c (ys := ([1, 2] : List Int).map V.int) (zs := [.int 0]) (el_lst (ea_cons ev_c (ea_cons ev_c ea_nil)) l2) (el_lst (ea_cons ev_c ea_nil) l1) (ea_cons (dueAt _ _ 1 q1 e313 rfl d1) ea_nil) fun r r2 H' e' h' h2' => ⟨_, r, r2, q1, [1, 2], [.int 0], .num, rfl, h', h2', by decide, (e313.trans e') _ _ k1, fun x hx y hy => .inr (.inl ⟨rfl, rfl, x, rfl, ?_, ?_, ?_⟩), rfl⟩))) (fun h => by cases h) fun _ H14 e14 => ?_
    · simp only [List.mem_cons, List.not_mem_nil, or_false] at hx
      omega
    · simp only [List.mem_cons, List.not_mem_nil, or_false] at hx
      omega
    · simp only [List.mem_cons, List.not_mem_nil, or_false] at hx
      rw [List.mem_singleton.mp hy, if_neg (by omega)]
      exact .inl ⟨0, rfl, by decide⟩
    have e314 := e313.trans e14
    -- what are no cuts
    have hm0 : (0 : Int) ≤ (R.length : Int) := Int.natCast_nonneg _
    refine q_asgLP (P := fun H y => NoCuts K H y (R.length : Int)) (ap_cons mo_cuts (ep_of ev_c fun H => .inl nl_non) (ap_cons mo_cuts (ep_ofU (eu_tup ea_nil (by decide)) fun a H h => .inl (nl_tup h)) (ap_cons mo_cuts (ep_of ev_c fun H => .inl nl_str) (ap_cons mo_cuts (ep_dict fun a H h => .inl (nl_dK h)) (ap_cons mo_cuts (ep_of ev_c fun H => .inl nl_int)
      (ap_cons mo_cuts (ep_ofL (xs := ([0] : List Int).map V.int) (el_lst (ea_cons ev_c ea_nil) l1) fun a H h => nc_ints h rfl) (ap_cons mo_cuts (ep_ofL (xs := ([(R.length : Int)] : List Int).map V.int) (el_lst (ea_cons (ev_var rfl) ea_nil) l1) fun a H h => nc_ints h (by simp [risV])) (ap_cons mo_cuts (ep_ofL (xs := ([(R.length : Int) + far] : List Int).map V.int) (el_lst (ea_cons (ev_op (ev_var rfl) (ev_var rfl) rv_I0) ea_nil) l1) fun a H h => nc_ints h (by simp [risV]; omega))
      (ap_cons mo_cuts (ep_ofL (xs := ([-1] : List Int).map V.int) (el_lst (ea_cons (ev_un ev_c ru_neg) ea_nil) l1) fun a H h => nc_ints h rfl) (ap_cons mo_cuts (ep_ofL (xs := ([-1 - far] : List Int).map V.int) (el_lst (ea_cons (ev_op (ev_un ev_c ru_neg) (ev_var rfl) rv_I0) ea_nil) l1) fun a H h => nc_ints h (by simp [risV]; omega)) (ap_cons mo_cuts (ep_ofL (xs := ([1, 1] : List Int).map V.int) (el_lst (ea_cons ev_c (ea_cons ev_c ea_nil)) l2) fun a H h => nc_ints h (by simp [risV]))
      (ap_cons mo_cuts (ep_ofL (xs := ([2, 1] : List Int).map V.int) (el_lst (ea_cons ev_c (ea_cons ev_c ea_nil)) l2) fun a H h => nc_ints h (by simp [risV])) (ap_cons mo_cuts (ep_ofL (el_lst (ea_cons ev_c ea_nil) l1) fun a H h => nc_one h ni_bl) (ap_cons mo_cuts (ep_ofL (el_lst (ea_cons ev_c ea_nil) l1) fun a H h => nc_one h ni_str) (ap_cons mo_cuts (ep_ofL (el_lst (ea_cons ev_c ea_nil) l1) fun a H h => nc_one h ni_non) ap_nil))))))))))))))) (by decide) fun cp cxs H15 H16 e15 hcp hlenc hPc hH16 => ?_
    have eH16 : Ex H15 H16 := by rw [hH16]; exact Ex.new hcp
    have hL16 : H16 cp = some (.lst cxs) := by rw [hH16]; exact upd_same
    have e316 := e314.trans (e15.trans eH16)
    have e916 : Ex H6 H16 := (e7.trans e9).trans (e10.trans ((e11.trans eH12).trans (e13.trans (e14.trans (e15.trans eH16)))))
    have hR16 := e916 _ _ hR6
    have hK16 := e916 _ _ hK0
    refine q_forNT (eu_tup (vs := [.int 0, .int 1]) (ea_cons ev_c (ea_cons ev_c ea_nil)) l2) (fun σ' H' => ∃ v11 v12 v13, σ' = [some (.ref a), some (.int far), some (.ref d), v3, some (.ref p), some (.int (R.length : Int)), some (.ref kp), some (.ref rp), v8, some (.ref np), some (.ref cp), v11, v12, v13, none] ∧ Ex H16 H') (fun H17 e17 => ⟨none, none, none, rfl, e17⟩) ?_ ?_
    · rintro u σ' H0 H' eH0 eH hu ⟨v11, v12, v13, rfl, e⟩
      obtain ⟨w, rfl⟩ : ∃ w : Int, u = .int w := by
        rcases List.mem_cons.mp hu with z | hu
        · exact ⟨_, z⟩
        · exact ⟨_, List.mem_singleton.mp hu⟩
      refine s_forS (ev_var rfl) (e _ _ hL16) (fun σ2 H2 => ∃ v12 v13, σ2 = [some (.ref a), some (.int far), some (.ref d), v3, some (.ref p), some (.int (R.length : Int)), some (.ref kp), some (.ref rp), v8, some (.ref np), some (.ref cp), some (.int w), v12, v13, none] ∧ Ex H' H2) (fun H17 e17 => ⟨v12, v13, rfl, e17⟩) ?_ ?_
      · rintro x σ2 HA HB eA eB hx ⟨v12, v13, rfl, e2⟩
        have eAll := e.trans e2
        have hg : GoodRow HB p R := ⟨eAll _ _ hR16, by omega, hR⟩
        have hc : NoCuts K HB x R.length := (hPc x hx).mono (eH16.trans eAll)
        refine q_asgL (xs := Rf.cut.kinds.map V.bl) (el_if7 (b := decide (w = 0)) (et_is (et_test (ev_op (ev_var rfl) ev_c (rv_eq rfl))) (by simp))
          (fun _ => el_callL m__law_told (ea_cons ev_c (ea_cons (ev_var rfl) (ea_cons (ev_var rfl) ea_nil))) ⟨ga K "_law_with_cuts", .ref p, x, .cut, rfl, .inr (.inr (.inl ⟨rfl, rfl, p, R, rfl, hg, hc⟩)), rfl⟩)
          fun _ => el_callL m__law_told (ea_cons ev_c (ea_cons (ev_var rfl) (ea_cons (ev_var rfl) ea_nil))) ⟨ga K "_law_cut_text", .ref p, x, .cut, rfl, .inr (.inr (.inr ⟨rfl, rfl, p, R, rfl, hg, hc⟩)), rfl⟩) fun th HC hth eC hT => ?_
        have e3C := (e316.trans eAll).trans eC
        exact s_when (b := false) (et_is (et_test (ev_op (ev_var rfl) (dueAt _ _ 2 q2 e3C rfl d2) (rv_neB hT (e3C _ _ k2)))) (by simp)) (fun h => by cases h) fun _ HD eD => ⟨eB.trans (eC.trans eD), _, _, rfl, e2.trans (eC.trans eD)⟩
      · rintro σ2 H2 eA ⟨v12, v13, rfl, e2⟩
        exact ⟨eH.trans e2, _, _, _, rfl, e.trans e2⟩
    rintro σ' H17 _ ⟨v11, v12, v13, rfl, e17⟩
    -- at the bounds
    refine q_asgL (xs := ([1000000, 1000000, 1000000] : List Int).map V.int) (fun H1 e Q q => el_lst (vs := [.int 1000000]) (ea_cons ev_c ea_nil) l1 H1 e _ fun l H2 hl2 e2 h2 => ⟨l, 3, [.int 1000000], rfl, rfl, h2, by decide, by decide, sz_of (by decide), fun r hr => q r _ (fresh_back e2 hr) (e2.trans (Ex.new hr)) upd_same⟩) fun gp H18 hgp e18 hG => ?_
    have gr : ∀ n ∈ ([1000000, 1000000, 1000000] : List Int), 0 ≤ n ∧ n ≤ 1000000 := by decide
    have e1618 := e17.trans e18
    refine q_when (b := false) (et_is (et_or (a := false) (et_is (et_test (ev_opRL (z := .bl false) (xs := ([] : List Int).map V.int) (ys := ([] : List Int).map V.int) (rl_fldX (ex_call m_fewest anti_few (ea_cons (ev_var rfl) (ea_cons (ev_is (ev_op ev_c ev_c (rv_I ⟨by decide, by decide, by decide⟩)) p9) ea_nil)) ⟨gp, _, _, rfl, hG, by decide, gr, by decide, rfl⟩) fun HA v HB r => ?_) (el_lst ea_nil (by decide)) fun p1 p2 H5 h5 h6 e5 => ?_)) rfl)
      fun _ => et_is (et_test (ev_op (ev_fldX (z := .int 1000000) (ex_call m_lowest anti_Low (ea_cons (ev_var rfl) (ea_cons (ev_is (ev_op ev_c ev_c (rv_I ⟨by decide, by decide, by decide⟩)) p9) ea_nil)) ⟨gp, _, _, rfl, hG, by decide, gr, by decide, rfl⟩) fun HA v HB r => ?_) ev_c (rv_ne rfl))) (by simp)) rfl) (fun h => by cases h) fun _ H19 e19 => ?_
    · have hR2 : fewR K [1000000, 1000000, 1000000] 1000000000 = RFewP K [] [] := by
        unfold fewR
        rw [if_neg (by decide)]
        rfl
      rw [hR2] at r
      obtain ⟨ys, ⟨x, p, q, rfl, _, _, _, _, dx, hx, hp, _⟩, _⟩ := r
      exact ⟨x, _, dx, _, p, rfl, hx, T.cls_Fewest, T.na_Fewest_cuts, fFew_cuts, hp⟩
    · exact rv_neI (K := K) (ns := []) (ms := []) (sq_of h5) (sq_of h6)
    · obtain ⟨cs, j, ps, ys, hL, hcl, hpl, ⟨x, pc, pp, rfl, _, _, _, _, dx, hx, _⟩, hP⟩ := r
      have hj := low_great hL hpl
      subst hj
      exact ⟨x, _, dx, _, rfl, hx, T.cls_Least, T.na_Least_number, fLst_number⟩
    have hG19 := e19 _ _ hG
    refine q_when (b := false) (et_is (et_test (ev_opRL (z := .bl false) (xs := ([] : List Int).map V.int) (ys := ([] : List Int).map V.int) (rl_fldX (ex_call m_fullest anti_Mst (ea_cons (ev_var rfl) (ea_cons (ev_is (ev_op ev_c ev_c (rv_I ⟨by decide, by decide, by decide⟩)) p9) ea_nil)) ⟨gp, _, _, rfl, hG19, by decide, gr, by decide, rfl⟩) fun HA v HB r => ?_) (el_lst ea_nil (by decide)) fun p1 p2 H5 h5 h6 e5 => ?_)) rfl) (fun h => by cases h) fun _ H20 e20 => ?_
    · obtain ⟨x, pc, pp, rfl, _, _, _, _, dx, hx, hp, hq⟩ := r
      have hF : fullP [1000000, 1000000, 1000000] 1000000000 = [] := by decide
      rw [hF] at hq
      exact ⟨x, _, dx, _, pp, rfl, hx, T.cls_Most, T.na_Most_places, fMst_places, hq⟩
    · exact rv_neI (K := K) (ns := []) (ms := []) (sq_of h5) (sq_of h6)
    have hG20 := e20 _ _ hG19
    have e1620 := (e1618.trans e19).trans e20
    have hb1 : partsP [1000000, 1000000, 1000000] [1, 2] = [1000000, 1000000, 1000000] := by decide
    refine s_ret (ev_is (ev_andV (a := true) (b := true) (ev_is (ev_op (ev_var rfl) (ev_var rfl) (rv_eqI (sq_of (e1620 _ _ hR16)) (sq_of (e1620 _ _ hK16)))) (by simp)) fun _ => ev_is (ev_andV (a := true) (b := true) (ev_opL1 (z := .bl true) (xs := (partsP [1000000, 1000000, 1000000] [1, 2]).map V.int) (el_callVL (F := F_borne K) (ys := ([1, 2] : List Int).map V.int) (ev_var rfl) (el_lst (ea_cons ev_c (ea_cons ev_c ea_nil)) l2) fun l H3 e3 h3 => ⟨gp, l, [1000000, 1000000, 1000000], [1, 2], rfl, e3 _ _ hG20, h3, by decide, by decide, gr, by decide, rfl⟩) (fun H1 e => ev_var rfl) fun p H5 h5 e5 => ?_) fun _ =>
      ev_is (ev_andV (a := true) (b := true) (ev_is (ev_op (ev_callV1N (F := F_halved K) (z := .int (halvedP [] : Nat)) (xs := ([] : List Int).map V.int) (el_lst ea_nil (by decide)) fun p H5 e5 h5 => ⟨p, [], rfl, h5, by decide, (fun n hn => by cases hn), rfl⟩) ev_c (rv_eq rfl)) (by decide)) fun _ => ev_is (ev_op (ev_callV m_halved (ea_cons (ev_var rfl) ea_nil) ⟨gp, _, rfl, hG20, by decide, gr, rfl⟩) ev_c (rv_eq rfl)) (by decide)) rfl) rfl) rfl) fun H21 e21 => k _
    have q := rv_eqI (K := K) (ns := [1000000, 1000000, 1000000]) (ms := [1000000, 1000000, 1000000]) (sq_of (by rw [hb1] at h5; exact h5)) (sq_of (e5 _ _ hG20))
    exact q

end
end Ct
namespace Ct
open PySem PySem.Spec PyProof.Rows L2 Evl
set_option maxHeartbeats 0
def d_is_whole : He.DefD := ⟨("is_whole", none), "is_whole", "is_whole", defArgs s_is_whole, defBody s_is_whole, defScope s_is_whole, [], []⟩
def d_check_row : He.DefD := ⟨("check_row", none), "check_row", "check_row", defArgs s_check_row, defBody s_check_row, defScope s_check_row, [], []⟩
def d_check_number : He.DefD := ⟨("check_number", none), "check_number", "check_number", defArgs s_check_number, defBody s_check_number, defScope s_check_number, [], []⟩
def d_are_cuts : He.DefD := ⟨("are_cuts", none), "are_cuts", "are_cuts", defArgs s_are_cuts, defBody s_are_cuts, defScope s_are_cuts, [], []⟩
def d_check_cuts : He.DefD := ⟨("check_cuts", none), "check_cuts", "check_cuts", defArgs s_check_cuts, defBody s_check_cuts, defScope s_check_cuts, [], []⟩
def d_sums_of : He.DefD := ⟨("sums_of", none), "sums_of", "sums_of", defArgs s_sums_of, defBody s_sums_of, defScope s_sums_of, [], []⟩
def d_parts_of : He.DefD := ⟨("parts_of", none), "parts_of", "parts_of", defArgs s_parts_of, defBody s_parts_of, defScope s_parts_of, [], []⟩
def d_borne : He.DefD := ⟨("borne", none), "borne", "borne", defArgs s_borne, defBody s_borne, defScope s_borne, [], []⟩
def d_halved : He.DefD := ⟨("halved", none), "halved", "halved", defArgs s_halved, defBody s_halved, defScope s_halved, [], []⟩
def d_are_linked : He.DefD := ⟨("are_linked", none), "are_linked", "are_linked", defArgs s_are_linked, defBody s_are_linked, defScope s_are_linked, [], []⟩
def d_Fewest___init__ : He.DefD := ⟨("Fewest", some "__init__"), "__init__", "Fewest.__init__", defArgs s_Fewest___init__, defBody s_Fewest___init__, defScope s_Fewest___init__, [], []⟩
def d_Fewest_shows : He.DefD := ⟨("Fewest", some "shows"), "shows", "Fewest.shows", defArgs s_Fewest_shows, defBody s_Fewest_shows, defScope s_Fewest_shows, [], []⟩
def d_Great___init__ : He.DefD := ⟨("Great", some "__init__"), "__init__", "Great.__init__", defArgs s_Great___init__, defBody s_Great___init__, defScope s_Great___init__, [], []⟩
def d_Great_shows : He.DefD := ⟨("Great", some "shows"), "shows", "Great.shows", defArgs s_Great_shows, defBody s_Great_shows, defScope s_Great_shows, [], []⟩
def d_Least___init__ : He.DefD := ⟨("Least", some "__init__"), "__init__", "Least.__init__", defArgs s_Least___init__, defBody s_Least___init__, defScope s_Least___init__, [], []⟩
def d_Least_shows : He.DefD := ⟨("Least", some "shows"), "shows", "Least.shows", defArgs s_Least_shows, defBody s_Least_shows, defScope s_Least_shows, [], []⟩
def d_Most___init__ : He.DefD := ⟨("Most", some "__init__"), "__init__", "Most.__init__", defArgs s_Most___init__, defBody s_Most___init__, defScope s_Most___init__, [], []⟩
def d_Most_shows : He.DefD := ⟨("Most", some "shows"), "shows", "Most.shows", defArgs s_Most_shows, defBody s_Most_shows, defScope s_Most_shows, [], []⟩
def d_are_places : He.DefD := ⟨("are_places", none), "are_places", "are_places", defArgs s_are_places, defBody s_are_places, defScope s_are_places, [], []⟩
def d_filled : He.DefD := ⟨("filled", none), "filled", "filled", defArgs s_filled, defBody s_filled, defScope s_filled, [], []⟩
def d_fewest : He.DefD := ⟨("fewest", none), "fewest", "fewest", defArgs s_fewest, defBody s_fewest, defScope s_fewest, [], []⟩
def d_lowest : He.DefD := ⟨("lowest", none), "lowest", "lowest", defArgs s_lowest, defBody s_lowest, defScope s_lowest, [], []⟩
def d_fullest : He.DefD := ⟨("fullest", none), "fullest", "fullest", defArgs s_fullest, defBody s_fullest, defScope s_fullest, [], []⟩
def d_written : He.DefD := ⟨("written", none), "written", "written", defArgs s_written, defBody s_written, defScope s_written, [], []⟩
def d__law_cell_at : He.DefD := ⟨("_law_cell_at", none), "_law_cell_at", "_law_cell_at", defArgs s__law_cell_at, defBody s__law_cell_at, defScope s__law_cell_at, [], []⟩
def d__law_draw : He.DefD := ⟨("_law_draw", none), "_law_draw", "_law_draw", defArgs s__law_draw, defBody s__law_draw, defScope s__law_draw, [], []⟩
def d__law_row : He.DefD := ⟨("_law_row", none), "_law_row", "_law_row", defArgs s__law_row, defBody s__law_row, defScope s__law_row, [], []⟩
def d__law_numbers : He.DefD := ⟨("_law_numbers", none), "_law_numbers", "_law_numbers", defArgs s__law_numbers, defBody s__law_numbers, defScope s__law_numbers, [], []⟩
def d__law_rising : He.DefD := ⟨("_law_rising", none), "_law_rising", "_law_rising", defArgs s__law_rising, defBody s__law_rising, defScope s__law_rising, [], []⟩
def d__law_kinds : He.DefD := ⟨("_law_kinds", none), "_law_kinds", "_law_kinds", defArgs s__law_kinds, defBody s__law_kinds, defScope s__law_kinds, [], []⟩
def d__law_with_row : He.DefD := ⟨("_law_with_row", none), "_law_with_row", "_law_with_row", defArgs s__law_with_row, defBody s__law_with_row, defScope s__law_with_row, [], []⟩
def d__law_with_number : He.DefD := ⟨("_law_with_number", none), "_law_with_number", "_law_with_number", defArgs s__law_with_number, defBody s__law_with_number, defScope s__law_with_number, [], []⟩
def d__law_with_cuts : He.DefD := ⟨("_law_with_cuts", none), "_law_with_cuts", "_law_with_cuts", defArgs s__law_with_cuts, defBody s__law_with_cuts, defScope s__law_with_cuts, [], []⟩
def d__law_cut_text : He.DefD := ⟨("_law_cut_text", none), "_law_cut_text", "_law_cut_text", defArgs s__law_cut_text, defBody s__law_cut_text, defScope s__law_cut_text, [], []⟩
def d__law_told : He.DefD := ⟨("_law_told", none), "_law_told", "_law_told", defArgs s__law_told, defBody s__law_told, defScope s__law_told, [], []⟩
def d__law_all : He.DefD := ⟨("_law_all", none), "_law_all", "_law_all", defArgs s__law_all, defBody s__law_all, defScope s__law_all, [], []⟩
def d_law : He.DefD := ⟨("law", none), "law", "law", defArgs s_law, defBody s_law, defScope s_law, [], []⟩
def fn : List He.DefD := ([d_is_whole, d_check_row, d_check_number, d_are_cuts, d_check_cuts, d_sums_of, d_parts_of, d_borne, d_halved, d_are_linked, d_Fewest___init__, d_Fewest_shows, d_Great___init__, d_Great_shows, d_Least___init__, d_Least_shows, d_Most___init__, d_Most_shows, d_are_places, d_filled] : List He.DefD) ++ ([d_fewest, d_lowest, d_fullest, d_written, d__law_cell_at, d__law_draw, d__law_row, d__law_numbers, d__law_rising, d__law_kinds, d__law_with_row, d__law_with_number, d__law_with_cuts, d__law_cut_text, d__law_told, d__law_all, d_law] : List He.DefD)
def fa : List He.Fa := ([(.glo "CutError"), (.glo "BadRow"), (.glo "BadNumber"), (.glo "BadCuts"), (.glo "BadText"), (.int "GREATEST" 1000000), (.int "LONGEST" 1000000), (.glo "is_whole"), (.glo "check_row"), (.glo "check_number"), (.glo "are_cuts"), (.glo "check_cuts"), (.glo "sums_of"), (.glo "parts_of"), (.glo "borne"), (.glo "halved"), (.glo "Answer"), (.glo "are_linked"), (.glo "Fewest"), (.glo "Great")] : List He.Fa) ++ ([(.glo "Least"), (.glo "Most"), (.glo "are_places"), (.glo "filled"), (.glo "fewest"), (.glo "lowest"), (.glo "fullest"), (.glo "written"), (.glo "_law_cell_at"), (.glo "_law_draw"), (.glo "_law_row"), (.glo "_law_numbers"), (.glo "_law_rising"), (.glo "_law_kinds"), (.glo "_law_with_row"), (.glo "_law_with_number"), (.glo "_law_with_cuts"), (.glo "_law_cut_text"), (.glo "_law_told"), (.glo "_law_all")] : List He.Fa) ++ ([(.glo "law"), (.free "ValueError"), (.free "abs"), (.free "all"), (.free "any"), (.free "bool"), (.free "enumerate"), (.free "int"), (.free "isinstance"), (.free "len"), (.free "list"), (.free "max"), (.free "min"), (.free "range"), (.free "str"), (.free "sum"), (.cls "Fewest"), (.mkr "Fewest"), (.meth "Fewest" "shows"), (.noat "Fewest" "cuts")] : List He.Fa) ++ ([(.noat "Fewest" "stretches"), (.cls "Great"), (.mkr "Great"), (.meth "Great" "shows"), (.noat "Great" "place"), (.cls "Least"), (.mkr "Least"), (.meth "Least" "shows"), (.noat "Least" "cuts"), (.noat "Least" "number"), (.noat "Least" "stretches"), (.cls "Most"), (.mkr "Most"), (.meth "Most" "shows"), (.noat "Most" "cuts"), (.noat "Most" "places")] : List He.Fa)
def ex (K : PySem.W.Frag) : Bool := decide (PySem.W.specialIn K (.builtin "object.__class__") "__get__" = some (some (.builtin "getset_descriptor.__get__"))) && (decide (PySem.W.takesIn K (.builtin "object.__class__") = some true) && (decide (PySem.W.findIn K (.ref (He.ga K "Fewest")) "__class__" = some (some (.builtin "object.__class__"))) && (decide (PySem.W.mroIn K (He.ga K "Fewest") (.type "object") = some true) && (decide (PySem.W.kitOne K (.ref (He.ga K "Fewest")) (.ref (He.ga K "Answer")) = some true) && (decide (PySem.W.kitOne K (.ref (He.ga K "Fewest")) (.ref (He.ga K "Fewest")) = some true) && (decide (PySem.W.kitOne K (.ref (He.ga K "Fewest")) (.ref (He.ga K "Great")) = some false) && (decide (PySem.W.kitOne K (.ref (He.ga K "Fewest")) (.ref (He.ga K "Least")) = some false) && (decide (PySem.W.kitOne K (.ref (He.ga K "Fewest")) (.ref (He.ga K "Most")) = some false) && (decide (PySem.W.findIn K (.ref (He.ga K "Great")) "__class__" = some (some (.builtin "object.__class__"))) && (decide (PySem.W.mroIn K (He.ga K "Great") (.type "object") = some true) && (decide (PySem.W.kitOne K (.ref (He.ga K "Great")) (.ref (He.ga K "Answer")) = some true) && (decide (PySem.W.kitOne K (.ref (He.ga K "Great")) (.ref (He.ga K "Fewest")) = some false) && (decide (PySem.W.kitOne K (.ref (He.ga K "Great")) (.ref (He.ga K "Great")) = some true) && (decide (PySem.W.kitOne K (.ref (He.ga K "Great")) (.ref (He.ga K "Least")) = some false) && (decide (PySem.W.kitOne K (.ref (He.ga K "Great")) (.ref (He.ga K "Most")) = some false) && (decide (PySem.W.findIn K (.ref (He.ga K "Least")) "__class__" = some (some (.builtin "object.__class__"))) && (decide (PySem.W.mroIn K (He.ga K "Least") (.type "object") = some true) && (decide (PySem.W.kitOne K (.ref (He.ga K "Least")) (.ref (He.ga K "Answer")) = some true) && (decide (PySem.W.kitOne K (.ref (He.ga K "Least")) (.ref (He.ga K "Fewest")) = some false) && (decide (PySem.W.kitOne K (.ref (He.ga K "Least")) (.ref (He.ga K "Great")) = some false) && (decide (PySem.W.kitOne K (.ref (He.ga K "Least")) (.ref (He.ga K "Least")) = some true) && (decide (PySem.W.kitOne K (.ref (He.ga K "Least")) (.ref (He.ga K "Most")) = some false) && (decide (PySem.W.findIn K (.ref (He.ga K "Most")) "__class__" = some (some (.builtin "object.__class__"))) && (decide (PySem.W.mroIn K (He.ga K "Most") (.type "object") = some true) && (decide (PySem.W.kitOne K (.ref (He.ga K "Most")) (.ref (He.ga K "Answer")) = some true) && (decide (PySem.W.kitOne K (.ref (He.ga K "Most")) (.ref (He.ga K "Fewest")) = some false) && (decide (PySem.W.kitOne K (.ref (He.ga K "Most")) (.ref (He.ga K "Great")) = some false) && (decide (PySem.W.kitOne K (.ref (He.ga K "Most")) (.ref (He.ga K "Least")) = some false) && (decide (PySem.W.kitOne K (.ref (He.ga K "Most")) (.ref (He.ga K "Most")) = some true) && (decide (PySem.W.subIn K (.ref (He.ga K "CutError")) (.type "BaseException") = some true) && (decide (PySem.W.typeIn K (.ref (He.ga K "CutError")) = some (.type "type")) && (decide (PySem.W.hasDictIn K (He.ga K "CutError") = true) && (decide (PySem.W.subIn K (.ref (He.ga K "BadRow")) (.type "BaseException") = some true) && (decide (PySem.W.typeIn K (.ref (He.ga K "BadRow")) = some (.type "type")) && (decide (PySem.W.hasDictIn K (He.ga K "BadRow") = true) && (decide (PySem.W.subIn K (.ref (He.ga K "BadNumber")) (.type "BaseException") = some true) && (decide (PySem.W.typeIn K (.ref (He.ga K "BadNumber")) = some (.type "type")) && (decide (PySem.W.hasDictIn K (He.ga K "BadNumber") = true) && (decide (PySem.W.subIn K (.ref (He.ga K "BadCuts")) (.type "BaseException") = some true) && (decide (PySem.W.typeIn K (.ref (He.ga K "BadCuts")) = some (.type "type")) && (decide (PySem.W.hasDictIn K (He.ga K "BadCuts") = true) && (decide (PySem.W.subIn K (.ref (He.ga K "BadText")) (.type "BaseException") = some true) && (decide (PySem.W.typeIn K (.ref (He.ga K "BadText")) = some (.type "type")) && (decide (PySem.W.hasDictIn K (He.ga K "BadText") = true) && (decide (PySem.W.excIn K (He.ga K "BadRow") [.type "ValueError", .type "Exception", .type "BaseException", .type "object"] "ValueError.__new__" = true) && (decide (PySem.W.keepIn K (.ref (He.ga K "BadRow")) = true) && (decide (PySem.W.subIn K (.ref (He.ga K "BadRow")) (.ref (He.ga K "CutError")) = some true) && (decide (PySem.W.findIn K (.ref (He.ga K "BadRow")) "__getattribute__" = some (some (.builtin "BaseException.__getattribute__"))) && (decide (PySem.W.findIn K (.ref (He.ga K "BadRow")) "__getattr__" = some none) && (decide (PySem.W.findIn K (.ref (He.ga K "BadRow")) "__class__" = some (some (.builtin "object.__class__"))) && (decide (PySem.W.mroIn K (He.ga K "BadRow") (.type "object") = some true) && (decide (PySem.W.kitOne K (.ref (He.ga K "BadRow")) (.ref (He.ga K "BadRow")) = some true) && (decide (PySem.W.kitOne K (.ref (He.ga K "BadRow")) (.ref (He.ga K "BadNumber")) = some false) && (decide (PySem.W.kitOne K (.ref (He.ga K "BadRow")) (.ref (He.ga K "BadCuts")) = some false) && (decide (PySem.W.kitOne K (.ref (He.ga K "BadRow")) (.ref (He.ga K "BadText")) = some false) && (decide (PySem.W.kitOne K (.ref (He.ga K "BadRow")) (.type "ValueError") = some true) && (decide (PySem.W.excIn K (He.ga K "BadNumber") [.type "ValueError", .type "Exception", .type "BaseException", .type "object"] "ValueError.__new__" = true) && (decide (PySem.W.keepIn K (.ref (He.ga K "BadNumber")) = true) && (decide (PySem.W.subIn K (.ref (He.ga K "BadNumber")) (.ref (He.ga K "CutError")) = some true) && (decide (PySem.W.findIn K (.ref (He.ga K "BadNumber")) "__getattribute__" = some (some (.builtin "BaseException.__getattribute__"))) && (decide (PySem.W.findIn K (.ref (He.ga K "BadNumber")) "__getattr__" = some none) && (decide (PySem.W.findIn K (.ref (He.ga K "BadNumber")) "__class__" = some (some (.builtin "object.__class__"))) && (decide (PySem.W.mroIn K (He.ga K "BadNumber") (.type "object") = some true) && (decide (PySem.W.kitOne K (.ref (He.ga K "BadNumber")) (.ref (He.ga K "BadRow")) = some false) && (decide (PySem.W.kitOne K (.ref (He.ga K "BadNumber")) (.ref (He.ga K "BadNumber")) = some true) && (decide (PySem.W.kitOne K (.ref (He.ga K "BadNumber")) (.ref (He.ga K "BadCuts")) = some false) && (decide (PySem.W.kitOne K (.ref (He.ga K "BadNumber")) (.ref (He.ga K "BadText")) = some false) && (decide (PySem.W.kitOne K (.ref (He.ga K "BadNumber")) (.type "ValueError") = some true) && (decide (PySem.W.excIn K (He.ga K "BadCuts") [.type "ValueError", .type "Exception", .type "BaseException", .type "object"] "ValueError.__new__" = true) && (decide (PySem.W.keepIn K (.ref (He.ga K "BadCuts")) = true) && (decide (PySem.W.subIn K (.ref (He.ga K "BadCuts")) (.ref (He.ga K "CutError")) = some true) && (decide (PySem.W.findIn K (.ref (He.ga K "BadCuts")) "__getattribute__" = some (some (.builtin "BaseException.__getattribute__"))) && (decide (PySem.W.findIn K (.ref (He.ga K "BadCuts")) "__getattr__" = some none) && (decide (PySem.W.findIn K (.ref (He.ga K "BadCuts")) "__class__" = some (some (.builtin "object.__class__"))) && (decide (PySem.W.mroIn K (He.ga K "BadCuts") (.type "object") = some true) && (decide (PySem.W.kitOne K (.ref (He.ga K "BadCuts")) (.ref (He.ga K "BadRow")) = some false) && (decide (PySem.W.kitOne K (.ref (He.ga K "BadCuts")) (.ref (He.ga K "BadNumber")) = some false) && (decide (PySem.W.kitOne K (.ref (He.ga K "BadCuts")) (.ref (He.ga K "BadCuts")) = some true) && (decide (PySem.W.kitOne K (.ref (He.ga K "BadCuts")) (.ref (He.ga K "BadText")) = some false) && (decide (PySem.W.kitOne K (.ref (He.ga K "BadCuts")) (.type "ValueError") = some true) && (decide (PySem.W.excIn K (He.ga K "BadText") [.type "ValueError", .type "Exception", .type "BaseException", .type "object"] "ValueError.__new__" = true) && (decide (PySem.W.keepIn K (.ref (He.ga K "BadText")) = true) && (decide (PySem.W.subIn K (.ref (He.ga K "BadText")) (.ref (He.ga K "CutError")) = some true) && (decide (PySem.W.findIn K (.ref (He.ga K "BadText")) "__getattribute__" = some (some (.builtin "BaseException.__getattribute__"))) && (decide (PySem.W.findIn K (.ref (He.ga K "BadText")) "__getattr__" = some none) && (decide (PySem.W.findIn K (.ref (He.ga K "BadText")) "__class__" = some (some (.builtin "object.__class__"))) && (decide (PySem.W.mroIn K (He.ga K "BadText") (.type "object") = some true) && (decide (PySem.W.kitOne K (.ref (He.ga K "BadText")) (.ref (He.ga K "BadRow")) = some false) && (decide (PySem.W.kitOne K (.ref (He.ga K "BadText")) (.ref (He.ga K "BadNumber")) = some false) && (decide (PySem.W.kitOne K (.ref (He.ga K "BadText")) (.ref (He.ga K "BadCuts")) = some false) && (decide (PySem.W.kitOne K (.ref (He.ga K "BadText")) (.ref (He.ga K "BadText")) = some true) && (decide (PySem.W.kitOne K (.ref (He.ga K "BadText")) (.type "ValueError") = some true)))))))))))))))))))))))))))))))))))))))))))))))))))))))))))))))))))))))))))))))))))))))))))))
abbrev hk : PySem.W.Hook := He.hookX 5 fa fn [] [] ex
def ob (s : PySem.W.SharedT) : He.AlX := He.obsX 5 fa fn [] [] ex (HandSHeadRun.getT s)
theorem ob_eq (s : PySem.W.SharedT) : ob s = hk.obs s.abs := He.obsX_eq (HandSHeadRun.getT_eq s)
def loose : List PySem.Str := (["CutError", "BadRow", "BadNumber", "BadCuts", "BadText", "GREATEST", "LONGEST", "is_whole", "check_row", "check_number", "are_cuts", "check_cuts", "sums_of", "parts_of", "borne", "halved", "Answer", "are_linked", "Fewest", "Great"] : List PySem.Str) ++ (["Least", "Most", "are_places", "filled", "fewest", "lowest", "fullest", "written", "_law_cell_at", "_law_draw", "_law_row", "_law_numbers", "_law_rising", "_law_kinds", "_law_with_row", "_law_with_number", "_law_with_cuts", "_law_cut_text", "_law_told", "_law_all"] : List PySem.Str)
theorem run (w : PySem.World) : HandSHeadRun.RunEq R (PySem.W.view R.prog [46]) hk ob 4000 loose w := by
  intro os
  kernel_rfl
theorem tx_of {w : World} {h0 : Heap} {K : PySem.W.Frag} {h : Heap} {mg : Str → Option Value} (X : K.In h) (G : h.Ns mainGlobals mg) (c : He.SaysX fa fn [] [] ex w h0 K) : Tx K mg := by
  have e0 := c.more
  obtain ⟨x_o_sp, e1⟩ := He.ba e0
  obtain ⟨x_o_tk, e2⟩ := He.ba e1
  obtain ⟨x_oc_Fewest, e3⟩ := He.ba e2
  obtain ⟨x_om_Fewest, e4⟩ := He.ba e3
  obtain ⟨x_ki_Fewest_Answer, e5⟩ := He.ba e4
  obtain ⟨x_ki_Fewest_Fewest, e6⟩ := He.ba e5
  obtain ⟨x_ki_Fewest_Great, e7⟩ := He.ba e6
  obtain ⟨x_ki_Fewest_Least, e8⟩ := He.ba e7
  obtain ⟨x_ki_Fewest_Most, e9⟩ := He.ba e8
  obtain ⟨x_oc_Great, e10⟩ := He.ba e9
  obtain ⟨x_om_Great, e11⟩ := He.ba e10
  obtain ⟨x_ki_Great_Answer, e12⟩ := He.ba e11
  obtain ⟨x_ki_Great_Fewest, e13⟩ := He.ba e12
  obtain ⟨x_ki_Great_Great, e14⟩ := He.ba e13
  obtain ⟨x_ki_Great_Least, e15⟩ := He.ba e14
  obtain ⟨x_ki_Great_Most, e16⟩ := He.ba e15
  obtain ⟨x_oc_Least, e17⟩ := He.ba e16
  obtain ⟨x_om_Least, e18⟩ := He.ba e17
  obtain ⟨x_ki_Least_Answer, e19⟩ := He.ba e18
  obtain ⟨x_ki_Least_Fewest, e20⟩ := He.ba e19
  obtain ⟨x_ki_Least_Great, e21⟩ := He.ba e20
  obtain ⟨x_ki_Least_Least, e22⟩ := He.ba e21
  obtain ⟨x_ki_Least_Most, e23⟩ := He.ba e22
  obtain ⟨x_oc_Most, e24⟩ := He.ba e23
  obtain ⟨x_om_Most, e25⟩ := He.ba e24
  obtain ⟨x_ki_Most_Answer, e26⟩ := He.ba e25
  obtain ⟨x_ki_Most_Fewest, e27⟩ := He.ba e26
  obtain ⟨x_ki_Most_Great, e28⟩ := He.ba e27
  obtain ⟨x_ki_Most_Least, e29⟩ := He.ba e28
  obtain ⟨x_ki_Most_Most, e30⟩ := He.ba e29
  obtain ⟨x_sb_CutError, e31⟩ := He.ba e30
  obtain ⟨x_tt_CutError, e32⟩ := He.ba e31
  obtain ⟨x_hd_CutError, e33⟩ := He.ba e32
  obtain ⟨x_sb_BadRow, e34⟩ := He.ba e33
  obtain ⟨x_tt_BadRow, e35⟩ := He.ba e34
  obtain ⟨x_hd_BadRow, e36⟩ := He.ba e35
  obtain ⟨x_sb_BadNumber, e37⟩ := He.ba e36
  obtain ⟨x_tt_BadNumber, e38⟩ := He.ba e37
  obtain ⟨x_hd_BadNumber, e39⟩ := He.ba e38
  obtain ⟨x_sb_BadCuts, e40⟩ := He.ba e39
  obtain ⟨x_tt_BadCuts, e41⟩ := He.ba e40
  obtain ⟨x_hd_BadCuts, e42⟩ := He.ba e41
  obtain ⟨x_sb_BadText, e43⟩ := He.ba e42
  obtain ⟨x_tt_BadText, e44⟩ := He.ba e43
  obtain ⟨x_hd_BadText, e45⟩ := He.ba e44
  obtain ⟨x_xi_BadRow, e46⟩ := He.ba e45
  obtain ⟨x_kp_BadRow, e47⟩ := He.ba e46
  obtain ⟨x_cu_BadRow, e48⟩ := He.ba e47
  obtain ⟨x_hg_BadRow, e49⟩ := He.ba e48
  obtain ⟨x_hk_BadRow, e50⟩ := He.ba e49
  obtain ⟨x_ha_BadRow, e51⟩ := He.ba e50
  obtain ⟨x_hm_BadRow, e52⟩ := He.ba e51
  obtain ⟨x_kx_BadRow_BadRow, e53⟩ := He.ba e52
  obtain ⟨x_kx_BadRow_BadNumber, e54⟩ := He.ba e53
  obtain ⟨x_kx_BadRow_BadCuts, e55⟩ := He.ba e54
  obtain ⟨x_kx_BadRow_BadText, e56⟩ := He.ba e55
  obtain ⟨x_kv_BadRow, e57⟩ := He.ba e56
  obtain ⟨x_xi_BadNumber, e58⟩ := He.ba e57
  obtain ⟨x_kp_BadNumber, e59⟩ := He.ba e58
  obtain ⟨x_cu_BadNumber, e60⟩ := He.ba e59
  obtain ⟨x_hg_BadNumber, e61⟩ := He.ba e60
  obtain ⟨x_hk_BadNumber, e62⟩ := He.ba e61
  obtain ⟨x_ha_BadNumber, e63⟩ := He.ba e62
  obtain ⟨x_hm_BadNumber, e64⟩ := He.ba e63
  obtain ⟨x_kx_BadNumber_BadRow, e65⟩ := He.ba e64
  obtain ⟨x_kx_BadNumber_BadNumber, e66⟩ := He.ba e65
  obtain ⟨x_kx_BadNumber_BadCuts, e67⟩ := He.ba e66
  obtain ⟨x_kx_BadNumber_BadText, e68⟩ := He.ba e67
  obtain ⟨x_kv_BadNumber, e69⟩ := He.ba e68
  obtain ⟨x_xi_BadCuts, e70⟩ := He.ba e69
  obtain ⟨x_kp_BadCuts, e71⟩ := He.ba e70
  obtain ⟨x_cu_BadCuts, e72⟩ := He.ba e71
  obtain ⟨x_hg_BadCuts, e73⟩ := He.ba e72
  obtain ⟨x_hk_BadCuts, e74⟩ := He.ba e73
  obtain ⟨x_ha_BadCuts, e75⟩ := He.ba e74
  obtain ⟨x_hm_BadCuts, e76⟩ := He.ba e75
  obtain ⟨x_kx_BadCuts_BadRow, e77⟩ := He.ba e76
  obtain ⟨x_kx_BadCuts_BadNumber, e78⟩ := He.ba e77
  obtain ⟨x_kx_BadCuts_BadCuts, e79⟩ := He.ba e78
  obtain ⟨x_kx_BadCuts_BadText, e80⟩ := He.ba e79
  obtain ⟨x_kv_BadCuts, e81⟩ := He.ba e80
  obtain ⟨x_xi_BadText, e82⟩ := He.ba e81
  obtain ⟨x_kp_BadText, e83⟩ := He.ba e82
  obtain ⟨x_cu_BadText, e84⟩ := He.ba e83
  obtain ⟨x_hg_BadText, e85⟩ := He.ba e84
  obtain ⟨x_hk_BadText, e86⟩ := He.ba e85
  obtain ⟨x_ha_BadText, e87⟩ := He.ba e86
  obtain ⟨x_hm_BadText, e88⟩ := He.ba e87
  obtain ⟨x_kx_BadText_BadRow, e89⟩ := He.ba e88
  obtain ⟨x_kx_BadText_BadNumber, e90⟩ := He.ba e89
  obtain ⟨x_kx_BadText_BadCuts, e91⟩ := He.ba e90
  obtain ⟨x_kx_BadText_BadText, e92⟩ := He.ba e91
  have x_kv_BadText := e92
  exact {
    d_is_whole := c.t.d.defs (d := d_is_whole) (by simp [fn])
    d_check_row := c.t.d.defs (d := d_check_row) (by simp [fn])
    d_check_number := c.t.d.defs (d := d_check_number) (by simp [fn])
    d_are_cuts := c.t.d.defs (d := d_are_cuts) (by simp [fn])
    d_check_cuts := c.t.d.defs (d := d_check_cuts) (by simp [fn])
    d_sums_of := c.t.d.defs (d := d_sums_of) (by simp [fn])
    d_parts_of := c.t.d.defs (d := d_parts_of) (by simp [fn])
    d_borne := c.t.d.defs (d := d_borne) (by simp [fn])
    d_halved := c.t.d.defs (d := d_halved) (by simp [fn])
    d_are_linked := c.t.d.defs (d := d_are_linked) (by simp [fn])
    d_Fewest___init__ := c.t.d.defs (d := d_Fewest___init__) (by simp [fn])
    d_Fewest_shows := c.t.d.defs (d := d_Fewest_shows) (by simp [fn])
    d_Great___init__ := c.t.d.defs (d := d_Great___init__) (by simp [fn])
    d_Great_shows := c.t.d.defs (d := d_Great_shows) (by simp [fn])
    d_Least___init__ := c.t.d.defs (d := d_Least___init__) (by simp [fn])
    d_Least_shows := c.t.d.defs (d := d_Least_shows) (by simp [fn])
    d_Most___init__ := c.t.d.defs (d := d_Most___init__) (by simp [fn])
    d_Most_shows := c.t.d.defs (d := d_Most_shows) (by simp [fn])
    d_are_places := c.t.d.defs (d := d_are_places) (by simp [fn])
    d_filled := c.t.d.defs (d := d_filled) (by simp [fn])
    d_fewest := c.t.d.defs (d := d_fewest) (by simp [fn])
    d_lowest := c.t.d.defs (d := d_lowest) (by simp [fn])
    d_fullest := c.t.d.defs (d := d_fullest) (by simp [fn])
    d_written := c.t.d.defs (d := d_written) (by simp [fn])
    d__law_cell_at := c.t.d.defs (d := d__law_cell_at) (by simp [fn])
    d__law_draw := c.t.d.defs (d := d__law_draw) (by simp [fn])
    d__law_row := c.t.d.defs (d := d__law_row) (by simp [fn])
    d__law_numbers := c.t.d.defs (d := d__law_numbers) (by simp [fn])
    d__law_rising := c.t.d.defs (d := d__law_rising) (by simp [fn])
    d__law_kinds := c.t.d.defs (d := d__law_kinds) (by simp [fn])
    d__law_with_row := c.t.d.defs (d := d__law_with_row) (by simp [fn])
    d__law_with_number := c.t.d.defs (d := d__law_with_number) (by simp [fn])
    d__law_with_cuts := c.t.d.defs (d := d__law_with_cuts) (by simp [fn])
    d__law_cut_text := c.t.d.defs (d := d__law_cut_text) (by simp [fn])
    d__law_told := c.t.d.defs (d := d__law_told) (by simp [fn])
    d__law_all := c.t.d.defs (d := d__law_all) (by simp [fn])
    d_law := c.t.d.defs (d := d_law) (by simp [fn])
    g_CutError := He.glo_ok X G (c.t.d.fact 0 (f := .glo "CutError") (by rfl))
    g_BadRow := He.glo_ok X G (c.t.d.fact 1 (f := .glo "BadRow") (by rfl))
    g_BadNumber := He.glo_ok X G (c.t.d.fact 2 (f := .glo "BadNumber") (by rfl))
    g_BadCuts := He.glo_ok X G (c.t.d.fact 3 (f := .glo "BadCuts") (by rfl))
    g_BadText := He.glo_ok X G (c.t.d.fact 4 (f := .glo "BadText") (by rfl))
    c_GREATEST := He.int_ok X G (c.t.d.fact 5 (f := .int "GREATEST" 1000000) (by rfl))
    c_LONGEST := He.int_ok X G (c.t.d.fact 6 (f := .int "LONGEST" 1000000) (by rfl))
    g_is_whole := He.glo_ok X G (c.t.d.fact 7 (f := .glo "is_whole") (by rfl))
    g_check_row := He.glo_ok X G (c.t.d.fact 8 (f := .glo "check_row") (by rfl))
    g_check_number := He.glo_ok X G (c.t.d.fact 9 (f := .glo "check_number") (by rfl))
    g_are_cuts := He.glo_ok X G (c.t.d.fact 10 (f := .glo "are_cuts") (by rfl))
    g_check_cuts := He.glo_ok X G (c.t.d.fact 11 (f := .glo "check_cuts") (by rfl))
    g_sums_of := He.glo_ok X G (c.t.d.fact 12 (f := .glo "sums_of") (by rfl))
    g_parts_of := He.glo_ok X G (c.t.d.fact 13 (f := .glo "parts_of") (by rfl))
    g_borne := He.glo_ok X G (c.t.d.fact 14 (f := .glo "borne") (by rfl))
    g_halved := He.glo_ok X G (c.t.d.fact 15 (f := .glo "halved") (by rfl))
    g_Answer := He.glo_ok X G (c.t.d.fact 16 (f := .glo "Answer") (by rfl))
    g_are_linked := He.glo_ok X G (c.t.d.fact 17 (f := .glo "are_linked") (by rfl))
    g_Fewest := He.glo_ok X G (c.t.d.fact 18 (f := .glo "Fewest") (by rfl))
    g_Great := He.glo_ok X G (c.t.d.fact 19 (f := .glo "Great") (by rfl))
    g_Least := He.glo_ok X G (c.t.d.fact 20 (f := .glo "Least") (by rfl))
    g_Most := He.glo_ok X G (c.t.d.fact 21 (f := .glo "Most") (by rfl))
    g_are_places := He.glo_ok X G (c.t.d.fact 22 (f := .glo "are_places") (by rfl))
    g_filled := He.glo_ok X G (c.t.d.fact 23 (f := .glo "filled") (by rfl))
    g_fewest := He.glo_ok X G (c.t.d.fact 24 (f := .glo "fewest") (by rfl))
    g_lowest := He.glo_ok X G (c.t.d.fact 25 (f := .glo "lowest") (by rfl))
    g_fullest := He.glo_ok X G (c.t.d.fact 26 (f := .glo "fullest") (by rfl))
    g_written := He.glo_ok X G (c.t.d.fact 27 (f := .glo "written") (by rfl))
    g__law_cell_at := He.glo_ok X G (c.t.d.fact 28 (f := .glo "_law_cell_at") (by rfl))
    g__law_draw := He.glo_ok X G (c.t.d.fact 29 (f := .glo "_law_draw") (by rfl))
    g__law_row := He.glo_ok X G (c.t.d.fact 30 (f := .glo "_law_row") (by rfl))
    g__law_numbers := He.glo_ok X G (c.t.d.fact 31 (f := .glo "_law_numbers") (by rfl))
    g__law_rising := He.glo_ok X G (c.t.d.fact 32 (f := .glo "_law_rising") (by rfl))
    g__law_kinds := He.glo_ok X G (c.t.d.fact 33 (f := .glo "_law_kinds") (by rfl))
    g__law_with_row := He.glo_ok X G (c.t.d.fact 34 (f := .glo "_law_with_row") (by rfl))
    g__law_with_number := He.glo_ok X G (c.t.d.fact 35 (f := .glo "_law_with_number") (by rfl))
    g__law_with_cuts := He.glo_ok X G (c.t.d.fact 36 (f := .glo "_law_with_cuts") (by rfl))
    g__law_cut_text := He.glo_ok X G (c.t.d.fact 37 (f := .glo "_law_cut_text") (by rfl))
    g__law_told := He.glo_ok X G (c.t.d.fact 38 (f := .glo "_law_told") (by rfl))
    g__law_all := He.glo_ok X G (c.t.d.fact 39 (f := .glo "_law_all") (by rfl))
    g_law := He.glo_ok X G (c.t.d.fact 40 (f := .glo "law") (by rfl))
    z_ValueError := He.free_ok X G (c.t.d.fact 41 (f := .free "ValueError") (by rfl))
    z_abs := He.free_ok X G (c.t.d.fact 42 (f := .free "abs") (by rfl))
    z_all := He.free_ok X G (c.t.d.fact 43 (f := .free "all") (by rfl))
    z_any := He.free_ok X G (c.t.d.fact 44 (f := .free "any") (by rfl))
    z_bool := He.free_ok X G (c.t.d.fact 45 (f := .free "bool") (by rfl))
    z_enumerate := He.free_ok X G (c.t.d.fact 46 (f := .free "enumerate") (by rfl))
    z_int := He.free_ok X G (c.t.d.fact 47 (f := .free "int") (by rfl))
    z_isinstance := He.free_ok X G (c.t.d.fact 48 (f := .free "isinstance") (by rfl))
    z_len := He.free_ok X G (c.t.d.fact 49 (f := .free "len") (by rfl))
    z_list := He.free_ok X G (c.t.d.fact 50 (f := .free "list") (by rfl))
    z_max := He.free_ok X G (c.t.d.fact 51 (f := .free "max") (by rfl))
    z_min := He.free_ok X G (c.t.d.fact 52 (f := .free "min") (by rfl))
    z_range := He.free_ok X G (c.t.d.fact 53 (f := .free "range") (by rfl))
    z_str := He.free_ok X G (c.t.d.fact 54 (f := .free "str") (by rfl))
    z_sum := He.free_ok X G (c.t.d.fact 55 (f := .free "sum") (by rfl))
    cls_Fewest := He.cls_ok (c.t.d.fact 56 (f := .cls "Fewest") (by rfl))
    mk_Fewest := He.mkr_ok (c.t.d.fact 57 (f := .mkr "Fewest") (by rfl))
    mt_Fewest_shows := He.meth_ok (c.t.d.fact 58 (f := .meth "Fewest" "shows") (by rfl))
    na_Fewest_cuts := He.noat_ok (c.t.d.fact 59 (f := .noat "Fewest" "cuts") (by rfl))
    na_Fewest_stretches := He.noat_ok (c.t.d.fact 60 (f := .noat "Fewest" "stretches") (by rfl))
    cls_Great := He.cls_ok (c.t.d.fact 61 (f := .cls "Great") (by rfl))
    mk_Great := He.mkr_ok (c.t.d.fact 62 (f := .mkr "Great") (by rfl))
    mt_Great_shows := He.meth_ok (c.t.d.fact 63 (f := .meth "Great" "shows") (by rfl))
    na_Great_place := He.noat_ok (c.t.d.fact 64 (f := .noat "Great" "place") (by rfl))
    cls_Least := He.cls_ok (c.t.d.fact 65 (f := .cls "Least") (by rfl))
    mk_Least := He.mkr_ok (c.t.d.fact 66 (f := .mkr "Least") (by rfl))
    mt_Least_shows := He.meth_ok (c.t.d.fact 67 (f := .meth "Least" "shows") (by rfl))
    na_Least_cuts := He.noat_ok (c.t.d.fact 68 (f := .noat "Least" "cuts") (by rfl))
    na_Least_number := He.noat_ok (c.t.d.fact 69 (f := .noat "Least" "number") (by rfl))
    na_Least_stretches := He.noat_ok (c.t.d.fact 70 (f := .noat "Least" "stretches") (by rfl))
    cls_Most := He.cls_ok (c.t.d.fact 71 (f := .cls "Most") (by rfl))
    mk_Most := He.mkr_ok (c.t.d.fact 72 (f := .mkr "Most") (by rfl))
    mt_Most_shows := He.meth_ok (c.t.d.fact 73 (f := .meth "Most" "shows") (by rfl))
    na_Most_cuts := He.noat_ok (c.t.d.fact 74 (f := .noat "Most" "cuts") (by rfl))
    na_Most_places := He.noat_ok (c.t.d.fact 75 (f := .noat "Most" "places") (by rfl))
    o_sp := of_decide_eq_true x_o_sp
    o_tk := of_decide_eq_true x_o_tk
    oc_Fewest := of_decide_eq_true x_oc_Fewest
    om_Fewest := of_decide_eq_true x_om_Fewest
    ki_Fewest_Answer := of_decide_eq_true x_ki_Fewest_Answer
    ki_Fewest_Fewest := of_decide_eq_true x_ki_Fewest_Fewest
    ki_Fewest_Great := of_decide_eq_true x_ki_Fewest_Great
    ki_Fewest_Least := of_decide_eq_true x_ki_Fewest_Least
    ki_Fewest_Most := of_decide_eq_true x_ki_Fewest_Most
    oc_Great := of_decide_eq_true x_oc_Great
    om_Great := of_decide_eq_true x_om_Great
    ki_Great_Answer := of_decide_eq_true x_ki_Great_Answer
    ki_Great_Fewest := of_decide_eq_true x_ki_Great_Fewest
    ki_Great_Great := of_decide_eq_true x_ki_Great_Great
    ki_Great_Least := of_decide_eq_true x_ki_Great_Least
    ki_Great_Most := of_decide_eq_true x_ki_Great_Most
    oc_Least := of_decide_eq_true x_oc_Least
    om_Least := of_decide_eq_true x_om_Least
    ki_Least_Answer := of_decide_eq_true x_ki_Least_Answer
    ki_Least_Fewest := of_decide_eq_true x_ki_Least_Fewest
    ki_Least_Great := of_decide_eq_true x_ki_Least_Great
    ki_Least_Least := of_decide_eq_true x_ki_Least_Least
    ki_Least_Most := of_decide_eq_true x_ki_Least_Most
    oc_Most := of_decide_eq_true x_oc_Most
    om_Most := of_decide_eq_true x_om_Most
    ki_Most_Answer := of_decide_eq_true x_ki_Most_Answer
    ki_Most_Fewest := of_decide_eq_true x_ki_Most_Fewest
    ki_Most_Great := of_decide_eq_true x_ki_Most_Great
    ki_Most_Least := of_decide_eq_true x_ki_Most_Least
    ki_Most_Most := of_decide_eq_true x_ki_Most_Most
    sb_CutError := of_decide_eq_true x_sb_CutError
    tt_CutError := of_decide_eq_true x_tt_CutError
    hd_CutError := of_decide_eq_true x_hd_CutError
    sb_BadRow := of_decide_eq_true x_sb_BadRow
    tt_BadRow := of_decide_eq_true x_tt_BadRow
    hd_BadRow := of_decide_eq_true x_hd_BadRow
    sb_BadNumber := of_decide_eq_true x_sb_BadNumber
    tt_BadNumber := of_decide_eq_true x_tt_BadNumber
    hd_BadNumber := of_decide_eq_true x_hd_BadNumber
    sb_BadCuts := of_decide_eq_true x_sb_BadCuts
    tt_BadCuts := of_decide_eq_true x_tt_BadCuts
    hd_BadCuts := of_decide_eq_true x_hd_BadCuts
    sb_BadText := of_decide_eq_true x_sb_BadText
    tt_BadText := of_decide_eq_true x_tt_BadText
    hd_BadText := of_decide_eq_true x_hd_BadText
    xi_BadRow := of_decide_eq_true x_xi_BadRow
    kp_BadRow := of_decide_eq_true x_kp_BadRow
    cu_BadRow := of_decide_eq_true x_cu_BadRow
    hg_BadRow := of_decide_eq_true x_hg_BadRow
    hk_BadRow := of_decide_eq_true x_hk_BadRow
    ha_BadRow := of_decide_eq_true x_ha_BadRow
    hm_BadRow := of_decide_eq_true x_hm_BadRow
    kx_BadRow_BadRow := of_decide_eq_true x_kx_BadRow_BadRow
    kx_BadRow_BadNumber := of_decide_eq_true x_kx_BadRow_BadNumber
    kx_BadRow_BadCuts := of_decide_eq_true x_kx_BadRow_BadCuts
    kx_BadRow_BadText := of_decide_eq_true x_kx_BadRow_BadText
    kv_BadRow := of_decide_eq_true x_kv_BadRow
    xi_BadNumber := of_decide_eq_true x_xi_BadNumber
    kp_BadNumber := of_decide_eq_true x_kp_BadNumber
    cu_BadNumber := of_decide_eq_true x_cu_BadNumber
    hg_BadNumber := of_decide_eq_true x_hg_BadNumber
    hk_BadNumber := of_decide_eq_true x_hk_BadNumber
    ha_BadNumber := of_decide_eq_true x_ha_BadNumber
    hm_BadNumber := of_decide_eq_true x_hm_BadNumber
    kx_BadNumber_BadRow := of_decide_eq_true x_kx_BadNumber_BadRow
    kx_BadNumber_BadNumber := of_decide_eq_true x_kx_BadNumber_BadNumber
    kx_BadNumber_BadCuts := of_decide_eq_true x_kx_BadNumber_BadCuts
    kx_BadNumber_BadText := of_decide_eq_true x_kx_BadNumber_BadText
    kv_BadNumber := of_decide_eq_true x_kv_BadNumber
    xi_BadCuts := of_decide_eq_true x_xi_BadCuts
    kp_BadCuts := of_decide_eq_true x_kp_BadCuts
    cu_BadCuts := of_decide_eq_true x_cu_BadCuts
    hg_BadCuts := of_decide_eq_true x_hg_BadCuts
    hk_BadCuts := of_decide_eq_true x_hk_BadCuts
    ha_BadCuts := of_decide_eq_true x_ha_BadCuts
    hm_BadCuts := of_decide_eq_true x_hm_BadCuts
    kx_BadCuts_BadRow := of_decide_eq_true x_kx_BadCuts_BadRow
    kx_BadCuts_BadNumber := of_decide_eq_true x_kx_BadCuts_BadNumber
    kx_BadCuts_BadCuts := of_decide_eq_true x_kx_BadCuts_BadCuts
    kx_BadCuts_BadText := of_decide_eq_true x_kx_BadCuts_BadText
    kv_BadCuts := of_decide_eq_true x_kv_BadCuts
    xi_BadText := of_decide_eq_true x_xi_BadText
    kp_BadText := of_decide_eq_true x_kp_BadText
    cu_BadText := of_decide_eq_true x_cu_BadText
    hg_BadText := of_decide_eq_true x_hg_BadText
    hk_BadText := of_decide_eq_true x_hk_BadText
    ha_BadText := of_decide_eq_true x_ha_BadText
    hm_BadText := of_decide_eq_true x_hm_BadText
    kx_BadText_BadRow := of_decide_eq_true x_kx_BadText_BadRow
    kx_BadText_BadNumber := of_decide_eq_true x_kx_BadText_BadNumber
    kx_BadText_BadCuts := of_decide_eq_true x_kx_BadText_BadCuts
    kx_BadText_BadText := of_decide_eq_true x_kx_BadText_BadText
    kv_BadText := of_decide_eq_true x_kv_BadText
  }
set_option maxHeartbeats 4000000
end Ct
namespace Ct
open PySem PySem.Spec PyProof.Rows L2 Evl
open He (ga ma)
theorem facts {P : Program} {w : World} {K : PySem.W.Frag} {h h0 : Heap} {mg : Str → Option Value} {f : Addr} (X : K.In h) (G : h.Ns mainGlobals mg) (hfa : mg ("law" : Str) = some (.ref f)) (c : He.SaysX fa fn [] [] ex w h0 K) :
    ∃ fd : FuncData, (∀ (s : Shared) (v : Value), BindsTo s fd ⟨[v], []⟩ [("_law_script", v)]) ∧ ∀ base : Heap, K.In base → base.Ns mainGlobals mg → FnOk P w K mg base CX0 8 f fd ["_law_script"] (sp_law K) := by
  have T := tx_of X G c
  have e := hfa.symm.trans T.g_law
  cases e
  obtain ⟨fd, F⟩ := T.d_law
  have b := FunD.bindsA (ps := ["_law_script"]) F fun _ _ _ _ _ _ us hl => match us, hl with | [_], _ => rfl
  exact ⟨fd, fun s v => b s [v] rfl, fun base _ _ => ok_law T F⟩
end Ct
open PySem PySem.W PySem.Calls PyProof.Rows
set_option maxHeartbeats 0
theorem PySem.Challenge.cw_cutrow_k07_refused_holds : PySem.Challenge.rw_cutrow_k07_refused.Holds := by
  w_on; o_law
  refine HandSHeadRun.head_any (r := OpenLaw.row PySem.Challenge.rw_cutrow_k07_refused) (q := view (OpenLaw.row PySem.Challenge.rw_cutrow_k07_refused).prog [46]) (H := Ct.hk) (ob := Ct.ob) (M := 4000) (loose := Ct.loose) (d := HandSHeadRun.topDef (OpenLaw.row PySem.Challenge.rw_cutrow_k07_refused).prog 46) (kwd := []) Ct.ob_eq
    (by kernel_rfl) (fun s => by kernel_rfl) Ct.run (by kernel_rfl) (by kernel_rfl) (by kernel_rfl) (by rfl) (by first | assumption | decide +kernel) (by decide +kernel) ⟨rfl, rfl, rfl, rfl, rfl, by decide +kernel⟩ ?hw ?hc
  case hw => w_witness2
  case hc =>
    refine L2.walk_ofE (l := PySem.Challenge.rw_cutrow_k07_refused) (n := 63) (k := 8) (x := "_law_script") (CX := L2.CX0) rfl (by decide) (by kernel_rfl) ⟨rfl, by decide, by decide⟩ ?F (fun _ _ _ _ z => z)
    intro w mg fa h Y G hmg0
    obtain ⟨K, KX, c⟩ := Y
    have hmg : mg ("law" : PySem.Str) = some (.ref fa) := by
      have e : (HandSHeadRun.topDef (OpenLaw.row PySem.Challenge.rw_cutrow_k07_refused).prog 46).name = ("law" : PySem.Str) := by kernel_rfl
      rw [← e]
      exact hmg0
    obtain ⟨fd, hb, hF⟩ := Ct.facts (P := (PySem.Challenge.rw_cutrow_k07_refused).prog) (w := w) KX G hmg c
    exact ⟨K, fd, Ct.sp_law K, KX, hb, fun H a ns hl _ hS => ⟨a, ns, rfl, hS, hl, fun _ => rfl⟩, hF⟩

