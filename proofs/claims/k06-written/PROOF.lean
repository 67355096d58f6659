import PyProof.Rows.All
import Wide.All
import OpenK.AllK
import Wide.FinOn
import KE.KStateDown
import HandS.ForMost
import HandS.ForExc
import HandS.Style
import HandS.IsInst
import HandS.Wide
import HandS.Evl
import HandS.More
import HandS.Conv
import HandS.Defaults
import HandS.Head0
import HandS.Head1
import HandS.Head2
import HandS.HeadEnd
import HandS.HeadHook1
import HandS.HeadHook2
import HandS.HeadHook3
import HandS.HeadHook4
import HandS.EndBits
import HandS.ExcCtx
import HandS.ExcIs
import HandS.HotCalls
import HandS.ExcInitHot
import HandS.CallLocal
import HandS.StrMore
import HandS.Codes
import PySem.Challenge.RW_cutrow_k06_written
set_option Elab.async false
set_option linter.all false
set_option maxRecDepth 100000
set_option maxHeartbeats 4000000
namespace Ct
open PySem PySem.Spec PyProof.Rows L2 Evl
theorem l1 : 1 ≤ 100000 := by decide
theorem l2 : 2 ≤ 100000 := by decide
theorem n1 : 1 ≤ sizeLine := by decide
theorem n2 : 2 ≤ sizeLine := by decide
theorem n3 : 3 ≤ sizeLine := by decide
theorem n4 : 4 ≤ sizeLine := by decide
/-! ### built-ins by name -/
theorem bo_len : bootBuiltins "len" = some (.builtin "len") := by decide +kernel
theorem bo_sum : bootBuiltins "sum" = some (.builtin "sum") := by decide +kernel
theorem bo_max : bootBuiltins "max" = some (.builtin "max") := by decide +kernel
theorem bo_min : bootBuiltins "min" = some (.builtin "min") := by decide +kernel
theorem bo_abs : bootBuiltins "abs" = some (.builtin "abs") := by decide +kernel
theorem bo_all : bootBuiltins "all" = some (.builtin "all") := by decide +kernel
theorem bo_any : bootBuiltins "any" = some (.builtin "any") := by decide +kernel
theorem bo_isinstance : bootBuiltins "isinstance" = some (.builtin "isinstance") := by decide +kernel
theorem bo_list : bootBuiltins "list" = some (.type "list") := by decide +kernel
theorem bo_int : bootBuiltins "int" = some (.type "int") := by decide +kernel
theorem bo_str : bootBuiltins "str" = some (.type "str") := by decide +kernel
theorem bo_bool : bootBuiltins "bool" = some (.type "bool") := by decide +kernel
theorem bo_tuple : bootBuiltins "tuple" = some (.type "tuple") := by decide +kernel
/-! ### three comparisons in a chain -/
def tChain3 (r1 r2 r3 : R2) (ta tb tc td : TE) : TT := fun σ H Q => ta σ H fun x H1 => tb σ H1 fun y H2 => r1 x y H2 fun z H3 => ∃ k, z = .bl k ∧
  (if k = true then tc σ H3 fun w H4 => r2 y w H4 fun z2 H5 => ∃ k2, z2 = .bl k2 ∧ (if k2 = true then td σ H5 fun u H6 => r3 w u H6 fun z3 H7 => ∃ k3, z3 = .bl k3 ∧ Q k3 H7 else Q false H5) else Q false H3)
section
variable {X : Cx} {a b c d : Expr} {ta tb tc td : TE} {pos : Pos}
theorem pt_chain3 {o1 o2 o3 : CmpOp} {r1 r2 r3 : R2} (h1 : OpR X (compareOp o1) r1) (h2 : OpR X (compareOp o2) r2) (h3 : OpR X (compareOp o3) r3) (ha : PE X a ta) (hb : PE X b tb) (hc : PE X c tc) (hd : PE X d td)
    (hm : lastMarks [o1, o2, o3] [b, c, d] = false := by with_unfolding_all rfl) : PT X (.Compare a [o1, o2, o3] [b, c, d] pos) (tChain3 r1 r2 r3 ta tb tc td) := by
  refine ⟨fun pins s σ H Q I h => ?_⟩
  refine isTrue_chain (thn (ha.run pins s σ H _ I h) fun v s1 ⟨x, H1, I1, q1, w1⟩ => test_link (thn (hb.run pins s1 σ H1 _ I1 w1) fun u s2 ⟨y, H2, I2, q2, w2⟩ =>
    thn (h1 pins s2 σ H2 x y v u _ I2 q1 q2 w2) fun e s3 ⟨z, H3, I3, q3, k, e3, w3⟩ => ?_)) hm
  subst e3
  cases q3
  refine wpAny_truthy_bool ?_
  cases k with
  | false => exact ite_ff ⟨H3, I3, w3⟩
  | true =>
    refine ite_tt (test_link (thn (hc.run pins s3 σ H3 _ I3 w3) fun u4 s4 ⟨w', H4, I4, q4, w4⟩ =>
      thn (h2 pins s4 σ H4 y w' u u4 _ I4 q2 q4 w4) fun e5 s5 ⟨z2, H5, I5, q5, k2, e6, w5⟩ => ?_))
    subst e6
    cases q5
    refine wpAny_truthy_bool ?_
    cases k2 with
    | false => exact ite_ff ⟨H5, I5, w5⟩
    | true =>
      refine ite_tt (test_last (thn (hd.run pins s5 σ H5 _ I5 w5) fun u6 s6 ⟨w6, H6, I6, q6, w6'⟩ => thn (h3 pins s6 σ H6 w' w6 u4 u6 _ I6 q4 q6 w6') fun e7 s7 ⟨z3, H7, I7, q7, k3, e8, w7⟩ => ?_))
      subst e8
      cases q7
      exact wpAny_truthy_bool ⟨H7, I7, w7⟩
end
/-! ### a def as it is known, by its name -/
section
variable (P : Program) (w : World) (K : PySem.W.Frag) (mg : Str → Option Value) (base : Heap)
structure Kept (CX : CXT) (k : Nat) (x : Str) (ps : List Str) (sp : Sp) : Prop where
  fn : ∃ fd, FnOk P w K mg base CX k (He.ga K x) fd ps sp ∧ Binds K fd ps []
  g : mg x = some (.ref (He.ga K x))
  kp : PySem.W.keepIn K (.ref (He.ga K x)) = true
structure KeptM (CX : CXT) (k : Nat) (c m : Str) (ps : List Str) (sp : Sp) : Prop where
  fn : ∃ fd, FnOk P w K mg base CX k (He.ma K (He.ga K c) m) fd ps sp ∧ Binds K fd ps []
  kp : PySem.W.keepIn K (.ref (He.ma K (He.ga K c) m)) = true
end
section
variable {P : Program} {w : World} {K : PySem.W.Frag} {mg : Str → Option Value} {base : Heap}
theorem Kept.mk' {CX : CXT} {k : Nat} {x : Str} {ps : List Str} {sp : Sp} (fd : FuncData) (F : FnOk P w K mg base CX k (He.ga K x) fd ps sp) (b : Binds K fd ps []) (g : mg x = some (.ref (He.ga K x))) (kp : PySem.W.keepIn K (.ref (He.ga K x)) = true) : Kept P w K mg base CX k x ps sp := ⟨⟨fd, F, b⟩, g, kp⟩
end
section
variable {X : Cx} {k j : Nat} {x c m : Str} {ps : List Str} {sp : Sp} {p pos apos : Pos} {e o : Expr} {es : List Expr} {ta : TE} {t : TA}
theorem pe_d (D : Kept X.prog X.w X.K X.mg X.base CX0 k x ps sp) (hr : Room k X.A) (hg : Gl X x) (ha : PA X (e :: es) t) (hdb : (x == ("__debug__" : Str)) = false := by decide)
    (he : starEach (e :: es) X.env = (false, eval e X.env) :: starEach es X.env := by rfl) (hpl : (backTo pos (starEach es X.env)).any (·.1) = false := by rfl) : PE X (.Call (.Name x p) (e :: es) [] pos) (tCall sp [] E0 t) := by
  obtain ⟨fd, F, b⟩ := D.fn
  exact pe_call F hr hg D.g D.kp b .nil pass0 ha hdb he hpl
theorem pe_d0 (D : Kept X.prog X.w X.K X.mg X.base CX0 k x ps sp) (hr : Room k X.A) (hg : Gl X x) (hdb : (x == ("__debug__" : Str)) = false := by decide) : PE X (.Call (.Name x p) [] [] pos) (tCall sp [] E0 tNil) := by
  obtain ⟨fd, F, b⟩ := D.fn
  exact pe_call0 F hr hg D.g D.kp b .nil pass0 hdb
theorem pe_mk (M : Mk X.K (He.ga X.K c) (He.ma X.K (He.ga X.K c) "__init__")) (D : KeptM X.prog X.w X.K X.mg X.base CX0 k c "__init__" ps sp) (hr : Room (k + 1) X.A) (hg : Gl X c) (g : X.mg c = some (.ref (He.ga X.K c))) (ha : PA X (e :: es) t)
    (hdb : (c == ("__debug__" : Str)) = false := by decide) (he : starEach (e :: es) X.env = (false, eval e X.env) :: starEach es X.env := by rfl) (hpl : (backTo pos (starEach es X.env)).any (·.1) = false := by rfl) : PE X (.Call (.Name c p) (e :: es) [] pos) (tMake (He.ga X.K c) sp [] E0 t) := by
  obtain ⟨fd, F, b⟩ := D.fn
  exact pe_make M F hr hg g b .nil pass0 ha hdb he hpl
theorem pe_mt {pl : Sem Bool} (ho : PE X o ta) (cl : Cls X.K (He.ga X.K c)) (hm : Meth X.K (He.ga X.K c) m (He.ma X.K (He.ga X.K c) m)) (D : KeptM X.prog X.w X.K X.mg X.base CX0 k c m ps sp) (hr : Room k X.A) (ha : PA X (e :: es) t)
    (hst : starEach (e :: es) X.env = (false, eval e X.env) :: starEach es X.env := by rfl) (hpl : (backTo pos (starEach es X.env)).any (·.1) = false := by rfl)
    (ht : eval (.Call (.Attribute o m apos) (e :: es) [] pos) X.env = (do
      let ov ← eval o X.env
      standAt apos.atName
      let (f, first) ← holding [ov] (getMethod ov m pl)
      callWith pos f first (backTo pos (starEach (e :: es) X.env)) (backToKw pos (keywordEach [] X.env))) := by rfl) :
    PE X (.Call (.Attribute o m apos) (e :: es) [] pos) (tMeth (He.ga X.K c) m sp [] E0 ta t) := by
  obtain ⟨fd, F, b⟩ := D.fn
  exact pe_meth ho cl hm F hr b .nil pass0 ha hst hpl ht
end
/-! ### rules that speak of K, K told -/
section
variable {X : Cx} {K : PySem.W.Frag} {tg : Expr}
theorem ix_listK (h : X.K = K) : IxR X (rIxL K) := by subst h; exact ix_list
theorem ix_tupK (h : X.K = K) : IxR X (rIxT K) := by subst h; exact ix_tup
theorem sl_listK (h : X.K = K) : SlR X (rSlL K) := by subst h; exact sl_list
theorem call_len_seqK (h : X.K = K) : CallR X (.builtin "len") (fun xs H Q => ∃ p ys, xs = [.ref p] ∧ (SqL K H p ys ∨ SqT K H p ys) ∧ Q (.int ys.length) H) := by subst h; exact call_len_seq
theorem call_list_ofK (h : X.K = K) : CallR X (.type "list") (fun xs H Q => ∃ p ys, xs = [.ref p] ∧ (SqL K H p ys ∨ SqT K H p ys) ∧ ∀ l, H l = none → Q (.ref l) (upd H l (.lst ys))) := by subst h; exact call_list_of
theorem call_isiK' (h : X.K = K) : CallR X (.builtin "isinstance") (rIsi K) := by subst h; exact call_isi
theorem op_eqDK (h : X.K = K) (hu : X.A.units + 64 < cLine) : OpR X (compareOp .Eq) (rEqD K) := by subst h; exact op_eqD hu
theorem pe_fldK {e : Expr} {f : Str} {ta : TE} {pos : Pos} (h : X.K = K) (he : PE X e ta) (hb : attributeBase e f X.env (eval e X.env) = eval e X.env) : PE X (.Attribute e f pos) (tFld K ta f) := by subst h; exact pe_fld he hb
theorem pi_listK {l : Expr} {tl : TE} (h : X.K = K) (hl : PE X l tl) : PI X tg l (iList K tl) := by subst h; exact pi_list hl
end
/-! ### promises: a value, a new list -/
abbrev VF := List V → Hp → V → Prop
abbrev LF := List V → Hp → List V → Prop
def Pv (F : VF) : Sp := fun vs H Q _ => ∃ z, F vs H z ∧ RetV z H Q
def Pl (F : LF) : Sp := fun vs H Q _ => ∃ xs, F vs H xs ∧ RetL xs H Q
def MonoV (F : VF) : Prop := ∀ vs H H1 z, Ex H H1 → F vs H z → F vs H1 z
def MonoL (F : LF) : Prop := ∀ vs H H1 z, Ex H H1 → F vs H z → F vs H1 z
section
variable {K : PySem.W.Frag} {σ : L2.St} {H H' : Hp} {ta tb tc td te tx : TE} {t u : TT} {x y z v : V} {r r' r2 r3 : R2} {vs : List V} {ar : TA}
theorem ev_callV {F : VF} (m : MonoV F) (h : EvA ar σ H vs) (f : F vs H z) : Ev (tCall (Pv F) [] E0 ar) σ H z :=
  ev_call h fun H1 e Q q E => ⟨z, by rw [List.append_nil]; exact m _ _ _ _ e f, fun H2 e2 => q H2 e2⟩
theorem el_callL {F : LF} {xs : List V} (m : MonoL F) (h : EvA ar σ H vs) (f : F vs H xs) : EvL (tCall (Pl F) [] E0 ar) σ H xs :=
  el_call h fun H1 e Q q E => ⟨xs, by rw [List.append_nil]; exact m _ _ _ _ e f, fun p H2 hp e2 h2 => q p H2 hp e2 h2⟩
/-! ### comparisons in a chain -/
theorem ev_ch {p q : Bool} (ha : Ev ta σ H x) (hb : Ev tb σ H y) (hr : RV r x y H (.bl p)) (hc : p = true → Ev tc σ H z) (hr2 : p = true → RV r' y z H (.bl q)) : Ev (tChain r r' ta tb tc) σ H (.bl (p && q)) := fun H1 e Q k =>
  ha H1 e _ fun H2 e2 => hb H2 (e.trans e2) _ fun H3 e3 => hr H3 ((e.trans e2).trans e3) _ fun H4 e4 => ⟨p, rfl, by
    cases p with
    | true =>
      show tc σ H4 _
      exact hc rfl H4 (((e.trans e2).trans e3).trans e4) _ fun H5 e5 => hr2 rfl H5 ((((e.trans e2).trans e3).trans e4).trans e5) Q fun H6 e6 => k H6 ((((e2.trans e3).trans e4).trans e5).trans e6)
    | false =>
      show Q (.bl false) H4
      exact k H4 ((e2.trans e3).trans e4)⟩
theorem et_ch {p q : Bool} (ha : Ev ta σ H x) (hb : Ev tb σ H y) (hr : RV r x y H (.bl p)) (hc : p = true → Ev tc σ H z) (hr2 : p = true → RV r' y z H (.bl q)) : EvT (tTest (tChain r r' ta tb tc)) σ H (p && q) := et_test (ev_ch ha hb hr hc hr2)
theorem et_ch3 {w : V} {p q s : Bool} (ha : Ev ta σ H x) (hb : Ev tb σ H y) (hr : RV r x y H (.bl p)) (hc : p = true → Ev tc σ H z) (hr2 : p = true → RV r' y z H (.bl q)) (hd : p = true → q = true → Ev td σ H w) (hr3 : p = true → q = true → RV r3 z w H (.bl s)) :
    EvT (tChain3 r r' r3 ta tb tc td) σ H (p && (q && s)) := fun H1 e Q k =>
  ha H1 e _ fun H2 e2 => hb H2 (e.trans e2) _ fun H3 e3 => hr H3 ((e.trans e2).trans e3) _ fun H4 e4 => ⟨p, rfl, by
    cases p with
    | false =>
      show Q false H4
      exact k H4 ((e2.trans e3).trans e4)
    | true =>
      show tc σ H4 _
      refine hc rfl H4 (((e.trans e2).trans e3).trans e4) _ fun H5 e5 => hr2 rfl H5 ((((e.trans e2).trans e3).trans e4).trans e5) _ fun H6 e6 => ⟨q, rfl, ?_⟩
      cases q with
      | false =>
        show Q false H6
        exact k H6 ((((e2.trans e3).trans e4).trans e5).trans e6)
      | true =>
        show td σ H6 _
        exact hd rfl rfl H6 (((((e.trans e2).trans e3).trans e4).trans e5).trans e6) _ fun H7 e7 => hr3 rfl rfl H7 ((((((e.trans e2).trans e3).trans e4).trans e5).trans e6).trans e7) _ fun H8 e8 => ⟨s, rfl, k H8 ((((((e2.trans e3).trans e4).trans e5).trans e6).trans e7).trans e8)⟩⟩
/-! ### fields, methods -/
theorem ev_fld {a C dx : Addr} {fs : List (Str × V)} {f : Str} (h : Ev ta σ H (.ref a)) (ho : H a = some (.ins C dx fs)) (c : Cls K C) (n : NoAttr K C f) (l : fs.lookup f = some v) : Ev (tFld K ta f) σ H v := fun H1 e Q q =>
  h H1 e _ fun H2 e2 => ⟨a, C, dx, fs, v, rfl, (e.trans e2) a _ ho, c, n, l, q H2 e2⟩
theorem ev_meth {a C dx : Addr} {fs : List (Str × V)} {m : Str} {sp : Sp} (h : Ev ta σ H (.ref a)) (ho : H a = some (.ins C dx fs)) (l : fs.lookup m = none) (hv : EvA ar σ H vs) (hs : SpV sp (.ref a :: vs) H z) : Ev (tMeth C m sp [] E0 ta ar) σ H z := fun H1 e Q q =>
  h H1 e _ fun H2 e2 => ⟨a, dx, fs, rfl, (e.trans e2) a _ ho, l, hv H2 (e.trans e2) _ fun H3 e3 => by
    rw [List.append_nil]
    exact hs H3 ((e.trans e2).trans e3) Q (fun H4 e4 => q H4 ((e2.trans e3).trans e4)) E0⟩
theorem ev_methV {a C dx : Addr} {fs : List (Str × V)} {m : Str} {F : VF} (mo : MonoV F) (h : Ev ta σ H (.ref a)) (ho : H a = some (.ins C dx fs)) (l : fs.lookup m = none) (hv : EvA ar σ H vs) (f : F (.ref a :: vs) H z) : Ev (tMeth C m (Pv F) [] E0 ta ar) σ H z :=
  ev_meth h ho l hv fun H1 e Q q E => ⟨z, mo _ _ _ _ e f, fun H2 e2 => q H2 e2⟩
/-! ### built-in calls -/
theorem ex_q {a : Addr} {xs : List V} (e : Ex H H') (h : SqL K H a xs ∨ SqT K H a xs) : SqL K H' a xs ∨ SqT K H' a xs := h.elim (fun h => .inl (ex_l e h)) fun h => .inr (ex_t e h)
theorem ev_ln {p : Addr} {xs : List V} (ha : Ev ta σ H (.ref p)) (h : SqL K H p xs ∨ SqT K H p xs) : Ev (tCB (fun xs H Q => ∃ p ys, xs = [.ref p] ∧ (SqL K H p ys ∨ SqT K H p ys) ∧ Q (.int ys.length) H) (tCons ta tNil)) σ H (.int (xs.length : Int)) := fun H1 e Q q =>
  ha H1 e _ fun H2 e2 => ⟨p, xs, rfl, ex_q (e.trans e2) h, q H2 e2⟩
theorem el_ls {p : Addr} {xs : List V} (ha : Ev ta σ H (.ref p)) (h : SqL K H p xs ∨ SqT K H p xs) : EvL (tCB (fun xs H Q => ∃ p ys, xs = [.ref p] ∧ (SqL K H p ys ∨ SqT K H p ys) ∧ ∀ l, H l = none → Q (.ref l) (upd H l (.lst ys))) (tCons ta tNil)) σ H xs := fun H1 e Q q =>
  ha H1 e _ fun H2 e2 => ⟨p, xs, rfl, ex_q (e.trans e2) h, fun l hl => q l _ (fresh_back e2 hl) (e2.trans (Ex.new hl)) upd_same⟩
theorem ev_sum {p : Addr} {ns : List Int} (ha : Ev ta σ H (.ref p)) (h : SqL K H p (ns.map V.int)) : Ev (tCB (rSum K) (tCons ta tNil)) σ H (.int ns.sum) := fun H1 e Q q =>
  ha H1 e _ fun H2 e2 => ⟨p, ns, rfl, ex_l (e.trans e2) h, q H2 e2⟩
theorem ev_sumN {ns : List Int} (ha : EvL ta σ H (ns.map V.int)) : Ev (tCB (rSum K) (tCons ta tNil)) σ H (.int ns.sum) := fun H1 e Q q =>
  ha H1 e _ fun p H2 _ e2 h2 => ⟨p, ns, rfl, sq_of h2, q H2 e2⟩
theorem ev_allN {bs : List Bool} (ha : EvL ta σ H (bs.map V.bl)) : Ev (tCB (rAll K) (tCons ta tNil)) σ H (.bl (bs.all id)) := fun H1 e Q q =>
  ha H1 e _ fun p H2 _ e2 h2 => ⟨p, bs, rfl, sq_of h2, q H2 e2⟩
theorem ev_anyN {bs : List Bool} (ha : EvL ta σ H (bs.map V.bl)) : Ev (tCB (rAny K) (tCons ta tNil)) σ H (.bl (bs.any id)) := fun H1 e Q q =>
  ha H1 e _ fun p H2 _ e2 h2 => ⟨p, bs, rfl, sq_of h2, q H2 e2⟩
/-- the greatest, the least of a list -/
def mxL : List Int → Int
  | [] => 0
  | [a] => a
  | a :: r => max a (mxL r)
def mnL : List Int → Int
  | [] => 0
  | [a] => a
  | a :: r => min a (mnL r)
theorem mxL_cons (a b : Int) (r : List Int) : mxL (a :: b :: r) = max a (mxL (b :: r)) := rfl
theorem mnL_cons (a b : Int) (r : List Int) : mnL (a :: b :: r) = min a (mnL (b :: r)) := rfl
theorem mxL_ge : ∀ {ns : List Int} {y : Int}, y ∈ ns → y ≤ mxL ns
  | [a], y, h => by
    have e := List.mem_singleton.mp h
    subst e
    exact Int.le_refl _
  | a :: b :: r, y, h => by
    rw [mxL_cons]
    rcases List.mem_cons.mp h with e | h
    · subst e
      omega
    · have := mxL_ge (ns := b :: r) h
      omega
theorem mxL_mem : ∀ {ns : List Int}, 0 < ns.length → mxL ns ∈ ns
  | [a], _ => List.mem_singleton.mpr rfl
  | a :: b :: r, _ => by
    rw [mxL_cons]
    have h := mxL_mem (ns := b :: r) (by simp)
    by_cases c : a ≤ mxL (b :: r)
    · rw [show max a (mxL (b :: r)) = mxL (b :: r) by omega]
      exact List.mem_cons_of_mem _ h
    · rw [show max a (mxL (b :: r)) = a by omega]
      exact List.mem_cons_self
theorem mxL_eq {ns : List Int} {m : Int} (h : m ∈ ns) (hm : ∀ y, y ∈ ns → y ≤ m) : m = mxL ns := by
  have h0 : 0 < ns.length := List.length_pos_of_mem h
  have h1 := hm _ (mxL_mem h0)
  have h2 := mxL_ge h
  omega
theorem mnL_le : ∀ {ns : List Int} {y : Int}, y ∈ ns → mnL ns ≤ y
  | [a], y, h => by
    have e := List.mem_singleton.mp h
    subst e
    exact Int.le_refl _
  | a :: b :: r, y, h => by
    rw [mnL_cons]
    rcases List.mem_cons.mp h with e | h
    · subst e
      omega
    · have := mnL_le (ns := b :: r) h
      omega
theorem mnL_mem : ∀ {ns : List Int}, 0 < ns.length → mnL ns ∈ ns
  | [a], _ => List.mem_singleton.mpr rfl
  | a :: b :: r, _ => by
    rw [mnL_cons]
    have h := mnL_mem (ns := b :: r) (by simp)
    by_cases c : mnL (b :: r) ≤ a
    · rw [show min a (mnL (b :: r)) = mnL (b :: r) by omega]
      exact List.mem_cons_of_mem _ h
    · rw [show min a (mnL (b :: r)) = a by omega]
      exact List.mem_cons_self
theorem mnL_eq {ns : List Int} {m : Int} (h : m ∈ ns) (hm : ∀ y, y ∈ ns → m ≤ y) : m = mnL ns := by
  have h0 : 0 < ns.length := List.length_pos_of_mem h
  have h1 := hm _ (mnL_mem h0)
  have h2 := mnL_le h
  omega
theorem ev_max {p : Addr} {ns : List Int} (ha : Ev ta σ H (.ref p)) (h : SqL K H p (ns.map V.int)) (h0 : 0 < ns.length) : Ev (tCB (rMax K) (tCons ta tNil)) σ H (.int (mxL ns)) := fun H1 e Q q =>
  ha H1 e _ fun H2 e2 => ⟨p, ns, rfl, ex_l (e.trans e2) h, h0, fun m hm hy => by rw [mxL_eq hm hy]; exact q H2 e2⟩
theorem ev_maxN {ns : List Int} (ha : EvL ta σ H (ns.map V.int)) (h0 : 0 < ns.length) : Ev (tCB (rMax K) (tCons ta tNil)) σ H (.int (mxL ns)) := fun H1 e Q q =>
  ha H1 e _ fun p H2 _ e2 h2 => ⟨p, ns, rfl, sq_of h2, h0, fun m hm hy => by rw [mxL_eq hm hy]; exact q H2 e2⟩
theorem ev_min {p : Addr} {ns : List Int} (ha : Ev ta σ H (.ref p)) (h : SqL K H p (ns.map V.int)) (h0 : 0 < ns.length) : Ev (tCB (rMin K) (tCons ta tNil)) σ H (.int (mnL ns)) := fun H1 e Q q =>
  ha H1 e _ fun H2 e2 => ⟨p, ns, rfl, ex_l (e.trans e2) h, h0, fun m hm hy => by rw [mnL_eq hm hy]; exact q H2 e2⟩
theorem ev_minN {ns : List Int} (ha : EvL ta σ H (ns.map V.int)) (h0 : 0 < ns.length) : Ev (tCB (rMin K) (tCons ta tNil)) σ H (.int (mnL ns)) := fun H1 e Q q =>
  ha H1 e _ fun p H2 _ e2 h2 => ⟨p, ns, rfl, sq_of h2, h0, fun m hm hy => by rw [mnL_eq hm hy]; exact q H2 e2⟩
theorem ev_abs {i : Int} (ha : Ev ta σ H (.int i)) : Ev (tCB (fun xs H Q => ∃ i, xs = [.int i] ∧ Q (.int (if i < 0 then -i else i)) H) (tCons ta tNil)) σ H (.int (if i < 0 then -i else i)) := fun H1 e Q q =>
  ha H1 e _ fun H2 e2 => ⟨i, rfl, q H2 e2⟩
theorem ev_mx2 {i j : Int} (ha : Ev ta σ H (.int i)) (hb : Ev tb σ H (.int j)) : Ev (tCB (fun xs H Q => ∃ i j, xs = [.int i, .int j] ∧ Q (.int (if j > i then j else i)) H) (tCons ta (tCons tb tNil))) σ H (.int (if j > i then j else i)) := fun H1 e Q q =>
  ha H1 e _ fun H2 e2 => hb H2 (e.trans e2) _ fun H3 e3 => ⟨i, j, rfl, q H3 (e2.trans e3)⟩
/-! ### isinstance -/
theorem tyx_ex {w : Value} (e : Ex H H') (h : TyX K H x w) : TyX K H' x w := by
  cases h with
  | base b =>
    refine .base ?_
    cases b with
    | non => exact .non
    | bl y => exact .bl y
    | int i => exact .int i
    | str y => exact .str y
    | flt y => exact .flt y
    | lst ea => exact .lst (e _ _ ea)
    | frz ea => exact .frz (e _ _ ea)
    | tup ea => exact .tup (e _ _ ea)
    | dK ea => exact .dK (e _ _ ea)
    | dT ea => exact .dT (e _ _ ea)
    | ins ea cl h1 h2 h3 h4 => exact .ins (e _ _ ea) cl h1 h2 h3 h4
  | byt y => exact .byt y
  | set ea => exact .set (e _ _ ea)
  | kList a b => exact .kList a b
  | kTuple a b => exact .kTuple a b
  | kDict a b => exact .kDict a b
  | fTuple ea => exact .fTuple (e _ _ ea)
  | fDict ea => exact .fDict (e _ _ ea)
theorem ev_isi {c : V} {w cu : Value} {b : Bool} (ha : Ev ta σ H x) (hb : Ev tb σ H c) (hc : ClsV c cu) (ht : TyX K H x w) (hk : PySem.W.kitOne K w cu = some b) : Ev (tCB (rIsi K) (tCons ta (tCons tb tNil))) σ H (.bl b) := fun H1 e Q q =>
  ha H1 e _ fun H2 e2 => hb H2 (e.trans e2) _ fun H3 e3 => ⟨x, c, w, cu, b, rfl, hc, tyx_ex ((e.trans e2).trans e3) ht, hk, q H3 (e2.trans e3)⟩
/-- a built-in class -/
theorem ev_isT {n m : String} {b : Bool} (ha : Ev ta σ H x) (ht : TyX K H x (.type n)) (hk : kitB n m = some b) : Ev (tCB (rIsi K) (tCons ta (tCons (tC (.ty m)) tNil))) σ H (.bl b) := ev_isi ha ev_c (.ty m) ht (kit_ty hk)
theorem tx_lst {a : Addr} {xs : List V} (h : H a = some (.lst xs)) : TyX K H (.ref a) (.type "list") := .base (.lst h)
theorem tx_tup {a : Addr} {xs : List V} (h : H a = some (.tup xs)) : TyX K H (.ref a) (.type "tuple") := .base (.tup h)
theorem tx_int {i : Int} : TyX K H (.int i) (.type "int") := .base (.int i)
theorem tx_bl {b : Bool} : TyX K H (.bl b) (.type "bool") := .base (.bl b)
/-! ### comprehensions over whole lists -/
theorem given_all {n : Nat} {v : Nat → V} : given n (fun _ => true) v = (List.range n).map v := by
  unfold given
  rw [List.filter_eq_self.mpr fun _ _ => rfl]
theorem range_map_get {α β : Type} (xs : List α) (d : α) (g : α → β) : (List.range xs.length).map (fun i => g (xs.getD i d)) = xs.map g := by
  apply List.ext_getElem?
  intro i
  rw [List.getElem?_map, List.getElem?_map]
  by_cases h : i < xs.length
  · rw [List.getElem?_range h, List.getElem?_eq_getElem h]
    simp [List.getD, h]
  · rw [List.getElem?_eq_none (by simpa using h), List.getElem?_eq_none (by simpa using h)]
    rfl
theorem et_yes : EvT tYes σ H true := fun H1 _ _ q => q H1 (Ex.refl H1)
theorem el_map {a : Addr} {xs : List V} {tl : TE} {j : Nat} {ws : List Nat} (g : V → V) (h : Ev tl σ H (.ref a)) (hx : SqL K H a xs) (hz : xs.length ≤ 40000) (hw : ∀ x, wipe ((wipe σ ws).set j (some x)) ws = wipe σ ws)
    (he : ∀ (x : V) H1, Ex H H1 → x ∈ xs → Ev te ((wipe σ ws).set j (some x)) H1 (g x)) : EvL (tLc (iList K tl) (gName j) tYes te ws) σ H (xs.map g) := by
  have q := el_lcL (te := te) (t := tYes) (j := j) (vs := ws) (fun _ => true) (fun i => g (xs.getD i .non)) h hx hz hw (fun i x H1 e hi => et_yes) (fun i x H1 e hi _ => by
    have e2 : xs.getD i .non = x := by simp [List.getD, hi]
    rw [e2]
    exact he x H1 e (List.mem_of_getElem? hi))
  rw [given_all, range_map_get] at q
  exact q
theorem el_mapI {a : Addr} {ns : List Int} {tl : TE} {j : Nat} {ws : List Nat} (g : Int → V) (h : Ev tl σ H (.ref a)) (hx : SqL K H a (ns.map V.int)) (hz : ns.length ≤ 40000) (hw : ∀ x, wipe ((wipe σ ws).set j (some x)) ws = wipe σ ws)
    (he : ∀ (n : Int) H1, Ex H H1 → n ∈ ns → Ev te ((wipe σ ws).set j (some (.int n))) H1 (g n)) : EvL (tLc (iList K tl) (gName j) tYes te ws) σ H (ns.map g) := by
  have q := el_lcL (te := te) (t := tYes) (j := j) (vs := ws) (fun _ => true) (fun i => g (ns.getD i 0)) h hx (by rw [List.length_map]; exact hz) hw (fun i x H1 e hi => et_yes) (fun i x H1 e hi _ => by
    rw [List.getElem?_map] at hi
    cases hn : ns[i]? with
    | none => rw [hn] at hi; cases hi
    | some n =>
      rw [hn] at hi
      have e2 : x = .int n := (Option.some.inj hi).symm
      subst e2
      have e3 : ns.getD i 0 = n := by simp [List.getD, hn]
      rw [e3]
      exact he n H1 e (List.mem_of_getElem? hn))
  rw [given_all, List.length_map, range_map_get] at q
  exact q
theorem el_mapIB {a : Addr} {ns : List Int} {tl : TE} {j : Nat} {ws : List Nat} (g : Int → Bool) (h : Ev tl σ H (.ref a)) (hx : SqL K H a (ns.map V.int)) (hz : ns.length ≤ 40000) (hw : ∀ x, wipe ((wipe σ ws).set j (some x)) ws = wipe σ ws)
    (he : ∀ (n : Int) H1, Ex H H1 → n ∈ ns → Ev te ((wipe σ ws).set j (some (.int n))) H1 (.bl (g n))) : EvL (tLc (iList K tl) (gName j) tYes te ws) σ H ((ns.map g).map V.bl) := by
  have q := el_mapI (K := K) (fun n => V.bl (g n)) h hx hz hw he
  rw [List.map_map]
  exact q
theorem el_mapII {a : Addr} {ns : List Int} {tl : TE} {j : Nat} {ws : List Nat} (g : Int → Int) (h : Ev tl σ H (.ref a)) (hx : SqL K H a (ns.map V.int)) (hz : ns.length ≤ 40000) (hw : ∀ x, wipe ((wipe σ ws).set j (some x)) ws = wipe σ ws)
    (he : ∀ (n : Int) H1, Ex H H1 → n ∈ ns → Ev te ((wipe σ ws).set j (some (.int n))) H1 (.int (g n))) : EvL (tLc (iList K tl) (gName j) tYes te ws) σ H ((ns.map g).map V.int) := by
  have q := el_mapI (K := K) (fun n => V.int (g n)) h hx hz hw he
  rw [List.map_map]
  exact q
theorem el_mapB {a : Addr} {xs : List V} {tl : TE} {j : Nat} {ws : List Nat} (g : V → Bool) (h : Ev tl σ H (.ref a)) (hx : SqL K H a xs) (hz : xs.length ≤ 40000) (hw : ∀ x, wipe ((wipe σ ws).set j (some x)) ws = wipe σ ws)
    (he : ∀ (x : V) H1, Ex H H1 → x ∈ xs → Ev te ((wipe σ ws).set j (some x)) H1 (.bl (g x))) : EvL (tLc (iList K tl) (gName j) tYes te ws) σ H ((xs.map g).map V.bl) := by
  have q := el_map (K := K) (fun n => V.bl (g n)) h hx hz hw he
  rw [List.map_map]
  exact q
theorem el_mapR {ar : TA} {j : Nat} {ws : List Nat} {n : Nat} (g : Nat → V) (h : EvA ar σ H [.int (n : Int)]) (hn : n ≤ 40000) (hw : ∀ x, wipe ((wipe σ ws).set j (some x)) ws = wipe σ ws)
    (he : ∀ (i : Nat) H1, Ex H H1 → i < n → Ev te ((wipe σ ws).set j (some (.int (i : Int)))) H1 (g i)) : EvL (tLc (iRng1 ar) (gName j) tYes te ws) σ H ((List.range n).map g) := by
  have q := el_lcR1 (te := te) (t := tYes) (j := j) (vs := ws) (fun _ => true) g h (by omega) hw (fun i H1 e hi => et_yes) (fun i H1 e hi _ => he i H1 e (by omega))
  rw [given_all, Int.toNat_natCast] at q
  exact q
theorem el_mapRI {ar : TA} {j : Nat} {ws : List Nat} {n : Nat} (g : Nat → Int) (h : EvA ar σ H [.int (n : Int)]) (hn : n ≤ 40000) (hw : ∀ x, wipe ((wipe σ ws).set j (some x)) ws = wipe σ ws)
    (he : ∀ (i : Nat) H1, Ex H H1 → i < n → Ev te ((wipe σ ws).set j (some (.int (i : Int)))) H1 (.int (g i))) : EvL (tLc (iRng1 ar) (gName j) tYes te ws) σ H (((List.range n).map g).map V.int) := by
  have q := el_mapR (fun n => V.int (g n)) h hn hw he
  rw [List.map_map]
  exact q
theorem el_mapRB {ar : TA} {j : Nat} {ws : List Nat} {n : Nat} (g : Nat → Bool) (h : EvA ar σ H [.int (n : Int)]) (hn : n ≤ 40000) (hw : ∀ x, wipe ((wipe σ ws).set j (some x)) ws = wipe σ ws)
    (he : ∀ (i : Nat) H1, Ex H H1 → i < n → Ev te ((wipe σ ws).set j (some (.int (i : Int)))) H1 (.bl (g i))) : EvL (tLc (iRng1 ar) (gName j) tYes te ws) σ H (((List.range n).map g).map V.bl) := by
  have q := el_mapR (fun n => V.bl (g n)) h hn hw he
  rw [List.map_map]
  exact q
theorem el_is {xs ys : List V} (h : EvL te σ H xs) (e : xs = ys) : EvL te σ H ys := by
  rw [← e]
  exact h
/-! ### two lists joined -/
theorem el_cat {xs ys : List V} (ha : EvL ta σ H xs) (hb : EvL tb σ H ys) (hl : xs.length + ys.length ≤ 100000) : EvL (tOp rCat ta tb) σ H (xs ++ ys) := fun H1 e Q q =>
  ha H1 e _ fun p H2 hp e2 h2 => hb H2 (e.trans e2) _ fun p' H3 hp' e3 h3 => ⟨p, p', xs, ys, rfl, rfl, e3 _ _ h2, h3, sz_of hl, fun r hr => q r _ (fresh_back (e2.trans e3) hr) ((e2.trans e3).trans (Ex.new hr)) upd_same⟩
theorem el_cat1 {p : Addr} {xs ys : List V} (ha : Ev ta σ H (.ref p)) (hx : H p = some (.lst xs)) (hb : EvL tb σ H ys) (hl : xs.length + ys.length ≤ 100000) : EvL (tOp rCat ta tb) σ H (xs ++ ys) := fun H1 e Q q =>
  ha H1 e _ fun H2 e2 => hb H2 (e.trans e2) _ fun p' H3 hp' e3 h3 => ⟨p, p', xs, ys, rfl, rfl, ((e.trans e2).trans e3) _ _ hx, h3, sz_of hl, fun r hr => q r _ (fresh_back (e2.trans e3) hr) ((e2.trans e3).trans (Ex.new hr)) upd_same⟩
theorem el_cat2 {p : Addr} {xs ys : List V} (ha : EvL ta σ H xs) (hb : Ev tb σ H (.ref p)) (hx : H p = some (.lst ys)) (hl : xs.length + ys.length ≤ 100000) : EvL (tOp rCat ta tb) σ H (xs ++ ys) := fun H1 e Q q =>
  ha H1 e _ fun p' H2 hp' e2 h2 => hb H2 (e.trans e2) _ fun H3 e3 => ⟨p', p, xs, ys, rfl, rfl, e3 _ _ h2, ((e.trans e2).trans e3) _ _ hx, sz_of hl, fun r hr => q r _ (fresh_back (e2.trans e3) hr) ((e2.trans e3).trans (Ex.new hr)) upd_same⟩
theorem el_cat3 {p p' : Addr} {xs ys : List V} (ha : Ev ta σ H (.ref p)) (hx : H p = some (.lst xs)) (hb : Ev tb σ H (.ref p')) (hy : H p' = some (.lst ys)) (hl : xs.length + ys.length ≤ 100000) : EvL (tOp rCat ta tb) σ H (xs ++ ys) := fun H1 e Q q =>
  ha H1 e _ fun H2 e2 => hb H2 (e.trans e2) _ fun H3 e3 => ⟨p, p', xs, ys, rfl, rfl, ((e.trans e2).trans e3) _ _ hx, ((e.trans e2).trans e3) _ _ hy, sz_of hl, fun r hr => q r _ (fresh_back (e2.trans e3) hr) ((e2.trans e3).trans (Ex.new hr)) upd_same⟩
/-! ### an item of a list of whole numbers -/
theorem at_int {ns : List Int} {i : Nat} {n : Int} (h : ns[i]? = some n) : atI (ns.map V.int) (i : Int) = some (.int n) := atI_nat (by rw [List.getElem?_map, h]; rfl)
theorem ev_ixI {a : Addr} {ns : List Int} {i : Int} {n : Int} (ha : Ev ta σ H (.ref a)) (hl : SqL K H a (ns.map V.int)) (hb : Ev tb σ H (.int i)) (h0 : 0 ≤ i) (h : ns[i.toNat]? = some n) : Ev (tOp (rIxL K) ta tb) σ H (.int n) :=
  ev_op ha hb (rv_ixL hl (by rw [show i = ((i.toNat : Nat) : Int) by omega]; exact at_int h))
theorem ev_ixN {a : Addr} {xs : List V} {i : Int} (ha : Ev ta σ H (.ref a)) (hl : SqL K H a xs) (hb : Ev tb σ H (.int i)) (h0 : 0 ≤ i) (h : xs[i.toNat]? = some v) : Ev (tOp (rIxL K) ta tb) σ H v :=
  ev_op ha hb (rv_ixL hl (by rw [show i = ((i.toNat : Nat) : Int) by omega]; exact atI_nat h))
theorem ev_ixLast {a : Addr} {xs : List V} (ha : Ev ta σ H (.ref a)) (hl : SqL K H a (xs ++ [v])) : Ev (tOp (rIxL K) ta (tUn (rU fun i => .int (-i)) (tC (.int 1)))) σ H v := ev_op ha (ev_un ev_c ru_neg) (rv_ixL hl (atI_last xs v))
theorem int_at {ns : List Int} {i : Nat} (h : (ns.map V.int)[i]? = some x) : ∃ n, x = .int n ∧ ns[i]? = some n := by
  rw [List.getElem?_map] at h
  cases hn : ns[i]? with
  | none => rw [hn] at h; cases h
  | some n => rw [hn] at h; exact ⟨n, (Option.some.inj h).symm, rfl⟩
theorem take_snoc {α : Type} {l : List α} {i : Nat} {a : α} (h : l[i]? = some a) : l.take (i + 1) = l.take i ++ [a] := by
  rw [List.take_add_one, h]
  rfl
theorem drop_at {α : Type} {l : List α} {i : Nat} {a : α} (h : l[i]? = some a) : l.drop i = a :: l.drop (i + 1) := by
  obtain ⟨h1, h2⟩ := List.getElem?_eq_some_iff.mp h
  rw [List.drop_eq_getElem_cons h1, h2]
/-! ### loops -/
variable {D : Ends} {tu tw tz : TS}
theorem q_forEn {ar : TA} {a : Addr} {xs : List V} {p q : Nat} (h : EvA ar σ H [.ref a]) (hx : SqL K H a xs) (Pw : Nat → L2.St → Hp → Prop) (h0 : ∀ H1, Ex H H1 → Pw 0 σ H1) (hl : ∀ i σ' H', i ≤ xs.length → Pw i σ' H' → SqL K H' a xs)
    (hs : ∀ i x σ' H', xs[i]? = some x → Pw i σ' H' → ∀ H2, Ex H' H2 → tu { D with nx := Pw (i + 1), ct := Pw (i + 1), bk := tz D } ((σ'.set p (some (.int (i : Int)))).set q (some x)) H2) (hd : ∀ σ' H', Pw xs.length σ' H' → tz D σ' H') :
    tSeq (tFor (iEnum K ar) (gTup K 2 (gCons (gName p) (gCons (gName q) gNil))) tu) tz D σ H :=
  h H (Ex.refl H) _ fun H1 e => ⟨a, xs, rfl, ex_l e hx, fun i m σ H => m = xs.length - i ∧ i ≤ xs.length ∧ Pw i σ H, ⟨xs.length, by simp, Nat.zero_le _, h0 H1 e⟩, by
    rintro i m σ H ⟨rfl, hi, pw⟩
    have hq := hl i σ H hi pw
    by_cases hlt : i < xs.length
    · refine .inr ⟨⟨xs, xs[i], hq, by simp [hlt]⟩, Pw (i + 1), fun σ' H' p' => ⟨xs.length - (i + 1), by omega, rfl, hlt, p'⟩, fun x H' y => ?_⟩
      obtain ⟨T, z, rfl, hT, rfl, y⟩ := y
      refine ⟨T, _, rfl, st_of upd_same, rfl, .int (i : Int), [z], rfl, z, [], rfl, rfl, ?_⟩
      exact hs i z σ H (y xs hq) pw _ (Ex.new hT)
    · have e : i = xs.length := by omega
      subst e
      exact .inl ⟨⟨xs, hq, Nat.le_refl _⟩, hd σ H pw⟩⟩
end
/-! ### data: lists of whole numbers, of lists -/
abbrev dI (ns : List Int) : PyData := .list (ns.map PyData.int)
abbrev dP (p : Int × Int) : PyData := .tuple [.int p.1, .int p.2]
section
variable {K : PySem.W.Frag} {H : Hp}
theorem dpa_int : ∀ ns : List Int, DpAll K H (ns.map V.int) (ns.map PyData.int)
  | [] => .nil
  | n :: r => .cons (.int n) (dpa_int r)
theorem dp_int {a : Addr} {ns : List Int} (h : SqL K H a (ns.map V.int)) : Dp K H (.ref a) (dI ns) := .lst h (dpa_int ns)
theorem lay_int : ∀ ns : List Int, PyData.canLayAll0 (ns.map PyData.int) = true
  | [] => by simp [PyData.canLayAll0]
  | n :: r => by
    rw [List.map_cons, PyData.canLayAll0, lay_int r]
    simp [PyData.canLay0]
theorem dep_int : ∀ ns : List Int, PyData.depthAll (ns.map PyData.int) ≤ 1
  | [] => by simp [PyData.depthAll]
  | n :: r => by
    rw [List.map_cons, PyData.depthAll]
    have := dep_int r
    simp [PyData.depth]
    omega
theorem sh_int (ns : List Int) : SeqAt.shaped (dI ns) = true := by
  unfold SeqAt.shaped
  rw [Bool.and_eq_true]
  refine ⟨by simp only [PyData.canLay0]; exact lay_int ns, decide_eq_true ?_⟩
  have := dep_int ns
  simp only [PyData.depth]
  omega
theorem eqvA_int : ∀ ns ms : List Int, PyData.eqvAll (ns.map PyData.int) (ms.map PyData.int) = decide (ns = ms)
  | [], [] => by simp [PyData.eqvAll]
  | [], m :: ms => by simp [PyData.eqvAll]
  | n :: ns, [] => by simp [PyData.eqvAll]
  | n :: ns, m :: ms => by
    rw [List.map_cons, List.map_cons, PyData.eqvAll, eqvA_int ns ms]
    simp only [PyData.eqv]
    by_cases h : n = m
    · subst h
      by_cases h2 : ns = ms <;> simp [h2]
    · simp [h]
theorem eqv_dI (ns ms : List Int) : PyData.eqv (dI ns) (dI ms) = decide (ns = ms) := by
  simp only [PyData.eqv]
  exact eqvA_int ns ms
/-- two lists of lists of whole numbers -/
theorem sh_ints2 (as bs : List Int) : SeqAt.shaped (.list [dI as, dI bs]) = true := by
  unfold SeqAt.shaped
  rw [Bool.and_eq_true]
  refine ⟨?_, decide_eq_true ?_⟩
  · simp only [PyData.canLay0, PyData.canLayAll0, lay_int, Bool.and_self]
  · have h1 := dep_int as
    have h2 := dep_int bs
    simp only [PyData.depth, PyData.depthAll]
    omega
theorem eqv_ints2 (as bs cs ds : List Int) : PyData.eqv (.list [dI as, dI bs]) (.list [dI cs, dI ds]) = (decide (as = cs) && decide (bs = ds)) := by
  simp only [PyData.eqv, PyData.eqvAll, eqvA_int, Bool.and_true]
theorem rv_eqI {a b : Addr} {ns ms : List Int} (h1 : SqL K H a (ns.map V.int)) (h2 : SqL K H b (ms.map V.int)) : RV (rEqD K) (.ref a) (.ref b) H (.bl (decide (ns = ms))) := fun H1 e Q q =>
  ⟨dI ns, dI ms, dp_int (ex_l e h1), dp_int (ex_l e h2), sh_int ns, sh_int ms, by rw [eqv_dI]; exact q H1 (Ex.refl H1)⟩
theorem rv_neI {a b : Addr} {ns ms : List Int} (h1 : SqL K H a (ns.map V.int)) (h2 : SqL K H b (ms.map V.int)) : RV (rNeD K) (.ref a) (.ref b) H (.bl (!decide (ns = ms))) := fun H1 e Q q =>
  ⟨dI ns, dI ms, dp_int (ex_l e h1), dp_int (ex_l e h2), sh_int ns, sh_int ms, by rw [eqv_dI]; exact q H1 (Ex.refl H1)⟩
/-- x in a list of whole numbers -/
theorem inV_int (n : Int) : ∀ ns : List Int, inV (.int n) (ns.map V.int) = decide (n ∈ ns)
  | [] => by simp [inV]
  | m :: r => by
    have ih := inV_int n r
    unfold inV at ih ⊢
    rw [List.map_cons, List.any_cons, ih]
    simp only [eqV]
    by_cases h : m = n
    · subst h
      simp
    · have h2 : ¬ n = m := fun q => h q.symm
      simp [h, h2]
theorem flat_int (ns : List Int) : (ns.map V.int).all flatV = true := by
  rw [List.all_eq_true]
  intro x hx
  obtain ⟨n, _, rfl⟩ := List.mem_map.mp hx
  rfl
theorem rv_inI {p : Addr} {n : Int} {ns : List Int} (h : SqL K H p (ns.map V.int)) : RV (rIn K false) (.int n) (.ref p) H (.bl (decide (n ∈ ns))) := by
  have q := rv_isL (x := .int n) h rfl (flat_int ns)
  rw [inV_int] at q
  exact q
theorem rv_niI {p : Addr} {n : Int} {ns : List Int} (h : SqL K H p (ns.map V.int)) : RV (rIn K true) (.int n) (.ref p) H (.bl (!decide (n ∈ ns))) := by
  have q := rv_niL (x := .int n) h rfl (flat_int ns)
  rw [inV_int] at q
  exact q
/-- the first place of a number in a list -/
theorem ev_index {σ : L2.St} {ta tb : TE} {a : Addr} {ns : List Int} {n : Int} (ha : Ev ta σ H (.ref a)) (hl : SqL K H a (ns.map V.int)) (hb : Ev tb σ H (.int n)) (hm : n ∈ ns) : Ev (tBM K "list" (rIndex K) ta (tCons tb tNil)) σ H (.int ((ns.findIdx (· == n) : Nat) : Int)) := fun H1 e Q q =>
  ha H1 e _ fun H2 e2 => ⟨.inl ⟨rfl, _, ex_l (e.trans e2) hl⟩, hb H2 (e.trans e2) _ fun H3 e3 => by
    have hlt : ns.findIdx (· == n) < ns.length := List.findIdx_lt_length_of_exists ⟨n, hm, by simp⟩
    have hat : ns[ns.findIdx (· == n)]'hlt = n := by
      have := List.findIdx_getElem (p := (· == n)) (xs := ns) (w := hlt)
      simpa using this
    refine ⟨a, _, _, ns.findIdx (· == n), .int n, rfl, rfl, ex_l ((e.trans e2).trans e3) hl, rfl, flat_int ns, by rw [List.getElem?_map, List.getElem?_eq_getElem hlt, hat]; rfl, by simp [eqV], fun m z' hmj hz => ?_, q H3 (e2.trans e3)⟩
    obtain ⟨k, rfl, hk⟩ := int_at hz
    have h1 := List.not_of_lt_findIdx (p := (· == n)) (xs := ns) hmj
    obtain ⟨h2, h3⟩ := List.getElem?_eq_some_iff.mp hk
    rw [h3] at h1
    simp only [eqV]
    simpa using h1⟩
/-- xs[-1] = e -/
theorem s_setLast {σ : L2.St} {D : Ends} {te ta : TE} {l : Addr} {xs : List V} {v w : V} (hl : H l = some (.lst (xs ++ [w]))) (h : Ev te σ H v) (ho : Ev ta σ H (.ref l)) (k : ∀ H1, Ex H H1 → D.nx σ (upd H1 l (.lst (xs ++ [v])))) :
    tAsg te (gSub ta (tUn (rU fun i => .int (-i)) (tC (.int 1))) rSetL) D σ H := h H (Ex.refl H) _ fun H1 e1 => ho H1 e1 _ fun H2 e2 => ⟨1, rfl, l, xs ++ [w], -1, xs.length, rfl, rfl, (e1.trans e2) l _ hl, by
      unfold ixN
      rw [if_neg (by omega), if_pos (by rw [List.length_append, List.length_singleton]; omega), List.length_append, List.length_singleton]
      congr 1
      omega, by
    have e0 : (xs ++ [w]).set xs.length v = xs ++ [v] := by
      rw [List.set_append_right _ _ (Nat.le_refl _), Nat.sub_self]
      rfl
    rw [e0]
    exact k H2 (e1.trans e2)⟩
end
/-! ### a reading by its parts, what is behind told -/
section
variable {σ : L2.St} {H : Hp} {D : Ends} {te : TE} {g : TG} {tz : TS} {ta tr : TA} {Q : VK} {QA : List V → Hp → Prop}
theorem r_asg (h : te σ H fun x H1 => g x σ H1 (tz D)) : tSeq (tAsg te g) tz D σ H := h
theorem r_lst (h : ta σ H fun xs H1 => xs.length ≤ sizeLine ∧ ∀ p, H1 p = none → Q (.ref p) (upd H1 p (.lst xs))) : tLst ta σ H Q := h
theorem r_tup (h : ta σ H fun xs H1 => xs.length ≤ sizeLine ∧ ∀ p, H1 p = none → Q (.ref p) (upd H1 p (.tup xs))) : tTup ta σ H Q := h
theorem r_cons (h : te σ H fun x H1 => tr σ H1 fun xs H2 => QA (x :: xs) H2) : tCons te tr σ H QA := h
theorem r_nil (h : QA [] H) : tNil σ H QA := h
theorem r_ev {v : V} (h : Ev te σ H v) (k : ∀ H1, Ex H H1 → Q v H1) : te σ H Q := h H (Ex.refl H) Q k
theorem r_el {xs : List V} (h : EvL te σ H xs) (k : ∀ p H1, H p = none → Ex H H1 → H1 p = some (.lst xs) → Q (.ref p) H1) : te σ H Q := h H (Ex.refl H) Q k
end
/-! ### more of lists, calls and loops -/
section
variable {K : PySem.W.Frag} {σ : L2.St} {H : Hp} {ta tb tc te : TE} {t : TT} {u v w : V} {D : Ends} {tu tz : TS} {ar : TA} {i j l : Nat}
theorem q_par3 (h : EvA ar σ H [u, v, w]) (k : ∀ H1, Ex H H1 → tz D (((σ.set i (some u)).set j (some v)).set l (some w)) H1) : tSeq (tPar3 i j l ar) tz D σ H := h H (Ex.refl H) _ fun H1 e => ⟨u, v, w, rfl, k H1 e⟩
theorem q_par (h : EvA ar σ H [u, v]) (k : ∀ H1, Ex H H1 → tz D ((σ.set i (some u)).set j (some v)) H1) : tSeq (tPar i j ar) tz D σ H := h H (Ex.refl H) _ fun H1 e => ⟨u, v, rfl, k H1 e⟩
theorem s_par (h : EvA ar σ H [u, v]) (k : ∀ H1, Ex H H1 → D.nx ((σ.set i (some u)).set j (some v)) H1) : tPar i j ar D σ H := h H (Ex.refl H) _ fun H1 e => ⟨u, v, rfl, k H1 e⟩
theorem el_callNN {F : LF} {xs ys zs : List V} (ha : EvL ta σ H xs) (hb : EvL tb σ H ys) (f : ∀ p q H', Ex H H' → H' p = some (.lst xs) → H' q = some (.lst ys) → F [.ref p, .ref q] H' zs) : EvL (tCall (Pl F) [] E0 (tCons ta (tCons tb tNil))) σ H zs := fun H1 e Q k =>
  ha H1 e _ fun p H2 hp e2 h2 => hb H2 (e.trans e2) _ fun q H3 hq e3 h3 => ⟨zs, f p q H3 ((e.trans e2).trans e3) (e3 _ _ h2) h3, fun r H4 hr e4 h4 => k r H4 (fresh_back (e2.trans e3) hr) ((e2.trans e3).trans e4) h4⟩
theorem el_lcR2 {vs : List Nat} {lo hi : Int} (f : Nat → Bool) (v : Nat → V) (h : EvA ar σ H [.int lo, .int hi]) (hn : 0 ≤ lo ∧ lo ≤ 40000 ∧ -40000 ≤ hi ∧ hi ≤ 40000) (hw : ∀ x, wipe ((wipe σ vs).set j (some x)) vs = wipe σ vs)
    (ht : ∀ (i : Nat) H1, Ex H H1 → lo + (i : Int) < hi → EvT t ((wipe σ vs).set j (some (.int (lo + (i : Int))))) H1 (f i)) (he : ∀ (i : Nat) H1, Ex H H1 → lo + (i : Int) < hi → f i = true → Ev te ((wipe σ vs).set j (some (.int (lo + (i : Int))))) H1 (v i)) :
    EvL (tLc (iRng2 ar) (gName j) t te vs) σ H (given (hi - lo).toNat f v) := fun H0 e Q q => h H0 e _ fun H1 e1 => ⟨lo, hi, rfl, ⟨by omega, by omega, by omega, by omega⟩, fun Dl hD =>
  lc_range (lo := lo) (n := (hi - lo).toNat) (Cw H1 f v Dl) ⟨hD, Ex.new hD, upd_same⟩ (fun i H' hi2 p => ⟨hw _, cw_turn p (by omega) (ht i H1 (e.trans e1) (by omega)) (fun hf => he i H1 (e.trans e1) (by omega) hf)⟩) (fun H' p => q Dl H' (fresh_back e1 p.1) (e1.trans p.2.1) p.2.2)⟩
theorem el_rg2 {a b : Int} (ha : Ev ta σ H (.int a)) (hb : Ev tb σ H (.int b)) (h : RgOk a b) : EvL (tLstRg (tRg2 ta tb)) σ H (rgV a b) := fun H1 e Q q =>
  ha H1 e _ fun H2 e2 => hb H2 (e.trans e2) _ fun H3 e3 => ⟨a, b, rfl, rfl, h, fun p hp => q p _ (fresh_back (e2.trans e3) hp) ((e2.trans e3).trans (Ex.new hp)) upd_same⟩
theorem r_forL {tl : TE} {g : TG} (h : tl σ H fun x H1 => ∃ a, x = .ref a ∧ (∃ xs, SqL K H1 a xs) ∧ ∃ W : Nat → Nat → L2.St → Hp → Prop, (∃ m, W 0 m σ H1) ∧ ∀ i m σ H, W i m σ H →
      ((Itl K a).stop i H ∧ tz D σ H) ∨ ((Itl K a).go i H ∧ ∃ N : L2.St → Hp → Prop, (∀ σ' H', N σ' H' → ∃ m', m' < m ∧ W (i + 1) m' σ' H') ∧ ∀ x H', (Itl K a).yld i H x H' → g x σ H' fun σ2 H2 => tu { D with nx := N, ct := N, bk := tz D } σ2 H2)) : tSeq (tFor (iList K tl) g tu) tz D σ H := h
theorem r_loop {a : Addr} {xs : List V} (hx : SqL K H a xs) (Pw : Nat → L2.St → Hp → Prop) (h0 : Pw 0 σ H) (hl : ∀ i σ' H', i ≤ xs.length → Pw i σ' H' → SqL K H' a xs)
    (hs : ∀ i x σ' H', xs[i]? = some x → Pw i σ' H' → tu { D with nx := Pw (i + 1), ct := Pw (i + 1), bk := tz D } (σ'.set j (some x)) H') (hd : ∀ σ' H', Pw xs.length σ' H' → tz D σ' H') :
    ∃ b, V.ref a = .ref b ∧ (∃ xs, SqL K H b xs) ∧ ∃ W : Nat → Nat → L2.St → Hp → Prop, (∃ m, W 0 m σ H) ∧ ∀ i m σ H, W i m σ H →
      ((Itl K b).stop i H ∧ tz D σ H) ∨ ((Itl K b).go i H ∧ ∃ N : L2.St → Hp → Prop, (∀ σ' H', N σ' H' → ∃ m', m' < m ∧ W (i + 1) m' σ' H') ∧ ∀ x H', (Itl K b).yld i H x H' → gName j x σ H' fun σ2 H2 => tu { D with nx := N, ct := N, bk := tz D } σ2 H2) :=
  ⟨a, rfl, ⟨xs, hx⟩, for_list (D := { D with nx := tz D }) Pw h0 hl hs hd⟩
end
/-! ### what a reading leaves, told by a relation: the heap ahead, the value, the heap behind -/
abbrev RF := Hp → V → Hp → Prop
abbrev XF := List V → Hp → RF → Prop
def EvX (te : TE) (σ : L2.St) (H : Hp) (R : RF) : Prop := ∀ H1, Ex H H1 → ∀ Q : VK, (∀ v H2, Ex H1 H2 → R H1 v H2 → Q v H2) → te σ H1 Q
def Px (F : XF) : Sp := fun vs H Q _ => ∃ R, F vs H R ∧ ∀ v H2, Ex H H2 → R H v H2 → Q v H2
def MonoX (F : XF) : Prop := ∀ vs H H1 R, Ex H H1 → F vs H R → F vs H1 R
def Anti (R : RF) : Prop := ∀ H H1 v H2, Ex H H1 → R H1 v H2 → R H v H2
section
variable {K : PySem.W.Frag} {σ : L2.St} {H : Hp} {ta tb tc te tv : TE} {t : TT} {u v w z : V} {D : Ends} {tu tz : TS} {ar : TA} {i j l : Nat} {R : RF} {vs : List V}
theorem ex_call {F : XF} (m : MonoX F) (an : Anti R) (h : EvA ar σ H vs) (f : F vs H R) : EvX (tCall (Px F) [] E0 ar) σ H R := fun H1 e Q q =>
  h H1 e _ fun H2 e2 => ⟨R, by rw [List.append_nil]; exact m _ _ _ _ (e.trans e2) f, fun v H3 e3 r => q v H3 (e2.trans e3) (an _ _ _ _ e2 r)⟩
theorem x_asg (h : EvX te σ H R) (k : ∀ v H1, Ex H H1 → R H v H1 → tz D (σ.set i (some v)) H1) : tSeq (tAsg te (gName i)) tz D σ H := h H (Ex.refl H) _ k
theorem x_ret (h : EvX te σ H R) (k : ∀ v H1, Ex H H1 → R H v H1 → D.rt v H1) : tRet te D σ H := h H (Ex.refl H) _ k
theorem r_ex {Q : VK} (h : EvX te σ H R) (k : ∀ v H1, Ex H H1 → R H v H1 → Q v H1) : te σ H Q := h H (Ex.refl H) _ k
/-- a call whose one argument is a new list -/
theorem ev_callV1N {F : VF} {xs : List V} (ha : EvL ta σ H xs) (f : ∀ p H', Ex H H' → H' p = some (.lst xs) → F [.ref p] H' z) : Ev (tCall (Pv F) [] E0 (tCons ta tNil)) σ H z := fun H1 e Q q =>
  ha H1 e _ fun p H2 _ e2 h2 => ⟨z, f p H2 (e.trans e2) h2, fun H3 e3 => q H3 (e2.trans e3)⟩
/-- calls and methods whose first argument is a new list -/
theorem ev_callVN {F : VF} {xs : List V} {ar : TA} {vs : List V} (hx : EvL ta σ H xs) (hb : EvA ar σ H vs) (f : ∀ p H', Ex H H' → H' p = some (.lst xs) → F (.ref p :: vs) H' z) : Ev (tCall (Pv F) [] E0 (tCons ta ar)) σ H z := fun H1 e Q q =>
  hx H1 e _ fun p H2 _ e2 h2 => hb H2 (e.trans e2) _ fun H3 e3 => ⟨z, by rw [List.append_nil]; exact f p H3 ((e.trans e2).trans e3) (e3 _ _ h2), fun H4 e4 => q H4 ((e2.trans e3).trans e4)⟩
theorem ev_methVN {a C dx : Addr} {fs : List (Str × V)} {m : Str} {F : VF} {xs vs : List V} {ar : TA} (h : Ev ta σ H (.ref a)) (ho : H a = some (.ins C dx fs)) (l : fs.lookup m = none) (hx : EvL te σ H xs) (hb : EvA ar σ H vs) (f : ∀ p H', Ex H H' → H' p = some (.lst xs) → F (.ref a :: .ref p :: vs) H' z) :
    Ev (tMeth C m (Pv F) [] E0 ta (tCons te ar)) σ H z := fun H1 e Q q =>
  h H1 e _ fun H2 e2 => ⟨a, dx, fs, rfl, (e.trans e2) a _ ho, l, hx H2 (e.trans e2) _ fun p H3 _ e3 h3 => hb H3 ((e.trans e2).trans e3) _ fun H4 e4 => ⟨z, by rw [List.append_nil]; exact f p H4 (((e.trans e2).trans e3).trans e4) (e4 _ _ h3), fun H5 e5 => q H5 (((e2.trans e3).trans e4).trans e5)⟩⟩
/-- a list, new or old -/
def EvRL (te : TE) (σ : L2.St) (H : Hp) (xs : List V) : Prop := ∀ H1, Ex H H1 → ∀ Q : VK, (∀ c H2, Ex H1 H2 → H2 c = some (.lst xs) → Q (.ref c) H2) → te σ H1 Q
theorem rl_new {xs : List V} (h : EvL te σ H xs) : EvRL te σ H xs := fun H1 e Q q => h H1 e Q fun p H2 _ e2 h2 => q p H2 e2 h2
theorem rl_old {xs : List V} {c : Addr} (h : Ev te σ H (.ref c)) (hc : H c = some (.lst xs)) : EvRL te σ H xs := fun H1 e Q q => h H1 e Q fun H2 e2 => q c H2 e2 ((e.trans e2) _ _ hc)
theorem r_par (h : ar σ H fun vs H1 => ∃ v w, vs = [v, w] ∧ tz D ((σ.set i (some v)).set j (some w)) H1) : tSeq (tPar i j ar) tz D σ H := h
theorem ex_callN {F : XF} {xs : List V} (an : Anti R) (hx : EvL ta σ H xs) (hb : EvA ar σ H vs) (f : ∀ p H', Ex H H' → H' p = some (.lst xs) → F (.ref p :: vs) H' R) : EvX (tCall (Px F) [] E0 (tCons ta ar)) σ H R := fun H1 e Q q =>
  hx H1 e _ fun p H2 _ e2 h2 => hb H2 (e.trans e2) _ fun H3 e3 => ⟨R, by rw [List.append_nil]; exact f p H3 ((e.trans e2).trans e3) (e3 _ _ h2), fun v H4 e4 r => q v H4 ((e2.trans e3).trans e4) (an _ _ _ _ (e2.trans e3) r)⟩
theorem rl_fldX {f : Str} {xs : List V} (h : EvX te σ H R) (hr : ∀ H1 v H2, R H1 v H2 → ∃ (x C dx : Addr) (fs : List (Str × V)) (p : Addr), v = .ref x ∧ H2 x = some (.ins C dx fs) ∧ Cls K C ∧ NoAttr K C f ∧ fs.lookup f = some (.ref p) ∧ H2 p = some (.lst xs)) : EvRL (tFld K te f) σ H xs := fun H1 e Q q =>
  h H1 e _ fun v H2 e2 r => by
    obtain ⟨x, C, dx, fs, p, rfl, hx, c, n, l, hp⟩ := hr _ _ _ r
    exact ⟨x, C, dx, fs, .ref p, rfl, hx, c, n, l, q p H2 e2 hp⟩
theorem ev_fldX {f : Str} (h : EvX te σ H R) (hr : ∀ H1 v H2, R H1 v H2 → ∃ (x C dx : Addr) (fs : List (Str × V)), v = .ref x ∧ H2 x = some (.ins C dx fs) ∧ Cls K C ∧ NoAttr K C f ∧ fs.lookup f = some z) : Ev (tFld K te f) σ H z := fun H1 e Q q =>
  h H1 e _ fun v H2 e2 r => by
    obtain ⟨x, C, dx, fs, rfl, hx, c, n, l⟩ := hr _ _ _ r
    exact ⟨x, C, dx, fs, z, rfl, hx, c, n, l, q H2 e2⟩
theorem ev_opRL {r : R2} {xs ys : List V} (ha : EvRL ta σ H xs) (hb : EvL tb σ H ys) (hr : ∀ p q H1, H1 p = some (.lst xs) → H1 q = some (.lst ys) → Ex H H1 → RV r (.ref p) (.ref q) H1 z) : Ev (tOp r ta tb) σ H z := fun H1 e Q k =>
  ha H1 e _ fun p H2 e2 hp => hb H2 (e.trans e2) _ fun q H3 _ e3 hq => hr p q H3 (e3 p _ hp) hq ((e.trans e2).trans e3) H3 (Ex.refl H3) Q fun H4 e4 => k H4 ((e2.trans e3).trans e4)
/-! ### what is behind a store to a field -/
theorem putF_len (f : Str) (v : V) : ∀ fs : List (Str × V), (putF f v fs).length ≤ fs.length + 1
  | [] => Nat.le_refl _
  | (g, x) :: r => by
    have ih := putF_len f v r
    unfold putF
    split
    · exact Nat.le_succ _
    · exact Nat.succ_le_succ ih
theorem q_fldL {x C dx : Addr} {fs : List (Str × V)} {xs : List V} {f : Str} (hx : H x = some (.ins C dx fs)) (hv : EvL tv σ H xs) (ho : Ev ta σ H (.ref x)) (cl : Cls K C) (na : NoAttr K C f) (hl : fs.length < 1000)
    (k : ∀ p H1, H p = none → Ex H H1 → H1 p = some (.lst xs) → tz D σ (upd H1 x (.ins C dx (putF f (.ref p) fs)))) : tSeq (sFld K ta tv f) tz D σ H :=
  hv H (Ex.refl H) _ fun p H1 hp e h1 => ho H1 e _ fun H2 e2 => ⟨x, C, dx, fs, rfl, (e.trans e2) _ _ hx, cl, na, hl, k p H2 hp (e.trans e2) (e2 _ _ h1)⟩
theorem s_fldL {x C dx : Addr} {fs : List (Str × V)} {xs : List V} {f : Str} (hx : H x = some (.ins C dx fs)) (hv : EvL tv σ H xs) (ho : Ev ta σ H (.ref x)) (cl : Cls K C) (na : NoAttr K C f) (hl : fs.length < 1000)
    (k : ∀ p H1, H p = none → Ex H H1 → H1 p = some (.lst xs) → D.nx σ (upd H1 x (.ins C dx (putF f (.ref p) fs)))) : sFld K ta tv f D σ H :=
  hv H (Ex.refl H) _ fun p H1 hp e h1 => ho H1 e _ fun H2 e2 => ⟨x, C, dx, fs, rfl, (e.trans e2) _ _ hx, cl, na, hl, k p H2 hp (e.trans e2) (e2 _ _ h1)⟩
theorem q_fldV {x C dx : Addr} {fs : List (Str × V)} {f : Str} (hx : H x = some (.ins C dx fs)) (hv : Ev tv σ H v) (ho : Ev ta σ H (.ref x)) (cl : Cls K C) (na : NoAttr K C f) (hl : fs.length < 1000)
    (k : ∀ H1, Ex H H1 → tz D σ (upd H1 x (.ins C dx (putF f v fs)))) : tSeq (sFld K ta tv f) tz D σ H :=
  hv H (Ex.refl H) _ fun H1 e => ho H1 e _ fun H2 e2 => ⟨x, C, dx, fs, rfl, (e.trans e2) _ _ hx, cl, na, hl, k H2 (e.trans e2)⟩
theorem s_fldV {x C dx : Addr} {fs : List (Str × V)} {f : Str} (hx : H x = some (.ins C dx fs)) (hv : Ev tv σ H v) (ho : Ev ta σ H (.ref x)) (cl : Cls K C) (na : NoAttr K C f) (hl : fs.length < 1000)
    (k : ∀ H1, Ex H H1 → D.nx σ (upd H1 x (.ins C dx (putF f v fs)))) : sFld K ta tv f D σ H :=
  hv H (Ex.refl H) _ fun H1 e => ho H1 e _ fun H2 e2 => ⟨x, C, dx, fs, rfl, (e.trans e2) _ _ hx, cl, na, hl, k H2 (e.trans e2)⟩
/-- all but x as it was -/
def Exx (x : Addr) (H H' : Hp) : Prop := ∀ a o, H a = some o → a ≠ x → H' a = some o
theorem Exx.of {x : Addr} {H H' : Hp} (e : Ex H H') : Exx x H H' := fun a o h _ => e a o h
theorem Exx.trans {x : Addr} {H H1 H2 : Hp} (a : Exx x H H1) (b : Exx x H1 H2) : Exx x H H2 := fun c o h n => b c o (a c o h n) n
theorem Exx.put {x : Addr} {H H' : Hp} {o : HO} (e : Ex H H') : Exx x H (upd H' x o) := fun a u h n => by
  rw [upd_ne n]
  exact e a u h
/-- a new instance's own heap, then all but it as it was: the old one grew -/
theorem Exx.made {x dx C : Addr} {H H' : Hp} (nx : H x = none) (nd : H dx = none) (e : Exx x (upd (upd H dx (.own x)) x (.ins C dx [])) H') : Ex H H' := fun a o h =>
  e a o (by rw [upd_ne (ne_of_none h nx), upd_ne (ne_of_none h nd)]; exact h) (ne_of_none h nx)
/-! ### comprehensions over a new list -/
theorem el_mapNIB {ns : List Int} {tl : TE} {j : Nat} {ws : List Nat} (g : Int → Bool) (h : EvL tl σ H (ns.map V.int)) (hz : ns.length ≤ 40000) (hw : ∀ x, wipe ((wipe σ ws).set j (some x)) ws = wipe σ ws)
    (he : ∀ (n : Int) H1, Ex H H1 → n ∈ ns → Ev te ((wipe σ ws).set j (some (.int n))) H1 (.bl (g n))) : EvL (tLc (iList K tl) (gName j) tYes te ws) σ H ((ns.map g).map V.bl) := by
  have q := el_lcNL (K := K) (te := te) (t := tYes) (j := j) (vs := ws) (fun _ => true) (fun i => V.bl (g (ns.getD i 0))) h (by rw [List.length_map]; exact hz) hw (fun i x H1 e hi => et_yes) (fun i x H1 e hi _ => by
    obtain ⟨n, rfl, hn⟩ := int_at hi
    have e3 : ns.getD i 0 = n := by simp [List.getD, hn]
    rw [e3]
    exact he n H1 e (List.mem_of_getElem? hn))
  rw [given_all, List.length_map, range_map_get (g := fun n => V.bl (g n))] at q
  rw [List.map_map]
  exact q
theorem el_mapNII {ns : List Int} {tl : TE} {j : Nat} {ws : List Nat} (g : Int → Int) (h : EvL tl σ H (ns.map V.int)) (hz : ns.length ≤ 40000) (hw : ∀ x, wipe ((wipe σ ws).set j (some x)) ws = wipe σ ws)
    (he : ∀ (n : Int) H1, Ex H H1 → n ∈ ns → Ev te ((wipe σ ws).set j (some (.int n))) H1 (.int (g n))) : EvL (tLc (iList K tl) (gName j) tYes te ws) σ H ((ns.map g).map V.int) := by
  have q := el_lcNL (K := K) (te := te) (t := tYes) (j := j) (vs := ws) (fun _ => true) (fun i => V.int (g (ns.getD i 0))) h (by rw [List.length_map]; exact hz) hw (fun i x H1 e hi => et_yes) (fun i x H1 e hi _ => by
    obtain ⟨n, rfl, hn⟩ := int_at hi
    have e3 : ns.getD i 0 = n := by simp [List.getD, hn]
    rw [e3]
    exact he n H1 e (List.mem_of_getElem? hn))
  rw [given_all, List.length_map, range_map_get (g := fun n => V.int (g n))] at q
  rw [List.map_map]
  exact q
/-! ### is, is not of truths; backwards; pop -/
theorem rv_isB {a b : Bool} : RV rIsB (.bl a) (.bl b) H (.bl (decide (a = b))) := fun H1 _ _ q => ⟨a, b, rfl, rfl, q H1 (Ex.refl H1)⟩
theorem rv_notB {a b : Bool} : RV rNotB (.bl a) (.bl b) H (.bl (!decide (a = b))) := fun H1 _ _ q => ⟨a, b, rfl, rfl, q H1 (Ex.refl H1)⟩
theorem el_rev {a : Addr} {xs : List V} (h : Ev te σ H (.ref a)) (hx : SqL K H a xs) : EvL (tRevL K te) σ H xs.reverse := fun H1 e Q q =>
  h H1 e _ fun H2 e2 => ⟨a, xs, rfl, ex_l (e.trans e2) hx, fun p hp => q p _ (fresh_back e2 hp) (e2.trans (Ex.new hp)) upd_same⟩
/-- xs.pop() -/
theorem q_pop {p : Addr} {xs : List V} (hl : H p = some (.lst (xs ++ [v]))) (ha : Ev ta σ H (.ref p)) (k : ∀ H1, Ex H H1 → tz D σ (upd H1 p (.lst xs))) : tSeq (tDrop (tBM0 K "list" rPop ta)) tz D σ H := ha H (Ex.refl H) _ fun H1 e1 =>
  ⟨Or.inl ⟨rfl, _, sq_of (e1 p _ hl)⟩, p, xs ++ [v], v, rfl, rfl, e1 p _ hl, by simp, by rw [List.dropLast_concat]; exact k H1 e1⟩
/-- xs.append((a, b)) -/
theorem q_appT {p : Addr} {xs : List V} {us : List V} (hl : H p = some (.lst xs)) (ha : Ev ta σ H (.ref p)) (h : EvU te σ H us) (hz : xs.length < 100000) (k : ∀ q H1, H q = none → Ex H H1 → H1 q = some (.tup us) → tz D σ (upd H1 p (.lst (xs ++ [.ref q])))) :
    tSeq (tDrop (tBM K "list" rAppend ta (tCons te tNil))) tz D σ H := q_appU hl ha h hz k
/-- a loop over a tuple made on the way -/
theorem q_forNT {tl : TE} {xs : List V} (h : EvU tl σ H xs) (Pw : L2.St → Hp → Prop) (h0 : ∀ H1, Ex H H1 → Pw σ H1) (hs : ∀ x σ' H0 H', Ex H H0 → Ex H0 H' → x ∈ xs → Pw σ' H' → tu { D with nx := fun σ2 H2 => Ex H0 H2 ∧ Pw σ2 H2, ct := fun σ2 H2 => Ex H0 H2 ∧ Pw σ2 H2, bk := tz D } (σ'.set j (some x)) H')
    (hd : ∀ σ' H', Ex H H' → Pw σ' H' → tz D σ' H') : tSeq (tFor (iTup K tl) (gName j) tu) tz D σ H :=
  h H (Ex.refl H) _ fun p H1 hp e h1 => ⟨p, rfl, ⟨xs, st_of h1⟩, for_tup (D := { D with nx := tz D }) (fun _ σ' H' => Ex H1 H' ∧ Pw σ' H') ⟨Ex.refl H1, h0 H1 e⟩ (fun i σ' H' _ q => st_of (q.1 _ _ h1)) (fun i x σ' H' hi q => hs x σ' H1 H' e q.1 (List.mem_of_getElem? hi) q.2) (fun σ' H' q => hd σ' H' (e.trans q.1) q.2)⟩
end
/-! ### lists of pairs -/
def Prs (H : Hp) (xs : List V) (ps : List (Int × Int)) : Prop := xs.length = ps.length ∧ ∀ (i : Nat) (p : Int × Int), ps[i]? = some p → ∃ t : Addr, xs[i]? = some (V.ref t) ∧ H t = some (.tup [.int p.1, .int p.2])
theorem Prs.mono {H H' : Hp} {xs : List V} {ps : List (Int × Int)} (e : Ex H H') (h : Prs H xs ps) : Prs H' xs ps := ⟨h.1, fun i p hp => by
  obtain ⟨t, h1, h2⟩ := h.2 i p hp
  exact ⟨t, h1, e _ _ h2⟩⟩
theorem Prs.nil {H : Hp} : Prs H [] [] := ⟨rfl, fun i p h => by cases h⟩
theorem Prs.snoc {H : Hp} {xs : List V} {ps : List (Int × Int)} {t : Addr} {a b : Int} (h : Prs H xs ps) (ht : H t = some (.tup [.int a, .int b])) : Prs H (xs ++ [.ref t]) (ps ++ [(a, b)]) := by
  refine ⟨by rw [List.length_append, List.length_append, h.1]; rfl, fun i p hp => ?_⟩
  by_cases hi : i < ps.length
  · rw [List.getElem?_append_left hi] at hp
    obtain ⟨u, h1, h2⟩ := h.2 i p hp
    exact ⟨u, by rw [List.getElem?_append_left (by rw [h.1]; exact hi)]; exact h1, h2⟩
  · rw [List.getElem?_append_right (by omega)] at hp
    have hz : i - ps.length = 0 := by
      have := (List.getElem?_eq_some_iff.mp hp).1
      simp at this
      omega
    rw [hz] at hp
    have e : (a, b) = p := Option.some.inj hp
    subst e
    exact ⟨t, by rw [List.getElem?_append_right (by rw [h.1]; omega), h.1, hz]; rfl, ht⟩
theorem Prs.upd {H : Hp} {xs ys : List V} {ps : List (Int × Int)} {c : Addr} {o : HO} (h : Prs H xs ps) (hc : H c = some (.lst ys)) : Prs (upd H c o) xs ps := ⟨h.1, fun i p hp => by
  obtain ⟨t, h1, h2⟩ := h.2 i p hp
  have n : t ≠ c := ne_of h2 hc (by intro z; cases z)
  exact ⟨t, h1, by rw [upd_ne n]; exact h2⟩⟩
theorem Prs.take {H : Hp} {xs : List V} {ps : List (Int × Int)} (h : Prs H xs ps) (k : Nat) : Prs H (xs.take k) (ps.take k) := ⟨by rw [List.length_take, List.length_take, h.1], fun i p hp => by
  rw [List.getElem?_take] at hp ⊢
  split at hp
  · rename_i hi
    obtain ⟨t, h1, h2⟩ := h.2 i p hp
    exact ⟨t, by rw [if_pos hi]; exact h1, h2⟩
  · cases hp⟩
theorem cutV_to {xs : List V} {k : Nat} : cutV xs none (some (k : Int)) = xs.take k := by
  unfold cutV
  rw [HT.sIx_none, HT.sIx_nat, List.drop_zero, Nat.sub_zero]
  by_cases h : k ≤ xs.length
  · rw [Nat.min_eq_left h]
  · rw [Nat.min_eq_right (by omega), List.take_of_length_le (Nat.le_refl _), List.take_of_length_le (by omega)]
theorem cutV_last {xs : List V} : cutV xs none (some (-1)) = xs.dropLast := by
  unfold cutV
  rw [HT.sIx_none, List.drop_zero, Nat.sub_zero, List.dropLast_eq_take]
  congr 1
  show (if (-1 : Int) < 0 then ((-1 : Int) + (xs.length : Int)).toNat else min (-1 : Int).toNat xs.length) = xs.length - 1
  rw [if_pos (by decide)]
  omega
theorem cutV_mid {xs : List V} {a b : Int} (h0 : 0 ≤ a) (h1 : a ≤ b) (h2 : b ≤ xs.length) : cutV xs (some a) (some b) = (xs.drop a.toNat).take (b.toNat - a.toNat) := by
  unfold cutV
  rw [show a = ((a.toNat : Nat) : Int) by omega, show b = ((b.toNat : Nat) : Int) by omega, HT.sIx_nat, HT.sIx_nat, Nat.min_eq_left (by omega), Nat.min_eq_left (by omega)]
  simp only [Int.toNat_natCast]
section
variable {K : PySem.W.Frag} {σ : L2.St} {H : Hp} {D : Ends} {tu tz : TS} {te : TE} {i j : Nat} {R : RF}
theorem x_asgT2 (h : EvX te σ H R) (k : ∀ v H1, Ex H H1 → R H v H1 → ∃ t u w, v = .ref t ∧ SqT K H1 t [u, w] ∧ tz D ((σ.set i (some u)).set j (some w)) H1) : tSeq (tAsg te (gTup K 2 (gCons (gName i) (gCons (gName j) gNil)))) tz D σ H :=
  h H (Ex.refl H) _ fun v H1 e r => by
    obtain ⟨t, u, w, rfl, hs, q⟩ := k v H1 e r
    exact ⟨t, _, rfl, hs, rfl, u, [w], rfl, w, [], rfl, rfl, q⟩
end
section
variable {K : PySem.W.Frag} {σ : L2.St} {H : Hp} {D : Ends} {tu tz : TS} {tl : TE}
theorem q_forPr {a : Addr} {xs : List V} {ps : List (Int × Int)} {p q : Nat} (h : Ev tl σ H (.ref a)) (hx : SqL K H a xs) (hp : Prs H xs ps) (Pw : Nat → L2.St → Hp → Prop) (h0 : ∀ H1, Ex H H1 → Pw 0 σ H1) (hl : ∀ i σ' H', i ≤ ps.length → Pw i σ' H' → Ex H H')
    (hs : ∀ i z σ' H', ps[i]? = some z → Pw i σ' H' → tu { D with nx := Pw (i + 1), ct := Pw (i + 1), bk := tz D } ((σ'.set p (some (.int z.1))).set q (some (.int z.2))) H') (hd : ∀ σ' H', Pw ps.length σ' H' → tz D σ' H') :
    tSeq (tFor (iList K tl) (gTup K 2 (gCons (gName p) (gCons (gName q) gNil))) tu) tz D σ H :=
  q_forL h hx Pw h0 (fun i σ' H' hi pw => ex_l (hl i σ' H' (by rw [← hp.1]; exact hi) pw) hx) (fun i x σ' H' hi pw => by
    have hlt : i < ps.length := by rw [← hp.1]; exact (List.getElem?_eq_some_iff.mp hi).1
    obtain ⟨t, h1, h2⟩ := hp.2 i ps[i] (List.getElem?_eq_getElem hlt)
    rw [hi] at h1
    have e : x = .ref t := Option.some.inj h1
    subst e
    refine ⟨t, _, rfl, st_of (hl i σ' H' (by omega) pw t _ h2), rfl, .int ps[i].1, [.int ps[i].2], rfl, .int ps[i].2, [], rfl, rfl, ?_⟩
    exact hs i ps[i] σ' H' (List.getElem?_eq_getElem hlt) pw) (by rw [hp.1]; exact hd)
end
end Ct

namespace Ct
open PySem PySem.Spec PyProof.Rows L2 Evl
abbrev R : PySem.W.OpenRow := PySem.W.OpenLaw.row PySem.Challenge.rw_cutrow_k06_written
def top (i : Nat) : Stmt := PySem.Challenge.pw_cutrow_k06_written.main.body.getD i (.Pass ⟨0, 0, 0, 0⟩)
abbrev s_is_whole : Stmt := top 9
abbrev s_check_row : Stmt := top 10
abbrev s_are_cuts : Stmt := top 11
abbrev s_check_cuts : Stmt := top 12
abbrev s_written : Stmt := top 15
abbrev s_number_in : Stmt := top 16
abbrev s_read : Stmt := top 17
abbrev s__law_cell_at : Stmt := top 19
abbrev s__law_draw : Stmt := top 20
abbrev s__law_row : Stmt := top 21
abbrev s__law_numbers : Stmt := top 22
abbrev s__law_rising : Stmt := top 23
abbrev s__law_number : Stmt := top 24
abbrev s__law_in : Stmt := top 25
abbrev s__law_refused : Stmt := top 26
abbrev s__law_right : Stmt := top 27
abbrev s__law_few : Stmt := top 28
abbrev s_law : Stmt := top 29
structure Tx (K : PySem.W.Frag) (mg : Str → Option Value) : Prop where
  d_is_whole : ∃ fd, FunD K "is_whole" "is_whole" (defArgs s_is_whole) (defBody s_is_whole) (defScope s_is_whole) [] [] (He.ga K "is_whole") fd
  d_check_row : ∃ fd, FunD K "check_row" "check_row" (defArgs s_check_row) (defBody s_check_row) (defScope s_check_row) [] [] (He.ga K "check_row") fd
  d_are_cuts : ∃ fd, FunD K "are_cuts" "are_cuts" (defArgs s_are_cuts) (defBody s_are_cuts) (defScope s_are_cuts) [] [] (He.ga K "are_cuts") fd
  d_check_cuts : ∃ fd, FunD K "check_cuts" "check_cuts" (defArgs s_check_cuts) (defBody s_check_cuts) (defScope s_check_cuts) [] [] (He.ga K "check_cuts") fd
  d_written : ∃ fd, FunD K "written" "written" (defArgs s_written) (defBody s_written) (defScope s_written) [] [] (He.ga K "written") fd
  d_number_in : ∃ fd, FunD K "number_in" "number_in" (defArgs s_number_in) (defBody s_number_in) (defScope s_number_in) [] [] (He.ga K "number_in") fd
  d_read : ∃ fd, FunD K "read" "read" (defArgs s_read) (defBody s_read) (defScope s_read) [] [] (He.ga K "read") fd
  d__law_cell_at : ∃ fd, FunD K "_law_cell_at" "_law_cell_at" (defArgs s__law_cell_at) (defBody s__law_cell_at) (defScope s__law_cell_at) [] [] (He.ga K "_law_cell_at") fd
  d__law_draw : ∃ fd, FunD K "_law_draw" "_law_draw" (defArgs s__law_draw) (defBody s__law_draw) (defScope s__law_draw) [] [] (He.ga K "_law_draw") fd
  d__law_row : ∃ fd, FunD K "_law_row" "_law_row" (defArgs s__law_row) (defBody s__law_row) (defScope s__law_row) [] [] (He.ga K "_law_row") fd
  d__law_numbers : ∃ fd, FunD K "_law_numbers" "_law_numbers" (defArgs s__law_numbers) (defBody s__law_numbers) (defScope s__law_numbers) [] [] (He.ga K "_law_numbers") fd
  d__law_rising : ∃ fd, FunD K "_law_rising" "_law_rising" (defArgs s__law_rising) (defBody s__law_rising) (defScope s__law_rising) [] [] (He.ga K "_law_rising") fd
  d__law_number : ∃ fd, FunD K "_law_number" "_law_number" (defArgs s__law_number) (defBody s__law_number) (defScope s__law_number) [] [] (He.ga K "_law_number") fd
  d__law_in : ∃ fd, FunD K "_law_in" "_law_in" (defArgs s__law_in) (defBody s__law_in) (defScope s__law_in) [] [] (He.ga K "_law_in") fd
  d__law_refused : ∃ fd, FunD K "_law_refused" "_law_refused" (defArgs s__law_refused) (defBody s__law_refused) (defScope s__law_refused) [] [] (He.ga K "_law_refused") fd
  d__law_right : ∃ fd, FunD K "_law_right" "_law_right" (defArgs s__law_right) (defBody s__law_right) (defScope s__law_right) [] [] (He.ga K "_law_right") fd
  d__law_few : ∃ fd, FunD K "_law_few" "_law_few" (defArgs s__law_few) (defBody s__law_few) (defScope s__law_few) [] [] (He.ga K "_law_few") fd
  d_law : ∃ fd, FunD K "law" "law" (defArgs s_law) (defBody s_law) (defScope s_law) [] [] (He.ga K "law") fd
  g_CutError : mg "CutError" = some (.ref (He.ga K "CutError"))
  g_BadRow : mg "BadRow" = some (.ref (He.ga K "BadRow"))
  g_BadNumber : mg "BadNumber" = some (.ref (He.ga K "BadNumber"))
  g_BadCuts : mg "BadCuts" = some (.ref (He.ga K "BadCuts"))
  g_BadText : mg "BadText" = some (.ref (He.ga K "BadText"))
  c_GREATEST : ∃ t, mg "GREATEST" = some (.int 1000000 t)
  c_LONGEST : ∃ t, mg "LONGEST" = some (.int 1000000 t)
  g_is_whole : mg "is_whole" = some (.ref (He.ga K "is_whole"))
  g_check_row : mg "check_row" = some (.ref (He.ga K "check_row"))
  g_are_cuts : mg "are_cuts" = some (.ref (He.ga K "are_cuts"))
  g_check_cuts : mg "check_cuts" = some (.ref (He.ga K "check_cuts"))
  c_FIGURES : ∃ t, mg "FIGURES" = some (.str "0123456789" t)
  g_written : mg "written" = some (.ref (He.ga K "written"))
  g_number_in : mg "number_in" = some (.ref (He.ga K "number_in"))
  g_read : mg "read" = some (.ref (He.ga K "read"))
  g__law_cell_at : mg "_law_cell_at" = some (.ref (He.ga K "_law_cell_at"))
  g__law_draw : mg "_law_draw" = some (.ref (He.ga K "_law_draw"))
  g__law_row : mg "_law_row" = some (.ref (He.ga K "_law_row"))
  g__law_numbers : mg "_law_numbers" = some (.ref (He.ga K "_law_numbers"))
  g__law_rising : mg "_law_rising" = some (.ref (He.ga K "_law_rising"))
  g__law_number : mg "_law_number" = some (.ref (He.ga K "_law_number"))
  g__law_in : mg "_law_in" = some (.ref (He.ga K "_law_in"))
  g__law_refused : mg "_law_refused" = some (.ref (He.ga K "_law_refused"))
  g__law_right : mg "_law_right" = some (.ref (He.ga K "_law_right"))
  g__law_few : mg "_law_few" = some (.ref (He.ga K "_law_few"))
  g_law : mg "law" = some (.ref (He.ga K "law"))
  z_ValueError : mg "ValueError" = none
  z_all : mg "all" = none
  z_any : mg "any" = none
  z_bool : mg "bool" = none
  z_int : mg "int" = none
  z_isinstance : mg "isinstance" = none
  z_len : mg "len" = none
  z_list : mg "list" = none
  z_range : mg "range" = none
  z_str : mg "str" = none
  z_tuple : mg "tuple" = none
  o_sp : PySem.W.specialIn K (.builtin "object.__class__") "__get__" = some (some (.builtin "getset_descriptor.__get__"))
  o_tk : PySem.W.takesIn K (.builtin "object.__class__") = some true
  sb_CutError : PySem.W.subIn K (.ref (He.ga K "CutError")) (.type "BaseException") = some true
  tt_CutError : PySem.W.typeIn K (.ref (He.ga K "CutError")) = some (.type "type")
  hd_CutError : PySem.W.hasDictIn K (He.ga K "CutError") = true
  sb_BadRow : PySem.W.subIn K (.ref (He.ga K "BadRow")) (.type "BaseException") = some true
  tt_BadRow : PySem.W.typeIn K (.ref (He.ga K "BadRow")) = some (.type "type")
  hd_BadRow : PySem.W.hasDictIn K (He.ga K "BadRow") = true
  sb_BadNumber : PySem.W.subIn K (.ref (He.ga K "BadNumber")) (.type "BaseException") = some true
  tt_BadNumber : PySem.W.typeIn K (.ref (He.ga K "BadNumber")) = some (.type "type")
  hd_BadNumber : PySem.W.hasDictIn K (He.ga K "BadNumber") = true
  sb_BadCuts : PySem.W.subIn K (.ref (He.ga K "BadCuts")) (.type "BaseException") = some true
  tt_BadCuts : PySem.W.typeIn K (.ref (He.ga K "BadCuts")) = some (.type "type")
  hd_BadCuts : PySem.W.hasDictIn K (He.ga K "BadCuts") = true
  sb_BadText : PySem.W.subIn K (.ref (He.ga K "BadText")) (.type "BaseException") = some true
  tt_BadText : PySem.W.typeIn K (.ref (He.ga K "BadText")) = some (.type "type")
  hd_BadText : PySem.W.hasDictIn K (He.ga K "BadText") = true
  xi_BadRow : PySem.W.excIn K (He.ga K "BadRow") [.type "ValueError", .type "Exception", .type "BaseException", .type "object"] "ValueError.__new__" = true
  kp_BadRow : PySem.W.keepIn K (.ref (He.ga K "BadRow")) = true
  cu_BadRow : PySem.W.subIn K (.ref (He.ga K "BadRow")) (.ref (He.ga K "CutError")) = some true
  hg_BadRow : PySem.W.findIn K (.ref (He.ga K "BadRow")) "__getattribute__" = some (some (.builtin "BaseException.__getattribute__"))
  hk_BadRow : PySem.W.findIn K (.ref (He.ga K "BadRow")) "__getattr__" = some none
  ha_BadRow : PySem.W.findIn K (.ref (He.ga K "BadRow")) "__class__" = some (some (.builtin "object.__class__"))
  hm_BadRow : PySem.W.mroIn K (He.ga K "BadRow") (.type "object") = some true
  kx_BadRow_BadRow : PySem.W.kitOne K (.ref (He.ga K "BadRow")) (.ref (He.ga K "BadRow")) = some true
  kx_BadRow_BadNumber : PySem.W.kitOne K (.ref (He.ga K "BadRow")) (.ref (He.ga K "BadNumber")) = some false
  kx_BadRow_BadCuts : PySem.W.kitOne K (.ref (He.ga K "BadRow")) (.ref (He.ga K "BadCuts")) = some false
  kx_BadRow_BadText : PySem.W.kitOne K (.ref (He.ga K "BadRow")) (.ref (He.ga K "BadText")) = some false
  kv_BadRow : PySem.W.kitOne K (.ref (He.ga K "BadRow")) (.type "ValueError") = some true
  xi_BadNumber : PySem.W.excIn K (He.ga K "BadNumber") [.type "ValueError", .type "Exception", .type "BaseException", .type "object"] "ValueError.__new__" = true
  kp_BadNumber : PySem.W.keepIn K (.ref (He.ga K "BadNumber")) = true
  cu_BadNumber : PySem.W.subIn K (.ref (He.ga K "BadNumber")) (.ref (He.ga K "CutError")) = some true
  hg_BadNumber : PySem.W.findIn K (.ref (He.ga K "BadNumber")) "__getattribute__" = some (some (.builtin "BaseException.__getattribute__"))
  hk_BadNumber : PySem.W.findIn K (.ref (He.ga K "BadNumber")) "__getattr__" = some none
  ha_BadNumber : PySem.W.findIn K (.ref (He.ga K "BadNumber")) "__class__" = some (some (.builtin "object.__class__"))
  hm_BadNumber : PySem.W.mroIn K (He.ga K "BadNumber") (.type "object") = some true
  kx_BadNumber_BadRow : PySem.W.kitOne K (.ref (He.ga K "BadNumber")) (.ref (He.ga K "BadRow")) = some false
  kx_BadNumber_BadNumber : PySem.W.kitOne K (.ref (He.ga K "BadNumber")) (.ref (He.ga K "BadNumber")) = some true
  kx_BadNumber_BadCuts : PySem.W.kitOne K (.ref (He.ga K "BadNumber")) (.ref (He.ga K "BadCuts")) = some false
  kx_BadNumber_BadText : PySem.W.kitOne K (.ref (He.ga K "BadNumber")) (.ref (He.ga K "BadText")) = some false
  kv_BadNumber : PySem.W.kitOne K (.ref (He.ga K "BadNumber")) (.type "ValueError") = some true
  xi_BadCuts : PySem.W.excIn K (He.ga K "BadCuts") [.type "ValueError", .type "Exception", .type "BaseException", .type "object"] "ValueError.__new__" = true
  kp_BadCuts : PySem.W.keepIn K (.ref (He.ga K "BadCuts")) = true
  cu_BadCuts : PySem.W.subIn K (.ref (He.ga K "BadCuts")) (.ref (He.ga K "CutError")) = some true
  hg_BadCuts : PySem.W.findIn K (.ref (He.ga K "BadCuts")) "__getattribute__" = some (some (.builtin "BaseException.__getattribute__"))
  hk_BadCuts : PySem.W.findIn K (.ref (He.ga K "BadCuts")) "__getattr__" = some none
  ha_BadCuts : PySem.W.findIn K (.ref (He.ga K "BadCuts")) "__class__" = some (some (.builtin "object.__class__"))
  hm_BadCuts : PySem.W.mroIn K (He.ga K "BadCuts") (.type "object") = some true
  kx_BadCuts_BadRow : PySem.W.kitOne K (.ref (He.ga K "BadCuts")) (.ref (He.ga K "BadRow")) = some false
  kx_BadCuts_BadNumber : PySem.W.kitOne K (.ref (He.ga K "BadCuts")) (.ref (He.ga K "BadNumber")) = some false
  kx_BadCuts_BadCuts : PySem.W.kitOne K (.ref (He.ga K "BadCuts")) (.ref (He.ga K "BadCuts")) = some true
  kx_BadCuts_BadText : PySem.W.kitOne K (.ref (He.ga K "BadCuts")) (.ref (He.ga K "BadText")) = some false
  kv_BadCuts : PySem.W.kitOne K (.ref (He.ga K "BadCuts")) (.type "ValueError") = some true
  xi_BadText : PySem.W.excIn K (He.ga K "BadText") [.type "ValueError", .type "Exception", .type "BaseException", .type "object"] "ValueError.__new__" = true
  kp_BadText : PySem.W.keepIn K (.ref (He.ga K "BadText")) = true
  cu_BadText : PySem.W.subIn K (.ref (He.ga K "BadText")) (.ref (He.ga K "CutError")) = some true
  hg_BadText : PySem.W.findIn K (.ref (He.ga K "BadText")) "__getattribute__" = some (some (.builtin "BaseException.__getattribute__"))
  hk_BadText : PySem.W.findIn K (.ref (He.ga K "BadText")) "__getattr__" = some none
  ha_BadText : PySem.W.findIn K (.ref (He.ga K "BadText")) "__class__" = some (some (.builtin "object.__class__"))
  hm_BadText : PySem.W.mroIn K (He.ga K "BadText") (.type "object") = some true
  kx_BadText_BadRow : PySem.W.kitOne K (.ref (He.ga K "BadText")) (.ref (He.ga K "BadRow")) = some false
  kx_BadText_BadNumber : PySem.W.kitOne K (.ref (He.ga K "BadText")) (.ref (He.ga K "BadNumber")) = some false
  kx_BadText_BadCuts : PySem.W.kitOne K (.ref (He.ga K "BadText")) (.ref (He.ga K "BadCuts")) = some false
  kx_BadText_BadText : PySem.W.kitOne K (.ref (He.ga K "BadText")) (.ref (He.ga K "BadText")) = some true
  kv_BadText : PySem.W.kitOne K (.ref (He.ga K "BadText")) (.type "ValueError") = some true
theorem ec_BadRow {K : PySem.W.Frag} {mg : Str → Option Value} (T : Tx K mg) : ExcC K (He.ga K "BadRow") := ⟨T.hg_BadRow, T.hk_BadRow, T.sb_BadRow, T.hd_BadRow, T.ha_BadRow, T.o_sp, T.o_tk, T.hm_BadRow⟩
theorem xm_BadRow {K : PySem.W.Frag} {mg : Str → Option Value} (T : Tx K mg) : PySem.W.exmOne K (.ref (He.ga K "BadRow")) (.ref (He.ga K "CutError")) = some true := PySem.W.exm_ref T.sb_CutError T.hd_CutError T.tt_CutError T.cu_BadRow
theorem ec_BadNumber {K : PySem.W.Frag} {mg : Str → Option Value} (T : Tx K mg) : ExcC K (He.ga K "BadNumber") := ⟨T.hg_BadNumber, T.hk_BadNumber, T.sb_BadNumber, T.hd_BadNumber, T.ha_BadNumber, T.o_sp, T.o_tk, T.hm_BadNumber⟩
theorem xm_BadNumber {K : PySem.W.Frag} {mg : Str → Option Value} (T : Tx K mg) : PySem.W.exmOne K (.ref (He.ga K "BadNumber")) (.ref (He.ga K "CutError")) = some true := PySem.W.exm_ref T.sb_CutError T.hd_CutError T.tt_CutError T.cu_BadNumber
theorem ec_BadCuts {K : PySem.W.Frag} {mg : Str → Option Value} (T : Tx K mg) : ExcC K (He.ga K "BadCuts") := ⟨T.hg_BadCuts, T.hk_BadCuts, T.sb_BadCuts, T.hd_BadCuts, T.ha_BadCuts, T.o_sp, T.o_tk, T.hm_BadCuts⟩
theorem xm_BadCuts {K : PySem.W.Frag} {mg : Str → Option Value} (T : Tx K mg) : PySem.W.exmOne K (.ref (He.ga K "BadCuts")) (.ref (He.ga K "CutError")) = some true := PySem.W.exm_ref T.sb_CutError T.hd_CutError T.tt_CutError T.cu_BadCuts
theorem ec_BadText {K : PySem.W.Frag} {mg : Str → Option Value} (T : Tx K mg) : ExcC K (He.ga K "BadText") := ⟨T.hg_BadText, T.hk_BadText, T.sb_BadText, T.hd_BadText, T.ha_BadText, T.o_sp, T.o_tk, T.hm_BadText⟩
theorem xm_BadText {K : PySem.W.Frag} {mg : Str → Option Value} (T : Tx K mg) : PySem.W.exmOne K (.ref (He.ga K "BadText")) (.ref (He.ga K "CutError")) = some true := PySem.W.exm_ref T.sb_CutError T.hd_CutError T.tt_CutError T.cu_BadText
end Ct
namespace Ct
open PySem PySem.Spec PyProof.Rows L2 Evl
open He (ga ma)
section
variable {P : Program} {w : World} {K : PySem.W.Frag} {mg : Str → Option Value} {base : Heap}
/-! ### raising: calls, suites -/
theorem bo_ValueError : bootBuiltins "ValueError" = some (.type "ValueError") := by decide +kernel
section
variable {X : Cx}
theorem PS.nox1 {st : Stmt} {t : TS} (h : PS X.nox st t) : PS X st t := ⟨fun pins s σ H D I hw => by
  have q := h.run pins s σ H D (I.wish _) hw
  exact wpAny_mono q (fun f s1 r => r.unwish) fun _ _ z => False.elim z⟩
theorem takesN : L2N.Takes X (fun _ _ _ _ => False) := fun u s' hx => by
  obtain ⟨_, _, _, _, _, _, _, _, _, _, _, _, _, _, _, _, q⟩ := hx
  exact q.elim
/-- a def that raises the class named c -/
def Rz (K : PySem.W.Frag) (c : Str) (F : List V → Hp → Prop) : Sp := fun vs H _ E => F vs H ∧ ∀ H2, Ex H H2 → E (.ref (ga K c)) none H2
def MonoF (F : List V → Hp → Prop) : Prop := ∀ vs H H1, Ex H H1 → F vs H → F vs H1
variable {k : Nat} {x : Str} {ps : List Str} {sp : Sp} {W : WX} {p pos : Pos} {e : Expr} {es : List Expr} {t : TA}
theorem pe_dX (D : Kept X.prog X.w X.K X.mg X.base (L2N.CX X.prog X.w) k x ps sp) (hr : Room k X.A) (hg : Gl X x) (tk : L2N.Takes X W) (ha : PA X (e :: es) t) (hdb : (x == ("__debug__" : Str)) = false := by decide)
    (h1 : starEach (e :: es) X.env = (false, eval e X.env) :: starEach es X.env := by rfl) (h2 : (backTo pos (starEach es X.env)).any (·.1) = false := by rfl) : PE X (.Call (.Name x p) (e :: es) [] pos) (tCallS sp (WE W) t) := by
  obtain ⟨fd, F, b⟩ := D.fn
  exact pe_callS F hr hg D.g D.kp b (fun σ => L2N.passAt tk σ) ha hdb h1 h2
/-- a local name that holds the def x -/
def tCallLX (i : Nat) (f : Addr) (sp : Sp) (W : WX) (t : TA) : TE := fun σ H Q => σ[i]? = some (some (.ref f)) ∧ t σ H fun vs H1 => sp vs H1 Q (WE W σ)
theorem pe_dLX {i : Nat} {y : Str} (D : Kept X.prog X.w X.K X.mg X.base (L2N.CX X.prog X.w) k x ps sp) (hr : Room k X.A) (hN : X.N[i]? = some y) (hv : Vis X.env.scope y) (tk : L2N.Takes X W) (ha : PA X (e :: es) t) (hdb : (y == ("__debug__" : Str)) = false := by decide)
    (hcd : (y == ("__classdict__" : Str)) = false := by decide) (h1 : starEach (e :: es) X.env = (false, eval e X.env) :: starEach es X.env := by rfl) (h2 : (backTo pos (starEach es X.env)).any (·.1) = false := by rfl) :
    PE X (.Call (.Name y p) (e :: es) [] pos) (tCallLX i (ga X.K x) sp W t) := by
  obtain ⟨fd, F, b⟩ := D.fn
  refine ⟨fun pins s σ H Q I hq => ?_⟩
  have hs := hq.1
  have ht := hq.2
  have look := (pe_var (pos := p) hN hv hdb hcd).run pins s σ H (fun v H1 => v = .ref (ga X.K x) ∧ H1 = H) I ⟨_, hs, rfl, rfl⟩
  refine wpAny_Call_Name_kw (thn look fun u s1 hu => ?_)
  obtain ⟨v, H1, I1, r1, rfl, rfl⟩ := hu
  cases r1
  have go := ha.run pos pins s1 σ _ _ I1 ht
  refine PySem.W.callWith_K (h₀ := X.base) I.ok.mod.kin D.kp (thn go fun us s2 hus => ?_) h1 h2
  obtain ⟨vs, H2, I2, r, q⟩ := hus
  exact ⟨I2.kIn, run_fnS (E := WE W) F hr b (L2N.passAt tk σ) I2 r q⟩
end
theorem pe_dLXK {X : Cx} {K : PySem.W.Frag} {k : Nat} {x : Str} {ps : List Str} {sp : Sp} {W : WX} {p pos : Pos} {e : Expr} {es : List Expr} {t : TA} {i : Nat} {y : Str} (hK : X.K = K) (D : Kept X.prog X.w K X.mg X.base (L2N.CX X.prog X.w) k x ps sp) (hr : Room k X.A) (hN : X.N[i]? = some y) (hv : Vis X.env.scope y)
    (tk : L2N.Takes X W) (ha : PA X (e :: es) t) (hdb : (y == ("__debug__" : Str)) = false := by decide) (hcd : (y == ("__classdict__" : Str)) = false := by decide) (h1 : starEach (e :: es) X.env = (false, eval e X.env) :: starEach es X.env := by rfl)
    (h2 : (backTo pos (starEach es X.env)).any (·.1) = false := by rfl) : PE X (.Call (.Name y p) (e :: es) [] pos) (tCallLX i (ga K x) sp W t) := by
  subst hK
  exact pe_dLX D hr hN hv tk ha hdb hcd h1 h2
section
variable {K : PySem.W.Frag} {σ : L2.St} {H : Hp} {ta te : TE} {ar : TA} {vs : List V} {c : Str} {F : List V → Hp → Prop} {W : WX} {Q : VK}
theorem er_call (m : MonoF F) (h : EvA ar σ H vs) (f : F vs H) (w : ∀ H1, Ex H H1 → W (.ref (ga K c)) none σ H1) : tCallS (Rz K c F) (WE W) ar σ H Q :=
  h H (Ex.refl H) _ fun H1 e => ⟨m _ _ _ e f, fun H2 e2 => w H2 (e.trans e2)⟩
theorem er_callN {xs : List V} (hx : EvL ta σ H xs) (h : EvA ar σ H vs) (f : ∀ p H1, Ex H H1 → H1 p = some (.lst xs) → F (.ref p :: vs) H1) (w : ∀ H1, Ex H H1 → W (.ref (ga K c)) none σ H1) : tCallS (Rz K c F) (WE W) (tCons ta ar) σ H Q :=
  hx H (Ex.refl H) _ fun p H1 _ e1 h1 => h H1 e1 _ fun H2 e2 => ⟨f p H2 (e1.trans e2) (e2 _ _ h1), fun H3 e3 => w H3 ((e1.trans e2).trans e3)⟩
theorem er_callL {i : Nat} {f : Addr} (hi : σ[i]? = some (some (.ref f))) (m : MonoF F) (h : EvA ar σ H vs) (g : F vs H) (w : ∀ H1, Ex H H1 → W (.ref (ga K c)) none σ H1) : tCallLX i f (Rz K c F) W ar σ H Q :=
  ⟨hi, h H (Ex.refl H) _ fun H1 e => ⟨m _ _ _ e g, fun H2 e2 => w H2 (e.trans e2)⟩⟩
end
/-! ### a def that is handed the exception that is handled -/
section
variable (P : Program) (w : World) (K : PySem.W.Frag) (mg : Str → Option Value) (base : Heap)
abbrev SpE := Addr → Value → Option Addr → Sp
structure FnE (k : Nat) (f : Addr) (fd : FuncData) (ps : List Str) (sp : SpE) : Prop where
  len : ∀ a cls d vs H Q E, sp a cls d vs H Q E → vs.length = ps.length
  run : ∀ (A : Around) (outer : List Env) (s : Shared) (H : Hp) (args : Args) (us : List Value) (vs : List V) (Q : VK) (E : XK) (q : Addr × Obj) (cls : Value) (d : Option Addr), L2H.RoomH k A → L2H.PinOk outer H s q → Zc cls d q.2 → (∃ vs, q.2.data = .fields vs) →
    Env0 P w K mg base A outer s H → BindsTo s fd args (ps.zip us) → Vals vs us → sp q.1 cls d vs H Q E → codeAny (model P w) A (.call (.ref f) args) (CR CX0 outer P w H s Q E) s
structure KeptE (k : Nat) (x : Str) (ps : List Str) (sp : SpE) : Prop where
  fn : ∃ fd, FnE P w K mg base k (He.ga K x) fd ps sp ∧ Binds K fd ps []
  g : mg x = some (.ref (He.ga K x))
  kp : PySem.W.keepIn K (.ref (He.ga K x)) = true
end
section
variable {P : Program} {w : World} {K : PySem.W.Frag} {mg : Str → Option Value} {base : Heap}
theorem fnE_of {x qual : Str} {params : Arguments} {body : List Stmt} {scope : Scope} {f : Addr} {fd : FuncData} {N ps : List Str} {k : Nat} {sp : SpE} (F : FunD K x qual params body scope [] [] f fd) (S : FnScope N ps scope) (len : ∀ a cls d vs H Q E, sp a cls d vs H Q E → vs.length = ps.length)
    (hb : ∀ (cdv : Value) (A : Around) (outer : List Env) (s : Shared) (H : Hp) (vs : List V) (Q : VK) (E : XK) (q : Addr × Obj) (cls : Value) (d : Option Addr), Zc cls d q.2 → (∃ vs, q.2.data = .fields vs) → sp q.1 cls d vs H Q E →
      ∃ t, PSs (L2H.cxH CX0 P w K mg base N qual scope f cdv A outer s H E q) body t ∧ t { nx := fun _ H' => Q .non H', rt := Q } (start N vs) H) : FnE P w K mg base (k + 1) f fd ps sp := by
  obtain ⟨oc, od, dV, kV, doc, pm, an, cdv, ct, osl, rfl, lk, hcd, _, _⟩ := F.ex
  refine ⟨len, ?_⟩
  intro A outer s H args us vs Q E q cls d hr hpin hz hf e0 hbind r hsp
  have inK : K.In s.heap := e0.mod.kin.keeps fun b o z => (e0.bs b o z).1
  have noL : s.heap.NoLimit := e0.mod.nolimit.keeps fun b o z => (e0.bs b o z).1
  have hlen := len _ _ _ _ _ _ _ hsp
  have par : ∀ y ∈ ps.zip us, scope.names.lookup y.1 = some .local ∨ (scope.names.lookup y.1 = some .cell ∧ ((cellsFrom (s.heap.objs.size + 1) scope.names []).lookup y.1).isSome = true) := by
    rintro ⟨n, v⟩ hy
    cases S.par n (List.of_mem_zip hy).1 with
    | inl z => exact .inl z
    | inr z => exact .inr ⟨z, PySem.W.cellsFrom_some _ _ _ (.inl z)⟩
  have rec_ := PySem.W.codeRec_of inK hcd
  have bind := hbind
  refine codeAny_call_function hr.depth (inK _ _ lk) rfl S.co S.gen rfl rec_ (bind _ _ _ _ ?_)
  refine wpAny_newFunctionEnv_cells S.kind par ?_
  intro env henv s1 hx
  subst henv
  refine ⟨noL.keeps hx.toInCall.keep, codeAny_func ?_⟩
  obtain ⟨t, ht, hq⟩ := hb cdv A outer s H vs Q E q cls d hz hf hsp
  have I := L2H.inv_startH (CX := CX0) (E := E) (qual := qual) (f := f) (cd := cdv) S hpin e0 hlen r hx
  refine wpAny_mono (ht.run [] s1 _ H _ I hq) ?_ fun _ _ z => z
  intro fl s' hs
  cases fl with
  | next =>
    obtain ⟨σ', H', J, z⟩ := hs
    exact ⟨.non, H', J.os, J.bare, J.base, J.hok, rfl, z⟩
  | ret u =>
    obtain ⟨v, σ', H', J, rv, z⟩ := hs
    exact ⟨v, H', J.os, J.bare, J.base, J.hok, rv, z⟩
  | brk => exact hs.elim fun _ z => z.elim fun _ z => False.elim z.2
  | cont => exact hs.elim fun _ z => z.elim fun _ z => False.elim z.2
variable {X : Cx} {k : Nat} {x : Str} {ps : List Str} {sp : SpE} {p pos : Pos} {e : Expr} {es : List Expr} {t : TA}
def tCallE (sp : SpE) (a : Addr) (cls : Value) (d : Option Addr) (t : TA) : TE := fun σ H Q => t σ H fun vs H1 => sp a cls d vs H1 Q E0
theorem pe_dE {a : Addr} {oe : Obj} {cls : Value} {d : Option Addr} (D : KeptE X.prog X.w X.K X.mg X.base k x ps sp) (hr : L2H.RoomH k X.A) (hp : (a, oe) ∈ X.pn) (hz : Zc cls d oe) (hf : ∃ vs, oe.data = .fields vs) (hg : Gl X x) (ha : PA X (e :: es) t)
    (hdb : (x == ("__debug__" : Str)) = false := by decide) (h1 : starEach (e :: es) X.env = (false, eval e X.env) :: starEach es X.env := by rfl) (h2 : (backTo pos (starEach es X.env)).any (·.1) = false := by rfl) : PE X (.Call (.Name x p) (e :: es) [] pos) (tCallE sp a cls d t) := by
  obtain ⟨fd, F, b⟩ := D.fn
  refine ⟨fun pins s σ H Q I hq => ?_⟩
  have go := ha.run pos pins s σ H _ I hq
  refine wpAny_Call_Name_kw (ld_glob I hg D.g ?_ hdb)
  refine PySem.W.callWith_K (h₀ := X.base) I.ok.mod.kin D.kp (thn go fun us s1 hus => ?_) h1 h2
  obtain ⟨vs, H1, I1, r, z⟩ := hus
  refine ⟨I1.kIn, ?_⟩
  have hl : us.length = ps.length := by
    rw [← r.length]
    exact F.len _ _ _ _ _ _ _ z
  have bd := b s1 us I1.kIn (by rw [List.append_nil]; exact hl)
  rw [List.append_nil] at bd
  obtain ⟨g1, g2, g3, g4, g5⟩ := I1.pin (a, oe) (List.mem_append_left _ hp)
  have pin : L2H.PinOk X.stack H1 s1 (a, oe) := ⟨g1, g2, fun hm => by
    rcases List.mem_cons.mp (I1.stkSub a hm) with y | y
    · exact g3 y
    · exact g4 y, g5⟩
  have run := F.run X.A X.stack s1 H1 ⟨us, []⟩ us vs Q E0 (a, oe) cls d hr pin hz hf I1.env0 bd r z
  refine wpAny_call (codeAny_mono run ?_)
  intro res s2 hres
  match res, hres with
  | .ok (.ret u), y => exact I1.after y
/-- isinstance of the exception, wherever it is pinned -/
theorem call_isP {a D : Addr} {oe : Obj} (C : ExcC X.K D) (hp : (a, oe) ∈ X.pn) (hz : Zc (.ref D) none oe) (hf : ∃ vs, oe.data = .fields vs) : CallR X (.builtin "isinstance") (rIsE X.K D a) := by
  intro pins s σ H xs us Q I r hq
  obtain ⟨c, cv, b, rfl, hcv, hk, q⟩ := hq
  cases r with
  | cons r1 rr =>
    cases rr with
    | cons r2 rn =>
      cases rn
      cases r1
      have hc := hcv _ r2
      subst hc
      have g := (I.pin (a, oe) (List.mem_append_left _ hp)).1
      obtain ⟨fs, hfs⟩ := hf
      have at_ : PySem.W.InstAt s.heap a oe D none := by
        obtain ⟨o1, o2, o3, o4⟩ := oe
        obtain ⟨z1, z2⟩ := hz
        simp only at z1 z2 hfs
        subst z1 z2 hfs
        exact ⟨g, rfl, rfl, trivial⟩
      have kit := PySem.W.handS_kitx_exc (x := a) (ox := oe) C.hg C.hk C.hs C.hd C.ha C.hn C.ht C.hm
      refine PySem.W.kia_one kit I.kIn at_ hk (fun z => nomatch z) ?_
      intro tk
      exact ⟨.bl b, H, I.kept (t' := tk) fun _ _ z => z, rfl, q⟩
end
section
variable {K : PySem.W.Frag} {σ : L2.St} {H : Hp} {ta tb : TE} {a D C : Addr} {b : Bool}
theorem ev_isE (ha : Ev ta σ H (.ref a)) (hk : PySem.W.kitOne K (.ref D) (.ref C) = some b) : Ev (tCB (rIsE K D a) (tCons ta (tCons (tC (.ref C)) tNil))) σ H (.bl b) := fun H1 e Q q =>
  ha H1 e _ fun H2 e2 => ⟨.ref C, .ref C, b, rfl, fun u r => r, hk, q H2 e2⟩
theorem ev_isEV {n : String} (ha : Ev ta σ H (.ref a)) (hk : PySem.W.kitOne K (.ref D) (.type n) = some b) : Ev (tCB (rIsE K D a) (tCons ta (tCons (tC (.ty n)) tNil))) σ H (.bl b) := fun H1 e Q q =>
  ha H1 e _ fun H2 e2 => ⟨.ty n, .type n, b, rfl, fun u r => r, hk, q H2 e2⟩
end

end
end Ct
namespace Ct
open PySem PySem.Spec PyProof.Rows L2 Evl
open He (ga ma)
section
variable {P : Program} {w : World} {K : PySem.W.Frag} {mg : Str → Option Value} {base : Heap}
/-! ### rows: what is reckoned -/
def risB (l : Int) : List Int → Int → Bool
  | [], _ => true
  | c :: r, m => (decide (l < c) && decide (c < m)) && risB c r m
def psums (ns : List Int) : List Int := (List.range (ns.length + 1)).map fun k => (ns.take k).sum
theorem psums_len (ns : List Int) : (psums ns).length = ns.length + 1 := by simp [psums]
theorem psums_at {ns : List Int} {k : Nat} (h : k ≤ ns.length) : (psums ns)[k]? = some (ns.take k).sum := by
  unfold psums
  rw [List.getElem?_map, List.getElem?_range (by omega)]
  rfl
theorem psums_end (ns : List Int) : psums ns = ((List.range ns.length).map fun k => (ns.take k).sum) ++ [ns.sum] := by
  unfold psums
  rw [List.range_succ, List.map_append, List.map_singleton, List.take_length]
theorem psums_snoc (ns : List Int) (n : Int) : psums (ns ++ [n]) = psums ns ++ [ns.sum + n] := by
  rw [psums_end (ns ++ [n])]
  congr 1
  · unfold psums
    rw [List.length_append, List.length_singleton]
    apply List.map_congr_left
    intro k hk
    rw [List.take_append_of_le_length (by have := List.mem_range.mp hk; omega)]
  · rw [List.sum_append, List.sum_singleton]
/-- what the parts bear, by the sums ahead -/
def partsP (ns cs : List Int) : List Int := if ns = [] then [] else
  (List.range (cs.length + 1)).map fun k => (ns.take ((cs ++ [(ns.length : Int)]).getD k 0).toNat).sum - (ns.take ((0 :: cs).getD k 0).toNat).sum
def psm (ns : List Int) (x : Int) : Int := (ns.take x.toNat).sum
theorem ris_mem : ∀ {cs : List Int} {l m : Int}, risB l cs m = true → ∀ c ∈ cs, l < c ∧ c < m
  | [], _, _, _, c, h => by cases h
  | d :: r, l, m, h, c, hc => by
    simp only [risB, Bool.and_eq_true, decide_eq_true_eq] at h
    obtain ⟨⟨h1, h2⟩, h3⟩ := h
    rcases List.mem_cons.mp hc with e | hc
    · subst e
      exact ⟨h1, h2⟩
    · have := ris_mem h3 c hc
      omega
/-! ### the promises -/
def F_is_whole (K : PySem.W.Frag) : VF := fun vs H z => ∃ x n b c, vs = [x] ∧ TyX K H x (.type n) ∧ kitB n "int" = some b ∧ kitB n "bool" = some c ∧ z = .bl (b && !c)
def sp_is_whole (K : PySem.W.Frag) : Sp := Pv (F_is_whole K)
theorem m_is_whole : MonoV (F_is_whole K) := fun vs H H1 z e ⟨x, n, b, c, h1, h2, h3⟩ => ⟨x, n, b, c, h1, tyx_ex e h2, h3⟩
theorem F_is_whole_int {H : Hp} {i : Int} : F_is_whole K [.int i] H (.bl true) := ⟨.int i, "int", true, false, rfl, tx_int, by decide +kernel, by decide +kernel, rfl⟩
def F_check_row (_ : PySem.W.Frag) : VF := fun vs H z => ∃ (a : Addr) (ns : List Int), vs = [.ref a] ∧ H a = some (.lst (ns.map V.int)) ∧ ns.length ≤ 1000 ∧ (∀ n ∈ ns, 0 ≤ n ∧ n ≤ 1000000) ∧ z = .non
def sp_check_row (K : PySem.W.Frag) : Sp := Pv (F_check_row K)
theorem m_check_row : MonoV (F_check_row K) := fun vs H H1 z e ⟨a, ns, h1, h2, h3⟩ => ⟨a, ns, h1, e _ _ h2, h3⟩
def F_check_number (_ : PySem.W.Frag) : VF := fun vs H z => ∃ (n l : Int), vs = [.int n, .int l] ∧ l ≤ n ∧ z = .non
def sp_check_number (K : PySem.W.Frag) : Sp := Pv (F_check_number K)
theorem m_check_number : MonoV (F_check_number K) := fun vs H H1 z e h => h
def F_are_cuts (_ : PySem.W.Frag) : VF := fun vs H z => ∃ (a : Addr) (cs : List Int) (m : Int), vs = [.ref a, .int m] ∧ H a = some (.lst (cs.map V.int)) ∧ z = .bl (risB 0 cs m)
def sp_are_cuts (K : PySem.W.Frag) : Sp := Pv (F_are_cuts K)
theorem m_are_cuts : MonoV (F_are_cuts K) := fun vs H H1 z e ⟨a, ns, m, h1, h2, h3⟩ => ⟨a, ns, m, h1, e _ _ h2, h3⟩
def F_check_cuts (_ : PySem.W.Frag) : VF := fun vs H z => ∃ (a : Addr) (cs : List Int) (m : Int), vs = [.ref a, .int m] ∧ H a = some (.lst (cs.map V.int)) ∧ risB 0 cs m = true ∧ z = .non
def sp_check_cuts (K : PySem.W.Frag) : Sp := Pv (F_check_cuts K)
theorem m_check_cuts : MonoV (F_check_cuts K) := fun vs H H1 z e ⟨a, ns, m, h1, h2, h3⟩ => ⟨a, ns, m, h1, e _ _ h2, h3⟩
def F_sums_of (_ : PySem.W.Frag) : LF := fun vs H xs => ∃ (a : Addr) (ns : List Int), vs = [.ref a] ∧ H a = some (.lst (ns.map V.int)) ∧ ns.length ≤ 1000 ∧ xs = (psums ns).map V.int
def sp_sums_of (K : PySem.W.Frag) : Sp := Pl (F_sums_of K)
theorem m_sums_of : MonoL (F_sums_of K) := fun vs H H1 z e ⟨a, ns, h1, h2, h3⟩ => ⟨a, ns, h1, e _ _ h2, h3⟩
def F_parts_of (_ : PySem.W.Frag) : LF := fun vs H xs => ∃ (a c : Addr) (ns cs : List Int), vs = [.ref a, .ref c] ∧ H a = some (.lst (ns.map V.int)) ∧ H c = some (.lst (cs.map V.int)) ∧ ns.length ≤ 1000 ∧ cs.length ≤ 1000 ∧ risB 0 cs ns.length = true ∧ xs = (partsP ns cs).map V.int
def sp_parts_of (K : PySem.W.Frag) : Sp := Pl (F_parts_of K)
theorem m_parts_of : MonoL (F_parts_of K) := fun vs H H1 z e ⟨a, c, ns, cs, h1, h2, h3, h4⟩ => ⟨a, c, ns, cs, h1, e _ _ h2, e _ _ h3, h4⟩
/-! ### the defs -/
theorem sc_is_whole : FnScope ["thing"] ["thing"] (defScope s_is_whole) := ⟨rfl, rfl, rfl, by decide +kernel, rfl, by decide +kernel, by decide +kernel⟩
theorem ok_is_whole (T : Tx K mg) : Kept P w K mg base CX0 1 "is_whole" ["thing"] (sp_is_whole K) := by
  obtain ⟨fd, F⟩ := T.d_is_whole
  refine ⟨⟨fd, F.ok sc_is_whole (fun vs H Q E h => by obtain ⟨_, ⟨_, _, _, _, rfl, _⟩, _⟩ := h; rfl) (fun cdv A outer s H vs Q E hRm h => ?_), F.bindsN fun _ _ _ _ _ _ us hl => match us, hl with | [_], _ => rfl⟩, T.g_is_whole, F.kp⟩
  · obtain ⟨z, ⟨x, n, b, c, rfl, ht, hb, hc, rfl⟩, k⟩ := h
    refine ⟨_, (PSs.nox (pss_one (ps_ret (pe_and (pe_callB call_isi (by rfl) T.z_isinstance bo_isinstance (pa_cons (pv 0) (pa_cons (pe_bltn (v := .ty "int") (by rfl) T.z_int bo_int rfl) pa_nil))) (pe_one (pe_not (pe_callB call_isi (by rfl) T.z_isinstance bo_isinstance (pa_cons (pv 0) (pa_cons (pe_bltn (v := .ty "bool") (by rfl) T.z_bool bo_bool rfl) pa_nil))))))))), ?_⟩
    exact s_ret (ev_andV (ev_isT (ev_var rfl) ht hb) fun _ => ev_notV (ev_isT (ev_var rfl) ht hc)) fun H1 e => k H1 e
theorem sc_check_row : FnScope ["row", "load"] ["row"] (defScope s_check_row) := ⟨rfl, rfl, rfl, by decide +kernel, rfl, by decide +kernel, by decide +kernel⟩
theorem ok_check_row (T : Tx K mg) : Kept P w K mg base CX0 2 "check_row" ["row"] (sp_check_row K) := by
  have D_is_whole : Kept P w K mg base CX0 1 "is_whole" ["thing"] (sp_is_whole K) := ok_is_whole T
  obtain ⟨t_GREATEST, c_GREATEST⟩ := T.c_GREATEST
  obtain ⟨t_LONGEST, c_LONGEST⟩ := T.c_LONGEST
  obtain ⟨fd, F⟩ := T.d_check_row
  refine ⟨⟨fd, F.ok sc_check_row (fun vs H Q E h => by obtain ⟨_, ⟨_, _, rfl, _⟩, _⟩ := h; rfl) (fun cdv A outer s H vs Q E hRm h => ?_), F.bindsN fun _ _ _ _ _ _ us hl => match us, hl with | [_], _ => rfl⟩, T.g_check_row, F.kp⟩
  · obtain ⟨z, ⟨a, ns, rfl, ha, hl, hn, rfl⟩, k⟩ := h
    refine ⟨_, (PSs.nox (pss_cons (ps_if (PW.pt (pw_or (pt_not (pt_val (pe_callB call_isi (by rfl) T.z_isinstance bo_isinstance (pa_cons (pv 0) (pa_cons (pe_bltn (v := .ty "list") (by rfl) T.z_list bo_list rfl) pa_nil))))) (pw_or1 (pt_cmpR op_gt (pe_callB call_len_seq (by rfl) T.z_len bo_len (pa_cons (pv 0) pa_nil)) (pe_glob (v := .int 1000000) (by rfl) c_LONGEST ⟨_, rfl⟩) (nomark _))))) (pss_one ps_never) pss_nil) (pss_one (ps_if (pt_not (pt_val (pe_callB (cr_all rfl) (by rfl) T.z_all bo_all (pa_cons (pe_lc (own := [("load", 1)]) (g := gName 1) (tt := tYes) rfl sc_check_row.nd (pi_list (pv 0)) (blkOk_by (N := ["row", "load"]) (sc := defScope s_check_row) (by decide +kernel)) (fun _ _ _ _ _ => pg_name (i := 1) sc_check_row.nd rfl (Or.inl rfl)) (fun _ _ _ _ _ => pts_nil) (fun _ _ _ _ _ => (pe_and (pe_d D_is_whole (hRm.mono (by decide)) (by rfl) (pa_cons (pv 1) pa_nil)) (pe_one (pe_chain op_le op_le pe_int (pv 1) (pe_glob (v := .int 1000000) (by rfl) c_GREATEST ⟨_, rfl⟩)))))) pa_nil)))) (pss_one ps_never) pss_nil)))), ?_⟩
    refine q_when (b := false) (et_is (et_or (et_not (et_B (ev_isT (b := true) (ev_var rfl) (tx_lst ha) (by decide +kernel)))) fun _ => et_test (ev_op (ev_ln (ev_var rfl) (.inl (sq_of ha))) ev_c rv_I0)) ?_) (fun h => by cases h) fun _ H1 e1 => ?_
    · rw [List.length_map]
      simp
      omega
    have ha1 := e1 _ _ ha
    refine s_when (b := false) (et_is (et_not (et_B (ev_allN (el_mapIB (fun n => true && (decide (0 ≤ n) && decide (n ≤ 1000000))) (ev_var rfl) (sq_of ha1) (by omega) (fun x => rfl) fun n H2 e2 hm =>
      ev_andV (ev_callV m_is_whole (ea_cons (ev_var rfl) ea_nil) F_is_whole_int) fun _ => ev_ch ev_c (ev_var rfl) rv_I0 (fun _ => ev_c) fun _ => rv_I0)))) ?_) (fun h => by cases h) fun _ H2 e2 => k _ (e1.trans e2)
    rw [Bool.not_eq_false', List.all_eq_true]
    intro b hb
    obtain ⟨n, hm, rfl⟩ := List.mem_map.mp hb
    have := hn n hm
    simp [this.1, this.2]
theorem sc_are_cuts : FnScope ["cuts", "many", "last", "cut"] ["cuts", "many"] (defScope s_are_cuts) := ⟨rfl, rfl, rfl, by decide +kernel, rfl, by decide +kernel, by decide +kernel⟩
theorem ok_are_cuts (T : Tx K mg) : Kept P w K mg base CX0 2 "are_cuts" ["cuts", "many"] (sp_are_cuts K) := by
  have D_is_whole : Kept P w K mg base CX0 1 "is_whole" ["thing"] (sp_is_whole K) := ok_is_whole T
  obtain ⟨fd, F⟩ := T.d_are_cuts
  refine ⟨⟨fd, F.ok sc_are_cuts (fun vs H Q E h => by obtain ⟨_, ⟨_, _, _, rfl, _⟩, _⟩ := h; rfl) (fun cdv A outer s H vs Q E hRm h => ?_), F.bindsN fun _ _ _ _ _ _ us hl => match us, hl with | [_, _], _ => rfl⟩, T.g_are_cuts, F.kp⟩
  · obtain ⟨z, ⟨a, cs, m, rfl, ha, rfl⟩, k⟩ := h
    refine ⟨_, (PSs.nox (pss_cons (ps_set (i := 2) sc_are_cuts.nd rfl (Or.inl rfl) pe_int) (pss_cons (ps_for PassesOwn.never rfl (pi_list (pv 0)) (pg_name (i := 3) sc_are_cuts.nd rfl (Or.inl rfl)) (pss_cons (ps_if (PW.pt (pw_or (pt_not (pt_val (pe_d D_is_whole (hRm.mono (by decide)) (by rfl) (pa_cons (pv 3) pa_nil)))) (pw_or1 (pt_not (pt_chain op_lt op_lt (pv 2) (pv 3) (pv 1)))))) (pss_one (ps_ret pe_bl)) pss_nil) (pss_one (ps_set (i := 2) sc_are_cuts.nd rfl (Or.inl rfl) (pv 3))))) (pss_one (ps_ret pe_bl))))), ?_⟩
    refine q_asg ev_c fun H1 e1 => ?_
    refine q_forLn (ev_var rfl) (sq_of (e1 _ _ ha)) (fun i σ' H' => ∃ l v, σ' = [some (.ref a), some (.int m), some (.int l), v] ∧ Ex H H' ∧ risB 0 cs m = risB l (cs.drop i) m) (fun H2 e2 => ⟨0, none, rfl, e1.trans e2, rfl⟩) (fun i σ' H' _ ⟨_, _, _, e, _⟩ => sq_of (e _ _ ha)) ?_ ?_
    · rintro i x σ' H' hi ⟨l, v, rfl, e, hr⟩
      obtain ⟨c, rfl, hc⟩ := int_at hi
      rw [drop_at hc] at hr
      refine q_when (b := !(decide (l < c) && decide (c < m))) (et_is (et_or (et_not (et_B (ev_callV m_is_whole (ea_cons (ev_var rfl) ea_nil) F_is_whole_int))) fun _ => et_not (et_ch (ev_var rfl) (ev_var rfl) rv_I0 (fun _ => ev_var rfl) fun _ => rv_I0)) (by simp)) (fun hb H2 e2 => s_ret ev_c fun H3 e3 => ?_) fun hb H2 e2 => s_asg (ev_var rfl) fun H3 e3 => ⟨c, _, rfl, (e.trans e2).trans e3, ?_⟩
      · have e0 : risB 0 cs m = false := by
          rw [hr, risB]
          rw [Bool.not_eq_true'] at hb
          rw [hb, Bool.false_and]
        rw [e0] at k
        exact k _ ((e.trans e2).trans e3)
      · rw [hr, risB]
        rw [Bool.not_eq_false'] at hb
        rw [hb, Bool.true_and]
    · rintro σ' H' ⟨l, v, rfl, e, hr⟩
      refine s_ret ev_c fun H3 e3 => ?_
      have e0 : risB 0 cs m = true := by
        rw [hr, List.drop_eq_nil_of_le (by rw [List.length_map]; exact Nat.le_refl _)]
        rfl
      rw [e0] at k
      exact k _ (e.trans e3)
theorem sc_check_cuts : FnScope ["cuts", "many"] ["cuts", "many"] (defScope s_check_cuts) := ⟨rfl, rfl, rfl, by decide +kernel, rfl, by decide +kernel, by decide +kernel⟩
theorem ok_check_cuts (T : Tx K mg) : Kept P w K mg base CX0 3 "check_cuts" ["cuts", "many"] (sp_check_cuts K) := by
  have D_are_cuts : Kept P w K mg base CX0 2 "are_cuts" ["cuts", "many"] (sp_are_cuts K) := ok_are_cuts T
  obtain ⟨fd, F⟩ := T.d_check_cuts
  refine ⟨⟨fd, F.ok sc_check_cuts (fun vs H Q E h => by obtain ⟨_, ⟨_, _, _, rfl, _⟩, _⟩ := h; rfl) (fun cdv A outer s H vs Q E hRm h => ?_), F.bindsN fun _ _ _ _ _ _ us hl => match us, hl with | [_, _], _ => rfl⟩, T.g_check_cuts, F.kp⟩
  · obtain ⟨z, ⟨a, cs, m, rfl, ha, hr, rfl⟩, k⟩ := h
    refine ⟨_, (PSs.nox (pss_one (ps_if (PW.pt (pw_or (pt_not (pt_val (pe_callB call_isi (by rfl) T.z_isinstance bo_isinstance (pa_cons (pv 0) (pa_cons (pe_bltn (v := .ty "list") (by rfl) T.z_list bo_list rfl) pa_nil))))) (pw_or1 (pt_not (pt_val (pe_d D_are_cuts (hRm.mono (by decide)) (by rfl) (pa_cons (pv 0) (pa_cons (pv 1) pa_nil)))))))) (pss_one ps_never) pss_nil))), ?_⟩
    exact s_when (b := false) (et_is (et_or (et_not (et_B (ev_isT (b := true) (ev_var rfl) (tx_lst ha) (by decide +kernel)))) fun _ => et_not (et_B (ev_callV m_are_cuts (ea_cons (ev_var rfl) (ea_cons (ev_var rfl) ea_nil)) ⟨a, cs, m, rfl, ha, rfl⟩))) (by rw [hr]; rfl)) (fun h => by cases h) fun _ H1 e1 => k _ e1
/-! ### borne, halved -/
def apartP (ns : List Int) : List Int := (psums ns).map fun s => if 2 * s - ns.sum < 0 then -(2 * s - ns.sum) else 2 * s - ns.sum
def halvedP (ns : List Int) : Nat := (apartP ns).findIdx (· == mnL (apartP ns))
def F_borne (_ : PySem.W.Frag) : LF := fun vs H xs => ∃ (a c : Addr) (ns cs : List Int), vs = [.ref a, .ref c] ∧ H a = some (.lst (ns.map V.int)) ∧ H c = some (.lst (cs.map V.int)) ∧ ns.length ≤ 1000 ∧ cs.length ≤ 1000 ∧ (∀ n ∈ ns, 0 ≤ n ∧ n ≤ 1000000) ∧ risB 0 cs ns.length = true ∧ xs = (partsP ns cs).map V.int
def sp_borne (K : PySem.W.Frag) : Sp := Pl (F_borne K)
theorem m_borne : MonoL (F_borne K) := fun vs H H1 z e ⟨a, c, ns, cs, h1, h2, h3, h4⟩ => ⟨a, c, ns, cs, h1, e _ _ h2, e _ _ h3, h4⟩
def F_halved (_ : PySem.W.Frag) : VF := fun vs H z => ∃ (a : Addr) (ns : List Int), vs = [.ref a] ∧ H a = some (.lst (ns.map V.int)) ∧ ns.length ≤ 1000 ∧ (∀ n ∈ ns, 0 ≤ n ∧ n ≤ 1000000) ∧ z = .int (halvedP ns : Nat)
def sp_halved (K : PySem.W.Frag) : Sp := Pv (F_halved K)
theorem m_halved : MonoV (F_halved K) := fun vs H H1 z e ⟨a, ns, h1, h2, h3⟩ => ⟨a, ns, h1, e _ _ h2, h3⟩

end
end Ct
namespace Ct
open PySem PySem.Spec PyProof.Rows L2 Evl
open He (ga ma)
section
variable {P : Program} {w : World} {K : PySem.W.Frag} {mg : Str → Option Value} {base : Heap}
/-! ### the laws' own helpers: what is reckoned -/
def primesL : List Int := [1000003, 1000033, 1000037, 1000039, 1000081, 1000099, 1000117, 1000121, 1000133, 1000151, 1000159, 1000171, 1000183, 1000187, 1000193, 1000199]
def cellZ (ns : List Int) (k : Int) : Int := if k < ns.length then ns.getD k.toNat 0 else 0
def drawZ (c k m : Int) : Int := (c * 48271 + k * 69621) % (primesL.getD (k % 16).toNat 0) % m
theorem primes_at {k : Int} (h0 : 0 ≤ k) : ∃ p, primesL[(k % 16).toNat]? = some p ∧ 0 < p ∧ primesL.getD (k % 16).toNat 0 = p := by
  have h1 : (k % 16).toNat < 16 := by omega
  generalize (k % 16).toNat = j at h1
  have : ∀ j : Fin 16, ∃ p, primesL[j.val]? = some p ∧ 0 < p ∧ primesL.getD j.val 0 = p := by decide +kernel
  exact this ⟨j, h1⟩
theorem drawZ_lo {c k m : Int} (hm : 0 < m) : 0 ≤ drawZ c k m := Int.emod_nonneg _ (by omega)
theorem drawZ_hi {c k m : Int} (hm : 0 < m) : drawZ c k m < m := Int.emod_lt_of_pos _ hm
def mostZ (d : Int) : Int := [3, 30, 1000001, 10].getD d.toNat 0
theorem mostZ_at {d : Int} (h0 : 0 ≤ d) (h1 : d < 4) : ([3, 30, 1000001, 10] : List Int)[d.toNat]? = some (mostZ d) ∧ 3 ≤ mostZ d ∧ mostZ d ≤ 1000001 := by
  have h2 : d.toNat < 4 := by omega
  unfold mostZ
  generalize d.toNat = j at h2
  have : ∀ j : Fin 4, ([3, 30, 1000001, 10] : List Int)[j.val]? = some (([3, 30, 1000001, 10] : List Int).getD j.val 0) ∧ 3 ≤ ([3, 30, 1000001, 10] : List Int).getD j.val 0 ∧ ([3, 30, 1000001, 10] : List Int).getD j.val 0 ≤ 1000001 := by decide +kernel
  exact this ⟨j, h2⟩
def load1 (most : Int) (c : Int) (k : Nat) : Int := drawZ c ((k : Int) % 5 + 1) most
def load2 (kind most : Int) (c : Int) (k : Nat) : Int := if (decide (kind = 1) && decide (0 < drawZ c ((k : Int) % 7 + 1) 3)) = true then 0 else load1 most c k
def load3 (kind most : Int) (c : Int) (k : Nat) : Int := if decide (kind = 2) = true then most / 2 + load2 kind most c k % 2 else load2 kind most c k
def kindZ (ns : List Int) : Int := drawZ (cellZ ns 0) 6 4
def mostL (ns : List Int) : Int := mostZ (drawZ (cellZ ns 1) 7 4)
def lawRow (ns : List Int) : List Int := (List.range ns.length).map fun k => load3 (kindZ ns) (mostL ns) (ns.getD k 0) k
theorem lawRow_len (ns : List Int) : (lawRow ns).length = ns.length := by simp [lawRow]
theorem mostL_ok (ns : List Int) : 3 ≤ mostL ns ∧ mostL ns ≤ 1000001 := (mostZ_at (drawZ_lo (by decide)) (drawZ_hi (by decide))).2
theorem lawRow_ok (ns : List Int) : ∀ n ∈ lawRow ns, 0 ≤ n ∧ n ≤ 1000000 := by
  intro n hn
  obtain ⟨k, _, rfl⟩ := List.mem_map.mp hn
  obtain ⟨m0, m1⟩ := mostL_ok ns
  have l1 : 0 ≤ load1 (mostL ns) (ns.getD k 0) k ∧ load1 (mostL ns) (ns.getD k 0) k < mostL ns := ⟨drawZ_lo (by omega), drawZ_hi (by omega)⟩
  have l2 : 0 ≤ load2 (kindZ ns) (mostL ns) (ns.getD k 0) k ∧ load2 (kindZ ns) (mostL ns) (ns.getD k 0) k < mostL ns := by
    unfold load2
    split
    · omega
    · exact l1
  unfold load3
  split <;> omega
/-- a place's load put behind -/
def addLast (f : List Int) (n : Int) : List Int := f.dropLast ++ [f.getLastD 0 + n]
def bornePut (cs : List Int) : Nat → List Int → List Int → List Int
  | _, [], f => f
  | i, n :: r, f => bornePut cs (i + 1) r (addLast (if decide ((i : Int) ∈ cs) = true then f ++ [0] else f) n)
def borneL (ns cs : List Int) : List Int := if ns = [] then [] else bornePut cs 0 ns [0]
theorem bornePut_snoc (cs : List Int) (n : Int) : ∀ (r : List Int) (i : Nat) (f : List Int), bornePut cs i (r ++ [n]) f = addLast (if decide (((i + r.length : Nat) : Int) ∈ cs) = true then bornePut cs i r f ++ [0] else bornePut cs i r f) n
  | [], i, f => rfl
  | a :: r, i, f => by
    rw [List.cons_append, bornePut, bornePut_snoc cs n r (i + 1)]
    rw [show i + 1 + r.length = i + (a :: r).length by simp; omega]
    rfl
theorem addLast_len (f : List Int) (n : Int) (h : f ≠ []) : (addLast f n).length = f.length := by
  unfold addLast
  have := List.length_pos_iff.mpr h
  simp
  omega
theorem addLast_ne (f : List Int) (n : Int) : addLast f n ≠ [] := by simp [addLast]
theorem bornePut_ne (cs : List Int) : ∀ (r : List Int) (i : Nat) (f : List Int), f ≠ [] → bornePut cs i r f ≠ []
  | [], _, _, h => h
  | a :: r, i, f, h => bornePut_ne cs r (i + 1) _ (addLast_ne _ _)
theorem bornePut_len (cs : List Int) : ∀ (r : List Int) (i : Nat) (f : List Int), f ≠ [] → (bornePut cs i r f).length ≤ f.length + r.length
  | [], _, _, _ => Nat.le_refl _
  | a :: r, i, f, h => by
    have h1 := bornePut_len cs r (i + 1) (addLast (if decide ((i : Int) ∈ cs) = true then f ++ [0] else f) a) (addLast_ne _ _)
    have h2 : (addLast (if decide ((i : Int) ∈ cs) = true then f ++ [0] else f) a).length ≤ f.length + 1 := by
      split
      · rw [addLast_len _ _ (by simp)]
        simp
      · rw [addLast_len _ _ h]
        omega
    rw [bornePut, List.length_cons]
    omega
/-! ### the promises -/
def F__law_cell_at (K : PySem.W.Frag) : VF := fun vs H z => ∃ (a : Addr) (ns : List Int) (k : Int), vs = [.ref a, .int k] ∧ SqL K H a (ns.map V.int) ∧ 0 ≤ k ∧ z = .int (cellZ ns k)
def sp__law_cell_at (K : PySem.W.Frag) : Sp := Pv (F__law_cell_at K)
theorem m__law_cell_at : MonoV (F__law_cell_at K) := fun vs H H1 z e ⟨a, ns, k, h1, h2, h3⟩ => ⟨a, ns, k, h1, ex_l e h2, h3⟩
def F__law_draw (_ : PySem.W.Frag) : VF := fun vs H z => ∃ (c k m : Int), vs = [.int c, .int k, .int m] ∧ 0 ≤ k ∧ 0 < m ∧ z = .int (drawZ c k m)
def sp__law_draw (K : PySem.W.Frag) : Sp := Pv (F__law_draw K)
theorem m__law_draw : MonoV (F__law_draw K) := fun vs H H1 z e h => h
def F__law_row (K : PySem.W.Frag) : LF := fun vs H xs => ∃ (a : Addr) (ns : List Int), vs = [.ref a] ∧ SqL K H a (ns.map V.int) ∧ ns.length ≤ 63 ∧ xs = (lawRow ns).map V.int
def sp__law_row (K : PySem.W.Frag) : Sp := Pl (F__law_row K)
theorem m__law_row : MonoL (F__law_row K) := fun vs H H1 z e ⟨a, ns, h1, h2, h3⟩ => ⟨a, ns, h1, ex_l e h2, h3⟩
def F__law_numbers (_ : PySem.W.Frag) : VF := fun vs H z => ∃ (a : Addr) (ns : List Int), vs = [.ref a] ∧ H a = some (.lst (ns.map V.int)) ∧ ns.length ≤ 1000 ∧ z = .bl true
def sp__law_numbers (K : PySem.W.Frag) : Sp := Pv (F__law_numbers K)
theorem m__law_numbers : MonoV (F__law_numbers K) := fun vs H H1 z e ⟨a, ns, h1, h2, h3⟩ => ⟨a, ns, h1, e _ _ h2, h3⟩
def F__law_rising (_ : PySem.W.Frag) : VF := fun vs H z => ∃ (a : Addr) (cs : List Int) (l m : Int), vs = [.ref a, .int l, .int m] ∧ H a = some (.lst (cs.map V.int)) ∧ z = .bl (risB (l - 1) cs m)
def sp__law_rising (K : PySem.W.Frag) : Sp := Pv (F__law_rising K)
theorem m__law_rising : MonoV (F__law_rising K) := fun vs H H1 z e ⟨a, ns, l, m, h1, h2, h3⟩ => ⟨a, ns, l, m, h1, e _ _ h2, h3⟩
def F__law_borne (_ : PySem.W.Frag) : LF := fun vs H xs => ∃ (a c : Addr) (ns cs : List Int), vs = [.ref a, .ref c] ∧ H a = some (.lst (ns.map V.int)) ∧ H c = some (.lst (cs.map V.int)) ∧ ns.length ≤ 1000 ∧ xs = (borneL ns cs).map V.int
def sp__law_borne (K : PySem.W.Frag) : Sp := Pl (F__law_borne K)
theorem m__law_borne : MonoL (F__law_borne K) := fun vs H H1 z e ⟨a, c, ns, cs, h1, h2, h3, h4⟩ => ⟨a, c, ns, cs, h1, e _ _ h2, e _ _ h3, h4⟩
/-! ### the defs -/
theorem sc__law_cell_at : FnScope ["_law_script", "_law_k"] ["_law_script", "_law_k"] (defScope s__law_cell_at) := ⟨rfl, rfl, rfl, by decide +kernel, rfl, by decide +kernel, by decide +kernel⟩
theorem ok__law_cell_at (T : Tx K mg) : Kept P w K mg base CX0 1 "_law_cell_at" ["_law_script", "_law_k"] (sp__law_cell_at K) := by
  obtain ⟨fd, F⟩ := T.d__law_cell_at
  refine ⟨⟨fd, F.ok sc__law_cell_at (fun vs H Q E h => by obtain ⟨_, ⟨_, _, _, rfl, _⟩, _⟩ := h; rfl) (fun cdv A outer s H vs Q E hRm h => ?_), F.bindsN fun _ _ _ _ _ _ us hl => match us, hl with | [_, _], _ => rfl⟩, T.g__law_cell_at, F.kp⟩
  · obtain ⟨z, ⟨a, ns, j, rfl, ha, hj, rfl⟩, k⟩ := h
    refine ⟨_, (PSs.nox (pss_cons (ps_if (pt_cmpR op_lt (pv 1) (pe_callB call_len_seq (by rfl) T.z_len bo_len (pa_cons (pv 0) pa_nil)) (nomark _)) (pss_one (ps_ret (pe_ix ix_list (pv 0) (pv 1) (fun _ _ => rfl)))) pss_nil) (pss_one (ps_ret pe_int)))), ?_⟩
    refine q_when (b := decide (j < ns.length)) (et_is (et_test (ev_op (ev_var rfl) (ev_ln (ev_var rfl) (.inl ha)) rv_I0)) (by rw [List.length_map])) (fun hb H1 e1 => ?_) fun hb H1 e1 => ?_
    · have hb2 := of_decide_eq_true hb
      have e0 : cellZ ns j = ns.getD j.toNat 0 := if_pos hb2
      rw [e0] at k
      refine s_ret (ev_ixI (n := ns.getD j.toNat 0) (ev_var rfl) (ex_l e1 ha) (ev_var rfl) hj ?_) fun H2 e2 => k _ (e1.trans e2)
      rw [List.getD_eq_getElem?_getD, List.getElem?_eq_getElem (by omega)]
      rfl
    · have hb2 := of_decide_eq_false hb
      have e0 : cellZ ns j = 0 := if_neg hb2
      rw [e0] at k
      exact s_ret ev_c fun H2 e2 => k _ (e1.trans e2)
theorem sc__law_draw : FnScope ["_law_cell", "_law_k", "_law_many", "_law_primes"] ["_law_cell", "_law_k", "_law_many"] (defScope s__law_draw) := ⟨rfl, rfl, rfl, by decide +kernel, rfl, by decide +kernel, by decide +kernel⟩
theorem ok__law_draw (T : Tx K mg) : Kept P w K mg base CX0 1 "_law_draw" ["_law_cell", "_law_k", "_law_many"] (sp__law_draw K) := by
  obtain ⟨fd, F⟩ := T.d__law_draw
  refine ⟨⟨fd, F.ok sc__law_draw (fun vs H Q E h => by obtain ⟨_, ⟨_, _, _, rfl, _⟩, _⟩ := h; rfl) (fun cdv A outer s H vs Q E hRm h => ?_), F.bindsN fun _ _ _ _ _ _ us hl => match us, hl with | [_, _, _], _ => rfl⟩, T.g__law_draw, F.kp⟩
  · obtain ⟨z, ⟨c, j, m, rfl, hj, hm, rfl⟩, k⟩ := h
    refine ⟨_, (PSs.nox (pss_cons (ps_set (i := 3) sc__law_draw.nd rfl (Or.inl rfl) (pe_tup (pa_cons pe_int (pa_cons pe_int (pa_cons pe_int (pa_cons pe_int (pa_cons pe_int (pa_cons pe_int (pa_cons pe_int (pa_cons pe_int (pa_cons pe_int (pa_cons pe_int (pa_cons pe_int (pa_cons pe_int (pa_cons pe_int (pa_cons pe_int (pa_cons pe_int (pa_cons pe_int pa_nil)))))))))))))))))) (pss_one (ps_ret (pe_op op_mod (pe_op op_mod (pe_op op_add (pe_op op_mul (pv 0) pe_int) (pe_op op_mul (pv 1) pe_int)) (pe_ix ix_tup (pv 3) (pe_op op_mod (pv 1) pe_int) (fun _ _ => rfl))) (pv 2)))))), ?_⟩
    refine q_asgU (eu_tup (vs := primesL.map V.int) (by
      unfold primesL
      exact ea_cons ev_c (ea_cons ev_c (ea_cons ev_c (ea_cons ev_c (ea_cons ev_c (ea_cons ev_c (ea_cons ev_c (ea_cons ev_c (ea_cons ev_c (ea_cons ev_c (ea_cons ev_c (ea_cons ev_c (ea_cons ev_c (ea_cons ev_c (ea_cons ev_c (ea_cons ev_c ea_nil)))))))))))))))) (by decide)) fun p H1 hp e1 h1 => ?_
    obtain ⟨pr, hpr, hp0, hpe⟩ := primes_at hj
    have hd : drawZ c j m = (c * 48271 + j * 69621) % pr % m := by unfold drawZ; rw [hpe]
    rw [hd] at k
    exact s_ret (ev_op (ev_op (ev_op (ev_op (ev_var rfl) ev_c (rv_I (.inr ⟨by decide, by decide⟩))) (ev_op (ev_var rfl) ev_c (rv_I (.inr ⟨by decide, by decide⟩))) rv_I0)
      (ev_op (ev_var rfl) (ev_op (ev_var rfl) ev_c (rv_I (by decide))) (rv_ixT (st_of h1) (by
        rw [show j % 16 = (((j % 16).toNat : Nat) : Int) by omega]
        exact at_int hpr))) (rv_I hp0)) (ev_var rfl) (rv_I hm)) fun H2 e2 => k _ (e1.trans e2)
theorem sc__law_row : FnScope ["_law_script", "_law_kind", "_law_most", "_law_row_here", "_law_k", "_law_load"] ["_law_script"] (defScope s__law_row) := ⟨rfl, rfl, rfl, by decide +kernel, rfl, by decide +kernel, by decide +kernel⟩
theorem ok__law_row (T : Tx K mg) : Kept P w K mg base CX0 2 "_law_row" ["_law_script"] (sp__law_row K) := by
  have D__law_cell_at : Kept P w K mg base CX0 1 "_law_cell_at" ["_law_script", "_law_k"] (sp__law_cell_at K) := ok__law_cell_at T
  have D__law_draw : Kept P w K mg base CX0 1 "_law_draw" ["_law_cell", "_law_k", "_law_many"] (sp__law_draw K) := ok__law_draw T
  obtain ⟨fd, F⟩ := T.d__law_row
  refine ⟨⟨fd, F.ok sc__law_row (fun vs H Q E h => by obtain ⟨_, ⟨_, _, rfl, _⟩, _⟩ := h; rfl) (fun cdv A outer s H vs Q E hRm h => ?_), F.bindsN fun _ _ _ _ _ _ us hl => match us, hl with | [_], _ => rfl⟩, T.g__law_row, F.kp⟩
  · obtain ⟨z, ⟨a, ns, rfl, ha, hl, rfl⟩, k⟩ := h
    refine ⟨_, (PSs.nox (pss_cons (ps_set (i := 1) sc__law_row.nd rfl (Or.inl rfl) (pe_d D__law_draw (hRm.mono (by decide)) (by rfl) (pa_cons (pe_d D__law_cell_at (hRm.mono (by decide)) (by rfl) (pa_cons (pv 0) (pa_cons pe_int pa_nil))) (pa_cons pe_int (pa_cons pe_int pa_nil))))) (pss_cons (ps_set (i := 2) sc__law_row.nd rfl (Or.inl rfl) (pe_ix ix_tup (pe_tup (pa_cons pe_int (pa_cons pe_int (pa_cons pe_int (pa_cons pe_int pa_nil))))) (pe_d D__law_draw (hRm.mono (by decide)) (by rfl) (pa_cons (pe_d D__law_cell_at (hRm.mono (by decide)) (by rfl) (pa_cons (pv 0) (pa_cons pe_int pa_nil))) (pa_cons pe_int (pa_cons pe_int pa_nil)))) (fun _ _ => rfl))) (pss_cons (ps_set (i := 3) sc__law_row.nd rfl (Or.inl rfl) (pe_lst pa_nil)) (pss_cons (ps_for PassesOwn.never rfl (pi_range1 (by rfl) T.z_range (pa_cons (pe_callB call_len_seq (by rfl) T.z_len bo_len (pa_cons (pv 0) pa_nil)) pa_nil)) (pg_name (i := 4) sc__law_row.nd rfl (Or.inl rfl)) (pss_cons (ps_set (i := 5) sc__law_row.nd rfl (Or.inl rfl) (pe_d D__law_draw (hRm.mono (by decide)) (by rfl) (pa_cons (pe_ix ix_list (pv 0) (pv 4) (fun _ _ => rfl)) (pa_cons (pe_op op_add (pe_op op_mod (pv 4) pe_int) pe_int) (pa_cons (pv 2) pa_nil))))) (pss_cons (ps_if (PW.pt (pw_and (pt_cmpR op_eq (pv 1) pe_int (nomark _)) (pw_and1 (pt_cmpR op_gt (pe_d D__law_draw (hRm.mono (by decide)) (by rfl) (pa_cons (pe_ix ix_list (pv 0) (pv 4) (fun _ _ => rfl)) (pa_cons (pe_op op_add (pe_op op_mod (pv 4) pe_int) pe_int) (pa_cons pe_int pa_nil)))) pe_int (nomark _))))) (pss_one (ps_set (i := 5) sc__law_row.nd rfl (Or.inl rfl) pe_int)) pss_nil) (pss_cons (ps_if (pt_cmpR op_eq (pv 1) pe_int (nomark _)) (pss_one (ps_set (i := 5) sc__law_row.nd rfl (Or.inl rfl) (pe_op op_add (pe_op op_fdiv (pv 2) pe_int) (pe_op op_mod (pv 5) pe_int)))) pss_nil) (pss_one (ps_expr (pe_bm PySem.F.plainAttrs_list PySem.F.slot_list_append PySem.F.type_list_append mt_append (pv 3) (pa_cons (pv 5) pa_nil)))))))) (pss_one (ps_ret (pv 3)))))))), ?_⟩
    refine q_asg (v := .int (kindZ ns)) (ev_callV m__law_draw (ea_cons (ev_callV m__law_cell_at (ea_cons (ev_var rfl) (ea_cons ev_c ea_nil)) ⟨a, ns, 0, rfl, ha, by decide, rfl⟩) (ea_cons ev_c (ea_cons ev_c ea_nil))) ⟨_, 6, 4, rfl, by decide, by decide, rfl⟩) fun H1 e1 => ?_
    obtain ⟨hm1, hm2, hm3⟩ := mostZ_at (d := drawZ (cellZ ns 1) 7 4) (drawZ_lo (by decide)) (drawZ_hi (by decide))
    refine q_asg (v := .int (mostL ns)) (fun H2 e2 Q q => r_tup (r_cons (r_ev ev_c fun H3 e3 => r_cons (r_ev ev_c fun H4 e4 => r_cons (r_ev ev_c fun H5 e5 => r_cons (r_ev ev_c fun H6 e6 => r_nil ⟨by decide, fun p hp => ?_⟩))))) ) fun H2 e2 => ?_
    · have eb : Ex H2 (upd H6 p (.tup [.int 3, .int 30, .int 1000001, .int 10])) := (((e3.trans e4).trans e5).trans e6).trans (Ex.new hp)
      refine r_ev (ev_callV m__law_draw (ea_cons (ev_callV m__law_cell_at (ea_cons (ev_var rfl) (ea_cons ev_c ea_nil)) ⟨a, ns, 1, rfl, ex_l ((e1.trans e2).trans eb) ha, by decide, rfl⟩) (ea_cons ev_c (ea_cons ev_c ea_nil))) ⟨_, 7, 4, rfl, by decide, by decide, rfl⟩) fun H7 e7 => ?_
      refine rv_ixT (xs := ([3, 30, 1000001, 10] : List Int).map V.int) (st_of (e7 _ _ upd_same)) ?_ H7 (Ex.refl _) Q fun H8 e8 => q _ ((eb.trans e7).trans e8)
      rw [show drawZ (cellZ ns 1) 7 4 = (((drawZ (cellZ ns 1) 7 4).toNat : Nat) : Int) by have := drawZ_lo (c := cellZ ns 1) (k := 7) (m := 4) (by decide); omega]
      exact at_int hm1
    have e12 := e1.trans e2
    refine q_asgL (el_lst ea_nil (by decide)) fun p H3 hp e3 h3 => ?_
    have hp0 := fresh_back e12 hp
    refine q_forR1 (n := (ns.length : Int)) (ea_cons (ev_is (ev_ln (ev_var rfl) (.inl (ex_l (e12.trans e3) ha))) (by rw [List.length_map])) ea_nil) (by omega)
      (fun i σ' H' => ∃ v ld, σ' = [some (.ref a), some (.int (kindZ ns)), some (.int (mostL ns)), some (.ref p), v, ld] ∧ Ex H H' ∧ H' p = some (.lst (((List.range i).map fun k => load3 (kindZ ns) (mostL ns) (ns.getD k 0) k).map V.int)))
      (fun H4 e4 => ⟨none, none, rfl, (e12.trans e3).trans e4, e4 _ _ h3⟩) ?_ ?_
    · rintro i σ' H' hi ⟨v, ld, rfl, e, hH⟩
      have hi2 : i < ns.length := by omega
      have hat : ns[((i : Int)).toNat]? = some (ns.getD i 0) := by
        rw [Int.toNat_natCast, List.getD_eq_getElem?_getD, List.getElem?_eq_getElem hi2]
        rfl
      obtain ⟨m0, m1⟩ := mostL_ok ns
      refine q_asg (v := .int (load1 (mostL ns) (ns.getD i 0) i)) (ev_callV m__law_draw (ea_cons (ev_ixI (ev_var rfl) (ex_l e ha) (ev_var rfl) (Int.natCast_nonneg _) hat) (ea_cons (ev_op (ev_op (ev_var rfl) ev_c (rv_I (by decide))) ev_c rv_I0) (ea_cons (ev_var rfl) ea_nil))) ⟨_, _, _, rfl, by omega, by omega, rfl⟩) fun H4 e4 => ?_
      refine q_ifAsg (v := .int (load2 (kindZ ns) (mostL ns) (ns.getD i 0) i)) (b := decide (kindZ ns = 1) && decide (0 < drawZ (ns.getD i 0) ((i : Int) % 7 + 1) 3)) (et_and (et_is (et_test (ev_op (ev_var rfl) ev_c (rv_eq rfl))) (by simp)) fun _ => et_test (ev_op (ev_callV m__law_draw (ea_cons (ev_ixI (ev_var rfl) (ex_l (e.trans e4) ha) (ev_var rfl) (Int.natCast_nonneg _) hat) (ea_cons (ev_op (ev_op (ev_var rfl) ev_c (rv_I (by decide))) ev_c rv_I0) (ea_cons ev_c ea_nil))) ⟨_, _, _, rfl, by omega, by decide, rfl⟩) ev_c rv_I0))
        (fun hb => ev_is ev_c (by rw [load2, if_pos hb])) (fun hb => by rw [load2, if_neg (by rw [hb]; decide)]; rfl) fun H5 e5 => ?_
      refine q_ifAsg (v := .int (load3 (kindZ ns) (mostL ns) (ns.getD i 0) i)) (b := decide (kindZ ns = 2)) (et_is (et_test (ev_op (ev_var rfl) ev_c (rv_eq rfl))) (by simp))
        (fun hb => ev_is (ev_op (ev_op (ev_var rfl) ev_c (rv_I ⟨by decide, by decide⟩)) (ev_op (ev_var rfl) ev_c (rv_I (by decide))) rv_I0) (by rw [load3, if_pos hb])) (fun hb => by rw [load3, if_neg (by rw [hb]; decide)]; rfl) fun H6 e6 => ?_
      have e46 := (e4.trans e5).trans e6
      refine s_app (e46 _ _ hH) (ev_var rfl) (ev_var rfl) (by simp; omega) fun H7 e7 => ⟨_, _, rfl, Ex.mut ((e.trans e46).trans e7) hp0, ?_⟩
      rw [upd_same, List.range_succ, List.map_append, List.map_append]
      rfl
    · rintro σ' H' ⟨v, ld, rfl, e, hH⟩
      rw [Int.toNat_natCast] at hH
      exact s_ret (ev_var rfl) fun H4 e4 => k p _ hp0 (e.trans e4) (e4 _ _ hH)
theorem sc__law_numbers : FnScope ["_law_found", "_law_one"] ["_law_found"] (defScope s__law_numbers) := ⟨rfl, rfl, rfl, by decide +kernel, rfl, by decide +kernel, by decide +kernel⟩
theorem ok__law_numbers (T : Tx K mg) : Kept P w K mg base CX0 1 "_law_numbers" ["_law_found"] (sp__law_numbers K) := by
  obtain ⟨fd, F⟩ := T.d__law_numbers
  refine ⟨⟨fd, F.ok sc__law_numbers (fun vs H Q E h => by obtain ⟨_, ⟨_, _, rfl, _⟩, _⟩ := h; rfl) (fun cdv A outer s H vs Q E hRm h => ?_), F.bindsN fun _ _ _ _ _ _ us hl => match us, hl with | [_], _ => rfl⟩, T.g__law_numbers, F.kp⟩
  · obtain ⟨z, ⟨a, ns, rfl, ha, hl, rfl⟩, k⟩ := h
    refine ⟨_, (PSs.nox (pss_cons (ps_if (pt_not (pt_val (pe_callB call_isi (by rfl) T.z_isinstance bo_isinstance (pa_cons (pv 0) (pa_cons (pe_bltn (v := .ty "list") (by rfl) T.z_list bo_list rfl) pa_nil))))) (pss_one (ps_ret pe_bl)) pss_nil) (pss_one (ps_ret (pe_not (pe_callB (cr_any rfl) (by rfl) T.z_any bo_any (pa_cons (pe_lc (own := [("_law_one", 1)]) (g := gName 1) (tt := tYes) rfl sc__law_numbers.nd (pi_list (pv 0)) (blkOk_by (N := ["_law_found", "_law_one"]) (sc := defScope s__law_numbers) (by decide +kernel)) (fun _ _ _ _ _ => pg_name (i := 1) sc__law_numbers.nd rfl (Or.inl rfl)) (fun _ _ _ _ _ => pts_nil) (fun _ _ _ _ _ => (pe_or (pe_callB (call_isiK' (K := K) rfl) (by rfl) T.z_isinstance bo_isinstance (pa_cons (pv 1) (pa_cons (pe_bltn (v := .ty "bool") (by rfl) T.z_bool bo_bool rfl) pa_nil))) (pe_one (pe_not (pe_callB (call_isiK' (K := K) rfl) (by rfl) T.z_isinstance bo_isinstance (pa_cons (pv 1) (pa_cons (pe_bltn (v := .ty "int") (by rfl) T.z_int bo_int rfl) pa_nil)))))))) pa_nil))))))), ?_⟩
    refine q_when (b := false) (et_not (et_B (ev_isT (b := true) (ev_var rfl) (tx_lst ha) (by decide +kernel)))) (fun h => by cases h) fun _ H1 e1 => ?_
    refine s_ret (ev_is (ev_notV (ev_anyN (el_mapIB (fun n => false || !true) (ev_var rfl) (sq_of (e1 _ _ ha)) (by omega) (fun x => rfl) fun n H2 e2 hm => ev_orV (ev_isT (ev_var rfl) tx_int (by decide +kernel)) fun _ => ev_notV (ev_isT (ev_var rfl) tx_int (by decide +kernel))))) ?_) fun H2 e2 => k _ (e1.trans e2)
    have e0 : ((ns.map fun _ => (false || !true)).any id) = false := by
      rw [List.any_eq_false]
      intro b hb
      obtain ⟨_, _, rfl⟩ := List.mem_map.mp hb
      decide
    rw [e0]
    rfl
theorem sc__law_rising : FnScope ["_law_places", "_law_least", "_law_many", "_law_last", "_law_place"] ["_law_places", "_law_least", "_law_many"] (defScope s__law_rising) := ⟨rfl, rfl, rfl, by decide +kernel, rfl, by decide +kernel, by decide +kernel⟩
theorem ok__law_rising (T : Tx K mg) : Kept P w K mg base CX0 1 "_law_rising" ["_law_places", "_law_least", "_law_many"] (sp__law_rising K) := by
  obtain ⟨fd, F⟩ := T.d__law_rising
  refine ⟨⟨fd, F.ok sc__law_rising (fun vs H Q E h => by obtain ⟨_, ⟨_, _, _, _, rfl, _⟩, _⟩ := h; rfl) (fun cdv A outer s H vs Q E hRm h => ?_), F.bindsN fun _ _ _ _ _ _ us hl => match us, hl with | [_, _, _], _ => rfl⟩, T.g__law_rising, F.kp⟩
  · obtain ⟨z, ⟨a, cs, l0, m, rfl, ha, rfl⟩, k⟩ := h
    refine ⟨_, (PSs.nox (pss_cons (ps_set (i := 3) sc__law_rising.nd rfl (Or.inl rfl) (pe_op op_sub (pv 1) pe_int)) (pss_cons (ps_for PassesOwn.never rfl (pi_list (pv 0)) (pg_name (i := 4) sc__law_rising.nd rfl (Or.inl rfl)) (pss_cons (ps_if (pt_not (pt_chain op_lt op_lt (pv 3) (pv 4) (pv 2))) (pss_one (ps_ret pe_bl)) pss_nil) (pss_one (ps_set (i := 3) sc__law_rising.nd rfl (Or.inl rfl) (pv 4))))) (pss_one (ps_ret pe_bl))))), ?_⟩
    refine q_asg (v := .int (l0 - 1)) (ev_op (ev_var rfl) ev_c rv_I0) fun H1 e1 => ?_
    refine q_forLn (ev_var rfl) (sq_of (e1 _ _ ha)) (fun i σ' H' => ∃ l v, σ' = [some (.ref a), some (.int l0), some (.int m), some (.int l), v] ∧ Ex H H' ∧ risB (l0 - 1) cs m = risB l (cs.drop i) m) (fun H2 e2 => ⟨l0 - 1, none, rfl, e1.trans e2, rfl⟩) (fun i σ' H' _ ⟨_, _, _, e, _⟩ => sq_of (e _ _ ha)) ?_ ?_
    · rintro i x σ' H' hi ⟨l, v, rfl, e, hr⟩
      obtain ⟨c, rfl, hc⟩ := int_at hi
      rw [drop_at hc] at hr
      refine q_when (b := !(decide (l < c) && decide (c < m))) (et_not (et_ch (ev_var rfl) (ev_var rfl) rv_I0 (fun _ => ev_var rfl) fun _ => rv_I0)) (fun hb H2 e2 => s_ret ev_c fun H3 e3 => ?_) fun hb H2 e2 => s_asg (ev_var rfl) fun H3 e3 => ⟨c, _, rfl, (e.trans e2).trans e3, ?_⟩
      · have e0 : risB (l0 - 1) cs m = false := by
          rw [hr, risB]
          rw [Bool.not_eq_true'] at hb
          rw [hb, Bool.false_and]
        rw [e0] at k
        exact k _ ((e.trans e2).trans e3)
      · rw [hr, risB]
        rw [Bool.not_eq_false'] at hb
        rw [hb, Bool.true_and]
    · rintro σ' H' ⟨l, v, rfl, e, hr⟩
      refine s_ret ev_c fun H3 e3 => ?_
      have e0 : risB (l0 - 1) cs m = true := by
        rw [hr, List.drop_eq_nil_of_le (by rw [List.length_map]; exact Nat.le_refl _)]
        rfl
      rw [e0] at k
      exact k _ (e.trans e3)

end
end Ct
namespace Ct
open PySem PySem.Spec PyProof.Rows L2 Evl
open He (ga ma)
section
variable {P : Program} {w : World} {K : PySem.W.Frag} {mg : Str → Option Value} {base : Heap}
/-! ### words, numbers -/
abbrev J1 : List (List Nat) → List Nat := TL.joinL [32]
abbrev J3 : List (List Nat) → List Nat := TL.joinL [32, 124, 32]
def wordsL (t : List Nat) : List (List Nat) := TL.spl [32] 0 [] t
def dgB (c : Nat) : Bool := decide (48 ≤ c) && decide (c ≤ 57)
def valN (w : List Nat) : Nat := NumText.digitsVal w
def formB (w : List Nat) : Bool := decide (1 ≤ w.length) && (decide (w.length ≤ 7) && (w.all dgB && !(decide (w.head? = some 48) && !decide (w = [48]))))
def numOk (w : List Nat) : Bool := formB w && decide (valN w ≤ 1000000)
def numI (i : Int) : List Nat := TL.numL i.toNat
def numO (w : List Nat) : Option Int := if numOk w = true then some (valN w : Int) else none
theorem val_snoc (u : List Nat) (c : Nat) : valN (u ++ [c]) = valN u * 10 + (c - 48) := by
  unfold valN NumText.digitsVal
  rw [List.foldl_append]
  rfl
theorem dg_lt {c : Nat} (h : dgB c = true) : 48 ≤ c ∧ c ≤ 57 := by
  unfold dgB at h
  simpa [Bool.and_eq_true] using h
/-- plain digits are what is written of their value -/
theorem num_back : ∀ (k : Nat) (w : List Nat), w.length = k → w.all dgB = true → w ≠ [] → (w.head? = some 48 → w = [48]) → TL.numL (valN w) = w
  | 0, w, hk, _, hn, _ => absurd (List.length_eq_zero_iff.mp hk) hn
  | k + 1, w, hk, hd, hn, h0 => by
    obtain ⟨u, c, rfl⟩ : ∃ u c, w = u ++ [c] := ⟨w.dropLast, w.getLast hn, (List.dropLast_concat_getLast hn).symm⟩
    rw [List.all_append, Bool.and_eq_true] at hd
    have hc := dg_lt (by simpa using hd.2)
    rw [val_snoc]
    by_cases hu : u = []
    · subst hu
      have e : valN [] * 10 + (c - 48) = c - 48 := by simp [valN, NumText.digitsVal]
      rw [e, TL.numL_lt (by omega)]
      show [48 + (c - 48)] = [c]
      congr 1
      omega
    · have hh : u.head? ≠ some 48 := by
        intro z
        have e := h0 (by rw [List.head?_append, z]; rfl)
        cases u with
        | nil => exact hu rfl
        | cons a r =>
          have := congrArg List.length e
          simp at this
      have ih := num_back k u (by rw [List.length_append] at hk; simpa using hk) hd.1 hu fun z => absurd z hh
      have pos : 1 ≤ valN u := by
        by_cases z : valN u = 0
        · rw [z, TL.numL_lt (by omega)] at ih
          rw [← ih] at hh
          exact absurd rfl hh
        · omega
      rw [TL.numL_step (by omega), show (valN u * 10 + (c - 48)) / 10 = valN u by omega, ih, show 48 + (valN u * 10 + (c - 48)) % 10 = c by omega]
theorem form_parts {w : List Nat} (h : formB w = true) : 1 ≤ w.length ∧ w.length ≤ 7 ∧ w.all dgB = true ∧ (w.head? = some 48 → w = [48]) := by
  unfold formB at h
  simp only [Bool.and_eq_true, decide_eq_true_eq] at h
  obtain ⟨h1, h2, h3, h4⟩ := h
  refine ⟨h1, h2, h3, fun z => ?_⟩
  rw [z] at h4
  by_cases hw : w = [48]
  · exact hw
  · simp [hw] at h4
theorem form_back {w : List Nat} (h : formB w = true) : TL.numL (valN w) = w := by
  obtain ⟨h1, h2, h3, h4⟩ := form_parts h
  exact num_back w.length w rfl h3 (fun e => by rw [e] at h1; exact absurd h1 (by decide)) h4
theorem ok_back {w : List Nat} (h : numOk w = true) : numI (valN w : Int) = w := by
  unfold numOk at h
  rw [Bool.and_eq_true] at h
  unfold numI
  rw [Int.toNat_natCast]
  exact form_back h.1
theorem ok_le {w : List Nat} (h : numOk w = true) : valN w ≤ 1000000 := by
  unfold numOk at h
  rw [Bool.and_eq_true] at h
  exact of_decide_eq_true h.2
theorem num_bar : numOk [124] = false := by decide
/-! ### cut at spaces, at bars -/
theorem spl_acc (S : List Nat) : ∀ (l : List Nat) (k : Nat) (acc : List Nat), ∃ p ps, TL.spl S k [] l = p :: ps ∧ TL.spl S k acc l = (acc ++ p) :: ps
  | [], k, acc => ⟨[], [], by rw [TL.spl_nil], by rw [TL.spl_nil, List.append_nil]⟩
  | c :: r, 0, acc => by
    cases h : TL.pre S (c :: r) with
    | true => exact ⟨[], _, TL.spl_hit h, by rw [TL.spl_hit h, List.append_nil]⟩
    | false =>
      obtain ⟨p, ps, h1, h2⟩ := spl_acc S r 0 ([] ++ [c])
      obtain ⟨p', ps', h3, h4⟩ := spl_acc S r 0 (acc ++ [c])
      rw [h1] at h3
      injection h3 with e1 e2
      subst e1 e2
      exact ⟨_, _, by rw [TL.spl_miss h, h2], by rw [TL.spl_miss h, h4]; simp⟩
  | c :: r, k + 1, acc => spl_acc S r k acc
theorem join_two (S p : List Nat) {L : List (List Nat)} (h : L ≠ []) : TL.joinL S (p :: L) = p ++ (S ++ TL.joinL S L) := by
  cases L with
  | nil => exact absurd rfl h
  | cons q r => rfl
theorem spl_ne (S : List Nat) (k : Nat) (acc l : List Nat) : TL.spl S k acc l ≠ [] := by
  obtain ⟨p, ps, _, h⟩ := spl_acc S l k acc
  rw [h]
  exact List.cons_ne_nil _ _
theorem pre_app {S l : List Nat} (h : TL.pre S l = true) : l = S ++ l.drop S.length := by
  have e : l.take S.length = S := eq_of_beq h
  have q := List.take_append_drop S.length l
  rw [e] at q
  exact q.symm
/-- what is split is joined again -/
theorem join_spl {S : List Nat} (hS : S ≠ []) : ∀ (n : Nat) (l acc : List Nat), l.length ≤ n → TL.joinL S (TL.spl S 0 acc l) = acc ++ l
  | n, [], acc, _ => by
    rw [TL.spl_nil, List.append_nil]
    rfl
  | 0, c :: r, acc, h => absurd h (by simp)
  | n + 1, c :: r, acc, h => by
    have hr : r.length ≤ n := by simpa using h
    cases hp : TL.pre S (c :: r) with
    | false =>
      rw [TL.spl_miss hp, join_spl hS n r _ hr]
      simp
    | true =>
      rw [TL.spl_hit hp, join_two S acc (spl_ne _ _ _ _), TL.spl_pass, join_spl hS n _ _ (by rw [List.length_drop]; omega), List.nil_append]
      congr 1
      have q := pre_app hp
      cases S with
      | nil => exact absurd rfl hS
      | cons s S' =>
        rw [q]
        rfl
theorem spl_sum {S : List Nat} : ∀ (l : List Nat) (k : Nat) (acc : List Nat), (TL.spl S k acc l).length ≤ l.length + 1
  | [], k, acc => by rw [TL.spl_nil]; simp
  | c :: r, k + 1, acc => Nat.le_trans (spl_sum r k acc) (by simp)
  | c :: r, 0, acc => by
    cases hp : TL.pre S (c :: r) with
    | true =>
      rw [TL.spl_hit hp, List.length_cons, List.length_cons]
      have := spl_sum (S := S) r (S.length - 1) []
      omega
    | false =>
      rw [TL.spl_miss hp, List.length_cons]
      have := spl_sum (S := S) r 0 (acc ++ [c])
      omega
theorem words_free : ∀ (t acc : List Nat), 32 ∉ acc → ∀ w ∈ TL.spl [32] 0 acc t, 32 ∉ w
  | [], acc, h, w, hw => by
    rw [TL.spl_nil] at hw
    rw [List.mem_singleton.mp hw]
    exact h
  | c :: r, acc, h, w, hw => by
    by_cases hc : c = 32
    · subst hc
      have hp : TL.pre [32] (32 :: r) = true := by simp [TL.pre]
      rw [TL.spl_hit hp] at hw
      rcases List.mem_cons.mp hw with e | hw
      · rw [e]
        exact h
      · exact words_free r [] (by simp) w hw
    · rw [TL.spl_miss (TL.pre_of_head _ _ hc)] at hw
      refine words_free r (acc ++ [c]) ?_ w hw
      intro z
      rcases List.mem_append.mp z with z | z
      · exact h z
      · exact hc (List.mem_singleton.mp z).symm
theorem words_ne (t : List Nat) : wordsL t ≠ [] := spl_ne _ _ _ _
theorem words_join {W : List (List Nat)} (hW : W ≠ []) (h : ∀ w ∈ W, 32 ∉ w) : wordsL (J1 W) = W := TL.spl_join hW h
theorem join_words (t : List Nat) : J1 (wordsL t) = t := by
  have q := join_spl (S := [32]) (by simp) t.length t [] (Nat.le_refl _)
  rw [List.nil_append] at q
  exact q
/-- words, set apart at bars -/
def hdC (w : List Nat) : List (List (List Nat)) → List (List (List Nat))
  | [] => [[w]]
  | g :: gs => (w :: g) :: gs
def grp : List (List Nat) → List (List (List Nat))
  | [] => []
  | [w] => [[w]]
  | [w, x] => [[w, x]]
  | w :: x :: v :: r => if x = [124] then [w] :: grp (v :: r) else hdC w (grp (x :: v :: r))
theorem grp_bar (w v : List Nat) (r : List (List Nat)) : grp (w :: [124] :: v :: r) = [w] :: grp (v :: r) := by
  rw [grp, if_pos rfl]
theorem grp_nobar {w x v : List Nat} {r : List (List Nat)} (h : x ≠ [124]) : grp (w :: x :: v :: r) = hdC w (grp (x :: v :: r)) := by
  rw [grp, if_neg h]
theorem grp_head : ∀ (w : List Nat) (r : List (List Nat)), ∃ g gs, grp (w :: r) = (w :: g) :: gs
  | w, [] => ⟨[], [], by rw [grp]⟩
  | w, [x] => ⟨[x], [], by rw [grp]⟩
  | w, x :: v :: r => by
    by_cases h : x = [124]
    · subst h
      exact ⟨[], _, grp_bar w v r⟩
    · obtain ⟨g, gs, e⟩ := grp_head x (v :: r)
      exact ⟨x :: g, gs, by rw [grp_nobar h, e]; rfl⟩
theorem grp_full : ∀ (W : List (List Nat)), ∀ g ∈ grp W, g ≠ []
  | [], g, h => by rw [grp] at h; cases h
  | [w], g, h => by
    rw [grp] at h
    rw [List.mem_singleton.mp h]
    simp
  | [w, x], g, h => by
    rw [grp] at h
    rw [List.mem_singleton.mp h]
    simp
  | w :: x :: v :: r, g, h => by
    by_cases hx : x = [124]
    · subst hx
      rw [grp_bar] at h
      rcases List.mem_cons.mp h with e | h
      · rw [e]
        simp
      · exact grp_full (v :: r) g h
    · rw [grp_nobar hx] at h
      obtain ⟨g', gs, e⟩ := grp_head x (v :: r)
      rw [e] at h
      rcases List.mem_cons.mp h with z | z
      · rw [z]
        simp
      · exact grp_full (x :: v :: r) g (by rw [e]; exact List.mem_cons_of_mem _ z)
theorem grp_sub : ∀ (W : List (List Nat)), ∀ g ∈ grp W, ∀ w ∈ g, w ∈ W
  | [], g, h, w, hw => by rw [grp] at h; cases h
  | [a], g, h, w, hw => by
    rw [grp] at h
    rw [List.mem_singleton.mp h] at hw
    exact hw
  | [a, x], g, h, w, hw => by
    rw [grp] at h
    rw [List.mem_singleton.mp h] at hw
    exact hw
  | a :: x :: v :: r, g, h, w, hw => by
    by_cases hx : x = [124]
    · subst hx
      rw [grp_bar] at h
      rcases List.mem_cons.mp h with e | h
      · rw [e] at hw
        rw [List.mem_singleton.mp hw]
        exact List.mem_cons_self
      · exact List.mem_cons_of_mem _ (List.mem_cons_of_mem _ (grp_sub (v :: r) g h w hw))
    · rw [grp_nobar hx] at h
      obtain ⟨g', gs, e⟩ := grp_head x (v :: r)
      have up := grp_sub (x :: v :: r)
      rw [e] at h up
      rcases List.mem_cons.mp h with z | z
      · rw [z] at hw
        rcases List.mem_cons.mp hw with y | y
        · rw [y]
          exact List.mem_cons_self
        · exact List.mem_cons_of_mem _ (up _ List.mem_cons_self w y)
      · exact List.mem_cons_of_mem _ (up g (List.mem_cons_of_mem _ z) w hw)
def hdA (acc : List Nat) : List (List Nat) → List (List Nat)
  | [] => [acc]
  | p :: ps => (acc ++ p) :: ps
theorem hdA_nil : ∀ {L : List (List Nat)}, L ≠ [] → hdA [] L = L
  | [], h => absurd rfl h
  | p :: ps, _ => rfl
theorem spl_step {R : List Nat} (hR : TL.pre [124, 32] R = false) : ∀ (w acc : List Nat), 32 ∉ w → TL.spl [32, 124, 32] 0 acc (w ++ (32 :: R)) = TL.spl [32, 124, 32] 0 (acc ++ (w ++ [32])) R
  | [], acc, _ => by
    have hp : TL.pre [32, 124, 32] (32 :: R) = false := by
      rw [← hR]
      simp [TL.pre]
    exact TL.spl_miss hp
  | c :: w, acc, h => by
    have hc : c ≠ 32 := fun e => h (by rw [e]; exact List.mem_cons_self)
    rw [List.cons_append, TL.spl_miss (TL.pre_of_head _ _ hc), spl_step hR w _ fun z => h (List.mem_cons_of_mem _ z)]
    simp
theorem pre2 {x q : List Nat} (hf : 32 ∉ x) (h : x ≠ [124]) : TL.pre [124, 32] (x ++ (32 :: q)) = false := by
  match x, hf, h with
  | [], _, _ => exact TL.pre_of_head _ _ (by decide)
  | [c], _, h =>
    by_cases hc : c = 124
    · subst hc
      exact absurd rfl h
    · exact TL.pre_of_head _ _ hc
  | c :: d :: y, hf, _ =>
    have hd : d ≠ 32 := fun e => hf (by rw [e]; simp)
    simp [TL.pre, hd]
theorem pre1 {x : List Nat} (hf : 32 ∉ x) : TL.pre [124, 32] x = false := by
  match x, hf with
  | [], _ => rfl
  | [c], _ => simp [TL.pre]
  | c :: d :: y, hf =>
    have hd : d ≠ 32 := fun e => hf (by rw [e]; simp)
    simp [TL.pre, hd]
theorem spl_grp : ∀ (W : List (List Nat)) (acc : List Nat), W ≠ [] → (∀ w ∈ W, 32 ∉ w) → TL.spl [32, 124, 32] 0 acc (J1 W) = hdA acc ((grp W).map J1)
  | [], _, h, _ => absurd rfl h
  | [w], acc, _, hf => by
    rw [grp]
    show TL.spl _ 0 acc w = [acc ++ w]
    exact TL.spl_last1 (hf w List.mem_cons_self)
  | [w, x], acc, _, hf => by
    rw [grp]
    have hx : 32 ∉ x := hf x (by simp)
    show TL.spl _ 0 acc (w ++ (32 :: x)) = [acc ++ (w ++ (32 :: x))]
    rw [spl_step (pre1 hx) w acc (hf w List.mem_cons_self), TL.spl_last1 hx]
    simp
  | w :: x :: v :: r, acc, _, hf => by
    have hw : 32 ∉ w := hf w List.mem_cons_self
    have hx : 32 ∉ x := hf x (by simp)
    by_cases hb : x = [124]
    · subst hb
      rw [grp_bar, show J1 (w :: [124] :: v :: r) = w ++ ([32, 124, 32] ++ J1 (v :: r)) from rfl, TL.spl_part1 hw, spl_grp (v :: r) [] (by simp) fun y hy => hf y (List.mem_cons_of_mem _ (List.mem_cons_of_mem _ hy))]
      obtain ⟨g, gs, e⟩ := grp_head v r
      rw [e]
      rfl
    · have ih := spl_grp (x :: v :: r) (acc ++ (w ++ [32])) (by simp) fun y hy => hf y (List.mem_cons_of_mem _ hy)
      have st := spl_step (R := J1 (x :: v :: r)) (pre2 (q := J1 (v :: r)) hx hb) w acc hw
      rw [grp_nobar hb, show J1 (w :: x :: v :: r) = w ++ (32 :: J1 (x :: v :: r)) from rfl, st, ih]
      obtain ⟨g, gs, e⟩ := grp_head x (v :: r)
      rw [e]
      show (acc ++ (w ++ [32]) ++ J1 (x :: g)) :: gs.map J1 = (acc ++ J1 (w :: x :: g)) :: gs.map J1
      rw [show J1 (w :: x :: g) = w ++ ([32] ++ J1 (x :: g)) from rfl]
      simp
/-- the parts of a text, in words -/
theorem parts_grp (t : List Nat) : (TL.spl [32, 124, 32] 0 [] t).map wordsL = grp (wordsL t) := by
  have hf := words_free t [] (by simp)
  have q := spl_grp (wordsL t) [] (words_ne t) hf
  rw [join_words] at q
  obtain ⟨w, r, e⟩ : ∃ w r, wordsL t = w :: r := by
    cases h : wordsL t with
    | nil => exact absurd h (words_ne t)
    | cons w r => exact ⟨w, r, rfl⟩
  obtain ⟨g, gs, e2⟩ := grp_head w r
  rw [q, hdA_nil (by rw [e, e2]; simp), List.map_map]
  refine (List.map_congr_left fun g hg => ?_).trans (List.map_id _)
  exact words_join (grp_full _ g hg) fun w hw => hf w (grp_sub _ g hg w hw)
theorem join_grp (t : List Nat) : J3 ((grp (wordsL t)).map J1) = t := by
  rw [← parts_grp, List.map_map]
  have e : (TL.spl [32, 124, 32] 0 [] t).map (J1 ∘ wordsL) = TL.spl [32, 124, 32] 0 [] t := (List.map_congr_left fun p _ => join_words p).trans (List.map_id _)
  rw [e]
  have q := join_spl (S := [32, 124, 32]) (by simp) t.length t [] (Nat.le_refl _)
  rw [List.nil_append] at q
  exact q

end
end Ct
namespace Ct
open PySem PySem.Spec PyProof.Rows L2 Evl
open He (ga ma)
section
variable {P : Program} {w : World} {K : PySem.W.Frag} {mg : Str → Option Value} {base : Heap}
/-! ### read by groups, read by words -/
def offG : Nat → List (List (List Nat)) → List Int
  | _, [] => []
  | n, g :: gs => (n : Int) :: offG (n + g.length) gs
def nums (g : List (List Nat)) : List Int := g.map fun w => (valN w : Int)
def readG (G : List (List (List Nat))) : Option (List Int × List Int) := if G.flatten.all numOk = true then some (nums G.flatten, (offG 0 G).tail) else none
def readP (t : List Nat) : Option (List Int × List Int) := if t = [45] then some ([], []) else readG (grp (wordsL t))
def fresh (row : List (Option Int)) (cuts : List Int) : Bool := decide (row = []) || (!decide (cuts = []) && decide (cuts.getLast? = some (row.length : Int)))
def linR : List (List Nat) → List (Option Int) → List Int → Option (List (Option Int) × List Int)
  | [], row, cuts => some (row, cuts)
  | w :: ws, row, cuts => if w = [124] then (if fresh row cuts = true then none else linR ws row (cuts ++ [(row.length : Int)])) else linR ws (row ++ [numO w]) cuts
def badEnd (row : List (Option Int)) (cuts : List Int) : Bool := decide (none ∈ row) || (decide ((row.length : Int) ∈ cuts) || decide (row = []))
def linF : Option (List (Option Int) × List Int) → Option (List Int × List Int)
  | none => none
  | some (row, cuts) => if badEnd row cuts = true then none else some (row.filterMap id, cuts)
def lawIn (t : List Nat) : Option (List Int × List Int) := if t = [45] then some ([], []) else linF (linR (wordsL t) [] [])
theorem lin_bar (ws : List (List Nat)) (row : List (Option Int)) (cuts : List Int) : linR ([124] :: ws) row cuts = if fresh row cuts = true then none else linR ws row (cuts ++ [(row.length : Int)]) := by
  rw [linR, if_pos rfl]
theorem lin_word {w : List Nat} (h : w ≠ [124]) (ws : List (List Nat)) (row : List (Option Int)) (cuts : List Int) : linR (w :: ws) row cuts = linR ws (row ++ [numO w]) cuts := by
  rw [linR, if_neg h]
theorem fin_none : ∀ (W : List (List Nat)) (row : List (Option Int)) (cuts : List Int), none ∈ row → linF (linR W row cuts) = none
  | [], row, cuts, h => by
    rw [linR, linF, if_pos (by simp [badEnd, h])]
  | w :: ws, row, cuts, h => by
    by_cases hw : w = [124]
    · subst hw
      rw [lin_bar]
      cases fresh row cuts with
      | true => rfl
      | false =>
        rw [if_neg Bool.false_ne_true]
        exact fin_none ws row _ h
    · rw [lin_word hw]
      exact fin_none ws _ _ (List.mem_append_left _ h)
theorem numO_yes {w : List Nat} (h : numOk w = true) : numO w = some (valN w : Int) := if_pos h
theorem numO_no {w : List Nat} (h : numOk w = false) : numO w = none := if_neg (by rw [h]; exact Bool.false_ne_true)
theorem row_snoc {row : List (Option Int)} {x : Int} (h : none ∉ row) : none ∉ row ++ [some x] := by
  intro z
  rcases List.mem_append.mp z with z | z
  · exact h z
  · have := List.mem_singleton.mp z
    cases this
theorem fm_snoc (row : List (Option Int)) (x : Int) : (row ++ [some x]).filterMap id = row.filterMap id ++ [x] := by
  rw [List.filterMap_append]
  rfl
theorem cut_up {cuts : List Int} {row : List (Option Int)} {x : Option Int} (h : ∀ c ∈ cuts, c ≤ (row.length : Int)) : (∀ c ∈ cuts, c ≤ ((row ++ [x]).length : Int)) ∧ ((row ++ [x]).length : Int) ∉ cuts := by
  rw [List.length_append, List.length_singleton]
  refine ⟨fun c hc => ?_, fun hc => ?_⟩
  · have := h c hc
    omega
  · have := h _ hc
    omega
theorem no_fresh {cuts : List Int} {row : List (Option Int)} {x : Option Int} (h : ∀ c ∈ cuts, c ≤ (row.length : Int)) : fresh (row ++ [x]) cuts = false := by
  unfold fresh
  rw [decide_eq_false (by simp), Bool.false_or]
  cases hl : cuts.getLast? with
  | none => simp
  | some c =>
    have hm := List.mem_of_getLast? hl
    have := h c hm
    rw [List.length_append, List.length_singleton, decide_eq_false (p := some c = _) (by intro z; injection z with z; omega), Bool.and_false]
theorem lin_grp : ∀ (W : List (List Nat)) (row : List (Option Int)) (cuts : List Int), W ≠ [] → (∀ c ∈ cuts, c ≤ (row.length : Int)) → none ∉ row → (W.head? = some [124] → W.tail = [] ∨ fresh row cuts = true) →
    linF (linR W row cuts) = if (grp W).flatten.all numOk = true then some (row.filterMap id ++ nums (grp W).flatten, cuts ++ (offG row.length (grp W)).tail) else none
  | [], _, _, h, _, _, _ => absurd rfl h
  | [w], row, cuts, _, hc, hr, hb => by
    rw [grp]
    by_cases hw : w = [124]
    · subst hw
      rw [if_neg (by decide), lin_bar]
      cases fresh row cuts with
      | true => rfl
      | false =>
        rw [if_neg Bool.false_ne_true, linR, linF, if_pos (by simp [badEnd])]
    · rw [lin_word hw]
      cases hk : numOk w with
      | false =>
        rw [numO_no hk, fin_none _ _ _ (by simp), if_neg (by simp [hk])]
      | true =>
        have up := cut_up (x := some (valN w : Int)) hc
        rw [numO_yes hk, linR, linF, if_neg (by
          unfold badEnd
          rw [decide_eq_false (row_snoc hr), decide_eq_false up.2, decide_eq_false (by simp)]
          decide), if_pos (by simp [hk]), fm_snoc]
        simp [nums, offG]
  | [w, x], row, cuts, _, hc, hr, hb => by
    rw [grp]
    by_cases hw : w = [124]
    · subst hw
      rcases hb rfl with z | z
      · cases z
      · rw [lin_bar, if_pos z, if_neg (by simp [num_bar])]
        rfl
    · rw [lin_word hw]
      cases hk : numOk w with
      | false =>
        rw [numO_no hk, fin_none _ _ _ (by simp), if_neg (by simp [hk])]
      | true =>
        have up := cut_up (x := some (valN w : Int)) hc
        rw [numO_yes hk, lin_grp [x] _ cuts (by simp) up.1 (row_snoc hr) (fun _ => .inl rfl), fm_snoc, grp]
        simp [nums, offG, hk]
  | w :: x :: v :: r, row, cuts, _, hc, hr, hb => by
    by_cases hw : w = [124]
    · subst hw
      obtain ⟨g, gs, e⟩ := grp_head [124] (x :: v :: r)
      rcases hb rfl with z | z
      · cases z
      · rw [lin_bar, if_pos z, e, if_neg (by simp [num_bar])]
        rfl
    · rw [lin_word hw]
      cases hk : numOk w with
      | false =>
        obtain ⟨g, gs, e⟩ := grp_head w (x :: v :: r)
        rw [numO_no hk, fin_none _ _ _ (by simp), e, if_neg (by simp [hk])]
      | true =>
        have up := cut_up (x := some (valN w : Int)) hc
        rw [numO_yes hk]
        by_cases hx : x = [124]
        · subst hx
          obtain ⟨g, gs, e⟩ := grp_head v r
          have ih := lin_grp (v :: r) (row ++ [some (valN w : Int)]) (cuts ++ [((row ++ [some (valN w : Int)]).length : Int)]) (by simp) (fun c hm => by
            rcases List.mem_append.mp hm with z | z
            · exact up.1 c z
            · rw [List.mem_singleton.mp z]
              exact Int.le_refl _) (row_snoc hr) (fun _ => .inr (by simp [fresh]))
          rw [lin_bar, if_neg (by rw [no_fresh hc]; exact Bool.false_ne_true), ih, grp_bar, fm_snoc, e]
          simp [nums, offG, hk, List.append_assoc]
        · obtain ⟨g, gs, e⟩ := grp_head x (v :: r)
          have ih := lin_grp (x :: v :: r) (row ++ [some (valN w : Int)]) cuts (by simp) up.1 (row_snoc hr) (fun z => absurd (Option.some.inj z) hx)
          rw [ih, grp_nobar hx, fm_snoc, e]
          have e2 : row.length + 1 + (g.length + 1) = row.length + (g.length + 1 + 1) := by omega
          simp [nums, offG, hdC, hk, List.append_assoc, e2]
theorem law_in (t : List Nat) : lawIn t = readP t := by
  unfold lawIn readP
  split
  · rfl
  · rw [lin_grp (wordsL t) [] [] (words_ne t) (fun c h => by cases h) (fun h => by cases h) (fun _ => .inr rfl)]
    unfold readG
    simp
/-! ### what is written of a row -/
def segs {α : Type} (f : Int → Int → α) : Int → List Int → Int → List α
  | b, [], n => [f b n]
  | b, c :: cs, n => f b c :: segs f c cs n
def sliceI (row : List Int) (a b : Int) : List Int := (row.drop a.toNat).take (b.toNat - a.toNat)
def lineP (row : List Int) : List Nat := J1 (row.map numI)
def writtenP (row cuts : List Int) : List Nat := if row = [] then [45] else J3 (segs (fun a b => lineP (sliceI row a b)) 0 cuts row.length)
theorem segs_map {α : Type} (f : Int → Int → α) : ∀ (cs : List Int) (b n : Int), (List.range (cs.length + 1)).map (fun k => f ((b :: cs).getD k 0) ((cs ++ [n]).getD k 0)) = segs f b cs n
  | [], b, n => rfl
  | c :: cs, b, n => by
    have ih := segs_map f cs c n
    rw [List.length_cons, List.range_succ_eq_map, List.map_cons, List.map_map, segs, ← ih]
    rfl
theorem nums_app (a b : List (List Nat)) : nums (a ++ b) = nums a ++ nums b := List.map_append
/-- the parts between the offsets -/
theorem segs_grp : ∀ (G : List (List (List Nat))) (P : List Int) (g : List (List Nat)),
    segs (fun a b => sliceI (P ++ nums (g :: G).flatten) a b) (P.length : Int) (offG (P.length + g.length) G) ((P ++ nums (g :: G).flatten).length : Int) = (g :: G).map nums
  | [], P, g => by
    rw [offG, segs]
    have e : sliceI (P ++ nums ([g] : List (List (List Nat))).flatten) (P.length : Int) ((P ++ nums ([g] : List (List (List Nat))).flatten).length : Int) = nums g := by
      unfold sliceI
      simp
      rw [List.take_of_length_le]
      omega
    rw [e]
    rfl
  | h :: G, P, g => by
    have ih := segs_grp G (P ++ nums g) h
    have e1 : P ++ nums g ++ nums (h :: G).flatten = P ++ nums (g :: h :: G).flatten := by
      show P ++ nums g ++ nums (h :: G).flatten = P ++ nums (g ++ (h :: G).flatten)
      rw [nums_app, List.append_assoc]
    have e2 : (P ++ nums g).length = P.length + g.length := by simp [nums]
    rw [e1, e2] at ih
    rw [offG, segs, ih]
    have e : sliceI (P ++ nums (g :: h :: G).flatten) (P.length : Int) ((P.length + g.length : Nat) : Int) = nums g := by
      unfold sliceI
      rw [Int.toNat_natCast, Int.toNat_natCast, List.drop_left, List.flatten_cons, nums_app, show P.length + g.length - P.length = (nums g).length by simp [nums], List.take_left]
    rw [e]
    rfl
theorem line_nums {g : List (List Nat)} (h : ∀ w ∈ g, numOk w = true) : (nums g).map numI = g := by
  unfold nums
  rw [List.map_map]
  exact (List.map_congr_left fun w hw => ok_back (h w hw)).trans (List.map_id _)
theorem segs_comp {α β : Type} (f : Int → Int → α) (k : α → β) : ∀ (cs : List Int) (b n : Int), segs (fun a b => k (f a b)) b cs n = (segs f b cs n).map k
  | [], b, n => rfl
  | c :: cs, b, n => by
    rw [segs, segs, List.map_cons, segs_comp f k cs c n]
/-- what is read is written again -/
theorem read_written {t : List Nat} {row cuts : List Int} (h : readP t = some (row, cuts)) : writtenP row cuts = t := by
  unfold readP at h
  split at h
  · rename_i ht
    cases h
    rw [writtenP, if_pos rfl, ht]
  · unfold readG at h
    split at h
    · rename_i hok
      injection h with h
      injection h with h1 h2
      obtain ⟨w, r, e⟩ : ∃ w r, wordsL t = w :: r := by
        cases h : wordsL t with
        | nil => exact absurd h (words_ne t)
        | cons w r => exact ⟨w, r, rfl⟩
      obtain ⟨g, gs, e2⟩ := grp_head w r
      have hall : ∀ g ∈ grp (wordsL t), ∀ w ∈ g, numOk w = true := by
        intro g hg w hw
        exact List.all_eq_true.mp hok w (List.mem_flatten.mpr ⟨g, hg, hw⟩)
      have q := segs_grp gs [] (w :: g)
      have e3 : (nums ((w :: g) :: gs).flatten : List Int) ≠ [] := by simp [nums]
      have back := join_grp t
      rw [e, e2] at h1 h2 hall back
      have h2' : offG ((w :: g).length) gs = cuts := by
        rw [offG, List.tail_cons, Nat.zero_add] at h2
        exact h2
      have q' : segs (fun a b => sliceI row a b) 0 cuts (row.length : Int) = ((w :: g) :: gs).map nums := by
        rw [← h1, ← h2']
        have z := q
        rw [List.nil_append, List.length_nil, Nat.zero_add] at z
        exact z
      rw [writtenP, if_neg (by rw [← h1]; exact e3), segs_comp (fun a b => sliceI row a b) lineP, q', List.map_map]
      have e4 : ((w :: g) :: gs).map (lineP ∘ nums) = ((w :: g) :: gs).map J1 := List.map_congr_left fun y hy => by
        show J1 ((nums y).map numI) = J1 y
        rw [line_nums (hall y hy)]
      rw [e4]
      exact back
    · cases h

end
end Ct
namespace Ct
open PySem PySem.Spec PyProof.Rows L2 Evl
open He (ga ma)
section
variable {P : Program} {w : World} {K : PySem.W.Frag} {mg : Str → Option Value} {base : Heap}
/-! ### bounds -/
theorem grp_len : ∀ (W : List (List Nat)), (grp W).flatten.length ≤ W.length
  | [] => by rw [grp]; exact Nat.le_refl _
  | [w] => by rw [grp]; exact Nat.le_refl _
  | [w, x] => by rw [grp]; exact Nat.le_refl _
  | w :: x :: v :: r => by
    by_cases hx : x = [124]
    · subst hx
      have := grp_len (v :: r)
      rw [grp_bar, List.flatten_cons, List.length_append]
      simp only [List.length_cons, List.length_nil] at this ⊢
      omega
    · have := grp_len (x :: v :: r)
      obtain ⟨g, gs, e⟩ := grp_head x (v :: r)
      rw [grp_nobar hx, e]
      rw [e] at this
      show ((w :: x :: g) ++ gs.flatten).length ≤ _
      have this : ((x :: g) ++ gs.flatten).length ≤ (x :: v :: r).length := this
      simp only [List.length_append, List.length_cons] at this ⊢
      omega
theorem ris_off : ∀ (G : List (List (List Nat))) (l n : Nat), l < n → (∀ g ∈ G, g ≠ []) → risB (l : Int) (offG n G) ((n + G.flatten.length : Nat) : Int) = true
  | [], l, n, _, _ => rfl
  | g :: G, l, n, h, hg => by
    have hn : 1 ≤ g.length := by
      have := hg g List.mem_cons_self
      cases g with
      | nil => exact absurd rfl this
      | cons a r => simp
    have ih := ris_off G n (n + g.length) (by omega) fun y hy => hg y (List.mem_cons_of_mem _ hy)
    rw [offG, risB, List.flatten_cons, List.length_append, ← Nat.add_assoc, ih]
    simp
    omega
theorem read_bounds {t : List Nat} {row cuts : List Int} (h : readP t = some (row, cuts)) : (∀ n ∈ row, 0 ≤ n ∧ n ≤ 1000000) ∧ risB 0 cuts row.length = true ∧ row.length ≤ (wordsL t).length := by
  unfold readP at h
  split at h
  · cases h
    exact ⟨fun n hn => (by cases hn), rfl, Nat.zero_le _⟩
  · unfold readG at h
    split at h
    · rename_i hok
      injection h with h
      injection h with h1 h2
      have hl : (nums (grp (wordsL t)).flatten).length = (grp (wordsL t)).flatten.length := List.length_map _
      refine ⟨fun n hn => ?_, ?_, by rw [← h1, hl]; exact grp_len _⟩
      · rw [← h1] at hn
        obtain ⟨w, hw, rfl⟩ := List.mem_map.mp hn
        have := ok_le (List.all_eq_true.mp hok w hw)
        omega
      · obtain ⟨w, r, e⟩ : ∃ w r, wordsL t = w :: r := by
          cases h : wordsL t with
          | nil => exact absurd h (words_ne t)
          | cons w r => exact ⟨w, r, rfl⟩
        obtain ⟨g, gs, e2⟩ := grp_head w r
        have hf := grp_full (wordsL t)
        rw [← h1, ← h2, hl]
        rw [e, e2] at hf ⊢
        have q := ris_off gs 0 (w :: g).length (by simp) fun y hy => hf y (List.mem_cons_of_mem _ hy)
        rw [offG, List.tail_cons, Nat.zero_add, List.flatten_cons, List.length_append]
        exact q
    · cases h
/-! ### the text of a row -/
def tailT (cuts : List Int) : Nat → List Int → List Nat
  | _, [] => []
  | i, x :: r => (if (i : Int) ∈ cuts then [32, 124, 32] else [32]) ++ (numI x ++ tailT cuts (i + 1) r)
def textP (row cuts : List Int) : List Nat := match row with
  | [] => [45]
  | x :: r => numI x ++ tailT cuts 1 r
theorem tail_snoc (cuts : List Int) (y : Int) : ∀ (r : List Int) (i : Nat), tailT cuts i (r ++ [y]) = tailT cuts i r ++ ((if ((i + r.length : Nat) : Int) ∈ cuts then [32, 124, 32] else [32]) ++ numI y)
  | [], i => by simp [tailT]
  | x :: r, i => by
    rw [List.cons_append, tailT, tail_snoc cuts y r (i + 1), tailT, List.length_cons, show i + 1 + r.length = i + (r.length + 1) by omega]
    simp only [List.append_assoc]
theorem j3_front (a b : List Nat) : ∀ L, J3 ((a ++ b) :: L) = a ++ J3 (b :: L)
  | [] => rfl
  | q :: r => by
    show a ++ b ++ ([32, 124, 32] ++ J3 (q :: r)) = a ++ (b ++ ([32, 124, 32] ++ J3 (q :: r)))
    rw [List.append_assoc]
theorem j3_two (a : List Nat) {L : List (List Nat)} (h : L ≠ []) : J3 (a :: L) = a ++ ([32, 124, 32] ++ J3 L) := join_two _ _ h
theorem segs_ne {α : Type} (f : Int → Int → α) (b : Int) (cs : List Int) (n : Int) : segs f b cs n ≠ [] := by
  cases cs <;> simp [segs]
theorem slice_next {row : List Int} {i : Nat} {x : Int} {e : Int} (h : row[i]? = some x) (he : (i : Int) + 1 ≤ e) : sliceI row (i : Int) e = x :: sliceI row ((i + 1 : Nat) : Int) e := by
  unfold sliceI
  rw [Int.toNat_natCast, Int.toNat_natCast, drop_at h, show e.toNat - i = (e.toNat - (i + 1)) + 1 by omega, List.take_succ_cons]
theorem text_segs (cuts : List Int) : ∀ (R P cs : List Int) (x : Int), risB (P.length : Int) cs ((P ++ x :: R).length : Int) = true → (∀ p : Int, (P.length : Int) < p → (p ∈ cuts ↔ p ∈ cs)) →
    J3 (segs (fun a b => lineP (sliceI (P ++ x :: R) a b)) (P.length : Int) cs ((P ++ x :: R).length : Int)) = numI x ++ tailT cuts (P.length + 1) R
  | [], P, cs, x, hr, hm => by
    have e : cs = [] := by
      cases cs with
      | nil => rfl
      | cons c r =>
        have := ris_mem hr c List.mem_cons_self
        rw [List.length_append] at this
        simp at this
        omega
    subst e
    rw [segs]
    have e : sliceI (P ++ [x]) (P.length : Int) ((P ++ [x]).length : Int) = [x] := by
      unfold sliceI
      simp
    show J3 [lineP _] = _
    rw [e]
    simp [tailT, lineP, TL.joinL]
  | y :: R, P, cs, x, hr, hm => by
    have hx : (P ++ x :: y :: R)[P.length]? = some x := by simp
    have hy : (P ++ x :: y :: R)[P.length + 1]? = some y := by
      rw [List.getElem?_append_right (by omega)]
      simp
    have eP : P ++ [x] ++ y :: R = P ++ x :: y :: R := by simp
    have lP : (P ++ [x]).length = P.length + 1 := by simp
    have big : P.length + 1 < (P ++ x :: y :: R).length := by
      rw [List.length_append]
      simp
    by_cases hc : ∃ cs', cs = ((P.length + 1 : Nat) : Int) :: cs'
    · obtain ⟨cs', rfl⟩ := hc
      have hr0 := hr
      simp only [risB, Bool.and_eq_true, decide_eq_true_eq] at hr
      have ih := text_segs cuts R (P ++ [x]) cs' y (by rw [eP, lP]; exact hr.2) (fun p hp => by
        rw [lP] at hp
        rw [hm p (by omega)]
        constructor
        · intro z
          rcases List.mem_cons.mp z with z | z
          · omega
          · exact z
        · exact fun z => List.mem_cons_of_mem _ z)
      rw [eP, lP] at ih
      rw [segs, j3_two _ (segs_ne _ _ _ _), ih, tailT, if_pos ((hm _ (by omega)).mpr List.mem_cons_self)]
      have e : lineP (sliceI (P ++ x :: y :: R) (P.length : Int) ((P.length + 1 : Nat) : Int)) = numI x := by
        rw [slice_next hx (by omega)]
        have e2 : sliceI (P ++ x :: y :: R) ((P.length + 1 : Nat) : Int) ((P.length + 1 : Nat) : Int) = [] := by
          unfold sliceI
          simp
        rw [e2]
        rfl
      rw [e]
    · have hno : ((P.length + 1 : Nat) : Int) ∉ cs := by
        intro z
        cases cs with
        | nil => cases z
        | cons c r =>
          simp only [risB, Bool.and_eq_true, decide_eq_true_eq] at hr
          rcases List.mem_cons.mp z with z | z
          · exact hc ⟨r, by rw [z]⟩
          · have := ris_mem hr.2 _ z
            omega
      have key : ∀ e : Int, ((P.length + 1 : Nat) : Int) < e → lineP (sliceI (P ++ x :: y :: R) (P.length : Int) e) = numI x ++ ([32] ++ lineP (sliceI (P ++ x :: y :: R) ((P.length + 1 : Nat) : Int) e)) := by
        intro e he
        rw [slice_next hx (by omega), slice_next hy (by omega)]
        exact join_two _ _ (by simp)
      have ih := text_segs cuts R (P ++ [x]) cs y (by
        rw [eP, lP]
        cases cs with
        | nil => rfl
        | cons c r =>
          have h0 := ris_mem hr c List.mem_cons_self
          have hne : c ≠ ((P.length + 1 : Nat) : Int) := fun z => hno (by rw [z]; exact List.mem_cons_self)
          simp only [risB, Bool.and_eq_true, decide_eq_true_eq] at hr ⊢
          exact ⟨⟨by omega, hr.1.2⟩, hr.2⟩) (fun p hp => by
        rw [lP] at hp
        exact hm p (by omega))
      rw [eP, lP] at ih
      rw [tailT, if_neg (by rw [hm _ (by omega)]; exact hno), ← ih]
      cases cs with
      | nil =>
        rw [segs, segs, key _ (by omega)]
        show J3 [_] = _
        rw [j3_front, j3_front]
      | cons c r =>
        have h0 := ris_mem hr c List.mem_cons_self
        have hne : c ≠ ((P.length + 1 : Nat) : Int) := fun z => hno (by rw [z]; exact List.mem_cons_self)
        rw [segs, segs, key _ (by omega), j3_front, j3_front]
theorem text_written {row cuts : List Int} (h : risB 0 cuts row.length = true) : writtenP row cuts = textP row cuts := by
  cases row with
  | nil => rfl
  | cons x r =>
    have q := text_segs cuts r [] cuts x h fun p _ => Iff.rfl
    rw [writtenP, if_neg (by simp)]
    exact q
theorem ris_list (n : Int) : ∀ (L : List Nat) (l : Int), L.Pairwise (· < ·) → (∀ k ∈ L, l < 1 + (k : Int) ∧ 1 + (k : Int) < n) → risB l (L.map fun (k : Nat) => 1 + (k : Int)) n = true
  | [], _, _, _ => rfl
  | k :: L, l, hp, h => by
    obtain ⟨h1, h2⟩ := List.pairwise_cons.mp hp
    have := h k List.mem_cons_self
    rw [List.map_cons, risB, ris_list n L _ h2 fun j hj => ⟨by have := h1 j hj; omega, (h j (List.mem_cons_of_mem _ hj)).2⟩]
    simp
    omega
theorem ris_filter (p : Nat → Bool) (n : Nat) : risB 0 (((List.range (n - 1)).filter p).map fun (k : Nat) => 1 + (k : Int)) n = true :=
  ris_list n _ 0 (List.Pairwise.filter p List.pairwise_lt_range) fun k hk => by
    have := List.mem_range.mp (List.mem_filter.mp hk).1
    omega
theorem numI_len {x : Int} (h : x ≤ 1000001) : (numI x).length ≤ 7 := TL.numL_len (by decide) (by omega)
theorem tail_len (cuts : List Int) : ∀ (r : List Int) (i : Nat), (∀ x ∈ r, x ≤ 1000001) → (tailT cuts i r).length ≤ 10 * r.length
  | [], i, _ => Nat.le_refl _
  | x :: r, i, h => by
    have h1 := tail_len cuts r (i + 1) fun y hy => h y (List.mem_cons_of_mem _ hy)
    have h2 := numI_len (h x List.mem_cons_self)
    rw [tailT, List.length_append, List.length_append, List.length_cons]
    split
    · simp
      omega
    · simp
      omega
theorem text_len {row cuts : List Int} (h : ∀ x ∈ row, x ≤ 1000001) : (textP row cuts).length ≤ 10 * row.length + 1 := by
  cases row with
  | nil => simp [textP]
  | cons x r =>
    have h1 := tail_len cuts r 1 fun y hy => h y (List.mem_cons_of_mem _ hy)
    have h2 := numI_len (h x List.mem_cons_self)
    rw [textP, List.length_append, List.length_cons]
    omega
/-! ### strip(figures) -/
theorem tw_all {p : Nat → Bool} : ∀ {l : List Nat}, l.all p = true → l.takeWhile p = l
  | [], _ => rfl
  | c :: r, h => by
    rw [List.all_cons, Bool.and_eq_true] at h
    rw [List.takeWhile_cons, if_pos h.1, tw_all h.2]
theorem tw_less {p : Nat → Bool} : ∀ {l : List Nat}, l.all p = false → (l.takeWhile p).length < l.length
  | [], h => by cases h
  | c :: r, h => by
    rw [List.takeWhile_cons]
    split
    · rename_i hc
      rw [List.all_cons, hc, Bool.true_and] at h
      have := tw_less h
      simp
      omega
    · simp
theorem tw_next {p : Nat → Bool} : ∀ {l : List Nat}, l.all p = false → (l.drop (l.takeWhile p).length).all p = false
  | [], h => by cases h
  | c :: r, h => by
    rw [List.takeWhile_cons]
    split
    · rename_i hc
      rw [List.all_cons, hc, Bool.true_and] at h
      rw [List.length_cons, List.drop_succ_cons]
      exact tw_next h
    · exact h
theorem all_rev {p : Nat → Bool} (l : List Nat) : l.reverse.all p = l.all p := by
  rw [Bool.eq_iff_iff, List.all_eq_true, List.all_eq_true]
  simp
def figS : Str := "0123456789"
theorem fig_has (c : Nat) : figS.cps.contains c = dgB c := by
  have e : figS.cps.contains c = [48, 49, 50, 51, 52, 53, 54, 55, 56, 57].contains c := by
    have : figS.cps = #[48, 49, 50, 51, 52, 53, 54, 55, 56, 57] := by decide +kernel
    rw [this]
    simp
  rw [e]
  unfold dgB
  rw [Bool.eq_iff_iff]
  simp
  omega
theorem strip_fig (w : List Nat) : (Txt.stripChars (SX.S w) figS = SX.S []) ↔ w.all dgB = true := by
  have hg : figS.cps.contains = dgB := funext fig_has
  have hl : (SX.S w).length = w.length := SX.S_len w
  have ht : TL.tl (SX.S w) = w := TL.tl_mk w
  unfold Txt.stripChars Txt.stripBy
  rw [hg]
  unfold stripSame stripped
  have e1 : stripLo dgB true (SX.S w) = (w.takeWhile dgB).length := rfl
  generalize hlo : stripLo dgB true (SX.S w) = lo
  have e2 : stripHi dgB true (SX.S w) lo = w.length - ((w.drop lo).reverse.takeWhile dgB).length := by
    unfold stripHi
    rw [if_pos rfl, hl]
  rw [hlo] at e1
  rw [hl, e2]
  have sub : ∀ i j, TL.tl (Builtin.Str.strSub (SX.S w) i j) = (w.drop i).take (j - i) := fun i j => by rw [TL.tl_strSub, ht]
  cases ha : w.all dgB with
  | true =>
    refine ⟨fun _ => rfl, fun _ => ?_⟩
    rw [tw_all ha] at e1
    split
    · rename_i h
      rw [Bool.and_eq_true] at h
      have := eq_of_beq h.1
      have : w = [] := List.length_eq_zero_iff.mp (by omega)
      rw [this]
    · apply TL.ext_tl
      rw [sub, e1, List.drop_length, List.take_nil]
  | false =>
    refine ⟨fun h => ?_, fun h => by cases h⟩
    have l1 := tw_less ha
    have l2 := tw_next ha
    rw [← e1] at l1 l2
    rw [← all_rev] at l2
    have l3 := tw_less l2
    rw [List.length_reverse, List.length_drop] at l3
    split at h
    · have := SX.S_inj h
      rw [this] at ha
      cases ha
    · have q := congrArg (fun z => (TL.tl z).length) h
      simp only [sub, List.length_take, List.length_drop] at q
      have z : (TL.tl (SX.S [])).length = 0 := rfl
      rw [z] at q
      omega
/-- which words are numbers: as the program asks -/
theorem form_eq (w : List Nat) : formB w = (!(!(decide (1 ≤ w.length) && decide (w.length ≤ 7)) || (!decide (Txt.stripChars (SX.S w) figS = SX.S []) || (decide (w.head? = some 48) && !decide (w = [48]))))) := by
  have e : decide (Txt.stripChars (SX.S w) figS = SX.S []) = w.all dgB := by
    rw [Bool.eq_iff_iff, decide_eq_true_eq]
    exact strip_fig w
  rw [e]
  unfold formB
  cases decide (1 ≤ w.length) <;> cases decide (w.length ≤ 7) <;> cases w.all dgB <;> cases (decide (w.head? = some 48) && !decide (w = [48])) <;> rfl
theorem int_form {w : List Nat} (h : formB w = true) : intText? (SX.S w) = some (valN w : Int) := by
  obtain ⟨h1, h2, h3, _⟩ := form_parts h
  exact SX.int_S h3 (fun e => by rw [e] at h1; exact absurd h1 (by decide)) (by omega)

end
end Ct
namespace Ct
open PySem PySem.Spec PyProof.Rows L2 Evl
open He (ga ma)
section
variable {P : Program} {w : World} {K : PySem.W.Frag} {mg : Str → Option Value} {base : Heap}
/-! ### texts -/
abbrev VS (l : List Nat) : V := .str (SX.S l)
theorem decS (a b : List Nat) : decide (VS a = VS b) = decide (a = b) := by
  rw [Bool.eq_iff_iff, decide_eq_true_eq, decide_eq_true_eq]
  constructor
  · intro h
    injection h with h
    exact SX.S_inj h
  · intro h
    rw [h]
theorem sg_dash : (Str.ofString "-") = SX.S [45] := by decide +kernel
theorem sg_sp : (Str.ofString " ") = SX.S [32] := by decide +kernel
theorem sg_sep : (Str.ofString " | ") = SX.S [32, 124, 32] := by decide +kernel
theorem sg_bar : (Str.ofString "|") = SX.S [124] := by decide +kernel
theorem sg_0 : (Str.ofString "0") = SX.S [48] := by decide +kernel
theorem sg_9 : (Str.ofString "9") = SX.S [57] := by decide +kernel
theorem sg_no : (Str.ofString "") = SX.S [] := by decide +kernel
theorem rep_fold (c : Nat) : ∀ (n : Nat) (a : Array Nat), (List.replicate n #[c]).foldl (fun x y => x ++ y) a = a ++ (List.replicate n c).toArray
  | 0, a => by simp
  | n + 1, a => by
    rw [List.replicate_succ, List.foldl_cons, rep_fold c n (a ++ #[c]), List.replicate_succ]
    apply Array.toList_inj.mp
    simp
def rRep1 : R2 := fun x y H Q => ∃ (c n : Nat), x = VS [c] ∧ y = .int (n : Int) ∧ 2 ≤ n ∧ n ≤ 100000 ∧ Q (VS (List.replicate n c)) H
section
variable {X : Cx}
theorem op_rep1 : OpR X (binaryOp .Mult) rRep1 := by
  intro pins s σ H x y v u Q I rx ry h
  obtain ⟨c, n, rfl, rfl, h1, h2, q⟩ := h
  obtain ⟨t, rfl⟩ := rx
  obtain ⟨t', rfl⟩ := ry
  have lc : (SX.S [c]).length = 1 := rfl
  have hn : ¬ ((n : Int) < 1) := by omega
  have h1' : ((n : Int) == 1) = false := by
    apply Bool.eq_false_iff.mpr
    intro z
    have := eq_of_beq z
    omega
  refine PySem.P.mul_str ?_ ?_ ?_ ?_
  · rw [decide_eq_false (by omega), decide_eq_false (by omega)]
    rfl
  · intro _ _
    rw [lc]
    intro z
    have h3 : (1 : Int) ≤ (2 ^ 63 - 1) / (n : Int) := (Int.le_ediv_iff_mul_le (by omega)).mpr (by omega)
    have z : ((1 : Nat) : Int) > (2 ^ 63 - 1) / (n : Int) := z
    omega
  · intro _ _
    rw [lc, Nat.one_mul, Int.toNat_natCast]
    exact decide_eq_false (Nat.not_lt.mpr (sz_of h2))
  · rw [if_neg hn, h1']
    rw [if_neg (by rw [lc]; decide), Int.toNat_natCast]
    have e : (⟨(List.replicate n (SX.S [c]).cps).foldl (· ++ ·) #[]⟩ : Str) = SX.S (List.replicate n c) := by
      show (⟨(List.replicate n #[c]).foldl (fun x y => x ++ y) #[]⟩ : Str) = _
      rw [rep_fold]
      simp
    rw [e]
    exact ⟨by rw [SX.S_len, List.length_replicate]; exact sz_of h2, ⟨VS (List.replicate n c), H, I.tok _, ⟨_, rfl⟩, q⟩⟩
variable {K : PySem.W.Frag}
abbrev rJoin (K : PySem.W.Frag) : V → List V → Hp → VK → Prop := fun x xs H Q => ∃ a p, ∃ ys : List Str, x = .str a ∧ xs = [.ref p] ∧ (SqL K H p (ys.map V.str) ∨ SqT K H p (ys.map V.str)) ∧ (ys.map (·.length)).sum + ys.length * a.length ≤ 16777216 ∧ Q (.str (Txt.join a ys)) H
theorem pe_joinK {o e : Expr} {to te : TE} {apos pos : Pos} (h : X.K = K) (ho : PE X o to) (he : PE X e te) (hs : starEach [e] X.env = [(false, eval e X.env)] := by rfl) (hbase : attributeBase o "join" X.env (eval o X.env) = eval o X.env := by rfl) (hline : (apos.endLine == pos.line) = true := by rfl) :
    PE X (.Call (.Attribute o "join" apos) [e] [] pos) (tM1 (rJoin K) to te) := by
  subst h
  exact pe_join ho he hs hbase hline
end
abbrev rSplit : V → List V → Hp → VK → Prop := fun x xs H Q => ∃ a b, x = .str a ∧ xs = [.str b] ∧ (b.length == 0) = false ∧ a.length + 2 ≤ sizeLine ∧ rNewStrs (Txt.split a b) H Q
abbrev rStrip : V → List V → Hp → VK → Prop := fun x xs H Q => ∃ a b, x = .str a ∧ xs = [.str b] ∧ a.length ≤ sizeLine ∧ Q (.str (Txt.stripChars a b)) H
section
variable {K : PySem.W.Frag} {σ : L2.St} {H : Hp} {ta tb tc te : TE} {D : Ends} {tz : TS}
theorem ev_S {z : Str} {l : List Nat} (e : z = SX.S l) : Ev (tC (.str z)) σ H (VS l) := by
  rw [e]
  exact ev_c
theorem ev_lnS {l : List Nat} (ha : Ev ta σ H (VS l)) (hl : l.length ≤ 100000) : Ev (tCB (fun xs H Q => ∃ z, xs = [.str z] ∧ z.length ≤ sizeLine ∧ Q (.int z.length) H) (tCons ta tNil)) σ H (.int (l.length : Int)) := fun H1 e Q q =>
  ha H1 e _ fun H2 e2 => ⟨SX.S l, rfl, by rw [SX.S_len]; exact sz_of hl, by rw [SX.S_len]; exact q H2 e2⟩
theorem ev_stripS {l : List Nat} {z : Str} (ha : Ev ta σ H (VS l)) (hb : Ev tb σ H (.str z)) (hl : l.length ≤ 100000) : Ev (tM1 rStrip ta tb) σ H (.str (Txt.stripChars (SX.S l) z)) := fun H1 e Q q =>
  ha H1 e _ fun H2 e2 => ⟨⟨_, rfl⟩, hb H2 (e.trans e2) _ fun H3 e3 => ⟨SX.S l, z, rfl, rfl, by rw [SX.S_len]; exact sz_of hl, q H3 (e2.trans e3)⟩⟩
theorem ev_ixS {l : List Nat} {i : Int} {c : Nat} (ha : Ev ta σ H (VS l)) (hb : Ev tb σ H (.int i)) (hl : l.length ≤ 100000) (h0 : 0 ≤ i) (h : l[i.toNat]? = some c) : Ev (tOp rIxS ta tb) σ H (VS [c]) :=
  ev_op ha hb (rv_ixS (by rw [SX.S_len]; exact hl) (by
    rw [show i = ((i.toNat : Nat) : Int) by omega]
    exact atI_nat h))
theorem ev_intS {l : List Nat} {n : Int} (ha : Ev ta σ H (VS l)) (h : PySem.intText? (SX.S l) = some n) (hl : l.length ≤ 640) : Ev (tCB (fun xs H Q => ∃ a n, xs = [.str a] ∧ PySem.intText? a = some n ∧ a.length ≤ 640 ∧ Q (.int n) H) (tCons ta tNil)) σ H (.int n) := fun H1 e Q q =>
  ha H1 e _ fun H2 e2 => ⟨SX.S l, n, rfl, h, by rw [SX.S_len]; exact hl, q H2 e2⟩
theorem ev_strI {i : Int} (ha : Ev ta σ H (.int i)) (h0 : 0 ≤ i) (h1 : i ≤ 1000001) : Ev (tCB (fun xs H Q => ∃ i, xs = [.int i] ∧ i.natAbs.log2 < 1920 ∧ Q (.str (toString i)) H) (tCons ta tNil)) σ H (VS (numI i)) := fun H1 e Q q =>
  ha H1 e _ fun H2 e2 => ⟨i, rfl, by
    by_cases hz : i.natAbs = 0
    · rw [hz]
      decide
    · exact (Nat.log2_lt hz).mpr (Nat.lt_of_le_of_lt (show i.natAbs ≤ 1000001 by omega) (Nat.lt_of_lt_of_le (show 1000001 < 2 ^ 20 by decide) (Nat.pow_le_pow_right (by decide) (by decide)))), by
    have e3 : (Str.ofString (toString i)) = SX.S (numI i) := by
      unfold numI
      rw [← SX.num_S, show ((i.toNat : Nat) : Int) = i by omega]
    rw [e3]
    exact q H2 e2⟩
theorem ev_catS {l m : List Nat} (ha : Ev ta σ H (VS l)) (hb : Ev tb σ H (VS m)) (hl : l.length + m.length ≤ 100000) : Ev (tOp (fun x y H Q => ∃ i j, x = .str i ∧ y = .str j ∧ i.length + j.length ≤ sizeLine ∧ Q (.str (i ++ j)) H) ta tb) σ H (VS (l ++ m)) := fun H1 e Q q =>
  ha H1 e _ fun H2 e2 => hb H2 (e.trans e2) _ fun H3 e3 => ⟨SX.S l, SX.S m, rfl, rfl, by rw [SX.S_len, SX.S_len]; exact sz_of hl, by rw [SX.S_cat]; exact q H3 (e2.trans e3)⟩
theorem ev_rep1 {c n : Nat} (ha : Ev ta σ H (VS [c])) (hb : Ev tb σ H (.int (n : Int))) (h1 : 2 ≤ n) (h2 : n ≤ 100000) : Ev (tOp rRep1 ta tb) σ H (VS (List.replicate n c)) := fun H1 e Q q =>
  ha H1 e _ fun H2 e2 => hb H2 (e.trans e2) _ fun H3 e3 => ⟨c, n, rfl, rfl, h1, h2, q H3 (e2.trans e3)⟩
theorem ev_slTo {l : List Nat} {i : Int} {th : TO} (h : Ev te σ H (VS l)) (h2 : EvO th σ H (some i)) (hl : l.length ≤ 100000) (h0 : 0 ≤ i) : Ev (tSl rSlS te tNoPart th) σ H (VS (l.take i.toNat)) := fun H1 e Q q =>
  h H1 e _ fun H2 e2 => eo_none H2 (e.trans e2) _ fun H3 e3 => h2 H3 ((e.trans e2).trans e3) _ fun H4 e4 => ⟨SX.S l, rfl, by rw [SX.S_len]; exact sz_of hl, by
    rw [C8.cutS_slice, SX.slice_to h0]
    exact q H4 ((e2.trans e3).trans e4)⟩
theorem ev_slFrom {l : List Nat} {i : Int} {tl : TO} (h : Ev te σ H (VS l)) (h2 : EvO tl σ H (some i)) (hl : l.length ≤ 100000) (h0 : 0 ≤ i) : Ev (tSl rSlS te tl tNoPart) σ H (VS (l.drop i.toNat)) := fun H1 e Q q =>
  h H1 e _ fun H2 e2 => h2 H2 (e.trans e2) _ fun H3 e3 => eo_none H3 ((e.trans e2).trans e3) _ fun H4 e4 => ⟨SX.S l, rfl, by rw [SX.S_len]; exact sz_of hl, by
    rw [C8.cutS_slice, SX.slice_from h0]
    exact q H4 ((e2.trans e3).trans e4)⟩
theorem el_splitS {l b : List Nat} (ha : Ev ta σ H (VS l)) (hb : Ev tb σ H (VS b)) (hl : l.length ≤ 90000) (hn : b ≠ []) (hk : b.all (· < 256) = true) : EvL (tM1 rSplit ta tb) σ H ((TL.spl b 0 [] l).map VS) := fun H1 e Q q =>
  ha H1 e _ fun H2 e2 => ⟨⟨_, rfl⟩, hb H2 (e.trans e2) _ fun H3 e3 => ⟨SX.S l, SX.S b, rfl, rfl, by
    rw [SX.S_len]
    cases b with
    | nil => exact absurd rfl hn
    | cons c r => rfl, by rw [SX.S_len]; exact sz_of (by omega), fun p hp => by
    have e4 : (Txt.split (SX.S l) (SX.S b)).map V.str = (TL.spl b 0 [] l).map VS := by
      rw [SX.split_S hn hk, List.map_map]
      rfl
    rw [e4]
    exact q p _ (fresh_back (e2.trans e3) hp) ((e2.trans e3).trans (Ex.new hp)) upd_same⟩⟩
theorem sum_le_mul : ∀ (L : List (List Nat)) (B : Nat), (∀ p ∈ L, p.length ≤ B) → (L.map (·.length)).sum ≤ L.length * B
  | [], B, _ => Nat.zero_le _
  | p :: L, B, h => by
    have h1 := sum_le_mul L B fun q hq => h q (List.mem_cons_of_mem _ hq)
    have h2 := h p List.mem_cons_self
    rw [List.map_cons, List.sum_cons, List.length_cons, Nat.succ_mul]
    omega
theorem ev_joinS {a : List Nat} {L : List (List Nat)} (ha : Ev ta σ H (VS a)) (hb : EvL tb σ H (L.map VS)) (hz : (L.map (·.length)).sum + L.length * a.length ≤ 16777216) : Ev (tM1 (rJoin K) ta tb) σ H (VS (TL.joinL a L)) := fun H1 e Q q =>
  ha H1 e _ fun H2 e2 => ⟨⟨_, rfl⟩, hb H2 (e.trans e2) _ fun p H3 _ e3 h3 => ⟨SX.S a, p, L.map SX.S, rfl, rfl, .inl (sq_of (by rw [h3, List.map_map]; rfl)), by
    rw [SX.lens, List.length_map, SX.S_len]
    exact hz, by
    rw [SX.join_S]
    exact q H3 (e2.trans e3)⟩⟩
theorem rv_eqS {a b : List Nat} : RV rEq (VS a) (VS b) H (.bl (decide (a = b))) := by
  have q := rv_eq (x := VS a) (y := VS b) (H := H) rfl
  rw [decS] at q
  exact q
theorem rv_neS {a b : List Nat} : RV rNe (VS a) (VS b) H (.bl (!decide (a = b))) := by
  have q := rv_ne (x := VS a) (y := VS b) (H := H) rfl
  rw [decS] at q
  exact q
/-- extend by a new list -/
theorem s_ext {l : Addr} {xs ys : List V} (hl : H l = some (.lst xs)) (ha : Ev ta σ H (.ref l)) (h : EvL te σ H ys) (hz : xs.length + ys.length ≤ 100000) (k : ∀ H1, Ex H H1 → D.nx σ (upd H1 l (.lst (xs ++ ys)))) : tDrop (tBM K "list" rExtend ta (tCons te tNil)) D σ H :=
  ha H (Ex.refl H) _ fun H1 e => ⟨.inl ⟨rfl, _, sq_of (e _ _ hl)⟩, h H1 e _ fun p H2 _ e2 h2 => ⟨l, p, xs, ys, rfl, rfl, (e.trans e2) _ _ hl, h2, sz_of hz, k H2 (e.trans e2)⟩⟩
end

end
end Ct
namespace Ct
open PySem PySem.Spec PyProof.Rows L2 Evl
open He (ga ma)
section
variable {P : Program} {w : World} {K : PySem.W.Frag} {mg : Str → Option Value} {base : Heap}
/-! ### any(..) of a list of truths where an exception is handled -/
section
variable {prog : Program} {w : World} {A : Around} {E : Value → Shared → Prop} {s : Shared}
/-- a list's walk ends while an exception is handled whose context is None -/
theorem next_end_hot {it l x1 : Addr} {i : Nat} {its : Array Value} {Q : Option Value → Shared → Prop} (hot : HotX.HotAt A x1 s.heap) (nx : x1 ≠ it) (hit : s.heap.IsListIter it l i) (hl : s.heap.IsList l its) (hx : its[i]? = none)
    (k : ∀ h', Heap.ExtBut it s.heap h' → Q none { s with heap := h' }) : wpAny (model prog w) A (pyNext (.ref it)) Q E s := by
  have hty := hit.typeIs
  obtain ⟨hh, o1, v1, g1, d1, c1⟩ := hot
  have hit2 := hit
  obtain ⟨o, ho, hc, hd⟩ := hit2
  obtain ⟨ol, hol, hcl, nl, hdl⟩ := hl
  unfold pyNext
  refine wpAny_bind (wpAny_attempt ?_)
  refine wpAny_callSpecial?_slot (name := Str.ofString "__next__") hty slot_listiter_next ?_
  refine wpAny_call_entry slot_listiter_next hty entry_listiter_next ?_ (args_listiter_next _)
  show wpAny _ _ (field (.ref it) 0 >>= _) _ _ s
  refine wpAny_bind (wpAny_field ho hd (x := .ref l) rfl ?_)
  have nn : ¬ ((Value.ref l == Value.none) = true) := Bool.false_ne_true
  show wpAny _ _ (if (Value.ref l == Value.none) = true then _ else _) _ _ s
  rw [if_neg nn]
  show wpAny _ _ (field (.ref it) 1 >>= _) _ _ s
  refine wpAny_bind (wpAny_field ho hd (x := .int i 0) rfl ?_)
  show wpAny _ _ (seqItems? (.ref l) >>= _) _ _ s
  refine wpAny_bind (wpAny_seqItems hol hdl ?_)
  simp only [hx, Int.toNat_natCast]
  refine wpAny_bind (wpAny_rule ?_)
  refine wpAny_bind (wpAny_setField ho hd (by simp) ?_)
  show wpAny _ _ (newExc (.type "StopIteration") [] >>= _) _ _ _
  refine wpAny_bind ?_
  simp only [newTuple, newExc]
  refine wpAny_bind (wpAny_newObj_type ?_ (by show 0 ≤ sizeLine; exact Nat.zero_le _))
  have fam : firstArgMember (.type "StopIteration") [] = (pure Value.none : Sem Value) := by
    first
    | rfl
    | (simp only [firstArgMember]; rfl)
  refine wpAny_bind (m := firstArgMember _ _) (wpAny_of_eq (a := Value.none) fam ?_)
  refine wpAny_newObj_type ?_ (by size_fits)
  generalize hg : (s.heap.update it _) = h1
  have old : ∀ b ob, b ≠ it → s.heap.get? b = some ob → h1.get? b = some ob := fun b ob hb e => by
    rw [← hg, Heap.get?_update_other _ _ (Ne.symm hb)]
    exact e
  have p1 := Heap.get?_push_of_some { cls := .type "tuple", dict := none, data := .seq ([] : List Value).toArray } (old _ _ nx g1)
  refine HotX.raiseNew_hot ⟨hh, o1, v1, Heap.get?_push_of_some _ p1, d1, c1⟩ (Nat.ne_of_lt (Heap.lt_size p1)) (Heap.get?_push_size _ rfl) rfl (by first | (simp; done) | (simp; omega) | (simp only [Array.size_append]; simp; omega)) ?_
  refine wpAny_bind ?_
  refine wpAny_isInstance (T := "StopIteration") (b := true) ⟨_, Heap.get?_update_self _ (Heap.get?_push_size _ rfl) rfl, rfl⟩ isSubtype_stop ?_
  refine wpAny_pure (k _ ?_)
  have e1 : Heap.ExtBut it s.heap h1 := by
    rw [← hg]
    exact (Heap.SameBut.update ..).extBut
  have e2 := (e1.push { cls := .type "tuple", dict := none, data := .seq ([] : List Value).toArray })
  intro b ob hb e
  have e3 := e2 b ob hb e
  rw [Heap.get?_update_other _ _ (Nat.ne_of_gt (Heap.lt_size e3))]
  exact Heap.get?_push_of_some _ e3
end
section
variable {prog : Program} {w : World} {A : Around}
/-- a list's iterator as any, all walk it, an exception being handled -/
theorem walksHot {x1 : Addr} {o1 : Obj} {v1 : Array Value} (hh : A.handled = some (.ref x1)) (d1 : o1.data = .fields v1) (c1 : v1[2]? = some .none) (it l : Addr) (nl : l ≠ it) (nx : x1 ≠ it) (items : Array Value) :
    Walks prog w A it [it, l, x1] [it] items.size (fun i v => items[i]? = some v) (fun i h => h.IsListIter it l i ∧ h.IsList l items ∧ h.get? x1 = some o1) :=
  { sub := by
      intro b hb
      rw [List.mem_singleton.mp hb]
      exact List.mem_cons_self
    frame := fun _ _ _ st hk =>
      ⟨st.1.at fun o e => hk it (by simp) o e, st.2.1.at fun o e => hk l (by simp) o e, hk x1 (by simp) _ st.2.2⟩
    item := by
      intro i s Q E hi st hQ
      refine wpAny_pyNext_list_item st.1 st.2.1 (x := items[i]) (by simp [hi]) fun h' hit' hs' => ?_
      refine hQ _ h' s.toks (by simp [hi]) ⟨hit', st.2.1.extBut hs'.extBut nl, hs'.extBut x1 o1 nx st.2.2⟩ ?_
      intro b o hb e
      exact hs'.extBut b o (fun z => hb (by rw [z]; exact List.mem_cons_self)) e
    done := by
      intro s Q E st hQ
      refine next_end_hot ⟨hh, o1, v1, st.2.2, d1, c1⟩ nx st.1 st.2.1 (by simp) fun h' he' => hQ h' s.toks ?_
      intro b o hb e
      exact he' b o (fun z => hb (by rw [z]; exact List.mem_cons_self)) e
    self := fun _ _ _ _ st hQ => wpAny_pyIter_listiter st.1 hQ }
end
section
variable {X : L2.Cx}
open L2
/-- any of a list of truths, where an exception is handled -/
theorem cr_anyHot (hot : L2H.HotC X) : CallR X (.builtin "any") (rAny X.K) := by
  intro pins s σ H vs us Q I r h
  obtain ⟨a, bs, rfl, hs, q⟩ := h
  obtain ⟨its, rv, hl, _⟩ := I.list hs
  obtain ⟨⟨x1, o1⟩, ⟨hh, v1, d1, c1⟩, hp⟩ := hot
  have g1 := (I.pin _ (List.mem_append_left _ hp)).1
  have lt1 : x1 < s.heap.objs.size := Heap.lt_size g1
  rw [Vals.ref1 r]
  have hb := rv.bls
  refine call_any_walk (iter_any hl.isList fun s₂ e2 st hne => ?_)
  subst e2
  have W := walksHot (prog := X.prog) (w := X.w) (A := X.A.in1) hh d1 c1 s.heap.objs.size a hne (Nat.ne_of_lt lt1) its.toArray
  refine ⟨_, _, _, _, _, _, _, rfl, W, ⟨st.1, st.2, Heap.get?_push_of_some _ g1⟩, truth_bools hb, fun h' tk hk => ?_⟩
  refine ⟨.bl _, H, I.kept fun b o eo => hk b o (fun hm => ?_) (Heap.get?_push_of_some _ eo), ?_, q⟩
  · exact absurd (Heap.lt_size eo) (by rw [List.mem_singleton.mp hm]; exact Nat.lt_irrefl _)
  · show Value.bool _ = Value.bool _
    rw [← L2.any_range, hb, List.size_toArray, List.length_map]
end

end
end Ct
namespace Ct
open PySem PySem.Spec PyProof.Rows L2 Evl
open He (ga ma)
section
variable {P : Program} {w : World} {K : PySem.W.Frag} {mg : Str → Option Value} {base : Heap}
/-! ### an exception that leaves a list comprehension -/
section
variable {M : Model} {A : Around} {E : Value → Shared → Prop} {s : Shared} {env : Env}
/-- behind the block of a comprehension: ce is the block's environment -/
def lcPost (M : Model) (A : Around) (E : Value → Shared → Prop) (Q : Value → Shared → Prop) (acc : Value) (ce : Env) (r : Result) (s' : Shared) : Prop :=
  match r with
  | .ok _ => ∃ m, s'.heap.Ns ce.locals m ∧ ∀ h', Heap.SameBut ce.locals s'.heap h' → Q acc { s' with heap := h' }
  | .error x => ∃ m, s'.heap.Ns ce.locals m ∧ ∀ h', Heap.SameBut ce.locals s'.heap h' → wpAny M A (PySem.passOn "comprehension.variables-let-go" x ce : Sem Value) (fun _ _ => False) E { s' with heap := h' }
theorem wp_lc {e : Expr} {scope : Scope} {pos : Pos} {newAcc first : Sem Value} {g : Comprehension} {gs : List Comprehension} {cl : List (Str × Addr)} {Q : Value → Shared → Prop}
    (hcl : clausesOf e = g :: gs) (hs : ∀ x, foldedSetIterable g.iter env x = pure x) (hclos : closureFor scope env = pure cl) (hkind : scope.kind = .function) (hnames : ∀ x ∈ scope.names, x.2 = .local → scope.names.lookup x.1 = some .local)
    (h : wpAny M A first (fun x s1 => wpAny M A (pyIter x) (fun it s2 => wpAny M A newAcc (fun acc s3 => wpAny M A (newFunctionEnv scope env.globals cl [] env.qual none .none (some env)) (fun cenv s4 =>
        codeAny M A (.compStart e 0 it acc { cenv with scope := relabel scope env }) (lcPost M A E Q acc { cenv with scope := relabel scope env }) s4) E s3) E s2) E s1) E s) :
    wpAny M A (comprehension e scope env pos newAcc false first none) Q E s := by
  unfold comprehension
  rw [hclos, hcl]
  refine wpAny_bind (wpAny_mono h ?_ fun _ _ z => z)
  intro x s1 k1
  refine wpAny_bind (wpAny_standAt (wpAny_bind (wpAny_of_eq (hs x) (wpAny_bind (wpAny_holding ?_)))))
  refine wpAny_mono k1 ?_ fun _ _ z => z
  intro it s2 k2
  refine wpAny_standIf (wpAny_bind (wpAny_mono k2 ?_ fun _ _ z => z))
  intro acc s3 k3
  refine wpAny_bind (wpAny_pure (wpAny_bind (wpAny_mono k3 ?_ fun _ _ z => z)))
  intro cenv s4 k4
  dsimp only
  have v1 : ∀ x ∈ (scope.names.filter fun x => (x.2 == .local || x.2 == .cell) && x.1 != (".0" : Str)).reverse, x.2 = .local → Env.kindOf { cenv with scope := relabel scope env } x.1 = some .local := by
    intro x hx hl
    exact lookup_relabel_local (hnames x (List.mem_filter.mp (List.mem_reverse.mp hx)).1 hl)
  have v2 : ∀ x ∈ (scope.names.filter fun x => (x.2 == .local || x.2 == .cell) && x.1 != (".0" : Str)).reverse.drop 1 ++ (scope.names.filter fun x => (x.2 == .local || x.2 == .cell) && x.1 != (".0" : Str)).reverse.take 1, x.2 = .local → Env.kindOf { cenv with scope := relabel scope env } x.1 = some .local := by
    intro x hx hl
    cases List.mem_append.mp hx with
    | inl y => exact v1 x (List.mem_of_mem_drop y) hl
    | inr y => exact v1 x (List.mem_of_mem_take y) hl
  refine wpAny_holding (wpAny_bind (wpAny_attempt (wpAny_holding (wpAny_run (codeAny_mono k4 ?_)))))
  intro r s' hr
  cases r with
  | ok f =>
    obtain ⟨m, hn, hq⟩ := hr
    exact wpAny_bind (wpAny_holding (wpAny_comp_letGo (cenv := { cenv with scope := relabel scope env }) hkind _ s' m v1 hn fun h' _ _ sb => wpAny_pure (hq h' sb)))
  | error x =>
    obtain ⟨m, hn, hq⟩ := hr
    exact wpAny_bind (wpAny_holding (wpAny_comp_letGo (cenv := { cenv with scope := relabel scope env }) hkind _ s' m v1 hn fun h' _ _ sb => wpAny_mono (hq h' sb) (fun _ _ f => f.elim) fun _ _ y => y))
end
/-- a frame is noted by its address alone -/
theorem note_frame {e : Value} {c c' : Env} (h : c.frame = c'.frame) : noteFrame e c = noteFrame e c' := by
  unfold noteFrame PySem.frameOf
  rw [h]
theorem frames_but {base B h h' : Heap} : ∀ {l : List Env}, h.FunFrames base l → (∀ b ∈ frs l, B.get? b = none) → (∀ b ∈ frs l, h'.get? b = h.get? b) → h'.FunFrames B l
  | [], _, _, _ => trivial
  | env :: l, x, n, k => by
    obtain ⟨hk, ⟨L, o, hf, _, ho, hd⟩, hr⟩ := x
    have mem : L ∈ frs (env :: l) := List.mem_filterMap.mpr ⟨env, List.mem_cons_self, hf⟩
    have sub : ∀ b, b ∈ frs l → b ∈ frs (env :: l) := by
      intro b hb
      obtain ⟨e, he, q⟩ := List.mem_filterMap.mp hb
      exact List.mem_filterMap.mpr ⟨e, List.mem_cons_of_mem _ he, q⟩
    exact ⟨hk, ⟨L, o, hf, n L mem, by rw [k L mem]; exact ho, hd⟩, frames_but hr (fun b hb => n b (sub b hb)) fun b hb => k b (sub b hb)⟩
/-- the context of a block with a wish about exceptions -/
abbrev blkX (X : Cx) (s : Shared) (H : Hp) (scope : Scope) (ce : Env) (fp : List Addr) (xe : Value → Shared → Prop) : Cx := { X.blk s H scope ce fp with xe := xe }
theorem blk_wish {X : Cx} {s s' : Shared} {H H' : Hp} {scope : Scope} {ce : Env} {fp : List Addr} {xe : Value → Shared → Prop} {pins : List (Addr × Obj)} {σ : L2.St} (I : Inv (X.blk s H scope ce fp) pins σ H' s') : Inv (blkX X s H scope ce fp xe) pins σ H' s' := by
  have ok := I.ok
  exact ⟨⟨ok.mod, ok.kind, ok.glob, ok.blt, ok.above, ok.inj, ok.has, ok.cab, ok.hd, ok.frames, ok.stk, ok.exf, ok.bs, ok.bsz, ok.noex, ok.exfs, ok.funs, ok.frf⟩, I.os, I.bare, I.base, I.loc, I.cell, I.free, I.freeC, I.pin, I.hok, I.len⟩
section
variable {X : Cx} {pins pins' : List (Addr × Obj)} {σ σ' : L2.St} {H H1 : Hp} {s s1 s' : Shared} {scope : Scope} {ce : Env} {fp : List Addr} {E : XK} {xe : Value → Shared → Prop}
/-- a call's exception leaves the block: X takes it -/
theorem blk_lets {Q : Value → Shared → Prop} {acc u : Value} (hs : X.stack = X.env :: X.outer) (hf : X.env.frame = some X.env.locals) (tk : L2N.Takes X (fun cls d _ H => E cls d H)) (I : Inv X pins σ H s) (hce : ce.frame = X.env.frame) (hC : ce.locals = s.heap.objs.size)
    (hfp : ∀ b ∈ fp, FpOk X pins H b) (J : Inv (blkX X s H scope ce fp xe) pins' σ' H1 s1) (c : L2N.CX X.prog X.w X.stack H1 s1 E u s') :
    notedBy (model X.prog X.w) X.A ce (fun e s2 => lcPost (model X.prog X.w) X.A X.xe Q acc ce (.error e) s2) u s' := by
  obtain ⟨a, B, H2, cls, d, rfl, fl, hok, ub, na, os, ag, hE⟩ := c
  have frm : X.A.frames = some (X.env :: X.outer) := by rw [I.ok.frames, hs]
  show wpAny _ _ (noteFrame (.ref a) ce) _ _ _
  rw [note_frame hce]
  have fl0 := fl
  rw [hs] at fl
  refine PXN.looks_onZ L2N.Zn.steady frm hf fl fun h1 held up1 => ?_
  rw [← hs] at held
  -- the block's own dict
  have lt : ∀ b o, s.heap.get? b = some o → b ≠ ce.locals := by
    intro b o e z
    have y := Heap.lt_size e
    rw [z, hC] at y
    exact Nat.lt_irrefl _ y
  have fnot : ∀ b ∈ frs X.stack, b ≠ ce.locals := by
    intro b hb
    obtain ⟨_, o, e, _⟩ := I.stack.mem hb
    exact lt b o e
  have Cno : ce.locals ∉ frs X.stack := fun z => fnot _ z rfl
  obtain ⟨m, ⟨oC, es, ep, gC, dC, sC, fC⟩, _⟩ := J.loc
  have gC : s1.heap.get? ce.locals = some oC := gC
  have freeC : H1 ce.locals = none := J.free
  have BC : B.get? ce.locals = some oC := ub.keep _ _ gC freeC Cno
  have hC1 : h1.get? ce.locals = some oC := held.1 _ _ BC
  refine ⟨m, ⟨oC, es, ep, hC1, dC, sC, fC⟩, ?_⟩
  intro h2 sb
  have old : ∀ b, b ≠ ce.locals → h2.get? b = h1.get? b := fun b hb => sb.2 b hb
  have ndict : ∀ b o vs, h1.get? b = some o → o.data = .fields vs → b ≠ ce.locals := by
    intro b o vs e q z
    rw [z, hC1] at e
    cases e
    rw [dC] at q
    cases q
  obtain ⟨Bf, b1, b2⟩ := restrict B fun b => decide (b ≠ ce.locals)
  have Bi : ∀ b, b ≠ ce.locals → Bf.get? b = B.get? b := fun b hb => b1 b (decide_eq_true hb)
  have Bo : ∀ b o, Bf.get? b = some o → b ≠ ce.locals ∧ B.get? b = some o := by
    intro b o e
    by_cases hb : b = ce.locals
    · rw [b2 b (by simp [hb])] at e
      cases e
    · exact ⟨hb, by rw [← Bi b hb]; exact e⟩
  have Bn : ∀ b, B.get? b = none → Bf.get? b = none := by
    intro b e
    cases q : Bf.get? b with
    | none => rfl
    | some o =>
      rw [(Bo b o q).2] at e
      cases e
  have held2 : HandSPX.HeldZ Bf X.stack a (L2N.Zn cls d) X.env.locals h2 := by
    obtain ⟨k1, k2, k3, oe, vs, T, oT, ts, he, hz, hd, e1, e2, e3, e4, e5, e6⟩ := held
    refine ⟨?_, Bn a k2, ?_, oe, vs, T, oT, ts, ?_, hz, hd, e1, Bn T e2, e3, ?_, e5, e6⟩
    · intro b o e
      obtain ⟨y1, y2⟩ := Bo b o e
      rw [old b y1]
      exact k1 b o y2
    · exact frames_but k3 (fun b hb => Bn b (k3.mem hb).1) fun b hb => old b (fnot b hb)
    · rw [old a (ndict a oe vs he hd)]
      exact he
    · rw [old T (ndict T oT ts e4 e5)]
      exact e4
  show wpAny _ _ (PySem.passOn _ (.ref a) ce) _ _ _
  unfold PySem.passOn
  obtain ⟨k1, k2, k3, oe, vs, T, oT, ts, he, hz, hd, e1, rest⟩ := id held2
  refine wpAny_bind (wpAny_field he hd e1 ?_)
  rw [if_neg (show ¬ ((Value.ref T == Value.none) = true) from Bool.false_ne_true)]
  show wpAny _ _ (setFlight (.ref a) ce.frame >>= _) _ _ _
  rw [hce, hf]
  refine wpAny_bind (HandSPX.setFlight_onZ held2 fun h3 held3 up3 => wpAny_throw ?_)
  -- the state without the exception
  obtain ⟨G, g1, g2⟩ := restrict h3 fun b => (Bf.get? b).isSome || decide (b ∈ frs X.stack)
  have st : Bf.StaysIn h3 := held3.1
  have gB : ∀ b o, Bf.get? b = some o → G.get? b = some o := by
    intro b o e
    rw [g1 b (by simp [e])]
    exact st b o e
  have gF : ∀ b, b ∈ frs X.stack → G.get? b = h3.get? b := fun b hb => g1 b (by simp [hb])
  have og : ∀ b o, G.get? b = some o → h3.get? b = some o ∧ ((Bf.get? b).isSome = true ∨ b ∈ frs X.stack) := by
    intro b o e
    cases q : ((Bf.get? b).isSome || decide (b ∈ frs X.stack)) with
    | false =>
      rw [g2 b q] at e
      cases e
    | true =>
      rw [g1 b q] at e
      exact ⟨e, by simpa [Bool.or_eq_true] using q⟩
  have base : Un (frs X.stack) fp H H1 s.heap s1.heap := J.base
  have fslot : ∀ b o, s1.heap.get? b = some o → (∀ vs, o.data ≠ .fields vs) → b ∈ frs X.stack → ∃ sl, G.get? b = some { o with slots := sl } := by
    intro b o e hd hb
    obtain ⟨l1, q1⟩ := ub.slot b o e hb
    obtain ⟨l2, q2⟩ := up1 b _ q1 hd
    have q3 : h2.get? b = _ := (old b (fnot b hb)).trans q2
    obtain ⟨l4, q4⟩ := up3 b _ q3 hd
    exact ⟨l4, by rw [gF b hb]; exact q4⟩
  have fdat : ∀ b o, s.heap.get? b = some o → b ∈ frs X.stack → ∀ vs, o.data ≠ .fields vs := by
    intro b o e hb
    obtain ⟨_, o', e', hd⟩ := I.stack.mem hb
    rw [e] at e'
    cases e'
    exact hd
  have un : Un (frs X.stack) fp H H2 s.heap G := by
    refine ⟨?_, ?_, ?_, ?_, ?_, ?_, ?_⟩
    · intro b o e n hb hx
      exact gB b o (by rw [Bi b (lt b o e)]; exact ub.keep b o (base.keep b o e n hb hx) (base.free b o e n hx) hb)
    · intro b o e n hb hx
      obtain ⟨l1, q1⟩ := base.slot b o e n hb hx
      obtain ⟨l2, q2⟩ := fslot b _ q1 (fdat b o e hb) hb
      exact ⟨l2, q2⟩
    · intro b o e n hx
      obtain ⟨o', q⟩ := base.there b o e hx
      exact ub.free b o' q (base.free b o e n hx)
    · intro b o e hx
      obtain ⟨o', q⟩ := base.there b o e hx
      by_cases hb : b ∈ frs X.stack
      · obtain ⟨l1, q1⟩ := base.slot b o e (I.stkFree b hb) hb hx
        obtain ⟨l2, q2⟩ := fslot b _ q1 (fdat b o e hb) hb
        exact ⟨_, q2⟩
      · obtain ⟨o2, q2⟩ := ub.there b o' q hb
        exact ⟨o2, gB b o2 (by rw [Bi b (lt b o e)]; exact q2)⟩
    · exact fun b xs e => ub.tups b xs (base.tups b xs e)
    · exact fun b o xs e => ub.frzs b o xs (base.frzs b o xs e)
    · intro b ps e
      obtain ⟨m1, q1⟩ := base.tbls b ps e
      obtain ⟨m2, q2⟩ := ub.tbls b _ q1
      exact ⟨m1 ++ m2, by rw [q2, Array.append_assoc]⟩
  have H2C : H2 ce.locals = none := ub.free _ _ gC freeC
  have hokG : HOk X.prog X.w H2 G := by
    intro b o e
    have nit : ∀ c u, H2 c = some u → c ≠ ce.locals := fun c u q z => by
      rw [z, H2C] at q
      cases q
    refine (hok b o e).stay (fun c v hc q => ?_) (fun _ q => q) fun _ _ q => q
    have nc : c ≠ ce.locals := by
      rcases hc with z | z
      · rw [z]
        exact nit b o e
      · exact nit c _ z
    exact gB c v (by rw [Bi c nc]; exact q)
  have osI : s1.os = s.os := J.os
  have K := I.call' (s' := { s' with heap := G }) (ch := fp) (os.trans osI) un hokG ag fun b hb => ⟨(hfp b hb).2.2.2.1, (hfp b hb).2.1, (hfp b hb).2.2.2.2.1, (hfp b hb).2.2.2.2.2⟩
  refine tk _ _ ⟨a, Bf, { s' with heap := G }, pins, σ, H2, cls, d, rfl, K, ?_, Heap.UpToSlots.of_keeps fun b o e => (og b o e).1, .inr (.inr held3), na, rfl, ag, hE⟩
  intro b o e hb
  obtain ⟨y1, y2⟩ := og b o e
  cases y2 with
  | inr z => exact absurd z hb
  | inl z =>
    obtain ⟨o', q⟩ := Option.isSome_iff_exists.mp z
    have w := st b o' q
    rw [y1] at w
    cases w
    exact q
end
section
variable {X : Cx} {E : XK}
/-- [elt for target in iter] whose element may raise -/
theorem pe_lcX {elt tg iter : Expr} {scope : Scope} {own : List (Str × Nat)} {pos : Pos} {wi : TI} {g : TG} {te : TE} (hc : X.calm = true) (hst : X.stack = X.env :: X.outer) (hf : X.env.frame = some X.env.locals) (tk : L2N.Takes X (fun cls d _ H => E cls d H)) (hN : X.N.Nodup)
    (hi : PI X tg iter wi) (ok : BlkOk X.N X.env.scope scope own) (hg : ∀ (s : Shared) (H : Hp) (C : Addr) (cl : List (Str × Addr)) (fp : List Addr) (xe : Value → Shared → Prop), PG (blkX X s H scope (compEnvC scope cl C X.env) fp xe) tg g)
    (he : ∀ (s : Shared) (H : Hp) (C : Addr) (cl : List (Str × Addr)) (fp : List Addr) (xe : Value → Shared → Prop), (∀ σ, PassesAt (L2N.CX X.prog X.w) (blkX X s H scope (compEnvC scope cl C X.env) fp xe) σ E) → PE (blkX X s H scope (compEnvC scope cl C X.env) fp xe) elt te)
    (hs : ∀ x, foldedSetIterable iter X.env x = pure x := by intro _; rfl) : PE X (.ListComp elt [⟨tg, iter, [], 0⟩] scope pos) (tLc wi g tYes te (own.map (·.2))) := by
  refine ⟨fun pins s σ H Q I h => ?_⟩
  rw [eval_ListComp]
  have hfree : ∀ y ∈ scope.names, y.2 = .free → ∃ c, X.env.cells.lookup y.1 = some c := by
    intro y hy e
    cases ok.free y hy e with
    | inl k => exact I.ok.has _ (.inl k)
    | inr k => exact I.ok.has _ (.inr k)
  refine wp_lc rfl hs (closure_ok hfree) ok.kind (fun y hy e => by rw [ok.uniq y hy, e]) (thn (hi.run pins s σ H _ I h) fun xv s1 hx => thn hx fun itv s2 h2 => ?_)
  obtain ⟨it, fp, tn, J, H2, rfl, I2, T, st2, f2, q⟩ := h2
  refine wpAny_newObj_type (newEnv_comp ?_) (by show 0 ≤ sizeLine; decide)
  generalize hD : s2.heap.objs.size = D
  obtain ⟨W, ⟨m0, w0⟩, turn⟩ := q D (I2.hok.fresh (Nat.le_of_eq hD))
  generalize hs3 : ({ s2 with heap := s2.heap.push { cls := .type "list", data := .seq ([] : List Value).toArray } } : Shared) = s3
  have h3 : s3.heap = s2.heap.push { cls := .type "list", data := .seq ([] : List Value).toArray } := by rw [← hs3]
  have I3 : Inv X pins σ (upd H2 D (.lst [])) s3 := by
    rw [← hs3]
    refine I2.laid (t' := s2.toks) (fun b o e => Heap.get?_push_of_some _ e) (Nat.le_of_eq hD) ⟨Nat.zero_le _, [], 0, .nil, ?_⟩
    rw [← hD]
    exact Heap.get?_push_size _ rfl
  have f3 : ∀ b ∈ fp, FpOk X pins (upd H2 D (.lst [])) b ∧ b < s3.heap.objs.size := by
    intro b hb
    obtain ⟨o, e, _⟩ := T.obj _ _ st2 b hb
    have small := Heap.lt_size e
    refine ⟨⟨?_, (f2 b hb).2⟩, by rw [h3, Heap.size_push]; exact Nat.lt_succ_of_lt small⟩
    rw [upd_ne (by rw [← hD]; exact Nat.ne_of_lt small)]
    exact (f2 b hb).1
  have st3 : tn 0 s3.heap := T.keep _ _ _ st2 fun b _ o e => by rw [h3]; exact Heap.get?_push_of_some _ e
  generalize hH3 : upd H2 D (.lst []) = H3 at I3 w0 f3
  have I4 := block_start I3 ok hN f3
  have pg := hg s3 H3 s3.heap.objs.size (cellsFrom (s3.heap.objs.size + 1) scope.names (cloFrom X.env.cells scope.names [])) fp
  have pe := he s3 H3 s3.heap.objs.size (cellsFrom (s3.heap.objs.size + 1) scope.names (cloFrom X.env.cells scope.names [])) fp
  show codeAny _ _ (.compStart (.ListComp elt [⟨tg, iter, [], 0⟩] scope pos) 0 (.ref it) (.ref D) (compEnvC scope (cellsFrom (s3.heap.objs.size + 1) scope.names (cloFrom X.env.cells scope.names [])) s3.heap.objs.size X.env))
    (lcPost (model X.prog X.w) X.A X.xe (EP X pins σ Q) (.ref D) (compEnvC scope (cellsFrom (s3.heap.objs.size + 1) scope.names (cloFrom X.env.cells scope.names [])) s3.heap.objs.size X.env)) { s3 with heap := pushCells (s3.heap.push { cls := .type "dict", data := .dict #[] }) scope.names }
  generalize hce : compEnvC scope (cellsFrom (s3.heap.objs.size + 1) scope.names (cloFrom X.env.cells scope.names [])) s3.heap.objs.size X.env = ce at I4 pg pe ⊢
  have cL : ce.locals = s3.heap.objs.size := by rw [← hce]; rfl
  have cF : ce.frame = X.env.frame := by rw [← hce]; rfl
  generalize hs4 : ({ s3 with heap := pushCells (s3.heap.push { cls := .type "dict", data := .dict #[] }) scope.names } : Shared) = s4 at I4 ⊢
  have st4 : tn 0 s4.heap := T.keep _ _ _ st3 fun b _ o e => by rw [← hs4]; exact pushCells_keeps _ _ _ _ (Heap.get?_push_of_some _ e)
  generalize hxe : notedBy (model X.prog X.w) X.A ce (fun e s' => lcPost (model X.prog X.w) X.A X.xe (EP X pins σ Q) (.ref D) ce (.error e) s') = xe
  have px : ∀ σ', PassesAt (L2N.CX X.prog X.w) (blkX X s3 H3 scope ce fp xe) σ' E := by
    intro σ' pins' H1 s1 e s' J1 c
    show xe e s'
    rw [← hxe]
    exact blk_lets hst hf tk I3 cF cL (fun b hb => (f3 b hb).1) J1 c
  have pg := pg xe
  have pe := pe xe px
  have I4 := blk_wish (xe := xe) I4
  have stat : ∀ {σ' : L2.St} {H' : Hp} {s' : Shared}, Inv (blkX X s3 H3 scope ce fp xe) [] σ' H' s' → (∀ b ∈ fp, H' b = none) → ∀ b ∈ fp, FpOk (blkX X s3 H3 scope ce fp xe) [] H' b := by
    intro σ' H' s' I' hn b hb
    exact ⟨hn b hb, (I'.ok.exf b hb).1, I'.ok.exfs b hb, .inl hb, fun x c e => (I'.ok.exf b hb).2 x c e, fun p hp => absurd (show p ∈ ([] : List (Addr × Obj)) ++ [] from hp) (by simp)⟩
  have loop : codeAny (model X.prog X.w) X.A (.compLoop (.ListComp elt [⟨tg, iter, [], 0⟩] scope pos) 0 (.ref it) (.ref D) ce) (lcPost (model X.prog X.w) X.A X.xe (EP X pins σ Q) (.ref D) ce) s4 := by
    refine compLoop_any (fun n s' => ∃ i H', Inv (blkX X s3 H3 scope ce fp xe) [] (wipe σ (own.map (·.2))) H' s' ∧ tn i s'.heap ∧ (∀ b ∈ fp, H' b = none) ∧ W i n H') ?_ m0 ⟨0, H3, I4, st4, fun b hb => (f3 b hb).1.1, w0⟩
    rintro n s5 ⟨i, H5, I5, st5, n5, w5⟩
    rw [hxe]
    cases turn i n H5 w5 with
    | inl stop =>
      obtain ⟨stop, qq⟩ := stop
      refine thnF (T.done (blkX X s3 H3 scope ce fp xe) rfl rfl rfl hc i [] s5 _ H5 (fun _ _ => False) I5 (stat I5 n5) st5 stop) fun r s6 hr => ?_
      obtain ⟨rfl, I6⟩ := hr
      have I7 : Inv X pins σ H5 s6 := I3.call' (ch := fp) I6.os I6.base I6.hok I6.bare fun b hb => ⟨(f3 b hb).1.2.2.2.1, (f3 b hb).1.2.1, (f3 b hb).1.2.2.2.2.1, (f3 b hb).1.2.2.2.2.2⟩
      have nC : H5 ce.locals = none := I6.free
      obtain ⟨m, hn, _⟩ := I6.loc
      refine ⟨m, hn, fun h'' sb => ?_⟩
      have fo := I3.fpOk (H' := H5) (b := ce.locals) (Nat.le_of_eq cL.symm) nC
      exact ⟨.ref D, H5, I7.turned (t' := s6.toks) (fun b o hb e => (sb.2 b hb).trans e) fo.1 fo.2.1 fo.2.2.2.1 fo.2.2.2.2.1 fo.2.2.2.2.2, rfl, qq⟩
    | inr go =>
      obtain ⟨go, Nx, hNx, step⟩ := go
      refine thnF (T.item (blkX X s3 H3 scope ce fp xe) rfl rfl rfl hc i [] s5 _ H5 (fun _ _ => False) I5 (stat I5 n5) st5 go) fun r s6 hr => ?_
      obtain ⟨u, rfl, h6⟩ := hr
      refine thnF h6 fun _ s7 h7 => ?_
      obtain ⟨x, H7, I7, r7, y7, st7, n7⟩ := h7
      have I7' := I7.pinned (stat I7 n7) (T.obj _ _ st7)
      refine thn (pg.run _ s7 _ H7 x u _ I7' r7 (step x H7 y7)) fun _ s8 h8 => ?_
      obtain ⟨σ8, H8, I8, hw8, q8⟩ := h8
      have q8 : te σ8 H8 _ := q8
      refine wpAny_tests_nil ?_
      rw [if_pos rfl]
      have fin : ∀ {s' : Shared} {H' : Hp}, Inv (blkX X s3 H3 scope ce fp xe) ([] ++ pinsAt fp s7.heap) σ8 H' s' → Nx H' → ∃ m, m < n ∧ ∃ i H', Inv (blkX X s3 H3 scope ce fp xe) [] (wipe σ (own.map (·.2))) H' s' ∧ tn i s'.heap ∧ (∀ b ∈ fp, H' b = none) ∧ W i m H' := by
        intro s' H' I' nx
        obtain ⟨m', hm, w'⟩ := hNx H' nx
        have pin' : ∀ b ∈ fp, ∀ o, s7.heap.get? b = some o → s'.heap.get? b = some o ∧ H' b = none := by
          intro b hb o e
          have z := I'.pin (b, o) (List.mem_append_right _ (List.mem_append_right _ (mem_pinsAt hb e)))
          exact ⟨z.1, z.2.1⟩
        have hl : (wipe σ (own.map (·.2))).length = σ8.length := by rw [← hw8, wipe_length]
        refine ⟨m', hm, i + 1, H', (I'.unpinned (pins := [])).weak hl (fun j v e => ?_), T.keep _ _ _ st7 fun b hb o e => (pin' b hb o e).1, fun b hb => ?_, w'⟩
        · rw [← hw8] at e
          exact (wipe_some e).1
        · obtain ⟨o, e, _⟩ := T.obj _ _ st7 b hb
          exact (pin' b hb o e).2
      refine thn (pe.run _ s8 σ8 H8 _ I8 q8) fun z s10 h10 => ?_
      obtain ⟨yv, H10, I10, r10, acc, hD10, hz10, nx⟩ := h10
      exact app_ok (X := blkX X s3 H3 scope ce fp xe) I10 hD10 hz10 r10 fun s11 I11 => fin I11 nx
  exact codeAny_compStart_list loop (T.self X.A 0 _ _ _ st4 loop)
end

section
variable {X : Cx} {k : Nat} {x : Str} {ps : List Str} {sp : Sp} {E : XK} {p pos : Pos} {e : Expr} {es : List Expr} {t : TA}
theorem pe_dXb (D : Kept X.prog X.w X.K X.mg X.base (L2N.CX X.prog X.w) k x ps sp) (hr : Room k X.A) (hg : Gl X x) (px : ∀ σ, PassesAt (L2N.CX X.prog X.w) X σ E) (ha : PA X (e :: es) t) (hdb : (x == ("__debug__" : Str)) = false := by decide)
    (h1 : starEach (e :: es) X.env = (false, eval e X.env) :: starEach es X.env := by rfl) (h2 : (backTo pos (starEach es X.env)).any (·.1) = false := by rfl) : PE X (.Call (.Name x p) (e :: es) [] pos) (tCallS sp (fun _ => E) t) := by
  obtain ⟨fd, F, b⟩ := D.fn
  exact pe_callS F hr hg D.g D.kp b px ha hdb h1 h2
end
/-! ### a comprehension that raises at its turn m -/
section
variable {K : PySem.W.Frag} {σ : L2.St} {H : Hp} {te tl : TE}
theorem lc_fails {xs : List V} {j : Nat} {vs : List Nat} {v : Nat → V} {m : Nat} {y : V} (h : EvL tl σ H xs) (hz : xs.length ≤ 40000) (hw : ∀ x, wipe ((wipe σ vs).set j (some x)) vs = wipe σ vs) (hm : xs[m]? = some y)
    (he : ∀ (i : Nat) (x : V) H1, Ex H H1 → xs[i]? = some x → i < m → Ev te ((wipe σ vs).set j (some x)) H1 (v i)) (hf : ∀ H1, Ex H H1 → ∀ Q, te ((wipe σ vs).set j (some y)) H1 Q) (Q : VK) : tLc (iList K tl) (gName j) tYes te vs σ H Q :=
  h H (Ex.refl H) _ fun a H1 ha e1 hx => ⟨a, rfl, ⟨xs, sq_of hx⟩, fun Dl hD =>
  lc_list (xs := xs) (fun i H' => Cw H1 (fun _ => true) v Dl i H' ∧ i ≤ m) ⟨⟨hD, Ex.new hD, upd_same⟩, Nat.zero_le _⟩ (fun i H' _ p => sq_of (p.1.2.1 a _ hx)) (fun i x H' hi p => ⟨hw x, by
    obtain ⟨p, hi2⟩ := p
    have hlt := (List.getElem?_eq_some_iff.mp hi).1
    show te ((wipe σ vs).set j (some x)) H' fun y H4 => ∃ acc, H4 Dl = some (.lst acc) ∧ acc.length < sizeLine ∧ (Cw H1 (fun _ => true) v Dl (i + 1) (upd H4 Dl (.lst (acc ++ [y]))) ∧ i + 1 ≤ m)
    by_cases hc : i < m
    · exact he i x H1 e1 hi hc H' p.2.1 _ fun H4 e4 => ⟨given i (fun _ => true) v, e4 Dl _ p.2.2, sz_lt (by have := given_len i (fun _ => true) v; omega), ⟨p.1, Ex.mut (p.2.1.trans e4) p.1, by
        rw [given_yes rfl]
        exact upd_same⟩, hc⟩
    · have : i = m := by omega
      subst this
      rw [hm] at hi
      cases hi
      exact hf H' (e1.trans p.2.1) _⟩)
    (fun H' p => absurd (List.getElem?_eq_some_iff.mp hm).1 (Nat.not_lt.mpr p.2))⟩
end

end
end Ct
namespace Ct
open PySem PySem.Spec PyProof.Rows L2 Evl
open He (ga ma)
section
variable {P : Program} {w : World} {K : PySem.W.Frag} {mg : Str → Option Value} {base : Heap}
/-! ### numbers -/
theorem decStr (a b : Str) : decide (V.str a = V.str b) = decide (a = b) := decide_eq_decide.mpr ⟨fun h => by injection h, fun h => by rw [h]⟩
def oV : Option Int → V
  | some n => .int n
  | none => .non
def sp_number_inX (K : PySem.W.Frag) : Sp := fun vs H Q E => ∃ w : List Nat, vs = [VS w] ∧ w.length ≤ 5000 ∧ (numOk w = true → RetV (.int (valN w : Int)) H Q) ∧ (numOk w = false → ∀ H2, Ex H H2 → E (.ref (ga K "BadText")) none H2)
def F__law_number (_ : PySem.W.Frag) : VF := fun vs H z => ∃ w : List Nat, vs = [VS w] ∧ w.length ≤ 5000 ∧ z = oV (numO w)
def sp__law_number (K : PySem.W.Frag) : Sp := Pv (F__law_number K)
theorem m__law_number : MonoV (F__law_number K) := fun vs H H1 z e h => h
theorem form_no {w : List Nat} (h : formB w = false) : numOk w = false := by
  unfold numOk
  rw [h]
  rfl
theorem form_one (c : Nat) (r : List Nat) : decide ([c] = [48]) = decide ((c :: r).head? = some 48) := decide_eq_decide.mpr (by simp)
theorem sc_number_in : FnScope ["word"] ["word"] (defScope s_number_in) := ⟨rfl, rfl, rfl, by decide +kernel, rfl, by decide +kernel, by decide +kernel⟩
theorem ok_number_inX (T : Tx K mg) : Kept P w K mg base (L2N.CX P w) 1 "number_in" ["word"] (sp_number_inX K) := by
  obtain ⟨t_FIGURES, c_FIGURES⟩ := T.c_FIGURES
  obtain ⟨t_GREATEST, c_GREATEST⟩ := T.c_GREATEST
  obtain ⟨fd, F⟩ := T.d_number_in
  refine ⟨⟨fd, F.ok sc_number_in (fun vs H Q E h => by obtain ⟨_, rfl, _⟩ := h; rfl) (fun cdv A outer s H vs Q E hRm h => ?_), F.bindsN fun _ _ _ _ _ _ us hl => match us, hl with | [_], _ => rfl⟩, T.g_number_in, F.kp⟩
  · obtain ⟨w, rfl, hl, hy, hn⟩ := h
    refine ⟨_, (pss_cons (ps_if (PW.pt (pw_or (pt_not (pt_chain op_le op_le pe_int (pe_callB call_len_str (by rfl) T.z_len bo_len (pa_cons (pv 0) pa_nil)) pe_int)) (pw_or (pt_cmpR op_ne (pe_m1 PySem.F.slot_str_strip PySem.F.type_str_strip mt_stripChars (pv 0) (pe_glob (v := .str "0123456789") (by rfl) c_FIGURES ⟨_, rfl⟩)) pe_str (nomark _)) (pw_or1 (PW.pt (pw_and (pt_cmpR op_eq (pe_ix ix_str (pv 0) pe_int (fun _ _ => rfl)) pe_str (nomark _)) (pw_and1 (pt_cmpR op_ne (pv 0) pe_str (nomark _))))))))) (pss_one (L2N.ps_raise rfl (L2N.takes_of rfl rfl rfl rfl) (L2N.pmk_own PySem.F.excBase_ValueError T.xi_BadText T.g_BadText T.kp_BadText (raises_own T.sb_BadText T.tt_BadText) (by rfl)))) pss_nil) (pss_cons (ps_if (pt_cmpR op_gt (pe_callTy call_int_str (by rfl) T.z_int bo_int (pa_cons (pv 0) pa_nil)) (pe_glob (v := .int 1000000) (by rfl) c_GREATEST ⟨_, rfl⟩) (nomark _)) (pss_one (L2N.ps_raise rfl (L2N.takes_of rfl rfl rfl rfl) (L2N.pmk_own PySem.F.excBase_ValueError T.xi_BadText T.g_BadText T.kp_BadText (raises_own T.sb_BadText T.tt_BadText) (by rfl)))) pss_nil) (pss_one (ps_ret (pe_callTy call_int_str (by rfl) T.z_int bo_int (pa_cons (pv 0) pa_nil)))))), ?_⟩
    refine q_when (b := !formB w) ?_ (fun hb H1 e1 => hn (form_no (by simpa using hb)) _ e1) fun hb H1 e1 => ?_
    · cases w with
      | nil => exact et_is (et_or (a := true) (b := true) (et_is (et_not (et_ch (p := false) (q := true) (z := .int 7) ev_c (ev_lnS (ev_var rfl) (by omega)) rv_I0 (fun h => by cases h) fun h => by cases h)) rfl) fun h => by cases h) rfl
      | cons c r =>
        refine et_is (et_or (et_not (et_ch ev_c (ev_lnS (ev_var rfl) (by omega)) rv_I0 (fun _ => ev_c) fun _ => rv_I0)) fun _ => et_or (et_test (ev_op (ev_stripS (ev_var rfl) ev_c (by omega)) (ev_S sg_no) (rv_ne rfl))) fun _ => et_and (et_test (ev_op (ev_ixS (ev_var rfl) ev_c (by omega) (by decide) rfl) (ev_S sg_0) rv_eqS)) fun _ => et_test (ev_op (ev_var rfl) (ev_S sg_0) rv_neS)) ?_
        have c1 : decide ((1 : Int) ≤ ((c :: r).length : Int)) = decide (1 ≤ (c :: r).length) := decide_eq_decide.mpr (by omega)
        have c2 : decide (((c :: r).length : Int) ≤ 7) = decide ((c :: r).length ≤ 7) := decide_eq_decide.mpr (by omega)
        rw [form_eq, Bool.not_not, c1, c2, decStr, form_one c r]
        rfl
    have hf : formB w = true := by simpa using hb
    have h7 := (form_parts hf).2.1
    have out : numOk w = decide (valN w ≤ 1000000) := by
      unfold numOk
      rw [hf, Bool.true_and]
    refine q_when (b := decide ((valN w : Int) > 1000000)) (et_test (ev_op (ev_intS (ev_var rfl) (int_form hf) (by omega)) ev_c rv_I0)) (fun hc H2 e2 => hn ?_ _ (e1.trans e2)) fun hc H2 e2 => s_ret (ev_intS (ev_var rfl) (int_form hf) (by omega)) fun H3 e3 => hy ?_ _ ((e1.trans e2).trans e3)
    · rw [out]
      have := of_decide_eq_true hc
      exact decide_eq_false (by omega)
    · rw [out]
      have := of_decide_eq_false hc
      exact decide_eq_true (by omega)
theorem sc__law_number : FnScope ["_law_text"] ["_law_text"] (defScope s__law_number) := ⟨rfl, rfl, rfl, by decide +kernel, rfl, by decide +kernel, by decide +kernel⟩
theorem ok__law_number (T : Tx K mg) : Kept P w K mg base CX0 1 "_law_number" ["_law_text"] (sp__law_number K) := by
  obtain ⟨fd, F⟩ := T.d__law_number
  refine ⟨⟨fd, F.ok sc__law_number (fun vs H Q E h => by obtain ⟨_, ⟨_, rfl, _⟩, _⟩ := h; rfl) (fun cdv A outer s H vs Q E hRm h => ?_), F.bindsN fun _ _ _ _ _ _ us hl => match us, hl with | [_], _ => rfl⟩, T.g__law_number, F.kp⟩
  · obtain ⟨z, ⟨w, rfl, hl, rfl⟩, k⟩ := h
    refine ⟨_, (PSs.nox (pss_cons (ps_if (PW.pt (pw_or (pt_cmpR op_eq (pv 0) pe_str (nomark _)) (pw_or (pt_cmpR op_gt (pe_callB call_len_str (by rfl) T.z_len bo_len (pa_cons (pv 0) pa_nil)) pe_int (nomark _)) (pw_or (pt_cmpR op_ne (pe_m1 PySem.F.slot_str_strip PySem.F.type_str_strip mt_stripChars (pv 0) pe_str) pe_str (nomark _)) (pw_or1 (PW.pt (pw_and (pt_cmpR op_eq (pe_ix ix_str (pv 0) pe_int (fun _ _ => rfl)) pe_str (nomark _)) (pw_and1 (pt_cmpR op_ne (pv 0) pe_str (nomark _)))))))))) (pss_one (ps_ret pe_non)) pss_nil) (pss_one (ps_ret (pe_ifExp (pt_cmpR op_lt (pe_callTy call_int_str (by rfl) T.z_int bo_int (pa_cons (pv 0) pa_nil)) pe_int (nomark _)) (pe_callTy call_int_str (by rfl) T.z_int bo_int (pa_cons (pv 0) pa_nil)) pe_non))))), ?_⟩
    refine q_when (b := !formB w) ?_ (fun hb H1 e1 => s_ret ev_c fun H2 e2 => ?_) fun hb H1 e1 => ?_
    · cases w with
      | nil => exact et_is (et_or (a := true) (b := true) (et_is (et_test (ev_op (ev_var rfl) (ev_S sg_no) rv_eqS)) rfl) fun h => by cases h) rfl
      | cons c r =>
        refine et_is (et_or (et_test (ev_op (ev_var rfl) (ev_S sg_no) rv_eqS)) fun _ => et_or (et_test (ev_op (ev_lnS (ev_var rfl) (by omega)) ev_c rv_I0)) fun _ => et_or (et_test (ev_op (ev_stripS (ev_var rfl) ev_c (by omega)) (ev_S sg_no) (rv_ne rfl))) fun _ => et_and (et_test (ev_op (ev_ixS (ev_var rfl) ev_c (by omega) (by decide) rfl) (ev_S sg_0) rv_eqS)) fun _ => et_test (ev_op (ev_var rfl) (ev_S sg_0) rv_neS)) ?_
        have c0 : decide (c :: r = []) = false := decide_eq_false (by simp)
        have c1 : decide (1 ≤ (c :: r).length) = true := decide_eq_true (by simp)
        have c2 : decide (((c :: r).length : Int) > 7) = !decide ((c :: r).length ≤ 7) := by
          rw [← decide_not]
          exact decide_eq_decide.mpr (by omega)
        rw [form_eq, Bool.not_not, c0, c1, c2, decStr, form_one c r, Bool.false_or, Bool.true_and]
        rfl
    · have e : numO w = none := numO_no (form_no (by simpa using hb))
      rw [e] at k
      exact k _ (e1.trans e2)
    have hf : formB w = true := by simpa using hb
    have h7 := (form_parts hf).2.1
    have out : numOk w = decide (valN w ≤ 1000000) := by
      unfold numOk
      rw [hf, Bool.true_and]
    refine s_ret (ev_if (b := decide ((valN w : Int) < 1000001)) (et_test (ev_op (ev_intS (ev_var rfl) (int_form hf) (by omega)) ev_c rv_I0)) (fun hc => ev_is (ev_intS (ev_var rfl) (int_form hf) (by omega)) ?_) fun hc => ev_is ev_c ?_) fun H3 e3 => k _ (e1.trans e3)
    · have := of_decide_eq_true hc
      rw [numO_yes (by rw [out]; exact decide_eq_true (by omega))]
      rfl
    · have := of_decide_eq_false hc
      rw [numO_no (by rw [out]; exact decide_eq_false (by omega))]
      rfl
/-! ### written -/
theorem ris_len : ∀ {cs : List Int} {l m : Int}, risB l cs m = true → l ≤ m → (cs.length : Int) ≤ m - l
  | [], _, _, _, h => by
    rw [List.length_nil]
    omega
  | c :: cs, l, m, h, _ => by
    simp only [risB, Bool.and_eq_true, decide_eq_true_eq] at h
    have := ris_len h.2 (by omega)
    rw [List.length_cons]
    omega
def F_written (_ : PySem.W.Frag) : VF := fun vs H z => ∃ (a c : Addr) (row cuts : List Int), vs = [.ref a, .ref c] ∧ H a = some (.lst (row.map V.int)) ∧ H c = some (.lst (cuts.map V.int)) ∧ row.length ≤ 1000 ∧ (∀ n ∈ row, 0 ≤ n ∧ n ≤ 1000000) ∧ risB 0 cuts row.length = true ∧ z = VS (writtenP row cuts)
def sp_written (K : PySem.W.Frag) : Sp := Pv (F_written K)
theorem m_written : MonoV (F_written K) := fun vs H H1 z e ⟨a, c, row, cuts, h1, h2, h3, h4⟩ => ⟨a, c, row, cuts, h1, e _ _ h2, e _ _ h3, h4⟩
theorem line_len {L : List Int} (h : ∀ n ∈ L, n ≤ 1000001) : (lineP L).length ≤ 8 * L.length := by
  unfold lineP
  induction L with
  | nil => exact Nat.le_refl _
  | cons x r ih =>
    have h1 := numI_len (h x List.mem_cons_self)
    have h2 := ih fun n hn => h n (List.mem_cons_of_mem _ hn)
    cases r with
    | nil =>
      show (numI x).length ≤ _
      rw [List.length_singleton]
      omega
    | cons y q =>
      show (numI x ++ ([32] ++ J1 ((y :: q).map numI))).length ≤ _
      rw [List.length_append, List.length_append, List.length_cons (a := x), List.length_singleton]
      omega
theorem ev_joinO {σ : L2.St} {H : Hp} {ta tb : TE} {a : List Nat} {L : List (List Nat)} {p : Addr} (ha : Ev ta σ H (VS a)) (hb : Ev tb σ H (.ref p)) (hp : H p = some (.lst (L.map VS))) (hz : (L.map (·.length)).sum + L.length * a.length ≤ 16777216) : Ev (tM1 (rJoin K) ta tb) σ H (VS (TL.joinL a L)) := fun H1 e Q q =>
  ha H1 e _ fun H2 e2 => ⟨⟨_, rfl⟩, hb H2 (e.trans e2) _ fun H3 e3 => ⟨SX.S a, p, L.map SX.S, rfl, rfl, .inl (sq_of (by rw [((e.trans e2).trans e3) _ _ hp, List.map_map]; rfl)), by
    rw [SX.lens, List.length_map, SX.S_len]
    exact hz, by
    rw [SX.join_S]
    exact q H3 (e2.trans e3)⟩⟩
theorem el_mapNS {σ : L2.St} {H : Hp} {te tl : TE} {ns : List Int} {j : Nat} {ws : List Nat} (g : Int → List Nat) (h : EvL tl σ H (ns.map V.int)) (hz : ns.length ≤ 40000) (hw : ∀ x, wipe ((wipe σ ws).set j (some x)) ws = wipe σ ws)
    (he : ∀ (n : Int) H1, Ex H H1 → n ∈ ns → Ev te ((wipe σ ws).set j (some (.int n))) H1 (VS (g n))) : EvL (tLc (iList K tl) (gName j) tYes te ws) σ H ((ns.map g).map VS) := by
  have q := el_lcNL (K := K) (te := te) (t := tYes) (j := j) (vs := ws) (fun _ => true) (fun i => VS (g (ns.getD i 0))) h (by rw [List.length_map]; exact hz) hw (fun i x H1 e hi => et_yes) (fun i x H1 e hi _ => by
    obtain ⟨n, rfl, hn⟩ := int_at hi
    have e3 : ns.getD i 0 = n := by simp [List.getD, hn]
    rw [e3]
    exact he n H1 e (List.mem_of_getElem? hn))
  rw [given_all, List.length_map, range_map_get (g := fun n => VS (g n))] at q
  rw [List.map_map]
  exact q
theorem el_mapRS {σ : L2.St} {H : Hp} {te : TE} {ar : TA} {j : Nat} {ws : List Nat} {n : Nat} (g : Nat → List Nat) (h : EvA ar σ H [.int (n : Int)]) (hn : n ≤ 40000) (hw : ∀ x, wipe ((wipe σ ws).set j (some x)) ws = wipe σ ws)
    (he : ∀ (i : Nat) H1, Ex H H1 → i < n → Ev te ((wipe σ ws).set j (some (.int (i : Int)))) H1 (VS (g i))) : EvL (tLc (iRng1 ar) (gName j) tYes te ws) σ H (((List.range n).map g).map VS) := by
  have q := el_mapR (fun n => VS (g n)) h hn hw he
  rw [List.map_map]
  exact q
theorem segs_mem {α : Type} (f : Int → Int → α) : ∀ (cs : List Int) (b n : Int) (x : α), x ∈ segs f b cs n → ∃ u v, x = f u v
  | [], b, n, x, h => ⟨b, n, List.mem_singleton.mp h⟩
  | c :: cs, b, n, x, h => by
    rcases List.mem_cons.mp h with z | z
    · exact ⟨b, c, z⟩
    · exact segs_mem f cs c n x z
theorem segs_len {α : Type} (f : Int → Int → α) : ∀ (cs : List Int) (b n : Int), (segs f b cs n).length = cs.length + 1
  | [], b, n => rfl
  | c :: cs, b, n => by
    rw [segs, List.length_cons, segs_len f cs c n, List.length_cons]
theorem sc_written : FnScope ["row", "cuts", "begins", "ends", "parts", "k", "load"] ["row", "cuts"] (defScope s_written) := ⟨rfl, rfl, rfl, by decide +kernel, rfl, by decide +kernel, by decide +kernel⟩
theorem ok_written (T : Tx K mg) : Kept P w K mg base CX0 4 "written" ["row", "cuts"] (sp_written K) := by
  have D_check_cuts : Kept P w K mg base CX0 3 "check_cuts" ["cuts", "many"] (sp_check_cuts K) := ok_check_cuts T
  have D_check_row : Kept P w K mg base CX0 2 "check_row" ["row"] (sp_check_row K) := ok_check_row T
  obtain ⟨fd, F⟩ := T.d_written
  refine ⟨⟨fd, F.ok sc_written (fun vs H Q E h => by obtain ⟨_, ⟨_, _, _, _, rfl, _⟩, _⟩ := h; rfl) (fun cdv A outer s H vs Q E hRm h => ?_), F.bindsN fun _ _ _ _ _ _ us hl => match us, hl with | [_, _], _ => rfl⟩, T.g_written, F.kp⟩
  · obtain ⟨z, ⟨a, c, row, cuts, rfl, ha, hc, hl, hn, hr, rfl⟩, k⟩ := h
    refine ⟨_, (PSs.nox (pss_cons (ps_expr (pe_d D_check_row (hRm.mono (by decide)) (by rfl) (pa_cons (pv 0) pa_nil))) (pss_cons (ps_expr (pe_d D_check_cuts (hRm.mono (by decide)) (by rfl) (pa_cons (pv 1) (pa_cons (pe_callB call_len_seq (by rfl) T.z_len bo_len (pa_cons (pv 0) pa_nil)) pa_nil)))) (pss_cons (ps_if (pt_cmpR op_eq (pe_callB call_len_seq (by rfl) T.z_len bo_len (pa_cons (pv 0) pa_nil)) pe_int (nomark _)) (pss_one (ps_ret pe_str)) pss_nil) (pss_cons (ps_set (i := 2) sc_written.nd rfl (Or.inr rfl) (pe_op op_cat (pe_lst (pa_cons pe_int pa_nil)) (pv 1))) (pss_cons (ps_set (i := 3) sc_written.nd rfl (Or.inr rfl) (pe_op op_cat (pv 1) (pe_lst (pa_cons (pe_callB call_len_seq (by rfl) T.z_len bo_len (pa_cons (pv 0) pa_nil)) pa_nil)))) (pss_cons (ps_setLc (i := 4) rfl sc_written.nd rfl rfl (sw_true rfl rfl rfl (by decide +kernel)) (own := [("k", 5)]) (g := gName 5) (tt := tYes) (pi_range1 (by rfl) T.z_range (pa_cons (pe_callB call_len_seq (by rfl) T.z_len bo_len (pa_cons (pv 2) pa_nil)) pa_nil)) (blkOk_by (N := ["row", "cuts", "begins", "ends", "parts", "k", "load"]) (sc := defScope s_written) (by decide +kernel)) (fun _ _ _ _ _ => pg_name (i := 5) sc_written.nd rfl (Or.inl rfl)) (fun _ _ _ _ _ => pts_nil) (fun _ _ _ _ _ => (pe_joinK (K := K) rfl pe_str (pe_lc (own := [("load", 6)]) (g := gName 6) (tt := tYes) rfl sc_written.nd (pi_listK (K := K) rfl (pe_slice (sl_listK (K := K) rfl) (pv 0) (po_some (pe_ix (ix_listK (K := K) rfl) (pv 2) (pv 5) (fun _ _ => rfl))) (po_some (pe_ix (ix_listK (K := K) rfl) (pv 3) (pv 5) (fun _ _ => rfl))))) (blkOk_by (by kernel_rfl)) (fun _ _ _ _ _ => pg_name (i := 6) sc_written.nd rfl (Or.inl rfl)) (fun _ _ _ _ _ => pts_nil) (fun _ _ _ _ _ => (pe_callTy call_str_int (by rfl) T.z_str bo_str (pa_cons (pv 6) pa_nil))))))) (pss_one (ps_ret (pe_joinK (K := K) rfl pe_str (pv 4))))))))))), ?_⟩
    have hcl := ris_len hr (by omega)
    refine q_drop (ev_callV m_check_row (ea_cons (ev_var rfl) ea_nil) ⟨a, row, rfl, ha, hl, hn, rfl⟩) fun H1 e1 => ?_
    refine q_drop (ev_callV m_check_cuts (ea_cons (ev_var rfl) (ea_cons (ev_ln (ev_var rfl) (.inl (sq_of (e1 _ _ ha)))) ea_nil)) ⟨c, cuts, _, rfl, e1 _ _ hc, by rw [List.length_map]; exact hr, rfl⟩) fun H2 e2 => ?_
    have e12 := e1.trans e2
    refine q_when (b := decide (row = [])) (et_is (et_test (ev_op (ev_ln (ev_var rfl) (.inl (sq_of (e12 _ _ ha)))) ev_c (rv_eq rfl))) ?_) (fun hb H3 e3 => s_ret (ev_S sg_dash) fun H4 e4 => ?_) fun hb H3 e3 => ?_
    · rw [List.length_map]
      exact decide_eq_decide.mpr ⟨fun h => by
        injection h with h
        exact List.length_eq_zero_iff.mp (by omega), fun h => by rw [h]; rfl⟩
    · have q := k _ ((e12.trans e3).trans e4)
      rw [writtenP, if_pos (of_decide_eq_true hb)] at q
      exact q
    have e13 := e12.trans e3
    refine q_asgL (el_cat2 (el_lst (ea_cons ev_c ea_nil) (by decide)) (ev_var rfl) (e13 _ _ hc) (by rw [List.length_map]; simp; omega)) fun b H4 hb4 e4 hB => ?_
    have e14 := e13.trans e4
    refine q_asgL (el_cat1 (ev_var rfl) (e14 _ _ hc) (el_lst (ea_cons (ev_ln (ev_var rfl) (.inl (sq_of (e14 _ _ ha)))) ea_nil) l1) (by rw [List.length_map]; simp; omega)) fun d H5 hd e5 hD => ?_
    have e15 := e14.trans e5
    have hB5 := e5 _ _ hB
    have eB : ([V.int 0] ++ cuts.map V.int) = (0 :: cuts).map V.int := rfl
    have eD : (cuts.map V.int ++ [V.int ((row.map V.int).length : Int)]) = (cuts ++ [(row.length : Int)]).map V.int := by rw [List.map_append, List.length_map]; rfl
    rw [eB] at hB5
    rw [eD] at hD
    have seg := segs_map (fun x y => lineP (sliceI row x y)) cuts 0 (row.length : Int)
    have bnd : ∀ i, i < cuts.length + 1 → ∃ x y, (0 :: cuts)[i]? = some x ∧ (cuts ++ [(row.length : Int)])[i]? = some y ∧ 0 ≤ x ∧ x ≤ y ∧ y ≤ row.length := by
      have gen : ∀ (cs : List Int) (l : Int), 0 ≤ l → l ≤ row.length → risB l cs row.length = true → ∀ i, i < cs.length + 1 → ∃ x y, (l :: cs)[i]? = some x ∧ (cs ++ [(row.length : Int)])[i]? = some y ∧ 0 ≤ x ∧ x ≤ y ∧ y ≤ row.length := by
        intro cs
        induction cs with
        | nil =>
          intro l h0 h1 _ i hi
          have : i = 0 := by simpa using hi
          subst this
          exact ⟨l, _, rfl, rfl, h0, h1, Int.le_refl _⟩
        | cons c cs ih =>
          intro l h0 h1 hr i hi
          simp only [risB, Bool.and_eq_true, decide_eq_true_eq] at hr
          cases i with
          | zero => exact ⟨l, c, rfl, rfl, h0, by omega, by omega⟩
          | succ i => exact ih c (by omega) (by omega) hr.2 i (by simpa using hi)
      exact gen cuts 0 (Int.le_refl _) (by omega) hr
    refine q_asgL (xs := (segs (fun x y => lineP (sliceI row x y)) 0 cuts (row.length : Int)).map VS) (el_is (el_mapRS (n := cuts.length + 1) (fun k => lineP (sliceI row ((0 :: cuts).getD k 0) ((cuts ++ [(row.length : Int)]).getD k 0))) (ea_cons (ev_is (ev_ln (ev_var rfl) (.inl (sq_of hB5))) (by simp)) ea_nil) (by omega) (fun x => rfl) fun i H6 e6 hi => ?_) (by rw [seg])) fun p H6 hp e6 hP => ?_
    · obtain ⟨x, y, hx, hy, hx0, hxy, hyr⟩ := bnd i hi
      have ex : (0 :: cuts).getD i 0 = x := by simp [List.getD, hx]
      have ey : (cuts ++ [(row.length : Int)]).getD i 0 = y := by simp only [List.getD, hy, Option.getD]
      rw [ex, ey]
      have hmem : ∀ n ∈ sliceI row x y, 0 ≤ n ∧ n ≤ 1000000 := fun n hm => hn n (List.mem_of_mem_drop (List.mem_of_mem_take hm))
      have hlen : (sliceI row x y).length ≤ 1000 := by
        unfold sliceI
        rw [List.length_take, List.length_drop]
        omega
      refine ev_joinS (L := (sliceI row x y).map numI) (ev_S sg_sp) (el_mapNS numI (el_is (el_sl (ev_var rfl) (eo_some (ev_ixI (ev_var rfl) (sq_of (e6 _ _ hB5)) (ev_var rfl) (Int.natCast_nonneg _) (by simpa using hx))) (eo_some (ev_ixI (ev_var rfl) (sq_of (e6 _ _ hD)) (ev_var rfl) (Int.natCast_nonneg _) (by simpa using hy))) (sq_of ((e15.trans e6) _ _ ha))) ?_) (by omega) (fun x => rfl) fun n H7 e7 hm => ev_strI (ev_var rfl) (hmem n hm).1 (by have := (hmem n hm).2; omega)) ?_
      · rw [cutV_mid hx0 hxy (by rw [List.length_map]; exact hyr), ← List.map_drop, ← List.map_take]
        rfl
      · have h7 := sum_le_mul ((sliceI row x y).map numI) 7 (fun q hq => by
          obtain ⟨n, hm, rfl⟩ := List.mem_map.mp hq
          exact numI_len (by have := (hmem n hm).2; omega))
        rw [List.length_map] at h7 ⊢
        simp only [List.length_cons, List.length_nil]
        omega
    have h8 := sum_le_mul (segs (fun x y => lineP (sliceI row x y)) 0 cuts (row.length : Int)) 8000 (fun q hq => by
      obtain ⟨u, v, rfl⟩ := segs_mem _ _ _ _ _ hq
      have z := line_len (L := sliceI row u v) (fun n hm => by have := (hn n (List.mem_of_mem_drop (List.mem_of_mem_take hm))).2; omega)
      have : (sliceI row u v).length ≤ 1000 := by
        unfold sliceI
        rw [List.length_take, List.length_drop]
        omega
      omega)
    rw [segs_len] at h8
    refine s_ret (ev_joinO (L := segs (fun x y => lineP (sliceI row x y)) 0 cuts (row.length : Int)) (ev_S sg_sep) (ev_var rfl) hP (by
      rw [segs_len]
      simp only [List.length_cons, List.length_nil]
      omega)) fun H7 e7 => ?_
    have q := k _ ((e15.trans e6).trans e7)
    rw [writtenP, if_neg (of_decide_eq_false hb)] at q
    exact q

end
end Ct
namespace Ct
open PySem PySem.Spec PyProof.Rows L2 Evl
open He (ga ma)
section
variable {P : Program} {w : World} {K : PySem.W.Frag} {mg : Str → Option Value} {base : Heap}
/-! ### read -/
def RT2 (row cuts : List Int) (H : Hp) (Q : VK) : Prop := ∀ (t a b : Addr) (H2 : Hp), Ex H H2 → H t = none → H a = none → H b = none → a ≠ b → H2 t = some (.tup [.ref a, .ref b]) → H2 a = some (.lst (row.map V.int)) → H2 b = some (.lst (cuts.map V.int)) → Q (.ref t) H2
def NoText (K : PySem.W.Frag) (H : Hp) (x : V) : Prop := ∃ n, TyX K H x (.type n) ∧ kitB n "str" = some false
def Small (t : List Nat) : Prop := t.length ≤ 5000 ∧ (wordsL t).length ≤ 1000
def sp_readX (K : PySem.W.Frag) : Sp := fun vs H Q E =>
  (∃ t : List Nat, vs = [VS t] ∧ Small t ∧ (∀ r c, readP t = some (r, c) → RT2 r c H Q) ∧ (readP t = none → ∀ H2, Ex H H2 → E (.ref (ga K "BadText")) none H2)) ∨ (∃ x, vs = [x] ∧ NoText K H x ∧ ∀ H2, Ex H H2 → E (.ref (ga K "BadText")) none H2)
theorem tx_str {H : Hp} {z : Str} : TyX K H (.str z) (.type "str") := .base (.str z)
section
variable {σ : L2.St} {H : Hp} {ta tb te tl : TE} {D : Ends} {ar : TA} {E : XK}
theorem s_retT2 {xs ys : List V} (h1 : EvL ta σ H xs) (h2 : EvL tb σ H ys) (k : ∀ (t a b : Addr) (H2 : Hp), Ex H H2 → H t = none → H a = none → H b = none → a ≠ b → H2 t = some (.tup [.ref a, .ref b]) → H2 a = some (.lst xs) → H2 b = some (.lst ys) → D.rt (.ref t) H2) :
    tRet (tTup (tCons ta (tCons tb tNil))) D σ H := h1 H (Ex.refl H) _ fun a H1 ha e1 hA => h2 H1 e1 _ fun b H2 hb e2 hB => ⟨n2, fun t ht => k t a b _ ((e1.trans e2).trans (Ex.new ht)) (fresh_back (e1.trans e2) ht) ha (fresh_back e1 hb) (fun z => by rw [z, hb] at hA; cases hA) upd_same ((Ex.new ht) _ _ (e2 _ _ hA)) ((Ex.new ht) _ _ hB)⟩
theorem s_retT1 {xs ys : List V} {a : Addr} (h1 : Ev ta σ H (.ref a)) (hA : H a = some (.lst xs)) (h2 : EvL tb σ H ys) (k : ∀ (t b : Addr) (H2 : Hp), Ex H H2 → H t = none → H b = none → H2 t = some (.tup [.ref a, .ref b]) → H2 a = some (.lst xs) → H2 b = some (.lst ys) → D.rt (.ref t) H2) :
    tRet (tTup (tCons ta (tCons tb tNil))) D σ H := h1 H (Ex.refl H) _ fun H1 e1 => h2 H1 e1 _ fun b H2 hb e2 hB => ⟨n2, fun t ht => k t b _ ((e1.trans e2).trans (Ex.new ht)) (fresh_back (e1.trans e2) ht) (fresh_back e1 hb) upd_same ((Ex.new ht) _ _ ((e1.trans e2) _ _ hA)) ((Ex.new ht) _ _ hB)⟩
theorem s_extBad {l : Addr} {xs : List V} (hl : H l = some (.lst xs)) (ha : Ev ta σ H (.ref l)) (h : ∀ H1, Ex H H1 → ∀ Q, te σ H1 Q) : tDrop (tBM K "list" rExtend ta (tCons te tNil)) D σ H :=
  ha H (Ex.refl H) _ fun H1 e => ⟨.inl ⟨rfl, _, sq_of (e _ _ hl)⟩, h H1 e _⟩
theorem ev_num {w : List Nat} (h : EvA ar σ H [VS w]) (hl : w.length ≤ 5000) (hk : numOk w = true) : Ev (tCallS (sp_number_inX K) (fun _ => E) ar) σ H (.int (valN w : Int)) := fun H1 e Q q =>
  h H1 e _ fun H2 e2 => ⟨w, rfl, hl, fun _ H3 e3 => q H3 (e2.trans e3), fun hf => by rw [hk] at hf; cases hf⟩
theorem er_num {w : List Nat} (h : EvA ar σ H [VS w]) (hl : w.length ≤ 5000) (hk : numOk w = false) (k : ∀ H2, Ex H H2 → E (.ref (ga K "BadText")) none H2) : ∀ H1, Ex H H1 → ∀ Q, tCallS (sp_number_inX K) (fun _ => E) ar σ H1 Q := fun H1 e Q =>
  h H1 e _ fun H2 e2 => ⟨w, rfl, hl, fun hf => (by rw [hk] at hf; cases hf), fun _ H3 e3 => k H3 ((e.trans e2).trans e3)⟩
theorem el_nums {ws : List (List Nat)} {j : Nat} {vs : List Nat} (h : EvL tl σ H (ws.map VS)) (hz : ws.length ≤ 40000) (hl : ∀ w ∈ ws, w.length ≤ 5000) (hk : ∀ w ∈ ws, numOk w = true) (hw : ∀ x, wipe ((wipe σ vs).set j (some x)) vs = wipe σ vs)
    (hv : ∀ x, ((wipe σ vs).set j (some x))[j]? = some (some x)) : EvL (tLc (iList K tl) (gName j) tYes (tCallS (sp_number_inX K) (fun _ => E) (tCons (tVar j) tNil)) vs) σ H ((nums ws).map V.int) := by
  have q := el_lcNL (K := K) (te := tCallS (sp_number_inX K) (fun _ => E) (tCons (tVar j) tNil)) (t := tYes) (j := j) (vs := vs) (fun _ => true) (fun i => V.int (valN (ws.getD i []) : Int)) h (by rw [List.length_map]; exact hz) hw (fun i x H1 e hi => et_yes) (fun i x H1 e hi _ => by
    rw [List.getElem?_map] at hi
    cases hn : ws[i]? with
    | none => rw [hn] at hi; cases hi
    | some w =>
      rw [hn] at hi
      cases hi
      have hm := List.mem_of_getElem? hn
      have e3 : ws.getD i [] = w := by simp [List.getD, hn]
      rw [e3]
      exact ev_num (ea_cons (ev_var (hv _)) ea_nil) (hl w hm) (hk w hm))
  rw [given_all, List.length_map, range_map_get (g := fun w => V.int (valN w : Int))] at q
  unfold nums
  rw [List.map_map]
  exact q
theorem lc_bad {ws : List (List Nat)} {j : Nat} {vs : List Nat} (h : EvL tl σ H (ws.map VS)) (hz : ws.length ≤ 40000) (hl : ∀ w ∈ ws, w.length ≤ 5000) (hb : ws.all numOk = false) (hw : ∀ x, wipe ((wipe σ vs).set j (some x)) vs = wipe σ vs)
    (hv : ∀ x, ((wipe σ vs).set j (some x))[j]? = some (some x)) (k : ∀ H2, Ex H H2 → E (.ref (ga K "BadText")) none H2) (Q : VK) : tLc (iList K tl) (gName j) tYes (tCallS (sp_number_inX K) (fun _ => E) (tCons (tVar j) tNil)) vs σ H Q := by
  have first : ∀ (L : List (List Nat)), L.all numOk = false → ∃ (m : Nat) (w : List Nat), L[m]? = some w ∧ numOk w = false ∧ ∀ (i : Nat) (x : List Nat), i < m → L[i]? = some x → numOk x = true := by
    intro L
    induction L with
    | nil => intro h; cases h
    | cons a r ih =>
      intro h
      cases ha : numOk a with
      | false => exact ⟨0, a, rfl, ha, fun i x hi => by omega⟩
      | true =>
        rw [List.all_cons, ha, Bool.true_and] at h
        obtain ⟨m, w, h1, h2, h3⟩ := ih h
        refine ⟨m + 1, w, h1, h2, fun i x hi hx => ?_⟩
        cases i with
        | zero =>
          cases hx
          exact ha
        | succ i => exact h3 i x (by omega) hx
  obtain ⟨m, w, hm, hbad, hgood⟩ := first ws hb
  refine lc_fails (v := fun i => V.int (valN (ws.getD i []) : Int)) (m := m) (y := VS w) h (by rw [List.length_map]; exact hz) hw (by rw [List.getElem?_map, hm]; rfl) (fun i x H1 e hi hlt => ?_) (er_num (ea_cons (ev_var (hv _)) ea_nil) (hl w (List.mem_of_getElem? hm)) hbad k) Q
  rw [List.getElem?_map] at hi
  cases hn : ws[i]? with
  | none => rw [hn] at hi; cases hi
  | some u =>
    rw [hn] at hi
    cases hi
    have e3 : ws.getD i [] = u := by simp [List.getD, hn]
    rw [e3]
    exact ev_num (ea_cons (ev_var (hv _)) ea_nil) (hl u (List.mem_of_getElem? hn)) (hgood i u hlt hn)
end
theorem off_snoc : ∀ (G : List (List (List Nat))) (n : Nat) (g : List (List Nat)), offG n (G ++ [g]) = offG n G ++ [((n + G.flatten.length : Nat) : Int)]
  | [], n, g => rfl
  | h :: G, n, g => by
    rw [List.cons_append, offG, off_snoc G (n + h.length) g, offG, List.flatten_cons, List.length_append, ← Nat.add_assoc, List.cons_append]
theorem cutV_past {xs : List V} {k : Nat} : cutV xs (some (k : Int)) none = xs.drop k := by
  unfold cutV
  rw [HT.sIx_none, HT.sIx_nat]
  cases Nat.lt_or_ge xs.length k with
  | inl h => rw [Nat.min_eq_right (by omega), Nat.sub_self, List.take_zero, List.drop_eq_nil_of_le (by omega)]
  | inr h => rw [Nat.min_eq_left h, List.take_of_length_le (by rw [List.length_drop]; exact Nat.le_refl _)]
theorem off_len : ∀ (G : List (List (List Nat))) (n : Nat), (offG n G).length = G.length
  | [], _ => rfl
  | g :: G, n => by rw [offG, List.length_cons, List.length_cons, off_len G]
theorem joined_part : ∀ (L : List (List Nat)) (p : List Nat), p ∈ L → ∀ S, p.length ≤ (TL.joinL S L).length
  | [], p, h, S => by cases h
  | [q], p, h, S => by
    rw [List.mem_singleton.mp h]
    exact Nat.le_refl _
  | q :: r :: L, p, h, S => by
    rw [join_two S q (by simp), List.length_append, List.length_append]
    rcases List.mem_cons.mp h with z | z
    · rw [z]
      omega
    · have := joined_part (r :: L) p z S
      omega
theorem part_len {t p : List Nat} {S : List Nat} (hS : S ≠ []) (h : p ∈ TL.spl S 0 [] t) : p.length ≤ t.length := by
  have q := joined_part _ p h S
  rw [join_spl hS t.length t [] (Nat.le_refl _), List.nil_append] at q
  exact q
theorem flat_words (t : List Nat) (i : Nat) : (((TL.spl [32, 124, 32] 0 [] t).take i).map wordsL).flatten.length ≤ (wordsL t).length := by
  have h1 := grp_len (wordsL t)
  rw [← parts_grp] at h1
  refine Nat.le_trans ?_ h1
  conv => rhs; rw [← List.take_append_drop i (TL.spl [32, 124, 32] 0 [] t), List.map_append, List.flatten_append, List.length_append]
  omega
theorem groups_len (t : List Nat) : (TL.spl [32, 124, 32] 0 [] t).length ≤ (wordsL t).length := by
  have h := grp_len (wordsL t)
  have hf := grp_full (wordsL t)
  rw [← parts_grp] at h hf
  have gen : ∀ (G : List (List (List Nat))), (∀ g ∈ G, g ≠ []) → G.length ≤ G.flatten.length := by
    intro G
    induction G with
    | nil => intro _; exact Nat.le_refl _
    | cons g G ih =>
      intro hg
      have h1 := ih fun y hy => hg y (List.mem_cons_of_mem _ hy)
      have h2 : 1 ≤ g.length := by
        have := hg g List.mem_cons_self
        cases g with
        | nil => exact absurd rfl this
        | cons a r => simp
      rw [List.flatten_cons, List.length_append, List.length_cons]
      omega
  have := gen _ hf
  rw [List.length_map] at this
  omega
theorem sc_read : FnScope ["text", "row", "cuts", "part", "word"] ["text"] (defScope s_read) := ⟨rfl, rfl, rfl, by decide +kernel, rfl, by decide +kernel, by decide +kernel⟩
theorem ok_readX (T : Tx K mg) : Kept P w K mg base (L2N.CX P w) 2 "read" ["text"] (sp_readX K) := by
  have D_number_inX : Kept P w K mg base (L2N.CX P w) 1 "number_in" ["word"] (sp_number_inX K) := ok_number_inX T
  obtain ⟨t_LONGEST, c_LONGEST⟩ := T.c_LONGEST
  obtain ⟨fd, F⟩ := T.d_read
  refine ⟨⟨fd, F.ok sc_read (fun vs H Q E h => by rcases h with ⟨_, rfl, _⟩ | ⟨_, rfl, _⟩ <;> rfl) (fun cdv A outer s H vs Q E hRm h => ?_), F.bindsN fun _ _ _ _ _ _ us hl => match us, hl with | [_], _ => rfl⟩, T.g_read, F.kp⟩
  · rcases h with ⟨t, rfl, ⟨hl, hwl⟩, hy, hn⟩ | ⟨x, rfl, ⟨n, ht, hb⟩, hn⟩
    · refine ⟨_, (pss_cons (ps_if (pt_not (pt_val (pe_callB call_isi (by rfl) T.z_isinstance bo_isinstance (pa_cons (pv 0) (pa_cons (pe_bltn (v := .ty "str") (by rfl) T.z_str bo_str rfl) pa_nil))))) (pss_one (L2N.ps_raise rfl (L2N.takes_of rfl rfl rfl rfl) (L2N.pmk_own PySem.F.excBase_ValueError T.xi_BadText T.g_BadText T.kp_BadText (raises_own T.sb_BadText T.tt_BadText) (by rfl)))) pss_nil) (pss_cons (ps_if (pt_cmpR op_eq (pv 0) pe_str (nomark _)) (pss_one (ps_ret (pe_tup (pa_cons (pe_lst pa_nil) (pa_cons (pe_lst pa_nil) pa_nil))))) pss_nil) (pss_cons (ps_set (i := 1) sc_read.nd rfl (Or.inl rfl) (pe_lst pa_nil)) (pss_cons (ps_set (i := 2) sc_read.nd rfl (Or.inl rfl) (pe_lst pa_nil)) (pss_cons (ps_for (passes_of rfl) rfl (pi_list (pe_split (pv 0) pe_str)) (pg_name (i := 3) sc_read.nd rfl (Or.inl rfl)) (pss_cons (ps_expr (pe_bm PySem.F.plainAttrs_list PySem.F.slot_list_append PySem.F.type_list_append mt_append (pv 2) (pa_cons (pe_callB call_len_seq (by rfl) T.z_len bo_len (pa_cons (pv 1) pa_nil)) pa_nil))) (pss_one (ps_expr (pe_bm PySem.F.plainAttrs_list PySem.F.slot_list_extend PySem.F.type_list_extend mt_extend (pv 1) (pa_cons (pe_lcX (own := [("word", 4)]) (g := gName 4) rfl rfl rfl (L2N.takes_of rfl rfl rfl rfl) sc_read.nd (pi_list (pe_split (pv 3) pe_str)) (blkOk_by (N := ["text", "row", "cuts", "part", "word"]) (sc := defScope s_read) (by decide +kernel)) (fun _ _ _ _ _ _ => pg_name (i := 4) sc_read.nd rfl (Or.inl rfl)) (fun _ _ _ _ _ xe px => (pe_dXb D_number_inX (hRm.mono (by decide)) (by rfl) px (pa_cons (pv 4) pa_nil)))) pa_nil)))))) (pss_cons (ps_if (pt_cmpR op_gt (pe_callB call_len_seq (by rfl) T.z_len bo_len (pa_cons (pv 1) pa_nil)) (pe_glob (v := .int 1000000) (by rfl) c_LONGEST ⟨_, rfl⟩) (nomark _)) (pss_one (L2N.ps_raise rfl (L2N.takes_of rfl rfl rfl rfl) (L2N.pmk_own PySem.F.excBase_ValueError T.xi_BadText T.g_BadText T.kp_BadText (raises_own T.sb_BadText T.tt_BadText) (by rfl)))) pss_nil) (pss_one (ps_ret (pe_tup (pa_cons (pv 1) (pa_cons (pe_slice sl_list (pv 2) (po_some pe_int) po_none) pa_nil))))))))))), ?_⟩
      refine q_when (b := false) (et_is (et_not (et_B (ev_isT (b := true) (ev_var rfl) tx_str (by decide +kernel)))) rfl) (fun h => by cases h) fun _ H1 e1 => ?_
      refine q_when (b := decide (t = [45])) (et_test (ev_op (ev_var rfl) (ev_S sg_dash) rv_eqS)) (fun hb H2 e2 => ?_) fun hb H2 e2 => ?_
      · refine s_retT2 (el_lst ea_nil (by decide)) (el_lst ea_nil (by decide)) fun q a b H3 e3 hq ha hb3 nab h1 h2 h3 => ?_
        have e12 := e1.trans e2
        refine hy [] [] ?_ q a b H3 (e12.trans e3) (fresh_back e12 hq) (fresh_back e12 ha) (fresh_back e12 hb3) nab h1 h2 h3
        unfold readP
        rw [if_pos (of_decide_eq_true hb)]
      have ht := of_decide_eq_false hb
      have rp : readP t = readG ((TL.spl [32, 124, 32] 0 [] t).map wordsL) := by
        unfold readP
        rw [if_neg ht, parts_grp]
      generalize hps : TL.spl [32, 124, 32] 0 [] t = ps at rp
      have hpl : ps.length ≤ 1000 := by
        rw [← hps]
        exact Nat.le_trans (groups_len t) hwl
      have hfl : ∀ i, ((ps.take i).map wordsL).flatten.length ≤ 1000 := fun i => by
        rw [← hps]
        exact Nat.le_trans (flat_words t i) hwl
      have hpp : ∀ p ∈ ps, p.length ≤ 5000 := fun p hp => Nat.le_trans (part_len (S := [32, 124, 32]) (by simp) (by rw [hps]; exact hp)) hl
      refine q_asgL (el_lst ea_nil (by decide)) fun pr H3 hpr e3 hR => ?_
      refine q_asgL (el_lst ea_nil (by decide)) fun pc H4 hpc e4 hC => ?_
      have e13 := (e1.trans e2).trans e3
      have e14 := e13.trans e4
      have npr : H pr = none := fresh_back (e1.trans e2) hpr
      have npc : H pc = none := fresh_back e13 hpc
      have nrc : pr ≠ pc := fun z => by rw [z, hpc] at hR; cases hR
      refine q_forNLn (xs := ps.map VS) (by rw [← hps]; exact el_splitS (ev_var rfl) (ev_S sg_sep) (by omega) (by simp) (by decide)) (fun p i σ' H' => ∃ v3, σ' = [some (VS t), some (.ref pr), some (.ref pc), v3, none] ∧ Ex H H' ∧ H' p = some (.lst (ps.map VS)) ∧ H' pr = some (.lst ((nums ((ps.take i).map wordsL).flatten).map V.int)) ∧ H' pc = some (.lst ((offG 0 ((ps.take i).map wordsL)).map V.int)) ∧ p ≠ pr ∧ p ≠ pc ∧ ((ps.take i).map wordsL).flatten.all numOk = true)
        (fun p H5 hp e5 h5 => ⟨none, rfl, e14.trans e5, h5, (e4.trans e5) _ _ hR, e5 _ _ hC, fun z => (by rw [z, e4 _ _ hR] at hp; cases hp), fun z => (by rw [z, hC] at hp; cases hp), rfl⟩) (fun p i σ' H' _ ⟨_, _, _, h, _⟩ => sq_of h) ?_ ?_
      · rintro p i x σ' H' hi ⟨v3, rfl, e, hP, hR', hC', np1, np2, hall⟩
        rw [List.getElem?_map] at hi
        cases hq : ps[i]? with
        | none => rw [hq] at hi; cases hi
        | some q =>
          rw [hq] at hi
          cases hi
          have hqm := List.mem_of_getElem? hq
          have hql := hpp q hqm
          have hws : (wordsL q).length ≤ 1000 := by
            have z := hfl (i + 1)
            rw [take_snoc hq, List.map_append, List.flatten_append, List.length_append] at z
            simp at z
            omega
          have hwm : ∀ w ∈ wordsL q, w.length ≤ 5000 := fun w hw => Nat.le_trans (part_len (S := [32]) (by simp) hw) hql
          refine q_app hC' (ev_var rfl) (ev_ln (ev_var rfl) (.inl (sq_of hR'))) (by rw [List.length_map, off_len, List.length_map, List.length_take]; omega) fun H5 e5 => ?_
          have hR5 : (upd H5 pc (.lst ((offG 0 ((ps.take i).map wordsL)).map V.int ++ [V.int (((nums ((ps.take i).map wordsL).flatten).map V.int).length : Int)]))) pr = some (.lst ((nums ((ps.take i).map wordsL).flatten).map V.int)) := by
            rw [upd_ne nrc]
            exact e5 _ _ hR'
          have hP5 : (upd H5 pc (.lst ((offG 0 ((ps.take i).map wordsL)).map V.int ++ [V.int (((nums ((ps.take i).map wordsL).flatten).map V.int).length : Int)]))) p = some (.lst (ps.map VS)) := by
            rw [upd_ne np2]
            exact e5 _ _ hP
          have hC5 : (upd H5 pc (.lst ((offG 0 ((ps.take i).map wordsL)).map V.int ++ [V.int (((nums ((ps.take i).map wordsL).flatten).map V.int).length : Int)]))) pc = some (.lst ((offG 0 ((ps.take (i + 1)).map wordsL)).map V.int)) := by
            have a1 : (ps.take i ++ [q]).map wordsL = (ps.take i).map wordsL ++ [wordsL q] := by simp
            have a2 : ((nums ((ps.take i).map wordsL).flatten).map V.int).length = ((ps.take i).map wordsL).flatten.length := by
              rw [List.length_map]
              exact List.length_map _
            rw [upd_same, take_snoc hq, a1, off_snoc, List.map_append, List.map_singleton, Nat.zero_add, a2]
          have eU : Ex H (upd H5 pc (.lst ((offG 0 ((ps.take i).map wordsL)).map V.int ++ [V.int (((nums ((ps.take i).map wordsL).flatten).map V.int).length : Int)]))) := Ex.mut (e.trans e5) npc
          generalize hU : upd H5 pc (.lst ((offG 0 ((ps.take i).map wordsL)).map V.int ++ [V.int (((nums ((ps.take i).map wordsL).flatten).map V.int).length : Int)])) = U at hR5 hP5 hC5 eU ⊢
          have key : ((ps.take (i + 1)).map wordsL).flatten = ((ps.take i).map wordsL).flatten ++ wordsL q := by
            rw [take_snoc hq, List.map_append, List.flatten_append]
            simp
          cases hok : (wordsL q).all numOk with
          | true =>
            refine s_ext hR5 (ev_var rfl) (el_nums (ws := wordsL q) (el_splitS (ev_var rfl) (ev_S sg_sp) (by omega) (by simp) (by decide)) (by omega) hwm (fun w hw => List.all_eq_true.mp hok w hw) (fun x => rfl) (fun x => rfl)) ?_ fun H6 e6 => ⟨_, rfl, Ex.mut (eU.trans e6) npr, ?_, ?_, ?_, np1, np2, ?_⟩
            · have z := hfl i
              rw [List.length_map, List.length_map]
              unfold nums
              rw [List.length_map, List.length_map]
              have : (wordsL q).length ≤ 1000 := hws
              have : (TL.spl [32] 0 [] q).length ≤ 1000 := hws
              omega
            · rw [upd_ne np1]
              exact e6 _ _ hP5
            · rw [upd_same, key, nums_app, List.map_append]
            · rw [upd_ne (Ne.symm nrc)]
              exact e6 _ _ hC5
            · rw [key, List.all_append, hall, hok]
              rfl
          | false =>
            have bad : readP t = none := by
              rw [rp]
              unfold readG
              rw [if_neg]
              intro z
              have : (wordsL q).all numOk = true := by
                rw [List.all_eq_true]
                intro w hw
                exact List.all_eq_true.mp z w (List.mem_flatten.mpr ⟨wordsL q, List.mem_map.mpr ⟨q, hqm, rfl⟩, hw⟩)
              rw [hok] at this
              cases this
            exact s_extBad hR5 (ev_var rfl) fun H6 e6 Q' => lc_bad (ws := wordsL q) (el_splitS (ev_var rfl) (ev_S sg_sp) (by omega) (by simp) (by decide)) (by omega) hwm hok (fun x => rfl) (fun x => rfl) (fun H7 e7 => hn bad _ ((eU.trans e6).trans e7)) Q'
      · rintro p σ' H' ⟨v3, rfl, e, hP, hR', hC', np1, np2, hall⟩
        rw [List.length_map, List.take_length] at hR' hC' hall
        have z := hfl ps.length
        rw [List.take_length] at z
        have zl : (nums ((ps.map wordsL).flatten)).length ≤ 1000 := by
          unfold nums
          rw [List.length_map]
          exact z
        have good : readP t = some (nums (ps.map wordsL).flatten, (offG 0 (ps.map wordsL)).tail) := by
          rw [rp]
          unfold readG
          rw [if_pos hall]
        refine q_when (b := false) (et_is (et_test (ev_op (ev_ln (ev_var rfl) (.inl (sq_of hR'))) ev_c rv_I0)) (by rw [List.length_map]; simp; omega)) (fun h => by cases h) fun _ H6 e6 => ?_
        refine s_retT1 (ev_var rfl) (e6 _ _ hR') (el_is (el_sl (ev_var rfl) (eo_some ev_c) eo_none (sq_of (e6 _ _ hC'))) (ys := ((offG 0 (ps.map wordsL)).tail).map V.int) ?_) fun q b H7 e7 hq hb7 h1 h2 h3 => ?_
        · have c := cutV_past (xs := (offG 0 (ps.map wordsL)).map V.int) (k := 1)
          rw [← List.drop_one, List.map_drop]
          exact c
        · have e6' := e.trans e6
          exact hy _ _ good q pr b H7 (e6'.trans e7) (fresh_back e6' hq) npr (fresh_back e6' hb7) (fun z => by rw [← z, e6 _ _ hR'] at hb7; cases hb7) h1 h2 h3
    · refine ⟨_, (pss_cons (ps_if (pt_not (pt_val (pe_callB call_isi (by rfl) T.z_isinstance bo_isinstance (pa_cons (pv 0) (pa_cons (pe_bltn (v := .ty "str") (by rfl) T.z_str bo_str rfl) pa_nil))))) (pss_one (L2N.ps_raise rfl (L2N.takes_of rfl rfl rfl rfl) (L2N.pmk_own PySem.F.excBase_ValueError T.xi_BadText T.g_BadText T.kp_BadText (raises_own T.sb_BadText T.tt_BadText) (by rfl)))) pss_nil) (pss_cons (ps_if (pt_cmpR op_eq (pv 0) pe_str (nomark _)) (pss_one (ps_ret (pe_tup (pa_cons (pe_lst pa_nil) (pa_cons (pe_lst pa_nil) pa_nil))))) pss_nil) (pss_cons (ps_set (i := 1) sc_read.nd rfl (Or.inl rfl) (pe_lst pa_nil)) (pss_cons (ps_set (i := 2) sc_read.nd rfl (Or.inl rfl) (pe_lst pa_nil)) (pss_cons (ps_for (passes_of rfl) rfl (pi_list (pe_split (pv 0) pe_str)) (pg_name (i := 3) sc_read.nd rfl (Or.inl rfl)) (pss_cons (ps_expr (pe_bm PySem.F.plainAttrs_list PySem.F.slot_list_append PySem.F.type_list_append mt_append (pv 2) (pa_cons (pe_callB call_len_seq (by rfl) T.z_len bo_len (pa_cons (pv 1) pa_nil)) pa_nil))) (pss_one (ps_expr (pe_bm PySem.F.plainAttrs_list PySem.F.slot_list_extend PySem.F.type_list_extend mt_extend (pv 1) (pa_cons (pe_lcX (own := [("word", 4)]) (g := gName 4) rfl rfl rfl (L2N.takes_of rfl rfl rfl rfl) sc_read.nd (pi_list (pe_split (pv 3) pe_str)) (blkOk_by (N := ["text", "row", "cuts", "part", "word"]) (sc := defScope s_read) (by decide +kernel)) (fun _ _ _ _ _ _ => pg_name (i := 4) sc_read.nd rfl (Or.inl rfl)) (fun _ _ _ _ _ xe px => (pe_dXb D_number_inX (hRm.mono (by decide)) (by rfl) px (pa_cons (pv 4) pa_nil)))) pa_nil)))))) (pss_cons (ps_if (pt_cmpR op_gt (pe_callB call_len_seq (by rfl) T.z_len bo_len (pa_cons (pv 1) pa_nil)) (pe_glob (v := .int 1000000) (by rfl) c_LONGEST ⟨_, rfl⟩) (nomark _)) (pss_one (L2N.ps_raise rfl (L2N.takes_of rfl rfl rfl rfl) (L2N.pmk_own PySem.F.excBase_ValueError T.xi_BadText T.g_BadText T.kp_BadText (raises_own T.sb_BadText T.tt_BadText) (by rfl)))) pss_nil) (pss_one (ps_ret (pe_tup (pa_cons (pv 1) (pa_cons (pe_slice sl_list (pv 2) (po_some pe_int) po_none) pa_nil))))))))))), ?_⟩
      exact q_when (b := true) (et_is (et_not (et_B (ev_isT (b := false) (ev_var rfl) ht hb))) rfl) (fun _ H1 e1 => hn _ e1) fun h => by cases h

end
end Ct
namespace Ct
open PySem PySem.Spec PyProof.Rows L2 Evl
open He (ga ma)
section
variable {P : Program} {w : World} {K : PySem.W.Frag} {mg : Str → Option Value} {base : Heap}
/-! ### law 6: raising calls, calm again -/
section
variable {σ : L2.St} {H : Hp} {D : Ends} {te ta tb : TE} {t : TT} {tz : TS} {Q : VK}
theorem r_drop (h : te σ H fun _ H1 => tz D σ H1) : tSeq (tDrop te) tz D σ H := h
theorem r_drop1 (h : te σ H fun _ H1 => D.nx σ H1) : tDrop te D σ H := h
theorem r_ret (h : te σ H D.rt) : tRet te D σ H := h
theorem er_if {b : Bool} (h : EvT t σ H b) (h1 : b = true → ∀ H1, Ex H H1 → ta σ H1 Q) (h2 : b = false → ∀ H1, Ex H H1 → tb σ H1 Q) : tIf t ta tb σ H Q := h H (Ex.refl H) _ fun H1 e => by
  cases b with
  | true =>
    show ta σ H1 Q
    exact h1 rfl H1 e
  | false =>
    show tb σ H1 Q
    exact h2 rfl H1 e
end
section
variable {P : Program} {w : World} {K : PySem.W.Frag} {mg : Str → Option Value} {base : Heap}
theorem fnCalm {k : Nat} {f : Addr} {fd : FuncData} {ps : List Str} {sp sp' : Sp} (F : FnOk P w K mg base (L2N.CX P w) k f fd ps sp) (h : ∀ vs H Q E, sp' vs H Q E → sp vs H Q (fun _ _ _ => False)) : FnOk P w K mg base CX0 k f fd ps sp' :=
  ⟨fun vs H Q E q => F.len vs H Q _ (h _ _ _ _ q), fun A outer s H args us vs Q E hr he hb hv hs => codeAny_mono (F.run A outer s H args us vs Q (fun _ _ _ => False) hr he hb hv (h _ _ _ _ hs)) fun r s' c => by
    cases r with
    | ok f => cases f <;> exact c
    | error e =>
      obtain ⟨_, _, _, _, _, _, _, _, _, _, _, _, q⟩ := c
      exact q.elim⟩
end
/-! ### the pair that is read -/
def Rpair (r c : List Int) : RF := fun H v H2 => ∃ t a b : Addr, v = .ref t ∧ H t = none ∧ H a = none ∧ H b = none ∧ a ≠ b ∧ H2 t = some (.tup [.ref a, .ref b]) ∧ H2 a = some (.lst (r.map V.int)) ∧ H2 b = some (.lst (c.map V.int))
def Rin : Option (List Int × List Int) → RF
  | none => fun _ v _ => v = .non
  | some (r, c) => Rpair r c
theorem anti_pair {r c : List Int} : Anti (Rpair r c) := fun H H1 v H2 e ⟨t, a, b, h1, h2, h3, h4, h5⟩ => ⟨t, a, b, h1, fresh_back e h2, fresh_back e h3, fresh_back e h4, h5⟩
theorem anti_in : ∀ {o : Option (List Int × List Int)}, Anti (Rin o)
  | none => fun _ _ _ _ _ h => h
  | some (r, c) => anti_pair (r := r) (c := c)
def F_read (_ : PySem.W.Frag) : XF := fun vs H R => ∃ (t : List Nat) (r c : List Int), vs = [VS t] ∧ Small t ∧ readP t = some (r, c) ∧ R = Rpair r c
def sp_read (K : PySem.W.Frag) : Sp := Px (F_read K)
theorem m_read : MonoX (F_read K) := fun vs H H1 R e h => h
theorem ok_read (T : Tx K mg) : Kept P w K mg base CX0 2 "read" ["text"] (sp_read K) := by
  obtain ⟨⟨fd, F, b⟩, g, kp⟩ := ok_readX (P := P) (w := w) (base := base) T
  refine ⟨⟨fd, fnCalm F fun vs H Q E h => ?_, b⟩, g, kp⟩
  obtain ⟨R, ⟨t, r, c, rfl, hs, hr, rfl⟩, k⟩ := h
  refine .inl ⟨t, rfl, hs, fun r' c' h' => ?_, fun h' => by rw [hr] at h'; cases h'⟩
  rw [hr] at h'
  cases h'
  exact fun q a b H2 e h1 h2 h3 h4 h5 h6 h7 => k _ H2 e ⟨q, a, b, rfl, h1, h2, h3, h4, h5, h6, h7⟩
/-! ### lists of whole numbers and none -/
def oD : Option Int → PyData
  | some n => .int n
  | none => .none
section
variable {K : PySem.W.Frag} {H : Hp}
theorem dpa_o : ∀ L : List (Option Int), DpAll K H (L.map oV) (L.map oD)
  | [] => .nil
  | some n :: r => .cons (.int n) (dpa_o r)
  | none :: r => .cons .non (dpa_o r)
theorem lay_o : ∀ L : List (Option Int), PyData.canLayAll0 (L.map oD) = true
  | [] => by simp [PyData.canLayAll0]
  | n :: r => by
    rw [List.map_cons, PyData.canLayAll0, lay_o r]
    cases n <;> simp [oD, PyData.canLay0]
theorem dep_o : ∀ L : List (Option Int), PyData.depthAll (L.map oD) ≤ 1
  | [] => by simp [PyData.depthAll]
  | n :: r => by
    rw [List.map_cons, PyData.depthAll]
    have := dep_o r
    cases n <;> simp [oD, PyData.depth] <;> omega
theorem sh_o (L : List (Option Int)) : SeqAt.shaped (.list (L.map oD)) = true := by
  unfold SeqAt.shaped
  rw [Bool.and_eq_true]
  refine ⟨by simp only [PyData.canLay0]; exact lay_o L, decide_eq_true ?_⟩
  have := dep_o L
  simp only [PyData.depth]
  omega
theorem eqv_o0 (L : List (Option Int)) : PyData.eqv (.list (L.map oD)) (.list []) = decide (L = []) := by
  simp only [PyData.eqv]
  cases L <;> simp [PyData.eqvAll]
theorem rv_eqO {a b : Addr} {L : List (Option Int)} (h1 : H a = some (.lst (L.map oV))) (h2 : H b = some (.lst [])) : RV (rEqD K) (.ref a) (.ref b) H (.bl (decide (L = []))) := fun H1 e Q q =>
  ⟨.list (L.map oD), .list [], .lst (sq_of (e _ _ h1)) (dpa_o L), .lst (sq_of (e _ _ h2)) .nil, sh_o L, sh_o [], by rw [eqv_o0]; exact q H1 (Ex.refl H1)⟩
theorem inV_o : ∀ L : List (Option Int), inV .non (L.map oV) = decide (none ∈ L)
  | [] => by simp [inV]
  | n :: r => by
    have ih := inV_o r
    unfold inV at ih ⊢
    rw [List.map_cons, List.any_cons, ih]
    cases n <;> simp [oV, eqV]
theorem flat_o (L : List (Option Int)) : (L.map oV).all flatV = true := by
  rw [List.all_eq_true]
  intro x hx
  obtain ⟨n, _, rfl⟩ := List.mem_map.mp hx
  cases n <;> rfl
theorem rv_inO {p : Addr} {L : List (Option Int)} (h : H p = some (.lst (L.map oV))) : RV (rIn K false) .non (.ref p) H (.bl (decide (none ∈ L))) := by
  have q := rv_isL (x := .non) (sq_of (K := K) h) rfl (flat_o L)
  rw [inV_o] at q
  exact q
theorem o_all : ∀ {L : List (Option Int)}, none ∉ L → L.map oV = (L.filterMap id).map V.int
  | [], _ => rfl
  | none :: r, h => absurd List.mem_cons_self h
  | some n :: r, h => by
    have ih := o_all (L := r) fun z => h (List.mem_cons_of_mem _ z)
    rw [List.map_cons, ih]
    rfl
/-- pairs compared -/
abbrev dT (r c : List Int) : PyData := .tuple [dI r, dI c]
theorem sh_T (as bs : List Int) : SeqAt.shaped (dT as bs) = true := by
  unfold SeqAt.shaped
  rw [Bool.and_eq_true]
  refine ⟨?_, decide_eq_true ?_⟩
  · simp only [PyData.canLay0, PyData.canLayAll0, lay_int, Bool.and_self]
  · have h1 := dep_int as
    have h2 := dep_int bs
    simp only [PyData.depth, PyData.depthAll]
    omega
theorem eqv_T (as bs : List Int) : PyData.eqv (dT as bs) (dT as bs) = true := by
  simp only [PyData.eqv, PyData.eqvAll, eqvA_int, Bool.and_true, decide_true]
theorem dp_T {t a b : Addr} {r c : List Int} (ht : H t = some (.tup [.ref a, .ref b])) (ha : H a = some (.lst (r.map V.int))) (hb : H b = some (.lst (c.map V.int))) : Dp K H (.ref t) (dT r c) := .tup (st_of ht) (.cons (dp_int (sq_of ha)) (.cons (dp_int (sq_of hb)) .nil))
def At2 (H : Hp) (t : Addr) (r c : List Int) : Prop := ∃ a b : Addr, H t = some (.tup [.ref a, .ref b]) ∧ H a = some (.lst (r.map V.int)) ∧ H b = some (.lst (c.map V.int))
theorem At2.mono {H' : Hp} {t : Addr} {r c : List Int} (e : Ex H H') (h : At2 H t r c) : At2 H' t r c := let ⟨a, b, h1, h2, h3⟩ := h; ⟨a, b, e _ _ h1, e _ _ h2, e _ _ h3⟩
theorem rv_eqT {t u : Addr} {r c : List Int} (h1 : At2 H t r c) (h2 : At2 H u r c) : RV (rEqD K) (.ref t) (.ref u) H (.bl true) := fun H1 e Q q => by
  obtain ⟨a, b, g1, g2, g3⟩ := h1.mono e
  obtain ⟨a', b', g4, g5, g6⟩ := h2.mono e
  exact ⟨dT r c, dT r c, dp_T g1 g2 g3, dp_T g4 g5 g6, sh_T r c, sh_T r c, by rw [eqv_T]; exact q H1 (Ex.refl H1)⟩
theorem rv_neT {t u : Addr} {r c : List Int} (h1 : At2 H t r c) (h2 : At2 H u r c) : RV (rNeD K) (.ref t) (.ref u) H (.bl false) := fun H1 e Q q => by
  obtain ⟨a, b, g1, g2, g3⟩ := h1.mono e
  obtain ⟨a', b', g4, g5, g6⟩ := h2.mono e
  exact ⟨dT r c, dT r c, dp_T g1 g2 g3, dp_T g4 g5 g6, sh_T r c, sh_T r c, by rw [eqv_T]; exact q H1 (Ex.refl H1)⟩
end
section
variable {K : PySem.W.Frag} {σ : L2.St} {H : Hp} {ta tb te : TE} {x y z v : V} {r : R2} {R : RF}
theorem rv_isN {x : V} : RV (fun x y H Q => y = .non ∧ Q (.bl (decide (x = .non))) H) x .non H (.bl (decide (x = .non))) := fun H1 e Q q => ⟨rfl, q H1 (Ex.refl H1)⟩
theorem ev_opX1 (ha : EvX ta σ H R) (hb : ∀ H1, Ex H H1 → Ev tb σ H1 y) (hr : ∀ H0 v H1, Ex H H0 → Ex H0 H1 → R H0 v H1 → RV r v y H1 z) : Ev (tOp r ta tb) σ H z := fun H1 e Q q =>
  ha H1 e _ fun v H2 e2 hv => hb H2 (e.trans e2) H2 (Ex.refl H2) _ fun H3 e3 => hr H1 v H2 e e2 hv H3 e3 Q fun H4 e4 => q H4 ((e2.trans e3).trans e4)
theorem ev_any {p : Addr} {bs : List Bool} (ha : Ev ta σ H (.ref p)) (h : SqL K H p (bs.map V.bl)) : Ev (tCB (rAny K) (tCons ta tNil)) σ H (.bl (bs.any id)) := fun H1 e Q q =>
  ha H1 e _ fun H2 e2 => ⟨p, bs, rfl, ex_l (e.trans e2) h, q H2 e2⟩
end
/-! ### _law_in -/
def F__law_in (_ : PySem.W.Frag) : XF := fun vs H R => ∃ t : List Nat, vs = [VS t] ∧ Small t ∧ R = Rin (readP t)
def sp__law_in (K : PySem.W.Frag) : Sp := Px (F__law_in K)
theorem m__law_in : MonoX (F__law_in K) := fun vs H H1 R e h => h
theorem sc__law_in : FnScope ["_law_text", "_law_row_here", "_law_cuts", "_law_word"] ["_law_text"] (defScope s__law_in) := ⟨rfl, rfl, rfl, by decide +kernel, rfl, by decide +kernel, by decide +kernel⟩
theorem ok__law_in (T : Tx K mg) : Kept P w K mg base CX0 2 "_law_in" ["_law_text"] (sp__law_in K) := by
  have D__law_number : Kept P w K mg base CX0 1 "_law_number" ["_law_text"] (sp__law_number K) := ok__law_number T
  obtain ⟨fd, F⟩ := T.d__law_in
  refine ⟨⟨fd, F.ok sc__law_in (fun vs H Q E h => by obtain ⟨_, ⟨_, rfl, _⟩, _⟩ := h; rfl) (fun cdv A outer s H vs Q E hRm h => ?_), F.bindsN fun _ _ _ _ _ _ us hl => match us, hl with | [_], _ => rfl⟩, T.g__law_in, F.kp⟩
  · obtain ⟨R, ⟨t, rfl, ⟨hl, hwl⟩, rfl⟩, k⟩ := h
    refine ⟨_, (PSs.nox (pss_cons (ps_if (pt_cmpR op_eq (pv 0) pe_str (nomark _)) (pss_one (ps_ret (pe_tup (pa_cons (pe_lst pa_nil) (pa_cons (pe_lst pa_nil) pa_nil))))) pss_nil) (pss_cons (ps_par (i := 1) (j := 2) (by rfl) sc__law_in.nd rfl rfl (by decide) rfl rfl (pa_cons (pe_lst pa_nil) (pa_cons (pe_lst pa_nil) pa_nil)) (by rfl)) (pss_cons (ps_for PassesOwn.never rfl (pi_list (pe_split (pv 0) pe_str)) (pg_name (i := 3) sc__law_in.nd rfl (Or.inl rfl)) (pss_one (ps_if (pt_cmpR op_eq (pv 3) pe_str (nomark _)) (pss_cons (ps_if (PW.pt (pw_or (pt_cmpR (op_eqD hRm.units) (pv 1) (pe_lst pa_nil) (nomark _)) (pw_or1 (PW.pt (pw_and (pt_cmpR (op_neD hRm.units) (pv 2) (pe_lst pa_nil) (nomark _)) (pw_and1 (pt_cmpR op_eq (pe_ix ix_list (pv 2) (pe_un un_neg pe_int) (fun _ _ => rfl)) (pe_callB call_len_seq (by rfl) T.z_len bo_len (pa_cons (pv 1) pa_nil)) (nomark _)))))))) (pss_one (ps_ret pe_non)) pss_nil) (pss_one (ps_expr (pe_bm PySem.F.plainAttrs_list PySem.F.slot_list_append PySem.F.type_list_append mt_append (pv 2) (pa_cons (pe_callB call_len_seq (by rfl) T.z_len bo_len (pa_cons (pv 1) pa_nil)) pa_nil))))) (pss_one (ps_expr (pe_bm PySem.F.plainAttrs_list PySem.F.slot_list_append PySem.F.type_list_append mt_append (pv 1) (pa_cons (pe_d D__law_number (hRm.mono (by decide)) (by rfl) (pa_cons (pv 3) pa_nil)) pa_nil))))))) (pss_one (ps_ret (pe_ifExp (PW.pt (pw_or (pt_cmpR op_in_seq pe_non (pv 1) (by rfl)) (pw_or (pt_cmpR op_in_seq (pe_callB call_len_seq (by rfl) T.z_len bo_len (pa_cons (pv 1) pa_nil)) (pv 2) (by rfl)) (pw_or1 (pt_cmpR (op_eqD hRm.units) (pv 1) (pe_lst pa_nil) (nomark _)))))) pe_non (pe_tup (pa_cons (pv 1) (pa_cons (pv 2) pa_nil)))))))))), ?_⟩
    rw [← law_in t] at k
    refine q_when (b := decide (t = [45])) (et_test (ev_op (ev_var rfl) (ev_S sg_dash) rv_eqS)) (fun hb H2 e2 => ?_) fun hb H2 e2 => ?_
    · refine s_retT2 (el_lst ea_nil (by decide)) (el_lst ea_nil (by decide)) fun q a b H3 e3 hq ha hb3 nab h1 h2 h3 => k _ _ (e2.trans e3) ?_
      unfold lawIn
      rw [if_pos (of_decide_eq_true hb)]
      exact ⟨q, a, b, rfl, fresh_back e2 hq, fresh_back e2 ha, fresh_back e2 hb3, nab, h1, h2, h3⟩
    have ht := of_decide_eq_false hb
    unfold lawIn at k
    rw [if_neg ht] at k
    refine r_par (r_cons (r_el (el_lst ea_nil (by decide)) fun pr H3 hpr e3 hR => r_cons (r_el (el_lst ea_nil (by decide)) fun pc H4 hpc e4 hC => r_nil ⟨_, _, rfl, ?_⟩)))
    have npr : H pr = none := fresh_back e2 hpr
    have npc : H pc = none := fresh_back (e2.trans e3) hpc
    have nrc : pr ≠ pc := fun z => by rw [z, hpc] at hR; cases hR
    have hwm : ∀ w ∈ wordsL t, w.length ≤ 5000 := fun w hw => Nat.le_trans (part_len (S := [32]) (by simp) hw) hl
    refine q_forNLn (xs := (wordsL t).map VS) (el_splitS (ev_var rfl) (ev_S sg_sp) (by omega) (by simp) (by decide))
      (fun p i σ' H' => ∃ v3, ∃ (row : List (Option Int)) (cuts : List Int), σ' = [some (VS t), some (.ref pr), some (.ref pc), v3] ∧ Ex H H' ∧ H' p = some (.lst ((wordsL t).map VS)) ∧ H' pr = some (.lst (row.map oV)) ∧ H' pc = some (.lst (cuts.map V.int)) ∧ p ≠ pr ∧ p ≠ pc ∧ row.length ≤ i ∧ cuts.length ≤ i ∧ linR (wordsL t) [] [] = linR ((wordsL t).drop i) row cuts)
      (fun p H5 hp e5 h5 => ⟨none, [], [], rfl, ((e2.trans e3).trans e4).trans e5, h5, (e4.trans e5) _ _ hR, e5 _ _ hC, fun z => (by rw [z, e4 _ _ hR] at hp; cases hp), fun z => (by rw [z, hC] at hp; cases hp), Nat.le_refl _, Nat.le_refl _, rfl⟩) (fun p i σ' H' _ ⟨_, _, _, _, _, h, _⟩ => sq_of h) ?_ ?_
    · rintro p i x σ' H' hi ⟨v3, row, cuts, rfl, e, hP, hR', hC', np1, np2, lr, lc, hlin⟩
      rw [List.getElem?_map] at hi
      cases hq : (wordsL t)[i]? with
      | none => rw [hq] at hi; cases hi
      | some w =>
        rw [hq] at hi
        cases hi
        have hlt := (List.getElem?_eq_some_iff.mp hq).1
        rw [drop_at hq] at hlin
        refine s_if (b := decide (w = [124])) (et_test (ev_op (ev_var rfl) (ev_S sg_bar) rv_eqS)) (fun hb5 H5 e5 => ?_) fun hb5 H5 e5 => ?_
        · have hw := of_decide_eq_true hb5
          subst hw
          rw [lin_bar] at hlin
          have hR5 := e5 _ _ hR'
          have hC5 := e5 _ _ hC'
          refine q_when (b := fresh row cuts) (et_is (et_or (et_test (ev_opL (ev_var rfl) (el_lst ea_nil (by decide)) fun q H7 h7 e7 => rv_eqO (e7 _ _ hR5) h7)) fun _ => et_and (b := decide (cuts.getLast? = some (row.length : Int))) (et_test (ev_opL (ev_var rfl) (el_lst ea_nil (by decide)) fun q H7 h7 e7 => rv_neI (ns := cuts) (ms := []) (sq_of (e7 _ _ hC5)) (sq_of h7))) fun hne => ?_) rfl) (fun hf H6 e6 => s_ret ev_c fun H7 e7 => k _ _ (((e.trans e5).trans e6).trans e7) ?_) fun hf H6 e6 => ?_
          · obtain ⟨cs, c, rfl⟩ : ∃ cs c, cuts = cs ++ [c] := by
              have h0 : cuts ≠ [] := by simpa using hne
              exact ⟨cuts.dropLast, cuts.getLast h0, (List.dropLast_concat_getLast h0).symm⟩
            refine et_is (et_test (ev_op (ev_ixLast (xs := cs.map V.int) (v := .int c) (ev_var rfl) (sq_of (by rw [hC5, List.map_append]; rfl))) (ev_ln (ev_var rfl) (.inl (sq_of hR5))) (rv_eq rfl))) ?_
            rw [List.length_map, List.getLast?_concat]
            exact decide_eq_decide.mpr ⟨fun h => by injection h with h; rw [h], fun h => by injection h with h; rw [h]⟩
          · rw [hlin, if_pos hf]
            rfl
          · rw [if_neg (by rw [hf]; exact Bool.false_ne_true)] at hlin
            have hC6 := e6 _ _ hC5
            refine s_app hC6 (ev_var rfl) (ev_ln (ev_var rfl) (.inl (sq_of (e6 _ _ hR5)))) (by rw [List.length_map]; have : (wordsL t).length ≤ 1000 := hwl; omega) fun H7 e7 => ⟨_, row, cuts ++ [(row.length : Int)], rfl, Ex.mut (((e.trans e5).trans e6).trans e7) npc, ?_, ?_, ?_, np1, np2, by omega, by rw [List.length_append, List.length_singleton]; omega, hlin⟩
            · rw [upd_ne np2]
              exact ((e5.trans e6).trans e7) _ _ hP
            · rw [upd_ne nrc]
              exact (e6.trans e7) _ _ hR5
            · rw [upd_same, List.map_append, List.length_map]
              rfl
        · rw [lin_word (of_decide_eq_false hb5)] at hlin
          have hR5 := e5 _ _ hR'
          refine s_app hR5 (ev_var rfl) (ev_callV m__law_number (ea_cons (ev_var rfl) ea_nil) ⟨w, rfl, hwm w (List.mem_of_getElem? hq), rfl⟩) (by rw [List.length_map]; have : (wordsL t).length ≤ 1000 := hwl; omega) fun H7 e7 => ⟨_, row ++ [numO w], cuts, rfl, Ex.mut ((e.trans e5).trans e7) npr, ?_, ?_, ?_, np1, np2, by rw [List.length_append, List.length_singleton]; omega, by omega, hlin⟩
          · rw [upd_ne np1]
            exact (e5.trans e7) _ _ hP
          · rw [upd_same, List.map_append]
            rfl
          · rw [upd_ne (Ne.symm nrc)]
            exact (e5.trans e7) _ _ hC'
    · rintro p σ' H' ⟨v3, row, cuts, rfl, e, hP, hR', hC', np1, np2, _, _, hlin⟩
      rw [List.length_map, List.drop_eq_nil_of_le (Nat.le_refl _), linR] at hlin
      rw [hlin] at k
      refine r_ret (er_if (b := badEnd row cuts) (et_is (et_or (et_test (ev_op ev_c (ev_var rfl) (rv_inO hR'))) fun _ => et_or (et_test (ev_op (ev_is (ev_ln (ev_var rfl) (.inl (sq_of hR'))) (by rw [List.length_map])) (ev_var rfl) (rv_inI (sq_of hC')))) fun _ => et_test (ev_opL (ev_var rfl) (el_lst ea_nil (by decide)) fun q H7 h7 e7 => rv_eqO (e7 _ _ hR') h7)) rfl) (fun hb7 H7 e7 => ?_) fun hb7 H7 e7 => ?_)
      · refine r_ev ev_c fun H8 e8 => k _ _ ((e.trans e7).trans e8) ?_
        rw [linF, if_pos hb7]
        rfl
      · refine eu_tup (ea_cons (ev_var rfl) (ea_cons (ev_var rfl) ea_nil)) l2 H7 (Ex.refl _) _ fun q H8 hq e8 h8 => k _ _ ((e.trans e7).trans e8) ?_
        have hno : none ∉ row := by
          intro z
          unfold badEnd at hb7
          rw [decide_eq_true z, Bool.true_or] at hb7
          cases hb7
        rw [linF, if_neg (by rw [hb7]; exact Bool.false_ne_true)]
        exact ⟨q, pr, pc, rfl, fresh_back (e.trans e7) hq, npr, npc, nrc, h8, by rw [← o_all hno]; exact (e7.trans e8) _ _ hR', (e7.trans e8) _ _ hC'⟩
/-! ### _law_refused -/
theorem hotN {cls : Value} {d : Option Addr} {oe : Obj} (hz : L2N.Zn cls d oe) (hf : ∃ vs, oe.data = .fields vs) : ∃ vs : Array Value, oe.data = .fields vs ∧ vs[2]? = some .none := let ⟨vs, h⟩ := hf; ⟨vs, h, hz.2.2 vs h⟩
theorem cr_anyHotK {X : Cx} {K : PySem.W.Frag} (h : X.K = K) (hot : L2H.HotC X) : CallR X (.builtin "any") (rAny K) := by
  subst h
  exact cr_anyHot hot
theorem call_isPc {X : Cx} {K : PySem.W.Frag} {a D : Addr} {oe : Obj} {cls : Value} {d : Option Addr} (hK : X.K = K) (C : ExcC K D) (hp : (a, oe) ∈ X.pn) (hz : Zc cls d oe) (hf : ∃ vs, oe.data = .fields vs) : CallR X (.builtin "isinstance") (fun xs H Q => (cls = .ref D ∧ d = none) ∧ rIsE K D a xs H Q) := by
  subst hK
  intro pins s σ H xs us Q I r hq
  obtain ⟨⟨rfl, rfl⟩, hq⟩ := hq
  exact call_isP C hp hz hf pins s σ H xs us Q I r hq
section
variable {K : PySem.W.Frag} {σ : L2.St} {H : Hp} {ta : TE} {a D C : Addr} {b : Bool} {cls : Value} {d : Option Addr}
theorem ev_isEc (hc : cls = .ref D ∧ d = none) (ha : Ev ta σ H (.ref a)) (hk : PySem.W.kitOne K (.ref D) (.ref C) = some b) : Ev (tCB (fun xs H Q => (cls = .ref D ∧ d = none) ∧ rIsE K D a xs H Q) (tCons ta (tCons (tC (.ref C)) tNil))) σ H (.bl b) := fun H1 e Q q =>
  ha H1 e _ fun H2 e2 => ⟨hc, .ref C, .ref C, b, rfl, fun u r => r, hk, q H2 e2⟩
theorem ev_isEVc {n : String} (hc : cls = .ref D ∧ d = none) (ha : Ev ta σ H (.ref a)) (hk : PySem.W.kitOne K (.ref D) (.type n) = some b) : Ev (tCB (fun xs H Q => (cls = .ref D ∧ d = none) ∧ rIsE K D a xs H Q) (tCons ta (tCons (tC (.ty n)) tNil))) σ H (.bl b) := fun H1 e Q q =>
  ha H1 e _ fun H2 e2 => ⟨hc, .ty n, .type n, b, rfl, fun u r => r, hk, q H2 e2⟩
end
def BadArg (K : PySem.W.Frag) (H : Hp) (x : V) : Prop := (∃ t : List Nat, x = VS t ∧ Small t ∧ readP t = none) ∨ NoText K H x
theorem BadArg.mono {H H' : Hp} {x : V} (e : Ex H H') (h : BadArg K H x) : BadArg K H' x := h.imp id fun ⟨n, h1, h2⟩ => ⟨n, tyx_ex e h1, h2⟩
theorem er_read {σ : L2.St} {H : Hp} {ar : TA} {W : WX} {Q : VK} {x : V} (h : EvA ar σ H [x]) (f : BadArg K H x) (w : ∀ H1, Ex H H1 → W (.ref (ga K "BadText")) none σ H1) : tCallS (sp_readX K) (WE W) ar σ H Q :=
  h H (Ex.refl H) _ fun H1 e => by
    rcases f.mono e with ⟨t, rfl, hs, hn⟩ | hn
    · exact .inl ⟨t, rfl, hs, fun r c hh => (by rw [hn] at hh; cases hh), fun _ H2 e2 => w H2 (e.trans e2)⟩
    · exact .inr ⟨x, rfl, hn, fun H2 e2 => w H2 (e.trans e2)⟩
def F__law_refused (K : PySem.W.Frag) : VF := fun vs H z => ∃ x, vs = [x] ∧ BadArg K H x ∧ z = .bl true
def sp__law_refused (K : PySem.W.Frag) : Sp := Pv (F__law_refused K)
theorem m__law_refused : MonoV (F__law_refused K) := fun vs H H1 z e ⟨x, h1, h2, h3⟩ => ⟨x, h1, h2.mono e, h3⟩
theorem sc__law_refused : FnScope ["_law_text", "error", "_law_others"] ["_law_text"] (defScope s__law_refused) := ⟨rfl, rfl, rfl, by decide +kernel, rfl, by decide +kernel, by decide +kernel⟩
theorem ok__law_refused (T : Tx K mg) : Kept P w K mg base CX0 3 "_law_refused" ["_law_text"] (sp__law_refused K) := by
  have D_readX : Kept P w K mg base (L2N.CX P w) 2 "read" ["text"] (sp_readX K) := ok_readX T
  obtain ⟨fd, F⟩ := T.d__law_refused
  refine ⟨⟨fd, F.ok sc__law_refused (fun vs H Q E h => by obtain ⟨_, ⟨_, rfl, _⟩, _⟩ := h; rfl) (fun cdv A outer s H vs Q E hRm h => ?_), F.bindsN fun _ _ _ _ _ _ us hl => match us, hl with | [_], _ => rfl⟩, T.g__law_refused, F.kp⟩
  · obtain ⟨z, ⟨x, rfl, hx, rfl⟩, k⟩ := h
    refine ⟨_, (PSs.nox (pss_cons (L2N.ps_try_as (i := 1) (Wout := fun _ _ _ _ => False) rfl rfl sc__law_refused.nd rfl rfl ⟨rfl, by decide, .inl T.g_CutError⟩ takesN (fun W pn xe tk _ => (pss_one (ps_expr (pe_dX D_readX (hRm.mono (by decide)) (by rfl) tk (pa_cons (pv 0) pa_nil))))) (fun a oe cls d pn hz hf => (pss_cons (ps_set (i := 2) sc__law_refused.nd rfl (Or.inl rfl) (pe_lst (pa_cons (pe_callB (call_isPc (K := K) rfl (ec_BadText T) List.mem_cons_self hz.zc hf) (by rfl) T.z_isinstance bo_isinstance (pa_cons (pv 1) (pa_cons (pe_glob (v := .ref (ga K "BadCuts")) (by rfl) T.g_BadCuts rfl) pa_nil))) (pa_cons (pe_callB (call_isPc (K := K) rfl (ec_BadText T) List.mem_cons_self hz.zc hf) (by rfl) T.z_isinstance bo_isinstance (pa_cons (pv 1) (pa_cons (pe_glob (v := .ref (ga K "BadNumber")) (by rfl) T.g_BadNumber rfl) pa_nil))) (pa_cons (pe_callB (call_isPc (K := K) rfl (ec_BadText T) List.mem_cons_self hz.zc hf) (by rfl) T.z_isinstance bo_isinstance (pa_cons (pv 1) (pa_cons (pe_glob (v := .ref (ga K "BadRow")) (by rfl) T.g_BadRow rfl) pa_nil))) pa_nil))))) (pss_one (ps_ret (pe_and (pe_callB (call_isPc (K := K) rfl (ec_BadText T) List.mem_cons_self hz.zc hf) (by rfl) T.z_isinstance bo_isinstance (pa_cons (pv 1) (pa_cons (pe_glob (v := .ref (ga K "BadText")) (by rfl) T.g_BadText rfl) pa_nil))) (pe_and (pe_callB (call_isPc (K := K) rfl (ec_BadText T) List.mem_cons_self hz.zc hf) (by rfl) T.z_isinstance bo_isinstance (pa_cons (pv 1) (pa_cons (pe_bltn (v := .ty "ValueError") (by rfl) T.z_ValueError bo_ValueError rfl) pa_nil))) (pe_one (pe_not (pe_callB (cr_anyHotK (K := K) rfl ⟨(a, oe), ⟨rfl, hotN hz hf⟩, List.mem_cons_self⟩) (by rfl) T.z_any bo_any (pa_cons (pv 2) pa_nil))))))))))) (pss_one (ps_ret pe_bl)))), ?_⟩
    unfold tSeq
    dsimp only
    refine r_drop1 (er_read (ea_cons (ev_var rfl) ea_nil) hx fun H1 e1 => ?_)
    refine ⟨true, xm_BadText T, fun _ a ha => ?_, fun q => nomatch q⟩
    refine q_asgL (xs := ([false, false, false] : List Bool).map V.bl) (el_lst (ea_cons (ev_isEc ⟨rfl, rfl⟩ (ev_var rfl) T.kx_BadText_BadCuts) (ea_cons (ev_isEc ⟨rfl, rfl⟩ (ev_var rfl) T.kx_BadText_BadNumber) (ea_cons (ev_isEc ⟨rfl, rfl⟩ (ev_var rfl) T.kx_BadText_BadRow) ea_nil))) (by decide)) fun p H2 hp e2 h2 => ?_
    exact s_ret (ev_is (ev_andV (a := true) (b := true) (ev_isEc ⟨rfl, rfl⟩ (ev_var rfl) T.kx_BadText_BadText) fun _ => ev_is (ev_andV (a := true) (b := true) (ev_isEVc ⟨rfl, rfl⟩ (ev_var rfl) T.kv_BadText) fun _ => ev_is (ev_notV (ev_any (bs := [false, false, false]) (ev_var rfl) (sq_of h2))) rfl) rfl) rfl) fun H3 e3 => k _ ((e1.trans e2).trans e3)
/-! ### _law_right -/
def F__law_right (_ : PySem.W.Frag) : VF := fun vs H z => ∃ t : List Nat, vs = [VS t] ∧ Small t ∧ z = .bl true
def sp__law_right (K : PySem.W.Frag) : Sp := Pv (F__law_right K)
theorem m__law_right : MonoV (F__law_right K) := fun vs H H1 z e h => h
theorem sc__law_right : FnScope ["_law_text", "_law_due", "_law_found"] ["_law_text"] (defScope s__law_right) := ⟨rfl, rfl, rfl, by decide +kernel, rfl, by decide +kernel, by decide +kernel⟩
theorem ok__law_right (T : Tx K mg) : Kept P w K mg base CX0 5 "_law_right" ["_law_text"] (sp__law_right K) := by
  have D__law_in : Kept P w K mg base CX0 2 "_law_in" ["_law_text"] (sp__law_in K) := ok__law_in T
  have D__law_refused : Kept P w K mg base CX0 3 "_law_refused" ["_law_text"] (sp__law_refused K) := ok__law_refused T
  have D_read : Kept P w K mg base CX0 2 "read" ["text"] (sp_read K) := ok_read T
  have D_written : Kept P w K mg base CX0 4 "written" ["row", "cuts"] (sp_written K) := ok_written T
  obtain ⟨fd, F⟩ := T.d__law_right
  refine ⟨⟨fd, F.ok sc__law_right (fun vs H Q E h => by obtain ⟨_, ⟨_, rfl, _⟩, _⟩ := h; rfl) (fun cdv A outer s H vs Q E hRm h => ?_), F.bindsN fun _ _ _ _ _ _ us hl => match us, hl with | [_], _ => rfl⟩, T.g__law_right, F.kp⟩
  · obtain ⟨z, ⟨t, rfl, hs, rfl⟩, k⟩ := h
    refine ⟨_, (PSs.nox (pss_cons (ps_set (i := 1) sc__law_right.nd rfl (Or.inl rfl) (pe_d D__law_in (hRm.mono (by decide)) (by rfl) (pa_cons (pv 0) pa_nil))) (pss_cons (ps_if (pt_cmpR op_isN (pv 1) pe_non (nomark _)) (pss_one (ps_ret (pe_d D__law_refused (hRm.mono (by decide)) (by rfl) (pa_cons (pv 0) pa_nil)))) pss_nil) (pss_cons (ps_set (i := 2) sc__law_right.nd rfl (Or.inl rfl) (pe_d D_read (hRm.mono (by decide)) (by rfl) (pa_cons (pv 0) pa_nil))) (pss_cons (ps_if (PW.pt (pw_or (pt_not (pt_val (pe_callB call_isi (by rfl) T.z_isinstance bo_isinstance (pa_cons (pv 2) (pa_cons (pe_bltn (v := .ty "tuple") (by rfl) T.z_tuple bo_tuple rfl) pa_nil))))) (pw_or (pt_cmpR (op_neD hRm.units) (pv 2) (pv 1) (nomark _)) (pw_or1 (pt_cmpR op_ne (pe_d D_written (hRm.mono (by decide)) (by rfl) (pa_cons (pe_ix ix_tup (pv 2) pe_int (fun _ _ => rfl)) (pa_cons (pe_ix ix_tup (pv 2) pe_int (fun _ _ => rfl)) pa_nil))) (pv 0) (nomark _)))))) (pss_one (ps_ret pe_bl)) pss_nil) (pss_cons (ps_expr (pe_bm PySem.F.plainAttrs_list PySem.F.slot_list_append PySem.F.type_list_append mt_append (pe_ix ix_tup (pv 2) pe_int (fun _ _ => rfl)) (pa_cons pe_int pa_nil))) (pss_cons (ps_expr (pe_bm PySem.F.plainAttrs_list PySem.F.slot_list_append PySem.F.type_list_append mt_append (pe_ix ix_tup (pv 2) pe_int (fun _ _ => rfl)) (pa_cons pe_int pa_nil))) (pss_one (ps_ret (pe_cmpR (op_eqD hRm.units) (pe_d D_read (hRm.mono (by decide)) (by rfl) (pa_cons (pv 0) pa_nil)) (pv 1) (nomark _))))))))))), ?_⟩
    refine x_asg (ex_call m__law_in anti_in (ea_cons (ev_var rfl) ea_nil) ⟨t, rfl, hs, rfl⟩) fun v H1 e1 hv => ?_
    cases hr : readP t with
    | none =>
      rw [hr] at hv
      have hv : v = .non := hv
      subst hv
      exact q_when (b := true) (et_is (et_test (ev_op (ev_var rfl) ev_c rv_isN)) rfl) (fun _ H2 e2 => s_ret (ev_callV m__law_refused (ea_cons (ev_var rfl) ea_nil) ⟨_, rfl, .inl ⟨t, rfl, hs, hr⟩, rfl⟩) fun H3 e3 => k _ ((e1.trans e2).trans e3)) fun h => by cases h
    | some rc =>
      obtain ⟨r, c⟩ := rc
      rw [hr] at hv
      obtain ⟨td, da, db, rfl, _, _, _, _, hd, hda, hdb⟩ := hv
      have hD : At2 H1 td r c := ⟨da, db, hd, hda, hdb⟩
      refine q_when (b := false) (et_is (et_test (ev_op (ev_var rfl) ev_c rv_isN)) rfl) (fun h => by cases h) fun _ H2 e2 => ?_
      refine x_asg (ex_call m_read anti_pair (ea_cons (ev_var rfl) ea_nil) ⟨t, r, c, rfl, hs, hr, rfl⟩) fun v H3 e3 hv => ?_
      obtain ⟨tf, fa, fb, rfl, ntf, nfa, nfb, nab, hf, hfa, hfb⟩ := hv
      have e23 := e2.trans e3
      obtain ⟨hok, hris, hlen⟩ := read_bounds hr
      have hsw : (wordsL t).length ≤ 1000 := hs.2
      have hcl := ris_len hris (by omega)
      refine q_when (b := false) (et_is (et_or (et_not (et_test (ev_isT (b := true) (ev_var rfl) (tx_tup hf) (by decide +kernel)))) fun _ => et_or (et_test (ev_op (ev_var rfl) (ev_var rfl) (rv_neT ⟨fa, fb, hf, hfa, hfb⟩ (hD.mono e23)))) fun _ => et_test (ev_op (ev_callV m_written (ea_cons (ev_op (ev_var rfl) ev_c (rv_ixT (v := .ref fa) (st_of hf) rfl)) (ea_cons (ev_op (ev_var rfl) ev_c (rv_ixT (v := .ref fb) (st_of hf) rfl)) ea_nil)) ⟨fa, fb, r, c, rfl, hfa, hfb, by omega, hok, hris, rfl⟩) (ev_var rfl) rv_neS)) ?_) (fun h => by cases h) fun _ H4 e4 => ?_
      · rw [read_written hr]
        simp
      have nft : tf ≠ fa := fun z => by rw [z, hfa] at hf; cases hf
      have nft2 : tf ≠ fb := fun z => by rw [z, hfb] at hf; cases hf
      refine q_app (e4 _ _ hfa) (ev_op (ev_var rfl) ev_c (rv_ixT (v := .ref fa) (st_of (e4 _ _ hf)) rfl)) ev_c (by rw [List.length_map]; omega) fun H5 e5 => ?_
      have E5 : Ex H2 (upd H5 fa (.lst (r.map V.int ++ [.int 0]))) := Ex.mut ((e3.trans e4).trans e5) nfa
      have hf5 : upd H5 fa (.lst (r.map V.int ++ [.int 0])) tf = some (.tup [.ref fa, .ref fb]) := by
        rw [upd_ne nft]
        exact (e4.trans e5) _ _ hf
      have hb5 : upd H5 fa (.lst (r.map V.int ++ [.int 0])) fb = some (.lst (c.map V.int)) := by
        rw [upd_ne (Ne.symm nab)]
        exact (e4.trans e5) _ _ hfb
      generalize upd H5 fa (.lst (r.map V.int ++ [.int 0])) = HA at E5 hf5 hb5
      refine q_app hb5 (ev_op (ev_var rfl) ev_c (rv_ixT (v := .ref fb) (st_of hf5) rfl)) ev_c (by rw [List.length_map]; omega) fun H6 e6 => ?_
      have E6 : Ex H2 (upd H6 fb (.lst (c.map V.int ++ [.int 0]))) := Ex.mut (E5.trans e6) nfb
      generalize upd H6 fb (.lst (c.map V.int ++ [.int 0])) = HB at E6
      have E16 := e2.trans E6
      refine s_ret (ev_opX1 (ex_call m_read anti_pair (ea_cons (ev_var rfl) ea_nil) ⟨t, r, c, rfl, hs, hr, rfl⟩) (fun H7 e7 => ev_var rfl) fun H0 v H7 e0 e7 hv => ?_) fun H7 e7 => k _ (e1.trans (E16.trans e7))
      obtain ⟨tg, ga', gb, rfl, _, _, _, _, g1, g2, g3⟩ := hv
      exact rv_eqT ⟨ga', gb, g1, g2, g3⟩ (hD.mono ((E16.trans e0).trans e7))

end
end Ct
namespace Ct
open PySem PySem.Spec PyProof.Rows L2 Evl
open He (ga ma)
section
variable {P : Program} {w : World} {K : PySem.W.Frag} {mg : Str → Option Value} {base : Heap}
/-! ### other texts -/
def few1 : List (List Nat) := [[], [45], [32], [45, 45], [48], [48, 48], [48, 49], [45, 49], [48, 32, 48], [48, 32, 124, 32, 48], [48, 124, 48], [48, 32, 124, 48], [48, 124, 32, 48], [124, 32, 48], [48, 32, 124], [48, 32, 124, 32, 124, 32, 48]]
def few2 : List (List Nat) := [[48, 32, 124, 124, 32, 48], [48, 32, 124, 32, 48, 32, 124, 32, 48], [48, 32, 32, 124, 32, 48], [48, 32, 124, 32, 32, 48], [32, 48], [48, 32], [48, 32, 124, 32, 48, 32], [124], [32, 124, 32], [49, 48, 48, 48, 48, 48, 48], [49, 48, 48, 48, 48, 48, 49]]
def few3 : List (List Nat) := [[57, 57, 57, 57, 57, 57, 57], [49, 50, 51, 52, 53, 54, 55, 56], [43, 49], [49, 44, 50], [49, 10], [49, 9, 50], [49, 32, 124, 32, 45], [45, 32, 124, 32, 49], [49, 95, 48], List.replicate 4000 57, [120]]
def fewL : List (List Nat) := few1 ++ few2 ++ few3
def F__law_few (_ : PySem.W.Frag) : LF := fun vs H xs => vs = [] ∧ xs = fewL.map VS
def sp__law_few (K : PySem.W.Frag) : Sp := Pl (F__law_few K)
theorem m__law_few : MonoL (F__law_few K) := fun vs H H1 z e h => h
theorem sc__law_few : FnScope ["_law_some"] [] (defScope s__law_few) := ⟨rfl, rfl, rfl, by decide +kernel, rfl, by decide +kernel, by decide +kernel⟩
theorem ok__law_few (T : Tx K mg) : Kept P w K mg base CX0 1 "_law_few" [] (sp__law_few K) := by
  obtain ⟨fd, F⟩ := T.d__law_few
  refine ⟨⟨fd, F.ok sc__law_few (fun vs H Q E h => by obtain ⟨_, ⟨rfl, _⟩, _⟩ := h; rfl) (fun cdv A outer s H vs Q E hRm h => ?_), F.bindsN fun _ _ _ _ _ _ us hl => match us, hl with | [], _ => rfl⟩, T.g__law_few, F.kp⟩
  · obtain ⟨z, ⟨rfl, rfl⟩, k⟩ := h
    refine ⟨_, (PSs.nox (pss_cons (ps_set (i := 0) sc__law_few.nd rfl (Or.inl rfl) (pe_lst (pa_cons pe_str (pa_cons pe_str (pa_cons pe_str (pa_cons pe_str (pa_cons pe_str (pa_cons pe_str (pa_cons pe_str (pa_cons pe_str (pa_cons pe_str (pa_cons pe_str (pa_cons pe_str (pa_cons pe_str (pa_cons pe_str (pa_cons pe_str (pa_cons pe_str (pa_cons pe_str pa_nil)))))))))))))))))) (pss_cons (ps_set (i := 0) sc__law_few.nd rfl (Or.inl rfl) (pe_op op_cat (pv 0) (pe_lst (pa_cons pe_str (pa_cons pe_str (pa_cons pe_str (pa_cons pe_str (pa_cons pe_str (pa_cons pe_str (pa_cons pe_str (pa_cons pe_str (pa_cons pe_str (pa_cons pe_str (pa_cons pe_str pa_nil)))))))))))))) (pss_cons (ps_set (i := 0) sc__law_few.nd rfl (Or.inl rfl) (pe_op op_cat (pv 0) (pe_lst (pa_cons pe_str (pa_cons pe_str (pa_cons pe_str (pa_cons pe_str (pa_cons pe_str (pa_cons pe_str (pa_cons pe_str (pa_cons pe_str (pa_cons pe_str (pa_cons (pe_op op_rep1 pe_str pe_int) (pa_cons pe_str pa_nil)))))))))))))) (pss_one (ps_ret (pv 0))))))), ?_⟩
    refine q_asgL (xs := few1.map VS) (el_lst (vs := few1.map VS) (by
      unfold few1
      exact (ea_cons (ev_S (by decide +kernel)) (ea_cons (ev_S (by decide +kernel)) (ea_cons (ev_S (by decide +kernel)) (ea_cons (ev_S (by decide +kernel)) (ea_cons (ev_S (by decide +kernel)) (ea_cons (ev_S (by decide +kernel)) (ea_cons (ev_S (by decide +kernel)) (ea_cons (ev_S (by decide +kernel)) (ea_cons (ev_S (by decide +kernel)) (ea_cons (ev_S (by decide +kernel)) (ea_cons (ev_S (by decide +kernel)) (ea_cons (ev_S (by decide +kernel)) (ea_cons (ev_S (by decide +kernel)) (ea_cons (ev_S (by decide +kernel)) (ea_cons (ev_S (by decide +kernel)) (ea_cons (ev_S (by decide +kernel)) ea_nil))))))))))))))))) (by decide)) fun p H1 hp e1 h1 => ?_
    refine q_asgL (xs := few1.map VS ++ few2.map VS) (el_cat1 (ev_var rfl) h1 (el_lst (vs := few2.map VS) (by
      unfold few2
      exact (ea_cons (ev_S (by decide +kernel)) (ea_cons (ev_S (by decide +kernel)) (ea_cons (ev_S (by decide +kernel)) (ea_cons (ev_S (by decide +kernel)) (ea_cons (ev_S (by decide +kernel)) (ea_cons (ev_S (by decide +kernel)) (ea_cons (ev_S (by decide +kernel)) (ea_cons (ev_S (by decide +kernel)) (ea_cons (ev_S (by decide +kernel)) (ea_cons (ev_S (by decide +kernel)) (ea_cons (ev_S (by decide +kernel)) ea_nil)))))))))))) (by decide)) (by decide)) fun q H2 hq e2 h2 => ?_
    refine q_asgL (xs := (few1.map VS ++ few2.map VS) ++ few3.map VS) (el_cat1 (ev_var rfl) h2 (el_lst (vs := few3.map VS) (by
      unfold few3
      exact (ea_cons (ev_S (by decide +kernel)) (ea_cons (ev_S (by decide +kernel)) (ea_cons (ev_S (by decide +kernel)) (ea_cons (ev_S (by decide +kernel)) (ea_cons (ev_S (by decide +kernel)) (ea_cons (ev_S (by decide +kernel)) (ea_cons (ev_S (by decide +kernel)) (ea_cons (ev_S (by decide +kernel)) (ea_cons (ev_S (by decide +kernel)) (ea_cons (ev_rep1 (ev_S sg_9) ev_c (by decide) (by decide)) (ea_cons (ev_S (by decide +kernel)) ea_nil)))))))))))) (by decide)) (by decide)) fun r H3 hr e3 h3 => ?_
    refine s_ret (ev_var rfl) fun H4 e4 => k r _ (fresh_back (e1.trans e2) hr) (((e1.trans e2).trans e3).trans e4) ?_
    rw [e4 _ _ h3]
    unfold fewL
    rw [List.map_append, List.map_append]
theorem small_of {t : List Nat} (h : t.length ≤ 999) : Small t := ⟨by omega, Nat.le_trans (spl_sum t 0 []) (by omega)⟩
theorem small_9 : Small (List.replicate 4000 57) := by
  refine ⟨by rw [List.length_replicate]; decide, ?_⟩
  unfold wordsL
  rw [TL.spl_last1 (fun h => by have := (List.mem_replicate.mp h).2; cases this)]
  simp
theorem few_small : ∀ t ∈ fewL, Small t := by
  intro t ht
  unfold fewL at ht
  rcases List.mem_append.mp ht with h | h
  · rcases List.mem_append.mp h with h | h
    · exact small_of (show t.length ≤ 999 from (by decide : ∀ u ∈ few1, u.length ≤ 999) t h)
    · exact small_of (show t.length ≤ 999 from (by decide : ∀ u ∈ few2, u.length ≤ 999) t h)
  · simp only [few3, List.mem_cons, List.not_mem_nil, or_false] at h
    rcases h with h | h | h | h | h | h | h | h | h | h | h
    all_goals first
      | (rw [h]; exact small_9)
      | (rw [h]; exact small_of (by decide))

end
end Ct
namespace Ct
open PySem PySem.Spec PyProof.Rows L2 Evl
open He (ga ma)
section
variable {P : Program} {w : World} {K : PySem.W.Frag} {mg : Str → Option Value} {base : Heap}
/-! ### values told by a word of the heap -/
abbrev PF := Hp → V → Prop
def Mo (P : PF) : Prop := ∀ H H' v, Ex H H' → P H v → P H' v
def EvP (te : TE) (σ : L2.St) (H : Hp) (P : PF) : Prop := ∀ H1, Ex H H1 → ∀ Q : VK, (∀ v H2, Ex H1 H2 → P H2 v → Q v H2) → te σ H1 Q
def EvAP (ta : TA) (σ : L2.St) (H : Hp) (n : Nat) (P : PF) : Prop := ∀ H1, Ex H H1 → ∀ Q : List V → Hp → Prop, (∀ vs H2, Ex H1 H2 → vs.length = n → (∀ x ∈ vs, P H2 x) → Q vs H2) → ta σ H1 Q
/-- pairs displayed -/
def EvPr (ta : TA) (σ : L2.St) (H : Hp) (ps : List (Int × Int)) : Prop := ∀ H1, Ex H H1 → ∀ Q : List V → Hp → Prop, (∀ xs H2, Ex H1 H2 → Prs H2 xs ps → Q xs H2) → ta σ H1 Q
theorem Prs.cons {H : Hp} {xs : List V} {ps : List (Int × Int)} {t : Addr} {a b : Int} (h : Prs H xs ps) (ht : H t = some (.tup [.int a, .int b])) : Prs H (.ref t :: xs) ((a, b) :: ps) := by
  refine ⟨by rw [List.length_cons, List.length_cons, h.1], fun i p hp => ?_⟩
  cases i with
  | zero =>
    have e : (a, b) = p := Option.some.inj hp
    subst e
    exact ⟨t, rfl, ht⟩
  | succ i => exact h.2 i p hp
section
variable {K : PySem.W.Frag} {σ : L2.St} {H : Hp} {ta tb tc te tl : TE} {tr : TA} {P P' : PF} {v w : V} {n i : Nat} {ps : List (Int × Int)} {D : Ends} {tz tu : TS} {g : TG}
theorem ap_nil : EvAP tNil σ H 0 P := fun H1 _ Q q => q [] H1 (Ex.refl H1) rfl (fun x h => by cases h)
theorem ap_cons (mo : Mo P) (h : EvP te σ H P) (hr : EvAP tr σ H n P) : EvAP (tCons te tr) σ H (n + 1) P := fun H1 e Q q =>
  h H1 e _ fun v H2 e2 hv => hr H2 (e.trans e2) _ fun vs H3 e3 hn hvs => q (v :: vs) H3 (e2.trans e3) (by rw [List.length_cons, hn]) (fun x hx => by
    rcases List.mem_cons.mp hx with z | z
    · rw [z]
      exact mo _ _ _ e3 hv
    · exact hvs x z)
theorem pr_nil : EvPr tNil σ H [] := fun H1 _ Q q => q [] H1 (Ex.refl H1) Prs.nil
theorem pr_cons {a b : Int} (ha : Ev ta σ H (.int a)) (hb : Ev tb σ H (.int b)) (hr : EvPr tr σ H ps) : EvPr (tCons (tTup (tCons ta (tCons tb tNil))) tr) σ H ((a, b) :: ps) := fun H1 e Q q =>
  eu_tup (ea_cons ha (ea_cons hb ea_nil)) l2 H1 e _ fun t H2 _ e2 ht => hr H2 (e.trans e2) _ fun xs H3 e3 hP => q _ H3 (e2.trans e3) (hP.cons (e3 _ _ ht))
theorem ep_imp (h : EvP te σ H P) (k : ∀ H' v, P H' v → P' H' v) : EvP te σ H P' := fun H1 e Q q => h H1 e Q fun v H2 e2 p => q v H2 e2 (k _ _ p)
theorem ep_ev (h : Ev te σ H v) : EvP te σ H (fun _ u => u = v) := fun H1 e Q q => h H1 e Q fun H2 e2 => q v H2 e2 rfl
theorem ep_lst {xs : List V} (h : EvL te σ H xs) : EvP te σ H (fun H' u => ∃ p, u = .ref p ∧ H' p = some (.lst xs)) := fun H1 e Q q => h H1 e Q fun p H2 _ e2 h2 => q _ H2 e2 ⟨p, rfl, h2⟩
theorem ep_prs (h : EvPr tr σ H ps) (hl : ps.length ≤ 100000) : EvP (tLst tr) σ H (fun H' u => ∃ p ys, u = .ref p ∧ H' p = some (.lst ys) ∧ Prs H' ys ps) := fun H1 e Q q => h H1 e _ fun xs H2 e2 hP =>
  ⟨sz_of (by rw [hP.1]; exact hl), fun p hp => q _ _ (e2.trans (Ex.new hp)) ⟨p, xs, rfl, upd_same, hP.mono (Ex.new hp)⟩⟩
theorem ep_tup2 {P1 P2 : PF} (m1 : Mo P1) (m2 : Mo P2) (h1 : EvP ta σ H P1) (h2 : EvP tb σ H P2) : EvP (tTup (tCons ta (tCons tb tNil))) σ H (fun H' u => ∃ t a b, u = .ref t ∧ H' t = some (.tup [a, b]) ∧ P1 H' a ∧ P2 H' b) := fun H1 e Q q =>
  h1 H1 e _ fun a H2 e2 p1 => h2 H2 (e.trans e2) _ fun b H3 e3 p2 => ⟨n2, fun t ht => q _ _ ((e2.trans e3).trans (Ex.new ht)) ⟨t, a, b, rfl, upd_same, m1 _ _ _ (e3.trans (Ex.new ht)) p1, m2 _ _ _ (Ex.new ht) p2⟩⟩
theorem ep_tup3 {P1 P2 P3 : PF} (m1 : Mo P1) (m2 : Mo P2) (m3 : Mo P3) (h1 : EvP ta σ H P1) (h2 : EvP tb σ H P2) (h3 : EvP tc σ H P3) : EvP (tTup (tCons ta (tCons tb (tCons tc tNil)))) σ H (fun H' u => ∃ t a b c, u = .ref t ∧ H' t = some (.tup [a, b, c]) ∧ P1 H' a ∧ P2 H' b ∧ P3 H' c) := fun H1 e Q q =>
  h1 H1 e _ fun a H2 e2 p1 => h2 H2 (e.trans e2) _ fun b H3 e3 p2 => h3 H3 ((e.trans e2).trans e3) _ fun c H4 e4 p3 => ⟨n3, fun t ht => q _ _ (((e2.trans e3).trans e4).trans (Ex.new ht)) ⟨t, a, b, c, rfl, upd_same, m1 _ _ _ ((e3.trans e4).trans (Ex.new ht)) p1, m2 _ _ _ (e4.trans (Ex.new ht)) p2, m3 _ _ _ (Ex.new ht) p3⟩⟩
theorem mo_eq : Mo (fun _ u => u = v) := fun _ _ _ _ h => h
theorem mo_lst {xs : List V} : Mo (fun H' u => ∃ p, u = .ref p ∧ H' p = some (.lst xs)) := fun _ _ _ e ⟨p, h1, h2⟩ => ⟨p, h1, e _ _ h2⟩
theorem mo_prs : Mo (fun H' u => ∃ p ys, u = .ref p ∧ H' p = some (.lst ys) ∧ Prs H' ys ps) := fun _ _ _ e ⟨p, ys, h1, h2, h3⟩ => ⟨p, ys, h1, e _ _ h2, h3.mono e⟩
/-- a list of such, made and told -/
theorem q_asgLP (h : EvAP tr σ H n P) (hn : n ≤ 100000) (k : ∀ p xs H1 H2, Ex H H1 → H1 p = none → xs.length = n → (∀ x ∈ xs, P H1 x) → H2 = upd H1 p (.lst xs) → tz D (σ.set i (some (.ref p))) H2) : tSeq (tAsg (tLst tr) (gName i)) tz D σ H :=
  h H (Ex.refl H) _ fun xs H1 e hl hP => ⟨sz_of (by omega), fun p hp => k p xs H1 _ e hp hl hP rfl⟩
/-- a loop over a list of such, made on the way | that stands -/
theorem q_forP (mo : Mo P) (h : EvAP tr σ H n P) (hn : n ≤ 100000) (Pw : L2.St → Hp → Prop) (h0 : ∀ H1, Ex H H1 → Pw σ H1) (hs : ∀ x σ' H0 H', Ex H H0 → Ex H0 H' → P H' x → Pw σ' H' → g x σ' H' fun σ2 H2 => tu { D with nx := fun σ2 H2 => Ex H0 H2 ∧ Pw σ2 H2, ct := fun σ2 H2 => Ex H0 H2 ∧ Pw σ2 H2, bk := tz D } σ2 H2)
    (hd : ∀ σ' H', Ex H H' → Pw σ' H' → tz D σ' H') : tSeq (tFor (iList K (tLst tr)) g tu) tz D σ H :=
  h H (Ex.refl H) _ fun xs H1 e hl hP => ⟨sz_of (by omega), fun a ha => ⟨a, rfl, ⟨xs, sq_of upd_same⟩, for_list (D := { D with nx := tz D }) (fun _ σ' H' => Ex (upd H1 a (.lst xs)) H' ∧ Pw σ' H') ⟨Ex.refl _, h0 _ (e.trans (Ex.new ha))⟩ (fun i σ' H' _ q => sq_of (q.1 _ _ upd_same))
    (fun i x σ' H' hi q => hs x σ' _ H' (e.trans (Ex.new ha)) q.1 (mo _ _ _ ((Ex.new ha).trans q.1) (hP x (List.mem_of_getElem? hi))) q.2) (fun σ' H' q => hd σ' H' ((e.trans (Ex.new ha)).trans q.1) q.2)⟩⟩
theorem q_forS {a : Addr} {xs : List V} (h : Ev tl σ H (.ref a)) (hx : H a = some (.lst xs)) (Pw : L2.St → Hp → Prop) (h0 : ∀ H1, Ex H H1 → Pw σ H1) (hs : ∀ x σ' H0 H', Ex H H0 → Ex H0 H' → x ∈ xs → Pw σ' H' → g x σ' H' fun σ2 H2 => tu { D with nx := fun σ2 H2 => Ex H0 H2 ∧ Pw σ2 H2, ct := fun σ2 H2 => Ex H0 H2 ∧ Pw σ2 H2, bk := tz D } σ2 H2)
    (hd : ∀ σ' H', Ex H H' → Pw σ' H' → tz D σ' H') : tSeq (tFor (iList K tl) g tu) tz D σ H :=
  h H (Ex.refl H) _ fun H1 e => ⟨a, rfl, ⟨xs, sq_of (e _ _ hx)⟩, for_list (D := { D with nx := tz D }) (fun _ σ' H' => Ex H1 H' ∧ Pw σ' H') ⟨Ex.refl _, h0 _ e⟩ (fun i σ' H' _ q => sq_of ((e.trans q.1) _ _ hx))
    (fun i x σ' H' hi q => hs x σ' _ H' e q.1 (List.mem_of_getElem? hi) q.2) (fun σ' H' q => hd σ' H' (e.trans q.1) q.2)⟩
end

end
end Ct
namespace Ct
open PySem PySem.Spec PyProof.Rows L2 Evl
open He (ga ma)
section
variable {P : Program} {w : World} {K : PySem.W.Frag} {mg : Str → Option Value} {base : Heap}
/-! ### the law -/
def cutsZ (ns : List Int) (i : Nat) : Bool := decide (drawZ (ns.getD (i + 1) 0) ((1 + (i : Int)) % 3 + 9) 3 = 0)
def cutsL (ns : List Int) : List Int := ((List.range (ns.length - 1)).filter (cutsZ ns)).map fun (i : Nat) => 1 + (i : Int)
theorem cutsL_ris (ns : List Int) (n : Nat) (h : n = ns.length) : risB 0 (cutsL ns) n = true := by
  rw [h]
  exact ris_filter _ _
theorem cutsL_len (ns : List Int) : (cutsL ns).length ≤ ns.length := by
  unfold cutsL
  rw [List.length_map]
  have := List.length_filter_le (cutsZ ns) (List.range (ns.length - 1))
  rw [List.length_range] at this
  omega
theorem text_snoc {R cs : List Int} {i : Nat} {x : Int} (h : R[i + 1]? = some x) : textP (R.take (i + 2)) cs = textP (R.take (i + 1)) cs ++ ((if ((1 : Int) + (i : Int)) ∈ cs then [32, 124, 32] else [32]) ++ numI x) := by
  cases R with
  | nil => cases h
  | cons y r =>
    have h : r[i]? = some x := h
    have hl : i ≤ r.length := by
      have := (List.getElem?_eq_some_iff.mp h).1
      omega
    rw [List.take_succ_cons, List.take_succ_cons, take_snoc h, textP, textP, tail_snoc, List.length_take, Nat.min_eq_left hl, List.append_assoc, show (((1 + i : Nat) : Int)) = 1 + (i : Int) by omega]
def signL : List Nat := [48, 49, 50, 51, 52, 53, 54, 55, 56, 57, 32, 124, 45, 120]
theorem sg_signs : (Str.ofString "0123456789 |-x") = SX.S signL := by decide +kernel
theorem sign_at {d : Int} (h0 : 0 ≤ d) (h1 : d < 14) : ∃ c, signL[d.toNat]? = some c := by
  have h2 : d.toNat < signL.length := by
    show d.toNat < 14
    omega
  exact ⟨_, List.getElem?_eq_getElem h2⟩
theorem two_at {α : Type} {a b : α} {d : Int} (h0 : 0 ≤ d) (h1 : d < 2) : ∃ v, ([a, b] : List α)[d.toNat]? = some v ∧ (v = a ∨ v = b) := by
  rcases (show d = 0 ∨ d = 1 by omega) with rfl | rfl
  · exact ⟨a, rfl, .inl rfl⟩
  · exact ⟨b, rfl, .inr rfl⟩
section
variable {K : PySem.W.Frag} {σ : L2.St} {H : Hp} {ta tb te tl : TE} {tr : TA} {x y z : V} {r : R2} {P : PF} {n : Nat}
theorem ev_opU1 {xs : List V} (ha : EvU ta σ H xs) (hb : ∀ H1, Ex H H1 → Ev tb σ H1 y) (hr : ∀ p H1, H1 p = some (.tup xs) → Ex H H1 → RV r (.ref p) y H1 z) : Ev (tOp r ta tb) σ H z := fun H1 e Q q =>
  ha H1 e _ fun p H2 _ e2 hp => hb H2 (e.trans e2) H2 (Ex.refl H2) _ fun H3 e3 => hr p H3 (e3 p _ hp) ((e.trans e2).trans e3) H3 (Ex.refl H3) Q fun H4 e4 => q H4 ((e2.trans e3).trans e4)
theorem all_true (xs : List Bool) (h : ∀ b ∈ xs, b = true) : xs.all id = true := by
  rw [List.all_eq_true]
  exact h
theorem el_yes {xs : List V} {j : Nat} {ws : List Nat} (h : EvL tl σ H xs) (hz : xs.length ≤ 40000) (hw : ∀ x, wipe ((wipe σ ws).set j (some x)) ws = wipe σ ws)
    (he : ∀ x H1, Ex H H1 → x ∈ xs → Ev te ((wipe σ ws).set j (some x)) H1 (.bl true)) : EvL (tLc (iList K tl) (gName j) tYes te ws) σ H (((List.range xs.length).map fun _ => true).map V.bl) := by
  have q := el_lcNL (K := K) (te := te) (t := tYes) (j := j) (vs := ws) (fun _ => true) (fun i => V.bl true) h hz hw (fun i x H1 e hi => et_yes) (fun i x H1 e hi _ => he x H1 e (List.mem_of_getElem? hi))
  rw [given_all] at q
  rw [List.map_map]
  exact q
theorem el_yesP {j : Nat} {ws : List Nat} (mo : Mo P) (h : EvAP tr σ H n P) (hn : n ≤ 40000) (hw : ∀ x, wipe ((wipe σ ws).set j (some x)) ws = wipe σ ws)
    (he : ∀ x H1, P H1 x → Ev te ((wipe σ ws).set j (some x)) H1 (.bl true)) : EvL (tLc (iList K (tLst tr)) (gName j) tYes te ws) σ H (((List.range n).map fun _ => true).map V.bl) := fun H1 e Q q =>
  h H1 e _ fun xs H2 e2 hl hP => ⟨sz_of (by omega), fun a ha => by
    have z := el_lcL (K := K) (te := te) (t := tYes) (j := j) (vs := ws) (tl := tC (.ref a)) (σ := σ) (H := upd H2 a (.lst xs)) (fun _ => true) (fun i => V.bl true) ev_c (sq_of upd_same) (by omega) hw (fun i x H1 e hi => et_yes) (fun i x H1 e hi _ => he x H1 (mo _ _ _ ((Ex.new ha).trans e) (hP x (List.mem_of_getElem? hi))))
    rw [given_all, hl] at z
    rw [List.map_map] at q
    exact z _ (Ex.refl _) Q fun p H3 hp e3 h3 => q p H3 (fresh_back (e2.trans (Ex.new ha)) hp) ((e2.trans (Ex.new ha)).trans e3) h3⟩
theorem ep_of {v : V} (h : Ev te σ H v) (p : ∀ H1, P H1 v) : EvP te σ H P := fun H1 e Q q => h H1 e Q fun H2 e2 => q v H2 e2 (p H2)
theorem ep_ofL {xs : List V} (h : EvL te σ H xs) (p : ∀ a H1, H1 a = some (.lst xs) → P H1 (.ref a)) : EvP te σ H P := fun H1 e Q q => h H1 e Q fun a H2 _ e2 h2 => q _ H2 e2 (p a H2 h2)
end
theorem mo_bad : Mo (BadArg K) := fun _ _ _ e h => h.mono e
def sp_law (K : PySem.W.Frag) : Sp := fun vs H Q _ => ∃ (a : Addr) (ns : List Int), vs = [.ref a] ∧ SqL K H a (ns.map V.int) ∧ ns.length ≤ 63 ∧ ∀ H', Q (.bl true) H'
theorem sc_law : FnScope ["_law_script", "_law_row_here", "_law_cuts", "_law_text", "_law_place", "_law_handed", "_law_cell", "_law_k", "_law_at", "_law_sign", "_law_other", "_law_thing"] ["_law_script"] (defScope s_law) := ⟨rfl, rfl, rfl, by decide +kernel, rfl, by decide +kernel, by decide +kernel⟩
theorem ok_law (T : Tx K mg) {fd : FuncData} (F : FunD K "law" "law" (defArgs s_law) (defBody s_law) (defScope s_law) [] [] (ga K "law") fd) : FnOk P w K mg base CX0 6 (ga K "law") fd ["_law_script"] (sp_law K) := by
  have D__law_cell_at : Kept P w K mg base CX0 1 "_law_cell_at" ["_law_script", "_law_k"] (sp__law_cell_at K) := ok__law_cell_at T
  have D__law_draw : Kept P w K mg base CX0 1 "_law_draw" ["_law_cell", "_law_k", "_law_many"] (sp__law_draw K) := ok__law_draw T
  have D__law_few : Kept P w K mg base CX0 1 "_law_few" [] (sp__law_few K) := ok__law_few T
  have D__law_refused : Kept P w K mg base CX0 3 "_law_refused" ["_law_text"] (sp__law_refused K) := ok__law_refused T
  have D__law_right : Kept P w K mg base CX0 5 "_law_right" ["_law_text"] (sp__law_right K) := ok__law_right T
  have D__law_row : Kept P w K mg base CX0 2 "_law_row" ["_law_script"] (sp__law_row K) := ok__law_row T
  have D_written : Kept P w K mg base CX0 4 "written" ["row", "cuts"] (sp_written K) := ok_written T
  refine F.ok sc_law (fun vs H Q E h => by obtain ⟨_, _, rfl, _⟩ := h; rfl) (fun cdv A outer s H vs Q E hRm h => ?_)
  · obtain ⟨a, ns, rfl, ha, hl, k⟩ := h
    refine ⟨_, (PSs.nox (pss_cons (ps_set (i := 1) sc_law.nd rfl (Or.inl rfl) (pe_d D__law_row (hRm.mono (by decide)) (by rfl) (pa_cons (pv 0) pa_nil))) (pss_cons (ps_setLc (i := 2) rfl sc_law.nd rfl rfl (sw_true rfl rfl rfl (by decide +kernel)) (own := [("_law_place", 4)]) (g := gName 4) (tt := _) (pi_range2 (by rfl) T.z_range (pa_cons pe_int (pa_cons (pe_callB call_len_seq (by rfl) T.z_len bo_len (pa_cons (pv 1) pa_nil)) pa_nil))) (blkOk_by (N := ["_law_script", "_law_row_here", "_law_cuts", "_law_text", "_law_place", "_law_handed", "_law_cell", "_law_k", "_law_at", "_law_sign", "_law_other", "_law_thing"]) (sc := defScope s_law) (by decide +kernel)) (fun _ _ _ _ _ => pg_name (i := 4) sc_law.nd rfl (Or.inl rfl)) (fun _ _ _ _ _ => (pts_one (pt_cmpR op_eq (pe_d D__law_draw (hRm.mono (by decide)) (by rfl) (pa_cons (pe_ix (ix_listK (K := K) rfl) (pv 0) (pv 4) (fun _ _ => rfl)) (pa_cons (pe_op op_add (pe_op op_mod (pv 4) pe_int) pe_int) (pa_cons pe_int pa_nil)))) pe_int (nomark _)))) (fun _ _ _ _ _ => (pv 4))) (pss_cons (ps_set (i := 3) sc_law.nd rfl (Or.inl rfl) (pe_ifExp (pt_cmpR (op_eqD hRm.units) (pv 1) (pe_lst pa_nil) (nomark _)) pe_str (pe_callTy call_str_int (by rfl) T.z_str bo_str (pa_cons (pe_ix ix_list (pv 1) pe_int (fun _ _ => rfl)) pa_nil)))) (pss_cons (ps_for PassesOwn.never rfl (pi_range2 (by rfl) T.z_range (pa_cons pe_int (pa_cons (pe_callB call_len_seq (by rfl) T.z_len bo_len (pa_cons (pv 1) pa_nil)) pa_nil))) (pg_name (i := 4) sc_law.nd rfl (Or.inl rfl)) (pss_one (ps_set (i := 3) sc_law.nd rfl (Or.inl rfl) (pe_op op_add_str (pe_op op_add_str (pv 3) (pe_ifExp (pt_cmpR op_in_seq (pv 4) (pv 2) (by rfl)) pe_str pe_str)) (pe_callTy call_str_int (by rfl) T.z_str bo_str (pa_cons (pe_ix ix_list (pv 1) (pv 4) (fun _ _ => rfl)) pa_nil)))))) (pss_cons (ps_set (i := 5) sc_law.nd rfl (Or.inl rfl) (pe_lst (pa_cons (pe_callTy call_list_of (by rfl) T.z_list bo_list (pa_cons (pv 1) pa_nil)) (pa_cons (pe_callTy call_list_of (by rfl) T.z_list bo_list (pa_cons (pv 2) pa_nil)) pa_nil)))) (pss_cons (ps_if (PW.pt (pw_or (pt_cmpR op_ne (pe_d D_written (hRm.mono (by decide)) (by rfl) (pa_cons (pe_ix ix_list (pv 5) pe_int (fun _ _ => rfl)) (pa_cons (pe_ix ix_list (pv 5) pe_int (fun _ _ => rfl)) pa_nil))) (pv 3) (nomark _)) (pw_or (pt_cmpR (op_neD hRm.units) (pv 5) (pe_lst (pa_cons (pv 1) (pa_cons (pv 2) pa_nil))) (nomark _)) (pw_or1 (pt_not (pt_val (pe_d D__law_right (hRm.mono (by decide)) (by rfl) (pa_cons (pv 3) pa_nil)))))))) (pss_one (ps_ret pe_bl)) pss_nil) (pss_cons (ps_set (i := 6) sc_law.nd rfl (Or.inl rfl) (pe_op op_add (pe_d D__law_cell_at (hRm.mono (by decide)) (by rfl) (pa_cons (pv 0) (pa_cons pe_int pa_nil))) (pe_op op_mul pe_int (pe_d D__law_cell_at (hRm.mono (by decide)) (by rfl) (pa_cons (pv 0) (pa_cons pe_int pa_nil)))))) (pss_cons (ps_for PassesOwn.never rfl (pi_range1 (by rfl) T.z_range (pa_cons pe_int pa_nil)) (pg_name (i := 7) sc_law.nd rfl (Or.inl rfl)) (pss_cons (ps_set (i := 8) sc_law.nd rfl (Or.inl rfl) (pe_d D__law_draw (hRm.mono (by decide)) (by rfl) (pa_cons (pe_op op_add (pv 6) (pv 7)) (pa_cons pe_int (pa_cons (pe_op op_add (pe_callB call_len_str (by rfl) T.z_len bo_len (pa_cons (pv 3) pa_nil)) pe_int) pa_nil))))) (pss_cons (ps_set (i := 9) sc_law.nd rfl (Or.inl rfl) (pe_ix ix_tup (pe_tup (pa_cons pe_str (pa_cons (pe_ix ix_str pe_str (pe_d D__law_draw (hRm.mono (by decide)) (by rfl) (pa_cons (pe_op op_add (pv 6) (pv 7)) (pa_cons pe_int (pa_cons pe_int pa_nil)))) (fun _ _ => rfl)) pa_nil))) (pe_d D__law_draw (hRm.mono (by decide)) (by rfl) (pa_cons (pe_op op_add (pv 6) (pv 7)) (pa_cons pe_int (pa_cons pe_int pa_nil)))) (fun _ _ => rfl))) (pss_one (ps_if (pt_not (pt_val (pe_d D__law_right (hRm.mono (by decide)) (by rfl) (pa_cons (pe_op op_add_str (pe_op op_add_str (pe_slice sl_str (pv 3) po_none (po_some (pv 8))) (pv 9)) (pe_slice sl_str (pv 3) (po_some (pe_op op_add (pv 8) (pe_d D__law_draw (hRm.mono (by decide)) (by rfl) (pa_cons (pe_op op_add (pv 6) (pv 7)) (pa_cons pe_int (pa_cons pe_int pa_nil)))))) po_none)) pa_nil)))) (pss_one (ps_ret pe_bl)) pss_nil))))) (pss_cons (ps_if (pt_not (pt_val (pe_callB (cr_all rfl) (by rfl) T.z_all bo_all (pa_cons (pe_lc (own := [("_law_other", 10)]) (g := gName 10) (tt := tYes) rfl sc_law.nd (pi_list (pe_d0 D__law_few (hRm.mono (by decide)) (by rfl))) (blkOk_by (N := ["_law_script", "_law_row_here", "_law_cuts", "_law_text", "_law_place", "_law_handed", "_law_cell", "_law_k", "_law_at", "_law_sign", "_law_other", "_law_thing"]) (sc := defScope s_law) (by decide +kernel)) (fun _ _ _ _ _ => pg_name (i := 10) sc_law.nd rfl (Or.inl rfl)) (fun _ _ _ _ _ => pts_nil) (fun _ _ _ _ _ => (pe_d D__law_right (hRm.mono (by decide)) (by rfl) (pa_cons (pv 10) pa_nil)))) pa_nil)))) (pss_one (ps_ret pe_bl)) pss_nil) (pss_one (ps_ret (pe_callB (cr_all rfl) (by rfl) T.z_all bo_all (pa_cons (pe_lc (own := [("_law_thing", 11)]) (g := gName 11) (tt := tYes) rfl sc_law.nd (pi_list (pe_lst (pa_cons pe_non (pa_cons pe_int (pa_cons (pe_lst (pa_cons pe_str pa_nil)) (pa_cons pe_bl pa_nil)))))) (blkOk_by (N := ["_law_script", "_law_row_here", "_law_cuts", "_law_text", "_law_place", "_law_handed", "_law_cell", "_law_k", "_law_at", "_law_sign", "_law_other", "_law_thing"]) (sc := defScope s_law) (by decide +kernel)) (fun _ _ _ _ _ => pg_name (i := 11) sc_law.nd rfl (Or.inl rfl)) (fun _ _ _ _ _ => pts_nil) (fun _ _ _ _ _ => (pe_d D__law_refused (hRm.mono (by decide)) (by rfl) (pa_cons (pv 11) pa_nil)))) pa_nil)))))))))))))), ?_⟩
    refine q_asgL (el_callL m__law_row (ea_cons (ev_var rfl) ea_nil) ⟨a, ns, rfl, ha, hl, rfl⟩) fun p H1 hp e1 hrow => ?_
    have hR := lawRow_ok ns
    have hRl := lawRow_len ns
    generalize lawRow ns = R at hrow hR hRl
    refine q_asgL (xs := (cutsL ns).map V.int) (el_is (el_lcR2 (cutsZ ns) (fun i => .int (1 + (i : Int))) (ea_cons ev_c (ea_cons (ev_ln (ev_var rfl) (.inl (sq_of hrow))) ea_nil)) (by rw [List.length_map]; omega) (fun x => rfl)
      (fun i H2 e2 hi => ?_) fun i H2 e2 hi hf => ev_var rfl) ?_) fun c H2 hc e2 hcuts => ?_
    · rw [List.length_map, hRl] at hi
      refine et_is (et_test (ev_op (ev_callV m__law_draw (ea_cons (ev_ixI (n := ns.getD (i + 1) 0) (ev_var rfl) (ex_l (e1.trans e2) ha) (ev_var rfl) (by omega) ?_) (ea_cons (ev_op (ev_op (ev_var rfl) ev_c (rv_I (by decide))) ev_c rv_I0) (ea_cons ev_c ea_nil))) ⟨_, _, _, rfl, by omega, by decide, rfl⟩) ev_c (rv_eq rfl))) ?_
      · rw [List.getD_eq_getElem?_getD, show ((1 : Int) + (i : Int)).toNat = i + 1 by omega, List.getElem?_eq_getElem (by omega)]
        rfl
      · simp [cutsZ]
    · unfold given cutsL
      rw [List.length_map, hRl, List.map_map, show ((ns.length : Int) - 1).toNat = ns.length - 1 by omega]
      rfl
    have hris : risB 0 (cutsL ns) R.length = true := cutsL_ris ns _ hRl
    have hcl := cutsL_len ns
    generalize cutsL ns = cs at hcuts hris hcl
    have e12 := e1.trans e2
    have hrow2 := e2 _ _ hrow
    have hR1 : ∀ n ∈ R, n ≤ 1000001 := fun n hn => by have := (hR n hn).2; omega
    have tl : ∀ i, (textP (R.take i) cs).length ≤ 631 := fun i => by
      have h1 := text_len (row := R.take i) (cuts := cs) fun n hn => hR1 n (List.mem_of_mem_take hn)
      rw [List.length_take] at h1
      omega
    -- the text
    refine q_asg (v := VS (textP (R.take 1) cs)) (ev_if (b := decide (R = [])) (et_test (ev_opL (ev_var rfl) (el_lst ea_nil (by decide)) fun q H7 h7 e7 => rv_eqI (ns := R) (ms := []) (sq_of (e7 _ _ hrow2)) (sq_of h7))) (fun hb => ev_is (ev_S sg_dash) ?_) fun hb => ?_) fun H3 e3 => ?_
    · rw [of_decide_eq_true hb]
      rfl
    · obtain ⟨y, r, rfl⟩ : ∃ y r, R = y :: r := by
        cases R with
        | nil => exact absurd rfl (of_decide_eq_false hb)
        | cons y r => exact ⟨y, r, rfl⟩
      have hy := hR y List.mem_cons_self
      refine ev_is (ev_strI (i := y) (ev_ixI (ev_var rfl) (sq_of hrow2) ev_c (by decide) rfl) hy.1 (by omega)) ?_
      show VS (numI y) = VS (numI y ++ [])
      rw [List.append_nil]
    refine q_forR2 (lo := 1) (n := (R.length : Int)) (ea_cons ev_c (ea_cons (ev_is (ev_ln (ev_var rfl) (.inl (sq_of (e3 _ _ hrow2)))) (by rw [List.length_map])) ea_nil)) (by omega)
      (fun i σ' H' => ∃ v4, σ' = [some (.ref a), some (.ref p), some (.ref c), some (VS (textP (R.take (i + 1)) cs)), v4, none, none, none, none, none, none, none] ∧ Ex H2 H') (fun H4 e4 => ⟨none, rfl, e3.trans e4⟩) ?_ ?_
    · rintro i σ' H' hi ⟨v4, rfl, e⟩
      have hi2 : i + 1 < R.length := by omega
      have hat : R[i + 1]? = some R[i + 1] := List.getElem?_eq_getElem hi2
      have hx := hR _ (List.mem_of_getElem? hat)
      have hrow3 := e _ _ hrow2
      have l1' := tl (i + 1)
      have l3 : (numI R[i + 1]).length ≤ 7 := numI_len (by omega)
      refine s_asg (ev_is (ev_catS (l := textP (R.take (i + 1)) cs ++ (if ((1 : Int) + (i : Int)) ∈ cs then [32, 124, 32] else [32])) (m := numI R[i + 1]) (ev_catS (ev_var rfl) (ev_if (b := decide (((1 : Int) + (i : Int)) ∈ cs)) (et_test (ev_op (ev_var rfl) (ev_var rfl) (rv_inI (sq_of (e _ _ hcuts))))) (fun hb => ev_is (ev_S sg_sep) (by rw [if_pos (of_decide_eq_true hb)])) fun hb => ev_is (ev_S sg_sp) (by rw [if_neg (of_decide_eq_false hb)])) (by split <;> simp only [List.length_cons, List.length_nil] <;> omega))
        (ev_strI (ev_ixI (ev_var rfl) (sq_of hrow3) (ev_var rfl) (by omega) (by rw [show ((1 : Int) + (i : Int)).toNat = i + 1 by omega]; exact hat)) hx.1 (by omega)) (by rw [List.length_append]; split <;> simp only [List.length_cons, List.length_nil] <;> omega)) ?_) fun H4 e4 => ⟨_, rfl, e.trans e4⟩
      rw [text_snoc hat, List.append_assoc]
    rintro σ' H4 ⟨v4, rfl, e4⟩
    have hend : R.take (((R.length : Int) - 1).toNat + 1) = R := List.take_of_length_le (by omega)
    rw [hend]
    have htl := tl R.length
    rw [List.take_length] at htl
    have htw := text_written hris
    have hsm : Small (textP R cs) := small_of (by omega)
    generalize textP R cs = tx at htl htw hsm
    have hrow4 := e4 _ _ hrow2
    have hcuts4 := e4 _ _ hcuts
    refine r_asg (r_lst (r_cons (r_el (el_ls (ev_var rfl) (.inl (sq_of hrow4))) fun p1 H5 hp1 e5 h5 => r_cons (r_el (el_ls (ev_var rfl) (.inl (sq_of (e5 _ _ hcuts4)))) fun p2 H6 hp2 e6 h6 => r_nil ⟨n2, fun p3 hp3 => ?_⟩))))
    have ea : Ex H4 (upd H6 p3 (.lst [.ref p1, .ref p2])) := (e5.trans e6).trans (Ex.new hp3)
    have g1 : upd H6 p3 (.lst [.ref p1, .ref p2]) p1 = some (.lst (R.map V.int)) := (e6.trans (Ex.new hp3)) _ _ h5
    have g2 : upd H6 p3 (.lst [.ref p1, .ref p2]) p2 = some (.lst (cs.map V.int)) := (Ex.new hp3) _ _ h6
    have g3 : upd H6 p3 (.lst [.ref p1, .ref p2]) p3 = some (.lst [.ref p1, .ref p2]) := upd_same
    generalize upd H6 p3 (.lst [.ref p1, .ref p2]) = HV at ea g1 g2 g3
    have hrowV := ea _ _ hrow4
    have hcutsV := ea _ _ hcuts4
    refine q_when (b := false) (et_is (et_or (et_test (ev_op (ev_callV m_written (ea_cons (ev_ixN (ev_var rfl) (sq_of g3) ev_c (by decide) rfl) (ea_cons (ev_ixN (ev_var rfl) (sq_of g3) ev_c (by decide) rfl) ea_nil)) ⟨p1, p2, R, cs, rfl, g1, g2, by omega, hR, hris, rfl⟩) (ev_var rfl) rv_neS)) fun _ => et_or (et_test (ev_opL (z := .bl (!(decide (R = R) && decide (cs = cs)))) (ev_var rfl) (el_lst (ea_cons (ev_var rfl) (ea_cons (ev_var rfl) ea_nil)) l2) fun r H7 h7 e7 H8 e8 Q q => ?_)) fun _ =>
      et_not (et_B (ev_callV m__law_right (ea_cons (ev_var rfl) ea_nil) ⟨tx, rfl, hsm, rfl⟩))) ?_) (fun h => by cases h) fun _ H7 e7 => ?_
    · have t1 := e7.trans e8
      refine ⟨.list [dI R, dI cs], .list [dI R, dI cs], .lst (sq_of (t1 _ _ g3)) (.cons (dp_int (sq_of (t1 _ _ g1))) (.cons (dp_int (sq_of (t1 _ _ g2))) .nil)), .lst (sq_of (e8 _ _ h7)) (.cons (dp_int (sq_of (t1 _ _ hrowV))) (.cons (dp_int (sq_of (t1 _ _ hcutsV))) .nil)), sh_ints2 _ _, sh_ints2 _ _, ?_⟩
      rw [eqv_ints2]
      exact q _ (Ex.refl _)
    · rw [htw]
      simp
    have e47 := ea.trans e7
    have ha7 := ex_l ((e12.trans e4).trans e47) ha
    refine q_asg (v := .int (cellZ ns 3 + 7 * cellZ ns 0)) (ev_op (ev_callV m__law_cell_at (ea_cons (ev_var rfl) (ea_cons ev_c ea_nil)) ⟨a, ns, 3, rfl, ha7, by decide, rfl⟩) (ev_op ev_c (ev_callV m__law_cell_at (ea_cons (ev_var rfl) (ea_cons ev_c ea_nil)) ⟨a, ns, 0, rfl, ha7, by decide, rfl⟩) (rv_I (.inl ⟨by decide, by decide⟩))) rv_I0) fun H8 e8 => ?_
    generalize cellZ ns 3 + 7 * cellZ ns 0 = cell
    refine q_forR1 (n := 2) (ea_cons ev_c ea_nil) (by decide)
      (fun i σ' H' => ∃ v7 v8 v9, σ' = [some (.ref a), some (.ref p), some (.ref c), some (VS tx), v4, some (.ref p3), some (.int cell), v7, v8, v9, none, none] ∧ Ex H8 H') (fun H9 e9 => ⟨none, none, none, rfl, e9⟩) ?_ ?_
    · rintro i σ' H' hi ⟨v7, v8, v9, rfl, e⟩
      have dr : ∀ (σ' : L2.St) (H' : Hp) (k' m' : Int) (tm : TE), σ'[6]? = some (some (.int cell)) → σ'[7]? = some (some (.int (i : Int))) → 0 ≤ k' → 0 < m' → Ev tm σ' H' (.int m') → Ev (tCall (sp__law_draw K) [] E0 (tCons (tOp (rI0 fun i j => .int (i + j)) (tVar 6) (tVar 7)) (tCons (tC (.int k')) (tCons tm tNil)))) σ' H' (.int (drawZ (cell + (i : Int)) k' m')) := fun σ' H' k' m' tm h6 h7 hk hm ht =>
        ev_callV m__law_draw (ea_cons (ev_op (ev_var h6) (ev_var h7) rv_I0) (ea_cons ev_c (ea_cons ht ea_nil))) ⟨_, _, _, rfl, hk, hm, rfl⟩
      refine q_asg (dr _ _ 1 ((tx.length : Int) + 1) _ rfl rfl (by decide) (by omega) (ev_op (ev_lnS (ev_var rfl) (by omega)) ev_c rv_I0)) fun H9 e9 => ?_
      have at0 := drawZ_lo (c := cell + (i : Int)) (k := 1) (m := (tx.length : Int) + 1) (by omega)
      have at1 := drawZ_hi (c := cell + (i : Int)) (k := 1) (m := (tx.length : Int) + 1) (by omega)
      generalize drawZ (cell + (i : Int)) 1 ((tx.length : Int) + 1) = at_ at at0 at1
      obtain ⟨sc, hsc⟩ := sign_at (d := drawZ (cell + (i : Int)) 2 14) (drawZ_lo (by decide)) (drawZ_hi (by decide))
      obtain ⟨v, hv, hvv⟩ := two_at (a := VS []) (b := VS [sc]) (d := drawZ (cell + (i : Int)) 3 2) (drawZ_lo (by decide)) (drawZ_hi (by decide))
      obtain ⟨sg, rfl, hsg⟩ : ∃ sg, v = VS sg ∧ sg.length ≤ 1 := by
        rcases hvv with z | z
        · exact ⟨[], z, by decide⟩
        · exact ⟨[sc], z, by simp⟩
      have d30 := drawZ_lo (c := cell + (i : Int)) (k := 3) (m := 2) (by decide)
      refine q_asg (v := VS sg) (ev_opU1 (xs := [VS [], VS [sc]]) (eu_tup (ea_cons (ev_S sg_no) (ea_cons (ev_ixS (l := signL) (ev_S sg_signs) (dr _ _ 2 14 _ rfl rfl (by decide) (by decide) ev_c) (by decide) (drawZ_lo (by decide)) hsc) ea_nil)) l2) (fun H1 e1 => dr _ _ 3 2 _ rfl rfl (by decide) (by decide) ev_c) fun q H1 hq eq => rv_ixT (st_of hq) (by
        rw [show drawZ (cell + (i : Int)) 3 2 = (((drawZ (cell + (i : Int)) 3 2).toNat : Nat) : Int) by omega]
        exact atI_nat hv)) fun H10 e10 => ?_
      have d40 := drawZ_lo (c := cell + (i : Int)) (k := 4) (m := 2) (by decide)
      have e910 := (e.trans e9).trans e10
      refine s_when (b := false) (et_not (et_B (ev_callV m__law_right (ea_cons (ev_catS (l := tx.take at_.toNat ++ sg) (m := tx.drop (at_ + drawZ (cell + (i : Int)) 4 2).toNat) (ev_catS (ev_slTo (ev_var rfl) (eo_some (ev_var rfl)) (by omega) at0) (ev_var rfl) ?_) (ev_slFrom (ev_var rfl) (eo_some (ev_op (ev_var rfl) (dr _ _ 4 2 _ rfl rfl (by decide) (by decide) ev_c) rv_I0)) (by omega) (by omega)) ?_) ea_nil) ⟨_, rfl, small_of ?_, rfl⟩))) (fun h => by cases h) fun _ H11 e11 => ⟨_, _, _, rfl, e910.trans e11⟩
      · rw [List.length_take]
        omega
      · rw [List.length_append, List.length_take, List.length_drop]
        omega
      · rw [List.length_append, List.length_append, List.length_take, List.length_drop]
        omega
    rintro σ' H9 ⟨v7, v8, v9, rfl, e9⟩
    refine q_when (b := false) (et_is (et_not (et_test (ev_allN (el_yes (el_callL m__law_few ea_nil ⟨rfl, rfl⟩) (by rw [List.length_map]; decide) (fun x => rfl) fun x H10 e10 hx => ?_)))) ?_) (fun h => by cases h) fun _ H10 e10 => ?_
    · obtain ⟨t, ht, rfl⟩ := List.mem_map.mp hx
      exact ev_callV m__law_right (ea_cons (ev_var rfl) ea_nil) ⟨t, rfl, few_small t ht, rfl⟩
    · rw [all_true _ fun b hb => by obtain ⟨_, _, rfl⟩ := List.mem_map.mp hb; rfl]
      rfl
    refine s_ret (ev_is (ev_allN (el_yesP mo_bad (ap_cons mo_bad (ep_of ev_c fun H => .inr ⟨"NoneType", .base .non, by decide +kernel⟩) (ap_cons mo_bad (ep_of ev_c fun H => .inr ⟨"int", tx_int, by decide +kernel⟩) (ap_cons mo_bad (ep_ofL (el_lst (ea_cons ev_c ea_nil) l1) fun a H h => .inr ⟨"list", tx_lst h, by decide +kernel⟩) (ap_cons mo_bad (ep_of ev_c fun H => .inr ⟨"bool", tx_bl, by decide +kernel⟩) ap_nil)))) (by decide) (fun x => rfl) fun x H11 hx => ev_callV m__law_refused (ea_cons (ev_var rfl) ea_nil) ⟨x, rfl, hx, rfl⟩)) ?_) fun H11 e11 => k _
    rw [all_true _ fun b hb => by obtain ⟨_, _, rfl⟩ := List.mem_map.mp hb; rfl]

end
end Ct
namespace Ct
open PySem PySem.Spec PyProof.Rows L2 Evl
set_option maxHeartbeats 0
def d_is_whole : He.DefD := ⟨("is_whole", none), "is_whole", "is_whole", defArgs s_is_whole, defBody s_is_whole, defScope s_is_whole, [], []⟩
def d_check_row : He.DefD := ⟨("check_row", none), "check_row", "check_row", defArgs s_check_row, defBody s_check_row, defScope s_check_row, [], []⟩
def d_are_cuts : He.DefD := ⟨("are_cuts", none), "are_cuts", "are_cuts", defArgs s_are_cuts, defBody s_are_cuts, defScope s_are_cuts, [], []⟩
def d_check_cuts : He.DefD := ⟨("check_cuts", none), "check_cuts", "check_cuts", defArgs s_check_cuts, defBody s_check_cuts, defScope s_check_cuts, [], []⟩
def d_written : He.DefD := ⟨("written", none), "written", "written", defArgs s_written, defBody s_written, defScope s_written, [], []⟩
def d_number_in : He.DefD := ⟨("number_in", none), "number_in", "number_in", defArgs s_number_in, defBody s_number_in, defScope s_number_in, [], []⟩
def d_read : He.DefD := ⟨("read", none), "read", "read", defArgs s_read, defBody s_read, defScope s_read, [], []⟩
def d__law_cell_at : He.DefD := ⟨("_law_cell_at", none), "_law_cell_at", "_law_cell_at", defArgs s__law_cell_at, defBody s__law_cell_at, defScope s__law_cell_at, [], []⟩
def d__law_draw : He.DefD := ⟨("_law_draw", none), "_law_draw", "_law_draw", defArgs s__law_draw, defBody s__law_draw, defScope s__law_draw, [], []⟩
def d__law_row : He.DefD := ⟨("_law_row", none), "_law_row", "_law_row", defArgs s__law_row, defBody s__law_row, defScope s__law_row, [], []⟩
def d__law_numbers : He.DefD := ⟨("_law_numbers", none), "_law_numbers", "_law_numbers", defArgs s__law_numbers, defBody s__law_numbers, defScope s__law_numbers, [], []⟩
def d__law_rising : He.DefD := ⟨("_law_rising", none), "_law_rising", "_law_rising", defArgs s__law_rising, defBody s__law_rising, defScope s__law_rising, [], []⟩
def d__law_number : He.DefD := ⟨("_law_number", none), "_law_number", "_law_number", defArgs s__law_number, defBody s__law_number, defScope s__law_number, [], []⟩
def d__law_in : He.DefD := ⟨("_law_in", none), "_law_in", "_law_in", defArgs s__law_in, defBody s__law_in, defScope s__law_in, [], []⟩
def d__law_refused : He.DefD := ⟨("_law_refused", none), "_law_refused", "_law_refused", defArgs s__law_refused, defBody s__law_refused, defScope s__law_refused, [], []⟩
def d__law_right : He.DefD := ⟨("_law_right", none), "_law_right", "_law_right", defArgs s__law_right, defBody s__law_right, defScope s__law_right, [], []⟩
def d__law_few : He.DefD := ⟨("_law_few", none), "_law_few", "_law_few", defArgs s__law_few, defBody s__law_few, defScope s__law_few, [], []⟩
def d_law : He.DefD := ⟨("law", none), "law", "law", defArgs s_law, defBody s_law, defScope s_law, [], []⟩
def fn : List He.DefD := ([d_is_whole, d_check_row, d_are_cuts, d_check_cuts, d_written, d_number_in, d_read, d__law_cell_at, d__law_draw, d__law_row, d__law_numbers, d__law_rising, d__law_number, d__law_in, d__law_refused, d__law_right, d__law_few, d_law] : List He.DefD)
def fa : List He.Fa := ([(.glo "CutError"), (.glo "BadRow"), (.glo "BadNumber"), (.glo "BadCuts"), (.glo "BadText"), (.int "GREATEST" 1000000), (.int "LONGEST" 1000000), (.glo "is_whole"), (.glo "check_row"), (.glo "are_cuts"), (.glo "check_cuts"), (.str "FIGURES" "0123456789"), (.glo "written"), (.glo "number_in"), (.glo "read"), (.glo "_law_cell_at"), (.glo "_law_draw"), (.glo "_law_row"), (.glo "_law_numbers"), (.glo "_law_rising")] : List He.Fa) ++ ([(.glo "_law_number"), (.glo "_law_in"), (.glo "_law_refused"), (.glo "_law_right"), (.glo "_law_few"), (.glo "law"), (.free "ValueError"), (.free "all"), (.free "any"), (.free "bool"), (.free "int"), (.free "isinstance"), (.free "len"), (.free "list"), (.free "range"), (.free "str"), (.free "tuple")] : List He.Fa)
def ex (K : PySem.W.Frag) : Bool := decide (PySem.W.specialIn K (.builtin "object.__class__") "__get__" = some (some (.builtin "getset_descriptor.__get__"))) && (decide (PySem.W.takesIn K (.builtin "object.__class__") = some true) && (decide (PySem.W.subIn K (.ref (He.ga K "CutError")) (.type "BaseException") = some true) && (decide (PySem.W.typeIn K (.ref (He.ga K "CutError")) = some (.type "type")) && (decide (PySem.W.hasDictIn K (He.ga K "CutError") = true) && (decide (PySem.W.subIn K (.ref (He.ga K "BadRow")) (.type "BaseException") = some true) && (decide (PySem.W.typeIn K (.ref (He.ga K "BadRow")) = some (.type "type")) && (decide (PySem.W.hasDictIn K (He.ga K "BadRow") = true) && (decide (PySem.W.subIn K (.ref (He.ga K "BadNumber")) (.type "BaseException") = some true) && (decide (PySem.W.typeIn K (.ref (He.ga K "BadNumber")) = some (.type "type")) && (decide (PySem.W.hasDictIn K (He.ga K "BadNumber") = true) && (decide (PySem.W.subIn K (.ref (He.ga K "BadCuts")) (.type "BaseException") = some true) && (decide (PySem.W.typeIn K (.ref (He.ga K "BadCuts")) = some (.type "type")) && (decide (PySem.W.hasDictIn K (He.ga K "BadCuts") = true) && (decide (PySem.W.subIn K (.ref (He.ga K "BadText")) (.type "BaseException") = some true) && (decide (PySem.W.typeIn K (.ref (He.ga K "BadText")) = some (.type "type")) && (decide (PySem.W.hasDictIn K (He.ga K "BadText") = true) && (decide (PySem.W.excIn K (He.ga K "BadRow") [.type "ValueError", .type "Exception", .type "BaseException", .type "object"] "ValueError.__new__" = true) && (decide (PySem.W.keepIn K (.ref (He.ga K "BadRow")) = true) && (decide (PySem.W.subIn K (.ref (He.ga K "BadRow")) (.ref (He.ga K "CutError")) = some true) && (decide (PySem.W.findIn K (.ref (He.ga K "BadRow")) "__getattribute__" = some (some (.builtin "BaseException.__getattribute__"))) && (decide (PySem.W.findIn K (.ref (He.ga K "BadRow")) "__getattr__" = some none) && (decide (PySem.W.findIn K (.ref (He.ga K "BadRow")) "__class__" = some (some (.builtin "object.__class__"))) && (decide (PySem.W.mroIn K (He.ga K "BadRow") (.type "object") = some true) && (decide (PySem.W.kitOne K (.ref (He.ga K "BadRow")) (.ref (He.ga K "BadRow")) = some true) && (decide (PySem.W.kitOne K (.ref (He.ga K "BadRow")) (.ref (He.ga K "BadNumber")) = some false) && (decide (PySem.W.kitOne K (.ref (He.ga K "BadRow")) (.ref (He.ga K "BadCuts")) = some false) && (decide (PySem.W.kitOne K (.ref (He.ga K "BadRow")) (.ref (He.ga K "BadText")) = some false) && (decide (PySem.W.kitOne K (.ref (He.ga K "BadRow")) (.type "ValueError") = some true) && (decide (PySem.W.excIn K (He.ga K "BadNumber") [.type "ValueError", .type "Exception", .type "BaseException", .type "object"] "ValueError.__new__" = true) && (decide (PySem.W.keepIn K (.ref (He.ga K "BadNumber")) = true) && (decide (PySem.W.subIn K (.ref (He.ga K "BadNumber")) (.ref (He.ga K "CutError")) = some true) && (decide (PySem.W.findIn K (.ref (He.ga K "BadNumber")) "__getattribute__" = some (some (.builtin "BaseException.__getattribute__"))) && (decide (PySem.W.findIn K (.ref (He.ga K "BadNumber")) "__getattr__" = some none) && (decide (PySem.W.findIn K (.ref (He.ga K "BadNumber")) "__class__" = some (some (.builtin "object.__class__"))) && (decide (PySem.W.mroIn K (He.ga K "BadNumber") (.type "object") = some true) && (decide (PySem.W.kitOne K (.ref (He.ga K "BadNumber")) (.ref (He.ga K "BadRow")) = some false) && (decide (PySem.W.kitOne K (.ref (He.ga K "BadNumber")) (.ref (He.ga K "BadNumber")) = some true) && (decide (PySem.W.kitOne K (.ref (He.ga K "BadNumber")) (.ref (He.ga K "BadCuts")) = some false) && (decide (PySem.W.kitOne K (.ref (He.ga K "BadNumber")) (.ref (He.ga K "BadText")) = some false) && (decide (PySem.W.kitOne K (.ref (He.ga K "BadNumber")) (.type "ValueError") = some true) && (decide (PySem.W.excIn K (He.ga K "BadCuts") [.type "ValueError", .type "Exception", .type "BaseException", .type "object"] "ValueError.__new__" = true) && (decide (PySem.W.keepIn K (.ref (He.ga K "BadCuts")) = true) && (decide (PySem.W.subIn K (.ref (He.ga K "BadCuts")) (.ref (He.ga K "CutError")) = some true) && (decide (PySem.W.findIn K (.ref (He.ga K "BadCuts")) "__getattribute__" = some (some (.builtin "BaseException.__getattribute__"))) && (decide (PySem.W.findIn K (.ref (He.ga K "BadCuts")) "__getattr__" = some none) && (decide (PySem.W.findIn K (.ref (He.ga K "BadCuts")) "__class__" = some (some (.builtin "object.__class__"))) && (decide (PySem.W.mroIn K (He.ga K "BadCuts") (.type "object") = some true) && (decide (PySem.W.kitOne K (.ref (He.ga K "BadCuts")) (.ref (He.ga K "BadRow")) = some false) && (decide (PySem.W.kitOne K (.ref (He.ga K "BadCuts")) (.ref (He.ga K "BadNumber")) = some false) && (decide (PySem.W.kitOne K (.ref (He.ga K "BadCuts")) (.ref (He.ga K "BadCuts")) = some true) && (decide (PySem.W.kitOne K (.ref (He.ga K "BadCuts")) (.ref (He.ga K "BadText")) = some false) && (decide (PySem.W.kitOne K (.ref (He.ga K "BadCuts")) (.type "ValueError") = some true) && (decide (PySem.W.excIn K (He.ga K "BadText") [.type "ValueError", .type "Exception", .type "BaseException", .type "object"] "ValueError.__new__" = true) && (decide (PySem.W.keepIn K (.ref (He.ga K "BadText")) = true) && (decide (PySem.W.subIn K (.ref (He.ga K "BadText")) (.ref (He.ga K "CutError")) = some true) && (decide (PySem.W.findIn K (.ref (He.ga K "BadText")) "__getattribute__" = some (some (.builtin "BaseException.__getattribute__"))) && (decide (PySem.W.findIn K (.ref (He.ga K "BadText")) "__getattr__" = some none) && (decide (PySem.W.findIn K (.ref (He.ga K "BadText")) "__class__" = some (some (.builtin "object.__class__"))) && (decide (PySem.W.mroIn K (He.ga K "BadText") (.type "object") = some true) && (decide (PySem.W.kitOne K (.ref (He.ga K "BadText")) (.ref (He.ga K "BadRow")) = some false) && (decide (PySem.W.kitOne K (.ref (He.ga K "BadText")) (.ref (He.ga K "BadNumber")) = some false) && (decide (PySem.W.kitOne K (.ref (He.ga K "BadText")) (.ref (He.ga K "BadCuts")) = some false) && (decide (PySem.W.kitOne K (.ref (He.ga K "BadText")) (.ref (He.ga K "BadText")) = some true) && (decide (PySem.W.kitOne K (.ref (He.ga K "BadText")) (.type "ValueError") = some true)))))))))))))))))))))))))))))))))))))))))))))))))))))))))))))))))
abbrev hk : PySem.W.Hook := He.hookX 5 fa fn [] [] ex
def ob (s : PySem.W.SharedT) : He.AlX := He.obsX 5 fa fn [] [] ex (HandSHeadRun.getT s)
theorem ob_eq (s : PySem.W.SharedT) : ob s = hk.obs s.abs := He.obsX_eq (HandSHeadRun.getT_eq s)
def loose : List PySem.Str := (["CutError", "BadRow", "BadNumber", "BadCuts", "BadText", "GREATEST", "LONGEST", "is_whole", "check_row", "are_cuts", "check_cuts", "FIGURES", "written", "number_in", "read", "_law_cell_at", "_law_draw", "_law_row", "_law_numbers", "_law_rising"] : List PySem.Str) ++ (["_law_number", "_law_in", "_law_refused", "_law_right", "_law_few"] : List PySem.Str)
theorem run (w : PySem.World) : HandSHeadRun.RunEq R (PySem.W.view R.prog [29]) hk ob 4000 loose w := by
  intro os
  kernel_rfl
theorem tx_of {w : World} {h0 : Heap} {K : PySem.W.Frag} {h : Heap} {mg : Str → Option Value} (X : K.In h) (G : h.Ns mainGlobals mg) (c : He.SaysX fa fn [] [] ex w h0 K) : Tx K mg := by
  have e0 := c.more
  obtain ⟨x_o_sp, e1⟩ := He.ba e0
  obtain ⟨x_o_tk, e2⟩ := He.ba e1
  obtain ⟨x_sb_CutError, e3⟩ := He.ba e2
  obtain ⟨x_tt_CutError, e4⟩ := He.ba e3
  obtain ⟨x_hd_CutError, e5⟩ := He.ba e4
  obtain ⟨x_sb_BadRow, e6⟩ := He.ba e5
  obtain ⟨x_tt_BadRow, e7⟩ := He.ba e6
  obtain ⟨x_hd_BadRow, e8⟩ := He.ba e7
  obtain ⟨x_sb_BadNumber, e9⟩ := He.ba e8
  obtain ⟨x_tt_BadNumber, e10⟩ := He.ba e9
  obtain ⟨x_hd_BadNumber, e11⟩ := He.ba e10
  obtain ⟨x_sb_BadCuts, e12⟩ := He.ba e11
  obtain ⟨x_tt_BadCuts, e13⟩ := He.ba e12
  obtain ⟨x_hd_BadCuts, e14⟩ := He.ba e13
  obtain ⟨x_sb_BadText, e15⟩ := He.ba e14
  obtain ⟨x_tt_BadText, e16⟩ := He.ba e15
  obtain ⟨x_hd_BadText, e17⟩ := He.ba e16
  obtain ⟨x_xi_BadRow, e18⟩ := He.ba e17
  obtain ⟨x_kp_BadRow, e19⟩ := He.ba e18
  obtain ⟨x_cu_BadRow, e20⟩ := He.ba e19
  obtain ⟨x_hg_BadRow, e21⟩ := He.ba e20
  obtain ⟨x_hk_BadRow, e22⟩ := He.ba e21
  obtain ⟨x_ha_BadRow, e23⟩ := He.ba e22
  obtain ⟨x_hm_BadRow, e24⟩ := He.ba e23
  obtain ⟨x_kx_BadRow_BadRow, e25⟩ := He.ba e24
  obtain ⟨x_kx_BadRow_BadNumber, e26⟩ := He.ba e25
  obtain ⟨x_kx_BadRow_BadCuts, e27⟩ := He.ba e26
  obtain ⟨x_kx_BadRow_BadText, e28⟩ := He.ba e27
  obtain ⟨x_kv_BadRow, e29⟩ := He.ba e28
  obtain ⟨x_xi_BadNumber, e30⟩ := He.ba e29
  obtain ⟨x_kp_BadNumber, e31⟩ := He.ba e30
  obtain ⟨x_cu_BadNumber, e32⟩ := He.ba e31
  obtain ⟨x_hg_BadNumber, e33⟩ := He.ba e32
  obtain ⟨x_hk_BadNumber, e34⟩ := He.ba e33
  obtain ⟨x_ha_BadNumber, e35⟩ := He.ba e34
  obtain ⟨x_hm_BadNumber, e36⟩ := He.ba e35
  obtain ⟨x_kx_BadNumber_BadRow, e37⟩ := He.ba e36
  obtain ⟨x_kx_BadNumber_BadNumber, e38⟩ := He.ba e37
  obtain ⟨x_kx_BadNumber_BadCuts, e39⟩ := He.ba e38
  obtain ⟨x_kx_BadNumber_BadText, e40⟩ := He.ba e39
  obtain ⟨x_kv_BadNumber, e41⟩ := He.ba e40
  obtain ⟨x_xi_BadCuts, e42⟩ := He.ba e41
  obtain ⟨x_kp_BadCuts, e43⟩ := He.ba e42
  obtain ⟨x_cu_BadCuts, e44⟩ := He.ba e43
  obtain ⟨x_hg_BadCuts, e45⟩ := He.ba e44
  obtain ⟨x_hk_BadCuts, e46⟩ := He.ba e45
  obtain ⟨x_ha_BadCuts, e47⟩ := He.ba e46
  obtain ⟨x_hm_BadCuts, e48⟩ := He.ba e47
  obtain ⟨x_kx_BadCuts_BadRow, e49⟩ := He.ba e48
  obtain ⟨x_kx_BadCuts_BadNumber, e50⟩ := He.ba e49
  obtain ⟨x_kx_BadCuts_BadCuts, e51⟩ := He.ba e50
  obtain ⟨x_kx_BadCuts_BadText, e52⟩ := He.ba e51
  obtain ⟨x_kv_BadCuts, e53⟩ := He.ba e52
  obtain ⟨x_xi_BadText, e54⟩ := He.ba e53
  obtain ⟨x_kp_BadText, e55⟩ := He.ba e54
  obtain ⟨x_cu_BadText, e56⟩ := He.ba e55
  obtain ⟨x_hg_BadText, e57⟩ := He.ba e56
  obtain ⟨x_hk_BadText, e58⟩ := He.ba e57
  obtain ⟨x_ha_BadText, e59⟩ := He.ba e58
  obtain ⟨x_hm_BadText, e60⟩ := He.ba e59
  obtain ⟨x_kx_BadText_BadRow, e61⟩ := He.ba e60
  obtain ⟨x_kx_BadText_BadNumber, e62⟩ := He.ba e61
  obtain ⟨x_kx_BadText_BadCuts, e63⟩ := He.ba e62
  obtain ⟨x_kx_BadText_BadText, e64⟩ := He.ba e63
  have x_kv_BadText := e64
  exact {
    d_is_whole := c.t.d.defs (d := d_is_whole) (by simp [fn])
    d_check_row := c.t.d.defs (d := d_check_row) (by simp [fn])
    d_are_cuts := c.t.d.defs (d := d_are_cuts) (by simp [fn])
    d_check_cuts := c.t.d.defs (d := d_check_cuts) (by simp [fn])
    d_written := c.t.d.defs (d := d_written) (by simp [fn])
    d_number_in := c.t.d.defs (d := d_number_in) (by simp [fn])
    d_read := c.t.d.defs (d := d_read) (by simp [fn])
    d__law_cell_at := c.t.d.defs (d := d__law_cell_at) (by simp [fn])
    d__law_draw := c.t.d.defs (d := d__law_draw) (by simp [fn])
    d__law_row := c.t.d.defs (d := d__law_row) (by simp [fn])
    d__law_numbers := c.t.d.defs (d := d__law_numbers) (by simp [fn])
    d__law_rising := c.t.d.defs (d := d__law_rising) (by simp [fn])
    d__law_number := c.t.d.defs (d := d__law_number) (by simp [fn])
    d__law_in := c.t.d.defs (d := d__law_in) (by simp [fn])
    d__law_refused := c.t.d.defs (d := d__law_refused) (by simp [fn])
    d__law_right := c.t.d.defs (d := d__law_right) (by simp [fn])
    d__law_few := c.t.d.defs (d := d__law_few) (by simp [fn])
    d_law := c.t.d.defs (d := d_law) (by simp [fn])
    g_CutError := He.glo_ok X G (c.t.d.fact 0 (f := .glo "CutError") (by rfl))
    g_BadRow := He.glo_ok X G (c.t.d.fact 1 (f := .glo "BadRow") (by rfl))
    g_BadNumber := He.glo_ok X G (c.t.d.fact 2 (f := .glo "BadNumber") (by rfl))
    g_BadCuts := He.glo_ok X G (c.t.d.fact 3 (f := .glo "BadCuts") (by rfl))
    g_BadText := He.glo_ok X G (c.t.d.fact 4 (f := .glo "BadText") (by rfl))
    c_GREATEST := He.int_ok X G (c.t.d.fact 5 (f := .int "GREATEST" 1000000) (by rfl))
    c_LONGEST := He.int_ok X G (c.t.d.fact 6 (f := .int "LONGEST" 1000000) (by rfl))
    g_is_whole := He.glo_ok X G (c.t.d.fact 7 (f := .glo "is_whole") (by rfl))
    g_check_row := He.glo_ok X G (c.t.d.fact 8 (f := .glo "check_row") (by rfl))
    g_are_cuts := He.glo_ok X G (c.t.d.fact 9 (f := .glo "are_cuts") (by rfl))
    g_check_cuts := He.glo_ok X G (c.t.d.fact 10 (f := .glo "check_cuts") (by rfl))
    c_FIGURES := He.str_ok X G (c.t.d.fact 11 (f := .str "FIGURES" "0123456789") (by rfl))
    g_written := He.glo_ok X G (c.t.d.fact 12 (f := .glo "written") (by rfl))
    g_number_in := He.glo_ok X G (c.t.d.fact 13 (f := .glo "number_in") (by rfl))
    g_read := He.glo_ok X G (c.t.d.fact 14 (f := .glo "read") (by rfl))
    g__law_cell_at := He.glo_ok X G (c.t.d.fact 15 (f := .glo "_law_cell_at") (by rfl))
    g__law_draw := He.glo_ok X G (c.t.d.fact 16 (f := .glo "_law_draw") (by rfl))
    g__law_row := He.glo_ok X G (c.t.d.fact 17 (f := .glo "_law_row") (by rfl))
    g__law_numbers := He.glo_ok X G (c.t.d.fact 18 (f := .glo "_law_numbers") (by rfl))
    g__law_rising := He.glo_ok X G (c.t.d.fact 19 (f := .glo "_law_rising") (by rfl))
    g__law_number := He.glo_ok X G (c.t.d.fact 20 (f := .glo "_law_number") (by rfl))
    g__law_in := He.glo_ok X G (c.t.d.fact 21 (f := .glo "_law_in") (by rfl))
    g__law_refused := He.glo_ok X G (c.t.d.fact 22 (f := .glo "_law_refused") (by rfl))
    g__law_right := He.glo_ok X G (c.t.d.fact 23 (f := .glo "_law_right") (by rfl))
    g__law_few := He.glo_ok X G (c.t.d.fact 24 (f := .glo "_law_few") (by rfl))
    g_law := He.glo_ok X G (c.t.d.fact 25 (f := .glo "law") (by rfl))
    z_ValueError := He.free_ok X G (c.t.d.fact 26 (f := .free "ValueError") (by rfl))
    z_all := He.free_ok X G (c.t.d.fact 27 (f := .free "all") (by rfl))
    z_any := He.free_ok X G (c.t.d.fact 28 (f := .free "any") (by rfl))
    z_bool := He.free_ok X G (c.t.d.fact 29 (f := .free "bool") (by rfl))
    z_int := He.free_ok X G (c.t.d.fact 30 (f := .free "int") (by rfl))
    z_isinstance := He.free_ok X G (c.t.d.fact 31 (f := .free "isinstance") (by rfl))
    z_len := He.free_ok X G (c.t.d.fact 32 (f := .free "len") (by rfl))
    z_list := He.free_ok X G (c.t.d.fact 33 (f := .free "list") (by rfl))
    z_range := He.free_ok X G (c.t.d.fact 34 (f := .free "range") (by rfl))
    z_str := He.free_ok X G (c.t.d.fact 35 (f := .free "str") (by rfl))
    z_tuple := He.free_ok X G (c.t.d.fact 36 (f := .free "tuple") (by rfl))
    o_sp := of_decide_eq_true x_o_sp
    o_tk := of_decide_eq_true x_o_tk
    sb_CutError := of_decide_eq_true x_sb_CutError
    tt_CutError := of_decide_eq_true x_tt_CutError
    hd_CutError := of_decide_eq_true x_hd_CutError
    sb_BadRow := of_decide_eq_true x_sb_BadRow
    tt_BadRow := of_decide_eq_true x_tt_BadRow
    hd_BadRow := of_decide_eq_true x_hd_BadRow
    sb_BadNumber := of_decide_eq_true x_sb_BadNumber
    tt_BadNumber := of_decide_eq_true x_tt_BadNumber
    hd_BadNumber := of_decide_eq_true x_hd_BadNumber
    sb_BadCuts := of_decide_eq_true x_sb_BadCuts
    tt_BadCuts := of_decide_eq_true x_tt_BadCuts
    hd_BadCuts := of_decide_eq_true x_hd_BadCuts
    sb_BadText := of_decide_eq_true x_sb_BadText
    tt_BadText := of_decide_eq_true x_tt_BadText
    hd_BadText := of_decide_eq_true x_hd_BadText
    xi_BadRow := of_decide_eq_true x_xi_BadRow
    kp_BadRow := of_decide_eq_true x_kp_BadRow
    cu_BadRow := of_decide_eq_true x_cu_BadRow
    hg_BadRow := of_decide_eq_true x_hg_BadRow
    hk_BadRow := of_decide_eq_true x_hk_BadRow
    ha_BadRow := of_decide_eq_true x_ha_BadRow
    hm_BadRow := of_decide_eq_true x_hm_BadRow
    kx_BadRow_BadRow := of_decide_eq_true x_kx_BadRow_BadRow
    kx_BadRow_BadNumber := of_decide_eq_true x_kx_BadRow_BadNumber
    kx_BadRow_BadCuts := of_decide_eq_true x_kx_BadRow_BadCuts
    kx_BadRow_BadText := of_decide_eq_true x_kx_BadRow_BadText
    kv_BadRow := of_decide_eq_true x_kv_BadRow
    xi_BadNumber := of_decide_eq_true x_xi_BadNumber
    kp_BadNumber := of_decide_eq_true x_kp_BadNumber
    cu_BadNumber := of_decide_eq_true x_cu_BadNumber
    hg_BadNumber := of_decide_eq_true x_hg_BadNumber
    hk_BadNumber := of_decide_eq_true x_hk_BadNumber
    ha_BadNumber := of_decide_eq_true x_ha_BadNumber
    hm_BadNumber := of_decide_eq_true x_hm_BadNumber
    kx_BadNumber_BadRow := of_decide_eq_true x_kx_BadNumber_BadRow
    kx_BadNumber_BadNumber := of_decide_eq_true x_kx_BadNumber_BadNumber
    kx_BadNumber_BadCuts := of_decide_eq_true x_kx_BadNumber_BadCuts
    kx_BadNumber_BadText := of_decide_eq_true x_kx_BadNumber_BadText
    kv_BadNumber := of_decide_eq_true x_kv_BadNumber
    xi_BadCuts := of_decide_eq_true x_xi_BadCuts
    kp_BadCuts := of_decide_eq_true x_kp_BadCuts
    cu_BadCuts := of_decide_eq_true x_cu_BadCuts
    hg_BadCuts := of_decide_eq_true x_hg_BadCuts
    hk_BadCuts := of_decide_eq_true x_hk_BadCuts
    ha_BadCuts := of_decide_eq_true x_ha_BadCuts
    hm_BadCuts := of_decide_eq_true x_hm_BadCuts
    kx_BadCuts_BadRow := of_decide_eq_true x_kx_BadCuts_BadRow
    kx_BadCuts_BadNumber := of_decide_eq_true x_kx_BadCuts_BadNumber
    kx_BadCuts_BadCuts := of_decide_eq_true x_kx_BadCuts_BadCuts
    kx_BadCuts_BadText := of_decide_eq_true x_kx_BadCuts_BadText
    kv_BadCuts := of_decide_eq_true x_kv_BadCuts
    xi_BadText := of_decide_eq_true x_xi_BadText
    kp_BadText := of_decide_eq_true x_kp_BadText
    cu_BadText := of_decide_eq_true x_cu_BadText
    hg_BadText := of_decide_eq_true x_hg_BadText
    hk_BadText := of_decide_eq_true x_hk_BadText
    ha_BadText := of_decide_eq_true x_ha_BadText
    hm_BadText := of_decide_eq_true x_hm_BadText
    kx_BadText_BadRow := of_decide_eq_true x_kx_BadText_BadRow
    kx_BadText_BadNumber := of_decide_eq_true x_kx_BadText_BadNumber
    kx_BadText_BadCuts := of_decide_eq_true x_kx_BadText_BadCuts
    kx_BadText_BadText := of_decide_eq_true x_kx_BadText_BadText
    kv_BadText := of_decide_eq_true x_kv_BadText
  }
set_option maxHeartbeats 4000000
end Ct
namespace Ct
open PySem PySem.Spec PyProof.Rows L2 Evl
open He (ga ma)
theorem facts {P : Program} {w : World} {K : PySem.W.Frag} {h h0 : Heap} {mg : Str → Option Value} {f : Addr} (X : K.In h) (G : h.Ns mainGlobals mg) (hfa : mg ("law" : Str) = some (.ref f)) (c : He.SaysX fa fn [] [] ex w h0 K) :
    ∃ fd : FuncData, (∀ (s : Shared) (v : Value), BindsTo s fd ⟨[v], []⟩ [("_law_script", v)]) ∧ ∀ base : Heap, K.In base → base.Ns mainGlobals mg → FnOk P w K mg base CX0 6 f fd ["_law_script"] (sp_law K) := by
  have T := tx_of X G c
  have e := hfa.symm.trans T.g_law
  cases e
  obtain ⟨fd, F⟩ := T.d_law
  have b := FunD.bindsA (ps := ["_law_script"]) F fun _ _ _ _ _ _ us hl => match us, hl with | [_], _ => rfl
  exact ⟨fd, fun s v => b s [v] rfl, fun base _ _ => ok_law T F⟩
end Ct
open PySem PySem.W PySem.Calls PyProof.Rows
set_option maxHeartbeats 0
theorem PySem.Challenge.cw_cutrow_k06_written_holds : PySem.Challenge.rw_cutrow_k06_written.Holds := by
  w_on; o_law
  refine HandSHeadRun.head_any (r := OpenLaw.row PySem.Challenge.rw_cutrow_k06_written) (q := view (OpenLaw.row PySem.Challenge.rw_cutrow_k06_written).prog [29]) (H := Ct.hk) (ob := Ct.ob) (M := 4000) (loose := Ct.loose) (d := HandSHeadRun.topDef (OpenLaw.row PySem.Challenge.rw_cutrow_k06_written).prog 29) (kwd := []) Ct.ob_eq
    (by kernel_rfl) (fun s => by kernel_rfl) Ct.run (by kernel_rfl) (by kernel_rfl) (by kernel_rfl) (by rfl) (by first | assumption | decide +kernel) (by decide +kernel) ⟨rfl, rfl, rfl, rfl, rfl, by decide +kernel⟩ ?hw ?hc
  case hw => w_witness2
  case hc =>
    refine L2.walk_ofE (l := PySem.Challenge.rw_cutrow_k06_written) (n := 63) (k := 6) (x := "_law_script") (CX := L2.CX0) rfl (by decide) (by kernel_rfl) ⟨rfl, by decide, by decide⟩ ?F (fun _ _ _ _ z => z)
    intro w mg fa h Y G hmg0
    obtain ⟨K, KX, c⟩ := Y
    have hmg : mg ("law" : PySem.Str) = some (.ref fa) := by
      have e : (HandSHeadRun.topDef (OpenLaw.row PySem.Challenge.rw_cutrow_k06_written).prog 29).name = ("law" : PySem.Str) := by kernel_rfl
      rw [← e]
      exact hmg0
    obtain ⟨fd, hb, hF⟩ := Ct.facts (P := (PySem.Challenge.rw_cutrow_k06_written).prog) (w := w) KX G hmg c
    exact ⟨K, fd, Ct.sp_law K, KX, hb, fun H a ns hl _ hS => ⟨a, ns, rfl, hS, hl, fun _ => rfl⟩, hF⟩

