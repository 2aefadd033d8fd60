import PyProof.Rows.All
import Wide.All
import OpenK.AllK
import Wide.FinOn
import HandS.ForMost
import HandS.ExcInit
import HandS.ExcIs
import HandS.IsInst
import HandS.Defaults
import HandS.Evl
import HandS.Wide
import HandS.WideBits
import HandS.MakeKw
import HandS.ExcValue
import KE.KExcIs
import HandS.NoneIn
import HandS.Walk
import PySem.Challenge.RW_deepstands_k30_refusals_by_hand
set_option Elab.async false
set_option linter.all false
set_option maxRecDepth 100000
set_option maxHeartbeats 4000000
/-! Exceptions of own classes as values: made with keywords too, their fields read, their classes asked. -/
namespace PySem
namespace XV
open PySem.W PySem.Calls PyProof.Rows PySem.HandSPX
section
variable {M : Model} {prog : Program} {w : World} {A : Around} {E : Value → Shared → Prop} {R : Result → Shared → Prop} {hp : Heap} {gs : Array GenState} {dw : Drawn} {tk : Nat} {os : OsState}
variable {nm q : Str} {C N : Addr} {bs bm tail : List Value} {hdct : Bool} {sn : List Str} {sub : List Value} {ab : Bool} {col : Option Bool} {dd : Option Addr} {k0 k1 k2 k3 k5 : Option Value} {B nId iId : String} {vs : List Value} {kw : List (Str × Value)}
theorem ckNew (F : ExcBaseFacts B nId iId tail) (hT : ∀ Y : String, bm.contains (.type Y) = tail.contains (.type Y)) {Q : Unit → Shared → Prop}
    (hC : hp.get? C = some (excClassObj nm q C N bs bm hdct sn sub ab col dd k0 k1 k2 k3 k5 nId)) (z : Q () ⟨hp, gs, dw, tk, os⟩) :
    wpAny M A (checkBuiltinCall nId ⟨.ref C :: vs, kw⟩) Q E ⟨hp, gs, dw, tk, os⟩ := by
  have c1 : (Value.ref C :: bm).contains (.type B) = true := by rw [List.contains_cons, hT, F.hasB, Bool.or_true]
  have c2 := F.noStar
  simp only [checkBuiltinCall, F.newKind, F.newSplit, F.newRow]
  repeat (first | refine wpAny_loadPart_at hC ?_ | (refine wpAny_isSubtype_exc hC ?_; rw [c1]) | refine wpAny_staticBase_exc hC ?_ | refine wpAny_madeBy_exc hC ?_ | simp only [bne_self_eq_false, Bool.false_eq_true, if_false] | wp_step)
  exact z
theorem newK (F : ExcBaseFacts B nId iId tail) (hT : ∀ Y : String, bm.contains (.type Y) = tail.contains (.type Y))
    (hC : hp.get? C = some (excClassObj nm q C N bs bm hdct sn sub ab col dd k0 k1 k2 k3 k5 nId)) (hl : vs.length ≤ sizeLine)
    (z : R (.ok (.ret (.ref (hp.objs.size + 1)))) ⟨(hp.push (kdv_tup vs)).push (excO C hp.objs.size), gs, dw, tk, os⟩) :
    codeAny (model prog w) A (.builtin nId ⟨.ref C :: vs, kw⟩) R ⟨hp, gs, dw, tk, os⟩ := by
  have c0 := F.ends
  have c1 : (Value.ref C :: bm).contains (.type B) = true := by rw [List.contains_cons, hT, F.hasB, Bool.or_true]
  have c2 : (Value.ref C :: bm).contains (.type "AttributeError") = false := by rw [List.contains_cons, hT, F.noAttr]; rfl
  have c3 : (Value.ref C :: bm).contains (.type "NameError") = false := by rw [List.contains_cons, hT, F.noName]; rfl
  refine codeAny_builtinAt F.entry ?_
  unfold Builtin.«BaseException.__new__»
  refine wpAt_bind ?_
  show wpAt _ _ _ (stack >>= _) _ _ _
  refine wpAt_bind (wpAt_stack fun p below => wpAt_of_wpAny ?_)
  wp_walk
  refine wpAt_of_wpAny ?_
  rw [F.owner]
  repeat (first | with_reducible refine wpAny_madeHere_exc F.canon hC ?_ | with_reducible refine wpAny_loadPart_at hC ?_ | (with_reducible refine wpAny_isSubtype_exc hC ?_; first | rw [c1] | rw [c2] | rw [c3]) | wp_step)
  show R _ _
  rw [Heap.size_push]
  exact z
theorem tcallK (F : ExcBaseFacts B nId iId tail) (hT : ∀ Y : String, bm.contains (.type Y) = tail.contains (.type Y)) {fI : Addr} {Q : Fin → Shared → Prop}
    (hC : hp.get? C = some (excClassObj nm q C N bs bm hdct sn sub ab col dd k0 k1 k2 k3 k5 nId))
    (hi : W.Looks (model prog w) hp (typeLookup (.ref C) "__init__") (some (.ref fI))) (hb : ∀ self, W.Looks (model prog w) hp (bindSpecial (.ref fI) self) (.ref fI, [self])) (hl : vs.length ≤ sizeLine)
    (z : codeAny (model prog w) A (.call (.ref fI) ⟨.ref (hp.objs.size + 1) :: vs, kw⟩)
      (fun r s' => match r with | .ok (.ret v) => v = .none ∧ Q (.done (.ret (.ref (hp.objs.size + 1)))) s' | .ok _ => False | .error e => E e s')
      ⟨(hp.push (kdv_tup vs)).push (excO C hp.objs.size), gs, dw, tk, os⟩) :
    wpAny (model prog w) A (Builtin.«type.__call__» ⟨.ref C :: vs, kw⟩) Q E ⟨hp, gs, dw, tk, os⟩ := by
  repeat (first | with_reducible refine wpAny_loadPart_at hC ?_ | with_reducible refine wpAny_madeBy_exc hC ?_ | wp_step)
  refine codeAny_call_builtin_code (Code.quiet_builtin _ F.quiet) (ckNew F hT hC ?_)
  refine newK F hT hC hl ?_
  show wpAny _ _ _ _ _ _
  have k : ∀ b o, hp.get? b = some o → ((hp.push (kdv_tup vs)).push (excO C hp.objs.size)).get? b = some o := fun b o e => Heap.get?_push_of_some _ (Heap.get?_push_of_some _ e)
  have hC1 := k _ _ hC
  have hg1 : ((hp.push (kdv_tup vs)).push (excO C hp.objs.size)).get? (hp.objs.size + 1) = some (excO C hp.objs.size) := by heap_get
  have c1 : (Value.ref C :: bm).contains (.ref C) = true := by simp
  have i1 := hi.keeps k
  have b1 := (hb (.ref (hp.objs.size + 1))).keeps k
  unfold isInstance
  repeat (first | with_reducible refine wpAny_loadPart_at hg1 ?_ | (with_reducible refine wpAny_isSubtype_exc hC1 ?_; rw [c1]) | wp_step)
  show wpAny _ _ (typeLookup (.ref C) _) _ _ _
  refine i1.at ?_
  refine wpAny_holding (wpAny_bind (b1.at ?_))
  refine wpAny_bind (wpAny_call (codeAny_mono z fun r s' y => ?_))
  rcases r with e | (v | _ | _ | _) <;> first | exact y | exact y.elim | skip
  obtain ⟨rfl, y⟩ := y
  first
    | exact wpAny_pure (wpAny_pure y)
    | (wp_walk; exact y)
theorem callK (F : ExcBaseFacts B nId iId tail) (hT : ∀ Y : String, bm.contains (.type Y) = tail.contains (.type Y)) {fI : Addr}
    (hC : hp.get? C = some (excClassObj nm q C N bs bm hdct sn sub ab col dd k0 k1 k2 k3 k5 nId))
    (hi : W.Looks (model prog w) hp (typeLookup (.ref C) "__init__") (some (.ref fI))) (hb : ∀ self, W.Looks (model prog w) hp (bindSpecial (.ref fI) self) (.ref fI, [self])) (hl : vs.length ≤ sizeLine)
    (z : codeAny (model prog w) (A.under (.builtin "type.__call__" ⟨.ref C :: vs, kw⟩)) (.call (.ref fI) ⟨.ref (hp.objs.size + 1) :: vs, kw⟩) (W.InitBack (hp.objs.size + 1) R)
      ⟨(hp.push (kdv_tup vs)).push (excO C hp.objs.size), gs, dw, tk, os⟩) :
    codeAny (model prog w) A (.call (.ref C) ⟨vs, kw⟩) R ⟨hp, gs, dw, tk, os⟩ := by
  have f1 := tc_lookup
  have f2 := tc_bind (.ref C)
  have ht : (⟨hp, gs, dw, tk, os⟩ : Shared).TypeIs (.ref C) "type" := ⟨_, hC, rfl⟩
  refine codeAny_of_tree ?_
  show wpAny _ _ (callAny (.ref C) _) _ _ _
  repeat (any_goals (first | assumption | with_reducible refine wpAny_loadPart_at hC ?_ | wp_step))
  refine ⟨rfl, ?_⟩
  refine codeAny_call_builtin_at (Code.quiet_builtin _ (by decide +kernel)) entry_typeCall (wpAny_check_type_call_sub hC (tcallK F hT hC hi hb hl ?_))
  refine codeAny_mono z fun r s' y => ?_
  rcases r with e | (v | _ | _ | _) <;> exact y
end
end XV
end PySem
set_option Elab.async false
set_option linter.all false
set_option maxRecDepth 100000
set_option maxHeartbeats 4000000
namespace XW
open PySem PySem.Spec PyProof.Rows L2
/-- C(e, .., k = v, ..) of an own exception class as a value; C's own __init__ keeps sp -/
def tExv (C : Addr) (n m : Nat) (sp : Sp) (gV : List V → List V → List V) (t u : TA) : TE := fun σ H Q => t σ H fun vs H1 => u σ H1 fun zs H2 => vs.length = n ∧ zs.length = m ∧ n ≤ 1000 ∧
  ∀ a, H2 a = none → sp (gV (.ref a :: vs) zs) (upd H2 a (exo a C none)) (fun v H3 => v = .non ∧ Q (.ref a) H3) E0
/-- what a class and its __init__ have -/
structure XC (K : PySem.W.Frag) (mg : Str → Option Value) (x : Str) (C fI : Addr) : Prop where
  ox : OexC K C
  gC : mg x = some (.ref C)
  iC : PySem.W.findIn K (.ref C) "__init__" = some (some (.ref fI))
  tI : PySem.W.typeIn K (.ref fI) = some (.type "function")
  ga : PySem.W.findIn K (.ref C) "__getattribute__" = some (some (.builtin "BaseException.__getattribute__"))
  gg : PySem.W.findIn K (.ref C) "__getattr__" = some none
  hd : PySem.W.hasDictIn K C = true
section
variable {X : Cx} {CX : CXT} {k n : Nat} {fI C : Addr} {fd : FuncData} {ps ks : List Str} {sp : Sp} {x : Str} {p pos : Pos} {e : Expr} {es : List Expr} {kws : List Keyword} {t u : TA} {g : List Value → List Value → List Value} {gV : List V → List V → List V}
theorem run_exv {pins : List (Addr × Obj)} {σ : L2.St} {H : Hp} {s : Shared} {Q : VK} {us ws : List Value} {vs zs : List V} (T : XC X.K X.mg x C fI) (F1 : FnOk X.prog X.w X.K X.mg X.base CX k fI fd ps sp) (hr : Room (k + 1) X.A) (hb : KBn X.K fd ps (n + 1) ks g gV)
    (hx : Passes CX X E0) (I : Inv X pins σ H s) (r : Vals vs us) (rz : Vals zs ws) (l1 : vs.length = n) (l2 : zs.length = ks.length) (hz : n ≤ 1000)
    (h : ∀ a, H a = none → sp (gV (.ref a :: vs) zs) (upd H a (exo a C none)) (fun v H3 => v = .non ∧ Q (.ref a) H3) E0) :
    wpAny (model X.prog X.w) X.A (call (.ref C) us (ks.zip ws)) (EP X pins σ Q) X.xe s := by
  obtain ⟨nm, q, N, bs, bm, sn, sub, ab, col, dd, k0, k1, k2, k3, k5, hC, hbm⟩ := T.ox.cls
  obtain ⟨hp, gs, dr, tk, os⟩ := s
  have hsz : hp.objs.size ≤ hp.objs.size + 1 := Nat.le_succ _
  have hn : H (hp.objs.size + 1) = none := I.hok.fresh hsz
  have hq := h (hp.objs.size + 1) hn
  have kk : ∀ b o, hp.get? b = some o → ((hp.push (PySem.W.kdv_tup us)).push (PySem.HandSPX.excO C hp.objs.size)).get? b = some o := fun b o e => Heap.get?_push_of_some _ (Heap.get?_push_of_some _ e)
  have hget : ((hp.push (PySem.W.kdv_tup us)).push (PySem.HandSPX.excO C hp.objs.size)).get? (hp.objs.size + 1) = some (PySem.HandSPX.excO C hp.objs.size) := by heap_get
  have I2 : Inv X pins σ (upd H (hp.objs.size + 1) (exo (hp.objs.size + 1) C none)) ⟨(hp.push (PySem.W.kdv_tup us)).push (PySem.HandSPX.excO C hp.objs.size), gs, dr, tk, os⟩ :=
    I.laid (t' := tk) (a := hp.objs.size + 1) (o := exo (hp.objs.size + 1) C none) (h' := (hp.push (PySem.W.kdv_tup us)).push (PySem.HandSPX.excO C hp.objs.size)) kk hsz (exo_ok hget)
  have r1 : Vals (V.ref (hp.objs.size + 1) :: vs) (Value.ref (hp.objs.size + 1) :: us) := .cons rfl r
  have r2 := hb.rel r1 rz
  have n1 : (Value.ref (hp.objs.size + 1) :: us).length = n + 1 := by
    rw [List.length_cons, ← r.length, l1]
  have hus : us.length ≤ sizeLine := by
    rw [← r.length, l1, sizeLine_eq]
    omega
  refine wpAny_call (PySem.XV.callK F.excBase_ValueError (fun Y => PySem.HandSPX.refsVE_contains Y bm hbm) (I.kIn _ _ hC) (PySem.W.looks_findIn I.kIn T.iC) (fun self => PySem.W.bind_fn I.kIn self T.tI) hus
    (codeAny_mono (F1.run _ X.stack _ _ ⟨Value.ref (hp.objs.size + 1) :: us, ks.zip ws⟩ (g (Value.ref (hp.objs.size + 1) :: us) ws) _ _ E0 (hr.make C us (ks.zip ws)) (I2.env0.make C us (ks.zip ws))
      (hb.to _ (Value.ref (hp.objs.size + 1) :: us) ws I2.kIn n1 (rz.length.symm.trans l2)) r2 hq) fun r s' hq' => ?_))
  cases r with
  | error er => exact hx pins σ _ _ er s' I2 hq'
  | ok fl =>
    cases fl with
    | ret v =>
      obtain ⟨v', H', I3, rv, ev, q3⟩ := I2.after hq'
      subst ev
      exact ⟨rv, ⟨V.ref (hp.objs.size + 1), H', I3, rfl, q3⟩⟩
    | next => exact False.elim hq'
    | brk => exact False.elim hq'
    | cont => exact False.elim hq'
/-- C() -/
theorem pe_exv0 (T : XC X.K X.mg x C fI) (F1 : FnOk X.prog X.w X.K X.mg X.base CX k fI fd ps sp) (hr : Room (k + 1) X.A) (hb : KBn X.K fd ps 1 [] g gV) (hx : Passes CX X E0) (hg : Gl X x) (hdb : (x == ("__debug__" : Str)) = false := by decide) :
    PE X (.Call (.Name x p) [] [] pos) (tExv C 0 0 sp gV tNil tNil) := by
  refine ⟨fun pins s σ H Q I h => ?_⟩
  refine wpAny_Call_Name_kw (ld_glob I hg T.gC ?_ hdb)
  obtain ⟨l1, l2, hz, q⟩ := h
  exact PySem.W.callWith_K0 I.kIn T.ox.kC (run_exv (us := []) (ws := []) (vs := []) (zs := []) T F1 hr hb hx I .nil .nil l1 l2 hz q)
/-- C(e, ..) -/
theorem pe_exv (T : XC X.K X.mg x C fI) (F1 : FnOk X.prog X.w X.K X.mg X.base CX k fI fd ps sp) (hr : Room (k + 1) X.A) (hb : KBn X.K fd ps (n + 1) [] g gV) (hx : Passes CX X E0) (hg : Gl X x) (ha : PA X (e :: es) t) (hdb : (x == ("__debug__" : Str)) = false := by decide)
    (he : starEach (e :: es) X.env = (false, eval e X.env) :: starEach es X.env := by rfl) (hpl : (backTo pos (starEach es X.env)).any (·.1) = false := by rfl) :
    PE X (.Call (.Name x p) (e :: es) [] pos) (tExv C n 0 sp gV t tNil) := by
  refine ⟨fun pins s σ H Q I h => ?_⟩
  refine wpAny_Call_Name_kw (ld_glob I hg T.gC ?_ hdb)
  refine PySem.W.callWith_K (h₀ := X.base) I.ok.mod.kin T.ox.kC (thn (ha.run pos pins s σ H _ I h) fun us s1 ⟨vs, H1, I1, r, l1, l2, hz, q⟩ => ⟨I1.kIn, ?_⟩) he hpl
  exact run_exv (ws := []) (zs := []) T F1 hr hb hx I1 r .nil l1 l2 hz q
/-- C(k = v, ..) -/
theorem pe_exvK0 (T : XC X.K X.mg x C fI) (F1 : FnOk X.prog X.w X.K X.mg X.base CX k fI fd ps sp) (hr : Room (k + 1) X.A) (hb : KBn X.K fd ps 1 ks g gV) (hx : Passes CX X E0) (hg : Gl X x) (hkw : PK X kws u)
    (hall : (backToKw pos (keywordEach kws X.env)).all (·.1.isSome) = true := by rfl) (hks : (backToKw pos (keywordEach kws X.env)).filterMap (·.1) = ks := by rfl) (hdb : (x == ("__debug__" : Str)) = false := by decide)
    (hpl : ((backTo pos (starEach [] X.env)).any (·.1) || (backToKw pos (keywordEach kws X.env)).any (·.1.isNone)) = false := by rfl) :
    PE X (.Call (.Name x p) [] kws pos) (tExv C 0 ks.length sp gV tNil u) := by
  refine ⟨fun pins s σ H Q I h => ?_⟩
  refine wpAny_Call_Name_kw (ld_glob I hg T.gC ?_ hdb)
  refine PySem.W.callWith_KW0 (h₀ := X.base) I.ok.mod.kin T.ox.kC hall ?_ hpl
  refine thn (hkw.run pos pins s σ H _ I h) fun ws s2 ⟨zs, H2, I2, rz, l1, l2, hz, q2⟩ => ⟨I2.kIn, ?_⟩
  rw [hks]
  exact run_exv (us := []) (vs := []) T F1 hr hb hx I2 .nil rz l1 l2 hz q2
/-- C(e, .., k = v, ..) -/
theorem pe_exvK (T : XC X.K X.mg x C fI) (F1 : FnOk X.prog X.w X.K X.mg X.base CX k fI fd ps sp) (hr : Room (k + 1) X.A) (hb : KBn X.K fd ps (n + 1) ks g gV) (hx : Passes CX X E0) (hg : Gl X x) (ha : PA X (e :: es) t) (hkw : PK X kws u)
    (hall : (backToKw pos (keywordEach kws X.env)).all (·.1.isSome) = true := by rfl) (hks : (backToKw pos (keywordEach kws X.env)).filterMap (·.1) = ks := by rfl) (hdb : (x == ("__debug__" : Str)) = false := by decide)
    (he : starEach (e :: es) X.env = (false, eval e X.env) :: starEach es X.env := by rfl) (hpl : ((backTo pos (starEach (e :: es) X.env)).any (·.1) || (backToKw pos (keywordEach kws X.env)).any (·.1.isNone)) = false := by rfl) :
    PE X (.Call (.Name x p) (e :: es) kws pos) (tExv C n ks.length sp gV t u) := by
  refine ⟨fun pins s σ H Q I h => ?_⟩
  refine wpAny_Call_Name_kw (ld_glob I hg T.gC ?_ hdb)
  refine PySem.W.callWith_KW (h₀ := X.base) I.ok.mod.kin T.ox.kC hall (thn (ha.run pos pins s σ H _ I h) fun us s1 ⟨vs, H1, I1, r, q⟩ => ?_) hpl he
  refine thn (hkw.run pos pins s1 σ H1 _ I1 q) fun ws s2 ⟨zs, H2, I2, rz, l1, l2, hz, q2⟩ => ⟨I2.kIn, ?_⟩
  rw [hks]
  exact run_exv T F1 hr hb hx I2 r rz l1 l2 hz q2
/-- o.f, o an exception object of ours -/
def tExf (K : PySem.W.Frag) (mg : Str → Option Value) (f : Str) (to : TE) : TE := fun σ H Q => to σ H fun y H1 => ∃ (a C fI d : Addr) (x : Str) (fs : List (Str × V)) (v : V), y = .ref a ∧ XC K mg x C fI ∧ PySem.W.findIn K (.ref C) f = some none ∧
  H1 a = some (exo a C (some d)) ∧ H1 d = some (exd d fs) ∧ fs.lookup f = some v ∧ Q v H1
theorem pe_exf {o : Expr} {to : TE} {f : Str} (ho : PE X o to) (hb : attributeBase o f X.env (eval o X.env) = eval o X.env := by rfl) : PE X (.Attribute o f pos) (tExf X.K X.mg f to) := by
  refine ⟨fun pins s σ H Q I h => ?_⟩
  refine attr_of hb (thn (ho.run pins s σ H _ I h) fun u s1 hh => ?_)
  obtain ⟨y, H1, I1, ry, a, C, fI, d, x, fs, v, ey, T, hno, ea, ed, hl, q⟩ := hh
  subst ey
  obtain rfl : u = Value.ref a := ry
  obtain ⟨t1, ho1⟩ := exo_at I1.hok ea
  obtain ⟨mA, hns, hrel⟩ := exd_at I1.hok ed
  obtain ⟨od, hod, hlk⟩ := lookIn_ns hns
  obtain ⟨u, hu, ru⟩ := RelO.some_of (v := v) (o := mA f) (by rw [← hl]; exact hrel f)
  have J : PySem.W.InstAt s1.heap a _ C (some od) := ⟨ho1, rfl, rfl, hod⟩
  exact HandSPX.exc_get I1.kIn J T.ga T.gg T.ox.exC (PySem.W.findObj_own T.hd hno rfl (by rw [hlk, hu])) (handed_of ru) ⟨v, H1, I1.tok _, ru, q⟩
end
end XW
set_option Elab.async false
set_option linter.all false
set_option maxRecDepth 100000
set_option maxHeartbeats 4000000
namespace XW
open PySem PySem.Spec PyProof.Rows L2
/-- what isinstance asks of the class of an exception object -/
structure XK (K : PySem.W.Frag) (C : Addr) : Prop where
  cl : (PySem.W.clsIn K C).isSome = true
  ga : PySem.W.findIn K (.ref C) "__getattribute__" = some (some (.builtin "BaseException.__getattribute__"))
  gg : PySem.W.findIn K (.ref C) "__getattr__" = some none
  sb : PySem.W.subIn K (.ref C) (.type "BaseException") = some true
  ca : PySem.W.findIn K (.ref C) "__class__" = some (some (.builtin "object.__class__"))
  cg : PySem.W.specialIn K (.builtin "object.__class__") "__get__" = some (some (.builtin "getset_descriptor.__get__"))
  ct : PySem.W.takesIn K (.builtin "object.__class__") = some true
  mo : PySem.W.mroIn K C (.type "object") = some true
def rIsX (K : PySem.W.Frag) : List V → Hp → VK → Prop := fun xs H Q => ∃ (a C : Addr) (d : Option Addr) (fs : List (Str × V)) (c : V) (u : Value) (b : Bool), xs = [.ref a, c] ∧ ClsV c u ∧ H a = some (exo a C d) ∧ (∀ dd, d = some dd → H dd = some (exd dd fs)) ∧
  XK K C ∧ PySem.W.kitOne K (.ref C) u = some b ∧ Q (.bl b) H
section
variable {X : Cx}
theorem call_isX : CallR X (.builtin "isinstance") (rIsX X.K) := by
  intro pins s σ H xs us Q I r h
  obtain ⟨a, C, d, fs, c, u, b, rfl, k, ea, ed, T, e, q⟩ := h
  obtain ⟨u1, u2, rfl, r1, r2⟩ := vals2 r
  have e2 := k.eq r2
  subst e2
  cases (show u1 = Value.ref a from r1)
  obtain ⟨t1, ho⟩ := exo_at I.hok ea
  cases d with
  | none =>
    have J : PySem.W.InstAt s.heap a _ C none := ⟨ho, rfl, rfl, trivial⟩
    exact PySem.W.kia_one (PySem.W.kitx_exc T.cl T.ga T.gg T.sb T.ca T.cg T.ct T.mo) I.kIn J e (fun z => nomatch z) fun tk => ⟨.bl b, H, I.tok tk, rfl, q⟩
  | some dd =>
    obtain ⟨mA, hns, _⟩ := exd_at I.hok (ed dd rfl)
    obtain ⟨od, hod, _⟩ := lookIn_ns hns
    have J : PySem.W.InstAt s.heap a _ C (some od) := ⟨ho, rfl, rfl, hod⟩
    exact PySem.W.kia_one (PySem.W.kitx_exc T.cl T.ga T.gg T.sb T.ca T.cg T.ct T.mo) I.kIn J e (fun z => nomatch z) fun tk => ⟨.bl b, H, I.tok tk, rfl, q⟩
/-- X() of an own exception class that has no __init__ of its own -/
def tExb (C : Addr) : TE := fun _ H Q => ∀ a, H a = none → Q (.ref a) (upd H a (exo a C none))
theorem pe_exb {C : Addr} {tail : List Value} {B nId iId : String} {x : Str} {p pos : Pos} (F : ExcBaseFacts B nId iId tail) (q : PySem.W.excIn X.K C tail nId = true) (gC : X.mg x = some (.ref C)) (kC : PySem.W.keepIn X.K (.ref C) = true) (hg : Gl X x)
    (hdb : (x == ("__debug__" : Str)) = false := by decide) : PE X (.Call (.Name x p) [] [] pos) (tExb C) := by
  refine ⟨fun pins s σ H Q I h => ?_⟩
  refine wpAny_Call_Name_kw (ld_glob I hg gC ?_ hdb)
  refine PySem.W.callWith_K0 I.kIn kC ?_
  show wpAny _ _ (call (.ref C) []) _ _ _
  obtain ⟨bm, N, nm, qn, bs, hdct, sn, sub, ab, col, dd, k0, k1, k2, k3, k5, mN, hC, hN, hni, T⟩ := exc_obj I.kIn q
  refine wpAny_call_exc_subT F T hC hN hni (fun h' a hm => ?_) (by show 0 ≤ sizeLine; exact Nat.zero_le _)
  have hn : H a = none := I.hok.gone hm.new
  obtain ⟨t, ht, _, _⟩ := hm.there
  exact ⟨.ref a, upd H a (exo a C none), I.laidN hm.keeps hm.new hn (exo_ok ht), rfl, h a hn⟩
end
end XW
set_option Elab.async false
set_option linter.all false
set_option maxRecDepth 100000
set_option maxHeartbeats 4000000
namespace K30
open PySem PySem.Spec PyProof.Rows L2 XW Evl
/-! ### data under a growing heap -/
mutual
theorem dp_ex {K : PySem.W.Frag} {H H' : Hp} (e : Ex H H') : ∀ (d : PyData) (v : V), Dp K H v d → Dp K H' v d
  | .none, _, h => by cases h; exact .non
  | .bool b, _, h => by cases h; exact .bl b
  | .int i, _, h => by cases h; exact .int i
  | .str x, _, h => by cases h; exact .str x
  | .list ds, _, h => by cases h with | lst s a => exact .lst (ex_l e s) (dpa_ex e ds _ a)
  | .tuple ds, _, h => by cases h with | tup s a => exact .tup (ex_t e s) (dpa_ex e ds _ a)
  | .dict _, _, h => nomatch h
theorem dpa_ex {K : PySem.W.Frag} {H H' : Hp} (e : Ex H H') : ∀ (ds : List PyData) (vs : List V), DpAll K H vs ds → DpAll K H' vs ds
  | [], _, h => by cases h; exact .nil
  | d :: ds, _, h => by cases h with | cons a b => exact .cons (dp_ex e d _ a) (dpa_ex e ds _ b)
end
/-! ### __init__ of the classes with fields -/
/-- what C's own __init__(self, f) does -/
def spI1 (K : PySem.W.Frag) (f : Str) : Sp := fun vs H Q _ => ∃ (a C : Addr) (v : V), vs = [.ref a, v] ∧ OexC K C ∧ PySem.W.findIn K (.ref C) f = some none ∧ H a = some (exo a C none) ∧
  ∀ dx, H dx = none → dx ≠ a → Q .non (upd (upd H dx (exd dx [(f, v)])) a (exo a C (some dx)))
def spI2 (K : PySem.W.Frag) (f g : Str) : Sp := fun vs H Q _ => ∃ (a C : Addr) (v u : V), vs = [.ref a, v, u] ∧ OexC K C ∧ PySem.W.findIn K (.ref C) f = some none ∧ PySem.W.findIn K (.ref C) g = some none ∧ H a = some (exo a C none) ∧
  ∀ dx, H dx = none → dx ≠ a → Q .non (upd (upd (upd H dx (exd dx [(f, v)])) a (exo a C (some dx))) dx (exd dx [(g, u), (f, v)]))
/-- a class with its __init__: their places, the defaults -/
structure Cl where
  C : Addr
  fI : Addr
  fd : FuncData
  d1 : V
  d2 : V
structure IN1 (P : Program) (w : World) (K : PySem.W.Frag) (mg : Str → Option Value) (base : Heap) (x f : Str) (c : Cl) : Prop where
  xc : XC K mg x c.C c.fI
  xk : XK K c.C
  no : PySem.W.findIn K (.ref c.C) f = some none
  G : FnOk P w K mg base CX0 1 c.fI c.fd ["self", f] (spI1 K f)
  B0 : ∃ g, KBn K c.fd ["self", f] 1 [] g (fun vs _ => vs ++ [c.d1])
  B1 : ∃ g, KBn K c.fd ["self", f] 2 [] g (fun vs _ => vs)
  Bk : ∃ g, KBn K c.fd ["self", f] 1 [f] g (fun vs zs => vs ++ zs)
structure IN2 (P : Program) (w : World) (K : PySem.W.Frag) (mg : Str → Option Value) (base : Heap) (x f g : Str) (c : Cl) : Prop where
  xc : XC K mg x c.C c.fI
  xk : XK K c.C
  no : PySem.W.findIn K (.ref c.C) f = some none
  no2 : PySem.W.findIn K (.ref c.C) g = some none
  ne : (f == g) = false
  G : FnOk P w K mg base CX0 1 c.fI c.fd ["self", f, g] (spI2 K f g)
  B0 : ∃ b, KBn K c.fd ["self", f, g] 1 [] b (fun vs _ => vs ++ [c.d1, c.d2])
  B1 : ∃ b, KBn K c.fd ["self", f, g] 2 [] b (fun vs _ => vs ++ [c.d2])
  B2 : ∃ b, KBn K c.fd ["self", f, g] 3 [] b (fun vs _ => vs)
  Bkr : ∃ b, KBn K c.fd ["self", f, g] 1 [g, f] b (fun vs zs => vs ++ zs.reverse)
  Bk2 : ∃ b, KBn K c.fd ["self", f, g] 1 [g] b (fun vs zs => vs ++ (c.d1 :: zs))
  B1k : ∃ b, KBn K c.fd ["self", f, g] 2 [g] b (fun vs zs => vs ++ zs)
section
variable {X : Cx} {x f g : Str} {c : Cl} {p pos p1 p2 : Pos} {e e' : Expr} {t u : TA} {te te' : TE}
theorem mk0 (T : IN1 X.prog X.w X.K X.mg X.base x f c) (hr : Room 2 X.A) (hg : Gl X x) (hdb : (x == ("__debug__" : Str)) = false := by decide) : PE X (.Call (.Name x p) [] [] pos) (tExv c.C 0 0 (spI1 X.K f) (fun vs _ => vs ++ [c.d1]) tNil tNil) := by
  obtain ⟨g, b⟩ := T.B0
  exact pe_exv0 T.xc T.G hr b pass0 hg hdb
theorem mk1 (T : IN1 X.prog X.w X.K X.mg X.base x f c) (hr : Room 2 X.A) (hg : Gl X x) (ha : PA X [e] t) (hdb : (x == ("__debug__" : Str)) = false := by decide)
    (he : starEach [e] X.env = (false, eval e X.env) :: starEach [] X.env := by rfl) : PE X (.Call (.Name x p) [e] [] pos) (tExv c.C 1 0 (spI1 X.K f) (fun vs _ => vs) t tNil) := by
  obtain ⟨g, b⟩ := T.B1
  exact pe_exv T.xc T.G hr b pass0 hg ha hdb he
theorem mkK (T : IN1 X.prog X.w X.K X.mg X.base x f c) (hr : Room 2 X.A) (hg : Gl X x) (ha : PK X [⟨some f, e, p1⟩] u) (hdb : (x == ("__debug__" : Str)) = false := by decide)
    (hall : (backToKw pos (keywordEach [⟨some f, e, p1⟩] X.env)).all (·.1.isSome) = true := by rfl) (hks : (backToKw pos (keywordEach [⟨some f, e, p1⟩] X.env)).filterMap (·.1) = [f] := by rfl)
    (hpl : ((backTo pos (starEach [] X.env)).any (·.1) || (backToKw pos (keywordEach [⟨some f, e, p1⟩] X.env)).any (·.1.isNone)) = false := by rfl) :
    PE X (.Call (.Name x p) [] [⟨some f, e, p1⟩] pos) (tExv c.C 0 1 (spI1 X.K f) (fun vs zs => vs ++ zs) tNil u) := by
  obtain ⟨g, b⟩ := T.Bk
  exact pe_exvK0 T.xc T.G hr b pass0 hg ha hall hks hdb hpl
theorem nk0 (T : IN2 X.prog X.w X.K X.mg X.base x f g c) (hr : Room 2 X.A) (hg : Gl X x) (hdb : (x == ("__debug__" : Str)) = false := by decide) : PE X (.Call (.Name x p) [] [] pos) (tExv c.C 0 0 (spI2 X.K f g) (fun vs _ => vs ++ [c.d1, c.d2]) tNil tNil) := by
  obtain ⟨g, b⟩ := T.B0
  exact pe_exv0 T.xc T.G hr b pass0 hg hdb
theorem nk1 (T : IN2 X.prog X.w X.K X.mg X.base x f g c) (hr : Room 2 X.A) (hg : Gl X x) (ha : PA X [e] t) (hdb : (x == ("__debug__" : Str)) = false := by decide)
    (he : starEach [e] X.env = (false, eval e X.env) :: starEach [] X.env := by rfl) : PE X (.Call (.Name x p) [e] [] pos) (tExv c.C 1 0 (spI2 X.K f g) (fun vs _ => vs ++ [c.d2]) t tNil) := by
  obtain ⟨g, b⟩ := T.B1
  exact pe_exv T.xc T.G hr b pass0 hg ha hdb he
theorem nk2 (T : IN2 X.prog X.w X.K X.mg X.base x f g c) (hr : Room 2 X.A) (hg : Gl X x) (ha : PA X [e, e'] t) (hdb : (x == ("__debug__" : Str)) = false := by decide)
    (he : starEach [e, e'] X.env = (false, eval e X.env) :: starEach [e'] X.env := by rfl) (hpl : (backTo pos (starEach [e'] X.env)).any (·.1) = false := by rfl) :
    PE X (.Call (.Name x p) [e, e'] [] pos) (tExv c.C 2 0 (spI2 X.K f g) (fun vs _ => vs) t tNil) := by
  obtain ⟨g, b⟩ := T.B2
  exact pe_exv T.xc T.G hr b pass0 hg ha hdb he hpl
theorem nkR (T : IN2 X.prog X.w X.K X.mg X.base x f g c) (hr : Room 2 X.A) (hg : Gl X x) (ha : PK X [⟨some g, e, p1⟩, ⟨some f, e', p2⟩] u) (hdb : (x == ("__debug__" : Str)) = false := by decide)
    (hall : (backToKw pos (keywordEach [⟨some g, e, p1⟩, ⟨some f, e', p2⟩] X.env)).all (·.1.isSome) = true := by rfl) (hks : (backToKw pos (keywordEach [⟨some g, e, p1⟩, ⟨some f, e', p2⟩] X.env)).filterMap (·.1) = [g, f] := by rfl)
    (hpl : ((backTo pos (starEach [] X.env)).any (·.1) || (backToKw pos (keywordEach [⟨some g, e, p1⟩, ⟨some f, e', p2⟩] X.env)).any (·.1.isNone)) = false := by rfl) :
    PE X (.Call (.Name x p) [] [⟨some g, e, p1⟩, ⟨some f, e', p2⟩] pos) (tExv c.C 0 2 (spI2 X.K f g) (fun vs zs => vs ++ zs.reverse) tNil u) := by
  obtain ⟨b, hb⟩ := T.Bkr
  exact pe_exvK0 T.xc T.G hr hb pass0 hg ha hall hks hdb hpl
theorem nkS (T : IN2 X.prog X.w X.K X.mg X.base x f g c) (hr : Room 2 X.A) (hg : Gl X x) (ha : PK X [⟨some g, e, p1⟩] u) (hdb : (x == ("__debug__" : Str)) = false := by decide)
    (hall : (backToKw pos (keywordEach [⟨some g, e, p1⟩] X.env)).all (·.1.isSome) = true := by rfl) (hks : (backToKw pos (keywordEach [⟨some g, e, p1⟩] X.env)).filterMap (·.1) = [g] := by rfl)
    (hpl : ((backTo pos (starEach [] X.env)).any (·.1) || (backToKw pos (keywordEach [⟨some g, e, p1⟩] X.env)).any (·.1.isNone)) = false := by rfl) :
    PE X (.Call (.Name x p) [] [⟨some g, e, p1⟩] pos) (tExv c.C 0 1 (spI2 X.K f g) (fun vs zs => vs ++ (c.d1 :: zs)) tNil u) := by
  obtain ⟨b, hb⟩ := T.Bk2
  exact pe_exvK0 T.xc T.G hr hb pass0 hg ha hall hks hdb hpl
theorem nkM (T : IN2 X.prog X.w X.K X.mg X.base x f g c) (hr : Room 2 X.A) (hg : Gl X x) (ht : PA X [e'] t) (ha : PK X [⟨some g, e, p1⟩] u) (hdb : (x == ("__debug__" : Str)) = false := by decide)
    (hall : (backToKw pos (keywordEach [⟨some g, e, p1⟩] X.env)).all (·.1.isSome) = true := by rfl) (hks : (backToKw pos (keywordEach [⟨some g, e, p1⟩] X.env)).filterMap (·.1) = [g] := by rfl)
    (he : starEach [e'] X.env = (false, eval e' X.env) :: starEach [] X.env := by rfl) (hpl : ((backTo pos (starEach [e'] X.env)).any (·.1) || (backToKw pos (keywordEach [⟨some g, e, p1⟩] X.env)).any (·.1.isNone)) = false := by rfl) :
    PE X (.Call (.Name x p) [e'] [⟨some g, e, p1⟩] pos) (tExv c.C 1 1 (spI2 X.K f g) (fun vs zs => vs ++ zs) t u) := by
  obtain ⟨b, hb⟩ := T.B1k
  exact pe_exvK T.xc T.G hr hb pass0 hg ht ha hall hks hdb he hpl
end
/-! ### what they evaluate to -/
/-- v is an exception object of the class at C -/
def IsX (H : Hp) (C : Addr) (v : V) : Prop := ∃ (a : Addr) (d : Option Addr) (fs : List (Str × V)), v = .ref a ∧ H a = some (exo a C d) ∧ ∀ dd, d = some dd → H dd = some (exd dd fs)
theorem IsX.ex {H H' : Hp} {C : Addr} {v : V} (e : Ex H H') (h : IsX H C v) : IsX H' C v := by
  obtain ⟨a, d, fs, e1, e2, e3⟩ := h
  exact ⟨a, d, fs, e1, e _ _ e2, fun dd z => e _ _ (e3 dd z)⟩
def EvX (te : TE) (σ : L2.St) (H : Hp) (C : Addr) : Prop := ∀ H1, Ex H H1 → ∀ Q : VK, (∀ v H2, Ex H1 H2 → IsX H2 C v → Q v H2) → te σ H1 Q
def EvXs (ta : TA) (σ : L2.St) (H : Hp) (Cs : List Addr) : Prop := ∀ H1, Ex H H1 → ∀ Q : List V → Hp → Prop, (∀ vs H2, Ex H1 H2 → Paired (IsX H2) Cs vs → Q vs H2) → ta σ H1 Q
theorem isxs_ex {H H' : Hp} (e : Ex H H') : ∀ {Cs : List Addr} {vs : List V}, Paired (IsX H) Cs vs → Paired (IsX H') Cs vs
  | _, _, .nil => .nil
  | _, _, .cons a b => .cons (a.ex e) (isxs_ex e b)
section
variable {P : Program} {w : World} {K : PySem.W.Frag} {mg : Str → Option Value} {base : Heap} {σ : L2.St} {H : Hp} {te te' : TE} {ta tr t u : TA} {C : Addr} {Cs : List Addr} {x f g : Str} {c : Cl} {n m : Nat} {gV : List V → List V → List V} {vs zs : List V} {v z : V}
theorem exs_nil : EvXs tNil σ H [] := fun H1 _ Q q => q [] H1 (Ex.refl H1) .nil
theorem exs_cons (h : EvX te σ H C) (hr : EvXs tr σ H Cs) : EvXs (tCons te tr) σ H (C :: Cs) := fun H1 e Q q =>
  h H1 e _ fun v H2 e2 h2 => hr H2 (e.trans e2) _ fun vs H3 e3 h3 => q _ H3 (e2.trans e3) (.cons (h2.ex e3) h3)
theorem exb : EvX (tExb C) σ H C := fun H1 _ Q q a ha => q _ _ (Ex.new ha) ⟨a, none, [], rfl, upd_same, fun _ z => nomatch z⟩
/-- the heap behind the making of an exception with one field, with two -/
theorem made1 {H : Hp} {a dx : Addr} {v : V} (ha : H a = none) (hd : (upd H a (exo a C none)) dx = none) (ne : dx ≠ a) : Ex H (upd (upd (upd H a (exo a C none)) dx (exd dx [(f, v)])) a (exo a C (some dx))) := fun b o e => by
  have h1 : b ≠ a := ne_of_none e ha
  have h2 : b ≠ dx := fun z => by
    subst z
    rw [upd_ne h1, e] at hd
    cases hd
  rw [upd_ne h1, upd_ne h2, upd_ne h1]
  exact e
theorem made2 {H : Hp} {a dx : Addr} {v z : V} (ha : H a = none) (hd : (upd H a (exo a C none)) dx = none) (ne : dx ≠ a) :
    Ex H (upd (upd (upd (upd H a (exo a C none)) dx (exd dx [(f, v)])) a (exo a C (some dx))) dx (exd dx [(g, z), (f, v)])) := fun b o e => by
  have h1 : b ≠ a := ne_of_none e ha
  have h2 : b ≠ dx := fun z => by
    subst z
    rw [upd_ne h1, e] at hd
    cases hd
  rw [upd_ne h2, upd_ne h1, upd_ne h2, upd_ne h1]
  exact e
theorem ev_f1 (T : IN1 P w K mg base x f c) (ht : EvA t σ H vs) (hu : EvA u σ H zs) (hv : ∀ a, gV (.ref a :: vs) zs = [.ref a, v]) (l1 : vs.length = n) (l2 : zs.length = m) (hn : n ≤ 1000) : Ev (tExf K mg f (tExv c.C n m (spI1 K f) gV t u)) σ H v := fun H1 e Q q =>
  ht H1 e _ fun H2 e2 => hu H2 (e.trans e2) _ fun H3 e3 => ⟨l1, l2, hn, fun a ha => by
    rw [hv]
    refine ⟨a, c.C, v, rfl, T.xc.ox, T.no, upd_same, fun dx hd ne => ⟨rfl, ?_⟩⟩
    refine ⟨a, c.C, c.fI, dx, x, [(f, v)], v, rfl, T.xc, T.no, upd_same, by rw [upd_ne ne, upd_same], by simp [List.lookup], q _ ((e2.trans e3).trans (made1 ha hd ne))⟩⟩
theorem ex_f1 (T : IN1 P w K mg base x f c) (ht : EvA t σ H vs) (hu : EvA u σ H zs) (hv : ∀ a, gV (.ref a :: vs) zs = [.ref a, v]) (l1 : vs.length = n) (l2 : zs.length = m) (hn : n ≤ 1000) : EvX (tExv c.C n m (spI1 K f) gV t u) σ H c.C := fun H1 e Q q =>
  ht H1 e _ fun H2 e2 => hu H2 (e.trans e2) _ fun H3 e3 => ⟨l1, l2, hn, fun a ha => by
    rw [hv]
    refine ⟨a, c.C, v, rfl, T.xc.ox, T.no, upd_same, fun dx hd ne => ⟨rfl, ?_⟩⟩
    exact q _ _ ((e2.trans e3).trans (made1 ha hd ne)) ⟨a, some dx, [(f, v)], rfl, upd_same, fun dd z => by cases z; rw [upd_ne ne, upd_same]⟩⟩
theorem ev_f2a (T : IN2 P w K mg base x f g c) (ht : EvA t σ H vs) (hu : EvA u σ H zs) (hv : ∀ a, gV (.ref a :: vs) zs = [.ref a, v, z]) (l1 : vs.length = n) (l2 : zs.length = m) (hn : n ≤ 1000) : Ev (tExf K mg f (tExv c.C n m (spI2 K f g) gV t u)) σ H v := fun H1 e Q q =>
  ht H1 e _ fun H2 e2 => hu H2 (e.trans e2) _ fun H3 e3 => ⟨l1, l2, hn, fun a ha => by
    rw [hv]
    refine ⟨a, c.C, v, z, rfl, T.xc.ox, T.no, T.no2, upd_same, fun dx hd ne => ⟨rfl, ?_⟩⟩
    refine ⟨a, c.C, c.fI, dx, x, [(g, z), (f, v)], v, rfl, T.xc, T.no, by rw [upd_ne ne.symm, upd_same], upd_same, by simp [List.lookup, T.ne], q _ ((e2.trans e3).trans (made2 ha hd ne))⟩⟩
theorem ev_f2b (T : IN2 P w K mg base x f g c) (ht : EvA t σ H vs) (hu : EvA u σ H zs) (hv : ∀ a, gV (.ref a :: vs) zs = [.ref a, v, z]) (l1 : vs.length = n) (l2 : zs.length = m) (hn : n ≤ 1000) : Ev (tExf K mg g (tExv c.C n m (spI2 K f g) gV t u)) σ H z := fun H1 e Q q =>
  ht H1 e _ fun H2 e2 => hu H2 (e.trans e2) _ fun H3 e3 => ⟨l1, l2, hn, fun a ha => by
    rw [hv]
    refine ⟨a, c.C, v, z, rfl, T.xc.ox, T.no, T.no2, upd_same, fun dx hd ne => ⟨rfl, ?_⟩⟩
    refine ⟨a, c.C, c.fI, dx, x, [(g, z), (f, v)], z, rfl, T.xc, T.no2, by rw [upd_ne ne.symm, upd_same], upd_same, by simp [List.lookup], q _ ((e2.trans e3).trans (made2 ha hd ne))⟩⟩
theorem ex_f2 (T : IN2 P w K mg base x f g c) (ht : EvA t σ H vs) (hu : EvA u σ H zs) (hv : ∀ a, gV (.ref a :: vs) zs = [.ref a, v, z]) (l1 : vs.length = n) (l2 : zs.length = m) (hn : n ≤ 1000) : EvX (tExv c.C n m (spI2 K f g) gV t u) σ H c.C := fun H1 e Q q =>
  ht H1 e _ fun H2 e2 => hu H2 (e.trans e2) _ fun H3 e3 => ⟨l1, l2, hn, fun a ha => by
    rw [hv]
    refine ⟨a, c.C, v, z, rfl, T.xc.ox, T.no, T.no2, upd_same, fun dx hd ne => ⟨rfl, ?_⟩⟩
    exact q _ _ ((e2.trans e3).trans (made2 ha hd ne)) ⟨a, some dx, [(g, z), (f, v)], rfl, by rw [upd_ne ne.symm, upd_same], fun dd z => by cases z; exact upd_same⟩⟩
/-- e.f of an exception that is held already -/
theorem ev_got {a d : Addr} {fs : List (Str × V)} {fI : Addr} (T : XC K mg x C fI) (no : PySem.W.findIn K (.ref C) f = some none) (h : Ev te σ H (.ref a)) (h1 : H a = some (exo a C (some d))) (h2 : H d = some (exd d fs)) (hl : fs.lookup f = some v) : Ev (tExf K mg f te) σ H v := fun H1 e Q q =>
  h H1 e _ fun H2 e2 => ⟨a, C, fI, d, x, fs, v, rfl, T, no, e2 _ _ (e _ _ h1), e2 _ _ (e _ _ h2), hl, q H2 e2⟩
/-! new lists: xs + ys, [x] * k -/
theorem el_cat {l : Addr} {xs ys : List V} (ha : Ev te σ H (.ref l)) (hl : H l = some (.lst xs)) (hb : EvL te' σ H ys) (hz : xs.length + ys.length ≤ 100000) : EvL (tOp rCat te te') σ H (xs ++ ys) := fun H1 e Q q =>
  ha H1 e _ fun H2 e2 => hb H2 (e.trans e2) _ fun p H3 hp e3 h3 => ⟨l, p, xs, ys, rfl, rfl, e3 _ _ (e2 _ _ (e _ _ hl)), h3, sz_of hz, fun r hr => q r _ (fresh_back (e2.trans e3) hr) ((e2.trans e3).trans (Ex.new hr)) upd_same⟩
theorem el_rep {k : Int} {xs : List V} (ha : EvL te σ H xs) (hb : ∀ H1, Ev te' σ H1 (.int k)) (h0 : 0 ≤ k) (h1 : k ≤ 1000) (hz : xs.length ≤ 100) : EvL (tOp rRep te te') σ H (List.replicate k.toNat xs).flatten := fun H1 e Q q =>
  ha H1 e _ fun p H2 hp e2 h2 => hb H2 H2 (Ex.refl H2) _ fun H3 e3 => ⟨p, k, xs, rfl, rfl, e3 _ _ h2, by omega, by omega, sz_of (by
    have h3 : k.toNat ≤ 1000 := by omega
    have h4 := Nat.mul_le_mul hz h3
    omega), fun r hr => q r _ (fresh_back (e2.trans e3) hr) ((e2.trans e3).trans (Ex.new hr)) upd_same⟩
/-- a == b, a a new list or one that stands, b a new list -/
theorem ev_eqLL {xs ys : List V} {ds es : List PyData} {l : Addr} (ha : Ev te σ H (.ref l)) (hl : H l = some (.lst xs)) (hb : EvL te' σ H ys) (hx : DpAll K H xs ds) (hy : DpAll K H ys es) (s1 : SeqAt.shaped (.list ds) = true) (s2 : SeqAt.shaped (.list es) = true) :
    Ev (tOp (rEqD K) te te') σ H (.bl (PyData.eqv (.list ds) (.list es))) := fun H1 e Q q =>
  ha H1 e _ fun H2 e2 => hb H2 (e.trans e2) _ fun p H3 hp e3 h3 =>
    ⟨_, _, .lst (sq_of (e3 _ _ (e2 _ _ (e _ _ hl)))) (dpa_ex ((e.trans e2).trans e3) _ _ hx), .lst (sq_of h3) (dpa_ex ((e.trans e2).trans e3) _ _ hy), s1, s2, q H3 (e2.trans e3)⟩
theorem ev_neLL {xs ys : List V} {ds es : List PyData} {l : Addr} (ha : Ev te σ H (.ref l)) (hl : H l = some (.lst xs)) (hb : EvL te' σ H ys) (hx : DpAll K H xs ds) (hy : DpAll K H ys es) (s1 : SeqAt.shaped (.list ds) = true) (s2 : SeqAt.shaped (.list es) = true) :
    Ev (tOp (rNeD K) te te') σ H (.bl (!PyData.eqv (.list ds) (.list es))) := fun H1 e Q q =>
  ha H1 e _ fun H2 e2 => hb H2 (e.trans e2) _ fun p H3 hp e3 h3 =>
    ⟨_, _, .lst (sq_of (e3 _ _ (e2 _ _ (e _ _ hl)))) (dpa_ex ((e.trans e2).trans e3) _ _ hx), .lst (sq_of h3) (dpa_ex ((e.trans e2).trans e3) _ _ hy), s1, s2, q H3 (e2.trans e3)⟩
end
end K30
set_option Elab.async false
set_option linter.all false
set_option maxRecDepth 100000
set_option maxHeartbeats 4000000
namespace K30
open PySem PySem.Spec PyProof.Rows L2 XW Evl
def top (i : Nat) : Stmt := PySem.Challenge.pw_deepstands_k30_refusals_by_hand.main.body.getD i (.Pass ⟨0, 0, 0, 0⟩)
theorem vals_rev : ∀ {xs : List V} {us : List Value}, Vals xs us → Vals xs.reverse us.reverse
  | _, _, .nil => .nil
  | _, _, .cons r t => by
    rw [List.reverse_cons, List.reverse_cons]
    exact (vals_rev t).append (.cons r .nil)
section
variable {P : Program} {w : World} {K : PySem.W.Frag} {mg : Str → Option Value} {base : Heap}
abbrev s_NoChart : Stmt := inClass (top 7) 0
theorem sc_NoChart : FnScope ["self", "wrong"] ["self", "wrong"] (defScope s_NoChart) := ⟨rfl, rfl, rfl, by decide +kernel, rfl, by decide +kernel, by decide +kernel⟩
theorem in_NoChart {c : Cl} (xc : XC K mg "NoChart" c.C c.fI) (xk : XW.XK K c.C) (no : PySem.W.findIn K (.ref c.C) "wrong" = some none) (F : FunD K "__init__" "NoChart.__init__" (defArgs s_NoChart) (defBody s_NoChart) (defScope s_NoChart) [c.d1] [] c.fI c.fd) : IN1 P w K mg base "NoChart" "wrong" c := by
  refine ⟨xc, xk, no, ?_, ?_, ?_, ?_⟩
  · refine F.ok sc_NoChart (fun vs H Q E h => ?_) (fun cdv A outer s H vs Q E hr h => ?_)
    · obtain ⟨a, C, v, rfl, _⟩ := h
      rfl
    · obtain ⟨a, C, v, rfl, ox, no, ha, k⟩ := h
      refine ⟨_, pss_one (ps_ost (pv 0) (pv 1)), ?_⟩
      exact ⟨_, rfl, _, rfl, a, C, rfl, ox, no, .inl ⟨ha, fun dx hd ne => k dx hd ne⟩⟩
  · obtain ⟨its, b⟩ := F.kbindsD (ps := ["self", "wrong"]) 1 [] (fun us its ws => us ++ its) (by simp) (fun r1 r2 r3 => r1.append r2) (fun T kV doc pm an cdv ct us its ws h1 h2 h3 => match us, its, ws, h1, h2, h3 with | [_], [_], [], _, _, _ => ⟨_, rfl, rfl⟩)
    exact ⟨_, b⟩
  · obtain ⟨its, b⟩ := F.kbindsD (ps := ["self", "wrong"]) 2 [] (fun us its ws => us) (by simp) (fun r1 r2 r3 => r1) (fun T kV doc pm an cdv ct us its ws h1 h2 h3 => match us, its, ws, h1, h2, h3 with | [_, _], [_], [], _, _, _ => ⟨_, rfl, rfl⟩)
    exact ⟨_, b⟩
  · obtain ⟨its, b⟩ := F.kbindsD (ps := ["self", "wrong"]) 1 ["wrong"] (fun us its ws => us ++ ws) (by simp) (fun r1 r2 r3 => r1.append r3) (fun T kV doc pm an cdv ct us its ws h1 h2 h3 => match us, its, ws, h1, h2, h3 with | [_], [_], [_], _, _, _ => ⟨_, rfl, rfl⟩)
    exact ⟨_, b⟩
abbrev s_NoStanding : Stmt := inClass (top 8) 0
theorem sc_NoStanding : FnScope ["self", "wrong"] ["self", "wrong"] (defScope s_NoStanding) := ⟨rfl, rfl, rfl, by decide +kernel, rfl, by decide +kernel, by decide +kernel⟩
theorem in_NoStanding {c : Cl} (xc : XC K mg "NoStanding" c.C c.fI) (xk : XW.XK K c.C) (no : PySem.W.findIn K (.ref c.C) "wrong" = some none) (F : FunD K "__init__" "NoStanding.__init__" (defArgs s_NoStanding) (defBody s_NoStanding) (defScope s_NoStanding) [c.d1] [] c.fI c.fd) : IN1 P w K mg base "NoStanding" "wrong" c := by
  refine ⟨xc, xk, no, ?_, ?_, ?_, ?_⟩
  · refine F.ok sc_NoStanding (fun vs H Q E h => ?_) (fun cdv A outer s H vs Q E hr h => ?_)
    · obtain ⟨a, C, v, rfl, _⟩ := h
      rfl
    · obtain ⟨a, C, v, rfl, ox, no, ha, k⟩ := h
      refine ⟨_, pss_one (ps_ost (pv 0) (pv 1)), ?_⟩
      exact ⟨_, rfl, _, rfl, a, C, rfl, ox, no, .inl ⟨ha, fun dx hd ne => k dx hd ne⟩⟩
  · obtain ⟨its, b⟩ := F.kbindsD (ps := ["self", "wrong"]) 1 [] (fun us its ws => us ++ its) (by simp) (fun r1 r2 r3 => r1.append r2) (fun T kV doc pm an cdv ct us its ws h1 h2 h3 => match us, its, ws, h1, h2, h3 with | [_], [_], [], _, _, _ => ⟨_, rfl, rfl⟩)
    exact ⟨_, b⟩
  · obtain ⟨its, b⟩ := F.kbindsD (ps := ["self", "wrong"]) 2 [] (fun us its ws => us) (by simp) (fun r1 r2 r3 => r1) (fun T kV doc pm an cdv ct us its ws h1 h2 h3 => match us, its, ws, h1, h2, h3 with | [_, _], [_], [], _, _, _ => ⟨_, rfl, rfl⟩)
    exact ⟨_, b⟩
  · obtain ⟨its, b⟩ := F.kbindsD (ps := ["self", "wrong"]) 1 ["wrong"] (fun us its ws => us ++ ws) (by simp) (fun r1 r2 r3 => r1.append r3) (fun T kV doc pm an cdv ct us its ws h1 h2 h3 => match us, its, ws, h1, h2, h3 with | [_], [_], [_], _, _, _ => ⟨_, rfl, rfl⟩)
    exact ⟨_, b⟩
abbrev s_NoHappening : Stmt := inClass (top 9) 0
theorem sc_NoHappening : FnScope ["self", "what"] ["self", "what"] (defScope s_NoHappening) := ⟨rfl, rfl, rfl, by decide +kernel, rfl, by decide +kernel, by decide +kernel⟩
theorem in_NoHappening {c : Cl} (xc : XC K mg "NoHappening" c.C c.fI) (xk : XW.XK K c.C) (no : PySem.W.findIn K (.ref c.C) "what" = some none) (F : FunD K "__init__" "NoHappening.__init__" (defArgs s_NoHappening) (defBody s_NoHappening) (defScope s_NoHappening) [c.d1] [] c.fI c.fd) : IN1 P w K mg base "NoHappening" "what" c := by
  refine ⟨xc, xk, no, ?_, ?_, ?_, ?_⟩
  · refine F.ok sc_NoHappening (fun vs H Q E h => ?_) (fun cdv A outer s H vs Q E hr h => ?_)
    · obtain ⟨a, C, v, rfl, _⟩ := h
      rfl
    · obtain ⟨a, C, v, rfl, ox, no, ha, k⟩ := h
      refine ⟨_, pss_one (ps_ost (pv 0) (pv 1)), ?_⟩
      exact ⟨_, rfl, _, rfl, a, C, rfl, ox, no, .inl ⟨ha, fun dx hd ne => k dx hd ne⟩⟩
  · obtain ⟨its, b⟩ := F.kbindsD (ps := ["self", "what"]) 1 [] (fun us its ws => us ++ its) (by simp) (fun r1 r2 r3 => r1.append r2) (fun T kV doc pm an cdv ct us its ws h1 h2 h3 => match us, its, ws, h1, h2, h3 with | [_], [_], [], _, _, _ => ⟨_, rfl, rfl⟩)
    exact ⟨_, b⟩
  · obtain ⟨its, b⟩ := F.kbindsD (ps := ["self", "what"]) 2 [] (fun us its ws => us) (by simp) (fun r1 r2 r3 => r1) (fun T kV doc pm an cdv ct us its ws h1 h2 h3 => match us, its, ws, h1, h2, h3 with | [_, _], [_], [], _, _, _ => ⟨_, rfl, rfl⟩)
    exact ⟨_, b⟩
  · obtain ⟨its, b⟩ := F.kbindsD (ps := ["self", "what"]) 1 ["what"] (fun us its ws => us ++ ws) (by simp) (fun r1 r2 r3 => r1.append r3) (fun T kV doc pm an cdv ct us its ws h1 h2 h3 => match us, its, ws, h1, h2, h3 with | [_], [_], [_], _, _, _ => ⟨_, rfl, rfl⟩)
    exact ⟨_, b⟩
abbrev s_NoName : Stmt := inClass (top 12) 0
theorem sc_NoName : FnScope ["self", "name"] ["self", "name"] (defScope s_NoName) := ⟨rfl, rfl, rfl, by decide +kernel, rfl, by decide +kernel, by decide +kernel⟩
theorem in_NoName {c : Cl} (xc : XC K mg "NoName" c.C c.fI) (xk : XW.XK K c.C) (no : PySem.W.findIn K (.ref c.C) "name" = some none) (F : FunD K "__init__" "NoName.__init__" (defArgs s_NoName) (defBody s_NoName) (defScope s_NoName) [c.d1] [] c.fI c.fd) : IN1 P w K mg base "NoName" "name" c := by
  refine ⟨xc, xk, no, ?_, ?_, ?_, ?_⟩
  · refine F.ok sc_NoName (fun vs H Q E h => ?_) (fun cdv A outer s H vs Q E hr h => ?_)
    · obtain ⟨a, C, v, rfl, _⟩ := h
      rfl
    · obtain ⟨a, C, v, rfl, ox, no, ha, k⟩ := h
      refine ⟨_, pss_one (ps_ost (pv 0) (pv 1)), ?_⟩
      exact ⟨_, rfl, _, rfl, a, C, rfl, ox, no, .inl ⟨ha, fun dx hd ne => k dx hd ne⟩⟩
  · obtain ⟨its, b⟩ := F.kbindsD (ps := ["self", "name"]) 1 [] (fun us its ws => us ++ its) (by simp) (fun r1 r2 r3 => r1.append r2) (fun T kV doc pm an cdv ct us its ws h1 h2 h3 => match us, its, ws, h1, h2, h3 with | [_], [_], [], _, _, _ => ⟨_, rfl, rfl⟩)
    exact ⟨_, b⟩
  · obtain ⟨its, b⟩ := F.kbindsD (ps := ["self", "name"]) 2 [] (fun us its ws => us) (by simp) (fun r1 r2 r3 => r1) (fun T kV doc pm an cdv ct us its ws h1 h2 h3 => match us, its, ws, h1, h2, h3 with | [_, _], [_], [], _, _, _ => ⟨_, rfl, rfl⟩)
    exact ⟨_, b⟩
  · obtain ⟨its, b⟩ := F.kbindsD (ps := ["self", "name"]) 1 ["name"] (fun us its ws => us ++ ws) (by simp) (fun r1 r2 r3 => r1.append r3) (fun T kV doc pm an cdv ct us its ws h1 h2 h3 => match us, its, ws, h1, h2, h3 with | [_], [_], [_], _, _, _ => ⟨_, rfl, rfl⟩)
    exact ⟨_, b⟩
abbrev s_NoMove : Stmt := inClass (top 13) 0
theorem sc_NoMove : FnScope ["self", "number"] ["self", "number"] (defScope s_NoMove) := ⟨rfl, rfl, rfl, by decide +kernel, rfl, by decide +kernel, by decide +kernel⟩
theorem in_NoMove {c : Cl} (xc : XC K mg "NoMove" c.C c.fI) (xk : XW.XK K c.C) (no : PySem.W.findIn K (.ref c.C) "number" = some none) (F : FunD K "__init__" "NoMove.__init__" (defArgs s_NoMove) (defBody s_NoMove) (defScope s_NoMove) [c.d1] [] c.fI c.fd) : IN1 P w K mg base "NoMove" "number" c := by
  refine ⟨xc, xk, no, ?_, ?_, ?_, ?_⟩
  · refine F.ok sc_NoMove (fun vs H Q E h => ?_) (fun cdv A outer s H vs Q E hr h => ?_)
    · obtain ⟨a, C, v, rfl, _⟩ := h
      rfl
    · obtain ⟨a, C, v, rfl, ox, no, ha, k⟩ := h
      refine ⟨_, pss_one (ps_ost (pv 0) (pv 1)), ?_⟩
      exact ⟨_, rfl, _, rfl, a, C, rfl, ox, no, .inl ⟨ha, fun dx hd ne => k dx hd ne⟩⟩
  · obtain ⟨its, b⟩ := F.kbindsD (ps := ["self", "number"]) 1 [] (fun us its ws => us ++ its) (by simp) (fun r1 r2 r3 => r1.append r2) (fun T kV doc pm an cdv ct us its ws h1 h2 h3 => match us, its, ws, h1, h2, h3 with | [_], [_], [], _, _, _ => ⟨_, rfl, rfl⟩)
    exact ⟨_, b⟩
  · obtain ⟨its, b⟩ := F.kbindsD (ps := ["self", "number"]) 2 [] (fun us its ws => us) (by simp) (fun r1 r2 r3 => r1) (fun T kV doc pm an cdv ct us its ws h1 h2 h3 => match us, its, ws, h1, h2, h3 with | [_, _], [_], [], _, _, _ => ⟨_, rfl, rfl⟩)
    exact ⟨_, b⟩
  · obtain ⟨its, b⟩ := F.kbindsD (ps := ["self", "number"]) 1 ["number"] (fun us its ws => us ++ ws) (by simp) (fun r1 r2 r3 => r1.append r3) (fun T kV doc pm an cdv ct us its ws h1 h2 h3 => match us, its, ws, h1, h2, h3 with | [_], [_], [_], _, _, _ => ⟨_, rfl, rfl⟩)
    exact ⟨_, b⟩
abbrev s_NoSaying : Stmt := inClass (top 14) 0
theorem sc_NoSaying : FnScope ["self", "wrong"] ["self", "wrong"] (defScope s_NoSaying) := ⟨rfl, rfl, rfl, by decide +kernel, rfl, by decide +kernel, by decide +kernel⟩
theorem in_NoSaying {c : Cl} (xc : XC K mg "NoSaying" c.C c.fI) (xk : XW.XK K c.C) (no : PySem.W.findIn K (.ref c.C) "wrong" = some none) (F : FunD K "__init__" "NoSaying.__init__" (defArgs s_NoSaying) (defBody s_NoSaying) (defScope s_NoSaying) [c.d1] [] c.fI c.fd) : IN1 P w K mg base "NoSaying" "wrong" c := by
  refine ⟨xc, xk, no, ?_, ?_, ?_, ?_⟩
  · refine F.ok sc_NoSaying (fun vs H Q E h => ?_) (fun cdv A outer s H vs Q E hr h => ?_)
    · obtain ⟨a, C, v, rfl, _⟩ := h
      rfl
    · obtain ⟨a, C, v, rfl, ox, no, ha, k⟩ := h
      refine ⟨_, pss_one (ps_ost (pv 0) (pv 1)), ?_⟩
      exact ⟨_, rfl, _, rfl, a, C, rfl, ox, no, .inl ⟨ha, fun dx hd ne => k dx hd ne⟩⟩
  · obtain ⟨its, b⟩ := F.kbindsD (ps := ["self", "wrong"]) 1 [] (fun us its ws => us ++ its) (by simp) (fun r1 r2 r3 => r1.append r2) (fun T kV doc pm an cdv ct us its ws h1 h2 h3 => match us, its, ws, h1, h2, h3 with | [_], [_], [], _, _, _ => ⟨_, rfl, rfl⟩)
    exact ⟨_, b⟩
  · obtain ⟨its, b⟩ := F.kbindsD (ps := ["self", "wrong"]) 2 [] (fun us its ws => us) (by simp) (fun r1 r2 r3 => r1) (fun T kV doc pm an cdv ct us its ws h1 h2 h3 => match us, its, ws, h1, h2, h3 with | [_, _], [_], [], _, _, _ => ⟨_, rfl, rfl⟩)
    exact ⟨_, b⟩
  · obtain ⟨its, b⟩ := F.kbindsD (ps := ["self", "wrong"]) 1 ["wrong"] (fun us its ws => us ++ ws) (by simp) (fun r1 r2 r3 => r1.append r3) (fun T kV doc pm an cdv ct us its ws h1 h2 h3 => match us, its, ws, h1, h2, h3 with | [_], [_], [_], _, _, _ => ⟨_, rfl, rfl⟩)
    exact ⟨_, b⟩
abbrev s_TooGreat : Stmt := inClass (top 15) 0
theorem sc_TooGreat : FnScope ["self", "most"] ["self", "most"] (defScope s_TooGreat) := ⟨rfl, rfl, rfl, by decide +kernel, rfl, by decide +kernel, by decide +kernel⟩
theorem in_TooGreat {c : Cl} (xc : XC K mg "TooGreat" c.C c.fI) (xk : XW.XK K c.C) (no : PySem.W.findIn K (.ref c.C) "most" = some none) (F : FunD K "__init__" "TooGreat.__init__" (defArgs s_TooGreat) (defBody s_TooGreat) (defScope s_TooGreat) [c.d1] [] c.fI c.fd) : IN1 P w K mg base "TooGreat" "most" c := by
  refine ⟨xc, xk, no, ?_, ?_, ?_, ?_⟩
  · refine F.ok sc_TooGreat (fun vs H Q E h => ?_) (fun cdv A outer s H vs Q E hr h => ?_)
    · obtain ⟨a, C, v, rfl, _⟩ := h
      rfl
    · obtain ⟨a, C, v, rfl, ox, no, ha, k⟩ := h
      refine ⟨_, pss_one (ps_ost (pv 0) (pv 1)), ?_⟩
      exact ⟨_, rfl, _, rfl, a, C, rfl, ox, no, .inl ⟨ha, fun dx hd ne => k dx hd ne⟩⟩
  · obtain ⟨its, b⟩ := F.kbindsD (ps := ["self", "most"]) 1 [] (fun us its ws => us ++ its) (by simp) (fun r1 r2 r3 => r1.append r2) (fun T kV doc pm an cdv ct us its ws h1 h2 h3 => match us, its, ws, h1, h2, h3 with | [_], [_], [], _, _, _ => ⟨_, rfl, rfl⟩)
    exact ⟨_, b⟩
  · obtain ⟨its, b⟩ := F.kbindsD (ps := ["self", "most"]) 2 [] (fun us its ws => us) (by simp) (fun r1 r2 r3 => r1) (fun T kV doc pm an cdv ct us its ws h1 h2 h3 => match us, its, ws, h1, h2, h3 with | [_, _], [_], [], _, _, _ => ⟨_, rfl, rfl⟩)
    exact ⟨_, b⟩
  · obtain ⟨its, b⟩ := F.kbindsD (ps := ["self", "most"]) 1 ["most"] (fun us its ws => us ++ ws) (by simp) (fun r1 r2 r3 => r1.append r3) (fun T kV doc pm an cdv ct us its ws h1 h2 h3 => match us, its, ws, h1, h2, h3 with | [_], [_], [_], _, _, _ => ⟨_, rfl, rfl⟩)
    exact ⟨_, b⟩
abbrev s_Gone : Stmt := inClass (top 16) 0
theorem sc_Gone : FnScope ["self", "name"] ["self", "name"] (defScope s_Gone) := ⟨rfl, rfl, rfl, by decide +kernel, rfl, by decide +kernel, by decide +kernel⟩
theorem in_Gone {c : Cl} (xc : XC K mg "Gone" c.C c.fI) (xk : XW.XK K c.C) (no : PySem.W.findIn K (.ref c.C) "name" = some none) (F : FunD K "__init__" "Gone.__init__" (defArgs s_Gone) (defBody s_Gone) (defScope s_Gone) [c.d1] [] c.fI c.fd) : IN1 P w K mg base "Gone" "name" c := by
  refine ⟨xc, xk, no, ?_, ?_, ?_, ?_⟩
  · refine F.ok sc_Gone (fun vs H Q E h => ?_) (fun cdv A outer s H vs Q E hr h => ?_)
    · obtain ⟨a, C, v, rfl, _⟩ := h
      rfl
    · obtain ⟨a, C, v, rfl, ox, no, ha, k⟩ := h
      refine ⟨_, pss_one (ps_ost (pv 0) (pv 1)), ?_⟩
      exact ⟨_, rfl, _, rfl, a, C, rfl, ox, no, .inl ⟨ha, fun dx hd ne => k dx hd ne⟩⟩
  · obtain ⟨its, b⟩ := F.kbindsD (ps := ["self", "name"]) 1 [] (fun us its ws => us ++ its) (by simp) (fun r1 r2 r3 => r1.append r2) (fun T kV doc pm an cdv ct us its ws h1 h2 h3 => match us, its, ws, h1, h2, h3 with | [_], [_], [], _, _, _ => ⟨_, rfl, rfl⟩)
    exact ⟨_, b⟩
  · obtain ⟨its, b⟩ := F.kbindsD (ps := ["self", "name"]) 2 [] (fun us its ws => us) (by simp) (fun r1 r2 r3 => r1) (fun T kV doc pm an cdv ct us its ws h1 h2 h3 => match us, its, ws, h1, h2, h3 with | [_, _], [_], [], _, _, _ => ⟨_, rfl, rfl⟩)
    exact ⟨_, b⟩
  · obtain ⟨its, b⟩ := F.kbindsD (ps := ["self", "name"]) 1 ["name"] (fun us its ws => us ++ ws) (by simp) (fun r1 r2 r3 => r1.append r3) (fun T kV doc pm an cdv ct us its ws h1 h2 h3 => match us, its, ws, h1, h2, h3 with | [_], [_], [_], _, _, _ => ⟨_, rfl, rfl⟩)
    exact ⟨_, b⟩
abbrev s_Moved : Stmt := inClass (top 18) 0
theorem sc_Moved : FnScope ["self", "name"] ["self", "name"] (defScope s_Moved) := ⟨rfl, rfl, rfl, by decide +kernel, rfl, by decide +kernel, by decide +kernel⟩
theorem in_Moved {c : Cl} (xc : XC K mg "Moved" c.C c.fI) (xk : XW.XK K c.C) (no : PySem.W.findIn K (.ref c.C) "name" = some none) (F : FunD K "__init__" "Moved.__init__" (defArgs s_Moved) (defBody s_Moved) (defScope s_Moved) [c.d1] [] c.fI c.fd) : IN1 P w K mg base "Moved" "name" c := by
  refine ⟨xc, xk, no, ?_, ?_, ?_, ?_⟩
  · refine F.ok sc_Moved (fun vs H Q E h => ?_) (fun cdv A outer s H vs Q E hr h => ?_)
    · obtain ⟨a, C, v, rfl, _⟩ := h
      rfl
    · obtain ⟨a, C, v, rfl, ox, no, ha, k⟩ := h
      refine ⟨_, pss_one (ps_ost (pv 0) (pv 1)), ?_⟩
      exact ⟨_, rfl, _, rfl, a, C, rfl, ox, no, .inl ⟨ha, fun dx hd ne => k dx hd ne⟩⟩
  · obtain ⟨its, b⟩ := F.kbindsD (ps := ["self", "name"]) 1 [] (fun us its ws => us ++ its) (by simp) (fun r1 r2 r3 => r1.append r2) (fun T kV doc pm an cdv ct us its ws h1 h2 h3 => match us, its, ws, h1, h2, h3 with | [_], [_], [], _, _, _ => ⟨_, rfl, rfl⟩)
    exact ⟨_, b⟩
  · obtain ⟨its, b⟩ := F.kbindsD (ps := ["self", "name"]) 2 [] (fun us its ws => us) (by simp) (fun r1 r2 r3 => r1) (fun T kV doc pm an cdv ct us its ws h1 h2 h3 => match us, its, ws, h1, h2, h3 with | [_, _], [_], [], _, _, _ => ⟨_, rfl, rfl⟩)
    exact ⟨_, b⟩
  · obtain ⟨its, b⟩ := F.kbindsD (ps := ["self", "name"]) 1 ["name"] (fun us its ws => us ++ ws) (by simp) (fun r1 r2 r3 => r1.append r3) (fun T kV doc pm an cdv ct us its ws h1 h2 h3 => match us, its, ws, h1, h2, h3 with | [_], [_], [_], _, _, _ => ⟨_, rfl, rfl⟩)
    exact ⟨_, b⟩
abbrev s_NoTitle : Stmt := inClass (top 19) 0
theorem sc_NoTitle : FnScope ["self", "title"] ["self", "title"] (defScope s_NoTitle) := ⟨rfl, rfl, rfl, by decide +kernel, rfl, by decide +kernel, by decide +kernel⟩
theorem in_NoTitle {c : Cl} (xc : XC K mg "NoTitle" c.C c.fI) (xk : XW.XK K c.C) (no : PySem.W.findIn K (.ref c.C) "title" = some none) (F : FunD K "__init__" "NoTitle.__init__" (defArgs s_NoTitle) (defBody s_NoTitle) (defScope s_NoTitle) [c.d1] [] c.fI c.fd) : IN1 P w K mg base "NoTitle" "title" c := by
  refine ⟨xc, xk, no, ?_, ?_, ?_, ?_⟩
  · refine F.ok sc_NoTitle (fun vs H Q E h => ?_) (fun cdv A outer s H vs Q E hr h => ?_)
    · obtain ⟨a, C, v, rfl, _⟩ := h
      rfl
    · obtain ⟨a, C, v, rfl, ox, no, ha, k⟩ := h
      refine ⟨_, pss_one (ps_ost (pv 0) (pv 1)), ?_⟩
      exact ⟨_, rfl, _, rfl, a, C, rfl, ox, no, .inl ⟨ha, fun dx hd ne => k dx hd ne⟩⟩
  · obtain ⟨its, b⟩ := F.kbindsD (ps := ["self", "title"]) 1 [] (fun us its ws => us ++ its) (by simp) (fun r1 r2 r3 => r1.append r2) (fun T kV doc pm an cdv ct us its ws h1 h2 h3 => match us, its, ws, h1, h2, h3 with | [_], [_], [], _, _, _ => ⟨_, rfl, rfl⟩)
    exact ⟨_, b⟩
  · obtain ⟨its, b⟩ := F.kbindsD (ps := ["self", "title"]) 2 [] (fun us its ws => us) (by simp) (fun r1 r2 r3 => r1) (fun T kV doc pm an cdv ct us its ws h1 h2 h3 => match us, its, ws, h1, h2, h3 with | [_, _], [_], [], _, _, _ => ⟨_, rfl, rfl⟩)
    exact ⟨_, b⟩
  · obtain ⟨its, b⟩ := F.kbindsD (ps := ["self", "title"]) 1 ["title"] (fun us its ws => us ++ ws) (by simp) (fun r1 r2 r3 => r1.append r3) (fun T kV doc pm an cdv ct us its ws h1 h2 h3 => match us, its, ws, h1, h2, h3 with | [_], [_], [_], _, _, _ => ⟨_, rfl, rfl⟩)
    exact ⟨_, b⟩
abbrev s_Taken : Stmt := inClass (top 20) 0
theorem sc_Taken : FnScope ["self", "title"] ["self", "title"] (defScope s_Taken) := ⟨rfl, rfl, rfl, by decide +kernel, rfl, by decide +kernel, by decide +kernel⟩
theorem in_Taken {c : Cl} (xc : XC K mg "Taken" c.C c.fI) (xk : XW.XK K c.C) (no : PySem.W.findIn K (.ref c.C) "title" = some none) (F : FunD K "__init__" "Taken.__init__" (defArgs s_Taken) (defBody s_Taken) (defScope s_Taken) [c.d1] [] c.fI c.fd) : IN1 P w K mg base "Taken" "title" c := by
  refine ⟨xc, xk, no, ?_, ?_, ?_, ?_⟩
  · refine F.ok sc_Taken (fun vs H Q E h => ?_) (fun cdv A outer s H vs Q E hr h => ?_)
    · obtain ⟨a, C, v, rfl, _⟩ := h
      rfl
    · obtain ⟨a, C, v, rfl, ox, no, ha, k⟩ := h
      refine ⟨_, pss_one (ps_ost (pv 0) (pv 1)), ?_⟩
      exact ⟨_, rfl, _, rfl, a, C, rfl, ox, no, .inl ⟨ha, fun dx hd ne => k dx hd ne⟩⟩
  · obtain ⟨its, b⟩ := F.kbindsD (ps := ["self", "title"]) 1 [] (fun us its ws => us ++ its) (by simp) (fun r1 r2 r3 => r1.append r2) (fun T kV doc pm an cdv ct us its ws h1 h2 h3 => match us, its, ws, h1, h2, h3 with | [_], [_], [], _, _, _ => ⟨_, rfl, rfl⟩)
    exact ⟨_, b⟩
  · obtain ⟨its, b⟩ := F.kbindsD (ps := ["self", "title"]) 2 [] (fun us its ws => us) (by simp) (fun r1 r2 r3 => r1) (fun T kV doc pm an cdv ct us its ws h1 h2 h3 => match us, its, ws, h1, h2, h3 with | [_, _], [_], [], _, _, _ => ⟨_, rfl, rfl⟩)
    exact ⟨_, b⟩
  · obtain ⟨its, b⟩ := F.kbindsD (ps := ["self", "title"]) 1 ["title"] (fun us its ws => us ++ ws) (by simp) (fun r1 r2 r3 => r1.append r3) (fun T kV doc pm an cdv ct us its ws h1 h2 h3 => match us, its, ws, h1, h2, h3 with | [_], [_], [_], _, _, _ => ⟨_, rfl, rfl⟩)
    exact ⟨_, b⟩
abbrev s_NoRun : Stmt := inClass (top 21) 0
theorem sc_NoRun : FnScope ["self", "title"] ["self", "title"] (defScope s_NoRun) := ⟨rfl, rfl, rfl, by decide +kernel, rfl, by decide +kernel, by decide +kernel⟩
theorem in_NoRun {c : Cl} (xc : XC K mg "NoRun" c.C c.fI) (xk : XW.XK K c.C) (no : PySem.W.findIn K (.ref c.C) "title" = some none) (F : FunD K "__init__" "NoRun.__init__" (defArgs s_NoRun) (defBody s_NoRun) (defScope s_NoRun) [c.d1] [] c.fI c.fd) : IN1 P w K mg base "NoRun" "title" c := by
  refine ⟨xc, xk, no, ?_, ?_, ?_, ?_⟩
  · refine F.ok sc_NoRun (fun vs H Q E h => ?_) (fun cdv A outer s H vs Q E hr h => ?_)
    · obtain ⟨a, C, v, rfl, _⟩ := h
      rfl
    · obtain ⟨a, C, v, rfl, ox, no, ha, k⟩ := h
      refine ⟨_, pss_one (ps_ost (pv 0) (pv 1)), ?_⟩
      exact ⟨_, rfl, _, rfl, a, C, rfl, ox, no, .inl ⟨ha, fun dx hd ne => k dx hd ne⟩⟩
  · obtain ⟨its, b⟩ := F.kbindsD (ps := ["self", "title"]) 1 [] (fun us its ws => us ++ its) (by simp) (fun r1 r2 r3 => r1.append r2) (fun T kV doc pm an cdv ct us its ws h1 h2 h3 => match us, its, ws, h1, h2, h3 with | [_], [_], [], _, _, _ => ⟨_, rfl, rfl⟩)
    exact ⟨_, b⟩
  · obtain ⟨its, b⟩ := F.kbindsD (ps := ["self", "title"]) 2 [] (fun us its ws => us) (by simp) (fun r1 r2 r3 => r1) (fun T kV doc pm an cdv ct us its ws h1 h2 h3 => match us, its, ws, h1, h2, h3 with | [_, _], [_], [], _, _, _ => ⟨_, rfl, rfl⟩)
    exact ⟨_, b⟩
  · obtain ⟨its, b⟩ := F.kbindsD (ps := ["self", "title"]) 1 ["title"] (fun us its ws => us ++ ws) (by simp) (fun r1 r2 r3 => r1.append r3) (fun T kV doc pm an cdv ct us its ws h1 h2 h3 => match us, its, ws, h1, h2, h3 with | [_], [_], [_], _, _, _ => ⟨_, rfl, rfl⟩)
    exact ⟨_, b⟩
abbrev s_Beyond : Stmt := inClass (top 10) 0
theorem sc_Beyond : FnScope ["self", "fact", "stand"] ["self", "fact", "stand"] (defScope s_Beyond) := ⟨rfl, rfl, rfl, by decide +kernel, rfl, by decide +kernel, by decide +kernel⟩
theorem in_Beyond {c : Cl} (xc : XC K mg "Beyond" c.C c.fI) (xk : XW.XK K c.C) (no : PySem.W.findIn K (.ref c.C) "fact" = some none) (no2 : PySem.W.findIn K (.ref c.C) "stand" = some none) (F : FunD K "__init__" "Beyond.__init__" (defArgs s_Beyond) (defBody s_Beyond) (defScope s_Beyond) [c.d1, c.d2] [] c.fI c.fd) : IN2 P w K mg base "Beyond" "fact" "stand" c := by
  refine ⟨xc, xk, no, no2, by decide +kernel, ?_, ?_, ?_, ?_, ?_, ?_, ?_⟩
  · refine F.ok sc_Beyond (fun vs H Q E h => ?_) (fun cdv A outer s H vs Q E hr h => ?_)
    · obtain ⟨a, C, v, u, rfl, _⟩ := h
      rfl
    · obtain ⟨a, C, v, u, rfl, ox, no, no2, ha, k⟩ := h
      refine ⟨_, pss_cons (ps_ost (pv 0) (pv 1)) (pss_one (ps_ost (pv 0) (pv 2))), ?_⟩
      refine ⟨_, rfl, _, rfl, a, C, rfl, ox, no, .inl ⟨ha, fun dx hd ne => ?_⟩⟩
      exact ⟨_, rfl, _, rfl, a, C, rfl, ox, no2, .inr ⟨dx, [("fact", v)], upd_same, by rw [upd_ne ne, upd_same], (by show 1 ≤ 900; decide), k dx hd ne⟩⟩
  · obtain ⟨its, b⟩ := F.kbindsD (ps := ["self", "fact", "stand"]) 1 [] (fun us its ws => us ++ its) (by simp) (fun r1 r2 r3 => r1.append r2) (fun T kV doc pm an cdv ct us its ws h1 h2 h3 => match us, its, ws, h1, h2, h3 with | [_], [_, _], [], _, _, _ => ⟨_, rfl, rfl⟩)
    exact ⟨_, b⟩
  · obtain ⟨its, b⟩ := F.kbindsD (ps := ["self", "fact", "stand"]) 2 [] (fun us its ws => us ++ its.drop 1) (by simp) (fun r1 r2 r3 => r1.append (r2.drop 1)) (fun T kV doc pm an cdv ct us its ws h1 h2 h3 => match us, its, ws, h1, h2, h3 with | [_, _], [_, _], [], _, _, _ => ⟨_, rfl, rfl⟩)
    exact ⟨_, b⟩
  · obtain ⟨its, b⟩ := F.kbindsD (ps := ["self", "fact", "stand"]) 3 [] (fun us its ws => us) (by simp) (fun r1 r2 r3 => r1) (fun T kV doc pm an cdv ct us its ws h1 h2 h3 => match us, its, ws, h1, h2, h3 with | [_, _, _], [_, _], [], _, _, _ => ⟨_, rfl, rfl⟩)
    exact ⟨_, b⟩
  · obtain ⟨its, b⟩ := F.kbindsD (ps := ["self", "fact", "stand"]) 1 ["stand", "fact"] (fun us its ws => us ++ ws.reverse) (by simp) (fun r1 r2 r3 => r1.append (vals_rev r3)) (fun T kV doc pm an cdv ct us its ws h1 h2 h3 => match us, its, ws, h1, h2, h3 with | [_], [_, _], [_, _], _, _, _ => ⟨_, rfl, rfl⟩)
    exact ⟨_, b⟩
  · obtain ⟨its, b⟩ := F.kbindsD (ps := ["self", "fact", "stand"]) 1 ["stand"] (fun us its ws => us ++ (its.take 1 ++ ws)) (by simp) (fun r1 r2 r3 => r1.append ((r2.take 1).append r3)) (fun T kV doc pm an cdv ct us its ws h1 h2 h3 => match us, its, ws, h1, h2, h3 with | [_], [_, _], [_], _, _, _ => ⟨_, rfl, rfl⟩)
    exact ⟨_, b⟩
  · obtain ⟨its, b⟩ := F.kbindsD (ps := ["self", "fact", "stand"]) 2 ["stand"] (fun us its ws => us ++ ws) (by simp) (fun r1 r2 r3 => r1.append r3) (fun T kV doc pm an cdv ct us its ws h1 h2 h3 => match us, its, ws, h1, h2, h3 with | [_, _], [_, _], [_], _, _, _ => ⟨_, rfl, rfl⟩)
    exact ⟨_, b⟩
abbrev s_NoText : Stmt := inClass (top 11) 0
theorem sc_NoText : FnScope ["self", "row", "column"] ["self", "row", "column"] (defScope s_NoText) := ⟨rfl, rfl, rfl, by decide +kernel, rfl, by decide +kernel, by decide +kernel⟩
theorem in_NoText {c : Cl} (xc : XC K mg "NoText" c.C c.fI) (xk : XW.XK K c.C) (no : PySem.W.findIn K (.ref c.C) "row" = some none) (no2 : PySem.W.findIn K (.ref c.C) "column" = some none) (F : FunD K "__init__" "NoText.__init__" (defArgs s_NoText) (defBody s_NoText) (defScope s_NoText) [c.d1, c.d2] [] c.fI c.fd) : IN2 P w K mg base "NoText" "row" "column" c := by
  refine ⟨xc, xk, no, no2, by decide +kernel, ?_, ?_, ?_, ?_, ?_, ?_, ?_⟩
  · refine F.ok sc_NoText (fun vs H Q E h => ?_) (fun cdv A outer s H vs Q E hr h => ?_)
    · obtain ⟨a, C, v, u, rfl, _⟩ := h
      rfl
    · obtain ⟨a, C, v, u, rfl, ox, no, no2, ha, k⟩ := h
      refine ⟨_, pss_cons (ps_ost (pv 0) (pv 1)) (pss_one (ps_ost (pv 0) (pv 2))), ?_⟩
      refine ⟨_, rfl, _, rfl, a, C, rfl, ox, no, .inl ⟨ha, fun dx hd ne => ?_⟩⟩
      exact ⟨_, rfl, _, rfl, a, C, rfl, ox, no2, .inr ⟨dx, [("row", v)], upd_same, by rw [upd_ne ne, upd_same], (by show 1 ≤ 900; decide), k dx hd ne⟩⟩
  · obtain ⟨its, b⟩ := F.kbindsD (ps := ["self", "row", "column"]) 1 [] (fun us its ws => us ++ its) (by simp) (fun r1 r2 r3 => r1.append r2) (fun T kV doc pm an cdv ct us its ws h1 h2 h3 => match us, its, ws, h1, h2, h3 with | [_], [_, _], [], _, _, _ => ⟨_, rfl, rfl⟩)
    exact ⟨_, b⟩
  · obtain ⟨its, b⟩ := F.kbindsD (ps := ["self", "row", "column"]) 2 [] (fun us its ws => us ++ its.drop 1) (by simp) (fun r1 r2 r3 => r1.append (r2.drop 1)) (fun T kV doc pm an cdv ct us its ws h1 h2 h3 => match us, its, ws, h1, h2, h3 with | [_, _], [_, _], [], _, _, _ => ⟨_, rfl, rfl⟩)
    exact ⟨_, b⟩
  · obtain ⟨its, b⟩ := F.kbindsD (ps := ["self", "row", "column"]) 3 [] (fun us its ws => us) (by simp) (fun r1 r2 r3 => r1) (fun T kV doc pm an cdv ct us its ws h1 h2 h3 => match us, its, ws, h1, h2, h3 with | [_, _, _], [_, _], [], _, _, _ => ⟨_, rfl, rfl⟩)
    exact ⟨_, b⟩
  · obtain ⟨its, b⟩ := F.kbindsD (ps := ["self", "row", "column"]) 1 ["column", "row"] (fun us its ws => us ++ ws.reverse) (by simp) (fun r1 r2 r3 => r1.append (vals_rev r3)) (fun T kV doc pm an cdv ct us its ws h1 h2 h3 => match us, its, ws, h1, h2, h3 with | [_], [_, _], [_, _], _, _, _ => ⟨_, rfl, rfl⟩)
    exact ⟨_, b⟩
  · obtain ⟨its, b⟩ := F.kbindsD (ps := ["self", "row", "column"]) 1 ["column"] (fun us its ws => us ++ (its.take 1 ++ ws)) (by simp) (fun r1 r2 r3 => r1.append ((r2.take 1).append r3)) (fun T kV doc pm an cdv ct us its ws h1 h2 h3 => match us, its, ws, h1, h2, h3 with | [_], [_, _], [_], _, _, _ => ⟨_, rfl, rfl⟩)
    exact ⟨_, b⟩
  · obtain ⟨its, b⟩ := F.kbindsD (ps := ["self", "row", "column"]) 2 ["column"] (fun us its ws => us ++ ws) (by simp) (fun r1 r2 r3 => r1.append r3) (fun T kV doc pm an cdv ct us its ws h1 h2 h3 => match us, its, ws, h1, h2, h3 with | [_, _], [_, _], [_], _, _, _ => ⟨_, rfl, rfl⟩)
    exact ⟨_, b⟩
abbrev s_Apart : Stmt := inClass (top 17) 0
theorem sc_Apart : FnScope ["self", "one", "other"] ["self", "one", "other"] (defScope s_Apart) := ⟨rfl, rfl, rfl, by decide +kernel, rfl, by decide +kernel, by decide +kernel⟩
theorem in_Apart {c : Cl} (xc : XC K mg "Apart" c.C c.fI) (xk : XW.XK K c.C) (no : PySem.W.findIn K (.ref c.C) "one" = some none) (no2 : PySem.W.findIn K (.ref c.C) "other" = some none) (F : FunD K "__init__" "Apart.__init__" (defArgs s_Apart) (defBody s_Apart) (defScope s_Apart) [c.d1, c.d2] [] c.fI c.fd) : IN2 P w K mg base "Apart" "one" "other" c := by
  refine ⟨xc, xk, no, no2, by decide +kernel, ?_, ?_, ?_, ?_, ?_, ?_, ?_⟩
  · refine F.ok sc_Apart (fun vs H Q E h => ?_) (fun cdv A outer s H vs Q E hr h => ?_)
    · obtain ⟨a, C, v, u, rfl, _⟩ := h
      rfl
    · obtain ⟨a, C, v, u, rfl, ox, no, no2, ha, k⟩ := h
      refine ⟨_, pss_cons (ps_ost (pv 0) (pv 1)) (pss_one (ps_ost (pv 0) (pv 2))), ?_⟩
      refine ⟨_, rfl, _, rfl, a, C, rfl, ox, no, .inl ⟨ha, fun dx hd ne => ?_⟩⟩
      exact ⟨_, rfl, _, rfl, a, C, rfl, ox, no2, .inr ⟨dx, [("one", v)], upd_same, by rw [upd_ne ne, upd_same], (by show 1 ≤ 900; decide), k dx hd ne⟩⟩
  · obtain ⟨its, b⟩ := F.kbindsD (ps := ["self", "one", "other"]) 1 [] (fun us its ws => us ++ its) (by simp) (fun r1 r2 r3 => r1.append r2) (fun T kV doc pm an cdv ct us its ws h1 h2 h3 => match us, its, ws, h1, h2, h3 with | [_], [_, _], [], _, _, _ => ⟨_, rfl, rfl⟩)
    exact ⟨_, b⟩
  · obtain ⟨its, b⟩ := F.kbindsD (ps := ["self", "one", "other"]) 2 [] (fun us its ws => us ++ its.drop 1) (by simp) (fun r1 r2 r3 => r1.append (r2.drop 1)) (fun T kV doc pm an cdv ct us its ws h1 h2 h3 => match us, its, ws, h1, h2, h3 with | [_, _], [_, _], [], _, _, _ => ⟨_, rfl, rfl⟩)
    exact ⟨_, b⟩
  · obtain ⟨its, b⟩ := F.kbindsD (ps := ["self", "one", "other"]) 3 [] (fun us its ws => us) (by simp) (fun r1 r2 r3 => r1) (fun T kV doc pm an cdv ct us its ws h1 h2 h3 => match us, its, ws, h1, h2, h3 with | [_, _, _], [_, _], [], _, _, _ => ⟨_, rfl, rfl⟩)
    exact ⟨_, b⟩
  · obtain ⟨its, b⟩ := F.kbindsD (ps := ["self", "one", "other"]) 1 ["other", "one"] (fun us its ws => us ++ ws.reverse) (by simp) (fun r1 r2 r3 => r1.append (vals_rev r3)) (fun T kV doc pm an cdv ct us its ws h1 h2 h3 => match us, its, ws, h1, h2, h3 with | [_], [_, _], [_, _], _, _, _ => ⟨_, rfl, rfl⟩)
    exact ⟨_, b⟩
  · obtain ⟨its, b⟩ := F.kbindsD (ps := ["self", "one", "other"]) 1 ["other"] (fun us its ws => us ++ (its.take 1 ++ ws)) (by simp) (fun r1 r2 r3 => r1.append ((r2.take 1).append r3)) (fun T kV doc pm an cdv ct us its ws h1 h2 h3 => match us, its, ws, h1, h2, h3 with | [_], [_, _], [_], _, _, _ => ⟨_, rfl, rfl⟩)
    exact ⟨_, b⟩
  · obtain ⟨its, b⟩ := F.kbindsD (ps := ["self", "one", "other"]) 2 ["other"] (fun us its ws => us ++ ws) (by simp) (fun r1 r2 r3 => r1.append r3) (fun T kV doc pm an cdv ct us its ws h1 h2 h3 => match us, its, ws, h1, h2, h3 with | [_, _], [_, _], [_], _, _, _ => ⟨_, rfl, rfl⟩)
    exact ⟨_, b⟩
abbrev s_NoLead : Stmt := inClass (top 22) 0
theorem sc_NoLead : FnScope ["self", "title", "wrong"] ["self", "title", "wrong"] (defScope s_NoLead) := ⟨rfl, rfl, rfl, by decide +kernel, rfl, by decide +kernel, by decide +kernel⟩
theorem in_NoLead {c : Cl} (xc : XC K mg "NoLead" c.C c.fI) (xk : XW.XK K c.C) (no : PySem.W.findIn K (.ref c.C) "title" = some none) (no2 : PySem.W.findIn K (.ref c.C) "wrong" = some none) (F : FunD K "__init__" "NoLead.__init__" (defArgs s_NoLead) (defBody s_NoLead) (defScope s_NoLead) [c.d1, c.d2] [] c.fI c.fd) : IN2 P w K mg base "NoLead" "title" "wrong" c := by
  refine ⟨xc, xk, no, no2, by decide +kernel, ?_, ?_, ?_, ?_, ?_, ?_, ?_⟩
  · refine F.ok sc_NoLead (fun vs H Q E h => ?_) (fun cdv A outer s H vs Q E hr h => ?_)
    · obtain ⟨a, C, v, u, rfl, _⟩ := h
      rfl
    · obtain ⟨a, C, v, u, rfl, ox, no, no2, ha, k⟩ := h
      refine ⟨_, pss_cons (ps_ost (pv 0) (pv 1)) (pss_one (ps_ost (pv 0) (pv 2))), ?_⟩
      refine ⟨_, rfl, _, rfl, a, C, rfl, ox, no, .inl ⟨ha, fun dx hd ne => ?_⟩⟩
      exact ⟨_, rfl, _, rfl, a, C, rfl, ox, no2, .inr ⟨dx, [("title", v)], upd_same, by rw [upd_ne ne, upd_same], (by show 1 ≤ 900; decide), k dx hd ne⟩⟩
  · obtain ⟨its, b⟩ := F.kbindsD (ps := ["self", "title", "wrong"]) 1 [] (fun us its ws => us ++ its) (by simp) (fun r1 r2 r3 => r1.append r2) (fun T kV doc pm an cdv ct us its ws h1 h2 h3 => match us, its, ws, h1, h2, h3 with | [_], [_, _], [], _, _, _ => ⟨_, rfl, rfl⟩)
    exact ⟨_, b⟩
  · obtain ⟨its, b⟩ := F.kbindsD (ps := ["self", "title", "wrong"]) 2 [] (fun us its ws => us ++ its.drop 1) (by simp) (fun r1 r2 r3 => r1.append (r2.drop 1)) (fun T kV doc pm an cdv ct us its ws h1 h2 h3 => match us, its, ws, h1, h2, h3 with | [_, _], [_, _], [], _, _, _ => ⟨_, rfl, rfl⟩)
    exact ⟨_, b⟩
  · obtain ⟨its, b⟩ := F.kbindsD (ps := ["self", "title", "wrong"]) 3 [] (fun us its ws => us) (by simp) (fun r1 r2 r3 => r1) (fun T kV doc pm an cdv ct us its ws h1 h2 h3 => match us, its, ws, h1, h2, h3 with | [_, _, _], [_, _], [], _, _, _ => ⟨_, rfl, rfl⟩)
    exact ⟨_, b⟩
  · obtain ⟨its, b⟩ := F.kbindsD (ps := ["self", "title", "wrong"]) 1 ["wrong", "title"] (fun us its ws => us ++ ws.reverse) (by simp) (fun r1 r2 r3 => r1.append (vals_rev r3)) (fun T kV doc pm an cdv ct us its ws h1 h2 h3 => match us, its, ws, h1, h2, h3 with | [_], [_, _], [_, _], _, _, _ => ⟨_, rfl, rfl⟩)
    exact ⟨_, b⟩
  · obtain ⟨its, b⟩ := F.kbindsD (ps := ["self", "title", "wrong"]) 1 ["wrong"] (fun us its ws => us ++ (its.take 1 ++ ws)) (by simp) (fun r1 r2 r3 => r1.append ((r2.take 1).append r3)) (fun T kV doc pm an cdv ct us its ws h1 h2 h3 => match us, its, ws, h1, h2, h3 with | [_], [_, _], [_], _, _, _ => ⟨_, rfl, rfl⟩)
    exact ⟨_, b⟩
  · obtain ⟨its, b⟩ := F.kbindsD (ps := ["self", "title", "wrong"]) 2 ["wrong"] (fun us its ws => us ++ ws) (by simp) (fun r1 r2 r3 => r1.append r3) (fun T kV doc pm an cdv ct us its ws h1 h2 h3 => match us, its, ws, h1, h2, h3 with | [_, _], [_, _], [_], _, _, _ => ⟨_, rfl, rfl⟩)
    exact ⟨_, b⟩
end
end K30
set_option Elab.async false
set_option linter.all false
set_option maxRecDepth 100000
set_option maxHeartbeats 4000000
namespace K30
open PySem PySem.Spec PyProof.Rows L2 XW Evl
theorem rel_ref {a : Addr} : L2.RelV (.ref a) (.ref a) := rfl
theorem rel_ty {n : String} : L2.RelV (.ty n) (.type n) := rfl
theorem ix_listK {X : Cx} {K : PySem.W.Frag} (h : X.K = K) : IxR X (rIxL K) := by
  subst h
  exact ix_list
/-- a ** b of great numbers -/
theorem op_powW {X : Cx} : OpR X (binaryOp .Pow) (rI (fun i j => 0 ≤ j ∧ (Builtin.Int.intBits i : Int) * j ≤ 2 ^ 27) fun i j => .int (i ^ j.toNat)) := opI fun _ _ _ _ _ _ _ hc q => pow_int hc.1 hc.2 q
/-! ### where the text stands -/
structure Ads where
  NoChart : Cl
  NoStanding : Cl
  NoHappening : Cl
  NoName : Cl
  NoMove : Cl
  NoSaying : Cl
  TooGreat : Cl
  Gone : Cl
  Moved : Cl
  NoTitle : Cl
  Taken : Cl
  NoRun : Cl
  Beyond : Cl
  NoText : Cl
  Apart : Cl
  NoLead : Cl
  StandError : Addr
  Endless : Addr
  NoBack : Addr
  Unlike : Addr
  NoNumber : Addr
  NoGoal : Addr
  NoLine : Addr
  a__law_at : Addr
  fd__law_at : FuncData
  a__law_mixed : Addr
  fd__law_mixed : FuncData
  a__law_purse : Addr
  fd__law_purse : FuncData
  a__law_draw : Addr
  fd__law_draw : FuncData
  a__law_bare : Addr
  fd__law_bare : FuncData
  a__law_places : Addr
  fd__law_places : FuncData
  a__law_named : Addr
  fd__law_named : FuncData
  a__law_beside : Addr
  fd__law_beside : FuncData
  a__law_left_out : Addr
  fd__law_left_out : FuncData
  a__law_classes : Addr
  fd__law_classes : FuncData
  a_law : Addr
  fd_law : FuncData
def Ads.cls (A : Ads) : List Addr := [A.Endless, A.NoBack, A.Unlike, A.NoNumber, A.NoGoal, A.NoLine, A.NoChart.C, A.NoStanding.C, A.NoHappening.C, A.Beyond.C, A.NoText.C, A.NoName.C, A.NoMove.C, A.NoSaying.C, A.TooGreat.C, A.Gone.C, A.Apart.C, A.Moved.C, A.NoTitle.C, A.Taken.C, A.NoRun.C, A.NoLead.C]
abbrev s__law_at : Stmt := top 25
theorem sc__law_at : FnScope ["_law_script", "_law_k"] ["_law_script", "_law_k"] (defScope s__law_at) := ⟨rfl, rfl, rfl, by decide +kernel, rfl, by decide +kernel, by decide +kernel⟩
abbrev s__law_mixed : Stmt := top 26
theorem sc__law_mixed : FnScope ["_law_cell", "_law_k", "_law_figure"] ["_law_cell", "_law_k"] (defScope s__law_mixed) := ⟨rfl, rfl, rfl, by decide +kernel, rfl, by decide +kernel, by decide +kernel⟩
abbrev s__law_purse : Stmt := top 27
theorem sc__law_purse : FnScope ["_law_script", "_law_at_here", "_law_cell"] ["_law_script", "_law_at_here"] (defScope s__law_purse) := ⟨rfl, rfl, rfl, by decide +kernel, rfl, by decide +kernel, by decide +kernel⟩
abbrev s__law_draw : Stmt := top 28
theorem sc__law_draw : FnScope ["_law_purse_here", "_law_out_of", "_law_drawn", "_law_figure", "_law_k"] ["_law_purse_here", "_law_out_of"] (defScope s__law_draw) := ⟨rfl, rfl, rfl, by decide +kernel, rfl, by decide +kernel, by decide +kernel⟩
abbrev s__law_bare : Stmt := top 29
theorem sc__law_bare : FnScope ["_law_found"] [] (defScope s__law_bare) := ⟨rfl, rfl, rfl, by decide +kernel, rfl, by decide +kernel, by decide +kernel⟩
abbrev s__law_places : Stmt := top 30
theorem sc__law_places : FnScope ["_law_a", "_law_b", "_law_found", "_law_behind"] ["_law_a", "_law_b"] (defScope s__law_places) := ⟨rfl, rfl, rfl, by decide +kernel, rfl, by decide +kernel, by decide +kernel⟩
abbrev s__law_named : Stmt := top 31
theorem sc__law_named : FnScope ["_law_a", "_law_b", "_law_found", "_law_behind"] ["_law_a", "_law_b"] (defScope s__law_named) := ⟨rfl, rfl, rfl, by decide +kernel, rfl, by decide +kernel, by decide +kernel⟩
abbrev s__law_beside : Stmt := top 32
theorem sc__law_beside : FnScope ["_law_a", "_law_b", "_law_early", "_law_late", "_law_found"] ["_law_a", "_law_b"] (defScope s__law_beside) := ⟨rfl, rfl, rfl, by decide +kernel, rfl, by decide +kernel, by decide +kernel⟩
abbrev s__law_left_out : Stmt := top 33
theorem sc__law_left_out : FnScope ["_law_found"] [] (defScope s__law_left_out) := ⟨rfl, rfl, rfl, by decide +kernel, rfl, by decide +kernel, by decide +kernel⟩
abbrev s__law_classes : Stmt := top 34
theorem sc__law_classes : FnScope ["_law_some", "_law_k", "_law_here", "_law_kinds", "_law_j"] [] (defScope s__law_classes) := ⟨rfl, rfl, rfl, by decide +kernel, rfl, by decide +kernel, by decide +kernel⟩
abbrev s_law : Stmt := top 35
theorem sc_law : FnScope ["_law_script", "_law_cell", "_law_purse_here", "_law_some", "_law_a", "_law_b", "_law_x", "_law_y", "_law_k"] ["_law_script"] (defScope s_law) := ⟨rfl, rfl, rfl, by decide +kernel, rfl, by decide +kernel, by decide +kernel⟩
structure Txt (K : PySem.W.Frag) (mg : Str → Option Value) (A : Ads) : Prop where
  g__law_at : mg "_law_at" = some (.ref A.a__law_at)
  F__law_at : Fun K "_law_at" "_law_at" s__law_at A.a__law_at A.fd__law_at
  b__law_at : Binds K A.fd__law_at ["_law_script", "_law_k"] []
  g__law_mixed : mg "_law_mixed" = some (.ref A.a__law_mixed)
  F__law_mixed : Fun K "_law_mixed" "_law_mixed" s__law_mixed A.a__law_mixed A.fd__law_mixed
  b__law_mixed : Binds K A.fd__law_mixed ["_law_cell", "_law_k"] []
  g__law_purse : mg "_law_purse" = some (.ref A.a__law_purse)
  F__law_purse : Fun K "_law_purse" "_law_purse" s__law_purse A.a__law_purse A.fd__law_purse
  b__law_purse : Binds K A.fd__law_purse ["_law_script", "_law_at_here"] []
  g__law_draw : mg "_law_draw" = some (.ref A.a__law_draw)
  F__law_draw : Fun K "_law_draw" "_law_draw" s__law_draw A.a__law_draw A.fd__law_draw
  b__law_draw : Binds K A.fd__law_draw ["_law_purse_here", "_law_out_of"] []
  g__law_bare : mg "_law_bare" = some (.ref A.a__law_bare)
  F__law_bare : Fun K "_law_bare" "_law_bare" s__law_bare A.a__law_bare A.fd__law_bare
  b__law_bare : Binds K A.fd__law_bare [] []
  g__law_places : mg "_law_places" = some (.ref A.a__law_places)
  F__law_places : Fun K "_law_places" "_law_places" s__law_places A.a__law_places A.fd__law_places
  b__law_places : Binds K A.fd__law_places ["_law_a", "_law_b"] []
  g__law_named : mg "_law_named" = some (.ref A.a__law_named)
  F__law_named : Fun K "_law_named" "_law_named" s__law_named A.a__law_named A.fd__law_named
  b__law_named : Binds K A.fd__law_named ["_law_a", "_law_b"] []
  g__law_beside : mg "_law_beside" = some (.ref A.a__law_beside)
  F__law_beside : Fun K "_law_beside" "_law_beside" s__law_beside A.a__law_beside A.fd__law_beside
  b__law_beside : Binds K A.fd__law_beside ["_law_a", "_law_b"] []
  g__law_left_out : mg "_law_left_out" = some (.ref A.a__law_left_out)
  F__law_left_out : Fun K "_law_left_out" "_law_left_out" s__law_left_out A.a__law_left_out A.fd__law_left_out
  b__law_left_out : Binds K A.fd__law_left_out [] []
  g__law_classes : mg "_law_classes" = some (.ref A.a__law_classes)
  F__law_classes : Fun K "_law_classes" "_law_classes" s__law_classes A.a__law_classes A.fd__law_classes
  b__law_classes : Binds K A.fd__law_classes [] []
  F_law : Fun K "law" "law" s_law A.a_law A.fd_law
  b_law : Binds K A.fd_law ["_law_script"] []
  n_len : mg "len" = none
  n_max : mg "max" = none
  n_range : mg "range" = none
  n_str : mg "str" = none
  n_isinstance : mg "isinstance" = none
  n_enumerate : mg "enumerate" = none
  n_ValueError : mg "ValueError" = none
  g_StandError : mg "StandError" = some (.ref A.StandError)
  x_StandError : PySem.W.excIn K A.StandError [.type "ValueError", .type "Exception", .type "BaseException", .type "object"] "ValueError.__new__" = true
  k_StandError : PySem.W.keepIn K (.ref A.StandError) = true
  xk_StandError : XW.XK K A.StandError
  g_Endless : mg "Endless" = some (.ref A.Endless)
  x_Endless : PySem.W.excIn K A.Endless [.type "ValueError", .type "Exception", .type "BaseException", .type "object"] "ValueError.__new__" = true
  k_Endless : PySem.W.keepIn K (.ref A.Endless) = true
  xk_Endless : XW.XK K A.Endless
  g_NoBack : mg "NoBack" = some (.ref A.NoBack)
  x_NoBack : PySem.W.excIn K A.NoBack [.type "ValueError", .type "Exception", .type "BaseException", .type "object"] "ValueError.__new__" = true
  k_NoBack : PySem.W.keepIn K (.ref A.NoBack) = true
  xk_NoBack : XW.XK K A.NoBack
  g_Unlike : mg "Unlike" = some (.ref A.Unlike)
  x_Unlike : PySem.W.excIn K A.Unlike [.type "ValueError", .type "Exception", .type "BaseException", .type "object"] "ValueError.__new__" = true
  k_Unlike : PySem.W.keepIn K (.ref A.Unlike) = true
  xk_Unlike : XW.XK K A.Unlike
  g_NoNumber : mg "NoNumber" = some (.ref A.NoNumber)
  x_NoNumber : PySem.W.excIn K A.NoNumber [.type "ValueError", .type "Exception", .type "BaseException", .type "object"] "ValueError.__new__" = true
  k_NoNumber : PySem.W.keepIn K (.ref A.NoNumber) = true
  xk_NoNumber : XW.XK K A.NoNumber
  g_NoGoal : mg "NoGoal" = some (.ref A.NoGoal)
  x_NoGoal : PySem.W.excIn K A.NoGoal [.type "ValueError", .type "Exception", .type "BaseException", .type "object"] "ValueError.__new__" = true
  k_NoGoal : PySem.W.keepIn K (.ref A.NoGoal) = true
  xk_NoGoal : XW.XK K A.NoGoal
  g_NoLine : mg "NoLine" = some (.ref A.NoLine)
  x_NoLine : PySem.W.excIn K A.NoLine [.type "ValueError", .type "Exception", .type "BaseException", .type "object"] "ValueError.__new__" = true
  k_NoLine : PySem.W.keepIn K (.ref A.NoLine) = true
  xk_NoLine : XW.XK K A.NoLine
  g_NoChart : mg "NoChart" = some (.ref A.NoChart.C)
  g_NoStanding : mg "NoStanding" = some (.ref A.NoStanding.C)
  g_NoHappening : mg "NoHappening" = some (.ref A.NoHappening.C)
  g_NoName : mg "NoName" = some (.ref A.NoName.C)
  g_NoMove : mg "NoMove" = some (.ref A.NoMove.C)
  g_NoSaying : mg "NoSaying" = some (.ref A.NoSaying.C)
  g_TooGreat : mg "TooGreat" = some (.ref A.TooGreat.C)
  g_Gone : mg "Gone" = some (.ref A.Gone.C)
  g_Moved : mg "Moved" = some (.ref A.Moved.C)
  g_NoTitle : mg "NoTitle" = some (.ref A.NoTitle.C)
  g_Taken : mg "Taken" = some (.ref A.Taken.C)
  g_NoRun : mg "NoRun" = some (.ref A.NoRun.C)
  g_Beyond : mg "Beyond" = some (.ref A.Beyond.C)
  g_NoText : mg "NoText" = some (.ref A.NoText.C)
  g_Apart : mg "Apart" = some (.ref A.Apart.C)
  g_NoLead : mg "NoLead" = some (.ref A.NoLead.C)
  kit : ∀ (i j : Nat) (C D : Addr), A.cls[i]? = some C → A.cls[j]? = some D → PySem.W.kitOne K (.ref C) (.ref D) = some (decide (i = j))
  kitS : ∀ C ∈ A.cls, PySem.W.kitOne K (.ref C) (.ref A.StandError) = some true
  kitV : ∀ C ∈ A.StandError :: A.cls, PySem.W.kitOne K (.ref C) (.type "ValueError") = some true
  xks : ∀ C ∈ A.cls, XW.XK K C
structure Ins (P : Program) (w : World) (K : PySem.W.Frag) (mg : Str → Option Value) (base : Heap) (A : Ads) : Prop where
  NoChart : IN1 P w K mg base "NoChart" "wrong" A.NoChart
  NoStanding : IN1 P w K mg base "NoStanding" "wrong" A.NoStanding
  NoHappening : IN1 P w K mg base "NoHappening" "what" A.NoHappening
  NoName : IN1 P w K mg base "NoName" "name" A.NoName
  NoMove : IN1 P w K mg base "NoMove" "number" A.NoMove
  NoSaying : IN1 P w K mg base "NoSaying" "wrong" A.NoSaying
  TooGreat : IN1 P w K mg base "TooGreat" "most" A.TooGreat
  Gone : IN1 P w K mg base "Gone" "name" A.Gone
  Moved : IN1 P w K mg base "Moved" "name" A.Moved
  NoTitle : IN1 P w K mg base "NoTitle" "title" A.NoTitle
  Taken : IN1 P w K mg base "Taken" "title" A.Taken
  NoRun : IN1 P w K mg base "NoRun" "title" A.NoRun
  Beyond : IN2 P w K mg base "Beyond" "fact" "stand" A.Beyond
  NoText : IN2 P w K mg base "NoText" "row" "column" A.NoText
  Apart : IN2 P w K mg base "Apart" "one" "other" A.Apart
  NoLead : IN2 P w K mg base "NoLead" "title" "wrong" A.NoLead
local macro_rules | `(tactic| walk_at "ev") => `(tactic| repeat (first
  | exact ev_c | exact ev_var rfl | refine ev_op ?_ ?_ rv_I0 | refine ev_op ?_ ?_ (rv_I ?_)
  | (show (0 : Int) < _; first | decide | omega)
  | exact (Or.inr ⟨by decide, by decide⟩ : CMul _ _) | exact (Or.inl ⟨by decide, by decide⟩ : CMul _ _) | exact (Or.inl ⟨by omega, by omega⟩ : CMul _ _) | exact (Or.inr ⟨by omega, by omega⟩ : CMul _ _)))
section
variable {P : Program} {w : World} {K : PySem.W.Frag} {mg : Str → Option Value} {base : Heap} {A : Ads}
/-! ### _law_at -/
def sp_at (K : PySem.W.Frag) : Sp := fun vs H Q _ => ∃ (a : Addr) (ns : List Int) (k : Int), vs = [.ref a, .int k] ∧ SqL K H a (ns.map V.int) ∧ 0 ≤ k ∧ k ≤ 100 ∧ Q (.int (ns.getD k.toNat 0)) H
theorem ok_at (T : Txt K mg A) : FnOk P w K mg base CX0 1 A.a__law_at A.fd__law_at ["_law_script", "_law_k"] (sp_at K) := by
  refine T.F__law_at.ok sc__law_at (fun vs H Q E h => ?_) (fun cdv Ar outer s H vs Q E hr h => ?_)
  · obtain ⟨a, ns, k, rfl, _⟩ := h
    rfl
  · obtain ⟨a, ns, k, rfl, hS, h0, h1, q⟩ := h
    refine ⟨_, (pss_cons (ps_if (pt_cmpR op_lt (pv 1) (pe_callB call_len_seq (by rfl) T.n_len PySem.boot_len (pa_cons (pv 0) pa_nil)) (nomark _)) (pss_one (ps_ret (pe_ix ix_list (pv 0) (pv 1) (fun _ _ => rfl)))) pss_nil)
      (pss_one (ps_ret pe_int))), ?_⟩
    refine ⟨_, rfl, _, rfl, a, _, rfl, .inl hS, _, _, rfl, rfl, _, rfl, ite2 (fun c => ?_) (fun c => ?_)⟩
    · have c1 : k < ((ns.map V.int).length : Int) := of_decide_eq_true c
      rw [List.length_map] at c1
      have c2 : k.toNat < ns.length := by omega
      refine ⟨_, rfl, _, rfl, a, _, _, .int ns[k.toNat], rfl, rfl, hS, at_of (j := k.toNat) (by omega) (by rw [List.getElem?_map, List.getElem?_eq_getElem c2]; rfl), ?_⟩
      rw [List.getD_eq_getElem?_getD, List.getElem?_eq_getElem c2] at q
      exact q
    · have c1 : ¬ k < ((ns.map V.int).length : Int) := fun z => c (decide_eq_true z)
      rw [List.length_map] at c1
      rw [List.getD_eq_getElem?_getD, List.getElem?_eq_none (by omega)] at q
      exact q
/-! ### _law_mixed -/
def sp_mixed : Sp := fun vs H Q _ => ∃ (c k : Int), vs = [.int c, .int k] ∧ 0 ≤ c ∧ c < 2147483647 ∧ 0 ≤ k ∧ k ≤ 100000 ∧ ∀ r H', Ex H H' → H' = H → 0 ≤ r → r < 2147483587 → Q (.int r) H'
theorem ok_mixed (T : Txt K mg A) : FnOk P w K mg base CX0 1 A.a__law_mixed A.fd__law_mixed ["_law_cell", "_law_k"] sp_mixed := by
  refine T.F__law_mixed.ok sc__law_mixed (fun vs H Q E h => ?_) (fun cdv Ar outer s H vs Q E hr h => ?_)
  · obtain ⟨c, k, rfl, _⟩ := h
    rfl
  · obtain ⟨c, k, rfl, h0, h1, h2, h3, q⟩ := h
    refine ⟨_, (pss_cons (ps_set (i := 2) sc__law_mixed.nd rfl (by first | exact Or.inl rfl | exact Or.inr rfl) (pe_op op_mod (pe_op op_add (pe_op op_add (pe_op op_add (pe_op op_mul (pv 0) pe_int) (pe_op op_mul (pe_op op_mul pe_int (pv 1)) (pv 1))) (pv 1)) pe_int) pe_int))
      (pss_cons (ps_set (i := 2) sc__law_mixed.nd rfl (by first | exact Or.inl rfl | exact Or.inr rfl) (pe_op op_mod (pe_op op_add (pe_op op_mul (pv 2) (pv 2)) pe_int) pe_int))
      (pss_one (ps_ret (pe_op op_mod (pe_op op_mul (pv 2) pe_int) pe_int))))), ?_⟩
    refine ⟨_, rfl, _, _, rfl, rfl, .inr ⟨by decide, by decide⟩, _, rfl, _, _, rfl, rfl, .inl ⟨by decide, by decide⟩, _, rfl, _, _, rfl, rfl, .inr ⟨by omega, by omega⟩, _, _, rfl, rfl, _, rfl, _, _, rfl, rfl, _, _, rfl, rfl, _, _, rfl, rfl, (by show (0 : Int) < 2147483647; decide), ?_⟩
    generalize hx : (c * 1103515245 + 7919 * k * k + k + 1) % 2147483647 = x
    have x0 : 0 ≤ x := by omega
    have x1 : x < 2147483647 := by omega
    refine ⟨_, rfl, _, rfl, _, _, rfl, rfl, .inl ⟨by omega, by omega⟩, _, _, rfl, rfl, _, _, rfl, rfl, (by show (0 : Int) < 2147483629; decide), ?_⟩
    generalize hy : (x * x + 69621) % 2147483629 = y
    have y0 : 0 ≤ y := by omega
    have y1 : y < 2147483647 := by omega
    refine ⟨_, rfl, _, _, rfl, rfl, .inr ⟨by decide, by decide⟩, _, _, rfl, rfl, (by show (0 : Int) < 2147483587; decide), ?_⟩
    exact q _ H (Ex.refl H) rfl (by omega) (by omega)
/-! ### _law_purse -/
def sp_purse (K : PySem.W.Frag) : Sp := fun vs H Q _ => ∃ (a : Addr) (ns : List Int) (k : Int), vs = [.ref a, .int k] ∧ SqL K H a (ns.map V.int) ∧ 0 ≤ k ∧ k ≤ 10 ∧
  ∀ p x y, H p = none → 0 ≤ x → 0 ≤ y → y < 2147483647 → Q (.ref p) (upd H p (.lst [.int x, .int y, .int (1000 * k)]))
theorem ok_purse (T : Txt K mg A) : FnOk P w K mg base CX0 2 A.a__law_purse A.fd__law_purse ["_law_script", "_law_at_here"] (sp_purse K) := by
  have G__law_at := ok_at (P := P) (w := w) (base := base) T
  refine T.F__law_purse.ok sc__law_purse (fun vs H Q E h => ?_) (fun cdv Ar outer s H vs Q E hr h => ?_)
  · obtain ⟨a, ns, k, rfl, _⟩ := h
    rfl
  · obtain ⟨a, ns, k, rfl, hS, h0, h1, q⟩ := h
    refine ⟨_, (pss_cons (ps_set (i := 2) sc__law_purse.nd rfl (by first | exact Or.inl rfl | exact Or.inr rfl) (pe_call G__law_at (hr.mono (by decide)) rfl T.g__law_at T.F__law_at.kp T.b__law_at .nil pass0 (pa_cons (pv 0) (pa_cons (pv 1) pa_nil))))
      (pss_one (ps_ret (pe_lst (pa_cons (pe_op op_mod (pe_callB (call_max2 rfl) (by rfl) T.n_max (by decide +kernel) (pa_cons (pe_op op_sub (pv 2) (pe_op op_pow pe_int pe_int)) (pa_cons pe_int pa_nil))) (pe_op op_powW (pe_op op_pow pe_int pe_int) pe_int)) (pa_cons (pe_op op_mod (pv 2) pe_int) (pa_cons (pe_op op_mul pe_int (pv 1)) pa_nil))))))), ?_⟩
    refine ⟨_, rfl, _, rfl, a, ns, k, rfl, hS, h0, by omega, ?_⟩
    generalize ns.getD k.toNat 0 = c
    refine ⟨_, rfl, _, _, rfl, rfl, ⟨by decide, by decide, by decide⟩, _, _, rfl, rfl, _, _, rfl, ?_⟩
    refine ⟨_, _, rfl, rfl, ⟨by decide, by decide, by decide⟩, _, _, rfl, rfl, ⟨by decide, by decide +kernel⟩, _, _, rfl, rfl, (by show (0 : Int) < ((10 : Int) ^ (60 : Int).toNat) ^ (10 : Int).toNat; decide +kernel), ?_⟩
    refine ⟨_, rfl, _, _, rfl, rfl, (by show (0 : Int) < 2147483647; decide), _, rfl, _, _, rfl, rfl, .inl ⟨by decide, by decide⟩, (by show 3 ≤ sizeLine; decide), fun p hp => ?_⟩
    exact q p _ _ hp (Int.emod_nonneg _ (by decide +kernel)) (by omega) (by omega)
/-! ### _law_draw -/
def sp_draw : Sp := fun vs H Q _ => ∃ (l : Addr) (x y z n : Int), vs = [.ref l, .int n] ∧ H l = some (.lst [.int x, .int y, .int z]) ∧ 0 ≤ x ∧ 0 ≤ y ∧ y < 2147483647 ∧ 0 ≤ z ∧ z ≤ 50000 ∧ 1 ≤ n ∧ n ≤ 1000 ∧
  ∀ r x' z', 0 ≤ r → r < n → 0 ≤ x' → z ≤ z' → z' ≤ z + 1 → Q (.int r) (upd H l (.lst [.int x', .int y, .int z']))
theorem bits_small {n : Int} (h0 : 1 ≤ n) (h1 : n ≤ 1000) : ((Builtin.Int.intBits n : Nat) : Int) / 30 = 0 := by
  have h : Builtin.Int.intBits n < 30 := by
    have e : n = ((n.toNat : Nat) : Int) := by omega
    rw [e]
    have a : ∀ m : Nat, m < 1001 → Builtin.Int.intBits ((m : Nat) : Int) < 30 := by decide +kernel
    exact a n.toNat (by omega)
  omega
theorem ok_draw (T : Txt K mg A) : FnOk P w K mg base CX0 2 A.a__law_draw A.fd__law_draw ["_law_purse_here", "_law_out_of"] sp_draw := by
  have G__law_mixed := ok_mixed (P := P) (w := w) (base := base) T
  refine T.F__law_draw.ok sc__law_draw (fun vs H Q E h => ?_) (fun cdv Ar outer s H vs Q E hr h => ?_)
  · obtain ⟨l, x, y, z, n, rfl, _⟩ := h
    rfl
  · obtain ⟨l, x, y, z, n, rfl, hl, x0, y0, y1, z0, z1, n0, n1, q⟩ := h
    have hb := bits_small n0 n1
    refine ⟨_, (pss_cons (ps_if (pt_cmpR op_gt (pe_ix ix_list (pv 0) pe_int (fun _ _ => rfl)) pe_int (nomark _)) (pss_cons (ps_set (i := 2) sc__law_draw.nd rfl (by first | exact Or.inl rfl | exact Or.inr rfl) (pe_op op_mod (pe_ix ix_list (pv 0) pe_int (fun _ _ => rfl)) (pv 1)))
      (pss_cons (ps_asg (pe_op op_fdiv (pe_ix ix_list (pv 0) pe_int (fun _ _ => rfl)) (pv 1)) (pg_sub (pv 0) pe_int set_list))
      (pss_one (ps_ret (pv 2))))) pss_nil)
      (pss_cons (ps_set (i := 3) sc__law_draw.nd rfl (by first | exact Or.inl rfl | exact Or.inr rfl) pe_int)
      (pss_cons (ps_for PassesOwn.never rfl (pi_range1 (by rfl) T.n_range (pa_cons (pe_op op_add pe_int (pe_op op_fdiv (pe_bits (pv 1)) pe_int)) pa_nil)) (pg_name (i := 4) sc__law_draw.nd rfl (by first | exact Or.inl rfl | exact Or.inr rfl)) (pss_cons (ps_asg (pe_op op_add (pe_ix ix_list (pv 0) pe_int (fun _ _ => rfl)) pe_int) (pg_sub (pv 0) pe_int set_list))
      (pss_one (ps_set (i := 3) sc__law_draw.nd rfl (by first | exact Or.inl rfl | exact Or.inr rfl) (pe_op op_add (pe_op op_mul (pv 3) pe_int) (pe_call G__law_mixed (hr.mono (by decide)) rfl T.g__law_mixed T.F__law_mixed.kp T.b__law_mixed .nil pass0 (pa_cons (pe_ix ix_list (pv 0) pe_int (fun _ _ => rfl)) (pa_cons (pe_ix ix_list (pv 0) pe_int (fun _ _ => rfl)) pa_nil))))))))
      (pss_one (ps_ret (pe_op op_mod (pv 3) (pv 1))))))), ?_⟩
    refine ⟨_, rfl, l, _, _, .int x, rfl, rfl, SqL.of hl, at_of (j := 0) rfl rfl, _, _, rfl, rfl, _, rfl, ite2 (fun c => ?_) (fun c => ?_)⟩
    · have c1 : 0 < x := of_decide_eq_true c
      refine ⟨_, rfl, l, _, _, .int x, rfl, rfl, SqL.of hl, at_of (j := 0) rfl rfl, _, rfl, _, _, rfl, rfl, (by show (0 : Int) < n; omega), ?_⟩
      refine ⟨_, rfl, l, _, _, .int x, rfl, rfl, SqL.of hl, at_of (j := 0) rfl rfl, _, rfl, _, _, rfl, rfl, ⟨by omega, by omega⟩, ?_⟩
      refine ⟨_, rfl, l, _, _, 0, rfl, rfl, hl, rfl, ?_⟩
      refine ⟨_, rfl, q (x % n) (x / n) z (Int.emod_nonneg _ (by omega)) (Int.emod_lt_of_pos _ (by omega)) (Int.ediv_nonneg x0 (by omega)) (by omega) (by omega)⟩
    · refine ⟨_, rfl, n, rfl, _, _, rfl, rfl, ⟨by decide, by decide⟩, _, _, rfl, rfl, 1 + ((Builtin.Int.intBits n : Nat) : Int) / 30, rfl, by omega, by omega, ?_⟩
      rw [hb]
      refine for_range (lo := 0) (n := 1) (fun i σ H' => (i = 0 ∧ H' = H ∧ σ = [some (.ref l), some (.int n), none, some (.int 0), none]) ∨
        (i = 1 ∧ H' = upd H l (.lst [.int x, .int y, .int (z + 1)]) ∧ ∃ (f k : Int), 0 ≤ f ∧ σ = [some (.ref l), some (.int n), none, some (.int f), some (.int k)])) (.inl ⟨rfl, rfl, rfl⟩) ?_ ?_
      · rintro i σ H' hi (⟨rfl, rfl, rfl⟩ | ⟨rfl, _⟩)
        · refine ⟨_, rfl, l, _, _, .int z, rfl, rfl, SqL.of hl, at_of (j := 2) rfl rfl, _, _, rfl, rfl, _, rfl, l, _, _, 2, rfl, rfl, hl, rfl, ?_⟩
          have hl2 : upd H' l (.lst [.int x, .int y, .int (z + 1)]) l = some (.lst [.int x, .int y, .int (z + 1)]) := upd_same
          refine ⟨_, rfl, _, _, rfl, rfl, .inl ⟨by decide, by decide⟩, _, rfl, l, _, _, .int y, rfl, rfl, SqL.of hl2, at_of (j := 1) rfl rfl, _, rfl, l, _, _, .int (z + 1), rfl, rfl, SqL.of hl2, at_of (j := 2) rfl rfl, ?_⟩
          refine ⟨y, z + 1, rfl, y0, y1, by omega, by omega, fun r H2 _ e2 r0 r1 => ?_⟩
          subst e2
          refine ⟨_, _, rfl, rfl, .inr ⟨rfl, rfl, _, _, ?_, rfl⟩⟩
          omega
        · omega
      · rintro σ H' (⟨h, _⟩ | ⟨_, rfl, f, k, f0, rfl⟩)
        · omega
        · refine ⟨_, rfl, _, rfl, _, _, rfl, rfl, (by show (0 : Int) < n; omega), ?_⟩
          exact q (f % n) x (z + 1) (Int.emod_nonneg _ (by omega)) (Int.emod_lt_of_pos _ (by omega)) x0 (by omega) (by omega)
end
end K30
set_option Elab.async false
set_option linter.all false
set_option maxRecDepth 100000
set_option maxHeartbeats 8000000
namespace K30
open PySem PySem.Spec PyProof.Rows L2 XW Evl
/-! ### data that may be compared -/
structure Good (d : PyData) : Prop where
  lay : d.canLay0 = true
  dep : d.depth ≤ 60
theorem lay_all : ∀ {ds : List PyData}, (∀ d ∈ ds, Good d) → PyData.canLayAll0 ds = true
  | [], _ => rfl
  | d :: ds, h => by
    show (PyData.canLay0 d && PyData.canLayAll0 ds) = true
    rw [(h d (List.mem_cons_self ..)).lay, lay_all fun x hx => h x (List.mem_cons_of_mem _ hx)] <;> rfl
theorem dep_all : ∀ {ds : List PyData}, (∀ d ∈ ds, Good d) → PyData.depthAll ds ≤ 60
  | [], _ => Nat.zero_le _
  | d :: ds, h => by
    show max (PyData.depth d) (PyData.depthAll ds) ≤ 60
    exact Nat.max_le.mpr ⟨(h d (List.mem_cons_self ..)).dep, dep_all fun x hx => h x (List.mem_cons_of_mem _ hx)⟩
theorem shaped_list {ds : List PyData} (h : ∀ d ∈ ds, Good d) : SeqAt.shaped (.list ds) = true := by
  have e1 : PyData.canLay0 (.list ds) = true := lay_all h
  have e2 : PyData.depth (.list ds) ≤ 64 := by
    show PyData.depthAll ds + 1 ≤ 64
    have := dep_all h
    omega
  unfold SeqAt.shaped
  rw [e1, decide_eq_true e2] <;> rfl
theorem same_list {ds : List PyData} (h : ∀ d ∈ ds, Good d) : PyData.eqv (.list ds) (.list ds) = true := SeqAt.eqv_refl _ (lay_all h)
local macro_rules | `(tactic| walk_at "as") => `(tactic| repeat (first
  | exact ea_nil | exact ev_var rfl | exact ev_c | apply ea_cons
  | assumption | apply ev_f1 | apply ev_f2a | apply ev_f2b
  | exact fun _ => rfl | exact rfl | decide))
section
variable {P : Program} {w : World} {K : PySem.W.Frag} {mg : Str → Option Value} {base : Heap} {A : Ads}
/-- what places, named and beside promise -/
def sp_tf (K : PySem.W.Frag) : Sp := fun vs H Q _ => ∃ (a b : V) (da db : PyData), vs = [a, b] ∧ Dp K H a da ∧ Dp K H b db ∧ Good da ∧ Good db ∧ ∀ H', Ex H H' → Q (.bl true) H'
theorem dpa_rep {H : Hp} {a : V} {d : PyData} (h : Dp K H a d) : ∀ n, DpAll K H (List.replicate n a) (List.replicate n d)
  | 0 => .nil
  | n + 1 => .cons h (dpa_rep h n)
theorem good_rep {d : PyData} (g : Good d) (n : Nat) : ∀ x ∈ List.replicate n d, Good x := fun x hx => by
  rw [(List.mem_replicate.mp hx).2]
  exact g
/-- found == [a] * n -/
theorem ev_allA {σ : L2.St} {H : Hp} {te te' : TE} {l : Addr} {a : V} {d : PyData} {n : Nat} {k : Int} (hk : k = (n : Int)) (hn : n ≤ 100) (ha : Ev te σ H (.ref l)) (hl : H l = some (.lst (List.replicate n a))) (hd : Dp K H a d) (g : Good d)
    (h1 : EvL te' σ H [a]) : Ev (tOp (rEqD K) te (tOp rRep te' (tC (.int k)))) σ H (.bl true) := by
  subst hk
  have e : (List.replicate ((n : Nat) : Int).toNat [a]).flatten = List.replicate n a := by
    rw [show ((n : Nat) : Int).toNat = n from by omega]
    induction n with
    | zero => rfl
    | succ n ih => simp [List.replicate_succ]
  refine ev_is (ev_eqLL (ds := List.replicate n d) (es := List.replicate n d) ha hl (ys := List.replicate n a) ?_ (dpa_rep hd n) (dpa_rep hd n) (shaped_list (good_rep g n)) (shaped_list (good_rep g n))) (by rw [same_list (good_rep g n)])
  have z := el_rep (te' := tC (.int (n : Int))) h1 (fun _ => ev_c) (by omega) (by omega) (by simp)
  rw [e] at z
  exact z
theorem ok_places (T : Txt K mg A) (I : Ins P w K mg base A) : FnOk P w K mg base CX0 3 A.a__law_places A.fd__law_places ["_law_a", "_law_b"] (sp_tf K) := by
  refine T.F__law_places.ok sc__law_places (fun vs H Q E h => ?_) (fun cdv Ar outer s H vs Q E hr h => ?_)
  · obtain ⟨a, b, da, db, rfl, _⟩ := h
    rfl
  · obtain ⟨a, b, da, db, rfl, ha, hb, ga, gb, q⟩ := h
    refine ⟨_, (pss_cons (ps_set (i := 2) sc__law_places.nd rfl (by first | exact Or.inl rfl | exact Or.inr rfl) (pe_lst (pa_cons (pe_exf (mk1 I.NoChart (hr.mono (by decide)) rfl (pa_cons (pv 0) pa_nil))) (pa_cons (pe_exf (mk1 I.NoStanding (hr.mono (by decide)) rfl (pa_cons (pv 0) pa_nil))) (pa_cons (pe_exf (mk1 I.NoHappening (hr.mono (by decide)) rfl (pa_cons (pv 0) pa_nil))) (pa_cons (pe_exf (mk1 I.NoName (hr.mono (by decide)) rfl (pa_cons (pv 0) pa_nil))) (pa_cons (pe_exf (mk1 I.NoMove (hr.mono (by decide)) rfl (pa_cons (pv 0) pa_nil))) pa_nil)))))))
      (pss_cons (ps_set (i := 2) sc__law_places.nd rfl (by first | exact Or.inl rfl | exact Or.inr rfl) (pe_op op_cat (pv 2) (pe_lst (pa_cons (pe_exf (mk1 I.NoSaying (hr.mono (by decide)) rfl (pa_cons (pv 0) pa_nil))) (pa_cons (pe_exf (mk1 I.TooGreat (hr.mono (by decide)) rfl (pa_cons (pv 0) pa_nil))) (pa_cons (pe_exf (mk1 I.Gone (hr.mono (by decide)) rfl (pa_cons (pv 0) pa_nil))) (pa_cons (pe_exf (mk1 I.Moved (hr.mono (by decide)) rfl (pa_cons (pv 0) pa_nil))) (pa_cons (pe_exf (mk1 I.NoTitle (hr.mono (by decide)) rfl (pa_cons (pv 0) pa_nil))) pa_nil))))))))
      (pss_cons (ps_set (i := 2) sc__law_places.nd rfl (by first | exact Or.inl rfl | exact Or.inr rfl) (pe_op op_cat (pv 2) (pe_lst (pa_cons (pe_exf (mk1 I.Taken (hr.mono (by decide)) rfl (pa_cons (pv 0) pa_nil))) (pa_cons (pe_exf (mk1 I.NoRun (hr.mono (by decide)) rfl (pa_cons (pv 0) pa_nil))) (pa_cons (pe_exf (nk2 I.Beyond (hr.mono (by decide)) rfl (pa_cons (pv 0) (pa_cons (pv 1) pa_nil)))) (pa_cons (pe_exf (nk2 I.NoText (hr.mono (by decide)) rfl (pa_cons (pv 0) (pa_cons (pv 1) pa_nil)))) (pa_cons (pe_exf (nk2 I.Apart (hr.mono (by decide)) rfl (pa_cons (pv 0) (pa_cons (pv 1) pa_nil)))) pa_nil))))))))
      (pss_cons (ps_set (i := 2) sc__law_places.nd rfl (by first | exact Or.inl rfl | exact Or.inr rfl) (pe_op op_cat (pv 2) (pe_lst (pa_cons (pe_exf (nk2 I.NoLead (hr.mono (by decide)) rfl (pa_cons (pv 0) (pa_cons (pv 1) pa_nil)))) (pa_cons (pe_exf (nk1 I.Beyond (hr.mono (by decide)) rfl (pa_cons (pv 0) pa_nil))) (pa_cons (pe_exf (nk1 I.NoText (hr.mono (by decide)) rfl (pa_cons (pv 0) pa_nil))) (pa_cons (pe_exf (nk1 I.Apart (hr.mono (by decide)) rfl (pa_cons (pv 0) pa_nil))) (pa_cons (pe_exf (nk1 I.NoLead (hr.mono (by decide)) rfl (pa_cons (pv 0) pa_nil))) pa_nil))))))))
      (pss_cons (ps_set (i := 3) sc__law_places.nd rfl (by first | exact Or.inl rfl | exact Or.inr rfl) (pe_lst (pa_cons (pe_exf (nk2 I.Beyond (hr.mono (by decide)) rfl (pa_cons (pv 1) (pa_cons (pv 0) pa_nil)))) (pa_cons (pe_exf (nk2 I.NoText (hr.mono (by decide)) rfl (pa_cons (pv 1) (pa_cons (pv 0) pa_nil)))) (pa_cons (pe_exf (nk2 I.Apart (hr.mono (by decide)) rfl (pa_cons (pv 1) (pa_cons (pv 0) pa_nil)))) (pa_cons (pe_exf (nk2 I.NoLead (hr.mono (by decide)) rfl (pa_cons (pv 1) (pa_cons (pv 0) pa_nil)))) pa_nil))))))
      (pss_one (ps_ret (pe_and (pe_cmpR (op_eqD hr.units) (pv 2) (pe_op op_rep (pe_lst (pa_cons (pv 0) pa_nil)) pe_int) (nomark _)) (pe_one (pe_cmpR (op_eqD hr.units) (pv 3) (pe_op op_rep (pe_lst (pa_cons (pv 0) pa_nil)) pe_int) (nomark _))))))))))), ?_⟩
    obtain ⟨i1, i2, i3, i4, i5, i6, i7, i8, i9, i10, i11, i12, i13, i14, i15, i16⟩ := I
    refine q_asgL (xs := [a, a, a, a, a]) (el_lst (by walk_at "as") (by simp)) fun p1 H1 n1 e1 h1 => ?_
    refine q_asgL (xs := [a, a, a, a, a] ++ [a, a, a, a, a]) (el_cat (ev_var rfl) h1 (el_lst (by walk_at "as") (by simp)) (by simp)) fun p2 H2 n2 e2 h2 => ?_
    refine q_asgL (xs := ([a, a, a, a, a] ++ [a, a, a, a, a]) ++ [a, a, a, a, a]) (el_cat (ev_var rfl) h2 (el_lst (by walk_at "as") (by simp)) (by simp)) fun p3 H3 n3 e3 h3 => ?_
    refine q_asgL (xs := (([a, a, a, a, a] ++ [a, a, a, a, a]) ++ [a, a, a, a, a]) ++ [a, a, a, a, a]) (el_cat (ev_var rfl) h3 (el_lst (by walk_at "as") (by simp)) (by simp)) fun p4 H4 n4 e4 h4 => ?_
    refine q_asgL (xs := [a, a, a, a]) (el_lst (by walk_at "as") (by simp)) fun p5 H5 n5 e5 h5 => ?_
    have eb := (((e1.trans e2).trans e3).trans e4).trans e5
    have ha5 := dp_ex eb _ _ ha
    refine s_ret (ev_is (ev_andV (a := true) (b := true) (ev_allA (n := 20) (a := a) rfl (by decide) (ev_var rfl) (e5 _ _ h4) ha5 ga (el_lst (by walk_at "as") (by simp))) fun _ => ev_allA (n := 4) (a := a) rfl (by decide) (ev_var rfl) h5 ha5 ga (el_lst (by walk_at "as") (by simp))) rfl) fun H6 e6 => q H6 (eb.trans e6)
theorem ok_named (T : Txt K mg A) (I : Ins P w K mg base A) : FnOk P w K mg base CX0 3 A.a__law_named A.fd__law_named ["_law_a", "_law_b"] (sp_tf K) := by
  refine T.F__law_named.ok sc__law_named (fun vs H Q E h => ?_) (fun cdv Ar outer s H vs Q E hr h => ?_)
  · obtain ⟨a, b, da, db, rfl, _⟩ := h
    rfl
  · obtain ⟨a, b, da, db, rfl, ha, hb, ga, gb, q⟩ := h
    refine ⟨_, (pss_cons (ps_set (i := 2) sc__law_named.nd rfl (by first | exact Or.inl rfl | exact Or.inr rfl) (pe_lst (pa_cons (pe_exf (nkR I.NoText (hr.mono (by decide)) rfl (pk_cons (pv 1) (pk_cons (pv 0) pk_nil)))) (pa_cons (pe_exf (nkR I.Apart (hr.mono (by decide)) rfl (pk_cons (pv 1) (pk_cons (pv 0) pk_nil)))) (pa_cons (pe_exf (nkR I.Beyond (hr.mono (by decide)) rfl (pk_cons (pv 1) (pk_cons (pv 0) pk_nil)))) pa_nil)))))
      (pss_cons (ps_set (i := 2) sc__law_named.nd rfl (by first | exact Or.inl rfl | exact Or.inr rfl) (pe_op op_cat (pv 2) (pe_lst (pa_cons (pe_exf (nkR I.NoLead (hr.mono (by decide)) rfl (pk_cons (pv 1) (pk_cons (pv 0) pk_nil)))) (pa_cons (pe_exf (mkK I.NoChart (hr.mono (by decide)) rfl (pk_cons (pv 0) pk_nil))) pa_nil)))))
      (pss_cons (ps_set (i := 2) sc__law_named.nd rfl (by first | exact Or.inl rfl | exact Or.inr rfl) (pe_op op_cat (pv 2) (pe_lst (pa_cons (pe_exf (mkK I.TooGreat (hr.mono (by decide)) rfl (pk_cons (pv 0) pk_nil))) (pa_cons (pe_exf (mkK I.NoHappening (hr.mono (by decide)) rfl (pk_cons (pv 0) pk_nil))) (pa_cons (pe_exf (mkK I.Gone (hr.mono (by decide)) rfl (pk_cons (pv 0) pk_nil))) (pa_cons (pe_exf (mkK I.NoRun (hr.mono (by decide)) rfl (pk_cons (pv 0) pk_nil))) pa_nil)))))))
      (pss_cons (ps_set (i := 2) sc__law_named.nd rfl (by first | exact Or.inl rfl | exact Or.inr rfl) (pe_op op_cat (pv 2) (pe_lst (pa_cons (pe_exf (mkK I.NoStanding (hr.mono (by decide)) rfl (pk_cons (pv 0) pk_nil))) (pa_cons (pe_exf (mkK I.NoName (hr.mono (by decide)) rfl (pk_cons (pv 0) pk_nil))) (pa_cons (pe_exf (mkK I.NoMove (hr.mono (by decide)) rfl (pk_cons (pv 0) pk_nil))) pa_nil))))))
      (pss_cons (ps_set (i := 2) sc__law_named.nd rfl (by first | exact Or.inl rfl | exact Or.inr rfl) (pe_op op_cat (pv 2) (pe_lst (pa_cons (pe_exf (mkK I.NoSaying (hr.mono (by decide)) rfl (pk_cons (pv 0) pk_nil))) (pa_cons (pe_exf (mkK I.Moved (hr.mono (by decide)) rfl (pk_cons (pv 0) pk_nil))) (pa_cons (pe_exf (mkK I.NoTitle (hr.mono (by decide)) rfl (pk_cons (pv 0) pk_nil))) (pa_cons (pe_exf (mkK I.Taken (hr.mono (by decide)) rfl (pk_cons (pv 0) pk_nil))) pa_nil)))))))
      (pss_cons (ps_set (i := 3) sc__law_named.nd rfl (by first | exact Or.inl rfl | exact Or.inr rfl) (pe_lst (pa_cons (pe_exf (nkR I.Beyond (hr.mono (by decide)) rfl (pk_cons (pv 0) (pk_cons (pv 1) pk_nil)))) (pa_cons (pe_exf (nkR I.NoText (hr.mono (by decide)) rfl (pk_cons (pv 0) (pk_cons (pv 1) pk_nil)))) (pa_cons (pe_exf (nkR I.Apart (hr.mono (by decide)) rfl (pk_cons (pv 0) (pk_cons (pv 1) pk_nil)))) pa_nil)))))
      (pss_cons (ps_set (i := 3) sc__law_named.nd rfl (by first | exact Or.inl rfl | exact Or.inr rfl) (pe_op op_cat (pv 3) (pe_lst (pa_cons (pe_exf (nkR I.NoLead (hr.mono (by decide)) rfl (pk_cons (pv 0) (pk_cons (pv 1) pk_nil)))) (pa_cons (pe_exf (nkM I.Beyond (hr.mono (by decide)) rfl (pa_cons (pv 1) pa_nil) (pk_cons (pv 0) pk_nil))) (pa_cons (pe_exf (nkS I.NoText (hr.mono (by decide)) rfl (pk_cons (pv 0) pk_nil))) pa_nil))))))
      (pss_one (ps_ret (pe_and (pe_cmpR (op_eqD hr.units) (pv 2) (pe_op op_rep (pe_lst (pa_cons (pv 0) pa_nil)) pe_int) (nomark _)) (pe_one (pe_cmpR (op_eqD hr.units) (pv 3) (pe_op op_rep (pe_lst (pa_cons (pv 0) pa_nil)) pe_int) (nomark _))))))))))))), ?_⟩
    obtain ⟨i1, i2, i3, i4, i5, i6, i7, i8, i9, i10, i11, i12, i13, i14, i15, i16⟩ := I
    refine q_asgL (xs := [a, a, a]) (el_lst (by walk_at "as") (by simp)) fun p1 H1 n1 e1 h1 => ?_
    refine q_asgL (xs := [a, a, a] ++ [a, a]) (el_cat (ev_var rfl) h1 (el_lst (by walk_at "as") (by simp)) (by simp)) fun p2 H2 n2 e2 h2 => ?_
    refine q_asgL (xs := ([a, a, a] ++ [a, a]) ++ [a, a, a, a]) (el_cat (ev_var rfl) h2 (el_lst (by walk_at "as") (by simp)) (by simp)) fun p3 H3 n3 e3 h3 => ?_
    refine q_asgL (xs := (([a, a, a] ++ [a, a]) ++ [a, a, a, a]) ++ [a, a, a]) (el_cat (ev_var rfl) h3 (el_lst (by walk_at "as") (by simp)) (by simp)) fun p4 H4 n4 e4 h4 => ?_
    refine q_asgL (xs := ((([a, a, a] ++ [a, a]) ++ [a, a, a, a]) ++ [a, a, a]) ++ [a, a, a, a]) (el_cat (ev_var rfl) h4 (el_lst (by walk_at "as") (by simp)) (by simp)) fun p5 H5 n5 e5 h5 => ?_
    refine q_asgL (xs := [a, a, a]) (el_lst (by walk_at "as") (by simp)) fun p6 H6 n6 e6 h6 => ?_
    refine q_asgL (xs := [a, a, a] ++ [a, a, a]) (el_cat (ev_var rfl) h6 (el_lst (by walk_at "as") (by simp)) (by simp)) fun p7 H7 n7 e7 h7 => ?_
    have eb := (((((e1.trans e2).trans e3).trans e4).trans e5).trans e6).trans e7
    have ha5 := dp_ex eb _ _ ha
    refine s_ret (ev_is (ev_andV (a := true) (b := true) (ev_allA (n := 16) (a := a) rfl (by decide) (ev_var rfl) (e7 _ _ (e6 _ _ h5)) ha5 ga (el_lst (by walk_at "as") (by simp))) fun _ => ev_allA (n := 6) (a := a) rfl (by decide) (ev_var rfl) h7 ha5 ga (el_lst (by walk_at "as") (by simp))) rfl) fun H8 e8 => q H8 (eb.trans e8)
end
end K30
set_option Elab.async false
set_option linter.all false
set_option maxRecDepth 100000
set_option maxHeartbeats 8000000
namespace K30
open PySem PySem.Spec PyProof.Rows L2 XW Evl
local macro_rules | `(tactic| walk_at "as") => `(tactic| repeat (first
  | exact ea_nil | exact ev_var rfl | exact ev_c | apply ea_cons
  | assumption | apply ev_f1 | apply ev_f2a | apply ev_f2b
  | exact fun _ => rfl | exact rfl | decide))
local macro_rules | `(tactic| walk_at "xs") => `(tactic| repeat (first
  | exact ea_nil | exact ev_var rfl | exact ev_c | apply ea_cons | exact exs_nil | apply exs_cons | exact exb
  | assumption | apply ex_f1 | apply ex_f2
  | exact fun _ => rfl | exact rfl | decide))
section
variable {P : Program} {w : World} {K : PySem.W.Frag} {mg : Str → Option Value} {base : Heap} {A : Ads} {σ : L2.St} {H : Hp} {te te' : TE} {ta tr t u : TA} {C : Addr} {Cs Ds : List Addr} {x f g : Str} {c : Cl} {n m : Nat} {gV : List V → List V → List V} {vs zs : List V} {v z : V}
/-- one with its field told, two with theirs -/
theorem ef1 (T : IN1 P w K mg base x f c) {Q : VK} {H1 : Hp} (e : Ex H H1) (ht : EvA t σ H vs) (hu : EvA u σ H zs) (hv : ∀ a, gV (.ref a :: vs) zs = [.ref a, v]) (l1 : vs.length = n) (l2 : zs.length = m) (hn : n ≤ 1000)
    (q : ∀ a d H2, Ex H1 H2 → H2 a = some (exo a c.C (some d)) → H2 d = some (exd d [(f, v)]) → Q (.ref a) H2) : tExv c.C n m (spI1 K f) gV t u σ H1 Q :=
  ht H1 e _ fun H2 e2 => hu H2 (e.trans e2) _ fun H3 e3 => ⟨l1, l2, hn, fun a ha => by
    rw [hv]
    refine ⟨a, c.C, v, rfl, T.xc.ox, T.no, upd_same, fun dx hd ne => ⟨rfl, ?_⟩⟩
    exact q a dx _ ((e2.trans e3).trans (made1 ha hd ne)) upd_same (by rw [upd_ne ne, upd_same])⟩
theorem ef2 (T : IN2 P w K mg base x f g c) {Q : VK} {H1 : Hp} (e : Ex H H1) (ht : EvA t σ H vs) (hu : EvA u σ H zs) (hv : ∀ a, gV (.ref a :: vs) zs = [.ref a, v, z]) (l1 : vs.length = n) (l2 : zs.length = m) (hn : n ≤ 1000)
    (q : ∀ a d H2, Ex H1 H2 → H2 a = some (exo a c.C (some d)) → H2 d = some (exd d [(g, z), (f, v)]) → Q (.ref a) H2) : tExv c.C n m (spI2 K f g) gV t u σ H1 Q :=
  ht H1 e _ fun H2 e2 => hu H2 (e.trans e2) _ fun H3 e3 => ⟨l1, l2, hn, fun a ha => by
    rw [hv]
    refine ⟨a, c.C, v, z, rfl, T.xc.ox, T.no, T.no2, upd_same, fun dx hd ne => ⟨rfl, ?_⟩⟩
    exact q a dx _ ((e2.trans e3).trans (made2 ha hd ne)) (by rw [upd_ne ne.symm, upd_same]) upd_same⟩
/-- new lists of exceptions -/
def EvXL (te : TE) (σ : L2.St) (H : Hp) (Cs : List Addr) : Prop := ∀ H1, Ex H H1 → ∀ Q : VK, (∀ p vs H2, H1 p = none → Ex H1 H2 → H2 p = some (.lst vs) → Paired (IsX H2) Cs vs → Q (.ref p) H2) → te σ H1 Q
theorem pl {Cs : List Addr} {vs : List V} (h : Paired (IsX H) Cs vs) : Cs.length = vs.length := Paired.length h
theorem exl_lst (h : EvXs ta σ H Cs) (hl : Cs.length ≤ 1000) : EvXL (tLst ta) σ H Cs := fun H1 e Q q => h H1 e _ fun vs H2 e2 h2 =>
  ⟨sz_of (by have := pl h2; omega), fun p hp => q p vs _ (fresh_back e2 hp) (e2.trans (Ex.new hp)) upd_same (isxs_ex (Ex.new hp) h2)⟩
theorem px_append {Cs Ds : List Addr} {vs us : List V} (h : Paired (IsX H) Cs vs) (h' : Paired (IsX H) Ds us) : Paired (IsX H) (Cs ++ Ds) (vs ++ us) := by
  induction h with
  | nil => exact h'
  | cons a _ ih => exact .cons a ih
theorem exl_cat {l : Addr} {xs : List V} (ha : Ev te σ H (.ref l)) (hl : H l = some (.lst xs)) (hx : Paired (IsX H) Cs xs) (hb : EvXL te' σ H Ds) (hz : Cs.length ≤ 1000) (hz' : Ds.length ≤ 1000) : EvXL (tOp rCat te te') σ H (Cs ++ Ds) := fun H1 e Q q =>
  ha H1 e _ fun H2 e2 => hb H2 (e.trans e2) _ fun p ys H3 hp e3 h3 h4 => ⟨l, p, xs, ys, rfl, rfl, e3 _ _ (e2 _ _ (e _ _ hl)), h3, sz_of (by have := pl hx; have := pl h4; omega),
    fun r hr => q r _ _ (fresh_back (e2.trans e3) hr) ((e2.trans e3).trans (Ex.new hr)) upd_same (isxs_ex (Ex.new hr) (px_append (isxs_ex ((e.trans e2).trans e3) hx) h4))⟩
theorem q_asgX {D : Ends} {tz : TS} {i : Nat} (h : EvXL te σ H Cs) (k : ∀ p vs H1, H p = none → Ex H H1 → H1 p = some (.lst vs) → Paired (IsX H1) Cs vs → tz D (σ.set i (some (.ref p))) H1) : tSeq (tAsg te (gName i)) tz D σ H := h H (Ex.refl H) _ k
theorem s_retX {D : Ends} (h : EvXL te σ H Cs) (k : ∀ p vs H1, H p = none → Ex H H1 → H1 p = some (.lst vs) → Paired (IsX H1) Cs vs → D.rt (.ref p) H1) : tRet te D σ H := h H (Ex.refl H) _ k
/-- g = [a, b], step by step -/
theorem rd_lst2 {D : Ends} {tz : TS} {gg : TG} (h : te σ H fun x H1 => te' σ H1 fun y H2 => [x, y].length ≤ sizeLine ∧ ∀ p, H2 p = none → gg (.ref p) σ (upd H2 p (.lst [x, y])) (tz D)) : tSeq (tAsg (tLst (tCons te (tCons te' tNil))) gg) tz D σ H := h
theorem ok_beside (T : Txt K mg A) (I : Ins P w K mg base A) : FnOk P w K mg base CX0 3 A.a__law_beside A.fd__law_beside ["_law_a", "_law_b"] (sp_tf K) := by
  refine T.F__law_beside.ok sc__law_beside (fun vs H Q E h => ?_) (fun cdv Ar outer s H vs Q E hr h => ?_)
  · obtain ⟨a, b, da, db, rfl, _⟩ := h
    rfl
  · obtain ⟨a, b, da, db, rfl, ha, hb, ga, gb, q⟩ := h
    refine ⟨_, (pss_cons (ps_asg (pe_lst (pa_cons (mk1 I.NoChart (hr.mono (by decide)) rfl (pa_cons (pv 0) pa_nil)) (pa_cons (mk1 I.NoChart (hr.mono (by decide)) rfl (pa_cons (pv 1) pa_nil)) pa_nil))) (pg_unl rfl (pgs_cons (pg_name (i := 2) sc__law_beside.nd rfl (by first | exact Or.inl rfl | exact Or.inr rfl)) (pgs_cons (pg_name (i := 3) sc__law_beside.nd rfl (by first | exact Or.inl rfl | exact Or.inr rfl)) pgs_nil))))
      (pss_cons (ps_set (i := 4) sc__law_beside.nd rfl (by first | exact Or.inl rfl | exact Or.inr rfl) (pe_lst (pa_cons (pe_exf (pv 2)) (pa_cons (pe_exf (pv 3)) pa_nil))))
      (pss_cons (ps_asg (pe_lst (pa_cons (nk2 I.Beyond (hr.mono (by decide)) rfl (pa_cons (pv 0) (pa_cons (pv 1) pa_nil))) (pa_cons (nk2 I.Beyond (hr.mono (by decide)) rfl (pa_cons (pv 1) (pa_cons (pv 0) pa_nil))) pa_nil))) (pg_unl rfl (pgs_cons (pg_name (i := 2) sc__law_beside.nd rfl (by first | exact Or.inl rfl | exact Or.inr rfl)) (pgs_cons (pg_name (i := 3) sc__law_beside.nd rfl (by first | exact Or.inl rfl | exact Or.inr rfl)) pgs_nil))))
      (pss_cons (ps_set (i := 4) sc__law_beside.nd rfl (by first | exact Or.inl rfl | exact Or.inr rfl) (pe_op op_cat (pv 4) (pe_lst (pa_cons (pe_exf (pv 2)) (pa_cons (pe_exf (pv 2)) (pa_cons (pe_exf (pv 3)) (pa_cons (pe_exf (pv 3)) pa_nil)))))))
      (pss_one (ps_ret (pe_cmpR (op_eqD hr.units) (pv 4) (pe_lst (pa_cons (pv 0) (pa_cons (pv 1) (pa_cons (pv 0) (pa_cons (pv 1) (pa_cons (pv 1) (pa_cons (pv 0) pa_nil))))))) (nomark _)))))))), ?_⟩
    refine rd_lst2 ?_
    refine ef1 (v := a) I.NoChart (Ex.refl H) (ea_cons (ev_var rfl) ea_nil) ea_nil (fun _ => rfl) rfl rfl (by decide) fun a1 d1 H1 e1 x1 y1 => ?_
    refine ef1 (v := b) I.NoChart (Ex.refl H1) (ea_cons (ev_var rfl) ea_nil) ea_nil (fun _ => rfl) rfl rfl (by decide) fun a2 d2 H2 e2 x2 y2 => ?_
    refine ⟨(by show 2 ≤ sizeLine; decide), fun p hp => ?_⟩
    have e3 : Ex H2 (upd H2 p (.lst [.ref a1, .ref a2])) := Ex.new hp
    refine ⟨p, _, rfl, SqL.of upd_same, rfl, _, _, rfl, _, _, rfl, rfl, ?_⟩
    generalize upd H2 p (.lst [.ref a1, .ref a2]) = H3 at e3 ⊢
    refine q_asgL (xs := [a, b]) (el_lst (ea_cons (ev_got I.NoChart.xc I.NoChart.no (ev_var rfl) (e3 _ _ (e2 _ _ x1)) (e3 _ _ (e2 _ _ y1)) (by simp [List.lookup])) (ea_cons (ev_got I.NoChart.xc I.NoChart.no (ev_var rfl) (e3 _ _ x2) (e3 _ _ y2) (by simp [List.lookup])) ea_nil)) (by simp)) fun p4 H4 n4 e4 h4 => ?_
    refine rd_lst2 ?_
    refine ef2 (v := a) (z := b) I.Beyond (Ex.refl H4) (ea_cons (ev_var rfl) (ea_cons (ev_var rfl) ea_nil)) ea_nil (fun _ => rfl) rfl rfl (by decide) fun a5 d5 H5 e5 x5 y5 => ?_
    refine ef2 (v := b) (z := a) I.Beyond (Ex.refl H5) (ea_cons (ev_var rfl) (ea_cons (ev_var rfl) ea_nil)) ea_nil (fun _ => rfl) rfl rfl (by decide) fun a6 d6 H6 e6 x6 y6 => ?_
    refine ⟨(by show 2 ≤ sizeLine; decide), fun p7 hp7 => ?_⟩
    have e7 : Ex H6 (upd H6 p7 (.lst [.ref a5, .ref a6])) := Ex.new hp7
    refine ⟨p7, _, rfl, SqL.of upd_same, rfl, _, _, rfl, _, _, rfl, rfl, ?_⟩
    generalize upd H6 p7 (.lst [.ref a5, .ref a6]) = H7 at e7 ⊢
    refine q_asgL (xs := [a, b] ++ [a, b, b, a]) (el_cat (ev_var rfl) (e7 _ _ (e6 _ _ (e5 _ _ h4))) (el_lst (ea_cons (ev_got I.Beyond.xc I.Beyond.no (ev_var rfl) (e7 _ _ (e6 _ _ x5)) (e7 _ _ (e6 _ _ y5)) (by simp [List.lookup, I.Beyond.ne]))
      (ea_cons (ev_got I.Beyond.xc I.Beyond.no2 (ev_var rfl) (e7 _ _ (e6 _ _ x5)) (e7 _ _ (e6 _ _ y5)) (by simp [List.lookup, I.Beyond.ne])) (ea_cons (ev_got I.Beyond.xc I.Beyond.no (ev_var rfl) (e7 _ _ x6) (e7 _ _ y6) (by simp [List.lookup, I.Beyond.ne])) (ea_cons (ev_got I.Beyond.xc I.Beyond.no2 (ev_var rfl) (e7 _ _ x6) (e7 _ _ y6) (by simp [List.lookup, I.Beyond.ne])) ea_nil)))) (by simp)) (by simp)) fun p8 H8 n8 e8 h8 => ?_
    have eb := ((((((e1.trans e2).trans e3).trans e4).trans e5).trans e6).trans e7).trans e8
    have ha8 := dp_ex eb _ _ ha
    have hb8 := dp_ex eb _ _ hb
    have gl : ∀ d ∈ [da, db, da, db, db, da], Good d := fun d hd => by
      simp only [List.mem_cons, List.not_mem_nil, or_false] at hd
      rcases hd with rfl | rfl | rfl | rfl | rfl | rfl <;> assumption
    refine s_ret (ev_is (ev_eqLL (ds := [da, db, da, db, db, da]) (es := [da, db, da, db, db, da]) (ev_var rfl) h8 (ys := [a, b, a, b, b, a]) (el_lst (by walk_at "as") (by simp)) (.cons ha8 (.cons hb8 (.cons ha8 (.cons hb8 (.cons hb8 (.cons ha8 .nil))))))
      (.cons ha8 (.cons hb8 (.cons ha8 (.cons hb8 (.cons hb8 (.cons ha8 .nil)))))) (shaped_list gl) (shaped_list gl)) (w := .bl true) (by rw [same_list gl])) fun H9 e9 => q H9 (eb.trans e9)
def sp_left : Sp := fun vs H Q _ => vs = [] ∧ ∀ H', Ex H H' → Q (.bl true) H'
theorem ok_left_out (T : Txt K mg A) (I : Ins P w K mg base A) : FnOk P w K mg base CX0 3 A.a__law_left_out A.fd__law_left_out [] sp_left := by
  refine T.F__law_left_out.ok sc__law_left_out (fun vs H Q E h => ?_) (fun cdv Ar outer s H vs Q E hr h => ?_)
  · obtain ⟨rfl, _⟩ := h
    rfl
  · obtain ⟨rfl, q⟩ := h
    refine ⟨_, (pss_cons (ps_set (i := 0) sc__law_left_out.nd rfl (by first | exact Or.inl rfl | exact Or.inr rfl) (pe_lst (pa_cons (pe_exf (mk0 I.NoChart (hr.mono (by decide)) rfl)) (pa_cons (pe_exf (mk0 I.NoStanding (hr.mono (by decide)) rfl)) (pa_cons (pe_exf (mk0 I.NoHappening (hr.mono (by decide)) rfl)) (pa_cons (pe_exf (mk0 I.NoName (hr.mono (by decide)) rfl)) (pa_cons (pe_exf (mk0 I.NoMove (hr.mono (by decide)) rfl)) (pa_cons (pe_exf (mk0 I.Gone (hr.mono (by decide)) rfl)) pa_nil))))))))
      (pss_cons (ps_set (i := 0) sc__law_left_out.nd rfl (by first | exact Or.inl rfl | exact Or.inr rfl) (pe_op op_cat (pv 0) (pe_lst (pa_cons (pe_exf (mk0 I.NoSaying (hr.mono (by decide)) rfl)) (pa_cons (pe_exf (mk0 I.TooGreat (hr.mono (by decide)) rfl)) (pa_cons (pe_exf (mk0 I.Moved (hr.mono (by decide)) rfl)) (pa_cons (pe_exf (mk0 I.NoTitle (hr.mono (by decide)) rfl)) (pa_cons (pe_exf (mk0 I.Taken (hr.mono (by decide)) rfl)) (pa_cons (pe_exf (mk0 I.NoRun (hr.mono (by decide)) rfl)) pa_nil)))))))))
      (pss_cons (ps_set (i := 0) sc__law_left_out.nd rfl (by first | exact Or.inl rfl | exact Or.inr rfl) (pe_op op_cat (pv 0) (pe_lst (pa_cons (pe_exf (nk1 I.Beyond (hr.mono (by decide)) rfl (pa_cons pe_str pa_nil))) (pa_cons (pe_exf (nk1 I.NoText (hr.mono (by decide)) rfl (pa_cons pe_int pa_nil))) (pa_cons (pe_exf (nk1 I.Apart (hr.mono (by decide)) rfl (pa_cons pe_str pa_nil))) (pa_cons (pe_exf (nk1 I.NoLead (hr.mono (by decide)) rfl (pa_cons pe_str pa_nil))) (pa_cons (pe_exf (nk0 I.NoLead (hr.mono (by decide)) rfl)) pa_nil))))))))
      (pss_cons (ps_set (i := 0) sc__law_left_out.nd rfl (by first | exact Or.inl rfl | exact Or.inr rfl) (pe_op op_cat (pv 0) (pe_lst (pa_cons (pe_exf (nk0 I.Beyond (hr.mono (by decide)) rfl)) (pa_cons (pe_exf (nk0 I.Beyond (hr.mono (by decide)) rfl)) (pa_cons (pe_exf (nk0 I.NoText (hr.mono (by decide)) rfl)) (pa_cons (pe_exf (nk0 I.NoText (hr.mono (by decide)) rfl)) (pa_cons (pe_exf (nk0 I.Apart (hr.mono (by decide)) rfl)) (pa_cons (pe_exf (nk0 I.Apart (hr.mono (by decide)) rfl)) pa_nil)))))))))
      (pss_cons (ps_set (i := 0) sc__law_left_out.nd rfl (by first | exact Or.inl rfl | exact Or.inr rfl) (pe_op op_cat (pv 0) (pe_lst (pa_cons (pe_exf (nk0 I.NoLead (hr.mono (by decide)) rfl)) (pa_cons (pe_exf (nkS I.Beyond (hr.mono (by decide)) rfl (pk_cons pe_str pk_nil))) (pa_cons (pe_exf (nkS I.NoText (hr.mono (by decide)) rfl (pk_cons pe_int pk_nil))) (pa_cons (pe_exf (nkS I.Apart (hr.mono (by decide)) rfl (pk_cons pe_str pk_nil))) pa_nil)))))))
      (pss_one (ps_ret (pe_cmpR op_eq (pe_callB call_len_seq (by rfl) T.n_len PySem.boot_len (pa_cons (pe_op op_cat (pv 0) (pe_lst (pa_cons (pe_exf (nkS I.NoLead (hr.mono (by decide)) rfl (pk_cons pe_str pk_nil))) pa_nil))) pa_nil)) pe_int (nomark _))))))))), ?_⟩
    obtain ⟨i1, i2, i3, i4, i5, i6, i7, i8, i9, i10, i11, i12, i13, i14, i15, i16⟩ := I
    apply q_asgL
    · apply el_lst
      · walk_at "as"
      · simp
    intro p1 H1 n1 e1 h1
    apply q_asgL
    · apply el_cat (ev_var rfl) h1
      · apply el_lst
        · walk_at "as"
        · simp
      · simp
    intro p2 H2 n2 e2 h2
    apply q_asgL
    · apply el_cat (ev_var rfl) h2
      · apply el_lst
        · walk_at "as"
        · simp
      · simp
    intro p3 H3 n3 e3 h3
    apply q_asgL
    · apply el_cat (ev_var rfl) h3
      · apply el_lst
        · walk_at "as"
        · simp
      · simp
    intro p4 H4 n4 e4 h4
    apply q_asgL
    · apply el_cat (ev_var rfl) h4
      · apply el_lst
        · walk_at "as"
        · simp
      · simp
    intro p5 H5 n5 e5 h5
    have eb := (((e1.trans e2).trans e3).trans e4).trans e5
    apply s_ret (v := .bl true)
    · apply ev_is
      · apply ev_op
        · apply ev_lenN
          apply el_cat (ev_var rfl) h5
          · apply el_lst
            · walk_at "as"
            · simp
          · simp
        · exact ev_c
        · apply rv_eq
          rfl
      · rfl
    · exact fun H6 e6 => q H6 (eb.trans e6)
def sp_bare (A : Ads) : Sp := fun vs H Q _ => vs = [] ∧ ∀ p vs' H', H p = none → Ex H H' → H' p = some (.lst vs') → Paired (IsX H') A.cls vs' → Q (.ref p) H'
theorem ok_bare (T : Txt K mg A) (I : Ins P w K mg base A) : FnOk P w K mg base CX0 3 A.a__law_bare A.fd__law_bare [] (sp_bare A) := by
  refine T.F__law_bare.ok sc__law_bare (fun vs H Q E h => ?_) (fun cdv Ar outer s H vs Q E hr h => ?_)
  · obtain ⟨rfl, _⟩ := h
    rfl
  · obtain ⟨rfl, q⟩ := h
    refine ⟨_, (pss_cons (ps_set (i := 0) sc__law_bare.nd rfl (by first | exact Or.inl rfl | exact Or.inr rfl) (pe_lst (pa_cons (pe_exb PySem.F.excBase_ValueError T.x_Endless T.g_Endless T.k_Endless rfl) (pa_cons (pe_exb PySem.F.excBase_ValueError T.x_NoBack T.g_NoBack T.k_NoBack rfl) (pa_cons (pe_exb PySem.F.excBase_ValueError T.x_Unlike T.g_Unlike T.k_Unlike rfl) (pa_cons (pe_exb PySem.F.excBase_ValueError T.x_NoNumber T.g_NoNumber T.k_NoNumber rfl) (pa_cons (pe_exb PySem.F.excBase_ValueError T.x_NoGoal T.g_NoGoal T.k_NoGoal rfl) (pa_cons (pe_exb PySem.F.excBase_ValueError T.x_NoLine T.g_NoLine T.k_NoLine rfl) (pa_cons (mk0 I.NoChart (hr.mono (by decide)) rfl) (pa_cons (mk0 I.NoStanding (hr.mono (by decide)) rfl) (pa_cons (mk0 I.NoHappening (hr.mono (by decide)) rfl) pa_nil)))))))))))
      (pss_cons (ps_set (i := 0) sc__law_bare.nd rfl (by first | exact Or.inl rfl | exact Or.inr rfl) (pe_op op_cat (pv 0) (pe_lst (pa_cons (nk0 I.Beyond (hr.mono (by decide)) rfl) (pa_cons (nk0 I.NoText (hr.mono (by decide)) rfl) (pa_cons (mk0 I.NoName (hr.mono (by decide)) rfl) (pa_cons (mk0 I.NoMove (hr.mono (by decide)) rfl) (pa_cons (mk0 I.NoSaying (hr.mono (by decide)) rfl) (pa_cons (mk0 I.TooGreat (hr.mono (by decide)) rfl) (pa_cons (mk0 I.Gone (hr.mono (by decide)) rfl) (pa_cons (nk0 I.Apart (hr.mono (by decide)) rfl) (pa_cons (mk0 I.Moved (hr.mono (by decide)) rfl) pa_nil))))))))))))
      (pss_one (ps_ret (pe_op op_cat (pv 0) (pe_lst (pa_cons (mk0 I.NoTitle (hr.mono (by decide)) rfl) (pa_cons (mk0 I.Taken (hr.mono (by decide)) rfl) (pa_cons (mk0 I.NoRun (hr.mono (by decide)) rfl) (pa_cons (nk0 I.NoLead (hr.mono (by decide)) rfl) pa_nil)))))))))), ?_⟩
    obtain ⟨i1, i2, i3, i4, i5, i6, i7, i8, i9, i10, i11, i12, i13, i14, i15, i16⟩ := I
    refine q_asgX (Cs := [A.Endless, A.NoBack, A.Unlike, A.NoNumber, A.NoGoal, A.NoLine, A.NoChart.C, A.NoStanding.C, A.NoHappening.C]) (exl_lst (by walk_at "xs") (by simp)) fun p1 v1 H1 n1 e1 h1 x1 => ?_
    refine q_asgX (exl_cat (Ds := [A.Beyond.C, A.NoText.C, A.NoName.C, A.NoMove.C, A.NoSaying.C, A.TooGreat.C, A.Gone.C, A.Apart.C, A.Moved.C]) (ev_var rfl) h1 x1 (exl_lst (by walk_at "xs") (by simp)) (by simp) (by simp)) fun p2 v2 H2 n2 e2 h2 x2 => ?_
    refine s_retX (exl_cat (Ds := [A.NoTitle.C, A.Taken.C, A.NoRun.C, A.NoLead.C]) (ev_var rfl) h2 x2 (exl_lst (by walk_at "xs") (by simp)) (by simp) (by simp)) fun p3 v3 H3 n3 e3 h3 x3 => ?_
    exact q p3 v3 H3 (fresh_back (e1.trans e2) n3) ((e1.trans e2).trans e3) h3 x3
end
end K30
set_option Elab.async false
set_option linter.all false
set_option maxRecDepth 100000
set_option maxHeartbeats 8000000
namespace K30
open PySem PySem.Spec PyProof.Rows L2 XW Evl
section
variable {P : Program} {w : World} {K : PySem.W.Frag} {mg : Str → Option Value} {base : Heap} {A : Ads} {σ : L2.St} {H : Hp} {te te' : TE} {ta tr t u : TA} {C : Addr} {Cs Ds : List Addr} {v z : V}
/-- isinstance(e, c) -/
theorem ev_isx {c : V} {cu : Value} {b : Bool} (h : Ev te σ H v) (hx : IsX H C v) (hc : Ev te' σ H c) (hv : ClsV c cu) (k : XW.XK K C) (ko : PySem.W.kitOne K (.ref C) cu = some b) : Ev (tCB (rIsX K) (tCons te (tCons te' tNil))) σ H (.bl b) := fun H1 e Q q =>
  h H1 e _ fun H2 e2 => hc H2 (e.trans e2) _ fun H3 e3 => by
    obtain ⟨a, d, fs, rfl, x1, x2⟩ := (hx.ex e).ex (e2.trans e3)
    exact ⟨a, C, d, fs, c, cu, b, rfl, hv, x1, x2, k, ko, q H3 (e2.trans e3)⟩
theorem ev_isxN {c : V} {cu : Value} {b : Bool} (h : EvX te σ H C) (hc : ∀ H1, Ev te' σ H1 c) (hv : ClsV c cu) (k : XW.XK K C) (ko : PySem.W.kitOne K (.ref C) cu = some b) : Ev (tCB (rIsX K) (tCons te (tCons te' tNil))) σ H (.bl b) := fun H1 e Q q =>
  h H1 e _ fun v H2 e2 hx => hc H2 H2 (Ex.refl H2) _ fun H3 e3 => by
    obtain ⟨a, d, fs, rfl, x1, x2⟩ := hx.ex e3
    exact ⟨a, C, d, fs, c, cu, b, rfl, hv, x1, x2, k, ko, q H3 (e2.trans e3)⟩
theorem px_get : ∀ {Cs : List Addr} {vs : List V} {i : Nat} {x : V}, Paired (IsX H) Cs vs → vs[i]? = some x → ∃ C, Cs[i]? = some C ∧ IsX H C x
  | _, _, _, _, .nil, h => by simp at h
  | _, _, 0, _, .cons a _, h => by
    simp at h
    subst h
    exact ⟨_, rfl, a⟩
  | _, _, i + 1, x, .cons _ b, h => px_get (i := i) b (by simpa using h)
/-- the list of answers of one of them -/
def ans (i : Nat) : List V := (List.range 22).map fun j => V.bl (decide (i = j))
def ansD (i : Nat) : List PyData := (List.range 22).map fun j => PyData.bool (decide (i = j))
theorem dpa_map {H : Hp} (f : Nat → Bool) : ∀ l : List Nat, DpAll K H (l.map fun j => V.bl (f j)) (l.map fun j => PyData.bool (f j))
  | [] => .nil
  | _ :: l => .cons (.bl _) (dpa_map f l)
theorem ans_good (i : Nat) : ∀ d ∈ ansD i, Good d := fun d hd => by
  obtain ⟨j, _, rfl⟩ := List.mem_map.mp hd
  exact ⟨rfl, Nat.zero_le _⟩
theorem kinds_eq (i : Nat) : given (22 : Int).toNat (fun _ => true) (fun j => V.bl (decide (V.int (j : Int) = V.int (i : Int)))) = ans i := by
  unfold given ans
  rw [List.filter_eq_self.mpr (fun _ _ => rfl)]
  refine List.map_congr_left fun j _ => ?_
  congr 1
  by_cases h : i = j
  · subst h
    simp
  · rw [decide_eq_false h, decide_eq_false]
    intro e
    have := V.int.inj e
    omega
theorem ok_classes (T : Txt K mg A) (I : Ins P w K mg base A) : FnOk P w K mg base CX0 4 A.a__law_classes A.fd__law_classes [] sp_left := by
  have G__law_bare := ok_bare (P := P) (w := w) (base := base) T I
  refine T.F__law_classes.ok sc__law_classes (fun vs H Q E h => ?_) (fun cdv Ar outer s H vs Q E hr h => ?_)
  · obtain ⟨rfl, _⟩ := h
    rfl
  · obtain ⟨rfl, q⟩ := h
    refine ⟨_, (pss_cons (ps_set (i := 0) sc__law_classes.nd rfl (by first | exact Or.inl rfl | exact Or.inr rfl) (pe_call0 G__law_bare (hr.mono (by decide)) rfl T.g__law_bare T.F__law_bare.kp T.b__law_bare .nil pass0))
      (pss_cons (ps_if (pt_not (pt_val (pe_callB call_isX (by rfl) T.n_isinstance (by decide +kernel) (pa_cons (pe_exb PySem.F.excBase_ValueError T.x_StandError T.g_StandError T.k_StandError rfl) (pa_cons (pe_bltn (v := .ty "ValueError") (u := .type "ValueError") (by rfl) T.n_ValueError (by decide +kernel) rel_ty) pa_nil))))) (pss_one (ps_ret pe_bl)) pss_nil)
      (pss_cons (ps_for PassesOwn.never rfl (pi_enum (by rfl) T.n_enumerate (pa_cons (pv 0) pa_nil)) (pg_tup rfl (pgs_cons (pg_name (i := 1) sc__law_classes.nd rfl (by first | exact Or.inl rfl | exact Or.inr rfl)) (pgs_cons (pg_name (i := 2) sc__law_classes.nd rfl (by first | exact Or.inl rfl | exact Or.inr rfl)) pgs_nil))) (pss_cons (ps_if (PW.pt (pw_or (pt_not (pt_val (pe_callB call_isX (by rfl) T.n_isinstance (by decide +kernel) (pa_cons (pv 2) (pa_cons (pe_glob rfl T.g_StandError rel_ref) pa_nil))))) (pw_or1 (pt_not (pt_val (pe_callB call_isX (by rfl) T.n_isinstance (by decide +kernel) (pa_cons (pv 2) (pa_cons (pe_bltn (v := .ty "ValueError") (u := .type "ValueError") (by rfl) T.n_ValueError (by decide +kernel) rel_ty) pa_nil)))))))) (pss_one (ps_ret pe_bl)) pss_nil)
      (pss_cons (ps_set (i := 3) sc__law_classes.nd rfl (by first | exact Or.inl rfl | exact Or.inr rfl) (pe_lst (pa_cons (pe_callB call_isX (by rfl) T.n_isinstance (by decide +kernel) (pa_cons (pv 2) (pa_cons (pe_glob rfl T.g_Endless rel_ref) pa_nil))) (pa_cons (pe_callB call_isX (by rfl) T.n_isinstance (by decide +kernel) (pa_cons (pv 2) (pa_cons (pe_glob rfl T.g_NoBack rel_ref) pa_nil))) (pa_cons (pe_callB call_isX (by rfl) T.n_isinstance (by decide +kernel) (pa_cons (pv 2) (pa_cons (pe_glob rfl T.g_Unlike rel_ref) pa_nil))) pa_nil)))))
      (pss_cons (ps_set (i := 3) sc__law_classes.nd rfl (by first | exact Or.inl rfl | exact Or.inr rfl) (pe_op op_cat (pv 3) (pe_lst (pa_cons (pe_callB call_isX (by rfl) T.n_isinstance (by decide +kernel) (pa_cons (pv 2) (pa_cons (pe_glob rfl T.g_NoNumber rel_ref) pa_nil))) (pa_cons (pe_callB call_isX (by rfl) T.n_isinstance (by decide +kernel) (pa_cons (pv 2) (pa_cons (pe_glob rfl T.g_NoGoal rel_ref) pa_nil))) (pa_cons (pe_callB call_isX (by rfl) T.n_isinstance (by decide +kernel) (pa_cons (pv 2) (pa_cons (pe_glob rfl T.g_NoLine rel_ref) pa_nil))) pa_nil))))))
      (pss_cons (ps_expr (pe_bm PySem.F.plainAttrs_list PySem.F.slot_list_append PySem.F.type_list_append mt_append (pv 3) (pa_cons (pe_callB call_isX (by rfl) T.n_isinstance (by decide +kernel) (pa_cons (pv 2) (pa_cons (pe_glob rfl T.g_NoChart rel_ref) pa_nil))) pa_nil)))
      (pss_cons (ps_set (i := 3) sc__law_classes.nd rfl (by first | exact Or.inl rfl | exact Or.inr rfl) (pe_op op_cat (pv 3) (pe_lst (pa_cons (pe_callB call_isX (by rfl) T.n_isinstance (by decide +kernel) (pa_cons (pv 2) (pa_cons (pe_glob rfl T.g_NoStanding rel_ref) pa_nil))) (pa_cons (pe_callB call_isX (by rfl) T.n_isinstance (by decide +kernel) (pa_cons (pv 2) (pa_cons (pe_glob rfl T.g_NoHappening rel_ref) pa_nil))) (pa_cons (pe_callB call_isX (by rfl) T.n_isinstance (by decide +kernel) (pa_cons (pv 2) (pa_cons (pe_glob rfl T.g_Beyond rel_ref) pa_nil))) pa_nil))))))
      (pss_cons (ps_set (i := 3) sc__law_classes.nd rfl (by first | exact Or.inl rfl | exact Or.inr rfl) (pe_op op_cat (pv 3) (pe_lst (pa_cons (pe_callB call_isX (by rfl) T.n_isinstance (by decide +kernel) (pa_cons (pv 2) (pa_cons (pe_glob rfl T.g_NoText rel_ref) pa_nil))) (pa_cons (pe_callB call_isX (by rfl) T.n_isinstance (by decide +kernel) (pa_cons (pv 2) (pa_cons (pe_glob rfl T.g_NoName rel_ref) pa_nil))) (pa_cons (pe_callB call_isX (by rfl) T.n_isinstance (by decide +kernel) (pa_cons (pv 2) (pa_cons (pe_glob rfl T.g_NoMove rel_ref) pa_nil))) pa_nil))))))
      (pss_cons (ps_set (i := 3) sc__law_classes.nd rfl (by first | exact Or.inl rfl | exact Or.inr rfl) (pe_op op_cat (pv 3) (pe_lst (pa_cons (pe_callB call_isX (by rfl) T.n_isinstance (by decide +kernel) (pa_cons (pv 2) (pa_cons (pe_glob rfl T.g_NoSaying rel_ref) pa_nil))) (pa_cons (pe_callB call_isX (by rfl) T.n_isinstance (by decide +kernel) (pa_cons (pv 2) (pa_cons (pe_glob rfl T.g_TooGreat rel_ref) pa_nil))) (pa_cons (pe_callB call_isX (by rfl) T.n_isinstance (by decide +kernel) (pa_cons (pv 2) (pa_cons (pe_glob rfl T.g_Gone rel_ref) pa_nil))) pa_nil))))))
      (pss_cons (ps_set (i := 3) sc__law_classes.nd rfl (by first | exact Or.inl rfl | exact Or.inr rfl) (pe_op op_cat (pv 3) (pe_lst (pa_cons (pe_callB call_isX (by rfl) T.n_isinstance (by decide +kernel) (pa_cons (pv 2) (pa_cons (pe_glob rfl T.g_Apart rel_ref) pa_nil))) (pa_cons (pe_callB call_isX (by rfl) T.n_isinstance (by decide +kernel) (pa_cons (pv 2) (pa_cons (pe_glob rfl T.g_Moved rel_ref) pa_nil))) (pa_cons (pe_callB call_isX (by rfl) T.n_isinstance (by decide +kernel) (pa_cons (pv 2) (pa_cons (pe_glob rfl T.g_NoTitle rel_ref) pa_nil))) pa_nil))))))
      (pss_cons (ps_set (i := 3) sc__law_classes.nd rfl (by first | exact Or.inl rfl | exact Or.inr rfl) (pe_op op_cat (pv 3) (pe_lst (pa_cons (pe_callB call_isX (by rfl) T.n_isinstance (by decide +kernel) (pa_cons (pv 2) (pa_cons (pe_glob rfl T.g_Taken rel_ref) pa_nil))) (pa_cons (pe_callB call_isX (by rfl) T.n_isinstance (by decide +kernel) (pa_cons (pv 2) (pa_cons (pe_glob rfl T.g_NoRun rel_ref) pa_nil))) (pa_cons (pe_callB call_isX (by rfl) T.n_isinstance (by decide +kernel) (pa_cons (pv 2) (pa_cons (pe_glob rfl T.g_NoLead rel_ref) pa_nil))) pa_nil))))))
      (pss_one (ps_if (pt_cmpR (op_neD hr.units) (pv 3) (pe_lc (own := [("_law_j", 4)]) (g := gName 4) (tt := tYes) rfl sc__law_classes.nd (pi_range1 (by rfl) T.n_range (pa_cons (pe_callB call_len_seq (by rfl) T.n_len PySem.boot_len (pa_cons (pv 0) pa_nil)) pa_nil)) (blkOk_by (own := [("_law_j", 4)]) (N := ["_law_some", "_law_k", "_law_here", "_law_kinds", "_law_j"]) (sc := defScope s__law_classes) (by decide +kernel)) (fun _ _ _ _ _ => (pg_name (i := 4) sc__law_classes.nd rfl (by first | exact Or.inl rfl | exact Or.inr rfl))) (fun _ _ _ _ _ => pts_nil) (fun _ _ _ _ _ => (pe_cmpR op_eq (pv 4) (pv 1) (nomark _)))) (nomark _)) (pss_one (ps_ret pe_bl)) pss_nil))))))))))))
      (pss_one (ps_ret pe_bl))))), ?_⟩
    refine ⟨rfl, fun p vs H1 n1 e1 h1 x1 => ?_⟩
    have hlen : vs.length = 22 := (pl x1).symm
    -- if not isinstance(StandError(), ValueError)
    refine q_when (b := false) (et_not (a := true) (et_B (ev_isxN (C := A.StandError) exb (fun _ => ev_c) (.ty _) T.xk_StandError (T.kitV _ (List.mem_cons_self ..))))) (fun z => nomatch z) fun _ H2 e2 => ?_
    have h2 := e2 _ _ h1
    have x2 := isxs_ex e2 x1
    refine ⟨_, rfl, p, vs, rfl, SqL.of h2, for_it walk_enum (fun i σ H' => Ex H2 H' ∧ ∃ v1 v2 v3, σ = [some (.ref p), v1, v2, v3, none]) ⟨Ex.refl H2, none, none, none, rfl⟩ (fun i σ H' _ ⟨e, _⟩ => SqL.of (e _ _ h2)) ?_ ?_⟩
    · rintro i x σ H3 H4 hi ⟨e3, v1, v2, v3, rfl⟩ ⟨Tp, y1, y2, rfl, nT, rfl, hy1, hy2⟩
      cases hy1
      have e4 : Ex H3 (upd H3 Tp (.tup [.int (i : Nat), y2])) := Ex.new nT
      refine ⟨Tp, _, rfl, SqT.of upd_same, rfl, _, _, rfl, _, _, rfl, rfl, ?_⟩
      generalize upd H3 Tp (.tup [.int (i : Nat), y2]) = H4 at e4 ⊢
      have e24 := e3.trans e4
      obtain ⟨C, hC, hx⟩ := px_get (isxs_ex e24 x2) hy2
      have mC : C ∈ A.cls := List.mem_of_getElem? hC
      have kC := T.xks C mC
      have hp4 := e24 _ _ h2
      refine q_when (b := false) (et_or (a := false) (b := false) (et_not (a := true) (et_B (ev_isx (ev_var rfl) hx ev_c (.own _) kC (T.kitS C mC)))) fun _ => et_not (a := true) (et_B (ev_isx (ev_var rfl) hx ev_c (.ty _) kC (T.kitV C (List.mem_cons_of_mem _ mC))))) (fun z => nomatch z) fun _ H5 e5 => ?_
      have is : ∀ (H' : Hp) (j : Nat) (D : Addr), Ex H4 H' → A.cls[j]? = some D → ∀ σ : L2.St, σ[2]? = some (some y2) → Ev (tCB (rIsX K) (tCons (tVar 2) (tCons (tC (.ref D)) tNil))) σ H' (.bl (decide (i = j))) :=
        fun H' j D e hD σ hs => ev_isx (ev_var hs) (hx.ex e) ev_c (.own _) kC (T.kit i j C D hC hD)
      refine q_asgL (xs := [.bl (decide (i = 0)), .bl (decide (i = 1)), .bl (decide (i = 2))]) (el_lst (ea_cons (is H5 0 _ e5 rfl _ rfl) (ea_cons (is H5 1 _ e5 rfl _ rfl) (ea_cons (is H5 2 _ e5 rfl _ rfl) ea_nil))) (by simp)) fun p6 H6 n6 e6 h6 => ?_
      have e46 := e5.trans e6
      refine q_asgL (el_cat (ys := [.bl (decide (i = 3)), .bl (decide (i = 4)), .bl (decide (i = 5))]) (ev_var rfl) h6 (el_lst (ea_cons (is H6 3 _ e46 rfl _ rfl) (ea_cons (is H6 4 _ e46 rfl _ rfl) (ea_cons (is H6 5 _ e46 rfl _ rfl) ea_nil))) (by simp)) (by simp)) fun p7 H7 n7 e7 h7 => ?_
      have e47 := e46.trans e7
      refine q_app (v := .bl (decide (i = 6))) h7 (ev_var rfl) (is H7 6 _ e47 rfl _ rfl) (by simp) fun H8 e8 => ?_
      have n47 : H4 p7 = none := fresh_back e46 n7
      have e49 : Ex H4 (upd H8 p7 _) := Ex.mut (o := .lst (([.bl (decide (i = 0)), .bl (decide (i = 1)), .bl (decide (i = 2))] ++ [.bl (decide (i = 3)), .bl (decide (i = 4)), .bl (decide (i = 5))]) ++ [.bl (decide (i = 6))])) (e47.trans e8) n47
      have h9 : upd H8 p7 (.lst (([.bl (decide (i = 0)), .bl (decide (i = 1)), .bl (decide (i = 2))] ++ [.bl (decide (i = 3)), .bl (decide (i = 4)), .bl (decide (i = 5))]) ++ [.bl (decide (i = 6))])) p7 = some _ := upd_same
      generalize upd H8 p7 (.lst (([.bl (decide (i = 0)), .bl (decide (i = 1)), .bl (decide (i = 2))] ++ [.bl (decide (i = 3)), .bl (decide (i = 4)), .bl (decide (i = 5))]) ++ [.bl (decide (i = 6))])) = H9 at e49 h9 ⊢
      refine q_asgL (el_cat (ys := [.bl (decide (i = 7)), .bl (decide (i = 8)), .bl (decide (i = 9))]) (ev_var rfl) h9 (el_lst (ea_cons (is H9 7 _ e49 rfl _ rfl) (ea_cons (is H9 8 _ e49 rfl _ rfl) (ea_cons (is H9 9 _ e49 rfl _ rfl) ea_nil))) (by simp)) (by simp)) fun pA HA nA eA hA => ?_
      have e4A := e49.trans eA
      refine q_asgL (el_cat (ys := [.bl (decide (i = 10)), .bl (decide (i = 11)), .bl (decide (i = 12))]) (ev_var rfl) hA (el_lst (ea_cons (is HA 10 _ e4A rfl _ rfl) (ea_cons (is HA 11 _ e4A rfl _ rfl) (ea_cons (is HA 12 _ e4A rfl _ rfl) ea_nil))) (by simp)) (by simp)) fun pB HB nB eB hB => ?_
      have e4B := e4A.trans eB
      refine q_asgL (el_cat (ys := [.bl (decide (i = 13)), .bl (decide (i = 14)), .bl (decide (i = 15))]) (ev_var rfl) hB (el_lst (ea_cons (is HB 13 _ e4B rfl _ rfl) (ea_cons (is HB 14 _ e4B rfl _ rfl) (ea_cons (is HB 15 _ e4B rfl _ rfl) ea_nil))) (by simp)) (by simp)) fun pC HC nC eC hC' => ?_
      have e4C := e4B.trans eC
      refine q_asgL (el_cat (ys := [.bl (decide (i = 16)), .bl (decide (i = 17)), .bl (decide (i = 18))]) (ev_var rfl) hC' (el_lst (ea_cons (is HC 16 _ e4C rfl _ rfl) (ea_cons (is HC 17 _ e4C rfl _ rfl) (ea_cons (is HC 18 _ e4C rfl _ rfl) ea_nil))) (by simp)) (by simp)) fun pD HD nD eD hD => ?_
      have e4D := e4C.trans eD
      refine q_asgL (el_cat (ys := [.bl (decide (i = 19)), .bl (decide (i = 20)), .bl (decide (i = 21))]) (ev_var rfl) hD (el_lst (ea_cons (is HD 19 _ e4D rfl _ rfl) (ea_cons (is HD 20 _ e4D rfl _ rfl) (ea_cons (is HD 21 _ e4D rfl _ rfl) ea_nil))) (by simp)) (by simp)) fun pE HE nE eE hE => ?_
      have e4E := e4D.trans eE
      have hE' : HE pE = some (.lst (ans i)) := hE
      have hpE := e4E _ _ hp4
      -- if kinds != [..]
      refine s_when (b := false) (et_test (ev_is (ev_neLL (K := K) (ds := ansD i) (es := ansD i) (ev_var rfl) hE' (ys := ans i) ?_ (dpa_map _ _) (dpa_map _ _) (shaped_list (ans_good i)) (shaped_list (ans_good i))) (by rw [same_list (ans_good i)]; rfl))) (fun z => nomatch z) fun _ HF eF => ⟨((e24.trans e4E).trans eF), _, _, _, rfl⟩
      have z := el_lcR1 (te := tOp rEq (tVar 4) (tVar 1)) (t := tYes) (ta := tCons (tCB (rLenS K) (tCons (tVar 0) tNil)) tNil) (σ := [some (.ref p), some (.int (i : Nat)), some y2, some (.ref pE), none]) (H := HE) (j := 4) (vs := [4]) (n := 22) (fun _ => true) (fun j => V.bl (decide (V.int (j : Int) = V.int (i : Int))))
        (ea_cons (ev_is (ev_len (ev_var rfl) (SqL.of hpE)) (by rw [hlen]; rfl)) ea_nil) ⟨by decide, by decide⟩ (fun x => rfl) (fun i H1 e hi H2 e2 Q q => q H2 (Ex.refl H2)) (fun j H1 e hj hf => ev_op (ev_var rfl) (ev_var rfl) (rv_eq rfl))
      rw [kinds_eq] at z
      exact z
    · rintro σ H3 ⟨e3, v1, v2, v3, rfl⟩
      exact q H3 ((e1.trans e2).trans e3)
end
end K30
set_option Elab.async false
set_option linter.all false
set_option maxRecDepth 100000
set_option maxHeartbeats 8000000
namespace K30
open PySem PySem.Spec PyProof.Rows L2 XW Evl
theorem text_ok {r : Int} (h0 : 0 ≤ r) (h1 : r < 1000) : (Str.ofString (toString r)).length ≤ 3 ∧ PyData.strOk (Str.ofString "a" ++ Str.ofString (toString r)) = true := by
  have e : r = ((r.toNat : Nat) : Int) := by omega
  rw [e]
  have a : ∀ m : Nat, m < 1000 → (Str.ofString (toString ((m : Nat) : Int))).length ≤ 3 ∧ PyData.strOk (Str.ofString "a" ++ Str.ofString (toString ((m : Nat) : Int))) = true := by decide +kernel
  exact a r.toNat (by omega)
theorem log_ok {r : Int} (h0 : 0 ≤ r) (h1 : r < 1000) : r.natAbs.log2 < 1920 := by
  have e : r = ((r.toNat : Nat) : Int) := by omega
  rw [e]
  have a : ∀ m : Nat, m < 1000 → ((m : Nat) : Int).natAbs.log2 < 1920 := by decide +kernel
  exact a r.toNat (by omega)
/-- the heap without the purse -/
theorem del_ex {H : Hp} {p : Addr} {o : HO} : Ex (delH H p) (upd H p o) := fun b u e => by
  by_cases h : b = p
  · rw [h, delH_same] at e
    cases e
  · rw [delH_ne h] at e
    rw [upd_ne h]
    exact e
theorem del_ex0 {H : Hp} {p : Addr} : Ex (delH H p) H := fun b u e => by
  by_cases h : b = p
  · rw [h, delH_same] at e
    cases e
  · rw [delH_ne h] at e
    exact e
theorem yes_i {σ : L2.St} {H : Hp} {A B : Hp → Prop} (h : A H) : tYes σ H (fun b H3 => if b = true then A H3 else B H3) := by
  show (if true = true then A H else B H)
  rw [if_pos rfl]
  exact h
/-- v may be compared, by a heap -/
def Ok (K : PySem.W.Frag) (H : Hp) (v : V) : Prop := ∃ d, Dp K H v d ∧ Good d
theorem Ok.ex {K : PySem.W.Frag} {H H' : Hp} {v : V} (e : Ex H H') (h : Ok K H v) : Ok K H' v := by
  obtain ⟨d, a, b⟩ := h
  exact ⟨d, dp_ex e _ _ a, b⟩
section
variable {P : Program} {w : World} {K : PySem.W.Frag} {mg : Str → Option Value} {base : Heap} {A : Ads} {H : Hp}
theorem ok_str {x : Str} (h : PyData.strOk x = true) : Ok K H (.str x) := ⟨.str x, .str x, h, Nat.zero_le _⟩
theorem ok_int {i : Int} : Ok K H (.int i) := ⟨.int i, .int i, rfl, Nat.zero_le _⟩
theorem ok_non : Ok K H .non := ⟨.none, .non, rfl, Nat.zero_le _⟩
theorem ok_bl {b : Bool} : Ok K H (.bl b) := ⟨.bool b, .bl b, rfl, Nat.zero_le _⟩
def sp_law (K : PySem.W.Frag) : Sp := fun vs H Q _ => ∃ (a : Addr) (ns : List Int), vs = [.ref a] ∧ SqL K H a (ns.map V.int) ∧ ns.length ≤ 63 ∧ ∀ H', Q (.bl true) H'
theorem ok_law (T : Txt K mg A) (I : Ins P w K mg base A) : FnOk P w K mg base CX0 5 A.a_law A.fd_law ["_law_script"] (sp_law K) := by
  have G__law_purse := ok_purse (P := P) (w := w) (base := base) T
  have G__law_draw := ok_draw (P := P) (w := w) (base := base) T
  have G__law_places := ok_places (P := P) (w := w) (base := base) T I
  have G__law_named := ok_named (P := P) (w := w) (base := base) T I
  have G__law_beside := ok_beside (P := P) (w := w) (base := base) T I
  have G__law_classes := ok_classes (P := P) (w := w) (base := base) T I
  have G__law_left_out := ok_left_out (P := P) (w := w) (base := base) T I
  refine T.F_law.ok sc_law (fun vs H Q E h => ?_) (fun cdv Ar outer s H vs Q E hr h => ?_)
  · obtain ⟨a, ns, rfl, _⟩ := h
    rfl
  · obtain ⟨a, ns, rfl, hS, hlen, q⟩ := h
    refine ⟨_, (pss_cons (ps_for PassesOwn.never rfl (pi_range1 (by rfl) T.n_range (pa_cons pe_int pa_nil)) (pg_name (i := 1) sc_law.nd rfl (by first | exact Or.inl rfl | exact Or.inr rfl)) (pss_cons (ps_set (i := 2) sc_law.nd rfl (by first | exact Or.inl rfl | exact Or.inr rfl) (pe_call G__law_purse (hr.mono (by decide)) rfl T.g__law_purse T.F__law_purse.kp T.b__law_purse .nil pass0 (pa_cons (pv 0) (pa_cons (pv 1) pa_nil))))
      (pss_cons (ps_set (i := 3) sc_law.nd rfl (by first | exact Or.inl rfl | exact Or.inr rfl) (pe_lst (pa_cons (pe_op op_add_str pe_str (pe_callTy call_str_int (by rfl) T.n_str (by decide +kernel) (pa_cons (pe_call G__law_draw (hr.mono (by decide)) rfl T.g__law_draw T.F__law_draw.kp T.b__law_draw .nil pass0 (pa_cons (pv 2) (pa_cons pe_int pa_nil))) pa_nil))) (pa_cons (pe_call G__law_draw (hr.mono (by decide)) rfl T.g__law_draw T.F__law_draw.kp T.b__law_draw .nil pass0 (pa_cons (pv 2) (pa_cons pe_int pa_nil))) (pa_cons (pe_tup (pa_cons pe_str (pa_cons (pe_call G__law_draw (hr.mono (by decide)) rfl T.g__law_draw T.F__law_draw.kp T.b__law_draw .nil pass0 (pa_cons (pv 2) (pa_cons pe_int pa_nil))) pa_nil))) pa_nil)))))
      (pss_cons (ps_set (i := 3) sc_law.nd rfl (by first | exact Or.inl rfl | exact Or.inr rfl) (pe_op op_cat (pv 3) (pe_lst (pa_cons pe_non (pa_cons (pe_tup pa_nil) (pa_cons (pe_lst pa_nil) (pa_cons pe_str (pa_cons pe_bl (pa_cons (pe_un un_neg pe_int) (pa_cons (pe_lst (pa_cons pe_str (pa_cons pe_non pa_nil))) pa_nil))))))))))
      (pss_cons (ps_asg (pe_lc (own := [("_law_k", 8)]) (g := gName 8) (tt := tYes) rfl sc_law.nd (pi_range1 (by rfl) T.n_range (pa_cons pe_int pa_nil)) (blkOk_by (own := [("_law_k", 8)]) (N := ["_law_script", "_law_cell", "_law_purse_here", "_law_some", "_law_a", "_law_b", "_law_x", "_law_y", "_law_k"]) (sc := defScope s_law) (by decide +kernel)) (fun _ _ _ _ _ => (pg_name (i := 8) sc_law.nd rfl (by first | exact Or.inl rfl | exact Or.inr rfl))) (fun _ _ _ _ _ => pts_nil) (fun _ _ _ _ _ => (pe_ix (ix_listK (K := K) rfl) (pv 3) (pe_call G__law_draw (hr.mono (by decide)) rfl T.g__law_draw T.F__law_draw.kp T.b__law_draw .nil pass0 (pa_cons (pv 2) (pa_cons pe_int pa_nil))) (fun _ _ => rfl)))) (pg_unl rfl (pgs_cons (pg_name (i := 4) sc_law.nd rfl (by first | exact Or.inl rfl | exact Or.inr rfl)) (pgs_cons (pg_name (i := 5) sc_law.nd rfl (by first | exact Or.inl rfl | exact Or.inr rfl)) pgs_nil))))
      (pss_one (ps_for PassesOwn.never rfl (pi_list (pe_lst (pa_cons (pe_tup (pa_cons (pv 4) (pa_cons pe_str pa_nil))) (pa_cons (pe_tup (pa_cons (pv 4) (pa_cons (pv 5) pa_nil))) (pa_cons (pe_tup (pa_cons (pv 5) (pa_cons (pv 4) pa_nil))) (pa_cons (pe_tup (pa_cons (pv 4) (pa_cons (pv 4) pa_nil))) pa_nil)))))) (pg_tup rfl (pgs_cons (pg_name (i := 6) sc_law.nd rfl (by first | exact Or.inl rfl | exact Or.inr rfl)) (pgs_cons (pg_name (i := 7) sc_law.nd rfl (by first | exact Or.inl rfl | exact Or.inr rfl)) pgs_nil))) (pss_one (ps_if (PW.pt (pw_or (pt_not (pt_val (pe_call G__law_places (hr.mono (by decide)) rfl T.g__law_places T.F__law_places.kp T.b__law_places .nil pass0 (pa_cons (pv 6) (pa_cons (pv 7) pa_nil))))) (pw_or (pt_not (pt_val (pe_call G__law_named (hr.mono (by decide)) rfl T.g__law_named T.F__law_named.kp T.b__law_named .nil pass0 (pa_cons (pv 6) (pa_cons (pv 7) pa_nil))))) (pw_or1 (pt_not (pt_val (pe_call G__law_beside (hr.mono (by decide)) rfl T.g__law_beside T.F__law_beside.kp T.b__law_beside .nil pass0 (pa_cons (pv 6) (pa_cons (pv 7) pa_nil))))))))) (pss_one (ps_ret pe_bl)) pss_nil)))))))))
      (pss_one (ps_ret (pe_and (pe_call0 G__law_classes (hr.mono (by decide)) rfl T.g__law_classes T.F__law_classes.kp T.b__law_classes .nil pass0) (pe_one (pe_call0 G__law_left_out (hr.mono (by decide)) rfl T.g__law_left_out T.F__law_left_out.kp T.b__law_left_out .nil pass0)))))), ?_⟩
    refine ⟨4, rfl, by decide, by decide, for_range (lo := 0) (n := 4) (fun i σ H' => Ex H H' ∧ ∃ v1 v2 v3 v4 v5 v6 v7, σ = [some (.ref a), v1, v2, v3, v4, v5, v6, v7, none]) ⟨Ex.refl H, none, none, none, none, none, none, none, rfl⟩ ?_ ?_⟩
    · rintro i σ H0 hi ⟨e0, v1, v2, v3, v4, v5, v6, v7, rfl⟩
      -- purse
      refine ⟨_, rfl, _, rfl, a, ns, (0 : Int) + (i : Nat), rfl, ex_l e0 hS, by omega, by omega, fun p x y np x0 y0 y1 => ?_⟩
      -- some = [..]
      refine ⟨_, rfl, p, x, y, 1000 * (0 + (i : Nat)), 1000, rfl, upd_same, x0, y0, y1, by omega, by omega, by decide, by decide, fun r1 x1 z1 r10 r11 x10 z10 z11 => ?_⟩
      rw [upd_upd]
      refine ⟨r1, rfl, log_ok r10 r11, _, _, rfl, rfl, ?_, ?_⟩
      · have := (text_ok r10 r11).1
        show 1 + (Str.ofString (toString r1)).length ≤ sizeLine
        have h1 : (10 : Nat) ≤ sizeLine := by decide
        omega
      refine ⟨_, rfl, p, x1, y, z1, 1000, rfl, upd_same, x10, y0, y1, by omega, by omega, by decide, by decide, fun r2 x2 z2 r20 r21 x20 z20 z21 => ?_⟩
      rw [upd_upd]
      refine ⟨_, rfl, p, x2, y, z2, 9, rfl, upd_same, x20, y0, y1, by omega, by omega, by decide, by decide, fun r3 x3 z3 r30 r31 x30 z30 z31 => ?_⟩
      rw [upd_upd]
      have hp3 : upd H0 p (.lst [.int x3, .int y, .int z3]) p = some (.lst [.int x3, .int y, .int z3]) := upd_same
      have e3 : Ex H0 (upd H0 p (.lst [.int x3, .int y, .int z3])) := Ex.new np
      generalize upd H0 p (.lst [.int x3, .int y, .int z3]) = H3 at hp3 e3 ⊢
      refine ⟨(by show 2 ≤ sizeLine; decide), fun t4 nt4 => ⟨(by show 3 ≤ sizeLine; decide), fun l5 nl5 => ?_⟩⟩
      have e4 : Ex H3 (upd H3 t4 (.tup [.str "b", .int r3])) := Ex.new nt4
      have h4 : upd H3 t4 (.tup [.str "b", .int r3]) t4 = some (.tup [.str "b", .int r3]) := upd_same
      generalize upd H3 t4 (.tup [.str "b", .int r3]) = H4 at e4 h4 nl5 ⊢
      have e5 : Ex H4 (upd H4 l5 (.lst [.str (Str.ofString "a" ++ Str.ofString (toString r1)), .int r2, .ref t4])) := Ex.new nl5
      have h5 : upd H4 l5 (.lst [.str (Str.ofString "a" ++ Str.ofString (toString r1)), .int r2, .ref t4]) l5 = some (.lst [.str (Str.ofString "a" ++ Str.ofString (toString r1)), .int r2, .ref t4]) := upd_same
      generalize upd H4 l5 (.lst [.str (Str.ofString "a" ++ Str.ofString (toString r1)), .int r2, .ref t4]) = H5 at e5 h5 ⊢
      -- some = some + [..]
      refine ⟨_, rfl, (by show 0 ≤ sizeLine; decide), fun t6 nt6 => ⟨(by show 0 ≤ sizeLine; decide), fun l7 nl7 => ⟨_, rfl, (by show 2 ≤ sizeLine; decide), fun l8 nl8 => ⟨(by show 7 ≤ sizeLine; decide), fun l9 nl9 => ?_⟩⟩⟩⟩
      have e6 : Ex H5 (upd H5 t6 (.tup [])) := Ex.new nt6
      have h6 : upd H5 t6 (.tup []) t6 = some (.tup []) := upd_same
      generalize upd H5 t6 (.tup []) = H6 at e6 h6 nl7 nl8 nl9 ⊢
      have e7 : Ex H6 (upd H6 l7 (.lst [])) := Ex.new nl7
      have h7 : upd H6 l7 (.lst []) l7 = some (.lst []) := upd_same
      generalize upd H6 l7 (.lst []) = H7 at e7 h7 nl8 nl9 ⊢
      have e8 : Ex H7 (upd H7 l8 (.lst [.str "a", .non])) := Ex.new nl8
      have h8 : upd H7 l8 (.lst [.str "a", .non]) l8 = some (.lst [.str "a", .non]) := upd_same
      generalize upd H7 l8 (.lst [.str "a", .non]) = H8 at e8 h8 nl9 ⊢
      have e9 : Ex H8 (upd H8 l9 (.lst [.non, .ref t6, .ref l7, .str "", .bl true, .int (-7), .ref l8])) := Ex.new nl9
      have h9 : upd H8 l9 (.lst [.non, .ref t6, .ref l7, .str "", .bl true, .int (-7), .ref l8]) l9 = some (.lst [.non, .ref t6, .ref l7, .str "", .bl true, .int (-7), .ref l8]) := upd_same
      generalize upd H8 l9 (.lst [.non, .ref t6, .ref l7, .str "", .bl true, .int (-7), .ref l8]) = H9 at e9 h9 ⊢
      have e59 := ((e6.trans e7).trans e8).trans e9
      refine ⟨l5, l9, _, _, rfl, rfl, e59 _ _ h5, h9, (by show 10 ≤ sizeLine; decide), fun lA nlA => ?_⟩
      have eA : Ex H9 (upd H9 lA (.lst ([.str (Str.ofString "a" ++ Str.ofString (toString r1)), .int r2, .ref t4] ++ [.non, .ref t6, .ref l7, .str "", .bl true, .int (-7), .ref l8]))) := Ex.new nlA
      have hA : upd H9 lA (.lst ([.str (Str.ofString "a" ++ Str.ofString (toString r1)), .int r2, .ref t4] ++ [.non, .ref t6, .ref l7, .str "", .bl true, .int (-7), .ref l8])) lA = some (.lst ([.str (Str.ofString "a" ++ Str.ofString (toString r1)), .int r2, .ref t4] ++ [.non, .ref t6, .ref l7, .str "", .bl true, .int (-7), .ref l8])) := upd_same
      generalize upd H9 lA (.lst ([.str (Str.ofString "a" ++ Str.ofString (toString r1)), .int r2, .ref t4] ++ [.non, .ref t6, .ref l7, .str "", .bl true, .int (-7), .ref l8])) = HA at eA hA ⊢
      have e3A : Ex H3 HA := ((e4.trans e5).trans e59).trans eA
      have hpA : HA p = some (.lst [.int x3, .int y, .int z3]) := e3A _ _ hp3
      have ht4 : HA t4 = some (.tup [.str "b", .int r3]) := eA _ _ (e59 _ _ (e5 _ _ h4))
      have ht6 : HA t6 = some (.tup []) := eA _ _ (e9 _ _ (e8 _ _ (e7 _ _ h6)))
      have hl7 : HA l7 = some (.lst []) := eA _ _ (e9 _ _ (e8 _ _ h7))
      have hl8 : HA l8 = some (.lst [.str "a", .non]) := eA _ _ (e9 _ _ h8)
      have nA : lA ≠ p := ne_of hA hpA (by intro z; cases z)
      have n4 : t4 ≠ p := ne_of ht4 hpA (by intro z; cases z)
      have n6 : t6 ≠ p := ne_of ht6 hpA (by intro z; cases z)
      have n7 : l7 ≠ p := ne_of hl7 hpA (by intro z; cases z)
      have n8 : l8 ≠ p := ne_of hl8 hpA (by intro z; cases z)
      have e0n : Ex H0 (delH HA p) := fun b o e => by
        rw [delH_ne (ne_of_none e np)]
        exact e3A _ _ (e3 _ _ e)
      have hn : delH HA p p = none := delH_same
      have hnA : delH HA p lA = some (.lst ([.str (Str.ofString "a" ++ Str.ofString (toString r1)), .int r2, .ref t4] ++ [.non, .ref t6, .ref l7, .str "", .bl true, .int (-7), .ref l8])) := by rw [delH_ne nA]; exact hA
      have hall : ∀ v ∈ ([.str (Str.ofString "a" ++ Str.ofString (toString r1)), .int r2, .ref t4] ++ [.non, .ref t6, .ref l7, .str "", .bl true, .int (-7), .ref l8] : List V), Ok K (delH HA p) v := by
        intro v hv
        simp only [List.cons_append, List.nil_append, List.mem_cons, List.not_mem_nil, or_false] at hv
        rcases hv with rfl | rfl | rfl | rfl | rfl | rfl | rfl | rfl | rfl | rfl
        · exact ok_str (text_ok r10 r11).2
        · exact ok_int
        · exact ⟨.tuple [.str "b", .int r3], .tup (SqT.of (by rw [delH_ne n4]; exact ht4)) (.cons (.str _) (.cons (.int _) .nil)), by show (PyData.strOk "b" && (true && true)) = true; decide +kernel, by show max 0 (max 0 0) + 1 ≤ 60; decide⟩
        · exact ok_non
        · exact ⟨.tuple [], .tup (SqT.of (by rw [delH_ne n6]; exact ht6)) .nil, rfl, by decide⟩
        · exact ⟨.list [], .lst (SqL.of (by rw [delH_ne n7]; exact hl7)) .nil, rfl, by decide⟩
        · exact ok_str (by decide +kernel)
        · exact ok_bl
        · exact ok_int
        · exact ⟨.list [.str "a", .none], .lst (SqL.of (by rw [delH_ne n8]; exact hl8)) (.cons (.str _) (.cons .non .nil)), by decide +kernel, by decide⟩
      have ein : Ex (delH HA p) HA := del_ex0
      have nnA : ∀ b, HA b = none → delH HA p b = none := fun b h => fresh_back ein h
      generalize delH HA p = Hn at e0n hn hnA hall ein nnA
      have lenA : ([.str (Str.ofString "a" ++ Str.ofString (toString r1)), .int r2, .ref t4] ++ [.non, .ref t6, .ref l7, .str "", .bl true, .int (-7), .ref l8] : List V).length = 10 := rfl
      generalize ([.str (Str.ofString "a" ++ Str.ofString (toString r1)), .int r2, .ref t4] ++ [.non, .ref t6, .ref l7, .str "", .bl true, .int (-7), .ref l8] : List V) = xsA at hall hnA hA lenA
      -- a, b = [..]
      refine ⟨2, rfl, by decide, by decide, fun Dl nD => lc_range (lo := 0) (n := 2) (fun j H' => ∃ (x' z' : Int) (acc : List V), Ex Hn H' ∧ H' p = some (.lst [.int x', .int y, .int z']) ∧ 0 ≤ x' ∧ 0 ≤ z' ∧ z' ≤ z3 + (j : Nat) ∧ H' Dl = some (.lst acc) ∧ acc.length = j ∧ ∀ v ∈ acc, Ok K Hn v) ?_ ?_ ?_⟩
      · exact ⟨x3, z3, [], ein.trans (Ex.new nD), by rw [upd_ne (ne_of_none hpA nD)]; exact hpA, x30, by omega, by omega, upd_same, rfl, fun v hv => by cases hv⟩
      · rintro j H' hj ⟨x', z', acc, eH, hp', x0', z0', z1', hD, hac, hok⟩
        have nDp : Dl ≠ p := (ne_of_none hpA nD).symm
        refine ⟨rfl, yes_i ?_⟩
        refine ⟨_, rfl, _, rfl, p, x', y, z', 10, rfl, hp', x0', y0, y1, z0', by omega, by decide, by decide, fun r x'' z'' r0 r1' x0'' z0'' z1'' => ?_⟩
        have hr : r.toNat < xsA.length := by rw [lenA]; omega
        refine ⟨lA, xsA, r, xsA[r.toNat], rfl, rfl, SqL.of (by rw [upd_ne nA]; exact eH _ _ hnA), at_of (j := r.toNat) (by omega) (List.getElem?_eq_getElem hr), acc, by rw [upd_ne nDp]; exact hD, ?_, ?_⟩
        · rw [hac]
          exact sz_lt (by omega)
        · refine ⟨x'', z'', acc ++ [xsA[r.toNat]], Ex.mut (Ex.mut eH hn) (nnA _ nD), by rw [upd_ne nDp.symm, upd_same], x0'', by omega, by omega, upd_same, by rw [List.length_append, hac]; rfl, fun v hv => ?_⟩
          rcases List.mem_append.mp hv with hv | hv
          · exact hok v hv
          · rw [List.mem_singleton.mp hv]
            exact hall _ (List.getElem_mem hr)
      · rintro HC ⟨x', z', acc, eH, hp', x0', z0', z1', hD, hac, hok⟩
        match acc, hac, hok, hD with
        | [u1, u2], _, hok, hD =>
        have ok1 := (hok u1 (by simp)).ex eH
        have ok2 := (hok u2 (by simp)).ex eH
        refine ⟨Dl, _, rfl, SqL.of hD, rfl, _, _, rfl, _, _, rfl, rfl, ?_⟩
        -- for x, y in [..]
        refine ⟨_, rfl, (by show 2 ≤ sizeLine; decide), fun q1 nq1 => ⟨_, rfl, _, rfl, (by show 2 ≤ sizeLine; decide), fun q2 nq2 => ⟨_, rfl, _, rfl, (by show 2 ≤ sizeLine; decide), fun q3 nq3 => ⟨_, rfl, _, rfl, (by show 2 ≤ sizeLine; decide), fun q4 nq4 => ⟨(by show 4 ≤ sizeLine; decide), fun L nL => ?_⟩⟩⟩⟩⟩
        have f1 : Ex HC (upd HC q1 (.tup [u1, .str "b"])) := Ex.new nq1
        have g1 : upd HC q1 (.tup [u1, .str "b"]) q1 = some (.tup [u1, .str "b"]) := upd_same
        generalize upd HC q1 (.tup [u1, .str "b"]) = HQ1 at f1 g1 nq2 nq3 nq4 nL ⊢
        have f2 : Ex HQ1 (upd HQ1 q2 (.tup [u1, u2])) := Ex.new nq2
        have g2 : upd HQ1 q2 (.tup [u1, u2]) q2 = some (.tup [u1, u2]) := upd_same
        generalize upd HQ1 q2 (.tup [u1, u2]) = HQ2 at f2 g2 nq3 nq4 nL ⊢
        have f3 : Ex HQ2 (upd HQ2 q3 (.tup [u2, u1])) := Ex.new nq3
        have g3 : upd HQ2 q3 (.tup [u2, u1]) q3 = some (.tup [u2, u1]) := upd_same
        generalize upd HQ2 q3 (.tup [u2, u1]) = HQ3 at f3 g3 nq4 nL ⊢
        have f4 : Ex HQ3 (upd HQ3 q4 (.tup [u1, u1])) := Ex.new nq4
        have g4 : upd HQ3 q4 (.tup [u1, u1]) q4 = some (.tup [u1, u1]) := upd_same
        generalize upd HQ3 q4 (.tup [u1, u1]) = HQ4 at f4 g4 nL ⊢
        have f5 : Ex HQ4 (upd HQ4 L (.lst [.ref q1, .ref q2, .ref q3, .ref q4])) := Ex.new nL
        have g5 : upd HQ4 L (.lst [.ref q1, .ref q2, .ref q3, .ref q4]) L = some (.lst [.ref q1, .ref q2, .ref q3, .ref q4]) := upd_same
        generalize upd HQ4 L (.lst [.ref q1, .ref q2, .ref q3, .ref q4]) = HL at f5 g5 ⊢
        have fC := (((f1.trans f2).trans f3).trans f4).trans f5
        have k1 := ok1.ex fC
        have k2 := ok2.ex fC
        have kb : Ok K HL (.str "b") := ok_str (by decide +kernel)
        have all : ∀ x ∈ ([.ref q1, .ref q2, .ref q3, .ref q4] : List V), ∃ (tt : Addr) (m1 m2 : V), x = .ref tt ∧ HL tt = some (.tup [m1, m2]) ∧ Ok K HL m1 ∧ Ok K HL m2 := by
          intro x hx
          simp only [List.mem_cons, List.not_mem_nil, or_false] at hx
          rcases hx with rfl | rfl | rfl | rfl
          · exact ⟨q1, _, _, rfl, f5 _ _ (f4 _ _ (f3 _ _ (f2 _ _ g1))), k1, kb⟩
          · exact ⟨q2, _, _, rfl, f5 _ _ (f4 _ _ (f3 _ _ g2)), k1, k2⟩
          · exact ⟨q3, _, _, rfl, f5 _ _ (f4 _ _ g3), k2, k1⟩
          · exact ⟨q4, _, _, rfl, f5 _ _ g4, k1, k1⟩
        refine ⟨L, rfl, ⟨_, SqL.of g5⟩, for_list (K := K) (a := L) (xs := [.ref q1, .ref q2, .ref q3, .ref q4]) (fun j σ' H' => Ex HL H' ∧ ∃ w6 w7, σ' = [some (.ref a), some (.int ((0 : Int) + (i : Nat))), some (.ref p), some (.ref lA), some u1, some u2, w6, w7, none])
          ⟨Ex.refl HL, v6, v7, rfl⟩ (fun j σ' H' _ ⟨e, _⟩ => SqL.of (e _ _ g5)) ?_ ?_⟩
        · rintro j xx σ' H' hx ⟨eL, w6, w7, rfl⟩
          obtain ⟨tt, m1, m2, rfl, ht, om1, om2⟩ := all xx (List.mem_of_getElem? hx)
          obtain ⟨d1, dp1, gd1⟩ := om1.ex eL
          obtain ⟨d2, dp2, gd2⟩ := om2.ex eL
          refine ⟨tt, _, rfl, SqT.of (eL _ _ ht), rfl, _, _, rfl, _, _, rfl, rfl, ?_⟩
          refine ⟨_, rfl, _, rfl, m1, m2, d1, d2, rfl, dp1, dp2, gd1, gd2, fun HX1 eX1 => ⟨true, rfl, iteF ?_⟩⟩
          refine ⟨_, rfl, _, rfl, m1, m2, d1, d2, rfl, dp_ex eX1 _ _ dp1, dp_ex eX1 _ _ dp2, gd1, gd2, fun HX2 eX2 => ⟨true, rfl, iteF ?_⟩⟩
          refine ⟨_, rfl, _, rfl, m1, m2, d1, d2, rfl, dp_ex (eX1.trans eX2) _ _ dp1, dp_ex (eX1.trans eX2) _ _ dp2, gd1, gd2, fun HX3 eX3 => ⟨true, rfl, iteF ?_⟩⟩
          exact ⟨((eL.trans eX1).trans eX2).trans eX3, _, _, rfl⟩
        · rintro σ' H' ⟨eL, w6, w7, rfl⟩
          exact ⟨(((e0.trans e0n).trans eH).trans fC).trans eL, _, _, _, _, _, _, _, rfl⟩
    · rintro σ H1 ⟨e1, v1, v2, v3, v4, v5, v6, v7, rfl⟩
      refine ⟨rfl, fun H2 e2 => ⟨true, rfl, iteT ?_⟩⟩
      exact ⟨rfl, fun H3 e3 => q H3⟩
end
end K30
set_option Elab.async false
set_option linter.all false
set_option maxRecDepth 100000
set_option maxHeartbeats 8000000
namespace K30
open PySem PySem.Spec PyProof.Rows L2 XW Evl
theorem rel_int {i : Int} {t : Tok} : L2.RelV (.int i) (.int i t) := ⟨t, rfl⟩
theorem rel_str {x : Str} {t : Tok} : L2.RelV (.str x) (.str x t) := ⟨t, rfl⟩
theorem rel_non : L2.RelV .non .none := rfl
abbrev veT : List Value := [.type "ValueError", .type "Exception", .type "BaseException", .type "object"]
/-- what the top has written of an exception class -/
structure ClsF (K : PySem.W.Frag) (C : Addr) (bm : List Value) : Prop where
  xl : ∃ nm q N bs sn sub ab col dd k0 k1 k2 k3 k5, K.lookup C = some (excClassObj nm q C N bs bm true sn sub ab col dd k0 k1 k2 k3 k5 "ValueError.__new__")
  ve : PySem.HandSPX.refsVE bm = true
  sa : PySem.W.findIn K (.ref C) "__setattr__" = some (some (.builtin "object.__setattr__"))
  ga : PySem.W.findIn K (.ref C) "__getattribute__" = some (some (.builtin "BaseException.__getattribute__"))
  gg : PySem.W.findIn K (.ref C) "__getattr__" = some none
  ca : PySem.W.findIn K (.ref C) "__class__" = some (some (.builtin "object.__class__"))
  kC : PySem.W.keepIn K (.ref C) = true
  tC : PySem.W.typeIn K (.ref C) = some (.type "type")
  hC : PySem.W.hasDictIn K C = true
section
variable {K : PySem.W.Frag} {C D S : Addr} {bm bm' : List Value} {mg : Str → Option Value}
theorem cls_mk {nm q : Str} {N : Addr} {bs : List Value} {sn : List Str} {sub : List Value} {ab : Bool} {col : Option Bool} {dd : Option Addr} {k0 k1 k2 k3 k5 : Option Value}
    (xl : K.lookup C = some (excClassObj nm q C N bs bm true sn sub ab col dd k0 k1 k2 k3 k5 "ValueError.__new__")) (ve : PySem.HandSPX.refsVE bm = true)
    (sa : PySem.W.findIn K (.ref C) "__setattr__" = some (some (.builtin "object.__setattr__"))) (ga : PySem.W.findIn K (.ref C) "__getattribute__" = some (some (.builtin "BaseException.__getattribute__"))) (gg : PySem.W.findIn K (.ref C) "__getattr__" = some none)
    (ca : PySem.W.findIn K (.ref C) "__class__" = some (some (.builtin "object.__class__"))) (kC : PySem.W.keepIn K (.ref C) = true) (tC : PySem.W.typeIn K (.ref C) = some (.type "type")) (hC : PySem.W.hasDictIn K C = true) : ClsF K C bm :=
  ⟨⟨nm, q, N, bs, sn, sub, ab, col, dd, k0, k1, k2, k3, k5, xl⟩, ve, sa, ga, gg, ca, kC, tC, hC⟩
theorem ClsF.cls (h : ClsF K C bm) : ∃ cd, PySem.W.clsIn K C = some cd ∧ cd.mro = .ref C :: bm := by
  obtain ⟨nm, q, N, bs, sn, sub, ab, col, dd, k0, k1, k2, k3, k5, xl⟩ := h.xl
  refine ⟨{ name := nm, bases := bs, mro := .ref C :: bm, ns := N, qualname := q, hasDict := true, slotNames := sn, subclasses := sub, abstract := ab, collection := col, hasDel := false }, ?_, rfl⟩
  unfold PySem.W.clsIn
  rw [xl] <;> rfl
theorem ClsF.sub (h : ClsF K C bm) (v : Value) : PySem.W.subIn K (.ref C) v = some ((Value.ref C :: bm).contains v) := by
  obtain ⟨cd, h1, h2⟩ := h.cls
  show PySem.W.mroIn K C v = _
  unfold PySem.W.mroIn
  rw [h1, Option.bind_some, h2] <;> rfl
theorem ClsF.base (h : ClsF K C bm) (n : String) (hn : veT.contains (.type n) = true) : PySem.W.subIn K (.ref C) (.type n) = some true := by
  rw [h.sub, List.contains_cons, PySem.HandSPX.refsVE_contains n bm h.ve]
  show some (false || veT.contains (.type n)) = some true
  rw [hn] <;> rfl
theorem ClsF.ox (h : ClsF K C bm) : OexC K C := by
  obtain ⟨nm, q, N, bs, sn, sub, ab, col, dd, k0, k1, k2, k3, k5, xl⟩ := h.xl
  exact ⟨⟨nm, q, N, bs, bm, sn, sub, ab, col, dd, k0, k1, k2, k3, k5, xl, h.ve⟩, h.sa, h.base "BaseException" (by decide +kernel), h.tC, h.kC⟩
theorem ClsF.xk (h : ClsF K C bm) (cg : PySem.W.specialIn K (.builtin "object.__class__") "__get__" = some (some (.builtin "getset_descriptor.__get__"))) (ct : PySem.W.takesIn K (.builtin "object.__class__") = some true) : XW.XK K C := by
  obtain ⟨cd, h1, h2⟩ := h.cls
  exact ⟨by rw [h1] <;> rfl, h.ga, h.gg, h.base "BaseException" (by decide +kernel), h.ca, cg, ct, h.base "object" (by decide +kernel)⟩
theorem ClsF.kit (h : ClsF K C bm) (h' : ClsF K D bm') : PySem.W.kitOne K (.ref C) (.ref D) = some ((Value.ref C :: bm).contains (.ref D)) := by
  obtain ⟨cd, h1, h2⟩ := h'.cls
  unfold PySem.W.kitOne
  by_cases e : (Value.ref C == Value.ref D) = true
  · rw [if_pos e]
    have e2 := eq_of_beq e
    rw [e2, List.contains_cons]
    simp
  · rw [if_neg e]
    have e2 : ((PySem.W.clsIn K D).isSome && PySem.W.typeIn K (.ref D) == some (.type "type")) = true := by
      rw [h1, h'.tC] <;> rfl
    show (if ((PySem.W.clsIn K D).isSome && PySem.W.typeIn K (.ref D) == some (.type "type")) = true then PySem.W.subIn K (.ref C) (.ref D) else none) = _
    rw [if_pos e2, h.sub]
theorem ClsF.kitV (h : ClsF K C bm) : PySem.W.kitOne K (.ref C) (.type "ValueError") = some true := by
  unfold PySem.W.kitOne
  rw [if_neg (by intro z; exact nomatch eq_of_beq z)]
  show (if PySem.W.kitMeta "ValueError" = true then PySem.W.subIn K (.ref C) (.type "ValueError") else none) = _
  rw [if_pos (by decide +kernel)]
  exact h.base "ValueError" (by decide +kernel)
theorem ClsF.xc {x : Str} {fI : Addr} (h : ClsF K C bm) (gC : mg x = some (.ref C)) (iC : PySem.W.findIn K (.ref C) "__init__" = some (some (.ref fI))) (tI : PySem.W.typeIn K (.ref fI) = some (.type "function")) : XC K mg x C fI := ⟨h.ox, gC, iC, tI, h.ga, h.gg, h.hC⟩
theorem kit_all {l : List Addr} (hl : ∀ C ∈ l, ClsF K C (.ref S :: veT)) (nd : (S :: l).Nodup) : ∀ (i j : Nat) (C D : Addr), l[i]? = some C → l[j]? = some D → PySem.W.kitOne K (.ref C) (.ref D) = some (decide (i = j)) := by
  intro i j C D hi hj
  have hC := hl C (List.mem_of_getElem? hi)
  have hD := hl D (List.mem_of_getElem? hj)
  rw [hC.kit hD]
  obtain ⟨n1, n2⟩ := List.nodup_cons.mp nd
  have nS : D ≠ S := fun z => n1 (z ▸ List.mem_of_getElem? hj)
  congr 1
  by_cases e : i = j
  · subst e
    rw [hi] at hj
    cases hj
    rw [List.contains_cons]
    simp
  · have nC : D ≠ C := fun z => e (nd_ix n2 hi (z ▸ hj))
    rw [decide_eq_false e]
    have a1 : (Value.ref D == Value.ref C) = false := by simpa using nC
    have a2 : (Value.ref D == Value.ref S) = false := by simpa using nS
    rw [List.contains_cons, List.contains_cons, a1, a2] <;> rfl
/-- an __init__ with defaults -/
theorem fund_mk {x qual : Str} {st : Stmt} {f Td : Addr} {oc : Value} {od an d2 : Option Addr} {osl sl2 : Array (Option Value)} {kV doc pm cdv ct tc : Value} {its : List Value} {n : Nat} {dvs : List V} (l : K.lookup f = some ⟨oc, od, .func (PySem.W.fnOf x qual (defArgs st) (defBody st) (defScope st) (.ref Td) kV doc pm an cdv ct), osl⟩)
    (c : PySem.W.codeIn K cdv qual = true) (k : PySem.W.keepIn K (.ref f) = true) (lT : K.lookup Td = some ⟨tc, d2, .seq its.toArray n, sl2⟩) (hd : dvs ≠ []) (hv : Vals dvs its) :
    FunD K x qual (defArgs st) (defBody st) (defScope st) dvs [] f (PySem.W.fnOf x qual (defArgs st) (defBody st) (defScope st) (.ref Td) kV doc pm an cdv ct) :=
  ⟨⟨oc, od, .ref Td, kV, doc, pm, an, cdv, ct, osl, rfl, l, c, .inr ⟨hd, Td, _, its, n, rfl, lT, rfl, hv⟩, .inl rfl⟩, k⟩
end
theorem all_mk {l : PySem.W.OpenLaw} {w : World} {K : PySem.W.Frag} {h : Heap} {mg : Str → Option Value} {fa : Addr} (X : K.In h) (G : h.Ns mainGlobals mg) (hfa : mg "law" = some (.ref fa))
    {C_NoChart f_NoChart : Addr} {fd_NoChart : FuncData} {d_NoChart : V}
    {C_NoStanding f_NoStanding : Addr} {fd_NoStanding : FuncData} {d_NoStanding : V}
    {C_NoHappening f_NoHappening : Addr} {fd_NoHappening : FuncData} {d_NoHappening : V}
    {C_NoName f_NoName : Addr} {fd_NoName : FuncData} {d_NoName : V}
    {C_NoMove f_NoMove : Addr} {fd_NoMove : FuncData} {d_NoMove : V}
    {C_NoSaying f_NoSaying : Addr} {fd_NoSaying : FuncData} {d_NoSaying : V}
    {C_TooGreat f_TooGreat : Addr} {fd_TooGreat : FuncData} {d_TooGreat : V}
    {C_Gone f_Gone : Addr} {fd_Gone : FuncData} {d_Gone : V}
    {C_Moved f_Moved : Addr} {fd_Moved : FuncData} {d_Moved : V}
    {C_NoTitle f_NoTitle : Addr} {fd_NoTitle : FuncData} {d_NoTitle : V}
    {C_Taken f_Taken : Addr} {fd_Taken : FuncData} {d_Taken : V}
    {C_NoRun f_NoRun : Addr} {fd_NoRun : FuncData} {d_NoRun : V}
    {C_Beyond f_Beyond : Addr} {fd_Beyond : FuncData} {d_Beyond : V} {e_Beyond : V}
    {C_NoText f_NoText : Addr} {fd_NoText : FuncData} {d_NoText : V} {e_NoText : V}
    {C_Apart f_Apart : Addr} {fd_Apart : FuncData} {d_Apart : V} {e_Apart : V}
    {C_NoLead f_NoLead : Addr} {fd_NoLead : FuncData} {d_NoLead : V} {e_NoLead : V}
    {C_StandError : Addr}
    {C_Endless : Addr}
    {C_NoBack : Addr}
    {C_Unlike : Addr}
    {C_NoNumber : Addr}
    {C_NoGoal : Addr}
    {C_NoLine : Addr}
    {a__law_at : Addr} {fd__law_at : FuncData}
    {a__law_mixed : Addr} {fd__law_mixed : FuncData}
    {a__law_purse : Addr} {fd__law_purse : FuncData}
    {a__law_draw : Addr} {fd__law_draw : FuncData}
    {a__law_bare : Addr} {fd__law_bare : FuncData}
    {a__law_places : Addr} {fd__law_places : FuncData}
    {a__law_named : Addr} {fd__law_named : FuncData}
    {a__law_beside : Addr} {fd__law_beside : FuncData}
    {a__law_left_out : Addr} {fd__law_left_out : FuncData}
    {a__law_classes : Addr} {fd__law_classes : FuncData}
    {a_law : Addr} {fd_law : FuncData}
    (m_StandError : PySem.W.nsIn K mainGlobals "StandError" = some (some (.ref C_StandError)))
    (m_NoChart : PySem.W.nsIn K mainGlobals "NoChart" = some (some (.ref C_NoChart)))
    (c_NoChart : ClsF K C_NoChart (.ref C_StandError :: veT))
    (i_NoChart : PySem.W.findIn K (.ref C_NoChart) "__init__" = some (some (.ref f_NoChart)))
    (t_NoChart : PySem.W.typeIn K (.ref f_NoChart) = some (.type "function"))
    (n0_NoChart : PySem.W.findIn K (.ref C_NoChart) "wrong" = some none)
    (F_NoChart : FunD K "__init__" "NoChart.__init__" (defArgs s_NoChart) (defBody s_NoChart) (defScope s_NoChart) [d_NoChart] [] f_NoChart fd_NoChart)
    (m_NoStanding : PySem.W.nsIn K mainGlobals "NoStanding" = some (some (.ref C_NoStanding)))
    (c_NoStanding : ClsF K C_NoStanding (.ref C_StandError :: veT))
    (i_NoStanding : PySem.W.findIn K (.ref C_NoStanding) "__init__" = some (some (.ref f_NoStanding)))
    (t_NoStanding : PySem.W.typeIn K (.ref f_NoStanding) = some (.type "function"))
    (n0_NoStanding : PySem.W.findIn K (.ref C_NoStanding) "wrong" = some none)
    (F_NoStanding : FunD K "__init__" "NoStanding.__init__" (defArgs s_NoStanding) (defBody s_NoStanding) (defScope s_NoStanding) [d_NoStanding] [] f_NoStanding fd_NoStanding)
    (m_NoHappening : PySem.W.nsIn K mainGlobals "NoHappening" = some (some (.ref C_NoHappening)))
    (c_NoHappening : ClsF K C_NoHappening (.ref C_StandError :: veT))
    (i_NoHappening : PySem.W.findIn K (.ref C_NoHappening) "__init__" = some (some (.ref f_NoHappening)))
    (t_NoHappening : PySem.W.typeIn K (.ref f_NoHappening) = some (.type "function"))
    (n0_NoHappening : PySem.W.findIn K (.ref C_NoHappening) "what" = some none)
    (F_NoHappening : FunD K "__init__" "NoHappening.__init__" (defArgs s_NoHappening) (defBody s_NoHappening) (defScope s_NoHappening) [d_NoHappening] [] f_NoHappening fd_NoHappening)
    (m_NoName : PySem.W.nsIn K mainGlobals "NoName" = some (some (.ref C_NoName)))
    (c_NoName : ClsF K C_NoName (.ref C_StandError :: veT))
    (i_NoName : PySem.W.findIn K (.ref C_NoName) "__init__" = some (some (.ref f_NoName)))
    (t_NoName : PySem.W.typeIn K (.ref f_NoName) = some (.type "function"))
    (n0_NoName : PySem.W.findIn K (.ref C_NoName) "name" = some none)
    (F_NoName : FunD K "__init__" "NoName.__init__" (defArgs s_NoName) (defBody s_NoName) (defScope s_NoName) [d_NoName] [] f_NoName fd_NoName)
    (m_NoMove : PySem.W.nsIn K mainGlobals "NoMove" = some (some (.ref C_NoMove)))
    (c_NoMove : ClsF K C_NoMove (.ref C_StandError :: veT))
    (i_NoMove : PySem.W.findIn K (.ref C_NoMove) "__init__" = some (some (.ref f_NoMove)))
    (t_NoMove : PySem.W.typeIn K (.ref f_NoMove) = some (.type "function"))
    (n0_NoMove : PySem.W.findIn K (.ref C_NoMove) "number" = some none)
    (F_NoMove : FunD K "__init__" "NoMove.__init__" (defArgs s_NoMove) (defBody s_NoMove) (defScope s_NoMove) [d_NoMove] [] f_NoMove fd_NoMove)
    (m_NoSaying : PySem.W.nsIn K mainGlobals "NoSaying" = some (some (.ref C_NoSaying)))
    (c_NoSaying : ClsF K C_NoSaying (.ref C_StandError :: veT))
    (i_NoSaying : PySem.W.findIn K (.ref C_NoSaying) "__init__" = some (some (.ref f_NoSaying)))
    (t_NoSaying : PySem.W.typeIn K (.ref f_NoSaying) = some (.type "function"))
    (n0_NoSaying : PySem.W.findIn K (.ref C_NoSaying) "wrong" = some none)
    (F_NoSaying : FunD K "__init__" "NoSaying.__init__" (defArgs s_NoSaying) (defBody s_NoSaying) (defScope s_NoSaying) [d_NoSaying] [] f_NoSaying fd_NoSaying)
    (m_TooGreat : PySem.W.nsIn K mainGlobals "TooGreat" = some (some (.ref C_TooGreat)))
    (c_TooGreat : ClsF K C_TooGreat (.ref C_StandError :: veT))
    (i_TooGreat : PySem.W.findIn K (.ref C_TooGreat) "__init__" = some (some (.ref f_TooGreat)))
    (t_TooGreat : PySem.W.typeIn K (.ref f_TooGreat) = some (.type "function"))
    (n0_TooGreat : PySem.W.findIn K (.ref C_TooGreat) "most" = some none)
    (F_TooGreat : FunD K "__init__" "TooGreat.__init__" (defArgs s_TooGreat) (defBody s_TooGreat) (defScope s_TooGreat) [d_TooGreat] [] f_TooGreat fd_TooGreat)
    (m_Gone : PySem.W.nsIn K mainGlobals "Gone" = some (some (.ref C_Gone)))
    (c_Gone : ClsF K C_Gone (.ref C_StandError :: veT))
    (i_Gone : PySem.W.findIn K (.ref C_Gone) "__init__" = some (some (.ref f_Gone)))
    (t_Gone : PySem.W.typeIn K (.ref f_Gone) = some (.type "function"))
    (n0_Gone : PySem.W.findIn K (.ref C_Gone) "name" = some none)
    (F_Gone : FunD K "__init__" "Gone.__init__" (defArgs s_Gone) (defBody s_Gone) (defScope s_Gone) [d_Gone] [] f_Gone fd_Gone)
    (m_Moved : PySem.W.nsIn K mainGlobals "Moved" = some (some (.ref C_Moved)))
    (c_Moved : ClsF K C_Moved (.ref C_StandError :: veT))
    (i_Moved : PySem.W.findIn K (.ref C_Moved) "__init__" = some (some (.ref f_Moved)))
    (t_Moved : PySem.W.typeIn K (.ref f_Moved) = some (.type "function"))
    (n0_Moved : PySem.W.findIn K (.ref C_Moved) "name" = some none)
    (F_Moved : FunD K "__init__" "Moved.__init__" (defArgs s_Moved) (defBody s_Moved) (defScope s_Moved) [d_Moved] [] f_Moved fd_Moved)
    (m_NoTitle : PySem.W.nsIn K mainGlobals "NoTitle" = some (some (.ref C_NoTitle)))
    (c_NoTitle : ClsF K C_NoTitle (.ref C_StandError :: veT))
    (i_NoTitle : PySem.W.findIn K (.ref C_NoTitle) "__init__" = some (some (.ref f_NoTitle)))
    (t_NoTitle : PySem.W.typeIn K (.ref f_NoTitle) = some (.type "function"))
    (n0_NoTitle : PySem.W.findIn K (.ref C_NoTitle) "title" = some none)
    (F_NoTitle : FunD K "__init__" "NoTitle.__init__" (defArgs s_NoTitle) (defBody s_NoTitle) (defScope s_NoTitle) [d_NoTitle] [] f_NoTitle fd_NoTitle)
    (m_Taken : PySem.W.nsIn K mainGlobals "Taken" = some (some (.ref C_Taken)))
    (c_Taken : ClsF K C_Taken (.ref C_StandError :: veT))
    (i_Taken : PySem.W.findIn K (.ref C_Taken) "__init__" = some (some (.ref f_Taken)))
    (t_Taken : PySem.W.typeIn K (.ref f_Taken) = some (.type "function"))
    (n0_Taken : PySem.W.findIn K (.ref C_Taken) "title" = some none)
    (F_Taken : FunD K "__init__" "Taken.__init__" (defArgs s_Taken) (defBody s_Taken) (defScope s_Taken) [d_Taken] [] f_Taken fd_Taken)
    (m_NoRun : PySem.W.nsIn K mainGlobals "NoRun" = some (some (.ref C_NoRun)))
    (c_NoRun : ClsF K C_NoRun (.ref C_StandError :: veT))
    (i_NoRun : PySem.W.findIn K (.ref C_NoRun) "__init__" = some (some (.ref f_NoRun)))
    (t_NoRun : PySem.W.typeIn K (.ref f_NoRun) = some (.type "function"))
    (n0_NoRun : PySem.W.findIn K (.ref C_NoRun) "title" = some none)
    (F_NoRun : FunD K "__init__" "NoRun.__init__" (defArgs s_NoRun) (defBody s_NoRun) (defScope s_NoRun) [d_NoRun] [] f_NoRun fd_NoRun)
    (m_Beyond : PySem.W.nsIn K mainGlobals "Beyond" = some (some (.ref C_Beyond)))
    (c_Beyond : ClsF K C_Beyond (.ref C_StandError :: veT))
    (i_Beyond : PySem.W.findIn K (.ref C_Beyond) "__init__" = some (some (.ref f_Beyond)))
    (t_Beyond : PySem.W.typeIn K (.ref f_Beyond) = some (.type "function"))
    (n0_Beyond : PySem.W.findIn K (.ref C_Beyond) "fact" = some none)
    (n1_Beyond : PySem.W.findIn K (.ref C_Beyond) "stand" = some none)
    (F_Beyond : FunD K "__init__" "Beyond.__init__" (defArgs s_Beyond) (defBody s_Beyond) (defScope s_Beyond) [d_Beyond, e_Beyond] [] f_Beyond fd_Beyond)
    (m_NoText : PySem.W.nsIn K mainGlobals "NoText" = some (some (.ref C_NoText)))
    (c_NoText : ClsF K C_NoText (.ref C_StandError :: veT))
    (i_NoText : PySem.W.findIn K (.ref C_NoText) "__init__" = some (some (.ref f_NoText)))
    (t_NoText : PySem.W.typeIn K (.ref f_NoText) = some (.type "function"))
    (n0_NoText : PySem.W.findIn K (.ref C_NoText) "row" = some none)
    (n1_NoText : PySem.W.findIn K (.ref C_NoText) "column" = some none)
    (F_NoText : FunD K "__init__" "NoText.__init__" (defArgs s_NoText) (defBody s_NoText) (defScope s_NoText) [d_NoText, e_NoText] [] f_NoText fd_NoText)
    (m_Apart : PySem.W.nsIn K mainGlobals "Apart" = some (some (.ref C_Apart)))
    (c_Apart : ClsF K C_Apart (.ref C_StandError :: veT))
    (i_Apart : PySem.W.findIn K (.ref C_Apart) "__init__" = some (some (.ref f_Apart)))
    (t_Apart : PySem.W.typeIn K (.ref f_Apart) = some (.type "function"))
    (n0_Apart : PySem.W.findIn K (.ref C_Apart) "one" = some none)
    (n1_Apart : PySem.W.findIn K (.ref C_Apart) "other" = some none)
    (F_Apart : FunD K "__init__" "Apart.__init__" (defArgs s_Apart) (defBody s_Apart) (defScope s_Apart) [d_Apart, e_Apart] [] f_Apart fd_Apart)
    (m_NoLead : PySem.W.nsIn K mainGlobals "NoLead" = some (some (.ref C_NoLead)))
    (c_NoLead : ClsF K C_NoLead (.ref C_StandError :: veT))
    (i_NoLead : PySem.W.findIn K (.ref C_NoLead) "__init__" = some (some (.ref f_NoLead)))
    (t_NoLead : PySem.W.typeIn K (.ref f_NoLead) = some (.type "function"))
    (n0_NoLead : PySem.W.findIn K (.ref C_NoLead) "title" = some none)
    (n1_NoLead : PySem.W.findIn K (.ref C_NoLead) "wrong" = some none)
    (F_NoLead : FunD K "__init__" "NoLead.__init__" (defArgs s_NoLead) (defBody s_NoLead) (defScope s_NoLead) [d_NoLead, e_NoLead] [] f_NoLead fd_NoLead)
    (c_StandError : ClsF K C_StandError veT)
    (x_StandError : PySem.W.excIn K C_StandError [.type "ValueError", .type "Exception", .type "BaseException", .type "object"] "ValueError.__new__" = true)
    (m_Endless : PySem.W.nsIn K mainGlobals "Endless" = some (some (.ref C_Endless)))
    (c_Endless : ClsF K C_Endless (.ref C_StandError :: veT))
    (x_Endless : PySem.W.excIn K C_Endless [.type "ValueError", .type "Exception", .type "BaseException", .type "object"] "ValueError.__new__" = true)
    (m_NoBack : PySem.W.nsIn K mainGlobals "NoBack" = some (some (.ref C_NoBack)))
    (c_NoBack : ClsF K C_NoBack (.ref C_StandError :: veT))
    (x_NoBack : PySem.W.excIn K C_NoBack [.type "ValueError", .type "Exception", .type "BaseException", .type "object"] "ValueError.__new__" = true)
    (m_Unlike : PySem.W.nsIn K mainGlobals "Unlike" = some (some (.ref C_Unlike)))
    (c_Unlike : ClsF K C_Unlike (.ref C_StandError :: veT))
    (x_Unlike : PySem.W.excIn K C_Unlike [.type "ValueError", .type "Exception", .type "BaseException", .type "object"] "ValueError.__new__" = true)
    (m_NoNumber : PySem.W.nsIn K mainGlobals "NoNumber" = some (some (.ref C_NoNumber)))
    (c_NoNumber : ClsF K C_NoNumber (.ref C_StandError :: veT))
    (x_NoNumber : PySem.W.excIn K C_NoNumber [.type "ValueError", .type "Exception", .type "BaseException", .type "object"] "ValueError.__new__" = true)
    (m_NoGoal : PySem.W.nsIn K mainGlobals "NoGoal" = some (some (.ref C_NoGoal)))
    (c_NoGoal : ClsF K C_NoGoal (.ref C_StandError :: veT))
    (x_NoGoal : PySem.W.excIn K C_NoGoal [.type "ValueError", .type "Exception", .type "BaseException", .type "object"] "ValueError.__new__" = true)
    (m_NoLine : PySem.W.nsIn K mainGlobals "NoLine" = some (some (.ref C_NoLine)))
    (c_NoLine : ClsF K C_NoLine (.ref C_StandError :: veT))
    (x_NoLine : PySem.W.excIn K C_NoLine [.type "ValueError", .type "Exception", .type "BaseException", .type "object"] "ValueError.__new__" = true)
    (m__law_at : PySem.W.nsIn K mainGlobals "_law_at" = some (some (.ref a__law_at)))
    (F__law_at : Fun K "_law_at" "_law_at" s__law_at a__law_at fd__law_at)
    (m__law_mixed : PySem.W.nsIn K mainGlobals "_law_mixed" = some (some (.ref a__law_mixed)))
    (F__law_mixed : Fun K "_law_mixed" "_law_mixed" s__law_mixed a__law_mixed fd__law_mixed)
    (m__law_purse : PySem.W.nsIn K mainGlobals "_law_purse" = some (some (.ref a__law_purse)))
    (F__law_purse : Fun K "_law_purse" "_law_purse" s__law_purse a__law_purse fd__law_purse)
    (m__law_draw : PySem.W.nsIn K mainGlobals "_law_draw" = some (some (.ref a__law_draw)))
    (F__law_draw : Fun K "_law_draw" "_law_draw" s__law_draw a__law_draw fd__law_draw)
    (m__law_bare : PySem.W.nsIn K mainGlobals "_law_bare" = some (some (.ref a__law_bare)))
    (F__law_bare : Fun K "_law_bare" "_law_bare" s__law_bare a__law_bare fd__law_bare)
    (m__law_places : PySem.W.nsIn K mainGlobals "_law_places" = some (some (.ref a__law_places)))
    (F__law_places : Fun K "_law_places" "_law_places" s__law_places a__law_places fd__law_places)
    (m__law_named : PySem.W.nsIn K mainGlobals "_law_named" = some (some (.ref a__law_named)))
    (F__law_named : Fun K "_law_named" "_law_named" s__law_named a__law_named fd__law_named)
    (m__law_beside : PySem.W.nsIn K mainGlobals "_law_beside" = some (some (.ref a__law_beside)))
    (F__law_beside : Fun K "_law_beside" "_law_beside" s__law_beside a__law_beside fd__law_beside)
    (m__law_left_out : PySem.W.nsIn K mainGlobals "_law_left_out" = some (some (.ref a__law_left_out)))
    (F__law_left_out : Fun K "_law_left_out" "_law_left_out" s__law_left_out a__law_left_out fd__law_left_out)
    (m__law_classes : PySem.W.nsIn K mainGlobals "_law_classes" = some (some (.ref a__law_classes)))
    (F__law_classes : Fun K "_law_classes" "_law_classes" s__law_classes a__law_classes fd__law_classes)
    (m_law : PySem.W.nsIn K mainGlobals "law" = some (some (.ref a_law)))
    (F_law : Fun K "law" "law" s_law a_law fd_law)
    (z_len : PySem.W.nsIn K mainGlobals "len" = some none)
    (z_max : PySem.W.nsIn K mainGlobals "max" = some none)
    (z_range : PySem.W.nsIn K mainGlobals "range" = some none)
    (z_str : PySem.W.nsIn K mainGlobals "str" = some none)
    (z_isinstance : PySem.W.nsIn K mainGlobals "isinstance" = some none)
    (z_enumerate : PySem.W.nsIn K mainGlobals "enumerate" = some none)
    (z_ValueError : PySem.W.nsIn K mainGlobals "ValueError" = some none)
    (cg : PySem.W.specialIn K (.builtin "object.__class__") "__get__" = some (some (.builtin "getset_descriptor.__get__")))
    (ct : PySem.W.takesIn K (.builtin "object.__class__") = some true)
    (nd : (C_StandError :: [C_Endless, C_NoBack, C_Unlike, C_NoNumber, C_NoGoal, C_NoLine, C_NoChart, C_NoStanding, C_NoHappening, C_Beyond, C_NoText, C_NoName, C_NoMove, C_NoSaying, C_TooGreat, C_Gone, C_Apart, C_Moved, C_NoTitle, C_Taken, C_NoRun, C_NoLead]).Nodup) :
    ∃ fd : FuncData, (∀ (s : Shared) (v : Value), BindsTo s fd ⟨[v], []⟩ [("_law_script", v)]) ∧ ∀ base : Heap, K.In base → base.Ns mainGlobals mg → FnOk l.prog w K mg base CX0 5 fa fd ["_law_script"] (sp_law K) := by
  have e := hfa.symm.trans (PySem.W.mg_of X G m_law)
  cases e
  have hcls : ∀ C ∈ ([C_Endless, C_NoBack, C_Unlike, C_NoNumber, C_NoGoal, C_NoLine, C_NoChart, C_NoStanding, C_NoHappening, C_Beyond, C_NoText, C_NoName, C_NoMove, C_NoSaying, C_TooGreat, C_Gone, C_Apart, C_Moved, C_NoTitle, C_Taken, C_NoRun, C_NoLead] : List Addr), ClsF K C (.ref C_StandError :: veT) := by
    intro C hC
    simp only [List.mem_cons, List.not_mem_nil, or_false] at hC
    rcases hC with rfl | rfl | rfl | rfl | rfl | rfl | rfl | rfl | rfl | rfl | rfl | rfl | rfl | rfl | rfl | rfl | rfl | rfl | rfl | rfl | rfl | rfl
    · exact c_Endless
    · exact c_NoBack
    · exact c_Unlike
    · exact c_NoNumber
    · exact c_NoGoal
    · exact c_NoLine
    · exact c_NoChart
    · exact c_NoStanding
    · exact c_NoHappening
    · exact c_Beyond
    · exact c_NoText
    · exact c_NoName
    · exact c_NoMove
    · exact c_NoSaying
    · exact c_TooGreat
    · exact c_Gone
    · exact c_Apart
    · exact c_Moved
    · exact c_NoTitle
    · exact c_Taken
    · exact c_NoRun
    · exact c_NoLead
  let A : Ads := { NoChart := ⟨C_NoChart, f_NoChart, fd_NoChart, d_NoChart, .non⟩, NoStanding := ⟨C_NoStanding, f_NoStanding, fd_NoStanding, d_NoStanding, .non⟩, NoHappening := ⟨C_NoHappening, f_NoHappening, fd_NoHappening, d_NoHappening, .non⟩, NoName := ⟨C_NoName, f_NoName, fd_NoName, d_NoName, .non⟩, NoMove := ⟨C_NoMove, f_NoMove, fd_NoMove, d_NoMove, .non⟩, NoSaying := ⟨C_NoSaying, f_NoSaying, fd_NoSaying, d_NoSaying, .non⟩, TooGreat := ⟨C_TooGreat, f_TooGreat, fd_TooGreat, d_TooGreat, .non⟩, Gone := ⟨C_Gone, f_Gone, fd_Gone, d_Gone, .non⟩, Moved := ⟨C_Moved, f_Moved, fd_Moved, d_Moved, .non⟩, NoTitle := ⟨C_NoTitle, f_NoTitle, fd_NoTitle, d_NoTitle, .non⟩, Taken := ⟨C_Taken, f_Taken, fd_Taken, d_Taken, .non⟩, NoRun := ⟨C_NoRun, f_NoRun, fd_NoRun, d_NoRun, .non⟩, Beyond := ⟨C_Beyond, f_Beyond, fd_Beyond, d_Beyond, e_Beyond⟩, NoText := ⟨C_NoText, f_NoText, fd_NoText, d_NoText, e_NoText⟩, Apart := ⟨C_Apart, f_Apart, fd_Apart, d_Apart, e_Apart⟩, NoLead := ⟨C_NoLead, f_NoLead, fd_NoLead, d_NoLead, e_NoLead⟩, StandError := C_StandError, Endless := C_Endless, NoBack := C_NoBack, Unlike := C_Unlike, NoNumber := C_NoNumber, NoGoal := C_NoGoal, NoLine := C_NoLine, a__law_at := a__law_at, fd__law_at := fd__law_at, a__law_mixed := a__law_mixed, fd__law_mixed := fd__law_mixed, a__law_purse := a__law_purse, fd__law_purse := fd__law_purse, a__law_draw := a__law_draw, fd__law_draw := fd__law_draw, a__law_bare := a__law_bare, fd__law_bare := fd__law_bare, a__law_places := a__law_places, fd__law_places := fd__law_places, a__law_named := a__law_named, fd__law_named := fd__law_named, a__law_beside := a__law_beside, fd__law_beside := fd__law_beside, a__law_left_out := a__law_left_out, fd__law_left_out := fd__law_left_out, a__law_classes := a__law_classes, fd__law_classes := fd__law_classes, a_law := fa, fd_law := fd_law }
  have T : Txt K mg A := by
    constructor
    case g__law_at => exact PySem.W.mg_of X G m__law_at
    case F__law_at => exact F__law_at
    case b__law_at => exact F__law_at.binds (ps := ["_law_script", "_law_k"]) fun _ _ _ _ _ _ us hl => match us, hl with | [_, _], _ => rfl
    case g__law_mixed => exact PySem.W.mg_of X G m__law_mixed
    case F__law_mixed => exact F__law_mixed
    case b__law_mixed => exact F__law_mixed.binds (ps := ["_law_cell", "_law_k"]) fun _ _ _ _ _ _ us hl => match us, hl with | [_, _], _ => rfl
    case g__law_purse => exact PySem.W.mg_of X G m__law_purse
    case F__law_purse => exact F__law_purse
    case b__law_purse => exact F__law_purse.binds (ps := ["_law_script", "_law_at_here"]) fun _ _ _ _ _ _ us hl => match us, hl with | [_, _], _ => rfl
    case g__law_draw => exact PySem.W.mg_of X G m__law_draw
    case F__law_draw => exact F__law_draw
    case b__law_draw => exact F__law_draw.binds (ps := ["_law_purse_here", "_law_out_of"]) fun _ _ _ _ _ _ us hl => match us, hl with | [_, _], _ => rfl
    case g__law_bare => exact PySem.W.mg_of X G m__law_bare
    case F__law_bare => exact F__law_bare
    case b__law_bare => exact F__law_bare.binds (ps := []) fun _ _ _ _ _ _ us hl => match us, hl with | [], _ => rfl
    case g__law_places => exact PySem.W.mg_of X G m__law_places
    case F__law_places => exact F__law_places
    case b__law_places => exact F__law_places.binds (ps := ["_law_a", "_law_b"]) fun _ _ _ _ _ _ us hl => match us, hl with | [_, _], _ => rfl
    case g__law_named => exact PySem.W.mg_of X G m__law_named
    case F__law_named => exact F__law_named
    case b__law_named => exact F__law_named.binds (ps := ["_law_a", "_law_b"]) fun _ _ _ _ _ _ us hl => match us, hl with | [_, _], _ => rfl
    case g__law_beside => exact PySem.W.mg_of X G m__law_beside
    case F__law_beside => exact F__law_beside
    case b__law_beside => exact F__law_beside.binds (ps := ["_law_a", "_law_b"]) fun _ _ _ _ _ _ us hl => match us, hl with | [_, _], _ => rfl
    case g__law_left_out => exact PySem.W.mg_of X G m__law_left_out
    case F__law_left_out => exact F__law_left_out
    case b__law_left_out => exact F__law_left_out.binds (ps := []) fun _ _ _ _ _ _ us hl => match us, hl with | [], _ => rfl
    case g__law_classes => exact PySem.W.mg_of X G m__law_classes
    case F__law_classes => exact F__law_classes
    case b__law_classes => exact F__law_classes.binds (ps := []) fun _ _ _ _ _ _ us hl => match us, hl with | [], _ => rfl
    case F_law => exact F_law
    case b_law => exact F_law.binds (ps := ["_law_script"]) fun _ _ _ _ _ _ us hl => match us, hl with | [_], _ => rfl
    case n_len => exact PySem.W.mg_none_of X G z_len
    case n_max => exact PySem.W.mg_none_of X G z_max
    case n_range => exact PySem.W.mg_none_of X G z_range
    case n_str => exact PySem.W.mg_none_of X G z_str
    case n_isinstance => exact PySem.W.mg_none_of X G z_isinstance
    case n_enumerate => exact PySem.W.mg_none_of X G z_enumerate
    case n_ValueError => exact PySem.W.mg_none_of X G z_ValueError
    case g_StandError => exact PySem.W.mg_of X G m_StandError
    case x_StandError => exact x_StandError
    case k_StandError => exact c_StandError.kC
    case xk_StandError => exact c_StandError.xk cg ct
    case g_Endless => exact PySem.W.mg_of X G m_Endless
    case x_Endless => exact x_Endless
    case k_Endless => exact c_Endless.kC
    case xk_Endless => exact c_Endless.xk cg ct
    case g_NoBack => exact PySem.W.mg_of X G m_NoBack
    case x_NoBack => exact x_NoBack
    case k_NoBack => exact c_NoBack.kC
    case xk_NoBack => exact c_NoBack.xk cg ct
    case g_Unlike => exact PySem.W.mg_of X G m_Unlike
    case x_Unlike => exact x_Unlike
    case k_Unlike => exact c_Unlike.kC
    case xk_Unlike => exact c_Unlike.xk cg ct
    case g_NoNumber => exact PySem.W.mg_of X G m_NoNumber
    case x_NoNumber => exact x_NoNumber
    case k_NoNumber => exact c_NoNumber.kC
    case xk_NoNumber => exact c_NoNumber.xk cg ct
    case g_NoGoal => exact PySem.W.mg_of X G m_NoGoal
    case x_NoGoal => exact x_NoGoal
    case k_NoGoal => exact c_NoGoal.kC
    case xk_NoGoal => exact c_NoGoal.xk cg ct
    case g_NoLine => exact PySem.W.mg_of X G m_NoLine
    case x_NoLine => exact x_NoLine
    case k_NoLine => exact c_NoLine.kC
    case xk_NoLine => exact c_NoLine.xk cg ct
    case g_NoChart => exact PySem.W.mg_of X G m_NoChart
    case g_NoStanding => exact PySem.W.mg_of X G m_NoStanding
    case g_NoHappening => exact PySem.W.mg_of X G m_NoHappening
    case g_NoName => exact PySem.W.mg_of X G m_NoName
    case g_NoMove => exact PySem.W.mg_of X G m_NoMove
    case g_NoSaying => exact PySem.W.mg_of X G m_NoSaying
    case g_TooGreat => exact PySem.W.mg_of X G m_TooGreat
    case g_Gone => exact PySem.W.mg_of X G m_Gone
    case g_Moved => exact PySem.W.mg_of X G m_Moved
    case g_NoTitle => exact PySem.W.mg_of X G m_NoTitle
    case g_Taken => exact PySem.W.mg_of X G m_Taken
    case g_NoRun => exact PySem.W.mg_of X G m_NoRun
    case g_Beyond => exact PySem.W.mg_of X G m_Beyond
    case g_NoText => exact PySem.W.mg_of X G m_NoText
    case g_Apart => exact PySem.W.mg_of X G m_Apart
    case g_NoLead => exact PySem.W.mg_of X G m_NoLead
    case kit => exact kit_all hcls nd
    case kitS => exact fun C hC => by rw [(hcls C hC).kit c_StandError]; simp [List.contains_cons]
    case kitV => exact fun C hC => (List.mem_cons.mp hC).elim (fun e => e ▸ c_StandError.kitV) (fun hC => (hcls C hC).kitV)
    case xks => exact fun C hC => (hcls C hC).xk cg ct
  have I : ∀ base : Heap, Ins l.prog w K mg base A := by
    intro base
    constructor
    case NoChart => exact in_NoChart (c_NoChart.xc (PySem.W.mg_of X G m_NoChart) i_NoChart t_NoChart) (c_NoChart.xk cg ct) n0_NoChart F_NoChart
    case NoStanding => exact in_NoStanding (c_NoStanding.xc (PySem.W.mg_of X G m_NoStanding) i_NoStanding t_NoStanding) (c_NoStanding.xk cg ct) n0_NoStanding F_NoStanding
    case NoHappening => exact in_NoHappening (c_NoHappening.xc (PySem.W.mg_of X G m_NoHappening) i_NoHappening t_NoHappening) (c_NoHappening.xk cg ct) n0_NoHappening F_NoHappening
    case NoName => exact in_NoName (c_NoName.xc (PySem.W.mg_of X G m_NoName) i_NoName t_NoName) (c_NoName.xk cg ct) n0_NoName F_NoName
    case NoMove => exact in_NoMove (c_NoMove.xc (PySem.W.mg_of X G m_NoMove) i_NoMove t_NoMove) (c_NoMove.xk cg ct) n0_NoMove F_NoMove
    case NoSaying => exact in_NoSaying (c_NoSaying.xc (PySem.W.mg_of X G m_NoSaying) i_NoSaying t_NoSaying) (c_NoSaying.xk cg ct) n0_NoSaying F_NoSaying
    case TooGreat => exact in_TooGreat (c_TooGreat.xc (PySem.W.mg_of X G m_TooGreat) i_TooGreat t_TooGreat) (c_TooGreat.xk cg ct) n0_TooGreat F_TooGreat
    case Gone => exact in_Gone (c_Gone.xc (PySem.W.mg_of X G m_Gone) i_Gone t_Gone) (c_Gone.xk cg ct) n0_Gone F_Gone
    case Moved => exact in_Moved (c_Moved.xc (PySem.W.mg_of X G m_Moved) i_Moved t_Moved) (c_Moved.xk cg ct) n0_Moved F_Moved
    case NoTitle => exact in_NoTitle (c_NoTitle.xc (PySem.W.mg_of X G m_NoTitle) i_NoTitle t_NoTitle) (c_NoTitle.xk cg ct) n0_NoTitle F_NoTitle
    case Taken => exact in_Taken (c_Taken.xc (PySem.W.mg_of X G m_Taken) i_Taken t_Taken) (c_Taken.xk cg ct) n0_Taken F_Taken
    case NoRun => exact in_NoRun (c_NoRun.xc (PySem.W.mg_of X G m_NoRun) i_NoRun t_NoRun) (c_NoRun.xk cg ct) n0_NoRun F_NoRun
    case Beyond => exact in_Beyond (c_Beyond.xc (PySem.W.mg_of X G m_Beyond) i_Beyond t_Beyond) (c_Beyond.xk cg ct) n0_Beyond n1_Beyond F_Beyond
    case NoText => exact in_NoText (c_NoText.xc (PySem.W.mg_of X G m_NoText) i_NoText t_NoText) (c_NoText.xk cg ct) n0_NoText n1_NoText F_NoText
    case Apart => exact in_Apart (c_Apart.xc (PySem.W.mg_of X G m_Apart) i_Apart t_Apart) (c_Apart.xk cg ct) n0_Apart n1_Apart F_Apart
    case NoLead => exact in_NoLead (c_NoLead.xc (PySem.W.mg_of X G m_NoLead) i_NoLead t_NoLead) (c_NoLead.xk cg ct) n0_NoLead n1_NoLead F_NoLead
  refine ⟨fd_law, fun s v => ?_, fun base _ _ => ok_law T (I base)⟩
  obtain ⟨oc, od, kV, doc, pm, an, cdv, ct', osl, rfl, lk, hcd⟩ := F_law.ex
  exact .of_eq rfl
theorem walk {l : PySem.W.OpenLaw} {q : Program} {loose : List Str} {XP : (Str → Option Value) → Heap → Prop} {YP : World → Heap → Prop} {d : DefRec} {K : Params → PySem.W.Frag} (hn : l.most = some 63) (hdf : d.params.defaults = [])
    (hY : ∀ (w : World) (h : Heap), YP w h → (K w.params).In h)
    (F : ∀ (w : World) (mg : Str → Option Value) (fa : Addr) (h : Heap), (K w.params).In h → h.Ns mainGlobals mg → mg d.name = some (.ref fa) →
      ∃ fd : FuncData, (∀ (s : Shared) (u : Value), BindsTo s fd ⟨[u], []⟩ [("_law_script", u)]) ∧ ∀ base : Heap, (K w.params).In base → base.Ns mainGlobals mg → FnOk l.prog w (K w.params) mg base CX0 5 fa fd ["_law_script"] (sp_law (K w.params))) :
    PySem.W.WalkO q loose XP YP l.row.toRowW d [] (fun f vs => PySem.call f vs) :=
  L2.walk_of (n := 63) (k := 5) (x := "_law_script") (CX := fun _ => CX0) (sp := fun w => sp_law (K w.params)) hn (by decide) hdf ⟨rfl, by decide, by decide⟩ hY F (fun _ _ a ns hl _ hS => ⟨a, ns, rfl, hS, hl, fun _ => rfl⟩) fun _ _ _ _ _ z => z
end K30
set_option Elab.async false
set_option maxRecDepth 100000
open PySem PySem.W PyProof.Rows
set_option maxRecDepth 100000 in
set_option maxHeartbeats 0 in
theorem PySem.Challenge.cw_deepstands_k30_refusals_by_hand_holds : PySem.Challenge.rw_deepstands_k30_refusals_by_hand.Holds := by
  w_on; o_law; k_head; (case hw => w_witness2)
  k_fill
  refine K30.walk (l := PySem.Challenge.rw_deepstands_k30_refusals_by_hand) rfl rfl (fun w h Y => PySem.W.kIn_of Y) ?F
  case F =>
    intro w mg fa h KX G hmg
    refine' K30.all_mk KX G hmg ?m_StandError ?m_NoChart ?c_NoChart ?i_NoChart ?t_NoChart ?n0_NoChart ?F_NoChart ?m_NoStanding ?c_NoStanding ?i_NoStanding ?t_NoStanding ?n0_NoStanding ?F_NoStanding ?m_NoHappening ?c_NoHappening ?i_NoHappening ?t_NoHappening ?n0_NoHappening ?F_NoHappening ?m_NoName ?c_NoName ?i_NoName ?t_NoName ?n0_NoName ?F_NoName ?m_NoMove ?c_NoMove ?i_NoMove ?t_NoMove ?n0_NoMove ?F_NoMove ?m_NoSaying ?c_NoSaying ?i_NoSaying ?t_NoSaying ?n0_NoSaying ?F_NoSaying ?m_TooGreat ?c_TooGreat ?i_TooGreat ?t_TooGreat ?n0_TooGreat ?F_TooGreat ?m_Gone ?c_Gone ?i_Gone ?t_Gone ?n0_Gone ?F_Gone ?m_Moved ?c_Moved ?i_Moved ?t_Moved ?n0_Moved ?F_Moved ?m_NoTitle ?c_NoTitle ?i_NoTitle ?t_NoTitle ?n0_NoTitle ?F_NoTitle ?m_Taken ?c_Taken ?i_Taken ?t_Taken ?n0_Taken ?F_Taken ?m_NoRun ?c_NoRun ?i_NoRun ?t_NoRun ?n0_NoRun ?F_NoRun ?m_Beyond ?c_Beyond ?i_Beyond ?t_Beyond ?n0_Beyond ?n1_Beyond ?F_Beyond ?m_NoText ?c_NoText ?i_NoText ?t_NoText ?n0_NoText ?n1_NoText ?F_NoText ?m_Apart ?c_Apart ?i_Apart ?t_Apart ?n0_Apart ?n1_Apart ?F_Apart ?m_NoLead ?c_NoLead ?i_NoLead ?t_NoLead ?n0_NoLead ?n1_NoLead ?F_NoLead ?c_StandError ?x_StandError ?m_Endless ?c_Endless ?x_Endless ?m_NoBack ?c_NoBack ?x_NoBack ?m_Unlike ?c_Unlike ?x_Unlike ?m_NoNumber ?c_NoNumber ?x_NoNumber ?m_NoGoal ?c_NoGoal ?x_NoGoal ?m_NoLine ?c_NoLine ?x_NoLine ?m__law_at ?F__law_at ?m__law_mixed ?F__law_mixed ?m__law_purse ?F__law_purse ?m__law_draw ?F__law_draw ?m__law_bare ?F__law_bare ?m__law_places ?F__law_places ?m__law_named ?F__law_named ?m__law_beside ?F__law_beside ?m__law_left_out ?F__law_left_out ?m__law_classes ?F__law_classes ?m_law ?F_law ?z_len ?z_max ?z_range ?z_str ?z_isinstance ?z_enumerate ?z_ValueError ?cg ?ct ?nd
    (case m_StandError => k_is)
    (case m_NoChart => k_is)
    (case c_NoChart => exact K30.cls_mk (by k_is) (by decide +kernel) (by k_is) (by k_is) (by k_is) (by k_is) (by k_is) (by k_is) (by k_is))
    (case i_NoChart => k_is)
    (case t_NoChart => k_is)
    (case n0_NoChart => k_is)
    (case F_NoChart => exact K30.fund_mk (st := K30.s_NoChart) (by k_is) (by k_is) (by k_is) (by k_is) (by simp) (.cons K30.rel_ref .nil))
    (case m_NoStanding => k_is)
    (case c_NoStanding => exact K30.cls_mk (by k_is) (by decide +kernel) (by k_is) (by k_is) (by k_is) (by k_is) (by k_is) (by k_is) (by k_is))
    (case i_NoStanding => k_is)
    (case t_NoStanding => k_is)
    (case n0_NoStanding => k_is)
    (case F_NoStanding => exact K30.fund_mk (st := K30.s_NoStanding) (by k_is) (by k_is) (by k_is) (by k_is) (by simp) (.cons K30.rel_ref .nil))
    (case m_NoHappening => k_is)
    (case c_NoHappening => exact K30.cls_mk (by k_is) (by decide +kernel) (by k_is) (by k_is) (by k_is) (by k_is) (by k_is) (by k_is) (by k_is))
    (case i_NoHappening => k_is)
    (case t_NoHappening => k_is)
    (case n0_NoHappening => k_is)
    (case F_NoHappening => exact K30.fund_mk (st := K30.s_NoHappening) (by k_is) (by k_is) (by k_is) (by k_is) (by simp) (.cons K30.rel_str .nil))
    (case m_NoName => k_is)
    (case c_NoName => exact K30.cls_mk (by k_is) (by decide +kernel) (by k_is) (by k_is) (by k_is) (by k_is) (by k_is) (by k_is) (by k_is))
    (case i_NoName => k_is)
    (case t_NoName => k_is)
    (case n0_NoName => k_is)
    (case F_NoName => exact K30.fund_mk (st := K30.s_NoName) (by k_is) (by k_is) (by k_is) (by k_is) (by simp) (.cons K30.rel_str .nil))
    (case m_NoMove => k_is)
    (case c_NoMove => exact K30.cls_mk (by k_is) (by decide +kernel) (by k_is) (by k_is) (by k_is) (by k_is) (by k_is) (by k_is) (by k_is))
    (case i_NoMove => k_is)
    (case t_NoMove => k_is)
    (case n0_NoMove => k_is)
    (case F_NoMove => exact K30.fund_mk (st := K30.s_NoMove) (by k_is) (by k_is) (by k_is) (by k_is) (by simp) (.cons K30.rel_int .nil))
    (case m_NoSaying => k_is)
    (case c_NoSaying => exact K30.cls_mk (by k_is) (by decide +kernel) (by k_is) (by k_is) (by k_is) (by k_is) (by k_is) (by k_is) (by k_is))
    (case i_NoSaying => k_is)
    (case t_NoSaying => k_is)
    (case n0_NoSaying => k_is)
    (case F_NoSaying => exact K30.fund_mk (st := K30.s_NoSaying) (by k_is) (by k_is) (by k_is) (by k_is) (by simp) (.cons K30.rel_ref .nil))
    (case m_TooGreat => k_is)
    (case c_TooGreat => exact K30.cls_mk (by k_is) (by decide +kernel) (by k_is) (by k_is) (by k_is) (by k_is) (by k_is) (by k_is) (by k_is))
    (case i_TooGreat => k_is)
    (case t_TooGreat => k_is)
    (case n0_TooGreat => k_is)
    (case F_TooGreat => exact K30.fund_mk (st := K30.s_TooGreat) (by k_is) (by k_is) (by k_is) (by k_is) (by simp) (.cons K30.rel_int .nil))
    (case m_Gone => k_is)
    (case c_Gone => exact K30.cls_mk (by k_is) (by decide +kernel) (by k_is) (by k_is) (by k_is) (by k_is) (by k_is) (by k_is) (by k_is))
    (case i_Gone => k_is)
    (case t_Gone => k_is)
    (case n0_Gone => k_is)
    (case F_Gone => exact K30.fund_mk (st := K30.s_Gone) (by k_is) (by k_is) (by k_is) (by k_is) (by simp) (.cons K30.rel_str .nil))
    (case m_Moved => k_is)
    (case c_Moved => exact K30.cls_mk (by k_is) (by decide +kernel) (by k_is) (by k_is) (by k_is) (by k_is) (by k_is) (by k_is) (by k_is))
    (case i_Moved => k_is)
    (case t_Moved => k_is)
    (case n0_Moved => k_is)
    (case F_Moved => exact K30.fund_mk (st := K30.s_Moved) (by k_is) (by k_is) (by k_is) (by k_is) (by simp) (.cons K30.rel_str .nil))
    (case m_NoTitle => k_is)
    (case c_NoTitle => exact K30.cls_mk (by k_is) (by decide +kernel) (by k_is) (by k_is) (by k_is) (by k_is) (by k_is) (by k_is) (by k_is))
    (case i_NoTitle => k_is)
    (case t_NoTitle => k_is)
    (case n0_NoTitle => k_is)
    (case F_NoTitle => exact K30.fund_mk (st := K30.s_NoTitle) (by k_is) (by k_is) (by k_is) (by k_is) (by simp) (.cons K30.rel_str .nil))
    (case m_Taken => k_is)
    (case c_Taken => exact K30.cls_mk (by k_is) (by decide +kernel) (by k_is) (by k_is) (by k_is) (by k_is) (by k_is) (by k_is) (by k_is))
    (case i_Taken => k_is)
    (case t_Taken => k_is)
    (case n0_Taken => k_is)
    (case F_Taken => exact K30.fund_mk (st := K30.s_Taken) (by k_is) (by k_is) (by k_is) (by k_is) (by simp) (.cons K30.rel_str .nil))
    (case m_NoRun => k_is)
    (case c_NoRun => exact K30.cls_mk (by k_is) (by decide +kernel) (by k_is) (by k_is) (by k_is) (by k_is) (by k_is) (by k_is) (by k_is))
    (case i_NoRun => k_is)
    (case t_NoRun => k_is)
    (case n0_NoRun => k_is)
    (case F_NoRun => exact K30.fund_mk (st := K30.s_NoRun) (by k_is) (by k_is) (by k_is) (by k_is) (by simp) (.cons K30.rel_str .nil))
    (case m_Beyond => k_is)
    (case c_Beyond => exact K30.cls_mk (by k_is) (by decide +kernel) (by k_is) (by k_is) (by k_is) (by k_is) (by k_is) (by k_is) (by k_is))
    (case i_Beyond => k_is)
    (case t_Beyond => k_is)
    (case n0_Beyond => k_is)
    (case n1_Beyond => k_is)
    (case F_Beyond => exact K30.fund_mk (st := K30.s_Beyond) (by k_is) (by k_is) (by k_is) (by k_is) (by simp) (.cons K30.rel_str (.cons K30.rel_non .nil)))
    (case m_NoText => k_is)
    (case c_NoText => exact K30.cls_mk (by k_is) (by decide +kernel) (by k_is) (by k_is) (by k_is) (by k_is) (by k_is) (by k_is) (by k_is))
    (case i_NoText => k_is)
    (case t_NoText => k_is)
    (case n0_NoText => k_is)
    (case n1_NoText => k_is)
    (case F_NoText => exact K30.fund_mk (st := K30.s_NoText) (by k_is) (by k_is) (by k_is) (by k_is) (by simp) (.cons K30.rel_int (.cons K30.rel_int .nil)))
    (case m_Apart => k_is)
    (case c_Apart => exact K30.cls_mk (by k_is) (by decide +kernel) (by k_is) (by k_is) (by k_is) (by k_is) (by k_is) (by k_is) (by k_is))
    (case i_Apart => k_is)
    (case t_Apart => k_is)
    (case n0_Apart => k_is)
    (case n1_Apart => k_is)
    (case F_Apart => exact K30.fund_mk (st := K30.s_Apart) (by k_is) (by k_is) (by k_is) (by k_is) (by simp) (.cons K30.rel_str (.cons K30.rel_str .nil)))
    (case m_NoLead => k_is)
    (case c_NoLead => exact K30.cls_mk (by k_is) (by decide +kernel) (by k_is) (by k_is) (by k_is) (by k_is) (by k_is) (by k_is) (by k_is))
    (case i_NoLead => k_is)
    (case t_NoLead => k_is)
    (case n0_NoLead => k_is)
    (case n1_NoLead => k_is)
    (case F_NoLead => exact K30.fund_mk (st := K30.s_NoLead) (by k_is) (by k_is) (by k_is) (by k_is) (by simp) (.cons K30.rel_str (.cons K30.rel_ref .nil)))
    (case c_StandError => exact K30.cls_mk (by k_is) (by decide +kernel) (by k_is) (by k_is) (by k_is) (by k_is) (by k_is) (by k_is) (by k_is))
    (case x_StandError => k_exc)
    (case m_Endless => k_is)
    (case c_Endless => exact K30.cls_mk (by k_is) (by decide +kernel) (by k_is) (by k_is) (by k_is) (by k_is) (by k_is) (by k_is) (by k_is))
    (case x_Endless => k_exc)
    (case m_NoBack => k_is)
    (case c_NoBack => exact K30.cls_mk (by k_is) (by decide +kernel) (by k_is) (by k_is) (by k_is) (by k_is) (by k_is) (by k_is) (by k_is))
    (case x_NoBack => k_exc)
    (case m_Unlike => k_is)
    (case c_Unlike => exact K30.cls_mk (by k_is) (by decide +kernel) (by k_is) (by k_is) (by k_is) (by k_is) (by k_is) (by k_is) (by k_is))
    (case x_Unlike => k_exc)
    (case m_NoNumber => k_is)
    (case c_NoNumber => exact K30.cls_mk (by k_is) (by decide +kernel) (by k_is) (by k_is) (by k_is) (by k_is) (by k_is) (by k_is) (by k_is))
    (case x_NoNumber => k_exc)
    (case m_NoGoal => k_is)
    (case c_NoGoal => exact K30.cls_mk (by k_is) (by decide +kernel) (by k_is) (by k_is) (by k_is) (by k_is) (by k_is) (by k_is) (by k_is))
    (case x_NoGoal => k_exc)
    (case m_NoLine => k_is)
    (case c_NoLine => exact K30.cls_mk (by k_is) (by decide +kernel) (by k_is) (by k_is) (by k_is) (by k_is) (by k_is) (by k_is) (by k_is))
    (case x_NoLine => k_exc)
    (case m__law_at => k_is)
    (case F__law_at => exact L2.fun_mk (st := K30.s__law_at) (by k_is) (by k_is) (by k_is))
    (case m__law_mixed => k_is)
    (case F__law_mixed => exact L2.fun_mk (st := K30.s__law_mixed) (by k_is) (by k_is) (by k_is))
    (case m__law_purse => k_is)
    (case F__law_purse => exact L2.fun_mk (st := K30.s__law_purse) (by k_is) (by k_is) (by k_is))
    (case m__law_draw => k_is)
    (case F__law_draw => exact L2.fun_mk (st := K30.s__law_draw) (by k_is) (by k_is) (by k_is))
    (case m__law_bare => k_is)
    (case F__law_bare => exact L2.fun_mk (st := K30.s__law_bare) (by k_is) (by k_is) (by k_is))
    (case m__law_places => k_is)
    (case F__law_places => exact L2.fun_mk (st := K30.s__law_places) (by k_is) (by k_is) (by k_is))
    (case m__law_named => k_is)
    (case F__law_named => exact L2.fun_mk (st := K30.s__law_named) (by k_is) (by k_is) (by k_is))
    (case m__law_beside => k_is)
    (case F__law_beside => exact L2.fun_mk (st := K30.s__law_beside) (by k_is) (by k_is) (by k_is))
    (case m__law_left_out => k_is)
    (case F__law_left_out => exact L2.fun_mk (st := K30.s__law_left_out) (by k_is) (by k_is) (by k_is))
    (case m__law_classes => k_is)
    (case F__law_classes => exact L2.fun_mk (st := K30.s__law_classes) (by k_is) (by k_is) (by k_is))
    (case m_law => k_is)
    (case F_law => exact L2.fun_mk (st := K30.s_law) (by k_is) (by k_is) (by k_is))
    (case z_len => k_is)
    (case z_max => k_is)
    (case z_range => k_is)
    (case z_str => k_is)
    (case z_isinstance => k_is)
    (case z_enumerate => k_is)
    (case z_ValueError => k_is)
    (case cg => k_is)
    (case ct => k_is)
    (case nd => decide)
