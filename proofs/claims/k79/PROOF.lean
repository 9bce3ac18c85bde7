import PyProof.Rows.All
import Wide.All
import OpenK.AllK
import Wide.FinOn
import PyProof.EqAt
import PyProof.EqKinds
import PyProof.TupleCall
import HandS.ForMost
import HandS.Exc
import HandS.ExcInit
import HandS.ExcIs
import HandS.ExcField
import HandS.MakeKw
import HandS.MakeKwOnly
import HandS.IsInst
import HandS.ExcOwn
import HandS.ExcValue
import HandS.ExcCtx
import HandS.HotCalls
import KE.KStateDown
import HandS.Head0
import HandS.Head1
import HandS.Head2
import PySem.Challenge.RW_prefbench_k79_errors_as_classes
import HandS.HeadEnd
import HandS.Defaults
import HandS.WordsExc
import HandS.Style
import HandS.Evl
import HandS.Walk
import HandS.HeadHook1
import HandS.HeadHook2
import HandS.TupAny
set_option Elab.async false
set_option linter.all false
set_option maxRecDepth 100000
set_option maxHeartbeats 4000000
/-! Exceptions of own classes as values: made with keywords, their attributes read, isinstance. -/
namespace PySem
namespace XcM
open PySem.W PySem.Calls PyProof.Rows PySem.HandSPX
section
variable {M : Model} {prog : Program} {w : World} {A : Around} {E : Value → Shared → Prop} {R : Result → Shared → Prop} {h : Heap} {g : Array GenState} {d : Drawn} {t : Nat} {os : OsState}
variable {nm q : Str} {C N : Addr} {bs bm bmB : List Value} {hdct : Bool} {sn : List Str} {sub : List Value} {ab : Bool} {col : Option Bool} {dd : Option Addr} {k0 k1 k2 k3 k5 : Option Value} {B newId initId : String}

/-- the look at the maker's arguments, whatever keywords stand -/
theorem look_newK (F : ExcBaseFacts B newId initId bmB) (hT : ∀ Y : String, bm.contains (.type Y) = bmB.contains (.type Y)) {us : List Value} {kw : List (Str × Value)} {Q : Unit → Shared → Prop}
    (hC : h.get? C = some (excClassObj nm q C N bs bm hdct sn sub ab col dd k0 k1 k2 k3 k5 newId)) (hq : Q () ⟨h, g, d, t, os⟩) : wpAny M A (checkBuiltinCall newId ⟨.ref C :: us, kw⟩) Q E ⟨h, g, d, t, os⟩ := by
  have inB : (Value.ref C :: bm).contains (.type B) = true := by rw [List.contains_cons, hT, F.hasB, Bool.or_true]
  have nost := F.noStar
  simp only [checkBuiltinCall, F.newKind, F.newSplit, F.newRow]
  repeat (first | refine wpAny_loadPart_at hC ?_ | (refine wpAny_isSubtype_exc hC ?_; rw [inB]) | refine wpAny_staticBase_exc hC ?_ | refine wpAny_madeBy_exc hC ?_ | simp only [bne_self_eq_false, Bool.false_eq_true, if_false] | wp_step)
  exact hq

theorem new_kw (F : ExcBaseFacts B newId initId bmB) (hT : ∀ Y : String, bm.contains (.type Y) = bmB.contains (.type Y)) {us : List Value} {kw : List (Str × Value)}
    (hC : h.get? C = some (excClassObj nm q C N bs bm hdct sn sub ab col dd k0 k1 k2 k3 k5 newId))
    (hq : R (.ok (.ret (.ref (h.objs.size + 1)))) ⟨(h.push (kdv_tup us)).push (excO C h.objs.size), g, d, t, os⟩) (hz : us.length ≤ sizeLine) :
    codeAny (model prog w) A (.builtin newId ⟨.ref C :: us, kw⟩) R ⟨h, g, d, t, os⟩ := by
  have ends := F.ends
  have inB : (Value.ref C :: bm).contains (.type B) = true := by rw [List.contains_cons, hT, F.hasB, Bool.or_true]
  have inA : (Value.ref C :: bm).contains (.type "AttributeError") = false := by rw [List.contains_cons, hT, F.noAttr]; rfl
  have inN : (Value.ref C :: bm).contains (.type "NameError") = false := by rw [List.contains_cons, hT, F.noName]; rfl
  refine codeAny_builtinAt F.entry ?_
  unfold Builtin.«BaseException.__new__»
  refine wpAt_bind ?_
  show wpAt _ _ _ (stack >>= _) _ _ _
  refine wpAt_bind (wpAt_stack fun p below => wpAt_of_wpAny ?_)
  wp_walk
  refine wpAt_of_wpAny ?_
  rw [F.owner]
  repeat (first | with_reducible refine wpAny_madeHere_exc F.canon hC ?_ | with_reducible refine wpAny_loadPart_at hC ?_ | (with_reducible refine wpAny_isSubtype_exc hC ?_; first | rw [inB] | rw [inA] | rw [inN]) | wp_step)
  show R _ _
  rw [Heap.size_push]
  exact hq

theorem type_kw (F : ExcBaseFacts B newId initId bmB) (hT : ∀ Y : String, bm.contains (.type Y) = bmB.contains (.type Y)) {us : List Value} {kw : List (Str × Value)} {fI : Addr} {Q : Fin → Shared → Prop}
    (hC : h.get? C = some (excClassObj nm q C N bs bm hdct sn sub ab col dd k0 k1 k2 k3 k5 newId))
    (hi : W.Looks (model prog w) h (typeLookup (.ref C) "__init__") (some (.ref fI))) (hb : ∀ self, W.Looks (model prog w) h (bindSpecial (.ref fI) self) (.ref fI, [self])) (hz : us.length ≤ sizeLine)
    (hq : codeAny (model prog w) A (.call (.ref fI) ⟨.ref (h.objs.size + 1) :: us, kw⟩)
      (fun r s' => match r with | .ok (.ret v) => v = .none ∧ Q (.done (.ret (.ref (h.objs.size + 1)))) s' | .ok _ => False | .error e => E e s')
      ⟨(h.push (kdv_tup us)).push (excO C h.objs.size), g, d, t, os⟩) :
    wpAny (model prog w) A (Builtin.«type.__call__» ⟨.ref C :: us, kw⟩) Q E ⟨h, g, d, t, os⟩ := by
  repeat (first | with_reducible refine wpAny_loadPart_at hC ?_ | with_reducible refine wpAny_madeBy_exc hC ?_ | wp_step)
  refine codeAny_call_builtin_code (Code.quiet_builtin _ F.quiet) (look_newK F hT hC ?_)
  refine new_kw F hT hC ?_ hz
  show wpAny _ _ _ _ _ _
  have kp : ∀ b o, h.get? b = some o → ((h.push (kdv_tup us)).push (excO C h.objs.size)).get? b = some o := fun b o e => Heap.get?_push_of_some _ (Heap.get?_push_of_some _ e)
  have hC₁ := kp _ _ hC
  have at1 : ((h.push (kdv_tup us)).push (excO C h.objs.size)).get? (h.objs.size + 1) = some (excO C h.objs.size) := by heap_get
  have inC : (Value.ref C :: bm).contains (.ref C) = true := by simp
  have i1 := hi.keeps kp
  have b1 := (hb (.ref (h.objs.size + 1))).keeps kp
  unfold isInstance
  repeat (first | with_reducible refine wpAny_loadPart_at at1 ?_ | (with_reducible refine wpAny_isSubtype_exc hC₁ ?_; rw [inC]) | wp_step)
  show wpAny _ _ (typeLookup (.ref C) _) _ _ _
  refine i1.at ?_
  refine wpAny_holding (wpAny_bind (b1.at ?_))
  refine wpAny_bind (wpAny_call (codeAny_mono hq fun r s' z => ?_))
  rcases r with e | (v | _ | _ | _) <;> first | exact z | exact z.elim | skip
  obtain ⟨rfl, z⟩ := z
  first
    | exact wpAny_pure (wpAny_pure z)
    | (wp_walk; exact z)

/-- C(us, kw): the own __init__ gets all of it -/
theorem call_kw (F : ExcBaseFacts B newId initId bmB) (hT : ∀ Y : String, bm.contains (.type Y) = bmB.contains (.type Y)) {us : List Value} {kw : List (Str × Value)} {fI : Addr}
    (hC : h.get? C = some (excClassObj nm q C N bs bm hdct sn sub ab col dd k0 k1 k2 k3 k5 newId))
    (hi : W.Looks (model prog w) h (typeLookup (.ref C) "__init__") (some (.ref fI))) (hb : ∀ self, W.Looks (model prog w) h (bindSpecial (.ref fI) self) (.ref fI, [self])) (hz : us.length ≤ sizeLine)
    (hq : codeAny (model prog w) (A.under (.builtin "type.__call__" ⟨.ref C :: us, kw⟩)) (.call (.ref fI) ⟨.ref (h.objs.size + 1) :: us, kw⟩) (W.InitBack (h.objs.size + 1) R)
      ⟨(h.push (kdv_tup us)).push (excO C h.objs.size), g, d, t, os⟩) :
    codeAny (model prog w) A (.call (.ref C) ⟨us, kw⟩) R ⟨h, g, d, t, os⟩ := by
  have f1 := tc_lookup
  have f2 := tc_bind (.ref C)
  have hTy : (⟨h, g, d, t, os⟩ : Shared).TypeIs (.ref C) "type" := ⟨_, hC, rfl⟩
  refine codeAny_of_tree ?_
  show wpAny _ _ (callAny (.ref C) _) _ _ _
  repeat (any_goals (first | assumption | with_reducible refine wpAny_loadPart_at hC ?_ | wp_step))
  refine ⟨rfl, ?_⟩
  refine codeAny_call_builtin_at (Code.quiet_builtin _ (by decide +kernel)) entry_typeCall (wpAny_check_type_call_sub hC (type_kw F hT hC hi hb hz ?_))
  refine codeAny_mono hq fun r s' z => ?_
  rcases r with e | (v | _ | _ | _) <;> exact z
end
end XcM
end PySem

set_option Elab.async false
set_option linter.all false
set_option maxRecDepth 100000
set_option maxHeartbeats 4000000
namespace Xc
open PySem PySem.Spec PyProof.Rows L2
/-- what an __init__ that keeps its arguments under these names promises of a fresh error -/
def spInit (C : Addr) (names : List Str) : Sp := fun vs H Q _ => ∃ (a : Addr) (ws : List V), vs = .ref a :: ws ∧ ws.length = names.length ∧ H a = some (exo a C none) ∧
  ∀ (d : Addr) (H' : Hp), H d = none → d ≠ a → H' a = some (exo a C (some d)) → H' d = some (exd d (names.zip ws).reverse) → (∀ b, b ≠ a → b ≠ d → H' b = H b) → Q .non H'
/-- an error as a value: of the class at C, it keeps fs -/
def ExAt (H : Hp) (e C : Addr) (fs : List (Str × V)) : Prop := ∃ d, H e = some (exo e C (some d)) ∧ H d = some (exd d fs)
/-- a new one comes; all else stands -/
def NewEx (C : Addr) (fs : List (Str × V)) (H : Hp) (Q : VK) : Prop := ∀ (e d : Addr) (H' : Hp), H e = none → H d = none → d ≠ e → H' e = some (exo e C (some d)) → H' d = some (exd d fs) → (∀ b, b ≠ e → b ≠ d → H' b = H b) → Q (.ref e) H'
section
variable {X : Cx} {CX : CXT} {k n : Nat} {fI C : Addr} {fd : FuncData} {names ks : List Str} {x : Str} {p pos : Pos} {e : Expr} {es : List Expr} {kws : List Keyword} {t tk : TA} {g : List Value → List Value → List Value} {gV : List V → List V → List V}
theorem run_exc {pins : List (Addr × Obj)} {σ : L2.St} {H : Hp} {s : Shared} {Q : VK} {us ws : List Value} {vs zs : List V} {ord : List V} (T : OexC X.K C) (iC : PySem.W.findIn X.K (.ref C) "__init__" = some (some (.ref fI))) (tI : PySem.W.typeIn X.K (.ref fI) = some (.type "function"))
    (Gi : FnOk X.prog X.w X.K X.mg X.base CX k fI fd ("self" :: names) (spInit C names)) (hr : Room (k + 1) X.A) (hb : KBn X.K fd ("self" :: names) (n + 1) ks g gV) (hx : Passes CX X (fun _ _ _ => False)) (hn : n ≤ 1000)
    (I : Inv X pins σ H s) (r : Vals vs us) (rz : Vals zs ws) (l1 : vs.length = n) (l2 : zs.length = ks.length) (ho : ∀ a, gV (.ref a :: vs) zs = .ref a :: ord) (lo : ord.length = names.length)
    (h : NewEx C (names.zip ord).reverse H Q) :
    wpAny (model X.prog X.w) X.A (call (.ref C) us (ks.zip ws)) (EP X pins σ Q) X.xe s := by
  obtain ⟨nm, q, N, bs, bm, sn, sub, ab, col, dd, k0, k1, k2, k3, k5, hC, hbm⟩ := T.cls
  obtain ⟨hp, gs, dr, tk, os⟩ := s
  have hsz : hp.objs.size ≤ hp.objs.size + 1 := Nat.le_succ _
  have hnew : H (hp.objs.size + 1) = none := I.hok.fresh hsz
  have kk : ∀ b o, hp.get? b = some o → ((hp.push (PySem.W.kdv_tup us)).push (PySem.HandSPX.excO C hp.objs.size)).get? b = some o := fun b o z => Heap.get?_push_of_some _ (Heap.get?_push_of_some _ z)
  have hget : ((hp.push (PySem.W.kdv_tup us)).push (PySem.HandSPX.excO C hp.objs.size)).get? (hp.objs.size + 1) = some (PySem.HandSPX.excO C hp.objs.size) := by heap_get
  have I2 : Inv X pins σ (upd H (hp.objs.size + 1) (exo (hp.objs.size + 1) C none)) ⟨(hp.push (PySem.W.kdv_tup us)).push (PySem.HandSPX.excO C hp.objs.size), gs, dr, tk, os⟩ :=
    I.laid (t' := tk) (a := hp.objs.size + 1) (o := exo (hp.objs.size + 1) C none) (h' := (hp.push (PySem.W.kdv_tup us)).push (PySem.HandSPX.excO C hp.objs.size)) kk hsz (exo_ok hget)
  have r1 : Vals (V.ref (hp.objs.size + 1) :: vs) (Value.ref (hp.objs.size + 1) :: us) := .cons rfl r
  have r2 := hb.rel r1 rz
  have e1 : (Value.ref (hp.objs.size + 1) :: us).length = n + 1 := r1.length.symm.trans (congrArg Nat.succ l1)
  have e2 : ws.length = ks.length := rz.length.symm.trans l2
  have hus : us.length ≤ sizeLine := by
    rw [← r.length, l1, sizeLine_eq]
    omega
  have hsp : spInit C names (gV (.ref (hp.objs.size + 1) :: vs) zs) (upd H (hp.objs.size + 1) (exo (hp.objs.size + 1) C none)) (fun v H2 => v = .non ∧ Q (.ref (hp.objs.size + 1)) H2) (fun _ _ _ => False) := by
    refine ⟨_, ord, ho _, lo, upd_same, fun d H' hd hda ha hd' hrest => ⟨rfl, h _ d H' hnew ?_ hda ha hd' fun b hb1 hb2 => ?_⟩⟩
    · rw [upd_ne hda] at hd
      exact hd
    · rw [hrest b hb1 hb2, upd_ne hb1]
  refine wpAny_call (PySem.XcM.call_kw PySem.F.excBase_ValueError (fun Y => PySem.HandSPX.refsVE_contains Y bm hbm) (I.kIn _ _ hC) (PySem.W.looks_findIn I.kIn iC) (fun self => PySem.W.bind_fn I.kIn self tI) hus
    (codeAny_mono (Gi.run _ X.stack _ _ ⟨Value.ref (hp.objs.size + 1) :: us, ks.zip ws⟩ (g (Value.ref (hp.objs.size + 1) :: us) ws) _ _ (fun _ _ _ => False) (hr.make C us (ks.zip ws)) (I2.env0.make C us (ks.zip ws)) (hb.to _ (Value.ref (hp.objs.size + 1) :: us) ws I2.kIn e1 e2) r2 hsp) fun res s' hq' => ?_))
  cases res with
  | error er => exact hx pins σ _ _ er s' I2 hq'
  | ok fl =>
    cases fl with
    | ret u =>
      obtain ⟨v, H', I3, rv, ev, q3⟩ := I2.after hq'
      subst ev
      exact ⟨rv, ⟨V.ref (hp.objs.size + 1), H', I3, rfl, q3⟩⟩
    | next => exact False.elim hq'
    | brk => exact False.elim hq'
    | cont => exact False.elim hq'
/-- what C(..) asks: the arguments, then the new error for the rest; or puts them into the order of the names -/
def tNewE (C : Addr) (names : List Str) (n m : Nat) (od : List V → List V → List V) (t tk : TA) : TE := fun σ H Q => t σ H fun vs H1 => tk σ H1 fun zs H2 => vs.length = n ∧ zs.length = m ∧ NewEx C (names.zip (od vs zs)).reverse H2 Q
variable {od : List V → List V → List V}
/-- C(e, ..), by position -/
theorem pe_newE (T : OexC X.K C) (iC : PySem.W.findIn X.K (.ref C) "__init__" = some (some (.ref fI))) (tI : PySem.W.typeIn X.K (.ref fI) = some (.type "function"))
    (Gi : FnOk X.prog X.w X.K X.mg X.base CX k fI fd ("self" :: names) (spInit C names)) (hr : Room (k + 1) X.A) (hb : KBn X.K fd ("self" :: names) (names.length + 1) [] g gV) (hx : Passes CX X (fun _ _ _ => False)) (hn : names.length ≤ 1000)
    (ho : ∀ (a : Addr) vs, gV (.ref a :: vs) [] = .ref a :: vs) (hg : Gl X x) (hm : X.mg x = some (.ref C)) (ha : PA X (e :: es) t)
    (hdb : (x == ("__debug__" : Str)) = false := by decide) (he : starEach (e :: es) X.env = (false, eval e X.env) :: starEach es X.env := by rfl) (hpl : (backTo pos (starEach es X.env)).any (·.1) = false := by rfl) :
    PE X (.Call (.Name x p) (e :: es) [] pos) (tNewE C names names.length 0 (fun vs _ => vs) t tNil) := by
  refine ⟨fun pins s σ H Q I h => ?_⟩
  refine wpAny_Call_Name_kw (ld_glob I hg hm ?_ hdb)
  refine PySem.W.callWith_K (h₀ := X.base) I.ok.mod.kin T.kC (thn (ha.run pos pins s σ H _ I h) fun us s1 ⟨vs, H1, I1, r, l1, _, q⟩ => ⟨I1.kIn, ?_⟩) he hpl
  exact run_exc (ks := []) (ws := []) (zs := []) T iC tI Gi hr hb hx hn I1 r .nil l1 rfl (fun a => ho a vs) l1 q
/-- C(k = v, ..) -/
theorem pe_newEk (T : OexC X.K C) (iC : PySem.W.findIn X.K (.ref C) "__init__" = some (some (.ref fI))) (tI : PySem.W.typeIn X.K (.ref fI) = some (.type "function"))
    (Gi : FnOk X.prog X.w X.K X.mg X.base CX k fI fd ("self" :: names) (spInit C names)) (hr : Room (k + 1) X.A) (hb : KBn X.K fd ("self" :: names) 1 ks g gV) (hx : Passes CX X (fun _ _ _ => False))
    (ho : ∀ (a : Addr) zs, zs.length = ks.length → gV [.ref a] zs = .ref a :: od [] zs ∧ (od [] zs).length = names.length) (hg : Gl X x) (hm : X.mg x = some (.ref C)) (hkw : PK X kws tk)
    (hall : (backToKw pos (keywordEach kws X.env)).all (·.1.isSome) = true := by rfl) (hks : (backToKw pos (keywordEach kws X.env)).filterMap (·.1) = ks := by rfl) (hdb : (x == ("__debug__" : Str)) = false := by decide)
    (hpl : ((backTo pos (starEach [] X.env)).any (·.1) || (backToKw pos (keywordEach kws X.env)).any (·.1.isNone)) = false := by rfl) :
    PE X (.Call (.Name x p) [] kws pos) (tNewE C names 0 ks.length od tNil tk) := by
  refine ⟨fun pins s σ H Q I h => ?_⟩
  refine wpAny_Call_Name_kw (ld_glob I hg hm ?_ hdb)
  refine PySem.W.callWith_KW0 (h₀ := X.base) I.ok.mod.kin T.kC hall ?_ hpl
  refine thn (hkw.run pos pins s σ H _ I h) fun ws s2 ⟨zs, H2, I2, rz, l1, l2, q2⟩ => ⟨I2.kIn, ?_⟩
  rw [hks]
  exact run_exc (us := []) (vs := []) (n := 0) T iC tI Gi hr hb hx (Nat.zero_le _) I2 .nil rz rfl l2 (fun a => (ho a zs l2).1) (ho 0 zs l2).2 q2
/-- C(e, .., k = v, ..) -/
theorem pe_newEm (T : OexC X.K C) (iC : PySem.W.findIn X.K (.ref C) "__init__" = some (some (.ref fI))) (tI : PySem.W.typeIn X.K (.ref fI) = some (.type "function"))
    (Gi : FnOk X.prog X.w X.K X.mg X.base CX k fI fd ("self" :: names) (spInit C names)) (hr : Room (k + 1) X.A) (hb : KBn X.K fd ("self" :: names) (n + 1) ks g gV) (hx : Passes CX X (fun _ _ _ => False)) (hn : n ≤ 1000)
    (ho : ∀ (a : Addr) vs zs, vs.length = n → zs.length = ks.length → gV (.ref a :: vs) zs = .ref a :: od vs zs ∧ (od vs zs).length = names.length) (hg : Gl X x) (hm : X.mg x = some (.ref C)) (ha : PA X (e :: es) t) (hkw : PK X kws tk)
    (hall : (backToKw pos (keywordEach kws X.env)).all (·.1.isSome) = true := by rfl) (hks : (backToKw pos (keywordEach kws X.env)).filterMap (·.1) = ks := by rfl) (hdb : (x == ("__debug__" : Str)) = false := by decide)
    (he : starEach (e :: es) X.env = (false, eval e X.env) :: starEach es X.env := by rfl)
    (hpl : ((backTo pos (starEach (e :: es) X.env)).any (·.1) || (backToKw pos (keywordEach kws X.env)).any (·.1.isNone)) = false := by rfl) :
    PE X (.Call (.Name x p) (e :: es) kws pos) (tNewE C names n ks.length od t tk) := by
  refine ⟨fun pins s σ H Q I h => ?_⟩
  refine wpAny_Call_Name_kw (ld_glob I hg hm ?_ hdb)
  refine PySem.W.callWith_KW (h₀ := X.base) I.ok.mod.kin T.kC hall (thn (ha.run pos pins s σ H _ I h) fun us s1 ⟨vs, H1, I1, r, q⟩ => ?_) hpl he
  refine thn (hkw.run pos pins s1 σ H1 _ I1 q) fun ws s2 ⟨zs, H2, I2, rz, l1, l2, q2⟩ => ⟨I2.kIn, ?_⟩
  rw [hks]
  exact run_exc T iC tI Gi hr hb hx hn I2 r rz l1 l2 (fun a => (ho a vs zs l1 l2).1) (ho 0 vs zs l1 l2).2 q2
end
end Xc

set_option Elab.async false
set_option linter.all false
set_option maxRecDepth 100000
set_option maxHeartbeats 4000000
namespace Xc
open PySem PySem.Spec PyProof.Rows L2
/-- e.f, e an error that stands as a value -/
def tXat (K : PySem.W.Frag) (f : Str) (te : TE) : TE := fun σ H Q => te σ H fun x H1 => ∃ (a C d : Addr) (fs : List (Str × V)) (v : V), x = .ref a ∧ XfC K C ∧ PySem.W.findIn K (.ref C) f = some none ∧
  H1 a = some (exo a C (some d)) ∧ H1 d = some (exd d fs) ∧ fs.lookup f = some v ∧ Q v H1
section
variable {X : Cx} {pins : List (Addr × Obj)} {σ : L2.St} {H : Hp} {s : Shared}
theorem ex_inst {a C d : Addr} {fs : List (Str × V)} (I : Inv X pins σ H s) (ha : H a = some (exo a C (some d))) (hd : H d = some (exd d fs)) :
    ∃ (oe od : Obj) (mA : Str → Option Value), PySem.W.InstAt s.heap a oe C (some od) ∧ s.heap.Ns1 d mA ∧ (∀ f, RelO (fs.lookup f) (mA f)) ∧ ∀ f, PySem.W.lookIn f od = some (mA f) := by
  obtain ⟨t1, he⟩ := exo_at I.hok ha
  obtain ⟨mA, hns, hr⟩ := exd_at I.hok hd
  obtain ⟨od, ho, hl⟩ := lookIn_ns hns
  exact ⟨_, od, mA, ⟨he, rfl, rfl, ho⟩, hns, hr, hl⟩
theorem pe_xat {e : Expr} {te : TE} {pos : Pos} {f : Str} (he : PE X e te) (hb : attributeBase e f X.env (eval e X.env) = eval e X.env := by rfl) : PE X (.Attribute e f pos) (tXat X.K f te) := by
  refine ⟨fun pins s σ H Q I h => ?_⟩
  refine attr_of hb (thn (he.run pins s σ H _ I h) fun u s1 hh => ?_)
  obtain ⟨x, H1, I1, rx, a, C, d, fs, v, ex, T, hno, ha, hd, l, q⟩ := hh
  subst ex
  obtain rfl : u = Value.ref a := rx
  obtain ⟨oe, od, mA, J, hns, hr, hl⟩ := ex_inst I1 ha hd
  obtain ⟨u, hu, ru⟩ := RelO.some_of (v := v) (o := mA f) (by rw [← l]; exact hr f)
  exact HandSPX.exc_get I1.kIn J T.ga T.gg T.exC (PySem.W.findObj_own T.hdC hno rfl (by rw [hl, hu])) (handed_of ru) ⟨v, H1, I1.tok _, ru, q⟩
end
end Xc

set_option Elab.async false
set_option linter.all false
set_option maxRecDepth 100000
set_option maxHeartbeats 4000000
/-! isinstance of an error that stands as a value, with or without a dict of its own. -/
namespace PySem.W
open PySem PySem.Spec PySem.Calls PyProof.Rows
section
variable {prog : Program} {w : World} {A : Around} {E : Value → Shared → Prop} {s : Shared} {K : Frag} {x D : Addr} {ox : Obj} {od : Option Obj}
theorem xc_find {C : Addr} {name : Str} {a gv : Value} (hc : (clsIn K C).isSome = true) (ha : findIn K (.ref C) name = some (some a)) (hg : specialIn K a "__get__" = some (some gv)) (ht : takesIn K a = some true) : findObj K C od name = some (.bind gv a) := by
  obtain ⟨cd, hc⟩ := Option.isSome_iff_exists.mp hc
  unfold findObj
  rw [hc, Option.bind_some, ha, Option.bind_some]
  simp [hg, ht]
theorem xc_class {Q : Option Value → Shared → Prop} (hga : findIn K (.ref D) "__getattribute__" = some (some (.builtin "BaseException.__getattribute__"))) (hgt : findIn K (.ref D) "__getattr__" = some none) (hsub : subIn K (.ref D) (.type "BaseException") = some true)
    (hdct : hasDictIn K D = true) (ha : findIn K (.ref D) "__class__" = some (some (.builtin "object.__class__")))
    (hn : specialIn K (.builtin "object.__class__") "__get__" = some (some (.builtin "getset_descriptor.__get__"))) (htk : takesIn K (.builtin "object.__class__") = some true) (hm : mroIn K D (.type "object") = some true)
    (X : K.In s.heap) (I : InstAt s.heap x ox D od) (h : Q (some (.ref D)) { s with toks := s.toks + 1 }) : wpAny (model prog w) A (getAttr? (.ref x) "__class__") Q E s := by
  have found : findObj K D od "__class__" = some (.bind (.builtin "getset_descriptor.__get__") (.builtin "object.__class__")) := xc_find (by obtain ⟨cd, hc, _⟩ := any_some hdct; rw [hc]; rfl) ha hn htk
  obtain ⟨hp, g, d, t, os⟩ := s
  have k0 := I.type (M := model prog w)
  have k1 := looks_findIn (M := model prog w) X hga
  have k2 := looks_findIn (M := model prog w) X hgt
  have k3 := looks_find (M := model prog w) X I found
  have sub : Looks (model prog w) hp (isInstance (.ref x) (.type "BaseException")) true := k0.andThen (looks_subIn X hsub)
  have y0 : (false && onTheHeap (Value.builtin "BaseException.__getattribute__")) = false := rfl
  have y2 : (Value.builtin "BaseException.__getattribute__" == Value.builtin "object.__getattribute__") = false := by decide +kernel
  have y1 : (onTheHeap (Value.ref D) && Value.builtin "BaseException.__getattribute__" == Value.builtin "object.__getattribute__") = false := by rw [y2]; rfl
  unfold getAttr? getAttrBy? getAttrBy
  refine wpAny_bind (wpAny_mkText (wpAny_bind (wpAny_attempt (wpAny_holding (wpAny_bind (k0.at (wpAny_bind (k1.at ?_))))))))
  show wpAny _ _ (if (onTheHeap (Value.ref D) && Value.builtin "BaseException.__getattribute__" == Value.builtin "object.__getattribute__") = true then _ else _) _ _ _
  rw [y1, if_neg Bool.false_ne_true]
  unfold getAttrByItsOwn hookBefore
  refine wpAny_bind ?_
  rw [if_pos (show onTheHeap (Value.ref D) = true from rfl)]
  refine k2.at ?_
  refine wpAny_bind (wpAny_attempt (wpAny_holding ?_))
  unfold callGetattribute
  rw [y0, if_neg Bool.false_ne_true]
  unfold boundAndCalled
  rw [PySem.F.excAttr_ValueError.ga.bind (.ref x)]
  refine wpAny_bind (wpAny_pure ?_)
  show wpAny _ _ (call (.builtin "BaseException.__getattribute__") [.ref x, .str "__class__" t]) _ _ _
  refine wpAny_call (codeAny_call_builtin PySem.F.excAttr_ValueError.ga.plain PySem.F.entry_bexc_ga ?_)
  refine @check_slot (model prog w) _ _ ⟨hp, g, d, t + 1, os⟩ "BaseException.__getattribute__" "BaseException" "__getattribute__" (.ref x) [.str "__class__" t] [] _ (by decide +kernel) (by decide +kernel) sub (PySem.F.args_bexc_ga (.ref x) (.str "__class__" t)) ?_
  unfold Builtin.«object.__getattribute__»
  refine wpAny_bind (wpAny_of_eq (a := ((Value.ref x : Value), [Value.str "__class__" t])) (by first | rfl | (simp only [slotArgs]; rfl)) ?_)
  refine wpAny_bind (wpAny_pure (wpAny_bind (k0.at (wpAny_bind (k3.at ?_)))))
  show wpAny _ _ (holding [Value.builtin "object.__class__"] (call (.builtin "getset_descriptor.__get__") [.builtin "object.__class__", .ref x, .ref D]) >>= ret) _ _ _
  refine wpAny_bind (wpAny_holding (wpAny_call (class_get (s := ⟨hp, g, d, t + 1, os⟩) (ox := ox) (od := od) X I hm ?_)))
  refine wpAny_pure ?_
  show wpAny _ _ (handedOut (.ref D)) _ _ _
  rw [handedOut_of (v := .ref D) rfl]
  first
    | exact wpAny_pure (wpAny_pure h)
    | exact wpAny_pure h
    | exact wpAny_pure (wpAny_bind (wpAny_pure (wpAny_pure h)))
theorem xc_kit (hga : findIn K (.ref D) "__getattribute__" = some (some (.builtin "BaseException.__getattribute__"))) (hgt : findIn K (.ref D) "__getattr__" = some none) (hsub : subIn K (.ref D) (.type "BaseException") = some true) (hdct : hasDictIn K D = true) (ha : findIn K (.ref D) "__class__" = some (some (.builtin "object.__class__")))
    (hn : specialIn K (.builtin "object.__class__") "__get__" = some (some (.builtin "getset_descriptor.__get__"))) (htk : takesIn K (.builtin "object.__class__") = some true) (hm : mroIn K D (.type "object") = some true) :
    KitX K (.ref x) (.ref D) (fun h => ∃ ox od, InstAt h x ox D od) where
  ty := fun _ _ _ ⟨_, _, I⟩ => I.type
  it := fun _ _ X _ => by
    obtain ⟨cdD, hcD, _⟩ := any_some hdct
    unfold clsIn at hcD
    split at hcD
    · rename_i c' d' cd' sl' ho
      intro A' Q' E' s' k q
      unfold isType loadHead
      exact wpAny_bind (wpAny_loadPart (k _ _ (X _ _ ho)) (wpAny_pure q))
    · cases hcD
  ne := fun h tp dd its n sl X htp => by
    obtain ⟨cdD, hcD, _⟩ := any_some hdct
    refine Bool.eq_false_iff.mpr fun q => ?_
    have e : D = tp := Value.ref.inj (beq_iff_eq.mp q)
    subst e
    unfold clsIn at hcD
    split at hcD
    · rename_i c' d' cd' sl' ho
      have z := (X _ _ ho).symm.trans htp
      cases z
    · cases hcD
  ca := fun X ⟨_, _, I⟩ k => xc_class hga hgt hsub hdct ha hn htk hm X I k
end
end PySem.W
namespace Xc
open PySem PySem.Spec PyProof.Rows L2
/-- isinstance(e, c), e an error as a value -/
def rIsX (K : PySem.W.Frag) : List V → Hp → VK → Prop := fun xs H Q => ∃ (a D : Addr) (d : Option Addr) (c : V) (u : Value) (b : Bool), xs = [.ref a, c] ∧ ClsV c u ∧ ExcC K D ∧ H a = some (exo a D d) ∧ (∀ dd, d = some dd → ∃ fs, H dd = some (exd dd fs)) ∧
  PySem.W.kitOne K (.ref D) u = some b ∧ Q (.bl b) H
theorem call_isX {X : Cx} : CallR X (.builtin "isinstance") (rIsX X.K) := by
  intro pins s σ H xs us Q I r h
  obtain ⟨a, D, d, c, u, b, rfl, k, T, ha, hd, e, q⟩ := h
  obtain ⟨u1, u2, rfl, r1, r2⟩ := vals2 r
  cases (show u1 = Value.ref a from r1)
  have e2 := k.eq r2
  subst e2
  have J : ∃ ox od, PySem.W.InstAt s.heap a ox D od := by
    obtain ⟨t1, he⟩ := exo_at I.hok ha
    cases d with
    | none => exact ⟨_, none, he, rfl, rfl, trivial⟩
    | some dd =>
      obtain ⟨fs, hfs⟩ := hd dd rfl
      obtain ⟨mA, hns, hr⟩ := exd_at I.hok hfs
      obtain ⟨od, ho, hl⟩ := lookIn_ns hns
      exact ⟨_, some od, he, rfl, rfl, ho⟩
  exact PySem.W.kia_one (PySem.W.xc_kit T.hg T.hk T.hs T.hd T.ha T.hn T.ht T.hm) I.kIn J e (fun z => nomatch z) fun tk => ⟨.bl b, H, I.tok tk, rfl, q⟩
end Xc

set_option Elab.async false
set_option linter.all false
set_option maxRecDepth 100000
set_option maxHeartbeats 4000000
namespace Xc
open PySem PySem.Spec PyProof.Rows L2
section
variable {X : Cx}
/-- C(), a class of errors without an __init__ of its own -/
theorem pe_newE0 {C : Addr} {bmB : List Value} {B newId initId : String} {x : Str} {p pos : Pos} (F : ExcBaseFacts B newId initId bmB) (q : PySem.W.excIn X.K C bmB newId = true) (gC : X.mg x = some (.ref C)) (kC : PySem.W.keepIn X.K (.ref C) = true) (hg : Gl X x)
    (hdb : (x == ("__debug__" : Str)) = false := by decide) :
    PE X (.Call (.Name x p) [] [] pos) (fun σ H Q => ∀ a, H a = none → Q (.ref a) (upd H a (exo a C none))) := by
  refine ⟨fun pins s σ H Q I h => ?_⟩
  refine wpAny_Call_Name_kw (ld_glob I hg gC ?_ hdb)
  refine PySem.W.callWith_K0 I.kIn kC ?_
  show wpAny _ _ (call (.ref C) []) _ _ _
  obtain ⟨bm, N, nm, qn, bs, hdct, sn, sub, ab, col, dd, k0, k1, k2, k3, k5, mN, hC, hN, hni, T⟩ := exc_obj I.kIn q
  refine wpAny_call_exc_subT F T hC hN hni (fun h' a hm => ?_) (Nat.zero_le _)
  have hn : H a = none := I.hok.gone hm.new
  obtain ⟨t, ht, _, _⟩ := hm.there
  exact ⟨.ref a, upd H a (exo a C none), I.laidN hm.keeps hm.new hn (exo_ok (t1 := t) ht), rfl, h a hn⟩
end
end Xc

set_option Elab.async false
set_option linter.all false
set_option maxRecDepth 100000
set_option maxHeartbeats 4000000
/-! Comprehensions where an exception is being handled. -/
namespace Xc
open PySem PySem.Spec PyProof.Rows L2 L2H HotX
/-- a block's context that bears the handled error p -/
abbrev blkP (X : Cx) (s : Shared) (H : Hp) (scope : Scope) (cenv : Env) (fp : List Addr) (p : Addr × Obj) : Cx := { X.blk s H scope cenv fp with pn := [p] }
theorem hot_blk {X : Cx} {s : Shared} {H : Hp} {scope : Scope} {cenv : Env} {fp : List Addr} {p : Addr × Obj} (h : Hot1 X.A p) : HotC (blkP X s H scope cenv fp p) := ⟨p, h, List.mem_singleton.mpr rfl⟩
/-- an invariant of the block without the pin, and the pin -/
theorem inv_blkP {X : Cx} {s s' : Shared} {H H' : Hp} {scope : Scope} {cenv : Env} {fp : List Addr} {p : Addr × Obj} {σ : L2.St} (I : Inv (X.blk s H scope cenv fp) [] σ H' s')
    (g : s'.heap.get? p.1 = some p.2) (n : H' p.1 = none) (l : p.1 ≠ cenv.locals) (f : p.1 ∉ frs X.stack) (d : ∀ v, p.2.data ≠ .cell v) : Inv (blkP X s H scope cenv fp p) [] σ H' s' := by
  refine ⟨⟨I.ok.mod, I.ok.kind, I.ok.glob, I.ok.blt, I.ok.above, I.ok.inj, I.ok.has, I.ok.cab, I.ok.hd, I.ok.frames, I.ok.stk, I.ok.exf, I.ok.bs, I.ok.bsz, I.ok.noex, I.ok.exfs, I.ok.funs, I.ok.frf⟩, I.os, I.bare, I.base, I.loc, I.cell, I.free, I.freeC, fun q hq => ?_, I.hok, I.len⟩
  have e : q = p := by simpa using (show q ∈ [p] ++ ([] : List (Addr × Obj)) from hq)
  rw [e]
  exact ⟨g, n, l, f, d⟩
section
variable {X : Cx}
theorem pe_lcH {elt tg iter : Expr} {ifs : List Expr} {scope : Scope} {own : List (Str × Nat)} {pos : Pos} {wi : TI} {g : TG} {tt : TT} {te : TE} (hc : HotC X) (hN : X.N.Nodup) (hi : PIH X tg iter wi) (ok : BlkOk X.N X.env.scope scope own)
    (hg : ∀ (s : Shared) (H : Hp) (C : Addr) (cl : List (Str × Addr)) (fp : List Addr) (p : Addr × Obj), Hot1 X.A p → PG (blkP X s H scope (compEnvC scope cl C X.env) fp p) tg g)
    (ht : ∀ (s : Shared) (H : Hp) (C : Addr) (cl : List (Str × Addr)) (fp : List Addr) (p : Addr × Obj), Hot1 X.A p → PTs (blkP X s H scope (compEnvC scope cl C X.env) fp p) ifs tt)
    (he : ∀ (s : Shared) (H : Hp) (C : Addr) (cl : List (Str × Addr)) (fp : List Addr) (p : Addr × Obj), Hot1 X.A p → PE (blkP X s H scope (compEnvC scope cl C X.env) fp p) elt te)
    (hs : ∀ x, foldedSetIterable iter X.env x = pure x := by intro _; rfl) :
    PE X (.ListComp elt [⟨tg, iter, ifs, 0⟩] scope pos) (tLc wi g tt te (own.map (·.2))) := by
  refine ⟨fun pins s σ H Q I h => ?_⟩
  obtain ⟨p, hot, hpn⟩ := hc
  rw [eval_ListComp]
  have capt : ∀ y ∈ scope.names, y.2 = .free → ∃ c, X.env.cells.lookup y.1 = some c := fun y hy e =>
    (ok.free y hy e).elim (fun k => I.ok.has _ (.inl k)) (fun k => I.ok.has _ (.inr k))
  refine wpAny_comprehension_free (use := none) rfl hs (closure_ok capt) ok.kind (fun y hy e => by rw [ok.uniq y hy, e]) (thn (hi.run pins s σ H _ I h) fun xv s1 hx => thn hx fun itv s2 h2 => ?_)
  obtain ⟨it, fp, tn, J, H2, e, I2, T, st2, f2, q⟩ := h2
  subst e
  refine wpAny_newObj_type (newEnv_comp ?_) (by show 0 ≤ sizeLine; decide)
  generalize hD : s2.heap.objs.size = D
  obtain ⟨W, ⟨m0, w0⟩, turn⟩ := q D (I2.hok.fresh (Nat.le_of_eq hD))
  generalize hs3 : ({ s2 with heap := s2.heap.push { cls := .type "list", data := .seq ([] : List Value).toArray } } : Shared) = s3
  have hp3 : s3.heap = s2.heap.push { cls := .type "list", data := .seq ([] : List Value).toArray } := by rw [← hs3]
  have I3 : Inv X pins σ (upd H2 D (.lst [])) s3 := by
    rw [← hs3]
    refine I2.laid (t' := s2.toks) (fun b o z => Heap.get?_push_of_some _ z) (Nat.le_of_eq hD) ⟨Nat.zero_le _, [], 0, .nil, ?_⟩
    rw [← hD]
    exact Heap.get?_push_size _ rfl
  have f3 : ∀ b ∈ fp, FpOk X pins (upd H2 D (.lst [])) b ∧ b < s3.heap.objs.size := fun b hb => by
    obtain ⟨o, z, _⟩ := T.obj _ _ st2 b hb
    have hlt := Heap.lt_size z
    refine ⟨⟨?_, (f2 b hb).2⟩, by rw [hp3, Heap.size_push]; exact Nat.lt_succ_of_lt hlt⟩
    rw [upd_ne (by rw [← hD]; exact Nat.ne_of_lt hlt)]
    exact (f2 b hb).1
  have st3 : tn 0 s3.heap := T.keep _ _ _ st2 fun b _ o z => by rw [hp3]; exact Heap.get?_push_of_some _ z
  have B4 := block_start I3 ok hN f3
  obtain ⟨pg1, pg2, pg3, pg4, pg5⟩ := I3.pin p (List.mem_append_left _ hpn)
  have pe := he s3 (upd H2 D (.lst [])) s3.heap.objs.size (cellsFrom (s3.heap.objs.size + 1) scope.names (cloFrom X.env.cells scope.names [])) fp p hot
  have pt := ht s3 (upd H2 D (.lst [])) s3.heap.objs.size (cellsFrom (s3.heap.objs.size + 1) scope.names (cloFrom X.env.cells scope.names [])) fp p hot
  have pg := hg s3 (upd H2 D (.lst [])) s3.heap.objs.size (cellsFrom (s3.heap.objs.size + 1) scope.names (cloFrom X.env.cells scope.names [])) fp p hot
  show codeAny _ _ (.compStart (.ListComp elt [⟨tg, iter, ifs, 0⟩] scope pos) 0 (.ref it) (.ref D) (compEnvC scope (cellsFrom (s3.heap.objs.size + 1) scope.names (cloFrom X.env.cells scope.names [])) s3.heap.objs.size X.env)) (compPost (model X.prog X.w) X.A X.xe none _ (.ref D) s3.heap.objs.size) { s3 with heap := pushCells (s3.heap.push { cls := .type "dict", data := .dict #[] }) scope.names }
  generalize hce : compEnvC scope (cellsFrom (s3.heap.objs.size + 1) scope.names (cloFrom X.env.cells scope.names [])) s3.heap.objs.size X.env = ce at B4 pe pt pg ⊢
  have cL : ce.locals = s3.heap.objs.size := by subst hce; rfl
  have kp : ∀ b o, s3.heap.get? b = some o → (pushCells (s3.heap.push { cls := .type "dict", data := .dict #[] }) scope.names).get? b = some o := fun b o z => pushCells_keeps _ _ _ _ (Heap.get?_push_of_some _ z)
  generalize hs4 : ({ s3 with heap := pushCells (s3.heap.push { cls := .type "dict", data := .dict #[] }) scope.names } : Shared) = s4 at B4 ⊢
  have hp4 : s4.heap = pushCells (s3.heap.push { cls := .type "dict", data := .dict #[] }) scope.names := by rw [← hs4]
  have I4 : Inv (blkP X s3 (upd H2 D (.lst [])) scope ce fp p) [] (wipe σ (own.map (·.2))) (upd H2 D (.lst [])) s4 := by
    refine inv_blkP B4 (by rw [hp4]; exact kp _ _ pg1) pg2 (by rw [cL]; exact Nat.ne_of_lt (Heap.lt_size pg1)) (fun z => ?_) pg5
    exact (List.mem_cons.mp (I3.stkSub _ z)).elim pg3 pg4
  have st4 : tn 0 s4.heap := T.keep _ _ _ st3 fun b _ o z => by rw [hp4]; exact kp b o z
  have nfp : ∀ b ∈ fp, (upd H2 D (.lst [])) b = none := fun b hb => (f3 b hb).1.1
  have apart : ∀ b ∈ fp, p.1 ≠ b := fun b hb => (f3 b hb).1.2.2.2.2.2 p (List.mem_append_left _ hpn)
  generalize hH3 : upd H2 D (.lst []) = H3 at I3 I4 pg pt pe w0 nfp f3
  have stat : ∀ {σ' : L2.St} {H' : Hp} {s' : Shared}, Inv (blkP X s3 H3 scope ce fp p) [] σ' H' s' → (∀ b ∈ fp, H' b = none) → ∀ b ∈ fp, FpOk (blkP X s3 H3 scope ce fp p) [] H' b := fun {σ' H' s'} I' hn b hb =>
    ⟨hn b hb, (I'.ok.exf b hb).1, I'.ok.exfs b hb, .inl hb, fun x c z => (I'.ok.exf b hb).2 x c z, fun r hr => by
      have e : r = p := by simpa using (show r ∈ [p] ++ ([] : List (Addr × Obj)) from hr)
      rw [e]
      exact apart b hb⟩
  have hotB : HotC (blkP X s3 H3 scope ce fp p) := hot_blk hot
  have loop : codeAny (model X.prog X.w) X.A (.compLoop (.ListComp elt [⟨tg, iter, ifs, 0⟩] scope pos) 0 (.ref it) (.ref D) ce) (compPost (model X.prog X.w) X.A X.xe none (EP X pins σ Q) (.ref D) s3.heap.objs.size) s4 := by
    refine compLoop_any (fun n s' => ∃ i H', Inv (blkP X s3 H3 scope ce fp p) [] (wipe σ (own.map (·.2))) H' s' ∧ tn i s'.heap ∧ (∀ b ∈ fp, H' b = none) ∧ W i n H') ?_ m0 ⟨0, H3, I4, st4, nfp, w0⟩
    rintro n s5 ⟨i, H5, I5, st5, n5, w5⟩
    rcases turn i n H5 w5 with ⟨stop, qq⟩ | ⟨go, Nx, hNx, step⟩
    · refine thnF (T.done (blkP X s3 H3 scope ce fp p) rfl rfl rfl hotB i [] s5 _ H5 (fun _ _ => False) I5 (stat I5 n5) st5 stop) fun r s6 ⟨hr, I6⟩ => ?_
      subst hr
      have I7 : Inv X pins σ H5 s6 := I3.call' (ch := fp) I6.os I6.base I6.hok I6.bare fun b hb => ⟨(f3 b hb).1.2.2.2.1, (f3 b hb).1.2.1, (f3 b hb).1.2.2.2.2.1, (f3 b hb).1.2.2.2.2.2⟩
      have nC : H5 s3.heap.objs.size = none := by
        have z : H5 ce.locals = none := I6.free
        rwa [cL] at z
      obtain ⟨m, hn, _⟩ := I6.loc
      have hn : s6.heap.Ns ce.locals m := hn
      rw [cL] at hn
      obtain ⟨y0, y1, y2, y3, y4, y5⟩ := I3.fpOk (Nat.le_refl _) nC
      exact ⟨m, hn, fun h'' sb => ⟨.ref D, H5, I7.turned (t' := s6.toks) (fun b o hb z => (sb.2 b hb).trans z) y0 y1 y3 y4 y5, rfl, qq⟩⟩
    · refine thnF (T.item (blkP X s3 H3 scope ce fp p) rfl rfl rfl hotB i [] s5 _ H5 (fun _ _ => False) I5 (stat I5 n5) st5 go) fun r s6 ⟨u, hr, h6⟩ => ?_
      subst hr
      refine thnF h6 fun _ s7 ⟨x, H7, I7, r7, y7, st7, n7⟩ => ?_
      refine thnF (pg.run _ s7 _ H7 x u _ (I7.pinned (stat I7 n7) (T.obj _ _ st7)) r7 (step x H7 y7)) fun _ s8 ⟨σ8, H8, I8, hw8, q8⟩ => ?_
      refine thnF (pt.run _ s8 σ8 H8 _ I8 q8) fun b s9 ⟨H9, I9, q9⟩ => ?_
      have fin : ∀ {s' : Shared} {H' : Hp}, Inv (blkP X s3 H3 scope ce fp p) ([] ++ pinsAt fp s7.heap) σ8 H' s' → Nx H' → ∃ m, m < n ∧ ∃ i H', Inv (blkP X s3 H3 scope ce fp p) [] (wipe σ (own.map (·.2))) H' s' ∧ tn i s'.heap ∧ (∀ b ∈ fp, H' b = none) ∧ W i m H' := fun {s' H'} I' nx => by
        obtain ⟨m', hm, w'⟩ := hNx H' nx
        have held : ∀ b ∈ fp, ∀ o, s7.heap.get? b = some o → s'.heap.get? b = some o ∧ H' b = none := fun b hb o z =>
          have y := I'.pin (b, o) (List.mem_append_right _ (List.mem_append_right _ (mem_pinsAt hb z)))
          ⟨y.1, y.2.1⟩
        have hl : (wipe σ (own.map (·.2))).length = σ8.length := by rw [← hw8, wipe_length]
        refine ⟨m', hm, i + 1, H', (I'.unpinned (pins := [])).weak hl (fun j v z => ?_), T.keep _ _ _ st7 fun b hb o z => (held b hb o z).1, fun b hb => ?_, w'⟩
        · rw [← hw8] at z
          exact (wipe_some z).1
        · obtain ⟨o, z, _⟩ := T.obj _ _ st7 b hb
          exact (held b hb o z).2
      cases b with
      | false =>
        simp only [Bool.false_eq_true, if_false] at q9 ⊢
        exact fin I9 q9
      | true =>
        simp only [if_true] at q9 ⊢
        refine thnF (pe.run _ s9 σ8 H9 _ I9 q9) fun z s10 ⟨yv, H10, I10, r10, acc, hD10, hz10, nx⟩ => ?_
        exact app_ok (X := blkP X s3 H3 scope ce fp p) I10 hD10 hz10 r10 fun s11 I11 => fin I11 nx
  exact codeAny_compStart_list loop (T.self X.A 0 _ _ _ st4 loop)
end
end Xc

set_option Elab.async false
set_option linter.all false
set_option maxRecDepth 100000
set_option maxHeartbeats 4000000
/-! try with several clauses that name their error; errors as values raised; isinstance in a suite. -/
namespace Xc
open PySem PySem.Spec PyProof.Rows L2 L2H HotX
/-- a clause: its class, the slot of its name, its suite's reading -/
abbrev Cl := Value × Nat × (Addr → Value → Option Addr → TS)
def wMA (K : PySem.W.Frag) (Wout : WX) (D : Ends) : List Cl → WX
  | [] => Wout
  | (c, i, ts) :: r => fun cls d σ H => ∃ b, PySem.W.exmOne K cls c = some b ∧
      (b = true → ∀ a, H a = none → ts a cls d { nx := fun σ' H' => D.nx (σ'.set i none) H', rt := D.rt, bk := fun σ' H' => D.bk (σ'.set i none) H', ct := fun σ' H' => D.ct (σ'.set i none) H' } (σ.set i (some (.ref a))) H) ∧
      (b = false → wMA K Wout D r cls d σ H)
inductive HdA (X : Cx) : List ExceptHandler → List Cl → Prop
  | nil : HdA X [] []
  | cons {x n : Str} {c : Value} {i : Nat} {ts : Addr → Value → Option Addr → TS} {b₀ : Stmt} {suite : List Stmt} {np pos' : Pos} {hds : List ExceptHandler} {l : List Cl} (hc : Names X x c) (hi : X.N[i]? = some n) (hln : X.env.kindOf n = some .local)
      (hsu : ∀ (a : Addr) (oe : Obj) (cls : Value) (d : Option Addr) (pn : List (Addr × Obj)), L2N.Zn cls d oe → (∃ vs, oe.data = .fields vs) → Hot1 (X.A.mark (some (.ref a))) (a, oe) → PSs (X.suite a ((a, oe) :: pn)) (b₀ :: suite) (ts a cls d)) (r : HdA X hds l) :
      HdA X (.ExceptHandler (some (.Name x np)) (some n) (b₀ :: suite) pos' :: hds) ((c, i, ts) :: l)
section
variable {X : Cx} {body : List Stmt} {h₀ : ExceptHandler} {hds : List ExceptHandler} {l : List Cl} {pos : Pos} {tb : WX → TS} {Wout : WX}
theorem ps_tryMA (hs : X.stack = X.env :: X.outer) (hf : X.env.frame = some X.env.locals) (hN : X.N.Nodup) (tk : L2N.Takes X Wout)
    (hb : ∀ (W : WX) (pn : List (Addr × Obj)) (xe : Value → Shared → Prop), L2N.Takes (X.tr pn xe) W → PassesOwn (model X.prog X.w) X.A X.env xe → PSs (X.tr pn xe) body (tb W))
    (hh : HdA X (h₀ :: hds) l) : PS X (.Try body (h₀ :: hds) [] [] pos) (fun D σ H => tb (wMA X.K Wout D l) D σ H) := by
  refine ⟨fun pins s σ H D I h => ?_⟩
  have ok := I.ok
  have hfr : X.A.frames = some (X.env :: X.outer) := by rw [ok.frames, hs]
  refine wpAny_Try_except ?_
  refine wpAny_mono ((hb (wMA X.K Wout D l) (X.pn ++ pins) (fun e s₁ => wpAny (model X.prog X.w) X.A (noteFrame e X.env) (fun _ s₂ => wpAny (model X.prog X.w) X.A (setFlight e none) (fun _ s₃ =>
    wpAny (model X.prog X.w) X.A (handleBy e X.env (h₀ :: hds)) (SP X pins D) X.xe s₃) X.xe s₂) X.xe s₁) (fun u s' xx => ?_) PassesOwn.looking).run [] s σ H D (I.toTry _) h) (fun f s1 hsp => ?_) (fun e s1 he => he)
  · obtain ⟨a, B, sI, pins', σ', H', cls, d, rfl, J', nb, up, sky, na, os, ag, w⟩ := xx
    have J : Inv X pins σ' H' sI := J'.ofTry ok
    have sky' : Sky B (X.env :: X.outer) a (L2N.Zn cls d) X.env.locals s'.heap := by rw [← hs]; exact sky
    show wpAny (model X.prog X.w) X.A (noteFrame (.ref a) X.env) _ _ _
    refine L2N.Sky.land L2N.Zn.steady hfr hf sky' fun h3 fl3 up3 => ?_
    have J3 : Inv X pins σ' H' { s' with heap := h3 } := J.landed nb fl3.1 (up.trans up3) os ag
    obtain ⟨oe3, vs3, he3, hz3, hd3⟩ := fl3.there
    have out : a ∉ frs (X.env :: X.outer) := fun hm => by
      obtain ⟨_, o', e', hnf⟩ := fl3.2.2.1.mem hm
      rw [he3] at e'; cases e'
      exact hnf _ hd3
    have nL : a ≠ X.env.locals := fun z => out (List.mem_filterMap.mpr ⟨X.env, List.mem_cons_self, by rw [hf, z]⟩)
    have nF : a ∉ X.fs := fun hm => by
      obtain ⟨e, he, q⟩ := List.mem_filterMap.mp hm
      exact out (List.mem_filterMap.mpr ⟨e, List.mem_cons_of_mem _ he, q⟩)
    have S3 := J3.suite he3 hd3 na nL nF
    have go : ∀ {hds' : List ExceptHandler} {l' : List Cl}, HdA X hds' l' → wMA X.K Wout D l' cls d σ' H' →
        wpAny (model X.prog X.w) X.A (handleBy (.ref a) X.env hds') (SP X pins D) X.xe { s' with heap := h3 } := by
      intro hds' l' hk
      induction hk with
      | nil =>
        intro w
        refine wpAny_handleBy_nil ?_
        obtain ⟨k1, k2, k3, oe, vs, T, oT, ts', he, hz, hd, h1, hr⟩ := id fl3
        unfold PySem.passOn
        refine wpAny_bind (wpAny_field he hd h1 ?_)
        rw [if_neg (show ¬ ((Value.ref T == Value.none) = true) from by simp)]
        have fin : wpAny (model X.prog X.w) X.A (setFlight (.ref a) X.env.frame) (fun _ s4 => wpAny (model X.prog X.w) X.A (throw (.ref a) : Sem Flow) (SP X pins D) X.xe s4) X.xe { s' with heap := h3 } := by
          rw [hf]
          refine HandSPX.setFlight_upZ fl3 fun h4 hh4 up4 => wpAny_throw (tk _ _ ?_)
          exact ⟨a, B, sI, pins, σ', H', cls, d, rfl, J, nb, (up.trans up3).trans up4, .inr (.inr (by rw [hs]; exact hh4)), na, os, ag, w⟩
        first
          | exact wpAny_bind (wpAny_pure (wpAny_bind fin))
          | exact wpAny_bind fin
      | @cons x n c i ts b₀ suite np pos' hds2 l2 hc hi hln hsu r ih =>
        intro w
        obtain ⟨b, hb1, hyes, hno⟩ := w
        have hloc : Loc X.env.scope n := .inl hln
        refine wpAny_handleBy_cons (codeAny_handlers_test ?_) (by intro q; cases q)
        have LT : PySem.W.Looks (model X.prog X.w) h3 (typeOf (.ref a)) cls := fun A Q E s k q => wpAny_typeOf_ref (k _ _ he3) (by rw [hz3.1]; exact q)
        have LM := PySem.W.exm_one (M := model X.prog X.w) (J3.kIn) LT hb1
        have test : ∀ {Q : Value → Shared → Prop} {E : Value → Shared → Prop}, Q c { s' with heap := h3 } → wpAny (model X.prog X.w) (X.A.mark (some (.ref a))) (eval (.Name x np) X.env) Q E { s' with heap := h3 } := fun {Q E} q => by
          obtain ⟨hg, hdbg, hm | ⟨hm, hv, hnn⟩⟩ := hc
          · exact ld_glob (X := X.suite a ((a, oe3) :: (X.pn ++ pins))) S3 hg hm q hdbg
          · exact ld_blt (X := X.suite a ((a, oe3) :: (X.pn ++ pins))) S3 hg hm hv q hnn hdbg
        refine test (LM.here ?_)
        cases b with
        | true =>
          refine codeAny_handlers_suite_as ?_
          refine HandSPX.lands_againZ fl3 fun h4 fl4 up4 => ?_
          have J4 : Inv X pins σ' H' { s' with heap := h4 } := J.landed nb fl4.1 ((up.trans up3).trans up4) os ag
          obtain ⟨oe4, vs4, he4, hz4, hd4⟩ := fl4.there
          have S4 := J4.suite he4 hd4 na nL nF
          have lo4 : 2 < vs4.size → vs4[2]? = some .none := fun _ => hz4.2.2 vs4 hd4
          have hot4 : Hot1 (X.A.mark (some (.ref a))) (a, oe4) := ⟨rfl, vs4, hd4, hz4.2.2 vs4 hd4⟩
          refine store_ok (X := X.suite a ((a, oe4) :: (X.pn ++ pins))) (v := .ref a) S4 hN hi hloc rfl (fun s5 S5 => ?_) (.inr hln)
          refine wpAny_mono ((hsu a oe4 cls d (X.pn ++ pins) hz4 ⟨_, hd4⟩ hot4).run [] s5 _ H' _ S5 (hyes rfl a na)) (fun f s6 hsp => ?_) (fun _ _ z => False.elim z)
          have end_ : ∀ {σ6 : L2.St} {H6 : Hp} {Q : Shared → Prop}, Inv (X.suite a ((a, oe4) :: (X.pn ++ pins))) [] σ6 H6 s6 → (∀ s7, Inv X pins (σ6.set i none) H6 s7 → Q s7) →
              wpAny (model X.prog X.w) X.A (do bindName X.env n .none; unbindBehindTheSuite X.env n pos') (fun _ s7 => Q s7) X.xe s6 := fun {σ6 H6 Q} S6 hq => gone_ok (S6.unsuite ok) hN hi hln hq
          cases f with
          | next =>
            obtain ⟨σ6, H6, S6, q6⟩ := hsp
            exact end_ S6 fun s7 J7 => ⟨_, _, J7, q6⟩
          | brk =>
            obtain ⟨σ6, H6, S6, q6⟩ := hsp
            exact end_ S6 fun s7 J7 => ⟨_, _, J7, q6⟩
          | cont =>
            obtain ⟨σ6, H6, S6, q6⟩ := hsp
            exact end_ S6 fun s7 J7 => ⟨_, _, J7, q6⟩
          | ret u =>
            obtain ⟨v6, σ6, H6, S6, r6, q6⟩ := hsp
            exact end_ S6 fun s7 J7 => ⟨_, _, _, J7, r6, q6⟩
        | false =>
          show wpAny _ X.A (handleBy (.ref a) X.env hds2) _ _ _
          exact ih (hno rfl)
    exact go hh w
  · cases f with
    | next =>
      obtain ⟨σ', H', J', q⟩ := hsp
      exact wpAny_execs_nil ⟨σ', H', J'.ofTry ok, q⟩
    | brk =>
      obtain ⟨σ', H', J', q⟩ := hsp
      exact ⟨σ', H', J'.ofTry ok, q⟩
    | cont =>
      obtain ⟨σ', H', J', q⟩ := hsp
      exact ⟨σ', H', J'.ofTry ok, q⟩
    | ret u =>
      obtain ⟨v, σ', H', J', r, q⟩ := hsp
      exact ⟨v, σ', H', J'.ofTry ok, r, q⟩
end
/-- the heap without the error, its dict as an error's dict -/
def flown (H : Hp) (a : Addr) : Option (Addr × List (Str × V)) → Hp
  | none => delH H a
  | some (d, fs) => upd (delH H a) d (.xd fs)
/-- what gives a new error back is raised: its dict stays -/
theorem pmkN_of {X : Cx} {e : Expr} {te : TE} (hx : X.ex = []) (he : PE X e te) :
    L2N.PMk X e (fun σ H Q => te σ H fun x H1 => ∃ (a C : Addr) (o : Option (Addr × List (Str × V))), x = .ref a ∧ H1 a = some (exo a C (o.map (·.1))) ∧ (∀ z, o = some z → H1 z.1 = some (exd z.1 z.2)) ∧ Fr0 X.H_0 a ∧ Raises X (.ref C) ∧ Q (.ref C) (o.map (·.1)) (flown H1 a o)) := by
  intro pins s σ H Q I h
  refine wpAny_mono (he.run pins s σ H _ I h) (fun u s1 hu => ?_) fun _ _ z => z
  obtain ⟨v, H1, I1, r1, a, C, o, rfl, ha, hd, h0, hr, q⟩ := hu
  obtain rfl : u = Value.ref a := r1
  obtain ⟨t1, hob⟩ := exo_at I1.hok ha
  obtain ⟨G, gs, ga, J⟩ := I1.untrack ha h0 hx
  have key : ∃ H', Inv X pins σ H' { s1 with heap := G } ∧ H' a = none ∧ H' = flown H1 a o := by
    cases o with
    | none => exact ⟨_, J, delH_same, rfl⟩
    | some z =>
      obtain ⟨d, fs⟩ := z
      have hdd : H1 d = some (exd d fs) := hd _ rfl
      have hda : d ≠ a := fun z => by
        rw [z, ha] at hdd
        obtain ⟨mA, ⟨ob, es, ep, e1, e2, _⟩, _⟩ := exd_at I1.hok (show H1 d = some (exd d fs) from hd _ rfl)
        rw [z, hob] at e1
        cases e1
        cases e2
      have hdJ : delH H1 a d = some (exd d fs) := by rw [delH_ne hda]; exact hdd
      obtain ⟨mA, hns, hrl⟩ := exd_at J.hok hdJ
      obtain ⟨ob, es, ep, e1, e2⟩ := hns
      have J2 := J.write (t' := s1.toks) (x := d) (e := d) (o := .xd fs) (h' := G) (by rw [hdJ]; exact True.intro) (.inl rfl) (fun b u _ z => z) ⟨_, e1⟩ ⟨mA, ⟨ob, es, ep, e1, e2⟩, hrl⟩
      exact ⟨_, J2, by rw [upd_ne (Ne.symm hda), delH_same], rfl⟩
  obtain ⟨H', J', na, eH⟩ := key
  exact ⟨a, _, _, { s1 with heap := G }, H', .ref C, o.map (·.1), rfl, J', gs, ga, hob, ⟨rfl, rfl, fun vs z => by cases z; rfl⟩, rfl, rfl, na, rfl, I1.bare, hr, by rw [eH]; exact q⟩
/-- isinstance(e, c), e the error that the suite holds -/
def rIsS (K : PySem.W.Frag) (a : Addr) (cls : Value) (d : Option Addr) : List V → Hp → VK → Prop := fun xs H Q => ∃ (D : Addr) (c : V) (u : Value) (b : Bool), xs = [.ref a, c] ∧ cls = .ref D ∧ ClsV c u ∧ ExcC K D ∧ (∀ dd, d = some dd → ∃ fs, H dd = some (.xd fs)) ∧
  PySem.W.kitOne K (.ref D) u = some b ∧ Q (.bl b) H
theorem call_isS {X : Cx} {a : Addr} {oe : Obj} {cls : Value} {d : Option Addr} {pn : List (Addr × Obj)} (hz : Zc cls d oe) (hf : ∃ vs, oe.data = .fields vs) : CallR (X.suite a ((a, oe) :: pn)) (.builtin "isinstance") (rIsS X.K a cls d) := by
  intro pins s σ H xs us Q I r h
  obtain ⟨D, c, u, b, rfl, rfl, k, T, hd, e, q⟩ := h
  obtain ⟨u1, u2, rfl, r1, r2⟩ := vals2 r
  cases (show u1 = Value.ref a from r1)
  have e2 := k.eq r2
  subst e2
  obtain ⟨hget, _⟩ := I.pin (a, oe) (List.mem_append.mpr (.inl List.mem_cons_self))
  obtain ⟨vs, hv⟩ := hf
  obtain ⟨oc, od, oda, osl⟩ := oe
  obtain ⟨h1, h2⟩ := hz
  dsimp only at h1 h2 hv
  subst h1 h2 hv
  have J : ∃ ox od', PySem.W.InstAt s.heap a ox D od' := by
    cases od with
    | none => exact ⟨_, none, hget, rfl, rfl, trivial⟩
    | some dd =>
      obtain ⟨fs, hfs⟩ := hd dd rfl
      obtain ⟨mA, hns, hr⟩ := (show ObjOk X.prog X.w H s.heap dd (.xd fs) from I.hok dd _ hfs)
      obtain ⟨od', ho, hl⟩ := lookIn_ns hns
      exact ⟨_, some od', hget, rfl, rfl, ho⟩
  exact PySem.W.kia_one (PySem.W.xc_kit T.hg T.hk T.hs T.hd T.ha T.hn T.ht T.hm) I.kIn J e (fun z => nomatch z) fun tk => ⟨.bl b, H, I.tok tk, rfl, q⟩
end Xc

set_option Elab.async false
set_option linter.all false
set_option maxRecDepth 100000
set_option maxHeartbeats 0
/-! The states between the parts of the top, written by small functions of the text's own statements. -/
namespace Hd
open PySem PySem.W PySem.Calls PyProof.Rows HandSHeadRun
abbrev prg : Program := PySem.Challenge.pw_prefbench_k79_errors_as_classes
def tp (i : Nat) : Stmt := prg.main.body.getD i (.Pass ⟨0, 0, 0, 0⟩)
def kv (P : Params) (s : Str) (t : Nat) (v : Value) : DictEntry := { hash := PyData.keyHash P s, key := .str s t, val := v }
def num (i : Nat) : Value := .int i 0
def claim (t : Nat) : Value := .str "/claim/cut.py" t
def strsAt : List Str → Nat → List Value
  | [], _ => []
  | s :: r, t => .str s t :: strsAt r (t + 1)
def bfm (id : String) (v : Value) : Obj := { cls := .type "builtin_function_or_method", data := .fields #[.builtin id, v] }
def tup (l : List Value) : Obj := { cls := .type "tuple", data := .seq l.toArray }
def codeO (name qual file : Value) (line argc flags cells tab a b c : Value) (two : Bool) (tok : Nat) (file2 : Value) : Obj :=
  { cls := .type "code", data := .fields #[name, qual, file, line, argc, num 0, num 0, flags, cells, .bool two, num 181, tab, .none, a, b, c, num tok, line, file2] }
def frameO (code ns : Nat) (mv : Value) : Obj := { cls := .type "frame", slots := #[some (.ref code), some (.ref 3), some (.ref ns), none, some mv, none, some (.ref 0)] }
/-- a class of errors: what one statement of the text lays, from the address A and the token T on -/
def lays (P : Params) (A T : Nat) (mv : Value) (st : Stmt) : List Obj := match st with
  | .ClassDef name _ _ body _ _ _ _ _ sa pos =>
    let made (ns cl : Nat) : List Obj := [{ cls := .type "type", data := .cls { name := name, bases := [.ref 24], mro := [.ref cl, .ref 24, .type "ValueError", .type "Exception", .type "BaseException", .type "object"], ns := ns, qualname := name }, slots := #[some (.ref A), none, some (.str name T), some (.str name (T + 8)), some (.builtin "ValueError.__new__"), some (.bool true)] },
      { cls := .type "super", data := .fields #[.ref cl, .ref cl, .ref cl] }, bfm "object.__init_subclass__" (.ref cl)]
    let md := kv P "__module__" (T + 7) mv
    let qn := kv P "__qualname__" (T + 9) (.str name (T + 8))
    let fl := kv P "__firstlineno__" (T + 11) (.int pos.line (T + 10))
    let code : Obj := codeO (.str name (T + 2)) (.str name (T + 3)) (claim (T + 4)) (num pos.line) (num 0) (num 0) (.ref (A + 3)) (.ref (A + 4)) .none .none .none false (T + 5) (claim (T + 6))
    match body with
    | [.FunctionDef f args fb _ _ _ sc _ _ fpos] =>
      let m := sa.length
      let q : Str := name ++ ".__init__"
      let ini := kv P "__init__" (T + 18 + m) (.ref (A + 13))
      let sta := kv P "__static_attributes__" (T + 19 + 2 * m) (.ref (A + 14))
      [tup [.ref 24], bfm "type.__prepare__" (.type "type"),
       { cls := .type "dict", data := .dict #[md, qn, fl, ini, sta] 5 }, tup [], { cls := .none, data := .fields #[num fpos.line, num 4, .ref (A + 12)] }, code, frameO (A + 5) (A + 2) mv, tup [], { cls := .none, data := .fields #[] },
       tup (strsAt (args.args.map (·.arg)) (T + 15)), tup [], { cls := .none, data := .func { name := f, qualname := q, params := args, body := .stmts fb, scope := sc, globals := 0, closure := [], defaults := .none, kwdefaults := .none } },
       codeO (.str f (T + 12)) (.str q (T + 13)) (claim (T + 14)) (num fpos.line) (num (m + 1)) (num 3) (.ref (A + 7)) (.ref (A + 8)) (.ref (A + 9)) (.ref (A + 10)) (.ref (A + 11)) true (T + 16 + m) (claim (T + 17 + m)),
       { cls := .type "function", data := .func { name := f, qualname := q, params := args, body := .stmts fb, scope := sc, globals := 3, closure := [], defaults := .none, kwdefaults := .none, pyModule := mv, code := .ref (A + 12) } },
       tup (strsAt sa (T + 19 + m)),
       { cls := .type "dict", data := .dict #[md, fl, ini, sta, kv P "__doc__" (T + 20 + 2 * m) .none] 2 }] ++ made (A + 15) (A + 16)
    | _ =>
      let sta := kv P "__static_attributes__" (T + 12) (.ref (A + 7))
      [tup [.ref 24], bfm "type.__prepare__" (.type "type"),
       { cls := .type "dict", data := .dict #[md, qn, fl, sta] 4 }, tup [], { cls := .none, data := .fields #[] }, code, frameO (A + 5) (A + 2) mv, tup [],
       { cls := .type "dict", data := .dict #[md, fl, sta, kv P "__doc__" (T + 13) .none] 2 }] ++ made (A + 8) (A + 9)
  | _ => []
/-- what stands before a statement: the next address, the next token, the module's name -/
structure At where
  A : Nat
  T : Nat
  mv : Value
def hasInit : Stmt → Bool
  | .ClassDef _ _ _ [.FunctionDef ..] .. => true
  | _ => false
def next (a : At) (st : Stmt) : At := match st with
  | .ClassDef _ _ _ _ _ _ _ _ _ sa _ => if hasInit st then ⟨a.A + 19, a.T + 23 + 2 * sa.length, a.mv⟩ else ⟨a.A + 12, a.T + 16, a.mv⟩
  | .Assign _ (.Constant (.str s) _ _) _ => ⟨a.A, a.T + 2, .str s a.T⟩
  | _ => a
def clsOf (a : At) (st : Stmt) : Nat := if hasInit st then a.A + 16 else a.A + 9
def allObjs (P : Params) : List Stmt → At → List Obj
  | [], _ => []
  | st :: r, a => lays P a.A a.T a.mv st ++ allObjs P r (next a st)
def allGlob (P : Params) : List Stmt → At → List DictEntry
  | [], _ => []
  | st :: r, a => match st with
    | .ClassDef name _ _ _ _ _ _ _ _ sa _ => kv P name ((next a st).T - 1) (.ref (clsOf a st)) :: allGlob P r (next a st)
    | _ => allGlob P r (next a st)
def allTab : List Stmt → At → List Value
  | [], _ => []
  | st :: r, a => match st with
    | .ClassDef _ _ _ _ _ _ _ _ _ _ pos => num pos.line :: num 0 :: .ref (a.A + 5) :: allTab r (next a st)
    | _ => allTab r (next a st)
def allSub : List Stmt → At → List Value
  | [], _ => []
  | st :: r, a => match st with
    | .ClassDef .. => .ref (clsOf a st) :: allSub r (next a st)
    | _ => allSub r (next a st)
def lastAt : List Stmt → At → At
  | [], a => a
  | st :: r, a => lastAt r (next a st)
def at0 : At := ⟨28, 207, .str "prefbench.errors" 187⟩
/-- the statements behind the first two, up to the n-th -/
def some_ (n : Nat) : List Stmt := (prg.main.body.drop 2).take (n - 2)
def pe1 : Value := .str "prefbench.errors" 187
def objsOf (bo : Nat → Obj) (P : Params) (n : Nat) : List Obj :=
  let l := some_ n
  let g := allGlob P l at0
  [bo 0, bo 1, bo 2,
   { cls := .type "dict", data := .dict ([kv P "__name__" 165 (lastAt l at0).mv, kv P "__doc__" 166 .none, kv P "__package__" 167 .none, kv P "__loader__" 168 (.builtin "__main__.__loader__#opaque"), kv P "__spec__" 169 .none, kv P "__annotations__" 170 (.ref 6), kv P "__builtins__" 171 (.ref 4), kv P "__file__" 173 (claim 172), kv P "__cached__" 174 .none, kv P "PreferenceError" 206 (.ref 24)] ++ g).toArray (10 + g.length) },
   bo 4, bo 5, bo 6, bo 7, bo 8, bo 9, bo 10,
   tup [], { cls := .none, data := .fields (num 2 :: num 0 :: .ref 20 :: allTab l at0).toArray },
   codeO (.str "<module>" 182) (.str "<module>" 183) (claim 184) (num 1) (num 0) (num 0) (.ref 11) (.ref 12) .none .none .none false 185 (claim 186),
   { cls := .type "frame", slots := #[some (.ref 13), some (.ref 3), some (.ref 3), none, some (.str "__main__" 164), none, some (.ref 0)] },
   tup [.type "ValueError"], bfm "type.__prepare__" (.type "type"),
   { cls := .type "dict", data := .dict #[kv P "__module__" 196 pe1, kv P "__qualname__" 198 (.str "PreferenceError" 197), kv P "__firstlineno__" 200 (.int 2 199), kv P "__static_attributes__" 201 (.ref 22)] 4 },
   tup [], { cls := .none, data := .fields #[] }, codeO (.str "PreferenceError" 191) (.str "PreferenceError" 192) (claim 193) (num 2) (num 0) (num 0) (.ref 18) (.ref 19) .none .none .none false 194 (claim 195), frameO 20 17 pe1, tup [],
   { cls := .type "dict", data := .dict #[kv P "__module__" 196 pe1, kv P "__firstlineno__" 200 (.int 2 199), kv P "__static_attributes__" 201 (.ref 22), kv P "__weakref__" 203 (.ref 25), kv P "__doc__" 204 .none] 3 },
   { cls := .type "type", data := .cls { name := "PreferenceError", bases := [.type "ValueError"], mro := [.ref 24, .type "ValueError", .type "Exception", .type "BaseException", .type "object"], ns := 23, qualname := "PreferenceError", subclasses := allSub l at0 }, slots := #[some (.ref 15), none, some (.str "PreferenceError" 189), some (.str "PreferenceError" 197), some (.builtin "ValueError.__new__"), some (.bool true)] },
   { cls := .type "getset_descriptor", data := .fields #[.str "__weakref__" 202, .ref 24, .builtin "ExceptionGroup.__weakref__", .none] }, { cls := .type "super", data := .fields #[.ref 24, .ref 24, .ref 24] }, bfm "object.__init_subclass__" (.ref 24)] ++ allObjs P l at0
noncomputable def boots (P : Params) : Nat → Obj
  | 0 => boot_o_0 P
  | 1 => boot_o_1 P
  | 2 => boot_o_2 P
  | 4 => boot_o_4 P
  | 5 => boot_o_5 P
  | 6 => boot_o_6 P
  | 7 => boot_o_7 P
  | 8 => boot_o_8 P
  | 9 => boot_o_9 P
  | _ => boot_o_10 P
end Hd

set_option Elab.async false
set_option linter.all false
set_option maxRecDepth 100000
set_option maxHeartbeats 0
/-! A top cut into parts: the states between them are said, each part is one run of the kernel. -/
noncomputable section
namespace Hd
open PySem PySem.W PySem.Calls PyProof.Rows HandSHeadRun
/-- a part of the top, to its end -/
def segE (st : SharedT → Thread → Option (SharedT × Thread)) (n0 : Nat) (ann : Option Value) : Nat → SharedT → Thread → Option (Flow × SharedT × Code × Pos)
  | 0, _, _ => none
  | m + 1, s, t => match endAt 1 t with
    | some f => some (f, s, t.code, t.pos)
    | none => match stepOk n0 ann t with
      | false => none
      | true => match st s t with
        | some (s', t') => frS s' fun s' => segE st n0 ann m s' t'
        | none => none
theorem segE_ok {tb : String → Option Builtin} {p : Program} {w : World} {n0 : Nat} {ann : Option Value} : ∀ {m : Nat} {s s' : SharedT} {t : Thread} {f : Flow} {c : Code} {q : Pos},
    segE (stepT (denote tb) p w) n0 ann m s t = some (f, s', c, q) → segRun tb p w n0 ann 1 m s.abs t = some (f, s'.abs, c, q)
  | 0, _, _, _, _, _, _, h => by cases h
  | m + 1, s, s', t, f, c, q, h => by
    unfold segE at h
    unfold segRun
    cases he : endAt 1 t with
    | some g =>
      rw [he] at h
      cases h
      rfl
    | none =>
      rw [he] at h
      cases hk : stepOk n0 ann t with
      | false =>
        rw [hk] at h
        cases h
      | true =>
        rw [hk] at h
        have h2 : (match stepT (denote tb) p w s t with
          | some (s', t') => frS s' fun s' => segE (stepT (denote tb) p w) n0 ann m s' t'
          | none => none) = some (f, s', c, q) := h
        cases hs : stepT (denote tb) p w s t with
        | none =>
          rw [hs] at h2
          cases h2
        | some r =>
          obtain ⟨s2, t2⟩ := r
          rw [hs] at h2
          have h3 : (frS s2 fun s' => segE (stepT (denote tb) p w) n0 ann m s' t2) = some (f, s', c, q) := h2
          rw [frS_eq] at h3
          have z := segE_ok h3
          show (match step (denote tb) p w s.abs t with
            | .go s' t' => segRun tb p w n0 ann 1 m s' t'
            | .halt _ _ => none) = some (f, s'.abs, c, q)
          rw [stepT_spec hs]
          exact z
/-- the first steps, ahead of the text -/
def preE (st : SharedT → Thread → Option (SharedT × Thread)) (n0 : Nat) (ann : Option Value) : Nat → SharedT → Thread → Option (SharedT × Thread)
  | 0, s, t => some (s, t)
  | m + 1, s, t => match through t with
    | true => none
    | false => match stepOk n0 ann t with
      | false => none
      | true => match st s t with
        | some (s', t') => preE st n0 ann m s' t'
        | none => none
theorem preE_ok {tb : String → Option Builtin} {p : Program} {w : World} {n0 : Nat} {ann : Option Value} : ∀ {m : Nat} {s s' : SharedT} {t t' : Thread},
    preE (stepT (denote tb) p w) n0 ann m s t = some (s', t') → topGo tb p w n0 ann m s.abs t = some (s'.abs, t')
  | 0, _, _, _, _, h => by cases h; rfl
  | m + 1, s, s', t, t', h => by
    unfold preE at h
    unfold topGo
    cases he : through t with
    | true =>
      rw [he] at h
      cases h
    | false =>
      rw [he] at h
      cases hk : stepOk n0 ann t with
      | false =>
        rw [hk] at h
        cases h
      | true =>
        rw [hk] at h
        have h2 : (match stepT (denote tb) p w s t with
          | some (s', t') => preE (stepT (denote tb) p w) n0 ann m s' t'
          | none => none) = some (s', t') := h
        cases hs : stepT (denote tb) p w s t with
        | none =>
          rw [hs] at h2
          cases h2
        | some r =>
          obtain ⟨s2, t2⟩ := r
          rw [hs] at h2
          have z := preE_ok (show preE (stepT (denote tb) p w) n0 ann m s2 t2 = some (s', t') from h2)
          show (match step (denote tb) p w s.abs t with
            | .go s' t' => topGo tb p w n0 ann m s' t'
            | .halt _ _ => none) = some (s'.abs, t')
          rw [stepT_spec hs]
          exact z
/-- a list laid out as the tree of its places -/
def apart : List Obj → List Obj × List Obj
  | [] => ([], [])
  | a :: r => (a :: (apart r).2, (apart r).1)
def bt : Nat → List Obj → BT
  | 0, _ => .nil
  | _ + 1, [] => .nil
  | k + 1, o :: r => .node o (bt k (apart r).1) (bt k (apart r).2)
/-- the state ahead of the n-th statement -/
def stN (n A T : Nat) (w : World) (os : OsState) : SharedT := ⟨bt 12 (objsOf (boots w.params) w.params n), A, {}, #[], {}, T, os⟩
def env0 : Env := { scope := prg.main.scope, locals := mainNs, globals := mainNs, cells := [], code := .ref 13, frame := some 14 }
def cE : Code := .body (behindTheImports prg) env0
abbrev q0 : Pos := ⟨0, 0, 0, 0⟩
def grp (i j : Nat) : List Stmt := ((behindTheImports prg).take j).drop i
abbrev stp (w : World) := stepQ (denQ tabQ) prg w
end Hd
end

set_option Elab.async false
set_option linter.all false
set_option maxRecDepth 100000
set_option maxHeartbeats 0
noncomputable section
namespace Hd
open PySem PySem.W PySem.Calls PyProof.Rows HandSHeadRun
def bootL (P : Params) : List Obj := [boot_o_0 P, boot_o_1 P, boot_o_2 P, boot_o_3 P, boot_o_4 P, boot_o_5 P, boot_o_6 P, boot_o_7 P, boot_o_8 P, boot_o_9 P, boot_o_10 P]
def preL (P : Params) : List Obj := bootL P ++ [tup [], { cls := .none, data := .fields #[] },
   codeO (.str "<module>" 182) (.str "<module>" 183) (claim 184) (num 1) (num 0) (num 0) (.ref 11) (.ref 12) .none .none .none false 185 (claim 186),
   { cls := .type "frame", slots := #[some (.ref 13), some (.ref 3), some (.ref 3), none, some (.str "__main__" 164), none, some (.ref 0)] }]
def stB (w : World) (os : OsState) : SharedT := ⟨bt 12 (bootL w.params), 11, {}, #[], boot_drawn, boot_toks, os⟩
def stP (w : World) (os : OsState) : SharedT := ⟨bt 12 (preL w.params), 15, {}, #[], {}, 187, os⟩
theorem boot_tree (P : Params) : putAll (boot_heap P).objs.toList .nil 0 = some (bt 12 (bootL P), 11) := by kernel_rfl
theorem boot_life (P : Params) : (boot_heap P).life = {} := by kernel_rfl
theorem boot_size (P : Params) : (boot_heap P).objs.size = 11 := by kernel_rfl
theorem stB_abs (w : World) (os : OsState) : (stB w os).abs = ⟨boot_heap w.params, #[], boot_drawn, boot_toks, os⟩ := by
  have e := putAll_heap (boot_tree w.params)
  rw [boot_life] at e
  show (⟨absHeap (bt 12 (bootL w.params)) 11 {}, #[], boot_drawn, boot_toks, os⟩ : Shared) = _
  rw [e]
theorem r0 (w : World) (os : OsState) : preE (stp w) 11 (bootAnn w) 12 (stB w os) (topStub prg) = some (stP w os, ⟨denQ tabQ cE, cE, q0, [topFrame q0]⟩) := by kernel_rfl
theorem r1 (w : World) (os : OsState) : segE (stp w) 11 (bootAnn w) 1 (stP w os) (blockOf (behindTheImports prg) env0 cE q0 [topFrame q0]) = some (.next, stP w os, cE, q0) := by kernel_rfl
theorem r2 (w : World) (os : OsState) : segE (stp w) 11 (bootAnn w) 1000 (stP w os) (piecesOf (grp 0 2) env0 cE q0 [topFrame q0]) = some (.next, stN 2 28 207 w os, cE, ⟨2, 0, 3, 8⟩) := by kernel_rfl
theorem parts : behindTheImports prg = grp 0 2 ++ (grp 2 20 ++ (grp 20 38 ++ (grp 38 57 ++ (grp 57 76 ++ grp 76 96)))) := by kernel_rfl
end Hd
end

set_option Elab.async false
set_option linter.all false
set_option maxRecDepth 100000
set_option maxHeartbeats 0
noncomputable section
namespace Hd
open PySem PySem.W PySem.Calls PyProof.Rows HandSHeadRun
theorem r3 (w : World) (os : OsState) : segE (stp w) 11 (bootAnn w) 6000 (stN 2 28 207 w os) (piecesOf (grp 2 20) env0 cE ⟨2, 0, 3, 8⟩ [topFrame q0]) = some (.next, stN 20 370 657 w os, cE, ⟨72, 0, 75, 26⟩) := by kernel_rfl
end Hd
end

set_option Elab.async false
set_option linter.all false
set_option maxRecDepth 100000
set_option maxHeartbeats 0
noncomputable section
namespace Hd
open PySem PySem.W PySem.Calls PyProof.Rows HandSHeadRun
theorem r4 (w : World) (os : OsState) : segE (stp w) 11 (bootAnn w) 6000 (stN 20 370 657 w os) (piecesOf (grp 20 38) env0 cE ⟨72, 0, 75, 26⟩ [topFrame q0]) = some (.next, stN 38 712 1107 w os, cE, ⟨144, 0, 147, 26⟩) := by kernel_rfl
end Hd
end

set_option Elab.async false
set_option linter.all false
set_option maxRecDepth 100000
set_option maxHeartbeats 0
noncomputable section
namespace Hd
open PySem PySem.W PySem.Calls PyProof.Rows HandSHeadRun
theorem r5 (w : World) (os : OsState) : segE (stp w) 11 (bootAnn w) 6000 (stN 38 712 1107 w os) (piecesOf (grp 38 57) env0 cE ⟨144, 0, 147, 26⟩ [topFrame q0]) = some (.next, stN 57 1054 1561 w os, cE, ⟨218, 0, 221, 32⟩) := by kernel_rfl
end Hd
end

set_option Elab.async false
set_option linter.all false
set_option maxRecDepth 100000
set_option maxHeartbeats 0
noncomputable section
namespace Hd
open PySem PySem.W PySem.Calls PyProof.Rows HandSHeadRun
theorem r6 (w : World) (os : OsState) : segE (stp w) 11 (bootAnn w) 6000 (stN 57 1054 1561 w os) (piecesOf (grp 57 76) env0 cE ⟨218, 0, 221, 32⟩ [topFrame q0]) = some (.next, stN 76 1382 2005 w os, cE, ⟨295, 0, 295, 8⟩) := by kernel_rfl
end Hd
end

set_option Elab.async false
set_option linter.all false
set_option maxRecDepth 100000
set_option maxHeartbeats 0
noncomputable section
namespace Hd
open PySem PySem.W PySem.Calls PyProof.Rows HandSHeadRun
theorem stp_eq (w : World) : stp w = stepT (denote treeTable) prg w := by
  show stepQ (denQ tabQ) prg w = _
  rw [stepQ_eq, denQ_eq, tabQ_eq]
theorem seg_of {w : World} {n0 m : Nat} {ann : Option Value} {s s' : SharedT} {t : Thread} {f : Flow} {c : Code} {q : Pos} (h : segE (stp w) n0 ann m s t = some (f, s', c, q)) : segRun treeTable prg w n0 ann 1 m s.abs t = some (f, s'.abs, c, q) := by
  rw [stp_eq] at h
  exact segE_ok h
/-- the whole top, but its last part -/
theorem chain (w : World) (os : OsState) {N : Nat} {r : Shared} (k : topRun treeTable prg w 11 (bootAnn w) N (stN 76 1382 2005 w os).abs (restOf (grp 76 96) env0 cE ⟨295, 0, 295, 8⟩ [topFrame q0]) = some r) :
    topRun treeTable prg w (boot_heap w.params).objs.size (bootAnn w) (12 + (1 + (1000 + (6000 + (6000 + (6000 + (6000 + N))))))) ⟨boot_heap w.params, #[], boot_drawn, boot_toks, os⟩ (topStub prg) = some r := by
  rw [boot_size, ← stB_abs w os]
  have h0 := r0 w os
  rw [stp_eq, ← denQ_eq, ← tabQ_eq] at h0
  refine go_top (preE_ok h0) ?_
  refine piece_block (q := q0) (seg_of (r1 w os)) ?_
  rw [parts]
  exact piece_app (seg_of (r2 w os)) (piece_app (seg_of (r3 w os)) (piece_app (seg_of (r4 w os)) (piece_app (seg_of (r5 w os)) (piece_app (seg_of (r6 w os)) k))))
/-- the looks behind the top, by one run of its last part -/
theorem left_parts {q : Program} {loose : List Str} {Xt : Shared → Bool} {α : Type} {Yf : Shared → α} {Ya : World → α} {N M : Nat}
    (e : opening prg = plainProg prg.main.scope.names) (hN : Nat.ble 600 N = true) (f : ∀ s, fenceModules? prg s = some s) (le : Nat.ble (12 + (1 + (1000 + (6000 + (6000 + (6000 + (6000 + M))))))) N = true)
    (run : ∀ (w : World) (os : OsState), (goF (stp w) 11 (bootAnn w) M (stN 76 1382 2005 w os) (restOf (grp 76 96) env0 cE ⟨295, 0, 295, 8⟩ [topFrame q0])).map (fun s => (looksF prg (boot_heap w.params) s.abs, openSeen q loose (importedModules prg.main.body) Xt true s.abs, Yf s.abs)) = some (true, openGood q loose, Ya w)) :
    LeftO prg q loose Xt Yf Ya N true := fun w => by
  obtain ⟨⟨h, gs, d, k, os⟩, a, a'⟩ := Option.map_eq_some_iff.mp (boot_open e hN f w)
  obtain ⟨rfl, rfl, rfl, rfl⟩ : h = boot_heap w.params ∧ gs = Array.mk [] ∧ d = boot_drawn ∧ k = boot_toks := by simpa using a'
  obtain ⟨s, hs, hv⟩ := Option.map_eq_some_iff.mp (run w os)
  obtain ⟨l1, l2, l3⟩ : _ ∧ _ ∧ _ := by simpa only [Prod.mk.injEq] using hv
  rw [stp_eq] at hs
  have r := topRun_mono (N - (12 + (1 + (1000 + (6000 + (6000 + (6000 + (6000 + M)))))))) _ _ _ _ (chain w os (goF_ok hs))
  rw [show (12 + (1 + (1000 + (6000 + (6000 + (6000 + (6000 + M))))))) + (N - (12 + (1 + (1000 + (6000 + (6000 + (6000 + (6000 + M)))))))) = N by have := Nat.le_of_ble_eq_true le; omega] at r
  have l1' : (staticsOk (importedModules prg.main.body) (boot_heap w.params) s.abs.heap && namesBound prg s.abs.heap && gensDone s.abs && laidKept (boot_heap w.params) s.abs.heap) = true := l1
  have t : topFrom treeTable prg w N ⟨boot_heap w.params, Array.mk [], boot_drawn, boot_toks, os⟩ = some s.abs := by
    unfold topFrom
    dsimp only
    rw [boot_ns]
    show (topRun treeTable prg w (boot_heap w.params).objs.size (bootAnn w) N ⟨boot_heap w.params, #[], boot_drawn, boot_toks, os⟩ (topStub prg)).bind _ = _
    rw [r]
    show (match staticsOk (importedModules prg.main.body) (boot_heap w.params) s.abs.heap && namesBound prg s.abs.heap && gensDone s.abs && laidKept (boot_heap w.params) s.abs.heap with | true => some s.abs | false => none) = _
    rw [l1']
  unfold openEnds
  rw [a]
  show (topFrom treeTable prg w N _).map _ = _
  rw [t]
  exact congrArg some (Prod.ext l2 l3)
end Hd
end

set_option Elab.async false
set_option linter.all false
set_option maxRecDepth 100000
set_option maxHeartbeats 0
noncomputable section
namespace Hd
open PySem PySem.W PySem.Calls PyProof.Rows HandSHeadRun
/-- the law's defs: the statement, the function's address, its first token, the next one's, whether it lays seven objects -/
def ldefs : List (Nat × Nat × Nat × Nat × Bool) := [(76, 1388, 2005, 2013, true), (77, 1395, 2013, 2020, true), (78, 1402, 2020, 2029, true), (79, 1407, 2029, 2035, false), (80, 1414, 2035, 2043, true), (81, 1421, 2043, 2051, true), (82, 1428, 2051, 2060, true), (83, 1435, 2060, 2068, true), (84, 1442, 2068, 2078, true), (85, 1449, 2078, 2086, true), (86, 1454, 2086, 2092, false), (87, 1459, 2092, 2098, false), (88, 1466, 2098, 2108, true), (89, 1473, 2108, 2115, true), (90, 1480, 2115, 2123, true), (91, 1485, 2123, 2129, false), (92, 1490, 2129, 2135, false), (93, 1497, 2135, 2147, true), (94, 1504, 2147, 2157, true), (95, 1511, 2157, 2166, true)]
def lawMod : Value := .str "law_prefbench_k79_errors_as_classes" 2003
def fnObj (st : Stmt) (f : Nat) : Obj := match st with
  | .FunctionDef n a b _ _ _ sc _ _ _ => { cls := .type "function", data := .func { name := n, qualname := n, params := a, body := .stmts b, scope := sc, globals := 3, closure := [], defaults := .none, kwdefaults := .none, pyModule := lawMod, code := .ref (f - 1) } }
  | _ => { cls := .none }
def fnCode (st : Stmt) (f T E : Nat) (seven : Bool) : Obj := match st with
  | .FunctionDef n a _ _ _ _ _ _ _ pos => if seven then codeO (.str n T) (.str n (T + 1)) (claim (T + 2)) (num pos.line) (num a.args.length) (num 3) (.ref (f - 6)) (.ref (f - 5)) (.ref (f - 4)) (.ref (f - 3)) (.ref (f - 2)) true (E - 3) (claim (E - 2))
      else codeO (.str n T) (.str n (T + 1)) (claim (T + 2)) (num pos.line) (num a.args.length) (num 3) (.ref (f - 4)) (.ref (f - 3)) .none .none (.ref (f - 2)) true (E - 3) (claim (E - 2))
  | _ => { cls := .none }
def defName : Stmt → Str
  | .FunctionDef n .. => n
  | .ClassDef n .. => n
  | _ => Str.empty
def globO (P : Params) : Obj :=
  let l := some_ 76
  let g := allGlob P l at0 ++ ldefs.map fun (i, f, _, E, _) => kv P (defName (tp i)) (E - 1) (.ref f)
  { cls := .type "dict", data := .dict ([kv P "__name__" 165 lawMod, kv P "__doc__" 166 .none, kv P "__package__" 167 .none, kv P "__loader__" 168 (.builtin "__main__.__loader__#opaque"), kv P "__spec__" 169 .none, kv P "__annotations__" 170 (.ref 6), kv P "__builtins__" 171 (.ref 4), kv P "__file__" 173 (claim 172), kv P "__cached__" 174 .none, kv P "PreferenceError" 206 (.ref 24)] ++ g).toArray (10 + g.length) }
def lawPart : Frag := ldefs.flatMap fun (i, f, T, E, s) => [(f, fnObj (tp i) f), (f - 1, fnCode (tp i) f T E s)]
/-- of a class's objects those that are read: its namespace, itself, its __init__ and that one's code -/
def pick (A : Nat) (l : List Obj) (init : Bool) : Frag := if init then [(A + 16, l.getD 16 { cls := .none }), (A + 15, l.getD 15 { cls := .none }), (A + 13, l.getD 13 { cls := .none }), (A + 12, l.getD 12 { cls := .none })] else [(A + 9, l.getD 9 { cls := .none }), (A + 8, l.getD 8 { cls := .none })]
def clsPart (P : Params) : List Stmt → At → Frag
  | [], _ => []
  | st :: r, a => (match st with
    | .ClassDef .. => pick a.A (lays P a.A a.T a.mv st) (hasInit st)
    | _ => []) ++ clsPart P r (next a st)
def kAd : List Stmt → At → List Addr
  | [], _ => []
  | st :: r, a => (match st with
    | .ClassDef .. => if hasInit st then [a.A + 16, a.A + 15, a.A + 13, a.A + 12] else [a.A + 9, a.A + 8]
    | _ => []) ++ kAd r (next a st)
/-- the written part that the proof reads -/
def kOf (P : Params) : Frag := [(3, globO P), (24, (objsOf (boots P) P 76).getD 24 { cls := .none }), (23, (objsOf (boots P) P 76).getD 23 { cls := .none })] ++ lawPart ++ clsPart P (some_ 76) at0
def kL : List Addr := [3, 24, 23] ++ (ldefs.flatMap fun (_, f, _) => [f, f - 1]) ++ kAd (some_ 76) at0
theorem kL_of (w : World) : (kOf w.params).map (·.1) = kL := by kernel_rfl
def look (g : Addr → Option Obj) : List Addr → List (Option Obj)
  | [] => []
  | a :: r => g a :: look g r
def want : Frag → List (Option Obj)
  | [] => []
  | (_, o) :: r => some o :: want r
theorem look_in {g : Addr → Option Obj} : ∀ {K : Frag} {as : List Addr}, K.map (·.1) = as → look g as = want K → ∀ a o, K.lookup a = some o → g a = some o
  | [], _, _, _, a, o, h => by cases h
  | (b, u) :: r, [], q, _, a, o, h => by cases q
  | (b, u) :: r, c :: as, q, e, a, o, h => by
    have q1 : b = c := (List.cons.inj q).1
    have q2 : r.map (·.1) = as := (List.cons.inj q).2
    have e1 : g b = some u := by rw [q1]; exact (List.cons.inj e).1
    have e2 : look g as = want r := (List.cons.inj e).2
    have h2 : (match a == b with | true => some u | false => r.lookup a) = some o := h
    cases z : (a == b) with
    | true =>
      rw [z] at h2
      rw [beq_iff_eq.mp z, e1]
      exact h2
    | false =>
      rw [z] at h2
      exact look_in q2 e2 a o h2
/-- what stands behind the top is K of the world -/
def hook (K : World → Frag) (as : List Addr) (h0 : ∀ w, (K w).map (·.1) = as) : Hook where
  α := List (Option Obj)
  obs := fun s => look s.heap.get? as
  val := fun w => want (K w)
  says := fun w h => (K w).In h
  of := fun w s e => look_in (K := K w) (h0 w) e
  keeps := fun w h h' hK k => PySem.W.Frag.In.keeps hK k
def loose0 : List PySem.Str := [PySem.Str.ofString "PreferenceError", PySem.Str.ofString "InvalidAssignment", PySem.Str.ofString "InvalidBounds", PySem.Str.ofString "InvalidChances", PySem.Str.ofString "InvalidCount", PySem.Str.ofString "InvalidExamples", PySem.Str.ofString "InvalidFamilies", PySem.Str.ofString "InvalidFrame", PySem.Str.ofString "InvalidGains", PySem.Str.ofString "InvalidGoals", PySem.Str.ofString "InvalidImportances", PySem.Str.ofString "InvalidIndex", PySem.Str.ofString "InvalidItem", PySem.Str.ofString "InvalidLevels", PySem.Str.ofString "InvalidLines", PySem.Str.ofString "InvalidName", PySem.Str.ofString "InvalidNet", PySem.Str.ofString "InvalidNets", PySem.Str.ofString "InvalidNumber", PySem.Str.ofString "InvalidOrder", PySem.Str.ofString "InvalidOutcome", PySem.Str.ofString "InvalidOutcomes", PySem.Str.ofString "InvalidPairs", PySem.Str.ofString "InvalidParent", PySem.Str.ofString "InvalidParents", PySem.Str.ofString "InvalidPart", PySem.Str.ofString "InvalidPlace", PySem.Str.ofString "InvalidProducts", PySem.Str.ofString "InvalidProfile", PySem.Str.ofString "InvalidRanking"]
def loose1 : List PySem.Str := [PySem.Str.ofString "InvalidReport", PySem.Str.ofString "InvalidRing", PySem.Str.ofString "InvalidRow", PySem.Str.ofString "InvalidSketch", PySem.Str.ofString "InvalidSpace", PySem.Str.ofString "InvalidStatement", PySem.Str.ofString "InvalidStrata", PySem.Str.ofString "InvalidSwaps", PySem.Str.ofString "InvalidText", PySem.Str.ofString "InvalidTheory", PySem.Str.ofString "InvalidTree", PySem.Str.ofString "InvalidValue", PySem.Str.ofString "InvalidValues", PySem.Str.ofString "InvalidVariable", PySem.Str.ofString "InvalidVariables", PySem.Str.ofString "InvalidVoter", PySem.Str.ofString "InvalidWay", PySem.Str.ofString "InvalidWorths", PySem.Str.ofString "All", PySem.Str.ofString "ArrowRing", PySem.Str.ofString "Cyclic", PySem.Str.ofString "Even", PySem.Str.ofString "Full", PySem.Str.ofString "NoName", PySem.Str.ofString "NoNet", PySem.Str.ofString "NoTheory", PySem.Str.ofString "NotFirst", PySem.Str.ofString "NotLocal", PySem.Str.ofString "NotNet", PySem.Str.ofString "NotReduced"]
def loose2 : List PySem.Str := [PySem.Str.ofString "NotSeparable", PySem.Str.ofString "NotSwap", PySem.Str.ofString "NotTwo", PySem.Str.ofString "NothingToRedo", PySem.Str.ofString "NothingToUndo", PySem.Str.ofString "Ringed", PySem.Str.ofString "Same", PySem.Str.ofString "Taken", PySem.Str.ofString "Tied", PySem.Str.ofString "Told", PySem.Str.ofString "TooLarge", PySem.Str.ofString "TooMany", PySem.Str.ofString "Unapart", PySem.Str.ofString "_law_cell", PySem.Str.ofString "_law_box", PySem.Str.ofString "_law_take", PySem.Str.ofString "_law_same", PySem.Str.ofString "_law_by_place", PySem.Str.ofString "_law_by_name", PySem.Str.ofString "_law_ones", PySem.Str.ofString "_law_kept_ones", PySem.Str.ofString "_law_twos", PySem.Str.ofString "_law_kept_twos", PySem.Str.ofString "_law_places_low", PySem.Str.ofString "_law_places_high", PySem.Str.ofString "_law_value", PySem.Str.ofString "_law_things", PySem.Str.ofString "_law_grown", PySem.Str.ofString "_law_classes_right", PySem.Str.ofString "_law_values_right"]
def loose3 : List PySem.Str := [PySem.Str.ofString "_law_within_right", PySem.Str.ofString "_law_caught_right"]
def loose : List PySem.Str := loose0 ++ loose1 ++ loose2 ++ loose3
end Hd
end

set_option Elab.async false
set_option linter.all false
set_option maxRecDepth 100000
set_option maxHeartbeats 0
noncomputable section
namespace Hd
open PySem PySem.W PySem.Calls PyProof.Rows HandSHeadRun
abbrev vw : Program := PySem.W.view prg [95]
abbrev hk79 : Hook := hook (fun w => kOf w.params) kL kL_of
theorem run79 (w : World) (os : OsState) : (goF (stp w) 11 (bootAnn w) 2000 (stN 76 1382 2005 w os) (restOf (grp 76 96) env0 cE ⟨295, 0, 295, 8⟩ [topFrame q0])).map (fun s => (looksF prg (boot_heap w.params) s.abs, seenQ vw loose (importedModules prg.main.body) (fun s => xlAt vw [] s && recOk (OpenLaw.row PySem.Challenge.rw_prefbench_k79_errors_as_classes).toRowW.records s) s.abs, look (getT s) kL))
    = some (true, openGood vw loose, want (kOf w.params)) := by kernel_rfl
end Hd
end

set_option Elab.async false
set_option linter.all false
set_option maxRecDepth 100000
set_option maxHeartbeats 0
noncomputable section
namespace Hd
open PySem PySem.W PySem.Calls PyProof.Rows HandSHeadRun
abbrev row : OpenRow := OpenLaw.row PySem.Challenge.rw_prefbench_k79_errors_as_classes
theorem holds79 (call : WalkO vw loose (XL vw []) (fun w h => (kOf w.params).In h) row.toRowW (topDef prg 95) [] fun f vs => PySem.call f vs) (hw : row.toRowW.promised) : row.Holds := by
  have eo : ∀ s : SharedT, look (getT s) kL = look s.abs.heap.get? kL := fun s => by
    have e : getT s = s.abs.heap.get? := funext (getT_eq s)
    rw [e]
  have left : LeftO prg vw loose (fun s => xlAt vw [] s && recOk row.toRowW.records s) hk79.obs hk79.val (2000 + 26000) true :=
    left_parts (M := 2000) (by kernel_rfl) (by decide +kernel) (fun s => by kernel_rfl) (by decide +kernel) fun w os => by
      have z := run79 w os
      simp only [eo] at z
      simp only [seenQ_eq]
      exact z
  exact holds_open (r := row) (q := vw) (loose := loose) (XP := XL vw []) (YP := hk79.says) (d := topDef prg 95) (kwd := []) left hk79.of hk79.keeps (fun s z => xl_of s (Bool.and_eq_true_iff.mp z).1) XL.keeps
    (by kernel_rfl) (by kernel_rfl) (by kernel_rfl) (fun s z => recFacts_of (Bool.and_eq_true_iff.mp z).2) (by first | rfl | decide +kernel) (by first | assumption | decide +kernel) (by decide +kernel) ⟨rfl, rfl, rfl, rfl, rfl, by decide +kernel⟩ hw call
end Hd
end

set_option Elab.async false
set_option linter.all false
set_option maxRecDepth 100000
set_option maxHeartbeats 4000000
namespace Ka
open PySem PySem.Spec PyProof.Rows L2
def tp (i : Nat) : Stmt := PySem.Challenge.pw_prefbench_k79_errors_as_classes.main.body.getD i (.Pass ⟨0, 0, 0, 0⟩)
abbrev FnP (K : PySem.W.Frag) (x : Str) (st : Stmt) (f : Addr) (fd : FuncData) : Prop := FunD K x x (defArgs st) (defBody st) (defScope st) [] [] f fd
/-- a def of the text as a caller knows it -/
structure Has (K : PySem.W.Frag) (mg : Str → Option Value) (x : Str) (f : Addr) (fd : FuncData) (ps : List Str) : Prop where
  g : mg x = some (.ref f)
  kp : PySem.W.keepIn K (.ref f) = true
  b : Binds K fd ps []
/-- the built-in names that stand free -/
structure Free (mg : Str → Option Value) : Prop where
  len : mg "len" = none
  int : mg "int" = none
  sum : mg "sum" = none
  abs : mg "abs" = none
  isi : mg "isinstance" = none
  range : mg "range" = none
  list : mg "list" = none
  str : mg "str" = none
  max : mg "max" = none
  min : mg "min" = none
  bool : mg "bool" = none
  dict : mg "dict" = none
  tuple : mg "tuple" = none
  ve : mg "ValueError" = none
/-- the box of draws -/
def BoxAt (H : Hp) (b : Addr) : Prop := ∃ (a : Int) (g : Bool) (x c : Int), H b = some (.lst [.int a, .bl g, .int x, .int c]) ∧ 0 ≤ a ∧ 0 ≤ x ∧ x < 2147483629
/-- what stands beside the box stays -/
def off (b : Addr) (H : Hp) : Hp := fun c => if c = b then none else H c
theorem off_b {b : Addr} {H : Hp} : off b H b = none := if_pos rfl
theorem off_ne {b c : Addr} {H : Hp} (h : c ≠ b) : off b H c = H c := if_neg h
theorem of_off {b c : Addr} {H : Hp} {u : HO} (h : off b H c = some u) : c ≠ b ∧ H c = some u := by
  have hc : c ≠ b := fun z => by rw [z, off_b] at h; cases h
  exact ⟨hc, by have e := off_ne (H := H) hc; rw [e] at h; exact h⟩
def BoxTo (b : Addr) (H H' : Hp) : Prop := BoxAt H' b ∧ Same (off b H) (off b H')
theorem BoxTo.trans {b : Addr} {H H1 H2 : Hp} (x : BoxTo b H H1) (y : BoxTo b H1 H2) : BoxTo b H H2 := ⟨y.1, x.2.trans y.2⟩
theorem same_upd {b : Addr} {H : Hp} {o : HO} : Same (off b H) (off b (upd H b o)) := fun c u e => by
  obtain ⟨hc, e⟩ := of_off e
  rw [off_ne hc, upd_ne hc]
  exact e
theorem same_off {b : Addr} {H H' : Hp} (s : Same H H') : Same (off b H) (off b H') := fun c u e => by
  obtain ⟨hc, e⟩ := of_off e
  rw [off_ne hc]
  exact s c u e
theorem off_same {b : Addr} {H : Hp} : Same (off b H) H := fun c u e => (of_off e).2
theorem same_new {H : Hp} {p : Addr} {o : HO} (h : H p = none) : Same H (upd H p o) := fun c u e => by
  rw [upd_ne (ne_of_none e h)]
  exact e
theorem BoxAt.same {b : Addr} {H H' : Hp} (s : Same H H') (h : BoxAt H b) : BoxAt H' b := by
  obtain ⟨a, g, x, c, e, q⟩ := h
  exact ⟨a, g, x, c, s _ _ e, q⟩
theorem BoxTo.of {b : Addr} {H H' : Hp} (h : BoxAt H b) (s : Same H H') : BoxTo b H H' := ⟨h.same s, same_off s⟩
section
variable {P : Program} {w : World} {K : PySem.W.Frag} {mg : Str → Option Value} {base : Heap}
/-! ### _law_cell -/
abbrev sCell : Stmt := tp 76
def spCell (K : PySem.W.Frag) : Sp := fun vs H Q _ => ∃ (a : Addr) (ns : List Int) (k : Nat), vs = [.ref a, .int k] ∧ SqL K H a (ns.map V.int) ∧ ∀ i H', Same H H' → Q (.int i) H'
theorem scCell : FnScope ["script", "k"] ["script", "k"] (defScope sCell) := ⟨rfl, rfl, rfl, by decide +kernel, rfl, by decide +kernel, by decide +kernel⟩
theorem ok_cell {f : Addr} {fd : FuncData} (F : FnP K "_law_cell" sCell f fd) (T : Free mg) : FnOk P w K mg base CX0 1 f fd ["script", "k"] (spCell K) := by
  refine F.ok scCell (fun vs H Q E h => ?_) (fun cdv A outer s H vs Q E hr h => ?_)
  · obtain ⟨a, ns, k, rfl, _⟩ := h
    rfl
  · obtain ⟨a, ns, k, rfl, hS, kq⟩ := h
    refine ⟨_, pss_one (ps_ret (pe_ifExp (pt_cmpR op_lt (pv 1) (pe_callB call_len_seq (by rfl) T.len PySem.boot_len (pa_cons (pv 0) pa_nil)) (nomark _)) (pe_ix ix_list (pv 0) (pv 1) (fun _ _ => rfl))
      (pe_op op_add (pe_op op_mul pe_int (pv 1)) (pe_op op_modN (pe_callTy call_int1 (by rfl) T.int (by decide +kernel) (pa_cons (pe_callB (cr_sum rfl) (by rfl) T.sum (by decide +kernel) (pa_cons (pe_slice sl_list (pv 0) po_none (po_some pe_int)) pa_nil)) pa_nil)) pe_int)))), ?_⟩
    refine ⟨_, rfl, _, rfl, a, _, rfl, .inl hS, _, _, rfl, rfl, _, rfl, ?_⟩
    refine ite2 (fun c => ?_) (fun c => ?_)
    · have c' : (k : Int) < ((ns.map V.int).length : Int) := of_decide_eq_true c
      have hk : k < (ns.map V.int).length := by omega
      obtain ⟨z, hz⟩ : ∃ z, (ns.map V.int)[k]? = some (V.int z) := by
        rw [List.getElem?_map]
        rw [List.length_map] at hk
        exact ⟨ns[k], by rw [List.getElem?_eq_getElem hk]; rfl⟩
      exact ⟨_, rfl, _, rfl, a, _, _, _, rfl, rfl, hS, atI_nat hz, kq z H (Same.refl H)⟩
    · refine ⟨_, rfl, _, _, rfl, rfl, .inl ⟨by decide, by decide⟩, _, rfl, _, rfl, a, _, rfl, hS, fun p hp => ?_⟩
      have e : cutV (ns.map V.int) none (some 1) = (ns.take (min 1 ns.length)).map V.int := by
        show ((ns.map V.int).drop 0).take (HT.sIx (ns.map V.int).length (ns.map V.int).length (some ((1 : Nat) : Int)) - 0) = _
        rw [HT.sIx_nat, List.length_map, List.drop_zero, Nat.sub_zero, List.map_take]
      refine ⟨p, ns.take (min 1 ns.length), rfl, by rw [← e]; exact SqL.of upd_same, ?_⟩
      refine .inl ⟨_, rfl, _, _, rfl, rfl, (show (1000033 : Int) ≠ 0 by decide), _, _, rfl, rfl, ?_⟩
      exact kq _ _ (same_new hp)
/-! ### _law_box -/
abbrev sBox : Stmt := tp 77
def spBox : Sp := fun vs H Q _ => ∃ g : Int, vs = [.int g] ∧ ∀ b H', H b = none → Same H H' → BoxAt H' b → Q (.ref b) H'
theorem scBox : FnScope ["great"] ["great"] (defScope sBox) := ⟨rfl, rfl, rfl, by decide +kernel, rfl, by decide +kernel, by decide +kernel⟩
theorem ok_box {f : Addr} {fd : FuncData} (F : FnP K "_law_box" sBox f fd) (T : Free mg) : FnOk P w K mg base CX0 1 f fd ["great"] spBox := by
  refine F.ok scBox (fun vs H Q E h => ?_) (fun cdv A outer s H vs Q E hr h => ?_)
  · obtain ⟨g, rfl, _⟩ := h
    rfl
  · obtain ⟨g, rfl, kq⟩ := h
    refine ⟨_, pss_one (ps_ret (pe_lst (pa_cons (pe_callB call_abs (by rfl) T.abs (by decide +kernel) (pa_cons (pv 0) pa_nil))
      (pa_cons (pe_cmpR op_ge (pe_callB call_abs (by rfl) T.abs (by decide +kernel) (pa_cons (pv 0) pa_nil)) (pe_op op_pow pe_int pe_int) (nomark _))
      (pa_cons (pe_op op_modN (pe_callTy call_int1 (by rfl) T.int (by decide +kernel) (pa_cons (pe_callB call_abs (by rfl) T.abs (by decide +kernel) (pa_cons (pv 0) pa_nil)) pa_nil)) pe_int)
      (pa_cons pe_int pa_nil)))))), ?_⟩
    refine ⟨_, rfl, _, rfl, _, rfl, _, rfl, _, _, rfl, rfl, ⟨by decide, by decide, by decide⟩, _, _, rfl, rfl, _, rfl, _, rfl, .inl ⟨_, rfl, _, _, rfl, rfl, (show (2147483629 : Int) ≠ 0 by decide), ?_⟩⟩
    refine ⟨(by show 4 ≤ sizeLine; decide), fun p hp => ?_⟩
    have ha : 0 ≤ (if g < 0 then -g else g) := by split <;> omega
    refine kq p _ hp (same_new hp) ⟨_, _, _, _, upd_same, ha, ?_, ?_⟩
    · exact Int.fmod_nonneg ha (by decide)
    · exact Int.fmod_lt_of_pos _ (by decide)
/-! ### _law_take -/
abbrev sTake : Stmt := tp 78
def spTake : Sp := fun vs H Q _ => ∃ (b : Addr) (m : Int), vs = [.ref b, .int m] ∧ BoxAt H b ∧ 0 < m ∧ m < 1073741824 ∧ ∀ d H', 0 ≤ d → d < m → BoxTo b H H' → Q (.int d) H'
theorem scTake : FnScope ["box", "many", "digit"] ["box", "many"] (defScope sTake) := ⟨rfl, rfl, rfl, by decide +kernel, rfl, by decide +kernel, by decide +kernel⟩
theorem ok_take {f : Addr} {fd : FuncData} (F : FnP K "_law_take" sTake f fd) (T : Free mg) : FnOk P w K mg base CX0 1 f fd ["box", "many"] spTake := by
  refine F.ok scTake (fun vs H Q E h => ?_) (fun cdv A outer s H vs Q E hr h => ?_)
  · obtain ⟨b, m, rfl, _⟩ := h
    rfl
  · obtain ⟨b, m, rfl, ⟨a, g, x, c, hb, a0, x0, x1⟩, m0, m1, kq⟩ := h
    refine ⟨_, pss_cons (ps_if (PW.pt (pw_and (pt_val (pe_ix ix_list (pv 0) pe_int (fun _ _ => rfl))) (pw_and1 (pt_cmpR op_gt (pe_ix ix_list (pv 0) pe_int (fun _ _ => rfl)) pe_int (nomark _)))))
        (pss_cons (ps_set (i := 2) scTake.nd rfl (Or.inl rfl) (pe_op op_modN (pe_callTy call_int1 (by rfl) T.int (by decide +kernel) (pa_cons (pe_ix ix_list (pv 0) pe_int (fun _ _ => rfl)) pa_nil)) (pv 1)))
        (pss_cons (ps_asg (pe_op op_fdivN (pe_callTy call_int1 (by rfl) T.int (by decide +kernel) (pa_cons (pe_ix ix_list (pv 0) pe_int (fun _ _ => rfl)) pa_nil)) (pv 1)) (pg_sub (pv 0) pe_int set_list))
        (pss_one (ps_ret (pv 2))))) pss_nil)
      (pss_cons (ps_asg (pe_op op_add (pe_ix ix_list (pv 0) pe_int (fun _ _ => rfl)) pe_int) (pg_sub (pv 0) pe_int set_list))
      (pss_cons (ps_asg (pe_op op_modN (pe_callTy call_int1 (by rfl) T.int (by decide +kernel) (pa_cons (pe_op op_add (pe_op op_add (pe_op op_mul (pe_ix ix_list (pv 0) pe_int (fun _ _ => rfl)) pe_int) (pe_op op_mul pe_int (pe_ix ix_list (pv 0) pe_int (fun _ _ => rfl)))) pe_int) pa_nil)) pe_int) (pg_sub (pv 0) pe_int set_list))
      (pss_one (ps_ret (pe_op op_modN (pe_callTy call_int1 (by rfl) T.int (by decide +kernel) (pa_cons (pe_op op_fdivN (pe_ix ix_list (pv 0) pe_int (fun _ _ => rfl)) pe_int) pa_nil)) (pv 1)))))), ?_⟩
    have L0 : (V.ref b, V.ref b) = (V.ref b, V.ref b) := rfl
    -- the draw from the generator
    have gen : ∀ (g' : Bool) (a' : Int), 0 ≤ a' → H b = some (.lst [.int a', .bl g', .int x, .int c]) →
        tSeq (tAsg (tOp (rI0 fun i j => .int (i + j)) (tOp (rIxL K) (tVar 0) (tC (.int 3))) (tC (.int 1))) (gSub (tVar 0) (tC (.int 3)) rSetL))
          (tSeq (tAsg (tOp (rI (fun _ j => j ≠ 0) fun i j => .int (i.fmod j)) (tCB (fun xs H Q => (∃ i, xs = [.int i] ∧ Q (.int i) H) ∨ ∃ k, xs = [.bl k] ∧ Q (.int (if k then 1 else 0)) H) (tCons (tOp (rI0 fun i j => .int (i + j)) (tOp (rI0 fun i j => .int (i + j)) (tOp (rI CMul fun i j => .int (i * j)) (tOp (rIxL K) (tVar 0) (tC (.int 2))) (tC (.int 70019))) (tOp (rI CMul fun i j => .int (i * j)) (tC (.int 1399)) (tOp (rIxL K) (tVar 0) (tC (.int 3))))) (tC (.int 23))) tNil)) (tC (.int 2147483629))) (gSub (tVar 0) (tC (.int 2)) rSetL))
            (tRet (tOp (rI (fun _ j => j ≠ 0) fun i j => .int (i.fmod j)) (tCB (fun xs H Q => (∃ i, xs = [.int i] ∧ Q (.int i) H) ∨ ∃ k, xs = [.bl k] ∧ Q (.int (if k then 1 else 0)) H) (tCons (tOp (rI CDivN fun i j => .int (i.fdiv j)) (tOp (rIxL K) (tVar 0) (tC (.int 2))) (tC (.int 64))) tNil)) (tVar 1))))
          { nx := fun _ H' => Q .non H', rt := Q } (start ["box", "many", "digit"] [.ref b, .int m]) H := fun g' a' a0' hb' => by
      refine ⟨_, rfl, b, _, _, _, rfl, rfl, SqL.of hb', atI_nat (j := 3) rfl, _, _, rfl, rfl, _, rfl, b, _, _, 3, rfl, rfl, hb', rfl, ?_⟩
      refine ⟨_, rfl, b, _, _, _, rfl, rfl, SqL.of upd_same, atI_nat (j := 2) rfl, _, _, rfl, rfl, .inl ⟨by omega, by omega⟩, _, rfl, b, _, _, _, rfl, rfl, SqL.of upd_same, atI_nat (j := 3) rfl, _, _, rfl, rfl, .inl ⟨by decide, by decide⟩, _, _, rfl, rfl, _, _, rfl, rfl, .inl ⟨_, rfl, _, _, rfl, rfl, (show (2147483629 : Int) ≠ 0 by decide), _, rfl, b, _, _, 2, rfl, rfl, upd_same, rfl, ?_⟩⟩
      refine ⟨_, rfl, b, _, _, _, rfl, rfl, SqL.of upd_same, atI_nat (j := 2) rfl, _, _, rfl, rfl, ⟨by decide, by decide⟩, .inl ⟨_, rfl, _, rfl, _, _, rfl, rfl, by omega, ?_⟩⟩
      refine kq _ _ (Int.fmod_nonneg_of_pos _ m0) (Int.fmod_lt_of_pos _ m0) ⟨⟨a', g', _, c + 1, upd_same, a0', Int.fmod_nonneg_of_pos _ (by decide), Int.fmod_lt_of_pos _ (by decide)⟩, same_upd.trans same_upd⟩
    refine ⟨_, rfl, b, _, _, _, rfl, rfl, SqL.of hb, atI_nat (j := 1) rfl, g, rfl, ?_⟩
    cases g with
    | false => exact gen false a a0 hb
    | true =>
      refine ⟨_, rfl, b, _, _, _, rfl, rfl, SqL.of hb, atI_nat (j := 0) rfl, _, _, rfl, rfl, _, rfl, ?_⟩
      refine ite2 (fun cc => ?_) (fun cc => gen true a a0 hb)
      have a1 : 0 < a := of_decide_eq_true cc
      refine ⟨_, rfl, b, _, _, _, rfl, rfl, SqL.of hb, atI_nat (j := 0) rfl, .inl ⟨_, rfl, _, rfl, _, _, rfl, rfl, by omega, ?_⟩⟩
      refine ⟨_, rfl, b, _, _, _, rfl, rfl, SqL.of hb, atI_nat (j := 0) rfl, .inl ⟨_, rfl, _, rfl, _, _, rfl, rfl, ⟨by omega, by omega⟩, _, rfl, b, _, _, 0, rfl, rfl, hb, rfl, ?_⟩⟩
      refine ⟨_, rfl, ?_⟩
      exact kq _ _ (Int.fmod_nonneg_of_pos _ m0) (Int.fmod_lt_of_pos _ m0) ⟨⟨_, _, x, c, upd_same, Int.fdiv_nonneg a0 (by omega), x0, x1⟩, same_upd⟩
end
end Ka

set_option Elab.async false
set_option linter.all false
set_option maxRecDepth 100000
set_option maxHeartbeats 4000000
namespace Ka
open PySem PySem.Spec PyProof.Rows L2
/-! ### equal data -/
def RdLe (H H' : Hp) : Prop := ∀ a u, Rd H a u → Rd H' a u
theorem RdLe.of {H H' : Hp} (s : Same H H') : RdLe H H' := fun a u h => by
  rcases h with h | ⟨o, h⟩
  · exact .inl (s _ _ h)
  · exact .inr ⟨o, s _ _ h⟩
theorem RdLe.trans {H H1 H2 : Hp} (x : RdLe H H1) (y : RdLe H1 H2) : RdLe H H2 := fun a u h => y a u (x a u h)
def Sc : V → Prop
  | .non => True
  | .bl _ => True
  | .int _ => True
  | .str s => s.length ≤ 2000
  | _ => False
def EqD : Nat → Hp → V → V → Prop
  | 0, _, t, d => t = d ∧ Sc d
  | n + 1, H, t, d => (t = d ∧ Sc d) ∨
    (∃ p q xs ys, t = .ref p ∧ d = .ref q ∧ ((Rd H p (.lst xs) ∧ Rd H q (.lst ys)) ∨ (Rd H p (.tup xs) ∧ Rd H q (.tup ys))) ∧ xs.length = ys.length ∧ ys.length ≤ 1000 ∧ ∀ (i : Nat) x y, xs[i]? = some x → ys[i]? = some y → EqD n H x y) ∨
    (∃ p q kvs kws, t = .ref p ∧ d = .ref q ∧ Rd H p (.dK kvs) ∧ Rd H q (.dK kws) ∧ kvs.length = kws.length ∧ kws.length ≤ 1000 ∧ ∀ (k : Key) v, (k, v) ∈ kws → ∃ x y, valV kvs k = some x ∧ valV kws k = some y ∧ EqD n H x y)
theorem EqD.mono : ∀ {n : Nat} {H H' : Hp} {t d : V}, RdLe H H' → EqD n H t d → EqD n H' t d
  | 0, _, _, _, _, _, h => h
  | n + 1, H, H', t, d, s, h => by
    rcases h with h | ⟨p, q, xs, ys, e1, e2, e3, e4, e5, e6⟩ | ⟨p, q, kvs, kws, e1, e2, e3, e4, e5, e6, e7⟩
    · exact .inl h
    · refine .inr (.inl ⟨p, q, xs, ys, e1, e2, ?_, e4, e5, fun i x y hx hy => EqD.mono s (e6 i x y hx hy)⟩)
      rcases e3 with ⟨a, b⟩ | ⟨a, b⟩
      · exact .inl ⟨s _ _ a, s _ _ b⟩
      · exact .inr ⟨s _ _ a, s _ _ b⟩
    · refine .inr (.inr ⟨p, q, kvs, kws, e1, e2, s _ _ e3, s _ _ e4, e5, e6, fun k v hk => ?_⟩)
      obtain ⟨x, y, h1, h2, h3⟩ := e7 k v hk
      exact ⟨x, y, h1, h2, EqD.mono s h3⟩
theorem EqD.up : ∀ {n m : Nat} {H : Hp} {t d : V}, n ≤ m → EqD n H t d → EqD m H t d
  | 0, 0, _, _, _, _, h => h
  | 0, m + 1, _, _, _, _, h => .inl h
  | n + 1, 0, _, _, _, l, _ => absurd l (by omega)
  | n + 1, m + 1, H, t, d, l, h => by
    have l' : n ≤ m := by omega
    rcases h with h | ⟨p, q, xs, ys, e1, e2, e3, e4, e5, e6⟩ | ⟨p, q, kvs, kws, e1, e2, e3, e4, e5, e6, e7⟩
    · exact .inl h
    · exact .inr (.inl ⟨p, q, xs, ys, e1, e2, e3, e4, e5, fun i x y hx hy => EqD.up l' (e6 i x y hx hy)⟩)
    · refine .inr (.inr ⟨p, q, kvs, kws, e1, e2, e3, e4, e5, e6, fun k v hk => ?_⟩)
      obtain ⟨x, y, h1, h2, h3⟩ := e7 k v hk
      exact ⟨x, y, h1, h2, EqD.up l' h3⟩
/-- data of depth n -/
abbrev Dat (n : Nat) (H : Hp) (v : V) : Prop := EqD n H v v
/-! ### rules of our own -/
section
variable {X : Cx}
def rLenR : List V → Hp → VK → Prop := fun xs H Q => ∃ a kvs, xs = [V.ref a] ∧ Rd H a (.dK kvs) ∧ Q (.int kvs.length) H
theorem call_lenR : CallR X (.builtin "len") rLenR := by
  intro pins s σ H xs us Q I r h
  obtain ⟨a, kvs, rfl, ha, q⟩ := h
  obtain ⟨u, rfl, ru⟩ := vals1 r
  cases ru
  exact d_len I ha fun t s' I' => ⟨.int kvs.length, H, I', ⟨t, rfl⟩, q⟩
/-- locked for the while, or locked already -/
def tLockO (t : TE) : TE := fun σ H Q => tLockE t σ H Q ∨ t σ H Q
theorem pe_lockO {e : Expr} {t : TE} (h : PE X e t) : PE X e (tLockO t) := by
  refine ⟨fun pins s σ H Q I hw => ?_⟩
  rcases hw with hw | hw
  · exact (pe_lock h).run pins s σ H Q I hw
  · exact h.run pins s σ H Q I hw
end
/-- a Rd list, tuple, dict has its type -/
theorem tyx_lst {K : PySem.W.Frag} {H : Hp} {a : Addr} {xs : List V} (h : Rd H a (.lst xs)) : TyX K H (.ref a) (.type "list") := by
  rcases h with h | ⟨o, h⟩
  · exact .base (.lst h)
  · exact .base (.frz h)
theorem tyx_tup {K : PySem.W.Frag} {H : Hp} {a : Addr} {xs : List V} (h : Rd H a (.tup xs)) : TyX K H (.ref a) (.type "tuple") := by
  rcases h with h | ⟨o, h⟩
  · exact .base (.tup h)
  · exact .fTuple h
theorem tyx_dk {K : PySem.W.Frag} {H : Hp} {a : Addr} {kvs : List (Key × V)} (h : Rd H a (.dK kvs)) : TyX K H (.ref a) (.type "dict") := by
  rcases h with h | ⟨o, h⟩
  · exact .base (.dK h)
  · exact .fDict h
abbrev tIsi (K : PySem.W.Frag) (i : Nat) (n : String) : TE := tCB (rIsi K) (tCons (tVar i) (tCons (tC (.ty n)) tNil))
theorem v_isi {K : PySem.W.Frag} {σ : L2.St} {H : Hp} {Q : VK} {i : Nat} {v : V} {n t : String} {b : Bool} (h : σ[i]? = some (some v)) (ty : TyX K H v (.type t)) (e : kitB t n = some b) (q : Q (.bl b) H) : tIsi K i n σ H Q :=
  ⟨v, h, v, .ty n, .type t, .type n, b, rfl, .ty n, ty, kit_ty e, q⟩
theorem t_isi {K : PySem.W.Frag} {σ : L2.St} {H : Hp} {Q : Bool → Hp → Prop} {i : Nat} {v : V} {n t : String} {b : Bool} (h : σ[i]? = some (some v)) (ty : TyX K H v (.type t)) (e : kitB t n = some b) (q : Q b H) : tB (tIsi K i n) σ H Q :=
  v_isi h ty e ⟨b, rfl, q⟩
abbrev tIsi2 (K : PySem.W.Frag) (i : Nat) (n m : String) : TE := tCB (rIsiT K) (tCons (tVar i) (tCons (tTup (tCons (tC (.ty n)) (tCons (tC (.ty m)) tNil))) tNil))
theorem t_isi2 {K : PySem.W.Frag} {σ : L2.St} {H : Hp} {Q : Bool → Hp → Prop} {i : Nat} {v : V} {n m t : String} {b c : Bool} (h : σ[i]? = some (some v)) (ty : ∀ p, H p = none → TyX K (upd H p (.tup [.ty n, .ty m])) v (.type t)) (e : kitB t n = some b) (e2 : kitB t m = some c)
    (q : ∀ p, H p = none → Q (b || c) (upd H p (.tup [.ty n, .ty m]))) : tB (tIsi2 K i n m) σ H Q := by
  refine ⟨v, h, (by show 2 ≤ sizeLine; decide), fun p hp => ?_⟩
  refine ⟨v, p, _, .type t, [.type n, .type m], b || c, rfl, upd_same, .cons (.ty n) (.cons (.ty m) .nil), ty p hp, ?_, _, rfl, q p hp⟩
  refine kitAny_cons (kit_ty e) (fun hb => ?_) (fun hb => by rw [hb]; rfl)
  rw [hb, Bool.false_or]
  exact kitAny_cons (kit_ty e2) (fun hc => by rw [hc]; exact kitAny_nil) (fun hc => hc)
/-! ### _law_same -/
abbrev sSame : Stmt := tp 79
abbrev nSame : List Str := ["told", "due", "k", "key"]
def spS : Nat → Sp
  | 0 => fun _ _ _ _ => False
  | n + 1 => fun vs H Q _ => ∃ t d, vs = [t, d] ∧ EqD n H t d ∧ ∀ H', Same H H' → Q (.bl true) H'
theorem scS : FnScope nSame ["told", "due"] (defScope sSame) := ⟨rfl, rfl, rfl, by decide +kernel, rfl, by decide +kernel, by decide +kernel⟩
section
variable {P : Program} {w : World} {K : PySem.W.Frag} {mg : Str → Option Value} {base : Heap}
theorem spS_len : ∀ {n : Nat} {vs : List V} {H : Hp} {Q : VK} {E : XK}, spS n vs H Q E → vs.length = 2
  | 0, _, _, _, _, h => h.elim
  | n + 1, _, _, _, _, ⟨t, d, e, _⟩ => by rw [e]; rfl
theorem ok_same0 {f : Addr} {fd : FuncData} : FnOk P w K mg base CX0 0 f fd ["told", "due"] (spS 0) := ⟨fun _ _ _ _ h => h.elim, fun _ _ _ _ _ _ _ _ _ _ _ _ _ h => h.elim⟩
end
end Ka

set_option Elab.async false
set_option linter.all false
set_option maxRecDepth 100000
set_option maxHeartbeats 4000000
namespace Ka
open PySem PySem.Spec PyProof.Rows L2
theorem cut_one {z : Str} {k : Nat} {c : Nat} (h : z.cps.toList[k]? = some c) : cutS z (some (k : Int)) (some ((k : Int) + 1)) = ⟨#[c]⟩ := by
  have hk : k < z.cps.toList.length := (List.getElem?_eq_some_iff.mp h).1
  have hz : z.length = z.cps.toList.length := by simp [PySem.Str.length]
  have e1 : ((k : Int) + 1) = ((k + 1 : Nat) : Int) := by omega
  unfold cutS
  rw [e1, HT.sIx_nat, HT.sIx_nat, hz, Nat.min_eq_left (by omega), Nat.min_eq_left (by omega), show k + 1 - k = 1 by omega]
  have : (z.cps.toList.drop k).take 1 = [c] := by
    rw [List.drop_eq_getElem_cons hk]
    have := (List.getElem?_eq_some_iff.mp h).2
    simp [this]
  rw [this]
/-! ### the readings of _law_same, part by part -/
abbrev rNonD : R2 := fun x y H Q => y = V.non ∧ Q (V.bl (decide (x = V.non))) H
abbrev rLenS : List V → Hp → VK → Prop := fun xs H Q => ∃ z, xs = [V.str z] ∧ z.length ≤ sizeLine ∧ Q (V.int z.length) H
abbrev rLenL (K : PySem.W.Frag) : List V → Hp → VK → Prop := fun xs H Q => ∃ p ys, xs = [V.ref p] ∧ (SqL K H p ys ∨ SqT K H p ys) ∧ Q (V.int ys.length) H
abbrev rIntB : List V → Hp → VK → Prop := fun xs H Q => (∃ i, xs = [V.int i] ∧ Q (V.int i) H) ∨ ∃ k, xs = [V.bl k] ∧ Q (V.int (if k = true then 1 else 0)) H
abbrev qNon : TS := tIfS (tTest (tOp rNonD (tVar 1) (tC V.non))) (tRet (tOp rNonD (tVar 0) (tC V.non))) tNext
abbrev qBl (K : PySem.W.Frag) : TS := tIfS (tB (tIsi K 1 "bool")) (tRet (tAndV (tIsi K 0 "bool") (tOp rEq (tOp rIsB (tVar 0) (tC (V.bl true))) (tOp rIsB (tVar 1) (tC (V.bl true)))))) tNext
abbrev qInt (K : PySem.W.Frag) : TS := tIfS (tB (tIsi K 1 "int")) (tRet (tAndV (tIsi K 0 "int") (tAndV (tNotV (tIsi K 0 "bool")) (tOp rEq (tOp (rI0 fun i j => V.int (i - j)) (tCB rIntB (tCons (tVar 0) tNil)) (tVar 1)) (tC (V.int 0)))))) tNext
abbrev tSame (K : PySem.W.Frag) : TE := tLc (iRng1 (tCons (tCB rLenS (tCons (tVar 1) tNil)) tNil)) (gName 2) (tTest (tOp rNe (tSl rSlS (tVar 0) (tPart (tVar 2)) (tPart (tOp (rI0 fun i j => V.int (i + j)) (tVar 2) (tC (V.int 1))))) (tOp rIxS (tVar 1) (tVar 2)))) (tVar 2) [2]
abbrev qStr (K : PySem.W.Frag) : TS := tIfS (tB (tIsi K 1 "str")) (tRet (tAndV (tIsi K 0 "str") (tAndV (tOp rEq (tCB rLenS (tCons (tVar 0) tNil)) (tCB rLenS (tCons (tVar 1) tNil))) (tOp (rEqD K) (tSame K) (tLst tNil))))) tNext
abbrev qDict (K : PySem.W.Frag) (td : TS) : TS := tIfS (tB (tIsi K 1 "dict")) td tNext
abbrev qKind (K : PySem.W.Frag) : TS := tIfS (tOr (tNot (tB (tIsi2 K 1 "list" "tuple"))) (tNot (tB (tIsi2 K 0 "list" "tuple")))) (tRet (tC (V.bl false))) tNext
abbrev qLen (K : PySem.W.Frag) : TS := tIfS (tOr (tTest (tOp rNe (tIsi K 0 "list") (tIsi K 1 "list"))) (tTest (tOp rNe (tCB (rLenL K) (tCons (tVar 0) tNil)) (tCB (rLenL K) (tCons (tVar 1) tNil))))) (tRet (tC (V.bl false))) tNext
/-- the called def says True of the two -/
def Say (sp : Sp) (H : Hp) (x y : V) : Prop := ∀ H', Same H H' → ∀ Q : VK, (∀ H2, Same H' H2 → Q (.bl true) H2) → sp [x, y] H' Q (fun _ _ _ => False)
abbrev tSeqs (K : PySem.W.Frag) (sp : Sp) : TE := tLc (iRng1 (tCons (tCB (rLenL K) (tCons (tVar 1) tNil)) tNil)) (gName 2) (tNot (tB (tCallS sp (fun _ _ _ _ => False) (tCons (tOp (rIx K) (tVar 0) (tVar 2)) (tCons (tOp (rIx K) (tVar 1) (tVar 2)) tNil))))) (tVar 2) [2]
abbrev qEnd (K : PySem.W.Frag) (sp : Sp) : TS := tRet (tOp (rEqD K) (tSeqs K sp) (tLst tNil))
abbrev qAll (K : PySem.W.Frag) (sp : Sp) (td : TS) : TS := tSeq qNon (tSeq (qBl K) (tSeq (qInt K) (tSeq (qStr K) (tSeq (qDict K td) (tSeq (qKind K) (tSeq (qLen K) (qEnd K sp)))))))
abbrev tKeys (K : PySem.W.Frag) (n : Nat) : TE := tLc (iKeys (tVar 1)) (gName 3) (tOr (tB (tDNotIn (tVar 3) (tVar 0))) (tNot (tB (tCallS (spS n) (fun _ _ _ _ => False) (tCons (tDGet (tVar 0) (tVar 3)) (tCons (tDGet (tVar 1) (tVar 3)) tNil)))))) (tVar 3) [3]
abbrev qKeys (K : PySem.W.Frag) (n : Nat) : TS := tRet (tAndV (tIsi K 0 "dict") (tAndV (tOp rEq (tCB rLenR (tCons (tVar 0) tNil)) (tCB rLenR (tCons (tVar 1) tNil))) (tOp (rEqD K) (tLockO (tKeys K n)) (tLst tNil))))
abbrev sg (t d : V) : L2.St := [some t, some d, none, none]
theorem given_none {n : Nat} {v : Nat → V} : Evl.given n (fun _ => false) v = [] := by
  unfold Evl.given
  rw [List.filter_eq_nil_iff.mpr fun _ _ z => Bool.false_ne_true z]
  rfl
section
variable {K : PySem.W.Frag} {H : Hp} {Q : VK} {D : Ends} {t d : V} {n : Nat}
theorem nil_cmp {te : TE} {σ : L2.St} (h : Evl.EvL te σ H []) (q : ∀ H', Same H H' → Q (.bl true) H') : tOp (rEqD K) te (tLst tNil) σ H Q := by
  refine h H (Evl.Ex.refl H) _ fun p H2 hp e2 h2 => ⟨Nat.zero_le _, fun p2 hp2 => ?_⟩
  refine ⟨.list [], .list [], .lst (SqL.of (by rw [upd_ne (ne_of_none h2 hp2)]; exact h2)) .nil, .lst (SqL.of upd_same) .nil, rfl, rfl, ?_⟩
  exact q _ (Same.trans e2 (same_new hp2))
theorem notNon {R : TS} (h : d ≠ .non) (k : R D (sg t d) H) : tSeq qNon R D (sg t d) H :=
  ⟨d, rfl, rfl, _, rfl, ite2 (fun c => absurd (of_decide_eq_true c) h) fun _ => k⟩
theorem notIsi {R : TS} {n ty : String} {body : TS} (h : TyX K H d (.type ty)) (e : kitB ty n = some false) (k : R D (sg t d) H) : tSeq (tIfS (tB (tIsi K 1 n)) body tNext) R D (sg t d) H :=
  t_isi (v := d) rfl h e (iteF k)
theorem isIsi {R : TS} {n ty : String} {body : TS} (h : TyX K H d (.type ty)) (e : kitB ty n = some true) (k : body { D with nx := R D } (sg t d) H) : tSeq (tIfS (tB (tIsi K 1 n)) body tNext) R D (sg t d) H :=
  t_isi (v := d) rfl h e (iteT k)
theorem rd_non {R : TS} (q : ∀ H', Same H H' → D.rt (.bl true) H') : tSeq qNon R D (sg .non .non) H :=
  ⟨V.non, rfl, rfl, _, rfl, iteT ⟨V.non, rfl, rfl, q H (Same.refl H)⟩⟩
theorem rd_bl {R : TS} {b : Bool} (q : ∀ H', Same H H' → D.rt (.bl true) H') : tSeq (qBl K) R D (sg (.bl b) (.bl b)) H := by
  refine isIsi (.base (.bl b)) (by decide +kernel) ?_
  refine v_isi rfl (.base (.bl b)) (by decide +kernel) ⟨true, rfl, iteT ?_⟩
  refine ⟨.bl b, rfl, b, true, rfl, rfl, .bl b, rfl, b, true, rfl, rfl, rfl, ?_⟩
  show D.rt (.bl (decide (V.bl (decide (b = true)) = V.bl (decide (b = true))))) H
  rw [decide_eq_true rfl]
  exact q H (Same.refl H)
theorem rd_int {R : TS} {i : Int} (q : ∀ H', Same H H' → D.rt (.bl true) H') : tSeq (qInt K) R D (sg (.int i) (.int i)) H := by
  refine isIsi (.base (.int i)) (by decide +kernel) ?_
  refine v_isi rfl (.base (.int i)) (by decide +kernel) ⟨true, rfl, iteT ?_⟩
  refine v_isi rfl (.base (.int i)) (by decide +kernel) ⟨false, rfl, true, rfl, iteT ?_⟩
  refine ⟨.int i, rfl, .inl ⟨i, rfl, .int i, rfl, i, i, rfl, rfl, rfl, ?_⟩⟩
  rw [decide_eq_true (by show V.int (i - i) = V.int 0; rw [Int.sub_self])]
  exact q H (Same.refl H)
theorem sameL {z : Str} (hz : z.length ≤ 2000) : Evl.EvL (tSame K) (sg (.str z) (.str z)) H [] := by
  have hz' : z.length ≤ sizeLine := Nat.le_trans hz (by decide)
  rw [← given_none (n := ((z.length : Nat) : Int).toNat) (v := fun i => .int (i : Int))]
  refine Evl.el_lcR1 (fun _ => false) (fun i => .int (i : Int)) (fun H1 e Q q => ⟨_, rfl, z, rfl, hz', q H1 (Evl.Ex.refl H1)⟩) ⟨by omega, by omega⟩ (fun _ => rfl) (fun i H1 e hi H2 e2 Q q => ?_) (fun _ _ _ _ z => absurd z Bool.false_ne_true)
  have hi' : i < z.cps.toList.length := by
    have : z.length = z.cps.toList.length := by simp [PySem.Str.length]
    omega
  have hc : z.cps.toList[i]? = some z.cps.toList[i] := List.getElem?_eq_getElem hi'
  refine ⟨_, rfl, _, rfl, (i : Int), rfl, _, rfl, _, _, rfl, rfl, _, rfl, z, rfl, hz', _, rfl, _, rfl, z, (i : Int), _, rfl, rfl, hz', atI_nat hc, rfl, _, rfl, ?_⟩
  rw [cut_one hc, decide_eq_true rfl]
  exact q H2 (Evl.Ex.refl H2)
theorem rd_str {R : TS} {z : Str} (hz : z.length ≤ 2000) (q : ∀ H', Same H H' → D.rt (.bl true) H') : tSeq (qStr K) R D (sg (.str z) (.str z)) H := by
  have hz' : z.length ≤ sizeLine := Nat.le_trans hz (by decide)
  refine isIsi (.base (.str z)) (by decide +kernel) ?_
  refine v_isi rfl (.base (.str z)) (by decide +kernel) ⟨true, rfl, iteT ?_⟩
  refine ⟨_, rfl, z, rfl, hz', _, rfl, z, rfl, hz', rfl, ?_⟩
  rw [decide_eq_true rfl]
  exact ⟨true, rfl, iteT (nil_cmp (sameL hz) q)⟩
theorem seqsL {sp : Sp} {p q : Addr} {xs ys : List V} (hp : SqL K H p xs ∨ SqT K H p xs) (hq : SqL K H q ys ∨ SqT K H q ys) (hl : xs.length = ys.length) (h1 : ys.length ≤ 1000) (he : ∀ (i : Nat) x y, xs[i]? = some x → ys[i]? = some y → Say sp H x y) : Evl.EvL (tSeqs K sp) (sg (.ref p) (.ref q)) H [] := by
  have ex : ∀ {H1 : Hp} {a : Addr} {us : List V}, Evl.Ex H H1 → SqL K H a us ∨ SqT K H a us → SqL K H1 a us ∨ SqT K H1 a us := fun e h => h.elim (fun h => .inl (Evl.ex_l e h)) fun h => .inr (Evl.ex_t e h)
  rw [← given_none (n := ((ys.length : Nat) : Int).toNat) (v := fun i => .int (i : Int))]
  refine Evl.el_lcR1 (fun _ => false) (fun i => .int (i : Int)) (fun H1 e Q k => ⟨_, rfl, q, ys, rfl, ex e hq, k H1 (Evl.Ex.refl H1)⟩) ⟨by omega, by omega⟩ (fun _ => rfl) (fun i H1 e hi H2 e2 Q k => ?_) (fun _ _ _ _ z => absurd z Bool.false_ne_true)
  have hi2 : i < ys.length := by omega
  have hi1 : i < xs.length := by omega
  have e1 : xs[i]? = some xs[i] := List.getElem?_eq_getElem hi1
  have e3 : ys[i]? = some ys[i] := List.getElem?_eq_getElem hi2
  have ix : ∀ {a : Addr} {us : List V} {u : V} {Q : VK}, SqL K H2 a us ∨ SqT K H2 a us → us[i]? = some u → Q u H2 → rIx K (.ref a) (.int (i : Int)) H2 Q := fun h hu k => h.elim (fun h => .inl ⟨_, _, _, _, rfl, rfl, h, atI_nat hu, k⟩) fun h => .inr (.inl ⟨_, _, _, _, rfl, rfl, h, atI_nat hu, k⟩)
  refine ⟨_, rfl, _, rfl, ix (ex (e.trans e2) hp) e1 ⟨_, rfl, _, rfl, ix (ex (e.trans e2) hq) e3 ?_⟩⟩
  exact he i _ _ e1 e3 H2 (e.trans e2) _ fun H' s => ⟨true, rfl, k H' s⟩
theorem rd_seq {sp : Sp} {p q : Addr} {xs ys : List V} (hh : (Rd H p (.lst xs) ∧ Rd H q (.lst ys)) ∨ (Rd H p (.tup xs) ∧ Rd H q (.tup ys))) (hl : xs.length = ys.length) (h1 : ys.length ≤ 1000) (he : ∀ (i : Nat) x y, xs[i]? = some x → ys[i]? = some y → Say sp H x y) {td : TS}
    (k : ∀ H', Same H H' → D.rt (.bl true) H') : qAll K sp td D (sg (.ref p) (.ref q)) H := by
  have fin : ∀ {H1 : Hp} {b : Bool}, Same H H1 → (∀ H', Same H H' → TyX K H' (.ref p) (.type (if b = true then "list" else "tuple"))) → (∀ H', Same H H' → TyX K H' (.ref q) (.type (if b = true then "list" else "tuple"))) → (∀ H', Same H H' → (SqL K H' p xs ∨ SqT K H' p xs) ∧ (SqL K H' q ys ∨ SqT K H' q ys)) →
      tSeq (qKind K) (tSeq (qLen K) (qEnd K sp)) D (sg (.ref p) (.ref q)) H1 := fun {H1 b} s tp tq sq => by
    have kl : kitB (if b = true then "list" else "tuple") "list" = some b := by cases b <;> decide +kernel
    have kt : kitB (if b = true then "list" else "tuple") "tuple" = some (!b) := by cases b <;> decide +kernel
    refine t_isi2 (v := .ref q) rfl (fun a ha => tq _ (s.trans (same_new ha))) kl kt fun a ha => ?_
    rw [show (b || !b) = true by cases b <;> rfl]
    refine iteF (t_isi2 (v := .ref p) rfl (fun c hc => tp _ ((s.trans (same_new ha)).trans (same_new hc))) kl kt fun c hc => ?_)
    rw [show (b || !b) = true by cases b <;> rfl]
    have s2 := (s.trans (same_new (o := .tup [.ty "list", .ty "tuple"]) ha)).trans (same_new (o := .tup [.ty "list", .ty "tuple"]) hc)
    generalize upd (upd H1 a (.tup [.ty "list", .ty "tuple"])) c (.tup [.ty "list", .ty "tuple"]) = H3 at s2 ⊢
    refine iteF (v_isi (v := .ref p) rfl (tp _ s2) kl (v_isi (v := .ref q) rfl (tq _ s2) kl ⟨rfl, _, rfl, ?_⟩))
    rw [decide_eq_true rfl]
    refine iteF ⟨_, rfl, p, xs, rfl, (sq _ s2).1, _, rfl, q, ys, rfl, (sq _ s2).2, rfl, _, rfl, ?_⟩
    rw [hl, decide_eq_true rfl]
    refine iteF (nil_cmp (seqsL (sq _ s2).1 (sq _ s2).2 hl h1 fun i x y hx hy H' s' => he i x y hx hy H' (s2.trans s')) fun H' s' => k H' (s2.trans s'))
  refine notNon (by intro z; cases z) ?_
  rcases hh with ⟨hp, hq⟩ | ⟨hp, hq⟩
  · have rl : ∀ {a : Addr} {us : List V}, Rd H a (.lst us) → ∀ H', Same H H' → Rd H' a (.lst us) := fun h H' s => Evl.ex_rd s h
    refine notIsi (tyx_lst hq) (by decide +kernel) (notIsi (tyx_lst hq) (by decide +kernel) (notIsi (tyx_lst hq) (by decide +kernel) (notIsi (tyx_lst hq) (by decide +kernel) ?_)))
    exact fin (b := true) (Same.refl H) (fun H' s => tyx_lst (rl hp H' s)) (fun H' s => tyx_lst (rl hq H' s)) fun H' s => ⟨.inl (.inl (rl hp H' s)), .inl (.inl (rl hq H' s))⟩
  · have rl : ∀ {a : Addr} {us : List V}, Rd H a (.tup us) → ∀ H', Same H H' → Rd H' a (.tup us) := fun h H' s => Evl.ex_rd s h
    refine notIsi (tyx_tup hq) (by decide +kernel) (notIsi (tyx_tup hq) (by decide +kernel) (notIsi (tyx_tup hq) (by decide +kernel) (notIsi (tyx_tup hq) (by decide +kernel) ?_)))
    exact fin (b := false) (Same.refl H) (fun H' s => tyx_tup (rl hp H' s)) (fun H' s => tyx_tup (rl hq H' s)) fun H' s => ⟨.inr (.inl (rl hp H' s)), .inr (.inl (rl hq H' s))⟩
theorem keysL {p q : Addr} {kvs kws : List (Key × V)} {o : Obj} (hp : Rd H p (.dK kvs)) (hq : H q = some (.frz o (.dK kws))) (h1 : kws.length ≤ 1000) (he : ∀ (k : Key) v, (k, v) ∈ kws → ∃ x y, valV kvs k = some x ∧ valV kws k = some y ∧ EqD n H x y)
    (k : ∀ D' H', H D' = none → Same H H' → H' D' = some (.lst []) → Q (.ref D') H') : tKeys K (n + 1) (sg (.ref p) (.ref q)) H Q := by
  refine ⟨_, rfl, q, o, rfl, .inl ⟨kws, hq, fun D' hD => ?_⟩⟩
  refine lc_it walk_keys (fun i H' => H' D' = some (.lst []) ∧ Same H H') ⟨upd_same, same_new hD⟩ (fun i H' _ w => w.2 _ _ hq) (fun i x H2 H' hi w y => ?_) (fun H' w => k D' H' hD w.2 w.1)
  obtain ⟨rfl, kk, v, hkv, rfl⟩ := y
  obtain ⟨x, y, h3, h4, h5⟩ := he kk v (List.mem_of_getElem? hkv)
  obtain ⟨wD, wS⟩ := w
  have rp : Rd H' p (.dK kvs) := Evl.ex_rd wS hp
  have rq : Rd H' q (.dK kws) := .inr ⟨o, wS _ _ hq⟩
  refine ⟨rfl, ?_⟩
  refine ⟨_, rfl, _, rfl, p, some x, rfl, .inl ⟨kvs, kk, rp, rfl, h3.symm⟩, _, rfl, iteF ?_⟩
  refine ⟨_, rfl, _, rfl, p, x, rfl, .inl ⟨kvs, kk, rp, rfl, h3.symm⟩, _, rfl, _, rfl, q, y, rfl, .inl ⟨kws, kk, rq, rfl, h4.symm⟩, ?_⟩
  exact ⟨_, _, rfl, h5.mono (RdLe.of wS), fun H3 s => ⟨true, rfl, iteF ⟨s _ _ wD, wS.trans s⟩⟩⟩
theorem rd_keys {p q : Addr} {kvs kws : List (Key × V)} (hp : Rd H p (.dK kvs)) (hq : Rd H q (.dK kws)) (hl : kvs.length = kws.length) (h1 : kws.length ≤ 1000) (he : ∀ (k : Key) v, (k, v) ∈ kws → ∃ x y, valV kvs k = some x ∧ valV kws k = some y ∧ EqD n H x y)
    (k : ∀ H', Same H H' → D.rt (.bl true) H') : qKeys K (n + 1) D (sg (.ref p) (.ref q)) H := by
  refine v_isi rfl (tyx_dk hp) (by decide +kernel) ⟨true, rfl, iteT ?_⟩
  refine ⟨_, rfl, p, kvs, rfl, hp, _, rfl, q, kws, rfl, hq, rfl, ?_⟩
  rw [hl, decide_eq_true rfl]
  refine ⟨true, rfl, iteT ?_⟩
  have fin : ∀ (D' : Addr) (H' : Hp), Same H H' → H' D' = some (.lst []) → tLst tNil (sg (.ref p) (.ref q)) H' (fun y H2 => rEqD K (.ref D') y H2 D.rt) := fun D' H' s h2 => by
    refine ⟨Nat.zero_le _, fun p2 hp2 => ?_⟩
    refine ⟨.list [], .list [], .lst (SqL.of (by rw [upd_ne (ne_of_none h2 hp2)]; exact h2)) .nil, .lst (SqL.of upd_same) .nil, rfl, rfl, ?_⟩
    exact k _ (Same.trans s (same_new hp2))
  rcases hq with hq | ⟨o, hq⟩
  · refine .inl ⟨q, _, hq, True.intro, fun od => ?_⟩
    have lk : ∀ {a : Addr} {u : HO}, Rd H a u → Rd (upd H q (.frz od (.dK kws))) a u := fun {a u} h => by
      by_cases c : a = q
      · subst c
        rcases h with h | ⟨o2, h⟩
        · rw [hq] at h
          cases h
          exact .inr ⟨od, upd_same⟩
        · rw [hq] at h
          cases h
      · rcases h with h | ⟨o2, h⟩
        · exact .inl (by rw [upd_ne c]; exact h)
        · exact .inr ⟨o2, by rw [upd_ne c]; exact h⟩
    refine keysL (lk hp) upd_same h1 (fun kk v hk => ?_) fun D' H' hD s h => ?_
    · obtain ⟨x, y, h3, h4, h5⟩ := he kk v hk
      exact ⟨x, y, h3, h4, h5.mono fun a u r => lk r⟩
    · have hne : D' ≠ q := fun z => by rw [z, upd_same] at hD; cases hD
      refine ⟨s _ _ upd_same, fin D' _ (fun c u e => ?_) (by rw [upd_ne hne]; exact h)⟩
      by_cases cq : c = q
      · subst cq
        rw [hq] at e
        cases e
        exact upd_same
      · rw [upd_ne cq]
        exact s c u (by rw [upd_ne cq]; exact e)
  · exact .inr (keysL hp hq h1 he fun D' H' _ s h => fin D' H' s h)
/-- a scalar -/
theorem rd_scal {sp : Sp} {td : TS} (e1 : t = d) (hs : Sc d) (k : ∀ H', Same H H' → D.rt (.bl true) H') : qAll K sp td D (sg t d) H := by
  subst e1
  cases t with
  | non => exact rd_non k
  | bl b => exact notNon (by intro z; cases z) (rd_bl k)
  | int i => exact notNon (by intro z; cases z) (notIsi (.base (.int i)) (by decide +kernel) (rd_int k))
  | str z => exact notNon (by intro z; cases z) (notIsi (.base (.str z)) (by decide +kernel) (notIsi (.base (.str z)) (by decide +kernel) (rd_str hs k)))
  | _ => exact hs.elim
/-- the whole -/
theorem rd_same {td : TS} (e : EqD n H t d) (hd : ∀ p q kvs kws m, t = .ref p → d = .ref q → n = m + 1 → Rd H p (.dK kvs) → Rd H q (.dK kws) → kvs.length = kws.length → kws.length ≤ 1000 → (∀ (k : Key) v, (k, v) ∈ kws → ∃ x y, valV kvs k = some x ∧ valV kws k = some y ∧ EqD m H x y) → ∀ N, td { D with nx := N } (sg t d) H)
    (k : ∀ H', Same H H' → D.rt (.bl true) H') : qAll K (spS n) td D (sg t d) H := by
  cases n with
  | zero => exact rd_scal e.1 e.2 k
  | succ n =>
    rcases e with h | ⟨p, q, xs, ys, rfl, rfl, e3, e4, e5, e6⟩ | ⟨p, q, kvs, kws, rfl, rfl, e3, e4, e5, e6, e7⟩
    · exact rd_scal h.1 h.2 k
    · exact rd_seq e3 e4 e5 (fun i x y hx hy H' s Q q => ⟨_, _, rfl, (e6 i x y hx hy).mono (RdLe.of s), q⟩) k
    · refine notNon (by intro z; cases z) (notIsi (tyx_dk e4) (by decide +kernel) (notIsi (tyx_dk e4) (by decide +kernel) (notIsi (tyx_dk e4) (by decide +kernel) (isIsi (tyx_dk e4) (by decide +kernel) ?_))))
      exact hd p q kvs kws n rfl rfl rfl e3 e4 e5 e6 e7 _
/-! ### no dict within -/
def EqL : Nat → Hp → V → V → Prop
  | 0, _, t, d => t = d ∧ Sc d
  | n + 1, H, t, d => (t = d ∧ Sc d) ∨
    (∃ p q xs ys, t = .ref p ∧ d = .ref q ∧ ((Rd H p (.lst xs) ∧ Rd H q (.lst ys)) ∨ (Rd H p (.tup xs) ∧ Rd H q (.tup ys))) ∧ xs.length = ys.length ∧ ys.length ≤ 1000 ∧ ∀ (i : Nat) x y, xs[i]? = some x → ys[i]? = some y → EqL n H x y)
theorem EqL.mono : ∀ {n : Nat} {H H' : Hp} {t d : V}, RdLe H H' → EqL n H t d → EqL n H' t d
  | 0, _, _, _, _, _, h => h
  | n + 1, H, H', t, d, s, h => by
    rcases h with h | ⟨p, q, xs, ys, e1, e2, e3, e4, e5, e6⟩
    · exact .inl h
    · refine .inr ⟨p, q, xs, ys, e1, e2, ?_, e4, e5, fun i x y hx hy => EqL.mono s (e6 i x y hx hy)⟩
      rcases e3 with ⟨a, b⟩ | ⟨a, b⟩
      · exact .inl ⟨s _ _ a, s _ _ b⟩
      · exact .inr ⟨s _ _ a, s _ _ b⟩
def spL : Nat → Sp
  | 0 => fun _ _ _ _ => False
  | n + 1 => fun vs H Q _ => ∃ t d, vs = [t, d] ∧ EqL n H t d ∧ ∀ H', Same H H' → Q (.bl true) H'
theorem spL_len : ∀ {n : Nat} {vs : List V} {H : Hp} {Q : VK} {E : XK}, spL n vs H Q E → vs.length = 2
  | 0, _, _, _, _, h => h.elim
  | n + 1, _, _, _, _, ⟨t, d, e, _⟩ => by rw [e]; rfl
theorem rd_sameL {td : TS} (e : EqL n H t d) (k : ∀ H', Same H H' → D.rt (.bl true) H') : qAll K (spL n) td D (sg t d) H := by
  cases n with
  | zero => exact rd_scal e.1 e.2 k
  | succ n =>
    rcases e with h | ⟨p, q, xs, ys, rfl, rfl, e3, e4, e5, e6⟩
    · exact rd_scal h.1 h.2 k
    · exact rd_seq e3 e4 e5 (fun i x y hx hy H' s Q q => ⟨_, _, rfl, (e6 i x y hx hy).mono (RdLe.of s), q⟩) k
end
end Ka

set_option Elab.async false
set_option linter.all false
set_option maxRecDepth 100000
set_option maxHeartbeats 4000000
namespace Ka
open PySem PySem.Spec PyProof.Rows L2
section
variable {P : Program} {w : World} {K : PySem.W.Frag} {mg : Str → Option Value} {base : Heap}
theorem ok_sameS {n : Nat} {f : Addr} {fd : FuncData} (D : FnP K "_law_same" sSame f fd) (T : Free mg) (B : Has K mg "_law_same" f fd ["told", "due"]) (F : FnOk P w K mg base CX0 n f fd ["told", "due"] (spS n)) : FnOk P w K mg base CX0 (n + 1) f fd ["told", "due"] (spS (n + 1)) := by
  refine D.ok scS (fun vs H Q E h => spS_len h) (fun cdv A outer s H vs Q E hr h => ?_)
  obtain ⟨t, d, rfl, e, k⟩ := h
  have hu := hu_of hr
  have hun := hr.units
  refine ⟨qAll K (spS n) (qKeys K n), pss_cons (ps_if (pt_cmpR op_isN (pv 1) pe_non (nomark _)) (pss_one (ps_ret (pe_cmpR op_isN (pv 0) pe_non (nomark _)))) pss_nil)
      (pss_cons (ps_if (pt_val (pe_callB call_isi (by rfl) T.isi (by decide +kernel) (pa_cons (pv 1) (pa_cons (pe_bltn (v := .ty "bool") (u := .type "bool") (by rfl) T.bool (by decide +kernel) rfl) pa_nil)))) (pss_one (ps_ret (pe_and (pe_callB call_isi (by rfl) T.isi (by decide +kernel) (pa_cons (pv 0) (pa_cons (pe_bltn (v := .ty "bool") (u := .type "bool") (by rfl) T.bool (by decide +kernel) rfl) pa_nil))) (pe_one (pe_cmpR op_eq (pe_cmpR op_isBl (pv 0) pe_bl (nomark _)) (pe_cmpR op_isBl (pv 1) pe_bl (nomark _)) (nomark _)))))) pss_nil)
      (pss_cons (ps_if (pt_val (pe_callB call_isi (by rfl) T.isi (by decide +kernel) (pa_cons (pv 1) (pa_cons (pe_bltn (v := .ty "int") (u := .type "int") (by rfl) T.int (by decide +kernel) rfl) pa_nil)))) (pss_one (ps_ret (pe_and (pe_callB call_isi (by rfl) T.isi (by decide +kernel) (pa_cons (pv 0) (pa_cons (pe_bltn (v := .ty "int") (u := .type "int") (by rfl) T.int (by decide +kernel) rfl) pa_nil))) (pe_and (pe_not (pe_callB call_isi (by rfl) T.isi (by decide +kernel) (pa_cons (pv 0) (pa_cons (pe_bltn (v := .ty "bool") (u := .type "bool") (by rfl) T.bool (by decide +kernel) rfl) pa_nil)))) (pe_one (pe_cmpR op_eq (pe_op op_sub (pe_callTy call_int1 (by rfl) T.int (by decide +kernel) (pa_cons (pv 0) pa_nil)) (pv 1)) pe_int (nomark _))))))) pss_nil)
      (pss_cons (ps_if (pt_val (pe_callB call_isi (by rfl) T.isi (by decide +kernel) (pa_cons (pv 1) (pa_cons (pe_bltn (v := .ty "str") (u := .type "str") (by rfl) T.str (by decide +kernel) rfl) pa_nil)))) (pss_one (ps_ret (pe_and (pe_callB call_isi (by rfl) T.isi (by decide +kernel) (pa_cons (pv 0) (pa_cons (pe_bltn (v := .ty "str") (u := .type "str") (by rfl) T.str (by decide +kernel) rfl) pa_nil))) (pe_and (pe_cmpR op_eq (pe_callB call_len_str (by rfl) T.len PySem.boot_len (pa_cons (pv 0) pa_nil)) (pe_callB call_len_str (by rfl) T.len PySem.boot_len (pa_cons (pv 1) pa_nil)) (nomark _)) (pe_one (pe_cmpR (op_eqD hun) (pe_lc (own := [("k", 2)]) (g := gName 2) rfl scS.nd (pi_range1 (by rfl) T.range (pa_cons (pe_callB call_len_str (by rfl) T.len PySem.boot_len (pa_cons (pv 1) pa_nil)) pa_nil)) (blkOk_by (N := nSame) (sc := defScope sSame) (by decide +kernel)) (fun _ _ _ _ _ => pg_name (i := 2) scS.nd rfl (Or.inl rfl)) (fun _ _ _ _ _ => pts_one (pt_cmpR op_ne (pe_slice sl_str (pv 0) (po_some (pv 2)) (po_some (pe_op op_add (pv 2) pe_int))) (pe_ix ix_str (pv 1) (pv 2) (fun _ _ => rfl)) (nomark _))) (fun _ _ _ _ _ => pv 2)) (pe_lst pa_nil) (nomark _))))))) pss_nil)
      (pss_cons (ps_if (pt_val (pe_callB call_isi (by rfl) T.isi (by decide +kernel) (pa_cons (pv 1) (pa_cons (pe_bltn (v := .ty "dict") (u := .type "dict") (by rfl) T.dict (by decide +kernel) rfl) pa_nil)))) (pss_one (ps_ret (pe_and (pe_callB call_isi (by rfl) T.isi (by decide +kernel) (pa_cons (pv 0) (pa_cons (pe_bltn (v := .ty "dict") (u := .type "dict") (by rfl) T.dict (by decide +kernel) rfl) pa_nil))) (pe_and (pe_cmpR op_eq (pe_callB call_lenR (by rfl) T.len PySem.boot_len (pa_cons (pv 0) pa_nil)) (pe_callB call_lenR (by rfl) T.len PySem.boot_len (pa_cons (pv 1) pa_nil)) (nomark _)) (pe_one (pe_cmpR (op_eqD hun) (pe_lockO (pe_lc (own := [("key", 3)]) (g := gName 3) rfl scS.nd (pi_keys (pv 1)) (blkOk_by (N := nSame) (sc := defScope sSame) (by decide +kernel)) (fun _ _ _ _ _ => pg_name (i := 3) scS.nd rfl (Or.inl rfl)) (fun _ _ _ _ _ => pts_one (PW.pt (pw_or (pt_cmp (pc_dnotin hu (pv 3) (pv 0))) (pw_or1 (pt_not (pt_val (pe_callS F hr (by rfl) B.g B.kp B.b (E := fun _ _ _ _ => False) (fun _ _ _ _ _ _ _ h => h.elim) (pa_cons (pe_dget hu (pv 0) (pv 3) (fun _ _ => rfl)) (pa_cons (pe_dget hu (pv 1) (pv 3) (fun _ _ => rfl)) pa_nil))))))))) (fun _ _ _ _ _ => pv 3))) (pe_lst pa_nil) (nomark _))))))) pss_nil)
      (pss_cons (ps_if (PW.pt (pw_or (pt_not (pt_val (pe_callB call_isiT (by rfl) T.isi (by decide +kernel) (pa_cons (pv 1) (pa_cons (pe_tup (pa_cons (pe_bltn (v := .ty "list") (u := .type "list") (by rfl) T.list (by decide +kernel) rfl) (pa_cons (pe_bltn (v := .ty "tuple") (u := .type "tuple") (by rfl) T.tuple (by decide +kernel) rfl) pa_nil))) pa_nil))))) (pw_or1 (pt_not (pt_val (pe_callB call_isiT (by rfl) T.isi (by decide +kernel) (pa_cons (pv 0) (pa_cons (pe_tup (pa_cons (pe_bltn (v := .ty "list") (u := .type "list") (by rfl) T.list (by decide +kernel) rfl) (pa_cons (pe_bltn (v := .ty "tuple") (u := .type "tuple") (by rfl) T.tuple (by decide +kernel) rfl) pa_nil))) pa_nil)))))))) (pss_one (ps_ret pe_bl)) pss_nil)
      (pss_cons (ps_if (PW.pt (pw_or (pt_cmpR op_ne (pe_callB call_isi (by rfl) T.isi (by decide +kernel) (pa_cons (pv 0) (pa_cons (pe_bltn (v := .ty "list") (u := .type "list") (by rfl) T.list (by decide +kernel) rfl) pa_nil))) (pe_callB call_isi (by rfl) T.isi (by decide +kernel) (pa_cons (pv 1) (pa_cons (pe_bltn (v := .ty "list") (u := .type "list") (by rfl) T.list (by decide +kernel) rfl) pa_nil))) (nomark _)) (pw_or1 (pt_cmpR op_ne (pe_callB call_len_seq (by rfl) T.len PySem.boot_len (pa_cons (pv 0) pa_nil)) (pe_callB call_len_seq (by rfl) T.len PySem.boot_len (pa_cons (pv 1) pa_nil)) (nomark _))))) (pss_one (ps_ret pe_bl)) pss_nil)
      (pss_one (ps_ret (pe_cmpR (op_eqD hun) (pe_lc (own := [("k", 2)]) (g := gName 2) rfl scS.nd (pi_range1 (by rfl) T.range (pa_cons (pe_callB call_len_seq (by rfl) T.len PySem.boot_len (pa_cons (pv 1) pa_nil)) pa_nil)) (blkOk_by (N := nSame) (sc := defScope sSame) (by decide +kernel)) (fun _ _ _ _ _ => pg_name (i := 2) scS.nd rfl (Or.inl rfl)) (fun _ _ _ _ _ => pts_one (pt_not (pt_val (pe_callS F hr (by rfl) B.g B.kp B.b (E := fun _ _ _ _ => False) (fun _ _ _ _ _ _ _ h => h.elim) (pa_cons (pe_ix (ix_seq : IxR _ (rIx K)) (pv 0) (pv 2) (fun _ _ => rfl)) (pa_cons (pe_ix (ix_seq : IxR _ (rIx K)) (pv 1) (pv 2) (fun _ _ => rfl)) pa_nil)))))) (fun _ _ _ _ _ => pv 2)) (pe_lst pa_nil) (nomark _)))))))))), ?_⟩
  exact rd_same e (fun p q kvs kws m e1 e2 e3 h1 h2 h3 h4 h5 N => by
    subst e1 e2 e3
    exact rd_keys h1 h2 h3 h4 h5 k) k
theorem ok_same {f : Addr} {fd : FuncData} (D : FnP K "_law_same" sSame f fd) (T : Free mg) (B : Has K mg "_law_same" f fd ["told", "due"]) : ∀ n, FnOk P w K mg base CX0 n f fd ["told", "due"] (spS n)
  | 0 => ok_same0
  | n + 1 => ok_sameS D T B (ok_same D T B n)
/-! ### in an except suite: no dict within -/
theorem ok_sameH {f : Addr} {fd : FuncData} (D : FnP K "_law_same" sSame f fd) (T : Free mg) (B : Has K mg "_law_same" f fd ["told", "due"]) : ∀ n, L2H.FnH P w K mg base CX0 n f fd ["told", "due"] (spL n)
  | 0 => ⟨fun _ _ _ _ h => h.elim, fun _ _ _ _ _ _ _ _ _ _ _ _ _ _ _ _ h => h.elim⟩
  | n + 1 => by
    have F := ok_sameH D T B n
    obtain ⟨oc, od, dV, kV, doc, pm, an, cdv, ct, osl, rfl, lk, hcd, _, _⟩ := D.ex
    refine L2H.fn_ofH lk hcd scS (fun vs H Q E h => spL_len h) (fun A outer s H vs Q E p hp hr h => ?_)
    obtain ⟨t, d, rfl, e, k⟩ := h
    have hun : (L2H.cxH CX0 P w K mg base nSame "_law_same" (defScope sSame) f cdv A outer s H E p).A.units + 64 < cLine := by have := hr.un; show (A.deeper _).units + 64 < cLine; omega
    have hot : L2H.HotC (L2H.cxH CX0 P w K mg base nSame "_law_same" (defScope sSame) f cdv A outer s H E p) := ⟨p, hp, List.mem_singleton.mpr rfl⟩
    refine ⟨qAll K (spL n) tNever, pss_cons (ps_if (pt_cmpR op_isN (pv 1) pe_non (nomark _)) (pss_one (ps_ret (pe_cmpR op_isN (pv 0) pe_non (nomark _)))) pss_nil)
      (pss_cons (ps_if (pt_val (pe_callB call_isi (by rfl) T.isi (by decide +kernel) (pa_cons (pv 1) (pa_cons (pe_bltn (v := .ty "bool") (u := .type "bool") (by rfl) T.bool (by decide +kernel) rfl) pa_nil)))) (pss_one (ps_ret (pe_and (pe_callB call_isi (by rfl) T.isi (by decide +kernel) (pa_cons (pv 0) (pa_cons (pe_bltn (v := .ty "bool") (u := .type "bool") (by rfl) T.bool (by decide +kernel) rfl) pa_nil))) (pe_one (pe_cmpR op_eq (pe_cmpR op_isBl (pv 0) pe_bl (nomark _)) (pe_cmpR op_isBl (pv 1) pe_bl (nomark _)) (nomark _)))))) pss_nil)
      (pss_cons (ps_if (pt_val (pe_callB call_isi (by rfl) T.isi (by decide +kernel) (pa_cons (pv 1) (pa_cons (pe_bltn (v := .ty "int") (u := .type "int") (by rfl) T.int (by decide +kernel) rfl) pa_nil)))) (pss_one (ps_ret (pe_and (pe_callB call_isi (by rfl) T.isi (by decide +kernel) (pa_cons (pv 0) (pa_cons (pe_bltn (v := .ty "int") (u := .type "int") (by rfl) T.int (by decide +kernel) rfl) pa_nil))) (pe_and (pe_not (pe_callB call_isi (by rfl) T.isi (by decide +kernel) (pa_cons (pv 0) (pa_cons (pe_bltn (v := .ty "bool") (u := .type "bool") (by rfl) T.bool (by decide +kernel) rfl) pa_nil)))) (pe_one (pe_cmpR op_eq (pe_op op_sub (pe_callTy call_int1 (by rfl) T.int (by decide +kernel) (pa_cons (pv 0) pa_nil)) (pv 1)) pe_int (nomark _))))))) pss_nil)
      (pss_cons (ps_if (pt_val (pe_callB call_isi (by rfl) T.isi (by decide +kernel) (pa_cons (pv 1) (pa_cons (pe_bltn (v := .ty "str") (u := .type "str") (by rfl) T.str (by decide +kernel) rfl) pa_nil)))) (pss_one (ps_ret (pe_and (pe_callB call_isi (by rfl) T.isi (by decide +kernel) (pa_cons (pv 0) (pa_cons (pe_bltn (v := .ty "str") (u := .type "str") (by rfl) T.str (by decide +kernel) rfl) pa_nil))) (pe_and (pe_cmpR op_eq (pe_callB call_len_str (by rfl) T.len PySem.boot_len (pa_cons (pv 0) pa_nil)) (pe_callB call_len_str (by rfl) T.len PySem.boot_len (pa_cons (pv 1) pa_nil)) (nomark _)) (pe_one (pe_cmpR (op_eqD hun) (Xc.pe_lcH (own := [("k", 2)]) (g := gName 2) hot scS.nd (L2H.pi_range1H (by rfl) T.range (pa_cons (pe_callB call_len_str (by rfl) T.len PySem.boot_len (pa_cons (pv 1) pa_nil)) pa_nil)) (blkOk_by (N := nSame) (sc := defScope sSame) (by decide +kernel)) (fun _ _ _ _ _ _ _ => pg_name (i := 2) scS.nd rfl (Or.inl rfl)) (fun _ _ _ _ _ _ h1 => pts_one (pt_cmpR op_ne (pe_slice sl_str (pv 0) (po_some (pv 2)) (po_some (pe_op op_add (pv 2) pe_int))) (pe_ix ix_str (pv 1) (pv 2) (fun _ _ => rfl)) (nomark _))) (fun _ _ _ _ _ _ _ => pv 2)) (pe_lst pa_nil) (nomark _))))))) pss_nil)
      (pss_cons (ps_if (pt_val (pe_callB call_isi (by rfl) T.isi (by decide +kernel) (pa_cons (pv 1) (pa_cons (pe_bltn (v := .ty "dict") (u := .type "dict") (by rfl) T.dict (by decide +kernel) rfl) pa_nil)))) pss_never pss_nil)
      (pss_cons (ps_if (PW.pt (pw_or (pt_not (pt_val (pe_callB call_isiT (by rfl) T.isi (by decide +kernel) (pa_cons (pv 1) (pa_cons (pe_tup (pa_cons (pe_bltn (v := .ty "list") (u := .type "list") (by rfl) T.list (by decide +kernel) rfl) (pa_cons (pe_bltn (v := .ty "tuple") (u := .type "tuple") (by rfl) T.tuple (by decide +kernel) rfl) pa_nil))) pa_nil))))) (pw_or1 (pt_not (pt_val (pe_callB call_isiT (by rfl) T.isi (by decide +kernel) (pa_cons (pv 0) (pa_cons (pe_tup (pa_cons (pe_bltn (v := .ty "list") (u := .type "list") (by rfl) T.list (by decide +kernel) rfl) (pa_cons (pe_bltn (v := .ty "tuple") (u := .type "tuple") (by rfl) T.tuple (by decide +kernel) rfl) pa_nil))) pa_nil)))))))) (pss_one (ps_ret pe_bl)) pss_nil)
      (pss_cons (ps_if (PW.pt (pw_or (pt_cmpR op_ne (pe_callB call_isi (by rfl) T.isi (by decide +kernel) (pa_cons (pv 0) (pa_cons (pe_bltn (v := .ty "list") (u := .type "list") (by rfl) T.list (by decide +kernel) rfl) pa_nil))) (pe_callB call_isi (by rfl) T.isi (by decide +kernel) (pa_cons (pv 1) (pa_cons (pe_bltn (v := .ty "list") (u := .type "list") (by rfl) T.list (by decide +kernel) rfl) pa_nil))) (nomark _)) (pw_or1 (pt_cmpR op_ne (pe_callB call_len_seq (by rfl) T.len PySem.boot_len (pa_cons (pv 0) pa_nil)) (pe_callB call_len_seq (by rfl) T.len PySem.boot_len (pa_cons (pv 1) pa_nil)) (nomark _))))) (pss_one (ps_ret pe_bl)) pss_nil)
      (pss_one (ps_ret (pe_cmpR (op_eqD hun) (Xc.pe_lcH (own := [("k", 2)]) (g := gName 2) hot scS.nd (L2H.pi_range1H (by rfl) T.range (pa_cons (pe_callB call_len_seq (by rfl) T.len PySem.boot_len (pa_cons (pv 1) pa_nil)) pa_nil)) (blkOk_by (N := nSame) (sc := defScope sSame) (by decide +kernel)) (fun _ _ _ _ _ _ _ => pg_name (i := 2) scS.nd rfl (Or.inl rfl)) (fun _ _ _ _ _ _ h1 => pts_one (pt_not (pt_val (L2H.pe_callH F hr (Xc.hot_blk h1) (by rfl) B.g B.kp B.b (E := fun _ _ _ _ => False) (fun _ _ _ _ _ _ _ h => h.elim) (pa_cons (pe_ix (ix_seq : IxR _ (rIx K)) (pv 0) (pv 2) (fun _ _ => rfl)) (pa_cons (pe_ix (ix_seq : IxR _ (rIx K)) (pv 1) (pv 2) (fun _ _ => rfl)) pa_nil)))))) (fun _ _ _ _ _ _ _ => pv 2)) (pe_lst pa_nil) (nomark _)))))))))), ?_⟩
    exact rd_sameL e k

end
end Ka

set_option Elab.async false
set_option linter.all false
set_option maxRecDepth 100000
set_option maxHeartbeats 4000000
namespace Ka
open PySem PySem.Spec PyProof.Rows L2
/-! ### what is checked of a class of errors in the written part -/
def oexB (K : PySem.W.Frag) (C P : Addr) : Bool := match K.lookup C with
  | some ⟨cls, dd, .cls cd, sl⟩ => decide (cls = .type "type") && (decide (cd.mro = .ref C :: .ref P :: HandSPX.veTail) && (cd.hasDict && (!cd.hasDel && (match sl.toList with
    | [_, _, _, _, some (.builtin n), _] => decide (n = "ValueError.__new__")
    | _ => false))))
  | _ => false
theorem oexB_ok {K : PySem.W.Frag} {C P : Addr} (h : oexB K C P = true) : (∃ nm q N bs bm sn sub ab col dd k0 k1 k2 k3 k5, K.lookup C = some (excClassObj nm q C N bs bm true sn sub ab col dd k0 k1 k2 k3 k5 "ValueError.__new__") ∧ PySem.HandSPX.refsVE bm = true) ∧
    (∃ cd, PySem.W.clsIn K C = some cd ∧ cd.mro = .ref C :: .ref P :: HandSPX.veTail) ∧ PySem.W.typeIn K (.ref C) = some (.type "type") := by
  unfold oexB at h
  split at h
  · rename_i cls dd cd sl ho
    obtain ⟨nm, bs, mro, ns, qn, hd, sn, sub, ab, col, del⟩ := cd
    obtain ⟨h1, h⟩ := He.ba h
    obtain ⟨h2, h⟩ := He.ba h
    obtain ⟨h3, h⟩ := He.ba h
    obtain ⟨h4, h5⟩ := He.ba h
    have h1 : cls = .type "type" := of_decide_eq_true h1
    have h2 : mro = .ref C :: .ref P :: HandSPX.veTail := of_decide_eq_true h2
    have h3 : hd = true := h3
    have h4a : (!del) = true := h4
    have h4b : del = false := by
      cases z : del
      · rfl
      · rw [z] at h4a
        cases h4a
    subst h1 h2 h3 h4b
    obtain ⟨l⟩ := sl
    split at h5
    · rename_i k0 k1 k2 k3 n k5 e
      have e : l = [k0, k1, k2, k3, some (.builtin n), k5] := e
      have h5 : n = "ValueError.__new__" := of_decide_eq_true h5
      subst e h5
      refine ⟨⟨nm, qn, ns, bs, _, sn, sub, ab, col, dd, k0, k1, k2, k3, k5, ho, (show HandSPX.refsVE HandSPX.veTail = true by decide +kernel)⟩, ⟨{ name := nm, bases := bs, mro := .ref C :: .ref P :: HandSPX.veTail, ns := ns, qualname := qn, hasDict := true, slotNames := sn, subclasses := sub, abstract := ab, collection := col, hasDel := false }, ?_, rfl⟩, ?_⟩
      · unfold PySem.W.clsIn
        rw [ho]
      · show (K.lookup C).map (·.cls) = _
        rw [ho]
        rfl
    · cases h5
  · cases h
/-- a class of errors as the proof knows it; P the base class -/
structure Ecl (K : PySem.W.Frag) (P C : Addr) : Prop where
  oex : OexC K C
  xf : XfC K C
  exc : ExcC K C
  ty : PySem.W.typeIn K (.ref C) = some (.type "type")
  mro : ∃ cd, PySem.W.clsIn K C = some cd ∧ cd.mro = .ref C :: .ref P :: HandSPX.veTail
def eclB (K : PySem.W.Frag) (P C : Addr) : Bool := oexB K C P && (He.eqO (PySem.W.findIn K (.ref C) "__setattr__") (some (some (.builtin "object.__setattr__"))) && (PySem.W.keepIn K (.ref C) && (xfB K C &&
  (He.eqO (PySem.W.findIn K (.ref C) "__class__") (some (some (.builtin "object.__class__"))) && (He.eqO (PySem.W.specialIn K (.builtin "object.__class__") "__get__") (some (some (.builtin "getset_descriptor.__get__"))) &&
    (decide (PySem.W.takesIn K (.builtin "object.__class__") = some true) && decide (PySem.W.mroIn K C (.type "object") = some true)))))))
theorem eclB_ok {K : PySem.W.Frag} {P C : Addr} (h : eclB K P C = true) : Ecl K P C := by
  obtain ⟨h1, h⟩ := He.ba h
  obtain ⟨h2, h⟩ := He.ba h
  obtain ⟨h3, h⟩ := He.ba h
  obtain ⟨h4, h⟩ := He.ba h
  obtain ⟨h5, h⟩ := He.ba h
  obtain ⟨h6, h⟩ := He.ba h
  obtain ⟨h7, h8⟩ := He.ba h
  obtain ⟨o1, o2, o3⟩ := oexB_ok h1
  have x := xfB_ok h4
  exact ⟨⟨o1, He.eqO_ok h2, x.exC, o3, h3⟩, x, ⟨x.ga, x.gg, x.exC, x.hdC, He.eqO_ok h5, He.eqO_ok h6, of_decide_eq_true h7, of_decide_eq_true h8⟩, o3, o2⟩
/-! ### isinstance among them -/
theorem ecl_mroIn {K : PySem.W.Frag} {P C : Addr} (E : Ecl K P C) (v : Value) : PySem.W.mroIn K C v = some ((.ref C :: .ref P :: HandSPX.veTail).contains v) := by
  obtain ⟨cd, e1, e2⟩ := E.mro
  unfold PySem.W.mroIn
  rw [e1, Option.bind_some, e2]
  rfl
theorem kit_ecl {K : PySem.W.Frag} {P C D : Addr} (E : Ecl K P C) (F : Ecl K P D) (hP : D ≠ P) : PySem.W.kitOne K (.ref C) (.ref D) = some (decide (C = D)) := by
  unfold PySem.W.kitOne
  by_cases e : C = D
  · subst e
    rw [if_pos (beq_self_eq_true _), decide_eq_true rfl]
  · rw [if_neg (fun z => e (Value.ref.inj (beq_iff_eq.mp z))), decide_eq_false e]
    obtain ⟨cd, f1, _⟩ := F.mro
    unfold PySem.W.kitCls
    simp only
    rw [f1, F.ty]
    rw [if_pos (by simp)]
    show PySem.W.mroIn K C (.ref D) = _
    rw [ecl_mroIn E]
    simp [HandSPX.veTail, Ne.symm e, hP]
theorem kit_base {K : PySem.W.Frag} {P C : Addr} (E : Ecl K P C) (hP : (PySem.W.clsIn K P).isSome = true) (tP : PySem.W.typeIn K (.ref P) = some (.type "type")) : PySem.W.kitOne K (.ref C) (.ref P) = some true := by
  unfold PySem.W.kitOne
  by_cases e : C = P
  · subst e
    rw [if_pos (beq_self_eq_true _)]
  · rw [if_neg (fun z => e (Value.ref.inj (beq_iff_eq.mp z)))]
    unfold PySem.W.kitCls
    simp only
    rw [hP, tP]
    rw [if_pos (by simp)]
    show PySem.W.mroIn K C (.ref P) = _
    rw [ecl_mroIn E]
    simp
theorem kit_ve {K : PySem.W.Frag} {P C : Addr} (E : Ecl K P C) : PySem.W.kitOne K (.ref C) (.type "ValueError") = some true := by
  unfold PySem.W.kitOne
  rw [if_neg (by intro z; cases beq_iff_eq.mp z)]
  unfold PySem.W.kitCls
  simp only
  rw [if_pos (by decide +kernel)]
  show PySem.W.mroIn K C (.type "ValueError") = _
  rw [ecl_mroIn E]
  simp [HandSPX.veTail]
/-! ### __init__ -/
abbrev iSc (fs : List Str) : Scope := { kind := .function, names := (Str.ofString "self", .local) :: fs.map fun f => (f, .local), isGenerator := false, isCoroutine := false, more := [] }
abbrev iAr (p : Pos) (fs : List (Str × Pos)) : Arguments := { posonlyargs := [], args := { arg := "self", annotation := none, pos := p } :: fs.map fun f => { arg := f.1, annotation := none, pos := f.2 }, vararg := none, kwonlyargs := [], kw_defaults := [], kwarg := none, defaults := [] }
abbrev iAs (f : Str) (a b c d : Pos) : Stmt := .Assign [.Attribute (.Name "self" a) f b] (.Name f c) d
end Ka

set_option Elab.async false
set_option linter.all false
set_option maxRecDepth 100000
set_option maxHeartbeats 4000000
namespace Ka
open PySem PySem.Spec PyProof.Rows L2 Xc
abbrev clsQual : Stmt → Str
  | .ClassDef n .. => n ++ ".__init__"
  | _ => Str.empty
abbrev iniOf : Stmt → Stmt
  | .ClassDef _ _ _ [s] .. => s
  | s => s
/-- an __init__ that keeps its arguments -/
abbrev FnN (K : PySem.W.Frag) (q : Str) (p : Pos) (ps : List (Str × Pos)) (as : List Stmt) (fs : List Str) (f : Addr) (fd : FuncData) : Prop := FunD K "__init__" q (iAr p ps) as (iSc fs) [] [] f fd
abbrev FnI (K : PySem.W.Frag) (st : Stmt) (f : Addr) (fd : FuncData) : Prop := FunD K "__init__" (clsQual st) (defArgs (iniOf st)) (defBody (iniOf st)) (defScope (iniOf st)) [] [] f fd
/-- with keywords: no defaults -/
theorem FunD_kb {K : PySem.W.Frag} {x qual : Str} {params : Arguments} {body : List Stmt} {scope : Scope} {f : Addr} {fd : FuncData} {ps : List Str} (F : FunD K x qual params body scope [] [] f fd) (n : Nat) (ks : List Str) (g : {α : Type} → List α → List α → List α)
    (hrel : ∀ {vs zs : List V} {us ws : List Value}, Vals vs us → Vals zs ws → Vals (g vs zs) (g us ws))
    (h : ∀ (kV doc pm : Value) (an : Option Addr) (cdv ct : Value) (us ws : List Value), us.length = n → ws.length = ks.length → bindArgs (PySem.W.fnOf x qual params body scope .none kV doc pm an cdv ct) ⟨us, ks.zip ws⟩ = pure (ps.zip (g us ws))) :
    KBn K fd ps n ks (fun us ws => g us ws) (fun vs zs => g vs zs) := by
  obtain ⟨oc, od, dV, kV, doc, pm, an, cdv, ct, osl, rfl, lk, hcd, hD, hK⟩ := F.ex
  rcases hD with ⟨_, rfl⟩ | ⟨e, _⟩
  · exact ⟨fun s us ws _ l1 l2 => .of_eq (h kV doc pm an cdv ct us ws l1 l2), fun r1 r2 => hrel r1 r2⟩
  · exact absurd rfl e
theorem vals_rev : ∀ {vs : List V} {us : List Value}, Vals vs us → Vals vs.reverse us.reverse
  | _, _, .nil => .nil
  | v :: vs, u :: us, .cons a b => by
    rw [List.reverse_cons, List.reverse_cons]
    exact (vals_rev b).append (.cons a .nil)
/-- the ways it is called: by place, by name, by name from the back, the first by place -/
structure KBs (K : PySem.W.Frag) (fd : FuncData) (fs : List Str) : Prop where
  a : KBn K fd ("self" :: fs) (fs.length + 1) [] (fun us _ => us) (fun vs _ => vs)
  b : KBn K fd ("self" :: fs) 1 fs (fun us ws => us ++ ws) (fun vs zs => vs ++ zs)
  c : KBn K fd ("self" :: fs) 1 fs.reverse (fun us ws => us ++ ws.reverse) (fun vs zs => vs ++ zs.reverse)
  d : KBn K fd ("self" :: fs) 2 fs.tail.reverse (fun us ws => us ++ ws.reverse) (fun vs zs => vs ++ zs.reverse)
/-- what is proved of a class's __init__ from its text -/
def IniOk (st : Stmt) (fs : List Str) : Prop := ∀ {P : Program} {w : World} {K : PySem.W.Frag} {mg : Str → Option Value} {base : Heap} {C f : Addr} {fd : FuncData}, FnI K st f fd → OexC K C → (∀ y ∈ fs, PySem.W.findIn K (.ref C) y = some none) →
  FnOk P w K mg base CX0 1 f fd ("self" :: fs) (spInit C fs) ∧ KBs K fd fs
section
variable {P : Program} {w : World} {K : PySem.W.Frag} {mg : Str → Option Value} {base : Heap} {C f : Addr} {fd : FuncData} {q : Str}
theorem sc_given : FnScope ["self", "given"] ["self", "given"] (iSc ["given"]) := ⟨rfl, rfl, rfl, by decide +kernel, rfl, by decide +kernel, by decide +kernel⟩
theorem ini_given {p p0 : Pos} {a0 b0 c0 d0 : Pos} (F : FnN K q p [("given", p0)] [iAs "given" a0 b0 c0 d0] ["given"] f fd) (T : OexC K C) (n : ∀ y ∈ (["given"] : List Str), PySem.W.findIn K (.ref C) y = some none) : FnOk P w K mg base CX0 1 f fd ["self", "given"] (spInit C ["given"]) := by
  refine F.ok sc_given (fun vs H Q E h => ?_) (fun cdv A outer s H vs Q E hr h => ?_)
  · obtain ⟨a, ws, rfl, l, _⟩ := h
    show ws.length + 1 = 2
    rw [l]
    rfl
  · obtain ⟨a, ws, rfl, l, ha, h⟩ := h
    match ws, l, h with
    | [v0], l, h =>
    refine ⟨_, pss_one (ps_ost (pv 0) (pv 1)), ?_⟩
    refine ⟨_, rfl, _, rfl, a, C, rfl, T, n _ (by simp), .inl ⟨ha, fun dx hd hne => ?_⟩⟩
    exact h dx _ hd hne upd_same (by rw [upd_ne hne]; exact upd_same) fun b b1 b2 => by rw [upd_ne b1, upd_ne b2]
theorem kb_given {p p0 : Pos} {a0 b0 c0 d0 : Pos} (F : FnN K q p [("given", p0)] [iAs "given" a0 b0 c0 d0] ["given"] f fd) : KBs K fd ["given"] where
  a := FunD_kb F 2 [] (fun us _ => us) (fun r _ => r) fun _ _ _ _ _ _ us ws l1 l2 => match us, ws, l1, l2 with | [_, _], [], _, _ => rfl
  b := FunD_kb F 1 ["given"] (fun us ws => us ++ ws) (fun r s => r.append s) fun _ _ _ _ _ _ us ws l1 l2 => match us, ws, l1, l2 with | [_], [_], _, _ => rfl
  c := FunD_kb F 1 ["given"] (fun us ws => us ++ ws.reverse) (fun r s => r.append (vals_rev s)) fun _ _ _ _ _ _ us ws l1 l2 => match us, ws, l1, l2 with | [_], [_], _, _ => rfl
  d := FunD_kb F 2 [] (fun us ws => us ++ ws.reverse) (fun r s => r.append (vals_rev s)) fun _ _ _ _ _ _ us ws l1 l2 => match us, ws, l1, l2 with | [_, _], [], _, _ => rfl
theorem sc_assignment : FnScope ["self", "assignment"] ["self", "assignment"] (iSc ["assignment"]) := ⟨rfl, rfl, rfl, by decide +kernel, rfl, by decide +kernel, by decide +kernel⟩
theorem ini_assignment {p p0 : Pos} {a0 b0 c0 d0 : Pos} (F : FnN K q p [("assignment", p0)] [iAs "assignment" a0 b0 c0 d0] ["assignment"] f fd) (T : OexC K C) (n : ∀ y ∈ (["assignment"] : List Str), PySem.W.findIn K (.ref C) y = some none) : FnOk P w K mg base CX0 1 f fd ["self", "assignment"] (spInit C ["assignment"]) := by
  refine F.ok sc_assignment (fun vs H Q E h => ?_) (fun cdv A outer s H vs Q E hr h => ?_)
  · obtain ⟨a, ws, rfl, l, _⟩ := h
    show ws.length + 1 = 2
    rw [l]
    rfl
  · obtain ⟨a, ws, rfl, l, ha, h⟩ := h
    match ws, l, h with
    | [v0], l, h =>
    refine ⟨_, pss_one (ps_ost (pv 0) (pv 1)), ?_⟩
    refine ⟨_, rfl, _, rfl, a, C, rfl, T, n _ (by simp), .inl ⟨ha, fun dx hd hne => ?_⟩⟩
    exact h dx _ hd hne upd_same (by rw [upd_ne hne]; exact upd_same) fun b b1 b2 => by rw [upd_ne b1, upd_ne b2]
theorem kb_assignment {p p0 : Pos} {a0 b0 c0 d0 : Pos} (F : FnN K q p [("assignment", p0)] [iAs "assignment" a0 b0 c0 d0] ["assignment"] f fd) : KBs K fd ["assignment"] where
  a := FunD_kb F 2 [] (fun us _ => us) (fun r _ => r) fun _ _ _ _ _ _ us ws l1 l2 => match us, ws, l1, l2 with | [_, _], [], _, _ => rfl
  b := FunD_kb F 1 ["assignment"] (fun us ws => us ++ ws) (fun r s => r.append s) fun _ _ _ _ _ _ us ws l1 l2 => match us, ws, l1, l2 with | [_], [_], _, _ => rfl
  c := FunD_kb F 1 ["assignment"] (fun us ws => us ++ ws.reverse) (fun r s => r.append (vals_rev s)) fun _ _ _ _ _ _ us ws l1 l2 => match us, ws, l1, l2 with | [_], [_], _, _ => rfl
  d := FunD_kb F 2 [] (fun us ws => us ++ ws.reverse) (fun r s => r.append (vals_rev s)) fun _ _ _ _ _ _ us ws l1 l2 => match us, ws, l1, l2 with | [_, _], [], _, _ => rfl
theorem sc_ring : FnScope ["self", "ring"] ["self", "ring"] (iSc ["ring"]) := ⟨rfl, rfl, rfl, by decide +kernel, rfl, by decide +kernel, by decide +kernel⟩
theorem ini_ring {p p0 : Pos} {a0 b0 c0 d0 : Pos} (F : FnN K q p [("ring", p0)] [iAs "ring" a0 b0 c0 d0] ["ring"] f fd) (T : OexC K C) (n : ∀ y ∈ (["ring"] : List Str), PySem.W.findIn K (.ref C) y = some none) : FnOk P w K mg base CX0 1 f fd ["self", "ring"] (spInit C ["ring"]) := by
  refine F.ok sc_ring (fun vs H Q E h => ?_) (fun cdv A outer s H vs Q E hr h => ?_)
  · obtain ⟨a, ws, rfl, l, _⟩ := h
    show ws.length + 1 = 2
    rw [l]
    rfl
  · obtain ⟨a, ws, rfl, l, ha, h⟩ := h
    match ws, l, h with
    | [v0], l, h =>
    refine ⟨_, pss_one (ps_ost (pv 0) (pv 1)), ?_⟩
    refine ⟨_, rfl, _, rfl, a, C, rfl, T, n _ (by simp), .inl ⟨ha, fun dx hd hne => ?_⟩⟩
    exact h dx _ hd hne upd_same (by rw [upd_ne hne]; exact upd_same) fun b b1 b2 => by rw [upd_ne b1, upd_ne b2]
theorem kb_ring {p p0 : Pos} {a0 b0 c0 d0 : Pos} (F : FnN K q p [("ring", p0)] [iAs "ring" a0 b0 c0 d0] ["ring"] f fd) : KBs K fd ["ring"] where
  a := FunD_kb F 2 [] (fun us _ => us) (fun r _ => r) fun _ _ _ _ _ _ us ws l1 l2 => match us, ws, l1, l2 with | [_, _], [], _, _ => rfl
  b := FunD_kb F 1 ["ring"] (fun us ws => us ++ ws) (fun r s => r.append s) fun _ _ _ _ _ _ us ws l1 l2 => match us, ws, l1, l2 with | [_], [_], _, _ => rfl
  c := FunD_kb F 1 ["ring"] (fun us ws => us ++ ws.reverse) (fun r s => r.append (vals_rev s)) fun _ _ _ _ _ _ us ws l1 l2 => match us, ws, l1, l2 with | [_], [_], _, _ => rfl
  d := FunD_kb F 2 [] (fun us ws => us ++ ws.reverse) (fun r s => r.append (vals_rev s)) fun _ _ _ _ _ _ us ws l1 l2 => match us, ws, l1, l2 with | [_, _], [], _, _ => rfl
theorem sc_count : FnScope ["self", "count"] ["self", "count"] (iSc ["count"]) := ⟨rfl, rfl, rfl, by decide +kernel, rfl, by decide +kernel, by decide +kernel⟩
theorem ini_count {p p0 : Pos} {a0 b0 c0 d0 : Pos} (F : FnN K q p [("count", p0)] [iAs "count" a0 b0 c0 d0] ["count"] f fd) (T : OexC K C) (n : ∀ y ∈ (["count"] : List Str), PySem.W.findIn K (.ref C) y = some none) : FnOk P w K mg base CX0 1 f fd ["self", "count"] (spInit C ["count"]) := by
  refine F.ok sc_count (fun vs H Q E h => ?_) (fun cdv A outer s H vs Q E hr h => ?_)
  · obtain ⟨a, ws, rfl, l, _⟩ := h
    show ws.length + 1 = 2
    rw [l]
    rfl
  · obtain ⟨a, ws, rfl, l, ha, h⟩ := h
    match ws, l, h with
    | [v0], l, h =>
    refine ⟨_, pss_one (ps_ost (pv 0) (pv 1)), ?_⟩
    refine ⟨_, rfl, _, rfl, a, C, rfl, T, n _ (by simp), .inl ⟨ha, fun dx hd hne => ?_⟩⟩
    exact h dx _ hd hne upd_same (by rw [upd_ne hne]; exact upd_same) fun b b1 b2 => by rw [upd_ne b1, upd_ne b2]
theorem kb_count {p p0 : Pos} {a0 b0 c0 d0 : Pos} (F : FnN K q p [("count", p0)] [iAs "count" a0 b0 c0 d0] ["count"] f fd) : KBs K fd ["count"] where
  a := FunD_kb F 2 [] (fun us _ => us) (fun r _ => r) fun _ _ _ _ _ _ us ws l1 l2 => match us, ws, l1, l2 with | [_, _], [], _, _ => rfl
  b := FunD_kb F 1 ["count"] (fun us ws => us ++ ws) (fun r s => r.append s) fun _ _ _ _ _ _ us ws l1 l2 => match us, ws, l1, l2 with | [_], [_], _, _ => rfl
  c := FunD_kb F 1 ["count"] (fun us ws => us ++ ws.reverse) (fun r s => r.append (vals_rev s)) fun _ _ _ _ _ _ us ws l1 l2 => match us, ws, l1, l2 with | [_], [_], _, _ => rfl
  d := FunD_kb F 2 [] (fun us ws => us ++ ws.reverse) (fun r s => r.append (vals_rev s)) fun _ _ _ _ _ _ us ws l1 l2 => match us, ws, l1, l2 with | [_, _], [], _, _ => rfl
theorem sc_name : FnScope ["self", "name"] ["self", "name"] (iSc ["name"]) := ⟨rfl, rfl, rfl, by decide +kernel, rfl, by decide +kernel, by decide +kernel⟩
theorem ini_name {p p0 : Pos} {a0 b0 c0 d0 : Pos} (F : FnN K q p [("name", p0)] [iAs "name" a0 b0 c0 d0] ["name"] f fd) (T : OexC K C) (n : ∀ y ∈ (["name"] : List Str), PySem.W.findIn K (.ref C) y = some none) : FnOk P w K mg base CX0 1 f fd ["self", "name"] (spInit C ["name"]) := by
  refine F.ok sc_name (fun vs H Q E h => ?_) (fun cdv A outer s H vs Q E hr h => ?_)
  · obtain ⟨a, ws, rfl, l, _⟩ := h
    show ws.length + 1 = 2
    rw [l]
    rfl
  · obtain ⟨a, ws, rfl, l, ha, h⟩ := h
    match ws, l, h with
    | [v0], l, h =>
    refine ⟨_, pss_one (ps_ost (pv 0) (pv 1)), ?_⟩
    refine ⟨_, rfl, _, rfl, a, C, rfl, T, n _ (by simp), .inl ⟨ha, fun dx hd hne => ?_⟩⟩
    exact h dx _ hd hne upd_same (by rw [upd_ne hne]; exact upd_same) fun b b1 b2 => by rw [upd_ne b1, upd_ne b2]
theorem kb_name {p p0 : Pos} {a0 b0 c0 d0 : Pos} (F : FnN K q p [("name", p0)] [iAs "name" a0 b0 c0 d0] ["name"] f fd) : KBs K fd ["name"] where
  a := FunD_kb F 2 [] (fun us _ => us) (fun r _ => r) fun _ _ _ _ _ _ us ws l1 l2 => match us, ws, l1, l2 with | [_, _], [], _, _ => rfl
  b := FunD_kb F 1 ["name"] (fun us ws => us ++ ws) (fun r s => r.append s) fun _ _ _ _ _ _ us ws l1 l2 => match us, ws, l1, l2 with | [_], [_], _, _ => rfl
  c := FunD_kb F 1 ["name"] (fun us ws => us ++ ws.reverse) (fun r s => r.append (vals_rev s)) fun _ _ _ _ _ _ us ws l1 l2 => match us, ws, l1, l2 with | [_], [_], _, _ => rfl
  d := FunD_kb F 2 [] (fun us ws => us ++ ws.reverse) (fun r s => r.append (vals_rev s)) fun _ _ _ _ _ _ us ws l1 l2 => match us, ws, l1, l2 with | [_, _], [], _, _ => rfl
theorem sc_variable : FnScope ["self", "variable"] ["self", "variable"] (iSc ["variable"]) := ⟨rfl, rfl, rfl, by decide +kernel, rfl, by decide +kernel, by decide +kernel⟩
theorem ini_variable {p p0 : Pos} {a0 b0 c0 d0 : Pos} (F : FnN K q p [("variable", p0)] [iAs "variable" a0 b0 c0 d0] ["variable"] f fd) (T : OexC K C) (n : ∀ y ∈ (["variable"] : List Str), PySem.W.findIn K (.ref C) y = some none) : FnOk P w K mg base CX0 1 f fd ["self", "variable"] (spInit C ["variable"]) := by
  refine F.ok sc_variable (fun vs H Q E h => ?_) (fun cdv A outer s H vs Q E hr h => ?_)
  · obtain ⟨a, ws, rfl, l, _⟩ := h
    show ws.length + 1 = 2
    rw [l]
    rfl
  · obtain ⟨a, ws, rfl, l, ha, h⟩ := h
    match ws, l, h with
    | [v0], l, h =>
    refine ⟨_, pss_one (ps_ost (pv 0) (pv 1)), ?_⟩
    refine ⟨_, rfl, _, rfl, a, C, rfl, T, n _ (by simp), .inl ⟨ha, fun dx hd hne => ?_⟩⟩
    exact h dx _ hd hne upd_same (by rw [upd_ne hne]; exact upd_same) fun b b1 b2 => by rw [upd_ne b1, upd_ne b2]
theorem kb_variable {p p0 : Pos} {a0 b0 c0 d0 : Pos} (F : FnN K q p [("variable", p0)] [iAs "variable" a0 b0 c0 d0] ["variable"] f fd) : KBs K fd ["variable"] where
  a := FunD_kb F 2 [] (fun us _ => us) (fun r _ => r) fun _ _ _ _ _ _ us ws l1 l2 => match us, ws, l1, l2 with | [_, _], [], _, _ => rfl
  b := FunD_kb F 1 ["variable"] (fun us ws => us ++ ws) (fun r s => r.append s) fun _ _ _ _ _ _ us ws l1 l2 => match us, ws, l1, l2 with | [_], [_], _, _ => rfl
  c := FunD_kb F 1 ["variable"] (fun us ws => us ++ ws.reverse) (fun r s => r.append (vals_rev s)) fun _ _ _ _ _ _ us ws l1 l2 => match us, ws, l1, l2 with | [_], [_], _, _ => rfl
  d := FunD_kb F 2 [] (fun us ws => us ++ ws.reverse) (fun r s => r.append (vals_rev s)) fun _ _ _ _ _ _ us ws l1 l2 => match us, ws, l1, l2 with | [_, _], [], _, _ => rfl
theorem sc_outcome : FnScope ["self", "outcome"] ["self", "outcome"] (iSc ["outcome"]) := ⟨rfl, rfl, rfl, by decide +kernel, rfl, by decide +kernel, by decide +kernel⟩
theorem ini_outcome {p p0 : Pos} {a0 b0 c0 d0 : Pos} (F : FnN K q p [("outcome", p0)] [iAs "outcome" a0 b0 c0 d0] ["outcome"] f fd) (T : OexC K C) (n : ∀ y ∈ (["outcome"] : List Str), PySem.W.findIn K (.ref C) y = some none) : FnOk P w K mg base CX0 1 f fd ["self", "outcome"] (spInit C ["outcome"]) := by
  refine F.ok sc_outcome (fun vs H Q E h => ?_) (fun cdv A outer s H vs Q E hr h => ?_)
  · obtain ⟨a, ws, rfl, l, _⟩ := h
    show ws.length + 1 = 2
    rw [l]
    rfl
  · obtain ⟨a, ws, rfl, l, ha, h⟩ := h
    match ws, l, h with
    | [v0], l, h =>
    refine ⟨_, pss_one (ps_ost (pv 0) (pv 1)), ?_⟩
    refine ⟨_, rfl, _, rfl, a, C, rfl, T, n _ (by simp), .inl ⟨ha, fun dx hd hne => ?_⟩⟩
    exact h dx _ hd hne upd_same (by rw [upd_ne hne]; exact upd_same) fun b b1 b2 => by rw [upd_ne b1, upd_ne b2]
theorem kb_outcome {p p0 : Pos} {a0 b0 c0 d0 : Pos} (F : FnN K q p [("outcome", p0)] [iAs "outcome" a0 b0 c0 d0] ["outcome"] f fd) : KBs K fd ["outcome"] where
  a := FunD_kb F 2 [] (fun us _ => us) (fun r _ => r) fun _ _ _ _ _ _ us ws l1 l2 => match us, ws, l1, l2 with | [_, _], [], _, _ => rfl
  b := FunD_kb F 1 ["outcome"] (fun us ws => us ++ ws) (fun r s => r.append s) fun _ _ _ _ _ _ us ws l1 l2 => match us, ws, l1, l2 with | [_], [_], _, _ => rfl
  c := FunD_kb F 1 ["outcome"] (fun us ws => us ++ ws.reverse) (fun r s => r.append (vals_rev s)) fun _ _ _ _ _ _ us ws l1 l2 => match us, ws, l1, l2 with | [_], [_], _, _ => rfl
  d := FunD_kb F 2 [] (fun us ws => us ++ ws.reverse) (fun r s => r.append (vals_rev s)) fun _ _ _ _ _ _ us ws l1 l2 => match us, ws, l1, l2 with | [_, _], [], _, _ => rfl
theorem sc_outcome_ring : FnScope ["self", "outcome", "ring"] ["self", "outcome", "ring"] (iSc ["outcome", "ring"]) := ⟨rfl, rfl, rfl, by decide +kernel, rfl, by decide +kernel, by decide +kernel⟩
theorem ini_outcome_ring {p p0 p1 : Pos} {a0 b0 c0 d0 a1 b1 c1 d1 : Pos} (F : FnN K q p [("outcome", p0), ("ring", p1)] [iAs "outcome" a0 b0 c0 d0, iAs "ring" a1 b1 c1 d1] ["outcome", "ring"] f fd) (T : OexC K C) (n : ∀ y ∈ (["outcome", "ring"] : List Str), PySem.W.findIn K (.ref C) y = some none) : FnOk P w K mg base CX0 1 f fd ["self", "outcome", "ring"] (spInit C ["outcome", "ring"]) := by
  refine F.ok sc_outcome_ring (fun vs H Q E h => ?_) (fun cdv A outer s H vs Q E hr h => ?_)
  · obtain ⟨a, ws, rfl, l, _⟩ := h
    show ws.length + 1 = 3
    rw [l]
    rfl
  · obtain ⟨a, ws, rfl, l, ha, h⟩ := h
    match ws, l, h with
    | [v0, v1], l, h =>
    refine ⟨_, pss_cons (ps_ost (pv 0) (pv 1)) (pss_one (ps_ost (pv 0) (pv 2))), ?_⟩
    refine ⟨_, rfl, _, rfl, a, C, rfl, T, n _ (by simp), .inl ⟨ha, fun dx hd hne => ?_⟩⟩
    have hd0 : upd (upd H dx (exd dx [("outcome", v0)])) a (exo a C (some dx)) dx = some (exd dx [("outcome", v0)]) := by rw [upd_ne hne]; exact upd_same
    refine ⟨_, rfl, _, rfl, a, C, rfl, T, n _ (by simp), .inr ⟨dx, _, upd_same, hd0, (by show 1 ≤ 900; decide), ?_⟩⟩
    exact h dx _ hd hne (by rw [upd_ne (Ne.symm hne)]; exact upd_same) upd_same fun b b1 b2 => by rw [upd_ne b2, upd_ne b1, upd_ne b2]
theorem kb_outcome_ring {p p0 p1 : Pos} {a0 b0 c0 d0 a1 b1 c1 d1 : Pos} (F : FnN K q p [("outcome", p0), ("ring", p1)] [iAs "outcome" a0 b0 c0 d0, iAs "ring" a1 b1 c1 d1] ["outcome", "ring"] f fd) : KBs K fd ["outcome", "ring"] where
  a := FunD_kb F 3 [] (fun us _ => us) (fun r _ => r) fun _ _ _ _ _ _ us ws l1 l2 => match us, ws, l1, l2 with | [_, _, _], [], _, _ => rfl
  b := FunD_kb F 1 ["outcome", "ring"] (fun us ws => us ++ ws) (fun r s => r.append s) fun _ _ _ _ _ _ us ws l1 l2 => match us, ws, l1, l2 with | [_], [_, _], _, _ => rfl
  c := FunD_kb F 1 ["ring", "outcome"] (fun us ws => us ++ ws.reverse) (fun r s => r.append (vals_rev s)) fun _ _ _ _ _ _ us ws l1 l2 => match us, ws, l1, l2 with | [_], [_, _], _, _ => rfl
  d := FunD_kb F 2 ["ring"] (fun us ws => us ++ ws.reverse) (fun r s => r.append (vals_rev s)) fun _ _ _ _ _ _ us ws l1 l2 => match us, ws, l1, l2 with | [_, _], [_], _, _ => rfl
theorem sc_one_other : FnScope ["self", "one", "other"] ["self", "one", "other"] (iSc ["one", "other"]) := ⟨rfl, rfl, rfl, by decide +kernel, rfl, by decide +kernel, by decide +kernel⟩
theorem ini_one_other {p p0 p1 : Pos} {a0 b0 c0 d0 a1 b1 c1 d1 : Pos} (F : FnN K q p [("one", p0), ("other", p1)] [iAs "one" a0 b0 c0 d0, iAs "other" a1 b1 c1 d1] ["one", "other"] f fd) (T : OexC K C) (n : ∀ y ∈ (["one", "other"] : List Str), PySem.W.findIn K (.ref C) y = some none) : FnOk P w K mg base CX0 1 f fd ["self", "one", "other"] (spInit C ["one", "other"]) := by
  refine F.ok sc_one_other (fun vs H Q E h => ?_) (fun cdv A outer s H vs Q E hr h => ?_)
  · obtain ⟨a, ws, rfl, l, _⟩ := h
    show ws.length + 1 = 3
    rw [l]
    rfl
  · obtain ⟨a, ws, rfl, l, ha, h⟩ := h
    match ws, l, h with
    | [v0, v1], l, h =>
    refine ⟨_, pss_cons (ps_ost (pv 0) (pv 1)) (pss_one (ps_ost (pv 0) (pv 2))), ?_⟩
    refine ⟨_, rfl, _, rfl, a, C, rfl, T, n _ (by simp), .inl ⟨ha, fun dx hd hne => ?_⟩⟩
    have hd0 : upd (upd H dx (exd dx [("one", v0)])) a (exo a C (some dx)) dx = some (exd dx [("one", v0)]) := by rw [upd_ne hne]; exact upd_same
    refine ⟨_, rfl, _, rfl, a, C, rfl, T, n _ (by simp), .inr ⟨dx, _, upd_same, hd0, (by show 1 ≤ 900; decide), ?_⟩⟩
    exact h dx _ hd hne (by rw [upd_ne (Ne.symm hne)]; exact upd_same) upd_same fun b b1 b2 => by rw [upd_ne b2, upd_ne b1, upd_ne b2]
theorem kb_one_other {p p0 p1 : Pos} {a0 b0 c0 d0 a1 b1 c1 d1 : Pos} (F : FnN K q p [("one", p0), ("other", p1)] [iAs "one" a0 b0 c0 d0, iAs "other" a1 b1 c1 d1] ["one", "other"] f fd) : KBs K fd ["one", "other"] where
  a := FunD_kb F 3 [] (fun us _ => us) (fun r _ => r) fun _ _ _ _ _ _ us ws l1 l2 => match us, ws, l1, l2 with | [_, _, _], [], _, _ => rfl
  b := FunD_kb F 1 ["one", "other"] (fun us ws => us ++ ws) (fun r s => r.append s) fun _ _ _ _ _ _ us ws l1 l2 => match us, ws, l1, l2 with | [_], [_, _], _, _ => rfl
  c := FunD_kb F 1 ["other", "one"] (fun us ws => us ++ ws.reverse) (fun r s => r.append (vals_rev s)) fun _ _ _ _ _ _ us ws l1 l2 => match us, ws, l1, l2 with | [_], [_, _], _, _ => rfl
  d := FunD_kb F 2 ["other"] (fun us ws => us ++ ws.reverse) (fun r s => r.append (vals_rev s)) fun _ _ _ _ _ _ us ws l1 l2 => match us, ws, l1, l2 with | [_, _], [_], _, _ => rfl
theorem sc_variable_values : FnScope ["self", "variable", "values"] ["self", "variable", "values"] (iSc ["variable", "values"]) := ⟨rfl, rfl, rfl, by decide +kernel, rfl, by decide +kernel, by decide +kernel⟩
theorem ini_variable_values {p p0 p1 : Pos} {a0 b0 c0 d0 a1 b1 c1 d1 : Pos} (F : FnN K q p [("variable", p0), ("values", p1)] [iAs "variable" a0 b0 c0 d0, iAs "values" a1 b1 c1 d1] ["variable", "values"] f fd) (T : OexC K C) (n : ∀ y ∈ (["variable", "values"] : List Str), PySem.W.findIn K (.ref C) y = some none) : FnOk P w K mg base CX0 1 f fd ["self", "variable", "values"] (spInit C ["variable", "values"]) := by
  refine F.ok sc_variable_values (fun vs H Q E h => ?_) (fun cdv A outer s H vs Q E hr h => ?_)
  · obtain ⟨a, ws, rfl, l, _⟩ := h
    show ws.length + 1 = 3
    rw [l]
    rfl
  · obtain ⟨a, ws, rfl, l, ha, h⟩ := h
    match ws, l, h with
    | [v0, v1], l, h =>
    refine ⟨_, pss_cons (ps_ost (pv 0) (pv 1)) (pss_one (ps_ost (pv 0) (pv 2))), ?_⟩
    refine ⟨_, rfl, _, rfl, a, C, rfl, T, n _ (by simp), .inl ⟨ha, fun dx hd hne => ?_⟩⟩
    have hd0 : upd (upd H dx (exd dx [("variable", v0)])) a (exo a C (some dx)) dx = some (exd dx [("variable", v0)]) := by rw [upd_ne hne]; exact upd_same
    refine ⟨_, rfl, _, rfl, a, C, rfl, T, n _ (by simp), .inr ⟨dx, _, upd_same, hd0, (by show 1 ≤ 900; decide), ?_⟩⟩
    exact h dx _ hd hne (by rw [upd_ne (Ne.symm hne)]; exact upd_same) upd_same fun b b1 b2 => by rw [upd_ne b2, upd_ne b1, upd_ne b2]
theorem kb_variable_values {p p0 p1 : Pos} {a0 b0 c0 d0 a1 b1 c1 d1 : Pos} (F : FnN K q p [("variable", p0), ("values", p1)] [iAs "variable" a0 b0 c0 d0, iAs "values" a1 b1 c1 d1] ["variable", "values"] f fd) : KBs K fd ["variable", "values"] where
  a := FunD_kb F 3 [] (fun us _ => us) (fun r _ => r) fun _ _ _ _ _ _ us ws l1 l2 => match us, ws, l1, l2 with | [_, _, _], [], _, _ => rfl
  b := FunD_kb F 1 ["variable", "values"] (fun us ws => us ++ ws) (fun r s => r.append s) fun _ _ _ _ _ _ us ws l1 l2 => match us, ws, l1, l2 with | [_], [_, _], _, _ => rfl
  c := FunD_kb F 1 ["values", "variable"] (fun us ws => us ++ ws.reverse) (fun r s => r.append (vals_rev s)) fun _ _ _ _ _ _ us ws l1 l2 => match us, ws, l1, l2 with | [_], [_, _], _, _ => rfl
  d := FunD_kb F 2 ["values"] (fun us ws => us ++ ws.reverse) (fun r s => r.append (vals_rev s)) fun _ _ _ _ _ _ us ws l1 l2 => match us, ws, l1, l2 with | [_, _], [_], _, _ => rfl
theorem sc_outcome_variable_values : FnScope ["self", "outcome", "variable", "values"] ["self", "outcome", "variable", "values"] (iSc ["outcome", "variable", "values"]) := ⟨rfl, rfl, rfl, by decide +kernel, rfl, by decide +kernel, by decide +kernel⟩
theorem ini_outcome_variable_values {p p0 p1 p2 : Pos} {a0 b0 c0 d0 a1 b1 c1 d1 a2 b2 c2 d2 : Pos} (F : FnN K q p [("outcome", p0), ("variable", p1), ("values", p2)] [iAs "outcome" a0 b0 c0 d0, iAs "variable" a1 b1 c1 d1, iAs "values" a2 b2 c2 d2] ["outcome", "variable", "values"] f fd) (T : OexC K C) (n : ∀ y ∈ (["outcome", "variable", "values"] : List Str), PySem.W.findIn K (.ref C) y = some none) : FnOk P w K mg base CX0 1 f fd ["self", "outcome", "variable", "values"] (spInit C ["outcome", "variable", "values"]) := by
  refine F.ok sc_outcome_variable_values (fun vs H Q E h => ?_) (fun cdv A outer s H vs Q E hr h => ?_)
  · obtain ⟨a, ws, rfl, l, _⟩ := h
    show ws.length + 1 = 4
    rw [l]
    rfl
  · obtain ⟨a, ws, rfl, l, ha, h⟩ := h
    match ws, l, h with
    | [v0, v1, v2], l, h =>
    refine ⟨_, pss_cons (ps_ost (pv 0) (pv 1)) (pss_cons (ps_ost (pv 0) (pv 2)) (pss_one (ps_ost (pv 0) (pv 3)))), ?_⟩
    refine ⟨_, rfl, _, rfl, a, C, rfl, T, n _ (by simp), .inl ⟨ha, fun dx hd hne => ?_⟩⟩
    have hd0 : upd (upd H dx (exd dx [("outcome", v0)])) a (exo a C (some dx)) dx = some (exd dx [("outcome", v0)]) := by rw [upd_ne hne]; exact upd_same
    refine ⟨_, rfl, _, rfl, a, C, rfl, T, n _ (by simp), .inr ⟨dx, _, upd_same, hd0, (by show 1 ≤ 900; decide), ?_⟩⟩
    refine ⟨_, rfl, _, rfl, a, C, rfl, T, n _ (by simp), .inr ⟨dx, _, (by rw [upd_ne (Ne.symm hne)]; exact upd_same), upd_same, (by show 2 ≤ 900; decide), ?_⟩⟩
    exact h dx _ hd hne (by rw [upd_ne (Ne.symm hne)]; exact (by rw [upd_ne (Ne.symm hne)]; exact upd_same)) upd_same fun b b1 b2 => by rw [upd_ne b2, upd_ne b2, upd_ne b1, upd_ne b2]
theorem kb_outcome_variable_values {p p0 p1 p2 : Pos} {a0 b0 c0 d0 a1 b1 c1 d1 a2 b2 c2 d2 : Pos} (F : FnN K q p [("outcome", p0), ("variable", p1), ("values", p2)] [iAs "outcome" a0 b0 c0 d0, iAs "variable" a1 b1 c1 d1, iAs "values" a2 b2 c2 d2] ["outcome", "variable", "values"] f fd) : KBs K fd ["outcome", "variable", "values"] where
  a := FunD_kb F 4 [] (fun us _ => us) (fun r _ => r) fun _ _ _ _ _ _ us ws l1 l2 => match us, ws, l1, l2 with | [_, _, _, _], [], _, _ => rfl
  b := FunD_kb F 1 ["outcome", "variable", "values"] (fun us ws => us ++ ws) (fun r s => r.append s) fun _ _ _ _ _ _ us ws l1 l2 => match us, ws, l1, l2 with | [_], [_, _, _], _, _ => rfl
  c := FunD_kb F 1 ["values", "variable", "outcome"] (fun us ws => us ++ ws.reverse) (fun r s => r.append (vals_rev s)) fun _ _ _ _ _ _ us ws l1 l2 => match us, ws, l1, l2 with | [_], [_, _, _], _, _ => rfl
  d := FunD_kb F 2 ["values", "variable"] (fun us ws => us ++ ws.reverse) (fun r s => r.append (vals_rev s)) fun _ _ _ _ _ _ us ws l1 l2 => match us, ws, l1, l2 with | [_, _], [_, _], _, _ => rfl
end
theorem io_2 : IniOk (tp 2) ["given"] := fun F T n => ⟨ini_given F T n, kb_given F⟩
theorem io_3 : IniOk (tp 3) ["given"] := fun F T n => ⟨ini_given F T n, kb_given F⟩
theorem io_4 : IniOk (tp 4) ["given"] := fun F T n => ⟨ini_given F T n, kb_given F⟩
theorem io_5 : IniOk (tp 5) ["given"] := fun F T n => ⟨ini_given F T n, kb_given F⟩
theorem io_6 : IniOk (tp 6) ["given"] := fun F T n => ⟨ini_given F T n, kb_given F⟩
theorem io_7 : IniOk (tp 7) ["given"] := fun F T n => ⟨ini_given F T n, kb_given F⟩
theorem io_8 : IniOk (tp 8) ["given"] := fun F T n => ⟨ini_given F T n, kb_given F⟩
theorem io_9 : IniOk (tp 9) ["given"] := fun F T n => ⟨ini_given F T n, kb_given F⟩
theorem io_10 : IniOk (tp 10) ["given"] := fun F T n => ⟨ini_given F T n, kb_given F⟩
theorem io_11 : IniOk (tp 11) ["given"] := fun F T n => ⟨ini_given F T n, kb_given F⟩
theorem io_12 : IniOk (tp 12) ["given"] := fun F T n => ⟨ini_given F T n, kb_given F⟩
theorem io_13 : IniOk (tp 13) ["given"] := fun F T n => ⟨ini_given F T n, kb_given F⟩
theorem io_14 : IniOk (tp 14) ["given"] := fun F T n => ⟨ini_given F T n, kb_given F⟩
theorem io_15 : IniOk (tp 15) ["given"] := fun F T n => ⟨ini_given F T n, kb_given F⟩
theorem io_16 : IniOk (tp 16) ["given"] := fun F T n => ⟨ini_given F T n, kb_given F⟩
theorem io_17 : IniOk (tp 17) ["given"] := fun F T n => ⟨ini_given F T n, kb_given F⟩
theorem io_18 : IniOk (tp 18) ["given"] := fun F T n => ⟨ini_given F T n, kb_given F⟩
theorem io_19 : IniOk (tp 19) ["given"] := fun F T n => ⟨ini_given F T n, kb_given F⟩
theorem io_20 : IniOk (tp 20) ["given"] := fun F T n => ⟨ini_given F T n, kb_given F⟩
theorem io_21 : IniOk (tp 21) ["given"] := fun F T n => ⟨ini_given F T n, kb_given F⟩
theorem io_22 : IniOk (tp 22) ["given"] := fun F T n => ⟨ini_given F T n, kb_given F⟩
theorem io_23 : IniOk (tp 23) ["given"] := fun F T n => ⟨ini_given F T n, kb_given F⟩
theorem io_24 : IniOk (tp 24) ["given"] := fun F T n => ⟨ini_given F T n, kb_given F⟩
theorem io_25 : IniOk (tp 25) ["given"] := fun F T n => ⟨ini_given F T n, kb_given F⟩
theorem io_26 : IniOk (tp 26) ["given"] := fun F T n => ⟨ini_given F T n, kb_given F⟩
theorem io_27 : IniOk (tp 27) ["given"] := fun F T n => ⟨ini_given F T n, kb_given F⟩
theorem io_28 : IniOk (tp 28) ["given"] := fun F T n => ⟨ini_given F T n, kb_given F⟩
theorem io_29 : IniOk (tp 29) ["given"] := fun F T n => ⟨ini_given F T n, kb_given F⟩
theorem io_30 : IniOk (tp 30) ["given"] := fun F T n => ⟨ini_given F T n, kb_given F⟩
theorem io_31 : IniOk (tp 31) ["given"] := fun F T n => ⟨ini_given F T n, kb_given F⟩
theorem io_32 : IniOk (tp 32) ["given"] := fun F T n => ⟨ini_given F T n, kb_given F⟩
theorem io_33 : IniOk (tp 33) ["given"] := fun F T n => ⟨ini_given F T n, kb_given F⟩
theorem io_34 : IniOk (tp 34) ["given"] := fun F T n => ⟨ini_given F T n, kb_given F⟩
theorem io_35 : IniOk (tp 35) ["given"] := fun F T n => ⟨ini_given F T n, kb_given F⟩
theorem io_36 : IniOk (tp 36) ["given"] := fun F T n => ⟨ini_given F T n, kb_given F⟩
theorem io_37 : IniOk (tp 37) ["given"] := fun F T n => ⟨ini_given F T n, kb_given F⟩
theorem io_38 : IniOk (tp 38) ["given"] := fun F T n => ⟨ini_given F T n, kb_given F⟩
theorem io_39 : IniOk (tp 39) ["given"] := fun F T n => ⟨ini_given F T n, kb_given F⟩
theorem io_40 : IniOk (tp 40) ["given"] := fun F T n => ⟨ini_given F T n, kb_given F⟩
theorem io_41 : IniOk (tp 41) ["given"] := fun F T n => ⟨ini_given F T n, kb_given F⟩
theorem io_42 : IniOk (tp 42) ["given"] := fun F T n => ⟨ini_given F T n, kb_given F⟩
theorem io_43 : IniOk (tp 43) ["given"] := fun F T n => ⟨ini_given F T n, kb_given F⟩
theorem io_44 : IniOk (tp 44) ["given"] := fun F T n => ⟨ini_given F T n, kb_given F⟩
theorem io_45 : IniOk (tp 45) ["given"] := fun F T n => ⟨ini_given F T n, kb_given F⟩
theorem io_46 : IniOk (tp 46) ["given"] := fun F T n => ⟨ini_given F T n, kb_given F⟩
theorem io_47 : IniOk (tp 47) ["given"] := fun F T n => ⟨ini_given F T n, kb_given F⟩
theorem io_48 : IniOk (tp 48) ["given"] := fun F T n => ⟨ini_given F T n, kb_given F⟩
theorem io_50 : IniOk (tp 50) ["assignment"] := fun F T n => ⟨ini_assignment F T n, kb_assignment F⟩
theorem io_52 : IniOk (tp 52) ["ring"] := fun F T n => ⟨ini_ring F T n, kb_ring F⟩
theorem io_53 : IniOk (tp 53) ["count"] := fun F T n => ⟨ini_count F T n, kb_count F⟩
theorem io_54 : IniOk (tp 54) ["count"] := fun F T n => ⟨ini_count F T n, kb_count F⟩
theorem io_55 : IniOk (tp 55) ["name"] := fun F T n => ⟨ini_name F T n, kb_name F⟩
theorem io_56 : IniOk (tp 56) ["variable"] := fun F T n => ⟨ini_variable F T n, kb_variable F⟩
theorem io_57 : IniOk (tp 57) ["name"] := fun F T n => ⟨ini_name F T n, kb_name F⟩
theorem io_58 : IniOk (tp 58) ["ring"] := fun F T n => ⟨ini_ring F T n, kb_ring F⟩
theorem io_60 : IniOk (tp 60) ["name"] := fun F T n => ⟨ini_name F T n, kb_name F⟩
theorem io_61 : IniOk (tp 61) ["variable"] := fun F T n => ⟨ini_variable F T n, kb_variable F⟩
theorem io_62 : IniOk (tp 62) ["variable"] := fun F T n => ⟨ini_variable F T n, kb_variable F⟩
theorem io_64 : IniOk (tp 64) ["variable"] := fun F T n => ⟨ini_variable F T n, kb_variable F⟩
theorem io_67 : IniOk (tp 67) ["ring"] := fun F T n => ⟨ini_ring F T n, kb_ring F⟩
theorem io_68 : IniOk (tp 68) ["outcome"] := fun F T n => ⟨ini_outcome F T n, kb_outcome F⟩
theorem io_69 : IniOk (tp 69) ["name"] := fun F T n => ⟨ini_name F T n, kb_name F⟩
theorem io_72 : IniOk (tp 72) ["count"] := fun F T n => ⟨ini_count F T n, kb_count F⟩
theorem io_73 : IniOk (tp 73) ["count"] := fun F T n => ⟨ini_count F T n, kb_count F⟩
theorem io_74 : IniOk (tp 74) ["variable"] := fun F T n => ⟨ini_variable F T n, kb_variable F⟩
theorem io_51 : IniOk (tp 51) ["outcome", "ring"] := fun F T n => ⟨ini_outcome_ring F T n, kb_outcome_ring F⟩
theorem io_63 : IniOk (tp 63) ["one", "other"] := fun F T n => ⟨ini_one_other F T n, kb_one_other F⟩
theorem io_70 : IniOk (tp 70) ["one", "other"] := fun F T n => ⟨ini_one_other F T n, kb_one_other F⟩
theorem io_71 : IniOk (tp 71) ["variable", "values"] := fun F T n => ⟨ini_variable_values F T n, kb_variable_values F⟩
theorem io_59 : IniOk (tp 59) ["outcome", "variable", "values"] := fun F T n => ⟨ini_outcome_variable_values F T n, kb_outcome_variable_values F⟩
abbrev en (x : Str) (st : Stmt) (fs : List Str) : Str × Stmt × List Str := (x, st, fs)
/-- the classes with an __init__, in the order of the lists that the law makes -/
def tab0 : List (Str × Stmt × List Str) := [en "InvalidAssignment" (tp 2) ["given"], en "InvalidBounds" (tp 3) ["given"], en "InvalidChances" (tp 4) ["given"], en "InvalidCount" (tp 5) ["given"], en "InvalidExamples" (tp 6) ["given"], en "InvalidFamilies" (tp 7) ["given"], en "InvalidFrame" (tp 8) ["given"], en "InvalidGains" (tp 9) ["given"], en "InvalidGoals" (tp 10) ["given"], en "InvalidImportances" (tp 11) ["given"], en "InvalidIndex" (tp 12) ["given"], en "InvalidItem" (tp 13) ["given"]]
def tab1 : List (Str × Stmt × List Str) := [en "InvalidLevels" (tp 14) ["given"], en "InvalidLines" (tp 15) ["given"], en "InvalidName" (tp 16) ["given"], en "InvalidNet" (tp 17) ["given"], en "InvalidNets" (tp 18) ["given"], en "InvalidNumber" (tp 19) ["given"], en "InvalidOrder" (tp 20) ["given"], en "InvalidOutcome" (tp 21) ["given"], en "InvalidOutcomes" (tp 22) ["given"], en "InvalidPairs" (tp 23) ["given"], en "InvalidParent" (tp 24) ["given"], en "InvalidParents" (tp 25) ["given"]]
def tab2 : List (Str × Stmt × List Str) := [en "InvalidPart" (tp 26) ["given"], en "InvalidPlace" (tp 27) ["given"], en "InvalidProducts" (tp 28) ["given"], en "InvalidProfile" (tp 29) ["given"], en "InvalidRanking" (tp 30) ["given"], en "InvalidReport" (tp 31) ["given"], en "InvalidRing" (tp 32) ["given"], en "InvalidRow" (tp 33) ["given"], en "InvalidSketch" (tp 34) ["given"], en "InvalidSpace" (tp 35) ["given"], en "InvalidStatement" (tp 36) ["given"], en "InvalidStrata" (tp 37) ["given"]]
def tab3 : List (Str × Stmt × List Str) := [en "InvalidSwaps" (tp 38) ["given"], en "InvalidText" (tp 39) ["given"], en "InvalidTheory" (tp 40) ["given"], en "InvalidTree" (tp 41) ["given"], en "InvalidValue" (tp 42) ["given"], en "InvalidValues" (tp 43) ["given"], en "InvalidVariable" (tp 44) ["given"], en "InvalidVariables" (tp 45) ["given"], en "InvalidVoter" (tp 46) ["given"], en "InvalidWay" (tp 47) ["given"], en "InvalidWorths" (tp 48) ["given"], en "All" (tp 50) ["assignment"]]
def tab4 : List (Str × Stmt × List Str) := [en "Cyclic" (tp 52) ["ring"], en "Even" (tp 53) ["count"], en "Full" (tp 54) ["count"], en "NoName" (tp 55) ["name"], en "NoNet" (tp 56) ["variable"], en "NoTheory" (tp 57) ["name"], en "NotFirst" (tp 58) ["ring"], en "NotNet" (tp 60) ["name"], en "NotReduced" (tp 61) ["variable"], en "NotSeparable" (tp 62) ["variable"], en "NotTwo" (tp 64) ["variable"], en "Ringed" (tp 67) ["ring"]]
def tab5 : List (Str × Stmt × List Str) := [en "Same" (tp 68) ["outcome"], en "Taken" (tp 69) ["name"], en "TooLarge" (tp 72) ["count"], en "TooMany" (tp 73) ["count"], en "Unapart" (tp 74) ["variable"], en "ArrowRing" (tp 51) ["outcome", "ring"], en "NotSwap" (tp 63) ["one", "other"], en "Tied" (tp 70) ["one", "other"], en "Told" (tp 71) ["variable", "values"], en "NotLocal" (tp 59) ["outcome", "variable", "values"]]
def tab : List (Str × Stmt × List Str) := tab0 ++ (tab1 ++ (tab2 ++ (tab3 ++ (tab4 ++ (tab5)))))
inductive AllP {α : Type} (p : α → Prop) : List α → Prop
  | nil : AllP p []
  | cons {a : α} {l : List α} : p a → AllP p l → AllP p (a :: l)
theorem AllP.at {α : Type} {p : α → Prop} : ∀ {l : List α}, AllP p l → ∀ {i : Nat} {a : α}, l[i]? = some a → p a
  | _ :: _, .cons h _, 0, _, e => by
    cases (show some _ = some _ from e)
    exact h
  | _ :: _, .cons _ r, i + 1, _, e => r.at (i := i) e
theorem tab_ok : AllP (fun t : Str × Stmt × List Str => IniOk t.2.1 t.2.2) tab := .cons io_2 (.cons io_3 (.cons io_4 (.cons io_5 (.cons io_6 (.cons io_7 (.cons io_8 (.cons io_9 (.cons io_10 (.cons io_11 (.cons io_12 (.cons io_13 (.cons io_14 (.cons io_15 (.cons io_16 (.cons io_17 (.cons io_18 (.cons io_19 (.cons io_20 (.cons io_21 (.cons io_22 (.cons io_23 (.cons io_24 (.cons io_25 (.cons io_26 (.cons io_27 (.cons io_28 (.cons io_29 (.cons io_30 (.cons io_31 (.cons io_32 (.cons io_33 (.cons io_34 (.cons io_35 (.cons io_36 (.cons io_37 (.cons io_38 (.cons io_39 (.cons io_40 (.cons io_41 (.cons io_42 (.cons io_43 (.cons io_44 (.cons io_45 (.cons io_46 (.cons io_47 (.cons io_48 (.cons io_50 (.cons io_52 (.cons io_53 (.cons io_54 (.cons io_55 (.cons io_56 (.cons io_57 (.cons io_58 (.cons io_60 (.cons io_61 (.cons io_62 (.cons io_64 (.cons io_67 (.cons io_68 (.cons io_69 (.cons io_72 (.cons io_73 (.cons io_74 (.cons io_51 (.cons io_63 (.cons io_70 (.cons io_71 (.cons io_59 (.nil))))))))))))))))))))))))))))))))))))))))))))))))))))))))))))))))))))))
end Ka

set_option Elab.async false
set_option linter.all false
set_option maxRecDepth 100000
set_option maxHeartbeats 4000000
namespace Ka
open PySem PySem.Spec PyProof.Rows L2 Xc
/-- a class of errors with an __init__, ready for the walk -/
structure Ec (P : Program) (w : World) (K : PySem.W.Frag) (mg : Str → Option Value) (base : Heap) (Pb : Addr) (x : Str) (fs : List Str) (C : Addr) : Prop where
  g : mg x = some (.ref C)
  cl : Ecl K Pb C
  ini : ∃ fI fd, PySem.W.findIn K (.ref C) "__init__" = some (some (.ref fI)) ∧ PySem.W.typeIn K (.ref fI) = some (.type "function") ∧ FnOk P w K mg base CX0 1 fI fd ("self" :: fs) (spInit C fs) ∧ KBs K fd fs
  no : ∀ y ∈ fs, PySem.W.findIn K (.ref C) y = some none
def tabB (K : PySem.W.Frag) (t : Str × Stmt × List Str) : Bool :=
  He.eqO (PySem.W.nsIn K mainGlobals t.1) (some (some (.ref (He.ga K t.1)))) && (eclB K (He.ga K "PreferenceError") (He.ga K t.1) && (He.eqO (PySem.W.findIn K (.ref (He.ga K t.1)) "__init__") (some (some (.ref (He.ma K (He.ga K t.1) "__init__")))) &&
    (decide (PySem.W.typeIn K (.ref (He.ma K (He.ga K t.1) "__init__")) = some (.type "function")) && ((He.Fa.code (t.1, some "__init__") (clsQual t.2.1)).ok K && t.2.2.all fun y => He.eqO (PySem.W.findIn K (.ref (He.ga K t.1)) y) (some none)))))
def fnD (t : Str × Stmt × List Str) : He.FnD := ⟨(t.1, some "__init__"), "__init__", clsQual t.2.1, defArgs (iniOf t.2.1), defBody (iniOf t.2.1), defScope (iniOf t.2.1)⟩
theorem ec_of {P : Program} {w : World} {K : PySem.W.Frag} {mg : Str → Option Value} {base h : Heap} {t : Str × Stmt × List Str} (X : K.In h) (G : h.Ns mainGlobals mg) (c : tabB K t = true) (o : He.fnObs K (fnD t).at_ = (fnD t).val) (i : IniOk t.2.1 t.2.2) :
    Ec P w K mg base (He.ga K "PreferenceError") t.1 t.2.2 (He.ga K t.1) := by
  obtain ⟨c1, c⟩ := He.ba c
  obtain ⟨c2, c⟩ := He.ba c
  obtain ⟨c3, c⟩ := He.ba c
  obtain ⟨c6, c⟩ := He.ba c
  obtain ⟨c4, c5⟩ := He.ba c
  have E := eclB_ok c2
  have no : ∀ y ∈ t.2.2, PySem.W.findIn K (.ref (He.ga K t.1)) y = some none := fun y hy => He.eqO_ok (List.all_eq_true.mp c5 y hy)
  obtain ⟨oc, od, osl, kV, doc, pm, an, cdv, ct, lk, hcd⟩ := He.fn_ok (d := fnD t) o c4
  have lk : K.lookup (He.ma K (He.ga K t.1) "__init__") = some ⟨oc, od, .func (PySem.W.fnOf "__init__" (clsQual t.2.1) (defArgs (iniOf t.2.1)) (defBody (iniOf t.2.1)) (defScope (iniOf t.2.1)) .none kV doc pm an cdv ct), osl⟩ := lk
  have F : FnI K t.2.1 (He.ma K (He.ga K t.1) "__init__") (PySem.W.fnOf "__init__" (clsQual t.2.1) (defArgs (iniOf t.2.1)) (defBody (iniOf t.2.1)) (defScope (iniOf t.2.1)) .none kV doc pm an cdv ct) :=
    ⟨⟨oc, od, .none, kV, doc, pm, an, cdv, ct, osl, rfl, lk, hcd, .inl ⟨rfl, rfl⟩, .inl rfl⟩, by
      unfold PySem.W.keepIn
      simp only
      rw [lk]⟩
  obtain ⟨i1, i2⟩ := i (P := P) (w := w) (mg := mg) (base := base) F E.oex no
  exact ⟨PySem.W.mg_of X G (He.eqO_ok c1), E, ⟨_, _, He.eqO_ok c3, of_decide_eq_true c6, i1, i2⟩, no⟩
/-- all of them -/
def AllE (P : Program) (w : World) (K : PySem.W.Frag) (mg : Str → Option Value) (base : Heap) : Prop := ∀ (i : Nat) (x : Str) (st : Stmt) (fs : List Str), tab[i]? = some (x, st, fs) → Ec P w K mg base (He.ga K "PreferenceError") x fs (He.ga K x)
theorem allE_of {P : Program} {w : World} {K : PySem.W.Frag} {mg : Str → Option Value} {base h : Heap} (X : K.In h) (G : h.Ns mainGlobals mg) (c : tab.all (tabB K) = true) (o : tab.map (fun t => He.fnObs K (fnD t).at_) = tab.map fun t => (fnD t).val) : AllE P w K mg base := fun i x st fs e => by
  have e2 : (tab.map fun t => He.fnObs K (fnD t).at_)[i]? = (tab.map fun t => (fnD t).val)[i]? := by rw [o]
  rw [List.getElem?_map, List.getElem?_map, e] at e2
  exact ec_of (t := (x, st, fs)) X G (List.all_eq_true.mp c _ (List.mem_of_getElem? e)) (Option.some.inj e2) (tab_ok.at e)
/-! ### a new one -/
section
variable {X : Cx} {Pb C : Addr} {fs : List Str} {x : Str} {p pos : Pos} {e : Expr} {es : List Expr} {kws : List Keyword} {t tk : TA}
theorem pe_ep (E : Ec X.prog X.w X.K X.mg X.base Pb x fs C) (hr : Room 2 X.A) (hg : Gl X x) (hn : fs.length ≤ 1000) (ha : PA X (e :: es) t)
    (hdb : (x == ("__debug__" : Str)) = false := by decide) (he : starEach (e :: es) X.env = (false, eval e X.env) :: starEach es X.env := by rfl) (hpl : (backTo pos (starEach es X.env)).any (·.1) = false := by rfl) :
    PE X (.Call (.Name x p) (e :: es) [] pos) (tNewE C fs fs.length 0 (fun vs _ => vs) t tNil) := by
  obtain ⟨fI, fd, h1, h2, h3, h4⟩ := E.ini
  exact pe_newE E.cl.oex h1 h2 h3 hr h4.a pass0 hn (fun _ _ => rfl) hg E.g ha hdb he hpl
theorem pe_ek (E : Ec X.prog X.w X.K X.mg X.base Pb x fs C) (hr : Room 2 X.A) (hg : Gl X x) (hkw : PK X kws tk)
    (hks : (backToKw pos (keywordEach kws X.env)).filterMap (·.1) = fs := by rfl) (hall : (backToKw pos (keywordEach kws X.env)).all (·.1.isSome) = true := by rfl) (hdb : (x == ("__debug__" : Str)) = false := by decide)
    (hpl : ((backTo pos (starEach [] X.env)).any (·.1) || (backToKw pos (keywordEach kws X.env)).any (·.1.isNone)) = false := by rfl) :
    PE X (.Call (.Name x p) [] kws pos) (tNewE C fs 0 fs.length (fun _ zs => zs) tNil tk) := by
  obtain ⟨fI, fd, h1, h2, h3, h4⟩ := E.ini
  exact pe_newEk (od := fun _ zs => zs) E.cl.oex h1 h2 h3 hr h4.b pass0 (fun a zs l => ⟨rfl, l⟩) hg E.g hkw hall hks hdb hpl
theorem pe_er (E : Ec X.prog X.w X.K X.mg X.base Pb x fs C) (hr : Room 2 X.A) (hg : Gl X x) (hkw : PK X kws tk)
    (hks : (backToKw pos (keywordEach kws X.env)).filterMap (·.1) = fs.reverse := by rfl) (hall : (backToKw pos (keywordEach kws X.env)).all (·.1.isSome) = true := by rfl) (hdb : (x == ("__debug__" : Str)) = false := by decide)
    (hpl : ((backTo pos (starEach [] X.env)).any (·.1) || (backToKw pos (keywordEach kws X.env)).any (·.1.isNone)) = false := by rfl) :
    PE X (.Call (.Name x p) [] kws pos) (tNewE C fs 0 fs.reverse.length (fun _ zs => zs.reverse) tNil tk) := by
  obtain ⟨fI, fd, h1, h2, h3, h4⟩ := E.ini
  exact pe_newEk (od := fun _ zs => zs.reverse) E.cl.oex h1 h2 h3 hr h4.c pass0 (fun a zs l => ⟨rfl, by rw [List.length_reverse, l, List.length_reverse]⟩) hg E.g hkw hall hks hdb hpl
theorem pe_em (E : Ec X.prog X.w X.K X.mg X.base Pb x fs C) (hr : Room 2 X.A) (hg : Gl X x) (hfs : fs ≠ []) (ha : PA X (e :: es) t) (hkw : PK X kws tk)
    (hks : (backToKw pos (keywordEach kws X.env)).filterMap (·.1) = fs.tail.reverse := by rfl) (hall : (backToKw pos (keywordEach kws X.env)).all (·.1.isSome) = true := by rfl) (hdb : (x == ("__debug__" : Str)) = false := by decide)
    (he : starEach (e :: es) X.env = (false, eval e X.env) :: starEach es X.env := by rfl)
    (hpl : ((backTo pos (starEach (e :: es) X.env)).any (·.1) || (backToKw pos (keywordEach kws X.env)).any (·.1.isNone)) = false := by rfl) :
    PE X (.Call (.Name x p) (e :: es) kws pos) (tNewE C fs 1 fs.tail.reverse.length (fun vs zs => vs ++ zs.reverse) t tk) := by
  obtain ⟨fI, fd, h1, h2, h3, h4⟩ := E.ini
  refine pe_newEm (n := 1) (od := fun vs zs => vs ++ zs.reverse) E.cl.oex h1 h2 h3 hr h4.d pass0 (by decide) (fun a vs zs l1 l2 => ⟨rfl, ?_⟩) hg E.g ha hkw hall hks hdb he hpl
  rw [List.length_append, List.length_reverse, l1, l2, List.length_reverse]
  cases fs with
  | nil => exact absurd rfl hfs
  | cons y r =>
    show 1 + r.length = r.length + 1
    omega
end
end Ka

set_option Elab.async false
set_option linter.all false
set_option maxRecDepth 100000
set_option maxHeartbeats 4000000
namespace Ka
open PySem PySem.Spec PyProof.Rows L2 Xc
/-! ### lists of new errors -/
abbrev ESpec : Type := List (Addr × List (Str × V))
/-- made since H0: an error of the class at C that keeps fs -/
def Mk1 (H0 H : Hp) (C : Addr) (fs : List (Str × V)) (v : V) : Prop := ∃ e d, v = .ref e ∧ H0 e = none ∧ H0 d = none ∧ H e = some (exo e C (some d)) ∧ H d = some (exd d fs)
theorem Mk1.mono {H0 H H' : Hp} {C : Addr} {fs : List (Str × V)} {v : V} (s : Same H H') (h : Mk1 H0 H C fs v) : Mk1 H0 H' C fs v := by
  obtain ⟨e, d, h1, h2, h3, h4, h5⟩ := h
  exact ⟨e, d, h1, h2, h3, s _ _ h4, s _ _ h5⟩
theorem Mk1.back {H0 H1 H : Hp} {C : Addr} {fs : List (Str × V)} {v : V} (s : Same H0 H1) (h : Mk1 H1 H C fs v) : Mk1 H0 H C fs v := by
  obtain ⟨e, d, h1, h2, h3, h4, h5⟩ := h
  exact ⟨e, d, h1, Evl.fresh_back s h2, Evl.fresh_back s h3, h4, h5⟩
def Made (H0 H : Hp) (sp : ESpec) (vs : List V) : Prop := Paired (fun s v => Mk1 H0 H s.1 s.2 v) sp vs
theorem Made.mono {H0 H H' : Hp} {sp : ESpec} {vs : List V} (s : Same H H') (h : Made H0 H sp vs) : Made H0 H' sp vs := Paired.mono (fun _ _ h => h.mono s) h
theorem Made.back {H0 H1 H : Hp} {sp : ESpec} {vs : List V} (s : Same H0 H1) (h : Made H1 H sp vs) : Made H0 H sp vs := Paired.mono (fun _ _ h => h.back s) h
theorem Made.length {H0 H : Hp} {sp : ESpec} {vs : List V} (h : Made H0 H sp vs) : sp.length = vs.length := Paired.length h
theorem Made.append {H0 H : Hp} : ∀ {sp sp2 : ESpec} {vs us : List V}, Made H0 H sp vs → Made H0 H sp2 us → Made H0 H (sp ++ sp2) (vs ++ us)
  | _, _, _, _, .nil, h => h
  | _, _, _, _, .cons a r, h => .cons a (Made.append r h)
theorem Made.at {H0 H : Hp} : ∀ {sp : ESpec} {vs : List V}, Made H0 H sp vs → ∀ {i : Nat} {s : Addr × List (Str × V)} {v : V}, sp[i]? = some s → vs[i]? = some v → Mk1 H0 H s.1 s.2 v
  | _, _, .cons a r, 0, _, _, e1, e2 => by
    cases e1
    cases e2
    exact a
  | _, _, .cons a r, i + 1, _, _, e1, e2 => Made.at r (i := i) e1 e2
/-- what gives one | a row of them -/
def Ev1 (te : TE) (σ : L2.St) (H0 : Hp) (C : Addr) (fs : List (Str × V)) : Prop := ∀ H1, Same H0 H1 → ∀ Q : VK, (∀ v H2, Same H1 H2 → Mk1 H0 H2 C fs v → Q v H2) → te σ H1 Q
def EvM (ta : TA) (σ : L2.St) (H0 : Hp) (sp : ESpec) : Prop := ∀ H1, Same H0 H1 → ∀ Q : List V → Hp → Prop, (∀ vs H2, Same H1 H2 → Made H0 H2 sp vs → Q vs H2) → ta σ H1 Q
section
variable {σ : L2.St} {H0 : Hp} {C : Addr} {fs : List (Str × V)} {te : TE} {tr t tk : TA} {sp sp2 : ESpec} {names : List Str} {n m : Nat} {od : List V → List V → List V} {D : Ends}
theorem em_nil : EvM tNil σ H0 [] := fun H1 _ _ q => q [] H1 (Same.refl H1) .nil
theorem em_cons (h : Ev1 te σ H0 C fs) (r : EvM tr σ H0 sp) : EvM (tCons te tr) σ H0 ((C, fs) :: sp) := fun H1 s1 Q q =>
  h H1 s1 _ fun v H2 s2 m => r H2 (s1.trans s2) _ fun vs H3 s3 ms => q (v :: vs) H3 (s2.trans s3) (.cons (m.mono s3) ms)
theorem e1_new {vs zs : List V} (h1 : Evl.EvA t σ H0 vs) (h2 : Evl.EvA tk σ H0 zs) (l1 : vs.length = n) (l2 : zs.length = m) (e : (names.zip (od vs zs)).reverse = fs) : Ev1 (tNewE C names n m od t tk) σ H0 C fs := fun H1 s1 Q q =>
  h1 H1 s1 _ fun H2 s2 => h2 H2 (Same.trans s1 s2) _ fun H3 s3 => ⟨l1, l2, fun ea d H' a b c e1 e2 e3 => by
    rw [e] at e2
    have s4 : Same H3 H' := fun x u hx => by
      rw [e3 x (ne_of_none hx a) (ne_of_none hx b)]
      exact hx
    have s03 : Same H0 H3 := (Same.trans s1 s2).trans s3
    exact q _ _ ((Same.trans s2 s3).trans s4) ⟨ea, d, rfl, Evl.fresh_back s03 a, Evl.fresh_back s03 b, e1, e2⟩⟩
/-- found = found + [..] -/
theorem acc_add {i : Nat} {l : Addr} {vs : List V} {H : Hp} (hs : Same H0 H) (hi : σ[i]? = some (some (.ref l))) (hl : H l = some (.lst vs)) (hm : Made H0 H sp vs) (h : EvM tr σ H0 sp2) (hz : sp.length + sp2.length ≤ 1000)
    (k : ∀ l' us H', H l' = none → Same H H' → H' l' = some (.lst us) → Made H0 H' (sp ++ sp2) us → D.nx (σ.set i (some (.ref l'))) H') : tAsg (tOp rCat (tVar i) (tLst tr)) (gName i) D σ H := by
  refine ⟨_, hi, h H hs _ fun us H2 s2 ms => ?_⟩
  have z1 := hm.length
  have z2 := ms.length
  refine ⟨Nat.le_trans (show us.length ≤ 1000 by omega) (by decide), fun p hp => ?_⟩
  refine ⟨l, p, vs, us, rfl, rfl, (same_new hp) _ _ (s2 _ _ hl), upd_same, Nat.le_trans (show vs.length + us.length ≤ 1000 by omega) (by decide), fun p2 hp2 => ?_⟩
  have s3 : Same H (upd (upd H2 p (.lst us)) p2 (.lst (vs ++ us))) := (Same.trans s2 (same_new hp)).trans (same_new hp2)
  refine k p2 _ _ (Evl.fresh_back (Same.trans s2 (same_new hp)) hp2) s3 upd_same ?_
  exact (hm.mono s3).append (ms.mono ((same_new hp).trans (same_new hp2)))
/-- found = [] -/
theorem acc_nil {i : Nat} {H : Hp} (k : ∀ l' H', H l' = none → Same H H' → H' l' = some (.lst []) → D.nx (σ.set i (some (.ref l'))) H') : tAsg (tLst tNil) (gName i) D σ H :=
  ⟨Nat.zero_le _, fun p hp => k p _ hp (same_new hp) upd_same⟩
theorem ret_made {H : Hp} (h : EvM tr σ H sp) (hz : sp.length ≤ 1000) (k : ∀ l us H', H l = none → Same H H' → H' l = some (.lst us) → Made H H' sp us → D.rt (.ref l) H') : tRet (tLst tr) D σ H := by
  refine h H (Same.refl H) _ fun us H2 s2 ms => ⟨Nat.le_trans (show us.length ≤ 1000 by have := ms.length; omega) (by decide), fun p hp => ?_⟩
  exact k p us _ (Evl.fresh_back s2 hp) (Same.trans s2 (same_new hp)) upd_same (ms.mono (same_new hp))
end
/-- a def that gives a list of new errors back -/
def spMade (spec : List V → Option ESpec) : Sp := fun vs H Q _ => ∃ sp, spec vs = some sp ∧ ∀ l us H', H l = none → Same H H' → H' l = some (.lst us) → Made H H' sp us → Q (.ref l) H'
end Ka

set_option Elab.async false
set_option linter.all false
set_option maxRecDepth 100000
set_option maxHeartbeats 4000000
namespace Ka
open PySem PySem.Spec PyProof.Rows L2 Xc
section
variable {P : Program} {w : World} {K : PySem.W.Frag} {mg : Str → Option Value} {base : Heap}
abbrev lit (K : PySem.W.Frag) (x : Str) (fs : List Str) (vs : List V) : Addr × List (Str × V) := (He.ga K x, (fs.zip vs).reverse)
/-! ### _law_by_place -/
abbrev sPlace : Stmt := tp 80
theorem scPlace : FnScope ["thing", "found"] ["thing"] (defScope sPlace) := ⟨rfl, rfl, rfl, by decide +kernel, rfl, by decide +kernel, by decide +kernel⟩
def spPlace (K : PySem.W.Frag) (thing : V) : ESpec := [lit K "InvalidAssignment" ["given"] [thing], lit K "InvalidBounds" ["given"] [thing], lit K "InvalidChances" ["given"] [thing], lit K "InvalidCount" ["given"] [thing], lit K "InvalidExamples" ["given"] [thing], lit K "InvalidFamilies" ["given"] [thing], lit K "InvalidFrame" ["given"] [thing], lit K "InvalidGains" ["given"] [thing], lit K "InvalidGoals" ["given"] [thing], lit K "InvalidImportances" ["given"] [thing], lit K "InvalidIndex" ["given"] [thing], lit K "InvalidItem" ["given"] [thing], lit K "InvalidLevels" ["given"] [thing], lit K "InvalidLines" ["given"] [thing], lit K "InvalidName" ["given"] [thing], lit K "InvalidNet" ["given"] [thing], lit K "InvalidNets" ["given"] [thing], lit K "InvalidNumber" ["given"] [thing], lit K "InvalidOrder" ["given"] [thing], lit K "InvalidOutcome" ["given"] [thing], lit K "InvalidOutcomes" ["given"] [thing], lit K "InvalidPairs" ["given"] [thing], lit K "InvalidParent" ["given"] [thing], lit K "InvalidParents" ["given"] [thing], lit K "InvalidPart" ["given"] [thing], lit K "InvalidPlace" ["given"] [thing], lit K "InvalidProducts" ["given"] [thing], lit K "InvalidProfile" ["given"] [thing], lit K "InvalidRanking" ["given"] [thing], lit K "InvalidReport" ["given"] [thing], lit K "InvalidRing" ["given"] [thing], lit K "InvalidRow" ["given"] [thing], lit K "InvalidSketch" ["given"] [thing], lit K "InvalidSpace" ["given"] [thing], lit K "InvalidStatement" ["given"] [thing], lit K "InvalidStrata" ["given"] [thing], lit K "InvalidSwaps" ["given"] [thing], lit K "InvalidText" ["given"] [thing], lit K "InvalidTheory" ["given"] [thing], lit K "InvalidTree" ["given"] [thing], lit K "InvalidValue" ["given"] [thing], lit K "InvalidValues" ["given"] [thing], lit K "InvalidVariable" ["given"] [thing], lit K "InvalidVariables" ["given"] [thing], lit K "InvalidVoter" ["given"] [thing], lit K "InvalidWay" ["given"] [thing], lit K "InvalidWorths" ["given"] [thing]]
theorem ok_Place {f : Addr} {fd : FuncData} {Pb : Addr} (F : FnP K "_law_by_place" sPlace f fd) (E : AllE P w K mg base) : FnOk P w K mg base CX0 3 f fd ["thing"] (spMade fun vs => match vs with | [thing] => some (spPlace K thing) | _ => none) := by
  refine F.ok scPlace (fun vs H Q E h => ?_) (fun cdv A outer s H vs Q E' hr h => ?_)
  · obtain ⟨sp, e, _⟩ := h
    match vs, e with
    | [_], _ => rfl
  · obtain ⟨sp, e, q⟩ := h
    match vs, e with
    | [thing], e =>
    have e : some (spPlace K thing) = some sp := e
    cases e
    refine ⟨_, pss_cons (ps_set (i := 1) scPlace.nd rfl (Or.inl rfl) (pe_lst pa_nil))
      (pss_cons (ps_set (i := 1) scPlace.nd rfl (Or.inl rfl) (pe_op op_cat (pv 1) (pe_lst (pa_cons (pe_ep (E 0 "InvalidAssignment" _ _ rfl) hr (by rfl) (by decide) (pa_cons (pv 0) pa_nil)) (pa_cons (pe_ep (E 1 "InvalidBounds" _ _ rfl) hr (by rfl) (by decide) (pa_cons (pv 0) pa_nil)) (pa_cons (pe_ep (E 2 "InvalidChances" _ _ rfl) hr (by rfl) (by decide) (pa_cons (pv 0) pa_nil)) (pa_cons (pe_ep (E 3 "InvalidCount" _ _ rfl) hr (by rfl) (by decide) (pa_cons (pv 0) pa_nil)) (pa_cons (pe_ep (E 4 "InvalidExamples" _ _ rfl) hr (by rfl) (by decide) (pa_cons (pv 0) pa_nil)) (pa_cons (pe_ep (E 5 "InvalidFamilies" _ _ rfl) hr (by rfl) (by decide) (pa_cons (pv 0) pa_nil)) (pa_cons (pe_ep (E 6 "InvalidFrame" _ _ rfl) hr (by rfl) (by decide) (pa_cons (pv 0) pa_nil)) pa_nil))))))))))
      (pss_cons (ps_set (i := 1) scPlace.nd rfl (Or.inl rfl) (pe_op op_cat (pv 1) (pe_lst (pa_cons (pe_ep (E 7 "InvalidGains" _ _ rfl) hr (by rfl) (by decide) (pa_cons (pv 0) pa_nil)) (pa_cons (pe_ep (E 8 "InvalidGoals" _ _ rfl) hr (by rfl) (by decide) (pa_cons (pv 0) pa_nil)) (pa_cons (pe_ep (E 9 "InvalidImportances" _ _ rfl) hr (by rfl) (by decide) (pa_cons (pv 0) pa_nil)) (pa_cons (pe_ep (E 10 "InvalidIndex" _ _ rfl) hr (by rfl) (by decide) (pa_cons (pv 0) pa_nil)) (pa_cons (pe_ep (E 11 "InvalidItem" _ _ rfl) hr (by rfl) (by decide) (pa_cons (pv 0) pa_nil)) (pa_cons (pe_ep (E 12 "InvalidLevels" _ _ rfl) hr (by rfl) (by decide) (pa_cons (pv 0) pa_nil)) (pa_cons (pe_ep (E 13 "InvalidLines" _ _ rfl) hr (by rfl) (by decide) (pa_cons (pv 0) pa_nil)) (pa_cons (pe_ep (E 14 "InvalidName" _ _ rfl) hr (by rfl) (by decide) (pa_cons (pv 0) pa_nil)) pa_nil)))))))))))
      (pss_cons (ps_set (i := 1) scPlace.nd rfl (Or.inl rfl) (pe_op op_cat (pv 1) (pe_lst (pa_cons (pe_ep (E 15 "InvalidNet" _ _ rfl) hr (by rfl) (by decide) (pa_cons (pv 0) pa_nil)) (pa_cons (pe_ep (E 16 "InvalidNets" _ _ rfl) hr (by rfl) (by decide) (pa_cons (pv 0) pa_nil)) (pa_cons (pe_ep (E 17 "InvalidNumber" _ _ rfl) hr (by rfl) (by decide) (pa_cons (pv 0) pa_nil)) (pa_cons (pe_ep (E 18 "InvalidOrder" _ _ rfl) hr (by rfl) (by decide) (pa_cons (pv 0) pa_nil)) (pa_cons (pe_ep (E 19 "InvalidOutcome" _ _ rfl) hr (by rfl) (by decide) (pa_cons (pv 0) pa_nil)) (pa_cons (pe_ep (E 20 "InvalidOutcomes" _ _ rfl) hr (by rfl) (by decide) (pa_cons (pv 0) pa_nil)) (pa_cons (pe_ep (E 21 "InvalidPairs" _ _ rfl) hr (by rfl) (by decide) (pa_cons (pv 0) pa_nil)) (pa_cons (pe_ep (E 22 "InvalidParent" _ _ rfl) hr (by rfl) (by decide) (pa_cons (pv 0) pa_nil)) pa_nil)))))))))))
      (pss_cons (ps_set (i := 1) scPlace.nd rfl (Or.inl rfl) (pe_op op_cat (pv 1) (pe_lst (pa_cons (pe_ep (E 23 "InvalidParents" _ _ rfl) hr (by rfl) (by decide) (pa_cons (pv 0) pa_nil)) (pa_cons (pe_ep (E 24 "InvalidPart" _ _ rfl) hr (by rfl) (by decide) (pa_cons (pv 0) pa_nil)) (pa_cons (pe_ep (E 25 "InvalidPlace" _ _ rfl) hr (by rfl) (by decide) (pa_cons (pv 0) pa_nil)) (pa_cons (pe_ep (E 26 "InvalidProducts" _ _ rfl) hr (by rfl) (by decide) (pa_cons (pv 0) pa_nil)) (pa_cons (pe_ep (E 27 "InvalidProfile" _ _ rfl) hr (by rfl) (by decide) (pa_cons (pv 0) pa_nil)) (pa_cons (pe_ep (E 28 "InvalidRanking" _ _ rfl) hr (by rfl) (by decide) (pa_cons (pv 0) pa_nil)) (pa_cons (pe_ep (E 29 "InvalidReport" _ _ rfl) hr (by rfl) (by decide) (pa_cons (pv 0) pa_nil)) (pa_cons (pe_ep (E 30 "InvalidRing" _ _ rfl) hr (by rfl) (by decide) (pa_cons (pv 0) pa_nil)) pa_nil)))))))))))
      (pss_cons (ps_set (i := 1) scPlace.nd rfl (Or.inl rfl) (pe_op op_cat (pv 1) (pe_lst (pa_cons (pe_ep (E 31 "InvalidRow" _ _ rfl) hr (by rfl) (by decide) (pa_cons (pv 0) pa_nil)) (pa_cons (pe_ep (E 32 "InvalidSketch" _ _ rfl) hr (by rfl) (by decide) (pa_cons (pv 0) pa_nil)) (pa_cons (pe_ep (E 33 "InvalidSpace" _ _ rfl) hr (by rfl) (by decide) (pa_cons (pv 0) pa_nil)) (pa_cons (pe_ep (E 34 "InvalidStatement" _ _ rfl) hr (by rfl) (by decide) (pa_cons (pv 0) pa_nil)) (pa_cons (pe_ep (E 35 "InvalidStrata" _ _ rfl) hr (by rfl) (by decide) (pa_cons (pv 0) pa_nil)) (pa_cons (pe_ep (E 36 "InvalidSwaps" _ _ rfl) hr (by rfl) (by decide) (pa_cons (pv 0) pa_nil)) (pa_cons (pe_ep (E 37 "InvalidText" _ _ rfl) hr (by rfl) (by decide) (pa_cons (pv 0) pa_nil)) (pa_cons (pe_ep (E 38 "InvalidTheory" _ _ rfl) hr (by rfl) (by decide) (pa_cons (pv 0) pa_nil)) pa_nil)))))))))))
      (pss_cons (ps_set (i := 1) scPlace.nd rfl (Or.inl rfl) (pe_op op_cat (pv 1) (pe_lst (pa_cons (pe_ep (E 39 "InvalidTree" _ _ rfl) hr (by rfl) (by decide) (pa_cons (pv 0) pa_nil)) (pa_cons (pe_ep (E 40 "InvalidValue" _ _ rfl) hr (by rfl) (by decide) (pa_cons (pv 0) pa_nil)) (pa_cons (pe_ep (E 41 "InvalidValues" _ _ rfl) hr (by rfl) (by decide) (pa_cons (pv 0) pa_nil)) (pa_cons (pe_ep (E 42 "InvalidVariable" _ _ rfl) hr (by rfl) (by decide) (pa_cons (pv 0) pa_nil)) (pa_cons (pe_ep (E 43 "InvalidVariables" _ _ rfl) hr (by rfl) (by decide) (pa_cons (pv 0) pa_nil)) (pa_cons (pe_ep (E 44 "InvalidVoter" _ _ rfl) hr (by rfl) (by decide) (pa_cons (pv 0) pa_nil)) (pa_cons (pe_ep (E 45 "InvalidWay" _ _ rfl) hr (by rfl) (by decide) (pa_cons (pv 0) pa_nil)) (pa_cons (pe_ep (E 46 "InvalidWorths" _ _ rfl) hr (by rfl) (by decide) (pa_cons (pv 0) pa_nil)) pa_nil)))))))))))
      (pss_one (ps_ret (pv 1))))))))), ?_⟩
    refine acc_nil fun l0 H0 n0 s0 h0 => ?_
    have m0 : Made H H0 [] [] := .nil
    refine acc_add (H0 := H) s0 rfl h0 m0 (em_cons (e1_new (Evl.ea_cons (Evl.ev_var rfl) Evl.ea_nil) Evl.ea_nil rfl rfl rfl) (em_cons (e1_new (Evl.ea_cons (Evl.ev_var rfl) Evl.ea_nil) Evl.ea_nil rfl rfl rfl) (em_cons (e1_new (Evl.ea_cons (Evl.ev_var rfl) Evl.ea_nil) Evl.ea_nil rfl rfl rfl) (em_cons (e1_new (Evl.ea_cons (Evl.ev_var rfl) Evl.ea_nil) Evl.ea_nil rfl rfl rfl) (em_cons (e1_new (Evl.ea_cons (Evl.ev_var rfl) Evl.ea_nil) Evl.ea_nil rfl rfl rfl) (em_cons (e1_new (Evl.ea_cons (Evl.ev_var rfl) Evl.ea_nil) Evl.ea_nil rfl rfl rfl) (em_cons (e1_new (Evl.ea_cons (Evl.ev_var rfl) Evl.ea_nil) Evl.ea_nil rfl rfl rfl) em_nil))))))) (Nat.le_of_ble_eq_true rfl) fun l1 us1 H1 n1 z1 h1 m1 => ?_
    have s1 := Same.trans s0 z1
    refine acc_add (H0 := H) s1 rfl h1 m1 (em_cons (e1_new (Evl.ea_cons (Evl.ev_var rfl) Evl.ea_nil) Evl.ea_nil rfl rfl rfl) (em_cons (e1_new (Evl.ea_cons (Evl.ev_var rfl) Evl.ea_nil) Evl.ea_nil rfl rfl rfl) (em_cons (e1_new (Evl.ea_cons (Evl.ev_var rfl) Evl.ea_nil) Evl.ea_nil rfl rfl rfl) (em_cons (e1_new (Evl.ea_cons (Evl.ev_var rfl) Evl.ea_nil) Evl.ea_nil rfl rfl rfl) (em_cons (e1_new (Evl.ea_cons (Evl.ev_var rfl) Evl.ea_nil) Evl.ea_nil rfl rfl rfl) (em_cons (e1_new (Evl.ea_cons (Evl.ev_var rfl) Evl.ea_nil) Evl.ea_nil rfl rfl rfl) (em_cons (e1_new (Evl.ea_cons (Evl.ev_var rfl) Evl.ea_nil) Evl.ea_nil rfl rfl rfl) (em_cons (e1_new (Evl.ea_cons (Evl.ev_var rfl) Evl.ea_nil) Evl.ea_nil rfl rfl rfl) em_nil)))))))) (Nat.le_of_ble_eq_true rfl) fun l2 us2 H2 n2 z2 h2 m2 => ?_
    have s2 := Same.trans s1 z2
    refine acc_add (H0 := H) s2 rfl h2 m2 (em_cons (e1_new (Evl.ea_cons (Evl.ev_var rfl) Evl.ea_nil) Evl.ea_nil rfl rfl rfl) (em_cons (e1_new (Evl.ea_cons (Evl.ev_var rfl) Evl.ea_nil) Evl.ea_nil rfl rfl rfl) (em_cons (e1_new (Evl.ea_cons (Evl.ev_var rfl) Evl.ea_nil) Evl.ea_nil rfl rfl rfl) (em_cons (e1_new (Evl.ea_cons (Evl.ev_var rfl) Evl.ea_nil) Evl.ea_nil rfl rfl rfl) (em_cons (e1_new (Evl.ea_cons (Evl.ev_var rfl) Evl.ea_nil) Evl.ea_nil rfl rfl rfl) (em_cons (e1_new (Evl.ea_cons (Evl.ev_var rfl) Evl.ea_nil) Evl.ea_nil rfl rfl rfl) (em_cons (e1_new (Evl.ea_cons (Evl.ev_var rfl) Evl.ea_nil) Evl.ea_nil rfl rfl rfl) (em_cons (e1_new (Evl.ea_cons (Evl.ev_var rfl) Evl.ea_nil) Evl.ea_nil rfl rfl rfl) em_nil)))))))) (Nat.le_of_ble_eq_true rfl) fun l3 us3 H3 n3 z3 h3 m3 => ?_
    have s3 := Same.trans s2 z3
    refine acc_add (H0 := H) s3 rfl h3 m3 (em_cons (e1_new (Evl.ea_cons (Evl.ev_var rfl) Evl.ea_nil) Evl.ea_nil rfl rfl rfl) (em_cons (e1_new (Evl.ea_cons (Evl.ev_var rfl) Evl.ea_nil) Evl.ea_nil rfl rfl rfl) (em_cons (e1_new (Evl.ea_cons (Evl.ev_var rfl) Evl.ea_nil) Evl.ea_nil rfl rfl rfl) (em_cons (e1_new (Evl.ea_cons (Evl.ev_var rfl) Evl.ea_nil) Evl.ea_nil rfl rfl rfl) (em_cons (e1_new (Evl.ea_cons (Evl.ev_var rfl) Evl.ea_nil) Evl.ea_nil rfl rfl rfl) (em_cons (e1_new (Evl.ea_cons (Evl.ev_var rfl) Evl.ea_nil) Evl.ea_nil rfl rfl rfl) (em_cons (e1_new (Evl.ea_cons (Evl.ev_var rfl) Evl.ea_nil) Evl.ea_nil rfl rfl rfl) (em_cons (e1_new (Evl.ea_cons (Evl.ev_var rfl) Evl.ea_nil) Evl.ea_nil rfl rfl rfl) em_nil)))))))) (Nat.le_of_ble_eq_true rfl) fun l4 us4 H4 n4 z4 h4 m4 => ?_
    have s4 := Same.trans s3 z4
    refine acc_add (H0 := H) s4 rfl h4 m4 (em_cons (e1_new (Evl.ea_cons (Evl.ev_var rfl) Evl.ea_nil) Evl.ea_nil rfl rfl rfl) (em_cons (e1_new (Evl.ea_cons (Evl.ev_var rfl) Evl.ea_nil) Evl.ea_nil rfl rfl rfl) (em_cons (e1_new (Evl.ea_cons (Evl.ev_var rfl) Evl.ea_nil) Evl.ea_nil rfl rfl rfl) (em_cons (e1_new (Evl.ea_cons (Evl.ev_var rfl) Evl.ea_nil) Evl.ea_nil rfl rfl rfl) (em_cons (e1_new (Evl.ea_cons (Evl.ev_var rfl) Evl.ea_nil) Evl.ea_nil rfl rfl rfl) (em_cons (e1_new (Evl.ea_cons (Evl.ev_var rfl) Evl.ea_nil) Evl.ea_nil rfl rfl rfl) (em_cons (e1_new (Evl.ea_cons (Evl.ev_var rfl) Evl.ea_nil) Evl.ea_nil rfl rfl rfl) (em_cons (e1_new (Evl.ea_cons (Evl.ev_var rfl) Evl.ea_nil) Evl.ea_nil rfl rfl rfl) em_nil)))))))) (Nat.le_of_ble_eq_true rfl) fun l5 us5 H5 n5 z5 h5 m5 => ?_
    have s5 := Same.trans s4 z5
    refine acc_add (H0 := H) s5 rfl h5 m5 (em_cons (e1_new (Evl.ea_cons (Evl.ev_var rfl) Evl.ea_nil) Evl.ea_nil rfl rfl rfl) (em_cons (e1_new (Evl.ea_cons (Evl.ev_var rfl) Evl.ea_nil) Evl.ea_nil rfl rfl rfl) (em_cons (e1_new (Evl.ea_cons (Evl.ev_var rfl) Evl.ea_nil) Evl.ea_nil rfl rfl rfl) (em_cons (e1_new (Evl.ea_cons (Evl.ev_var rfl) Evl.ea_nil) Evl.ea_nil rfl rfl rfl) (em_cons (e1_new (Evl.ea_cons (Evl.ev_var rfl) Evl.ea_nil) Evl.ea_nil rfl rfl rfl) (em_cons (e1_new (Evl.ea_cons (Evl.ev_var rfl) Evl.ea_nil) Evl.ea_nil rfl rfl rfl) (em_cons (e1_new (Evl.ea_cons (Evl.ev_var rfl) Evl.ea_nil) Evl.ea_nil rfl rfl rfl) (em_cons (e1_new (Evl.ea_cons (Evl.ev_var rfl) Evl.ea_nil) Evl.ea_nil rfl rfl rfl) em_nil)))))))) (Nat.le_of_ble_eq_true rfl) fun l6 us6 H6 n6 z6 h6 m6 => ?_
    have s6 := Same.trans s5 z6
    exact ⟨_, rfl, q l6 us6 H6 (Evl.fresh_back s5 n6) s6 h6 m6⟩
/-! ### _law_by_name -/
abbrev sName : Stmt := tp 81
theorem scName : FnScope ["thing", "found"] ["thing"] (defScope sName) := ⟨rfl, rfl, rfl, by decide +kernel, rfl, by decide +kernel, by decide +kernel⟩
def spName (K : PySem.W.Frag) (thing : V) : ESpec := [lit K "InvalidAssignment" ["given"] [thing], lit K "InvalidBounds" ["given"] [thing], lit K "InvalidChances" ["given"] [thing], lit K "InvalidCount" ["given"] [thing], lit K "InvalidExamples" ["given"] [thing], lit K "InvalidFamilies" ["given"] [thing], lit K "InvalidFrame" ["given"] [thing], lit K "InvalidGains" ["given"] [thing], lit K "InvalidGoals" ["given"] [thing], lit K "InvalidImportances" ["given"] [thing], lit K "InvalidIndex" ["given"] [thing], lit K "InvalidItem" ["given"] [thing], lit K "InvalidLevels" ["given"] [thing], lit K "InvalidLines" ["given"] [thing], lit K "InvalidName" ["given"] [thing], lit K "InvalidNet" ["given"] [thing], lit K "InvalidNets" ["given"] [thing], lit K "InvalidNumber" ["given"] [thing], lit K "InvalidOrder" ["given"] [thing], lit K "InvalidOutcome" ["given"] [thing], lit K "InvalidOutcomes" ["given"] [thing], lit K "InvalidPairs" ["given"] [thing], lit K "InvalidParent" ["given"] [thing], lit K "InvalidParents" ["given"] [thing], lit K "InvalidPart" ["given"] [thing], lit K "InvalidPlace" ["given"] [thing], lit K "InvalidProducts" ["given"] [thing], lit K "InvalidProfile" ["given"] [thing], lit K "InvalidRanking" ["given"] [thing], lit K "InvalidReport" ["given"] [thing], lit K "InvalidRing" ["given"] [thing], lit K "InvalidRow" ["given"] [thing], lit K "InvalidSketch" ["given"] [thing], lit K "InvalidSpace" ["given"] [thing], lit K "InvalidStatement" ["given"] [thing], lit K "InvalidStrata" ["given"] [thing], lit K "InvalidSwaps" ["given"] [thing], lit K "InvalidText" ["given"] [thing], lit K "InvalidTheory" ["given"] [thing], lit K "InvalidTree" ["given"] [thing], lit K "InvalidValue" ["given"] [thing], lit K "InvalidValues" ["given"] [thing], lit K "InvalidVariable" ["given"] [thing], lit K "InvalidVariables" ["given"] [thing], lit K "InvalidVoter" ["given"] [thing], lit K "InvalidWay" ["given"] [thing], lit K "InvalidWorths" ["given"] [thing]]
theorem ok_Name {f : Addr} {fd : FuncData} {Pb : Addr} (F : FnP K "_law_by_name" sName f fd) (E : AllE P w K mg base) : FnOk P w K mg base CX0 3 f fd ["thing"] (spMade fun vs => match vs with | [thing] => some (spName K thing) | _ => none) := by
  refine F.ok scName (fun vs H Q E h => ?_) (fun cdv A outer s H vs Q E' hr h => ?_)
  · obtain ⟨sp, e, _⟩ := h
    match vs, e with
    | [_], _ => rfl
  · obtain ⟨sp, e, q⟩ := h
    match vs, e with
    | [thing], e =>
    have e : some (spName K thing) = some sp := e
    cases e
    refine ⟨_, pss_cons (ps_set (i := 1) scName.nd rfl (Or.inl rfl) (pe_lst pa_nil))
      (pss_cons (ps_set (i := 1) scName.nd rfl (Or.inl rfl) (pe_op op_cat (pv 1) (pe_lst (pa_cons (pe_ek (E 0 "InvalidAssignment" _ _ rfl) hr (by rfl) (pk_cons (pv 0) pk_nil)) (pa_cons (pe_ek (E 1 "InvalidBounds" _ _ rfl) hr (by rfl) (pk_cons (pv 0) pk_nil)) (pa_cons (pe_ek (E 2 "InvalidChances" _ _ rfl) hr (by rfl) (pk_cons (pv 0) pk_nil)) (pa_cons (pe_ek (E 3 "InvalidCount" _ _ rfl) hr (by rfl) (pk_cons (pv 0) pk_nil)) (pa_cons (pe_ek (E 4 "InvalidExamples" _ _ rfl) hr (by rfl) (pk_cons (pv 0) pk_nil)) (pa_cons (pe_ek (E 5 "InvalidFamilies" _ _ rfl) hr (by rfl) (pk_cons (pv 0) pk_nil)) pa_nil)))))))))
      (pss_cons (ps_set (i := 1) scName.nd rfl (Or.inl rfl) (pe_op op_cat (pv 1) (pe_lst (pa_cons (pe_ek (E 6 "InvalidFrame" _ _ rfl) hr (by rfl) (pk_cons (pv 0) pk_nil)) (pa_cons (pe_ek (E 7 "InvalidGains" _ _ rfl) hr (by rfl) (pk_cons (pv 0) pk_nil)) (pa_cons (pe_ek (E 8 "InvalidGoals" _ _ rfl) hr (by rfl) (pk_cons (pv 0) pk_nil)) (pa_cons (pe_ek (E 9 "InvalidImportances" _ _ rfl) hr (by rfl) (pk_cons (pv 0) pk_nil)) (pa_cons (pe_ek (E 10 "InvalidIndex" _ _ rfl) hr (by rfl) (pk_cons (pv 0) pk_nil)) (pa_cons (pe_ek (E 11 "InvalidItem" _ _ rfl) hr (by rfl) (pk_cons (pv 0) pk_nil)) pa_nil)))))))))
      (pss_cons (ps_set (i := 1) scName.nd rfl (Or.inl rfl) (pe_op op_cat (pv 1) (pe_lst (pa_cons (pe_ek (E 12 "InvalidLevels" _ _ rfl) hr (by rfl) (pk_cons (pv 0) pk_nil)) (pa_cons (pe_ek (E 13 "InvalidLines" _ _ rfl) hr (by rfl) (pk_cons (pv 0) pk_nil)) (pa_cons (pe_ek (E 14 "InvalidName" _ _ rfl) hr (by rfl) (pk_cons (pv 0) pk_nil)) (pa_cons (pe_ek (E 15 "InvalidNet" _ _ rfl) hr (by rfl) (pk_cons (pv 0) pk_nil)) (pa_cons (pe_ek (E 16 "InvalidNets" _ _ rfl) hr (by rfl) (pk_cons (pv 0) pk_nil)) (pa_cons (pe_ek (E 17 "InvalidNumber" _ _ rfl) hr (by rfl) (pk_cons (pv 0) pk_nil)) pa_nil)))))))))
      (pss_cons (ps_set (i := 1) scName.nd rfl (Or.inl rfl) (pe_op op_cat (pv 1) (pe_lst (pa_cons (pe_ek (E 18 "InvalidOrder" _ _ rfl) hr (by rfl) (pk_cons (pv 0) pk_nil)) (pa_cons (pe_ek (E 19 "InvalidOutcome" _ _ rfl) hr (by rfl) (pk_cons (pv 0) pk_nil)) (pa_cons (pe_ek (E 20 "InvalidOutcomes" _ _ rfl) hr (by rfl) (pk_cons (pv 0) pk_nil)) (pa_cons (pe_ek (E 21 "InvalidPairs" _ _ rfl) hr (by rfl) (pk_cons (pv 0) pk_nil)) (pa_cons (pe_ek (E 22 "InvalidParent" _ _ rfl) hr (by rfl) (pk_cons (pv 0) pk_nil)) (pa_cons (pe_ek (E 23 "InvalidParents" _ _ rfl) hr (by rfl) (pk_cons (pv 0) pk_nil)) pa_nil)))))))))
      (pss_cons (ps_set (i := 1) scName.nd rfl (Or.inl rfl) (pe_op op_cat (pv 1) (pe_lst (pa_cons (pe_ek (E 24 "InvalidPart" _ _ rfl) hr (by rfl) (pk_cons (pv 0) pk_nil)) (pa_cons (pe_ek (E 25 "InvalidPlace" _ _ rfl) hr (by rfl) (pk_cons (pv 0) pk_nil)) (pa_cons (pe_ek (E 26 "InvalidProducts" _ _ rfl) hr (by rfl) (pk_cons (pv 0) pk_nil)) (pa_cons (pe_ek (E 27 "InvalidProfile" _ _ rfl) hr (by rfl) (pk_cons (pv 0) pk_nil)) (pa_cons (pe_ek (E 28 "InvalidRanking" _ _ rfl) hr (by rfl) (pk_cons (pv 0) pk_nil)) (pa_cons (pe_ek (E 29 "InvalidReport" _ _ rfl) hr (by rfl) (pk_cons (pv 0) pk_nil)) pa_nil)))))))))
      (pss_cons (ps_set (i := 1) scName.nd rfl (Or.inl rfl) (pe_op op_cat (pv 1) (pe_lst (pa_cons (pe_ek (E 30 "InvalidRing" _ _ rfl) hr (by rfl) (pk_cons (pv 0) pk_nil)) (pa_cons (pe_ek (E 31 "InvalidRow" _ _ rfl) hr (by rfl) (pk_cons (pv 0) pk_nil)) (pa_cons (pe_ek (E 32 "InvalidSketch" _ _ rfl) hr (by rfl) (pk_cons (pv 0) pk_nil)) (pa_cons (pe_ek (E 33 "InvalidSpace" _ _ rfl) hr (by rfl) (pk_cons (pv 0) pk_nil)) (pa_cons (pe_ek (E 34 "InvalidStatement" _ _ rfl) hr (by rfl) (pk_cons (pv 0) pk_nil)) (pa_cons (pe_ek (E 35 "InvalidStrata" _ _ rfl) hr (by rfl) (pk_cons (pv 0) pk_nil)) pa_nil)))))))))
      (pss_cons (ps_set (i := 1) scName.nd rfl (Or.inl rfl) (pe_op op_cat (pv 1) (pe_lst (pa_cons (pe_ek (E 36 "InvalidSwaps" _ _ rfl) hr (by rfl) (pk_cons (pv 0) pk_nil)) (pa_cons (pe_ek (E 37 "InvalidText" _ _ rfl) hr (by rfl) (pk_cons (pv 0) pk_nil)) (pa_cons (pe_ek (E 38 "InvalidTheory" _ _ rfl) hr (by rfl) (pk_cons (pv 0) pk_nil)) (pa_cons (pe_ek (E 39 "InvalidTree" _ _ rfl) hr (by rfl) (pk_cons (pv 0) pk_nil)) (pa_cons (pe_ek (E 40 "InvalidValue" _ _ rfl) hr (by rfl) (pk_cons (pv 0) pk_nil)) (pa_cons (pe_ek (E 41 "InvalidValues" _ _ rfl) hr (by rfl) (pk_cons (pv 0) pk_nil)) pa_nil)))))))))
      (pss_cons (ps_set (i := 1) scName.nd rfl (Or.inl rfl) (pe_op op_cat (pv 1) (pe_lst (pa_cons (pe_ek (E 42 "InvalidVariable" _ _ rfl) hr (by rfl) (pk_cons (pv 0) pk_nil)) (pa_cons (pe_ek (E 43 "InvalidVariables" _ _ rfl) hr (by rfl) (pk_cons (pv 0) pk_nil)) (pa_cons (pe_ek (E 44 "InvalidVoter" _ _ rfl) hr (by rfl) (pk_cons (pv 0) pk_nil)) (pa_cons (pe_ek (E 45 "InvalidWay" _ _ rfl) hr (by rfl) (pk_cons (pv 0) pk_nil)) (pa_cons (pe_ek (E 46 "InvalidWorths" _ _ rfl) hr (by rfl) (pk_cons (pv 0) pk_nil)) pa_nil))))))))
      (pss_one (ps_ret (pv 1))))))))))), ?_⟩
    refine acc_nil fun l0 H0 n0 s0 h0 => ?_
    have m0 : Made H H0 [] [] := .nil
    refine acc_add (H0 := H) s0 rfl h0 m0 (em_cons (e1_new Evl.ea_nil (Evl.ea_cons (Evl.ev_var rfl) Evl.ea_nil) rfl rfl rfl) (em_cons (e1_new Evl.ea_nil (Evl.ea_cons (Evl.ev_var rfl) Evl.ea_nil) rfl rfl rfl) (em_cons (e1_new Evl.ea_nil (Evl.ea_cons (Evl.ev_var rfl) Evl.ea_nil) rfl rfl rfl) (em_cons (e1_new Evl.ea_nil (Evl.ea_cons (Evl.ev_var rfl) Evl.ea_nil) rfl rfl rfl) (em_cons (e1_new Evl.ea_nil (Evl.ea_cons (Evl.ev_var rfl) Evl.ea_nil) rfl rfl rfl) (em_cons (e1_new Evl.ea_nil (Evl.ea_cons (Evl.ev_var rfl) Evl.ea_nil) rfl rfl rfl) em_nil)))))) (Nat.le_of_ble_eq_true rfl) fun l1 us1 H1 n1 z1 h1 m1 => ?_
    have s1 := Same.trans s0 z1
    refine acc_add (H0 := H) s1 rfl h1 m1 (em_cons (e1_new Evl.ea_nil (Evl.ea_cons (Evl.ev_var rfl) Evl.ea_nil) rfl rfl rfl) (em_cons (e1_new Evl.ea_nil (Evl.ea_cons (Evl.ev_var rfl) Evl.ea_nil) rfl rfl rfl) (em_cons (e1_new Evl.ea_nil (Evl.ea_cons (Evl.ev_var rfl) Evl.ea_nil) rfl rfl rfl) (em_cons (e1_new Evl.ea_nil (Evl.ea_cons (Evl.ev_var rfl) Evl.ea_nil) rfl rfl rfl) (em_cons (e1_new Evl.ea_nil (Evl.ea_cons (Evl.ev_var rfl) Evl.ea_nil) rfl rfl rfl) (em_cons (e1_new Evl.ea_nil (Evl.ea_cons (Evl.ev_var rfl) Evl.ea_nil) rfl rfl rfl) em_nil)))))) (Nat.le_of_ble_eq_true rfl) fun l2 us2 H2 n2 z2 h2 m2 => ?_
    have s2 := Same.trans s1 z2
    refine acc_add (H0 := H) s2 rfl h2 m2 (em_cons (e1_new Evl.ea_nil (Evl.ea_cons (Evl.ev_var rfl) Evl.ea_nil) rfl rfl rfl) (em_cons (e1_new Evl.ea_nil (Evl.ea_cons (Evl.ev_var rfl) Evl.ea_nil) rfl rfl rfl) (em_cons (e1_new Evl.ea_nil (Evl.ea_cons (Evl.ev_var rfl) Evl.ea_nil) rfl rfl rfl) (em_cons (e1_new Evl.ea_nil (Evl.ea_cons (Evl.ev_var rfl) Evl.ea_nil) rfl rfl rfl) (em_cons (e1_new Evl.ea_nil (Evl.ea_cons (Evl.ev_var rfl) Evl.ea_nil) rfl rfl rfl) (em_cons (e1_new Evl.ea_nil (Evl.ea_cons (Evl.ev_var rfl) Evl.ea_nil) rfl rfl rfl) em_nil)))))) (Nat.le_of_ble_eq_true rfl) fun l3 us3 H3 n3 z3 h3 m3 => ?_
    have s3 := Same.trans s2 z3
    refine acc_add (H0 := H) s3 rfl h3 m3 (em_cons (e1_new Evl.ea_nil (Evl.ea_cons (Evl.ev_var rfl) Evl.ea_nil) rfl rfl rfl) (em_cons (e1_new Evl.ea_nil (Evl.ea_cons (Evl.ev_var rfl) Evl.ea_nil) rfl rfl rfl) (em_cons (e1_new Evl.ea_nil (Evl.ea_cons (Evl.ev_var rfl) Evl.ea_nil) rfl rfl rfl) (em_cons (e1_new Evl.ea_nil (Evl.ea_cons (Evl.ev_var rfl) Evl.ea_nil) rfl rfl rfl) (em_cons (e1_new Evl.ea_nil (Evl.ea_cons (Evl.ev_var rfl) Evl.ea_nil) rfl rfl rfl) (em_cons (e1_new Evl.ea_nil (Evl.ea_cons (Evl.ev_var rfl) Evl.ea_nil) rfl rfl rfl) em_nil)))))) (Nat.le_of_ble_eq_true rfl) fun l4 us4 H4 n4 z4 h4 m4 => ?_
    have s4 := Same.trans s3 z4
    refine acc_add (H0 := H) s4 rfl h4 m4 (em_cons (e1_new Evl.ea_nil (Evl.ea_cons (Evl.ev_var rfl) Evl.ea_nil) rfl rfl rfl) (em_cons (e1_new Evl.ea_nil (Evl.ea_cons (Evl.ev_var rfl) Evl.ea_nil) rfl rfl rfl) (em_cons (e1_new Evl.ea_nil (Evl.ea_cons (Evl.ev_var rfl) Evl.ea_nil) rfl rfl rfl) (em_cons (e1_new Evl.ea_nil (Evl.ea_cons (Evl.ev_var rfl) Evl.ea_nil) rfl rfl rfl) (em_cons (e1_new Evl.ea_nil (Evl.ea_cons (Evl.ev_var rfl) Evl.ea_nil) rfl rfl rfl) (em_cons (e1_new Evl.ea_nil (Evl.ea_cons (Evl.ev_var rfl) Evl.ea_nil) rfl rfl rfl) em_nil)))))) (Nat.le_of_ble_eq_true rfl) fun l5 us5 H5 n5 z5 h5 m5 => ?_
    have s5 := Same.trans s4 z5
    refine acc_add (H0 := H) s5 rfl h5 m5 (em_cons (e1_new Evl.ea_nil (Evl.ea_cons (Evl.ev_var rfl) Evl.ea_nil) rfl rfl rfl) (em_cons (e1_new Evl.ea_nil (Evl.ea_cons (Evl.ev_var rfl) Evl.ea_nil) rfl rfl rfl) (em_cons (e1_new Evl.ea_nil (Evl.ea_cons (Evl.ev_var rfl) Evl.ea_nil) rfl rfl rfl) (em_cons (e1_new Evl.ea_nil (Evl.ea_cons (Evl.ev_var rfl) Evl.ea_nil) rfl rfl rfl) (em_cons (e1_new Evl.ea_nil (Evl.ea_cons (Evl.ev_var rfl) Evl.ea_nil) rfl rfl rfl) (em_cons (e1_new Evl.ea_nil (Evl.ea_cons (Evl.ev_var rfl) Evl.ea_nil) rfl rfl rfl) em_nil)))))) (Nat.le_of_ble_eq_true rfl) fun l6 us6 H6 n6 z6 h6 m6 => ?_
    have s6 := Same.trans s5 z6
    refine acc_add (H0 := H) s6 rfl h6 m6 (em_cons (e1_new Evl.ea_nil (Evl.ea_cons (Evl.ev_var rfl) Evl.ea_nil) rfl rfl rfl) (em_cons (e1_new Evl.ea_nil (Evl.ea_cons (Evl.ev_var rfl) Evl.ea_nil) rfl rfl rfl) (em_cons (e1_new Evl.ea_nil (Evl.ea_cons (Evl.ev_var rfl) Evl.ea_nil) rfl rfl rfl) (em_cons (e1_new Evl.ea_nil (Evl.ea_cons (Evl.ev_var rfl) Evl.ea_nil) rfl rfl rfl) (em_cons (e1_new Evl.ea_nil (Evl.ea_cons (Evl.ev_var rfl) Evl.ea_nil) rfl rfl rfl) (em_cons (e1_new Evl.ea_nil (Evl.ea_cons (Evl.ev_var rfl) Evl.ea_nil) rfl rfl rfl) em_nil)))))) (Nat.le_of_ble_eq_true rfl) fun l7 us7 H7 n7 z7 h7 m7 => ?_
    have s7 := Same.trans s6 z7
    refine acc_add (H0 := H) s7 rfl h7 m7 (em_cons (e1_new Evl.ea_nil (Evl.ea_cons (Evl.ev_var rfl) Evl.ea_nil) rfl rfl rfl) (em_cons (e1_new Evl.ea_nil (Evl.ea_cons (Evl.ev_var rfl) Evl.ea_nil) rfl rfl rfl) (em_cons (e1_new Evl.ea_nil (Evl.ea_cons (Evl.ev_var rfl) Evl.ea_nil) rfl rfl rfl) (em_cons (e1_new Evl.ea_nil (Evl.ea_cons (Evl.ev_var rfl) Evl.ea_nil) rfl rfl rfl) (em_cons (e1_new Evl.ea_nil (Evl.ea_cons (Evl.ev_var rfl) Evl.ea_nil) rfl rfl rfl) em_nil))))) (Nat.le_of_ble_eq_true rfl) fun l8 us8 H8 n8 z8 h8 m8 => ?_
    have s8 := Same.trans s7 z8
    exact ⟨_, rfl, q l8 us8 H8 (Evl.fresh_back s7 n8) s8 h8 m8⟩
/-! ### _law_ones -/
abbrev sOnes : Stmt := tp 82
theorem scOnes : FnScope ["thing", "named", "found"] ["thing", "named"] (defScope sOnes) := ⟨rfl, rfl, rfl, by decide +kernel, rfl, by decide +kernel, by decide +kernel⟩
def spOnes (K : PySem.W.Frag) (thing : V) : ESpec := [lit K "All" ["assignment"] [thing], lit K "Cyclic" ["ring"] [thing], lit K "Even" ["count"] [thing], lit K "Full" ["count"] [thing], lit K "NoName" ["name"] [thing], lit K "NoNet" ["variable"] [thing], lit K "NoTheory" ["name"] [thing], lit K "NotFirst" ["ring"] [thing], lit K "NotNet" ["name"] [thing], lit K "NotReduced" ["variable"] [thing], lit K "NotSeparable" ["variable"] [thing], lit K "NotTwo" ["variable"] [thing], lit K "Ringed" ["ring"] [thing], lit K "Same" ["outcome"] [thing], lit K "Taken" ["name"] [thing], lit K "TooLarge" ["count"] [thing], lit K "TooMany" ["count"] [thing], lit K "Unapart" ["variable"] [thing]]
theorem ok_Ones {f : Addr} {fd : FuncData} (F : FnP K "_law_ones" sOnes f fd) (E : AllE P w K mg base) : FnOk P w K mg base CX0 3 f fd ["thing", "named"] (spMade fun vs => match vs with | [thing, .bl _] => some (spOnes K thing) | _ => none) := by
  refine F.ok scOnes (fun vs H Q E h => ?_) (fun cdv A outer s H vs Q E' hr h => ?_)
  · obtain ⟨sp, e, _⟩ := h
    match vs, e with
    | [_, .bl _], _ => rfl
  · obtain ⟨sp, e, q⟩ := h
    match vs, e with
    | [thing, .bl b], e =>
    have e : some (spOnes K thing) = some sp := e
    cases e
    refine ⟨_, pss_cons (ps_if (pt_val (pv 1)) (pss_cons (ps_set (i := 2) scOnes.nd rfl (Or.inl rfl) (pe_lst pa_nil))
      (pss_cons (ps_set (i := 2) scOnes.nd rfl (Or.inl rfl) (pe_op op_cat (pv 2) (pe_lst (pa_cons (pe_ek (E 47 "All" _ _ rfl) hr (by rfl) (pk_cons (pv 0) pk_nil)) (pa_cons (pe_ek (E 48 "Cyclic" _ _ rfl) hr (by rfl) (pk_cons (pv 0) pk_nil)) (pa_cons (pe_ek (E 49 "Even" _ _ rfl) hr (by rfl) (pk_cons (pv 0) pk_nil)) (pa_cons (pe_ek (E 50 "Full" _ _ rfl) hr (by rfl) (pk_cons (pv 0) pk_nil)) (pa_cons (pe_ek (E 51 "NoName" _ _ rfl) hr (by rfl) (pk_cons (pv 0) pk_nil)) (pa_cons (pe_ek (E 52 "NoNet" _ _ rfl) hr (by rfl) (pk_cons (pv 0) pk_nil)) (pa_cons (pe_ek (E 53 "NoTheory" _ _ rfl) hr (by rfl) (pk_cons (pv 0) pk_nil)) (pa_cons (pe_ek (E 54 "NotFirst" _ _ rfl) hr (by rfl) (pk_cons (pv 0) pk_nil)) pa_nil)))))))))))
      (pss_cons (ps_set (i := 2) scOnes.nd rfl (Or.inl rfl) (pe_op op_cat (pv 2) (pe_lst (pa_cons (pe_ek (E 55 "NotNet" _ _ rfl) hr (by rfl) (pk_cons (pv 0) pk_nil)) (pa_cons (pe_ek (E 56 "NotReduced" _ _ rfl) hr (by rfl) (pk_cons (pv 0) pk_nil)) (pa_cons (pe_ek (E 57 "NotSeparable" _ _ rfl) hr (by rfl) (pk_cons (pv 0) pk_nil)) (pa_cons (pe_ek (E 58 "NotTwo" _ _ rfl) hr (by rfl) (pk_cons (pv 0) pk_nil)) (pa_cons (pe_ek (E 59 "Ringed" _ _ rfl) hr (by rfl) (pk_cons (pv 0) pk_nil)) (pa_cons (pe_ek (E 60 "Same" _ _ rfl) hr (by rfl) (pk_cons (pv 0) pk_nil)) (pa_cons (pe_ek (E 61 "Taken" _ _ rfl) hr (by rfl) (pk_cons (pv 0) pk_nil)) pa_nil))))))))))
      (pss_cons (ps_set (i := 2) scOnes.nd rfl (Or.inl rfl) (pe_op op_cat (pv 2) (pe_lst (pa_cons (pe_ek (E 62 "TooLarge" _ _ rfl) hr (by rfl) (pk_cons (pv 0) pk_nil)) (pa_cons (pe_ek (E 63 "TooMany" _ _ rfl) hr (by rfl) (pk_cons (pv 0) pk_nil)) (pa_cons (pe_ek (E 64 "Unapart" _ _ rfl) hr (by rfl) (pk_cons (pv 0) pk_nil)) pa_nil))))))
      (pss_one (ps_ret (pv 2))))))) pss_nil)
      (pss_cons (ps_set (i := 2) scOnes.nd rfl (Or.inl rfl) (pe_lst pa_nil))
      (pss_cons (ps_set (i := 2) scOnes.nd rfl (Or.inl rfl) (pe_op op_cat (pv 2) (pe_lst (pa_cons (pe_ep (E 47 "All" _ _ rfl) hr (by rfl) (by decide) (pa_cons (pv 0) pa_nil)) (pa_cons (pe_ep (E 48 "Cyclic" _ _ rfl) hr (by rfl) (by decide) (pa_cons (pv 0) pa_nil)) (pa_cons (pe_ep (E 49 "Even" _ _ rfl) hr (by rfl) (by decide) (pa_cons (pv 0) pa_nil)) (pa_cons (pe_ep (E 50 "Full" _ _ rfl) hr (by rfl) (by decide) (pa_cons (pv 0) pa_nil)) (pa_cons (pe_ep (E 51 "NoName" _ _ rfl) hr (by rfl) (by decide) (pa_cons (pv 0) pa_nil)) (pa_cons (pe_ep (E 52 "NoNet" _ _ rfl) hr (by rfl) (by decide) (pa_cons (pv 0) pa_nil)) (pa_cons (pe_ep (E 53 "NoTheory" _ _ rfl) hr (by rfl) (by decide) (pa_cons (pv 0) pa_nil)) (pa_cons (pe_ep (E 54 "NotFirst" _ _ rfl) hr (by rfl) (by decide) (pa_cons (pv 0) pa_nil)) (pa_cons (pe_ep (E 55 "NotNet" _ _ rfl) hr (by rfl) (by decide) (pa_cons (pv 0) pa_nil)) (pa_cons (pe_ep (E 56 "NotReduced" _ _ rfl) hr (by rfl) (by decide) (pa_cons (pv 0) pa_nil)) (pa_cons (pe_ep (E 57 "NotSeparable" _ _ rfl) hr (by rfl) (by decide) (pa_cons (pv 0) pa_nil)) pa_nil))))))))))))))
      (pss_cons (ps_set (i := 2) scOnes.nd rfl (Or.inl rfl) (pe_op op_cat (pv 2) (pe_lst (pa_cons (pe_ep (E 58 "NotTwo" _ _ rfl) hr (by rfl) (by decide) (pa_cons (pv 0) pa_nil)) (pa_cons (pe_ep (E 59 "Ringed" _ _ rfl) hr (by rfl) (by decide) (pa_cons (pv 0) pa_nil)) (pa_cons (pe_ep (E 60 "Same" _ _ rfl) hr (by rfl) (by decide) (pa_cons (pv 0) pa_nil)) (pa_cons (pe_ep (E 61 "Taken" _ _ rfl) hr (by rfl) (by decide) (pa_cons (pv 0) pa_nil)) (pa_cons (pe_ep (E 62 "TooLarge" _ _ rfl) hr (by rfl) (by decide) (pa_cons (pv 0) pa_nil)) (pa_cons (pe_ep (E 63 "TooMany" _ _ rfl) hr (by rfl) (by decide) (pa_cons (pv 0) pa_nil)) (pa_cons (pe_ep (E 64 "Unapart" _ _ rfl) hr (by rfl) (by decide) (pa_cons (pv 0) pa_nil)) pa_nil))))))))))
      (pss_one (ps_ret (pv 2)))))), ?_⟩
    refine ⟨_, rfl, b, rfl, ?_⟩
    cases b with
    | true =>
      refine iteT ?_
      refine acc_nil fun l0 H0 n0 s0 h0 => ?_
      have m0 : Made H H0 [] [] := .nil
      refine acc_add (H0 := H) s0 rfl h0 m0 (em_cons (e1_new Evl.ea_nil (Evl.ea_cons (Evl.ev_var rfl) Evl.ea_nil) rfl rfl rfl) (em_cons (e1_new Evl.ea_nil (Evl.ea_cons (Evl.ev_var rfl) Evl.ea_nil) rfl rfl rfl) (em_cons (e1_new Evl.ea_nil (Evl.ea_cons (Evl.ev_var rfl) Evl.ea_nil) rfl rfl rfl) (em_cons (e1_new Evl.ea_nil (Evl.ea_cons (Evl.ev_var rfl) Evl.ea_nil) rfl rfl rfl) (em_cons (e1_new Evl.ea_nil (Evl.ea_cons (Evl.ev_var rfl) Evl.ea_nil) rfl rfl rfl) (em_cons (e1_new Evl.ea_nil (Evl.ea_cons (Evl.ev_var rfl) Evl.ea_nil) rfl rfl rfl) (em_cons (e1_new Evl.ea_nil (Evl.ea_cons (Evl.ev_var rfl) Evl.ea_nil) rfl rfl rfl) (em_cons (e1_new Evl.ea_nil (Evl.ea_cons (Evl.ev_var rfl) Evl.ea_nil) rfl rfl rfl) em_nil)))))))) (Nat.le_of_ble_eq_true rfl) fun l1 us1 H1 n1 z1 h1 m1 => ?_
      have s1 := Same.trans s0 z1
      refine acc_add (H0 := H) s1 rfl h1 m1 (em_cons (e1_new Evl.ea_nil (Evl.ea_cons (Evl.ev_var rfl) Evl.ea_nil) rfl rfl rfl) (em_cons (e1_new Evl.ea_nil (Evl.ea_cons (Evl.ev_var rfl) Evl.ea_nil) rfl rfl rfl) (em_cons (e1_new Evl.ea_nil (Evl.ea_cons (Evl.ev_var rfl) Evl.ea_nil) rfl rfl rfl) (em_cons (e1_new Evl.ea_nil (Evl.ea_cons (Evl.ev_var rfl) Evl.ea_nil) rfl rfl rfl) (em_cons (e1_new Evl.ea_nil (Evl.ea_cons (Evl.ev_var rfl) Evl.ea_nil) rfl rfl rfl) (em_cons (e1_new Evl.ea_nil (Evl.ea_cons (Evl.ev_var rfl) Evl.ea_nil) rfl rfl rfl) (em_cons (e1_new Evl.ea_nil (Evl.ea_cons (Evl.ev_var rfl) Evl.ea_nil) rfl rfl rfl) em_nil))))))) (Nat.le_of_ble_eq_true rfl) fun l2 us2 H2 n2 z2 h2 m2 => ?_
      have s2 := Same.trans s1 z2
      refine acc_add (H0 := H) s2 rfl h2 m2 (em_cons (e1_new Evl.ea_nil (Evl.ea_cons (Evl.ev_var rfl) Evl.ea_nil) rfl rfl rfl) (em_cons (e1_new Evl.ea_nil (Evl.ea_cons (Evl.ev_var rfl) Evl.ea_nil) rfl rfl rfl) (em_cons (e1_new Evl.ea_nil (Evl.ea_cons (Evl.ev_var rfl) Evl.ea_nil) rfl rfl rfl) em_nil))) (Nat.le_of_ble_eq_true rfl) fun l3 us3 H3 n3 z3 h3 m3 => ?_
      have s3 := Same.trans s2 z3
      exact ⟨_, rfl, q l3 us3 H3 (Evl.fresh_back s2 n3) s3 h3 m3⟩
    | false =>
      refine iteF ?_
      refine acc_nil fun l0 H0 n0 s0 h0 => ?_
      have m0 : Made H H0 [] [] := .nil
      refine acc_add (H0 := H) s0 rfl h0 m0 (em_cons (e1_new (Evl.ea_cons (Evl.ev_var rfl) Evl.ea_nil) Evl.ea_nil rfl rfl rfl) (em_cons (e1_new (Evl.ea_cons (Evl.ev_var rfl) Evl.ea_nil) Evl.ea_nil rfl rfl rfl) (em_cons (e1_new (Evl.ea_cons (Evl.ev_var rfl) Evl.ea_nil) Evl.ea_nil rfl rfl rfl) (em_cons (e1_new (Evl.ea_cons (Evl.ev_var rfl) Evl.ea_nil) Evl.ea_nil rfl rfl rfl) (em_cons (e1_new (Evl.ea_cons (Evl.ev_var rfl) Evl.ea_nil) Evl.ea_nil rfl rfl rfl) (em_cons (e1_new (Evl.ea_cons (Evl.ev_var rfl) Evl.ea_nil) Evl.ea_nil rfl rfl rfl) (em_cons (e1_new (Evl.ea_cons (Evl.ev_var rfl) Evl.ea_nil) Evl.ea_nil rfl rfl rfl) (em_cons (e1_new (Evl.ea_cons (Evl.ev_var rfl) Evl.ea_nil) Evl.ea_nil rfl rfl rfl) (em_cons (e1_new (Evl.ea_cons (Evl.ev_var rfl) Evl.ea_nil) Evl.ea_nil rfl rfl rfl) (em_cons (e1_new (Evl.ea_cons (Evl.ev_var rfl) Evl.ea_nil) Evl.ea_nil rfl rfl rfl) (em_cons (e1_new (Evl.ea_cons (Evl.ev_var rfl) Evl.ea_nil) Evl.ea_nil rfl rfl rfl) em_nil))))))))))) (Nat.le_of_ble_eq_true rfl) fun l1 us1 H1 n1 z1 h1 m1 => ?_
      have s1 := Same.trans s0 z1
      refine acc_add (H0 := H) s1 rfl h1 m1 (em_cons (e1_new (Evl.ea_cons (Evl.ev_var rfl) Evl.ea_nil) Evl.ea_nil rfl rfl rfl) (em_cons (e1_new (Evl.ea_cons (Evl.ev_var rfl) Evl.ea_nil) Evl.ea_nil rfl rfl rfl) (em_cons (e1_new (Evl.ea_cons (Evl.ev_var rfl) Evl.ea_nil) Evl.ea_nil rfl rfl rfl) (em_cons (e1_new (Evl.ea_cons (Evl.ev_var rfl) Evl.ea_nil) Evl.ea_nil rfl rfl rfl) (em_cons (e1_new (Evl.ea_cons (Evl.ev_var rfl) Evl.ea_nil) Evl.ea_nil rfl rfl rfl) (em_cons (e1_new (Evl.ea_cons (Evl.ev_var rfl) Evl.ea_nil) Evl.ea_nil rfl rfl rfl) (em_cons (e1_new (Evl.ea_cons (Evl.ev_var rfl) Evl.ea_nil) Evl.ea_nil rfl rfl rfl) em_nil))))))) (Nat.le_of_ble_eq_true rfl) fun l2 us2 H2 n2 z2 h2 m2 => ?_
      have s2 := Same.trans s1 z2
      exact ⟨_, rfl, q l2 us2 H2 (Evl.fresh_back s1 n2) s2 h2 m2⟩
/-! ### _law_twos -/
abbrev sTwos : Stmt := tp 84
theorem scTwos : FnScope ["one", "other", "third", "way"] ["one", "other", "third", "way"] (defScope sTwos) := ⟨rfl, rfl, rfl, by decide +kernel, rfl, by decide +kernel, by decide +kernel⟩
def spTwos (K : PySem.W.Frag) (one other third : V) : ESpec := [lit K "ArrowRing" ["outcome", "ring"] [one, other], lit K "NotSwap" ["one", "other"] [one, other], lit K "Tied" ["one", "other"] [one, other], lit K "Told" ["variable", "values"] [one, other], lit K "NotLocal" ["outcome", "variable", "values"] [one, other, third]]
theorem ok_Twos {f : Addr} {fd : FuncData} (F : FnP K "_law_twos" sTwos f fd) (E : AllE P w K mg base) : FnOk P w K mg base CX0 3 f fd ["one", "other", "third", "way"] (spMade fun vs => match vs with | [one, other, third, .int _] => some (spTwos K one other third) | _ => none) := by
  refine F.ok scTwos (fun vs H Q E h => ?_) (fun cdv A outer s H vs Q E' hr h => ?_)
  · obtain ⟨sp, e, _⟩ := h
    match vs, e with
    | [_, _, _, .int _], _ => rfl
  · obtain ⟨sp, e, q⟩ := h
    match vs, e with
    | [one, other, third, .int way], e =>
    have e : some (spTwos K one other third) = some sp := e
    cases e
    refine ⟨_, pss_cons (ps_if (pt_cmpR op_eq (pv 3) pe_int (nomark _)) (pss_one (ps_ret (pe_lst (pa_cons (pe_ep (E 65 "ArrowRing" _ _ rfl) hr (by rfl) (by decide) (pa_cons (pv 0) (pa_cons (pv 1) pa_nil))) (pa_cons (pe_ep (E 66 "NotSwap" _ _ rfl) hr (by rfl) (by decide) (pa_cons (pv 0) (pa_cons (pv 1) pa_nil))) (pa_cons (pe_ep (E 67 "Tied" _ _ rfl) hr (by rfl) (by decide) (pa_cons (pv 0) (pa_cons (pv 1) pa_nil))) (pa_cons (pe_ep (E 68 "Told" _ _ rfl) hr (by rfl) (by decide) (pa_cons (pv 0) (pa_cons (pv 1) pa_nil))) (pa_cons (pe_ep (E 69 "NotLocal" _ _ rfl) hr (by rfl) (by decide) (pa_cons (pv 0) (pa_cons (pv 1) (pa_cons (pv 2) pa_nil)))) pa_nil)))))))) pss_nil)
      (pss_cons (ps_if (pt_cmpR op_eq (pv 3) pe_int (nomark _)) (pss_one (ps_ret (pe_lst (pa_cons (pe_ek (E 65 "ArrowRing" _ _ rfl) hr (by rfl) (pk_cons (pv 0) (pk_cons (pv 1) pk_nil))) (pa_cons (pe_ek (E 66 "NotSwap" _ _ rfl) hr (by rfl) (pk_cons (pv 0) (pk_cons (pv 1) pk_nil))) (pa_cons (pe_ek (E 67 "Tied" _ _ rfl) hr (by rfl) (pk_cons (pv 0) (pk_cons (pv 1) pk_nil))) (pa_cons (pe_ek (E 68 "Told" _ _ rfl) hr (by rfl) (pk_cons (pv 0) (pk_cons (pv 1) pk_nil))) (pa_cons (pe_ek (E 69 "NotLocal" _ _ rfl) hr (by rfl) (pk_cons (pv 0) (pk_cons (pv 1) (pk_cons (pv 2) pk_nil)))) pa_nil)))))))) pss_nil)
      (pss_cons (ps_if (pt_cmpR op_eq (pv 3) pe_int (nomark _)) (pss_one (ps_ret (pe_lst (pa_cons (pe_er (E 65 "ArrowRing" _ _ rfl) hr (by rfl) (pk_cons (pv 1) (pk_cons (pv 0) pk_nil))) (pa_cons (pe_er (E 66 "NotSwap" _ _ rfl) hr (by rfl) (pk_cons (pv 1) (pk_cons (pv 0) pk_nil))) (pa_cons (pe_er (E 67 "Tied" _ _ rfl) hr (by rfl) (pk_cons (pv 1) (pk_cons (pv 0) pk_nil))) (pa_cons (pe_er (E 68 "Told" _ _ rfl) hr (by rfl) (pk_cons (pv 1) (pk_cons (pv 0) pk_nil))) (pa_cons (pe_er (E 69 "NotLocal" _ _ rfl) hr (by rfl) (pk_cons (pv 2) (pk_cons (pv 1) (pk_cons (pv 0) pk_nil)))) pa_nil)))))))) pss_nil)
      (pss_one (ps_ret (pe_lst (pa_cons (pe_em (E 65 "ArrowRing" _ _ rfl) hr (by rfl) (by decide) (pa_cons (pv 0) pa_nil) (pk_cons (pv 1) pk_nil)) (pa_cons (pe_em (E 66 "NotSwap" _ _ rfl) hr (by rfl) (by decide) (pa_cons (pv 0) pa_nil) (pk_cons (pv 1) pk_nil)) (pa_cons (pe_em (E 67 "Tied" _ _ rfl) hr (by rfl) (by decide) (pa_cons (pv 0) pa_nil) (pk_cons (pv 1) pk_nil)) (pa_cons (pe_em (E 68 "Told" _ _ rfl) hr (by rfl) (by decide) (pa_cons (pv 0) pa_nil) (pk_cons (pv 1) pk_nil)) (pa_cons (pe_em (E 69 "NotLocal" _ _ rfl) hr (by rfl) (by decide) (pa_cons (pv 0) pa_nil) (pk_cons (pv 2) (pk_cons (pv 1) pk_nil))) pa_nil)))))))))), ?_⟩
    refine ⟨_, rfl, rfl, _, rfl, ite2 (fun _ => ret_made (sp := spTwos K one other third) (em_cons (e1_new (Evl.ea_cons (Evl.ev_var rfl) (Evl.ea_cons (Evl.ev_var rfl) Evl.ea_nil)) Evl.ea_nil rfl rfl rfl) (em_cons (e1_new (Evl.ea_cons (Evl.ev_var rfl) (Evl.ea_cons (Evl.ev_var rfl) Evl.ea_nil)) Evl.ea_nil rfl rfl rfl) (em_cons (e1_new (Evl.ea_cons (Evl.ev_var rfl) (Evl.ea_cons (Evl.ev_var rfl) Evl.ea_nil)) Evl.ea_nil rfl rfl rfl) (em_cons (e1_new (Evl.ea_cons (Evl.ev_var rfl) (Evl.ea_cons (Evl.ev_var rfl) Evl.ea_nil)) Evl.ea_nil rfl rfl rfl) (em_cons (e1_new (Evl.ea_cons (Evl.ev_var rfl) (Evl.ea_cons (Evl.ev_var rfl) (Evl.ea_cons (Evl.ev_var rfl) Evl.ea_nil))) Evl.ea_nil rfl rfl rfl) em_nil))))) (Nat.le_of_ble_eq_true rfl) q) (fun _ => ?_)⟩
    refine ⟨_, rfl, rfl, _, rfl, ite2 (fun _ => ret_made (sp := spTwos K one other third) (em_cons (e1_new Evl.ea_nil (Evl.ea_cons (Evl.ev_var rfl) (Evl.ea_cons (Evl.ev_var rfl) Evl.ea_nil)) rfl rfl rfl) (em_cons (e1_new Evl.ea_nil (Evl.ea_cons (Evl.ev_var rfl) (Evl.ea_cons (Evl.ev_var rfl) Evl.ea_nil)) rfl rfl rfl) (em_cons (e1_new Evl.ea_nil (Evl.ea_cons (Evl.ev_var rfl) (Evl.ea_cons (Evl.ev_var rfl) Evl.ea_nil)) rfl rfl rfl) (em_cons (e1_new Evl.ea_nil (Evl.ea_cons (Evl.ev_var rfl) (Evl.ea_cons (Evl.ev_var rfl) Evl.ea_nil)) rfl rfl rfl) (em_cons (e1_new Evl.ea_nil (Evl.ea_cons (Evl.ev_var rfl) (Evl.ea_cons (Evl.ev_var rfl) (Evl.ea_cons (Evl.ev_var rfl) Evl.ea_nil))) rfl rfl rfl) em_nil))))) (Nat.le_of_ble_eq_true rfl) q) (fun _ => ?_)⟩
    refine ⟨_, rfl, rfl, _, rfl, ite2 (fun _ => ret_made (sp := spTwos K one other third) (em_cons (e1_new Evl.ea_nil (Evl.ea_cons (Evl.ev_var rfl) (Evl.ea_cons (Evl.ev_var rfl) Evl.ea_nil)) rfl rfl rfl) (em_cons (e1_new Evl.ea_nil (Evl.ea_cons (Evl.ev_var rfl) (Evl.ea_cons (Evl.ev_var rfl) Evl.ea_nil)) rfl rfl rfl) (em_cons (e1_new Evl.ea_nil (Evl.ea_cons (Evl.ev_var rfl) (Evl.ea_cons (Evl.ev_var rfl) Evl.ea_nil)) rfl rfl rfl) (em_cons (e1_new Evl.ea_nil (Evl.ea_cons (Evl.ev_var rfl) (Evl.ea_cons (Evl.ev_var rfl) Evl.ea_nil)) rfl rfl rfl) (em_cons (e1_new Evl.ea_nil (Evl.ea_cons (Evl.ev_var rfl) (Evl.ea_cons (Evl.ev_var rfl) (Evl.ea_cons (Evl.ev_var rfl) Evl.ea_nil))) rfl rfl rfl) em_nil))))) (Nat.le_of_ble_eq_true rfl) q) (fun _ => ?_)⟩
    exact ret_made (sp := spTwos K one other third) (em_cons (e1_new (Evl.ea_cons (Evl.ev_var rfl) Evl.ea_nil) (Evl.ea_cons (Evl.ev_var rfl) Evl.ea_nil) rfl rfl rfl) (em_cons (e1_new (Evl.ea_cons (Evl.ev_var rfl) Evl.ea_nil) (Evl.ea_cons (Evl.ev_var rfl) Evl.ea_nil) rfl rfl rfl) (em_cons (e1_new (Evl.ea_cons (Evl.ev_var rfl) Evl.ea_nil) (Evl.ea_cons (Evl.ev_var rfl) Evl.ea_nil) rfl rfl rfl) (em_cons (e1_new (Evl.ea_cons (Evl.ev_var rfl) Evl.ea_nil) (Evl.ea_cons (Evl.ev_var rfl) Evl.ea_nil) rfl rfl rfl) (em_cons (e1_new (Evl.ea_cons (Evl.ev_var rfl) Evl.ea_nil) (Evl.ea_cons (Evl.ev_var rfl) (Evl.ea_cons (Evl.ev_var rfl) Evl.ea_nil)) rfl rfl rfl) em_nil))))) (Nat.le_of_ble_eq_true rfl) q
end
end Ka

set_option Elab.async false
set_option linter.all false
set_option maxRecDepth 100000
set_option maxHeartbeats 4000000
namespace Ka
open PySem PySem.Spec PyProof.Rows L2 Xc
/-! ### rows of values, told by a relation that grows with the heap -/
section
variable {α : Type} {R : Hp → α → V → Prop}
def Grows (R : Hp → α → V → Prop) : Prop := ∀ H H' a v, Same H H' → R H a v → R H' a v
def EvR1 (R : Hp → α → V → Prop) (te : TE) (σ : L2.St) (H0 : Hp) (a : α) : Prop := ∀ H1, Same H0 H1 → ∀ Q : VK, (∀ v H2, Same H1 H2 → R H2 a v → Q v H2) → te σ H1 Q
def EvR (R : Hp → α → V → Prop) (ta : TA) (σ : L2.St) (H0 : Hp) (sp : List α) : Prop := ∀ H1, Same H0 H1 → ∀ Q : List V → Hp → Prop, (∀ vs H2, Same H1 H2 → Paired (R H2) sp vs → Q vs H2) → ta σ H1 Q
variable {σ : L2.St} {H0 H : Hp} {te : TE} {tr : TA} {a : α} {sp sp2 : List α} {D : Ends}
theorem rmono (g : Grows R) {H H' : Hp} {sp : List α} {vs : List V} (s : Same H H') (h : Paired (R H) sp vs) : Paired (R H') sp vs := Paired.mono (fun a v h => g H H' a v s h) h
theorem rappend {R : α → V → Prop} : ∀ {sp sp2 : List α} {vs us : List V}, Paired R sp vs → Paired R sp2 us → Paired R (sp ++ sp2) (vs ++ us)
  | _, _, _, _, .nil, h => h
  | _, _, _, _, .cons a r, h => .cons a (rappend r h)
theorem rat {R : α → V → Prop} : ∀ {sp : List α} {vs : List V}, Paired R sp vs → ∀ {i : Nat} {s : α} {v : V}, sp[i]? = some s → vs[i]? = some v → R s v
  | _, _, .cons a r, 0, _, _, e1, e2 => by
    cases e1
    cases e2
    exact a
  | _, _, .cons a r, i + 1, _, _, e1, e2 => rat r (i := i) e1 e2
theorem er_nil : EvR R tNil σ H0 [] := fun H1 _ _ q => q [] H1 (Same.refl H1) .nil
theorem er_cons (g : Grows R) (h : EvR1 R te σ H0 a) (r : EvR R tr σ H0 sp) : EvR R (tCons te tr) σ H0 (a :: sp) := fun H1 s1 Q q =>
  h H1 s1 _ fun v H2 s2 m => r H2 (s1.trans s2) _ fun vs H3 s3 ms => q (v :: vs) H3 (s2.trans s3) (.cons (g _ _ _ _ s3 m) ms)
theorem add_r (g : Grows R) {i : Nat} {l : Addr} {vs : List V} (hs : Same H0 H) (hi : σ[i]? = some (some (.ref l))) (hl : H l = some (.lst vs)) (hm : Paired (R H) sp vs) (h : EvR R tr σ H0 sp2) (hz : sp.length + sp2.length ≤ 1000)
    (k : ∀ l' us H', H l' = none → Same H H' → H' l' = some (.lst us) → Paired (R H') (sp ++ sp2) us → D.nx (σ.set i (some (.ref l'))) H') : tAsg (tOp rCat (tVar i) (tLst tr)) (gName i) D σ H := by
  refine ⟨_, hi, h H hs _ fun us H2 s2 ms => ?_⟩
  have z1 : sp.length = vs.length := Paired.length hm
  have z2 : sp2.length = us.length := Paired.length ms
  refine ⟨Nat.le_trans (show us.length ≤ 1000 by omega) (by decide), fun p hp => ?_⟩
  refine ⟨l, p, vs, us, rfl, rfl, (same_new hp) _ _ (s2 _ _ hl), upd_same, Nat.le_trans (show vs.length + us.length ≤ 1000 by omega) (by decide), fun p2 hp2 => ?_⟩
  have s3 : Same H (upd (upd H2 p (.lst us)) p2 (.lst (vs ++ us))) := (Same.trans s2 (same_new hp)).trans (same_new hp2)
  exact k p2 _ _ (Evl.fresh_back (Same.trans s2 (same_new hp)) hp2) s3 upd_same (rappend (rmono g s3 hm) (rmono g ((same_new hp).trans (same_new hp2)) ms))
theorem add_rt (τ : Addr → L2.St) (g : Grows R) {i : Nat} {l : Addr} {vs : List V} (hs : Same H0 H) (hl : H l = some (.lst vs)) (hm : Paired (R H) sp vs) (h : EvR R tr (τ l) H0 sp2) (hz : sp.length + sp2.length ≤ 1000)
    (k : ∀ l' us H', H l' = none → Same H H' → H' l' = some (.lst us) → Paired (R H') (sp ++ sp2) us → D.nx (τ l') H') (hi : ∀ l, (τ l)[i]? = some (some (.ref l)) := by intro _; rfl) (ht : ∀ l l', (τ l).set i (some (.ref l')) = τ l' := by intro _ _; rfl) : tAsg (tOp rCat (tVar i) (tLst tr)) (gName i) D (τ l) H :=
  add_r g hs (hi l) hl hm h hz fun l' us H' a b c d => by
    rw [ht]
    exact k l' us H' a b c d
theorem set_r (g : Grows R) {i : Nat} (h : EvR R tr σ H sp) (hz : sp.length ≤ 1000) (k : ∀ l us H', H l = none → Same H H' → H' l = some (.lst us) → Paired (R H') sp us → D.nx (σ.set i (some (.ref l))) H') : tAsg (tLst tr) (gName i) D σ H := by
  refine h H (Same.refl H) _ fun us H2 s2 ms => ⟨Nat.le_trans (show us.length ≤ 1000 by have z : sp.length = us.length := Paired.length ms; omega) (by decide), fun p hp => ?_⟩
  exact k p us _ (Evl.fresh_back s2 hp) (Same.trans s2 (same_new hp)) upd_same (rmono g (same_new hp) ms)
theorem ta_cons {te : TE} {tr : TA} {σ : L2.St} {H : Hp} {Q : List V → Hp → Prop} (h : te σ H fun x H1 => tr σ H1 fun xs H2 => Q (x :: xs) H2) : tCons te tr σ H Q := h
theorem lst_r (g : Grows R) {Q : VK} (h : EvR R tr σ H sp) (hz : sp.length ≤ 1000) (k : ∀ l us H', H l = none → Same H H' → H' l = some (.lst us) → Paired (R H') sp us → Q (.ref l) H') : tLst tr σ H Q := by
  refine h H (Same.refl H) _ fun us H2 s2 ms => ⟨Nat.le_trans (show us.length ≤ 1000 by have z : sp.length = us.length := Paired.length ms; omega) (by decide), fun p hp => ?_⟩
  exact k p us _ (Evl.fresh_back s2 hp) (Same.trans s2 (same_new hp)) upd_same (rmono g (same_new hp) ms)
end
/-- the very values -/
abbrev RV0 : Hp → V → V → Prop := fun _ a v => v = a
theorem rv0_grows : Grows RV0 := fun _ _ _ _ _ h => h
theorem rv0_eq : ∀ {sp vs : List V}, Paired (fun a v => v = a) sp vs → vs = sp
  | _, _, .nil => rfl
  | _, _, .cons h r => by rw [h, rv0_eq r]
/-- errors that stand -/
def Stand (H : Hp) (sp : ESpec) (vs : List V) : Prop := Paired (fun s v => ∃ e, v = V.ref e ∧ ExAt H e s.1 s.2) sp vs
theorem Made.stand {H0 H : Hp} {sp : ESpec} {vs : List V} (h : Made H0 H sp vs) : Stand H sp vs := Paired.mono (fun s v h => by
  obtain ⟨e, d, h1, _, _, h4, h5⟩ := h
  exact ⟨e, h1, d, h4, h5⟩) h
theorem exAt_mono {H H' : Hp} {e C : Addr} {fs : List (Str × V)} (s : Same H H') (h : ExAt H e C fs) : ExAt H' e C fs := by
  obtain ⟨d, h1, h2⟩ := h
  exact ⟨d, s _ _ h1, s _ _ h2⟩
theorem Stand.mono {H H' : Hp} {sp : ESpec} {vs : List V} (s : Same H H') (h : Stand H sp vs) : Stand H' sp vs := Paired.mono (fun _ _ h => by
  obtain ⟨e, h1, h2⟩ := h
  exact ⟨e, h1, exAt_mono s h2⟩) h
/-! ### reading an error's attribute; an item -/
theorem ev_xat {K : PySem.W.Frag} {te : TE} {σ : L2.St} {H : Hp} {e C : Addr} {fs : List (Str × V)} {f : Str} {v : V} (h : Evl.Ev te σ H (.ref e)) (T : XfC K C) (no : PySem.W.findIn K (.ref C) f = some none) (a : ExAt H e C fs) (l : fs.lookup f = some v) : Evl.Ev (tXat K f te) σ H v := fun H1 s1 Q q =>
  h H1 s1 _ fun H2 s2 => by
    obtain ⟨d, h1, h2⟩ := exAt_mono (Same.trans s1 s2) a
    exact ⟨e, C, d, fs, v, rfl, T, no, h1, h2, l, q H2 s2⟩
theorem ev_ixl {K : PySem.W.Frag} {σ : L2.St} {H : Hp} {i : Nat} {l : Addr} {us : List V} {v : V} {te tj : TE} (h : Evl.Ev te σ H (.ref l)) (hj : Evl.Ev tj σ H (.int (i : Int))) (hl : SqL K H l us) (hv : us[i]? = some v) : Evl.Ev (tOp (rIxL K) te tj) σ H v :=
  Evl.ev_op h hj (Evl.rv_ixL hl (atI_nat hv))
theorem er1_ev {te : TE} {σ : L2.St} {H : Hp} {v : V} (h : Evl.Ev te σ H v) : EvR1 RV0 te σ H v := fun H1 s1 Q q => h H1 s1 _ fun H2 s2 => q v H2 s2 rfl
/-- made[i].f, made a list of errors -/
theorem er1_at {K : PySem.W.Frag} {P : Program} {w : World} {mg : Str → Option Value} {base : Heap} {Pb : Addr} {x : Str} {ns : List Str} {C : Addr} {σ : L2.St} {H : Hp} {l : Addr} {us : List V} {sp : ESpec} {fs : List (Str × V)} {f : Str} {v : V} {i j : Nat} {z : Int} (E : Ec P w K mg base Pb x ns C) (hz : z = (i : Int)) (hσ : σ[j]? = some (some (.ref l))) (hl : H l = some (.lst us)) (hs : Stand H sp us)
    (e1 : sp[i]? = some (C, fs)) (hf : f ∈ ns) (e2 : fs.lookup f = some v) : EvR1 RV0 (tXat K f (tOp (rIxL K) (tVar j) (tC (.int z)))) σ H v := by
  subst hz
  have hi : i < us.length := by
    have z : sp.length = us.length := Paired.length hs
    have := (List.getElem?_eq_some_iff.mp e1).1
    omega
  have eu : us[i]? = some us[i] := List.getElem?_eq_getElem hi
  obtain ⟨e, h1, h2⟩ := rat hs e1 eu
  rw [h1] at eu
  exact er1_ev (ev_xat (ev_ixl (Evl.ev_var hσ) Evl.ev_c (SqL.of hl) eu) E.cl.xf (E.no f hf) h2 e2)
/-! ### the places of a class -/
/-- the turns of [k for k in range(len(made)) if isinstance(made[k], X)] -/
abbrev tPlace (K : PySem.W.Frag) (C : Addr) : TE := tLc (iRng1 (tCons (tCB (rLenL K) (tCons (tVar 0) tNil)) tNil)) (gName 2) (tB (tCB (rIsX K) (tCons (tOp (rIxL K) (tVar 0) (tVar 2)) (tCons (tC (.ref C)) tNil)))) (tVar 2) [2]
def RPl : Hp → Nat → V → Prop := fun H j v => ∃ p, v = .ref p ∧ H p = some (.lst [.int (j : Int)])
theorem rpl_grows : Grows RPl := fun _ _ _ _ s h => by
  obtain ⟨p, h1, h2⟩ := h
  exact ⟨p, h1, s _ _ h2⟩
/-- an error of the class at C: with or without a dict -/
def IsAt (H : Hp) (C : Addr) (v : V) : Prop := ∃ e d, v = .ref e ∧ H e = some (exo e C d) ∧ ∀ dd, d = some dd → ∃ fs, H dd = some (exd dd fs)
theorem IsAt.mono {H H' : Hp} {C : Addr} {v : V} (s : Same H H') (h : IsAt H C v) : IsAt H' C v := by
  obtain ⟨e, d, h1, h2, h3⟩ := h
  refine ⟨e, d, h1, s _ _ h2, fun dd hd => ?_⟩
  obtain ⟨fs, h⟩ := h3 dd hd
  exact ⟨fs, s _ _ h⟩
theorem given_one {n j : Nat} (hj : j < n) : Evl.given n (fun i => decide (i = j)) (fun i => V.int (i : Int)) = [.int (j : Int)] := by
  have h : (List.range n).filter (fun i => decide (i = j)) = [j] := by
    induction n with
    | zero => omega
    | succ n ih =>
      rw [List.range_succ, List.filter_append]
      by_cases e : j = n
      · subst e
        have : (List.range j).filter (fun i => decide (i = j)) = [] := by
          rw [List.filter_eq_nil_iff]
          intro a ha
          have := List.mem_range.mp ha
          simp
          omega
        rw [this]
        simp
      · rw [ih (by omega)]
        simp [Ne.symm e]
  unfold Evl.given
  rw [h]
  rfl
theorem pl_one {K : PySem.W.Frag} {H : Hp} {l : Addr} {us : List V} {Cs : List Addr} {j : Nat} {C : Addr} {g : V} (hl : H l = some (.lst us)) (hs : Paired (IsAt H) Cs us) (hx : ∀ D ∈ Cs, ExcC K D) (hz : Cs.length ≤ 1000) (hj : j < Cs.length)
    (hk : ∀ (i : Nat) D, Cs[i]? = some D → PySem.W.kitOne K (.ref D) (.ref C) = some (decide (i = j))) : EvR1 RPl (tPlace K C) [some (.ref l), some g, none] H j := by
  have hlen : Cs.length = us.length := Paired.length hs
  have ev : Evl.EvL (tPlace K C) [some (.ref l), some g, none] H [.int (j : Int)] := by
    rw [← given_one (n := ((us.length : Nat) : Int).toNat) (j := j) (by omega)]
    refine Evl.el_lcR1 (fun i => decide (i = j)) (fun i => .int (i : Int)) (fun H1 e Q q => ⟨_, rfl, l, us, rfl, .inl (SqL.of (e _ _ hl)), q H1 (Evl.Ex.refl H1)⟩) ⟨by omega, by omega⟩ (fun _ => rfl) (fun i H1 e hi H2 e2 Q q => ?_) (fun i H1 e hi _ => Evl.ev_var rfl)
    have hi2 : i < us.length := by omega
    have hi3 : i < Cs.length := by omega
    have eu : us[i]? = some us[i] := List.getElem?_eq_getElem hi2
    have ec : Cs[i]? = some Cs[i] := List.getElem?_eq_getElem hi3
    have s2 := Same.trans e e2
    obtain ⟨ea, d, h1, h2, h3⟩ := (rat hs ec eu).mono s2
    rw [h1] at eu
    refine ⟨_, rfl, _, rfl, l, us, (i : Int), _, rfl, rfl, SqL.of (s2 _ _ hl), atI_nat eu, ?_⟩
    exact ⟨ea, _, d, _, _, _, rfl, .own C, hx _ (List.getElem_mem hi3), h2, h3, hk i _ ec, _, rfl, q H2 (Evl.Ex.refl H2)⟩
  exact fun H1 s1 Q q => ev H1 s1 _ fun p H2 hp e2 h2 => q _ H2 e2 ⟨p, rfl, h2⟩
end Ka

set_option Elab.async false
set_option linter.all false
set_option maxRecDepth 100000
set_option maxHeartbeats 4000000
namespace Ka
open PySem PySem.Spec PyProof.Rows L2 Xc
section
variable {P : Program} {w : World} {K : PySem.W.Frag} {mg : Str → Option Value} {base : Heap}
/-! ### _law_kept_ones -/
abbrev sKOnes : Stmt := tp 83
theorem scKOnes : FnScope ["made", "found"] ["made"] (defScope sKOnes) := ⟨rfl, rfl, rfl, by decide +kernel, rfl, by decide +kernel, by decide +kernel⟩
def spKO (K : PySem.W.Frag) : Sp := fun vs H Q _ => ∃ l us thing, vs = [.ref l] ∧ H l = some (.lst us) ∧ Stand H (spOnes K thing) us ∧ ∀ l' H', H l' = none → Same H H' → H' l' = some (.lst (List.replicate 18 thing)) → Q (.ref l') H'
theorem ok_KOnes {f : Addr} {fd : FuncData} (F : FnP K "_law_kept_ones" sKOnes f fd) (E : AllE P w K mg base) : FnOk P w K mg base CX0 1 f fd ["made"] (spKO K) := by
  refine F.ok scKOnes (fun vs H Q E h => ?_) (fun cdv A outer s H vs Q E' hr h => ?_)
  · obtain ⟨l, us, thing, rfl, _⟩ := h
    rfl
  · obtain ⟨l, us, thing, rfl, hl, hs, q⟩ := h
    refine ⟨_, pss_cons (ps_set (i := 1) scKOnes.nd rfl (Or.inl rfl) (pe_lst (pa_cons (pe_xat (pe_ix ix_list (pv 0) pe_int (fun _ _ => rfl))) (pa_cons (pe_xat (pe_ix ix_list (pv 0) pe_int (fun _ _ => rfl))) (pa_cons (pe_xat (pe_ix ix_list (pv 0) pe_int (fun _ _ => rfl))) (pa_cons (pe_xat (pe_ix ix_list (pv 0) pe_int (fun _ _ => rfl))) (pa_cons (pe_xat (pe_ix ix_list (pv 0) pe_int (fun _ _ => rfl))) (pa_cons (pe_xat (pe_ix ix_list (pv 0) pe_int (fun _ _ => rfl))) (pa_cons (pe_xat (pe_ix ix_list (pv 0) pe_int (fun _ _ => rfl))) (pa_cons (pe_xat (pe_ix ix_list (pv 0) pe_int (fun _ _ => rfl))) (pa_cons (pe_xat (pe_ix ix_list (pv 0) pe_int (fun _ _ => rfl))) (pa_cons (pe_xat (pe_ix ix_list (pv 0) pe_int (fun _ _ => rfl))) (pa_cons (pe_xat (pe_ix ix_list (pv 0) pe_int (fun _ _ => rfl))) pa_nil)))))))))))))
      (pss_cons (ps_set (i := 1) scKOnes.nd rfl (Or.inl rfl) (pe_op op_cat (pv 1) (pe_lst (pa_cons (pe_xat (pe_ix ix_list (pv 0) pe_int (fun _ _ => rfl))) (pa_cons (pe_xat (pe_ix ix_list (pv 0) pe_int (fun _ _ => rfl))) (pa_cons (pe_xat (pe_ix ix_list (pv 0) pe_int (fun _ _ => rfl))) (pa_cons (pe_xat (pe_ix ix_list (pv 0) pe_int (fun _ _ => rfl))) (pa_cons (pe_xat (pe_ix ix_list (pv 0) pe_int (fun _ _ => rfl))) (pa_cons (pe_xat (pe_ix ix_list (pv 0) pe_int (fun _ _ => rfl))) (pa_cons (pe_xat (pe_ix ix_list (pv 0) pe_int (fun _ _ => rfl))) pa_nil))))))))))
      (pss_one (ps_ret (pv 1)))), ?_⟩
    refine set_r (R := RV0) rv0_grows (sp := List.replicate 11 thing) (er_cons rv0_grows (er1_at (i := 0) (E 47 "All" _ _ rfl) rfl rfl hl hs rfl (List.mem_singleton.mpr rfl) rfl) (er_cons rv0_grows (er1_at (i := 1) (E 48 "Cyclic" _ _ rfl) rfl rfl hl hs rfl (List.mem_singleton.mpr rfl) rfl) (er_cons rv0_grows (er1_at (i := 2) (E 49 "Even" _ _ rfl) rfl rfl hl hs rfl (List.mem_singleton.mpr rfl) rfl) (er_cons rv0_grows (er1_at (i := 3) (E 50 "Full" _ _ rfl) rfl rfl hl hs rfl (List.mem_singleton.mpr rfl) rfl) (er_cons rv0_grows (er1_at (i := 4) (E 51 "NoName" _ _ rfl) rfl rfl hl hs rfl (List.mem_singleton.mpr rfl) rfl) (er_cons rv0_grows (er1_at (i := 5) (E 52 "NoNet" _ _ rfl) rfl rfl hl hs rfl (List.mem_singleton.mpr rfl) rfl) (er_cons rv0_grows (er1_at (i := 6) (E 53 "NoTheory" _ _ rfl) rfl rfl hl hs rfl (List.mem_singleton.mpr rfl) rfl) (er_cons rv0_grows (er1_at (i := 7) (E 54 "NotFirst" _ _ rfl) rfl rfl hl hs rfl (List.mem_singleton.mpr rfl) rfl) (er_cons rv0_grows (er1_at (i := 8) (E 55 "NotNet" _ _ rfl) rfl rfl hl hs rfl (List.mem_singleton.mpr rfl) rfl) (er_cons rv0_grows (er1_at (i := 9) (E 56 "NotReduced" _ _ rfl) rfl rfl hl hs rfl (List.mem_singleton.mpr rfl) rfl) (er_cons rv0_grows (er1_at (i := 10) (E 57 "NotSeparable" _ _ rfl) rfl rfl hl hs rfl (List.mem_singleton.mpr rfl) rfl) er_nil))))))))))) (Nat.le_of_ble_eq_true rfl) fun l0 us0 H0 n0 z0 h0 m0 => ?_
    refine add_r (R := RV0) (H0 := H0) (sp2 := List.replicate 7 thing) rv0_grows (Same.refl H0) rfl h0 m0 (er_cons rv0_grows (er1_at (i := 11) (E 58 "NotTwo" _ _ rfl) rfl rfl (z0 _ _ hl) (hs.mono z0) rfl (List.mem_singleton.mpr rfl) rfl) (er_cons rv0_grows (er1_at (i := 12) (E 59 "Ringed" _ _ rfl) rfl rfl (z0 _ _ hl) (hs.mono z0) rfl (List.mem_singleton.mpr rfl) rfl) (er_cons rv0_grows (er1_at (i := 13) (E 60 "Same" _ _ rfl) rfl rfl (z0 _ _ hl) (hs.mono z0) rfl (List.mem_singleton.mpr rfl) rfl) (er_cons rv0_grows (er1_at (i := 14) (E 61 "Taken" _ _ rfl) rfl rfl (z0 _ _ hl) (hs.mono z0) rfl (List.mem_singleton.mpr rfl) rfl) (er_cons rv0_grows (er1_at (i := 15) (E 62 "TooLarge" _ _ rfl) rfl rfl (z0 _ _ hl) (hs.mono z0) rfl (List.mem_singleton.mpr rfl) rfl) (er_cons rv0_grows (er1_at (i := 16) (E 63 "TooMany" _ _ rfl) rfl rfl (z0 _ _ hl) (hs.mono z0) rfl (List.mem_singleton.mpr rfl) rfl) (er_cons rv0_grows (er1_at (i := 17) (E 64 "Unapart" _ _ rfl) rfl rfl (z0 _ _ hl) (hs.mono z0) rfl (List.mem_singleton.mpr rfl) rfl) er_nil))))))) (Nat.le_of_ble_eq_true rfl) fun l1 us1 H1 n1 z1 h1 m1 => ?_
    rw [rv0_eq m1] at h1
    exact ⟨_, rfl, q l1 H1 (Evl.fresh_back z0 n1) (Same.trans z0 z1) h1⟩
/-! ### _law_kept_twos -/
abbrev sKTwos : Stmt := tp 85
theorem scKTwos : FnScope ["made", "firsts"] ["made"] (defScope sKTwos) := ⟨rfl, rfl, rfl, by decide +kernel, rfl, by decide +kernel, by decide +kernel⟩
def spKT (K : PySem.W.Frag) : Sp := fun vs H Q _ => ∃ l us one other third, vs = [.ref l] ∧ H l = some (.lst us) ∧ Stand H (spTwos K one other third) us ∧ ∀ p q r H', H p = none → H q = none → H r = none → Same H H' → H' p = some (.tup [.ref q, .ref r, third]) → H' q = some (.lst (List.replicate 5 one)) → H' r = some (.lst (List.replicate 5 other)) → Q (.ref p) H'
theorem ok_KTwos {f : Addr} {fd : FuncData} (F : FnP K "_law_kept_twos" sKTwos f fd) (E : AllE P w K mg base) : FnOk P w K mg base CX0 1 f fd ["made"] (spKT K) := by
  refine F.ok scKTwos (fun vs H Q E h => ?_) (fun cdv A outer s H vs Q E' hr h => ?_)
  · obtain ⟨l, us, one, other, third, rfl, _⟩ := h
    rfl
  · obtain ⟨l, us, one, other, third, rfl, hl, hs, q⟩ := h
    refine ⟨_, pss_cons (ps_set (i := 1) scKTwos.nd rfl (Or.inl rfl) (pe_lst (pa_cons (pe_xat (pe_ix ix_list (pv 0) pe_int (fun _ _ => rfl))) (pa_cons (pe_xat (pe_ix ix_list (pv 0) pe_int (fun _ _ => rfl))) (pa_cons (pe_xat (pe_ix ix_list (pv 0) pe_int (fun _ _ => rfl))) (pa_cons (pe_xat (pe_ix ix_list (pv 0) pe_int (fun _ _ => rfl))) (pa_cons (pe_xat (pe_ix ix_list (pv 0) pe_int (fun _ _ => rfl))) pa_nil)))))))
      (pss_one (ps_ret (pe_tup (pa_cons (pv 1) (pa_cons (pe_lst (pa_cons (pe_xat (pe_ix ix_list (pv 0) pe_int (fun _ _ => rfl))) (pa_cons (pe_xat (pe_ix ix_list (pv 0) pe_int (fun _ _ => rfl))) (pa_cons (pe_xat (pe_ix ix_list (pv 0) pe_int (fun _ _ => rfl))) (pa_cons (pe_xat (pe_ix ix_list (pv 0) pe_int (fun _ _ => rfl))) (pa_cons (pe_xat (pe_ix ix_list (pv 0) pe_int (fun _ _ => rfl))) pa_nil)))))) (pa_cons (pe_xat (pe_ix ix_list (pv 0) pe_int (fun _ _ => rfl))) pa_nil)))))), ?_⟩
    refine set_r (R := RV0) rv0_grows (sp := List.replicate 5 one) (er_cons rv0_grows (er1_at (i := 0) (E 65 "ArrowRing" _ _ rfl) rfl rfl hl hs rfl (List.Mem.head _) rfl) (er_cons rv0_grows (er1_at (i := 1) (E 66 "NotSwap" _ _ rfl) rfl rfl hl hs rfl (List.Mem.head _) rfl) (er_cons rv0_grows (er1_at (i := 2) (E 67 "Tied" _ _ rfl) rfl rfl hl hs rfl (List.Mem.head _) rfl) (er_cons rv0_grows (er1_at (i := 3) (E 68 "Told" _ _ rfl) rfl rfl hl hs rfl (List.Mem.head _) rfl) (er_cons rv0_grows (er1_at (i := 4) (E 69 "NotLocal" _ _ rfl) rfl rfl hl hs rfl (List.Mem.head _) rfl) er_nil))))) (Nat.le_of_ble_eq_true rfl) fun l0 us0 H0 n0 z0 h0 m0 => ?_
    have hr0 : EvR RV0 (tCons (tXat K "ring" (tOp (rIxL K) (tVar 0) (tC (.int 0)))) (tCons (tXat K "other" (tOp (rIxL K) (tVar 0) (tC (.int 1)))) (tCons (tXat K "other" (tOp (rIxL K) (tVar 0) (tC (.int 2)))) (tCons (tXat K "values" (tOp (rIxL K) (tVar 0) (tC (.int 3)))) (tCons (tXat K "variable" (tOp (rIxL K) (tVar 0) (tC (.int 4)))) tNil))))) [some (V.ref l), some (V.ref l0)] H0 (List.replicate 5 other) := (er_cons rv0_grows (er1_at (i := 0) (E 65 "ArrowRing" _ _ rfl) rfl rfl (z0 _ _ hl) (hs.mono z0) rfl (List.Mem.tail _ (List.Mem.head _)) rfl) (er_cons rv0_grows (er1_at (i := 1) (E 66 "NotSwap" _ _ rfl) rfl rfl (z0 _ _ hl) (hs.mono z0) rfl (List.Mem.tail _ (List.Mem.head _)) rfl) (er_cons rv0_grows (er1_at (i := 2) (E 67 "Tied" _ _ rfl) rfl rfl (z0 _ _ hl) (hs.mono z0) rfl (List.Mem.tail _ (List.Mem.head _)) rfl) (er_cons rv0_grows (er1_at (i := 3) (E 68 "Told" _ _ rfl) rfl rfl (z0 _ _ hl) (hs.mono z0) rfl (List.Mem.tail _ (List.Mem.head _)) rfl) (er_cons rv0_grows (er1_at (i := 4) (E 69 "NotLocal" _ _ rfl) rfl rfl (z0 _ _ hl) (hs.mono z0) rfl (List.Mem.tail _ (List.Mem.head _)) rfl) er_nil)))))
    refine ⟨_, rfl, ta_cons (lst_r rv0_grows hr0 (by rw [List.length_replicate]; decide) fun p1 us1 H1 hp1 z1 h1 m1 => ?_)⟩
    have z2 : Same H H1 := Same.trans z0 z1
    refine ta_cons (er1_at (i := 4) (E 69 "NotLocal" _ _ rfl) rfl rfl (z2 _ _ hl) (hs.mono z2) rfl (List.Mem.tail _ (List.Mem.tail _ (List.Mem.head _))) rfl _ (Same.refl _) _ fun v H3 z3 e3 => ?_)
    rw [e3]
    refine ⟨(by show 3 ≤ sizeLine; decide), fun p2 hp2 => ?_⟩
    have z4 := Same.trans z3 (same_new (o := .tup [.ref l0, .ref p1, third]) hp2)
    refine q p2 l0 p1 _ (Evl.fresh_back (Same.trans z2 z3) hp2) n0 (Evl.fresh_back z0 hp1) (Same.trans z2 z4) upd_same ?_ ?_
    · rw [← rv0_eq m0]
      exact z4 _ _ (z1 _ _ h0)
    · rw [← rv0_eq m1]
      exact z4 _ _ h1
end
end Ka

set_option Elab.async false
set_option linter.all false
set_option maxRecDepth 100000
set_option maxHeartbeats 4000000
namespace Ka
open PySem PySem.Spec PyProof.Rows L2 Xc
section
variable {P : Program} {w : World} {K : PySem.W.Frag} {mg : Str → Option Value} {base : Heap}
def names72 : List Str := [Str.ofString "InvalidAssignment", Str.ofString "InvalidBounds", Str.ofString "InvalidChances", Str.ofString "InvalidCount", Str.ofString "InvalidExamples", Str.ofString "InvalidFamilies", Str.ofString "InvalidFrame", Str.ofString "InvalidGains", Str.ofString "InvalidGoals", Str.ofString "InvalidImportances", Str.ofString "InvalidIndex", Str.ofString "InvalidItem", Str.ofString "InvalidLevels", Str.ofString "InvalidLines", Str.ofString "InvalidName", Str.ofString "InvalidNet", Str.ofString "InvalidNets", Str.ofString "InvalidNumber", Str.ofString "InvalidOrder", Str.ofString "InvalidOutcome", Str.ofString "InvalidOutcomes", Str.ofString "InvalidPairs", Str.ofString "InvalidParent", Str.ofString "InvalidParents", Str.ofString "InvalidPart", Str.ofString "InvalidPlace", Str.ofString "InvalidProducts", Str.ofString "InvalidProfile", Str.ofString "InvalidRanking", Str.ofString "InvalidReport", Str.ofString "InvalidRing", Str.ofString "InvalidRow", Str.ofString "InvalidSketch", Str.ofString "InvalidSpace", Str.ofString "InvalidStatement", Str.ofString "InvalidStrata", Str.ofString "InvalidSwaps", Str.ofString "InvalidText", Str.ofString "InvalidTheory", Str.ofString "InvalidTree", Str.ofString "InvalidValue", Str.ofString "InvalidValues", Str.ofString "InvalidVariable", Str.ofString "InvalidVariables", Str.ofString "InvalidVoter", Str.ofString "InvalidWay", Str.ofString "InvalidWorths", Str.ofString "All", Str.ofString "Cyclic", Str.ofString "Even", Str.ofString "Full", Str.ofString "NoName", Str.ofString "NoNet", Str.ofString "NoTheory", Str.ofString "NotFirst", Str.ofString "NotNet", Str.ofString "NotReduced", Str.ofString "NotSeparable", Str.ofString "NotTwo", Str.ofString "Ringed", Str.ofString "Same", Str.ofString "Taken", Str.ofString "TooLarge", Str.ofString "TooMany", Str.ofString "Unapart", Str.ofString "ArrowRing", Str.ofString "NotSwap", Str.ofString "Tied", Str.ofString "Told", Str.ofString "NotLocal", Str.ofString "NothingToRedo", Str.ofString "NothingToUndo"]
def csAll (K : PySem.W.Frag) : List Addr := [He.ga K "InvalidAssignment", He.ga K "InvalidBounds", He.ga K "InvalidChances", He.ga K "InvalidCount", He.ga K "InvalidExamples", He.ga K "InvalidFamilies", He.ga K "InvalidFrame", He.ga K "InvalidGains", He.ga K "InvalidGoals", He.ga K "InvalidImportances", He.ga K "InvalidIndex", He.ga K "InvalidItem", He.ga K "InvalidLevels", He.ga K "InvalidLines", He.ga K "InvalidName", He.ga K "InvalidNet", He.ga K "InvalidNets", He.ga K "InvalidNumber", He.ga K "InvalidOrder", He.ga K "InvalidOutcome", He.ga K "InvalidOutcomes", He.ga K "InvalidPairs", He.ga K "InvalidParent", He.ga K "InvalidParents", He.ga K "InvalidPart", He.ga K "InvalidPlace", He.ga K "InvalidProducts", He.ga K "InvalidProfile", He.ga K "InvalidRanking", He.ga K "InvalidReport", He.ga K "InvalidRing", He.ga K "InvalidRow", He.ga K "InvalidSketch", He.ga K "InvalidSpace", He.ga K "InvalidStatement", He.ga K "InvalidStrata", He.ga K "InvalidSwaps", He.ga K "InvalidText", He.ga K "InvalidTheory", He.ga K "InvalidTree", He.ga K "InvalidValue", He.ga K "InvalidValues", He.ga K "InvalidVariable", He.ga K "InvalidVariables", He.ga K "InvalidVoter", He.ga K "InvalidWay", He.ga K "InvalidWorths", He.ga K "All", He.ga K "Cyclic", He.ga K "Even", He.ga K "Full", He.ga K "NoName", He.ga K "NoNet", He.ga K "NoTheory", He.ga K "NotFirst", He.ga K "NotNet", He.ga K "NotReduced", He.ga K "NotSeparable", He.ga K "NotTwo", He.ga K "Ringed", He.ga K "Same", He.ga K "Taken", He.ga K "TooLarge", He.ga K "TooMany", He.ga K "Unapart", He.ga K "ArrowRing", He.ga K "NotSwap", He.ga K "Tied", He.ga K "Told", He.ga K "NotLocal", He.ga K "NothingToRedo", He.ga K "NothingToUndo"]
/-- what isinstance says among the classes -/
def PlF (K : PySem.W.Frag) : Prop := ∀ (j : Nat) (C : Addr), (csAll K)[j]? = some C → ∀ (i : Nat) (D : Addr), (csAll K)[i]? = some D → PySem.W.kitOne K (.ref D) (.ref C) = some (decide (i = j))
def GlF (K : PySem.W.Frag) (mg : Str → Option Value) : Prop := ∀ (i : Nat) (x : Str), names72[i]? = some x → mg x = some (.ref (He.ga K x))
/-! ### _law_places_low -/
abbrev sLow : Stmt := tp 86
theorem scLow : FnScope ["made", "found", "k"] ["made"] (defScope sLow) := ⟨rfl, rfl, rfl, by decide +kernel, rfl, by decide +kernel, by decide +kernel⟩
def spPLow (K : PySem.W.Frag) : Sp := fun vs H Q _ => ∃ l us, vs = [.ref l] ∧ H l = some (.lst us) ∧ Paired (IsAt H) (csAll K) us ∧ ∀ l' us' H', H l' = none → Same H H' → H' l' = some (.lst us') → Paired (RPl H') (List.range' 0 38) us' → Q (.ref l') H'
theorem ok_Low {f : Addr} {fd : FuncData} (F : FnP K "_law_places_low" sLow f fd) (T : Free mg) (G : GlF K mg) (X1 : ∀ D ∈ csAll K, ExcC K D) (PF : PlF K) : FnOk P w K mg base CX0 1 f fd ["made"] (spPLow K) := by
  refine F.ok scLow (fun vs H Q E h => ?_) (fun cdv A outer s H vs Q E' hr h => ?_)
  · obtain ⟨l, us, rfl, _⟩ := h
    rfl
  · obtain ⟨l, us, rfl, hl, hs, q⟩ := h
    refine ⟨_, pss_cons (ps_set (i := 1) scLow.nd rfl (Or.inl rfl) (pe_lst pa_nil))
      (pss_cons (ps_set (i := 1) scLow.nd rfl (Or.inl rfl) (pe_op op_cat (pv 1) (pe_lst (pa_cons (pe_lc (own := [("k", 2)]) (g := gName 2) rfl scLow.nd (pi_range1 (by rfl) T.range (pa_cons (pe_callB call_len_seq (by rfl) T.len PySem.boot_len (pa_cons (pv 0) pa_nil)) pa_nil)) (blkOk_by (N := ["made", "found", "k"]) (sc := defScope sLow) (by decide +kernel)) (fun _ _ _ _ _ => pg_name (i := 2) scLow.nd rfl (Or.inl rfl)) (fun _ _ _ _ _ => pts_one (pt_val (pe_callB (call_isX : CallR _ _ (rIsX K)) (by rfl) T.isi (by decide +kernel) (pa_cons (pe_ix (ix_list : IxR _ (rIxL K)) (pv 0) (pv 2) (fun _ _ => rfl)) (pa_cons (pe_glob (v := .ref (He.ga K "InvalidAssignment")) (by rfl) (G 0 "InvalidAssignment" rfl) rfl) pa_nil))))) (fun _ _ _ _ _ => pv 2)) (pa_cons (pe_lc (own := [("k", 2)]) (g := gName 2) rfl scLow.nd (pi_range1 (by rfl) T.range (pa_cons (pe_callB call_len_seq (by rfl) T.len PySem.boot_len (pa_cons (pv 0) pa_nil)) pa_nil)) (blkOk_by (N := ["made", "found", "k"]) (sc := defScope sLow) (by decide +kernel)) (fun _ _ _ _ _ => pg_name (i := 2) scLow.nd rfl (Or.inl rfl)) (fun _ _ _ _ _ => pts_one (pt_val (pe_callB (call_isX : CallR _ _ (rIsX K)) (by rfl) T.isi (by decide +kernel) (pa_cons (pe_ix (ix_list : IxR _ (rIxL K)) (pv 0) (pv 2) (fun _ _ => rfl)) (pa_cons (pe_glob (v := .ref (He.ga K "InvalidBounds")) (by rfl) (G 1 "InvalidBounds" rfl) rfl) pa_nil))))) (fun _ _ _ _ _ => pv 2)) pa_nil)))))
      (pss_cons (ps_set (i := 1) scLow.nd rfl (Or.inl rfl) (pe_op op_cat (pv 1) (pe_lst (pa_cons (pe_lc (own := [("k", 2)]) (g := gName 2) rfl scLow.nd (pi_range1 (by rfl) T.range (pa_cons (pe_callB call_len_seq (by rfl) T.len PySem.boot_len (pa_cons (pv 0) pa_nil)) pa_nil)) (blkOk_by (N := ["made", "found", "k"]) (sc := defScope sLow) (by decide +kernel)) (fun _ _ _ _ _ => pg_name (i := 2) scLow.nd rfl (Or.inl rfl)) (fun _ _ _ _ _ => pts_one (pt_val (pe_callB (call_isX : CallR _ _ (rIsX K)) (by rfl) T.isi (by decide +kernel) (pa_cons (pe_ix (ix_list : IxR _ (rIxL K)) (pv 0) (pv 2) (fun _ _ => rfl)) (pa_cons (pe_glob (v := .ref (He.ga K "InvalidChances")) (by rfl) (G 2 "InvalidChances" rfl) rfl) pa_nil))))) (fun _ _ _ _ _ => pv 2)) (pa_cons (pe_lc (own := [("k", 2)]) (g := gName 2) rfl scLow.nd (pi_range1 (by rfl) T.range (pa_cons (pe_callB call_len_seq (by rfl) T.len PySem.boot_len (pa_cons (pv 0) pa_nil)) pa_nil)) (blkOk_by (N := ["made", "found", "k"]) (sc := defScope sLow) (by decide +kernel)) (fun _ _ _ _ _ => pg_name (i := 2) scLow.nd rfl (Or.inl rfl)) (fun _ _ _ _ _ => pts_one (pt_val (pe_callB (call_isX : CallR _ _ (rIsX K)) (by rfl) T.isi (by decide +kernel) (pa_cons (pe_ix (ix_list : IxR _ (rIxL K)) (pv 0) (pv 2) (fun _ _ => rfl)) (pa_cons (pe_glob (v := .ref (He.ga K "InvalidCount")) (by rfl) (G 3 "InvalidCount" rfl) rfl) pa_nil))))) (fun _ _ _ _ _ => pv 2)) pa_nil)))))
      (pss_cons (ps_set (i := 1) scLow.nd rfl (Or.inl rfl) (pe_op op_cat (pv 1) (pe_lst (pa_cons (pe_lc (own := [("k", 2)]) (g := gName 2) rfl scLow.nd (pi_range1 (by rfl) T.range (pa_cons (pe_callB call_len_seq (by rfl) T.len PySem.boot_len (pa_cons (pv 0) pa_nil)) pa_nil)) (blkOk_by (N := ["made", "found", "k"]) (sc := defScope sLow) (by decide +kernel)) (fun _ _ _ _ _ => pg_name (i := 2) scLow.nd rfl (Or.inl rfl)) (fun _ _ _ _ _ => pts_one (pt_val (pe_callB (call_isX : CallR _ _ (rIsX K)) (by rfl) T.isi (by decide +kernel) (pa_cons (pe_ix (ix_list : IxR _ (rIxL K)) (pv 0) (pv 2) (fun _ _ => rfl)) (pa_cons (pe_glob (v := .ref (He.ga K "InvalidExamples")) (by rfl) (G 4 "InvalidExamples" rfl) rfl) pa_nil))))) (fun _ _ _ _ _ => pv 2)) (pa_cons (pe_lc (own := [("k", 2)]) (g := gName 2) rfl scLow.nd (pi_range1 (by rfl) T.range (pa_cons (pe_callB call_len_seq (by rfl) T.len PySem.boot_len (pa_cons (pv 0) pa_nil)) pa_nil)) (blkOk_by (N := ["made", "found", "k"]) (sc := defScope sLow) (by decide +kernel)) (fun _ _ _ _ _ => pg_name (i := 2) scLow.nd rfl (Or.inl rfl)) (fun _ _ _ _ _ => pts_one (pt_val (pe_callB (call_isX : CallR _ _ (rIsX K)) (by rfl) T.isi (by decide +kernel) (pa_cons (pe_ix (ix_list : IxR _ (rIxL K)) (pv 0) (pv 2) (fun _ _ => rfl)) (pa_cons (pe_glob (v := .ref (He.ga K "InvalidFamilies")) (by rfl) (G 5 "InvalidFamilies" rfl) rfl) pa_nil))))) (fun _ _ _ _ _ => pv 2)) pa_nil)))))
      (pss_cons (ps_set (i := 1) scLow.nd rfl (Or.inl rfl) (pe_op op_cat (pv 1) (pe_lst (pa_cons (pe_lc (own := [("k", 2)]) (g := gName 2) rfl scLow.nd (pi_range1 (by rfl) T.range (pa_cons (pe_callB call_len_seq (by rfl) T.len PySem.boot_len (pa_cons (pv 0) pa_nil)) pa_nil)) (blkOk_by (N := ["made", "found", "k"]) (sc := defScope sLow) (by decide +kernel)) (fun _ _ _ _ _ => pg_name (i := 2) scLow.nd rfl (Or.inl rfl)) (fun _ _ _ _ _ => pts_one (pt_val (pe_callB (call_isX : CallR _ _ (rIsX K)) (by rfl) T.isi (by decide +kernel) (pa_cons (pe_ix (ix_list : IxR _ (rIxL K)) (pv 0) (pv 2) (fun _ _ => rfl)) (pa_cons (pe_glob (v := .ref (He.ga K "InvalidFrame")) (by rfl) (G 6 "InvalidFrame" rfl) rfl) pa_nil))))) (fun _ _ _ _ _ => pv 2)) (pa_cons (pe_lc (own := [("k", 2)]) (g := gName 2) rfl scLow.nd (pi_range1 (by rfl) T.range (pa_cons (pe_callB call_len_seq (by rfl) T.len PySem.boot_len (pa_cons (pv 0) pa_nil)) pa_nil)) (blkOk_by (N := ["made", "found", "k"]) (sc := defScope sLow) (by decide +kernel)) (fun _ _ _ _ _ => pg_name (i := 2) scLow.nd rfl (Or.inl rfl)) (fun _ _ _ _ _ => pts_one (pt_val (pe_callB (call_isX : CallR _ _ (rIsX K)) (by rfl) T.isi (by decide +kernel) (pa_cons (pe_ix (ix_list : IxR _ (rIxL K)) (pv 0) (pv 2) (fun _ _ => rfl)) (pa_cons (pe_glob (v := .ref (He.ga K "InvalidGains")) (by rfl) (G 7 "InvalidGains" rfl) rfl) pa_nil))))) (fun _ _ _ _ _ => pv 2)) pa_nil)))))
      (pss_cons (ps_set (i := 1) scLow.nd rfl (Or.inl rfl) (pe_op op_cat (pv 1) (pe_lst (pa_cons (pe_lc (own := [("k", 2)]) (g := gName 2) rfl scLow.nd (pi_range1 (by rfl) T.range (pa_cons (pe_callB call_len_seq (by rfl) T.len PySem.boot_len (pa_cons (pv 0) pa_nil)) pa_nil)) (blkOk_by (N := ["made", "found", "k"]) (sc := defScope sLow) (by decide +kernel)) (fun _ _ _ _ _ => pg_name (i := 2) scLow.nd rfl (Or.inl rfl)) (fun _ _ _ _ _ => pts_one (pt_val (pe_callB (call_isX : CallR _ _ (rIsX K)) (by rfl) T.isi (by decide +kernel) (pa_cons (pe_ix (ix_list : IxR _ (rIxL K)) (pv 0) (pv 2) (fun _ _ => rfl)) (pa_cons (pe_glob (v := .ref (He.ga K "InvalidGoals")) (by rfl) (G 8 "InvalidGoals" rfl) rfl) pa_nil))))) (fun _ _ _ _ _ => pv 2)) (pa_cons (pe_lc (own := [("k", 2)]) (g := gName 2) rfl scLow.nd (pi_range1 (by rfl) T.range (pa_cons (pe_callB call_len_seq (by rfl) T.len PySem.boot_len (pa_cons (pv 0) pa_nil)) pa_nil)) (blkOk_by (N := ["made", "found", "k"]) (sc := defScope sLow) (by decide +kernel)) (fun _ _ _ _ _ => pg_name (i := 2) scLow.nd rfl (Or.inl rfl)) (fun _ _ _ _ _ => pts_one (pt_val (pe_callB (call_isX : CallR _ _ (rIsX K)) (by rfl) T.isi (by decide +kernel) (pa_cons (pe_ix (ix_list : IxR _ (rIxL K)) (pv 0) (pv 2) (fun _ _ => rfl)) (pa_cons (pe_glob (v := .ref (He.ga K "InvalidImportances")) (by rfl) (G 9 "InvalidImportances" rfl) rfl) pa_nil))))) (fun _ _ _ _ _ => pv 2)) pa_nil)))))
      (pss_cons (ps_set (i := 1) scLow.nd rfl (Or.inl rfl) (pe_op op_cat (pv 1) (pe_lst (pa_cons (pe_lc (own := [("k", 2)]) (g := gName 2) rfl scLow.nd (pi_range1 (by rfl) T.range (pa_cons (pe_callB call_len_seq (by rfl) T.len PySem.boot_len (pa_cons (pv 0) pa_nil)) pa_nil)) (blkOk_by (N := ["made", "found", "k"]) (sc := defScope sLow) (by decide +kernel)) (fun _ _ _ _ _ => pg_name (i := 2) scLow.nd rfl (Or.inl rfl)) (fun _ _ _ _ _ => pts_one (pt_val (pe_callB (call_isX : CallR _ _ (rIsX K)) (by rfl) T.isi (by decide +kernel) (pa_cons (pe_ix (ix_list : IxR _ (rIxL K)) (pv 0) (pv 2) (fun _ _ => rfl)) (pa_cons (pe_glob (v := .ref (He.ga K "InvalidIndex")) (by rfl) (G 10 "InvalidIndex" rfl) rfl) pa_nil))))) (fun _ _ _ _ _ => pv 2)) (pa_cons (pe_lc (own := [("k", 2)]) (g := gName 2) rfl scLow.nd (pi_range1 (by rfl) T.range (pa_cons (pe_callB call_len_seq (by rfl) T.len PySem.boot_len (pa_cons (pv 0) pa_nil)) pa_nil)) (blkOk_by (N := ["made", "found", "k"]) (sc := defScope sLow) (by decide +kernel)) (fun _ _ _ _ _ => pg_name (i := 2) scLow.nd rfl (Or.inl rfl)) (fun _ _ _ _ _ => pts_one (pt_val (pe_callB (call_isX : CallR _ _ (rIsX K)) (by rfl) T.isi (by decide +kernel) (pa_cons (pe_ix (ix_list : IxR _ (rIxL K)) (pv 0) (pv 2) (fun _ _ => rfl)) (pa_cons (pe_glob (v := .ref (He.ga K "InvalidItem")) (by rfl) (G 11 "InvalidItem" rfl) rfl) pa_nil))))) (fun _ _ _ _ _ => pv 2)) pa_nil)))))
      (pss_cons (ps_set (i := 1) scLow.nd rfl (Or.inl rfl) (pe_op op_cat (pv 1) (pe_lst (pa_cons (pe_lc (own := [("k", 2)]) (g := gName 2) rfl scLow.nd (pi_range1 (by rfl) T.range (pa_cons (pe_callB call_len_seq (by rfl) T.len PySem.boot_len (pa_cons (pv 0) pa_nil)) pa_nil)) (blkOk_by (N := ["made", "found", "k"]) (sc := defScope sLow) (by decide +kernel)) (fun _ _ _ _ _ => pg_name (i := 2) scLow.nd rfl (Or.inl rfl)) (fun _ _ _ _ _ => pts_one (pt_val (pe_callB (call_isX : CallR _ _ (rIsX K)) (by rfl) T.isi (by decide +kernel) (pa_cons (pe_ix (ix_list : IxR _ (rIxL K)) (pv 0) (pv 2) (fun _ _ => rfl)) (pa_cons (pe_glob (v := .ref (He.ga K "InvalidLevels")) (by rfl) (G 12 "InvalidLevels" rfl) rfl) pa_nil))))) (fun _ _ _ _ _ => pv 2)) (pa_cons (pe_lc (own := [("k", 2)]) (g := gName 2) rfl scLow.nd (pi_range1 (by rfl) T.range (pa_cons (pe_callB call_len_seq (by rfl) T.len PySem.boot_len (pa_cons (pv 0) pa_nil)) pa_nil)) (blkOk_by (N := ["made", "found", "k"]) (sc := defScope sLow) (by decide +kernel)) (fun _ _ _ _ _ => pg_name (i := 2) scLow.nd rfl (Or.inl rfl)) (fun _ _ _ _ _ => pts_one (pt_val (pe_callB (call_isX : CallR _ _ (rIsX K)) (by rfl) T.isi (by decide +kernel) (pa_cons (pe_ix (ix_list : IxR _ (rIxL K)) (pv 0) (pv 2) (fun _ _ => rfl)) (pa_cons (pe_glob (v := .ref (He.ga K "InvalidLines")) (by rfl) (G 13 "InvalidLines" rfl) rfl) pa_nil))))) (fun _ _ _ _ _ => pv 2)) pa_nil)))))
      (pss_cons (ps_set (i := 1) scLow.nd rfl (Or.inl rfl) (pe_op op_cat (pv 1) (pe_lst (pa_cons (pe_lc (own := [("k", 2)]) (g := gName 2) rfl scLow.nd (pi_range1 (by rfl) T.range (pa_cons (pe_callB call_len_seq (by rfl) T.len PySem.boot_len (pa_cons (pv 0) pa_nil)) pa_nil)) (blkOk_by (N := ["made", "found", "k"]) (sc := defScope sLow) (by decide +kernel)) (fun _ _ _ _ _ => pg_name (i := 2) scLow.nd rfl (Or.inl rfl)) (fun _ _ _ _ _ => pts_one (pt_val (pe_callB (call_isX : CallR _ _ (rIsX K)) (by rfl) T.isi (by decide +kernel) (pa_cons (pe_ix (ix_list : IxR _ (rIxL K)) (pv 0) (pv 2) (fun _ _ => rfl)) (pa_cons (pe_glob (v := .ref (He.ga K "InvalidName")) (by rfl) (G 14 "InvalidName" rfl) rfl) pa_nil))))) (fun _ _ _ _ _ => pv 2)) (pa_cons (pe_lc (own := [("k", 2)]) (g := gName 2) rfl scLow.nd (pi_range1 (by rfl) T.range (pa_cons (pe_callB call_len_seq (by rfl) T.len PySem.boot_len (pa_cons (pv 0) pa_nil)) pa_nil)) (blkOk_by (N := ["made", "found", "k"]) (sc := defScope sLow) (by decide +kernel)) (fun _ _ _ _ _ => pg_name (i := 2) scLow.nd rfl (Or.inl rfl)) (fun _ _ _ _ _ => pts_one (pt_val (pe_callB (call_isX : CallR _ _ (rIsX K)) (by rfl) T.isi (by decide +kernel) (pa_cons (pe_ix (ix_list : IxR _ (rIxL K)) (pv 0) (pv 2) (fun _ _ => rfl)) (pa_cons (pe_glob (v := .ref (He.ga K "InvalidNet")) (by rfl) (G 15 "InvalidNet" rfl) rfl) pa_nil))))) (fun _ _ _ _ _ => pv 2)) pa_nil)))))
      (pss_cons (ps_set (i := 1) scLow.nd rfl (Or.inl rfl) (pe_op op_cat (pv 1) (pe_lst (pa_cons (pe_lc (own := [("k", 2)]) (g := gName 2) rfl scLow.nd (pi_range1 (by rfl) T.range (pa_cons (pe_callB call_len_seq (by rfl) T.len PySem.boot_len (pa_cons (pv 0) pa_nil)) pa_nil)) (blkOk_by (N := ["made", "found", "k"]) (sc := defScope sLow) (by decide +kernel)) (fun _ _ _ _ _ => pg_name (i := 2) scLow.nd rfl (Or.inl rfl)) (fun _ _ _ _ _ => pts_one (pt_val (pe_callB (call_isX : CallR _ _ (rIsX K)) (by rfl) T.isi (by decide +kernel) (pa_cons (pe_ix (ix_list : IxR _ (rIxL K)) (pv 0) (pv 2) (fun _ _ => rfl)) (pa_cons (pe_glob (v := .ref (He.ga K "InvalidNets")) (by rfl) (G 16 "InvalidNets" rfl) rfl) pa_nil))))) (fun _ _ _ _ _ => pv 2)) (pa_cons (pe_lc (own := [("k", 2)]) (g := gName 2) rfl scLow.nd (pi_range1 (by rfl) T.range (pa_cons (pe_callB call_len_seq (by rfl) T.len PySem.boot_len (pa_cons (pv 0) pa_nil)) pa_nil)) (blkOk_by (N := ["made", "found", "k"]) (sc := defScope sLow) (by decide +kernel)) (fun _ _ _ _ _ => pg_name (i := 2) scLow.nd rfl (Or.inl rfl)) (fun _ _ _ _ _ => pts_one (pt_val (pe_callB (call_isX : CallR _ _ (rIsX K)) (by rfl) T.isi (by decide +kernel) (pa_cons (pe_ix (ix_list : IxR _ (rIxL K)) (pv 0) (pv 2) (fun _ _ => rfl)) (pa_cons (pe_glob (v := .ref (He.ga K "InvalidNumber")) (by rfl) (G 17 "InvalidNumber" rfl) rfl) pa_nil))))) (fun _ _ _ _ _ => pv 2)) pa_nil)))))
      (pss_cons (ps_set (i := 1) scLow.nd rfl (Or.inl rfl) (pe_op op_cat (pv 1) (pe_lst (pa_cons (pe_lc (own := [("k", 2)]) (g := gName 2) rfl scLow.nd (pi_range1 (by rfl) T.range (pa_cons (pe_callB call_len_seq (by rfl) T.len PySem.boot_len (pa_cons (pv 0) pa_nil)) pa_nil)) (blkOk_by (N := ["made", "found", "k"]) (sc := defScope sLow) (by decide +kernel)) (fun _ _ _ _ _ => pg_name (i := 2) scLow.nd rfl (Or.inl rfl)) (fun _ _ _ _ _ => pts_one (pt_val (pe_callB (call_isX : CallR _ _ (rIsX K)) (by rfl) T.isi (by decide +kernel) (pa_cons (pe_ix (ix_list : IxR _ (rIxL K)) (pv 0) (pv 2) (fun _ _ => rfl)) (pa_cons (pe_glob (v := .ref (He.ga K "InvalidOrder")) (by rfl) (G 18 "InvalidOrder" rfl) rfl) pa_nil))))) (fun _ _ _ _ _ => pv 2)) (pa_cons (pe_lc (own := [("k", 2)]) (g := gName 2) rfl scLow.nd (pi_range1 (by rfl) T.range (pa_cons (pe_callB call_len_seq (by rfl) T.len PySem.boot_len (pa_cons (pv 0) pa_nil)) pa_nil)) (blkOk_by (N := ["made", "found", "k"]) (sc := defScope sLow) (by decide +kernel)) (fun _ _ _ _ _ => pg_name (i := 2) scLow.nd rfl (Or.inl rfl)) (fun _ _ _ _ _ => pts_one (pt_val (pe_callB (call_isX : CallR _ _ (rIsX K)) (by rfl) T.isi (by decide +kernel) (pa_cons (pe_ix (ix_list : IxR _ (rIxL K)) (pv 0) (pv 2) (fun _ _ => rfl)) (pa_cons (pe_glob (v := .ref (He.ga K "InvalidOutcome")) (by rfl) (G 19 "InvalidOutcome" rfl) rfl) pa_nil))))) (fun _ _ _ _ _ => pv 2)) pa_nil)))))
      (pss_cons (ps_set (i := 1) scLow.nd rfl (Or.inl rfl) (pe_op op_cat (pv 1) (pe_lst (pa_cons (pe_lc (own := [("k", 2)]) (g := gName 2) rfl scLow.nd (pi_range1 (by rfl) T.range (pa_cons (pe_callB call_len_seq (by rfl) T.len PySem.boot_len (pa_cons (pv 0) pa_nil)) pa_nil)) (blkOk_by (N := ["made", "found", "k"]) (sc := defScope sLow) (by decide +kernel)) (fun _ _ _ _ _ => pg_name (i := 2) scLow.nd rfl (Or.inl rfl)) (fun _ _ _ _ _ => pts_one (pt_val (pe_callB (call_isX : CallR _ _ (rIsX K)) (by rfl) T.isi (by decide +kernel) (pa_cons (pe_ix (ix_list : IxR _ (rIxL K)) (pv 0) (pv 2) (fun _ _ => rfl)) (pa_cons (pe_glob (v := .ref (He.ga K "InvalidOutcomes")) (by rfl) (G 20 "InvalidOutcomes" rfl) rfl) pa_nil))))) (fun _ _ _ _ _ => pv 2)) (pa_cons (pe_lc (own := [("k", 2)]) (g := gName 2) rfl scLow.nd (pi_range1 (by rfl) T.range (pa_cons (pe_callB call_len_seq (by rfl) T.len PySem.boot_len (pa_cons (pv 0) pa_nil)) pa_nil)) (blkOk_by (N := ["made", "found", "k"]) (sc := defScope sLow) (by decide +kernel)) (fun _ _ _ _ _ => pg_name (i := 2) scLow.nd rfl (Or.inl rfl)) (fun _ _ _ _ _ => pts_one (pt_val (pe_callB (call_isX : CallR _ _ (rIsX K)) (by rfl) T.isi (by decide +kernel) (pa_cons (pe_ix (ix_list : IxR _ (rIxL K)) (pv 0) (pv 2) (fun _ _ => rfl)) (pa_cons (pe_glob (v := .ref (He.ga K "InvalidPairs")) (by rfl) (G 21 "InvalidPairs" rfl) rfl) pa_nil))))) (fun _ _ _ _ _ => pv 2)) pa_nil)))))
      (pss_cons (ps_set (i := 1) scLow.nd rfl (Or.inl rfl) (pe_op op_cat (pv 1) (pe_lst (pa_cons (pe_lc (own := [("k", 2)]) (g := gName 2) rfl scLow.nd (pi_range1 (by rfl) T.range (pa_cons (pe_callB call_len_seq (by rfl) T.len PySem.boot_len (pa_cons (pv 0) pa_nil)) pa_nil)) (blkOk_by (N := ["made", "found", "k"]) (sc := defScope sLow) (by decide +kernel)) (fun _ _ _ _ _ => pg_name (i := 2) scLow.nd rfl (Or.inl rfl)) (fun _ _ _ _ _ => pts_one (pt_val (pe_callB (call_isX : CallR _ _ (rIsX K)) (by rfl) T.isi (by decide +kernel) (pa_cons (pe_ix (ix_list : IxR _ (rIxL K)) (pv 0) (pv 2) (fun _ _ => rfl)) (pa_cons (pe_glob (v := .ref (He.ga K "InvalidParent")) (by rfl) (G 22 "InvalidParent" rfl) rfl) pa_nil))))) (fun _ _ _ _ _ => pv 2)) (pa_cons (pe_lc (own := [("k", 2)]) (g := gName 2) rfl scLow.nd (pi_range1 (by rfl) T.range (pa_cons (pe_callB call_len_seq (by rfl) T.len PySem.boot_len (pa_cons (pv 0) pa_nil)) pa_nil)) (blkOk_by (N := ["made", "found", "k"]) (sc := defScope sLow) (by decide +kernel)) (fun _ _ _ _ _ => pg_name (i := 2) scLow.nd rfl (Or.inl rfl)) (fun _ _ _ _ _ => pts_one (pt_val (pe_callB (call_isX : CallR _ _ (rIsX K)) (by rfl) T.isi (by decide +kernel) (pa_cons (pe_ix (ix_list : IxR _ (rIxL K)) (pv 0) (pv 2) (fun _ _ => rfl)) (pa_cons (pe_glob (v := .ref (He.ga K "InvalidParents")) (by rfl) (G 23 "InvalidParents" rfl) rfl) pa_nil))))) (fun _ _ _ _ _ => pv 2)) pa_nil)))))
      (pss_cons (ps_set (i := 1) scLow.nd rfl (Or.inl rfl) (pe_op op_cat (pv 1) (pe_lst (pa_cons (pe_lc (own := [("k", 2)]) (g := gName 2) rfl scLow.nd (pi_range1 (by rfl) T.range (pa_cons (pe_callB call_len_seq (by rfl) T.len PySem.boot_len (pa_cons (pv 0) pa_nil)) pa_nil)) (blkOk_by (N := ["made", "found", "k"]) (sc := defScope sLow) (by decide +kernel)) (fun _ _ _ _ _ => pg_name (i := 2) scLow.nd rfl (Or.inl rfl)) (fun _ _ _ _ _ => pts_one (pt_val (pe_callB (call_isX : CallR _ _ (rIsX K)) (by rfl) T.isi (by decide +kernel) (pa_cons (pe_ix (ix_list : IxR _ (rIxL K)) (pv 0) (pv 2) (fun _ _ => rfl)) (pa_cons (pe_glob (v := .ref (He.ga K "InvalidPart")) (by rfl) (G 24 "InvalidPart" rfl) rfl) pa_nil))))) (fun _ _ _ _ _ => pv 2)) (pa_cons (pe_lc (own := [("k", 2)]) (g := gName 2) rfl scLow.nd (pi_range1 (by rfl) T.range (pa_cons (pe_callB call_len_seq (by rfl) T.len PySem.boot_len (pa_cons (pv 0) pa_nil)) pa_nil)) (blkOk_by (N := ["made", "found", "k"]) (sc := defScope sLow) (by decide +kernel)) (fun _ _ _ _ _ => pg_name (i := 2) scLow.nd rfl (Or.inl rfl)) (fun _ _ _ _ _ => pts_one (pt_val (pe_callB (call_isX : CallR _ _ (rIsX K)) (by rfl) T.isi (by decide +kernel) (pa_cons (pe_ix (ix_list : IxR _ (rIxL K)) (pv 0) (pv 2) (fun _ _ => rfl)) (pa_cons (pe_glob (v := .ref (He.ga K "InvalidPlace")) (by rfl) (G 25 "InvalidPlace" rfl) rfl) pa_nil))))) (fun _ _ _ _ _ => pv 2)) pa_nil)))))
      (pss_cons (ps_set (i := 1) scLow.nd rfl (Or.inl rfl) (pe_op op_cat (pv 1) (pe_lst (pa_cons (pe_lc (own := [("k", 2)]) (g := gName 2) rfl scLow.nd (pi_range1 (by rfl) T.range (pa_cons (pe_callB call_len_seq (by rfl) T.len PySem.boot_len (pa_cons (pv 0) pa_nil)) pa_nil)) (blkOk_by (N := ["made", "found", "k"]) (sc := defScope sLow) (by decide +kernel)) (fun _ _ _ _ _ => pg_name (i := 2) scLow.nd rfl (Or.inl rfl)) (fun _ _ _ _ _ => pts_one (pt_val (pe_callB (call_isX : CallR _ _ (rIsX K)) (by rfl) T.isi (by decide +kernel) (pa_cons (pe_ix (ix_list : IxR _ (rIxL K)) (pv 0) (pv 2) (fun _ _ => rfl)) (pa_cons (pe_glob (v := .ref (He.ga K "InvalidProducts")) (by rfl) (G 26 "InvalidProducts" rfl) rfl) pa_nil))))) (fun _ _ _ _ _ => pv 2)) (pa_cons (pe_lc (own := [("k", 2)]) (g := gName 2) rfl scLow.nd (pi_range1 (by rfl) T.range (pa_cons (pe_callB call_len_seq (by rfl) T.len PySem.boot_len (pa_cons (pv 0) pa_nil)) pa_nil)) (blkOk_by (N := ["made", "found", "k"]) (sc := defScope sLow) (by decide +kernel)) (fun _ _ _ _ _ => pg_name (i := 2) scLow.nd rfl (Or.inl rfl)) (fun _ _ _ _ _ => pts_one (pt_val (pe_callB (call_isX : CallR _ _ (rIsX K)) (by rfl) T.isi (by decide +kernel) (pa_cons (pe_ix (ix_list : IxR _ (rIxL K)) (pv 0) (pv 2) (fun _ _ => rfl)) (pa_cons (pe_glob (v := .ref (He.ga K "InvalidProfile")) (by rfl) (G 27 "InvalidProfile" rfl) rfl) pa_nil))))) (fun _ _ _ _ _ => pv 2)) pa_nil)))))
      (pss_cons (ps_set (i := 1) scLow.nd rfl (Or.inl rfl) (pe_op op_cat (pv 1) (pe_lst (pa_cons (pe_lc (own := [("k", 2)]) (g := gName 2) rfl scLow.nd (pi_range1 (by rfl) T.range (pa_cons (pe_callB call_len_seq (by rfl) T.len PySem.boot_len (pa_cons (pv 0) pa_nil)) pa_nil)) (blkOk_by (N := ["made", "found", "k"]) (sc := defScope sLow) (by decide +kernel)) (fun _ _ _ _ _ => pg_name (i := 2) scLow.nd rfl (Or.inl rfl)) (fun _ _ _ _ _ => pts_one (pt_val (pe_callB (call_isX : CallR _ _ (rIsX K)) (by rfl) T.isi (by decide +kernel) (pa_cons (pe_ix (ix_list : IxR _ (rIxL K)) (pv 0) (pv 2) (fun _ _ => rfl)) (pa_cons (pe_glob (v := .ref (He.ga K "InvalidRanking")) (by rfl) (G 28 "InvalidRanking" rfl) rfl) pa_nil))))) (fun _ _ _ _ _ => pv 2)) (pa_cons (pe_lc (own := [("k", 2)]) (g := gName 2) rfl scLow.nd (pi_range1 (by rfl) T.range (pa_cons (pe_callB call_len_seq (by rfl) T.len PySem.boot_len (pa_cons (pv 0) pa_nil)) pa_nil)) (blkOk_by (N := ["made", "found", "k"]) (sc := defScope sLow) (by decide +kernel)) (fun _ _ _ _ _ => pg_name (i := 2) scLow.nd rfl (Or.inl rfl)) (fun _ _ _ _ _ => pts_one (pt_val (pe_callB (call_isX : CallR _ _ (rIsX K)) (by rfl) T.isi (by decide +kernel) (pa_cons (pe_ix (ix_list : IxR _ (rIxL K)) (pv 0) (pv 2) (fun _ _ => rfl)) (pa_cons (pe_glob (v := .ref (He.ga K "InvalidReport")) (by rfl) (G 29 "InvalidReport" rfl) rfl) pa_nil))))) (fun _ _ _ _ _ => pv 2)) pa_nil)))))
      (pss_cons (ps_set (i := 1) scLow.nd rfl (Or.inl rfl) (pe_op op_cat (pv 1) (pe_lst (pa_cons (pe_lc (own := [("k", 2)]) (g := gName 2) rfl scLow.nd (pi_range1 (by rfl) T.range (pa_cons (pe_callB call_len_seq (by rfl) T.len PySem.boot_len (pa_cons (pv 0) pa_nil)) pa_nil)) (blkOk_by (N := ["made", "found", "k"]) (sc := defScope sLow) (by decide +kernel)) (fun _ _ _ _ _ => pg_name (i := 2) scLow.nd rfl (Or.inl rfl)) (fun _ _ _ _ _ => pts_one (pt_val (pe_callB (call_isX : CallR _ _ (rIsX K)) (by rfl) T.isi (by decide +kernel) (pa_cons (pe_ix (ix_list : IxR _ (rIxL K)) (pv 0) (pv 2) (fun _ _ => rfl)) (pa_cons (pe_glob (v := .ref (He.ga K "InvalidRing")) (by rfl) (G 30 "InvalidRing" rfl) rfl) pa_nil))))) (fun _ _ _ _ _ => pv 2)) (pa_cons (pe_lc (own := [("k", 2)]) (g := gName 2) rfl scLow.nd (pi_range1 (by rfl) T.range (pa_cons (pe_callB call_len_seq (by rfl) T.len PySem.boot_len (pa_cons (pv 0) pa_nil)) pa_nil)) (blkOk_by (N := ["made", "found", "k"]) (sc := defScope sLow) (by decide +kernel)) (fun _ _ _ _ _ => pg_name (i := 2) scLow.nd rfl (Or.inl rfl)) (fun _ _ _ _ _ => pts_one (pt_val (pe_callB (call_isX : CallR _ _ (rIsX K)) (by rfl) T.isi (by decide +kernel) (pa_cons (pe_ix (ix_list : IxR _ (rIxL K)) (pv 0) (pv 2) (fun _ _ => rfl)) (pa_cons (pe_glob (v := .ref (He.ga K "InvalidRow")) (by rfl) (G 31 "InvalidRow" rfl) rfl) pa_nil))))) (fun _ _ _ _ _ => pv 2)) pa_nil)))))
      (pss_cons (ps_set (i := 1) scLow.nd rfl (Or.inl rfl) (pe_op op_cat (pv 1) (pe_lst (pa_cons (pe_lc (own := [("k", 2)]) (g := gName 2) rfl scLow.nd (pi_range1 (by rfl) T.range (pa_cons (pe_callB call_len_seq (by rfl) T.len PySem.boot_len (pa_cons (pv 0) pa_nil)) pa_nil)) (blkOk_by (N := ["made", "found", "k"]) (sc := defScope sLow) (by decide +kernel)) (fun _ _ _ _ _ => pg_name (i := 2) scLow.nd rfl (Or.inl rfl)) (fun _ _ _ _ _ => pts_one (pt_val (pe_callB (call_isX : CallR _ _ (rIsX K)) (by rfl) T.isi (by decide +kernel) (pa_cons (pe_ix (ix_list : IxR _ (rIxL K)) (pv 0) (pv 2) (fun _ _ => rfl)) (pa_cons (pe_glob (v := .ref (He.ga K "InvalidSketch")) (by rfl) (G 32 "InvalidSketch" rfl) rfl) pa_nil))))) (fun _ _ _ _ _ => pv 2)) (pa_cons (pe_lc (own := [("k", 2)]) (g := gName 2) rfl scLow.nd (pi_range1 (by rfl) T.range (pa_cons (pe_callB call_len_seq (by rfl) T.len PySem.boot_len (pa_cons (pv 0) pa_nil)) pa_nil)) (blkOk_by (N := ["made", "found", "k"]) (sc := defScope sLow) (by decide +kernel)) (fun _ _ _ _ _ => pg_name (i := 2) scLow.nd rfl (Or.inl rfl)) (fun _ _ _ _ _ => pts_one (pt_val (pe_callB (call_isX : CallR _ _ (rIsX K)) (by rfl) T.isi (by decide +kernel) (pa_cons (pe_ix (ix_list : IxR _ (rIxL K)) (pv 0) (pv 2) (fun _ _ => rfl)) (pa_cons (pe_glob (v := .ref (He.ga K "InvalidSpace")) (by rfl) (G 33 "InvalidSpace" rfl) rfl) pa_nil))))) (fun _ _ _ _ _ => pv 2)) pa_nil)))))
      (pss_cons (ps_set (i := 1) scLow.nd rfl (Or.inl rfl) (pe_op op_cat (pv 1) (pe_lst (pa_cons (pe_lc (own := [("k", 2)]) (g := gName 2) rfl scLow.nd (pi_range1 (by rfl) T.range (pa_cons (pe_callB call_len_seq (by rfl) T.len PySem.boot_len (pa_cons (pv 0) pa_nil)) pa_nil)) (blkOk_by (N := ["made", "found", "k"]) (sc := defScope sLow) (by decide +kernel)) (fun _ _ _ _ _ => pg_name (i := 2) scLow.nd rfl (Or.inl rfl)) (fun _ _ _ _ _ => pts_one (pt_val (pe_callB (call_isX : CallR _ _ (rIsX K)) (by rfl) T.isi (by decide +kernel) (pa_cons (pe_ix (ix_list : IxR _ (rIxL K)) (pv 0) (pv 2) (fun _ _ => rfl)) (pa_cons (pe_glob (v := .ref (He.ga K "InvalidStatement")) (by rfl) (G 34 "InvalidStatement" rfl) rfl) pa_nil))))) (fun _ _ _ _ _ => pv 2)) (pa_cons (pe_lc (own := [("k", 2)]) (g := gName 2) rfl scLow.nd (pi_range1 (by rfl) T.range (pa_cons (pe_callB call_len_seq (by rfl) T.len PySem.boot_len (pa_cons (pv 0) pa_nil)) pa_nil)) (blkOk_by (N := ["made", "found", "k"]) (sc := defScope sLow) (by decide +kernel)) (fun _ _ _ _ _ => pg_name (i := 2) scLow.nd rfl (Or.inl rfl)) (fun _ _ _ _ _ => pts_one (pt_val (pe_callB (call_isX : CallR _ _ (rIsX K)) (by rfl) T.isi (by decide +kernel) (pa_cons (pe_ix (ix_list : IxR _ (rIxL K)) (pv 0) (pv 2) (fun _ _ => rfl)) (pa_cons (pe_glob (v := .ref (He.ga K "InvalidStrata")) (by rfl) (G 35 "InvalidStrata" rfl) rfl) pa_nil))))) (fun _ _ _ _ _ => pv 2)) pa_nil)))))
      (pss_cons (ps_set (i := 1) scLow.nd rfl (Or.inl rfl) (pe_op op_cat (pv 1) (pe_lst (pa_cons (pe_lc (own := [("k", 2)]) (g := gName 2) rfl scLow.nd (pi_range1 (by rfl) T.range (pa_cons (pe_callB call_len_seq (by rfl) T.len PySem.boot_len (pa_cons (pv 0) pa_nil)) pa_nil)) (blkOk_by (N := ["made", "found", "k"]) (sc := defScope sLow) (by decide +kernel)) (fun _ _ _ _ _ => pg_name (i := 2) scLow.nd rfl (Or.inl rfl)) (fun _ _ _ _ _ => pts_one (pt_val (pe_callB (call_isX : CallR _ _ (rIsX K)) (by rfl) T.isi (by decide +kernel) (pa_cons (pe_ix (ix_list : IxR _ (rIxL K)) (pv 0) (pv 2) (fun _ _ => rfl)) (pa_cons (pe_glob (v := .ref (He.ga K "InvalidSwaps")) (by rfl) (G 36 "InvalidSwaps" rfl) rfl) pa_nil))))) (fun _ _ _ _ _ => pv 2)) (pa_cons (pe_lc (own := [("k", 2)]) (g := gName 2) rfl scLow.nd (pi_range1 (by rfl) T.range (pa_cons (pe_callB call_len_seq (by rfl) T.len PySem.boot_len (pa_cons (pv 0) pa_nil)) pa_nil)) (blkOk_by (N := ["made", "found", "k"]) (sc := defScope sLow) (by decide +kernel)) (fun _ _ _ _ _ => pg_name (i := 2) scLow.nd rfl (Or.inl rfl)) (fun _ _ _ _ _ => pts_one (pt_val (pe_callB (call_isX : CallR _ _ (rIsX K)) (by rfl) T.isi (by decide +kernel) (pa_cons (pe_ix (ix_list : IxR _ (rIxL K)) (pv 0) (pv 2) (fun _ _ => rfl)) (pa_cons (pe_glob (v := .ref (He.ga K "InvalidText")) (by rfl) (G 37 "InvalidText" rfl) rfl) pa_nil))))) (fun _ _ _ _ _ => pv 2)) pa_nil)))))
      (pss_one (ps_ret (pv 1)))))))))))))))))))))), ?_⟩
    refine set_r (R := RPl) rpl_grows er_nil (by decide) fun l0 us0 H0 n0 s0 h0 m0 => ?_
    refine add_rt (fun q => [some (.ref l), some (.ref q), none]) (H0 := H0) rpl_grows (Same.refl H0) h0 m0 (er_cons rpl_grows (pl_one (H := H0) (Cs := csAll K) (j := 0) (s0 _ _ hl) (Paired.mono (fun _ _ h => h.mono s0) hs) X1 (Nat.le_of_ble_eq_true rfl) (Nat.le_of_ble_eq_true rfl) (PF 0 _ rfl)) (er_cons rpl_grows (pl_one (H := H0) (Cs := csAll K) (j := 1) (s0 _ _ hl) (Paired.mono (fun _ _ h => h.mono s0) hs) X1 (Nat.le_of_ble_eq_true rfl) (Nat.le_of_ble_eq_true rfl) (PF 1 _ rfl)) er_nil)) (by decide) fun l1 us1 H1 n1 z1 h1 m1 => ?_
    have s1 := Same.trans s0 z1
    have m1 : Paired (RPl H1) (List.range' 0 2) us1 := m1
    refine add_rt (fun q => [some (.ref l), some (.ref q), none]) (H0 := H1) rpl_grows (Same.refl H1) h1 m1 (er_cons rpl_grows (pl_one (H := H1) (Cs := csAll K) (j := 2) (s1 _ _ hl) (Paired.mono (fun _ _ h => h.mono s1) hs) X1 (Nat.le_of_ble_eq_true rfl) (Nat.le_of_ble_eq_true rfl) (PF 2 _ rfl)) (er_cons rpl_grows (pl_one (H := H1) (Cs := csAll K) (j := 3) (s1 _ _ hl) (Paired.mono (fun _ _ h => h.mono s1) hs) X1 (Nat.le_of_ble_eq_true rfl) (Nat.le_of_ble_eq_true rfl) (PF 3 _ rfl)) er_nil)) (by decide) fun l2 us2 H2 n2 z2 h2 m2 => ?_
    have s2 := Same.trans s1 z2
    have m2 : Paired (RPl H2) (List.range' 0 4) us2 := m2
    refine add_rt (fun q => [some (.ref l), some (.ref q), none]) (H0 := H2) rpl_grows (Same.refl H2) h2 m2 (er_cons rpl_grows (pl_one (H := H2) (Cs := csAll K) (j := 4) (s2 _ _ hl) (Paired.mono (fun _ _ h => h.mono s2) hs) X1 (Nat.le_of_ble_eq_true rfl) (Nat.le_of_ble_eq_true rfl) (PF 4 _ rfl)) (er_cons rpl_grows (pl_one (H := H2) (Cs := csAll K) (j := 5) (s2 _ _ hl) (Paired.mono (fun _ _ h => h.mono s2) hs) X1 (Nat.le_of_ble_eq_true rfl) (Nat.le_of_ble_eq_true rfl) (PF 5 _ rfl)) er_nil)) (by decide) fun l3 us3 H3 n3 z3 h3 m3 => ?_
    have s3 := Same.trans s2 z3
    have m3 : Paired (RPl H3) (List.range' 0 6) us3 := m3
    refine add_rt (fun q => [some (.ref l), some (.ref q), none]) (H0 := H3) rpl_grows (Same.refl H3) h3 m3 (er_cons rpl_grows (pl_one (H := H3) (Cs := csAll K) (j := 6) (s3 _ _ hl) (Paired.mono (fun _ _ h => h.mono s3) hs) X1 (Nat.le_of_ble_eq_true rfl) (Nat.le_of_ble_eq_true rfl) (PF 6 _ rfl)) (er_cons rpl_grows (pl_one (H := H3) (Cs := csAll K) (j := 7) (s3 _ _ hl) (Paired.mono (fun _ _ h => h.mono s3) hs) X1 (Nat.le_of_ble_eq_true rfl) (Nat.le_of_ble_eq_true rfl) (PF 7 _ rfl)) er_nil)) (by decide) fun l4 us4 H4 n4 z4 h4 m4 => ?_
    have s4 := Same.trans s3 z4
    have m4 : Paired (RPl H4) (List.range' 0 8) us4 := m4
    refine add_rt (fun q => [some (.ref l), some (.ref q), none]) (H0 := H4) rpl_grows (Same.refl H4) h4 m4 (er_cons rpl_grows (pl_one (H := H4) (Cs := csAll K) (j := 8) (s4 _ _ hl) (Paired.mono (fun _ _ h => h.mono s4) hs) X1 (Nat.le_of_ble_eq_true rfl) (Nat.le_of_ble_eq_true rfl) (PF 8 _ rfl)) (er_cons rpl_grows (pl_one (H := H4) (Cs := csAll K) (j := 9) (s4 _ _ hl) (Paired.mono (fun _ _ h => h.mono s4) hs) X1 (Nat.le_of_ble_eq_true rfl) (Nat.le_of_ble_eq_true rfl) (PF 9 _ rfl)) er_nil)) (by decide) fun l5 us5 H5 n5 z5 h5 m5 => ?_
    have s5 := Same.trans s4 z5
    have m5 : Paired (RPl H5) (List.range' 0 10) us5 := m5
    refine add_rt (fun q => [some (.ref l), some (.ref q), none]) (H0 := H5) rpl_grows (Same.refl H5) h5 m5 (er_cons rpl_grows (pl_one (H := H5) (Cs := csAll K) (j := 10) (s5 _ _ hl) (Paired.mono (fun _ _ h => h.mono s5) hs) X1 (Nat.le_of_ble_eq_true rfl) (Nat.le_of_ble_eq_true rfl) (PF 10 _ rfl)) (er_cons rpl_grows (pl_one (H := H5) (Cs := csAll K) (j := 11) (s5 _ _ hl) (Paired.mono (fun _ _ h => h.mono s5) hs) X1 (Nat.le_of_ble_eq_true rfl) (Nat.le_of_ble_eq_true rfl) (PF 11 _ rfl)) er_nil)) (by decide) fun l6 us6 H6 n6 z6 h6 m6 => ?_
    have s6 := Same.trans s5 z6
    have m6 : Paired (RPl H6) (List.range' 0 12) us6 := m6
    refine add_rt (fun q => [some (.ref l), some (.ref q), none]) (H0 := H6) rpl_grows (Same.refl H6) h6 m6 (er_cons rpl_grows (pl_one (H := H6) (Cs := csAll K) (j := 12) (s6 _ _ hl) (Paired.mono (fun _ _ h => h.mono s6) hs) X1 (Nat.le_of_ble_eq_true rfl) (Nat.le_of_ble_eq_true rfl) (PF 12 _ rfl)) (er_cons rpl_grows (pl_one (H := H6) (Cs := csAll K) (j := 13) (s6 _ _ hl) (Paired.mono (fun _ _ h => h.mono s6) hs) X1 (Nat.le_of_ble_eq_true rfl) (Nat.le_of_ble_eq_true rfl) (PF 13 _ rfl)) er_nil)) (by decide) fun l7 us7 H7 n7 z7 h7 m7 => ?_
    have s7 := Same.trans s6 z7
    have m7 : Paired (RPl H7) (List.range' 0 14) us7 := m7
    refine add_rt (fun q => [some (.ref l), some (.ref q), none]) (H0 := H7) rpl_grows (Same.refl H7) h7 m7 (er_cons rpl_grows (pl_one (H := H7) (Cs := csAll K) (j := 14) (s7 _ _ hl) (Paired.mono (fun _ _ h => h.mono s7) hs) X1 (Nat.le_of_ble_eq_true rfl) (Nat.le_of_ble_eq_true rfl) (PF 14 _ rfl)) (er_cons rpl_grows (pl_one (H := H7) (Cs := csAll K) (j := 15) (s7 _ _ hl) (Paired.mono (fun _ _ h => h.mono s7) hs) X1 (Nat.le_of_ble_eq_true rfl) (Nat.le_of_ble_eq_true rfl) (PF 15 _ rfl)) er_nil)) (by decide) fun l8 us8 H8 n8 z8 h8 m8 => ?_
    have s8 := Same.trans s7 z8
    have m8 : Paired (RPl H8) (List.range' 0 16) us8 := m8
    refine add_rt (fun q => [some (.ref l), some (.ref q), none]) (H0 := H8) rpl_grows (Same.refl H8) h8 m8 (er_cons rpl_grows (pl_one (H := H8) (Cs := csAll K) (j := 16) (s8 _ _ hl) (Paired.mono (fun _ _ h => h.mono s8) hs) X1 (Nat.le_of_ble_eq_true rfl) (Nat.le_of_ble_eq_true rfl) (PF 16 _ rfl)) (er_cons rpl_grows (pl_one (H := H8) (Cs := csAll K) (j := 17) (s8 _ _ hl) (Paired.mono (fun _ _ h => h.mono s8) hs) X1 (Nat.le_of_ble_eq_true rfl) (Nat.le_of_ble_eq_true rfl) (PF 17 _ rfl)) er_nil)) (by decide) fun l9 us9 H9 n9 z9 h9 m9 => ?_
    have s9 := Same.trans s8 z9
    have m9 : Paired (RPl H9) (List.range' 0 18) us9 := m9
    refine add_rt (fun q => [some (.ref l), some (.ref q), none]) (H0 := H9) rpl_grows (Same.refl H9) h9 m9 (er_cons rpl_grows (pl_one (H := H9) (Cs := csAll K) (j := 18) (s9 _ _ hl) (Paired.mono (fun _ _ h => h.mono s9) hs) X1 (Nat.le_of_ble_eq_true rfl) (Nat.le_of_ble_eq_true rfl) (PF 18 _ rfl)) (er_cons rpl_grows (pl_one (H := H9) (Cs := csAll K) (j := 19) (s9 _ _ hl) (Paired.mono (fun _ _ h => h.mono s9) hs) X1 (Nat.le_of_ble_eq_true rfl) (Nat.le_of_ble_eq_true rfl) (PF 19 _ rfl)) er_nil)) (by decide) fun l10 us10 H10 n10 z10 h10 m10 => ?_
    have s10 := Same.trans s9 z10
    have m10 : Paired (RPl H10) (List.range' 0 20) us10 := m10
    refine add_rt (fun q => [some (.ref l), some (.ref q), none]) (H0 := H10) rpl_grows (Same.refl H10) h10 m10 (er_cons rpl_grows (pl_one (H := H10) (Cs := csAll K) (j := 20) (s10 _ _ hl) (Paired.mono (fun _ _ h => h.mono s10) hs) X1 (Nat.le_of_ble_eq_true rfl) (Nat.le_of_ble_eq_true rfl) (PF 20 _ rfl)) (er_cons rpl_grows (pl_one (H := H10) (Cs := csAll K) (j := 21) (s10 _ _ hl) (Paired.mono (fun _ _ h => h.mono s10) hs) X1 (Nat.le_of_ble_eq_true rfl) (Nat.le_of_ble_eq_true rfl) (PF 21 _ rfl)) er_nil)) (by decide) fun l11 us11 H11 n11 z11 h11 m11 => ?_
    have s11 := Same.trans s10 z11
    have m11 : Paired (RPl H11) (List.range' 0 22) us11 := m11
    refine add_rt (fun q => [some (.ref l), some (.ref q), none]) (H0 := H11) rpl_grows (Same.refl H11) h11 m11 (er_cons rpl_grows (pl_one (H := H11) (Cs := csAll K) (j := 22) (s11 _ _ hl) (Paired.mono (fun _ _ h => h.mono s11) hs) X1 (Nat.le_of_ble_eq_true rfl) (Nat.le_of_ble_eq_true rfl) (PF 22 _ rfl)) (er_cons rpl_grows (pl_one (H := H11) (Cs := csAll K) (j := 23) (s11 _ _ hl) (Paired.mono (fun _ _ h => h.mono s11) hs) X1 (Nat.le_of_ble_eq_true rfl) (Nat.le_of_ble_eq_true rfl) (PF 23 _ rfl)) er_nil)) (by decide) fun l12 us12 H12 n12 z12 h12 m12 => ?_
    have s12 := Same.trans s11 z12
    have m12 : Paired (RPl H12) (List.range' 0 24) us12 := m12
    refine add_rt (fun q => [some (.ref l), some (.ref q), none]) (H0 := H12) rpl_grows (Same.refl H12) h12 m12 (er_cons rpl_grows (pl_one (H := H12) (Cs := csAll K) (j := 24) (s12 _ _ hl) (Paired.mono (fun _ _ h => h.mono s12) hs) X1 (Nat.le_of_ble_eq_true rfl) (Nat.le_of_ble_eq_true rfl) (PF 24 _ rfl)) (er_cons rpl_grows (pl_one (H := H12) (Cs := csAll K) (j := 25) (s12 _ _ hl) (Paired.mono (fun _ _ h => h.mono s12) hs) X1 (Nat.le_of_ble_eq_true rfl) (Nat.le_of_ble_eq_true rfl) (PF 25 _ rfl)) er_nil)) (by decide) fun l13 us13 H13 n13 z13 h13 m13 => ?_
    have s13 := Same.trans s12 z13
    have m13 : Paired (RPl H13) (List.range' 0 26) us13 := m13
    refine add_rt (fun q => [some (.ref l), some (.ref q), none]) (H0 := H13) rpl_grows (Same.refl H13) h13 m13 (er_cons rpl_grows (pl_one (H := H13) (Cs := csAll K) (j := 26) (s13 _ _ hl) (Paired.mono (fun _ _ h => h.mono s13) hs) X1 (Nat.le_of_ble_eq_true rfl) (Nat.le_of_ble_eq_true rfl) (PF 26 _ rfl)) (er_cons rpl_grows (pl_one (H := H13) (Cs := csAll K) (j := 27) (s13 _ _ hl) (Paired.mono (fun _ _ h => h.mono s13) hs) X1 (Nat.le_of_ble_eq_true rfl) (Nat.le_of_ble_eq_true rfl) (PF 27 _ rfl)) er_nil)) (by decide) fun l14 us14 H14 n14 z14 h14 m14 => ?_
    have s14 := Same.trans s13 z14
    have m14 : Paired (RPl H14) (List.range' 0 28) us14 := m14
    refine add_rt (fun q => [some (.ref l), some (.ref q), none]) (H0 := H14) rpl_grows (Same.refl H14) h14 m14 (er_cons rpl_grows (pl_one (H := H14) (Cs := csAll K) (j := 28) (s14 _ _ hl) (Paired.mono (fun _ _ h => h.mono s14) hs) X1 (Nat.le_of_ble_eq_true rfl) (Nat.le_of_ble_eq_true rfl) (PF 28 _ rfl)) (er_cons rpl_grows (pl_one (H := H14) (Cs := csAll K) (j := 29) (s14 _ _ hl) (Paired.mono (fun _ _ h => h.mono s14) hs) X1 (Nat.le_of_ble_eq_true rfl) (Nat.le_of_ble_eq_true rfl) (PF 29 _ rfl)) er_nil)) (by decide) fun l15 us15 H15 n15 z15 h15 m15 => ?_
    have s15 := Same.trans s14 z15
    have m15 : Paired (RPl H15) (List.range' 0 30) us15 := m15
    refine add_rt (fun q => [some (.ref l), some (.ref q), none]) (H0 := H15) rpl_grows (Same.refl H15) h15 m15 (er_cons rpl_grows (pl_one (H := H15) (Cs := csAll K) (j := 30) (s15 _ _ hl) (Paired.mono (fun _ _ h => h.mono s15) hs) X1 (Nat.le_of_ble_eq_true rfl) (Nat.le_of_ble_eq_true rfl) (PF 30 _ rfl)) (er_cons rpl_grows (pl_one (H := H15) (Cs := csAll K) (j := 31) (s15 _ _ hl) (Paired.mono (fun _ _ h => h.mono s15) hs) X1 (Nat.le_of_ble_eq_true rfl) (Nat.le_of_ble_eq_true rfl) (PF 31 _ rfl)) er_nil)) (by decide) fun l16 us16 H16 n16 z16 h16 m16 => ?_
    have s16 := Same.trans s15 z16
    have m16 : Paired (RPl H16) (List.range' 0 32) us16 := m16
    refine add_rt (fun q => [some (.ref l), some (.ref q), none]) (H0 := H16) rpl_grows (Same.refl H16) h16 m16 (er_cons rpl_grows (pl_one (H := H16) (Cs := csAll K) (j := 32) (s16 _ _ hl) (Paired.mono (fun _ _ h => h.mono s16) hs) X1 (Nat.le_of_ble_eq_true rfl) (Nat.le_of_ble_eq_true rfl) (PF 32 _ rfl)) (er_cons rpl_grows (pl_one (H := H16) (Cs := csAll K) (j := 33) (s16 _ _ hl) (Paired.mono (fun _ _ h => h.mono s16) hs) X1 (Nat.le_of_ble_eq_true rfl) (Nat.le_of_ble_eq_true rfl) (PF 33 _ rfl)) er_nil)) (by decide) fun l17 us17 H17 n17 z17 h17 m17 => ?_
    have s17 := Same.trans s16 z17
    have m17 : Paired (RPl H17) (List.range' 0 34) us17 := m17
    refine add_rt (fun q => [some (.ref l), some (.ref q), none]) (H0 := H17) rpl_grows (Same.refl H17) h17 m17 (er_cons rpl_grows (pl_one (H := H17) (Cs := csAll K) (j := 34) (s17 _ _ hl) (Paired.mono (fun _ _ h => h.mono s17) hs) X1 (Nat.le_of_ble_eq_true rfl) (Nat.le_of_ble_eq_true rfl) (PF 34 _ rfl)) (er_cons rpl_grows (pl_one (H := H17) (Cs := csAll K) (j := 35) (s17 _ _ hl) (Paired.mono (fun _ _ h => h.mono s17) hs) X1 (Nat.le_of_ble_eq_true rfl) (Nat.le_of_ble_eq_true rfl) (PF 35 _ rfl)) er_nil)) (by decide) fun l18 us18 H18 n18 z18 h18 m18 => ?_
    have s18 := Same.trans s17 z18
    have m18 : Paired (RPl H18) (List.range' 0 36) us18 := m18
    refine add_rt (fun q => [some (.ref l), some (.ref q), none]) (H0 := H18) rpl_grows (Same.refl H18) h18 m18 (er_cons rpl_grows (pl_one (H := H18) (Cs := csAll K) (j := 36) (s18 _ _ hl) (Paired.mono (fun _ _ h => h.mono s18) hs) X1 (Nat.le_of_ble_eq_true rfl) (Nat.le_of_ble_eq_true rfl) (PF 36 _ rfl)) (er_cons rpl_grows (pl_one (H := H18) (Cs := csAll K) (j := 37) (s18 _ _ hl) (Paired.mono (fun _ _ h => h.mono s18) hs) X1 (Nat.le_of_ble_eq_true rfl) (Nat.le_of_ble_eq_true rfl) (PF 37 _ rfl)) er_nil)) (by decide) fun l19 us19 H19 n19 z19 h19 m19 => ?_
    have s19 := Same.trans s18 z19
    have m19 : Paired (RPl H19) (List.range' 0 38) us19 := m19
    exact ⟨_, rfl, q l19 us19 H19 (Evl.fresh_back s18 n19) s19 h19 m19⟩
end
end Ka

set_option Elab.async false
set_option linter.all false
set_option maxRecDepth 100000
set_option maxHeartbeats 4000000
namespace Ka
open PySem PySem.Spec PyProof.Rows L2 Xc
section
variable {P : Program} {w : World} {K : PySem.W.Frag} {mg : Str → Option Value} {base : Heap}
/-! ### _law_places_high -/
abbrev sHigh : Stmt := tp 87
theorem scHigh : FnScope ["made", "found", "k"] ["made"] (defScope sHigh) := ⟨rfl, rfl, rfl, by decide +kernel, rfl, by decide +kernel, by decide +kernel⟩
def spPHigh (K : PySem.W.Frag) : Sp := fun vs H Q _ => ∃ l us, vs = [.ref l] ∧ H l = some (.lst us) ∧ Paired (IsAt H) (csAll K) us ∧ ∀ l' us' H', H l' = none → Same H H' → H' l' = some (.lst us') → Paired (RPl H') (List.range' 38 34) us' → Q (.ref l') H'
theorem ok_High {f : Addr} {fd : FuncData} (F : FnP K "_law_places_high" sHigh f fd) (T : Free mg) (G : GlF K mg) (X1 : ∀ D ∈ csAll K, ExcC K D) (PF : PlF K) : FnOk P w K mg base CX0 1 f fd ["made"] (spPHigh K) := by
  refine F.ok scHigh (fun vs H Q E h => ?_) (fun cdv A outer s H vs Q E' hr h => ?_)
  · obtain ⟨l, us, rfl, _⟩ := h
    rfl
  · obtain ⟨l, us, rfl, hl, hs, q⟩ := h
    refine ⟨_, pss_cons (ps_set (i := 1) scHigh.nd rfl (Or.inl rfl) (pe_lst pa_nil))
      (pss_cons (ps_set (i := 1) scHigh.nd rfl (Or.inl rfl) (pe_op op_cat (pv 1) (pe_lst (pa_cons (pe_lc (own := [("k", 2)]) (g := gName 2) rfl scHigh.nd (pi_range1 (by rfl) T.range (pa_cons (pe_callB call_len_seq (by rfl) T.len PySem.boot_len (pa_cons (pv 0) pa_nil)) pa_nil)) (blkOk_by (N := ["made", "found", "k"]) (sc := defScope sHigh) (by decide +kernel)) (fun _ _ _ _ _ => pg_name (i := 2) scHigh.nd rfl (Or.inl rfl)) (fun _ _ _ _ _ => pts_one (pt_val (pe_callB (call_isX : CallR _ _ (rIsX K)) (by rfl) T.isi (by decide +kernel) (pa_cons (pe_ix (ix_list : IxR _ (rIxL K)) (pv 0) (pv 2) (fun _ _ => rfl)) (pa_cons (pe_glob (v := .ref (He.ga K "InvalidTheory")) (by rfl) (G 38 "InvalidTheory" rfl) rfl) pa_nil))))) (fun _ _ _ _ _ => pv 2)) (pa_cons (pe_lc (own := [("k", 2)]) (g := gName 2) rfl scHigh.nd (pi_range1 (by rfl) T.range (pa_cons (pe_callB call_len_seq (by rfl) T.len PySem.boot_len (pa_cons (pv 0) pa_nil)) pa_nil)) (blkOk_by (N := ["made", "found", "k"]) (sc := defScope sHigh) (by decide +kernel)) (fun _ _ _ _ _ => pg_name (i := 2) scHigh.nd rfl (Or.inl rfl)) (fun _ _ _ _ _ => pts_one (pt_val (pe_callB (call_isX : CallR _ _ (rIsX K)) (by rfl) T.isi (by decide +kernel) (pa_cons (pe_ix (ix_list : IxR _ (rIxL K)) (pv 0) (pv 2) (fun _ _ => rfl)) (pa_cons (pe_glob (v := .ref (He.ga K "InvalidTree")) (by rfl) (G 39 "InvalidTree" rfl) rfl) pa_nil))))) (fun _ _ _ _ _ => pv 2)) pa_nil)))))
      (pss_cons (ps_set (i := 1) scHigh.nd rfl (Or.inl rfl) (pe_op op_cat (pv 1) (pe_lst (pa_cons (pe_lc (own := [("k", 2)]) (g := gName 2) rfl scHigh.nd (pi_range1 (by rfl) T.range (pa_cons (pe_callB call_len_seq (by rfl) T.len PySem.boot_len (pa_cons (pv 0) pa_nil)) pa_nil)) (blkOk_by (N := ["made", "found", "k"]) (sc := defScope sHigh) (by decide +kernel)) (fun _ _ _ _ _ => pg_name (i := 2) scHigh.nd rfl (Or.inl rfl)) (fun _ _ _ _ _ => pts_one (pt_val (pe_callB (call_isX : CallR _ _ (rIsX K)) (by rfl) T.isi (by decide +kernel) (pa_cons (pe_ix (ix_list : IxR _ (rIxL K)) (pv 0) (pv 2) (fun _ _ => rfl)) (pa_cons (pe_glob (v := .ref (He.ga K "InvalidValue")) (by rfl) (G 40 "InvalidValue" rfl) rfl) pa_nil))))) (fun _ _ _ _ _ => pv 2)) (pa_cons (pe_lc (own := [("k", 2)]) (g := gName 2) rfl scHigh.nd (pi_range1 (by rfl) T.range (pa_cons (pe_callB call_len_seq (by rfl) T.len PySem.boot_len (pa_cons (pv 0) pa_nil)) pa_nil)) (blkOk_by (N := ["made", "found", "k"]) (sc := defScope sHigh) (by decide +kernel)) (fun _ _ _ _ _ => pg_name (i := 2) scHigh.nd rfl (Or.inl rfl)) (fun _ _ _ _ _ => pts_one (pt_val (pe_callB (call_isX : CallR _ _ (rIsX K)) (by rfl) T.isi (by decide +kernel) (pa_cons (pe_ix (ix_list : IxR _ (rIxL K)) (pv 0) (pv 2) (fun _ _ => rfl)) (pa_cons (pe_glob (v := .ref (He.ga K "InvalidValues")) (by rfl) (G 41 "InvalidValues" rfl) rfl) pa_nil))))) (fun _ _ _ _ _ => pv 2)) pa_nil)))))
      (pss_cons (ps_set (i := 1) scHigh.nd rfl (Or.inl rfl) (pe_op op_cat (pv 1) (pe_lst (pa_cons (pe_lc (own := [("k", 2)]) (g := gName 2) rfl scHigh.nd (pi_range1 (by rfl) T.range (pa_cons (pe_callB call_len_seq (by rfl) T.len PySem.boot_len (pa_cons (pv 0) pa_nil)) pa_nil)) (blkOk_by (N := ["made", "found", "k"]) (sc := defScope sHigh) (by decide +kernel)) (fun _ _ _ _ _ => pg_name (i := 2) scHigh.nd rfl (Or.inl rfl)) (fun _ _ _ _ _ => pts_one (pt_val (pe_callB (call_isX : CallR _ _ (rIsX K)) (by rfl) T.isi (by decide +kernel) (pa_cons (pe_ix (ix_list : IxR _ (rIxL K)) (pv 0) (pv 2) (fun _ _ => rfl)) (pa_cons (pe_glob (v := .ref (He.ga K "InvalidVariable")) (by rfl) (G 42 "InvalidVariable" rfl) rfl) pa_nil))))) (fun _ _ _ _ _ => pv 2)) (pa_cons (pe_lc (own := [("k", 2)]) (g := gName 2) rfl scHigh.nd (pi_range1 (by rfl) T.range (pa_cons (pe_callB call_len_seq (by rfl) T.len PySem.boot_len (pa_cons (pv 0) pa_nil)) pa_nil)) (blkOk_by (N := ["made", "found", "k"]) (sc := defScope sHigh) (by decide +kernel)) (fun _ _ _ _ _ => pg_name (i := 2) scHigh.nd rfl (Or.inl rfl)) (fun _ _ _ _ _ => pts_one (pt_val (pe_callB (call_isX : CallR _ _ (rIsX K)) (by rfl) T.isi (by decide +kernel) (pa_cons (pe_ix (ix_list : IxR _ (rIxL K)) (pv 0) (pv 2) (fun _ _ => rfl)) (pa_cons (pe_glob (v := .ref (He.ga K "InvalidVariables")) (by rfl) (G 43 "InvalidVariables" rfl) rfl) pa_nil))))) (fun _ _ _ _ _ => pv 2)) pa_nil)))))
      (pss_cons (ps_set (i := 1) scHigh.nd rfl (Or.inl rfl) (pe_op op_cat (pv 1) (pe_lst (pa_cons (pe_lc (own := [("k", 2)]) (g := gName 2) rfl scHigh.nd (pi_range1 (by rfl) T.range (pa_cons (pe_callB call_len_seq (by rfl) T.len PySem.boot_len (pa_cons (pv 0) pa_nil)) pa_nil)) (blkOk_by (N := ["made", "found", "k"]) (sc := defScope sHigh) (by decide +kernel)) (fun _ _ _ _ _ => pg_name (i := 2) scHigh.nd rfl (Or.inl rfl)) (fun _ _ _ _ _ => pts_one (pt_val (pe_callB (call_isX : CallR _ _ (rIsX K)) (by rfl) T.isi (by decide +kernel) (pa_cons (pe_ix (ix_list : IxR _ (rIxL K)) (pv 0) (pv 2) (fun _ _ => rfl)) (pa_cons (pe_glob (v := .ref (He.ga K "InvalidVoter")) (by rfl) (G 44 "InvalidVoter" rfl) rfl) pa_nil))))) (fun _ _ _ _ _ => pv 2)) (pa_cons (pe_lc (own := [("k", 2)]) (g := gName 2) rfl scHigh.nd (pi_range1 (by rfl) T.range (pa_cons (pe_callB call_len_seq (by rfl) T.len PySem.boot_len (pa_cons (pv 0) pa_nil)) pa_nil)) (blkOk_by (N := ["made", "found", "k"]) (sc := defScope sHigh) (by decide +kernel)) (fun _ _ _ _ _ => pg_name (i := 2) scHigh.nd rfl (Or.inl rfl)) (fun _ _ _ _ _ => pts_one (pt_val (pe_callB (call_isX : CallR _ _ (rIsX K)) (by rfl) T.isi (by decide +kernel) (pa_cons (pe_ix (ix_list : IxR _ (rIxL K)) (pv 0) (pv 2) (fun _ _ => rfl)) (pa_cons (pe_glob (v := .ref (He.ga K "InvalidWay")) (by rfl) (G 45 "InvalidWay" rfl) rfl) pa_nil))))) (fun _ _ _ _ _ => pv 2)) pa_nil)))))
      (pss_cons (ps_set (i := 1) scHigh.nd rfl (Or.inl rfl) (pe_op op_cat (pv 1) (pe_lst (pa_cons (pe_lc (own := [("k", 2)]) (g := gName 2) rfl scHigh.nd (pi_range1 (by rfl) T.range (pa_cons (pe_callB call_len_seq (by rfl) T.len PySem.boot_len (pa_cons (pv 0) pa_nil)) pa_nil)) (blkOk_by (N := ["made", "found", "k"]) (sc := defScope sHigh) (by decide +kernel)) (fun _ _ _ _ _ => pg_name (i := 2) scHigh.nd rfl (Or.inl rfl)) (fun _ _ _ _ _ => pts_one (pt_val (pe_callB (call_isX : CallR _ _ (rIsX K)) (by rfl) T.isi (by decide +kernel) (pa_cons (pe_ix (ix_list : IxR _ (rIxL K)) (pv 0) (pv 2) (fun _ _ => rfl)) (pa_cons (pe_glob (v := .ref (He.ga K "InvalidWorths")) (by rfl) (G 46 "InvalidWorths" rfl) rfl) pa_nil))))) (fun _ _ _ _ _ => pv 2)) (pa_cons (pe_lc (own := [("k", 2)]) (g := gName 2) rfl scHigh.nd (pi_range1 (by rfl) T.range (pa_cons (pe_callB call_len_seq (by rfl) T.len PySem.boot_len (pa_cons (pv 0) pa_nil)) pa_nil)) (blkOk_by (N := ["made", "found", "k"]) (sc := defScope sHigh) (by decide +kernel)) (fun _ _ _ _ _ => pg_name (i := 2) scHigh.nd rfl (Or.inl rfl)) (fun _ _ _ _ _ => pts_one (pt_val (pe_callB (call_isX : CallR _ _ (rIsX K)) (by rfl) T.isi (by decide +kernel) (pa_cons (pe_ix (ix_list : IxR _ (rIxL K)) (pv 0) (pv 2) (fun _ _ => rfl)) (pa_cons (pe_glob (v := .ref (He.ga K "All")) (by rfl) (G 47 "All" rfl) rfl) pa_nil))))) (fun _ _ _ _ _ => pv 2)) pa_nil)))))
      (pss_cons (ps_set (i := 1) scHigh.nd rfl (Or.inl rfl) (pe_op op_cat (pv 1) (pe_lst (pa_cons (pe_lc (own := [("k", 2)]) (g := gName 2) rfl scHigh.nd (pi_range1 (by rfl) T.range (pa_cons (pe_callB call_len_seq (by rfl) T.len PySem.boot_len (pa_cons (pv 0) pa_nil)) pa_nil)) (blkOk_by (N := ["made", "found", "k"]) (sc := defScope sHigh) (by decide +kernel)) (fun _ _ _ _ _ => pg_name (i := 2) scHigh.nd rfl (Or.inl rfl)) (fun _ _ _ _ _ => pts_one (pt_val (pe_callB (call_isX : CallR _ _ (rIsX K)) (by rfl) T.isi (by decide +kernel) (pa_cons (pe_ix (ix_list : IxR _ (rIxL K)) (pv 0) (pv 2) (fun _ _ => rfl)) (pa_cons (pe_glob (v := .ref (He.ga K "Cyclic")) (by rfl) (G 48 "Cyclic" rfl) rfl) pa_nil))))) (fun _ _ _ _ _ => pv 2)) (pa_cons (pe_lc (own := [("k", 2)]) (g := gName 2) rfl scHigh.nd (pi_range1 (by rfl) T.range (pa_cons (pe_callB call_len_seq (by rfl) T.len PySem.boot_len (pa_cons (pv 0) pa_nil)) pa_nil)) (blkOk_by (N := ["made", "found", "k"]) (sc := defScope sHigh) (by decide +kernel)) (fun _ _ _ _ _ => pg_name (i := 2) scHigh.nd rfl (Or.inl rfl)) (fun _ _ _ _ _ => pts_one (pt_val (pe_callB (call_isX : CallR _ _ (rIsX K)) (by rfl) T.isi (by decide +kernel) (pa_cons (pe_ix (ix_list : IxR _ (rIxL K)) (pv 0) (pv 2) (fun _ _ => rfl)) (pa_cons (pe_glob (v := .ref (He.ga K "Even")) (by rfl) (G 49 "Even" rfl) rfl) pa_nil))))) (fun _ _ _ _ _ => pv 2)) pa_nil)))))
      (pss_cons (ps_set (i := 1) scHigh.nd rfl (Or.inl rfl) (pe_op op_cat (pv 1) (pe_lst (pa_cons (pe_lc (own := [("k", 2)]) (g := gName 2) rfl scHigh.nd (pi_range1 (by rfl) T.range (pa_cons (pe_callB call_len_seq (by rfl) T.len PySem.boot_len (pa_cons (pv 0) pa_nil)) pa_nil)) (blkOk_by (N := ["made", "found", "k"]) (sc := defScope sHigh) (by decide +kernel)) (fun _ _ _ _ _ => pg_name (i := 2) scHigh.nd rfl (Or.inl rfl)) (fun _ _ _ _ _ => pts_one (pt_val (pe_callB (call_isX : CallR _ _ (rIsX K)) (by rfl) T.isi (by decide +kernel) (pa_cons (pe_ix (ix_list : IxR _ (rIxL K)) (pv 0) (pv 2) (fun _ _ => rfl)) (pa_cons (pe_glob (v := .ref (He.ga K "Full")) (by rfl) (G 50 "Full" rfl) rfl) pa_nil))))) (fun _ _ _ _ _ => pv 2)) (pa_cons (pe_lc (own := [("k", 2)]) (g := gName 2) rfl scHigh.nd (pi_range1 (by rfl) T.range (pa_cons (pe_callB call_len_seq (by rfl) T.len PySem.boot_len (pa_cons (pv 0) pa_nil)) pa_nil)) (blkOk_by (N := ["made", "found", "k"]) (sc := defScope sHigh) (by decide +kernel)) (fun _ _ _ _ _ => pg_name (i := 2) scHigh.nd rfl (Or.inl rfl)) (fun _ _ _ _ _ => pts_one (pt_val (pe_callB (call_isX : CallR _ _ (rIsX K)) (by rfl) T.isi (by decide +kernel) (pa_cons (pe_ix (ix_list : IxR _ (rIxL K)) (pv 0) (pv 2) (fun _ _ => rfl)) (pa_cons (pe_glob (v := .ref (He.ga K "NoName")) (by rfl) (G 51 "NoName" rfl) rfl) pa_nil))))) (fun _ _ _ _ _ => pv 2)) pa_nil)))))
      (pss_cons (ps_set (i := 1) scHigh.nd rfl (Or.inl rfl) (pe_op op_cat (pv 1) (pe_lst (pa_cons (pe_lc (own := [("k", 2)]) (g := gName 2) rfl scHigh.nd (pi_range1 (by rfl) T.range (pa_cons (pe_callB call_len_seq (by rfl) T.len PySem.boot_len (pa_cons (pv 0) pa_nil)) pa_nil)) (blkOk_by (N := ["made", "found", "k"]) (sc := defScope sHigh) (by decide +kernel)) (fun _ _ _ _ _ => pg_name (i := 2) scHigh.nd rfl (Or.inl rfl)) (fun _ _ _ _ _ => pts_one (pt_val (pe_callB (call_isX : CallR _ _ (rIsX K)) (by rfl) T.isi (by decide +kernel) (pa_cons (pe_ix (ix_list : IxR _ (rIxL K)) (pv 0) (pv 2) (fun _ _ => rfl)) (pa_cons (pe_glob (v := .ref (He.ga K "NoNet")) (by rfl) (G 52 "NoNet" rfl) rfl) pa_nil))))) (fun _ _ _ _ _ => pv 2)) (pa_cons (pe_lc (own := [("k", 2)]) (g := gName 2) rfl scHigh.nd (pi_range1 (by rfl) T.range (pa_cons (pe_callB call_len_seq (by rfl) T.len PySem.boot_len (pa_cons (pv 0) pa_nil)) pa_nil)) (blkOk_by (N := ["made", "found", "k"]) (sc := defScope sHigh) (by decide +kernel)) (fun _ _ _ _ _ => pg_name (i := 2) scHigh.nd rfl (Or.inl rfl)) (fun _ _ _ _ _ => pts_one (pt_val (pe_callB (call_isX : CallR _ _ (rIsX K)) (by rfl) T.isi (by decide +kernel) (pa_cons (pe_ix (ix_list : IxR _ (rIxL K)) (pv 0) (pv 2) (fun _ _ => rfl)) (pa_cons (pe_glob (v := .ref (He.ga K "NoTheory")) (by rfl) (G 53 "NoTheory" rfl) rfl) pa_nil))))) (fun _ _ _ _ _ => pv 2)) pa_nil)))))
      (pss_cons (ps_set (i := 1) scHigh.nd rfl (Or.inl rfl) (pe_op op_cat (pv 1) (pe_lst (pa_cons (pe_lc (own := [("k", 2)]) (g := gName 2) rfl scHigh.nd (pi_range1 (by rfl) T.range (pa_cons (pe_callB call_len_seq (by rfl) T.len PySem.boot_len (pa_cons (pv 0) pa_nil)) pa_nil)) (blkOk_by (N := ["made", "found", "k"]) (sc := defScope sHigh) (by decide +kernel)) (fun _ _ _ _ _ => pg_name (i := 2) scHigh.nd rfl (Or.inl rfl)) (fun _ _ _ _ _ => pts_one (pt_val (pe_callB (call_isX : CallR _ _ (rIsX K)) (by rfl) T.isi (by decide +kernel) (pa_cons (pe_ix (ix_list : IxR _ (rIxL K)) (pv 0) (pv 2) (fun _ _ => rfl)) (pa_cons (pe_glob (v := .ref (He.ga K "NotFirst")) (by rfl) (G 54 "NotFirst" rfl) rfl) pa_nil))))) (fun _ _ _ _ _ => pv 2)) (pa_cons (pe_lc (own := [("k", 2)]) (g := gName 2) rfl scHigh.nd (pi_range1 (by rfl) T.range (pa_cons (pe_callB call_len_seq (by rfl) T.len PySem.boot_len (pa_cons (pv 0) pa_nil)) pa_nil)) (blkOk_by (N := ["made", "found", "k"]) (sc := defScope sHigh) (by decide +kernel)) (fun _ _ _ _ _ => pg_name (i := 2) scHigh.nd rfl (Or.inl rfl)) (fun _ _ _ _ _ => pts_one (pt_val (pe_callB (call_isX : CallR _ _ (rIsX K)) (by rfl) T.isi (by decide +kernel) (pa_cons (pe_ix (ix_list : IxR _ (rIxL K)) (pv 0) (pv 2) (fun _ _ => rfl)) (pa_cons (pe_glob (v := .ref (He.ga K "NotNet")) (by rfl) (G 55 "NotNet" rfl) rfl) pa_nil))))) (fun _ _ _ _ _ => pv 2)) pa_nil)))))
      (pss_cons (ps_set (i := 1) scHigh.nd rfl (Or.inl rfl) (pe_op op_cat (pv 1) (pe_lst (pa_cons (pe_lc (own := [("k", 2)]) (g := gName 2) rfl scHigh.nd (pi_range1 (by rfl) T.range (pa_cons (pe_callB call_len_seq (by rfl) T.len PySem.boot_len (pa_cons (pv 0) pa_nil)) pa_nil)) (blkOk_by (N := ["made", "found", "k"]) (sc := defScope sHigh) (by decide +kernel)) (fun _ _ _ _ _ => pg_name (i := 2) scHigh.nd rfl (Or.inl rfl)) (fun _ _ _ _ _ => pts_one (pt_val (pe_callB (call_isX : CallR _ _ (rIsX K)) (by rfl) T.isi (by decide +kernel) (pa_cons (pe_ix (ix_list : IxR _ (rIxL K)) (pv 0) (pv 2) (fun _ _ => rfl)) (pa_cons (pe_glob (v := .ref (He.ga K "NotReduced")) (by rfl) (G 56 "NotReduced" rfl) rfl) pa_nil))))) (fun _ _ _ _ _ => pv 2)) (pa_cons (pe_lc (own := [("k", 2)]) (g := gName 2) rfl scHigh.nd (pi_range1 (by rfl) T.range (pa_cons (pe_callB call_len_seq (by rfl) T.len PySem.boot_len (pa_cons (pv 0) pa_nil)) pa_nil)) (blkOk_by (N := ["made", "found", "k"]) (sc := defScope sHigh) (by decide +kernel)) (fun _ _ _ _ _ => pg_name (i := 2) scHigh.nd rfl (Or.inl rfl)) (fun _ _ _ _ _ => pts_one (pt_val (pe_callB (call_isX : CallR _ _ (rIsX K)) (by rfl) T.isi (by decide +kernel) (pa_cons (pe_ix (ix_list : IxR _ (rIxL K)) (pv 0) (pv 2) (fun _ _ => rfl)) (pa_cons (pe_glob (v := .ref (He.ga K "NotSeparable")) (by rfl) (G 57 "NotSeparable" rfl) rfl) pa_nil))))) (fun _ _ _ _ _ => pv 2)) pa_nil)))))
      (pss_cons (ps_set (i := 1) scHigh.nd rfl (Or.inl rfl) (pe_op op_cat (pv 1) (pe_lst (pa_cons (pe_lc (own := [("k", 2)]) (g := gName 2) rfl scHigh.nd (pi_range1 (by rfl) T.range (pa_cons (pe_callB call_len_seq (by rfl) T.len PySem.boot_len (pa_cons (pv 0) pa_nil)) pa_nil)) (blkOk_by (N := ["made", "found", "k"]) (sc := defScope sHigh) (by decide +kernel)) (fun _ _ _ _ _ => pg_name (i := 2) scHigh.nd rfl (Or.inl rfl)) (fun _ _ _ _ _ => pts_one (pt_val (pe_callB (call_isX : CallR _ _ (rIsX K)) (by rfl) T.isi (by decide +kernel) (pa_cons (pe_ix (ix_list : IxR _ (rIxL K)) (pv 0) (pv 2) (fun _ _ => rfl)) (pa_cons (pe_glob (v := .ref (He.ga K "NotTwo")) (by rfl) (G 58 "NotTwo" rfl) rfl) pa_nil))))) (fun _ _ _ _ _ => pv 2)) (pa_cons (pe_lc (own := [("k", 2)]) (g := gName 2) rfl scHigh.nd (pi_range1 (by rfl) T.range (pa_cons (pe_callB call_len_seq (by rfl) T.len PySem.boot_len (pa_cons (pv 0) pa_nil)) pa_nil)) (blkOk_by (N := ["made", "found", "k"]) (sc := defScope sHigh) (by decide +kernel)) (fun _ _ _ _ _ => pg_name (i := 2) scHigh.nd rfl (Or.inl rfl)) (fun _ _ _ _ _ => pts_one (pt_val (pe_callB (call_isX : CallR _ _ (rIsX K)) (by rfl) T.isi (by decide +kernel) (pa_cons (pe_ix (ix_list : IxR _ (rIxL K)) (pv 0) (pv 2) (fun _ _ => rfl)) (pa_cons (pe_glob (v := .ref (He.ga K "Ringed")) (by rfl) (G 59 "Ringed" rfl) rfl) pa_nil))))) (fun _ _ _ _ _ => pv 2)) pa_nil)))))
      (pss_cons (ps_set (i := 1) scHigh.nd rfl (Or.inl rfl) (pe_op op_cat (pv 1) (pe_lst (pa_cons (pe_lc (own := [("k", 2)]) (g := gName 2) rfl scHigh.nd (pi_range1 (by rfl) T.range (pa_cons (pe_callB call_len_seq (by rfl) T.len PySem.boot_len (pa_cons (pv 0) pa_nil)) pa_nil)) (blkOk_by (N := ["made", "found", "k"]) (sc := defScope sHigh) (by decide +kernel)) (fun _ _ _ _ _ => pg_name (i := 2) scHigh.nd rfl (Or.inl rfl)) (fun _ _ _ _ _ => pts_one (pt_val (pe_callB (call_isX : CallR _ _ (rIsX K)) (by rfl) T.isi (by decide +kernel) (pa_cons (pe_ix (ix_list : IxR _ (rIxL K)) (pv 0) (pv 2) (fun _ _ => rfl)) (pa_cons (pe_glob (v := .ref (He.ga K "Same")) (by rfl) (G 60 "Same" rfl) rfl) pa_nil))))) (fun _ _ _ _ _ => pv 2)) (pa_cons (pe_lc (own := [("k", 2)]) (g := gName 2) rfl scHigh.nd (pi_range1 (by rfl) T.range (pa_cons (pe_callB call_len_seq (by rfl) T.len PySem.boot_len (pa_cons (pv 0) pa_nil)) pa_nil)) (blkOk_by (N := ["made", "found", "k"]) (sc := defScope sHigh) (by decide +kernel)) (fun _ _ _ _ _ => pg_name (i := 2) scHigh.nd rfl (Or.inl rfl)) (fun _ _ _ _ _ => pts_one (pt_val (pe_callB (call_isX : CallR _ _ (rIsX K)) (by rfl) T.isi (by decide +kernel) (pa_cons (pe_ix (ix_list : IxR _ (rIxL K)) (pv 0) (pv 2) (fun _ _ => rfl)) (pa_cons (pe_glob (v := .ref (He.ga K "Taken")) (by rfl) (G 61 "Taken" rfl) rfl) pa_nil))))) (fun _ _ _ _ _ => pv 2)) pa_nil)))))
      (pss_cons (ps_set (i := 1) scHigh.nd rfl (Or.inl rfl) (pe_op op_cat (pv 1) (pe_lst (pa_cons (pe_lc (own := [("k", 2)]) (g := gName 2) rfl scHigh.nd (pi_range1 (by rfl) T.range (pa_cons (pe_callB call_len_seq (by rfl) T.len PySem.boot_len (pa_cons (pv 0) pa_nil)) pa_nil)) (blkOk_by (N := ["made", "found", "k"]) (sc := defScope sHigh) (by decide +kernel)) (fun _ _ _ _ _ => pg_name (i := 2) scHigh.nd rfl (Or.inl rfl)) (fun _ _ _ _ _ => pts_one (pt_val (pe_callB (call_isX : CallR _ _ (rIsX K)) (by rfl) T.isi (by decide +kernel) (pa_cons (pe_ix (ix_list : IxR _ (rIxL K)) (pv 0) (pv 2) (fun _ _ => rfl)) (pa_cons (pe_glob (v := .ref (He.ga K "TooLarge")) (by rfl) (G 62 "TooLarge" rfl) rfl) pa_nil))))) (fun _ _ _ _ _ => pv 2)) (pa_cons (pe_lc (own := [("k", 2)]) (g := gName 2) rfl scHigh.nd (pi_range1 (by rfl) T.range (pa_cons (pe_callB call_len_seq (by rfl) T.len PySem.boot_len (pa_cons (pv 0) pa_nil)) pa_nil)) (blkOk_by (N := ["made", "found", "k"]) (sc := defScope sHigh) (by decide +kernel)) (fun _ _ _ _ _ => pg_name (i := 2) scHigh.nd rfl (Or.inl rfl)) (fun _ _ _ _ _ => pts_one (pt_val (pe_callB (call_isX : CallR _ _ (rIsX K)) (by rfl) T.isi (by decide +kernel) (pa_cons (pe_ix (ix_list : IxR _ (rIxL K)) (pv 0) (pv 2) (fun _ _ => rfl)) (pa_cons (pe_glob (v := .ref (He.ga K "TooMany")) (by rfl) (G 63 "TooMany" rfl) rfl) pa_nil))))) (fun _ _ _ _ _ => pv 2)) pa_nil)))))
      (pss_cons (ps_set (i := 1) scHigh.nd rfl (Or.inl rfl) (pe_op op_cat (pv 1) (pe_lst (pa_cons (pe_lc (own := [("k", 2)]) (g := gName 2) rfl scHigh.nd (pi_range1 (by rfl) T.range (pa_cons (pe_callB call_len_seq (by rfl) T.len PySem.boot_len (pa_cons (pv 0) pa_nil)) pa_nil)) (blkOk_by (N := ["made", "found", "k"]) (sc := defScope sHigh) (by decide +kernel)) (fun _ _ _ _ _ => pg_name (i := 2) scHigh.nd rfl (Or.inl rfl)) (fun _ _ _ _ _ => pts_one (pt_val (pe_callB (call_isX : CallR _ _ (rIsX K)) (by rfl) T.isi (by decide +kernel) (pa_cons (pe_ix (ix_list : IxR _ (rIxL K)) (pv 0) (pv 2) (fun _ _ => rfl)) (pa_cons (pe_glob (v := .ref (He.ga K "Unapart")) (by rfl) (G 64 "Unapart" rfl) rfl) pa_nil))))) (fun _ _ _ _ _ => pv 2)) (pa_cons (pe_lc (own := [("k", 2)]) (g := gName 2) rfl scHigh.nd (pi_range1 (by rfl) T.range (pa_cons (pe_callB call_len_seq (by rfl) T.len PySem.boot_len (pa_cons (pv 0) pa_nil)) pa_nil)) (blkOk_by (N := ["made", "found", "k"]) (sc := defScope sHigh) (by decide +kernel)) (fun _ _ _ _ _ => pg_name (i := 2) scHigh.nd rfl (Or.inl rfl)) (fun _ _ _ _ _ => pts_one (pt_val (pe_callB (call_isX : CallR _ _ (rIsX K)) (by rfl) T.isi (by decide +kernel) (pa_cons (pe_ix (ix_list : IxR _ (rIxL K)) (pv 0) (pv 2) (fun _ _ => rfl)) (pa_cons (pe_glob (v := .ref (He.ga K "ArrowRing")) (by rfl) (G 65 "ArrowRing" rfl) rfl) pa_nil))))) (fun _ _ _ _ _ => pv 2)) pa_nil)))))
      (pss_cons (ps_set (i := 1) scHigh.nd rfl (Or.inl rfl) (pe_op op_cat (pv 1) (pe_lst (pa_cons (pe_lc (own := [("k", 2)]) (g := gName 2) rfl scHigh.nd (pi_range1 (by rfl) T.range (pa_cons (pe_callB call_len_seq (by rfl) T.len PySem.boot_len (pa_cons (pv 0) pa_nil)) pa_nil)) (blkOk_by (N := ["made", "found", "k"]) (sc := defScope sHigh) (by decide +kernel)) (fun _ _ _ _ _ => pg_name (i := 2) scHigh.nd rfl (Or.inl rfl)) (fun _ _ _ _ _ => pts_one (pt_val (pe_callB (call_isX : CallR _ _ (rIsX K)) (by rfl) T.isi (by decide +kernel) (pa_cons (pe_ix (ix_list : IxR _ (rIxL K)) (pv 0) (pv 2) (fun _ _ => rfl)) (pa_cons (pe_glob (v := .ref (He.ga K "NotSwap")) (by rfl) (G 66 "NotSwap" rfl) rfl) pa_nil))))) (fun _ _ _ _ _ => pv 2)) (pa_cons (pe_lc (own := [("k", 2)]) (g := gName 2) rfl scHigh.nd (pi_range1 (by rfl) T.range (pa_cons (pe_callB call_len_seq (by rfl) T.len PySem.boot_len (pa_cons (pv 0) pa_nil)) pa_nil)) (blkOk_by (N := ["made", "found", "k"]) (sc := defScope sHigh) (by decide +kernel)) (fun _ _ _ _ _ => pg_name (i := 2) scHigh.nd rfl (Or.inl rfl)) (fun _ _ _ _ _ => pts_one (pt_val (pe_callB (call_isX : CallR _ _ (rIsX K)) (by rfl) T.isi (by decide +kernel) (pa_cons (pe_ix (ix_list : IxR _ (rIxL K)) (pv 0) (pv 2) (fun _ _ => rfl)) (pa_cons (pe_glob (v := .ref (He.ga K "Tied")) (by rfl) (G 67 "Tied" rfl) rfl) pa_nil))))) (fun _ _ _ _ _ => pv 2)) pa_nil)))))
      (pss_cons (ps_set (i := 1) scHigh.nd rfl (Or.inl rfl) (pe_op op_cat (pv 1) (pe_lst (pa_cons (pe_lc (own := [("k", 2)]) (g := gName 2) rfl scHigh.nd (pi_range1 (by rfl) T.range (pa_cons (pe_callB call_len_seq (by rfl) T.len PySem.boot_len (pa_cons (pv 0) pa_nil)) pa_nil)) (blkOk_by (N := ["made", "found", "k"]) (sc := defScope sHigh) (by decide +kernel)) (fun _ _ _ _ _ => pg_name (i := 2) scHigh.nd rfl (Or.inl rfl)) (fun _ _ _ _ _ => pts_one (pt_val (pe_callB (call_isX : CallR _ _ (rIsX K)) (by rfl) T.isi (by decide +kernel) (pa_cons (pe_ix (ix_list : IxR _ (rIxL K)) (pv 0) (pv 2) (fun _ _ => rfl)) (pa_cons (pe_glob (v := .ref (He.ga K "Told")) (by rfl) (G 68 "Told" rfl) rfl) pa_nil))))) (fun _ _ _ _ _ => pv 2)) (pa_cons (pe_lc (own := [("k", 2)]) (g := gName 2) rfl scHigh.nd (pi_range1 (by rfl) T.range (pa_cons (pe_callB call_len_seq (by rfl) T.len PySem.boot_len (pa_cons (pv 0) pa_nil)) pa_nil)) (blkOk_by (N := ["made", "found", "k"]) (sc := defScope sHigh) (by decide +kernel)) (fun _ _ _ _ _ => pg_name (i := 2) scHigh.nd rfl (Or.inl rfl)) (fun _ _ _ _ _ => pts_one (pt_val (pe_callB (call_isX : CallR _ _ (rIsX K)) (by rfl) T.isi (by decide +kernel) (pa_cons (pe_ix (ix_list : IxR _ (rIxL K)) (pv 0) (pv 2) (fun _ _ => rfl)) (pa_cons (pe_glob (v := .ref (He.ga K "NotLocal")) (by rfl) (G 69 "NotLocal" rfl) rfl) pa_nil))))) (fun _ _ _ _ _ => pv 2)) pa_nil)))))
      (pss_cons (ps_set (i := 1) scHigh.nd rfl (Or.inl rfl) (pe_op op_cat (pv 1) (pe_lst (pa_cons (pe_lc (own := [("k", 2)]) (g := gName 2) rfl scHigh.nd (pi_range1 (by rfl) T.range (pa_cons (pe_callB call_len_seq (by rfl) T.len PySem.boot_len (pa_cons (pv 0) pa_nil)) pa_nil)) (blkOk_by (N := ["made", "found", "k"]) (sc := defScope sHigh) (by decide +kernel)) (fun _ _ _ _ _ => pg_name (i := 2) scHigh.nd rfl (Or.inl rfl)) (fun _ _ _ _ _ => pts_one (pt_val (pe_callB (call_isX : CallR _ _ (rIsX K)) (by rfl) T.isi (by decide +kernel) (pa_cons (pe_ix (ix_list : IxR _ (rIxL K)) (pv 0) (pv 2) (fun _ _ => rfl)) (pa_cons (pe_glob (v := .ref (He.ga K "NothingToRedo")) (by rfl) (G 70 "NothingToRedo" rfl) rfl) pa_nil))))) (fun _ _ _ _ _ => pv 2)) (pa_cons (pe_lc (own := [("k", 2)]) (g := gName 2) rfl scHigh.nd (pi_range1 (by rfl) T.range (pa_cons (pe_callB call_len_seq (by rfl) T.len PySem.boot_len (pa_cons (pv 0) pa_nil)) pa_nil)) (blkOk_by (N := ["made", "found", "k"]) (sc := defScope sHigh) (by decide +kernel)) (fun _ _ _ _ _ => pg_name (i := 2) scHigh.nd rfl (Or.inl rfl)) (fun _ _ _ _ _ => pts_one (pt_val (pe_callB (call_isX : CallR _ _ (rIsX K)) (by rfl) T.isi (by decide +kernel) (pa_cons (pe_ix (ix_list : IxR _ (rIxL K)) (pv 0) (pv 2) (fun _ _ => rfl)) (pa_cons (pe_glob (v := .ref (He.ga K "NothingToUndo")) (by rfl) (G 71 "NothingToUndo" rfl) rfl) pa_nil))))) (fun _ _ _ _ _ => pv 2)) pa_nil)))))
      (pss_one (ps_ret (pv 1)))))))))))))))))))), ?_⟩
    refine set_r (R := RPl) rpl_grows er_nil (by decide) fun l0 us0 H0 n0 s0 h0 m0 => ?_
    refine add_rt (fun q => [some (.ref l), some (.ref q), none]) (H0 := H0) rpl_grows (Same.refl H0) h0 m0 (er_cons rpl_grows (pl_one (H := H0) (Cs := csAll K) (j := 38) (s0 _ _ hl) (Paired.mono (fun _ _ h => h.mono s0) hs) X1 (Nat.le_of_ble_eq_true rfl) (Nat.le_of_ble_eq_true rfl) (PF 38 _ rfl)) (er_cons rpl_grows (pl_one (H := H0) (Cs := csAll K) (j := 39) (s0 _ _ hl) (Paired.mono (fun _ _ h => h.mono s0) hs) X1 (Nat.le_of_ble_eq_true rfl) (Nat.le_of_ble_eq_true rfl) (PF 39 _ rfl)) er_nil)) (by decide) fun l1 us1 H1 n1 z1 h1 m1 => ?_
    have s1 := Same.trans s0 z1
    have m1 : Paired (RPl H1) (List.range' 38 2) us1 := m1
    refine add_rt (fun q => [some (.ref l), some (.ref q), none]) (H0 := H1) rpl_grows (Same.refl H1) h1 m1 (er_cons rpl_grows (pl_one (H := H1) (Cs := csAll K) (j := 40) (s1 _ _ hl) (Paired.mono (fun _ _ h => h.mono s1) hs) X1 (Nat.le_of_ble_eq_true rfl) (Nat.le_of_ble_eq_true rfl) (PF 40 _ rfl)) (er_cons rpl_grows (pl_one (H := H1) (Cs := csAll K) (j := 41) (s1 _ _ hl) (Paired.mono (fun _ _ h => h.mono s1) hs) X1 (Nat.le_of_ble_eq_true rfl) (Nat.le_of_ble_eq_true rfl) (PF 41 _ rfl)) er_nil)) (by decide) fun l2 us2 H2 n2 z2 h2 m2 => ?_
    have s2 := Same.trans s1 z2
    have m2 : Paired (RPl H2) (List.range' 38 4) us2 := m2
    refine add_rt (fun q => [some (.ref l), some (.ref q), none]) (H0 := H2) rpl_grows (Same.refl H2) h2 m2 (er_cons rpl_grows (pl_one (H := H2) (Cs := csAll K) (j := 42) (s2 _ _ hl) (Paired.mono (fun _ _ h => h.mono s2) hs) X1 (Nat.le_of_ble_eq_true rfl) (Nat.le_of_ble_eq_true rfl) (PF 42 _ rfl)) (er_cons rpl_grows (pl_one (H := H2) (Cs := csAll K) (j := 43) (s2 _ _ hl) (Paired.mono (fun _ _ h => h.mono s2) hs) X1 (Nat.le_of_ble_eq_true rfl) (Nat.le_of_ble_eq_true rfl) (PF 43 _ rfl)) er_nil)) (by decide) fun l3 us3 H3 n3 z3 h3 m3 => ?_
    have s3 := Same.trans s2 z3
    have m3 : Paired (RPl H3) (List.range' 38 6) us3 := m3
    refine add_rt (fun q => [some (.ref l), some (.ref q), none]) (H0 := H3) rpl_grows (Same.refl H3) h3 m3 (er_cons rpl_grows (pl_one (H := H3) (Cs := csAll K) (j := 44) (s3 _ _ hl) (Paired.mono (fun _ _ h => h.mono s3) hs) X1 (Nat.le_of_ble_eq_true rfl) (Nat.le_of_ble_eq_true rfl) (PF 44 _ rfl)) (er_cons rpl_grows (pl_one (H := H3) (Cs := csAll K) (j := 45) (s3 _ _ hl) (Paired.mono (fun _ _ h => h.mono s3) hs) X1 (Nat.le_of_ble_eq_true rfl) (Nat.le_of_ble_eq_true rfl) (PF 45 _ rfl)) er_nil)) (by decide) fun l4 us4 H4 n4 z4 h4 m4 => ?_
    have s4 := Same.trans s3 z4
    have m4 : Paired (RPl H4) (List.range' 38 8) us4 := m4
    refine add_rt (fun q => [some (.ref l), some (.ref q), none]) (H0 := H4) rpl_grows (Same.refl H4) h4 m4 (er_cons rpl_grows (pl_one (H := H4) (Cs := csAll K) (j := 46) (s4 _ _ hl) (Paired.mono (fun _ _ h => h.mono s4) hs) X1 (Nat.le_of_ble_eq_true rfl) (Nat.le_of_ble_eq_true rfl) (PF 46 _ rfl)) (er_cons rpl_grows (pl_one (H := H4) (Cs := csAll K) (j := 47) (s4 _ _ hl) (Paired.mono (fun _ _ h => h.mono s4) hs) X1 (Nat.le_of_ble_eq_true rfl) (Nat.le_of_ble_eq_true rfl) (PF 47 _ rfl)) er_nil)) (by decide) fun l5 us5 H5 n5 z5 h5 m5 => ?_
    have s5 := Same.trans s4 z5
    have m5 : Paired (RPl H5) (List.range' 38 10) us5 := m5
    refine add_rt (fun q => [some (.ref l), some (.ref q), none]) (H0 := H5) rpl_grows (Same.refl H5) h5 m5 (er_cons rpl_grows (pl_one (H := H5) (Cs := csAll K) (j := 48) (s5 _ _ hl) (Paired.mono (fun _ _ h => h.mono s5) hs) X1 (Nat.le_of_ble_eq_true rfl) (Nat.le_of_ble_eq_true rfl) (PF 48 _ rfl)) (er_cons rpl_grows (pl_one (H := H5) (Cs := csAll K) (j := 49) (s5 _ _ hl) (Paired.mono (fun _ _ h => h.mono s5) hs) X1 (Nat.le_of_ble_eq_true rfl) (Nat.le_of_ble_eq_true rfl) (PF 49 _ rfl)) er_nil)) (by decide) fun l6 us6 H6 n6 z6 h6 m6 => ?_
    have s6 := Same.trans s5 z6
    have m6 : Paired (RPl H6) (List.range' 38 12) us6 := m6
    refine add_rt (fun q => [some (.ref l), some (.ref q), none]) (H0 := H6) rpl_grows (Same.refl H6) h6 m6 (er_cons rpl_grows (pl_one (H := H6) (Cs := csAll K) (j := 50) (s6 _ _ hl) (Paired.mono (fun _ _ h => h.mono s6) hs) X1 (Nat.le_of_ble_eq_true rfl) (Nat.le_of_ble_eq_true rfl) (PF 50 _ rfl)) (er_cons rpl_grows (pl_one (H := H6) (Cs := csAll K) (j := 51) (s6 _ _ hl) (Paired.mono (fun _ _ h => h.mono s6) hs) X1 (Nat.le_of_ble_eq_true rfl) (Nat.le_of_ble_eq_true rfl) (PF 51 _ rfl)) er_nil)) (by decide) fun l7 us7 H7 n7 z7 h7 m7 => ?_
    have s7 := Same.trans s6 z7
    have m7 : Paired (RPl H7) (List.range' 38 14) us7 := m7
    refine add_rt (fun q => [some (.ref l), some (.ref q), none]) (H0 := H7) rpl_grows (Same.refl H7) h7 m7 (er_cons rpl_grows (pl_one (H := H7) (Cs := csAll K) (j := 52) (s7 _ _ hl) (Paired.mono (fun _ _ h => h.mono s7) hs) X1 (Nat.le_of_ble_eq_true rfl) (Nat.le_of_ble_eq_true rfl) (PF 52 _ rfl)) (er_cons rpl_grows (pl_one (H := H7) (Cs := csAll K) (j := 53) (s7 _ _ hl) (Paired.mono (fun _ _ h => h.mono s7) hs) X1 (Nat.le_of_ble_eq_true rfl) (Nat.le_of_ble_eq_true rfl) (PF 53 _ rfl)) er_nil)) (by decide) fun l8 us8 H8 n8 z8 h8 m8 => ?_
    have s8 := Same.trans s7 z8
    have m8 : Paired (RPl H8) (List.range' 38 16) us8 := m8
    refine add_rt (fun q => [some (.ref l), some (.ref q), none]) (H0 := H8) rpl_grows (Same.refl H8) h8 m8 (er_cons rpl_grows (pl_one (H := H8) (Cs := csAll K) (j := 54) (s8 _ _ hl) (Paired.mono (fun _ _ h => h.mono s8) hs) X1 (Nat.le_of_ble_eq_true rfl) (Nat.le_of_ble_eq_true rfl) (PF 54 _ rfl)) (er_cons rpl_grows (pl_one (H := H8) (Cs := csAll K) (j := 55) (s8 _ _ hl) (Paired.mono (fun _ _ h => h.mono s8) hs) X1 (Nat.le_of_ble_eq_true rfl) (Nat.le_of_ble_eq_true rfl) (PF 55 _ rfl)) er_nil)) (by decide) fun l9 us9 H9 n9 z9 h9 m9 => ?_
    have s9 := Same.trans s8 z9
    have m9 : Paired (RPl H9) (List.range' 38 18) us9 := m9
    refine add_rt (fun q => [some (.ref l), some (.ref q), none]) (H0 := H9) rpl_grows (Same.refl H9) h9 m9 (er_cons rpl_grows (pl_one (H := H9) (Cs := csAll K) (j := 56) (s9 _ _ hl) (Paired.mono (fun _ _ h => h.mono s9) hs) X1 (Nat.le_of_ble_eq_true rfl) (Nat.le_of_ble_eq_true rfl) (PF 56 _ rfl)) (er_cons rpl_grows (pl_one (H := H9) (Cs := csAll K) (j := 57) (s9 _ _ hl) (Paired.mono (fun _ _ h => h.mono s9) hs) X1 (Nat.le_of_ble_eq_true rfl) (Nat.le_of_ble_eq_true rfl) (PF 57 _ rfl)) er_nil)) (by decide) fun l10 us10 H10 n10 z10 h10 m10 => ?_
    have s10 := Same.trans s9 z10
    have m10 : Paired (RPl H10) (List.range' 38 20) us10 := m10
    refine add_rt (fun q => [some (.ref l), some (.ref q), none]) (H0 := H10) rpl_grows (Same.refl H10) h10 m10 (er_cons rpl_grows (pl_one (H := H10) (Cs := csAll K) (j := 58) (s10 _ _ hl) (Paired.mono (fun _ _ h => h.mono s10) hs) X1 (Nat.le_of_ble_eq_true rfl) (Nat.le_of_ble_eq_true rfl) (PF 58 _ rfl)) (er_cons rpl_grows (pl_one (H := H10) (Cs := csAll K) (j := 59) (s10 _ _ hl) (Paired.mono (fun _ _ h => h.mono s10) hs) X1 (Nat.le_of_ble_eq_true rfl) (Nat.le_of_ble_eq_true rfl) (PF 59 _ rfl)) er_nil)) (by decide) fun l11 us11 H11 n11 z11 h11 m11 => ?_
    have s11 := Same.trans s10 z11
    have m11 : Paired (RPl H11) (List.range' 38 22) us11 := m11
    refine add_rt (fun q => [some (.ref l), some (.ref q), none]) (H0 := H11) rpl_grows (Same.refl H11) h11 m11 (er_cons rpl_grows (pl_one (H := H11) (Cs := csAll K) (j := 60) (s11 _ _ hl) (Paired.mono (fun _ _ h => h.mono s11) hs) X1 (Nat.le_of_ble_eq_true rfl) (Nat.le_of_ble_eq_true rfl) (PF 60 _ rfl)) (er_cons rpl_grows (pl_one (H := H11) (Cs := csAll K) (j := 61) (s11 _ _ hl) (Paired.mono (fun _ _ h => h.mono s11) hs) X1 (Nat.le_of_ble_eq_true rfl) (Nat.le_of_ble_eq_true rfl) (PF 61 _ rfl)) er_nil)) (by decide) fun l12 us12 H12 n12 z12 h12 m12 => ?_
    have s12 := Same.trans s11 z12
    have m12 : Paired (RPl H12) (List.range' 38 24) us12 := m12
    refine add_rt (fun q => [some (.ref l), some (.ref q), none]) (H0 := H12) rpl_grows (Same.refl H12) h12 m12 (er_cons rpl_grows (pl_one (H := H12) (Cs := csAll K) (j := 62) (s12 _ _ hl) (Paired.mono (fun _ _ h => h.mono s12) hs) X1 (Nat.le_of_ble_eq_true rfl) (Nat.le_of_ble_eq_true rfl) (PF 62 _ rfl)) (er_cons rpl_grows (pl_one (H := H12) (Cs := csAll K) (j := 63) (s12 _ _ hl) (Paired.mono (fun _ _ h => h.mono s12) hs) X1 (Nat.le_of_ble_eq_true rfl) (Nat.le_of_ble_eq_true rfl) (PF 63 _ rfl)) er_nil)) (by decide) fun l13 us13 H13 n13 z13 h13 m13 => ?_
    have s13 := Same.trans s12 z13
    have m13 : Paired (RPl H13) (List.range' 38 26) us13 := m13
    refine add_rt (fun q => [some (.ref l), some (.ref q), none]) (H0 := H13) rpl_grows (Same.refl H13) h13 m13 (er_cons rpl_grows (pl_one (H := H13) (Cs := csAll K) (j := 64) (s13 _ _ hl) (Paired.mono (fun _ _ h => h.mono s13) hs) X1 (Nat.le_of_ble_eq_true rfl) (Nat.le_of_ble_eq_true rfl) (PF 64 _ rfl)) (er_cons rpl_grows (pl_one (H := H13) (Cs := csAll K) (j := 65) (s13 _ _ hl) (Paired.mono (fun _ _ h => h.mono s13) hs) X1 (Nat.le_of_ble_eq_true rfl) (Nat.le_of_ble_eq_true rfl) (PF 65 _ rfl)) er_nil)) (by decide) fun l14 us14 H14 n14 z14 h14 m14 => ?_
    have s14 := Same.trans s13 z14
    have m14 : Paired (RPl H14) (List.range' 38 28) us14 := m14
    refine add_rt (fun q => [some (.ref l), some (.ref q), none]) (H0 := H14) rpl_grows (Same.refl H14) h14 m14 (er_cons rpl_grows (pl_one (H := H14) (Cs := csAll K) (j := 66) (s14 _ _ hl) (Paired.mono (fun _ _ h => h.mono s14) hs) X1 (Nat.le_of_ble_eq_true rfl) (Nat.le_of_ble_eq_true rfl) (PF 66 _ rfl)) (er_cons rpl_grows (pl_one (H := H14) (Cs := csAll K) (j := 67) (s14 _ _ hl) (Paired.mono (fun _ _ h => h.mono s14) hs) X1 (Nat.le_of_ble_eq_true rfl) (Nat.le_of_ble_eq_true rfl) (PF 67 _ rfl)) er_nil)) (by decide) fun l15 us15 H15 n15 z15 h15 m15 => ?_
    have s15 := Same.trans s14 z15
    have m15 : Paired (RPl H15) (List.range' 38 30) us15 := m15
    refine add_rt (fun q => [some (.ref l), some (.ref q), none]) (H0 := H15) rpl_grows (Same.refl H15) h15 m15 (er_cons rpl_grows (pl_one (H := H15) (Cs := csAll K) (j := 68) (s15 _ _ hl) (Paired.mono (fun _ _ h => h.mono s15) hs) X1 (Nat.le_of_ble_eq_true rfl) (Nat.le_of_ble_eq_true rfl) (PF 68 _ rfl)) (er_cons rpl_grows (pl_one (H := H15) (Cs := csAll K) (j := 69) (s15 _ _ hl) (Paired.mono (fun _ _ h => h.mono s15) hs) X1 (Nat.le_of_ble_eq_true rfl) (Nat.le_of_ble_eq_true rfl) (PF 69 _ rfl)) er_nil)) (by decide) fun l16 us16 H16 n16 z16 h16 m16 => ?_
    have s16 := Same.trans s15 z16
    have m16 : Paired (RPl H16) (List.range' 38 32) us16 := m16
    refine add_rt (fun q => [some (.ref l), some (.ref q), none]) (H0 := H16) rpl_grows (Same.refl H16) h16 m16 (er_cons rpl_grows (pl_one (H := H16) (Cs := csAll K) (j := 70) (s16 _ _ hl) (Paired.mono (fun _ _ h => h.mono s16) hs) X1 (Nat.le_of_ble_eq_true rfl) (Nat.le_of_ble_eq_true rfl) (PF 70 _ rfl)) (er_cons rpl_grows (pl_one (H := H16) (Cs := csAll K) (j := 71) (s16 _ _ hl) (Paired.mono (fun _ _ h => h.mono s16) hs) X1 (Nat.le_of_ble_eq_true rfl) (Nat.le_of_ble_eq_true rfl) (PF 71 _ rfl)) er_nil)) (by decide) fun l17 us17 H17 n17 z17 h17 m17 => ?_
    have s17 := Same.trans s16 z17
    have m17 : Paired (RPl H17) (List.range' 38 34) us17 := m17
    exact ⟨_, rfl, q l17 us17 H17 (Evl.fresh_back s16 n17) s17 h17 m17⟩
end
end Ka

set_option Elab.async false
set_option linter.all false
set_option maxRecDepth 100000
set_option maxHeartbeats 4000000
namespace Ka
open PySem PySem.Spec PyProof.Rows L2
/-! ### what is new since a heap -/
def nw (H H' : Hp) : Hp := fun c => match H c with
  | none => H' c
  | some _ => none
theorem nw_of {H H' : Hp} {c : Addr} (h : H c = none) : nw H H' c = H' c := by
  unfold nw
  rw [h]
theorem nw_some {H H' : Hp} {c : Addr} {u : HO} (h : nw H H' c = some u) : H c = none ∧ H' c = some u := by
  unfold nw at h
  cases e : H c with
  | none =>
    rw [e] at h
    exact ⟨rfl, h⟩
  | some o =>
    rw [e] at h
    cases h
theorem BoxAt.ne {H : Hp} {b c : Addr} (h : BoxAt H b) (n : H c = none) : c ≠ b := fun z => by
  obtain ⟨a, g, x, d, e, _⟩ := h
  rw [z, e] at n
  cases n
theorem BoxTo.keep {b c : Addr} {u : HO} {H H' : Hp} (t : BoxTo b H H') (n : c ≠ b) (h : H c = some u) : H' c = some u := by
  have := t.2 c u (by rw [off_ne n]; exact h)
  rw [off_ne n] at this
  exact this
theorem BoxTo.gone {b c : Addr} {H H' : Hp} (t : BoxTo b H H') (h : H' c = none) : H c = none := by
  have n := t.1.ne h
  cases e : H c with
  | none => rfl
  | some u =>
    rw [t.keep n e] at h
    cases h
theorem BoxTo.refl {b : Addr} {H : Hp} (h : BoxAt H b) : BoxTo b H H := ⟨h, Same.refl _⟩
/-- the box goes on: what was new is new still -/
theorem nw_later {b : Addr} {H H1 H2 : Hp} (hb : BoxAt H b) (t : BoxTo b H1 H2) : Same (nw H H1) (nw H H2) := fun c u e => by
  obtain ⟨h1, h2⟩ := nw_some e
  rw [nw_of h1]
  exact t.keep (hb.ne h1) h2
theorem nw_back {b : Addr} {H H1 H2 : Hp} (t : BoxTo b H H1) : Same (nw H1 H2) (nw H H2) := fun c u e => by
  obtain ⟨h1, h2⟩ := nw_some e
  rw [nw_of (t.gone h1)]
  exact h2
theorem nw_same {H H1 H2 : Hp} (s : Same H1 H2) : Same (nw H H1) (nw H H2) := fun c u e => by
  obtain ⟨h1, h2⟩ := nw_some e
  rw [nw_of h1]
  exact s _ _ h2
theorem nw_sub {H H' : Hp} : Same (nw H H') H' := fun c u e => (nw_some e).2
/-! ### data -/
theorem eqd_sc {n : Nat} {H : Hp} {v : V} (h : Sc v) : EqD n H v v := by
  cases n with
  | zero => exact ⟨rfl, h⟩
  | succ n => exact .inl ⟨rfl, h⟩
theorem eqd_tup {n : Nat} {H : Hp} {p : Addr} {xs : List V} (h : H p = some (.tup xs)) (l : xs.length ≤ 1000) (hx : ∀ v ∈ xs, EqD n H v v) : EqD (n + 1) H (.ref p) (.ref p) :=
  .inr (.inl ⟨p, p, xs, xs, rfl, rfl, .inr ⟨.inl h, .inl h⟩, rfl, l, fun i x y e1 e2 => by
    rw [e1] at e2
    cases e2
    exact hx _ (List.mem_of_getElem? e1)⟩)
theorem eqd_lst {n : Nat} {H : Hp} {p : Addr} {xs : List V} (h : H p = some (.lst xs)) (l : xs.length ≤ 1000) (hx : ∀ v ∈ xs, EqD n H v v) : EqD (n + 1) H (.ref p) (.ref p) :=
  .inr (.inl ⟨p, p, xs, xs, rfl, rfl, .inl ⟨.inl h, .inl h⟩, rfl, l, fun i x y e1 e2 => by
    rw [e1] at e2
    cases e2
    exact hx _ (List.mem_of_getElem? e1)⟩)
theorem eqd_dk {n : Nat} {H : Hp} {p : Addr} {kvs : List (Key × V)} (h : H p = some (.dK kvs)) (l : kvs.length ≤ 1000) (hx : ∀ k v, (k, v) ∈ kvs → ∃ x, valV kvs k = some x ∧ EqD n H x x) : EqD (n + 1) H (.ref p) (.ref p) :=
  .inr (.inr ⟨p, p, kvs, kvs, rfl, rfl, .inl h, .inl h, rfl, l, fun k v e => by
    obtain ⟨x, h1, h2⟩ := hx k v e
    exact ⟨x, x, h1, h1, h2⟩⟩)
/-- a value of _law_value, of new data alone -/
def Val (d : Nat) (H H' : Hp) (v : V) : Prop := EqD (3 + 2 * d) (nw H H') v v ∧ (Sc v ∨ ∃ p xs, v = .ref p ∧ nw H H' p = some (.tup xs))
theorem Val.mono {d : Nat} {H H1 H2 H3 : Hp} {v : V} (s : Same (nw H H1) (nw H2 H3)) (h : Val d H H1 v) : Val d H2 H3 v := by
  refine ⟨h.1.mono (RdLe.of s), ?_⟩
  rcases h.2 with q | ⟨p, xs, e, q⟩
  · exact .inl q
  · exact .inr ⟨p, xs, e, s _ _ q⟩
theorem val_sc {d : Nat} {H H' : Hp} {v : V} (h : Sc v) : Val d H H' v := ⟨eqd_sc h, .inl h⟩
abbrev sVal : Stmt := tp 88
def spV : Nat → Sp
  | 0 => fun _ _ _ _ => False
  | m + 1 => fun vs H Q _ => ∃ (b : Addr) (d : Nat), vs = [.ref b, .int d] ∧ d ≤ m ∧ BoxAt H b ∧ ∀ v H', BoxTo b H H' → Val d H H' v → Q v H'
theorem spV_len : ∀ {n : Nat} {vs : List V} {H : Hp} {Q : VK} {E : XK}, spV n vs H Q E → vs.length = 2
  | 0, _, _, _, _, h => h.elim
  | n + 1, _, _, _, _, ⟨t, d, e, _⟩ => by rw [e]; rfl
theorem scVal : FnScope ["box", "deep", "way", "number"] ["box", "deep"] (defScope sVal) := ⟨rfl, rfl, rfl, by decide +kernel, rfl, by decide +kernel, by decide +kernel⟩
theorem log_ok {i : Int} (h1 : -500000 ≤ i) (h2 : i < 500000) : i.natAbs.log2 < 1920 := by
  by_cases h : i.natAbs = 0
  · rw [h]
    decide
  · refine (Nat.log2_lt h).2 (Nat.lt_of_lt_of_le (show i.natAbs < 2 ^ 20 by omega) (Nat.pow_le_pow_right (by decide) (by decide)))
theorem cutV_mem {xs : List V} {lo hi : Option Int} {v : V} (h : v ∈ cutV xs lo hi) : v ∈ xs := by
  unfold cutV at h
  exact List.mem_of_mem_drop (List.mem_of_mem_take h)
theorem cutV_le {xs : List V} {lo hi : Option Int} : (cutV xs lo hi).length ≤ xs.length := by
  unfold cutV
  rw [List.length_take, List.length_drop]
  omega
theorem str_app_len (a b : Str) : (a ++ b).length = a.length + b.length := by
  show (a.cps ++ b.cps).size = _
  rw [Array.size_append]
  rfl
section
variable {P : Program} {w : World} {K : PySem.W.Frag} {mg : Str → Option Value} {base : Heap}
theorem ok_valS {n : Nat} {f fT : Addr} {fd fdT : FuncData} (D : FnP K "_law_value" sVal f fd) (T : Free mg) (B : Has K mg "_law_value" f fd ["box", "deep"]) (BT : Has K mg "_law_take" fT fdT ["box", "many"]) (FT : FnOk P w K mg base CX0 1 fT fdT ["box", "many"] spTake)
    (F : FnOk P w K mg base CX0 (n + 1) f fd ["box", "deep"] (spV n)) : FnOk P w K mg base CX0 (n + 2) f fd ["box", "deep"] (spV (n + 1)) := by
  refine D.ok scVal (fun vs H Q E h => spV_len h) (fun cdv A outer s H vs Q E hr h => ?_)
  have h1 : Room 1 _ := hr.mono (show 1 ≤ n + 1 by omega)
  obtain ⟨b, d, rfl, dn, hb, k⟩ := h
  refine ⟨_, pss_cons (ps_par (i := 2) (j := 3) rfl scVal.nd rfl rfl (by decide) rfl rfl (pa_cons (pe_callS FT h1 (by rfl) BT.g BT.kp BT.b (E := fun _ _ _ _ => False) (fun _ _ _ _ _ _ _ h => h.elim) (pa_cons (pv 0) (pa_cons pe_int pa_nil))) (pa_cons (pe_op op_sub (pe_callS FT h1 (by rfl) BT.g BT.kp BT.b (E := fun _ _ _ _ => False) (fun _ _ _ _ _ _ _ h => h.elim) (pa_cons (pv 0) (pa_cons (pe_op op_pow pe_int pe_int) pa_nil))) pe_int) pa_nil)) (by rfl))
    (pss_cons (ps_if (pt_cmpR op_eq (pv 2) pe_int (nomark _)) (pss_one (ps_ret (pe_ix ix_list (pe_lst (pa_cons pe_non (pa_cons pe_bl (pa_cons pe_bl (pa_cons pe_int (pa_cons pe_int (pa_cons pe_str (pa_cons (pe_tup pa_nil) pa_nil)))))))) (pe_callS FT h1 (by rfl) BT.g BT.kp BT.b (E := fun _ _ _ _ => False) (fun _ _ _ _ _ _ _ h => h.elim) (pa_cons (pv 0) (pa_cons pe_int pa_nil))) (fun _ _ => rfl)))) pss_nil)
    (pss_cons (ps_if (pt_cmpR op_lt (pv 2) pe_int (nomark _)) (pss_one (ps_ret (pe_op op_mul (pv 3) (pe_ix ix_list (pe_lst (pa_cons pe_int (pa_cons pe_int (pa_cons pe_int (pa_cons (pe_op op_pow pe_int pe_int) pa_nil))))) (pe_callS FT h1 (by rfl) BT.g BT.kp BT.b (E := fun _ _ _ _ => False) (fun _ _ _ _ _ _ _ h => h.elim) (pa_cons (pv 0) (pa_cons pe_int pa_nil))) (fun _ _ => rfl))))) pss_nil)
    (pss_cons (ps_if (pt_cmpR op_lt (pv 2) pe_int (nomark _)) (pss_one (ps_ret (pe_op op_add_str (pe_slice sl_str pe_str po_none (po_some (pe_callS FT h1 (by rfl) BT.g BT.kp BT.b (E := fun _ _ _ _ => False) (fun _ _ _ _ _ _ _ h => h.elim) (pa_cons (pv 0) (pa_cons pe_int pa_nil))))) (pe_callTy call_str_int (by rfl) T.str (by decide +kernel) (pa_cons (pv 3) pa_nil))))) pss_nil)
    (pss_one (ps_ret (pe_ifExp (pt_cmpR op_eq (pv 1) pe_int (nomark _)) (pe_slice sl_tupA (pe_tup (pa_cons (pv 3) (pa_cons pe_str (pa_cons pe_non (pa_cons (pe_tup (pa_cons (pe_tup (pa_cons pe_int (pa_cons pe_int pa_nil))) pa_nil)) pa_nil))))) po_none (po_some (pe_callS FT h1 (by rfl) BT.g BT.kp BT.b (E := fun _ _ _ _ => False) (fun _ _ _ _ _ _ _ h => h.elim) (pa_cons (pv 0) (pa_cons pe_int pa_nil)))))
      (pe_tup (pa_cons (pe_callS F hr (by rfl) B.g B.kp B.b (E := fun _ _ _ _ => False) (fun _ _ _ _ _ _ _ h => h.elim) (pa_cons (pv 0) (pa_cons (pe_op op_sub (pv 1) pe_int) pa_nil))) (pa_cons (pe_lst (pa_cons (pv 3) pa_nil)) (pa_cons (pe_disp (pps_cons pe_str (pe_callS F hr (by rfl) B.g B.kp B.b (E := fun _ _ _ _ => False) (fun _ _ _ _ _ _ _ h => h.elim) (pa_cons (pv 0) (pa_cons (pe_op op_sub (pv 1) pe_int) pa_nil))) pps_nil) rfl rfl (by simp) (by decide)) pa_nil)))))))))), ?_⟩
  refine ⟨_, rfl, b, 9, rfl, hb, by decide, by decide, fun way H1 w0 w1 t1 => ?_⟩
  refine ⟨_, rfl, _, _, rfl, rfl, ⟨by decide, by decide, by decide⟩, b, _, rfl, t1.1, by decide, by decide, fun num H2 n0 n1 t2 => ?_⟩
  refine ⟨_, _, rfl, rfl, _, _, rfl, ?_⟩
  have n1 : num < 1000000 := n1
  have t02 := t1.trans t2
  -- to the end: heap H3, from Ha, a heap that H2 grew to
  have fin : ∀ {Ha H3 : Hp} {v : V}, Same H2 Ha → BoxTo b Ha H3 → Val d H H3 v → Q v H3 := fun {Ha H3 v} s t q => k v H3 ((t02.trans (.of t02.1 s)).trans t) q
  have boxA : ∀ {Ha : Hp}, Same H2 Ha → BoxAt Ha b := fun s => t02.1.same s
  have newv : ∀ {Ha H3 : Hp} {c : Addr} {u : HO}, Same H2 Ha → BoxTo b Ha H3 → H2 c = none → Ha c = some u → nw H H3 c = some u := fun {Ha H3 c u} s t n e => by
    have hc := t02.gone n
    rw [nw_of hc]
    exact t.keep (hb.ne hc) e
  refine ⟨_, rfl, rfl, _, rfl, ite2 (fun _ => ?_) (fun _ => ?_)⟩
  · refine ⟨Nat.zero_le _, fun p hp => ⟨(by show 7 ≤ sizeLine; decide), fun l hl => ?_⟩⟩
    have s3 : Same H2 (upd (upd H2 p (.tup [])) l (.lst [V.non, .bl true, .bl false, .int 0, .int 1, .str "", .ref p])) := (same_new hp).trans (same_new hl)
    refine ⟨_, rfl, b, 7, rfl, boxA s3, by decide, by decide, fun i H3 i0 i1 t3 => ?_⟩
    obtain ⟨j, rfl⟩ : ∃ j : Nat, i = (j : Int) := ⟨i.toNat, by omega⟩
    have hj : j < [V.non, .bl true, .bl false, .int 0, .int 1, .str "", .ref p].length := by show j < 7; omega
    have ej : [V.non, .bl true, .bl false, .int 0, .int 1, .str "", .ref p][j]? = some _ := List.getElem?_eq_getElem hj
    have lb : l ≠ b := (boxA (same_new (o := .tup []) hp)).ne hl
    refine ⟨l, _, _, _, rfl, rfl, SqL.of (t3.keep lb upd_same), atI_nat ej, fin s3 t3 ?_⟩
    have hv : ∀ v ∈ [V.non, .bl true, .bl false, .int 0, .int 1, .str "", .ref p], Sc v ∨ v = .ref p := by
      intro v hv
      simp only [List.mem_cons, List.not_mem_nil, or_false] at hv
      rcases hv with rfl | rfl | rfl | rfl | rfl | rfl | rfl
      · exact .inl True.intro
      · exact .inl True.intro
      · exact .inl True.intro
      · exact .inl True.intro
      · exact .inl True.intro
      · exact .inl (show (Str.ofString "").length ≤ 2000 by decide)
      · exact .inr rfl
    rcases hv _ (List.getElem_mem hj) with q | q
    · exact val_sc q
    · rw [q]
      have np : nw H H3 p = some (.tup []) := newv s3 t3 hp (by rw [upd_ne (ne_of_none upd_same hl)]; exact upd_same)
      refine ⟨?_, .inr ⟨p, _, rfl, np⟩⟩
      rw [show 3 + 2 * d = (2 + 2 * d) + 1 by omega]
      exact eqd_tup np (by decide) fun v hv => absurd hv (by simp)
  refine ⟨_, rfl, _, _, rfl, rfl, _, rfl, ite2 (fun _ => ?_) (fun _ => ?_)⟩
  · refine ⟨_, rfl, _, _, rfl, rfl, ⟨by decide, by decide, by decide⟩, (by show 4 ≤ sizeLine; decide), fun l hl => ?_⟩
    have s3 : Same H2 (upd H2 l (.lst [V.int 1, .int 1, .int 1000, .int (10 ^ (20 : Int).toNat)])) := same_new hl
    refine ⟨_, rfl, b, 4, rfl, boxA s3, by decide, by decide, fun i H3 i0 i1 t3 => ?_⟩
    obtain ⟨j, rfl⟩ : ∃ j : Nat, i = (j : Int) := ⟨i.toNat, by omega⟩
    have ej : ∃ z, [V.int 1, .int 1, .int 1000, .int (10 ^ (20 : Int).toNat)][j]? = some (.int z) := by
      have hj : j = 0 ∨ j = 1 ∨ j = 2 ∨ j = 3 := by omega
      rcases hj with rfl | rfl | rfl | rfl <;> exact ⟨_, rfl⟩
    obtain ⟨z, ej⟩ := ej
    refine ⟨l, _, _, _, rfl, rfl, SqL.of (t3.keep (t02.1.ne hl) upd_same), atI_nat ej, _, _, rfl, rfl, .inl ⟨by omega, by omega⟩, fin s3 t3 (val_sc True.intro)⟩
  refine ⟨_, rfl, _, _, rfl, rfl, _, rfl, ite2 (fun _ => ?_) (fun _ => ?_)⟩
  · refine ⟨_, rfl, b, 5, rfl, t02.1, by decide, by decide, fun i H3 i0 i1 t3 => ?_⟩
    refine ⟨_, rfl, _, rfl, (by decide), _, rfl, _, rfl, log_ok (by omega) (by omega), _, _, rfl, rfl, ?_, fin (Same.refl H2) t3 (val_sc ?_)⟩
    · have l1 := cutS_length (Str.ofString "0=1 ") none (some i)
      have l2 := PyProof.Rows.int_text_len_1921 (i := num - 500000) (log_ok (by omega) (by omega))
      have l3 : (Str.ofString "0=1 ").length = 4 := by decide
      exact Nat.le_trans (show _ ≤ 2000 by omega) (by decide)
    · have l1 := cutS_length (Str.ofString "0=1 ") none (some i)
      have l2 := PyProof.Rows.int_text_len_1921 (i := num - 500000) (log_ok (by omega) (by omega))
      have l3 : (Str.ofString "0=1 ").length = 4 := by decide
      show (_ ++ _ : Str).length ≤ 2000
      rw [str_app_len]
      omega
  refine ⟨_, rfl, rfl, _, rfl, ite2 (fun _ => ?_) (fun hd => ?_)⟩
  · refine ⟨_, rfl, (by show 2 ≤ sizeLine; decide), fun p1 hp1 => ⟨(by show 1 ≤ sizeLine; decide), fun p2 hp2 => ⟨(by show 4 ≤ sizeLine; decide), fun p3 hp3 => ?_⟩⟩⟩
    have s1 : Same H2 (upd H2 p1 (.tup [.int 0, .int 1])) := same_new hp1
    have s2 := s1.trans (same_new (o := .tup [.ref p1]) hp2)
    have s3 := s2.trans (same_new (o := .tup [.int (num - 500000), .str "ring", .non, .ref p2]) hp3)
    refine ⟨_, rfl, b, 5, rfl, boxA s3, by decide, by decide, fun i H3 i0 i1 t3 => ?_⟩
    have m2 : H2 p2 = none := Evl.fresh_back s1 hp2
    have m3 : H2 p3 = none := Evl.fresh_back s2 hp3
    have q1 : nw H H3 p1 = some (.tup [.int 0, .int 1]) := newv s3 t3 hp1 (same_new hp3 _ _ (same_new hp2 _ _ upd_same))
    have q2 : nw H H3 p2 = some (.tup [.ref p1]) := newv s3 t3 m2 (same_new hp3 _ _ upd_same)
    have q3 : nw H H3 p3 = some (.tup [.int (num - 500000), .str "ring", .non, .ref p2]) := newv s3 t3 m3 upd_same
    have d1 : EqD (2 * d + 1) (nw H H3) (.ref p2) (.ref p2) → True := fun _ => True.intro
    have e1 : EqD (2 * d) (nw H H3) (.ref p1) (.ref p1) ∨ True := .inr True.intro
    have dat : ∀ {Hz : Hp}, Same (nw H H3) Hz → ∀ v ∈ [V.int (num - 500000), .str "ring", .non, .ref p2], EqD (2 + 2 * d) Hz v v := fun {Hz} sz v hv => by
      simp only [List.mem_cons, List.not_mem_nil, or_false] at hv
      rcases hv with rfl | rfl | rfl | rfl
      · exact eqd_sc True.intro
      · exact eqd_sc (show (Str.ofString "ring").length ≤ 2000 by decide)
      · exact eqd_sc True.intro
      · rw [show 2 + 2 * d = (1 + 2 * d) + 1 by omega]
        refine eqd_tup (sz _ _ q2) (by show 1 ≤ 1000; decide) fun v hv => ?_
        rw [List.mem_singleton.mp hv, show 1 + 2 * d = (2 * d) + 1 by omega]
        refine eqd_tup (sz _ _ q1) (by show 2 ≤ 1000; decide) fun v hv => ?_
        simp only [List.mem_cons, List.not_mem_nil, or_false] at hv
        rcases hv with rfl | rfl
        · exact eqd_sc True.intro
        · exact eqd_sc True.intro
    refine ⟨_, rfl, p3, _, rfl, .inl (.inl (nw_sub _ _ q3)), fun _ => fin s3 t3 ⟨?_, .inr ⟨p3, _, rfl, q3⟩⟩, fun _ p4 hp4 => ?_⟩
    · rw [show 3 + 2 * d = (2 + 2 * d) + 1 by omega]
      exact eqd_tup q3 (by show 4 ≤ 1000; decide) (dat (Same.refl _))
    · have t4 : BoxTo b H3 (upd H3 p4 (.tup (cutV [.int (num - 500000), .str "ring", .non, .ref p2] none (some i)))) := .of t3.1 (same_new hp4)
      have q4 : nw H (upd H3 p4 (.tup (cutV [.int (num - 500000), .str "ring", .non, .ref p2] none (some i)))) p4 = some (.tup (cutV [.int (num - 500000), .str "ring", .non, .ref p2] none (some i))) := by
        rw [nw_of (t02.gone (Evl.fresh_back s3 (t3.gone hp4)))]
        exact upd_same
      refine fin s3 (t3.trans t4) ⟨?_, .inr ⟨p4, _, rfl, q4⟩⟩
      rw [show 3 + 2 * d = (2 + 2 * d) + 1 by omega]
      exact eqd_tup q4 (Nat.le_trans cutV_le (by show 4 ≤ 1000; decide)) fun v hv => dat (nw_same (same_new hp4)) v (cutV_mem hv)
  · obtain ⟨e, rfl⟩ : ∃ e, d = e + 1 := by
      cases d with
      | zero => exact absurd (decide_eq_true rfl) hd
      | succ e => exact ⟨e, rfl⟩
    obtain ⟨m, rfl⟩ : ∃ m, n = m + 1 := by
      cases n with
      | zero => omega
      | succ m => exact ⟨m, rfl⟩
    have ed : (((e + 1 : Nat) : Int) - 1) = (e : Int) := by omega
    have eV : [V.ref b, V.int (((e + 1 : Nat) : Int) - 1)] = [V.ref b, V.int (e : Int)] := by rw [ed]
    refine ⟨_, rfl, _, rfl, _, _, rfl, rfl, b, e, eV, by omega, t02.1, fun v1 H3 t3 V1 => ?_⟩
    refine ⟨_, rfl, (by show 1 ≤ sizeLine; decide), fun l hl => fun p hp => ?_⟩
    have s4 : Same H3 (upd H3 l (.lst [.int (num - 500000)])) := same_new hl
    have s5 := s4.trans (same_new (o := .dK []) hp)
    have b5 : BoxAt (upd (upd H3 l (.lst [.int (num - 500000)])) p (.dK [])) b := t3.1.same s5
    refine ⟨_, rfl, _, rfl, _, _, rfl, rfl, b, e, eV, by omega, b5, fun v2 H4 t4 V2 => ?_⟩
    have hp4 : H4 p = some (.dK []) := t4.keep ((t3.1.same s4).ne hp) upd_same
    refine ⟨hp4, [(Sum.inr "a", v2)], rfl, by show 1 ≤ 15; decide, (by show 3 ≤ sizeLine; decide), fun q hq => ?_⟩
    have gp3 : H3 p = none := Evl.fresh_back s4 hp
    have gl : H l = none := t02.gone (t3.gone hl)
    have gp : H p = none := t02.gone (t3.gone gp3)
    have t04 : BoxTo b H H4 := ((t02.trans t3).trans (.of t3.1 s5)).trans t4
    have pb : p ≠ b := hb.ne gp
    have lb : l ≠ b := hb.ne gl
    have lp : l ≠ p := fun z => by rw [← z, upd_same] at hp; cases hp
    have kF : ∀ (c : Addr) u, c ≠ p → H4 c = some u → upd (upd H4 p (.dK (mergeK [] [(Sum.inr "a", v2)]))) q (.tup [v1, .ref l, .ref p]) c = some u := fun c u n e => by
      have e2 : upd H4 p (.dK (mergeK [] [(Sum.inr "a", v2)])) c = some u := by rw [upd_ne n]; exact e
      exact same_new hq _ _ e2
    have pF : upd (upd H4 p (.dK (mergeK [] [(Sum.inr "a", v2)]))) q (.tup [v1, .ref l, .ref p]) p = some (.dK [(Sum.inr "a", v2)]) := same_new hq _ _ upd_same
    have gq : H4 q = none := by
      have h := hq
      rw [upd_ne (fun z => by rw [z, upd_same] at h; cases h)] at h
      exact h
    have qF : upd (upd H4 p (.dK (mergeK [] [(Sum.inr "a", v2)]))) q (.tup [v1, .ref l, .ref p]) q = some (.tup [v1, .ref l, .ref p]) := upd_same
    generalize upd (upd H4 p (.dK (mergeK [] [(Sum.inr "a", v2)]))) q (.tup [v1, .ref l, .ref p]) = Hf at kF pF qF ⊢
    have tf : BoxTo b H Hf := by
      refine ⟨?_, fun c u h => ?_⟩
      · obtain ⟨x1, x2, x3, x4, x5, x6⟩ := t04.1
        exact ⟨x1, x2, x3, x4, kF b _ (Ne.symm pb) x5, x6⟩
      · obtain ⟨h1, h2⟩ := of_off h
        rw [off_ne h1]
        exact kF c u (ne_of_none h2 gp) (t04.keep h1 h2)
    have w1 : Same (nw H2 H3) (nw H Hf) := fun c u h => by
      obtain ⟨x1, x2⟩ := nw_some h
      have gc := t02.gone x1
      rw [nw_of gc]
      exact kF c u (ne_of_none x2 gp3) (t4.keep (hb.ne gc) (s5 _ _ x2))
    have w2 : Same (nw (upd (upd H3 l (.lst [.int (num - 500000)])) p (.dK [])) H4) (nw H Hf) := fun c u h => by
      obtain ⟨x1, x2⟩ := nw_some h
      have gc := t02.gone (t3.gone (Evl.fresh_back s5 x1))
      rw [nw_of gc]
      exact kF c u (fun z => by rw [z, upd_same] at x1; cases x1) x2
    have lF : nw H Hf l = some (.lst [.int (num - 500000)]) := by
      rw [nw_of gl]
      exact kF l _ lp (t4.keep lb (by rw [upd_ne lp]; exact upd_same))
    have pN : nw H Hf p = some (.dK [(Sum.inr "a", v2)]) := by rw [nw_of gp]; exact pF
    have qN : nw H Hf q = some (.tup [v1, .ref l, .ref p]) := by rw [nw_of (t04.gone gq)]; exact qF
    refine k _ Hf tf ⟨?_, .inr ⟨q, _, rfl, qN⟩⟩
    rw [show 3 + 2 * (e + 1) = (4 + 2 * e) + 1 by omega]
    refine eqd_tup qN (by show 3 ≤ 1000; decide) fun v hv => ?_
    simp only [List.mem_cons, List.not_mem_nil, or_false] at hv
    rcases hv with rfl | rfl | rfl
    · exact (V1.1.mono (RdLe.of w1)).up (by omega)
    · rw [show 4 + 2 * e = (3 + 2 * e) + 1 by omega]
      refine eqd_lst lF (by show 1 ≤ 1000; decide) fun v hv => ?_
      rw [List.mem_singleton.mp hv]
      exact eqd_sc True.intro
    · rw [show 4 + 2 * e = (3 + 2 * e) + 1 by omega]
      refine eqd_dk pN (by show 1 ≤ 1000; decide) fun kk v hv => ?_
      cases List.mem_singleton.mp hv
      exact ⟨v2, rfl, V2.1.mono (RdLe.of w2)⟩
theorem ok_val {f fT : Addr} {fd fdT : FuncData} (D : FnP K "_law_value" sVal f fd) (T : Free mg) (B : Has K mg "_law_value" f fd ["box", "deep"]) (BT : Has K mg "_law_take" fT fdT ["box", "many"]) (FT : FnOk P w K mg base CX0 1 fT fdT ["box", "many"] spTake) :
    ∀ n, FnOk P w K mg base CX0 (n + 1) f fd ["box", "deep"] (spV n)
  | 0 => ⟨fun _ _ _ _ h => h.elim, fun _ _ _ _ _ _ _ _ _ _ _ _ _ h => h.elim⟩
  | n + 1 => ok_valS D T B BT FT (ok_val D T B BT FT n)
end
end Ka

set_option Elab.async false
set_option linter.all false
set_option maxRecDepth 100000
set_option maxHeartbeats 4000000
namespace Ka
open PySem PySem.Spec PyProof.Rows L2
abbrev sGrown : Stmt := tp 90
theorem scGrown : FnScope ["thing", "number"] ["thing", "number"] (defScope sGrown) := ⟨rfl, rfl, rfl, by decide +kernel, rfl, by decide +kernel, by decide +kernel⟩
/-- neither a list nor a dict -/
def NoList (H : Hp) (v : V) : Prop := Sc v ∨ ∃ p xs, v = .ref p ∧ H p = some (.tup xs)
theorem nolist_ty {K : PySem.W.Frag} {H : Hp} {v : V} (h : NoList H v) : ∃ t, TyX K H v (.type t) ∧ kitB t "list" = some false := by
  rcases h with h | ⟨p, xs, rfl, h⟩
  · cases v with
    | non => exact ⟨_, .base .non, by decide +kernel⟩
    | bl b => exact ⟨_, .base (.bl b), by decide +kernel⟩
    | int i => exact ⟨_, .base (.int i), by decide +kernel⟩
    | str s => exact ⟨_, .base (.str s), by decide +kernel⟩
    | _ => exact h.elim
  · exact ⟨_, .base (.tup h), by decide +kernel⟩
def spGrown (K : PySem.W.Frag) : Sp := fun vs H Q _ => ∃ (p : Addr) (num : V), vs = [.ref p, num] ∧
  ((∃ (kvs : List (Key × V)) (oa : Addr) (ys : List V), H p = some (.dK kvs) ∧ valV kvs (Sum.inr "a") = some (.ref oa) ∧ H oa = some (.lst ys) ∧ kvs.length ≤ 100 ∧ ys.length ≤ 100 ∧ Q (.bl true) (upd (upd H oa (.lst (ys ++ [num]))) p (.dK (putK kvs (Sum.inr "more") num)))) ∨
   (∃ (v : V) (r : List V), H p = some (.lst (v :: r)) ∧ NoList H v ∧ r.length ≤ 100 ∧ Q (.bl true) (upd H p (.lst (v :: r ++ [num])))) ∨
   (∃ (t0 : Addr) (r zs : List V), H p = some (.lst (.ref t0 :: r)) ∧ H t0 = some (.lst zs) ∧ t0 ≠ p ∧ r.length ≤ 100 ∧ zs.length ≤ 100 ∧ Q (.bl true) (upd (upd H p (.lst (.ref t0 :: r ++ [num]))) t0 (.lst (zs ++ [.str "in"])))))
section
variable {P : Program} {w : World} {K : PySem.W.Frag} {mg : Str → Option Value} {base : Heap}
theorem ok_grown {f : Addr} {fd : FuncData} (D : FnP K "_law_grown" sGrown f fd) (T : Free mg) : FnOk P w K mg base CX0 1 f fd ["thing", "number"] (spGrown K) := by
  refine D.ok scGrown (fun vs H Q E h => ?_) (fun cdv A outer s H vs Q E hr h => ?_)
  · obtain ⟨p, num, rfl, _⟩ := h
    rfl
  · have hu := hu_of hr
    obtain ⟨p, num, rfl, h⟩ := h
    refine ⟨_, pss_cons (ps_if (pt_val (pe_callB call_isi (by rfl) T.isi (by decide +kernel) (pa_cons (pv 0) (pa_cons (pe_bltn (v := .ty "dict") (u := .type "dict") (by rfl) T.dict (by decide +kernel) rfl) pa_nil))))
        (pss_cons (ps_expr (pe_bm PySem.F.plainAttrs_list PySem.F.slot_list_append PySem.F.type_list_append mt_append (pe_dget hu (pv 0) pe_str (fun _ _ => rfl)) (pa_cons (pv 1) pa_nil))) (pss_one (ps_dput hu (pv 0) pe_str (pv 1) rfl)))
        (pss_cons (ps_expr (pe_bm PySem.F.plainAttrs_list PySem.F.slot_list_append PySem.F.type_list_append mt_append (pv 0) (pa_cons (pv 1) pa_nil)))
          (pss_one (ps_if (pt_val (pe_callB call_isi (by rfl) T.isi (by decide +kernel) (pa_cons (pe_ix ix_list (pv 0) pe_int (fun _ _ => rfl)) (pa_cons (pe_bltn (v := .ty "list") (u := .type "list") (by rfl) T.list (by decide +kernel) rfl) pa_nil))))
            (pss_one (ps_expr (pe_bm PySem.F.plainAttrs_list PySem.F.slot_list_append PySem.F.type_list_append mt_append (pe_ix ix_list (pv 0) pe_int (fun _ _ => rfl)) (pa_cons pe_str pa_nil)))) pss_nil))))
      (pss_one (ps_ret pe_bl)), ?_⟩
    rcases h with ⟨kvs, oa, ys, hp, ha, hy, l1, l2, q⟩ | ⟨v, r, hp, hn, l1, q⟩ | ⟨t0, r, zs, hp, ht, ne, l1, l2, q⟩
    · have np : p ≠ oa := fun z => by rw [z, hy] at hp; cases hp
      refine v_isi rfl (.base (.dK hp)) (by decide +kernel) ⟨true, rfl, iteT ?_⟩
      refine ⟨_, rfl, p, .ref oa, rfl, .inl ⟨kvs, Sum.inr "a", .inl hp, rfl, ha.symm⟩, .inl ⟨rfl, _, SqL.of hy⟩, _, rfl, oa, _, _, rfl, rfl, hy, Nat.lt_of_le_of_lt l2 (by decide), ?_⟩
      refine ⟨_, rfl, _, rfl, p, _, rfl, .inl ⟨kvs, Sum.inr "more", (by rw [upd_ne np]; exact hp), rfl, Nat.lt_of_le_of_lt l1 (by decide), rfl⟩, ?_⟩
      exact q
    · refine v_isi rfl (.base (.lst hp)) (by decide +kernel) ⟨false, rfl, iteF ?_⟩
      obtain ⟨t, ty, kt⟩ := nolist_ty (K := K) (H := upd H p (.lst (v :: r ++ [num]))) (v := v) (by
        rcases hn with h | ⟨p2, xs, e, h⟩
        · exact .inl h
        · exact .inr ⟨p2, xs, e, by rw [upd_ne (fun z => by rw [z, hp] at h; cases h)]; exact h⟩)
      refine ⟨_, rfl, .inl ⟨rfl, _, SqL.of hp⟩, _, rfl, p, _, _, rfl, rfl, hp, Nat.lt_of_le_of_lt (show r.length + 1 ≤ 101 by omega) (by decide), ?_⟩
      refine ⟨_, rfl, p, _, _, v, rfl, rfl, SqL.of upd_same, atI_nat (j := 0) rfl, v, .ty "list", .type t, .type "list", false, rfl, .ty "list", ty, kit_ty kt, false, rfl, iteF ?_⟩
      exact q
    · refine v_isi rfl (.base (.lst hp)) (by decide +kernel) ⟨false, rfl, iteF ?_⟩
      have ht1 : upd H p (.lst (.ref t0 :: r ++ [num])) t0 = some (.lst zs) := by rw [upd_ne ne]; exact ht
      refine ⟨_, rfl, .inl ⟨rfl, _, SqL.of hp⟩, _, rfl, p, _, _, rfl, rfl, hp, Nat.lt_of_le_of_lt (show r.length + 1 ≤ 101 by omega) (by decide), ?_⟩
      refine ⟨_, rfl, p, _, _, .ref t0, rfl, rfl, SqL.of upd_same, atI_nat (j := 0) rfl, .ref t0, .ty "list", .type "list", .type "list", true, rfl, .ty "list", .base (.lst ht1), kit_ty (by decide +kernel), true, rfl, iteT ?_⟩
      refine ⟨_, rfl, p, _, _, .ref t0, rfl, rfl, SqL.of upd_same, atI_nat (j := 0) rfl, .inl ⟨rfl, _, SqL.of ht1⟩, t0, _, _, rfl, rfl, ht1, Nat.lt_of_le_of_lt l2 (by decide), ?_⟩
      exact q
end
end Ka

set_option Elab.async false
set_option linter.all false
set_option maxRecDepth 100000
set_option maxHeartbeats 4000000
namespace Ka
open PySem PySem.Spec PyProof.Rows L2
abbrev sThings : Stmt := tp 89
theorem scThings : FnScope ["box"] ["box"] (defScope sThings) := ⟨rfl, rfl, rfl, by decide +kernel, rfl, by decide +kernel, by decide +kernel⟩
def offL (S : List Addr) (H : Hp) : Hp := fun c => if c ∈ S then none else H c
theorem offL_out {S : List Addr} {H : Hp} {c : Addr} (h : c ∉ S) : offL S H c = H c := if_neg h
theorem offL_some {S : List Addr} {H : Hp} {c : Addr} {u : HO} (h : offL S H c = some u) : c ∉ S ∧ H c = some u := by
  unfold offL at h
  split at h
  · cases h
  · rename_i n
    exact ⟨n, h⟩
theorem offL_sub {S : List Addr} {H : Hp} : Same (offL S H) H := fun c u h => (offL_some h).2
/-- all but b and o stays -/
structure Gw (b o : Addr) (H H' : Hp) : Prop where
  keep : ∀ c u, c ≠ b → c ≠ o → H c = some u → H' c = some u
  gone : ∀ c, H' c = none → H c = none
theorem Gw.trans {b o : Addr} {H H1 H2 : Hp} (x : Gw b o H H1) (y : Gw b o H1 H2) : Gw b o H H2 := ⟨fun c u n m h => y.keep c u n m (x.keep c u n m h), fun c h => x.gone c (y.gone c h)⟩
theorem BoxTo.gw {b o : Addr} {H H' : Hp} (t : BoxTo b H H') : Gw b o H H' := ⟨fun c u n _ h => t.keep n h, fun c h => t.gone h⟩
theorem gw_same {b o : Addr} {H H' : Hp} (s : Same H H') : Gw b o H H' := ⟨fun c u _ _ h => s c u h, fun c h => Evl.fresh_back s h⟩
theorem gw_new {b o p : Addr} {H : Hp} {u : HO} (h : H p = none) : Gw b o H (upd H p u) := gw_same (same_new h)
theorem gw_upd {b o : Addr} {H : Hp} {u w : HO} (h : H o = some w) : Gw b o H (upd H o u) := ⟨fun c x _ m e => by rw [upd_ne m]; exact e, fun c e => by
  by_cases z : c = o
  · rw [z, upd_same] at e
    cases e
  · rw [upd_ne z] at e
    exact e⟩
theorem nw_offL {b o : Addr} {S : List Addr} {Hs He Hf : Hp} (g : Gw b o He Hf) (hb : b ∈ S) (ho : o ∈ S) (h : ∀ c ∈ S, Hs c ≠ none ∨ He c = none) : Same (nw Hs He) (offL S Hf) := fun c u e => by
  obtain ⟨h1, h2⟩ := nw_some e
  have n : c ∉ S := fun hc => by
    rcases h c hc with q | q
    · exact q h1
    · rw [h2] at q
      cases q
  rw [offL_out n]
  exact g.keep c u (fun z => n (z ▸ hb)) (fun z => n (z ▸ ho)) h2
/-- the three things that are passed and changed -/
structure Thg (n : Nat) (b one other oa third t0 : Addr) (H : Hp) : Prop where
  box : BoxAt H b
  nd : [b, one, other, oa, third, t0].Nodup
  xOne : ∃ v r, H one = some (.lst (v :: r)) ∧ NoList (offL [b, one, other, oa, third, t0] H) v ∧ r.length ≤ n ∧ ∀ x ∈ v :: r, EqD 5 (offL [b, one, other, oa, third, t0] H) x x
  xOther : ∃ i, H other = some (.dK [(Sum.inr "a", .ref oa), (Sum.inr "b", .int i)]) ∨ ∃ s, Sc s ∧ H other = some (.dK [(Sum.inr "a", .ref oa), (Sum.inr "b", .int i), (Sum.inr "more", s)])
  xOa : ∃ ys, H oa = some (.lst ys) ∧ ys.length ≤ n ∧ ∀ x ∈ ys, EqD 5 (offL [b, one, other, oa, third, t0] H) x x
  xThird : ∃ r, H third = some (.lst (.ref t0 :: r)) ∧ r.length ≤ n ∧ ∀ x ∈ r, EqD 5 (offL [b, one, other, oa, third, t0] H) x x
  xT0 : ∃ zs, H t0 = some (.lst zs) ∧ zs.length ≤ n ∧ ∀ x ∈ zs, EqD 5 (offL [b, one, other, oa, third, t0] H) x x
def spThings : Sp := fun vs H Q _ => ∃ b, vs = [.ref b] ∧ BoxAt H b ∧ ∀ t one other oa third t0 H', BoxTo b H H' → H t = none → H one = none → H other = none → H third = none → H oa = none → H t0 = none → H' t = some (.tup [.ref one, .ref other, .ref third]) → t ∉ [b, one, other, oa, third, t0] → Thg 3 b one other oa third t0 H' → Q (.ref t) H'
section
variable {P : Program} {w : World} {K : PySem.W.Frag} {mg : Str → Option Value} {base : Heap}
theorem ok_things {f fT fV : Addr} {fd fdT fdV : FuncData} (D : FnP K "_law_things" sThings f fd) (T : Free mg) (BT : Has K mg "_law_take" fT fdT ["box", "many"]) (FT : FnOk P w K mg base CX0 1 fT fdT ["box", "many"] spTake)
    (BV : Has K mg "_law_value" fV fdV ["box", "deep"]) (FV : FnOk P w K mg base CX0 3 fV fdV ["box", "deep"] (spV 2)) : FnOk P w K mg base CX0 4 f fd ["box"] spThings := by
  refine D.ok scThings (fun vs H Q E h => ?_) (fun cdv A outer s H vs Q E hr h => ?_)
  · obtain ⟨b, rfl, _⟩ := h
    rfl
  have h1 : Room 1 _ := hr.mono (by decide)
  have h3 : Room 3 _ := hr
  obtain ⟨b, rfl, hb, k⟩ := h
  refine ⟨_, pss_one (ps_ret (pe_tup (pa_cons (pe_lst (pa_cons (pe_callS FV h3 (by rfl) BV.g BV.kp BV.b (E := fun _ _ _ _ => False) (fun _ _ _ _ _ _ _ h => h.elim) (pa_cons (pv 0) (pa_cons pe_int pa_nil))) (pa_cons (pe_lst (pa_cons (pe_callS FT h1 (by rfl) BT.g BT.kp BT.b (E := fun _ _ _ _ => False) (fun _ _ _ _ _ _ _ h => h.elim) (pa_cons (pv 0) (pa_cons pe_int pa_nil))) pa_nil)) pa_nil)))
      (pa_cons (pe_disp (pps_cons pe_str (pe_lst (pa_cons (pe_callS FV h3 (by rfl) BV.g BV.kp BV.b (E := fun _ _ _ _ => False) (fun _ _ _ _ _ _ _ h => h.elim) (pa_cons (pv 0) (pa_cons pe_int pa_nil))) pa_nil)) (pps_cons pe_str (pe_callS FT h1 (by rfl) BT.g BT.kp BT.b (E := fun _ _ _ _ => False) (fun _ _ _ _ _ _ _ h => h.elim) (pa_cons (pv 0) (pa_cons pe_int pa_nil))) pps_nil)) rfl rfl (by simp) (by decide))
      (pa_cons (pe_lst (pa_cons (pe_lst pa_nil) (pa_cons (pe_callS FV h3 (by rfl) BV.g BV.kp BV.b (E := fun _ _ _ _ => False) (fun _ _ _ _ _ _ _ h => h.elim) (pa_cons (pv 0) (pa_cons pe_int pa_nil))) pa_nil))) pa_nil))))), ?_⟩
  refine ⟨_, rfl, b, 1, rfl, by decide, hb, fun v1 H1 t1 V1 => ?_⟩
  refine ⟨_, rfl, b, 1000, rfl, t1.1, by decide, by decide, fun i1 H2 _ _ t2 => ⟨(by show 1 ≤ sizeLine; decide), fun o1 a3 => ⟨(by show 2 ≤ sizeLine; decide), fun one a4 => fun other a5 => ?_⟩⟩⟩
  have s3 : Same H2 (upd H2 o1 (.lst [.int i1])) := same_new a3
  have s4 := s3.trans (same_new (o := .lst [v1, .ref o1]) a4)
  have s5 := s4.trans (same_new (o := .dK []) a5)
  have b5 : BoxAt (upd (upd (upd H2 o1 (.lst [.int i1])) one (.lst [v1, .ref o1])) other (.dK [])) b := t2.1.same s5
  have eO1 : upd (upd (upd H2 o1 (.lst [.int i1])) one (.lst [v1, .ref o1])) other (.dK []) o1 = some (.lst [.int i1]) := same_new a5 _ _ (same_new a4 _ _ upd_same)
  have eOne : upd (upd (upd H2 o1 (.lst [.int i1])) one (.lst [v1, .ref o1])) other (.dK []) one = some (.lst [v1, .ref o1]) := same_new a5 _ _ upd_same
  have eOt : upd (upd (upd H2 o1 (.lst [.int i1])) one (.lst [v1, .ref o1])) other (.dK []) other = some (.dK []) := upd_same
  have a4' : H2 one = none := Evl.fresh_back s3 a4
  have a5' : H2 other = none := Evl.fresh_back s4 a5
  have n1 : one ≠ o1 := fun z => by rw [z, upd_same] at a4; cases a4
  have n2 : other ≠ one := fun z => by rw [z, upd_same] at a5; cases a5
  have n3 : other ≠ o1 := fun z => by
    have h := same_new a4 (o := .lst [v1, .ref o1]) _ _ (upd_same (H := H2) (a := o1) (o := .lst [.int i1]))
    have a := a5
    rw [z, h] at a
    cases a
  generalize upd (upd (upd H2 o1 (.lst [.int i1])) one (.lst [v1, .ref o1])) other (.dK []) = H5 at s5 b5 eO1 eOne eOt ⊢
  refine ⟨_, rfl, b, 0, rfl, by decide, b5, fun v2 H6 t6 V2 => ⟨(by show 1 ≤ sizeLine; decide), fun oa a7 => ?_⟩⟩
  refine ⟨_, rfl, b, 1000, rfl, t6.1.same (same_new a7), by decide, by decide, fun i2 H8 _ _ t8 => ?_⟩
  have tA : BoxTo b H5 H8 := (t6.trans (.of t6.1 (same_new a7))).trans t8
  have ob : other ≠ b := t2.1.ne a5'
  have e8 : H8 other = some (.dK []) := tA.keep ob eOt
  refine ⟨e8, [(Sum.inr "a", .ref oa), (Sum.inr "b", .int i2)], rfl, by show 2 ≤ 15; decide, ?_⟩
  refine ⟨Nat.zero_le _, fun t0 a10 => ?_⟩
  have o7 : oa ≠ other := fun z => by
    have h := t6.keep ob eOt
    rw [z, h] at a7
    cases a7
  have a7' : H5 oa = none := t6.gone a7
  have b8 : BoxAt H8 b := t8.1
  have fOa : upd H8 other (.dK (mergeK [] [(Sum.inr "a", .ref oa), (Sum.inr "b", .int i2)])) oa = some (.lst [v2]) := by
    rw [upd_ne o7]
    exact t8.keep (t6.1.ne a7) upd_same
  have fOt : upd H8 other (.dK (mergeK [] [(Sum.inr "a", .ref oa), (Sum.inr "b", .int i2)])) other = some (.dK [(Sum.inr "a", .ref oa), (Sum.inr "b", .int i2)]) := upd_same
  have b9 : BoxAt (upd H8 other (.dK (mergeK [] [(Sum.inr "a", .ref oa), (Sum.inr "b", .int i2)]))) b := by
    obtain ⟨x1, x2, x3, x4, x5, x6⟩ := b8
    exact ⟨x1, x2, x3, x4, by rw [upd_ne (Ne.symm ob)]; exact x5, x6⟩
  have g9 : Gw b other H8 (upd H8 other (.dK (mergeK [] [(Sum.inr "a", .ref oa), (Sum.inr "b", .int i2)]))) := gw_upd e8
  generalize upd H8 other (.dK (mergeK [] [(Sum.inr "a", .ref oa), (Sum.inr "b", .int i2)])) = H9 at fOa fOt b9 g9 a10 ⊢
  refine ⟨_, rfl, b, 0, rfl, by decide, b9.same (same_new a10), fun v3 H11 t11 V3 => ⟨(by show 2 ≤ sizeLine; decide), fun third a12 => ⟨(by show 3 ≤ sizeLine; decide), fun t a13 => ?_⟩⟩⟩
  -- what stays
  have g5 : Gw b other H2 H5 := gw_same s5
  have g6 : Gw b other H5 H6 := t6.gw
  have g67 : Gw b other H6 H8 := (gw_new a7).trans t8.gw
  have g10 : Gw b other H9 (upd H9 t0 (.lst [])) := gw_new a10
  have gE : Gw b other H11 (upd (upd H11 third (.lst [.ref t0, v3])) t (.tup [.ref one, .ref other, .ref third])) := (gw_new a12).trans (gw_new a13)
  have g11 : Gw b other (upd H9 t0 (.lst [])) H11 := t11.gw
  have gT : Gw b other H9 (upd (upd H11 third (.lst [.ref t0, v3])) t (.tup [.ref one, .ref other, .ref third])) := (g10.trans g11).trans gE
  have z3 : H11 third = none := a12
  have z3a : upd H9 t0 (.lst []) third = none := t11.gone z3
  have z3b : H9 third = none := g10.gone _ z3a
  have z13 : H11 t = none := Evl.fresh_back (same_new a12) a13
  have z13b : H9 t = none := g10.gone _ (t11.gone z13)
  have z10 : H8 t0 = none := g9.gone _ a10
  have z10b : H6 t0 = none := g67.gone _ z10
  have z3c : H6 third = none := g67.gone _ (g9.gone _ z3b)
  have gA : Gw b other H H2 := t1.gw.trans t2.gw
  have kO : one ≠ b := t2.1.ne a4'
  have k7 : oa ≠ b := t6.1.ne a7
  have k3 : third ≠ b := b9.ne z3b
  have k0 : t0 ≠ b := b9.ne a10
  have kt : t ≠ b := b9.ne z13b
  have e9One : H9 one = some (.lst [v1, .ref o1]) := g9.keep _ _ kO (Ne.symm n2) (g67.keep _ _ kO (Ne.symm n2) (g6.keep _ _ kO (Ne.symm n2) eOne))
  have c1 : one ≠ oa := fun z => by rw [← z, eOne] at a7'; cases a7'
  have c2 : one ≠ t0 := fun z => by rw [← z, e9One] at a10; cases a10
  have c3 : one ≠ third := fun z => by rw [← z, e9One] at z3b; cases z3b
  have c4 : other ≠ t0 := fun z => by rw [← z, fOt] at a10; cases a10
  have c5 : other ≠ third := fun z => by rw [← z, fOt] at z3b; cases z3b
  have c6 : oa ≠ t0 := fun z => by rw [← z, fOa] at a10; cases a10
  have c7 : oa ≠ third := fun z => by rw [← z, fOa] at z3b; cases z3b
  have c8 : third ≠ t0 := fun z => by rw [z, upd_same] at z3a; cases z3a
  have c9 : one ≠ t := fun z => by rw [← z, e9One] at z13b; cases z13b
  have c10 : other ≠ t := fun z => by rw [← z, fOt] at z13b; cases z13b
  have c11 : oa ≠ t := fun z => by rw [← z, fOa] at z13b; cases z13b
  have c12 : third ≠ t := fun z => by rw [← z, upd_same] at a13; cases a13
  have z13a : upd H9 t0 (.lst []) t = none := t11.gone z13
  have c13 : t0 ≠ t := fun z => by rw [← z, upd_same] at z13a; cases z13a
  have e8o1 : H9 o1 = some (.lst [.int i1]) := g9.keep _ _ (t2.1.ne a3) (Ne.symm n3) (g67.keep _ _ (t2.1.ne a3) (Ne.symm n3) (g6.keep _ _ (t2.1.ne a3) (Ne.symm n3) eO1))
  have ko1 : o1 ≠ b := t2.1.ne a3
  have d1 : o1 ≠ oa := fun z => by rw [← z, eO1] at a7'; cases a7'
  have d2 : o1 ≠ t0 := fun z => by rw [← z, e8o1] at a10; cases a10
  have d3 : o1 ≠ third := fun z => by rw [← z, e8o1] at z3b; cases z3b
  have fT0 : upd (upd H11 third (.lst [.ref t0, v3])) t (.tup [.ref one, .ref other, .ref third]) t0 = some (.lst []) := gE.keep _ _ k0 (Ne.symm c4) (t11.keep k0 upd_same)
  have fT3 : upd (upd H11 third (.lst [.ref t0, v3])) t (.tup [.ref one, .ref other, .ref third]) third = some (.lst [.ref t0, v3]) := same_new a13 _ _ upd_same
  have fT : upd (upd H11 third (.lst [.ref t0, v3])) t (.tup [.ref one, .ref other, .ref third]) t = some (.tup [.ref one, .ref other, .ref third]) := upd_same
  have fOther : upd (upd H11 third (.lst [.ref t0, v3])) t (.tup [.ref one, .ref other, .ref third]) other = some (.dK [(Sum.inr "a", .ref oa), (Sum.inr "b", .int i2)]) :=
    same_new a13 _ _ (same_new a12 _ _ (t11.keep ob (same_new a10 _ _ fOt)))
  have bF : BoxAt (upd (upd H11 third (.lst [.ref t0, v3])) t (.tup [.ref one, .ref other, .ref third])) b := t11.1.same ((same_new a12).trans (same_new a13))
  generalize upd (upd H11 third (.lst [.ref t0, v3])) t (.tup [.ref one, .ref other, .ref third]) = Hf at gE gT fT0 fT3 fT fOther bF ⊢
  have fOne : Hf one = some (.lst [v1, .ref o1]) := gT.keep _ _ kO (Ne.symm n2) e9One
  have fo1 : Hf o1 = some (.lst [.int i1]) := gT.keep _ _ ko1 (Ne.symm n3) e8o1
  have fOa' : Hf oa = some (.lst [v2]) := gT.keep _ _ k7 o7 fOa
  have gAll : Gw b other H Hf := (((gA.trans g5).trans g6).trans g67).trans (g9.trans gT)
  have bmem : b ∈ [b, one, other, oa, third, t0] := List.mem_cons_self
  have omem : other ∈ [b, one, other, oa, third, t0] := by simp
  have bs : ∀ {Hx : Hp}, BoxAt Hx b → Hx b ≠ none := fun h z => by
    obtain ⟨x1, x2, x3, x4, x5, x6⟩ := h
    rw [x5] at z
    cases z
  have s1 : Same (nw H H1) (offL [b, one, other, oa, third, t0] Hf) := by
    refine nw_offL (o := other) ((((t2.gw.trans g5).trans g6).trans g67).trans (g9.trans gT)) bmem omem fun c hc => ?_
    simp only [List.mem_cons, List.not_mem_nil, or_false] at hc
    rcases hc with rfl | rfl | rfl | rfl | rfl | rfl
    · exact .inl (bs hb)
    · exact .inr (t2.gone a4')
    · exact .inr (t2.gone a5')
    · exact .inr (t2.gone (g5.gone _ a7'))
    · exact .inr (t2.gone (g5.gone _ (g6.gone _ z3c)))
    · exact .inr (t2.gone (g5.gone _ (g6.gone _ z10b)))
  have s2 : Same (nw H5 H6) (offL [b, one, other, oa, third, t0] Hf) := by
    refine nw_offL (o := other) (g67.trans (g9.trans gT)) bmem omem fun c hc => ?_
    simp only [List.mem_cons, List.not_mem_nil, or_false] at hc
    rcases hc with rfl | rfl | rfl | rfl | rfl | rfl
    · exact .inl (bs b5)
    · exact .inl (by rw [eOne]; exact fun z => by cases z)
    · exact .inl (by rw [eOt]; exact fun z => by cases z)
    · exact .inr a7
    · exact .inr z3c
    · exact .inr z10b
  have s3' : Same (nw (upd H9 t0 (.lst [])) H11) (offL [b, one, other, oa, third, t0] Hf) := by
    refine nw_offL (o := other) gE bmem omem fun c hc => ?_
    simp only [List.mem_cons, List.not_mem_nil, or_false] at hc
    have so : ∀ {c : Addr} {u : HO}, H9 c = some u → upd H9 t0 (.lst []) c ≠ none := fun e z => by
      have := same_new a10 (o := .lst []) _ _ e
      rw [z] at this
      cases this
    rcases hc with rfl | rfl | rfl | rfl | rfl | rfl
    · exact .inl (bs (b9.same (same_new a10)))
    · exact .inl (so e9One)
    · exact .inl (so fOt)
    · exact .inl (so fOa)
    · exact .inr z3
    · exact .inl (fun z => by rw [upd_same] at z; cases z)
  have gOther : H other = none := gA.gone _ a5'
  refine k t one other oa third t0 Hf ⟨bF, fun c u e => ?_⟩ (gA.gone _ (g5.gone _ (g6.gone _ (g67.gone _ (g9.gone _ z13b))))) (gA.gone _ a4') gOther (gA.gone _ (g5.gone _ (g6.gone _ z3c))) (gA.gone _ (g5.gone _ a7')) (gA.gone _ (g5.gone _ (g6.gone _ z10b))) fT (by
    simp only [List.mem_cons, List.not_mem_nil, or_false, not_or]
    exact ⟨kt, Ne.symm c9, Ne.symm c10, Ne.symm c11, Ne.symm c12, Ne.symm c13⟩) ⟨bF, ?_, ?_, ⟨i2, .inl fOther⟩, ?_, ?_, ?_⟩
  · obtain ⟨h1, h2⟩ := of_off e
    rw [off_ne h1]
    exact gAll.keep _ _ h1 (ne_of_none h2 gOther) h2
  · simp only [List.nodup_cons, List.mem_cons, List.not_mem_nil, or_false, not_or, List.nodup_nil, not_false_eq_true, and_true]
    exact ⟨⟨Ne.symm kO, Ne.symm ob, Ne.symm k7, Ne.symm k3, Ne.symm k0⟩, ⟨Ne.symm n2, c1, c3, c2⟩, ⟨Ne.symm o7, c5, c4⟩, ⟨c7, c6⟩, c8⟩
  · refine ⟨v1, [.ref o1], fOne, ?_, by show 1 ≤ 3; decide, fun x hx => ?_⟩
    · rcases V1.2 with q | ⟨p, xs, e, q⟩
      · exact .inl q
      · exact .inr ⟨p, xs, e, s1 _ _ q⟩
    · simp only [List.mem_cons, List.not_mem_nil, or_false] at hx
      rcases hx with rfl | rfl
      · exact V1.1.mono (RdLe.of s1)
      · refine eqd_lst (n := 4) (xs := [.int i1]) ?_ (by show 1 ≤ 1000; decide) fun v hv => ?_
        · rw [offL_out (by
            simp only [List.mem_cons, List.not_mem_nil, or_false, not_or]
            exact ⟨ko1, Ne.symm n1, Ne.symm n3, d1, d3, d2⟩)]
          exact fo1
        · rw [List.mem_singleton.mp hv]
          exact eqd_sc True.intro
  · refine ⟨[v2], fOa', by show 1 ≤ 3; decide, fun x hx => ?_⟩
    rw [List.mem_singleton.mp hx]
    exact (V2.1.mono (RdLe.of s2)).up (by decide)
  · refine ⟨[v3], fT3, by show 1 ≤ 3; decide, fun x hx => ?_⟩
    rw [List.mem_singleton.mp hx]
    exact (V3.1.mono (RdLe.of s3')).up (by decide)
  · exact ⟨[], fT0, by show 0 ≤ 3; decide, fun x hx => absurd hx (by simp)⟩
end
end Ka

set_option Elab.async false
set_option linter.all false
set_option maxRecDepth 100000
set_option maxHeartbeats 4000000
namespace Ka
open PySem PySem.Spec PyProof.Rows L2 Xc
/-- all that the walk asks of the written part -/
structure Fct (P : Program) (w : World) (K : PySem.W.Frag) (mg : Str → Option Value) (base : Heap) : Prop where
  T : Free mg
  E : AllE P w K mg base
  G : GlF K mg
  cl : ∀ C ∈ csAll K, Ecl K (He.ga K "PreferenceError") C
  nd : (csAll K).Nodup
  np : He.ga K "PreferenceError" ∉ csAll K
  gP : mg "PreferenceError" = some (.ref (He.ga K "PreferenceError"))
  cP : (PySem.W.clsIn K (He.ga K "PreferenceError")).isSome = true
  tP : PySem.W.typeIn K (.ref (He.ga K "PreferenceError")) = some (.type "type")
  sP : PySem.W.subIn K (.ref (He.ga K "PreferenceError")) (.type "BaseException") = some true
  xR : PySem.W.excIn K (He.ga K "NothingToRedo") HandSPX.veTail "ValueError.__new__" = true
  xU : PySem.W.excIn K (He.ga K "NothingToUndo") HandSPX.veTail "ValueError.__new__" = true
  kR : PySem.W.keepIn K (.ref (He.ga K "NothingToRedo")) = true
  kU : PySem.W.keepIn K (.ref (He.ga K "NothingToUndo")) = true
theorem Fct.pl {P : Program} {w : World} {K : PySem.W.Frag} {mg : Str → Option Value} {base : Heap} (X : Fct P w K mg base) : PlF K := fun j C hC i D hD => by
  rw [kit_ecl (X.cl D (List.mem_of_getElem? hD)) (X.cl C (List.mem_of_getElem? hC)) (fun z => X.np (z ▸ List.mem_of_getElem? hC))]
  congr 1
  by_cases e : i = j
  · subst e
    rw [hC] at hD
    cases hD
    rw [decide_eq_true rfl, decide_eq_true rfl]
  · rw [decide_eq_false e, decide_eq_false]
    intro z
    subst z
    have h1 := List.getElem?_eq_some_iff.mp hC
    have h2 := List.getElem?_eq_some_iff.mp hD
    obtain ⟨l1, q1⟩ := h1
    obtain ⟨l2, q2⟩ := h2
    have pw := List.pairwise_iff_getElem.mp X.nd
    rcases Nat.lt_or_gt_of_ne e with g | g
    · exact pw i j l2 l1 g (q2.trans q1.symm)
    · exact pw j i l1 l2 g (q1.trans q2.symm)
abbrev sCR : Stmt := tp 91
abbrev nCR : List Str := ["box", "thing", "other", "made", "one", "k"]
theorem scCR : FnScope nCR ["box"] (defScope sCR) := ⟨rfl, rfl, rfl, by decide +kernel, rfl, by decide +kernel, by decide +kernel⟩
/-- a test of the law's: on a box, True, the box goes on -/
def spRight : Sp := fun vs H Q _ => ∃ b, vs = [.ref b] ∧ BoxAt H b ∧ ∀ H', BoxTo b H H' → Q (.bl true) H'
theorem made_is {b : Addr} {H0 H : Hp} (hb : BoxAt H0 b) : ∀ {sp : ESpec} {vs : List V}, Made H0 H sp vs → Paired (IsAt (off b H)) (sp.map (·.1)) vs
  | _, _, .nil => .nil
  | _, _, .cons a r => by
    obtain ⟨e, d, h1, h2, h3, h4, h5⟩ := a
    exact .cons ⟨e, some d, h1, by rw [off_ne (hb.ne h2)]; exact h4, fun dd hd => ⟨_, by cases hd; rw [off_ne (hb.ne h3)]; exact h5⟩⟩ (made_is hb r)
theorem is_mono {Cs : List Addr} {us : List V} {H H' : Hp} (s : Same H H') (h : Paired (IsAt H) Cs us) : Paired (IsAt H') Cs us := Paired.mono (fun _ _ h => h.mono s) h
theorem nil_ncmp {K : PySem.W.Frag} {te : TE} {σ : L2.St} {H : Hp} {Q : VK} (h : Evl.EvL te σ H []) (q : ∀ H', Same H H' → Q (.bl false) H') : tOp (rNeD K) te (tLst tNil) σ H Q := by
  refine h H (Evl.Ex.refl H) _ fun p H2 hp e2 h2 => ⟨Nat.zero_le _, fun p2 hp2 => ?_⟩
  refine ⟨.list [], .list [], .lst (SqL.of (by rw [upd_ne (ne_of_none h2 hp2)]; exact h2)) .nil, .lst (SqL.of upd_same) .nil, rfl, rfl, ?_⟩
  exact q _ (Same.trans e2 (same_new hp2))
/-- a place's turns told twice are equal -/
theorem eq_places {H : Hp} {p q : Addr} {us vs : List V} {n : Nat} (hp : H p = some (.lst us)) (hq : H q = some (.lst vs)) (h1 : Paired (RPl H) (List.range' 0 n) us) (h2 : Paired (RPl H) (List.range' 0 n) vs) (hn : n ≤ 1000) : EqD 2 H (.ref p) (.ref q) := by
  have l1 : (List.range' 0 n).length = us.length := Paired.length h1
  have l2 : (List.range' 0 n).length = vs.length := Paired.length h2
  rw [List.length_range'] at l1 l2
  refine .inr (.inl ⟨p, q, us, vs, rfl, rfl, .inl ⟨.inl hp, .inl hq⟩, by omega, by omega, fun i x y hx hy => ?_⟩)
  have hi := (List.getElem?_eq_some_iff.mp hx).1
  have hr : (List.range' 0 n)[i]? = some i := by
    rw [List.getElem?_range' (by omega)]
    simp
  obtain ⟨a, rfl, ha⟩ := rat h1 hr hx
  obtain ⟨c, rfl, hc⟩ := rat h2 hr hy
  refine .inr (.inl ⟨a, c, _, _, rfl, rfl, .inl ⟨.inl ha, .inl hc⟩, rfl, by show 1 ≤ 1000; decide, fun j x y hx hy => ?_⟩)
  rw [hx] at hy
  cases hy
  have : x = .int (i : Int) := List.mem_singleton.mp (List.mem_of_getElem? hx)
  subst this
  exact ⟨rfl, True.intro⟩
/-- [[k] for k in range(n)] -/
abbrev tSing (j : Nat) (ta : TA) : TE := tLc (iRng1 ta) (gName j) tYes (tLst (tCons (tVar j) tNil)) [j]
theorem rg_snoc {H : Hp} {i : Nat} {us : List V} {v : V} (h : Paired (RPl H) (List.range' 0 i) us) (hv : RPl H i v) : Paired (RPl H) (List.range' 0 (i + 1)) (us ++ [v]) := by
  rw [List.range'_concat]
  have : 0 + 1 * i = i := by omega
  rw [this]
  exact rappend h (.cons hv .nil)
theorem sing_l {σ : L2.St} {H : Hp} {Q : VK} {j n : Nat} (hn : n ≤ 1000) (hj : j < σ.length) (hw : ∀ x, wipe ((wipe σ [j]).set j (some x)) [j] = wipe σ [j]) (k : ∀ p us H', H p = none → Same H H' → H' p = some (.lst us) → Paired (RPl H') (List.range' 0 n) us → Q (.ref p) H') :
    tSing j (tCons (tC (.int (n : Int))) tNil) σ H Q := by
  refine ⟨(n : Int), rfl, by omega, by omega, fun D hD => ?_⟩
  refine lc_range (lo := 0) (n := ((n : Nat) : Int).toNat) (fun i H' => Same H H' ∧ ∃ acc, H' D = some (.lst acc) ∧ Paired (RPl H') (List.range' 0 i) acc) ⟨same_new hD, [], upd_same, .nil⟩ (fun i H' hi w => ?_) (fun H' w => ?_)
  · obtain ⟨s, acc, hacc, hp⟩ := w
    refine ⟨hw _, ?_⟩
    have hl : (wipe σ [j]).length = σ.length := wipe_length _ _
    refine ⟨_, List.getElem?_set_self (by rw [hl]; exact hj), (by show 1 ≤ sizeLine; decide), fun p hp2 => ?_⟩
    have hz : acc.length ≤ 1000 := by
      have z : (List.range' 0 i).length = acc.length := Paired.length hp
      rw [List.length_range'] at z
      omega
    have nD : D ≠ p := ne_of_none hacc hp2
    refine ⟨acc, by rw [upd_ne nD]; exact hacc, Nat.lt_of_le_of_lt hz (by decide), ?_⟩
    have e0 : (0 : Int) + (i : Int) = (i : Int) := Int.zero_add _
    have s1 : Same H' (upd H' p (.lst [.int ((0 : Int) + (i : Int))])) := same_new hp2
    have sD : Same H (upd (upd H' p (.lst [.int ((0 : Int) + (i : Int))])) D (.lst (acc ++ [.ref p]))) := fun c u e => by
      rw [upd_ne (ne_of_none e hD)]
      exact s1 _ _ (s _ _ e)
    refine ⟨sD, acc ++ [.ref p], upd_same, rg_snoc ?_ ⟨p, rfl, by rw [upd_ne (Ne.symm nD), upd_same, e0]⟩⟩
    refine Paired.mono (fun a v h => ?_) hp
    obtain ⟨x, rfl, hx⟩ := h
    refine ⟨x, rfl, ?_⟩
    by_cases e : x = D
    · rw [e, hacc] at hx
      injection hx with hx
      injection hx with hx
      have ll : acc.length = 1 := by rw [hx]; rfl
      have z : (List.range' 0 i).length = acc.length := Paired.length hp
      rw [hx] at hp
      exfalso
      have l2 : (List.range' 0 i).length = 1 := Paired.length hp
      rw [List.length_range'] at l2
      subst l2
      cases hp with
      | cons h _ =>
        obtain ⟨y, e2, _⟩ := h
        cases e2
    · rw [upd_ne e]
      exact s1 _ _ hx
  · obtain ⟨s, acc, hacc, hp⟩ := w
    exact k D acc H' hD s hacc hp
section
variable {P : Program} {w : World} {K : PySem.W.Frag} {mg : Str → Option Value} {base : Heap}
/-- the defs that the tests call -/
structure Dfs (P : Program) (w : World) (K : PySem.W.Frag) (mg : Str → Option Value) (base : Heap) : Prop where
  take : ∃ f fd, FnOk P w K mg base CX0 1 f fd ["box", "many"] spTake ∧ Has K mg "_law_take" f fd ["box", "many"]
  val : ∃ f fd, FnOk P w K mg base CX0 3 f fd ["box", "deep"] (spV 2) ∧ Has K mg "_law_value" f fd ["box", "deep"]
  things : ∃ f fd, FnOk P w K mg base CX0 4 f fd ["box"] spThings ∧ Has K mg "_law_things" f fd ["box"]
  grown : ∃ f fd, FnOk P w K mg base CX0 1 f fd ["thing", "number"] (spGrown K) ∧ Has K mg "_law_grown" f fd ["thing", "number"]
  same : ∃ f fd, (∀ n, FnOk P w K mg base CX0 n f fd ["told", "due"] (spS n)) ∧ (∀ n, L2H.FnH P w K mg base CX0 n f fd ["told", "due"] (spL n)) ∧ Has K mg "_law_same" f fd ["told", "due"]
  place : ∃ f fd, FnOk P w K mg base CX0 3 f fd ["thing"] (spMade fun vs => match vs with | [thing] => some (spPlace K thing) | _ => none) ∧ Has K mg "_law_by_place" f fd ["thing"]
  name : ∃ f fd, FnOk P w K mg base CX0 3 f fd ["thing"] (spMade fun vs => match vs with | [thing] => some (spName K thing) | _ => none) ∧ Has K mg "_law_by_name" f fd ["thing"]
  ones : ∃ f fd, FnOk P w K mg base CX0 3 f fd ["thing", "named"] (spMade fun vs => match vs with | [thing, .bl _] => some (spOnes K thing) | _ => none) ∧ Has K mg "_law_ones" f fd ["thing", "named"]
  twos : ∃ f fd, FnOk P w K mg base CX0 3 f fd ["one", "other", "third", "way"] (spMade fun vs => match vs with | [one, other, third, .int _] => some (spTwos K one other third) | _ => none) ∧ Has K mg "_law_twos" f fd ["one", "other", "third", "way"]
  kones : ∃ f fd, FnOk P w K mg base CX0 1 f fd ["made"] (spKO K) ∧ Has K mg "_law_kept_ones" f fd ["made"]
  ktwos : ∃ f fd, FnOk P w K mg base CX0 1 f fd ["made"] (spKT K) ∧ Has K mg "_law_kept_twos" f fd ["made"]
  low : ∃ f fd, FnOk P w K mg base CX0 1 f fd ["made"] (spPLow K) ∧ Has K mg "_law_places_low" f fd ["made"]
  high : ∃ f fd, FnOk P w K mg base CX0 1 f fd ["made"] (spPHigh K) ∧ Has K mg "_law_places_high" f fd ["made"]
abbrev E00 : L2.St → XK := fun _ _ _ _ => False
theorem pas0 {X : Cx} : ∀ σ, PassesAt CX0 X σ (E00 σ) := fun _ _ _ _ _ _ _ h => h.elim
theorem ok_CR {f : Addr} {fd : FuncData} (D : FnP K "_law_classes_right" sCR f fd) (X : Fct P w K mg base) (Y : Dfs P w K mg base) : FnOk P w K mg base CX0 4 f fd ["box"] spRight := by
  obtain ⟨fT, dT, FT, BT⟩ := Y.take
  obtain ⟨fV, dV, FV, BV⟩ := Y.val
  obtain ⟨fS, dS, FS, _, BS⟩ := Y.same
  obtain ⟨fP, dP, FP, BP⟩ := Y.place
  obtain ⟨fO, dO, FO, BO⟩ := Y.ones
  obtain ⟨fW, dW, FW, BW⟩ := Y.twos
  obtain ⟨fL, dL, FL, BL⟩ := Y.low
  obtain ⟨fH, dH, FH, BH⟩ := Y.high
  have T := X.T
  refine D.ok scCR (fun vs H Q E h => ?_) (fun cdv A outer s H vs Q E hr h => ?_)
  · obtain ⟨b, rfl, _⟩ := h
    rfl
  have h1 : Room 1 _ := hr.mono (by decide)
  have h3 : Room 3 _ := hr
  have hun := hr.units
  obtain ⟨b, rfl, hb, k⟩ := h
  refine ⟨_, pss_cons (ps_par (i := 1) (j := 2) rfl scCR.nd rfl rfl (by decide) rfl rfl (pa_cons (pe_callS FV h3 (by rfl) BV.g BV.kp BV.b (E := E00) pas0 (pa_cons (pv 0) (pa_cons pe_int pa_nil))) (pa_cons (pe_callS FV h3 (by rfl) BV.g BV.kp BV.b (E := E00) pas0 (pa_cons (pv 0) (pa_cons pe_int pa_nil))) pa_nil)) (by rfl))
    (pss_cons (ps_set (i := 3) scCR.nd rfl (Or.inl rfl) (pe_op op_cat (pe_op op_cat (pe_op op_cat (pe_callS FP h3 (by rfl) BP.g BP.kp BP.b (E := E00) pas0 (pa_cons (pv 1) pa_nil)) (pe_callS FO h3 (by rfl) BO.g BO.kp BO.b (E := E00) pas0 (pa_cons (pv 2) (pa_cons pe_bl pa_nil))))
        (pe_callS FW h3 (by rfl) BW.g BW.kp BW.b (E := E00) pas0 (pa_cons (pv 1) (pa_cons (pv 2) (pa_cons (pv 1) (pa_cons (pe_callS FT h1 (by rfl) BT.g BT.kp BT.b (E := E00) pas0 (pa_cons (pv 0) (pa_cons pe_int pa_nil))) pa_nil))))))
        (pe_lst (pa_cons (pe_newE0 PySem.F.excBase_ValueError X.xR (X.G 70 _ rfl) X.kR (by rfl)) (pa_cons (pe_newE0 PySem.F.excBase_ValueError X.xU (X.G 71 _ rfl) X.kU (by rfl)) pa_nil)))))
    (pss_cons (ps_if (pt_cmpR (op_neD hun) (pe_lc (own := [("one", 4)]) (g := gName 4) rfl scCR.nd (pi_list (pv 3)) (blkOk_by (N := nCR) (sc := defScope sCR) (by decide +kernel)) (fun _ _ _ _ _ => pg_name (i := 4) scCR.nd rfl (Or.inl rfl))
        (fun _ _ _ _ _ => pts_one (PW.pt (pw_or (pt_not (pt_val (pe_callB (call_isX : CallR _ _ (rIsX K)) (by rfl) T.isi (by decide +kernel) (pa_cons (pv 4) (pa_cons (pe_glob (v := .ref (He.ga K "PreferenceError")) (by rfl) X.gP rfl) pa_nil))))) (pw_or1 (pt_not (pt_val (pe_callB (call_isX : CallR _ _ (rIsX K)) (by rfl) T.isi (by decide +kernel) (pa_cons (pv 4) (pa_cons (pe_bltn (v := .ty "ValueError") (u := .type "ValueError") (by rfl) T.ve (by decide +kernel) rfl) pa_nil)))))))))
        (fun _ _ _ _ _ => pe_int)) (pe_lst pa_nil) (nomark _)) (pss_one (ps_ret pe_bl)) pss_nil)
    (pss_one (ps_ret (pe_callS (FS 3) h3 (by rfl) BS.g BS.kp BS.b (E := E00) pas0 (pa_cons (pe_op op_cat (pe_callS FL h1 (by rfl) BL.g BL.kp BL.b (E := E00) pas0 (pa_cons (pv 3) pa_nil)) (pe_callS FH h1 (by rfl) BH.g BH.kp BH.b (E := E00) pas0 (pa_cons (pv 3) pa_nil)))
      (pa_cons (pe_lc (own := [("k", 5)]) (g := gName 5) (tt := tYes) rfl scCR.nd (pi_range1 (by rfl) T.range (pa_cons pe_int pa_nil)) (blkOk_by (N := nCR) (sc := defScope sCR) (by decide +kernel)) (fun _ _ _ _ _ => pg_name (i := 5) scCR.nd rfl (Or.inl rfl)) (fun _ _ _ _ _ => pts_nil) (fun _ _ _ _ _ => pe_lst (pa_cons (pv 5) pa_nil))) pa_nil))))))), ?_⟩
  refine ⟨_, rfl, b, 1, rfl, by decide, hb, fun v1 H1 t1 V1 => ?_⟩
  refine ⟨_, rfl, b, 0, rfl, by decide, t1.1, fun v2 H2 t2 V2 => ⟨_, _, rfl, ?_⟩⟩
  refine ⟨_, rfl, spPlace K v1, rfl, fun l1 us1 H3 g1 s1 e1 m1 => ?_⟩
  refine ⟨_, rfl, spOnes K v2, rfl, fun l2 us2 H4 g2 s2 e2 m2 => ?_⟩
  have T3 : BoxTo b H2 H3 := .of t2.1 s1
  have T4 : BoxTo b H3 H4 := .of T3.1 s2
  have z1 : 47 = us1.length := m1.length
  have z2 : 18 = us2.length := m2.length
  refine ⟨l1, l2, us1, us2, rfl, rfl, s2 _ _ e1, e2, Nat.le_trans (show us1.length + us2.length ≤ 65 by omega) (by decide), fun p3 hp3 => ?_⟩
  have s3 : Same H4 (upd H4 p3 (.lst (us1 ++ us2))) := same_new hp3
  refine ⟨_, rfl, _, rfl, _, rfl, _, rfl, b, 4, rfl, T4.1.same s3, by decide, by decide, fun way H5 _ _ t5 => ⟨spTwos K v1 v2 v1, rfl, fun l4 us4 H6 g4 s4 e4 m4 => ?_⟩⟩
  have z4 : 5 = us4.length := m4.length
  have T6 : BoxTo b H5 H6 := .of t5.1 s4
  have k3 : H6 p3 = some (.lst (us1 ++ us2)) := s4 _ _ (t5.keep (T4.1.ne hp3) upd_same)
  have lz : (us1 ++ us2).length = 65 := by rw [List.length_append]; omega
  refine ⟨p3, l4, _, us4, rfl, rfl, k3, e4, Nat.le_trans (show (us1 ++ us2).length + us4.length ≤ 70 by omega) (by decide), fun p5 hp5 => ?_⟩
  have s5 : Same H6 (upd H6 p5 (.lst (us1 ++ us2 ++ us4))) := same_new hp5
  have k5 : upd H6 p5 (.lst (us1 ++ us2 ++ us4)) p5 = some (.lst (us1 ++ us2 ++ us4)) := upd_same
  refine fun a1 ha1 => fun a2 ha2 => ⟨(by show 2 ≤ sizeLine; decide), fun p6 hp6 => ?_⟩
  have s6 := same_new (o := exo a1 (He.ga K "NothingToRedo") none) ha1
  have s7 := same_new (o := exo a2 (He.ga K "NothingToUndo") none) ha2
  have s8 := same_new (o := .lst [.ref a1, .ref a2]) hp6
  have lz2 : (us1 ++ us2 ++ us4).length = 70 := by rw [List.length_append]; omega
  refine ⟨p5, p6, _, _, rfl, rfl, s8 _ _ (s7 _ _ (s6 _ _ k5)), upd_same, Nat.le_trans (show (us1 ++ us2 ++ us4).length + 2 ≤ 72 by omega) (by decide), fun m hm => ?_⟩
  have s9 := same_new (o := .lst (us1 ++ us2 ++ us4 ++ [.ref a1, .ref a2])) hm
  have sE := ((s6.trans s7).trans s8).trans s9
  have i1 : IsAt (upd (upd H6 p5 (.lst (us1 ++ us2 ++ us4))) a1 (exo a1 (He.ga K "NothingToRedo") none)) (He.ga K "NothingToRedo") (.ref a1) := ⟨a1, none, rfl, upd_same, fun dd hd => by cases hd⟩
  have i2 : IsAt (upd (upd (upd H6 p5 (.lst (us1 ++ us2 ++ us4))) a1 (exo a1 (He.ga K "NothingToRedo") none)) a2 (exo a2 (He.ga K "NothingToUndo") none)) (He.ga K "NothingToUndo") (.ref a2) := ⟨a2, none, rfl, upd_same, fun dd hd => by cases hd⟩
  have j1 := i1.mono ((s7.trans s8).trans s9)
  have j2 := i2.mono (s8.trans s9)
  have kM : upd (upd (upd (upd (upd H6 p5 (.lst (us1 ++ us2 ++ us4))) a1 (exo a1 (He.ga K "NothingToRedo") none)) a2 (exo a2 (He.ga K "NothingToUndo") none)) p6 (.lst [.ref a1, .ref a2])) m (.lst (us1 ++ us2 ++ us4 ++ [.ref a1, .ref a2])) m = some (.lst (us1 ++ us2 ++ us4 ++ [.ref a1, .ref a2])) := upd_same
  have sF : Same H6 (upd (upd (upd (upd (upd H6 p5 (.lst (us1 ++ us2 ++ us4))) a1 (exo a1 (He.ga K "NothingToRedo") none)) a2 (exo a2 (He.ga K "NothingToUndo") none)) p6 (.lst [.ref a1, .ref a2])) m (.lst (us1 ++ us2 ++ us4 ++ [.ref a1, .ref a2]))) := s5.trans sE
  generalize upd (upd (upd (upd (upd H6 p5 (.lst (us1 ++ us2 ++ us4))) a1 (exo a1 (He.ga K "NothingToRedo") none)) a2 (exo a2 (He.ga K "NothingToUndo") none)) p6 (.lst [.ref a1, .ref a2])) m (.lst (us1 ++ us2 ++ us4 ++ [.ref a1, .ref a2])) = Hm at j1 j2 kM sF ⊢
  have tF : BoxTo b H6 Hm := .of T6.1 sF
  have t4m : BoxTo b H4 Hm := (((BoxTo.of T4.1 s3).trans t5).trans T6).trans tF
  have tM : BoxTo b H Hm := (((t1.trans t2).trans T3).trans T4).trans t4m
  have is1 : Paired (IsAt Hm) ((spPlace K v1).map (·.1)) us1 := is_mono off_same (is_mono (T4.trans t4m).2 (made_is t2.1 m1))
  have is2 : Paired (IsAt Hm) ((spOnes K v2).map (·.1)) us2 := is_mono off_same (is_mono t4m.2 (made_is T3.1 m2))
  have is4 : Paired (IsAt Hm) ((spTwos K v1 v2 v1).map (·.1)) us4 := is_mono off_same (is_mono tF.2 (made_is t5.1 m4))
  have is : Paired (IsAt Hm) (csAll K) (us1 ++ us2 ++ us4 ++ [.ref a1, .ref a2]) := rappend (rappend (rappend is1 is2) is4) (.cons j1 (.cons j2 .nil))
  have zA : (us1 ++ us2 ++ us4 ++ [V.ref a1, .ref a2]).length = 72 := by rw [List.length_append, lz2]; rfl
  generalize us1 ++ us2 ++ us4 ++ [V.ref a1, .ref a2] = us at is kM zA
  have tst : Evl.EvL (tLc (iList K (tVar 3)) (gName 4) (tOr (tNot (tB (tCB (rIsX K) (tCons (tVar 4) (tCons (tC (.ref (He.ga K "PreferenceError"))) tNil))))) (tNot (tB (tCB (rIsX K) (tCons (tVar 4) (tCons (tC (.ty "ValueError")) tNil)))))) (tC (.int 1)) [4]) [some (.ref b), some v1, some v2, some (.ref m), none, none] Hm [] := by
    rw [← given_none (n := us.length) (v := fun _ => .int 1)]
    refine Evl.el_lcL (fun _ => false) (fun _ => .int 1) (Evl.ev_var rfl) (SqL.of kM) (by omega) (fun _ => rfl) (fun i x H' e hx H2 e2 Q q => ?_) (fun _ _ _ _ _ z => absurd z Bool.false_ne_true)
    have hi : i < (csAll K).length := by
      have z : (csAll K).length = us.length := Paired.length is
      have := (List.getElem?_eq_some_iff.mp hx).1
      omega
    have hc : (csAll K)[i]? = some (csAll K)[i] := List.getElem?_eq_getElem hi
    obtain ⟨ea, d, rfl, h2, h3⟩ := (rat is hc hx).mono (Same.trans e e2)
    have C := X.cl _ (List.getElem_mem hi)
    refine ⟨_, rfl, ea, _, d, _, _, true, rfl, .own _, C.exc, h2, h3, kit_base C X.cP X.tP, true, rfl, iteF ?_⟩
    exact ⟨_, rfl, ea, _, d, _, _, true, rfl, .ty _, C.exc, h2, h3, kit_ve C, true, rfl, q H2 (Evl.Ex.refl H2)⟩
  refine nil_ncmp tst fun Hn sn => ⟨false, rfl, iteF ?_⟩
  have isN := is_mono sn is
  refine ⟨_, rfl, m, us, rfl, sn _ _ kM, isN, fun la ua Ha ga sa ea qa => ?_⟩
  refine ⟨_, rfl, m, us, rfl, sa _ _ (sn _ _ kM), is_mono sa isN, fun lc uc Hc gc sc ec qc => ?_⟩
  have za : (List.range' 0 38).length = ua.length := Paired.length qa
  have zc : (List.range' 38 34).length = uc.length := Paired.length qc
  rw [List.length_range'] at za zc
  refine ⟨la, lc, ua, uc, rfl, rfl, sc _ _ ea, ec, Nat.le_trans (show ua.length + uc.length ≤ 72 by omega) (by decide), fun p hp => ?_⟩
  have sp := same_new (o := .lst (ua ++ uc)) hp
  have qq : Paired (RPl (upd Hc p (.lst (ua ++ uc)))) (List.range' 0 72) (ua ++ uc) := rappend (rmono rpl_grows (sc.trans sp) qa) (rmono rpl_grows sp qc)
  refine sing_l (n := 72) (j := 5) (by decide) (by show 5 < 6; decide) (fun _ => rfl) fun q vs Hq gq sq eq rq => ?_
  refine ⟨_, _, rfl, eq_places (sq _ _ upd_same) eq (rmono rpl_grows sq qq) rq (by decide), fun H' s' => k H' ?_⟩
  exact tM.trans (.of tM.1 (((((sn.trans sa).trans sc).trans sp).trans sq).trans s'))
end
end Ka

set_option Elab.async false
set_option linter.all false
set_option maxRecDepth 100000
set_option maxHeartbeats 4000000
namespace Ka
open PySem PySem.Spec PyProof.Rows L2 Xc
/-! ### the things as they are passed and changed -/
abbrev M6 (b one other oa third t0 : Addr) : List Addr := [b, one, other, oa, third, t0]
theorem offL_box {S : List Addr} {b : Addr} {H H' : Hp} (hb : b ∈ S) (t : BoxTo b H H') : Same (offL S H) (offL S H') := fun c u e => by
  obtain ⟨n, h⟩ := offL_some e
  rw [offL_out n]
  exact t.keep (fun z => n (by rw [z]; exact hb)) h
theorem offL_upd {S : List Addr} {p : Addr} {H : Hp} {u : HO} (hp : p ∈ S) : offL S (upd H p u) = offL S H := by
  funext c
  by_cases n : c ∈ S
  · unfold offL
    rw [if_pos n, if_pos n]
  · rw [offL_out n, offL_out n, upd_ne (fun z => n (by rw [z]; exact hp))]
theorem NoList.mono {H H' : Hp} {v : V} (s : Same H H') (h : NoList H v) : NoList H' v := by
  rcases h with h | ⟨p, xs, e, h⟩
  · exact .inl h
  · exact .inr ⟨p, xs, e, s _ _ h⟩
section
variable {n : Nat} {b one other oa third t0 : Addr} {H H' : Hp}
theorem Thg.nes (h : Thg n b one other oa third t0 H) : (one ≠ b ∧ other ≠ b ∧ oa ≠ b ∧ third ≠ b ∧ t0 ≠ b) ∧ (other ≠ one ∧ oa ≠ one ∧ third ≠ one ∧ t0 ≠ one) ∧ (oa ≠ other ∧ third ≠ other ∧ t0 ≠ other) ∧ (third ≠ oa ∧ t0 ≠ oa) ∧ t0 ≠ third := by
  have nd := h.nd
  simp only [List.nodup_cons, List.mem_cons, List.not_mem_nil, or_false, not_or, List.nodup_nil, not_false_eq_true, and_true] at nd
  obtain ⟨⟨a1, a2, a3, a4, a5⟩, ⟨b1, b2, b3, b4⟩, ⟨c1, c2, c3⟩, ⟨d1, d2⟩, e1⟩ := nd
  exact ⟨⟨Ne.symm a1, Ne.symm a2, Ne.symm a3, Ne.symm a4, Ne.symm a5⟩, ⟨Ne.symm b1, Ne.symm b2, Ne.symm b3, Ne.symm b4⟩, ⟨Ne.symm c1, Ne.symm c2, Ne.symm c3⟩, ⟨Ne.symm d1, Ne.symm d2⟩, Ne.symm e1⟩
theorem Thg.go (h : Thg n b one other oa third t0 H) (t : BoxTo b H H') : Thg n b one other oa third t0 H' := by
  obtain ⟨⟨k1, k2, k3, k4, k5⟩, _⟩ := h.nes
  have s : Same (offL [b, one, other, oa, third, t0] H) (offL [b, one, other, oa, third, t0] H') := offL_box List.mem_cons_self t
  refine ⟨t.1, h.nd, ?_, ?_, ?_, ?_, ?_⟩
  · obtain ⟨v, r, h1, h2, h3, h4⟩ := h.xOne
    exact ⟨v, r, t.keep k1 h1, h2.mono s, h3, fun x hx => (h4 x hx).mono (RdLe.of s)⟩
  · obtain ⟨i, h⟩ := h.xOther
    rcases h with h | ⟨x, hx, h⟩
    · exact ⟨i, .inl (t.keep k2 h)⟩
    · exact ⟨i, .inr ⟨x, hx, t.keep k2 h⟩⟩
  · obtain ⟨ys, h1, h2, h3⟩ := h.xOa
    exact ⟨ys, t.keep k3 h1, h2, fun x hx => (h3 x hx).mono (RdLe.of s)⟩
  · obtain ⟨ys, h1, h2, h3⟩ := h.xThird
    exact ⟨ys, t.keep k4 h1, h2, fun x hx => (h3 x hx).mono (RdLe.of s)⟩
  · obtain ⟨ys, h1, h2, h3⟩ := h.xT0
    exact ⟨ys, t.keep k5 h1, h2, fun x hx => (h3 x hx).mono (RdLe.of s)⟩
theorem Thg.eOne (h : Thg n b one other oa third t0 H) (hn : n ≤ 90) : EqD 7 H (.ref one) (.ref one) := by
  obtain ⟨v, r, h1, h2, h3, h4⟩ := h.xOne
  exact (eqd_lst (n := 5) h1 (by show r.length + 1 ≤ 1000; omega) fun x hx => (h4 x hx).mono (RdLe.of offL_sub)).up (by decide)
theorem Thg.eOther (h : Thg n b one other oa third t0 H) (hn : n ≤ 90) : EqD 7 H (.ref other) (.ref other) := by
  obtain ⟨ys, h1, h2, h3⟩ := h.xOa
  have ea : EqD 6 H (.ref oa) (.ref oa) := eqd_lst (n := 5) h1 (by omega) fun x hx => (h3 x hx).mono (RdLe.of offL_sub)
  obtain ⟨i, h⟩ := h.xOther
  rcases h with h | ⟨x, hx, h⟩
  · refine eqd_dk (n := 6) h (by show 2 ≤ 1000; decide) fun k v hv => ?_
    simp only [List.mem_cons, List.not_mem_nil, or_false] at hv
    rcases hv with hv | hv
    · cases hv
      exact ⟨_, rfl, ea⟩
    · cases hv
      exact ⟨_, rfl, eqd_sc True.intro⟩
  · refine eqd_dk (n := 6) h (by show 3 ≤ 1000; decide) fun k v hv => ?_
    simp only [List.mem_cons, List.not_mem_nil, or_false] at hv
    rcases hv with hv | hv | hv
    · cases hv
      exact ⟨_, rfl, ea⟩
    · cases hv
      exact ⟨_, rfl, eqd_sc True.intro⟩
    · cases hv
      exact ⟨_, rfl, eqd_sc hx⟩
theorem Thg.eThird (h : Thg n b one other oa third t0 H) (hn : n ≤ 90) : EqD 7 H (.ref third) (.ref third) := by
  obtain ⟨zs, h1, h2, h3⟩ := h.xT0
  have ea : EqD 6 H (.ref t0) (.ref t0) := eqd_lst (n := 5) h1 (by omega) fun x hx => (h3 x hx).mono (RdLe.of offL_sub)
  obtain ⟨r, g1, g2, g3⟩ := h.xThird
  refine eqd_lst (n := 6) g1 (by show r.length + 1 ≤ 1000; omega) fun x hx => ?_
  rcases List.mem_cons.mp hx with rfl | hx
  · exact ea
  · exact ((g3 x hx).mono (RdLe.of offL_sub)).up (by decide)
theorem Thg.more (h : Thg n b one other oa third t0 H) : Thg (n + 1) b one other oa third t0 H := by
  refine ⟨h.box, h.nd, ?_, h.xOther, ?_, ?_, ?_⟩
  · obtain ⟨v, r, h1, h2, h3, h4⟩ := h.xOne
    exact ⟨v, r, h1, h2, by omega, h4⟩
  · obtain ⟨ys, h1, h2, h3⟩ := h.xOa
    exact ⟨ys, h1, by omega, h3⟩
  · obtain ⟨ys, h1, h2, h3⟩ := h.xThird
    exact ⟨ys, h1, by omega, h3⟩
  · obtain ⟨ys, h1, h2, h3⟩ := h.xT0
    exact ⟨ys, h1, by omega, h3⟩
theorem BoxAt.upd {p : Addr} {u : HO} (h : BoxAt H b) (n : b ≠ p) : BoxAt (L2.upd H p u) b := by
  obtain ⟨x1, x2, x3, x4, x5, x6⟩ := h
  exact ⟨x1, x2, x3, x4, by rw [upd_ne n]; exact x5, x6⟩
/-- each of them is changed -/
theorem Thg.gOne {K : PySem.W.Frag} {num : V} {Q : VK} {E : XK} (h : Thg n b one other oa third t0 H) (hn : n ≤ 90) (hs : Sc num) (k : ∀ H', offL [b, one, other, oa, third, t0] H' = offL [b, one, other, oa, third, t0] H → Thg (n + 1) b one other oa third t0 H' → Q (.bl true) H') : spGrown K [.ref one, num] H Q E := by
  obtain ⟨⟨k1, k2, k3, k4, k5⟩, ⟨k6, k7, k8, k9⟩, _⟩ := h.nes
  have e : ∀ u, offL [b, one, other, oa, third, t0] (L2.upd H one u) = offL [b, one, other, oa, third, t0] H := fun u => offL_upd (by simp)
  obtain ⟨v, r, h1, h2, h3, h4⟩ := h.xOne
  refine ⟨one, num, rfl, .inr (.inl ⟨v, r, h1, h2.mono offL_sub, by omega, k _ (e _) ?_⟩)⟩
  have h' := h.more
  refine ⟨h.box.upd (Ne.symm k1), h.nd, ⟨v, r ++ [num], upd_same, ?_, ?_, ?_⟩, ?_, ?_, ?_, ?_⟩
  · rw [e]
    exact h2
  · rw [List.length_append]
    show r.length + 1 ≤ n + 1
    omega
  · intro x hx
    rw [e]
    rw [← List.cons_append] at hx
    rcases List.mem_append.mp hx with hx | hx
    · exact h4 x hx
    · rw [List.mem_singleton.mp hx]
      exact eqd_sc hs
  · obtain ⟨i, h⟩ := h'.xOther
    rw [upd_ne k6]
    exact ⟨i, h⟩
  · rw [e, upd_ne k7]
    exact h'.xOa
  · rw [e, upd_ne k8]
    exact h'.xThird
  · rw [e, upd_ne k9]
    exact h'.xT0
theorem Thg.gOther {K : PySem.W.Frag} {num : V} {Q : VK} {E : XK} (h : Thg n b one other oa third t0 H) (hn : n ≤ 90) (hs : Sc num) (k : ∀ H', offL [b, one, other, oa, third, t0] H' = offL [b, one, other, oa, third, t0] H → Thg (n + 1) b one other oa third t0 H' → Q (.bl true) H') : spGrown K [.ref other, num] H Q E := by
  obtain ⟨⟨k1, k2, k3, k4, k5⟩, ⟨k6, k7, k8, k9⟩, ⟨k10, k11, k12⟩, ⟨k13, k14⟩, k15⟩ := h.nes
  have e : ∀ u u', offL [b, one, other, oa, third, t0] (L2.upd (L2.upd H oa u) other u') = offL [b, one, other, oa, third, t0] H := fun u u' => by
    rw [offL_upd (by simp), offL_upd (by simp)]
  obtain ⟨ys, h1, h2, h3⟩ := h.xOa
  have h' := h.more
  have fin : ∀ (kvs : List (Key × V)) (i : Int), kvs = ([(Sum.inr "a", V.ref oa), (Sum.inr "b", .int i), (Sum.inr "more", num)] : List (Key × V)) → Thg (n + 1) b one other oa third t0 (L2.upd (L2.upd H oa (.lst (ys ++ [num]))) other (.dK kvs)) := fun kvs i ek => by
    refine ⟨(h.box.upd (Ne.symm k3)).upd (Ne.symm k2), h.nd, ?_, ⟨i, .inr ⟨num, hs, by rw [ek]; exact upd_same⟩⟩, ⟨ys ++ [num], by rw [upd_ne k10]; exact upd_same, ?_, ?_⟩, ?_, ?_⟩
    · rw [e, upd_ne (Ne.symm k6), upd_ne (Ne.symm k7)]
      exact h'.xOne
    · rw [List.length_append]
      show ys.length + 1 ≤ n + 1
      omega
    · intro x hx
      rw [e]
      rcases List.mem_append.mp hx with hx | hx
      · exact h3 x hx
      · rw [List.mem_singleton.mp hx]
        exact eqd_sc hs
    · rw [e, upd_ne k11, upd_ne k13]
      exact h'.xThird
    · rw [e, upd_ne k12, upd_ne k14]
      exact h'.xT0
  obtain ⟨i, ho⟩ := h.xOther
  rcases ho with ho | ⟨x, hx, ho⟩
  · refine ⟨other, num, rfl, .inl ⟨_, oa, ys, ho, rfl, h1, by show 2 ≤ 100; decide, by omega, k _ (e _ _) (fin _ i rfl)⟩⟩
  · refine ⟨other, num, rfl, .inl ⟨_, oa, ys, ho, rfl, h1, by show 3 ≤ 100; decide, by omega, k _ (e _ _) (fin _ i rfl)⟩⟩
theorem sc_in : Sc (.str "in") := show (Str.ofString "in").length ≤ 2000 by decide
theorem Thg.gThird {K : PySem.W.Frag} {num : V} {Q : VK} {E : XK} (h : Thg n b one other oa third t0 H) (hn : n ≤ 90) (hs : Sc num) (k : ∀ H', offL [b, one, other, oa, third, t0] H' = offL [b, one, other, oa, third, t0] H → Thg (n + 1) b one other oa third t0 H' → Q (.bl true) H') : spGrown K [.ref third, num] H Q E := by
  obtain ⟨⟨k1, k2, k3, k4, k5⟩, ⟨k6, k7, k8, k9⟩, ⟨k10, k11, k12⟩, ⟨k13, k14⟩, k15⟩ := h.nes
  have e : ∀ u u', offL [b, one, other, oa, third, t0] (L2.upd (L2.upd H third u) t0 u') = offL [b, one, other, oa, third, t0] H := fun u u' => by
    rw [offL_upd (by simp), offL_upd (by simp)]
  obtain ⟨r, h1, h2, h3⟩ := h.xThird
  obtain ⟨zs, g1, g2, g3⟩ := h.xT0
  have h' := h.more
  refine ⟨third, num, rfl, .inr (.inr ⟨t0, r, zs, h1, g1, k15, by omega, by omega, k _ (e _ _) ?_⟩)⟩
  refine ⟨(h.box.upd (Ne.symm k4)).upd (Ne.symm k5), h.nd, ?_, ?_, ?_, ⟨r ++ [num], by rw [upd_ne (Ne.symm k15)]; exact upd_same, ?_, ?_⟩, ⟨zs ++ [.str "in"], upd_same, ?_, ?_⟩⟩
  · rw [e, upd_ne (Ne.symm k9), upd_ne (Ne.symm k8)]
    exact h'.xOne
  · rw [upd_ne (Ne.symm k12), upd_ne (Ne.symm k11)]
    exact h'.xOther
  · rw [e, upd_ne (Ne.symm k14), upd_ne (Ne.symm k13)]
    exact h'.xOa
  · rw [List.length_append]
    show r.length + 1 ≤ n + 1
    omega
  · intro x hx
    rw [e]
    rcases List.mem_append.mp hx with hx | hx
    · exact h3 x hx
    · rw [List.mem_singleton.mp hx]
      exact eqd_sc hs
  · rw [List.length_append]
    show zs.length + 1 ≤ n + 1
    omega
  · intro x hx
    rw [e]
    rcases List.mem_append.mp hx with hx | hx
    · exact g3 x hx
    · rw [List.mem_singleton.mp hx]
      exact eqd_sc sc_in
end
end Ka

set_option Elab.async false
set_option linter.all false
set_option maxRecDepth 100000
set_option maxHeartbeats 4000000
namespace Ka
open PySem PySem.Spec PyProof.Rows L2 Xc
theorem stand_made {S : List Addr} {H0 H : Hp} (hS : ∀ c ∈ S, H0 c ≠ none) : ∀ {sp : ESpec} {us : List V}, Made H0 H sp us → Stand (offL S H) sp us
  | _, _, .nil => .nil
  | _, _, .cons a r => by
    obtain ⟨e, d, h1, h2, h3, h4, h5⟩ := a
    refine .cons ⟨e, h1, d, ?_, ?_⟩ (stand_made hS r)
    · rw [offL_out fun z => hS e z h2]
      exact h4
    · rw [offL_out fun z => hS d z h3]
      exact h5
/-- a list of errors at l, apart from S -/
def LE (G : Hp) (l : Addr) (sp : ESpec) : Prop := ∃ us, G l = some (.lst us) ∧ Stand G sp us
theorem LE.mono {G G' : Hp} {l : Addr} {sp : ESpec} (s : Same G G') (h : LE G l sp) : LE G' l sp := by
  obtain ⟨us, h1, h2⟩ := h
  exact ⟨us, s _ _ h1, h2.mono s⟩
theorem le_made {S : List Addr} {H0 H : Hp} {l : Addr} {us : List V} {sp : ESpec} (hS : ∀ c ∈ S, H0 c ≠ none) (hl : H0 l = none) (e : H l = some (.lst us)) (m : Made H0 H sp us) : LE (offL S H) l sp :=
  ⟨us, by rw [offL_out fun z => hS l z hl]; exact e, stand_made hS m⟩
structure Fix (K : PySem.W.Frag) (G : Hp) (one other third v : V) (l1 l2 l3 l4 l5 l6 : Addr) : Prop where
  a1 : LE G l1 (spPlace K one)
  a2 : LE G l2 (spName K other)
  a3 : LE G l3 (spOnes K other)
  a4 : LE G l4 (spOnes K third)
  a5 : ∃ ms, G l5 = some (.lst ms) ∧ ms.length ≤ 100 ∧ ∀ m ∈ ms, ∃ l, m = .ref l ∧ LE G l (spTwos K one other third)
  a6 : LE G l6 (spName K v ++ spPlace K v)
  dv : EqD 9 G v v
theorem Fix.mono {K : PySem.W.Frag} {G G' : Hp} {one other third v : V} {l1 l2 l3 l4 l5 l6 : Addr} (s : Same G G') (h : Fix K G one other third v l1 l2 l3 l4 l5 l6) : Fix K G' one other third v l1 l2 l3 l4 l5 l6 := by
  refine ⟨h.a1.mono s, h.a2.mono s, h.a3.mono s, h.a4.mono s, ?_, h.a6.mono s, h.dv.mono (RdLe.of s)⟩
  obtain ⟨ms, h1, h2, h3⟩ := h.a5
  refine ⟨ms, s _ _ h1, h2, fun m hm => ?_⟩
  obtain ⟨l, e, q⟩ := h3 m hm
  exact ⟨l, e, q.mono s⟩
section
variable {P : Program} {w : World} {K : PySem.W.Frag} {mg : Str → Option Value} {base : Heap}
abbrev gv : Str := "given"
def gspec (K : PySem.W.Frag) (v : V) : ESpec := (tab.take 47).map fun t => (He.ga K t.1, [(gv, v)])
theorem place_eq (v : V) : spPlace K v = gspec K v := rfl
theorem name_eq (v : V) : spName K v = gspec K v := rfl
theorem tab_given : (tab.take 47).all (fun t => decide (t.2.2 = [gv])) = true := by decide +kernel
theorem given_ok (E : AllE P w K mg base) {v : V} {s : Addr × List (Str × V)} (h : s ∈ gspec K v) : XfC K s.1 ∧ PySem.W.findIn K (.ref s.1) "given" = some none ∧ s.2.lookup gv = some v := by
  obtain ⟨t, ht, rfl⟩ := List.mem_map.mp h
  obtain ⟨i, hi⟩ := List.getElem?_of_mem ht
  have hg : t.2.2 = [gv] := of_decide_eq_true (List.all_eq_true.mp tab_given t ht)
  obtain ⟨x, st, fs⟩ := t
  have hi2 : tab[i]? = some (x, st, fs) := by
    rw [List.getElem?_take] at hi
    split at hi
    · exact hi
    · cases hi
  have e := E i x st fs hi2
  have hg : fs = [gv] := hg
  subst hg
  exact ⟨e.cl.xf, e.no _ (List.mem_singleton.mpr rfl), rfl⟩
/-! ### [1 for error in .. if not _law_same(error.given, ..)] -/
abbrev tGiven (K : PySem.W.Frag) (a c : Nat) : TE := tLc (iList K (tVar a)) (gName 14) (tNot (tB (tCallS (spS 10) E00 (tCons (tXat K "given" (tVar 14)) (tCons (tVar c) tNil))))) (tC (.int 1)) [14]
theorem given_l (E : AllE P w K mg base) {σ : L2.St} {H : Hp} {a c : Nat} {l : Addr} {us : List V} {sp : ESpec} {v : V} (hl : H l = some (.lst us)) (hs : Stand H sp us) (hp : ∀ s ∈ sp, s ∈ gspec K v) (hv : EqD 9 H v v) (hz : sp.length ≤ 200)
    (ha : σ[a]? = some (some (.ref l))) (hw : ∀ x, wipe ((wipe σ [14]).set 14 (some x)) [14] = wipe σ [14]) (hc : ∀ x, ((wipe σ [14]).set 14 (some x))[c]? = some (some v)) (h14 : ∀ x, ((wipe σ [14]).set 14 (some x))[14]? = some (some x)) : Evl.EvL (tGiven K a c) σ H [] := by
  have zl : sp.length = us.length := Paired.length hs
  rw [← given_none (n := us.length) (v := fun _ => .int 1)]
  refine Evl.el_lcL (fun _ => false) (fun _ => .int 1) (Evl.ev_var ha) (SqL.of hl) (by omega) hw (fun i x H' e hx H2 e2 Q q => ?_) (fun _ _ _ _ _ z => absurd z Bool.false_ne_true)
  have hi := (List.getElem?_eq_some_iff.mp hx).1
  have hi2 : i < sp.length := by omega
  have es : sp[i]? = some sp[i] := List.getElem?_eq_getElem hi2
  obtain ⟨ea, rfl, ex⟩ := rat hs es hx
  obtain ⟨g1, g2, g3⟩ := given_ok E (hp _ (List.getElem_mem hi2))
  have ss : Same H H2 := Same.trans e e2
  obtain ⟨d, x1, x2⟩ := exAt_mono ss ex
  refine ⟨_, h14 _, ea, _, d, _, v, rfl, g1, g2, x1, x2, g3, _, hc _, ?_⟩
  exact ⟨_, _, rfl, hv.mono (RdLe.of ss), fun H3 s3 => ⟨true, rfl, q H3 s3⟩⟩
end
/-! ### the turn's statements -/
abbrev sv (b one other third l1 l2 l3 l4 l5 l6 : Addr) (v : V) (x y : Option V) : L2.St := [some (.ref b), some (.ref one), some (.ref other), some (.ref third), some (.ref l1), some (.ref l2), some (.ref l3), some (.ref l4), some (.ref l5), some v, some (.ref l6), x, y, none, none]
abbrev bGrow (K : PySem.W.Frag) : TS := tIfS (tOr (tNot (tB (tCallS (spGrown K) E00 (tCons (tVar 1) (tCons (tVar 11) tNil))))) (tOr (tNot (tB (tCallS (spGrown K) E00 (tCons (tVar 2) (tCons (tVar 11) tNil))))) (tNot (tB (tCallS (spGrown K) E00 (tCons (tVar 3) (tCons (tVar 11) tNil))))))) (tRet (tC (.bl false))) tNext
abbrev bGiven (K : PySem.W.Frag) : TS := tIfS (tOr (tTest (tOp (rNeD K) (tGiven K 4 1) (tLst tNil))) (tTest (tOp (rNeD K) (tGiven K 5 2) (tLst tNil)))) (tRet (tC (.bl false))) tNext
abbrev tKO (K : PySem.W.Frag) (i j : Nat) : TT := tNot (tB (tCallS (spS 10) E00 (tCons (tCallS (spKO K) E00 (tCons (tVar i) tNil)) (tCons (tOp rRep (tLst (tCons (tVar j) tNil)) (tC (.int 18))) tNil))))
abbrev bOnes (K : PySem.W.Frag) : TS := tIfS (tOr (tKO K 6 2) (tKO K 7 3)) (tRet (tC (.bl false))) tNext
abbrev rListOf (K : PySem.W.Frag) : List V → Hp → VK → Prop := fun xs H Q => ∃ p ys, xs = [.ref p] ∧ (SqL K H p ys ∨ SqT K H p ys) ∧ ∀ l, H l = none → Q (.ref l) (upd H l (.lst ys))
abbrev bTwos (K : PySem.W.Frag) : TS := tFor (iList K (tVar 8)) (gName 12) (tIfS (tNot (tB (tCallS (spS 10) E00 (tCons (tCB (rListOf K) (tCons (tCallS (spKT K) E00 (tCons (tVar 12) tNil)) tNil)) (tCons (tLst (tCons (tOp rRep (tLst (tCons (tVar 1) tNil)) (tC (.int 5))) (tCons (tOp rRep (tLst (tCons (tVar 2) tNil)) (tC (.int 5))) (tCons (tVar 3) tNil)))) tNil))))) (tRet (tC (.bl false))) tNext)
theorem call2 {sp : Sp} {σ : L2.St} {H : Hp} {Q : VK} {i j : Nat} {u v : V} (hi : σ[i]? = some (some u)) (hj : σ[j]? = some (some v)) (h : sp [u, v] H Q (E00 σ)) : tCallS sp E00 (tCons (tVar i) (tCons (tVar j) tNil)) σ H Q := ⟨u, hi, v, hj, h⟩
theorem if_or {t u : TT} {tb : TS} {D : Ends} {σ : L2.St} {H : Hp} (h : t σ H fun c H1 => if c = true then (if true = true then tb D σ H1 else D.nx σ H1) else u σ H1 fun c2 H2 => if c2 = true then tb D σ H2 else D.nx σ H2) : tIfS (tOr t u) tb tNext D σ H := h
theorem eqd_rep {H : Hp} {p q : Addr} {n m : Nat} {v : V} (hp : H p = some (.lst (List.replicate n v))) (hq : H q = some (.lst (List.replicate n v))) (hn : n ≤ 1000) (hv : EqD m H v v) : EqD (m + 1) H (.ref p) (.ref q) :=
  .inr (.inl ⟨p, q, _, _, rfl, rfl, .inl ⟨.inl hp, .inl hq⟩, rfl, by rw [List.length_replicate]; exact hn, fun i x y hx hy => by
    rw [hx] at hy
    cases hy
    rw [List.eq_of_mem_replicate (List.mem_of_getElem? hx)]
    exact hv⟩)
section
variable {P : Program} {w : World} {K : PySem.W.Frag} {mg : Str → Option Value} {base : Heap} {n : Nat} {b one other oa third t0 l1 l2 l3 l4 l5 l6 : Addr} {v num : V} {H : Hp} {D : Ends} {x y : Option V}
theorem rd_grow (h : Thg n b one other oa third t0 H) (hn : n ≤ 80) (hs : Sc num) (k : ∀ H', offL (M6 b one other oa third t0) H' = offL (M6 b one other oa third t0) H → Thg (n + 3) b one other oa third t0 H' → D.nx (sv b one other third l1 l2 l3 l4 l5 l6 v (some num) y) H') : bGrow K D (sv b one other third l1 l2 l3 l4 l5 l6 v (some num) y) H := by
  refine call2 (u := .ref one) (v := num) rfl rfl (h.gOne (by omega) hs fun H1 e1 g1 => ⟨true, rfl, iteF ?_⟩)
  refine call2 (u := .ref other) (v := num) rfl rfl (g1.gOther (by omega) hs fun H2 e2 g2 => ⟨true, rfl, iteF ?_⟩)
  refine call2 (u := .ref third) (v := num) rfl rfl (g2.gThird (by omega) hs fun H3 e3 g3 => ⟨true, rfl, iteF ?_⟩)
  exact k H3 (e3.trans (e2.trans e1)) g3
theorem rd_given (E : AllE P w K mg base) (h : Thg n b one other oa third t0 H) (hn : n ≤ 90) (F : Fix K (offL (M6 b one other oa third t0) H) (.ref one) (.ref other) (.ref third) v l1 l2 l3 l4 l5 l6) (k : ∀ H', Same H H' → D.nx (sv b one other third l1 l2 l3 l4 l5 l6 v x y) H') :
    bGiven K D (sv b one other third l1 l2 l3 l4 l5 l6 v x y) H := by
  obtain ⟨us1, c1, c2⟩ := F.a1.mono offL_sub
  obtain ⟨us2, d1, d2⟩ := F.a2.mono offL_sub
  refine nil_ncmp (given_l E c1 c2 (fun s hs => by rw [← place_eq]; exact hs) ((h.eOne hn).up (by decide)) (Nat.le_of_ble_eq_true rfl) rfl (fun _ => rfl) (fun _ => rfl) (fun _ => rfl)) fun H1 s1 => ⟨false, rfl, iteF ?_⟩
  refine nil_ncmp (given_l E (s1 _ _ d1) (d2.mono s1) (fun s hs => by rw [← name_eq]; exact hs) (((h.eOther hn).up (by decide)).mono (RdLe.of s1)) (Nat.le_of_ble_eq_true rfl) rfl (fun _ => rfl) (fun _ => rfl) (fun _ => rfl)) fun H2 s2 => ⟨false, rfl, iteF ?_⟩
  exact k H2 (s1.trans s2)
theorem rd_ko {σ : L2.St} {i j : Nat} {l : Addr} {u : V} {Q : Bool → Hp → Prop} (hi : σ[i]? = some (some (.ref l))) (hj : σ[j]? = some (some u)) (L : LE H l (spOnes K u)) (hu : EqD 7 H u u) (k : ∀ H', Same H H' → Q false H') : tKO K i j σ H Q := by
  obtain ⟨us, h1, h2⟩ := L
  refine ⟨_, hi, l, us, u, rfl, h1, h2, fun l' H1 g1 s1 e1 => ?_⟩
  refine ⟨_, hj, (by show 1 ≤ sizeLine; decide), fun p hp => ⟨p, 18, _, rfl, rfl, upd_same, by decide, by decide, (by show 1 * 18 ≤ sizeLine; decide), fun q hq => ?_⟩⟩
  have s2 := (s1.trans (same_new (o := .lst [u]) hp)).trans (same_new (o := .lst (List.replicate (18 : Int).toNat [u]).flatten) hq)
  have s3 := (same_new (o := .lst [u]) hp).trans (same_new (o := .lst (List.replicate (18 : Int).toNat [u]).flatten) hq)
  refine ⟨_, _, rfl, (eqd_rep (n := 18) (s3 _ _ e1) upd_same (by decide) (hu.mono (RdLe.of s2))).up (by decide), fun H' s' => ⟨true, rfl, k H' (s2.trans s')⟩⟩
theorem rd_ones (h : Thg n b one other oa third t0 H) (hn : n ≤ 90) (F : Fix K (offL (M6 b one other oa third t0) H) (.ref one) (.ref other) (.ref third) v l1 l2 l3 l4 l5 l6) (k : ∀ H', Same H H' → D.nx (sv b one other third l1 l2 l3 l4 l5 l6 v x y) H') :
    bOnes K D (sv b one other third l1 l2 l3 l4 l5 l6 v x y) H := by
  refine if_or (rd_ko (σ := sv b one other third l1 l2 l3 l4 l5 l6 v x y) (i := 6) (j := 2) (l := l3) (u := .ref other) rfl rfl (F.a3.mono offL_sub) (h.eOther hn) fun H1 s1 => ?_)
  refine iteF ?_
  refine rd_ko (σ := sv b one other third l1 l2 l3 l4 l5 l6 v x y) (i := 7) (j := 3) (l := l4) (u := .ref third) rfl rfl ((F.a4.mono offL_sub).mono s1) ((h.eThird hn).mono (RdLe.of s1)) fun H2 s2 => ?_
  refine iteF ?_
  exact k H2 (s1.trans s2)
theorem rd_twos (h : Thg n b one other oa third t0 H) (hn : n ≤ 90) (F : Fix K (offL (M6 b one other oa third t0) H) (.ref one) (.ref other) (.ref third) v l1 l2 l3 l4 l5 l6) (k : ∀ H' y', Same H H' → D.nx (sv b one other third l1 l2 l3 l4 l5 l6 v x y') H') :
    bTwos K D (sv b one other third l1 l2 l3 l4 l5 l6 v x y) H := by
  obtain ⟨ms, h1, h2, h3⟩ := F.a5
  have g1 : H l5 = some (.lst ms) := offL_sub _ _ h1
  refine ⟨_, rfl, l5, rfl, ⟨ms, SqL.of g1⟩, for_list (xs := ms) (fun i σ H' => ∃ y', σ = sv b one other third l1 l2 l3 l4 l5 l6 v x y' ∧ Same H H') ⟨y, rfl, Same.refl H⟩ (fun i σ H' _ z => ?_) (fun i m σ H' hm z => ?_) (fun σ H' z => ?_)⟩
  · obtain ⟨y', _, s⟩ := z
    exact SqL.of (s _ _ g1)
  · obtain ⟨y', rfl, s⟩ := z
    obtain ⟨l, rfl, us, q1, q2⟩ := h3 m (List.mem_of_getElem? hm)
    have s0 : Same (offL (M6 b one other oa third t0) H) H' := Same.trans offL_sub s
    refine ⟨_, rfl, l, us, _, _, _, rfl, s0 _ _ q1, q2.mono s0, fun p q r H1 gp gq gr s1 ep eq er => ⟨p, _, rfl, .inr (SqT.of ep), fun c hc => ?_⟩⟩
    have t1 := same_new (o := .lst [.ref q, .ref r, .ref third]) hc
    refine ⟨_, rfl, (by show 1 ≤ sizeLine; decide), fun p1 hp1 => ⟨p1, 5, _, rfl, rfl, upd_same, by decide, by decide, (by show 1 * 5 ≤ sizeLine; decide), fun q1 hq1 => ?_⟩⟩
    have t2 := (same_new (o := .lst [.ref one]) hp1).trans (same_new (o := .lst (List.replicate (5 : Int).toNat [V.ref one]).flatten) hq1)
    refine ⟨_, rfl, (by show 1 ≤ sizeLine; decide), fun p2 hp2 => ⟨p2, 5, _, rfl, rfl, upd_same, by decide, by decide, (by show 1 * 5 ≤ sizeLine; decide), fun q2 hq2 => ?_⟩⟩
    have t3 := (same_new (o := .lst [.ref other]) hp2).trans (same_new (o := .lst (List.replicate (5 : Int).toNat [V.ref other]).flatten) hq2)
    refine ⟨_, rfl, (by show 3 ≤ sizeLine; decide), fun d hd => ?_⟩
    have t4 := same_new (o := .lst [.ref q1, .ref q2, .ref third]) hd
    have tq1 := t4 _ _ (t3 _ _ (upd_same (H := upd (upd H1 c (.lst [.ref q, .ref r, .ref third])) p1 (.lst [.ref one])) (a := q1) (o := .lst (List.replicate (5 : Int).toNat [V.ref one]).flatten)))
    have tq2 := t4 _ _ (upd_same (H := upd (upd (upd (upd H1 c (.lst [.ref q, .ref r, .ref third])) p1 (.lst [.ref one])) q1 (.lst (List.replicate (5 : Int).toNat [V.ref one]).flatten)) p2 (.lst [.ref other])) (a := q2) (o := .lst (List.replicate (5 : Int).toNat [V.ref other]).flatten))
    have tc := t4 _ _ (t3 _ _ (t2 _ _ (upd_same (H := H1) (a := c) (o := .lst [.ref q, .ref r, .ref third]))))
    have t14 := ((t1.trans t2).trans t3).trans t4
    have sz : Same H _ := (s.trans s1).trans t14
    have eO := (h.eOne hn).mono (RdLe.of sz)
    have eT := (h.eOther hn).mono (RdLe.of sz)
    have eD := (h.eThird hn).mono (RdLe.of sz)
    refine ⟨_, _, rfl, .inr (.inl ⟨c, d, _, _, rfl, rfl, .inl ⟨.inl tc, .inl upd_same⟩, rfl, by show 3 ≤ 1000; decide, fun i x y hx hy => ?_⟩), fun H' s' => ⟨true, rfl, iteF ⟨_, rfl, sz.trans s'⟩⟩⟩
    match i, hx, hy with
    | 0, hx, hy =>
      cases hx
      cases hy
      exact eqd_rep (n := 5) (t14 _ _ eq) tq1 (by decide) eO
    | 1, hx, hy =>
      cases hx
      cases hy
      exact eqd_rep (n := 5) (t14 _ _ er) tq2 (by decide) eT
    | 2, hx, hy =>
      cases hx
      cases hy
      exact eD.up (by decide)
  · obtain ⟨y', rfl, s⟩ := z
    exact k H' y' s
end
end Ka

set_option Elab.async false
set_option linter.all false
set_option maxRecDepth 100000
set_option maxHeartbeats 4000000
namespace Ka
open PySem PySem.Spec PyProof.Rows L2 Xc
abbrev sVR : Stmt := tp 92
abbrev nVR : List Str := ["box", "one", "other", "third", "first", "second", "ones", "named", "twos", "strange", "more", "number", "made", "way", "error"]
theorem scVR : FnScope nVR ["box"] (defScope sVR) := ⟨rfl, rfl, rfl, by decide +kernel, rfl, by decide +kernel, by decide +kernel⟩
section
variable {P : Program} {w : World} {K : PySem.W.Frag} {mg : Str → Option Value} {base : Heap}
theorem occ {n : Nat} {b one other oa third t0 : Addr} {H : Hp} (h : Thg n b one other oa third t0 H) : ∀ c ∈ M6 b one other oa third t0, H c ≠ none := fun c hc z => by
  simp only [List.mem_cons, List.not_mem_nil, or_false] at hc
  rcases hc with rfl | rfl | rfl | rfl | rfl | rfl
  · obtain ⟨_, _, _, _, e, _⟩ := h.box
    rw [e] at z
    cases z
  · obtain ⟨v, r, e, _⟩ := h.xOne
    rw [e] at z
    cases z
  · obtain ⟨i, e⟩ := h.xOther
    rcases e with e | ⟨_, _, e⟩
    · rw [e] at z
      cases z
    · rw [e] at z
      cases z
  · obtain ⟨v, e, _⟩ := h.xOa
    rw [e] at z
    cases z
  · obtain ⟨v, e, _⟩ := h.xThird
    rw [e] at z
    cases z
  · obtain ⟨v, e, _⟩ := h.xT0
    rw [e] at z
    cases z
theorem nw_occ {S : List Addr} {Hs He : Hp} (h : ∀ c ∈ S, Hs c ≠ none) : Same (nw Hs He) (offL S He) := fun c u e => by
  obtain ⟨h1, h2⟩ := nw_some e
  rw [offL_out fun z => h c z h1]
  exact h2
theorem stand_app {H : Hp} : ∀ {sp sp2 : ESpec} {vs us : List V}, Stand H sp vs → Stand H sp2 us → Stand H (sp ++ sp2) (vs ++ us) := fun a b => rappend a b
theorem ok_VR {f : Addr} {fd : FuncData} (Dd : FnP K "_law_values_right" sVR f fd) (X : Fct P w K mg base) (Y : Dfs P w K mg base) : FnOk P w K mg base CX0 11 f fd ["box"] spRight := by
  obtain ⟨fT, dT, FT, BT⟩ := Y.take
  obtain ⟨fV, dV, FV, BV⟩ := Y.val
  obtain ⟨fG, dG, FG, BG⟩ := Y.things
  obtain ⟨fR, dR, FR, BR⟩ := Y.grown
  obtain ⟨fS, dS, FS, _, BS⟩ := Y.same
  obtain ⟨fP, dP, FP, BP⟩ := Y.place
  obtain ⟨fN, dN, FN, BN⟩ := Y.name
  obtain ⟨fO, dO, FO, BO⟩ := Y.ones
  obtain ⟨fW, dW, FW, BW⟩ := Y.twos
  obtain ⟨fKO, dKO, FKO, BKO⟩ := Y.kones
  obtain ⟨fKT, dKT, FKT, BKT⟩ := Y.ktwos
  have T := X.T
  refine Dd.ok scVR (fun vs H Q E h => ?_) (fun cdv A outer s H vs Q E hr h => ?_)
  · obtain ⟨b, rfl, _⟩ := h
    rfl
  have h1 : Room 1 _ := hr.mono (by decide)
  have h3 : Room 3 _ := hr.mono (by decide)
  have h4 : Room 4 _ := hr.mono (by decide)
  have hun := hr.units
  obtain ⟨b, rfl, hb, k⟩ := h
  refine ⟨_, PSs.nox (pss_cons (ps_asg (pe_callS FG h4 (by rfl) BG.g BG.kp BG.b (E := E00) pas0 (pa_cons (pv 0) pa_nil)) (pg_tup rfl (pgs_cons (pg_name (i := 1) scVR.nd rfl (Or.inr rfl)) (pgs_cons (pg_name (i := 2) scVR.nd rfl (Or.inr rfl)) (pgs_cons (pg_name (i := 3) scVR.nd rfl (Or.inr rfl)) pgs_nil)))))
      (pss_cons (ps_par (i := 4) (j := 5) rfl scVR.nd rfl rfl (by decide) rfl rfl (pa_cons (pe_callS FP h3 (by rfl) BP.g BP.kp BP.b (E := E00) pas0 (pa_cons (pv 1) pa_nil)) (pa_cons (pe_callS FN h3 (by rfl) BN.g BN.kp BN.b (E := E00) pas0 (pa_cons (pv 2) pa_nil)) pa_nil)) (by rfl))
      (pss_cons (ps_par (i := 6) (j := 7) rfl scVR.nd rfl rfl (by decide) rfl rfl (pa_cons (pe_callS FO h3 (by rfl) BO.g BO.kp BO.b (E := E00) pas0 (pa_cons (pv 2) (pa_cons pe_bl pa_nil))) (pa_cons (pe_callS FO h3 (by rfl) BO.g BO.kp BO.b (E := E00) pas0 (pa_cons (pv 3) (pa_cons pe_bl pa_nil))) pa_nil)) (by rfl))
      (pss_cons (ps_setLc (i := 8) (own := [("way", 13)]) (g := gName 13) (tt := tYes) rfl scVR.nd rfl rfl (sw_true rfl rfl rfl (by decide +kernel)) (pi_range1 (by rfl) T.range (pa_cons pe_int pa_nil)) (blkOk_by (N := nVR) (sc := defScope sVR) (by decide +kernel)) (fun _ _ _ _ _ => pg_name (i := 13) scVR.nd rfl (Or.inl rfl)) (fun _ _ _ _ _ => pts_nil) (fun _ _ _ _ _ => (pe_callS FW h3 (by rfl) BW.g BW.kp BW.b (E := E00) pas0 (pa_cons (pv 1) (pa_cons (pv 2) (pa_cons (pv 3) (pa_cons (pv 13) pa_nil)))))))
      (pss_cons (ps_set (i := 9) scVR.nd rfl (Or.inr rfl) (pe_callS FV h3 (by rfl) BV.g BV.kp BV.b (E := E00) pas0 (pa_cons (pv 0) (pa_cons pe_int pa_nil))))
      (pss_cons (ps_set (i := 10) scVR.nd rfl (Or.inl rfl) (pe_op op_cat (pe_callS FN h3 (by rfl) BN.g BN.kp BN.b (E := E00) pas0 (pa_cons (pv 9) pa_nil)) (pe_callS FP h3 (by rfl) BP.g BP.kp BP.b (E := E00) pas0 (pa_cons (pv 9) pa_nil))))
      (pss_cons (ps_for PassesOwn.never rfl (pi_tup (pe_tup (pa_cons (pe_callS FT h1 (by rfl) BT.g BT.kp BT.b (E := E00) pas0 (pa_cons (pv 0) (pa_cons pe_int pa_nil))) (pa_cons pe_str pa_nil)))) (pg_name (i := 11) scVR.nd rfl (Or.inl rfl)) (pss_cons (ps_if (PW.pt (pw_or (pt_not (pt_val (pe_callS FR h1 (by rfl) BR.g BR.kp BR.b (E := E00) pas0 (pa_cons (pv 1) (pa_cons (pv 11) pa_nil))))) (pw_or (pt_not (pt_val (pe_callS FR h1 (by rfl) BR.g BR.kp BR.b (E := E00) pas0 (pa_cons (pv 2) (pa_cons (pv 11) pa_nil))))) (pw_or1 (pt_not (pt_val (pe_callS FR h1 (by rfl) BR.g BR.kp BR.b (E := E00) pas0 (pa_cons (pv 3) (pa_cons (pv 11) pa_nil))))))))) (pss_one (ps_ret pe_bl)) pss_nil)
      (pss_cons (ps_if (PW.pt (pw_or (pt_cmpR (op_neD hun) (pe_lc (own := [("error", 14)]) (g := gName 14) rfl scVR.nd (pi_list (pv 4)) (blkOk_by (N := nVR) (sc := defScope sVR) (by decide +kernel)) (fun _ _ _ _ _ => pg_name (i := 14) scVR.nd rfl (Or.inl rfl)) (fun _ _ _ _ _ => pts_one (pt_not (pt_val (pe_callS (FS 10) hr (by rfl) BS.g BS.kp BS.b (E := E00) pas0 (pa_cons (pe_xat (pv 14) : PE _ _ (tXat K _ _)) (pa_cons (pv 1) pa_nil)))))) (fun _ _ _ _ _ => pe_int)) (pe_lst pa_nil) (nomark _)) (pw_or1 (pt_cmpR (op_neD hun) (pe_lc (own := [("error", 14)]) (g := gName 14) rfl scVR.nd (pi_list (pv 5)) (blkOk_by (N := nVR) (sc := defScope sVR) (by decide +kernel)) (fun _ _ _ _ _ => pg_name (i := 14) scVR.nd rfl (Or.inl rfl)) (fun _ _ _ _ _ => pts_one (pt_not (pt_val (pe_callS (FS 10) hr (by rfl) BS.g BS.kp BS.b (E := E00) pas0 (pa_cons (pe_xat (pv 14) : PE _ _ (tXat K _ _)) (pa_cons (pv 2) pa_nil)))))) (fun _ _ _ _ _ => pe_int)) (pe_lst pa_nil) (nomark _))))) (pss_one (ps_ret pe_bl)) pss_nil)
      (pss_cons (ps_if (PW.pt (pw_or (pt_not (pt_val (pe_callS (FS 10) hr (by rfl) BS.g BS.kp BS.b (E := E00) pas0 (pa_cons (pe_callS FKO h1 (by rfl) BKO.g BKO.kp BKO.b (E := E00) pas0 (pa_cons (pv 6) pa_nil)) (pa_cons (pe_op op_rep (pe_lst (pa_cons (pv 2) pa_nil)) pe_int) pa_nil))))) (pw_or1 (pt_not (pt_val (pe_callS (FS 10) hr (by rfl) BS.g BS.kp BS.b (E := E00) pas0 (pa_cons (pe_callS FKO h1 (by rfl) BKO.g BKO.kp BKO.b (E := E00) pas0 (pa_cons (pv 7) pa_nil)) (pa_cons (pe_op op_rep (pe_lst (pa_cons (pv 3) pa_nil)) pe_int) pa_nil)))))))) (pss_one (ps_ret pe_bl)) pss_nil)
      (pss_one (ps_for PassesOwn.never rfl (pi_list (pv 8)) (pg_name (i := 12) scVR.nd rfl (Or.inl rfl)) (pss_one (ps_if (pt_not (pt_val (pe_callS (FS 10) hr (by rfl) BS.g BS.kp BS.b (E := E00) pas0 (pa_cons (pe_callTy call_list_of (by rfl) T.list (by decide +kernel) (pa_cons (pe_callS FKT h1 (by rfl) BKT.g BKT.kp BKT.b (E := E00) pas0 (pa_cons (pv 12) pa_nil)) pa_nil)) (pa_cons (pe_lst (pa_cons (pe_op op_rep (pe_lst (pa_cons (pv 1) pa_nil)) pe_int) (pa_cons (pe_op op_rep (pe_lst (pa_cons (pv 2) pa_nil)) pe_int) (pa_cons (pv 3) pa_nil)))) pa_nil))))) (pss_one (ps_ret pe_bl)) pss_nil))))))))
      (pss_one (ps_ret (pe_cmpR (op_eqD hun) (pe_lc (own := [("error", 14)]) (g := gName 14) rfl scVR.nd (pi_list (pv 10)) (blkOk_by (N := nVR) (sc := defScope sVR) (by decide +kernel)) (fun _ _ _ _ _ => pg_name (i := 14) scVR.nd rfl (Or.inl rfl)) (fun _ _ _ _ _ => pts_one (pt_not (pt_val (pe_callS (FS 10) hr (by rfl) BS.g BS.kp BS.b (E := E00) pas0 (pa_cons (pe_xat (pv 14) : PE _ _ (tXat K _ _)) (pa_cons (pv 9) pa_nil)))))) (fun _ _ _ _ _ => pe_int)) (pe_lst pa_nil) (nomark _))))))))))), ?_⟩
  refine ⟨_, rfl, b, rfl, hb, fun t one other oa third t0 H1 tb gt g1 g2 g3 g4 g5 et nt th => ?_⟩
  refine ⟨t, _, rfl, SqT.of et, rfl, _, _, rfl, _, _, rfl, _, _, rfl, rfl, ?_⟩
  refine ⟨_, rfl, spPlace K (.ref one), rfl, fun l1 us1 H2 n1 s1 e1 m1 => ⟨_, rfl, spName K (.ref other), rfl, fun l2 us2 H3 n2 s2 e2 m2 => ⟨_, _, rfl, ?_⟩⟩⟩
  refine ⟨_, rfl, spOnes K (.ref other), rfl, fun l3 us3 H4 n3 s3 e3 m3 => ⟨_, rfl, spOnes K (.ref third), rfl, fun l4 us4 H5 n4 s4 e4 m4 => ⟨_, _, rfl, ?_⟩⟩⟩
  have bM : b ∈ M6 b one other oa third t0 := List.mem_cons_self
  have th2 := th.go (.of th.box s1)
  have th3 := th2.go (.of th2.box s2)
  have th4 := th3.go (.of th3.box s3)
  have th5 := th4.go (.of th4.box s4)
  refine ⟨4, rfl, by decide, by decide, fun l5 a5 => lc_range (lo := 0) (n := (4 : Int).toNat) (fun i H' => Same H5 H' ∧ ∃ ms, H' l5 = some (.lst ms) ∧ ms.length = i ∧ ∀ m ∈ ms, ∃ l, m = .ref l ∧ LE (offL (l5 :: M6 b one other oa third t0) H') l (spTwos K (.ref one) (.ref other) (.ref third))) ⟨same_new a5, [], upd_same, rfl, fun m hm => absurd hm (by simp)⟩ (fun i H' hi z => ?_) (fun H6 z => ?_)⟩
  · obtain ⟨sz, ms, em, lm, hm⟩ := z
    refine ⟨rfl, _, rfl, _, rfl, _, rfl, _, rfl, spTwos K (.ref one) (.ref other) (.ref third), rfl, fun l us H'' nl sl el ml => ?_⟩
    have thz := th5.go (.of th5.box sz)
    have oc : ∀ c ∈ l5 :: M6 b one other oa third t0, H' c ≠ none := fun c hc => by
      rcases List.mem_cons.mp hc with rfl | hc
      · rw [em]
        exact fun z => by cases z
      · exact occ thz c hc
    have eo : offL (l5 :: M6 b one other oa third t0) (upd H'' l5 (.lst (ms ++ [.ref l]))) = offL (l5 :: M6 b one other oa third t0) H'' := offL_upd List.mem_cons_self
    have ii : i < 4 := hi
    refine ⟨ms, sl _ _ em, Nat.lt_of_le_of_lt (show ms.length ≤ 4 by omega) (by decide), fun c u e => ?_, ms ++ [.ref l], upd_same, by rw [List.length_append, lm]; rfl, fun m hm2 => ?_⟩
    · rw [upd_ne (ne_of_none e a5)]
      exact sl _ _ (sz _ _ e)
    · rw [eo]
      rcases List.mem_append.mp hm2 with h | h
      · obtain ⟨l', q1, q2⟩ := hm m h
        refine ⟨l', q1, q2.mono fun c u e => ?_⟩
        obtain ⟨x1, x2⟩ := offL_some e
        rw [offL_out x1]
        exact sl _ _ x2
      · exact ⟨l, List.mem_singleton.mp h, le_made oc nl el ml⟩
  obtain ⟨s6, ms, e6, lm, hms⟩ := z
  have th6 := th5.go (.of th5.box s6)
  refine ⟨_, rfl, b, 1, rfl, by decide, th6.box, fun v H7 t7 V7 => ?_⟩
  have th7 := th6.go t7
  refine ⟨_, rfl, spName K v, rfl, fun la ua Ha na sa ea ma => ⟨_, rfl, spPlace K v, rfl, fun lb ub Hb nb sb eb mb => ?_⟩⟩
  have za : 47 = ua.length := ma.length
  have zb : 47 = ub.length := mb.length
  refine ⟨la, lb, ua, ub, rfl, rfl, sb _ _ ea, eb, Nat.le_trans (show ua.length + ub.length ≤ 94 by omega) (by decide), fun l6 h6 => ?_⟩
  have sc := same_new (o := .lst (ua ++ ub)) h6
  have ec : upd Hb l6 (.lst (ua ++ ub)) l6 = some (.lst (ua ++ ub)) := upd_same
  have g7 : H7 l6 = none := Evl.fresh_back sa (Evl.fresh_back sb h6)
  generalize upd Hb l6 (.lst (ua ++ ub)) = H8 at sc ec ⊢
  have tha := th7.go (.of th7.box sa)
  have thb := tha.go (.of tha.box sb)
  have th8 := thb.go (.of thb.box sc)
  have t78 : BoxTo b H7 H8 := .of th7.box ((sa.trans sb).trans sc)
  have t28 : BoxTo b H2 H8 := (((BoxTo.of th2.box (s2.trans (s3.trans s4))).trans (.of th5.box s6)).trans t7).trans t78
  have t38 : BoxTo b H3 H8 := (((BoxTo.of th3.box (s3.trans s4)).trans (.of th5.box s6)).trans t7).trans t78
  have t48 : BoxTo b H4 H8 := (((BoxTo.of th4.box s4).trans (.of th5.box s6)).trans t7).trans t78
  have t58 : BoxTo b H5 H8 := ((BoxTo.of th5.box s6).trans t7).trans t78
  have t68 : BoxTo b H6 H8 := t7.trans t78
  have tH8 : BoxTo b H H8 := (tb.trans (.of th.box s1)).trans t28
  have F8 : Fix K (offL (M6 b one other oa third t0) H8) (.ref one) (.ref other) (.ref third) v l1 l2 l3 l4 l5 l6 := by
    refine ⟨(le_made (occ th) n1 e1 m1).mono (offL_box bM t28), (le_made (occ th2) n2 e2 m2).mono (offL_box bM t38), (le_made (occ th3) n3 e3 m3).mono (offL_box bM t48), (le_made (occ th4) n4 e4 m4).mono (offL_box bM t58), ⟨ms, ?_, Nat.le_trans (show ms.length ≤ 4 by rw [lm]; decide) (by decide), fun m hm => ?_⟩, ⟨ua ++ ub, ?_, ?_⟩, ?_⟩
    · rw [offL_out fun z => occ th5 l5 z a5]
      exact t68.keep (th5.box.ne a5) e6
    · obtain ⟨l, q1, q2⟩ := hms m hm
      refine ⟨l, q1, q2.mono fun c u e => ?_⟩
      obtain ⟨x1, x2⟩ := offL_some e
      have x3 : c ∉ M6 b one other oa third t0 := fun z => x1 (List.mem_cons_of_mem _ z)
      rw [offL_out x3]
      exact t68.keep (fun z => x3 (by rw [z]; exact bM)) x2
    · rw [offL_out fun z => occ th7 l6 z g7]
      exact ec
    · exact stand_app ((stand_made (occ th7) ma).mono (offL_box bM (.of tha.box (sb.trans sc)))) ((stand_made (occ tha) mb).mono (offL_box bM (.of thb.box sc)))
    · exact ((V7.1.mono (RdLe.of (nw_occ (occ th6)))).mono (RdLe.of (offL_box bM t78))).up (by decide)
  have newM : ∀ c ∈ M6 b one other oa third t0, c ≠ b → H c = none := fun c hc nb => by
    simp only [List.mem_cons, List.not_mem_nil, or_false] at hc
    rcases hc with rfl | rfl | rfl | rfl | rfl | rfl
    · exact absurd rfl nb
    · exact g1
    · exact g2
    · exact g4
    · exact g3
    · exact g5
  refine ⟨_, rfl, b, 100, rfl, th8.box, by decide, by decide, fun d H9 _ _ t9 => ⟨(by show 2 ≤ sizeLine; decide), fun q hq => ?_⟩⟩
  have sq := same_new (o := .tup [.int d, .str "z"]) hq
  have eq : upd H9 q (.tup [.int d, .str "z"]) q = some (.tup [.int d, .str "z"]) := upd_same
  have th9 := th8.go t9
  generalize upd H9 q (.tup [.int d, .str "z"]) = Ht at sq eq ⊢
  have tht := th9.go (.of th9.box sq)
  have t8t : BoxTo b H8 Ht := t9.trans (.of th9.box sq)
  have qM : q ∉ M6 b one other oa third t0 := fun z => occ th9 q z hq
  refine ⟨q, rfl, ⟨_, SqT.of eq⟩, for_tup (xs := [.int d, .str "z"]) (fun i σ H' => ∃ x y n, σ = sv b one other third l1 l2 l3 l4 l5 l6 v x y ∧ n ≤ 3 + 3 * i ∧ Thg n b one other oa third t0 H' ∧ Fix K (offL (M6 b one other oa third t0) H') (.ref one) (.ref other) (.ref third) v l1 l2 l3 l4 l5 l6 ∧ offL (M6 b one other oa third t0) H' q = some (.tup [.int d, .str "z"]) ∧ ∀ c u, c ≠ b → H c = some u → H' c = some u)
    ⟨_, _, 3, rfl, by decide, tht, F8.mono (offL_box bM t8t), by rw [offL_out qM]; exact eq, fun c u nb e => (tH8.trans t8t).keep nb e⟩ (fun i σ H' _ z => ?_) (fun i x σ H' hx z => ?_) (fun σ H' z => ?_)⟩
  · obtain ⟨x, y, n, _, _, _, _, e, _⟩ := z
    exact SqT.of (offL_sub _ _ e)
  · obtain ⟨x0, y, n, rfl, ln, th', F', eq', kp⟩ := z
    have hi : i < 2 := (List.getElem?_eq_some_iff.mp hx).1
    have hsc : Sc x := by
      have hm := List.mem_of_getElem? hx
      simp only [List.mem_cons, List.not_mem_nil, or_false] at hm
      rcases hm with rfl | rfl
      · exact True.intro
      · exact show (Str.ofString "z").length ≤ 2000 by decide
    refine rd_grow (K := K) th' (by omega) hsc fun Hx e1 gx => ?_
    have Fx : Fix K (offL (M6 b one other oa third t0) Hx) (.ref one) (.ref other) (.ref third) v l1 l2 l3 l4 l5 l6 := by rw [e1]; exact F'
    refine rd_given X.E gx (by omega) Fx fun Hy sy => ?_
    have gy := gx.go (.of gx.box sy)
    have Fy := Fx.mono (offL_box bM (.of gx.box sy))
    refine rd_ones gy (by omega) Fy fun Hz sz => ?_
    have gz := gy.go (.of gy.box sz)
    have Fz := Fy.mono (offL_box bM (.of gy.box sz))
    refine rd_twos gz (by omega) Fz fun Hw y' sw => ?_
    have gw := gz.go (.of gz.box sw)
    have sAll : Same Hx Hw := (sy.trans sz).trans sw
    refine ⟨_, _, n + 3, rfl, by omega, gw, Fz.mono (offL_box bM (.of gz.box sw)), offL_box bM (.of gx.box sAll) _ _ (by rw [e1]; exact eq'), fun c u nb e => sAll _ _ ?_⟩
    have cM : c ∉ M6 b one other oa third t0 := fun z => by
      have := newM c z nb
      rw [this] at e
      cases e
    have h1 := congrFun e1 c
    rw [offL_out cM, offL_out cM] at h1
    rw [h1]
    exact kp c u nb e
  · obtain ⟨x, y, n, rfl, ln, th', F', eq', kp⟩ := z
    obtain ⟨us, q1, q2⟩ := F'.a6
    refine nil_cmp (given_l X.E (v := v) (offL_sub _ _ q1) (q2.mono offL_sub) (fun s hs => ?_) (F'.dv.mono (RdLe.of offL_sub)) (Nat.le_of_ble_eq_true rfl) rfl (fun _ => rfl) (fun _ => rfl) (fun _ => rfl)) fun Hz sz => ?_
    · rcases List.mem_append.mp hs with h | h
      · rw [← name_eq]
        exact h
      · rw [← place_eq]
        exact h
    · refine k Hz ⟨th'.box.same sz, fun c u e => ?_⟩
      obtain ⟨nb, e⟩ := of_off e
      rw [off_ne nb]
      exact sz _ _ (kp c u nb e)
end
end Ka

set_option Elab.async false
set_option linter.all false
set_option maxRecDepth 100000
set_option maxHeartbeats 4000000
namespace Ka
open PySem PySem.Spec PyProof.Rows L2 Xc
abbrev sWR : Stmt := tp 93
abbrev nWR : List Str := ["box", "inner", "outer", "unlike", "held", "both"]
theorem scWR : FnScope nWR ["box"] (defScope sWR) := ⟨rfl, rfl, rfl, by decide +kernel, rfl, by decide +kernel, by decide +kernel⟩
theorem seq_f {a r : TS} {D : Ends} {σ : L2.St} {H : Hp} (h : a { D with nx := r D } σ H) : tSeq a r D σ H := h
theorem ret_f {te : TE} {D : Ends} {σ : L2.St} {H : Hp} (h : te σ H D.rt) : tRet te D σ H := h
theorem and_v {ta tb : TE} {σ : L2.St} {H : Hp} {Q : VK} (h : ta σ H fun x H1 => ∃ c, x = .bl c ∧ if c = true then tb σ H1 Q else Q (.bl false) H1) : tAndV ta tb σ H Q := h
theorem or_f {t u : TT} {σ : L2.St} {H : Hp} {Q : Bool → Hp → Prop} (h : t σ H fun c H1 => if c = true then Q true H1 else u σ H1 Q) : tOr t u σ H Q := h
theorem kit_self {K : PySem.W.Frag} {C : Addr} : PySem.W.kitOne K (.ref C) (.ref C) = some true := by
  unfold PySem.W.kitOne
  rw [if_pos (beq_self_eq_true _)]
theorem new_same {H H' : Hp} {e d : Addr} (h1 : H e = none) (h2 : H d = none) (h : ∀ b, b ≠ e → b ≠ d → H' b = H b) : Same H H' := fun c u x => by
  rw [h c (ne_of_none x h1) (ne_of_none x h2)]
  exact x
/-- e.f -/
theorem rd_xat {P : Program} {w : World} {K : PySem.W.Frag} {mg : Str → Option Value} {base : Heap} {Pb C e : Addr} {x f : Str} {ns : List Str} {fs : List (Str × V)} {te : TE} {σ : L2.St} {H : Hp} {v : V} (E : Ec P w K mg base Pb x ns C) (h : Evl.Ev te σ H (.ref e)) (hf : f ∈ ns) (a : ExAt H e C fs) (l : fs.lookup f = some v) : Evl.Ev (tXat K f te) σ H v :=
  ev_xat h E.cl.xf (E.no f hf) a l
theorem rd_isx {K : PySem.W.Frag} {Pb C e : Addr} {fs : List (Str × V)} {te : TE} {σ : L2.St} {H : Hp} {Q : Bool → Hp → Prop} (E : Ecl K Pb C) (h : Evl.Ev te σ H (.ref e)) (a : ExAt H e C fs) (q : ∀ H', Same H H' → Q false H') : tNot (tB (tCB (rIsX K) (tCons te (tCons (tC (.ref C)) tNil)))) σ H Q :=
  h H (Evl.Ex.refl H) _ fun H1 s1 => by
    obtain ⟨d, x1, x2⟩ := exAt_mono s1 a
    exact ⟨e, C, some d, _, _, true, rfl, .own C, E.exc, x1, fun dd hd => ⟨fs, by cases hd; exact x2⟩, kit_self, true, rfl, q H1 s1⟩
theorem rd_same2 {n : Nat} {ta tb : TE} {σ : L2.St} {H : Hp} {Q : VK} {u v : V} (ha : Evl.Ev ta σ H u) (hb : ∀ H1, Same H H1 → Evl.Ev tb σ H1 v) (e : EqD n H u v) (q : ∀ H', Same H H' → Q (.bl true) H') : tCallS (spS (n + 1)) E00 (tCons ta (tCons tb tNil)) σ H Q :=
  ha H (Evl.Ex.refl H) _ fun H1 s1 => hb H1 s1 H1 (Evl.Ex.refl H1) _ fun H2 s2 => ⟨u, v, rfl, e.mono (RdLe.of (Same.trans s1 s2)), fun H' s' => q H' ((Same.trans s1 s2).trans s')⟩
section
variable {P : Program} {w : World} {K : PySem.W.Frag} {mg : Str → Option Value} {base : Heap}
theorem ok_WR {f : Addr} {fd : FuncData} (Dd : FnP K "_law_within_right" sWR f fd) (X : Fct P w K mg base) (Y : Dfs P w K mg base) : FnOk P w K mg base CX0 5 f fd ["box"] spRight := by
  obtain ⟨fV, dV, FV, BV⟩ := Y.val
  obtain ⟨fS, dS, FS, _, BS⟩ := Y.same
  refine Dd.ok scWR (fun vs H Q E h => ?_) (fun cdv A outer s H vs Q E hr h => ?_)
  · obtain ⟨b, rfl, _⟩ := h
    rfl
  have h2 : Room 2 _ := hr.mono (by decide)
  have h3 : Room 3 _ := hr.mono (by decide)
  obtain ⟨b, rfl, hb, k⟩ := h
  refine ⟨_, pss_cons (ps_set (i := 1) scWR.nd rfl (Or.inl rfl) (pe_ep (X.E 38 "InvalidTheory" _ _ rfl) h2 (by rfl) (by decide) (pa_cons (pe_callS FV h3 (by rfl) BV.g BV.kp BV.b (E := E00) pas0 (pa_cons (pv 0) (pa_cons pe_int pa_nil))) pa_nil)))
      (pss_cons (ps_par (i := 2) (j := 3) rfl scWR.nd rfl rfl (by decide) rfl rfl (pa_cons (pe_ek (X.E 15 "InvalidNet" _ _ rfl) h2 (by rfl) (pk_cons (pv 1) pk_nil)) (pa_cons (pe_ep (X.E 63 "TooMany" _ _ rfl) h2 (by rfl) (by decide) (pa_cons (pe_callS FV h3 (by rfl) BV.g BV.kp BV.b (E := E00) pas0 (pa_cons (pv 0) (pa_cons pe_int pa_nil))) pa_nil)) pa_nil)) (by rfl))
      (pss_cons (ps_par (i := 4) (j := 5) rfl scWR.nd rfl rfl (by decide) rfl rfl (pa_cons (pe_xat (pe_ek (X.E 61 "Taken" _ _ rfl) h2 (by rfl) (pk_cons (pv 2) pk_nil))) (pa_cons (pe_ep (X.E 69 "NotLocal" _ _ rfl) h2 (by rfl) (by decide) (pa_cons (pv 3) (pa_cons (pv 2) (pa_cons (pv 1) pa_nil)))) pa_nil)) (by rfl))
      (pss_cons (ps_if (PW.pt (pw_or (pt_not (pt_val (pe_callB call_isX (by rfl) X.T.isi (by decide +kernel) (pa_cons (pv 4) (pa_cons (pe_glob (v := .ref (He.ga K "InvalidNet")) (by rfl) (X.E 15 "InvalidNet" _ _ rfl).g rfl) pa_nil))))) (pw_or (pt_not (pt_val (pe_callB call_isX (by rfl) X.T.isi (by decide +kernel) (pa_cons (pe_xat (pv 5)) (pa_cons (pe_glob (v := .ref (He.ga K "TooMany")) (by rfl) (X.E 63 "TooMany" _ _ rfl).g rfl) pa_nil))))) (pw_or (pt_not (pt_val (pe_callB call_isX (by rfl) X.T.isi (by decide +kernel) (pa_cons (pe_xat (pv 5)) (pa_cons (pe_glob (v := .ref (He.ga K "InvalidNet")) (by rfl) (X.E 15 "InvalidNet" _ _ rfl).g rfl) pa_nil))))) (pw_or1 (pt_not (pt_val (pe_callB call_isX (by rfl) X.T.isi (by decide +kernel) (pa_cons (pe_xat (pv 5)) (pa_cons (pe_glob (v := .ref (He.ga K "InvalidTheory")) (by rfl) (X.E 38 "InvalidTheory" _ _ rfl).g rfl) pa_nil)))))))))) (pss_one (ps_ret pe_bl)) pss_nil)
      (pss_one (ps_ret (pe_and (pe_callS (FS 4) hr (by rfl) BS.g BS.kp BS.b (E := E00) pas0 (pa_cons (pe_xat (pe_xat (pv 4))) (pa_cons (pe_xat (pv 1)) pa_nil))) (pe_and (pe_callS (FS 4) hr (by rfl) BS.g BS.kp BS.b (E := E00) pas0 (pa_cons (pe_xat (pe_xat (pv 5))) (pa_cons (pe_xat (pv 3)) pa_nil))) (pe_one (pe_callS (FS 4) hr (by rfl) BS.g BS.kp BS.b (E := E00) pas0 (pa_cons (pe_xat (pe_xat (pv 5))) (pa_cons (pe_xat (pv 1)) pa_nil))))))))))), ?_⟩
  refine ⟨_, rfl, b, 0, rfl, by decide, hb, fun v1 H1 t1 V1 => ⟨rfl, rfl, fun e1 d1 H2 n1 m1 _ x1 y1 z1 => ?_⟩⟩
  have s2 := new_same n1 m1 z1
  have b2 : BoxAt H2 b := t1.1.same s2
  refine ⟨_, rfl, rfl, rfl, fun e2 d2 H3 n2 m2 _ x2 y2 z2 => ?_⟩
  have s3 := new_same n2 m2 z2
  have b3 : BoxAt H3 b := b2.same s3
  refine ⟨_, rfl, b, 0, rfl, by decide, b3, fun v2 H4 t4 V2 => ⟨rfl, rfl, fun e3 d3 H5 n3 m3 _ x3 y3 z3 => ⟨_, _, rfl, ?_⟩⟩⟩
  have s5 := new_same n3 m3 z3
  refine ⟨_, rfl, rfl, rfl, fun e4 d4 H6 n4 m4 _ x4 y4 z4 => ⟨e4, _, d4, _, .ref e2, rfl, (X.E 61 "Taken" _ _ rfl).cl.xf, (X.E 61 "Taken" _ _ rfl).no _ (List.mem_singleton.mpr rfl), x4, y4, rfl, ?_⟩⟩
  have s6 := new_same n4 m4 z4
  refine ⟨_, rfl, _, rfl, _, rfl, rfl, rfl, fun e5 d5 H7 n5 m5 _ x5 y5 z5 => ⟨_, _, rfl, ?_⟩⟩
  have s7 := new_same n5 m5 z5
  have s57 := (s5.trans s6).trans s7
  have t27 : BoxTo b H2 H7 := ((BoxTo.of b2 s3).trans t4).trans (.of t4.1 s57)
  have t37 : BoxTo b H3 H7 := t4.trans (.of t4.1 s57)
  have t17 : BoxTo b H H7 := (t1.trans (.of t1.1 s2)).trans t27
  have a1 : ExAt H7 e1 (He.ga K "InvalidTheory") [("given", v1)] := ⟨d1, t27.keep (t1.1.ne n1) x1, t27.keep (t1.1.ne m1) y1⟩
  have a2 : ExAt H7 e2 (He.ga K "InvalidNet") [("given", .ref e1)] := ⟨d2, t37.keep (b2.ne n2) x2, t37.keep (b2.ne m2) y2⟩
  have a3 : ExAt H7 e3 (He.ga K "TooMany") [("count", v2)] := ⟨d3, (s6.trans s7) _ _ x3, (s6.trans s7) _ _ y3⟩
  have a5 : ExAt H7 e5 (He.ga K "NotLocal") [("values", .ref e1), ("variable", .ref e2), ("outcome", .ref e3)] := ⟨d5, x5, y5⟩
  have q1 : EqD 3 H7 v1 v1 := (V1.1.mono (RdLe.of (nw_later hb ((BoxTo.of t1.1 s2).trans t27)))).mono (RdLe.of nw_sub)
  have q2 : EqD 3 H7 v2 v2 := (V2.1.mono (RdLe.of (nw_later b3 (.of t4.1 s57)))).mono (RdLe.of nw_sub)
  have E1 := (X.E 38 "InvalidTheory" _ _ rfl)
  have E2 := (X.E 15 "InvalidNet" _ _ rfl)
  have E3 := (X.E 63 "TooMany" _ _ rfl)
  have E5 := (X.E 69 "NotLocal" _ _ rfl)
  dsimp only
  refine seq_f ?_
  refine if_or ?_
  refine rd_isx E2.cl (by exact Evl.ev_var rfl) a2 fun Ha sa => ?_
  refine iteF ?_
  refine or_f ?_
  refine rd_isx E3.cl (rd_xat E5 (by exact Evl.ev_var rfl) (.head _) (exAt_mono sa a5) rfl) (exAt_mono sa a3) fun Hb sb => ?_
  refine iteF ?_
  have sab := sa.trans sb
  refine or_f ?_
  refine rd_isx E2.cl (rd_xat E5 (by exact Evl.ev_var rfl) (.tail _ (.head _)) (exAt_mono sab a5) rfl) (exAt_mono sab a2) fun Hc sc => ?_
  refine iteF ?_
  have sac := sab.trans sc
  refine rd_isx E1.cl (rd_xat E5 (by exact Evl.ev_var rfl) (.tail _ (.tail _ (.head _))) (exAt_mono sac a5) rfl) (exAt_mono sac a1) fun Hd sd => ?_
  refine iteF ?_
  have sad := sac.trans sd
  dsimp only [tNext]
  refine ret_f ?_
  refine and_v ?_
  refine rd_same2 (n := 3) (rd_xat E1 (rd_xat E2 (by exact Evl.ev_var rfl) (.head _) (exAt_mono sad a2) rfl) (.head _) (exAt_mono sad a1) rfl) (fun H1 s1 => rd_xat E1 (by exact Evl.ev_var rfl) (.head _) (exAt_mono (sad.trans s1) a1) rfl) (q1.mono (RdLe.of sad)) fun He se => ⟨true, rfl, iteT ?_⟩
  have sae := sad.trans se
  refine and_v ?_
  refine rd_same2 (n := 3) (rd_xat E3 (rd_xat E5 (by exact Evl.ev_var rfl) (.head _) (exAt_mono sae a5) rfl) (.head _) (exAt_mono sae a3) rfl) (fun H1 s1 => rd_xat E3 (by exact Evl.ev_var rfl) (.head _) (exAt_mono (sae.trans s1) a3) rfl) (q2.mono (RdLe.of sae)) fun Hf sf => ⟨true, rfl, iteT ?_⟩
  have saf := sae.trans sf
  refine rd_same2 (n := 3) (rd_xat E1 (rd_xat E5 (by exact Evl.ev_var rfl) (.tail _ (.tail _ (.head _))) (exAt_mono saf a5) rfl) (.head _) (exAt_mono saf a1) rfl) (fun H1 s1 => rd_xat E1 (by exact Evl.ev_var rfl) (.head _) (exAt_mono (saf.trans s1) a1) rfl) (q1.mono (RdLe.of saf)) fun Hg sg => ?_
  exact k Hg (t17.trans (.of t17.1 (saf.trans sg)))
end
end Ka

set_option Elab.async false
set_option linter.all false
set_option maxRecDepth 100000
set_option maxHeartbeats 4000000
namespace Ka
open PySem PySem.Spec PyProof.Rows L2 L2H HotX Xc
abbrev sKR : Stmt := tp 94
abbrev nKR : List Str := ["box", "thing", "way", "e"]
theorem scK : FnScope nKR ["box"] (defScope sKR) := ⟨rfl, rfl, rfl, by decide +kernel, rfl, by decide +kernel, by decide +kernel⟩
theorem tk0 {X : Cx} : L2N.Takes X (fun _ _ _ _ => False) := fun _ _ x => by
  obtain ⟨_, _, _, _, _, _, _, _, _, _, _, _, _, _, _, _, w⟩ := x
  exact w.elim
theorem pmk0 {X : Cx} {K : PySem.W.Frag} {H0 : Hp} {e : Expr} {te : TE} (eK : X.K = K) (eH : X.H_0 = H0) (hx : X.ex = []) (he : PE X e te) :
    L2N.PMk X e (fun σ H Q => te σ H fun x H1 => ∃ (a C : Addr) (o : Option (Addr × List (Str × V))), x = .ref a ∧ H1 a = some (exo a C (o.map (·.1))) ∧ (∀ z, o = some z → H1 z.1 = some (exd z.1 z.2)) ∧ H0 a = none ∧ (PySem.W.subIn K (.ref C) (.type "BaseException") = some true ∧ PySem.W.typeIn K (.ref C) = some (.type "type")) ∧ Q (.ref C) (o.map (·.1)) (flown H1 a o)) := by
  subst eK eH
  intro pins s σ H Q I h
  refine wpAny_mono (he.run pins s σ H _ I h) (fun u s1 hu => ?_) fun _ _ z => z
  obtain ⟨v, H1, I1, r1, a, C, o, rfl, ha, hd, h0, hr, q⟩ := hu
  have h0 : Fr0 X.H_0 a := fr0_none h0
  have hr : Raises X (.ref C) := raises_own hr.1 hr.2
  obtain rfl : u = Value.ref a := r1
  obtain ⟨t1, hob⟩ := exo_at I1.hok ha
  obtain ⟨G, gs, ga, J⟩ := I1.untrack ha h0 hx
  have key : ∃ H', Inv X pins σ H' { s1 with heap := G } ∧ H' a = none ∧ H' = flown H1 a o := by
    cases o with
    | none => exact ⟨_, J, delH_same, rfl⟩
    | some z =>
      obtain ⟨d, fs⟩ := z
      have hdd : H1 d = some (exd d fs) := hd _ rfl
      have hda : d ≠ a := fun z => by
        rw [z, ha] at hdd
        obtain ⟨mA, ⟨ob, es, ep, e1, e2, _⟩, _⟩ := exd_at I1.hok (show H1 d = some (exd d fs) from hd _ rfl)
        rw [z, hob] at e1
        cases e1
        cases e2
      have hdJ : delH H1 a d = some (exd d fs) := by rw [delH_ne hda]; exact hdd
      obtain ⟨mA, hns, hrl⟩ := exd_at J.hok hdJ
      obtain ⟨ob, es, ep, e1, e2⟩ := hns
      have J2 := J.write (t' := s1.toks) (x := d) (e := d) (o := .xd fs) (h' := G) (by rw [hdJ]; exact True.intro) (.inl rfl) (fun b u _ z => z) ⟨_, e1⟩ ⟨mA, ⟨ob, es, ep, e1, e2⟩, hrl⟩
      exact ⟨_, J2, by rw [upd_ne (Ne.symm hda), delH_same], rfl⟩
  obtain ⟨H', J', na, eH⟩ := key
  exact ⟨a, _, _, { s1 with heap := G }, H', .ref C, o.map (·.1), rfl, J', gs, ga, hob, ⟨rfl, rfl, fun vs z => by cases z; rfl⟩, rfl, rfl, na, rfl, I1.bare, hr, by rw [eH]; exact q⟩
theorem exm_ecl {K : PySem.W.Frag} {P C D : Addr} (E : Ecl K P C) (F : Ecl K P D) (hP : D ≠ P) : PySem.W.exmOne K (.ref C) (.ref D) = some (decide (C = D)) := by
  unfold PySem.W.exmOne
  rw [F.xf.exC, if_pos (by decide)]
  obtain ⟨cd, f1, _⟩ := F.mro
  unfold PySem.W.kitCls
  simp only
  rw [f1, F.ty, if_pos (by simp)]
  show PySem.W.mroIn K C (.ref D) = _
  rw [ecl_mroIn E]
  by_cases e : C = D
  · subst e
    simp
  · simp [HandSPX.veTail, Ne.symm e, hP, e]
theorem exm_base {K : PySem.W.Frag} {P C : Addr} (E : Ecl K P C) (hP : (PySem.W.clsIn K P).isSome = true) (tP : PySem.W.typeIn K (.ref P) = some (.type "type")) (sP : PySem.W.subIn K (.ref P) (.type "BaseException") = some true) : PySem.W.exmOne K (.ref C) (.ref P) = some true := by
  unfold PySem.W.exmOne
  rw [sP, if_pos (by decide)]
  unfold PySem.W.kitCls
  simp only
  rw [hP, tP, if_pos (by simp)]
  show PySem.W.mroIn K C (.ref P) = _
  rw [ecl_mroIn E]
  simp
section
variable {P : Program} {w : World} {K : PySem.W.Frag} {mg : Str → Option Value} {base : Heap}
theorem ok_KR {f : Addr} {fd : FuncData} (Dd : FnP K "_law_caught_right" sKR f fd) (X : Fct P w K mg base) (Y : Dfs P w K mg base) : FnOk P w K mg base CX0 4 f fd ["box"] spRight := by
  obtain ⟨fT, dT, FT, BT⟩ := Y.take
  obtain ⟨fS, dS, _, FSH, BS⟩ := Y.same
  refine Dd.ok scK (fun vs H Q E h => ?_) (fun cdv A outer s H vs Q E hr h => ?_)
  · obtain ⟨b, rfl, _⟩ := h
    rfl
  have h1 : Room 1 _ := hr.mono (by decide)
  have h2 : Room 2 _ := hr.mono (by decide)
  have hrH0 : L2H.RoomH 2 _ := L2H.roomH_of h2
  have hrH : ∀ {a : Addr}, L2H.RoomH 2 ((A.deeper (envOfC "_law_caught_right" (defScope sKR) s.heap.objs.size f cdv)).mark (some (.ref a))) := ⟨hrH0.dp, hrH0.un⟩
  obtain ⟨b, rfl, hb, k⟩ := h
  refine ⟨_, pss_cons (ps_par (i := 1) (j := 2) rfl scK.nd rfl rfl (by decide) rfl rfl (pa_cons (pe_lst (pa_cons (pe_callS FT h1 (by rfl) BT.g BT.kp BT.b (E := E00) pas0 (pa_cons (pv 0) (pa_cons pe_int pa_nil))) pa_nil)) (pa_cons (pe_callS FT h1 (by rfl) BT.g BT.kp BT.b (E := E00) pas0 (pa_cons (pv 0) (pa_cons pe_int pa_nil))) pa_nil)) (by rfl))
    (pss_one (ps_tryMA rfl rfl scK.nd tk0 (Wout := fun _ _ _ _ => False) (fun W pn xe tk _ => pss_cons (ps_if (pt_cmpR op_eq (pv 2) pe_int (nomark _)) (pss_one (L2N.ps_raise rfl tk (pmk0 (K := K) (H0 := H) rfl rfl rfl (pe_ep (X.E 2 "InvalidChances" _ _ rfl) h2 (by rfl) (by decide) (pa_cons (pv 1) pa_nil))))) pss_nil)
      (pss_cons (ps_if (pt_cmpR op_eq (pv 2) pe_int (nomark _)) (pss_one (L2N.ps_raise rfl tk (pmk0 (K := K) (H0 := H) rfl rfl rfl (pe_ek (X.E 41 "InvalidValues" _ _ rfl) h2 (by rfl) (pk_cons (pv 1) pk_nil))))) pss_nil)
      (pss_cons (ps_if (pt_cmpR op_eq (pv 2) pe_int (nomark _)) (pss_one (L2N.ps_raise rfl tk (pmk0 (K := K) (H0 := H) rfl rfl rfl (pe_ek (X.E 68 "Told" _ _ rfl) h2 (by rfl) (pk_cons (pv 1) (pk_cons pe_int pk_nil)))))) pss_nil)
      (pss_cons (ps_if (pt_cmpR op_eq (pv 2) pe_int (nomark _)) (pss_one (L2N.ps_raise rfl tk (pmk0 (K := K) (H0 := H) rfl rfl rfl (pe_newE0 PySem.F.excBase_ValueError X.xU (X.G 71 _ rfl) X.kU (by rfl))))) pss_nil)
      (pss_one (L2N.ps_raise rfl tk (pmk0 (K := K) (H0 := H) rfl rfl rfl (pe_ek (X.E 62 "TooLarge" _ _ rfl) h2 (by rfl) (pk_cons (pv 1) pk_nil)))))))))
      (.cons ⟨rfl, by decide, .inl (X.E 41 "InvalidValues" _ _ rfl).g⟩ (i := 3) rfl rfl (fun a oe cls d pn hz hf hot => pss_cons (ps_expr (pe_bm PySem.F.plainAttrs_list PySem.F.slot_list_append PySem.F.type_list_append mt_append (pv 1) (pa_cons pe_str pa_nil) : PE _ _ (tBM K _ _ _ _)))
      (pss_one (ps_ret (pe_and (pe_cmpR op_eq (pv 2) pe_int (nomark _)) (pe_one (L2H.pe_callH (FSH 2) hrH ⟨(a, oe), hot, List.mem_cons_self⟩ (by rfl) BS.g BS.kp BS.b (E := E00) pas0 (pa_cons (pe_xf (X.E 41 "InvalidValues" _ _ rfl).cl.xf ((X.E 41 "InvalidValues" _ _ rfl).no _ (List.Mem.head _)) hz.zc hf (pv 3)) (pa_cons (pv 1) pa_nil))))))))
      (.cons ⟨rfl, by decide, .inl X.gP⟩ (i := 3) rfl rfl (fun a oe cls d pn hz hf hot => pss_cons (ps_expr (pe_bm PySem.F.plainAttrs_list PySem.F.slot_list_append PySem.F.type_list_append mt_append (pv 1) (pa_cons pe_str pa_nil) : PE _ _ (tBM K _ _ _ _)))
      (pss_cons (ps_if (pt_val (pe_callB (Xc.call_isS hz.zc hf : CallR _ _ (rIsS K a cls d)) (by rfl) X.T.isi (by decide +kernel) (pa_cons (pv 3) (pa_cons (pe_glob (v := .ref (He.ga K "InvalidChances")) (by rfl) (X.E 2 "InvalidChances" _ _ rfl).g rfl) pa_nil)))) (pss_one (ps_ret (pe_and (pe_cmpR op_eq (pv 2) pe_int (nomark _)) (pe_one (L2H.pe_callH (FSH 2) hrH ⟨(a, oe), hot, List.mem_cons_self⟩ (by rfl) BS.g BS.kp BS.b (E := E00) pas0 (pa_cons (pe_xf (X.E 2 "InvalidChances" _ _ rfl).cl.xf ((X.E 2 "InvalidChances" _ _ rfl).no _ (List.Mem.head _)) hz.zc hf (pv 3)) (pa_cons (pv 1) pa_nil))))))) pss_nil)
      (pss_cons (ps_if (pt_val (pe_callB (Xc.call_isS hz.zc hf : CallR _ _ (rIsS K a cls d)) (by rfl) X.T.isi (by decide +kernel) (pa_cons (pv 3) (pa_cons (pe_glob (v := .ref (He.ga K "Told")) (by rfl) (X.E 68 "Told" _ _ rfl).g rfl) pa_nil)))) (pss_one (ps_ret (pe_and (pe_cmpR op_eq (pv 2) pe_int (nomark _)) (pe_and (L2H.pe_callH (FSH 2) hrH ⟨(a, oe), hot, List.mem_cons_self⟩ (by rfl) BS.g BS.kp BS.b (E := E00) pas0 (pa_cons (pe_xf (X.E 68 "Told" _ _ rfl).cl.xf ((X.E 68 "Told" _ _ rfl).no _ (List.Mem.head _)) hz.zc hf (pv 3)) (pa_cons (pv 1) pa_nil))) (pe_one (L2H.pe_callH (FSH 2) hrH ⟨(a, oe), hot, List.mem_cons_self⟩ (by rfl) BS.g BS.kp BS.b (E := E00) pas0 (pa_cons (pe_xf (X.E 68 "Told" _ _ rfl).cl.xf ((X.E 68 "Told" _ _ rfl).no _ (List.Mem.tail _ (List.Mem.head _))) hz.zc hf (pv 3)) (pa_cons pe_int pa_nil)))))))) pss_nil)
      (pss_one (ps_ret (pe_ifExp (pt_cmpR op_eq (pv 2) pe_int (nomark _)) (pe_callB (Xc.call_isS hz.zc hf : CallR _ _ (rIsS K a cls d)) (by rfl) X.T.isi (by decide +kernel) (pa_cons (pv 3) (pa_cons (pe_glob (v := .ref (He.ga K "NothingToUndo")) (by rfl) (X.G 71 _ rfl) rfl) pa_nil))) (pe_and (pe_callB (Xc.call_isS hz.zc hf : CallR _ _ (rIsS K a cls d)) (by rfl) X.T.isi (by decide +kernel) (pa_cons (pv 3) (pa_cons (pe_glob (v := .ref (He.ga K "TooLarge")) (by rfl) (X.E 62 "TooLarge" _ _ rfl).g rfl) pa_nil))) (pe_one (L2H.pe_callH (FSH 2) hrH ⟨(a, oe), hot, List.mem_cons_self⟩ (by rfl) BS.g BS.kp BS.b (E := E00) pas0 (pa_cons (pe_xf (X.E 62 "TooLarge" _ _ rfl).cl.xf ((X.E 62 "TooLarge" _ _ rfl).no _ (List.Mem.head _)) hz.zc hf (pv 3)) (pa_cons (pv 1) pa_nil))))))))))) .nil)))), ?_⟩
  refine ⟨_, rfl, b, 100, rfl, hb, by decide, by decide, fun num H1 _ _ t1 => ⟨(by show 1 ≤ sizeLine; decide), fun p hp => ?_⟩⟩
  have bp := t1.1.same (same_new (o := .lst [.int num]) hp)
  refine ⟨_, rfl, b, 5, rfl, bp, by decide, by decide, fun way Hw w0 w1 t3 => ⟨_, _, rfl, ?_⟩⟩
  have pb : p ≠ b := t1.1.ne hp
  have gp : H p = none := t1.gone hp
  have ep : Hw p = some (.lst [.int num]) := t3.keep pb upd_same
  have tw : BoxTo b H Hw := (t1.trans (.of t1.1 (same_new hp))).trans t3
  clear bp hp t3 t1
  have lk : ∀ {Hr : Hp}, Same Hw Hr → ∀ H', Same (upd Hr p (.lst ([.int num] ++ [.str "more"]))) H' → Q (.bl true) H' := fun {Hr} sr H' s' => by
    refine k H' ⟨?_, fun c u e => ?_⟩
    · exact ((tw.1.same sr).upd (Ne.symm pb)).same s'
    · obtain ⟨nb, e⟩ := of_off e
      rw [off_ne nb]
      exact s' _ _ (by rw [upd_ne (ne_of_none e gp)]; exact sr _ _ (tw.keep nb e))
  have eq1 : ∀ {Hr : Hp}, EqL 1 (upd Hr p (.lst ([.int num] ++ [.str "more"]))) (.ref p) (.ref p) := fun {Hr} => .inr ⟨p, p, _, _, rfl, rfl, .inl ⟨.inl upd_same, .inl upd_same⟩, rfl, by show 2 ≤ 1000; decide, fun i x y hx hy => by
    rw [hx] at hy
    cases hy
    have hm := List.mem_of_getElem? hx
    simp only [List.cons_append, List.nil_append, List.mem_cons, List.not_mem_nil, or_false] at hm
    rcases hm with rfl | rfl
    · exact ⟨rfl, True.intro⟩
    · exact ⟨rfl, show (Str.ofString "more").length ≤ 2000 by decide⟩⟩
  have fl : ∀ {H5 : Hp} {a d : Addr} {C : Addr} {fs : List (Str × V)}, Hw a = none → Hw d = none → d ≠ a → (∀ c, c ≠ a → c ≠ d → H5 c = Hw c) → Same Hw (flown H5 a (some (d, fs))) ∧ flown H5 a (some (d, fs)) d = some (.xd fs) ∧ d ≠ p := fun {H5 a d C fs} na nd ne hx => by
    refine ⟨fun c u e => ?_, upd_same, fun z => by rw [z, ep] at nd; cases nd⟩
    show upd (delH H5 a) d (.xd fs) c = some u
    rw [upd_ne (ne_of_none e nd), delH_ne (ne_of_none e na), hx c (ne_of_none e na) (ne_of_none e nd)]
    exact e
  have ex : ∀ (j : Nat) (C : Addr), (csAll K)[j]? = some C → ∀ (i : Nat) (D : Addr), (csAll K)[i]? = some D → PySem.W.exmOne K (.ref D) (.ref C) = some (decide (i = j)) := fun j C hC i D hD => by
    have np : C ≠ He.ga K "PreferenceError" := fun z => X.np (z ▸ List.mem_of_getElem? hC)
    have e1 := X.cl D (List.mem_of_getElem? hD)
    have e2 := X.cl C (List.mem_of_getElem? hC)
    rw [exm_ecl e1 e2 np, ← kit_ecl e1 e2 np]
    exact X.pl j C hC i D hD
  have exP : ∀ (i : Nat) (D : Addr), (csAll K)[i]? = some D → PySem.W.exmOne K (.ref D) (.ref (He.ga K "PreferenceError")) = some true := fun i D hD => exm_base (X.cl D (List.mem_of_getElem? hD)) X.cP X.tP X.sP
  have wq : ∀ {v w : Int} {A B : Prop}, v = w → A → if decide (V.int v = V.int w) = true then A else B := fun {v w A B} e h => by
    subst e
    rw [decide_eq_true rfl]
    exact iteT h
  have wn : ∀ {v w : Int} {A B : Prop}, v ≠ w → B → if decide (V.int v = V.int w) = true then A else B := fun {v w A B} e h => by
    rw [decide_eq_false (fun z => e (V.int.inj z))]
    exact iteF h
  by_cases c0 : way = 0
  · subst c0
    refine ⟨_, rfl, rfl, _, rfl, wq rfl ?_⟩
    refine ⟨_, rfl, rfl, rfl, fun a d H5 na nd ne xa xd xr => ⟨a, _, some (d, _), rfl, xa, fun z hz => by cases hz; exact xd, tw.gone na, ⟨(X.cl _ (List.mem_of_getElem? (i := 2) rfl)).xf.exC, (X.cl _ (List.mem_of_getElem? (i := 2) rfl)).ty⟩, ?_⟩⟩
    obtain ⟨f1, f2, f3⟩ := fl (fs := [("given", .ref p)]) (C := He.ga K "InvalidChances") na nd ne xr
    refine ⟨false, ex 41 _ rfl 2 _ rfl, (fun z => nomatch z), fun _ => ⟨true, exP 2 _ rfl, fun _ a' ha' => ?_, fun z => nomatch z⟩⟩
    refine ⟨_, rfl, .inl ⟨rfl, _, SqL.of (f1 _ _ ep)⟩, p, _, _, rfl, rfl, f1 _ _ ep, (by show 1 < sizeLine; decide), ?_⟩
    have fd : upd (flown H5 a (some (d, [("given", .ref p)]))) p (.lst ([.int num] ++ [.str "more"])) d = some (.xd [("given", .ref p)]) := by rw [upd_ne f3]; exact f2
    refine ⟨_, rfl, _, _, _, true, rfl, rfl, .own _, (X.cl _ (List.mem_of_getElem? (i := 2) rfl)).exc, fun dd hd => ⟨_, by cases hd; exact fd⟩, X.pl 2 _ rfl 2 _ rfl, true, rfl, iteT ?_⟩
    refine ⟨_, rfl, rfl, _, rfl, wq rfl ?_⟩
    exact ⟨_, rfl, rfl, rfl, d, _, _, rfl, fd, rfl, _, rfl, _, _, rfl, eq1, lk f1⟩
  refine ⟨_, rfl, rfl, _, rfl, wn c0 ?_⟩
  by_cases c1 : way = 1
  · subst c1
    refine ⟨_, rfl, rfl, _, rfl, wq rfl ?_⟩
    refine ⟨_, rfl, rfl, rfl, fun a d H5 na nd ne xa xd xr => ⟨a, _, some (d, _), rfl, xa, fun z hz => by cases hz; exact xd, tw.gone na, ⟨(X.cl _ (List.mem_of_getElem? (i := 41) rfl)).xf.exC, (X.cl _ (List.mem_of_getElem? (i := 41) rfl)).ty⟩, ?_⟩⟩
    obtain ⟨f1, f2, f3⟩ := fl (fs := [("given", .ref p)]) (C := He.ga K "InvalidValues") na nd ne xr
    refine ⟨true, ex 41 _ rfl 41 _ rfl, fun _ a' ha' => ?_, fun z => nomatch z⟩
    refine ⟨_, rfl, .inl ⟨rfl, _, SqL.of (f1 _ _ ep)⟩, p, _, _, rfl, rfl, f1 _ _ ep, (by show 1 < sizeLine; decide), ?_⟩
    have fd : upd (flown H5 a (some (d, [("given", .ref p)]))) p (.lst ([.int num] ++ [.str "more"])) d = some (.xd [("given", .ref p)]) := by rw [upd_ne f3]; exact f2
    refine ⟨_, rfl, rfl, _, rfl, wq rfl ?_⟩
    exact ⟨_, rfl, rfl, rfl, d, _, _, rfl, fd, rfl, _, rfl, _, _, rfl, eq1, lk f1⟩
  refine ⟨_, rfl, rfl, _, rfl, wn c1 ?_⟩
  by_cases c2 : way = 2
  · subst c2
    refine ⟨_, rfl, rfl, _, rfl, wq rfl ?_⟩
    refine ⟨_, rfl, rfl, rfl, fun a d H5 na nd ne xa xd xr => ⟨a, _, some (d, _), rfl, xa, fun z hz => by cases hz; exact xd, tw.gone na, ⟨(X.cl _ (List.mem_of_getElem? (i := 68) rfl)).xf.exC, (X.cl _ (List.mem_of_getElem? (i := 68) rfl)).ty⟩, ?_⟩⟩
    obtain ⟨f1, f2, f3⟩ := fl (fs := [("values", .int 7), ("variable", .ref p)]) (C := He.ga K "Told") na nd ne xr
    refine ⟨false, ex 41 _ rfl 68 _ rfl, (fun z => nomatch z), fun _ => ⟨true, exP 68 _ rfl, fun _ a' ha' => ?_, fun z => nomatch z⟩⟩
    refine ⟨_, rfl, .inl ⟨rfl, _, SqL.of (f1 _ _ ep)⟩, p, _, _, rfl, rfl, f1 _ _ ep, (by show 1 < sizeLine; decide), ?_⟩
    have fd : upd (flown H5 a (some (d, [("values", .int 7), ("variable", .ref p)]))) p (.lst ([.int num] ++ [.str "more"])) d = some (.xd [("values", .int 7), ("variable", .ref p)]) := by rw [upd_ne f3]; exact f2
    refine ⟨_, rfl, _, _, _, false, rfl, rfl, .own _, (X.cl _ (List.mem_of_getElem? (i := 68) rfl)).exc, fun dd hd => ⟨_, by cases hd; exact fd⟩, X.pl 2 _ rfl 68 _ rfl, false, rfl, iteF ?_⟩
    refine ⟨_, rfl, _, _, _, true, rfl, rfl, .own _, (X.cl _ (List.mem_of_getElem? (i := 68) rfl)).exc, fun dd hd => ⟨_, by cases hd; exact fd⟩, X.pl 68 _ rfl 68 _ rfl, true, rfl, iteT ?_⟩
    refine ⟨_, rfl, rfl, _, rfl, wq rfl ?_⟩
    refine ⟨_, rfl, rfl, rfl, d, _, _, rfl, fd, rfl, _, rfl, _, _, rfl, eq1, fun H6 s6 => ⟨true, rfl, iteT ?_⟩⟩
    exact ⟨_, rfl, rfl, rfl, d, _, _, rfl, s6 _ _ fd, rfl, _, _, rfl, .inl ⟨rfl, True.intro⟩, fun H' s' => lk f1 H' (s6.trans s')⟩
  refine ⟨_, rfl, rfl, _, rfl, wn c2 ?_⟩
  by_cases c3 : way = 3
  · subst c3
    refine ⟨_, rfl, rfl, _, rfl, wq rfl ?_⟩
    refine fun a na => ⟨a, _, none, rfl, upd_same, (fun z hz => by cases hz), tw.gone na, ⟨(X.cl _ (List.mem_of_getElem? (i := 71) rfl)).xf.exC, (X.cl _ (List.mem_of_getElem? (i := 71) rfl)).ty⟩, ?_⟩
    have f1 : Same Hw (flown (upd Hw a (exo a (He.ga K "NothingToUndo") none)) a none) := fun c u e => by
      show delH _ a c = some u
      rw [delH_ne (ne_of_none e na), upd_ne (ne_of_none e na)]
      exact e
    refine ⟨false, ex 41 _ rfl 71 _ rfl, (fun z => nomatch z), fun _ => ⟨true, exP 71 _ rfl, fun _ a' ha' => ?_, fun z => nomatch z⟩⟩
    refine ⟨_, rfl, .inl ⟨rfl, _, SqL.of (f1 _ _ ep)⟩, p, _, _, rfl, rfl, f1 _ _ ep, (by show 1 < sizeLine; decide), ?_⟩
    refine ⟨_, rfl, _, _, _, false, rfl, rfl, .own _, (X.cl _ (List.mem_of_getElem? (i := 71) rfl)).exc, (fun dd hd => by cases hd), X.pl 2 _ rfl 71 _ rfl, false, rfl, iteF ?_⟩
    refine ⟨_, rfl, _, _, _, false, rfl, rfl, .own _, (X.cl _ (List.mem_of_getElem? (i := 71) rfl)).exc, (fun dd hd => by cases hd), X.pl 68 _ rfl 71 _ rfl, false, rfl, iteF ?_⟩
    refine ⟨_, rfl, rfl, _, rfl, wq rfl ?_⟩
    exact ⟨_, rfl, _, _, _, true, rfl, rfl, .own _, (X.cl _ (List.mem_of_getElem? (i := 71) rfl)).exc, (fun dd hd => by cases hd), X.pl 71 _ rfl 71 _ rfl, lk f1 _ (Same.refl _)⟩
  refine ⟨_, rfl, rfl, _, rfl, wn c3 ?_⟩
  refine ⟨_, rfl, rfl, rfl, fun a d H5 na nd ne xa xd xr => ⟨a, _, some (d, _), rfl, xa, fun z hz => by cases hz; exact xd, tw.gone na, ⟨(X.cl _ (List.mem_of_getElem? (i := 62) rfl)).xf.exC, (X.cl _ (List.mem_of_getElem? (i := 62) rfl)).ty⟩, ?_⟩⟩
  obtain ⟨f1, f2, f3⟩ := fl (fs := [("count", .ref p)]) (C := He.ga K "TooLarge") na nd ne xr
  refine ⟨false, ex 41 _ rfl 62 _ rfl, (fun z => nomatch z), fun _ => ⟨true, exP 62 _ rfl, fun _ a' ha' => ?_, fun z => nomatch z⟩⟩
  refine ⟨_, rfl, .inl ⟨rfl, _, SqL.of (f1 _ _ ep)⟩, p, _, _, rfl, rfl, f1 _ _ ep, (by show 1 < sizeLine; decide), ?_⟩
  have fd : upd (flown H5 a (some (d, [("count", .ref p)]))) p (.lst ([.int num] ++ [.str "more"])) d = some (.xd [("count", .ref p)]) := by rw [upd_ne f3]; exact f2
  refine ⟨_, rfl, _, _, _, false, rfl, rfl, .own _, (X.cl _ (List.mem_of_getElem? (i := 62) rfl)).exc, fun dd hd => ⟨_, by cases hd; exact fd⟩, X.pl 2 _ rfl 62 _ rfl, false, rfl, iteF ?_⟩
  refine ⟨_, rfl, _, _, _, false, rfl, rfl, .own _, (X.cl _ (List.mem_of_getElem? (i := 62) rfl)).exc, fun dd hd => ⟨_, by cases hd; exact fd⟩, X.pl 68 _ rfl 62 _ rfl, false, rfl, iteF ?_⟩
  refine ⟨_, rfl, rfl, _, rfl, wn c3 ?_⟩
  refine ⟨_, rfl, _, _, _, true, rfl, rfl, .own _, (X.cl _ (List.mem_of_getElem? (i := 62) rfl)).exc, fun dd hd => ⟨_, by cases hd; exact fd⟩, X.pl 62 _ rfl 62 _ rfl, true, rfl, iteT ?_⟩
  exact ⟨_, rfl, rfl, rfl, d, _, _, rfl, fd, rfl, _, rfl, _, _, rfl, eq1, lk f1⟩

end
end Ka

set_option Elab.async false
set_option linter.all false
set_option maxRecDepth 100000
set_option maxHeartbeats 4000000
namespace Ka
open PySem PySem.Spec PyProof.Rows L2 Xc
abbrev sLaw : Stmt := tp 95
abbrev nLaw : List Str := ["script", "k", "box"]
theorem scLaw : FnScope nLaw ["script"] (defScope sLaw) := ⟨rfl, rfl, rfl, by decide +kernel, rfl, by decide +kernel, by decide +kernel⟩
section
variable {P : Program} {w : World} {K : PySem.W.Frag} {mg : Str → Option Value} {base : Heap}
/-- the defs that the law calls -/
structure Top (P : Program) (w : World) (K : PySem.W.Frag) (mg : Str → Option Value) (base : Heap) : Prop where
  cell : ∃ f fd, FnOk P w K mg base CX0 1 f fd ["script", "k"] (spCell K) ∧ Has K mg "_law_cell" f fd ["script", "k"]
  box : ∃ f fd, FnOk P w K mg base CX0 1 f fd ["great"] spBox ∧ Has K mg "_law_box" f fd ["great"]
  r1 : ∃ f fd, FnOk P w K mg base CX0 4 f fd ["box"] spRight ∧ Has K mg "_law_classes_right" f fd ["box"]
  r2 : ∃ f fd, FnOk P w K mg base CX0 11 f fd ["box"] spRight ∧ Has K mg "_law_values_right" f fd ["box"]
  r3 : ∃ f fd, FnOk P w K mg base CX0 5 f fd ["box"] spRight ∧ Has K mg "_law_within_right" f fd ["box"]
  r4 : ∃ f fd, FnOk P w K mg base CX0 4 f fd ["box"] spRight ∧ Has K mg "_law_caught_right" f fd ["box"]
def spLaw (K : PySem.W.Frag) : Sp := fun vs H Q _ => ∃ (a : Addr) (ns : List Int), vs = [.ref a] ∧ SqL K H a (ns.map V.int) ∧ ns.length ≤ 1000 ∧ ∀ H', Q (.bl true) H'
theorem ok_law {f : Addr} {fd : FuncData} (D : FnP K "law" sLaw f fd) (T : Free mg) (Y : Top P w K mg base) : FnOk P w K mg base CX0 12 f fd ["script"] (spLaw K) := by
  obtain ⟨fC, dC, FC, BC⟩ := Y.cell
  obtain ⟨fB, dB, FB, BB⟩ := Y.box
  obtain ⟨f1, d1, F1, B1⟩ := Y.r1
  obtain ⟨f2, d2, F2, B2⟩ := Y.r2
  obtain ⟨f3, d3, F3, B3⟩ := Y.r3
  obtain ⟨f4, d4, F4, B4⟩ := Y.r4
  refine D.ok scLaw (fun vs H Q E h => ?_) (fun cdv A outer s H vs Q E hr h => ?_)
  · obtain ⟨a, ns, rfl, _⟩ := h
    rfl
  have h1 : Room 1 _ := hr.mono (by decide)
  have h4 : Room 4 _ := hr.mono (by decide)
  have h5 : Room 5 _ := hr.mono (by decide)
  obtain ⟨a, ns, rfl, hS, hz, k⟩ := h
  refine ⟨_, PSs.nox (pss_cons (ps_for PassesOwn.never rfl (pi_range1 (by rfl) T.range (pa_cons (pe_callB (call_max2 rfl) (by rfl) T.max (by decide +kernel) (pa_cons pe_int (pa_cons (pe_callB (call_min2 rfl) (by rfl) T.min (by decide +kernel) (pa_cons pe_int (pa_cons (pe_callB call_len_seq (by rfl) T.len PySem.boot_len (pa_cons (pv 0) pa_nil)) pa_nil))) pa_nil))) pa_nil)) (pg_name (i := 1) scLaw.nd rfl (Or.inl rfl))
      (pss_cons (ps_set (i := 2) scLaw.nd rfl (Or.inl rfl) (pe_callS FB h1 (by rfl) BB.g BB.kp BB.b (E := E00) pas0 (pa_cons (pe_callS FC h1 (by rfl) BC.g BC.kp BC.b (E := E00) pas0 (pa_cons (pv 0) (pa_cons (pv 1) pa_nil))) pa_nil)))
      (pss_one (ps_if (PW.pt (pw_or (pt_not (pt_val (pe_callS F1 h4 (by rfl) B1.g B1.kp B1.b (E := E00) pas0 (pa_cons (pv 2) pa_nil)))) (pw_or (pt_not (pt_val (pe_callS F2 hr (by rfl) B2.g B2.kp B2.b (E := E00) pas0 (pa_cons (pv 2) pa_nil)))) (pw_or (pt_not (pt_val (pe_callS F3 h5 (by rfl) B3.g B3.kp B3.b (E := E00) pas0 (pa_cons (pv 2) pa_nil)))) (pw_or1 (pt_not (pt_val (pe_callS F4 h4 (by rfl) B4.g B4.kp B4.b (E := E00) pas0 (pa_cons (pv 2) pa_nil))))))))) (pss_one (ps_ret pe_bl)) pss_nil))))
    (pss_one (ps_ret pe_bl))), ?_⟩
  refine ⟨_, rfl, a, _, rfl, .inl hS, 4, _, rfl, 2, _, rfl, _, rfl, ?_⟩
  have hl : (ns.map V.int).length ≤ 1000 := by rw [List.length_map]; exact hz
  generalize hm : (if (if ((ns.map V.int).length : Int) < 4 then ((ns.map V.int).length : Int) else 4) > 2 then (if ((ns.map V.int).length : Int) < 4 then ((ns.map V.int).length : Int) else 4) else 2) = m
  have m0 : 0 ≤ m ∧ m ≤ 4 := by
    rw [← hm]
    split <;> split <;> omega
  refine ⟨by omega, by omega, for_range (lo := 0) (n := m.toNat) (fun i σ H' => ∃ x y, σ = [some (.ref a), x, y] ∧ SqL K H' a (ns.map V.int)) ⟨_, _, rfl, hS⟩ (fun i σ H' hi z => ?_) (fun σ H' z => ?_)⟩
  · obtain ⟨x, y, rfl, hs⟩ := z
    refine ⟨_, rfl, _, rfl, a, ns, i, by rw [Int.zero_add], hs, fun g H1 s1 => ?_⟩
    refine ⟨g, rfl, fun b H2 gb s2 hb => ?_⟩
    refine ⟨_, rfl, b, rfl, hb, fun H3 t3 => ⟨true, rfl, iteF ?_⟩⟩
    refine ⟨_, rfl, b, rfl, t3.1, fun H4 t4 => ⟨true, rfl, iteF ?_⟩⟩
    refine ⟨_, rfl, b, rfl, t4.1, fun H5 t5 => ⟨true, rfl, iteF ?_⟩⟩
    refine ⟨_, rfl, b, rfl, t5.1, fun H6 t6 => ⟨true, rfl, iteF ?_⟩⟩
    have t := ((t3.trans t4).trans t5).trans t6
    refine ⟨_, _, rfl, Evl.ex_l (fun c u e => ?_) hs⟩
    have e1 := s1 _ _ e
    exact t.keep (ne_of_none e1 gb) (s2 _ _ e1)
  · obtain ⟨x, y, rfl, _⟩ := z
    exact k H'
end
end Ka

set_option Elab.async false
set_option linter.all false
set_option maxRecDepth 100000
set_option maxHeartbeats 0
namespace Ka
open PySem PySem.Spec PyProof.Rows L2 Xc
theorem chk1 (P : Params) : tab.all (tabB (Hd.kOf P)) = true := by kernel_rfl
theorem chk2 (P : Params) : (tab.map fun t => He.fnObs (Hd.kOf P) (fnD t).at_) = tab.map fun t => (fnD t).val := by kernel_rfl
end Ka

set_option Elab.async false
set_option linter.all false
set_option maxRecDepth 100000
set_option maxHeartbeats 0
namespace Ka
open PySem PySem.Spec PyProof.Rows L2 Xc
def freeN : List Str := ["len", "int", "sum", "abs", "isinstance", "range", "list", "str", "max", "min", "bool", "dict", "tuple", "ValueError"].map Str.ofString
def chkA (K : PySem.W.Frag) : Bool :=
  (freeN.all fun x => He.eqO (PySem.W.nsIn K mainGlobals x) (some none)) && ((names72.all fun x => He.eqO (PySem.W.nsIn K mainGlobals x) (some (some (.ref (He.ga K x))))) && (((csAll K).all fun C => eclB K (He.ga K "PreferenceError") C) && (decide (csAll K).Nodup && (decide (He.ga K "PreferenceError" ∉ csAll K) &&
    (He.eqO (PySem.W.nsIn K mainGlobals "PreferenceError") (some (some (.ref (He.ga K "PreferenceError")))) && ((PySem.W.clsIn K (He.ga K "PreferenceError")).isSome && (decide (PySem.W.typeIn K (.ref (He.ga K "PreferenceError")) = some (.type "type")) && (decide (PySem.W.subIn K (.ref (He.ga K "PreferenceError")) (.type "BaseException") = some true) &&
      (PySem.W.excIn K (He.ga K "NothingToRedo") HandSPX.veTail "ValueError.__new__" && (PySem.W.excIn K (He.ga K "NothingToUndo") HandSPX.veTail "ValueError.__new__" && (PySem.W.keepIn K (.ref (He.ga K "NothingToRedo")) && PySem.W.keepIn K (.ref (He.ga K "NothingToUndo")))))))))))))
theorem chkA_ok {P : Program} {w : World} {K : PySem.W.Frag} {mg : Str → Option Value} {base h : Heap} (X : K.In h) (G : h.Ns mainGlobals mg) (c1 : tab.all (tabB K) = true) (c2 : tab.map (fun t => He.fnObs K (fnD t).at_) = tab.map fun t => (fnD t).val) (c : chkA K = true) : Fct P w K mg base := by
  obtain ⟨d1, c⟩ := He.ba c
  obtain ⟨d2, c⟩ := He.ba c
  obtain ⟨d3, c⟩ := He.ba c
  obtain ⟨d4, c⟩ := He.ba c
  obtain ⟨d5, c⟩ := He.ba c
  obtain ⟨d6, c⟩ := He.ba c
  obtain ⟨d7, c⟩ := He.ba c
  obtain ⟨d8, c⟩ := He.ba c
  obtain ⟨d9, c⟩ := He.ba c
  obtain ⟨d10, c⟩ := He.ba c
  obtain ⟨d11, c⟩ := He.ba c
  obtain ⟨d12, d13⟩ := He.ba c
  have fr : ∀ (i : Nat) (x : Str), freeN[i]? = some x → mg x = none := fun i x e => PySem.W.mg_none_of X G (He.eqO_ok (List.all_eq_true.mp d1 x (List.mem_of_getElem? e)))
  exact ⟨⟨fr 0 _ rfl, fr 1 _ rfl, fr 2 _ rfl, fr 3 _ rfl, fr 4 _ rfl, fr 5 _ rfl, fr 6 _ rfl, fr 7 _ rfl, fr 8 _ rfl, fr 9 _ rfl, fr 10 _ rfl, fr 11 _ rfl, fr 12 _ rfl, fr 13 _ rfl⟩, allE_of X G c1 c2,
    fun i x e => PySem.W.mg_of X G (He.eqO_ok (List.all_eq_true.mp d2 x (List.mem_of_getElem? e))), fun C hC => eclB_ok (List.all_eq_true.mp d3 C hC), of_decide_eq_true d4, of_decide_eq_true d5, PySem.W.mg_of X G (He.eqO_ok d6), d7, of_decide_eq_true d8, of_decide_eq_true d9, d10, d11, d12, d13⟩
/-! ### the law's defs -/
def lawD (x : Str) (i : Nat) : He.FnD := ⟨(x, none), x, x, defArgs (tp i), defBody (tp i), defScope (tp i)⟩
def lawT : List (Str × Nat) := [("_law_cell", 76), ("_law_box", 77), ("_law_take", 78), ("_law_same", 79), ("_law_by_place", 80), ("_law_by_name", 81), ("_law_ones", 82), ("_law_kept_ones", 83), ("_law_twos", 84), ("_law_kept_twos", 85), ("_law_places_low", 86), ("_law_places_high", 87), ("_law_value", 88), ("_law_things", 89), ("_law_grown", 90), ("_law_classes_right", 91), ("_law_values_right", 92), ("_law_within_right", 93), ("_law_caught_right", 94), ("law", 95)].map fun t => (Str.ofString t.1, t.2)
def lawB (K : PySem.W.Frag) (t : Str × Nat) : Bool := He.eqO (PySem.W.nsIn K mainGlobals t.1) (some (some (.ref (He.ga K t.1)))) && (He.Fa.code (t.1, none) t.1).ok K
structure LawF (K : PySem.W.Frag) (mg : Str → Option Value) (x : Str) (i : Nat) (f : Addr) (fd : FuncData) : Prop where
  g : mg x = some (.ref f)
  d : FnP K x (tp i) f fd
theorem LawF.has {K : PySem.W.Frag} {mg : Str → Option Value} {x : Str} {i : Nat} {f : Addr} {fd : FuncData} {ps : List Str} (L : LawF K mg x i f fd)
    (h : ∀ (kV doc pm : Value) (an : Option Addr) (cdv ct : Value) (us : List Value), us.length = ps.length → bindArgs (PySem.W.fnOf x x (defArgs (tp i)) (defBody (tp i)) (defScope (tp i)) .none kV doc pm an cdv ct) ⟨us, []⟩ = pure (ps.zip us)) : Has K mg x f fd ps := ⟨L.g, L.d.kp, L.d.bindsN h⟩
theorem law_of {K : PySem.W.Frag} {mg : Str → Option Value} {h : Heap} (X : K.In h) (G : h.Ns mainGlobals mg) (c : lawT.all (lawB K) = true) (o : lawT.map (fun t => He.fnObs K (lawD t.1 t.2).at_) = lawT.map fun t => (lawD t.1 t.2).val) (j : Nat) (x : Str) (i : Nat) (e : lawT[j]? = some (x, i)) : ∃ fd, LawF K mg x i (He.ga K x) fd := by
  have e2 : (lawT.map fun t => He.fnObs K (lawD t.1 t.2).at_)[j]? = (lawT.map fun t => (lawD t.1 t.2).val)[j]? := by rw [o]
  rw [List.getElem?_map, List.getElem?_map, e] at e2
  obtain ⟨c1, c2⟩ := He.ba (List.all_eq_true.mp c _ (List.mem_of_getElem? e))
  obtain ⟨oc, od, osl, kV, doc, pm, an, cdv, ct, lk, hcd⟩ := He.fn_ok (d := lawD x i) (Option.some.inj e2) c2
  have lk : K.lookup (He.ga K x) = some ⟨oc, od, .func (PySem.W.fnOf x x (defArgs (tp i)) (defBody (tp i)) (defScope (tp i)) .none kV doc pm an cdv ct), osl⟩ := lk
  refine ⟨_, PySem.W.mg_of X G (He.eqO_ok c1), ⟨⟨oc, od, .none, kV, doc, pm, an, cdv, ct, osl, rfl, lk, hcd, .inl ⟨rfl, rfl⟩, .inl rfl⟩, ?_⟩⟩
  unfold PySem.W.keepIn
  simp only
  rw [lk]
theorem chk3 (P : Params) : chkA (Hd.kOf P) = true := by kernel_rfl
theorem chk4 (P : Params) : lawT.all (lawB (Hd.kOf P)) = true := by kernel_rfl
theorem chk5 (P : Params) : (lawT.map fun t => He.fnObs (Hd.kOf P) (lawD t.1 t.2).at_) = lawT.map fun t => (lawD t.1 t.2).val := by kernel_rfl
end Ka

set_option Elab.async false
set_option linter.all false
set_option maxRecDepth 100000
set_option maxHeartbeats 0
namespace Ka
open PySem PySem.Spec PyProof.Rows L2 Xc
theorem all_ok {P : Program} {w : World} {K : PySem.W.Frag} {mg : Str → Option Value} {h : Heap} {f : Addr} (X : K.In h) (G : h.Ns mainGlobals mg) (c1 : tab.all (tabB K) = true) (c2 : tab.map (fun t => He.fnObs K (fnD t).at_) = tab.map fun t => (fnD t).val) (c3 : chkA K = true) (c4 : lawT.all (lawB K) = true)
    (c5 : lawT.map (fun t => He.fnObs K (lawD t.1 t.2).at_) = lawT.map fun t => (lawD t.1 t.2).val) (hf : mg ("law" : Str) = some (.ref f)) : ∃ fd : FuncData, (∀ (s : Shared) (v : Value), BindsTo s fd ⟨[v], []⟩ [("script", v)]) ∧ ∀ base : Heap, FnOk P w K mg base CX0 12 f fd ["script"] (spLaw K) := by
  obtain ⟨d0, L0⟩ := law_of X G c4 c5 0 "_law_cell" 76 rfl
  obtain ⟨d1, L1⟩ := law_of X G c4 c5 1 "_law_box" 77 rfl
  obtain ⟨d2, L2⟩ := law_of X G c4 c5 2 "_law_take" 78 rfl
  obtain ⟨d3, L3⟩ := law_of X G c4 c5 3 "_law_same" 79 rfl
  obtain ⟨d4, L4⟩ := law_of X G c4 c5 4 "_law_by_place" 80 rfl
  obtain ⟨d5, L5⟩ := law_of X G c4 c5 5 "_law_by_name" 81 rfl
  obtain ⟨d6, L6⟩ := law_of X G c4 c5 6 "_law_ones" 82 rfl
  obtain ⟨d7, L7⟩ := law_of X G c4 c5 7 "_law_kept_ones" 83 rfl
  obtain ⟨d8, L8⟩ := law_of X G c4 c5 8 "_law_twos" 84 rfl
  obtain ⟨d9, L9⟩ := law_of X G c4 c5 9 "_law_kept_twos" 85 rfl
  obtain ⟨d10, L10⟩ := law_of X G c4 c5 10 "_law_places_low" 86 rfl
  obtain ⟨d11, L11⟩ := law_of X G c4 c5 11 "_law_places_high" 87 rfl
  obtain ⟨d12, L12⟩ := law_of X G c4 c5 12 "_law_value" 88 rfl
  obtain ⟨d13, L13⟩ := law_of X G c4 c5 13 "_law_things" 89 rfl
  obtain ⟨d14, L14⟩ := law_of X G c4 c5 14 "_law_grown" 90 rfl
  obtain ⟨d15, L15⟩ := law_of X G c4 c5 15 "_law_classes_right" 91 rfl
  obtain ⟨d16, L16⟩ := law_of X G c4 c5 16 "_law_values_right" 92 rfl
  obtain ⟨d17, L17⟩ := law_of X G c4 c5 17 "_law_within_right" 93 rfl
  obtain ⟨d18, L18⟩ := law_of X G c4 c5 18 "_law_caught_right" 94 rfl
  obtain ⟨d19, L19⟩ := law_of X G c4 c5 19 "law" 95 rfl
  have b0 : Has K mg "_law_cell" _ d0 ["script", "k"] := L0.has fun _ _ _ _ _ _ us hl => match us, hl with | [_, _], _ => rfl
  have b1 : Has K mg "_law_box" _ d1 ["great"] := L1.has fun _ _ _ _ _ _ us hl => match us, hl with | [_], _ => rfl
  have b2 : Has K mg "_law_take" _ d2 ["box", "many"] := L2.has fun _ _ _ _ _ _ us hl => match us, hl with | [_, _], _ => rfl
  have b3 : Has K mg "_law_same" _ d3 ["told", "due"] := L3.has fun _ _ _ _ _ _ us hl => match us, hl with | [_, _], _ => rfl
  have b4 : Has K mg "_law_by_place" _ d4 ["thing"] := L4.has fun _ _ _ _ _ _ us hl => match us, hl with | [_], _ => rfl
  have b5 : Has K mg "_law_by_name" _ d5 ["thing"] := L5.has fun _ _ _ _ _ _ us hl => match us, hl with | [_], _ => rfl
  have b6 : Has K mg "_law_ones" _ d6 ["thing", "named"] := L6.has fun _ _ _ _ _ _ us hl => match us, hl with | [_, _], _ => rfl
  have b7 : Has K mg "_law_kept_ones" _ d7 ["made"] := L7.has fun _ _ _ _ _ _ us hl => match us, hl with | [_], _ => rfl
  have b8 : Has K mg "_law_twos" _ d8 ["one", "other", "third", "way"] := L8.has fun _ _ _ _ _ _ us hl => match us, hl with | [_, _, _, _], _ => rfl
  have b9 : Has K mg "_law_kept_twos" _ d9 ["made"] := L9.has fun _ _ _ _ _ _ us hl => match us, hl with | [_], _ => rfl
  have b10 : Has K mg "_law_places_low" _ d10 ["made"] := L10.has fun _ _ _ _ _ _ us hl => match us, hl with | [_], _ => rfl
  have b11 : Has K mg "_law_places_high" _ d11 ["made"] := L11.has fun _ _ _ _ _ _ us hl => match us, hl with | [_], _ => rfl
  have b12 : Has K mg "_law_value" _ d12 ["box", "deep"] := L12.has fun _ _ _ _ _ _ us hl => match us, hl with | [_, _], _ => rfl
  have b13 : Has K mg "_law_things" _ d13 ["box"] := L13.has fun _ _ _ _ _ _ us hl => match us, hl with | [_], _ => rfl
  have b14 : Has K mg "_law_grown" _ d14 ["thing", "number"] := L14.has fun _ _ _ _ _ _ us hl => match us, hl with | [_, _], _ => rfl
  have b15 : Has K mg "_law_classes_right" _ d15 ["box"] := L15.has fun _ _ _ _ _ _ us hl => match us, hl with | [_], _ => rfl
  have b16 : Has K mg "_law_values_right" _ d16 ["box"] := L16.has fun _ _ _ _ _ _ us hl => match us, hl with | [_], _ => rfl
  have b17 : Has K mg "_law_within_right" _ d17 ["box"] := L17.has fun _ _ _ _ _ _ us hl => match us, hl with | [_], _ => rfl
  have b18 : Has K mg "_law_caught_right" _ d18 ["box"] := L18.has fun _ _ _ _ _ _ us hl => match us, hl with | [_], _ => rfl
  have e := hf.symm.trans L19.g
  cases e
  have b := FunD.bindsA (ps := ["script"]) L19.d fun _ _ _ _ _ _ us hl => match us, hl with | [_], _ => rfl
  refine ⟨d19, fun s v => b s [v] rfl, fun base => ?_⟩
  have Z : Fct P w K mg base := chkA_ok X G c1 c2 c3
  have T := Z.T
  have F0 := ok_cell (P := P) (w := w) (base := base) L0.d T
  have F1 := ok_box (P := P) (w := w) (base := base) L1.d T
  have F2 := ok_take (P := P) (w := w) (base := base) L2.d T
  have F12 := ok_val (P := P) (w := w) (base := base) L12.d T b12 b2 F2 2
  have Y : Dfs P w K mg base := {
    take := ⟨_, _, F2, b2⟩
    val := ⟨_, _, F12, b12⟩
    things := ⟨_, _, ok_things L13.d T b2 F2 b12 F12, b13⟩
    grown := ⟨_, _, ok_grown L14.d T, b14⟩
    same := ⟨_, _, ok_same L3.d T b3, ok_sameH L3.d T b3, b3⟩
    place := ⟨_, _, ok_Place (Pb := 0) L4.d Z.E, b4⟩
    name := ⟨_, _, ok_Name (Pb := 0) L5.d Z.E, b5⟩
    ones := ⟨_, _, ok_Ones L6.d Z.E, b6⟩
    twos := ⟨_, _, ok_Twos L8.d Z.E, b8⟩
    kones := ⟨_, _, ok_KOnes L7.d Z.E, b7⟩
    ktwos := ⟨_, _, ok_KTwos L9.d Z.E, b9⟩
    low := ⟨_, _, ok_Low L10.d T Z.G (fun D hD => (Z.cl D hD).exc) Z.pl, b10⟩
    high := ⟨_, _, ok_High L11.d T Z.G (fun D hD => (Z.cl D hD).exc) Z.pl, b11⟩ }
  have Y2 : Top P w K mg base := {
    cell := ⟨_, _, F0, b0⟩
    box := ⟨_, _, F1, b1⟩
    r1 := ⟨_, _, ok_CR L15.d Z Y, b15⟩
    r2 := ⟨_, _, ok_VR L16.d Z Y, b16⟩
    r3 := ⟨_, _, ok_WR L17.d Z Y, b17⟩
    r4 := ⟨_, _, ok_KR L18.d Z Y, b18⟩ }
  exact ok_law L19.d T Y2
end Ka
open PySem PySem.W PySem.Calls PyProof.Rows
theorem PySem.Challenge.cw_prefbench_k79_errors_as_classes_holds : PySem.Challenge.rw_prefbench_k79_errors_as_classes.Holds := by
  w_on; o_law
  refine Hd.holds79 ?call ?hw
  case hw => w_witness2
  case call =>
    refine L2.walk_ofE (l := PySem.Challenge.rw_prefbench_k79_errors_as_classes) (n := 63) (k := 12) (x := "script") (CX := L2.CX0) rfl (by decide) (by kernel_rfl) ⟨rfl, by decide, by decide⟩ ?F (fun _ _ _ _ z => z)
    intro w mg fa h Y G hmg0
    have KX : (Hd.kOf w.params).In h := Y
    have hmg : mg ("law" : PySem.Str) = some (.ref fa) := by
      have e : (HandSHeadRun.topDef Hd.prg 95).name = ("law" : PySem.Str) := by kernel_rfl
      rw [← e]
      exact hmg0
    obtain ⟨fd, hb, hF⟩ := Ka.all_ok (P := (PySem.Challenge.rw_prefbench_k79_errors_as_classes).prog) (w := w) KX G (Ka.chk1 w.params) (Ka.chk2 w.params) (Ka.chk3 w.params) (Ka.chk4 w.params) (Ka.chk5 w.params) hmg
    exact ⟨Hd.kOf w.params, fd, Ka.spLaw (Hd.kOf w.params), KX, hb, fun H a ns hl _ hS => ⟨a, ns, rfl, hS, Nat.le_trans hl (by decide), fun _ => rfl⟩, fun base _ _ => hF base⟩
