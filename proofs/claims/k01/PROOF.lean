import PyProof.Rows.All
import Wide.All
import OpenK.AllK
import Wide.FinOn
import KE.KStateDown
import HandS.ForExc
import HandS.ForMost
import HandS.More
import HandS.Defaults
import HandS.ExcInit
import HandS.ExcValue
import HandS.ExcIs
import HandS.IsInst
import HandS.MakeKw
import HandS.MakeKwOnly
import HandS.Wide
import HandS.ExcField
import HandS.HeadEnd
import HandS.HeadHook1
import HandS.HeadHook2
import HandS.HeadHook3
import HandS.HeadHook4
import HandS.Head0
import HandS.Head1
import HandS.Head2
import HandS.Conv
import KE.KSortedM
import PySem.Challenge.RW_editionlines_k01_errors_and_their_fields
set_option Elab.async false
set_option linter.all false
set_option maxRecDepth 100000
set_option maxHeartbeats 4000000
namespace PySem
namespace EdX
open PySem.HandSPX Builtin Builtin.ObjectAttr
section
variable {prog : Program} {w : World} {A : Around} {E : Value → Shared → Prop} {R : Result → Shared → Prop}
variable {h : Heap} {g : Array GenState} {d : Drawn} {t : Nat} {os : OsState}
variable {nm q : Str} {C N : Addr} {bs bm bmB : List Value} {hdct : Bool} {sn : List Str} {sub : List Value}
variable {ab : Bool} {col : Option Bool} {dd : Option Addr} {k0 k1 k2 k3 k5 : Option Value} {B newId initId : String}

/-- the look ahead of the class's __new__, keywords or not -/
theorem xk_check {M : Model} (F : ExcBaseFacts B newId initId bmB)
    (hT : ∀ y : String, bm.contains (.type y) = bmB.contains (.type y)) {us : List Value} {kw : List (Str × Value)} {Q : Unit → Shared → Prop}
    (hC : h.get? C = some (excClassObj nm q C N bs bm hdct sn sub ab col dd k0 k1 k2 k3 k5 newId))
    (hq : Q () ⟨h, g, d, t, os⟩) : wpAny M A (checkBuiltinCall newId ⟨.ref C :: us, kw⟩) Q E ⟨h, g, d, t, os⟩ := by
  have c1 : (Value.ref C :: bm).contains (.type B) = true := by
    rw [List.contains_cons, hT, F.hasB]; exact Bool.or_true _
  have c2 := F.noStar
  simp only [checkBuiltinCall, F.newKind, F.newSplit, F.newRow]
  repeat (first
    | refine wpAny_loadPart_at hC ?_
    | (refine wpAny_isSubtype_exc hC ?_; rw [c1])
    | refine wpAny_staticBase_exc hC ?_
    | refine wpAny_madeBy_exc hC ?_
    | simp only [bne_self_eq_false, Bool.false_eq_true, if_false]
    | wp_step)
  exact hq

theorem xk_new (F : ExcBaseFacts B newId initId bmB)
    (hT : ∀ y : String, bm.contains (.type y) = bmB.contains (.type y)) {us : List Value} {kw : List (Str × Value)}
    (hC : h.get? C = some (excClassObj nm q C N bs bm hdct sn sub ab col dd k0 k1 k2 k3 k5 newId))
    (hl : us.length ≤ sizeLine)
    (hq : R (.ok (.ret (.ref (h.objs.size + 1)))) ⟨(h.push (W.kdv_tup us)).push (excO C h.objs.size), g, d, t, os⟩) :
    codeAny (model prog w) A (.builtin newId ⟨.ref C :: us, kw⟩) R ⟨h, g, d, t, os⟩ := by
  have c0 := F.ends
  have c1 : (Value.ref C :: bm).contains (.type B) = true := by
    rw [List.contains_cons, hT, F.hasB]; exact Bool.or_true _
  have c2 : (Value.ref C :: bm).contains (.type "AttributeError") = false := by
    rw [List.contains_cons, hT, F.noAttr]; rfl
  have c3 : (Value.ref C :: bm).contains (.type "NameError") = false := by
    rw [List.contains_cons, hT, F.noName]; rfl
  refine codeAny_builtinAt F.entry ?_
  unfold Builtin.«BaseException.__new__»
  refine wpAt_bind ?_
  show wpAt _ _ _ (stack >>= _) _ _ _
  refine wpAt_bind (wpAt_stack fun p below => wpAt_of_wpAny ?_)
  wp_walk
  refine wpAt_of_wpAny ?_
  rw [F.owner]
  repeat (first
    | with_reducible refine wpAny_madeHere_exc F.canon hC ?_
    | with_reducible refine wpAny_loadPart_at hC ?_
    | (with_reducible refine wpAny_isSubtype_exc hC ?_; first | rw [c1] | rw [c2] | rw [c3])
    | wp_step)
  show R _ _
  rw [Heap.size_push]
  exact hq
theorem xk_type {fI : Addr} {Q : Fin → Shared → Prop} (F : ExcBaseFacts B newId initId bmB)
    (hT : ∀ y : String, bm.contains (.type y) = bmB.contains (.type y)) {us : List Value} {kw : List (Str × Value)}
    (hC : h.get? C = some (excClassObj nm q C N bs bm hdct sn sub ab col dd k0 k1 k2 k3 k5 newId))
    (hi : W.Looks (model prog w) h (typeLookup (.ref C) "__init__") (some (.ref fI)))
    (hb : ∀ x, W.Looks (model prog w) h (bindSpecial (.ref fI) x) (.ref fI, [x])) (hl : us.length ≤ sizeLine)
    (hq : codeAny (model prog w) A (.call (.ref fI) ⟨.ref (h.objs.size + 1) :: us, kw⟩)
      (fun r s' => match r with
        | .ok (.ret v) => v = .none ∧ Q (.done (.ret (.ref (h.objs.size + 1)))) s'
        | .ok _ => False
        | .error e => E e s') ⟨(h.push (W.kdv_tup us)).push (excO C h.objs.size), g, d, t, os⟩) :
    wpAny (model prog w) A (Builtin.«type.__call__» ⟨.ref C :: us, kw⟩) Q E ⟨h, g, d, t, os⟩ := by
  repeat (first
    | with_reducible refine wpAny_loadPart_at hC ?_
    | with_reducible refine wpAny_madeBy_exc hC ?_
    | wp_step)
  refine codeAny_call_builtin_code (Code.quiet_builtin _ F.quiet) (xk_check F hT hC ?_)
  refine xk_new F hT hC hl ?_
  show wpAny _ _ _ _ _ _
  have kp : ∀ b o, h.get? b = some o → ((h.push (W.kdv_tup us)).push (excO C h.objs.size)).get? b = some o :=
    fun b o e => Heap.get?_push_of_some _ (Heap.get?_push_of_some _ e)
  have hC1 := kp _ _ hC
  have hx : ((h.push (W.kdv_tup us)).push (excO C h.objs.size)).get? (h.objs.size + 1) = some (excO C h.objs.size) := by
    heap_get
  have hcc : (Value.ref C :: bm).contains (.ref C) = true := by simp
  have i1 := hi.keeps kp
  have b1 := (hb (.ref (h.objs.size + 1))).keeps kp
  unfold isInstance
  repeat (first
    | with_reducible refine wpAny_loadPart_at hx ?_
    | (with_reducible refine wpAny_isSubtype_exc hC1 ?_; rw [hcc])
    | wp_step)
  show wpAny _ _ (typeLookup (.ref C) _) _ _ _
  refine i1.at ?_
  refine wpAny_holding (wpAny_bind (b1.at ?_))
  refine wpAny_bind (wpAny_call (codeAny_mono hq fun r s' z => ?_))
  rcases r with e | (v | _ | _ | _) <;> first | exact z | exact z.elim | skip
  obtain ⟨rfl, z⟩ := z
  first
    | exact wpAny_pure (wpAny_pure z)
    | (wp_walk; exact z)

theorem xk_call {fI : Addr} (F : ExcBaseFacts B newId initId bmB)
    (hT : ∀ y : String, bm.contains (.type y) = bmB.contains (.type y)) {us : List Value} {kw : List (Str × Value)}
    (hC : h.get? C = some (excClassObj nm q C N bs bm hdct sn sub ab col dd k0 k1 k2 k3 k5 newId))
    (hi : W.Looks (model prog w) h (typeLookup (.ref C) "__init__") (some (.ref fI)))
    (hb : ∀ x, W.Looks (model prog w) h (bindSpecial (.ref fI) x) (.ref fI, [x])) (hl : us.length ≤ sizeLine)
    (hq : codeAny (model prog w) (A.under (.builtin "type.__call__" ⟨.ref C :: us, kw⟩)) (.call (.ref fI) ⟨.ref (h.objs.size + 1) :: us, kw⟩)
      (W.InitBack (h.objs.size + 1) R) ⟨(h.push (W.kdv_tup us)).push (excO C h.objs.size), g, d, t, os⟩) :
    codeAny (model prog w) A (.call (.ref C) ⟨us, kw⟩) R ⟨h, g, d, t, os⟩ := by
  have f1 := tc_lookup
  have f2 := tc_bind (.ref C)
  have hty : (⟨h, g, d, t, os⟩ : Shared).TypeIs (.ref C) "type" := ⟨_, hC, rfl⟩
  refine codeAny_of_tree ?_
  show wpAny _ _ (callAny (.ref C) _) _ _ _
  repeat (any_goals (first
    | assumption
    | with_reducible refine wpAny_loadPart_at hC ?_
    | wp_step))
  refine ⟨rfl, ?_⟩
  refine codeAny_call_builtin_at (Code.quiet_builtin _ (by decide +kernel)) entry_typeCall
    (wpAny_check_type_call_sub hC (xk_type F hT hC hi hb hl ?_))
  refine codeAny_mono hq fun r s' z => ?_
  rcases r with e | (v | _ | _ | _) <;> exact z
end
end EdX
end PySem
set_option Elab.async false
set_option linter.all false
set_option maxRecDepth 100000
set_option maxHeartbeats 4000000
namespace PySem.W
open PySem PySem.Spec PySem.Calls PyProof.Rows
section
variable {prog : Program} {w : World} {A : Around} {E : Value → Shared → Prop} {s : Shared} {K : Frag} {x D : Addr} {ox : Obj} {od : Option Obj}
/-- a data descriptor of the class goes ahead of the instance's dict -/
theorem xk_find {C : Addr} {name : Str} {a g : Value} (hc : (clsIn K C).isSome = true) (ha : findIn K (.ref C) name = some (some a))
    (hg : specialIn K a "__get__" = some (some g)) (ht : takesIn K a = some true) : findObj K C od name = some (.bind g a) := by
  obtain ⟨cd, hc⟩ := Option.isSome_iff_exists.mp hc
  unfold findObj
  rw [hc, Option.bind_some, ha, Option.bind_some]
  simp [hg, ht]

theorem xk_class {Q : Option Value → Shared → Prop} (C : L2.ExcC K D)
    (X : K.In s.heap) (I : InstAt s.heap x ox D od) (h : Q (some (.ref D)) { s with toks := s.toks + 1 }) :
    wpAny (model prog w) A (getAttr? (.ref x) "__class__") Q E s := by
  have hs : (clsIn K D).isSome = true := by
    obtain ⟨cd, hc, _⟩ := any_some C.hd
    rw [hc]; rfl
  have hf := xk_find (od := od) hs C.ha C.hn C.ht
  obtain ⟨hp, g, d, t, os⟩ := s
  have L0 := I.type (M := model prog w)
  have L1 := looks_findIn (M := model prog w) X C.hg
  have L2 := looks_findIn (M := model prog w) X C.hk
  have L3 := looks_find (M := model prog w) X I hf
  have L4 : Looks (model prog w) hp (isInstance (.ref x) (.type "BaseException")) true := L0.andThen (looks_subIn X C.hs)
  have e0 : (false && onTheHeap (Value.builtin "BaseException.__getattribute__")) = false := rfl
  have e2 : (Value.builtin "BaseException.__getattribute__" == Value.builtin "object.__getattribute__") = false := by decide +kernel
  have e1 : (onTheHeap (Value.ref D) && Value.builtin "BaseException.__getattribute__" == Value.builtin "object.__getattribute__") = false := by
    rw [e2]; rfl
  unfold getAttr? getAttrBy? getAttrBy
  refine wpAny_bind (wpAny_mkText (wpAny_bind (wpAny_attempt (wpAny_holding (wpAny_bind (L0.at (wpAny_bind (L1.at ?_))))))))
  show wpAny _ _ (if (onTheHeap (Value.ref D) && Value.builtin "BaseException.__getattribute__" == Value.builtin "object.__getattribute__") = true
    then _ else _) _ _ _
  rw [e1, if_neg Bool.false_ne_true]
  unfold getAttrByItsOwn hookBefore
  refine wpAny_bind ?_
  rw [if_pos (show onTheHeap (Value.ref D) = true from rfl)]
  refine L2.at ?_
  refine wpAny_bind (wpAny_attempt (wpAny_holding ?_))
  unfold callGetattribute
  rw [e0, if_neg Bool.false_ne_true]
  unfold boundAndCalled
  rw [PySem.F.excAttr_ValueError.ga.bind (.ref x)]
  refine wpAny_bind (wpAny_pure ?_)
  show wpAny _ _ (call (.builtin "BaseException.__getattribute__") [.ref x, .str "__class__" t]) _ _ _
  refine wpAny_call (codeAny_call_builtin PySem.F.excAttr_ValueError.ga.plain PySem.F.entry_bexc_ga ?_)
  refine @check_slot (model prog w) _ _ ⟨hp, g, d, t + 1, os⟩ "BaseException.__getattribute__" "BaseException" "__getattribute__"
    (.ref x) [.str "__class__" t] [] _ (by decide +kernel) (by decide +kernel) L4 (PySem.F.args_bexc_ga (.ref x) (.str "__class__" t)) ?_
  unfold Builtin.«object.__getattribute__»
  refine wpAny_bind (wpAny_of_eq (a := ((Value.ref x : Value), [Value.str "__class__" t]))
    (by first | rfl | (simp only [slotArgs]; rfl)) ?_)
  refine wpAny_bind (wpAny_pure (wpAny_bind (L0.at (wpAny_bind (L3.at ?_)))))
  show wpAny _ _ (holding [Value.builtin "object.__class__"]
    (call (.builtin "getset_descriptor.__get__") [.builtin "object.__class__", .ref x, .ref D]) >>= ret) _ _ _
  refine wpAny_bind (wpAny_holding (wpAny_call (class_get (s := ⟨hp, g, d, t + 1, os⟩) (ox := ox) (od := od) X I C.hm ?_)))
  refine wpAny_pure ?_
  show wpAny _ _ (handedOut (.ref D)) _ _ _
  rw [handedOut_of (v := .ref D) rfl]
  first
    | exact wpAny_pure (wpAny_pure h)
    | exact wpAny_pure h
    | exact wpAny_pure (wpAny_bind (wpAny_pure (wpAny_pure h)))

theorem xk_kit (C : L2.ExcC K D) : KitX K (.ref x) (.ref D) (fun h => InstAt h x ox D od) where
  ty := fun _ _ _ I => I.type
  it := fun _ _ X _ => by
    obtain ⟨cdD, hcD, _⟩ := any_some C.hd
    unfold clsIn at hcD
    split at hcD
    · rename_i c' d' cd' sl' ho
      intro A' Q' E' s' k q
      unfold isType loadHead
      exact wpAny_bind (wpAny_loadPart (k _ _ (X _ _ ho)) (wpAny_pure q))
    · cases hcD
  ne := fun h tp dd its n sl X htp => by
    obtain ⟨cdD, hcD, _⟩ := any_some C.hd
    refine Bool.eq_false_iff.mpr fun q => ?_
    have e : D = tp := Value.ref.inj (beq_iff_eq.mp q)
    subst e
    unfold clsIn at hcD
    split at hcD
    · rename_i c' d' cd' sl' ho
      have z := (X _ _ ho).symm.trans htp
      cases z
    · cases hcD
  ca := fun X I k => xk_class C X I k
end
end PySem.W
set_option Elab.async false
set_option linter.all false
set_option maxRecDepth 100000
set_option maxHeartbeats 4000000
namespace L2
open PySem PySem.Spec PyProof.Rows
/-! ### errors as values -/
/-- at a: an error of the class at C, its fields fs -/
def ErrAt (H : Hp) (a C : Addr) (fs : List (Str × V)) : Prop := ∃ dx, H a = some (exo a C (some dx)) ∧ H dx = some (exd dx fs)
theorem ErrAt.mono {H H' : Hp} {a C : Addr} {fs : List (Str × V)} (h : ErrAt H a C fs) (s : Same H H') : ErrAt H' a C fs := by
  obtain ⟨dx, h1, h2⟩ := h
  exact ⟨dx, s _ _ h1, s _ _ h2⟩
/-- at a: an error object of the class at C, whatever its fields -/
def IsX (H : Hp) (a C : Addr) : Prop := ∃ (φ : Heap → Prop) (od : Option Addr), H a = some (.ext φ) ∧
  (∀ h : Heap, φ h → ∃ (oe : Obj) (vs : Array Value), h.get? a = some oe ∧ oe.cls = .ref C ∧ oe.dict = od ∧ oe.data = .fields vs) ∧
  ∀ d, od = some d → ∃ fs, H d = some (exd d fs)
theorem IsX.mono {H H' : Hp} {a C : Addr} (h : IsX H a C) (s : Same H H') : IsX H' a C := by
  obtain ⟨φ, od, h1, h2, h3⟩ := h
  exact ⟨φ, od, s _ _ h1, h2, fun d e => (h3 d e).imp fun fs z => s _ _ z⟩
theorem ErrAt.isX {H : Hp} {a C : Addr} {fs : List (Str × V)} (h : ErrAt H a C fs) : IsX H a C := by
  obtain ⟨dx, h1, h2⟩ := h
  refine ⟨_, some dx, h1, fun h ⟨t1, e⟩ => ⟨_, _, e, rfl, rfl, rfl⟩, fun d e => ?_⟩
  obtain rfl := Option.some.inj e
  exact ⟨fs, h2⟩
theorem exO_isX {H : Hp} {a C : Addr} (h : H a = some (ExO (.ref C) a)) : IsX H a C := by
  refine ⟨_, none, h, fun h ⟨oe, vs, e, z, d, _⟩ => ⟨oe, vs, e, z.1, z.2, d⟩, fun d e => nomatch e⟩
/-- what a tracked error is to the library -/
theorem isX_inst {X : Cx} {pins : List (Addr × Obj)} {σ : St} {H : Hp} {s : Shared} {a C : Addr} (I : Inv X pins σ H s) (h : IsX H a C) :
    ∃ oe od, PySem.W.InstAt s.heap a oe C od := by
  obtain ⟨φ, od, h1, h2, h3⟩ := h
  obtain ⟨p, _, _⟩ := (show ObjOk X.prog X.w H s.heap a (.ext φ) from I.hok a _ h1)
  obtain ⟨oe, vs, e1, e2, e3, e4⟩ := h2 _ p
  cases od with
  | none => exact ⟨oe, none, e1, e2, by unfold PySem.W.notCls; rw [e4], by rw [e3]; trivial⟩
  | some d =>
    obtain ⟨fs, hd⟩ := h3 d rfl
    obtain ⟨mA, hn, _⟩ := exd_at I.hok hd
    obtain ⟨o, ho, _⟩ := lookIn_ns hn
    exact ⟨oe, some o, e1, e2, by unfold PySem.W.notCls; rw [e4], by rw [e3]; exact ho⟩
/-- isinstance(e, c) of a tracked error -/
def rIsx (K : PySem.W.Frag) : List V → Hp → VK → Prop := fun xs H Q => ∃ (a D : Addr) (c : V) (cv : Value) (b : Bool),
  xs = [.ref a, c] ∧ IsX H a D ∧ ExcC K D ∧ ClsV c cv ∧ PySem.W.kitOne K (.ref D) cv = some b ∧ Q (.bl b) H
theorem call_isx {X : Cx} : CallR X (.builtin "isinstance") (rIsx X.K) := by
  intro pins s σ H xs us Q I r h
  obtain ⟨a, D, c, cv, b, rfl, hx, hC, hcv, e, q⟩ := h
  cases r with
  | cons rx rr =>
    cases rr with
    | cons rt rr =>
      cases rr
      cases rx
      have ec := hcv.eq rt
      subst ec
      obtain ⟨oe, od, J⟩ := isX_inst I hx
      exact PySem.W.kia_one (PySem.W.xk_kit hC) I.kIn J e (fun z => nomatch z) fun tk => ⟨.bl b, H, I.kept (t' := tk) fun _ _ z => z, rfl, q⟩
/-- isinstance(e, (c1, c2, ..)) of a tracked error -/
def rIsxT (K : PySem.W.Frag) : List V → Hp → VK → Prop := fun xs H Q => ∃ (a D tp : Addr) (cs : List V) (us : List Value) (b : Bool),
  xs = [.ref a, .ref tp] ∧ IsX H a D ∧ ExcC K D ∧ H tp = some (.tup cs) ∧ Paired ClsV cs us ∧ PySem.W.kitAny K (.ref D) us = some b ∧ Q (.bl b) H
theorem call_isxT {X : Cx} : CallR X (.builtin "isinstance") (rIsxT X.K) := by
  intro pins s σ H xs us Q I r h
  obtain ⟨a, D, tp, cs, ws, b, rfl, hx, hC, hT, k, e, q⟩ := h
  obtain ⟨u1, u2, rfl, r1, r2⟩ := vals2 r
  cases (show u1 = Value.ref a from r1)
  cases (show u2 = Value.ref tp from r2)
  obtain ⟨oe, od, J⟩ := isX_inst I hx
  obtain ⟨_, its, rv, o, h1, h2, n, h3⟩ := (show ObjOk X.prog X.w H s.heap tp (.tup cs) from I.hok tp _ hT)
  have e3 := ClsV.all k rv
  subst e3
  obtain ⟨oc, od', dt, sl⟩ := o
  simp only at h2 h3
  subst h2 h3
  exact PySem.W.kia_tup (PySem.W.xk_kit hC) I.kIn J h1 e (fun z => nomatch z) fun tk => ⟨.bl b, H, I.tok tk, rfl, q⟩
/-- e.f of a tracked error -/
def tXat (K : PySem.W.Frag) (f : Str) (te : TE) : TE := fun σ H Q => te σ H fun x H1 => ∃ (a C : Addr) (fs : List (Str × V)) (v : V),
  x = .ref a ∧ ErrAt H1 a C fs ∧ XfC K C ∧ PySem.W.findIn K (.ref C) f = some none ∧ fs.lookup f = some v ∧ Q v H1
theorem pe_xat {X : Cx} {e : Expr} {te : TE} {pos : Pos} {n : Str} (he : PE X e te) (hb : attributeBase e n X.env (eval e X.env) = eval e X.env := by rfl) :
    PE X (.Attribute e n pos) (tXat X.K n te) := by
  refine ⟨fun pins s σ H Q I h => ?_⟩
  refine attr_of hb (thn (he.run pins s σ H _ I h) fun u s1 hh => ?_)
  obtain ⟨x, H1, I1, rx, a, C, fs, v, rfl, ⟨dx, hA, hD⟩, T, hno, l, q⟩ := hh
  obtain rfl : u = Value.ref a := rx
  obtain ⟨t1, ha⟩ := exo_at I1.hok hA
  obtain ⟨mA, hns, hr⟩ := exd_at I1.hok hD
  obtain ⟨od, ho, hl⟩ := lookIn_ns hns
  obtain ⟨u, hu, ru⟩ := RelO.some_of (v := v) (o := mA n) (by rw [← l]; exact hr n)
  have J : PySem.W.InstAt s1.heap a _ C (some od) := ⟨ha, rfl, rfl, ho⟩
  exact HandSPX.exc_get I1.kIn J T.ga T.gg T.exC (PySem.W.findObj_own T.hdC hno rfl (by rw [hl, hu])) (handed_of ru) ⟨v, H1, I1.tok _, ru, q⟩
/-! ### making them -/
section
variable {X : Cx} {C fI : Addr} {k n : Nat} {fd : FuncData} {ps ks : List Str} {sp : Sp} {g : List Value → List Value → List Value} {gV : List V → List V → List V}
theorem run_mkx {pins : List (Addr × Obj)} {σ : St} {H : Hp} {s : Shared} {Q : VK} {us ws : List Value} {vs zs : List V} (T : OexC X.K C)
    (iC : PySem.W.findIn X.K (.ref C) "__init__" = some (some (.ref fI))) (tI : PySem.W.typeIn X.K (.ref fI) = some (.type "function"))
    (F1 : FnOk X.prog X.w X.K X.mg X.base CX0 k fI fd ps sp) (hr : Room (k + 1) X.A) (hb : KBn X.K fd ps (n + 1) ks g gV) (I : Inv X pins σ H s)
    (r : Vals vs us) (rz : Vals zs ws) (l1 : vs.length = n) (l2 : zs.length = ks.length) (ln : n ≤ 1000)
    (h : ∀ a, H a = none → sp (gV (.ref a :: vs) zs) (upd H a (exo a C none)) (fun v H2 => v = .non ∧ Q (.ref a) H2) E0) :
    wpAny (model X.prog X.w) X.A (call (.ref C) us (ks.zip ws)) (EP X pins σ Q) X.xe s := by
  obtain ⟨nm, q, N, bs, bm, sn, sub, ab, col, dd, k0, k1, k2, k3, k5, hC, hbm⟩ := T.cls
  obtain ⟨hp, gn, dr, tk, os⟩ := s
  have hsz : hp.objs.size ≤ hp.objs.size + 1 := Nat.le_succ _
  have hq := h (hp.objs.size + 1) (I.hok.fresh hsz)
  have hus : us.length ≤ sizeLine := by
    rw [← Paired.length r, sizeLine_eq]
    omega
  have kk : ∀ b o, hp.get? b = some o → ((hp.push (PySem.W.kdv_tup us)).push (PySem.HandSPX.excO C hp.objs.size)).get? b = some o :=
    fun b o e => Heap.get?_push_of_some _ (Heap.get?_push_of_some _ e)
  have hget : ((hp.push (PySem.W.kdv_tup us)).push (PySem.HandSPX.excO C hp.objs.size)).get? (hp.objs.size + 1) = some (PySem.HandSPX.excO C hp.objs.size) := by
    heap_get
  have I2 : Inv X pins σ (upd H (hp.objs.size + 1) (exo (hp.objs.size + 1) C none)) ⟨(hp.push (PySem.W.kdv_tup us)).push (PySem.HandSPX.excO C hp.objs.size), gn, dr, tk, os⟩ :=
    I.laid (t' := tk) (a := hp.objs.size + 1) (o := exo (hp.objs.size + 1) C none)
      (h' := (hp.push (PySem.W.kdv_tup us)).push (PySem.HandSPX.excO C hp.objs.size)) kk hsz (exo_ok hget)
  have r1 : Vals (V.ref (hp.objs.size + 1) :: vs) (Value.ref (hp.objs.size + 1) :: us) := .cons rfl r
  have e1 : (Value.ref (hp.objs.size + 1) :: us).length = n + 1 := r1.length.symm.trans (congrArg Nat.succ l1)
  have e2 : ws.length = ks.length := rz.length.symm.trans l2
  refine wpAny_call (PySem.EdX.xk_call F.excBase_ValueError (fun Y => PySem.HandSPX.refsVE_contains Y bm hbm) (I.kIn _ _ hC)
    (PySem.W.looks_findIn I.kIn iC) (fun self => PySem.W.bind_fn I.kIn self tI) hus
    (codeAny_mono (F1.run _ X.stack _ _ ⟨Value.ref (hp.objs.size + 1) :: us, ks.zip ws⟩ (g (Value.ref (hp.objs.size + 1) :: us) ws) _ _ E0
      (hr.make C us (ks.zip ws)) (I2.env0.make C us (ks.zip ws)) (hb.to _ _ ws I2.kIn e1 e2) (hb.rel r1 rz) hq) fun r s' hq' => ?_))
  cases r with
  | error e => exact hq'.elim
  | ok fl =>
    cases fl with
    | ret u =>
      obtain ⟨v, H', I3, rv, ev, q3⟩ := I2.after hq'
      subst ev
      exact ⟨rv, ⟨V.ref (hp.objs.size + 1), H', I3, rfl, q3⟩⟩
    | next => exact False.elim hq'
    | brk => exact False.elim hq'
    | cont => exact False.elim hq'
end
end L2
set_option Elab.async false
set_option linter.all false
set_option maxRecDepth 100000
set_option maxHeartbeats 4000000
namespace L2
open PySem PySem.Spec PyProof.Rows
/-! ### __init__(self, f): self.f = f -/
def spI1 (K : PySem.W.Frag) (f : Str) : Sp := fun vs H Q _ => ∃ (a C : Addr) (v : V), vs = [.ref a, v] ∧ OexC K C ∧
  PySem.W.findIn K (.ref C) f = some none ∧ H a = some (exo a C none) ∧
  ∀ dx, H dx = none → dx ≠ a → Q .non (upd (upd H dx (exd dx [(f, v)])) a (exo a C (some dx)))
def spI2 (K : PySem.W.Frag) (f g : Str) : Sp := fun vs H Q _ => ∃ (a C : Addr) (v u : V), vs = [.ref a, v, u] ∧ OexC K C ∧
  PySem.W.findIn K (.ref C) f = some none ∧ PySem.W.findIn K (.ref C) g = some none ∧ H a = some (exo a C none) ∧
  ∀ dx, H dx = none → dx ≠ a → Q .non (upd (upd (upd H dx (exd dx [(f, v)])) a (exo a C (some dx))) dx (exd dx [(g, u), (f, v)]))
section
variable {P : Program} {w : World} {K : PySem.W.Frag} {mg : Str → Option Value} {base : Heap} {qual : Str} {params : Arguments} {body : List Stmt} {scope : Scope} {fI : Addr} {fd : FuncData}
theorem ok_I1 {f : Str} (F : FunD K "__init__" qual params body scope [] [] fI fd) (S : FnScope ["self", f] ["self", f] scope)
    (v0 : Vis scope "self") (v1 : Vis scope f) (d1 : (f == ("__debug__" : Str)) = false) (d2 : (f == ("__classdict__" : Str)) = false)
    (hb : ∃ q1 q2 q3 q4, body = [.Assign [.Attribute (.Name "self" q1) f q2] (.Name f q3) q4]) : FnOk P w K mg base CX0 1 fI fd ["self", f] (spI1 K f) := by
  refine F.ok S (fun vs H Q E h => ?_) (fun cdv A outer s H vs Q E hr h => ?_)
  · obtain ⟨a, C, v, rfl, _⟩ := h
    rfl
  · obtain ⟨q1, q2, q3, q4, rfl⟩ := hb
    obtain ⟨a, C, v, rfl, T, no, ea, q⟩ := h
    refine ⟨_, pss_one (ps_ost (pe_var (i := 0) rfl v0) (pe_var (i := 1) rfl v1 d1 d2)), ?_⟩
    exact ⟨v, rfl, .ref a, rfl, a, C, rfl, T, no, .inl ⟨ea, fun dx n ne => q dx n ne⟩⟩
theorem ok_I2 {f g : Str} (F : FunD K "__init__" qual params body scope [] [] fI fd) (S : FnScope ["self", f, g] ["self", f, g] scope)
    (v0 : Vis scope "self") (v1 : Vis scope f) (v2 : Vis scope g) (d1 : (f == ("__debug__" : Str)) = false) (d2 : (f == ("__classdict__" : Str)) = false)
    (d3 : (g == ("__debug__" : Str)) = false) (d4 : (g == ("__classdict__" : Str)) = false)
    (hb : ∃ q1 q2 q3 q4 q5 q6 q7 q8, body = [.Assign [.Attribute (.Name "self" q1) f q2] (.Name f q3) q4, .Assign [.Attribute (.Name "self" q5) g q6] (.Name g q7) q8]) :
    FnOk P w K mg base CX0 1 fI fd ["self", f, g] (spI2 K f g) := by
  refine F.ok S (fun vs H Q E h => ?_) (fun cdv A outer s H vs Q E hr h => ?_)
  · obtain ⟨a, C, v, u, rfl, _⟩ := h
    rfl
  · obtain ⟨q1, q2, q3, q4, q5, q6, q7, q8, rfl⟩ := hb
    obtain ⟨a, C, v, u, rfl, T, no, no2, ea, q⟩ := h
    refine ⟨_, pss_cons (ps_ost (pe_var (i := 0) rfl v0) (pe_var (i := 1) rfl v1 d1 d2)) (pss_one (ps_ost (pe_var (i := 0) rfl v0) (pe_var (i := 2) rfl v2 d3 d4))), ?_⟩
    refine ⟨v, rfl, .ref a, rfl, a, C, rfl, T, no, .inl ⟨ea, fun dx n ne => ?_⟩⟩
    refine ⟨u, rfl, .ref a, rfl, a, C, rfl, T, no2, .inr ⟨dx, [(f, v)], upd_same, ?_, (show 1 ≤ 900 by decide), q dx n ne⟩⟩
    rw [upd_ne ne, upd_same]
/-- arguments by position -/
theorem kb_pos {x : Str} {ps : List Str} {n : Nat} (F : FunD K x qual params body scope [] [] fI fd)
    (h : ∀ (kV doc pm : Value) (an : Option Addr) (cdv ct : Value) (us : List Value), us.length = n → bindArgs (PySem.W.fnOf x qual params body scope .none kV doc pm an cdv ct) ⟨us, []⟩ = pure (ps.zip us)) :
    KBn K fd ps n [] (fun us _ => us) (fun vs _ => vs) := by
  obtain ⟨oc, od, dV, kV, doc, pm, an, cdv, ct, osl, rfl, lk, hcd, hD, hK⟩ := F.ex
  rcases hD with ⟨_, rfl⟩ | ⟨e, _⟩
  · exact ⟨fun s us ws _ hl _ => .of_eq (h kV doc pm an cdv ct us hl), fun r _ => r⟩
  · exact absurd rfl e
/-- arguments by position and by name, in the order of the parameters -/
theorem kb_kw {x : Str} {ps ks : List Str} {n : Nat} (F : FunD K x qual params body scope [] [] fI fd) (g : {α : Type} → List α → List α → List α)
    (hg : ∀ {vs zs : List V} {us ws : List Value}, Vals vs us → Vals zs ws → Vals (g vs zs) (g us ws))
    (h : ∀ (kV doc pm : Value) (an : Option Addr) (cdv ct : Value) (us ws : List Value), us.length = n → ws.length = ks.length → bindArgs (PySem.W.fnOf x qual params body scope .none kV doc pm an cdv ct) ⟨us, ks.zip ws⟩ = pure (ps.zip (g us ws))) :
    KBn K fd ps n ks (fun us ws => g us ws) (fun vs zs => g vs zs) := by
  obtain ⟨oc, od, dV, kV, doc, pm, an, cdv, ct, osl, rfl, lk, hcd, hD, hK⟩ := F.ex
  rcases hD with ⟨_, rfl⟩ | ⟨e, _⟩
  · exact ⟨fun s us ws _ hl hm => .of_eq (h kV doc pm an cdv ct us ws hl hm), fun r z => hg r z⟩
  · exact absurd rfl e
end
/-! ### an error class of the program -/
structure ErC (K : PySem.W.Frag) (mg : Str → Option Value) (x : Str) (C : Addr) : Prop where
  gC : mg x = some (.ref C)
  T : OexC K C
  xf : XfC K C
  ec : ExcC K C
structure Er1 (P : Program) (w : World) (K : PySem.W.Frag) (mg : Str → Option Value) (base : Heap) (x f : Str) (C : Addr) : Prop extends ErC K mg x C where
  no : PySem.W.findIn K (.ref C) f = some none
  ini : ∃ fI fd, PySem.W.findIn K (.ref C) "__init__" = some (some (.ref fI)) ∧ PySem.W.typeIn K (.ref fI) = some (.type "function") ∧
    FnOk P w K mg base CX0 1 fI fd ["self", f] (spI1 K f) ∧ KBn K fd ["self", f] 2 [] (fun us _ => us) (fun vs _ => vs) ∧
    KBn K fd ["self", f] 1 [f] (fun us ws => us ++ ws) (fun vs zs => vs ++ zs)
structure Er2 (P : Program) (w : World) (K : PySem.W.Frag) (mg : Str → Option Value) (base : Heap) (x f g : Str) (C : Addr) : Prop extends ErC K mg x C where
  no : PySem.W.findIn K (.ref C) f = some none
  no2 : PySem.W.findIn K (.ref C) g = some none
  ini : ∃ fI fd, PySem.W.findIn K (.ref C) "__init__" = some (some (.ref fI)) ∧ PySem.W.typeIn K (.ref fI) = some (.type "function") ∧
    FnOk P w K mg base CX0 1 fI fd ["self", f, g] (spI2 K f g) ∧ KBn K fd ["self", f, g] 3 [] (fun us _ => us) (fun vs _ => vs) ∧
    KBn K fd ["self", f, g] 1 [g, f] (fun us ws => us ++ ws.reverse) (fun vs zs => vs ++ zs.reverse)
/-! ### readings -/
def tEr1 (C : Addr) (f : Str) (te : TE) : TE := fun σ H Q => te σ H fun v H1 => ∀ H2 a, Same H1 H2 → H1 a = none → ErrAt H2 a C [(f, v)] → Q (.ref a) H2
def tEr2 (C : Addr) (f g : Str) (ta tb : TE) : TE := fun σ H Q => ta σ H fun v H1 => tb σ H1 fun u H2 => ∀ H3 a, Same H2 H3 → H2 a = none → ErrAt H3 a C [(g, u), (f, v)] → Q (.ref a) H3
def tEr2k (C : Addr) (f g : Str) (ta tb : TE) : TE := fun σ H Q => tb σ H fun u H1 => ta σ H1 fun v H2 => ∀ H3 a, Same H2 H3 → H2 a = none → ErrAt H3 a C [(g, u), (f, v)] → Q (.ref a) H3
theorem mk1_same {H : Hp} {a dx C : Addr} {f : Str} {v : V} (ha : H a = none) (hd : upd H a (exo a C none) dx = none) (ne : dx ≠ a) :
    Same H (upd (upd (upd H a (exo a C none)) dx (exd dx [(f, v)])) a (exo a C (some dx))) := fun b o e => by
  rw [upd_ne ne] at hd
  rw [upd_ne (ne_of_none e ha), upd_ne (ne_of_none e hd), upd_ne (ne_of_none e ha)]
  exact e
section
variable {X : Cx} {x f g : Str} {C : Addr} {e e2 : Expr} {te te2 : TE} {p pos kp kp2 : Pos}
theorem pe_er1 (T : Er1 X.prog X.w X.K X.mg X.base x f C) (hr : Room 2 X.A) (hg : Gl X x) (ha : PE X e te)
    (hdb : (x == ("__debug__" : Str)) = false := by decide) (he : starEach [e] X.env = (false, eval e X.env) :: starEach [] X.env := by rfl) :
    PE X (.Call (.Name x p) [e] [] pos) (tEr1 C f te) := by
  refine ⟨fun pins s σ H Q I h => ?_⟩
  obtain ⟨fI, fd, iC, tI, F1, b1, _⟩ := T.ini
  refine wpAny_Call_Name_kw (ld_glob I hg T.gC ?_ hdb)
  refine PySem.W.callWith_K (h₀ := X.base) I.ok.mod.kin T.T.kC (thn ((pa_cons ha pa_nil he).run pos pins s σ H (fun vs H1 => match vs with
    | [v] => ∀ H2 a, Same H1 H2 → H1 a = none → ErrAt H2 a C [(f, v)] → Q (.ref a) H2
    | _ => False) I h) fun us s1 ⟨vs, H1, I1, r1, q1⟩ => ⟨I1.kIn, ?_⟩) he (by rfl)
  match vs, r1, q1 with
  | [v], r1, q1 =>
    refine run_mkx (n := 1) (ks := []) (ws := []) T.T iC tI F1 hr b1 I1 r1 .nil rfl rfl (by decide) fun a na => ?_
    refine ⟨a, C, v, rfl, T.T, T.no, upd_same, fun dx nd ne => ⟨rfl, q1 _ a (mk1_same na nd ne) na ⟨dx, upd_same, ?_⟩⟩⟩
    rw [upd_ne ne, upd_same]
theorem pe_er1k (T : Er1 X.prog X.w X.K X.mg X.base x f C) (hr : Room 2 X.A) (hg : Gl X x) (ha : PE X e te)
    (hall : (backToKw pos (keywordEach [⟨some f, e, kp⟩] X.env)).all (·.1.isSome) = true := by rfl)
    (hks : (backToKw pos (keywordEach [⟨some f, e, kp⟩] X.env)).filterMap (·.1) = [f] := by rfl)
    (hpl : ((backTo pos (starEach [] X.env)).any (·.1) || (backToKw pos (keywordEach [⟨some f, e, kp⟩] X.env)).any (·.1.isNone)) = false := by rfl)
    (hdb : (x == ("__debug__" : Str)) = false := by decide) :
    PE X (.Call (.Name x p) [] [⟨some f, e, kp⟩] pos) (tEr1 C f te) := by
  refine ⟨fun pins s σ H Q I h => ?_⟩
  obtain ⟨fI, fd, iC, tI, F1, _, b1⟩ := T.ini
  refine wpAny_Call_Name_kw (ld_glob I hg T.gC ?_ hdb)
  refine PySem.W.callWith_KW0 (h₀ := X.base) I.ok.mod.kin T.T.kC hall (thn ((pk_cons ha pk_nil).run pos pins s σ H (fun vs H1 => match vs with
    | [v] => ∀ H2 a, Same H1 H2 → H1 a = none → ErrAt H2 a C [(f, v)] → Q (.ref a) H2
    | _ => False) I h) fun ws s1 ⟨vs, H1, I1, r1, q1⟩ => ⟨I1.kIn, ?_⟩) hpl
  rw [hks]
  match vs, r1, q1 with
  | [v], r1, q1 =>
    refine run_mkx (n := 0) (us := []) (vs := []) T.T iC tI F1 hr b1 I1 .nil r1 rfl rfl (by decide) fun a na => ?_
    refine ⟨a, C, v, rfl, T.T, T.no, upd_same, fun dx nd ne => ⟨rfl, q1 _ a (mk1_same na nd ne) na ⟨dx, upd_same, ?_⟩⟩⟩
    rw [upd_ne ne, upd_same]
theorem mk2_same {H : Hp} {a dx C : Addr} {v u : V} (ha : H a = none) (hd : upd H a (exo a C none) dx = none) (ne : dx ≠ a) :
    Same H (upd (upd (upd (upd H a (exo a C none)) dx (exd dx [(f, v)])) a (exo a C (some dx))) dx (exd dx [(g, u), (f, v)])) := fun b o e => by
  have z := mk1_same (f := f) (v := v) ha hd ne b o e
  rw [upd_ne ne] at hd
  rw [upd_ne (ne_of_none e hd)]
  exact z
theorem pe_er2 (T : Er2 X.prog X.w X.K X.mg X.base x f g C) (hr : Room 2 X.A) (hg : Gl X x) (ha : PE X e te) (ha2 : PE X e2 te2)
    (hdb : (x == ("__debug__" : Str)) = false := by decide) (he : starEach [e, e2] X.env = (false, eval e X.env) :: starEach [e2] X.env := by rfl) (he2 : starEach [e2] X.env = (false, eval e2 X.env) :: starEach [] X.env := by rfl)
    (hpl : (backTo pos (starEach [e2] X.env)).any (·.1) = false := by rfl) :
    PE X (.Call (.Name x p) [e, e2] [] pos) (tEr2 C f g te te2) := by
  refine ⟨fun pins s σ H Q I h => ?_⟩
  obtain ⟨fI, fd, iC, tI, F1, b1, _⟩ := T.ini
  refine wpAny_Call_Name_kw (ld_glob I hg T.gC ?_ hdb)
  refine PySem.W.callWith_K (h₀ := X.base) I.ok.mod.kin T.T.kC (thn ((pa_cons ha (pa_cons ha2 pa_nil he2) he).run pos pins s σ H (fun vs H1 => match vs with
    | [v, u] => ∀ H2 a, Same H1 H2 → H1 a = none → ErrAt H2 a C [(g, u), (f, v)] → Q (.ref a) H2
    | _ => False) I h) fun us s1 ⟨vs, H1, I1, r1, q1⟩ => ⟨I1.kIn, ?_⟩) he hpl
  match vs, r1, q1 with
  | [v, u], r1, q1 =>
    refine run_mkx (n := 2) (ks := []) (ws := []) T.T iC tI F1 hr b1 I1 r1 .nil rfl rfl (by decide) fun a na => ?_
    refine ⟨a, C, v, u, rfl, T.T, T.no, T.no2, upd_same, fun dx nd ne => ⟨rfl, q1 _ a (mk2_same na nd ne) na ⟨dx, ?_, upd_same⟩⟩⟩
    rw [upd_ne ne.symm, upd_same]
theorem pe_er2k (T : Er2 X.prog X.w X.K X.mg X.base x f g C) (hr : Room 2 X.A) (hg : Gl X x) (ha : PE X e te) (ha2 : PE X e2 te2)
    (hall : (backToKw pos (keywordEach [⟨some g, e2, kp⟩, ⟨some f, e, kp2⟩] X.env)).all (·.1.isSome) = true := by rfl)
    (hks : (backToKw pos (keywordEach [⟨some g, e2, kp⟩, ⟨some f, e, kp2⟩] X.env)).filterMap (·.1) = [g, f] := by rfl)
    (hpl : ((backTo pos (starEach [] X.env)).any (·.1) || (backToKw pos (keywordEach [⟨some g, e2, kp⟩, ⟨some f, e, kp2⟩] X.env)).any (·.1.isNone)) = false := by rfl)
    (hdb : (x == ("__debug__" : Str)) = false := by decide) :
    PE X (.Call (.Name x p) [] [⟨some g, e2, kp⟩, ⟨some f, e, kp2⟩] pos) (tEr2k C f g te te2) := by
  refine ⟨fun pins s σ H Q I h => ?_⟩
  obtain ⟨fI, fd, iC, tI, F1, _, b1⟩ := T.ini
  refine wpAny_Call_Name_kw (ld_glob I hg T.gC ?_ hdb)
  refine PySem.W.callWith_KW0 (h₀ := X.base) I.ok.mod.kin T.T.kC hall (thn ((pk_cons ha2 (pk_cons ha pk_nil)).run pos pins s σ H (fun vs H1 => match vs with
    | [u, v] => ∀ H2 a, Same H1 H2 → H1 a = none → ErrAt H2 a C [(g, u), (f, v)] → Q (.ref a) H2
    | _ => False) I h) fun ws s1 ⟨vs, H1, I1, r1, q1⟩ => ⟨I1.kIn, ?_⟩) hpl
  rw [hks]
  match vs, r1, q1 with
  | [u, v], r1, q1 =>
    refine run_mkx (n := 0) (us := []) (vs := []) T.T iC tI F1 hr b1 I1 .nil r1 rfl rfl (by decide) fun a na => ?_
    refine ⟨a, C, v, u, rfl, T.T, T.no, T.no2, upd_same, fun dx nd ne => ⟨rfl, q1 _ a (mk2_same na nd ne) na ⟨dx, ?_, upd_same⟩⟩⟩
    rw [upd_ne ne.symm, upd_same]
/-- X(), an own exception class without own __init__, as a value -/
theorem pe_exc0 {bmB : List Value} {B newId initId : String} (F : ExcBaseFacts B newId initId bmB) (q : PySem.W.excIn X.K C bmB newId = true) (gC : X.mg x = some (.ref C)) (kC : PySem.W.keepIn X.K (.ref C) = true) (hg : Gl X x)
    (hdb : (x == ("__debug__" : Str)) = false := by decide) :
    PE X (.Call (.Name x p) [] [] pos) (fun σ H Q => ∀ a, H a = none → Q (.ref a) (upd H a (ExO (.ref C) a))) := by
  refine ⟨fun pins s σ H Q I h => ?_⟩
  refine wpAny_Call_Name_kw (ld_glob I hg gC ?_ hdb)
  refine PySem.W.callWith_K0 I.kIn kC ?_
  show wpAny _ _ (call (.ref C) []) _ _ _
  obtain ⟨bm, N, nm, qn, bs, hdct, sn, sub, ab, col, dd, k0, k1, k2, k3, k5, mN, hC, hN, hni, T⟩ := exc_obj I.kIn q
  refine wpAny_call_exc_subT F T hC hN hni (fun h' a hm => ?_) (by show 0 ≤ sizeLine; exact Nat.zero_le _)
  have hn : H a = none := I.hok.gone hm.new
  obtain ⟨t, ht, _, _⟩ := hm.there
  exact ⟨.ref a, upd H a (ExO (.ref C) a), I.laidN hm.keeps hm.new hn (exO_ok ht ⟨rfl, rfl⟩ rfl rfl rfl (show 4 < 6 by decide)), rfl, h a hn⟩
end
end L2
set_option Elab.async false
set_option linter.all false
set_option maxRecDepth 100000
set_option maxHeartbeats 4000000
namespace L2
open PySem PySem.Spec PyProof.Rows
/-! ### promises that hold where no repr is under way (guards) -/
structure FnG (P : Program) (w : World) (K : PySem.W.Frag) (mg : Str → Option Value) (base : Heap) (CX : CXT) (k : Nat) (f : Addr) (fd : FuncData) (ps : List Str) (sp : Sp) : Prop where
  len : ∀ vs H Q E, sp vs H Q E → vs.length = ps.length
  run : ∀ (A : Around) (outer : List Env) (s : Shared) (H : Hp) (args : Args) (us : List Value) (vs : List V) (Q : VK) (E : XK),
    Room k A → A.guards = some [] → Env0 P w K mg base A outer s H → BindsTo s fd args (ps.zip us) → Vals vs us → sp vs H Q E →
    codeAny (model P w) A (.call (.ref f) args) (CR CX outer P w H s Q E) s
section
variable {P : Program} {w : World} {K : PySem.W.Frag} {mg : Str → Option Value} {base : Heap} {CX : CXT} {k : Nat} {f : Addr} {fd : FuncData} {ps : List Str} {sp : Sp}
theorem FnOk.g (F : FnOk P w K mg base CX k f fd ps sp) : FnG P w K mg base CX k f fd ps sp :=
  ⟨F.len, fun A outer s H args us vs Q E hr _ => F.run A outer s H args us vs Q E hr⟩
theorem FunD.okG {x qual : Str} {params : Arguments} {body : List Stmt} {scope : Scope} {dvs : List V} {kws : List (Str × V)} {N : List Str}
    (F : FunD K x qual params body scope dvs kws f fd) (S : FnScope N ps scope) (len : ∀ vs H Q E, sp vs H Q E → vs.length = ps.length)
    (hbody : ∀ (cdv : Value) (A : Around) (outer : List Env) (s : Shared) (H : Hp) (vs : List V) (Q : VK) (E : XK),
      Room k (A.deeper (envOfC qual scope s.heap.objs.size f cdv)) → (A.deeper (envOfC qual scope s.heap.objs.size f cdv)).guards = some [] → sp vs H Q E →
      ∃ t, PSs (cxOf CX P w K mg base N qual scope f cdv A outer s H E) body t ∧ t { nx := fun _ H' => Q .non H', rt := Q } (start N vs) H) :
    FnG P w K mg base CX (k + 1) f fd ps sp := by
  obtain ⟨oc, od, dV, kV, doc, pm, an, cdv, ct, osl, rfl, lk, hcd, _, _⟩ := F.ex
  refine ⟨len, fun A outer s H args us vs Q E hr hgd e0 hb r hsp => ?_⟩
  have hl := len _ _ _ _ hsp
  have kb : ∀ b o, base.get? b = some o → s.heap.get? b = some o := fun b o e => (e0.bs b o e).1
  have KX : K.In s.heap := e0.mod.kin.keeps kb
  have lim : s.heap.NoLimit := e0.mod.nolimit.keeps kb
  have hkd : ∀ y ∈ ps.zip us, scope.names.lookup y.1 = some .local ∨
      (scope.names.lookup y.1 = some .cell ∧ ((cellsFrom (s.heap.objs.size + 1) scope.names []).lookup y.1).isSome = true) := fun ⟨n, v⟩ hy => by
    rcases S.par n (List.of_mem_zip hy).1 with q | q
    · exact Or.inl q
    · exact Or.inr ⟨q, PySem.W.cellsFrom_some _ _ _ (Or.inl q)⟩
  refine codeAny_call_function hr.depth (KX _ _ lk) rfl S.co S.gen rfl (PySem.W.codeRec_of KX hcd) (hb _ _ _ _ ?_)
  refine wpAny_newFunctionEnv_cells S.kind hkd fun env he s1 x => ?_
  subst he
  refine ⟨lim.keeps x.toInCall.keep, codeAny_func ?_⟩
  obtain ⟨t, ht, hq⟩ := hbody cdv A outer s H vs Q E (hr.deeper _) hgd hsp
  have I : Inv (cxOf CX P w K mg base N qual scope f cdv A outer s H E) [] (start N vs) H s1 := inv_start S hr.hd e0 hl r x
  refine wpAny_mono (ht.run [] s1 (start N vs) H _ I hq) (fun fl s' hs => ?_) fun e s' hs => hs
  have fin : ∀ {σ' : St} {H' : Hp} {v : V} {u : Value}, Inv (cxOf CX P w K mg base N qual scope f cdv A outer s H E) [] σ' H' s' →
      RelV v u → Q v H' → CE outer P w H s Q u s' := fun {σ' H' v u} J rv q => ⟨v, H', J.os, J.bare, J.base, J.hok, rv, q⟩
  cases fl with
  | ret u =>
    obtain ⟨v, σ', H', J, rv, q⟩ := hs
    exact fin J rv q
  | next =>
    obtain ⟨σ', H', J, q⟩ := hs
    exact fin (v := V.non) (u := Value.none) J rfl q
  | brk =>
    obtain ⟨_, _, _, q⟩ := hs
    exact q.elim
  | cont =>
    obtain ⟨_, _, _, q⟩ := hs
    exact q.elim
end
section
variable {X : Cx} {CX : CXT} {k : Nat} {f : Addr} {fd : FuncData} {ps : List Str} {sp : Sp} {E : XK} {x : Str} {p pos : Pos} {e : Expr} {es : List Expr} {t : TA}
theorem run_fnG {pins : List (Addr × Obj)} {σ : St} {H : Hp} {s : Shared} {Q : VK} {us : List Value} {vs : List V} (F : FnG X.prog X.w X.K X.mg X.base CX k f fd ps sp)
    (hr : Room k X.A) (hgd : X.A.guards = some []) (hb : Binds X.K fd ps []) (hx : Passes CX X E) (I : Inv X pins σ H s) (r : Vals vs us) (h : sp vs H Q E) :
    wpAny (model X.prog X.w) X.A (call (.ref f) us) (EP X pins σ Q) X.xe s := by
  have hl : (us ++ []).length = ps.length := by
    rw [List.append_nil, ← r.length]; exact F.len _ _ _ _ h
  have hb2 := hb s us I.kIn hl
  rw [List.append_nil] at hb2
  refine wpAny_call (codeAny_mono (F.run X.A X.stack s H ⟨us, []⟩ us vs Q E hr hgd I.env0 hb2 r h) fun r s' hq => ?_)
  cases r with
  | error e => exact hx pins σ H s e s' I hq
  | ok fl =>
    cases fl with
    | ret u => exact I.after hq
    | next => exact False.elim hq
    | brk => exact False.elim hq
    | cont => exact False.elim hq
/-- f(e, ..) -/
def tCallG (sp : Sp) (E : XK) (t : TA) : TE := fun σ H Q => t σ H fun vs H1 => sp vs H1 Q E
theorem pe_callG (F : FnG X.prog X.w X.K X.mg X.base CX k f fd ps sp) (hr : Room k X.A) (hgd : X.A.guards = some []) (hg : Gl X x) (hm : X.mg x = some (.ref f))
    (hk : PySem.W.keepIn X.K (.ref f) = true) (hb : Binds X.K fd ps []) (hx : Passes CX X E)
    (ha : PA X (e :: es) t) (hdb : (x == ("__debug__" : Str)) = false := by decide)
    (he : starEach (e :: es) X.env = (false, eval e X.env) :: starEach es X.env := by rfl) (hpl : (backTo pos (starEach es X.env)).any (·.1) = false := by rfl) :
    PE X (.Call (.Name x p) (e :: es) [] pos) (tCallG sp E t) := by
  refine ⟨fun pins s σ H Q I h => ?_⟩
  refine wpAny_Call_Name_kw (ld_glob I hg hm ?_ hdb)
  refine PySem.W.callWith_K (h₀ := X.base) I.ok.mod.kin hk (thn (ha.run pos pins s σ H _ I h) fun us s1 ⟨vs, H1, I1, r, q⟩ => ⟨I1.kIn, ?_⟩) he hpl
  exact run_fnG F hr hgd hb hx I1 r q
end
/-! ### the law's own call -/
theorem law_callG {P : Program} {w : World} {K : PySem.W.Frag} {mg mb : Str → Option Value} {k : Nat} {fa a : Addr} {fd : FuncData} {x : Str} {sp : Sp} {s₁ : Shared} {vs : List Value} {ns : List Int}
    (KX : K.In s₁.heap) (hns : s₁.heap.Ns mainGlobals mg) (hb : s₁.heap.Ns builtinsNs mb) (hbb : ∀ x : Str, x ≠ "__name__" → mb x = bootBuiltins x)
    (hlim : s₁.heap.NoLimit) (hg : s₁.gens = #[]) (ha : s₁.heap.get? a = some { cls := .type "list", data := .seq vs.toArray }) (hi : IntsAre vs ns)
    (hl : ns.length ≤ sizeLine) (hr : Room k callerA)
    (F : ∀ base : Heap, K.In base → base.Ns mainGlobals mg → FnG P w K mg base CX0 k fa fd [x] sp)
    (hbind : ∀ (s : Shared) (u : Value), BindsTo s fd ⟨[u], []⟩ [(x, u)])
    (hsp : ∀ H : Hp, Only H → SqL K H a (ns.map V.int) → sp [.ref a] H (fun v _ => v = .bl true) fun _ _ _ => False) :
    codeAny (model P w) callerA (.call (.ref fa) ⟨[.ref a], []⟩)
      (fun r s' => r = .ok (.ret (.bool true)) ∧ OldK s₁.heap s'.heap ∧ s'.os = s₁.os ∧ AllBare s'.gens) s₁ := by
  have rv := vals_ints hi
  have lenV := hi.length
  have core : ∀ H : Hp, Only H → SqL K H a (ns.map V.int) → HOk P w H s₁.heap → (∀ b, H b ≠ none → b = a) → (H a ≠ none → K.lookup a = none) →
      codeAny (model P w) callerA (.call (.ref fa) ⟨[.ref a], []⟩)
        (fun r s' => r = .ok (.ret (.bool true)) ∧ OldK s₁.heap s'.heap ∧ s'.os = s₁.os ∧ AllBare s'.gens) s₁ := by
    intro H hO hS hok hA hK
    have hbase : ∀ {b : Addr} {o : Obj}, s₁.heap.get? b = some o → H b = none → (hidT s₁.heap H).get? b = some o := fun e n => hidT_get e n
    have hno : ∀ {b : Addr} {o : Obj} {es : Array DictEntry} {ep : Nat}, s₁.heap.get? b = some o → o.data = .dict es ep → H b = none := fun {b o es ep} e d => by
      cases q : H b with
      | none => rfl
      | some u =>
        have e' : b = a := hA b (by rw [q]; exact fun z => nomatch z)
        subst e'
        rw [ha] at e
        cases e
        have d' : Data.seq vs.toArray _ = Data.dict es ep := d
        cases d'
    have hNs : ∀ {b : Addr} {m : Str → Option Value}, s₁.heap.Ns b m → (hidT s₁.heap H).Ns b m := fun {b m} ⟨o, es, ep, e, d, r⟩ => ⟨o, es, ep, hbase e (hno e d), d, r⟩
    have hKb : K.In (hidT s₁.heap H) := fun b o e => hbase (KX b o e) (by
      cases q : H b with
      | none => rfl
      | some u =>
        have e' : b = a := hA b (by rw [q]; exact fun z => nomatch z)
        subst e'
        rw [hK (by rw [q]; exact fun z => nomatch z)] at e
        cases e)
    have hM : Mod K mg (hidT s₁.heap H) := ⟨hKb, hNs hns, ⟨mb, hNs hb, hbb⟩, let ⟨mc, h1, h2⟩ := hlim; ⟨mc, hNs h1, h2⟩⟩
    have e0 : Env0 P w K mg (hidT s₁.heap H) callerA [] s₁ H :=
      ⟨rfl, hM, fun b o e => of_hidT e, Nat.le_of_eq (hidT_size _ _), trivial, fun b hb => absurd (show b ∈ ([] : List Addr) from hb) (by simp), hok, .of_eq hg⟩
    refine codeAny_mono ((F _ hKb (hNs hns)).run callerA [] s₁ H ⟨[.ref a], []⟩ [.ref a] [.ref a] _ _ hr rfl e0 (hbind s₁ (.ref a)) (.cons rfl .nil) (hsp H hO hS)) fun r s' h => ?_
    cases r with
    | error e => exact False.elim h
    | ok fl =>
      cases fl with
      | next => exact False.elim h
      | brk => exact False.elim h
      | cont => exact False.elim h
      | ret u =>
        obtain ⟨v, H', os, bare, un, hok', r', q⟩ := h
        have q' : v = .bl true := q
        subst q'
        obtain rfl : u = Value.bool true := r'
        refine ⟨rfl, OldK.of_keep fun b o e => ?_, os, bare⟩
        cases q : H b with
        | none => exact un.keep b o e q (fun z => absurd (show b ∈ ([] : List Addr) from z) (by simp)) (by simp)
        | some u =>
          rcases hO b with z | ⟨ob, xs, z⟩
          · rw [q] at z
            cases z
          · have z2 := un.frzs b ob _ z
            obtain ⟨e1, _⟩ := hok b _ z
            obtain ⟨e2, _⟩ := hok' b _ z2
            rw [e] at e1
            cases e1
            exact e2
  cases hk : K.lookup a with
  | some o =>
    have e := KX a o hk
    rw [ha] at e
    cases e
    exact core (fun _ => none) (fun _ => .inl rfl)
      (.inr ⟨_, vs.toArray, _, hk, rfl, rfl, rfl, by rw [List.size_toArray, lenV]; exact hl, by simpa using rv⟩)
      (fun b u z => by have z' : (none : Option HO) = some u := z; cases z') (fun b z => absurd rfl z) fun z => absurd rfl z
  | none =>
    refine core (fun b => if b = a then some (.frz { cls := .type "list", data := .seq vs.toArray } (.lst (ns.map V.int))) else none)
      (fun b => ?_) (.inl (.inr ⟨{ cls := .type "list", data := .seq vs.toArray }, if_pos rfl⟩)) (fun b u z => ?_) (fun b z => ?_) fun _ => hk
    · by_cases hb : b = a
      · exact .inr ⟨_, _, if_pos hb⟩
      · exact .inl (if_neg hb)
    · by_cases hb : b = a
      · have z' := (if_pos hb).symm.trans z
        cases z'
        subst hb
        exact ⟨ha, by rw [List.length_map]; exact hl, vs, _, rv, ha⟩
      · have z' := (if_neg hb).symm.trans z
        cases z'
    · by_cases hb : b = a
      · exact hb
      · exact absurd (if_neg hb) z
theorem walk_ofG {l : PySem.W.OpenLaw} {n k : Nat} {q : Program} {loose : List Str} {XP : (Str → Option Value) → Heap → Prop} {YP : World → Heap → Prop} {d : DefRec} {x : Str}
    (hn : l.most = some n) (hn2 : n ≤ sizeLine) (hdf : d.params.defaults = []) (hr : Room k callerA)
    (F : ∀ (w : World) (mg : Str → Option Value) (fa : Addr) (h : Heap), YP w h → h.Ns mainGlobals mg → mg d.name = some (.ref fa) →
      ∃ (K : PySem.W.Frag) (fd : FuncData) (sp : Sp), K.In h ∧ (∀ (s : Shared) (u : Value), BindsTo s fd ⟨[u], []⟩ [(x, u)]) ∧
        (∀ (H : Hp) (a : Addr) (ns : List Int), ns.length ≤ n → Only H → SqL K H a (ns.map V.int) → sp [.ref a] H (fun v _ => v = .bl true) fun _ _ _ => False) ∧
        ∀ base : Heap, K.In base → base.Ns mainGlobals mg → FnG l.prog w K mg base CX0 k fa fd [x] sp) :
    PySem.W.WalkO q loose XP YP l.row.toRowW d [] (fun f vs => PySem.call f vs) := by
  refine Att.attach_call hn hdf fun w s₀ s₁ mg mb fa o pm cd doc a vs ns G Y ho hd hcd hmg hobj hints hlen hg => ?_
  obtain ⟨K, fd, sp, KX, hb, hsp, hF⟩ := F w mg fa _ Y G.T.g hmg
  exact law_callG KX G.T.g G.T.b G.T.builtins G.T.nolimit hg hobj hints (Nat.le_trans hlen hn2) hr hF hb fun H hO hS => hsp H a ns hlen hO hS
end L2
set_option Elab.async false
set_option linter.all false
set_option maxRecDepth 100000
set_option maxHeartbeats 4000000
namespace L2
open PySem PySem.Spec PyProof.Rows
/-! ### data at any depth, dicts too, and repr of them -/
def keyD : Key → PyData
  | .inl i => .int i
  | .inr x => .str x
mutual
inductive Dq (K : PySem.W.Frag) (H : Hp) : V → PyData → Prop
  | non : Dq K H .non .none
  | bl (b : Bool) : Dq K H (.bl b) (.bool b)
  | int (i : Int) : Dq K H (.int i) (.int i)
  | str (x : Str) : Dq K H (.str x) (.str x)
  | lst {a : Addr} {xs : List V} {ds : List PyData} : SqL K H a xs → DqAll K H xs ds → Dq K H (.ref a) (.list ds)
  | tup {a : Addr} {xs : List V} {ds : List PyData} : SqT K H a xs → DqAll K H xs ds → Dq K H (.ref a) (.tuple ds)
  | dct {a : Addr} {kvs : List (Key × V)} {ps : List (PyData × PyData)} : H a = some (.dK kvs) → DqKv K H kvs ps → Dq K H (.ref a) (.dict ps)
inductive DqAll (K : PySem.W.Frag) (H : Hp) : List V → List PyData → Prop
  | nil : DqAll K H [] []
  | cons {v : V} {vs : List V} {d : PyData} {ds : List PyData} : Dq K H v d → DqAll K H vs ds → DqAll K H (v :: vs) (d :: ds)
inductive DqKv (K : PySem.W.Frag) (H : Hp) : List (Key × V) → List (PyData × PyData) → Prop
  | nil : DqKv K H [] []
  | cons {k : Key} {v : V} {d : PyData} {kvs : List (Key × V)} {ps : List (PyData × PyData)} : Dq K H v d → DqKv K H kvs ps → DqKv K H ((k, v) :: kvs) ((keyD k, d) :: ps)
end
/-- the written part holds sys.modules, a dict -/
def SysIn (K : PySem.W.Frag) : Prop := ∃ o, K.lookup sysModules = some o ∧ o.cls = .type "dict"
section
variable {X : Cx} {pins : List (Addr × Obj)} {σ : St} {H : Hp} {s : Shared}
theorem sys_untracked (I : Inv X pins σ H s) (hS : SysIn X.K) : H sysModules = none := by
  obtain ⟨o, e, _⟩ := hS
  exact (I.bs _ _ (I.ok.mod.kin _ _ e)).2
theorem sqL_ne (I : Inv X pins σ H s) (hS : SysIn X.K) {a : Addr} {xs : List V} (h : SqL X.K H a xs) : sysModules ≠ a := fun z => by
  have hn := sys_untracked I hS
  obtain ⟨o, e, c⟩ := hS
  rw [z] at hn e
  rcases h with (h | ⟨_, h⟩) | ⟨o', _, _, e', c', _⟩
  · rw [h] at hn; cases hn
  · rw [h] at hn; cases hn
  · rw [e] at e'; cases e'; rw [c] at c'; exact absurd c' (by decide)
mutual
theorem Dq.reads (I : Inv X pins σ H s) (hS : SysIn X.K) : ∀ {v : V} {d : PyData}, Dq X.K H v d → ∀ u : Value, RelV v u → ∃ as, Reads s.heap u d as ∧ sysModules ∉ as
  | _, _, .non, u, r => by
    cases r
    exact ⟨_, Reads.none, by simp⟩
  | _, _, .bl b, u, r => by
    cases r
    exact ⟨_, Reads.bool b, by simp⟩
  | _, _, .int i, u, r => by
    obtain ⟨t, rfl⟩ := r
    exact ⟨_, Reads.int i t, by simp⟩
  | _, _, .str x, u, r => by
    obtain ⟨t, rfl⟩ := r
    exact ⟨_, Reads.str x t, by simp⟩
  | _, _, .lst hs ha, u, r => by
    cases r
    obtain ⟨its, rv, ⟨o, n, ho, hc, _, hd⟩, _⟩ := I.list hs
    obtain ⟨as, hr, hn⟩ := Dq.readsAll I hS ha its rv
    refine ⟨_, Reads.list ho hc hd hr, fun z => ?_⟩
    rcases List.mem_cons.mp z with z | z
    · exact sqL_ne I hS hs z
    · exact hn z
  | _, _, .tup hs ha, u, r => by
    cases r
    obtain ⟨its, rv, ⟨o, ho, hc, n, hd⟩, _⟩ := I.tuple hs
    obtain ⟨as, hr, hn⟩ := Dq.readsAll I hS ha its rv
    exact ⟨_, Reads.tuple ho hc hd hr, hn⟩
  | _, _, @Dq.dct _ _ a kvs ps hs ha, u, r => by
    cases r
    obtain ⟨_, _, vs, rel, o, es, ep, h1, h2, h3, _, h5, _⟩ := dk_of I.hok hs
    obtain ⟨as, bs, hr, hq, hn, hm⟩ := Dq.readsKv I hS ha es.toList vs rel h5
    refine ⟨_, Reads.dict h1 h2.1 h3 hr hq, fun z => ?_⟩
    rcases List.mem_append.mp z with z | z
    · rcases List.mem_cons.mp z with z | z
      · have hn := sys_untracked I hS
        rw [z, hs] at hn
        cases hn
      · exact hn z
    · exact hm z
theorem Dq.readsAll (I : Inv X pins σ H s) (hS : SysIn X.K) : ∀ {vs : List V} {ds : List PyData}, DqAll X.K H vs ds → ∀ us : List Value, Vals vs us → ∃ as, ReadsAll s.heap us ds as ∧ sysModules ∉ as
  | _, _, .nil, us, r => by
    cases r
    exact ⟨_, ReadsAll.nil, by simp⟩
  | _, _, .cons h1 h2, us, r => by
    cases r with
    | cons r1 r2 =>
      obtain ⟨as, q1, n1⟩ := Dq.reads I hS h1 _ r1
      obtain ⟨bs, q2, n2⟩ := Dq.readsAll I hS h2 _ r2
      exact ⟨_, ReadsAll.cons q1 q2, fun z => (List.mem_append.mp z).elim n1 n2⟩
theorem Dq.readsKv (I : Inv X pins σ H s) (hS : SysIn X.K) : ∀ {kvs : List (Key × V)} {ps : List (PyData × PyData)}, DqKv X.K H kvs ps → ∀ (es : List DictEntry) (vs : List (Key × Value)), KV kvs vs → Pairs (mixKind X.prog X.w) es vs →
    ∃ as bs, ReadsAll s.heap (es.map (·.key)) (ps.map (·.1)) as ∧ ReadsAll s.heap (es.map (·.val)) (ps.map (·.2)) bs ∧ sysModules ∉ as ∧ sysModules ∉ bs
  | _, _, .nil, es, vs, r, p => by
    cases r
    cases p
    exact ⟨[], [], ReadsAll.nil, ReadsAll.nil, by simp, by simp⟩
  | _, _, @DqKv.cons _ _ k v d kvs ps h1 h2, es, vs, r, p => by
    cases r with
    | cons r1 r2 =>
      cases p with
      | @cons en kv es' vs' p1 p2 p3 =>
        obtain ⟨e1, e2⟩ := r1
        obtain ⟨as, q1, n1⟩ := Dq.reads I hS h1 _ e2
        obtain ⟨bs, cs, q2, q3, n2, n3⟩ := Dq.readsKv I hS h2 _ _ r2 p3
        have hk : Reads s.heap en.key (keyD k) [] := by
          rcases keyIs_shape p1 with ⟨i, t, z1, z2⟩ | ⟨x, t, z1, z2⟩
          · rw [z2, show k = Sum.inl i from e1.trans z1]; exact Reads.int i t
          · rw [z2, show k = Sum.inr x from e1.trans z1]; exact Reads.str x t
        refine ⟨_, _, ReadsAll.cons hk q2, ReadsAll.cons ?_ q3, n2, fun z => (List.mem_append.mp z).elim n1 n3⟩
        show Reads s.heap en.val d as
        rw [p2]
        exact q1
end
end
section
variable {X : Cx}
/-- repr(x), x a list, tuple or dict of data -/
def rRepr (K : PySem.W.Frag) : List V → Hp → VK → Prop := fun xs H Q => ∃ (a : Addr) (d : PyData), xs = [.ref a] ∧ Dq K H (.ref a) d ∧ d.showable = true ∧ d.depth ≤ 30 ∧ d.shown.length ≤ sizeLine ∧ Q (.str d.shown) H
theorem call_repr {k : Nat} (hS : SysIn X.K) (hgd : X.A.guards = some []) (hr : Room k X.A) : CallR X (.builtin "repr") (rRepr X.K) := by
  intro pins s σ H xs us Q I r h
  obtain ⟨a, d, rfl, hd, hs, hdp, hz, q⟩ := h
  obtain ⟨u, rfl, r1⟩ := vals1 r
  obtain rfl : u = Value.ref a := r1
  obtain ⟨as, rd, hn⟩ := Dq.reads I hS hd _ rfl
  refine repr_of_reads' rd hs (fun _ => hn) hgd (by have := hr.un; omega) (fun _ _ z => z) (fun h' u tk k => ?_) hz
  exact ⟨.str d.shown, H, I.kept (t' := tk) k, ⟨u, rfl⟩, q⟩
end
end L2
set_option Elab.async false
set_option linter.all false
set_option maxRecDepth 100000
set_option maxHeartbeats 4000000
namespace L2
open PySem PySem.Spec PyProof.Rows
/-! ### helpers -/
theorem same_upd {H : Hp} {p : Addr} {o : HO} (h : H p = none) : Same H (upd H p o) := fun b x e => by
  rw [upd_ne (ne_of_none e h)]
  exact e
theorem upd_none {H : Hp} {a b : Addr} {o : HO} (h : upd H a o b = none) : b ≠ a ∧ H b = none := by
  by_cases e : b = a
  · subst e; rw [upd_same] at h; cases h
  · rw [upd_ne e] at h; exact ⟨e, h⟩
theorem Same.rfl' {H : Hp} : Same H H := fun _ _ e => e
/-- all but the object at p stands as it stood -/
def SB (p : Addr) (H H' : Hp) : Prop := ∀ b o, b ≠ p → H b = some o → H' b = some o
theorem SB.refl {p : Addr} {H : Hp} : SB p H H := fun _ _ _ e => e
theorem Same.sb {p : Addr} {H H' : Hp} (s : Same H H') : SB p H H' := fun b o _ e => s b o e
theorem SB.trans {p : Addr} {H1 H2 H3 : Hp} (a : SB p H1 H2) (b : SB p H2 H3) : SB p H1 H3 := fun x o n e => b x o n (a x o n e)
theorem SB.upd {p : Addr} {H : Hp} {o : HO} : SB p H (upd H p o) := fun b x n e => by rw [upd_ne n]; exact e
/-- a statement, what holds behind it, the rest -/
def tMid (t u : TS) : TS := fun D σ H => ∃ M : St → Hp → Prop, t { D with nx := M } σ H ∧ ∀ σ' H', M σ' H' → u D σ' H'
theorem pss_mid {X : Cx} {st : Stmt} {rest : List Stmt} {t u : TS} (h1 : PS X st t) (h2 : PSs X rest u) : PSs X (st :: rest) (tMid t u) := by
  refine ⟨fun pins s σ H D I ⟨M, hm, hu⟩ => ?_⟩
  refine wpAny_execs_cons (thn (h1.run pins s σ H { D with nx := M } I hm) fun f s1 q => ?_)
  cases f with
  | next =>
    obtain ⟨σ', H', I', q⟩ := q
    exact h2.run pins s1 σ' H' D I' (hu σ' H' q)
  | ret v => exact q
  | brk => exact q
  | cont => exact q
/-- an expression, what holds of its value, the rest: the reading may be weakened -/
def tPost (te : TE) : TE := fun σ H Q => ∃ R : V → Hp → Prop, te σ H R ∧ ∀ v H', R v H' → Q v H'
theorem pe_post {X : Cx} {e : Expr} {te : TE} (h : PE X e te) : PE X e (tPost te) := by
  refine ⟨fun pins s σ H Q I ⟨R, hr, hq⟩ => ?_⟩
  exact thn (h.run pins s σ H R I hr) fun u s1 ⟨v, H', I', r, q⟩ => ⟨v, H', I', r, hq v H' q⟩
end L2
set_option Elab.async false
set_option linter.all false
set_option maxRecDepth 100000
set_option maxHeartbeats 4000000
namespace L2
open PySem PySem.Spec PyProof.Rows
theorem Rd.same {H H' : Hp} {a : Addr} {u : HO} (s : Same H H') (h : Rd H a u) : Rd H' a u := by
  rcases h with h | ⟨o, h⟩
  · exact .inl (s _ _ h)
  · exact .inr ⟨o, s _ _ h⟩
theorem SqL.same {K : PySem.W.Frag} {H H' : Hp} {a : Addr} {xs : List V} (s : Same H H') (h : SqL K H a xs) : SqL K H' a xs := by
  rcases h with h | h
  · exact .inl (h.same s)
  · exact .inr h
theorem SqT.same {K : PySem.W.Frag} {H H' : Hp} {a : Addr} {xs : List V} (s : Same H H') (h : SqT K H a xs) : SqT K H' a xs := by
  rcases h with h | h
  · exact .inl (h.same s)
  · exact .inr h
mutual
theorem Dq.same {K : PySem.W.Frag} {H H' : Hp} (s : Same H H') : ∀ {v : V} {d : PyData}, Dq K H v d → Dq K H' v d
  | _, _, .non => .non
  | _, _, .bl b => .bl b
  | _, _, .int i => .int i
  | _, _, .str x => .str x
  | _, _, .lst h1 h2 => .lst (h1.same s) (DqAll.same s h2)
  | _, _, .tup h1 h2 => .tup (h1.same s) (DqAll.same s h2)
  | _, _, .dct h1 h2 => .dct (s _ _ h1) (DqKv.same s h2)
theorem DqAll.same {K : PySem.W.Frag} {H H' : Hp} (s : Same H H') : ∀ {vs : List V} {ds : List PyData}, DqAll K H vs ds → DqAll K H' vs ds
  | _, _, .nil => .nil
  | _, _, .cons h1 h2 => .cons (Dq.same s h1) (DqAll.same s h2)
theorem DqKv.same {K : PySem.W.Frag} {H H' : Hp} (s : Same H H') : ∀ {kvs : List (Key × V)} {ps : List (PyData × PyData)}, DqKv K H kvs ps → DqKv K H' kvs ps
  | _, _, .nil => .nil
  | _, _, .cons h1 h2 => .cons (Dq.same s h1) (DqKv.same s h2)
end
theorem DqAll.mem {K : PySem.W.Frag} {H : Hp} {vs : List V} {ds : List PyData} (h : DqAll K H vs ds) : ∀ {v : V}, v ∈ vs → ∃ d ∈ ds, Dq K H v d := by
  induction vs generalizing ds with
  | nil => intro v hv; cases hv
  | cons x r ih =>
    cases h with
    | cons h1 h2 =>
      intro v hv
      rcases List.mem_cons.mp hv with rfl | hv
      · exact ⟨_, List.mem_cons_self, h1⟩
      · obtain ⟨d, hd, q⟩ := ih h2 hv
        exact ⟨d, List.mem_cons_of_mem _ hd, q⟩
theorem DqAll.length {K : PySem.W.Frag} {H : Hp} {vs : List V} {ds : List PyData} (h : DqAll K H vs ds) : vs.length = ds.length := by
  induction vs generalizing ds with
  | nil => cases h; rfl
  | cons x r ih => cases h with | cons h1 h2 => rw [List.length_cons, List.length_cons, ih h2]
/-- the heap without p -/
def Wo (p : Addr) (H : Hp) : Hp := fun b => if b = p then none else H b
theorem Wo.same {p : Addr} {H : Hp} : Same (Wo p H) H := fun b o e => by
  unfold Wo at e; split at e
  · cases e
  · exact e
theorem SB.wo {p : Addr} {H H' : Hp} (s : SB p H H') : Same (Wo p H) (Wo p H') := fun b o e => by
  unfold Wo at e ⊢; split at e
  · cases e
  · rename_i n; rw [if_neg n]; exact s b o n e
theorem Wo.of {p b : Addr} {H : Hp} {o : HO} (h : H b = some o) (n : b ≠ p) : Wo p H b = some o := by
  unfold Wo; rw [if_neg n]; exact h
/-- what is new in H' beside H -/
def New (H H' : Hp) : Hp := fun b => match H b with
  | none => H' b
  | some _ => none
theorem New.same {H H' : Hp} : Same (New H H') H' := fun b o e => by
  unfold New at e; split at e
  · exact e
  · cases e
theorem New.more {H H1 H2 : Hp} (s : Same H1 H2) : Same (New H H1) (New H H2) := fun b o e => by
  unfold New at e ⊢; split at e
  · exact s b o e
  · cases e
theorem New.less {H H1 H2 : Hp} (s : Same H H1) : Same (New H1 H2) (New H H2) := fun b o e => by
  unfold New at e ⊢
  split at e
  · rename_i h1
    cases h : H b with
    | none => exact e
    | some u => rw [s b u h] at h1; cases h1
  · cases e
theorem New.wo {H H' : Hp} {p : Addr} {o : HO} (h : H p = some o) : Same (New H H') (Wo p H') := fun b u e => by
  unfold New at e; split at e
  · rename_i n
    unfold Wo
    rw [if_neg (fun z => by rw [z, h] at n; cases n)]
    exact e
  · cases e
theorem New.at {H H' : Hp} {a : Addr} {o : HO} (h : H a = none) (h' : H' a = some o) : New H H' a = some o := by
  unfold New; rw [h]; exact h'
/-! ### written data -/
/-- an expression that makes the data d anew -/
def tDat (K : PySem.W.Frag) (d : PyData) : TE := fun _ H Q => ∀ H' x, Same H H' → Dq K (New H H') x d → Q x H'
def tDats (K : PySem.W.Frag) (ds : List PyData) : TA := fun _ H Q => ∀ H' xs, Same H H' → DqAll K (New H H') xs ds → Q xs H'
theorem PE.imp {X : Cx} {e : Expr} {t t' : TE} (h : PE X e t) (hi : ∀ σ H Q, t' σ H Q → t σ H Q) : PE X e t' := ⟨fun pins s σ H Q I q => h.run pins s σ H Q I (hi σ H Q q)⟩
theorem PA.imp {X : Cx} {e : List Expr} {t t' : TA} (h : PA X e t) (hi : ∀ σ H Q, t' σ H Q → t σ H Q) : PA X e t' := ⟨fun pos pins s σ H Q I q => h.run pos pins s σ H Q I (hi σ H Q q)⟩
section
variable {X : Cx} {e : Expr} {es : List Expr} {pos : Pos} {d : PyData} {ds : List PyData}
theorem pd_c {v : V} (h : PE X e (tC v)) (hd : ∀ H, Dq X.K H v d) : PE X e (tDat X.K d) := h.imp fun σ H Q q => q H v Same.rfl' (hd _)
theorem pd_nil : PA X [] (tDats X.K []) := pa_nil.imp fun σ H Q q => q H [] Same.rfl' .nil
theorem pd_cons (h : PE X e (tDat X.K d)) (hr : PA X es (tDats X.K ds)) (hs : starEach (e :: es) X.env = (false, eval e X.env) :: starEach es X.env := by rfl) : PA X (e :: es) (tDats X.K (d :: ds)) :=
  (pa_cons h hr hs).imp fun σ H Q q H1 x s1 d1 H2 xs s2 d2 => q H2 (x :: xs) (s1.trans s2) (.cons (d1.same (New.more s2)) (d2.same (New.less s1)))
theorem pd_lst (h : PA X es (tDats X.K ds)) (hl : ds.length ≤ 1000 := by decide) : PE X (.List es pos) (tDat X.K (.list ds)) := (pe_lst h).imp fun σ H Q q H1 xs s1 d1 =>
  ⟨by rw [d1.length]; exact Nat.le_of_lt (small1000 hl), fun p np => q _ _ (s1.trans (same_upd np)) (.lst (SqL.of (New.at (by
    cases hh : H p with
    | none => rfl
    | some o => rw [s1 _ _ hh] at np; cases np) upd_same)) (d1.same (New.more (same_upd np))))⟩
theorem pd_tup (h : PA X es (tDats X.K ds)) (hl : ds.length ≤ 1000 := by decide) {x1} : PE X (.Tuple es x1 pos) (tDat X.K (.tuple ds)) := (pe_tup h).imp fun σ H Q q H1 xs s1 d1 =>
  ⟨by rw [d1.length]; exact Nat.le_of_lt (small1000 hl), fun p np => q _ _ (s1.trans (same_upd np)) (.tup (SqT.of (New.at (by
    cases hh : H p with
    | none => rfl
    | some o => rw [s1 _ _ hh] at np; cases np) upd_same)) (d1.same (New.more (same_upd np))))⟩
theorem pd_dnil : PE X (.Dict [] [] pos) (tDat X.K (.dict [])) := pe_dnewK.imp fun σ H Q q p np => q _ _ (same_upd np) (.dct (New.at np upd_same) .nil)
/-- {'k': data} -/
theorem pd_d1 {k : Str} {p1 : Pos} {r : Expr} (h : PE X e (tDat X.K d)) (hk : PE X r (tC (.str k))) : PE X (.Dict [some r] [e] pos) (tDat X.K (.dict [(.str k, d)])) :=
  (pe_disp (pps_cons hk h pps_nil) rfl rfl (by simp) (by show 1 ≤ 15; decide)).imp fun σ H Q q p np H1 x s1 d1 => by
    have hp : H1 p = some (.dK []) := s1 _ _ upd_same
    refine ⟨hp, [(Sum.inr k, x)], rfl, by show 1 ≤ 15; decide, q _ _ (fun b o e => ?_) (.dct (New.at np upd_same) ?_)⟩
    · rw [upd_ne (ne_of_none e np)]
      exact s1 _ _ (by rw [upd_ne (ne_of_none e np)]; exact e)
    · refine .cons (k := Sum.inr k) (d1.same fun b o e => ?_) .nil
      have nb : b ≠ p := fun z => by
        unfold New at e
        rw [z, upd_same] at e
        cases e
      unfold New at e ⊢
      rw [upd_ne nb] at e
      cases hh : H b with
      | none => rw [hh] at e; show upd H1 p _ b = some o; rw [upd_ne nb]; exact e
      | some u => rw [hh] at e; cases e
theorem pd_neg {i : Int} (h : PE X e (tC (.int i))) : PE X (.UnaryOp .USub e pos) (tDat X.K (.int (-i))) := (pe_un un_neg h).imp fun σ H Q q => ⟨i, rfl, q H _ Same.rfl' (.int _)⟩
end
end L2
set_option Elab.async false
set_option linter.all false
set_option maxRecDepth 100000
set_option maxHeartbeats 4000000
namespace L2
open PySem PySem.Spec PyProof.Rows
/-! ### the head: a Bool over the written part, and the defs -/
def frS (g : Addr → Option Obj) (n : Nat) : PySem.W.Frag := He.frT g (sysModules :: He.asD g n)
def hkS (n : Nat) (fn : List He.DefD) (ex : PySem.W.Frag → Bool) : PySem.W.Hook where
  α := Bool × He.AlD
  obs := fun s => (ex (frS s.heap.get? n), He.obsD [] fn (frS s.heap.get? n))
  val := fun _ => (true, He.valD fn)
  says := fun _ h => ∃ K : PySem.W.Frag, K.In h ∧ ex K = true ∧ He.SaysD [] fn K
  of := fun w s e => ⟨frS s.heap.get? n, He.frT_in, (Prod.mk.inj e).1, (Prod.mk.inj e).2⟩
  keeps := fun w h h' ⟨K, h1, h2⟩ k => ⟨K, h1.keeps k, h2⟩
def obS (n : Nat) (fn : List He.DefD) (ex : PySem.W.Frag → Bool) (s : PySem.W.SharedT) : Bool × He.AlD := (ex (frS (HandSHeadRun.getT s) n), He.obsD [] fn (frS (HandSHeadRun.getT s) n))
theorem obS_eq {n : Nat} {fn : List He.DefD} {ex : PySem.W.Frag → Bool} (s : PySem.W.SharedT) : obS n fn ex s = (hkS n fn ex).obs s.abs := by
  have e : HandSHeadRun.getT s = s.abs.heap.get? := funext (HandSHeadRun.getT_eq s)
  unfold obS
  rw [e]
  rfl
/-! ### what is looked at of an error class -/
def oexB (K : PySem.W.Frag) (C : Addr) : Bool := match K.lookup C with
  | some ⟨.type t, _, .cls cd, sl⟩ => (match cd.mro, sl.toList with
    | .ref C' :: bm, [_, _, _, _, some (.builtin n), _] => decide (t = "type") && (decide (C' = C) && (decide (n = "ValueError.__new__") && (!cd.hasDel && (cd.hasDict && PySem.HandSPX.refsVE bm))))
    | _, _ => false)
  | _ => false
theorem oexB_ok {K : PySem.W.Frag} {C : Addr} (h : oexB K C = true) : ∃ nm q N bs bm sn sub ab col dd k0 k1 k2 k3 k5, K.lookup C = some (excClassObj nm q C N bs bm true sn sub ab col dd k0 k1 k2 k3 k5 "ValueError.__new__") ∧ PySem.HandSPX.refsVE bm = true := by
  unfold oexB at h
  split at h
  · rename_i t dd cd sl ho
    split at h
    · rename_i C' bm k0 k1 k2 k3 n k5 hm hs
      simp only [Bool.and_eq_true, decide_eq_true_eq, Bool.not_eq_true'] at h
      obtain ⟨rfl, rfl, rfl, hdel, hdict, hb⟩ := h
      obtain ⟨nm, bs, mro, ns, qn, hd, sn, sub, ab, col, del⟩ := cd
      dsimp only at hm hdel hdict
      subst hm hdel hdict
      have hsl : sl = #[k0, k1, k2, k3, some (.builtin "ValueError.__new__"), k5] := by
        obtain ⟨l⟩ := sl
        simp only at hs
        rw [hs]
      subst hsl
      exact ⟨nm, qn, ns, bs, bm, sn, sub, ab, col, dd, k0, k1, k2, k3, k5, ho, hb⟩
    · cases h
  · cases h
def eqS (a b : Option (Option Value)) : Bool := decide (a = b)
def eccB (K : PySem.W.Frag) (D : Addr) : Bool :=
  decide (PySem.W.findIn K (.ref D) "__getattribute__" = some (some (.builtin "BaseException.__getattribute__"))) && (decide (PySem.W.findIn K (.ref D) "__getattr__" = some none) &&
  (decide (PySem.W.subIn K (.ref D) (.type "BaseException") = some true) && (PySem.W.hasDictIn K D && (decide (PySem.W.findIn K (.ref D) "__class__" = some (some (.builtin "object.__class__"))) &&
  (decide (PySem.W.specialIn K (.builtin "object.__class__") "__get__" = some (some (.builtin "getset_descriptor.__get__"))) && (decide (PySem.W.takesIn K (.builtin "object.__class__") = some true) &&
  decide (PySem.W.mroIn K D (.type "object") = some true)))))))
theorem eccB_ok {K : PySem.W.Frag} {D : Addr} (h : eccB K D = true) : ExcC K D := by
  unfold eccB at h
  simp only [Bool.and_eq_true, decide_eq_true_eq] at h
  obtain ⟨h1, h2, h3, h4, h5, h6, h7, h8⟩ := h
  exact ⟨h1, h2, h3, h4, h5, h6, h7, h8⟩
theorem ExcC.xf {K : PySem.W.Frag} {D : Addr} (h : ExcC K D) : XfC K D := ⟨h.hg, h.hk, h.hs, h.hd⟩
/-- a class with an own __init__ -/
def oexCB (K : PySem.W.Frag) (C : Addr) : Bool := oexB K C && (decide (PySem.W.findIn K (.ref C) "__setattr__" = some (some (.builtin "object.__setattr__"))) && (decide (PySem.W.typeIn K (.ref C) = some (.type "type")) && (PySem.W.keepIn K (.ref C) &&
  (decide (PySem.W.findIn K (.ref C) "__init__" = some (some (.ref (He.ma K C "__init__")))) && decide (PySem.W.typeIn K (.ref (He.ma K C "__init__")) = some (.type "function"))))))
theorem oexCB_ok {K : PySem.W.Frag} {C : Addr} (h : oexCB K C = true) (e : ExcC K C) : OexC K C ∧ PySem.W.findIn K (.ref C) "__init__" = some (some (.ref (He.ma K C "__init__"))) ∧ PySem.W.typeIn K (.ref (He.ma K C "__init__")) = some (.type "function") := by
  unfold oexCB at h
  simp only [Bool.and_eq_true, decide_eq_true_eq] at h
  obtain ⟨h1, h2, h3, h4, h5, h6⟩ := h
  exact ⟨⟨oexB_ok h1, h2, e.hs, h3, h4⟩, h5, h6⟩
def sysB (K : PySem.W.Frag) : Bool := match K.lookup sysModules with
  | some o => decide (o.cls = .type "dict")
  | none => false
theorem sysB_ok {K : PySem.W.Frag} (h : sysB K = true) : SysIn K := by
  unfold sysB at h
  split at h
  · rename_i o e
    exact ⟨o, e, of_decide_eq_true h⟩
  · cases h
section
variable {P : Program} {w : World} {K : PySem.W.Frag} {mg : Str → Option Value} {base : Heap} {qual : Str} {params : Arguments} {body : List Stmt} {scope : Scope} {fd : FuncData} {x f g : Str}
theorem mk_er1 (gC : mg x = some (.ref (He.ga K x))) (ec : ExcC K (He.ga K x)) (ho : oexCB K (He.ga K x) = true) (no : PySem.W.findIn K (.ref (He.ga K x)) f = some none)
    (F : FunD K "__init__" qual params body scope [] [] (He.ma K (He.ga K x) "__init__") fd) (S : FnScope ["self", f] ["self", f] scope)
    (v0 : Vis scope "self") (v1 : Vis scope f) (d1 : (f == ("__debug__" : Str)) = false) (d2 : (f == ("__classdict__" : Str)) = false)
    (hb : ∃ q1 q2 q3 q4, body = [.Assign [.Attribute (.Name "self" q1) f q2] (.Name f q3) q4])
    (hp : ∀ (kV doc pm : Value) (an : Option Addr) (cdv ct : Value) (u v : Value), bindArgs (PySem.W.fnOf "__init__" qual params body scope .none kV doc pm an cdv ct) ⟨[u, v], []⟩ = pure [(("self" : Str), u), (f, v)])
    (hk : ∀ (kV doc pm : Value) (an : Option Addr) (cdv ct : Value) (u v : Value), bindArgs (PySem.W.fnOf "__init__" qual params body scope .none kV doc pm an cdv ct) ⟨[u], [(f, v)]⟩ = pure [(("self" : Str), u), (f, v)]) :
    Er1 P w K mg base x f (He.ga K x) := by
  obtain ⟨T, iC, tI⟩ := oexCB_ok ho ec
  refine ⟨⟨gC, T, ec.xf, ec⟩, no, _, _, iC, tI, ok_I1 F S v0 v1 d1 d2 hb, kb_pos F fun kV doc pm an cdv ct us hl => ?_, kb_kw F (fun us ws => us ++ ws) (fun r z => r.append z) fun kV doc pm an cdv ct us ws hl hm => ?_⟩
  · match us, hl with
    | [u, v], _ => exact hp kV doc pm an cdv ct u v
  · match us, hl, ws, hm with
    | [u], _, [v], _ => exact hk kV doc pm an cdv ct u v
theorem vals_rev {vs : List V} {us : List Value} (h : Vals vs us) : Vals vs.reverse us.reverse := by
  induction h with
  | nil => exact .nil
  | cons a b ih =>
    rw [List.reverse_cons, List.reverse_cons]
    exact Vals.append ih (.cons a .nil)
theorem mk_er2 (gC : mg x = some (.ref (He.ga K x))) (ec : ExcC K (He.ga K x)) (ho : oexCB K (He.ga K x) = true) (no : PySem.W.findIn K (.ref (He.ga K x)) f = some none) (no2 : PySem.W.findIn K (.ref (He.ga K x)) g = some none)
    (F : FunD K "__init__" qual params body scope [] [] (He.ma K (He.ga K x) "__init__") fd) (S : FnScope ["self", f, g] ["self", f, g] scope)
    (v0 : Vis scope "self") (v1 : Vis scope f) (v2 : Vis scope g) (d1 : (f == ("__debug__" : Str)) = false) (d2 : (f == ("__classdict__" : Str)) = false) (d3 : (g == ("__debug__" : Str)) = false) (d4 : (g == ("__classdict__" : Str)) = false)
    (hb : ∃ q1 q2 q3 q4 q5 q6 q7 q8, body = [.Assign [.Attribute (.Name "self" q1) f q2] (.Name f q3) q4, .Assign [.Attribute (.Name "self" q5) g q6] (.Name g q7) q8])
    (hp : ∀ (kV doc pm : Value) (an : Option Addr) (cdv ct : Value) (u v z : Value), bindArgs (PySem.W.fnOf "__init__" qual params body scope .none kV doc pm an cdv ct) ⟨[u, v, z], []⟩ = pure [(("self" : Str), u), (f, v), (g, z)])
    (hk : ∀ (kV doc pm : Value) (an : Option Addr) (cdv ct : Value) (u v z : Value), bindArgs (PySem.W.fnOf "__init__" qual params body scope .none kV doc pm an cdv ct) ⟨[u], [(g, z), (f, v)]⟩ = pure [(("self" : Str), u), (f, v), (g, z)]) :
    Er2 P w K mg base x f g (He.ga K x) := by
  obtain ⟨T, iC, tI⟩ := oexCB_ok ho ec
  refine ⟨⟨gC, T, ec.xf, ec⟩, no, no2, _, _, iC, tI, ok_I2 F S v0 v1 v2 d1 d2 d3 d4 hb, kb_pos F fun kV doc pm an cdv ct us hl => ?_, kb_kw F (fun us ws => us ++ ws.reverse) (fun r z => r.append (vals_rev z)) fun kV doc pm an cdv ct us ws hl hm => ?_⟩
  · match us, hl with
    | [u, v, z], _ => exact hp kV doc pm an cdv ct u v z
  · match us, hl, ws, hm with
    | [u], _, [z, v], _ => exact hk kV doc pm an cdv ct u v z
end
end L2
set_option Elab.async false
set_option linter.all false
set_option maxRecDepth 100000
set_option maxHeartbeats 4000000
namespace Law
open PySem PySem.Spec PyProof.Rows L2
def top (i : Nat) : Stmt := PySem.Challenge.pw_editionlines_k01_errors_and_their_fields.main.body.getD i (.Pass ⟨0, 0, 0, 0⟩)
/-- a def of the text by its name and place -/
abbrev Fn (K : PySem.W.Frag) (x : Str) (st : Stmt) (f : Addr) (fd : FuncData) : Prop := FunD K x x (defArgs st) (defBody st) (defScope st) [] [] f fd
/-- built-in names that the top leaves alone -/
def bltNames : List Str := ["len", "int", "list", "abs", "range", "repr", "isinstance", "sorted", "ValueError", "LookupError"]
abbrev Fr (mg : Str → Option Value) : Prop := ∀ x ∈ bltNames, mg x = none
/-! ### the pen -/
abbrev sPen : Stmt := top 34
abbrev sDraw : Stmt := top 35
abbrev sPick : Stmt := top 36
theorem scPen : FnScope ["_law_script"] ["_law_script"] (defScope sPen) := ⟨rfl, rfl, rfl, by decide +kernel, rfl, by decide +kernel, by decide +kernel⟩
theorem scDraw : FnScope ["_law_pen_here", "_law_many", "_law_digit", "_law_begun", "_law_raw", "_law_great", "_law_stirred"] ["_law_pen_here", "_law_many"] (defScope sDraw) := ⟨rfl, rfl, rfl, by decide +kernel, rfl, by decide +kernel, by decide +kernel⟩
theorem scPick : FnScope ["_law_pen_here", "_law_some_here"] ["_law_pen_here", "_law_some_here"] (defScope sPick) := ⟨rfl, rfl, rfl, by decide +kernel, rfl, by decide +kernel, by decide +kernel⟩
/-- the pen at p: its cells at c, n of them read, g left of a great one -/
structure PenAt (H : Hp) (p c : Addr) (ns : List Int) (n g : Int) : Prop where
  pen : H p = some (.lst [.ref c, .int n, .int g])
  cells : H c = some (.lst (ns.map V.int))
  few : ns.length ≤ 63
  n0 : 0 ≤ n
  g0 : 0 ≤ g
section
variable {P : Program} {w : World} {K : PySem.W.Frag} {mg : Str → Option Value} {base : Heap}
def spPen (K : PySem.W.Frag) : Sp := fun vs H Q _ => ∃ (a : Addr) (ns : List Int), vs = [.ref a] ∧ SqL K H a (ns.map V.int) ∧ ns.length ≤ 63 ∧
  ∀ H' p c, Same H H' → H p = none → PenAt H' p c ns 0 0 → Q (.ref p) H'
theorem cut63 (xs : List V) (h : xs.length ≤ 63) : cutV xs none (some 63) = xs := by
  unfold cutV
  rw [HT.sIx_none, show HT.sIx xs.length xs.length (some 63) = min 63 xs.length from HT.sIx_nat xs.length xs.length 63]
  rw [Nat.min_eq_right h]
  simp
theorem ok_pen {f : Addr} {fd : FuncData} (F : Fn K "_law_pen" sPen f fd) (B : Fr mg) : FnOk P w K mg base CX0 1 f fd ["_law_script"] (spPen K) := by
  refine F.ok scPen (fun vs H Q E h => ?_) (fun cdv A outer s H vs Q E hr h => ?_)
  · obtain ⟨a, ns, rfl, _⟩ := h
    rfl
  · obtain ⟨a, ns, rfl, hS, hl, q⟩ := h
    refine ⟨_, pss_one (ps_ret (pe_lst (pa_cons (pe_callTy call_list_of (by rfl) (B "list" (by decide +kernel)) PyProof.Rows.boot_list (pa_cons (pe_slice sl_list (pv 0) po_none (po_some pe_int)) pa_nil)) (pa_cons pe_int (pa_cons pe_int pa_nil))))), ?_⟩
    refine ⟨.ref a, rfl, 63, rfl, a, ns.map V.int, rfl, hS, fun c nc => ?_⟩
    refine ⟨c, _, rfl, .inl (SqL.of upd_same), fun l nl => ?_⟩
    refine ⟨(show 3 ≤ sizeLine by decide), fun p np => ?_⟩
    have ec := cut63 (ns.map V.int) (by rw [List.length_map]; exact hl)
    rw [ec] at nl np ⊢
    obtain ⟨lc, hl0⟩ := upd_none nl
    obtain ⟨pl, np1⟩ := upd_none np
    obtain ⟨pc, np0⟩ := upd_none np1
    refine q _ p l ((same_upd nc).trans ((same_upd nl).trans (same_upd np))) np0 ⟨upd_same, ?_, hl, by decide, by decide⟩
    rw [upd_ne pl.symm, upd_same]
/-- a draw: anything from 0 below m -/
def spDraw : Sp := fun vs H Q _ => ∃ (p c : Addr) (ns : List Int) (n g m : Int), vs = [.ref p, .int m] ∧ PenAt H p c ns n g ∧ 0 < m ∧ m < 1000000 ∧ n < 1000000 ∧
  ∀ (H' : Hp) (n' g' r : Int), SB p H H' → PenAt H' p c ns n' g' → n ≤ n' → n' ≤ n + 1 → 0 ≤ r → r < m → Q (.int r) H'
theorem PenAt.ne {H : Hp} {p c : Addr} {ns : List Int} {n g : Int} (h : PenAt H p c ns n g) : c ≠ p := fun z => by
  have hc := h.cells
  rw [z, h.pen] at hc
  have e := Option.some.inj hc
  injection e with e
  cases ns with
  | nil => cases e
  | cons x r => injection e with e _; cases e
theorem PenAt.put {H H' : Hp} {p c : Addr} {ns : List Int} {n g n' g' : Int} (h : PenAt H p c ns n g) (s : SB p H H') (e : H' p = some (.lst [.ref c, .int n', .int g'])) (h1 : 0 ≤ n') (h2 : 0 ≤ g') : PenAt H' p c ns n' g' :=
  ⟨e, s _ _ h.ne h.cells, h.few, h1, h2⟩
theorem eqv_nil_ints (ns : List Int) : PyData.eqv (.list (ns.map PyData.int)) (.list []) = ns.isEmpty := by
  cases ns <;> rfl
theorem dp_ints {H : Hp} : ∀ ns : List Int, DpAll K H (ns.map V.int) (ns.map PyData.int)
  | [] => .nil
  | x :: r => .cons (.int x) (dp_ints r)
theorem lay_ints : ∀ ns : List Int, PyData.canLayAll0 (ns.map PyData.int) = true
  | [] => rfl
  | x :: r => lay_ints r
theorem deep_ints : ∀ ns : List Int, PyData.depthAll (ns.map PyData.int) ≤ 1
  | [] => Nat.zero_le _
  | x :: r => Nat.max_le.mpr ⟨Nat.zero_le _, deep_ints r⟩
theorem shaped_ints (ns : List Int) : SeqAt.shaped (.list (ns.map PyData.int)) = true := by
  have h1 := lay_ints ns
  have h2 := deep_ints ns
  unfold SeqAt.shaped
  refine Bool.and_eq_true_iff.mpr ⟨h1, decide_eq_true ?_⟩
  show PyData.depthAll (ns.map PyData.int) + 1 ≤ 64
  omega
theorem at_ints {ns : List Int} {i : Int} (h0 : 0 ≤ i) (h1 : i < (ns.length : Int)) : ∃ z : Int, atI (ns.map V.int) i = some (.int z) := by
  obtain ⟨j, rfl⟩ : ∃ j : Nat, i = (j : Int) := ⟨i.toNat, by omega⟩
  have hj : j < ns.length := by omega
  exact ⟨ns[j], atI_nat (by rw [List.getElem?_map, List.getElem?_eq_getElem hj]; rfl)⟩
theorem ok_draw {f : Addr} {fd : FuncData} (F : Fn K "_law_draw" sDraw f fd) (B : Fr mg) : FnOk P w K mg base CX0 1 f fd ["_law_pen_here", "_law_many"] spDraw := by
  refine F.ok scDraw (fun vs H Q E h => ?_) (fun cdv A outer s H vs Q E hr h => ?_)
  · obtain ⟨p, c, ns, n, g, m, rfl, _⟩ := h
    rfl
  · obtain ⟨p, c, ns, n, g, m, rfl, hP, hm, hm2, hn, q⟩ := h
    have mI := B "int" (by decide +kernel)
    have mL := B "len" (by decide +kernel)
    have mA := B "abs" (by decide +kernel)
    refine ⟨_, pss_cons (ps_if (pt_cmpR op_gt (pe_ix ix_list (pv 0) pe_int (fun _ _ => rfl)) pe_int (nomark _))
        (pss_cons (ps_set (i := 2) scDraw.nd rfl (.inl rfl) (pe_op op_mod (pe_callTy call_int1 (by rfl) mI PyProof.Rows.boot_int (pa_cons (pe_ix ix_list (pv 0) pe_int (fun _ _ => rfl)) pa_nil)) (pv 1)))
        (pss_cons (ps_asg (pe_op op_fdiv (pe_callTy call_int1 (by rfl) mI PyProof.Rows.boot_int (pa_cons (pe_ix ix_list (pv 0) pe_int (fun _ _ => rfl)) pa_nil)) (pv 1)) (pg_sub (pv 0) pe_int set_list))
        (pss_one (ps_ret (pv 2))))) pss_nil)
      (pss_cons (ps_set (i := 3) scDraw.nd rfl (.inl rfl) (pe_ix ix_list (pv 0) pe_int (fun _ _ => rfl)))
      (pss_cons (ps_asg (pe_op op_add (pv 3) pe_int) (pg_sub (pv 0) pe_int set_list))
      (pss_cons (ps_set (i := 4) scDraw.nd rfl (.inl rfl) (pe_op op_add (pe_op op_mul pe_int (pv 3)) pe_int))
      (pss_mid (ps_if (pt_cmpR (op_neD hr.units) (pe_ix ix_list (pv 0) pe_int (fun _ _ => rfl)) (pe_lst pa_nil) (nomark _))
        (pss_one (ps_set (i := 4) scDraw.nd rfl (.inl rfl) (pe_ix ix_list (pe_ix ix_list (pv 0) pe_int (fun _ _ => rfl)) (pe_op op_mod (pe_callTy call_int1 (by rfl) mI PyProof.Rows.boot_int (pa_cons (pv 3) pa_nil)) (pe_callB call_len_seq (by rfl) mL PySem.boot_len (pa_cons (pe_ix ix_list (pv 0) pe_int (fun _ _ => rfl)) pa_nil))) (fun _ _ => rfl)))) pss_nil)
      (pss_mid (ps_if (PW.pt (pw_and (pt_cmpR op_lt (pv 3) (pe_callB call_len_seq (by rfl) mL PySem.boot_len (pa_cons (pe_ix ix_list (pv 0) pe_int (fun _ _ => rfl)) pa_nil)) (nomark _))
          (pw_and1 (pt_cmpR op_ge (pe_callB call_abs (by rfl) mA PyProof.Rows.boot_abs (pa_cons (pv 4) pa_nil)) (pe_op op_pow pe_int pe_int) (nomark _)))))
        (pss_cons (ps_set (i := 5) scDraw.nd rfl (.inl rfl) (pe_op op_add (pe_op op_mul pe_int (pe_op op_sub (pe_callB call_abs (by rfl) mA PyProof.Rows.boot_abs (pa_cons (pv 4) pa_nil)) (pe_op op_pow pe_int pe_int)))
            (pe_callTy call_int1 (by rfl) mI PyProof.Rows.boot_int (pa_cons (pe_cmpR op_lt (pv 4) pe_int (nomark _)) pa_nil))))
        (pss_cons (ps_asg (pe_op op_fdiv (pe_callTy call_int1 (by rfl) mI PyProof.Rows.boot_int (pa_cons (pv 5) pa_nil)) (pv 1)) (pg_sub (pv 0) pe_int set_list))
        (pss_one (ps_ret (pe_op op_mod (pe_callTy call_int1 (by rfl) mI PyProof.Rows.boot_int (pa_cons (pv 5) pa_nil)) (pv 1)))))) pss_nil)
      (pss_mid (ps_set (i := 6) scDraw.nd rfl (.inl rfl) (pe_op op_mod (pe_callTy call_int1 (by rfl) mI PyProof.Rows.boot_int (pa_cons
          (pe_op op_pow (pe_op op_add (pe_op op_add (pe_op op_mod (pe_callTy call_int1 (by rfl) mI PyProof.Rows.boot_int (pa_cons (pv 4) pa_nil)) pe_int) (pe_op op_mul pe_int (pv 3))) pe_int) pe_int) pa_nil)) pe_int))
      (pss_mid (ps_set (i := 6) scDraw.nd rfl (.inl rfl) (pe_op op_mod (pe_callTy call_int1 (by rfl) mI PyProof.Rows.boot_int (pa_cons
          (pe_op op_pow (pe_op op_add (pe_op op_add (pe_op op_mul (pv 6) (pe_op op_add (pe_op op_mul pe_int (pv 3)) pe_int)) (pe_op op_mul (pe_op op_mul pe_int (pv 3)) (pv 3))) pe_int) pe_int) pa_nil)) pe_int))
      (pss_one (ps_ret (pe_op op_mod (pe_callTy call_int1 (by rfl) mI PyProof.Rows.boot_int (pa_cons (pe_op op_fdiv (pv 6) pe_int) pa_nil)) (pv 1))))))))))), ?_⟩
    have hp := hP.pen
    have hc := hP.cells
    have hpc := hP.ne
    refine ⟨.ref p, rfl, p, [.ref c, .int n, .int g], 2, .int g, rfl, rfl, SqL.of hp, rfl, g, 0, rfl, rfl, _, rfl, ite2 (fun e => ?_) (fun e => ?_)⟩
    · -- a digit of a great one
      refine ⟨.ref p, rfl, p, _, 2, .int g, rfl, rfl, SqL.of hp, rfl, .inl ⟨g, rfl, .int m, rfl, g, m, rfl, rfl, hm, ?_⟩⟩
      refine ⟨.ref p, rfl, p, _, 2, .int g, rfl, rfl, SqL.of hp, rfl, .inl ⟨g, rfl, .int m, rfl, g, m, rfl, rfl, ⟨hm, by omega⟩, .ref p, rfl, p, _, 2, 2, rfl, rfl, hp, rfl, ?_⟩⟩
      refine ⟨.int (g % m), rfl, ?_⟩
      exact q _ n (g / m) (g % m) SB.upd (hP.put SB.upd upd_same hP.n0 (Int.ediv_nonneg hP.g0 (Int.le_of_lt hm))) (Int.le_refl _) (by omega) (Int.emod_nonneg _ (by omega)) (Int.emod_lt_of_pos _ hm)
    · refine ⟨.ref p, rfl, p, _, 1, .int n, rfl, rfl, SqL.of hp, rfl, ?_⟩
      refine ⟨.int n, rfl, n, 1, rfl, rfl, .ref p, rfl, p, _, 1, 1, rfl, rfl, hp, rfl, ?_⟩
      refine ⟨.int n, rfl, _, n, rfl, rfl, .inl ⟨by decide, by decide⟩, _, _, rfl, rfl, ?_⟩
      have n0 := hP.n0
      -- the cell
      refine ⟨fun σ' H' => ∃ raw : Int, σ' = [some (.ref p), some (.int m), none, some (.int n), some (.int raw), none, none] ∧ SB p H H' ∧ PenAt H' p c ns (n + 1) g, ?_, ?_⟩
      · have hP1 : PenAt (upd H p (.lst [.ref c, .int (n + 1), .int g])) p c ns (n + 1) g := hP.put SB.upd upd_same (by omega) hP.g0
        refine ⟨.ref p, rfl, p, _, 0, .ref c, rfl, rfl, SqL.of hP1.pen, rfl, Nat.zero_le _, fun l nl => ?_⟩
        have hP2 := hP1.put (same_upd (o := .lst []) nl).sb ((same_upd nl) _ _ hP1.pen) (by omega) hP.g0
        refine ⟨_, _, Dp.lst (SqL.of hP2.cells) (dp_ints ns), Dp.lst (SqL.of upd_same) .nil, shaped_ints ns, rfl, _, rfl, ?_⟩
        rw [eqv_nil_ints]
        cases ns with
        | nil => exact ⟨_, rfl, SB.upd.trans (same_upd nl).sb, hP2⟩
        | cons x r =>
          have hl0 : (0 : Int) < (((x :: r).map V.int).length : Int) := by rw [List.length_map, List.length_cons]; omega
          obtain ⟨z, hz⟩ := at_ints (ns := x :: r) (i := n % (((x :: r).map V.int).length : Int)) (Int.emod_nonneg _ (by omega)) (by
            have := Int.emod_lt_of_pos n hl0
            rw [List.length_map] at this ⊢
            exact this)
          refine ⟨.ref p, rfl, p, _, 0, .ref c, rfl, rfl, SqL.of hP2.pen, rfl, .int n, rfl, .inl ⟨n, rfl, .ref p, rfl, p, _, 0, .ref c, rfl, rfl, SqL.of hP2.pen, rfl, c, _, rfl, .inl (SqL.of hP2.cells), n, _, rfl, rfl, hl0, c, _, _, .int z, rfl, rfl, SqL.of hP2.cells, hz, ?_⟩⟩
          exact ⟨z, rfl, SB.upd.trans (same_upd nl).sb, hP2⟩
      · rintro σ' H1 ⟨raw, rfl, s1, hP1⟩
        have hp1 := hP1.pen
        -- the test for a great one
        refine ⟨fun σ2 H2 => σ2 = [some (.ref p), some (.int m), none, some (.int n), some (.int raw), none, none] ∧ H2 = H1, ?_, ?_⟩
        · refine ⟨.int n, rfl, .ref p, rfl, p, _, 0, .ref c, rfl, rfl, SqL.of hp1, rfl, c, _, rfl, .inl (SqL.of hP1.cells), n, _, rfl, rfl, _, rfl, ite2 (fun e1 => ?_) (fun e1 => ?_)⟩
          · refine ⟨.int raw, rfl, raw, rfl, 10, 18, rfl, rfl, ⟨by decide, by decide, by decide⟩, _, _, rfl, rfl, _, rfl, ite2 (fun e2 => ?_) (fun e2 => ⟨rfl, rfl⟩)⟩
            have e3 := of_decide_eq_true e2
            refine ⟨.int raw, rfl, raw, rfl, 10, 18, rfl, rfl, ⟨by decide, by decide, by decide⟩, _, _, rfl, rfl, 2, _, rfl, rfl, .inl ⟨by decide, by decide⟩, .int raw, rfl, raw, 0, rfl, rfl, .inr ⟨_, rfl, _, _, rfl, rfl, ?_⟩⟩
            have hg0 : 0 ≤ 2 * ((if raw < 0 then -raw else raw) - (10 : Int) ^ (18 : Int).toNat) + (if decide (raw < 0) = true then 1 else 0) := by
              have e4 : (10 : Int) ^ (18 : Int).toNat ≤ (if raw < 0 then -raw else raw) := e3
              revert e4
              generalize (if raw < 0 then -raw else raw) = ab
              intro e4
              split <;> omega
            refine ⟨_, rfl, .inl ⟨_, rfl, .int m, rfl, _, m, rfl, rfl, ⟨hm, by omega⟩, .ref p, rfl, p, _, 2, 2, rfl, rfl, hp1, rfl, ?_⟩⟩
            refine ⟨_, rfl, .inl ⟨_, rfl, .int m, rfl, _, m, rfl, rfl, hm, ?_⟩⟩
            exact q _ (n + 1) _ _ (s1.trans SB.upd) (hP1.put SB.upd upd_same (by omega) (Int.ediv_nonneg hg0 (Int.le_of_lt hm))) (by omega) (by omega) (Int.emod_nonneg _ (by omega)) (Int.emod_lt_of_pos _ hm)
          · exact ⟨rfl, rfl⟩
        · rintro σ2 H2 ⟨rfl, rfl⟩
          have hm0 := Int.emod_nonneg raw (show (2147483543 : Int) ≠ 0 by decide)
          have hm1 := Int.emod_lt_of_pos raw (show (0 : Int) < 2147483543 by decide)
          refine ⟨fun σ3 H3 => ∃ st : Int, 0 ≤ st ∧ st < 2147483497 ∧ σ3 = [some (.ref p), some (.int m), none, some (.int n), some (.int raw), none, some (.int st)] ∧ H3 = H2, ?_, ?_⟩
          · refine ⟨.int raw, rfl, .inl ⟨raw, rfl, raw, 2147483543, rfl, rfl, (show (0 : Int) < 2147483543 by decide), .int n, rfl, 60900, n, rfl, rfl, .inl ⟨by decide, by decide⟩, _, _, rfl, rfl, _, _, rfl, rfl, _, 5, rfl, rfl, ⟨by decide, by decide, ?_⟩, .inl ⟨_, rfl, _, 2147483497, rfl, rfl, (show (0 : Int) < 2147483497 by decide), ?_⟩⟩⟩
            · show (raw % 2147483543 + 60900 * n + 1920).natAbs < 2 ^ 64
              omega
            · exact ⟨_, Int.emod_nonneg _ (by decide), Int.emod_lt_of_pos _ (by decide), rfl, rfl⟩
          · rintro σ3 H3 ⟨st, st0, st1, rfl, rfl⟩
            refine ⟨fun σ4 H4 => ∃ sv : Int, σ4 = [some (.ref p), some (.int m), none, some (.int n), some (.int raw), none, some (.int sv)] ∧ H4 = H3, ?_, ?_⟩
            · refine ⟨.int st, rfl, .int n, rfl, 2, n, rfl, rfl, .inl ⟨by decide, by decide⟩, _, _, rfl, rfl, st, _, rfl, rfl, .inl ⟨by omega, by omega⟩, .int n, rfl, 51816, n, rfl, rfl, .inl ⟨by decide, by decide⟩, .int n, rfl, _, n, rfl, rfl, .inl ⟨by omega, by omega⟩, _, _, rfl, rfl, _, _, rfl, rfl, _, 3, rfl, rfl, ⟨by decide, by decide, ?_⟩, .inl ⟨_, rfl, _, _, rfl, rfl, (show (0 : Int) < 2147483489 by decide), ?_⟩⟩
              · show (st * (2 * n + 1091) + 51816 * n * n + 41964).natAbs < 2 ^ 64
                have a1 : st * (2 * n + 1091) ≤ 2147483497 * (2 * 1000000 + 1091) := Int.mul_le_mul (by omega) (by omega) (by omega) (by decide)
                have a2 : 0 ≤ st * (2 * n + 1091) := Int.mul_nonneg st0 (by omega)
                have a3 : 51816 * n * n ≤ 51816 * 1000000 * 1000000 := Int.mul_le_mul (by omega) (by omega) (by omega) (by decide)
                have a4 : 0 ≤ 51816 * n * n := Int.mul_nonneg (by omega) (by omega)
                omega
              · exact ⟨_, rfl, rfl⟩
            · rintro σ4 H4 ⟨sv, rfl, rfl⟩
              refine ⟨.int sv, rfl, sv, 32, rfl, rfl, ⟨by decide, by decide⟩, .inl ⟨_, rfl, .int m, rfl, _, m, rfl, rfl, hm, ?_⟩⟩
              exact q _ (n + 1) g _ s1 hP1 (by omega) (by omega) (Int.emod_nonneg _ (by omega)) (Int.emod_lt_of_pos _ hm)
end
end Law
set_option Elab.async false
set_option linter.all false
set_option maxRecDepth 100000
set_option maxHeartbeats 4000000
namespace Law
open PySem PySem.Spec PyProof.Rows L2
section
variable {P : Program} {w : World} {K : PySem.W.Frag} {mg : Str → Option Value} {base : Heap}
/-- an item of a list -/
def spPick (K : PySem.W.Frag) : Sp := fun vs H Q _ => ∃ (p c l : Addr) (ns : List Int) (n g : Int) (xs : List V), vs = [.ref p, .ref l] ∧ PenAt H p c ns n g ∧ SqL K (Wo p H) l xs ∧ xs ≠ [] ∧ xs.length < 1000 ∧ n < 1000000 ∧
  ∀ (H' : Hp) (n' g' : Int) (x : V), SB p H H' → PenAt H' p c ns n' g' → n ≤ n' → n' ≤ n + 1 → x ∈ xs → Q x H'
theorem at_mem {xs : List V} {i : Int} (h0 : 0 ≤ i) (h1 : i < (xs.length : Int)) : ∃ x ∈ xs, atI xs i = some x := by
  obtain ⟨j, rfl⟩ : ∃ j : Nat, i = (j : Int) := ⟨i.toNat, by omega⟩
  have hj : j < xs.length := by omega
  exact ⟨xs[j], List.getElem_mem hj, atI_nat (List.getElem?_eq_getElem hj)⟩
theorem ok_pick {f fD : Addr} {fd fdD : FuncData} (F : Fn K "_law_pick" sPick f fd) (FD : Fn K "_law_draw" sDraw fD fdD) (gD : mg "_law_draw" = some (.ref fD)) (B : Fr mg) :
    FnOk P w K mg base CX0 2 f fd ["_law_pen_here", "_law_some_here"] (spPick K) := by
  have GD : FnOk P w K mg base CX0 1 fD fdD ["_law_pen_here", "_law_many"] spDraw := ok_draw FD B
  have bD : Binds K fdD ["_law_pen_here", "_law_many"] [] := FD.bindsN fun _ _ _ _ _ _ us hl => match us, hl with | [_, _], _ => rfl
  refine F.ok scPick (fun vs H Q E h => ?_) (fun cdv A outer s H vs Q E hr h => ?_)
  · obtain ⟨p, c, l, ns, n, g, xs, rfl, _⟩ := h
    rfl
  · obtain ⟨p, c, l, ns, n, g, xs, rfl, hP, hS, hx, hx2, hn, q⟩ := h
    refine ⟨_, pss_one (ps_ret (pe_ix ix_list (pv 1) (pe_call GD hr (by rfl) gD FD.kp bD .nil pass0 (pa_cons (pv 0) (pa_cons (pe_callB call_len_seq (by rfl) (B "len" (by decide +kernel)) PySem.boot_len (pa_cons (pv 1) pa_nil)) pa_nil))) (fun _ _ => rfl))), ?_⟩
    have hx0 : 0 < xs.length := List.length_pos_iff.mpr hx
    refine ⟨.ref l, rfl, .ref p, rfl, .ref l, rfl, l, xs, rfl, .inl (hS.same Wo.same), p, c, ns, n, g, xs.length, rfl, hP, by omega, by omega, hn, fun H' n' g' r sb hP' h1 h2 h3 h4 => ?_⟩
    obtain ⟨x, hm, ha⟩ := at_mem h3 h4
    exact ⟨l, xs, r, x, rfl, rfl, (hS.same sb.wo).same Wo.same, ha, q H' n' g' x sb hP' h1 h2 hm⟩
/-! ### a value of any kind -/
abbrev sSome : Stmt := top 37
theorem scSome : FnScope ["_law_pen_here", "_law_some_here"] ["_law_pen_here"] (defScope sSome) := ⟨rfl, rfl, rfl, by decide +kernel, rfl, by decide +kernel, by decide +kernel⟩
def menu : List PyData := [.none, .bool true, .bool false, .int 0, .int (-7), .int (10 ^ 39), .str "", .str "f", .str "a b", .tuple [], .tuple [.str "f", .int 1], .list [], .list [.str "f"], .dict [], .dict [(.str "f", .list [.str "g"])], .tuple [.int 0, .tuple [.int 1, .int 2]]]
def spSome (K : PySem.W.Frag) : Sp := fun vs H Q _ => ∃ (p c : Addr) (ns : List Int) (n g : Int), vs = [.ref p] ∧ PenAt H p c ns n g ∧ n < 1000000 ∧
  ∀ (H' : Hp) (n' g' : Int) (x : V) (d : PyData), SB p H H' → PenAt H' p c ns n' g' → n ≤ n' → n' ≤ n + 1 → d ∈ menu → Dq K (Wo p H') x d → Q x H'
theorem pd_pow {X : Cx} {e e2 : Expr} {pos : Pos} {i j : Int} (h : PE X e (tC (.int i))) (h2 : PE X e2 (tC (.int j))) (c : 0 ≤ j ∧ j ≤ 1000000 ∧ i.natAbs < 2 ^ 64) : PE X (.BinOp e .Pow e2 pos) (tDat X.K (.int (i ^ j.toNat))) :=
  (pe_op op_pow h h2).imp fun σ H Q q => ⟨i, j, rfl, rfl, c, q H _ Same.rfl' (.int _)⟩
theorem ok_some {f fD fP : Addr} {fd fdD fdP : FuncData} (F : Fn K "_law_some" sSome f fd) (FD : Fn K "_law_draw" sDraw fD fdD) (gD : mg "_law_draw" = some (.ref fD))
    (FP : Fn K "_law_pick" sPick fP fdP) (gP : mg "_law_pick" = some (.ref fP)) (B : Fr mg) :
    FnOk P w K mg base CX0 3 f fd ["_law_pen_here"] (spSome K) := by
  have GP : FnOk P w K mg base CX0 2 fP fdP ["_law_pen_here", "_law_some_here"] (spPick K) := ok_pick FP FD gD B
  have bP : Binds K fdP ["_law_pen_here", "_law_some_here"] [] := FP.bindsN fun _ _ _ _ _ _ us hl => match us, hl with | [_, _], _ => rfl
  refine F.ok scSome (fun vs H Q E h => ?_) (fun cdv A outer s H vs Q E hr h => ?_)
  · obtain ⟨p, c, ns, n, g, rfl, _⟩ := h
    rfl
  · obtain ⟨p, c, ns, n, g, rfl, hP, hn, q⟩ := h
    refine ⟨_, pss_cons (ps_set (i := 1) scSome.nd rfl (.inl rfl) (pd_lst (ds := menu)
        (pd_cons (pd_c pe_non fun _ => .non) (pd_cons (pd_c pe_bl fun _ => .bl _) (pd_cons (pd_c pe_bl fun _ => .bl _) (pd_cons (pd_c pe_int fun _ => .int _) (pd_cons (pd_neg pe_int) (pd_cons (pd_pow pe_int pe_int ⟨by decide, by decide, by decide⟩)
        (pd_cons (pd_c pe_str fun _ => .str _) (pd_cons (pd_c pe_str fun _ => .str _) (pd_cons (pd_c pe_str fun _ => .str _) (pd_cons (pd_tup pd_nil) (pd_cons (pd_tup (pd_cons (pd_c pe_str fun _ => .str _) (pd_cons (pd_c pe_int fun _ => .int _) pd_nil)))
        (pd_cons (pd_lst pd_nil) (pd_cons (pd_lst (pd_cons (pd_c pe_str fun _ => .str _) pd_nil)) (pd_cons pd_dnil (pd_cons (pd_d1 (p1 := ⟨0, 0, 0, 0⟩) (pd_lst (pd_cons (pd_c pe_str fun _ => .str _) pd_nil)) pe_str)
        (pd_cons (pd_tup (pd_cons (pd_c pe_int fun _ => .int _) (pd_cons (pd_tup (pd_cons (pd_c pe_int fun _ => .int _) (pd_cons (pd_c pe_int fun _ => .int _) pd_nil))) pd_nil))) pd_nil))))))))))))))))))
      (pss_one (ps_ret (pe_call GP hr (by rfl) gP FP.kp bP .nil pass0 (pa_cons (pv 0) (pa_cons (pv 1) pa_nil))))), ?_⟩
    intro H1 x s1 d1
    have hP1 : PenAt H1 p c ns n g := ⟨s1 _ _ hP.pen, s1 _ _ hP.cells, hP.few, hP.n0, hP.g0⟩
    cases d1 with
    | @lst l xs ds hS hA =>
    have hA1 := hA.length
    refine ⟨.ref p, rfl, .ref l, rfl, p, c, l, ns, n, g, xs, rfl, hP1, hS.same (New.wo hP.pen), ?_, ?_, hn, fun H' n' g' x sb hP' h1 h2 hm => ?_⟩
    · intro z; rw [z] at hA1; cases hA1
    · rw [hA1]; decide
    · obtain ⟨d, hd, q1⟩ := hA.mem hm
      exact q H' n' g' x d (s1.sb.trans sb) hP' h1 h2 hd ((q1.same (New.wo hP.pen)).same sb.wo)
end
end Law
set_option Elab.async false
set_option linter.all false
set_option maxRecDepth 100000
set_option maxHeartbeats 4000000
namespace Law
open PySem PySem.Spec PyProof.Rows L2
/-! ### the error classes -/
def leaves : List Str := ["BadBook", "BadClause", "BadDeed", "BadFact", "BadFix", "BadHistory", "BadLine", "BadLiteral", "BadLot", "BadNeeds", "BadNumber", "BadPlace", "BadPrice", "BadProject", "BadStanding", "BadWay", "BadWeb", "BadWish", "NoDay", "NoFix", "NoLine", "NoRelease", "Ring", "Barred", "Undone", "Unlike", "BadText", "TooMany", "Nothing"]
def bases : List Str := ["EditionError", "BadInput", "NoAnswer"]
def names : List Str := leaves ++ bases
def answers : List Str := ["Barred", "Undone", "Unlike", "TooMany", "Nothing"]
def inputs : List Str := ["BadBook", "BadClause", "BadDeed", "BadFact", "BadFix", "BadHistory", "BadLine", "BadLiteral", "BadLot", "BadNeeds", "BadNumber", "BadPlace", "BadPrice", "BadProject", "BadStanding", "BadWay", "BadWeb", "BadWish", "NoDay", "NoFix", "NoLine", "NoRelease", "Ring", "BadText"]
def ones : List (Str × Str) := [("BadBook", "part"), ("BadClause", "part"), ("BadDeed", "at"), ("BadFact", "part"), ("BadFix", "value"), ("BadHistory", "part"), ("BadLine", "word"), ("BadLiteral", "part"), ("BadLot", "part"), ("BadNeeds", "part"), ("BadNumber", "value"), ("BadPlace", "part"), ("BadPrice", "value"), ("BadProject", "part"), ("BadStanding", "part"), ("BadWay", "value"), ("BadWeb", "part"), ("BadWish", "part"), ("NoDay", "day"), ("NoFix", "fix"), ("NoLine", "line"), ("NoRelease", "number"), ("Ring", "fix"), ("Barred", "clause"), ("Undone", "at"), ("Unlike", "part")]
def twos : List (Str × Str × Str) := [("BadText", "line", "word"), ("TooMany", "what", "most")]
def plains : List Str := ["Nothing", "EditionError", "BadInput", "NoAnswer"]
/-- is x the class y, or below it -/
def below (x y : Str) : Bool := decide (x = y) || decide (y = "EditionError") || (decide (y = "BadInput") && inputs.contains x) || (decide (y = "NoAnswer") && answers.contains x)
def kindsOf (x : Str) : List Int := ((List.range 29).filter fun i => decide (leaves[i]? = some x)).map fun (i : Nat) => (i : Int)
theorem pe_cls {X : Cx} {x : Str} {C : Addr} {pos : Pos} (hg : Gl X x) (hm : X.mg x = some (.ref C)) (hd : (x == ("__debug__" : Str)) = false := by decide) : PE X (.Name x pos) (tC (.ref C)) := pe_glob (v := .ref C) hg hm rfl hd
abbrev ca (K : PySem.W.Frag) (x : Str) : Addr := He.ga K x
structure Tx (P : Program) (w : World) (K : PySem.W.Frag) (mg : Str → Option Value) (base : Heap) : Prop where
  fr : Fr mg
  sys : SysIn K
  g : ∀ x ∈ names, mg x = some (.ref (ca K x))
  ec : ∀ x ∈ names, ExcC K (ca K x)
  kit : ∀ x ∈ names, ∀ y ∈ names, PySem.W.kitOne K (.ref (ca K x)) (.ref (ca K y)) = some (below x y)
  kitV : ∀ x ∈ names, PySem.W.kitOne K (.ref (ca K x)) (.type "ValueError") = some true
  kitL : ∀ x ∈ names, PySem.W.kitOne K (.ref (ca K x)) (.type "LookupError") = some false
  er1 : ∀ z ∈ ones, Er1 P w K mg base z.1 z.2 (ca K z.1)
  er2 : ∀ z ∈ twos, Er2 P w K mg base z.1 z.2.1 z.2.2 (ca K z.1)
  ex0 : ∀ x ∈ plains, PySem.W.excIn K (ca K x) He.veBase "ValueError.__new__" = true ∧ PySem.W.keepIn K (.ref (ca K x)) = true

/-! ### of which classes an error is -/
abbrev sKinds : Stmt := top 41
theorem scKinds : FnScope ["_law_error", "_law_kinds_here", "_law_number"] ["_law_error"] (defScope sKinds) := ⟨rfl, rfl, rfl, by decide +kernel, rfl, by decide +kernel, by decide +kernel⟩
def bools (x : Str) (k : Nat) : List V := (leaves.take k).map fun y => V.bl (below x y)
section
variable {P : Program} {w : World} {K : PySem.W.Frag} {mg : Str → Option Value} {base : Heap}
def spKinds (K : PySem.W.Frag) : Sp := fun vs H Q _ => ∃ (a : Addr) (x : Str), vs = [.ref a] ∧ x ∈ names ∧ IsX H a (ca K x) ∧
  ∀ H' p, Same H H' → H p = none → H' p = some (.lst ((kindsOf x).map V.int)) → Q (.ref p) H'
theorem kinds_take : ∀ x ∈ names, ∀ k ∈ List.range 29, ((List.range (k + 1)).filter fun i => decide (leaves[i]? = some x)) = ((List.range k).filter fun i => decide (leaves[i]? = some x)) ++ (if below x (leaves.getD k "") = true then [k] else []) := by decide +kernel
theorem ok_kinds {f : Addr} {fd : FuncData} (F : Fn K "_law_kinds" sKinds f fd) (T : Tx P w K mg base) : FnOk P w K mg base CX0 1 f fd ["_law_error"] (spKinds K) := by
  have mI := T.fr "isinstance" (by decide +kernel)
  refine F.ok scKinds (fun vs H Q E h => ?_) (fun cdv A outer s H vs Q E hr h => ?_)
  · obtain ⟨a, x, rfl, _⟩ := h
    rfl
  · obtain ⟨a, x, rfl, hxn, hx, q⟩ := h
    refine ⟨_, pss_mid (ps_set (i := 1) scKinds.nd rfl (.inr rfl) (pe_lst (pa_cons (pe_callB call_isx (by rfl) mI PyProof.Rows.boot_isinstance (pa_cons (pv 0) (pa_cons (pe_cls (by rfl) (T.g "BadBook" (by decide +kernel))) pa_nil))) (pa_cons (pe_callB call_isx (by rfl) mI PyProof.Rows.boot_isinstance (pa_cons (pv 0) (pa_cons (pe_cls (by rfl) (T.g "BadClause" (by decide +kernel))) pa_nil))) (pa_cons (pe_callB call_isx (by rfl) mI PyProof.Rows.boot_isinstance (pa_cons (pv 0) (pa_cons (pe_cls (by rfl) (T.g "BadDeed" (by decide +kernel))) pa_nil))) pa_nil)))))
      (pss_mid (ps_set (i := 1) scKinds.nd rfl (.inr rfl) (pe_op op_cat (pv 1) (pe_lst (pa_cons (pe_callB call_isx (by rfl) mI PyProof.Rows.boot_isinstance (pa_cons (pv 0) (pa_cons (pe_cls (by rfl) (T.g "BadFact" (by decide +kernel))) pa_nil))) (pa_cons (pe_callB call_isx (by rfl) mI PyProof.Rows.boot_isinstance (pa_cons (pv 0) (pa_cons (pe_cls (by rfl) (T.g "BadFix" (by decide +kernel))) pa_nil))) (pa_cons (pe_callB call_isx (by rfl) mI PyProof.Rows.boot_isinstance (pa_cons (pv 0) (pa_cons (pe_cls (by rfl) (T.g "BadHistory" (by decide +kernel))) pa_nil))) pa_nil))))))
      (pss_mid (ps_set (i := 1) scKinds.nd rfl (.inr rfl) (pe_op op_cat (pv 1) (pe_lst (pa_cons (pe_callB call_isx (by rfl) mI PyProof.Rows.boot_isinstance (pa_cons (pv 0) (pa_cons (pe_cls (by rfl) (T.g "BadLine" (by decide +kernel))) pa_nil))) (pa_cons (pe_callB call_isx (by rfl) mI PyProof.Rows.boot_isinstance (pa_cons (pv 0) (pa_cons (pe_cls (by rfl) (T.g "BadLiteral" (by decide +kernel))) pa_nil))) (pa_cons (pe_callB call_isx (by rfl) mI PyProof.Rows.boot_isinstance (pa_cons (pv 0) (pa_cons (pe_cls (by rfl) (T.g "BadLot" (by decide +kernel))) pa_nil))) pa_nil))))))
      (pss_mid (ps_set (i := 1) scKinds.nd rfl (.inr rfl) (pe_op op_cat (pv 1) (pe_lst (pa_cons (pe_callB call_isx (by rfl) mI PyProof.Rows.boot_isinstance (pa_cons (pv 0) (pa_cons (pe_cls (by rfl) (T.g "BadNeeds" (by decide +kernel))) pa_nil))) (pa_cons (pe_callB call_isx (by rfl) mI PyProof.Rows.boot_isinstance (pa_cons (pv 0) (pa_cons (pe_cls (by rfl) (T.g "BadNumber" (by decide +kernel))) pa_nil))) (pa_cons (pe_callB call_isx (by rfl) mI PyProof.Rows.boot_isinstance (pa_cons (pv 0) (pa_cons (pe_cls (by rfl) (T.g "BadPlace" (by decide +kernel))) pa_nil))) pa_nil))))))
      (pss_mid (ps_set (i := 1) scKinds.nd rfl (.inr rfl) (pe_op op_cat (pv 1) (pe_lst (pa_cons (pe_callB call_isx (by rfl) mI PyProof.Rows.boot_isinstance (pa_cons (pv 0) (pa_cons (pe_cls (by rfl) (T.g "BadPrice" (by decide +kernel))) pa_nil))) (pa_cons (pe_callB call_isx (by rfl) mI PyProof.Rows.boot_isinstance (pa_cons (pv 0) (pa_cons (pe_cls (by rfl) (T.g "BadProject" (by decide +kernel))) pa_nil))) (pa_cons (pe_callB call_isx (by rfl) mI PyProof.Rows.boot_isinstance (pa_cons (pv 0) (pa_cons (pe_cls (by rfl) (T.g "BadStanding" (by decide +kernel))) pa_nil))) pa_nil))))))
      (pss_mid (ps_set (i := 1) scKinds.nd rfl (.inr rfl) (pe_op op_cat (pv 1) (pe_lst (pa_cons (pe_callB call_isx (by rfl) mI PyProof.Rows.boot_isinstance (pa_cons (pv 0) (pa_cons (pe_cls (by rfl) (T.g "BadWay" (by decide +kernel))) pa_nil))) (pa_cons (pe_callB call_isx (by rfl) mI PyProof.Rows.boot_isinstance (pa_cons (pv 0) (pa_cons (pe_cls (by rfl) (T.g "BadWeb" (by decide +kernel))) pa_nil))) (pa_cons (pe_callB call_isx (by rfl) mI PyProof.Rows.boot_isinstance (pa_cons (pv 0) (pa_cons (pe_cls (by rfl) (T.g "BadWish" (by decide +kernel))) pa_nil))) pa_nil))))))
      (pss_mid (ps_set (i := 1) scKinds.nd rfl (.inr rfl) (pe_op op_cat (pv 1) (pe_lst (pa_cons (pe_callB call_isx (by rfl) mI PyProof.Rows.boot_isinstance (pa_cons (pv 0) (pa_cons (pe_cls (by rfl) (T.g "NoDay" (by decide +kernel))) pa_nil))) (pa_cons (pe_callB call_isx (by rfl) mI PyProof.Rows.boot_isinstance (pa_cons (pv 0) (pa_cons (pe_cls (by rfl) (T.g "NoFix" (by decide +kernel))) pa_nil))) (pa_cons (pe_callB call_isx (by rfl) mI PyProof.Rows.boot_isinstance (pa_cons (pv 0) (pa_cons (pe_cls (by rfl) (T.g "NoLine" (by decide +kernel))) pa_nil))) pa_nil))))))
      (pss_mid (ps_set (i := 1) scKinds.nd rfl (.inr rfl) (pe_op op_cat (pv 1) (pe_lst (pa_cons (pe_callB call_isx (by rfl) mI PyProof.Rows.boot_isinstance (pa_cons (pv 0) (pa_cons (pe_cls (by rfl) (T.g "NoRelease" (by decide +kernel))) pa_nil))) (pa_cons (pe_callB call_isx (by rfl) mI PyProof.Rows.boot_isinstance (pa_cons (pv 0) (pa_cons (pe_cls (by rfl) (T.g "Ring" (by decide +kernel))) pa_nil))) (pa_cons (pe_callB call_isx (by rfl) mI PyProof.Rows.boot_isinstance (pa_cons (pv 0) (pa_cons (pe_cls (by rfl) (T.g "Barred" (by decide +kernel))) pa_nil))) pa_nil))))))
      (pss_mid (ps_set (i := 1) scKinds.nd rfl (.inr rfl) (pe_op op_cat (pv 1) (pe_lst (pa_cons (pe_callB call_isx (by rfl) mI PyProof.Rows.boot_isinstance (pa_cons (pv 0) (pa_cons (pe_cls (by rfl) (T.g "Undone" (by decide +kernel))) pa_nil))) (pa_cons (pe_callB call_isx (by rfl) mI PyProof.Rows.boot_isinstance (pa_cons (pv 0) (pa_cons (pe_cls (by rfl) (T.g "Unlike" (by decide +kernel))) pa_nil))) pa_nil)))))
      (pss_mid (ps_set (i := 1) scKinds.nd rfl (.inr rfl) (pe_op op_cat (pv 1) (pe_lst (pa_cons (pe_callB call_isx (by rfl) mI PyProof.Rows.boot_isinstance (pa_cons (pv 0) (pa_cons (pe_cls (by rfl) (T.g "BadText" (by decide +kernel))) pa_nil))) (pa_cons (pe_callB call_isx (by rfl) mI PyProof.Rows.boot_isinstance (pa_cons (pv 0) (pa_cons (pe_cls (by rfl) (T.g "TooMany" (by decide +kernel))) pa_nil))) (pa_cons (pe_callB call_isx (by rfl) mI PyProof.Rows.boot_isinstance (pa_cons (pv 0) (pa_cons (pe_cls (by rfl) (T.g "Nothing" (by decide +kernel))) pa_nil))) pa_nil))))))
      (pss_one (ps_ret (pe_lc (own := [("_law_number", 2)]) (g := gName 2) (tt := tB (tOp (rIxL K) (tVar 1) (tVar 2))) rfl scKinds.nd (pi_range1 (by rfl) (T.fr "range" (by decide +kernel)) (pa_cons (pe_callB call_len_seq (by rfl) (T.fr "len" (by decide +kernel)) PySem.boot_len (pa_cons (pv 1) pa_nil)) pa_nil)) (blkOk_by (N := ["_law_error", "_law_kinds_here", "_law_number"]) (sc := defScope sKinds) (by decide +kernel)) (fun _ _ _ _ _ => pg_name (i := 2) scKinds.nd rfl (Or.inl rfl)) (fun _ _ _ _ _ => pts_one (pt_val (pe_ix ix_list (pv 1) (pv 2) (fun _ _ => rfl)))) (fun _ _ _ _ _ => pv 2))))))))))))), ?_⟩
    refine ⟨fun σ' H' => ∃ l, σ' = [some (.ref a), some (.ref l), none] ∧ Same H H' ∧ H l = none ∧ H' l = some (.lst (bools x 3)), ?_, ?_⟩
    · have s1 : Same H H := Same.rfl'
      exact ⟨.ref a, rfl, a, ca K x, _, _, _, rfl, hx.mono s1, T.ec x hxn, .own _, T.kit x hxn "BadBook" (by decide +kernel), .ref a, rfl, a, ca K x, _, _, _, rfl, hx.mono s1, T.ec x hxn, .own _, T.kit x hxn "BadClause" (by decide +kernel), .ref a, rfl, a, ca K x, _, _, _, rfl, hx.mono s1, T.ec x hxn, .own _, T.kit x hxn "BadDeed" (by decide +kernel), (show 3 ≤ sizeLine by decide), fun l nl => ⟨l, rfl, same_upd nl, nl, upd_same⟩⟩
    rintro σ' H1 ⟨l, rfl, s1, n1, e1⟩
    refine ⟨fun σ' H' => ∃ l, σ' = [some (.ref a), some (.ref l), none] ∧ Same H H' ∧ H l = none ∧ H' l = some (.lst (bools x 6)), ?_, ?_⟩
    · refine ⟨.ref l, rfl, .ref a, rfl, a, ca K x, _, _, _, rfl, hx.mono s1, T.ec x hxn, .own _, T.kit x hxn "BadFact" (by decide +kernel), .ref a, rfl, a, ca K x, _, _, _, rfl, hx.mono s1, T.ec x hxn, .own _, T.kit x hxn "BadFix" (by decide +kernel), .ref a, rfl, a, ca K x, _, _, _, rfl, hx.mono s1, T.ec x hxn, .own _, T.kit x hxn "BadHistory" (by decide +kernel), (show 3 ≤ sizeLine by decide), fun l2 n2 => ⟨l, l2, _, _, rfl, rfl, (same_upd n2) _ _ e1, upd_same, (show 6 ≤ sizeLine by decide), fun l3 n3 => ⟨l3, rfl, s1.trans ((same_upd n2).trans (same_upd n3)), ?_, upd_same⟩⟩⟩
      cases hh : H l3 with
      | none => rfl
      | some o => rw [(s1.trans (same_upd n2)) _ _ hh] at n3; cases n3
    rintro σ' H1 ⟨l, rfl, s1, n1, e1⟩
    refine ⟨fun σ' H' => ∃ l, σ' = [some (.ref a), some (.ref l), none] ∧ Same H H' ∧ H l = none ∧ H' l = some (.lst (bools x 9)), ?_, ?_⟩
    · refine ⟨.ref l, rfl, .ref a, rfl, a, ca K x, _, _, _, rfl, hx.mono s1, T.ec x hxn, .own _, T.kit x hxn "BadLine" (by decide +kernel), .ref a, rfl, a, ca K x, _, _, _, rfl, hx.mono s1, T.ec x hxn, .own _, T.kit x hxn "BadLiteral" (by decide +kernel), .ref a, rfl, a, ca K x, _, _, _, rfl, hx.mono s1, T.ec x hxn, .own _, T.kit x hxn "BadLot" (by decide +kernel), (show 3 ≤ sizeLine by decide), fun l2 n2 => ⟨l, l2, _, _, rfl, rfl, (same_upd n2) _ _ e1, upd_same, (show 9 ≤ sizeLine by decide), fun l3 n3 => ⟨l3, rfl, s1.trans ((same_upd n2).trans (same_upd n3)), ?_, upd_same⟩⟩⟩
      cases hh : H l3 with
      | none => rfl
      | some o => rw [(s1.trans (same_upd n2)) _ _ hh] at n3; cases n3
    rintro σ' H1 ⟨l, rfl, s1, n1, e1⟩
    refine ⟨fun σ' H' => ∃ l, σ' = [some (.ref a), some (.ref l), none] ∧ Same H H' ∧ H l = none ∧ H' l = some (.lst (bools x 12)), ?_, ?_⟩
    · refine ⟨.ref l, rfl, .ref a, rfl, a, ca K x, _, _, _, rfl, hx.mono s1, T.ec x hxn, .own _, T.kit x hxn "BadNeeds" (by decide +kernel), .ref a, rfl, a, ca K x, _, _, _, rfl, hx.mono s1, T.ec x hxn, .own _, T.kit x hxn "BadNumber" (by decide +kernel), .ref a, rfl, a, ca K x, _, _, _, rfl, hx.mono s1, T.ec x hxn, .own _, T.kit x hxn "BadPlace" (by decide +kernel), (show 3 ≤ sizeLine by decide), fun l2 n2 => ⟨l, l2, _, _, rfl, rfl, (same_upd n2) _ _ e1, upd_same, (show 12 ≤ sizeLine by decide), fun l3 n3 => ⟨l3, rfl, s1.trans ((same_upd n2).trans (same_upd n3)), ?_, upd_same⟩⟩⟩
      cases hh : H l3 with
      | none => rfl
      | some o => rw [(s1.trans (same_upd n2)) _ _ hh] at n3; cases n3
    rintro σ' H1 ⟨l, rfl, s1, n1, e1⟩
    refine ⟨fun σ' H' => ∃ l, σ' = [some (.ref a), some (.ref l), none] ∧ Same H H' ∧ H l = none ∧ H' l = some (.lst (bools x 15)), ?_, ?_⟩
    · refine ⟨.ref l, rfl, .ref a, rfl, a, ca K x, _, _, _, rfl, hx.mono s1, T.ec x hxn, .own _, T.kit x hxn "BadPrice" (by decide +kernel), .ref a, rfl, a, ca K x, _, _, _, rfl, hx.mono s1, T.ec x hxn, .own _, T.kit x hxn "BadProject" (by decide +kernel), .ref a, rfl, a, ca K x, _, _, _, rfl, hx.mono s1, T.ec x hxn, .own _, T.kit x hxn "BadStanding" (by decide +kernel), (show 3 ≤ sizeLine by decide), fun l2 n2 => ⟨l, l2, _, _, rfl, rfl, (same_upd n2) _ _ e1, upd_same, (show 15 ≤ sizeLine by decide), fun l3 n3 => ⟨l3, rfl, s1.trans ((same_upd n2).trans (same_upd n3)), ?_, upd_same⟩⟩⟩
      cases hh : H l3 with
      | none => rfl
      | some o => rw [(s1.trans (same_upd n2)) _ _ hh] at n3; cases n3
    rintro σ' H1 ⟨l, rfl, s1, n1, e1⟩
    refine ⟨fun σ' H' => ∃ l, σ' = [some (.ref a), some (.ref l), none] ∧ Same H H' ∧ H l = none ∧ H' l = some (.lst (bools x 18)), ?_, ?_⟩
    · refine ⟨.ref l, rfl, .ref a, rfl, a, ca K x, _, _, _, rfl, hx.mono s1, T.ec x hxn, .own _, T.kit x hxn "BadWay" (by decide +kernel), .ref a, rfl, a, ca K x, _, _, _, rfl, hx.mono s1, T.ec x hxn, .own _, T.kit x hxn "BadWeb" (by decide +kernel), .ref a, rfl, a, ca K x, _, _, _, rfl, hx.mono s1, T.ec x hxn, .own _, T.kit x hxn "BadWish" (by decide +kernel), (show 3 ≤ sizeLine by decide), fun l2 n2 => ⟨l, l2, _, _, rfl, rfl, (same_upd n2) _ _ e1, upd_same, (show 18 ≤ sizeLine by decide), fun l3 n3 => ⟨l3, rfl, s1.trans ((same_upd n2).trans (same_upd n3)), ?_, upd_same⟩⟩⟩
      cases hh : H l3 with
      | none => rfl
      | some o => rw [(s1.trans (same_upd n2)) _ _ hh] at n3; cases n3
    rintro σ' H1 ⟨l, rfl, s1, n1, e1⟩
    refine ⟨fun σ' H' => ∃ l, σ' = [some (.ref a), some (.ref l), none] ∧ Same H H' ∧ H l = none ∧ H' l = some (.lst (bools x 21)), ?_, ?_⟩
    · refine ⟨.ref l, rfl, .ref a, rfl, a, ca K x, _, _, _, rfl, hx.mono s1, T.ec x hxn, .own _, T.kit x hxn "NoDay" (by decide +kernel), .ref a, rfl, a, ca K x, _, _, _, rfl, hx.mono s1, T.ec x hxn, .own _, T.kit x hxn "NoFix" (by decide +kernel), .ref a, rfl, a, ca K x, _, _, _, rfl, hx.mono s1, T.ec x hxn, .own _, T.kit x hxn "NoLine" (by decide +kernel), (show 3 ≤ sizeLine by decide), fun l2 n2 => ⟨l, l2, _, _, rfl, rfl, (same_upd n2) _ _ e1, upd_same, (show 21 ≤ sizeLine by decide), fun l3 n3 => ⟨l3, rfl, s1.trans ((same_upd n2).trans (same_upd n3)), ?_, upd_same⟩⟩⟩
      cases hh : H l3 with
      | none => rfl
      | some o => rw [(s1.trans (same_upd n2)) _ _ hh] at n3; cases n3
    rintro σ' H1 ⟨l, rfl, s1, n1, e1⟩
    refine ⟨fun σ' H' => ∃ l, σ' = [some (.ref a), some (.ref l), none] ∧ Same H H' ∧ H l = none ∧ H' l = some (.lst (bools x 24)), ?_, ?_⟩
    · refine ⟨.ref l, rfl, .ref a, rfl, a, ca K x, _, _, _, rfl, hx.mono s1, T.ec x hxn, .own _, T.kit x hxn "NoRelease" (by decide +kernel), .ref a, rfl, a, ca K x, _, _, _, rfl, hx.mono s1, T.ec x hxn, .own _, T.kit x hxn "Ring" (by decide +kernel), .ref a, rfl, a, ca K x, _, _, _, rfl, hx.mono s1, T.ec x hxn, .own _, T.kit x hxn "Barred" (by decide +kernel), (show 3 ≤ sizeLine by decide), fun l2 n2 => ⟨l, l2, _, _, rfl, rfl, (same_upd n2) _ _ e1, upd_same, (show 24 ≤ sizeLine by decide), fun l3 n3 => ⟨l3, rfl, s1.trans ((same_upd n2).trans (same_upd n3)), ?_, upd_same⟩⟩⟩
      cases hh : H l3 with
      | none => rfl
      | some o => rw [(s1.trans (same_upd n2)) _ _ hh] at n3; cases n3
    rintro σ' H1 ⟨l, rfl, s1, n1, e1⟩
    refine ⟨fun σ' H' => ∃ l, σ' = [some (.ref a), some (.ref l), none] ∧ Same H H' ∧ H l = none ∧ H' l = some (.lst (bools x 26)), ?_, ?_⟩
    · refine ⟨.ref l, rfl, .ref a, rfl, a, ca K x, _, _, _, rfl, hx.mono s1, T.ec x hxn, .own _, T.kit x hxn "Undone" (by decide +kernel), .ref a, rfl, a, ca K x, _, _, _, rfl, hx.mono s1, T.ec x hxn, .own _, T.kit x hxn "Unlike" (by decide +kernel), (show 2 ≤ sizeLine by decide), fun l2 n2 => ⟨l, l2, _, _, rfl, rfl, (same_upd n2) _ _ e1, upd_same, (show 26 ≤ sizeLine by decide), fun l3 n3 => ⟨l3, rfl, s1.trans ((same_upd n2).trans (same_upd n3)), ?_, upd_same⟩⟩⟩
      cases hh : H l3 with
      | none => rfl
      | some o => rw [(s1.trans (same_upd n2)) _ _ hh] at n3; cases n3
    rintro σ' H1 ⟨l, rfl, s1, n1, e1⟩
    refine ⟨fun σ' H' => ∃ l, σ' = [some (.ref a), some (.ref l), none] ∧ Same H H' ∧ H l = none ∧ H' l = some (.lst (bools x 29)), ?_, ?_⟩
    · refine ⟨.ref l, rfl, .ref a, rfl, a, ca K x, _, _, _, rfl, hx.mono s1, T.ec x hxn, .own _, T.kit x hxn "BadText" (by decide +kernel), .ref a, rfl, a, ca K x, _, _, _, rfl, hx.mono s1, T.ec x hxn, .own _, T.kit x hxn "TooMany" (by decide +kernel), .ref a, rfl, a, ca K x, _, _, _, rfl, hx.mono s1, T.ec x hxn, .own _, T.kit x hxn "Nothing" (by decide +kernel), (show 3 ≤ sizeLine by decide), fun l2 n2 => ⟨l, l2, _, _, rfl, rfl, (same_upd n2) _ _ e1, upd_same, (show 29 ≤ sizeLine by decide), fun l3 n3 => ⟨l3, rfl, s1.trans ((same_upd n2).trans (same_upd n3)), ?_, upd_same⟩⟩⟩
      cases hh : H l3 with
      | none => rfl
      | some o => rw [(s1.trans (same_upd n2)) _ _ hh] at n3; cases n3
    rintro σ' H1 ⟨l, rfl, s1, n1, e1⟩
    refine ⟨.ref l, rfl, l, _, rfl, .inl (SqL.of e1), 29, rfl, by decide, by decide, fun D hD => lc_range (lo := 0) (n := 29) (fun i H2 => Same H1 H2 ∧ H2 D = some (.lst (((List.range i).filter fun j => decide (leaves[j]? = some x)).map fun (j : Nat) => V.int (j : Int)))) ⟨same_upd hD, upd_same⟩ ?_ ?_⟩
    · rintro i H2 hi ⟨s2, e2⟩
      have hb : (bools x 29)[i]? = some (.bl (below x (leaves.getD i ""))) := by
        have h1 : leaves.take 29 = leaves := by decide +kernel
        have h2 : leaves.length = 29 := by decide +kernel
        unfold bools
        rw [h1, List.getElem?_map, List.getElem?_eq_getElem (by omega), List.getD_eq_getElem?_getD, List.getElem?_eq_getElem (by omega)]
        rfl
      have hk := kinds_take x hxn i (List.mem_range.mpr hi)
      rw [Int.zero_add]
      refine ⟨rfl, .ref l, rfl, .int i, rfl, l, bools x 29, i, .bl (below x (leaves.getD i "")), rfl, rfl, SqL.of (s2 _ _ e1), atI_nat hb, _, rfl, ?_⟩
      cases hc : below x (leaves.getD i "") with
      | true =>
        refine ⟨.int i, rfl, _, e2, ?_, fun b o e => ?_, ?_⟩
        · rw [List.length_map]
          have := List.length_filter_le (fun j => decide (leaves[j]? = some x)) (List.range i)
          rw [List.length_range] at this
          exact small1000 (by omega)
        · have nb : b ≠ D := fun z => by rw [z, hD] at e; cases e
          rw [upd_ne nb]; exact s2 _ _ e
        · rw [upd_same, hk, hc, List.map_append]
          rfl
      | false =>
        refine ⟨s2, ?_⟩
        rw [e2, hk, hc, if_neg Bool.false_ne_true, List.append_nil]
    · rintro H2 ⟨s2, e2⟩
      refine q H2 D (s1.trans s2) ?_ ?_
      · cases hh : H D with
        | none => rfl
        | some o => rw [s1 _ _ hh] at hD; cases hD
      · rw [e2]
        show some (HO.lst _) = some (HO.lst ((((List.range 29).filter fun i => decide (leaves[i]? = some x)).map fun (i : Nat) => (i : Int)).map V.int))
        rw [List.map_map]
        rfl
end
end Law
set_option Elab.async false
set_option linter.all false
set_option maxRecDepth 100000
set_option maxHeartbeats 4000000
namespace Law
open PySem PySem.Spec PyProof.Rows L2
section
variable {P : Program} {w : World} {K : PySem.W.Frag} {mg : Str → Option Value} {base : Heap}
/-! ### of one class alone -/
abbrev sAlone : Stmt := top 42
theorem scAlone : FnScope ["_law_error", "_law_kinds_here", "_law_is_input"] ["_law_error"] (defScope sAlone) := ⟨rfl, rfl, rfl, by decide +kernel, rfl, by decide +kernel, by decide +kernel⟩
def spAlone (K : PySem.W.Frag) : Sp := fun vs H Q _ => ∃ (a : Addr) (x : Str), vs = [.ref a] ∧ x ∈ leaves ∧ IsX H a (ca K x) ∧ ∀ H', Same H H' → Q (.bl true) H'
theorem leaf_facts : ∀ x ∈ leaves, x ∈ names ∧ (kindsOf x).length = 1 ∧ below x "EditionError" = true ∧ (!decide (V.bl (below x "BadInput") = V.bl (below x "NoAnswer"))) = true := by decide +kernel
theorem ok_alone {f fK : Addr} {fd fdK : FuncData} (F : Fn K "_law_is_alone" sAlone f fd) (FK : Fn K "_law_kinds" sKinds fK fdK) (gK : mg "_law_kinds" = some (.ref fK)) (T : Tx P w K mg base) : FnOk P w K mg base CX0 2 f fd ["_law_error"] (spAlone K) := by
  have mI := T.fr "isinstance" (by decide +kernel)
  have GK : FnOk P w K mg base CX0 1 fK fdK ["_law_error"] (spKinds K) := ok_kinds FK T
  have bK : Binds K fdK ["_law_error"] [] := FK.bindsN fun _ _ _ _ _ _ us hl => match us, hl with | [_], _ => rfl
  refine F.ok scAlone (fun vs H Q E h => ?_) (fun cdv A outer s H vs Q E hr h => ?_)
  · obtain ⟨a, x, rfl, _⟩ := h
    rfl
  · obtain ⟨a, x, rfl, hxl, hx, q⟩ := h
    obtain ⟨hxn, hk1, hbE, hbN⟩ := leaf_facts x hxl
    refine ⟨_, pss_cons (ps_set (i := 1) scAlone.nd rfl (.inl rfl) (pe_call GK hr (by rfl) gK FK.kp bK .nil pass0 (pa_cons (pv 0) pa_nil)))
      (pss_cons (ps_if (PW.pt (pw_or (pt_cmpR op_ne (pe_callB call_len_seq (by rfl) (T.fr "len" (by decide +kernel)) PySem.boot_len (pa_cons (pv 1) pa_nil)) pe_int (nomark _))
          (pw_or (pt_not (pt_val (pe_callB call_isx (by rfl) mI PyProof.Rows.boot_isinstance (pa_cons (pv 0) (pa_cons (pe_cls (by rfl) (T.g "EditionError" (by decide +kernel))) pa_nil))))) (pw_or1 (pt_not (pt_val (pe_callB call_isx (by rfl) mI PyProof.Rows.boot_isinstance (pa_cons (pv 0) (pa_cons (pe_bltn (v := .ty "ValueError") (by rfl) (T.fr "ValueError" (by decide +kernel)) (by decide +kernel) rfl) pa_nil))))))))) (pss_one (ps_ret pe_bl)) pss_nil)
      (pss_cons (ps_set (i := 2) scAlone.nd rfl (.inl rfl) (pe_callB call_isx (by rfl) mI PyProof.Rows.boot_isinstance (pa_cons (pv 0) (pa_cons (pe_cls (by rfl) (T.g "BadInput" (by decide +kernel))) pa_nil))))
      (pss_one (ps_ret (pe_and (pe_cmpR op_ne (pv 2) (pe_callB call_isx (by rfl) mI PyProof.Rows.boot_isinstance (pa_cons (pv 0) (pa_cons (pe_cls (by rfl) (T.g "NoAnswer" (by decide +kernel))) pa_nil))) (nomark _)) (pe_one (pe_not (pe_callB call_isx (by rfl) mI PyProof.Rows.boot_isinstance (pa_cons (pv 0) (pa_cons (pe_bltn (v := .ty "LookupError") (by rfl) (T.fr "LookupError" (by decide +kernel)) (by decide +kernel) rfl) pa_nil)))))))))), ?_⟩
    refine ⟨.ref a, rfl, a, x, rfl, hxn, hx, fun H1 l s1 nl el => ?_⟩
    have hx1 := hx.mono s1
    refine ⟨.ref l, rfl, l, _, rfl, .inl (SqL.of el), rfl, _, rfl, ?_⟩
    rw [List.length_map, hk1]
    refine iteF ?_
    refine ⟨.ref a, rfl, a, ca K x, _, _, true, rfl, hx1, T.ec x hxn, .own _, (T.kit x hxn "EditionError" (by decide +kernel)).trans (congrArg some hbE), _, rfl, iteF ?_⟩
    refine ⟨.ref a, rfl, a, ca K x, _, _, true, rfl, hx1, T.ec x hxn, .ty _, T.kitV x hxn, _, rfl, iteF ?_⟩
    refine ⟨.ref a, rfl, a, ca K x, _, _, _, rfl, hx1, T.ec x hxn, .own _, T.kit x hxn "BadInput" (by decide +kernel), ?_⟩
    refine ⟨_, rfl, .ref a, rfl, a, ca K x, _, _, _, rfl, hx1, T.ec x hxn, .own _, T.kit x hxn "NoAnswer" (by decide +kernel), rfl, _, rfl, ?_⟩
    rw [hbN]
    refine iteT ?_
    exact ⟨.ref a, rfl, a, ca K x, _, _, false, rfl, hx1, T.ec x hxn, .ty _, T.kitL x hxn, _, rfl, q H1 s1⟩

end
end Law
set_option Elab.async false
set_option linter.all false
set_option maxRecDepth 100000
set_option maxHeartbeats 4000000
namespace Law
open PySem PySem.Spec PyProof.Rows L2
/-! ### pairs of errors, one by position, one by name -/
def Pair (K : PySem.W.Frag) (H : Hp) (v u : V) (t : Addr) (z : Str × Str) : Prop := ∃ e1 e2, H t = some (.tup [.ref e1, .ref e2]) ∧ ErrAt H e1 (ca K z.1) [(z.2, v)] ∧ ErrAt H e2 (ca K z.1) [(z.2, u)]
theorem Pair.mono {K : PySem.W.Frag} {H H' : Hp} {v u : V} {t : Addr} {z : Str × Str} (h : Pair K H v u t z) (s : Same H H') : Pair K H' v u t z := by
  obtain ⟨e1, e2, h1, h2, h3⟩ := h
  exact ⟨e1, e2, s _ _ h1, h2.mono s, h3.mono s⟩
inductive Pairs (K : PySem.W.Frag) (H : Hp) (v u : V) : List V → List (Str × Str) → Prop
  | nil : Pairs K H v u [] []
  | cons {t : Addr} {z : Str × Str} {ts : List V} {zs : List (Str × Str)} : Pair K H v u t z → Pairs K H v u ts zs → Pairs K H v u (.ref t :: ts) (z :: zs)
theorem Pairs.mono {K : PySem.W.Frag} {H H' : Hp} {v u : V} (s : Same H H') : ∀ {ts : List V} {zs : List (Str × Str)}, Pairs K H v u ts zs → Pairs K H' v u ts zs
  | _, _, .nil => .nil
  | _, _, .cons h1 h2 => .cons (h1.mono s) (h2.mono s)
theorem Pairs.app {K : PySem.W.Frag} {H : Hp} {v u : V} : ∀ {ts : List V} {zs : List (Str × Str)} {ts' : List V} {zs' : List (Str × Str)}, Pairs K H v u ts zs → Pairs K H v u ts' zs' → Pairs K H v u (ts ++ ts') (zs ++ zs')
  | _, _, _, _, .nil, h => h
  | _, _, _, _, .cons h1 h2, h => .cons h1 (h2.app h)
theorem Pairs.get {K : PySem.W.Frag} {H : Hp} {v u : V} : ∀ {ts : List V} {zs : List (Str × Str)}, Pairs K H v u ts zs → ∀ {i : Nat} {y : V}, ts[i]? = some y → ∃ t z, y = .ref t ∧ zs[i]? = some z ∧ Pair K H v u t z
  | _, _, .nil, i, y, h => by simp at h
  | _, _, .cons h1 h2, 0, y, h => by
    obtain rfl := Option.some.inj h
    exact ⟨_, _, rfl, rfl, h1⟩
  | _, _, .cons h1 h2, i + 1, y, h => h2.get (i := i) h
theorem Pairs.length {K : PySem.W.Frag} {H : Hp} {v u : V} : ∀ {ts : List V} {zs : List (Str × Str)}, Pairs K H v u ts zs → ts.length = zs.length
  | _, _, .nil => rfl
  | _, _, .cons _ h => congrArg Nat.succ h.length
/-- (X(v), X(f=u)) -/
def tPairV (K : PySem.W.Frag) (z : Str × Str) (i j : Nat) : TE := fun σ H Q => ∃ v u, σ[i]? = some (some v) ∧ σ[j]? = some (some u) ∧ ∀ H' t, Same H H' → Pair K H' v u t z → Q (.ref t) H'
theorem pe_pair {X : Cx} {x f : Str} {i j : Nat} {e e2 : Expr} {p p2 pos pos2 kp pos3 : Pos} {x1 : Nat} (T : Er1 X.prog X.w X.K X.mg X.base x f (ca X.K x)) (hr : Room 2 X.A) (hg : Gl X x) (ha : PE X e (tVar i)) (hb : PE X e2 (tVar j))
    (hdb : (x == ("__debug__" : Str)) = false := by decide) (he : starEach [e] X.env = (false, eval e X.env) :: starEach [] X.env := by rfl)
    (hall : (backToKw pos2 (keywordEach [⟨some f, e2, kp⟩] X.env)).all (·.1.isSome) = true := by rfl) (hks : (backToKw pos2 (keywordEach [⟨some f, e2, kp⟩] X.env)).filterMap (·.1) = [f] := by rfl)
    (hpl : ((backTo pos2 (starEach [] X.env)).any (·.1) || (backToKw pos2 (keywordEach [⟨some f, e2, kp⟩] X.env)).any (·.1.isNone)) = false := by rfl)
    (hs1 : starEach [.Call (.Name x p) [e] [] pos, .Call (.Name x p2) [] [⟨some f, e2, kp⟩] pos2] X.env = (false, eval (.Call (.Name x p) [e] [] pos) X.env) :: starEach [.Call (.Name x p2) [] [⟨some f, e2, kp⟩] pos2] X.env := by rfl)
    (hs2 : starEach [.Call (.Name x p2) [] [⟨some f, e2, kp⟩] pos2] X.env = (false, eval (.Call (.Name x p2) [] [⟨some f, e2, kp⟩] pos2) X.env) :: starEach [] X.env := by rfl) :
    PE X (.Tuple [.Call (.Name x p) [e] [] pos, .Call (.Name x p2) [] [⟨some f, e2, kp⟩] pos2] x1 pos3) (tPairV X.K (x, f) i j) :=
  (pe_tup (pa_cons (pe_er1 T hr hg ha hdb he) (pa_cons (pe_er1k T hr hg hb hall hks hpl hdb) pa_nil hs2) hs1)).imp fun σ H Q ⟨v, u, hv, hu, q⟩ =>
    ⟨v, hv, fun H2 a s2 na ea => ⟨u, hu, fun H3 b s3 nb eb => ⟨(show 2 ≤ sizeLine by decide), fun t nt => q _ t (s2.trans (s3.trans (same_upd nt))) ⟨a, b, upd_same, (ea.mono s3).mono (same_upd nt), eb.mono (same_upd nt)⟩⟩⟩⟩
/-! ### rows: the errors and the fields that were read -/
def Row (K : PySem.W.Frag) (H : Hp) (v u : V) (t : Addr) (x : Str) : Prop := ∃ e1 e2, H t = some (.tup [.ref e1, v, .ref e2, u]) ∧ IsX H e1 (ca K x) ∧ IsX H e2 (ca K x)
theorem Row.mono {K : PySem.W.Frag} {H H' : Hp} {v u : V} {t : Addr} {x : Str} (h : Row K H v u t x) (s : Same H H') : Row K H' v u t x := by
  obtain ⟨e1, e2, h1, h2, h3⟩ := h
  exact ⟨e1, e2, s _ _ h1, h2.mono s, h3.mono s⟩
inductive Rows (K : PySem.W.Frag) (H : Hp) (v u : V) : List V → List Str → Prop
  | nil : Rows K H v u [] []
  | cons {t : Addr} {x : Str} {ts : List V} {xs : List Str} : Row K H v u t x → Rows K H v u ts xs → Rows K H v u (.ref t :: ts) (x :: xs)
theorem Rows.mono {K : PySem.W.Frag} {H H' : Hp} {v u : V} (s : Same H H') : ∀ {ts : List V} {xs : List Str}, Rows K H v u ts xs → Rows K H' v u ts xs
  | _, _, .nil => .nil
  | _, _, .cons h1 h2 => .cons (h1.mono s) (h2.mono s)
theorem Rows.app {K : PySem.W.Frag} {H : Hp} {v u : V} : ∀ {ts : List V} {zs : List Str} {ts' : List V} {zs' : List Str}, Rows K H v u ts zs → Rows K H v u ts' zs' → Rows K H v u (ts ++ ts') (zs ++ zs')
  | _, _, _, _, .nil, h => h
  | _, _, _, _, .cons h1 h2, h => .cons h1 (h2.app h)
theorem Rows.get {K : PySem.W.Frag} {H : Hp} {v u : V} : ∀ {ts : List V} {zs : List Str}, Rows K H v u ts zs → ∀ {i : Nat} {y : V}, ts[i]? = some y → ∃ t z, y = .ref t ∧ zs[i]? = some z ∧ Row K H v u t z
  | _, _, .nil, i, y, h => by simp at h
  | _, _, .cons h1 h2, 0, y, h => by
    obtain rfl := Option.some.inj h
    exact ⟨_, _, rfl, rfl, h1⟩
  | _, _, .cons h1 h2, i + 1, y, h => h2.get (i := i) h
theorem Rows.length {K : PySem.W.Frag} {H : Hp} {v u : V} : ∀ {ts : List V} {zs : List Str}, Rows K H v u ts zs → ts.length = zs.length
  | _, _, .nil => rfl
  | _, _, .cons _ h => congrArg Nat.succ h.length
def tRow (K : PySem.W.Frag) (f : Str) (a b : Nat) : TE := tTup (tCons (tVar a) (tCons (tXat K f (tVar a)) (tCons (tVar b) (tCons (tXat K f (tVar b)) tNil))))
section
variable {P : Program} {w : World} {K : PySem.W.Frag} {mg : Str → Option Value} {base : Heap}
theorem same_wo {H1 H2 : Hp} {D : Addr} (s : Same H1 H2) (h : H1 D = none) : Same H1 (Wo D H2) := fun b o e => Wo.of (s b o e) fun z => by rw [z, h] at e; cases e
/-- the rows that are read off pairs -/
theorem lc_rows (T : Tx P w K mg base) {f : Str} {a b : Nat} {l D : Addr} {H1 : Hp} {v u : V} {ts : List V} {zs : List (Str × Str)} {σ : L2.St} {Qd : Hp → Prop} (hl : H1 l = some (.lst ts)) (hp : Pairs K H1 v u ts zs) (hz : ∀ z ∈ zs, z ∈ ones ∧ z.2 = f) (hlen : zs.length ≤ 100) (hD : H1 D = none)
    (hw : ∀ x y : Option V, wipe (((wipe σ [a, b]).set a x).set b y) [a, b] = wipe σ [a, b]) (ha : ∀ x y : Option V, (((wipe σ [a, b]).set a x).set b y)[a]? = some x) (hb : ∀ x y : Option V, (((wipe σ [a, b]).set a x).set b y)[b]? = some y) (q : ∀ H2, Same H1 H2 → ∀ rs, H2 D = some (.lst rs) → Rows K H2 v u rs (zs.map (·.1)) → Qd H2) :
    ∃ W : Nat → Nat → Hp → Prop, (∃ m, W 0 m (upd H1 D (.lst []))) ∧ ∀ i m H, W i m H →
      ((Itl K l).stop i H ∧ Qd H) ∨ ((Itl K l).go i H ∧ ∃ Nx : Hp → Prop, (∀ H', Nx H' → ∃ m', m' < m ∧ W (i + 1) m' H') ∧ ∀ x H', (Itl K l).yld i H x H' → gTup K 2 (gCons (gName a) (gCons (gName b) gNil)) x (wipe σ [a, b]) H' fun σ2 H2 => wipe σ2 [a, b] = wipe σ [a, b] ∧ tYes σ2 H2 fun c H3 =>
        if c = true then tRow K f a b σ2 H3 fun y H4 => ∃ acc, H4 D = some (.lst acc) ∧ acc.length < sizeLine ∧ Nx (upd H4 D (.lst (acc ++ [y]))) else Nx H3) := by
  refine lc_list (K := K) (a := l) (xs := ts) (fun i H2 => Same H1 H2 ∧ ∃ rs, H2 D = some (.lst rs) ∧ Rows K (Wo D H2) v u rs ((zs.map (·.1)).take i)) ⟨same_upd hD, [], upd_same, .nil⟩ (fun i H2 _ ⟨s2, _⟩ => SqL.of (s2 _ _ hl)) ?_ ?_
  · rintro i y H2 hy ⟨s2, rs, e2, r2⟩
    obtain ⟨t, z, rfl, hzi, e1, e2', ht, E1, E2⟩ := hp.get hy
    obtain ⟨hz1, rfl⟩ := hz z (List.mem_of_getElem? hzi)
    have Z := T.er1 z hz1
    refine ⟨t, [.ref e1, .ref e2'], rfl, SqT.of (s2 _ _ ht), rfl, .ref e1, [.ref e2'], rfl, .ref e2', [], rfl, rfl, hw _ _, ?_⟩
    have lk : ∀ y : V, List.lookup z.2 [(z.2, y)] = some y := fun y => by simp [List.lookup]
    refine ⟨.ref e1, ha _ _, .ref e1, ha _ _, e1, ca K z.1, _, v, rfl, E1.mono s2, Z.xf, Z.no, lk _, .ref e2', hb _ _, .ref e2', hb _ _, e2', ca K z.1, _, u, rfl, E2.mono s2, Z.xf, Z.no, lk _, (show 4 ≤ sizeLine by decide), fun t2 n2 => ⟨rs, (same_upd n2) _ _ e2, ?_, fun b o e => ?_, _, upd_same, ?_⟩⟩
    · rw [r2.length, List.length_take]
      exact small1000 (by rw [List.length_map]; omega)
    · have nb : b ≠ D := fun z => by rw [z, hD] at e; cases e
      rw [upd_ne nb]
      exact (same_upd n2) _ _ (s2 _ _ e)
    · have hDt : t2 ≠ D := fun z => by rw [z, e2] at n2; cases n2
      have s5 : Same H1 (upd (upd H2 t2 (.tup [.ref e1, v, .ref e2', u])) D (.lst (rs ++ [.ref t2]))) := fun b o e => by
        have nb : b ≠ D := fun z => by rw [z, hD] at e; cases e
        rw [upd_ne nb]
        exact (same_upd n2) _ _ (s2 _ _ e)
      have s6 := same_wo s5 hD
      have hi : ((zs.map (·.1)).take (i + 1)) = (zs.map (·.1)).take i ++ [z.1] := by
        rw [List.take_add_one, List.getElem?_map, hzi]
        rfl
      rw [hi]
      refine (r2.mono ((same_upd n2).sb.trans SB.upd).wo).app (.cons ⟨e1, e2', ?_, E1.isX.mono s6, E2.isX.mono s6⟩ .nil)
      exact Wo.of (by rw [upd_ne hDt, upd_same]) hDt
  · rintro H2 ⟨s2, rs, e2, r2⟩
    refine q H2 s2 rs e2 ?_
    rw [hp.length, List.take_of_length_le (by rw [List.length_map]; exact Nat.le_refl _)] at r2
    exact r2.mono Wo.same
end
end Law
set_option Elab.async false
set_option linter.all false
set_option maxRecDepth 100000
set_option maxHeartbeats 4000000
namespace Law
open PySem PySem.Spec PyProof.Rows L2
section
variable {P : Program} {w : World} {K : PySem.W.Frag} {mg : Str → Option Value} {base : Heap}
def spRows (K : PySem.W.Frag) (xs : List Str) : Sp := fun vs H Q _ => ∃ v u, vs = [v, u] ∧ ∀ H' p rs, Same H H' → H' p = some (.lst rs) → Rows K H' v u rs xs → Q (.ref p) H'
theorem none_of {H H' : Hp} {p : Addr} (s : Same H H') (n : H' p = none) : H p = none := by
  cases h : H p with
  | none => rfl
  | some o => rw [s _ _ h] at n; cases n
/-! ### the errors with a part -/
abbrev sParted : Stmt := top 38
theorem scParted : FnScope ["_law_one", "_law_two", "_law_found", "_law_first", "_law_second"] ["_law_one", "_law_two"] (defScope sParted) := ⟨rfl, rfl, rfl, by decide +kernel, rfl, by decide +kernel, by decide +kernel⟩
theorem ok_parted {f : Addr} {fd : FuncData} (F : Fn K "_law_parted" sParted f fd) (T : Tx P w K mg base) : FnOk P w K mg base CX0 3 f fd ["_law_one", "_law_two"] (spRows K ["BadBook", "BadClause", "BadFact", "BadHistory", "BadLiteral", "BadLot", "BadNeeds", "BadPlace", "BadProject", "BadStanding", "BadWeb", "BadWish", "Unlike"]) := by
  refine F.ok scParted (fun vs H Q E h => ?_) (fun cdv A outer s H vs Q E hr h => ?_)
  · obtain ⟨v, u, rfl, _⟩ := h
    rfl
  · obtain ⟨v, u, rfl, q⟩ := h
    have hr2 : Room 2 _ := hr
    refine ⟨_, pss_mid (ps_set (i := 2) scParted.nd rfl (.inl rfl) (pe_lst (pa_cons (pe_pair (x := "BadBook") (f := "part") (T.er1 ("BadBook", "part") (by decide +kernel)) hr2 (by rfl) (pv 0) (pv 1)) (pa_cons (pe_pair (x := "BadClause") (f := "part") (T.er1 ("BadClause", "part") (by decide +kernel)) hr2 (by rfl) (pv 0) (pv 1)) pa_nil))))
      (pss_mid (ps_set (i := 2) scParted.nd rfl (.inl rfl) (pe_op op_cat (pv 2) (pe_lst (pa_cons (pe_pair (x := "BadFact") (f := "part") (T.er1 ("BadFact", "part") (by decide +kernel)) hr2 (by rfl) (pv 0) (pv 1)) (pa_cons (pe_pair (x := "BadHistory") (f := "part") (T.er1 ("BadHistory", "part") (by decide +kernel)) hr2 (by rfl) (pv 0) (pv 1)) pa_nil)))))
      (pss_mid (ps_set (i := 2) scParted.nd rfl (.inl rfl) (pe_op op_cat (pv 2) (pe_lst (pa_cons (pe_pair (x := "BadLiteral") (f := "part") (T.er1 ("BadLiteral", "part") (by decide +kernel)) hr2 (by rfl) (pv 0) (pv 1)) (pa_cons (pe_pair (x := "BadLot") (f := "part") (T.er1 ("BadLot", "part") (by decide +kernel)) hr2 (by rfl) (pv 0) (pv 1)) pa_nil)))))
      (pss_mid (ps_set (i := 2) scParted.nd rfl (.inl rfl) (pe_op op_cat (pv 2) (pe_lst (pa_cons (pe_pair (x := "BadNeeds") (f := "part") (T.er1 ("BadNeeds", "part") (by decide +kernel)) hr2 (by rfl) (pv 0) (pv 1)) (pa_cons (pe_pair (x := "BadPlace") (f := "part") (T.er1 ("BadPlace", "part") (by decide +kernel)) hr2 (by rfl) (pv 0) (pv 1)) pa_nil)))))
      (pss_mid (ps_set (i := 2) scParted.nd rfl (.inl rfl) (pe_op op_cat (pv 2) (pe_lst (pa_cons (pe_pair (x := "BadProject") (f := "part") (T.er1 ("BadProject", "part") (by decide +kernel)) hr2 (by rfl) (pv 0) (pv 1)) (pa_cons (pe_pair (x := "BadStanding") (f := "part") (T.er1 ("BadStanding", "part") (by decide +kernel)) hr2 (by rfl) (pv 0) (pv 1)) pa_nil)))))
      (pss_mid (ps_set (i := 2) scParted.nd rfl (.inl rfl) (pe_op op_cat (pv 2) (pe_lst (pa_cons (pe_pair (x := "BadWeb") (f := "part") (T.er1 ("BadWeb", "part") (by decide +kernel)) hr2 (by rfl) (pv 0) (pv 1)) (pa_cons (pe_pair (x := "BadWish") (f := "part") (T.er1 ("BadWish", "part") (by decide +kernel)) hr2 (by rfl) (pv 0) (pv 1)) pa_nil)))))
      (pss_mid (ps_set (i := 2) scParted.nd rfl (.inl rfl) (pe_op op_cat (pv 2) (pe_lst (pa_cons (pe_pair (x := "Unlike") (f := "part") (T.er1 ("Unlike", "part") (by decide +kernel)) hr2 (by rfl) (pv 0) (pv 1)) pa_nil))))
      (pss_one (ps_ret (pe_lc (own := [("_law_first", 3), ("_law_second", 4)]) (g := gTup K 2 (gCons (gName 3) (gCons (gName 4) gNil))) (tt := tYes) (te := tRow K "part" 3 4) rfl scParted.nd (pi_list (pv 2)) (blkOk_by (N := ["_law_one", "_law_two", "_law_found", "_law_first", "_law_second"]) (sc := defScope sParted) (by decide +kernel)) (fun _ _ _ _ _ => pg_tup rfl (pgs_cons (pg_name (i := 3) scParted.nd rfl (Or.inl rfl)) (pgs_cons (pg_name (i := 4) scParted.nd rfl (Or.inl rfl)) pgs_nil))) (fun _ _ _ _ _ => pts_nil) (fun _ _ _ _ _ => pe_tup (pa_cons (pv 3) (pa_cons (pe_xat (pv 3)) (pa_cons (pv 4) (pa_cons (pe_xat (pv 4)) pa_nil)))))))))))))), ?_⟩
    refine ⟨fun σ' H' => ∃ l ts, σ' = [some v, some u, some (.ref l), none, none] ∧ Same H H' ∧ H' l = some (.lst ts) ∧ Pairs K H' v u ts [("BadBook", "part"), ("BadClause", "part")], ?_, ?_⟩
    · exact ⟨v, u, rfl, rfl, fun H2 t2 s2 p2 => ⟨v, u, rfl, rfl, fun H3 t3 s3 p3 => ⟨(show 2 ≤ sizeLine by decide), fun l nl => ⟨l, _, rfl, (s2.trans (s3.trans (same_upd nl))), upd_same, .cons ((p2.mono s3).mono (same_upd nl)) (.cons (p3.mono (same_upd nl)) .nil)⟩⟩⟩⟩
    rintro σ' H1 ⟨l, ts, rfl, s1, e1, p1⟩
    refine ⟨fun σ' H' => ∃ l ts, σ' = [some v, some u, some (.ref l), none, none] ∧ Same H H' ∧ H' l = some (.lst ts) ∧ Pairs K H' v u ts [("BadBook", "part"), ("BadClause", "part"), ("BadFact", "part"), ("BadHistory", "part")], ?_, ?_⟩
    · refine ⟨.ref l, rfl, v, u, rfl, rfl, fun H2 t2 s2 p2 => ⟨v, u, rfl, rfl, fun H3 t3 s3 p3 => ⟨(show 2 ≤ sizeLine by decide), fun l4 n4 => ⟨l, l4, ts, _, rfl, rfl, (s2.trans (s3.trans (same_upd n4))) _ _ e1, upd_same, ?_, fun l5 n5 => ⟨l5, _, rfl, s1.trans (s2.trans (s3.trans ((same_upd n4).trans (same_upd n5)))), upd_same, ?_⟩⟩⟩⟩⟩
      · exact Nat.le_of_lt (small1000 (by rw [p1.length]; simp only [List.length_cons, List.length_nil]; omega))
      · exact (p1.mono (s2.trans (s3.trans ((same_upd n4).trans (same_upd n5))))).app (.cons (((p2.mono s3).mono (same_upd n4)).mono (same_upd n5)) (.cons ((p3.mono (same_upd n4)).mono (same_upd n5)) .nil))
    rintro σ' H1 ⟨l, ts, rfl, s1, e1, p1⟩
    refine ⟨fun σ' H' => ∃ l ts, σ' = [some v, some u, some (.ref l), none, none] ∧ Same H H' ∧ H' l = some (.lst ts) ∧ Pairs K H' v u ts [("BadBook", "part"), ("BadClause", "part"), ("BadFact", "part"), ("BadHistory", "part"), ("BadLiteral", "part"), ("BadLot", "part")], ?_, ?_⟩
    · refine ⟨.ref l, rfl, v, u, rfl, rfl, fun H2 t2 s2 p2 => ⟨v, u, rfl, rfl, fun H3 t3 s3 p3 => ⟨(show 2 ≤ sizeLine by decide), fun l4 n4 => ⟨l, l4, ts, _, rfl, rfl, (s2.trans (s3.trans (same_upd n4))) _ _ e1, upd_same, ?_, fun l5 n5 => ⟨l5, _, rfl, s1.trans (s2.trans (s3.trans ((same_upd n4).trans (same_upd n5)))), upd_same, ?_⟩⟩⟩⟩⟩
      · exact Nat.le_of_lt (small1000 (by rw [p1.length]; simp only [List.length_cons, List.length_nil]; omega))
      · exact (p1.mono (s2.trans (s3.trans ((same_upd n4).trans (same_upd n5))))).app (.cons (((p2.mono s3).mono (same_upd n4)).mono (same_upd n5)) (.cons ((p3.mono (same_upd n4)).mono (same_upd n5)) .nil))
    rintro σ' H1 ⟨l, ts, rfl, s1, e1, p1⟩
    refine ⟨fun σ' H' => ∃ l ts, σ' = [some v, some u, some (.ref l), none, none] ∧ Same H H' ∧ H' l = some (.lst ts) ∧ Pairs K H' v u ts [("BadBook", "part"), ("BadClause", "part"), ("BadFact", "part"), ("BadHistory", "part"), ("BadLiteral", "part"), ("BadLot", "part"), ("BadNeeds", "part"), ("BadPlace", "part")], ?_, ?_⟩
    · refine ⟨.ref l, rfl, v, u, rfl, rfl, fun H2 t2 s2 p2 => ⟨v, u, rfl, rfl, fun H3 t3 s3 p3 => ⟨(show 2 ≤ sizeLine by decide), fun l4 n4 => ⟨l, l4, ts, _, rfl, rfl, (s2.trans (s3.trans (same_upd n4))) _ _ e1, upd_same, ?_, fun l5 n5 => ⟨l5, _, rfl, s1.trans (s2.trans (s3.trans ((same_upd n4).trans (same_upd n5)))), upd_same, ?_⟩⟩⟩⟩⟩
      · exact Nat.le_of_lt (small1000 (by rw [p1.length]; simp only [List.length_cons, List.length_nil]; omega))
      · exact (p1.mono (s2.trans (s3.trans ((same_upd n4).trans (same_upd n5))))).app (.cons (((p2.mono s3).mono (same_upd n4)).mono (same_upd n5)) (.cons ((p3.mono (same_upd n4)).mono (same_upd n5)) .nil))
    rintro σ' H1 ⟨l, ts, rfl, s1, e1, p1⟩
    refine ⟨fun σ' H' => ∃ l ts, σ' = [some v, some u, some (.ref l), none, none] ∧ Same H H' ∧ H' l = some (.lst ts) ∧ Pairs K H' v u ts [("BadBook", "part"), ("BadClause", "part"), ("BadFact", "part"), ("BadHistory", "part"), ("BadLiteral", "part"), ("BadLot", "part"), ("BadNeeds", "part"), ("BadPlace", "part"), ("BadProject", "part"), ("BadStanding", "part")], ?_, ?_⟩
    · refine ⟨.ref l, rfl, v, u, rfl, rfl, fun H2 t2 s2 p2 => ⟨v, u, rfl, rfl, fun H3 t3 s3 p3 => ⟨(show 2 ≤ sizeLine by decide), fun l4 n4 => ⟨l, l4, ts, _, rfl, rfl, (s2.trans (s3.trans (same_upd n4))) _ _ e1, upd_same, ?_, fun l5 n5 => ⟨l5, _, rfl, s1.trans (s2.trans (s3.trans ((same_upd n4).trans (same_upd n5)))), upd_same, ?_⟩⟩⟩⟩⟩
      · exact Nat.le_of_lt (small1000 (by rw [p1.length]; simp only [List.length_cons, List.length_nil]; omega))
      · exact (p1.mono (s2.trans (s3.trans ((same_upd n4).trans (same_upd n5))))).app (.cons (((p2.mono s3).mono (same_upd n4)).mono (same_upd n5)) (.cons ((p3.mono (same_upd n4)).mono (same_upd n5)) .nil))
    rintro σ' H1 ⟨l, ts, rfl, s1, e1, p1⟩
    refine ⟨fun σ' H' => ∃ l ts, σ' = [some v, some u, some (.ref l), none, none] ∧ Same H H' ∧ H' l = some (.lst ts) ∧ Pairs K H' v u ts [("BadBook", "part"), ("BadClause", "part"), ("BadFact", "part"), ("BadHistory", "part"), ("BadLiteral", "part"), ("BadLot", "part"), ("BadNeeds", "part"), ("BadPlace", "part"), ("BadProject", "part"), ("BadStanding", "part"), ("BadWeb", "part"), ("BadWish", "part")], ?_, ?_⟩
    · refine ⟨.ref l, rfl, v, u, rfl, rfl, fun H2 t2 s2 p2 => ⟨v, u, rfl, rfl, fun H3 t3 s3 p3 => ⟨(show 2 ≤ sizeLine by decide), fun l4 n4 => ⟨l, l4, ts, _, rfl, rfl, (s2.trans (s3.trans (same_upd n4))) _ _ e1, upd_same, ?_, fun l5 n5 => ⟨l5, _, rfl, s1.trans (s2.trans (s3.trans ((same_upd n4).trans (same_upd n5)))), upd_same, ?_⟩⟩⟩⟩⟩
      · exact Nat.le_of_lt (small1000 (by rw [p1.length]; simp only [List.length_cons, List.length_nil]; omega))
      · exact (p1.mono (s2.trans (s3.trans ((same_upd n4).trans (same_upd n5))))).app (.cons (((p2.mono s3).mono (same_upd n4)).mono (same_upd n5)) (.cons ((p3.mono (same_upd n4)).mono (same_upd n5)) .nil))
    rintro σ' H1 ⟨l, ts, rfl, s1, e1, p1⟩
    refine ⟨fun σ' H' => ∃ l ts, σ' = [some v, some u, some (.ref l), none, none] ∧ Same H H' ∧ H' l = some (.lst ts) ∧ Pairs K H' v u ts [("BadBook", "part"), ("BadClause", "part"), ("BadFact", "part"), ("BadHistory", "part"), ("BadLiteral", "part"), ("BadLot", "part"), ("BadNeeds", "part"), ("BadPlace", "part"), ("BadProject", "part"), ("BadStanding", "part"), ("BadWeb", "part"), ("BadWish", "part"), ("Unlike", "part")], ?_, ?_⟩
    · refine ⟨.ref l, rfl, v, u, rfl, rfl, fun H2 t2 s2 p2 => ⟨(show 1 ≤ sizeLine by decide), fun l4 n4 => ⟨l, l4, ts, _, rfl, rfl, (s2.trans (same_upd n4)) _ _ e1, upd_same, ?_, fun l5 n5 => ⟨l5, _, rfl, s1.trans (s2.trans ((same_upd n4).trans (same_upd n5))), upd_same, ?_⟩⟩⟩⟩
      · exact Nat.le_of_lt (small1000 (by rw [p1.length]; simp only [List.length_cons, List.length_nil]; omega))
      · exact (p1.mono (s2.trans ((same_upd n4).trans (same_upd n5)))).app (.cons ((p2.mono (same_upd n4)).mono (same_upd n5)) .nil)
    rintro σ' H1 ⟨l, ts, rfl, s1, e1, p1⟩
    refine ⟨.ref l, rfl, l, rfl, ⟨_, SqL.of e1⟩, fun D hD => lc_rows T (f := "part") (zs := [("BadBook", "part"), ("BadClause", "part"), ("BadFact", "part"), ("BadHistory", "part"), ("BadLiteral", "part"), ("BadLot", "part"), ("BadNeeds", "part"), ("BadPlace", "part"), ("BadProject", "part"), ("BadStanding", "part"), ("BadWeb", "part"), ("BadWish", "part"), ("Unlike", "part")]) (σ := [some v, some u, some (.ref l), none, none]) e1 p1 (by decide +kernel) (by decide) hD (fun _ _ => rfl) (fun _ _ => rfl) (fun _ _ => rfl) fun H2 s2 rs e2 r2 => ?_⟩
    exact q H2 D rs (s1.trans s2) e2 r2

/-! ### the errors with a value or an index -/
abbrev sValued : Stmt := top 39
theorem scValued : FnScope ["_law_one", "_law_two", "_law_found", "_law_rows", "_law_some_here", "_law_first", "_law_second"] ["_law_one", "_law_two"] (defScope sValued) := ⟨rfl, rfl, rfl, by decide +kernel, rfl, by decide +kernel, by decide +kernel⟩
theorem ok_valued {f : Addr} {fd : FuncData} (F : Fn K "_law_valued" sValued f fd) (T : Tx P w K mg base) : FnOk P w K mg base CX0 3 f fd ["_law_one", "_law_two"] (spRows K ["BadFix", "BadNumber", "BadPrice", "BadWay", "BadDeed", "Undone"]) := by
  refine F.ok scValued (fun vs H Q E h => ?_) (fun cdv A outer s H vs Q E hr h => ?_)
  · obtain ⟨v, u, rfl, _⟩ := h
    rfl
  · obtain ⟨v, u, rfl, q⟩ := h
    have hr2 : Room 2 _ := hr
    refine ⟨_, pss_mid (ps_set (i := 2) scValued.nd rfl (.inl rfl) (pe_lst (pa_cons (pe_pair (x := "BadFix") (f := "value") (T.er1 ("BadFix", "value") (by decide +kernel)) hr2 (by rfl) (pv 0) (pv 1)) (pa_cons (pe_pair (x := "BadNumber") (f := "value") (T.er1 ("BadNumber", "value") (by decide +kernel)) hr2 (by rfl) (pv 0) (pv 1)) (pa_cons (pe_pair (x := "BadPrice") (f := "value") (T.er1 ("BadPrice", "value") (by decide +kernel)) hr2 (by rfl) (pv 0) (pv 1)) (pa_cons (pe_pair (x := "BadWay") (f := "value") (T.er1 ("BadWay", "value") (by decide +kernel)) hr2 (by rfl) (pv 0) (pv 1)) pa_nil))))))
      (pss_mid (ps_setLc (i := 3) (own := [("_law_first", 5), ("_law_second", 6)]) (g := gTup K 2 (gCons (gName 5) (gCons (gName 6) gNil))) (tt := tYes) (te := tRow K "value" 5 6) rfl scValued.nd rfl rfl (sw_true rfl rfl rfl (by decide +kernel)) (pi_list (pv 2)) (blkOk_by (N := ["_law_one", "_law_two", "_law_found", "_law_rows", "_law_some_here", "_law_first", "_law_second"]) (sc := defScope sValued) (by decide +kernel)) (fun _ _ _ _ _ => pg_tup rfl (pgs_cons (pg_name (i := 5) scValued.nd rfl (Or.inl rfl)) (pgs_cons (pg_name (i := 6) scValued.nd rfl (Or.inl rfl)) pgs_nil))) (fun _ _ _ _ _ => pts_nil) (fun _ _ _ _ _ => pe_tup (pa_cons (pv 5) (pa_cons (pe_xat (pv 5)) (pa_cons (pv 6) (pa_cons (pe_xat (pv 6)) pa_nil))))))
      (pss_mid (ps_set (i := 4) scValued.nd rfl (.inl rfl) (pe_lst (pa_cons (pe_pair (x := "BadDeed") (f := "at") (T.er1 ("BadDeed", "at") (by decide +kernel)) hr2 (by rfl) (pv 0) (pv 1)) (pa_cons (pe_pair (x := "Undone") (f := "at") (T.er1 ("Undone", "at") (by decide +kernel)) hr2 (by rfl) (pv 0) (pv 1)) pa_nil))))
      (pss_one (ps_ret (pe_op op_cat (pv 3) (pe_lc (own := [("_law_first", 5), ("_law_second", 6)]) (g := gTup K 2 (gCons (gName 5) (gCons (gName 6) gNil))) (tt := tYes) (te := tRow K "at" 5 6) rfl scValued.nd (pi_list (pv 4)) (blkOk_by (N := ["_law_one", "_law_two", "_law_found", "_law_rows", "_law_some_here", "_law_first", "_law_second"]) (sc := defScope sValued) (by decide +kernel)) (fun _ _ _ _ _ => pg_tup rfl (pgs_cons (pg_name (i := 5) scValued.nd rfl (Or.inl rfl)) (pgs_cons (pg_name (i := 6) scValued.nd rfl (Or.inl rfl)) pgs_nil))) (fun _ _ _ _ _ => pts_nil) (fun _ _ _ _ _ => pe_tup (pa_cons (pv 5) (pa_cons (pe_xat (pv 5)) (pa_cons (pv 6) (pa_cons (pe_xat (pv 6)) pa_nil))))))))))), ?_⟩
    refine ⟨fun σ' H' => ∃ l ts, σ' = [some v, some u, some (.ref l), none, none, none, none] ∧ Same H H' ∧ H' l = some (.lst ts) ∧ Pairs K H' v u ts [("BadFix", "value"), ("BadNumber", "value"), ("BadPrice", "value"), ("BadWay", "value")], ?_, ?_⟩
    · exact ⟨v, u, rfl, rfl, fun H2 t2 s2 p2 => ⟨v, u, rfl, rfl, fun H3 t3 s3 p3 => ⟨v, u, rfl, rfl, fun H4 t4 s4 p4 => ⟨v, u, rfl, rfl, fun H5 t5 s5 p5 => ⟨(show 4 ≤ sizeLine by decide), fun l nl => ⟨l, _, rfl, (s2.trans (s3.trans (s4.trans (s5.trans (same_upd nl))))), upd_same, .cons ((((p2.mono s3).mono s4).mono s5).mono (same_upd nl)) (.cons (((p3.mono s4).mono s5).mono (same_upd nl)) (.cons ((p4.mono s5).mono (same_upd nl)) (.cons (p5.mono (same_upd nl)) .nil)))⟩⟩⟩⟩⟩⟩
    rintro σ' H1 ⟨l, ts, rfl, s1, e1, p1⟩
    refine ⟨fun σ' H' => ∃ m rs, σ' = [some v, some u, some (.ref l), some (.ref m), none, none, none] ∧ Same H H' ∧ H' m = some (.lst rs) ∧ Rows K H' v u rs ["BadFix", "BadNumber", "BadPrice", "BadWay"], ?_, ?_⟩
    · refine ⟨.ref l, rfl, l, rfl, ⟨_, SqL.of e1⟩, fun D hD => lc_rows T (f := "value") (zs := [("BadFix", "value"), ("BadNumber", "value"), ("BadPrice", "value"), ("BadWay", "value")]) (σ := [some v, some u, some (.ref l), none, none, none, none]) e1 p1 (by decide +kernel) (by decide) hD (fun _ _ => rfl) (fun _ _ => rfl) (fun _ _ => rfl) fun H2 s2 rs e2 r2 => ?_⟩
      exact ⟨D, rs, rfl, s1.trans s2, e2, r2⟩
    rintro σ' H2 ⟨m, rs, rfl, s2, e2, r2⟩
    refine ⟨fun σ' H' => ∃ k ts, σ' = [some v, some u, some (.ref l), some (.ref m), some (.ref k), none, none] ∧ Same H2 H' ∧ H' k = some (.lst ts) ∧ Pairs K H' v u ts [("BadDeed", "at"), ("Undone", "at")], ?_, ?_⟩
    · exact ⟨v, u, rfl, rfl, fun H3 t3 s3 p3 => ⟨v, u, rfl, rfl, fun H4 t4 s4 p4 => ⟨(show 2 ≤ sizeLine by decide), fun k nk => ⟨k, _, rfl, s3.trans (s4.trans (same_upd nk)), upd_same, .cons ((p3.mono s4).mono (same_upd nk)) (.cons (p4.mono (same_upd nk)) .nil)⟩⟩⟩⟩
    rintro σ' H3 ⟨k, ks, rfl, s3, e3, p3⟩
    refine ⟨.ref m, rfl, .ref k, rfl, k, rfl, ⟨_, SqL.of e3⟩, fun D hD => lc_rows T (f := "at") (zs := [("BadDeed", "at"), ("Undone", "at")]) (σ := [some v, some u, some (.ref l), some (.ref m), some (.ref k), none, none]) e3 p3 (by decide +kernel) (by decide) hD (fun _ _ => rfl) (fun _ _ => rfl) (fun _ _ => rfl) fun H4 s4 rs4 e4 r4 => ?_⟩
    refine ⟨m, D, rs, rs4, rfl, rfl, s4 _ _ (s3 _ _ e2), e4, ?_, fun z nz => ?_⟩
    · exact Nat.le_of_lt (small1000 (by rw [r2.length, r4.length]; simp only [List.length_cons, List.length_nil, List.length_map]; omega))
    · exact q _ z _ (s2.trans (s3.trans (s4.trans (same_upd nz)))) upd_same (((r2.mono (s3.trans s4)).mono (same_upd nz)).app (r4.mono (same_upd nz)))

end
end Law
set_option Elab.async false
set_option linter.all false
set_option maxRecDepth 100000
set_option maxHeartbeats 4000000
namespace Law
open PySem PySem.Spec PyProof.Rows L2
section
variable {P : Program} {w : World} {K : PySem.W.Frag} {mg : Str → Option Value} {base : Heap}
/-! ### the errors with another field -/
abbrev sNamed : Stmt := top 40
theorem scNamed : FnScope ["_law_one", "_law_two", "_law_day", "_law_later", "_law_line", "_law_next_line", "_law_found", "_law_fix", "_law_more", "_law_ring", "_law_round_so", "_law_release", "_law_last", "_law_word", "_law_next_word", "_law_barred", "_law_again"] ["_law_one", "_law_two"] (defScope sNamed) := ⟨rfl, rfl, rfl, by decide +kernel, rfl, by decide +kernel, by decide +kernel⟩
/-- a row of two errors and their fields -/
def tRowV (K : PySem.W.Frag) (z : Str × Str) (i j : Nat) : TE := fun σ H Q => ∃ a b v u, σ[i]? = some (some (.ref a)) ∧ σ[j]? = some (some (.ref b)) ∧ ErrAt H a (ca K z.1) [(z.2, v)] ∧ ErrAt H b (ca K z.1) [(z.2, u)] ∧ ∀ H' t, Same H H' → Row K H' v u t z.1 → Q (.ref t) H'
theorem pe_row {X : Cx} {x f : Str} {i j : Nat} {e1 e2 e3 e4 : Expr} {p2 p4 pos : Pos} {x1 : Nat} (Z : Er1 P w X.K mg base x f (ca X.K x)) (h1 : PE X e1 (tVar i)) (h2 : PE X e2 (tVar i)) (h3 : PE X e3 (tVar j)) (h4 : PE X e4 (tVar j))
    (hb2 : attributeBase e2 f X.env (eval e2 X.env) = eval e2 X.env := by rfl) (hb4 : attributeBase e4 f X.env (eval e4 X.env) = eval e4 X.env := by rfl)
    (s1 : starEach [e1, .Attribute e2 f p2, e3, .Attribute e4 f p4] X.env = (false, eval e1 X.env) :: starEach [.Attribute e2 f p2, e3, .Attribute e4 f p4] X.env := by rfl)
    (s3 : starEach [e3, .Attribute e4 f p4] X.env = (false, eval e3 X.env) :: starEach [.Attribute e4 f p4] X.env := by rfl) :
    PE X (.Tuple [e1, .Attribute e2 f p2, e3, .Attribute e4 f p4] x1 pos) (tRowV X.K (x, f) i j) :=
  (pe_tup (pa_cons h1 (pa_cons (pe_xat h2 hb2) (pa_cons h3 (pa_cons (pe_xat h4 hb4) pa_nil) s3)) s1)).imp fun σ H Q ⟨a, b, v, u, hi, hj, ea, eb, q⟩ => by
    have lk : ∀ y : V, List.lookup f [(f, y)] = some y := fun y => by simp [List.lookup]
    exact ⟨.ref a, hi, .ref a, hi, a, _, _, v, rfl, ea, Z.xf, Z.no, lk _, .ref b, hj, .ref b, hj, b, _, _, u, rfl, eb, Z.xf, Z.no, lk _, (show 4 ≤ sizeLine by decide), fun t nt =>
      q _ t (same_upd nt) ⟨a, b, upd_same, ea.isX.mono (same_upd nt), eb.isX.mono (same_upd nt)⟩⟩
theorem ok_named {f : Addr} {fd : FuncData} (F : Fn K "_law_named" sNamed f fd) (T : Tx P w K mg base) : FnOk P w K mg base CX0 3 f fd ["_law_one", "_law_two"] (spRows K ["NoDay", "NoLine", "NoFix", "Ring", "NoRelease", "BadLine", "Barred"]) := by
  refine F.ok scNamed (fun vs H Q E h => ?_) (fun cdv A outer s H vs Q E hr h => ?_)
  · obtain ⟨v, u, rfl, _⟩ := h
    rfl
  · obtain ⟨v, u, rfl, q⟩ := h
    have hr2 : Room 2 _ := hr
    refine ⟨_, pss_mid (ps_asg (pe_tup (pa_cons (pe_er1 (x := "NoDay") (f := "day") (T.er1 ("NoDay", "day") (by decide +kernel)) hr2 (by rfl) (pv 0)) (pa_cons (pe_er1k (x := "NoDay") (f := "day") (T.er1 ("NoDay", "day") (by decide +kernel)) hr2 (by rfl) (pv 1)) (pa_cons (pe_er1 (x := "NoLine") (f := "line") (T.er1 ("NoLine", "line") (by decide +kernel)) hr2 (by rfl) (pv 0)) (pa_cons (pe_er1k (x := "NoLine") (f := "line") (T.er1 ("NoLine", "line") (by decide +kernel)) hr2 (by rfl) (pv 1)) pa_nil))))) (pg_tup rfl (pgs_cons (pg_name (i := 2) scNamed.nd rfl (.inl rfl)) (pgs_cons (pg_name (i := 3) scNamed.nd rfl (.inl rfl)) (pgs_cons (pg_name (i := 4) scNamed.nd rfl (.inl rfl)) (pgs_cons (pg_name (i := 5) scNamed.nd rfl (.inl rfl)) pgs_nil))))))
      (pss_mid (ps_set (i := 6) scNamed.nd rfl (.inl rfl) (pe_lst (pa_cons (pe_row (x := "NoDay") (f := "day") (T.er1 ("NoDay", "day") (by decide +kernel)) (pv 2) (pv 2) (pv 3) (pv 3)) (pa_cons (pe_row (x := "NoLine") (f := "line") (T.er1 ("NoLine", "line") (by decide +kernel)) (pv 4) (pv 4) (pv 5) (pv 5)) pa_nil))))
      (pss_mid (ps_asg (pe_tup (pa_cons (pe_er1 (x := "NoFix") (f := "fix") (T.er1 ("NoFix", "fix") (by decide +kernel)) hr2 (by rfl) (pv 0)) (pa_cons (pe_er1k (x := "NoFix") (f := "fix") (T.er1 ("NoFix", "fix") (by decide +kernel)) hr2 (by rfl) (pv 1)) (pa_cons (pe_er1 (x := "Ring") (f := "fix") (T.er1 ("Ring", "fix") (by decide +kernel)) hr2 (by rfl) (pv 0)) (pa_cons (pe_er1k (x := "Ring") (f := "fix") (T.er1 ("Ring", "fix") (by decide +kernel)) hr2 (by rfl) (pv 1)) pa_nil))))) (pg_tup rfl (pgs_cons (pg_name (i := 7) scNamed.nd rfl (.inl rfl)) (pgs_cons (pg_name (i := 8) scNamed.nd rfl (.inl rfl)) (pgs_cons (pg_name (i := 9) scNamed.nd rfl (.inl rfl)) (pgs_cons (pg_name (i := 10) scNamed.nd rfl (.inl rfl)) pgs_nil))))))
      (pss_mid (ps_set (i := 6) scNamed.nd rfl (.inl rfl) (pe_op op_cat (pv 6) (pe_lst (pa_cons (pe_row (x := "NoFix") (f := "fix") (T.er1 ("NoFix", "fix") (by decide +kernel)) (pv 7) (pv 7) (pv 8) (pv 8)) (pa_cons (pe_row (x := "Ring") (f := "fix") (T.er1 ("Ring", "fix") (by decide +kernel)) (pv 9) (pv 9) (pv 10) (pv 10)) pa_nil)))))
      (pss_mid (ps_asg (pe_tup (pa_cons (pe_er1 (x := "NoRelease") (f := "number") (T.er1 ("NoRelease", "number") (by decide +kernel)) hr2 (by rfl) (pv 0)) (pa_cons (pe_er1k (x := "NoRelease") (f := "number") (T.er1 ("NoRelease", "number") (by decide +kernel)) hr2 (by rfl) (pv 1)) (pa_cons (pe_er1 (x := "BadLine") (f := "word") (T.er1 ("BadLine", "word") (by decide +kernel)) hr2 (by rfl) (pv 0)) (pa_cons (pe_er1k (x := "BadLine") (f := "word") (T.er1 ("BadLine", "word") (by decide +kernel)) hr2 (by rfl) (pv 1)) pa_nil))))) (pg_tup rfl (pgs_cons (pg_name (i := 11) scNamed.nd rfl (.inl rfl)) (pgs_cons (pg_name (i := 12) scNamed.nd rfl (.inl rfl)) (pgs_cons (pg_name (i := 13) scNamed.nd rfl (.inl rfl)) (pgs_cons (pg_name (i := 14) scNamed.nd rfl (.inl rfl)) pgs_nil))))))
      (pss_mid (ps_set (i := 6) scNamed.nd rfl (.inl rfl) (pe_op op_cat (pv 6) (pe_lst (pa_cons (pe_row (x := "NoRelease") (f := "number") (T.er1 ("NoRelease", "number") (by decide +kernel)) (pv 11) (pv 11) (pv 12) (pv 12)) (pa_cons (pe_row (x := "BadLine") (f := "word") (T.er1 ("BadLine", "word") (by decide +kernel)) (pv 13) (pv 13) (pv 14) (pv 14)) pa_nil)))))
      (pss_mid (ps_par (i := 15) (j := 16) (by rfl) scNamed.nd rfl rfl (by decide) rfl rfl (pa_cons (pe_er1 (x := "Barred") (f := "clause") (T.er1 ("Barred", "clause") (by decide +kernel)) hr2 (by rfl) (pv 0)) (pa_cons (pe_er1k (x := "Barred") (f := "clause") (T.er1 ("Barred", "clause") (by decide +kernel)) hr2 (by rfl) (pv 1)) pa_nil)) (by rfl))
      (pss_one (ps_ret (pe_op op_cat (pv 6) (pe_lst (pa_cons (pe_row (x := "Barred") (f := "clause") (T.er1 ("Barred", "clause") (by decide +kernel)) (pv 15) (pv 15) (pv 16) (pv 16)) pa_nil))))))))))), ?_⟩
    refine ⟨fun σ' H' => ∃ a b c d, σ' = [some v, some u, some (.ref a), some (.ref b), some (.ref c), some (.ref d), none, none, none, none, none, none, none, none, none, none, none] ∧ Same H H' ∧ ErrAt H' a (ca K "NoDay") [("day", v)] ∧ ErrAt H' b (ca K "NoDay") [("day", u)] ∧ ErrAt H' c (ca K "NoLine") [("line", v)] ∧ ErrAt H' d (ca K "NoLine") [("line", u)], ?_, ?_⟩
    · exact ⟨v, rfl, fun H2 a s2 na ea => ⟨u, rfl, fun H3 b s3 nb eb => ⟨v, rfl, fun H4 c s4 nc ec => ⟨u, rfl, fun H5 d s5 nd' ed => ⟨(show 4 ≤ sizeLine by decide), fun t nt => ⟨t, _, rfl, SqT.of upd_same, rfl, _, _, rfl, _, _, rfl, _, _, rfl, _, _, rfl, rfl, ⟨a, b, c, d, rfl, (s2.trans (s3.trans (s4.trans (s5.trans (same_upd nt))))), ((ea.mono s3).mono s4).mono (s5.trans (same_upd nt)), (eb.mono s4).mono (s5.trans (same_upd nt)), ec.mono (s5.trans (same_upd nt)), ed.mono (same_upd nt)⟩⟩⟩⟩⟩⟩⟩
    rintro σ' H6 ⟨a, b, c, d, rfl, s6, ea, eb, ec, ed⟩
    refine ⟨fun σ' H' => ∃ l rs, σ' = [some v, some u, some (.ref a), some (.ref b), some (.ref c), some (.ref d), some (.ref l), none, none, none, none, none, none, none, none, none, none] ∧ Same H H' ∧ H' l = some (.lst rs) ∧ Rows K H' v u rs ["NoDay", "NoLine"], ?_, ?_⟩
    · refine ⟨a, b, v, u, rfl, rfl, ea, eb, fun H7 t7 s7 r7 => ⟨c, d, v, u, rfl, rfl, ec.mono s7, ed.mono s7, fun H8 t8 s8 r8 => ⟨(show 2 ≤ sizeLine by decide), fun l8 n8 => ?_⟩⟩⟩
      exact ⟨l8, _, rfl, s6.trans (s7.trans (s8.trans (same_upd n8))), upd_same, .cons ((r7.mono s8).mono (same_upd n8)) (.cons (r8.mono (same_upd n8)) .nil)⟩
    rintro σ' H1 ⟨l, rs, rfl, s1, e1, r1⟩
    clear ea eb ec ed
    obtain ⟨a0, ha0⟩ : ∃ x, x = a := ⟨_, rfl⟩; obtain ⟨b0, hb0⟩ : ∃ x, x = b := ⟨_, rfl⟩; obtain ⟨c0, hc0⟩ : ∃ x, x = c := ⟨_, rfl⟩; obtain ⟨d0, hd0⟩ : ∃ x, x = d := ⟨_, rfl⟩
    rw [← ha0, ← hb0, ← hc0, ← hd0]
    refine ⟨fun σ' H' => ∃ a b c d, σ' = [some v, some u, some (.ref a0), some (.ref b0), some (.ref c0), some (.ref d0), some (.ref l), some (.ref a), some (.ref b), some (.ref c), some (.ref d), none, none, none, none, none, none] ∧ Same H H' ∧ ErrAt H' a (ca K "NoFix") [("fix", v)] ∧ ErrAt H' b (ca K "NoFix") [("fix", u)] ∧ ErrAt H' c (ca K "Ring") [("fix", v)] ∧ ErrAt H' d (ca K "Ring") [("fix", u)] ∧ H' l = some (.lst rs) ∧ Rows K H' v u rs ["NoDay", "NoLine"], ?_, ?_⟩
    · exact ⟨v, rfl, fun H2 a s2 na ea => ⟨u, rfl, fun H3 b s3 nb eb => ⟨v, rfl, fun H4 c s4 nc ec => ⟨u, rfl, fun H5 d s5 nd' ed => ⟨(show 4 ≤ sizeLine by decide), fun t nt => ⟨t, _, rfl, SqT.of upd_same, rfl, _, _, rfl, _, _, rfl, _, _, rfl, _, _, rfl, rfl, ⟨a, b, c, d, rfl, (s1.trans (s2.trans (s3.trans (s4.trans (s5.trans (same_upd nt)))))), ((ea.mono s3).mono s4).mono (s5.trans (same_upd nt)), (eb.mono s4).mono (s5.trans (same_upd nt)), ec.mono (s5.trans (same_upd nt)), ed.mono (same_upd nt), (s2.trans (s3.trans (s4.trans (s5.trans (same_upd nt))))) _ _ e1, r1.mono (s2.trans (s3.trans (s4.trans (s5.trans (same_upd nt)))))⟩⟩⟩⟩⟩⟩⟩
    rintro σ' H6 ⟨a, b, c, d, rfl, s6, ea, eb, ec, ed, e1, r1⟩
    refine ⟨fun σ' H' => ∃ l rs, σ' = [some v, some u, some (.ref a0), some (.ref b0), some (.ref c0), some (.ref d0), some (.ref l), some (.ref a), some (.ref b), some (.ref c), some (.ref d), none, none, none, none, none, none] ∧ Same H H' ∧ H' l = some (.lst rs) ∧ Rows K H' v u rs ["NoDay", "NoLine", "NoFix", "Ring"], ?_, ?_⟩
    · refine ⟨.ref l, rfl, ?_⟩
      refine ⟨a, b, v, u, rfl, rfl, ea, eb, fun H7 t7 s7 r7 => ⟨c, d, v, u, rfl, rfl, ec.mono s7, ed.mono s7, fun H8 t8 s8 r8 => ⟨(show 2 ≤ sizeLine by decide), fun l8 n8 => ?_⟩⟩⟩
      refine ⟨l, l8, rs, _, rfl, rfl, (s7.trans (s8.trans (same_upd n8))) _ _ e1, upd_same, ?_, fun l9 n9 => ⟨l9, _, rfl, s6.trans (s7.trans (s8.trans ((same_upd n8).trans (same_upd n9)))), upd_same, ?_⟩⟩
      · exact Nat.le_of_lt (small1000 (by rw [r1.length]; simp only [List.length_cons, List.length_nil]; omega))
      · exact (r1.mono (s7.trans (s8.trans ((same_upd n8).trans (same_upd n9))))).app (.cons ((r7.mono s8).mono ((same_upd n8).trans (same_upd n9))) (.cons (r8.mono ((same_upd n8).trans (same_upd n9))) .nil))
    rintro σ' H1 ⟨l, rs, rfl, s1, e1, r1⟩
    clear ea eb ec ed
    obtain ⟨a1, ha1⟩ : ∃ x, x = a := ⟨_, rfl⟩; obtain ⟨b1, hb1⟩ : ∃ x, x = b := ⟨_, rfl⟩; obtain ⟨c1, hc1⟩ : ∃ x, x = c := ⟨_, rfl⟩; obtain ⟨d1, hd1⟩ : ∃ x, x = d := ⟨_, rfl⟩
    rw [← ha1, ← hb1, ← hc1, ← hd1]
    refine ⟨fun σ' H' => ∃ a b c d, σ' = [some v, some u, some (.ref a0), some (.ref b0), some (.ref c0), some (.ref d0), some (.ref l), some (.ref a1), some (.ref b1), some (.ref c1), some (.ref d1), some (.ref a), some (.ref b), some (.ref c), some (.ref d), none, none] ∧ Same H H' ∧ ErrAt H' a (ca K "NoRelease") [("number", v)] ∧ ErrAt H' b (ca K "NoRelease") [("number", u)] ∧ ErrAt H' c (ca K "BadLine") [("word", v)] ∧ ErrAt H' d (ca K "BadLine") [("word", u)] ∧ H' l = some (.lst rs) ∧ Rows K H' v u rs ["NoDay", "NoLine", "NoFix", "Ring"], ?_, ?_⟩
    · exact ⟨v, rfl, fun H2 a s2 na ea => ⟨u, rfl, fun H3 b s3 nb eb => ⟨v, rfl, fun H4 c s4 nc ec => ⟨u, rfl, fun H5 d s5 nd' ed => ⟨(show 4 ≤ sizeLine by decide), fun t nt => ⟨t, _, rfl, SqT.of upd_same, rfl, _, _, rfl, _, _, rfl, _, _, rfl, _, _, rfl, rfl, ⟨a, b, c, d, rfl, (s1.trans (s2.trans (s3.trans (s4.trans (s5.trans (same_upd nt)))))), ((ea.mono s3).mono s4).mono (s5.trans (same_upd nt)), (eb.mono s4).mono (s5.trans (same_upd nt)), ec.mono (s5.trans (same_upd nt)), ed.mono (same_upd nt), (s2.trans (s3.trans (s4.trans (s5.trans (same_upd nt))))) _ _ e1, r1.mono (s2.trans (s3.trans (s4.trans (s5.trans (same_upd nt)))))⟩⟩⟩⟩⟩⟩⟩
    rintro σ' H6 ⟨a, b, c, d, rfl, s6, ea, eb, ec, ed, e1, r1⟩
    refine ⟨fun σ' H' => ∃ l rs, σ' = [some v, some u, some (.ref a0), some (.ref b0), some (.ref c0), some (.ref d0), some (.ref l), some (.ref a1), some (.ref b1), some (.ref c1), some (.ref d1), some (.ref a), some (.ref b), some (.ref c), some (.ref d), none, none] ∧ Same H H' ∧ H' l = some (.lst rs) ∧ Rows K H' v u rs ["NoDay", "NoLine", "NoFix", "Ring", "NoRelease", "BadLine"], ?_, ?_⟩
    · refine ⟨.ref l, rfl, ?_⟩
      refine ⟨a, b, v, u, rfl, rfl, ea, eb, fun H7 t7 s7 r7 => ⟨c, d, v, u, rfl, rfl, ec.mono s7, ed.mono s7, fun H8 t8 s8 r8 => ⟨(show 2 ≤ sizeLine by decide), fun l8 n8 => ?_⟩⟩⟩
      refine ⟨l, l8, rs, _, rfl, rfl, (s7.trans (s8.trans (same_upd n8))) _ _ e1, upd_same, ?_, fun l9 n9 => ⟨l9, _, rfl, s6.trans (s7.trans (s8.trans ((same_upd n8).trans (same_upd n9)))), upd_same, ?_⟩⟩
      · exact Nat.le_of_lt (small1000 (by rw [r1.length]; simp only [List.length_cons, List.length_nil]; omega))
      · exact (r1.mono (s7.trans (s8.trans ((same_upd n8).trans (same_upd n9))))).app (.cons ((r7.mono s8).mono ((same_upd n8).trans (same_upd n9))) (.cons (r8.mono ((same_upd n8).trans (same_upd n9))) .nil))
    rintro σ' H1 ⟨l, rs, rfl, s1, e1, r1⟩
    clear ea eb ec ed
    obtain ⟨a2, ha2⟩ : ∃ x, x = a := ⟨_, rfl⟩; obtain ⟨b2, hb2⟩ : ∃ x, x = b := ⟨_, rfl⟩; obtain ⟨c2, hc2⟩ : ∃ x, x = c := ⟨_, rfl⟩; obtain ⟨d2, hd2⟩ : ∃ x, x = d := ⟨_, rfl⟩
    rw [← ha2, ← hb2, ← hc2, ← hd2]
    refine ⟨fun σ' H' => ∃ a b, σ' = [some v, some u, some (.ref a0), some (.ref b0), some (.ref c0), some (.ref d0), some (.ref l), some (.ref a1), some (.ref b1), some (.ref c1), some (.ref d1), some (.ref a2), some (.ref b2), some (.ref c2), some (.ref d2), some (.ref a), some (.ref b)] ∧ Same H1 H' ∧ ErrAt H' a (ca K "Barred") [("clause", v)] ∧ ErrAt H' b (ca K "Barred") [("clause", u)], ?_, ?_⟩
    · exact ⟨v, rfl, fun H2 a s2 na ea => ⟨u, rfl, fun H3 b s3 nb eb => ⟨_, _, rfl, a, b, rfl, s2.trans s3, ea.mono s3, eb⟩⟩⟩
    rintro σ' H6 ⟨a, b, rfl, s6, ea, eb⟩
    refine ⟨.ref l, rfl, a, b, v, u, rfl, rfl, ea, eb, fun H7 t7 s7 r7 => ⟨(show 1 ≤ sizeLine by decide), fun l8 n8 => ?_⟩⟩
    refine ⟨l, l8, rs, _, rfl, rfl, (s6.trans (s7.trans (same_upd n8))) _ _ e1, upd_same, ?_, fun l9 n9 => q _ l9 _ (s1.trans (s6.trans (s7.trans ((same_upd n8).trans (same_upd n9))))) upd_same ?_⟩
    · exact Nat.le_of_lt (small1000 (by rw [r1.length]; simp only [List.length_cons, List.length_nil]; omega))
    · exact (r1.mono (s6.trans (s7.trans ((same_upd n8).trans (same_upd n9))))).app (.cons (r7.mono ((same_upd n8).trans (same_upd n9))) .nil)
end
end Law
set_option Elab.async false
set_option linter.all false
set_option maxRecDepth 100000
set_option maxHeartbeats 4000000
namespace Law
open PySem PySem.Spec PyProof.Rows L2
section
variable {P : Program} {w : World} {K : PySem.W.Frag} {mg : Str → Option Value} {base : Heap}
/-! ### errors with two fields, and without any -/
abbrev sTwo : Stmt := top 43
theorem scTwo : FnScope ["_law_one", "_law_two", "_law_texts", "_law_most", "_law_told", "_law_some_here", "_law_error"] ["_law_one", "_law_two"] (defScope sTwo) := ⟨rfl, rfl, rfl, by decide +kernel, rfl, by decide +kernel, by decide +kernel⟩
def four (d e : PyData) : PyData := .list [.list [d, e], .list [d, e], .list [d, e], .list [d, e]]
theorem menu_ok : ∀ d ∈ menu, d.leavesShort 50 = true ∧ d.weight ≤ 300 ∧ d.showable = true ∧ d.depth ≤ 9 := by decide +kernel
theorem shown_small {d : PyData} (h : d.leavesShort 50 = true) (hw : d.weight ≤ 100000) : d.shown.length ≤ sizeLine := by
  have h1 := PyData.shown_le 50 (by decide) d h
  rw [sizeLine_eq]
  omega
theorem two_ok {d e : PyData} (hd : d ∈ menu) (he : e ∈ menu) : (PyData.list [d, e]).showable = true ∧ (PyData.list [d, e]).depth ≤ 30 ∧ (PyData.list [d, e]).shown.length ≤ sizeLine := by
  obtain ⟨a1, a2, a3, a4⟩ := menu_ok d hd
  obtain ⟨b1, b2, b3, b4⟩ := menu_ok e he
  refine ⟨?_, ?_, shown_small ?_ ?_⟩
  · simp [PyData.showable, PyData.showableAll, a3, b3]
  · simp only [PyData.depth, PyData.depthAll]; omega
  · simp [PyData.leavesShort, PyData.leavesShortAll, a1, b1]
  · simp only [PyData.weight, PyData.weightAll]; omega
theorem four_ok {d e : PyData} (hd : d ∈ menu) (he : e ∈ menu) : (four d e).showable = true ∧ (four d e).depth ≤ 30 ∧ (four d e).shown.length ≤ sizeLine := by
  obtain ⟨a1, a2, a3, a4⟩ := menu_ok d hd
  obtain ⟨b1, b2, b3, b4⟩ := menu_ok e he
  unfold four
  refine ⟨?_, ?_, shown_small ?_ ?_⟩
  · simp [PyData.showable, PyData.showableAll, a3, b3]
  · simp only [PyData.depth, PyData.depthAll]; omega
  · simp [PyData.leavesShort, PyData.leavesShortAll, a1, b1]
  · simp only [PyData.weight, PyData.weightAll]; omega
def spTwo (K : PySem.W.Frag) : Sp := fun vs H Q _ => ∃ v u d e, vs = [v, u] ∧ d ∈ menu ∧ e ∈ menu ∧ Dq K H v d ∧ Dq K H u e ∧ ∀ H', Same H H' → Q (.bl true) H'
/-- [error.f, error.g] -/
def tTwo (K : PySem.W.Frag) (f g : Str) (i : Nat) : TE := tLst (tCons (tXat K f (tVar i)) (tCons (tXat K g (tVar i)) tNil))
theorem lc_two (T : Tx P w K mg base) {z : Str × Str × Str} (hz : z ∈ twos) {i : Nat} {l D a b : Addr} {H1 : Hp} {v u : V} {σ : L2.St} {Qd : Hp → Prop} (hl : H1 l = some (.lst [.ref a, .ref b])) (ha : ErrAt H1 a (ca K z.1) [(z.2.2, u), (z.2.1, v)]) (hb : ErrAt H1 b (ca K z.1) [(z.2.2, u), (z.2.1, v)]) (hD : H1 D = none) (hne : z.2.1 ≠ z.2.2)
    (hw : ∀ x : Option V, wipe ((wipe σ [i]).set i x) [i] = wipe σ [i]) (hi : ∀ x : Option V, ((wipe σ [i]).set i x)[i]? = some x)
    (q : ∀ H2 t1 t2, Same H1 H2 → H2 D = some (.lst [.ref t1, .ref t2]) → H2 t1 = some (.lst [v, u]) → H2 t2 = some (.lst [v, u]) → Qd H2) :
    ∃ W : Nat → Nat → Hp → Prop, (∃ m, W 0 m (upd H1 D (.lst []))) ∧ ∀ k m H, W k m H →
      ((Itl K l).stop k H ∧ Qd H) ∨ ((Itl K l).go k H ∧ ∃ Nx : Hp → Prop, (∀ H', Nx H' → ∃ m', m' < m ∧ W (k + 1) m' H') ∧ ∀ x H', (Itl K l).yld k H x H' → gName i x (wipe σ [i]) H' fun σ2 H2 => wipe σ2 [i] = wipe σ [i] ∧ tYes σ2 H2 fun c H3 =>
        if c = true then tTwo K z.2.1 z.2.2 i σ2 H3 fun y H4 => ∃ acc, H4 D = some (.lst acc) ∧ acc.length < sizeLine ∧ Nx (upd H4 D (.lst (acc ++ [y]))) else Nx H3) := by
  have Z := T.er2 z hz
  have lk1 : List.lookup z.2.1 [(z.2.2, u), (z.2.1, v)] = some v := by
    have h : (z.2.1 == z.2.2) = false := by simpa using hne
    simp [List.lookup, h]
  have lk2 : List.lookup z.2.2 [(z.2.2, u), (z.2.1, v)] = some u := by simp [List.lookup]
  -- a turn, whichever error it is
  have turn : ∀ {e : Addr} {H2 : Hp} {acc : List V} {R : Hp → Prop}, ErrAt H1 e (ca K z.1) [(z.2.2, u), (z.2.1, v)] → Same H1 H2 → H2 D = some (.lst acc) → acc.length ≤ 10 →
      (∀ t, H2 t = none → t ≠ D → R (upd (upd H2 t (.lst [v, u])) D (.lst (acc ++ [.ref t])))) →
      gName i (.ref e) (wipe σ [i]) H2 fun σ2 H3 => wipe σ2 [i] = wipe σ [i] ∧ tYes σ2 H3 fun c H4 =>
        if c = true then tTwo K z.2.1 z.2.2 i σ2 H4 fun y H5 => ∃ acc, H5 D = some (.lst acc) ∧ acc.length < sizeLine ∧ R (upd H5 D (.lst (acc ++ [y]))) else R H4 := by
    intro e H2 acc R he s2 e2 hacc hR
    refine ⟨hw _, ?_⟩
    refine ⟨.ref e, hi _, e, ca K z.1, _, v, rfl, he.mono s2, Z.xf, Z.no, lk1, .ref e, hi _, e, ca K z.1, _, u, rfl, he.mono s2, Z.xf, Z.no2, lk2, (show 2 ≤ sizeLine by decide), fun t nt => ?_⟩
    have ht : t ≠ D := fun z => by rw [z, e2] at nt; cases nt
    exact ⟨acc, (same_upd nt) _ _ e2, small1000 (by omega), hR t nt ht⟩
  refine lc_list (K := K) (a := l) (xs := [.ref a, .ref b]) (fun k H2 => Same H1 H2 ∧ match k with
    | 0 => H2 D = some (.lst [])
    | 1 => ∃ t1, t1 ≠ D ∧ H2 D = some (.lst [.ref t1]) ∧ H2 t1 = some (.lst [v, u])
    | _ => ∃ t1 t2, H2 D = some (.lst [.ref t1, .ref t2]) ∧ H2 t1 = some (.lst [v, u]) ∧ H2 t2 = some (.lst [v, u])) ⟨same_upd hD, upd_same⟩ (fun k H2 _ ⟨s2, _⟩ => SqL.of (s2 _ _ hl)) ?_ ?_
  · rintro k y H2 hy ⟨s2, m2⟩
    have hs : ∀ {t : Addr} {o o' : HO}, H2 t = none → Same H1 (upd (upd H2 t o) D o') := fun {t o o'} nt c x e => by
      have nc : c ≠ D := fun z => by rw [z, hD] at e; cases e
      rw [upd_ne nc]
      exact (same_upd nt) _ _ (s2 _ _ e)
    match k, hy, m2 with
    | 0, hy, m2 =>
      obtain rfl := Option.some.inj hy
      exact turn ha s2 m2 (by decide) fun t nt ht => ⟨hs nt, t, ht, upd_same, by rw [upd_ne ht, upd_same]⟩
    | 1, hy, ⟨t1, h1, h2, h3⟩ =>
      obtain rfl := Option.some.inj hy
      refine turn hb s2 h2 (by show 1 ≤ 10; decide) fun t nt ht => ⟨hs nt, t1, t, upd_same, ?_, by rw [upd_ne ht, upd_same]⟩
      rw [upd_ne h1]
      exact (same_upd nt) _ _ h3
    | k + 2, hy, _ => simp at hy
  · rintro H2 ⟨s2, t1, t2, h1, h2, h3⟩
    exact q H2 t1 t2 s2 h1 h2 h3
end
end Law
set_option Elab.async false
set_option linter.all false
set_option maxRecDepth 100000
set_option maxHeartbeats 4000000
namespace Law
open PySem PySem.Spec PyProof.Rows L2
section
variable {P : Program} {w : World} {K : PySem.W.Frag} {mg : Str → Option Value} {base : Heap}
theorem dq_two {H : Hp} {v u : V} {d e : PyData} {t : Addr} (hv : Dq K H v d) (hu : Dq K H u e) (h : H t = some (.lst [v, u])) : Dq K H (.ref t) (.list [d, e]) := .lst (SqL.of h) (.cons hv (.cons hu .nil))
theorem dq_four {H : Hp} {v u : V} {d e : PyData} {r a b c f : Addr} (hv : Dq K H v d) (hu : Dq K H u e) (ha : H a = some (.lst [v, u])) (hb : H b = some (.lst [v, u])) (hc : H c = some (.lst [v, u])) (hf : H f = some (.lst [v, u])) (hr : H r = some (.lst [.ref a, .ref b, .ref c, .ref f])) : Dq K H (.ref r) (four d e) :=
  .lst (SqL.of hr) (.cons (dq_two hv hu ha) (.cons (dq_two hv hu hb) (.cons (dq_two hv hu hc) (.cons (dq_two hv hu hf) .nil))))
theorem ok_two {f fA fK : Addr} {fd fdA fdK : FuncData} (F : Fn K "_law_two_right" sTwo f fd) (FA : Fn K "_law_is_alone" sAlone fA fdA) (gA : mg "_law_is_alone" = some (.ref fA)) (FK : Fn K "_law_kinds" sKinds fK fdK) (gK : mg "_law_kinds" = some (.ref fK)) (T : Tx P w K mg base) : FnG P w K mg base CX0 3 f fd ["_law_one", "_law_two"] (spTwo K) := by
  have mI := T.fr "isinstance" (by decide +kernel)
  have GA : FnOk P w K mg base CX0 2 fA fdA ["_law_error"] (spAlone K) := ok_alone FA FK gK T
  have bA : Binds K fdA ["_law_error"] [] := FA.bindsN fun _ _ _ _ _ _ us hl => match us, hl with | [_], _ => rfl
  refine F.okG scTwo (fun vs H Q E h => ?_) (fun cdv A outer s H vs Q E hr hgd h => ?_)
  · obtain ⟨v, u, d, e, rfl, _⟩ := h
    rfl
  · obtain ⟨v, u, d, e, rfl, hd, he, dv, du, q⟩ := h
    have hr2 : Room 2 _ := hr
    refine ⟨_, pss_mid (ps_set (i := 2) scTwo.nd rfl (.inl rfl) (pe_lst (pa_cons (pe_er2 (x := "BadText") (f := "line") (g := "word") (T.er2 ("BadText", "line", "word") (by decide +kernel)) hr2 (by rfl) (pv 0) (pv 1)) (pa_cons (pe_er2k (x := "BadText") (f := "line") (g := "word") (T.er2 ("BadText", "line", "word") (by decide +kernel)) hr2 (by rfl) (pv 0) (pv 1)) pa_nil))))
      (pss_mid (ps_set (i := 3) scTwo.nd rfl (.inl rfl) (pe_lst (pa_cons (pe_er2 (x := "TooMany") (f := "what") (g := "most") (T.er2 ("TooMany", "what", "most") (by decide +kernel)) hr2 (by rfl) (pv 0) (pv 1)) (pa_cons (pe_er2k (x := "TooMany") (f := "what") (g := "most") (T.er2 ("TooMany", "what", "most") (by decide +kernel)) hr2 (by rfl) (pv 0) (pv 1)) pa_nil))))
      (pss_mid (ps_set (i := 4) scTwo.nd rfl (.inl rfl) (pe_op op_cat (pe_lc (own := [("_law_error", 6)]) (g := gName 6) (tt := tYes) (te := tTwo K "line" "word" 6) rfl scTwo.nd (pi_list (pv 2)) (blkOk_by (N := ["_law_one", "_law_two", "_law_texts", "_law_most", "_law_told", "_law_some_here", "_law_error"]) (sc := defScope sTwo) (by decide +kernel)) (fun _ _ _ _ _ => pg_name (i := 6) scTwo.nd rfl (Or.inl rfl)) (fun _ _ _ _ _ => pts_nil) (fun _ _ _ _ _ => pe_lst (pa_cons (pe_xat (pv 6)) (pa_cons (pe_xat (pv 6)) pa_nil)))) (pe_lc (own := [("_law_error", 6)]) (g := gName 6) (tt := tYes) (te := tTwo K "what" "most" 6) rfl scTwo.nd (pi_list (pv 3)) (blkOk_by (N := ["_law_one", "_law_two", "_law_texts", "_law_most", "_law_told", "_law_some_here", "_law_error"]) (sc := defScope sTwo) (by decide +kernel)) (fun _ _ _ _ _ => pg_name (i := 6) scTwo.nd rfl (Or.inl rfl)) (fun _ _ _ _ _ => pts_nil) (fun _ _ _ _ _ => pe_lst (pa_cons (pe_xat (pv 6)) (pa_cons (pe_xat (pv 6)) pa_nil))))))
      (pss_mid (ps_if (PW.pt (pw_or (pt_cmpR op_ne (pe_callB (call_repr T.sys hgd hr) (by rfl) (T.fr "repr" (by decide +kernel)) PyProof.Rows.boot_repr (pa_cons (pv 4) pa_nil)) (pe_callB (call_repr T.sys hgd hr) (by rfl) (T.fr "repr" (by decide +kernel)) PyProof.Rows.boot_repr (pa_cons (pe_op op_rep (pe_lst (pa_cons (pe_lst (pa_cons (pv 0) (pa_cons (pv 1) pa_nil))) pa_nil)) pe_int) pa_nil)) (nomark _)) (pw_or (pt_not (pt_val (pe_callB call_isx (by rfl) mI PyProof.Rows.boot_isinstance (pa_cons (pe_ix ix_list (pv 2) pe_int (fun _ _ => rfl)) (pa_cons (pe_cls (by rfl) (T.g "BadInput" (by decide +kernel))) pa_nil))))) (pw_or1 (pt_not (pt_val (pe_callB call_isx (by rfl) mI PyProof.Rows.boot_isinstance (pa_cons (pe_ix ix_list (pv 3) pe_int (fun _ _ => rfl)) (pa_cons (pe_cls (by rfl) (T.g "NoAnswer" (by decide +kernel))) pa_nil))))))))) (pss_one (ps_ret pe_bl)) pss_nil)
      (pss_mid (ps_set (i := 5) scTwo.nd rfl (.inl rfl) (pe_op op_cat (pe_op op_cat (pv 2) (pv 3)) (pe_lst (pa_cons (pe_exc0 (x := "Nothing") PySem.F.excBase_ValueError (T.ex0 "Nothing" (by decide +kernel)).1 (T.g "Nothing" (by decide +kernel)) (T.ex0 "Nothing" (by decide +kernel)).2 (by rfl)) pa_nil))))
      (pss_one (ps_ret (pe_and (pe_cmpR (op_eqD hr.units) (pe_lc (own := [("_law_error", 6)]) (g := gName 6) (tt := tNot (tB (tCall (spAlone K) [] E0 (tCons (tVar 6) tNil)))) (te := tVar 6) rfl scTwo.nd (pi_list (pv 5)) (blkOk_by (N := ["_law_one", "_law_two", "_law_texts", "_law_most", "_law_told", "_law_some_here", "_law_error"]) (sc := defScope sTwo) (by decide +kernel)) (fun _ _ _ _ _ => pg_name (i := 6) scTwo.nd rfl (Or.inl rfl)) (fun _ _ _ _ _ => pts_one (pt_not (pt_val (pe_call GA hr (by rfl) gA FA.kp bA .nil pass0 (pa_cons (pv 6) pa_nil))))) (fun _ _ _ _ _ => pv 6)) (pe_lst pa_nil) (nomark _)) (pe_one (pe_callB call_isx (by rfl) mI PyProof.Rows.boot_isinstance (pa_cons ((pe_exc0 (x := "Nothing") PySem.F.excBase_ValueError (T.ex0 "Nothing" (by decide +kernel)).1 (T.g "Nothing" (by decide +kernel)) (T.ex0 "Nothing" (by decide +kernel)).2 (by rfl))) (pa_cons (pe_cls (by rfl) (T.g "NoAnswer" (by decide +kernel))) pa_nil))))))))))), ?_⟩
    have hT1 : ("BadText" : Str) ∈ names := by decide +kernel
    have hT2 : ("TooMany" : Str) ∈ names := by decide +kernel
    have hT3 : ("Nothing" : Str) ∈ names := by decide +kernel
    refine ⟨fun σ' H' => ∃ l a b, σ' = [some v, some u, some (.ref l), none, none, none, none] ∧ Same H H' ∧ H' l = some (.lst [.ref a, .ref b]) ∧ ErrAt H' a (ca K "BadText") [("word", u), ("line", v)] ∧ ErrAt H' b (ca K "BadText") [("word", u), ("line", v)], ?_, ?_⟩
    · exact ⟨v, rfl, u, rfl, fun H2 a s2 na ea => ⟨u, rfl, v, rfl, fun H3 b s3 nb eb => ⟨(show 2 ≤ sizeLine by decide), fun l nl => ⟨l, a, b, rfl, s2.trans (s3.trans (same_upd nl)), upd_same, (ea.mono s3).mono (same_upd nl), eb.mono (same_upd nl)⟩⟩⟩⟩
    rintro σ' H1 ⟨l, a, b, rfl, s1, hl, ea, eb⟩
    refine ⟨fun σ' H' => ∃ m c k, σ' = [some v, some u, some (.ref l), some (.ref m), none, none, none] ∧ Same H1 H' ∧ H' m = some (.lst [.ref c, .ref k]) ∧ ErrAt H' c (ca K "TooMany") [("most", u), ("what", v)] ∧ ErrAt H' k (ca K "TooMany") [("most", u), ("what", v)], ?_, ?_⟩
    · exact ⟨v, rfl, u, rfl, fun H2 c s2 nc ec => ⟨u, rfl, v, rfl, fun H3 k s3 nk ek => ⟨(show 2 ≤ sizeLine by decide), fun m nm => ⟨m, c, k, rfl, s2.trans (s3.trans (same_upd nm)), upd_same, (ec.mono s3).mono (same_upd nm), ek.mono (same_upd nm)⟩⟩⟩⟩
    rintro σ' H2 ⟨m, c, k, rfl, s2, hm, ec, ek⟩
    have hl2 := s2 _ _ hl
    have ea2 := ea.mono s2
    have eb2 := eb.mono s2
    refine ⟨fun σ' H' => ∃ r t1 t2 t3 t4, σ' = [some v, some u, some (.ref l), some (.ref m), some (.ref r), none, none] ∧ Same H2 H' ∧ H' r = some (.lst [.ref t1, .ref t2, .ref t3, .ref t4]) ∧ H' t1 = some (.lst [v, u]) ∧ H' t2 = some (.lst [v, u]) ∧ H' t3 = some (.lst [v, u]) ∧ H' t4 = some (.lst [v, u]), ?_, ?_⟩
    · refine ⟨.ref l, rfl, l, rfl, ⟨_, SqL.of hl2⟩, fun D hD => lc_two T (z := ("BadText", "line", "word")) (by decide +kernel) (σ := [some v, some u, some (.ref l), some (.ref m), none, none, none]) hl2 ea2 eb2 hD (by decide +kernel) (fun _ => rfl) (fun _ => rfl) fun H3 t1 t2 s3 h1 h2 h3 => ?_⟩
      refine ⟨.ref m, rfl, m, rfl, ⟨_, SqL.of (s3 _ _ hm)⟩, fun D2 hD2 => lc_two T (z := ("TooMany", "what", "most")) (by decide +kernel) (σ := [some v, some u, some (.ref l), some (.ref m), none, none, none]) (s3 _ _ hm) (ec.mono s3) (ek.mono s3) hD2 (by decide +kernel) (fun _ => rfl) (fun _ => rfl) fun H4 t3 t4 s4 h4 h5 h6 => ?_⟩
      exact ⟨D, D2, _, _, rfl, rfl, s4 _ _ h1, h4, (show 4 ≤ sizeLine by decide), fun r nr => ⟨r, t1, t2, t3, t4, rfl, s3.trans (s4.trans (same_upd nr)), upd_same, (same_upd nr) _ _ (s4 _ _ h2), (same_upd nr) _ _ (s4 _ _ h3), (same_upd nr) _ _ h5, (same_upd nr) _ _ h6⟩⟩
    rintro σ' H3 ⟨r, t1, t2, t3, t4, rfl, s3, hr3, h1, h2, h3, h4⟩
    have sA := s1.trans (s2.trans s3)
    obtain ⟨f1, f2, f3⟩ := four_ok hd he
    refine ⟨fun σ' H' => σ' = [some v, some u, some (.ref l), some (.ref m), some (.ref r), none, none] ∧ Same H3 H', ?_, ?_⟩
    · refine ⟨.ref r, rfl, r, four d e, rfl, dq_four (dv.same sA) (du.same sA) h1 h2 h3 h4 hr3, f1, f2, f3, ?_⟩
      refine ⟨v, rfl, u, rfl, (show 2 ≤ sizeLine by decide), fun x nx => ⟨(show 1 ≤ sizeLine by decide), fun y ny => ⟨y, 4, _, rfl, rfl, upd_same, by decide, by decide, (show 1 * 4 ≤ sizeLine by decide), fun z nz => ?_⟩⟩⟩
      have sx : ∀ {o : HO}, Same H3 (upd (upd (upd H3 x (.lst [v, u])) y (.lst [.ref x])) z o) := fun {o} => (same_upd nx).trans ((same_upd ny).trans (same_upd nz))
      have hx : ∀ {o : HO}, (upd (upd (upd H3 x (.lst [v, u])) y (.lst [.ref x])) z o) x = some (.lst [v, u]) := fun {o} => ((same_upd ny).trans (same_upd nz)) x _ upd_same
      refine ⟨z, four d e, rfl, dq_four (dv.same (sA.trans sx)) (du.same (sA.trans sx)) hx hx hx hx upd_same, f1, f2, f3, rfl, _, rfl, iteNS rfl ?_⟩
      refine ⟨.ref l, rfl, l, _, 0, .ref a, rfl, rfl, SqL.of (sx _ _ (s3 _ _ hl2)), rfl, a, ca K "BadText", _, _, true, rfl, (ea2.mono (s3.trans sx)).isX, T.ec _ hT1, .own _, T.kit _ hT1 "BadInput" (by decide +kernel), _, rfl, iteF ?_⟩
      exact ⟨.ref m, rfl, m, _, 0, .ref c, rfl, rfl, SqL.of (sx _ _ (s3 _ _ hm)), rfl, c, ca K "TooMany", _, _, true, rfl, (ec.mono (s3.trans sx)).isX, T.ec _ hT2, .own _, T.kit _ hT2 "NoAnswer" (by decide +kernel), _, rfl, rfl, sx⟩
    rintro σ' H4 ⟨rfl, s4⟩
    have s24 := s3.trans s4
    refine ⟨fun σ' H' => ∃ y n, σ' = [some v, some u, some (.ref l), some (.ref m), some (.ref r), some (.ref y), none] ∧ Same H4 H' ∧ H' y = some (.lst [.ref a, .ref b, .ref c, .ref k, .ref n]) ∧ IsX H' n (ca K "Nothing"), ?_, ?_⟩
    · refine ⟨.ref l, rfl, .ref m, rfl, l, m, _, _, rfl, rfl, s24 _ _ hl2, s24 _ _ hm, (show 4 ≤ sizeLine by decide), fun x nx => ?_⟩
      intro n nn
      refine ⟨(show 1 ≤ sizeLine by decide), fun y ny => ⟨x, y, _, _, rfl, rfl, (same_upd ny) _ _ ((same_upd nn) _ _ upd_same), upd_same, (show 5 ≤ sizeLine by decide), fun z nz => ?_⟩⟩
      exact ⟨z, n, rfl, (same_upd nx).trans ((same_upd nn).trans ((same_upd ny).trans (same_upd nz))), upd_same, ((exO_isX upd_same).mono (same_upd ny)).mono (same_upd nz)⟩
    rintro σ' H5 ⟨y, n, rfl, s5, hy, hn⟩
    have s25 := s24.trans s5
    refine ⟨.ref y, rfl, y, rfl, ⟨_, SqL.of hy⟩, fun D hD => lc_list (K := K) (a := y) (xs := [.ref a, .ref b, .ref c, .ref k, .ref n]) (fun i H6 => Same H5 H6 ∧ H6 D = some (.lst [])) ⟨same_upd hD, upd_same⟩ (fun i H6 _ ⟨s6, _⟩ => SqL.of (s6 _ _ hy)) ?_ ?_⟩
    · rintro i o H6 ho ⟨s6, hD6⟩
      have hx : ∃ x w', o = .ref w' ∧ x ∈ leaves ∧ IsX H5 w' (ca K x) := by
        match i, ho with
        | 0, ho => exact ⟨"BadText", a, (Option.some.inj ho).symm, by decide +kernel, (ea2.mono s25).isX⟩
        | 1, ho => exact ⟨"BadText", b, (Option.some.inj ho).symm, by decide +kernel, (eb2.mono s25).isX⟩
        | 2, ho => exact ⟨"TooMany", c, (Option.some.inj ho).symm, by decide +kernel, (ec.mono s25).isX⟩
        | 3, ho => exact ⟨"TooMany", k, (Option.some.inj ho).symm, by decide +kernel, (ek.mono s25).isX⟩
        | 4, ho => exact ⟨"Nothing", n, (Option.some.inj ho).symm, by decide +kernel, hn⟩
        | i + 5, ho => simp at ho
      obtain ⟨x, w', rfl, hxl, hxx⟩ := hx
      refine ⟨rfl, .ref w', rfl, w', x, rfl, hxl, hxx.mono s6, fun H7 s7 => ⟨true, rfl, ?_⟩⟩
      exact ⟨s6.trans s7, s7 _ _ hD6⟩
    · rintro H6 ⟨s6, hD6⟩
      refine ⟨(show 0 ≤ sizeLine by decide), fun z nz => ⟨.list [], .list [], .lst (SqL.of ((same_upd nz) _ _ hD6)) .nil, .lst (SqL.of upd_same) .nil, rfl, rfl, true, rfl, ?_⟩⟩
      refine iteT ?_
      intro n2 nn2
      refine ⟨n2, ca K "Nothing", _, _, true, rfl, exO_isX upd_same, T.ec _ hT3, .own _, T.kit _ hT3 "NoAnswer" (by decide +kernel), ?_⟩
      exact q _ (s1.trans (s2.trans (s25.trans (s6.trans ((same_upd nz).trans (same_upd nn2))))))
end
end Law
set_option Elab.async false
set_option linter.all false
set_option maxRecDepth 100000
set_option maxHeartbeats 4000000
namespace Law
open PySem PySem.Spec PyProof.Rows L2
section
variable {P : Program} {w : World} {K : PySem.W.Frag} {mg : Str → Option Value} {base : Heap}
/-! ### the law -/
abbrev sLaw : Stmt := top 44
theorem scLaw : FnScope ["_law_script", "_law_pen_here", "_law_turn", "_law_one", "_law_two", "_law_rows", "_law_seen", "_law_first", "_law_field", "_law_second", "_law_other", "_law_refused", "_law_bases", "_law_number", "_law_error"] ["_law_script"] (defScope sLaw) := ⟨rfl, rfl, rfl, by decide +kernel, rfl, by decide +kernel, by decide +kernel⟩
def rInt1 : List V → Hp → VK → Prop := fun xs H Q => (∃ i, xs = [.int i] ∧ Q (.int i) H) ∨ ∃ k, xs = [.bl k] ∧ Q (.int (if k then 1 else 0)) H
def xs1 : List Str := ["BadBook", "BadClause", "BadFact", "BadHistory", "BadLiteral", "BadLot", "BadNeeds", "BadPlace", "BadProject", "BadStanding", "BadWeb", "BadWish", "Unlike"]
def xs2 : List Str := ["BadFix", "BadNumber", "BadPrice", "BadWay", "BadDeed", "Undone"]
def xs3 : List Str := ["NoDay", "NoLine", "NoFix", "Ring", "NoRelease", "BadLine", "Barred"]
def all26 : List Str := xs1 ++ xs2 ++ xs3
def seenOf (k : Nat) : List Int := (all26.take k).flatMap kindsOf
theorem row_facts : ∀ x ∈ all26, x ∈ leaves ∧ x ∈ names ∧ below x "NoAnswer" = (below x "Barred" || (below x "Undone" || below x "Unlike")) ∧ (kindsOf x).length = 1 := by decide +kernel
theorem seen_next {k : Nat} {x : Str} (h : all26[k]? = some x) : seenOf (k + 1) = seenOf k ++ kindsOf x := by
  unfold seenOf
  rw [List.take_add_one, h, List.flatMap_append]
  simp
theorem seen_len : ∀ k ∈ List.range 27, (seenOf k).length = k := by decide +kernel
theorem sorted_is {ns : List Int} (h : ns.Perm (seenOf 26)) (hs : ns.Pairwise (· ≤ ·)) : ns = (List.range 26).map fun (i : Nat) => (i : Int) := by
  have hp : ((List.range 26).map fun (i : Nat) => (i : Int)).Perm (seenOf 26) := by decide +kernel
  have h2 : ((List.range 26).map fun (i : Nat) => (i : Int)).Pairwise (· ≤ ·) := by decide +kernel
  exact PySem.W.ksm_same (h.trans hp.symm) hs h2
theorem rg26 : rgV 0 26 = ((List.range 26).map fun (i : Nat) => (i : Int)).map V.int := by
  unfold rgV
  rw [List.map_map]
  refine List.map_congr_left fun i _ => ?_
  show V.int (0 + (i : Int)) = V.int (i : Int)
  rw [Int.zero_add]
theorem eqv_ints (ns : List Int) : PyData.eqv (.list (ns.map PyData.int)) (.list (ns.map PyData.int)) = true := SeqAt.eqv_refl _ (lay_ints ns)
theorem kit3 (T : Tx P w K mg base) {x : Str} (hx : x ∈ names) : PySem.W.kitAny K (.ref (ca K x)) [.ref (ca K "Barred"), .ref (ca K "Undone"), .ref (ca K "Unlike")] = some (below x "Barred" || (below x "Undone" || below x "Unlike")) := by
  have h1 := T.kit x hx "Barred" (by decide +kernel)
  have h2 := T.kit x hx "Undone" (by decide +kernel)
  have h3 := T.kit x hx "Unlike" (by decide +kernel)
  refine kitAny_cons h1 (fun e1 => kitAny_cons h2 (fun e2 => kitAny_cons h3 (fun e3 => ?_) (fun e3 => ?_)) (fun e2 => ?_)) (fun e1 => ?_)
  · rw [e1, e2, e3]; exact kitAny_nil
  · rw [e3]; simp
  · rw [e2]; simp
  · rw [e1]; simp
def spLaw (K : PySem.W.Frag) : Sp := fun vs H Q _ => ∃ (a : Addr) (ns : List Int), vs = [.ref a] ∧ SqL K H a (ns.map V.int) ∧ ns.length ≤ 63 ∧ ∀ H', Q (.bl true) H'
/-- the law's own functions, where they stand -/
structure Fs (K : PySem.W.Frag) (mg : Str → Option Value) (fP fD fI fS fPa fVa fNa fK fA fT : Addr) (dP dD dI dS dPa dVa dNa dK dA dT : FuncData) : Prop where
  FP : Fn K "_law_pen" sPen fP dP
  FD : Fn K "_law_draw" sDraw fD dD
  FI : Fn K "_law_pick" sPick fI dI
  FS : Fn K "_law_some" sSome fS dS
  FPa : Fn K "_law_parted" sParted fPa dPa
  FVa : Fn K "_law_valued" sValued fVa dVa
  FNa : Fn K "_law_named" sNamed fNa dNa
  FK : Fn K "_law_kinds" sKinds fK dK
  FA : Fn K "_law_is_alone" sAlone fA dA
  FT : Fn K "_law_two_right" sTwo fT dT
  gP : mg "_law_pen" = some (.ref fP)
  gD : mg "_law_draw" = some (.ref fD)
  gI : mg "_law_pick" = some (.ref fI)
  gS : mg "_law_some" = some (.ref fS)
  gPa : mg "_law_parted" = some (.ref fPa)
  gVa : mg "_law_valued" = some (.ref fVa)
  gNa : mg "_law_named" = some (.ref fNa)
  gK : mg "_law_kinds" = some (.ref fK)
  gA : mg "_law_is_alone" = some (.ref fA)
  gT : mg "_law_two_right" = some (.ref fT)
theorem ok_law {f fP fD fI fS fPa fVa fNa fK fA fT : Addr} {fd dP dD dI dS dPa dVa dNa dK dA dT : FuncData} (F : Fn K "law" sLaw f fd) (Z : Fs K mg fP fD fI fS fPa fVa fNa fK fA fT dP dD dI dS dPa dVa dNa dK dA dT) (T : Tx P w K mg base) : FnG P w K mg base CX0 5 f fd ["_law_script"] (spLaw K) := by
  obtain ⟨FP, FD, FI, FS, FPa, FVa, FNa, FK, FA, FT, gP, gD, gI, gS, gPa, gVa, gNa, gK, gA, gT⟩ := Z
  have mI := T.fr "isinstance" (by decide +kernel)
  have GP : FnOk P w K mg base CX0 1 fP dP ["_law_script"] (spPen K) := ok_pen FP T.fr
  have GS : FnOk P w K mg base CX0 3 fS dS ["_law_pen_here"] (spSome K) := ok_some FS FD gD FI gI T.fr
  have GPa : FnOk P w K mg base CX0 3 fPa dPa ["_law_one", "_law_two"] (spRows K _) := ok_parted FPa T
  have GVa : FnOk P w K mg base CX0 3 fVa dVa ["_law_one", "_law_two"] (spRows K _) := ok_valued FVa T
  have GNa : FnOk P w K mg base CX0 3 fNa dNa ["_law_one", "_law_two"] (spRows K _) := ok_named FNa T
  have GK : FnOk P w K mg base CX0 1 fK dK ["_law_error"] (spKinds K) := ok_kinds FK T
  have GA : FnOk P w K mg base CX0 2 fA dA ["_law_error"] (spAlone K) := ok_alone FA FK gK T
  have GT : FnG P w K mg base CX0 3 fT dT ["_law_one", "_law_two"] (spTwo K) := ok_two FT FA gA FK gK T
  have bP : Binds K dP ["_law_script"] [] := FP.bindsN fun _ _ _ _ _ _ us hl => match us, hl with | [_], _ => rfl
  have bS : Binds K dS ["_law_pen_here"] [] := FS.bindsN fun _ _ _ _ _ _ us hl => match us, hl with | [_], _ => rfl
  have bPa : Binds K dPa ["_law_one", "_law_two"] [] := FPa.bindsN fun _ _ _ _ _ _ us hl => match us, hl with | [_, _], _ => rfl
  have bVa : Binds K dVa ["_law_one", "_law_two"] [] := FVa.bindsN fun _ _ _ _ _ _ us hl => match us, hl with | [_, _], _ => rfl
  have bNa : Binds K dNa ["_law_one", "_law_two"] [] := FNa.bindsN fun _ _ _ _ _ _ us hl => match us, hl with | [_, _], _ => rfl
  have bK : Binds K dK ["_law_error"] [] := FK.bindsN fun _ _ _ _ _ _ us hl => match us, hl with | [_], _ => rfl
  have bA : Binds K dA ["_law_error"] [] := FA.bindsN fun _ _ _ _ _ _ us hl => match us, hl with | [_], _ => rfl
  have bT : Binds K dT ["_law_one", "_law_two"] [] := FT.bindsN fun _ _ _ _ _ _ us hl => match us, hl with | [_, _], _ => rfl
  refine F.okG scLaw (fun vs H Q E h => ?_) (fun cdv A outer s H vs Q E hr hgd h => ?_)
  · obtain ⟨a, ns, rfl, _⟩ := h
    rfl
  · obtain ⟨a0, ns, rfl, hS, hl, q⟩ := h
    refine ⟨_, PSs.nox (pss_mid (ps_set (i := 1) scLaw.nd rfl (.inl rfl) (pe_call GP (hr.mono (by decide)) (by rfl) gP FP.kp bP .nil pass0 (pa_cons (pv 0) pa_nil)))
      (pss_mid (ps_for PassesOwn.never rfl (pi_range1 (by rfl) (T.fr "range" (by decide +kernel)) (pa_cons pe_int pa_nil)) (pg_name (i := 2) scLaw.nd rfl (.inl rfl))
        (pss_mid (ps_par (i := 3) (j := 4) (by rfl) scLaw.nd rfl rfl (by decide) rfl rfl (pa_cons (pe_call GS (hr.mono (by decide)) (by rfl) gS FS.kp bS .nil pass0 (pa_cons (pv 1) pa_nil)) (pa_cons (pe_call GS (hr.mono (by decide)) (by rfl) gS FS.kp bS .nil pass0 (pa_cons (pv 1) pa_nil)) pa_nil)) (by rfl))
        (pss_mid (ps_par (i := 5) (j := 6) (by rfl) scLaw.nd rfl rfl (by decide) rfl rfl (pa_cons (pe_op op_cat (pe_op op_cat (pe_call GPa (hr.mono (by decide)) (by rfl) gPa FPa.kp bPa .nil pass0 (pa_cons (pv 3) (pa_cons (pv 4) pa_nil))) (pe_call GVa (hr.mono (by decide)) (by rfl) gVa FVa.kp bVa .nil pass0 (pa_cons (pv 3) (pa_cons (pv 4) pa_nil)))) (pe_call GNa (hr.mono (by decide)) (by rfl) gNa FNa.kp bNa .nil pass0 (pa_cons (pv 3) (pa_cons (pv 4) pa_nil)))) (pa_cons (pe_lst pa_nil) pa_nil)) (by rfl))
        (pss_mid (ps_for PassesOwn.never rfl (pi_list (pv 5)) (pg_tup rfl (pgs_cons (pg_name (i := 7) scLaw.nd rfl (.inl rfl)) (pgs_cons (pg_name (i := 8) scLaw.nd rfl (.inl rfl)) (pgs_cons (pg_name (i := 9) scLaw.nd rfl (.inl rfl)) (pgs_cons (pg_name (i := 10) scLaw.nd rfl (.inl rfl)) pgs_nil)))))
          (pss_mid (ps_if (PW.pt (pw_or (pt_cmpR op_ne (pe_callB (call_repr T.sys hgd hr) (by rfl) (T.fr "repr" (by decide +kernel)) PyProof.Rows.boot_repr (pa_cons (pe_lst (pa_cons (pv 8) (pa_cons (pv 10) pa_nil))) pa_nil)) (pe_callB (call_repr T.sys hgd hr) (by rfl) (T.fr "repr" (by decide +kernel)) PyProof.Rows.boot_repr (pa_cons (pe_lst (pa_cons (pv 3) (pa_cons (pv 4) pa_nil))) pa_nil)) (nomark _)) (pw_or1 (pt_not (pt_val (pe_call GA (hr.mono (by decide)) (by rfl) gA FA.kp bA .nil pass0 (pa_cons (pv 7) pa_nil))))))) (pss_one (ps_ret pe_bl)) pss_nil)
          (pss_mid (ps_if (PW.pt (pw_or (pt_cmpR (op_neD hr.units) (pe_call GK (hr.mono (by decide)) (by rfl) gK FK.kp bK .nil pass0 (pa_cons (pv 7) pa_nil)) (pe_call GK (hr.mono (by decide)) (by rfl) gK FK.kp bK .nil pass0 (pa_cons (pv 9) pa_nil)) (nomark _)) (pw_or1 (pt_cmpR op_ne (pe_callB call_isx (by rfl) mI PyProof.Rows.boot_isinstance (pa_cons (pv 7) (pa_cons (pe_cls (by rfl) (T.g "NoAnswer" (by decide +kernel))) pa_nil))) (pe_callB call_isxT (by rfl) mI PyProof.Rows.boot_isinstance (pa_cons (pv 7) (pa_cons (pe_tup (pa_cons (pe_cls (by rfl) (T.g "Barred" (by decide +kernel))) (pa_cons (pe_cls (by rfl) (T.g "Undone" (by decide +kernel))) (pa_cons (pe_cls (by rfl) (T.g "Unlike" (by decide +kernel))) pa_nil)))) pa_nil))) (nomark _))))) (pss_one (ps_ret pe_bl)) pss_nil)
          (pss_one (ps_set (i := 6) scLaw.nd rfl (.inl rfl) (pe_op op_cat (pv 6) (pe_call GK (hr.mono (by decide)) (by rfl) gK FK.kp bK .nil pass0 (pa_cons (pv 7) pa_nil))))))))
        (pss_one (ps_if (PW.pt (pw_or (pt_cmpR (op_neD hr.units) (pe_callB cr_sorted (by rfl) (T.fr "sorted" (by decide +kernel)) (by decide +kernel) (pa_cons (pe_lc (own := [("_law_number", 13)]) (g := gName 13) (tt := tYes) (te := tCB rInt1 (tCons (tVar 13) tNil)) rfl scLaw.nd (pi_list (pv 6)) (blkOk_by (N := ["_law_script", "_law_pen_here", "_law_turn", "_law_one", "_law_two", "_law_rows", "_law_seen", "_law_first", "_law_field", "_law_second", "_law_other", "_law_refused", "_law_bases", "_law_number", "_law_error"]) (sc := defScope sLaw) (by decide +kernel)) (fun _ _ _ _ _ => pg_name (i := 13) scLaw.nd rfl (Or.inl rfl)) (fun _ _ _ _ _ => pts_nil) (fun _ _ _ _ _ => pe_callTy call_int1 (by rfl) (T.fr "int" (by decide +kernel)) PyProof.Rows.boot_int (pa_cons (pv 13) pa_nil))) pa_nil)) (pe_listRg rfl (by rfl) (T.fr "list" (by decide +kernel)) (prg_1 (by rfl) (T.fr "range" (by decide +kernel)) (pe_callB call_len_seq (by rfl) (T.fr "len" (by decide +kernel)) PySem.boot_len (pa_cons (pv 5) pa_nil)))) (nomark _))
          (pw_or1 (pt_not (pt_val (pe_callG GT (hr.mono (by decide)) hgd (by rfl) gT FT.kp bT pass0 (pa_cons (pv 3) (pa_cons (pv 4) pa_nil)))))))) (pss_one (ps_ret pe_bl)) pss_nil))))))
      (pss_mid (ps_set (i := 11) scLaw.nd rfl (.inl rfl) (pe_lst (pa_cons ((pe_er1 (x := "Barred") (f := "clause") (T.er1 ("Barred", "clause") (by decide +kernel)) (hr.mono (by decide)) (by rfl) pe_int)) (pa_cons ((pe_er1 (x := "Undone") (f := "at") (T.er1 ("Undone", "at") (by decide +kernel)) (hr.mono (by decide)) (by rfl) pe_int)) (pa_cons ((pe_er1 (x := "Unlike") (f := "part") (T.er1 ("Unlike", "part") (by decide +kernel)) (hr.mono (by decide)) (by rfl) pe_int)) pa_nil)))))
      (pss_mid (ps_if (PW.pt (pw_or (pt_cmpR (op_neD hr.units) (pe_lc (own := [("_law_error", 14)]) (g := gName 14) (tt := tNot (tB (tCB (rIsx K) (tCons (tVar 14) (tCons (tC (.ref (ca K "NoAnswer"))) tNil))))) (te := tVar 14) rfl scLaw.nd (pi_list (pv 11)) (blkOk_by (N := ["_law_script", "_law_pen_here", "_law_turn", "_law_one", "_law_two", "_law_rows", "_law_seen", "_law_first", "_law_field", "_law_second", "_law_other", "_law_refused", "_law_bases", "_law_number", "_law_error"]) (sc := defScope sLaw) (by decide +kernel)) (fun _ _ _ _ _ => pg_name (i := 14) scLaw.nd rfl (Or.inl rfl)) (fun _ _ _ _ _ => pts_one (pt_not (pt_val (pe_callB call_isx (by rfl) mI PyProof.Rows.boot_isinstance (pa_cons (pv 14) (pa_cons (pe_cls (by rfl) (T.g "NoAnswer" (by decide +kernel))) pa_nil)))))) (fun _ _ _ _ _ => pv 14)) (pe_lst pa_nil) (nomark _)) (pw_or1 (pt_not (pt_val (pe_callB call_isx (by rfl) mI PyProof.Rows.boot_isinstance (pa_cons ((pe_er1 (x := "Ring") (f := "fix") (T.er1 ("Ring", "fix") (by decide +kernel)) (hr.mono (by decide)) (by rfl) pe_int)) (pa_cons (pe_cls (by rfl) (T.g "BadInput" (by decide +kernel))) pa_nil)))))))) (pss_one (ps_ret pe_bl)) pss_nil)
      (pss_mid (ps_set (i := 12) scLaw.nd rfl (.inl rfl) (pe_lst (pa_cons ((pe_exc1 (x := "EditionError") PySem.F.excBase_ValueError (T.ex0 "EditionError" (by decide +kernel)).1 (T.g "EditionError" (by decide +kernel)) (T.ex0 "EditionError" (by decide +kernel)).2 (by rfl) pe_str)) (pa_cons ((pe_exc1 (x := "BadInput") PySem.F.excBase_ValueError (T.ex0 "BadInput" (by decide +kernel)).1 (T.g "BadInput" (by decide +kernel)) (T.ex0 "BadInput" (by decide +kernel)).2 (by rfl) pe_str)) (pa_cons ((pe_exc1 (x := "NoAnswer") PySem.F.excBase_ValueError (T.ex0 "NoAnswer" (by decide +kernel)).1 (T.g "NoAnswer" (by decide +kernel)) (T.ex0 "NoAnswer" (by decide +kernel)).2 (by rfl) pe_str)) pa_nil)))))
      (pss_one (ps_ret (pe_and (pe_cmpR (op_eqD hr.units) (pe_lc (own := [("_law_error", 14)]) (g := gName 14) (tt := tYes) (te := tCall (spKinds K) [] E0 (tCons (tVar 14) tNil)) rfl scLaw.nd (pi_list (pv 12)) (blkOk_by (N := ["_law_script", "_law_pen_here", "_law_turn", "_law_one", "_law_two", "_law_rows", "_law_seen", "_law_first", "_law_field", "_law_second", "_law_other", "_law_refused", "_law_bases", "_law_number", "_law_error"]) (sc := defScope sLaw) (by decide +kernel)) (fun _ _ _ _ _ => pg_name (i := 14) scLaw.nd rfl (Or.inl rfl)) (fun _ _ _ _ _ => pts_nil) (fun _ _ _ _ _ => pe_call GK (hr.mono (by decide)) (by rfl) gK FK.kp bK .nil pass0 (pa_cons (pv 14) pa_nil))) (pe_op op_rep (pe_lst (pa_cons (pe_lst pa_nil) pa_nil)) pe_int) (nomark _)) (pe_and (pe_callB call_isx (by rfl) mI PyProof.Rows.boot_isinstance (pa_cons (pe_ix ix_list (pv 12) pe_int (fun _ _ => rfl)) (pa_cons (pe_cls (by rfl) (T.g "EditionError" (by decide +kernel))) pa_nil))) (pe_one (pe_not (pe_callB call_isx (by rfl) mI PyProof.Rows.boot_isinstance (pa_cons (pe_ix ix_list (pv 12) pe_int (fun _ _ => rfl)) (pa_cons (pe_cls (by rfl) (T.g "NoAnswer" (by decide +kernel))) pa_nil)))))))))))))), ?_⟩
    refine ⟨fun σ' H' => ∃ p c, σ' = [some (.ref a0), some (.ref p), none, none, none, none, none, none, none, none, none, none, none, none, none] ∧ PenAt H' p c ns 0 0, ?_, ?_⟩
    · exact ⟨.ref a0, rfl, a0, ns, rfl, hS, hl, fun H1 p c s1 np hP => ⟨p, c, rfl, hP⟩⟩
    rintro σ' H1 ⟨p, c, rfl, hP⟩
    refine ⟨fun σ' H' => ∃ w2 w3 w4 w5 w6 w7 w8 w9 w10, σ' = [some (.ref a0), some (.ref p), w2, w3, w4, w5, w6, w7, w8, w9, w10, none, none, none, none], ?_, ?_⟩
    · refine ⟨4, rfl, by decide, by decide, for_range (lo := 0) (n := 4) (fun i σ' H' => ∃ w2 w3 w4 w5 w6 w7 w8 w9 w10, σ' = [some (.ref a0), some (.ref p), w2, w3, w4, w5, w6, w7, w8, w9, w10, none, none, none, none] ∧ ∃ n g, PenAt H' p c ns n g ∧ n ≤ 2 * (i : Int)) ⟨none, none, none, none, none, none, none, none, none, rfl, 0, 0, hP, by decide⟩ ?_ ?_⟩
      · rintro i σ' H2 hi ⟨w2, w3, w4, w5, w6, w7, w8, w9, w10, rfl, n, g, hP2, hn⟩
        -- two values
        refine ⟨fun σ' H' => ∃ x y d e n g, σ' = [some (.ref a0), some (.ref p), some (.int (0 + (i : Int))), some x, some y, w5, w6, w7, w8, w9, w10, none, none, none, none] ∧ d ∈ menu ∧ e ∈ menu ∧ Dq K (Wo p H') x d ∧ Dq K (Wo p H') y e ∧ PenAt H' p c ns n g ∧ n ≤ 2 * (i : Int) + 2, ?_, ?_⟩
        · refine ⟨.ref p, rfl, p, c, ns, n, g, rfl, hP2, by omega, fun H3 n3 g3 x d sb3 hP3 h1 h2 hd dx => ?_⟩
          refine ⟨.ref p, rfl, p, c, ns, n3, g3, rfl, hP3, by omega, fun H4 n4 g4 y e sb4 hP4 h3 h4 he dy => ?_⟩
          exact ⟨x, y, rfl, x, y, d, e, n4, g4, rfl, hd, he, dx.same sb4.wo, dy, hP4, by omega⟩
        rintro σ' H3 ⟨x, y, d, e, n3, g3, rfl, hd, he, dx, dy, hP3, hn3⟩
        have dx := dx.same Wo.same
        have dy := dy.same Wo.same
        -- the rows
        refine ⟨fun σ' H' => ∃ r m rs, σ' = [some (.ref a0), some (.ref p), some (.int (0 + (i : Int))), some x, some y, some (.ref r), some (.ref m), w7, w8, w9, w10, none, none, none, none] ∧ Same H3 H' ∧ H' r = some (.lst rs) ∧ Rows K H' x y rs all26 ∧ H' m = some (.lst []), ?_, ?_⟩
        · refine ⟨x, rfl, y, rfl, x, y, rfl, fun H4 p4 rs4 s4 e4 r4 => ⟨x, rfl, y, rfl, x, y, rfl, fun H5 p5 rs5 s5 e5 r5 => ⟨p4, p5, rs4, rs5, rfl, rfl, s5 _ _ e4, e5, ?_, fun q6 n6 => ?_⟩⟩⟩
          · exact Nat.le_of_lt (small1000 (by rw [r4.length, r5.length]; decide))
          refine ⟨x, rfl, y, rfl, x, y, rfl, fun H7 p7 rs7 s7 e7 r7 => ⟨q6, p7, _, rs7, rfl, rfl, s7 _ _ upd_same, e7, ?_, fun q8 n8 => ⟨Nat.zero_le _, fun q9 n9 => ?_⟩⟩⟩
          · exact Nat.le_of_lt (small1000 (by rw [List.length_append, r4.length, r5.length, r7.length]; decide))
          have z1 : Same H7 (upd (upd H7 q8 (.lst (rs4 ++ rs5 ++ rs7))) q9 (.lst [])) := (same_upd n8).trans (same_upd n9)
          have z2 := (same_upd (o := .lst (rs4 ++ rs5)) n6).trans (s7.trans z1)
          exact ⟨_, _, rfl, q8, q9, rs4 ++ rs5 ++ rs7, rfl, s4.trans (s5.trans z2), (same_upd n9) _ _ upd_same, ((r4.mono (s5.trans z2)).app (r5.mono z2)).app (r7.mono z1), upd_same⟩
        rintro σ' H4 ⟨r, m, rs, rfl, s4, hr4, hR, hm⟩
        have hlen26 : rs.length = 26 := hR.length
        obtain ⟨t1, t2, t3⟩ := two_ok hd he
        -- row by row
        refine ⟨fun σ' H' => ∃ m' w7 w8 w9 w10, σ' = [some (.ref a0), some (.ref p), some (.int (0 + (i : Int))), some x, some y, some (.ref r), some (.ref m'), w7, w8, w9, w10, none, none, none, none] ∧ Same H4 H' ∧ H' m' = some (.lst ((seenOf 26).map V.int)), ?_, ?_⟩
        · refine ⟨.ref r, rfl, r, rfl, ⟨_, SqL.of hr4⟩, for_list (K := K) (a := r) (xs := rs) (fun k σ' H' => ∃ m' w7 w8 w9 w10, σ' = [some (.ref a0), some (.ref p), some (.int (0 + (i : Int))), some x, some y, some (.ref r), some (.ref m'), w7, w8, w9, w10, none, none, none, none] ∧ Same H4 H' ∧ H' m' = some (.lst ((seenOf k).map V.int))) ⟨m, w7, w8, w9, w10, rfl, Same.rfl', hm⟩ (fun k σ' H' _ ⟨_, _, _, _, _, _, s5, _⟩ => SqL.of (s5 _ _ hr4)) ?_ ?_⟩
          · rintro k o σ' H5 ho ⟨m5, v7, v8, v9, v10, rfl, s5, hm5⟩
            have hk : k < 26 := by
              have := (List.getElem?_eq_some_iff.mp ho).1
              omega
            obtain ⟨t, z, rfl, hz, a, b, ht, xa, xb⟩ := hR.get ho
            obtain ⟨hzl, hzn, hzk, hz1⟩ := row_facts z (List.mem_of_getElem? hz)
            have hsl := seen_len k (List.mem_range.mpr (by omega))
            refine ⟨t, [.ref a, x, .ref b, y], rfl, SqT.of (s5 _ _ ht), rfl, _, _, rfl, _, _, rfl, _, _, rfl, _, _, rfl, rfl, ?_⟩
            have sx := s4.trans s5
            refine ⟨fun σ' H' => σ' = [some (.ref a0), some (.ref p), some (.int (0 + (i : Int))), some x, some y, some (.ref r), some (.ref m5), some (.ref a), some x, some (.ref b), some y, none, none, none, none] ∧ Same H5 H', ?_, ?_⟩
            · refine ⟨x, rfl, y, rfl, (show 2 ≤ sizeLine by decide), fun l6 n6 => ⟨l6, .list [d, e], rfl, dq_two (dx.same (sx.trans (same_upd n6))) (dy.same (sx.trans (same_upd n6))) upd_same, t1, t2, t3, ?_⟩⟩
              refine ⟨x, rfl, y, rfl, (show 2 ≤ sizeLine by decide), fun l7 n7 => ⟨l7, .list [d, e], rfl, dq_two (dx.same ((sx.trans (same_upd n6)).trans (same_upd n7))) (dy.same ((sx.trans (same_upd n6)).trans (same_upd n7))) upd_same, t1, t2, t3, rfl, _, rfl, iteNS rfl ?_⟩⟩
              have s67 : Same H5 (upd (upd H5 l6 (.lst [x, y])) l7 (.lst [x, y])) := (same_upd n6).trans (same_upd n7)
              exact ⟨.ref a, rfl, a, z, rfl, hzl, xa.mono (s5.trans s67), fun H8 s8 => ⟨true, rfl, rfl, s67.trans s8⟩⟩
            rintro σ' H6 ⟨rfl, s6⟩
            refine ⟨fun σ' H' => σ' = [some (.ref a0), some (.ref p), some (.int (0 + (i : Int))), some x, some y, some (.ref r), some (.ref m5), some (.ref a), some x, some (.ref b), some y, none, none, none, none] ∧ Same H6 H', ?_, ?_⟩
            · refine ⟨.ref a, rfl, a, z, rfl, hzn, xa.mono (s5.trans s6), fun H7 l7 s7 n7 e7 => ?_⟩
              refine ⟨.ref b, rfl, b, z, rfl, hzn, xb.mono (s5.trans (s6.trans s7)), fun H8 l8 s8 n8 e8 => ?_⟩
              refine ⟨_, _, .lst (SqL.of (s8 _ _ e7)) (dp_ints _), .lst (SqL.of e8) (dp_ints _), shaped_ints _, shaped_ints _, _, rfl, ?_⟩
              rw [eqv_ints]
              have s68 := s6.trans (s7.trans s8)
              refine iteF ⟨.ref a, rfl, a, ca K z, _, _, _, rfl, xa.mono (s5.trans s68), T.ec z hzn, .own _, T.kit z hzn "NoAnswer" (by decide +kernel), ?_⟩
              refine ⟨.ref a, rfl, (show 3 ≤ sizeLine by decide), fun t9 n9 => ⟨a, ca K z, t9, _, _, _, rfl, (xa.mono (s5.trans s68)).mono (same_upd n9), T.ec z hzn, upd_same, .cons (.own _) (.cons (.own _) (.cons (.own _) .nil)), kit3 T hzn, rfl, _, rfl, ?_⟩⟩
              rw [hzk]
              exact iteNS rfl ⟨rfl, (s7.trans s8).trans (same_upd n9)⟩
            rintro σ' H7 ⟨rfl, s7⟩
            have s57 := s6.trans s7
            refine ⟨.ref m5, rfl, .ref a, rfl, a, z, rfl, hzn, xa.mono (s5.trans s57), fun H8 l8 s8 n8 e8 => ⟨m5, l8, _, _, rfl, rfl, s8 _ _ (s57 _ _ hm5), e8, ?_, fun l9 n9 => ?_⟩⟩
            · exact Nat.le_of_lt (small1000 (by rw [List.length_map, List.length_map, hsl, hz1]; omega))
            refine ⟨l9, _, _, _, _, rfl, s5.trans (s57.trans (s8.trans (same_upd n9))), ?_⟩
            rw [upd_same, seen_next hz, List.map_append]
          · rintro σ' H5 ⟨m5, v7, v8, v9, v10, rfl, s5, hm5⟩
            rw [hlen26] at hm5
            exact ⟨m5, v7, v8, v9, v10, rfl, s5, hm5⟩
        rintro σ' H5 ⟨m5, v7, v8, v9, v10, rfl, s5, hm5⟩
        -- all classes were there, the others are right
        refine ⟨.ref m5, rfl, m5, rfl, ⟨_, SqL.of hm5⟩, fun D hD => lc_list (K := K) (a := m5) (xs := (seenOf 26).map V.int) (fun k H6 => Same H5 H6 ∧ H6 D = some (.lst (((seenOf 26).take k).map V.int))) ⟨same_upd hD, upd_same⟩ (fun k H6 _ ⟨s6, _⟩ => SqL.of (s6 _ _ hm5)) ?_ ?_⟩
        · rintro k o H6 ho ⟨s6, hD6⟩
          rw [List.getElem?_map] at ho
          obtain ⟨z, hz, rfl⟩ : ∃ z, (seenOf 26)[k]? = some z ∧ o = V.int z := by
            cases hh : (seenOf 26)[k]? with
            | none => rw [hh] at ho; cases ho
            | some z => rw [hh] at ho; exact ⟨z, rfl, (Option.some.inj ho).symm⟩
          refine ⟨rfl, .int z, rfl, .inl ⟨z, rfl, _, hD6, ?_, fun b o e => ?_, ?_⟩⟩
          · rw [List.length_map, List.length_take]
            have := seen_len 26 (by decide)
            exact small1000 (by omega)
          · rw [upd_ne (fun z => by rw [z, hD] at e; cases e)]
            exact s6 _ _ e
          · rw [upd_same, List.take_add_one, hz, List.map_append]
            rfl
        rintro H6 ⟨s6, hD6⟩
        rw [List.length_map, List.take_length] at hD6
        refine ⟨D, seenOf 26, rfl, SqL.of hD6, by rw [seen_len 26 (by decide)]; decide, fun ns' l7 hpm hpw n7 => ?_⟩
        rw [sorted_is hpm hpw]
        have s67 : ∀ {o : HO}, Same H5 (upd H6 l7 o) := fun {o} => s6.trans (same_upd n7)
        refine ⟨.ref r, rfl, r, rs, rfl, .inl (SqL.of (s67 _ _ (s5 _ _ hr4))), 26, by rw [hlen26]; rfl, ⟨by decide, by decide, by decide, by decide, by decide⟩, fun l8 n8 => ?_⟩
        rw [rg26]
        refine ⟨_, _, .lst (SqL.of ((same_upd n8) _ _ upd_same)) (dp_ints _), .lst (SqL.of upd_same) (dp_ints _), shaped_ints _, shaped_ints _, _, rfl, ?_⟩
        rw [eqv_ints]
        have s38 := s4.trans (s5.trans ((s67 (o := .lst (((List.range 26).map fun (i : Nat) => (i : Int)).map V.int))).trans (same_upd (o := .lst (((List.range 26).map fun (i : Nat) => (i : Int)).map V.int)) n8)))
        refine iteF ⟨x, rfl, y, rfl, x, y, d, e, rfl, hd, he, dx.same s38, dy.same s38, fun H9 s9 => ⟨true, rfl, ?_⟩⟩
        exact ⟨_, _, _, _, _, _, _, _, _, rfl, n3, g3, ⟨s9 _ _ (s38 _ _ hP3.pen), s9 _ _ (s38 _ _ hP3.cells), hP3.few, hP3.n0, hP3.g0⟩, by omega⟩
      · rintro σ' H2 ⟨w2, w3, w4, w5, w6, w7, w8, w9, w10, rfl, _⟩
        exact ⟨w2, w3, w4, w5, w6, w7, w8, w9, w10, rfl⟩
    rintro σ' H2 ⟨w2, w3, w4, w5, w6, w7, w8, w9, w10, rfl⟩
    refine ⟨fun σ' H' => ∃ l a b c, σ' = [some (.ref a0), some (.ref p), w2, w3, w4, w5, w6, w7, w8, w9, w10, some (.ref l), none, none, none] ∧ H' l = some (.lst [.ref a, .ref b, .ref c]) ∧ IsX H' a (ca K "Barred") ∧ IsX H' b (ca K "Undone") ∧ IsX H' c (ca K "Unlike"), ?_, ?_⟩
    · exact fun H3 a s3 na ea H4 b s4 nb eb H5 c s5 nc ec => ⟨(show 3 ≤ sizeLine by decide), fun l nl => ⟨l, a, b, c, rfl, upd_same, (ea.mono (s4.trans (s5.trans (same_upd nl)))).isX, (eb.mono (s5.trans (same_upd nl))).isX, (ec.mono (same_upd nl)).isX⟩⟩
    rintro σ' H3 ⟨l, a, b, c', rfl, hl3, xa, xb, xc⟩
    refine ⟨fun σ' H' => σ' = [some (.ref a0), some (.ref p), w2, w3, w4, w5, w6, w7, w8, w9, w10, some (.ref l), none, none, none], ?_, ?_⟩
    · refine ⟨.ref l, rfl, l, rfl, ⟨_, SqL.of hl3⟩, fun D hD => lc_list (K := K) (a := l) (xs := [.ref a, .ref b, .ref c']) (fun i H4 => Same H3 H4 ∧ H4 D = some (.lst [])) ⟨same_upd hD, upd_same⟩ (fun i H4 _ ⟨s4, _⟩ => SqL.of (s4 _ _ hl3)) ?_ ?_⟩
      · rintro i o H4 ho ⟨s4, hD4⟩
        have hx : ∃ x w', o = .ref w' ∧ x ∈ names ∧ below x "NoAnswer" = true ∧ IsX H3 w' (ca K x) := by
          match i, ho with
          | 0, ho => exact ⟨"Barred", a, (Option.some.inj ho).symm, by decide +kernel, by decide +kernel, xa⟩
          | 1, ho => exact ⟨"Undone", b, (Option.some.inj ho).symm, by decide +kernel, by decide +kernel, xb⟩
          | 2, ho => exact ⟨"Unlike", c', (Option.some.inj ho).symm, by decide +kernel, by decide +kernel, xc⟩
          | i + 3, ho => simp at ho
        obtain ⟨x, w', rfl, hxn, hxb, hxx⟩ := hx
        refine ⟨rfl, .ref w', rfl, w', ca K x, _, _, true, rfl, hxx.mono s4, T.ec x hxn, .own _, (T.kit x hxn "NoAnswer" (by decide +kernel)).trans (congrArg some hxb), true, rfl, ?_⟩
        exact ⟨s4, hD4⟩
      · rintro H4 ⟨s4, hD4⟩
        refine ⟨(show 0 ≤ sizeLine by decide), fun z nz => ⟨.list [], .list [], .lst (SqL.of ((same_upd nz) _ _ hD4)) .nil, .lst (SqL.of upd_same) .nil, rfl, rfl, false, rfl, ?_⟩⟩
        refine iteF ?_
        exact fun H5 k s5 nk ek => ⟨k, ca K "Ring", _, _, true, rfl, ek.isX, T.ec "Ring" (by decide +kernel), .own _, T.kit "Ring" (by decide +kernel) "BadInput" (by decide +kernel), true, rfl, rfl⟩
    rintro σ' H4 rfl
    refine ⟨fun σ' H' => ∃ m a b c, σ' = [some (.ref a0), some (.ref p), w2, w3, w4, w5, w6, w7, w8, w9, w10, some (.ref l), some (.ref m), none, none] ∧ H' m = some (.lst [.ref a, .ref b, .ref c]) ∧ IsX H' a (ca K "EditionError") ∧ IsX H' b (ca K "BadInput") ∧ IsX H' c (ca K "NoAnswer"), ?_, ?_⟩
    · exact fun a na b nb c nc => ⟨(show 3 ≤ sizeLine by decide), fun m nm => ⟨m, a, b, c, rfl, upd_same, (((exO_isX upd_same).mono (same_upd nb)).mono (same_upd nc)).mono (same_upd nm), ((exO_isX upd_same).mono (same_upd nc)).mono (same_upd nm), (exO_isX upd_same).mono (same_upd nm)⟩⟩
    rintro σ' H5 ⟨m, a2, b2, c2, rfl, hm5, ya, yb, yc⟩
    refine ⟨.ref m, rfl, m, rfl, ⟨_, SqL.of hm5⟩, fun D hD => lc_list (K := K) (a := m) (xs := [.ref a2, .ref b2, .ref c2]) (fun i H6 => Same H5 H6 ∧ ∃ ts, H6 D = some (.lst ts) ∧ ts.length = i ∧ ∀ v ∈ ts, ∃ t, v = .ref t ∧ t ≠ D ∧ H6 t = some (.lst [])) ⟨same_upd hD, [], upd_same, rfl, fun v hv => by cases hv⟩ (fun i H6 _ ⟨s6, _⟩ => SqL.of (s6 _ _ hm5)) ?_ ?_⟩
    · rintro i o H6 ho ⟨s6, ts, hD6, hts, hv6⟩
      have hi : i < 3 := (List.getElem?_eq_some_iff.mp ho).1
      have hx : ∃ x w', o = .ref w' ∧ x ∈ names ∧ kindsOf x = [] ∧ IsX H5 w' (ca K x) := by
        match i, ho with
        | 0, ho => exact ⟨"EditionError", a2, (Option.some.inj ho).symm, by decide +kernel, by decide +kernel, ya⟩
        | 1, ho => exact ⟨"BadInput", b2, (Option.some.inj ho).symm, by decide +kernel, by decide +kernel, yb⟩
        | 2, ho => exact ⟨"NoAnswer", c2, (Option.some.inj ho).symm, by decide +kernel, by decide +kernel, yc⟩
        | i + 3, ho => simp at ho
      obtain ⟨x, w', rfl, hxn, hxk, hxx⟩ := hx
      refine ⟨rfl, .ref w', rfl, w', x, rfl, hxn, hxx.mono s6, fun H7 t s7 nt et => ⟨ts, s7 _ _ hD6, small1000 (by omega), fun b o e => ?_, ts ++ [.ref t], upd_same, by rw [List.length_append, hts]; rfl, ?_⟩⟩
      · rw [upd_ne (fun z => by rw [z, hD] at e; cases e)]
        exact s7 _ _ (s6 _ _ e)
      · rw [hxk] at et
        have htD : t ≠ D := fun z => by rw [z, hD6] at nt; cases nt
        intro v hv
        rcases List.mem_append.mp hv with hv | hv
        · obtain ⟨t', e1, e2, e3⟩ := hv6 v hv
          exact ⟨t', e1, e2, by rw [upd_ne e2]; exact s7 _ _ e3⟩
        · obtain rfl := List.mem_singleton.mp hv
          exact ⟨t, rfl, htD, by rw [upd_ne htD]; exact et⟩
    rintro H6 ⟨s6, ts, hD6, hts, hv6⟩
    match ts, hts, hD6, hv6 with
    | [v1, v2, v3], _, hD6, hv6 =>
      obtain ⟨t1, rfl, _, k1⟩ := hv6 _ (List.mem_cons_self ..)
      obtain ⟨t2, rfl, _, k2⟩ := hv6 _ (List.mem_cons_of_mem _ (List.mem_cons_self ..))
      obtain ⟨t3, rfl, _, k3⟩ := hv6 _ (List.mem_cons_of_mem _ (List.mem_cons_of_mem _ (List.mem_cons_self ..)))
      refine ⟨Nat.zero_le _, fun z nz => ⟨(show 1 ≤ sizeLine by decide), fun y ny => ⟨y, 3, _, rfl, rfl, upd_same, by decide, by decide, (show 1 * 3 ≤ sizeLine by decide), fun x nx => ?_⟩⟩⟩
      have sx : ∀ {o : HO}, Same H6 (upd (upd (upd H6 z (.lst [])) y (.lst [.ref z])) x o) := fun {o} => (same_upd nz).trans ((same_upd ny).trans (same_upd nx))
      have hz : ∀ {o : HO}, (upd (upd (upd H6 z (.lst [])) y (.lst [.ref z])) x o) z = some (.lst []) := fun {o} => ((same_upd ny).trans (same_upd nx)) z _ upd_same
      refine ⟨.list [.list [], .list [], .list []], .list [.list [], .list [], .list []], .lst (SqL.of (sx _ _ hD6)) (.cons (.lst (SqL.of (sx _ _ k1)) .nil) (.cons (.lst (SqL.of (sx _ _ k2)) .nil) (.cons (.lst (SqL.of (sx _ _ k3)) .nil) .nil))),
        .lst (SqL.of upd_same) (.cons (.lst (SqL.of hz) .nil) (.cons (.lst (SqL.of hz) .nil) (.cons (.lst (SqL.of hz) .nil) .nil))), by decide, by decide, true, rfl, ?_⟩
      refine iteT ?_
      refine ⟨.ref m, rfl, m, _, 1, .ref b2, rfl, rfl, SqL.of (sx _ _ (s6 _ _ hm5)), rfl, b2, ca K "BadInput", _, _, true, rfl, (yb.mono s6).mono sx, T.ec "BadInput" (by decide +kernel), .own _, T.kit "BadInput" (by decide +kernel) "EditionError" (by decide +kernel), true, rfl, iteT ?_⟩
      exact ⟨.ref m, rfl, m, _, 1, .ref b2, rfl, rfl, SqL.of (sx _ _ (s6 _ _ hm5)), rfl, b2, ca K "BadInput", _, _, false, rfl, (yb.mono s6).mono sx, T.ec "BadInput" (by decide +kernel), .own _, T.kit "BadInput" (by decide +kernel) "NoAnswer" (by decide +kernel), false, rfl, q _⟩
end
end Law
set_option Elab.async false
set_option linter.all false
set_option maxRecDepth 100000
set_option maxHeartbeats 0
namespace Law
open PySem PySem.Spec PyProof.Rows L2
/-! ### the head -/
abbrev R : PySem.W.OpenRow := PySem.W.OpenLaw.row PySem.Challenge.rw_editionlines_k01_errors_and_their_fields
def iniD (x qual : Str) (i : Nat) : He.DefD := ⟨(x, some "__init__"), "__init__", qual, defArgs (inClass (top i) 0), defBody (inClass (top i) 0), defScope (inClass (top i) 0), [], []⟩
def funD (x : Str) (st : Stmt) : He.DefD := ⟨(x, none), x, x, defArgs st, defBody st, defScope st, [], []⟩
def fn1 : List He.DefD := [funD "_law_pen" sPen, funD "_law_draw" sDraw, funD "_law_pick" sPick, funD "_law_some" sSome, funD "_law_parted" sParted, funD "_law_valued" sValued, funD "_law_named" sNamed, funD "_law_kinds" sKinds, funD "_law_is_alone" sAlone, funD "_law_two_right" sTwo, funD "law" sLaw]
def fn2 : List He.DefD := [iniD "BadBook" "BadBook.__init__" 4, iniD "BadClause" "BadClause.__init__" 5, iniD "BadDeed" "BadDeed.__init__" 6, iniD "BadFact" "BadFact.__init__" 7, iniD "BadFix" "BadFix.__init__" 8, iniD "BadHistory" "BadHistory.__init__" 9, iniD "BadLine" "BadLine.__init__" 10, iniD "BadLiteral" "BadLiteral.__init__" 11, iniD "BadLot" "BadLot.__init__" 12, iniD "BadNeeds" "BadNeeds.__init__" 13, iniD "BadNumber" "BadNumber.__init__" 14, iniD "BadPlace" "BadPlace.__init__" 15, iniD "BadPrice" "BadPrice.__init__" 16, iniD "BadProject" "BadProject.__init__" 17, iniD "BadStanding" "BadStanding.__init__" 18, iniD "BadWay" "BadWay.__init__" 20, iniD "BadWeb" "BadWeb.__init__" 21, iniD "BadWish" "BadWish.__init__" 22, iniD "NoDay" "NoDay.__init__" 23, iniD "NoFix" "NoFix.__init__" 24, iniD "NoLine" "NoLine.__init__" 25, iniD "NoRelease" "NoRelease.__init__" 26, iniD "Ring" "Ring.__init__" 27, iniD "Barred" "Barred.__init__" 28, iniD "Undone" "Undone.__init__" 31, iniD "Unlike" "Unlike.__init__" 32, iniD "BadText" "BadText.__init__" 19, iniD "TooMany" "TooMany.__init__" 30]
def fn : List He.DefD := fn1 ++ fn2
def gloB (K : PySem.W.Frag) (x : Str) : Bool := decide (PySem.W.nsIn K mainGlobals x = some (some (.ref (He.ga K x))))
def freeB (K : PySem.W.Frag) (x : Str) : Bool := decide (PySem.W.nsIn K mainGlobals x = some none)
def inits : List Str := ["BadBook", "BadClause", "BadDeed", "BadFact", "BadFix", "BadHistory", "BadLine", "BadLiteral", "BadLot", "BadNeeds", "BadNumber", "BadPlace", "BadPrice", "BadProject", "BadStanding", "BadWay", "BadWeb", "BadWish", "NoDay", "NoFix", "NoLine", "NoRelease", "Ring", "Barred", "Undone", "Unlike", "BadText", "TooMany"]
def defNames : List Str := ["_law_pen", "_law_draw", "_law_pick", "_law_some", "_law_parted", "_law_valued", "_law_named", "_law_kinds", "_law_is_alone", "_law_two_right", "law"]
def exA (K : PySem.W.Frag) : Bool := sysB K && (bltNames.all (freeB K) && (names.all (gloB K) && (defNames.all (gloB K) && (names.all fun x => eccB K (He.ga K x)))))
def exB (K : PySem.W.Frag) : Bool := (inits.all fun x => oexCB K (He.ga K x)) && ((ones.all fun z => decide (PySem.W.findIn K (.ref (He.ga K z.1)) z.2 = some none)) && ((twos.all fun z => decide (PySem.W.findIn K (.ref (He.ga K z.1)) z.2.1 = some none) && decide (PySem.W.findIn K (.ref (He.ga K z.1)) z.2.2 = some none)) && (plains.all fun x => PySem.W.excIn K (He.ga K x) He.veBase "ValueError.__new__" && PySem.W.keepIn K (.ref (He.ga K x)))))
def exC (K : PySem.W.Frag) : Bool := (names.all fun x => names.all fun y => decide (PySem.W.kitOne K (.ref (He.ga K x)) (.ref (He.ga K y)) = some (below x y))) && (names.all fun x => decide (PySem.W.kitOne K (.ref (He.ga K x)) (.type "ValueError") = some true) && decide (PySem.W.kitOne K (.ref (He.ga K x)) (.type "LookupError") = some false))
def ex (K : PySem.W.Frag) : Bool := exA K && (exB K && exC K)
abbrev hk : PySem.W.Hook := hkS 6 fn ex
def loose1 : List Str := ["EditionError", "BadInput", "NoAnswer", "BadBook", "BadClause", "BadDeed", "BadFact", "BadFix", "BadHistory", "BadLine", "BadLiteral", "BadLot", "BadNeeds", "BadNumber", "BadPlace", "BadPrice", "BadProject", "BadStanding", "BadText", "BadWay"]
def loose2 : List Str := ["BadWeb", "BadWish", "NoDay", "NoFix", "NoLine", "NoRelease", "Ring", "Barred", "Nothing", "TooMany", "Undone", "Unlike", "_law_pen", "_law_draw", "_law_pick", "_law_some", "_law_parted", "_law_valued", "_law_named", "_law_kinds", "_law_is_alone", "_law_two_right"]
def loose : List Str := loose1 ++ loose2
theorem run (w : World) : HandSHeadRun.RunEq R (PySem.W.view R.prog [44]) hk (obS 6 fn ex) 10000 loose w := by
  intro os
  kernel_rfl

section
variable {P : Program} {w : World} {K : PySem.W.Frag} {mg : Str → Option Value} {base h : Heap}
theorem all_nil {α : Type} {p : α → Prop} : ∀ z ∈ ([] : List α), p z := fun z hz => by cases hz
theorem all_cons {α : Type} {p : α → Prop} {a : α} {l : List α} (ha : p a) (hl : ∀ z ∈ l, p z) : ∀ z ∈ a :: l, p z := List.forall_mem_cons.mpr ⟨ha, hl⟩
theorem all_of {α : Type} {p : α → Bool} {l : List α} (h : l.all p = true) : ∀ z ∈ l, p z = true := List.all_eq_true.mp h
theorem tx_of (X : K.In h) (G : h.Ns mainGlobals mg) (hx : ex K = true) (c : He.SaysD [] fn K) : Tx P w K mg base := by
  unfold ex exA exB exC at hx
  simp only [Bool.and_eq_true] at hx
  obtain ⟨⟨a1, a2, a3, a4, a5⟩, ⟨b1, b2, b3, b4⟩, c1, c2⟩ := hx
  have g : ∀ x ∈ names, mg x = some (.ref (ca K x)) := fun x hx => PySem.W.mg_of X G (of_decide_eq_true (all_of a3 x hx))
  have ec : ∀ x ∈ names, ExcC K (ca K x) := fun x hx => eccB_ok (all_of a5 x hx)
  have no : ∀ z ∈ ones, PySem.W.findIn K (.ref (ca K z.1)) z.2 = some none := fun z hz => of_decide_eq_true (all_of b2 z hz)
  refine ⟨fun x hx => PySem.W.mg_none_of X G (of_decide_eq_true (all_of a2 x hx)), sysB_ok a1, g, ec, fun x hx y hy => of_decide_eq_true (all_of (all_of c1 x hx) y hy), fun x hx => ?_, fun x hx => ?_, ?_, ?_, fun x hx => ?_⟩
  · exact of_decide_eq_true (Bool.and_eq_true_iff.mp (all_of c2 x hx)).1
  · exact of_decide_eq_true (Bool.and_eq_true_iff.mp (all_of c2 x hx)).2
  · refine all_cons (by
      obtain ⟨fd, F⟩ := c.def_ 11 (d := iniD "BadBook" "BadBook.__init__" 4) rfl
      exact mk_er1 (g "BadBook" (by decide +kernel)) (ec "BadBook" (by decide +kernel)) (all_of b1 "BadBook" (by decide +kernel)) (no ("BadBook", "part") (by decide +kernel)) F ⟨rfl, rfl, rfl, by decide +kernel, rfl, by decide +kernel, by decide +kernel⟩ (.inl rfl) (.inl rfl) (by decide) (by decide) ⟨_, _, _, _, rfl⟩ (fun _ _ _ _ _ _ _ _ => rfl) (fun _ _ _ _ _ _ _ _ => rfl)) ?_
    refine all_cons (by
      obtain ⟨fd, F⟩ := c.def_ 12 (d := iniD "BadClause" "BadClause.__init__" 5) rfl
      exact mk_er1 (g "BadClause" (by decide +kernel)) (ec "BadClause" (by decide +kernel)) (all_of b1 "BadClause" (by decide +kernel)) (no ("BadClause", "part") (by decide +kernel)) F ⟨rfl, rfl, rfl, by decide +kernel, rfl, by decide +kernel, by decide +kernel⟩ (.inl rfl) (.inl rfl) (by decide) (by decide) ⟨_, _, _, _, rfl⟩ (fun _ _ _ _ _ _ _ _ => rfl) (fun _ _ _ _ _ _ _ _ => rfl)) ?_
    refine all_cons (by
      obtain ⟨fd, F⟩ := c.def_ 13 (d := iniD "BadDeed" "BadDeed.__init__" 6) rfl
      exact mk_er1 (g "BadDeed" (by decide +kernel)) (ec "BadDeed" (by decide +kernel)) (all_of b1 "BadDeed" (by decide +kernel)) (no ("BadDeed", "at") (by decide +kernel)) F ⟨rfl, rfl, rfl, by decide +kernel, rfl, by decide +kernel, by decide +kernel⟩ (.inl rfl) (.inl rfl) (by decide) (by decide) ⟨_, _, _, _, rfl⟩ (fun _ _ _ _ _ _ _ _ => rfl) (fun _ _ _ _ _ _ _ _ => rfl)) ?_
    refine all_cons (by
      obtain ⟨fd, F⟩ := c.def_ 14 (d := iniD "BadFact" "BadFact.__init__" 7) rfl
      exact mk_er1 (g "BadFact" (by decide +kernel)) (ec "BadFact" (by decide +kernel)) (all_of b1 "BadFact" (by decide +kernel)) (no ("BadFact", "part") (by decide +kernel)) F ⟨rfl, rfl, rfl, by decide +kernel, rfl, by decide +kernel, by decide +kernel⟩ (.inl rfl) (.inl rfl) (by decide) (by decide) ⟨_, _, _, _, rfl⟩ (fun _ _ _ _ _ _ _ _ => rfl) (fun _ _ _ _ _ _ _ _ => rfl)) ?_
    refine all_cons (by
      obtain ⟨fd, F⟩ := c.def_ 15 (d := iniD "BadFix" "BadFix.__init__" 8) rfl
      exact mk_er1 (g "BadFix" (by decide +kernel)) (ec "BadFix" (by decide +kernel)) (all_of b1 "BadFix" (by decide +kernel)) (no ("BadFix", "value") (by decide +kernel)) F ⟨rfl, rfl, rfl, by decide +kernel, rfl, by decide +kernel, by decide +kernel⟩ (.inl rfl) (.inl rfl) (by decide) (by decide) ⟨_, _, _, _, rfl⟩ (fun _ _ _ _ _ _ _ _ => rfl) (fun _ _ _ _ _ _ _ _ => rfl)) ?_
    refine all_cons (by
      obtain ⟨fd, F⟩ := c.def_ 16 (d := iniD "BadHistory" "BadHistory.__init__" 9) rfl
      exact mk_er1 (g "BadHistory" (by decide +kernel)) (ec "BadHistory" (by decide +kernel)) (all_of b1 "BadHistory" (by decide +kernel)) (no ("BadHistory", "part") (by decide +kernel)) F ⟨rfl, rfl, rfl, by decide +kernel, rfl, by decide +kernel, by decide +kernel⟩ (.inl rfl) (.inl rfl) (by decide) (by decide) ⟨_, _, _, _, rfl⟩ (fun _ _ _ _ _ _ _ _ => rfl) (fun _ _ _ _ _ _ _ _ => rfl)) ?_
    refine all_cons (by
      obtain ⟨fd, F⟩ := c.def_ 17 (d := iniD "BadLine" "BadLine.__init__" 10) rfl
      exact mk_er1 (g "BadLine" (by decide +kernel)) (ec "BadLine" (by decide +kernel)) (all_of b1 "BadLine" (by decide +kernel)) (no ("BadLine", "word") (by decide +kernel)) F ⟨rfl, rfl, rfl, by decide +kernel, rfl, by decide +kernel, by decide +kernel⟩ (.inl rfl) (.inl rfl) (by decide) (by decide) ⟨_, _, _, _, rfl⟩ (fun _ _ _ _ _ _ _ _ => rfl) (fun _ _ _ _ _ _ _ _ => rfl)) ?_
    refine all_cons (by
      obtain ⟨fd, F⟩ := c.def_ 18 (d := iniD "BadLiteral" "BadLiteral.__init__" 11) rfl
      exact mk_er1 (g "BadLiteral" (by decide +kernel)) (ec "BadLiteral" (by decide +kernel)) (all_of b1 "BadLiteral" (by decide +kernel)) (no ("BadLiteral", "part") (by decide +kernel)) F ⟨rfl, rfl, rfl, by decide +kernel, rfl, by decide +kernel, by decide +kernel⟩ (.inl rfl) (.inl rfl) (by decide) (by decide) ⟨_, _, _, _, rfl⟩ (fun _ _ _ _ _ _ _ _ => rfl) (fun _ _ _ _ _ _ _ _ => rfl)) ?_
    refine all_cons (by
      obtain ⟨fd, F⟩ := c.def_ 19 (d := iniD "BadLot" "BadLot.__init__" 12) rfl
      exact mk_er1 (g "BadLot" (by decide +kernel)) (ec "BadLot" (by decide +kernel)) (all_of b1 "BadLot" (by decide +kernel)) (no ("BadLot", "part") (by decide +kernel)) F ⟨rfl, rfl, rfl, by decide +kernel, rfl, by decide +kernel, by decide +kernel⟩ (.inl rfl) (.inl rfl) (by decide) (by decide) ⟨_, _, _, _, rfl⟩ (fun _ _ _ _ _ _ _ _ => rfl) (fun _ _ _ _ _ _ _ _ => rfl)) ?_
    refine all_cons (by
      obtain ⟨fd, F⟩ := c.def_ 20 (d := iniD "BadNeeds" "BadNeeds.__init__" 13) rfl
      exact mk_er1 (g "BadNeeds" (by decide +kernel)) (ec "BadNeeds" (by decide +kernel)) (all_of b1 "BadNeeds" (by decide +kernel)) (no ("BadNeeds", "part") (by decide +kernel)) F ⟨rfl, rfl, rfl, by decide +kernel, rfl, by decide +kernel, by decide +kernel⟩ (.inl rfl) (.inl rfl) (by decide) (by decide) ⟨_, _, _, _, rfl⟩ (fun _ _ _ _ _ _ _ _ => rfl) (fun _ _ _ _ _ _ _ _ => rfl)) ?_
    refine all_cons (by
      obtain ⟨fd, F⟩ := c.def_ 21 (d := iniD "BadNumber" "BadNumber.__init__" 14) rfl
      exact mk_er1 (g "BadNumber" (by decide +kernel)) (ec "BadNumber" (by decide +kernel)) (all_of b1 "BadNumber" (by decide +kernel)) (no ("BadNumber", "value") (by decide +kernel)) F ⟨rfl, rfl, rfl, by decide +kernel, rfl, by decide +kernel, by decide +kernel⟩ (.inl rfl) (.inl rfl) (by decide) (by decide) ⟨_, _, _, _, rfl⟩ (fun _ _ _ _ _ _ _ _ => rfl) (fun _ _ _ _ _ _ _ _ => rfl)) ?_
    refine all_cons (by
      obtain ⟨fd, F⟩ := c.def_ 22 (d := iniD "BadPlace" "BadPlace.__init__" 15) rfl
      exact mk_er1 (g "BadPlace" (by decide +kernel)) (ec "BadPlace" (by decide +kernel)) (all_of b1 "BadPlace" (by decide +kernel)) (no ("BadPlace", "part") (by decide +kernel)) F ⟨rfl, rfl, rfl, by decide +kernel, rfl, by decide +kernel, by decide +kernel⟩ (.inl rfl) (.inl rfl) (by decide) (by decide) ⟨_, _, _, _, rfl⟩ (fun _ _ _ _ _ _ _ _ => rfl) (fun _ _ _ _ _ _ _ _ => rfl)) ?_
    refine all_cons (by
      obtain ⟨fd, F⟩ := c.def_ 23 (d := iniD "BadPrice" "BadPrice.__init__" 16) rfl
      exact mk_er1 (g "BadPrice" (by decide +kernel)) (ec "BadPrice" (by decide +kernel)) (all_of b1 "BadPrice" (by decide +kernel)) (no ("BadPrice", "value") (by decide +kernel)) F ⟨rfl, rfl, rfl, by decide +kernel, rfl, by decide +kernel, by decide +kernel⟩ (.inl rfl) (.inl rfl) (by decide) (by decide) ⟨_, _, _, _, rfl⟩ (fun _ _ _ _ _ _ _ _ => rfl) (fun _ _ _ _ _ _ _ _ => rfl)) ?_
    refine all_cons (by
      obtain ⟨fd, F⟩ := c.def_ 24 (d := iniD "BadProject" "BadProject.__init__" 17) rfl
      exact mk_er1 (g "BadProject" (by decide +kernel)) (ec "BadProject" (by decide +kernel)) (all_of b1 "BadProject" (by decide +kernel)) (no ("BadProject", "part") (by decide +kernel)) F ⟨rfl, rfl, rfl, by decide +kernel, rfl, by decide +kernel, by decide +kernel⟩ (.inl rfl) (.inl rfl) (by decide) (by decide) ⟨_, _, _, _, rfl⟩ (fun _ _ _ _ _ _ _ _ => rfl) (fun _ _ _ _ _ _ _ _ => rfl)) ?_
    refine all_cons (by
      obtain ⟨fd, F⟩ := c.def_ 25 (d := iniD "BadStanding" "BadStanding.__init__" 18) rfl
      exact mk_er1 (g "BadStanding" (by decide +kernel)) (ec "BadStanding" (by decide +kernel)) (all_of b1 "BadStanding" (by decide +kernel)) (no ("BadStanding", "part") (by decide +kernel)) F ⟨rfl, rfl, rfl, by decide +kernel, rfl, by decide +kernel, by decide +kernel⟩ (.inl rfl) (.inl rfl) (by decide) (by decide) ⟨_, _, _, _, rfl⟩ (fun _ _ _ _ _ _ _ _ => rfl) (fun _ _ _ _ _ _ _ _ => rfl)) ?_
    refine all_cons (by
      obtain ⟨fd, F⟩ := c.def_ 26 (d := iniD "BadWay" "BadWay.__init__" 20) rfl
      exact mk_er1 (g "BadWay" (by decide +kernel)) (ec "BadWay" (by decide +kernel)) (all_of b1 "BadWay" (by decide +kernel)) (no ("BadWay", "value") (by decide +kernel)) F ⟨rfl, rfl, rfl, by decide +kernel, rfl, by decide +kernel, by decide +kernel⟩ (.inl rfl) (.inl rfl) (by decide) (by decide) ⟨_, _, _, _, rfl⟩ (fun _ _ _ _ _ _ _ _ => rfl) (fun _ _ _ _ _ _ _ _ => rfl)) ?_
    refine all_cons (by
      obtain ⟨fd, F⟩ := c.def_ 27 (d := iniD "BadWeb" "BadWeb.__init__" 21) rfl
      exact mk_er1 (g "BadWeb" (by decide +kernel)) (ec "BadWeb" (by decide +kernel)) (all_of b1 "BadWeb" (by decide +kernel)) (no ("BadWeb", "part") (by decide +kernel)) F ⟨rfl, rfl, rfl, by decide +kernel, rfl, by decide +kernel, by decide +kernel⟩ (.inl rfl) (.inl rfl) (by decide) (by decide) ⟨_, _, _, _, rfl⟩ (fun _ _ _ _ _ _ _ _ => rfl) (fun _ _ _ _ _ _ _ _ => rfl)) ?_
    refine all_cons (by
      obtain ⟨fd, F⟩ := c.def_ 28 (d := iniD "BadWish" "BadWish.__init__" 22) rfl
      exact mk_er1 (g "BadWish" (by decide +kernel)) (ec "BadWish" (by decide +kernel)) (all_of b1 "BadWish" (by decide +kernel)) (no ("BadWish", "part") (by decide +kernel)) F ⟨rfl, rfl, rfl, by decide +kernel, rfl, by decide +kernel, by decide +kernel⟩ (.inl rfl) (.inl rfl) (by decide) (by decide) ⟨_, _, _, _, rfl⟩ (fun _ _ _ _ _ _ _ _ => rfl) (fun _ _ _ _ _ _ _ _ => rfl)) ?_
    refine all_cons (by
      obtain ⟨fd, F⟩ := c.def_ 29 (d := iniD "NoDay" "NoDay.__init__" 23) rfl
      exact mk_er1 (g "NoDay" (by decide +kernel)) (ec "NoDay" (by decide +kernel)) (all_of b1 "NoDay" (by decide +kernel)) (no ("NoDay", "day") (by decide +kernel)) F ⟨rfl, rfl, rfl, by decide +kernel, rfl, by decide +kernel, by decide +kernel⟩ (.inl rfl) (.inl rfl) (by decide) (by decide) ⟨_, _, _, _, rfl⟩ (fun _ _ _ _ _ _ _ _ => rfl) (fun _ _ _ _ _ _ _ _ => rfl)) ?_
    refine all_cons (by
      obtain ⟨fd, F⟩ := c.def_ 30 (d := iniD "NoFix" "NoFix.__init__" 24) rfl
      exact mk_er1 (g "NoFix" (by decide +kernel)) (ec "NoFix" (by decide +kernel)) (all_of b1 "NoFix" (by decide +kernel)) (no ("NoFix", "fix") (by decide +kernel)) F ⟨rfl, rfl, rfl, by decide +kernel, rfl, by decide +kernel, by decide +kernel⟩ (.inl rfl) (.inl rfl) (by decide) (by decide) ⟨_, _, _, _, rfl⟩ (fun _ _ _ _ _ _ _ _ => rfl) (fun _ _ _ _ _ _ _ _ => rfl)) ?_
    refine all_cons (by
      obtain ⟨fd, F⟩ := c.def_ 31 (d := iniD "NoLine" "NoLine.__init__" 25) rfl
      exact mk_er1 (g "NoLine" (by decide +kernel)) (ec "NoLine" (by decide +kernel)) (all_of b1 "NoLine" (by decide +kernel)) (no ("NoLine", "line") (by decide +kernel)) F ⟨rfl, rfl, rfl, by decide +kernel, rfl, by decide +kernel, by decide +kernel⟩ (.inl rfl) (.inl rfl) (by decide) (by decide) ⟨_, _, _, _, rfl⟩ (fun _ _ _ _ _ _ _ _ => rfl) (fun _ _ _ _ _ _ _ _ => rfl)) ?_
    refine all_cons (by
      obtain ⟨fd, F⟩ := c.def_ 32 (d := iniD "NoRelease" "NoRelease.__init__" 26) rfl
      exact mk_er1 (g "NoRelease" (by decide +kernel)) (ec "NoRelease" (by decide +kernel)) (all_of b1 "NoRelease" (by decide +kernel)) (no ("NoRelease", "number") (by decide +kernel)) F ⟨rfl, rfl, rfl, by decide +kernel, rfl, by decide +kernel, by decide +kernel⟩ (.inl rfl) (.inl rfl) (by decide) (by decide) ⟨_, _, _, _, rfl⟩ (fun _ _ _ _ _ _ _ _ => rfl) (fun _ _ _ _ _ _ _ _ => rfl)) ?_
    refine all_cons (by
      obtain ⟨fd, F⟩ := c.def_ 33 (d := iniD "Ring" "Ring.__init__" 27) rfl
      exact mk_er1 (g "Ring" (by decide +kernel)) (ec "Ring" (by decide +kernel)) (all_of b1 "Ring" (by decide +kernel)) (no ("Ring", "fix") (by decide +kernel)) F ⟨rfl, rfl, rfl, by decide +kernel, rfl, by decide +kernel, by decide +kernel⟩ (.inl rfl) (.inl rfl) (by decide) (by decide) ⟨_, _, _, _, rfl⟩ (fun _ _ _ _ _ _ _ _ => rfl) (fun _ _ _ _ _ _ _ _ => rfl)) ?_
    refine all_cons (by
      obtain ⟨fd, F⟩ := c.def_ 34 (d := iniD "Barred" "Barred.__init__" 28) rfl
      exact mk_er1 (g "Barred" (by decide +kernel)) (ec "Barred" (by decide +kernel)) (all_of b1 "Barred" (by decide +kernel)) (no ("Barred", "clause") (by decide +kernel)) F ⟨rfl, rfl, rfl, by decide +kernel, rfl, by decide +kernel, by decide +kernel⟩ (.inl rfl) (.inl rfl) (by decide) (by decide) ⟨_, _, _, _, rfl⟩ (fun _ _ _ _ _ _ _ _ => rfl) (fun _ _ _ _ _ _ _ _ => rfl)) ?_
    refine all_cons (by
      obtain ⟨fd, F⟩ := c.def_ 35 (d := iniD "Undone" "Undone.__init__" 31) rfl
      exact mk_er1 (g "Undone" (by decide +kernel)) (ec "Undone" (by decide +kernel)) (all_of b1 "Undone" (by decide +kernel)) (no ("Undone", "at") (by decide +kernel)) F ⟨rfl, rfl, rfl, by decide +kernel, rfl, by decide +kernel, by decide +kernel⟩ (.inl rfl) (.inl rfl) (by decide) (by decide) ⟨_, _, _, _, rfl⟩ (fun _ _ _ _ _ _ _ _ => rfl) (fun _ _ _ _ _ _ _ _ => rfl)) ?_
    refine all_cons (by
      obtain ⟨fd, F⟩ := c.def_ 36 (d := iniD "Unlike" "Unlike.__init__" 32) rfl
      exact mk_er1 (g "Unlike" (by decide +kernel)) (ec "Unlike" (by decide +kernel)) (all_of b1 "Unlike" (by decide +kernel)) (no ("Unlike", "part") (by decide +kernel)) F ⟨rfl, rfl, rfl, by decide +kernel, rfl, by decide +kernel, by decide +kernel⟩ (.inl rfl) (.inl rfl) (by decide) (by decide) ⟨_, _, _, _, rfl⟩ (fun _ _ _ _ _ _ _ _ => rfl) (fun _ _ _ _ _ _ _ _ => rfl)) ?_
    exact all_nil
  · refine all_cons (by
      obtain ⟨fd, F⟩ := c.def_ 37 (d := iniD "BadText" "BadText.__init__" 19) rfl
      obtain ⟨n1, n2⟩ := Bool.and_eq_true_iff.mp (all_of b3 ("BadText", "line", "word") (by decide +kernel))
      exact mk_er2 (g "BadText" (by decide +kernel)) (ec "BadText" (by decide +kernel)) (all_of b1 "BadText" (by decide +kernel)) (of_decide_eq_true n1) (of_decide_eq_true n2) F ⟨rfl, rfl, rfl, by decide +kernel, rfl, by decide +kernel, by decide +kernel⟩ (.inl rfl) (.inl rfl) (.inl rfl) (by decide) (by decide) (by decide) (by decide) ⟨_, _, _, _, _, _, _, _, rfl⟩ (fun _ _ _ _ _ _ _ _ _ => rfl) (fun _ _ _ _ _ _ _ _ _ => rfl)) ?_
    refine all_cons (by
      obtain ⟨fd, F⟩ := c.def_ 38 (d := iniD "TooMany" "TooMany.__init__" 30) rfl
      obtain ⟨n1, n2⟩ := Bool.and_eq_true_iff.mp (all_of b3 ("TooMany", "what", "most") (by decide +kernel))
      exact mk_er2 (g "TooMany" (by decide +kernel)) (ec "TooMany" (by decide +kernel)) (all_of b1 "TooMany" (by decide +kernel)) (of_decide_eq_true n1) (of_decide_eq_true n2) F ⟨rfl, rfl, rfl, by decide +kernel, rfl, by decide +kernel, by decide +kernel⟩ (.inl rfl) (.inl rfl) (.inl rfl) (by decide) (by decide) (by decide) (by decide) ⟨_, _, _, _, _, _, _, _, rfl⟩ (fun _ _ _ _ _ _ _ _ _ => rfl) (fun _ _ _ _ _ _ _ _ _ => rfl)) ?_
    exact all_nil
  · obtain ⟨e1, e2⟩ := Bool.and_eq_true_iff.mp (all_of b4 x hx)
    exact ⟨e1, e2⟩
theorem facts {f : Addr} (X : K.In h) (G : h.Ns mainGlobals mg) (hfa : mg ("law" : Str) = some (.ref f)) (hx : ex K = true) (c : He.SaysD [] fn K) :
    ∃ fd : FuncData, (∀ (s : Shared) (v : Value), BindsTo s fd ⟨[v], []⟩ [("_law_script", v)]) ∧ ∀ base : Heap, K.In base → base.Ns mainGlobals mg → FnG P w K mg base CX0 5 f fd ["_law_script"] (spLaw K) := by
  have gl : ∀ x ∈ defNames, mg x = some (.ref (He.ga K x)) := fun x hm => by
    unfold ex exA at hx
    simp only [Bool.and_eq_true] at hx
    exact PySem.W.mg_of X G (of_decide_eq_true (all_of hx.1.2.2.2.1 x hm))
  obtain ⟨dP, FP⟩ := c.def_ 0 (d := funD "_law_pen" sPen) rfl
  obtain ⟨dD, FD⟩ := c.def_ 1 (d := funD "_law_draw" sDraw) rfl
  obtain ⟨dI, FI⟩ := c.def_ 2 (d := funD "_law_pick" sPick) rfl
  obtain ⟨dS, FS⟩ := c.def_ 3 (d := funD "_law_some" sSome) rfl
  obtain ⟨dPa, FPa⟩ := c.def_ 4 (d := funD "_law_parted" sParted) rfl
  obtain ⟨dVa, FVa⟩ := c.def_ 5 (d := funD "_law_valued" sValued) rfl
  obtain ⟨dNa, FNa⟩ := c.def_ 6 (d := funD "_law_named" sNamed) rfl
  obtain ⟨dK, FK⟩ := c.def_ 7 (d := funD "_law_kinds" sKinds) rfl
  obtain ⟨dA, FA⟩ := c.def_ 8 (d := funD "_law_is_alone" sAlone) rfl
  obtain ⟨dT, FT⟩ := c.def_ 9 (d := funD "_law_two_right" sTwo) rfl
  obtain ⟨dL, FL⟩ := c.def_ 10 (d := funD "law" sLaw) rfl
  have e := hfa.symm.trans (gl "law" (by decide +kernel))
  cases e
  have b := FunD.bindsA (ps := ["_law_script"]) FL fun _ _ _ _ _ _ us hl => match us, hl with | [_], _ => rfl
  exact ⟨dL, fun s v => b s [v] rfl, fun base _ _ => ok_law FL ⟨FP, FD, FI, FS, FPa, FVa, FNa, FK, FA, FT, gl "_law_pen" (by decide +kernel), gl "_law_draw" (by decide +kernel), gl "_law_pick" (by decide +kernel), gl "_law_some" (by decide +kernel), gl "_law_parted" (by decide +kernel), gl "_law_valued" (by decide +kernel), gl "_law_named" (by decide +kernel), gl "_law_kinds" (by decide +kernel), gl "_law_is_alone" (by decide +kernel), gl "_law_two_right" (by decide +kernel)⟩ (tx_of X G hx c)⟩
end
end Law
open PySem PySem.W PySem.Calls PyProof.Rows
theorem PySem.Challenge.cw_editionlines_k01_errors_and_their_fields_holds : PySem.Challenge.rw_editionlines_k01_errors_and_their_fields.Holds := by
  w_on; o_law
  refine HandSHeadRun.head_any (r := Law.R) (q := view Law.R.prog [44]) (H := Law.hk) (ob := L2.obS 6 Law.fn Law.ex) (M := 10000) (loose := Law.loose) (d := HandSHeadRun.topDef Law.R.prog 44) (kwd := []) L2.obS_eq
    (by kernel_rfl) (fun s => by kernel_rfl) Law.run (by kernel_rfl) (by kernel_rfl) (by kernel_rfl) (by rfl) (by first | assumption | decide +kernel) (by decide +kernel) ⟨rfl, rfl, rfl, rfl, rfl, by decide +kernel⟩ ?hw ?hc
  case hw => w_witness2
  case hc =>
    refine L2.walk_ofG (l := PySem.Challenge.rw_editionlines_k01_errors_and_their_fields) (n := 63) (k := 5) (x := "_law_script") rfl (by decide) (by kernel_rfl) ⟨rfl, by decide, by decide⟩ ?F
    intro w mg fa h Y G hmg0
    obtain ⟨K, KX, hx, c⟩ := Y
    have hmg : mg ("law" : PySem.Str) = some (.ref fa) := by
      have e : (HandSHeadRun.topDef Law.R.prog 44).name = ("law" : PySem.Str) := by kernel_rfl
      rw [← e]
      exact hmg0
    obtain ⟨fd, hb, hF⟩ := Law.facts (P := (PySem.Challenge.rw_editionlines_k01_errors_and_their_fields).prog) (w := w) KX G hmg hx c
    exact ⟨K, fd, Law.spLaw K, KX, hb, fun H a ns hl _ hS => ⟨a, ns, rfl, hS, hl, fun _ => rfl⟩, hF⟩
