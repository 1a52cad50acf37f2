import PyProof.Rows.All
import Wide.All
import OpenK.AllK
import Wide.FinOn
import KE.KIsAll
import KE.KTryMore
import KE.KExcIs
import HandS.ForMost
import HandS.ForExc
import HandS.ExcInit
import HandS.ExcIs
import HandS.IsInst
import HandS.Defaults
import HandS.MakeKw
import HandS.MakeKwOnly
import HandS.ExcValue
import HandS.ExcBuiltin
import HandS.Walk
import HandS.Flow
import PySem.Challenge.RW_oldclients_k20_exceptions
set_option Elab.async false
set_option linter.all false
set_option maxRecDepth 100000
set_option maxHeartbeats 4000000
/-! OcExcA: own exception classes made by position and by keyword, as values. -/
namespace OC
open PySem PySem.W PySem.HandSPX
section
variable {M : Model} {A : Around} {E : Value → Shared → Prop} {h : Heap} {g : Array GenState} {d : Drawn} {t : Nat} {os : OsState}
variable {nm q : Str} {C N : Addr} {bs bm bmB : List Value} {hdct : Bool} {sn : List Str} {sub : List Value} {ab : Bool} {col : Option Bool} {dd : Option Addr} {k0 k1 k2 k3 k5 : Option Value} {B newId initId : String}
/-- the call of the built-in maker, keywords too -/
theorem chkNewKw (F : ExcBaseFacts B newId initId bmB) (hT : ∀ X : String, bm.contains (.type X) = bmB.contains (.type X)) {rest : List Value} {kw : List (Str × Value)} {Q : Unit → Shared → Prop}
    (hC : h.get? C = some (excClassObj nm q C N bs bm hdct sn sub ab col dd k0 k1 k2 k3 k5 newId)) (hq : Q () ⟨h, g, d, t, os⟩) : wpAny M A (checkBuiltinCall newId ⟨.ref C :: rest, kw⟩) Q E ⟨h, g, d, t, os⟩ := by
  have hB : (Value.ref C :: bm).contains (.type B) = true := by { rw [List.contains_cons, hT, F.hasB, Bool.or_true] }
  have hS := F.noStar
  simp only [checkBuiltinCall, F.newKind, F.newSplit, F.newRow]
  repeat (first | refine wpAny_loadPart_at hC ?_ | (refine wpAny_isSubtype_exc hC ?_; rw [hB]) | refine wpAny_staticBase_exc hC ?_ | refine wpAny_madeBy_exc hC ?_ | (simp only [bne_self_eq_false, Bool.false_eq_true, if_false]) | wp_step)
  exact hq
theorem chkCallKw {rest : List Value} {kw : List (Str × Value)} {Q : Unit → Shared → Prop} (hC : h.get? C = some (excClassObj nm q C N bs bm hdct sn sub ab col dd k0 k1 k2 k3 k5 newId))
    (hq : Q () ⟨h, g, d, t, os⟩) : wpAny M A (checkBuiltinCall "type.__call__" ⟨.ref C :: rest, kw⟩) Q E ⟨h, g, d, t, os⟩ := by
  have hS := tc_sub
  have hT : (⟨h, g, d, t, os⟩ : Shared).TypeIs (.ref C) "type" := ⟨_, hC, by rfl⟩
  simp only [checkBuiltinCall, tc_kind, tc_split]
  repeat (any_goals (first | assumption | (with_reducible refine wpAny_loadPart_at hC ?_) | (with_reducible refine wpAny_onRaise ?_) | (with_reducible refine wpAny_map ?_) | wp_step))
end
section
variable {prog : Program} {w : World} {A : Around} {E : Value → Shared → Prop} {R : Result → Shared → Prop} {h : Heap} {g : Array GenState} {d : Drawn} {t : Nat} {os : OsState}
variable {nm q : Str} {C N : Addr} {bs bm bmB : List Value} {hdct : Bool} {sn : List Str} {sub : List Value} {ab : Bool} {col : Option Bool} {dd : Option Addr} {k0 k1 k2 k3 k5 : Option Value} {B newId initId : String}
theorem newKw (F : ExcBaseFacts B newId initId bmB) (hT : ∀ X : String, bm.contains (.type X) = bmB.contains (.type X)) {rest : List Value} {kw : List (Str × Value)}
    (hC : h.get? C = some (excClassObj nm q C N bs bm hdct sn sub ab col dd k0 k1 k2 k3 k5 newId))
    (hq : R (.ok (.ret (.ref (h.objs.size + 1)))) ⟨(h.push (kdv_tup rest)).push (excO C h.objs.size), g, d, t, os⟩) (hrest : rest.length ≤ sizeLine) :
    codeAny (model prog w) A (.builtin newId ⟨.ref C :: rest, kw⟩) R ⟨h, g, d, t, os⟩ := by
  have hE := F.ends
  have hB : (Value.ref C :: bm).contains (.type B) = true := by { rw [List.contains_cons, hT, F.hasB, Bool.or_true] }
  have hA : (Value.ref C :: bm).contains (.type "AttributeError") = false := by { rw [List.contains_cons, hT, F.noAttr]; rfl }
  have hN : (Value.ref C :: bm).contains (.type "NameError") = false := by { rw [List.contains_cons, hT, F.noName]; rfl }
  refine codeAny_builtinAt F.entry ?_
  unfold Builtin.«BaseException.__new__»; refine PySem.wpAt_bind ?_
  show PySem.wpAt _ _ _ (stack >>= _) _ _ _
  refine PySem.wpAt_bind (wpAt_stack fun p below => wpAt_of_wpAny ?_); wp_walk
  refine wpAt_of_wpAny ?_; rw [F.owner]
  repeat (first | (with_reducible refine wpAny_madeHere_exc F.canon hC ?_) | (with_reducible refine wpAny_loadPart_at hC ?_) | ((with_reducible refine wpAny_isSubtype_exc hC ?_); first | rw [hB] | rw [hA] | rw [hN]) | wp_step)
  show R _ _; rw [Heap.size_push]; exact hq
theorem typeCallKw (F : ExcBaseFacts B newId initId bmB) (hT : ∀ X : String, bm.contains (.type X) = bmB.contains (.type X)) {rest : List Value} {kw : List (Str × Value)} {fI : Addr} {Q : Fin → Shared → Prop}
    (hC : h.get? C = some (excClassObj nm q C N bs bm hdct sn sub ab col dd k0 k1 k2 k3 k5 newId))
    (hi : Looks (model prog w) h (typeLookup (.ref C) "__init__") (some (.ref fI))) (hb : ∀ self, Looks (model prog w) h (bindSpecial (.ref fI) self) (.ref fI, [self])) (hrest : rest.length ≤ sizeLine)
    (hq : codeAny (model prog w) A (.call (.ref fI) ⟨.ref (h.objs.size + 1) :: rest, kw⟩)
      (fun r s' => match r with | .ok (.ret v) => v = .none ∧ Q (.done (.ret (.ref (h.objs.size + 1)))) s' | .ok _ => False | .error e => E e s')
      ⟨(h.push (kdv_tup rest)).push (excO C h.objs.size), g, d, t, os⟩) :
    wpAny (model prog w) A (Builtin.«type.__call__» ⟨.ref C :: rest, kw⟩) Q E ⟨h, g, d, t, os⟩ := by
  repeat (first | (with_reducible refine wpAny_loadPart_at hC ?_) | (with_reducible refine wpAny_madeBy_exc hC ?_) | wp_step)
  refine codeAny_call_builtin_code (Code.quiet_builtin _ F.quiet) (chkNewKw F hT hC ?_)
  refine newKw F hT hC ?_ hrest
  show wpAny _ _ _ _ _ _
  have k : ∀ b o, h.get? b = some o → ((h.push (kdv_tup rest)).push (excO C h.objs.size)).get? b = some o := fun b o z => Heap.get?_push_of_some _ (Heap.get?_push_of_some _ z)
  have hC1 := k _ _ hC
  have hget : ((h.push (kdv_tup rest)).push (excO C h.objs.size)).get? (h.objs.size + 1) = some (excO C h.objs.size) := by { heap_get }
  have hcC : (Value.ref C :: bm).contains (.ref C) = true := by { simp }
  have i1 := hi.keeps k
  have b1 := (hb (.ref (h.objs.size + 1))).keeps k
  unfold isInstance
  repeat (first | (with_reducible refine wpAny_loadPart_at hget ?_) | ((with_reducible refine wpAny_isSubtype_exc hC1 ?_); rw [hcC]) | wp_step)
  show wpAny _ _ (typeLookup (.ref C) _) _ _ _
  refine i1.at ?_; refine wpAny_holding (wpAny_bind (b1.at ?_))
  refine wpAny_bind (wpAny_call (codeAny_mono hq fun r s' z => ?_))
  rcases r with e | (v | _ | _ | _) <;> first | exact z | exact z.elim | skip
  obtain ⟨rfl, z⟩ := z
  first | exact wpAny_pure (wpAny_pure z) | (wp_walk; exact z)
theorem callOwnKw (F : ExcBaseFacts B newId initId bmB) (hT : ∀ X : String, bm.contains (.type X) = bmB.contains (.type X)) {rest : List Value} {kw : List (Str × Value)} {fI : Addr}
    (hC : h.get? C = some (excClassObj nm q C N bs bm hdct sn sub ab col dd k0 k1 k2 k3 k5 newId))
    (hi : Looks (model prog w) h (typeLookup (.ref C) "__init__") (some (.ref fI))) (hb : ∀ self, Looks (model prog w) h (bindSpecial (.ref fI) self) (.ref fI, [self])) (hrest : rest.length ≤ sizeLine)
    (hq : codeAny (model prog w) (A.under (.builtin "type.__call__" ⟨.ref C :: rest, kw⟩)) (.call (.ref fI) ⟨.ref (h.objs.size + 1) :: rest, kw⟩) (InitBack (h.objs.size + 1) R)
      ⟨(h.push (kdv_tup rest)).push (excO C h.objs.size), g, d, t, os⟩) :
    codeAny (model prog w) A (.call (.ref C) ⟨rest, kw⟩) R ⟨h, g, d, t, os⟩ := by
  have f1 := tc_lookup
  have f2 := tc_bind (.ref C)
  have hTy : (⟨h, g, d, t, os⟩ : Shared).TypeIs (.ref C) "type" := ⟨_, hC, by rfl⟩
  refine codeAny_of_tree ?_
  show wpAny _ _ (callAny (.ref C) _) _ _ _
  repeat (any_goals (first | assumption | (with_reducible refine wpAny_loadPart_at hC ?_) | wp_step))
  refine ⟨rfl, ?_⟩
  refine codeAny_call_builtin_at (Code.quiet_builtin _ (by decide +kernel)) entry_typeCall (chkCallKw hC (typeCallKw F hT hC hi hb hrest ?_))
  refine codeAny_mono hq fun r s' z => ?_
  rcases r with e | (v | _ | _ | _) <;> exact z
end
end OC


set_option Elab.async false
set_option linter.all false
set_option maxRecDepth 100000
set_option maxHeartbeats 4000000
/-! OcExcB: rules of the layer for own exceptions as values: made, their fields read, isinstance. -/
namespace OC
open PySem L2
/-- an exception of the class at C with the fields fs (the last stored first) stands at a -/
def ExAt (H : Hp) (a C : Addr) (fs : List (Str × V)) : Prop := ∃ d, H a = some (exo a C (some d)) ∧ H d = some (exd d fs)
theorem ExAt.same {H H' : Hp} {a C : Addr} {fs : List (Str × V)} (h : ExAt H a C fs) (s : Same H H') : ExAt H' a C fs := by
  obtain ⟨d, h1, h2⟩ := h
  exact ⟨d, s _ _ h1, s _ _ h2⟩
/-- what the written part says of an own exception class, CO its base -/
structure XC (K : PySem.W.Frag) (CO C : Addr) : Prop where
  cls : ∃ nm q N bs sn sub ab col dd k0 k1 k2 k3 k5, K.lookup C = some (excClassObj nm q C N bs (.ref CO :: PySem.HandSPX.veTail) true sn sub ab col dd k0 k1 k2 k3 k5 "ValueError.__new__")
  sa : PySem.W.findIn K (.ref C) "__setattr__" = some (some (.builtin "object.__setattr__"))
  ga : PySem.W.findIn K (.ref C) "__getattribute__" = some (some (.builtin "BaseException.__getattribute__"))
  gg : PySem.W.findIn K (.ref C) "__getattr__" = some none
  ca : PySem.W.findIn K (.ref C) "__class__" = some (some (.builtin "object.__class__"))
  ty : PySem.W.typeIn K (.ref C) = some (.type "type")
  kp : PySem.W.keepIn K (.ref C) = true
/-- what it says of all -/
structure XG (K : PySem.W.Frag) : Prop where
  hn : PySem.W.specialIn K (.builtin "object.__class__") "__get__" = some (some (.builtin "getset_descriptor.__get__"))
  ht : PySem.W.takesIn K (.builtin "object.__class__") = some true
section
variable {K : PySem.W.Frag} {CO C : Addr}
theorem XC.cd (T : XC K CO C) : ∃ cd, PySem.W.clsIn K C = some cd ∧ cd.mro = .ref C :: .ref CO :: PySem.HandSPX.veTail ∧ cd.hasDict = true := by
  obtain ⟨nm, q, N, bs, sn, sub, ab, col, dd, k0, k1, k2, k3, k5, hC⟩ := T.cls
  exact ⟨_, (by unfold PySem.W.clsIn; rw [hC]), rfl, rfl⟩
theorem XC.mro (T : XC K CO C) (b : Value) : PySem.W.mroIn K C b = some ((Value.ref C :: .ref CO :: PySem.HandSPX.veTail).contains b) := by
  obtain ⟨cd, e1, e2, _⟩ := T.cd
  unfold PySem.W.mroIn; rw [e1, Option.bind_some, e2]; rfl
theorem XC.hd (T : XC K CO C) : PySem.W.hasDictIn K C = true := by
  obtain ⟨cd, e1, _, e3⟩ := T.cd
  unfold PySem.W.hasDictIn; rw [e1]; exact e3
theorem XC.ex (T : XC K CO C) : PySem.W.subIn K (.ref C) (.type "BaseException") = some true := by
  show PySem.W.mroIn K C _ = _
  rw [T.mro, List.contains_cons, List.contains_cons]; rfl
theorem XC.oex (T : XC K CO C) : OexC K C := by
  obtain ⟨nm, q, N, bs, sn, sub, ab, col, dd, k0, k1, k2, k3, k5, hC⟩ := T.cls
  exact ⟨⟨nm, q, N, bs, _, sn, sub, ab, col, dd, k0, k1, k2, k3, k5, hC, rfl⟩, T.sa, T.ex, T.ty, T.kp⟩
theorem XC.some (T : XC K CO C) : (PySem.W.clsIn K C).isSome = true := by
  obtain ⟨cd, e1, _⟩ := T.cd
  rw [e1]; rfl
/-- isinstance of an exception of the class C against such a class D -/
theorem XC.kit {D : Addr} (T : XC K CO C) (U : XC K CO D) (h0 : D ≠ CO) : PySem.W.kitOne K (.ref C) (.ref D) = Option.some (decide (C = D)) := by
  unfold PySem.W.kitOne
  by_cases e : C = D
  · subst e; rw [if_pos (by simp)]; simp
  · rw [if_neg (by simpa using e)]
    show (if ((PySem.W.clsIn K D).isSome && PySem.W.typeIn K (.ref D) == Option.some (.type "type")) = true then PySem.W.subIn K (.ref C) (.ref D) else none) = _
    rw [U.some, U.ty, if_pos (by rfl)]
    show PySem.W.mroIn K C _ = _
    rw [T.mro, List.contains_cons, List.contains_cons]
    have h1 : (Value.ref D == Value.ref C) = false := by simpa using fun z : D = C => e z.symm
    have h2 : (Value.ref D == Value.ref CO) = false := by simpa using h0
    rw [h1, h2, decide_eq_false e]; rfl
end
section
variable {X : Cx} {pins : List (Addr × Obj)} {σ : St} {H : Hp} {s : Shared} {a C CO : Addr} {fs : List (Str × V)}
theorem ExAt.inst (I : Inv X pins σ H s) (h : ExAt H a C fs) : ∃ (ox od : Obj) (mA : Str → Option Value), PySem.W.InstAt s.heap a ox C (some od) ∧ (∀ n, PySem.W.lookIn n od = some (mA n)) ∧ ∀ f, RelO (fs.lookup f) (mA f) := by
  obtain ⟨d, h1, h2⟩ := h
  obtain ⟨t1, ho⟩ := exo_at I.hok h1
  obtain ⟨mA, hns, rel⟩ := exd_at I.hok h2
  obtain ⟨od, hod, hl⟩ := lookIn_ns hns
  exact ⟨_, od, mA, ⟨ho, rfl, rfl, hod⟩, hl, rel⟩
end
/-- e.f of an exception -/
def tExf (K : PySem.W.Frag) (CO : Addr) (f : Str) (te : TE) : TE := fun σ H Q => te σ H fun x H1 => ∃ (a C : Addr) (fs : List (Str × V)) (v : V), x = .ref a ∧ XC K CO C ∧ PySem.W.findIn K (.ref C) f = some none ∧ ExAt H1 a C fs ∧ fs.lookup f = some v ∧ Q v H1
theorem pe_exf {X : Cx} {CO : Addr} {e : Expr} {te : TE} {f : Str} {pos : Pos} (he : PE X e te) (hb : attributeBase e f X.env (eval e X.env) = eval e X.env := by rfl) : PE X (.Attribute e f pos) (tExf X.K CO f te) := by
  refine ⟨fun pins s σ H Q I h => ?_⟩
  refine attr_of hb (thn (he.run pins s σ H _ I h) fun u s1 hh => ?_)
  obtain ⟨x, H1, I1, rx, a, C, fs, v, ex, T, hno, hE, hv, q⟩ := hh
  subst ex
  obtain rfl : u = Value.ref a := rx
  obtain ⟨ox, od, mA, J, hl, rel⟩ := hE.inst I1
  obtain ⟨z, hz, rz⟩ := RelO.some_of (v := v) (o := mA f) (by rw [← hv]; exact rel f)
  exact HandSPX.exc_get I1.kIn J T.ga T.gg T.ex (PySem.W.findObj_own T.hd hno rfl (by rw [hl, hz])) (handed_of rz) ⟨v, H1, I1.tok _, rz, q⟩
/-- isinstance(e, c) -/
def rIsX (K : PySem.W.Frag) (CO : Addr) : List V → Hp → VK → Prop := fun xs H Q => ∃ (a C : Addr) (fs : List (Str × V)) (c : V) (u : Value) (b : Bool), xs = [.ref a, c] ∧ ClsV c u ∧ XG K ∧ XC K CO C ∧ ExAt H a C fs ∧ PySem.W.kitOne K (.ref C) u = some b ∧ Q (.bl b) H
theorem call_isX {X : Cx} {CO : Addr} : CallR X (.builtin "isinstance") (rIsX X.K CO) := by
  intro pins s σ H xs us Q I r h
  obtain ⟨a, C, fs, c, u, b, rfl, k, G, T, hE, e, q⟩ := h
  obtain ⟨u1, u2, rfl, r1, r2⟩ := vals2 r
  have e2 := k.eq r2; subst e2
  obtain rfl : u1 = Value.ref a := r1
  obtain ⟨ox, od, mA, J, _, _⟩ := hE.inst I
  have hm : PySem.W.mroIn X.K C (.type "object") = some true := by { rw [T.mro, List.contains_cons, List.contains_cons]; rfl }
  exact PySem.W.kia_one (PySem.W.kitx_exc (ox := ox) (od := some od) T.some T.ga T.gg T.ex T.ca G.hn G.ht hm) I.kIn J e (fun z => nomatch z) fun tk => ⟨.bl b, H, I.tok tk, rfl, q⟩
/-- CO.__init__(self, ..) -/
theorem pe_coinit {X : Cx} {CO : Addr} {x : Str} {e : Expr} {es : List Expr} {ta : TA} {p1 p2 pos : Pos} {pl : Sem Bool} (hg : Gl X x) (hm : X.mg x = some (.ref CO)) (hs : PySem.W.specialIn X.K (.ref CO) "__getattribute__" = some (some (.builtin "type.__getattribute__")))
    (hr : PySem.W.readsIn X.K CO (.type "type") = true) (hf : PySem.W.findCls X.K (.ref CO) (.type "type") "__init__" = some (.val (.builtin "ValueError.__init__"))) (ha : PA X (e :: es) ta)
    (hc : eval (.Call (.Attribute (.Name x p1) "__init__" p2) (e :: es) [] pos) X.env = (do
      let ov ← eval (.Name x p1) X.env
      standAt p2.atName
      let (f, first) ← holding [ov] (getMethod ov "__init__" pl)
      callWith pos f first (backTo pos (starEach (e :: es) X.env)) (backToKw pos (keywordEach [] X.env))) := by rfl)
    (hd : (x == ("__debug__" : Str)) = false := by decide)
    (he : starEach (e :: es) X.env = (false, eval e X.env) :: starEach es X.env := by rfl) (hpl : (backTo pos (starEach es X.env)).any (·.1) = false := by rfl) :
    PE X (.Call (.Attribute (.Name x p1) "__init__" p2) (e :: es) [] pos) (tVeI X.K ta) := by
  refine ⟨fun pins s σ H Q I h => ?_⟩
  refine PySem.W.methodCall_KW (ld_glob I hg hm ?_ hd) hc
  obtain ⟨m, fr⟩ := I.fr
  refine PySem.W.method_of_cls fr I.ok.mod.kin hs (PySem.W.cls_value I.kIn hr hf (by decide +kernel) ?_)
  show wpAny _ _ (callWith pos (Value.builtin "ValueError.__init__") [] (backTo pos (starEach (e :: es) X.env)) []) _ _ _
  refine PyProof.Rows.callWith_method1 (thn (ha.run pos pins _ σ H _ (I.tok _) h) fun us s1 ⟨vs, H1, I1, r1, a, C, ws, ev, hl, T, ea, q⟩ => ?_) he hpl
  subst ev
  cases r1 with
  | @cons _ u0 _ ur ra rw' =>
    obtain rfl : u0 = Value.ref a := ra
    exact oinit_ok T I1 ea (by rw [← Paired.length rw', sizeLine_eq]; omega) fun s' J => ⟨.non, H1, J, rfl, q⟩
/-- C(e, .., k = v, ..) of an own exception class: its own __init__ keeps sp -/
def tMkX (C : Addr) (n m : Nat) (sp : Sp) (gV : List V → List V → List V) (ta tk : TA) : TE := fun σ H Q => ta σ H fun vs H1 => tk σ H1 fun zs H2 => vs.length = n ∧ zs.length = m ∧ vs.length ≤ 1000 ∧
  ∀ a, H2 a = none → sp (gV (.ref a :: vs) zs) (upd H2 a (exo a C none)) (fun v H3 => v = .non ∧ Q (.ref a) H3) E0
section
variable {X : Cx} {k n : Nat} {fI C CO : Addr} {fd : FuncData} {ps ks : List Str} {sp : Sp} {x : Str} {p pos : Pos} {e : Expr} {es : List Expr} {kws : List Keyword} {ta tk : TA} {g : List Value → List Value → List Value} {gV : List V → List V → List V}
theorem run_mkX {pins : List (Addr × Obj)} {σ : St} {H : Hp} {s : Shared} {Q : VK} {us ws : List Value} {vs zs : List V} (T : XC X.K CO C) (iC : PySem.W.findIn X.K (.ref C) "__init__" = some (some (.ref fI))) (tI : PySem.W.typeIn X.K (.ref fI) = some (.type "function"))
    (F1 : FnOk X.prog X.w X.K X.mg X.base CX0 k fI fd ps sp) (hr : Room (k + 1) X.A) (hb : KBn X.K fd ps (n + 1) ks g gV) (I : Inv X pins σ H s) (r : Vals vs us) (rz : Vals zs ws) (l1 : vs.length = n) (l2 : zs.length = ks.length) (l3 : vs.length ≤ 1000)
    (h : ∀ a, H a = none → sp (gV (.ref a :: vs) zs) (upd H a (exo a C none)) (fun v H3 => v = .non ∧ Q (.ref a) H3) E0) :
    wpAny (model X.prog X.w) X.A (call (.ref C) us (ks.zip ws)) (EP X pins σ Q) X.xe s := by
  obtain ⟨nm, q, N, bs, sn, sub, ab, col, dd, k0, k1, k2, k3, k5, hC⟩ := T.cls
  obtain ⟨hp, g0, dr, tk0, os⟩ := s
  have hsz : hp.objs.size ≤ hp.objs.size + 1 := Nat.le_succ _
  have hq := h (hp.objs.size + 1) (I.hok.fresh hsz)
  have kk : ∀ b o, hp.get? b = some o → ((hp.push (PySem.W.kdv_tup us)).push (PySem.HandSPX.excO C hp.objs.size)).get? b = some o := fun b o z => Heap.get?_push_of_some _ (Heap.get?_push_of_some _ z)
  have hget : ((hp.push (PySem.W.kdv_tup us)).push (PySem.HandSPX.excO C hp.objs.size)).get? (hp.objs.size + 1) = some (PySem.HandSPX.excO C hp.objs.size) := by { heap_get }
  have I2 : Inv X pins σ (upd H (hp.objs.size + 1) (exo (hp.objs.size + 1) C none)) ⟨(hp.push (PySem.W.kdv_tup us)).push (PySem.HandSPX.excO C hp.objs.size), g0, dr, tk0, os⟩ := I.laid (t' := tk0) kk hsz (exo_ok hget)
  have r1 : Vals (V.ref (hp.objs.size + 1) :: vs) (Value.ref (hp.objs.size + 1) :: us) := .cons rfl r
  have r2 := hb.rel r1 rz
  have n1 : (Value.ref (hp.objs.size + 1) :: us).length = n + 1 := by { rw [List.length_cons, ← r.length, l1] }
  refine wpAny_call (callOwnKw F.excBase_ValueError (fun Y => PySem.HandSPX.refsVE_contains Y _ rfl) (I.kIn _ _ hC) (PySem.W.looks_findIn I.kIn iC) (fun self => PySem.W.bind_fn I.kIn self tI) (by rw [← r.length, sizeLine_eq]; omega)
    (codeAny_mono (F1.run _ X.stack _ _ ⟨Value.ref (hp.objs.size + 1) :: us, ks.zip ws⟩ (g (Value.ref (hp.objs.size + 1) :: us) ws) _ _ E0 (hr.make C us (ks.zip ws)) (I2.env0.make C us (ks.zip ws)) (hb.to _ (Value.ref (hp.objs.size + 1) :: us) ws I2.kIn n1 (rz.length.symm.trans l2)) r2 hq) fun rr s' hq' => ?_))
  cases rr with
  | error er => exact (pass0 (X := X)) pins σ _ _ er s' I2 hq'
  | ok fl =>
    cases fl with
    | ret u =>
      obtain ⟨v, H', I3, rv, ev, q3⟩ := I2.after hq'
      subst ev
      exact ⟨rv, ⟨V.ref (hp.objs.size + 1), H', I3, rfl, q3⟩⟩
    | next => exact False.elim hq'
    | brk => exact False.elim hq'
    | cont => exact False.elim hq'
theorem pe_mkX (T : XC X.K CO C) (iC : PySem.W.findIn X.K (.ref C) "__init__" = some (some (.ref fI))) (tI : PySem.W.typeIn X.K (.ref fI) = some (.type "function")) (F1 : FnOk X.prog X.w X.K X.mg X.base CX0 k fI fd ps sp) (hr : Room (k + 1) X.A)
    (hb : KBn X.K fd ps (n + 1) [] g gV) (hg : Gl X x) (hm : X.mg x = some (.ref C)) (ha : PA X (e :: es) ta)
    (hdb : (x == ("__debug__" : Str)) = false := by decide) (he : starEach (e :: es) X.env = (false, eval e X.env) :: starEach es X.env := by rfl) (hpl : (backTo pos (starEach es X.env)).any (·.1) = false := by rfl) :
    PE X (.Call (.Name x p) (e :: es) [] pos) (tMkX C n 0 sp gV ta tNil) := by
  refine ⟨fun pins s σ H Q I h => ?_⟩
  refine wpAny_Call_Name_kw (ld_glob I hg hm ?_ hdb)
  refine PySem.W.callWith_K (h₀ := X.base) I.ok.mod.kin T.kp (thn (ha.run pos pins s σ H _ I h) fun us s1 ⟨vs, H1, I1, r1, l1, l2, l3, q1⟩ => ⟨I1.kIn, ?_⟩) he hpl
  exact run_mkX (ks := []) (ws := []) T iC tI F1 hr hb I1 r1 .nil l1 l2 l3 q1
theorem pe_mkXK (T : XC X.K CO C) (iC : PySem.W.findIn X.K (.ref C) "__init__" = some (some (.ref fI))) (tI : PySem.W.typeIn X.K (.ref fI) = some (.type "function")) (F1 : FnOk X.prog X.w X.K X.mg X.base CX0 k fI fd ps sp) (hr : Room (k + 1) X.A)
    (hb : KBn X.K fd ps 1 ks g gV) (hg : Gl X x) (hm : X.mg x = some (.ref C)) (hkw : PK X kws tk)
    (hall : (backToKw pos (keywordEach kws X.env)).all (·.1.isSome) = true := by rfl) (hks : (backToKw pos (keywordEach kws X.env)).filterMap (·.1) = ks := by rfl) (hdb : (x == ("__debug__" : Str)) = false := by decide)
    (hpl : ((backTo pos (starEach [] X.env)).any (·.1) || (backToKw pos (keywordEach kws X.env)).any (·.1.isNone)) = false := by rfl) :
    PE X (.Call (.Name x p) [] kws pos) (tMkX C 0 ks.length sp gV tNil tk) := by
  refine ⟨fun pins s σ H Q I h => ?_⟩
  refine wpAny_Call_Name_kw (ld_glob I hg hm ?_ hdb)
  refine PySem.W.callWith_KW0 (h₀ := X.base) I.ok.mod.kin T.kp hall ?_ hpl
  refine thn (hkw.run pos pins s σ H _ I h) fun ws s2 ⟨zs, H2, I2, rz, l1, l2, l3, q2⟩ => ⟨I2.kIn, ?_⟩
  rw [hks]; exact run_mkX (us := []) (vs := []) T iC tI F1 hr hb I2 .nil rz l1 l2 l3 q2
end
end OC


set_option Elab.async false
set_option linter.all false
set_option maxRecDepth 100000
set_option maxHeartbeats 4000000
/-! OcBase: list + list (also of the script), an exception of a built-in class as a value, what an expression evaluates to. -/
namespace OC
open PySem L2
/-- list + list, each readable -/
def rCatQ (K : PySem.W.Frag) : R2 := fun x y H Q => ∃ (l b : Addr) (xs zs : List V), x = .ref l ∧ y = .ref b ∧ SqL K H l xs ∧ SqL K H b zs ∧ xs.length + zs.length ≤ sizeLine ∧ ∀ p, H p = none → Q (.ref p) (upd H p (.lst (xs ++ zs)))
theorem op_catQ {X : Cx} : OpR X (binaryOp .Add) (rCatQ X.K) := by
  intro pins s σ H x y v u Q I rx ry h
  obtain ⟨l, b, xs, zs, rfl, rfl, hl, hb, hz, q⟩ := h
  cases rx; cases ry
  obtain ⟨its, r, ⟨⟨c1, d1, o1, s1⟩, n1, e1, hc1, _, hd1⟩, _⟩ := I.list hl
  obtain ⟨its2, r2, ⟨⟨c2, d2, o2, s2⟩, n2, e2, hc2, _, hd2⟩, _⟩ := I.list hb
  dsimp only at hc1 hd1 hc2 hd2
  subst hc1 hd1 hc2 hd2
  refine concat_meets ⟨_, e1, rfl⟩ ⟨_, e2, rfl⟩ noFill_list_add seq_list_add PySem.F.slot_list_add PySem.F.entry_list_add (PySem.F.args_list_add_2 _ _) (PyProof.Rows.list_addW l b its.toArray its2.toArray n1 n2 d1 d2 s1 s2 (by rw [List.size_toArray, List.size_toArray, ← r.length, ← r2.length]; exact hz)) ⟨e1, e2, ?_⟩
  have ea : its.toArray ++ its2.toArray = (its ++ its2).toArray := by { simp }
  rw [ea]; exact ⟨.ref _, _, I.lnew (t' := s.toks) (r.append r2) (by rw [List.length_append]; omega), rfl, q _ I.fresh⟩
/-- at a: an exception of the built-in class T -/
def exb (a : Addr) (T : String) : HO := .ext fun h => PySem.W.KitAt a T h
theorem exb_ok {P : Program} {w : World} {H : Hp} {h : Heap} {a : Addr} {T : String} (e : PySem.W.KitAt a T h) : ObjOk P w H h a (exb a T) :=
  ⟨e, (by obtain ⟨o, z, _⟩ := e; exact ⟨o, z⟩), fun h1 h2 z k => by obtain ⟨o, z, c⟩ := z; exact ⟨o, k _ z, c⟩⟩
section
variable {X : Cx} {T N I : String} {x : Str} {p pos : Pos} {e : Expr} {es : List Expr} {t : TA}
theorem pe_exb (F : ExcB T N I) (hg : Gl X x) (hm : X.mg x = none) (hv : bootBuiltins x = some (.type T)) (ha : PA X (e :: es) t) (hn : x ≠ "__name__" := by decide) (hdb : (x == ("__debug__" : Str)) = false := by decide)
    (he : starEach (e :: es) X.env = (false, eval e X.env) :: starEach es X.env := by rfl) (hpl : (backTo pos (starEach es X.env)).any (·.1) = false := by rfl) :
    PE X (.Call (.Name x p) (e :: es) [] pos) (fun σ H Q => t σ H fun vs H1 => vs.length ≤ sizeLine ∧ ∀ a, H1 a = none → Q (.ref a) (upd H1 a (exb a T))) := by
  refine ⟨fun pins s σ H Q J h => ?_⟩
  refine wpAny_Call_Name_kw (ld_blt J hg hm hv ?_ hn hdb)
  refine PyProof.Rows.callWith_type1 (thn (ha.run pos pins s σ H _ J h) fun us s1 hh => ?_) he hpl
  obtain ⟨vs, H1, I1, r1, q0, q1⟩ := hh
  obtain ⟨hp1, g1, d1, tk1, os1⟩ := s1
  refine wpAny_call_exc F.call (fun h' a mk => ?_) (Nat.le_trans (Nat.le_of_eq r1.length.symm) q0)
  have hn0 := I1.hok.gone mk.new
  have hk : PySem.W.KitAt a T h' := by { obtain ⟨t0, z, _⟩ := mk.there; exact ⟨_, z, rfl⟩ }
  exact ⟨.ref a, _, I1.laidN (t' := tk1) mk.keeps mk.new hn0 (exb_ok hk), rfl, q1 a hn0⟩
end
/-- isinstance(e, c), e an exception of the built-in class ValueError -/
def rIsB (K : PySem.W.Frag) : List V → Hp → VK → Prop := fun xs H Q => ∃ (a : Addr) (c : V) (u : Value) (b : Bool), xs = [.ref a, c] ∧ ClsV c u ∧ H a = some (exb a "ValueError") ∧ PySem.W.kitOne K (.type "ValueError") u = some b ∧ Q (.bl b) H
theorem call_isB {X : Cx} : CallR X (.builtin "isinstance") (rIsB X.K) := by
  intro pins s σ H xs us Q I r h
  obtain ⟨a, c, u, b, rfl, k, ha, e, q⟩ := h
  obtain ⟨u1, u2, rfl, r1, r2⟩ := vals2 r
  have e2 := k.eq r2; subst e2
  obtain rfl : u1 = Value.ref a := r1
  have hx : ObjOk X.prog X.w H s.heap a (.ext fun h => PySem.W.KitAt a "ValueError" h) := I.hok a _ ha
  exact PySem.W.kia_one (PySem.W.kitx_bexc PySem.F.excAttr_ValueError PySem.F.lkClass_ValueError PySem.F.soClass_ValueError (by decide)) I.kIn hx.1 e (fun z => nomatch z) fun tk => ⟨.bl b, H, I.tok tk, rfl, q⟩

/-! ### what is evaluated without a change -/
def EvR (σ : St) (H : Hp) (te : TE) (v : V) : Prop := ∀ Q : VK, Q v H → te σ H Q
def EvsR (σ : St) (H : Hp) (ta : TA) (vs : List V) : Prop := ∀ Q : List V → Hp → Prop, Q vs H → ta σ H Q
theorem evs_nil {σ : St} {H : Hp} : EvsR σ H tNil [] := fun _ q => q
theorem evs_cons {σ : St} {H : Hp} {te : TE} {ta : TA} {v : V} {vs : List V} (h1 : EvR σ H te v) (h2 : EvsR σ H ta vs) : EvsR σ H (tCons te ta) (v :: vs) := fun Q q => h1 _ (h2 _ q)
theorem ev_var {σ : St} {H : Hp} {i : Nat} {v : V} (h : σ[i]? = some (some v)) : EvR σ H (tVar i) v := fun _ q => ⟨v, h, q⟩
theorem ev_c {σ : St} {H : Hp} {v : V} : EvR σ H (tC v) v := fun _ q => q
/-! ### exceptions that are made -/
def MkR (σ : St) (te : TE) (C : Addr) (fs : List (Str × V)) : Prop := ∀ (H : Hp) (Q : VK), (∀ (H' : Hp) (a : Addr), Same H H' → ExAt H' a C fs → Q (.ref a) H') → te σ H Q
def MadeL (H : Hp) (as : List Addr) (sp : List (Addr × List (Str × V))) : Prop := Paired (fun a s => ExAt H a s.1 s.2) as sp
def MksR (σ : St) (ta : TA) (sp : List (Addr × List (Str × V))) : Prop := ∀ (H : Hp) (Q : List V → Hp → Prop), (∀ (H' : Hp) (as : List Addr), Same H H' → MadeL H' as sp → Q (as.map V.ref) H') → ta σ H Q
theorem MadeL.same {H H' : Hp} (s : Same H H') : ∀ {as : List Addr} {sp : List (Addr × List (Str × V))}, MadeL H as sp → MadeL H' as sp
  | _, _, .nil => .nil
  | _, _, .cons h t => .cons (h.same s) (MadeL.same s t)
theorem MadeL.append {H : Hp} : ∀ {as bs : List Addr} {sp sq : List (Addr × List (Str × V))}, MadeL H as sp → MadeL H bs sq → MadeL H (as ++ bs) (sp ++ sq)
  | _, _, _, _, .nil, h => h
  | _, _, _, _, .cons h t, k => .cons h (MadeL.append t k)
theorem MadeL.length {H : Hp} {as : List Addr} {sp : List (Addr × List (Str × V))} (h : MadeL H as sp) : as.length = sp.length := Paired.length h
theorem MadeL.get {H : Hp} : ∀ {as : List Addr} {sp : List (Addr × List (Str × V))} {i : Nat} {s : Addr × List (Str × V)}, MadeL H as sp → sp[i]? = some s → ∃ a, as[i]? = some a ∧ ExAt H a s.1 s.2
  | _, _, _, _, .nil, e => by simp at e
  | _, _, 0, _, .cons h t, e => by simp at e; subst e; exact ⟨_, rfl, h⟩
  | _, _, i + 1, s, .cons h t, e => by
    obtain ⟨a, h1, h2⟩ := MadeL.get (i := i) (s := s) t (by simpa using e)
    exact ⟨a, by simpa using h1, h2⟩
theorem mks_nil {σ : St} : MksR σ tNil [] := fun H Q k => k H [] (Same.refl H) .nil
theorem mks_cons {σ : St} {te : TE} {ta : TA} {C : Addr} {fs : List (Str × V)} {sp : List (Addr × List (Str × V))} (h1 : MkR σ te C fs) (h2 : MksR σ ta sp) : MksR σ (tCons te ta) ((C, fs) :: sp) := fun H Q k =>
  h1 H _ fun H1 a s1 e1 => h2 H1 _ fun H2 as s2 e2 => k H2 (a :: as) (s1.trans s2) (.cons (e1.same s2) e2)
/-- positional values, then keywords in the parameters' backward order -/
def gR {α : Type} (us ws : List α) : List α := us ++ ws.reverse
theorem Vals.snoc {v : V} {u : Value} (h : RelV v u) : ∀ {xs : List V} {us : List Value}, Vals xs us → Vals (xs ++ [v]) (us ++ [u])
  | _, _, .nil => .cons h .nil
  | _, _, .cons a t => .cons a (Vals.snoc h t)
theorem Vals.rev : ∀ {xs : List V} {us : List Value}, Vals xs us → Vals xs.reverse us.reverse
  | _, _, .nil => .nil
  | _, _, .cons a t => by rw [List.reverse_cons, List.reverse_cons]; exact Vals.snoc a (Vals.rev t)
theorem kb_of {K : PySem.W.Frag} {x qual : Str} {st : Stmt} {f : Addr} {fd : FuncData} (F : Fun K x qual st f fd) (ps : List Str) (n : Nat) (ks : List Str)
    (h : ∀ (kV doc pm : Value) (an : Option Addr) (cdv ct : Value) (us ws : List Value), us.length = n → ws.length = ks.length → bindArgs (PySem.W.fnOf x qual (defArgs st) (defBody st) (defScope st) .none kV doc pm an cdv ct) ⟨us, ks.zip ws⟩ = pure (ps.zip (gR us ws))) : KBn K fd ps n ks gR gR := by
  obtain ⟨oc, od, kV, doc, pm, an, cdv, ct, osl, rfl, lk, hcd⟩ := F.ex
  exact ⟨fun s us ws X l1 l2 => .of_eq (h kV doc pm an cdv ct us ws l1 l2), fun r1 r2 => Vals.append r1 (Vals.rev r2)⟩
/-- the promise of an exception's __init__: its arguments are its fields -/
def spX (C : Addr) (fs : List Str) : Sp := fun vs H Q _ => ∃ (a : Addr) (ws : List V), vs = .ref a :: ws ∧ ws.length = fs.length ∧ H a = some (exo a C none) ∧ ∀ H' : Hp, (∀ b o, b ≠ a → H b = some o → H' b = some o) → ExAt H' a C (fs.zip ws).reverse → Q .non H'
theorem mkR {σ : St} {C : Addr} {n m : Nat} {ns : List Str} {ta tk : TA} {vs zs : List V} {fs : List (Str × V)} (hA : ∀ H, EvsR σ H ta vs) (hK : ∀ H, EvsR σ H tk zs) (l1 : vs.length = n) (l2 : zs.length = m) (l3 : vs.length ≤ 1000) (hl : (vs ++ zs.reverse).length = ns.length)
    (hf : fs = (ns.zip (vs ++ zs.reverse)).reverse) : MkR σ (tMkX C n m (spX C ns) gR ta tk) C fs := by
  intro H Q k
  refine hA H _ (hK H _ ⟨l1, l2, l3, fun a na => ⟨a, vs ++ zs.reverse, rfl, hl, upd_same, fun H' kp hE => ⟨rfl, k H' a (fun b o e => ?_) (by rw [hf]; exact hE)⟩⟩⟩)
  have nb : b ≠ a := ne_of_none e na
  exact kp b o nb (by rw [upd_ne nb]; exact e)
/-! ### readings by their heads -/
section
variable {σ : St} {H : Hp} {D : Ends} {Q : VK}
theorem r_seq {t u : TS} (h : t { D with nx := u D } σ H) : tSeq t u D σ H := h
theorem r_seqSet {te : TE} {i : Nat} {u : TS} (h : te σ H fun x H1 => u D (σ.set i (some x)) H1) : tSeq (tAsg te (gName i)) u D σ H := h
theorem r_seqAsg {te : TE} {g : TG} {u : TS} (h : te σ H fun x H1 => g x σ H1 (u D)) : tSeq (tAsg te g) u D σ H := h
theorem r_seqDrop {te : TE} {u : TS} (h : te σ H fun _ H1 => u D σ H1) : tSeq (tDrop te) u D σ H := h
theorem r_seqIf {c : TT} {t1 t2 u : TS} (h : c σ H fun b H1 => if b = true then t1 { D with nx := u D } σ H1 else t2 { D with nx := u D } σ H1) : tSeq (tIfS c t1 t2) u D σ H := h
theorem r_seqIf0 {c : TT} {t1 u : TS} (h : c σ H fun b H1 => if b = true then t1 { D with nx := u D } σ H1 else u D σ H1) : tSeq (tIfS c t1 tNext) u D σ H := h
theorem r_set {te : TE} {i : Nat} (h : te σ H fun x H1 => D.nx (σ.set i (some x)) H1) : tAsg te (gName i) D σ H := h
theorem r_drop {te : TE} (h : te σ H fun _ H1 => D.nx σ H1) : tDrop te D σ H := h
theorem r_ret {te : TE} (h : te σ H D.rt) : tRet te D σ H := h
theorem r_if0 {c : TT} {t : TS} (h : c σ H fun b H1 => if b = true then t D σ H1 else D.nx σ H1) : tIfS c t tNext D σ H := h
theorem r_if {c : TT} {t u : TS} (h : c σ H fun b H1 => if b = true then t D σ H1 else u D σ H1) : tIfS c t u D σ H := h
theorem r_lst {ta : TA} (h : ta σ H fun xs H1 => xs.length ≤ sizeLine ∧ ∀ p, H1 p = none → Q (.ref p) (upd H1 p (.lst xs))) : tLst ta σ H Q := h
theorem r_tup {ta : TA} (h : ta σ H fun xs H1 => xs.length ≤ sizeLine ∧ ∀ p, H1 p = none → Q (.ref p) (upd H1 p (.tup xs))) : tTup ta σ H Q := h
theorem r_op {r : R2} {ta tb : TE} (h : ta σ H fun x H1 => tb σ H1 fun y H2 => r x y H2 Q) : tOp r ta tb σ H Q := h
theorem r_var {i : Nat} {v : V} (e : σ[i]? = some (some v)) (h : Q v H) : tVar i σ H Q := ⟨v, e, h⟩
theorem r_call {sp : Sp} {dvs : List V} {E : XK} {ta : TA} (h : ta σ H fun vs H1 => sp (vs ++ dvs) H1 Q E) : tCall sp dvs E ta σ H Q := h
theorem r_cb {r : List V → Hp → VK → Prop} {ta : TA} (h : ta σ H fun vs H1 => r vs H1 Q) : tCB r ta σ H Q := h
theorem r_cons {te : TE} {ta : TA} {Q : List V → Hp → Prop} (h : te σ H fun x H1 => ta σ H1 fun xs H2 => Q (x :: xs) H2) : tCons te ta σ H Q := h
theorem r_consC {v : V} {ta : TA} {Q : List V → Hp → Prop} (h : ta σ H fun xs H2 => Q (v :: xs) H2) : tCons (tC v) ta σ H Q := h
theorem r_consV {i : Nat} {v : V} {ta : TA} {Q : List V → Hp → Prop} (e : σ[i]? = some (some v)) (h : ta σ H fun xs H2 => Q (v :: xs) H2) : tCons (tVar i) ta σ H Q := ⟨v, e, h⟩
theorem r_nil {Q : List V → Hp → Prop} (h : Q [] H) : tNil σ H Q := h
theorem r_test {t : TE} {Q : Bool → Hp → Prop} (h : t σ H fun x H' => ∃ k, x = .bl k ∧ Q k H') : tTest t σ H Q := h
theorem r_tb {t : TE} {Q : Bool → Hp → Prop} (h : t σ H fun x H' => ∃ k, x = .bl k ∧ Q k H') : tB t σ H Q := h
theorem r_or {t u : TT} {Q : Bool → Hp → Prop} (h : t σ H fun c H1 => if c = true then Q true H1 else u σ H1 Q) : tOr t u σ H Q := h
theorem r_and {t u : TT} {Q : Bool → Hp → Prop} (h : t σ H fun c H1 => if c = true then u σ H1 Q else Q false H1) : tAnd t u σ H Q := h
theorem r_not {t : TT} {Q : Bool → Hp → Prop} (h : t σ H fun c H1 => Q (!c) H1) : tNot t σ H Q := h
theorem r_notV {t : TE} (h : t σ H fun x H1 => ∃ c, x = .bl c ∧ Q (.bl (!c)) H1) : tNotV t σ H Q := h
theorem r_exf {K : PySem.W.Frag} {CO : Addr} {f : Str} {te : TE} (h : te σ H fun x H1 => ∃ (a C : Addr) (fs : List (Str × V)) (v : V), x = .ref a ∧ XC K CO C ∧ PySem.W.findIn K (.ref C) f = some none ∧ ExAt H1 a C fs ∧ fs.lookup f = some v ∧ Q v H1) : tExf K CO f te σ H Q := h
theorem r_bm {K : PySem.W.Frag} {T : String} {r : V → List V → Hp → VK → Prop} {to : TE} {ta : TA} (h : to σ H fun x H1 => tyV K T x H1 ∧ ta σ H1 fun xs H2 => r x xs H2 Q) : tBM K T r to ta σ H Q := h
end
/-! ### loops by their heads -/
def FR (J : It) (g : TG) (tb : TS) (nx : St → Hp → Prop) (rt : VK) (σ : St) (H : Hp) : Prop := ∃ W : Nat → Nat → St → Hp → Prop, (∃ m, W 0 m σ H) ∧ ∀ i m σ H, W i m σ H →
  (J.stop i H ∧ nx σ H) ∨ (J.go i H ∧ ∃ N : St → Hp → Prop, (∀ σ' H', N σ' H' → ∃ m', m' < m ∧ W (i + 1) m' σ' H') ∧ ∀ x H', J.yld i H x H' → g x σ H' fun σ2 H2 => tb { nx := N, rt := rt, bk := nx, ct := N } σ2 H2)
section
variable {σ : St} {H : Hp} {D : Ends} {K : PySem.W.Frag} {g : TG} {tb : TS} {nx : St → Hp → Prop} {rt : VK}
theorem r_iList {tl : TE} {R : It → Hp → Prop} (h : tl σ H fun x H1 => ∃ a, x = .ref a ∧ (∃ xs, SqL K H1 a xs) ∧ R (Itl K a) H1) : iList K tl σ H R := h
theorem r_iEnum {ta : TA} {R : It → Hp → Prop} (h : ta σ H fun vs H1 => ∃ a xs, vs = [.ref a] ∧ SqL K H1 a xs ∧ R (Ite K a) H1) : iEnum K ta σ H R := h
theorem r_gName {i : Nat} {v : V} {Q : St → Hp → Prop} (h : Q (σ.set i (some v)) H) : gName i v σ H Q := h
theorem r_seqFor {wi : TI} {u : TS} (h : wi σ H fun J H1 => FR J g tb (u D) D.rt σ H1) : tSeq (tFor wi g tb) u D σ H := h
theorem r_for {wi : TI} (h : wi σ H fun J H1 => FR J g tb D.nx D.rt σ H1) : tFor wi g tb D σ H := h
theorem fr_it {J : It} {n : Nat} {G : Hp → Prop} {Y : Nat → Hp → V → Hp → Prop} (w : Walk J n G Y) (Pv : Nat → St → Hp → Prop) (h0 : Pv 0 σ H) (hG : ∀ i σ H, i ≤ n → Pv i σ H → G H)
    (hs : ∀ i x σ H H', i < n → Pv i σ H → Y i H x H' → g x σ H' fun σ2 H2 => tb { nx := Pv (i + 1), rt := rt, bk := nx, ct := Pv (i + 1) } σ2 H2) (hd : ∀ σ H, Pv n σ H → nx σ H) : FR J g tb nx rt σ H :=
  for_it (D := { nx := nx, rt := rt }) w Pv h0 hG hs hd
theorem fr_list {a : Addr} {xs : List V} (Pv : Nat → St → Hp → Prop) (h0 : Pv 0 σ H) (hl : ∀ i σ H, i ≤ xs.length → Pv i σ H → SqL K H a xs)
    (hs : ∀ i x σ H, xs[i]? = some x → Pv i σ H → g x σ H fun σ2 H2 => tb { nx := Pv (i + 1), rt := rt, bk := nx, ct := Pv (i + 1) } σ2 H2) (hd : ∀ σ H, Pv xs.length σ H → nx σ H) : FR (Itl K a) g tb nx rt σ H :=
  fr_it walk_list Pv h0 hl (fun i x σ H H' _ p y => by obtain ⟨e, y⟩ := y; subst e; exact hs i x σ _ y p) hd
/-- for i, x in enumerate(list) -/
theorem fr_enum {a : Addr} {xs : List V} {j k : Nat} (Pv : Nat → St → Hp → Prop) (h0 : Pv 0 σ H) (hl : ∀ i σ H, i ≤ xs.length → Pv i σ H → SqL K H a xs)
    (hs : ∀ i x σ H T, xs[i]? = some x → Pv i σ H → H T = none → tb { nx := Pv (i + 1), rt := rt, bk := nx, ct := Pv (i + 1) } ((σ.set j (some (.int (i : Nat)))).set k (some x)) (upd H T (.tup [.int (i : Nat), x]))) (hd : ∀ σ H, Pv xs.length σ H → nx σ H) :
    FR (Ite K a) (gTup K 2 (gCons (gName j) (gCons (gName k) gNil))) tb nx rt σ H :=
  fr_it walk_enum Pv h0 hl (fun i v σ H H' _ p y => by
    obtain ⟨T, x, z, e1, e2, e3, e4, e5⟩ := y
    subst e1 e3
    have e6 : x = .int (i : Nat) := (Option.some.inj e4).symm
    subst e6
    exact ⟨T, _, rfl, SqT.of upd_same, rfl, _, _, rfl, _, _, rfl, rfl, hs i z σ H T e5 p e2⟩) hd
end
/-- C(x, ..) by position, by keyword -/
theorem mkPos {σ : St} {C : Addr} {n : Nat} {ns : List Str} {ta : TA} {vs : List V} {fs : List (Str × V)} (hA : ∀ H, EvsR σ H ta vs) (l1 : vs.length = n) (l3 : n ≤ 1000) (hl : n = ns.length) (hf : fs = (ns.zip vs).reverse) : MkR σ (tMkX C n 0 (spX C ns) gR ta tNil) C fs :=
  mkR (vs := vs) (zs := []) hA (fun _ => evs_nil) l1 rfl (by rw [l1]; exact l3) (by rw [List.reverse_nil, List.append_nil, l1, hl]) (by rw [List.reverse_nil, List.append_nil]; exact hf)
theorem mkKey {σ : St} {C : Addr} {ks ns : List Str} {tk : TA} {zs : List V} {fs : List (Str × V)} (hK : ∀ H, EvsR σ H tk zs) (l2 : zs.length = ks.length) (hl : zs.length = ns.length) (hf : fs = (ns.zip zs.reverse).reverse) : MkR σ (tMkX C 0 ks.length (spX C ns) gR tNil tk) C fs :=
  mkR (vs := []) (zs := zs) (fun _ => evs_nil) hK rfl l2 (Nat.zero_le _) (by rw [List.nil_append, List.length_reverse, hl]) (by rw [List.nil_append]; exact hf)
end OC


set_option Elab.async false
set_option linter.all false
set_option maxRecDepth 100000
set_option maxHeartbeats 4000000
/-! K20a: the seventeen __init__ -/
namespace K20
open PySem L2 OC
def top (i : Nat) : Stmt := PySem.Challenge.pw_oldclients_k20_exceptions.main.body.getD i (.Pass ⟨0, 0, 0, 0⟩)
abbrev sI0 : Stmt := inClass (top 2) 0
abbrev sI1 : Stmt := inClass (top 9) 0
abbrev sI2 : Stmt := inClass (top 8) 0
abbrev sI3 : Stmt := inClass (top 3) 0
abbrev sI4 : Stmt := inClass (top 4) 0
abbrev sI5 : Stmt := inClass (top 5) 0
abbrev sI6 : Stmt := inClass (top 6) 0
abbrev sI7 : Stmt := inClass (top 7) 0
abbrev sI8 : Stmt := inClass (top 10) 0
abbrev sI9 : Stmt := inClass (top 11) 0
abbrev sI10 : Stmt := inClass (top 12) 0
abbrev sI11 : Stmt := inClass (top 13) 0
abbrev sI12 : Stmt := inClass (top 14) 0
abbrev sI13 : Stmt := inClass (top 15) 0
abbrev sI14 : Stmt := inClass (top 16) 0
abbrev sI15 : Stmt := inClass (top 17) 0
abbrev sI16 : Stmt := inClass (top 18) 0
def nmL : List Str := ["NoLibrary", "NoClient", "NoBody", "NoClass", "NoMember", "NoTables", "NoFields", "NoRoom", "Lacks", "NoText", "NoVersions", "NoVersion", "NoPlace", "NoReference", "NoNeed", "NoNumber", "NoPace"]
def fsL : List (List Str) := [["number", "part", "index"], ["number", "part", "index"], ["where", "at"], ["name"], ["name"], ["index"], ["index"], ["size"], ["need"], ["at"], ["index"], ["number"], ["place"], ["place"], ["need"], ["number"], ["pace"]]
abbrev nmOf (i : Nat) : Str := nmL.getD i Str.empty
abbrev fsOf (i : Nat) : List Str := fsL.getD i []
/-- what the written part says of OldError -/
structure XO (K : PySem.W.Frag) (mg : Str → Option Value) (CO : Addr) : Prop where
  mg : mg "OldError" = some (.ref CO)
  sp : PySem.W.specialIn K (.ref CO) "__getattribute__" = some (some (.builtin "type.__getattribute__"))
  rd : PySem.W.readsIn K CO (.type "type") = true
  fc : PySem.W.findCls K (.ref CO) (.type "type") "__init__" = some (.val (.builtin "ValueError.__init__"))
/-- self.f = .. so far: the exception at a has its dict at dx with fs, all else stands -/
def Sto (H : Hp) (a C dx : Addr) (fs : List (Str × V)) (H' : Hp) : Prop := dx ≠ a ∧ H' a = some (exo a C (some dx)) ∧ H' dx = some (exd dx fs) ∧ ∀ b o, b ≠ a → H b = some o → H' b = some o
theorem sto_one {H : Hp} {a C dx : Addr} {fs : List (Str × V)} (h0 : H dx = none) (ne : dx ≠ a) : Sto H a C dx fs (upd (upd H dx (exd dx fs)) a (exo a C (some dx))) :=
  ⟨ne, upd_same, (by rw [upd_ne ne, upd_same]), fun b o hb e => by rw [upd_ne hb, upd_ne (ne_of_none e h0)]; exact e⟩
theorem sto_more {H H' : Hp} {a C dx : Addr} {fs gs : List (Str × V)} (h0 : H dx = none) (s : Sto H a C dx fs H') : Sto H a C dx gs (upd H' dx (exd dx gs)) :=
  ⟨s.1, (by rw [upd_ne (Ne.symm s.1)]; exact s.2.1), upd_same, fun b o hb e => by rw [upd_ne (ne_of_none e h0)]; exact s.2.2.2 b o hb e⟩
section
variable {P : Program} {w : World} {K : PySem.W.Frag} {mg : Str → Option Value} {base : Heap} {CO : Addr}
theorem scI0 : FnScope ["self", "number", "part", "index"] ["self", "number", "part", "index"] (defScope sI0) := ⟨rfl, rfl, rfl, by decide +kernel, rfl, by decide +kernel, by decide +kernel⟩
theorem okI0 {f C : Addr} {fd : FuncData} (F : Fun K "__init__" "NoLibrary.__init__" sI0 f fd) (G : XO K mg CO) (T : XC K CO C) (no : ∀ z ∈ fsOf 0, PySem.W.findIn K (.ref C) z = some none) : FnOk P w K mg base CX0 1 f fd ["self", "number", "part", "index"] (spX C (fsOf 0)) := by
  refine F.ok scI0 (fun vs H Q E h => ?_) (fun cdv A outer s H vs Q E hr h => ?_)
  · obtain ⟨a, ws, rfl, hl, _⟩ := h; exact congrArg Nat.succ hl
  · obtain ⟨a, ws, rfl, hl, ha, k⟩ := h
    obtain ⟨x0, x1, x2, rfl⟩ : ∃ x0 x1 x2, ws = [x0, x1, x2] := by { match ws, hl with | [x0, x1, x2], _ => exact ⟨x0, x1, x2, rfl⟩ }
    refine ⟨_, pss_cons (ps_expr (pe_coinit rfl G.mg G.sp G.rd G.fc (pa_cons (pv 0) (pa_cons pe_str pa_nil)))) (pss_cons (ps_ost (pv 0) (pv 1)) (pss_cons (ps_ost (pv 0) (pv 2)) (pss_one (ps_ost (pv 0) (pv 3))))), ?_⟩
    refine ⟨_, rfl, a, C, _, rfl, (by decide), T.oex, ha, _, rfl, _, rfl, a, C, rfl, T.oex, no _ (by decide +kernel), .inl ⟨ha, fun dx nd ne => ?_⟩⟩
    have q0 : Sto H a C dx _ _ := sto_one (fs := [("number", x0)]) nd ne
    refine ⟨_, rfl, _, rfl, a, C, rfl, T.oex, no _ (by decide +kernel), .inr ⟨dx, _, q0.2.1, q0.2.2.1, (by simp), ?_⟩⟩
    have q1 : Sto H a C dx _ _ := sto_more (gs := [("part", x1), ("number", x0)]) nd q0
    refine ⟨_, rfl, _, rfl, a, C, rfl, T.oex, no _ (by decide +kernel), .inr ⟨dx, _, q1.2.1, q1.2.2.1, (by simp), ?_⟩⟩
    have q2 : Sto H a C dx _ _ := sto_more (gs := [("index", x2), ("part", x1), ("number", x0)]) nd q1
    exact k _ q2.2.2.2 ⟨dx, q2.2.1, q2.2.2.1⟩
theorem scI1 : FnScope ["self", "number", "part", "index"] ["self", "number", "part", "index"] (defScope sI1) := ⟨rfl, rfl, rfl, by decide +kernel, rfl, by decide +kernel, by decide +kernel⟩
theorem okI1 {f C : Addr} {fd : FuncData} (F : Fun K "__init__" "NoClient.__init__" sI1 f fd) (G : XO K mg CO) (T : XC K CO C) (no : ∀ z ∈ fsOf 1, PySem.W.findIn K (.ref C) z = some none) : FnOk P w K mg base CX0 1 f fd ["self", "number", "part", "index"] (spX C (fsOf 1)) := by
  refine F.ok scI1 (fun vs H Q E h => ?_) (fun cdv A outer s H vs Q E hr h => ?_)
  · obtain ⟨a, ws, rfl, hl, _⟩ := h; exact congrArg Nat.succ hl
  · obtain ⟨a, ws, rfl, hl, ha, k⟩ := h
    obtain ⟨x0, x1, x2, rfl⟩ : ∃ x0 x1 x2, ws = [x0, x1, x2] := by { match ws, hl with | [x0, x1, x2], _ => exact ⟨x0, x1, x2, rfl⟩ }
    refine ⟨_, pss_cons (ps_expr (pe_coinit rfl G.mg G.sp G.rd G.fc (pa_cons (pv 0) (pa_cons pe_str pa_nil)))) (pss_cons (ps_ost (pv 0) (pv 1)) (pss_cons (ps_ost (pv 0) (pv 2)) (pss_one (ps_ost (pv 0) (pv 3))))), ?_⟩
    refine ⟨_, rfl, a, C, _, rfl, (by decide), T.oex, ha, _, rfl, _, rfl, a, C, rfl, T.oex, no _ (by decide +kernel), .inl ⟨ha, fun dx nd ne => ?_⟩⟩
    have q0 : Sto H a C dx _ _ := sto_one (fs := [("number", x0)]) nd ne
    refine ⟨_, rfl, _, rfl, a, C, rfl, T.oex, no _ (by decide +kernel), .inr ⟨dx, _, q0.2.1, q0.2.2.1, (by simp), ?_⟩⟩
    have q1 : Sto H a C dx _ _ := sto_more (gs := [("part", x1), ("number", x0)]) nd q0
    refine ⟨_, rfl, _, rfl, a, C, rfl, T.oex, no _ (by decide +kernel), .inr ⟨dx, _, q1.2.1, q1.2.2.1, (by simp), ?_⟩⟩
    have q2 : Sto H a C dx _ _ := sto_more (gs := [("index", x2), ("part", x1), ("number", x0)]) nd q1
    exact k _ q2.2.2.2 ⟨dx, q2.2.1, q2.2.2.1⟩
theorem scI2 : FnScope ["self", "where", "at"] ["self", "where", "at"] (defScope sI2) := ⟨rfl, rfl, rfl, by decide +kernel, rfl, by decide +kernel, by decide +kernel⟩
theorem okI2 {f C : Addr} {fd : FuncData} (F : Fun K "__init__" "NoBody.__init__" sI2 f fd) (G : XO K mg CO) (T : XC K CO C) (no : ∀ z ∈ fsOf 2, PySem.W.findIn K (.ref C) z = some none) : FnOk P w K mg base CX0 1 f fd ["self", "where", "at"] (spX C (fsOf 2)) := by
  refine F.ok scI2 (fun vs H Q E h => ?_) (fun cdv A outer s H vs Q E hr h => ?_)
  · obtain ⟨a, ws, rfl, hl, _⟩ := h; exact congrArg Nat.succ hl
  · obtain ⟨a, ws, rfl, hl, ha, k⟩ := h
    obtain ⟨x0, x1, rfl⟩ : ∃ x0 x1, ws = [x0, x1] := by { match ws, hl with | [x0, x1], _ => exact ⟨x0, x1, rfl⟩ }
    refine ⟨_, pss_cons (ps_expr (pe_coinit rfl G.mg G.sp G.rd G.fc (pa_cons (pv 0) (pa_cons pe_str pa_nil)))) (pss_cons (ps_ost (pv 0) (pv 1)) (pss_one (ps_ost (pv 0) (pv 2)))), ?_⟩
    refine ⟨_, rfl, a, C, _, rfl, (by decide), T.oex, ha, _, rfl, _, rfl, a, C, rfl, T.oex, no _ (by decide +kernel), .inl ⟨ha, fun dx nd ne => ?_⟩⟩
    have q0 : Sto H a C dx _ _ := sto_one (fs := [("where", x0)]) nd ne
    refine ⟨_, rfl, _, rfl, a, C, rfl, T.oex, no _ (by decide +kernel), .inr ⟨dx, _, q0.2.1, q0.2.2.1, (by simp), ?_⟩⟩
    have q1 : Sto H a C dx _ _ := sto_more (gs := [("at", x1), ("where", x0)]) nd q0
    exact k _ q1.2.2.2 ⟨dx, q1.2.1, q1.2.2.1⟩
theorem scI3 : FnScope ["self", "name"] ["self", "name"] (defScope sI3) := ⟨rfl, rfl, rfl, by decide +kernel, rfl, by decide +kernel, by decide +kernel⟩
theorem okI3 {f C : Addr} {fd : FuncData} (F : Fun K "__init__" "NoClass.__init__" sI3 f fd) (G : XO K mg CO) (T : XC K CO C) (no : ∀ z ∈ fsOf 3, PySem.W.findIn K (.ref C) z = some none) : FnOk P w K mg base CX0 1 f fd ["self", "name"] (spX C (fsOf 3)) := by
  refine F.ok scI3 (fun vs H Q E h => ?_) (fun cdv A outer s H vs Q E hr h => ?_)
  · obtain ⟨a, ws, rfl, hl, _⟩ := h; exact congrArg Nat.succ hl
  · obtain ⟨a, ws, rfl, hl, ha, k⟩ := h
    obtain ⟨x0, rfl⟩ : ∃ x0, ws = [x0] := by { match ws, hl with | [x0], _ => exact ⟨x0, rfl⟩ }
    refine ⟨_, pss_cons (ps_expr (pe_coinit rfl G.mg G.sp G.rd G.fc (pa_cons (pv 0) (pa_cons pe_str pa_nil)))) (pss_one (ps_ost (pv 0) (pv 1))), ?_⟩
    refine ⟨_, rfl, a, C, _, rfl, (by decide), T.oex, ha, _, rfl, _, rfl, a, C, rfl, T.oex, no _ (by decide +kernel), .inl ⟨ha, fun dx nd ne => ?_⟩⟩
    have q0 : Sto H a C dx _ _ := sto_one (fs := [("name", x0)]) nd ne
    exact k _ q0.2.2.2 ⟨dx, q0.2.1, q0.2.2.1⟩
theorem scI4 : FnScope ["self", "name"] ["self", "name"] (defScope sI4) := ⟨rfl, rfl, rfl, by decide +kernel, rfl, by decide +kernel, by decide +kernel⟩
theorem okI4 {f C : Addr} {fd : FuncData} (F : Fun K "__init__" "NoMember.__init__" sI4 f fd) (G : XO K mg CO) (T : XC K CO C) (no : ∀ z ∈ fsOf 4, PySem.W.findIn K (.ref C) z = some none) : FnOk P w K mg base CX0 1 f fd ["self", "name"] (spX C (fsOf 4)) := by
  refine F.ok scI4 (fun vs H Q E h => ?_) (fun cdv A outer s H vs Q E hr h => ?_)
  · obtain ⟨a, ws, rfl, hl, _⟩ := h; exact congrArg Nat.succ hl
  · obtain ⟨a, ws, rfl, hl, ha, k⟩ := h
    obtain ⟨x0, rfl⟩ : ∃ x0, ws = [x0] := by { match ws, hl with | [x0], _ => exact ⟨x0, rfl⟩ }
    refine ⟨_, pss_cons (ps_expr (pe_coinit rfl G.mg G.sp G.rd G.fc (pa_cons (pv 0) (pa_cons pe_str pa_nil)))) (pss_one (ps_ost (pv 0) (pv 1))), ?_⟩
    refine ⟨_, rfl, a, C, _, rfl, (by decide), T.oex, ha, _, rfl, _, rfl, a, C, rfl, T.oex, no _ (by decide +kernel), .inl ⟨ha, fun dx nd ne => ?_⟩⟩
    have q0 : Sto H a C dx _ _ := sto_one (fs := [("name", x0)]) nd ne
    exact k _ q0.2.2.2 ⟨dx, q0.2.1, q0.2.2.1⟩
theorem scI5 : FnScope ["self", "index"] ["self", "index"] (defScope sI5) := ⟨rfl, rfl, rfl, by decide +kernel, rfl, by decide +kernel, by decide +kernel⟩
theorem okI5 {f C : Addr} {fd : FuncData} (F : Fun K "__init__" "NoTables.__init__" sI5 f fd) (G : XO K mg CO) (T : XC K CO C) (no : ∀ z ∈ fsOf 5, PySem.W.findIn K (.ref C) z = some none) : FnOk P w K mg base CX0 1 f fd ["self", "index"] (spX C (fsOf 5)) := by
  refine F.ok scI5 (fun vs H Q E h => ?_) (fun cdv A outer s H vs Q E hr h => ?_)
  · obtain ⟨a, ws, rfl, hl, _⟩ := h; exact congrArg Nat.succ hl
  · obtain ⟨a, ws, rfl, hl, ha, k⟩ := h
    obtain ⟨x0, rfl⟩ : ∃ x0, ws = [x0] := by { match ws, hl with | [x0], _ => exact ⟨x0, rfl⟩ }
    refine ⟨_, pss_cons (ps_expr (pe_coinit rfl G.mg G.sp G.rd G.fc (pa_cons (pv 0) (pa_cons pe_str pa_nil)))) (pss_one (ps_ost (pv 0) (pv 1))), ?_⟩
    refine ⟨_, rfl, a, C, _, rfl, (by decide), T.oex, ha, _, rfl, _, rfl, a, C, rfl, T.oex, no _ (by decide +kernel), .inl ⟨ha, fun dx nd ne => ?_⟩⟩
    have q0 : Sto H a C dx _ _ := sto_one (fs := [("index", x0)]) nd ne
    exact k _ q0.2.2.2 ⟨dx, q0.2.1, q0.2.2.1⟩
theorem scI6 : FnScope ["self", "index"] ["self", "index"] (defScope sI6) := ⟨rfl, rfl, rfl, by decide +kernel, rfl, by decide +kernel, by decide +kernel⟩
theorem okI6 {f C : Addr} {fd : FuncData} (F : Fun K "__init__" "NoFields.__init__" sI6 f fd) (G : XO K mg CO) (T : XC K CO C) (no : ∀ z ∈ fsOf 6, PySem.W.findIn K (.ref C) z = some none) : FnOk P w K mg base CX0 1 f fd ["self", "index"] (spX C (fsOf 6)) := by
  refine F.ok scI6 (fun vs H Q E h => ?_) (fun cdv A outer s H vs Q E hr h => ?_)
  · obtain ⟨a, ws, rfl, hl, _⟩ := h; exact congrArg Nat.succ hl
  · obtain ⟨a, ws, rfl, hl, ha, k⟩ := h
    obtain ⟨x0, rfl⟩ : ∃ x0, ws = [x0] := by { match ws, hl with | [x0], _ => exact ⟨x0, rfl⟩ }
    refine ⟨_, pss_cons (ps_expr (pe_coinit rfl G.mg G.sp G.rd G.fc (pa_cons (pv 0) (pa_cons pe_str pa_nil)))) (pss_one (ps_ost (pv 0) (pv 1))), ?_⟩
    refine ⟨_, rfl, a, C, _, rfl, (by decide), T.oex, ha, _, rfl, _, rfl, a, C, rfl, T.oex, no _ (by decide +kernel), .inl ⟨ha, fun dx nd ne => ?_⟩⟩
    have q0 : Sto H a C dx _ _ := sto_one (fs := [("index", x0)]) nd ne
    exact k _ q0.2.2.2 ⟨dx, q0.2.1, q0.2.2.1⟩
theorem scI7 : FnScope ["self", "size"] ["self", "size"] (defScope sI7) := ⟨rfl, rfl, rfl, by decide +kernel, rfl, by decide +kernel, by decide +kernel⟩
theorem okI7 {f C : Addr} {fd : FuncData} (F : Fun K "__init__" "NoRoom.__init__" sI7 f fd) (G : XO K mg CO) (T : XC K CO C) (no : ∀ z ∈ fsOf 7, PySem.W.findIn K (.ref C) z = some none) : FnOk P w K mg base CX0 1 f fd ["self", "size"] (spX C (fsOf 7)) := by
  refine F.ok scI7 (fun vs H Q E h => ?_) (fun cdv A outer s H vs Q E hr h => ?_)
  · obtain ⟨a, ws, rfl, hl, _⟩ := h; exact congrArg Nat.succ hl
  · obtain ⟨a, ws, rfl, hl, ha, k⟩ := h
    obtain ⟨x0, rfl⟩ : ∃ x0, ws = [x0] := by { match ws, hl with | [x0], _ => exact ⟨x0, rfl⟩ }
    refine ⟨_, pss_cons (ps_expr (pe_coinit rfl G.mg G.sp G.rd G.fc (pa_cons (pv 0) (pa_cons pe_str pa_nil)))) (pss_one (ps_ost (pv 0) (pv 1))), ?_⟩
    refine ⟨_, rfl, a, C, _, rfl, (by decide), T.oex, ha, _, rfl, _, rfl, a, C, rfl, T.oex, no _ (by decide +kernel), .inl ⟨ha, fun dx nd ne => ?_⟩⟩
    have q0 : Sto H a C dx _ _ := sto_one (fs := [("size", x0)]) nd ne
    exact k _ q0.2.2.2 ⟨dx, q0.2.1, q0.2.2.1⟩
theorem scI8 : FnScope ["self", "need"] ["self", "need"] (defScope sI8) := ⟨rfl, rfl, rfl, by decide +kernel, rfl, by decide +kernel, by decide +kernel⟩
theorem okI8 {f C : Addr} {fd : FuncData} (F : Fun K "__init__" "Lacks.__init__" sI8 f fd) (G : XO K mg CO) (T : XC K CO C) (no : ∀ z ∈ fsOf 8, PySem.W.findIn K (.ref C) z = some none) : FnOk P w K mg base CX0 1 f fd ["self", "need"] (spX C (fsOf 8)) := by
  refine F.ok scI8 (fun vs H Q E h => ?_) (fun cdv A outer s H vs Q E hr h => ?_)
  · obtain ⟨a, ws, rfl, hl, _⟩ := h; exact congrArg Nat.succ hl
  · obtain ⟨a, ws, rfl, hl, ha, k⟩ := h
    obtain ⟨x0, rfl⟩ : ∃ x0, ws = [x0] := by { match ws, hl with | [x0], _ => exact ⟨x0, rfl⟩ }
    refine ⟨_, pss_cons (ps_expr (pe_coinit rfl G.mg G.sp G.rd G.fc (pa_cons (pv 0) (pa_cons pe_str pa_nil)))) (pss_one (ps_ost (pv 0) (pv 1))), ?_⟩
    refine ⟨_, rfl, a, C, _, rfl, (by decide), T.oex, ha, _, rfl, _, rfl, a, C, rfl, T.oex, no _ (by decide +kernel), .inl ⟨ha, fun dx nd ne => ?_⟩⟩
    have q0 : Sto H a C dx _ _ := sto_one (fs := [("need", x0)]) nd ne
    exact k _ q0.2.2.2 ⟨dx, q0.2.1, q0.2.2.1⟩
theorem scI9 : FnScope ["self", "at"] ["self", "at"] (defScope sI9) := ⟨rfl, rfl, rfl, by decide +kernel, rfl, by decide +kernel, by decide +kernel⟩
theorem okI9 {f C : Addr} {fd : FuncData} (F : Fun K "__init__" "NoText.__init__" sI9 f fd) (G : XO K mg CO) (T : XC K CO C) (no : ∀ z ∈ fsOf 9, PySem.W.findIn K (.ref C) z = some none) : FnOk P w K mg base CX0 1 f fd ["self", "at"] (spX C (fsOf 9)) := by
  refine F.ok scI9 (fun vs H Q E h => ?_) (fun cdv A outer s H vs Q E hr h => ?_)
  · obtain ⟨a, ws, rfl, hl, _⟩ := h; exact congrArg Nat.succ hl
  · obtain ⟨a, ws, rfl, hl, ha, k⟩ := h
    obtain ⟨x0, rfl⟩ : ∃ x0, ws = [x0] := by { match ws, hl with | [x0], _ => exact ⟨x0, rfl⟩ }
    refine ⟨_, pss_cons (ps_expr (pe_coinit rfl G.mg G.sp G.rd G.fc (pa_cons (pv 0) (pa_cons pe_str pa_nil)))) (pss_one (ps_ost (pv 0) (pv 1))), ?_⟩
    refine ⟨_, rfl, a, C, _, rfl, (by decide), T.oex, ha, _, rfl, _, rfl, a, C, rfl, T.oex, no _ (by decide +kernel), .inl ⟨ha, fun dx nd ne => ?_⟩⟩
    have q0 : Sto H a C dx _ _ := sto_one (fs := [("at", x0)]) nd ne
    exact k _ q0.2.2.2 ⟨dx, q0.2.1, q0.2.2.1⟩
theorem scI10 : FnScope ["self", "index"] ["self", "index"] (defScope sI10) := ⟨rfl, rfl, rfl, by decide +kernel, rfl, by decide +kernel, by decide +kernel⟩
theorem okI10 {f C : Addr} {fd : FuncData} (F : Fun K "__init__" "NoVersions.__init__" sI10 f fd) (G : XO K mg CO) (T : XC K CO C) (no : ∀ z ∈ fsOf 10, PySem.W.findIn K (.ref C) z = some none) : FnOk P w K mg base CX0 1 f fd ["self", "index"] (spX C (fsOf 10)) := by
  refine F.ok scI10 (fun vs H Q E h => ?_) (fun cdv A outer s H vs Q E hr h => ?_)
  · obtain ⟨a, ws, rfl, hl, _⟩ := h; exact congrArg Nat.succ hl
  · obtain ⟨a, ws, rfl, hl, ha, k⟩ := h
    obtain ⟨x0, rfl⟩ : ∃ x0, ws = [x0] := by { match ws, hl with | [x0], _ => exact ⟨x0, rfl⟩ }
    refine ⟨_, pss_cons (ps_expr (pe_coinit rfl G.mg G.sp G.rd G.fc (pa_cons (pv 0) (pa_cons pe_str pa_nil)))) (pss_one (ps_ost (pv 0) (pv 1))), ?_⟩
    refine ⟨_, rfl, a, C, _, rfl, (by decide), T.oex, ha, _, rfl, _, rfl, a, C, rfl, T.oex, no _ (by decide +kernel), .inl ⟨ha, fun dx nd ne => ?_⟩⟩
    have q0 : Sto H a C dx _ _ := sto_one (fs := [("index", x0)]) nd ne
    exact k _ q0.2.2.2 ⟨dx, q0.2.1, q0.2.2.1⟩
theorem scI11 : FnScope ["self", "number"] ["self", "number"] (defScope sI11) := ⟨rfl, rfl, rfl, by decide +kernel, rfl, by decide +kernel, by decide +kernel⟩
theorem okI11 {f C : Addr} {fd : FuncData} (F : Fun K "__init__" "NoVersion.__init__" sI11 f fd) (G : XO K mg CO) (T : XC K CO C) (no : ∀ z ∈ fsOf 11, PySem.W.findIn K (.ref C) z = some none) : FnOk P w K mg base CX0 1 f fd ["self", "number"] (spX C (fsOf 11)) := by
  refine F.ok scI11 (fun vs H Q E h => ?_) (fun cdv A outer s H vs Q E hr h => ?_)
  · obtain ⟨a, ws, rfl, hl, _⟩ := h; exact congrArg Nat.succ hl
  · obtain ⟨a, ws, rfl, hl, ha, k⟩ := h
    obtain ⟨x0, rfl⟩ : ∃ x0, ws = [x0] := by { match ws, hl with | [x0], _ => exact ⟨x0, rfl⟩ }
    refine ⟨_, pss_cons (ps_expr (pe_coinit rfl G.mg G.sp G.rd G.fc (pa_cons (pv 0) (pa_cons pe_str pa_nil)))) (pss_one (ps_ost (pv 0) (pv 1))), ?_⟩
    refine ⟨_, rfl, a, C, _, rfl, (by decide), T.oex, ha, _, rfl, _, rfl, a, C, rfl, T.oex, no _ (by decide +kernel), .inl ⟨ha, fun dx nd ne => ?_⟩⟩
    have q0 : Sto H a C dx _ _ := sto_one (fs := [("number", x0)]) nd ne
    exact k _ q0.2.2.2 ⟨dx, q0.2.1, q0.2.2.1⟩
theorem scI12 : FnScope ["self", "place"] ["self", "place"] (defScope sI12) := ⟨rfl, rfl, rfl, by decide +kernel, rfl, by decide +kernel, by decide +kernel⟩
theorem okI12 {f C : Addr} {fd : FuncData} (F : Fun K "__init__" "NoPlace.__init__" sI12 f fd) (G : XO K mg CO) (T : XC K CO C) (no : ∀ z ∈ fsOf 12, PySem.W.findIn K (.ref C) z = some none) : FnOk P w K mg base CX0 1 f fd ["self", "place"] (spX C (fsOf 12)) := by
  refine F.ok scI12 (fun vs H Q E h => ?_) (fun cdv A outer s H vs Q E hr h => ?_)
  · obtain ⟨a, ws, rfl, hl, _⟩ := h; exact congrArg Nat.succ hl
  · obtain ⟨a, ws, rfl, hl, ha, k⟩ := h
    obtain ⟨x0, rfl⟩ : ∃ x0, ws = [x0] := by { match ws, hl with | [x0], _ => exact ⟨x0, rfl⟩ }
    refine ⟨_, pss_cons (ps_expr (pe_coinit rfl G.mg G.sp G.rd G.fc (pa_cons (pv 0) (pa_cons pe_str pa_nil)))) (pss_one (ps_ost (pv 0) (pv 1))), ?_⟩
    refine ⟨_, rfl, a, C, _, rfl, (by decide), T.oex, ha, _, rfl, _, rfl, a, C, rfl, T.oex, no _ (by decide +kernel), .inl ⟨ha, fun dx nd ne => ?_⟩⟩
    have q0 : Sto H a C dx _ _ := sto_one (fs := [("place", x0)]) nd ne
    exact k _ q0.2.2.2 ⟨dx, q0.2.1, q0.2.2.1⟩
theorem scI13 : FnScope ["self", "place"] ["self", "place"] (defScope sI13) := ⟨rfl, rfl, rfl, by decide +kernel, rfl, by decide +kernel, by decide +kernel⟩
theorem okI13 {f C : Addr} {fd : FuncData} (F : Fun K "__init__" "NoReference.__init__" sI13 f fd) (G : XO K mg CO) (T : XC K CO C) (no : ∀ z ∈ fsOf 13, PySem.W.findIn K (.ref C) z = some none) : FnOk P w K mg base CX0 1 f fd ["self", "place"] (spX C (fsOf 13)) := by
  refine F.ok scI13 (fun vs H Q E h => ?_) (fun cdv A outer s H vs Q E hr h => ?_)
  · obtain ⟨a, ws, rfl, hl, _⟩ := h; exact congrArg Nat.succ hl
  · obtain ⟨a, ws, rfl, hl, ha, k⟩ := h
    obtain ⟨x0, rfl⟩ : ∃ x0, ws = [x0] := by { match ws, hl with | [x0], _ => exact ⟨x0, rfl⟩ }
    refine ⟨_, pss_cons (ps_expr (pe_coinit rfl G.mg G.sp G.rd G.fc (pa_cons (pv 0) (pa_cons pe_str pa_nil)))) (pss_one (ps_ost (pv 0) (pv 1))), ?_⟩
    refine ⟨_, rfl, a, C, _, rfl, (by decide), T.oex, ha, _, rfl, _, rfl, a, C, rfl, T.oex, no _ (by decide +kernel), .inl ⟨ha, fun dx nd ne => ?_⟩⟩
    have q0 : Sto H a C dx _ _ := sto_one (fs := [("place", x0)]) nd ne
    exact k _ q0.2.2.2 ⟨dx, q0.2.1, q0.2.2.1⟩
theorem scI14 : FnScope ["self", "need"] ["self", "need"] (defScope sI14) := ⟨rfl, rfl, rfl, by decide +kernel, rfl, by decide +kernel, by decide +kernel⟩
theorem okI14 {f C : Addr} {fd : FuncData} (F : Fun K "__init__" "NoNeed.__init__" sI14 f fd) (G : XO K mg CO) (T : XC K CO C) (no : ∀ z ∈ fsOf 14, PySem.W.findIn K (.ref C) z = some none) : FnOk P w K mg base CX0 1 f fd ["self", "need"] (spX C (fsOf 14)) := by
  refine F.ok scI14 (fun vs H Q E h => ?_) (fun cdv A outer s H vs Q E hr h => ?_)
  · obtain ⟨a, ws, rfl, hl, _⟩ := h; exact congrArg Nat.succ hl
  · obtain ⟨a, ws, rfl, hl, ha, k⟩ := h
    obtain ⟨x0, rfl⟩ : ∃ x0, ws = [x0] := by { match ws, hl with | [x0], _ => exact ⟨x0, rfl⟩ }
    refine ⟨_, pss_cons (ps_expr (pe_coinit rfl G.mg G.sp G.rd G.fc (pa_cons (pv 0) (pa_cons pe_str pa_nil)))) (pss_one (ps_ost (pv 0) (pv 1))), ?_⟩
    refine ⟨_, rfl, a, C, _, rfl, (by decide), T.oex, ha, _, rfl, _, rfl, a, C, rfl, T.oex, no _ (by decide +kernel), .inl ⟨ha, fun dx nd ne => ?_⟩⟩
    have q0 : Sto H a C dx _ _ := sto_one (fs := [("need", x0)]) nd ne
    exact k _ q0.2.2.2 ⟨dx, q0.2.1, q0.2.2.1⟩
theorem scI15 : FnScope ["self", "number"] ["self", "number"] (defScope sI15) := ⟨rfl, rfl, rfl, by decide +kernel, rfl, by decide +kernel, by decide +kernel⟩
theorem okI15 {f C : Addr} {fd : FuncData} (F : Fun K "__init__" "NoNumber.__init__" sI15 f fd) (G : XO K mg CO) (T : XC K CO C) (no : ∀ z ∈ fsOf 15, PySem.W.findIn K (.ref C) z = some none) : FnOk P w K mg base CX0 1 f fd ["self", "number"] (spX C (fsOf 15)) := by
  refine F.ok scI15 (fun vs H Q E h => ?_) (fun cdv A outer s H vs Q E hr h => ?_)
  · obtain ⟨a, ws, rfl, hl, _⟩ := h; exact congrArg Nat.succ hl
  · obtain ⟨a, ws, rfl, hl, ha, k⟩ := h
    obtain ⟨x0, rfl⟩ : ∃ x0, ws = [x0] := by { match ws, hl with | [x0], _ => exact ⟨x0, rfl⟩ }
    refine ⟨_, pss_cons (ps_expr (pe_coinit rfl G.mg G.sp G.rd G.fc (pa_cons (pv 0) (pa_cons pe_str pa_nil)))) (pss_one (ps_ost (pv 0) (pv 1))), ?_⟩
    refine ⟨_, rfl, a, C, _, rfl, (by decide), T.oex, ha, _, rfl, _, rfl, a, C, rfl, T.oex, no _ (by decide +kernel), .inl ⟨ha, fun dx nd ne => ?_⟩⟩
    have q0 : Sto H a C dx _ _ := sto_one (fs := [("number", x0)]) nd ne
    exact k _ q0.2.2.2 ⟨dx, q0.2.1, q0.2.2.1⟩
theorem scI16 : FnScope ["self", "pace"] ["self", "pace"] (defScope sI16) := ⟨rfl, rfl, rfl, by decide +kernel, rfl, by decide +kernel, by decide +kernel⟩
theorem okI16 {f C : Addr} {fd : FuncData} (F : Fun K "__init__" "NoPace.__init__" sI16 f fd) (G : XO K mg CO) (T : XC K CO C) (no : ∀ z ∈ fsOf 16, PySem.W.findIn K (.ref C) z = some none) : FnOk P w K mg base CX0 1 f fd ["self", "pace"] (spX C (fsOf 16)) := by
  refine F.ok scI16 (fun vs H Q E h => ?_) (fun cdv A outer s H vs Q E hr h => ?_)
  · obtain ⟨a, ws, rfl, hl, _⟩ := h; exact congrArg Nat.succ hl
  · obtain ⟨a, ws, rfl, hl, ha, k⟩ := h
    obtain ⟨x0, rfl⟩ : ∃ x0, ws = [x0] := by { match ws, hl with | [x0], _ => exact ⟨x0, rfl⟩ }
    refine ⟨_, pss_cons (ps_expr (pe_coinit rfl G.mg G.sp G.rd G.fc (pa_cons (pv 0) (pa_cons pe_str pa_nil)))) (pss_one (ps_ost (pv 0) (pv 1))), ?_⟩
    refine ⟨_, rfl, a, C, _, rfl, (by decide), T.oex, ha, _, rfl, _, rfl, a, C, rfl, T.oex, no _ (by decide +kernel), .inl ⟨ha, fun dx nd ne => ?_⟩⟩
    have q0 : Sto H a C dx _ _ := sto_one (fs := [("pace", x0)]) nd ne
    exact k _ q0.2.2.2 ⟨dx, q0.2.1, q0.2.2.1⟩
end
end K20


set_option Elab.async false
set_option linter.all false
set_option maxRecDepth 100000
set_option maxHeartbeats 4000000
/-! K20b: the defs of the law that make exceptions and look at them -/
namespace K20
open PySem L2 OC
abbrev sDraw : Stmt := top 20
abbrev sTaken : Stmt := top 21
abbrev sPlace : Stmt := top 22
abbrev sName : Stmt := top 23
abbrev sFields : Stmt := top 24
abbrev sRight : Stmt := top 25
abbrev sLaw : Stmt := top 26
/-- what is known of the i-th class -/
structure Cl (P : Program) (w : World) (K : PySem.W.Frag) (mg : Str → Option Value) (base : Heap) (CO : Addr) (nm : Str) (fs ks : List Str) (n : Nat) (C fI : Addr) (fd : FuncData) : Prop where
  T : XC K CO C
  gm : mg nm = some (.ref C)
  iC : PySem.W.findIn K (.ref C) "__init__" = some (some (.ref fI))
  tI : PySem.W.typeIn K (.ref fI) = some (.type "function")
  ok : FnOk P w K mg base CX0 1 fI fd ("self" :: fs) (spX C fs)
  bP : KBn K fd ("self" :: fs) (n + 1) [] gR gR
  bK : KBn K fd ("self" :: fs) 1 ks gR gR
  no : ∀ f ∈ fs, PySem.W.findIn K (.ref C) f = some none
  ne : C ≠ CO
def spL (c : Nat → Addr) (v : V) : List (Addr × List (Str × V)) := ([(c 0, [("index", .int 7), ("part", .str "p"), ("number", v)]), (c 1, [("index", .int 7), ("part", .str "p"), ("number", v)]), (c 2, [("at", .int 7), ("where", v)]), (c 3, [("name", v)]), (c 4, [("name", v)]), (c 5, [("index", v)]), (c 6, [("index", v)]), (c 7, [("size", v)]), (c 8, [("need", v)]), (c 9, [("at", v)]), (c 10, [("index", v)]), (c 11, [("number", v)]), (c 12, [("place", v)]), (c 13, [("place", v)]), (c 14, [("need", v)]), (c 15, [("number", v)]), (c 16, [("pace", v)])] : List (Addr × List (Str × V)))
/-- the list that by_place and by_name return -/
def Lst (c : Nat → Addr) (H : Hp) (p : Addr) (v : V) : Prop := ∃ as : List Addr, H p = some (.lst (as.map V.ref)) ∧ MadeL H as (spL c v)
def spMake (c : Nat → Addr) : Sp := fun vs H Q _ => ∃ v, vs = [v] ∧ ∀ (H' : Hp) (p : Addr), Same H H' → Lst c H' p v → Q (.ref p) H'
theorem le_size {n : Nat} (h : n ≤ 1000) : n ≤ sizeLine := Nat.le_trans h (by decide)
theorem tyV_lst {K : PySem.W.Frag} {H : Hp} {p : Addr} {xs : List V} (h : H p = some (.lst xs)) : tyV K "list" (.ref p) H := .inl ⟨rfl, _, SqL.of h⟩
theorem made_map {H H' : Hp} (f : ∀ {a C : Addr} {fs : List (Str × V)}, ExAt H a C fs → ExAt H' a C fs) : ∀ {as : List Addr} {sp : List (Addr × List (Str × V))}, MadeL H as sp → MadeL H' as sp
  | _, _, .nil => .nil
  | _, _, .cons h t => .cons (f h) (made_map f t)
theorem _root_.L2.Same.new {H : Hp} {p : Addr} {o : HO} (n : H p = none) : Same H (upd H p o) := fun b u e => by rw [upd_ne (ne_of_none e n)]; exact e
theorem _root_.L2.Same.up {H H' : Hp} {p : Addr} {o : HO} (s : Same H H') (n : H p = none) : Same H (upd H' p o) := fun b u e => by rw [upd_ne (ne_of_none e n)]; exact s b u e
section
variable {P : Program} {w : World} {K : PySem.W.Frag} {mg : Str → Option Value} {base : Heap} {CO : Addr} {c fI : Nat → Addr} {fd : Nat → FuncData}
theorem scP : FnScope ["_law_x", "_law_some"] ["_law_x"] (defScope sPlace) := ⟨rfl, rfl, rfl, by decide +kernel, rfl, by decide +kernel, by decide +kernel⟩
theorem scN : FnScope ["_law_x", "_law_some"] ["_law_x"] (defScope sName) := ⟨rfl, rfl, rfl, by decide +kernel, rfl, by decide +kernel, by decide +kernel⟩
theorem scF : FnScope ["_law_some", "_law_found"] ["_law_some"] (defScope sFields) := ⟨rfl, rfl, rfl, by decide +kernel, rfl, by decide +kernel, by decide +kernel⟩
theorem scT : FnScope ["_law_e", "_law_found"] ["_law_e"] (defScope sTaken) := ⟨rfl, rfl, rfl, by decide +kernel, rfl, by decide +kernel, by decide +kernel⟩
theorem okPlace {f : Addr} {fdF : FuncData} (F : Fun K "_law_by_place" "_law_by_place" sPlace f fdF) (D0 : Cl P w K mg base CO "NoLibrary" ["number", "part", "index"] ["index", "part", "number"] 3 (c 0) (fI 0) (fd 0)) (D1 : Cl P w K mg base CO "NoClient" ["number", "part", "index"] ["index", "part", "number"] 3 (c 1) (fI 1) (fd 1)) (D2 : Cl P w K mg base CO "NoBody" ["where", "at"] ["at", "where"] 2 (c 2) (fI 2) (fd 2)) (D3 : Cl P w K mg base CO "NoClass" ["name"] ["name"] 1 (c 3) (fI 3) (fd 3)) (D4 : Cl P w K mg base CO "NoMember" ["name"] ["name"] 1 (c 4) (fI 4) (fd 4)) (D5 : Cl P w K mg base CO "NoTables" ["index"] ["index"] 1 (c 5) (fI 5) (fd 5)) (D6 : Cl P w K mg base CO "NoFields" ["index"] ["index"] 1 (c 6) (fI 6) (fd 6)) (D7 : Cl P w K mg base CO "NoRoom" ["size"] ["size"] 1 (c 7) (fI 7) (fd 7)) (D8 : Cl P w K mg base CO "Lacks" ["need"] ["need"] 1 (c 8) (fI 8) (fd 8)) (D9 : Cl P w K mg base CO "NoText" ["at"] ["at"] 1 (c 9) (fI 9) (fd 9)) (D10 : Cl P w K mg base CO "NoVersions" ["index"] ["index"] 1 (c 10) (fI 10) (fd 10)) (D11 : Cl P w K mg base CO "NoVersion" ["number"] ["number"] 1 (c 11) (fI 11) (fd 11)) (D12 : Cl P w K mg base CO "NoPlace" ["place"] ["place"] 1 (c 12) (fI 12) (fd 12)) (D13 : Cl P w K mg base CO "NoReference" ["place"] ["place"] 1 (c 13) (fI 13) (fd 13)) (D14 : Cl P w K mg base CO "NoNeed" ["need"] ["need"] 1 (c 14) (fI 14) (fd 14)) (D15 : Cl P w K mg base CO "NoNumber" ["number"] ["number"] 1 (c 15) (fI 15) (fd 15)) (D16 : Cl P w K mg base CO "NoPace" ["pace"] ["pace"] 1 (c 16) (fI 16) (fd 16)) : FnOk P w K mg base CX0 3 f fdF ["_law_x"] (spMake c) := by
  refine F.ok scP (fun vs H Q E h => ?_) (fun cdv A outer s H vs Q E hr h => ?_)
  · obtain ⟨v, rfl, _⟩ := h; rfl
  · obtain ⟨v, rfl, k⟩ := h
    refine ⟨_, (pss_cons (ps_set (i := 1) scP.nd rfl (Or.inl rfl) (pe_lst (pa_cons (pe_mkX D0.T D0.iC D0.tI D0.ok hr D0.bP rfl D0.gm (pa_cons (pv 0) (pa_cons pe_str (pa_cons pe_int pa_nil)))) (pa_cons (pe_mkX D1.T D1.iC D1.tI D1.ok hr D1.bP rfl D1.gm (pa_cons (pv 0) (pa_cons pe_str (pa_cons pe_int pa_nil)))) (pa_cons (pe_mkX D2.T D2.iC D2.tI D2.ok hr D2.bP rfl D2.gm (pa_cons (pv 0) (pa_cons pe_int pa_nil))) (pa_cons (pe_mkX D3.T D3.iC D3.tI D3.ok hr D3.bP rfl D3.gm (pa_cons (pv 0) pa_nil)) (pa_cons (pe_mkX D4.T D4.iC D4.tI D4.ok hr D4.bP rfl D4.gm (pa_cons (pv 0) pa_nil)) (pa_cons (pe_mkX D5.T D5.iC D5.tI D5.ok hr D5.bP rfl D5.gm (pa_cons (pv 0) pa_nil)) (pa_cons (pe_mkX D6.T D6.iC D6.tI D6.ok hr D6.bP rfl D6.gm (pa_cons (pv 0) pa_nil)) pa_nil)))))))))
      (pss_cons (ps_set (i := 1) scP.nd rfl (Or.inl rfl) (pe_op op_cat (pv 1) (pe_lst (pa_cons (pe_mkX D7.T D7.iC D7.tI D7.ok hr D7.bP rfl D7.gm (pa_cons (pv 0) pa_nil)) (pa_cons (pe_mkX D8.T D8.iC D8.tI D8.ok hr D8.bP rfl D8.gm (pa_cons (pv 0) pa_nil)) (pa_cons (pe_mkX D9.T D9.iC D9.tI D9.ok hr D9.bP rfl D9.gm (pa_cons (pv 0) pa_nil)) (pa_cons (pe_mkX D10.T D10.iC D10.tI D10.ok hr D10.bP rfl D10.gm (pa_cons (pv 0) pa_nil)) (pa_cons (pe_mkX D11.T D11.iC D11.tI D11.ok hr D11.bP rfl D11.gm (pa_cons (pv 0) pa_nil)) (pa_cons (pe_mkX D12.T D12.iC D12.tI D12.ok hr D12.bP rfl D12.gm (pa_cons (pv 0) pa_nil)) (pa_cons (pe_mkX D13.T D13.iC D13.tI D13.ok hr D13.bP rfl D13.gm (pa_cons (pv 0) pa_nil)) pa_nil))))))))))
      (pss_one (ps_ret (pe_op op_cat (pv 1) (pe_lst (pa_cons (pe_mkX D14.T D14.iC D14.tI D14.ok hr D14.bP rfl D14.gm (pa_cons (pv 0) pa_nil)) (pa_cons (pe_mkX D15.T D15.iC D15.tI D15.ok hr D15.bP rfl D15.gm (pa_cons (pv 0) pa_nil)) (pa_cons (pe_mkX D16.T D16.iC D16.tI D16.ok hr D16.bP rfl D16.gm (pa_cons (pv 0) pa_nil)) pa_nil))))))))), ?_⟩
    have hs : (start ["_law_x", "_law_some"] [v])[0]? = some (some v) := rfl
    refine r_seqSet (r_lst ((mks_cons (mkPos (fun _ => (evs_cons (ev_var hs) (evs_cons ev_c (evs_cons ev_c evs_nil)))) rfl (Nat.le_of_ble_eq_true rfl) rfl rfl) (mks_cons (mkPos (fun _ => (evs_cons (ev_var hs) (evs_cons ev_c (evs_cons ev_c evs_nil)))) rfl (Nat.le_of_ble_eq_true rfl) rfl rfl) (mks_cons (mkPos (fun _ => (evs_cons (ev_var hs) (evs_cons ev_c evs_nil))) rfl (Nat.le_of_ble_eq_true rfl) rfl rfl) (mks_cons (mkPos (fun _ => (evs_cons (ev_var hs) evs_nil)) rfl (Nat.le_of_ble_eq_true rfl) rfl rfl) (mks_cons (mkPos (fun _ => (evs_cons (ev_var hs) evs_nil)) rfl (Nat.le_of_ble_eq_true rfl) rfl rfl) (mks_cons (mkPos (fun _ => (evs_cons (ev_var hs) evs_nil)) rfl (Nat.le_of_ble_eq_true rfl) rfl rfl) (mks_cons (mkPos (fun _ => (evs_cons (ev_var hs) evs_nil)) rfl (Nat.le_of_ble_eq_true rfl) rfl rfl) mks_nil))))))) H _ fun H1 as1 s1 m1 => ⟨(by rw [List.length_map, m1.length]; exact le_size (Nat.le_of_ble_eq_true rfl)), fun p1 n1 => ?_⟩))
    have h1 : Same H (upd H1 p1 (.lst (as1.map V.ref))) := s1.up (s1.free n1)
    have g1 := m1.same (Same.new (o := .lst (as1.map V.ref)) n1)
    have e1 : (upd H1 p1 (.lst (as1.map V.ref))) p1 = some (.lst (as1.map V.ref)) := upd_same
    have np1 : H p1 = none := s1.free n1
    generalize upd H1 p1 (.lst (as1.map V.ref)) = G1 at h1 g1 e1 ⊢
    have hs : ((start ["_law_x", "_law_some"] [v]).set 1 (some (V.ref p1)))[0]? = some (some v) := rfl
    refine r_seqSet (r_op (r_var rfl (r_lst ((mks_cons (mkPos (fun _ => (evs_cons (ev_var hs) evs_nil)) rfl (Nat.le_of_ble_eq_true rfl) rfl rfl) (mks_cons (mkPos (fun _ => (evs_cons (ev_var hs) evs_nil)) rfl (Nat.le_of_ble_eq_true rfl) rfl rfl) (mks_cons (mkPos (fun _ => (evs_cons (ev_var hs) evs_nil)) rfl (Nat.le_of_ble_eq_true rfl) rfl rfl) (mks_cons (mkPos (fun _ => (evs_cons (ev_var hs) evs_nil)) rfl (Nat.le_of_ble_eq_true rfl) rfl rfl) (mks_cons (mkPos (fun _ => (evs_cons (ev_var hs) evs_nil)) rfl (Nat.le_of_ble_eq_true rfl) rfl rfl) (mks_cons (mkPos (fun _ => (evs_cons (ev_var hs) evs_nil)) rfl (Nat.le_of_ble_eq_true rfl) rfl rfl) (mks_cons (mkPos (fun _ => (evs_cons (ev_var hs) evs_nil)) rfl (Nat.le_of_ble_eq_true rfl) rfl rfl) mks_nil))))))) G1 _ fun H2 as2 s2 m2 => ⟨(by rw [List.length_map, m2.length]; exact le_size (Nat.le_of_ble_eq_true rfl)), fun l2 nl2 => ⟨p1, l2, _, _, rfl, rfl, (by rw [upd_ne (ne_of_none (s2 _ _ e1) nl2)]; exact s2 _ _ e1), upd_same, (by rw [List.length_map, List.length_map, m2.length, g1.length]; exact le_size (Nat.le_of_ble_eq_true rfl)), fun p2 np2 => ?_⟩⟩))))
    have f2 := Same.new (o := .lst (as2.map V.ref)) nl2
    have t2 := (s2.trans f2).trans (Same.new (o := .lst (as1.map V.ref ++ as2.map V.ref)) np2)
    have g2 := MadeL.append (g1.same t2) (m2.same (f2.trans (Same.new (o := .lst (as1.map V.ref ++ as2.map V.ref)) np2)))
    have h2 := h1.trans t2
    have nh2 : H p2 = none := (h1.trans (s2.trans f2)).free np2
    have e2 : (upd (upd H2 l2 (.lst (as2.map V.ref))) p2 (.lst (as1.map V.ref ++ as2.map V.ref))) p2 = some (.lst ((as1 ++ as2).map V.ref)) := by rw [upd_same]; exact congrArg (fun z => some (HO.lst z)) List.map_append.symm
    generalize upd (upd H2 l2 (.lst (as2.map V.ref))) p2 (.lst (as1.map V.ref ++ as2.map V.ref)) = G2 at t2 g2 h2 e2 ⊢
    clear np2; have np2 := nh2
    have hs : ((start ["_law_x", "_law_some"] [v]).set 1 (some (V.ref p2)))[0]? = some (some v) := rfl
    refine r_ret (r_op (r_var rfl (r_lst ((mks_cons (mkPos (fun _ => (evs_cons (ev_var hs) evs_nil)) rfl (Nat.le_of_ble_eq_true rfl) rfl rfl) (mks_cons (mkPos (fun _ => (evs_cons (ev_var hs) evs_nil)) rfl (Nat.le_of_ble_eq_true rfl) rfl rfl) (mks_cons (mkPos (fun _ => (evs_cons (ev_var hs) evs_nil)) rfl (Nat.le_of_ble_eq_true rfl) rfl rfl) mks_nil))) G2 _ fun H3 as3 s3 m3 => ⟨(by rw [List.length_map, m3.length]; exact le_size (Nat.le_of_ble_eq_true rfl)), fun l3 nl3 => ⟨p2, l3, _, _, rfl, rfl, (by rw [upd_ne (ne_of_none (s3 _ _ e2) nl3)]; exact s3 _ _ e2), upd_same, (by rw [List.length_map, List.length_map, m3.length, g2.length]; exact le_size (Nat.le_of_ble_eq_true rfl)), fun p3 np3 => ?_⟩⟩))))
    have f3 := Same.new (o := .lst (as3.map V.ref)) nl3
    have t3 := (s3.trans f3).trans (Same.new (o := .lst ((as1 ++ as2).map V.ref ++ as3.map V.ref)) np3)
    have g3 := MadeL.append (g2.same t3) (m3.same (f3.trans (Same.new (o := .lst ((as1 ++ as2).map V.ref ++ as3.map V.ref)) np3)))
    have h3 := h2.trans t3
    have nh3 : H p3 = none := (h2.trans (s3.trans f3)).free np3
    have e3 : (upd (upd H3 l3 (.lst (as3.map V.ref))) p3 (.lst ((as1 ++ as2).map V.ref ++ as3.map V.ref))) p3 = some (.lst (((as1 ++ as2) ++ as3).map V.ref)) := by rw [upd_same]; exact congrArg (fun z => some (HO.lst z)) List.map_append.symm
    generalize upd (upd H3 l3 (.lst (as3.map V.ref))) p3 (.lst ((as1 ++ as2).map V.ref ++ as3.map V.ref)) = G3 at t3 g3 h3 e3 ⊢
    clear np3; have np3 := nh3
    exact k _ _ h3 ⟨_, e3, g3⟩
theorem okName {f : Addr} {fdF : FuncData} (F : Fun K "_law_by_name" "_law_by_name" sName f fdF) (D0 : Cl P w K mg base CO "NoLibrary" ["number", "part", "index"] ["index", "part", "number"] 3 (c 0) (fI 0) (fd 0)) (D1 : Cl P w K mg base CO "NoClient" ["number", "part", "index"] ["index", "part", "number"] 3 (c 1) (fI 1) (fd 1)) (D2 : Cl P w K mg base CO "NoBody" ["where", "at"] ["at", "where"] 2 (c 2) (fI 2) (fd 2)) (D3 : Cl P w K mg base CO "NoClass" ["name"] ["name"] 1 (c 3) (fI 3) (fd 3)) (D4 : Cl P w K mg base CO "NoMember" ["name"] ["name"] 1 (c 4) (fI 4) (fd 4)) (D5 : Cl P w K mg base CO "NoTables" ["index"] ["index"] 1 (c 5) (fI 5) (fd 5)) (D6 : Cl P w K mg base CO "NoFields" ["index"] ["index"] 1 (c 6) (fI 6) (fd 6)) (D7 : Cl P w K mg base CO "NoRoom" ["size"] ["size"] 1 (c 7) (fI 7) (fd 7)) (D8 : Cl P w K mg base CO "Lacks" ["need"] ["need"] 1 (c 8) (fI 8) (fd 8)) (D9 : Cl P w K mg base CO "NoText" ["at"] ["at"] 1 (c 9) (fI 9) (fd 9)) (D10 : Cl P w K mg base CO "NoVersions" ["index"] ["index"] 1 (c 10) (fI 10) (fd 10)) (D11 : Cl P w K mg base CO "NoVersion" ["number"] ["number"] 1 (c 11) (fI 11) (fd 11)) (D12 : Cl P w K mg base CO "NoPlace" ["place"] ["place"] 1 (c 12) (fI 12) (fd 12)) (D13 : Cl P w K mg base CO "NoReference" ["place"] ["place"] 1 (c 13) (fI 13) (fd 13)) (D14 : Cl P w K mg base CO "NoNeed" ["need"] ["need"] 1 (c 14) (fI 14) (fd 14)) (D15 : Cl P w K mg base CO "NoNumber" ["number"] ["number"] 1 (c 15) (fI 15) (fd 15)) (D16 : Cl P w K mg base CO "NoPace" ["pace"] ["pace"] 1 (c 16) (fI 16) (fd 16)) : FnOk P w K mg base CX0 3 f fdF ["_law_x"] (spMake c) := by
  refine F.ok scN (fun vs H Q E h => ?_) (fun cdv A outer s H vs Q E hr h => ?_)
  · obtain ⟨v, rfl, _⟩ := h; rfl
  · obtain ⟨v, rfl, k⟩ := h
    refine ⟨_, (pss_cons (ps_set (i := 1) scN.nd rfl (Or.inl rfl) (pe_lst (pa_cons (pe_mkXK D0.T D0.iC D0.tI D0.ok hr D0.bK rfl D0.gm (pk_cons pe_int (pk_cons pe_str (pk_cons (pv 0) pk_nil)))) (pa_cons (pe_mkXK D1.T D1.iC D1.tI D1.ok hr D1.bK rfl D1.gm (pk_cons pe_int (pk_cons pe_str (pk_cons (pv 0) pk_nil)))) (pa_cons (pe_mkXK D2.T D2.iC D2.tI D2.ok hr D2.bK rfl D2.gm (pk_cons pe_int (pk_cons (pv 0) pk_nil))) pa_nil)))))
      (pss_cons (ps_set (i := 1) scN.nd rfl (Or.inl rfl) (pe_op op_cat (pv 1) (pe_lst (pa_cons (pe_mkXK D3.T D3.iC D3.tI D3.ok hr D3.bK rfl D3.gm (pk_cons (pv 0) pk_nil)) (pa_cons (pe_mkXK D4.T D4.iC D4.tI D4.ok hr D4.bK rfl D4.gm (pk_cons (pv 0) pk_nil)) (pa_cons (pe_mkXK D5.T D5.iC D5.tI D5.ok hr D5.bK rfl D5.gm (pk_cons (pv 0) pk_nil)) (pa_cons (pe_mkXK D6.T D6.iC D6.tI D6.ok hr D6.bK rfl D6.gm (pk_cons (pv 0) pk_nil)) (pa_cons (pe_mkXK D7.T D7.iC D7.tI D7.ok hr D7.bK rfl D7.gm (pk_cons (pv 0) pk_nil)) pa_nil))))))))
      (pss_cons (ps_set (i := 1) scN.nd rfl (Or.inl rfl) (pe_op op_cat (pv 1) (pe_lst (pa_cons (pe_mkXK D8.T D8.iC D8.tI D8.ok hr D8.bK rfl D8.gm (pk_cons (pv 0) pk_nil)) (pa_cons (pe_mkXK D9.T D9.iC D9.tI D9.ok hr D9.bK rfl D9.gm (pk_cons (pv 0) pk_nil)) (pa_cons (pe_mkXK D10.T D10.iC D10.tI D10.ok hr D10.bK rfl D10.gm (pk_cons (pv 0) pk_nil)) (pa_cons (pe_mkXK D11.T D11.iC D11.tI D11.ok hr D11.bK rfl D11.gm (pk_cons (pv 0) pk_nil)) (pa_cons (pe_mkXK D12.T D12.iC D12.tI D12.ok hr D12.bK rfl D12.gm (pk_cons (pv 0) pk_nil)) pa_nil))))))))
      (pss_cons (ps_expr (pe_bm PySem.F.plainAttrs_list PySem.F.slot_list_append PySem.F.type_list_append mt_append (pv 1) (pa_cons (pe_mkXK D13.T D13.iC D13.tI D13.ok hr D13.bK rfl D13.gm (pk_cons (pv 0) pk_nil)) pa_nil)))
      (pss_one (ps_ret (pe_op op_cat (pv 1) (pe_lst (pa_cons (pe_mkXK D14.T D14.iC D14.tI D14.ok hr D14.bK rfl D14.gm (pk_cons (pv 0) pk_nil)) (pa_cons (pe_mkXK D15.T D15.iC D15.tI D15.ok hr D15.bK rfl D15.gm (pk_cons (pv 0) pk_nil)) (pa_cons (pe_mkXK D16.T D16.iC D16.tI D16.ok hr D16.bK rfl D16.gm (pk_cons (pv 0) pk_nil)) pa_nil))))))))))), ?_⟩
    have hs : (start ["_law_x", "_law_some"] [v])[0]? = some (some v) := rfl
    refine r_seqSet (r_lst ((mks_cons (mkKey (fun _ => (evs_cons ev_c (evs_cons ev_c (evs_cons (ev_var hs) evs_nil)))) rfl rfl rfl) (mks_cons (mkKey (fun _ => (evs_cons ev_c (evs_cons ev_c (evs_cons (ev_var hs) evs_nil)))) rfl rfl rfl) (mks_cons (mkKey (fun _ => (evs_cons ev_c (evs_cons (ev_var hs) evs_nil))) rfl rfl rfl) mks_nil))) H _ fun H1 as1 s1 m1 => ⟨(by rw [List.length_map, m1.length]; exact le_size (Nat.le_of_ble_eq_true rfl)), fun p1 n1 => ?_⟩))
    have h1 : Same H (upd H1 p1 (.lst (as1.map V.ref))) := s1.up (s1.free n1)
    have g1 := m1.same (Same.new (o := .lst (as1.map V.ref)) n1)
    have e1 : (upd H1 p1 (.lst (as1.map V.ref))) p1 = some (.lst (as1.map V.ref)) := upd_same
    have np1 : H p1 = none := s1.free n1
    generalize upd H1 p1 (.lst (as1.map V.ref)) = G1 at h1 g1 e1 ⊢
    have hs : ((start ["_law_x", "_law_some"] [v]).set 1 (some (V.ref p1)))[0]? = some (some v) := rfl
    refine r_seqSet (r_op (r_var rfl (r_lst ((mks_cons (mkKey (fun _ => (evs_cons (ev_var hs) evs_nil)) rfl rfl rfl) (mks_cons (mkKey (fun _ => (evs_cons (ev_var hs) evs_nil)) rfl rfl rfl) (mks_cons (mkKey (fun _ => (evs_cons (ev_var hs) evs_nil)) rfl rfl rfl) (mks_cons (mkKey (fun _ => (evs_cons (ev_var hs) evs_nil)) rfl rfl rfl) (mks_cons (mkKey (fun _ => (evs_cons (ev_var hs) evs_nil)) rfl rfl rfl) mks_nil))))) G1 _ fun H2 as2 s2 m2 => ⟨(by rw [List.length_map, m2.length]; exact le_size (Nat.le_of_ble_eq_true rfl)), fun l2 nl2 => ⟨p1, l2, _, _, rfl, rfl, (by rw [upd_ne (ne_of_none (s2 _ _ e1) nl2)]; exact s2 _ _ e1), upd_same, (by rw [List.length_map, List.length_map, m2.length, g1.length]; exact le_size (Nat.le_of_ble_eq_true rfl)), fun p2 np2 => ?_⟩⟩))))
    have f2 := Same.new (o := .lst (as2.map V.ref)) nl2
    have t2 := (s2.trans f2).trans (Same.new (o := .lst (as1.map V.ref ++ as2.map V.ref)) np2)
    have g2 := MadeL.append (g1.same t2) (m2.same (f2.trans (Same.new (o := .lst (as1.map V.ref ++ as2.map V.ref)) np2)))
    have h2 := h1.trans t2
    have nh2 : H p2 = none := (h1.trans (s2.trans f2)).free np2
    have e2 : (upd (upd H2 l2 (.lst (as2.map V.ref))) p2 (.lst (as1.map V.ref ++ as2.map V.ref))) p2 = some (.lst ((as1 ++ as2).map V.ref)) := by rw [upd_same]; exact congrArg (fun z => some (HO.lst z)) List.map_append.symm
    generalize upd (upd H2 l2 (.lst (as2.map V.ref))) p2 (.lst (as1.map V.ref ++ as2.map V.ref)) = G2 at t2 g2 h2 e2 ⊢
    clear np2; have np2 := nh2
    have hs : ((start ["_law_x", "_law_some"] [v]).set 1 (some (V.ref p2)))[0]? = some (some v) := rfl
    refine r_seqSet (r_op (r_var rfl (r_lst ((mks_cons (mkKey (fun _ => (evs_cons (ev_var hs) evs_nil)) rfl rfl rfl) (mks_cons (mkKey (fun _ => (evs_cons (ev_var hs) evs_nil)) rfl rfl rfl) (mks_cons (mkKey (fun _ => (evs_cons (ev_var hs) evs_nil)) rfl rfl rfl) (mks_cons (mkKey (fun _ => (evs_cons (ev_var hs) evs_nil)) rfl rfl rfl) (mks_cons (mkKey (fun _ => (evs_cons (ev_var hs) evs_nil)) rfl rfl rfl) mks_nil))))) G2 _ fun H3 as3 s3 m3 => ⟨(by rw [List.length_map, m3.length]; exact le_size (Nat.le_of_ble_eq_true rfl)), fun l3 nl3 => ⟨p2, l3, _, _, rfl, rfl, (by rw [upd_ne (ne_of_none (s3 _ _ e2) nl3)]; exact s3 _ _ e2), upd_same, (by rw [List.length_map, List.length_map, m3.length, g2.length]; exact le_size (Nat.le_of_ble_eq_true rfl)), fun p3 np3 => ?_⟩⟩))))
    have f3 := Same.new (o := .lst (as3.map V.ref)) nl3
    have t3 := (s3.trans f3).trans (Same.new (o := .lst ((as1 ++ as2).map V.ref ++ as3.map V.ref)) np3)
    have g3 := MadeL.append (g2.same t3) (m3.same (f3.trans (Same.new (o := .lst ((as1 ++ as2).map V.ref ++ as3.map V.ref)) np3)))
    have h3 := h2.trans t3
    have nh3 : H p3 = none := (h2.trans (s3.trans f3)).free np3
    have e3 : (upd (upd H3 l3 (.lst (as3.map V.ref))) p3 (.lst ((as1 ++ as2).map V.ref ++ as3.map V.ref))) p3 = some (.lst (((as1 ++ as2) ++ as3).map V.ref)) := by rw [upd_same]; exact congrArg (fun z => some (HO.lst z)) List.map_append.symm
    generalize upd (upd H3 l3 (.lst (as3.map V.ref))) p3 (.lst ((as1 ++ as2).map V.ref ++ as3.map V.ref)) = G3 at t3 g3 h3 e3 ⊢
    clear np3; have np3 := nh3
    have hs : ((start ["_law_x", "_law_some"] [v]).set 1 (some (V.ref p3)))[0]? = some (some v) := rfl
    refine r_seqDrop (r_bm (r_var rfl ⟨tyV_lst e3, r_cons ((mkKey (fun _ => (evs_cons (ev_var hs) evs_nil)) rfl rfl rfl) G3 _ fun HX ax sx ex => r_nil ⟨p3, _, _, rfl, rfl, sx _ _ e3, (by rw [List.length_map, g3.length]; exact Nat.lt_of_le_of_lt (Nat.le_of_ble_eq_true (m := 100) rfl) (by decide)), ?_⟩)⟩))
    have exX : ∀ {a C : Addr} {fs : List (Str × V)}, ExAt HX a C fs → ExAt (upd HX p3 (.lst (((as1 ++ as2) ++ as3).map V.ref ++ [V.ref ax]))) a C fs := fun {a C fs} h => by
      obtain ⟨d, d1, d2⟩ := h
      have pl := sx _ _ e3
      exact ⟨d, (by rw [upd_ne (ne_of d1 pl (fun z => by cases z))]; exact d1), (by rw [upd_ne (ne_of d2 pl (fun z => by cases z))]; exact d2)⟩
    have gX : MadeL (upd HX p3 (.lst (((as1 ++ as2) ++ as3).map V.ref ++ [V.ref ax]))) (((as1 ++ as2) ++ as3) ++ [ax]) _ := MadeL.append (sq := ([(c 13, [("place", v)])] : List (Addr × List (Str × V)))) (made_map exX (g3.same sx)) (.cons (exX ex) .nil)
    have hX : Same H (upd HX p3 (.lst (((as1 ++ as2) ++ as3).map V.ref ++ [V.ref ax]))) := Same.up (h3.trans sx) np3
    have eX : (upd HX p3 (.lst (((as1 ++ as2) ++ as3).map V.ref ++ [V.ref ax]))) p3 = some (.lst ((((as1 ++ as2) ++ as3) ++ [ax]).map V.ref)) := by rw [upd_same, List.map_append (l₂ := [ax])]; rfl
    generalize upd HX p3 (.lst (((as1 ++ as2) ++ as3).map V.ref ++ [V.ref ax])) = GX at hX gX eX ⊢
    refine r_ret (r_op (r_var rfl (r_lst ((mks_cons (mkKey (fun _ => (evs_cons (ev_var hs) evs_nil)) rfl rfl rfl) (mks_cons (mkKey (fun _ => (evs_cons (ev_var hs) evs_nil)) rfl rfl rfl) (mks_cons (mkKey (fun _ => (evs_cons (ev_var hs) evs_nil)) rfl rfl rfl) mks_nil))) GX _ fun H4 as4 s4 m4 => ⟨(by rw [List.length_map, m4.length]; exact le_size (Nat.le_of_ble_eq_true rfl)), fun l4 nl4 => ⟨p3, l4, _, _, rfl, rfl, (by rw [upd_ne (ne_of_none (s4 _ _ eX) nl4)]; exact s4 _ _ eX), upd_same, (by rw [List.length_map, List.length_map, m4.length, gX.length]; exact le_size (Nat.le_of_ble_eq_true rfl)), fun p4 np4 => ?_⟩⟩))))
    have f4 := Same.new (o := .lst (as4.map V.ref)) nl4
    have t4 := (s4.trans f4).trans (Same.new (o := .lst ((((as1 ++ as2) ++ as3) ++ [ax]).map V.ref ++ as4.map V.ref)) np4)
    have g4 := MadeL.append (gX.same t4) (m4.same (f4.trans (Same.new (o := .lst ((((as1 ++ as2) ++ as3) ++ [ax]).map V.ref ++ as4.map V.ref)) np4)))
    have h4 := hX.trans t4
    have nh4 : H p4 = none := (hX.trans (s4.trans f4)).free np4
    have e4 : (upd (upd H4 l4 (.lst (as4.map V.ref))) p4 (.lst ((((as1 ++ as2) ++ as3) ++ [ax]).map V.ref ++ as4.map V.ref))) p4 = some (.lst (((((as1 ++ as2) ++ as3) ++ [ax]) ++ as4).map V.ref)) := by rw [upd_same]; exact congrArg (fun z => some (HO.lst z)) List.map_append.symm
    generalize upd (upd H4 l4 (.lst (as4.map V.ref))) p4 (.lst ((((as1 ++ as2) ++ as3) ++ [ax]).map V.ref ++ as4.map V.ref)) = G4 at t4 g4 h4 e4 ⊢
    clear np4; have np4 := nh4
    exact k _ _ h4 ⟨_, e4, g4⟩
end
end K20


set_option Elab.async false
set_option linter.all false
set_option maxRecDepth 100000
set_option maxHeartbeats 4000000
/-! K20c: fields, taken, draw -/
namespace K20
open PySem L2 OC
def spFields (c : Nat → Addr) : Sp := fun vs H Q _ => ∃ (p : Addr) (v : V), vs = [.ref p] ∧ Lst c H p v ∧ ∀ (H' : Hp) (q : Addr), Same H H' → H' q = some (.lst (List.replicate 17 v)) → Q (.ref q) H'
def tkL (c : Nat → Addr) (C : Addr) : List V := [.bl (decide (C = c 0)), .bl (decide (C = c 1)), .bl (decide (C = c 2)), .bl (decide (C = c 3)), .bl (decide (C = c 4)), .bl (decide (C = c 5)), .bl (decide (C = c 6)), .bl (decide (C = c 7)), .bl (decide (C = c 8)), .bl (decide (C = c 9)), .bl (decide (C = c 10)), .bl (decide (C = c 11)), .bl (decide (C = c 12)), .bl (decide (C = c 13)), .bl (decide (C = c 14)), .bl (decide (C = c 15)), .bl (decide (C = c 16))]
def spTaken (c : Nat → Addr) : Sp := fun vs H Q _ => ∃ (a : Addr) (i : Nat) (fs : List (Str × V)), vs = [.ref a] ∧ i < 17 ∧ ExAt H a (c i) fs ∧ ∀ (H' : Hp) (q : Addr), Same H H' → H' q = some (.lst (tkL c (c i))) → Q (.ref q) H'
theorem fldR {K : PySem.W.Frag} {CO : Addr} {c : Nat → Addr} {H : Hp} {p : Addr} {as : List Addr} {v : V} {σ : St} {C : Addr} {fs : List (Str × V)} {f : Str} {z : V} (i : Nat) (hσ : σ[0]? = some (some (.ref p))) (hp : H p = some (.lst (as.map V.ref))) (hM : MadeL H as (spL c v))
    (hi : (spL c v)[i]? = some (C, fs)) (T : XC K CO C) (no : PySem.W.findIn K (.ref C) f = some none) (hv : fs.lookup f = some z) : EvR σ H (tExf K CO f (tOp (rIxL K) (tVar 0) (tC (.int (i : Int))))) z := by
  intro Q q
  obtain ⟨a, ha, hE⟩ := hM.get hi
  exact ⟨_, hσ, p, _, _, _, rfl, rfl, SqL.of hp, at_of (j := i) rfl (by rw [List.getElem?_map, ha]; rfl), a, C, fs, z, rfl, T, no, hE, hv, q⟩
theorem isR {K : PySem.W.Frag} {CO C D : Addr} {H : Hp} {a : Addr} {fs : List (Str × V)} {σ : St} (hσ : σ[0]? = some (some (.ref a))) (hE : ExAt H a C fs) (G : XG K) (T : XC K CO C) (U : XC K CO D) (ne : D ≠ CO) :
    EvR σ H (tCB (rIsX K CO) (tCons (tVar 0) (tCons (tC (.ref D)) tNil))) (.bl (decide (C = D))) := fun Q q => ⟨_, hσ, a, C, fs, _, _, _, rfl, .own D, G, T, hE, T.kit U ne, q⟩
section
variable {P : Program} {w : World} {K : PySem.W.Frag} {mg : Str → Option Value} {base : Heap} {CO : Addr} {c fI : Nat → Addr} {fd : Nat → FuncData}
theorem okFields {f : Addr} {fdF : FuncData} (F : Fun K "_law_fields" "_law_fields" sFields f fdF) (D0 : Cl P w K mg base CO "NoLibrary" ["number", "part", "index"] ["index", "part", "number"] 3 (c 0) (fI 0) (fd 0)) (D1 : Cl P w K mg base CO "NoClient" ["number", "part", "index"] ["index", "part", "number"] 3 (c 1) (fI 1) (fd 1)) (D2 : Cl P w K mg base CO "NoBody" ["where", "at"] ["at", "where"] 2 (c 2) (fI 2) (fd 2)) (D3 : Cl P w K mg base CO "NoClass" ["name"] ["name"] 1 (c 3) (fI 3) (fd 3)) (D4 : Cl P w K mg base CO "NoMember" ["name"] ["name"] 1 (c 4) (fI 4) (fd 4)) (D5 : Cl P w K mg base CO "NoTables" ["index"] ["index"] 1 (c 5) (fI 5) (fd 5)) (D6 : Cl P w K mg base CO "NoFields" ["index"] ["index"] 1 (c 6) (fI 6) (fd 6)) (D7 : Cl P w K mg base CO "NoRoom" ["size"] ["size"] 1 (c 7) (fI 7) (fd 7)) (D8 : Cl P w K mg base CO "Lacks" ["need"] ["need"] 1 (c 8) (fI 8) (fd 8)) (D9 : Cl P w K mg base CO "NoText" ["at"] ["at"] 1 (c 9) (fI 9) (fd 9)) (D10 : Cl P w K mg base CO "NoVersions" ["index"] ["index"] 1 (c 10) (fI 10) (fd 10)) (D11 : Cl P w K mg base CO "NoVersion" ["number"] ["number"] 1 (c 11) (fI 11) (fd 11)) (D12 : Cl P w K mg base CO "NoPlace" ["place"] ["place"] 1 (c 12) (fI 12) (fd 12)) (D13 : Cl P w K mg base CO "NoReference" ["place"] ["place"] 1 (c 13) (fI 13) (fd 13)) (D14 : Cl P w K mg base CO "NoNeed" ["need"] ["need"] 1 (c 14) (fI 14) (fd 14)) (D15 : Cl P w K mg base CO "NoNumber" ["number"] ["number"] 1 (c 15) (fI 15) (fd 15)) (D16 : Cl P w K mg base CO "NoPace" ["pace"] ["pace"] 1 (c 16) (fI 16) (fd 16)) : FnOk P w K mg base CX0 1 f fdF ["_law_some"] (spFields c) := by
  refine F.ok scF (fun vs H Q E h => ?_) (fun cdv A outer s H vs Q E hr h => ?_)
  · obtain ⟨p, v, rfl, _⟩ := h; rfl
  · obtain ⟨p, v, rfl, ⟨as, hp, hM⟩, k⟩ := h
    refine ⟨_, (pss_cons (ps_set (i := 1) scF.nd rfl (Or.inl rfl) (pe_lst (pa_cons (pe_exf (CO := CO) (pe_ix ix_list (pv 0) pe_int (fun _ _ => rfl))) (pa_cons (pe_exf (CO := CO) (pe_ix ix_list (pv 0) pe_int (fun _ _ => rfl))) (pa_cons (pe_exf (CO := CO) (pe_ix ix_list (pv 0) pe_int (fun _ _ => rfl))) (pa_cons (pe_exf (CO := CO) (pe_ix ix_list (pv 0) pe_int (fun _ _ => rfl))) (pa_cons (pe_exf (CO := CO) (pe_ix ix_list (pv 0) pe_int (fun _ _ => rfl))) (pa_cons (pe_exf (CO := CO) (pe_ix ix_list (pv 0) pe_int (fun _ _ => rfl))) (pa_cons (pe_exf (CO := CO) (pe_ix ix_list (pv 0) pe_int (fun _ _ => rfl))) pa_nil)))))))))
      (pss_cons (ps_set (i := 1) scF.nd rfl (Or.inl rfl) (pe_op op_cat (pv 1) (pe_lst (pa_cons (pe_exf (CO := CO) (pe_ix ix_list (pv 0) pe_int (fun _ _ => rfl))) (pa_cons (pe_exf (CO := CO) (pe_ix ix_list (pv 0) pe_int (fun _ _ => rfl))) (pa_cons (pe_exf (CO := CO) (pe_ix ix_list (pv 0) pe_int (fun _ _ => rfl))) (pa_cons (pe_exf (CO := CO) (pe_ix ix_list (pv 0) pe_int (fun _ _ => rfl))) (pa_cons (pe_exf (CO := CO) (pe_ix ix_list (pv 0) pe_int (fun _ _ => rfl))) (pa_cons (pe_exf (CO := CO) (pe_ix ix_list (pv 0) pe_int (fun _ _ => rfl))) pa_nil)))))))))
      (pss_one (ps_ret (pe_op op_cat (pv 1) (pe_lst (pa_cons (pe_exf (CO := CO) (pe_ix ix_list (pv 0) pe_int (fun _ _ => rfl))) (pa_cons (pe_exf (CO := CO) (pe_ix ix_list (pv 0) pe_int (fun _ _ => rfl))) (pa_cons (pe_exf (CO := CO) (pe_ix ix_list (pv 0) pe_int (fun _ _ => rfl))) (pa_cons (pe_exf (CO := CO) (pe_ix ix_list (pv 0) pe_int (fun _ _ => rfl))) pa_nil)))))))))), ?_⟩
    have hs : (start ["_law_some", "_law_found"] [V.ref p])[0]? = some (some (V.ref p)) := rfl
    refine r_seqSet (r_lst ((evs_cons (fldR 0 hs hp hM rfl D0.T (D0.no _ (by decide +kernel)) rfl) (evs_cons (fldR 1 hs hp hM rfl D1.T (D1.no _ (by decide +kernel)) rfl) (evs_cons (fldR 2 hs hp hM rfl D2.T (D2.no _ (by decide +kernel)) rfl) (evs_cons (fldR 3 hs hp hM rfl D3.T (D3.no _ (by decide +kernel)) rfl) (evs_cons (fldR 4 hs hp hM rfl D4.T (D4.no _ (by decide +kernel)) rfl) (evs_cons (fldR 5 hs hp hM rfl D5.T (D5.no _ (by decide +kernel)) rfl) (evs_cons (fldR 6 hs hp hM rfl D6.T (D6.no _ (by decide +kernel)) rfl) evs_nil))))))) _ ⟨le_size (Nat.le_of_ble_eq_true rfl), fun p1 n1 => ?_⟩))
    have s1 := Same.new (o := .lst [v, v, v, v, v, v, v]) n1
    replace hp := s1 _ _ hp
    replace hM := hM.same s1
    have e1 : (upd H p1 (.lst [v, v, v, v, v, v, v])) p1 = some (.lst [v, v, v, v, v, v, v]) := upd_same
    generalize upd H p1 (.lst [v, v, v, v, v, v, v]) = G1 at s1 hp hM e1 ⊢
    have hs : ((start ["_law_some", "_law_found"] [V.ref p]).set 1 (some (V.ref p1)))[0]? = some (some (V.ref p)) := rfl
    refine r_seqSet (r_op (r_var rfl (r_lst ((evs_cons (fldR 7 hs hp hM rfl D7.T (D7.no _ (by decide +kernel)) rfl) (evs_cons (fldR 8 hs hp hM rfl D8.T (D8.no _ (by decide +kernel)) rfl) (evs_cons (fldR 9 hs hp hM rfl D9.T (D9.no _ (by decide +kernel)) rfl) (evs_cons (fldR 10 hs hp hM rfl D10.T (D10.no _ (by decide +kernel)) rfl) (evs_cons (fldR 11 hs hp hM rfl D11.T (D11.no _ (by decide +kernel)) rfl) (evs_cons (fldR 12 hs hp hM rfl D12.T (D12.no _ (by decide +kernel)) rfl) evs_nil)))))) _ ⟨le_size (Nat.le_of_ble_eq_true rfl), fun l2 nl2 => ⟨p1, l2, _, _, rfl, rfl, (by rw [upd_ne (ne_of_none e1 nl2)]; exact e1), upd_same, le_size (Nat.le_of_ble_eq_true rfl), fun p2 np2 => ?_⟩⟩))))
    have t2 := (Same.new (o := .lst [v, v, v, v, v, v]) nl2).trans (Same.new (o := .lst ([v, v, v, v, v, v, v] ++ [v, v, v, v, v, v])) np2)
    have s2 := s1.trans t2
    replace hp := t2 _ _ hp
    replace hM := hM.same t2
    have e2 : (upd (upd G1 l2 (.lst [v, v, v, v, v, v])) p2 (.lst ([v, v, v, v, v, v, v] ++ [v, v, v, v, v, v]))) p2 = some (.lst [v, v, v, v, v, v, v, v, v, v, v, v, v]) := upd_same
    generalize upd (upd G1 l2 (.lst [v, v, v, v, v, v])) p2 (.lst ([v, v, v, v, v, v, v] ++ [v, v, v, v, v, v])) = G2 at t2 s2 hp hM e2 ⊢
    have hs : (((start ["_law_some", "_law_found"] [V.ref p]).set 1 (some (V.ref p1))).set 1 (some (V.ref p2)))[0]? = some (some (V.ref p)) := rfl
    refine r_ret (r_op (r_var rfl (r_lst ((evs_cons (fldR 13 hs hp hM rfl D13.T (D13.no _ (by decide +kernel)) rfl) (evs_cons (fldR 14 hs hp hM rfl D14.T (D14.no _ (by decide +kernel)) rfl) (evs_cons (fldR 15 hs hp hM rfl D15.T (D15.no _ (by decide +kernel)) rfl) (evs_cons (fldR 16 hs hp hM rfl D16.T (D16.no _ (by decide +kernel)) rfl) evs_nil)))) _ ⟨le_size (Nat.le_of_ble_eq_true rfl), fun l3 nl3 => ⟨p2, l3, _, _, rfl, rfl, (by rw [upd_ne (ne_of_none e2 nl3)]; exact e2), upd_same, le_size (Nat.le_of_ble_eq_true rfl), fun p3 np3 => ?_⟩⟩))))
    have t3 := (Same.new (o := .lst [v, v, v, v]) nl3).trans (Same.new (o := .lst ([v, v, v, v, v, v, v, v, v, v, v, v, v] ++ [v, v, v, v])) np3)
    have s3 := s2.trans t3
    replace hp := t3 _ _ hp
    replace hM := hM.same t3
    have e3 : (upd (upd G2 l3 (.lst [v, v, v, v])) p3 (.lst ([v, v, v, v, v, v, v, v, v, v, v, v, v] ++ [v, v, v, v]))) p3 = some (.lst [v, v, v, v, v, v, v, v, v, v, v, v, v, v, v, v, v]) := upd_same
    generalize upd (upd G2 l3 (.lst [v, v, v, v])) p3 (.lst ([v, v, v, v, v, v, v, v, v, v, v, v, v] ++ [v, v, v, v])) = G3 at t3 s3 hp hM e3 ⊢
    exact k _ _ s3 e3
theorem okTaken {f : Addr} {fdF : FuncData} (F : Fun K "_law_taken" "_law_taken" sTaken f fdF) (hI : mg "isinstance" = none) (XGK : XG K) (TT : ∀ i, i < 17 → XC K CO (c i)) (D0 : Cl P w K mg base CO "NoLibrary" ["number", "part", "index"] ["index", "part", "number"] 3 (c 0) (fI 0) (fd 0)) (D1 : Cl P w K mg base CO "NoClient" ["number", "part", "index"] ["index", "part", "number"] 3 (c 1) (fI 1) (fd 1)) (D2 : Cl P w K mg base CO "NoBody" ["where", "at"] ["at", "where"] 2 (c 2) (fI 2) (fd 2)) (D3 : Cl P w K mg base CO "NoClass" ["name"] ["name"] 1 (c 3) (fI 3) (fd 3)) (D4 : Cl P w K mg base CO "NoMember" ["name"] ["name"] 1 (c 4) (fI 4) (fd 4)) (D5 : Cl P w K mg base CO "NoTables" ["index"] ["index"] 1 (c 5) (fI 5) (fd 5)) (D6 : Cl P w K mg base CO "NoFields" ["index"] ["index"] 1 (c 6) (fI 6) (fd 6)) (D7 : Cl P w K mg base CO "NoRoom" ["size"] ["size"] 1 (c 7) (fI 7) (fd 7)) (D8 : Cl P w K mg base CO "Lacks" ["need"] ["need"] 1 (c 8) (fI 8) (fd 8)) (D9 : Cl P w K mg base CO "NoText" ["at"] ["at"] 1 (c 9) (fI 9) (fd 9)) (D10 : Cl P w K mg base CO "NoVersions" ["index"] ["index"] 1 (c 10) (fI 10) (fd 10)) (D11 : Cl P w K mg base CO "NoVersion" ["number"] ["number"] 1 (c 11) (fI 11) (fd 11)) (D12 : Cl P w K mg base CO "NoPlace" ["place"] ["place"] 1 (c 12) (fI 12) (fd 12)) (D13 : Cl P w K mg base CO "NoReference" ["place"] ["place"] 1 (c 13) (fI 13) (fd 13)) (D14 : Cl P w K mg base CO "NoNeed" ["need"] ["need"] 1 (c 14) (fI 14) (fd 14)) (D15 : Cl P w K mg base CO "NoNumber" ["number"] ["number"] 1 (c 15) (fI 15) (fd 15)) (D16 : Cl P w K mg base CO "NoPace" ["pace"] ["pace"] 1 (c 16) (fI 16) (fd 16)) : FnOk P w K mg base CX0 1 f fdF ["_law_e"] (spTaken c) := by
  refine F.ok scT (fun vs H Q E h => ?_) (fun cdv A outer s H vs Q E hr h => ?_)
  · obtain ⟨a, i, fs, rfl, _⟩ := h; rfl
  · obtain ⟨a, i, fs, rfl, hi, hE, k⟩ := h
    refine ⟨_, (pss_cons (ps_set (i := 1) scT.nd rfl (Or.inl rfl) (pe_lst (pa_cons (pe_callB (call_isX (CO := CO)) (by rfl) hI PyProof.Rows.boot_isinstance (pa_cons (pv 0) (pa_cons (pe_glob (v := .ref (c 0)) rfl D0.gm rfl) pa_nil))) (pa_cons (pe_callB (call_isX (CO := CO)) (by rfl) hI PyProof.Rows.boot_isinstance (pa_cons (pv 0) (pa_cons (pe_glob (v := .ref (c 1)) rfl D1.gm rfl) pa_nil))) (pa_cons (pe_callB (call_isX (CO := CO)) (by rfl) hI PyProof.Rows.boot_isinstance (pa_cons (pv 0) (pa_cons (pe_glob (v := .ref (c 2)) rfl D2.gm rfl) pa_nil))) (pa_cons (pe_callB (call_isX (CO := CO)) (by rfl) hI PyProof.Rows.boot_isinstance (pa_cons (pv 0) (pa_cons (pe_glob (v := .ref (c 3)) rfl D3.gm rfl) pa_nil))) pa_nil))))))
      (pss_cons (ps_set (i := 1) scT.nd rfl (Or.inl rfl) (pe_op op_cat (pv 1) (pe_lst (pa_cons (pe_callB (call_isX (CO := CO)) (by rfl) hI PyProof.Rows.boot_isinstance (pa_cons (pv 0) (pa_cons (pe_glob (v := .ref (c 4)) rfl D4.gm rfl) pa_nil))) (pa_cons (pe_callB (call_isX (CO := CO)) (by rfl) hI PyProof.Rows.boot_isinstance (pa_cons (pv 0) (pa_cons (pe_glob (v := .ref (c 5)) rfl D5.gm rfl) pa_nil))) (pa_cons (pe_callB (call_isX (CO := CO)) (by rfl) hI PyProof.Rows.boot_isinstance (pa_cons (pv 0) (pa_cons (pe_glob (v := .ref (c 6)) rfl D6.gm rfl) pa_nil))) (pa_cons (pe_callB (call_isX (CO := CO)) (by rfl) hI PyProof.Rows.boot_isinstance (pa_cons (pv 0) (pa_cons (pe_glob (v := .ref (c 7)) rfl D7.gm rfl) pa_nil))) pa_nil)))))))
      (pss_cons (ps_set (i := 1) scT.nd rfl (Or.inl rfl) (pe_op op_cat (pv 1) (pe_lst (pa_cons (pe_callB (call_isX (CO := CO)) (by rfl) hI PyProof.Rows.boot_isinstance (pa_cons (pv 0) (pa_cons (pe_glob (v := .ref (c 8)) rfl D8.gm rfl) pa_nil))) (pa_cons (pe_callB (call_isX (CO := CO)) (by rfl) hI PyProof.Rows.boot_isinstance (pa_cons (pv 0) (pa_cons (pe_glob (v := .ref (c 9)) rfl D9.gm rfl) pa_nil))) (pa_cons (pe_callB (call_isX (CO := CO)) (by rfl) hI PyProof.Rows.boot_isinstance (pa_cons (pv 0) (pa_cons (pe_glob (v := .ref (c 10)) rfl D10.gm rfl) pa_nil))) (pa_cons (pe_callB (call_isX (CO := CO)) (by rfl) hI PyProof.Rows.boot_isinstance (pa_cons (pv 0) (pa_cons (pe_glob (v := .ref (c 11)) rfl D11.gm rfl) pa_nil))) pa_nil)))))))
      (pss_cons (ps_set (i := 1) scT.nd rfl (Or.inl rfl) (pe_op op_cat (pv 1) (pe_lst (pa_cons (pe_callB (call_isX (CO := CO)) (by rfl) hI PyProof.Rows.boot_isinstance (pa_cons (pv 0) (pa_cons (pe_glob (v := .ref (c 12)) rfl D12.gm rfl) pa_nil))) (pa_cons (pe_callB (call_isX (CO := CO)) (by rfl) hI PyProof.Rows.boot_isinstance (pa_cons (pv 0) (pa_cons (pe_glob (v := .ref (c 13)) rfl D13.gm rfl) pa_nil))) (pa_cons (pe_callB (call_isX (CO := CO)) (by rfl) hI PyProof.Rows.boot_isinstance (pa_cons (pv 0) (pa_cons (pe_glob (v := .ref (c 14)) rfl D14.gm rfl) pa_nil))) (pa_cons (pe_callB (call_isX (CO := CO)) (by rfl) hI PyProof.Rows.boot_isinstance (pa_cons (pv 0) (pa_cons (pe_glob (v := .ref (c 15)) rfl D15.gm rfl) pa_nil))) pa_nil)))))))
      (pss_one (ps_ret (pe_op op_cat (pv 1) (pe_lst (pa_cons (pe_callB (call_isX (CO := CO)) (by rfl) hI PyProof.Rows.boot_isinstance (pa_cons (pv 0) (pa_cons (pe_glob (v := .ref (c 16)) rfl D16.gm rfl) pa_nil))) pa_nil))))))))), ?_⟩
    have hs : (start ["_law_e", "_law_found"] [V.ref a])[0]? = some (some (V.ref a)) := rfl
    refine r_seqSet (r_lst ((evs_cons (isR hs hE XGK (TT i hi) D0.T D0.ne) (evs_cons (isR hs hE XGK (TT i hi) D1.T D1.ne) (evs_cons (isR hs hE XGK (TT i hi) D2.T D2.ne) (evs_cons (isR hs hE XGK (TT i hi) D3.T D3.ne) evs_nil)))) _ ⟨le_size (Nat.le_of_ble_eq_true rfl), fun p1 n1 => ?_⟩))
    have s1 := Same.new (o := .lst [.bl (decide (c i = c 0)), .bl (decide (c i = c 1)), .bl (decide (c i = c 2)), .bl (decide (c i = c 3))]) n1
    replace hE := hE.same s1
    have e1 : (upd H p1 (.lst [.bl (decide (c i = c 0)), .bl (decide (c i = c 1)), .bl (decide (c i = c 2)), .bl (decide (c i = c 3))])) p1 = some (.lst [.bl (decide (c i = c 0)), .bl (decide (c i = c 1)), .bl (decide (c i = c 2)), .bl (decide (c i = c 3))]) := upd_same
    generalize upd H p1 (.lst [.bl (decide (c i = c 0)), .bl (decide (c i = c 1)), .bl (decide (c i = c 2)), .bl (decide (c i = c 3))]) = G1 at s1 hE e1 ⊢
    have hs : ((start ["_law_e", "_law_found"] [V.ref a]).set 1 (some (V.ref p1)))[0]? = some (some (V.ref a)) := rfl
    refine r_seqSet (r_op (r_var rfl (r_lst ((evs_cons (isR hs hE XGK (TT i hi) D4.T D4.ne) (evs_cons (isR hs hE XGK (TT i hi) D5.T D5.ne) (evs_cons (isR hs hE XGK (TT i hi) D6.T D6.ne) (evs_cons (isR hs hE XGK (TT i hi) D7.T D7.ne) evs_nil)))) _ ⟨le_size (Nat.le_of_ble_eq_true rfl), fun l2 nl2 => ⟨p1, l2, _, _, rfl, rfl, (by rw [upd_ne (ne_of_none e1 nl2)]; exact e1), upd_same, le_size (Nat.le_of_ble_eq_true rfl), fun p2 np2 => ?_⟩⟩))))
    have t2 := (Same.new (o := .lst [.bl (decide (c i = c 4)), .bl (decide (c i = c 5)), .bl (decide (c i = c 6)), .bl (decide (c i = c 7))]) nl2).trans (Same.new (o := .lst ([.bl (decide (c i = c 0)), .bl (decide (c i = c 1)), .bl (decide (c i = c 2)), .bl (decide (c i = c 3))] ++ [.bl (decide (c i = c 4)), .bl (decide (c i = c 5)), .bl (decide (c i = c 6)), .bl (decide (c i = c 7))])) np2)
    have s2 := s1.trans t2
    replace hE := hE.same t2
    have e2 : (upd (upd G1 l2 (.lst [.bl (decide (c i = c 4)), .bl (decide (c i = c 5)), .bl (decide (c i = c 6)), .bl (decide (c i = c 7))])) p2 (.lst ([.bl (decide (c i = c 0)), .bl (decide (c i = c 1)), .bl (decide (c i = c 2)), .bl (decide (c i = c 3))] ++ [.bl (decide (c i = c 4)), .bl (decide (c i = c 5)), .bl (decide (c i = c 6)), .bl (decide (c i = c 7))]))) p2 = some (.lst [.bl (decide (c i = c 0)), .bl (decide (c i = c 1)), .bl (decide (c i = c 2)), .bl (decide (c i = c 3)), .bl (decide (c i = c 4)), .bl (decide (c i = c 5)), .bl (decide (c i = c 6)), .bl (decide (c i = c 7))]) := upd_same
    generalize upd (upd G1 l2 (.lst [.bl (decide (c i = c 4)), .bl (decide (c i = c 5)), .bl (decide (c i = c 6)), .bl (decide (c i = c 7))])) p2 (.lst ([.bl (decide (c i = c 0)), .bl (decide (c i = c 1)), .bl (decide (c i = c 2)), .bl (decide (c i = c 3))] ++ [.bl (decide (c i = c 4)), .bl (decide (c i = c 5)), .bl (decide (c i = c 6)), .bl (decide (c i = c 7))])) = G2 at t2 s2 hE e2 ⊢
    have hs : (((start ["_law_e", "_law_found"] [V.ref a]).set 1 (some (V.ref p1))).set 1 (some (V.ref p2)))[0]? = some (some (V.ref a)) := rfl
    refine r_seqSet (r_op (r_var rfl (r_lst ((evs_cons (isR hs hE XGK (TT i hi) D8.T D8.ne) (evs_cons (isR hs hE XGK (TT i hi) D9.T D9.ne) (evs_cons (isR hs hE XGK (TT i hi) D10.T D10.ne) (evs_cons (isR hs hE XGK (TT i hi) D11.T D11.ne) evs_nil)))) _ ⟨le_size (Nat.le_of_ble_eq_true rfl), fun l3 nl3 => ⟨p2, l3, _, _, rfl, rfl, (by rw [upd_ne (ne_of_none e2 nl3)]; exact e2), upd_same, le_size (Nat.le_of_ble_eq_true rfl), fun p3 np3 => ?_⟩⟩))))
    have t3 := (Same.new (o := .lst [.bl (decide (c i = c 8)), .bl (decide (c i = c 9)), .bl (decide (c i = c 10)), .bl (decide (c i = c 11))]) nl3).trans (Same.new (o := .lst ([.bl (decide (c i = c 0)), .bl (decide (c i = c 1)), .bl (decide (c i = c 2)), .bl (decide (c i = c 3)), .bl (decide (c i = c 4)), .bl (decide (c i = c 5)), .bl (decide (c i = c 6)), .bl (decide (c i = c 7))] ++ [.bl (decide (c i = c 8)), .bl (decide (c i = c 9)), .bl (decide (c i = c 10)), .bl (decide (c i = c 11))])) np3)
    have s3 := s2.trans t3
    replace hE := hE.same t3
    have e3 : (upd (upd G2 l3 (.lst [.bl (decide (c i = c 8)), .bl (decide (c i = c 9)), .bl (decide (c i = c 10)), .bl (decide (c i = c 11))])) p3 (.lst ([.bl (decide (c i = c 0)), .bl (decide (c i = c 1)), .bl (decide (c i = c 2)), .bl (decide (c i = c 3)), .bl (decide (c i = c 4)), .bl (decide (c i = c 5)), .bl (decide (c i = c 6)), .bl (decide (c i = c 7))] ++ [.bl (decide (c i = c 8)), .bl (decide (c i = c 9)), .bl (decide (c i = c 10)), .bl (decide (c i = c 11))]))) p3 = some (.lst [.bl (decide (c i = c 0)), .bl (decide (c i = c 1)), .bl (decide (c i = c 2)), .bl (decide (c i = c 3)), .bl (decide (c i = c 4)), .bl (decide (c i = c 5)), .bl (decide (c i = c 6)), .bl (decide (c i = c 7)), .bl (decide (c i = c 8)), .bl (decide (c i = c 9)), .bl (decide (c i = c 10)), .bl (decide (c i = c 11))]) := upd_same
    generalize upd (upd G2 l3 (.lst [.bl (decide (c i = c 8)), .bl (decide (c i = c 9)), .bl (decide (c i = c 10)), .bl (decide (c i = c 11))])) p3 (.lst ([.bl (decide (c i = c 0)), .bl (decide (c i = c 1)), .bl (decide (c i = c 2)), .bl (decide (c i = c 3)), .bl (decide (c i = c 4)), .bl (decide (c i = c 5)), .bl (decide (c i = c 6)), .bl (decide (c i = c 7))] ++ [.bl (decide (c i = c 8)), .bl (decide (c i = c 9)), .bl (decide (c i = c 10)), .bl (decide (c i = c 11))])) = G3 at t3 s3 hE e3 ⊢
    have hs : ((((start ["_law_e", "_law_found"] [V.ref a]).set 1 (some (V.ref p1))).set 1 (some (V.ref p2))).set 1 (some (V.ref p3)))[0]? = some (some (V.ref a)) := rfl
    refine r_seqSet (r_op (r_var rfl (r_lst ((evs_cons (isR hs hE XGK (TT i hi) D12.T D12.ne) (evs_cons (isR hs hE XGK (TT i hi) D13.T D13.ne) (evs_cons (isR hs hE XGK (TT i hi) D14.T D14.ne) (evs_cons (isR hs hE XGK (TT i hi) D15.T D15.ne) evs_nil)))) _ ⟨le_size (Nat.le_of_ble_eq_true rfl), fun l4 nl4 => ⟨p3, l4, _, _, rfl, rfl, (by rw [upd_ne (ne_of_none e3 nl4)]; exact e3), upd_same, le_size (Nat.le_of_ble_eq_true rfl), fun p4 np4 => ?_⟩⟩))))
    have t4 := (Same.new (o := .lst [.bl (decide (c i = c 12)), .bl (decide (c i = c 13)), .bl (decide (c i = c 14)), .bl (decide (c i = c 15))]) nl4).trans (Same.new (o := .lst ([.bl (decide (c i = c 0)), .bl (decide (c i = c 1)), .bl (decide (c i = c 2)), .bl (decide (c i = c 3)), .bl (decide (c i = c 4)), .bl (decide (c i = c 5)), .bl (decide (c i = c 6)), .bl (decide (c i = c 7)), .bl (decide (c i = c 8)), .bl (decide (c i = c 9)), .bl (decide (c i = c 10)), .bl (decide (c i = c 11))] ++ [.bl (decide (c i = c 12)), .bl (decide (c i = c 13)), .bl (decide (c i = c 14)), .bl (decide (c i = c 15))])) np4)
    have s4 := s3.trans t4
    replace hE := hE.same t4
    have e4 : (upd (upd G3 l4 (.lst [.bl (decide (c i = c 12)), .bl (decide (c i = c 13)), .bl (decide (c i = c 14)), .bl (decide (c i = c 15))])) p4 (.lst ([.bl (decide (c i = c 0)), .bl (decide (c i = c 1)), .bl (decide (c i = c 2)), .bl (decide (c i = c 3)), .bl (decide (c i = c 4)), .bl (decide (c i = c 5)), .bl (decide (c i = c 6)), .bl (decide (c i = c 7)), .bl (decide (c i = c 8)), .bl (decide (c i = c 9)), .bl (decide (c i = c 10)), .bl (decide (c i = c 11))] ++ [.bl (decide (c i = c 12)), .bl (decide (c i = c 13)), .bl (decide (c i = c 14)), .bl (decide (c i = c 15))]))) p4 = some (.lst [.bl (decide (c i = c 0)), .bl (decide (c i = c 1)), .bl (decide (c i = c 2)), .bl (decide (c i = c 3)), .bl (decide (c i = c 4)), .bl (decide (c i = c 5)), .bl (decide (c i = c 6)), .bl (decide (c i = c 7)), .bl (decide (c i = c 8)), .bl (decide (c i = c 9)), .bl (decide (c i = c 10)), .bl (decide (c i = c 11)), .bl (decide (c i = c 12)), .bl (decide (c i = c 13)), .bl (decide (c i = c 14)), .bl (decide (c i = c 15))]) := upd_same
    generalize upd (upd G3 l4 (.lst [.bl (decide (c i = c 12)), .bl (decide (c i = c 13)), .bl (decide (c i = c 14)), .bl (decide (c i = c 15))])) p4 (.lst ([.bl (decide (c i = c 0)), .bl (decide (c i = c 1)), .bl (decide (c i = c 2)), .bl (decide (c i = c 3)), .bl (decide (c i = c 4)), .bl (decide (c i = c 5)), .bl (decide (c i = c 6)), .bl (decide (c i = c 7)), .bl (decide (c i = c 8)), .bl (decide (c i = c 9)), .bl (decide (c i = c 10)), .bl (decide (c i = c 11))] ++ [.bl (decide (c i = c 12)), .bl (decide (c i = c 13)), .bl (decide (c i = c 14)), .bl (decide (c i = c 15))])) = G4 at t4 s4 hE e4 ⊢
    have hs : (((((start ["_law_e", "_law_found"] [V.ref a]).set 1 (some (V.ref p1))).set 1 (some (V.ref p2))).set 1 (some (V.ref p3))).set 1 (some (V.ref p4)))[0]? = some (some (V.ref a)) := rfl
    refine r_ret (r_op (r_var rfl (r_lst ((evs_cons (isR hs hE XGK (TT i hi) D16.T D16.ne) evs_nil) _ ⟨le_size (Nat.le_of_ble_eq_true rfl), fun l5 nl5 => ⟨p4, l5, _, _, rfl, rfl, (by rw [upd_ne (ne_of_none e4 nl5)]; exact e4), upd_same, le_size (Nat.le_of_ble_eq_true rfl), fun p5 np5 => ?_⟩⟩))))
    have t5 := (Same.new (o := .lst [.bl (decide (c i = c 16))]) nl5).trans (Same.new (o := .lst ([.bl (decide (c i = c 0)), .bl (decide (c i = c 1)), .bl (decide (c i = c 2)), .bl (decide (c i = c 3)), .bl (decide (c i = c 4)), .bl (decide (c i = c 5)), .bl (decide (c i = c 6)), .bl (decide (c i = c 7)), .bl (decide (c i = c 8)), .bl (decide (c i = c 9)), .bl (decide (c i = c 10)), .bl (decide (c i = c 11)), .bl (decide (c i = c 12)), .bl (decide (c i = c 13)), .bl (decide (c i = c 14)), .bl (decide (c i = c 15))] ++ [.bl (decide (c i = c 16))])) np5)
    have s5 := s4.trans t5
    replace hE := hE.same t5
    have e5 : (upd (upd G4 l5 (.lst [.bl (decide (c i = c 16))])) p5 (.lst ([.bl (decide (c i = c 0)), .bl (decide (c i = c 1)), .bl (decide (c i = c 2)), .bl (decide (c i = c 3)), .bl (decide (c i = c 4)), .bl (decide (c i = c 5)), .bl (decide (c i = c 6)), .bl (decide (c i = c 7)), .bl (decide (c i = c 8)), .bl (decide (c i = c 9)), .bl (decide (c i = c 10)), .bl (decide (c i = c 11)), .bl (decide (c i = c 12)), .bl (decide (c i = c 13)), .bl (decide (c i = c 14)), .bl (decide (c i = c 15))] ++ [.bl (decide (c i = c 16))]))) p5 = some (.lst [.bl (decide (c i = c 0)), .bl (decide (c i = c 1)), .bl (decide (c i = c 2)), .bl (decide (c i = c 3)), .bl (decide (c i = c 4)), .bl (decide (c i = c 5)), .bl (decide (c i = c 6)), .bl (decide (c i = c 7)), .bl (decide (c i = c 8)), .bl (decide (c i = c 9)), .bl (decide (c i = c 10)), .bl (decide (c i = c 11)), .bl (decide (c i = c 12)), .bl (decide (c i = c 13)), .bl (decide (c i = c 14)), .bl (decide (c i = c 15)), .bl (decide (c i = c 16))]) := upd_same
    generalize upd (upd G4 l5 (.lst [.bl (decide (c i = c 16))])) p5 (.lst ([.bl (decide (c i = c 0)), .bl (decide (c i = c 1)), .bl (decide (c i = c 2)), .bl (decide (c i = c 3)), .bl (decide (c i = c 4)), .bl (decide (c i = c 5)), .bl (decide (c i = c 6)), .bl (decide (c i = c 7)), .bl (decide (c i = c 8)), .bl (decide (c i = c 9)), .bl (decide (c i = c 10)), .bl (decide (c i = c 11)), .bl (decide (c i = c 12)), .bl (decide (c i = c 13)), .bl (decide (c i = c 14)), .bl (decide (c i = c 15))] ++ [.bl (decide (c i = c 16))])) = G5 at t5 s5 hE e5 ⊢
    exact k _ _ s5 e5
end
end K20


set_option Elab.async false
set_option linter.all false
set_option maxRecDepth 100000
set_option maxHeartbeats 4000000
/-! K20d: the draw -/
namespace K20
open PySem L2 OC
/-- a drawn number: some one of 0 .. m - 1; the well's first and third number may change -/
def spDraw : Sp := fun vs H Q _ => ∃ (w : Addr) (m a b c : Int), vs = [.ref w, .int m] ∧ 0 < m ∧ m < 1073741824 ∧ H w = some (.lst [.int a, .int b, .int c]) ∧
  ∀ r a' c' : Int, 0 ≤ r → r < m → Q (.int r) (upd H w (.lst [.int a', .int b, .int c']))
theorem scD : FnScope ["_law_well", "_law_many", "_law_found", "_law_figure"] ["_law_well", "_law_many"] (defScope sDraw) := ⟨rfl, rfl, rfl, by decide +kernel, rfl, by decide +kernel, by decide +kernel⟩
section
variable {P : Program} {w : World} {K : PySem.W.Frag} {mg : Str → Option Value} {base : Heap}
/-- xs[i] of a list in slot 0 -/
theorem ixR {σ : St} {H : Hp} {p : Addr} {xs : List V} {v : V} (i : Nat) (hσ : σ[0]? = some (some (.ref p))) (hp : H p = some (.lst xs)) (hv : xs[i]? = some v) : EvR σ H (tOp (rIxL K) (tVar 0) (tC (.int (i : Int)))) v := fun Q q =>
  ⟨_, hσ, p, xs, _, _, rfl, rfl, SqL.of hp, at_of (j := i) rfl hv, q⟩
theorem okDraw {f : Addr} {fd : FuncData} (F : Fun K "_law_draw" "_law_draw" sDraw f fd) (hI : mg "int" = none) : FnOk P w K mg base CX0 1 f fd ["_law_well", "_law_many"] spDraw := by
  refine F.ok scD (fun vs H Q E h => ?_) (fun cdv A outer s H vs Q E hr h => ?_)
  · obtain ⟨w, m, a, b, c, rfl, _⟩ := h; rfl
  · obtain ⟨w, m, a, b, c, rfl, m0, m1, hw, k⟩ := h
    refine ⟨_, pss_cons (ps_if (pt_cmpR op_gt (pe_ix ix_list (pv 0) pe_int (fun _ _ => rfl)) pe_int (nomark _))
      (pss_cons (ps_set (i := 2) scD.nd rfl (Or.inl rfl) (pe_op op_mod (pe_callTy call_int1 (by rfl) hI PyProof.Rows.boot_int (pa_cons (pe_ix ix_list (pv 0) pe_int (fun _ _ => rfl)) pa_nil)) (pv 1)))
      (pss_cons (ps_asg (pe_op op_fdiv (pe_ix ix_list (pv 0) pe_int (fun _ _ => rfl)) (pv 1)) (pg_sub (pv 0) pe_int set_list))
      (pss_one (ps_ret (pv 2))))) pss_nil)
      (pss_cons (ps_asg (pe_op op_add (pe_ix ix_list (pv 0) pe_int (fun _ _ => rfl)) pe_int) (pg_sub (pv 0) pe_int set_list))
      (pss_cons (ps_set (i := 3) scD.nd rfl (Or.inl rfl) (pe_op op_mod (pe_callTy call_int1 (by rfl) hI PyProof.Rows.boot_int (pa_cons (pe_op op_mul (pe_op op_add (pe_op op_add (pe_ix ix_list (pv 0) pe_int (fun _ _ => rfl)) (pe_op op_mul pe_int (pe_ix ix_list (pv 0) pe_int (fun _ _ => rfl)))) pe_int) pe_int) pa_nil)) pe_int))
      (pss_cons (ps_set (i := 3) scD.nd rfl (Or.inl rfl) (pe_op op_mod (pe_callTy call_int1 (by rfl) hI PyProof.Rows.boot_int (pa_cons (pe_op op_mul (pv 3) (pe_op op_add (pe_op op_fdiv (pv 3) pe_int) pe_int)) pa_nil)) pe_int))
      (pss_one (ps_ret (pe_op op_mod (pe_callTy call_int1 (by rfl) hI PyProof.Rows.boot_int (pa_cons (pe_op op_mod (pe_callTy call_int1 (by rfl) hI PyProof.Rows.boot_int (pa_cons (pe_op op_mul (pv 3) (pe_op op_add (pe_op op_fdiv (pv 3) pe_int) pe_int)) pa_nil)) pe_int) pa_nil)) (pv 1)))))))
      , ?_⟩
    refine r_seqIf0 (ixR 0 rfl hw rfl _ ⟨a, 0, rfl, rfl, _, rfl, ?_⟩)
    refine ite2 (fun _ => ?_) (fun _ => ?_)
    · refine r_seqSet (r_op (r_cb (r_cons (ixR 0 rfl hw rfl _ (r_nil (.inl ⟨_, rfl, r_var rfl ⟨_, _, rfl, rfl, m0, ?_⟩⟩))))))
      refine r_seqAsg (r_op (ixR 0 rfl hw rfl _ (r_var rfl ⟨_, _, rfl, rfl, ⟨m0, m1⟩, _, rfl, w, _, _, 0, rfl, rfl, hw, rfl, ?_⟩)))
      exact ⟨_, rfl, k _ (a / m) c (Int.emod_nonneg _ (by omega)) (Int.emod_lt_of_pos _ m0)⟩
    · refine r_seqAsg (r_op (ixR 2 rfl hw rfl _ ⟨_, _, rfl, rfl, _, rfl, w, _, _, 2, rfl, rfl, hw, rfl, ?_⟩))
      have hw2 : (upd H w (.lst [.int a, .int b, .int (c + 1)])) w = some (.lst [.int a, .int b, .int (c + 1)]) := upd_same
      refine r_seqSet (r_op (r_cb (r_cons (r_op (r_op (r_op (ixR 1 rfl hw2 rfl _ (r_op (ixR 2 rfl hw2 rfl _ ⟨_, _, rfl, rfl, .inl (by decide), _, _, rfl, rfl, _, _, rfl, rfl, _, _, rfl, rfl, .inr (by decide), ?_⟩)))))))))
      refine r_nil (.inl ⟨_, rfl, _, _, rfl, rfl, (show (0 : Int) < 2147483647 by decide), ?_⟩)
      have e1 : ∀ z : Int, -(2 ^ 64) < z % 2147483647 ∧ z % 2147483647 < 2 ^ 64 := fun z => by omega
      refine r_seqSet (r_op (r_cb (r_cons (r_op (r_var rfl (r_op (r_op (r_var rfl ⟨_, _, rfl, rfl, ⟨by decide, by decide⟩, _, _, rfl, rfl, _, _, rfl, rfl, .inl (e1 _), ?_⟩))))))))
      refine r_nil (.inl ⟨_, rfl, _, _, rfl, rfl, (show (0 : Int) < 2147483647 by decide), ?_⟩)
      refine r_ret (r_op (r_cb (r_cons (r_op (r_cb (r_cons (r_op (r_var rfl (r_op (r_op (r_var rfl ⟨_, _, rfl, rfl, ⟨by decide, by decide⟩, _, _, rfl, rfl, _, _, rfl, rfl, .inl (e1 _), ?_⟩)))))))))))
      refine r_nil (.inl ⟨_, rfl, _, _, rfl, rfl, (show (0 : Int) < 2147483399 by decide), r_nil (.inl ⟨_, rfl, r_var rfl ⟨_, _, rfl, rfl, m0, ?_⟩⟩)⟩)
      exact k _ a (c + 1) (Int.emod_nonneg _ (by omega)) (Int.emod_lt_of_pos _ m0)
end
end K20


set_option Elab.async false
set_option linter.all false
set_option maxRecDepth 100000
set_option maxHeartbeats 4000000
/-! K20e: right -/
namespace K20
open PySem L2 OC
/-- all but w stands -/
def SameX (w : Addr) (H H' : Hp) : Prop := ∀ b o, b ≠ w → H b = some o → H' b = some o
theorem SameX.trans {w : Addr} {H H1 H2 : Hp} (a : SameX w H H1) (b : SameX w H1 H2) : SameX w H H2 := fun c o n e => b c o n (a c o n e)
theorem SameX.of {w : Addr} {H H1 : Hp} (a : Same H H1) : SameX w H H1 := fun c o _ e => a c o e
theorem SameX.self {w : Addr} {H : Hp} {o : HO} : SameX w H (upd H w o) := fun b _ n e => by rw [upd_ne n]; exact e
def spRight : Sp := fun vs H Q _ => ∃ (w : Addr) (a b c : Int), vs = [.ref w] ∧ H w = some (.lst [.int a, .int b, .int c]) ∧ ∀ H' : Hp, SameX w H H' → Q (.bl true) H'
/-- the value that the exceptions are made with -/
def XD (d : PyData) : Prop := (∃ i, d = .int i) ∨ d = .none ∨ d = .str "v" ∨ d = .tuple [.int 0, .int 1]
theorem XD.sh {d : PyData} (h : XD d) : SeqAt.shaped (.list (List.replicate 17 d)) = true := by
  rcases h with ⟨i, rfl⟩ | rfl | rfl | rfl <;> first | rfl | decide +kernel
theorem dp_rep {K : PySem.W.Frag} {H : Hp} {v : V} {d : PyData} (h : Dp K H v d) : ∀ n : Nat, DpAll K H (List.replicate n v) (List.replicate n d)
  | 0 => .nil
  | n + 1 => .cons h (dp_rep h n)
theorem XD.same {K : PySem.W.Frag} {H H' : Hp} {v : V} {d : PyData} (x : XD d) (h : Dp K H v d) (s : Same H H') : Dp K H' v d := by
  rcases x with ⟨i, rfl⟩ | rfl | rfl | rfl
  · cases h; exact .int i
  · cases h; exact .non
  · cases h; exact .str _
  · cases h with
    | tup hs ha =>
      cases ha with
      | cons h1 h2 =>
        cases h2 with
        | cons h3 h4 =>
          cases h4; cases h1; cases h3
          refine .tup (xs := [.int 0, .int 1]) ?_ (.cons (.int 0) (.cons (.int 1) .nil))
          rcases hs with (hs | ⟨o, hs⟩) | hs
          · exact .inl (.inl (s _ _ hs))
          · exact .inl (.inr ⟨o, s _ _ hs⟩)
          · exact .inr hs
theorem drawR {σ : St} {H : Hp} {Q : VK} {w : Addr} {m a b c : Int} (hσ : σ[0]? = some (some (.ref w))) (hw : H w = some (.lst [.int a, .int b, .int c])) (m0 : 0 < m) (m1 : m < 1073741824)
    (k : ∀ r a' c' : Int, 0 ≤ r → r < m → Q (.int r) (upd H w (.lst [.int a', .int b, .int c']))) : tCall spDraw [] E0 (tCons (tVar 0) (tCons (tC (.int m)) tNil)) σ H Q :=
  ⟨_, hσ, w, m, a, b, c, rfl, m0, m1, hw, k⟩
theorem scR : FnScope ["_law_well", "_law_x", "_law_some", "_law_spot", "_law_e", "_law_k"] ["_law_well"] (defScope sRight) := ⟨rfl, rfl, rfl, by decide +kernel, rfl, by decide +kernel, by decide +kernel⟩
/-- the facts that right needs -/
structure TR (K : PySem.W.Frag) (mg : Str → Option Value) (CO : Addr) : Prop where
  ins : mg "isinstance" = none
  enu : mg "enumerate" = none
  rng : mg "range" = none
  ve : mg "ValueError" = none
  xg : XG K
  clO : PySem.W.isClsIn K CO = true
  tyO : PySem.W.typeIn K (.ref CO) = some (.type "type")
  suO : PySem.W.subIn K (.type "ValueError") (.ref CO) = some false
theorem TR.some {K : PySem.W.Frag} {mg : Str → Option Value} {CO : Addr} (T : TR K mg CO) : (PySem.W.clsIn K CO).isSome = true := by
  have h := T.clO
  unfold PySem.W.isClsIn at h; unfold PySem.W.clsIn
  first
    | exact h
    | (split at h <;> first | rfl | cases h)
theorem kit_CO {K : PySem.W.Frag} {mg : Str → Option Value} {CO : Addr} (T : TR K mg CO) {t : Value} {b : Bool} (hne : (t == Value.ref CO) = false) (hs : PySem.W.subIn K t (.ref CO) = Option.some b) : PySem.W.kitOne K t (.ref CO) = Option.some b := by
  unfold PySem.W.kitOne
  rw [hne, if_neg Bool.false_ne_true]
  show (if ((PySem.W.clsIn K CO).isSome && PySem.W.typeIn K (.ref CO) == Option.some (.type "type")) = true then PySem.W.subIn K t (.ref CO) else none) = _
  rw [T.some, T.tyO, if_pos (by rfl)]; exact hs
theorem kit_old {K : PySem.W.Frag} {mg : Str → Option Value} {CO C : Addr} (T : TR K mg CO) (U : XC K CO C) (ne : C ≠ CO) : PySem.W.kitOne K (.ref C) (.ref CO) = Option.some true := by
  refine kit_CO T (by simpa using ne) ?_
  show PySem.W.mroIn K C _ = _
  rw [U.mro, List.contains_cons, List.contains_cons]; simp
theorem kit_ve {K : PySem.W.Frag} {CO C : Addr} (U : XC K CO C) : PySem.W.kitOne K (.ref C) (.type "ValueError") = Option.some true := by
  unfold PySem.W.kitOne
  rw [if_neg (by simp)]
  show (if PySem.W.kitMeta "ValueError" = true then PySem.W.subIn K (.ref C) (.type "ValueError") else none) = _
  rw [if_pos (by decide +kernel)]
  show PySem.W.mroIn K C _ = _
  rw [U.mro, List.contains_cons, List.contains_cons]; rfl
def bsL (i n : Nat) : List V := (List.range n).map fun j => V.bl (decide (j = i))
theorem bsL_succ (i n : Nat) : bsL i (n + 1) = bsL i n ++ [V.bl (decide (n = i))] := by
  unfold bsL; rw [List.range_succ, List.map_append]; rfl
theorem bsL_dp {K : PySem.W.Frag} {H : Hp} : ∀ bs : List Bool, DpAll K H (bs.map V.bl) (bs.map PyData.bool)
  | [] => .nil
  | b :: bs => .cons (.bl b) (bsL_dp bs)
theorem tk_bs {c : Nat → Addr} {i : Nat} (hi : i < 17) (inj : ∀ a b, a < 17 → b < 17 → c a = c b → a = b) : tkL c (c i) = bsL i 17 := by
  show (List.range 17).map (fun j => V.bl (decide (c i = c j))) = _
  refine List.map_congr_left fun j hj => ?_
  have hj' : j < 17 := List.mem_range.mp hj
  by_cases e : j = i
  · subst e; simp
  · rw [decide_eq_false e, decide_eq_false fun z => e (inj _ _ hi hj' z).symm]
def bsD (i : Nat) : PyData := .list (((List.range 17).map fun j => decide (j = i)).map PyData.bool)
theorem bsD_dp {K : PySem.W.Frag} {H : Hp} {q : Addr} {i : Nat} (h : H q = some (.lst (bsL i 17))) : Dp K H (.ref q) (bsD i) := by
  refine .lst (xs := bsL i 17) (SqL.of h) ?_
  have e : bsL i 17 = ((List.range 17).map fun j => decide (j = i)).map V.bl := by { unfold bsL; rw [List.map_map]; rfl }
  rw [e]; exact bsL_dp _
theorem bsD_sh (i : Nat) : SeqAt.shaped (bsD i) = true := rfl
theorem fs_iff {K : PySem.W.Frag} {H H' : Hp} {p : Addr} {v : V} {c : Nat → Addr} (s : Same H H') (h : Lst c H p v) : Lst c H' p v := by
  obtain ⟨as, h1, h2⟩ := h
  exact ⟨as, s _ _ h1, h2.same s⟩
theorem fldJ {K : PySem.W.Frag} {CO : Addr} {c : Nat → Addr} {H : Hp} {p : Addr} {as : List Addr} {v : V} {σ : St} {C : Addr} {fs : List (Str × V)} {f : Str} {z : V} (j i : Nat) (hσ : σ[j]? = some (some (.ref p))) (hp : H p = some (.lst (as.map V.ref))) (hM : MadeL H as (spL c v))
    (hi : (spL c v)[i]? = some (C, fs)) (T : XC K CO C) (no : PySem.W.findIn K (.ref C) f = some none) (hv : fs.lookup f = some z) : EvR σ H (tExf K CO f (tOp (rIxL K) (tVar j) (tC (.int (i : Int))))) z := by
  intro Q q
  obtain ⟨a, ha, hE⟩ := hM.get hi
  exact ⟨_, hσ, p, _, _, _, rfl, rfl, SqL.of hp, at_of (j := i) rfl (by rw [List.getElem?_map, ha]; rfl), a, C, fs, z, rfl, T, no, hE, hv, q⟩
theorem spL_at (c : Nat → Addr) (v : V) : ∀ m, m < 17 → ∃ fs, (spL c v)[m]? = some (c m, fs)
  | 0, _ => ⟨_, rfl⟩
  | 1, _ => ⟨_, rfl⟩
  | 2, _ => ⟨_, rfl⟩
  | 3, _ => ⟨_, rfl⟩
  | 4, _ => ⟨_, rfl⟩
  | 5, _ => ⟨_, rfl⟩
  | 6, _ => ⟨_, rfl⟩
  | 7, _ => ⟨_, rfl⟩
  | 8, _ => ⟨_, rfl⟩
  | 9, _ => ⟨_, rfl⟩
  | 10, _ => ⟨_, rfl⟩
  | 11, _ => ⟨_, rfl⟩
  | 12, _ => ⟨_, rfl⟩
  | 13, _ => ⟨_, rfl⟩
  | 14, _ => ⟨_, rfl⟩
  | 15, _ => ⟨_, rfl⟩
  | 16, _ => ⟨_, rfl⟩
  | n + 17, h => absurd h (by omega)
theorem r_yes {σ : St} {H : Hp} {Q : Bool → Hp → Prop} (h : Q true H) : tYes σ H Q := h
theorem same2 {H : Hp} {p q : Addr} {o u : HO} (n : H p = none) (m : (upd H p o) q = none) : Same H (upd (upd H p o) q u) := (Same.new n).trans (Same.new m)
section
variable {P : Program} {w : World} {K : PySem.W.Frag} {mg : Str → Option Value} {base : Heap} {CO : Addr} {c : Nat → Addr} {fD fP fN fF fT : Addr} {gD gP gN gF gT : FuncData}
theorem okRight {f : Addr} {fd : FuncData} (F : Fun K "_law_right" "_law_right" sRight f fd) (T : TR K mg CO) (hO : mg "OldError" = some (.ref CO)) (TT : ∀ i, i < 17 → XC K CO (c i)) (ne : ∀ i, i < 17 → c i ≠ CO) (inj : ∀ a b, a < 17 → b < 17 → c a = c b → a = b)
    (no0 : ∀ z ∈ (["number", "part", "index"] : List Str), PySem.W.findIn K (.ref (c 0)) z = some none) (no1 : ∀ z ∈ (["number", "part", "index"] : List Str), PySem.W.findIn K (.ref (c 1)) z = some none) (no2 : ∀ z ∈ (["where", "at"] : List Str), PySem.W.findIn K (.ref (c 2)) z = some none)
    (GD : FnOk P w K mg base CX0 1 fD gD ["_law_well", "_law_many"] spDraw) (mD : mg "_law_draw" = some (.ref fD)) (kD : PySem.W.keepIn K (.ref fD) = true) (bD : Binds K gD ["_law_well", "_law_many"] [])
    (GP : FnOk P w K mg base CX0 3 fP gP ["_law_x"] (spMake c)) (mP : mg "_law_by_place" = some (.ref fP)) (kP : PySem.W.keepIn K (.ref fP) = true) (bP : Binds K gP ["_law_x"] [])
    (GN : FnOk P w K mg base CX0 3 fN gN ["_law_x"] (spMake c)) (mN : mg "_law_by_name" = some (.ref fN)) (kN : PySem.W.keepIn K (.ref fN) = true) (bN : Binds K gN ["_law_x"] [])
    (GF : FnOk P w K mg base CX0 1 fF gF ["_law_some"] (spFields c)) (mF : mg "_law_fields" = some (.ref fF)) (kF : PySem.W.keepIn K (.ref fF) = true) (bF : Binds K gF ["_law_some"] [])
    (GT : FnOk P w K mg base CX0 1 fT gT ["_law_e"] (spTaken c)) (mT : mg "_law_taken" = some (.ref fT)) (kT : PySem.W.keepIn K (.ref fT) = true) (bT : Binds K gT ["_law_e"] []) :
    FnOk P w K mg base CX0 4 f fd ["_law_well"] spRight := by
  refine F.ok scR (fun vs H Q E h => ?_) (fun cdv A outer s H vs Q E hr h => ?_)
  · obtain ⟨w, a, b, c, rfl, _⟩ := h; rfl
  · obtain ⟨w, a, b, c0, rfl, hw, k⟩ := h
    have hr1 := hr.mono (j := 1) (by decide)
    refine ⟨_, pss_cons (ps_set (i := 1) scR.nd rfl (Or.inl rfl) (pe_ix ix_list (pe_lst (pa_cons (pe_call GD hr1 rfl mD kD bD .nil pass0 (pa_cons (pv 0) (pa_cons pe_int pa_nil))) (pa_cons (pe_un un_neg pe_int) (pa_cons pe_non (pa_cons pe_str (pa_cons (pe_tup (pa_cons pe_int (pa_cons pe_int pa_nil))) pa_nil))))))
        (pe_call GD hr1 rfl mD kD bD .nil pass0 (pa_cons (pv 0) (pa_cons pe_int pa_nil))) (fun _ _ => rfl)))
      (pss_cons (ps_for PassesOwn.never rfl (pi_list (pe_lst (pa_cons (pe_call GP hr rfl mP kP bP .nil pass0 (pa_cons (pv 1) pa_nil)) (pa_cons (pe_call GN hr rfl mN kN bN .nil pass0 (pa_cons (pv 1) pa_nil)) pa_nil)))) (pg_name (i := 2) scR.nd rfl (Or.inl rfl))
        (pss_cons (ps_if (PW.pt (pw_or (pt_cmpR (op_neD hr.units) (pe_call GF hr1 rfl mF kF bF .nil pass0 (pa_cons (pv 2) pa_nil)) (pe_op op_rep (pe_lst (pa_cons (pv 1) pa_nil)) pe_int) (nomark _))
            (pw_or1 (pt_cmpR (op_neD hr.units) (pe_tup (pa_cons (pe_exf (CO := CO) (pe_ix ix_list (pv 2) pe_int (fun _ _ => rfl))) (pa_cons (pe_exf (CO := CO) (pe_ix ix_list (pv 2) pe_int (fun _ _ => rfl))) (pa_cons (pe_exf (CO := CO) (pe_ix ix_list (pv 2) pe_int (fun _ _ => rfl))) pa_nil))))
              (pe_tup (pa_cons pe_str (pa_cons pe_int (pa_cons pe_str pa_nil)))) (nomark _))))) (pss_one (ps_ret pe_bl)) pss_nil)
        (pss_cons (ps_if (pt_cmpR (op_neD hr.units) (pe_tup (pa_cons (pe_exf (CO := CO) (pe_ix ix_list (pv 2) pe_int (fun _ _ => rfl))) (pa_cons (pe_exf (CO := CO) (pe_ix ix_list (pv 2) pe_int (fun _ _ => rfl))) pa_nil)))
              (pe_tup (pa_cons pe_int (pa_cons pe_int pa_nil))) (nomark _)) (pss_one (ps_ret pe_bl)) pss_nil)
        (pss_one (ps_for PassesOwn.never rfl (pi_enum (by rfl) T.enu (pa_cons (pv 2) pa_nil)) (pg_tup rfl (pgs_cons (pg_name (i := 3) scR.nd rfl (Or.inr rfl)) (pgs_cons (pg_name (i := 4) scR.nd rfl (Or.inl rfl)) pgs_nil)))
          (pss_cons (ps_if (pt_cmpR (op_neD hr.units) (pe_call GT hr1 rfl mT kT bT .nil pass0 (pa_cons (pv 4) pa_nil))
              (pe_lc (own := [("_law_k", 5)]) (g := gName 5) (tt := tYes) rfl scR.nd (pi_range1 (by rfl) T.rng (pa_cons pe_int pa_nil)) (blkOk_by (N := ["_law_well", "_law_x", "_law_some", "_law_spot", "_law_e", "_law_k"]) (sc := defScope sRight) (by decide +kernel))
                (fun _ _ _ _ _ => pg_name (i := 5) scR.nd rfl (Or.inl rfl)) (fun _ _ _ _ _ => pts_nil) (fun _ _ _ _ _ => pe_cmpR op_eq (pv 5) (pv 3) (nomark _))) (nomark _)) (pss_one (ps_ret pe_bl)) pss_nil)
          (pss_one (ps_if (PW.pt (pw_or (pt_not (pt_val (pe_callB (call_isX (CO := CO)) (by rfl) T.ins PyProof.Rows.boot_isinstance (pa_cons (pv 4) (pa_cons (pe_glob (v := .ref CO) rfl hO rfl) pa_nil)))))
              (pw_or1 (pt_not (pt_val (pe_callB (call_isX (CO := CO)) (by rfl) T.ins PyProof.Rows.boot_isinstance (pa_cons (pv 4) (pa_cons (pe_bltn (v := .ty "ValueError") rfl T.ve PyProof.Rows.Boot.«ValueError» rfl) pa_nil))))))))
              (pss_one (ps_ret pe_bl)) pss_nil))))))))
      (pss_one (ps_ret (pe_not (pe_callB call_isB (by rfl) T.ins PyProof.Rows.boot_isinstance (pa_cons (pe_exb exb_ValueError rfl T.ve PyProof.Rows.Boot.«ValueError» (pa_cons pe_str pa_nil)) (pa_cons (pe_glob (v := .ref CO) rfl hO rfl) pa_nil))))))), ?_⟩
    refine r_seqSet (r_op (r_lst (r_cons (drawR (m := 1000) rfl hw (by decide) (by decide) fun r1 a1 c1 h0 h1 => ?_))))
    refine r_cons ⟨1, rfl, r_consC (r_consC (r_cons (r_tup (r_consC (r_consC (r_nil ⟨le_size (Nat.le_of_ble_eq_true rfl), fun t nt => r_nil ⟨le_size (Nat.le_of_ble_eq_true rfl), fun l nl => ?_⟩⟩))))))⟩
    have ew : (upd H w (.lst [.int a1, .int b, .int c1])) w = some (.lst [.int a1, .int b, .int c1]) := upd_same
    have x1 : SameX w H (upd H w (.lst [.int a1, .int b, .int c1])) := SameX.self
    generalize upd H w (.lst [.int a1, .int b, .int c1]) = H1 at nt nl ew x1 ⊢
    have s3 : Same H1 (upd (upd H1 t (.tup [.int 0, .int 1])) l (.lst [.int r1, .int (-1), .non, .str "v", .ref t])) := same2 nt nl
    have et : (upd (upd H1 t (.tup [.int 0, .int 1])) l (.lst [.int r1, .int (-1), .non, .str "v", .ref t])) t = some (.tup [.int 0, .int 1]) := by { rw [upd_ne (ne_of_none upd_same nl)]; exact upd_same }
    have el : (upd (upd H1 t (.tup [.int 0, .int 1])) l (.lst [.int r1, .int (-1), .non, .str "v", .ref t])) l = some (.lst [.int r1, .int (-1), .non, .str "v", .ref t]) := upd_same
    have nlw : l ≠ w := fun z => by { rw [z] at nl; rw [upd_ne (ne_of_none ew nt), ew] at nl; cases nl }
    have ntw : t ≠ w := fun z => by { rw [z, ew] at nt; cases nt }
    generalize upd (upd H1 t (.tup [.int 0, .int 1])) l (.lst [.int r1, .int (-1), .non, .str "v", .ref t]) = H3 at s3 et el ⊢
    refine drawR (m := 5) rfl (s3 _ _ ew) (by decide) (by decide) fun r2 a2 c2 g0 g1 => ?_
    have el4 : (upd H3 w (.lst [.int a2, .int b, .int c2])) l = some (.lst [.int r1, .int (-1), .non, .str "v", .ref t]) := by { rw [upd_ne nlw]; exact el }
    have et4 : (upd H3 w (.lst [.int a2, .int b, .int c2])) t = some (.tup [.int 0, .int 1]) := by { rw [upd_ne ntw]; exact et }
    have x4 : SameX w H (upd H3 w (.lst [.int a2, .int b, .int c2])) := (x1.trans (SameX.of s3)).trans SameX.self
    generalize upd H3 w (.lst [.int a2, .int b, .int c2]) = H4 at el4 et4 x4 ⊢
    obtain ⟨v, d, hv, hX, hD⟩ : ∃ (v : V) (d : PyData), atI [.int r1, .int (-1), .non, .str "v", .ref t] r2 = some v ∧ XD d ∧ Dp K H4 v d := by
      have : r2 = 0 ∨ r2 = 1 ∨ r2 = 2 ∨ r2 = 3 ∨ r2 = 4 := by omega
      rcases this with rfl | rfl | rfl | rfl | rfl
      · exact ⟨_, _, rfl, .inl ⟨r1, rfl⟩, .int _⟩
      · exact ⟨_, _, rfl, .inl ⟨-1, rfl⟩, .int _⟩
      · exact ⟨_, _, rfl, .inr (.inl rfl), .non⟩
      · exact ⟨_, _, rfl, .inr (.inr (.inl rfl)), .str _⟩
      · exact ⟨_, _, rfl, .inr (.inr (.inr rfl)), .tup (SqT.of et4) (.cons (.int 0) (.cons (.int 1) .nil))⟩
    refine ⟨l, _, r2, v, rfl, rfl, SqL.of el4, hv, ?_⟩
    refine r_seqFor (r_iList (r_lst (r_cons (r_call (r_consV rfl (r_nil ⟨v, rfl, fun H5 p5 s5 l5 => ?_⟩))))))
    refine r_cons (r_call (r_consV rfl (r_nil ⟨v, rfl, fun H6 p6 s6 l6 => r_nil ⟨le_size (Nat.le_of_ble_eq_true rfl), fun q nq => ⟨q, rfl, ⟨_, SqL.of upd_same⟩, ?_⟩⟩⟩)))
    have s7 := Same.new (o := .lst [.ref p5, .ref p6]) nq
    have e7 : (upd H6 q (.lst [.ref p5, .ref p6])) q = some (.lst [.ref p5, .ref p6]) := upd_same
    have L5 := fs_iff (K := K) (s6.trans s7) l5
    have L6 := fs_iff (K := K) s7 l6
    have x7 : SameX w H (upd H6 q (.lst [.ref p5, .ref p6])) := x4.trans (SameX.of ((s5.trans s6).trans s7))
    have D7 : Dp K (upd H6 q (.lst [.ref p5, .ref p6])) v d := hX.same hD ((s5.trans s6).trans s7)
    generalize upd H6 q (.lst [.ref p5, .ref p6]) = H7 at s7 e7 L5 L6 x7 D7 ⊢
    refine fr_list (xs := [.ref p5, .ref p6]) (fun _ σ H' => Same H7 H' ∧ ∃ x2 x3 x4 x5, σ = [some (.ref w), some v, x2, x3, x4, x5]) ⟨Same.refl _, _, _, _, _, rfl⟩ (fun i σ H' _ h => h.1.seq (SqL.of e7)) (fun i x σ H' hi hP => ?_) (fun σ H' hP => ?_)
    · obtain ⟨p, rfl, hL⟩ : ∃ p, x = .ref p ∧ Lst c H' p v := by
        match i, hi with
        | 0, hi => cases hi; exact ⟨p5, rfl, fs_iff (K := K) hP.1 L5⟩
        | 1, hi => cases hi; exact ⟨p6, rfl, fs_iff (K := K) hP.1 L6⟩
      obtain ⟨sP, x2, x3, x4, x5, rfl⟩ := hP
      have DP := hX.same D7 sP
      refine r_gName (r_seqIf0 (r_or (r_test (r_op (r_call (r_consV rfl (r_nil ⟨p, v, rfl, hL, fun H8 q8 s8 e8 => ?_⟩)))))))
      refine r_op (r_lst (r_consV rfl (r_nil ⟨le_size (Nat.le_of_ble_eq_true rfl), fun l9 n9 => ⟨l9, 17, [v], rfl, rfl, upd_same, by decide, by decide, le_size (Nat.le_of_ble_eq_true rfl), fun q9 nq9 => ?_⟩⟩)))
      have s10 := same2 (u := .lst (List.replicate 17 v)) n9 nq9
      have e8' := s10 _ _ e8
      have e9 : (upd (upd H8 l9 (.lst [v])) q9 (.lst (List.replicate 17 v))) q9 = some (.lst (List.replicate 17 v)) := upd_same
      have D10 := hX.same DP (s8.trans s10)
      have t10 := (sP.trans s8).trans s10
      obtain ⟨as, hp, hM⟩ := fs_iff (K := K) (s8.trans s10) hL
      refine ⟨.list (List.replicate 17 d), .list (List.replicate 17 d), .lst (SqL.of e8') (dp_rep D10 17), .lst (SqL.of e9) (dp_rep D10 17), hX.sh, hX.sh, _, rfl, ?_⟩
      rw [SeqAt.eqv_refl _ (SeqAt.canLay_of_shaped hX.sh)]
      refine iteF ?_
      change (tTest _) _ (upd (upd H8 l9 (.lst [v])) q9 (.lst (List.replicate 17 v))) _
      generalize upd (upd H8 l9 (.lst [v])) q9 (.lst (List.replicate 17 v)) = H10 at hp hM t10 D10 ⊢
      refine r_test (r_op (r_tup (evs_cons (fldJ 2 0 rfl hp hM rfl (TT 0 (by decide)) (no0 _ (by decide +kernel)) rfl) (evs_cons (fldJ 2 0 rfl hp hM rfl (TT 0 (by decide)) (no0 _ (by decide +kernel)) rfl) (evs_cons (fldJ 2 1 rfl hp hM rfl (TT 1 (by decide)) (no1 _ (by decide +kernel)) rfl) evs_nil)) _
        ⟨le_size (Nat.le_of_ble_eq_true rfl), fun a1 na1 => r_tup (r_consC (r_consC (r_consC (r_nil ⟨le_size (Nat.le_of_ble_eq_true rfl), fun a2 na2 => ?_⟩))))⟩)))
      have s12 := same2 (u := .tup [.str "p", .int 7, .str "p"]) na1 na2
      have f1 : (upd (upd H10 a1 (.tup [.str "p", .int 7, .str "p"])) a2 (.tup [.str "p", .int 7, .str "p"])) a1 = some (.tup [.str "p", .int 7, .str "p"]) := by { rw [upd_ne (ne_of_none upd_same na2)]; exact upd_same }
      have f2 : (upd (upd H10 a1 (.tup [.str "p", .int 7, .str "p"])) a2 (.tup [.str "p", .int 7, .str "p"])) a2 = some (.tup [.str "p", .int 7, .str "p"]) := upd_same
      replace hp := s12 _ _ hp
      replace hM := hM.same s12
      replace t10 := t10.trans s12
      refine ⟨.tuple [.str "p", .int 7, .str "p"], .tuple [.str "p", .int 7, .str "p"], .tup (SqT.of f1) (.cons (.str _) (.cons (.int _) (.cons (.str _) .nil))), .tup (SqT.of f2) (.cons (.str _) (.cons (.int _) (.cons (.str _) .nil))), by decide +kernel, by decide +kernel, _, rfl, ?_⟩
      rw [show PyData.eqv (.tuple [.str "p", .int 7, .str "p"]) (.tuple [.str "p", .int 7, .str "p"]) = true by decide +kernel]
      refine iteF ?_
      generalize upd (upd H10 a1 (.tup [.str "p", .int 7, .str "p"])) a2 (.tup [.str "p", .int 7, .str "p"]) = H12 at hp hM t10 ⊢
      refine r_seqIf0 (r_test (r_op (r_tup (evs_cons (fldJ 2 1 rfl hp hM rfl (TT 1 (by decide)) (no1 _ (by decide +kernel)) rfl) (evs_cons (fldJ 2 2 rfl hp hM rfl (TT 2 (by decide)) (no2 _ (by decide +kernel)) rfl) evs_nil) _
        ⟨le_size (Nat.le_of_ble_eq_true rfl), fun a3 na3 => r_tup (r_consC (r_consC (r_nil ⟨le_size (Nat.le_of_ble_eq_true rfl), fun a4 na4 => ?_⟩)))⟩))))
      have s14 := same2 (u := .tup [.int 7, .int 7]) na3 na4
      have f3 : (upd (upd H12 a3 (.tup [.int 7, .int 7])) a4 (.tup [.int 7, .int 7])) a3 = some (.tup [.int 7, .int 7]) := by { rw [upd_ne (ne_of_none upd_same na4)]; exact upd_same }
      have f4 : (upd (upd H12 a3 (.tup [.int 7, .int 7])) a4 (.tup [.int 7, .int 7])) a4 = some (.tup [.int 7, .int 7]) := upd_same
      replace hp := s14 _ _ hp
      replace hM := hM.same s14
      replace t10 := t10.trans s14
      refine ⟨.tuple [.int 7, .int 7], .tuple [.int 7, .int 7], .tup (SqT.of f3) (.cons (.int _) (.cons (.int _) .nil)), .tup (SqT.of f4) (.cons (.int _) (.cons (.int _) .nil)), by decide +kernel, by decide +kernel, _, rfl, ?_⟩
      rw [show PyData.eqv (.tuple [.int 7, .int 7]) (.tuple [.int 7, .int 7]) = true by decide +kernel]
      refine iteF ?_
      generalize upd (upd H12 a3 (.tup [.int 7, .int 7])) a4 (.tup [.int 7, .int 7]) = H14 at hp hM t10 ⊢
      refine r_for (r_iEnum (r_consV rfl (r_nil ⟨p, as.map V.ref, rfl, SqL.of hp, ?_⟩)))
      refine fr_enum (fun _ σ H' => Same H14 H' ∧ ∃ y3 y4 y5, σ = [some (.ref w), some v, some (.ref p), y3, y4, y5]) ⟨Same.refl _, _, _, _, rfl⟩ (fun i σ H' _ h => h.1.seq (SqL.of hp)) (fun m x σ H' T0 hm hQ nT => ?_) (fun σ H' hQ => ?_)
      · obtain ⟨sQ, y3, y4, y5, rfl⟩ := hQ
        have hlen : as.length = 17 := hM.length
        obtain ⟨e, he, rfl⟩ : ∃ e, as[m]? = some e ∧ x = .ref e := by
          rw [List.getElem?_map] at hm
          cases z : as[m]? with
          | none => rw [z] at hm; cases hm
          | some e => rw [z] at hm; exact ⟨e, rfl, (Option.some.inj hm).symm⟩
        have hm17 : m < 17 := by
          have := (List.getElem?_eq_some_iff.mp he).1
          omega
        obtain ⟨fs, hfs⟩ := spL_at c v m hm17
        obtain ⟨e', he', hE⟩ := hM.get hfs
        obtain rfl : e' = e := Option.some.inj (he'.symm.trans he)
        have sT := Same.new (o := .tup [.int (m : Nat), .ref e']) nT
        replace hE := hE.same (sQ.trans sT)
        have u16 := sQ.trans sT
        generalize upd H' T0 (.tup [.int (m : Nat), .ref e']) = H16 at hE u16 ⊢
        refine r_seqIf0 (r_test (r_op (r_call (r_consV rfl (r_nil ⟨e', m, fs, rfl, hm17, hE, fun H17 q17 s17 e17 => ?_⟩)))))
        rw [tk_bs hm17 inj] at e17
        refine ⟨17, rfl, by decide, by decide, fun D0 nD => lc_range (lo := 0) (n := 17) (fun n G => Same H17 G ∧ G D0 = some (.lst (bsL m n))) ⟨Same.new nD, upd_same⟩ (fun n G hn hG => ?_) (fun G hG => ?_)⟩
        · refine r_gName ⟨rfl, ?_⟩
          refine r_yes (iteT (r_op (r_var rfl (r_var rfl ⟨rfl, bsL m n, hG.2, ?_, ?_, ?_⟩))))
          · unfold bsL; rw [List.length_map, List.length_range]; exact Nat.lt_trans hn (by decide)
          · exact fun b o z => by rw [upd_ne (ne_of_none z nD)]; exact hG.1 b o z
          · rw [upd_same, bsL_succ]
            have ee : decide (V.int (0 + (n : Int)) = V.int (m : Nat)) = decide (n = m) := by
              by_cases q : n = m
              · subst q; simp
              · rw [decide_eq_false q]; refine decide_eq_false fun z => q ?_
                have z' := V.int.inj z; omega
            rw [← ee]
        · obtain ⟨sG, eG⟩ := hG
          refine ⟨bsD m, bsD m, bsD_dp (sG _ _ e17), bsD_dp eG, bsD_sh m, bsD_sh m, _, rfl, ?_⟩
          rw [SeqAt.eqv_refl _ (SeqAt.canLay_of_shaped (bsD_sh m))]
          refine iteF ?_
          have hE2 := hE.same (s17.trans sG)
          refine r_if0 (r_or (r_not (r_tb (r_cb (r_consV rfl (r_consC (r_nil ⟨e', c m, fs, _, _, true, rfl, .own CO, T.xg, TT m hm17, hE2, kit_old T (TT m hm17) (ne m hm17), _, rfl, ?_⟩)))))))
          refine iteF (r_not (r_tb (r_cb (r_consV rfl (r_consC (r_nil ⟨e', c m, fs, _, _, true, rfl, .ty "ValueError", T.xg, TT m hm17, hE2, kit_ve (TT m hm17), _, rfl, ?_⟩))))))
          refine iteF ?_
          exact ⟨(u16.trans s17).trans sG, _, _, _, rfl⟩
      · obtain ⟨sQ, y3, y4, y5, rfl⟩ := hQ
        exact ⟨t10.trans sQ, _, _, _, _, rfl⟩
    · refine r_ret (r_notV (r_cb (r_cons (r_consC (r_nil ⟨le_size (Nat.le_of_ble_eq_true rfl), fun a na => r_consC (r_nil ⟨a, _, _, false, rfl, .own CO, upd_same, kit_CO T rfl T.suO, _, rfl, ?_⟩)⟩)))))
      exact k _ (x7.trans (SameX.of (hP.1.trans (Same.new na))))
end
end K20


set_option Elab.async false
set_option linter.all false
set_option maxRecDepth 100000
set_option maxHeartbeats 4000000
/-! K20f: the law -/
namespace K20
open PySem L2 OC
def spLaw (K : PySem.W.Frag) : Sp := fun vs H Q _ => ∃ (a : Addr) (ns : List Int), vs = [.ref a] ∧ SqL K H a (ns.map V.int) ∧ ns.length ≤ 63 ∧ ∀ H', Q (.bl true) H'
theorem scL : FnScope ["_law_script", "_law_k", "_law_cell"] ["_law_script"] (defScope sLaw) := ⟨rfl, rfl, rfl, by decide +kernel, rfl, by decide +kernel, by decide +kernel⟩
theorem cut_int {xs : List V} {lo hi : Option Int} (h : ∀ x ∈ xs, ∃ n, x = V.int n) : ∀ x ∈ cutV xs lo hi, ∃ n, x = V.int n := fun x hx => h x (List.mem_of_mem_drop (List.mem_of_mem_take hx))
theorem r_sl {σ : St} {H : Hp} {Q : VK} {r : V → Option Int → Option Int → Hp → VK → Prop} {te : TE} {tl th : TO} (h : te σ H fun x H1 => tl σ H1 fun l H2 => th σ H2 fun u H3 => r x l u H3 Q) : tSl r te tl th σ H Q := h
theorem r_opC {σ : St} {H : Hp} {Q : VK} {r : R2} {v : V} {tb : TE} (h : tb σ H fun y H2 => r v y H2 Q) : tOp r (tC v) tb σ H Q := h
section
variable {P : Program} {w : World} {K : PySem.W.Frag} {mg : Str → Option Value} {base : Heap} {fR : Addr} {gR' : FuncData}
theorem okLaw {f : Addr} {fd : FuncData} (F : Fun K "law" "law" sLaw f fd) (hI : mg "int" = none) (hE : mg "enumerate" = none) (GR : FnOk P w K mg base CX0 4 fR gR' ["_law_well"] spRight) (mR : mg "_law_right" = some (.ref fR)) (kR : PySem.W.keepIn K (.ref fR) = true) (bR : Binds K gR' ["_law_well"] []) :
    FnOk P w K mg base CX0 5 f fd ["_law_script"] (spLaw K) := by
  refine F.ok scL (fun vs H Q E h => ?_) (fun cdv A outer s H vs Q E hr h => ?_)
  · obtain ⟨a, ns, rfl, _⟩ := h; rfl
  · obtain ⟨a, ns, rfl, hS, hlen, k⟩ := h
    refine ⟨_, pss_cons (ps_for PassesOwn.never rfl (pi_enum (by rfl) hE (pa_cons (pe_slice sl_list (pe_op op_catQ (pv 0) (pe_lst (pa_cons pe_int pa_nil))) po_none (po_some pe_int)) pa_nil)) (pg_tup rfl (pgs_cons (pg_name (i := 1) scL.nd rfl (Or.inl rfl)) (pgs_cons (pg_name (i := 2) scL.nd rfl (Or.inl rfl)) pgs_nil)))
        (pss_one (ps_if (pt_not (pt_val (pe_call GR hr rfl mR kR bR .nil pass0 (pa_cons (pe_lst (pa_cons (pe_op op_mul (pv 2) (pe_callTy call_int1 (by rfl) hI PyProof.Rows.boot_int (pa_cons (pe_cmpR op_ge (pv 2) (pe_op op_pow pe_int pe_int) (nomark _)) pa_nil)))
          (pa_cons (pe_op op_add (pe_op op_mod (pe_callTy call_int1 (by rfl) hI PyProof.Rows.boot_int (pa_cons (pv 2) pa_nil)) pe_int) (pe_op op_mul pe_int (pv 1))) (pa_cons pe_int pa_nil)))) pa_nil)))) (pss_one (ps_ret pe_bl)) pss_nil)))
      (pss_one (ps_ret pe_bl)), ?_⟩
    refine r_seqFor (r_iEnum (r_cons (r_sl (r_op (r_var rfl (r_lst (r_consC (r_nil ⟨le_size (Nat.le_of_ble_eq_true rfl), fun l nl => ?_⟩))))))))
    have s1 := Same.new (o := .lst [.int 0]) nl
    have hs1 := s1.seq hS
    refine ⟨a, l, _, _, rfl, rfl, hs1, SqL.of upd_same, (by rw [List.length_map]; exact le_size (by show ns.length + 1 ≤ 1000; omega)), fun p np => ?_⟩
    have hall : ∀ x ∈ ns.map V.int ++ [V.int 0], ∃ n, x = V.int n := fun x hx => by
      rcases List.mem_append.mp hx with q | q
      · obtain ⟨n, _, e⟩ := List.mem_map.mp q; exact ⟨n, e.symm⟩
      · exact ⟨0, List.mem_singleton.mp q⟩
    have ep : (upd (upd H l (.lst [.int 0])) p (.lst (ns.map V.int ++ [V.int 0]))) p = some (.lst (ns.map V.int ++ [V.int 0])) := upd_same
    generalize upd (upd H l (.lst [.int 0])) p (.lst (ns.map V.int ++ [V.int 0])) = H2 at ep ⊢
    generalize ns.map V.int ++ [V.int 0] = xs at hall ep ⊢
    refine ⟨3, rfl, p, xs, rfl, SqL.of ep, fun q nq => r_nil ⟨q, _, rfl, SqL.of upd_same, ?_⟩⟩
    have hcut := cut_int (lo := none) (hi := some 3) hall
    have eq : (upd H2 q (.lst (cutV xs none (some 3)))) q = some (.lst (cutV xs none (some 3))) := upd_same
    generalize upd H2 q (.lst (cutV xs none (some 3))) = H3 at eq ⊢
    generalize cutV xs none (some 3) = ys at hcut eq ⊢
    refine fr_enum (xs := ys) (fun _ σ H' => Same H3 H' ∧ ∃ y1 y2, σ = [some (.ref a), y1, y2]) ⟨Same.refl _, _, _, rfl⟩ (fun i σ H' _ h => h.1.seq (SqL.of eq)) (fun i x σ H' T hx hP nT => ?_) (fun σ H' hP => ?_)
    · obtain ⟨sP, y1, y2, rfl⟩ := hP
      obtain ⟨n, rfl⟩ := hcut x (List.mem_of_getElem? hx)
      have sT := Same.new (o := .tup [.int (i : Nat), .int n]) nT
      have u1 := sP.trans sT
      generalize upd H' T (.tup [.int (i : Nat), .int n]) = H4 at u1 ⊢
      refine r_if0 (r_not (r_tb (r_call (r_cons (r_lst (r_cons (r_op (r_var rfl (r_cb (r_cons (r_op (r_var rfl (r_op ⟨10, 18, rfl, rfl, ⟨by decide, by decide, by decide⟩, _, _, rfl, rfl, ?_⟩)))))))))))))
      refine r_nil (.inr ⟨_, rfl, _, _, rfl, rfl, .inr ?_, ?_⟩)
      · split <;> decide
      · refine r_cons (r_op (r_op (r_cb (r_consV rfl (r_nil (.inl ⟨_, rfl, _, _, rfl, rfl, (show (0 : Int) < 2147483647 by decide), ?_⟩))))))
        refine r_opC (r_var rfl ⟨_, _, rfl, rfl, .inl (by decide), _, _, rfl, rfl, r_consC (r_nil ⟨le_size (Nat.le_of_ble_eq_true rfl), fun w0 nw0 => r_nil ⟨w0, _, _, _, rfl, upd_same, fun H5 sx => ⟨true, rfl, iteF ?_⟩⟩⟩)⟩)
        refine ⟨fun b o z => ?_, _, _, rfl⟩
        have z4 := u1 b o z
        have nb : b ≠ w0 := ne_of_none z4 nw0
        exact sx b o nb (by rw [upd_ne nb]; exact z4)
    · exact k H'
end
end K20


set_option Elab.async false
set_option linter.all false
set_option maxRecDepth 100000
set_option maxHeartbeats 4000000
/-! K20g: the end -/
namespace K20
open PySem L2 OC
def NoAll (K : PySem.W.Frag) (C : Addr) : List Str → Prop
  | [] => True
  | f :: fs => PySem.W.findIn K (.ref C) f = some none ∧ NoAll K C fs
theorem NoAll.all {K : PySem.W.Frag} {C : Addr} : ∀ {fs : List Str}, NoAll K C fs → ∀ f ∈ fs, PySem.W.findIn K (.ref C) f = some none
  | _ :: _, h, f, hf => by
    rcases List.mem_cons.mp hf with e | e
    · rw [e]; exact h.1
    · exact NoAll.all h.2 f e
/-- the written part on a class and its __init__ -/
structure ClK (K : PySem.W.Frag) (mg : Str → Option Value) (CO : Addr) (nm qual : Str) (st : Stmt) (fs : List Str) (C fI : Addr) (fd : FuncData) : Prop where
  T : XC K CO C
  gm : mg nm = some (.ref C)
  iC : PySem.W.findIn K (.ref C) "__init__" = some (some (.ref fI))
  tI : PySem.W.typeIn K (.ref fI) = some (.type "function")
  F : Fun K "__init__" qual st fI fd
  no : ∀ f ∈ fs, PySem.W.findIn K (.ref C) f = some none
  ne : C ≠ CO
theorem clk {K : PySem.W.Frag} {h : Heap} {mg : Str → Option Value} {CO C f N : Addr} {nm qual nm0 q0 : Str} {st : Stmt} {fs : List Str} {bs sub : List Value} {sn : List Str} {ab : Bool} {col : Option Bool} {dd od an : Option Addr} {k0 k1 k2 k3 k5 : Option Value} {osl : Array (Option Value)} {oc kV doc pm cdv ct : Value}
    (X : K.In h) (G : h.Ns mainGlobals mg) (aC : PySem.W.nsIn K mainGlobals nm = some (some (.ref C)))
    (lC : K.lookup C = some (excClassObj nm0 q0 C N bs [.ref CO, .type "ValueError", .type "Exception", .type "BaseException", .type "object"] true sn sub ab col dd k0 k1 k2 k3 k5 "ValueError.__new__"))
    (sa : PySem.W.findIn K (.ref C) "__setattr__" = some (some (.builtin "object.__setattr__"))) (ga : PySem.W.findIn K (.ref C) "__getattribute__" = some (some (.builtin "BaseException.__getattribute__"))) (gg : PySem.W.findIn K (.ref C) "__getattr__" = some none)
    (ca : PySem.W.findIn K (.ref C) "__class__" = some (some (.builtin "object.__class__"))) (ty : PySem.W.typeIn K (.ref C) = some (.type "type")) (kp : PySem.W.keepIn K (.ref C) = true)
    (iC : PySem.W.findIn K (.ref C) "__init__" = some (some (.ref f))) (tI : PySem.W.typeIn K (.ref f) = some (.type "function"))
    (lf : K.lookup f = some ⟨oc, od, .func (PySem.W.fnOf "__init__" qual (defArgs st) (defBody st) (defScope st) .none kV doc pm an cdv ct), osl⟩) (cd : PySem.W.codeIn K cdv qual = true) (kf : PySem.W.keepIn K (.ref f) = true) (no : NoAll K C fs) (ne : C ≠ CO) :
    ClK K mg CO nm qual st fs C f (PySem.W.fnOf "__init__" qual (defArgs st) (defBody st) (defScope st) .none kV doc pm an cdv ct) :=
  ⟨⟨⟨nm0, q0, N, bs, sn, sub, ab, col, dd, k0, k1, k2, k3, k5, lC⟩, sa, ga, gg, ca, ty, kp⟩, PySem.W.mg_of X G aC, iC, tI, fun_mk (st := st) lf cd kf, no.all, ne⟩
section
variable {P : Program} {w : World} {K : PySem.W.Frag} {mg : Str → Option Value} {base : Heap} {CO : Addr}
theorem cl0 {C f : Addr} {fd : FuncData} (G : XO K mg CO) (D : ClK K mg CO "NoLibrary" "NoLibrary.__init__" sI0 ["number", "part", "index"] C f fd) : Cl P w K mg base CO "NoLibrary" ["number", "part", "index"] ["index", "part", "number"] 3 C f fd :=
  ⟨D.T, D.gm, D.iC, D.tI, okI0 D.F G D.T D.no, kb_of D.F _ 4 [] fun _ _ _ _ _ _ us ws l1 l2 => (match us, ws, l1, l2 with | [_, _, _, _], [], _, _ => rfl), kb_of D.F _ 1 ["index", "part", "number"] fun _ _ _ _ _ _ us ws l1 l2 => (match us, ws, l1, l2 with | [_], [_, _, _], _, _ => rfl), D.no, D.ne⟩
theorem cl1 {C f : Addr} {fd : FuncData} (G : XO K mg CO) (D : ClK K mg CO "NoClient" "NoClient.__init__" sI1 ["number", "part", "index"] C f fd) : Cl P w K mg base CO "NoClient" ["number", "part", "index"] ["index", "part", "number"] 3 C f fd :=
  ⟨D.T, D.gm, D.iC, D.tI, okI1 D.F G D.T D.no, kb_of D.F _ 4 [] fun _ _ _ _ _ _ us ws l1 l2 => (match us, ws, l1, l2 with | [_, _, _, _], [], _, _ => rfl), kb_of D.F _ 1 ["index", "part", "number"] fun _ _ _ _ _ _ us ws l1 l2 => (match us, ws, l1, l2 with | [_], [_, _, _], _, _ => rfl), D.no, D.ne⟩
theorem cl2 {C f : Addr} {fd : FuncData} (G : XO K mg CO) (D : ClK K mg CO "NoBody" "NoBody.__init__" sI2 ["where", "at"] C f fd) : Cl P w K mg base CO "NoBody" ["where", "at"] ["at", "where"] 2 C f fd :=
  ⟨D.T, D.gm, D.iC, D.tI, okI2 D.F G D.T D.no, kb_of D.F _ 3 [] fun _ _ _ _ _ _ us ws l1 l2 => (match us, ws, l1, l2 with | [_, _, _], [], _, _ => rfl), kb_of D.F _ 1 ["at", "where"] fun _ _ _ _ _ _ us ws l1 l2 => (match us, ws, l1, l2 with | [_], [_, _], _, _ => rfl), D.no, D.ne⟩
theorem cl3 {C f : Addr} {fd : FuncData} (G : XO K mg CO) (D : ClK K mg CO "NoClass" "NoClass.__init__" sI3 ["name"] C f fd) : Cl P w K mg base CO "NoClass" ["name"] ["name"] 1 C f fd :=
  ⟨D.T, D.gm, D.iC, D.tI, okI3 D.F G D.T D.no, kb_of D.F _ 2 [] fun _ _ _ _ _ _ us ws l1 l2 => (match us, ws, l1, l2 with | [_, _], [], _, _ => rfl), kb_of D.F _ 1 ["name"] fun _ _ _ _ _ _ us ws l1 l2 => (match us, ws, l1, l2 with | [_], [_], _, _ => rfl), D.no, D.ne⟩
theorem cl4 {C f : Addr} {fd : FuncData} (G : XO K mg CO) (D : ClK K mg CO "NoMember" "NoMember.__init__" sI4 ["name"] C f fd) : Cl P w K mg base CO "NoMember" ["name"] ["name"] 1 C f fd :=
  ⟨D.T, D.gm, D.iC, D.tI, okI4 D.F G D.T D.no, kb_of D.F _ 2 [] fun _ _ _ _ _ _ us ws l1 l2 => (match us, ws, l1, l2 with | [_, _], [], _, _ => rfl), kb_of D.F _ 1 ["name"] fun _ _ _ _ _ _ us ws l1 l2 => (match us, ws, l1, l2 with | [_], [_], _, _ => rfl), D.no, D.ne⟩
theorem cl5 {C f : Addr} {fd : FuncData} (G : XO K mg CO) (D : ClK K mg CO "NoTables" "NoTables.__init__" sI5 ["index"] C f fd) : Cl P w K mg base CO "NoTables" ["index"] ["index"] 1 C f fd :=
  ⟨D.T, D.gm, D.iC, D.tI, okI5 D.F G D.T D.no, kb_of D.F _ 2 [] fun _ _ _ _ _ _ us ws l1 l2 => (match us, ws, l1, l2 with | [_, _], [], _, _ => rfl), kb_of D.F _ 1 ["index"] fun _ _ _ _ _ _ us ws l1 l2 => (match us, ws, l1, l2 with | [_], [_], _, _ => rfl), D.no, D.ne⟩
theorem cl6 {C f : Addr} {fd : FuncData} (G : XO K mg CO) (D : ClK K mg CO "NoFields" "NoFields.__init__" sI6 ["index"] C f fd) : Cl P w K mg base CO "NoFields" ["index"] ["index"] 1 C f fd :=
  ⟨D.T, D.gm, D.iC, D.tI, okI6 D.F G D.T D.no, kb_of D.F _ 2 [] fun _ _ _ _ _ _ us ws l1 l2 => (match us, ws, l1, l2 with | [_, _], [], _, _ => rfl), kb_of D.F _ 1 ["index"] fun _ _ _ _ _ _ us ws l1 l2 => (match us, ws, l1, l2 with | [_], [_], _, _ => rfl), D.no, D.ne⟩
theorem cl7 {C f : Addr} {fd : FuncData} (G : XO K mg CO) (D : ClK K mg CO "NoRoom" "NoRoom.__init__" sI7 ["size"] C f fd) : Cl P w K mg base CO "NoRoom" ["size"] ["size"] 1 C f fd :=
  ⟨D.T, D.gm, D.iC, D.tI, okI7 D.F G D.T D.no, kb_of D.F _ 2 [] fun _ _ _ _ _ _ us ws l1 l2 => (match us, ws, l1, l2 with | [_, _], [], _, _ => rfl), kb_of D.F _ 1 ["size"] fun _ _ _ _ _ _ us ws l1 l2 => (match us, ws, l1, l2 with | [_], [_], _, _ => rfl), D.no, D.ne⟩
theorem cl8 {C f : Addr} {fd : FuncData} (G : XO K mg CO) (D : ClK K mg CO "Lacks" "Lacks.__init__" sI8 ["need"] C f fd) : Cl P w K mg base CO "Lacks" ["need"] ["need"] 1 C f fd :=
  ⟨D.T, D.gm, D.iC, D.tI, okI8 D.F G D.T D.no, kb_of D.F _ 2 [] fun _ _ _ _ _ _ us ws l1 l2 => (match us, ws, l1, l2 with | [_, _], [], _, _ => rfl), kb_of D.F _ 1 ["need"] fun _ _ _ _ _ _ us ws l1 l2 => (match us, ws, l1, l2 with | [_], [_], _, _ => rfl), D.no, D.ne⟩
theorem cl9 {C f : Addr} {fd : FuncData} (G : XO K mg CO) (D : ClK K mg CO "NoText" "NoText.__init__" sI9 ["at"] C f fd) : Cl P w K mg base CO "NoText" ["at"] ["at"] 1 C f fd :=
  ⟨D.T, D.gm, D.iC, D.tI, okI9 D.F G D.T D.no, kb_of D.F _ 2 [] fun _ _ _ _ _ _ us ws l1 l2 => (match us, ws, l1, l2 with | [_, _], [], _, _ => rfl), kb_of D.F _ 1 ["at"] fun _ _ _ _ _ _ us ws l1 l2 => (match us, ws, l1, l2 with | [_], [_], _, _ => rfl), D.no, D.ne⟩
theorem cl10 {C f : Addr} {fd : FuncData} (G : XO K mg CO) (D : ClK K mg CO "NoVersions" "NoVersions.__init__" sI10 ["index"] C f fd) : Cl P w K mg base CO "NoVersions" ["index"] ["index"] 1 C f fd :=
  ⟨D.T, D.gm, D.iC, D.tI, okI10 D.F G D.T D.no, kb_of D.F _ 2 [] fun _ _ _ _ _ _ us ws l1 l2 => (match us, ws, l1, l2 with | [_, _], [], _, _ => rfl), kb_of D.F _ 1 ["index"] fun _ _ _ _ _ _ us ws l1 l2 => (match us, ws, l1, l2 with | [_], [_], _, _ => rfl), D.no, D.ne⟩
theorem cl11 {C f : Addr} {fd : FuncData} (G : XO K mg CO) (D : ClK K mg CO "NoVersion" "NoVersion.__init__" sI11 ["number"] C f fd) : Cl P w K mg base CO "NoVersion" ["number"] ["number"] 1 C f fd :=
  ⟨D.T, D.gm, D.iC, D.tI, okI11 D.F G D.T D.no, kb_of D.F _ 2 [] fun _ _ _ _ _ _ us ws l1 l2 => (match us, ws, l1, l2 with | [_, _], [], _, _ => rfl), kb_of D.F _ 1 ["number"] fun _ _ _ _ _ _ us ws l1 l2 => (match us, ws, l1, l2 with | [_], [_], _, _ => rfl), D.no, D.ne⟩
theorem cl12 {C f : Addr} {fd : FuncData} (G : XO K mg CO) (D : ClK K mg CO "NoPlace" "NoPlace.__init__" sI12 ["place"] C f fd) : Cl P w K mg base CO "NoPlace" ["place"] ["place"] 1 C f fd :=
  ⟨D.T, D.gm, D.iC, D.tI, okI12 D.F G D.T D.no, kb_of D.F _ 2 [] fun _ _ _ _ _ _ us ws l1 l2 => (match us, ws, l1, l2 with | [_, _], [], _, _ => rfl), kb_of D.F _ 1 ["place"] fun _ _ _ _ _ _ us ws l1 l2 => (match us, ws, l1, l2 with | [_], [_], _, _ => rfl), D.no, D.ne⟩
theorem cl13 {C f : Addr} {fd : FuncData} (G : XO K mg CO) (D : ClK K mg CO "NoReference" "NoReference.__init__" sI13 ["place"] C f fd) : Cl P w K mg base CO "NoReference" ["place"] ["place"] 1 C f fd :=
  ⟨D.T, D.gm, D.iC, D.tI, okI13 D.F G D.T D.no, kb_of D.F _ 2 [] fun _ _ _ _ _ _ us ws l1 l2 => (match us, ws, l1, l2 with | [_, _], [], _, _ => rfl), kb_of D.F _ 1 ["place"] fun _ _ _ _ _ _ us ws l1 l2 => (match us, ws, l1, l2 with | [_], [_], _, _ => rfl), D.no, D.ne⟩
theorem cl14 {C f : Addr} {fd : FuncData} (G : XO K mg CO) (D : ClK K mg CO "NoNeed" "NoNeed.__init__" sI14 ["need"] C f fd) : Cl P w K mg base CO "NoNeed" ["need"] ["need"] 1 C f fd :=
  ⟨D.T, D.gm, D.iC, D.tI, okI14 D.F G D.T D.no, kb_of D.F _ 2 [] fun _ _ _ _ _ _ us ws l1 l2 => (match us, ws, l1, l2 with | [_, _], [], _, _ => rfl), kb_of D.F _ 1 ["need"] fun _ _ _ _ _ _ us ws l1 l2 => (match us, ws, l1, l2 with | [_], [_], _, _ => rfl), D.no, D.ne⟩
theorem cl15 {C f : Addr} {fd : FuncData} (G : XO K mg CO) (D : ClK K mg CO "NoNumber" "NoNumber.__init__" sI15 ["number"] C f fd) : Cl P w K mg base CO "NoNumber" ["number"] ["number"] 1 C f fd :=
  ⟨D.T, D.gm, D.iC, D.tI, okI15 D.F G D.T D.no, kb_of D.F _ 2 [] fun _ _ _ _ _ _ us ws l1 l2 => (match us, ws, l1, l2 with | [_, _], [], _, _ => rfl), kb_of D.F _ 1 ["number"] fun _ _ _ _ _ _ us ws l1 l2 => (match us, ws, l1, l2 with | [_], [_], _, _ => rfl), D.no, D.ne⟩
theorem cl16 {C f : Addr} {fd : FuncData} (G : XO K mg CO) (D : ClK K mg CO "NoPace" "NoPace.__init__" sI16 ["pace"] C f fd) : Cl P w K mg base CO "NoPace" ["pace"] ["pace"] 1 C f fd :=
  ⟨D.T, D.gm, D.iC, D.tI, okI16 D.F G D.T D.no, kb_of D.F _ 2 [] fun _ _ _ _ _ _ us ws l1 l2 => (match us, ws, l1, l2 with | [_, _], [], _, _ => rfl), kb_of D.F _ 1 ["pace"] fun _ _ _ _ _ _ us ws l1 l2 => (match us, ws, l1, l2 with | [_], [_], _, _ => rfl), D.no, D.ne⟩
end
set_option maxHeartbeats 8000000 in
theorem all_mk {l : PySem.W.OpenLaw} {w : World} {K : PySem.W.Frag} {h : Heap} {mg : Str → Option Value} {fa CO : Addr} (X : K.In h) (G : h.Ns mainGlobals mg) (hfa : mg "law" = some (.ref fa))
    (aO : PySem.W.nsIn K mainGlobals "OldError" = some (some (.ref CO))) (sp : PySem.W.specialIn K (.ref CO) "__getattribute__" = some (some (.builtin "type.__getattribute__"))) (rd : PySem.W.readsIn K CO (.type "type") = true) (fc : PySem.W.findCls K (.ref CO) (.type "type") "__init__" = some (.val (.builtin "ValueError.__init__")))
    (clO : PySem.W.isClsIn K CO = true) (tyO : PySem.W.typeIn K (.ref CO) = some (.type "type")) (suO : PySem.W.subIn K (.type "ValueError") (.ref CO) = some false) (hn : PySem.W.specialIn K (.builtin "object.__class__") "__get__" = some (some (.builtin "getset_descriptor.__get__"))) (ht : PySem.W.takesIn K (.builtin "object.__class__") = some true)
    (z1 : PySem.W.nsIn K mainGlobals "isinstance" = some none) (z2 : PySem.W.nsIn K mainGlobals "enumerate" = some none) (z3 : PySem.W.nsIn K mainGlobals "range" = some none) (z4 : PySem.W.nsIn K mainGlobals "ValueError" = some none) (z5 : PySem.W.nsIn K mainGlobals "int" = some none)
    {C0 F0 : Addr} {G0 : FuncData} (D0 : ClK K mg CO "NoLibrary" "NoLibrary.__init__" sI0 ["number", "part", "index"] C0 F0 G0) {C1 F1 : Addr} {G1 : FuncData} (D1 : ClK K mg CO "NoClient" "NoClient.__init__" sI1 ["number", "part", "index"] C1 F1 G1) {C2 F2 : Addr} {G2 : FuncData} (D2 : ClK K mg CO "NoBody" "NoBody.__init__" sI2 ["where", "at"] C2 F2 G2) {C3 F3 : Addr} {G3 : FuncData} (D3 : ClK K mg CO "NoClass" "NoClass.__init__" sI3 ["name"] C3 F3 G3) {C4 F4 : Addr} {G4 : FuncData} (D4 : ClK K mg CO "NoMember" "NoMember.__init__" sI4 ["name"] C4 F4 G4) {C5 F5 : Addr} {G5 : FuncData} (D5 : ClK K mg CO "NoTables" "NoTables.__init__" sI5 ["index"] C5 F5 G5) {C6 F6 : Addr} {G6 : FuncData} (D6 : ClK K mg CO "NoFields" "NoFields.__init__" sI6 ["index"] C6 F6 G6) {C7 F7 : Addr} {G7 : FuncData} (D7 : ClK K mg CO "NoRoom" "NoRoom.__init__" sI7 ["size"] C7 F7 G7) {C8 F8 : Addr} {G8 : FuncData} (D8 : ClK K mg CO "Lacks" "Lacks.__init__" sI8 ["need"] C8 F8 G8) {C9 F9 : Addr} {G9 : FuncData} (D9 : ClK K mg CO "NoText" "NoText.__init__" sI9 ["at"] C9 F9 G9) {C10 F10 : Addr} {G10 : FuncData} (D10 : ClK K mg CO "NoVersions" "NoVersions.__init__" sI10 ["index"] C10 F10 G10) {C11 F11 : Addr} {G11 : FuncData} (D11 : ClK K mg CO "NoVersion" "NoVersion.__init__" sI11 ["number"] C11 F11 G11) {C12 F12 : Addr} {G12 : FuncData} (D12 : ClK K mg CO "NoPlace" "NoPlace.__init__" sI12 ["place"] C12 F12 G12) {C13 F13 : Addr} {G13 : FuncData} (D13 : ClK K mg CO "NoReference" "NoReference.__init__" sI13 ["place"] C13 F13 G13) {C14 F14 : Addr} {G14 : FuncData} (D14 : ClK K mg CO "NoNeed" "NoNeed.__init__" sI14 ["need"] C14 F14 G14) {C15 F15 : Addr} {G15 : FuncData} (D15 : ClK K mg CO "NoNumber" "NoNumber.__init__" sI15 ["number"] C15 F15 G15) {C16 F16 : Addr} {G16 : FuncData} (D16 : ClK K mg CO "NoPace" "NoPace.__init__" sI16 ["pace"] C16 F16 G16)
    (nd : ([C0, C1, C2, C3, C4, C5, C6, C7, C8, C9, C10, C11, C12, C13, C14, C15, C16] : List Addr).Nodup)
    {f0 : Addr} {oc0 kV0 dc0 pm0 cd0 ct0 : Value} {od0 an0 : Option Addr} {sl0 : Array (Option Value)} (a0 : PySem.W.nsIn K mainGlobals "_law_draw" = some (some (.ref f0))) (l0 : K.lookup f0 = some ⟨oc0, od0, .func (PySem.W.fnOf "_law_draw" "_law_draw" (defArgs sDraw) (defBody sDraw) (defScope sDraw) .none kV0 dc0 pm0 an0 cd0 ct0), sl0⟩) (c0 : PySem.W.codeIn K cd0 "_law_draw" = true) (k0 : PySem.W.keepIn K (.ref f0) = true)
    {f1 : Addr} {oc1 kV1 dc1 pm1 cd1 ct1 : Value} {od1 an1 : Option Addr} {sl1 : Array (Option Value)} (a1 : PySem.W.nsIn K mainGlobals "_law_taken" = some (some (.ref f1))) (l1 : K.lookup f1 = some ⟨oc1, od1, .func (PySem.W.fnOf "_law_taken" "_law_taken" (defArgs sTaken) (defBody sTaken) (defScope sTaken) .none kV1 dc1 pm1 an1 cd1 ct1), sl1⟩) (c1 : PySem.W.codeIn K cd1 "_law_taken" = true) (k1 : PySem.W.keepIn K (.ref f1) = true)
    {f2 : Addr} {oc2 kV2 dc2 pm2 cd2 ct2 : Value} {od2 an2 : Option Addr} {sl2 : Array (Option Value)} (a2 : PySem.W.nsIn K mainGlobals "_law_by_place" = some (some (.ref f2))) (l2 : K.lookup f2 = some ⟨oc2, od2, .func (PySem.W.fnOf "_law_by_place" "_law_by_place" (defArgs sPlace) (defBody sPlace) (defScope sPlace) .none kV2 dc2 pm2 an2 cd2 ct2), sl2⟩) (c2 : PySem.W.codeIn K cd2 "_law_by_place" = true) (k2 : PySem.W.keepIn K (.ref f2) = true)
    {f3 : Addr} {oc3 kV3 dc3 pm3 cd3 ct3 : Value} {od3 an3 : Option Addr} {sl3 : Array (Option Value)} (a3 : PySem.W.nsIn K mainGlobals "_law_by_name" = some (some (.ref f3))) (l3 : K.lookup f3 = some ⟨oc3, od3, .func (PySem.W.fnOf "_law_by_name" "_law_by_name" (defArgs sName) (defBody sName) (defScope sName) .none kV3 dc3 pm3 an3 cd3 ct3), sl3⟩) (c3 : PySem.W.codeIn K cd3 "_law_by_name" = true) (k3 : PySem.W.keepIn K (.ref f3) = true)
    {f4 : Addr} {oc4 kV4 dc4 pm4 cd4 ct4 : Value} {od4 an4 : Option Addr} {sl4 : Array (Option Value)} (a4 : PySem.W.nsIn K mainGlobals "_law_fields" = some (some (.ref f4))) (l4 : K.lookup f4 = some ⟨oc4, od4, .func (PySem.W.fnOf "_law_fields" "_law_fields" (defArgs sFields) (defBody sFields) (defScope sFields) .none kV4 dc4 pm4 an4 cd4 ct4), sl4⟩) (c4 : PySem.W.codeIn K cd4 "_law_fields" = true) (k4 : PySem.W.keepIn K (.ref f4) = true)
    {f5 : Addr} {oc5 kV5 dc5 pm5 cd5 ct5 : Value} {od5 an5 : Option Addr} {sl5 : Array (Option Value)} (a5 : PySem.W.nsIn K mainGlobals "_law_right" = some (some (.ref f5))) (l5 : K.lookup f5 = some ⟨oc5, od5, .func (PySem.W.fnOf "_law_right" "_law_right" (defArgs sRight) (defBody sRight) (defScope sRight) .none kV5 dc5 pm5 an5 cd5 ct5), sl5⟩) (c5 : PySem.W.codeIn K cd5 "_law_right" = true) (k5 : PySem.W.keepIn K (.ref f5) = true)
    {f6 : Addr} {oc6 kV6 dc6 pm6 cd6 ct6 : Value} {od6 an6 : Option Addr} {sl6 : Array (Option Value)} (a6 : PySem.W.nsIn K mainGlobals "law" = some (some (.ref f6))) (l6 : K.lookup f6 = some ⟨oc6, od6, .func (PySem.W.fnOf "law" "law" (defArgs sLaw) (defBody sLaw) (defScope sLaw) .none kV6 dc6 pm6 an6 cd6 ct6), sl6⟩) (c6 : PySem.W.codeIn K cd6 "law" = true) (k6 : PySem.W.keepIn K (.ref f6) = true)
    : ∃ fd : FuncData, (∀ (s : Shared) (v : Value), BindsTo s fd ⟨[v], []⟩ [("_law_script", v)]) ∧ ∀ base : Heap, K.In base → base.Ns mainGlobals mg → FnOk l.prog w K mg base CX0 5 fa fd ["_law_script"] (spLaw K) := by
  have e := hfa.symm.trans (PySem.W.mg_of X G a6); cases e
  have hO : XO K mg CO := ⟨PySem.W.mg_of X G aO, sp, rd, fc⟩
  have hT : TR K mg CO := ⟨PySem.W.mg_none_of X G z1, PySem.W.mg_none_of X G z2, PySem.W.mg_none_of X G z3, PySem.W.mg_none_of X G z4, ⟨hn, ht⟩, clO, tyO, suO⟩
  let cA : Nat → Addr := fun i => [C0, C1, C2, C3, C4, C5, C6, C7, C8, C9, C10, C11, C12, C13, C14, C15, C16].getD i 0
  let cF : Nat → Addr := fun i => [F0, F1, F2, F3, F4, F5, F6, F7, F8, F9, F10, F11, F12, F13, F14, F15, F16].getD i 0
  let cG : Nat → FuncData := fun i => [G0, G1, G2, G3, G4, G5, G6, G7, G8, G9, G10, G11, G12, G13, G14, G15, G16].getD i G0
  have TT : ∀ i, i < 17 → XC K CO (cA i) := fun i hi => match i, hi with | 0, _ => D0.T | 1, _ => D1.T | 2, _ => D2.T | 3, _ => D3.T | 4, _ => D4.T | 5, _ => D5.T | 6, _ => D6.T | 7, _ => D7.T | 8, _ => D8.T | 9, _ => D9.T | 10, _ => D10.T | 11, _ => D11.T | 12, _ => D12.T | 13, _ => D13.T | 14, _ => D14.T | 15, _ => D15.T | 16, _ => D16.T | n + 17, h => absurd h (by omega)
  have ne : ∀ i, i < 17 → cA i ≠ CO := fun i hi => match i, hi with | 0, _ => D0.ne | 1, _ => D1.ne | 2, _ => D2.ne | 3, _ => D3.ne | 4, _ => D4.ne | 5, _ => D5.ne | 6, _ => D6.ne | 7, _ => D7.ne | 8, _ => D8.ne | 9, _ => D9.ne | 10, _ => D10.ne | 11, _ => D11.ne | 12, _ => D12.ne | 13, _ => D13.ne | 14, _ => D14.ne | 15, _ => D15.ne | 16, _ => D16.ne | n + 17, h => absurd h (by omega)
  have inj : ∀ a b, a < 17 → b < 17 → cA a = cA b → a = b := fun a b ha hb z => by
    have ea : ([C0, C1, C2, C3, C4, C5, C6, C7, C8, C9, C10, C11, C12, C13, C14, C15, C16] : List Addr)[a]? = some (cA a) := by { show _ = some ([C0, C1, C2, C3, C4, C5, C6, C7, C8, C9, C10, C11, C12, C13, C14, C15, C16].getD a 0); rw [List.getD_eq_getElem?_getD, List.getElem?_eq_getElem ha]; rfl }
    have eb : ([C0, C1, C2, C3, C4, C5, C6, C7, C8, C9, C10, C11, C12, C13, C14, C15, C16] : List Addr)[b]? = some (cA b) := by { show _ = some ([C0, C1, C2, C3, C4, C5, C6, C7, C8, C9, C10, C11, C12, C13, C14, C15, C16].getD b 0); rw [List.getD_eq_getElem?_getD, List.getElem?_eq_getElem hb]; rfl }
    rw [z] at ea; exact nd_ix nd ea eb
  have T0 := fun_mk (st := sDraw) l0 c0 k0
  have b0 := T0.binds (ps := ["_law_well", "_law_many"]) fun _ _ _ _ _ _ us hl => match us, hl with | [_, _], _ => rfl
  have T1 := fun_mk (st := sTaken) l1 c1 k1
  have b1 := T1.binds (ps := ["_law_e"]) fun _ _ _ _ _ _ us hl => match us, hl with | [_], _ => rfl
  have T2 := fun_mk (st := sPlace) l2 c2 k2
  have b2 := T2.binds (ps := ["_law_x"]) fun _ _ _ _ _ _ us hl => match us, hl with | [_], _ => rfl
  have T3 := fun_mk (st := sName) l3 c3 k3
  have b3 := T3.binds (ps := ["_law_x"]) fun _ _ _ _ _ _ us hl => match us, hl with | [_], _ => rfl
  have T4 := fun_mk (st := sFields) l4 c4 k4
  have b4 := T4.binds (ps := ["_law_some"]) fun _ _ _ _ _ _ us hl => match us, hl with | [_], _ => rfl
  have T5 := fun_mk (st := sRight) l5 c5 k5
  have b5 := T5.binds (ps := ["_law_well"]) fun _ _ _ _ _ _ us hl => match us, hl with | [_], _ => rfl
  have T6 := fun_mk (st := sLaw) l6 c6 k6
  refine ⟨PySem.W.fnOf "law" "law" (defArgs sLaw) (defBody sLaw) (defScope sLaw) .none kV6 dc6 pm6 an6 cd6 ct6, fun s v => .of_eq rfl, fun base _ _ => ?_⟩
  have E0 : Cl l.prog w K mg base CO "NoLibrary" ["number", "part", "index"] ["index", "part", "number"] 3 (cA 0) (cF 0) (cG 0) := cl0 hO D0
  have E1 : Cl l.prog w K mg base CO "NoClient" ["number", "part", "index"] ["index", "part", "number"] 3 (cA 1) (cF 1) (cG 1) := cl1 hO D1
  have E2 : Cl l.prog w K mg base CO "NoBody" ["where", "at"] ["at", "where"] 2 (cA 2) (cF 2) (cG 2) := cl2 hO D2
  have E3 : Cl l.prog w K mg base CO "NoClass" ["name"] ["name"] 1 (cA 3) (cF 3) (cG 3) := cl3 hO D3
  have E4 : Cl l.prog w K mg base CO "NoMember" ["name"] ["name"] 1 (cA 4) (cF 4) (cG 4) := cl4 hO D4
  have E5 : Cl l.prog w K mg base CO "NoTables" ["index"] ["index"] 1 (cA 5) (cF 5) (cG 5) := cl5 hO D5
  have E6 : Cl l.prog w K mg base CO "NoFields" ["index"] ["index"] 1 (cA 6) (cF 6) (cG 6) := cl6 hO D6
  have E7 : Cl l.prog w K mg base CO "NoRoom" ["size"] ["size"] 1 (cA 7) (cF 7) (cG 7) := cl7 hO D7
  have E8 : Cl l.prog w K mg base CO "Lacks" ["need"] ["need"] 1 (cA 8) (cF 8) (cG 8) := cl8 hO D8
  have E9 : Cl l.prog w K mg base CO "NoText" ["at"] ["at"] 1 (cA 9) (cF 9) (cG 9) := cl9 hO D9
  have E10 : Cl l.prog w K mg base CO "NoVersions" ["index"] ["index"] 1 (cA 10) (cF 10) (cG 10) := cl10 hO D10
  have E11 : Cl l.prog w K mg base CO "NoVersion" ["number"] ["number"] 1 (cA 11) (cF 11) (cG 11) := cl11 hO D11
  have E12 : Cl l.prog w K mg base CO "NoPlace" ["place"] ["place"] 1 (cA 12) (cF 12) (cG 12) := cl12 hO D12
  have E13 : Cl l.prog w K mg base CO "NoReference" ["place"] ["place"] 1 (cA 13) (cF 13) (cG 13) := cl13 hO D13
  have E14 : Cl l.prog w K mg base CO "NoNeed" ["need"] ["need"] 1 (cA 14) (cF 14) (cG 14) := cl14 hO D14
  have E15 : Cl l.prog w K mg base CO "NoNumber" ["number"] ["number"] 1 (cA 15) (cF 15) (cG 15) := cl15 hO D15
  have E16 : Cl l.prog w K mg base CO "NoPace" ["pace"] ["pace"] 1 (cA 16) (cF 16) (cG 16) := cl16 hO D16
  have R0 : FnOk l.prog w K mg base CX0 1 f0 _ ["_law_well", "_law_many"] spDraw := okDraw T0 (PySem.W.mg_none_of X G z5)
  have R1 : FnOk l.prog w K mg base CX0 1 f1 _ ["_law_e"] (spTaken cA) := okTaken (c := cA) (fI := cF) (fd := cG) T1 hT.ins hT.xg TT E0 E1 E2 E3 E4 E5 E6 E7 E8 E9 E10 E11 E12 E13 E14 E15 E16
  have R2 : FnOk l.prog w K mg base CX0 3 f2 _ ["_law_x"] (spMake cA) := okPlace (c := cA) (fI := cF) (fd := cG) T2 E0 E1 E2 E3 E4 E5 E6 E7 E8 E9 E10 E11 E12 E13 E14 E15 E16
  have R3 : FnOk l.prog w K mg base CX0 3 f3 _ ["_law_x"] (spMake cA) := okName (c := cA) (fI := cF) (fd := cG) T3 E0 E1 E2 E3 E4 E5 E6 E7 E8 E9 E10 E11 E12 E13 E14 E15 E16
  have R4 : FnOk l.prog w K mg base CX0 1 f4 _ ["_law_some"] (spFields cA) := okFields (c := cA) (fI := cF) (fd := cG) T4 E0 E1 E2 E3 E4 E5 E6 E7 E8 E9 E10 E11 E12 E13 E14 E15 E16
  have R5 : FnOk l.prog w K mg base CX0 4 f5 _ ["_law_well"] spRight := okRight (c := cA) T5 hT hO.mg TT ne inj D0.no D1.no D2.no R0 (PySem.W.mg_of X G a0) k0 b0 R2 (PySem.W.mg_of X G a2) k2 b2 R3 (PySem.W.mg_of X G a3) k3 b3 R4 (PySem.W.mg_of X G a4) k4 b4 R1 (PySem.W.mg_of X G a1) k1 b1
  exact okLaw T6 (PySem.W.mg_none_of X G z5) hT.enu R5 (PySem.W.mg_of X G a5) k5 b5
theorem walk {l : PySem.W.OpenLaw} {q : Program} {loose : List Str} {XP : (Str → Option Value) → Heap → Prop} {YP : World → Heap → Prop} {d : DefRec} {K : Params → PySem.W.Frag} (hn : l.most = some 63) (hdf : d.params.defaults = [])
    (hY : ∀ (w : World) (h : Heap), YP w h → (K w.params).In h)
    (F : ∀ (w : World) (mg : Str → Option Value) (fa : Addr) (h : Heap), (K w.params).In h → h.Ns mainGlobals mg → mg d.name = some (.ref fa) →
      ∃ fd : FuncData, (∀ (s : Shared) (u : Value), BindsTo s fd ⟨[u], []⟩ [("_law_script", u)]) ∧ ∀ base : Heap, (K w.params).In base → base.Ns mainGlobals mg → FnOk l.prog w (K w.params) mg base CX0 5 fa fd ["_law_script"] (spLaw (K w.params))) :
    PySem.W.WalkO q loose XP YP l.row.toRowW d [] (fun f vs => PySem.call f vs) :=
  L2.walk_of (n := 63) (k := 5) (x := "_law_script") (CX := fun _ => CX0) (sp := fun w => spLaw (K w.params)) hn (by decide) hdf ⟨rfl, by decide, by decide⟩ hY F (fun _ _ a ns hl _ hS => ⟨a, ns, rfl, hS, hl, fun _ => rfl⟩) fun _ _ _ _ _ z => z
end K20


open PySem PySem.W PyProof.Rows in
set_option maxRecDepth 100000 in
set_option maxHeartbeats 0 in
theorem PySem.Challenge.cw_oldclients_k20_exceptions_holds : PySem.Challenge.rw_oldclients_k20_exceptions.Holds := by
  w_on; o_law; k_head; (case hw => w_witness2)
  k_fill
  refine K20.walk (l := PySem.Challenge.rw_oldclients_k20_exceptions) rfl rfl (fun w h Y => PySem.W.kIn_of Y) ?F
  case F =>
    intro w mg fa h KX G hmg
    refine' K20.all_mk KX G hmg ?aO ?sp ?rd ?fc ?clO ?tyO ?suO ?hn ?ht ?z1 ?z2 ?z3 ?z4 ?z5
      (K20.clk (nm := "NoLibrary") (qual := "NoLibrary.__init__") (st := K20.sI0) (fs := ["number", "part", "index"]) KX G ?aC0 ?lC0 ?sa0 ?ga0 ?gg0 ?ca0 ?ty0 ?kp0 ?iC0 ?tI0 ?lf0 ?cd0 ?kf0 ⟨?n0_0, ?n0_1, ?n0_2, trivial⟩ ?ne0)
      (K20.clk (nm := "NoClient") (qual := "NoClient.__init__") (st := K20.sI1) (fs := ["number", "part", "index"]) KX G ?aC1 ?lC1 ?sa1 ?ga1 ?gg1 ?ca1 ?ty1 ?kp1 ?iC1 ?tI1 ?lf1 ?cd1 ?kf1 ⟨?n1_0, ?n1_1, ?n1_2, trivial⟩ ?ne1)
      (K20.clk (nm := "NoBody") (qual := "NoBody.__init__") (st := K20.sI2) (fs := ["where", "at"]) KX G ?aC2 ?lC2 ?sa2 ?ga2 ?gg2 ?ca2 ?ty2 ?kp2 ?iC2 ?tI2 ?lf2 ?cd2 ?kf2 ⟨?n2_0, ?n2_1, trivial⟩ ?ne2)
      (K20.clk (nm := "NoClass") (qual := "NoClass.__init__") (st := K20.sI3) (fs := ["name"]) KX G ?aC3 ?lC3 ?sa3 ?ga3 ?gg3 ?ca3 ?ty3 ?kp3 ?iC3 ?tI3 ?lf3 ?cd3 ?kf3 ⟨?n3_0, trivial⟩ ?ne3)
      (K20.clk (nm := "NoMember") (qual := "NoMember.__init__") (st := K20.sI4) (fs := ["name"]) KX G ?aC4 ?lC4 ?sa4 ?ga4 ?gg4 ?ca4 ?ty4 ?kp4 ?iC4 ?tI4 ?lf4 ?cd4 ?kf4 ⟨?n4_0, trivial⟩ ?ne4)
      (K20.clk (nm := "NoTables") (qual := "NoTables.__init__") (st := K20.sI5) (fs := ["index"]) KX G ?aC5 ?lC5 ?sa5 ?ga5 ?gg5 ?ca5 ?ty5 ?kp5 ?iC5 ?tI5 ?lf5 ?cd5 ?kf5 ⟨?n5_0, trivial⟩ ?ne5)
      (K20.clk (nm := "NoFields") (qual := "NoFields.__init__") (st := K20.sI6) (fs := ["index"]) KX G ?aC6 ?lC6 ?sa6 ?ga6 ?gg6 ?ca6 ?ty6 ?kp6 ?iC6 ?tI6 ?lf6 ?cd6 ?kf6 ⟨?n6_0, trivial⟩ ?ne6)
      (K20.clk (nm := "NoRoom") (qual := "NoRoom.__init__") (st := K20.sI7) (fs := ["size"]) KX G ?aC7 ?lC7 ?sa7 ?ga7 ?gg7 ?ca7 ?ty7 ?kp7 ?iC7 ?tI7 ?lf7 ?cd7 ?kf7 ⟨?n7_0, trivial⟩ ?ne7)
      (K20.clk (nm := "Lacks") (qual := "Lacks.__init__") (st := K20.sI8) (fs := ["need"]) KX G ?aC8 ?lC8 ?sa8 ?ga8 ?gg8 ?ca8 ?ty8 ?kp8 ?iC8 ?tI8 ?lf8 ?cd8 ?kf8 ⟨?n8_0, trivial⟩ ?ne8)
      (K20.clk (nm := "NoText") (qual := "NoText.__init__") (st := K20.sI9) (fs := ["at"]) KX G ?aC9 ?lC9 ?sa9 ?ga9 ?gg9 ?ca9 ?ty9 ?kp9 ?iC9 ?tI9 ?lf9 ?cd9 ?kf9 ⟨?n9_0, trivial⟩ ?ne9)
      (K20.clk (nm := "NoVersions") (qual := "NoVersions.__init__") (st := K20.sI10) (fs := ["index"]) KX G ?aC10 ?lC10 ?sa10 ?ga10 ?gg10 ?ca10 ?ty10 ?kp10 ?iC10 ?tI10 ?lf10 ?cd10 ?kf10 ⟨?n10_0, trivial⟩ ?ne10)
      (K20.clk (nm := "NoVersion") (qual := "NoVersion.__init__") (st := K20.sI11) (fs := ["number"]) KX G ?aC11 ?lC11 ?sa11 ?ga11 ?gg11 ?ca11 ?ty11 ?kp11 ?iC11 ?tI11 ?lf11 ?cd11 ?kf11 ⟨?n11_0, trivial⟩ ?ne11)
      (K20.clk (nm := "NoPlace") (qual := "NoPlace.__init__") (st := K20.sI12) (fs := ["place"]) KX G ?aC12 ?lC12 ?sa12 ?ga12 ?gg12 ?ca12 ?ty12 ?kp12 ?iC12 ?tI12 ?lf12 ?cd12 ?kf12 ⟨?n12_0, trivial⟩ ?ne12)
      (K20.clk (nm := "NoReference") (qual := "NoReference.__init__") (st := K20.sI13) (fs := ["place"]) KX G ?aC13 ?lC13 ?sa13 ?ga13 ?gg13 ?ca13 ?ty13 ?kp13 ?iC13 ?tI13 ?lf13 ?cd13 ?kf13 ⟨?n13_0, trivial⟩ ?ne13)
      (K20.clk (nm := "NoNeed") (qual := "NoNeed.__init__") (st := K20.sI14) (fs := ["need"]) KX G ?aC14 ?lC14 ?sa14 ?ga14 ?gg14 ?ca14 ?ty14 ?kp14 ?iC14 ?tI14 ?lf14 ?cd14 ?kf14 ⟨?n14_0, trivial⟩ ?ne14)
      (K20.clk (nm := "NoNumber") (qual := "NoNumber.__init__") (st := K20.sI15) (fs := ["number"]) KX G ?aC15 ?lC15 ?sa15 ?ga15 ?gg15 ?ca15 ?ty15 ?kp15 ?iC15 ?tI15 ?lf15 ?cd15 ?kf15 ⟨?n15_0, trivial⟩ ?ne15)
      (K20.clk (nm := "NoPace") (qual := "NoPace.__init__") (st := K20.sI16) (fs := ["pace"]) KX G ?aC16 ?lC16 ?sa16 ?ga16 ?gg16 ?ca16 ?ty16 ?kp16 ?iC16 ?tI16 ?lf16 ?cd16 ?kf16 ⟨?n16_0, trivial⟩ ?ne16) ?nd ?a0 ?l0 ?c0 ?k0 ?a1 ?l1 ?c1 ?k1 ?a2 ?l2 ?c2 ?k2 ?a3 ?l3 ?c3 ?k3 ?a4 ?l4 ?c4 ?k4 ?a5 ?l5 ?c5 ?k5 ?a6 ?l6 ?c6 ?k6
    (case aO => k_is)
    (case sp => k_is)
    (case rd => k_is)
    (case fc => k_is)
    (case clO => k_is)
    (case tyO => k_is)
    (case suO => k_is)
    (case hn => k_is)
    (case ht => k_is)
    (case z1 => k_is)
    (case z2 => k_is)
    (case z3 => k_is)
    (case z4 => k_is)
    (case z5 => k_is)
    (case aC0 => k_is); (case lC0 => k_is); (case sa0 => k_is); (case ga0 => k_is); (case gg0 => k_is); (case ca0 => k_is); (case ty0 => k_is); (case kp0 => k_is); (case iC0 => k_is); (case tI0 => k_is); (case lf0 => k_is); (case cd0 => k_is); (case kf0 => k_is); (case n0_0 => k_is); (case n0_1 => k_is); (case n0_2 => k_is); (case ne0 => decide)
    (case aC1 => k_is); (case lC1 => k_is); (case sa1 => k_is); (case ga1 => k_is); (case gg1 => k_is); (case ca1 => k_is); (case ty1 => k_is); (case kp1 => k_is); (case iC1 => k_is); (case tI1 => k_is); (case lf1 => k_is); (case cd1 => k_is); (case kf1 => k_is); (case n1_0 => k_is); (case n1_1 => k_is); (case n1_2 => k_is); (case ne1 => decide)
    (case aC2 => k_is); (case lC2 => k_is); (case sa2 => k_is); (case ga2 => k_is); (case gg2 => k_is); (case ca2 => k_is); (case ty2 => k_is); (case kp2 => k_is); (case iC2 => k_is); (case tI2 => k_is); (case lf2 => k_is); (case cd2 => k_is); (case kf2 => k_is); (case n2_0 => k_is); (case n2_1 => k_is); (case ne2 => decide)
    (case aC3 => k_is); (case lC3 => k_is); (case sa3 => k_is); (case ga3 => k_is); (case gg3 => k_is); (case ca3 => k_is); (case ty3 => k_is); (case kp3 => k_is); (case iC3 => k_is); (case tI3 => k_is); (case lf3 => k_is); (case cd3 => k_is); (case kf3 => k_is); (case n3_0 => k_is); (case ne3 => decide)
    (case aC4 => k_is); (case lC4 => k_is); (case sa4 => k_is); (case ga4 => k_is); (case gg4 => k_is); (case ca4 => k_is); (case ty4 => k_is); (case kp4 => k_is); (case iC4 => k_is); (case tI4 => k_is); (case lf4 => k_is); (case cd4 => k_is); (case kf4 => k_is); (case n4_0 => k_is); (case ne4 => decide)
    (case aC5 => k_is); (case lC5 => k_is); (case sa5 => k_is); (case ga5 => k_is); (case gg5 => k_is); (case ca5 => k_is); (case ty5 => k_is); (case kp5 => k_is); (case iC5 => k_is); (case tI5 => k_is); (case lf5 => k_is); (case cd5 => k_is); (case kf5 => k_is); (case n5_0 => k_is); (case ne5 => decide)
    (case aC6 => k_is); (case lC6 => k_is); (case sa6 => k_is); (case ga6 => k_is); (case gg6 => k_is); (case ca6 => k_is); (case ty6 => k_is); (case kp6 => k_is); (case iC6 => k_is); (case tI6 => k_is); (case lf6 => k_is); (case cd6 => k_is); (case kf6 => k_is); (case n6_0 => k_is); (case ne6 => decide)
    (case aC7 => k_is); (case lC7 => k_is); (case sa7 => k_is); (case ga7 => k_is); (case gg7 => k_is); (case ca7 => k_is); (case ty7 => k_is); (case kp7 => k_is); (case iC7 => k_is); (case tI7 => k_is); (case lf7 => k_is); (case cd7 => k_is); (case kf7 => k_is); (case n7_0 => k_is); (case ne7 => decide)
    (case aC8 => k_is); (case lC8 => k_is); (case sa8 => k_is); (case ga8 => k_is); (case gg8 => k_is); (case ca8 => k_is); (case ty8 => k_is); (case kp8 => k_is); (case iC8 => k_is); (case tI8 => k_is); (case lf8 => k_is); (case cd8 => k_is); (case kf8 => k_is); (case n8_0 => k_is); (case ne8 => decide)
    (case aC9 => k_is); (case lC9 => k_is); (case sa9 => k_is); (case ga9 => k_is); (case gg9 => k_is); (case ca9 => k_is); (case ty9 => k_is); (case kp9 => k_is); (case iC9 => k_is); (case tI9 => k_is); (case lf9 => k_is); (case cd9 => k_is); (case kf9 => k_is); (case n9_0 => k_is); (case ne9 => decide)
    (case aC10 => k_is); (case lC10 => k_is); (case sa10 => k_is); (case ga10 => k_is); (case gg10 => k_is); (case ca10 => k_is); (case ty10 => k_is); (case kp10 => k_is); (case iC10 => k_is); (case tI10 => k_is); (case lf10 => k_is); (case cd10 => k_is); (case kf10 => k_is); (case n10_0 => k_is); (case ne10 => decide)
    (case aC11 => k_is); (case lC11 => k_is); (case sa11 => k_is); (case ga11 => k_is); (case gg11 => k_is); (case ca11 => k_is); (case ty11 => k_is); (case kp11 => k_is); (case iC11 => k_is); (case tI11 => k_is); (case lf11 => k_is); (case cd11 => k_is); (case kf11 => k_is); (case n11_0 => k_is); (case ne11 => decide)
    (case aC12 => k_is); (case lC12 => k_is); (case sa12 => k_is); (case ga12 => k_is); (case gg12 => k_is); (case ca12 => k_is); (case ty12 => k_is); (case kp12 => k_is); (case iC12 => k_is); (case tI12 => k_is); (case lf12 => k_is); (case cd12 => k_is); (case kf12 => k_is); (case n12_0 => k_is); (case ne12 => decide)
    (case aC13 => k_is); (case lC13 => k_is); (case sa13 => k_is); (case ga13 => k_is); (case gg13 => k_is); (case ca13 => k_is); (case ty13 => k_is); (case kp13 => k_is); (case iC13 => k_is); (case tI13 => k_is); (case lf13 => k_is); (case cd13 => k_is); (case kf13 => k_is); (case n13_0 => k_is); (case ne13 => decide)
    (case aC14 => k_is); (case lC14 => k_is); (case sa14 => k_is); (case ga14 => k_is); (case gg14 => k_is); (case ca14 => k_is); (case ty14 => k_is); (case kp14 => k_is); (case iC14 => k_is); (case tI14 => k_is); (case lf14 => k_is); (case cd14 => k_is); (case kf14 => k_is); (case n14_0 => k_is); (case ne14 => decide)
    (case aC15 => k_is); (case lC15 => k_is); (case sa15 => k_is); (case ga15 => k_is); (case gg15 => k_is); (case ca15 => k_is); (case ty15 => k_is); (case kp15 => k_is); (case iC15 => k_is); (case tI15 => k_is); (case lf15 => k_is); (case cd15 => k_is); (case kf15 => k_is); (case n15_0 => k_is); (case ne15 => decide)
    (case aC16 => k_is); (case lC16 => k_is); (case sa16 => k_is); (case ga16 => k_is); (case gg16 => k_is); (case ca16 => k_is); (case ty16 => k_is); (case kp16 => k_is); (case iC16 => k_is); (case tI16 => k_is); (case lf16 => k_is); (case cd16 => k_is); (case kf16 => k_is); (case n16_0 => k_is); (case ne16 => decide)
    (case nd => decide)
    (case a0 => k_is); (case l0 => k_is); (case c0 => k_is); (case k0 => k_is)
    (case a1 => k_is); (case l1 => k_is); (case c1 => k_is); (case k1 => k_is)
    (case a2 => k_is); (case l2 => k_is); (case c2 => k_is); (case k2 => k_is)
    (case a3 => k_is); (case l3 => k_is); (case c3 => k_is); (case k3 => k_is)
    (case a4 => k_is); (case l4 => k_is); (case c4 => k_is); (case k4 => k_is)
    (case a5 => k_is); (case l5 => k_is); (case c5 => k_is); (case k5 => k_is)
    (case a6 => k_is); (case l6 => k_is); (case c6 => k_is); (case k6 => k_is)


