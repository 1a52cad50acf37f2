import PyProof.Rows.All
import Wide.All
import OpenK.AllK
import Wide.FinOn
import KE.KIsAll
import KE.KTryMore
import KE.KExcIs
import HandS.ForMost
import HandS.ForExc
import HandS.ExcInit
import HandS.ExcIs
import HandS.IsInst
import HandS.Defaults
import HandS.MakeKw
import HandS.MakeKwOnly
import HandS.ExcValue
import HandS.ExcBuiltin
import HandS.Walk
import HandS.Flow
import HandS.OwnEq
import HandS.Style
import PySem.Challenge.RW_oldclients_k01_declared_things
set_option Elab.async false
set_option linter.all false
set_option maxRecDepth 100000
set_option maxHeartbeats 4000000
/-! OcExcA: own exception classes made by position and by keyword, as values. -/
namespace OC
open PySem PySem.W PySem.HandSPX
section
variable {M : Model} {A : Around} {E : Value → Shared → Prop} {h : Heap} {g : Array GenState} {d : Drawn} {t : Nat} {os : OsState}
variable {nm q : Str} {C N : Addr} {bs bm bmB : List Value} {hdct : Bool} {sn : List Str} {sub : List Value} {ab : Bool} {col : Option Bool} {dd : Option Addr} {k0 k1 k2 k3 k5 : Option Value} {B newId initId : String}
/-- the call of the built-in maker, keywords too -/
theorem chkNewKw (F : ExcBaseFacts B newId initId bmB) (hT : ∀ X : String, bm.contains (.type X) = bmB.contains (.type X)) {rest : List Value} {kw : List (Str × Value)} {Q : Unit → Shared → Prop}
    (hC : h.get? C = some (excClassObj nm q C N bs bm hdct sn sub ab col dd k0 k1 k2 k3 k5 newId)) (hq : Q () ⟨h, g, d, t, os⟩) : wpAny M A (checkBuiltinCall newId ⟨.ref C :: rest, kw⟩) Q E ⟨h, g, d, t, os⟩ := by
  have hB : (Value.ref C :: bm).contains (.type B) = true := by { rw [List.contains_cons, hT, F.hasB, Bool.or_true] }
  have hS := F.noStar
  simp only [checkBuiltinCall, F.newKind, F.newSplit, F.newRow]
  repeat (first | refine wpAny_loadPart_at hC ?_ | (refine wpAny_isSubtype_exc hC ?_; rw [hB]) | refine wpAny_staticBase_exc hC ?_ | refine wpAny_madeBy_exc hC ?_ | (simp only [bne_self_eq_false, Bool.false_eq_true, if_false]) | wp_step)
  exact hq
theorem chkCallKw {rest : List Value} {kw : List (Str × Value)} {Q : Unit → Shared → Prop} (hC : h.get? C = some (excClassObj nm q C N bs bm hdct sn sub ab col dd k0 k1 k2 k3 k5 newId))
    (hq : Q () ⟨h, g, d, t, os⟩) : wpAny M A (checkBuiltinCall "type.__call__" ⟨.ref C :: rest, kw⟩) Q E ⟨h, g, d, t, os⟩ := by
  have hS := tc_sub
  have hT : (⟨h, g, d, t, os⟩ : Shared).TypeIs (.ref C) "type" := ⟨_, hC, by rfl⟩
  simp only [checkBuiltinCall, tc_kind, tc_split]
  repeat (any_goals (first | assumption | (with_reducible refine wpAny_loadPart_at hC ?_) | (with_reducible refine wpAny_onRaise ?_) | (with_reducible refine wpAny_map ?_) | wp_step))
end
section
variable {prog : Program} {w : World} {A : Around} {E : Value → Shared → Prop} {R : Result → Shared → Prop} {h : Heap} {g : Array GenState} {d : Drawn} {t : Nat} {os : OsState}
variable {nm q : Str} {C N : Addr} {bs bm bmB : List Value} {hdct : Bool} {sn : List Str} {sub : List Value} {ab : Bool} {col : Option Bool} {dd : Option Addr} {k0 k1 k2 k3 k5 : Option Value} {B newId initId : String}
theorem newKw (F : ExcBaseFacts B newId initId bmB) (hT : ∀ X : String, bm.contains (.type X) = bmB.contains (.type X)) {rest : List Value} {kw : List (Str × Value)}
    (hC : h.get? C = some (excClassObj nm q C N bs bm hdct sn sub ab col dd k0 k1 k2 k3 k5 newId))
    (hq : R (.ok (.ret (.ref (h.objs.size + 1)))) ⟨(h.push (kdv_tup rest)).push (excO C h.objs.size), g, d, t, os⟩) (hrest : rest.length ≤ sizeLine) :
    codeAny (model prog w) A (.builtin newId ⟨.ref C :: rest, kw⟩) R ⟨h, g, d, t, os⟩ := by
  have hE := F.ends
  have hB : (Value.ref C :: bm).contains (.type B) = true := by { rw [List.contains_cons, hT, F.hasB, Bool.or_true] }
  have hA : (Value.ref C :: bm).contains (.type "AttributeError") = false := by { rw [List.contains_cons, hT, F.noAttr]; rfl }
  have hN : (Value.ref C :: bm).contains (.type "NameError") = false := by { rw [List.contains_cons, hT, F.noName]; rfl }
  refine codeAny_builtinAt F.entry ?_
  unfold Builtin.«BaseException.__new__»; refine PySem.wpAt_bind ?_
  show PySem.wpAt _ _ _ (stack >>= _) _ _ _
  refine PySem.wpAt_bind (wpAt_stack fun p below => wpAt_of_wpAny ?_); wp_walk
  refine wpAt_of_wpAny ?_; rw [F.owner]
  repeat (first | (with_reducible refine wpAny_madeHere_exc F.canon hC ?_) | (with_reducible refine wpAny_loadPart_at hC ?_) | ((with_reducible refine wpAny_isSubtype_exc hC ?_); first | rw [hB] | rw [hA] | rw [hN]) | wp_step)
  show R _ _; rw [Heap.size_push]; exact hq
theorem typeCallKw (F : ExcBaseFacts B newId initId bmB) (hT : ∀ X : String, bm.contains (.type X) = bmB.contains (.type X)) {rest : List Value} {kw : List (Str × Value)} {fI : Addr} {Q : Fin → Shared → Prop}
    (hC : h.get? C = some (excClassObj nm q C N bs bm hdct sn sub ab col dd k0 k1 k2 k3 k5 newId))
    (hi : Looks (model prog w) h (typeLookup (.ref C) "__init__") (some (.ref fI))) (hb : ∀ self, Looks (model prog w) h (bindSpecial (.ref fI) self) (.ref fI, [self])) (hrest : rest.length ≤ sizeLine)
    (hq : codeAny (model prog w) A (.call (.ref fI) ⟨.ref (h.objs.size + 1) :: rest, kw⟩)
      (fun r s' => match r with | .ok (.ret v) => v = .none ∧ Q (.done (.ret (.ref (h.objs.size + 1)))) s' | .ok _ => False | .error e => E e s')
      ⟨(h.push (kdv_tup rest)).push (excO C h.objs.size), g, d, t, os⟩) :
    wpAny (model prog w) A (Builtin.«type.__call__» ⟨.ref C :: rest, kw⟩) Q E ⟨h, g, d, t, os⟩ := by
  repeat (first | (with_reducible refine wpAny_loadPart_at hC ?_) | (with_reducible refine wpAny_madeBy_exc hC ?_) | wp_step)
  refine codeAny_call_builtin_code (Code.quiet_builtin _ F.quiet) (chkNewKw F hT hC ?_)
  refine newKw F hT hC ?_ hrest
  show wpAny _ _ _ _ _ _
  have k : ∀ b o, h.get? b = some o → ((h.push (kdv_tup rest)).push (excO C h.objs.size)).get? b = some o := fun b o z => Heap.get?_push_of_some _ (Heap.get?_push_of_some _ z)
  have hC1 := k _ _ hC
  have hget : ((h.push (kdv_tup rest)).push (excO C h.objs.size)).get? (h.objs.size + 1) = some (excO C h.objs.size) := by { heap_get }
  have hcC : (Value.ref C :: bm).contains (.ref C) = true := by { simp }
  have i1 := hi.keeps k
  have b1 := (hb (.ref (h.objs.size + 1))).keeps k
  unfold isInstance
  repeat (first | (with_reducible refine wpAny_loadPart_at hget ?_) | ((with_reducible refine wpAny_isSubtype_exc hC1 ?_); rw [hcC]) | wp_step)
  show wpAny _ _ (typeLookup (.ref C) _) _ _ _
  refine i1.at ?_; refine wpAny_holding (wpAny_bind (b1.at ?_))
  refine wpAny_bind (wpAny_call (codeAny_mono hq fun r s' z => ?_))
  rcases r with e | (v | _ | _ | _) <;> first | exact z | exact z.elim | skip
  obtain ⟨rfl, z⟩ := z
  first | exact wpAny_pure (wpAny_pure z) | (wp_walk; exact z)
theorem callOwnKw (F : ExcBaseFacts B newId initId bmB) (hT : ∀ X : String, bm.contains (.type X) = bmB.contains (.type X)) {rest : List Value} {kw : List (Str × Value)} {fI : Addr}
    (hC : h.get? C = some (excClassObj nm q C N bs bm hdct sn sub ab col dd k0 k1 k2 k3 k5 newId))
    (hi : Looks (model prog w) h (typeLookup (.ref C) "__init__") (some (.ref fI))) (hb : ∀ self, Looks (model prog w) h (bindSpecial (.ref fI) self) (.ref fI, [self])) (hrest : rest.length ≤ sizeLine)
    (hq : codeAny (model prog w) (A.under (.builtin "type.__call__" ⟨.ref C :: rest, kw⟩)) (.call (.ref fI) ⟨.ref (h.objs.size + 1) :: rest, kw⟩) (InitBack (h.objs.size + 1) R)
      ⟨(h.push (kdv_tup rest)).push (excO C h.objs.size), g, d, t, os⟩) :
    codeAny (model prog w) A (.call (.ref C) ⟨rest, kw⟩) R ⟨h, g, d, t, os⟩ := by
  have f1 := tc_lookup
  have f2 := tc_bind (.ref C)
  have hTy : (⟨h, g, d, t, os⟩ : Shared).TypeIs (.ref C) "type" := ⟨_, hC, by rfl⟩
  refine codeAny_of_tree ?_
  show wpAny _ _ (callAny (.ref C) _) _ _ _
  repeat (any_goals (first | assumption | (with_reducible refine wpAny_loadPart_at hC ?_) | wp_step))
  refine ⟨rfl, ?_⟩
  refine codeAny_call_builtin_at (Code.quiet_builtin _ (by decide +kernel)) entry_typeCall (chkCallKw hC (typeCallKw F hT hC hi hb hrest ?_))
  refine codeAny_mono hq fun r s' z => ?_
  rcases r with e | (v | _ | _ | _) <;> exact z
end
end OC


set_option Elab.async false
set_option linter.all false
set_option maxRecDepth 100000
set_option maxHeartbeats 4000000
/-! OcExcB: rules of the layer for own exceptions as values: made, their fields read, isinstance. -/
namespace OC
open PySem L2
/-- an exception of the class at C with the fields fs (the last stored first) stands at a -/
def ExAt (H : Hp) (a C : Addr) (fs : List (Str × V)) : Prop := ∃ d, H a = some (exo a C (some d)) ∧ H d = some (exd d fs)
theorem ExAt.same {H H' : Hp} {a C : Addr} {fs : List (Str × V)} (h : ExAt H a C fs) (s : Same H H') : ExAt H' a C fs := by
  obtain ⟨d, h1, h2⟩ := h
  exact ⟨d, s _ _ h1, s _ _ h2⟩
/-- what the written part says of an own exception class, CO its base -/
structure XC (K : PySem.W.Frag) (CO C : Addr) : Prop where
  cls : ∃ nm q N bs sn sub ab col dd k0 k1 k2 k3 k5, K.lookup C = some (excClassObj nm q C N bs (.ref CO :: PySem.HandSPX.veTail) true sn sub ab col dd k0 k1 k2 k3 k5 "ValueError.__new__")
  sa : PySem.W.findIn K (.ref C) "__setattr__" = some (some (.builtin "object.__setattr__"))
  ga : PySem.W.findIn K (.ref C) "__getattribute__" = some (some (.builtin "BaseException.__getattribute__"))
  gg : PySem.W.findIn K (.ref C) "__getattr__" = some none
  ca : PySem.W.findIn K (.ref C) "__class__" = some (some (.builtin "object.__class__"))
  ty : PySem.W.typeIn K (.ref C) = some (.type "type")
  kp : PySem.W.keepIn K (.ref C) = true
/-- what it says of all -/
structure XG (K : PySem.W.Frag) : Prop where
  hn : PySem.W.specialIn K (.builtin "object.__class__") "__get__" = some (some (.builtin "getset_descriptor.__get__"))
  ht : PySem.W.takesIn K (.builtin "object.__class__") = some true
section
variable {K : PySem.W.Frag} {CO C : Addr}
theorem XC.cd (T : XC K CO C) : ∃ cd, PySem.W.clsIn K C = some cd ∧ cd.mro = .ref C :: .ref CO :: PySem.HandSPX.veTail ∧ cd.hasDict = true := by
  obtain ⟨nm, q, N, bs, sn, sub, ab, col, dd, k0, k1, k2, k3, k5, hC⟩ := T.cls
  exact ⟨_, (by unfold PySem.W.clsIn; rw [hC]), rfl, rfl⟩
theorem XC.mro (T : XC K CO C) (b : Value) : PySem.W.mroIn K C b = some ((Value.ref C :: .ref CO :: PySem.HandSPX.veTail).contains b) := by
  obtain ⟨cd, e1, e2, _⟩ := T.cd
  unfold PySem.W.mroIn; rw [e1, Option.bind_some, e2]; rfl
theorem XC.hd (T : XC K CO C) : PySem.W.hasDictIn K C = true := by
  obtain ⟨cd, e1, _, e3⟩ := T.cd
  unfold PySem.W.hasDictIn; rw [e1]; exact e3
theorem XC.ex (T : XC K CO C) : PySem.W.subIn K (.ref C) (.type "BaseException") = some true := by
  show PySem.W.mroIn K C _ = _
  rw [T.mro, List.contains_cons, List.contains_cons]; rfl
theorem XC.oex (T : XC K CO C) : OexC K C := by
  obtain ⟨nm, q, N, bs, sn, sub, ab, col, dd, k0, k1, k2, k3, k5, hC⟩ := T.cls
  exact ⟨⟨nm, q, N, bs, _, sn, sub, ab, col, dd, k0, k1, k2, k3, k5, hC, rfl⟩, T.sa, T.ex, T.ty, T.kp⟩
theorem XC.some (T : XC K CO C) : (PySem.W.clsIn K C).isSome = true := by
  obtain ⟨cd, e1, _⟩ := T.cd
  rw [e1]; rfl
/-- isinstance of an exception of the class C against such a class D -/
theorem XC.kit {D : Addr} (T : XC K CO C) (U : XC K CO D) (h0 : D ≠ CO) : PySem.W.kitOne K (.ref C) (.ref D) = Option.some (decide (C = D)) := by
  unfold PySem.W.kitOne
  by_cases e : C = D
  · subst e; rw [if_pos (by simp)]; simp
  · rw [if_neg (by simpa using e)]
    show (if ((PySem.W.clsIn K D).isSome && PySem.W.typeIn K (.ref D) == Option.some (.type "type")) = true then PySem.W.subIn K (.ref C) (.ref D) else none) = _
    rw [U.some, U.ty, if_pos (by rfl)]
    show PySem.W.mroIn K C _ = _
    rw [T.mro, List.contains_cons, List.contains_cons]
    have h1 : (Value.ref D == Value.ref C) = false := by simpa using fun z : D = C => e z.symm
    have h2 : (Value.ref D == Value.ref CO) = false := by simpa using h0
    rw [h1, h2, decide_eq_false e]; rfl
end
section
variable {X : Cx} {pins : List (Addr × Obj)} {σ : St} {H : Hp} {s : Shared} {a C CO : Addr} {fs : List (Str × V)}
theorem ExAt.inst (I : Inv X pins σ H s) (h : ExAt H a C fs) : ∃ (ox od : Obj) (mA : Str → Option Value), PySem.W.InstAt s.heap a ox C (some od) ∧ (∀ n, PySem.W.lookIn n od = some (mA n)) ∧ ∀ f, RelO (fs.lookup f) (mA f) := by
  obtain ⟨d, h1, h2⟩ := h
  obtain ⟨t1, ho⟩ := exo_at I.hok h1
  obtain ⟨mA, hns, rel⟩ := exd_at I.hok h2
  obtain ⟨od, hod, hl⟩ := lookIn_ns hns
  exact ⟨_, od, mA, ⟨ho, rfl, rfl, hod⟩, hl, rel⟩
end
/-- e.f of an exception -/
def tExf (K : PySem.W.Frag) (CO : Addr) (f : Str) (te : TE) : TE := fun σ H Q => te σ H fun x H1 => ∃ (a C : Addr) (fs : List (Str × V)) (v : V), x = .ref a ∧ XC K CO C ∧ PySem.W.findIn K (.ref C) f = some none ∧ ExAt H1 a C fs ∧ fs.lookup f = some v ∧ Q v H1
theorem pe_exf {X : Cx} {CO : Addr} {e : Expr} {te : TE} {f : Str} {pos : Pos} (he : PE X e te) (hb : attributeBase e f X.env (eval e X.env) = eval e X.env := by rfl) : PE X (.Attribute e f pos) (tExf X.K CO f te) := by
  refine ⟨fun pins s σ H Q I h => ?_⟩
  refine attr_of hb (thn (he.run pins s σ H _ I h) fun u s1 hh => ?_)
  obtain ⟨x, H1, I1, rx, a, C, fs, v, ex, T, hno, hE, hv, q⟩ := hh
  subst ex
  obtain rfl : u = Value.ref a := rx
  obtain ⟨ox, od, mA, J, hl, rel⟩ := hE.inst I1
  obtain ⟨z, hz, rz⟩ := RelO.some_of (v := v) (o := mA f) (by rw [← hv]; exact rel f)
  exact HandSPX.exc_get I1.kIn J T.ga T.gg T.ex (PySem.W.findObj_own T.hd hno rfl (by rw [hl, hz])) (handed_of rz) ⟨v, H1, I1.tok _, rz, q⟩
/-- isinstance(e, c) -/
def rIsX (K : PySem.W.Frag) (CO : Addr) : List V → Hp → VK → Prop := fun xs H Q => ∃ (a C : Addr) (fs : List (Str × V)) (c : V) (u : Value) (b : Bool), xs = [.ref a, c] ∧ ClsV c u ∧ XG K ∧ XC K CO C ∧ ExAt H a C fs ∧ PySem.W.kitOne K (.ref C) u = some b ∧ Q (.bl b) H
theorem call_isX {X : Cx} {CO : Addr} : CallR X (.builtin "isinstance") (rIsX X.K CO) := by
  intro pins s σ H xs us Q I r h
  obtain ⟨a, C, fs, c, u, b, rfl, k, G, T, hE, e, q⟩ := h
  obtain ⟨u1, u2, rfl, r1, r2⟩ := vals2 r
  have e2 := k.eq r2; subst e2
  obtain rfl : u1 = Value.ref a := r1
  obtain ⟨ox, od, mA, J, _, _⟩ := hE.inst I
  have hm : PySem.W.mroIn X.K C (.type "object") = some true := by { rw [T.mro, List.contains_cons, List.contains_cons]; rfl }
  exact PySem.W.kia_one (PySem.W.kitx_exc (ox := ox) (od := some od) T.some T.ga T.gg T.ex T.ca G.hn G.ht hm) I.kIn J e (fun z => nomatch z) fun tk => ⟨.bl b, H, I.tok tk, rfl, q⟩
/-- CO.__init__(self, ..) -/
theorem pe_coinit {X : Cx} {CO : Addr} {x : Str} {e : Expr} {es : List Expr} {ta : TA} {p1 p2 pos : Pos} {pl : Sem Bool} (hg : Gl X x) (hm : X.mg x = some (.ref CO)) (hs : PySem.W.specialIn X.K (.ref CO) "__getattribute__" = some (some (.builtin "type.__getattribute__")))
    (hr : PySem.W.readsIn X.K CO (.type "type") = true) (hf : PySem.W.findCls X.K (.ref CO) (.type "type") "__init__" = some (.val (.builtin "ValueError.__init__"))) (ha : PA X (e :: es) ta)
    (hc : eval (.Call (.Attribute (.Name x p1) "__init__" p2) (e :: es) [] pos) X.env = (do
      let ov ← eval (.Name x p1) X.env
      standAt p2.atName
      let (f, first) ← holding [ov] (getMethod ov "__init__" pl)
      callWith pos f first (backTo pos (starEach (e :: es) X.env)) (backToKw pos (keywordEach [] X.env))) := by rfl)
    (hd : (x == ("__debug__" : Str)) = false := by decide)
    (he : starEach (e :: es) X.env = (false, eval e X.env) :: starEach es X.env := by rfl) (hpl : (backTo pos (starEach es X.env)).any (·.1) = false := by rfl) :
    PE X (.Call (.Attribute (.Name x p1) "__init__" p2) (e :: es) [] pos) (tVeI X.K ta) := by
  refine ⟨fun pins s σ H Q I h => ?_⟩
  refine PySem.W.methodCall_KW (ld_glob I hg hm ?_ hd) hc
  obtain ⟨m, fr⟩ := I.fr
  refine PySem.W.method_of_cls fr I.ok.mod.kin hs (PySem.W.cls_value I.kIn hr hf (by decide +kernel) ?_)
  show wpAny _ _ (callWith pos (Value.builtin "ValueError.__init__") [] (backTo pos (starEach (e :: es) X.env)) []) _ _ _
  refine PyProof.Rows.callWith_method1 (thn (ha.run pos pins _ σ H _ (I.tok _) h) fun us s1 ⟨vs, H1, I1, r1, a, C, ws, ev, hl, T, ea, q⟩ => ?_) he hpl
  subst ev
  cases r1 with
  | @cons _ u0 _ ur ra rw' =>
    obtain rfl : u0 = Value.ref a := ra
    exact oinit_ok T I1 ea (by rw [← Paired.length rw', sizeLine_eq]; omega) fun s' J => ⟨.non, H1, J, rfl, q⟩
/-- C(e, .., k = v, ..) of an own exception class: its own __init__ keeps sp -/
def tMkX (C : Addr) (n m : Nat) (sp : Sp) (gV : List V → List V → List V) (ta tk : TA) : TE := fun σ H Q => ta σ H fun vs H1 => tk σ H1 fun zs H2 => vs.length = n ∧ zs.length = m ∧ vs.length ≤ 1000 ∧
  ∀ a, H2 a = none → sp (gV (.ref a :: vs) zs) (upd H2 a (exo a C none)) (fun v H3 => v = .non ∧ Q (.ref a) H3) E0
section
variable {X : Cx} {k n : Nat} {fI C CO : Addr} {fd : FuncData} {ps ks : List Str} {sp : Sp} {x : Str} {p pos : Pos} {e : Expr} {es : List Expr} {kws : List Keyword} {ta tk : TA} {g : List Value → List Value → List Value} {gV : List V → List V → List V}
theorem run_mkX {pins : List (Addr × Obj)} {σ : St} {H : Hp} {s : Shared} {Q : VK} {us ws : List Value} {vs zs : List V} (T : XC X.K CO C) (iC : PySem.W.findIn X.K (.ref C) "__init__" = some (some (.ref fI))) (tI : PySem.W.typeIn X.K (.ref fI) = some (.type "function"))
    (F1 : FnOk X.prog X.w X.K X.mg X.base CX0 k fI fd ps sp) (hr : Room (k + 1) X.A) (hb : KBn X.K fd ps (n + 1) ks g gV) (I : Inv X pins σ H s) (r : Vals vs us) (rz : Vals zs ws) (l1 : vs.length = n) (l2 : zs.length = ks.length) (l3 : vs.length ≤ 1000)
    (h : ∀ a, H a = none → sp (gV (.ref a :: vs) zs) (upd H a (exo a C none)) (fun v H3 => v = .non ∧ Q (.ref a) H3) E0) :
    wpAny (model X.prog X.w) X.A (call (.ref C) us (ks.zip ws)) (EP X pins σ Q) X.xe s := by
  obtain ⟨nm, q, N, bs, sn, sub, ab, col, dd, k0, k1, k2, k3, k5, hC⟩ := T.cls
  obtain ⟨hp, g0, dr, tk0, os⟩ := s
  have hsz : hp.objs.size ≤ hp.objs.size + 1 := Nat.le_succ _
  have hq := h (hp.objs.size + 1) (I.hok.fresh hsz)
  have kk : ∀ b o, hp.get? b = some o → ((hp.push (PySem.W.kdv_tup us)).push (PySem.HandSPX.excO C hp.objs.size)).get? b = some o := fun b o z => Heap.get?_push_of_some _ (Heap.get?_push_of_some _ z)
  have hget : ((hp.push (PySem.W.kdv_tup us)).push (PySem.HandSPX.excO C hp.objs.size)).get? (hp.objs.size + 1) = some (PySem.HandSPX.excO C hp.objs.size) := by { heap_get }
  have I2 : Inv X pins σ (upd H (hp.objs.size + 1) (exo (hp.objs.size + 1) C none)) ⟨(hp.push (PySem.W.kdv_tup us)).push (PySem.HandSPX.excO C hp.objs.size), g0, dr, tk0, os⟩ := I.laid (t' := tk0) kk hsz (exo_ok hget)
  have r1 : Vals (V.ref (hp.objs.size + 1) :: vs) (Value.ref (hp.objs.size + 1) :: us) := .cons rfl r
  have r2 := hb.rel r1 rz
  have n1 : (Value.ref (hp.objs.size + 1) :: us).length = n + 1 := by { rw [List.length_cons, ← r.length, l1] }
  refine wpAny_call (callOwnKw F.excBase_ValueError (fun Y => PySem.HandSPX.refsVE_contains Y _ rfl) (I.kIn _ _ hC) (PySem.W.looks_findIn I.kIn iC) (fun self => PySem.W.bind_fn I.kIn self tI) (by rw [← r.length, sizeLine_eq]; omega)
    (codeAny_mono (F1.run _ X.stack _ _ ⟨Value.ref (hp.objs.size + 1) :: us, ks.zip ws⟩ (g (Value.ref (hp.objs.size + 1) :: us) ws) _ _ E0 (hr.make C us (ks.zip ws)) (I2.env0.make C us (ks.zip ws)) (hb.to _ (Value.ref (hp.objs.size + 1) :: us) ws I2.kIn n1 (rz.length.symm.trans l2)) r2 hq) fun rr s' hq' => ?_))
  cases rr with
  | error er => exact (pass0 (X := X)) pins σ _ _ er s' I2 hq'
  | ok fl =>
    cases fl with
    | ret u =>
      obtain ⟨v, H', I3, rv, ev, q3⟩ := I2.after hq'
      subst ev
      exact ⟨rv, ⟨V.ref (hp.objs.size + 1), H', I3, rfl, q3⟩⟩
    | next => exact False.elim hq'
    | brk => exact False.elim hq'
    | cont => exact False.elim hq'
theorem pe_mkX (T : XC X.K CO C) (iC : PySem.W.findIn X.K (.ref C) "__init__" = some (some (.ref fI))) (tI : PySem.W.typeIn X.K (.ref fI) = some (.type "function")) (F1 : FnOk X.prog X.w X.K X.mg X.base CX0 k fI fd ps sp) (hr : Room (k + 1) X.A)
    (hb : KBn X.K fd ps (n + 1) [] g gV) (hg : Gl X x) (hm : X.mg x = some (.ref C)) (ha : PA X (e :: es) ta)
    (hdb : (x == ("__debug__" : Str)) = false := by decide) (he : starEach (e :: es) X.env = (false, eval e X.env) :: starEach es X.env := by rfl) (hpl : (backTo pos (starEach es X.env)).any (·.1) = false := by rfl) :
    PE X (.Call (.Name x p) (e :: es) [] pos) (tMkX C n 0 sp gV ta tNil) := by
  refine ⟨fun pins s σ H Q I h => ?_⟩
  refine wpAny_Call_Name_kw (ld_glob I hg hm ?_ hdb)
  refine PySem.W.callWith_K (h₀ := X.base) I.ok.mod.kin T.kp (thn (ha.run pos pins s σ H _ I h) fun us s1 ⟨vs, H1, I1, r1, l1, l2, l3, q1⟩ => ⟨I1.kIn, ?_⟩) he hpl
  exact run_mkX (ks := []) (ws := []) T iC tI F1 hr hb I1 r1 .nil l1 l2 l3 q1
theorem pe_mkXK (T : XC X.K CO C) (iC : PySem.W.findIn X.K (.ref C) "__init__" = some (some (.ref fI))) (tI : PySem.W.typeIn X.K (.ref fI) = some (.type "function")) (F1 : FnOk X.prog X.w X.K X.mg X.base CX0 k fI fd ps sp) (hr : Room (k + 1) X.A)
    (hb : KBn X.K fd ps 1 ks g gV) (hg : Gl X x) (hm : X.mg x = some (.ref C)) (hkw : PK X kws tk)
    (hall : (backToKw pos (keywordEach kws X.env)).all (·.1.isSome) = true := by rfl) (hks : (backToKw pos (keywordEach kws X.env)).filterMap (·.1) = ks := by rfl) (hdb : (x == ("__debug__" : Str)) = false := by decide)
    (hpl : ((backTo pos (starEach [] X.env)).any (·.1) || (backToKw pos (keywordEach kws X.env)).any (·.1.isNone)) = false := by rfl) :
    PE X (.Call (.Name x p) [] kws pos) (tMkX C 0 ks.length sp gV tNil tk) := by
  refine ⟨fun pins s σ H Q I h => ?_⟩
  refine wpAny_Call_Name_kw (ld_glob I hg hm ?_ hdb)
  refine PySem.W.callWith_KW0 (h₀ := X.base) I.ok.mod.kin T.kp hall ?_ hpl
  refine thn (hkw.run pos pins s σ H _ I h) fun ws s2 ⟨zs, H2, I2, rz, l1, l2, l3, q2⟩ => ⟨I2.kIn, ?_⟩
  rw [hks]; exact run_mkX (us := []) (vs := []) T iC tI F1 hr hb I2 .nil rz l1 l2 l3 q2
end
end OC


set_option Elab.async false
set_option linter.all false
set_option maxRecDepth 100000
set_option maxHeartbeats 4000000
/-! OcBase: list + list (also of the script), an exception of a built-in class as a value, what an expression evaluates to. -/
namespace OC
open PySem L2
/-- list + list, each readable -/
def rCatQ (K : PySem.W.Frag) : R2 := fun x y H Q => ∃ (l b : Addr) (xs zs : List V), x = .ref l ∧ y = .ref b ∧ SqL K H l xs ∧ SqL K H b zs ∧ xs.length + zs.length ≤ sizeLine ∧ ∀ p, H p = none → Q (.ref p) (upd H p (.lst (xs ++ zs)))
theorem op_catQ {X : Cx} : OpR X (binaryOp .Add) (rCatQ X.K) := by
  intro pins s σ H x y v u Q I rx ry h
  obtain ⟨l, b, xs, zs, rfl, rfl, hl, hb, hz, q⟩ := h
  cases rx; cases ry
  obtain ⟨its, r, ⟨⟨c1, d1, o1, s1⟩, n1, e1, hc1, _, hd1⟩, _⟩ := I.list hl
  obtain ⟨its2, r2, ⟨⟨c2, d2, o2, s2⟩, n2, e2, hc2, _, hd2⟩, _⟩ := I.list hb
  dsimp only at hc1 hd1 hc2 hd2
  subst hc1 hd1 hc2 hd2
  refine concat_meets ⟨_, e1, rfl⟩ ⟨_, e2, rfl⟩ noFill_list_add seq_list_add PySem.F.slot_list_add PySem.F.entry_list_add (PySem.F.args_list_add_2 _ _) (PyProof.Rows.list_addW l b its.toArray its2.toArray n1 n2 d1 d2 s1 s2 (by rw [List.size_toArray, List.size_toArray, ← r.length, ← r2.length]; exact hz)) ⟨e1, e2, ?_⟩
  have ea : its.toArray ++ its2.toArray = (its ++ its2).toArray := by { simp }
  rw [ea]; exact ⟨.ref _, _, I.lnew (t' := s.toks) (r.append r2) (by rw [List.length_append]; omega), rfl, q _ I.fresh⟩
/-- at a: an exception of the built-in class T -/
def exb (a : Addr) (T : String) : HO := .ext fun h => PySem.W.KitAt a T h
theorem exb_ok {P : Program} {w : World} {H : Hp} {h : Heap} {a : Addr} {T : String} (e : PySem.W.KitAt a T h) : ObjOk P w H h a (exb a T) :=
  ⟨e, (by obtain ⟨o, z, _⟩ := e; exact ⟨o, z⟩), fun h1 h2 z k => by obtain ⟨o, z, c⟩ := z; exact ⟨o, k _ z, c⟩⟩
section
variable {X : Cx} {T N I : String} {x : Str} {p pos : Pos} {e : Expr} {es : List Expr} {t : TA}
theorem pe_exb (F : ExcB T N I) (hg : Gl X x) (hm : X.mg x = none) (hv : bootBuiltins x = some (.type T)) (ha : PA X (e :: es) t) (hn : x ≠ "__name__" := by decide) (hdb : (x == ("__debug__" : Str)) = false := by decide)
    (he : starEach (e :: es) X.env = (false, eval e X.env) :: starEach es X.env := by rfl) (hpl : (backTo pos (starEach es X.env)).any (·.1) = false := by rfl) :
    PE X (.Call (.Name x p) (e :: es) [] pos) (fun σ H Q => t σ H fun vs H1 => vs.length ≤ sizeLine ∧ ∀ a, H1 a = none → Q (.ref a) (upd H1 a (exb a T))) := by
  refine ⟨fun pins s σ H Q J h => ?_⟩
  refine wpAny_Call_Name_kw (ld_blt J hg hm hv ?_ hn hdb)
  refine PyProof.Rows.callWith_type1 (thn (ha.run pos pins s σ H _ J h) fun us s1 hh => ?_) he hpl
  obtain ⟨vs, H1, I1, r1, q0, q1⟩ := hh
  obtain ⟨hp1, g1, d1, tk1, os1⟩ := s1
  refine wpAny_call_exc F.call (fun h' a mk => ?_) (Nat.le_trans (Nat.le_of_eq r1.length.symm) q0)
  have hn0 := I1.hok.gone mk.new
  have hk : PySem.W.KitAt a T h' := by { obtain ⟨t0, z, _⟩ := mk.there; exact ⟨_, z, rfl⟩ }
  exact ⟨.ref a, _, I1.laidN (t' := tk1) mk.keeps mk.new hn0 (exb_ok hk), rfl, q1 a hn0⟩
end
/-- isinstance(e, c), e an exception of the built-in class ValueError -/
def rIsB (K : PySem.W.Frag) : List V → Hp → VK → Prop := fun xs H Q => ∃ (a : Addr) (c : V) (u : Value) (b : Bool), xs = [.ref a, c] ∧ ClsV c u ∧ H a = some (exb a "ValueError") ∧ PySem.W.kitOne K (.type "ValueError") u = some b ∧ Q (.bl b) H
theorem call_isB {X : Cx} : CallR X (.builtin "isinstance") (rIsB X.K) := by
  intro pins s σ H xs us Q I r h
  obtain ⟨a, c, u, b, rfl, k, ha, e, q⟩ := h
  obtain ⟨u1, u2, rfl, r1, r2⟩ := vals2 r
  have e2 := k.eq r2; subst e2
  obtain rfl : u1 = Value.ref a := r1
  have hx : ObjOk X.prog X.w H s.heap a (.ext fun h => PySem.W.KitAt a "ValueError" h) := I.hok a _ ha
  exact PySem.W.kia_one (PySem.W.kitx_bexc PySem.F.excAttr_ValueError PySem.F.lkClass_ValueError PySem.F.soClass_ValueError (by decide)) I.kIn hx.1 e (fun z => nomatch z) fun tk => ⟨.bl b, H, I.tok tk, rfl, q⟩

/-! ### what is evaluated without a change -/
def EvR (σ : St) (H : Hp) (te : TE) (v : V) : Prop := ∀ Q : VK, Q v H → te σ H Q
def EvsR (σ : St) (H : Hp) (ta : TA) (vs : List V) : Prop := ∀ Q : List V → Hp → Prop, Q vs H → ta σ H Q
theorem evs_nil {σ : St} {H : Hp} : EvsR σ H tNil [] := fun _ q => q
theorem evs_cons {σ : St} {H : Hp} {te : TE} {ta : TA} {v : V} {vs : List V} (h1 : EvR σ H te v) (h2 : EvsR σ H ta vs) : EvsR σ H (tCons te ta) (v :: vs) := fun Q q => h1 _ (h2 _ q)
theorem ev_var {σ : St} {H : Hp} {i : Nat} {v : V} (h : σ[i]? = some (some v)) : EvR σ H (tVar i) v := fun _ q => ⟨v, h, q⟩
theorem ev_c {σ : St} {H : Hp} {v : V} : EvR σ H (tC v) v := fun _ q => q
/-! ### exceptions that are made -/
def MkR (σ : St) (te : TE) (C : Addr) (fs : List (Str × V)) : Prop := ∀ (H : Hp) (Q : VK), (∀ (H' : Hp) (a : Addr), Same H H' → ExAt H' a C fs → Q (.ref a) H') → te σ H Q
def MadeL (H : Hp) (as : List Addr) (sp : List (Addr × List (Str × V))) : Prop := Paired (fun a s => ExAt H a s.1 s.2) as sp
def MksR (σ : St) (ta : TA) (sp : List (Addr × List (Str × V))) : Prop := ∀ (H : Hp) (Q : List V → Hp → Prop), (∀ (H' : Hp) (as : List Addr), Same H H' → MadeL H' as sp → Q (as.map V.ref) H') → ta σ H Q
theorem MadeL.same {H H' : Hp} (s : Same H H') : ∀ {as : List Addr} {sp : List (Addr × List (Str × V))}, MadeL H as sp → MadeL H' as sp
  | _, _, .nil => .nil
  | _, _, .cons h t => .cons (h.same s) (MadeL.same s t)
theorem MadeL.append {H : Hp} : ∀ {as bs : List Addr} {sp sq : List (Addr × List (Str × V))}, MadeL H as sp → MadeL H bs sq → MadeL H (as ++ bs) (sp ++ sq)
  | _, _, _, _, .nil, h => h
  | _, _, _, _, .cons h t, k => .cons h (MadeL.append t k)
theorem MadeL.length {H : Hp} {as : List Addr} {sp : List (Addr × List (Str × V))} (h : MadeL H as sp) : as.length = sp.length := Paired.length h
theorem MadeL.get {H : Hp} : ∀ {as : List Addr} {sp : List (Addr × List (Str × V))} {i : Nat} {s : Addr × List (Str × V)}, MadeL H as sp → sp[i]? = some s → ∃ a, as[i]? = some a ∧ ExAt H a s.1 s.2
  | _, _, _, _, .nil, e => by simp at e
  | _, _, 0, _, .cons h t, e => by simp at e; subst e; exact ⟨_, rfl, h⟩
  | _, _, i + 1, s, .cons h t, e => by
    obtain ⟨a, h1, h2⟩ := MadeL.get (i := i) (s := s) t (by simpa using e)
    exact ⟨a, by simpa using h1, h2⟩
theorem mks_nil {σ : St} : MksR σ tNil [] := fun H Q k => k H [] (Same.refl H) .nil
theorem mks_cons {σ : St} {te : TE} {ta : TA} {C : Addr} {fs : List (Str × V)} {sp : List (Addr × List (Str × V))} (h1 : MkR σ te C fs) (h2 : MksR σ ta sp) : MksR σ (tCons te ta) ((C, fs) :: sp) := fun H Q k =>
  h1 H _ fun H1 a s1 e1 => h2 H1 _ fun H2 as s2 e2 => k H2 (a :: as) (s1.trans s2) (.cons (e1.same s2) e2)
/-- positional values, then keywords in the parameters' backward order -/
def gR {α : Type} (us ws : List α) : List α := us ++ ws.reverse
theorem Vals.snoc {v : V} {u : Value} (h : RelV v u) : ∀ {xs : List V} {us : List Value}, Vals xs us → Vals (xs ++ [v]) (us ++ [u])
  | _, _, .nil => .cons h .nil
  | _, _, .cons a t => .cons a (Vals.snoc h t)
theorem Vals.rev : ∀ {xs : List V} {us : List Value}, Vals xs us → Vals xs.reverse us.reverse
  | _, _, .nil => .nil
  | _, _, .cons a t => by rw [List.reverse_cons, List.reverse_cons]; exact Vals.snoc a (Vals.rev t)
theorem kb_of {K : PySem.W.Frag} {x qual : Str} {st : Stmt} {f : Addr} {fd : FuncData} (F : Fun K x qual st f fd) (ps : List Str) (n : Nat) (ks : List Str)
    (h : ∀ (kV doc pm : Value) (an : Option Addr) (cdv ct : Value) (us ws : List Value), us.length = n → ws.length = ks.length → bindArgs (PySem.W.fnOf x qual (defArgs st) (defBody st) (defScope st) .none kV doc pm an cdv ct) ⟨us, ks.zip ws⟩ = pure (ps.zip (gR us ws))) : KBn K fd ps n ks gR gR := by
  obtain ⟨oc, od, kV, doc, pm, an, cdv, ct, osl, rfl, lk, hcd⟩ := F.ex
  exact ⟨fun s us ws X l1 l2 => .of_eq (h kV doc pm an cdv ct us ws l1 l2), fun r1 r2 => Vals.append r1 (Vals.rev r2)⟩
/-- the promise of an exception's __init__: its arguments are its fields -/
def spX (C : Addr) (fs : List Str) : Sp := fun vs H Q _ => ∃ (a : Addr) (ws : List V), vs = .ref a :: ws ∧ ws.length = fs.length ∧ H a = some (exo a C none) ∧ ∀ H' : Hp, (∀ b o, b ≠ a → H b = some o → H' b = some o) → ExAt H' a C (fs.zip ws).reverse → Q .non H'
theorem mkR {σ : St} {C : Addr} {n m : Nat} {ns : List Str} {ta tk : TA} {vs zs : List V} {fs : List (Str × V)} (hA : ∀ H, EvsR σ H ta vs) (hK : ∀ H, EvsR σ H tk zs) (l1 : vs.length = n) (l2 : zs.length = m) (l3 : vs.length ≤ 1000) (hl : (vs ++ zs.reverse).length = ns.length)
    (hf : fs = (ns.zip (vs ++ zs.reverse)).reverse) : MkR σ (tMkX C n m (spX C ns) gR ta tk) C fs := by
  intro H Q k
  refine hA H _ (hK H _ ⟨l1, l2, l3, fun a na => ⟨a, vs ++ zs.reverse, rfl, hl, upd_same, fun H' kp hE => ⟨rfl, k H' a (fun b o e => ?_) (by rw [hf]; exact hE)⟩⟩⟩)
  have nb : b ≠ a := ne_of_none e na
  exact kp b o nb (by rw [upd_ne nb]; exact e)
/-! ### readings by their heads -/
section
variable {σ : St} {H : Hp} {D : Ends} {Q : VK}
theorem r_seq {t u : TS} (h : t { D with nx := u D } σ H) : tSeq t u D σ H := h
theorem r_seqSet {te : TE} {i : Nat} {u : TS} (h : te σ H fun x H1 => u D (σ.set i (some x)) H1) : tSeq (tAsg te (gName i)) u D σ H := h
theorem r_seqAsg {te : TE} {g : TG} {u : TS} (h : te σ H fun x H1 => g x σ H1 (u D)) : tSeq (tAsg te g) u D σ H := h
theorem r_seqDrop {te : TE} {u : TS} (h : te σ H fun _ H1 => u D σ H1) : tSeq (tDrop te) u D σ H := h
theorem r_seqIf {c : TT} {t1 t2 u : TS} (h : c σ H fun b H1 => if b = true then t1 { D with nx := u D } σ H1 else t2 { D with nx := u D } σ H1) : tSeq (tIfS c t1 t2) u D σ H := h
theorem r_seqIf0 {c : TT} {t1 u : TS} (h : c σ H fun b H1 => if b = true then t1 { D with nx := u D } σ H1 else u D σ H1) : tSeq (tIfS c t1 tNext) u D σ H := h
theorem r_set {te : TE} {i : Nat} (h : te σ H fun x H1 => D.nx (σ.set i (some x)) H1) : tAsg te (gName i) D σ H := h
theorem r_drop {te : TE} (h : te σ H fun _ H1 => D.nx σ H1) : tDrop te D σ H := h
theorem r_ret {te : TE} (h : te σ H D.rt) : tRet te D σ H := h
theorem r_if0 {c : TT} {t : TS} (h : c σ H fun b H1 => if b = true then t D σ H1 else D.nx σ H1) : tIfS c t tNext D σ H := h
theorem r_if {c : TT} {t u : TS} (h : c σ H fun b H1 => if b = true then t D σ H1 else u D σ H1) : tIfS c t u D σ H := h
theorem r_lst {ta : TA} (h : ta σ H fun xs H1 => xs.length ≤ sizeLine ∧ ∀ p, H1 p = none → Q (.ref p) (upd H1 p (.lst xs))) : tLst ta σ H Q := h
theorem r_tup {ta : TA} (h : ta σ H fun xs H1 => xs.length ≤ sizeLine ∧ ∀ p, H1 p = none → Q (.ref p) (upd H1 p (.tup xs))) : tTup ta σ H Q := h
theorem r_op {r : R2} {ta tb : TE} (h : ta σ H fun x H1 => tb σ H1 fun y H2 => r x y H2 Q) : tOp r ta tb σ H Q := h
theorem r_var {i : Nat} {v : V} (e : σ[i]? = some (some v)) (h : Q v H) : tVar i σ H Q := ⟨v, e, h⟩
theorem r_call {sp : Sp} {dvs : List V} {E : XK} {ta : TA} (h : ta σ H fun vs H1 => sp (vs ++ dvs) H1 Q E) : tCall sp dvs E ta σ H Q := h
theorem r_cb {r : List V → Hp → VK → Prop} {ta : TA} (h : ta σ H fun vs H1 => r vs H1 Q) : tCB r ta σ H Q := h
theorem r_cons {te : TE} {ta : TA} {Q : List V → Hp → Prop} (h : te σ H fun x H1 => ta σ H1 fun xs H2 => Q (x :: xs) H2) : tCons te ta σ H Q := h
theorem r_consC {v : V} {ta : TA} {Q : List V → Hp → Prop} (h : ta σ H fun xs H2 => Q (v :: xs) H2) : tCons (tC v) ta σ H Q := h
theorem r_consV {i : Nat} {v : V} {ta : TA} {Q : List V → Hp → Prop} (e : σ[i]? = some (some v)) (h : ta σ H fun xs H2 => Q (v :: xs) H2) : tCons (tVar i) ta σ H Q := ⟨v, e, h⟩
theorem r_nil {Q : List V → Hp → Prop} (h : Q [] H) : tNil σ H Q := h
theorem r_test {t : TE} {Q : Bool → Hp → Prop} (h : t σ H fun x H' => ∃ k, x = .bl k ∧ Q k H') : tTest t σ H Q := h
theorem r_tb {t : TE} {Q : Bool → Hp → Prop} (h : t σ H fun x H' => ∃ k, x = .bl k ∧ Q k H') : tB t σ H Q := h
theorem r_or {t u : TT} {Q : Bool → Hp → Prop} (h : t σ H fun c H1 => if c = true then Q true H1 else u σ H1 Q) : tOr t u σ H Q := h
theorem r_and {t u : TT} {Q : Bool → Hp → Prop} (h : t σ H fun c H1 => if c = true then u σ H1 Q else Q false H1) : tAnd t u σ H Q := h
theorem r_not {t : TT} {Q : Bool → Hp → Prop} (h : t σ H fun c H1 => Q (!c) H1) : tNot t σ H Q := h
theorem r_notV {t : TE} (h : t σ H fun x H1 => ∃ c, x = .bl c ∧ Q (.bl (!c)) H1) : tNotV t σ H Q := h
theorem r_exf {K : PySem.W.Frag} {CO : Addr} {f : Str} {te : TE} (h : te σ H fun x H1 => ∃ (a C : Addr) (fs : List (Str × V)) (v : V), x = .ref a ∧ XC K CO C ∧ PySem.W.findIn K (.ref C) f = some none ∧ ExAt H1 a C fs ∧ fs.lookup f = some v ∧ Q v H1) : tExf K CO f te σ H Q := h
theorem r_bm {K : PySem.W.Frag} {T : String} {r : V → List V → Hp → VK → Prop} {to : TE} {ta : TA} (h : to σ H fun x H1 => tyV K T x H1 ∧ ta σ H1 fun xs H2 => r x xs H2 Q) : tBM K T r to ta σ H Q := h
end
/-! ### loops by their heads -/
def FR (J : It) (g : TG) (tb : TS) (nx : St → Hp → Prop) (rt : VK) (σ : St) (H : Hp) : Prop := ∃ W : Nat → Nat → St → Hp → Prop, (∃ m, W 0 m σ H) ∧ ∀ i m σ H, W i m σ H →
  (J.stop i H ∧ nx σ H) ∨ (J.go i H ∧ ∃ N : St → Hp → Prop, (∀ σ' H', N σ' H' → ∃ m', m' < m ∧ W (i + 1) m' σ' H') ∧ ∀ x H', J.yld i H x H' → g x σ H' fun σ2 H2 => tb { nx := N, rt := rt, bk := nx, ct := N } σ2 H2)
section
variable {σ : St} {H : Hp} {D : Ends} {K : PySem.W.Frag} {g : TG} {tb : TS} {nx : St → Hp → Prop} {rt : VK}
theorem r_iList {tl : TE} {R : It → Hp → Prop} (h : tl σ H fun x H1 => ∃ a, x = .ref a ∧ (∃ xs, SqL K H1 a xs) ∧ R (Itl K a) H1) : iList K tl σ H R := h
theorem r_iEnum {ta : TA} {R : It → Hp → Prop} (h : ta σ H fun vs H1 => ∃ a xs, vs = [.ref a] ∧ SqL K H1 a xs ∧ R (Ite K a) H1) : iEnum K ta σ H R := h
theorem r_gName {i : Nat} {v : V} {Q : St → Hp → Prop} (h : Q (σ.set i (some v)) H) : gName i v σ H Q := h
theorem r_seqFor {wi : TI} {u : TS} (h : wi σ H fun J H1 => FR J g tb (u D) D.rt σ H1) : tSeq (tFor wi g tb) u D σ H := h
theorem r_for {wi : TI} (h : wi σ H fun J H1 => FR J g tb D.nx D.rt σ H1) : tFor wi g tb D σ H := h
theorem fr_it {J : It} {n : Nat} {G : Hp → Prop} {Y : Nat → Hp → V → Hp → Prop} (w : Walk J n G Y) (Pv : Nat → St → Hp → Prop) (h0 : Pv 0 σ H) (hG : ∀ i σ H, i ≤ n → Pv i σ H → G H)
    (hs : ∀ i x σ H H', i < n → Pv i σ H → Y i H x H' → g x σ H' fun σ2 H2 => tb { nx := Pv (i + 1), rt := rt, bk := nx, ct := Pv (i + 1) } σ2 H2) (hd : ∀ σ H, Pv n σ H → nx σ H) : FR J g tb nx rt σ H :=
  for_it (D := { nx := nx, rt := rt }) w Pv h0 hG hs hd
theorem fr_list {a : Addr} {xs : List V} (Pv : Nat → St → Hp → Prop) (h0 : Pv 0 σ H) (hl : ∀ i σ H, i ≤ xs.length → Pv i σ H → SqL K H a xs)
    (hs : ∀ i x σ H, xs[i]? = some x → Pv i σ H → g x σ H fun σ2 H2 => tb { nx := Pv (i + 1), rt := rt, bk := nx, ct := Pv (i + 1) } σ2 H2) (hd : ∀ σ H, Pv xs.length σ H → nx σ H) : FR (Itl K a) g tb nx rt σ H :=
  fr_it walk_list Pv h0 hl (fun i x σ H H' _ p y => by obtain ⟨e, y⟩ := y; subst e; exact hs i x σ _ y p) hd
/-- for i, x in enumerate(list) -/
theorem fr_enum {a : Addr} {xs : List V} {j k : Nat} (Pv : Nat → St → Hp → Prop) (h0 : Pv 0 σ H) (hl : ∀ i σ H, i ≤ xs.length → Pv i σ H → SqL K H a xs)
    (hs : ∀ i x σ H T, xs[i]? = some x → Pv i σ H → H T = none → tb { nx := Pv (i + 1), rt := rt, bk := nx, ct := Pv (i + 1) } ((σ.set j (some (.int (i : Nat)))).set k (some x)) (upd H T (.tup [.int (i : Nat), x]))) (hd : ∀ σ H, Pv xs.length σ H → nx σ H) :
    FR (Ite K a) (gTup K 2 (gCons (gName j) (gCons (gName k) gNil))) tb nx rt σ H :=
  fr_it walk_enum Pv h0 hl (fun i v σ H H' _ p y => by
    obtain ⟨T, x, z, e1, e2, e3, e4, e5⟩ := y
    subst e1 e3
    have e6 : x = .int (i : Nat) := (Option.some.inj e4).symm
    subst e6
    exact ⟨T, _, rfl, SqT.of upd_same, rfl, _, _, rfl, _, _, rfl, rfl, hs i z σ H T e5 p e2⟩) hd
end
/-- C(x, ..) by position, by keyword -/
theorem mkPos {σ : St} {C : Addr} {n : Nat} {ns : List Str} {ta : TA} {vs : List V} {fs : List (Str × V)} (hA : ∀ H, EvsR σ H ta vs) (l1 : vs.length = n) (l3 : n ≤ 1000) (hl : n = ns.length) (hf : fs = (ns.zip vs).reverse) : MkR σ (tMkX C n 0 (spX C ns) gR ta tNil) C fs :=
  mkR (vs := vs) (zs := []) hA (fun _ => evs_nil) l1 rfl (by rw [l1]; exact l3) (by rw [List.reverse_nil, List.append_nil, l1, hl]) (by rw [List.reverse_nil, List.append_nil]; exact hf)
theorem mkKey {σ : St} {C : Addr} {ks ns : List Str} {tk : TA} {zs : List V} {fs : List (Str × V)} (hK : ∀ H, EvsR σ H tk zs) (l2 : zs.length = ks.length) (hl : zs.length = ns.length) (hf : fs = (ns.zip zs.reverse).reverse) : MkR σ (tMkX C 0 ks.length (spX C ns) gR tNil tk) C fs :=
  mkR (vs := []) (zs := zs) (fun _ => evs_nil) hK rfl l2 (Nat.zero_le _) (by rw [List.nil_append, List.length_reverse, hl]) (by rw [List.nil_append]; exact hf)
end OC


set_option Elab.async false
set_option linter.all false
set_option maxRecDepth 100000
set_option maxHeartbeats 4000000
/-! OcEqA: == and != with both answers, at the model's level: tuples item by item, an own __eq__ from the left and reflected. -/
namespace OC
open PySem PySem.SeqAt
open AutoSeq1 (wpAny_loadPart')
section
variable {prog : Program} {w : World} {A : Around} {R : Result → Shared → Prop}
/-- the loop over two tuples' items: Go i: the first i are equal; Off: two differ -/
theorem tupEqLoop (l b : Addr) (items items2 : Array Value) (n n2 : Nat) (dd dd2 : Option Addr) (sl sl2 : Array (Option Value)) (Go : Nat → Shared → Prop) (Off : Shared → Prop)
    (turn : ∀ i (h1 : i < items.size) (h2 : i < items2.size) s, Go i s → wpAny (model prog w) A.in1 (eqBool items[i] items2[i]) (fun r s' => (r = true ∧ Go (i + 1) s') ∨ (r = false ∧ Off s')) (fun e s' => R (.error e) s') s)
    (off : ∀ s, Off s → R (.ok (.ret (.bool false))) s) (fin : ∀ s, Go (min items.size items2.size) s → R (.ok (.ret (.bool (items.size == items2.size)))) s) {s : Shared}
    (hl1 : s.heap.get? l = some { cls := .type "tuple", dict := dd, data := .seq items n, slots := sl }) (hb1 : s.heap.get? b = some { cls := .type "tuple", dict := dd2, data := .seq items2 n2, slots := sl2 }) (h : Go 0 s) :
    wpAny (model prog w) A.in1 (Builtin.«tuple.__eq__» ⟨[.ref l, .ref b], []⟩) (GQ.FinOf prog w A R) (fun e s' => R (.error e) s') s := by
  have f2 := AutoSeq1.sub_tuple_tuple
  have hZ : (items.toList.zip items2.toList).length = min items.size items2.size := by { simp }
  have h0 := h
  obtain ⟨hp, g, d, tk, os⟩ := s
  wp_walk using wpAny_loadPart' hl1, wpAny_loadPart' hb1, wpAny_forIn_list _ (fun rest b s' => b.1 = none ∧ ∃ i, rest = (items.toList.zip items2.toList).drop i ∧ i ≤ min items.size items2.size ∧ Go i s') _
  case turn =>
    rintro ⟨y, x⟩ rest b s' ⟨hb', i, hz, hi, hG⟩
    have hlt : i < (items.toList.zip items2.toList).length := by
      rcases Nat.lt_or_ge i (items.toList.zip items2.toList).length with q | q
      · exact q
      · rw [List.drop_of_length_le q] at hz; cases hz
    have h1 : i < items.size := by omega
    have h2 : i < items2.size := by omega
    rw [List.drop_eq_getElem_cons hlt] at hz
    injection hz with hyx hrest
    have hy : y = items[i] := by { have := congrArg Prod.fst hyx; simpa using this }
    have hx : x = items2[i] := by { have := congrArg Prod.snd hyx; simpa using this }
    subst hy hx
    refine wpAny_bind (wpAny_mono (turn i h1 h2 s' hG) (fun r s2 q2 => ?_) fun _ _ z => z)
    rcases q2 with ⟨rfl, q2⟩ | ⟨rfl, q2⟩
    · refine wpAny_pure ?_
      exact ⟨rfl, i + 1, hrest, by omega, q2⟩
    · wp_walk
      exact off _ q2
  case fin =>
    rintro ⟨b1, b2⟩ s' ⟨hb', i, hz, hi, hG⟩
    simp only at hb'
    subst hb'
    have hge : i = min items.size items2.size := by
      rcases Nat.lt_or_ge i (items.toList.zip items2.toList).length with q | q
      · rw [List.drop_eq_getElem_cons q] at hz; cases hz
      · omega
    subst hge
    have hR := fin s' hG
    wp_walk
    simpa [Builtin.Tuple.tupleCompareSizes] using hR
  case h =>
    exact ⟨rfl, 0, rfl, Nat.zero_le _, h0⟩
end
section
variable {prog : Program} {w : World} {A : Around} {E : Value → Shared → Prop} {s : Shared}
theorem rcTupEq {l b : Addr} {items items2 : Array Value} {Q : Value → Shared → Prop} (hu : A.units < cLine) (Go : Nat → Shared → Prop) (Off : Shared → Prop)
    (hl : s.heap.IsTuple l items) (hb : s.heap.IsTuple b items2)
    (turn : ∀ i (h1 : i < items.size) (h2 : i < items2.size) s, Go i s → wpAny (model prog w) A.in1 (eqBool items[i] items2[i]) (fun r s' => (r = true ∧ Go (i + 1) s') ∨ (r = false ∧ Off s')) E s)
    (off : ∀ s, Off s → Q (.bool false) s) (fin : ∀ s, Go (min items.size items2.size) s → Q (.bool (items.size == items2.size)) s) (h : Go 0 s) : wpAny (model prog w) A (richCompare .Eq (.ref l) (.ref b)) Q E s := by
  obtain ⟨⟨cls, dd, data, sl⟩, ho, hc, n, hd⟩ := id hl
  obtain ⟨⟨cls2, dd2, data2, sl2⟩, ho2, hc2, n2, hd2⟩ := id hb
  simp only at hc hd hc2 hd2; subst hc hd hc2 hd2
  refine wpAny_richCompare_same_room (op := .Eq) ⟨_, ho, rfl⟩ ⟨_, ho2, rfl⟩ F.slot_tuple_eq (GQ.call_here F.slot_tuple_eq ⟨_, ho, rfl⟩ F.entry_tuple_eq (F.args_tuple_eq_2 _ _) ?_) hu
  exact tupEqLoop (R := wants (fun v s' => v ≠ .notImplemented ∧ Q v s') E) l b items items2 n n2 dd dd2 sl sl2 Go Off turn (fun s' q => ⟨(fun z => nomatch z), off s' q⟩) (fun s' q => ⟨(fun z => nomatch z), fin s' q⟩) ho ho2 h
end
section
variable {prog : Program} {w : World} {A : Around} {R : Result → Shared → Prop}
/-- the loop over two tuples' items: Go i: the first i are equal; Off: two differ -/
theorem tupNeLoop (l b : Addr) (items items2 : Array Value) (n n2 : Nat) (dd dd2 : Option Addr) (sl sl2 : Array (Option Value)) (Go : Nat → Shared → Prop) (Off : Shared → Prop)
    (turn : ∀ i (h1 : i < items.size) (h2 : i < items2.size) s, Go i s → wpAny (model prog w) A.in1 (eqBool items[i] items2[i]) (fun r s' => (r = true ∧ Go (i + 1) s') ∨ (r = false ∧ Off s')) (fun e s' => R (.error e) s') s)
    (off : ∀ s, Off s → R (.ok (.ret (.bool true))) s) (fin : ∀ s, Go (min items.size items2.size) s → R (.ok (.ret (.bool (items.size != items2.size)))) s) {s : Shared}
    (hl1 : s.heap.get? l = some { cls := .type "tuple", dict := dd, data := .seq items n, slots := sl }) (hb1 : s.heap.get? b = some { cls := .type "tuple", dict := dd2, data := .seq items2 n2, slots := sl2 }) (h : Go 0 s) :
    wpAny (model prog w) A.in1 (Builtin.«tuple.__ne__» ⟨[.ref l, .ref b], []⟩) (GQ.FinOf prog w A R) (fun e s' => R (.error e) s') s := by
  have f2 := AutoSeq1.sub_tuple_tuple
  have hZ : (items.toList.zip items2.toList).length = min items.size items2.size := by { simp }
  have h0 := h
  obtain ⟨hp, g, d, tk, os⟩ := s
  wp_walk using wpAny_loadPart' hl1, wpAny_loadPart' hb1, wpAny_forIn_list _ (fun rest b s' => b.1 = none ∧ ∃ i, rest = (items.toList.zip items2.toList).drop i ∧ i ≤ min items.size items2.size ∧ Go i s') _
  case turn =>
    rintro ⟨y, x⟩ rest b s' ⟨hb', i, hz, hi, hG⟩
    have hlt : i < (items.toList.zip items2.toList).length := by
      rcases Nat.lt_or_ge i (items.toList.zip items2.toList).length with q | q
      · exact q
      · rw [List.drop_of_length_le q] at hz; cases hz
    have h1 : i < items.size := by omega
    have h2 : i < items2.size := by omega
    rw [List.drop_eq_getElem_cons hlt] at hz
    injection hz with hyx hrest
    have hy : y = items[i] := by { have := congrArg Prod.fst hyx; simpa using this }
    have hx : x = items2[i] := by { have := congrArg Prod.snd hyx; simpa using this }
    subst hy hx
    refine wpAny_bind (wpAny_mono (turn i h1 h2 s' hG) (fun r s2 q2 => ?_) fun _ _ z => z)
    rcases q2 with ⟨rfl, q2⟩ | ⟨rfl, q2⟩
    · refine wpAny_pure ?_
      exact ⟨rfl, i + 1, hrest, by omega, q2⟩
    · wp_walk
      exact off _ q2
  case fin =>
    rintro ⟨b1, b2⟩ s' ⟨hb', i, hz, hi, hG⟩
    simp only at hb'
    subst hb'
    have hge : i = min items.size items2.size := by
      rcases Nat.lt_or_ge i (items.toList.zip items2.toList).length with q | q
      · rw [List.drop_eq_getElem_cons q] at hz; cases hz
      · omega
    subst hge
    have hR := fin s' hG
    wp_walk
    simpa [Builtin.Tuple.tupleCompareSizes] using hR
  case h =>
    exact ⟨rfl, 0, rfl, Nat.zero_le _, h0⟩
end
section
variable {prog : Program} {w : World} {A : Around} {E : Value → Shared → Prop} {s : Shared}
theorem rcTupNe {l b : Addr} {items items2 : Array Value} {Q : Value → Shared → Prop} (hu : A.units < cLine) (Go : Nat → Shared → Prop) (Off : Shared → Prop)
    (hl : s.heap.IsTuple l items) (hb : s.heap.IsTuple b items2)
    (turn : ∀ i (h1 : i < items.size) (h2 : i < items2.size) s, Go i s → wpAny (model prog w) A.in1 (eqBool items[i] items2[i]) (fun r s' => (r = true ∧ Go (i + 1) s') ∨ (r = false ∧ Off s')) E s)
    (off : ∀ s, Off s → Q (.bool true) s) (fin : ∀ s, Go (min items.size items2.size) s → Q (.bool (items.size != items2.size)) s) (h : Go 0 s) : wpAny (model prog w) A (richCompare .NotEq (.ref l) (.ref b)) Q E s := by
  obtain ⟨⟨cls, dd, data, sl⟩, ho, hc, n, hd⟩ := id hl
  obtain ⟨⟨cls2, dd2, data2, sl2⟩, ho2, hc2, n2, hd2⟩ := id hb
  simp only at hc hd hc2 hd2; subst hc hd hc2 hd2
  refine wpAny_richCompare_same_room (op := .NotEq) ⟨_, ho, rfl⟩ ⟨_, ho2, rfl⟩ F.slot_tuple_ne (GQ.call_here F.slot_tuple_ne ⟨_, ho, rfl⟩ F.entry_tuple_ne (F.args_tuple_ne_2 _ _) ?_) hu
  exact tupNeLoop (R := wants (fun v s' => v ≠ .notImplemented ∧ Q v s') E) l b items items2 n n2 dd dd2 sl sl2 Go Off turn (fun s' q => ⟨(fun z => nomatch z), off s' q⟩) (fun s' q => ⟨(fun z => nomatch z), fin s' q⟩) ho ho2 h
end
section
open PySem.W
variable {prog : Program} {w : World} {A : Around} {E : Value → Shared → Prop} {s : Shared} {K : Frag} {x C L f : Addr} {h₀ : Heap} {m : Str → Option Value} {ox : Obj} {od : Option Obj} {b tb : Value}
/-- == inside a builtin by the rich comparison, any two values that are not one -/
theorem eqBoolRc {a b : Value} {Q : Bool → Shared → Prop} (hne : (a == b) = false) (hf : ∀ p q p' q', ¬ (a = .float p q ∧ b = .float p' q')) (h : wpAny (model prog w) A (richCompare .Eq a b) (fun v s' => ∃ r, v = .bool r ∧ Q r s') E s) : wpAny (model prog w) A (eqBool a b) Q E s := by
  unfold eqBool
  refine wpAny_holding ?_
  refine wpAny_ite_split (fun z => by rw [hne] at z; cases z) (fun _ => ?_)
  have key : wpAny (model prog w) A (richCompare .Eq a b >>= truthOfDropped) Q E s := wpAny_bind (wpAny_mono h (fun v s' hv => by obtain ⟨r, rfl, q⟩ := hv; exact wpAny_truthy_bool q) fun _ _ z => z)
  cases a <;> first | exact key | (cases b <;> first | exact key | exact absurd ⟨rfl, rfl⟩ (hf _ _ _ _))
/-- x != b by object.__ne__ over the own __eq__ -/
theorem ne_own {Q : Value → Shared → Prop} (hu : A.units + 1 < cLine) (X : K.In s.heap) (I : InstAt s.heap x ox C od) (hb : Looks (model prog w) s.heap (typeOf b) tb) (hn : notFirst K C tb = true)
    (hs : findIn K (.ref C) "__eq__" = some (some (.ref f))) (hf : isFn K (.ref f) = true) (he : findIn K (.ref C) "__ne__" = some (some (.builtin "object.__ne__"))) (hm : mroIn K C (.type "object") = some true)
    (h : wpAny (model prog w) A.in1 (call (.ref f) [.ref x, b]) (fun v s' => ∃ r, v = .bool r ∧ Q (.bool (!r)) s') E s) : wpAny (model prog w) A (richCompare .NotEq (.ref x) b) Q E s := by
  have one : wpAny (model prog w) A (tryCompare (.ref x) "__ne__" b) (fun r s' => ∃ v, r = some v ∧ Q v s') E s := by
    unfold tryCompare
    have sub : Looks (model prog w) s.heap (isInstance (.ref x) (.type "object")) true := I.type.andThen (looks_mroIn X hm)
    have body : wpAny (model prog w) A (call (.builtin "object.__ne__") [.ref x, b]) (fun v s' => ∃ r, v = .bool r ∧ Q (.bool r) s') E s := by
      refine wpAny_call (codeAny_call_builtin F.cmp_object.ne.plain F.cmpEntry_ne (check_slot F.cmpKind_ne F.cmpSplit_ne sub (F.cmpArgs_ne _ _) ?_))
      unfold Builtin.«object.__ne__»
      obtain ⟨hp, g, d, t, os⟩ := s
      refine wpAny_bind (wpAny_of_eq (a := ((Value.ref x : Value), [b])) (by first | rfl | (simp only [slotArgs]; rfl)) ?_)
      refine wpAny_bind (wpAny_cRoomFor hu ?_)
      refine wpAny_bind (ifBound_K X I hs hf (wpAny_mono h (fun v s' hv => ?_) fun _ _ e => e))
      obtain ⟨r, rfl, q⟩ := hv
      exact wpAny_bind (wpAny_truthy_bool (wpAny_pure ⟨!r, rfl, q⟩))
    have bnd : wpAny (model prog w) A (callSpecialIfBound? (.ref x) "__ne__" [b]) (fun r s' => ∃ v, r = some v ∧ ∃ r', v = .bool r' ∧ Q (.bool r') s') E s := by
      simp only [callSpecialIfBound?, bindSpecialIfBound?]
      refine wpAny_holding (wpAny_bind (wpAny_bind (wpAny_bind (I.type.here ((looks_findIn X he).here ?_)))))
      refine wpAny_bind (wpAny_askSetting (wpAny_ite ?_))
      have fin : wpAny (model prog w) A (call (.builtin "object.__ne__") ([.ref x] ++ [b]) >>= fun v => pure (some v)) (fun r s' => ∃ v, r = some v ∧ ∃ r', v = .bool r' ∧ Q (.bool r') s') E s := wpAny_bind (wpAny_mono body (fun v s' z => wpAny_pure ⟨v, rfl, z⟩) fun _ _ z => z)
      split
      · exact wpAny_bind (wpAny_of_eq (F.cmp_object.ne.bind _) (wpAny_pure (by exact fin)))
      · exact wpAny_tryCatch (wpAny_bind (wpAny_of_eq (F.cmp_object.ne.bind _) (wpAny_pure (by exact fin))))
    refine wpAny_bind (wpAny_mono bnd (fun r s' z => ?_) fun _ _ e => e)
    obtain ⟨v, rfl, r', rfl, q⟩ := z
    exact wpAny_pure ⟨_, rfl, q⟩
  unfold richCompare
  simp only [oneThing_ref]
  refine wpAny_holding (wpAny_bind (wpAny_cRoomFor (Nat.lt_of_succ_lt hu) ?_))
  refine wpAny_bind (I.type.here (wpAny_bind (hb.here ?_)))
  split
  · rename_i q
    have e : subIn K tb (.ref C) = some false := by
      rcases Bool.or_eq_true_iff.mp hn with e | e
      · rw [beq_iff_eq.mp e] at q; simp at q
      · exact beq_iff_eq.mp e
    refine wpAny_bind ((looks_subIn X e).here ?_); simp only [Bool.false_eq_true, if_false]
    refine wpAny_bind (wpAny_mono one (fun r s' z => ?_) fun _ _ e => e)
    obtain ⟨v, rfl, hq⟩ := z; exact wpAny_pure hq
  · refine wpAny_bind (wpAny_pure ?_); simp only [Bool.false_eq_true, if_false]
    refine wpAny_bind (wpAny_mono one (fun r s' z => ?_) fun _ _ e => e)
    obtain ⟨v, rfl, hq⟩ := z; exact wpAny_pure hq
/-- a == y, a of a built-in type T that declines, y with an own __eq__ -/
theorem eq_refl_own {a : Value} {T id : String} {Q : Value → Shared → Prop} (hu : A.units < cLine) (X : K.In s.heap) (I : InstAt s.heap x ox C od) (ha : s.TypeIs a T) (hsub : subIn K (.ref C) (.type T) = some false) (slot : Slot T "__eq__" id)
    (hd : wpAny (model prog w) A (call (.builtin id) [a, .ref x]) (fun v s' => v = .notImplemented ∧ s' = s) E s) (hs : findIn K (.ref C) "__eq__" = some (some (.ref f))) (hf : isFn K (.ref f) = true)
    (h : wpAny (model prog w) A (call (.ref f) [.ref x, a]) (fun v s' => ∃ r, v = .bool r ∧ Q (.bool r) s') E s) : wpAny (model prog w) A (richCompare .Eq a (.ref x)) Q E s := by
  unfold richCompare
  simp only [ha.oneThing_none]
  refine wpAny_holding (wpAny_bind (wpAny_cRoomFor hu ?_))
  refine wpAny_bind (wpAny_typeOf ha (wpAny_bind (I.type.here ?_)))
  rw [if_pos (show (Value.type T != Value.ref C) = true from rfl)]
  refine wpAny_bind ((looks_subIn X hsub).here ?_)
  simp only [Bool.false_eq_true, if_false, Bool.not_false, if_true]
  refine wpAny_bind (m := tryCompare a _ (.ref x)) (wpAny_tryCompare_declines ha slot (wpAny_mono hd (fun v s1 z => ⟨z.1, ?_⟩) fun _ _ z => z))
  obtain ⟨_, rfl⟩ := z
  have two : wpAny (model prog w) A (tryCompare (.ref x) "__eq__" a) (fun r s' => ∃ v, r = some v ∧ Q v s') E s1 := by
    unfold tryCompare
    refine wpAny_bind (ifBound_K X I hs hf (wpAny_mono h (fun v s' hv => ?_) fun _ _ e => e))
    obtain ⟨r, rfl, q⟩ := hv
    exact wpAny_pure ⟨_, rfl, q⟩
  refine wpAny_bind (wpAny_mono two (fun r s' z => ?_) fun _ _ e => e)
  obtain ⟨v, rfl, hq⟩ := z; exact wpAny_pure hq
end
end OC


set_option Elab.async false
set_option linter.all false
set_option maxRecDepth 100000
set_option maxHeartbeats 4000000
/-! OcEqB: == and != with both answers, over the layer. -/
namespace OC
open PySem
section
open PySem.W
variable {prog : Program} {w : World} {A : Around} {E : Value → Shared → Prop} {s : Shared} {K : Frag} {x C : Addr} {ox : Obj} {od : Option Obj}
theorem decl_tup {l : Addr} {items : Array Value} (hl : s.heap.IsTuple l items) (X : K.In s.heap) (I : InstAt s.heap x ox C od) (hsub : subIn K (.ref C) (.type "tuple") = some false) :
    wpAny (model prog w) A (call (.builtin "tuple.__eq__") [.ref l, .ref x]) (fun v s' => v = .notImplemented ∧ s' = s) E s := by
  obtain ⟨o, ho, hc, n, hd⟩ := id hl
  refine GQ.call_here F.slot_tuple_eq ⟨_, ho, hc⟩ F.entry_tuple_eq (F.args_tuple_eq_2 _ _) ?_
  have hi : Looks (model prog w) s.heap (isInstance (.ref x) (.type "tuple")) false := I.type.andThen (looks_subIn X hsub)
  obtain ⟨hp, g, d, tk, os⟩ := s
  unfold Builtin.«tuple.__eq__»
  refine wpAny_bind (wpAny_of_eq (a := ((Value.ref l : Value), [Value.ref x])) (by first | rfl | kernel_rfl) ?_)
  refine wpAny_bind (hi.at ?_)
  first
    | exact wpAny_pure ⟨rfl, rfl⟩
    | (wp_walk; exact ⟨rfl, rfl⟩)
theorem decl_none : wpAny (model prog w) A (call (.builtin "NoneType.__eq__") [.none, .ref x]) (fun v s' => v = .notImplemented ∧ s' = s) E s := by
  refine GQ.call_here (T := "NoneType") F.slot_NoneType_eq (by first | rfl | exact trivial | (show typeOf _ = _; rfl)) F.entry_NoneType_eq (F.args_NoneType_eq_2 _ _) ?_
  unfold Builtin.«NoneType.__eq__»
  refine wpAny_bind (wpAny_of_eq (a := ((Value.none : Value), [Value.ref x])) (by first | rfl | kernel_rfl) ?_)
  first
    | exact wpAny_pure ⟨rfl, rfl⟩
    | (wp_walk; exact ⟨rfl, rfl⟩)
theorem decl_str {z : Str} {t : Tok} (hx : s.heap.get? x = some ox) (hp : ∀ z' t', ox.data ≠ .prim (.str z' t')) : wpAny (model prog w) A (call (.builtin "str.__eq__") [.str z t, .ref x]) (fun v s' => v = .notImplemented ∧ s' = s) E s := by
  refine GQ.call_here (T := "str") F.slot_str_eq (by first | rfl | exact trivial | (show typeOf _ = _; rfl)) F.entry_str_eq (F.args_str_eq_2 _ _) ?_
  unfold Builtin.«str.__eq__» Builtin.Str.strCompare
  refine wpAny_bind (wpAny_of_eq (a := ((Value.str z t : Value), z, [Value.ref x])) (by first | rfl | kernel_rfl) ?_)
  refine wpAny_bind (m := asStr? _) (wpAny_bind (wpAny_load hx ?_))
  split
  · rename_i q; exact absurd q (hp _ _)
  · exact wpAny_pure (wpAny_bind (wpAny_rule (wpAny_pure ⟨rfl, rfl⟩)))
end
open L2
/-! ### how two values are seen to be equal or not, by the abstract heap -/
abbrev EqvB := V → V → Hp → Bool → Prop
def MonB (D : EqvB) : Prop := ∀ x y H H' b, Same H H' → D x y H b → D x y H' b
def EqB (X : Cx) (n : Nat) (D : EqvB) : Prop :=
  ∀ (A : Around) (pins : List (Addr × Obj)) (s : Shared) (σ : St) (H : Hp) (x y : V) (u v : Value) (b : Bool), Sub X n A → Inv X pins σ H s → RelV x u → RelV y v → D x y H b →
    wpAny (model X.prog X.w) A (eqBool u v) (fun r s' => r = b ∧ ∃ H', Inv X pins σ H' s' ∧ Same H H') X.xe s
def RcB (X : Cx) (n : Nat) (op : CmpOp) (D : EqvB) : Prop :=
  ∀ (A : Around) (pins : List (Addr × Obj)) (s : Shared) (σ : St) (H : Hp) (x y : V) (u v : Value) (b : Bool), Sub X n A → Inv X pins σ H s → RelV x u → RelV y v → D x y H b →
    wpAny (model X.prog X.w) A (richCompare op u v) (fun r s' => r = .bool b ∧ ∃ H', Inv X pins σ H' s' ∧ Same H H') X.xe s
def DFlatB : EqvB := fun x y _ b => flatV x = true ∧ flatV y = true ∧ eqV x y = b
def DSameB : EqvB := fun x y _ b => (∃ a, x = .ref a ∧ y = .ref a) ∧ b = true
def DOrB (D D' : EqvB) : EqvB := fun x y H b => D x y H b ∨ D' x y H b
def LexB (D : EqvB) (H : Hp) : List V → List V → Bool → Prop
  | [], [], b => b = true
  | [], _ :: _, b => b = false
  | _ :: _, [], b => b = false
  | x :: xs, y :: ys, b => (D x y H true ∧ LexB D H xs ys b) ∨ (D x y H false ∧ b = false)
def DTupB (K : PySem.W.Frag) (D : EqvB) : EqvB := fun x y H b => ∃ (a c : Addr) (xs ys : List V), x = .ref a ∧ y = .ref c ∧ SqT K H a xs ∧ SqT K H c ys ∧ LexB D H xs ys b
def DNeqB (D : EqvB) : EqvB := fun x y H b => D x y H (!b)
def DNe (D : EqvB) : EqvB := fun x y H b => D x y H b ∧ (x = y → b = true)
theorem SqT.same {K : PySem.W.Frag} {H H' : Hp} {a : Addr} {xs : List V} (h : SqT K H a xs) (s : Same H H') : SqT K H' a xs := h.ext s
theorem mon_flatB : MonB DFlatB := fun _ _ _ _ _ _ d => d
theorem mon_sameB : MonB DSameB := fun _ _ _ _ _ _ d => d
theorem MonB.or {D D' : EqvB} (h : MonB D) (h' : MonB D') : MonB (DOrB D D') := fun x y H H' b s d => d.elim (fun d => .inl (h x y H H' b s d)) fun d => .inr (h' x y H H' b s d)
theorem LexB.mon {D : EqvB} (hD : MonB D) {H H' : Hp} (s : Same H H') : ∀ {xs ys : List V} {b : Bool}, LexB D H xs ys b → LexB D H' xs ys b
  | [], [], _, h => h
  | [], _ :: _, _, h => h
  | _ :: _, [], _, h => h
  | x :: xs, y :: ys, b, h => by
    rcases h with ⟨h1, h2⟩ | ⟨h1, h2⟩
    · exact .inl ⟨hD _ _ _ _ _ s h1, LexB.mon hD s h2⟩
    · exact .inr ⟨hD _ _ _ _ _ s h1, h2⟩
theorem mon_tupB {K : PySem.W.Frag} {D : EqvB} (hD : MonB D) : MonB (DTupB K D) := fun x y H H' b s d => by
  obtain ⟨a, c, xs, ys, hx, hy, h1, h2, p⟩ := d
  exact ⟨a, c, xs, ys, hx, hy, SqT.same h1 s, SqT.same h2 s, p.mon hD s⟩
section
variable {X : Cx} {n m : Nat} {D D' : EqvB}
theorem EqB.mono (h : EqB X n D) (hn : n ≤ m) : EqB X m D := fun A pins s σ H x y u v b sb => h A pins s σ H x y u v b (sb.mono hn)
theorem RcB.mono {op : CmpOp} (h : RcB X n op D) (hn : n ≤ m) : RcB X m op D := fun A pins s σ H x y u v b sb => h A pins s σ H x y u v b (sb.mono hn)
theorem EqB.or (h : EqB X n D) (h' : EqB X n D') : EqB X n (DOrB D D') := fun A pins s σ H x y u v b sb I rx ry d => d.elim (h A pins s σ H x y u v b sb I rx ry) (h' A pins s σ H x y u v b sb I rx ry)
theorem RcB.or {op : CmpOp} (h : RcB X n op D) (h' : RcB X n op D') : RcB X n op (DOrB D D') := fun A pins s σ H x y u v b sb I rx ry d => d.elim (h A pins s σ H x y u v b sb I rx ry) (h' A pins s σ H x y u v b sb I rx ry)
theorem EqB.imp (h : EqB X n D) (hd : ∀ x y H b, D' x y H b → D x y H b) : EqB X n D' := fun A pins s σ H x y u v b sb I rx ry d => h A pins s σ H x y u v b sb I rx ry (hd x y H b d)
theorem eqB_flat : EqB X n DFlatB := by
  intro A pins s σ H x y u v b sb I rx ry d
  obtain ⟨fx, fy, e⟩ := d
  have q := eqAt_V (A := A) (s := s) rx ry fx fy
  rw [e] at q
  exact q X.prog X.w X.xe _ ⟨rfl, H, I, Same.refl H⟩
theorem eqB_same : EqB X n DSameB := by
  intro A pins s σ H x y u v b sb I rx ry d
  obtain ⟨⟨a, rfl, rfl⟩, rfl⟩ := d
  cases rx; cases ry
  exact SeqAt.EqAt.same (A := A) (s := s) (.ref a) X.prog X.w X.xe _ ⟨rfl, H, I, Same.refl H⟩
theorem lex_drop {H : Hp} {xs ys : List V} {b : Bool} {i : Nat} (hx : i < xs.length) (hy : i < ys.length) (h : LexB D H (xs.drop i) (ys.drop i) b) : (D xs[i] ys[i] H true ∧ LexB D H (xs.drop (i + 1)) (ys.drop (i + 1)) b) ∨ (D xs[i] ys[i] H false ∧ b = false) := by
  rw [List.drop_eq_getElem_cons hx, List.drop_eq_getElem_cons hy] at h
  exact h
theorem lex_end {H : Hp} {xs ys : List V} {b : Bool} (h : LexB D H (xs.drop (min xs.length ys.length)) (ys.drop (min xs.length ys.length)) b) : b = (xs.length == ys.length) := by
  rcases Nat.lt_trichotomy xs.length ys.length with q | q | q
  · rw [Nat.min_eq_left (Nat.le_of_lt q), List.drop_length, List.drop_eq_getElem_cons q] at h
    have e : b = false := h
    rw [e]; exact (beq_eq_false_iff_ne.mpr (Nat.ne_of_lt q)).symm
  · rw [q, Nat.min_self, List.drop_length, ← q, List.drop_length] at h
    have e : b = true := h
    rw [e, q]; exact (beq_self_eq_true _).symm
  · rw [Nat.min_eq_right (Nat.le_of_lt q), List.drop_length, List.drop_eq_getElem_cons q] at h
    have e : b = false := h
    rw [e]; exact (beq_eq_false_iff_ne.mpr (Nat.ne_of_gt q)).symm
theorem turnB (hD : MonB D) (h : EqB X n D) {A : Around} (sb : Sub X (n + 1) A) {pins : List (Addr × Obj)} {σ : St} {H : Hp} {xs ys : List V} {its its2 : List Value} {b : Bool} (r : Vals xs its) (r2 : Vals ys its2)
    (i : Nat) (h1 : i < its.toArray.size) (h2 : i < its2.toArray.size) (s' : Shared) (l : (∃ H', Inv X pins σ H' s' ∧ Same H H') ∧ LexB D H (xs.drop i) (ys.drop i) b) :
    wpAny (model X.prog X.w) A.in1 (eqBool its.toArray[i] its2.toArray[i]) (fun r s2 => (r = true ∧ (∃ H', Inv X pins σ H' s2 ∧ Same H H') ∧ LexB D H (xs.drop (i + 1)) (ys.drop (i + 1)) b) ∨ (r = false ∧ (∃ H', Inv X pins σ H' s2 ∧ Same H H') ∧ b = false)) X.xe s' := by
  obtain ⟨⟨H1, I1, e1⟩, p⟩ := l
  have h1' : i < its.length := by { simpa using h1 }
  have h2' : i < its2.length := by { simpa using h2 }
  have k1 : i < xs.length := by { rw [r.length]; exact h1' }
  have k2 : i < ys.length := by { rw [r2.length]; exact h2' }
  obtain ⟨u, hu, ru⟩ := r.get (List.getElem?_eq_getElem k1)
  obtain ⟨v, hv, rv⟩ := r2.get (List.getElem?_eq_getElem k2)
  rw [List.getElem?_eq_getElem h1'] at hu
  rw [List.getElem?_eq_getElem h2'] at hv
  have gu : its.toArray[i] = u := by { rw [← Option.some.inj hu]; simp }
  have gv : its2.toArray[i] = v := by { rw [← Option.some.inj hv]; simp }
  rw [gu, gv]
  rcases lex_drop k1 k2 p with ⟨d, p'⟩ | ⟨d, p'⟩
  · refine wpAny_mono (h A.in1 pins s' σ H1 _ _ u v true sb.in1 I1 ru rv (hD _ _ _ _ _ e1 d)) (fun r s2 q => ?_) fun _ _ z => z
    obtain ⟨hr, H2, I2, e2⟩ := q
    exact .inl ⟨hr, ⟨H2, I2, e1.trans e2⟩, p'⟩
  · refine wpAny_mono (h A.in1 pins s' σ H1 _ _ u v false sb.in1 I1 ru rv (hD _ _ _ _ _ e1 d)) (fun r s2 q => ?_) fun _ _ z => z
    obtain ⟨hr, H2, I2, e2⟩ := q
    exact .inr ⟨hr, ⟨H2, I2, e1.trans e2⟩, p'⟩
theorem rcB_tup (hD : MonB D) (h : EqB X n D) : RcB X (n + 1) .Eq (DTupB X.K D) := by
  intro A pins s σ H x y u v b sb I rx ry d
  obtain ⟨a, c, xs, ys, rfl, rfl, ha, hc, p⟩ := d
  cases rx; cases ry
  obtain ⟨its, r, e, z⟩ := I.tuple ha
  obtain ⟨its2, r2, e2, z2⟩ := I.tuple hc
  have l1 : its.toArray.size = xs.length := by { rw [List.size_toArray, ← r.length] }
  have l2 : its2.toArray.size = ys.length := by { rw [List.size_toArray, ← r2.length] }
  refine rcTupEq sb.room.units0 (fun i s' => (∃ H', Inv X pins σ H' s' ∧ Same H H') ∧ LexB D H (xs.drop i) (ys.drop i) b) (fun s' => (∃ H', Inv X pins σ H' s' ∧ Same H H') ∧ b = false) e e2 (fun i h1 h2 s' q => turnB hD h sb r r2 i h1 h2 s' q) (fun s' q => ?_) (fun s' q => ?_) ⟨⟨H, I, Same.refl H⟩, p⟩
  · rw [q.2]; exact ⟨rfl, q.1⟩
  · rw [l1, l2] at q ⊢
    rw [lex_end q.2]; exact ⟨rfl, q.1⟩
theorem rcB_tupN (hD : MonB D) (h : EqB X n D) : RcB X (n + 1) .NotEq (DNeqB (DTupB X.K D)) := by
  intro A pins s σ H x y u v b sb I rx ry d
  obtain ⟨a, c, xs, ys, rfl, rfl, ha, hc, p⟩ := d
  cases rx; cases ry
  obtain ⟨its, r, e, z⟩ := I.tuple ha
  obtain ⟨its2, r2, e2, z2⟩ := I.tuple hc
  have l1 : its.toArray.size = xs.length := by { rw [List.size_toArray, ← r.length] }
  have l2 : its2.toArray.size = ys.length := by { rw [List.size_toArray, ← r2.length] }
  refine rcTupNe sb.room.units0 (fun i s' => (∃ H', Inv X pins σ H' s' ∧ Same H H') ∧ LexB D H (xs.drop i) (ys.drop i) (!b)) (fun s' => (∃ H', Inv X pins σ H' s' ∧ Same H H') ∧ (!b) = false) e e2 (fun i h1 h2 s' q => turnB hD h sb r r2 i h1 h2 s' q) (fun s' q => ?_) (fun s' q => ?_) ⟨⟨H, I, Same.refl H⟩, p⟩
  · have e : b = true := by { have := q.2; cases b <;> simp_all }
    rw [e]; exact ⟨rfl, q.1⟩
  · rw [l1, l2] at q ⊢
    have e := lex_end q.2
    have e' : (xs.length != ys.length) = b := by { rw [bne, ← e, Bool.not_not] }
    rw [e']; exact ⟨rfl, q.1⟩
end
end OC


set_option Elab.async false
set_option linter.all false
set_option maxRecDepth 100000
set_option maxHeartbeats 4000000
/-! OcEqC: own __eq__ over the layer. -/
namespace OC
open PySem L2
/-- the promise of an own __eq__ -/
def spOwn (R : Addr → V → Hp → Bool → Prop) : Sp := fun vs H Q _ => ∃ (a : Addr) (y : V) (b : Bool), vs = [.ref a, y] ∧ R a y H b ∧ ∀ H', Same H H' → Q (.bl b) H'
structure OwnE (X : Cx) (k : Nat) (C f : Addr) (fd : FuncData) (R : Addr → V → Hp → Bool → Prop) : Prop where
  F : FnOk X.prog X.w X.K X.mg X.base CX0 k f fd ["self", "other"] (spOwn R)
  hs : PySem.W.findIn X.K (.ref C) "__eq__" = some (some (.ref f))
  hf : PySem.W.isFn X.K (.ref f) = true
  hb : Binds X.K fd ["self", "other"] []
  ne : PySem.W.findIn X.K (.ref C) "__ne__" = some (some (.builtin "object.__ne__"))
  mo : PySem.W.mroIn X.K C (.type "object") = some true
  nt : PySem.W.subIn X.K (.ref C) (.type "tuple") = some false
  ns : PySem.W.subIn X.K (.ref C) (.type "str") = some false
  nn : PySem.W.subIn X.K (.ref C) (.type "NoneType") = some false
/-- left an instance with an own __eq__, right anything whose type is no class below -/
def DOwnB (K : PySem.W.Frag) (C : Addr) (R : Addr → V → Hp → Bool → Prop) : EqvB := fun x y H b => ∃ (a dx : Addr) (fs : List (Str × V)) (t : Value), x = .ref a ∧ H a = some (.ins C dx fs) ∧ TyX K H y t ∧ PySem.W.notFirst K C t = true ∧ R a y H b
/-- right an instance with an own __eq__, left None, a text or a tuple -/
def DRefB (K : PySem.W.Frag) (C : Addr) (R : Addr → V → Hp → Bool → Prop) : EqvB := fun x y H b => ∃ (a dx : Addr) (fs : List (Str × V)), y = .ref a ∧ H a = some (.ins C dx fs) ∧ R a x H b ∧ (x = .non ∨ (∃ z, x = .str z) ∨ ∃ l xs, x = .ref l ∧ SqT K H l xs)
section
variable {X : Cx} {k : Nat} {C f : Addr} {fd : FuncData} {R : Addr → V → Hp → Bool → Prop}
theorem own_call (O : OwnE X k C f fd R) {A : Around} {pins : List (Addr × Obj)} {s : Shared} {σ : St} {H : Hp} {a : Addr} {y : V} {v : Value} {b : Bool} (sb : Sub X k A) (I : Inv X pins σ H s) (ry : RelV y v) (hr : R a y H b) :
    wpAny (model X.prog X.w) A (call (.ref f) [.ref a, v]) (fun w s' => w = .bool b ∧ ∃ H', Inv X pins σ H' s' ∧ Same H H') X.xe s := by
  have hsp : spOwn R [.ref a, y] H (fun z H' => z = .bl b ∧ Same H H') E0 := ⟨a, y, b, rfl, hr, fun H' e => ⟨rfl, e⟩⟩
  have e0 : Env0 X.prog X.w X.K X.mg X.base A X.stack s H := by
    have e := I.env0
    exact ⟨by rw [sb.fr]; exact e.frames, e.mod, e.bs, e.bsz, e.funs, e.frf, e.hok, e.bare⟩
  have r2 : Vals [V.ref a, y] [Value.ref a, v] := .cons rfl (.cons ry .nil)
  refine wpAny_call (codeAny_mono (O.F.run A X.stack s H ⟨[.ref a, v], []⟩ [.ref a, v] [.ref a, y] _ E0 sb.room e0 (by simpa using O.hb s [.ref a, v] I.kIn rfl) r2 hsp) fun r s' hq => ?_)
  cases r with
  | error e => exact (pass0 (X := X)) pins σ H s e s' I hq
  | ok fl =>
    cases fl with
    | ret w =>
      obtain ⟨z, H', I', rz, ez, ex⟩ := I.after hq
      subst ez
      cases rz
      exact ⟨rfl, H', I', ex⟩
    | next => exact False.elim hq
    | brk => exact False.elim hq
    | cont => exact False.elim hq
theorem rcB_own (O : OwnE X k C f fd R) : RcB X k .Eq (DOwnB X.K C R) := by
  intro A pins s σ H x y u v b sb I rx ry d
  obtain ⟨a, dx, fs, t, rfl, ha, ty, hn, hr⟩ := d
  cases rx
  obtain ⟨mA, J, _⟩ := ins_get I.hok ha
  obtain ⟨od, J, _⟩ := J.look
  obtain ⟨Pk, Z, p, _⟩ := kit_of I ry ty
  obtain ⟨m, hF⟩ := I.fr
  refine PySem.W.cmp_K (op := .Eq) (tb := t) sb.room.units0 hF I.ok.mod.kin J (Z.ty _ _ I.kIn p) hn O.hs O.hf (wpAny_mono (own_call O sb I ry hr) (fun w s' q => ?_) fun _ _ z => z)
  obtain ⟨rfl, q⟩ := q
  exact ⟨rfl, q⟩
theorem rcB_ownN (O : OwnE X k C f fd R) : RcB X (k + 1) .NotEq (DNeqB (DOwnB X.K C R)) := by
  intro A pins s σ H x y u v b sb I rx ry d
  obtain ⟨a, dx, fs, t, rfl, ha, ty, hn, hr⟩ := d
  cases rx
  obtain ⟨mA, J, _⟩ := ins_get I.hok ha
  obtain ⟨od, J, _⟩ := J.look
  obtain ⟨Pk, Z, p, _⟩ := kit_of I ry ty
  have hu : A.units + 1 < cLine := hu_of sb.room
  refine ne_own hu I.kIn J (Z.ty _ _ I.kIn p) hn O.hs O.hf O.ne O.mo (wpAny_mono (own_call O sb.in1 I ry hr) (fun w s' q => ?_) fun _ _ z => z)
  obtain ⟨rfl, q⟩ := q
  exact ⟨!b, rfl, (by rw [Bool.not_not]), q⟩
theorem rcB_ref (O : OwnE X k C f fd R) : RcB X k .Eq (DRefB X.K C R) := by
  intro A pins s σ H x y u v b sb I rx ry d
  obtain ⟨a, dx, fs, rfl, ha, hr, hk⟩ := d
  cases ry
  obtain ⟨mA, J, _⟩ := ins_get I.hok ha
  obtain ⟨od, J, _⟩ := J.look
  have hob : s.heap.get? a = some (PySem.W.instObj C dx) := by { obtain ⟨_, _, _, e, _⟩ := (show ObjOk X.prog X.w H s.heap a (.ins C dx fs) from I.hok a _ ha); exact e }
  have go : ∀ {T id : String}, s.TypeIs u T → PySem.W.subIn X.K (.ref C) (.type T) = some false → Slot T "__eq__" id → wpAny (model X.prog X.w) A (call (.builtin id) [u, .ref a]) (fun v s' => v = .notImplemented ∧ s' = s) X.xe s →
      wpAny (model X.prog X.w) A (richCompare .Eq u (.ref a)) (fun r s' => r = .bool b ∧ ∃ H', Inv X pins σ H' s' ∧ Same H H') X.xe s := fun {T id} hT hsub sl hd =>
    eq_refl_own sb.room.units0 I.kIn J hT hsub sl hd O.hs O.hf (wpAny_mono (own_call O sb I rx hr) (fun w s' q => ⟨b, q.1, rfl, q.2⟩) fun _ _ z => z)
  rcases hk with rfl | ⟨z, rfl⟩ | ⟨l, xs, rfl, hl⟩
  · cases rx
    exact go (T := "NoneType") (by first | rfl | exact trivial) O.nn F.slot_NoneType_eq decl_none
  · obtain ⟨t, rfl⟩ := rx
    exact go (T := "str") (by first | rfl | exact trivial) O.ns F.slot_str_eq (decl_str hob (fun _ _ q => nomatch q))
  · cases rx
    obtain ⟨its, _, e, _⟩ := I.tuple hl
    obtain ⟨o, ho, hc, n, hd⟩ := id e
    exact go (T := "tuple") ⟨o, ho, hc⟩ O.nt F.slot_tuple_eq (decl_tup e I.kIn J O.nt)
end
section
variable {X : Cx} {n : Nat} {D : EqvB}
/-- from the rich comparison to == inside a tuple; one thing is equal to itself -/
theorem RcB.eqB (h : RcB X n .Eq D) (hr : ∀ x y H b, D x y H b → (∃ a, x = .ref a) ∨ ∃ a, y = .ref a) : EqB X n (DNe D) := by
  intro A pins s σ H x y u v b sb I rx ry d
  obtain ⟨d, hb⟩ := d
  by_cases e : x = y
  · obtain rfl := hb e
    subst e
    obtain ⟨a, rfl⟩ : ∃ a, x = .ref a := by rcases hr _ _ _ _ d with q | q <;> exact q
    cases rx; cases ry
    exact SeqAt.EqAt.same (A := A) (s := s) (.ref a) X.prog X.w X.xe _ ⟨rfl, H, I, Same.refl H⟩
  · have key : (u == v) = false := by
      refine Bool.eq_false_iff.mpr fun q => ?_
      have q' : u = v := eq_of_beq q
      subst q'
      rcases hr _ _ _ _ d with ⟨a, rfl⟩ | ⟨a, rfl⟩
      · cases rx; cases y <;> first | (cases ry; exact e rfl) | (obtain ⟨_, z⟩ := ry; cases z) | cases ry
      · cases ry; cases x <;> first | (cases rx; exact e rfl) | (obtain ⟨_, z⟩ := rx; cases z) | cases rx
    refine eqBoolRc key (fun p q p' q' z => ?_) (wpAny_mono (h A pins s σ H x y u v b sb I rx ry d) (fun r s' q => ⟨b, q.1, rfl, q.2⟩) fun _ _ z => z)
    obtain ⟨z1, z2⟩ := z
    subst z1 z2
    rcases hr _ _ _ _ d with ⟨a, rfl⟩ | ⟨a, rfl⟩
    · cases rx
    · cases ry
/-- x == y, x != y as expressions -/
def rCmpB (D : EqvB) : R2 := fun x y H Q => ∃ b, D x y H b ∧ ∀ H', Same H H' → Q (.bl b) H'
theorem op_eqB (h : RcB X n .Eq D) (hr : Room n X.A) : OpR X (compareOp .Eq) (rCmpB D) := by
  intro pins s σ H x y v u Q I rx ry hq
  obtain ⟨b, d, q⟩ := hq
  show wpAny (model X.prog X.w) X.A (richCompare .Eq v u) (EP X pins σ Q) X.xe s
  refine wpAny_mono (h X.A pins s σ H x y v u b ⟨hr, rfl⟩ I rx ry d) (fun r s' z => ?_) fun _ _ z => z
  obtain ⟨rfl, H', I', e⟩ := z
  exact ⟨.bl b, H', I', rfl, q H' e⟩
theorem op_neB (h : RcB X n .NotEq D) (hr : Room n X.A) : OpR X (compareOp .NotEq) (rCmpB D) := by
  intro pins s σ H x y v u Q I rx ry hq
  obtain ⟨b, d, q⟩ := hq
  show wpAny (model X.prog X.w) X.A (richCompare .NotEq v u) (EP X pins σ Q) X.xe s
  refine wpAny_mono (h X.A pins s σ H x y v u b ⟨hr, rfl⟩ I rx ry d) (fun r s' z => ?_) fun _ _ z => z
  obtain ⟨rfl, H', I', e⟩ := z
  exact ⟨.bl b, H', I', rfl, q H' e⟩
end
end OC


set_option Elab.async false
set_option linter.all false
set_option maxRecDepth 100000
set_option maxHeartbeats 4000000
/-! OcDt: data of flat values, tuples and instances of the program's own classes; == and != of such data. -/
namespace OC
open PySem L2
inductive Dt where
  | non | bl (b : Bool) | int (i : Int) | str (z : Str) | tup (ds : List Dt) | obj (c : Nat) (ds : List Dt)
/-- the classes: where they stand, their fields in order, the level of their ==, the greatest weight of their fields -/
structure CE where
  C : Nat → Addr
  ns : Nat → List Str
  lv : Nat → Nat
  bd : Nat → Nat
mutual
inductive HasD (E : CE) (K : PySem.W.Frag) (H : Hp) : V → Dt → Prop
  | non : HasD E K H .non .non
  | bl (b : Bool) : HasD E K H (.bl b) (.bl b)
  | int (i : Int) : HasD E K H (.int i) (.int i)
  | str (z : Str) : HasD E K H (.str z) (.str z)
  | tup {a : Addr} {xs : List V} {ds : List Dt} : SqT K H a xs → HasA E K H xs ds → HasD E K H (.ref a) (.tup ds)
  | obj {a dx : Addr} {c : Nat} {xs : List V} {ds : List Dt} : H a = some (.ins (E.C c) dx ((E.ns c).zip xs)) → (E.ns c).length = ds.length → HasA E K H xs ds → HasD E K H (.ref a) (.obj c ds)
inductive HasA (E : CE) (K : PySem.W.Frag) (H : Hp) : List V → List Dt → Prop
  | nil : HasA E K H [] []
  | cons {v : V} {vs : List V} {d : Dt} {ds : List Dt} : HasD E K H v d → HasA E K H vs ds → HasA E K H (v :: vs) (d :: ds)
end
theorem HasA.length {E : CE} {K : PySem.W.Frag} {H : Hp} : ∀ {xs : List V} {ds : List Dt}, HasA E K H xs ds → xs.length = ds.length
  | _, _, .nil => rfl
  | _, _, .cons _ t => congrArg Nat.succ t.length
mutual
theorem HasD.same {E : CE} {K : PySem.W.Frag} {H H' : Hp} (s : Same H H') : ∀ {d : Dt} {v : V}, HasD E K H v d → HasD E K H' v d
  | .non, _, h => by cases h; exact .non
  | .bl b, _, h => by cases h; exact .bl b
  | .int i, _, h => by cases h; exact .int i
  | .str z, _, h => by cases h; exact .str z
  | .tup ds, _, h => by cases h with | tup h1 h2 => exact .tup (SqT.same h1 s) (HasA.same s h2)
  | .obj c ds, _, h => by cases h with | obj h1 h2 h3 => exact .obj (s _ _ h1) h2 (HasA.same s h3)
theorem HasA.same {E : CE} {K : PySem.W.Frag} {H H' : Hp} (s : Same H H') : ∀ {ds : List Dt} {vs : List V}, HasA E K H vs ds → HasA E K H' vs ds
  | [], _, h => by cases h; exact .nil
  | d :: ds, _, h => by cases h with | cons h1 h2 => exact .cons (HasD.same s h1) (HasA.same s h2)
end
def isFl : Dt → Bool
  | .non => true | .bl _ => true | .int _ => true | .str _ => true | _ => false
def flV : Dt → V
  | .non => .non | .bl b => .bl b | .int i => .int i | .str z => .str z | _ => .non
theorem HasD.fl {E : CE} {K : PySem.W.Frag} {H : Hp} {d : Dt} {v : V} (h : HasD E K H v d) (f : isFl d = true) : v = flV d ∧ flatV v = true := by
  cases h <;> first | exact ⟨rfl, rfl⟩ | cases f
/-! ### the comparison -/
mutual
inductive CmpD : Dt → Dt → Bool → Prop
  | flat {d e : Dt} : isFl d = true → isFl e = true → CmpD d e (eqV (flV d) (flV e))
  | tup {ds es : List Dt} {b : Bool} : CmpL ds es b → CmpD (.tup ds) (.tup es) b
  | obj {c : Nat} {ds es : List Dt} {b : Bool} : CmpL ds es b → CmpD (.obj c ds) (.obj c es) b
  | objN {c c' : Nat} {ds es : List Dt} : c ≠ c' → CmpD (.obj c ds) (.obj c' es) false
  | objF {c : Nat} {ds : List Dt} {e : Dt} : isFl e = true → CmpD (.obj c ds) e false
  | objT {c : Nat} {ds es : List Dt} : CmpD (.obj c ds) (.tup es) false
  | nonO {c : Nat} {es : List Dt} : CmpD .non (.obj c es) false
  | strO {c : Nat} {z : Str} {es : List Dt} : CmpD (.str z) (.obj c es) false
  | tupO {c : Nat} {ds es : List Dt} : CmpD (.tup ds) (.obj c es) false
inductive CmpL : List Dt → List Dt → Bool → Prop
  | nil : CmpL [] [] true
  | left {e : Dt} {es : List Dt} : CmpL [] (e :: es) false
  | right {d : Dt} {ds : List Dt} : CmpL (d :: ds) [] false
  | on {d e : Dt} {ds es : List Dt} {b : Bool} : CmpD d e true → CmpL ds es b → CmpL (d :: ds) (e :: es) b
  | off {d e : Dt} {ds es : List Dt} : CmpD d e false → CmpL (d :: ds) (e :: es) false
end
theorem eqV_self {d : Dt} (f : isFl d = true) : eqV (flV d) (flV d) = true := by
  cases d <;> first | rfl | (simp [flV, eqV]; done) | exact absurd f (by decide)
mutual
theorem CmpD.self : ∀ (d : Dt) {b : Bool}, CmpD d d b → b = true
  | .non, _, h => by cases h with | flat f _ => exact eqV_self f
  | .bl _, _, h => by cases h with | flat f _ => exact eqV_self f
  | .int _, _, h => by cases h with | flat f _ => exact eqV_self f
  | .str _, _, h => by cases h with | flat f _ => exact eqV_self f
  | .tup ds, _, h => by
    cases h with
    | flat f _ => cases f
    | tup l => exact CmpL.self ds l
  | .obj c ds, _, h => by
    cases h with
    | flat f _ => cases f
    | obj l => exact CmpL.self ds l
    | objN z => exact absurd rfl z
    | objF f => cases f
theorem CmpL.self : ∀ (ds : List Dt) {b : Bool}, CmpL ds ds b → b = true
  | [], _, h => by cases h; rfl
  | d :: ds, _, h => by
    cases h with
    | on h1 h2 => exact CmpL.self ds h2
    | off h1 => exact absurd (CmpD.self d h1) (by decide)
end
/-! ### one value has one datum -/
theorem rel_inj {v v' : V} {u : Value} (h : RelV v u) (h' : RelV v' u) : v = v' := Option.some.inj (h.abs.symm.trans h'.abs)
theorem vals_inj : ∀ {xs ys : List V} {us : List Value}, Vals xs us → Vals ys us → xs = ys
  | _, _, _, .nil, .nil => rfl
  | _, _, _, .cons h t, .cons h' t' => by rw [rel_inj h h', vals_inj t t']
theorem zip_inj {ns : List Str} : ∀ {xs ys : List V}, ns.length = xs.length → ns.length = ys.length → ns.zip xs = ns.zip ys → xs = ys := by
  induction ns with
  | nil =>
    intro xs ys h1 h2 _
    rw [List.eq_nil_of_length_eq_zero h1.symm, List.eq_nil_of_length_eq_zero h2.symm]
  | cons n ns ih =>
    intro xs ys h1 h2 e
    cases xs with
    | nil => cases h1
    | cons x xs =>
      cases ys with
      | nil => cases h2
      | cons y ys =>
        injection e with e1 e2
        injection e1 with _ e1
        rw [e1, ih (Nat.succ.inj h1) (Nat.succ.inj h2) e2]
/-- the classes stand apart -/
def CE.Inj (E : CE) : Prop := ∀ c c', E.C c = E.C c' → c = c'
section
variable {X : Cx} {pins : List (Addr × Obj)} {σ : St} {H : Hp} {s : Shared} {E : CE}
theorem sqT_inj (I : Inv X pins σ H s) {a : Addr} {xs ys : List V} (h : SqT X.K H a xs) (h' : SqT X.K H a ys) : xs = ys := by
  obtain ⟨its, r, ⟨o, ho, hc, n, hd⟩, _⟩ := I.tuple h
  obtain ⟨its', r', ⟨o', ho', hc', n', hd'⟩, _⟩ := I.tuple h'
  rw [ho] at ho'; cases ho'
  rw [hd] at hd'
  injection hd' with e
  have e' : its = its' := by { simpa using e }
  subst e'
  exact vals_inj r r'
theorem sqT_ins (I : Inv X pins σ H s) {a C dx : Addr} {xs : List V} {fs : List (Str × V)} (h : SqT X.K H a xs) (h' : H a = some (.ins C dx fs)) : False := by
  obtain ⟨its, r, ⟨o, ho, hc, _⟩, _⟩ := I.tuple h
  obtain ⟨_, _, _, e, _⟩ := (show ObjOk X.prog X.w H s.heap a (.ins C dx fs) from I.hok a _ h')
  rw [ho] at e; cases e; cases hc
mutual
theorem HasD.inj (I : Inv X pins σ H s) (hE : E.Inj) : ∀ (d : Dt) {e : Dt} {v : V}, HasD E X.K H v d → HasD E X.K H v e → d = e
  | .non, _, _, h, h' => by cases h; cases h'; rfl
  | .bl b, _, _, h, h' => by cases h; cases h'; rfl
  | .int i, _, _, h, h' => by cases h; cases h'; rfl
  | .str z, _, _, h, h' => by cases h; cases h'; rfl
  | .tup ds, _, _, h, h' => by
    cases h with
    | tup h1 h2 =>
      cases h' with
      | tup k1 k2 =>
        have e := sqT_inj I h1 k1
        subst e
        rw [HasA.inj I hE ds h2 k2]
      | obj k1 k2 k3 => exact (sqT_ins I h1 k1).elim
  | .obj c ds, _, _, h, h' => by
    cases h with
    | obj h1 h2 h3 =>
      cases h' with
      | tup k1 k2 => exact (sqT_ins I k1 h1).elim
      | @obj _ _ c' xs' es k1 k2 k3 =>
        have e := Option.some.inj (h1.symm.trans k1)
        injection e with e1 e2 e3
        have ec := hE _ _ e1
        subst ec
        have ex := zip_inj (h2.trans h3.length.symm) (k2.trans k3.length.symm) e3
        subst ex
        rw [HasA.inj I hE ds h3 k3]
theorem HasA.inj (I : Inv X pins σ H s) (hE : E.Inj) : ∀ (ds : List Dt) {es : List Dt} {vs : List V}, HasA E X.K H vs ds → HasA E X.K H vs es → ds = es
  | [], _, _, h, h' => by cases h; cases h'; rfl
  | d :: ds, _, _, h, h' => by
    cases h with
    | cons h1 h2 =>
      cases h' with
      | cons k1 k2 => rw [HasD.inj I hE d h1 k1, HasA.inj I hE ds h2 k2]
end
end
end OC


set_option Elab.async false
set_option linter.all false
set_option maxRecDepth 100000
set_option maxHeartbeats 4000000
/-! OcDtB: == and != of data. -/
namespace OC
open PySem L2
mutual
def wt (E : CE) : Dt → Nat
  | .tup ds => wtL E ds + 1
  | .obj c _ => E.lv c
  | _ => 0
def wtL (E : CE) : List Dt → Nat
  | [] => 0
  | d :: ds => max (wt E d) (wtL E ds)
end
mutual
def wf (E : CE) (P : Nat → Prop) : Dt → Prop
  | .tup ds => wfL E P ds
  | .obj c ds => P c ∧ wtL E ds ≤ E.bd c ∧ wfL E P ds
  | _ => True
def wfL (E : CE) (P : Nat → Prop) : List Dt → Prop
  | [] => True
  | d :: ds => wf E P d ∧ wfL E P ds
end
def DD (E : CE) (K : PySem.W.Frag) (P : Nat → Prop) (n : Nat) : EqvB := fun x y H b => ∃ d e, HasD E K H x d ∧ HasD E K H y e ∧ CmpD d e b ∧ wt E d ≤ n ∧ wt E e ≤ n ∧ wf E P d ∧ wf E P e
theorem mon_DD {E : CE} {K : PySem.W.Frag} {P : Nat → Prop} {n : Nat} : MonB (DD E K P n) := fun x y H H' b s h => by
  obtain ⟨d, e, h1, h2, h3⟩ := h
  exact ⟨d, e, h1.same s, h2.same s, h3⟩
/-- what the own == of the class c is about -/
def RD (E : CE) (K : PySem.W.Frag) (P : Nat → Prop) (c : Nat) : Addr → V → Hp → Bool → Prop := fun a y H b => ∃ ds e, HasD E K H (.ref a) (.obj c ds) ∧ HasD E K H y e ∧ CmpD (.obj c ds) e b ∧ wf E P (.obj c ds) ∧ wf E P e
/-- what the written part says of a class -/
structure Tyf (K : PySem.W.Frag) (C : Addr) : Prop where
  cl : Cls K C
  ca : PySem.W.findIn K (.ref C) "__class__" = some (some (.builtin "object.__class__"))
  ty : PySem.W.typeIn K (.ref C) = some (.type "type")
  cd : ∃ cd, PySem.W.clsIn K C = some cd ∧ cd.mro = [.ref C, .type "object"]
section
variable {K : PySem.W.Frag} {C D : Addr}
theorem Tyf.mro (T : Tyf K C) (b : Value) : PySem.W.mroIn K C b = some ((([.ref C, .type "object"] : List Value)).contains b) := by
  obtain ⟨cd, e1, e2⟩ := T.cd
  unfold PySem.W.mroIn; rw [e1, Option.bind_some, e2]; rfl
theorem Tyf.mo (T : Tyf K C) : PySem.W.mroIn K C (.type "object") = some true := by rw [T.mro, List.contains_cons]; rfl
theorem Tyf.some (T : Tyf K C) : (PySem.W.clsIn K C).isSome = true := by { obtain ⟨cd, e1, _⟩ := T.cd; rw [e1]; rfl }
theorem Tyf.no (T : Tyf K C) {t : String} (h : t ≠ "object") : PySem.W.subIn K (.ref C) (.type t) = Option.some false := by
  show PySem.W.mroIn K C _ = _
  rw [T.mro, List.contains_cons, List.contains_cons]
  have e : (Value.type t == Value.type "object") = false := by { simpa using h }
  rw [e]; rfl
theorem Tyf.sub (T : Tyf K C) (h : C ≠ D) : PySem.W.subIn K (.ref C) (.ref D) = Option.some false := by
  show PySem.W.mroIn K C _ = _
  rw [T.mro, List.contains_cons]
  have e : (Value.ref D == Value.ref C) = false := by { simpa using fun z : D = C => h z.symm }
  rw [e]; rfl
theorem sub_ty {t : String} (h : t ∈ ["NoneType", "bool", "int", "str", "tuple"]) : PySem.W.subIn K (.type t) (.ref D) = Option.some false := by
  rcases List.mem_cons.mp h with rfl | h
  · rfl
  rcases List.mem_cons.mp h with rfl | h
  · rfl
  rcases List.mem_cons.mp h with rfl | h
  · rfl
  rcases List.mem_cons.mp h with rfl | h
  · rfl
  rcases List.mem_cons.mp h with rfl | h
  · rfl
  cases h
/-- isinstance of a value of the type t against the class D -/
theorem kit_to {t : Value} {b : Bool} (T : Tyf K D) (ne : (t == Value.ref D) = false) (hs : PySem.W.subIn K t (.ref D) = Option.some b) : PySem.W.kitOne K t (.ref D) = Option.some b := by
  unfold PySem.W.kitOne
  rw [ne, if_neg Bool.false_ne_true]
  show (if ((PySem.W.clsIn K D).isSome && PySem.W.typeIn K (.ref D) == Option.some (.type "type")) = true then PySem.W.subIn K t (.ref D) else none) = _
  rw [T.some, T.ty, if_pos (by rfl)]; exact hs
end
/-- the type of a datum -/
def tyD (E : CE) : Dt → Value
  | .non => .type "NoneType" | .bl _ => .type "bool" | .int _ => .type "int" | .str _ => .type "str" | .tup _ => .type "tuple" | .obj c _ => .ref (E.C c)
theorem HasD.ty {E : CE} {K : PySem.W.Frag} {H : Hp} {P : Nat → Prop} {v : V} {d : Dt} (G : XG K) (T : ∀ c, P c → Tyf K (E.C c)) (h : HasD E K H v d) (w : wf E P d) : TyX K H v (tyD E d) := by
  cases h with
  | non => exact .base .non
  | bl b => exact .base (.bl b)
  | int i => exact .base (.int i)
  | str z => exact .base (.str z)
  | tup h1 h2 =>
    rcases h1 with (h1 | ⟨o, h1⟩) | ⟨o, its, n, h1, h2, _⟩
    · exact .base (.tup h1)
    · exact .fTuple h1
    · exact .kTuple h1 h2
  | obj h1 h2 h3 => exact .base (.ins h1 (T _ w.1).cl (T _ w.1).ca G.hn G.ht (T _ w.1).mo)
theorem nf_ty {E : CE} {K : PySem.W.Frag} {P : Nat → Prop} {e : Dt} {c : Nat} (T : ∀ c, P c → Tyf K (E.C c)) (w : wf E P e) : PySem.W.notFirst K (E.C c) (tyD E e) = true := by
  unfold PySem.W.notFirst
  cases e with
  | obj c' es =>
    show (Value.ref (E.C c') == Value.ref (E.C c) || PySem.W.subIn K (.ref (E.C c')) (.ref (E.C c)) == some false) = true
    by_cases z : E.C c' = E.C c
    · rw [z]; simp
    · rw [(T c' w.1).sub z]; simp
  | non => show (_ || PySem.W.subIn K (.type "NoneType") (.ref (E.C c)) == some false) = true; rw [sub_ty (by simp)]; simp
  | bl b => show (_ || PySem.W.subIn K (.type "bool") (.ref (E.C c)) == some false) = true; rw [sub_ty (by simp)]; simp
  | int i => show (_ || PySem.W.subIn K (.type "int") (.ref (E.C c)) == some false) = true; rw [sub_ty (by simp)]; simp
  | str z => show (_ || PySem.W.subIn K (.type "str") (.ref (E.C c)) == some false) = true; rw [sub_ty (by simp)]; simp
  | tup ds => show (_ || PySem.W.subIn K (.type "tuple") (.ref (E.C c)) == some false) = true; rw [sub_ty (by simp)]; simp
theorem lex_of {E : CE} {K : PySem.W.Frag} {P : Nat → Prop} {n : Nat} {H : Hp} : ∀ {ds es : List Dt} {xs ys : List V} {b : Bool}, CmpL ds es b → HasA E K H xs ds → HasA E K H ys es → wtL E ds ≤ n → wtL E es ≤ n → wfL E P ds → wfL E P es → LexB (DD E K P n) H xs ys b
  | [], [], _, _, _, h, h1, h2, _, _, _, _ => by cases h; cases h1; cases h2; rfl
  | [], _ :: _, _, _, _, h, h1, h2, _, _, _, _ => by cases h; cases h1; cases h2; rfl
  | _ :: _, [], _, _, _, h, h1, h2, _, _, _, _ => by cases h; cases h1; cases h2; rfl
  | d :: ds, e :: es, _, _, b, h, h1, h2, k1, k2, w1, w2 => by
    cases h1 with
    | cons p1 p2 =>
      cases h2 with
      | cons q1 q2 =>
        have a1 : wt E d ≤ n := Nat.le_trans (Nat.le_max_left _ _) k1
        have a2 : wt E e ≤ n := Nat.le_trans (Nat.le_max_left _ _) k2
        cases h with
        | on c1 c2 => exact .inl ⟨⟨d, e, p1, q1, c1, a1, a2, w1.1, w2.1⟩, lex_of c2 p2 q2 (Nat.le_trans (Nat.le_max_right _ _) k1) (Nat.le_trans (Nat.le_max_right _ _) k2) w1.2 w2.2⟩
        | off c1 => exact .inr ⟨⟨d, e, p1, q1, c1, a1, a2, w1.1, w2.1⟩, rfl⟩
mutual
theorem CmpD.refl : ∀ d : Dt, CmpD d d true
  | .non => CmpD.flat (d := .non) (e := .non) rfl rfl
  | .bl b => (eqV_self (d := .bl b) rfl) ▸ CmpD.flat (d := .bl b) (e := .bl b) rfl rfl
  | .int i => (eqV_self (d := .int i) rfl) ▸ CmpD.flat (d := .int i) (e := .int i) rfl rfl
  | .str z => (eqV_self (d := .str z) rfl) ▸ CmpD.flat (d := .str z) (e := .str z) rfl rfl
  | .tup ds => .tup (CmpL.refl ds)
  | .obj c ds => .obj (CmpL.refl ds)
theorem CmpL.refl : ∀ ds : List Dt, CmpL ds ds true
  | [] => .nil
  | d :: ds => .on (CmpD.refl d) (CmpL.refl ds)
end
theorem CmpD.ne {d e : Dt} (f1 : isFl d = true) (f2 : isFl e = true) (h : eqV (flV d) (flV e) = false) : CmpD d e false := h ▸ CmpD.flat f1 f2
section
variable {X : Cx} {E : CE} {P : Nat → Prop} {N : Nat} {f : Nat → Addr} {fd : Nat → FuncData}
/-- the classes that may stand in the data: their own == keep their promises -/
def Owns (X : Cx) (E : CE) (P : Nat → Prop) (N : Nat) (f : Nat → Addr) (fd : Nat → FuncData) : Prop := ∀ c, P c → E.lv c ≤ N → OwnE X (E.lv c) (E.C c) (f c) (fd c) (RD E X.K P c)
theorem rc_obj (G : XG X.K) (T : ∀ c, P c → Tyf X.K (E.C c)) (O : Owns X E P N f fd) {n : Nat} {A : Around} {pins : List (Addr × Obj)} {s : Shared} {σ : St} {H : Hp} {x y : V} {u v : Value} {b : Bool} {c : Nat} {ds : List Dt} {e : Dt}
    (sb : Sub X n A) (I : Inv X pins σ H s) (rx : RelV x u) (ry : RelV y v) (h1 : HasD E X.K H x (.obj c ds)) (h2 : HasD E X.K H y e) (hc : CmpD (.obj c ds) e b) (hn : E.lv c ≤ n) (hN : n ≤ N) (w1 : wf E P (.obj c ds)) (w2 : wf E P e) :
    wpAny (model X.prog X.w) A (richCompare .Eq u v) (fun r s' => r = .bool b ∧ ∃ H', Inv X pins σ H' s' ∧ Same H H') X.xe s := by
  cases id h1 with
  | @obj a dx _ xs _ k1 k2 k3 =>
    exact rcB_own (O c w1.1 (Nat.le_trans hn hN)) A pins s σ H _ y u v b (sb.mono hn) I rx ry ⟨a, dx, _, tyD E e, rfl, k1, h2.ty G T w2, nf_ty T w2, ds, e, h1, h2, hc, w1, w2⟩
theorem rc_ref (O : Owns X E P N f fd) {n : Nat} {A : Around} {pins : List (Addr × Obj)} {s : Shared} {σ : St} {H : Hp} {x y : V} {u v : Value} {c : Nat} {es : List Dt} {d : Dt}
    (sb : Sub X n A) (I : Inv X pins σ H s) (rx : RelV x u) (ry : RelV y v) (h1 : HasD E X.K H x d) (h2 : HasD E X.K H y (.obj c es)) (hd : CmpD (.obj c es) d false) (hk : x = .non ∨ (∃ z, x = .str z) ∨ ∃ l xs, x = .ref l ∧ SqT X.K H l xs) (hn : E.lv c ≤ n) (hN : n ≤ N) (w1 : wf E P d) (w2 : wf E P (.obj c es)) :
    wpAny (model X.prog X.w) A (richCompare .Eq u v) (fun r s' => r = .bool false ∧ ∃ H', Inv X pins σ H' s' ∧ Same H H') X.xe s := by
  cases id h2 with
  | @obj a dx _ xs _ k1 k2 k3 =>
    exact rcB_ref (O c w2.1 (Nat.le_trans hn hN)) A pins s σ H x _ u v false (sb.mono hn) I rx ry ⟨a, dx, _, rfl, k1, ⟨es, d, h2, h1, hd, w2, w1⟩, hk⟩
/-- the rich comparison of two data of which one is no flat value -/
def DDr (E : CE) (K : PySem.W.Frag) (P : Nat → Prop) (n : Nat) : EqvB := fun x y H b => ∃ d e, HasD E K H x d ∧ HasD E K H y e ∧ CmpD d e b ∧ wt E d ≤ n ∧ wt E e ≤ n ∧ wf E P d ∧ wf E P e ∧ (isFl d && isFl e) = false
theorem rc_dt (G : XG X.K) (T : ∀ c, P c → Tyf X.K (E.C c)) (O : Owns X E P N f fd) {n : Nat} (hN : n ≤ N) (ih : ∀ m, m < n → EqB X m (DD E X.K P m)) : RcB X n .Eq (DDr E X.K P n) := by
  intro A pins s σ H x y u v b sb I rx ry h
  obtain ⟨d, e, h1, h2, hc, k1, k2, w1, w2, nf⟩ := h
  cases hc with
  | flat f1 f2 => rw [f1, f2] at nf; cases nf
  | @tup ds es _ l =>
    cases h1 with
    | tup p1 p2 =>
      cases h2 with
      | tup q1 q2 =>
        obtain ⟨m, rfl⟩ : ∃ m, n = m + 1 := ⟨n - 1, by have : wtL E ds + 1 ≤ n := k1; omega⟩
        exact rcB_tup mon_DD (ih m (Nat.lt_succ_self m)) A pins s σ H _ _ u v b sb I rx ry ⟨_, _, _, _, rfl, rfl, p1, q1, lex_of l p2 q2 (Nat.le_of_succ_le_succ k1) (Nat.le_of_succ_le_succ k2) w1 w2⟩
  | obj l => exact rc_obj G T O sb I rx ry h1 h2 (.obj l) k1 hN w1 w2
  | objN z => exact rc_obj G T O sb I rx ry h1 h2 (.objN z) k1 hN w1 w2
  | objF z => exact rc_obj G T O sb I rx ry h1 h2 (.objF z) k1 hN w1 w2
  | objT => exact rc_obj G T O sb I rx ry h1 h2 .objT k1 hN w1 w2
  | nonO => exact rc_ref O sb I rx ry h1 h2 (.objF rfl) (by cases h1; exact .inl rfl) k2 hN w1 w2
  | strO => exact rc_ref O sb I rx ry h1 h2 (.objF rfl) (by cases h1; exact .inr (.inl ⟨_, rfl⟩)) k2 hN w1 w2
  | tupO => exact rc_ref O sb I rx ry h1 h2 .objT (by cases h1 with | tup p1 p2 => exact .inr (.inr ⟨_, _, rfl, p1⟩)) k2 hN w1 w2
theorem eq_dt (hE : E.Inj) (G : XG X.K) (T : ∀ c, P c → Tyf X.K (E.C c)) (O : Owns X E P N f fd)   : ∀ n, n ≤ N → EqB X n (DD E X.K P n) := by
  intro n
  induction n using Nat.strongRecOn with
  | ind n ih =>
    intro hN A pins s σ H x y u v b sb I rx ry h
    obtain ⟨d, e, h1, h2, hc, k1, k2, w1, w2⟩ := h
    cases q : (isFl d && isFl e) with
    | true =>
      obtain ⟨f1, f2⟩ := Bool.and_eq_true_iff.mp q
      obtain ⟨e1, fl1⟩ := h1.fl f1
      obtain ⟨e2, fl2⟩ := h2.fl f2
      refine eqB_flat A pins s σ H x y u v b (sb.mono (Nat.le_refl _)) I rx ry ⟨fl1, fl2, ?_⟩
      subst e1 e2
      cases hc <;> first | rfl | exact absurd f2 Bool.false_ne_true | exact absurd f1 Bool.false_ne_true
    | false =>
      refine (rc_dt G T O hN fun m hm => ih m hm (Nat.le_trans (Nat.le_of_lt hm) hN)).eqB (fun x y H b z => ?_) A pins s σ H x y u v b sb I rx ry ⟨⟨d, e, h1, h2, hc, k1, k2, w1, w2, q⟩, fun z => ?_⟩
      · obtain ⟨d, e, h1, h2, _, _, _, _, _, nf⟩ := z
        cases h1 <;> first | exact .inl ⟨_, rfl⟩ | (cases h2 <;> first | exact .inr ⟨_, rfl⟩ | cases nf)
      · subst z
        have z := HasD.inj I hE d h1 h2
        subst z
        exact CmpD.self d hc
theorem rc_all (hE : E.Inj) (G : XG X.K) (T : ∀ c, P c → Tyf X.K (E.C c)) (O : Owns X E P N f fd) (n : Nat) (hN : n ≤ N) : RcB X n .Eq (DDr E X.K P n) := rc_dt G T O hN fun m hm => eq_dt hE G T O m (Nat.le_trans (Nat.le_of_lt hm) hN)
/-- != of two tuples, of an instance and anything -/
def DDn (E : CE) (K : PySem.W.Frag) (P : Nat → Prop) (n : Nat) : EqvB := fun x y H b => ∃ d e, HasD E K H x d ∧ HasD E K H y e ∧ CmpD d e (!b) ∧ wt E d ≤ n ∧ wt E e ≤ n ∧ wf E P d ∧ wf E P e ∧ ((∃ c ds, d = .obj c ds) ∨ ∃ ds es, d = .tup ds ∧ e = .tup es)
theorem rcN_dt (hE : E.Inj) (G : XG X.K) (T : ∀ c, P c → Tyf X.K (E.C c)) (O : Owns X E P N f fd) (n : Nat) (hN : n ≤ N) : RcB X (n + 1) .NotEq (DDn E X.K P n) := by
  intro A pins s σ H x y u v b sb I rx ry h
  obtain ⟨d, e, h1, h2, hc, k1, k2, w1, w2, hk⟩ := h
  rcases hk with ⟨c, ds, rfl⟩ | ⟨ds, es, rfl, rfl⟩
  · cases id h1 with
    | @obj a dx _ xs _ p1 p2 p3 =>
      exact rcB_ownN (O c w1.1 (Nat.le_trans k1 hN)) A pins s σ H _ y u v b (sb.mono (Nat.succ_le_succ k1)) I rx ry ⟨a, dx, _, tyD E e, rfl, p1, h2.ty G T w2, nf_ty T w2, ds, e, h1, h2, hc, w1, w2⟩
  · cases h1 with
    | tup p1 p2 =>
      cases h2 with
      | tup q1 q2 =>
        obtain ⟨b', hb'⟩ : ∃ b', (!b) = b' := ⟨_, rfl⟩
        rw [hb'] at hc
        cases hc with
        | flat z _ => cases z
        | tup l => exact rcB_tupN mon_DD (eq_dt hE G T O n hN) A pins s σ H _ _ u v b sb I rx ry ⟨_, _, _, _, rfl, rfl, p1, q1, (by rw [hb']; exact lex_of l p2 q2 (Nat.le_of_succ_le k1) (Nat.le_of_succ_le k2) w1 w2)⟩
end
end OC


set_option Elab.async false
set_option linter.all false
set_option maxRecDepth 100000
set_option maxHeartbeats 4000000
/-! OcGr: expressions that only make things, by the data that they give. -/
namespace OC
open PySem L2
/-- te gives a value of the datum d, in any heap that has grown out of H0 -/
def GrD (E : CE) (K : PySem.W.Frag) (σ : St) (H0 : Hp) (te : TE) (d : Dt) : Prop := ∀ (H : Hp) (Q : VK), Same H0 H → (∀ (H' : Hp) (v : V), Same H H' → HasD E K H' v d → Q v H') → te σ H Q
def GrA (E : CE) (K : PySem.W.Frag) (σ : St) (H0 : Hp) (ta : TA) (ds : List Dt) : Prop := ∀ (H : Hp) (Q : List V → Hp → Prop), Same H0 H → (∀ (H' : Hp) (vs : List V), Same H H' → HasA E K H' vs ds → Q vs H') → ta σ H Q
section
variable {E : CE} {K : PySem.W.Frag} {σ : St} {H0 : Hp}
theorem GrD.later {H1 : Hp} {te : TE} {d : Dt} (h : GrD E K σ H0 te d) (s : Same H0 H1) : GrD E K σ H1 te d := fun H Q s1 k => h H Q (s.trans s1) k
theorem gr_var {i : Nat} {v : V} {d : Dt} (e : σ[i]? = some (some v)) (h : HasD E K H0 v d) : GrD E K σ H0 (tVar i) d := fun H Q s k => ⟨v, e, k H v (Same.refl H) (h.same s)⟩
theorem gr_str {z : Str} : GrD E K σ H0 (tC (.str z)) (.str z) := fun H Q s k => k H _ (Same.refl H) (.str z)
theorem gr_int {i : Int} : GrD E K σ H0 (tC (.int i)) (.int i) := fun H Q s k => k H _ (Same.refl H) (.int i)
theorem gr_bl {b : Bool} : GrD E K σ H0 (tC (.bl b)) (.bl b) := fun H Q s k => k H _ (Same.refl H) (.bl b)
theorem gr_non : GrD E K σ H0 (tC .non) .non := fun H Q s k => k H _ (Same.refl H) .non
theorem gra_nil : GrA E K σ H0 tNil [] := fun H Q s k => k H [] (Same.refl H) .nil
theorem gra_cons {te : TE} {ta : TA} {d : Dt} {ds : List Dt} (h1 : GrD E K σ H0 te d) (h2 : GrA E K σ H0 ta ds) : GrA E K σ H0 (tCons te ta) (d :: ds) := fun H Q s k =>
  h1 H _ s fun H1 v s1 p => h2 H1 _ (s.trans s1) fun H2 vs s2 q => k H2 (v :: vs) (s1.trans s2) (.cons (p.same s2) q)
theorem gr_tup {ta : TA} {ds : List Dt} (h : GrA E K σ H0 ta ds) (hl : ds.length ≤ 1000) : GrD E K σ H0 (tTup ta) (.tup ds) := fun H Q s k =>
  h H _ s fun H1 vs s1 p => ⟨by rw [p.length]; exact Nat.le_trans hl (by decide), fun a na => k _ _ (s1.trans fun b o e => by rw [upd_ne (ne_of_none e na)]; exact e)
    (.tup (SqT.of upd_same) (p.same fun b o e => by rw [upd_ne (ne_of_none e na)]; exact e))⟩
/-- the promise of an __init__ that keeps its arguments -/
def spI (E : CE) (c : Nat) : Sp := fun vs H Q _ => ∃ (p dx : Addr) (ws : List V), vs = .ref p :: ws ∧ ws.length = (E.ns c).length ∧ H p = some (.ins (E.C c) dx []) ∧
  ∀ H' : Hp, (∀ b o, b ≠ p → H b = some o → H' b = some o) → H' p = some (.ins (E.C c) dx ((E.ns c).zip ws)) → Q .non H'
theorem HasA.append {H : Hp} : ∀ {xs ys : List V} {ds es : List Dt}, HasA E K H xs ds → HasA E K H ys es → HasA E K H (xs ++ ys) (ds ++ es)
  | _, _, _, _, .nil, h => h
  | _, _, _, _, .cons a t, h => .cons a (t.append h)
theorem HasA.rev {H : Hp} : ∀ {xs : List V} {ds : List Dt}, HasA E K H xs ds → HasA E K H xs.reverse ds.reverse
  | _, _, .nil => .nil
  | _, _, .cons a t => by rw [List.reverse_cons, List.reverse_cons]; exact t.rev.append (.cons a .nil)
theorem made_dt {c : Nat} {H1 H2 : Hp} {x dx : Addr} {ws : List V} {ds : List Dt} (nx : H1 x = none) (ndx : H1 dx = none) (hl : ws.length = (E.ns c).length) (p : HasA E K H1 ws ds)
    (k : ∀ b o, b ≠ x → (upd (upd H1 dx (.own x)) x (.ins (E.C c) dx [])) b = some o → H2 b = some o) (e : H2 x = some (.ins (E.C c) dx ((E.ns c).zip ws))) : Same H1 H2 ∧ HasD E K H2 (.ref x) (.obj c ds) := by
  have s : Same H1 H2 := fun b o q => k b o (ne_of_none q nx) (by rw [upd_ne (ne_of_none q nx), upd_ne (ne_of_none q ndx)]; exact q)
  exact ⟨s, .obj e (by rw [← hl, p.length]) (p.same s)⟩
/-- C(e, ..), the defaults dvs behind -/
theorem gr_make {c : Nat} {dvs : List V} {ta : TA} {ds es : List Dt} (h : GrA E K σ H0 ta ds) (hd : HasA E K H0 dvs es) (hl : (ds ++ es).length = (E.ns c).length) : GrD E K σ H0 (tMake (E.C c) (spI E c) dvs E0 ta) (.obj c (ds ++ es)) := fun H Q s k =>
  h H _ s fun H1 vs s1 p x dx nx ndx ne => by
    have pa := p.append (hd.same (s.trans s1))
    refine ⟨x, dx, vs ++ dvs, rfl, (by rw [pa.length, hl]), upd_same, fun H2 kp e => ⟨rfl, ?_⟩⟩
    obtain ⟨s2, m⟩ := made_dt nx ndx (by rw [pa.length, hl]) pa kp e
    exact k H2 _ (s1.trans s2) m
/-- C(k = e, ..), the keywords in the parameters' backward order -/
theorem gr_makeK {c m : Nat} {tk : TA} {ds : List Dt} (h : GrA E K σ H0 tk ds) (hm : ds.length = m) (hl : ds.length = (E.ns c).length) : GrD E K σ H0 (tMakeK (E.C c) 0 m (spI E c) gR E0 tNil tk) (.obj c ds.reverse) := fun H Q s k =>
  h H _ s fun H1 vs s1 p => ⟨rfl, by rw [p.length, hm], fun x dx nx ndx ne => by
    have pa := p.rev
    refine ⟨x, dx, vs.reverse, rfl, (by rw [pa.length, List.length_reverse, hl]), upd_same, fun H2 kp e => ⟨rfl, ?_⟩⟩
    obtain ⟨s2, m⟩ := made_dt nx ndx (by rw [pa.length, List.length_reverse, hl]) pa kp e
    exact k H2 _ (s1.trans s2) m⟩
theorem lookup_zip {f : Str} : ∀ {ns : List Str} {xs : List V} {j : Nat} {v : V}, ns[j]? = some f → (∀ i, i < j → ns[i]? ≠ some f) → xs[j]? = some v → (ns.zip xs).lookup f = some v
  | [], _, _, _, h, _, _ => by simp at h
  | _ :: _, [], _, _, _, _, h => by simp at h
  | n :: ns, x :: xs, 0, v, h, _, hx => by
    simp at h hx; subst h hx
    simp [List.lookup]
  | n :: ns, x :: xs, j + 1, v, h, hn, hx => by
    have ne : n ≠ f := fun e => hn 0 (Nat.succ_pos j) (by simp [e])
    have b : (f == n) = false := by { simpa using fun z : f = n => ne z.symm }
    show List.lookup f ((n, x) :: ns.zip xs) = some v
    simp only [List.lookup, b]
    exact lookup_zip (j := j) (by simpa using h) (fun i hi z => hn (i + 1) (Nat.succ_lt_succ hi) (by simpa using z)) (by simpa using hx)
theorem HasA.get {H : Hp} : ∀ {xs : List V} {ds : List Dt} {j : Nat} {d : Dt}, HasA E K H xs ds → ds[j]? = some d → ∃ v, xs[j]? = some v ∧ HasD E K H v d
  | _, _, _, _, .nil, e => by simp at e
  | _, _, 0, _, .cons a t, e => by simp at e; subst e; exact ⟨_, rfl, a⟩
  | _, _, j + 1, d, .cons a t, e => by
    obtain ⟨v, h1, h2⟩ := HasA.get (j := j) (d := d) t (by simpa using e)
    exact ⟨v, by simpa using h1, h2⟩
/-- where a field stands among the names -/
def fldAt (ns : List Str) (f : Str) (j : Nat) : Bool := decide (ns[j]? = some f) && (List.range j).all fun i => decide (ns[i]? ≠ some f)
theorem fldAt_of {ns : List Str} {f : Str} {j : Nat} (h : fldAt ns f j = true) : ns[j]? = some f ∧ ∀ i, i < j → ns[i]? ≠ some f := by
  obtain ⟨h1, h2⟩ := Bool.and_eq_true_iff.mp h
  exact ⟨of_decide_eq_true h1, fun i hi => of_decide_eq_true (List.all_eq_true.mp h2 i (List.mem_range.mpr hi))⟩
/-- o.f -/
theorem gr_fld {c j : Nat} {f : Str} {te : TE} {ds : List Dt} {d : Dt} (h : GrD E K σ H0 te (.obj c ds)) (T : Cls K (E.C c)) (no : NoAttr K (E.C c) f) (hj : fldAt (E.ns c) f j = true) (hd : ds[j]? = some d) : GrD E K σ H0 (tFld K te f) d := fun H Q s k =>
  h H _ s fun H1 v s1 p => by
    cases p with
    | @obj a dx _ xs _ p1 p2 p3 =>
      obtain ⟨w, hw, hh⟩ := p3.get hd
      obtain ⟨q1, q2⟩ := fldAt_of hj
      exact ⟨a, _, dx, _, w, rfl, p1, T, no, lookup_zip q1 q2 hw, k H1 w s1 hh⟩
end
end OC


set_option Elab.async false
set_option linter.all false
set_option maxRecDepth 100000
set_option maxHeartbeats 4000000
/-! OcGrB: lists of data, tests, statements over them. -/
namespace OC
open PySem L2
/-- at l a list of such data -/
def LsD (E : CE) (K : PySem.W.Frag) (H : Hp) (l : Addr) (es : List Dt) : Prop := ∃ ys, H l = some (.lst ys) ∧ HasA E K H ys es
theorem LsD.same {E : CE} {K : PySem.W.Frag} {H H' : Hp} {l : Addr} {es : List Dt} (h : LsD E K H l es) (s : Same H H') : LsD E K H' l es := by
  obtain ⟨ys, h1, h2⟩ := h
  exact ⟨ys, s _ _ h1, h2.same s⟩
def GrL (E : CE) (K : PySem.W.Frag) (σ : St) (H0 : Hp) (te : TE) (es : List Dt) : Prop := ∀ (H : Hp) (Q : VK), Same H0 H → (∀ (H' : Hp) (l : Addr), Same H H' → LsD E K H' l es → Q (.ref l) H') → te σ H Q
def GrN (E : CE) (K : PySem.W.Frag) (σ : St) (H0 : Hp) (te : TE) (es : List Dt) : Prop := ∀ (H : Hp) (Q : VK), Same H0 H → (∀ (H' : Hp) (l : Addr), Same H H' → H l = none → LsD E K H' l es → Q (.ref l) H') → te σ H Q
def GrT (σ : St) (H0 : Hp) (tt : TT) (b : Bool) : Prop := ∀ (H : Hp) (Q : Bool → Hp → Prop), Same H0 H → (∀ H', Same H H' → Q b H') → tt σ H Q
section
variable {E : CE} {K : PySem.W.Frag} {σ : St} {H0 : Hp} {P : Nat → Prop}
theorem GrL.later {H1 : Hp} {te : TE} {es : List Dt} (h : GrL E K σ H0 te es) (s : Same H0 H1) : GrL E K σ H1 te es := fun H Q s1 k => h H Q (s.trans s1) k
theorem new_same {H : Hp} {p : Addr} {o : HO} (n : H p = none) : Same H (upd H p o) := fun b u e => by rw [upd_ne (ne_of_none e n)]; exact e
theorem gl_var {i : Nat} {l : Addr} {es : List Dt} (e : σ[i]? = some (some (.ref l))) (h : LsD E K H0 l es) : GrL E K σ H0 (tVar i) es := fun H Q s k => ⟨_, e, k H l (Same.refl H) (h.same s)⟩
theorem gl_lst {ta : TA} {es : List Dt} (h : GrA E K σ H0 ta es) (hl : es.length ≤ 1000) : GrL E K σ H0 (tLst ta) es := fun H Q s k =>
  h H _ s fun H1 vs s1 p => ⟨by rw [p.length]; exact Nat.le_trans hl (by decide), fun a na => k _ a (s1.trans (new_same na)) ⟨vs, upd_same, p.same (new_same na)⟩⟩
theorem gl_cat {t1 t2 : TE} {es fs : List Dt} (h1 : GrL E K σ H0 t1 es) (h2 : GrL E K σ H0 t2 fs) (hl : es.length + fs.length ≤ 1000) : GrL E K σ H0 (tOp rCat t1 t2) (es ++ fs) := fun H Q s k =>
  h1 H _ s fun H1 l1 s1 p1 => h2 H1 _ (s.trans s1) fun H2 l2 s2 p2 => by
    obtain ⟨ys, e1, a1⟩ := p1.same s2
    obtain ⟨zs, e2, a2⟩ := p2
    exact ⟨l1, l2, ys, zs, rfl, rfl, e1, e2, (by rw [a1.length, a2.length]; exact Nat.le_trans hl (by decide)), fun p np => k _ p ((s1.trans s2).trans (new_same np)) ⟨_, upd_same, (a1.append a2).same (new_same np)⟩⟩
/-- the same, the list new -/
theorem gn_lst {ta : TA} {es : List Dt} (h : GrA E K σ H0 ta es) (hl : es.length ≤ 1000) : GrN E K σ H0 (tLst ta) es := fun H Q s k =>
  h H _ s fun H1 vs s1 p => ⟨by rw [p.length]; exact Nat.le_trans hl (by decide), fun a na => k _ a (s1.trans (new_same na)) (s1.free na) ⟨vs, upd_same, p.same (new_same na)⟩⟩
theorem gn_cat {t1 t2 : TE} {es fs : List Dt} (h1 : GrL E K σ H0 t1 es) (h2 : GrL E K σ H0 t2 fs) (hl : es.length + fs.length ≤ 1000) : GrN E K σ H0 (tOp rCat t1 t2) (es ++ fs) := fun H Q s k =>
  h1 H _ s fun H1 l1 s1 p1 => h2 H1 _ (s.trans s1) fun H2 l2 s2 p2 => by
    obtain ⟨ys, e1, a1⟩ := p1.same s2
    obtain ⟨zs, e2, a2⟩ := p2
    exact ⟨l1, l2, ys, zs, rfl, rfl, e1, e2, (by rw [a1.length, a2.length]; exact Nat.le_trans hl (by decide)), fun p np => k _ p ((s1.trans s2).trans (new_same np)) ((s1.trans s2).free np) ⟨_, upd_same, (a1.append a2).same (new_same np)⟩⟩
/-! ### numbers, texts, truths -/
theorem gr_addI {t1 t2 : TE} {i j : Int} (h1 : GrD E K σ H0 t1 (.int i)) (h2 : GrD E K σ H0 t2 (.int j)) : GrD E K σ H0 (tOp (rI0 fun i j => .int (i + j)) t1 t2) (.int (i + j)) := fun H Q s k =>
  h1 H _ s fun H1 u s1 p1 => h2 H1 _ (s.trans s1) fun H2 v s2 p2 => by
    cases p1; cases p2
    exact ⟨i, j, rfl, rfl, k H2 _ (s1.trans s2) (.int _)⟩
theorem gr_addS {t1 t2 : TE} {x y : Str} (h1 : GrD E K σ H0 t1 (.str x)) (h2 : GrD E K σ H0 t2 (.str y)) (hl : x.length + y.length ≤ sizeLine) : GrD E K σ H0 (tOp (fun x y H Q => ∃ i j, x = .str i ∧ y = .str j ∧ i.length + j.length ≤ sizeLine ∧ Q (.str (i ++ j)) H) t1 t2) (.str (x ++ y)) := fun H Q s k =>
  h1 H _ s fun H1 u s1 p1 => h2 H1 _ (s.trans s1) fun H2 v s2 p2 => by
    cases p1; cases p2
    exact ⟨x, y, rfl, rfl, hl, k H2 _ (s1.trans s2) (.str _)⟩
theorem gr_not {t : TE} {b : Bool} (h : GrD E K σ H0 t (.bl b)) : GrD E K σ H0 (tNotV t) (.bl (!b)) := fun H Q s k =>
  h H _ s fun H1 u s1 p1 => by
    cases p1
    exact ⟨b, rfl, k H1 _ s1 (.bl _)⟩
/-! ### tests -/
theorem gt_neB {n : Nat} {t1 t2 : TE} {d e : Dt} {b : Bool} (h1 : GrD E K σ H0 t1 d) (h2 : GrD E K σ H0 t2 e) (hc : CmpD d e (!b)) (k1 : wt E d ≤ n) (k2 : wt E e ≤ n) (w1 : wf E P d) (w2 : wf E P e) (hk : (∃ c ds, d = .obj c ds) ∨ ∃ ds es, d = .tup ds ∧ e = .tup es) :
    GrT σ H0 (tTest (tOp (rCmpB (DDn E K P n)) t1 t2)) b := fun H Q s k =>
  h1 H _ s fun H1 u s1 p1 => h2 H1 _ (s.trans s1) fun H2 v s2 p2 => ⟨b, ⟨d, e, p1.same s2, p2, hc, k1, k2, w1, w2, hk⟩, fun H3 s3 => ⟨b, rfl, k H3 ((s1.trans s2).trans s3)⟩⟩
theorem gt_eqB {n : Nat} {t1 t2 : TE} {d e : Dt} {b : Bool} (h1 : GrD E K σ H0 t1 d) (h2 : GrD E K σ H0 t2 e) (hc : CmpD d e b) (k1 : wt E d ≤ n) (k2 : wt E e ≤ n) (w1 : wf E P d) (w2 : wf E P e) (hk : (isFl d && isFl e) = false) :
    GrT σ H0 (tTest (tOp (rCmpB (DDr E K P n)) t1 t2)) b := fun H Q s k =>
  h1 H _ s fun H1 u s1 p1 => h2 H1 _ (s.trans s1) fun H2 v s2 p2 => ⟨b, ⟨d, e, p1.same s2, p2, hc, k1, k2, w1, w2, hk⟩, fun H3 s3 => ⟨b, rfl, k H3 ((s1.trans s2).trans s3)⟩⟩
theorem gt_neI {t1 t2 : TE} {i j : Int} (h1 : GrD E K σ H0 t1 (.int i)) (h2 : GrD E K σ H0 t2 (.int j)) : GrT σ H0 (tTest (tOp rNe t1 t2)) (!decide (V.int i = V.int j)) := fun H Q s k =>
  h1 H _ s fun H1 u s1 p1 => h2 H1 _ (s.trans s1) fun H2 v s2 p2 => by
    cases p1; cases p2
    exact ⟨rfl, _, rfl, k H2 (s1.trans s2)⟩
theorem gt_isnot {t1 t2 : TE} {b c : Bool} (h1 : GrD E K σ H0 t1 (.bl b)) (h2 : GrD E K σ H0 t2 (.bl c)) : GrT σ H0 (tTest (tOp rNotB t1 t2)) (!(b == c)) := fun H Q s k =>
  h1 H _ s fun H1 u s1 p1 => h2 H1 _ (s.trans s1) fun H2 v s2 p2 => by
    cases p1; cases p2
    exact ⟨b, c, rfl, rfl, _, rfl, k H2 (s1.trans s2)⟩
theorem gt_or {t u : TT} {c : Bool} (h1 : GrT σ H0 t false) (h2 : GrT σ H0 u c) : GrT σ H0 (tOr t u) c := fun H Q s k => h1 H _ s fun H1 s1 => iteF (h2 H1 _ (s.trans s1) fun H2 s2 => k H2 (s1.trans s2))
theorem gt_not {t : TT} {b : Bool} (h : GrT σ H0 t b) : GrT σ H0 (tNot t) (!b) := fun H Q s k => h H _ s k
end
section
variable {E : CE} {K : PySem.W.Frag} {σ : St} {H : Hp} {D : Ends}
/-- if test: ..; u: the test is False -/
theorem s_if {tt : TT} {t1 u : TS} (h : GrT σ H tt false) (k : ∀ H', Same H H' → u D σ H') : tSeq (tIfS tt t1 tNext) u D σ H := r_seqIf0 (h H _ (Same.refl H) fun H' s => iteF (k H' s))
theorem s_set {te : TE} {i : Nat} {u : TS} {d : Dt} (h : GrD E K σ H te d) (k : ∀ H' v, Same H H' → HasD E K H' v d → u D (σ.set i (some v)) H') : tSeq (tAsg te (gName i)) u D σ H := r_seqSet (h H _ (Same.refl H) fun H' v s p => k H' v s p)
theorem s_setL {te : TE} {i : Nat} {u : TS} {es : List Dt} (h : GrL E K σ H te es) (k : ∀ H' l, Same H H' → LsD E K H' l es → u D (σ.set i (some (.ref l))) H') : tSeq (tAsg te (gName i)) u D σ H := r_seqSet (h H _ (Same.refl H) fun H' v s p => k H' v s p)
end
theorem s_setN {E : CE} {K : PySem.W.Frag} {σ : St} {H : Hp} {D : Ends} {te : TE} {i : Nat} {u : TS} {es : List Dt} (h : GrN E K σ H te es) (k : ∀ H' l, Same H H' → H l = none → LsD E K H' l es → u D (σ.set i (some (.ref l))) H') : tSeq (tAsg te (gName i)) u D σ H := r_seqSet (h H _ (Same.refl H) fun H' v s n p => k H' v s n p)
/-! ### a list is changed: no datum leans on it -/
mutual
theorem HasD.updL {E : CE} {K : PySem.W.Frag} {H : Hp} {l : Addr} {ys zs : List V} (hl : H l = some (.lst ys)) : ∀ {d : Dt} {v : V}, HasD E K H v d → HasD E K (upd H l (.lst zs)) v d
  | .non, _, h => by cases h; exact .non
  | .bl b, _, h => by cases h; exact .bl b
  | .int i, _, h => by cases h; exact .int i
  | .str z, _, h => by cases h; exact .str z
  | .tup ds, _, h => by
    cases h with
    | tup h1 h2 =>
      refine .tup ?_ (HasA.updL hl h2)
      rcases h1 with (h1 | ⟨o, h1⟩) | h1
      · exact .inl (.inl (by rw [upd_ne (ne_of h1 hl (fun z => by cases z))]; exact h1))
      · exact .inl (.inr ⟨o, by rw [upd_ne (ne_of h1 hl (fun z => by cases z))]; exact h1⟩)
      · exact .inr h1
  | .obj c ds, _, h => by
    cases h with
    | obj h1 h2 h3 => exact .obj (by rw [upd_ne (ne_of h1 hl (fun z => by cases z))]; exact h1) h2 (HasA.updL hl h3)
theorem HasA.updL {E : CE} {K : PySem.W.Frag} {H : Hp} {l : Addr} {ys zs : List V} (hl : H l = some (.lst ys)) : ∀ {ds : List Dt} {vs : List V}, HasA E K H vs ds → HasA E K (upd H l (.lst zs)) vs ds
  | [], _, h => by cases h; exact .nil
  | d :: ds, _, h => by cases h with | cons h1 h2 => exact .cons (HasD.updL hl h1) (HasA.updL hl h2)
end
end OC


set_option Elab.async false
set_option linter.all false
set_option maxRecDepth 100000
set_option maxHeartbeats 4000000
/-! K01a: the five classes: __init__, parts, == -/
namespace K01
open PySem L2 OC
def top (i : Nat) : Stmt := PySem.Challenge.pw_oldclients_k01_declared_things.main.body.getD i (.Pass ⟨0, 0, 0, 0⟩)
abbrev sI0 : Stmt := inClass (top 2) 0
abbrev sE0 : Stmt := inClass (top 2) 1
abbrev sP0 : Stmt := inClass (top 2) 2
abbrev sI1 : Stmt := inClass (top 3) 0
abbrev sE1 : Stmt := inClass (top 3) 1
abbrev sI2 : Stmt := inClass (top 4) 0
abbrev sE2 : Stmt := inClass (top 4) 1
abbrev sP2 : Stmt := inClass (top 4) 2
abbrev sI3 : Stmt := inClass (top 5) 0
abbrev sE3 : Stmt := inClass (top 5) 1
abbrev sP3 : Stmt := inClass (top 5) 2
abbrev sI4 : Stmt := inClass (top 6) 0
abbrev sE4 : Stmt := inClass (top 6) 1
abbrev sP4 : Stmt := inClass (top 6) 2
def nsL : List (List Str) := [["name", "form", "start", "shown"], ["variables", "steps"], ["name", "kind", "params", "result", "body", "shown"], ["name", "bases", "fields", "methods", "closed", "lent"], ["name", "params", "result", "body"]]
/-- the classes of the text -/
abbrev mkE (CS : List Addr) : CE := { C := fun c => CS.getD c (1000000 + c), ns := fun c => nsL.getD c [], lv := fun c => [5, 6, 8, 11, 8].getD c 100, bd := fun c => [0, 4, 6, 9, 6].getD c 0 }
abbrev P5 : Nat → Prop := fun c => c < 5
/-- self.f = .. so far -/
def Sto (H : Hp) (p C dx : Addr) (fs : List (Str × V)) (H' : Hp) : Prop := H' p = some (.ins C dx fs) ∧ ∀ b o, b ≠ p → H b = some o → H' b = some o
theorem putF_app {f : Str} {v : V} : ∀ {fs : List (Str × V)}, (fs.all fun p => decide (p.1 ≠ f)) = true → putF f v fs = fs ++ [(f, v)]
  | [], _ => rfl
  | (g, x) :: fs, h => by
    rw [List.all_cons, Bool.and_eq_true_iff] at h
    show (if g = f then _ else (g, x) :: putF f v fs) = _
    rw [if_neg (of_decide_eq_true h.1), putF_app h.2]; rfl
theorem sto_put {H H' : Hp} {p C dx : Addr} {fs : List (Str × V)} {f : Str} {v : V} (s : Sto H p C dx fs H') (h : (fs.all fun p => decide (p.1 ≠ f)) = true) : Sto H p C dx (fs ++ [(f, v)]) (upd H' p (.ins C dx (putF f v fs))) :=
  ⟨(by rw [upd_same, putF_app h]), fun b o nb e => by rw [upd_ne nb]; exact s.2 b o nb e⟩
theorem look_none {f : Str} : ∀ {ns : List Str} {xs : List V}, (ns.all fun n => decide (n ≠ f)) = true → (ns.zip xs).lookup f = none
  | [], _, _ => rfl
  | _ :: _, [], _ => rfl
  | n :: ns, x :: xs, h => by
    rw [List.all_cons, Bool.and_eq_true_iff] at h
    have b : (f == n) = false := by { simpa using fun z : f = n => (of_decide_eq_true h.1) z.symm }
    show List.lookup f ((n, x) :: ns.zip xs) = none
    simp only [List.lookup, b]; exact look_none h.2
/-- the promise of parts -/
def spP (E : CE) (K : PySem.W.Frag) (c : Nat) : Sp := fun vs H Q _ => ∃ (v : V) (ds : List Dt), vs = [v] ∧ HasD E K H v (.obj c ds) ∧ ds.length = (E.ns c).length ∧ ∀ (H' : Hp) (u : V), Same H H' → HasD E K H' u (.tup ds) → Q u H'
theorem gr_parts {E : CE} {K : PySem.W.Frag} {σ : St} {H0 : Hp} {c : Nat} {te : TE} {ds : List Dt} (h : GrD E K σ H0 te (.obj c ds)) (hn : ((E.ns c).all fun n => decide (n ≠ "parts")) = true) : GrD E K σ H0 (tMeth (E.C c) "parts" (spP E K c) [] E0 te tNil) (.tup ds) := fun H Q s k =>
  h H _ s fun H1 v s1 p => by
    cases id p with
    | @obj a dx _ xs _ p1 p2 p3 => exact ⟨a, dx, _, rfl, p1, look_none hn, _, ds, rfl, p, p2.symm, fun H2 u s2 q => k H2 u (s1.trans s2) q⟩
/-- == of two tuples of such data -/
def DDt (E : CE) (K : PySem.W.Frag) (P : Nat → Prop) (n : Nat) : EqvB := fun x y H b => ∃ d e, HasD E K H x d ∧ HasD E K H y e ∧ CmpD d e b ∧ wt E d ≤ n ∧ wt E e ≤ n ∧ wf E P d ∧ wf E P e ∧ ∃ ds es, d = .tup ds ∧ e = .tup es
theorem rcT {X : Cx} {E : CE} {P : Nat → Prop} {N : Nat} {f : Nat → Addr} {fd : Nat → FuncData} (hE : E.Inj) (G : XG X.K) (T : ∀ c, P c → Tyf X.K (E.C c)) (O : Owns X E P N f fd) : RcB X (N + 1) .Eq (DDt E X.K P (N + 1)) := by
  intro A pins s σ H x y u v b sb I rx ry h
  obtain ⟨d, e, h1, h2, hc, k1, k2, w1, w2, ds, es, rfl, rfl⟩ := h
  cases h1 with
  | tup p1 p2 =>
    cases h2 with
    | tup q1 q2 =>
      cases hc with
      | flat z _ => cases z
      | tup l => exact rcB_tup mon_DD (eq_dt hE G T O N (Nat.le_refl N)) A pins s σ H _ _ u v b sb I rx ry ⟨_, _, _, _, rfl, rfl, p1, q1, lex_of l p2 q2 (Nat.le_of_succ_le_succ k1) (Nat.le_of_succ_le_succ k2) w1 w2⟩
theorem r_andV {σ : St} {H : Hp} {Q : VK} {ta tb : TE} (h : ta σ H fun x H1 => ∃ c, x = .bl c ∧ if c = true then tb σ H1 Q else Q (.bl false) H1) : tAndV ta tb σ H Q := h
/-- isinstance of a datum against the class c -/
def kitD (c : Nat) : Dt → Bool
  | .obj c' _ => decide (c' = c)
  | _ => false
theorem kitD_self {c : Nat} {es : List Dt} : kitD c (.obj c es) = true := decide_eq_true rfl
theorem kitD_obj {c c' : Nat} {es : List Dt} (h : c ≠ c') : kitD c (.obj c' es) = false := decide_eq_false fun z => h z.symm
theorem kitD_fl {c : Nat} {e : Dt} (h : isFl e = true) : kitD c e = false := by cases e <;> first | rfl | exact absurd h Bool.false_ne_true
theorem kitD_ok {E : CE} {K : PySem.W.Frag} {P : Nat → Prop} {c : Nat} {e : Dt} (T : Tyf K (E.C c)) (TT : ∀ c, P c → Tyf K (E.C c)) (hE : E.Inj) (w : wf E P e) : PySem.W.kitOne K (tyD E e) (.ref (E.C c)) = some (kitD c e) := by
  cases e with
  | obj c' es =>
    show PySem.W.kitOne K (.ref (E.C c')) (.ref (E.C c)) = some (decide (c' = c))
    by_cases z : c' = c
    · subst z; unfold PySem.W.kitOne; rw [if_pos (by simp)]; simp
    · have nz : E.C c' ≠ E.C c := fun q => z (hE _ _ q)
      rw [decide_eq_false z]; exact kit_to T (by simpa using nz) ((TT c' w.1).sub nz)
  | non => exact kit_to T rfl (sub_ty (by simp))
  | bl b => exact kit_to T rfl (sub_ty (by simp))
  | int i => exact kit_to T rfl (sub_ty (by simp))
  | str z => exact kit_to T rfl (sub_ty (by simp))
  | tup ds => exact kit_to T rfl (sub_ty (by simp))
/-- an own ==, told without a context -/
structure OwnF (P : Program) (w : World) (K : PySem.W.Frag) (mg : Str → Option Value) (base : Heap) (E : CE) (c : Nat) (f : Addr) (fd : FuncData) : Prop where
  F : FnOk P w K mg base CX0 (E.lv c) f fd ["self", "other"] (spOwn (RD E K P5 c))
  hs : PySem.W.findIn K (.ref (E.C c)) "__eq__" = some (some (.ref f))
  hf : PySem.W.isFn K (.ref f) = true
  hb : Binds K fd ["self", "other"] []
  ne : PySem.W.findIn K (.ref (E.C c)) "__ne__" = some (some (.builtin "object.__ne__"))
section
variable {P : Program} {w : World} {K : PySem.W.Frag} {mg : Str → Option Value} {base : Heap} {CS : List Addr}
theorem OwnF.to {X : Cx} {E : CE} {c : Nat} {f : Addr} {fd : FuncData} (T : Tyf X.K (E.C c)) (h : OwnF X.prog X.w X.K X.mg X.base E c f fd) : OwnE X (E.lv c) (E.C c) f fd (RD E X.K P5 c) :=
  ⟨h.F, h.hs, h.hf, h.hb, h.ne, T.mo, T.no (by decide), T.no (by decide), T.no (by decide)⟩
theorem scI0 : FnScope ["self", "name", "form", "start", "shown"] ["self", "name", "form", "start", "shown"] (defScope sI0) := ⟨rfl, rfl, rfl, by decide +kernel, rfl, by decide +kernel, by decide +kernel⟩
theorem okI0 {f : Addr} {fd : FuncData} {dvs : List V} {kws : List (Str × V)} (F : FunD K "__init__" "Field.__init__" (defArgs sI0) (defBody sI0) (defScope sI0) dvs kws f fd) (T : Cls K ((mkE CS).C 0)) (no : ∀ z ∈ (["name", "form", "start", "shown"] : List Str), NoAttr K ((mkE CS).C 0) z) : FnOk P w K mg base CX0 1 f fd ["self", "name", "form", "start", "shown"] (spI (mkE CS) 0) := by
  refine F.ok scI0 (fun vs H Q E h => ?_) (fun cdv A outer s H vs Q E hr h => ?_)
  · obtain ⟨p, dx, ws, rfl, hl, _⟩ := h; exact congrArg Nat.succ hl
  · obtain ⟨p, dx, ws, rfl, hl, hp, k⟩ := h
    obtain ⟨x0, x1, x2, x3, rfl⟩ : ∃ x0 x1 x2 x3, ws = [x0, x1, x2, x3] := by { match ws, hl with | [x0, x1, x2, x3], _ => exact ⟨x0, x1, x2, x3, rfl⟩ }
    refine ⟨_, pss_cons (ps_fld (pv 0) (pv 1) rfl) (pss_cons (ps_fld (pv 0) (pv 2) rfl) (pss_cons (ps_fld (pv 0) (pv 3) rfl) (pss_one (ps_fld (pv 0) (pv 4) rfl)))), ?_⟩
    have q0 : Sto H p ((mkE CS).C 0) dx [] H := ⟨hp, fun b o _ e => e⟩
    have q1 : Sto H p ((mkE CS).C 0) dx [("name", x0)] _ := sto_put (f := "name") (v := x0) q0 rfl
    have q2 : Sto H p ((mkE CS).C 0) dx [("name", x0), ("form", x1)] _ := sto_put (f := "form") (v := x1) q1 (by simp <;> decide +kernel)
    have q3 : Sto H p ((mkE CS).C 0) dx [("name", x0), ("form", x1), ("start", x2)] _ := sto_put (f := "start") (v := x2) q2 (by simp <;> decide +kernel)
    have q4 : Sto H p ((mkE CS).C 0) dx [("name", x0), ("form", x1), ("start", x2), ("shown", x3)] _ := sto_put (f := "shown") (v := x3) q3 (by simp <;> decide +kernel)
    exact ⟨_, rfl, _, rfl, p, _, dx, _, rfl, q0.1, T, no _ (by decide +kernel), (by simp), _, rfl, _, rfl, p, _, dx, _, rfl, q1.1, T, no _ (by decide +kernel), (by simp), _, rfl, _, rfl, p, _, dx, _, rfl, q2.1, T, no _ (by decide +kernel), (by simp), _, rfl, _, rfl, p, _, dx, _, rfl, q3.1, T, no _ (by decide +kernel), (by simp), k _ q4.2 q4.1⟩
theorem scP0 : FnScope ["self"] ["self"] (defScope sP0) := ⟨rfl, rfl, rfl, by decide +kernel, rfl, by decide +kernel, by decide +kernel⟩
theorem okP0 {f : Addr} {fd : FuncData} (F : Fun K "parts" "Field.parts" sP0 f fd) (T : Cls K ((mkE CS).C 0)) (no : ∀ z ∈ (["name", "form", "start", "shown"] : List Str), NoAttr K ((mkE CS).C 0) z) : FnOk P w K mg base CX0 1 f fd ["self"] (spP (mkE CS) K 0) := by
  refine F.ok scP0 (fun vs H Q E h => ?_) (fun cdv A outer s H vs Q E hr h => ?_)
  · obtain ⟨v, ds, rfl, _⟩ := h; rfl
  · obtain ⟨v, ds, rfl, hv, hl, k⟩ := h
    obtain ⟨d0, d1, d2, d3, rfl⟩ : ∃ d0 d1 d2 d3, ds = [d0, d1, d2, d3] := by { match ds, hl with | [d0, d1, d2, d3], _ => exact ⟨d0, d1, d2, d3, rfl⟩ }
    refine ⟨_, pss_one (ps_ret (pe_tup (pa_cons (pe_fld (pv 0) rfl) (pa_cons (pe_fld (pv 0) rfl) (pa_cons (pe_fld (pv 0) rfl) (pa_cons (pe_fld (pv 0) rfl) pa_nil)))))), ?_⟩
    exact r_ret (gr_tup (gra_cons (gr_fld (j := 0) (gr_var rfl hv) T (no _ (by decide +kernel)) (show fldAt (nsL.getD 0 []) "name" 0 = true by decide +kernel) rfl) (gra_cons (gr_fld (j := 1) (gr_var rfl hv) T (no _ (by decide +kernel)) (show fldAt (nsL.getD 0 []) "form" 1 = true by decide +kernel) rfl) (gra_cons (gr_fld (j := 2) (gr_var rfl hv) T (no _ (by decide +kernel)) (show fldAt (nsL.getD 0 []) "start" 2 = true by decide +kernel) rfl) (gra_cons (gr_fld (j := 3) (gr_var rfl hv) T (no _ (by decide +kernel)) (show fldAt (nsL.getD 0 []) "shown" 3 = true by decide +kernel) rfl) gra_nil)))) (Nat.le_of_ble_eq_true rfl) H _ (Same.refl H) k)
theorem scE0 : FnScope ["self", "other"] ["self", "other"] (defScope sE0) := ⟨rfl, rfl, rfl, by decide +kernel, rfl, by decide +kernel, by decide +kernel⟩
theorem okE0 {f : Addr} {fd : FuncData} {fO : Nat → Addr} {gO : Nat → FuncData} (F : Fun K "__eq__" "Field.__eq__" sE0 f fd) (hI : mg "isinstance" = none) (hC : mg "Field" = some (.ref ((mkE CS).C 0))) (G : XG K) (hE : (mkE CS).Inj) (T : ∀ c, c < 5 → Tyf K ((mkE CS).C c)) {fP : Addr} {fdP : FuncData} (FP : FnOk P w K mg base CX0 1 fP fdP ["self"] (spP (mkE CS) K 0)) (mP : Meth K ((mkE CS).C 0) "parts" fP) (bP : Binds K fdP ["self"] [])
    (O : ∀ c, c < 5 → (mkE CS).lv c ≤ 0 → OwnF P w K mg base (mkE CS) c (fO c) (gO c)) : FnOk P w K mg base CX0 5 f fd ["self", "other"] (spOwn (RD (mkE CS) K P5 0)) := by
  refine F.ok scE0 (fun vs H Q E h => ?_) (fun cdv A outer s H vs Q E hr h => ?_)
  · obtain ⟨a, y, b, rfl, _⟩ := h; rfl
  · obtain ⟨a, y, b, rfl, ⟨ds, e, h1, h2, hc, w1, w2⟩, k⟩ := h
    refine ⟨_, pss_one (ps_ret (pe_and (pe_callB call_isi (by rfl) hI PyProof.Rows.boot_isinstance (pa_cons (pv 1) (pa_cons (pe_glob (v := .ref ((mkE CS).C 0)) rfl hC rfl) pa_nil))) (pe_one (pe_cmpR (op_eqB (rcT (E := mkE CS) (P := P5) (N := 0) hE G (fun c hc => T c hc) (fun c hc hl => OwnF.to (T c hc) (O c hc hl))) (hr.mono (by decide))) (pe_meth0 (pv 0) (T 0 (by decide)).cl mP FP (hr.mono (by decide)) bP .nil pass0) (pe_meth0 (pv 1) (T 0 (by decide)).cl mP FP (hr.mono (by decide)) bP .nil pass0) (nomark _))))), ?_⟩
    have ty := h2.ty G (fun c hc => T c hc) w2
    refine r_ret (r_andV (r_cb (r_consV rfl (r_consC (r_nil ⟨_, _, _, _, kitD 0 e, rfl, .own _, ty, kitD_ok (T 0 (by decide)) (fun c hc => T c hc) hE w2, _, rfl, ?_⟩)))))
    cases hc with
    | flat z _ => exact absurd z Bool.false_ne_true
    | @obj _ _ es _ l =>
      rw [kitD_self]; refine iteT ?_
      refine r_op ((gr_parts (gr_var rfl h1) (show ((nsL.getD 0 []).all fun n => decide (n ≠ "parts")) = true by decide +kernel)) H _ (Same.refl H) fun H1 u1 s1 p1 => (gr_parts (gr_var rfl h2) (show ((nsL.getD 0 []).all fun n => decide (n ≠ "parts")) = true by decide +kernel)).later s1 H1 _ (Same.refl H1) fun H2 u2 s2 p2 => ⟨b, ⟨_, _, p1.same s2, p2, .tup l, Nat.succ_le_succ w1.2.1, Nat.succ_le_succ w2.2.1, w1.2.2, w2.2.2, ⟨_, _, rfl, rfl⟩⟩, fun H3 s3 => k H3 ((s1.trans s2).trans s3)⟩)
    | objN z => rw [kitD_obj (fun q => z q)]; exact iteF (k H (Same.refl H))
    | objF z => rw [kitD_fl z]; exact iteF (k H (Same.refl H))
    | objT => exact iteF (k H (Same.refl H))
theorem scI1 : FnScope ["self", "variables", "steps"] ["self", "variables", "steps"] (defScope sI1) := ⟨rfl, rfl, rfl, by decide +kernel, rfl, by decide +kernel, by decide +kernel⟩
theorem okI1 {f : Addr} {fd : FuncData} {dvs : List V} {kws : List (Str × V)} (F : FunD K "__init__" "Body.__init__" (defArgs sI1) (defBody sI1) (defScope sI1) dvs kws f fd) (T : Cls K ((mkE CS).C 1)) (no : ∀ z ∈ (["variables", "steps"] : List Str), NoAttr K ((mkE CS).C 1) z) : FnOk P w K mg base CX0 1 f fd ["self", "variables", "steps"] (spI (mkE CS) 1) := by
  refine F.ok scI1 (fun vs H Q E h => ?_) (fun cdv A outer s H vs Q E hr h => ?_)
  · obtain ⟨p, dx, ws, rfl, hl, _⟩ := h; exact congrArg Nat.succ hl
  · obtain ⟨p, dx, ws, rfl, hl, hp, k⟩ := h
    obtain ⟨x0, x1, rfl⟩ : ∃ x0 x1, ws = [x0, x1] := by { match ws, hl with | [x0, x1], _ => exact ⟨x0, x1, rfl⟩ }
    refine ⟨_, pss_cons (ps_fld (pv 0) (pv 1) rfl) (pss_one (ps_fld (pv 0) (pv 2) rfl)), ?_⟩
    have q0 : Sto H p ((mkE CS).C 1) dx [] H := ⟨hp, fun b o _ e => e⟩
    have q1 : Sto H p ((mkE CS).C 1) dx [("variables", x0)] _ := sto_put (f := "variables") (v := x0) q0 rfl
    have q2 : Sto H p ((mkE CS).C 1) dx [("variables", x0), ("steps", x1)] _ := sto_put (f := "steps") (v := x1) q1 (by simp <;> decide +kernel)
    exact ⟨_, rfl, _, rfl, p, _, dx, _, rfl, q0.1, T, no _ (by decide +kernel), (by simp), _, rfl, _, rfl, p, _, dx, _, rfl, q1.1, T, no _ (by decide +kernel), (by simp), k _ q2.2 q2.1⟩
theorem scE1 : FnScope ["self", "other"] ["self", "other"] (defScope sE1) := ⟨rfl, rfl, rfl, by decide +kernel, rfl, by decide +kernel, by decide +kernel⟩
theorem okE1 {f : Addr} {fd : FuncData} {fO : Nat → Addr} {gO : Nat → FuncData} (F : Fun K "__eq__" "Body.__eq__" sE1 f fd) (hI : mg "isinstance" = none) (hC : mg "Body" = some (.ref ((mkE CS).C 1))) (G : XG K) (hE : (mkE CS).Inj) (T : ∀ c, c < 5 → Tyf K ((mkE CS).C c)) (no : ∀ z ∈ (["variables", "steps"] : List Str), NoAttr K ((mkE CS).C 1) z)
    (O : ∀ c, c < 5 → (mkE CS).lv c ≤ 4 → OwnF P w K mg base (mkE CS) c (fO c) (gO c)) : FnOk P w K mg base CX0 6 f fd ["self", "other"] (spOwn (RD (mkE CS) K P5 1)) := by
  refine F.ok scE1 (fun vs H Q E h => ?_) (fun cdv A outer s H vs Q E hr h => ?_)
  · obtain ⟨a, y, b, rfl, _⟩ := h; rfl
  · obtain ⟨a, y, b, rfl, ⟨ds, e, h1, h2, hc, w1, w2⟩, k⟩ := h
    refine ⟨_, pss_one (ps_ret (pe_and (pe_callB call_isi (by rfl) hI PyProof.Rows.boot_isinstance (pa_cons (pv 1) (pa_cons (pe_glob (v := .ref ((mkE CS).C 1)) rfl hC rfl) pa_nil))) (pe_one (pe_cmpR (op_eqB (rcT (E := mkE CS) (P := P5) (N := 4) hE G (fun c hc => T c hc) (fun c hc hl => OwnF.to (T c hc) (O c hc hl))) (hr.mono (by decide))) (pe_tup (pa_cons (pe_fld (pv 0) rfl) (pa_cons (pe_fld (pv 0) rfl) pa_nil))) (pe_tup (pa_cons (pe_fld (pv 1) rfl) (pa_cons (pe_fld (pv 1) rfl) pa_nil))) (nomark _))))), ?_⟩
    have ty := h2.ty G (fun c hc => T c hc) w2
    refine r_ret (r_andV (r_cb (r_consV rfl (r_consC (r_nil ⟨_, _, _, _, kitD 1 e, rfl, .own _, ty, kitD_ok (T 1 (by decide)) (fun c hc => T c hc) hE w2, _, rfl, ?_⟩)))))
    cases hc with
    | flat z _ => exact absurd z Bool.false_ne_true
    | @obj _ _ es _ l =>
      rw [kitD_self]; refine iteT ?_
      have l1 : ds.length = 2 := by { cases h1 with | obj _ q _ => exact q.symm }
      have l2 : es.length = 2 := by { cases h2 with | obj _ q _ => exact q.symm }
      obtain ⟨d0, d1, rfl⟩ : ∃ d0 d1, ds = [d0, d1] := by { match ds, l1 with | [d0, d1], _ => exact ⟨d0, d1, rfl⟩ }
      obtain ⟨e0, e1, rfl⟩ : ∃ d0 d1, es = [d0, d1] := by { match es, l2 with | [d0, d1], _ => exact ⟨d0, d1, rfl⟩ }
      refine r_op ((gr_tup (gra_cons (gr_fld (j := 0) (gr_var rfl h1) (T 1 (by decide)).cl (no _ (by decide +kernel)) (show fldAt (nsL.getD 1 []) "variables" 0 = true by decide +kernel) rfl) (gra_cons (gr_fld (j := 1) (gr_var rfl h1) (T 1 (by decide)).cl (no _ (by decide +kernel)) (show fldAt (nsL.getD 1 []) "steps" 1 = true by decide +kernel) rfl) gra_nil)) (Nat.le_of_ble_eq_true rfl)) H _ (Same.refl H) fun H1 u1 s1 p1 => (gr_tup (gra_cons (gr_fld (j := 0) (gr_var rfl h2) (T 1 (by decide)).cl (no _ (by decide +kernel)) (show fldAt (nsL.getD 1 []) "variables" 0 = true by decide +kernel) rfl) (gra_cons (gr_fld (j := 1) (gr_var rfl h2) (T 1 (by decide)).cl (no _ (by decide +kernel)) (show fldAt (nsL.getD 1 []) "steps" 1 = true by decide +kernel) rfl) gra_nil)) (Nat.le_of_ble_eq_true rfl)).later s1 H1 _ (Same.refl H1) fun H2 u2 s2 p2 => ⟨b, ⟨_, _, p1.same s2, p2, .tup l, Nat.succ_le_succ w1.2.1, Nat.succ_le_succ w2.2.1, w1.2.2, w2.2.2, ⟨_, _, rfl, rfl⟩⟩, fun H3 s3 => k H3 ((s1.trans s2).trans s3)⟩)
    | objN z => rw [kitD_obj (fun q => z q)]; exact iteF (k H (Same.refl H))
    | objF z => rw [kitD_fl z]; exact iteF (k H (Same.refl H))
    | objT => exact iteF (k H (Same.refl H))
theorem scI2 : FnScope ["self", "name", "kind", "params", "result", "body", "shown"] ["self", "name", "kind", "params", "result", "body", "shown"] (defScope sI2) := ⟨rfl, rfl, rfl, by decide +kernel, rfl, by decide +kernel, by decide +kernel⟩
theorem okI2 {f : Addr} {fd : FuncData} {dvs : List V} {kws : List (Str × V)} (F : FunD K "__init__" "Method.__init__" (defArgs sI2) (defBody sI2) (defScope sI2) dvs kws f fd) (T : Cls K ((mkE CS).C 2)) (no : ∀ z ∈ (["name", "kind", "params", "result", "body", "shown"] : List Str), NoAttr K ((mkE CS).C 2) z) : FnOk P w K mg base CX0 1 f fd ["self", "name", "kind", "params", "result", "body", "shown"] (spI (mkE CS) 2) := by
  refine F.ok scI2 (fun vs H Q E h => ?_) (fun cdv A outer s H vs Q E hr h => ?_)
  · obtain ⟨p, dx, ws, rfl, hl, _⟩ := h; exact congrArg Nat.succ hl
  · obtain ⟨p, dx, ws, rfl, hl, hp, k⟩ := h
    obtain ⟨x0, x1, x2, x3, x4, x5, rfl⟩ : ∃ x0 x1 x2 x3 x4 x5, ws = [x0, x1, x2, x3, x4, x5] := by { match ws, hl with | [x0, x1, x2, x3, x4, x5], _ => exact ⟨x0, x1, x2, x3, x4, x5, rfl⟩ }
    refine ⟨_, pss_cons (ps_fld (pv 0) (pv 1) rfl) (pss_cons (ps_fld (pv 0) (pv 2) rfl) (pss_cons (ps_fld (pv 0) (pv 3) rfl) (pss_cons (ps_fld (pv 0) (pv 4) rfl) (pss_cons (ps_fld (pv 0) (pv 5) rfl) (pss_one (ps_fld (pv 0) (pv 6) rfl)))))), ?_⟩
    have q0 : Sto H p ((mkE CS).C 2) dx [] H := ⟨hp, fun b o _ e => e⟩
    have q1 : Sto H p ((mkE CS).C 2) dx [("name", x0)] _ := sto_put (f := "name") (v := x0) q0 rfl
    have q2 : Sto H p ((mkE CS).C 2) dx [("name", x0), ("kind", x1)] _ := sto_put (f := "kind") (v := x1) q1 (by simp <;> decide +kernel)
    have q3 : Sto H p ((mkE CS).C 2) dx [("name", x0), ("kind", x1), ("params", x2)] _ := sto_put (f := "params") (v := x2) q2 (by simp <;> decide +kernel)
    have q4 : Sto H p ((mkE CS).C 2) dx [("name", x0), ("kind", x1), ("params", x2), ("result", x3)] _ := sto_put (f := "result") (v := x3) q3 (by simp <;> decide +kernel)
    have q5 : Sto H p ((mkE CS).C 2) dx [("name", x0), ("kind", x1), ("params", x2), ("result", x3), ("body", x4)] _ := sto_put (f := "body") (v := x4) q4 (by simp <;> decide +kernel)
    have q6 : Sto H p ((mkE CS).C 2) dx [("name", x0), ("kind", x1), ("params", x2), ("result", x3), ("body", x4), ("shown", x5)] _ := sto_put (f := "shown") (v := x5) q5 (by simp <;> decide +kernel)
    exact ⟨_, rfl, _, rfl, p, _, dx, _, rfl, q0.1, T, no _ (by decide +kernel), (by simp), _, rfl, _, rfl, p, _, dx, _, rfl, q1.1, T, no _ (by decide +kernel), (by simp), _, rfl, _, rfl, p, _, dx, _, rfl, q2.1, T, no _ (by decide +kernel), (by simp), _, rfl, _, rfl, p, _, dx, _, rfl, q3.1, T, no _ (by decide +kernel), (by simp), _, rfl, _, rfl, p, _, dx, _, rfl, q4.1, T, no _ (by decide +kernel), (by simp), _, rfl, _, rfl, p, _, dx, _, rfl, q5.1, T, no _ (by decide +kernel), (by simp), k _ q6.2 q6.1⟩
theorem scP2 : FnScope ["self"] ["self"] (defScope sP2) := ⟨rfl, rfl, rfl, by decide +kernel, rfl, by decide +kernel, by decide +kernel⟩
theorem okP2 {f : Addr} {fd : FuncData} (F : Fun K "parts" "Method.parts" sP2 f fd) (T : Cls K ((mkE CS).C 2)) (no : ∀ z ∈ (["name", "kind", "params", "result", "body", "shown"] : List Str), NoAttr K ((mkE CS).C 2) z) : FnOk P w K mg base CX0 1 f fd ["self"] (spP (mkE CS) K 2) := by
  refine F.ok scP2 (fun vs H Q E h => ?_) (fun cdv A outer s H vs Q E hr h => ?_)
  · obtain ⟨v, ds, rfl, _⟩ := h; rfl
  · obtain ⟨v, ds, rfl, hv, hl, k⟩ := h
    obtain ⟨d0, d1, d2, d3, d4, d5, rfl⟩ : ∃ d0 d1 d2 d3 d4 d5, ds = [d0, d1, d2, d3, d4, d5] := by { match ds, hl with | [d0, d1, d2, d3, d4, d5], _ => exact ⟨d0, d1, d2, d3, d4, d5, rfl⟩ }
    refine ⟨_, pss_one (ps_ret (pe_tup (pa_cons (pe_fld (pv 0) rfl) (pa_cons (pe_fld (pv 0) rfl) (pa_cons (pe_fld (pv 0) rfl) (pa_cons (pe_fld (pv 0) rfl) (pa_cons (pe_fld (pv 0) rfl) (pa_cons (pe_fld (pv 0) rfl) pa_nil)))))))), ?_⟩
    exact r_ret (gr_tup (gra_cons (gr_fld (j := 0) (gr_var rfl hv) T (no _ (by decide +kernel)) (show fldAt (nsL.getD 2 []) "name" 0 = true by decide +kernel) rfl) (gra_cons (gr_fld (j := 1) (gr_var rfl hv) T (no _ (by decide +kernel)) (show fldAt (nsL.getD 2 []) "kind" 1 = true by decide +kernel) rfl) (gra_cons (gr_fld (j := 2) (gr_var rfl hv) T (no _ (by decide +kernel)) (show fldAt (nsL.getD 2 []) "params" 2 = true by decide +kernel) rfl) (gra_cons (gr_fld (j := 3) (gr_var rfl hv) T (no _ (by decide +kernel)) (show fldAt (nsL.getD 2 []) "result" 3 = true by decide +kernel) rfl) (gra_cons (gr_fld (j := 4) (gr_var rfl hv) T (no _ (by decide +kernel)) (show fldAt (nsL.getD 2 []) "body" 4 = true by decide +kernel) rfl) (gra_cons (gr_fld (j := 5) (gr_var rfl hv) T (no _ (by decide +kernel)) (show fldAt (nsL.getD 2 []) "shown" 5 = true by decide +kernel) rfl) gra_nil)))))) (Nat.le_of_ble_eq_true rfl) H _ (Same.refl H) k)
theorem scE2 : FnScope ["self", "other"] ["self", "other"] (defScope sE2) := ⟨rfl, rfl, rfl, by decide +kernel, rfl, by decide +kernel, by decide +kernel⟩
theorem okE2 {f : Addr} {fd : FuncData} {fO : Nat → Addr} {gO : Nat → FuncData} (F : Fun K "__eq__" "Method.__eq__" sE2 f fd) (hI : mg "isinstance" = none) (hC : mg "Method" = some (.ref ((mkE CS).C 2))) (G : XG K) (hE : (mkE CS).Inj) (T : ∀ c, c < 5 → Tyf K ((mkE CS).C c)) {fP : Addr} {fdP : FuncData} (FP : FnOk P w K mg base CX0 1 fP fdP ["self"] (spP (mkE CS) K 2)) (mP : Meth K ((mkE CS).C 2) "parts" fP) (bP : Binds K fdP ["self"] [])
    (O : ∀ c, c < 5 → (mkE CS).lv c ≤ 6 → OwnF P w K mg base (mkE CS) c (fO c) (gO c)) : FnOk P w K mg base CX0 8 f fd ["self", "other"] (spOwn (RD (mkE CS) K P5 2)) := by
  refine F.ok scE2 (fun vs H Q E h => ?_) (fun cdv A outer s H vs Q E hr h => ?_)
  · obtain ⟨a, y, b, rfl, _⟩ := h; rfl
  · obtain ⟨a, y, b, rfl, ⟨ds, e, h1, h2, hc, w1, w2⟩, k⟩ := h
    refine ⟨_, pss_one (ps_ret (pe_and (pe_callB call_isi (by rfl) hI PyProof.Rows.boot_isinstance (pa_cons (pv 1) (pa_cons (pe_glob (v := .ref ((mkE CS).C 2)) rfl hC rfl) pa_nil))) (pe_one (pe_cmpR (op_eqB (rcT (E := mkE CS) (P := P5) (N := 6) hE G (fun c hc => T c hc) (fun c hc hl => OwnF.to (T c hc) (O c hc hl))) (hr.mono (by decide))) (pe_meth0 (pv 0) (T 2 (by decide)).cl mP FP (hr.mono (by decide)) bP .nil pass0) (pe_meth0 (pv 1) (T 2 (by decide)).cl mP FP (hr.mono (by decide)) bP .nil pass0) (nomark _))))), ?_⟩
    have ty := h2.ty G (fun c hc => T c hc) w2
    refine r_ret (r_andV (r_cb (r_consV rfl (r_consC (r_nil ⟨_, _, _, _, kitD 2 e, rfl, .own _, ty, kitD_ok (T 2 (by decide)) (fun c hc => T c hc) hE w2, _, rfl, ?_⟩)))))
    cases hc with
    | flat z _ => exact absurd z Bool.false_ne_true
    | @obj _ _ es _ l =>
      rw [kitD_self]; refine iteT ?_
      refine r_op ((gr_parts (gr_var rfl h1) (show ((nsL.getD 2 []).all fun n => decide (n ≠ "parts")) = true by decide +kernel)) H _ (Same.refl H) fun H1 u1 s1 p1 => (gr_parts (gr_var rfl h2) (show ((nsL.getD 2 []).all fun n => decide (n ≠ "parts")) = true by decide +kernel)).later s1 H1 _ (Same.refl H1) fun H2 u2 s2 p2 => ⟨b, ⟨_, _, p1.same s2, p2, .tup l, Nat.succ_le_succ w1.2.1, Nat.succ_le_succ w2.2.1, w1.2.2, w2.2.2, ⟨_, _, rfl, rfl⟩⟩, fun H3 s3 => k H3 ((s1.trans s2).trans s3)⟩)
    | objN z => rw [kitD_obj (fun q => z q)]; exact iteF (k H (Same.refl H))
    | objF z => rw [kitD_fl z]; exact iteF (k H (Same.refl H))
    | objT => exact iteF (k H (Same.refl H))
theorem scI3 : FnScope ["self", "name", "bases", "fields", "methods", "closed", "lent"] ["self", "name", "bases", "fields", "methods", "closed", "lent"] (defScope sI3) := ⟨rfl, rfl, rfl, by decide +kernel, rfl, by decide +kernel, by decide +kernel⟩
theorem okI3 {f : Addr} {fd : FuncData} {dvs : List V} {kws : List (Str × V)} (F : FunD K "__init__" "Class.__init__" (defArgs sI3) (defBody sI3) (defScope sI3) dvs kws f fd) (T : Cls K ((mkE CS).C 3)) (no : ∀ z ∈ (["name", "bases", "fields", "methods", "closed", "lent"] : List Str), NoAttr K ((mkE CS).C 3) z) : FnOk P w K mg base CX0 1 f fd ["self", "name", "bases", "fields", "methods", "closed", "lent"] (spI (mkE CS) 3) := by
  refine F.ok scI3 (fun vs H Q E h => ?_) (fun cdv A outer s H vs Q E hr h => ?_)
  · obtain ⟨p, dx, ws, rfl, hl, _⟩ := h; exact congrArg Nat.succ hl
  · obtain ⟨p, dx, ws, rfl, hl, hp, k⟩ := h
    obtain ⟨x0, x1, x2, x3, x4, x5, rfl⟩ : ∃ x0 x1 x2 x3 x4 x5, ws = [x0, x1, x2, x3, x4, x5] := by { match ws, hl with | [x0, x1, x2, x3, x4, x5], _ => exact ⟨x0, x1, x2, x3, x4, x5, rfl⟩ }
    refine ⟨_, pss_cons (ps_fld (pv 0) (pv 1) rfl) (pss_cons (ps_fld (pv 0) (pv 2) rfl) (pss_cons (ps_fld (pv 0) (pv 3) rfl) (pss_cons (ps_fld (pv 0) (pv 4) rfl) (pss_cons (ps_fld (pv 0) (pv 5) rfl) (pss_one (ps_fld (pv 0) (pv 6) rfl)))))), ?_⟩
    have q0 : Sto H p ((mkE CS).C 3) dx [] H := ⟨hp, fun b o _ e => e⟩
    have q1 : Sto H p ((mkE CS).C 3) dx [("name", x0)] _ := sto_put (f := "name") (v := x0) q0 rfl
    have q2 : Sto H p ((mkE CS).C 3) dx [("name", x0), ("bases", x1)] _ := sto_put (f := "bases") (v := x1) q1 (by simp <;> decide +kernel)
    have q3 : Sto H p ((mkE CS).C 3) dx [("name", x0), ("bases", x1), ("fields", x2)] _ := sto_put (f := "fields") (v := x2) q2 (by simp <;> decide +kernel)
    have q4 : Sto H p ((mkE CS).C 3) dx [("name", x0), ("bases", x1), ("fields", x2), ("methods", x3)] _ := sto_put (f := "methods") (v := x3) q3 (by simp <;> decide +kernel)
    have q5 : Sto H p ((mkE CS).C 3) dx [("name", x0), ("bases", x1), ("fields", x2), ("methods", x3), ("closed", x4)] _ := sto_put (f := "closed") (v := x4) q4 (by simp <;> decide +kernel)
    have q6 : Sto H p ((mkE CS).C 3) dx [("name", x0), ("bases", x1), ("fields", x2), ("methods", x3), ("closed", x4), ("lent", x5)] _ := sto_put (f := "lent") (v := x5) q5 (by simp <;> decide +kernel)
    exact ⟨_, rfl, _, rfl, p, _, dx, _, rfl, q0.1, T, no _ (by decide +kernel), (by simp), _, rfl, _, rfl, p, _, dx, _, rfl, q1.1, T, no _ (by decide +kernel), (by simp), _, rfl, _, rfl, p, _, dx, _, rfl, q2.1, T, no _ (by decide +kernel), (by simp), _, rfl, _, rfl, p, _, dx, _, rfl, q3.1, T, no _ (by decide +kernel), (by simp), _, rfl, _, rfl, p, _, dx, _, rfl, q4.1, T, no _ (by decide +kernel), (by simp), _, rfl, _, rfl, p, _, dx, _, rfl, q5.1, T, no _ (by decide +kernel), (by simp), k _ q6.2 q6.1⟩
theorem scP3 : FnScope ["self"] ["self"] (defScope sP3) := ⟨rfl, rfl, rfl, by decide +kernel, rfl, by decide +kernel, by decide +kernel⟩
theorem okP3 {f : Addr} {fd : FuncData} (F : Fun K "parts" "Class.parts" sP3 f fd) (T : Cls K ((mkE CS).C 3)) (no : ∀ z ∈ (["name", "bases", "fields", "methods", "closed", "lent"] : List Str), NoAttr K ((mkE CS).C 3) z) : FnOk P w K mg base CX0 1 f fd ["self"] (spP (mkE CS) K 3) := by
  refine F.ok scP3 (fun vs H Q E h => ?_) (fun cdv A outer s H vs Q E hr h => ?_)
  · obtain ⟨v, ds, rfl, _⟩ := h; rfl
  · obtain ⟨v, ds, rfl, hv, hl, k⟩ := h
    obtain ⟨d0, d1, d2, d3, d4, d5, rfl⟩ : ∃ d0 d1 d2 d3 d4 d5, ds = [d0, d1, d2, d3, d4, d5] := by { match ds, hl with | [d0, d1, d2, d3, d4, d5], _ => exact ⟨d0, d1, d2, d3, d4, d5, rfl⟩ }
    refine ⟨_, pss_one (ps_ret (pe_tup (pa_cons (pe_fld (pv 0) rfl) (pa_cons (pe_fld (pv 0) rfl) (pa_cons (pe_fld (pv 0) rfl) (pa_cons (pe_fld (pv 0) rfl) (pa_cons (pe_fld (pv 0) rfl) (pa_cons (pe_fld (pv 0) rfl) pa_nil)))))))), ?_⟩
    exact r_ret (gr_tup (gra_cons (gr_fld (j := 0) (gr_var rfl hv) T (no _ (by decide +kernel)) (show fldAt (nsL.getD 3 []) "name" 0 = true by decide +kernel) rfl) (gra_cons (gr_fld (j := 1) (gr_var rfl hv) T (no _ (by decide +kernel)) (show fldAt (nsL.getD 3 []) "bases" 1 = true by decide +kernel) rfl) (gra_cons (gr_fld (j := 2) (gr_var rfl hv) T (no _ (by decide +kernel)) (show fldAt (nsL.getD 3 []) "fields" 2 = true by decide +kernel) rfl) (gra_cons (gr_fld (j := 3) (gr_var rfl hv) T (no _ (by decide +kernel)) (show fldAt (nsL.getD 3 []) "methods" 3 = true by decide +kernel) rfl) (gra_cons (gr_fld (j := 4) (gr_var rfl hv) T (no _ (by decide +kernel)) (show fldAt (nsL.getD 3 []) "closed" 4 = true by decide +kernel) rfl) (gra_cons (gr_fld (j := 5) (gr_var rfl hv) T (no _ (by decide +kernel)) (show fldAt (nsL.getD 3 []) "lent" 5 = true by decide +kernel) rfl) gra_nil)))))) (Nat.le_of_ble_eq_true rfl) H _ (Same.refl H) k)
theorem scE3 : FnScope ["self", "other"] ["self", "other"] (defScope sE3) := ⟨rfl, rfl, rfl, by decide +kernel, rfl, by decide +kernel, by decide +kernel⟩
theorem okE3 {f : Addr} {fd : FuncData} {fO : Nat → Addr} {gO : Nat → FuncData} (F : Fun K "__eq__" "Class.__eq__" sE3 f fd) (hI : mg "isinstance" = none) (hC : mg "Class" = some (.ref ((mkE CS).C 3))) (G : XG K) (hE : (mkE CS).Inj) (T : ∀ c, c < 5 → Tyf K ((mkE CS).C c)) {fP : Addr} {fdP : FuncData} (FP : FnOk P w K mg base CX0 1 fP fdP ["self"] (spP (mkE CS) K 3)) (mP : Meth K ((mkE CS).C 3) "parts" fP) (bP : Binds K fdP ["self"] [])
    (O : ∀ c, c < 5 → (mkE CS).lv c ≤ 9 → OwnF P w K mg base (mkE CS) c (fO c) (gO c)) : FnOk P w K mg base CX0 11 f fd ["self", "other"] (spOwn (RD (mkE CS) K P5 3)) := by
  refine F.ok scE3 (fun vs H Q E h => ?_) (fun cdv A outer s H vs Q E hr h => ?_)
  · obtain ⟨a, y, b, rfl, _⟩ := h; rfl
  · obtain ⟨a, y, b, rfl, ⟨ds, e, h1, h2, hc, w1, w2⟩, k⟩ := h
    refine ⟨_, pss_one (ps_ret (pe_and (pe_callB call_isi (by rfl) hI PyProof.Rows.boot_isinstance (pa_cons (pv 1) (pa_cons (pe_glob (v := .ref ((mkE CS).C 3)) rfl hC rfl) pa_nil))) (pe_one (pe_cmpR (op_eqB (rcT (E := mkE CS) (P := P5) (N := 9) hE G (fun c hc => T c hc) (fun c hc hl => OwnF.to (T c hc) (O c hc hl))) (hr.mono (by decide))) (pe_meth0 (pv 0) (T 3 (by decide)).cl mP FP (hr.mono (by decide)) bP .nil pass0) (pe_meth0 (pv 1) (T 3 (by decide)).cl mP FP (hr.mono (by decide)) bP .nil pass0) (nomark _))))), ?_⟩
    have ty := h2.ty G (fun c hc => T c hc) w2
    refine r_ret (r_andV (r_cb (r_consV rfl (r_consC (r_nil ⟨_, _, _, _, kitD 3 e, rfl, .own _, ty, kitD_ok (T 3 (by decide)) (fun c hc => T c hc) hE w2, _, rfl, ?_⟩)))))
    cases hc with
    | flat z _ => exact absurd z Bool.false_ne_true
    | @obj _ _ es _ l =>
      rw [kitD_self]; refine iteT ?_
      refine r_op ((gr_parts (gr_var rfl h1) (show ((nsL.getD 3 []).all fun n => decide (n ≠ "parts")) = true by decide +kernel)) H _ (Same.refl H) fun H1 u1 s1 p1 => (gr_parts (gr_var rfl h2) (show ((nsL.getD 3 []).all fun n => decide (n ≠ "parts")) = true by decide +kernel)).later s1 H1 _ (Same.refl H1) fun H2 u2 s2 p2 => ⟨b, ⟨_, _, p1.same s2, p2, .tup l, Nat.succ_le_succ w1.2.1, Nat.succ_le_succ w2.2.1, w1.2.2, w2.2.2, ⟨_, _, rfl, rfl⟩⟩, fun H3 s3 => k H3 ((s1.trans s2).trans s3)⟩)
    | objN z => rw [kitD_obj (fun q => z q)]; exact iteF (k H (Same.refl H))
    | objF z => rw [kitD_fl z]; exact iteF (k H (Same.refl H))
    | objT => exact iteF (k H (Same.refl H))
theorem scI4 : FnScope ["self", "name", "params", "result", "body"] ["self", "name", "params", "result", "body"] (defScope sI4) := ⟨rfl, rfl, rfl, by decide +kernel, rfl, by decide +kernel, by decide +kernel⟩
theorem okI4 {f : Addr} {fd : FuncData} {dvs : List V} {kws : List (Str × V)} (F : FunD K "__init__" "Routine.__init__" (defArgs sI4) (defBody sI4) (defScope sI4) dvs kws f fd) (T : Cls K ((mkE CS).C 4)) (no : ∀ z ∈ (["name", "params", "result", "body"] : List Str), NoAttr K ((mkE CS).C 4) z) : FnOk P w K mg base CX0 1 f fd ["self", "name", "params", "result", "body"] (spI (mkE CS) 4) := by
  refine F.ok scI4 (fun vs H Q E h => ?_) (fun cdv A outer s H vs Q E hr h => ?_)
  · obtain ⟨p, dx, ws, rfl, hl, _⟩ := h; exact congrArg Nat.succ hl
  · obtain ⟨p, dx, ws, rfl, hl, hp, k⟩ := h
    obtain ⟨x0, x1, x2, x3, rfl⟩ : ∃ x0 x1 x2 x3, ws = [x0, x1, x2, x3] := by { match ws, hl with | [x0, x1, x2, x3], _ => exact ⟨x0, x1, x2, x3, rfl⟩ }
    refine ⟨_, pss_cons (ps_fld (pv 0) (pv 1) rfl) (pss_cons (ps_fld (pv 0) (pv 2) rfl) (pss_cons (ps_fld (pv 0) (pv 3) rfl) (pss_one (ps_fld (pv 0) (pv 4) rfl)))), ?_⟩
    have q0 : Sto H p ((mkE CS).C 4) dx [] H := ⟨hp, fun b o _ e => e⟩
    have q1 : Sto H p ((mkE CS).C 4) dx [("name", x0)] _ := sto_put (f := "name") (v := x0) q0 rfl
    have q2 : Sto H p ((mkE CS).C 4) dx [("name", x0), ("params", x1)] _ := sto_put (f := "params") (v := x1) q1 (by simp <;> decide +kernel)
    have q3 : Sto H p ((mkE CS).C 4) dx [("name", x0), ("params", x1), ("result", x2)] _ := sto_put (f := "result") (v := x2) q2 (by simp <;> decide +kernel)
    have q4 : Sto H p ((mkE CS).C 4) dx [("name", x0), ("params", x1), ("result", x2), ("body", x3)] _ := sto_put (f := "body") (v := x3) q3 (by simp <;> decide +kernel)
    exact ⟨_, rfl, _, rfl, p, _, dx, _, rfl, q0.1, T, no _ (by decide +kernel), (by simp), _, rfl, _, rfl, p, _, dx, _, rfl, q1.1, T, no _ (by decide +kernel), (by simp), _, rfl, _, rfl, p, _, dx, _, rfl, q2.1, T, no _ (by decide +kernel), (by simp), _, rfl, _, rfl, p, _, dx, _, rfl, q3.1, T, no _ (by decide +kernel), (by simp), k _ q4.2 q4.1⟩
theorem scP4 : FnScope ["self"] ["self"] (defScope sP4) := ⟨rfl, rfl, rfl, by decide +kernel, rfl, by decide +kernel, by decide +kernel⟩
theorem okP4 {f : Addr} {fd : FuncData} (F : Fun K "parts" "Routine.parts" sP4 f fd) (T : Cls K ((mkE CS).C 4)) (no : ∀ z ∈ (["name", "params", "result", "body"] : List Str), NoAttr K ((mkE CS).C 4) z) : FnOk P w K mg base CX0 1 f fd ["self"] (spP (mkE CS) K 4) := by
  refine F.ok scP4 (fun vs H Q E h => ?_) (fun cdv A outer s H vs Q E hr h => ?_)
  · obtain ⟨v, ds, rfl, _⟩ := h; rfl
  · obtain ⟨v, ds, rfl, hv, hl, k⟩ := h
    obtain ⟨d0, d1, d2, d3, rfl⟩ : ∃ d0 d1 d2 d3, ds = [d0, d1, d2, d3] := by { match ds, hl with | [d0, d1, d2, d3], _ => exact ⟨d0, d1, d2, d3, rfl⟩ }
    refine ⟨_, pss_one (ps_ret (pe_tup (pa_cons (pe_fld (pv 0) rfl) (pa_cons (pe_fld (pv 0) rfl) (pa_cons (pe_fld (pv 0) rfl) (pa_cons (pe_fld (pv 0) rfl) pa_nil)))))), ?_⟩
    exact r_ret (gr_tup (gra_cons (gr_fld (j := 0) (gr_var rfl hv) T (no _ (by decide +kernel)) (show fldAt (nsL.getD 4 []) "name" 0 = true by decide +kernel) rfl) (gra_cons (gr_fld (j := 1) (gr_var rfl hv) T (no _ (by decide +kernel)) (show fldAt (nsL.getD 4 []) "params" 1 = true by decide +kernel) rfl) (gra_cons (gr_fld (j := 2) (gr_var rfl hv) T (no _ (by decide +kernel)) (show fldAt (nsL.getD 4 []) "result" 2 = true by decide +kernel) rfl) (gra_cons (gr_fld (j := 3) (gr_var rfl hv) T (no _ (by decide +kernel)) (show fldAt (nsL.getD 4 []) "body" 3 = true by decide +kernel) rfl) gra_nil)))) (Nat.le_of_ble_eq_true rfl) H _ (Same.refl H) k)
theorem scE4 : FnScope ["self", "other"] ["self", "other"] (defScope sE4) := ⟨rfl, rfl, rfl, by decide +kernel, rfl, by decide +kernel, by decide +kernel⟩
theorem okE4 {f : Addr} {fd : FuncData} {fO : Nat → Addr} {gO : Nat → FuncData} (F : Fun K "__eq__" "Routine.__eq__" sE4 f fd) (hI : mg "isinstance" = none) (hC : mg "Routine" = some (.ref ((mkE CS).C 4))) (G : XG K) (hE : (mkE CS).Inj) (T : ∀ c, c < 5 → Tyf K ((mkE CS).C c)) {fP : Addr} {fdP : FuncData} (FP : FnOk P w K mg base CX0 1 fP fdP ["self"] (spP (mkE CS) K 4)) (mP : Meth K ((mkE CS).C 4) "parts" fP) (bP : Binds K fdP ["self"] [])
    (O : ∀ c, c < 5 → (mkE CS).lv c ≤ 6 → OwnF P w K mg base (mkE CS) c (fO c) (gO c)) : FnOk P w K mg base CX0 8 f fd ["self", "other"] (spOwn (RD (mkE CS) K P5 4)) := by
  refine F.ok scE4 (fun vs H Q E h => ?_) (fun cdv A outer s H vs Q E hr h => ?_)
  · obtain ⟨a, y, b, rfl, _⟩ := h; rfl
  · obtain ⟨a, y, b, rfl, ⟨ds, e, h1, h2, hc, w1, w2⟩, k⟩ := h
    refine ⟨_, pss_one (ps_ret (pe_and (pe_callB call_isi (by rfl) hI PyProof.Rows.boot_isinstance (pa_cons (pv 1) (pa_cons (pe_glob (v := .ref ((mkE CS).C 4)) rfl hC rfl) pa_nil))) (pe_one (pe_cmpR (op_eqB (rcT (E := mkE CS) (P := P5) (N := 6) hE G (fun c hc => T c hc) (fun c hc hl => OwnF.to (T c hc) (O c hc hl))) (hr.mono (by decide))) (pe_meth0 (pv 0) (T 4 (by decide)).cl mP FP (hr.mono (by decide)) bP .nil pass0) (pe_meth0 (pv 1) (T 4 (by decide)).cl mP FP (hr.mono (by decide)) bP .nil pass0) (nomark _))))), ?_⟩
    have ty := h2.ty G (fun c hc => T c hc) w2
    refine r_ret (r_andV (r_cb (r_consV rfl (r_consC (r_nil ⟨_, _, _, _, kitD 4 e, rfl, .own _, ty, kitD_ok (T 4 (by decide)) (fun c hc => T c hc) hE w2, _, rfl, ?_⟩)))))
    cases hc with
    | flat z _ => exact absurd z Bool.false_ne_true
    | @obj _ _ es _ l =>
      rw [kitD_self]; refine iteT ?_
      refine r_op ((gr_parts (gr_var rfl h1) (show ((nsL.getD 4 []).all fun n => decide (n ≠ "parts")) = true by decide +kernel)) H _ (Same.refl H) fun H1 u1 s1 p1 => (gr_parts (gr_var rfl h2) (show ((nsL.getD 4 []).all fun n => decide (n ≠ "parts")) = true by decide +kernel)).later s1 H1 _ (Same.refl H1) fun H2 u2 s2 p2 => ⟨b, ⟨_, _, p1.same s2, p2, .tup l, Nat.succ_le_succ w1.2.1, Nat.succ_le_succ w2.2.1, w1.2.2, w2.2.2, ⟨_, _, rfl, rfl⟩⟩, fun H3 s3 => k H3 ((s1.trans s2).trans s3)⟩)
    | objN z => rw [kitD_obj (fun q => z q)]; exact iteF (k H (Same.refl H))
    | objF z => rw [kitD_fl z]; exact iteF (k H (Same.refl H))
    | objT => exact iteF (k H (Same.refl H))
end
end K01


set_option Elab.async false
set_option linter.all false
set_option maxRecDepth 100000
set_option maxHeartbeats 4000000
/-! K01b: the law's defs over the classes -/
namespace K01
open PySem L2 OC
abbrev sDraw : Stmt := top 8
abbrev sUnlike : Stmt := top 9
abbrev sField : Stmt := top 10
abbrev sBody : Stmt := top 11
abbrev sMethod : Stmt := top 12
abbrev sClass : Stmt := top 13
abbrev sRoutine : Stmt := top 14
abbrev sRight : Stmt := top 15
abbrev sLaw : Stmt := top 16
inductive All4 (R : Dt → Prop) : List Dt → Prop
  | nil : All4 R []
  | cons {d : Dt} {ds : List Dt} : R d → All4 R ds → All4 R (d :: ds)
theorem All4.get {R : Dt → Prop} : ∀ {ds : List Dt} {i : Nat} {d : Dt}, All4 R ds → ds[i]? = some d → R d
  | _, _, _, .nil, e => by simp at e
  | _, 0, _, .cons h t, e => by simp at e; subst e; exact h
  | _, i + 1, _, .cons h t, e => t.get (i := i) (by simpa using e)
/-- unlike_right: one is unlike all others -/
def spU (E : CE) (K : PySem.W.Frag) : Sp := fun vs H Q _ => ∃ (v : V) (l : Addr) (c : Nat) (ds : List Dt) (es : List Dt), vs = [v, .ref l] ∧ HasD E K H v (.obj c ds) ∧ LsD E K H l es ∧ wt E (.obj c ds) ≤ 11 ∧ wf E P5 (.obj c ds) ∧
  All4 (fun e => CmpD (.obj c ds) e false ∧ CmpD e (.obj c ds) false ∧ wt E e ≤ 11 ∧ wf E P5 e) es ∧ ∀ H', Same H H' → Q (.bl true) H'
/-- a class that can be made -/
structure MkF (P : Program) (w : World) (K : PySem.W.Frag) (mg : Str → Option Value) (base : Heap) (E : CE) (c : Nat) (nm : Str) (ps ks : List Str) (dvs : List V) (des : List Dt) (fI : Addr) (fd : FuncData) : Prop where
  M : Mk K (E.C c) fI
  G : FnOk P w K mg base CX0 1 fI fd ps (spI E c)
  m : mg nm = some (.ref (E.C c))
  dd : ∀ (j : Nat) (H : Hp), HasA E K H (dvs.drop j) (des.drop j)
  b : ∀ j, j ≤ dvs.length → ∃ ds, Vals (dvs.drop j) ds ∧ Binds K fd ps ds
  kw : KBn K fd ps 1 ks gR gR
theorem str_len_app (x y : Str) : (x ++ y).length = x.length + y.length := by
  first | exact Str.length_append x y | (show (x ++ y).cps.size = _; simp [HAppend.hAppend, Append.append]) | simp
theorem str_app_ne {x y : Str} (h : 0 < y.length) : eqV (flV (.str x)) (flV (.str (x ++ y))) = false := by
  show (x == (x ++ y)) = false
  refine Bool.eq_false_iff.mpr fun q => ?_
  have e : x = x ++ y := eq_of_beq q
  have l := congrArg Str.length e
  rw [str_len_app] at l; omega
theorem str_app_ne' {x y : Str} (h : 0 < y.length) : eqV (flV (.str (x ++ y))) (flV (.str x)) = false := by
  show ((x ++ y) == x) = false
  refine Bool.eq_false_iff.mpr fun q => ?_
  have e : x ++ y = x := eq_of_beq q
  have l := congrArg Str.length e
  rw [str_len_app] at l; omega
theorem int_s {c : Int} : eqV (flV (.int c)) (flV (.int (c + 1))) = false := by
  show (c == c + 1) = false
  exact beq_eq_false_iff_ne.mpr (by omega)
theorem int_s' {c : Int} : eqV (flV (.int (c + 1))) (flV (.int c)) = false := by
  show (c + 1 == c) = false
  exact beq_eq_false_iff_ne.mpr (by omega)
theorem bl_n (d : Bool) : eqV (flV (.bl d)) (flV (.bl (!d))) = false := by cases d <;> rfl
theorem bl_n' (d : Bool) : eqV (flV (.bl (!d))) (flV (.bl d)) = false := by cases d <;> rfl
theorem tyV_lst {K : PySem.W.Frag} {H : Hp} {p : Addr} {xs : List V} (h : H p = some (.lst xs)) : tyV K "list" (.ref p) H := .inl ⟨rfl, _, SqL.of h⟩
theorem short_of {x y : Str} (h : x.length ≤ 100) (h' : y.length ≤ 100) : x.length + y.length ≤ sizeLine := Nat.le_trans (Nat.add_le_add h h') (by decide)
theorem keepL {H H1 H2 : Hp} {l : Addr} {ys zs : List V} (S : Same H H1) (s : Same H1 H2) (el : H2 l = some (.lst ys)) (nl : H l = none) : Same H (upd H2 l (.lst zs)) := fun b o z => by rw [upd_ne (ne_of_none z nl)]; exact s _ _ (S b o z)
section
variable {P : Program} {w : World} {K : PySem.W.Frag} {mg : Str → Option Value} {base : Heap} {CS : List Addr}
theorem scU : FnScope ["_law_one", "_law_others", "_law_other"] ["_law_one", "_law_others"] (defScope sUnlike) := ⟨rfl, rfl, rfl, by decide +kernel, rfl, by decide +kernel, by decide +kernel⟩
theorem okUnlike {f : Addr} {fd : FuncData} {fO : Nat → Addr} {gO : Nat → FuncData} (F : Fun K "_law_unlike_right" "_law_unlike_right" sUnlike f fd) (G : XG K) (hE : (mkE CS).Inj) (T : ∀ c, c < 5 → Tyf K ((mkE CS).C c))
    (O : ∀ c, c < 5 → (mkE CS).lv c ≤ 11 → OwnF P w K mg base (mkE CS) c (fO c) (gO c)) : FnOk P w K mg base CX0 13 f fd ["_law_one", "_law_others"] (spU (mkE CS) K) := by
  refine F.ok scU (fun vs H Q E h => ?_) (fun cdv A outer s H vs Q E hr h => ?_)
  · obtain ⟨v, l, c, ds, es, rfl, _⟩ := h; rfl
  · obtain ⟨v, l, c, ds, es, rfl, hv, hl, k1, w1, ha, k⟩ := h
    refine ⟨_, pss_cons (ps_for PassesOwn.never rfl (pi_list (pv 1)) (pg_name (i := 2) scU.nd rfl (Or.inl rfl)) (pss_one (ps_if (PW.pt (pw_or (pt_cmpR (op_eqB (rc_all (E := mkE CS) (P := P5) (N := 11) hE G (fun c hc => T c hc) (fun c hc hl => OwnF.to (T c hc) (O c hc hl)) 11 (Nat.le_refl _)) (hr.mono (by decide))) (pv 0) (pv 2) (nomark _))
      (pw_or (pt_cmpR (op_eqB (rc_all (E := mkE CS) (P := P5) (N := 11) hE G (fun c hc => T c hc) (fun c hc hl => OwnF.to (T c hc) (O c hc hl)) 11 (Nat.le_refl _)) (hr.mono (by decide))) (pv 2) (pv 0) (nomark _))
      (pw_or1 (pt_not (pt_cmpR (op_neB (rcN_dt (E := mkE CS) (P := P5) (N := 11) hE G (fun c hc => T c hc) (fun c hc hl => OwnF.to (T c hc) (O c hc hl)) 11 (Nat.le_refl _)) (hr.mono (by decide))) (pv 0) (pv 2) (nomark _))))))) (pss_one (ps_ret pe_bl)) pss_nil)))
      (pss_one (ps_ret pe_bl)), ?_⟩
    obtain ⟨ys, ey, ay⟩ := id hl
    refine r_seqFor (r_iList (r_var rfl ⟨l, rfl, ⟨_, SqL.of ey⟩, ?_⟩))
    refine fr_list (xs := ys) (fun _ σ H' => Same H H' ∧ ∃ y, σ = [some v, some (.ref l), y]) ⟨Same.refl _, _, rfl⟩ (fun i σ H' _ h => h.1.seq (SqL.of ey)) (fun i x σ H' hx hP => ?_) (fun σ H' hP => k H' hP.1)
    obtain ⟨sP, y0, rfl⟩ := hP
    have hi : i < es.length := by { rw [← ay.length]; exact (List.getElem?_eq_some_iff.mp hx).1 }
    obtain ⟨x', hx', he⟩ := ay.get (List.getElem?_eq_getElem hi)
    obtain rfl : x' = x := Option.some.inj (hx'.symm.trans hx)
    obtain ⟨c1, c2, k2, w2⟩ := ha.get (List.getElem?_eq_getElem hi)
    replace he := he.same sP
    have hv' := hv.same sP
    have gt : GrT ([some v, some (.ref l), some x'] : St) H' _ false := gt_or (gt_eqB (E := mkE CS) (K := K) (P := P5) (n := 11) (b := false) (gr_var (i := 0) rfl hv') (gr_var (i := 2) rfl he) c1 k1 k2 w1 w2 rfl)
      (gt_or (gt_eqB (E := mkE CS) (K := K) (P := P5) (n := 11) (b := false) (gr_var (i := 2) rfl he) (gr_var (i := 0) rfl hv') c2 k2 k1 w2 w1 (by rw [Bool.and_comm]; rfl))
        (gt_not (gt_neB (E := mkE CS) (K := K) (P := P5) (n := 11) (b := true) (gr_var (i := 0) rfl hv') (gr_var (i := 2) rfl he) c1 k1 k2 w1 w2 (Or.inl ⟨_, _, rfl⟩))))
    exact r_gName (r_if0 (gt H' _ (Same.refl _) fun H2 s2 => iteF ⟨sP.trans s2, _, rfl⟩))
def spField (E : CE) (K : PySem.W.Frag) : Sp := fun vs H Q _ => ∃ (v0 v1 v2 v3 : V) (a b : Str) (c : Int) (d : Bool), vs = [v0, v1, v2, v3] ∧ a.length ≤ 100 ∧ b.length ≤ 100 ∧ HasD E K H v0 (.str a) ∧ HasD E K H v1 (.str b) ∧ HasD E K H v2 (.int c) ∧ HasD E K H v3 (.bl d) ∧ ∀ H', Same H H' → Q (.bl true) H'
theorem scField : FnScope ["_law_a", "_law_b", "_law_c", "_law_d", "_law_one", "_law_others"] ["_law_a", "_law_b", "_law_c", "_law_d"] (defScope sField) := ⟨rfl, rfl, rfl, by decide +kernel, rfl, by decide +kernel, by decide +kernel⟩
theorem okField {f : Addr} {fd : FuncData} {fO : Nat → Addr} {gO : Nat → FuncData} (F : Fun K "_law_field_right" "_law_field_right" sField f fd) (G : XG K) (hE : (mkE CS).Inj) (T : ∀ c, c < 5 → Tyf K ((mkE CS).C c))
    (O : ∀ c, c < 5 → (mkE CS).lv c ≤ 11 → OwnF P w K mg base (mkE CS) c (fO c) (gO c)) {fI0 : Addr} {gI0 : FuncData} {dv0 : List V} (D0 : MkF P w K mg base (mkE CS) 0 "Field" ["self", "name", "form", "start", "shown"] ["shown", "start", "form", "name"] dv0 [(.int 0), (.bl true)] fI0 gI0) (ln0 : dv0.length = 2) {fI1 : Addr} {gI1 : FuncData} {dv1 : List V} (D1 : MkF P w K mg base (mkE CS) 1 "Body" ["self", "variables", "steps"] ["steps", "variables"] dv1 [(.tup []), (.tup [])] fI1 gI1) (ln1 : dv1.length = 2) {fI2 : Addr} {gI2 : FuncData} {dv2 : List V} (D2 : MkF P w K mg base (mkE CS) 2 "Method" ["self", "name", "kind", "params", "result", "body", "shown"] ["shown", "body", "result", "params", "kind", "name"] dv2 [(.tup []), .non, .non, (.bl true)] fI2 gI2) (ln2 : dv2.length = 4) {fI3 : Addr} {gI3 : FuncData} {dv3 : List V} (D3 : MkF P w K mg base (mkE CS) 3 "Class" ["self", "name", "bases", "fields", "methods", "closed", "lent"] ["lent", "closed", "methods", "fields", "bases", "name"] dv3 [(.tup []), (.tup []), (.tup []), (.bl false), (.bl false)] fI3 gI3) (ln3 : dv3.length = 5) {fI4 : Addr} {gI4 : FuncData} {dv4 : List V} (D4 : MkF P w K mg base (mkE CS) 4 "Routine" ["self", "name", "params", "result", "body"] ["body", "result", "params", "name"] dv4 [(.tup []), .non, .non] fI4 gI4) (ln4 : dv4.length = 3) (no0 : ∀ z ∈ (["name", "form", "start", "shown"] : List Str), NoAttr K ((mkE CS).C 0) z) (no1 : ∀ z ∈ (["variables", "steps"] : List Str), NoAttr K ((mkE CS).C 1) z) (no2 : ∀ z ∈ (["name", "kind", "params", "result", "body", "shown"] : List Str), NoAttr K ((mkE CS).C 2) z) (no3 : ∀ z ∈ (["name", "bases", "fields", "methods", "closed", "lent"] : List Str), NoAttr K ((mkE CS).C 3) z) (no4 : ∀ z ∈ (["name", "params", "result", "body"] : List Str), NoAttr K ((mkE CS).C 4) z) {fU : Addr} {gU : FuncData} (GU : FnOk P w K mg base CX0 13 fU gU ["_law_one", "_law_others"] (spU (mkE CS) K)) (mU : mg "_law_unlike_right" = some (.ref fU)) (kU : PySem.W.keepIn K (.ref fU) = true) (bU : Binds K gU ["_law_one", "_law_others"] []) : FnOk P w K mg base CX0 14 f fd ["_law_a", "_law_b", "_law_c", "_law_d"] (spField (mkE CS) K) := by
  refine F.ok scField (fun vs H Q E h => ?_) (fun cdv A outer s H vs Q E hr h => ?_)
  · obtain ⟨v0, v1, v2, v3, a, b, c, d, rfl, _⟩ := h; rfl
  · obtain ⟨v0, v1, v2, v3, a, b, c, d, rfl, la, lb, h_a, h_b, h_c, h_d, k⟩ := h
    obtain ⟨ds0_0, v0_0, b0_0⟩ := D0.b 0 (by rw [ln0]; decide)
    obtain ⟨ds0_2, v0_2, b0_2⟩ := D0.b 2 (by rw [ln0]; decide)
    obtain ⟨ds1_0, v1_0, b1_0⟩ := D1.b 0 (by rw [ln1]; decide)
    have short_a : ∀ {y : Str}, y.length ≤ 100 → a.length + y.length ≤ sizeLine := fun h => short_of la h
    have short_b : ∀ {y : Str}, y.length ≤ 100 → b.length + y.length ≤ sizeLine := fun h => short_of lb h
    refine ⟨_, (pss_cons (ps_set (i := 4) scField.nd rfl (Or.inl rfl) (pe_make D0.M D0.G (hr.mono (by decide)) rfl D0.m b0_2 v0_2 pass0 (pa_cons (pv 0) (pa_cons (pv 1) (pa_cons (pv 2) (pa_cons (pv 3) pa_nil))))))
      (pss_cons (ps_if (pt_cmpR (op_neB (rcN_dt (E := mkE CS) (P := P5) (N := 11) hE G (fun c hc => T c hc) (fun c hc hl => OwnF.to (T c hc) (O c hc hl)) 11 (Nat.le_refl _)) (hr.mono (by decide))) (pe_tup (pa_cons (pe_fld (pv 4) rfl) (pa_cons (pe_fld (pv 4) rfl) (pa_cons (pe_fld (pv 4) rfl) (pa_cons (pe_fld (pv 4) rfl) pa_nil))))) (pe_tup (pa_cons (pv 0) (pa_cons (pv 1) (pa_cons (pv 2) (pa_cons (pv 3) pa_nil))))) (nomark _)) (pss_one (ps_ret pe_bl)) pss_nil)
      (pss_cons (ps_if (pt_cmpR (op_neB (rcN_dt (E := mkE CS) (P := P5) (N := 11) hE G (fun c hc => T c hc) (fun c hc hl => OwnF.to (T c hc) (O c hc hl)) 11 (Nat.le_refl _)) (hr.mono (by decide))) (pe_makeK0 D0.M D0.G (hr.mono (by decide)) rfl D0.m D0.kw pass0 (pk_cons (pv 3) (pk_cons (pv 2) (pk_cons (pv 1) (pk_cons (pv 0) pk_nil))))) (pv 4) (nomark _)) (pss_one (ps_ret pe_bl)) pss_nil)
      (pss_cons (ps_if (PW.pt (pw_or (pt_cmpR (op_neB (rcN_dt (E := mkE CS) (P := P5) (N := 11) hE G (fun c hc => T c hc) (fun c hc hl => OwnF.to (T c hc) (O c hc hl)) 11 (Nat.le_refl _)) (hr.mono (by decide))) (pe_make D0.M D0.G (hr.mono (by decide)) rfl D0.m b0_0 v0_0 pass0 (pa_cons (pv 0) (pa_cons (pv 1) pa_nil))) (pe_make D0.M D0.G (hr.mono (by decide)) rfl D0.m b0_2 v0_2 pass0 (pa_cons (pv 0) (pa_cons (pv 1) (pa_cons pe_int (pa_cons pe_bl pa_nil))))) (nomark _)) (pw_or (pt_cmpR op_ne (pe_fld (pe_make D0.M D0.G (hr.mono (by decide)) rfl D0.m b0_0 v0_0 pass0 (pa_cons (pv 0) (pa_cons (pv 1) pa_nil))) rfl) pe_int (nomark _)) (pw_or1 (pt_cmpR op_notBl (pe_fld (pe_make D0.M D0.G (hr.mono (by decide)) rfl D0.m b0_0 v0_0 pass0 (pa_cons (pv 0) (pa_cons (pv 1) pa_nil))) rfl) pe_bl (nomark _)))))) (pss_one (ps_ret pe_bl)) pss_nil)
      (pss_cons (ps_set (i := 5) scField.nd rfl (Or.inl rfl) (pe_lst (pa_cons (pe_make D0.M D0.G (hr.mono (by decide)) rfl D0.m b0_2 v0_2 pass0 (pa_cons (pe_op op_add_str (pv 0) pe_str) (pa_cons (pv 1) (pa_cons (pv 2) (pa_cons (pv 3) pa_nil))))) (pa_cons (pe_make D0.M D0.G (hr.mono (by decide)) rfl D0.m b0_2 v0_2 pass0 (pa_cons (pv 0) (pa_cons (pe_op op_add_str (pv 1) pe_str) (pa_cons (pv 2) (pa_cons (pv 3) pa_nil))))) pa_nil))))
      (pss_cons (ps_set (i := 5) scField.nd rfl (Or.inl rfl) (pe_op op_cat (pv 5) (pe_lst (pa_cons (pe_make D0.M D0.G (hr.mono (by decide)) rfl D0.m b0_2 v0_2 pass0 (pa_cons (pv 0) (pa_cons (pv 1) (pa_cons (pe_op op_add (pv 2) pe_int) (pa_cons (pv 3) pa_nil))))) (pa_cons (pe_make D0.M D0.G (hr.mono (by decide)) rfl D0.m b0_2 v0_2 pass0 (pa_cons (pv 0) (pa_cons (pv 1) (pa_cons (pv 2) (pa_cons (pe_not (pv 3)) pa_nil))))) pa_nil)))))
      (pss_one (ps_ret (pe_call GU (hr.mono (by decide)) rfl mU kU bU .nil pass0 (pa_cons (pv 4) (pa_cons (pe_op op_cat (pv 5) (pe_lst (pa_cons (pe_tup (pa_cons (pv 0) (pa_cons (pv 1) (pa_cons (pv 2) (pa_cons (pv 3) pa_nil))))) (pa_cons (pe_make0 D1.M D1.G (hr.mono (by decide)) rfl D1.m b1_0 v1_0 pass0) (pa_cons pe_non pa_nil))))) pa_nil))))))))))), ?_⟩
    have S : Same H H := Same.refl H
    refine s_set (E := mkE CS) (K := K) (gr_make (c := 0) (gra_cons (gr_var rfl h_a) (gra_cons (gr_var rfl h_b) (gra_cons (gr_var rfl h_c) (gra_cons (gr_var rfl h_d) gra_nil)))) (D0.dd 2 _) rfl) fun H1 w0 s h_one0 => ?_
    replace h_a := h_a.same s; replace h_b := h_b.same s; replace h_c := h_c.same s; replace h_d := h_d.same s
    replace S := S.trans s; clear s
    refine s_if (gt_neB (b := false) (gr_tup (gra_cons (gr_fld (j := 0) (gr_var rfl h_one0) (T 0 (by decide)).cl (no0 _ (by decide +kernel)) (show fldAt (nsL.getD 0 []) "name" 0 = true by decide +kernel) rfl) (gra_cons (gr_fld (j := 1) (gr_var rfl h_one0) (T 0 (by decide)).cl (no0 _ (by decide +kernel)) (show fldAt (nsL.getD 0 []) "form" 1 = true by decide +kernel) rfl) (gra_cons (gr_fld (j := 2) (gr_var rfl h_one0) (T 0 (by decide)).cl (no0 _ (by decide +kernel)) (show fldAt (nsL.getD 0 []) "start" 2 = true by decide +kernel) rfl) (gra_cons (gr_fld (j := 3) (gr_var rfl h_one0) (T 0 (by decide)).cl (no0 _ (by decide +kernel)) (show fldAt (nsL.getD 0 []) "shown" 3 = true by decide +kernel) rfl) gra_nil)))) (Nat.le_of_ble_eq_true rfl)) (gr_tup (gra_cons (gr_var rfl h_a) (gra_cons (gr_var rfl h_b) (gra_cons (gr_var rfl h_c) (gra_cons (gr_var rfl h_d) gra_nil)))) (Nat.le_of_ble_eq_true rfl)) (CmpD.refl _) (Nat.le_of_ble_eq_true rfl) (Nat.le_of_ble_eq_true rfl) ⟨trivial, ⟨trivial, ⟨trivial, ⟨trivial, trivial⟩⟩⟩⟩ ⟨trivial, ⟨trivial, ⟨trivial, ⟨trivial, trivial⟩⟩⟩⟩ (Or.inr ⟨_, _, rfl, rfl⟩)) fun H1 s => ?_
    replace h_a := h_a.same s; replace h_b := h_b.same s; replace h_c := h_c.same s; replace h_d := h_d.same s; replace h_one0 := h_one0.same s
    replace S := S.trans s; clear s
    refine s_if (gt_neB (b := false) (gr_makeK (c := 0) (gra_cons (gr_var rfl h_d) (gra_cons (gr_var rfl h_c) (gra_cons (gr_var rfl h_b) (gra_cons (gr_var rfl h_a) gra_nil)))) rfl rfl) (gr_var rfl h_one0) (CmpD.refl _) (Nat.le_of_ble_eq_true rfl) (Nat.le_of_ble_eq_true rfl) ⟨(by decide), Nat.le_of_ble_eq_true rfl, ⟨trivial, ⟨trivial, ⟨trivial, ⟨trivial, trivial⟩⟩⟩⟩⟩ ⟨(by decide), Nat.le_of_ble_eq_true rfl, ⟨trivial, ⟨trivial, ⟨trivial, ⟨trivial, trivial⟩⟩⟩⟩⟩ (Or.inl ⟨_, _, rfl⟩)) fun H1 s => ?_
    replace h_a := h_a.same s; replace h_b := h_b.same s; replace h_c := h_c.same s; replace h_d := h_d.same s; replace h_one0 := h_one0.same s
    replace S := S.trans s; clear s
    refine s_if (gt_or (gt_neB (b := false) (gr_make (c := 0) (gra_cons (gr_var rfl h_a) (gra_cons (gr_var rfl h_b) gra_nil)) (D0.dd 0 _) rfl) (gr_make (c := 0) (gra_cons (gr_var rfl h_a) (gra_cons (gr_var rfl h_b) (gra_cons gr_int (gra_cons gr_bl gra_nil)))) (D0.dd 2 _) rfl) (CmpD.refl _) (Nat.le_of_ble_eq_true rfl) (Nat.le_of_ble_eq_true rfl) ⟨(by decide), Nat.le_of_ble_eq_true rfl, ⟨trivial, ⟨trivial, ⟨trivial, ⟨trivial, trivial⟩⟩⟩⟩⟩ ⟨(by decide), Nat.le_of_ble_eq_true rfl, ⟨trivial, ⟨trivial, ⟨trivial, ⟨trivial, trivial⟩⟩⟩⟩⟩ (Or.inl ⟨_, _, rfl⟩)) (gt_or (gt_neI (gr_fld (j := 2) (gr_make (c := 0) (gra_cons (gr_var rfl h_a) (gra_cons (gr_var rfl h_b) gra_nil)) (D0.dd 0 _) rfl) (T 0 (by decide)).cl (no0 _ (by decide +kernel)) (show fldAt (nsL.getD 0 []) "start" 2 = true by decide +kernel) rfl) gr_int) (gt_isnot (gr_fld (j := 3) (gr_make (c := 0) (gra_cons (gr_var rfl h_a) (gra_cons (gr_var rfl h_b) gra_nil)) (D0.dd 0 _) rfl) (T 0 (by decide)).cl (no0 _ (by decide +kernel)) (show fldAt (nsL.getD 0 []) "shown" 3 = true by decide +kernel) rfl) gr_bl))) fun H1 s => ?_
    replace h_a := h_a.same s; replace h_b := h_b.same s; replace h_c := h_c.same s; replace h_d := h_d.same s; replace h_one0 := h_one0.same s
    replace S := S.trans s; clear s
    refine s_setN (E := mkE CS) (K := K) (gn_lst (gra_cons (gr_make (c := 0) (gra_cons (gr_addS (gr_var rfl h_a) gr_str (short_a (by decide +kernel))) (gra_cons (gr_var rfl h_b) (gra_cons (gr_var rfl h_c) (gra_cons (gr_var rfl h_d) gra_nil)))) (D0.dd 2 _) rfl) (gra_cons (gr_make (c := 0) (gra_cons (gr_var rfl h_a) (gra_cons (gr_addS (gr_var rfl h_b) gr_str (short_b (by decide +kernel))) (gra_cons (gr_var rfl h_c) (gra_cons (gr_var rfl h_d) gra_nil)))) (D0.dd 2 _) rfl) gra_nil)) (Nat.le_of_ble_eq_true rfl)) fun H1 w4 s n4 h_others4 => ?_
    have nlothers := S.free n4
    replace h_a := h_a.same s; replace h_b := h_b.same s; replace h_c := h_c.same s; replace h_d := h_d.same s; replace h_one0 := h_one0.same s
    replace S := S.trans s; clear s
    refine s_setN (E := mkE CS) (K := K) (gn_cat (gl_var rfl h_others4) (gl_lst (gra_cons (gr_make (c := 0) (gra_cons (gr_var rfl h_a) (gra_cons (gr_var rfl h_b) (gra_cons (gr_addI (gr_var rfl h_c) gr_int) (gra_cons (gr_var rfl h_d) gra_nil)))) (D0.dd 2 _) rfl) (gra_cons (gr_make (c := 0) (gra_cons (gr_var rfl h_a) (gra_cons (gr_var rfl h_b) (gra_cons (gr_var rfl h_c) (gra_cons (gr_not (gr_var rfl h_d)) gra_nil)))) (D0.dd 2 _) rfl) gra_nil)) (Nat.le_of_ble_eq_true rfl)) (Nat.le_of_ble_eq_true rfl)) fun H1 w5 s n5 h_others5 => ?_
    have nlothers := S.free n5
    replace h_a := h_a.same s; replace h_b := h_b.same s; replace h_c := h_c.same s; replace h_d := h_d.same s; replace h_one0 := h_one0.same s
    replace S := S.trans s; clear s
    clear h_others4
    refine r_ret (r_call (r_cons ((gr_var rfl h_one0) _ _ (Same.refl _) fun H1 u1 s1 p1 => r_cons ((GrL.later (gl_cat (gl_var rfl h_others5) (gl_lst (gra_cons (gr_tup (gra_cons (gr_var rfl h_a) (gra_cons (gr_var rfl h_b) (gra_cons (gr_var rfl h_c) (gra_cons (gr_var rfl h_d) gra_nil)))) (Nat.le_of_ble_eq_true rfl)) (gra_cons (gr_make (c := 1) gra_nil (D1.dd 0 _) rfl) (gra_cons gr_non gra_nil))) (Nat.le_of_ble_eq_true rfl)) (Nat.le_of_ble_eq_true rfl)) s1) _ _ (Same.refl _) fun H2 l2 s2 p2 => r_nil ⟨u1, l2, 0, _, _, rfl, p1.same s2, p2, Nat.le_of_ble_eq_true rfl, ⟨(by decide), Nat.le_of_ble_eq_true rfl, ⟨trivial, ⟨trivial, ⟨trivial, ⟨trivial, trivial⟩⟩⟩⟩⟩, ?_, fun H3 s3 => k H3 (S.trans ((s1.trans s2).trans s3))⟩))))
    exact (All4.cons ⟨(CmpD.obj (CmpL.off (CmpD.ne rfl rfl (str_app_ne (by decide +kernel))))), (CmpD.obj (CmpL.off (CmpD.ne rfl rfl (str_app_ne' (by decide +kernel))))), Nat.le_of_ble_eq_true rfl, ⟨(by decide), Nat.le_of_ble_eq_true rfl, ⟨trivial, ⟨trivial, ⟨trivial, ⟨trivial, trivial⟩⟩⟩⟩⟩⟩ (All4.cons ⟨(CmpD.obj (CmpL.on (CmpD.refl _) (CmpL.off (CmpD.ne rfl rfl (str_app_ne (by decide +kernel)))))), (CmpD.obj (CmpL.on (CmpD.refl _) (CmpL.off (CmpD.ne rfl rfl (str_app_ne' (by decide +kernel)))))), Nat.le_of_ble_eq_true rfl, ⟨(by decide), Nat.le_of_ble_eq_true rfl, ⟨trivial, ⟨trivial, ⟨trivial, ⟨trivial, trivial⟩⟩⟩⟩⟩⟩ (All4.cons ⟨(CmpD.obj (CmpL.on (CmpD.refl _) (CmpL.on (CmpD.refl _) (CmpL.off (CmpD.ne rfl rfl int_s))))), (CmpD.obj (CmpL.on (CmpD.refl _) (CmpL.on (CmpD.refl _) (CmpL.off (CmpD.ne rfl rfl int_s'))))), Nat.le_of_ble_eq_true rfl, ⟨(by decide), Nat.le_of_ble_eq_true rfl, ⟨trivial, ⟨trivial, ⟨trivial, ⟨trivial, trivial⟩⟩⟩⟩⟩⟩ (All4.cons ⟨(CmpD.obj (CmpL.on (CmpD.refl _) (CmpL.on (CmpD.refl _) (CmpL.on (CmpD.refl _) (CmpL.off (CmpD.ne rfl rfl (bl_n _))))))), (CmpD.obj (CmpL.on (CmpD.refl _) (CmpL.on (CmpD.refl _) (CmpL.on (CmpD.refl _) (CmpL.off (CmpD.ne rfl rfl (bl_n' _))))))), Nat.le_of_ble_eq_true rfl, ⟨(by decide), Nat.le_of_ble_eq_true rfl, ⟨trivial, ⟨trivial, ⟨trivial, ⟨trivial, trivial⟩⟩⟩⟩⟩⟩ (All4.cons ⟨CmpD.objT, CmpD.tupO, Nat.le_of_ble_eq_true rfl, ⟨trivial, ⟨trivial, ⟨trivial, ⟨trivial, trivial⟩⟩⟩⟩⟩ (All4.cons ⟨(CmpD.objN (by decide)), (CmpD.objN (by decide)), Nat.le_of_ble_eq_true rfl, ⟨(by decide), Nat.le_of_ble_eq_true rfl, ⟨trivial, ⟨trivial, trivial⟩⟩⟩⟩ (All4.cons ⟨(CmpD.objF rfl), CmpD.nonO, Nat.le_of_ble_eq_true rfl, trivial⟩ All4.nil)))))))
def spBody (E : CE) (K : PySem.W.Frag) : Sp := fun vs H Q _ => ∃ (v0 v1 v2 : V) (a b : Str) (c : Int) (d : Bool), vs = [v0, v1, v2] ∧ a.length ≤ 100 ∧ b.length ≤ 100 ∧ HasD E K H v0 (.str a) ∧ HasD E K H v1 (.str b) ∧ HasD E K H v2 (.int c) ∧ ∀ H', Same H H' → Q (.bl true) H'
theorem scBody : FnScope ["_law_a", "_law_b", "_law_c", "_law_one", "_law_others"] ["_law_a", "_law_b", "_law_c"] (defScope sBody) := ⟨rfl, rfl, rfl, by decide +kernel, rfl, by decide +kernel, by decide +kernel⟩
theorem okBody {f : Addr} {fd : FuncData} {fO : Nat → Addr} {gO : Nat → FuncData} (F : Fun K "_law_body_right" "_law_body_right" sBody f fd) (G : XG K) (hE : (mkE CS).Inj) (T : ∀ c, c < 5 → Tyf K ((mkE CS).C c))
    (O : ∀ c, c < 5 → (mkE CS).lv c ≤ 11 → OwnF P w K mg base (mkE CS) c (fO c) (gO c)) {fI0 : Addr} {gI0 : FuncData} {dv0 : List V} (D0 : MkF P w K mg base (mkE CS) 0 "Field" ["self", "name", "form", "start", "shown"] ["shown", "start", "form", "name"] dv0 [(.int 0), (.bl true)] fI0 gI0) (ln0 : dv0.length = 2) {fI1 : Addr} {gI1 : FuncData} {dv1 : List V} (D1 : MkF P w K mg base (mkE CS) 1 "Body" ["self", "variables", "steps"] ["steps", "variables"] dv1 [(.tup []), (.tup [])] fI1 gI1) (ln1 : dv1.length = 2) {fI2 : Addr} {gI2 : FuncData} {dv2 : List V} (D2 : MkF P w K mg base (mkE CS) 2 "Method" ["self", "name", "kind", "params", "result", "body", "shown"] ["shown", "body", "result", "params", "kind", "name"] dv2 [(.tup []), .non, .non, (.bl true)] fI2 gI2) (ln2 : dv2.length = 4) {fI3 : Addr} {gI3 : FuncData} {dv3 : List V} (D3 : MkF P w K mg base (mkE CS) 3 "Class" ["self", "name", "bases", "fields", "methods", "closed", "lent"] ["lent", "closed", "methods", "fields", "bases", "name"] dv3 [(.tup []), (.tup []), (.tup []), (.bl false), (.bl false)] fI3 gI3) (ln3 : dv3.length = 5) {fI4 : Addr} {gI4 : FuncData} {dv4 : List V} (D4 : MkF P w K mg base (mkE CS) 4 "Routine" ["self", "name", "params", "result", "body"] ["body", "result", "params", "name"] dv4 [(.tup []), .non, .non] fI4 gI4) (ln4 : dv4.length = 3) (no0 : ∀ z ∈ (["name", "form", "start", "shown"] : List Str), NoAttr K ((mkE CS).C 0) z) (no1 : ∀ z ∈ (["variables", "steps"] : List Str), NoAttr K ((mkE CS).C 1) z) (no2 : ∀ z ∈ (["name", "kind", "params", "result", "body", "shown"] : List Str), NoAttr K ((mkE CS).C 2) z) (no3 : ∀ z ∈ (["name", "bases", "fields", "methods", "closed", "lent"] : List Str), NoAttr K ((mkE CS).C 3) z) (no4 : ∀ z ∈ (["name", "params", "result", "body"] : List Str), NoAttr K ((mkE CS).C 4) z) {fU : Addr} {gU : FuncData} (GU : FnOk P w K mg base CX0 13 fU gU ["_law_one", "_law_others"] (spU (mkE CS) K)) (mU : mg "_law_unlike_right" = some (.ref fU)) (kU : PySem.W.keepIn K (.ref fU) = true) (bU : Binds K gU ["_law_one", "_law_others"] []) : FnOk P w K mg base CX0 14 f fd ["_law_a", "_law_b", "_law_c"] (spBody (mkE CS) K) := by
  refine F.ok scBody (fun vs H Q E h => ?_) (fun cdv A outer s H vs Q E hr h => ?_)
  · obtain ⟨v0, v1, v2, a, b, c, d, rfl, _⟩ := h; rfl
  · obtain ⟨v0, v1, v2, a, b, c, d, rfl, la, lb, h_a, h_b, h_c, k⟩ := h
    obtain ⟨ds0_0, v0_0, b0_0⟩ := D0.b 0 (by rw [ln0]; decide)
    obtain ⟨ds1_0, v1_0, b1_0⟩ := D1.b 0 (by rw [ln1]; decide)
    obtain ⟨ds1_1, v1_1, b1_1⟩ := D1.b 1 (by rw [ln1]; decide)
    obtain ⟨ds1_2, v1_2, b1_2⟩ := D1.b 2 (by rw [ln1]; decide)
    have short_a : ∀ {y : Str}, y.length ≤ 100 → a.length + y.length ≤ sizeLine := fun h => short_of la h
    have short_b : ∀ {y : Str}, y.length ≤ 100 → b.length + y.length ≤ sizeLine := fun h => short_of lb h
    refine ⟨_, (pss_cons (ps_set (i := 3) scBody.nd rfl (Or.inl rfl) (pe_make D1.M D1.G (hr.mono (by decide)) rfl D1.m b1_2 v1_2 pass0 (pa_cons (pe_tup (pa_cons (pe_tup (pa_cons (pv 0) (pa_cons (pv 1) pa_nil))) pa_nil)) (pa_cons (pe_tup (pa_cons (pe_tup (pa_cons pe_str (pa_cons (pv 2) pa_nil))) pa_nil)) pa_nil))))
      (pss_cons (ps_if (PW.pt (pw_or (pt_cmpR (op_neB (rcN_dt (E := mkE CS) (P := P5) (N := 11) hE G (fun c hc => T c hc) (fun c hc hl => OwnF.to (T c hc) (O c hc hl)) 11 (Nat.le_refl _)) (hr.mono (by decide))) (pe_tup (pa_cons (pe_fld (pv 3) rfl) (pa_cons (pe_fld (pv 3) rfl) pa_nil))) (pe_tup (pa_cons (pe_tup (pa_cons (pe_tup (pa_cons (pv 0) (pa_cons (pv 1) pa_nil))) pa_nil)) (pa_cons (pe_tup (pa_cons (pe_tup (pa_cons pe_str (pa_cons (pv 2) pa_nil))) pa_nil)) pa_nil))) (nomark _)) (pw_or1 (pt_cmpR (op_neB (rcN_dt (E := mkE CS) (P := P5) (N := 11) hE G (fun c hc => T c hc) (fun c hc hl => OwnF.to (T c hc) (O c hc hl)) 11 (Nat.le_refl _)) (hr.mono (by decide))) (pe_make0 D1.M D1.G (hr.mono (by decide)) rfl D1.m b1_0 v1_0 pass0) (pe_make D1.M D1.G (hr.mono (by decide)) rfl D1.m b1_2 v1_2 pass0 (pa_cons (pe_tup pa_nil) (pa_cons (pe_tup pa_nil) pa_nil))) (nomark _))))) (pss_one (ps_ret pe_bl)) pss_nil)
      (pss_cons (ps_if (PW.pt (pw_or (pt_cmpR (op_neB (rcN_dt (E := mkE CS) (P := P5) (N := 11) hE G (fun c hc => T c hc) (fun c hc hl => OwnF.to (T c hc) (O c hc hl)) 11 (Nat.le_refl _)) (hr.mono (by decide))) (pe_makeK0 D1.M D1.G (hr.mono (by decide)) rfl D1.m D1.kw pass0 (pk_cons (pe_tup (pa_cons (pe_tup (pa_cons pe_str (pa_cons (pv 2) pa_nil))) pa_nil)) (pk_cons (pe_tup (pa_cons (pe_tup (pa_cons (pv 0) (pa_cons (pv 1) pa_nil))) pa_nil)) pk_nil))) (pv 3) (nomark _)) (pw_or (pt_cmpR (op_neB (rcN_dt (E := mkE CS) (P := P5) (N := 11) hE G (fun c hc => T c hc) (fun c hc hl => OwnF.to (T c hc) (O c hc hl)) 11 (Nat.le_refl _)) (hr.mono (by decide))) (pe_fld (pe_make0 D1.M D1.G (hr.mono (by decide)) rfl D1.m b1_0 v1_0 pass0) rfl) (pe_tup pa_nil) (nomark _)) (pw_or1 (pt_cmpR (op_neB (rcN_dt (E := mkE CS) (P := P5) (N := 11) hE G (fun c hc => T c hc) (fun c hc hl => OwnF.to (T c hc) (O c hc hl)) 11 (Nat.le_refl _)) (hr.mono (by decide))) (pe_fld (pe_make0 D1.M D1.G (hr.mono (by decide)) rfl D1.m b1_0 v1_0 pass0) rfl) (pe_tup pa_nil) (nomark _)))))) (pss_one (ps_ret pe_bl)) pss_nil)
      (pss_cons (ps_set (i := 4) scBody.nd rfl (Or.inl rfl) (pe_lst (pa_cons (pe_make D1.M D1.G (hr.mono (by decide)) rfl D1.m b1_2 v1_2 pass0 (pa_cons (pe_tup pa_nil) (pa_cons (pe_fld (pv 3) rfl) pa_nil))) (pa_cons (pe_make D1.M D1.G (hr.mono (by decide)) rfl D1.m b1_1 v1_1 pass0 (pa_cons (pe_fld (pv 3) rfl) pa_nil)) (pa_cons (pe_fld (pv 3) rfl) (pa_cons (pe_make D1.M D1.G (hr.mono (by decide)) rfl D1.m b1_2 v1_2 pass0 (pa_cons (pe_tup (pa_cons (pe_tup (pa_cons (pv 0) (pa_cons (pe_op op_add_str (pv 1) pe_str) pa_nil))) pa_nil)) (pa_cons (pe_fld (pv 3) rfl) pa_nil))) pa_nil))))))
      (pss_one (ps_ret (pe_call GU (hr.mono (by decide)) rfl mU kU bU .nil pass0 (pa_cons (pv 3) (pa_cons (pe_op op_cat (pv 4) (pe_lst (pa_cons (pe_tup (pa_cons (pe_fld (pv 3) rfl) (pa_cons (pe_fld (pv 3) rfl) pa_nil))) (pa_cons (pe_make D0.M D0.G (hr.mono (by decide)) rfl D0.m b0_0 v0_0 pass0 (pa_cons (pv 0) (pa_cons (pv 1) pa_nil))) pa_nil)))) pa_nil))))))))), ?_⟩
    have S : Same H H := Same.refl H
    refine s_set (E := mkE CS) (K := K) (gr_make (c := 1) (gra_cons (gr_tup (gra_cons (gr_tup (gra_cons (gr_var rfl h_a) (gra_cons (gr_var rfl h_b) gra_nil)) (Nat.le_of_ble_eq_true rfl)) gra_nil) (Nat.le_of_ble_eq_true rfl)) (gra_cons (gr_tup (gra_cons (gr_tup (gra_cons gr_str (gra_cons (gr_var rfl h_c) gra_nil)) (Nat.le_of_ble_eq_true rfl)) gra_nil) (Nat.le_of_ble_eq_true rfl)) gra_nil)) (D1.dd 2 _) rfl) fun H1 w0 s h_one0 => ?_
    replace h_a := h_a.same s; replace h_b := h_b.same s; replace h_c := h_c.same s
    replace S := S.trans s; clear s
    refine s_if (gt_or (gt_neB (b := false) (gr_tup (gra_cons (gr_fld (j := 0) (gr_var rfl h_one0) (T 1 (by decide)).cl (no1 _ (by decide +kernel)) (show fldAt (nsL.getD 1 []) "variables" 0 = true by decide +kernel) rfl) (gra_cons (gr_fld (j := 1) (gr_var rfl h_one0) (T 1 (by decide)).cl (no1 _ (by decide +kernel)) (show fldAt (nsL.getD 1 []) "steps" 1 = true by decide +kernel) rfl) gra_nil)) (Nat.le_of_ble_eq_true rfl)) (gr_tup (gra_cons (gr_tup (gra_cons (gr_tup (gra_cons (gr_var rfl h_a) (gra_cons (gr_var rfl h_b) gra_nil)) (Nat.le_of_ble_eq_true rfl)) gra_nil) (Nat.le_of_ble_eq_true rfl)) (gra_cons (gr_tup (gra_cons (gr_tup (gra_cons gr_str (gra_cons (gr_var rfl h_c) gra_nil)) (Nat.le_of_ble_eq_true rfl)) gra_nil) (Nat.le_of_ble_eq_true rfl)) gra_nil)) (Nat.le_of_ble_eq_true rfl)) (CmpD.refl _) (Nat.le_of_ble_eq_true rfl) (Nat.le_of_ble_eq_true rfl) ⟨⟨⟨trivial, ⟨trivial, trivial⟩⟩, trivial⟩, ⟨⟨⟨trivial, ⟨trivial, trivial⟩⟩, trivial⟩, trivial⟩⟩ ⟨⟨⟨trivial, ⟨trivial, trivial⟩⟩, trivial⟩, ⟨⟨⟨trivial, ⟨trivial, trivial⟩⟩, trivial⟩, trivial⟩⟩ (Or.inr ⟨_, _, rfl, rfl⟩)) (gt_neB (b := false) (gr_make (c := 1) gra_nil (D1.dd 0 _) rfl) (gr_make (c := 1) (gra_cons (gr_tup gra_nil (Nat.le_of_ble_eq_true rfl)) (gra_cons (gr_tup gra_nil (Nat.le_of_ble_eq_true rfl)) gra_nil)) (D1.dd 2 _) rfl) (CmpD.refl _) (Nat.le_of_ble_eq_true rfl) (Nat.le_of_ble_eq_true rfl) ⟨(by decide), Nat.le_of_ble_eq_true rfl, ⟨trivial, ⟨trivial, trivial⟩⟩⟩ ⟨(by decide), Nat.le_of_ble_eq_true rfl, ⟨trivial, ⟨trivial, trivial⟩⟩⟩ (Or.inl ⟨_, _, rfl⟩))) fun H1 s => ?_
    replace h_a := h_a.same s; replace h_b := h_b.same s; replace h_c := h_c.same s; replace h_one0 := h_one0.same s
    replace S := S.trans s; clear s
    refine s_if (gt_or (gt_neB (b := false) (gr_makeK (c := 1) (gra_cons (gr_tup (gra_cons (gr_tup (gra_cons gr_str (gra_cons (gr_var rfl h_c) gra_nil)) (Nat.le_of_ble_eq_true rfl)) gra_nil) (Nat.le_of_ble_eq_true rfl)) (gra_cons (gr_tup (gra_cons (gr_tup (gra_cons (gr_var rfl h_a) (gra_cons (gr_var rfl h_b) gra_nil)) (Nat.le_of_ble_eq_true rfl)) gra_nil) (Nat.le_of_ble_eq_true rfl)) gra_nil)) rfl rfl) (gr_var rfl h_one0) (CmpD.refl _) (Nat.le_of_ble_eq_true rfl) (Nat.le_of_ble_eq_true rfl) ⟨(by decide), Nat.le_of_ble_eq_true rfl, ⟨⟨⟨trivial, ⟨trivial, trivial⟩⟩, trivial⟩, ⟨⟨⟨trivial, ⟨trivial, trivial⟩⟩, trivial⟩, trivial⟩⟩⟩ ⟨(by decide), Nat.le_of_ble_eq_true rfl, ⟨⟨⟨trivial, ⟨trivial, trivial⟩⟩, trivial⟩, ⟨⟨⟨trivial, ⟨trivial, trivial⟩⟩, trivial⟩, trivial⟩⟩⟩ (Or.inl ⟨_, _, rfl⟩)) (gt_or (gt_neB (b := false) (gr_fld (j := 0) (gr_make (c := 1) gra_nil (D1.dd 0 _) rfl) (T 1 (by decide)).cl (no1 _ (by decide +kernel)) (show fldAt (nsL.getD 1 []) "variables" 0 = true by decide +kernel) rfl) (gr_tup gra_nil (Nat.le_of_ble_eq_true rfl)) (CmpD.refl _) (Nat.le_of_ble_eq_true rfl) (Nat.le_of_ble_eq_true rfl) trivial trivial (Or.inr ⟨_, _, rfl, rfl⟩)) (gt_neB (b := false) (gr_fld (j := 1) (gr_make (c := 1) gra_nil (D1.dd 0 _) rfl) (T 1 (by decide)).cl (no1 _ (by decide +kernel)) (show fldAt (nsL.getD 1 []) "steps" 1 = true by decide +kernel) rfl) (gr_tup gra_nil (Nat.le_of_ble_eq_true rfl)) (CmpD.refl _) (Nat.le_of_ble_eq_true rfl) (Nat.le_of_ble_eq_true rfl) trivial trivial (Or.inr ⟨_, _, rfl, rfl⟩)))) fun H1 s => ?_
    replace h_a := h_a.same s; replace h_b := h_b.same s; replace h_c := h_c.same s; replace h_one0 := h_one0.same s
    replace S := S.trans s; clear s
    refine s_setN (E := mkE CS) (K := K) (gn_lst (gra_cons (gr_make (c := 1) (gra_cons (gr_tup gra_nil (Nat.le_of_ble_eq_true rfl)) (gra_cons (gr_fld (j := 1) (gr_var rfl h_one0) (T 1 (by decide)).cl (no1 _ (by decide +kernel)) (show fldAt (nsL.getD 1 []) "steps" 1 = true by decide +kernel) rfl) gra_nil)) (D1.dd 2 _) rfl) (gra_cons (gr_make (c := 1) (gra_cons (gr_fld (j := 0) (gr_var rfl h_one0) (T 1 (by decide)).cl (no1 _ (by decide +kernel)) (show fldAt (nsL.getD 1 []) "variables" 0 = true by decide +kernel) rfl) gra_nil) (D1.dd 1 _) rfl) (gra_cons (gr_fld (j := 1) (gr_var rfl h_one0) (T 1 (by decide)).cl (no1 _ (by decide +kernel)) (show fldAt (nsL.getD 1 []) "steps" 1 = true by decide +kernel) rfl) (gra_cons (gr_make (c := 1) (gra_cons (gr_tup (gra_cons (gr_tup (gra_cons (gr_var rfl h_a) (gra_cons (gr_addS (gr_var rfl h_b) gr_str (short_b (by decide +kernel))) gra_nil)) (Nat.le_of_ble_eq_true rfl)) gra_nil) (Nat.le_of_ble_eq_true rfl)) (gra_cons (gr_fld (j := 1) (gr_var rfl h_one0) (T 1 (by decide)).cl (no1 _ (by decide +kernel)) (show fldAt (nsL.getD 1 []) "steps" 1 = true by decide +kernel) rfl) gra_nil)) (D1.dd 2 _) rfl) gra_nil)))) (Nat.le_of_ble_eq_true rfl)) fun H1 w3 s n3 h_others3 => ?_
    have nlothers := S.free n3
    replace h_a := h_a.same s; replace h_b := h_b.same s; replace h_c := h_c.same s; replace h_one0 := h_one0.same s
    replace S := S.trans s; clear s
    refine r_ret (r_call (r_cons ((gr_var rfl h_one0) _ _ (Same.refl _) fun H1 u1 s1 p1 => r_cons ((GrL.later (gl_cat (gl_var rfl h_others3) (gl_lst (gra_cons (gr_tup (gra_cons (gr_fld (j := 0) (gr_var rfl h_one0) (T 1 (by decide)).cl (no1 _ (by decide +kernel)) (show fldAt (nsL.getD 1 []) "variables" 0 = true by decide +kernel) rfl) (gra_cons (gr_fld (j := 1) (gr_var rfl h_one0) (T 1 (by decide)).cl (no1 _ (by decide +kernel)) (show fldAt (nsL.getD 1 []) "steps" 1 = true by decide +kernel) rfl) gra_nil)) (Nat.le_of_ble_eq_true rfl)) (gra_cons (gr_make (c := 0) (gra_cons (gr_var rfl h_a) (gra_cons (gr_var rfl h_b) gra_nil)) (D0.dd 0 _) rfl) gra_nil)) (Nat.le_of_ble_eq_true rfl)) (Nat.le_of_ble_eq_true rfl)) s1) _ _ (Same.refl _) fun H2 l2 s2 p2 => r_nil ⟨u1, l2, 1, _, _, rfl, p1.same s2, p2, Nat.le_of_ble_eq_true rfl, ⟨(by decide), Nat.le_of_ble_eq_true rfl, ⟨⟨⟨trivial, ⟨trivial, trivial⟩⟩, trivial⟩, ⟨⟨⟨trivial, ⟨trivial, trivial⟩⟩, trivial⟩, trivial⟩⟩⟩, ?_, fun H3 s3 => k H3 (S.trans ((s1.trans s2).trans s3))⟩))))
    exact (All4.cons ⟨(CmpD.obj (CmpL.off (CmpD.tup CmpL.right))), (CmpD.obj (CmpL.off (CmpD.tup CmpL.left))), Nat.le_of_ble_eq_true rfl, ⟨(by decide), Nat.le_of_ble_eq_true rfl, ⟨trivial, ⟨⟨⟨trivial, ⟨trivial, trivial⟩⟩, trivial⟩, trivial⟩⟩⟩⟩ (All4.cons ⟨(CmpD.obj (CmpL.on (CmpD.refl _) (CmpL.off (CmpD.tup CmpL.right)))), (CmpD.obj (CmpL.on (CmpD.refl _) (CmpL.off (CmpD.tup CmpL.left)))), Nat.le_of_ble_eq_true rfl, ⟨(by decide), Nat.le_of_ble_eq_true rfl, ⟨⟨⟨trivial, ⟨trivial, trivial⟩⟩, trivial⟩, ⟨trivial, trivial⟩⟩⟩⟩ (All4.cons ⟨CmpD.objT, CmpD.tupO, Nat.le_of_ble_eq_true rfl, ⟨⟨trivial, ⟨trivial, trivial⟩⟩, trivial⟩⟩ (All4.cons ⟨(CmpD.obj (CmpL.off (CmpD.tup (CmpL.off (CmpD.tup (CmpL.on (CmpD.refl _) (CmpL.off (CmpD.ne rfl rfl (str_app_ne (by decide +kernel)))))))))), (CmpD.obj (CmpL.off (CmpD.tup (CmpL.off (CmpD.tup (CmpL.on (CmpD.refl _) (CmpL.off (CmpD.ne rfl rfl (str_app_ne' (by decide +kernel)))))))))), Nat.le_of_ble_eq_true rfl, ⟨(by decide), Nat.le_of_ble_eq_true rfl, ⟨⟨⟨trivial, ⟨trivial, trivial⟩⟩, trivial⟩, ⟨⟨⟨trivial, ⟨trivial, trivial⟩⟩, trivial⟩, trivial⟩⟩⟩⟩ (All4.cons ⟨CmpD.objT, CmpD.tupO, Nat.le_of_ble_eq_true rfl, ⟨⟨⟨trivial, ⟨trivial, trivial⟩⟩, trivial⟩, ⟨⟨⟨trivial, ⟨trivial, trivial⟩⟩, trivial⟩, trivial⟩⟩⟩ (All4.cons ⟨(CmpD.objN (by decide)), (CmpD.objN (by decide)), Nat.le_of_ble_eq_true rfl, ⟨(by decide), Nat.le_of_ble_eq_true rfl, ⟨trivial, ⟨trivial, ⟨trivial, ⟨trivial, trivial⟩⟩⟩⟩⟩⟩ All4.nil))))))
def spMethod (E : CE) (K : PySem.W.Frag) : Sp := fun vs H Q _ => ∃ (v0 v1 v2 v3 : V) (a b : Str) (c : Int) (d : Bool), vs = [v0, v1, v2, v3] ∧ a.length ≤ 100 ∧ b.length ≤ 100 ∧ HasD E K H v0 (.str a) ∧ HasD E K H v1 (.str b) ∧ HasD E K H v2 (.bl d) ∧ HasD E K H v3 (.obj 1 [(.tup [(.tup [(.str a), (.str b)])]), (.tup [(.tup [(.str "say"), (.int c)])])]) ∧ ∀ H', Same H H' → Q (.bl true) H'
theorem scMethod : FnScope ["_law_a", "_law_b", "_law_d", "_law_core", "_law_one", "_law_told", "_law_others"] ["_law_a", "_law_b", "_law_d", "_law_core"] (defScope sMethod) := ⟨rfl, rfl, rfl, by decide +kernel, rfl, by decide +kernel, by decide +kernel⟩
theorem okMethod {f : Addr} {fd : FuncData} {fO : Nat → Addr} {gO : Nat → FuncData} (F : Fun K "_law_method_right" "_law_method_right" sMethod f fd) (G : XG K) (hE : (mkE CS).Inj) (T : ∀ c, c < 5 → Tyf K ((mkE CS).C c))
    (O : ∀ c, c < 5 → (mkE CS).lv c ≤ 11 → OwnF P w K mg base (mkE CS) c (fO c) (gO c)) {fI0 : Addr} {gI0 : FuncData} {dv0 : List V} (D0 : MkF P w K mg base (mkE CS) 0 "Field" ["self", "name", "form", "start", "shown"] ["shown", "start", "form", "name"] dv0 [(.int 0), (.bl true)] fI0 gI0) (ln0 : dv0.length = 2) {fI1 : Addr} {gI1 : FuncData} {dv1 : List V} (D1 : MkF P w K mg base (mkE CS) 1 "Body" ["self", "variables", "steps"] ["steps", "variables"] dv1 [(.tup []), (.tup [])] fI1 gI1) (ln1 : dv1.length = 2) {fI2 : Addr} {gI2 : FuncData} {dv2 : List V} (D2 : MkF P w K mg base (mkE CS) 2 "Method" ["self", "name", "kind", "params", "result", "body", "shown"] ["shown", "body", "result", "params", "kind", "name"] dv2 [(.tup []), .non, .non, (.bl true)] fI2 gI2) (ln2 : dv2.length = 4) {fI3 : Addr} {gI3 : FuncData} {dv3 : List V} (D3 : MkF P w K mg base (mkE CS) 3 "Class" ["self", "name", "bases", "fields", "methods", "closed", "lent"] ["lent", "closed", "methods", "fields", "bases", "name"] dv3 [(.tup []), (.tup []), (.tup []), (.bl false), (.bl false)] fI3 gI3) (ln3 : dv3.length = 5) {fI4 : Addr} {gI4 : FuncData} {dv4 : List V} (D4 : MkF P w K mg base (mkE CS) 4 "Routine" ["self", "name", "params", "result", "body"] ["body", "result", "params", "name"] dv4 [(.tup []), .non, .non] fI4 gI4) (ln4 : dv4.length = 3) (no0 : ∀ z ∈ (["name", "form", "start", "shown"] : List Str), NoAttr K ((mkE CS).C 0) z) (no1 : ∀ z ∈ (["variables", "steps"] : List Str), NoAttr K ((mkE CS).C 1) z) (no2 : ∀ z ∈ (["name", "kind", "params", "result", "body", "shown"] : List Str), NoAttr K ((mkE CS).C 2) z) (no3 : ∀ z ∈ (["name", "bases", "fields", "methods", "closed", "lent"] : List Str), NoAttr K ((mkE CS).C 3) z) (no4 : ∀ z ∈ (["name", "params", "result", "body"] : List Str), NoAttr K ((mkE CS).C 4) z) {fU : Addr} {gU : FuncData} (GU : FnOk P w K mg base CX0 13 fU gU ["_law_one", "_law_others"] (spU (mkE CS) K)) (mU : mg "_law_unlike_right" = some (.ref fU)) (kU : PySem.W.keepIn K (.ref fU) = true) (bU : Binds K gU ["_law_one", "_law_others"] []) : FnOk P w K mg base CX0 14 f fd ["_law_a", "_law_b", "_law_d", "_law_core"] (spMethod (mkE CS) K) := by
  refine F.ok scMethod (fun vs H Q E h => ?_) (fun cdv A outer s H vs Q E hr h => ?_)
  · obtain ⟨v0, v1, v2, v3, a, b, c, d, rfl, _⟩ := h; rfl
  · obtain ⟨v0, v1, v2, v3, a, b, c, d, rfl, la, lb, h_a, h_b, h_d, h_core, k⟩ := h
    obtain ⟨ds1_0, v1_0, b1_0⟩ := D1.b 0 (by rw [ln1]; decide)
    obtain ⟨ds2_0, v2_0, b2_0⟩ := D2.b 0 (by rw [ln2]; decide)
    obtain ⟨ds2_4, v2_4, b2_4⟩ := D2.b 4 (by rw [ln2]; decide)
    obtain ⟨ds4_3, v4_3, b4_3⟩ := D4.b 3 (by rw [ln4]; decide)
    have short_a : ∀ {y : Str}, y.length ≤ 100 → a.length + y.length ≤ sizeLine := fun h => short_of la h
    have short_b : ∀ {y : Str}, y.length ≤ 100 → b.length + y.length ≤ sizeLine := fun h => short_of lb h
    refine ⟨_, (pss_cons (ps_set (i := 4) scMethod.nd rfl (Or.inl rfl) (pe_make D2.M D2.G (hr.mono (by decide)) rfl D2.m b2_4 v2_4 pass0 (pa_cons (pv 0) (pa_cons pe_str (pa_cons (pe_tup (pa_cons (pe_tup (pa_cons (pv 0) (pa_cons (pv 1) pa_nil))) pa_nil)) (pa_cons (pv 1) (pa_cons (pv 3) (pa_cons (pv 2) pa_nil))))))))
      (pss_cons (ps_set (i := 5) scMethod.nd rfl (Or.inl rfl) (pe_tup (pa_cons (pe_fld (pv 4) rfl) (pa_cons (pe_fld (pv 4) rfl) (pa_cons (pe_fld (pv 4) rfl) (pa_cons (pe_fld (pv 4) rfl) (pa_cons (pe_fld (pv 4) rfl) (pa_cons (pe_fld (pv 4) rfl) pa_nil))))))))
      (pss_cons (ps_if (pt_cmpR (op_neB (rcN_dt (E := mkE CS) (P := P5) (N := 11) hE G (fun c hc => T c hc) (fun c hc hl => OwnF.to (T c hc) (O c hc hl)) 11 (Nat.le_refl _)) (hr.mono (by decide))) (pv 5) (pe_tup (pa_cons (pv 0) (pa_cons pe_str (pa_cons (pe_tup (pa_cons (pe_tup (pa_cons (pv 0) (pa_cons (pv 1) pa_nil))) pa_nil)) (pa_cons (pv 1) (pa_cons (pv 3) (pa_cons (pv 2) pa_nil))))))) (nomark _)) (pss_one (ps_ret pe_bl)) pss_nil)
      (pss_cons (ps_if (pt_cmpR (op_neB (rcN_dt (E := mkE CS) (P := P5) (N := 11) hE G (fun c hc => T c hc) (fun c hc hl => OwnF.to (T c hc) (O c hc hl)) 11 (Nat.le_refl _)) (hr.mono (by decide))) (pe_makeK0 D2.M D2.G (hr.mono (by decide)) rfl D2.m D2.kw pass0 (pk_cons (pv 2) (pk_cons (pv 3) (pk_cons (pv 1) (pk_cons (pe_tup (pa_cons (pe_tup (pa_cons (pv 0) (pa_cons (pv 1) pa_nil))) pa_nil)) (pk_cons pe_str (pk_cons (pv 0) pk_nil))))))) (pv 4) (nomark _)) (pss_one (ps_ret pe_bl)) pss_nil)
      (pss_cons (ps_if (PW.pt (pw_or (pt_cmpR (op_neB (rcN_dt (E := mkE CS) (P := P5) (N := 11) hE G (fun c hc => T c hc) (fun c hc hl => OwnF.to (T c hc) (O c hc hl)) 11 (Nat.le_refl _)) (hr.mono (by decide))) (pe_make D2.M D2.G (hr.mono (by decide)) rfl D2.m b2_0 v2_0 pass0 (pa_cons (pv 0) (pa_cons pe_str pa_nil))) (pe_make D2.M D2.G (hr.mono (by decide)) rfl D2.m b2_4 v2_4 pass0 (pa_cons (pv 0) (pa_cons pe_str (pa_cons (pe_tup pa_nil) (pa_cons pe_non (pa_cons pe_non (pa_cons pe_bl pa_nil))))))) (nomark _)) (pw_or1 (pt_cmpR op_notBl (pe_fld (pe_make D2.M D2.G (hr.mono (by decide)) rfl D2.m b2_0 v2_0 pass0 (pa_cons (pv 0) (pa_cons pe_str pa_nil))) rfl) pe_bl (nomark _))))) (pss_one (ps_ret pe_bl)) pss_nil)
      (pss_cons (ps_set (i := 6) scMethod.nd rfl (Or.inl rfl) (pe_lst (pa_cons (pe_make D2.M D2.G (hr.mono (by decide)) rfl D2.m b2_4 v2_4 pass0 (pa_cons (pv 0) (pa_cons pe_str (pa_cons (pe_fld (pv 4) rfl) (pa_cons (pv 1) (pa_cons (pv 3) (pa_cons (pv 2) pa_nil))))))) pa_nil)))
      (pss_cons (ps_set (i := 6) scMethod.nd rfl (Or.inl rfl) (pe_op op_cat (pv 6) (pe_lst (pa_cons (pe_make D2.M D2.G (hr.mono (by decide)) rfl D2.m b2_4 v2_4 pass0 (pa_cons (pv 0) (pa_cons pe_str (pa_cons (pe_tup pa_nil) (pa_cons (pv 1) (pa_cons (pv 3) (pa_cons (pv 2) pa_nil))))))) (pa_cons (pe_tup (pa_cons (pv 0) (pa_cons pe_str (pa_cons (pv 1) (pa_cons (pv 3) (pa_cons (pv 2) pa_nil)))))) pa_nil)))))
      (pss_cons (ps_set (i := 6) scMethod.nd rfl (Or.inl rfl) (pe_op op_cat (pv 6) (pe_lst (pa_cons (pe_make D2.M D2.G (hr.mono (by decide)) rfl D2.m b2_4 v2_4 pass0 (pa_cons (pv 0) (pa_cons pe_str (pa_cons (pe_fld (pv 4) rfl) (pa_cons pe_non (pa_cons (pv 3) (pa_cons (pv 2) pa_nil))))))) pa_nil))))
      (pss_cons (ps_set (i := 6) scMethod.nd rfl (Or.inl rfl) (pe_op op_cat (pv 6) (pe_lst (pa_cons (pe_make D2.M D2.G (hr.mono (by decide)) rfl D2.m b2_4 v2_4 pass0 (pa_cons (pe_op op_add_str (pv 0) pe_str) (pa_cons pe_str (pa_cons (pe_fld (pv 4) rfl) (pa_cons (pv 1) (pa_cons (pv 3) (pa_cons (pv 2) pa_nil))))))) pa_nil))))
      (pss_cons (ps_set (i := 6) scMethod.nd rfl (Or.inl rfl) (pe_op op_cat (pv 6) (pe_lst (pa_cons (pe_make D2.M D2.G (hr.mono (by decide)) rfl D2.m b2_4 v2_4 pass0 (pa_cons (pv 0) (pa_cons pe_str (pa_cons (pe_fld (pv 4) rfl) (pa_cons (pv 1) (pa_cons (pe_make0 D1.M D1.G (hr.mono (by decide)) rfl D1.m b1_0 v1_0 pass0) (pa_cons (pv 2) pa_nil))))))) pa_nil))))
      (pss_cons (ps_set (i := 6) scMethod.nd rfl (Or.inl rfl) (pe_op op_cat (pv 6) (pe_lst (pa_cons (pe_make D2.M D2.G (hr.mono (by decide)) rfl D2.m b2_4 v2_4 pass0 (pa_cons (pv 0) (pa_cons pe_str (pa_cons (pe_fld (pv 4) rfl) (pa_cons (pv 1) (pa_cons (pv 3) (pa_cons (pe_not (pv 2)) pa_nil))))))) pa_nil))))
      (pss_one (ps_ret (pe_call GU (hr.mono (by decide)) rfl mU kU bU .nil pass0 (pa_cons (pv 4) (pa_cons (pe_op op_cat (pv 6) (pe_lst (pa_cons (pe_make D4.M D4.G (hr.mono (by decide)) rfl D4.m b4_3 v4_3 pass0 (pa_cons (pv 0) (pa_cons (pe_fld (pv 4) rfl) (pa_cons (pv 1) (pa_cons (pv 3) pa_nil))))) pa_nil))) pa_nil)))))))))))))))), ?_⟩
    have S : Same H H := Same.refl H
    refine s_set (E := mkE CS) (K := K) (gr_make (c := 2) (gra_cons (gr_var rfl h_a) (gra_cons gr_str (gra_cons (gr_tup (gra_cons (gr_tup (gra_cons (gr_var rfl h_a) (gra_cons (gr_var rfl h_b) gra_nil)) (Nat.le_of_ble_eq_true rfl)) gra_nil) (Nat.le_of_ble_eq_true rfl)) (gra_cons (gr_var rfl h_b) (gra_cons (gr_var rfl h_core) (gra_cons (gr_var rfl h_d) gra_nil)))))) (D2.dd 4 _) rfl) fun H1 w0 s h_one0 => ?_
    replace h_a := h_a.same s; replace h_b := h_b.same s; replace h_d := h_d.same s; replace h_core := h_core.same s
    replace S := S.trans s; clear s
    refine s_set (E := mkE CS) (K := K) (gr_tup (gra_cons (gr_fld (j := 0) (gr_var rfl h_one0) (T 2 (by decide)).cl (no2 _ (by decide +kernel)) (show fldAt (nsL.getD 2 []) "name" 0 = true by decide +kernel) rfl) (gra_cons (gr_fld (j := 1) (gr_var rfl h_one0) (T 2 (by decide)).cl (no2 _ (by decide +kernel)) (show fldAt (nsL.getD 2 []) "kind" 1 = true by decide +kernel) rfl) (gra_cons (gr_fld (j := 2) (gr_var rfl h_one0) (T 2 (by decide)).cl (no2 _ (by decide +kernel)) (show fldAt (nsL.getD 2 []) "params" 2 = true by decide +kernel) rfl) (gra_cons (gr_fld (j := 3) (gr_var rfl h_one0) (T 2 (by decide)).cl (no2 _ (by decide +kernel)) (show fldAt (nsL.getD 2 []) "result" 3 = true by decide +kernel) rfl) (gra_cons (gr_fld (j := 4) (gr_var rfl h_one0) (T 2 (by decide)).cl (no2 _ (by decide +kernel)) (show fldAt (nsL.getD 2 []) "body" 4 = true by decide +kernel) rfl) (gra_cons (gr_fld (j := 5) (gr_var rfl h_one0) (T 2 (by decide)).cl (no2 _ (by decide +kernel)) (show fldAt (nsL.getD 2 []) "shown" 5 = true by decide +kernel) rfl) gra_nil)))))) (Nat.le_of_ble_eq_true rfl)) fun H1 w1 s h_told1 => ?_
    replace h_a := h_a.same s; replace h_b := h_b.same s; replace h_d := h_d.same s; replace h_core := h_core.same s; replace h_one0 := h_one0.same s
    replace S := S.trans s; clear s
    refine s_if (gt_neB (b := false) (gr_var rfl h_told1) (gr_tup (gra_cons (gr_var rfl h_a) (gra_cons gr_str (gra_cons (gr_tup (gra_cons (gr_tup (gra_cons (gr_var rfl h_a) (gra_cons (gr_var rfl h_b) gra_nil)) (Nat.le_of_ble_eq_true rfl)) gra_nil) (Nat.le_of_ble_eq_true rfl)) (gra_cons (gr_var rfl h_b) (gra_cons (gr_var rfl h_core) (gra_cons (gr_var rfl h_d) gra_nil)))))) (Nat.le_of_ble_eq_true rfl)) (CmpD.refl _) (Nat.le_of_ble_eq_true rfl) (Nat.le_of_ble_eq_true rfl) ⟨trivial, ⟨trivial, ⟨⟨⟨trivial, ⟨trivial, trivial⟩⟩, trivial⟩, ⟨trivial, ⟨⟨(by decide), Nat.le_of_ble_eq_true rfl, ⟨⟨⟨trivial, ⟨trivial, trivial⟩⟩, trivial⟩, ⟨⟨⟨trivial, ⟨trivial, trivial⟩⟩, trivial⟩, trivial⟩⟩⟩, ⟨trivial, trivial⟩⟩⟩⟩⟩⟩ ⟨trivial, ⟨trivial, ⟨⟨⟨trivial, ⟨trivial, trivial⟩⟩, trivial⟩, ⟨trivial, ⟨⟨(by decide), Nat.le_of_ble_eq_true rfl, ⟨⟨⟨trivial, ⟨trivial, trivial⟩⟩, trivial⟩, ⟨⟨⟨trivial, ⟨trivial, trivial⟩⟩, trivial⟩, trivial⟩⟩⟩, ⟨trivial, trivial⟩⟩⟩⟩⟩⟩ (Or.inr ⟨_, _, rfl, rfl⟩)) fun H1 s => ?_
    replace h_a := h_a.same s; replace h_b := h_b.same s; replace h_d := h_d.same s; replace h_core := h_core.same s; replace h_one0 := h_one0.same s; replace h_told1 := h_told1.same s
    replace S := S.trans s; clear s
    refine s_if (gt_neB (b := false) (gr_makeK (c := 2) (gra_cons (gr_var rfl h_d) (gra_cons (gr_var rfl h_core) (gra_cons (gr_var rfl h_b) (gra_cons (gr_tup (gra_cons (gr_tup (gra_cons (gr_var rfl h_a) (gra_cons (gr_var rfl h_b) gra_nil)) (Nat.le_of_ble_eq_true rfl)) gra_nil) (Nat.le_of_ble_eq_true rfl)) (gra_cons gr_str (gra_cons (gr_var rfl h_a) gra_nil)))))) rfl rfl) (gr_var rfl h_one0) (CmpD.refl _) (Nat.le_of_ble_eq_true rfl) (Nat.le_of_ble_eq_true rfl) ⟨(by decide), Nat.le_of_ble_eq_true rfl, ⟨trivial, ⟨trivial, ⟨⟨⟨trivial, ⟨trivial, trivial⟩⟩, trivial⟩, ⟨trivial, ⟨⟨(by decide), Nat.le_of_ble_eq_true rfl, ⟨⟨⟨trivial, ⟨trivial, trivial⟩⟩, trivial⟩, ⟨⟨⟨trivial, ⟨trivial, trivial⟩⟩, trivial⟩, trivial⟩⟩⟩, ⟨trivial, trivial⟩⟩⟩⟩⟩⟩⟩ ⟨(by decide), Nat.le_of_ble_eq_true rfl, ⟨trivial, ⟨trivial, ⟨⟨⟨trivial, ⟨trivial, trivial⟩⟩, trivial⟩, ⟨trivial, ⟨⟨(by decide), Nat.le_of_ble_eq_true rfl, ⟨⟨⟨trivial, ⟨trivial, trivial⟩⟩, trivial⟩, ⟨⟨⟨trivial, ⟨trivial, trivial⟩⟩, trivial⟩, trivial⟩⟩⟩, ⟨trivial, trivial⟩⟩⟩⟩⟩⟩⟩ (Or.inl ⟨_, _, rfl⟩)) fun H1 s => ?_
    replace h_a := h_a.same s; replace h_b := h_b.same s; replace h_d := h_d.same s; replace h_core := h_core.same s; replace h_one0 := h_one0.same s; replace h_told1 := h_told1.same s
    replace S := S.trans s; clear s
    refine s_if (gt_or (gt_neB (b := false) (gr_make (c := 2) (gra_cons (gr_var rfl h_a) (gra_cons gr_str gra_nil)) (D2.dd 0 _) rfl) (gr_make (c := 2) (gra_cons (gr_var rfl h_a) (gra_cons gr_str (gra_cons (gr_tup gra_nil (Nat.le_of_ble_eq_true rfl)) (gra_cons gr_non (gra_cons gr_non (gra_cons gr_bl gra_nil)))))) (D2.dd 4 _) rfl) (CmpD.refl _) (Nat.le_of_ble_eq_true rfl) (Nat.le_of_ble_eq_true rfl) ⟨(by decide), Nat.le_of_ble_eq_true rfl, ⟨trivial, ⟨trivial, ⟨trivial, ⟨trivial, ⟨trivial, ⟨trivial, trivial⟩⟩⟩⟩⟩⟩⟩ ⟨(by decide), Nat.le_of_ble_eq_true rfl, ⟨trivial, ⟨trivial, ⟨trivial, ⟨trivial, ⟨trivial, ⟨trivial, trivial⟩⟩⟩⟩⟩⟩⟩ (Or.inl ⟨_, _, rfl⟩)) (gt_isnot (gr_fld (j := 5) (gr_make (c := 2) (gra_cons (gr_var rfl h_a) (gra_cons gr_str gra_nil)) (D2.dd 0 _) rfl) (T 2 (by decide)).cl (no2 _ (by decide +kernel)) (show fldAt (nsL.getD 2 []) "shown" 5 = true by decide +kernel) rfl) gr_bl)) fun H1 s => ?_
    replace h_a := h_a.same s; replace h_b := h_b.same s; replace h_d := h_d.same s; replace h_core := h_core.same s; replace h_one0 := h_one0.same s; replace h_told1 := h_told1.same s
    replace S := S.trans s; clear s
    refine s_setN (E := mkE CS) (K := K) (gn_lst (gra_cons (gr_make (c := 2) (gra_cons (gr_var rfl h_a) (gra_cons gr_str (gra_cons (gr_fld (j := 2) (gr_var rfl h_one0) (T 2 (by decide)).cl (no2 _ (by decide +kernel)) (show fldAt (nsL.getD 2 []) "params" 2 = true by decide +kernel) rfl) (gra_cons (gr_var rfl h_b) (gra_cons (gr_var rfl h_core) (gra_cons (gr_var rfl h_d) gra_nil)))))) (D2.dd 4 _) rfl) gra_nil) (Nat.le_of_ble_eq_true rfl)) fun H1 w5 s n5 h_others5 => ?_
    have nlothers := S.free n5
    replace h_a := h_a.same s; replace h_b := h_b.same s; replace h_d := h_d.same s; replace h_core := h_core.same s; replace h_one0 := h_one0.same s; replace h_told1 := h_told1.same s
    replace S := S.trans s; clear s
    refine s_setN (E := mkE CS) (K := K) (gn_cat (gl_var rfl h_others5) (gl_lst (gra_cons (gr_make (c := 2) (gra_cons (gr_var rfl h_a) (gra_cons gr_str (gra_cons (gr_tup gra_nil (Nat.le_of_ble_eq_true rfl)) (gra_cons (gr_var rfl h_b) (gra_cons (gr_var rfl h_core) (gra_cons (gr_var rfl h_d) gra_nil)))))) (D2.dd 4 _) rfl) (gra_cons (gr_tup (gra_cons (gr_var rfl h_a) (gra_cons gr_str (gra_cons (gr_var rfl h_b) (gra_cons (gr_var rfl h_core) (gra_cons (gr_var rfl h_d) gra_nil))))) (Nat.le_of_ble_eq_true rfl)) gra_nil)) (Nat.le_of_ble_eq_true rfl)) (Nat.le_of_ble_eq_true rfl)) fun H1 w6 s n6 h_others6 => ?_
    have nlothers := S.free n6
    replace h_a := h_a.same s; replace h_b := h_b.same s; replace h_d := h_d.same s; replace h_core := h_core.same s; replace h_one0 := h_one0.same s; replace h_told1 := h_told1.same s
    replace S := S.trans s; clear s
    clear h_others5
    refine s_setN (E := mkE CS) (K := K) (gn_cat (gl_var rfl h_others6) (gl_lst (gra_cons (gr_make (c := 2) (gra_cons (gr_var rfl h_a) (gra_cons gr_str (gra_cons (gr_fld (j := 2) (gr_var rfl h_one0) (T 2 (by decide)).cl (no2 _ (by decide +kernel)) (show fldAt (nsL.getD 2 []) "params" 2 = true by decide +kernel) rfl) (gra_cons gr_non (gra_cons (gr_var rfl h_core) (gra_cons (gr_var rfl h_d) gra_nil)))))) (D2.dd 4 _) rfl) gra_nil) (Nat.le_of_ble_eq_true rfl)) (Nat.le_of_ble_eq_true rfl)) fun H1 w7 s n7 h_others7 => ?_
    have nlothers := S.free n7
    replace h_a := h_a.same s; replace h_b := h_b.same s; replace h_d := h_d.same s; replace h_core := h_core.same s; replace h_one0 := h_one0.same s; replace h_told1 := h_told1.same s
    replace S := S.trans s; clear s
    clear h_others6
    refine s_setN (E := mkE CS) (K := K) (gn_cat (gl_var rfl h_others7) (gl_lst (gra_cons (gr_make (c := 2) (gra_cons (gr_addS (gr_var rfl h_a) gr_str (short_a (by decide +kernel))) (gra_cons gr_str (gra_cons (gr_fld (j := 2) (gr_var rfl h_one0) (T 2 (by decide)).cl (no2 _ (by decide +kernel)) (show fldAt (nsL.getD 2 []) "params" 2 = true by decide +kernel) rfl) (gra_cons (gr_var rfl h_b) (gra_cons (gr_var rfl h_core) (gra_cons (gr_var rfl h_d) gra_nil)))))) (D2.dd 4 _) rfl) gra_nil) (Nat.le_of_ble_eq_true rfl)) (Nat.le_of_ble_eq_true rfl)) fun H1 w8 s n8 h_others8 => ?_
    have nlothers := S.free n8
    replace h_a := h_a.same s; replace h_b := h_b.same s; replace h_d := h_d.same s; replace h_core := h_core.same s; replace h_one0 := h_one0.same s; replace h_told1 := h_told1.same s
    replace S := S.trans s; clear s
    clear h_others7
    refine s_setN (E := mkE CS) (K := K) (gn_cat (gl_var rfl h_others8) (gl_lst (gra_cons (gr_make (c := 2) (gra_cons (gr_var rfl h_a) (gra_cons gr_str (gra_cons (gr_fld (j := 2) (gr_var rfl h_one0) (T 2 (by decide)).cl (no2 _ (by decide +kernel)) (show fldAt (nsL.getD 2 []) "params" 2 = true by decide +kernel) rfl) (gra_cons (gr_var rfl h_b) (gra_cons (gr_make (c := 1) gra_nil (D1.dd 0 _) rfl) (gra_cons (gr_var rfl h_d) gra_nil)))))) (D2.dd 4 _) rfl) gra_nil) (Nat.le_of_ble_eq_true rfl)) (Nat.le_of_ble_eq_true rfl)) fun H1 w9 s n9 h_others9 => ?_
    have nlothers := S.free n9
    replace h_a := h_a.same s; replace h_b := h_b.same s; replace h_d := h_d.same s; replace h_core := h_core.same s; replace h_one0 := h_one0.same s; replace h_told1 := h_told1.same s
    replace S := S.trans s; clear s
    clear h_others8
    refine s_setN (E := mkE CS) (K := K) (gn_cat (gl_var rfl h_others9) (gl_lst (gra_cons (gr_make (c := 2) (gra_cons (gr_var rfl h_a) (gra_cons gr_str (gra_cons (gr_fld (j := 2) (gr_var rfl h_one0) (T 2 (by decide)).cl (no2 _ (by decide +kernel)) (show fldAt (nsL.getD 2 []) "params" 2 = true by decide +kernel) rfl) (gra_cons (gr_var rfl h_b) (gra_cons (gr_var rfl h_core) (gra_cons (gr_not (gr_var rfl h_d)) gra_nil)))))) (D2.dd 4 _) rfl) gra_nil) (Nat.le_of_ble_eq_true rfl)) (Nat.le_of_ble_eq_true rfl)) fun H1 w10 s n10 h_others10 => ?_
    have nlothers := S.free n10
    replace h_a := h_a.same s; replace h_b := h_b.same s; replace h_d := h_d.same s; replace h_core := h_core.same s; replace h_one0 := h_one0.same s; replace h_told1 := h_told1.same s
    replace S := S.trans s; clear s
    clear h_others9
    refine r_ret (r_call (r_cons ((gr_var rfl h_one0) _ _ (Same.refl _) fun H1 u1 s1 p1 => r_cons ((GrL.later (gl_cat (gl_var rfl h_others10) (gl_lst (gra_cons (gr_make (c := 4) (gra_cons (gr_var rfl h_a) (gra_cons (gr_fld (j := 2) (gr_var rfl h_one0) (T 2 (by decide)).cl (no2 _ (by decide +kernel)) (show fldAt (nsL.getD 2 []) "params" 2 = true by decide +kernel) rfl) (gra_cons (gr_var rfl h_b) (gra_cons (gr_var rfl h_core) gra_nil)))) (D4.dd 3 _) rfl) gra_nil) (Nat.le_of_ble_eq_true rfl)) (Nat.le_of_ble_eq_true rfl)) s1) _ _ (Same.refl _) fun H2 l2 s2 p2 => r_nil ⟨u1, l2, 2, _, _, rfl, p1.same s2, p2, Nat.le_of_ble_eq_true rfl, ⟨(by decide), Nat.le_of_ble_eq_true rfl, ⟨trivial, ⟨trivial, ⟨⟨⟨trivial, ⟨trivial, trivial⟩⟩, trivial⟩, ⟨trivial, ⟨⟨(by decide), Nat.le_of_ble_eq_true rfl, ⟨⟨⟨trivial, ⟨trivial, trivial⟩⟩, trivial⟩, ⟨⟨⟨trivial, ⟨trivial, trivial⟩⟩, trivial⟩, trivial⟩⟩⟩, ⟨trivial, trivial⟩⟩⟩⟩⟩⟩⟩, ?_, fun H3 s3 => k H3 (S.trans ((s1.trans s2).trans s3))⟩))))
    exact (All4.cons ⟨(CmpD.obj (CmpL.on (CmpD.refl _) (CmpL.off (CmpD.ne rfl rfl (by decide +kernel))))), (CmpD.obj (CmpL.on (CmpD.refl _) (CmpL.off (CmpD.ne rfl rfl (by decide +kernel))))), Nat.le_of_ble_eq_true rfl, ⟨(by decide), Nat.le_of_ble_eq_true rfl, ⟨trivial, ⟨trivial, ⟨⟨⟨trivial, ⟨trivial, trivial⟩⟩, trivial⟩, ⟨trivial, ⟨⟨(by decide), Nat.le_of_ble_eq_true rfl, ⟨⟨⟨trivial, ⟨trivial, trivial⟩⟩, trivial⟩, ⟨⟨⟨trivial, ⟨trivial, trivial⟩⟩, trivial⟩, trivial⟩⟩⟩, ⟨trivial, trivial⟩⟩⟩⟩⟩⟩⟩⟩ (All4.cons ⟨(CmpD.obj (CmpL.on (CmpD.refl _) (CmpL.on (CmpD.refl _) (CmpL.off (CmpD.tup CmpL.right))))), (CmpD.obj (CmpL.on (CmpD.refl _) (CmpL.on (CmpD.refl _) (CmpL.off (CmpD.tup CmpL.left))))), Nat.le_of_ble_eq_true rfl, ⟨(by decide), Nat.le_of_ble_eq_true rfl, ⟨trivial, ⟨trivial, ⟨trivial, ⟨trivial, ⟨⟨(by decide), Nat.le_of_ble_eq_true rfl, ⟨⟨⟨trivial, ⟨trivial, trivial⟩⟩, trivial⟩, ⟨⟨⟨trivial, ⟨trivial, trivial⟩⟩, trivial⟩, trivial⟩⟩⟩, ⟨trivial, trivial⟩⟩⟩⟩⟩⟩⟩⟩ (All4.cons ⟨CmpD.objT, CmpD.tupO, Nat.le_of_ble_eq_true rfl, ⟨trivial, ⟨trivial, ⟨trivial, ⟨⟨(by decide), Nat.le_of_ble_eq_true rfl, ⟨⟨⟨trivial, ⟨trivial, trivial⟩⟩, trivial⟩, ⟨⟨⟨trivial, ⟨trivial, trivial⟩⟩, trivial⟩, trivial⟩⟩⟩, ⟨trivial, trivial⟩⟩⟩⟩⟩⟩ (All4.cons ⟨(CmpD.obj (CmpL.on (CmpD.refl _) (CmpL.on (CmpD.refl _) (CmpL.on (CmpD.refl _) (CmpL.off (CmpD.ne rfl rfl rfl)))))), (CmpD.obj (CmpL.on (CmpD.refl _) (CmpL.on (CmpD.refl _) (CmpL.on (CmpD.refl _) (CmpL.off (CmpD.ne rfl rfl rfl)))))), Nat.le_of_ble_eq_true rfl, ⟨(by decide), Nat.le_of_ble_eq_true rfl, ⟨trivial, ⟨trivial, ⟨⟨⟨trivial, ⟨trivial, trivial⟩⟩, trivial⟩, ⟨trivial, ⟨⟨(by decide), Nat.le_of_ble_eq_true rfl, ⟨⟨⟨trivial, ⟨trivial, trivial⟩⟩, trivial⟩, ⟨⟨⟨trivial, ⟨trivial, trivial⟩⟩, trivial⟩, trivial⟩⟩⟩, ⟨trivial, trivial⟩⟩⟩⟩⟩⟩⟩⟩ (All4.cons ⟨(CmpD.obj (CmpL.off (CmpD.ne rfl rfl (str_app_ne (by decide +kernel))))), (CmpD.obj (CmpL.off (CmpD.ne rfl rfl (str_app_ne' (by decide +kernel))))), Nat.le_of_ble_eq_true rfl, ⟨(by decide), Nat.le_of_ble_eq_true rfl, ⟨trivial, ⟨trivial, ⟨⟨⟨trivial, ⟨trivial, trivial⟩⟩, trivial⟩, ⟨trivial, ⟨⟨(by decide), Nat.le_of_ble_eq_true rfl, ⟨⟨⟨trivial, ⟨trivial, trivial⟩⟩, trivial⟩, ⟨⟨⟨trivial, ⟨trivial, trivial⟩⟩, trivial⟩, trivial⟩⟩⟩, ⟨trivial, trivial⟩⟩⟩⟩⟩⟩⟩⟩ (All4.cons ⟨(CmpD.obj (CmpL.on (CmpD.refl _) (CmpL.on (CmpD.refl _) (CmpL.on (CmpD.refl _) (CmpL.on (CmpD.refl _) (CmpL.off (CmpD.obj (CmpL.off (CmpD.tup CmpL.right))))))))), (CmpD.obj (CmpL.on (CmpD.refl _) (CmpL.on (CmpD.refl _) (CmpL.on (CmpD.refl _) (CmpL.on (CmpD.refl _) (CmpL.off (CmpD.obj (CmpL.off (CmpD.tup CmpL.left))))))))), Nat.le_of_ble_eq_true rfl, ⟨(by decide), Nat.le_of_ble_eq_true rfl, ⟨trivial, ⟨trivial, ⟨⟨⟨trivial, ⟨trivial, trivial⟩⟩, trivial⟩, ⟨trivial, ⟨⟨(by decide), Nat.le_of_ble_eq_true rfl, ⟨trivial, ⟨trivial, trivial⟩⟩⟩, ⟨trivial, trivial⟩⟩⟩⟩⟩⟩⟩⟩ (All4.cons ⟨(CmpD.obj (CmpL.on (CmpD.refl _) (CmpL.on (CmpD.refl _) (CmpL.on (CmpD.refl _) (CmpL.on (CmpD.refl _) (CmpL.on (CmpD.refl _) (CmpL.off (CmpD.ne rfl rfl (bl_n _))))))))), (CmpD.obj (CmpL.on (CmpD.refl _) (CmpL.on (CmpD.refl _) (CmpL.on (CmpD.refl _) (CmpL.on (CmpD.refl _) (CmpL.on (CmpD.refl _) (CmpL.off (CmpD.ne rfl rfl (bl_n' _))))))))), Nat.le_of_ble_eq_true rfl, ⟨(by decide), Nat.le_of_ble_eq_true rfl, ⟨trivial, ⟨trivial, ⟨⟨⟨trivial, ⟨trivial, trivial⟩⟩, trivial⟩, ⟨trivial, ⟨⟨(by decide), Nat.le_of_ble_eq_true rfl, ⟨⟨⟨trivial, ⟨trivial, trivial⟩⟩, trivial⟩, ⟨⟨⟨trivial, ⟨trivial, trivial⟩⟩, trivial⟩, trivial⟩⟩⟩, ⟨trivial, trivial⟩⟩⟩⟩⟩⟩⟩⟩ (All4.cons ⟨(CmpD.objN (by decide)), (CmpD.objN (by decide)), Nat.le_of_ble_eq_true rfl, ⟨(by decide), Nat.le_of_ble_eq_true rfl, ⟨trivial, ⟨⟨⟨trivial, ⟨trivial, trivial⟩⟩, trivial⟩, ⟨trivial, ⟨⟨(by decide), Nat.le_of_ble_eq_true rfl, ⟨⟨⟨trivial, ⟨trivial, trivial⟩⟩, trivial⟩, ⟨⟨⟨trivial, ⟨trivial, trivial⟩⟩, trivial⟩, trivial⟩⟩⟩, trivial⟩⟩⟩⟩⟩⟩ All4.nil))))))))
def spClass (E : CE) (K : PySem.W.Frag) : Sp := fun vs H Q _ => ∃ (v0 v1 v2 : V) (a b : Str) (c : Int) (d : Bool), vs = [v0, v1, v2] ∧ a.length ≤ 100 ∧ b.length ≤ 100 ∧ HasD E K H v0 (.bl d) ∧ HasD E K H v1 (.obj 0 [(.str a), (.str b), (.int c), (.bl d)]) ∧ HasD E K H v2 (.obj 2 [(.str a), (.str "open"), (.tup []), .non, (.obj 1 [(.tup [(.tup [(.str a), (.str b)])]), (.tup [(.tup [(.str "say"), (.int c)])])]), (.bl d)]) ∧ ∀ H', Same H H' → Q (.bl true) H'
theorem scClass : FnScope ["_law_d", "_law_cell", "_law_call", "_law_over", "_law_one", "_law_told", "_law_others"] ["_law_d", "_law_cell", "_law_call"] (defScope sClass) := ⟨rfl, rfl, rfl, by decide +kernel, rfl, by decide +kernel, by decide +kernel⟩
theorem okClass {f : Addr} {fd : FuncData} {fO : Nat → Addr} {gO : Nat → FuncData} (F : Fun K "_law_class_right" "_law_class_right" sClass f fd) (G : XG K) (hE : (mkE CS).Inj) (T : ∀ c, c < 5 → Tyf K ((mkE CS).C c))
    (O : ∀ c, c < 5 → (mkE CS).lv c ≤ 11 → OwnF P w K mg base (mkE CS) c (fO c) (gO c)) {fI0 : Addr} {gI0 : FuncData} {dv0 : List V} (D0 : MkF P w K mg base (mkE CS) 0 "Field" ["self", "name", "form", "start", "shown"] ["shown", "start", "form", "name"] dv0 [(.int 0), (.bl true)] fI0 gI0) (ln0 : dv0.length = 2) {fI1 : Addr} {gI1 : FuncData} {dv1 : List V} (D1 : MkF P w K mg base (mkE CS) 1 "Body" ["self", "variables", "steps"] ["steps", "variables"] dv1 [(.tup []), (.tup [])] fI1 gI1) (ln1 : dv1.length = 2) {fI2 : Addr} {gI2 : FuncData} {dv2 : List V} (D2 : MkF P w K mg base (mkE CS) 2 "Method" ["self", "name", "kind", "params", "result", "body", "shown"] ["shown", "body", "result", "params", "kind", "name"] dv2 [(.tup []), .non, .non, (.bl true)] fI2 gI2) (ln2 : dv2.length = 4) {fI3 : Addr} {gI3 : FuncData} {dv3 : List V} (D3 : MkF P w K mg base (mkE CS) 3 "Class" ["self", "name", "bases", "fields", "methods", "closed", "lent"] ["lent", "closed", "methods", "fields", "bases", "name"] dv3 [(.tup []), (.tup []), (.tup []), (.bl false), (.bl false)] fI3 gI3) (ln3 : dv3.length = 5) {fI4 : Addr} {gI4 : FuncData} {dv4 : List V} (D4 : MkF P w K mg base (mkE CS) 4 "Routine" ["self", "name", "params", "result", "body"] ["body", "result", "params", "name"] dv4 [(.tup []), .non, .non] fI4 gI4) (ln4 : dv4.length = 3) (no0 : ∀ z ∈ (["name", "form", "start", "shown"] : List Str), NoAttr K ((mkE CS).C 0) z) (no1 : ∀ z ∈ (["variables", "steps"] : List Str), NoAttr K ((mkE CS).C 1) z) (no2 : ∀ z ∈ (["name", "kind", "params", "result", "body", "shown"] : List Str), NoAttr K ((mkE CS).C 2) z) (no3 : ∀ z ∈ (["name", "bases", "fields", "methods", "closed", "lent"] : List Str), NoAttr K ((mkE CS).C 3) z) (no4 : ∀ z ∈ (["name", "params", "result", "body"] : List Str), NoAttr K ((mkE CS).C 4) z) {fU : Addr} {gU : FuncData} (GU : FnOk P w K mg base CX0 13 fU gU ["_law_one", "_law_others"] (spU (mkE CS) K)) (mU : mg "_law_unlike_right" = some (.ref fU)) (kU : PySem.W.keepIn K (.ref fU) = true) (bU : Binds K gU ["_law_one", "_law_others"] []) : FnOk P w K mg base CX0 14 f fd ["_law_d", "_law_cell", "_law_call"] (spClass (mkE CS) K) := by
  refine F.ok scClass (fun vs H Q E h => ?_) (fun cdv A outer s H vs Q E hr h => ?_)
  · obtain ⟨v0, v1, v2, a, b, c, d, rfl, _⟩ := h; rfl
  · obtain ⟨v0, v1, v2, a, b, c, d, rfl, la, lb, h_d, h_cell, h_call, k⟩ := h
    obtain ⟨ds3_0, v3_0, b3_0⟩ := D3.b 0 (by rw [ln3]; decide)
    obtain ⟨ds3_5, v3_5, b3_5⟩ := D3.b 5 (by rw [ln3]; decide)
    have short_a : ∀ {y : Str}, y.length ≤ 100 → a.length + y.length ≤ sizeLine := fun h => short_of la h
    have short_b : ∀ {y : Str}, y.length ≤ 100 → b.length + y.length ≤ sizeLine := fun h => short_of lb h
    refine ⟨_, (pss_cons (ps_set (i := 3) scClass.nd rfl (Or.inl rfl) (pe_tup (pa_cons (pe_tup (pa_cons pe_str (pa_cons pe_str pa_nil))) pa_nil)))
      (pss_cons (ps_set (i := 4) scClass.nd rfl (Or.inl rfl) (pe_make D3.M D3.G (hr.mono (by decide)) rfl D3.m b3_5 v3_5 pass0 (pa_cons pe_str (pa_cons (pv 3) (pa_cons (pe_tup (pa_cons (pv 1) pa_nil)) (pa_cons (pe_tup (pa_cons (pv 2) pa_nil)) (pa_cons (pv 0) (pa_cons (pe_not (pv 0)) pa_nil))))))))
      (pss_cons (ps_set (i := 5) scClass.nd rfl (Or.inl rfl) (pe_tup (pa_cons (pe_fld (pv 4) rfl) (pa_cons (pe_fld (pv 4) rfl) (pa_cons (pe_fld (pv 4) rfl) (pa_cons (pe_fld (pv 4) rfl) (pa_cons (pe_fld (pv 4) rfl) (pa_cons (pe_fld (pv 4) rfl) pa_nil))))))))
      (pss_cons (ps_if (pt_cmpR (op_neB (rcN_dt (E := mkE CS) (P := P5) (N := 11) hE G (fun c hc => T c hc) (fun c hc hl => OwnF.to (T c hc) (O c hc hl)) 11 (Nat.le_refl _)) (hr.mono (by decide))) (pv 5) (pe_tup (pa_cons pe_str (pa_cons (pv 3) (pa_cons (pe_tup (pa_cons (pv 1) pa_nil)) (pa_cons (pe_tup (pa_cons (pv 2) pa_nil)) (pa_cons (pv 0) (pa_cons (pe_not (pv 0)) pa_nil))))))) (nomark _)) (pss_one (ps_ret pe_bl)) pss_nil)
      (pss_cons (ps_if (pt_cmpR (op_neB (rcN_dt (E := mkE CS) (P := P5) (N := 11) hE G (fun c hc => T c hc) (fun c hc hl => OwnF.to (T c hc) (O c hc hl)) 11 (Nat.le_refl _)) (hr.mono (by decide))) (pe_makeK0 D3.M D3.G (hr.mono (by decide)) rfl D3.m D3.kw pass0 (pk_cons (pe_not (pv 0)) (pk_cons (pv 0) (pk_cons (pe_tup (pa_cons (pv 2) pa_nil)) (pk_cons (pe_tup (pa_cons (pv 1) pa_nil)) (pk_cons (pv 3) (pk_cons pe_str pk_nil))))))) (pv 4) (nomark _)) (pss_one (ps_ret pe_bl)) pss_nil)
      (pss_cons (ps_if (pt_cmpR (op_neB (rcN_dt (E := mkE CS) (P := P5) (N := 11) hE G (fun c hc => T c hc) (fun c hc hl => OwnF.to (T c hc) (O c hc hl)) 11 (Nat.le_refl _)) (hr.mono (by decide))) (pe_make D3.M D3.G (hr.mono (by decide)) rfl D3.m b3_0 v3_0 pass0 (pa_cons pe_str pa_nil)) (pe_make D3.M D3.G (hr.mono (by decide)) rfl D3.m b3_5 v3_5 pass0 (pa_cons pe_str (pa_cons (pe_tup pa_nil) (pa_cons (pe_tup pa_nil) (pa_cons (pe_tup pa_nil) (pa_cons pe_bl (pa_cons pe_bl pa_nil))))))) (nomark _)) (pss_one (ps_ret pe_bl)) pss_nil)
      (pss_cons (ps_if (PW.pt (pw_or (pt_cmpR op_notBl (pe_fld (pe_make D3.M D3.G (hr.mono (by decide)) rfl D3.m b3_0 v3_0 pass0 (pa_cons pe_str pa_nil)) rfl) pe_bl (nomark _)) (pw_or1 (pt_cmpR op_notBl (pe_fld (pe_make D3.M D3.G (hr.mono (by decide)) rfl D3.m b3_0 v3_0 pass0 (pa_cons pe_str pa_nil)) rfl) pe_bl (nomark _))))) (pss_one (ps_ret pe_bl)) pss_nil)
      (pss_cons (ps_set (i := 6) scClass.nd rfl (Or.inl rfl) (pe_lst (pa_cons (pe_make D3.M D3.G (hr.mono (by decide)) rfl D3.m b3_5 v3_5 pass0 (pa_cons pe_str (pa_cons (pe_tup pa_nil) (pa_cons (pe_tup (pa_cons (pv 1) pa_nil)) (pa_cons (pe_tup (pa_cons (pv 2) pa_nil)) (pa_cons (pv 0) (pa_cons (pe_not (pv 0)) pa_nil))))))) pa_nil)))
      (pss_cons (ps_set (i := 6) scClass.nd rfl (Or.inl rfl) (pe_op op_cat (pv 6) (pe_lst (pa_cons (pe_make D3.M D3.G (hr.mono (by decide)) rfl D3.m b3_5 v3_5 pass0 (pa_cons pe_str (pa_cons (pv 3) (pa_cons (pe_tup (pa_cons (pv 1) pa_nil)) (pa_cons (pe_tup (pa_cons (pv 2) pa_nil)) (pa_cons (pv 0) (pa_cons (pe_not (pv 0)) pa_nil))))))) pa_nil))))
      (pss_cons (ps_set (i := 6) scClass.nd rfl (Or.inl rfl) (pe_op op_cat (pv 6) (pe_lst (pa_cons (pe_make D3.M D3.G (hr.mono (by decide)) rfl D3.m b3_5 v3_5 pass0 (pa_cons pe_str (pa_cons (pv 3) (pa_cons (pe_tup pa_nil) (pa_cons (pe_tup (pa_cons (pv 2) pa_nil)) (pa_cons (pv 0) (pa_cons (pe_not (pv 0)) pa_nil))))))) pa_nil))))
      (pss_cons (ps_set (i := 6) scClass.nd rfl (Or.inl rfl) (pe_op op_cat (pv 6) (pe_lst (pa_cons (pe_make D3.M D3.G (hr.mono (by decide)) rfl D3.m b3_5 v3_5 pass0 (pa_cons pe_str (pa_cons (pv 3) (pa_cons (pe_tup (pa_cons (pv 1) pa_nil)) (pa_cons (pe_tup pa_nil) (pa_cons (pv 0) (pa_cons (pe_not (pv 0)) pa_nil))))))) pa_nil))))
      (pss_cons (ps_expr (pe_bm PySem.F.plainAttrs_list PySem.F.slot_list_append PySem.F.type_list_append mt_append (pv 6) (pa_cons (pe_make D3.M D3.G (hr.mono (by decide)) rfl D3.m b3_5 v3_5 pass0 (pa_cons pe_str (pa_cons (pv 3) (pa_cons (pe_tup (pa_cons (pv 1) pa_nil)) (pa_cons (pe_tup (pa_cons (pv 2) pa_nil)) (pa_cons (pe_not (pv 0)) (pa_cons (pe_not (pv 0)) pa_nil))))))) pa_nil)))
      (pss_cons (ps_expr (pe_bm PySem.F.plainAttrs_list PySem.F.slot_list_append PySem.F.type_list_append mt_append (pv 6) (pa_cons (pe_make D3.M D3.G (hr.mono (by decide)) rfl D3.m b3_5 v3_5 pass0 (pa_cons pe_str (pa_cons (pv 3) (pa_cons (pe_tup (pa_cons (pv 1) pa_nil)) (pa_cons (pe_tup (pa_cons (pv 2) pa_nil)) (pa_cons (pv 0) (pa_cons (pv 0) pa_nil))))))) pa_nil)))
      (pss_one (ps_ret (pe_call GU (hr.mono (by decide)) rfl mU kU bU .nil pass0 (pa_cons (pv 4) (pa_cons (pe_op op_cat (pv 6) (pe_lst (pa_cons pe_str (pa_cons pe_non pa_nil)))) pa_nil)))))))))))))))))), ?_⟩
    have S : Same H H := Same.refl H
    refine s_set (E := mkE CS) (K := K) (gr_tup (gra_cons (gr_tup (gra_cons gr_str (gra_cons gr_str gra_nil)) (Nat.le_of_ble_eq_true rfl)) gra_nil) (Nat.le_of_ble_eq_true rfl)) fun H1 w0 s h_over0 => ?_
    replace h_d := h_d.same s; replace h_cell := h_cell.same s; replace h_call := h_call.same s
    replace S := S.trans s; clear s
    refine s_set (E := mkE CS) (K := K) (gr_make (c := 3) (gra_cons gr_str (gra_cons (gr_var rfl h_over0) (gra_cons (gr_tup (gra_cons (gr_var rfl h_cell) gra_nil) (Nat.le_of_ble_eq_true rfl)) (gra_cons (gr_tup (gra_cons (gr_var rfl h_call) gra_nil) (Nat.le_of_ble_eq_true rfl)) (gra_cons (gr_var rfl h_d) (gra_cons (gr_not (gr_var rfl h_d)) gra_nil)))))) (D3.dd 5 _) rfl) fun H1 w1 s h_one1 => ?_
    replace h_d := h_d.same s; replace h_cell := h_cell.same s; replace h_call := h_call.same s; replace h_over0 := h_over0.same s
    replace S := S.trans s; clear s
    refine s_set (E := mkE CS) (K := K) (gr_tup (gra_cons (gr_fld (j := 0) (gr_var rfl h_one1) (T 3 (by decide)).cl (no3 _ (by decide +kernel)) (show fldAt (nsL.getD 3 []) "name" 0 = true by decide +kernel) rfl) (gra_cons (gr_fld (j := 1) (gr_var rfl h_one1) (T 3 (by decide)).cl (no3 _ (by decide +kernel)) (show fldAt (nsL.getD 3 []) "bases" 1 = true by decide +kernel) rfl) (gra_cons (gr_fld (j := 2) (gr_var rfl h_one1) (T 3 (by decide)).cl (no3 _ (by decide +kernel)) (show fldAt (nsL.getD 3 []) "fields" 2 = true by decide +kernel) rfl) (gra_cons (gr_fld (j := 3) (gr_var rfl h_one1) (T 3 (by decide)).cl (no3 _ (by decide +kernel)) (show fldAt (nsL.getD 3 []) "methods" 3 = true by decide +kernel) rfl) (gra_cons (gr_fld (j := 4) (gr_var rfl h_one1) (T 3 (by decide)).cl (no3 _ (by decide +kernel)) (show fldAt (nsL.getD 3 []) "closed" 4 = true by decide +kernel) rfl) (gra_cons (gr_fld (j := 5) (gr_var rfl h_one1) (T 3 (by decide)).cl (no3 _ (by decide +kernel)) (show fldAt (nsL.getD 3 []) "lent" 5 = true by decide +kernel) rfl) gra_nil)))))) (Nat.le_of_ble_eq_true rfl)) fun H1 w2 s h_told2 => ?_
    replace h_d := h_d.same s; replace h_cell := h_cell.same s; replace h_call := h_call.same s; replace h_over0 := h_over0.same s; replace h_one1 := h_one1.same s
    replace S := S.trans s; clear s
    refine s_if (gt_neB (b := false) (gr_var rfl h_told2) (gr_tup (gra_cons gr_str (gra_cons (gr_var rfl h_over0) (gra_cons (gr_tup (gra_cons (gr_var rfl h_cell) gra_nil) (Nat.le_of_ble_eq_true rfl)) (gra_cons (gr_tup (gra_cons (gr_var rfl h_call) gra_nil) (Nat.le_of_ble_eq_true rfl)) (gra_cons (gr_var rfl h_d) (gra_cons (gr_not (gr_var rfl h_d)) gra_nil)))))) (Nat.le_of_ble_eq_true rfl)) (CmpD.refl _) (Nat.le_of_ble_eq_true rfl) (Nat.le_of_ble_eq_true rfl) ⟨trivial, ⟨⟨⟨trivial, ⟨trivial, trivial⟩⟩, trivial⟩, ⟨⟨⟨(by decide), Nat.le_of_ble_eq_true rfl, ⟨trivial, ⟨trivial, ⟨trivial, ⟨trivial, trivial⟩⟩⟩⟩⟩, trivial⟩, ⟨⟨⟨(by decide), Nat.le_of_ble_eq_true rfl, ⟨trivial, ⟨trivial, ⟨trivial, ⟨trivial, ⟨⟨(by decide), Nat.le_of_ble_eq_true rfl, ⟨⟨⟨trivial, ⟨trivial, trivial⟩⟩, trivial⟩, ⟨⟨⟨trivial, ⟨trivial, trivial⟩⟩, trivial⟩, trivial⟩⟩⟩, ⟨trivial, trivial⟩⟩⟩⟩⟩⟩⟩, trivial⟩, ⟨trivial, ⟨trivial, trivial⟩⟩⟩⟩⟩⟩ ⟨trivial, ⟨⟨⟨trivial, ⟨trivial, trivial⟩⟩, trivial⟩, ⟨⟨⟨(by decide), Nat.le_of_ble_eq_true rfl, ⟨trivial, ⟨trivial, ⟨trivial, ⟨trivial, trivial⟩⟩⟩⟩⟩, trivial⟩, ⟨⟨⟨(by decide), Nat.le_of_ble_eq_true rfl, ⟨trivial, ⟨trivial, ⟨trivial, ⟨trivial, ⟨⟨(by decide), Nat.le_of_ble_eq_true rfl, ⟨⟨⟨trivial, ⟨trivial, trivial⟩⟩, trivial⟩, ⟨⟨⟨trivial, ⟨trivial, trivial⟩⟩, trivial⟩, trivial⟩⟩⟩, ⟨trivial, trivial⟩⟩⟩⟩⟩⟩⟩, trivial⟩, ⟨trivial, ⟨trivial, trivial⟩⟩⟩⟩⟩⟩ (Or.inr ⟨_, _, rfl, rfl⟩)) fun H1 s => ?_
    replace h_d := h_d.same s; replace h_cell := h_cell.same s; replace h_call := h_call.same s; replace h_over0 := h_over0.same s; replace h_one1 := h_one1.same s; replace h_told2 := h_told2.same s
    replace S := S.trans s; clear s
    refine s_if (gt_neB (b := false) (gr_makeK (c := 3) (gra_cons (gr_not (gr_var rfl h_d)) (gra_cons (gr_var rfl h_d) (gra_cons (gr_tup (gra_cons (gr_var rfl h_call) gra_nil) (Nat.le_of_ble_eq_true rfl)) (gra_cons (gr_tup (gra_cons (gr_var rfl h_cell) gra_nil) (Nat.le_of_ble_eq_true rfl)) (gra_cons (gr_var rfl h_over0) (gra_cons gr_str gra_nil)))))) rfl rfl) (gr_var rfl h_one1) (CmpD.refl _) (Nat.le_of_ble_eq_true rfl) (Nat.le_of_ble_eq_true rfl) ⟨(by decide), Nat.le_of_ble_eq_true rfl, ⟨trivial, ⟨⟨⟨trivial, ⟨trivial, trivial⟩⟩, trivial⟩, ⟨⟨⟨(by decide), Nat.le_of_ble_eq_true rfl, ⟨trivial, ⟨trivial, ⟨trivial, ⟨trivial, trivial⟩⟩⟩⟩⟩, trivial⟩, ⟨⟨⟨(by decide), Nat.le_of_ble_eq_true rfl, ⟨trivial, ⟨trivial, ⟨trivial, ⟨trivial, ⟨⟨(by decide), Nat.le_of_ble_eq_true rfl, ⟨⟨⟨trivial, ⟨trivial, trivial⟩⟩, trivial⟩, ⟨⟨⟨trivial, ⟨trivial, trivial⟩⟩, trivial⟩, trivial⟩⟩⟩, ⟨trivial, trivial⟩⟩⟩⟩⟩⟩⟩, trivial⟩, ⟨trivial, ⟨trivial, trivial⟩⟩⟩⟩⟩⟩⟩ ⟨(by decide), Nat.le_of_ble_eq_true rfl, ⟨trivial, ⟨⟨⟨trivial, ⟨trivial, trivial⟩⟩, trivial⟩, ⟨⟨⟨(by decide), Nat.le_of_ble_eq_true rfl, ⟨trivial, ⟨trivial, ⟨trivial, ⟨trivial, trivial⟩⟩⟩⟩⟩, trivial⟩, ⟨⟨⟨(by decide), Nat.le_of_ble_eq_true rfl, ⟨trivial, ⟨trivial, ⟨trivial, ⟨trivial, ⟨⟨(by decide), Nat.le_of_ble_eq_true rfl, ⟨⟨⟨trivial, ⟨trivial, trivial⟩⟩, trivial⟩, ⟨⟨⟨trivial, ⟨trivial, trivial⟩⟩, trivial⟩, trivial⟩⟩⟩, ⟨trivial, trivial⟩⟩⟩⟩⟩⟩⟩, trivial⟩, ⟨trivial, ⟨trivial, trivial⟩⟩⟩⟩⟩⟩⟩ (Or.inl ⟨_, _, rfl⟩)) fun H1 s => ?_
    replace h_d := h_d.same s; replace h_cell := h_cell.same s; replace h_call := h_call.same s; replace h_over0 := h_over0.same s; replace h_one1 := h_one1.same s; replace h_told2 := h_told2.same s
    replace S := S.trans s; clear s
    refine s_if (gt_neB (b := false) (gr_make (c := 3) (gra_cons gr_str gra_nil) (D3.dd 0 _) rfl) (gr_make (c := 3) (gra_cons gr_str (gra_cons (gr_tup gra_nil (Nat.le_of_ble_eq_true rfl)) (gra_cons (gr_tup gra_nil (Nat.le_of_ble_eq_true rfl)) (gra_cons (gr_tup gra_nil (Nat.le_of_ble_eq_true rfl)) (gra_cons gr_bl (gra_cons gr_bl gra_nil)))))) (D3.dd 5 _) rfl) (CmpD.refl _) (Nat.le_of_ble_eq_true rfl) (Nat.le_of_ble_eq_true rfl) ⟨(by decide), Nat.le_of_ble_eq_true rfl, ⟨trivial, ⟨trivial, ⟨trivial, ⟨trivial, ⟨trivial, ⟨trivial, trivial⟩⟩⟩⟩⟩⟩⟩ ⟨(by decide), Nat.le_of_ble_eq_true rfl, ⟨trivial, ⟨trivial, ⟨trivial, ⟨trivial, ⟨trivial, ⟨trivial, trivial⟩⟩⟩⟩⟩⟩⟩ (Or.inl ⟨_, _, rfl⟩)) fun H1 s => ?_
    replace h_d := h_d.same s; replace h_cell := h_cell.same s; replace h_call := h_call.same s; replace h_over0 := h_over0.same s; replace h_one1 := h_one1.same s; replace h_told2 := h_told2.same s
    replace S := S.trans s; clear s
    refine s_if (gt_or (gt_isnot (gr_fld (j := 4) (gr_make (c := 3) (gra_cons gr_str gra_nil) (D3.dd 0 _) rfl) (T 3 (by decide)).cl (no3 _ (by decide +kernel)) (show fldAt (nsL.getD 3 []) "closed" 4 = true by decide +kernel) rfl) gr_bl) (gt_isnot (gr_fld (j := 5) (gr_make (c := 3) (gra_cons gr_str gra_nil) (D3.dd 0 _) rfl) (T 3 (by decide)).cl (no3 _ (by decide +kernel)) (show fldAt (nsL.getD 3 []) "lent" 5 = true by decide +kernel) rfl) gr_bl)) fun H1 s => ?_
    replace h_d := h_d.same s; replace h_cell := h_cell.same s; replace h_call := h_call.same s; replace h_over0 := h_over0.same s; replace h_one1 := h_one1.same s; replace h_told2 := h_told2.same s
    replace S := S.trans s; clear s
    refine s_setN (E := mkE CS) (K := K) (gn_lst (gra_cons (gr_make (c := 3) (gra_cons gr_str (gra_cons (gr_tup gra_nil (Nat.le_of_ble_eq_true rfl)) (gra_cons (gr_tup (gra_cons (gr_var rfl h_cell) gra_nil) (Nat.le_of_ble_eq_true rfl)) (gra_cons (gr_tup (gra_cons (gr_var rfl h_call) gra_nil) (Nat.le_of_ble_eq_true rfl)) (gra_cons (gr_var rfl h_d) (gra_cons (gr_not (gr_var rfl h_d)) gra_nil)))))) (D3.dd 5 _) rfl) gra_nil) (Nat.le_of_ble_eq_true rfl)) fun H1 w7 s n7 h_others7 => ?_
    have nlothers := S.free n7
    replace h_d := h_d.same s; replace h_cell := h_cell.same s; replace h_call := h_call.same s; replace h_over0 := h_over0.same s; replace h_one1 := h_one1.same s; replace h_told2 := h_told2.same s
    replace S := S.trans s; clear s
    refine s_setN (E := mkE CS) (K := K) (gn_cat (gl_var rfl h_others7) (gl_lst (gra_cons (gr_make (c := 3) (gra_cons gr_str (gra_cons (gr_var rfl h_over0) (gra_cons (gr_tup (gra_cons (gr_var rfl h_cell) gra_nil) (Nat.le_of_ble_eq_true rfl)) (gra_cons (gr_tup (gra_cons (gr_var rfl h_call) gra_nil) (Nat.le_of_ble_eq_true rfl)) (gra_cons (gr_var rfl h_d) (gra_cons (gr_not (gr_var rfl h_d)) gra_nil)))))) (D3.dd 5 _) rfl) gra_nil) (Nat.le_of_ble_eq_true rfl)) (Nat.le_of_ble_eq_true rfl)) fun H1 w8 s n8 h_others8 => ?_
    have nlothers := S.free n8
    replace h_d := h_d.same s; replace h_cell := h_cell.same s; replace h_call := h_call.same s; replace h_over0 := h_over0.same s; replace h_one1 := h_one1.same s; replace h_told2 := h_told2.same s
    replace S := S.trans s; clear s
    clear h_others7
    refine s_setN (E := mkE CS) (K := K) (gn_cat (gl_var rfl h_others8) (gl_lst (gra_cons (gr_make (c := 3) (gra_cons gr_str (gra_cons (gr_var rfl h_over0) (gra_cons (gr_tup gra_nil (Nat.le_of_ble_eq_true rfl)) (gra_cons (gr_tup (gra_cons (gr_var rfl h_call) gra_nil) (Nat.le_of_ble_eq_true rfl)) (gra_cons (gr_var rfl h_d) (gra_cons (gr_not (gr_var rfl h_d)) gra_nil)))))) (D3.dd 5 _) rfl) gra_nil) (Nat.le_of_ble_eq_true rfl)) (Nat.le_of_ble_eq_true rfl)) fun H1 w9 s n9 h_others9 => ?_
    have nlothers := S.free n9
    replace h_d := h_d.same s; replace h_cell := h_cell.same s; replace h_call := h_call.same s; replace h_over0 := h_over0.same s; replace h_one1 := h_one1.same s; replace h_told2 := h_told2.same s
    replace S := S.trans s; clear s
    clear h_others8
    refine s_setN (E := mkE CS) (K := K) (gn_cat (gl_var rfl h_others9) (gl_lst (gra_cons (gr_make (c := 3) (gra_cons gr_str (gra_cons (gr_var rfl h_over0) (gra_cons (gr_tup (gra_cons (gr_var rfl h_cell) gra_nil) (Nat.le_of_ble_eq_true rfl)) (gra_cons (gr_tup gra_nil (Nat.le_of_ble_eq_true rfl)) (gra_cons (gr_var rfl h_d) (gra_cons (gr_not (gr_var rfl h_d)) gra_nil)))))) (D3.dd 5 _) rfl) gra_nil) (Nat.le_of_ble_eq_true rfl)) (Nat.le_of_ble_eq_true rfl)) fun H1 w10 s n10 h_others10 => ?_
    have nlothers := S.free n10
    replace h_d := h_d.same s; replace h_cell := h_cell.same s; replace h_call := h_call.same s; replace h_over0 := h_over0.same s; replace h_one1 := h_one1.same s; replace h_told2 := h_told2.same s
    replace S := S.trans s; clear s
    clear h_others9
    obtain ⟨ys11, ey11, ay11⟩ := id h_others10
    refine r_seqDrop (r_bm (r_var rfl ⟨tyV_lst ey11, r_cons ((gr_make (c := 3) (gra_cons gr_str (gra_cons (gr_var rfl h_over0) (gra_cons (gr_tup (gra_cons (gr_var rfl h_cell) gra_nil) (Nat.le_of_ble_eq_true rfl)) (gra_cons (gr_tup (gra_cons (gr_var rfl h_call) gra_nil) (Nat.le_of_ble_eq_true rfl)) (gra_cons (gr_not (gr_var rfl h_d)) (gra_cons (gr_not (gr_var rfl h_d)) gra_nil)))))) (D3.dd 5 _) rfl) _ _ (Same.refl _) fun H1 u s q => r_nil ⟨_, _, _, rfl, rfl, s _ _ ey11, (by rw [ay11.length]; exact Nat.lt_of_le_of_lt (Nat.le_of_ble_eq_true (m := 100) rfl) (by decide)), ?_⟩)⟩))
    have el11 := s _ _ ey11
    replace h_d := (h_d.same s).updL (zs := ys11 ++ [u]) el11; replace h_cell := (h_cell.same s).updL (zs := ys11 ++ [u]) el11; replace h_call := (h_call.same s).updL (zs := ys11 ++ [u]) el11; replace h_over0 := (h_over0.same s).updL (zs := ys11 ++ [u]) el11; replace h_one1 := (h_one1.same s).updL (zs := ys11 ++ [u]) el11; replace h_told2 := (h_told2.same s).updL (zs := ys11 ++ [u]) el11
    have h_others11 : LsD (mkE CS) K _ _ _ := ⟨_, upd_same, ((ay11.same s).append (HasA.cons q .nil)).updL (zs := ys11 ++ [u]) el11⟩
    replace S := keepL (zs := ys11 ++ [u]) S s el11 nlothers
    clear h_others10 s q
    obtain ⟨ys12, ey12, ay12⟩ := id h_others11
    refine r_seqDrop (r_bm (r_var rfl ⟨tyV_lst ey12, r_cons ((gr_make (c := 3) (gra_cons gr_str (gra_cons (gr_var rfl h_over0) (gra_cons (gr_tup (gra_cons (gr_var rfl h_cell) gra_nil) (Nat.le_of_ble_eq_true rfl)) (gra_cons (gr_tup (gra_cons (gr_var rfl h_call) gra_nil) (Nat.le_of_ble_eq_true rfl)) (gra_cons (gr_var rfl h_d) (gra_cons (gr_var rfl h_d) gra_nil)))))) (D3.dd 5 _) rfl) _ _ (Same.refl _) fun H1 u s q => r_nil ⟨_, _, _, rfl, rfl, s _ _ ey12, (by rw [ay12.length]; exact Nat.lt_of_le_of_lt (Nat.le_of_ble_eq_true (m := 100) rfl) (by decide)), ?_⟩)⟩))
    have el12 := s _ _ ey12
    replace h_d := (h_d.same s).updL (zs := ys12 ++ [u]) el12; replace h_cell := (h_cell.same s).updL (zs := ys12 ++ [u]) el12; replace h_call := (h_call.same s).updL (zs := ys12 ++ [u]) el12; replace h_over0 := (h_over0.same s).updL (zs := ys12 ++ [u]) el12; replace h_one1 := (h_one1.same s).updL (zs := ys12 ++ [u]) el12; replace h_told2 := (h_told2.same s).updL (zs := ys12 ++ [u]) el12
    have h_others12 : LsD (mkE CS) K _ _ _ := ⟨_, upd_same, ((ay12.same s).append (HasA.cons q .nil)).updL (zs := ys12 ++ [u]) el12⟩
    replace S := keepL (zs := ys12 ++ [u]) S s el12 nlothers
    clear h_others11 s q
    refine r_ret (r_call (r_cons ((gr_var rfl h_one1) _ _ (Same.refl _) fun H1 u1 s1 p1 => r_cons ((GrL.later (gl_cat (gl_var rfl h_others12) (gl_lst (gra_cons gr_str (gra_cons gr_non gra_nil)) (Nat.le_of_ble_eq_true rfl)) (Nat.le_of_ble_eq_true rfl)) s1) _ _ (Same.refl _) fun H2 l2 s2 p2 => r_nil ⟨u1, l2, 3, _, _, rfl, p1.same s2, p2, Nat.le_of_ble_eq_true rfl, ⟨(by decide), Nat.le_of_ble_eq_true rfl, ⟨trivial, ⟨⟨⟨trivial, ⟨trivial, trivial⟩⟩, trivial⟩, ⟨⟨⟨(by decide), Nat.le_of_ble_eq_true rfl, ⟨trivial, ⟨trivial, ⟨trivial, ⟨trivial, trivial⟩⟩⟩⟩⟩, trivial⟩, ⟨⟨⟨(by decide), Nat.le_of_ble_eq_true rfl, ⟨trivial, ⟨trivial, ⟨trivial, ⟨trivial, ⟨⟨(by decide), Nat.le_of_ble_eq_true rfl, ⟨⟨⟨trivial, ⟨trivial, trivial⟩⟩, trivial⟩, ⟨⟨⟨trivial, ⟨trivial, trivial⟩⟩, trivial⟩, trivial⟩⟩⟩, ⟨trivial, trivial⟩⟩⟩⟩⟩⟩⟩, trivial⟩, ⟨trivial, ⟨trivial, trivial⟩⟩⟩⟩⟩⟩⟩, ?_, fun H3 s3 => k H3 (S.trans ((s1.trans s2).trans s3))⟩))))
    exact (All4.cons ⟨(CmpD.obj (CmpL.on (CmpD.refl _) (CmpL.off (CmpD.tup CmpL.right)))), (CmpD.obj (CmpL.on (CmpD.refl _) (CmpL.off (CmpD.tup CmpL.left)))), Nat.le_of_ble_eq_true rfl, ⟨(by decide), Nat.le_of_ble_eq_true rfl, ⟨trivial, ⟨trivial, ⟨⟨⟨(by decide), Nat.le_of_ble_eq_true rfl, ⟨trivial, ⟨trivial, ⟨trivial, ⟨trivial, trivial⟩⟩⟩⟩⟩, trivial⟩, ⟨⟨⟨(by decide), Nat.le_of_ble_eq_true rfl, ⟨trivial, ⟨trivial, ⟨trivial, ⟨trivial, ⟨⟨(by decide), Nat.le_of_ble_eq_true rfl, ⟨⟨⟨trivial, ⟨trivial, trivial⟩⟩, trivial⟩, ⟨⟨⟨trivial, ⟨trivial, trivial⟩⟩, trivial⟩, trivial⟩⟩⟩, ⟨trivial, trivial⟩⟩⟩⟩⟩⟩⟩, trivial⟩, ⟨trivial, ⟨trivial, trivial⟩⟩⟩⟩⟩⟩⟩⟩ (All4.cons ⟨(CmpD.obj (CmpL.off (CmpD.ne rfl rfl (by decide +kernel)))), (CmpD.obj (CmpL.off (CmpD.ne rfl rfl (by decide +kernel)))), Nat.le_of_ble_eq_true rfl, ⟨(by decide), Nat.le_of_ble_eq_true rfl, ⟨trivial, ⟨⟨⟨trivial, ⟨trivial, trivial⟩⟩, trivial⟩, ⟨⟨⟨(by decide), Nat.le_of_ble_eq_true rfl, ⟨trivial, ⟨trivial, ⟨trivial, ⟨trivial, trivial⟩⟩⟩⟩⟩, trivial⟩, ⟨⟨⟨(by decide), Nat.le_of_ble_eq_true rfl, ⟨trivial, ⟨trivial, ⟨trivial, ⟨trivial, ⟨⟨(by decide), Nat.le_of_ble_eq_true rfl, ⟨⟨⟨trivial, ⟨trivial, trivial⟩⟩, trivial⟩, ⟨⟨⟨trivial, ⟨trivial, trivial⟩⟩, trivial⟩, trivial⟩⟩⟩, ⟨trivial, trivial⟩⟩⟩⟩⟩⟩⟩, trivial⟩, ⟨trivial, ⟨trivial, trivial⟩⟩⟩⟩⟩⟩⟩⟩ (All4.cons ⟨(CmpD.obj (CmpL.on (CmpD.refl _) (CmpL.on (CmpD.refl _) (CmpL.off (CmpD.tup CmpL.right))))), (CmpD.obj (CmpL.on (CmpD.refl _) (CmpL.on (CmpD.refl _) (CmpL.off (CmpD.tup CmpL.left))))), Nat.le_of_ble_eq_true rfl, ⟨(by decide), Nat.le_of_ble_eq_true rfl, ⟨trivial, ⟨⟨⟨trivial, ⟨trivial, trivial⟩⟩, trivial⟩, ⟨trivial, ⟨⟨⟨(by decide), Nat.le_of_ble_eq_true rfl, ⟨trivial, ⟨trivial, ⟨trivial, ⟨trivial, ⟨⟨(by decide), Nat.le_of_ble_eq_true rfl, ⟨⟨⟨trivial, ⟨trivial, trivial⟩⟩, trivial⟩, ⟨⟨⟨trivial, ⟨trivial, trivial⟩⟩, trivial⟩, trivial⟩⟩⟩, ⟨trivial, trivial⟩⟩⟩⟩⟩⟩⟩, trivial⟩, ⟨trivial, ⟨trivial, trivial⟩⟩⟩⟩⟩⟩⟩⟩ (All4.cons ⟨(CmpD.obj (CmpL.on (CmpD.refl _) (CmpL.on (CmpD.refl _) (CmpL.on (CmpD.refl _) (CmpL.off (CmpD.tup CmpL.right)))))), (CmpD.obj (CmpL.on (CmpD.refl _) (CmpL.on (CmpD.refl _) (CmpL.on (CmpD.refl _) (CmpL.off (CmpD.tup CmpL.left)))))), Nat.le_of_ble_eq_true rfl, ⟨(by decide), Nat.le_of_ble_eq_true rfl, ⟨trivial, ⟨⟨⟨trivial, ⟨trivial, trivial⟩⟩, trivial⟩, ⟨⟨⟨(by decide), Nat.le_of_ble_eq_true rfl, ⟨trivial, ⟨trivial, ⟨trivial, ⟨trivial, trivial⟩⟩⟩⟩⟩, trivial⟩, ⟨trivial, ⟨trivial, ⟨trivial, trivial⟩⟩⟩⟩⟩⟩⟩⟩ (All4.cons ⟨(CmpD.obj (CmpL.on (CmpD.refl _) (CmpL.on (CmpD.refl _) (CmpL.on (CmpD.refl _) (CmpL.on (CmpD.refl _) (CmpL.off (CmpD.ne rfl rfl (bl_n _)))))))), (CmpD.obj (CmpL.on (CmpD.refl _) (CmpL.on (CmpD.refl _) (CmpL.on (CmpD.refl _) (CmpL.on (CmpD.refl _) (CmpL.off (CmpD.ne rfl rfl (bl_n' _)))))))), Nat.le_of_ble_eq_true rfl, ⟨(by decide), Nat.le_of_ble_eq_true rfl, ⟨trivial, ⟨⟨⟨trivial, ⟨trivial, trivial⟩⟩, trivial⟩, ⟨⟨⟨(by decide), Nat.le_of_ble_eq_true rfl, ⟨trivial, ⟨trivial, ⟨trivial, ⟨trivial, trivial⟩⟩⟩⟩⟩, trivial⟩, ⟨⟨⟨(by decide), Nat.le_of_ble_eq_true rfl, ⟨trivial, ⟨trivial, ⟨trivial, ⟨trivial, ⟨⟨(by decide), Nat.le_of_ble_eq_true rfl, ⟨⟨⟨trivial, ⟨trivial, trivial⟩⟩, trivial⟩, ⟨⟨⟨trivial, ⟨trivial, trivial⟩⟩, trivial⟩, trivial⟩⟩⟩, ⟨trivial, trivial⟩⟩⟩⟩⟩⟩⟩, trivial⟩, ⟨trivial, ⟨trivial, trivial⟩⟩⟩⟩⟩⟩⟩⟩ (All4.cons ⟨(CmpD.obj (CmpL.on (CmpD.refl _) (CmpL.on (CmpD.refl _) (CmpL.on (CmpD.refl _) (CmpL.on (CmpD.refl _) (CmpL.on (CmpD.refl _) (CmpL.off (CmpD.ne rfl rfl (bl_n' _))))))))), (CmpD.obj (CmpL.on (CmpD.refl _) (CmpL.on (CmpD.refl _) (CmpL.on (CmpD.refl _) (CmpL.on (CmpD.refl _) (CmpL.on (CmpD.refl _) (CmpL.off (CmpD.ne rfl rfl (bl_n _))))))))), Nat.le_of_ble_eq_true rfl, ⟨(by decide), Nat.le_of_ble_eq_true rfl, ⟨trivial, ⟨⟨⟨trivial, ⟨trivial, trivial⟩⟩, trivial⟩, ⟨⟨⟨(by decide), Nat.le_of_ble_eq_true rfl, ⟨trivial, ⟨trivial, ⟨trivial, ⟨trivial, trivial⟩⟩⟩⟩⟩, trivial⟩, ⟨⟨⟨(by decide), Nat.le_of_ble_eq_true rfl, ⟨trivial, ⟨trivial, ⟨trivial, ⟨trivial, ⟨⟨(by decide), Nat.le_of_ble_eq_true rfl, ⟨⟨⟨trivial, ⟨trivial, trivial⟩⟩, trivial⟩, ⟨⟨⟨trivial, ⟨trivial, trivial⟩⟩, trivial⟩, trivial⟩⟩⟩, ⟨trivial, trivial⟩⟩⟩⟩⟩⟩⟩, trivial⟩, ⟨trivial, ⟨trivial, trivial⟩⟩⟩⟩⟩⟩⟩⟩ (All4.cons ⟨(CmpD.objF rfl), CmpD.strO, Nat.le_of_ble_eq_true rfl, trivial⟩ (All4.cons ⟨(CmpD.objF rfl), CmpD.nonO, Nat.le_of_ble_eq_true rfl, trivial⟩ All4.nil))))))))
def spRoutine (E : CE) (K : PySem.W.Frag) : Sp := fun vs H Q _ => ∃ (v0 v1 v2 : V) (a b : Str) (c : Int) (d : Bool), vs = [v0, v1, v2] ∧ a.length ≤ 100 ∧ b.length ≤ 100 ∧ HasD E K H v0 (.str a) ∧ HasD E K H v1 (.str b) ∧ HasD E K H v2 (.obj 1 [(.tup [(.tup [(.str a), (.str b)])]), (.tup [(.tup [(.str "say"), (.int c)])])]) ∧ ∀ H', Same H H' → Q (.bl true) H'
theorem scRoutine : FnScope ["_law_a", "_law_b", "_law_core", "_law_one", "_law_others"] ["_law_a", "_law_b", "_law_core"] (defScope sRoutine) := ⟨rfl, rfl, rfl, by decide +kernel, rfl, by decide +kernel, by decide +kernel⟩
theorem okRoutine {f : Addr} {fd : FuncData} {fO : Nat → Addr} {gO : Nat → FuncData} (F : Fun K "_law_routine_right" "_law_routine_right" sRoutine f fd) (G : XG K) (hE : (mkE CS).Inj) (T : ∀ c, c < 5 → Tyf K ((mkE CS).C c))
    (O : ∀ c, c < 5 → (mkE CS).lv c ≤ 11 → OwnF P w K mg base (mkE CS) c (fO c) (gO c)) {fI0 : Addr} {gI0 : FuncData} {dv0 : List V} (D0 : MkF P w K mg base (mkE CS) 0 "Field" ["self", "name", "form", "start", "shown"] ["shown", "start", "form", "name"] dv0 [(.int 0), (.bl true)] fI0 gI0) (ln0 : dv0.length = 2) {fI1 : Addr} {gI1 : FuncData} {dv1 : List V} (D1 : MkF P w K mg base (mkE CS) 1 "Body" ["self", "variables", "steps"] ["steps", "variables"] dv1 [(.tup []), (.tup [])] fI1 gI1) (ln1 : dv1.length = 2) {fI2 : Addr} {gI2 : FuncData} {dv2 : List V} (D2 : MkF P w K mg base (mkE CS) 2 "Method" ["self", "name", "kind", "params", "result", "body", "shown"] ["shown", "body", "result", "params", "kind", "name"] dv2 [(.tup []), .non, .non, (.bl true)] fI2 gI2) (ln2 : dv2.length = 4) {fI3 : Addr} {gI3 : FuncData} {dv3 : List V} (D3 : MkF P w K mg base (mkE CS) 3 "Class" ["self", "name", "bases", "fields", "methods", "closed", "lent"] ["lent", "closed", "methods", "fields", "bases", "name"] dv3 [(.tup []), (.tup []), (.tup []), (.bl false), (.bl false)] fI3 gI3) (ln3 : dv3.length = 5) {fI4 : Addr} {gI4 : FuncData} {dv4 : List V} (D4 : MkF P w K mg base (mkE CS) 4 "Routine" ["self", "name", "params", "result", "body"] ["body", "result", "params", "name"] dv4 [(.tup []), .non, .non] fI4 gI4) (ln4 : dv4.length = 3) (no0 : ∀ z ∈ (["name", "form", "start", "shown"] : List Str), NoAttr K ((mkE CS).C 0) z) (no1 : ∀ z ∈ (["variables", "steps"] : List Str), NoAttr K ((mkE CS).C 1) z) (no2 : ∀ z ∈ (["name", "kind", "params", "result", "body", "shown"] : List Str), NoAttr K ((mkE CS).C 2) z) (no3 : ∀ z ∈ (["name", "bases", "fields", "methods", "closed", "lent"] : List Str), NoAttr K ((mkE CS).C 3) z) (no4 : ∀ z ∈ (["name", "params", "result", "body"] : List Str), NoAttr K ((mkE CS).C 4) z) {fU : Addr} {gU : FuncData} (GU : FnOk P w K mg base CX0 13 fU gU ["_law_one", "_law_others"] (spU (mkE CS) K)) (mU : mg "_law_unlike_right" = some (.ref fU)) (kU : PySem.W.keepIn K (.ref fU) = true) (bU : Binds K gU ["_law_one", "_law_others"] []) : FnOk P w K mg base CX0 14 f fd ["_law_a", "_law_b", "_law_core"] (spRoutine (mkE CS) K) := by
  refine F.ok scRoutine (fun vs H Q E h => ?_) (fun cdv A outer s H vs Q E hr h => ?_)
  · obtain ⟨v0, v1, v2, a, b, c, d, rfl, _⟩ := h; rfl
  · obtain ⟨v0, v1, v2, a, b, c, d, rfl, la, lb, h_a, h_b, h_core, k⟩ := h
    obtain ⟨ds1_0, v1_0, b1_0⟩ := D1.b 0 (by rw [ln1]; decide)
    obtain ⟨ds2_3, v2_3, b2_3⟩ := D2.b 3 (by rw [ln2]; decide)
    obtain ⟨ds4_0, v4_0, b4_0⟩ := D4.b 0 (by rw [ln4]; decide)
    obtain ⟨ds4_3, v4_3, b4_3⟩ := D4.b 3 (by rw [ln4]; decide)
    have short_a : ∀ {y : Str}, y.length ≤ 100 → a.length + y.length ≤ sizeLine := fun h => short_of la h
    have short_b : ∀ {y : Str}, y.length ≤ 100 → b.length + y.length ≤ sizeLine := fun h => short_of lb h
    refine ⟨_, (pss_cons (ps_set (i := 3) scRoutine.nd rfl (Or.inl rfl) (pe_make D4.M D4.G (hr.mono (by decide)) rfl D4.m b4_3 v4_3 pass0 (pa_cons (pv 0) (pa_cons (pe_tup (pa_cons (pe_tup (pa_cons (pv 0) (pa_cons (pv 1) pa_nil))) pa_nil)) (pa_cons (pv 1) (pa_cons (pv 2) pa_nil))))))
      (pss_cons (ps_if (pt_cmpR (op_neB (rcN_dt (E := mkE CS) (P := P5) (N := 11) hE G (fun c hc => T c hc) (fun c hc hl => OwnF.to (T c hc) (O c hc hl)) 11 (Nat.le_refl _)) (hr.mono (by decide))) (pe_tup (pa_cons (pe_fld (pv 3) rfl) (pa_cons (pe_fld (pv 3) rfl) (pa_cons (pe_fld (pv 3) rfl) (pa_cons (pe_fld (pv 3) rfl) pa_nil))))) (pe_tup (pa_cons (pv 0) (pa_cons (pe_tup (pa_cons (pe_tup (pa_cons (pv 0) (pa_cons (pv 1) pa_nil))) pa_nil)) (pa_cons (pv 1) (pa_cons (pv 2) pa_nil))))) (nomark _)) (pss_one (ps_ret pe_bl)) pss_nil)
      (pss_cons (ps_if (PW.pt (pw_or (pt_cmpR (op_neB (rcN_dt (E := mkE CS) (P := P5) (N := 11) hE G (fun c hc => T c hc) (fun c hc hl => OwnF.to (T c hc) (O c hc hl)) 11 (Nat.le_refl _)) (hr.mono (by decide))) (pe_makeK0 D4.M D4.G (hr.mono (by decide)) rfl D4.m D4.kw pass0 (pk_cons (pv 2) (pk_cons (pv 1) (pk_cons (pe_tup (pa_cons (pe_tup (pa_cons (pv 0) (pa_cons (pv 1) pa_nil))) pa_nil)) (pk_cons (pv 0) pk_nil))))) (pv 3) (nomark _)) (pw_or1 (pt_cmpR (op_neB (rcN_dt (E := mkE CS) (P := P5) (N := 11) hE G (fun c hc => T c hc) (fun c hc hl => OwnF.to (T c hc) (O c hc hl)) 11 (Nat.le_refl _)) (hr.mono (by decide))) (pe_make D4.M D4.G (hr.mono (by decide)) rfl D4.m b4_0 v4_0 pass0 (pa_cons (pv 0) pa_nil)) (pe_make D4.M D4.G (hr.mono (by decide)) rfl D4.m b4_3 v4_3 pass0 (pa_cons (pv 0) (pa_cons (pe_tup pa_nil) (pa_cons pe_non (pa_cons pe_non pa_nil))))) (nomark _))))) (pss_one (ps_ret pe_bl)) pss_nil)
      (pss_cons (ps_set (i := 4) scRoutine.nd rfl (Or.inl rfl) (pe_lst (pa_cons (pe_make D4.M D4.G (hr.mono (by decide)) rfl D4.m b4_3 v4_3 pass0 (pa_cons (pe_op op_add_str (pv 0) pe_str) (pa_cons (pe_fld (pv 3) rfl) (pa_cons (pv 1) (pa_cons (pv 2) pa_nil))))) (pa_cons (pe_make D4.M D4.G (hr.mono (by decide)) rfl D4.m b4_3 v4_3 pass0 (pa_cons (pv 0) (pa_cons (pe_tup pa_nil) (pa_cons (pv 1) (pa_cons (pv 2) pa_nil))))) pa_nil))))
      (pss_cons (ps_set (i := 4) scRoutine.nd rfl (Or.inl rfl) (pe_op op_cat (pv 4) (pe_lst (pa_cons (pe_make D4.M D4.G (hr.mono (by decide)) rfl D4.m b4_3 v4_3 pass0 (pa_cons (pv 0) (pa_cons (pe_fld (pv 3) rfl) (pa_cons pe_non (pa_cons (pv 2) pa_nil))))) pa_nil))))
      (pss_cons (ps_set (i := 4) scRoutine.nd rfl (Or.inl rfl) (pe_op op_cat (pv 4) (pe_lst (pa_cons (pe_make D4.M D4.G (hr.mono (by decide)) rfl D4.m b4_3 v4_3 pass0 (pa_cons (pv 0) (pa_cons (pe_fld (pv 3) rfl) (pa_cons (pv 1) (pa_cons (pe_make0 D1.M D1.G (hr.mono (by decide)) rfl D1.m b1_0 v1_0 pass0) pa_nil))))) (pa_cons (pe_make D2.M D2.G (hr.mono (by decide)) rfl D2.m b2_3 v2_3 pass0 (pa_cons (pv 0) (pa_cons pe_str (pa_cons (pe_fld (pv 3) rfl) (pa_cons (pv 1) (pa_cons (pv 2) pa_nil)))))) pa_nil)))))
      (pss_one (ps_ret (pe_call GU (hr.mono (by decide)) rfl mU kU bU .nil pass0 (pa_cons (pv 3) (pa_cons (pv 4) pa_nil))))))))))), ?_⟩
    have S : Same H H := Same.refl H
    refine s_set (E := mkE CS) (K := K) (gr_make (c := 4) (gra_cons (gr_var rfl h_a) (gra_cons (gr_tup (gra_cons (gr_tup (gra_cons (gr_var rfl h_a) (gra_cons (gr_var rfl h_b) gra_nil)) (Nat.le_of_ble_eq_true rfl)) gra_nil) (Nat.le_of_ble_eq_true rfl)) (gra_cons (gr_var rfl h_b) (gra_cons (gr_var rfl h_core) gra_nil)))) (D4.dd 3 _) rfl) fun H1 w0 s h_one0 => ?_
    replace h_a := h_a.same s; replace h_b := h_b.same s; replace h_core := h_core.same s
    replace S := S.trans s; clear s
    refine s_if (gt_neB (b := false) (gr_tup (gra_cons (gr_fld (j := 0) (gr_var rfl h_one0) (T 4 (by decide)).cl (no4 _ (by decide +kernel)) (show fldAt (nsL.getD 4 []) "name" 0 = true by decide +kernel) rfl) (gra_cons (gr_fld (j := 1) (gr_var rfl h_one0) (T 4 (by decide)).cl (no4 _ (by decide +kernel)) (show fldAt (nsL.getD 4 []) "params" 1 = true by decide +kernel) rfl) (gra_cons (gr_fld (j := 2) (gr_var rfl h_one0) (T 4 (by decide)).cl (no4 _ (by decide +kernel)) (show fldAt (nsL.getD 4 []) "result" 2 = true by decide +kernel) rfl) (gra_cons (gr_fld (j := 3) (gr_var rfl h_one0) (T 4 (by decide)).cl (no4 _ (by decide +kernel)) (show fldAt (nsL.getD 4 []) "body" 3 = true by decide +kernel) rfl) gra_nil)))) (Nat.le_of_ble_eq_true rfl)) (gr_tup (gra_cons (gr_var rfl h_a) (gra_cons (gr_tup (gra_cons (gr_tup (gra_cons (gr_var rfl h_a) (gra_cons (gr_var rfl h_b) gra_nil)) (Nat.le_of_ble_eq_true rfl)) gra_nil) (Nat.le_of_ble_eq_true rfl)) (gra_cons (gr_var rfl h_b) (gra_cons (gr_var rfl h_core) gra_nil)))) (Nat.le_of_ble_eq_true rfl)) (CmpD.refl _) (Nat.le_of_ble_eq_true rfl) (Nat.le_of_ble_eq_true rfl) ⟨trivial, ⟨⟨⟨trivial, ⟨trivial, trivial⟩⟩, trivial⟩, ⟨trivial, ⟨⟨(by decide), Nat.le_of_ble_eq_true rfl, ⟨⟨⟨trivial, ⟨trivial, trivial⟩⟩, trivial⟩, ⟨⟨⟨trivial, ⟨trivial, trivial⟩⟩, trivial⟩, trivial⟩⟩⟩, trivial⟩⟩⟩⟩ ⟨trivial, ⟨⟨⟨trivial, ⟨trivial, trivial⟩⟩, trivial⟩, ⟨trivial, ⟨⟨(by decide), Nat.le_of_ble_eq_true rfl, ⟨⟨⟨trivial, ⟨trivial, trivial⟩⟩, trivial⟩, ⟨⟨⟨trivial, ⟨trivial, trivial⟩⟩, trivial⟩, trivial⟩⟩⟩, trivial⟩⟩⟩⟩ (Or.inr ⟨_, _, rfl, rfl⟩)) fun H1 s => ?_
    replace h_a := h_a.same s; replace h_b := h_b.same s; replace h_core := h_core.same s; replace h_one0 := h_one0.same s
    replace S := S.trans s; clear s
    refine s_if (gt_or (gt_neB (b := false) (gr_makeK (c := 4) (gra_cons (gr_var rfl h_core) (gra_cons (gr_var rfl h_b) (gra_cons (gr_tup (gra_cons (gr_tup (gra_cons (gr_var rfl h_a) (gra_cons (gr_var rfl h_b) gra_nil)) (Nat.le_of_ble_eq_true rfl)) gra_nil) (Nat.le_of_ble_eq_true rfl)) (gra_cons (gr_var rfl h_a) gra_nil)))) rfl rfl) (gr_var rfl h_one0) (CmpD.refl _) (Nat.le_of_ble_eq_true rfl) (Nat.le_of_ble_eq_true rfl) ⟨(by decide), Nat.le_of_ble_eq_true rfl, ⟨trivial, ⟨⟨⟨trivial, ⟨trivial, trivial⟩⟩, trivial⟩, ⟨trivial, ⟨⟨(by decide), Nat.le_of_ble_eq_true rfl, ⟨⟨⟨trivial, ⟨trivial, trivial⟩⟩, trivial⟩, ⟨⟨⟨trivial, ⟨trivial, trivial⟩⟩, trivial⟩, trivial⟩⟩⟩, trivial⟩⟩⟩⟩⟩ ⟨(by decide), Nat.le_of_ble_eq_true rfl, ⟨trivial, ⟨⟨⟨trivial, ⟨trivial, trivial⟩⟩, trivial⟩, ⟨trivial, ⟨⟨(by decide), Nat.le_of_ble_eq_true rfl, ⟨⟨⟨trivial, ⟨trivial, trivial⟩⟩, trivial⟩, ⟨⟨⟨trivial, ⟨trivial, trivial⟩⟩, trivial⟩, trivial⟩⟩⟩, trivial⟩⟩⟩⟩⟩ (Or.inl ⟨_, _, rfl⟩)) (gt_neB (b := false) (gr_make (c := 4) (gra_cons (gr_var rfl h_a) gra_nil) (D4.dd 0 _) rfl) (gr_make (c := 4) (gra_cons (gr_var rfl h_a) (gra_cons (gr_tup gra_nil (Nat.le_of_ble_eq_true rfl)) (gra_cons gr_non (gra_cons gr_non gra_nil)))) (D4.dd 3 _) rfl) (CmpD.refl _) (Nat.le_of_ble_eq_true rfl) (Nat.le_of_ble_eq_true rfl) ⟨(by decide), Nat.le_of_ble_eq_true rfl, ⟨trivial, ⟨trivial, ⟨trivial, ⟨trivial, trivial⟩⟩⟩⟩⟩ ⟨(by decide), Nat.le_of_ble_eq_true rfl, ⟨trivial, ⟨trivial, ⟨trivial, ⟨trivial, trivial⟩⟩⟩⟩⟩ (Or.inl ⟨_, _, rfl⟩))) fun H1 s => ?_
    replace h_a := h_a.same s; replace h_b := h_b.same s; replace h_core := h_core.same s; replace h_one0 := h_one0.same s
    replace S := S.trans s; clear s
    refine s_setN (E := mkE CS) (K := K) (gn_lst (gra_cons (gr_make (c := 4) (gra_cons (gr_addS (gr_var rfl h_a) gr_str (short_a (by decide +kernel))) (gra_cons (gr_fld (j := 1) (gr_var rfl h_one0) (T 4 (by decide)).cl (no4 _ (by decide +kernel)) (show fldAt (nsL.getD 4 []) "params" 1 = true by decide +kernel) rfl) (gra_cons (gr_var rfl h_b) (gra_cons (gr_var rfl h_core) gra_nil)))) (D4.dd 3 _) rfl) (gra_cons (gr_make (c := 4) (gra_cons (gr_var rfl h_a) (gra_cons (gr_tup gra_nil (Nat.le_of_ble_eq_true rfl)) (gra_cons (gr_var rfl h_b) (gra_cons (gr_var rfl h_core) gra_nil)))) (D4.dd 3 _) rfl) gra_nil)) (Nat.le_of_ble_eq_true rfl)) fun H1 w3 s n3 h_others3 => ?_
    have nlothers := S.free n3
    replace h_a := h_a.same s; replace h_b := h_b.same s; replace h_core := h_core.same s; replace h_one0 := h_one0.same s
    replace S := S.trans s; clear s
    refine s_setN (E := mkE CS) (K := K) (gn_cat (gl_var rfl h_others3) (gl_lst (gra_cons (gr_make (c := 4) (gra_cons (gr_var rfl h_a) (gra_cons (gr_fld (j := 1) (gr_var rfl h_one0) (T 4 (by decide)).cl (no4 _ (by decide +kernel)) (show fldAt (nsL.getD 4 []) "params" 1 = true by decide +kernel) rfl) (gra_cons gr_non (gra_cons (gr_var rfl h_core) gra_nil)))) (D4.dd 3 _) rfl) gra_nil) (Nat.le_of_ble_eq_true rfl)) (Nat.le_of_ble_eq_true rfl)) fun H1 w4 s n4 h_others4 => ?_
    have nlothers := S.free n4
    replace h_a := h_a.same s; replace h_b := h_b.same s; replace h_core := h_core.same s; replace h_one0 := h_one0.same s
    replace S := S.trans s; clear s
    clear h_others3
    refine s_setN (E := mkE CS) (K := K) (gn_cat (gl_var rfl h_others4) (gl_lst (gra_cons (gr_make (c := 4) (gra_cons (gr_var rfl h_a) (gra_cons (gr_fld (j := 1) (gr_var rfl h_one0) (T 4 (by decide)).cl (no4 _ (by decide +kernel)) (show fldAt (nsL.getD 4 []) "params" 1 = true by decide +kernel) rfl) (gra_cons (gr_var rfl h_b) (gra_cons (gr_make (c := 1) gra_nil (D1.dd 0 _) rfl) gra_nil)))) (D4.dd 3 _) rfl) (gra_cons (gr_make (c := 2) (gra_cons (gr_var rfl h_a) (gra_cons gr_str (gra_cons (gr_fld (j := 1) (gr_var rfl h_one0) (T 4 (by decide)).cl (no4 _ (by decide +kernel)) (show fldAt (nsL.getD 4 []) "params" 1 = true by decide +kernel) rfl) (gra_cons (gr_var rfl h_b) (gra_cons (gr_var rfl h_core) gra_nil))))) (D2.dd 3 _) rfl) gra_nil)) (Nat.le_of_ble_eq_true rfl)) (Nat.le_of_ble_eq_true rfl)) fun H1 w5 s n5 h_others5 => ?_
    have nlothers := S.free n5
    replace h_a := h_a.same s; replace h_b := h_b.same s; replace h_core := h_core.same s; replace h_one0 := h_one0.same s
    replace S := S.trans s; clear s
    clear h_others4
    refine r_ret (r_call (r_cons ((gr_var rfl h_one0) _ _ (Same.refl _) fun H1 u1 s1 p1 => r_cons ((GrL.later (gl_var rfl h_others5) s1) _ _ (Same.refl _) fun H2 l2 s2 p2 => r_nil ⟨u1, l2, 4, _, _, rfl, p1.same s2, p2, Nat.le_of_ble_eq_true rfl, ⟨(by decide), Nat.le_of_ble_eq_true rfl, ⟨trivial, ⟨⟨⟨trivial, ⟨trivial, trivial⟩⟩, trivial⟩, ⟨trivial, ⟨⟨(by decide), Nat.le_of_ble_eq_true rfl, ⟨⟨⟨trivial, ⟨trivial, trivial⟩⟩, trivial⟩, ⟨⟨⟨trivial, ⟨trivial, trivial⟩⟩, trivial⟩, trivial⟩⟩⟩, trivial⟩⟩⟩⟩⟩, ?_, fun H3 s3 => k H3 (S.trans ((s1.trans s2).trans s3))⟩))))
    exact (All4.cons ⟨(CmpD.obj (CmpL.off (CmpD.ne rfl rfl (str_app_ne (by decide +kernel))))), (CmpD.obj (CmpL.off (CmpD.ne rfl rfl (str_app_ne' (by decide +kernel))))), Nat.le_of_ble_eq_true rfl, ⟨(by decide), Nat.le_of_ble_eq_true rfl, ⟨trivial, ⟨⟨⟨trivial, ⟨trivial, trivial⟩⟩, trivial⟩, ⟨trivial, ⟨⟨(by decide), Nat.le_of_ble_eq_true rfl, ⟨⟨⟨trivial, ⟨trivial, trivial⟩⟩, trivial⟩, ⟨⟨⟨trivial, ⟨trivial, trivial⟩⟩, trivial⟩, trivial⟩⟩⟩, trivial⟩⟩⟩⟩⟩⟩ (All4.cons ⟨(CmpD.obj (CmpL.on (CmpD.refl _) (CmpL.off (CmpD.tup CmpL.right)))), (CmpD.obj (CmpL.on (CmpD.refl _) (CmpL.off (CmpD.tup CmpL.left)))), Nat.le_of_ble_eq_true rfl, ⟨(by decide), Nat.le_of_ble_eq_true rfl, ⟨trivial, ⟨trivial, ⟨trivial, ⟨⟨(by decide), Nat.le_of_ble_eq_true rfl, ⟨⟨⟨trivial, ⟨trivial, trivial⟩⟩, trivial⟩, ⟨⟨⟨trivial, ⟨trivial, trivial⟩⟩, trivial⟩, trivial⟩⟩⟩, trivial⟩⟩⟩⟩⟩⟩ (All4.cons ⟨(CmpD.obj (CmpL.on (CmpD.refl _) (CmpL.on (CmpD.refl _) (CmpL.off (CmpD.ne rfl rfl rfl))))), (CmpD.obj (CmpL.on (CmpD.refl _) (CmpL.on (CmpD.refl _) (CmpL.off (CmpD.ne rfl rfl rfl))))), Nat.le_of_ble_eq_true rfl, ⟨(by decide), Nat.le_of_ble_eq_true rfl, ⟨trivial, ⟨⟨⟨trivial, ⟨trivial, trivial⟩⟩, trivial⟩, ⟨trivial, ⟨⟨(by decide), Nat.le_of_ble_eq_true rfl, ⟨⟨⟨trivial, ⟨trivial, trivial⟩⟩, trivial⟩, ⟨⟨⟨trivial, ⟨trivial, trivial⟩⟩, trivial⟩, trivial⟩⟩⟩, trivial⟩⟩⟩⟩⟩⟩ (All4.cons ⟨(CmpD.obj (CmpL.on (CmpD.refl _) (CmpL.on (CmpD.refl _) (CmpL.on (CmpD.refl _) (CmpL.off (CmpD.obj (CmpL.off (CmpD.tup CmpL.right)))))))), (CmpD.obj (CmpL.on (CmpD.refl _) (CmpL.on (CmpD.refl _) (CmpL.on (CmpD.refl _) (CmpL.off (CmpD.obj (CmpL.off (CmpD.tup CmpL.left)))))))), Nat.le_of_ble_eq_true rfl, ⟨(by decide), Nat.le_of_ble_eq_true rfl, ⟨trivial, ⟨⟨⟨trivial, ⟨trivial, trivial⟩⟩, trivial⟩, ⟨trivial, ⟨⟨(by decide), Nat.le_of_ble_eq_true rfl, ⟨trivial, ⟨trivial, trivial⟩⟩⟩, trivial⟩⟩⟩⟩⟩⟩ (All4.cons ⟨(CmpD.objN (by decide)), (CmpD.objN (by decide)), Nat.le_of_ble_eq_true rfl, ⟨(by decide), Nat.le_of_ble_eq_true rfl, ⟨trivial, ⟨trivial, ⟨⟨⟨trivial, ⟨trivial, trivial⟩⟩, trivial⟩, ⟨trivial, ⟨⟨(by decide), Nat.le_of_ble_eq_true rfl, ⟨⟨⟨trivial, ⟨trivial, trivial⟩⟩, trivial⟩, ⟨⟨⟨trivial, ⟨trivial, trivial⟩⟩, trivial⟩, trivial⟩⟩⟩, ⟨trivial, trivial⟩⟩⟩⟩⟩⟩⟩⟩ All4.nil)))))
end
end K01


set_option Elab.async false
set_option linter.all false
set_option maxRecDepth 100000
set_option maxHeartbeats 4000000
/-! K01c: the draw, right, law -/
namespace K01
open PySem L2 OC
/-- a drawn number: some one of 0 .. m - 1; the well's first and third number may change -/
def spDraw : Sp := fun vs H Q _ => ∃ (w : Addr) (m a b c : Int), vs = [.ref w, .int m] ∧ 0 < m ∧ m < 1073741824 ∧ H w = some (.lst [.int a, .int b, .int c]) ∧
  ∀ r a' c' : Int, 0 ≤ r → r < m → Q (.int r) (upd H w (.lst [.int a', .int b, .int c']))
theorem scD : FnScope ["_law_well", "_law_many", "_law_found", "_law_number"] ["_law_well", "_law_many"] (defScope sDraw) := ⟨rfl, rfl, rfl, by decide +kernel, rfl, by decide +kernel, by decide +kernel⟩
section
variable {P : Program} {w : World} {K : PySem.W.Frag} {mg : Str → Option Value} {base : Heap}
/-- xs[i] of a list in slot 0 -/
theorem ixR {σ : St} {H : Hp} {p : Addr} {xs : List V} {v : V} (i : Nat) (hσ : σ[0]? = some (some (.ref p))) (hp : H p = some (.lst xs)) (hv : xs[i]? = some v) : EvR σ H (tOp (rIxL K) (tVar 0) (tC (.int (i : Int)))) v := fun Q q =>
  ⟨_, hσ, p, xs, _, _, rfl, rfl, SqL.of hp, at_of (j := i) rfl hv, q⟩
theorem okDraw {f : Addr} {fd : FuncData} (F : Fun K "_law_draw" "_law_draw" sDraw f fd) (hI : mg "int" = none) : FnOk P w K mg base CX0 1 f fd ["_law_well", "_law_many"] spDraw := by
  refine F.ok scD (fun vs H Q E h => ?_) (fun cdv A outer s H vs Q E hr h => ?_)
  · obtain ⟨w, m, a, b, c, rfl, _⟩ := h; rfl
  · obtain ⟨w, m, a, b, c, rfl, m0, m1, hw, k⟩ := h
    refine ⟨_, pss_cons (ps_if (pt_cmpR op_gt (pe_ix ix_list (pv 0) pe_int (fun _ _ => rfl)) pe_int (nomark _))
      (pss_cons (ps_set (i := 2) scD.nd rfl (Or.inl rfl) (pe_op op_mod (pe_callTy call_int1 (by rfl) hI PyProof.Rows.boot_int (pa_cons (pe_ix ix_list (pv 0) pe_int (fun _ _ => rfl)) pa_nil)) (pv 1)))
      (pss_cons (ps_asg (pe_op op_fdiv (pe_ix ix_list (pv 0) pe_int (fun _ _ => rfl)) (pv 1)) (pg_sub (pv 0) pe_int set_list))
      (pss_one (ps_ret (pv 2))))) pss_nil)
      (pss_cons (ps_asg (pe_op op_add (pe_ix ix_list (pv 0) pe_int (fun _ _ => rfl)) pe_int) (pg_sub (pv 0) pe_int set_list))
      (pss_cons (ps_set (i := 3) scD.nd rfl (Or.inl rfl) (pe_op op_mod (pe_callTy call_int1 (by rfl) hI PyProof.Rows.boot_int (pa_cons (pe_op op_mul (pe_op op_add (pe_op op_add (pe_ix ix_list (pv 0) pe_int (fun _ _ => rfl)) (pe_op op_mul pe_int (pe_ix ix_list (pv 0) pe_int (fun _ _ => rfl)))) pe_int) pe_int) pa_nil)) pe_int))
      (pss_cons (ps_set (i := 3) scD.nd rfl (Or.inl rfl) (pe_op op_mod (pe_callTy call_int1 (by rfl) hI PyProof.Rows.boot_int (pa_cons (pe_op op_mul (pv 3) (pe_op op_add (pe_op op_fdiv (pv 3) pe_int) pe_int)) pa_nil)) pe_int))
      (pss_one (ps_ret (pe_op op_mod (pe_callTy call_int1 (by rfl) hI PyProof.Rows.boot_int (pa_cons (pe_op op_mod (pe_callTy call_int1 (by rfl) hI PyProof.Rows.boot_int (pa_cons (pe_op op_mul (pv 3) (pe_op op_add (pe_op op_fdiv (pv 3) pe_int) pe_int)) pa_nil)) pe_int) pa_nil)) (pv 1)))))))
      , ?_⟩
    refine r_seqIf0 (ixR 0 rfl hw rfl _ ⟨a, 0, rfl, rfl, _, rfl, ?_⟩)
    refine ite2 (fun _ => ?_) (fun _ => ?_)
    · refine r_seqSet (r_op (r_cb (r_cons (ixR 0 rfl hw rfl _ (r_nil (.inl ⟨_, rfl, r_var rfl ⟨_, _, rfl, rfl, m0, ?_⟩⟩))))))
      refine r_seqAsg (r_op (ixR 0 rfl hw rfl _ (r_var rfl ⟨_, _, rfl, rfl, ⟨m0, m1⟩, _, rfl, w, _, _, 0, rfl, rfl, hw, rfl, ?_⟩)))
      exact ⟨_, rfl, k _ (a / m) c (Int.emod_nonneg _ (by omega)) (Int.emod_lt_of_pos _ m0)⟩
    · refine r_seqAsg (r_op (ixR 2 rfl hw rfl _ ⟨_, _, rfl, rfl, _, rfl, w, _, _, 2, rfl, rfl, hw, rfl, ?_⟩))
      have hw2 : (upd H w (.lst [.int a, .int b, .int (c + 1)])) w = some (.lst [.int a, .int b, .int (c + 1)]) := upd_same
      refine r_seqSet (r_op (r_cb (r_cons (r_op (r_op (r_op (ixR 1 rfl hw2 rfl _ (r_op (ixR 2 rfl hw2 rfl _ ⟨_, _, rfl, rfl, .inl (by decide), _, _, rfl, rfl, _, _, rfl, rfl, _, _, rfl, rfl, .inr (by decide), ?_⟩)))))))))
      refine r_nil (.inl ⟨_, rfl, _, _, rfl, rfl, (show (0 : Int) < 2147483647 by decide), ?_⟩)
      have e1 : ∀ z : Int, -(2 ^ 64) < z % 2147483647 ∧ z % 2147483647 < 2 ^ 64 := fun z => by omega
      refine r_seqSet (r_op (r_cb (r_cons (r_op (r_var rfl (r_op (r_op (r_var rfl ⟨_, _, rfl, rfl, ⟨by decide, by decide⟩, _, _, rfl, rfl, _, _, rfl, rfl, .inl (e1 _), ?_⟩))))))))
      refine r_nil (.inl ⟨_, rfl, _, _, rfl, rfl, (show (0 : Int) < 2147483647 by decide), ?_⟩)
      refine r_ret (r_op (r_cb (r_cons (r_op (r_cb (r_cons (r_op (r_var rfl (r_op (r_op (r_var rfl ⟨_, _, rfl, rfl, ⟨by decide, by decide⟩, _, _, rfl, rfl, _, _, rfl, rfl, .inl (e1 _), ?_⟩)))))))))))
      refine r_nil (.inl ⟨_, rfl, _, _, rfl, rfl, (show (0 : Int) < 2147483399 by decide), r_nil (.inl ⟨_, rfl, r_var rfl ⟨_, _, rfl, rfl, m0, ?_⟩⟩)⟩)
      exact k _ a (c + 1) (Int.emod_nonneg _ (by omega)) (Int.emod_lt_of_pos _ m0)
end
/-- all but w stands -/
def SameX (w : Addr) (H H' : Hp) : Prop := ∀ b o, b ≠ w → H b = some o → H' b = some o
theorem SameX.trans {w : Addr} {H H1 H2 : Hp} (a : SameX w H H1) (b : SameX w H1 H2) : SameX w H H2 := fun c o n e => b c o n (a c o n e)
theorem SameX.of {w : Addr} {H H1 : Hp} (a : Same H H1) : SameX w H H1 := fun c o _ e => a c o e
theorem SameX.self {w : Addr} {H : Hp} {o : HO} : SameX w H (upd H w o) := fun b _ n e => by rw [upd_ne n]; exact e
def spRight : Sp := fun vs H Q _ => ∃ (w : Addr) (a b c : Int), vs = [.ref w] ∧ H w = some (.lst [.int a, .int b, .int c]) ∧ ∀ H' : Hp, SameX w H H' → Q (.bl true) H'
theorem drawR {σ : St} {H : Hp} {Q : VK} {w : Addr} {m a b c : Int} (hσ : σ[0]? = some (some (.ref w))) (hw : H w = some (.lst [.int a, .int b, .int c])) (m0 : 0 < m) (m1 : m < 1073741824)
    (k : ∀ r a' c' : Int, 0 ≤ r → r < m → Q (.int r) (upd H w (.lst [.int a', .int b, .int c']))) : tCall spDraw [] E0 (tCons (tVar 0) (tCons (tC (.int m)) tNil)) σ H Q :=
  ⟨_, hσ, w, m, a, b, c, rfl, m0, m1, hw, k⟩
theorem r_opC {σ : St} {H : Hp} {Q : VK} {r : R2} {v : V} {tb : TE} (h : tb σ H fun y H2 => r v y H2 Q) : tOp r (tC v) tb σ H Q := h
theorem scR : FnScope ["_law_well", "_law_a", "_law_b", "_law_c", "_law_d", "_law_core"] ["_law_well"] (defScope sRight) := ⟨rfl, rfl, rfl, by decide +kernel, rfl, by decide +kernel, by decide +kernel⟩
theorem letter {r : Int} (h0 : 0 ≤ r) (h1 : r < 10) : ∃ c, atI (("abcdefghij" : Str).cps.toList) r = some c := by
  have hl : (("abcdefghij" : Str).cps.toList).length = 10 := by decide +kernel
  have hi : r.toNat < (("abcdefghij" : Str).cps.toList).length := by { rw [hl]; omega }
  have e : r = ((r.toNat : Nat) : Int) := by omega
  exact ⟨_, by rw [e]; exact atI_nat (List.getElem?_eq_getElem hi)⟩
theorem form3 {r : Int} (h0 : 0 ≤ r) (h1 : r < 3) : ∃ b : Str, atI [V.str "int1", V.str "int8", V.str "Shape"] r = some (.str b) ∧ b.length ≤ 100 := by
  have : r = 0 ∨ r = 1 ∨ r = 2 := by omega
  rcases this with rfl | rfl | rfl
  · exact ⟨_, rfl, by decide +kernel⟩
  · exact ⟨_, rfl, by decide +kernel⟩
  · exact ⟨_, rfl, by decide +kernel⟩
section
variable {P : Program} {w : World} {K : PySem.W.Frag} {mg : Str → Option Value} {base : Heap} {CS : List Addr} {fD fF fB fM fC fT : Addr} {gD gF gB gM gC gT : FuncData} {fI0 fI1 fI2 : Addr} {gI0 gI1 gI2 : FuncData} {dv0 dv1 dv2 : List V}
theorem okRight {f : Addr} {fd : FuncData} (F : Fun K "_law_right" "_law_right" sRight f fd)
    (D0 : MkF P w K mg base (mkE CS) 0 "Field" ["self", "name", "form", "start", "shown"] ["shown", "start", "form", "name"] dv0 [.int 0, .bl true] fI0 gI0) (ln0 : dv0.length = 2)
    (D1 : MkF P w K mg base (mkE CS) 1 "Body" ["self", "variables", "steps"] ["steps", "variables"] dv1 [.tup [], .tup []] fI1 gI1) (ln1 : dv1.length = 2)
    (D2 : MkF P w K mg base (mkE CS) 2 "Method" ["self", "name", "kind", "params", "result", "body", "shown"] ["shown", "body", "result", "params", "kind", "name"] dv2 [.tup [], .non, .non, .bl true] fI2 gI2) (ln2 : dv2.length = 4)
    (GD : FnOk P w K mg base CX0 1 fD gD ["_law_well", "_law_many"] spDraw) (mD : mg "_law_draw" = some (.ref fD)) (kD : PySem.W.keepIn K (.ref fD) = true) (bD : Binds K gD ["_law_well", "_law_many"] [])
    (GF : FnOk P w K mg base CX0 14 fF gF ["_law_a", "_law_b", "_law_c", "_law_d"] (spField (mkE CS) K)) (mF : mg "_law_field_right" = some (.ref fF)) (kF : PySem.W.keepIn K (.ref fF) = true) (bF : Binds K gF ["_law_a", "_law_b", "_law_c", "_law_d"] [])
    (GB : FnOk P w K mg base CX0 14 fB gB ["_law_a", "_law_b", "_law_c"] (spBody (mkE CS) K)) (mB : mg "_law_body_right" = some (.ref fB)) (kB : PySem.W.keepIn K (.ref fB) = true) (bB : Binds K gB ["_law_a", "_law_b", "_law_c"] [])
    (GM : FnOk P w K mg base CX0 14 fM gM ["_law_a", "_law_b", "_law_d", "_law_core"] (spMethod (mkE CS) K)) (mM : mg "_law_method_right" = some (.ref fM)) (kM : PySem.W.keepIn K (.ref fM) = true) (bM : Binds K gM ["_law_a", "_law_b", "_law_d", "_law_core"] [])
    (GC : FnOk P w K mg base CX0 14 fC gC ["_law_d", "_law_cell", "_law_call"] (spClass (mkE CS) K)) (mC : mg "_law_class_right" = some (.ref fC)) (kC : PySem.W.keepIn K (.ref fC) = true) (bC : Binds K gC ["_law_d", "_law_cell", "_law_call"] [])
    (GT : FnOk P w K mg base CX0 14 fT gT ["_law_a", "_law_b", "_law_core"] (spRoutine (mkE CS) K)) (mT : mg "_law_routine_right" = some (.ref fT)) (kT : PySem.W.keepIn K (.ref fT) = true) (bT : Binds K gT ["_law_a", "_law_b", "_law_core"] []) :
    FnOk P w K mg base CX0 15 f fd ["_law_well"] spRight := by
  refine F.ok scR (fun vs H Q E h => ?_) (fun cdv A outer s H vs Q E hr h => ?_)
  · obtain ⟨w, a, b, c, rfl, _⟩ := h; rfl
  · obtain ⟨w, a0, b0, c0, rfl, hw, k⟩ := h
    have hr1 := hr.mono (j := 1) (by decide)
    obtain ⟨e0, v0, b0_2⟩ := D0.b 2 (by rw [ln0]; decide)
    obtain ⟨e1, v1, b1_2⟩ := D1.b 2 (by rw [ln1]; decide)
    obtain ⟨e2, v2, b2_4⟩ := D2.b 4 (by rw [ln2]; decide)
    refine ⟨_, pss_cons (ps_set (i := 1) scR.nd rfl (Or.inl rfl) (pe_ix ix_str pe_str (pe_call GD hr1 rfl mD kD bD .nil pass0 (pa_cons (pv 0) (pa_cons pe_int pa_nil))) (fun _ _ => rfl)))
      (pss_cons (ps_set (i := 2) scR.nd rfl (Or.inl rfl) (pe_ix ix_list (pe_lst (pa_cons pe_str (pa_cons pe_str (pa_cons pe_str pa_nil)))) (pe_call GD hr1 rfl mD kD bD .nil pass0 (pa_cons (pv 0) (pa_cons pe_int pa_nil))) (fun _ _ => rfl)))
      (pss_cons (ps_set (i := 3) scR.nd rfl (Or.inl rfl) (pe_op op_sub (pe_call GD hr1 rfl mD kD bD .nil pass0 (pa_cons (pv 0) (pa_cons pe_int pa_nil))) pe_int))
      (pss_cons (ps_set (i := 4) scR.nd rfl (Or.inl rfl) (pe_cmpR op_eq (pe_call GD hr1 rfl mD kD bD .nil pass0 (pa_cons (pv 0) (pa_cons pe_int pa_nil))) pe_int (nomark _)))
      (pss_cons (ps_set (i := 5) scR.nd rfl (Or.inl rfl) (pe_make D1.M D1.G (hr.mono (by decide)) rfl D1.m b1_2 v1 pass0 (pa_cons (pe_tup (pa_cons (pe_tup (pa_cons (pv 1) (pa_cons (pv 2) pa_nil))) pa_nil)) (pa_cons (pe_tup (pa_cons (pe_tup (pa_cons pe_str (pa_cons (pv 3) pa_nil))) pa_nil)) pa_nil))))
      (pss_cons (ps_if (PW.pt (pw_or (pt_not (pt_val (pe_call GF hr rfl mF kF bF .nil pass0 (pa_cons (pv 1) (pa_cons (pv 2) (pa_cons (pv 3) (pa_cons (pv 4) pa_nil)))))))
        (pw_or (pt_not (pt_val (pe_call GB hr rfl mB kB bB .nil pass0 (pa_cons (pv 1) (pa_cons (pv 2) (pa_cons (pv 3) pa_nil))))))
        (pw_or1 (pt_not (pt_val (pe_call GM hr rfl mM kM bM .nil pass0 (pa_cons (pv 1) (pa_cons (pv 2) (pa_cons (pv 4) (pa_cons (pv 5) pa_nil)))))))))))
        (pss_one (ps_ret pe_bl)) pss_nil)
      (pss_cons (ps_if (pt_not (pt_val (pe_call GC hr rfl mC kC bC .nil pass0 (pa_cons (pv 4) (pa_cons (pe_make D0.M D0.G (hr.mono (by decide)) rfl D0.m b0_2 v0 pass0 (pa_cons (pv 1) (pa_cons (pv 2) (pa_cons (pv 3) (pa_cons (pv 4) pa_nil)))))
        (pa_cons (pe_make D2.M D2.G (hr.mono (by decide)) rfl D2.m b2_4 v2 pass0 (pa_cons (pv 1) (pa_cons pe_str (pa_cons (pe_tup pa_nil) (pa_cons pe_non (pa_cons (pv 5) (pa_cons (pv 4) pa_nil))))))) pa_nil)))))) (pss_one (ps_ret pe_bl)) pss_nil)
      (pss_one (ps_ret (pe_call GT hr rfl mT kT bT .nil pass0 (pa_cons (pv 1) (pa_cons (pv 2) (pa_cons (pv 5) pa_nil))))))))))))
      , ?_⟩
    refine r_seqSet (r_opC (drawR (m := 10) rfl hw (by decide) (by decide) fun r1 a1 c1 h0 h1 => ?_))
    obtain ⟨z, hz⟩ := letter h0 h1
    refine ⟨_, r1, z, rfl, rfl, (by decide +kernel), hz, ?_⟩
    generalize ea : (⟨#[z]⟩ : Str) = a
    have la : a.length ≤ 100 := by { rw [← ea]; exact Nat.le_of_ble_eq_true rfl }
    have ew : (upd H w (.lst [.int a1, .int b0, .int c1])) w = some (.lst [.int a1, .int b0, .int c1]) := upd_same
    have x1 : SameX w H (upd H w (.lst [.int a1, .int b0, .int c1])) := SameX.self
    generalize upd H w (.lst [.int a1, .int b0, .int c1]) = H1 at ew x1 ⊢
    refine r_seqSet (r_op (r_lst (r_consC (r_consC (r_consC (r_nil ⟨Nat.le_trans (Nat.le_of_ble_eq_true (m := 100) rfl) (by decide), fun l nl => ?_⟩))))))
    have s2 : Same H1 (upd H1 l (.lst [.str "int1", .str "int8", .str "Shape"])) := new_same nl
    have el : (upd H1 l (.lst [.str "int1", .str "int8", .str "Shape"])) l = some (.lst [.str "int1", .str "int8", .str "Shape"]) := upd_same
    have nlw : l ≠ w := fun q => by { rw [q, ew] at nl; cases nl }
    generalize upd H1 l (.lst [.str "int1", .str "int8", .str "Shape"]) = H2 at s2 el ⊢
    refine drawR (m := 3) rfl (s2 _ _ ew) (by decide) (by decide) fun r2 a2 c2 h0 h1 => ?_
    obtain ⟨b, hb, lb⟩ := form3 h0 h1
    have el3 : (upd H2 w (.lst [.int a2, .int b0, .int c2])) l = some (.lst [.str "int1", .str "int8", .str "Shape"]) := by { rw [upd_ne nlw]; exact el }
    refine ⟨l, _, r2, _, rfl, rfl, SqL.of el3, hb, ?_⟩
    have ew3 : (upd H2 w (.lst [.int a2, .int b0, .int c2])) w = some (.lst [.int a2, .int b0, .int c2]) := upd_same
    have x3 : SameX w H (upd H2 w (.lst [.int a2, .int b0, .int c2])) := (x1.trans (SameX.of s2)).trans SameX.self
    generalize upd H2 w (.lst [.int a2, .int b0, .int c2]) = H3 at ew3 x3 ⊢
    refine r_seqSet (r_op (drawR (m := 200) rfl ew3 (by decide) (by decide) fun r3 a3 c3 h0 h1 => ⟨r3, 100, rfl, rfl, ?_⟩))
    have ew4 : (upd H3 w (.lst [.int a3, .int b0, .int c3])) w = some (.lst [.int a3, .int b0, .int c3]) := upd_same
    have x4 : SameX w H (upd H3 w (.lst [.int a3, .int b0, .int c3])) := x3.trans SameX.self
    generalize upd H3 w (.lst [.int a3, .int b0, .int c3]) = H4 at ew4 x4 ⊢
    refine r_seqSet (r_op (drawR (m := 2) rfl ew4 (by decide) (by decide) fun r4 a4 c4 h0 h1 => ⟨rfl, ?_⟩))
    have x5 : SameX w H (upd H4 w (.lst [.int a4, .int b0, .int c4])) := x4.trans SameX.self
    generalize upd H4 w (.lst [.int a4, .int b0, .int c4]) = H5 at x5 ⊢
    generalize decide (V.int r4 = V.int 0) = d
    have ha : HasD (mkE CS) K H5 (.str a) (.str a) := .str a
    have hb : HasD (mkE CS) K H5 (.str b) (.str b) := .str b
    have hc : HasD (mkE CS) K H5 (.int (r3 - 100)) (.int (r3 - 100)) := .int _
    have hd : HasD (mkE CS) K H5 (.bl d) (.bl d) := .bl d
    refine s_set (E := mkE CS) (K := K) (gr_make (c := 1) (gra_cons (gr_tup (gra_cons (gr_tup (gra_cons (gr_var rfl ha) (gra_cons (gr_var rfl hb) gra_nil)) (Nat.le_of_ble_eq_true rfl)) gra_nil) (Nat.le_of_ble_eq_true rfl)) (gra_cons (gr_tup (gra_cons (gr_tup (gra_cons gr_str (gra_cons (gr_var rfl hc) gra_nil)) (Nat.le_of_ble_eq_true rfl)) gra_nil) (Nat.le_of_ble_eq_true rfl)) gra_nil)) (D1.dd 2 _) rfl) fun H6 core s6 hcore => ?_
    replace ha := ha.same s6; replace hb := hb.same s6; replace hc := hc.same s6; replace hd := hd.same s6
    have x6 := x5.trans (SameX.of s6); clear s6
    refine r_seqIf0 (r_or (r_not (r_tb (r_call (r_consV rfl (r_consV rfl (r_consV rfl (r_consV rfl (r_nil ⟨_, _, _, _, a, b, r3 - 100, d, rfl, la, lb, ha, hb, hc, hd, fun H7 s7 => ⟨true, rfl, iteF ?_⟩⟩)))))))))
    replace ha := ha.same s7; replace hb := hb.same s7; replace hc := hc.same s7; replace hd := hd.same s7; replace hcore := hcore.same s7
    have x7 := x6.trans (SameX.of s7); clear s7 x6
    refine r_or (r_not (r_tb (r_call (r_consV rfl (r_consV rfl (r_consV rfl (r_nil ⟨_, _, _, a, b, r3 - 100, d, rfl, la, lb, ha, hb, hc, fun H8 s8 => ⟨true, rfl, iteF ?_⟩⟩)))))))
    replace ha := ha.same s8; replace hb := hb.same s8; replace hc := hc.same s8; replace hd := hd.same s8; replace hcore := hcore.same s8
    have x8 := x7.trans (SameX.of s8); clear s8 x7
    refine r_not (r_tb (r_call (r_consV rfl (r_consV rfl (r_consV rfl (r_consV rfl (r_nil ⟨_, _, _, _, a, b, r3 - 100, d, rfl, la, lb, ha, hb, hd, hcore, fun H9 s9 => ⟨true, rfl, iteF ?_⟩⟩)))))))
    replace ha := ha.same s9; replace hb := hb.same s9; replace hc := hc.same s9; replace hd := hd.same s9; replace hcore := hcore.same s9
    have x9 := x8.trans (SameX.of s9); clear s9 x8
    refine r_seqIf0 (r_not (r_tb (r_call (r_consV rfl (r_cons (gr_make (E := mkE CS) (K := K) (c := 0) (gra_cons (gr_var rfl ha) (gra_cons (gr_var rfl hb) (gra_cons (gr_var rfl hc) (gra_cons (gr_var rfl hd) gra_nil)))) (D0.dd 2 _) rfl H9 _ (Same.refl _) fun H10 cell s10 hcell => ?_))))))
    replace ha := ha.same s10; replace hb := hb.same s10; replace hc := hc.same s10; replace hd := hd.same s10; replace hcore := hcore.same s10
    have x10 := x9.trans (SameX.of s10); clear s10 x9
    refine r_cons (gr_make (E := mkE CS) (K := K) (c := 2) (gra_cons (gr_var rfl ha) (gra_cons gr_str (gra_cons (gr_tup gra_nil (Nat.zero_le _)) (gra_cons gr_non (gra_cons (gr_var rfl hcore) (gra_cons (gr_var rfl hd) gra_nil)))))) (D2.dd 4 _) rfl H10 _ (Same.refl _) fun H11 call s11 hcall => ?_)
    refine r_nil ⟨_, _, _, a, b, r3 - 100, d, rfl, la, lb, hd.same s11, hcell.same s11, hcall, fun H12 s12 => ⟨true, rfl, iteF ?_⟩⟩
    have s13 := s11.trans s12
    refine r_ret (r_call (r_consV rfl (r_consV rfl (r_consV rfl (r_nil ⟨_, _, _, a, b, r3 - 100, d, rfl, la, lb, ha.same s13, hb.same s13, hcore.same s13, fun H14 s14 => ?_⟩)))))
    exact k _ (x10.trans (SameX.of (s13.trans s14)))
end
theorem le_size {n : Nat} (h : n ≤ 1000) : n ≤ sizeLine := Nat.le_trans h (by decide)
theorem _root_.L2.Same.new {H : Hp} {p : Addr} {o : HO} (n : H p = none) : Same H (upd H p o) := new_same n
def spLaw (K : PySem.W.Frag) : Sp := fun vs H Q _ => ∃ (a : Addr) (ns : List Int), vs = [.ref a] ∧ SqL K H a (ns.map V.int) ∧ ns.length ≤ 63 ∧ ∀ H', Q (.bl true) H'
theorem scL : FnScope ["_law_script", "_law_k", "_law_cell"] ["_law_script"] (defScope sLaw) := ⟨rfl, rfl, rfl, by decide +kernel, rfl, by decide +kernel, by decide +kernel⟩
theorem cut_int {xs : List V} {lo hi : Option Int} (h : ∀ x ∈ xs, ∃ n, x = V.int n) : ∀ x ∈ cutV xs lo hi, ∃ n, x = V.int n := fun x hx => h x (List.mem_of_mem_drop (List.mem_of_mem_take hx))
theorem r_sl {σ : St} {H : Hp} {Q : VK} {r : V → Option Int → Option Int → Hp → VK → Prop} {te : TE} {tl th : TO} (h : te σ H fun x H1 => tl σ H1 fun l H2 => th σ H2 fun u H3 => r x l u H3 Q) : tSl r te tl th σ H Q := h
section
variable {P : Program} {w : World} {K : PySem.W.Frag} {mg : Str → Option Value} {base : Heap} {fR : Addr} {gR' : FuncData}
theorem okLaw {f : Addr} {fd : FuncData} (F : Fun K "law" "law" sLaw f fd) (hI : mg "int" = none) (hE : mg "enumerate" = none) (GR : FnOk P w K mg base CX0 15 fR gR' ["_law_well"] spRight) (mR : mg "_law_right" = some (.ref fR)) (kR : PySem.W.keepIn K (.ref fR) = true) (bR : Binds K gR' ["_law_well"] []) :
    FnOk P w K mg base CX0 16 f fd ["_law_script"] (spLaw K) := by
  refine F.ok scL (fun vs H Q E h => ?_) (fun cdv A outer s H vs Q E hr h => ?_)
  · obtain ⟨a, ns, rfl, _⟩ := h; rfl
  · obtain ⟨a, ns, rfl, hS, hlen, k⟩ := h
    refine ⟨_, pss_cons (ps_for PassesOwn.never rfl (pi_enum (by rfl) hE (pa_cons (pe_slice sl_list (pe_op op_catQ (pv 0) (pe_lst (pa_cons pe_int pa_nil))) po_none (po_some pe_int)) pa_nil)) (pg_tup rfl (pgs_cons (pg_name (i := 1) scL.nd rfl (Or.inl rfl)) (pgs_cons (pg_name (i := 2) scL.nd rfl (Or.inl rfl)) pgs_nil)))
        (pss_one (ps_if (pt_not (pt_val (pe_call GR hr rfl mR kR bR .nil pass0 (pa_cons (pe_lst (pa_cons (pe_op op_mul (pv 2) (pe_callTy call_int1 (by rfl) hI PyProof.Rows.boot_int (pa_cons (pe_cmpR op_ge (pv 2) (pe_op op_pow pe_int pe_int) (nomark _)) pa_nil)))
          (pa_cons (pe_op op_add (pe_op op_mod (pe_callTy call_int1 (by rfl) hI PyProof.Rows.boot_int (pa_cons (pv 2) pa_nil)) pe_int) (pe_op op_mul pe_int (pv 1))) (pa_cons pe_int pa_nil)))) pa_nil)))) (pss_one (ps_ret pe_bl)) pss_nil)))
      (pss_one (ps_ret pe_bl)), ?_⟩
    refine r_seqFor (r_iEnum (r_cons (r_sl (r_op (r_var rfl (r_lst (r_consC (r_nil ⟨le_size (Nat.le_of_ble_eq_true rfl), fun l nl => ?_⟩))))))))
    have s1 := Same.new (o := .lst [.int 0]) nl
    have hs1 := s1.seq hS
    refine ⟨a, l, _, _, rfl, rfl, hs1, SqL.of upd_same, (by rw [List.length_map]; exact le_size (by show ns.length + 1 ≤ 1000; omega)), fun p np => ?_⟩
    have hall : ∀ x ∈ ns.map V.int ++ [V.int 0], ∃ n, x = V.int n := fun x hx => by
      rcases List.mem_append.mp hx with q | q
      · obtain ⟨n, _, e⟩ := List.mem_map.mp q; exact ⟨n, e.symm⟩
      · exact ⟨0, List.mem_singleton.mp q⟩
    have ep : (upd (upd H l (.lst [.int 0])) p (.lst (ns.map V.int ++ [V.int 0]))) p = some (.lst (ns.map V.int ++ [V.int 0])) := upd_same
    generalize upd (upd H l (.lst [.int 0])) p (.lst (ns.map V.int ++ [V.int 0])) = H2 at ep ⊢
    generalize ns.map V.int ++ [V.int 0] = xs at hall ep ⊢
    refine ⟨6, rfl, p, xs, rfl, SqL.of ep, fun q nq => r_nil ⟨q, _, rfl, SqL.of upd_same, ?_⟩⟩
    have hcut := cut_int (lo := none) (hi := some 6) hall
    have eq : (upd H2 q (.lst (cutV xs none (some 6)))) q = some (.lst (cutV xs none (some 6))) := upd_same
    generalize upd H2 q (.lst (cutV xs none (some 6))) = H3 at eq ⊢
    generalize cutV xs none (some 6) = ys at hcut eq ⊢
    refine fr_enum (xs := ys) (fun _ σ H' => Same H3 H' ∧ ∃ y1 y2, σ = [some (.ref a), y1, y2]) ⟨Same.refl _, _, _, rfl⟩ (fun i σ H' _ h => h.1.seq (SqL.of eq)) (fun i x σ H' T hx hP nT => ?_) (fun σ H' hP => ?_)
    · obtain ⟨sP, y1, y2, rfl⟩ := hP
      obtain ⟨n, rfl⟩ := hcut x (List.mem_of_getElem? hx)
      have sT := Same.new (o := .tup [.int (i : Nat), .int n]) nT
      have u1 := sP.trans sT
      generalize upd H' T (.tup [.int (i : Nat), .int n]) = H4 at u1 ⊢
      refine r_if0 (r_not (r_tb (r_call (r_cons (r_lst (r_cons (r_op (r_var rfl (r_cb (r_cons (r_op (r_var rfl (r_op ⟨10, 18, rfl, rfl, ⟨by decide, by decide, by decide⟩, _, _, rfl, rfl, ?_⟩)))))))))))))
      refine r_nil (.inr ⟨_, rfl, _, _, rfl, rfl, .inr ?_, ?_⟩)
      · split <;> decide
      · refine r_cons (r_op (r_op (r_cb (r_consV rfl (r_nil (.inl ⟨_, rfl, _, _, rfl, rfl, (show (0 : Int) < 2147483647 by decide), ?_⟩))))))
        refine r_opC (r_var rfl ⟨_, _, rfl, rfl, .inl (by decide), _, _, rfl, rfl, r_consC (r_nil ⟨le_size (Nat.le_of_ble_eq_true rfl), fun w0 nw0 => r_nil ⟨w0, _, _, _, rfl, upd_same, fun H5 sx => ⟨true, rfl, iteF ?_⟩⟩⟩)⟩)
        refine ⟨fun b o z => ?_, _, _, rfl⟩
        have z4 := u1 b o z
        have nb : b ≠ w0 := ne_of_none z4 nw0
        exact sx b o nb (by rw [upd_ne nb]; exact z4)
    · exact k H'
end
end K01


set_option Elab.async false
set_option linter.all false
set_option maxRecDepth 100000
set_option maxHeartbeats 4000000
/-! K01d: the end -/
namespace K01
open PySem L2 OC
def NoAll (K : PySem.W.Frag) (C : Addr) : List Str → Prop
  | [] => True
  | f :: fs => PySem.W.findIn K (.ref C) f = some none ∧ NoAll K C fs
theorem NoAll.all {K : PySem.W.Frag} {C : Addr} : ∀ {fs : List Str}, NoAll K C fs → ∀ f ∈ fs, NoAttr K C f
  | _ :: _, h, f, hf => by
    rcases List.mem_cons.mp hf with e | e
    · rw [e]; exact h.1
    · exact NoAll.all h.2 f e
/-- an empty tuple of the written part -/
def EmT (K : PySem.W.Frag) (a : Addr) : Prop := ∃ (o : Obj) (n : Nat), K.lookup a = some o ∧ o.cls = .type "tuple" ∧ o.data = .seq #[] n
theorem emt {K : PySem.W.Frag} {a : Addr} {dd : Option Addr} {n : Nat} {sl : Array (Option Value)} (h : K.lookup a = some ⟨.type "tuple", dd, .seq #[] n, sl⟩) : EmT K a := ⟨_, n, h, rfl, rfl⟩
theorem EmT.has {E : CE} {K : PySem.W.Frag} {H : Hp} {a : Addr} (h : EmT K a) : HasD E K H (.ref a) (.tup []) := by
  obtain ⟨o, n, h1, h2, h3⟩ := h
  exact .tup (.inr ⟨o, #[], n, h1, h2, h3, Nat.zero_le _, .nil⟩) .nil
theorem HasA.drop {E : CE} {K : PySem.W.Frag} {H : Hp} : ∀ {xs : List V} {ds : List Dt} (j : Nat), HasA E K H xs ds → HasA E K H (xs.drop j) (ds.drop j)
  | _, _, 0, h => h
  | _, _, _ + 1, .nil => .nil
  | _, _, j + 1, .cons _ t => HasA.drop j t
/-- the written part on a class -/
structure ClK (K : PySem.W.Frag) (mg : Str → Option Value) (nm : Str) (C fI fE : Addr) (ns : List Str) : Prop where
  T : Tyf K C
  M : Mk K C fI
  gm : mg nm = some (.ref C)
  hs : PySem.W.findIn K (.ref C) "__eq__" = some (some (.ref fE))
  hf : PySem.W.isFn K (.ref fE) = true
  ne : PySem.W.findIn K (.ref C) "__ne__" = some (some (.builtin "object.__ne__"))
  no : ∀ z ∈ ns, NoAttr K C z
theorem clk {K : PySem.W.Frag} {h : Heap} {mg : Str → Option Value} {nm : Str} {C fI fE : Addr} {ns : List Str} {cd : ClassData} (X : K.In h) (G : h.Ns mainGlobals mg) (aC : PySem.W.nsIn K mainGlobals nm = some (some (.ref C)))
    (pg : PySem.W.plainGet K C Str.empty = true) (hd : PySem.W.hasDictIn K C = true) (po : PySem.W.plainOver K C = true) (sa : PySem.W.findIn K (.ref C) "__setattr__" = some (some (.builtin "object.__setattr__"))) (ca : PySem.W.findIn K (.ref C) "__class__" = some (some (.builtin "object.__class__"))) (ty : PySem.W.typeIn K (.ref C) = some (.type "type"))
    (hcd : PySem.W.clsIn K C = some cd) (hm : cd.mro = [.ref C, .type "object"]) (mk : PySem.W.makesIn K C = true) (iC : PySem.W.findIn K (.ref C) "__init__" = some (some (.ref fI))) (fI_ : PySem.W.isFn K (.ref fI) = true) (kp : PySem.W.keepIn K (.ref C) = true)
    (hs : PySem.W.findIn K (.ref C) "__eq__" = some (some (.ref fE))) (hf : PySem.W.isFn K (.ref fE) = true) (ne : PySem.W.findIn K (.ref C) "__ne__" = some (some (.builtin "object.__ne__"))) (no : NoAll K C ns) : ClK K mg nm C fI fE ns :=
  ⟨⟨⟨pg, hd, po, sa⟩, ca, ty, ⟨cd, hcd, hm⟩⟩, ⟨mk, iC, fI_, kp⟩, PySem.W.mg_of X G aC, hs, hf, ne, no.all⟩
theorem fund {K : PySem.W.Frag} {x qual : Str} {st : Stmt} {f T : Addr} {oc : Value} {od an dd : Option Addr} {osl sl : Array (Option Value)} {kV doc pm cdv ct : Value} {arr : Array Value} {n : Nat} {c0 : Value} {dvs : List V}
    (l : K.lookup f = some ⟨oc, od, .func (PySem.W.fnOf x qual (defArgs st) (defBody st) (defScope st) (.ref T) kV doc pm an cdv ct), osl⟩) (c : PySem.W.codeIn K cdv qual = true) (k : PySem.W.keepIn K (.ref f) = true)
    (lT : K.lookup T = some ⟨c0, dd, .seq arr n, sl⟩) (hv : Vals dvs arr.toList) (hne : dvs ≠ []) :
    FunD K x qual (defArgs st) (defBody st) (defScope st) dvs [] f (PySem.W.fnOf x qual (defArgs st) (defBody st) (defScope st) (.ref T) kV doc pm an cdv ct) :=
  ⟨⟨oc, od, .ref T, kV, doc, pm, an, cdv, ct, osl, rfl, l, c, .inr ⟨hne, T, _, arr.toList, n, rfl, lT, by cases arr; rfl, hv⟩, .inl rfl⟩, k⟩
theorem mkE_inj {CS : List Addr} (nd : CS.Nodup) (small : ∀ a ∈ CS, a < 1000000) : (mkE CS).Inj := by
  intro c c' e
  have ge : ∀ i, CS.getD i (1000000 + i) = (CS[i]?).getD (1000000 + i) := fun i => List.getD_eq_getElem?_getD
  have e' : (CS[c]?).getD (1000000 + c) = (CS[c']?).getD (1000000 + c') := by { rw [← ge, ← ge]; exact e }
  cases h : CS[c]? with
  | none =>
    cases h' : CS[c']? with
    | none => rw [h, h'] at e'; simp at e'; omega
    | some b =>
      rw [h, h'] at e'
      have z : 1000000 + c = b := e'
      have q := small b (List.mem_of_getElem? h')
      rw [← z] at q; exact absurd q (Nat.not_lt.mpr (Nat.le_add_right _ _))
  | some a =>
    cases h' : CS[c']? with
    | none =>
      rw [h, h'] at e'
      have z : a = 1000000 + c' := e'
      have q := small a (List.mem_of_getElem? h)
      rw [z] at q; exact absurd q (Nat.not_lt.mpr (Nat.le_add_right _ _))
    | some b =>
      rw [h, h'] at e'
      have z : a = b := e'
      subst z
      exact nd_ix nd h h'
section
variable {P : Program} {w : World} {K : PySem.W.Frag} {mg : Str → Option Value} {base : Heap} {CS : List Addr}
theorem mkf0 {f fE : Addr} {fd : FuncData}  (F : FunD K "__init__" "Field.__init__" (defArgs sI0) (defBody sI0) (defScope sI0) [.int 0, .bl true] [] f fd) (D : ClK K mg "Field" ((mkE CS).C 0) f fE ["name", "form", "start", "shown"]) : MkF P w K mg base (mkE CS) 0 "Field" ["self", "name", "form", "start", "shown"] ["shown", "start", "form", "name"] [.int 0, .bl true] [.int 0, .bl true] f fd := by
  refine ⟨D.M, okI0 F D.T.cl D.no, D.gm, fun j H => HasA.drop j (HasA.cons (.int 0) (HasA.cons (.bl true) HasA.nil)), fun j hj => ?_, ?_⟩
  · match j, hj with
    | 0, _ => exact F.binds1 (ps := ["self", "name", "form", "start", "shown"]) 3 0 (by simp) rfl fun _ _ _ _ _ _ _ us its l1 l2 => (match us, its, l1, l2 with | [_, _, _], [_, _], _, _ => ⟨_, rfl, rfl⟩)
    | 1, _ => exact F.binds1 (ps := ["self", "name", "form", "start", "shown"]) 4 1 (by simp) rfl fun _ _ _ _ _ _ _ us its l1 l2 => (match us, its, l1, l2 with | [_, _, _, _], [_, _], _, _ => ⟨_, rfl, rfl⟩)
    | 2, _ => exact F.binds1 (ps := ["self", "name", "form", "start", "shown"]) 5 2 (by simp) rfl fun _ _ _ _ _ _ _ us its l1 l2 => (match us, its, l1, l2 with | [_, _, _, _, _], [_, _], _, _ => ⟨_, rfl, rfl⟩)
  · obtain ⟨its, hk⟩ := F.kbindsD (ps := ["self", "name", "form", "start", "shown"]) 1 ["shown", "start", "form", "name"] (fun us _ ws => us ++ ws.reverse) (by simp) (fun r1 _ r3 => Vals.append r1 (Vals.rev r3)) fun _ _ _ _ _ _ _ us its ws l1 l2 l3 => (match us, its, ws, l1, l2, l3 with | [_], [_, _], [_, _, _, _], _, _, _ => ⟨_, rfl, rfl⟩)
    exact hk
theorem mkf1 {f fE : Addr} {fd : FuncData} {e1_0 : Addr} (z1_0 : EmT K e1_0) {e1_1 : Addr} (z1_1 : EmT K e1_1) (F : FunD K "__init__" "Body.__init__" (defArgs sI1) (defBody sI1) (defScope sI1) [.ref e1_0, .ref e1_1] [] f fd) (D : ClK K mg "Body" ((mkE CS).C 1) f fE ["variables", "steps"]) : MkF P w K mg base (mkE CS) 1 "Body" ["self", "variables", "steps"] ["steps", "variables"] [.ref e1_0, .ref e1_1] [.tup [], .tup []] f fd := by
  refine ⟨D.M, okI1 F D.T.cl D.no, D.gm, fun j H => HasA.drop j (HasA.cons z1_0.has (HasA.cons z1_1.has HasA.nil)), fun j hj => ?_, ?_⟩
  · match j, hj with
    | 0, _ => exact F.binds1 (ps := ["self", "variables", "steps"]) 1 0 (by simp) rfl fun _ _ _ _ _ _ _ us its l1 l2 => (match us, its, l1, l2 with | [_], [_, _], _, _ => ⟨_, rfl, rfl⟩)
    | 1, _ => exact F.binds1 (ps := ["self", "variables", "steps"]) 2 1 (by simp) rfl fun _ _ _ _ _ _ _ us its l1 l2 => (match us, its, l1, l2 with | [_, _], [_, _], _, _ => ⟨_, rfl, rfl⟩)
    | 2, _ => exact F.binds1 (ps := ["self", "variables", "steps"]) 3 2 (by simp) rfl fun _ _ _ _ _ _ _ us its l1 l2 => (match us, its, l1, l2 with | [_, _, _], [_, _], _, _ => ⟨_, rfl, rfl⟩)
  · obtain ⟨its, hk⟩ := F.kbindsD (ps := ["self", "variables", "steps"]) 1 ["steps", "variables"] (fun us _ ws => us ++ ws.reverse) (by simp) (fun r1 _ r3 => Vals.append r1 (Vals.rev r3)) fun _ _ _ _ _ _ _ us its ws l1 l2 l3 => (match us, its, ws, l1, l2, l3 with | [_], [_, _], [_, _], _, _, _ => ⟨_, rfl, rfl⟩)
    exact hk
theorem mkf2 {f fE : Addr} {fd : FuncData} {e2_0 : Addr} (z2_0 : EmT K e2_0) (F : FunD K "__init__" "Method.__init__" (defArgs sI2) (defBody sI2) (defScope sI2) [.ref e2_0, .non, .non, .bl true] [] f fd) (D : ClK K mg "Method" ((mkE CS).C 2) f fE ["name", "kind", "params", "result", "body", "shown"]) : MkF P w K mg base (mkE CS) 2 "Method" ["self", "name", "kind", "params", "result", "body", "shown"] ["shown", "body", "result", "params", "kind", "name"] [.ref e2_0, .non, .non, .bl true] [.tup [], .non, .non, .bl true] f fd := by
  refine ⟨D.M, okI2 F D.T.cl D.no, D.gm, fun j H => HasA.drop j (HasA.cons z2_0.has (HasA.cons .non (HasA.cons .non (HasA.cons (.bl true) HasA.nil)))), fun j hj => ?_, ?_⟩
  · match j, hj with
    | 0, _ => exact F.binds1 (ps := ["self", "name", "kind", "params", "result", "body", "shown"]) 3 0 (by simp) rfl fun _ _ _ _ _ _ _ us its l1 l2 => (match us, its, l1, l2 with | [_, _, _], [_, _, _, _], _, _ => ⟨_, rfl, rfl⟩)
    | 1, _ => exact F.binds1 (ps := ["self", "name", "kind", "params", "result", "body", "shown"]) 4 1 (by simp) rfl fun _ _ _ _ _ _ _ us its l1 l2 => (match us, its, l1, l2 with | [_, _, _, _], [_, _, _, _], _, _ => ⟨_, rfl, rfl⟩)
    | 2, _ => exact F.binds1 (ps := ["self", "name", "kind", "params", "result", "body", "shown"]) 5 2 (by simp) rfl fun _ _ _ _ _ _ _ us its l1 l2 => (match us, its, l1, l2 with | [_, _, _, _, _], [_, _, _, _], _, _ => ⟨_, rfl, rfl⟩)
    | 3, _ => exact F.binds1 (ps := ["self", "name", "kind", "params", "result", "body", "shown"]) 6 3 (by simp) rfl fun _ _ _ _ _ _ _ us its l1 l2 => (match us, its, l1, l2 with | [_, _, _, _, _, _], [_, _, _, _], _, _ => ⟨_, rfl, rfl⟩)
    | 4, _ => exact F.binds1 (ps := ["self", "name", "kind", "params", "result", "body", "shown"]) 7 4 (by simp) rfl fun _ _ _ _ _ _ _ us its l1 l2 => (match us, its, l1, l2 with | [_, _, _, _, _, _, _], [_, _, _, _], _, _ => ⟨_, rfl, rfl⟩)
  · obtain ⟨its, hk⟩ := F.kbindsD (ps := ["self", "name", "kind", "params", "result", "body", "shown"]) 1 ["shown", "body", "result", "params", "kind", "name"] (fun us _ ws => us ++ ws.reverse) (by simp) (fun r1 _ r3 => Vals.append r1 (Vals.rev r3)) fun _ _ _ _ _ _ _ us its ws l1 l2 l3 => (match us, its, ws, l1, l2, l3 with | [_], [_, _, _, _], [_, _, _, _, _, _], _, _, _ => ⟨_, rfl, rfl⟩)
    exact hk
theorem mkf3 {f fE : Addr} {fd : FuncData} {e3_0 : Addr} (z3_0 : EmT K e3_0) {e3_1 : Addr} (z3_1 : EmT K e3_1) {e3_2 : Addr} (z3_2 : EmT K e3_2) (F : FunD K "__init__" "Class.__init__" (defArgs sI3) (defBody sI3) (defScope sI3) [.ref e3_0, .ref e3_1, .ref e3_2, .bl false, .bl false] [] f fd) (D : ClK K mg "Class" ((mkE CS).C 3) f fE ["name", "bases", "fields", "methods", "closed", "lent"]) : MkF P w K mg base (mkE CS) 3 "Class" ["self", "name", "bases", "fields", "methods", "closed", "lent"] ["lent", "closed", "methods", "fields", "bases", "name"] [.ref e3_0, .ref e3_1, .ref e3_2, .bl false, .bl false] [.tup [], .tup [], .tup [], .bl false, .bl false] f fd := by
  refine ⟨D.M, okI3 F D.T.cl D.no, D.gm, fun j H => HasA.drop j (HasA.cons z3_0.has (HasA.cons z3_1.has (HasA.cons z3_2.has (HasA.cons (.bl false) (HasA.cons (.bl false) HasA.nil))))), fun j hj => ?_, ?_⟩
  · match j, hj with
    | 0, _ => exact F.binds1 (ps := ["self", "name", "bases", "fields", "methods", "closed", "lent"]) 2 0 (by simp) rfl fun _ _ _ _ _ _ _ us its l1 l2 => (match us, its, l1, l2 with | [_, _], [_, _, _, _, _], _, _ => ⟨_, rfl, rfl⟩)
    | 1, _ => exact F.binds1 (ps := ["self", "name", "bases", "fields", "methods", "closed", "lent"]) 3 1 (by simp) rfl fun _ _ _ _ _ _ _ us its l1 l2 => (match us, its, l1, l2 with | [_, _, _], [_, _, _, _, _], _, _ => ⟨_, rfl, rfl⟩)
    | 2, _ => exact F.binds1 (ps := ["self", "name", "bases", "fields", "methods", "closed", "lent"]) 4 2 (by simp) rfl fun _ _ _ _ _ _ _ us its l1 l2 => (match us, its, l1, l2 with | [_, _, _, _], [_, _, _, _, _], _, _ => ⟨_, rfl, rfl⟩)
    | 3, _ => exact F.binds1 (ps := ["self", "name", "bases", "fields", "methods", "closed", "lent"]) 5 3 (by simp) rfl fun _ _ _ _ _ _ _ us its l1 l2 => (match us, its, l1, l2 with | [_, _, _, _, _], [_, _, _, _, _], _, _ => ⟨_, rfl, rfl⟩)
    | 4, _ => exact F.binds1 (ps := ["self", "name", "bases", "fields", "methods", "closed", "lent"]) 6 4 (by simp) rfl fun _ _ _ _ _ _ _ us its l1 l2 => (match us, its, l1, l2 with | [_, _, _, _, _, _], [_, _, _, _, _], _, _ => ⟨_, rfl, rfl⟩)
    | 5, _ => exact F.binds1 (ps := ["self", "name", "bases", "fields", "methods", "closed", "lent"]) 7 5 (by simp) rfl fun _ _ _ _ _ _ _ us its l1 l2 => (match us, its, l1, l2 with | [_, _, _, _, _, _, _], [_, _, _, _, _], _, _ => ⟨_, rfl, rfl⟩)
  · obtain ⟨its, hk⟩ := F.kbindsD (ps := ["self", "name", "bases", "fields", "methods", "closed", "lent"]) 1 ["lent", "closed", "methods", "fields", "bases", "name"] (fun us _ ws => us ++ ws.reverse) (by simp) (fun r1 _ r3 => Vals.append r1 (Vals.rev r3)) fun _ _ _ _ _ _ _ us its ws l1 l2 l3 => (match us, its, ws, l1, l2, l3 with | [_], [_, _, _, _, _], [_, _, _, _, _, _], _, _, _ => ⟨_, rfl, rfl⟩)
    exact hk
theorem mkf4 {f fE : Addr} {fd : FuncData} {e4_0 : Addr} (z4_0 : EmT K e4_0) (F : FunD K "__init__" "Routine.__init__" (defArgs sI4) (defBody sI4) (defScope sI4) [.ref e4_0, .non, .non] [] f fd) (D : ClK K mg "Routine" ((mkE CS).C 4) f fE ["name", "params", "result", "body"]) : MkF P w K mg base (mkE CS) 4 "Routine" ["self", "name", "params", "result", "body"] ["body", "result", "params", "name"] [.ref e4_0, .non, .non] [.tup [], .non, .non] f fd := by
  refine ⟨D.M, okI4 F D.T.cl D.no, D.gm, fun j H => HasA.drop j (HasA.cons z4_0.has (HasA.cons .non (HasA.cons .non HasA.nil))), fun j hj => ?_, ?_⟩
  · match j, hj with
    | 0, _ => exact F.binds1 (ps := ["self", "name", "params", "result", "body"]) 2 0 (by simp) rfl fun _ _ _ _ _ _ _ us its l1 l2 => (match us, its, l1, l2 with | [_, _], [_, _, _], _, _ => ⟨_, rfl, rfl⟩)
    | 1, _ => exact F.binds1 (ps := ["self", "name", "params", "result", "body"]) 3 1 (by simp) rfl fun _ _ _ _ _ _ _ us its l1 l2 => (match us, its, l1, l2 with | [_, _, _], [_, _, _], _, _ => ⟨_, rfl, rfl⟩)
    | 2, _ => exact F.binds1 (ps := ["self", "name", "params", "result", "body"]) 4 2 (by simp) rfl fun _ _ _ _ _ _ _ us its l1 l2 => (match us, its, l1, l2 with | [_, _, _, _], [_, _, _], _, _ => ⟨_, rfl, rfl⟩)
    | 3, _ => exact F.binds1 (ps := ["self", "name", "params", "result", "body"]) 5 3 (by simp) rfl fun _ _ _ _ _ _ _ us its l1 l2 => (match us, its, l1, l2 with | [_, _, _, _, _], [_, _, _], _, _ => ⟨_, rfl, rfl⟩)
  · obtain ⟨its, hk⟩ := F.kbindsD (ps := ["self", "name", "params", "result", "body"]) 1 ["body", "result", "params", "name"] (fun us _ ws => us ++ ws.reverse) (by simp) (fun r1 _ r3 => Vals.append r1 (Vals.rev r3)) fun _ _ _ _ _ _ _ us its ws l1 l2 l3 => (match us, its, ws, l1, l2, l3 with | [_], [_, _, _], [_, _, _, _], _, _, _ => ⟨_, rfl, rfl⟩)
    exact hk
end
set_option maxHeartbeats 8000000 in
theorem all_mk {l : PySem.W.OpenLaw} {w : World} {K : PySem.W.Frag} {h : Heap} {mg : Str → Option Value} {fa : Addr} (X : K.In h) (G : h.Ns mainGlobals mg) (hfa : mg "law" = some (.ref fa))
    (hn : PySem.W.specialIn K (.builtin "object.__class__") "__get__" = some (some (.builtin "getset_descriptor.__get__"))) (ht : PySem.W.takesIn K (.builtin "object.__class__") = some true) (z1 : PySem.W.nsIn K mainGlobals "isinstance" = some none) (z2 : PySem.W.nsIn K mainGlobals "enumerate" = some none) (z5 : PySem.W.nsIn K mainGlobals "int" = some none)
    {C0 fI0 fE0 : Addr} {gI0 : FuncData} (D0 : ClK K mg "Field" C0 fI0 fE0 ["name", "form", "start", "shown"])  (FI0 : FunD K "__init__" "Field.__init__" (defArgs sI0) (defBody sI0) (defScope sI0) [.int 0, .bl true] [] fI0 gI0)
    {gE0 : FuncData} (FE0 : Fun K "__eq__" "Field.__eq__" sE0 fE0 gE0)
    {fP0 : Addr} {gP0 : FuncData} (FP0 : Fun K "parts" "Field.parts" sP0 fP0 gP0) (mP0 : Meth K C0 "parts" fP0)
    {C1 fI1 fE1 : Addr} {gI1 : FuncData} (D1 : ClK K mg "Body" C1 fI1 fE1 ["variables", "steps"]) {e1_0 : Addr} (z1_0 : EmT K e1_0) {e1_1 : Addr} (z1_1 : EmT K e1_1) (FI1 : FunD K "__init__" "Body.__init__" (defArgs sI1) (defBody sI1) (defScope sI1) [.ref e1_0, .ref e1_1] [] fI1 gI1)
    {gE1 : FuncData} (FE1 : Fun K "__eq__" "Body.__eq__" sE1 fE1 gE1)
    {C2 fI2 fE2 : Addr} {gI2 : FuncData} (D2 : ClK K mg "Method" C2 fI2 fE2 ["name", "kind", "params", "result", "body", "shown"]) {e2_0 : Addr} (z2_0 : EmT K e2_0) (FI2 : FunD K "__init__" "Method.__init__" (defArgs sI2) (defBody sI2) (defScope sI2) [.ref e2_0, .non, .non, .bl true] [] fI2 gI2)
    {gE2 : FuncData} (FE2 : Fun K "__eq__" "Method.__eq__" sE2 fE2 gE2)
    {fP2 : Addr} {gP2 : FuncData} (FP2 : Fun K "parts" "Method.parts" sP2 fP2 gP2) (mP2 : Meth K C2 "parts" fP2)
    {C3 fI3 fE3 : Addr} {gI3 : FuncData} (D3 : ClK K mg "Class" C3 fI3 fE3 ["name", "bases", "fields", "methods", "closed", "lent"]) {e3_0 : Addr} (z3_0 : EmT K e3_0) {e3_1 : Addr} (z3_1 : EmT K e3_1) {e3_2 : Addr} (z3_2 : EmT K e3_2) (FI3 : FunD K "__init__" "Class.__init__" (defArgs sI3) (defBody sI3) (defScope sI3) [.ref e3_0, .ref e3_1, .ref e3_2, .bl false, .bl false] [] fI3 gI3)
    {gE3 : FuncData} (FE3 : Fun K "__eq__" "Class.__eq__" sE3 fE3 gE3)
    {fP3 : Addr} {gP3 : FuncData} (FP3 : Fun K "parts" "Class.parts" sP3 fP3 gP3) (mP3 : Meth K C3 "parts" fP3)
    {C4 fI4 fE4 : Addr} {gI4 : FuncData} (D4 : ClK K mg "Routine" C4 fI4 fE4 ["name", "params", "result", "body"]) {e4_0 : Addr} (z4_0 : EmT K e4_0) (FI4 : FunD K "__init__" "Routine.__init__" (defArgs sI4) (defBody sI4) (defScope sI4) [.ref e4_0, .non, .non] [] fI4 gI4)
    {gE4 : FuncData} (FE4 : Fun K "__eq__" "Routine.__eq__" sE4 fE4 gE4)
    {fP4 : Addr} {gP4 : FuncData} (FP4 : Fun K "parts" "Routine.parts" sP4 fP4 gP4) (mP4 : Meth K C4 "parts" fP4)
    (nd : ([C0, C1, C2, C3, C4] : List Addr).Nodup) (small : ∀ a ∈ ([C0, C1, C2, C3, C4] : List Addr), a < 1000000)
    {f0 : Addr} {oc0 kV0 dc0 pm0 cd0 ct0 : Value} {od0 an0 : Option Addr} {sl0 : Array (Option Value)} (a0 : PySem.W.nsIn K mainGlobals "_law_draw" = some (some (.ref f0))) (l0 : K.lookup f0 = some ⟨oc0, od0, .func (PySem.W.fnOf "_law_draw" "_law_draw" (defArgs sDraw) (defBody sDraw) (defScope sDraw) .none kV0 dc0 pm0 an0 cd0 ct0), sl0⟩) (c0 : PySem.W.codeIn K cd0 "_law_draw" = true) (k0 : PySem.W.keepIn K (.ref f0) = true)
    {f1 : Addr} {oc1 kV1 dc1 pm1 cd1 ct1 : Value} {od1 an1 : Option Addr} {sl1 : Array (Option Value)} (a1 : PySem.W.nsIn K mainGlobals "_law_unlike_right" = some (some (.ref f1))) (l1 : K.lookup f1 = some ⟨oc1, od1, .func (PySem.W.fnOf "_law_unlike_right" "_law_unlike_right" (defArgs sUnlike) (defBody sUnlike) (defScope sUnlike) .none kV1 dc1 pm1 an1 cd1 ct1), sl1⟩) (c1 : PySem.W.codeIn K cd1 "_law_unlike_right" = true) (k1 : PySem.W.keepIn K (.ref f1) = true)
    {f2 : Addr} {oc2 kV2 dc2 pm2 cd2 ct2 : Value} {od2 an2 : Option Addr} {sl2 : Array (Option Value)} (a2 : PySem.W.nsIn K mainGlobals "_law_field_right" = some (some (.ref f2))) (l2 : K.lookup f2 = some ⟨oc2, od2, .func (PySem.W.fnOf "_law_field_right" "_law_field_right" (defArgs sField) (defBody sField) (defScope sField) .none kV2 dc2 pm2 an2 cd2 ct2), sl2⟩) (c2 : PySem.W.codeIn K cd2 "_law_field_right" = true) (k2 : PySem.W.keepIn K (.ref f2) = true)
    {f3 : Addr} {oc3 kV3 dc3 pm3 cd3 ct3 : Value} {od3 an3 : Option Addr} {sl3 : Array (Option Value)} (a3 : PySem.W.nsIn K mainGlobals "_law_body_right" = some (some (.ref f3))) (l3 : K.lookup f3 = some ⟨oc3, od3, .func (PySem.W.fnOf "_law_body_right" "_law_body_right" (defArgs sBody) (defBody sBody) (defScope sBody) .none kV3 dc3 pm3 an3 cd3 ct3), sl3⟩) (c3 : PySem.W.codeIn K cd3 "_law_body_right" = true) (k3 : PySem.W.keepIn K (.ref f3) = true)
    {f4 : Addr} {oc4 kV4 dc4 pm4 cd4 ct4 : Value} {od4 an4 : Option Addr} {sl4 : Array (Option Value)} (a4 : PySem.W.nsIn K mainGlobals "_law_method_right" = some (some (.ref f4))) (l4 : K.lookup f4 = some ⟨oc4, od4, .func (PySem.W.fnOf "_law_method_right" "_law_method_right" (defArgs sMethod) (defBody sMethod) (defScope sMethod) .none kV4 dc4 pm4 an4 cd4 ct4), sl4⟩) (c4 : PySem.W.codeIn K cd4 "_law_method_right" = true) (k4 : PySem.W.keepIn K (.ref f4) = true)
    {f5 : Addr} {oc5 kV5 dc5 pm5 cd5 ct5 : Value} {od5 an5 : Option Addr} {sl5 : Array (Option Value)} (a5 : PySem.W.nsIn K mainGlobals "_law_class_right" = some (some (.ref f5))) (l5 : K.lookup f5 = some ⟨oc5, od5, .func (PySem.W.fnOf "_law_class_right" "_law_class_right" (defArgs sClass) (defBody sClass) (defScope sClass) .none kV5 dc5 pm5 an5 cd5 ct5), sl5⟩) (c5 : PySem.W.codeIn K cd5 "_law_class_right" = true) (k5 : PySem.W.keepIn K (.ref f5) = true)
    {f6 : Addr} {oc6 kV6 dc6 pm6 cd6 ct6 : Value} {od6 an6 : Option Addr} {sl6 : Array (Option Value)} (a6 : PySem.W.nsIn K mainGlobals "_law_routine_right" = some (some (.ref f6))) (l6 : K.lookup f6 = some ⟨oc6, od6, .func (PySem.W.fnOf "_law_routine_right" "_law_routine_right" (defArgs sRoutine) (defBody sRoutine) (defScope sRoutine) .none kV6 dc6 pm6 an6 cd6 ct6), sl6⟩) (c6 : PySem.W.codeIn K cd6 "_law_routine_right" = true) (k6 : PySem.W.keepIn K (.ref f6) = true)
    {f7 : Addr} {oc7 kV7 dc7 pm7 cd7 ct7 : Value} {od7 an7 : Option Addr} {sl7 : Array (Option Value)} (a7 : PySem.W.nsIn K mainGlobals "_law_right" = some (some (.ref f7))) (l7 : K.lookup f7 = some ⟨oc7, od7, .func (PySem.W.fnOf "_law_right" "_law_right" (defArgs sRight) (defBody sRight) (defScope sRight) .none kV7 dc7 pm7 an7 cd7 ct7), sl7⟩) (c7 : PySem.W.codeIn K cd7 "_law_right" = true) (k7 : PySem.W.keepIn K (.ref f7) = true)
    {f8 : Addr} {oc8 kV8 dc8 pm8 cd8 ct8 : Value} {od8 an8 : Option Addr} {sl8 : Array (Option Value)} (a8 : PySem.W.nsIn K mainGlobals "law" = some (some (.ref f8))) (l8 : K.lookup f8 = some ⟨oc8, od8, .func (PySem.W.fnOf "law" "law" (defArgs sLaw) (defBody sLaw) (defScope sLaw) .none kV8 dc8 pm8 an8 cd8 ct8), sl8⟩) (c8 : PySem.W.codeIn K cd8 "law" = true) (k8 : PySem.W.keepIn K (.ref f8) = true)
    : ∃ fd : FuncData, (∀ (s : Shared) (v : Value), BindsTo s fd ⟨[v], []⟩ [("_law_script", v)]) ∧ ∀ base : Heap, K.In base → base.Ns mainGlobals mg → FnOk l.prog w K mg base CX0 16 fa fd ["_law_script"] (spLaw K) := by
  have e := hfa.symm.trans (PySem.W.mg_of X G a8); cases e
  have XGK : XG K := ⟨hn, ht⟩
  have hI : mg "isinstance" = none := PySem.W.mg_none_of X G z1
  have hE : (mkE [C0, C1, C2, C3, C4]).Inj := mkE_inj nd small
  have T : ∀ c, c < 5 → Tyf K ((mkE [C0, C1, C2, C3, C4]).C c) := fun c hc => match c, hc with | 0, _ => D0.T | 1, _ => D1.T | 2, _ => D2.T | 3, _ => D3.T | 4, _ => D4.T | n + 5, h => absurd h (by omega)
  let fO : Nat → Addr := fun c => [fE0, fE1, fE2, fE3, fE4].getD c 0
  let gO : Nat → FuncData := fun c => [gE0, gE1, gE2, gE3, gE4].getD c gE0
  have T0 := fun_mk (st := sDraw) l0 c0 k0
  have b0 := T0.binds (ps := ["_law_well", "_law_many"]) fun _ _ _ _ _ _ us hl => match us, hl with | [_, _], _ => rfl
  have T1 := fun_mk (st := sUnlike) l1 c1 k1
  have b1 := T1.binds (ps := ["_law_one", "_law_others"]) fun _ _ _ _ _ _ us hl => match us, hl with | [_, _], _ => rfl
  have T2 := fun_mk (st := sField) l2 c2 k2
  have b2 := T2.binds (ps := ["_law_a", "_law_b", "_law_c", "_law_d"]) fun _ _ _ _ _ _ us hl => match us, hl with | [_, _, _, _], _ => rfl
  have T3 := fun_mk (st := sBody) l3 c3 k3
  have b3 := T3.binds (ps := ["_law_a", "_law_b", "_law_c"]) fun _ _ _ _ _ _ us hl => match us, hl with | [_, _, _], _ => rfl
  have T4 := fun_mk (st := sMethod) l4 c4 k4
  have b4 := T4.binds (ps := ["_law_a", "_law_b", "_law_d", "_law_core"]) fun _ _ _ _ _ _ us hl => match us, hl with | [_, _, _, _], _ => rfl
  have T5 := fun_mk (st := sClass) l5 c5 k5
  have b5 := T5.binds (ps := ["_law_d", "_law_cell", "_law_call"]) fun _ _ _ _ _ _ us hl => match us, hl with | [_, _, _], _ => rfl
  have T6 := fun_mk (st := sRoutine) l6 c6 k6
  have b6 := T6.binds (ps := ["_law_a", "_law_b", "_law_core"]) fun _ _ _ _ _ _ us hl => match us, hl with | [_, _, _], _ => rfl
  have T7 := fun_mk (st := sRight) l7 c7 k7
  have b7 := T7.binds (ps := ["_law_well"]) fun _ _ _ _ _ _ us hl => match us, hl with | [_], _ => rfl
  have T8 := fun_mk (st := sLaw) l8 c8 k8
  have bE0 := FE0.binds (ps := ["self", "other"]) fun _ _ _ _ _ _ us hl => match us, hl with | [_, _], _ => rfl
  have bP0 := FP0.binds (ps := ["self"]) fun _ _ _ _ _ _ us hl => match us, hl with | [_], _ => rfl
  have bE1 := FE1.binds (ps := ["self", "other"]) fun _ _ _ _ _ _ us hl => match us, hl with | [_, _], _ => rfl
  have bE2 := FE2.binds (ps := ["self", "other"]) fun _ _ _ _ _ _ us hl => match us, hl with | [_, _], _ => rfl
  have bP2 := FP2.binds (ps := ["self"]) fun _ _ _ _ _ _ us hl => match us, hl with | [_], _ => rfl
  have bE3 := FE3.binds (ps := ["self", "other"]) fun _ _ _ _ _ _ us hl => match us, hl with | [_, _], _ => rfl
  have bP3 := FP3.binds (ps := ["self"]) fun _ _ _ _ _ _ us hl => match us, hl with | [_], _ => rfl
  have bE4 := FE4.binds (ps := ["self", "other"]) fun _ _ _ _ _ _ us hl => match us, hl with | [_, _], _ => rfl
  have bP4 := FP4.binds (ps := ["self"]) fun _ _ _ _ _ _ us hl => match us, hl with | [_], _ => rfl
  refine ⟨PySem.W.fnOf "law" "law" (defArgs sLaw) (defBody sLaw) (defScope sLaw) .none kV8 dc8 pm8 an8 cd8 ct8, fun s v => .of_eq rfl, fun base _ _ => ?_⟩
  have O0 : OwnF l.prog w K mg base (mkE [C0, C1, C2, C3, C4]) 0 (fO 0) (gO 0) := ⟨okE0 (P := l.prog) (w := w) (base := base) (CS := [C0, C1, C2, C3, C4]) (fO := fO) (gO := gO) FE0 hI D0.gm XGK hE T (okP0 (P := l.prog) (w := w) (K := K) (mg := mg) (base := base) (CS := [C0, C1, C2, C3, C4]) FP0 D0.T.cl D0.no) mP0 bP0 (fun c hc hl => match c, hc, hl with | 0, _, hl => absurd hl (show ¬ (5 : Nat) ≤ 0 by decide) | 1, _, hl => absurd hl (show ¬ (6 : Nat) ≤ 0 by decide) | 2, _, hl => absurd hl (show ¬ (8 : Nat) ≤ 0 by decide) | 3, _, hl => absurd hl (show ¬ (11 : Nat) ≤ 0 by decide) | 4, _, hl => absurd hl (show ¬ (8 : Nat) ≤ 0 by decide) | n + 5, h, _ => absurd h (by omega)), D0.hs, D0.hf, bE0, D0.ne⟩
  have O1 : OwnF l.prog w K mg base (mkE [C0, C1, C2, C3, C4]) 1 (fO 1) (gO 1) := ⟨okE1 (P := l.prog) (w := w) (base := base) (CS := [C0, C1, C2, C3, C4]) (fO := fO) (gO := gO) FE1 hI D1.gm XGK hE T D1.no (fun c hc hl => match c, hc, hl with | 0, _, hl => absurd hl (show ¬ (5 : Nat) ≤ 4 by decide) | 1, _, hl => absurd hl (show ¬ (6 : Nat) ≤ 4 by decide) | 2, _, hl => absurd hl (show ¬ (8 : Nat) ≤ 4 by decide) | 3, _, hl => absurd hl (show ¬ (11 : Nat) ≤ 4 by decide) | 4, _, hl => absurd hl (show ¬ (8 : Nat) ≤ 4 by decide) | n + 5, h, _ => absurd h (by omega)), D1.hs, D1.hf, bE1, D1.ne⟩
  have O2 : OwnF l.prog w K mg base (mkE [C0, C1, C2, C3, C4]) 2 (fO 2) (gO 2) := ⟨okE2 (P := l.prog) (w := w) (base := base) (CS := [C0, C1, C2, C3, C4]) (fO := fO) (gO := gO) FE2 hI D2.gm XGK hE T (okP2 (P := l.prog) (w := w) (K := K) (mg := mg) (base := base) (CS := [C0, C1, C2, C3, C4]) FP2 D2.T.cl D2.no) mP2 bP2 (fun c hc hl => match c, hc, hl with | 0, _, _ => O0 | 1, _, _ => O1 | 2, _, hl => absurd hl (show ¬ (8 : Nat) ≤ 6 by decide) | 3, _, hl => absurd hl (show ¬ (11 : Nat) ≤ 6 by decide) | 4, _, hl => absurd hl (show ¬ (8 : Nat) ≤ 6 by decide) | n + 5, h, _ => absurd h (by omega)), D2.hs, D2.hf, bE2, D2.ne⟩
  have O4 : OwnF l.prog w K mg base (mkE [C0, C1, C2, C3, C4]) 4 (fO 4) (gO 4) := ⟨okE4 (P := l.prog) (w := w) (base := base) (CS := [C0, C1, C2, C3, C4]) (fO := fO) (gO := gO) FE4 hI D4.gm XGK hE T (okP4 (P := l.prog) (w := w) (K := K) (mg := mg) (base := base) (CS := [C0, C1, C2, C3, C4]) FP4 D4.T.cl D4.no) mP4 bP4 (fun c hc hl => match c, hc, hl with | 0, _, _ => O0 | 1, _, _ => O1 | 2, _, hl => absurd hl (show ¬ (8 : Nat) ≤ 6 by decide) | 3, _, hl => absurd hl (show ¬ (11 : Nat) ≤ 6 by decide) | 4, _, hl => absurd hl (show ¬ (8 : Nat) ≤ 6 by decide) | n + 5, h, _ => absurd h (by omega)), D4.hs, D4.hf, bE4, D4.ne⟩
  have O3 : OwnF l.prog w K mg base (mkE [C0, C1, C2, C3, C4]) 3 (fO 3) (gO 3) := ⟨okE3 (P := l.prog) (w := w) (base := base) (CS := [C0, C1, C2, C3, C4]) (fO := fO) (gO := gO) FE3 hI D3.gm XGK hE T (okP3 (P := l.prog) (w := w) (K := K) (mg := mg) (base := base) (CS := [C0, C1, C2, C3, C4]) FP3 D3.T.cl D3.no) mP3 bP3 (fun c hc hl => match c, hc, hl with | 0, _, _ => O0 | 1, _, _ => O1 | 2, _, _ => O2 | 3, _, hl => absurd hl (show ¬ (11 : Nat) ≤ 9 by decide) | 4, _, _ => O4 | n + 5, h, _ => absurd h (by omega)), D3.hs, D3.hf, bE3, D3.ne⟩
  have O : ∀ c, c < 5 → (mkE [C0, C1, C2, C3, C4]).lv c ≤ 11 → OwnF l.prog w K mg base (mkE [C0, C1, C2, C3, C4]) c (fO c) (gO c) := fun c hc _ => match c, hc with | 0, _ => O0 | 1, _ => O1 | 2, _ => O2 | 3, _ => O3 | 4, _ => O4 | n + 5, h => absurd h (by omega)
  have M0 := mkf0 (P := l.prog) (w := w) (base := base) (CS := [C0, C1, C2, C3, C4])  FI0 D0
  have M1 := mkf1 (P := l.prog) (w := w) (base := base) (CS := [C0, C1, C2, C3, C4]) z1_0 z1_1 FI1 D1
  have M2 := mkf2 (P := l.prog) (w := w) (base := base) (CS := [C0, C1, C2, C3, C4]) z2_0 FI2 D2
  have M3 := mkf3 (P := l.prog) (w := w) (base := base) (CS := [C0, C1, C2, C3, C4]) z3_0 z3_1 z3_2 FI3 D3
  have M4 := mkf4 (P := l.prog) (w := w) (base := base) (CS := [C0, C1, C2, C3, C4]) z4_0 FI4 D4
  have R0 : FnOk l.prog w K mg base CX0 1 f0 _ _ spDraw := okDraw T0 (PySem.W.mg_none_of X G z5)
  have R1 := okUnlike (P := l.prog) (w := w) (base := base) (CS := [C0, C1, C2, C3, C4]) T1 XGK hE T O
  have R2 := okField (P := l.prog) (w := w) (base := base) (CS := [C0, C1, C2, C3, C4]) T2 XGK hE T O M0 rfl M1 rfl M2 rfl M3 rfl M4 rfl D0.no D1.no D2.no D3.no D4.no R1 (PySem.W.mg_of X G a1) k1 b1
  have R3 := okBody (P := l.prog) (w := w) (base := base) (CS := [C0, C1, C2, C3, C4]) T3 XGK hE T O M0 rfl M1 rfl M2 rfl M3 rfl M4 rfl D0.no D1.no D2.no D3.no D4.no R1 (PySem.W.mg_of X G a1) k1 b1
  have R4 := okMethod (P := l.prog) (w := w) (base := base) (CS := [C0, C1, C2, C3, C4]) T4 XGK hE T O M0 rfl M1 rfl M2 rfl M3 rfl M4 rfl D0.no D1.no D2.no D3.no D4.no R1 (PySem.W.mg_of X G a1) k1 b1
  have R5 := okClass (P := l.prog) (w := w) (base := base) (CS := [C0, C1, C2, C3, C4]) T5 XGK hE T O M0 rfl M1 rfl M2 rfl M3 rfl M4 rfl D0.no D1.no D2.no D3.no D4.no R1 (PySem.W.mg_of X G a1) k1 b1
  have R6 := okRoutine (P := l.prog) (w := w) (base := base) (CS := [C0, C1, C2, C3, C4]) T6 XGK hE T O M0 rfl M1 rfl M2 rfl M3 rfl M4 rfl D0.no D1.no D2.no D3.no D4.no R1 (PySem.W.mg_of X G a1) k1 b1
  have R7 := okRight (P := l.prog) (w := w) (base := base) (CS := [C0, C1, C2, C3, C4]) T7 M0 rfl M1 rfl M2 rfl R0 (PySem.W.mg_of X G a0) k0 b0 R2 (PySem.W.mg_of X G a2) k2 b2 R3 (PySem.W.mg_of X G a3) k3 b3 R4 (PySem.W.mg_of X G a4) k4 b4 R5 (PySem.W.mg_of X G a5) k5 b5 R6 (PySem.W.mg_of X G a6) k6 b6
  exact okLaw T8 (PySem.W.mg_none_of X G z5) (PySem.W.mg_none_of X G z2) R7 (PySem.W.mg_of X G a7) k7 b7
theorem walk {l : PySem.W.OpenLaw} {q : Program} {loose : List Str} {XP : (Str → Option Value) → Heap → Prop} {YP : World → Heap → Prop} {d : DefRec} {K : Params → PySem.W.Frag} (hn : l.most = some 63) (hdf : d.params.defaults = [])
    (hY : ∀ (w : World) (h : Heap), YP w h → (K w.params).In h)
    (F : ∀ (w : World) (mg : Str → Option Value) (fa : Addr) (h : Heap), (K w.params).In h → h.Ns mainGlobals mg → mg d.name = some (.ref fa) →
      ∃ fd : FuncData, (∀ (s : Shared) (u : Value), BindsTo s fd ⟨[u], []⟩ [("_law_script", u)]) ∧ ∀ base : Heap, (K w.params).In base → base.Ns mainGlobals mg → FnOk l.prog w (K w.params) mg base CX0 16 fa fd ["_law_script"] (spLaw (K w.params))) :
    PySem.W.WalkO q loose XP YP l.row.toRowW d [] (fun f vs => PySem.call f vs) :=
  L2.walk_of (n := 63) (k := 16) (x := "_law_script") (CX := fun _ => CX0) (sp := fun w => spLaw (K w.params)) hn (by decide) hdf ⟨rfl, by decide, by decide⟩ hY F (fun _ _ a ns hl _ hS => ⟨a, ns, rfl, hS, hl, fun _ => rfl⟩) fun _ _ _ _ _ z => z
end K01


open PySem PySem.W PyProof.Rows in
set_option maxRecDepth 100000 in
set_option maxHeartbeats 0 in
theorem PySem.Challenge.cw_oldclients_k01_declared_things_holds : PySem.Challenge.rw_oldclients_k01_declared_things.Holds := by
  w_on; o_law; k_head; (case hw => w_witness2)
  k_fill
  refine K01.walk (l := PySem.Challenge.rw_oldclients_k01_declared_things) rfl rfl (fun w h Y => PySem.W.kIn_of Y) ?F
  case F =>
    intro w mg fa h KX G hmg
    refine' K01.all_mk KX G hmg ?hn ?ht ?z1 ?z2 ?z5
      (K01.clk (nm := "Field") (ns := ["name", "form", "start", "shown"]) KX G ?aC0 ?pg0 ?hd0 ?po0 ?sa0 ?ca0 ?ty0 ?hcd0 ?hm0 ?mk0 ?iC0 ?fI0 ?kp0 ?hs0 ?hf0 ?ne0 ⟨?n0_0, ?n0_1, ?n0_2, ?n0_3, trivial⟩)
      (K01.fund (st := K01.sI0) ?il0 ?ic0 ?ik0 ?it0 ?iv0 (by simp))
      (L2.fun_mk (x := "__eq__") (qual := "Field.__eq__") (st := K01.sE0) ?el0 ?ec0 ?ek0)
      (L2.fun_mk (x := "parts") (qual := "Field.parts") (st := K01.sP0) ?pl0 ?pc0 ?pk0) ⟨?pa0, ?pf0, ?pq0⟩
      (K01.clk (nm := "Body") (ns := ["variables", "steps"]) KX G ?aC1 ?pg1 ?hd1 ?po1 ?sa1 ?ca1 ?ty1 ?hcd1 ?hm1 ?mk1 ?iC1 ?fI1 ?kp1 ?hs1 ?hf1 ?ne1 ⟨?n1_0, ?n1_1, trivial⟩)
      (K01.emt ?em1_0)
      (K01.emt ?em1_1)
      (K01.fund (st := K01.sI1) ?il1 ?ic1 ?ik1 ?it1 ?iv1 (by simp))
      (L2.fun_mk (x := "__eq__") (qual := "Body.__eq__") (st := K01.sE1) ?el1 ?ec1 ?ek1)
      (K01.clk (nm := "Method") (ns := ["name", "kind", "params", "result", "body", "shown"]) KX G ?aC2 ?pg2 ?hd2 ?po2 ?sa2 ?ca2 ?ty2 ?hcd2 ?hm2 ?mk2 ?iC2 ?fI2 ?kp2 ?hs2 ?hf2 ?ne2 ⟨?n2_0, ?n2_1, ?n2_2, ?n2_3, ?n2_4, ?n2_5, trivial⟩)
      (K01.emt ?em2_0)
      (K01.fund (st := K01.sI2) ?il2 ?ic2 ?ik2 ?it2 ?iv2 (by simp))
      (L2.fun_mk (x := "__eq__") (qual := "Method.__eq__") (st := K01.sE2) ?el2 ?ec2 ?ek2)
      (L2.fun_mk (x := "parts") (qual := "Method.parts") (st := K01.sP2) ?pl2 ?pc2 ?pk2) ⟨?pa2, ?pf2, ?pq2⟩
      (K01.clk (nm := "Class") (ns := ["name", "bases", "fields", "methods", "closed", "lent"]) KX G ?aC3 ?pg3 ?hd3 ?po3 ?sa3 ?ca3 ?ty3 ?hcd3 ?hm3 ?mk3 ?iC3 ?fI3 ?kp3 ?hs3 ?hf3 ?ne3 ⟨?n3_0, ?n3_1, ?n3_2, ?n3_3, ?n3_4, ?n3_5, trivial⟩)
      (K01.emt ?em3_0)
      (K01.emt ?em3_1)
      (K01.emt ?em3_2)
      (K01.fund (st := K01.sI3) ?il3 ?ic3 ?ik3 ?it3 ?iv3 (by simp))
      (L2.fun_mk (x := "__eq__") (qual := "Class.__eq__") (st := K01.sE3) ?el3 ?ec3 ?ek3)
      (L2.fun_mk (x := "parts") (qual := "Class.parts") (st := K01.sP3) ?pl3 ?pc3 ?pk3) ⟨?pa3, ?pf3, ?pq3⟩
      (K01.clk (nm := "Routine") (ns := ["name", "params", "result", "body"]) KX G ?aC4 ?pg4 ?hd4 ?po4 ?sa4 ?ca4 ?ty4 ?hcd4 ?hm4 ?mk4 ?iC4 ?fI4 ?kp4 ?hs4 ?hf4 ?ne4 ⟨?n4_0, ?n4_1, ?n4_2, ?n4_3, trivial⟩)
      (K01.emt ?em4_0)
      (K01.fund (st := K01.sI4) ?il4 ?ic4 ?ik4 ?it4 ?iv4 (by simp))
      (L2.fun_mk (x := "__eq__") (qual := "Routine.__eq__") (st := K01.sE4) ?el4 ?ec4 ?ek4)
      (L2.fun_mk (x := "parts") (qual := "Routine.parts") (st := K01.sP4) ?pl4 ?pc4 ?pk4) ⟨?pa4, ?pf4, ?pq4⟩ ?nd ?sm ?a0 ?l0 ?c0 ?k0 ?a1 ?l1 ?c1 ?k1 ?a2 ?l2 ?c2 ?k2 ?a3 ?l3 ?c3 ?k3 ?a4 ?l4 ?c4 ?k4 ?a5 ?l5 ?c5 ?k5 ?a6 ?l6 ?c6 ?k6 ?a7 ?l7 ?c7 ?k7 ?a8 ?l8 ?c8 ?k8
    (case hn => k_is)
    (case ht => k_is)
    (case z1 => k_is)
    (case z2 => k_is)
    (case z5 => k_is)
    (case aC0 => k_is); (case pg0 => k_is); (case hd0 => k_is); (case po0 => k_is); (case sa0 => k_is); (case ca0 => k_is); (case ty0 => k_is); (case hcd0 => k_is); (case hm0 => rfl); (case mk0 => k_is); (case iC0 => k_is); (case fI0 => k_is); (case kp0 => k_is); (case hs0 => k_is); (case hf0 => k_is); (case ne0 => k_is); (case n0_0 => k_is); (case n0_1 => k_is); (case n0_2 => k_is); (case n0_3 => k_is)
    (case pa0 => k_is); (case pf0 => k_is); (case pq0 => k_is)
    (case il0 => k_is); (case ic0 => k_is); (case ik0 => k_is); (case it0 => k_is); (case iv0 => exact (.cons ⟨_, rfl⟩ (.cons rfl .nil))); (case el0 => k_is); (case ec0 => k_is); (case ek0 => k_is)
    (case pl0 => k_is); (case pc0 => k_is); (case pk0 => k_is)
    (case aC1 => k_is); (case pg1 => k_is); (case hd1 => k_is); (case po1 => k_is); (case sa1 => k_is); (case ca1 => k_is); (case ty1 => k_is); (case hcd1 => k_is); (case hm1 => rfl); (case mk1 => k_is); (case iC1 => k_is); (case fI1 => k_is); (case kp1 => k_is); (case hs1 => k_is); (case hf1 => k_is); (case ne1 => k_is); (case n1_0 => k_is); (case n1_1 => k_is)
    (case il1 => k_is); (case ic1 => k_is); (case ik1 => k_is); (case it1 => k_is); (case iv1 => exact (.cons rfl (.cons rfl .nil))); (case em1_0 => k_is); (case em1_1 => k_is); (case el1 => k_is); (case ec1 => k_is); (case ek1 => k_is)
    (case aC2 => k_is); (case pg2 => k_is); (case hd2 => k_is); (case po2 => k_is); (case sa2 => k_is); (case ca2 => k_is); (case ty2 => k_is); (case hcd2 => k_is); (case hm2 => rfl); (case mk2 => k_is); (case iC2 => k_is); (case fI2 => k_is); (case kp2 => k_is); (case hs2 => k_is); (case hf2 => k_is); (case ne2 => k_is); (case n2_0 => k_is); (case n2_1 => k_is); (case n2_2 => k_is); (case n2_3 => k_is); (case n2_4 => k_is); (case n2_5 => k_is)
    (case pa2 => k_is); (case pf2 => k_is); (case pq2 => k_is)
    (case il2 => k_is); (case ic2 => k_is); (case ik2 => k_is); (case it2 => k_is); (case iv2 => exact (.cons rfl (.cons rfl (.cons rfl (.cons rfl .nil))))); (case em2_0 => k_is); (case el2 => k_is); (case ec2 => k_is); (case ek2 => k_is)
    (case pl2 => k_is); (case pc2 => k_is); (case pk2 => k_is)
    (case aC3 => k_is); (case pg3 => k_is); (case hd3 => k_is); (case po3 => k_is); (case sa3 => k_is); (case ca3 => k_is); (case ty3 => k_is); (case hcd3 => k_is); (case hm3 => rfl); (case mk3 => k_is); (case iC3 => k_is); (case fI3 => k_is); (case kp3 => k_is); (case hs3 => k_is); (case hf3 => k_is); (case ne3 => k_is); (case n3_0 => k_is); (case n3_1 => k_is); (case n3_2 => k_is); (case n3_3 => k_is); (case n3_4 => k_is); (case n3_5 => k_is)
    (case pa3 => k_is); (case pf3 => k_is); (case pq3 => k_is)
    (case il3 => k_is); (case ic3 => k_is); (case ik3 => k_is); (case it3 => k_is); (case iv3 => exact (.cons rfl (.cons rfl (.cons rfl (.cons rfl (.cons rfl .nil)))))); (case em3_0 => k_is); (case em3_1 => k_is); (case em3_2 => k_is); (case el3 => k_is); (case ec3 => k_is); (case ek3 => k_is)
    (case pl3 => k_is); (case pc3 => k_is); (case pk3 => k_is)
    (case aC4 => k_is); (case pg4 => k_is); (case hd4 => k_is); (case po4 => k_is); (case sa4 => k_is); (case ca4 => k_is); (case ty4 => k_is); (case hcd4 => k_is); (case hm4 => rfl); (case mk4 => k_is); (case iC4 => k_is); (case fI4 => k_is); (case kp4 => k_is); (case hs4 => k_is); (case hf4 => k_is); (case ne4 => k_is); (case n4_0 => k_is); (case n4_1 => k_is); (case n4_2 => k_is); (case n4_3 => k_is)
    (case pa4 => k_is); (case pf4 => k_is); (case pq4 => k_is)
    (case il4 => k_is); (case ic4 => k_is); (case ik4 => k_is); (case it4 => k_is); (case iv4 => exact (.cons rfl (.cons rfl (.cons rfl .nil)))); (case em4_0 => k_is); (case el4 => k_is); (case ec4 => k_is); (case ek4 => k_is)
    (case pl4 => k_is); (case pc4 => k_is); (case pk4 => k_is)
    (case nd => decide)
    (case sm => decide)
    (case a0 => k_is); (case l0 => k_is); (case c0 => k_is); (case k0 => k_is)
    (case a1 => k_is); (case l1 => k_is); (case c1 => k_is); (case k1 => k_is)
    (case a2 => k_is); (case l2 => k_is); (case c2 => k_is); (case k2 => k_is)
    (case a3 => k_is); (case l3 => k_is); (case c3 => k_is); (case k3 => k_is)
    (case a4 => k_is); (case l4 => k_is); (case c4 => k_is); (case k4 => k_is)
    (case a5 => k_is); (case l5 => k_is); (case c5 => k_is); (case k5 => k_is)
    (case a6 => k_is); (case l6 => k_is); (case c6 => k_is); (case k6 => k_is)
    (case a7 => k_is); (case l7 => k_is); (case c7 => k_is); (case k7 => k_is)
    (case a8 => k_is); (case l8 => k_is); (case c8 => k_is); (case k8 => k_is)


