import PyProof.Rows.All
import Wide.All
import OpenK.AllK
import Wide.FinOn
import PyProof.EqAt
import PyProof.EqKinds
import PyProof.TupleCall
import KE.KFromBytes
import HandS.Base
import HandS.Call
import HandS.List
import HandS.Ends
import HandS.Exc
import HandS.ExcInit
import HandS.ForMost
import HandS.ForExc
import HandS.ExcIs
import HandS.ExcField
import HandS.IsInst
import HandS.TryMany
import KE.KTryMore
import KE.KExcIs
import HandS.ExcValue
import HandS.HeadHook4
import HandS.Head0
import HandS.Head1
import HandS.Head2
import HandS.HeadEnd
import HandS.Defaults
import HandS.Zip
import HandS.Walk
import HandS.More
import HandS.Iter
import PySem.Challenge.RW_steadynets_k89_errors_of_nets_and_answer
set_option Elab.async false
set_option linter.all false
set_option maxRecDepth 100000
set_option maxHeartbeats 4000000
namespace EV
open PySem PySem.Spec PySem.W PySem.Calls PyProof.Rows PySem.HandSPX Builtin Builtin.ObjectAttr
section
variable {M : Model} {A : Around} {E : Value → Shared → Prop} {h : Heap} {g : Array GenState} {d : Drawn} {t : Nat} {os : OsState}
variable {nm q : Str} {C N : Addr} {bs bm bmB : List Value} {hdct : Bool} {sn : List Str} {sub : List Value} {ab : Bool} {col : Option Bool} {dd : Option Addr} {k0 k1 k2 k3 k5 : Option Value} {B newId initId : String}
theorem chkKw (F : ExcBaseFacts B newId initId bmB) (hT : ∀ Y : String, bm.contains (.type Y) = bmB.contains (.type Y)) {f : Str} {v : Value} {Q : Unit → Shared → Prop}
    (hC : h.get? C = some (excClassObj nm q C N bs bm hdct sn sub ab col dd k0 k1 k2 k3 k5 newId)) (z : Q () ⟨h, g, d, t, os⟩) :
    wpAny M A (checkBuiltinCall newId ⟨[.ref C], [(f, v)]⟩) Q E ⟨h, g, d, t, os⟩ := by
  have c1 : (Value.ref C :: bm).contains (.type B) = true := by
    rw [List.contains_cons, hT, F.hasB, Bool.or_true]
  have c2 := F.noStar
  simp only [checkBuiltinCall, F.newKind, F.newSplit, F.newRow]
  repeat (first
    | refine wpAny_loadPart_at hC ?_
    | (refine wpAny_isSubtype_exc hC ?_
       rw [c1])
    | refine wpAny_staticBase_exc hC ?_
    | refine wpAny_madeBy_exc hC ?_
    | simp only [bne_self_eq_false, Bool.false_eq_true, if_false]
    | wp_step)
  exact z
end
section
variable {prog : Program} {w : World} {A : Around} {E : Value → Shared → Prop} {R : Result → Shared → Prop} {h : Heap} {g : Array GenState} {d : Drawn} {t : Nat} {os : OsState}
variable {nm q : Str} {C N : Addr} {bs bm bmB : List Value} {hdct : Bool} {sn : List Str} {sub : List Value} {ab : Bool} {col : Option Bool} {dd : Option Addr} {k0 k1 k2 k3 k5 : Option Value} {B newId initId : String}
theorem newKw (F : ExcBaseFacts B newId initId bmB) (hT : ∀ Y : String, bm.contains (.type Y) = bmB.contains (.type Y)) {f : Str} {v : Value}
    (hC : h.get? C = some (excClassObj nm q C N bs bm hdct sn sub ab col dd k0 k1 k2 k3 k5 newId))
    (z : R (.ok (.ret (.ref (h.objs.size + 1)))) ⟨(h.push (kdv_tup [])).push (excO C h.objs.size), g, d, t, os⟩) :
    codeAny (model prog w) A (.builtin newId ⟨[.ref C], [(f, v)]⟩) R ⟨h, g, d, t, os⟩ := by
  have c0 := F.ends
  have c1 : (Value.ref C :: bm).contains (.type B) = true := by
    rw [List.contains_cons, hT, F.hasB, Bool.or_true]
  have c2 : (Value.ref C :: bm).contains (.type "AttributeError") = false := by
    rw [List.contains_cons, hT, F.noAttr]
    rfl
  have c3 : (Value.ref C :: bm).contains (.type "NameError") = false := by
    rw [List.contains_cons, hT, F.noName]
    rfl
  refine codeAny_builtinAt F.entry ?_
  unfold Builtin.«BaseException.__new__»
  refine PySem.wpAt_bind ?_
  show PySem.wpAt _ _ _ (stack >>= _) _ _ _
  refine PySem.wpAt_bind (PySem.wpAt_stack fun p below => PySem.wpAt_of_wpAny ?_)
  wp_walk
  refine PySem.wpAt_of_wpAny ?_
  rw [F.owner]
  repeat (first
    | with_reducible refine wpAny_madeHere_exc F.canon hC ?_
    | with_reducible refine wpAny_loadPart_at hC ?_
    | (with_reducible refine wpAny_isSubtype_exc hC ?_
       first | rw [c1] | rw [c2] | rw [c3])
    | wp_step)
  show R _ _
  rw [Heap.size_push]
  exact z
theorem typeCallKw (F : ExcBaseFacts B newId initId bmB) (hT : ∀ Y : String, bm.contains (.type Y) = bmB.contains (.type Y)) {f : Str} {v : Value} {fI : Addr} {Q : Fin → Shared → Prop}
    (hC : h.get? C = some (excClassObj nm q C N bs bm hdct sn sub ab col dd k0 k1 k2 k3 k5 newId))
    (hi : Looks (model prog w) h (typeLookup (.ref C) "__init__") (some (.ref fI)))
    (hb : ∀ me, Looks (model prog w) h (bindSpecial (.ref fI) me) (.ref fI, [me]))
    (z : codeAny (model prog w) A (.call (.ref fI) ⟨[.ref (h.objs.size + 1)], [(f, v)]⟩)
      (fun r s' => match r with
        | .ok (.ret u) => u = .none ∧ Q (.done (.ret (.ref (h.objs.size + 1)))) s'
        | .ok _ => False
        | .error e => E e s')
      ⟨(h.push (kdv_tup [])).push (excO C h.objs.size), g, d, t, os⟩) :
    wpAny (model prog w) A (Builtin.«type.__call__» ⟨[.ref C], [(f, v)]⟩) Q E ⟨h, g, d, t, os⟩ := by
  repeat (first
    | with_reducible refine wpAny_loadPart_at hC ?_
    | with_reducible refine wpAny_madeBy_exc hC ?_
    | wp_step)
  refine codeAny_call_builtin_code (Code.quiet_builtin _ F.quiet) (chkKw F hT hC ?_)
  refine newKw F hT hC ?_
  show wpAny _ _ _ _ _ _
  have k : ∀ b o, h.get? b = some o → ((h.push (kdv_tup [])).push (excO C h.objs.size)).get? b = some o := fun b o e =>
    Heap.get?_push_of_some _ (Heap.get?_push_of_some _ e)
  have c1 := k _ _ hC
  have c2 : ((h.push (kdv_tup [])).push (excO C h.objs.size)).get? (h.objs.size + 1) = some (excO C h.objs.size) := by
    heap_get
  have c3 : (Value.ref C :: bm).contains (.ref C) = true := by
    simp
  have i1 := hi.keeps k
  have b1 := (hb (.ref (h.objs.size + 1))).keeps k
  unfold isInstance
  repeat (first
    | with_reducible refine wpAny_loadPart_at c2 ?_
    | (with_reducible refine wpAny_isSubtype_exc c1 ?_
       rw [c3])
    | wp_step)
  show wpAny _ _ (typeLookup (.ref C) _) _ _ _
  refine i1.at ?_
  refine wpAny_holding (wpAny_bind (b1.at ?_))
  refine wpAny_bind (wpAny_call (codeAny_mono z fun r s' y => ?_))
  cases r with
  | error e => exact y
  | ok fl =>
    cases fl with
    | ret u =>
      obtain ⟨rfl, y⟩ := y
      wp_walk
      try exact y
    | next => exact False.elim y
    | brk => exact False.elim y
    | cont => exact False.elim y
theorem callKw (F : ExcBaseFacts B newId initId bmB) (hT : ∀ Y : String, bm.contains (.type Y) = bmB.contains (.type Y)) {f : Str} {v : Value} {fI : Addr}
    (hC : h.get? C = some (excClassObj nm q C N bs bm hdct sn sub ab col dd k0 k1 k2 k3 k5 newId))
    (hi : Looks (model prog w) h (typeLookup (.ref C) "__init__") (some (.ref fI)))
    (hb : ∀ me, Looks (model prog w) h (bindSpecial (.ref fI) me) (.ref fI, [me]))
    (z : codeAny (model prog w) (A.under (.builtin "type.__call__" ⟨[.ref C], [(f, v)]⟩)) (.call (.ref fI) ⟨[.ref (h.objs.size + 1)], [(f, v)]⟩)
      (InitBack (h.objs.size + 1) R) ⟨(h.push (kdv_tup [])).push (excO C h.objs.size), g, d, t, os⟩) :
    codeAny (model prog w) A (.call (.ref C) ⟨[], [(f, v)]⟩) R ⟨h, g, d, t, os⟩ := by
  have f1 := tc_lookup
  have f2 := tc_bind (.ref C)
  have f3 : (⟨h, g, d, t, os⟩ : Shared).TypeIs (.ref C) "type" := ⟨_, hC, rfl⟩
  refine codeAny_of_tree ?_
  show wpAny _ _ (callAny (.ref C) _) _ _ _
  repeat (any_goals (first
    | assumption
    | with_reducible refine wpAny_loadPart_at hC ?_
    | wp_step))
  refine ⟨rfl, ?_⟩
  refine codeAny_call_builtin_at (Code.quiet_builtin _ (by decide +kernel)) entry_typeCall
    (wpAny_check_type_call_sub hC (typeCallKw F hT hC hi hb ?_))
  refine codeAny_mono z fun r s' y => ?_
  rcases r with e | (u | _ | _ | _) <;> exact y
end
end EV

set_option Elab.async false
set_option linter.all false
set_option maxRecDepth 100000
set_option maxHeartbeats 4000000
namespace EV
open PySem PySem.Spec PyProof.Rows L2
/-! ### a class of errors, its own __init__ -/
/-- __init__(self, f): self.f = f -/
def spI (C : Addr) (f : Str) : Sp := fun vs H Q _ => ∃ (a : Addr) (v : V), vs = [.ref a, v] ∧ H a = some (exo a C none) ∧
  ∀ d, H d = none → d ≠ a → Q .non (upd (upd H d (exd d [(f, v)])) a (exo a C (some d)))
/-- an error of the class C at a, its dict at d, its field -/
structure Er (H : Hp) (a C d : Addr) (f : Str) (v : V) : Prop where
  ob : H a = some (exo a C (some d))
  dc : H d = some (exd d [(f, v)])
/-- what a call of C makes of v -/
def rNew (C : Addr) (f : Str) (v : V) (H : Hp) (Q : VK) : Prop := ∀ a d, H a = none → H d = none → d ≠ a → Q (.ref a) (upd (upd H d (exd d [(f, v)])) a (exo a C (some d)))
def tNew (C : Addr) (f : Str) (te : TE) : TE := fun σ H Q => te σ H fun v H1 => rNew C f v H1 Q
theorem upd3 {H : Hp} {a d : Addr} {o o' u : HO} : upd (upd (upd H a o) d u) a o' = upd (upd H d u) a o' := by
  funext b
  by_cases e : b = a
  · rw [e, upd_same, upd_same]
  · rw [upd_ne e, upd_ne e]
    by_cases z : b = d
    · rw [z, upd_same, upd_same]
    · rw [upd_ne z, upd_ne z, upd_ne e]
section
variable {X : Cx} {CX : CXT} {C fI : Addr} {f x : Str} {k : Nat} {fd : FuncData} {e : Expr} {te : TE} {p pos kp : Pos} {E : XK}
/-- what the written part tells of such a class -/
structure ErrC (K : PySem.W.Frag) (C fI : Addr) (f : Str) : Prop where
  oex : OexC K C
  iC : PySem.W.findIn K (.ref C) "__init__" = some (some (.ref fI))
  tI : PySem.W.typeIn K (.ref fI) = some (.type "function")
  xf : XfC K C
  no : PySem.W.findIn K (.ref C) f = some none
theorem fresh2 {H : Hp} {a d : Addr} {o : HO} (h : upd H a o d = none) : d ≠ a ∧ H d = none := by
  by_cases e : d = a
  · rw [e, upd_same] at h
    cases h
  · rw [upd_ne e] at h
    exact ⟨e, h⟩
theorem run_new {pins : List (Addr × Obj)} {σ : L2.St} {H : Hp} {s : Shared} {Q : VK} {u : Value} {v : V} (T : ErrC X.K C fI f) (G : FnOk X.prog X.w X.K X.mg X.base CX k fI fd ["self", f] (spI C f)) (hr : Room (k + 1) X.A)
    (hb : ∀ (s : Shared) (u v : Value), X.K.In s.heap → BindsTo s fd ⟨[u, v], []⟩ [("self", u), (f, v)]) (hx : Passes CX X E)
    (I : Inv X pins σ H s) (r : RelV v u) (h : rNew C f v H Q) : wpAny (model X.prog X.w) X.A (call (.ref C) [u]) (EP X pins σ Q) X.xe s := by
  obtain ⟨nm, q, N, bs, bm, sn, sub, ab, col, dd, k0, k1, k2, k3, k5, hC, hbm⟩ := T.oex.cls
  obtain ⟨hp, g, dr, tk, os⟩ := s
  have sz : hp.objs.size ≤ hp.objs.size + 1 := Nat.le_succ _
  have n0 : H (hp.objs.size + 1) = none := I.hok.fresh sz
  have k2 : ∀ b o, hp.get? b = some o → ((hp.push (PySem.W.kdv_tup [u])).push (PySem.HandSPX.excO C hp.objs.size)).get? b = some o := fun b o z =>
    Heap.get?_push_of_some _ (Heap.get?_push_of_some _ z)
  have g2 : ((hp.push (PySem.W.kdv_tup [u])).push (PySem.HandSPX.excO C hp.objs.size)).get? (hp.objs.size + 1) = some (PySem.HandSPX.excO C hp.objs.size) := by
    heap_get
  have I2 := I.laid (t' := tk) (a := hp.objs.size + 1) (o := exo (hp.objs.size + 1) C none) k2 sz (exo_ok g2)
  have hq : spI C f [.ref (hp.objs.size + 1), v] (upd H (hp.objs.size + 1) (exo (hp.objs.size + 1) C none)) (fun z H2 => z = .non ∧ Q (.ref (hp.objs.size + 1)) H2) E :=
    ⟨_, v, rfl, upd_same, fun d h1 h2 => ⟨rfl, by
      rw [upd3]
      exact h _ d n0 (fresh2 h1).2 h2⟩⟩
  refine wpAny_call (PySem.HandSPX.call_own F.excBase_ValueError (fun Y => PySem.HandSPX.refsVE_contains Y bm hbm) (I.kIn _ _ hC)
    (PySem.W.looks_findIn I.kIn T.iC) (fun me => PySem.W.bind_fn I.kIn me T.tI) (by show 1 ≤ sizeLine; rw [sizeLine_eq]; decide)
    (codeAny_mono (G.run _ X.stack _ _ ⟨[.ref (hp.objs.size + 1), u], []⟩ [.ref (hp.objs.size + 1), u] [.ref (hp.objs.size + 1), v] _ E (hr.make C [u] []) (I2.env0.make C [u] [])
      (hb _ _ _ I2.kIn) (.cons rfl (.cons r .nil)) hq) fun z s' y => ?_))
  cases z with
  | error er => exact hx pins σ _ _ er s' I2 y
  | ok fl =>
    cases fl with
    | ret w' =>
      obtain ⟨_, H3, I3, rv, ev, q3⟩ := I2.after y
      subst ev
      exact ⟨rv, ⟨V.ref (hp.objs.size + 1), H3, I3, rfl, q3⟩⟩
    | next => exact False.elim y
    | brk => exact False.elim y
    | cont => exact False.elim y
theorem run_newK {pins : List (Addr × Obj)} {σ : L2.St} {H : Hp} {s : Shared} {Q : VK} {u : Value} {v : V} (T : ErrC X.K C fI f) (G : FnOk X.prog X.w X.K X.mg X.base CX k fI fd ["self", f] (spI C f)) (hr : Room (k + 1) X.A)
    (hb : ∀ (s : Shared) (u v : Value), X.K.In s.heap → BindsTo s fd ⟨[u], [(f, v)]⟩ [("self", u), (f, v)]) (hx : Passes CX X E)
    (I : Inv X pins σ H s) (r : RelV v u) (h : rNew C f v H Q) : wpAny (model X.prog X.w) X.A (call (.ref C) [] [(f, u)]) (EP X pins σ Q) X.xe s := by
  obtain ⟨nm, q, N, bs, bm, sn, sub, ab, col, dd, k0, k1, k2, k3, k5, hC, hbm⟩ := T.oex.cls
  obtain ⟨hp, g, dr, tk, os⟩ := s
  have sz : hp.objs.size ≤ hp.objs.size + 1 := Nat.le_succ _
  have n0 : H (hp.objs.size + 1) = none := I.hok.fresh sz
  have k2 : ∀ b o, hp.get? b = some o → ((hp.push (PySem.W.kdv_tup [])).push (PySem.HandSPX.excO C hp.objs.size)).get? b = some o := fun b o z =>
    Heap.get?_push_of_some _ (Heap.get?_push_of_some _ z)
  have g2 : ((hp.push (PySem.W.kdv_tup [])).push (PySem.HandSPX.excO C hp.objs.size)).get? (hp.objs.size + 1) = some (PySem.HandSPX.excO C hp.objs.size) := by
    heap_get
  have I2 := I.laid (t' := tk) (a := hp.objs.size + 1) (o := exo (hp.objs.size + 1) C none) k2 sz (exo_ok g2)
  have hq : spI C f [.ref (hp.objs.size + 1), v] (upd H (hp.objs.size + 1) (exo (hp.objs.size + 1) C none)) (fun z H2 => z = .non ∧ Q (.ref (hp.objs.size + 1)) H2) E :=
    ⟨_, v, rfl, upd_same, fun d h1 h2 => ⟨rfl, by
      rw [upd3]
      exact h _ d n0 (fresh2 h1).2 h2⟩⟩
  refine wpAny_call (callKw F.excBase_ValueError (fun Y => PySem.HandSPX.refsVE_contains Y bm hbm) (I.kIn _ _ hC)
    (PySem.W.looks_findIn I.kIn T.iC) (fun me => PySem.W.bind_fn I.kIn me T.tI)
    (codeAny_mono (G.run _ X.stack _ _ ⟨[.ref (hp.objs.size + 1)], [(f, u)]⟩ [.ref (hp.objs.size + 1), u] [.ref (hp.objs.size + 1), v] _ E (hr.make C [] [(f, u)]) (I2.env0.make C [] [(f, u)])
      (hb _ _ _ I2.kIn) (.cons rfl (.cons r .nil)) hq) fun z s' y => ?_))
  cases z with
  | error er => exact hx pins σ _ _ er s' I2 y
  | ok fl =>
    cases fl with
    | ret w' =>
      obtain ⟨_, H3, I3, rv, ev, q3⟩ := I2.after y
      subst ev
      exact ⟨rv, ⟨V.ref (hp.objs.size + 1), H3, I3, rfl, q3⟩⟩
    | next => exact False.elim y
    | brk => exact False.elim y
    | cont => exact False.elim y
/-- C(e) -/
theorem pe_new (T : ErrC X.K C fI f) (F : FnOk X.prog X.w X.K X.mg X.base CX k fI fd ["self", f] (spI C f)) (hr : Room (k + 1) X.A)
    (hb : ∀ (s : Shared) (u v : Value), X.K.In s.heap → BindsTo s fd ⟨[u, v], []⟩ [("self", u), (f, v)]) (hx : Passes CX X E) (hg : Gl X x) (hm : X.mg x = some (.ref C)) (he : PE X e te)
    (hdb : (x == ("__debug__" : Str)) = false := by decide) (hs : starEach [e] X.env = (false, eval e X.env) :: starEach [] X.env := by rfl) (hpl : (backTo pos (starEach [] X.env)).any (·.1) = false := by rfl) :
    PE X (.Call (.Name x p) [e] [] pos) (tNew C f te) := by
  refine ⟨fun pins s σ H Q I h => ?_⟩
  refine wpAny_Call_Name_kw (ld_glob I hg hm ?_ hdb)
  refine PySem.W.callWith_K (h₀ := X.base) I.ok.mod.kin T.oex.kC ?_ hs hpl
  rw [hs]
  show wpAny _ _ (spliced ((false, eval e X.env) :: backTo pos (starEach [] X.env))) _ _ s
  refine Calls.spliced_cons (thn (he.run pins s σ H _ I h) fun u s1 ⟨v, H1, I1, r1, q1⟩ => ?_)
  exact Calls.spliced_nil ⟨I1.kIn, run_new T F hr hb hx I1 r1 q1⟩
/-- C(f = e) -/
theorem pe_newK (T : ErrC X.K C fI f) (F : FnOk X.prog X.w X.K X.mg X.base CX k fI fd ["self", f] (spI C f)) (hr : Room (k + 1) X.A)
    (hb : ∀ (s : Shared) (u v : Value), X.K.In s.heap → BindsTo s fd ⟨[u], [(f, v)]⟩ [("self", u), (f, v)]) (hx : Passes CX X E) (hg : Gl X x) (hm : X.mg x = some (.ref C)) (he : PE X e te)
    (hall : (backToKw pos (keywordEach [⟨some f, e, kp⟩] X.env)).all (·.1.isSome) = true := by rfl) (hks : (backToKw pos (keywordEach [⟨some f, e, kp⟩] X.env)).filterMap (·.1) = [f] := by rfl) (hdb : (x == ("__debug__" : Str)) = false := by decide)
    (hpl : ((backTo pos (starEach [] X.env)).any (·.1) || (backToKw pos (keywordEach [⟨some f, e, kp⟩] X.env)).any (·.1.isNone)) = false := by rfl) :
    PE X (.Call (.Name x p) [] [⟨some f, e, kp⟩] pos) (tNew C f te) := by
  have hk : PK X [⟨some f, e, kp⟩] (tCons te tNil) := pk_cons he pk_nil
  refine ⟨fun pins s σ H Q I h => ?_⟩
  refine wpAny_Call_Name_kw (ld_glob I hg hm ?_ hdb)
  refine PySem.W.callWith_KW0 (h₀ := X.base) I.ok.mod.kin T.oex.kC hall ?_ hpl
  refine thn (hk.run pos pins s σ H (fun vs H1 => match vs with
    | [v] => rNew C f v H1 Q
    | _ => False) I h) fun us s1 ⟨vs, H1, I1, r1, q1⟩ => ⟨I1.kIn, ?_⟩
  rw [hks]
  cases r1 with
  | nil => exact q1.elim
  | cons r rr =>
    cases rr with
    | nil => exact run_newK T F hr hb hx I1 r q1
    | cons _ _ => exact q1.elim
end
end EV

set_option Elab.async false
set_option linter.all false
set_option maxRecDepth 100000
set_option maxHeartbeats 4000000
namespace EV
open PySem PySem.Spec PyProof.Rows L2
/-- an error of the class at C stands at a: with a field, or a plain one -/
def IsEr (H : Hp) (a C : Addr) : Prop := H a = some (exo a C none) ∨ ∃ d fs, H a = some (exo a C (some d)) ∧ H d = some (exd d fs)
section
variable {X : Cx}
theorem inst_of {pins : List (Addr × Obj)} {σ : L2.St} {H : Hp} {s : Shared} {a C : Addr} (I : Inv X pins σ H s) (h : IsEr H a C) : ∃ ox od, PySem.W.InstAt s.heap a ox C od := by
  rcases h with h | ⟨d, fs, h, hd⟩
  · obtain ⟨t, e⟩ := exo_at I.hok h
    exact ⟨_, none, e, rfl, rfl, True.intro⟩
  · obtain ⟨t, e⟩ := exo_at I.hok h
    obtain ⟨mA, hn, _⟩ := exd_at I.hok hd
    obtain ⟨od, ho, _⟩ := lookIn_ns hn
    exact ⟨_, some od, e, rfl, rfl, ho⟩
theorem kit_er {pins : List (Addr × Obj)} {σ : L2.St} {H : Hp} {s : Shared} {a C : Addr} (T : ExcC X.K C) (I : Inv X pins σ H s) (h : IsEr H a C) :
    ∃ P : Heap → Prop, PySem.W.KitX X.K (.ref a) (.ref C) P ∧ P s.heap := by
  obtain ⟨ox, od, J⟩ := inst_of I h
  have c : (PySem.W.clsIn X.K C).isSome = true := by
    obtain ⟨cd, e, _⟩ := PySem.W.any_some T.hd
    rw [e] <;> rfl
  exact ⟨_, PySem.W.kitx_exc (ox := ox) (od := od) c T.hg T.hk T.hs T.ha T.hn T.ht T.hm, J⟩
/-- isinstance(e, D) -/
def rIsEr (K : PySem.W.Frag) : List V → Hp → VK → Prop := fun xs H Q => ∃ (a C : Addr) (c : V) (u : Value) (b : Bool), xs = [.ref a, c] ∧ ClsV c u ∧ ExcC K C ∧ IsEr H a C ∧ PySem.W.kitOne K (.ref C) u = some b ∧ Q (.bl b) H
theorem call_isEr : CallR X (.builtin "isinstance") (rIsEr X.K) := by
  intro pins s σ H xs us Q I r h
  obtain ⟨a, C, c, u, b, rfl, k, T, ty, e, q⟩ := h
  obtain ⟨u1, u2, rfl, r1, r2⟩ := vals2 r
  have e2 := k.eq r2
  subst e2
  obtain rfl : u1 = Value.ref a := r1
  obtain ⟨P, Z, p⟩ := kit_er T I ty
  exact PySem.W.kia_one Z I.kIn p e (fun z => nomatch z) fun tk => ⟨.bl b, H, I.tok tk, rfl, q⟩
/-- isinstance(e, (D, ..)) -/
def rIsErT (K : PySem.W.Frag) : List V → Hp → VK → Prop := fun xs H Q => ∃ (a C tp : Addr) (cs : List V) (us : List Value) (b : Bool), xs = [.ref a, .ref tp] ∧ H tp = some (.tup cs) ∧ Paired ClsV cs us ∧ ExcC K C ∧ IsEr H a C ∧
  PySem.W.kitAny K (.ref C) us = some b ∧ Q (.bl b) H
theorem call_isErT : CallR X (.builtin "isinstance") (rIsErT X.K) := by
  intro pins s σ H xs us Q I r h
  obtain ⟨a, C, tp, cs, ws, b, rfl, hT, k, T, ty, e, q⟩ := h
  obtain ⟨u1, u2, rfl, r1, r2⟩ := vals2 r
  obtain rfl : u1 = Value.ref a := r1
  cases (show u2 = Value.ref tp from r2)
  obtain ⟨P, Z, p⟩ := kit_er T I ty
  obtain ⟨_, its, rv, o, h1, h2, n, h3⟩ := (show ObjOk X.prog X.w H s.heap tp (.tup cs) from I.hok tp _ hT)
  have e3 := ClsV.all k rv
  subst e3
  obtain ⟨oc, od, dt, sl⟩ := o
  simp only at h2 h3
  subst h2 h3
  exact PySem.W.kia_tup Z I.kIn p h1 e (fun z => nomatch z) fun tk => ⟨.bl b, H, I.tok tk, rfl, q⟩
/-- e.f -/
def tErF (K : PySem.W.Frag) (f : Str) (te : TE) : TE := fun σ H Q => te σ H fun x H1 => ∃ (a C d : Addr) (fs : List (Str × V)) (v : V), x = .ref a ∧ XfC K C ∧ PySem.W.findIn K (.ref C) f = some none ∧
  H1 a = some (exo a C (some d)) ∧ H1 d = some (exd d fs) ∧ fs.lookup f = some v ∧ Q v H1
theorem pe_erF {e : Expr} {te : TE} {pos : Pos} {n : Str} (he : PE X e te) (hb : attributeBase e n X.env (eval e X.env) = eval e X.env := by rfl) : PE X (.Attribute e n pos) (tErF X.K n te) := by
  refine ⟨fun pins s σ H Q I h => ?_⟩
  refine attr_of hb (thn (he.run pins s σ H _ I h) fun u s1 hh => ?_)
  obtain ⟨x, H1, I1, rx, a, C, d, fs, v, ex, T, hno, ea, ed, l, q⟩ := hh
  subst ex
  obtain rfl : u = Value.ref a := rx
  obtain ⟨t, e⟩ := exo_at I1.hok ea
  obtain ⟨mA, hns, hr⟩ := exd_at I1.hok ed
  obtain ⟨od, ho, hl⟩ := lookIn_ns hns
  obtain ⟨u, hu, ru⟩ := RelO.some_of (v := v) (o := mA n) (by rw [← l]; exact hr n)
  have J : PySem.W.InstAt s1.heap a _ C (some od) := ⟨e, rfl, rfl, ho⟩
  exact HandSPX.exc_get I1.kIn J T.ga T.gg T.exC (PySem.W.findObj_own T.hdC hno rfl (by rw [hl, hu])) (handed_of ru) ⟨v, H1, I1.tok _, ru, q⟩
/-- C(), C an own class over ValueError without own __init__ -/
theorem pe_new0 {C : Addr} {bmB : List Value} {B newId initId : String} {x : Str} {p pos : Pos} (G : ExcBaseFacts B newId initId bmB) (q : PySem.W.excIn X.K C bmB newId = true) (gC : X.mg x = some (.ref C)) (kC : PySem.W.keepIn X.K (.ref C) = true) (hg : Gl X x)
    (hdb : (x == ("__debug__" : Str)) = false := by decide) :
    PE X (.Call (.Name x p) [] [] pos) (fun σ H Q => ∀ a, H a = none → Q (.ref a) (upd H a (exo a C none))) := by
  refine ⟨fun pins s σ H Q I h => ?_⟩
  refine wpAny_Call_Name_kw (ld_glob I hg gC ?_ hdb)
  refine PySem.W.callWith_K0 I.kIn kC ?_
  show wpAny _ _ (call (.ref C) []) _ _ _
  obtain ⟨bm, N, nm, qn, bs, hdct, sn, sub, ab, col, dd, k0, k1, k2, k3, k5, mN, hC, hN, hni, T⟩ := exc_obj I.kIn q
  refine wpAny_call_exc_subT G T hC hN hni (fun h' a hm => ?_) (by show 0 ≤ sizeLine; exact Nat.zero_le _)
  have hn : H a = none := I.hok.gone hm.new
  obtain ⟨t, ht, _, _⟩ := hm.there
  exact ⟨.ref a, upd H a (exo a C none), I.laidN hm.keeps hm.new hn (exo_ok ht), rfl, h a hn⟩
end
end EV

set_option Elab.async false
set_option linter.all false
set_option maxRecDepth 100000
set_option maxHeartbeats 4000000
namespace EV
open PySem PySem.Spec PyProof.Rows L2 He
/-! ### what the head tells of the classes -/
abbrev pE : PySem.Str := "PanelError"
abbrev veT : List Value := [.type "ValueError", .type "Exception", .type "BaseException", .type "object"]
def mroOf (K : PySem.W.Frag) (x : PySem.Str) : List Value := if x = pE then .ref (ga K pE) :: veT else .ref (ga K x) :: .ref (ga K pE) :: veT
/-- the class's object: its form, its mro -/
def objB (K : PySem.W.Frag) (x : PySem.Str) : Bool := match K.lookup (ga K x) with
  | some ⟨.type t, _, .cls cd, sl⟩ => decide (t = "type") && (decide (cd.mro = mroOf K x) && (cd.hasDict && (!cd.hasDel && (match sl.toList with
    | [_, _, _, _, some (.builtin n), _] => decide (n = "ValueError.__new__")
    | _ => false))))
  | _ => false
def excB (K : PySem.W.Frag) (x : PySem.Str) : Bool := objB K x && (decide (PySem.W.findIn K (.ref (ga K x)) "__setattr__" = some (some (.builtin "object.__setattr__"))) &&
  (PySem.W.keepIn K (.ref (ga K x)) && (decide (PySem.W.findIn K (.ref (ga K x)) "__getattribute__" = some (some (.builtin "BaseException.__getattribute__"))) &&
  (decide (PySem.W.findIn K (.ref (ga K x)) "__getattr__" = some none) && (decide (PySem.W.findIn K (.ref (ga K x)) "__class__" = some (some (.builtin "object.__class__"))) && eqO (PySem.W.nsIn K mainGlobals x) (some (some (.ref (ga K x)))))))))
def iniB (K : PySem.W.Frag) (p : PySem.Str × PySem.Str) : Bool := decide (PySem.W.findIn K (.ref (ga K p.1)) "__init__" = some (some (.ref (ma K (ga K p.1) "__init__")))) &&
  (decide (PySem.W.typeIn K (.ref (ma K (ga K p.1) "__init__")) = some (.type "function")) && decide (PySem.W.findIn K (.ref (ga K p.1)) p.2 = some none))
def classB (K : PySem.W.Frag) : Bool := decide (PySem.W.specialIn K (.builtin "object.__class__") "__get__" = some (some (.builtin "getset_descriptor.__get__"))) && decide (PySem.W.takesIn K (.builtin "object.__class__") = some true)
/-- all of it: cs the classes with an __init__, their fields; ps the others (PanelError among them) -/
def exAll (cs : List (PySem.Str × PySem.Str)) (ps : List PySem.Str) (K : PySem.W.Frag) : Bool :=
  classB K && (ps.contains pE && ((cs.all fun p => excB K p.1 && iniB K p) && ((ps.all fun x => excB K x) && (decide ((cs.map (·.1) ++ ps).map (ga K)).Nodup && (ps.all fun x => PySem.W.excIn K (ga K x) veT "ValueError.__new__")))))
structure Says (cs : List (PySem.Str × PySem.Str)) (ps : List PySem.Str) (K : PySem.W.Frag) : Prop where
  ok : exAll cs ps K = true
theorem bA {a b : Bool} (h : (a && b) = true) : a = true ∧ b = true := Bool.and_eq_true_iff.mp h
section
variable {K : PySem.W.Frag} {x y : PySem.Str}
theorem obj_ok (h : objB K x = true) : ∃ nm q N bs bm sn sub ab col dd k0 k1 k2 k3 k5, K.lookup (ga K x) = some (excClassObj nm q (ga K x) N bs bm true sn sub ab col dd k0 k1 k2 k3 k5 "ValueError.__new__") ∧ .ref (ga K x) :: bm = mroOf K x ∧ PySem.HandSPX.refsVE bm = true := by
  unfold objB at h
  cases q : K.lookup (ga K x) with
  | none =>
    rw [q] at h
    cases h
  | some o =>
    obtain ⟨oc, od, dt, sl⟩ := o
    rw [q] at h
    cases oc with
    | type t =>
      cases dt with
      | cls cd =>
        obtain ⟨h1, g1⟩ := bA h
        obtain ⟨h2, g2⟩ := bA g1
        obtain ⟨h3, g3⟩ := bA g2
        obtain ⟨h4, g4⟩ := bA g3
        clear h g1 g2 g3
        have e1 : t = "type" := of_decide_eq_true h1
        have e2 : cd.mro = mroOf K x := of_decide_eq_true h2
        obtain ⟨nm, bs, mro, ns, qn, hd, sn, sub, ab, col, del⟩ := cd
        dsimp only at e2 h3 h4
        have e4 : del = false := by
          cases del with
          | false => rfl
          | true => cases h4
        have e3 : hd = true := h3
        split at g4
        · rename_i k0 k1 k2 k3 n k5 hs
          have e5 : n = "ValueError.__new__" := of_decide_eq_true g4
          have e6 : sl = #[k0, k1, k2, k3, some (.builtin n), k5] := by
            obtain ⟨l⟩ := sl
            simp only at hs
            rw [hs]
          subst e1 e2 e3 e4 e5 e6
          unfold mroOf
          by_cases z : x = pE
          · subst z
            rw [if_pos rfl]
            exact ⟨nm, qn, ns, bs, veT, sn, sub, ab, col, od, k0, k1, k2, k3, k5, rfl, rfl, by decide +kernel⟩
          · rw [if_neg z]
            exact ⟨nm, qn, ns, bs, .ref (ga K pE) :: veT, sn, sub, ab, col, od, k0, k1, k2, k3, k5, rfl, rfl, by show PySem.HandSPX.refsVE veT = true; decide +kernel⟩
        · cases g4
      | _ => cases h
    | _ => cases dt <;> cases h
theorem cls_of_obj (h : objB K x = true) : ∃ cd, PySem.W.clsIn K (ga K x) = some cd ∧ cd.mro = mroOf K x ∧ cd.hasDict = true := by
  obtain ⟨nm, q, N, bs, bm, sn, sub, ab, col, dd, k0, k1, k2, k3, k5, e, em, _⟩ := obj_ok h
  refine ⟨{ name := nm, bases := bs, mro := .ref (ga K x) :: bm, ns := N, qualname := q, hasDict := true, slotNames := sn, subclasses := sub, abstract := ab, collection := col, hasDel := false }, ?_, em, rfl⟩
  unfold PySem.W.clsIn
  rw [e] <;> rfl
theorem mro_of (h : objB K x = true) (u : Value) : PySem.W.mroIn K (ga K x) u = some ((mroOf K x).contains u) := by
  obtain ⟨cd, e, em, _⟩ := cls_of_obj h
  unfold PySem.W.mroIn
  rw [e, Option.bind_some, em]
  have z : (mroOf K x).isEmpty = false := by
    unfold mroOf
    split <;> rfl
  rw [z] <;> rfl
theorem type_of_obj (h : objB K x = true) : PySem.W.typeIn K (.ref (ga K x)) = some (.type "type") := by
  obtain ⟨nm, q, N, bs, bm, sn, sub, ab, col, dd, k0, k1, k2, k3, k5, e, _⟩ := obj_ok h
  show (K.lookup (ga K x)).map (·.cls) = _
  rw [e] <;> rfl
theorem hasD_of (h : objB K x = true) : PySem.W.hasDictIn K (ga K x) = true := by
  obtain ⟨cd, e, _, hd⟩ := cls_of_obj h
  unfold PySem.W.hasDictIn
  rw [e]
  exact hd
theorem sub_be (h : objB K x = true) : PySem.W.subIn K (.ref (ga K x)) (.type "BaseException") = some true := by
  show PySem.W.mroIn K (ga K x) (.type "BaseException") = some true
  rw [mro_of h]
  unfold mroOf
  split <;> rfl
theorem excC_of (c : classB K = true) (h : excB K x = true) : ExcC K (ga K x) := by
  obtain ⟨c1, c2⟩ := bA c
  obtain ⟨h0, h⟩ := bA h
  obtain ⟨h1, h⟩ := bA h
  obtain ⟨h2, h⟩ := bA h
  obtain ⟨h3, h⟩ := bA h
  obtain ⟨h4, h⟩ := bA h
  obtain ⟨h5, h6⟩ := bA h
  refine ⟨of_decide_eq_true h3, of_decide_eq_true h4, sub_be h0, hasD_of h0, of_decide_eq_true h5, of_decide_eq_true c1, of_decide_eq_true c2, ?_⟩
  rw [mro_of h0]
  unfold mroOf
  split <;> rfl
theorem oex_of (h : excB K x = true) : OexC K (ga K x) := by
  obtain ⟨h0, h⟩ := bA h
  obtain ⟨h1, h⟩ := bA h
  obtain ⟨h2, h⟩ := bA h
  obtain ⟨nm, q, N, bs, bm, sn, sub, ab, col, dd, k0, k1, k2, k3, k5, e, _, r⟩ := obj_ok h0
  exact ⟨⟨nm, q, N, bs, bm, sn, sub, ab, col, dd, k0, k1, k2, k3, k5, e, r⟩, of_decide_eq_true h1, sub_be h0, type_of_obj h0, h2⟩
theorem xf_of (h : excB K x = true) : XfC K (ga K x) := by
  obtain ⟨h0, h⟩ := bA h
  obtain ⟨h1, h⟩ := bA h
  obtain ⟨h2, h⟩ := bA h
  obtain ⟨h3, h⟩ := bA h
  obtain ⟨h4, h⟩ := bA h
  exact ⟨of_decide_eq_true h3, of_decide_eq_true h4, sub_be h0, hasD_of h0⟩
theorem err_of {p : PySem.Str × PySem.Str} (h : excB K p.1 = true) (i : iniB K p = true) : ErrC K (ga K p.1) (ma K (ga K p.1) "__init__") p.2 := by
  obtain ⟨i1, i⟩ := bA i
  obtain ⟨i2, i3⟩ := bA i
  exact ⟨oex_of h, of_decide_eq_true i1, of_decide_eq_true i2, xf_of h, of_decide_eq_true i3⟩
theorem glo_of {h : Heap} {mg : PySem.Str → Option Value} (X : K.In h) (G : h.Ns mainGlobals mg) (e : excB K x = true) : mg x = some (.ref (ga K x)) := by
  obtain ⟨_, e⟩ := bA e
  obtain ⟨_, e⟩ := bA e
  obtain ⟨_, e⟩ := bA e
  obtain ⟨_, e⟩ := bA e
  obtain ⟨_, e⟩ := bA e
  obtain ⟨_, e⟩ := bA e
  exact PySem.W.mg_of X G (eqO_ok e)
/-- isinstance by an own class -/
theorem kit_own (hx : excB K x = true) (hy : excB K y = true) (inj : ga K x = ga K y → x = y) (injP : ga K pE = ga K y → y = pE) : PySem.W.kitOne K (.ref (ga K x)) (.ref (ga K y)) = some (decide (x = y) || decide (y = pE)) := by
  have o1 := (bA hx).1
  have o2 := (bA hy).1
  obtain ⟨cd, e, _, _⟩ := cls_of_obj o2
  unfold PySem.W.kitOne
  by_cases z : x = y
  · subst z
    rw [if_pos (by simp), decide_eq_true rfl]
    rfl
  · have n1 : ga K x ≠ ga K y := fun q => z (inj q)
    rw [if_neg (by simpa using n1)]
    unfold PySem.W.kitCls
    dsimp only
    rw [e, type_of_obj o2]
    rw [if_pos (by rfl)]
    show PySem.W.mroIn K (ga K x) (.ref (ga K y)) = _
    rw [mro_of o1, decide_eq_false z, Bool.false_or]
    congr 1
    unfold mroOf
    by_cases zx : x = pE
    · subst zx
      rw [if_pos rfl]
      have n2 : y ≠ pE := fun q => z q.symm
      rw [decide_eq_false n2]
      simp [n1.symm, veT]
    · rw [if_neg zx]
      by_cases zy : y = pE
      · subst zy
        rw [decide_eq_true rfl]
        simp
      · have n3 : ga K y ≠ ga K pE := fun q => zy (injP q.symm)
        rw [decide_eq_false zy]
        simp [n1.symm, n3, veT]
/-- isinstance by a built-in class -/
theorem kit_type (hx : excB K x = true) {T : String} (m : PySem.W.kitMeta T = true) : PySem.W.kitOne K (.ref (ga K x)) (.type T) = some (veT.contains (.type T)) := by
  have o1 := (bA hx).1
  unfold PySem.W.kitOne
  rw [if_neg (by simp)]
  unfold PySem.W.kitCls
  dsimp only
  rw [if_pos m]
  show PySem.W.mroIn K (ga K x) (.type T) = _
  rw [mro_of o1]
  congr 1
  unfold mroOf
  split <;> simp
end
end EV

set_option Elab.async false
set_option linter.all false
set_option maxRecDepth 100000
set_option maxHeartbeats 4000000
namespace EV
open PySem PySem.Spec PyProof.Rows L2 He
/-! ### a head's facts, told of the objects at written addresses -/
def obsS (fa : List Fa) (fn : List DefD) (ex : PySem.W.Frag → Bool) (as : List Addr) (g : Addr → Option Obj) : AlD × Bool := (obsD fa fn (frG g as), ex (frG g as))
def hookS (fa : List Fa) (fn : List DefD) (ex : PySem.W.Frag → Bool) (as : List Addr) : PySem.W.Hook where
  α := AlD × Bool
  obs := fun s => obsS fa fn ex as s.heap.get?
  val := fun _ => (valD fn, true)
  says := fun _ h => ∃ K : PySem.W.Frag, K.In h ∧ SaysD fa fn K ∧ ex K = true
  of := fun _ s e => ⟨frG s.heap.get? as, frG_in, congrArg (fun z : AlD × Bool => z.1) e, congrArg (fun z : AlD × Bool => z.2) e⟩
  keeps := fun _ _ _ ⟨K, hK, c⟩ k => ⟨K, PySem.W.Frag.In.keeps hK k, c⟩
theorem obsS_eq {fa : List Fa} {fn : List DefD} {ex : PySem.W.Frag → Bool} {as : List Addr} {g : Addr → Option Obj} {s : Shared} (h : ∀ a, g a = s.heap.get? a) : obsS fa fn ex as g = (hookS fa fn ex as).obs s := by
  have e : g = s.heap.get? := funext h
  rw [e] <;> rfl
end EV
namespace EV
open PySem PySem.W PySem.Calls PyProof.Rows
/-- the run's equation from its parts -/
theorem run_of {r : PySem.W.OpenRow} {q : Program} {H : PySem.W.Hook} {ob : PySem.W.SharedT → H.α} {M : Nat} {loose : List PySem.Str} {w : World}
    (h1 : ∀ os : OsState, (HandSHeadRun.endF (HandSHeadRun.stepQ (HandSHeadRun.denQ HandSHeadRun.tabQ) r.prog w) M r.prog w os).map (fun s => (HandSHeadRun.looksF r.prog (boot_heap w.params) s.abs, HandSHeadRun.seenQ q loose (importedModules r.prog.main.body) (fun s => PySem.W.xlAt q [] s && PySem.W.recOk r.toRowW.records s) s.abs)) = some (true, PySem.W.openGood q loose))
    (h2 : ∀ os : OsState, (HandSHeadRun.endF (HandSHeadRun.stepQ (HandSHeadRun.denQ HandSHeadRun.tabQ) r.prog w) M r.prog w os).map ob = some (H.val w)) : HandSHeadRun.RunEq r q H ob M loose w := by
  intro os
  have e1 := h1 os
  have e2 := h2 os
  cases e : HandSHeadRun.endF (HandSHeadRun.stepQ (HandSHeadRun.denQ HandSHeadRun.tabQ) r.prog w) M r.prog w os with
  | none =>
    rw [e] at e1
    cases e1
  | some s =>
    rw [e] at e1 e2
    have q1 := Option.some.inj e1
    have q2 := Option.some.inj e2
    have qa := congrArg Prod.fst q1
    have qb := congrArg Prod.snd q1
    show some _ = some _
    dsimp only at qa qb q2 ⊢
    rw [qa, qb, q2]
end EV

set_option Elab.async false
set_option linter.all false
set_option maxRecDepth 100000
set_option maxHeartbeats 4000000
namespace EV
open PySem PySem.Spec PyProof.Rows L2 He
/-! ### a head's facts in parts -/
def obsM (l : List (List Fa × List DefD)) (ex : PySem.W.Frag → Bool) (as : List Addr) (g : Addr → Option Obj) : List AlD × Bool := (l.map (fun (p : List Fa × List DefD) => obsD p.1 p.2 (frG g as)), ex (frG g as))
def hookM (l : List (List Fa × List DefD)) (ex : PySem.W.Frag → Bool) (as : List Addr) : PySem.W.Hook where
  α := List AlD × Bool
  obs := fun s => obsM l ex as s.heap.get?
  val := fun _ => (l.map (fun (p : List Fa × List DefD) => valD p.2), true)
  says := fun _ h => ∃ K : PySem.W.Frag, K.In h ∧ (∀ p ∈ l, SaysD p.1 p.2 K) ∧ ex K = true
  of := fun _ s e => ⟨frG s.heap.get? as, frG_in, fun p hp => (have q : l.map (fun p => obsD p.1 p.2 (frG s.heap.get? as)) = l.map (fun p => valD p.2) := congrArg (fun z : List AlD × Bool => z.1) e
    List.map_inj_left.mp q p hp), congrArg (fun z : List AlD × Bool => z.2) e⟩
  keeps := fun _ _ _ ⟨K, hK, c⟩ k => ⟨K, PySem.W.Frag.In.keeps hK k, c⟩
theorem obsM_eq {l : List (List Fa × List DefD)} {ex : PySem.W.Frag → Bool} {as : List Addr} {g : Addr → Option Obj} {s : Shared} (h : ∀ a, g a = s.heap.get? a) : obsM l ex as g = (hookM l ex as).obs s := by
  have e : g = s.heap.get? := funext h
  rw [e] <;> rfl
section
variable {α β γ : Type} {o : Option α}
theorem map_and {f g : α → Bool} (h1 : o.map f = some true) (h2 : o.map g = some true) : o.map (fun s => f s && g s) = some true := by
  cases o with
  | none => cases h1
  | some s =>
    have e1 : f s = true := Option.some.inj h1
    have e2 : g s = true := Option.some.inj h2
    show some (f s && g s) = some true
    rw [e1, e2]
    rfl
theorem map_pair {f : α → β} {g : α → γ} {a : β} {b : γ} (h1 : o.map f = some a) (h2 : o.map g = some b) : o.map (fun s => (f s, g s)) = some (a, b) := by
  cases o with
  | none => cases h1
  | some s =>
    have e1 : f s = a := Option.some.inj h1
    have e2 : g s = b := Option.some.inj h2
    show some (f s, g s) = some (a, b)
    rw [e1, e2]
theorem map_cons {f : α → β} {g : α → List β} {a : β} {b : List β} (h1 : o.map f = some a) (h2 : o.map g = some b) : o.map (fun s => f s :: g s) = some (a :: b) := by
  cases o with
  | none => cases h1
  | some s =>
    have e1 : f s = a := Option.some.inj h1
    have e2 : g s = b := Option.some.inj h2
    show some (f s :: g s) = some (a :: b)
    rw [e1, e2]
theorem map_last {f : α → β} {a : β} (h1 : o.map f = some a) : o.map (fun s => [f s]) = some [a] := by
  cases o with
  | none => cases h1
  | some s =>
    have e1 : f s = a := Option.some.inj h1
    show some [f s] = some [a]
    rw [e1]
end
/-- the classes' facts in parts -/
def exP (cs : List (PySem.Str × PySem.Str)) (ps : List PySem.Str) (K : PySem.W.Frag) : Bool :=
  classB K && (ps.contains pE && ((ps.all fun x => excB K x) && (decide ((cs.map (·.1) ++ ps).map (ga K)).Nodup && (ps.all fun x => PySem.W.excIn K (ga K x) veT "ValueError.__new__"))))
def exQ (cs : List (PySem.Str × PySem.Str)) (K : PySem.W.Frag) : Bool := cs.all fun p => excB K p.1 && iniB K p
theorem exQ_app {a b : List (PySem.Str × PySem.Str)} {K : PySem.W.Frag} (h1 : exQ a K = true) (h2 : exQ b K = true) : exQ (a ++ b) K = true := by
  unfold exQ
  rw [List.all_append]
  exact Bool.and_eq_true_iff.mpr ⟨h1, h2⟩
theorem exAll_of {cs : List (PySem.Str × PySem.Str)} {ps : List PySem.Str} {K : PySem.W.Frag} (h1 : exP cs ps K = true) (h2 : exQ cs K = true) : exAll cs ps K = true := by
  obtain ⟨a1, h1⟩ := bA h1
  obtain ⟨a2, h1⟩ := bA h1
  obtain ⟨a3, h1⟩ := bA h1
  obtain ⟨a4, a5⟩ := bA h1
  have B : ∀ {a b : Bool}, a = true → b = true → (a && b) = true := fun x y => Bool.and_eq_true_iff.mpr ⟨x, y⟩
  exact B a1 (B a2 (B h2 (B a3 (B a4 a5))))
end EV

set_option Elab.async false
set_option linter.all false
set_option maxRecDepth 100000
namespace K89
open PySem PySem.Spec PyProof.Rows L2
def top (i : Nat) : Stmt := PySem.Challenge.pw_steadynets_k89_errors_of_nets_and_answer.main.body.getD i (.Pass ⟨0, 0, 0, 0⟩)
abbrev sI_BadNet : Stmt := inClass (top 2) 0
abbrev sI_BadRun : Stmt := inClass (top 3) 0
abbrev sI_BadPlace : Stmt := inClass (top 4) 0
abbrev sI_BadAt : Stmt := inClass (top 5) 0
abbrev sI_BadOrder : Stmt := inClass (top 6) 0
abbrev sI_BadChain : Stmt := inClass (top 7) 0
abbrev sI_BadNetText : Stmt := inClass (top 8) 0
abbrev sI_BadAnswer : Stmt := inClass (top 9) 0
abbrev sI_BadAnswerText : Stmt := inClass (top 10) 0
abbrev sI_BadWholeText : Stmt := inClass (top 11) 0
abbrev sI_BadGroup : Stmt := inClass (top 12) 0
abbrev sI_BadGate : Stmt := inClass (top 13) 0
abbrev sI_BadWire : Stmt := inClass (top 14) 0
abbrev sI_BadBound : Stmt := inClass (top 15) 0
abbrev sI_DarkPanel : Stmt := inClass (top 16) 0
abbrev sI_BadBegin : Stmt := inClass (top 18) 0
abbrev sI_BadEnd : Stmt := inClass (top 19) 0
abbrev sI_BadLit : Stmt := inClass (top 20) 0
abbrev sI_BadDark : Stmt := inClass (top 21) 0
abbrev sI_BadWires : Stmt := inClass (top 22) 0
abbrev sI_BadPrices : Stmt := inClass (top 23) 0
abbrev sI_BadDrop : Stmt := inClass (top 24) 0
abbrev sI_BadWishes : Stmt := inClass (top 25) 0
abbrev sI_BadFlips : Stmt := inClass (top 26) 0
abbrev sI_BadSums : Stmt := inClass (top 27) 0
abbrev sI_BadFormula : Stmt := inClass (top 28) 0
abbrev sI_BadPanels : Stmt := inClass (top 29) 0
abbrev sI_BadLamp : Stmt := inClass (top 30) 0
abbrev sI_BadShared : Stmt := inClass (top 31) 0
abbrev sI_BadShare : Stmt := inClass (top 32) 0
abbrev sI_DarkPanels : Stmt := inClass (top 33) 0
abbrev sI_BadEdit : Stmt := inClass (top 34) 0
abbrev sI_BadDesk : Stmt := inClass (top 35) 0
abbrev sI_BadDeskText : Stmt := inClass (top 36) 0
abbrev sI_BadMachine : Stmt := inClass (top 40) 0
abbrev sI_BadLamps : Stmt := inClass (top 41) 0
abbrev sI_BadStates : Stmt := inClass (top 42) 0
abbrev sI_BadMoves : Stmt := inClass (top 43) 0
abbrev sI_BadName : Stmt := inClass (top 44) 0
abbrev sI_BadWalk : Stmt := inClass (top 45) 0
abbrev sI_BadMachineText : Stmt := inClass (top 46) 0
abbrev sI_BadCode : Stmt := inClass (top 47) 0
abbrev sI_BadMove : Stmt := inClass (top 48) 0
abbrev sI_BadNets : Stmt := inClass (top 49) 0
abbrev sI_BadRuns : Stmt := inClass (top 50) 0
abbrev sI_BadLog : Stmt := inClass (top 51) 0
abbrev sI_BadLogText : Stmt := inClass (top 52) 0
abbrev sI_BadMany : Stmt := inClass (top 54) 0
abbrev sI_BadNumber : Stmt := inClass (top 55) 0
abbrev sI_BadCell : Stmt := inClass (top 56) 0
abbrev sI_BadCube : Stmt := inClass (top 57) 0
abbrev sI_BadOther : Stmt := inClass (top 58) 0
abbrev sI_BadCubes : Stmt := inClass (top 59) 0
abbrev sI_BadLevers : Stmt := inClass (top 60) 0
abbrev sI_BadTable : Stmt := inClass (top 61) 0
abbrev sI_BadBursts : Stmt := inClass (top 62) 0
abbrev sI_BadPanel : Stmt := inClass (top 63) 0
abbrev sI_BadIndex : Stmt := inClass (top 64) 0
abbrev sI_BadSign : Stmt := inClass (top 65) 0
abbrev sI_BadOn : Stmt := inClass (top 66) 0
abbrev sI_BadOff : Stmt := inClass (top 67) 0
abbrev sI_BadClash : Stmt := inClass (top 68) 0
abbrev sI_BadPanelText : Stmt := inClass (top 69) 0
abbrev sI_BadPath : Stmt := inClass (top 70) 0
abbrev sI_BadStep : Stmt := inClass (top 71) 0
abbrev sI_BadSteps : Stmt := inClass (top 72) 0
abbrev s_law_start : Stmt := top 74
abbrev s_law_pick : Stmt := top 75
abbrev s_law_between : Stmt := top 76
abbrev s_law_same : Stmt := top 77
abbrev s_law_kinds_of : Stmt := top 78
abbrev s_law_others : Stmt := top 79
abbrev s_law_is_other : Stmt := top 80
abbrev s_law_made_first : Stmt := top 81
abbrev s_law_made_middle : Stmt := top 82
abbrev s_law_made_last : Stmt := top 83
abbrev s_law_made_at : Stmt := top 84
abbrev s_law_object : Stmt := top 85
abbrev s_law_very : Stmt := top 86
abbrev s_law : Stmt := top 87
def cls0 : List (PySem.Str × PySem.Str) := [("BadNet", "net"), ("BadRun", "run"), ("BadPlace", "place"), ("BadAt", "at"), ("BadOrder", "order"), ("BadChain", "chain"), ("BadNetText", "line"), ("BadAnswer", "answer"), ("BadAnswerText", "line"), ("BadWholeText", "line"), ("BadGroup", "group"), ("BadGate", "gate"), ("BadWire", "wire"), ("BadBound", "bound"), ("DarkPanel", "panel"), ("BadBegin", "begin"), ("BadEnd", "end"), ("BadLit", "index"), ("BadDark", "index"), ("BadWires", "wires")]
def cls1 : List (PySem.Str × PySem.Str) := [("BadPrices", "prices"), ("BadDrop", "drop"), ("BadWishes", "index"), ("BadFlips", "flips"), ("BadSums", "sums"), ("BadFormula", "formula"), ("BadPanels", "index"), ("BadLamp", "lamp"), ("BadShared", "shared"), ("BadShare", "share"), ("DarkPanels", "lamp"), ("BadEdit", "edit"), ("BadDesk", "desk"), ("BadDeskText", "line"), ("BadMachine", "machine"), ("BadLamps", "index"), ("BadStates", "index"), ("BadMoves", "index"), ("BadName", "name"), ("BadWalk", "index")]
def cls2 : List (PySem.Str × PySem.Str) := [("BadMachineText", "line"), ("BadCode", "code"), ("BadMove", "move"), ("BadNets", "nets"), ("BadRuns", "index"), ("BadLog", "log"), ("BadLogText", "line"), ("BadMany", "many"), ("BadNumber", "number"), ("BadCell", "cell"), ("BadCube", "cube"), ("BadOther", "other"), ("BadCubes", "index"), ("BadLevers", "index"), ("BadTable", "index"), ("BadBursts", "index"), ("BadPanel", "panel"), ("BadIndex", "index"), ("BadSign", "sign"), ("BadOn", "index")]
def cls3 : List (PySem.Str × PySem.Str) := [("BadOff", "index"), ("BadClash", "cell"), ("BadPanelText", "line"), ("BadPath", "path"), ("BadStep", "step"), ("BadSteps", "index")]
def cls : List (PySem.Str × PySem.Str) := cls0 ++ cls1 ++ cls2 ++ cls3
def plain : List PySem.Str := ["PanelError", "NothingToUndo", "NothingToRedo"]
end K89

set_option Elab.async false
set_option linter.all false
set_option maxRecDepth 100000
set_option maxHeartbeats 4000000
namespace K89
open PySem PySem.Spec PyProof.Rows L2 EV
/-! ### what is drawn -/
/-- the draws' state: at p, its cells at q, so many drawn -/
structure Dw (H : Hp) (p q : Addr) (n : Int) : Prop where
  ex : ∃ (cells : List Int) (cur mix : Int), H p = some (.lst [.ref q, .int cur, .int n, .int mix]) ∧ H q = some (.lst (cells.map V.int)) ∧ 0 ≤ cur ∧ 0 ≤ mix ∧ mix < 2147483647 ∧ cells.length ≤ 1000
  n0 : 0 ≤ n
/-- all but p and q is as it was -/
def Kp (p q : Addr) (H H' : Hp) : Prop := ∀ b o, H b = some o → b ≠ p → b ≠ q → H' b = some o
def spPick : Sp := fun vs H Q _ => ∃ (p q : Addr) (n many : Int), vs = [.ref p, .int many] ∧ Dw H p q n ∧ n < 1000000000 ∧ 1 ≤ many ∧ many < 1073741824 ∧
  ∀ r H', 0 ≤ r → r < many → Kp p q H H' → Dw H' p q (n + 1) → Q (.int r) H'
theorem Kp.refl {p q : Addr} {H : Hp} : Kp p q H H := fun _ _ h _ _ => h
theorem Kp.trans {p q : Addr} {H H1 H2 : Hp} (a : Kp p q H H1) (b : Kp p q H1 H2) : Kp p q H H2 := fun c o h h1 h2 => b c o (a c o h h1 h2) h1 h2
theorem Kp.at {p q a : Addr} {H : Hp} {o : HO} (h : a = p ∨ a = q) : Kp p q H (upd H a o) := fun b u e h1 h2 => by
  rw [upd_ne (by rcases h with z | z <;> rw [z] <;> assumption)]
  exact e
theorem Kp.new {p q a : Addr} {H : Hp} {o : HO} (h : H a = none) : Kp p q H (upd H a o) := fun b u e h1 h2 => by
  rw [upd_ne (ne_of_none e h)]
  exact e
section
variable {P : Program} {w : World} {K : PySem.W.Frag} {mg : PySem.Str → Option Value} {base : Heap} {f : Addr} {fd : FuncData}
theorem dp_ints {K : PySem.W.Frag} {H : Hp} : ∀ l : List Int, DpAll K H (l.map V.int) (l.map PyData.int)
  | [] => .nil
  | i :: r => .cons (.int i) (dp_ints r)
theorem lay_ints : ∀ l : List Int, PyData.canLayAll0 (l.map PyData.int) = true ∧ PyData.depthAll (l.map PyData.int) ≤ 1
  | [] => ⟨rfl, by decide⟩
  | i :: r => by
    obtain ⟨h1, h2⟩ := lay_ints r
    refine ⟨?_, ?_⟩
    · show ((PyData.int i).canLay0 && PyData.canLayAll0 (r.map PyData.int)) = true
      rw [h1]
      rfl
    · show max (PyData.int i).depth (PyData.depthAll (r.map PyData.int)) ≤ 1
      exact Nat.max_le.mpr ⟨Nat.zero_le 1, h2⟩
theorem shaped_ints (l : List Int) : SeqAt.shaped (.list (l.map PyData.int)) = true := by
  obtain ⟨h1, h2⟩ := lay_ints l
  unfold SeqAt.shaped
  have e1 : (PyData.list (l.map PyData.int)).canLay0 = true := h1
  have e2 : (PyData.list (l.map PyData.int)).depth ≤ 64 := by
    show PyData.depthAll (l.map PyData.int) + 1 ≤ 64
    omega
  rw [e1, decide_eq_true e2]
  rfl
abbrev FnP (K : PySem.W.Frag) (x : PySem.Str) (st : Stmt) (f : Addr) (fd : FuncData) : Prop := FunD K x x (defArgs st) (defBody st) (defScope st) [] [] f fd
theorem sc_pick : FnScope ["state", "many", "cell", "digit", "mixed"] ["state", "many"] (defScope s_law_pick) := ⟨rfl, rfl, rfl, by decide +kernel, rfl, by decide +kernel, by decide +kernel⟩
def PickW (p q : Addr) (n many : Int) (H : Hp) : Nat → L2.St → Hp → Prop := fun m σ H' => ∃ (cells : List Int) (cur mix : Int) (c : Option V), σ = [some (.ref p), some (.int many), c, none, none] ∧
  H' p = some (.lst [.ref q, .int cur, .int (n + 1), .int mix]) ∧ H' q = some (.lst (cells.map V.int)) ∧ 0 ≤ cur ∧ 0 ≤ mix ∧ mix < 2147483647 ∧ cells.length ≤ 1000 ∧ Kp p q H H' ∧ cells.length = m
theorem ok_pick (F : FnP K "_law_pick" s_law_pick f fd) (gA : mg "abs" = none) (gI : mg "int" = none) : FnOk P w K mg base CX0 1 f fd ["state", "many"] spPick := by
  refine F.ok sc_pick (fun vs H Q E h => ?_) (fun cdv A outer s H vs Q E hr h => ⟨_, PSs.nox
    (pss_cons (ps_asg (pe_op op_add (pe_ix ix_list (pv 0) pe_int (fun _ _ => rfl)) pe_int) (pg_sub (pv 0) pe_int set_list))
    (pss_cons (ps_while PassesOwn.never (PW.pt (pw_and (pt_cmpR op_eq (pe_ix ix_list (pv 0) pe_int (fun _ _ => rfl)) pe_int (nomark _))
        (pw_and1 (pt_cmpR (op_neD hr.units) (pe_ix ix_list (pv 0) pe_int (fun _ _ => rfl)) (pe_lst pa_nil) (nomark _)))))
      (pss_cons (ps_set (i := 2) sc_pick.nd rfl (Or.inl rfl) (pe_callB call_abs (by rfl) gA (by decide +kernel) (pa_cons
          (pe_bm PySem.F.plainAttrs_list PySem.F.slot_list_pop PySem.F.type_list_pop mt_popAt (pe_ix ix_list (pv 0) pe_int (fun _ _ => rfl)) (pa_cons pe_int pa_nil)) pa_nil)))
      (pss_cons (ps_asg (pe_op op_modN (pe_callTy call_int1 (by rfl) gI (by decide +kernel) (pa_cons (pe_op op_add (pe_op op_add (pe_op op_mul (pe_ix ix_list (pv 0) pe_int (fun _ _ => rfl)) pe_int) (pv 2)) pe_int) pa_nil)) pe_int) (pg_sub (pv 0) pe_int set_list))
      (pss_one (ps_asg (pe_ifExp (pt_cmpR op_ge (pv 2) (pe_op op_pow pe_int pe_int) (nomark _)) (pv 2) pe_int) (pg_sub (pv 0) pe_int set_list))))))
    (pss_cons (ps_if (pt_cmpR op_gt (pe_ix ix_list (pv 0) pe_int (fun _ _ => rfl)) pe_int (nomark _))
      (pss_cons (ps_set (i := 3) sc_pick.nd rfl (Or.inl rfl) (pe_op op_modN (pe_callTy call_int1 (by rfl) gI (by decide +kernel) (pa_cons (pe_ix ix_list (pv 0) pe_int (fun _ _ => rfl)) pa_nil)) (pv 1)))
      (pss_cons (ps_asg (pe_op op_fdivN (pe_ix ix_list (pv 0) pe_int (fun _ _ => rfl)) (pv 1)) (pg_sub (pv 0) pe_int set_list))
      (pss_one (ps_ret (pv 3))))) pss_nil)
    (pss_cons (ps_set (i := 4) sc_pick.nd rfl (Or.inl rfl) (pe_op op_modN (pe_callTy call_int1 (by rfl) gI (by decide +kernel) (pa_cons (pe_op op_pow (pe_op op_add (pe_op op_add (pe_ix ix_list (pv 0) pe_int (fun _ _ => rfl)) (pe_op op_mul pe_int (pe_ix ix_list (pv 0) pe_int (fun _ _ => rfl)))) pe_int) pe_int) pa_nil)) pe_int))
    (pss_one (ps_ret (pe_op op_modN (pe_op op_modN (pe_callTy call_int1 (by rfl) gI (by decide +kernel) (pa_cons (pe_op op_pow (pe_op op_add (pe_op op_add (pe_op op_mul (pv 4) pe_int) (pe_op op_mul pe_int (pe_ix ix_list (pv 0) pe_int (fun _ _ => rfl)))) pe_int) pe_int) pa_nil)) pe_int) (pv 1)))))))), ?_⟩)
  · obtain ⟨p, q, n, many, rfl, _⟩ := h
    rfl
  · obtain ⟨p, q, n, many, rfl, ⟨⟨cells, cur, mix, hp, hq, c0, m0, m1, hl⟩, n0⟩, n1, y1, y2, k⟩ := h
    have pq : p ≠ q := ne_of hp hq (by
      intro z
      have z1 := HO.lst.inj z
      cases cells with
      | nil => cases z1
      | cons a r => cases z1)
    have qp : q ≠ p := Ne.symm pq
    refine ⟨_, rfl, _, _, _, _, rfl, rfl, SqL.of hp, rfl, _, _, rfl, rfl, _, rfl, _, _, _, _, rfl, rfl, hp, rfl, ?_⟩
    refine ⟨PickW p q n many H, ⟨cells.length, cells, cur, mix, none, rfl, upd_same, by rw [upd_ne qp]; exact hq, c0, m0, m1, hl, Kp.at (.inl rfl), rfl⟩, ?_⟩
    clear hp hq c0 m0 m1 hl
    rintro m σ H' ⟨cells, cur, mix, c, rfl, hp, hq, c0, m0, m1, hl, kp, rfl⟩
    refine ⟨_, rfl, _, _, _, _, rfl, rfl, SqL.of hp, rfl, rfl, _, rfl, ?_⟩
    by_cases hc : cur = 0
    · subst hc
      refine iteT ?_
      refine ⟨_, rfl, _, _, _, _, rfl, rfl, SqL.of hp, rfl, (by decide), fun l hlN => ?_⟩
      have lp : p ≠ l := ne_of_none hp hlN
      have lq : q ≠ l := ne_of_none hq hlN
      have hp2 : upd H' l (.lst []) p = some (.lst [.ref q, .int 0, .int (n + 1), .int mix]) := by
        rw [upd_ne lp]
        exact hp
      have hq2 : upd H' l (.lst []) q = some (.lst (cells.map V.int)) := by
        rw [upd_ne lq]
        exact hq
      have kp2 : Kp p q H (upd H' l (.lst [])) := kp.trans (Kp.new hlN)
      refine ⟨.list (cells.map PyData.int), .list [], .lst (SqL.of hq2) (dp_ints _), .lst (SqL.of upd_same) .nil, shaped_ints _, rfl, _, rfl, ?_⟩
      generalize upd H' l (.lst []) = H2 at hp2 hq2 kp2
      clear hp hq kp hlN lp lq
      cases cells with
      | nil =>
        refine iteF ?_
        refine ⟨_, rfl, _, _, _, _, rfl, rfl, SqL.of hp2, rfl, _, _, rfl, rfl, _, rfl, ?_⟩
        refine iteF ?_
        have b1 : (mix + 7907 * (n + 1) + 104723).natAbs < 2 ^ 64 := by omega
        refine ⟨_, rfl, _, _, _, _, rfl, rfl, SqL.of hp2, rfl, _, rfl, _, _, _, _, rfl, rfl, SqL.of hp2, rfl, _, _, rfl, rfl, .inl ⟨by decide, by decide⟩, _, _, rfl, rfl, _, _, rfl, rfl, _, _, rfl, rfl, ⟨by decide, by decide, b1⟩, .inl ⟨_, rfl, _, _, rfl, rfl, (by show (2147483629 : Int) ≠ 0; decide), ?_⟩⟩
        have x0 := Int.fmod_nonneg_of_pos ((mix + 7907 * (n + 1) + 104723) ^ (5 : Int).toNat) (b := 2147483629) (by decide)
        have x1 := Int.fmod_lt_of_pos ((mix + 7907 * (n + 1) + 104723) ^ (5 : Int).toNat) (b := 2147483629) (by decide)
        have b2 : (((mix + 7907 * (n + 1) + 104723) ^ (5 : Int).toNat).fmod 2147483629 * 48271 + 30011 * (n + 1) + 31).natAbs < 2 ^ 64 := by
          generalize ((mix + 7907 * (n + 1) + 104723) ^ (5 : Int).toNat).fmod 2147483629 = m2 at x0 x1
          omega
        refine ⟨_, rfl, _, _, rfl, rfl, .inr ⟨by decide, by decide⟩, _, rfl, _, _, _, _, rfl, rfl, SqL.of hp2, rfl, _, _, rfl, rfl, .inl ⟨by decide, by decide⟩, _, _, rfl, rfl, _, _, rfl, rfl, _, _, rfl, rfl, ⟨by decide, by decide, b2⟩, .inl ⟨_, rfl, _, _, rfl, rfl, (by show (1000000007 : Int) ≠ 0; decide), _, rfl, _, _, rfl, rfl, by show many ≠ 0; omega, ?_⟩⟩
        exact k _ _ (Int.fmod_nonneg_of_pos _ (by omega)) (Int.fmod_lt_of_pos _ (by omega)) kp2 ⟨⟨[], 0, mix, hp2, hq2, Int.le_refl 0, m0, m1, hl⟩, by omega⟩
      | cons cell rest =>
        refine iteT ?_
        refine ⟨PickW p q n many H rest.length, fun σ' H' h => ⟨rest.length, by simp, h⟩, ?_⟩
        have e0 : seqIndex? 0 (cell :: rest |>.map V.int).length = some 0 := by
          simp [seqIndex?]
        refine ⟨_, rfl, _, _, _, _, rfl, rfl, SqL.of hp2, rfl, .inl ⟨rfl, _, SqL.of hq2⟩, _, _, _, _, _, rfl, rfl, hq2, by decide, by decide, e0, rfl, _, rfl, ?_⟩
        generalize hcl : (if cell < 0 then -cell else cell) = cl
        have d0 : 0 ≤ cl := by
          rw [← hcl]
          split <;> omega
        have hp3 : upd H2 q (.lst (((cell :: rest).map V.int).eraseIdx 0)) p = some (.lst [.ref q, .int 0, .int (n + 1), .int mix]) := by
          rw [upd_ne pq]
          exact hp2
        have hq3 : upd H2 q (.lst (((cell :: rest).map V.int).eraseIdx 0)) q = some (.lst (rest.map V.int)) := upd_same
        have kp3 := kp2.trans (Kp.at (p := p) (q := q) (o := .lst (((cell :: rest).map V.int).eraseIdx 0)) (.inr rfl) (H := H2))
        generalize upd H2 q (.lst (((cell :: rest).map V.int).eraseIdx 0)) = H3 at hp3 hq3 kp3
        refine ⟨_, rfl, _, _, _, _, rfl, rfl, SqL.of hp3, rfl, _, _, rfl, rfl, .inr ⟨by decide, by decide⟩, _, rfl, _, _, rfl, rfl, _, _, rfl, rfl, (.inl ⟨_, rfl, _, _, rfl, rfl, (by show (2147483647 : Int) ≠ 0; decide), _, rfl, _, _, _, _, rfl, rfl, hp3, rfl, ?_⟩)⟩
        have x0 := Int.fmod_nonneg_of_pos (mix * 6151 + cl + 5) (b := 2147483647) (by decide)
        have x1 := Int.fmod_lt_of_pos (mix * 6151 + cl + 5) (b := 2147483647) (by decide)
        have hl2 : rest.length ≤ 1000 := by
          have z : rest.length + 1 ≤ 1000 := hl
          omega
        refine ⟨_, rfl, _, _, rfl, rfl, ⟨by decide, by decide, by decide⟩, _, _, rfl, rfl, _, rfl, ite2 (fun _ => ⟨_, rfl, _, rfl, _, _, _, _, rfl, rfl, upd_same, rfl, ?_⟩) (fun _ => ⟨_, rfl, _, _, _, _, rfl, rfl, upd_same, rfl, ?_⟩)⟩
        · exact ⟨rest, cl, _, some (.int cl), rfl, upd_same, by rw [upd_ne qp, upd_ne qp]; exact hq3, d0, x0, x1, hl2, (kp3.trans (Kp.at (.inl rfl))).trans (Kp.at (.inl rfl)), rfl⟩
        · exact ⟨rest, 0, _, some (.int cl), rfl, upd_same, by rw [upd_ne qp, upd_ne qp]; exact hq3, Int.le_refl 0, x0, x1, hl2, (kp3.trans (Kp.at (.inl rfl))).trans (Kp.at (.inl rfl)), rfl⟩
    · have ne0 : decide (V.int cur = V.int 0) = false := decide_eq_false fun z => hc (V.int.inj z)
      rw [ne0]
      refine iteF (iteF ?_)
      refine ⟨_, rfl, _, _, _, _, rfl, rfl, SqL.of hp, rfl, _, _, rfl, rfl, _, rfl, ite2 (fun _ => ?_) (fun z => absurd (decide_eq_true (show (0 : Int) < cur by omega)) z)⟩
      refine ⟨_, rfl, _, _, _, _, rfl, rfl, SqL.of hp, rfl, .inl ⟨_, rfl, _, rfl, _, _, rfl, rfl, by show many ≠ 0; omega, ?_⟩⟩
      refine ⟨_, rfl, _, _, _, _, rfl, rfl, SqL.of hp, rfl, _, rfl, _, _, rfl, rfl, ⟨by show many ≠ 0; omega, by show many.natAbs < _; omega⟩, _, rfl, _, _, _, _, rfl, rfl, hp, rfl, ?_⟩
      refine ⟨_, rfl, ?_⟩
      refine k _ _ (Int.fmod_nonneg_of_pos _ (by omega)) (Int.fmod_lt_of_pos _ (by omega)) (kp.trans (Kp.at (.inl rfl))) ⟨⟨cells, cur.fdiv many, mix, upd_same, by rw [upd_ne qp]; exact hq, ?_, m0, m1, hl⟩, by omega⟩
      rw [Int.fdiv_eq_ediv_of_nonneg _ (by omega)]
      exact Int.ediv_nonneg c0 (by omega)
end
end K89

set_option Elab.async false
set_option linter.all false
set_option maxRecDepth 100000
set_option maxHeartbeats 4000000
namespace K89
open PySem PySem.Spec PyProof.Rows L2 EV He
/-! ### what the head tells -/
def names : List PySem.Str := cls.map (·.1) ++ plain
structure Tx (K : PySem.W.Frag) (mg : PySem.Str → Option Value) : Prop where
  ex : exAll cls plain K = true
  gl : ∀ x, excB K x = true → mg x = some (.ref (ga K x))
  fr : ∀ x ∈ (["abs", "int", "max", "isinstance", "range", "list", "tuple", "dict", "bool", "str", "len", "all", "zip", "ValueError"] : List PySem.Str), mg x = none
section
variable {K : PySem.W.Frag} {mg : PySem.Str → Option Value} {x y : PySem.Str} {a : Addr} {H : Hp} {Q : VK}
theorem Tx.cb (T : Tx K mg) : classB K = true := (bA T.ex).1
theorem Tx.one (T : Tx K mg) {p : PySem.Str × PySem.Str} (h : p ∈ cls) : excB K p.1 = true ∧ iniB K p = true :=
  bA (List.all_eq_true.mp (bA (bA (bA T.ex).2).2).1 p h)
theorem Tx.exc (T : Tx K mg) (h : x ∈ names) : excB K x = true := by
  rcases List.mem_append.mp h with h | h
  · obtain ⟨p, hp, e⟩ := List.mem_map.mp h
    rw [← e]
    exact (T.one hp).1
  · exact List.all_eq_true.mp (bA (bA (bA (bA T.ex).2).2).2).1 x h
theorem nodup_inj {α β : Type} {f : α → β} : ∀ {l : List α}, (l.map f).Nodup → ∀ {x y : α}, x ∈ l → y ∈ l → f x = f y → x = y
  | [], _, _, _, h, _, _ => by cases h
  | a :: r, n, x, y, hx, hy, e => by
    rw [List.map_cons, List.nodup_cons] at n
    rcases List.mem_cons.mp hx with e1 | h1
    · rcases List.mem_cons.mp hy with e2 | h2
      · rw [e1, e2]
      · exact absurd (List.mem_map.mpr ⟨y, h2, by rw [← e, e1]⟩) n.1
    · rcases List.mem_cons.mp hy with e2 | h2
      · exact absurd (List.mem_map.mpr ⟨x, h1, by rw [e, e2]⟩) n.1
      · exact nodup_inj n.2 h1 h2 e
theorem Tx.inj (T : Tx K mg) (hx : x ∈ names) (hy : y ∈ names) (e : ga K x = ga K y) : x = y := by
  have n := of_decide_eq_true (bA (bA (bA (bA (bA T.ex).2).2).2).2).1
  exact nodup_inj (f := ga K) (l := names) n hx hy e
theorem pE_in : pE ∈ names := by decide +kernel
theorem Tx.kit (T : Tx K mg) (hx : x ∈ names) (hy : y ∈ names) : PySem.W.kitOne K (.ref (ga K x)) (.ref (ga K y)) = some (decide (x = y) || decide (y = pE)) :=
  kit_own (T.exc hx) (T.exc hy) (T.inj hx hy) fun e => (T.inj pE_in hy e).symm
theorem Tx.kitT (T : Tx K mg) (hx : x ∈ names) {t : String} (m : PySem.W.kitMeta t = true) : PySem.W.kitOne K (.ref (ga K x)) (.type t) = some (veT.contains (.type t)) := kit_type (T.exc hx) m
theorem Tx.gb (T : Tx K mg) (hx : x ∈ names) : mg x = some (.ref (ga K x)) := T.gl x (T.exc hx)
/-- isinstance(e, y) -/
theorem r_is (T : Tx K mg) (hx : x ∈ names) (hy : y ∈ names) (h : IsEr H a (ga K x)) (q : Q (.bl (decide (x = y) || decide (y = pE))) H) : rIsEr K [.ref a, .ref (ga K y)] H Q :=
  ⟨a, ga K x, _, _, _, rfl, .own _, excC_of T.cb (T.exc hx), h, T.kit hx hy, q⟩
theorem r_isT (T : Tx K mg) (hx : x ∈ names) {t : String} (m : PySem.W.kitMeta t = true) (h : IsEr H a (ga K x)) (q : Q (.bl (veT.contains (.type t))) H) : rIsEr K [.ref a, .ty t] H Q :=
  ⟨a, ga K x, _, _, _, rfl, .ty _, excC_of T.cb (T.exc hx), h, T.kitT hx m, q⟩
end
/-! ### a class's own __init__ -/
def IniOk (P : Program) (w : World) (K : PySem.W.Frag) (mg : PySem.Str → Option Value) (base : Heap) (p : PySem.Str × PySem.Str) : Prop :=
  ∃ fd : FuncData, FnOk P w K mg base CX0 1 (ma K (ga K p.1) "__init__") fd ["self", p.2] (spI (ga K p.1) p.2) ∧
    (∀ (s : Shared) (u v : Value), K.In s.heap → BindsTo s fd ⟨[u, v], []⟩ [("self", u), (p.2, v)]) ∧ ∀ (s : Shared) (u v : Value), K.In s.heap → BindsTo s fd ⟨[u], [(p.2, v)]⟩ [("self", u), (p.2, v)]
section
variable {X : Cx} {x f : PySem.Str} {e : Expr} {te : TE} {p pos kp : Pos}
theorem pe_C (T : Tx X.K X.mg) (hI : ∀ p ∈ cls, IniOk X.prog X.w X.K X.mg X.base p) (hx : (x, f) ∈ cls) (hr : Room 2 X.A) (hg : Gl X x) (he : PE X e te)
    (hdb : (x == ("__debug__" : PySem.Str)) = false := by decide) (hs : starEach [e] X.env = (false, eval e X.env) :: starEach [] X.env := by rfl) (hpl : (backTo pos (starEach [] X.env)).any (·.1) = false := by rfl) :
    PE X (.Call (.Name x p) [e] [] pos) (tNew (ga X.K x) f te) := by
  obtain ⟨fd, F, b, _⟩ := hI _ hx
  have o := T.one hx
  exact pe_new (err_of o.1 o.2) F hr b pass0 hg (T.gl _ o.1) he hdb hs hpl
theorem pe_CK (T : Tx X.K X.mg) (hI : ∀ p ∈ cls, IniOk X.prog X.w X.K X.mg X.base p) (hx : (x, f) ∈ cls) (hr : Room 2 X.A) (hg : Gl X x) (he : PE X e te)
    (hall : (backToKw pos (keywordEach [⟨some f, e, kp⟩] X.env)).all (·.1.isSome) = true := by rfl) (hks : (backToKw pos (keywordEach [⟨some f, e, kp⟩] X.env)).filterMap (·.1) = [f] := by rfl) (hdb : (x == ("__debug__" : PySem.Str)) = false := by decide)
    (hpl : ((backTo pos (starEach [] X.env)).any (·.1) || (backToKw pos (keywordEach [⟨some f, e, kp⟩] X.env)).any (·.1.isNone)) = false := by rfl) :
    PE X (.Call (.Name x p) [] [⟨some f, e, kp⟩] pos) (tNew (ga X.K x) f te) := by
  obtain ⟨fd, F, _, b⟩ := hI _ hx
  have o := T.one hx
  exact pe_newK (err_of o.1 o.2) F hr b pass0 hg (T.gl _ o.1) he hall hks hdb hpl
end
end K89

set_option Elab.async false
set_option linter.all false
set_option maxRecDepth 100000
set_option maxHeartbeats 0
namespace K89
open PySem PySem.Spec PyProof.Rows L2 EV
def mkD (a : PySem.Str × Option PySem.Str) (n q : PySem.Str) (s : Stmt) : He.DefD := ⟨a, n, q, defArgs s, defBody s, defScope s, [], []⟩
def fn0 : List He.DefD := [mkD ("BadNet", some "__init__") "__init__" "BadNet.__init__" (inClass (top 2) 0),
  mkD ("BadRun", some "__init__") "__init__" "BadRun.__init__" (inClass (top 3) 0),
  mkD ("BadPlace", some "__init__") "__init__" "BadPlace.__init__" (inClass (top 4) 0),
  mkD ("BadAt", some "__init__") "__init__" "BadAt.__init__" (inClass (top 5) 0),
  mkD ("BadOrder", some "__init__") "__init__" "BadOrder.__init__" (inClass (top 6) 0),
  mkD ("BadChain", some "__init__") "__init__" "BadChain.__init__" (inClass (top 7) 0),
  mkD ("BadNetText", some "__init__") "__init__" "BadNetText.__init__" (inClass (top 8) 0),
  mkD ("BadAnswer", some "__init__") "__init__" "BadAnswer.__init__" (inClass (top 9) 0),
  mkD ("BadAnswerText", some "__init__") "__init__" "BadAnswerText.__init__" (inClass (top 10) 0),
  mkD ("BadWholeText", some "__init__") "__init__" "BadWholeText.__init__" (inClass (top 11) 0),
  mkD ("BadGroup", some "__init__") "__init__" "BadGroup.__init__" (inClass (top 12) 0),
  mkD ("BadGate", some "__init__") "__init__" "BadGate.__init__" (inClass (top 13) 0),
  mkD ("BadWire", some "__init__") "__init__" "BadWire.__init__" (inClass (top 14) 0),
  mkD ("BadBound", some "__init__") "__init__" "BadBound.__init__" (inClass (top 15) 0),
  mkD ("DarkPanel", some "__init__") "__init__" "DarkPanel.__init__" (inClass (top 16) 0),
  mkD ("BadBegin", some "__init__") "__init__" "BadBegin.__init__" (inClass (top 18) 0),
  mkD ("BadEnd", some "__init__") "__init__" "BadEnd.__init__" (inClass (top 19) 0),
  mkD ("BadLit", some "__init__") "__init__" "BadLit.__init__" (inClass (top 20) 0),
  mkD ("BadDark", some "__init__") "__init__" "BadDark.__init__" (inClass (top 21) 0),
  mkD ("BadWires", some "__init__") "__init__" "BadWires.__init__" (inClass (top 22) 0),
  mkD ("BadPrices", some "__init__") "__init__" "BadPrices.__init__" (inClass (top 23) 0),
  mkD ("BadDrop", some "__init__") "__init__" "BadDrop.__init__" (inClass (top 24) 0),
  mkD ("BadWishes", some "__init__") "__init__" "BadWishes.__init__" (inClass (top 25) 0),
  mkD ("BadFlips", some "__init__") "__init__" "BadFlips.__init__" (inClass (top 26) 0),
  mkD ("BadSums", some "__init__") "__init__" "BadSums.__init__" (inClass (top 27) 0),
  mkD ("BadFormula", some "__init__") "__init__" "BadFormula.__init__" (inClass (top 28) 0),
  mkD ("BadPanels", some "__init__") "__init__" "BadPanels.__init__" (inClass (top 29) 0)]
def fn1 : List He.DefD := [mkD ("BadLamp", some "__init__") "__init__" "BadLamp.__init__" (inClass (top 30) 0),
  mkD ("BadShared", some "__init__") "__init__" "BadShared.__init__" (inClass (top 31) 0),
  mkD ("BadShare", some "__init__") "__init__" "BadShare.__init__" (inClass (top 32) 0),
  mkD ("DarkPanels", some "__init__") "__init__" "DarkPanels.__init__" (inClass (top 33) 0),
  mkD ("BadEdit", some "__init__") "__init__" "BadEdit.__init__" (inClass (top 34) 0),
  mkD ("BadDesk", some "__init__") "__init__" "BadDesk.__init__" (inClass (top 35) 0),
  mkD ("BadDeskText", some "__init__") "__init__" "BadDeskText.__init__" (inClass (top 36) 0),
  mkD ("BadMachine", some "__init__") "__init__" "BadMachine.__init__" (inClass (top 40) 0),
  mkD ("BadLamps", some "__init__") "__init__" "BadLamps.__init__" (inClass (top 41) 0),
  mkD ("BadStates", some "__init__") "__init__" "BadStates.__init__" (inClass (top 42) 0),
  mkD ("BadMoves", some "__init__") "__init__" "BadMoves.__init__" (inClass (top 43) 0),
  mkD ("BadName", some "__init__") "__init__" "BadName.__init__" (inClass (top 44) 0),
  mkD ("BadWalk", some "__init__") "__init__" "BadWalk.__init__" (inClass (top 45) 0),
  mkD ("BadMachineText", some "__init__") "__init__" "BadMachineText.__init__" (inClass (top 46) 0),
  mkD ("BadCode", some "__init__") "__init__" "BadCode.__init__" (inClass (top 47) 0),
  mkD ("BadMove", some "__init__") "__init__" "BadMove.__init__" (inClass (top 48) 0),
  mkD ("BadNets", some "__init__") "__init__" "BadNets.__init__" (inClass (top 49) 0),
  mkD ("BadRuns", some "__init__") "__init__" "BadRuns.__init__" (inClass (top 50) 0),
  mkD ("BadLog", some "__init__") "__init__" "BadLog.__init__" (inClass (top 51) 0),
  mkD ("BadLogText", some "__init__") "__init__" "BadLogText.__init__" (inClass (top 52) 0),
  mkD ("BadMany", some "__init__") "__init__" "BadMany.__init__" (inClass (top 54) 0),
  mkD ("BadNumber", some "__init__") "__init__" "BadNumber.__init__" (inClass (top 55) 0),
  mkD ("BadCell", some "__init__") "__init__" "BadCell.__init__" (inClass (top 56) 0),
  mkD ("BadCube", some "__init__") "__init__" "BadCube.__init__" (inClass (top 57) 0),
  mkD ("BadOther", some "__init__") "__init__" "BadOther.__init__" (inClass (top 58) 0),
  mkD ("BadCubes", some "__init__") "__init__" "BadCubes.__init__" (inClass (top 59) 0),
  mkD ("BadLevers", some "__init__") "__init__" "BadLevers.__init__" (inClass (top 60) 0)]
def fn2 : List He.DefD := [mkD ("BadTable", some "__init__") "__init__" "BadTable.__init__" (inClass (top 61) 0),
  mkD ("BadBursts", some "__init__") "__init__" "BadBursts.__init__" (inClass (top 62) 0),
  mkD ("BadPanel", some "__init__") "__init__" "BadPanel.__init__" (inClass (top 63) 0),
  mkD ("BadIndex", some "__init__") "__init__" "BadIndex.__init__" (inClass (top 64) 0),
  mkD ("BadSign", some "__init__") "__init__" "BadSign.__init__" (inClass (top 65) 0),
  mkD ("BadOn", some "__init__") "__init__" "BadOn.__init__" (inClass (top 66) 0),
  mkD ("BadOff", some "__init__") "__init__" "BadOff.__init__" (inClass (top 67) 0),
  mkD ("BadClash", some "__init__") "__init__" "BadClash.__init__" (inClass (top 68) 0),
  mkD ("BadPanelText", some "__init__") "__init__" "BadPanelText.__init__" (inClass (top 69) 0),
  mkD ("BadPath", some "__init__") "__init__" "BadPath.__init__" (inClass (top 70) 0),
  mkD ("BadStep", some "__init__") "__init__" "BadStep.__init__" (inClass (top 71) 0),
  mkD ("BadSteps", some "__init__") "__init__" "BadSteps.__init__" (inClass (top 72) 0),
  mkD ("_law_start", none) "_law_start" "_law_start" (top 74),
  mkD ("_law_pick", none) "_law_pick" "_law_pick" (top 75),
  mkD ("_law_between", none) "_law_between" "_law_between" (top 76),
  mkD ("_law_same", none) "_law_same" "_law_same" (top 77),
  mkD ("_law_kinds_of", none) "_law_kinds_of" "_law_kinds_of" (top 78),
  mkD ("_law_others", none) "_law_others" "_law_others" (top 79),
  mkD ("_law_is_other", none) "_law_is_other" "_law_is_other" (top 80),
  mkD ("_law_made_first", none) "_law_made_first" "_law_made_first" (top 81),
  mkD ("_law_made_middle", none) "_law_made_middle" "_law_made_middle" (top 82),
  mkD ("_law_made_last", none) "_law_made_last" "_law_made_last" (top 83),
  mkD ("_law_made_at", none) "_law_made_at" "_law_made_at" (top 84),
  mkD ("_law_object", none) "_law_object" "_law_object" (top 85),
  mkD ("_law_very", none) "_law_very" "_law_very" (top 86),
  mkD ("law", none) "law" "law" (top 87)]
def fa0 : List He.Fa := [.glo "_law_start", .glo "_law_pick", .glo "_law_between", .glo "_law_same", .glo "_law_kinds_of", .glo "_law_others", .glo "_law_is_other", .glo "_law_made_first", .glo "_law_made_middle", .glo "_law_made_last", .glo "_law_made_at", .glo "_law_object", .glo "_law_very", .glo "law", .free "abs", .free "int", .free "max", .free "isinstance", .free "range", .free "list"]
def fa1 : List He.Fa := [.free "tuple", .free "dict", .free "bool", .free "str", .free "len", .free "all", .free "zip", .free "ValueError", .free "KeyError", .free "IndexError", .free "TypeError"]
def fa : List He.Fa := fa0 ++ fa1
def fl : List (List He.Fa × List He.DefD) := [(fa, []), ([], fn0), ([], fn1), ([], fn2)]
def loose0 : List PySem.Str := ["PanelError", "BadNet", "BadRun", "BadPlace", "BadAt", "BadOrder", "BadChain", "BadNetText", "BadAnswer", "BadAnswerText", "BadWholeText", "BadGroup", "BadGate", "BadWire", "BadBound", "DarkPanel", "BadBegin", "BadEnd", "BadLit", "BadDark", "BadWires", "BadPrices", "BadDrop", "BadWishes", "BadFlips", "BadSums", "BadFormula", "BadPanels", "BadLamp", "BadShared"]
def loose1 : List PySem.Str := ["BadShare", "DarkPanels", "BadEdit", "BadDesk", "BadDeskText", "NothingToUndo", "NothingToRedo", "BadMachine", "BadLamps", "BadStates", "BadMoves", "BadName", "BadWalk", "BadMachineText", "BadCode", "BadMove", "BadNets", "BadRuns", "BadLog", "BadLogText", "BadMany", "BadNumber", "BadCell", "BadCube", "BadOther", "BadCubes", "BadLevers", "BadTable", "BadBursts", "BadPanel"]
def loose2 : List PySem.Str := ["BadIndex", "BadSign", "BadOn", "BadOff", "BadClash", "BadPanelText", "BadPath", "BadStep", "BadSteps", "_law_start", "_law_pick", "_law_between", "_law_same", "_law_kinds_of", "_law_others", "_law_is_other", "_law_made_first", "_law_made_middle", "_law_made_last", "_law_made_at", "_law_object", "_law_very"]
def loose : List PySem.Str := loose0 ++ loose1 ++ loose2
def ad0 : List Addr := [3, 24, 23, 44, 43, 41, 40, 63, 62, 60, 59, 82, 81, 79, 78, 101, 100, 98, 97, 120, 119, 117, 116, 139, 138, 136, 135, 158, 157, 155, 154, 177, 176, 174, 173, 196, 195, 193, 192, 215, 214, 212, 211, 234, 233, 231, 230, 253, 252, 250, 249, 272, 271, 269, 268, 291, 290, 288, 287, 310, 309, 307, 306, 329, 328, 326, 325, 348, 347, 345, 344, 367, 366, 364, 363, 386, 385, 383, 382, 405, 404, 402, 401, 424, 423, 421, 420, 443, 442, 440, 439, 462, 461, 459, 458, 481, 480, 478, 477, 500]
def ad1 : List Addr := [499, 497, 496, 519, 518, 516, 515, 538, 537, 535, 534, 557, 556, 554, 553, 576, 575, 573, 572, 595, 594, 592, 591, 614, 613, 611, 610, 633, 632, 630, 629, 652, 651, 649, 648, 671, 670, 668, 667, 683, 682, 695, 694, 714, 713, 711, 710, 733, 732, 730, 729, 752, 751, 749, 748, 771, 770, 768, 767, 790, 789, 787, 786, 809, 808, 806, 805, 828, 827, 825, 824, 847, 846, 844, 843, 866, 865, 863, 862, 885, 884, 882, 881, 904, 903, 901, 900, 923, 922, 920, 919, 942, 941, 939, 938, 961, 960, 958, 957, 980]
def ad2 : List Addr := [979, 977, 976, 999, 998, 996, 995, 1018, 1017, 1015, 1014, 1037, 1036, 1034, 1033, 1056, 1055, 1053, 1052, 1075, 1074, 1072, 1071, 1094, 1093, 1091, 1090, 1113, 1112, 1110, 1109, 1132, 1131, 1129, 1128, 1151, 1150, 1148, 1147, 1170, 1169, 1167, 1166, 1189, 1188, 1186, 1185, 1208, 1207, 1205, 1204, 1227, 1226, 1224, 1223, 1246, 1245, 1243, 1242, 1265, 1264, 1262, 1261, 1284, 1283, 1281, 1280, 1303, 1302, 1300, 1299, 1312, 1311, 1319, 1318, 1326, 1325, 1331, 1330, 1336, 1335, 1343, 1342, 1350, 1349, 1355, 1354, 1360, 1359, 1365, 1364, 1372, 1371, 1379, 1378, 1386, 1385, 1391, 1390]
def ad : List Addr := ad0 ++ ad1 ++ ad2
def ex (K : PySem.W.Frag) : Bool := exP cls plain K && (exQ cls0 K && (exQ cls1 K && (exQ cls2 K && (exQ cls3 K))))
theorem ex_all {K : PySem.W.Frag} (h : ex K = true) : exAll cls plain K = true := by
  obtain ⟨h0, h⟩ := bA h
  obtain ⟨q0, h⟩ := bA h
  obtain ⟨q1, h⟩ := bA h
  obtain ⟨q2, h⟩ := bA h
  exact exAll_of h0 (exQ_app (exQ_app (exQ_app q0 q1) q2) h)
abbrev R : PySem.W.OpenRow := PySem.W.OpenLaw.row PySem.Challenge.rw_steadynets_k89_errors_of_nets_and_answer
abbrev hk : PySem.W.Hook := hookM fl ex ad
def Kf (s : PySem.W.SharedT) : PySem.W.Frag := He.frG (HandSHeadRun.getT s) ad
def ob (s : PySem.W.SharedT) : List He.AlD × Bool := obsM fl ex ad (HandSHeadRun.getT s)
theorem ob_eq (s : PySem.W.SharedT) : ob s = hk.obs s.abs := obsM_eq (HandSHeadRun.getT_eq s)
end K89
namespace K89
open PySem PySem.W PySem.Calls PyProof.Rows EV
noncomputable def endT (w : World) (os : OsState) : Option PySem.W.SharedT := HandSHeadRun.endF (HandSHeadRun.stepQ (HandSHeadRun.denQ HandSHeadRun.tabQ) R.prog w) 40000 R.prog w os
def RunC (w : World) : Prop := ∀ os : OsState, (endT w os).map (fun s => (HandSHeadRun.looksF R.prog (boot_heap w.params) s.abs, HandSHeadRun.seenQ (view R.prog [87]) loose (importedModules R.prog.main.body) (fun s => xlAt (view R.prog [87]) [] s && recOk R.toRowW.records s) s.abs)) = some (true, openGood (view R.prog [87]) loose)
abbrev wF (w : World) : World := w.withFollow "special-get-raises" false
abbrev wT (w : World) : World := w.withFollow "special-get-raises" true
theorem map_fst {α β γ : Type} {o : Option α} {f : α → β} {g : α → γ} {a : β} {b : γ} (h : o.map (fun s => (f s, g s)) = some (a, b)) : o.map f = some a := by
  cases o with
  | none => cases h
  | some s => exact congrArg some (congrArg Prod.fst (Option.some.inj h))
theorem map_snd {α β γ : Type} {o : Option α} {f : α → β} {g : α → γ} {a : β} {b : γ} (h : o.map (fun s => (f s, g s)) = some (a, b)) : o.map g = some b := by
  cases o with
  | none => cases h
  | some s => exact congrArg some (congrArg Prod.snd (Option.some.inj h))
theorem map_an {α : Type} {o : Option α} {f g : α → Bool} (h : o.map (fun s => f s && g s) = some true) : o.map f = some true ∧ o.map g = some true := by
  cases o with
  | none => cases h
  | some s =>
    obtain ⟨x, y⟩ := bA (Option.some.inj h)
    exact ⟨congrArg some x, congrArg some y⟩
theorem rl_0 (w : World) (os : OsState) : (endT (wF w) os).map (fun s => HandSHeadRun.looksF R.prog (boot_heap (wF w).params) s.abs) = some true := by
  kernel_rfl
theorem rl_1 (w : World) (os : OsState) : (endT (wT w) os).map (fun s => HandSHeadRun.looksF R.prog (boot_heap (wT w).params) s.abs) = some true := by
  kernel_rfl
theorem rs_0 (w : World) (os : OsState) : (endT (wF w) os).map (fun s => HandSHeadRun.seenQ (view R.prog [87]) loose (importedModules R.prog.main.body) (fun s => xlAt (view R.prog [87]) [] s && recOk R.toRowW.records s) s.abs) = some (openGood (view R.prog [87]) loose) := by
  kernel_rfl
theorem rs_1 (w : World) (os : OsState) : (endT (wT w) os).map (fun s => HandSHeadRun.seenQ (view R.prog [87]) loose (importedModules R.prog.main.body) (fun s => xlAt (view R.prog [87]) [] s && recOk R.toRowW.records s) s.abs) = some (openGood (view R.prog [87]) loose) := by
  kernel_rfl
theorem runC0 (w : World) : RunC (wF w) := fun os => map_pair (rl_0 w os) (rs_0 w os)
theorem runC1 (w : World) : RunC (wT w) := fun os => map_pair (rl_1 w os) (rs_1 w os)
theorem rg_0 (w : World) (os : OsState) : (endT (wF w) os).map (fun s => (He.obsD fa [] (Kf s), He.obsD [] fn0 (Kf s))) = some (He.valD [], He.valD fn0) := by
  kernel_rfl
theorem rg_1 (w : World) (os : OsState) : (endT (wT w) os).map (fun s => (He.obsD fa [] (Kf s), He.obsD [] fn0 (Kf s))) = some (He.valD [], He.valD fn0) := by
  kernel_rfl
theorem rf0_0 (w : World) (os : OsState) : (endT (wF w) os).map (fun s => He.obsD fa [] (Kf s)) = some (He.valD []) := map_fst (rg_0 w os)
theorem rf1_0 (w : World) (os : OsState) : (endT (wF w) os).map (fun s => He.obsD [] fn0 (Kf s)) = some (He.valD fn0) := map_snd (rg_0 w os)
theorem rf0_1 (w : World) (os : OsState) : (endT (wT w) os).map (fun s => He.obsD fa [] (Kf s)) = some (He.valD []) := map_fst (rg_1 w os)
theorem rf1_1 (w : World) (os : OsState) : (endT (wT w) os).map (fun s => He.obsD [] fn0 (Kf s)) = some (He.valD fn0) := map_snd (rg_1 w os)
theorem rf2_0 (w : World) (os : OsState) : (endT (wF w) os).map (fun s => He.obsD [] fn1 (Kf s)) = some (He.valD fn1) := by
  kernel_rfl
theorem rf2_1 (w : World) (os : OsState) : (endT (wT w) os).map (fun s => He.obsD [] fn1 (Kf s)) = some (He.valD fn1) := by
  kernel_rfl
theorem rf3_0 (w : World) (os : OsState) : (endT (wF w) os).map (fun s => He.obsD [] fn2 (Kf s)) = some (He.valD fn2) := by
  kernel_rfl
theorem rf3_1 (w : World) (os : OsState) : (endT (wT w) os).map (fun s => He.obsD [] fn2 (Kf s)) = some (He.valD fn2) := by
  kernel_rfl
theorem re_0 (w : World) (os : OsState) : (endT (wF w) os).map (fun s => exP cls plain (Kf s)) = some true := by
  kernel_rfl
theorem re_1 (w : World) (os : OsState) : (endT (wT w) os).map (fun s => exP cls plain (Kf s)) = some true := by
  kernel_rfl
theorem rp0_0 (w : World) (os : OsState) : (endT (wF w) os).map (fun s => exQ cls0 (Kf s) && exQ cls1 (Kf s)) = some true := by
  kernel_rfl
theorem rp0_1 (w : World) (os : OsState) : (endT (wT w) os).map (fun s => exQ cls0 (Kf s) && exQ cls1 (Kf s)) = some true := by
  kernel_rfl
theorem rq0_0 (w : World) (os : OsState) : (endT (wF w) os).map (fun s => exQ cls0 (Kf s)) = some true := (map_an (rp0_0 w os)).1
theorem rq1_0 (w : World) (os : OsState) : (endT (wF w) os).map (fun s => exQ cls1 (Kf s)) = some true := (map_an (rp0_0 w os)).2
theorem rq0_1 (w : World) (os : OsState) : (endT (wT w) os).map (fun s => exQ cls0 (Kf s)) = some true := (map_an (rp0_1 w os)).1
theorem rq1_1 (w : World) (os : OsState) : (endT (wT w) os).map (fun s => exQ cls1 (Kf s)) = some true := (map_an (rp0_1 w os)).2
theorem rp2_0 (w : World) (os : OsState) : (endT (wF w) os).map (fun s => exQ cls2 (Kf s) && exQ cls3 (Kf s)) = some true := by
  kernel_rfl
theorem rp2_1 (w : World) (os : OsState) : (endT (wT w) os).map (fun s => exQ cls2 (Kf s) && exQ cls3 (Kf s)) = some true := by
  kernel_rfl
theorem rq2_0 (w : World) (os : OsState) : (endT (wF w) os).map (fun s => exQ cls2 (Kf s)) = some true := (map_an (rp2_0 w os)).1
theorem rq3_0 (w : World) (os : OsState) : (endT (wF w) os).map (fun s => exQ cls3 (Kf s)) = some true := (map_an (rp2_0 w os)).2
theorem rq2_1 (w : World) (os : OsState) : (endT (wT w) os).map (fun s => exQ cls2 (Kf s)) = some true := (map_an (rp2_1 w os)).1
theorem rq3_1 (w : World) (os : OsState) : (endT (wT w) os).map (fun s => exQ cls3 (Kf s)) = some true := (map_an (rp2_1 w os)).2
theorem runB0 (w : World) (os : OsState) : (endT (wF w) os).map ob = some (hk.val w) :=
  map_pair (map_cons (rf0_0 w os) (map_cons (rf1_0 w os) (map_cons (rf2_0 w os) (map_last (rf3_0 w os))))) (map_and (re_0 w os) (map_and (rq0_0 w os) (map_and (rq1_0 w os) (map_and (rq2_0 w os) (rq3_0 w os)))))
theorem runB1 (w : World) (os : OsState) : (endT (wT w) os).map ob = some (hk.val w) :=
  map_pair (map_cons (rf0_1 w os) (map_cons (rf1_1 w os) (map_cons (rf2_1 w os) (map_last (rf3_1 w os))))) (map_and (re_1 w os) (map_and (rq0_1 w os) (map_and (rq1_1 w os) (map_and (rq2_1 w os) (rq3_1 w os)))))
def RunB (w : World) : Prop := ∀ os : OsState, (endT w os).map ob = some (hk.val w)
theorem run (w : World) : HandSHeadRun.RunEq R (PySem.W.view R.prog [87]) hk ob 40000 loose w :=
  run_of (byRow2 "special-get-raises" (P := RunC) runC0 runC1 w) (byRow2 "special-get-raises" (P := RunB) (fun w os => runB0 w os) (fun w os => runB1 w os) w)
end K89

set_option Elab.async false
set_option linter.all false
set_option maxRecDepth 100000
set_option maxHeartbeats 4000000
namespace K89
open PySem PySem.Spec PyProof.Rows L2 EV He
section
variable {P : Program} {w : World} {K : PySem.W.Frag} {mg : PySem.Str → Option Value} {base : Heap} {fd : FuncData}
abbrev FnI (K : PySem.W.Frag) (x q : PySem.Str) (st : Stmt) (fd : FuncData) : Prop := FunD K "__init__" q (defArgs st) (defBody st) (defScope st) [] [] (ma K (ga K x) "__init__") fd
theorem ini_BadNet (F : FnI K "BadNet" "BadNet.__init__" sI_BadNet fd) (T : Tx K mg) : IniOk P w K mg base ("BadNet", "net") := by
  have o := T.one (p := ("BadNet", "net")) (by decide +kernel)
  have R := err_of o.1 o.2
  have sc : FnScope ["self", "net"] ["self", "net"] (defScope sI_BadNet) := ⟨rfl, rfl, rfl, by decide +kernel, rfl, by decide +kernel, by decide +kernel⟩
  refine ⟨fd, F.ok sc (fun vs H Q E h => by obtain ⟨a, v, rfl, _⟩ := h; rfl) (fun cdv A outer s H vs Q E hr h => ⟨_, PSs.nox (pss_one (ps_ost (pv 0) (pv 1))), ?_⟩), ?_, ?_⟩
  · obtain ⟨a, v, rfl, ha, q⟩ := h
    exact ⟨_, rfl, _, rfl, a, _, rfl, R.oex, R.no, .inl ⟨ha, q⟩⟩
  · exact fun s u v _ => F.bindsA (ps := ["self", "net"]) (fun _ _ _ _ _ _ us hl => match us, hl with | [_, _], _ => rfl) s [u, v] rfl
  · obtain ⟨oc, od, dV, kV, doc, pm, an, cdv, ct, osl, rfl, lk, hcd, hD, hK⟩ := F.ex
    rcases hD with ⟨_, rfl⟩ | ⟨e, _⟩
    · exact fun s u v _ => .of_eq rfl
    · exact absurd rfl e
theorem ini_BadRun (F : FnI K "BadRun" "BadRun.__init__" sI_BadRun fd) (T : Tx K mg) : IniOk P w K mg base ("BadRun", "run") := by
  have o := T.one (p := ("BadRun", "run")) (by decide +kernel)
  have R := err_of o.1 o.2
  have sc : FnScope ["self", "run"] ["self", "run"] (defScope sI_BadRun) := ⟨rfl, rfl, rfl, by decide +kernel, rfl, by decide +kernel, by decide +kernel⟩
  refine ⟨fd, F.ok sc (fun vs H Q E h => by obtain ⟨a, v, rfl, _⟩ := h; rfl) (fun cdv A outer s H vs Q E hr h => ⟨_, PSs.nox (pss_one (ps_ost (pv 0) (pv 1))), ?_⟩), ?_, ?_⟩
  · obtain ⟨a, v, rfl, ha, q⟩ := h
    exact ⟨_, rfl, _, rfl, a, _, rfl, R.oex, R.no, .inl ⟨ha, q⟩⟩
  · exact fun s u v _ => F.bindsA (ps := ["self", "run"]) (fun _ _ _ _ _ _ us hl => match us, hl with | [_, _], _ => rfl) s [u, v] rfl
  · obtain ⟨oc, od, dV, kV, doc, pm, an, cdv, ct, osl, rfl, lk, hcd, hD, hK⟩ := F.ex
    rcases hD with ⟨_, rfl⟩ | ⟨e, _⟩
    · exact fun s u v _ => .of_eq rfl
    · exact absurd rfl e
theorem ini_BadPlace (F : FnI K "BadPlace" "BadPlace.__init__" sI_BadPlace fd) (T : Tx K mg) : IniOk P w K mg base ("BadPlace", "place") := by
  have o := T.one (p := ("BadPlace", "place")) (by decide +kernel)
  have R := err_of o.1 o.2
  have sc : FnScope ["self", "place"] ["self", "place"] (defScope sI_BadPlace) := ⟨rfl, rfl, rfl, by decide +kernel, rfl, by decide +kernel, by decide +kernel⟩
  refine ⟨fd, F.ok sc (fun vs H Q E h => by obtain ⟨a, v, rfl, _⟩ := h; rfl) (fun cdv A outer s H vs Q E hr h => ⟨_, PSs.nox (pss_one (ps_ost (pv 0) (pv 1))), ?_⟩), ?_, ?_⟩
  · obtain ⟨a, v, rfl, ha, q⟩ := h
    exact ⟨_, rfl, _, rfl, a, _, rfl, R.oex, R.no, .inl ⟨ha, q⟩⟩
  · exact fun s u v _ => F.bindsA (ps := ["self", "place"]) (fun _ _ _ _ _ _ us hl => match us, hl with | [_, _], _ => rfl) s [u, v] rfl
  · obtain ⟨oc, od, dV, kV, doc, pm, an, cdv, ct, osl, rfl, lk, hcd, hD, hK⟩ := F.ex
    rcases hD with ⟨_, rfl⟩ | ⟨e, _⟩
    · exact fun s u v _ => .of_eq rfl
    · exact absurd rfl e
theorem ini_BadAt (F : FnI K "BadAt" "BadAt.__init__" sI_BadAt fd) (T : Tx K mg) : IniOk P w K mg base ("BadAt", "at") := by
  have o := T.one (p := ("BadAt", "at")) (by decide +kernel)
  have R := err_of o.1 o.2
  have sc : FnScope ["self", "at"] ["self", "at"] (defScope sI_BadAt) := ⟨rfl, rfl, rfl, by decide +kernel, rfl, by decide +kernel, by decide +kernel⟩
  refine ⟨fd, F.ok sc (fun vs H Q E h => by obtain ⟨a, v, rfl, _⟩ := h; rfl) (fun cdv A outer s H vs Q E hr h => ⟨_, PSs.nox (pss_one (ps_ost (pv 0) (pv 1))), ?_⟩), ?_, ?_⟩
  · obtain ⟨a, v, rfl, ha, q⟩ := h
    exact ⟨_, rfl, _, rfl, a, _, rfl, R.oex, R.no, .inl ⟨ha, q⟩⟩
  · exact fun s u v _ => F.bindsA (ps := ["self", "at"]) (fun _ _ _ _ _ _ us hl => match us, hl with | [_, _], _ => rfl) s [u, v] rfl
  · obtain ⟨oc, od, dV, kV, doc, pm, an, cdv, ct, osl, rfl, lk, hcd, hD, hK⟩ := F.ex
    rcases hD with ⟨_, rfl⟩ | ⟨e, _⟩
    · exact fun s u v _ => .of_eq rfl
    · exact absurd rfl e
theorem ini_BadOrder (F : FnI K "BadOrder" "BadOrder.__init__" sI_BadOrder fd) (T : Tx K mg) : IniOk P w K mg base ("BadOrder", "order") := by
  have o := T.one (p := ("BadOrder", "order")) (by decide +kernel)
  have R := err_of o.1 o.2
  have sc : FnScope ["self", "order"] ["self", "order"] (defScope sI_BadOrder) := ⟨rfl, rfl, rfl, by decide +kernel, rfl, by decide +kernel, by decide +kernel⟩
  refine ⟨fd, F.ok sc (fun vs H Q E h => by obtain ⟨a, v, rfl, _⟩ := h; rfl) (fun cdv A outer s H vs Q E hr h => ⟨_, PSs.nox (pss_one (ps_ost (pv 0) (pv 1))), ?_⟩), ?_, ?_⟩
  · obtain ⟨a, v, rfl, ha, q⟩ := h
    exact ⟨_, rfl, _, rfl, a, _, rfl, R.oex, R.no, .inl ⟨ha, q⟩⟩
  · exact fun s u v _ => F.bindsA (ps := ["self", "order"]) (fun _ _ _ _ _ _ us hl => match us, hl with | [_, _], _ => rfl) s [u, v] rfl
  · obtain ⟨oc, od, dV, kV, doc, pm, an, cdv, ct, osl, rfl, lk, hcd, hD, hK⟩ := F.ex
    rcases hD with ⟨_, rfl⟩ | ⟨e, _⟩
    · exact fun s u v _ => .of_eq rfl
    · exact absurd rfl e
theorem ini_BadChain (F : FnI K "BadChain" "BadChain.__init__" sI_BadChain fd) (T : Tx K mg) : IniOk P w K mg base ("BadChain", "chain") := by
  have o := T.one (p := ("BadChain", "chain")) (by decide +kernel)
  have R := err_of o.1 o.2
  have sc : FnScope ["self", "chain"] ["self", "chain"] (defScope sI_BadChain) := ⟨rfl, rfl, rfl, by decide +kernel, rfl, by decide +kernel, by decide +kernel⟩
  refine ⟨fd, F.ok sc (fun vs H Q E h => by obtain ⟨a, v, rfl, _⟩ := h; rfl) (fun cdv A outer s H vs Q E hr h => ⟨_, PSs.nox (pss_one (ps_ost (pv 0) (pv 1))), ?_⟩), ?_, ?_⟩
  · obtain ⟨a, v, rfl, ha, q⟩ := h
    exact ⟨_, rfl, _, rfl, a, _, rfl, R.oex, R.no, .inl ⟨ha, q⟩⟩
  · exact fun s u v _ => F.bindsA (ps := ["self", "chain"]) (fun _ _ _ _ _ _ us hl => match us, hl with | [_, _], _ => rfl) s [u, v] rfl
  · obtain ⟨oc, od, dV, kV, doc, pm, an, cdv, ct, osl, rfl, lk, hcd, hD, hK⟩ := F.ex
    rcases hD with ⟨_, rfl⟩ | ⟨e, _⟩
    · exact fun s u v _ => .of_eq rfl
    · exact absurd rfl e
theorem ini_BadNetText (F : FnI K "BadNetText" "BadNetText.__init__" sI_BadNetText fd) (T : Tx K mg) : IniOk P w K mg base ("BadNetText", "line") := by
  have o := T.one (p := ("BadNetText", "line")) (by decide +kernel)
  have R := err_of o.1 o.2
  have sc : FnScope ["self", "line"] ["self", "line"] (defScope sI_BadNetText) := ⟨rfl, rfl, rfl, by decide +kernel, rfl, by decide +kernel, by decide +kernel⟩
  refine ⟨fd, F.ok sc (fun vs H Q E h => by obtain ⟨a, v, rfl, _⟩ := h; rfl) (fun cdv A outer s H vs Q E hr h => ⟨_, PSs.nox (pss_one (ps_ost (pv 0) (pv 1))), ?_⟩), ?_, ?_⟩
  · obtain ⟨a, v, rfl, ha, q⟩ := h
    exact ⟨_, rfl, _, rfl, a, _, rfl, R.oex, R.no, .inl ⟨ha, q⟩⟩
  · exact fun s u v _ => F.bindsA (ps := ["self", "line"]) (fun _ _ _ _ _ _ us hl => match us, hl with | [_, _], _ => rfl) s [u, v] rfl
  · obtain ⟨oc, od, dV, kV, doc, pm, an, cdv, ct, osl, rfl, lk, hcd, hD, hK⟩ := F.ex
    rcases hD with ⟨_, rfl⟩ | ⟨e, _⟩
    · exact fun s u v _ => .of_eq rfl
    · exact absurd rfl e
theorem ini_BadAnswer (F : FnI K "BadAnswer" "BadAnswer.__init__" sI_BadAnswer fd) (T : Tx K mg) : IniOk P w K mg base ("BadAnswer", "answer") := by
  have o := T.one (p := ("BadAnswer", "answer")) (by decide +kernel)
  have R := err_of o.1 o.2
  have sc : FnScope ["self", "answer"] ["self", "answer"] (defScope sI_BadAnswer) := ⟨rfl, rfl, rfl, by decide +kernel, rfl, by decide +kernel, by decide +kernel⟩
  refine ⟨fd, F.ok sc (fun vs H Q E h => by obtain ⟨a, v, rfl, _⟩ := h; rfl) (fun cdv A outer s H vs Q E hr h => ⟨_, PSs.nox (pss_one (ps_ost (pv 0) (pv 1))), ?_⟩), ?_, ?_⟩
  · obtain ⟨a, v, rfl, ha, q⟩ := h
    exact ⟨_, rfl, _, rfl, a, _, rfl, R.oex, R.no, .inl ⟨ha, q⟩⟩
  · exact fun s u v _ => F.bindsA (ps := ["self", "answer"]) (fun _ _ _ _ _ _ us hl => match us, hl with | [_, _], _ => rfl) s [u, v] rfl
  · obtain ⟨oc, od, dV, kV, doc, pm, an, cdv, ct, osl, rfl, lk, hcd, hD, hK⟩ := F.ex
    rcases hD with ⟨_, rfl⟩ | ⟨e, _⟩
    · exact fun s u v _ => .of_eq rfl
    · exact absurd rfl e
theorem ini_BadAnswerText (F : FnI K "BadAnswerText" "BadAnswerText.__init__" sI_BadAnswerText fd) (T : Tx K mg) : IniOk P w K mg base ("BadAnswerText", "line") := by
  have o := T.one (p := ("BadAnswerText", "line")) (by decide +kernel)
  have R := err_of o.1 o.2
  have sc : FnScope ["self", "line"] ["self", "line"] (defScope sI_BadAnswerText) := ⟨rfl, rfl, rfl, by decide +kernel, rfl, by decide +kernel, by decide +kernel⟩
  refine ⟨fd, F.ok sc (fun vs H Q E h => by obtain ⟨a, v, rfl, _⟩ := h; rfl) (fun cdv A outer s H vs Q E hr h => ⟨_, PSs.nox (pss_one (ps_ost (pv 0) (pv 1))), ?_⟩), ?_, ?_⟩
  · obtain ⟨a, v, rfl, ha, q⟩ := h
    exact ⟨_, rfl, _, rfl, a, _, rfl, R.oex, R.no, .inl ⟨ha, q⟩⟩
  · exact fun s u v _ => F.bindsA (ps := ["self", "line"]) (fun _ _ _ _ _ _ us hl => match us, hl with | [_, _], _ => rfl) s [u, v] rfl
  · obtain ⟨oc, od, dV, kV, doc, pm, an, cdv, ct, osl, rfl, lk, hcd, hD, hK⟩ := F.ex
    rcases hD with ⟨_, rfl⟩ | ⟨e, _⟩
    · exact fun s u v _ => .of_eq rfl
    · exact absurd rfl e
theorem ini_BadWholeText (F : FnI K "BadWholeText" "BadWholeText.__init__" sI_BadWholeText fd) (T : Tx K mg) : IniOk P w K mg base ("BadWholeText", "line") := by
  have o := T.one (p := ("BadWholeText", "line")) (by decide +kernel)
  have R := err_of o.1 o.2
  have sc : FnScope ["self", "line"] ["self", "line"] (defScope sI_BadWholeText) := ⟨rfl, rfl, rfl, by decide +kernel, rfl, by decide +kernel, by decide +kernel⟩
  refine ⟨fd, F.ok sc (fun vs H Q E h => by obtain ⟨a, v, rfl, _⟩ := h; rfl) (fun cdv A outer s H vs Q E hr h => ⟨_, PSs.nox (pss_one (ps_ost (pv 0) (pv 1))), ?_⟩), ?_, ?_⟩
  · obtain ⟨a, v, rfl, ha, q⟩ := h
    exact ⟨_, rfl, _, rfl, a, _, rfl, R.oex, R.no, .inl ⟨ha, q⟩⟩
  · exact fun s u v _ => F.bindsA (ps := ["self", "line"]) (fun _ _ _ _ _ _ us hl => match us, hl with | [_, _], _ => rfl) s [u, v] rfl
  · obtain ⟨oc, od, dV, kV, doc, pm, an, cdv, ct, osl, rfl, lk, hcd, hD, hK⟩ := F.ex
    rcases hD with ⟨_, rfl⟩ | ⟨e, _⟩
    · exact fun s u v _ => .of_eq rfl
    · exact absurd rfl e
theorem ini_BadGroup (F : FnI K "BadGroup" "BadGroup.__init__" sI_BadGroup fd) (T : Tx K mg) : IniOk P w K mg base ("BadGroup", "group") := by
  have o := T.one (p := ("BadGroup", "group")) (by decide +kernel)
  have R := err_of o.1 o.2
  have sc : FnScope ["self", "group"] ["self", "group"] (defScope sI_BadGroup) := ⟨rfl, rfl, rfl, by decide +kernel, rfl, by decide +kernel, by decide +kernel⟩
  refine ⟨fd, F.ok sc (fun vs H Q E h => by obtain ⟨a, v, rfl, _⟩ := h; rfl) (fun cdv A outer s H vs Q E hr h => ⟨_, PSs.nox (pss_one (ps_ost (pv 0) (pv 1))), ?_⟩), ?_, ?_⟩
  · obtain ⟨a, v, rfl, ha, q⟩ := h
    exact ⟨_, rfl, _, rfl, a, _, rfl, R.oex, R.no, .inl ⟨ha, q⟩⟩
  · exact fun s u v _ => F.bindsA (ps := ["self", "group"]) (fun _ _ _ _ _ _ us hl => match us, hl with | [_, _], _ => rfl) s [u, v] rfl
  · obtain ⟨oc, od, dV, kV, doc, pm, an, cdv, ct, osl, rfl, lk, hcd, hD, hK⟩ := F.ex
    rcases hD with ⟨_, rfl⟩ | ⟨e, _⟩
    · exact fun s u v _ => .of_eq rfl
    · exact absurd rfl e
theorem ini_BadGate (F : FnI K "BadGate" "BadGate.__init__" sI_BadGate fd) (T : Tx K mg) : IniOk P w K mg base ("BadGate", "gate") := by
  have o := T.one (p := ("BadGate", "gate")) (by decide +kernel)
  have R := err_of o.1 o.2
  have sc : FnScope ["self", "gate"] ["self", "gate"] (defScope sI_BadGate) := ⟨rfl, rfl, rfl, by decide +kernel, rfl, by decide +kernel, by decide +kernel⟩
  refine ⟨fd, F.ok sc (fun vs H Q E h => by obtain ⟨a, v, rfl, _⟩ := h; rfl) (fun cdv A outer s H vs Q E hr h => ⟨_, PSs.nox (pss_one (ps_ost (pv 0) (pv 1))), ?_⟩), ?_, ?_⟩
  · obtain ⟨a, v, rfl, ha, q⟩ := h
    exact ⟨_, rfl, _, rfl, a, _, rfl, R.oex, R.no, .inl ⟨ha, q⟩⟩
  · exact fun s u v _ => F.bindsA (ps := ["self", "gate"]) (fun _ _ _ _ _ _ us hl => match us, hl with | [_, _], _ => rfl) s [u, v] rfl
  · obtain ⟨oc, od, dV, kV, doc, pm, an, cdv, ct, osl, rfl, lk, hcd, hD, hK⟩ := F.ex
    rcases hD with ⟨_, rfl⟩ | ⟨e, _⟩
    · exact fun s u v _ => .of_eq rfl
    · exact absurd rfl e
theorem ini_BadWire (F : FnI K "BadWire" "BadWire.__init__" sI_BadWire fd) (T : Tx K mg) : IniOk P w K mg base ("BadWire", "wire") := by
  have o := T.one (p := ("BadWire", "wire")) (by decide +kernel)
  have R := err_of o.1 o.2
  have sc : FnScope ["self", "wire"] ["self", "wire"] (defScope sI_BadWire) := ⟨rfl, rfl, rfl, by decide +kernel, rfl, by decide +kernel, by decide +kernel⟩
  refine ⟨fd, F.ok sc (fun vs H Q E h => by obtain ⟨a, v, rfl, _⟩ := h; rfl) (fun cdv A outer s H vs Q E hr h => ⟨_, PSs.nox (pss_one (ps_ost (pv 0) (pv 1))), ?_⟩), ?_, ?_⟩
  · obtain ⟨a, v, rfl, ha, q⟩ := h
    exact ⟨_, rfl, _, rfl, a, _, rfl, R.oex, R.no, .inl ⟨ha, q⟩⟩
  · exact fun s u v _ => F.bindsA (ps := ["self", "wire"]) (fun _ _ _ _ _ _ us hl => match us, hl with | [_, _], _ => rfl) s [u, v] rfl
  · obtain ⟨oc, od, dV, kV, doc, pm, an, cdv, ct, osl, rfl, lk, hcd, hD, hK⟩ := F.ex
    rcases hD with ⟨_, rfl⟩ | ⟨e, _⟩
    · exact fun s u v _ => .of_eq rfl
    · exact absurd rfl e
theorem ini_BadBound (F : FnI K "BadBound" "BadBound.__init__" sI_BadBound fd) (T : Tx K mg) : IniOk P w K mg base ("BadBound", "bound") := by
  have o := T.one (p := ("BadBound", "bound")) (by decide +kernel)
  have R := err_of o.1 o.2
  have sc : FnScope ["self", "bound"] ["self", "bound"] (defScope sI_BadBound) := ⟨rfl, rfl, rfl, by decide +kernel, rfl, by decide +kernel, by decide +kernel⟩
  refine ⟨fd, F.ok sc (fun vs H Q E h => by obtain ⟨a, v, rfl, _⟩ := h; rfl) (fun cdv A outer s H vs Q E hr h => ⟨_, PSs.nox (pss_one (ps_ost (pv 0) (pv 1))), ?_⟩), ?_, ?_⟩
  · obtain ⟨a, v, rfl, ha, q⟩ := h
    exact ⟨_, rfl, _, rfl, a, _, rfl, R.oex, R.no, .inl ⟨ha, q⟩⟩
  · exact fun s u v _ => F.bindsA (ps := ["self", "bound"]) (fun _ _ _ _ _ _ us hl => match us, hl with | [_, _], _ => rfl) s [u, v] rfl
  · obtain ⟨oc, od, dV, kV, doc, pm, an, cdv, ct, osl, rfl, lk, hcd, hD, hK⟩ := F.ex
    rcases hD with ⟨_, rfl⟩ | ⟨e, _⟩
    · exact fun s u v _ => .of_eq rfl
    · exact absurd rfl e
theorem ini_DarkPanel (F : FnI K "DarkPanel" "DarkPanel.__init__" sI_DarkPanel fd) (T : Tx K mg) : IniOk P w K mg base ("DarkPanel", "panel") := by
  have o := T.one (p := ("DarkPanel", "panel")) (by decide +kernel)
  have R := err_of o.1 o.2
  have sc : FnScope ["self", "panel"] ["self", "panel"] (defScope sI_DarkPanel) := ⟨rfl, rfl, rfl, by decide +kernel, rfl, by decide +kernel, by decide +kernel⟩
  refine ⟨fd, F.ok sc (fun vs H Q E h => by obtain ⟨a, v, rfl, _⟩ := h; rfl) (fun cdv A outer s H vs Q E hr h => ⟨_, PSs.nox (pss_one (ps_ost (pv 0) (pv 1))), ?_⟩), ?_, ?_⟩
  · obtain ⟨a, v, rfl, ha, q⟩ := h
    exact ⟨_, rfl, _, rfl, a, _, rfl, R.oex, R.no, .inl ⟨ha, q⟩⟩
  · exact fun s u v _ => F.bindsA (ps := ["self", "panel"]) (fun _ _ _ _ _ _ us hl => match us, hl with | [_, _], _ => rfl) s [u, v] rfl
  · obtain ⟨oc, od, dV, kV, doc, pm, an, cdv, ct, osl, rfl, lk, hcd, hD, hK⟩ := F.ex
    rcases hD with ⟨_, rfl⟩ | ⟨e, _⟩
    · exact fun s u v _ => .of_eq rfl
    · exact absurd rfl e
theorem ini_BadBegin (F : FnI K "BadBegin" "BadBegin.__init__" sI_BadBegin fd) (T : Tx K mg) : IniOk P w K mg base ("BadBegin", "begin") := by
  have o := T.one (p := ("BadBegin", "begin")) (by decide +kernel)
  have R := err_of o.1 o.2
  have sc : FnScope ["self", "begin"] ["self", "begin"] (defScope sI_BadBegin) := ⟨rfl, rfl, rfl, by decide +kernel, rfl, by decide +kernel, by decide +kernel⟩
  refine ⟨fd, F.ok sc (fun vs H Q E h => by obtain ⟨a, v, rfl, _⟩ := h; rfl) (fun cdv A outer s H vs Q E hr h => ⟨_, PSs.nox (pss_one (ps_ost (pv 0) (pv 1))), ?_⟩), ?_, ?_⟩
  · obtain ⟨a, v, rfl, ha, q⟩ := h
    exact ⟨_, rfl, _, rfl, a, _, rfl, R.oex, R.no, .inl ⟨ha, q⟩⟩
  · exact fun s u v _ => F.bindsA (ps := ["self", "begin"]) (fun _ _ _ _ _ _ us hl => match us, hl with | [_, _], _ => rfl) s [u, v] rfl
  · obtain ⟨oc, od, dV, kV, doc, pm, an, cdv, ct, osl, rfl, lk, hcd, hD, hK⟩ := F.ex
    rcases hD with ⟨_, rfl⟩ | ⟨e, _⟩
    · exact fun s u v _ => .of_eq rfl
    · exact absurd rfl e
theorem ini_BadEnd (F : FnI K "BadEnd" "BadEnd.__init__" sI_BadEnd fd) (T : Tx K mg) : IniOk P w K mg base ("BadEnd", "end") := by
  have o := T.one (p := ("BadEnd", "end")) (by decide +kernel)
  have R := err_of o.1 o.2
  have sc : FnScope ["self", "end"] ["self", "end"] (defScope sI_BadEnd) := ⟨rfl, rfl, rfl, by decide +kernel, rfl, by decide +kernel, by decide +kernel⟩
  refine ⟨fd, F.ok sc (fun vs H Q E h => by obtain ⟨a, v, rfl, _⟩ := h; rfl) (fun cdv A outer s H vs Q E hr h => ⟨_, PSs.nox (pss_one (ps_ost (pv 0) (pv 1))), ?_⟩), ?_, ?_⟩
  · obtain ⟨a, v, rfl, ha, q⟩ := h
    exact ⟨_, rfl, _, rfl, a, _, rfl, R.oex, R.no, .inl ⟨ha, q⟩⟩
  · exact fun s u v _ => F.bindsA (ps := ["self", "end"]) (fun _ _ _ _ _ _ us hl => match us, hl with | [_, _], _ => rfl) s [u, v] rfl
  · obtain ⟨oc, od, dV, kV, doc, pm, an, cdv, ct, osl, rfl, lk, hcd, hD, hK⟩ := F.ex
    rcases hD with ⟨_, rfl⟩ | ⟨e, _⟩
    · exact fun s u v _ => .of_eq rfl
    · exact absurd rfl e
theorem ini_BadLit (F : FnI K "BadLit" "BadLit.__init__" sI_BadLit fd) (T : Tx K mg) : IniOk P w K mg base ("BadLit", "index") := by
  have o := T.one (p := ("BadLit", "index")) (by decide +kernel)
  have R := err_of o.1 o.2
  have sc : FnScope ["self", "index"] ["self", "index"] (defScope sI_BadLit) := ⟨rfl, rfl, rfl, by decide +kernel, rfl, by decide +kernel, by decide +kernel⟩
  refine ⟨fd, F.ok sc (fun vs H Q E h => by obtain ⟨a, v, rfl, _⟩ := h; rfl) (fun cdv A outer s H vs Q E hr h => ⟨_, PSs.nox (pss_one (ps_ost (pv 0) (pv 1))), ?_⟩), ?_, ?_⟩
  · obtain ⟨a, v, rfl, ha, q⟩ := h
    exact ⟨_, rfl, _, rfl, a, _, rfl, R.oex, R.no, .inl ⟨ha, q⟩⟩
  · exact fun s u v _ => F.bindsA (ps := ["self", "index"]) (fun _ _ _ _ _ _ us hl => match us, hl with | [_, _], _ => rfl) s [u, v] rfl
  · obtain ⟨oc, od, dV, kV, doc, pm, an, cdv, ct, osl, rfl, lk, hcd, hD, hK⟩ := F.ex
    rcases hD with ⟨_, rfl⟩ | ⟨e, _⟩
    · exact fun s u v _ => .of_eq rfl
    · exact absurd rfl e
theorem ini_BadDark (F : FnI K "BadDark" "BadDark.__init__" sI_BadDark fd) (T : Tx K mg) : IniOk P w K mg base ("BadDark", "index") := by
  have o := T.one (p := ("BadDark", "index")) (by decide +kernel)
  have R := err_of o.1 o.2
  have sc : FnScope ["self", "index"] ["self", "index"] (defScope sI_BadDark) := ⟨rfl, rfl, rfl, by decide +kernel, rfl, by decide +kernel, by decide +kernel⟩
  refine ⟨fd, F.ok sc (fun vs H Q E h => by obtain ⟨a, v, rfl, _⟩ := h; rfl) (fun cdv A outer s H vs Q E hr h => ⟨_, PSs.nox (pss_one (ps_ost (pv 0) (pv 1))), ?_⟩), ?_, ?_⟩
  · obtain ⟨a, v, rfl, ha, q⟩ := h
    exact ⟨_, rfl, _, rfl, a, _, rfl, R.oex, R.no, .inl ⟨ha, q⟩⟩
  · exact fun s u v _ => F.bindsA (ps := ["self", "index"]) (fun _ _ _ _ _ _ us hl => match us, hl with | [_, _], _ => rfl) s [u, v] rfl
  · obtain ⟨oc, od, dV, kV, doc, pm, an, cdv, ct, osl, rfl, lk, hcd, hD, hK⟩ := F.ex
    rcases hD with ⟨_, rfl⟩ | ⟨e, _⟩
    · exact fun s u v _ => .of_eq rfl
    · exact absurd rfl e
theorem ini_BadWires (F : FnI K "BadWires" "BadWires.__init__" sI_BadWires fd) (T : Tx K mg) : IniOk P w K mg base ("BadWires", "wires") := by
  have o := T.one (p := ("BadWires", "wires")) (by decide +kernel)
  have R := err_of o.1 o.2
  have sc : FnScope ["self", "wires"] ["self", "wires"] (defScope sI_BadWires) := ⟨rfl, rfl, rfl, by decide +kernel, rfl, by decide +kernel, by decide +kernel⟩
  refine ⟨fd, F.ok sc (fun vs H Q E h => by obtain ⟨a, v, rfl, _⟩ := h; rfl) (fun cdv A outer s H vs Q E hr h => ⟨_, PSs.nox (pss_one (ps_ost (pv 0) (pv 1))), ?_⟩), ?_, ?_⟩
  · obtain ⟨a, v, rfl, ha, q⟩ := h
    exact ⟨_, rfl, _, rfl, a, _, rfl, R.oex, R.no, .inl ⟨ha, q⟩⟩
  · exact fun s u v _ => F.bindsA (ps := ["self", "wires"]) (fun _ _ _ _ _ _ us hl => match us, hl with | [_, _], _ => rfl) s [u, v] rfl
  · obtain ⟨oc, od, dV, kV, doc, pm, an, cdv, ct, osl, rfl, lk, hcd, hD, hK⟩ := F.ex
    rcases hD with ⟨_, rfl⟩ | ⟨e, _⟩
    · exact fun s u v _ => .of_eq rfl
    · exact absurd rfl e
theorem ini_BadPrices (F : FnI K "BadPrices" "BadPrices.__init__" sI_BadPrices fd) (T : Tx K mg) : IniOk P w K mg base ("BadPrices", "prices") := by
  have o := T.one (p := ("BadPrices", "prices")) (by decide +kernel)
  have R := err_of o.1 o.2
  have sc : FnScope ["self", "prices"] ["self", "prices"] (defScope sI_BadPrices) := ⟨rfl, rfl, rfl, by decide +kernel, rfl, by decide +kernel, by decide +kernel⟩
  refine ⟨fd, F.ok sc (fun vs H Q E h => by obtain ⟨a, v, rfl, _⟩ := h; rfl) (fun cdv A outer s H vs Q E hr h => ⟨_, PSs.nox (pss_one (ps_ost (pv 0) (pv 1))), ?_⟩), ?_, ?_⟩
  · obtain ⟨a, v, rfl, ha, q⟩ := h
    exact ⟨_, rfl, _, rfl, a, _, rfl, R.oex, R.no, .inl ⟨ha, q⟩⟩
  · exact fun s u v _ => F.bindsA (ps := ["self", "prices"]) (fun _ _ _ _ _ _ us hl => match us, hl with | [_, _], _ => rfl) s [u, v] rfl
  · obtain ⟨oc, od, dV, kV, doc, pm, an, cdv, ct, osl, rfl, lk, hcd, hD, hK⟩ := F.ex
    rcases hD with ⟨_, rfl⟩ | ⟨e, _⟩
    · exact fun s u v _ => .of_eq rfl
    · exact absurd rfl e
theorem ini_BadDrop (F : FnI K "BadDrop" "BadDrop.__init__" sI_BadDrop fd) (T : Tx K mg) : IniOk P w K mg base ("BadDrop", "drop") := by
  have o := T.one (p := ("BadDrop", "drop")) (by decide +kernel)
  have R := err_of o.1 o.2
  have sc : FnScope ["self", "drop"] ["self", "drop"] (defScope sI_BadDrop) := ⟨rfl, rfl, rfl, by decide +kernel, rfl, by decide +kernel, by decide +kernel⟩
  refine ⟨fd, F.ok sc (fun vs H Q E h => by obtain ⟨a, v, rfl, _⟩ := h; rfl) (fun cdv A outer s H vs Q E hr h => ⟨_, PSs.nox (pss_one (ps_ost (pv 0) (pv 1))), ?_⟩), ?_, ?_⟩
  · obtain ⟨a, v, rfl, ha, q⟩ := h
    exact ⟨_, rfl, _, rfl, a, _, rfl, R.oex, R.no, .inl ⟨ha, q⟩⟩
  · exact fun s u v _ => F.bindsA (ps := ["self", "drop"]) (fun _ _ _ _ _ _ us hl => match us, hl with | [_, _], _ => rfl) s [u, v] rfl
  · obtain ⟨oc, od, dV, kV, doc, pm, an, cdv, ct, osl, rfl, lk, hcd, hD, hK⟩ := F.ex
    rcases hD with ⟨_, rfl⟩ | ⟨e, _⟩
    · exact fun s u v _ => .of_eq rfl
    · exact absurd rfl e
theorem ini_BadWishes (F : FnI K "BadWishes" "BadWishes.__init__" sI_BadWishes fd) (T : Tx K mg) : IniOk P w K mg base ("BadWishes", "index") := by
  have o := T.one (p := ("BadWishes", "index")) (by decide +kernel)
  have R := err_of o.1 o.2
  have sc : FnScope ["self", "index"] ["self", "index"] (defScope sI_BadWishes) := ⟨rfl, rfl, rfl, by decide +kernel, rfl, by decide +kernel, by decide +kernel⟩
  refine ⟨fd, F.ok sc (fun vs H Q E h => by obtain ⟨a, v, rfl, _⟩ := h; rfl) (fun cdv A outer s H vs Q E hr h => ⟨_, PSs.nox (pss_one (ps_ost (pv 0) (pv 1))), ?_⟩), ?_, ?_⟩
  · obtain ⟨a, v, rfl, ha, q⟩ := h
    exact ⟨_, rfl, _, rfl, a, _, rfl, R.oex, R.no, .inl ⟨ha, q⟩⟩
  · exact fun s u v _ => F.bindsA (ps := ["self", "index"]) (fun _ _ _ _ _ _ us hl => match us, hl with | [_, _], _ => rfl) s [u, v] rfl
  · obtain ⟨oc, od, dV, kV, doc, pm, an, cdv, ct, osl, rfl, lk, hcd, hD, hK⟩ := F.ex
    rcases hD with ⟨_, rfl⟩ | ⟨e, _⟩
    · exact fun s u v _ => .of_eq rfl
    · exact absurd rfl e
theorem ini_BadFlips (F : FnI K "BadFlips" "BadFlips.__init__" sI_BadFlips fd) (T : Tx K mg) : IniOk P w K mg base ("BadFlips", "flips") := by
  have o := T.one (p := ("BadFlips", "flips")) (by decide +kernel)
  have R := err_of o.1 o.2
  have sc : FnScope ["self", "flips"] ["self", "flips"] (defScope sI_BadFlips) := ⟨rfl, rfl, rfl, by decide +kernel, rfl, by decide +kernel, by decide +kernel⟩
  refine ⟨fd, F.ok sc (fun vs H Q E h => by obtain ⟨a, v, rfl, _⟩ := h; rfl) (fun cdv A outer s H vs Q E hr h => ⟨_, PSs.nox (pss_one (ps_ost (pv 0) (pv 1))), ?_⟩), ?_, ?_⟩
  · obtain ⟨a, v, rfl, ha, q⟩ := h
    exact ⟨_, rfl, _, rfl, a, _, rfl, R.oex, R.no, .inl ⟨ha, q⟩⟩
  · exact fun s u v _ => F.bindsA (ps := ["self", "flips"]) (fun _ _ _ _ _ _ us hl => match us, hl with | [_, _], _ => rfl) s [u, v] rfl
  · obtain ⟨oc, od, dV, kV, doc, pm, an, cdv, ct, osl, rfl, lk, hcd, hD, hK⟩ := F.ex
    rcases hD with ⟨_, rfl⟩ | ⟨e, _⟩
    · exact fun s u v _ => .of_eq rfl
    · exact absurd rfl e
theorem ini_BadSums (F : FnI K "BadSums" "BadSums.__init__" sI_BadSums fd) (T : Tx K mg) : IniOk P w K mg base ("BadSums", "sums") := by
  have o := T.one (p := ("BadSums", "sums")) (by decide +kernel)
  have R := err_of o.1 o.2
  have sc : FnScope ["self", "sums"] ["self", "sums"] (defScope sI_BadSums) := ⟨rfl, rfl, rfl, by decide +kernel, rfl, by decide +kernel, by decide +kernel⟩
  refine ⟨fd, F.ok sc (fun vs H Q E h => by obtain ⟨a, v, rfl, _⟩ := h; rfl) (fun cdv A outer s H vs Q E hr h => ⟨_, PSs.nox (pss_one (ps_ost (pv 0) (pv 1))), ?_⟩), ?_, ?_⟩
  · obtain ⟨a, v, rfl, ha, q⟩ := h
    exact ⟨_, rfl, _, rfl, a, _, rfl, R.oex, R.no, .inl ⟨ha, q⟩⟩
  · exact fun s u v _ => F.bindsA (ps := ["self", "sums"]) (fun _ _ _ _ _ _ us hl => match us, hl with | [_, _], _ => rfl) s [u, v] rfl
  · obtain ⟨oc, od, dV, kV, doc, pm, an, cdv, ct, osl, rfl, lk, hcd, hD, hK⟩ := F.ex
    rcases hD with ⟨_, rfl⟩ | ⟨e, _⟩
    · exact fun s u v _ => .of_eq rfl
    · exact absurd rfl e
theorem ini_BadFormula (F : FnI K "BadFormula" "BadFormula.__init__" sI_BadFormula fd) (T : Tx K mg) : IniOk P w K mg base ("BadFormula", "formula") := by
  have o := T.one (p := ("BadFormula", "formula")) (by decide +kernel)
  have R := err_of o.1 o.2
  have sc : FnScope ["self", "formula"] ["self", "formula"] (defScope sI_BadFormula) := ⟨rfl, rfl, rfl, by decide +kernel, rfl, by decide +kernel, by decide +kernel⟩
  refine ⟨fd, F.ok sc (fun vs H Q E h => by obtain ⟨a, v, rfl, _⟩ := h; rfl) (fun cdv A outer s H vs Q E hr h => ⟨_, PSs.nox (pss_one (ps_ost (pv 0) (pv 1))), ?_⟩), ?_, ?_⟩
  · obtain ⟨a, v, rfl, ha, q⟩ := h
    exact ⟨_, rfl, _, rfl, a, _, rfl, R.oex, R.no, .inl ⟨ha, q⟩⟩
  · exact fun s u v _ => F.bindsA (ps := ["self", "formula"]) (fun _ _ _ _ _ _ us hl => match us, hl with | [_, _], _ => rfl) s [u, v] rfl
  · obtain ⟨oc, od, dV, kV, doc, pm, an, cdv, ct, osl, rfl, lk, hcd, hD, hK⟩ := F.ex
    rcases hD with ⟨_, rfl⟩ | ⟨e, _⟩
    · exact fun s u v _ => .of_eq rfl
    · exact absurd rfl e
theorem ini_BadPanels (F : FnI K "BadPanels" "BadPanels.__init__" sI_BadPanels fd) (T : Tx K mg) : IniOk P w K mg base ("BadPanels", "index") := by
  have o := T.one (p := ("BadPanels", "index")) (by decide +kernel)
  have R := err_of o.1 o.2
  have sc : FnScope ["self", "index"] ["self", "index"] (defScope sI_BadPanels) := ⟨rfl, rfl, rfl, by decide +kernel, rfl, by decide +kernel, by decide +kernel⟩
  refine ⟨fd, F.ok sc (fun vs H Q E h => by obtain ⟨a, v, rfl, _⟩ := h; rfl) (fun cdv A outer s H vs Q E hr h => ⟨_, PSs.nox (pss_one (ps_ost (pv 0) (pv 1))), ?_⟩), ?_, ?_⟩
  · obtain ⟨a, v, rfl, ha, q⟩ := h
    exact ⟨_, rfl, _, rfl, a, _, rfl, R.oex, R.no, .inl ⟨ha, q⟩⟩
  · exact fun s u v _ => F.bindsA (ps := ["self", "index"]) (fun _ _ _ _ _ _ us hl => match us, hl with | [_, _], _ => rfl) s [u, v] rfl
  · obtain ⟨oc, od, dV, kV, doc, pm, an, cdv, ct, osl, rfl, lk, hcd, hD, hK⟩ := F.ex
    rcases hD with ⟨_, rfl⟩ | ⟨e, _⟩
    · exact fun s u v _ => .of_eq rfl
    · exact absurd rfl e
theorem ini_BadLamp (F : FnI K "BadLamp" "BadLamp.__init__" sI_BadLamp fd) (T : Tx K mg) : IniOk P w K mg base ("BadLamp", "lamp") := by
  have o := T.one (p := ("BadLamp", "lamp")) (by decide +kernel)
  have R := err_of o.1 o.2
  have sc : FnScope ["self", "lamp"] ["self", "lamp"] (defScope sI_BadLamp) := ⟨rfl, rfl, rfl, by decide +kernel, rfl, by decide +kernel, by decide +kernel⟩
  refine ⟨fd, F.ok sc (fun vs H Q E h => by obtain ⟨a, v, rfl, _⟩ := h; rfl) (fun cdv A outer s H vs Q E hr h => ⟨_, PSs.nox (pss_one (ps_ost (pv 0) (pv 1))), ?_⟩), ?_, ?_⟩
  · obtain ⟨a, v, rfl, ha, q⟩ := h
    exact ⟨_, rfl, _, rfl, a, _, rfl, R.oex, R.no, .inl ⟨ha, q⟩⟩
  · exact fun s u v _ => F.bindsA (ps := ["self", "lamp"]) (fun _ _ _ _ _ _ us hl => match us, hl with | [_, _], _ => rfl) s [u, v] rfl
  · obtain ⟨oc, od, dV, kV, doc, pm, an, cdv, ct, osl, rfl, lk, hcd, hD, hK⟩ := F.ex
    rcases hD with ⟨_, rfl⟩ | ⟨e, _⟩
    · exact fun s u v _ => .of_eq rfl
    · exact absurd rfl e
theorem ini_BadShared (F : FnI K "BadShared" "BadShared.__init__" sI_BadShared fd) (T : Tx K mg) : IniOk P w K mg base ("BadShared", "shared") := by
  have o := T.one (p := ("BadShared", "shared")) (by decide +kernel)
  have R := err_of o.1 o.2
  have sc : FnScope ["self", "shared"] ["self", "shared"] (defScope sI_BadShared) := ⟨rfl, rfl, rfl, by decide +kernel, rfl, by decide +kernel, by decide +kernel⟩
  refine ⟨fd, F.ok sc (fun vs H Q E h => by obtain ⟨a, v, rfl, _⟩ := h; rfl) (fun cdv A outer s H vs Q E hr h => ⟨_, PSs.nox (pss_one (ps_ost (pv 0) (pv 1))), ?_⟩), ?_, ?_⟩
  · obtain ⟨a, v, rfl, ha, q⟩ := h
    exact ⟨_, rfl, _, rfl, a, _, rfl, R.oex, R.no, .inl ⟨ha, q⟩⟩
  · exact fun s u v _ => F.bindsA (ps := ["self", "shared"]) (fun _ _ _ _ _ _ us hl => match us, hl with | [_, _], _ => rfl) s [u, v] rfl
  · obtain ⟨oc, od, dV, kV, doc, pm, an, cdv, ct, osl, rfl, lk, hcd, hD, hK⟩ := F.ex
    rcases hD with ⟨_, rfl⟩ | ⟨e, _⟩
    · exact fun s u v _ => .of_eq rfl
    · exact absurd rfl e
theorem ini_BadShare (F : FnI K "BadShare" "BadShare.__init__" sI_BadShare fd) (T : Tx K mg) : IniOk P w K mg base ("BadShare", "share") := by
  have o := T.one (p := ("BadShare", "share")) (by decide +kernel)
  have R := err_of o.1 o.2
  have sc : FnScope ["self", "share"] ["self", "share"] (defScope sI_BadShare) := ⟨rfl, rfl, rfl, by decide +kernel, rfl, by decide +kernel, by decide +kernel⟩
  refine ⟨fd, F.ok sc (fun vs H Q E h => by obtain ⟨a, v, rfl, _⟩ := h; rfl) (fun cdv A outer s H vs Q E hr h => ⟨_, PSs.nox (pss_one (ps_ost (pv 0) (pv 1))), ?_⟩), ?_, ?_⟩
  · obtain ⟨a, v, rfl, ha, q⟩ := h
    exact ⟨_, rfl, _, rfl, a, _, rfl, R.oex, R.no, .inl ⟨ha, q⟩⟩
  · exact fun s u v _ => F.bindsA (ps := ["self", "share"]) (fun _ _ _ _ _ _ us hl => match us, hl with | [_, _], _ => rfl) s [u, v] rfl
  · obtain ⟨oc, od, dV, kV, doc, pm, an, cdv, ct, osl, rfl, lk, hcd, hD, hK⟩ := F.ex
    rcases hD with ⟨_, rfl⟩ | ⟨e, _⟩
    · exact fun s u v _ => .of_eq rfl
    · exact absurd rfl e
theorem ini_DarkPanels (F : FnI K "DarkPanels" "DarkPanels.__init__" sI_DarkPanels fd) (T : Tx K mg) : IniOk P w K mg base ("DarkPanels", "lamp") := by
  have o := T.one (p := ("DarkPanels", "lamp")) (by decide +kernel)
  have R := err_of o.1 o.2
  have sc : FnScope ["self", "lamp"] ["self", "lamp"] (defScope sI_DarkPanels) := ⟨rfl, rfl, rfl, by decide +kernel, rfl, by decide +kernel, by decide +kernel⟩
  refine ⟨fd, F.ok sc (fun vs H Q E h => by obtain ⟨a, v, rfl, _⟩ := h; rfl) (fun cdv A outer s H vs Q E hr h => ⟨_, PSs.nox (pss_one (ps_ost (pv 0) (pv 1))), ?_⟩), ?_, ?_⟩
  · obtain ⟨a, v, rfl, ha, q⟩ := h
    exact ⟨_, rfl, _, rfl, a, _, rfl, R.oex, R.no, .inl ⟨ha, q⟩⟩
  · exact fun s u v _ => F.bindsA (ps := ["self", "lamp"]) (fun _ _ _ _ _ _ us hl => match us, hl with | [_, _], _ => rfl) s [u, v] rfl
  · obtain ⟨oc, od, dV, kV, doc, pm, an, cdv, ct, osl, rfl, lk, hcd, hD, hK⟩ := F.ex
    rcases hD with ⟨_, rfl⟩ | ⟨e, _⟩
    · exact fun s u v _ => .of_eq rfl
    · exact absurd rfl e
theorem ini_BadEdit (F : FnI K "BadEdit" "BadEdit.__init__" sI_BadEdit fd) (T : Tx K mg) : IniOk P w K mg base ("BadEdit", "edit") := by
  have o := T.one (p := ("BadEdit", "edit")) (by decide +kernel)
  have R := err_of o.1 o.2
  have sc : FnScope ["self", "edit"] ["self", "edit"] (defScope sI_BadEdit) := ⟨rfl, rfl, rfl, by decide +kernel, rfl, by decide +kernel, by decide +kernel⟩
  refine ⟨fd, F.ok sc (fun vs H Q E h => by obtain ⟨a, v, rfl, _⟩ := h; rfl) (fun cdv A outer s H vs Q E hr h => ⟨_, PSs.nox (pss_one (ps_ost (pv 0) (pv 1))), ?_⟩), ?_, ?_⟩
  · obtain ⟨a, v, rfl, ha, q⟩ := h
    exact ⟨_, rfl, _, rfl, a, _, rfl, R.oex, R.no, .inl ⟨ha, q⟩⟩
  · exact fun s u v _ => F.bindsA (ps := ["self", "edit"]) (fun _ _ _ _ _ _ us hl => match us, hl with | [_, _], _ => rfl) s [u, v] rfl
  · obtain ⟨oc, od, dV, kV, doc, pm, an, cdv, ct, osl, rfl, lk, hcd, hD, hK⟩ := F.ex
    rcases hD with ⟨_, rfl⟩ | ⟨e, _⟩
    · exact fun s u v _ => .of_eq rfl
    · exact absurd rfl e
theorem ini_BadDesk (F : FnI K "BadDesk" "BadDesk.__init__" sI_BadDesk fd) (T : Tx K mg) : IniOk P w K mg base ("BadDesk", "desk") := by
  have o := T.one (p := ("BadDesk", "desk")) (by decide +kernel)
  have R := err_of o.1 o.2
  have sc : FnScope ["self", "desk"] ["self", "desk"] (defScope sI_BadDesk) := ⟨rfl, rfl, rfl, by decide +kernel, rfl, by decide +kernel, by decide +kernel⟩
  refine ⟨fd, F.ok sc (fun vs H Q E h => by obtain ⟨a, v, rfl, _⟩ := h; rfl) (fun cdv A outer s H vs Q E hr h => ⟨_, PSs.nox (pss_one (ps_ost (pv 0) (pv 1))), ?_⟩), ?_, ?_⟩
  · obtain ⟨a, v, rfl, ha, q⟩ := h
    exact ⟨_, rfl, _, rfl, a, _, rfl, R.oex, R.no, .inl ⟨ha, q⟩⟩
  · exact fun s u v _ => F.bindsA (ps := ["self", "desk"]) (fun _ _ _ _ _ _ us hl => match us, hl with | [_, _], _ => rfl) s [u, v] rfl
  · obtain ⟨oc, od, dV, kV, doc, pm, an, cdv, ct, osl, rfl, lk, hcd, hD, hK⟩ := F.ex
    rcases hD with ⟨_, rfl⟩ | ⟨e, _⟩
    · exact fun s u v _ => .of_eq rfl
    · exact absurd rfl e
theorem ini_BadDeskText (F : FnI K "BadDeskText" "BadDeskText.__init__" sI_BadDeskText fd) (T : Tx K mg) : IniOk P w K mg base ("BadDeskText", "line") := by
  have o := T.one (p := ("BadDeskText", "line")) (by decide +kernel)
  have R := err_of o.1 o.2
  have sc : FnScope ["self", "line"] ["self", "line"] (defScope sI_BadDeskText) := ⟨rfl, rfl, rfl, by decide +kernel, rfl, by decide +kernel, by decide +kernel⟩
  refine ⟨fd, F.ok sc (fun vs H Q E h => by obtain ⟨a, v, rfl, _⟩ := h; rfl) (fun cdv A outer s H vs Q E hr h => ⟨_, PSs.nox (pss_one (ps_ost (pv 0) (pv 1))), ?_⟩), ?_, ?_⟩
  · obtain ⟨a, v, rfl, ha, q⟩ := h
    exact ⟨_, rfl, _, rfl, a, _, rfl, R.oex, R.no, .inl ⟨ha, q⟩⟩
  · exact fun s u v _ => F.bindsA (ps := ["self", "line"]) (fun _ _ _ _ _ _ us hl => match us, hl with | [_, _], _ => rfl) s [u, v] rfl
  · obtain ⟨oc, od, dV, kV, doc, pm, an, cdv, ct, osl, rfl, lk, hcd, hD, hK⟩ := F.ex
    rcases hD with ⟨_, rfl⟩ | ⟨e, _⟩
    · exact fun s u v _ => .of_eq rfl
    · exact absurd rfl e
theorem ini_BadMachine (F : FnI K "BadMachine" "BadMachine.__init__" sI_BadMachine fd) (T : Tx K mg) : IniOk P w K mg base ("BadMachine", "machine") := by
  have o := T.one (p := ("BadMachine", "machine")) (by decide +kernel)
  have R := err_of o.1 o.2
  have sc : FnScope ["self", "machine"] ["self", "machine"] (defScope sI_BadMachine) := ⟨rfl, rfl, rfl, by decide +kernel, rfl, by decide +kernel, by decide +kernel⟩
  refine ⟨fd, F.ok sc (fun vs H Q E h => by obtain ⟨a, v, rfl, _⟩ := h; rfl) (fun cdv A outer s H vs Q E hr h => ⟨_, PSs.nox (pss_one (ps_ost (pv 0) (pv 1))), ?_⟩), ?_, ?_⟩
  · obtain ⟨a, v, rfl, ha, q⟩ := h
    exact ⟨_, rfl, _, rfl, a, _, rfl, R.oex, R.no, .inl ⟨ha, q⟩⟩
  · exact fun s u v _ => F.bindsA (ps := ["self", "machine"]) (fun _ _ _ _ _ _ us hl => match us, hl with | [_, _], _ => rfl) s [u, v] rfl
  · obtain ⟨oc, od, dV, kV, doc, pm, an, cdv, ct, osl, rfl, lk, hcd, hD, hK⟩ := F.ex
    rcases hD with ⟨_, rfl⟩ | ⟨e, _⟩
    · exact fun s u v _ => .of_eq rfl
    · exact absurd rfl e
theorem ini_BadLamps (F : FnI K "BadLamps" "BadLamps.__init__" sI_BadLamps fd) (T : Tx K mg) : IniOk P w K mg base ("BadLamps", "index") := by
  have o := T.one (p := ("BadLamps", "index")) (by decide +kernel)
  have R := err_of o.1 o.2
  have sc : FnScope ["self", "index"] ["self", "index"] (defScope sI_BadLamps) := ⟨rfl, rfl, rfl, by decide +kernel, rfl, by decide +kernel, by decide +kernel⟩
  refine ⟨fd, F.ok sc (fun vs H Q E h => by obtain ⟨a, v, rfl, _⟩ := h; rfl) (fun cdv A outer s H vs Q E hr h => ⟨_, PSs.nox (pss_one (ps_ost (pv 0) (pv 1))), ?_⟩), ?_, ?_⟩
  · obtain ⟨a, v, rfl, ha, q⟩ := h
    exact ⟨_, rfl, _, rfl, a, _, rfl, R.oex, R.no, .inl ⟨ha, q⟩⟩
  · exact fun s u v _ => F.bindsA (ps := ["self", "index"]) (fun _ _ _ _ _ _ us hl => match us, hl with | [_, _], _ => rfl) s [u, v] rfl
  · obtain ⟨oc, od, dV, kV, doc, pm, an, cdv, ct, osl, rfl, lk, hcd, hD, hK⟩ := F.ex
    rcases hD with ⟨_, rfl⟩ | ⟨e, _⟩
    · exact fun s u v _ => .of_eq rfl
    · exact absurd rfl e
theorem ini_BadStates (F : FnI K "BadStates" "BadStates.__init__" sI_BadStates fd) (T : Tx K mg) : IniOk P w K mg base ("BadStates", "index") := by
  have o := T.one (p := ("BadStates", "index")) (by decide +kernel)
  have R := err_of o.1 o.2
  have sc : FnScope ["self", "index"] ["self", "index"] (defScope sI_BadStates) := ⟨rfl, rfl, rfl, by decide +kernel, rfl, by decide +kernel, by decide +kernel⟩
  refine ⟨fd, F.ok sc (fun vs H Q E h => by obtain ⟨a, v, rfl, _⟩ := h; rfl) (fun cdv A outer s H vs Q E hr h => ⟨_, PSs.nox (pss_one (ps_ost (pv 0) (pv 1))), ?_⟩), ?_, ?_⟩
  · obtain ⟨a, v, rfl, ha, q⟩ := h
    exact ⟨_, rfl, _, rfl, a, _, rfl, R.oex, R.no, .inl ⟨ha, q⟩⟩
  · exact fun s u v _ => F.bindsA (ps := ["self", "index"]) (fun _ _ _ _ _ _ us hl => match us, hl with | [_, _], _ => rfl) s [u, v] rfl
  · obtain ⟨oc, od, dV, kV, doc, pm, an, cdv, ct, osl, rfl, lk, hcd, hD, hK⟩ := F.ex
    rcases hD with ⟨_, rfl⟩ | ⟨e, _⟩
    · exact fun s u v _ => .of_eq rfl
    · exact absurd rfl e
theorem ini_BadMoves (F : FnI K "BadMoves" "BadMoves.__init__" sI_BadMoves fd) (T : Tx K mg) : IniOk P w K mg base ("BadMoves", "index") := by
  have o := T.one (p := ("BadMoves", "index")) (by decide +kernel)
  have R := err_of o.1 o.2
  have sc : FnScope ["self", "index"] ["self", "index"] (defScope sI_BadMoves) := ⟨rfl, rfl, rfl, by decide +kernel, rfl, by decide +kernel, by decide +kernel⟩
  refine ⟨fd, F.ok sc (fun vs H Q E h => by obtain ⟨a, v, rfl, _⟩ := h; rfl) (fun cdv A outer s H vs Q E hr h => ⟨_, PSs.nox (pss_one (ps_ost (pv 0) (pv 1))), ?_⟩), ?_, ?_⟩
  · obtain ⟨a, v, rfl, ha, q⟩ := h
    exact ⟨_, rfl, _, rfl, a, _, rfl, R.oex, R.no, .inl ⟨ha, q⟩⟩
  · exact fun s u v _ => F.bindsA (ps := ["self", "index"]) (fun _ _ _ _ _ _ us hl => match us, hl with | [_, _], _ => rfl) s [u, v] rfl
  · obtain ⟨oc, od, dV, kV, doc, pm, an, cdv, ct, osl, rfl, lk, hcd, hD, hK⟩ := F.ex
    rcases hD with ⟨_, rfl⟩ | ⟨e, _⟩
    · exact fun s u v _ => .of_eq rfl
    · exact absurd rfl e
theorem ini_BadName (F : FnI K "BadName" "BadName.__init__" sI_BadName fd) (T : Tx K mg) : IniOk P w K mg base ("BadName", "name") := by
  have o := T.one (p := ("BadName", "name")) (by decide +kernel)
  have R := err_of o.1 o.2
  have sc : FnScope ["self", "name"] ["self", "name"] (defScope sI_BadName) := ⟨rfl, rfl, rfl, by decide +kernel, rfl, by decide +kernel, by decide +kernel⟩
  refine ⟨fd, F.ok sc (fun vs H Q E h => by obtain ⟨a, v, rfl, _⟩ := h; rfl) (fun cdv A outer s H vs Q E hr h => ⟨_, PSs.nox (pss_one (ps_ost (pv 0) (pv 1))), ?_⟩), ?_, ?_⟩
  · obtain ⟨a, v, rfl, ha, q⟩ := h
    exact ⟨_, rfl, _, rfl, a, _, rfl, R.oex, R.no, .inl ⟨ha, q⟩⟩
  · exact fun s u v _ => F.bindsA (ps := ["self", "name"]) (fun _ _ _ _ _ _ us hl => match us, hl with | [_, _], _ => rfl) s [u, v] rfl
  · obtain ⟨oc, od, dV, kV, doc, pm, an, cdv, ct, osl, rfl, lk, hcd, hD, hK⟩ := F.ex
    rcases hD with ⟨_, rfl⟩ | ⟨e, _⟩
    · exact fun s u v _ => .of_eq rfl
    · exact absurd rfl e
theorem ini_BadWalk (F : FnI K "BadWalk" "BadWalk.__init__" sI_BadWalk fd) (T : Tx K mg) : IniOk P w K mg base ("BadWalk", "index") := by
  have o := T.one (p := ("BadWalk", "index")) (by decide +kernel)
  have R := err_of o.1 o.2
  have sc : FnScope ["self", "index"] ["self", "index"] (defScope sI_BadWalk) := ⟨rfl, rfl, rfl, by decide +kernel, rfl, by decide +kernel, by decide +kernel⟩
  refine ⟨fd, F.ok sc (fun vs H Q E h => by obtain ⟨a, v, rfl, _⟩ := h; rfl) (fun cdv A outer s H vs Q E hr h => ⟨_, PSs.nox (pss_one (ps_ost (pv 0) (pv 1))), ?_⟩), ?_, ?_⟩
  · obtain ⟨a, v, rfl, ha, q⟩ := h
    exact ⟨_, rfl, _, rfl, a, _, rfl, R.oex, R.no, .inl ⟨ha, q⟩⟩
  · exact fun s u v _ => F.bindsA (ps := ["self", "index"]) (fun _ _ _ _ _ _ us hl => match us, hl with | [_, _], _ => rfl) s [u, v] rfl
  · obtain ⟨oc, od, dV, kV, doc, pm, an, cdv, ct, osl, rfl, lk, hcd, hD, hK⟩ := F.ex
    rcases hD with ⟨_, rfl⟩ | ⟨e, _⟩
    · exact fun s u v _ => .of_eq rfl
    · exact absurd rfl e
theorem ini_BadMachineText (F : FnI K "BadMachineText" "BadMachineText.__init__" sI_BadMachineText fd) (T : Tx K mg) : IniOk P w K mg base ("BadMachineText", "line") := by
  have o := T.one (p := ("BadMachineText", "line")) (by decide +kernel)
  have R := err_of o.1 o.2
  have sc : FnScope ["self", "line"] ["self", "line"] (defScope sI_BadMachineText) := ⟨rfl, rfl, rfl, by decide +kernel, rfl, by decide +kernel, by decide +kernel⟩
  refine ⟨fd, F.ok sc (fun vs H Q E h => by obtain ⟨a, v, rfl, _⟩ := h; rfl) (fun cdv A outer s H vs Q E hr h => ⟨_, PSs.nox (pss_one (ps_ost (pv 0) (pv 1))), ?_⟩), ?_, ?_⟩
  · obtain ⟨a, v, rfl, ha, q⟩ := h
    exact ⟨_, rfl, _, rfl, a, _, rfl, R.oex, R.no, .inl ⟨ha, q⟩⟩
  · exact fun s u v _ => F.bindsA (ps := ["self", "line"]) (fun _ _ _ _ _ _ us hl => match us, hl with | [_, _], _ => rfl) s [u, v] rfl
  · obtain ⟨oc, od, dV, kV, doc, pm, an, cdv, ct, osl, rfl, lk, hcd, hD, hK⟩ := F.ex
    rcases hD with ⟨_, rfl⟩ | ⟨e, _⟩
    · exact fun s u v _ => .of_eq rfl
    · exact absurd rfl e
theorem ini_BadCode (F : FnI K "BadCode" "BadCode.__init__" sI_BadCode fd) (T : Tx K mg) : IniOk P w K mg base ("BadCode", "code") := by
  have o := T.one (p := ("BadCode", "code")) (by decide +kernel)
  have R := err_of o.1 o.2
  have sc : FnScope ["self", "code"] ["self", "code"] (defScope sI_BadCode) := ⟨rfl, rfl, rfl, by decide +kernel, rfl, by decide +kernel, by decide +kernel⟩
  refine ⟨fd, F.ok sc (fun vs H Q E h => by obtain ⟨a, v, rfl, _⟩ := h; rfl) (fun cdv A outer s H vs Q E hr h => ⟨_, PSs.nox (pss_one (ps_ost (pv 0) (pv 1))), ?_⟩), ?_, ?_⟩
  · obtain ⟨a, v, rfl, ha, q⟩ := h
    exact ⟨_, rfl, _, rfl, a, _, rfl, R.oex, R.no, .inl ⟨ha, q⟩⟩
  · exact fun s u v _ => F.bindsA (ps := ["self", "code"]) (fun _ _ _ _ _ _ us hl => match us, hl with | [_, _], _ => rfl) s [u, v] rfl
  · obtain ⟨oc, od, dV, kV, doc, pm, an, cdv, ct, osl, rfl, lk, hcd, hD, hK⟩ := F.ex
    rcases hD with ⟨_, rfl⟩ | ⟨e, _⟩
    · exact fun s u v _ => .of_eq rfl
    · exact absurd rfl e
theorem ini_BadMove (F : FnI K "BadMove" "BadMove.__init__" sI_BadMove fd) (T : Tx K mg) : IniOk P w K mg base ("BadMove", "move") := by
  have o := T.one (p := ("BadMove", "move")) (by decide +kernel)
  have R := err_of o.1 o.2
  have sc : FnScope ["self", "move"] ["self", "move"] (defScope sI_BadMove) := ⟨rfl, rfl, rfl, by decide +kernel, rfl, by decide +kernel, by decide +kernel⟩
  refine ⟨fd, F.ok sc (fun vs H Q E h => by obtain ⟨a, v, rfl, _⟩ := h; rfl) (fun cdv A outer s H vs Q E hr h => ⟨_, PSs.nox (pss_one (ps_ost (pv 0) (pv 1))), ?_⟩), ?_, ?_⟩
  · obtain ⟨a, v, rfl, ha, q⟩ := h
    exact ⟨_, rfl, _, rfl, a, _, rfl, R.oex, R.no, .inl ⟨ha, q⟩⟩
  · exact fun s u v _ => F.bindsA (ps := ["self", "move"]) (fun _ _ _ _ _ _ us hl => match us, hl with | [_, _], _ => rfl) s [u, v] rfl
  · obtain ⟨oc, od, dV, kV, doc, pm, an, cdv, ct, osl, rfl, lk, hcd, hD, hK⟩ := F.ex
    rcases hD with ⟨_, rfl⟩ | ⟨e, _⟩
    · exact fun s u v _ => .of_eq rfl
    · exact absurd rfl e
theorem ini_BadNets (F : FnI K "BadNets" "BadNets.__init__" sI_BadNets fd) (T : Tx K mg) : IniOk P w K mg base ("BadNets", "nets") := by
  have o := T.one (p := ("BadNets", "nets")) (by decide +kernel)
  have R := err_of o.1 o.2
  have sc : FnScope ["self", "nets"] ["self", "nets"] (defScope sI_BadNets) := ⟨rfl, rfl, rfl, by decide +kernel, rfl, by decide +kernel, by decide +kernel⟩
  refine ⟨fd, F.ok sc (fun vs H Q E h => by obtain ⟨a, v, rfl, _⟩ := h; rfl) (fun cdv A outer s H vs Q E hr h => ⟨_, PSs.nox (pss_one (ps_ost (pv 0) (pv 1))), ?_⟩), ?_, ?_⟩
  · obtain ⟨a, v, rfl, ha, q⟩ := h
    exact ⟨_, rfl, _, rfl, a, _, rfl, R.oex, R.no, .inl ⟨ha, q⟩⟩
  · exact fun s u v _ => F.bindsA (ps := ["self", "nets"]) (fun _ _ _ _ _ _ us hl => match us, hl with | [_, _], _ => rfl) s [u, v] rfl
  · obtain ⟨oc, od, dV, kV, doc, pm, an, cdv, ct, osl, rfl, lk, hcd, hD, hK⟩ := F.ex
    rcases hD with ⟨_, rfl⟩ | ⟨e, _⟩
    · exact fun s u v _ => .of_eq rfl
    · exact absurd rfl e
theorem ini_BadRuns (F : FnI K "BadRuns" "BadRuns.__init__" sI_BadRuns fd) (T : Tx K mg) : IniOk P w K mg base ("BadRuns", "index") := by
  have o := T.one (p := ("BadRuns", "index")) (by decide +kernel)
  have R := err_of o.1 o.2
  have sc : FnScope ["self", "index"] ["self", "index"] (defScope sI_BadRuns) := ⟨rfl, rfl, rfl, by decide +kernel, rfl, by decide +kernel, by decide +kernel⟩
  refine ⟨fd, F.ok sc (fun vs H Q E h => by obtain ⟨a, v, rfl, _⟩ := h; rfl) (fun cdv A outer s H vs Q E hr h => ⟨_, PSs.nox (pss_one (ps_ost (pv 0) (pv 1))), ?_⟩), ?_, ?_⟩
  · obtain ⟨a, v, rfl, ha, q⟩ := h
    exact ⟨_, rfl, _, rfl, a, _, rfl, R.oex, R.no, .inl ⟨ha, q⟩⟩
  · exact fun s u v _ => F.bindsA (ps := ["self", "index"]) (fun _ _ _ _ _ _ us hl => match us, hl with | [_, _], _ => rfl) s [u, v] rfl
  · obtain ⟨oc, od, dV, kV, doc, pm, an, cdv, ct, osl, rfl, lk, hcd, hD, hK⟩ := F.ex
    rcases hD with ⟨_, rfl⟩ | ⟨e, _⟩
    · exact fun s u v _ => .of_eq rfl
    · exact absurd rfl e
theorem ini_BadLog (F : FnI K "BadLog" "BadLog.__init__" sI_BadLog fd) (T : Tx K mg) : IniOk P w K mg base ("BadLog", "log") := by
  have o := T.one (p := ("BadLog", "log")) (by decide +kernel)
  have R := err_of o.1 o.2
  have sc : FnScope ["self", "log"] ["self", "log"] (defScope sI_BadLog) := ⟨rfl, rfl, rfl, by decide +kernel, rfl, by decide +kernel, by decide +kernel⟩
  refine ⟨fd, F.ok sc (fun vs H Q E h => by obtain ⟨a, v, rfl, _⟩ := h; rfl) (fun cdv A outer s H vs Q E hr h => ⟨_, PSs.nox (pss_one (ps_ost (pv 0) (pv 1))), ?_⟩), ?_, ?_⟩
  · obtain ⟨a, v, rfl, ha, q⟩ := h
    exact ⟨_, rfl, _, rfl, a, _, rfl, R.oex, R.no, .inl ⟨ha, q⟩⟩
  · exact fun s u v _ => F.bindsA (ps := ["self", "log"]) (fun _ _ _ _ _ _ us hl => match us, hl with | [_, _], _ => rfl) s [u, v] rfl
  · obtain ⟨oc, od, dV, kV, doc, pm, an, cdv, ct, osl, rfl, lk, hcd, hD, hK⟩ := F.ex
    rcases hD with ⟨_, rfl⟩ | ⟨e, _⟩
    · exact fun s u v _ => .of_eq rfl
    · exact absurd rfl e
theorem ini_BadLogText (F : FnI K "BadLogText" "BadLogText.__init__" sI_BadLogText fd) (T : Tx K mg) : IniOk P w K mg base ("BadLogText", "line") := by
  have o := T.one (p := ("BadLogText", "line")) (by decide +kernel)
  have R := err_of o.1 o.2
  have sc : FnScope ["self", "line"] ["self", "line"] (defScope sI_BadLogText) := ⟨rfl, rfl, rfl, by decide +kernel, rfl, by decide +kernel, by decide +kernel⟩
  refine ⟨fd, F.ok sc (fun vs H Q E h => by obtain ⟨a, v, rfl, _⟩ := h; rfl) (fun cdv A outer s H vs Q E hr h => ⟨_, PSs.nox (pss_one (ps_ost (pv 0) (pv 1))), ?_⟩), ?_, ?_⟩
  · obtain ⟨a, v, rfl, ha, q⟩ := h
    exact ⟨_, rfl, _, rfl, a, _, rfl, R.oex, R.no, .inl ⟨ha, q⟩⟩
  · exact fun s u v _ => F.bindsA (ps := ["self", "line"]) (fun _ _ _ _ _ _ us hl => match us, hl with | [_, _], _ => rfl) s [u, v] rfl
  · obtain ⟨oc, od, dV, kV, doc, pm, an, cdv, ct, osl, rfl, lk, hcd, hD, hK⟩ := F.ex
    rcases hD with ⟨_, rfl⟩ | ⟨e, _⟩
    · exact fun s u v _ => .of_eq rfl
    · exact absurd rfl e
theorem ini_BadMany (F : FnI K "BadMany" "BadMany.__init__" sI_BadMany fd) (T : Tx K mg) : IniOk P w K mg base ("BadMany", "many") := by
  have o := T.one (p := ("BadMany", "many")) (by decide +kernel)
  have R := err_of o.1 o.2
  have sc : FnScope ["self", "many"] ["self", "many"] (defScope sI_BadMany) := ⟨rfl, rfl, rfl, by decide +kernel, rfl, by decide +kernel, by decide +kernel⟩
  refine ⟨fd, F.ok sc (fun vs H Q E h => by obtain ⟨a, v, rfl, _⟩ := h; rfl) (fun cdv A outer s H vs Q E hr h => ⟨_, PSs.nox (pss_one (ps_ost (pv 0) (pv 1))), ?_⟩), ?_, ?_⟩
  · obtain ⟨a, v, rfl, ha, q⟩ := h
    exact ⟨_, rfl, _, rfl, a, _, rfl, R.oex, R.no, .inl ⟨ha, q⟩⟩
  · exact fun s u v _ => F.bindsA (ps := ["self", "many"]) (fun _ _ _ _ _ _ us hl => match us, hl with | [_, _], _ => rfl) s [u, v] rfl
  · obtain ⟨oc, od, dV, kV, doc, pm, an, cdv, ct, osl, rfl, lk, hcd, hD, hK⟩ := F.ex
    rcases hD with ⟨_, rfl⟩ | ⟨e, _⟩
    · exact fun s u v _ => .of_eq rfl
    · exact absurd rfl e
theorem ini_BadNumber (F : FnI K "BadNumber" "BadNumber.__init__" sI_BadNumber fd) (T : Tx K mg) : IniOk P w K mg base ("BadNumber", "number") := by
  have o := T.one (p := ("BadNumber", "number")) (by decide +kernel)
  have R := err_of o.1 o.2
  have sc : FnScope ["self", "number"] ["self", "number"] (defScope sI_BadNumber) := ⟨rfl, rfl, rfl, by decide +kernel, rfl, by decide +kernel, by decide +kernel⟩
  refine ⟨fd, F.ok sc (fun vs H Q E h => by obtain ⟨a, v, rfl, _⟩ := h; rfl) (fun cdv A outer s H vs Q E hr h => ⟨_, PSs.nox (pss_one (ps_ost (pv 0) (pv 1))), ?_⟩), ?_, ?_⟩
  · obtain ⟨a, v, rfl, ha, q⟩ := h
    exact ⟨_, rfl, _, rfl, a, _, rfl, R.oex, R.no, .inl ⟨ha, q⟩⟩
  · exact fun s u v _ => F.bindsA (ps := ["self", "number"]) (fun _ _ _ _ _ _ us hl => match us, hl with | [_, _], _ => rfl) s [u, v] rfl
  · obtain ⟨oc, od, dV, kV, doc, pm, an, cdv, ct, osl, rfl, lk, hcd, hD, hK⟩ := F.ex
    rcases hD with ⟨_, rfl⟩ | ⟨e, _⟩
    · exact fun s u v _ => .of_eq rfl
    · exact absurd rfl e
theorem ini_BadCell (F : FnI K "BadCell" "BadCell.__init__" sI_BadCell fd) (T : Tx K mg) : IniOk P w K mg base ("BadCell", "cell") := by
  have o := T.one (p := ("BadCell", "cell")) (by decide +kernel)
  have R := err_of o.1 o.2
  have sc : FnScope ["self", "cell"] ["self", "cell"] (defScope sI_BadCell) := ⟨rfl, rfl, rfl, by decide +kernel, rfl, by decide +kernel, by decide +kernel⟩
  refine ⟨fd, F.ok sc (fun vs H Q E h => by obtain ⟨a, v, rfl, _⟩ := h; rfl) (fun cdv A outer s H vs Q E hr h => ⟨_, PSs.nox (pss_one (ps_ost (pv 0) (pv 1))), ?_⟩), ?_, ?_⟩
  · obtain ⟨a, v, rfl, ha, q⟩ := h
    exact ⟨_, rfl, _, rfl, a, _, rfl, R.oex, R.no, .inl ⟨ha, q⟩⟩
  · exact fun s u v _ => F.bindsA (ps := ["self", "cell"]) (fun _ _ _ _ _ _ us hl => match us, hl with | [_, _], _ => rfl) s [u, v] rfl
  · obtain ⟨oc, od, dV, kV, doc, pm, an, cdv, ct, osl, rfl, lk, hcd, hD, hK⟩ := F.ex
    rcases hD with ⟨_, rfl⟩ | ⟨e, _⟩
    · exact fun s u v _ => .of_eq rfl
    · exact absurd rfl e
theorem ini_BadCube (F : FnI K "BadCube" "BadCube.__init__" sI_BadCube fd) (T : Tx K mg) : IniOk P w K mg base ("BadCube", "cube") := by
  have o := T.one (p := ("BadCube", "cube")) (by decide +kernel)
  have R := err_of o.1 o.2
  have sc : FnScope ["self", "cube"] ["self", "cube"] (defScope sI_BadCube) := ⟨rfl, rfl, rfl, by decide +kernel, rfl, by decide +kernel, by decide +kernel⟩
  refine ⟨fd, F.ok sc (fun vs H Q E h => by obtain ⟨a, v, rfl, _⟩ := h; rfl) (fun cdv A outer s H vs Q E hr h => ⟨_, PSs.nox (pss_one (ps_ost (pv 0) (pv 1))), ?_⟩), ?_, ?_⟩
  · obtain ⟨a, v, rfl, ha, q⟩ := h
    exact ⟨_, rfl, _, rfl, a, _, rfl, R.oex, R.no, .inl ⟨ha, q⟩⟩
  · exact fun s u v _ => F.bindsA (ps := ["self", "cube"]) (fun _ _ _ _ _ _ us hl => match us, hl with | [_, _], _ => rfl) s [u, v] rfl
  · obtain ⟨oc, od, dV, kV, doc, pm, an, cdv, ct, osl, rfl, lk, hcd, hD, hK⟩ := F.ex
    rcases hD with ⟨_, rfl⟩ | ⟨e, _⟩
    · exact fun s u v _ => .of_eq rfl
    · exact absurd rfl e
theorem ini_BadOther (F : FnI K "BadOther" "BadOther.__init__" sI_BadOther fd) (T : Tx K mg) : IniOk P w K mg base ("BadOther", "other") := by
  have o := T.one (p := ("BadOther", "other")) (by decide +kernel)
  have R := err_of o.1 o.2
  have sc : FnScope ["self", "other"] ["self", "other"] (defScope sI_BadOther) := ⟨rfl, rfl, rfl, by decide +kernel, rfl, by decide +kernel, by decide +kernel⟩
  refine ⟨fd, F.ok sc (fun vs H Q E h => by obtain ⟨a, v, rfl, _⟩ := h; rfl) (fun cdv A outer s H vs Q E hr h => ⟨_, PSs.nox (pss_one (ps_ost (pv 0) (pv 1))), ?_⟩), ?_, ?_⟩
  · obtain ⟨a, v, rfl, ha, q⟩ := h
    exact ⟨_, rfl, _, rfl, a, _, rfl, R.oex, R.no, .inl ⟨ha, q⟩⟩
  · exact fun s u v _ => F.bindsA (ps := ["self", "other"]) (fun _ _ _ _ _ _ us hl => match us, hl with | [_, _], _ => rfl) s [u, v] rfl
  · obtain ⟨oc, od, dV, kV, doc, pm, an, cdv, ct, osl, rfl, lk, hcd, hD, hK⟩ := F.ex
    rcases hD with ⟨_, rfl⟩ | ⟨e, _⟩
    · exact fun s u v _ => .of_eq rfl
    · exact absurd rfl e
theorem ini_BadCubes (F : FnI K "BadCubes" "BadCubes.__init__" sI_BadCubes fd) (T : Tx K mg) : IniOk P w K mg base ("BadCubes", "index") := by
  have o := T.one (p := ("BadCubes", "index")) (by decide +kernel)
  have R := err_of o.1 o.2
  have sc : FnScope ["self", "index"] ["self", "index"] (defScope sI_BadCubes) := ⟨rfl, rfl, rfl, by decide +kernel, rfl, by decide +kernel, by decide +kernel⟩
  refine ⟨fd, F.ok sc (fun vs H Q E h => by obtain ⟨a, v, rfl, _⟩ := h; rfl) (fun cdv A outer s H vs Q E hr h => ⟨_, PSs.nox (pss_one (ps_ost (pv 0) (pv 1))), ?_⟩), ?_, ?_⟩
  · obtain ⟨a, v, rfl, ha, q⟩ := h
    exact ⟨_, rfl, _, rfl, a, _, rfl, R.oex, R.no, .inl ⟨ha, q⟩⟩
  · exact fun s u v _ => F.bindsA (ps := ["self", "index"]) (fun _ _ _ _ _ _ us hl => match us, hl with | [_, _], _ => rfl) s [u, v] rfl
  · obtain ⟨oc, od, dV, kV, doc, pm, an, cdv, ct, osl, rfl, lk, hcd, hD, hK⟩ := F.ex
    rcases hD with ⟨_, rfl⟩ | ⟨e, _⟩
    · exact fun s u v _ => .of_eq rfl
    · exact absurd rfl e
theorem ini_BadLevers (F : FnI K "BadLevers" "BadLevers.__init__" sI_BadLevers fd) (T : Tx K mg) : IniOk P w K mg base ("BadLevers", "index") := by
  have o := T.one (p := ("BadLevers", "index")) (by decide +kernel)
  have R := err_of o.1 o.2
  have sc : FnScope ["self", "index"] ["self", "index"] (defScope sI_BadLevers) := ⟨rfl, rfl, rfl, by decide +kernel, rfl, by decide +kernel, by decide +kernel⟩
  refine ⟨fd, F.ok sc (fun vs H Q E h => by obtain ⟨a, v, rfl, _⟩ := h; rfl) (fun cdv A outer s H vs Q E hr h => ⟨_, PSs.nox (pss_one (ps_ost (pv 0) (pv 1))), ?_⟩), ?_, ?_⟩
  · obtain ⟨a, v, rfl, ha, q⟩ := h
    exact ⟨_, rfl, _, rfl, a, _, rfl, R.oex, R.no, .inl ⟨ha, q⟩⟩
  · exact fun s u v _ => F.bindsA (ps := ["self", "index"]) (fun _ _ _ _ _ _ us hl => match us, hl with | [_, _], _ => rfl) s [u, v] rfl
  · obtain ⟨oc, od, dV, kV, doc, pm, an, cdv, ct, osl, rfl, lk, hcd, hD, hK⟩ := F.ex
    rcases hD with ⟨_, rfl⟩ | ⟨e, _⟩
    · exact fun s u v _ => .of_eq rfl
    · exact absurd rfl e
theorem ini_BadTable (F : FnI K "BadTable" "BadTable.__init__" sI_BadTable fd) (T : Tx K mg) : IniOk P w K mg base ("BadTable", "index") := by
  have o := T.one (p := ("BadTable", "index")) (by decide +kernel)
  have R := err_of o.1 o.2
  have sc : FnScope ["self", "index"] ["self", "index"] (defScope sI_BadTable) := ⟨rfl, rfl, rfl, by decide +kernel, rfl, by decide +kernel, by decide +kernel⟩
  refine ⟨fd, F.ok sc (fun vs H Q E h => by obtain ⟨a, v, rfl, _⟩ := h; rfl) (fun cdv A outer s H vs Q E hr h => ⟨_, PSs.nox (pss_one (ps_ost (pv 0) (pv 1))), ?_⟩), ?_, ?_⟩
  · obtain ⟨a, v, rfl, ha, q⟩ := h
    exact ⟨_, rfl, _, rfl, a, _, rfl, R.oex, R.no, .inl ⟨ha, q⟩⟩
  · exact fun s u v _ => F.bindsA (ps := ["self", "index"]) (fun _ _ _ _ _ _ us hl => match us, hl with | [_, _], _ => rfl) s [u, v] rfl
  · obtain ⟨oc, od, dV, kV, doc, pm, an, cdv, ct, osl, rfl, lk, hcd, hD, hK⟩ := F.ex
    rcases hD with ⟨_, rfl⟩ | ⟨e, _⟩
    · exact fun s u v _ => .of_eq rfl
    · exact absurd rfl e
theorem ini_BadBursts (F : FnI K "BadBursts" "BadBursts.__init__" sI_BadBursts fd) (T : Tx K mg) : IniOk P w K mg base ("BadBursts", "index") := by
  have o := T.one (p := ("BadBursts", "index")) (by decide +kernel)
  have R := err_of o.1 o.2
  have sc : FnScope ["self", "index"] ["self", "index"] (defScope sI_BadBursts) := ⟨rfl, rfl, rfl, by decide +kernel, rfl, by decide +kernel, by decide +kernel⟩
  refine ⟨fd, F.ok sc (fun vs H Q E h => by obtain ⟨a, v, rfl, _⟩ := h; rfl) (fun cdv A outer s H vs Q E hr h => ⟨_, PSs.nox (pss_one (ps_ost (pv 0) (pv 1))), ?_⟩), ?_, ?_⟩
  · obtain ⟨a, v, rfl, ha, q⟩ := h
    exact ⟨_, rfl, _, rfl, a, _, rfl, R.oex, R.no, .inl ⟨ha, q⟩⟩
  · exact fun s u v _ => F.bindsA (ps := ["self", "index"]) (fun _ _ _ _ _ _ us hl => match us, hl with | [_, _], _ => rfl) s [u, v] rfl
  · obtain ⟨oc, od, dV, kV, doc, pm, an, cdv, ct, osl, rfl, lk, hcd, hD, hK⟩ := F.ex
    rcases hD with ⟨_, rfl⟩ | ⟨e, _⟩
    · exact fun s u v _ => .of_eq rfl
    · exact absurd rfl e
theorem ini_BadPanel (F : FnI K "BadPanel" "BadPanel.__init__" sI_BadPanel fd) (T : Tx K mg) : IniOk P w K mg base ("BadPanel", "panel") := by
  have o := T.one (p := ("BadPanel", "panel")) (by decide +kernel)
  have R := err_of o.1 o.2
  have sc : FnScope ["self", "panel"] ["self", "panel"] (defScope sI_BadPanel) := ⟨rfl, rfl, rfl, by decide +kernel, rfl, by decide +kernel, by decide +kernel⟩
  refine ⟨fd, F.ok sc (fun vs H Q E h => by obtain ⟨a, v, rfl, _⟩ := h; rfl) (fun cdv A outer s H vs Q E hr h => ⟨_, PSs.nox (pss_one (ps_ost (pv 0) (pv 1))), ?_⟩), ?_, ?_⟩
  · obtain ⟨a, v, rfl, ha, q⟩ := h
    exact ⟨_, rfl, _, rfl, a, _, rfl, R.oex, R.no, .inl ⟨ha, q⟩⟩
  · exact fun s u v _ => F.bindsA (ps := ["self", "panel"]) (fun _ _ _ _ _ _ us hl => match us, hl with | [_, _], _ => rfl) s [u, v] rfl
  · obtain ⟨oc, od, dV, kV, doc, pm, an, cdv, ct, osl, rfl, lk, hcd, hD, hK⟩ := F.ex
    rcases hD with ⟨_, rfl⟩ | ⟨e, _⟩
    · exact fun s u v _ => .of_eq rfl
    · exact absurd rfl e
theorem ini_BadIndex (F : FnI K "BadIndex" "BadIndex.__init__" sI_BadIndex fd) (T : Tx K mg) : IniOk P w K mg base ("BadIndex", "index") := by
  have o := T.one (p := ("BadIndex", "index")) (by decide +kernel)
  have R := err_of o.1 o.2
  have sc : FnScope ["self", "index"] ["self", "index"] (defScope sI_BadIndex) := ⟨rfl, rfl, rfl, by decide +kernel, rfl, by decide +kernel, by decide +kernel⟩
  refine ⟨fd, F.ok sc (fun vs H Q E h => by obtain ⟨a, v, rfl, _⟩ := h; rfl) (fun cdv A outer s H vs Q E hr h => ⟨_, PSs.nox (pss_one (ps_ost (pv 0) (pv 1))), ?_⟩), ?_, ?_⟩
  · obtain ⟨a, v, rfl, ha, q⟩ := h
    exact ⟨_, rfl, _, rfl, a, _, rfl, R.oex, R.no, .inl ⟨ha, q⟩⟩
  · exact fun s u v _ => F.bindsA (ps := ["self", "index"]) (fun _ _ _ _ _ _ us hl => match us, hl with | [_, _], _ => rfl) s [u, v] rfl
  · obtain ⟨oc, od, dV, kV, doc, pm, an, cdv, ct, osl, rfl, lk, hcd, hD, hK⟩ := F.ex
    rcases hD with ⟨_, rfl⟩ | ⟨e, _⟩
    · exact fun s u v _ => .of_eq rfl
    · exact absurd rfl e
theorem ini_BadSign (F : FnI K "BadSign" "BadSign.__init__" sI_BadSign fd) (T : Tx K mg) : IniOk P w K mg base ("BadSign", "sign") := by
  have o := T.one (p := ("BadSign", "sign")) (by decide +kernel)
  have R := err_of o.1 o.2
  have sc : FnScope ["self", "sign"] ["self", "sign"] (defScope sI_BadSign) := ⟨rfl, rfl, rfl, by decide +kernel, rfl, by decide +kernel, by decide +kernel⟩
  refine ⟨fd, F.ok sc (fun vs H Q E h => by obtain ⟨a, v, rfl, _⟩ := h; rfl) (fun cdv A outer s H vs Q E hr h => ⟨_, PSs.nox (pss_one (ps_ost (pv 0) (pv 1))), ?_⟩), ?_, ?_⟩
  · obtain ⟨a, v, rfl, ha, q⟩ := h
    exact ⟨_, rfl, _, rfl, a, _, rfl, R.oex, R.no, .inl ⟨ha, q⟩⟩
  · exact fun s u v _ => F.bindsA (ps := ["self", "sign"]) (fun _ _ _ _ _ _ us hl => match us, hl with | [_, _], _ => rfl) s [u, v] rfl
  · obtain ⟨oc, od, dV, kV, doc, pm, an, cdv, ct, osl, rfl, lk, hcd, hD, hK⟩ := F.ex
    rcases hD with ⟨_, rfl⟩ | ⟨e, _⟩
    · exact fun s u v _ => .of_eq rfl
    · exact absurd rfl e
theorem ini_BadOn (F : FnI K "BadOn" "BadOn.__init__" sI_BadOn fd) (T : Tx K mg) : IniOk P w K mg base ("BadOn", "index") := by
  have o := T.one (p := ("BadOn", "index")) (by decide +kernel)
  have R := err_of o.1 o.2
  have sc : FnScope ["self", "index"] ["self", "index"] (defScope sI_BadOn) := ⟨rfl, rfl, rfl, by decide +kernel, rfl, by decide +kernel, by decide +kernel⟩
  refine ⟨fd, F.ok sc (fun vs H Q E h => by obtain ⟨a, v, rfl, _⟩ := h; rfl) (fun cdv A outer s H vs Q E hr h => ⟨_, PSs.nox (pss_one (ps_ost (pv 0) (pv 1))), ?_⟩), ?_, ?_⟩
  · obtain ⟨a, v, rfl, ha, q⟩ := h
    exact ⟨_, rfl, _, rfl, a, _, rfl, R.oex, R.no, .inl ⟨ha, q⟩⟩
  · exact fun s u v _ => F.bindsA (ps := ["self", "index"]) (fun _ _ _ _ _ _ us hl => match us, hl with | [_, _], _ => rfl) s [u, v] rfl
  · obtain ⟨oc, od, dV, kV, doc, pm, an, cdv, ct, osl, rfl, lk, hcd, hD, hK⟩ := F.ex
    rcases hD with ⟨_, rfl⟩ | ⟨e, _⟩
    · exact fun s u v _ => .of_eq rfl
    · exact absurd rfl e
theorem ini_BadOff (F : FnI K "BadOff" "BadOff.__init__" sI_BadOff fd) (T : Tx K mg) : IniOk P w K mg base ("BadOff", "index") := by
  have o := T.one (p := ("BadOff", "index")) (by decide +kernel)
  have R := err_of o.1 o.2
  have sc : FnScope ["self", "index"] ["self", "index"] (defScope sI_BadOff) := ⟨rfl, rfl, rfl, by decide +kernel, rfl, by decide +kernel, by decide +kernel⟩
  refine ⟨fd, F.ok sc (fun vs H Q E h => by obtain ⟨a, v, rfl, _⟩ := h; rfl) (fun cdv A outer s H vs Q E hr h => ⟨_, PSs.nox (pss_one (ps_ost (pv 0) (pv 1))), ?_⟩), ?_, ?_⟩
  · obtain ⟨a, v, rfl, ha, q⟩ := h
    exact ⟨_, rfl, _, rfl, a, _, rfl, R.oex, R.no, .inl ⟨ha, q⟩⟩
  · exact fun s u v _ => F.bindsA (ps := ["self", "index"]) (fun _ _ _ _ _ _ us hl => match us, hl with | [_, _], _ => rfl) s [u, v] rfl
  · obtain ⟨oc, od, dV, kV, doc, pm, an, cdv, ct, osl, rfl, lk, hcd, hD, hK⟩ := F.ex
    rcases hD with ⟨_, rfl⟩ | ⟨e, _⟩
    · exact fun s u v _ => .of_eq rfl
    · exact absurd rfl e
theorem ini_BadClash (F : FnI K "BadClash" "BadClash.__init__" sI_BadClash fd) (T : Tx K mg) : IniOk P w K mg base ("BadClash", "cell") := by
  have o := T.one (p := ("BadClash", "cell")) (by decide +kernel)
  have R := err_of o.1 o.2
  have sc : FnScope ["self", "cell"] ["self", "cell"] (defScope sI_BadClash) := ⟨rfl, rfl, rfl, by decide +kernel, rfl, by decide +kernel, by decide +kernel⟩
  refine ⟨fd, F.ok sc (fun vs H Q E h => by obtain ⟨a, v, rfl, _⟩ := h; rfl) (fun cdv A outer s H vs Q E hr h => ⟨_, PSs.nox (pss_one (ps_ost (pv 0) (pv 1))), ?_⟩), ?_, ?_⟩
  · obtain ⟨a, v, rfl, ha, q⟩ := h
    exact ⟨_, rfl, _, rfl, a, _, rfl, R.oex, R.no, .inl ⟨ha, q⟩⟩
  · exact fun s u v _ => F.bindsA (ps := ["self", "cell"]) (fun _ _ _ _ _ _ us hl => match us, hl with | [_, _], _ => rfl) s [u, v] rfl
  · obtain ⟨oc, od, dV, kV, doc, pm, an, cdv, ct, osl, rfl, lk, hcd, hD, hK⟩ := F.ex
    rcases hD with ⟨_, rfl⟩ | ⟨e, _⟩
    · exact fun s u v _ => .of_eq rfl
    · exact absurd rfl e
theorem ini_BadPanelText (F : FnI K "BadPanelText" "BadPanelText.__init__" sI_BadPanelText fd) (T : Tx K mg) : IniOk P w K mg base ("BadPanelText", "line") := by
  have o := T.one (p := ("BadPanelText", "line")) (by decide +kernel)
  have R := err_of o.1 o.2
  have sc : FnScope ["self", "line"] ["self", "line"] (defScope sI_BadPanelText) := ⟨rfl, rfl, rfl, by decide +kernel, rfl, by decide +kernel, by decide +kernel⟩
  refine ⟨fd, F.ok sc (fun vs H Q E h => by obtain ⟨a, v, rfl, _⟩ := h; rfl) (fun cdv A outer s H vs Q E hr h => ⟨_, PSs.nox (pss_one (ps_ost (pv 0) (pv 1))), ?_⟩), ?_, ?_⟩
  · obtain ⟨a, v, rfl, ha, q⟩ := h
    exact ⟨_, rfl, _, rfl, a, _, rfl, R.oex, R.no, .inl ⟨ha, q⟩⟩
  · exact fun s u v _ => F.bindsA (ps := ["self", "line"]) (fun _ _ _ _ _ _ us hl => match us, hl with | [_, _], _ => rfl) s [u, v] rfl
  · obtain ⟨oc, od, dV, kV, doc, pm, an, cdv, ct, osl, rfl, lk, hcd, hD, hK⟩ := F.ex
    rcases hD with ⟨_, rfl⟩ | ⟨e, _⟩
    · exact fun s u v _ => .of_eq rfl
    · exact absurd rfl e
theorem ini_BadPath (F : FnI K "BadPath" "BadPath.__init__" sI_BadPath fd) (T : Tx K mg) : IniOk P w K mg base ("BadPath", "path") := by
  have o := T.one (p := ("BadPath", "path")) (by decide +kernel)
  have R := err_of o.1 o.2
  have sc : FnScope ["self", "path"] ["self", "path"] (defScope sI_BadPath) := ⟨rfl, rfl, rfl, by decide +kernel, rfl, by decide +kernel, by decide +kernel⟩
  refine ⟨fd, F.ok sc (fun vs H Q E h => by obtain ⟨a, v, rfl, _⟩ := h; rfl) (fun cdv A outer s H vs Q E hr h => ⟨_, PSs.nox (pss_one (ps_ost (pv 0) (pv 1))), ?_⟩), ?_, ?_⟩
  · obtain ⟨a, v, rfl, ha, q⟩ := h
    exact ⟨_, rfl, _, rfl, a, _, rfl, R.oex, R.no, .inl ⟨ha, q⟩⟩
  · exact fun s u v _ => F.bindsA (ps := ["self", "path"]) (fun _ _ _ _ _ _ us hl => match us, hl with | [_, _], _ => rfl) s [u, v] rfl
  · obtain ⟨oc, od, dV, kV, doc, pm, an, cdv, ct, osl, rfl, lk, hcd, hD, hK⟩ := F.ex
    rcases hD with ⟨_, rfl⟩ | ⟨e, _⟩
    · exact fun s u v _ => .of_eq rfl
    · exact absurd rfl e
theorem ini_BadStep (F : FnI K "BadStep" "BadStep.__init__" sI_BadStep fd) (T : Tx K mg) : IniOk P w K mg base ("BadStep", "step") := by
  have o := T.one (p := ("BadStep", "step")) (by decide +kernel)
  have R := err_of o.1 o.2
  have sc : FnScope ["self", "step"] ["self", "step"] (defScope sI_BadStep) := ⟨rfl, rfl, rfl, by decide +kernel, rfl, by decide +kernel, by decide +kernel⟩
  refine ⟨fd, F.ok sc (fun vs H Q E h => by obtain ⟨a, v, rfl, _⟩ := h; rfl) (fun cdv A outer s H vs Q E hr h => ⟨_, PSs.nox (pss_one (ps_ost (pv 0) (pv 1))), ?_⟩), ?_, ?_⟩
  · obtain ⟨a, v, rfl, ha, q⟩ := h
    exact ⟨_, rfl, _, rfl, a, _, rfl, R.oex, R.no, .inl ⟨ha, q⟩⟩
  · exact fun s u v _ => F.bindsA (ps := ["self", "step"]) (fun _ _ _ _ _ _ us hl => match us, hl with | [_, _], _ => rfl) s [u, v] rfl
  · obtain ⟨oc, od, dV, kV, doc, pm, an, cdv, ct, osl, rfl, lk, hcd, hD, hK⟩ := F.ex
    rcases hD with ⟨_, rfl⟩ | ⟨e, _⟩
    · exact fun s u v _ => .of_eq rfl
    · exact absurd rfl e
theorem ini_BadSteps (F : FnI K "BadSteps" "BadSteps.__init__" sI_BadSteps fd) (T : Tx K mg) : IniOk P w K mg base ("BadSteps", "index") := by
  have o := T.one (p := ("BadSteps", "index")) (by decide +kernel)
  have R := err_of o.1 o.2
  have sc : FnScope ["self", "index"] ["self", "index"] (defScope sI_BadSteps) := ⟨rfl, rfl, rfl, by decide +kernel, rfl, by decide +kernel, by decide +kernel⟩
  refine ⟨fd, F.ok sc (fun vs H Q E h => by obtain ⟨a, v, rfl, _⟩ := h; rfl) (fun cdv A outer s H vs Q E hr h => ⟨_, PSs.nox (pss_one (ps_ost (pv 0) (pv 1))), ?_⟩), ?_, ?_⟩
  · obtain ⟨a, v, rfl, ha, q⟩ := h
    exact ⟨_, rfl, _, rfl, a, _, rfl, R.oex, R.no, .inl ⟨ha, q⟩⟩
  · exact fun s u v _ => F.bindsA (ps := ["self", "index"]) (fun _ _ _ _ _ _ us hl => match us, hl with | [_, _], _ => rfl) s [u, v] rfl
  · obtain ⟨oc, od, dV, kV, doc, pm, an, cdv, ct, osl, rfl, lk, hcd, hD, hK⟩ := F.ex
    rcases hD with ⟨_, rfl⟩ | ⟨e, _⟩
    · exact fun s u v _ => .of_eq rfl
    · exact absurd rfl e
end
end K89

set_option Elab.async false
set_option linter.all false
set_option maxRecDepth 100000
set_option maxHeartbeats 4000000
namespace K89
open PySem PySem.Spec PyProof.Rows L2 EV He
def kn : List PySem.Str := ["BadAnswer", "BadAnswerText", "BadAt", "BadBound", "BadChain", "BadGate", "BadGroup", "BadNet", "BadNetText", "BadOrder", "BadPlace", "BadRun", "BadWholeText", "BadWire", "DarkPanel"]
def bs (x : PySem.Str) : List Bool := kn.map fun y => decide (x = y) || decide (y = pE)
/-- the places of the law's list that are x -/
def kin (x : PySem.Str) : List Int := ((List.range 15).filter fun k => (bs x).getD k false).map fun (k : Nat) => (k : Int)
/-- _law_kinds_of(e) -/
def spKinds (K : PySem.W.Frag) : Sp := fun vs H Q _ => ∃ (a : Addr) (x : PySem.Str), vs = [.ref a] ∧ x ∈ names ∧ IsEr H a (ga K x) ∧ ∀ p H', Same H H' → H p = none → H' p = some (.lst ((kin x).map V.int)) → Q (.ref p) H'
theorem isEr_same {H H' : Hp} {a C : Addr} (h : IsEr H a C) (s : Same H H') : IsEr H' a C := by
  rcases h with h | ⟨d, fs, h, hd⟩
  · exact .inl (s _ _ h)
  · exact .inr ⟨d, fs, s _ _ h, s _ _ hd⟩
theorem same_new {H : Hp} {p : Addr} {o : HO} (h : H p = none) : Same H (upd H p o) := fun b u e => by
  rw [upd_ne (ne_of_none e h)]
  exact e
/-- a write at what H does not know -/
theorem same_wr {H H' : Hp} {p : Addr} {o : HO} (s : Same H H') (h : H p = none) : Same H (upd H' p o) := fun b u e => by
  rw [upd_ne (ne_of_none e h)]
  exact s b u e
theorem filter_snoc (f : Nat → Bool) (i : Nat) : (List.range (i + 1)).filter f = if f i = true then (List.range i).filter f ++ [i] else (List.range i).filter f := by
  rw [List.range_succ, List.filter_append]
  by_cases h : f i = true
  · rw [if_pos h, List.filter_cons_of_pos h]
    rfl
  · rw [if_neg h, List.filter_cons_of_neg h]
    simp
section
variable {P : Program} {w : World} {K : PySem.W.Frag} {mg : PySem.Str → Option Value} {base : Heap} {f : Addr} {fd : FuncData}
theorem boot_isinstance : bootBuiltins "isinstance" = some (.builtin "isinstance") := by decide +kernel
theorem sc_kinds : FnScope ["e", "told", "k"] ["e"] (defScope s_law_kinds_of) := ⟨rfl, rfl, rfl, by decide +kernel, rfl, by decide +kernel, by decide +kernel⟩
theorem ok_kinds (F : FnP K "_law_kinds_of" s_law_kinds_of f fd) (T : Tx K mg) : FnOk P w K mg base CX0 1 f fd ["e"] (spKinds K) := by
  refine F.ok sc_kinds (fun vs H Q E h => by obtain ⟨a, x, rfl, _⟩ := h; rfl) (fun cdv A outer s H vs Q E hr h => ⟨_, PSs.nox
    (pss_cons (ps_set (i := 1) sc_kinds.nd rfl (Or.inr rfl) (pe_lst (pa_cons (pe_callB call_isEr (by rfl) (T.fr "isinstance" (by decide +kernel)) boot_isinstance (pa_cons (pv 0) (pa_cons (pe_glob (v := .ref (ga K "BadAnswer")) (by rfl) (T.gb (x := "BadAnswer") (by decide +kernel)) rfl) pa_nil))) (pa_cons (pe_callB call_isEr (by rfl) (T.fr "isinstance" (by decide +kernel)) boot_isinstance (pa_cons (pv 0) (pa_cons (pe_glob (v := .ref (ga K "BadAnswerText")) (by rfl) (T.gb (x := "BadAnswerText") (by decide +kernel)) rfl) pa_nil))) (pa_cons (pe_callB call_isEr (by rfl) (T.fr "isinstance" (by decide +kernel)) boot_isinstance (pa_cons (pv 0) (pa_cons (pe_glob (v := .ref (ga K "BadAt")) (by rfl) (T.gb (x := "BadAt") (by decide +kernel)) rfl) pa_nil))) (pa_cons (pe_callB call_isEr (by rfl) (T.fr "isinstance" (by decide +kernel)) boot_isinstance (pa_cons (pv 0) (pa_cons (pe_glob (v := .ref (ga K "BadBound")) (by rfl) (T.gb (x := "BadBound") (by decide +kernel)) rfl) pa_nil))) (pa_cons (pe_callB call_isEr (by rfl) (T.fr "isinstance" (by decide +kernel)) boot_isinstance (pa_cons (pv 0) (pa_cons (pe_glob (v := .ref (ga K "BadChain")) (by rfl) (T.gb (x := "BadChain") (by decide +kernel)) rfl) pa_nil))) pa_nil)))))))
    (pss_cons (ps_expr (pe_bm PySem.F.plainAttrs_list PySem.F.slot_list_extend PySem.F.type_list_extend mt_extend (pv 1) (pa_cons (pe_lst (pa_cons (pe_callB call_isEr (by rfl) (T.fr "isinstance" (by decide +kernel)) boot_isinstance (pa_cons (pv 0) (pa_cons (pe_glob (v := .ref (ga K "BadGate")) (by rfl) (T.gb (x := "BadGate") (by decide +kernel)) rfl) pa_nil))) (pa_cons (pe_callB call_isEr (by rfl) (T.fr "isinstance" (by decide +kernel)) boot_isinstance (pa_cons (pv 0) (pa_cons (pe_glob (v := .ref (ga K "BadGroup")) (by rfl) (T.gb (x := "BadGroup") (by decide +kernel)) rfl) pa_nil))) (pa_cons (pe_callB call_isEr (by rfl) (T.fr "isinstance" (by decide +kernel)) boot_isinstance (pa_cons (pv 0) (pa_cons (pe_glob (v := .ref (ga K "BadNet")) (by rfl) (T.gb (x := "BadNet") (by decide +kernel)) rfl) pa_nil))) (pa_cons (pe_callB call_isEr (by rfl) (T.fr "isinstance" (by decide +kernel)) boot_isinstance (pa_cons (pv 0) (pa_cons (pe_glob (v := .ref (ga K "BadNetText")) (by rfl) (T.gb (x := "BadNetText") (by decide +kernel)) rfl) pa_nil))) (pa_cons (pe_callB call_isEr (by rfl) (T.fr "isinstance" (by decide +kernel)) boot_isinstance (pa_cons (pv 0) (pa_cons (pe_glob (v := .ref (ga K "BadOrder")) (by rfl) (T.gb (x := "BadOrder") (by decide +kernel)) rfl) pa_nil))) pa_nil)))))) pa_nil)))
    (pss_cons (ps_expr (pe_bm PySem.F.plainAttrs_list PySem.F.slot_list_extend PySem.F.type_list_extend mt_extend (pv 1) (pa_cons (pe_lst (pa_cons (pe_callB call_isEr (by rfl) (T.fr "isinstance" (by decide +kernel)) boot_isinstance (pa_cons (pv 0) (pa_cons (pe_glob (v := .ref (ga K "BadPlace")) (by rfl) (T.gb (x := "BadPlace") (by decide +kernel)) rfl) pa_nil))) (pa_cons (pe_callB call_isEr (by rfl) (T.fr "isinstance" (by decide +kernel)) boot_isinstance (pa_cons (pv 0) (pa_cons (pe_glob (v := .ref (ga K "BadRun")) (by rfl) (T.gb (x := "BadRun") (by decide +kernel)) rfl) pa_nil))) (pa_cons (pe_callB call_isEr (by rfl) (T.fr "isinstance" (by decide +kernel)) boot_isinstance (pa_cons (pv 0) (pa_cons (pe_glob (v := .ref (ga K "BadWholeText")) (by rfl) (T.gb (x := "BadWholeText") (by decide +kernel)) rfl) pa_nil))) (pa_cons (pe_callB call_isEr (by rfl) (T.fr "isinstance" (by decide +kernel)) boot_isinstance (pa_cons (pv 0) (pa_cons (pe_glob (v := .ref (ga K "BadWire")) (by rfl) (T.gb (x := "BadWire") (by decide +kernel)) rfl) pa_nil))) (pa_cons (pe_callB call_isEr (by rfl) (T.fr "isinstance" (by decide +kernel)) boot_isinstance (pa_cons (pv 0) (pa_cons (pe_glob (v := .ref (ga K "DarkPanel")) (by rfl) (T.gb (x := "DarkPanel") (by decide +kernel)) rfl) pa_nil))) pa_nil)))))) pa_nil)))
    (pss_one (ps_ret (pe_lc (own := [("k", 2)]) (g := gName 2) rfl sc_kinds.nd (pi_range1 (by rfl) (T.fr "range" (by decide +kernel)) (pa_cons pe_int pa_nil)) (blkOk_by (N := ["e", "told", "k"]) (sc := defScope s_law_kinds_of) (by decide +kernel))
      (fun _ _ _ _ _ => pg_name (i := 2) sc_kinds.nd rfl (Or.inl rfl)) (fun _ _ _ _ _ => pts_one (pt_val (pe_ix (r := rIxL K) ix_list (pv 1) (pv 2) (fun _ _ => rfl)))) (fun _ _ _ _ _ => pv 2))))))), ?_⟩)
  obtain ⟨a, x, rfl, hx, he, k⟩ := h
  have TE := excC_of T.cb (T.exc hx)
  refine ⟨_, rfl, a, ga K x, _, _, _, rfl, .own _, TE, he, T.kit hx (y := "BadAnswer") (by decide +kernel), ⟨_, rfl, a, ga K x, _, _, _, rfl, .own _, TE, he, T.kit hx (y := "BadAnswerText") (by decide +kernel), ⟨_, rfl, a, ga K x, _, _, _, rfl, .own _, TE, he, T.kit hx (y := "BadAt") (by decide +kernel), ⟨_, rfl, a, ga K x, _, _, _, rfl, .own _, TE, he, T.kit hx (y := "BadBound") (by decide +kernel), ⟨_, rfl, a, ga K x, _, _, _, rfl, .own _, TE, he, T.kit hx (y := "BadChain") (by decide +kernel), ⟨(by show 5 ≤ sizeLine; decide), fun l hl => ?_⟩⟩⟩⟩⟩⟩
  have he1 := isEr_same he (same_new (o := .lst ((bs x |>.take 5).map V.bl)) hl)
  have s1 : Same H (upd H l (.lst ((bs x |>.take 5).map V.bl))) := same_new hl
  have t1 : upd H l (.lst ((bs x |>.take 5).map V.bl)) l = some (.lst ((bs x |>.take 5).map V.bl)) := upd_same
  refine ⟨_, rfl, .inl ⟨rfl, _, SqL.of t1⟩, ?_⟩
  refine ⟨_, rfl, a, ga K x, _, _, _, rfl, .own _, TE, he1, T.kit hx (y := "BadGate") (by decide +kernel), ⟨_, rfl, a, ga K x, _, _, _, rfl, .own _, TE, he1, T.kit hx (y := "BadGroup") (by decide +kernel), ⟨_, rfl, a, ga K x, _, _, _, rfl, .own _, TE, he1, T.kit hx (y := "BadNet") (by decide +kernel), ⟨_, rfl, a, ga K x, _, _, _, rfl, .own _, TE, he1, T.kit hx (y := "BadNetText") (by decide +kernel), ⟨_, rfl, a, ga K x, _, _, _, rfl, .own _, TE, he1, T.kit hx (y := "BadOrder") (by decide +kernel), ⟨(by show 5 ≤ sizeLine; decide), fun m hm => ⟨l, m, _, _, rfl, rfl, (by rw [upd_ne (ne_of_none t1 hm)]; exact t1), upd_same, (by show 5 + 5 ≤ sizeLine; decide), ?_⟩⟩⟩⟩⟩⟩⟩
  have hm0 : H m = none := s1.free hm
  have lm : l ≠ m := ne_of_none t1 hm
  have s2 := same_wr (s1.trans (same_new (o := .lst (((bs x).drop 5 |>.take 5).map V.bl)) hm)) (o := .lst ((bs x |>.take 10).map V.bl)) hl
  have he2 := isEr_same he s2
  have t2 : upd (upd (upd H l (.lst ((bs x |>.take 5).map V.bl))) m (.lst (((bs x).drop 5 |>.take 5).map V.bl))) l (.lst ((bs x |>.take 10).map V.bl)) l = some (.lst ((bs x |>.take 10).map V.bl)) := upd_same
  refine ⟨_, rfl, .inl ⟨rfl, _, SqL.of t2⟩, ?_⟩
  refine ⟨_, rfl, a, ga K x, _, _, _, rfl, .own _, TE, he2, T.kit hx (y := "BadPlace") (by decide +kernel), ⟨_, rfl, a, ga K x, _, _, _, rfl, .own _, TE, he2, T.kit hx (y := "BadRun") (by decide +kernel), ⟨_, rfl, a, ga K x, _, _, _, rfl, .own _, TE, he2, T.kit hx (y := "BadWholeText") (by decide +kernel), ⟨_, rfl, a, ga K x, _, _, _, rfl, .own _, TE, he2, T.kit hx (y := "BadWire") (by decide +kernel), ⟨_, rfl, a, ga K x, _, _, _, rfl, .own _, TE, he2, T.kit hx (y := "DarkPanel") (by decide +kernel), ⟨(by show 5 ≤ sizeLine; decide), fun n hn => ⟨l, n, _, _, rfl, rfl, (by rw [upd_ne (ne_of_none t2 hn)]; exact t2), upd_same, (by show 10 + 5 ≤ sizeLine; decide), ?_⟩⟩⟩⟩⟩⟩⟩
  have s3 := same_wr (s2.trans (same_new (o := .lst (((bs x).drop 10).map V.bl)) hn)) (o := .lst ((bs x).map V.bl)) hl
  refine ⟨15, rfl, by decide, by decide, fun D hD => ?_⟩
  have hD0 : H D = none := s3.free hD
  have tl : ∀ H' : Hp, H' = upd (upd (upd (upd (upd H l (.lst ((bs x |>.take 5).map V.bl))) m (.lst (((bs x).drop 5 |>.take 5).map V.bl))) l (.lst ((bs x |>.take 10).map V.bl))) n (.lst (((bs x).drop 10).map V.bl))) l (.lst ((bs x).map V.bl)) → H' l = some (.lst ((bs x).map V.bl)) := fun H' e => by
    rw [e]
    exact upd_same
  have lD : l ≠ D := ne_of_none (tl _ rfl) hD
  refine lc_range (lo := 0) (n := 15) (fun i H' => Same H H' ∧ H' l = some (.lst ((bs x).map V.bl)) ∧ H' D = some (.lst ((((List.range i).filter fun k => (bs x).getD k false).map fun (k : Nat) => (k : Int)).map V.int)))
    ⟨same_wr s3 hD0, by rw [upd_ne lD]; exact tl _ rfl, upd_same⟩ ?_ ?_
  · rintro i H' hi ⟨q1, q2, q3⟩
    refine ⟨rfl, _, rfl, _, rfl, _, _, _, _, rfl, rfl, SqL.of q2, (by rw [Int.zero_add]; exact atI_nat (by rw [List.getElem?_map, List.getElem?_eq_getElem (by show i < 15; exact hi)]; rfl)), _, rfl, ?_⟩
    have eg : (bs x)[i]'(by show i < 15; exact hi) = (bs x).getD i false := by
      rw [List.getD_eq_getElem?_getD, List.getElem?_eq_getElem (by show i < 15; exact hi)]
      rfl
    rw [eg]
    cases c : (bs x).getD i false with
    | true =>
      refine iteT ⟨_, rfl, _, q3, ?_, same_wr q1 hD0, (by rw [upd_ne lD]; exact q2), ?_⟩
      · refine Nat.lt_of_le_of_lt ?_ (by decide : 15 < sizeLine)
        rw [List.length_map, List.length_map]
        exact Nat.le_trans (List.length_filter_le _ _) (by rw [List.length_range]; omega)
      · rw [upd_same, filter_snoc, if_pos c, List.map_append, List.map_append, Int.zero_add]
        rfl
    | false =>
      refine iteF ⟨q1, q2, ?_⟩
      rw [q3, filter_snoc, if_neg (by rw [c]; decide)]
  · rintro H' ⟨q1, q2, q3⟩
    exact k D H' q1 hD0 q3
end
end K89

set_option Elab.async false
set_option linter.all false
set_option maxRecDepth 100000
set_option maxHeartbeats 4000000
namespace K89
open PySem PySem.Spec PyProof.Rows L2 EV He
section
variable {K : PySem.W.Frag} {mg : PySem.Str → Option Value}
/-- two errors of the class x that keep v, and what they tell -/
structure Made (K : PySem.W.Frag) (H H' : Hp) (x : PySem.Str) (v : V) (t ml kl : Addr) : Prop where
  same : Same H H'
  tup : H' t = some (.tup [.ref ml, .ref kl])
  hm : ∃ a b, H' ml = some (.lst [.ref a, .ref b]) ∧ IsEr H' a (ga K x) ∧ IsEr H' b (ga K x)
  hk : H' kl = some (.lst [v, v])
  nm : H ml = none
  nk : H kl = none
theorem rd_made (T : Tx K mg) {x f : PySem.Str} (hx : (x, f) ∈ cls) {v u : V} {m e : Option V} {H : Hp} {D : Ends} (k : ∀ t ml kl H', Made K H H' x v t ml kl → D.rt (.ref t) H') :
    tSeq (tAsg (tLst (tCons (tNew (ga K x) f (tVar 1)) (tCons (tNew (ga K x) f (tVar 1)) tNil))) (gName 2))
      (tRet (tTup (tCons (tVar 2) (tCons (tLc (iList K (tVar 2)) (gName 3) tYes (tErF K f (tVar 3)) [3]) tNil)))) D [some u, some v, m, e] H := by
  have o := T.one hx
  have R := err_of o.1 o.2
  refine ⟨v, rfl, fun a d na nd da => ⟨v, rfl, fun b d2 nb nd2 db => ⟨(by show 2 ≤ sizeLine; decide), fun ml nml => ?_⟩⟩⟩
  have s1 : Same H (upd (upd H d (exd d [(f, v)])) a (exo a (ga K x) (some d))) := same_wr (same_new nd) na
  have a1 : upd (upd H d (exd d [(f, v)])) a (exo a (ga K x) (some d)) a = some (exo a (ga K x) (some d)) := upd_same
  have d1 : upd (upd H d (exd d [(f, v)])) a (exo a (ga K x) (some d)) d = some (exd d [(f, v)]) := by
    rw [upd_ne da]
    exact upd_same
  generalize upd (upd H d (exd d [(f, v)])) a (exo a (ga K x) (some d)) = H1 at s1 a1 d1 nb nd2 nml
  have s2 : Same H1 (upd (upd H1 d2 (exd d2 [(f, v)])) b (exo b (ga K x) (some d2))) := same_wr (same_new nd2) nb
  have b2 : upd (upd H1 d2 (exd d2 [(f, v)])) b (exo b (ga K x) (some d2)) b = some (exo b (ga K x) (some d2)) := upd_same
  have e2 : upd (upd H1 d2 (exd d2 [(f, v)])) b (exo b (ga K x) (some d2)) d2 = some (exd d2 [(f, v)]) := by
    rw [upd_ne db]
    exact upd_same
  generalize upd (upd H1 d2 (exd d2 [(f, v)])) b (exo b (ga K x) (some d2)) = H2 at s2 b2 e2 nml
  have s3 : Same H2 (upd H2 ml (.lst [.ref a, .ref b])) := same_new nml
  have m3 : upd H2 ml (.lst [.ref a, .ref b]) ml = some (.lst [.ref a, .ref b]) := upd_same
  have n0 : H ml = none := (s1.trans s2).free nml
  generalize upd H2 ml (.lst [.ref a, .ref b]) = H3 at s3 m3
  have sA : Same H H3 := (s1.trans s2).trans s3
  refine ⟨_, rfl, _, rfl, ml, rfl, ⟨_, SqL.of m3⟩, fun L nL => ?_⟩
  have lk : ∀ H', Same H3 H' → IsEr H' a (ga K x) ∧ IsEr H' b (ga K x) := fun H' s => ⟨.inr ⟨d, _, s _ _ (s3 _ _ (s2 _ _ a1)), s _ _ (s3 _ _ (s2 _ _ d1))⟩, .inr ⟨d2, _, s _ _ (s3 _ _ b2), s _ _ (s3 _ _ e2)⟩⟩
  refine lc_list (K := K) (a := ml) (xs := [.ref a, .ref b]) (fun i H' => Same H3 H' ∧ H' L = some (.lst (List.replicate i v))) ⟨same_new nL, upd_same⟩ (fun i H' _ ⟨s, _⟩ => SqL.of (s _ _ m3)) ?_ ?_
  · rintro i y H' hi ⟨s, hL⟩
    match i, hi with
    | 0, hi =>
      cases hi
      refine ⟨rfl, ?_⟩
      refine iteT (B := Same H3 H' ∧ H' L = some (.lst (List.replicate (0 + 1) v))) ?_
      refine ⟨_, rfl, a, _, d, _, v, rfl, R.xf, R.no, s _ _ (s3 _ _ (s2 _ _ a1)), s _ _ (s3 _ _ (s2 _ _ d1)), (by simp), _, hL, (by show 0 < sizeLine; decide), same_wr s nL, upd_same⟩
    | 1, hi =>
      cases hi
      refine ⟨rfl, ?_⟩
      refine iteT (B := Same H3 H' ∧ H' L = some (.lst (List.replicate (1 + 1) v))) ?_
      refine ⟨_, rfl, b, _, d2, _, v, rfl, R.xf, R.no, s _ _ (s3 _ _ b2), s _ _ (s3 _ _ e2), (by simp), _, hL, (by show 1 < sizeLine; decide), same_wr s nL, upd_same⟩
  · rintro H' ⟨s, hL⟩
    refine ⟨(by show 2 ≤ sizeLine; decide), fun t nt => ?_⟩
    have s4 : Same H' (upd H' t (.tup [.ref ml, .ref L])) := same_new nt
    exact k t ml L _ ⟨(sA.trans s).trans s4, upd_same, ⟨a, b, s4 _ _ (s _ _ m3), isEr_same (lk H' s).1 s4, isEr_same (lk H' s).2 s4⟩, s4 _ _ hL, n0, sA.free nL⟩
end
end K89

set_option Elab.async false
set_option linter.all false
set_option maxRecDepth 100000
set_option maxHeartbeats 4000000
namespace K89
open PySem PySem.Spec PyProof.Rows L2 EV He
def spMade (K : PySem.W.Frag) (lo hi : Nat) : Sp := fun vs H Q _ => ∃ (i : Nat) (v : V) (x : PySem.Str), vs = [.int i, v] ∧ lo ≤ i ∧ i < hi ∧ kn[i]? = some x ∧ ∀ t ml kl H', Made K H H' x v t ml kl → Q (.ref t) H'
section
variable {P : Program} {w : World} {K : PySem.W.Frag} {mg : PySem.Str → Option Value} {base : Heap} {f : Addr} {fd : FuncData}
theorem sc_made_first : FnScope ["at", "x", "made", "e"] ["at", "x"] (defScope s_law_made_first) := ⟨rfl, rfl, rfl, by decide +kernel, rfl, by decide +kernel, by decide +kernel⟩
theorem ok_made_first (F : FnP K "_law_made_first" s_law_made_first f fd) (T : Tx K mg) (hI : ∀ p ∈ cls, IniOk P w K mg base p) : FnOk P w K mg base CX0 3 f fd ["at", "x"] (spMade K 0 5) := by
  refine F.ok sc_made_first (fun vs H Q E h => by obtain ⟨i, v, x, rfl, _⟩ := h; rfl) (fun cdv A outer s H vs Q E hr h => ⟨_, PSs.nox
    (pss_cons (ps_if (pt_cmpR op_eq (pv 0) pe_int (nomark _)) (pss_cons (ps_set (i := 2) sc_made_first.nd rfl (Or.inl rfl) (pe_lst (pa_cons (pe_C T hI (x := "BadAnswer") (f := "answer") (by decide +kernel) hr (by rfl) (pv 1)) (pa_cons (pe_CK T hI (x := "BadAnswer") (f := "answer") (by decide +kernel) hr (by rfl) (pv 1)) pa_nil))))
      (pss_one (ps_ret (pe_tup (pa_cons (pv 2) (pa_cons (pe_lc (own := [("e", 3)]) (g := gName 3) (tt := tYes) (te := tErF K "answer" (tVar 3)) rfl sc_made_first.nd (pi_list (pv 2)) (blkOk_by (N := ["at", "x", "made", "e"]) (sc := defScope s_law_made_first) (by decide +kernel))
        (fun _ _ _ _ _ => pg_name (i := 3) sc_made_first.nd rfl (Or.inl rfl)) (fun _ _ _ _ _ => pts_nil) (fun _ _ _ _ _ => pe_erF (pv 3))) pa_nil)))))) pss_nil)
    (pss_cons (ps_if (pt_cmpR op_eq (pv 0) pe_int (nomark _)) (pss_cons (ps_set (i := 2) sc_made_first.nd rfl (Or.inl rfl) (pe_lst (pa_cons (pe_C T hI (x := "BadAnswerText") (f := "line") (by decide +kernel) hr (by rfl) (pv 1)) (pa_cons (pe_CK T hI (x := "BadAnswerText") (f := "line") (by decide +kernel) hr (by rfl) (pv 1)) pa_nil))))
      (pss_one (ps_ret (pe_tup (pa_cons (pv 2) (pa_cons (pe_lc (own := [("e", 3)]) (g := gName 3) (tt := tYes) (te := tErF K "line" (tVar 3)) rfl sc_made_first.nd (pi_list (pv 2)) (blkOk_by (N := ["at", "x", "made", "e"]) (sc := defScope s_law_made_first) (by decide +kernel))
        (fun _ _ _ _ _ => pg_name (i := 3) sc_made_first.nd rfl (Or.inl rfl)) (fun _ _ _ _ _ => pts_nil) (fun _ _ _ _ _ => pe_erF (pv 3))) pa_nil)))))) pss_nil)
    (pss_cons (ps_if (pt_cmpR op_eq (pv 0) pe_int (nomark _)) (pss_cons (ps_set (i := 2) sc_made_first.nd rfl (Or.inl rfl) (pe_lst (pa_cons (pe_C T hI (x := "BadAt") (f := "at") (by decide +kernel) hr (by rfl) (pv 1)) (pa_cons (pe_CK T hI (x := "BadAt") (f := "at") (by decide +kernel) hr (by rfl) (pv 1)) pa_nil))))
      (pss_one (ps_ret (pe_tup (pa_cons (pv 2) (pa_cons (pe_lc (own := [("e", 3)]) (g := gName 3) (tt := tYes) (te := tErF K "at" (tVar 3)) rfl sc_made_first.nd (pi_list (pv 2)) (blkOk_by (N := ["at", "x", "made", "e"]) (sc := defScope s_law_made_first) (by decide +kernel))
        (fun _ _ _ _ _ => pg_name (i := 3) sc_made_first.nd rfl (Or.inl rfl)) (fun _ _ _ _ _ => pts_nil) (fun _ _ _ _ _ => pe_erF (pv 3))) pa_nil)))))) pss_nil)
    (pss_cons (ps_if (pt_cmpR op_eq (pv 0) pe_int (nomark _)) (pss_cons (ps_set (i := 2) sc_made_first.nd rfl (Or.inl rfl) (pe_lst (pa_cons (pe_C T hI (x := "BadBound") (f := "bound") (by decide +kernel) hr (by rfl) (pv 1)) (pa_cons (pe_CK T hI (x := "BadBound") (f := "bound") (by decide +kernel) hr (by rfl) (pv 1)) pa_nil))))
      (pss_one (ps_ret (pe_tup (pa_cons (pv 2) (pa_cons (pe_lc (own := [("e", 3)]) (g := gName 3) (tt := tYes) (te := tErF K "bound" (tVar 3)) rfl sc_made_first.nd (pi_list (pv 2)) (blkOk_by (N := ["at", "x", "made", "e"]) (sc := defScope s_law_made_first) (by decide +kernel))
        (fun _ _ _ _ _ => pg_name (i := 3) sc_made_first.nd rfl (Or.inl rfl)) (fun _ _ _ _ _ => pts_nil) (fun _ _ _ _ _ => pe_erF (pv 3))) pa_nil)))))) pss_nil)
    (pss_cons (ps_set (i := 2) sc_made_first.nd rfl (Or.inl rfl) (pe_lst (pa_cons (pe_C T hI (x := "BadChain") (f := "chain") (by decide +kernel) hr (by rfl) (pv 1)) (pa_cons (pe_CK T hI (x := "BadChain") (f := "chain") (by decide +kernel) hr (by rfl) (pv 1)) pa_nil))))
      (pss_one (ps_ret (pe_tup (pa_cons (pv 2) (pa_cons (pe_lc (own := [("e", 3)]) (g := gName 3) (tt := tYes) (te := tErF K "chain" (tVar 3)) rfl sc_made_first.nd (pi_list (pv 2)) (blkOk_by (N := ["at", "x", "made", "e"]) (sc := defScope s_law_made_first) (by decide +kernel))
        (fun _ _ _ _ _ => pg_name (i := 3) sc_made_first.nd rfl (Or.inl rfl)) (fun _ _ _ _ _ => pts_nil) (fun _ _ _ _ _ => pe_erF (pv 3))) pa_nil)))))))))), ?_⟩)
  obtain ⟨i, v, x, rfl, h1, h2, hk, k⟩ := h
  have hi : i = 0 ∨ i = 1 ∨ i = 2 ∨ i = 3 ∨ i = 4 := by omega
  rcases hi with rfl | rfl | rfl | rfl | rfl
  · cases hk
    refine ⟨_, rfl, rfl, _, rfl, iteT ?_⟩
    exact rd_made T (x := "BadAnswer") (f := "answer") (by decide +kernel) k
  · cases hk
    refine ⟨_, rfl, rfl, _, rfl, iteF ?_⟩
    refine ⟨_, rfl, rfl, _, rfl, iteT ?_⟩
    exact rd_made T (x := "BadAnswerText") (f := "line") (by decide +kernel) k
  · cases hk
    refine ⟨_, rfl, rfl, _, rfl, iteF ?_⟩
    refine ⟨_, rfl, rfl, _, rfl, iteF ?_⟩
    refine ⟨_, rfl, rfl, _, rfl, iteT ?_⟩
    exact rd_made T (x := "BadAt") (f := "at") (by decide +kernel) k
  · cases hk
    refine ⟨_, rfl, rfl, _, rfl, iteF ?_⟩
    refine ⟨_, rfl, rfl, _, rfl, iteF ?_⟩
    refine ⟨_, rfl, rfl, _, rfl, iteF ?_⟩
    refine ⟨_, rfl, rfl, _, rfl, iteT ?_⟩
    exact rd_made T (x := "BadBound") (f := "bound") (by decide +kernel) k
  · cases hk
    refine ⟨_, rfl, rfl, _, rfl, iteF ?_⟩
    refine ⟨_, rfl, rfl, _, rfl, iteF ?_⟩
    refine ⟨_, rfl, rfl, _, rfl, iteF ?_⟩
    refine ⟨_, rfl, rfl, _, rfl, iteF ?_⟩
    exact rd_made T (x := "BadChain") (f := "chain") (by decide +kernel) k
theorem sc_made_middle : FnScope ["at", "x", "made", "e"] ["at", "x"] (defScope s_law_made_middle) := ⟨rfl, rfl, rfl, by decide +kernel, rfl, by decide +kernel, by decide +kernel⟩
theorem ok_made_middle (F : FnP K "_law_made_middle" s_law_made_middle f fd) (T : Tx K mg) (hI : ∀ p ∈ cls, IniOk P w K mg base p) : FnOk P w K mg base CX0 3 f fd ["at", "x"] (spMade K 5 10) := by
  refine F.ok sc_made_middle (fun vs H Q E h => by obtain ⟨i, v, x, rfl, _⟩ := h; rfl) (fun cdv A outer s H vs Q E hr h => ⟨_, PSs.nox
    (pss_cons (ps_if (pt_cmpR op_eq (pv 0) pe_int (nomark _)) (pss_cons (ps_set (i := 2) sc_made_middle.nd rfl (Or.inl rfl) (pe_lst (pa_cons (pe_C T hI (x := "BadGate") (f := "gate") (by decide +kernel) hr (by rfl) (pv 1)) (pa_cons (pe_CK T hI (x := "BadGate") (f := "gate") (by decide +kernel) hr (by rfl) (pv 1)) pa_nil))))
      (pss_one (ps_ret (pe_tup (pa_cons (pv 2) (pa_cons (pe_lc (own := [("e", 3)]) (g := gName 3) (tt := tYes) (te := tErF K "gate" (tVar 3)) rfl sc_made_middle.nd (pi_list (pv 2)) (blkOk_by (N := ["at", "x", "made", "e"]) (sc := defScope s_law_made_middle) (by decide +kernel))
        (fun _ _ _ _ _ => pg_name (i := 3) sc_made_middle.nd rfl (Or.inl rfl)) (fun _ _ _ _ _ => pts_nil) (fun _ _ _ _ _ => pe_erF (pv 3))) pa_nil)))))) pss_nil)
    (pss_cons (ps_if (pt_cmpR op_eq (pv 0) pe_int (nomark _)) (pss_cons (ps_set (i := 2) sc_made_middle.nd rfl (Or.inl rfl) (pe_lst (pa_cons (pe_C T hI (x := "BadGroup") (f := "group") (by decide +kernel) hr (by rfl) (pv 1)) (pa_cons (pe_CK T hI (x := "BadGroup") (f := "group") (by decide +kernel) hr (by rfl) (pv 1)) pa_nil))))
      (pss_one (ps_ret (pe_tup (pa_cons (pv 2) (pa_cons (pe_lc (own := [("e", 3)]) (g := gName 3) (tt := tYes) (te := tErF K "group" (tVar 3)) rfl sc_made_middle.nd (pi_list (pv 2)) (blkOk_by (N := ["at", "x", "made", "e"]) (sc := defScope s_law_made_middle) (by decide +kernel))
        (fun _ _ _ _ _ => pg_name (i := 3) sc_made_middle.nd rfl (Or.inl rfl)) (fun _ _ _ _ _ => pts_nil) (fun _ _ _ _ _ => pe_erF (pv 3))) pa_nil)))))) pss_nil)
    (pss_cons (ps_if (pt_cmpR op_eq (pv 0) pe_int (nomark _)) (pss_cons (ps_set (i := 2) sc_made_middle.nd rfl (Or.inl rfl) (pe_lst (pa_cons (pe_C T hI (x := "BadNet") (f := "net") (by decide +kernel) hr (by rfl) (pv 1)) (pa_cons (pe_CK T hI (x := "BadNet") (f := "net") (by decide +kernel) hr (by rfl) (pv 1)) pa_nil))))
      (pss_one (ps_ret (pe_tup (pa_cons (pv 2) (pa_cons (pe_lc (own := [("e", 3)]) (g := gName 3) (tt := tYes) (te := tErF K "net" (tVar 3)) rfl sc_made_middle.nd (pi_list (pv 2)) (blkOk_by (N := ["at", "x", "made", "e"]) (sc := defScope s_law_made_middle) (by decide +kernel))
        (fun _ _ _ _ _ => pg_name (i := 3) sc_made_middle.nd rfl (Or.inl rfl)) (fun _ _ _ _ _ => pts_nil) (fun _ _ _ _ _ => pe_erF (pv 3))) pa_nil)))))) pss_nil)
    (pss_cons (ps_if (pt_cmpR op_eq (pv 0) pe_int (nomark _)) (pss_cons (ps_set (i := 2) sc_made_middle.nd rfl (Or.inl rfl) (pe_lst (pa_cons (pe_C T hI (x := "BadNetText") (f := "line") (by decide +kernel) hr (by rfl) (pv 1)) (pa_cons (pe_CK T hI (x := "BadNetText") (f := "line") (by decide +kernel) hr (by rfl) (pv 1)) pa_nil))))
      (pss_one (ps_ret (pe_tup (pa_cons (pv 2) (pa_cons (pe_lc (own := [("e", 3)]) (g := gName 3) (tt := tYes) (te := tErF K "line" (tVar 3)) rfl sc_made_middle.nd (pi_list (pv 2)) (blkOk_by (N := ["at", "x", "made", "e"]) (sc := defScope s_law_made_middle) (by decide +kernel))
        (fun _ _ _ _ _ => pg_name (i := 3) sc_made_middle.nd rfl (Or.inl rfl)) (fun _ _ _ _ _ => pts_nil) (fun _ _ _ _ _ => pe_erF (pv 3))) pa_nil)))))) pss_nil)
    (pss_cons (ps_set (i := 2) sc_made_middle.nd rfl (Or.inl rfl) (pe_lst (pa_cons (pe_C T hI (x := "BadOrder") (f := "order") (by decide +kernel) hr (by rfl) (pv 1)) (pa_cons (pe_CK T hI (x := "BadOrder") (f := "order") (by decide +kernel) hr (by rfl) (pv 1)) pa_nil))))
      (pss_one (ps_ret (pe_tup (pa_cons (pv 2) (pa_cons (pe_lc (own := [("e", 3)]) (g := gName 3) (tt := tYes) (te := tErF K "order" (tVar 3)) rfl sc_made_middle.nd (pi_list (pv 2)) (blkOk_by (N := ["at", "x", "made", "e"]) (sc := defScope s_law_made_middle) (by decide +kernel))
        (fun _ _ _ _ _ => pg_name (i := 3) sc_made_middle.nd rfl (Or.inl rfl)) (fun _ _ _ _ _ => pts_nil) (fun _ _ _ _ _ => pe_erF (pv 3))) pa_nil)))))))))), ?_⟩)
  obtain ⟨i, v, x, rfl, h1, h2, hk, k⟩ := h
  have hi : i = 5 ∨ i = 6 ∨ i = 7 ∨ i = 8 ∨ i = 9 := by omega
  rcases hi with rfl | rfl | rfl | rfl | rfl
  · cases hk
    refine ⟨_, rfl, rfl, _, rfl, iteT ?_⟩
    exact rd_made T (x := "BadGate") (f := "gate") (by decide +kernel) k
  · cases hk
    refine ⟨_, rfl, rfl, _, rfl, iteF ?_⟩
    refine ⟨_, rfl, rfl, _, rfl, iteT ?_⟩
    exact rd_made T (x := "BadGroup") (f := "group") (by decide +kernel) k
  · cases hk
    refine ⟨_, rfl, rfl, _, rfl, iteF ?_⟩
    refine ⟨_, rfl, rfl, _, rfl, iteF ?_⟩
    refine ⟨_, rfl, rfl, _, rfl, iteT ?_⟩
    exact rd_made T (x := "BadNet") (f := "net") (by decide +kernel) k
  · cases hk
    refine ⟨_, rfl, rfl, _, rfl, iteF ?_⟩
    refine ⟨_, rfl, rfl, _, rfl, iteF ?_⟩
    refine ⟨_, rfl, rfl, _, rfl, iteF ?_⟩
    refine ⟨_, rfl, rfl, _, rfl, iteT ?_⟩
    exact rd_made T (x := "BadNetText") (f := "line") (by decide +kernel) k
  · cases hk
    refine ⟨_, rfl, rfl, _, rfl, iteF ?_⟩
    refine ⟨_, rfl, rfl, _, rfl, iteF ?_⟩
    refine ⟨_, rfl, rfl, _, rfl, iteF ?_⟩
    refine ⟨_, rfl, rfl, _, rfl, iteF ?_⟩
    exact rd_made T (x := "BadOrder") (f := "order") (by decide +kernel) k
theorem sc_made_last : FnScope ["at", "x", "made", "e"] ["at", "x"] (defScope s_law_made_last) := ⟨rfl, rfl, rfl, by decide +kernel, rfl, by decide +kernel, by decide +kernel⟩
theorem ok_made_last (F : FnP K "_law_made_last" s_law_made_last f fd) (T : Tx K mg) (hI : ∀ p ∈ cls, IniOk P w K mg base p) : FnOk P w K mg base CX0 3 f fd ["at", "x"] (spMade K 10 15) := by
  refine F.ok sc_made_last (fun vs H Q E h => by obtain ⟨i, v, x, rfl, _⟩ := h; rfl) (fun cdv A outer s H vs Q E hr h => ⟨_, PSs.nox
    (pss_cons (ps_if (pt_cmpR op_eq (pv 0) pe_int (nomark _)) (pss_cons (ps_set (i := 2) sc_made_last.nd rfl (Or.inl rfl) (pe_lst (pa_cons (pe_C T hI (x := "BadPlace") (f := "place") (by decide +kernel) hr (by rfl) (pv 1)) (pa_cons (pe_CK T hI (x := "BadPlace") (f := "place") (by decide +kernel) hr (by rfl) (pv 1)) pa_nil))))
      (pss_one (ps_ret (pe_tup (pa_cons (pv 2) (pa_cons (pe_lc (own := [("e", 3)]) (g := gName 3) (tt := tYes) (te := tErF K "place" (tVar 3)) rfl sc_made_last.nd (pi_list (pv 2)) (blkOk_by (N := ["at", "x", "made", "e"]) (sc := defScope s_law_made_last) (by decide +kernel))
        (fun _ _ _ _ _ => pg_name (i := 3) sc_made_last.nd rfl (Or.inl rfl)) (fun _ _ _ _ _ => pts_nil) (fun _ _ _ _ _ => pe_erF (pv 3))) pa_nil)))))) pss_nil)
    (pss_cons (ps_if (pt_cmpR op_eq (pv 0) pe_int (nomark _)) (pss_cons (ps_set (i := 2) sc_made_last.nd rfl (Or.inl rfl) (pe_lst (pa_cons (pe_C T hI (x := "BadRun") (f := "run") (by decide +kernel) hr (by rfl) (pv 1)) (pa_cons (pe_CK T hI (x := "BadRun") (f := "run") (by decide +kernel) hr (by rfl) (pv 1)) pa_nil))))
      (pss_one (ps_ret (pe_tup (pa_cons (pv 2) (pa_cons (pe_lc (own := [("e", 3)]) (g := gName 3) (tt := tYes) (te := tErF K "run" (tVar 3)) rfl sc_made_last.nd (pi_list (pv 2)) (blkOk_by (N := ["at", "x", "made", "e"]) (sc := defScope s_law_made_last) (by decide +kernel))
        (fun _ _ _ _ _ => pg_name (i := 3) sc_made_last.nd rfl (Or.inl rfl)) (fun _ _ _ _ _ => pts_nil) (fun _ _ _ _ _ => pe_erF (pv 3))) pa_nil)))))) pss_nil)
    (pss_cons (ps_if (pt_cmpR op_eq (pv 0) pe_int (nomark _)) (pss_cons (ps_set (i := 2) sc_made_last.nd rfl (Or.inl rfl) (pe_lst (pa_cons (pe_C T hI (x := "BadWholeText") (f := "line") (by decide +kernel) hr (by rfl) (pv 1)) (pa_cons (pe_CK T hI (x := "BadWholeText") (f := "line") (by decide +kernel) hr (by rfl) (pv 1)) pa_nil))))
      (pss_one (ps_ret (pe_tup (pa_cons (pv 2) (pa_cons (pe_lc (own := [("e", 3)]) (g := gName 3) (tt := tYes) (te := tErF K "line" (tVar 3)) rfl sc_made_last.nd (pi_list (pv 2)) (blkOk_by (N := ["at", "x", "made", "e"]) (sc := defScope s_law_made_last) (by decide +kernel))
        (fun _ _ _ _ _ => pg_name (i := 3) sc_made_last.nd rfl (Or.inl rfl)) (fun _ _ _ _ _ => pts_nil) (fun _ _ _ _ _ => pe_erF (pv 3))) pa_nil)))))) pss_nil)
    (pss_cons (ps_if (pt_cmpR op_eq (pv 0) pe_int (nomark _)) (pss_cons (ps_set (i := 2) sc_made_last.nd rfl (Or.inl rfl) (pe_lst (pa_cons (pe_C T hI (x := "BadWire") (f := "wire") (by decide +kernel) hr (by rfl) (pv 1)) (pa_cons (pe_CK T hI (x := "BadWire") (f := "wire") (by decide +kernel) hr (by rfl) (pv 1)) pa_nil))))
      (pss_one (ps_ret (pe_tup (pa_cons (pv 2) (pa_cons (pe_lc (own := [("e", 3)]) (g := gName 3) (tt := tYes) (te := tErF K "wire" (tVar 3)) rfl sc_made_last.nd (pi_list (pv 2)) (blkOk_by (N := ["at", "x", "made", "e"]) (sc := defScope s_law_made_last) (by decide +kernel))
        (fun _ _ _ _ _ => pg_name (i := 3) sc_made_last.nd rfl (Or.inl rfl)) (fun _ _ _ _ _ => pts_nil) (fun _ _ _ _ _ => pe_erF (pv 3))) pa_nil)))))) pss_nil)
    (pss_cons (ps_set (i := 2) sc_made_last.nd rfl (Or.inl rfl) (pe_lst (pa_cons (pe_C T hI (x := "DarkPanel") (f := "panel") (by decide +kernel) hr (by rfl) (pv 1)) (pa_cons (pe_CK T hI (x := "DarkPanel") (f := "panel") (by decide +kernel) hr (by rfl) (pv 1)) pa_nil))))
      (pss_one (ps_ret (pe_tup (pa_cons (pv 2) (pa_cons (pe_lc (own := [("e", 3)]) (g := gName 3) (tt := tYes) (te := tErF K "panel" (tVar 3)) rfl sc_made_last.nd (pi_list (pv 2)) (blkOk_by (N := ["at", "x", "made", "e"]) (sc := defScope s_law_made_last) (by decide +kernel))
        (fun _ _ _ _ _ => pg_name (i := 3) sc_made_last.nd rfl (Or.inl rfl)) (fun _ _ _ _ _ => pts_nil) (fun _ _ _ _ _ => pe_erF (pv 3))) pa_nil)))))))))), ?_⟩)
  obtain ⟨i, v, x, rfl, h1, h2, hk, k⟩ := h
  have hi : i = 10 ∨ i = 11 ∨ i = 12 ∨ i = 13 ∨ i = 14 := by omega
  rcases hi with rfl | rfl | rfl | rfl | rfl
  · cases hk
    refine ⟨_, rfl, rfl, _, rfl, iteT ?_⟩
    exact rd_made T (x := "BadPlace") (f := "place") (by decide +kernel) k
  · cases hk
    refine ⟨_, rfl, rfl, _, rfl, iteF ?_⟩
    refine ⟨_, rfl, rfl, _, rfl, iteT ?_⟩
    exact rd_made T (x := "BadRun") (f := "run") (by decide +kernel) k
  · cases hk
    refine ⟨_, rfl, rfl, _, rfl, iteF ?_⟩
    refine ⟨_, rfl, rfl, _, rfl, iteF ?_⟩
    refine ⟨_, rfl, rfl, _, rfl, iteT ?_⟩
    exact rd_made T (x := "BadWholeText") (f := "line") (by decide +kernel) k
  · cases hk
    refine ⟨_, rfl, rfl, _, rfl, iteF ?_⟩
    refine ⟨_, rfl, rfl, _, rfl, iteF ?_⟩
    refine ⟨_, rfl, rfl, _, rfl, iteF ?_⟩
    refine ⟨_, rfl, rfl, _, rfl, iteT ?_⟩
    exact rd_made T (x := "BadWire") (f := "wire") (by decide +kernel) k
  · cases hk
    refine ⟨_, rfl, rfl, _, rfl, iteF ?_⟩
    refine ⟨_, rfl, rfl, _, rfl, iteF ?_⟩
    refine ⟨_, rfl, rfl, _, rfl, iteF ?_⟩
    refine ⟨_, rfl, rfl, _, rfl, iteF ?_⟩
    exact rd_made T (x := "DarkPanel") (f := "panel") (by decide +kernel) k
theorem sc_made_at : FnScope ["at", "x"] ["at", "x"] (defScope s_law_made_at) := ⟨rfl, rfl, rfl, by decide +kernel, rfl, by decide +kernel, by decide +kernel⟩
theorem ok_made_at (F : FnP K "_law_made_at" s_law_made_at f fd) (T : Tx K mg) {f1 f2 f3 : Addr} {d1 d2 d3 : FuncData} (F1 : FnP K "_law_made_first" s_law_made_first f1 d1) (F2 : FnP K "_law_made_middle" s_law_made_middle f2 d2) (F3 : FnP K "_law_made_last" s_law_made_last f3 d3)
    (g1 : mg "_law_made_first" = some (.ref f1)) (g2 : mg "_law_made_middle" = some (.ref f2)) (g3 : mg "_law_made_last" = some (.ref f3)) (hI : ∀ p ∈ cls, IniOk P w K mg base p) : FnOk P w K mg base CX0 4 f fd ["at", "x"] (spMade K 0 15) := by
  have b1 : Binds K d1 ["at", "x"] [] := F1.bindsN fun _ _ _ _ _ _ us hl => match us, hl with | [_, _], _ => rfl
  have b2 : Binds K d2 ["at", "x"] [] := F2.bindsN fun _ _ _ _ _ _ us hl => match us, hl with | [_, _], _ => rfl
  have b3 : Binds K d3 ["at", "x"] [] := F3.bindsN fun _ _ _ _ _ _ us hl => match us, hl with | [_, _], _ => rfl
  have G1 := ok_made_first (P := P) (w := w) (base := base) F1 T hI
  have G2 := ok_made_middle (P := P) (w := w) (base := base) F2 T hI
  have G3 := ok_made_last (P := P) (w := w) (base := base) F3 T hI
  refine F.ok sc_made_at (fun vs H Q E h => by obtain ⟨i, v, x, rfl, _⟩ := h; rfl) (fun cdv A outer s H vs Q E hr h => ⟨_, PSs.nox
    (pss_cons (ps_if (pt_cmpR op_lt (pv 0) pe_int (nomark _)) (pss_one (ps_ret (pe_call G1 hr (by rfl) g1 F1.kp b1 .nil pass0 (pa_cons (pv 0) (pa_cons (pv 1) pa_nil))))) pss_nil)
    (pss_one (ps_ret (pe_ifExp (pt_cmpR op_lt (pv 0) pe_int (nomark _)) (pe_call G2 hr (by rfl) g2 F2.kp b2 .nil pass0 (pa_cons (pv 0) (pa_cons (pv 1) pa_nil)))
      (pe_call G3 hr (by rfl) g3 F3.kp b3 .nil pass0 (pa_cons (pv 0) (pa_cons (pv 1) pa_nil))))))), ?_⟩)
  obtain ⟨i, v, x, rfl, h1, h2, hk, k⟩ := h
  refine ⟨_, rfl, _, _, rfl, rfl, _, rfl, ite2 (fun c => ?_) (fun c => ?_)⟩
  · have c1 := of_decide_eq_true c
    exact ⟨_, rfl, _, rfl, i, v, x, rfl, h1, by omega, hk, k⟩
  · have c1 : ¬ ((i : Int) < 5) := fun z => c (decide_eq_true z)
    refine ⟨_, rfl, _, _, rfl, rfl, _, rfl, ite2 (fun c => ?_) (fun c => ?_)⟩
    · have c2 := of_decide_eq_true c
      exact ⟨_, rfl, _, rfl, i, v, x, rfl, by omega, by omega, hk, k⟩
    · have c2 : ¬ ((i : Int) < 10) := fun z => c (decide_eq_true z)
      exact ⟨_, rfl, _, rfl, i, v, x, rfl, by omega, h2, hk, k⟩
end
end K89

set_option Elab.async false
set_option linter.all false
set_option maxRecDepth 100000
set_option maxHeartbeats 4000000
namespace K89
open PySem PySem.Spec PyProof.Rows L2 EV He
theorem boot_list : bootBuiltins "list" = some (.type "list") := by decide +kernel
theorem boot_tuple : bootBuiltins "tuple" = some (.type "tuple") := by decide +kernel
theorem boot_dict : bootBuiltins "dict" = some (.type "dict") := by decide +kernel
theorem boot_bool : bootBuiltins "bool" = some (.type "bool") := by decide +kernel
theorem boot_int : bootBuiltins "int" = some (.type "int") := by decide +kernel
theorem boot_str : bootBuiltins "str" = some (.type "str") := by decide +kernel
theorem boot_len : bootBuiltins "len" = some (.builtin "len") := by decide +kernel
theorem boot_all : bootBuiltins "all" = some (.builtin "all") := by decide +kernel
abbrev NS : List PySem.Str := ["found", "due", "mine", "theirs", "key"]
def Fl : V → Prop
  | .non => True
  | .bl _ => True
  | .int _ => True
  | .str _ => True
  | _ => False
/-- two things that _law_same tells alike, so deep -/
def Sm (H : Hp) : Nat → V → V → Prop
  | 0, v, u => Fl v ∧ u = v
  | n + 1, v, u => (Fl v ∧ u = v) ∨ ∃ (a b : Addr) (xs ys : List V), v = .ref a ∧ u = .ref b ∧ xs.length = ys.length ∧ xs.length ≤ 1000 ∧ (∀ (i : Nat) (x y : V), xs[i]? = some x → ys[i]? = some y → Sm H n x y) ∧
      ((H a = some (.lst xs) ∧ H b = some (.lst ys)) ∨ (H a = some (.tup xs) ∧ H b = some (.tup ys)))
theorem sm_same {H H' : Hp} (s : Same H H') : ∀ {n : Nat} {v u : V}, Sm H n v u → Sm H' n v u
  | 0, _, _, h => h
  | n + 1, v, u, h => by
    rcases h with h | ⟨a, b, xs, ys, e1, e2, l, z, k, h⟩
    · exact .inl h
    · refine .inr ⟨a, b, xs, ys, e1, e2, l, z, fun i x y h1 h2 => sm_same s (k i x y h1 h2), ?_⟩
      rcases h with ⟨h1, h2⟩ | ⟨h1, h2⟩
      · exact .inl ⟨s _ _ h1, s _ _ h2⟩
      · exact .inr ⟨s _ _ h1, s _ _ h2⟩
theorem sm_flat {H : Hp} {v : V} (h : Fl v) : ∀ n : Nat, Sm H n v v
  | 0 => ⟨h, rfl⟩
  | n + 1 => .inl ⟨h, rfl⟩
/-- a dict of flat things by texts -/
def Dc (H : Hp) (a : Addr) (kvs : List (Key × V)) : Prop := H a = some (.dK kvs) ∧ (∀ p ∈ kvs, (∃ s, p.1 = Sum.inr s) ∧ Fl p.2) ∧ (kvs.map (·.1)).Nodup ∧ kvs.length ≤ 1000
def spSame (K : PySem.W.Frag) (n : Nat) : Sp := fun vs H Q _ => ∃ (v u : V), vs = [v, u] ∧ (Sm H n v u ∨ (2 ≤ n ∧ ∃ a kvs, v = .ref a ∧ u = .ref a ∧ Dc H a kvs)) ∧ ∀ H', Same H H' → Q (.bl true) H'
theorem kit2 {K : PySem.W.Frag} {a b c : String} {r : Bool} (h1 : kitB a b = some false) (h2 : kitB a c = some r) : PySem.W.kitAny K (.type a) [.type b, .type c] = some r :=
  kitAny_cons (kit_ty h1) (fun _ => kitAny_cons (kit_ty h2) (fun e => by rw [e]; rfl) (fun e => e)) (fun e => nomatch e)
theorem kit2t {K : PySem.W.Frag} {a b c : String} (h1 : kitB a b = some true) : PySem.W.kitAny K (.type a) [.type b, .type c] = some true :=
  kitAny_cons (kit_ty h1) (fun e => nomatch e) (fun _ => rfl)
/-- the type's name -/
def tyN (H : Hp) (v : V) (t : String) : Prop := match v with
  | .non => t = "NoneType"
  | .bl _ => t = "bool"
  | .int _ => t = "int"
  | .str _ => t = "str"
  | .ref a => (t = "list" ∧ ∃ xs, H a = some (.lst xs)) ∨ (t = "tuple" ∧ ∃ xs, H a = some (.tup xs)) ∨ (t = "dict" ∧ ∃ kvs, H a = some (.dK kvs))
  | _ => False
theorem tyX_of {K : PySem.W.Frag} {H : Hp} {v : V} {t : String} (h : tyN H v t) : TyX K H v (.type t) := by
  cases v with
  | non => cases (show t = _ from h); exact .base .non
  | bl b => cases (show t = _ from h); exact .base (.bl b)
  | int i => cases (show t = _ from h); exact .base (.int i)
  | str x => cases (show t = _ from h); exact .base (.str x)
  | ref a =>
    rcases (show (t = "list" ∧ ∃ xs, H a = some (.lst xs)) ∨ (t = "tuple" ∧ ∃ xs, H a = some (.tup xs)) ∨ (t = "dict" ∧ ∃ kvs, H a = some (.dK kvs)) from h) with ⟨rfl, xs, e⟩ | ⟨rfl, xs, e⟩ | ⟨rfl, kvs, e⟩
    · exact .base (.lst e)
    · exact .base (.tup e)
    · exact .base (.dK e)
  | _ => exact h.elim
section
variable {P : Program} {w : World} {K : PySem.W.Frag} {mg : PySem.Str → Option Value} {base : Heap} {f : Addr} {fd : FuncData} {H : Hp} {Q : VK}
/-- isinstance of a plain thing, by one class, by two -/
theorem r_i {v : V} {t c : String} {b : Bool} (h : tyN H v t) (e : kitB t c = some b) (q : Q (.bl b) H) : rIsi K [v, .ty c] H Q := ⟨v, .ty c, .type t, .type c, b, rfl, .ty _, tyX_of h, kit_ty e, q⟩
theorem sc_same : FnScope NS ["found", "due"] (defScope s_law_same) := ⟨rfl, rfl, rfl, by decide +kernel, rfl, by decide +kernel, by decide +kernel⟩
theorem ok_same0 (F : FnP K "_law_same" s_law_same f fd) (T : Tx K mg) : FnOk P w K mg base CX0 1 f fd ["found", "due"] (spSame K 0) := by
  refine F.ok sc_same (fun vs H Q E h => by obtain ⟨v, u, rfl, _⟩ := h; rfl) (fun cdv A outer s H vs Q E hr h => ⟨_, PSs.nox
    (pss_cons (ps_if (pt_val (pe_callB call_isiT (by rfl) (T.fr "isinstance" (by decide +kernel)) boot_isinstance (pa_cons (pv 1) (pa_cons (pe_tup (pa_cons (pe_bltn (v := .ty "list") (by rfl) (T.fr "list" (by decide +kernel)) boot_list rfl) (pa_cons (pe_bltn (v := .ty "tuple") (by rfl) (T.fr "tuple" (by decide +kernel)) boot_tuple rfl) pa_nil))) pa_nil)))) pss_never pss_nil)
    (pss_cons (ps_if (pt_val (pe_callB call_isi (by rfl) (T.fr "isinstance" (by decide +kernel)) boot_isinstance (pa_cons (pv 1) (pa_cons (pe_bltn (v := .ty "dict") (by rfl) (T.fr "dict" (by decide +kernel)) boot_dict rfl) pa_nil)))) pss_never pss_nil)
    (pss_cons (ps_if (pt_cmp (pc_isN (pv 1))) (pss_one (ps_ret (pe_cmp (pc_isN (pv 0)) rfl))) pss_nil)
    (pss_cons (ps_if (pt_val (pe_callB call_isi (by rfl) (T.fr "isinstance" (by decide +kernel)) boot_isinstance (pa_cons (pv 1) (pa_cons (pe_bltn (v := .ty "bool") (by rfl) (T.fr "bool" (by decide +kernel)) boot_bool rfl) pa_nil)))) (pss_one (ps_ret (pe_and (pe_callB call_isi (by rfl) (T.fr "isinstance" (by decide +kernel)) boot_isinstance (pa_cons (pv 0) (pa_cons (pe_bltn (v := .ty "bool") (by rfl) (T.fr "bool" (by decide +kernel)) boot_bool rfl) pa_nil))) (pe_one (pe_cmpR op_eq (pv 0) (pv 1) (nomark _)))))) pss_nil)
    (pss_cons (ps_if (pt_val (pe_callB call_isi (by rfl) (T.fr "isinstance" (by decide +kernel)) boot_isinstance (pa_cons (pv 1) (pa_cons (pe_bltn (v := .ty "int") (by rfl) (T.fr "int" (by decide +kernel)) boot_int rfl) pa_nil)))) (pss_one (ps_ret (pe_and (pe_callB call_isi (by rfl) (T.fr "isinstance" (by decide +kernel)) boot_isinstance (pa_cons (pv 0) (pa_cons (pe_bltn (v := .ty "int") (by rfl) (T.fr "int" (by decide +kernel)) boot_int rfl) pa_nil))) (pe_and (pe_not (pe_callB call_isi (by rfl) (T.fr "isinstance" (by decide +kernel)) boot_isinstance (pa_cons (pv 0) (pa_cons (pe_bltn (v := .ty "bool") (by rfl) (T.fr "bool" (by decide +kernel)) boot_bool rfl) pa_nil)))) (pe_one (pe_cmpR op_eq (pv 0) (pv 1) (nomark _))))))) pss_nil)
    (pss_one (ps_ret (pe_and (pe_callB call_isi (by rfl) (T.fr "isinstance" (by decide +kernel)) boot_isinstance (pa_cons (pv 0) (pa_cons (pe_bltn (v := .ty "str") (by rfl) (T.fr "str" (by decide +kernel)) boot_str rfl) pa_nil))) (pe_one (pe_cmpR op_eq (pv 0) (pv 1) (nomark _))))))))))), ?_⟩)
  obtain ⟨v, u, rfl, h, k⟩ := h
  rcases h with ⟨hf, rfl⟩ | ⟨h, _⟩
  · cases u with
    | non =>
      have HT : ∀ H : Hp, tyN H (.non) "NoneType" := fun _ => rfl
      refine ⟨_, rfl, (by show 2 ≤ sizeLine; decide), fun tp ntp => ⟨_, tp, [.ty "list", .ty "tuple"], .type "NoneType", [.type "list", .type "tuple"], false, rfl, upd_same, .cons (.ty _) (.cons (.ty _) .nil), tyX_of (HT _), kit2 (show kitB "NoneType" "list" = some false from by decide +kernel) (show kitB "NoneType" "tuple" = some false from by decide +kernel), _, rfl, iteF ?_⟩⟩
      have s1 := same_new (H := H) (o := .tup [.ty "list", .ty "tuple"]) ntp
      generalize upd H tp (.tup [.ty "list", .ty "tuple"]) = H2 at s1
      refine ⟨_, rfl, _, .ty "dict", .type "NoneType", .type "dict", false, rfl, .ty _, tyX_of (HT _), kit_ty (show kitB "NoneType" "dict" = some false from by decide +kernel), _, rfl, iteF ?_⟩
      refine ⟨_, rfl, _, rfl, iteT ?_⟩
      exact ⟨_, rfl, k _ s1⟩
    | bl b =>
      have HT : ∀ H : Hp, tyN H (.bl b) "bool" := fun _ => rfl
      refine ⟨_, rfl, (by show 2 ≤ sizeLine; decide), fun tp ntp => ⟨_, tp, [.ty "list", .ty "tuple"], .type "bool", [.type "list", .type "tuple"], false, rfl, upd_same, .cons (.ty _) (.cons (.ty _) .nil), tyX_of (HT _), kit2 (show kitB "bool" "list" = some false from by decide +kernel) (show kitB "bool" "tuple" = some false from by decide +kernel), _, rfl, iteF ?_⟩⟩
      have s1 := same_new (H := H) (o := .tup [.ty "list", .ty "tuple"]) ntp
      generalize upd H tp (.tup [.ty "list", .ty "tuple"]) = H2 at s1
      refine ⟨_, rfl, _, .ty "dict", .type "bool", .type "dict", false, rfl, .ty _, tyX_of (HT _), kit_ty (show kitB "bool" "dict" = some false from by decide +kernel), _, rfl, iteF ?_⟩
      refine ⟨_, rfl, _, rfl, iteF ?_⟩
      refine ⟨_, rfl, _, .ty "bool", .type "bool", .type "bool", true, rfl, .ty _, tyX_of (HT _), kit_ty (show kitB "bool" "bool" = some true from by decide +kernel), _, rfl, iteT ?_⟩
      exact ⟨_, rfl, _, .ty "bool", .type "bool", .type "bool", true, rfl, .ty _, tyX_of (HT _), kit_ty (show kitB "bool" "bool" = some true from by decide +kernel), _, rfl, iteT ⟨_, rfl, _, rfl, rfl, by rw [decide_eq_true rfl]; exact k _ s1⟩⟩
    | int i =>
      have HT : ∀ H : Hp, tyN H (.int i) "int" := fun _ => rfl
      refine ⟨_, rfl, (by show 2 ≤ sizeLine; decide), fun tp ntp => ⟨_, tp, [.ty "list", .ty "tuple"], .type "int", [.type "list", .type "tuple"], false, rfl, upd_same, .cons (.ty _) (.cons (.ty _) .nil), tyX_of (HT _), kit2 (show kitB "int" "list" = some false from by decide +kernel) (show kitB "int" "tuple" = some false from by decide +kernel), _, rfl, iteF ?_⟩⟩
      have s1 := same_new (H := H) (o := .tup [.ty "list", .ty "tuple"]) ntp
      generalize upd H tp (.tup [.ty "list", .ty "tuple"]) = H2 at s1
      refine ⟨_, rfl, _, .ty "dict", .type "int", .type "dict", false, rfl, .ty _, tyX_of (HT _), kit_ty (show kitB "int" "dict" = some false from by decide +kernel), _, rfl, iteF ?_⟩
      refine ⟨_, rfl, _, rfl, iteF ?_⟩
      refine ⟨_, rfl, _, .ty "bool", .type "int", .type "bool", false, rfl, .ty _, tyX_of (HT _), kit_ty (show kitB "int" "bool" = some false from by decide +kernel), _, rfl, iteF ?_⟩
      refine ⟨_, rfl, _, .ty "int", .type "int", .type "int", true, rfl, .ty _, tyX_of (HT _), kit_ty (show kitB "int" "int" = some true from by decide +kernel), _, rfl, iteT ?_⟩
      exact ⟨_, rfl, _, .ty "int", .type "int", .type "int", true, rfl, .ty _, tyX_of (HT _), kit_ty (show kitB "int" "int" = some true from by decide +kernel), _, rfl, iteT ⟨_, rfl, _, .ty "bool", .type "int", .type "bool", false, rfl, .ty _, tyX_of (HT _), kit_ty (show kitB "int" "bool" = some false from by decide +kernel), _, rfl, _, rfl, iteT ⟨_, rfl, _, rfl, rfl, by rw [decide_eq_true rfl]; exact k _ s1⟩⟩⟩
    | str x =>
      have HT : ∀ H : Hp, tyN H (.str x) "str" := fun _ => rfl
      refine ⟨_, rfl, (by show 2 ≤ sizeLine; decide), fun tp ntp => ⟨_, tp, [.ty "list", .ty "tuple"], .type "str", [.type "list", .type "tuple"], false, rfl, upd_same, .cons (.ty _) (.cons (.ty _) .nil), tyX_of (HT _), kit2 (show kitB "str" "list" = some false from by decide +kernel) (show kitB "str" "tuple" = some false from by decide +kernel), _, rfl, iteF ?_⟩⟩
      have s1 := same_new (H := H) (o := .tup [.ty "list", .ty "tuple"]) ntp
      generalize upd H tp (.tup [.ty "list", .ty "tuple"]) = H2 at s1
      refine ⟨_, rfl, _, .ty "dict", .type "str", .type "dict", false, rfl, .ty _, tyX_of (HT _), kit_ty (show kitB "str" "dict" = some false from by decide +kernel), _, rfl, iteF ?_⟩
      refine ⟨_, rfl, _, rfl, iteF ?_⟩
      refine ⟨_, rfl, _, .ty "bool", .type "str", .type "bool", false, rfl, .ty _, tyX_of (HT _), kit_ty (show kitB "str" "bool" = some false from by decide +kernel), _, rfl, iteF ?_⟩
      refine ⟨_, rfl, _, .ty "int", .type "str", .type "int", false, rfl, .ty _, tyX_of (HT _), kit_ty (show kitB "str" "int" = some false from by decide +kernel), _, rfl, iteF ?_⟩
      exact ⟨_, rfl, _, .ty "str", .type "str", .type "str", true, rfl, .ty _, tyX_of (HT _), kit_ty (show kitB "str" "str" = some true from by decide +kernel), _, rfl, iteT ⟨_, rfl, _, rfl, rfl, by rw [decide_eq_true rfl]; exact k _ s1⟩⟩
    | _ => exact hf.elim
  · omega
theorem all_rep : ∀ n : Nat, (List.replicate n true).all id = true
  | 0 => rfl
  | n + 1 => by
    rw [List.replicate_succ, List.all_cons, all_rep n]
    rfl
theorem walk_zipT {a b : Addr} {xs ys : List V} {n : Nat} (hn : n = min xs.length ys.length) : Walk (RZ.ItzT K a b) n (fun H => SqT K H a xs ∧ SqT K H b ys) (YPair (fun i => xs[i]?) (fun i => ys[i]?)) := by
  subst hn
  refine ⟨fun i _ hi q => ?_, fun _ q => ⟨xs, ys, q.1, q.2, by omega⟩, fun i H v H' _ q y => ?_⟩
  · have h1 : i < xs.length := by omega
    have h2 : i < ys.length := by omega
    exact ⟨xs, ys, xs[i], ys[i], q.1, q.2, by simp [h1], by simp [h2]⟩
  · obtain ⟨T, x, z, h1, h2, h3, h4, h5⟩ := y
    exact ⟨T, x, z, h1, h2, h3, h4 xs q.1, h5 ys q.2⟩
theorem valV_at : ∀ {kvs : List (Key × V)} {i : Nat} {k : Key} {v : V}, (kvs.map (·.1)).Nodup → kvs[i]? = some (k, v) → valV kvs k = some v
  | [], i, k, v, _, h => by simp at h
  | p :: r, 0, k, v, n, h => by
    have e : p = (k, v) := Option.some.inj h
    rw [e]
    exact valV_pos rfl
  | p :: r, i + 1, k, v, n, h => by
    have h2 : r[i]? = some (k, v) := h
    rw [List.map_cons, List.nodup_cons] at n
    rw [valV_neg fun z => n.1 (List.mem_map.mpr ⟨(k, v), List.mem_of_getElem? h2, z.symm⟩)]
    exact valV_at n.2 h2
theorem ok_sameS (F : FnP K "_law_same" s_law_same f fd) (T : Tx K mg) (gS : mg "_law_same" = some (.ref f)) {n : Nat} (G : FnOk P w K mg base CX0 (n + 1) f fd ["found", "due"] (spSame K n)) : FnOk P w K mg base CX0 (n + 2) f fd ["found", "due"] (spSame K (n + 1)) := by
  have bS : Binds K fd ["found", "due"] [] := F.bindsN fun _ _ _ _ _ _ us hl => match us, hl with | [_, _], _ => rfl
  refine F.ok sc_same (fun vs H Q E h => by obtain ⟨v, u, rfl, _⟩ := h; rfl) (fun cdv A outer s H vs Q E hr h => ⟨_, PSs.nox
    (pss_cons (ps_if (pt_val (pe_callB call_isiT (by rfl) (T.fr "isinstance" (by decide +kernel)) boot_isinstance (pa_cons (pv 1) (pa_cons (pe_tup (pa_cons (pe_bltn (v := .ty "list") (by rfl) (T.fr "list" (by decide +kernel)) boot_list rfl) (pa_cons (pe_bltn (v := .ty "tuple") (by rfl) (T.fr "tuple" (by decide +kernel)) boot_tuple rfl) pa_nil))) pa_nil)))) (pss_cons (ps_if (PW.pt (pw_or (pt_cmpR op_ne (pe_callB call_isi (by rfl) (T.fr "isinstance" (by decide +kernel)) boot_isinstance (pa_cons (pv 0) (pa_cons (pe_bltn (v := .ty "list") (by rfl) (T.fr "list" (by decide +kernel)) boot_list rfl) pa_nil))) (pe_callB call_isi (by rfl) (T.fr "isinstance" (by decide +kernel)) boot_isinstance (pa_cons (pv 1) (pa_cons (pe_bltn (v := .ty "list") (by rfl) (T.fr "list" (by decide +kernel)) boot_list rfl) pa_nil))) (nomark _)) (pw_or1 (pt_cmpR op_ne (pe_callB call_isi (by rfl) (T.fr "isinstance" (by decide +kernel)) boot_isinstance (pa_cons (pv 0) (pa_cons (pe_bltn (v := .ty "tuple") (by rfl) (T.fr "tuple" (by decide +kernel)) boot_tuple rfl) pa_nil))) (pe_callB call_isi (by rfl) (T.fr "isinstance" (by decide +kernel)) boot_isinstance (pa_cons (pv 1) (pa_cons (pe_bltn (v := .ty "tuple") (by rfl) (T.fr "tuple" (by decide +kernel)) boot_tuple rfl) pa_nil))) (nomark _))))) (pss_one (ps_ret pe_bl)) pss_nil)
      (pss_one (ps_ret (pe_and (pe_cmpR op_eq (pe_callB call_len_seq (by rfl) (T.fr "len" (by decide +kernel)) boot_len (pa_cons (pv 0) pa_nil)) (pe_callB call_len_seq (by rfl) (T.fr "len" (by decide +kernel)) boot_len (pa_cons (pv 1) pa_nil)) (nomark _)) (pe_one (pe_callB (cr_all rfl) (by rfl) (T.fr "all" (by decide +kernel)) boot_all (pa_cons (pe_lc (own := [("mine", 2), ("theirs", 3)]) (g := gTup K 2 (gCons (gName 2) (gCons (gName 3) gNil))) (tt := tYes) (te := tCall (spSame K n) [] E0 (tCons (tVar 2) (tCons (tVar 3) tNil))) rfl sc_same.nd (RZ.pi_zipA (by rfl) (T.fr "zip" (by decide +kernel)) (pa_cons (pv 0) (pa_cons (pv 1) pa_nil))) (blkOk_by (N := NS) (sc := defScope s_law_same) (by decide +kernel))
      (fun _ _ _ _ _ => pg_tup rfl (pgs_cons (pg_name (i := 2) sc_same.nd rfl (Or.inl rfl)) (pgs_cons (pg_name (i := 3) sc_same.nd rfl (Or.inl rfl)) pgs_nil))) (fun _ _ _ _ _ => pts_nil) (fun _ _ _ _ _ => (pe_call G hr (by rfl) gS F.kp bS .nil pass0 (pa_cons (pv 2) (pa_cons (pv 3) pa_nil))))) pa_nil))))))) pss_nil)
    (pss_cons (ps_if (pt_val (pe_callB call_isi (by rfl) (T.fr "isinstance" (by decide +kernel)) boot_isinstance (pa_cons (pv 1) (pa_cons (pe_bltn (v := .ty "dict") (by rfl) (T.fr "dict" (by decide +kernel)) boot_dict rfl) pa_nil)))) (pss_cons (ps_if (PW.pt (pw_or (pt_not (pt_val (pe_callB call_isi (by rfl) (T.fr "isinstance" (by decide +kernel)) boot_isinstance (pa_cons (pv 0) (pa_cons (pe_bltn (v := .ty "dict") (by rfl) (T.fr "dict" (by decide +kernel)) boot_dict rfl) pa_nil))))) (pw_or1 (pt_not (pt_val (pe_call G hr (by rfl) gS F.kp bS .nil pass0 (pa_cons (pe_callTy (call_listD rfl) (by rfl) (T.fr "list" (by decide +kernel)) boot_list (pa_cons (pv 0) pa_nil)) (pa_cons (pe_callTy (call_listD rfl) (by rfl) (T.fr "list" (by decide +kernel)) boot_list (pa_cons (pv 1) pa_nil)) pa_nil)))))))) (pss_one (ps_ret pe_bl)) pss_nil)
      (pss_one (ps_ret (pe_lock (pe_callB (cr_all rfl) (by rfl) (T.fr "all" (by decide +kernel)) boot_all (pa_cons (pe_lc (own := [("key", 4)]) (g := gName 4) (tt := tYes) (te := tCall (spSame K n) [] E0 (tCons (tDGet (tVar 0) (tVar 4)) (tCons (tDGet (tVar 1) (tVar 4)) tNil))) rfl sc_same.nd (pi_keys (pv 1)) (blkOk_by (N := NS) (sc := defScope s_law_same) (by decide +kernel))
      (fun _ _ _ _ _ => pg_name (i := 4) sc_same.nd rfl (Or.inl rfl)) (fun _ _ _ _ _ => pts_nil) (fun _ _ _ _ _ => (pe_call G hr (by rfl) gS F.kp bS .nil pass0 (pa_cons (pe_dget (hu_of hr) (pv 0) (pv 4) (fun _ _ => rfl)) (pa_cons (pe_dget (hu_of hr) (pv 1) (pv 4) (fun _ _ => rfl)) pa_nil))))) pa_nil)))))) pss_nil)
    (pss_cons (ps_if (pt_cmp (pc_isN (pv 1))) (pss_one (ps_ret (pe_cmp (pc_isN (pv 0)) rfl))) pss_nil)
    (pss_cons (ps_if (pt_val (pe_callB call_isi (by rfl) (T.fr "isinstance" (by decide +kernel)) boot_isinstance (pa_cons (pv 1) (pa_cons (pe_bltn (v := .ty "bool") (by rfl) (T.fr "bool" (by decide +kernel)) boot_bool rfl) pa_nil)))) (pss_one (ps_ret (pe_and (pe_callB call_isi (by rfl) (T.fr "isinstance" (by decide +kernel)) boot_isinstance (pa_cons (pv 0) (pa_cons (pe_bltn (v := .ty "bool") (by rfl) (T.fr "bool" (by decide +kernel)) boot_bool rfl) pa_nil))) (pe_one (pe_cmpR op_eq (pv 0) (pv 1) (nomark _)))))) pss_nil)
    (pss_cons (ps_if (pt_val (pe_callB call_isi (by rfl) (T.fr "isinstance" (by decide +kernel)) boot_isinstance (pa_cons (pv 1) (pa_cons (pe_bltn (v := .ty "int") (by rfl) (T.fr "int" (by decide +kernel)) boot_int rfl) pa_nil)))) (pss_one (ps_ret (pe_and (pe_callB call_isi (by rfl) (T.fr "isinstance" (by decide +kernel)) boot_isinstance (pa_cons (pv 0) (pa_cons (pe_bltn (v := .ty "int") (by rfl) (T.fr "int" (by decide +kernel)) boot_int rfl) pa_nil))) (pe_and (pe_not (pe_callB call_isi (by rfl) (T.fr "isinstance" (by decide +kernel)) boot_isinstance (pa_cons (pv 0) (pa_cons (pe_bltn (v := .ty "bool") (by rfl) (T.fr "bool" (by decide +kernel)) boot_bool rfl) pa_nil)))) (pe_one (pe_cmpR op_eq (pv 0) (pv 1) (nomark _))))))) pss_nil)
    (pss_one (ps_ret (pe_and (pe_callB call_isi (by rfl) (T.fr "isinstance" (by decide +kernel)) boot_isinstance (pa_cons (pv 0) (pa_cons (pe_bltn (v := .ty "str") (by rfl) (T.fr "str" (by decide +kernel)) boot_str rfl) pa_nil))) (pe_one (pe_cmpR op_eq (pv 0) (pv 1) (nomark _))))))))))), ?_⟩)
  obtain ⟨v, u, rfl, h, k⟩ := h
  rcases h with (⟨hf, rfl⟩ | ⟨a, b, xs, ys, rfl, rfl, hl, hz, hk, hab⟩) | ⟨hn2, a, kvs, rfl, rfl, hd, hks, hn, hz⟩
  · cases u with
    | non =>
      have HT : ∀ H : Hp, tyN H (.non) "NoneType" := fun _ => rfl
      refine ⟨_, rfl, (by show 2 ≤ sizeLine; decide), fun tp ntp => ⟨_, tp, [.ty "list", .ty "tuple"], .type "NoneType", [.type "list", .type "tuple"], false, rfl, upd_same, .cons (.ty _) (.cons (.ty _) .nil), tyX_of (HT _), kit2 (show kitB "NoneType" "list" = some false from by decide +kernel) (show kitB "NoneType" "tuple" = some false from by decide +kernel), _, rfl, iteF ?_⟩⟩
      have s1 := same_new (H := H) (o := .tup [.ty "list", .ty "tuple"]) ntp
      generalize upd H tp (.tup [.ty "list", .ty "tuple"]) = H2 at s1
      refine ⟨_, rfl, _, .ty "dict", .type "NoneType", .type "dict", false, rfl, .ty _, tyX_of (HT _), kit_ty (show kitB "NoneType" "dict" = some false from by decide +kernel), _, rfl, iteF ?_⟩
      refine ⟨_, rfl, _, rfl, iteT ?_⟩
      exact ⟨_, rfl, k _ s1⟩
    | bl b =>
      have HT : ∀ H : Hp, tyN H (.bl b) "bool" := fun _ => rfl
      refine ⟨_, rfl, (by show 2 ≤ sizeLine; decide), fun tp ntp => ⟨_, tp, [.ty "list", .ty "tuple"], .type "bool", [.type "list", .type "tuple"], false, rfl, upd_same, .cons (.ty _) (.cons (.ty _) .nil), tyX_of (HT _), kit2 (show kitB "bool" "list" = some false from by decide +kernel) (show kitB "bool" "tuple" = some false from by decide +kernel), _, rfl, iteF ?_⟩⟩
      have s1 := same_new (H := H) (o := .tup [.ty "list", .ty "tuple"]) ntp
      generalize upd H tp (.tup [.ty "list", .ty "tuple"]) = H2 at s1
      refine ⟨_, rfl, _, .ty "dict", .type "bool", .type "dict", false, rfl, .ty _, tyX_of (HT _), kit_ty (show kitB "bool" "dict" = some false from by decide +kernel), _, rfl, iteF ?_⟩
      refine ⟨_, rfl, _, rfl, iteF ?_⟩
      refine ⟨_, rfl, _, .ty "bool", .type "bool", .type "bool", true, rfl, .ty _, tyX_of (HT _), kit_ty (show kitB "bool" "bool" = some true from by decide +kernel), _, rfl, iteT ?_⟩
      exact ⟨_, rfl, _, .ty "bool", .type "bool", .type "bool", true, rfl, .ty _, tyX_of (HT _), kit_ty (show kitB "bool" "bool" = some true from by decide +kernel), _, rfl, iteT ⟨_, rfl, _, rfl, rfl, by rw [decide_eq_true rfl]; exact k _ s1⟩⟩
    | int i =>
      have HT : ∀ H : Hp, tyN H (.int i) "int" := fun _ => rfl
      refine ⟨_, rfl, (by show 2 ≤ sizeLine; decide), fun tp ntp => ⟨_, tp, [.ty "list", .ty "tuple"], .type "int", [.type "list", .type "tuple"], false, rfl, upd_same, .cons (.ty _) (.cons (.ty _) .nil), tyX_of (HT _), kit2 (show kitB "int" "list" = some false from by decide +kernel) (show kitB "int" "tuple" = some false from by decide +kernel), _, rfl, iteF ?_⟩⟩
      have s1 := same_new (H := H) (o := .tup [.ty "list", .ty "tuple"]) ntp
      generalize upd H tp (.tup [.ty "list", .ty "tuple"]) = H2 at s1
      refine ⟨_, rfl, _, .ty "dict", .type "int", .type "dict", false, rfl, .ty _, tyX_of (HT _), kit_ty (show kitB "int" "dict" = some false from by decide +kernel), _, rfl, iteF ?_⟩
      refine ⟨_, rfl, _, rfl, iteF ?_⟩
      refine ⟨_, rfl, _, .ty "bool", .type "int", .type "bool", false, rfl, .ty _, tyX_of (HT _), kit_ty (show kitB "int" "bool" = some false from by decide +kernel), _, rfl, iteF ?_⟩
      refine ⟨_, rfl, _, .ty "int", .type "int", .type "int", true, rfl, .ty _, tyX_of (HT _), kit_ty (show kitB "int" "int" = some true from by decide +kernel), _, rfl, iteT ?_⟩
      exact ⟨_, rfl, _, .ty "int", .type "int", .type "int", true, rfl, .ty _, tyX_of (HT _), kit_ty (show kitB "int" "int" = some true from by decide +kernel), _, rfl, iteT ⟨_, rfl, _, .ty "bool", .type "int", .type "bool", false, rfl, .ty _, tyX_of (HT _), kit_ty (show kitB "int" "bool" = some false from by decide +kernel), _, rfl, _, rfl, iteT ⟨_, rfl, _, rfl, rfl, by rw [decide_eq_true rfl]; exact k _ s1⟩⟩⟩
    | str x =>
      have HT : ∀ H : Hp, tyN H (.str x) "str" := fun _ => rfl
      refine ⟨_, rfl, (by show 2 ≤ sizeLine; decide), fun tp ntp => ⟨_, tp, [.ty "list", .ty "tuple"], .type "str", [.type "list", .type "tuple"], false, rfl, upd_same, .cons (.ty _) (.cons (.ty _) .nil), tyX_of (HT _), kit2 (show kitB "str" "list" = some false from by decide +kernel) (show kitB "str" "tuple" = some false from by decide +kernel), _, rfl, iteF ?_⟩⟩
      have s1 := same_new (H := H) (o := .tup [.ty "list", .ty "tuple"]) ntp
      generalize upd H tp (.tup [.ty "list", .ty "tuple"]) = H2 at s1
      refine ⟨_, rfl, _, .ty "dict", .type "str", .type "dict", false, rfl, .ty _, tyX_of (HT _), kit_ty (show kitB "str" "dict" = some false from by decide +kernel), _, rfl, iteF ?_⟩
      refine ⟨_, rfl, _, rfl, iteF ?_⟩
      refine ⟨_, rfl, _, .ty "bool", .type "str", .type "bool", false, rfl, .ty _, tyX_of (HT _), kit_ty (show kitB "str" "bool" = some false from by decide +kernel), _, rfl, iteF ?_⟩
      refine ⟨_, rfl, _, .ty "int", .type "str", .type "int", false, rfl, .ty _, tyX_of (HT _), kit_ty (show kitB "str" "int" = some false from by decide +kernel), _, rfl, iteF ?_⟩
      exact ⟨_, rfl, _, .ty "str", .type "str", .type "str", true, rfl, .ty _, tyX_of (HT _), kit_ty (show kitB "str" "str" = some true from by decide +kernel), _, rfl, iteT ⟨_, rfl, _, rfl, rfl, by rw [decide_eq_true rfl]; exact k _ s1⟩⟩
    | _ => exact hf.elim
  · rcases hab with ⟨ha, hb⟩ | ⟨ha, hb⟩
    ·
      have HA : ∀ H2, Same H H2 → tyN H2 (.ref a) "list" := fun H2 s => .inl ⟨rfl, xs, s _ _ ha⟩
      have HB : ∀ H2, Same H H2 → tyN H2 (.ref b) "list" := fun H2 s => .inl ⟨rfl, ys, s _ _ hb⟩
      refine ⟨_, rfl, (by show 2 ≤ sizeLine; decide), fun tp ntp => ⟨_, tp, [.ty "list", .ty "tuple"], .type "list", [.type "list", .type "tuple"], true, rfl, upd_same, .cons (.ty _) (.cons (.ty _) .nil), tyX_of (HB _ (same_new ntp)), kit2t (show kitB "list" "list" = some true from by decide +kernel), _, rfl, iteT ?_⟩⟩
      have s1 := same_new (H := H) (o := .tup [.ty "list", .ty "tuple"]) ntp
      generalize upd H tp (.tup [.ty "list", .ty "tuple"]) = H2 at s1
      refine ⟨_, rfl, _, .ty "list", .type "list", .type "list", true, rfl, .ty _, tyX_of (HA _ s1), kit_ty (show kitB "list" "list" = some true from by decide +kernel), _, rfl, _, .ty "list", .type "list", .type "list", true, rfl, .ty _, tyX_of (HB _ s1), kit_ty (show kitB "list" "list" = some true from by decide +kernel), rfl, _, rfl, iteF ⟨_, rfl, _, .ty "tuple", .type "list", .type "tuple", false, rfl, .ty _, tyX_of (HA _ s1), kit_ty (show kitB "list" "tuple" = some false from by decide +kernel), _, rfl, _, .ty "tuple", .type "list", .type "tuple", false, rfl, .ty _, tyX_of (HB _ s1), kit_ty (show kitB "list" "tuple" = some false from by decide +kernel), rfl, _, rfl, iteF ?_⟩⟩
      refine ⟨_, rfl, a, xs, rfl, .inl (SqL.of (s1 _ _ ha)), _, rfl, b, ys, rfl, .inl (SqL.of (s1 _ _ hb)), rfl, _, rfl, ?_⟩
      rw [hl, decide_eq_true rfl]
      refine iteT ⟨_, rfl, _, rfl, a, b, xs, ys, rfl, .inl ⟨SqL.of (s1 _ _ ha), SqL.of (s1 _ _ hb), fun D hD => ?_⟩⟩
      refine lc_it (walk_zip (K := K) (a := a) (b := b) (xs := xs) (ys := ys) (n := xs.length) (by rw [hl]; exact (Nat.min_self _).symm)) (fun i H' => Same H2 H' ∧ H' D = some (.lst (List.replicate i (.bl true)))) ⟨same_new hD, upd_same⟩ (fun i H' _ ⟨q, _⟩ => ⟨SqL.of (q _ _ (s1 _ _ ha)), SqL.of (q _ _ (s1 _ _ hb))⟩) ?_ ?_
      · rintro i x H' H'' hi ⟨q1, q2⟩ ⟨Tp, x1, y1, rfl, nT, rfl, hx, hy⟩
        refine ⟨Tp, _, rfl, SqT.of upd_same, rfl, _, _, rfl, _, _, rfl, rfl, rfl, ?_⟩
        have q3 := q1.trans (same_new (o := .tup [x1, y1]) nT)
        have Dn : D ≠ Tp := ne_of_none q2 nT
        refine iteT (B := Same H2 (upd H' Tp (.tup [x1, y1])) ∧ upd H' Tp (.tup [x1, y1]) D = some (.lst (List.replicate (i + 1) (.bl true)))) ⟨_, rfl, _, rfl, x1, y1, rfl, .inl (sm_same (s1.trans q3) (hk i x1 y1 hx hy)), fun H3 s3 => ⟨_, s3 _ _ (by rw [upd_ne Dn]; exact q2), ?_, same_wr (q3.trans s3) hD, ?_⟩⟩
        · rw [List.length_replicate]
          exact Nat.lt_of_lt_of_le hi (Nat.le_trans hz (by decide))
        · rw [upd_same, List.replicate_succ']
      · rintro H' ⟨q1, q2⟩
        refine ⟨D, List.replicate xs.length true, rfl, SqL.of (by rw [q2, List.map_replicate]), ?_⟩
        rw [all_rep]
        exact k _ (s1.trans q1)
    ·
      have HA : ∀ H2, Same H H2 → tyN H2 (.ref a) "tuple" := fun H2 s => .inr (.inl ⟨rfl, xs, s _ _ ha⟩)
      have HB : ∀ H2, Same H H2 → tyN H2 (.ref b) "tuple" := fun H2 s => .inr (.inl ⟨rfl, ys, s _ _ hb⟩)
      refine ⟨_, rfl, (by show 2 ≤ sizeLine; decide), fun tp ntp => ⟨_, tp, [.ty "list", .ty "tuple"], .type "tuple", [.type "list", .type "tuple"], true, rfl, upd_same, .cons (.ty _) (.cons (.ty _) .nil), tyX_of (HB _ (same_new ntp)), kit2 (show kitB "tuple" "list" = some false from by decide +kernel) (show kitB "tuple" "tuple" = some true from by decide +kernel), _, rfl, iteT ?_⟩⟩
      have s1 := same_new (H := H) (o := .tup [.ty "list", .ty "tuple"]) ntp
      generalize upd H tp (.tup [.ty "list", .ty "tuple"]) = H2 at s1
      refine ⟨_, rfl, _, .ty "list", .type "tuple", .type "list", false, rfl, .ty _, tyX_of (HA _ s1), kit_ty (show kitB "tuple" "list" = some false from by decide +kernel), _, rfl, _, .ty "list", .type "tuple", .type "list", false, rfl, .ty _, tyX_of (HB _ s1), kit_ty (show kitB "tuple" "list" = some false from by decide +kernel), rfl, _, rfl, iteF ⟨_, rfl, _, .ty "tuple", .type "tuple", .type "tuple", true, rfl, .ty _, tyX_of (HA _ s1), kit_ty (show kitB "tuple" "tuple" = some true from by decide +kernel), _, rfl, _, .ty "tuple", .type "tuple", .type "tuple", true, rfl, .ty _, tyX_of (HB _ s1), kit_ty (show kitB "tuple" "tuple" = some true from by decide +kernel), rfl, _, rfl, iteF ?_⟩⟩
      refine ⟨_, rfl, a, xs, rfl, .inr (SqT.of (s1 _ _ ha)), _, rfl, b, ys, rfl, .inr (SqT.of (s1 _ _ hb)), rfl, _, rfl, ?_⟩
      rw [hl, decide_eq_true rfl]
      refine iteT ⟨_, rfl, _, rfl, a, b, xs, ys, rfl, .inr ⟨SqT.of (s1 _ _ ha), SqT.of (s1 _ _ hb), fun D hD => ?_⟩⟩
      refine lc_it (walk_zipT (K := K) (a := a) (b := b) (xs := xs) (ys := ys) (n := xs.length) (by rw [hl]; exact (Nat.min_self _).symm)) (fun i H' => Same H2 H' ∧ H' D = some (.lst (List.replicate i (.bl true)))) ⟨same_new hD, upd_same⟩ (fun i H' _ ⟨q, _⟩ => ⟨SqT.of (q _ _ (s1 _ _ ha)), SqT.of (q _ _ (s1 _ _ hb))⟩) ?_ ?_
      · rintro i x H' H'' hi ⟨q1, q2⟩ ⟨Tp, x1, y1, rfl, nT, rfl, hx, hy⟩
        refine ⟨Tp, _, rfl, SqT.of upd_same, rfl, _, _, rfl, _, _, rfl, rfl, rfl, ?_⟩
        have q3 := q1.trans (same_new (o := .tup [x1, y1]) nT)
        have Dn : D ≠ Tp := ne_of_none q2 nT
        refine iteT (B := Same H2 (upd H' Tp (.tup [x1, y1])) ∧ upd H' Tp (.tup [x1, y1]) D = some (.lst (List.replicate (i + 1) (.bl true)))) ⟨_, rfl, _, rfl, x1, y1, rfl, .inl (sm_same (s1.trans q3) (hk i x1 y1 hx hy)), fun H3 s3 => ⟨_, s3 _ _ (by rw [upd_ne Dn]; exact q2), ?_, same_wr (q3.trans s3) hD, ?_⟩⟩
        · rw [List.length_replicate]
          exact Nat.lt_of_lt_of_le hi (Nat.le_trans hz (by decide))
        · rw [upd_same, List.replicate_succ']
      · rintro H' ⟨q1, q2⟩
        refine ⟨D, List.replicate xs.length true, rfl, SqL.of (by rw [q2, List.map_replicate]), ?_⟩
        rw [all_rep]
        exact k _ (s1.trans q1)
  · obtain ⟨m, rfl⟩ : ∃ m, n = m + 1 := ⟨n - 1, by omega⟩
    have HT : ∀ H2, Same H H2 → tyN H2 (.ref a) "dict" := fun H2 s => .inr (.inr ⟨rfl, kvs, s _ _ hd⟩)
    refine ⟨_, rfl, (by show 2 ≤ sizeLine; decide), fun tp ntp => ⟨_, tp, [.ty "list", .ty "tuple"], .type "dict", [.type "list", .type "tuple"], false, rfl, upd_same, .cons (.ty _) (.cons (.ty _) .nil), tyX_of (HT _ (same_new ntp)), kit2 (show kitB "dict" "list" = some false from by decide +kernel) (show kitB "dict" "tuple" = some false from by decide +kernel), _, rfl, iteF ?_⟩⟩
    have s1 := same_new (H := H) (o := .tup [.ty "list", .ty "tuple"]) ntp
    generalize upd H tp (.tup [.ty "list", .ty "tuple"]) = H2 at s1
    refine ⟨_, rfl, _, .ty "dict", .type "dict", .type "dict", true, rfl, .ty _, tyX_of (HT _ s1), kit_ty (show kitB "dict" "dict" = some true from by decide +kernel), _, rfl, iteT ?_⟩
    refine ⟨_, rfl, _, .ty "dict", .type "dict", .type "dict", true, rfl, .ty _, tyX_of (HT _ s1), kit_ty (show kitB "dict" "dict" = some true from by decide +kernel), _, rfl, iteF ?_⟩
    refine ⟨_, rfl, a, kvs, rfl, .inl (s1 _ _ hd), fun p np => ?_⟩
    have s2 := s1.trans (same_new (o := .lst (kvs.map fun kv => kV kv.1)) np)
    have p2 : upd H2 p (.lst (kvs.map fun kv => kV kv.1)) p = some (.lst (kvs.map fun kv => kV kv.1)) := upd_same
    generalize upd H2 p (.lst (kvs.map fun kv => kV kv.1)) = H3 at s2 p2
    refine ⟨_, rfl, a, kvs, rfl, .inl (s2 _ _ hd), fun q nq => ?_⟩
    have s3 := s2.trans (same_new (o := .lst (kvs.map fun kv => kV kv.1)) nq)
    have q3 : upd H3 q (.lst (kvs.map fun kv => kV kv.1)) q = some (.lst (kvs.map fun kv => kV kv.1)) := upd_same
    have p3 : upd H3 q (.lst (kvs.map fun kv => kV kv.1)) p = some (.lst (kvs.map fun kv => kV kv.1)) := same_new nq _ _ p2
    generalize upd H3 q (.lst (kvs.map fun kv => kV kv.1)) = H4 at s3 q3 p3
    have smk : Sm H4 (m + 1) (.ref p) (.ref q) := .inr ⟨p, q, _, _, rfl, rfl, rfl, (by rw [List.length_map]; exact hz), fun i x y hx hy => (by
      rw [hx] at hy
      cases hy
      rw [List.getElem?_map] at hx
      cases e : kvs[i]? with
      | none =>
        rw [e] at hx
        cases hx
      | some kv =>
        rw [e] at hx
        have ex : kV kv.1 = x := Option.some.inj hx
        obtain ⟨⟨s, es⟩, _⟩ := hks kv (List.mem_of_getElem? e)
        rw [← ex, es]
        exact sm_flat (v := .str s) True.intro m), .inl ⟨p3, q3⟩⟩
    refine ⟨_, _, rfl, .inl smk, fun H5 s5 => ⟨_, rfl, iteF ?_⟩⟩
    have d5 : H5 a = some (.dK kvs) := s5 _ _ (s3 _ _ hd)
    refine ⟨a, .dK kvs, d5, True.intro, fun od => ?_⟩
    have aD : ∀ {D : Addr}, upd H5 a (.frz od (.dK kvs)) D = none → a ≠ D := fun {D} h => ne_of_none (upd_same (H := H5) (a := a) (o := .frz od (.dK kvs))) h
    refine ⟨_, rfl, a, od, rfl, .inl ⟨kvs, upd_same, fun D hD => ?_⟩⟩
    refine lc_it (walk_keys (d := a) (o := od) (kvs := kvs)) (fun i H' => H' a = some (.frz od (.dK kvs)) ∧ (∀ b o, H5 b = some o → b ≠ a → H' b = some o) ∧ H' D = some (.lst (List.replicate i (.bl true))))
      ⟨by rw [upd_ne (aD hD)]; exact upd_same, fun b o e ne => by rw [upd_ne (fun z => by rw [z] at e; rw [upd_ne (Ne.symm (aD hD))] at hD; rw [hD] at e; cases e), upd_ne ne]; exact e, upd_same⟩ (fun i H' _ q => q.1) ?_ ?_
    · rintro i x H' H'' hi ⟨q1, q2, qD⟩ ⟨rfl, k1, v1, ek, rfl⟩
      obtain ⟨_, fv⟩ := hks _ (List.mem_of_getElem? ek)
      have ev : valV kvs k1 = some v1 := valV_at hn ek
      have dg : DGet H'' a (kV k1) (some v1) := .inl ⟨kvs, k1, .inr ⟨od, q1⟩, rfl, ev.symm⟩
      have nD : H5 D = none := by
        rw [upd_ne (Ne.symm (aD hD))] at hD
        exact hD
      refine ⟨rfl, ?_⟩
      refine iteT (B := H'' a = some (.frz od (.dK kvs)) ∧ (∀ b o, H5 b = some o → b ≠ a → H'' b = some o) ∧ H'' D = some (.lst (List.replicate (i + 1) (.bl true)))) ?_
      refine ⟨_, rfl, _, rfl, a, _, rfl, dg, _, rfl, _, rfl, a, _, rfl, dg, _, _, rfl, .inl (sm_flat fv _), fun H6 s6 => ⟨_, s6 _ _ qD, ?_, (by rw [upd_ne (aD hD)]; exact s6 _ _ q1), fun b o e ne => (by rw [upd_ne (ne_of_none e nD)]; exact s6 _ _ (q2 b o e ne)), ?_⟩⟩
      · rw [List.length_replicate]
        exact Nat.lt_of_lt_of_le hi (Nat.le_trans hz (by decide))
      · rw [upd_same, List.replicate_succ']
    · rintro H' ⟨q1, q2, qD⟩
      refine ⟨D, List.replicate kvs.length true, rfl, SqL.of (by rw [qD, List.map_replicate]), ?_⟩
      rw [all_rep]
      refine ⟨q1, k _ fun b o e => ?_⟩
      by_cases z : b = a
      · rw [z, hd] at e
        cases e
        rw [z]
        exact upd_same
      · rw [upd_ne z]
        exact q2 b o (s5 _ _ (s3 _ _ e)) z
/-- _law_same, so deep -/
theorem ok_same (F : FnP K "_law_same" s_law_same f fd) (T : Tx K mg) (gS : mg "_law_same" = some (.ref f)) : ∀ n : Nat, FnOk P w K mg base CX0 (n + 1) f fd ["found", "due"] (spSame K n)
  | 0 => ok_same0 F T
  | n + 1 => ok_sameS F T gS (ok_same F T gS n)
end
end K89

set_option Elab.async false
set_option linter.all false
set_option maxRecDepth 100000
set_option maxHeartbeats 4000000
namespace K89
open PySem PySem.Spec PyProof.Rows L2 EV He
def spBetween : Sp := fun vs H Q _ => ∃ (p q : Addr) (n lo hi : Int), vs = [.ref p, .int lo, .int hi] ∧ Dw H p q n ∧ n < 1000000000 ∧ hi - lo < 1000000 ∧ ∀ r H', Kp p q H H' → Dw H' p q (n + 1) → Q (.int r) H'
/-- a drawn thing -/
def Th (H H' : Hp) (v : V) : Prop := Fl v ∨ (∃ (t : Addr) (i : Int), v = .ref t ∧ H' t = some (.tup [.int 1, .int i]) ∧ H t = none) ∨
  (∃ (l b : Addr) (i : Int), v = .ref l ∧ H' l = some (.lst [.int i, .ref b]) ∧ H' b = some (.lst [.int 1]) ∧ H l = none ∧ H b = none ∧ l ≠ b) ∨
  ∃ (d : Addr) (i : Int), v = .ref d ∧ H' d = some (.dK [(Sum.inr ("a" : PySem.Str), .int i)]) ∧ H d = none
def spObject : Sp := fun vs H Q _ => ∃ (p q : Addr) (n : Int), vs = [.ref p] ∧ Dw H p q n ∧ n < 999999900 ∧ ∀ v H' m, Kp p q H H' → Dw H' p q m → m ≤ n + 10 → Th H H' v → Q v H'
theorem Dw.p {H : Hp} {p q : Addr} {n : Int} (h : Dw H p q n) : H p ≠ none := by
  obtain ⟨_, _, _, e, _⟩ := h.ex
  rw [e]
  exact fun z => nomatch z
theorem Dw.q {H : Hp} {p q : Addr} {n : Int} (h : Dw H p q n) : H q ≠ none := by
  obtain ⟨_, _, _, _, e, _⟩ := h.ex
  rw [e]
  exact fun z => nomatch z
/-- a new object: the draws' state stands -/
theorem Dw.new {H : Hp} {p q a : Addr} {o : HO} {n : Int} (h : Dw H p q n) (ha : H a = none) : Dw (upd H a o) p q n := by
  obtain ⟨⟨cells, cur, mix, e1, e2, r⟩, n0⟩ := h
  exact ⟨⟨cells, cur, mix, by rw [upd_ne (ne_of_none e1 ha)]; exact e1, by rw [upd_ne (ne_of_none e2 ha)]; exact e2, r⟩, n0⟩
theorem Dw.wr {H : Hp} {p q a : Addr} {o : HO} {n : Int} (h : Dw H p q n) (h1 : a ≠ p) (h2 : a ≠ q) : Dw (upd H a o) p q n := by
  obtain ⟨⟨cells, cur, mix, e1, e2, r⟩, n0⟩ := h
  exact ⟨⟨cells, cur, mix, by rw [upd_ne h1.symm]; exact e1, by rw [upd_ne h2.symm]; exact e2, r⟩, n0⟩
theorem Kp.free {p q a : Addr} {H H' : Hp} {n : Int} (k : Kp p q H H') (d : Dw H p q n) (h : H' a = none) (d' : Dw H' p q n ∨ a ≠ p ∧ a ≠ q) : H a = none := by
  cases e : H a with
  | none => rfl
  | some o =>
    by_cases z1 : a = p
    · rcases d' with d' | d'
      · rw [z1] at h
        exact absurd h d'.p
      · exact absurd z1 d'.1
    · by_cases z2 : a = q
      · rcases d' with d' | d'
        · rw [z2] at h
          exact absurd h d'.q
        · exact absurd z2 d'.2
      · rw [k a o e z1 z2] at h
        cases h
theorem dw_ne {H : Hp} {p q a : Addr} {n : Int} (d : Dw H p q n) (h : H a = none) : a ≠ p ∧ a ≠ q := ⟨fun z => d.p (by rw [← z]; exact h), fun z => d.q (by rw [← z]; exact h)⟩
theorem kp_free {p q a : Addr} {H H' : Hp} {m : Int} (k : Kp p q H H') (d : Dw H' p q m) (h : H' a = none) : H a = none := by
  cases e : H a with
  | none => rfl
  | some o =>
    have z := dw_ne d h
    rw [k a o e z.1 z.2] at h
    cases h
section
variable {P : Program} {w : World} {K : PySem.W.Frag} {mg : PySem.Str → Option Value} {base : Heap} {f fP fB : Addr} {fd dP dB : FuncData}
theorem boot_max : bootBuiltins "max" = some (.builtin "max") := by decide +kernel
theorem sc_between : FnScope ["state", "low", "high"] ["state", "low", "high"] (defScope s_law_between) := ⟨rfl, rfl, rfl, by decide +kernel, rfl, by decide +kernel, by decide +kernel⟩
theorem ok_between (F : FnP K "_law_between" s_law_between f fd) (T : Tx K mg) (FP : FnP K "_law_pick" s_law_pick fP dP) (gP : mg "_law_pick" = some (.ref fP)) (G : FnOk P w K mg base CX0 1 fP dP ["state", "many"] spPick) :
    FnOk P w K mg base CX0 2 f fd ["state", "low", "high"] spBetween := by
  have bP : Binds K dP ["state", "many"] [] := FP.bindsN fun _ _ _ _ _ _ us hl => match us, hl with | [_, _], _ => rfl
  refine F.ok sc_between (fun vs H Q E h => by obtain ⟨p, q, n, lo, hi, rfl, _⟩ := h; rfl) (fun cdv A outer s H vs Q E hrP h => ⟨_, PSs.nox
    (pss_one (ps_ret (pe_op op_add (pv 1) (pe_call G (hrP) (by rfl) gP FP.kp bP .nil pass0 (pa_cons (pv 0) (pa_cons (pe_op op_add (pe_callB (call_max2 rfl) (by rfl) (T.fr "max" (by decide +kernel)) boot_max (pa_cons (pe_op op_sub (pv 2) (pv 1)) (pa_cons pe_int pa_nil))) pe_int) pa_nil)))))), ?_⟩)
  obtain ⟨p, q, n, lo, hi, rfl, d, n1, hl, k⟩ := h
  refine ⟨_, rfl, _, rfl, _, rfl, _, rfl, _, _, rfl, rfl, _, _, rfl, _, _, rfl, rfl, p, q, n, _, rfl, d, n1, ?_, ?_, fun r H' r0 r1 kp d' => ⟨_, _, rfl, rfl, k _ _ kp d'⟩⟩
  · show (1 : Int) ≤ (if (0 : Int) > hi - lo then 0 else hi - lo) + 1
    split <;> omega
  · show (if (0 : Int) > hi - lo then 0 else hi - lo) + 1 < 1073741824
    split <;> omega
theorem str_short : ∀ k : _root_.Fin 99, (PySem.Str.ofString (toString ((k.val : Nat) : Int))).length ≤ 3 := by decide +kernel
theorem sc_object : FnScope ["state", "some", "kind"] ["state"] (defScope s_law_object) := ⟨rfl, rfl, rfl, by decide +kernel, rfl, by decide +kernel, by decide +kernel⟩
theorem ok_object (F : FnP K "_law_object" s_law_object f fd) (T : Tx K mg) (FP : FnP K "_law_pick" s_law_pick fP dP) (gP : mg "_law_pick" = some (.ref fP)) (G : FnOk P w K mg base CX0 1 fP dP ["state", "many"] spPick)
    (FB : FnP K "_law_between" s_law_between fB dB) (gB : mg "_law_between" = some (.ref fB)) : FnOk P w K mg base CX0 3 f fd ["state"] spObject := by
  have bP : Binds K dP ["state", "many"] [] := FP.bindsN fun _ _ _ _ _ _ us hl => match us, hl with | [_, _], _ => rfl
  have bB : Binds K dB ["state", "low", "high"] [] := FB.bindsN fun _ _ _ _ _ _ us hl => match us, hl with | [_, _, _], _ => rfl
  have GB := ok_between FB T FP gP G
  refine F.ok sc_object (fun vs H Q E h => by obtain ⟨p, q, n, rfl, _⟩ := h; rfl) (fun cdv A outer s H vs Q E hrB h => ⟨_, PSs.nox
    (pss_cons (ps_set (i := 1) sc_object.nd rfl (Or.inl rfl) (pe_lst (pa_cons (pe_call GB hrB (by rfl) gB FB.kp bB .nil pass0 (pa_cons (pv 0) (pa_cons (pe_un un_neg pe_int) (pa_cons pe_int pa_nil)))) (pa_cons (pe_op op_add_str pe_str (pe_callTy call_str_int (by rfl) (T.fr "str" (by decide +kernel)) boot_str (pa_cons (pe_call G (hrB.mono (by decide)) (by rfl) gP FP.kp bP .nil pass0 (pa_cons (pv 0) (pa_cons pe_int pa_nil))) pa_nil))) (pa_cons pe_non (pa_cons (pe_cmpR op_eq (pe_call G (hrB.mono (by decide)) (by rfl) gP FP.kp bP .nil pass0 (pa_cons (pv 0) (pa_cons pe_int pa_nil))) pe_int (nomark _)) (pa_cons (pe_tup (pa_cons pe_int (pa_cons (pe_call G (hrB.mono (by decide)) (by rfl) gP FP.kp bP .nil pass0 (pa_cons (pv 0) (pa_cons pe_int pa_nil))) pa_nil))) pa_nil)))))))
    (pss_cons (ps_set (i := 2) sc_object.nd rfl (Or.inl rfl) (pe_call G (hrB.mono (by decide)) (by rfl) gP FP.kp bP .nil pass0 (pa_cons (pv 0) (pa_cons pe_int pa_nil))))
    (pss_cons (ps_if (pt_cmpR op_lt (pv 2) pe_int (nomark _)) (pss_one (ps_ret (pe_ix ix_list (pv 1) (pv 2) (fun _ _ => rfl)))) pss_nil)
    (pss_one (ps_ret (pe_ifExp (pt_cmpR op_eq (pv 2) pe_int (nomark _)) (pe_lst (pa_cons (pe_call G (hrB.mono (by decide)) (by rfl) gP FP.kp bP .nil pass0 (pa_cons (pv 0) (pa_cons pe_int pa_nil))) (pa_cons (pe_lst (pa_cons pe_int pa_nil)) pa_nil))) (pe_disp (pps_cons pe_str (pe_call G (hrB.mono (by decide)) (by rfl) gP FP.kp bP .nil pass0 (pa_cons (pv 0) (pa_cons pe_int pa_nil))) pps_nil) (by rfl) (by rfl) (fun z => by cases z) (by decide)))))))), ?_⟩)
  obtain ⟨p, q, n, rfl, d, n1, k⟩ := h
  refine ⟨_, rfl, _, rfl, p, q, n, _, _, rfl, d, by omega, by decide, fun r1 H1 k1 d1 => ?_⟩
  refine ⟨_, rfl, p, q, n + 1, _, rfl, d1, by omega, by decide, by decide, fun r2 H2 a2 b2 k2 d2 => ?_⟩
  obtain ⟨m2, rfl⟩ : ∃ m : Nat, r2 = (m : Int) := ⟨r2.toNat, by omega⟩
  have hm2 : m2 < 99 := by omega
  refine ⟨_, rfl, ?_, _, _, rfl, rfl, ?_, ?_⟩
  · rw [Int.natAbs_natCast]
    exact Nat.lt_of_le_of_lt (Nat.log2_le_self m2) (by omega)
  · have z : (PySem.Str.ofString (toString (m2 : Int))).length ≤ 3 := str_short ⟨m2, hm2⟩
    refine Nat.le_trans (Nat.add_le_add_left z _) ?_
    decide
  refine ⟨_, rfl, p, q, n + 1 + 1, _, rfl, d2, by omega, by decide, by decide, fun r3 H3 a3 b3 k3 d3 => ⟨rfl, ?_⟩⟩
  refine ⟨_, rfl, p, q, n + 1 + 1 + 1, _, rfl, d3, by omega, by decide, by decide, fun r4 H4 a4 b4 k4 d4 => ⟨(by show 2 ≤ sizeLine; decide), fun t nt => ⟨(by show 5 ≤ sizeLine; decide), fun l nl => ?_⟩⟩⟩
  have kA := ((k1.trans k2).trans k3).trans k4
  have t0 : H t = none := kp_free kA d4 nt
  have tt : upd H4 t (.tup [.int 1, .int r4]) t = some (.tup [.int 1, .int r4]) := upd_same
  have kB := kA.trans (Kp.new (p := p) (q := q) (o := .tup [.int 1, .int r4]) nt)
  have d5 := d4.new (o := .tup [.int 1, .int r4]) nt
  generalize upd H4 t (.tup [.int 1, .int r4]) = H5 at tt kB d5 nl
  generalize hL : [V.int r1, _, V.non, _, V.ref t] = L
  have ll : upd H5 l (.lst L) l = some (.lst L) := upd_same
  have t5 : upd H5 l (.lst L) t = some (.tup [.int 1, .int r4]) := by
    rw [upd_ne (ne_of_none tt nl)]
    exact tt
  have kC := kB.trans (Kp.new (p := p) (q := q) (o := .lst L) nl)
  have d6 := d5.new (o := .lst L) nl
  have lne := dw_ne d5 nl
  generalize upd H5 l (.lst L) = H6 at ll t5 kC d6
  refine ⟨_, rfl, p, q, n + 1 + 1 + 1 + 1, _, rfl, d6, by omega, by decide, by decide, fun r5 H7 a5 b5 k5 d7 => ?_⟩
  have l7 := k5 _ _ ll lne.1 lne.2
  have tne := dw_ne d4 nt
  have t7 := k5 _ _ t5 tne.1 tne.2
  have kD := kC.trans k5
  refine ⟨_, rfl, _, _, rfl, rfl, _, rfl, ite2 (fun c => ?_) (fun c => ?_)⟩
  · have c1 : r5 < 5 := of_decide_eq_true c
    subst hL
    have hr5 : r5 = 0 ∨ r5 = 1 ∨ r5 = 2 ∨ r5 = 3 ∨ r5 = 4 := by omega
    rcases hr5 with rfl | rfl | rfl | rfl | rfl
    · exact ⟨_, rfl, _, rfl, l, _, _, _, rfl, rfl, SqL.of l7, rfl, k _ _ _ kD d7 (by omega) (.inl True.intro)⟩
    · exact ⟨_, rfl, _, rfl, l, _, _, _, rfl, rfl, SqL.of l7, rfl, k _ _ _ kD d7 (by omega) (.inl True.intro)⟩
    · exact ⟨_, rfl, _, rfl, l, _, _, _, rfl, rfl, SqL.of l7, rfl, k _ _ _ kD d7 (by omega) (.inl True.intro)⟩
    · exact ⟨_, rfl, _, rfl, l, _, _, _, rfl, rfl, SqL.of l7, rfl, k _ _ _ kD d7 (by omega) (.inl True.intro)⟩
    · exact ⟨_, rfl, _, rfl, l, _, _, _, rfl, rfl, SqL.of l7, rfl, k _ _ _ kD d7 (by omega) (.inr (.inl ⟨t, r4, rfl, t7, t0⟩))⟩
  · refine ⟨_, rfl, rfl, _, rfl, ite2 (fun c2 => ?_) (fun c2 => ?_)⟩
    · refine ⟨_, rfl, p, q, n + 1 + 1 + 1 + 1 + 1, _, rfl, d7, by omega, by decide, by decide, fun r6 H8 a6 b6 k6 d8 => ⟨(by show 1 ≤ sizeLine; decide), fun b nb => ⟨(by show 2 ≤ sizeLine; decide), fun l2 nl2 => ?_⟩⟩⟩
      have kE := kD.trans k6
      have b0 := kp_free kE d8 nb
      have bb : upd H8 b (.lst [.int 1]) b = some (.lst [.int 1]) := upd_same
      have kF := kE.trans (Kp.new (p := p) (q := q) (o := .lst [.int 1]) nb)
      have d9 := d8.new (o := .lst [.int 1]) nb
      have l0 := kp_free kF d9 nl2
      have lb : b ≠ l2 := ne_of_none bb nl2
      exact k _ _ _ (kF.trans (Kp.new nl2)) (d9.new nl2) (by omega) (.inr (.inr (.inl ⟨l2, b, r6, rfl, upd_same, by rw [upd_ne lb]; exact bb, l0, b0, lb.symm⟩)))
    · intro dd nd
      have e0 := kp_free kD d7 nd
      have dne := dw_ne d7 nd
      refine ⟨_, rfl, p, q, n + 1 + 1 + 1 + 1 + 1, _, rfl, d7.new nd, by omega, by decide, by decide, fun r6 H8 a6 b6 k6 d8 => ?_⟩
      refine ⟨k6 _ _ upd_same dne.1 dne.2, [(Sum.inr ("a" : PySem.Str), .int r6)], rfl, (by show 1 ≤ 15; decide), ?_⟩
      have kG : Kp p q H H8 := (kD.trans (Kp.new (p := p) (q := q) (o := .dK []) nd)).trans k6
      exact k _ _ _ (fun c o h1 h2 h3 => by rw [upd_ne (ne_of_none h1 e0)]; exact kG c o h1 h2 h3) (d8.wr dne.1 dne.2) (by omega) (.inr (.inr (.inr ⟨dd, r6, rfl, upd_same, e0⟩)))
end
end K89

set_option Elab.async false
set_option linter.all false
set_option maxRecDepth 100000
set_option maxHeartbeats 4000000
namespace K89
open PySem PySem.Spec PyProof.Rows L2 EV He
def og0 : List PySem.Str := ["BadBegin", "BadDark", "BadDesk", "BadDeskText", "BadDrop", "BadEdit", "BadEnd", "BadFlips", "BadFormula", "BadLamp", "BadLit"]
def og1 : List PySem.Str := ["BadPanels", "BadPrices", "BadShare", "BadShared", "BadSums", "BadWires", "BadWishes", "DarkPanels", "NothingToRedo", "NothingToUndo"]
def og2 : List PySem.Str := ["BadCode", "BadLamps", "BadLog", "BadLogText", "BadMachine", "BadMachineText", "BadMove", "BadMoves", "BadName", "BadNets", "BadRuns", "BadStates", "BadWalk"]
def og3 : List PySem.Str := ["BadBursts", "BadCell", "BadClash", "BadCube", "BadCubes", "BadIndex", "BadLevers", "BadMany", "BadNumber", "BadOff"]
def og4 : List PySem.Str := ["BadOn", "BadOther", "BadPanel", "BadPanelText", "BadPath", "BadSign", "BadStep", "BadSteps", "BadTable"]
def onm : List PySem.Str := og0 ++ og1 ++ og2 ++ og3 ++ og4
def othB (x : PySem.Str) : Bool := (og0.any fun y => decide (x = y)) || (og1.any fun y => decide (x = y)) || (og2.any fun y => decide (x = y)) || (og3.any fun y => decide (x = y)) || (og4.any fun y => decide (x = y))
def spOther (K : PySem.W.Frag) : Sp := fun vs H Q _ => ∃ (a : Addr) (x : PySem.Str), vs = [.ref a] ∧ x ∈ names ∧ IsEr H a (ga K x) ∧ ∀ H', Same H H' → Q (.bl (othB x)) H'
theorem paired_own {K : PySem.W.Frag} : ∀ ys : List PySem.Str, Paired ClsV (ys.map fun y => V.ref (ga K y)) (ys.map fun y => Value.ref (ga K y))
  | [] => .nil
  | y :: r => .cons (.own _) (paired_own r)
theorem Tx.any {K : PySem.W.Frag} {mg : PySem.Str → Option Value} (T : Tx K mg) {x : PySem.Str} (hx : x ∈ names) : ∀ ys : List PySem.Str, (∀ y ∈ ys, y ∈ names ∧ y ≠ pE) → PySem.W.kitAny K (.ref (ga K x)) (ys.map fun y => Value.ref (ga K y)) = some (ys.any fun y => decide (x = y))
  | [], _ => rfl
  | y :: r, h => by
    obtain ⟨h1, h2⟩ := h y List.mem_cons_self
    have e := T.kit hx h1
    rw [decide_eq_false h2, Bool.or_false] at e
    refine kitAny_cons e (fun c => ?_) fun c => ?_
    · rw [List.any_cons, c, Bool.false_or]
      exact T.any hx r fun z hz => h z (List.mem_cons_of_mem _ hz)
    · rw [List.any_cons, c, Bool.true_or]
section
variable {P : Program} {w : World} {K : PySem.W.Frag} {mg : PySem.Str → Option Value} {base : Heap} {f f2 : Addr} {fd d2 : FuncData}
theorem sc_is_other : FnScope ["e", "told"] ["e"] (defScope s_law_is_other) := ⟨rfl, rfl, rfl, by decide +kernel, rfl, by decide +kernel, by decide +kernel⟩
theorem ok_is_other (F : FnP K "_law_is_other" s_law_is_other f fd) (T : Tx K mg) : FnOk P w K mg base CX0 1 f fd ["e"] (spOther K) := by
  refine F.ok sc_is_other (fun vs H Q E h => by obtain ⟨a, x, rfl, _⟩ := h; rfl) (fun cdv A outer s H vs Q E hr h => ⟨_, PSs.nox
    (pss_cons (ps_set (i := 1) sc_is_other.nd rfl (Or.inl rfl) (pe_lst (pa_cons (pe_callB call_isErT (by rfl) (T.fr "isinstance" (by decide +kernel)) boot_isinstance (pa_cons (pv 0) (pa_cons (pe_tup (pa_cons (pe_glob (v := .ref (ga K "BadBegin")) (by rfl) (T.gb (x := "BadBegin") (by decide +kernel)) rfl) (pa_cons (pe_glob (v := .ref (ga K "BadDark")) (by rfl) (T.gb (x := "BadDark") (by decide +kernel)) rfl) (pa_cons (pe_glob (v := .ref (ga K "BadDesk")) (by rfl) (T.gb (x := "BadDesk") (by decide +kernel)) rfl) (pa_cons (pe_glob (v := .ref (ga K "BadDeskText")) (by rfl) (T.gb (x := "BadDeskText") (by decide +kernel)) rfl) (pa_cons (pe_glob (v := .ref (ga K "BadDrop")) (by rfl) (T.gb (x := "BadDrop") (by decide +kernel)) rfl) (pa_cons (pe_glob (v := .ref (ga K "BadEdit")) (by rfl) (T.gb (x := "BadEdit") (by decide +kernel)) rfl) (pa_cons (pe_glob (v := .ref (ga K "BadEnd")) (by rfl) (T.gb (x := "BadEnd") (by decide +kernel)) rfl) (pa_cons (pe_glob (v := .ref (ga K "BadFlips")) (by rfl) (T.gb (x := "BadFlips") (by decide +kernel)) rfl) (pa_cons (pe_glob (v := .ref (ga K "BadFormula")) (by rfl) (T.gb (x := "BadFormula") (by decide +kernel)) rfl) (pa_cons (pe_glob (v := .ref (ga K "BadLamp")) (by rfl) (T.gb (x := "BadLamp") (by decide +kernel)) rfl) (pa_cons (pe_glob (v := .ref (ga K "BadLit")) (by rfl) (T.gb (x := "BadLit") (by decide +kernel)) rfl) pa_nil)))))))))))) pa_nil))) pa_nil)))
    (pss_cons (ps_expr (pe_bm PySem.F.plainAttrs_list PySem.F.slot_list_append PySem.F.type_list_append mt_append (pv 1) (pa_cons (pe_callB call_isErT (by rfl) (T.fr "isinstance" (by decide +kernel)) boot_isinstance (pa_cons (pv 0) (pa_cons (pe_tup (pa_cons (pe_glob (v := .ref (ga K "BadPanels")) (by rfl) (T.gb (x := "BadPanels") (by decide +kernel)) rfl) (pa_cons (pe_glob (v := .ref (ga K "BadPrices")) (by rfl) (T.gb (x := "BadPrices") (by decide +kernel)) rfl) (pa_cons (pe_glob (v := .ref (ga K "BadShare")) (by rfl) (T.gb (x := "BadShare") (by decide +kernel)) rfl) (pa_cons (pe_glob (v := .ref (ga K "BadShared")) (by rfl) (T.gb (x := "BadShared") (by decide +kernel)) rfl) (pa_cons (pe_glob (v := .ref (ga K "BadSums")) (by rfl) (T.gb (x := "BadSums") (by decide +kernel)) rfl) (pa_cons (pe_glob (v := .ref (ga K "BadWires")) (by rfl) (T.gb (x := "BadWires") (by decide +kernel)) rfl) (pa_cons (pe_glob (v := .ref (ga K "BadWishes")) (by rfl) (T.gb (x := "BadWishes") (by decide +kernel)) rfl) (pa_cons (pe_glob (v := .ref (ga K "DarkPanels")) (by rfl) (T.gb (x := "DarkPanels") (by decide +kernel)) rfl) (pa_cons (pe_glob (v := .ref (ga K "NothingToRedo")) (by rfl) (T.gb (x := "NothingToRedo") (by decide +kernel)) rfl) (pa_cons (pe_glob (v := .ref (ga K "NothingToUndo")) (by rfl) (T.gb (x := "NothingToUndo") (by decide +kernel)) rfl) pa_nil))))))))))) pa_nil))) pa_nil)))
    (pss_cons (ps_expr (pe_bm PySem.F.plainAttrs_list PySem.F.slot_list_append PySem.F.type_list_append mt_append (pv 1) (pa_cons (pe_callB call_isErT (by rfl) (T.fr "isinstance" (by decide +kernel)) boot_isinstance (pa_cons (pv 0) (pa_cons (pe_tup (pa_cons (pe_glob (v := .ref (ga K "BadCode")) (by rfl) (T.gb (x := "BadCode") (by decide +kernel)) rfl) (pa_cons (pe_glob (v := .ref (ga K "BadLamps")) (by rfl) (T.gb (x := "BadLamps") (by decide +kernel)) rfl) (pa_cons (pe_glob (v := .ref (ga K "BadLog")) (by rfl) (T.gb (x := "BadLog") (by decide +kernel)) rfl) (pa_cons (pe_glob (v := .ref (ga K "BadLogText")) (by rfl) (T.gb (x := "BadLogText") (by decide +kernel)) rfl) (pa_cons (pe_glob (v := .ref (ga K "BadMachine")) (by rfl) (T.gb (x := "BadMachine") (by decide +kernel)) rfl) (pa_cons (pe_glob (v := .ref (ga K "BadMachineText")) (by rfl) (T.gb (x := "BadMachineText") (by decide +kernel)) rfl) (pa_cons (pe_glob (v := .ref (ga K "BadMove")) (by rfl) (T.gb (x := "BadMove") (by decide +kernel)) rfl) (pa_cons (pe_glob (v := .ref (ga K "BadMoves")) (by rfl) (T.gb (x := "BadMoves") (by decide +kernel)) rfl) (pa_cons (pe_glob (v := .ref (ga K "BadName")) (by rfl) (T.gb (x := "BadName") (by decide +kernel)) rfl) (pa_cons (pe_glob (v := .ref (ga K "BadNets")) (by rfl) (T.gb (x := "BadNets") (by decide +kernel)) rfl) (pa_cons (pe_glob (v := .ref (ga K "BadRuns")) (by rfl) (T.gb (x := "BadRuns") (by decide +kernel)) rfl) (pa_cons (pe_glob (v := .ref (ga K "BadStates")) (by rfl) (T.gb (x := "BadStates") (by decide +kernel)) rfl) (pa_cons (pe_glob (v := .ref (ga K "BadWalk")) (by rfl) (T.gb (x := "BadWalk") (by decide +kernel)) rfl) pa_nil)))))))))))))) pa_nil))) pa_nil)))
    (pss_cons (ps_expr (pe_bm PySem.F.plainAttrs_list PySem.F.slot_list_append PySem.F.type_list_append mt_append (pv 1) (pa_cons (pe_callB call_isErT (by rfl) (T.fr "isinstance" (by decide +kernel)) boot_isinstance (pa_cons (pv 0) (pa_cons (pe_tup (pa_cons (pe_glob (v := .ref (ga K "BadBursts")) (by rfl) (T.gb (x := "BadBursts") (by decide +kernel)) rfl) (pa_cons (pe_glob (v := .ref (ga K "BadCell")) (by rfl) (T.gb (x := "BadCell") (by decide +kernel)) rfl) (pa_cons (pe_glob (v := .ref (ga K "BadClash")) (by rfl) (T.gb (x := "BadClash") (by decide +kernel)) rfl) (pa_cons (pe_glob (v := .ref (ga K "BadCube")) (by rfl) (T.gb (x := "BadCube") (by decide +kernel)) rfl) (pa_cons (pe_glob (v := .ref (ga K "BadCubes")) (by rfl) (T.gb (x := "BadCubes") (by decide +kernel)) rfl) (pa_cons (pe_glob (v := .ref (ga K "BadIndex")) (by rfl) (T.gb (x := "BadIndex") (by decide +kernel)) rfl) (pa_cons (pe_glob (v := .ref (ga K "BadLevers")) (by rfl) (T.gb (x := "BadLevers") (by decide +kernel)) rfl) (pa_cons (pe_glob (v := .ref (ga K "BadMany")) (by rfl) (T.gb (x := "BadMany") (by decide +kernel)) rfl) (pa_cons (pe_glob (v := .ref (ga K "BadNumber")) (by rfl) (T.gb (x := "BadNumber") (by decide +kernel)) rfl) (pa_cons (pe_glob (v := .ref (ga K "BadOff")) (by rfl) (T.gb (x := "BadOff") (by decide +kernel)) rfl) pa_nil))))))))))) pa_nil))) pa_nil)))
    (pss_cons (ps_expr (pe_bm PySem.F.plainAttrs_list PySem.F.slot_list_append PySem.F.type_list_append mt_append (pv 1) (pa_cons (pe_callB call_isErT (by rfl) (T.fr "isinstance" (by decide +kernel)) boot_isinstance (pa_cons (pv 0) (pa_cons (pe_tup (pa_cons (pe_glob (v := .ref (ga K "BadOn")) (by rfl) (T.gb (x := "BadOn") (by decide +kernel)) rfl) (pa_cons (pe_glob (v := .ref (ga K "BadOther")) (by rfl) (T.gb (x := "BadOther") (by decide +kernel)) rfl) (pa_cons (pe_glob (v := .ref (ga K "BadPanel")) (by rfl) (T.gb (x := "BadPanel") (by decide +kernel)) rfl) (pa_cons (pe_glob (v := .ref (ga K "BadPanelText")) (by rfl) (T.gb (x := "BadPanelText") (by decide +kernel)) rfl) (pa_cons (pe_glob (v := .ref (ga K "BadPath")) (by rfl) (T.gb (x := "BadPath") (by decide +kernel)) rfl) (pa_cons (pe_glob (v := .ref (ga K "BadSign")) (by rfl) (T.gb (x := "BadSign") (by decide +kernel)) rfl) (pa_cons (pe_glob (v := .ref (ga K "BadStep")) (by rfl) (T.gb (x := "BadStep") (by decide +kernel)) rfl) (pa_cons (pe_glob (v := .ref (ga K "BadSteps")) (by rfl) (T.gb (x := "BadSteps") (by decide +kernel)) rfl) (pa_cons (pe_glob (v := .ref (ga K "BadTable")) (by rfl) (T.gb (x := "BadTable") (by decide +kernel)) rfl) pa_nil)))))))))) pa_nil))) pa_nil)))
    (pss_one (ps_ret (pe_cmpR op_in_seq pe_bl (pv 1) (by rfl))))))))), ?_⟩)
  obtain ⟨a, x, rfl, hx, he, k⟩ := h
  have TE := excC_of T.cb (T.exc hx)
  refine ⟨_, rfl, (by show 11 ≤ sizeLine; decide), fun t0 n0 => ⟨a, ga K x, t0, _, (og0.map fun y => Value.ref (ga K y)), _, rfl, upd_same, paired_own og0, TE, isEr_same he (same_new n0), T.any hx og0 (by decide +kernel), ?_⟩⟩
  refine ⟨(by show 1 ≤ sizeLine; decide), fun l nl => ?_⟩
  have l0 : H l = none := Same.free (same_new n0) nl
  refine ⟨_, rfl, .inl ⟨rfl, _, SqL.of upd_same⟩, _, rfl, (by show 10 ≤ sizeLine; decide), fun t1 n1 => ⟨a, ga K x, t1, _, (og1.map fun y => Value.ref (ga K y)), _, rfl, upd_same, paired_own og1, TE, isEr_same he (((same_new n0).trans (same_new nl)).trans (same_new n1)), T.any hx og1 (by decide +kernel), ?_⟩⟩
  refine ⟨l, _, _, rfl, rfl, same_new n1 _ _ upd_same, (by show 1 < sizeLine; decide), ?_⟩
  refine ⟨_, rfl, .inl ⟨rfl, _, SqL.of upd_same⟩, _, rfl, (by show 13 ≤ sizeLine; decide), fun t2 n2 => ⟨a, ga K x, t2, _, (og2.map fun y => Value.ref (ga K y)), _, rfl, upd_same, paired_own og2, TE, isEr_same he ((same_wr (((same_new n0).trans (same_new nl)).trans (same_new n1)) l0).trans (same_new n2)), T.any hx og2 (by decide +kernel), ?_⟩⟩
  refine ⟨l, _, _, rfl, rfl, same_new n2 _ _ upd_same, (by show 2 < sizeLine; decide), ?_⟩
  refine ⟨_, rfl, .inl ⟨rfl, _, SqL.of upd_same⟩, _, rfl, (by show 10 ≤ sizeLine; decide), fun t3 n3 => ⟨a, ga K x, t3, _, (og3.map fun y => Value.ref (ga K y)), _, rfl, upd_same, paired_own og3, TE, isEr_same he ((same_wr ((same_wr (((same_new n0).trans (same_new nl)).trans (same_new n1)) l0).trans (same_new n2)) l0).trans (same_new n3)), T.any hx og3 (by decide +kernel), ?_⟩⟩
  refine ⟨l, _, _, rfl, rfl, same_new n3 _ _ upd_same, (by show 3 < sizeLine; decide), ?_⟩
  refine ⟨_, rfl, .inl ⟨rfl, _, SqL.of upd_same⟩, _, rfl, (by show 9 ≤ sizeLine; decide), fun t4 n4 => ⟨a, ga K x, t4, _, (og4.map fun y => Value.ref (ga K y)), _, rfl, upd_same, paired_own og4, TE, isEr_same he ((same_wr ((same_wr ((same_wr (((same_new n0).trans (same_new nl)).trans (same_new n1)) l0).trans (same_new n2)) l0).trans (same_new n3)) l0).trans (same_new n4)), T.any hx og4 (by decide +kernel), ?_⟩⟩
  refine ⟨l, _, _, rfl, rfl, same_new n4 _ _ upd_same, (by show 4 < sizeLine; decide), ?_⟩
  refine ⟨_, rfl, l, _, rfl, .inl (SqL.of upd_same), rfl, rfl, ?_⟩
  have e : inV (.bl true) [.bl (og0.any fun y => decide (x = y)), .bl (og1.any fun y => decide (x = y)), .bl (og2.any fun y => decide (x = y)), .bl (og3.any fun y => decide (x = y)), .bl (og4.any fun y => decide (x = y))] = othB x := by
    unfold othB
    generalize (og0.any fun y => decide (x = y)) = c0
    generalize (og1.any fun y => decide (x = y)) = c1
    generalize (og2.any fun y => decide (x = y)) = c2
    generalize (og3.any fun y => decide (x = y)) = c3
    generalize (og4.any fun y => decide (x = y)) = c4
    revert c0 c1 c2 c3 c4
    decide +kernel
  show Q (.bl (inV (.bl true) [.bl (og0.any fun y => decide (x = y)), .bl (og1.any fun y => decide (x = y)), .bl (og2.any fun y => decide (x = y)), .bl (og3.any fun y => decide (x = y)), .bl (og4.any fun y => decide (x = y))])) _
  rw [e]
  exact k _ (same_wr ((same_wr ((same_wr ((same_wr (((same_new n0).trans (same_new nl)).trans (same_new n1)) l0).trans (same_new n2)) l0).trans (same_new n3)) l0).trans (same_new n4)) l0)
end
end K89

set_option Elab.async false
set_option linter.all false
set_option maxRecDepth 100000
set_option maxHeartbeats 4000000
namespace K89
open PySem PySem.Spec PyProof.Rows L2 EV He
def sg0 : List (PySem.Str × PySem.Str) := [("BadBegin", "begin"), ("BadDark", "index"), ("BadDesk", "desk"), ("BadDeskText", "line"), ("BadDrop", "drop"), ("BadEdit", "edit"), ("BadEnd", "end")]
def sg1 : List (PySem.Str × PySem.Str) := [("BadFlips", "flips"), ("BadFormula", "formula"), ("BadLamp", "lamp"), ("BadLit", "index"), ("BadPanels", "index"), ("BadPrices", "prices"), ("BadShare", "share")]
def sg2 : List (PySem.Str × PySem.Str) := [("BadShared", "shared"), ("BadSums", "sums"), ("BadWires", "wires"), ("BadWishes", "index"), ("DarkPanels", "lamp"), ("BadCode", "code"), ("BadLamps", "index")]
def sg3 : List (PySem.Str × PySem.Str) := [("BadLog", "log"), ("BadLogText", "line"), ("BadMachine", "machine"), ("BadMachineText", "line"), ("BadMove", "move"), ("BadMoves", "index"), ("BadName", "name")]
def sg4 : List (PySem.Str × PySem.Str) := [("BadNets", "nets"), ("BadRuns", "index"), ("BadStates", "index"), ("BadWalk", "index"), ("BadBursts", "index"), ("BadCell", "cell"), ("BadClash", "cell")]
def sg5 : List (PySem.Str × PySem.Str) := [("BadCube", "cube"), ("BadCubes", "index"), ("BadIndex", "index"), ("BadLevers", "index"), ("BadMany", "many"), ("BadNumber", "number"), ("BadOff", "index")]
def sg6 : List (PySem.Str × PySem.Str) := [("BadOn", "index"), ("BadOther", "other"), ("BadPanel", "panel"), ("BadPanelText", "line"), ("BadPath", "path"), ("BadSign", "sign"), ("BadStep", "step")]
def sg7 : List (PySem.Str × PySem.Str) := [("BadSteps", "index"), ("BadTable", "index")]
/-- errors, of classes of L -/
def AllE (K : PySem.W.Frag) (H : Hp) (xs : List V) (L : List PySem.Str) : Prop := ∀ v ∈ xs, ∃ (a : Addr) (y : PySem.Str), v = .ref a ∧ y ∈ L ∧ IsEr H a (ga K y)
def onm3 : List PySem.Str := onm ++ [("PanelError" : PySem.Str)]
def tNews (K : PySem.W.Frag) (i : Nat) : List (PySem.Str × PySem.Str) → TA
  | [] => tNil
  | p :: r => tCons (tNew (ga K p.1) p.2 (tVar i)) (tNews K i r)
theorem allE_same {K : PySem.W.Frag} {H H' : Hp} {xs : List V} {L : List PySem.Str} (h : AllE K H xs L) (s : Same H H') : AllE K H' xs L := fun v hv => by
  obtain ⟨a, y, e, hy, i⟩ := h v hv
  exact ⟨a, y, e, hy, isEr_same i s⟩
theorem allE_app {K : PySem.W.Frag} {H : Hp} {xs ys : List V} {L : List PySem.Str} (h : AllE K H xs L) (h2 : AllE K H ys L) : AllE K H (xs ++ ys) L := fun v hv => (List.mem_append.mp hv).elim (h v) (h2 v)
theorem rd_news {K : PySem.W.Frag} {i : Nat} {σ : L2.St} {v : V} (hv : σ[i]? = some (some v)) {L : List PySem.Str} : ∀ (l : List (PySem.Str × PySem.Str)) {H : Hp} {Q : List V → Hp → Prop}, (∀ p ∈ l, p.1 ∈ L) →
    (∀ xs H', Same H H' → xs.length = l.length → AllE K H' xs L → Q xs H') → tNews K i l σ H Q
  | [], H, Q, _, k => k [] H (Same.refl H) rfl fun v h => by cases h
  | p :: r, H, Q, hL, k => by
    refine ⟨v, hv, fun a d na nd da => ?_⟩
    have s1 : Same H (upd (upd H d (exd d [(p.2, v)])) a (exo a (ga K p.1) (some d))) := same_wr (same_new nd) na
    have e1 : IsEr (upd (upd H d (exd d [(p.2, v)])) a (exo a (ga K p.1) (some d))) a (ga K p.1) := .inr ⟨d, _, upd_same, by rw [upd_ne da]; exact upd_same⟩
    refine rd_news hv r (fun z hz => hL z (List.mem_cons_of_mem _ hz)) fun xs H' s len al => k (.ref a :: xs) H' (s1.trans s) (by rw [List.length_cons, len]; rfl) fun u hu => ?_
    rcases List.mem_cons.mp hu with e | hu
    · exact ⟨a, p.1, e, hL p List.mem_cons_self, isEr_same e1 s⟩
    · exact al u hu
/-- the list that grows: at l, new, so many -/
structure OS (K : PySem.W.Frag) (H : Hp) (l : Addr) (H1 : Hp) (n : Nat) : Prop where
  same : Same H H1
  new : H l = none
  ex : ∃ xs, H1 l = some (.lst xs) ∧ xs.length = n ∧ AllE K H1 xs onm3
theorem rd_ext {K : PySem.W.Frag} {H H1 : Hp} {l : Addr} {n : Nat} {σ : L2.St} {v : V} (L : List (PySem.Str × PySem.Str)) (hL : ∀ p ∈ L, p.1 ∈ onm3) (st : OS K H l H1 n) (hv : σ[0]? = some (some v)) (hl : σ[1]? = some (some (.ref l))) (hn : n + L.length ≤ 1000) {D : Ends}
    (k : ∀ H2, OS K H l H2 (n + L.length) → D.nx σ H2) : tDrop (tBM K "list" rExtend (tVar 1) (tCons (tLst (tNews K 0 L)) tNil)) D σ H1 := by
  obtain ⟨s, nw, xs, hx, len, al⟩ := st
  refine ⟨_, hl, .inl ⟨rfl, _, SqL.of hx⟩, rd_news hv L hL fun ys H2 s2 len2 al2 => ⟨?_, fun b nb => ⟨l, b, xs, ys, rfl, rfl, same_new nb _ _ (s2 _ _ hx), upd_same, ?_, ?_⟩⟩⟩
  · exact Nat.le_trans (by omega : ys.length ≤ 1000) (by decide)
  · exact Nat.le_trans (by omega : xs.length + ys.length ≤ 1000) (by decide)
  · have sA : Same H (upd H2 b (.lst ys)) := (s.trans s2).trans (same_new nb)
    have lb : l ≠ b := ne_of_none (s2 _ _ hx) nb
    refine k _ ⟨same_wr sA nw, nw, xs ++ ys, upd_same, by rw [List.length_append]; omega, ?_⟩
    have keep : ∀ {a : Addr} {C : Addr}, IsEr (upd H2 b (.lst ys)) a C → IsEr (upd (upd H2 b (.lst ys)) l (.lst (xs ++ ys))) a C := fun {a C} h => by
      have hl2 : upd H2 b (.lst ys) l = some (.lst xs) := same_new nb _ _ (s2 _ _ hx)
      rcases h with h | ⟨d, fs, h, hd⟩
      · exact .inl (by rw [upd_ne (ne_of h hl2 (fun z => by have z' : HO.ext _ = HO.lst _ := z; cases z'))]; exact h)
      · exact .inr ⟨d, fs, by rw [upd_ne (ne_of h hl2 (fun z => by have z' : HO.ext _ = HO.lst _ := z; cases z'))]; exact h, by rw [upd_ne (ne_of hd hl2 (fun z => by have z' : HO.ext _ = HO.lst _ := z; cases z'))]; exact hd⟩
    intro u hu
    obtain ⟨a, y, e, hy, i⟩ := allE_app (allE_same (allE_same al s2) (same_new nb)) (allE_same al2 (same_new nb)) u hu
    exact ⟨a, y, e, hy, keep i⟩
theorem rd_first {K : PySem.W.Frag} {H : Hp} {σ : L2.St} {v : V} {u : Option V} (L : List (PySem.Str × PySem.Str)) (hL : ∀ p ∈ L, p.1 ∈ onm3) (hv : σ[0]? = some (some v)) (hu : σ[1]? = some u) (hn : L.length ≤ 1000) {D : Ends}
    (k : ∀ l H2, OS K H l H2 L.length → D.nx (σ.set 1 (some (.ref l))) H2) : tAsg (tLst (tNews K 0 L)) (gName 1) D σ H := by
  refine rd_news hv L hL fun xs H1 s1 len al => ⟨Nat.le_trans (by rw [len]; exact hn : xs.length ≤ 1000) (by decide), fun l nl => ?_⟩
  exact k l _ ⟨s1.trans (same_new nl), s1.free nl, xs, upd_same, len, allE_same al (same_new nl)⟩
def spOthers (K : PySem.W.Frag) : Sp := fun vs H Q _ => ∃ v : V, vs = [v] ∧ ∀ r xs H', Same H H' → H' r = some (.lst xs) → xs.length ≤ 1000 → AllE K H' xs onm3 → Q (.ref r) H'
end K89

set_option Elab.async false
set_option linter.all false
set_option maxRecDepth 100000
set_option maxHeartbeats 4000000
namespace K89
open PySem PySem.Spec PyProof.Rows L2 EV He
section
variable {P : Program} {w : World} {K : PySem.W.Frag} {mg : PySem.Str → Option Value} {base : Heap} {f f2 : Addr} {fd d2 : FuncData}
theorem sc_others : FnScope ["x", "told"] ["x"] (defScope s_law_others) := ⟨rfl, rfl, rfl, by decide +kernel, rfl, by decide +kernel, by decide +kernel⟩
theorem pe_0 {X : Cx} {x : PySem.Str} {p pos : Pos} (T : Tx X.K X.mg) (hx : x ∈ plain) (hg : Gl X x) (hdb : (x == ("__debug__" : PySem.Str)) = false := by decide) : PE X (.Call (.Name x p) [] [] pos) (fun σ H Q => ∀ a, H a = none → Q (.ref a) (upd H a (exo a (ga X.K x) none))) := by
  have hn : x ∈ names := List.mem_append.mpr (.inr hx)
  have q := List.all_eq_true.mp (bA (bA (bA (bA (bA T.ex).2).2).2).2).2 x hx
  exact pe_new0 PySem.F.excBase_ValueError q (T.gb hn) (oex_of (T.exc hn)).kC hg hdb
theorem ok_others (F : FnP K "_law_others" s_law_others f fd) (T : Tx K mg) (hI : ∀ p ∈ cls, IniOk P w K mg base p) : FnOk P w K mg base CX0 3 f fd ["x"] (spOthers K) := by
  refine F.ok sc_others (fun vs H Q E h => by obtain ⟨v, rfl, _⟩ := h; rfl) (fun cdv A outer s H vs Q E hr h => ⟨_, PSs.nox
    (pss_cons (ps_set (i := 1) sc_others.nd rfl (Or.inl rfl) (pe_lst (pa_cons (pe_C T hI (x := "BadBegin") (f := "begin") (by decide +kernel) hr (by rfl) (pv 0)) (pa_cons (pe_C T hI (x := "BadDark") (f := "index") (by decide +kernel) hr (by rfl) (pv 0)) (pa_cons (pe_C T hI (x := "BadDesk") (f := "desk") (by decide +kernel) hr (by rfl) (pv 0)) (pa_cons (pe_C T hI (x := "BadDeskText") (f := "line") (by decide +kernel) hr (by rfl) (pv 0)) (pa_cons (pe_C T hI (x := "BadDrop") (f := "drop") (by decide +kernel) hr (by rfl) (pv 0)) (pa_cons (pe_C T hI (x := "BadEdit") (f := "edit") (by decide +kernel) hr (by rfl) (pv 0)) (pa_cons (pe_C T hI (x := "BadEnd") (f := "end") (by decide +kernel) hr (by rfl) (pv 0)) pa_nil)))))))))
    (pss_cons (ps_expr (pe_bm PySem.F.plainAttrs_list PySem.F.slot_list_extend PySem.F.type_list_extend mt_extend (pv 1) (pa_cons (pe_lst (pa_cons (pe_C T hI (x := "BadFlips") (f := "flips") (by decide +kernel) hr (by rfl) (pv 0)) (pa_cons (pe_C T hI (x := "BadFormula") (f := "formula") (by decide +kernel) hr (by rfl) (pv 0)) (pa_cons (pe_C T hI (x := "BadLamp") (f := "lamp") (by decide +kernel) hr (by rfl) (pv 0)) (pa_cons (pe_C T hI (x := "BadLit") (f := "index") (by decide +kernel) hr (by rfl) (pv 0)) (pa_cons (pe_C T hI (x := "BadPanels") (f := "index") (by decide +kernel) hr (by rfl) (pv 0)) (pa_cons (pe_C T hI (x := "BadPrices") (f := "prices") (by decide +kernel) hr (by rfl) (pv 0)) (pa_cons (pe_C T hI (x := "BadShare") (f := "share") (by decide +kernel) hr (by rfl) (pv 0)) pa_nil)))))))) pa_nil)))
    (pss_cons (ps_expr (pe_bm PySem.F.plainAttrs_list PySem.F.slot_list_extend PySem.F.type_list_extend mt_extend (pv 1) (pa_cons (pe_lst (pa_cons (pe_C T hI (x := "BadShared") (f := "shared") (by decide +kernel) hr (by rfl) (pv 0)) (pa_cons (pe_C T hI (x := "BadSums") (f := "sums") (by decide +kernel) hr (by rfl) (pv 0)) (pa_cons (pe_C T hI (x := "BadWires") (f := "wires") (by decide +kernel) hr (by rfl) (pv 0)) (pa_cons (pe_C T hI (x := "BadWishes") (f := "index") (by decide +kernel) hr (by rfl) (pv 0)) (pa_cons (pe_C T hI (x := "DarkPanels") (f := "lamp") (by decide +kernel) hr (by rfl) (pv 0)) (pa_cons (pe_C T hI (x := "BadCode") (f := "code") (by decide +kernel) hr (by rfl) (pv 0)) (pa_cons (pe_C T hI (x := "BadLamps") (f := "index") (by decide +kernel) hr (by rfl) (pv 0)) pa_nil)))))))) pa_nil)))
    (pss_cons (ps_expr (pe_bm PySem.F.plainAttrs_list PySem.F.slot_list_extend PySem.F.type_list_extend mt_extend (pv 1) (pa_cons (pe_lst (pa_cons (pe_C T hI (x := "BadLog") (f := "log") (by decide +kernel) hr (by rfl) (pv 0)) (pa_cons (pe_C T hI (x := "BadLogText") (f := "line") (by decide +kernel) hr (by rfl) (pv 0)) (pa_cons (pe_C T hI (x := "BadMachine") (f := "machine") (by decide +kernel) hr (by rfl) (pv 0)) (pa_cons (pe_C T hI (x := "BadMachineText") (f := "line") (by decide +kernel) hr (by rfl) (pv 0)) (pa_cons (pe_C T hI (x := "BadMove") (f := "move") (by decide +kernel) hr (by rfl) (pv 0)) (pa_cons (pe_C T hI (x := "BadMoves") (f := "index") (by decide +kernel) hr (by rfl) (pv 0)) (pa_cons (pe_C T hI (x := "BadName") (f := "name") (by decide +kernel) hr (by rfl) (pv 0)) pa_nil)))))))) pa_nil)))
    (pss_cons (ps_expr (pe_bm PySem.F.plainAttrs_list PySem.F.slot_list_extend PySem.F.type_list_extend mt_extend (pv 1) (pa_cons (pe_lst (pa_cons (pe_C T hI (x := "BadNets") (f := "nets") (by decide +kernel) hr (by rfl) (pv 0)) (pa_cons (pe_C T hI (x := "BadRuns") (f := "index") (by decide +kernel) hr (by rfl) (pv 0)) (pa_cons (pe_C T hI (x := "BadStates") (f := "index") (by decide +kernel) hr (by rfl) (pv 0)) (pa_cons (pe_C T hI (x := "BadWalk") (f := "index") (by decide +kernel) hr (by rfl) (pv 0)) (pa_cons (pe_C T hI (x := "BadBursts") (f := "index") (by decide +kernel) hr (by rfl) (pv 0)) (pa_cons (pe_C T hI (x := "BadCell") (f := "cell") (by decide +kernel) hr (by rfl) (pv 0)) (pa_cons (pe_C T hI (x := "BadClash") (f := "cell") (by decide +kernel) hr (by rfl) (pv 0)) pa_nil)))))))) pa_nil)))
    (pss_cons (ps_expr (pe_bm PySem.F.plainAttrs_list PySem.F.slot_list_extend PySem.F.type_list_extend mt_extend (pv 1) (pa_cons (pe_lst (pa_cons (pe_C T hI (x := "BadCube") (f := "cube") (by decide +kernel) hr (by rfl) (pv 0)) (pa_cons (pe_C T hI (x := "BadCubes") (f := "index") (by decide +kernel) hr (by rfl) (pv 0)) (pa_cons (pe_C T hI (x := "BadIndex") (f := "index") (by decide +kernel) hr (by rfl) (pv 0)) (pa_cons (pe_C T hI (x := "BadLevers") (f := "index") (by decide +kernel) hr (by rfl) (pv 0)) (pa_cons (pe_C T hI (x := "BadMany") (f := "many") (by decide +kernel) hr (by rfl) (pv 0)) (pa_cons (pe_C T hI (x := "BadNumber") (f := "number") (by decide +kernel) hr (by rfl) (pv 0)) (pa_cons (pe_C T hI (x := "BadOff") (f := "index") (by decide +kernel) hr (by rfl) (pv 0)) pa_nil)))))))) pa_nil)))
    (pss_cons (ps_expr (pe_bm PySem.F.plainAttrs_list PySem.F.slot_list_extend PySem.F.type_list_extend mt_extend (pv 1) (pa_cons (pe_lst (pa_cons (pe_C T hI (x := "BadOn") (f := "index") (by decide +kernel) hr (by rfl) (pv 0)) (pa_cons (pe_C T hI (x := "BadOther") (f := "other") (by decide +kernel) hr (by rfl) (pv 0)) (pa_cons (pe_C T hI (x := "BadPanel") (f := "panel") (by decide +kernel) hr (by rfl) (pv 0)) (pa_cons (pe_C T hI (x := "BadPanelText") (f := "line") (by decide +kernel) hr (by rfl) (pv 0)) (pa_cons (pe_C T hI (x := "BadPath") (f := "path") (by decide +kernel) hr (by rfl) (pv 0)) (pa_cons (pe_C T hI (x := "BadSign") (f := "sign") (by decide +kernel) hr (by rfl) (pv 0)) (pa_cons (pe_C T hI (x := "BadStep") (f := "step") (by decide +kernel) hr (by rfl) (pv 0)) pa_nil)))))))) pa_nil)))
    (pss_cons (ps_expr (pe_bm PySem.F.plainAttrs_list PySem.F.slot_list_extend PySem.F.type_list_extend mt_extend (pv 1) (pa_cons (pe_lst (pa_cons (pe_C T hI (x := "BadSteps") (f := "index") (by decide +kernel) hr (by rfl) (pv 0)) (pa_cons (pe_C T hI (x := "BadTable") (f := "index") (by decide +kernel) hr (by rfl) (pv 0)) pa_nil))) pa_nil)))
    (pss_one (ps_ret (pe_op op_cat (pv 1) (pe_lst (pa_cons (pe_0 T (x := "NothingToRedo") (by decide +kernel) (by rfl)) (pa_cons (pe_0 T (x := "NothingToUndo") (by decide +kernel) (by rfl)) (pa_cons (pe_0 T (x := "PanelError") (by decide +kernel) (by rfl)) pa_nil))))))))))))))), ?_⟩)
  obtain ⟨v, rfl, k⟩ := h
  refine rd_first (v := v) sg0 (by decide +kernel) rfl rfl (by decide) fun l H0a st0 => ?_
  refine rd_ext (v := v) sg1 (by decide +kernel) st0 rfl rfl (by decide) fun H1a st1 => ?_
  refine rd_ext (v := v) sg2 (by decide +kernel) st1 rfl rfl (by decide) fun H2a st2 => ?_
  refine rd_ext (v := v) sg3 (by decide +kernel) st2 rfl rfl (by decide) fun H3a st3 => ?_
  refine rd_ext (v := v) sg4 (by decide +kernel) st3 rfl rfl (by decide) fun H4a st4 => ?_
  refine rd_ext (v := v) sg5 (by decide +kernel) st4 rfl rfl (by decide) fun H5a st5 => ?_
  refine rd_ext (v := v) sg6 (by decide +kernel) st5 rfl rfl (by decide) fun H6a st6 => ?_
  refine rd_ext (v := v) sg7 (by decide +kernel) st6 rfl rfl (by decide) fun H7a st7 => ?_
  obtain ⟨s, nw, xs, hx, len, al⟩ := st7
  refine ⟨_, rfl, fun a na b nb c nc => ⟨(by show 3 ≤ sizeLine; decide), fun m nm => ⟨l, m, xs, _, rfl, rfl, ?_, upd_same, ?_, fun p np => ?_⟩⟩⟩
  · exact same_new nm _ _ (same_new nc _ _ (same_new nb _ _ (same_new na _ _ hx)))
  · rw [len]
    show sg0.length + sg1.length + sg2.length + sg3.length + sg4.length + sg5.length + sg6.length + sg7.length + 3 ≤ sizeLine
    decide
  · refine k p _ _ (s.trans (((((same_new na).trans (same_new nb)).trans (same_new nc)).trans (same_new nm)).trans (same_new np))) upd_same ?_ (allE_app (allE_same al (((((same_new na).trans (same_new nb)).trans (same_new nc)).trans (same_new nm)).trans (same_new np))) ?_)
    · rw [List.length_append, len]
      show sg0.length + sg1.length + sg2.length + sg3.length + sg4.length + sg5.length + sg6.length + sg7.length + 3 ≤ 1000
      decide
    · intro u hu
      have hu3 : u = .ref a ∨ u = .ref b ∨ u = .ref c := by simpa using hu
      rcases hu3 with e | e | e
      · exact ⟨a, "NothingToRedo", e, by decide +kernel, .inl (same_new np _ _ (same_new nm _ _ (same_new nc _ _ (same_new nb _ _ upd_same))))⟩
      · exact ⟨b, "NothingToUndo", e, by decide +kernel, .inl (same_new np _ _ (same_new nm _ _ (same_new nc _ _ upd_same)))⟩
      · exact ⟨c, "PanelError", e, by decide +kernel, .inl (same_new np _ _ (same_new nm _ _ upd_same))⟩
end
end K89

set_option Elab.async false
set_option linter.all false
set_option maxRecDepth 100000
set_option maxHeartbeats 4000000
namespace K89
open PySem PySem.Spec PyProof.Rows L2 EV He
abbrev kA : Key := Sum.inr ("a" : PySem.Str)
abbrev kM : Key := Sum.inr ("more" : PySem.Str)
/-- a drawn thing, changed so many times -/
def Tg (H : Hp) (v : V) (m : Nat) : Prop := Fl v ∨ (∃ (t : Addr) (i : Int), v = .ref t ∧ H t = some (.tup [.int 1, .int i])) ∨
  (∃ (l b : Addr) (i : Int), v = .ref l ∧ H l = some (.lst (.int i :: .ref b :: List.replicate m (.str "more"))) ∧ H b = some (.lst [.int 1]) ∧ l ≠ b) ∨
  ∃ (d : Addr) (i : Int), v = .ref d ∧ H d = some (.dK (if m = 0 then [(kA, .int i)] else [(kA, .int i), (kM, .int 1)]))
def spVery : Sp := fun vs H Q _ => ∃ (v : V) (m : Nat), vs = [v, v] ∧ Tg H v m ∧ m ≤ 5 ∧ ∀ H', (∀ b o, H b = some o → V.ref b ≠ v → H' b = some o) → Tg H' v (m + 1) → Q (.bl true) H'
section
variable {P : Program} {w : World} {K : PySem.W.Frag} {mg : PySem.Str → Option Value} {base : Heap} {f f2 : Addr} {fd d2 : FuncData}
theorem sc_start : FnScope ["script"] ["script"] (defScope s_law_start) := ⟨rfl, rfl, rfl, by decide +kernel, rfl, by decide +kernel, by decide +kernel⟩
def spStart (K : PySem.W.Frag) : Sp := fun vs H Q _ => ∃ (a : Addr) (ns : List Int), vs = [.ref a] ∧ SqL K H a (ns.map V.int) ∧ ns.length ≤ 63 ∧ ∀ p q H', Same H H' → Dw H' p q 0 → H p = none → H q = none → Q (.ref p) H'
theorem ok_start (F : FnP K "_law_start" s_law_start f fd) (T : Tx K mg) : FnOk P w K mg base CX0 1 f fd ["script"] (spStart K) := by
  refine F.ok sc_start (fun vs H Q E h => by obtain ⟨a, ns, rfl, _⟩ := h; rfl) (fun cdv A outer s H vs Q E hr h => ⟨_, PSs.nox
    (pss_one (ps_ret (pe_lst (pa_cons (pe_callTy call_list_of (by rfl) (T.fr "list" (by decide +kernel)) boot_list (pa_cons (pv 0) pa_nil)) (pa_cons pe_int (pa_cons pe_int (pa_cons pe_int pa_nil))))))), ?_⟩)
  obtain ⟨a, ns, rfl, hs, hl, k⟩ := h
  refine ⟨_, rfl, a, _, rfl, .inl hs, fun q nq => ⟨(by show 4 ≤ sizeLine; decide), fun p np => ?_⟩⟩
  refine k p q _ ((same_new nq).trans (same_new np)) ⟨⟨ns, 0, 29, upd_same, same_new np _ _ upd_same, by decide, by decide, by decide, by omega⟩, by decide⟩ (Same.free (same_new nq) np) nq
theorem sc_very : FnScope ["kept", "thing"] ["kept", "thing"] (defScope s_law_very) := ⟨rfl, rfl, rfl, by decide +kernel, rfl, by decide +kernel, by decide +kernel⟩
theorem ok_very (F : FnP K "_law_very" s_law_very f fd) (T : Tx K mg) (FS : FnP K "_law_same" s_law_same f2 d2) (gS : mg "_law_same" = some (.ref f2)) : FnOk P w K mg base CX0 4 f fd ["kept", "thing"] spVery := by
  have bS : Binds K d2 ["found", "due"] [] := FS.bindsN fun _ _ _ _ _ _ us hl => match us, hl with | [_, _], _ => rfl
  have G := ok_same (P := P) (w := w) (base := base) FS T gS 2
  refine F.ok sc_very (fun vs H Q E h => by obtain ⟨v, m, rfl, _⟩ := h; rfl) (fun cdv A outer s H vs Q E hr h => ⟨_, PSs.nox
    (pss_cons (ps_if (pt_val (pe_callB call_isi (by rfl) (T.fr "isinstance" (by decide +kernel)) boot_isinstance (pa_cons (pv 1) (pa_cons (pe_bltn (v := .ty "list") (by rfl) (T.fr "list" (by decide +kernel)) boot_list rfl) pa_nil)))) (pss_one (ps_expr (pe_bm PySem.F.plainAttrs_list PySem.F.slot_list_append PySem.F.type_list_append mt_append (pv 1) (pa_cons pe_str pa_nil)))) pss_nil)
    (pss_cons (ps_if (pt_val (pe_callB call_isi (by rfl) (T.fr "isinstance" (by decide +kernel)) boot_isinstance (pa_cons (pv 1) (pa_cons (pe_bltn (v := .ty "dict") (by rfl) (T.fr "dict" (by decide +kernel)) boot_dict rfl) pa_nil)))) (pss_one (ps_dput (hu_of hr) (pv 1) pe_str pe_int rfl)) pss_nil)
    (pss_one (ps_ret (pe_call G hr (by rfl) gS FS.kp bS .nil pass0 (pa_cons (pv 0) (pa_cons (pv 1) pa_nil))))))), ?_⟩)
  obtain ⟨v, m, rfl, h, hm, k⟩ := h
  rcases h with hf | ⟨t, i, rfl, ht⟩ | ⟨l, b, i, rfl, hl, hb, lb⟩ | ⟨d, i, rfl, hd⟩
  · cases v with
    | non =>
      refine ⟨_, rfl, _, .ty "list", .type "NoneType", .type "list", false, rfl, .ty _, tyX_of (show tyN H _ "NoneType" from rfl), kit_ty (show kitB "NoneType" "list" = some false from by decide +kernel), _, rfl, iteF ?_⟩
      refine ⟨_, rfl, _, .ty "dict", .type "NoneType", .type "dict", false, rfl, .ty _, tyX_of (show tyN H _ "NoneType" from rfl), kit_ty (show kitB "NoneType" "dict" = some false from by decide +kernel), _, rfl, iteF ?_⟩
      exact ⟨_, rfl, _, rfl, _, _, rfl, .inl (.inl ⟨True.intro, rfl⟩), fun H' s => k H' (fun b o e _ => s b o e) (.inl True.intro)⟩
    | bl b =>
      refine ⟨_, rfl, _, .ty "list", .type "bool", .type "list", false, rfl, .ty _, tyX_of (show tyN H _ "bool" from rfl), kit_ty (show kitB "bool" "list" = some false from by decide +kernel), _, rfl, iteF ?_⟩
      refine ⟨_, rfl, _, .ty "dict", .type "bool", .type "dict", false, rfl, .ty _, tyX_of (show tyN H _ "bool" from rfl), kit_ty (show kitB "bool" "dict" = some false from by decide +kernel), _, rfl, iteF ?_⟩
      exact ⟨_, rfl, _, rfl, _, _, rfl, .inl (.inl ⟨True.intro, rfl⟩), fun H' s => k H' (fun b o e _ => s b o e) (.inl True.intro)⟩
    | int i =>
      refine ⟨_, rfl, _, .ty "list", .type "int", .type "list", false, rfl, .ty _, tyX_of (show tyN H _ "int" from rfl), kit_ty (show kitB "int" "list" = some false from by decide +kernel), _, rfl, iteF ?_⟩
      refine ⟨_, rfl, _, .ty "dict", .type "int", .type "dict", false, rfl, .ty _, tyX_of (show tyN H _ "int" from rfl), kit_ty (show kitB "int" "dict" = some false from by decide +kernel), _, rfl, iteF ?_⟩
      exact ⟨_, rfl, _, rfl, _, _, rfl, .inl (.inl ⟨True.intro, rfl⟩), fun H' s => k H' (fun b o e _ => s b o e) (.inl True.intro)⟩
    | str x =>
      refine ⟨_, rfl, _, .ty "list", .type "str", .type "list", false, rfl, .ty _, tyX_of (show tyN H _ "str" from rfl), kit_ty (show kitB "str" "list" = some false from by decide +kernel), _, rfl, iteF ?_⟩
      refine ⟨_, rfl, _, .ty "dict", .type "str", .type "dict", false, rfl, .ty _, tyX_of (show tyN H _ "str" from rfl), kit_ty (show kitB "str" "dict" = some false from by decide +kernel), _, rfl, iteF ?_⟩
      exact ⟨_, rfl, _, rfl, _, _, rfl, .inl (.inl ⟨True.intro, rfl⟩), fun H' s => k H' (fun b o e _ => s b o e) (.inl True.intro)⟩
    | _ => exact hf.elim
  · have HT : tyN H (.ref t) "tuple" := .inr (.inl ⟨rfl, _, ht⟩)
    refine ⟨_, rfl, _, .ty "list", .type "tuple", .type "list", false, rfl, .ty _, tyX_of HT, kit_ty (show kitB "tuple" "list" = some false from by decide +kernel), _, rfl, iteF ?_⟩
    refine ⟨_, rfl, _, .ty "dict", .type "tuple", .type "dict", false, rfl, .ty _, tyX_of HT, kit_ty (show kitB "tuple" "dict" = some false from by decide +kernel), _, rfl, iteF ?_⟩
    refine ⟨_, rfl, _, rfl, _, _, rfl, .inl (.inr ⟨t, t, _, _, rfl, rfl, rfl, by show 2 ≤ 1000; decide, fun j x y hx hy => ?_, .inr ⟨ht, ht⟩⟩), fun H' s => k H' (fun b o e _ => s b o e) (.inr (.inl ⟨t, i, rfl, s _ _ ht⟩))⟩
    have e : x = y := Option.some.inj (hx.symm.trans hy)
    subst e
    match j, hx with
    | 0, hx => cases hx; exact .inl ⟨True.intro, rfl⟩
    | 1, hx => cases hx; exact .inl ⟨True.intro, rfl⟩
  · have HT : tyN H (.ref l) "list" := .inl ⟨rfl, _, hl⟩
    refine ⟨_, rfl, _, .ty "list", .type "list", .type "list", true, rfl, .ty _, tyX_of HT, kit_ty (show kitB "list" "list" = some true from by decide +kernel), _, rfl, iteT ?_⟩
    refine ⟨_, rfl, .inl ⟨rfl, _, SqL.of hl⟩, l, _, _, rfl, rfl, hl, (by rw [List.length_cons, List.length_cons, List.length_replicate]; exact Nat.lt_of_le_of_lt (by omega : m + 1 + 1 ≤ 1000) (by decide)), ?_⟩
    have h2 : upd H l (.lst ((.int i :: .ref b :: List.replicate m (.str "more")) ++ [.str "more"])) l = some (.lst (.int i :: .ref b :: List.replicate (m + 1) (.str "more"))) := by
      rw [upd_same, List.replicate_succ']
      rfl
    have b2 : upd H l (.lst ((.int i :: .ref b :: List.replicate m (.str "more")) ++ [.str "more"])) b = some (.lst [.int 1]) := by
      rw [upd_ne (Ne.symm lb)]
      exact hb
    have kp : ∀ c o, H c = some o → V.ref c ≠ V.ref l → upd H l (.lst ((.int i :: .ref b :: List.replicate m (.str "more")) ++ [.str "more"])) c = some o := fun c o e ne => by
      rw [upd_ne (fun z => ne (by rw [z]))]
      exact e
    generalize upd H l (.lst ((.int i :: .ref b :: List.replicate m (.str "more")) ++ [.str "more"])) = H2 at h2 b2 kp
    have HT2 : tyN H2 (.ref l) "list" := .inl ⟨rfl, _, h2⟩
    refine ⟨_, rfl, _, .ty "dict", .type "list", .type "dict", false, rfl, .ty _, tyX_of HT2, kit_ty (show kitB "list" "dict" = some false from by decide +kernel), _, rfl, iteF ?_⟩
    refine ⟨_, rfl, _, rfl, _, _, rfl, .inl (.inr ⟨l, l, _, _, rfl, rfl, rfl, (by rw [List.length_cons, List.length_cons, List.length_replicate]; omega), fun j x y hx hy => ?_, .inl ⟨h2, h2⟩⟩), fun H' s => k H' (fun c o e ne => s c o (kp c o e ne)) (.inr (.inr (.inl ⟨l, b, i, rfl, s _ _ h2, s _ _ b2, lb⟩)))⟩
    have e : x = y := Option.some.inj (hx.symm.trans hy)
    subst e
    match j, hx with
    | 0, hx => cases hx; exact .inl ⟨True.intro, rfl⟩
    | 1, hx =>
      cases hx
      refine .inr ⟨b, b, _, _, rfl, rfl, rfl, by show 1 ≤ 1000; decide, fun j x y hx hy => ?_, .inl ⟨b2, b2⟩⟩
      have e : x = y := Option.some.inj (hx.symm.trans hy)
      subst e
      match j, hx with
      | 0, hx => cases hx; exact ⟨True.intro, rfl⟩
    | j + 2, hx =>
      have hx2 : (List.replicate (m + 1) (V.str "more"))[j]? = some x := hx
      have e := List.eq_of_mem_replicate (List.mem_of_getElem? hx2)
      rw [e]
      exact .inl ⟨True.intro, rfl⟩
  · have HT : tyN H (.ref d) "dict" := .inr (.inr ⟨rfl, _, hd⟩)
    refine ⟨_, rfl, _, .ty "list", .type "dict", .type "list", false, rfl, .ty _, tyX_of HT, kit_ty (show kitB "dict" "list" = some false from by decide +kernel), _, rfl, iteF ?_⟩
    refine ⟨_, rfl, _, .ty "dict", .type "dict", .type "dict", true, rfl, .ty _, tyX_of HT, kit_ty (show kitB "dict" "dict" = some true from by decide +kernel), _, rfl, iteT ?_⟩
    have ep : putK (if m = 0 then [(kA, .int i)] else [(kA, .int i), (kM, .int 1)]) kM (.int 1) = [(kA, V.int i), (kM, .int 1)] := by
      split <;> rfl
    refine ⟨_, rfl, d, _, rfl, DPut.k (k := kM) hd ?_, ?_⟩
    · split
      · show 1 < sizeLine
        decide
      · show 2 < sizeLine
        decide
    rw [ep]
    have h2 : upd H d (.dK [(kA, .int i), (kM, .int 1)]) d = some (.dK [(kA, .int i), (kM, .int 1)]) := upd_same
    have kp : ∀ c o, H c = some o → V.ref c ≠ V.ref d → upd H d (.dK [(kA, .int i), (kM, .int 1)]) c = some o := fun c o e ne => by
      rw [upd_ne (fun z => ne (by rw [z]))]
      exact e
    generalize upd H d (.dK [(kA, .int i), (kM, .int 1)]) = H2 at h2 kp
    refine ⟨_, rfl, _, rfl, _, _, rfl, .inr ⟨Nat.le_refl 2, d, _, rfl, rfl, h2, fun p hp => ?_, (by show ([kA, kM] : List Key).Nodup; decide), by show 2 ≤ 1000; decide⟩, fun H' s => k H' (fun c o e ne => s c o (kp c o e ne)) (.inr (.inr (.inr ⟨d, i, rfl, by rw [if_neg (Nat.succ_ne_zero m)]; exact s _ _ h2⟩)))⟩
    have hp2 : p = (kA, V.int i) ∨ p = (kM, V.int 1) := by simpa using hp
    rcases hp2 with e | e
    · rw [e]
      exact ⟨⟨_, rfl⟩, True.intro⟩
    · rw [e]
      exact ⟨⟨_, rfl⟩, True.intro⟩
end
end K89

set_option Elab.async false
set_option linter.all false
set_option maxRecDepth 100000
set_option maxHeartbeats 4000000
namespace K89
open PySem PySem.Spec PyProof.Rows L2 EV He
abbrev NL : List PySem.Str := ["script", "state", "at", "turn", "thing", "made", "kept", "e", "others", "one"]
theorem boot_VE : bootBuiltins "ValueError" = some (.type "ValueError") := by decide +kernel
theorem kin_at : ∀ i : _root_.Fin 15, kin (kn.getD i.val "") = [(i.val : Int)] := by decide +kernel
theorem oth_at : ∀ i : _root_.Fin 15, othB (kn.getD i.val "") = false := by decide +kernel
theorem kn_in : ∀ x ∈ kn, x ∈ names ∧ x ≠ pE := by decide +kernel
theorem on_in : ∀ x ∈ onm3, x ∈ names ∧ kin x = [] := by decide +kernel
theorem tg_same {H H' : Hp} {v : V} {m : Nat} (h : Tg H v m) (s : Same H H') : Tg H' v m := by
  rcases h with h | ⟨t, z, e, h⟩ | ⟨l, b, z, e, h, hb, ne⟩ | ⟨dd, z, e, h⟩
  · exact .inl h
  · exact .inr (.inl ⟨t, z, e, s _ _ h⟩)
  · exact .inr (.inr (.inl ⟨l, b, z, e, s _ _ h, s _ _ hb, ne⟩))
  · exact .inr (.inr (.inr ⟨dd, z, e, s _ _ h⟩))
theorem tg_ne {H : Hp} {v : V} {m : Nat} {c : Addr} (h : Tg H v m) (n : H c = none) : V.ref c ≠ v := fun e => by
  rcases h with h | ⟨t, z, e2, h⟩ | ⟨l, b, z, e2, h, hb, ne⟩ | ⟨dd, z, e2, h⟩
  · rw [← e] at h
    exact h
  · rw [e2] at e
    cases e
    rw [n] at h
    cases h
  · rw [e2] at e
    cases e
    rw [n] at h
    cases h
  · rw [e2] at e
    cases e
    rw [n] at h
    cases h
/-- a list of truths is written beside it -/
theorem tg_wr {H : Hp} {v : V} {m u : Nat} {D : Addr} {o : HO} (h : Tg H v m) (hD : H D = some (.lst (List.replicate u (.bl true)))) (Dv : V.ref D ≠ v) (hu : u < 5) : Tg (upd H D o) v m := by
  rcases h with h | ⟨t, z, e, h⟩ | ⟨l, b, z, e, h, hb, ne⟩ | ⟨dd, z, e, h⟩
  · exact .inl h
  · exact .inr (.inl ⟨t, z, e, by rw [upd_ne (fun q => Dv (by rw [e, q]))]; exact h⟩)
  · have nb : b ≠ D := fun q => by
      rw [q, hD] at hb
      have z1 := HO.lst.inj (Option.some.inj hb)
      cases u with
      | zero => cases z1
      | succ u =>
        rw [List.replicate_succ] at z1
        have z2 := (List.cons.inj z1).1
        cases z2
    exact .inr (.inr (.inl ⟨l, b, z, e, by rw [upd_ne (fun q => Dv (by rw [e, q]))]; exact h, by rw [upd_ne nb]; exact hb, ne⟩))
  · exact .inr (.inr (.inr ⟨dd, z, e, by rw [upd_ne (fun q => Dv (by rw [e, q]))]; exact h⟩))
theorem dw_keep {H H' : Hp} {p q : Addr} {n : Int} (d : Dw H p q n) (s : Same H H') : Dw H' p q n := by
  obtain ⟨⟨cells, cur, mix, e1, e2, r⟩, n0⟩ := d
  exact ⟨⟨cells, cur, mix, s _ _ e1, s _ _ e2, r⟩, n0⟩
def spLaw (K : PySem.W.Frag) : Sp := fun vs H Q _ => ∃ (a : Addr) (ns : List Int), vs = [.ref a] ∧ SqL K H a (ns.map V.int) ∧ ns.length ≤ 63 ∧ ∀ H', Q (.bl true) H'
section
variable {P : Program} {w : World} {K : PySem.W.Frag} {mg : PySem.Str → Option Value} {base : Heap} {f : Addr} {fd : FuncData}
theorem sc_law : FnScope NL ["script"] (defScope s_law) := ⟨rfl, rfl, rfl, by decide +kernel, rfl, by decide +kernel, by decide +kernel⟩
theorem ok_law (F : FnP K "law" s_law f fd) (T : Tx K mg)
    {f_start : Addr} {d_start : FuncData} (F_start : FnP K "_law_start" s_law_start f_start d_start) (g_start : mg "_law_start" = some (.ref f_start)) (G_start : FnOk P w K mg base CX0 1 f_start d_start ["script"] (spStart K))
    {f_pick : Addr} {d_pick : FuncData} (F_pick : FnP K "_law_pick" s_law_pick f_pick d_pick) (g_pick : mg "_law_pick" = some (.ref f_pick)) (G_pick : FnOk P w K mg base CX0 1 f_pick d_pick ["state", "many"] spPick)
    {f_object : Addr} {d_object : FuncData} (F_object : FnP K "_law_object" s_law_object f_object d_object) (g_object : mg "_law_object" = some (.ref f_object)) (G_object : FnOk P w K mg base CX0 3 f_object d_object ["state"] spObject)
    {f_made_at : Addr} {d_made_at : FuncData} (F_made_at : FnP K "_law_made_at" s_law_made_at f_made_at d_made_at) (g_made_at : mg "_law_made_at" = some (.ref f_made_at)) (G_made_at : FnOk P w K mg base CX0 4 f_made_at d_made_at ["at", "x"] (spMade K 0 15))
    {f_kinds_of : Addr} {d_kinds_of : FuncData} (F_kinds_of : FnP K "_law_kinds_of" s_law_kinds_of f_kinds_of d_kinds_of) (g_kinds_of : mg "_law_kinds_of" = some (.ref f_kinds_of)) (G_kinds_of : FnOk P w K mg base CX0 1 f_kinds_of d_kinds_of ["e"] (spKinds K))
    {f_is_other : Addr} {d_is_other : FuncData} (F_is_other : FnP K "_law_is_other" s_law_is_other f_is_other d_is_other) (g_is_other : mg "_law_is_other" = some (.ref f_is_other)) (G_is_other : FnOk P w K mg base CX0 1 f_is_other d_is_other ["e"] (spOther K))
    {f_very : Addr} {d_very : FuncData} (F_very : FnP K "_law_very" s_law_very f_very d_very) (g_very : mg "_law_very" = some (.ref f_very)) (G_very : FnOk P w K mg base CX0 4 f_very d_very ["kept", "thing"] spVery)
    {f_others : Addr} {d_others : FuncData} (F_others : FnP K "_law_others" s_law_others f_others d_others) (g_others : mg "_law_others" = some (.ref f_others)) (G_others : FnOk P w K mg base CX0 3 f_others d_others ["x"] (spOthers K)) : FnOk P w K mg base CX0 5 f fd ["script"] (spLaw K) := by
  have b_start : Binds K d_start ["script"] [] := F_start.bindsN fun _ _ _ _ _ _ us hl => match us, hl with | [_], _ => rfl
  have b_pick : Binds K d_pick ["state", "many"] [] := F_pick.bindsN fun _ _ _ _ _ _ us hl => match us, hl with | [_, _], _ => rfl
  have b_object : Binds K d_object ["state"] [] := F_object.bindsN fun _ _ _ _ _ _ us hl => match us, hl with | [_], _ => rfl
  have b_made_at : Binds K d_made_at ["at", "x"] [] := F_made_at.bindsN fun _ _ _ _ _ _ us hl => match us, hl with | [_, _], _ => rfl
  have b_kinds_of : Binds K d_kinds_of ["e"] [] := F_kinds_of.bindsN fun _ _ _ _ _ _ us hl => match us, hl with | [_], _ => rfl
  have b_is_other : Binds K d_is_other ["e"] [] := F_is_other.bindsN fun _ _ _ _ _ _ us hl => match us, hl with | [_], _ => rfl
  have b_very : Binds K d_very ["kept", "thing"] [] := F_very.bindsN fun _ _ _ _ _ _ us hl => match us, hl with | [_, _], _ => rfl
  have b_others : Binds K d_others ["x"] [] := F_others.bindsN fun _ _ _ _ _ _ us hl => match us, hl with | [_], _ => rfl
  refine F.ok sc_law (fun vs H Q E h => by obtain ⟨a, ns, rfl, _⟩ := h; rfl) (fun cdv A outer s H vs Q E hr h => ⟨_, PSs.nox
    (pss_cons (ps_set (i := 1) sc_law.nd rfl (Or.inl rfl) (pe_call G_start (hr.mono (by decide)) (by rfl) g_start F_start.kp b_start .nil pass0 (pa_cons (pv 0) pa_nil)))
    (pss_cons (ps_for PassesOwn.never rfl (pi_range1 (by rfl) (T.fr "range" (by decide +kernel)) (pa_cons pe_int pa_nil)) (pg_name (i := 2) sc_law.nd rfl (Or.inl rfl))
      (pss_one (ps_for PassesOwn.never rfl (pi_range1 (by rfl) (T.fr "range" (by decide +kernel)) (pa_cons pe_int pa_nil)) (pg_name (i := 3) sc_law.nd rfl (Or.inl rfl))
        (pss_cons (ps_set (i := 4) sc_law.nd rfl (Or.inr rfl) (pe_call G_object (hr.mono (by decide)) (by rfl) g_object F_object.kp b_object .nil pass0 (pa_cons (pv 1) pa_nil)))
        (pss_cons (ps_asg (pe_call G_made_at (hr.mono (by decide)) (by rfl) g_made_at F_made_at.kp b_made_at .nil pass0 (pa_cons (pv 2) (pa_cons (pv 4) pa_nil))) (pg_tup rfl (pgs_cons (pg_name (i := 5) sc_law.nd rfl (Or.inl rfl)) (pgs_cons (pg_name (i := 6) sc_law.nd rfl (Or.inl rfl)) pgs_nil))))
        (pss_cons (ps_for PassesOwn.never rfl (pi_list (pv 5)) (pg_name (i := 7) sc_law.nd rfl (Or.inl rfl)) (pss_one (ps_if (PW.pt (pw_or (pt_not (pt_val (pe_callB call_isEr (by rfl) (T.fr "isinstance" (by decide +kernel)) boot_isinstance (pa_cons (pv 7) (pa_cons (pe_glob (v := .ref (ga K "PanelError")) (by rfl) (T.gb (x := "PanelError") (by decide +kernel)) rfl) pa_nil))))) (pw_or (pt_not (pt_val (pe_callB call_isEr (by rfl) (T.fr "isinstance" (by decide +kernel)) boot_isinstance (pa_cons (pv 7) (pa_cons (pe_bltn (v := .ty "ValueError") (by rfl) (T.fr "ValueError" (by decide +kernel)) boot_VE rfl) pa_nil))))) (pw_or (pt_cmpR (op_neD hr.units) (pe_call G_kinds_of (hr.mono (by decide)) (by rfl) g_kinds_of F_kinds_of.kp b_kinds_of .nil pass0 (pa_cons (pv 7) pa_nil)) (pe_lst (pa_cons (pv 2) pa_nil)) (nomark _)) (pw_or1 (pt_val (pe_call G_is_other (hr.mono (by decide)) (by rfl) g_is_other F_is_other.kp b_is_other .nil pass0 (pa_cons (pv 7) pa_nil)))))))) (pss_one (ps_ret pe_bl)) pss_nil)))
        (pss_one (ps_if (pt_not (pt_val (pe_callB (cr_all rfl) (by rfl) (T.fr "all" (by decide +kernel)) boot_all (pa_cons (pe_lc (own := [("one", 9)]) (g := gName 9) (tt := tYes) (te := tCall spVery [] E0 (tCons (tVar 9) (tCons (tVar 4) tNil))) rfl sc_law.nd (pi_list (pv 6)) (blkOk_by (N := NL) (sc := defScope s_law) (by decide +kernel)) (fun _ _ _ _ _ => pg_name (i := 9) sc_law.nd rfl (Or.inl rfl)) (fun _ _ _ _ _ => pts_nil) (fun _ _ _ _ _ => (pe_call G_very (hr.mono (by decide)) (by rfl) g_very F_very.kp b_very .nil pass0 (pa_cons (pv 9) (pa_cons (pv 4) pa_nil))))) pa_nil)))) (pss_one (ps_ret pe_bl)) pss_nil))))))))
    (pss_cons (ps_set (i := 8) sc_law.nd rfl (Or.inl rfl) (pe_call G_others (hr.mono (by decide)) (by rfl) g_others F_others.kp b_others .nil pass0 (pa_cons (pe_call G_pick (hr.mono (by decide)) (by rfl) g_pick F_pick.kp b_pick .nil pass0 (pa_cons (pv 1) (pa_cons pe_int pa_nil))) pa_nil)))
    (pss_one (ps_ret (pe_callB (cr_all rfl) (by rfl) (T.fr "all" (by decide +kernel)) boot_all (pa_cons (pe_lc (own := [("e", 7)]) (g := gName 7) (tt := tYes) (te := (tAndV (tOp (rEqD K) (tCall (spKinds K) [] E0 (tCons (tVar 7) tNil)) (tLst tNil)) (tAndV (tCB (rIsEr K) (tCons (tVar 7) (tCons (tC (.ref (ga K "PanelError"))) tNil))) (tCB (rIsEr K) (tCons (tVar 7) (tCons (tC (.ty "ValueError")) tNil)))))) rfl sc_law.nd (pi_list (pv 8)) (blkOk_by (N := NL) (sc := defScope s_law) (by decide +kernel)) (fun _ _ _ _ _ => pg_name (i := 7) sc_law.nd rfl (Or.inl rfl)) (fun _ _ _ _ _ => pts_nil) (fun _ _ _ _ _ => (pe_and (pe_cmpR (r := rEqD K) (op_eqD hr.units) (pe_call G_kinds_of (hr.mono (by decide)) (by rfl) g_kinds_of F_kinds_of.kp b_kinds_of .nil pass0 (pa_cons (pv 7) pa_nil)) (pe_lst pa_nil) (nomark _)) (pe_and (pe_callB call_isEr (by rfl) (T.fr "isinstance" (by decide +kernel)) boot_isinstance (pa_cons (pv 7) (pa_cons (pe_glob (v := .ref (ga K "PanelError")) (by rfl) (T.gb (x := "PanelError") (by decide +kernel)) rfl) pa_nil))) (pe_one (pe_callB call_isEr (by rfl) (T.fr "isinstance" (by decide +kernel)) boot_isinstance (pa_cons (pv 7) (pa_cons (pe_bltn (v := .ty "ValueError") (by rfl) (T.fr "ValueError" (by decide +kernel)) boot_VE rfl) pa_nil)))))))) pa_nil))))))), ?_⟩)
  obtain ⟨a, ns, rfl, hs, hl, k⟩ := h
  refine ⟨_, rfl, a, ns, rfl, hs, hl, fun p q H1 s1 d1 np nq => ?_⟩
  refine ⟨15, rfl, by decide, by decide, for_range (lo := 0) (n := 15) (fun i σ H => ∃ x2 x3 x4 x5 x6 x7 : Option V, σ = [some (.ref a), some (.ref p), x2, x3, x4, x5, x6, x7, none, none] ∧ ∃ m : Int, Dw H p q m ∧ m ≤ 100 * i)
    ⟨none, none, none, none, none, none, rfl, 0, d1, by omega⟩ ?_ ?_⟩
  · rintro i σ H2 hi ⟨x2, x3, x4, x5, x6, x7, rfl, m0, d2, hm0⟩
    have ex : kn[i]? = some (kn.getD i "") := by
      rw [List.getD_eq_getElem?_getD, List.getElem?_eq_getElem (by show i < 15; exact hi)]
      rfl
    generalize hxx : kn.getD i "" = x at ex
    have kx : kin x = [(i : Int)] := by
      rw [← hxx]
      exact kin_at ⟨i, hi⟩
    have ox : othB x = false := by
      rw [← hxx]
      exact oth_at ⟨i, hi⟩
    have hxn := (kn_in x (List.mem_of_getElem? ex)).1
    have TE := excC_of T.cb (T.exc hxn)
    have kP : PySem.W.kitOne K (.ref (ga K x)) (.ref (ga K pE)) = some true := by
      rw [T.kit hxn pE_in]
      simp
    have kV : PySem.W.kitOne K (.ref (ga K x)) (.type "ValueError") = some true := by
      rw [T.kitT hxn (by decide +kernel)]
      rfl
    refine ⟨2, rfl, by decide, by decide, for_range (lo := 0) (n := 2) (fun j σ H => ∃ x3 x4 x5 x6 x7 : Option V, σ = [some (.ref a), some (.ref p), some (.int (0 + (i : Nat))), x3, x4, x5, x6, x7, none, none] ∧ ∃ m : Int, Dw H p q m ∧ m ≤ 100 * i + 20 * j)
      ⟨x3, x4, x5, x6, x7, rfl, m0, d2, by omega⟩ ?_ ?_⟩
    · rintro j σ H3 hj ⟨x3, x4, x5, x6, x7, rfl, m, d, hm⟩
      refine ⟨_, rfl, p, q, m, rfl, d, by omega, fun v H4 m2 k4 d4 hm2 th => ?_⟩
      have tg4 : Tg H4 v 0 := by
        rcases th with h | ⟨t, z, e, h, _⟩ | ⟨l, b, z, e, h, hb, _, _, ne⟩ | ⟨dd, z, e, h, _⟩
        · exact .inl h
        · exact .inr (.inl ⟨t, z, e, h⟩)
        · exact .inr (.inr (.inl ⟨l, b, z, e, h, hb, ne⟩))
        · exact .inr (.inr (.inr ⟨dd, z, e, h⟩))
      have pv3 : V.ref p ≠ v ∧ V.ref q ≠ v := by
        have key : ∀ c : Addr, H3 c ≠ none → V.ref c ≠ v := fun c hc e => by
          rcases th with h | ⟨t, z, e2, h, n⟩ | ⟨l, b, z, e2, h, hb, n, _, ne⟩ | ⟨dd, z, e2, h, n⟩
          · rw [← e] at h
            exact h
          · rw [e2] at e
            cases e
            exact hc n
          · rw [e2] at e
            cases e
            exact hc n
          · rw [e2] at e
            cases e
            exact hc n
        exact ⟨key p d.p, key q d.q⟩
      refine ⟨_, rfl, _, rfl, i, v, x, (by rw [Int.zero_add]; rfl), Nat.zero_le _, hi, ex, fun t ml kl H5 M => ?_⟩
      refine ⟨t, _, rfl, SqT.of M.tup, rfl, _, _, rfl, _, _, rfl, rfl, ?_⟩
      obtain ⟨ea, eb, hml, iea, ieb⟩ := M.hm
      refine ⟨_, rfl, ml, rfl, ⟨_, SqL.of hml⟩, for_list (K := K) (a := ml) (xs := [.ref ea, .ref eb]) (fun _ σ H => ∃ x7 : Option V, σ = [some (.ref a), some (.ref p), some (.int (0 + (i : Nat))), some (.int (0 + (j : Nat))), some v, some (.ref ml), some (.ref kl), x7, none, none] ∧ Same H5 H)
        ⟨x7, rfl, Same.refl _⟩ (fun _ σ H _ ⟨_, _, s⟩ => SqL.of (s _ _ hml)) ?_ ?_⟩
      · rintro u y σ H6 hu ⟨x8, rfl, s6⟩
        obtain ⟨c, rfl, ie5⟩ : ∃ c, y = V.ref c ∧ IsEr H5 c (ga K x) := by
          match u, hu with
          | 0, hu => cases hu; exact ⟨ea, rfl, iea⟩
          | 1, hu => cases hu; exact ⟨eb, rfl, ieb⟩
        have ie := isEr_same ie5 s6
        refine ⟨_, rfl, c, ga K x, _, _, _, rfl, .own _, TE, ie, kP, _, rfl, iteF ?_⟩
        refine ⟨_, rfl, c, ga K x, _, _, _, rfl, .ty _, TE, ie, kV, _, rfl, iteF ?_⟩
        refine ⟨_, rfl, c, x, rfl, hxn, ie, fun r H7 s7 nr hr7 => ⟨_, rfl, (by show 1 ≤ sizeLine; decide), fun l nl => ⟨.list [.int i], .list [.int (0 + (i : Nat))], .lst (SqL.of (same_new nl _ _ hr7)) (by rw [kx]; exact .cons (.int _) .nil), .lst (SqL.of upd_same) (.cons (.int _) .nil), rfl, rfl, _, rfl, ?_⟩⟩⟩
        rw [Int.zero_add, SeqAt.eqv_refl (.list [.int (i : Int)]) rfl]
        refine iteF ?_
        have s8 := (s7.trans (same_new (o := .lst [.int (i : Int)]) nl))
        refine ⟨_, rfl, c, x, rfl, hxn, isEr_same ie s8, fun H8 s9 => ⟨_, rfl, ?_⟩⟩
        rw [ox]
        exact iteF ⟨_, rfl, (s6.trans s8).trans s9⟩
      · rintro σ H6 ⟨x8, rfl, s6⟩
        have tg6 : Tg H6 v 0 := tg_same tg4 (M.same.trans s6)
        have hk6 := s6 _ _ M.hk
        refine ⟨_, rfl, kl, rfl, ⟨_, SqL.of hk6⟩, fun D hD => ?_⟩
        have Dv : V.ref D ≠ v := tg_ne tg6 hD
        have kv : V.ref kl ≠ v := tg_ne tg4 M.nk
        refine lc_list (K := K) (a := kl) (xs := [v, v]) (fun u H => (∀ b o, H6 b = some o → V.ref b ≠ v → H b = some o) ∧ Tg H v u ∧ H D = some (.lst (List.replicate u (.bl true))))
          ⟨fun b o e _ => same_new hD _ _ e, tg_same tg6 (same_new hD), upd_same⟩ (fun u H _ ⟨f, _, _⟩ => SqL.of (f _ _ hk6 kv)) ?_ ?_
        · rintro u y H7 hu ⟨f7, tg7, hD7⟩
          have eu : y = v ∧ u < 2 := by
            match u, hu with
            | 0, hu => cases hu; exact ⟨rfl, by decide⟩
            | 1, hu => cases hu; exact ⟨rfl, by decide⟩
          obtain ⟨rfl, u2⟩ := eu
          refine ⟨rfl, ?_⟩
          refine iteT (B := (∀ b o, H6 b = some o → V.ref b ≠ y → H7 b = some o) ∧ Tg H7 y (u + 1) ∧ H7 D = some (.lst (List.replicate (u + 1) (.bl true)))) ?_
          refine ⟨_, rfl, _, rfl, y, u, rfl, tg7, by omega, fun H8 f8 tg8 => ⟨_, f8 _ _ hD7 Dv, ?_, fun b o e ne => ?_, tg_wr tg8 (f8 _ _ hD7 Dv) Dv (by omega), ?_⟩⟩
          · rw [List.length_replicate]
            exact Nat.lt_of_lt_of_le u2 (by decide)
          · rw [upd_ne (ne_of_none e hD)]
            exact f8 _ _ (f7 _ _ e ne) ne
          · rw [upd_same, List.replicate_succ']
        · rintro H7 ⟨f7, tg7, hD7⟩
          refine ⟨D, [true, true], rfl, SqL.of hD7, _, rfl, iteF ⟨_, _, _, _, _, rfl, m2, ?_, by omega⟩⟩
          have d6 := dw_keep d4 (M.same.trans s6)
          obtain ⟨⟨cells, cur, mix, e1, e2, r⟩, n0⟩ := d6
          exact ⟨⟨cells, cur, mix, f7 _ _ e1 pv3.1, f7 _ _ e2 pv3.2, r⟩, n0⟩
    · rintro σ H3 ⟨x3, x4, x5, x6, x7, rfl, m, d, hm⟩
      exact ⟨_, _, _, _, _, _, rfl, m, d, by omega⟩
  · rintro σ H2 ⟨x2, x3, x4, x5, x6, x7, rfl, m, d, hm⟩
    refine ⟨_, rfl, p, q, m, _, rfl, d, by omega, by decide, by decide, fun r H3 r0 r1 kp d3 => ⟨_, rfl, fun ol xs H4 s4 hx len al => ?_⟩⟩
    refine ⟨_, rfl, ol, rfl, ⟨_, SqL.of hx⟩, fun D hD => ?_⟩
    refine lc_list (K := K) (a := ol) (xs := xs) (fun u H => Same H4 H ∧ H D = some (.lst (List.replicate u (.bl true)))) ⟨same_new hD, upd_same⟩ (fun u H _ ⟨s, _⟩ => SqL.of (s _ _ hx)) ?_ ?_
    · rintro u y H5 hu ⟨s5, hD5⟩
      obtain ⟨c, x, rfl, hx3, ie4⟩ := al y (List.mem_of_getElem? hu)
      obtain ⟨hxn, kx⟩ := on_in x hx3
      have TE := excC_of T.cb (T.exc hxn)
      have kP : PySem.W.kitOne K (.ref (ga K x)) (.ref (ga K pE)) = some true := by
        rw [T.kit hxn pE_in]
        simp
      have kV : PySem.W.kitOne K (.ref (ga K x)) (.type "ValueError") = some true := by
        rw [T.kitT hxn (by decide +kernel)]
        rfl
      have ie := isEr_same ie4 s5
      refine ⟨rfl, ?_⟩
      refine iteT (B := Same H4 H5 ∧ H5 D = some (.lst (List.replicate (u + 1) (.bl true)))) ?_
      refine ⟨_, rfl, c, x, rfl, hxn, ie, fun r2 H6 s6 nr hr6 => ⟨(by show 0 ≤ sizeLine; decide), fun l nl => ⟨.list [], .list [], .lst (SqL.of (same_new nl _ _ hr6)) (by rw [kx]; exact .nil), .lst (SqL.of upd_same) .nil, rfl, rfl, _, rfl, iteT ?_⟩⟩⟩
      have s7 := s6.trans (same_new (o := .lst []) nl)
      refine ⟨_, rfl, c, ga K x, _, _, _, rfl, .own _, TE, isEr_same ie s7, kP, _, rfl, iteT ?_⟩
      refine ⟨_, rfl, c, ga K x, _, _, _, rfl, .ty _, TE, isEr_same ie s7, kV, _, s7 _ _ hD5, ?_, same_wr (s5.trans s7) hD, ?_⟩
      · rw [List.length_replicate]
        have z : u < xs.length := (List.getElem?_eq_some_iff.mp hu).1
        exact Nat.lt_of_lt_of_le (by omega : u < 1000) (by decide)
      · rw [upd_same, List.replicate_succ']
    · rintro H5 ⟨s5, hD5⟩
      refine ⟨D, List.replicate xs.length true, rfl, SqL.of (by rw [hD5, List.map_replicate]), ?_⟩
      rw [all_rep]
      exact k _
end
end K89

set_option Elab.async false
set_option linter.all false
set_option maxRecDepth 100000
set_option maxHeartbeats 8000000
namespace K89
open PySem PySem.Spec PyProof.Rows L2 EV
section
variable {P : Program} {w : World} {K : PySem.W.Frag} {mg : PySem.Str → Option Value} {base h : Heap}
theorem tx (X : K.In h) (G : h.Ns mainGlobals mg) (sd : ∀ p ∈ fl, He.SaysD p.1 p.2 K) (e : ex K = true) : Tx K mg := by
  have s0 : He.SaysD fa [] K := sd _ (List.Mem.head _)
  refine ⟨ex_all e, fun x hx => glo_of X G hx, ?_⟩
  exact (List.forall_mem_cons.mpr ⟨He.free_ok X G (s0.fact 14 (f := .free "abs") rfl), (List.forall_mem_cons.mpr ⟨He.free_ok X G (s0.fact 15 (f := .free "int") rfl), (List.forall_mem_cons.mpr ⟨He.free_ok X G (s0.fact 16 (f := .free "max") rfl), (List.forall_mem_cons.mpr ⟨He.free_ok X G (s0.fact 17 (f := .free "isinstance") rfl), (List.forall_mem_cons.mpr ⟨He.free_ok X G (s0.fact 18 (f := .free "range") rfl), (List.forall_mem_cons.mpr ⟨He.free_ok X G (s0.fact 19 (f := .free "list") rfl), (List.forall_mem_cons.mpr ⟨He.free_ok X G (s0.fact 20 (f := .free "tuple") rfl), (List.forall_mem_cons.mpr ⟨He.free_ok X G (s0.fact 21 (f := .free "dict") rfl), (List.forall_mem_cons.mpr ⟨He.free_ok X G (s0.fact 22 (f := .free "bool") rfl), (List.forall_mem_cons.mpr ⟨He.free_ok X G (s0.fact 23 (f := .free "str") rfl), (List.forall_mem_cons.mpr ⟨He.free_ok X G (s0.fact 24 (f := .free "len") rfl), (List.forall_mem_cons.mpr ⟨He.free_ok X G (s0.fact 25 (f := .free "all") rfl), (List.forall_mem_cons.mpr ⟨He.free_ok X G (s0.fact 26 (f := .free "zip") rfl), (List.forall_mem_cons.mpr ⟨He.free_ok X G (s0.fact 27 (f := .free "ValueError") rfl), (fun _ z => nomatch z)⟩)⟩)⟩)⟩)⟩)⟩)⟩)⟩)⟩)⟩)⟩)⟩)⟩)⟩)
theorem g_law_start (X : K.In h) (G : h.Ns mainGlobals mg) (sd : ∀ p ∈ fl, He.SaysD p.1 p.2 K) : mg "_law_start" = some (.ref (He.ga K "_law_start")) := He.glo_ok X G ((sd (fa, []) (List.Mem.head _)).fact 0 (f := .glo "_law_start") rfl)
theorem g_law_pick (X : K.In h) (G : h.Ns mainGlobals mg) (sd : ∀ p ∈ fl, He.SaysD p.1 p.2 K) : mg "_law_pick" = some (.ref (He.ga K "_law_pick")) := He.glo_ok X G ((sd (fa, []) (List.Mem.head _)).fact 1 (f := .glo "_law_pick") rfl)
theorem g_law_between (X : K.In h) (G : h.Ns mainGlobals mg) (sd : ∀ p ∈ fl, He.SaysD p.1 p.2 K) : mg "_law_between" = some (.ref (He.ga K "_law_between")) := He.glo_ok X G ((sd (fa, []) (List.Mem.head _)).fact 2 (f := .glo "_law_between") rfl)
theorem g_law_same (X : K.In h) (G : h.Ns mainGlobals mg) (sd : ∀ p ∈ fl, He.SaysD p.1 p.2 K) : mg "_law_same" = some (.ref (He.ga K "_law_same")) := He.glo_ok X G ((sd (fa, []) (List.Mem.head _)).fact 3 (f := .glo "_law_same") rfl)
theorem g_law_kinds_of (X : K.In h) (G : h.Ns mainGlobals mg) (sd : ∀ p ∈ fl, He.SaysD p.1 p.2 K) : mg "_law_kinds_of" = some (.ref (He.ga K "_law_kinds_of")) := He.glo_ok X G ((sd (fa, []) (List.Mem.head _)).fact 4 (f := .glo "_law_kinds_of") rfl)
theorem g_law_others (X : K.In h) (G : h.Ns mainGlobals mg) (sd : ∀ p ∈ fl, He.SaysD p.1 p.2 K) : mg "_law_others" = some (.ref (He.ga K "_law_others")) := He.glo_ok X G ((sd (fa, []) (List.Mem.head _)).fact 5 (f := .glo "_law_others") rfl)
theorem g_law_is_other (X : K.In h) (G : h.Ns mainGlobals mg) (sd : ∀ p ∈ fl, He.SaysD p.1 p.2 K) : mg "_law_is_other" = some (.ref (He.ga K "_law_is_other")) := He.glo_ok X G ((sd (fa, []) (List.Mem.head _)).fact 6 (f := .glo "_law_is_other") rfl)
theorem g_law_made_first (X : K.In h) (G : h.Ns mainGlobals mg) (sd : ∀ p ∈ fl, He.SaysD p.1 p.2 K) : mg "_law_made_first" = some (.ref (He.ga K "_law_made_first")) := He.glo_ok X G ((sd (fa, []) (List.Mem.head _)).fact 7 (f := .glo "_law_made_first") rfl)
theorem g_law_made_middle (X : K.In h) (G : h.Ns mainGlobals mg) (sd : ∀ p ∈ fl, He.SaysD p.1 p.2 K) : mg "_law_made_middle" = some (.ref (He.ga K "_law_made_middle")) := He.glo_ok X G ((sd (fa, []) (List.Mem.head _)).fact 8 (f := .glo "_law_made_middle") rfl)
theorem g_law_made_last (X : K.In h) (G : h.Ns mainGlobals mg) (sd : ∀ p ∈ fl, He.SaysD p.1 p.2 K) : mg "_law_made_last" = some (.ref (He.ga K "_law_made_last")) := He.glo_ok X G ((sd (fa, []) (List.Mem.head _)).fact 9 (f := .glo "_law_made_last") rfl)
theorem g_law_made_at (X : K.In h) (G : h.Ns mainGlobals mg) (sd : ∀ p ∈ fl, He.SaysD p.1 p.2 K) : mg "_law_made_at" = some (.ref (He.ga K "_law_made_at")) := He.glo_ok X G ((sd (fa, []) (List.Mem.head _)).fact 10 (f := .glo "_law_made_at") rfl)
theorem g_law_object (X : K.In h) (G : h.Ns mainGlobals mg) (sd : ∀ p ∈ fl, He.SaysD p.1 p.2 K) : mg "_law_object" = some (.ref (He.ga K "_law_object")) := He.glo_ok X G ((sd (fa, []) (List.Mem.head _)).fact 11 (f := .glo "_law_object") rfl)
theorem g_law_very (X : K.In h) (G : h.Ns mainGlobals mg) (sd : ∀ p ∈ fl, He.SaysD p.1 p.2 K) : mg "_law_very" = some (.ref (He.ga K "_law_very")) := He.glo_ok X G ((sd (fa, []) (List.Mem.head _)).fact 12 (f := .glo "_law_very") rfl)
theorem g_law (X : K.In h) (G : h.Ns mainGlobals mg) (sd : ∀ p ∈ fl, He.SaysD p.1 p.2 K) : mg "law" = some (.ref (He.ga K "law")) := He.glo_ok X G ((sd (fa, []) (List.Mem.head _)).fact 13 (f := .glo "law") rfl)
theorem fi_BadNet (sd : ∀ p ∈ fl, He.SaysD p.1 p.2 K) : ∃ fd, FnI K "BadNet" "BadNet.__init__" sI_BadNet fd := (sd ([], fn0) (List.Mem.tail _ (List.Mem.head _))).def_ 0 (d := mkD ("BadNet", some "__init__") "__init__" "BadNet.__init__" (inClass (top 2) 0)) rfl
theorem fi_BadRun (sd : ∀ p ∈ fl, He.SaysD p.1 p.2 K) : ∃ fd, FnI K "BadRun" "BadRun.__init__" sI_BadRun fd := (sd ([], fn0) (List.Mem.tail _ (List.Mem.head _))).def_ 1 (d := mkD ("BadRun", some "__init__") "__init__" "BadRun.__init__" (inClass (top 3) 0)) rfl
theorem fi_BadPlace (sd : ∀ p ∈ fl, He.SaysD p.1 p.2 K) : ∃ fd, FnI K "BadPlace" "BadPlace.__init__" sI_BadPlace fd := (sd ([], fn0) (List.Mem.tail _ (List.Mem.head _))).def_ 2 (d := mkD ("BadPlace", some "__init__") "__init__" "BadPlace.__init__" (inClass (top 4) 0)) rfl
theorem fi_BadAt (sd : ∀ p ∈ fl, He.SaysD p.1 p.2 K) : ∃ fd, FnI K "BadAt" "BadAt.__init__" sI_BadAt fd := (sd ([], fn0) (List.Mem.tail _ (List.Mem.head _))).def_ 3 (d := mkD ("BadAt", some "__init__") "__init__" "BadAt.__init__" (inClass (top 5) 0)) rfl
theorem fi_BadOrder (sd : ∀ p ∈ fl, He.SaysD p.1 p.2 K) : ∃ fd, FnI K "BadOrder" "BadOrder.__init__" sI_BadOrder fd := (sd ([], fn0) (List.Mem.tail _ (List.Mem.head _))).def_ 4 (d := mkD ("BadOrder", some "__init__") "__init__" "BadOrder.__init__" (inClass (top 6) 0)) rfl
theorem fi_BadChain (sd : ∀ p ∈ fl, He.SaysD p.1 p.2 K) : ∃ fd, FnI K "BadChain" "BadChain.__init__" sI_BadChain fd := (sd ([], fn0) (List.Mem.tail _ (List.Mem.head _))).def_ 5 (d := mkD ("BadChain", some "__init__") "__init__" "BadChain.__init__" (inClass (top 7) 0)) rfl
theorem fi_BadNetText (sd : ∀ p ∈ fl, He.SaysD p.1 p.2 K) : ∃ fd, FnI K "BadNetText" "BadNetText.__init__" sI_BadNetText fd := (sd ([], fn0) (List.Mem.tail _ (List.Mem.head _))).def_ 6 (d := mkD ("BadNetText", some "__init__") "__init__" "BadNetText.__init__" (inClass (top 8) 0)) rfl
theorem fi_BadAnswer (sd : ∀ p ∈ fl, He.SaysD p.1 p.2 K) : ∃ fd, FnI K "BadAnswer" "BadAnswer.__init__" sI_BadAnswer fd := (sd ([], fn0) (List.Mem.tail _ (List.Mem.head _))).def_ 7 (d := mkD ("BadAnswer", some "__init__") "__init__" "BadAnswer.__init__" (inClass (top 9) 0)) rfl
theorem fi_BadAnswerText (sd : ∀ p ∈ fl, He.SaysD p.1 p.2 K) : ∃ fd, FnI K "BadAnswerText" "BadAnswerText.__init__" sI_BadAnswerText fd := (sd ([], fn0) (List.Mem.tail _ (List.Mem.head _))).def_ 8 (d := mkD ("BadAnswerText", some "__init__") "__init__" "BadAnswerText.__init__" (inClass (top 10) 0)) rfl
theorem fi_BadWholeText (sd : ∀ p ∈ fl, He.SaysD p.1 p.2 K) : ∃ fd, FnI K "BadWholeText" "BadWholeText.__init__" sI_BadWholeText fd := (sd ([], fn0) (List.Mem.tail _ (List.Mem.head _))).def_ 9 (d := mkD ("BadWholeText", some "__init__") "__init__" "BadWholeText.__init__" (inClass (top 11) 0)) rfl
theorem fi_BadGroup (sd : ∀ p ∈ fl, He.SaysD p.1 p.2 K) : ∃ fd, FnI K "BadGroup" "BadGroup.__init__" sI_BadGroup fd := (sd ([], fn0) (List.Mem.tail _ (List.Mem.head _))).def_ 10 (d := mkD ("BadGroup", some "__init__") "__init__" "BadGroup.__init__" (inClass (top 12) 0)) rfl
theorem fi_BadGate (sd : ∀ p ∈ fl, He.SaysD p.1 p.2 K) : ∃ fd, FnI K "BadGate" "BadGate.__init__" sI_BadGate fd := (sd ([], fn0) (List.Mem.tail _ (List.Mem.head _))).def_ 11 (d := mkD ("BadGate", some "__init__") "__init__" "BadGate.__init__" (inClass (top 13) 0)) rfl
theorem fi_BadWire (sd : ∀ p ∈ fl, He.SaysD p.1 p.2 K) : ∃ fd, FnI K "BadWire" "BadWire.__init__" sI_BadWire fd := (sd ([], fn0) (List.Mem.tail _ (List.Mem.head _))).def_ 12 (d := mkD ("BadWire", some "__init__") "__init__" "BadWire.__init__" (inClass (top 14) 0)) rfl
theorem fi_BadBound (sd : ∀ p ∈ fl, He.SaysD p.1 p.2 K) : ∃ fd, FnI K "BadBound" "BadBound.__init__" sI_BadBound fd := (sd ([], fn0) (List.Mem.tail _ (List.Mem.head _))).def_ 13 (d := mkD ("BadBound", some "__init__") "__init__" "BadBound.__init__" (inClass (top 15) 0)) rfl
theorem fi_DarkPanel (sd : ∀ p ∈ fl, He.SaysD p.1 p.2 K) : ∃ fd, FnI K "DarkPanel" "DarkPanel.__init__" sI_DarkPanel fd := (sd ([], fn0) (List.Mem.tail _ (List.Mem.head _))).def_ 14 (d := mkD ("DarkPanel", some "__init__") "__init__" "DarkPanel.__init__" (inClass (top 16) 0)) rfl
theorem fi_BadBegin (sd : ∀ p ∈ fl, He.SaysD p.1 p.2 K) : ∃ fd, FnI K "BadBegin" "BadBegin.__init__" sI_BadBegin fd := (sd ([], fn0) (List.Mem.tail _ (List.Mem.head _))).def_ 15 (d := mkD ("BadBegin", some "__init__") "__init__" "BadBegin.__init__" (inClass (top 18) 0)) rfl
theorem fi_BadEnd (sd : ∀ p ∈ fl, He.SaysD p.1 p.2 K) : ∃ fd, FnI K "BadEnd" "BadEnd.__init__" sI_BadEnd fd := (sd ([], fn0) (List.Mem.tail _ (List.Mem.head _))).def_ 16 (d := mkD ("BadEnd", some "__init__") "__init__" "BadEnd.__init__" (inClass (top 19) 0)) rfl
theorem fi_BadLit (sd : ∀ p ∈ fl, He.SaysD p.1 p.2 K) : ∃ fd, FnI K "BadLit" "BadLit.__init__" sI_BadLit fd := (sd ([], fn0) (List.Mem.tail _ (List.Mem.head _))).def_ 17 (d := mkD ("BadLit", some "__init__") "__init__" "BadLit.__init__" (inClass (top 20) 0)) rfl
theorem fi_BadDark (sd : ∀ p ∈ fl, He.SaysD p.1 p.2 K) : ∃ fd, FnI K "BadDark" "BadDark.__init__" sI_BadDark fd := (sd ([], fn0) (List.Mem.tail _ (List.Mem.head _))).def_ 18 (d := mkD ("BadDark", some "__init__") "__init__" "BadDark.__init__" (inClass (top 21) 0)) rfl
theorem fi_BadWires (sd : ∀ p ∈ fl, He.SaysD p.1 p.2 K) : ∃ fd, FnI K "BadWires" "BadWires.__init__" sI_BadWires fd := (sd ([], fn0) (List.Mem.tail _ (List.Mem.head _))).def_ 19 (d := mkD ("BadWires", some "__init__") "__init__" "BadWires.__init__" (inClass (top 22) 0)) rfl
theorem fi_BadPrices (sd : ∀ p ∈ fl, He.SaysD p.1 p.2 K) : ∃ fd, FnI K "BadPrices" "BadPrices.__init__" sI_BadPrices fd := (sd ([], fn0) (List.Mem.tail _ (List.Mem.head _))).def_ 20 (d := mkD ("BadPrices", some "__init__") "__init__" "BadPrices.__init__" (inClass (top 23) 0)) rfl
theorem fi_BadDrop (sd : ∀ p ∈ fl, He.SaysD p.1 p.2 K) : ∃ fd, FnI K "BadDrop" "BadDrop.__init__" sI_BadDrop fd := (sd ([], fn0) (List.Mem.tail _ (List.Mem.head _))).def_ 21 (d := mkD ("BadDrop", some "__init__") "__init__" "BadDrop.__init__" (inClass (top 24) 0)) rfl
theorem fi_BadWishes (sd : ∀ p ∈ fl, He.SaysD p.1 p.2 K) : ∃ fd, FnI K "BadWishes" "BadWishes.__init__" sI_BadWishes fd := (sd ([], fn0) (List.Mem.tail _ (List.Mem.head _))).def_ 22 (d := mkD ("BadWishes", some "__init__") "__init__" "BadWishes.__init__" (inClass (top 25) 0)) rfl
theorem fi_BadFlips (sd : ∀ p ∈ fl, He.SaysD p.1 p.2 K) : ∃ fd, FnI K "BadFlips" "BadFlips.__init__" sI_BadFlips fd := (sd ([], fn0) (List.Mem.tail _ (List.Mem.head _))).def_ 23 (d := mkD ("BadFlips", some "__init__") "__init__" "BadFlips.__init__" (inClass (top 26) 0)) rfl
theorem fi_BadSums (sd : ∀ p ∈ fl, He.SaysD p.1 p.2 K) : ∃ fd, FnI K "BadSums" "BadSums.__init__" sI_BadSums fd := (sd ([], fn0) (List.Mem.tail _ (List.Mem.head _))).def_ 24 (d := mkD ("BadSums", some "__init__") "__init__" "BadSums.__init__" (inClass (top 27) 0)) rfl
theorem fi_BadFormula (sd : ∀ p ∈ fl, He.SaysD p.1 p.2 K) : ∃ fd, FnI K "BadFormula" "BadFormula.__init__" sI_BadFormula fd := (sd ([], fn0) (List.Mem.tail _ (List.Mem.head _))).def_ 25 (d := mkD ("BadFormula", some "__init__") "__init__" "BadFormula.__init__" (inClass (top 28) 0)) rfl
theorem fi_BadPanels (sd : ∀ p ∈ fl, He.SaysD p.1 p.2 K) : ∃ fd, FnI K "BadPanels" "BadPanels.__init__" sI_BadPanels fd := (sd ([], fn0) (List.Mem.tail _ (List.Mem.head _))).def_ 26 (d := mkD ("BadPanels", some "__init__") "__init__" "BadPanels.__init__" (inClass (top 29) 0)) rfl
theorem fi_BadLamp (sd : ∀ p ∈ fl, He.SaysD p.1 p.2 K) : ∃ fd, FnI K "BadLamp" "BadLamp.__init__" sI_BadLamp fd := (sd ([], fn1) (List.Mem.tail _ (List.Mem.tail _ (List.Mem.head _)))).def_ 0 (d := mkD ("BadLamp", some "__init__") "__init__" "BadLamp.__init__" (inClass (top 30) 0)) rfl
theorem fi_BadShared (sd : ∀ p ∈ fl, He.SaysD p.1 p.2 K) : ∃ fd, FnI K "BadShared" "BadShared.__init__" sI_BadShared fd := (sd ([], fn1) (List.Mem.tail _ (List.Mem.tail _ (List.Mem.head _)))).def_ 1 (d := mkD ("BadShared", some "__init__") "__init__" "BadShared.__init__" (inClass (top 31) 0)) rfl
theorem fi_BadShare (sd : ∀ p ∈ fl, He.SaysD p.1 p.2 K) : ∃ fd, FnI K "BadShare" "BadShare.__init__" sI_BadShare fd := (sd ([], fn1) (List.Mem.tail _ (List.Mem.tail _ (List.Mem.head _)))).def_ 2 (d := mkD ("BadShare", some "__init__") "__init__" "BadShare.__init__" (inClass (top 32) 0)) rfl
theorem fi_DarkPanels (sd : ∀ p ∈ fl, He.SaysD p.1 p.2 K) : ∃ fd, FnI K "DarkPanels" "DarkPanels.__init__" sI_DarkPanels fd := (sd ([], fn1) (List.Mem.tail _ (List.Mem.tail _ (List.Mem.head _)))).def_ 3 (d := mkD ("DarkPanels", some "__init__") "__init__" "DarkPanels.__init__" (inClass (top 33) 0)) rfl
theorem fi_BadEdit (sd : ∀ p ∈ fl, He.SaysD p.1 p.2 K) : ∃ fd, FnI K "BadEdit" "BadEdit.__init__" sI_BadEdit fd := (sd ([], fn1) (List.Mem.tail _ (List.Mem.tail _ (List.Mem.head _)))).def_ 4 (d := mkD ("BadEdit", some "__init__") "__init__" "BadEdit.__init__" (inClass (top 34) 0)) rfl
theorem fi_BadDesk (sd : ∀ p ∈ fl, He.SaysD p.1 p.2 K) : ∃ fd, FnI K "BadDesk" "BadDesk.__init__" sI_BadDesk fd := (sd ([], fn1) (List.Mem.tail _ (List.Mem.tail _ (List.Mem.head _)))).def_ 5 (d := mkD ("BadDesk", some "__init__") "__init__" "BadDesk.__init__" (inClass (top 35) 0)) rfl
theorem fi_BadDeskText (sd : ∀ p ∈ fl, He.SaysD p.1 p.2 K) : ∃ fd, FnI K "BadDeskText" "BadDeskText.__init__" sI_BadDeskText fd := (sd ([], fn1) (List.Mem.tail _ (List.Mem.tail _ (List.Mem.head _)))).def_ 6 (d := mkD ("BadDeskText", some "__init__") "__init__" "BadDeskText.__init__" (inClass (top 36) 0)) rfl
theorem fi_BadMachine (sd : ∀ p ∈ fl, He.SaysD p.1 p.2 K) : ∃ fd, FnI K "BadMachine" "BadMachine.__init__" sI_BadMachine fd := (sd ([], fn1) (List.Mem.tail _ (List.Mem.tail _ (List.Mem.head _)))).def_ 7 (d := mkD ("BadMachine", some "__init__") "__init__" "BadMachine.__init__" (inClass (top 40) 0)) rfl
theorem fi_BadLamps (sd : ∀ p ∈ fl, He.SaysD p.1 p.2 K) : ∃ fd, FnI K "BadLamps" "BadLamps.__init__" sI_BadLamps fd := (sd ([], fn1) (List.Mem.tail _ (List.Mem.tail _ (List.Mem.head _)))).def_ 8 (d := mkD ("BadLamps", some "__init__") "__init__" "BadLamps.__init__" (inClass (top 41) 0)) rfl
theorem fi_BadStates (sd : ∀ p ∈ fl, He.SaysD p.1 p.2 K) : ∃ fd, FnI K "BadStates" "BadStates.__init__" sI_BadStates fd := (sd ([], fn1) (List.Mem.tail _ (List.Mem.tail _ (List.Mem.head _)))).def_ 9 (d := mkD ("BadStates", some "__init__") "__init__" "BadStates.__init__" (inClass (top 42) 0)) rfl
theorem fi_BadMoves (sd : ∀ p ∈ fl, He.SaysD p.1 p.2 K) : ∃ fd, FnI K "BadMoves" "BadMoves.__init__" sI_BadMoves fd := (sd ([], fn1) (List.Mem.tail _ (List.Mem.tail _ (List.Mem.head _)))).def_ 10 (d := mkD ("BadMoves", some "__init__") "__init__" "BadMoves.__init__" (inClass (top 43) 0)) rfl
theorem fi_BadName (sd : ∀ p ∈ fl, He.SaysD p.1 p.2 K) : ∃ fd, FnI K "BadName" "BadName.__init__" sI_BadName fd := (sd ([], fn1) (List.Mem.tail _ (List.Mem.tail _ (List.Mem.head _)))).def_ 11 (d := mkD ("BadName", some "__init__") "__init__" "BadName.__init__" (inClass (top 44) 0)) rfl
theorem fi_BadWalk (sd : ∀ p ∈ fl, He.SaysD p.1 p.2 K) : ∃ fd, FnI K "BadWalk" "BadWalk.__init__" sI_BadWalk fd := (sd ([], fn1) (List.Mem.tail _ (List.Mem.tail _ (List.Mem.head _)))).def_ 12 (d := mkD ("BadWalk", some "__init__") "__init__" "BadWalk.__init__" (inClass (top 45) 0)) rfl
theorem fi_BadMachineText (sd : ∀ p ∈ fl, He.SaysD p.1 p.2 K) : ∃ fd, FnI K "BadMachineText" "BadMachineText.__init__" sI_BadMachineText fd := (sd ([], fn1) (List.Mem.tail _ (List.Mem.tail _ (List.Mem.head _)))).def_ 13 (d := mkD ("BadMachineText", some "__init__") "__init__" "BadMachineText.__init__" (inClass (top 46) 0)) rfl
theorem fi_BadCode (sd : ∀ p ∈ fl, He.SaysD p.1 p.2 K) : ∃ fd, FnI K "BadCode" "BadCode.__init__" sI_BadCode fd := (sd ([], fn1) (List.Mem.tail _ (List.Mem.tail _ (List.Mem.head _)))).def_ 14 (d := mkD ("BadCode", some "__init__") "__init__" "BadCode.__init__" (inClass (top 47) 0)) rfl
theorem fi_BadMove (sd : ∀ p ∈ fl, He.SaysD p.1 p.2 K) : ∃ fd, FnI K "BadMove" "BadMove.__init__" sI_BadMove fd := (sd ([], fn1) (List.Mem.tail _ (List.Mem.tail _ (List.Mem.head _)))).def_ 15 (d := mkD ("BadMove", some "__init__") "__init__" "BadMove.__init__" (inClass (top 48) 0)) rfl
theorem fi_BadNets (sd : ∀ p ∈ fl, He.SaysD p.1 p.2 K) : ∃ fd, FnI K "BadNets" "BadNets.__init__" sI_BadNets fd := (sd ([], fn1) (List.Mem.tail _ (List.Mem.tail _ (List.Mem.head _)))).def_ 16 (d := mkD ("BadNets", some "__init__") "__init__" "BadNets.__init__" (inClass (top 49) 0)) rfl
theorem fi_BadRuns (sd : ∀ p ∈ fl, He.SaysD p.1 p.2 K) : ∃ fd, FnI K "BadRuns" "BadRuns.__init__" sI_BadRuns fd := (sd ([], fn1) (List.Mem.tail _ (List.Mem.tail _ (List.Mem.head _)))).def_ 17 (d := mkD ("BadRuns", some "__init__") "__init__" "BadRuns.__init__" (inClass (top 50) 0)) rfl
theorem fi_BadLog (sd : ∀ p ∈ fl, He.SaysD p.1 p.2 K) : ∃ fd, FnI K "BadLog" "BadLog.__init__" sI_BadLog fd := (sd ([], fn1) (List.Mem.tail _ (List.Mem.tail _ (List.Mem.head _)))).def_ 18 (d := mkD ("BadLog", some "__init__") "__init__" "BadLog.__init__" (inClass (top 51) 0)) rfl
theorem fi_BadLogText (sd : ∀ p ∈ fl, He.SaysD p.1 p.2 K) : ∃ fd, FnI K "BadLogText" "BadLogText.__init__" sI_BadLogText fd := (sd ([], fn1) (List.Mem.tail _ (List.Mem.tail _ (List.Mem.head _)))).def_ 19 (d := mkD ("BadLogText", some "__init__") "__init__" "BadLogText.__init__" (inClass (top 52) 0)) rfl
theorem fi_BadMany (sd : ∀ p ∈ fl, He.SaysD p.1 p.2 K) : ∃ fd, FnI K "BadMany" "BadMany.__init__" sI_BadMany fd := (sd ([], fn1) (List.Mem.tail _ (List.Mem.tail _ (List.Mem.head _)))).def_ 20 (d := mkD ("BadMany", some "__init__") "__init__" "BadMany.__init__" (inClass (top 54) 0)) rfl
theorem fi_BadNumber (sd : ∀ p ∈ fl, He.SaysD p.1 p.2 K) : ∃ fd, FnI K "BadNumber" "BadNumber.__init__" sI_BadNumber fd := (sd ([], fn1) (List.Mem.tail _ (List.Mem.tail _ (List.Mem.head _)))).def_ 21 (d := mkD ("BadNumber", some "__init__") "__init__" "BadNumber.__init__" (inClass (top 55) 0)) rfl
theorem fi_BadCell (sd : ∀ p ∈ fl, He.SaysD p.1 p.2 K) : ∃ fd, FnI K "BadCell" "BadCell.__init__" sI_BadCell fd := (sd ([], fn1) (List.Mem.tail _ (List.Mem.tail _ (List.Mem.head _)))).def_ 22 (d := mkD ("BadCell", some "__init__") "__init__" "BadCell.__init__" (inClass (top 56) 0)) rfl
theorem fi_BadCube (sd : ∀ p ∈ fl, He.SaysD p.1 p.2 K) : ∃ fd, FnI K "BadCube" "BadCube.__init__" sI_BadCube fd := (sd ([], fn1) (List.Mem.tail _ (List.Mem.tail _ (List.Mem.head _)))).def_ 23 (d := mkD ("BadCube", some "__init__") "__init__" "BadCube.__init__" (inClass (top 57) 0)) rfl
theorem fi_BadOther (sd : ∀ p ∈ fl, He.SaysD p.1 p.2 K) : ∃ fd, FnI K "BadOther" "BadOther.__init__" sI_BadOther fd := (sd ([], fn1) (List.Mem.tail _ (List.Mem.tail _ (List.Mem.head _)))).def_ 24 (d := mkD ("BadOther", some "__init__") "__init__" "BadOther.__init__" (inClass (top 58) 0)) rfl
theorem fi_BadCubes (sd : ∀ p ∈ fl, He.SaysD p.1 p.2 K) : ∃ fd, FnI K "BadCubes" "BadCubes.__init__" sI_BadCubes fd := (sd ([], fn1) (List.Mem.tail _ (List.Mem.tail _ (List.Mem.head _)))).def_ 25 (d := mkD ("BadCubes", some "__init__") "__init__" "BadCubes.__init__" (inClass (top 59) 0)) rfl
theorem fi_BadLevers (sd : ∀ p ∈ fl, He.SaysD p.1 p.2 K) : ∃ fd, FnI K "BadLevers" "BadLevers.__init__" sI_BadLevers fd := (sd ([], fn1) (List.Mem.tail _ (List.Mem.tail _ (List.Mem.head _)))).def_ 26 (d := mkD ("BadLevers", some "__init__") "__init__" "BadLevers.__init__" (inClass (top 60) 0)) rfl
theorem fi_BadTable (sd : ∀ p ∈ fl, He.SaysD p.1 p.2 K) : ∃ fd, FnI K "BadTable" "BadTable.__init__" sI_BadTable fd := (sd ([], fn2) (List.Mem.tail _ (List.Mem.tail _ (List.Mem.tail _ (List.Mem.head _))))).def_ 0 (d := mkD ("BadTable", some "__init__") "__init__" "BadTable.__init__" (inClass (top 61) 0)) rfl
theorem fi_BadBursts (sd : ∀ p ∈ fl, He.SaysD p.1 p.2 K) : ∃ fd, FnI K "BadBursts" "BadBursts.__init__" sI_BadBursts fd := (sd ([], fn2) (List.Mem.tail _ (List.Mem.tail _ (List.Mem.tail _ (List.Mem.head _))))).def_ 1 (d := mkD ("BadBursts", some "__init__") "__init__" "BadBursts.__init__" (inClass (top 62) 0)) rfl
theorem fi_BadPanel (sd : ∀ p ∈ fl, He.SaysD p.1 p.2 K) : ∃ fd, FnI K "BadPanel" "BadPanel.__init__" sI_BadPanel fd := (sd ([], fn2) (List.Mem.tail _ (List.Mem.tail _ (List.Mem.tail _ (List.Mem.head _))))).def_ 2 (d := mkD ("BadPanel", some "__init__") "__init__" "BadPanel.__init__" (inClass (top 63) 0)) rfl
theorem fi_BadIndex (sd : ∀ p ∈ fl, He.SaysD p.1 p.2 K) : ∃ fd, FnI K "BadIndex" "BadIndex.__init__" sI_BadIndex fd := (sd ([], fn2) (List.Mem.tail _ (List.Mem.tail _ (List.Mem.tail _ (List.Mem.head _))))).def_ 3 (d := mkD ("BadIndex", some "__init__") "__init__" "BadIndex.__init__" (inClass (top 64) 0)) rfl
theorem fi_BadSign (sd : ∀ p ∈ fl, He.SaysD p.1 p.2 K) : ∃ fd, FnI K "BadSign" "BadSign.__init__" sI_BadSign fd := (sd ([], fn2) (List.Mem.tail _ (List.Mem.tail _ (List.Mem.tail _ (List.Mem.head _))))).def_ 4 (d := mkD ("BadSign", some "__init__") "__init__" "BadSign.__init__" (inClass (top 65) 0)) rfl
theorem fi_BadOn (sd : ∀ p ∈ fl, He.SaysD p.1 p.2 K) : ∃ fd, FnI K "BadOn" "BadOn.__init__" sI_BadOn fd := (sd ([], fn2) (List.Mem.tail _ (List.Mem.tail _ (List.Mem.tail _ (List.Mem.head _))))).def_ 5 (d := mkD ("BadOn", some "__init__") "__init__" "BadOn.__init__" (inClass (top 66) 0)) rfl
theorem fi_BadOff (sd : ∀ p ∈ fl, He.SaysD p.1 p.2 K) : ∃ fd, FnI K "BadOff" "BadOff.__init__" sI_BadOff fd := (sd ([], fn2) (List.Mem.tail _ (List.Mem.tail _ (List.Mem.tail _ (List.Mem.head _))))).def_ 6 (d := mkD ("BadOff", some "__init__") "__init__" "BadOff.__init__" (inClass (top 67) 0)) rfl
theorem fi_BadClash (sd : ∀ p ∈ fl, He.SaysD p.1 p.2 K) : ∃ fd, FnI K "BadClash" "BadClash.__init__" sI_BadClash fd := (sd ([], fn2) (List.Mem.tail _ (List.Mem.tail _ (List.Mem.tail _ (List.Mem.head _))))).def_ 7 (d := mkD ("BadClash", some "__init__") "__init__" "BadClash.__init__" (inClass (top 68) 0)) rfl
theorem fi_BadPanelText (sd : ∀ p ∈ fl, He.SaysD p.1 p.2 K) : ∃ fd, FnI K "BadPanelText" "BadPanelText.__init__" sI_BadPanelText fd := (sd ([], fn2) (List.Mem.tail _ (List.Mem.tail _ (List.Mem.tail _ (List.Mem.head _))))).def_ 8 (d := mkD ("BadPanelText", some "__init__") "__init__" "BadPanelText.__init__" (inClass (top 69) 0)) rfl
theorem fi_BadPath (sd : ∀ p ∈ fl, He.SaysD p.1 p.2 K) : ∃ fd, FnI K "BadPath" "BadPath.__init__" sI_BadPath fd := (sd ([], fn2) (List.Mem.tail _ (List.Mem.tail _ (List.Mem.tail _ (List.Mem.head _))))).def_ 9 (d := mkD ("BadPath", some "__init__") "__init__" "BadPath.__init__" (inClass (top 70) 0)) rfl
theorem fi_BadStep (sd : ∀ p ∈ fl, He.SaysD p.1 p.2 K) : ∃ fd, FnI K "BadStep" "BadStep.__init__" sI_BadStep fd := (sd ([], fn2) (List.Mem.tail _ (List.Mem.tail _ (List.Mem.tail _ (List.Mem.head _))))).def_ 10 (d := mkD ("BadStep", some "__init__") "__init__" "BadStep.__init__" (inClass (top 71) 0)) rfl
theorem fi_BadSteps (sd : ∀ p ∈ fl, He.SaysD p.1 p.2 K) : ∃ fd, FnI K "BadSteps" "BadSteps.__init__" sI_BadSteps fd := (sd ([], fn2) (List.Mem.tail _ (List.Mem.tail _ (List.Mem.tail _ (List.Mem.head _))))).def_ 11 (d := mkD ("BadSteps", some "__init__") "__init__" "BadSteps.__init__" (inClass (top 72) 0)) rfl
theorem f_law_start (sd : ∀ p ∈ fl, He.SaysD p.1 p.2 K) : ∃ fd, FnP K "_law_start" s_law_start (He.ga K "_law_start") fd := (sd ([], fn2) (List.Mem.tail _ (List.Mem.tail _ (List.Mem.tail _ (List.Mem.head _))))).def_ 12 (d := mkD ("_law_start", none) "_law_start" "_law_start" (top 74)) rfl
theorem f_law_pick (sd : ∀ p ∈ fl, He.SaysD p.1 p.2 K) : ∃ fd, FnP K "_law_pick" s_law_pick (He.ga K "_law_pick") fd := (sd ([], fn2) (List.Mem.tail _ (List.Mem.tail _ (List.Mem.tail _ (List.Mem.head _))))).def_ 13 (d := mkD ("_law_pick", none) "_law_pick" "_law_pick" (top 75)) rfl
theorem f_law_between (sd : ∀ p ∈ fl, He.SaysD p.1 p.2 K) : ∃ fd, FnP K "_law_between" s_law_between (He.ga K "_law_between") fd := (sd ([], fn2) (List.Mem.tail _ (List.Mem.tail _ (List.Mem.tail _ (List.Mem.head _))))).def_ 14 (d := mkD ("_law_between", none) "_law_between" "_law_between" (top 76)) rfl
theorem f_law_same (sd : ∀ p ∈ fl, He.SaysD p.1 p.2 K) : ∃ fd, FnP K "_law_same" s_law_same (He.ga K "_law_same") fd := (sd ([], fn2) (List.Mem.tail _ (List.Mem.tail _ (List.Mem.tail _ (List.Mem.head _))))).def_ 15 (d := mkD ("_law_same", none) "_law_same" "_law_same" (top 77)) rfl
theorem f_law_kinds_of (sd : ∀ p ∈ fl, He.SaysD p.1 p.2 K) : ∃ fd, FnP K "_law_kinds_of" s_law_kinds_of (He.ga K "_law_kinds_of") fd := (sd ([], fn2) (List.Mem.tail _ (List.Mem.tail _ (List.Mem.tail _ (List.Mem.head _))))).def_ 16 (d := mkD ("_law_kinds_of", none) "_law_kinds_of" "_law_kinds_of" (top 78)) rfl
theorem f_law_others (sd : ∀ p ∈ fl, He.SaysD p.1 p.2 K) : ∃ fd, FnP K "_law_others" s_law_others (He.ga K "_law_others") fd := (sd ([], fn2) (List.Mem.tail _ (List.Mem.tail _ (List.Mem.tail _ (List.Mem.head _))))).def_ 17 (d := mkD ("_law_others", none) "_law_others" "_law_others" (top 79)) rfl
theorem f_law_is_other (sd : ∀ p ∈ fl, He.SaysD p.1 p.2 K) : ∃ fd, FnP K "_law_is_other" s_law_is_other (He.ga K "_law_is_other") fd := (sd ([], fn2) (List.Mem.tail _ (List.Mem.tail _ (List.Mem.tail _ (List.Mem.head _))))).def_ 18 (d := mkD ("_law_is_other", none) "_law_is_other" "_law_is_other" (top 80)) rfl
theorem f_law_made_first (sd : ∀ p ∈ fl, He.SaysD p.1 p.2 K) : ∃ fd, FnP K "_law_made_first" s_law_made_first (He.ga K "_law_made_first") fd := (sd ([], fn2) (List.Mem.tail _ (List.Mem.tail _ (List.Mem.tail _ (List.Mem.head _))))).def_ 19 (d := mkD ("_law_made_first", none) "_law_made_first" "_law_made_first" (top 81)) rfl
theorem f_law_made_middle (sd : ∀ p ∈ fl, He.SaysD p.1 p.2 K) : ∃ fd, FnP K "_law_made_middle" s_law_made_middle (He.ga K "_law_made_middle") fd := (sd ([], fn2) (List.Mem.tail _ (List.Mem.tail _ (List.Mem.tail _ (List.Mem.head _))))).def_ 20 (d := mkD ("_law_made_middle", none) "_law_made_middle" "_law_made_middle" (top 82)) rfl
theorem f_law_made_last (sd : ∀ p ∈ fl, He.SaysD p.1 p.2 K) : ∃ fd, FnP K "_law_made_last" s_law_made_last (He.ga K "_law_made_last") fd := (sd ([], fn2) (List.Mem.tail _ (List.Mem.tail _ (List.Mem.tail _ (List.Mem.head _))))).def_ 21 (d := mkD ("_law_made_last", none) "_law_made_last" "_law_made_last" (top 83)) rfl
theorem f_law_made_at (sd : ∀ p ∈ fl, He.SaysD p.1 p.2 K) : ∃ fd, FnP K "_law_made_at" s_law_made_at (He.ga K "_law_made_at") fd := (sd ([], fn2) (List.Mem.tail _ (List.Mem.tail _ (List.Mem.tail _ (List.Mem.head _))))).def_ 22 (d := mkD ("_law_made_at", none) "_law_made_at" "_law_made_at" (top 84)) rfl
theorem f_law_object (sd : ∀ p ∈ fl, He.SaysD p.1 p.2 K) : ∃ fd, FnP K "_law_object" s_law_object (He.ga K "_law_object") fd := (sd ([], fn2) (List.Mem.tail _ (List.Mem.tail _ (List.Mem.tail _ (List.Mem.head _))))).def_ 23 (d := mkD ("_law_object", none) "_law_object" "_law_object" (top 85)) rfl
theorem f_law_very (sd : ∀ p ∈ fl, He.SaysD p.1 p.2 K) : ∃ fd, FnP K "_law_very" s_law_very (He.ga K "_law_very") fd := (sd ([], fn2) (List.Mem.tail _ (List.Mem.tail _ (List.Mem.tail _ (List.Mem.head _))))).def_ 24 (d := mkD ("_law_very", none) "_law_very" "_law_very" (top 86)) rfl
theorem f_law (sd : ∀ p ∈ fl, He.SaysD p.1 p.2 K) : ∃ fd, FnP K "law" s_law (He.ga K "law") fd := (sd ([], fn2) (List.Mem.tail _ (List.Mem.tail _ (List.Mem.tail _ (List.Mem.head _))))).def_ 25 (d := mkD ("law", none) "law" "law" (top 87)) rfl
theorem inis (T : Tx K mg) (sd : ∀ p ∈ fl, He.SaysD p.1 p.2 K) : ∀ p ∈ cls, IniOk P w K mg base p := by
  have h0 : ∀ p ∈ cls0, IniOk P w K mg base p := by
    refine List.forall_mem_cons.mpr ⟨let ⟨_, F⟩ := fi_BadNet sd; ini_BadNet F T, ?_⟩
    refine List.forall_mem_cons.mpr ⟨let ⟨_, F⟩ := fi_BadRun sd; ini_BadRun F T, ?_⟩
    refine List.forall_mem_cons.mpr ⟨let ⟨_, F⟩ := fi_BadPlace sd; ini_BadPlace F T, ?_⟩
    refine List.forall_mem_cons.mpr ⟨let ⟨_, F⟩ := fi_BadAt sd; ini_BadAt F T, ?_⟩
    refine List.forall_mem_cons.mpr ⟨let ⟨_, F⟩ := fi_BadOrder sd; ini_BadOrder F T, ?_⟩
    refine List.forall_mem_cons.mpr ⟨let ⟨_, F⟩ := fi_BadChain sd; ini_BadChain F T, ?_⟩
    refine List.forall_mem_cons.mpr ⟨let ⟨_, F⟩ := fi_BadNetText sd; ini_BadNetText F T, ?_⟩
    refine List.forall_mem_cons.mpr ⟨let ⟨_, F⟩ := fi_BadAnswer sd; ini_BadAnswer F T, ?_⟩
    refine List.forall_mem_cons.mpr ⟨let ⟨_, F⟩ := fi_BadAnswerText sd; ini_BadAnswerText F T, ?_⟩
    refine List.forall_mem_cons.mpr ⟨let ⟨_, F⟩ := fi_BadWholeText sd; ini_BadWholeText F T, ?_⟩
    refine List.forall_mem_cons.mpr ⟨let ⟨_, F⟩ := fi_BadGroup sd; ini_BadGroup F T, ?_⟩
    refine List.forall_mem_cons.mpr ⟨let ⟨_, F⟩ := fi_BadGate sd; ini_BadGate F T, ?_⟩
    refine List.forall_mem_cons.mpr ⟨let ⟨_, F⟩ := fi_BadWire sd; ini_BadWire F T, ?_⟩
    refine List.forall_mem_cons.mpr ⟨let ⟨_, F⟩ := fi_BadBound sd; ini_BadBound F T, ?_⟩
    refine List.forall_mem_cons.mpr ⟨let ⟨_, F⟩ := fi_DarkPanel sd; ini_DarkPanel F T, ?_⟩
    refine List.forall_mem_cons.mpr ⟨let ⟨_, F⟩ := fi_BadBegin sd; ini_BadBegin F T, ?_⟩
    refine List.forall_mem_cons.mpr ⟨let ⟨_, F⟩ := fi_BadEnd sd; ini_BadEnd F T, ?_⟩
    refine List.forall_mem_cons.mpr ⟨let ⟨_, F⟩ := fi_BadLit sd; ini_BadLit F T, ?_⟩
    refine List.forall_mem_cons.mpr ⟨let ⟨_, F⟩ := fi_BadDark sd; ini_BadDark F T, ?_⟩
    refine List.forall_mem_cons.mpr ⟨let ⟨_, F⟩ := fi_BadWires sd; ini_BadWires F T, ?_⟩
    exact fun _ z => nomatch z
  have h1 : ∀ p ∈ cls1, IniOk P w K mg base p := by
    refine List.forall_mem_cons.mpr ⟨let ⟨_, F⟩ := fi_BadPrices sd; ini_BadPrices F T, ?_⟩
    refine List.forall_mem_cons.mpr ⟨let ⟨_, F⟩ := fi_BadDrop sd; ini_BadDrop F T, ?_⟩
    refine List.forall_mem_cons.mpr ⟨let ⟨_, F⟩ := fi_BadWishes sd; ini_BadWishes F T, ?_⟩
    refine List.forall_mem_cons.mpr ⟨let ⟨_, F⟩ := fi_BadFlips sd; ini_BadFlips F T, ?_⟩
    refine List.forall_mem_cons.mpr ⟨let ⟨_, F⟩ := fi_BadSums sd; ini_BadSums F T, ?_⟩
    refine List.forall_mem_cons.mpr ⟨let ⟨_, F⟩ := fi_BadFormula sd; ini_BadFormula F T, ?_⟩
    refine List.forall_mem_cons.mpr ⟨let ⟨_, F⟩ := fi_BadPanels sd; ini_BadPanels F T, ?_⟩
    refine List.forall_mem_cons.mpr ⟨let ⟨_, F⟩ := fi_BadLamp sd; ini_BadLamp F T, ?_⟩
    refine List.forall_mem_cons.mpr ⟨let ⟨_, F⟩ := fi_BadShared sd; ini_BadShared F T, ?_⟩
    refine List.forall_mem_cons.mpr ⟨let ⟨_, F⟩ := fi_BadShare sd; ini_BadShare F T, ?_⟩
    refine List.forall_mem_cons.mpr ⟨let ⟨_, F⟩ := fi_DarkPanels sd; ini_DarkPanels F T, ?_⟩
    refine List.forall_mem_cons.mpr ⟨let ⟨_, F⟩ := fi_BadEdit sd; ini_BadEdit F T, ?_⟩
    refine List.forall_mem_cons.mpr ⟨let ⟨_, F⟩ := fi_BadDesk sd; ini_BadDesk F T, ?_⟩
    refine List.forall_mem_cons.mpr ⟨let ⟨_, F⟩ := fi_BadDeskText sd; ini_BadDeskText F T, ?_⟩
    refine List.forall_mem_cons.mpr ⟨let ⟨_, F⟩ := fi_BadMachine sd; ini_BadMachine F T, ?_⟩
    refine List.forall_mem_cons.mpr ⟨let ⟨_, F⟩ := fi_BadLamps sd; ini_BadLamps F T, ?_⟩
    refine List.forall_mem_cons.mpr ⟨let ⟨_, F⟩ := fi_BadStates sd; ini_BadStates F T, ?_⟩
    refine List.forall_mem_cons.mpr ⟨let ⟨_, F⟩ := fi_BadMoves sd; ini_BadMoves F T, ?_⟩
    refine List.forall_mem_cons.mpr ⟨let ⟨_, F⟩ := fi_BadName sd; ini_BadName F T, ?_⟩
    refine List.forall_mem_cons.mpr ⟨let ⟨_, F⟩ := fi_BadWalk sd; ini_BadWalk F T, ?_⟩
    exact fun _ z => nomatch z
  have h2 : ∀ p ∈ cls2, IniOk P w K mg base p := by
    refine List.forall_mem_cons.mpr ⟨let ⟨_, F⟩ := fi_BadMachineText sd; ini_BadMachineText F T, ?_⟩
    refine List.forall_mem_cons.mpr ⟨let ⟨_, F⟩ := fi_BadCode sd; ini_BadCode F T, ?_⟩
    refine List.forall_mem_cons.mpr ⟨let ⟨_, F⟩ := fi_BadMove sd; ini_BadMove F T, ?_⟩
    refine List.forall_mem_cons.mpr ⟨let ⟨_, F⟩ := fi_BadNets sd; ini_BadNets F T, ?_⟩
    refine List.forall_mem_cons.mpr ⟨let ⟨_, F⟩ := fi_BadRuns sd; ini_BadRuns F T, ?_⟩
    refine List.forall_mem_cons.mpr ⟨let ⟨_, F⟩ := fi_BadLog sd; ini_BadLog F T, ?_⟩
    refine List.forall_mem_cons.mpr ⟨let ⟨_, F⟩ := fi_BadLogText sd; ini_BadLogText F T, ?_⟩
    refine List.forall_mem_cons.mpr ⟨let ⟨_, F⟩ := fi_BadMany sd; ini_BadMany F T, ?_⟩
    refine List.forall_mem_cons.mpr ⟨let ⟨_, F⟩ := fi_BadNumber sd; ini_BadNumber F T, ?_⟩
    refine List.forall_mem_cons.mpr ⟨let ⟨_, F⟩ := fi_BadCell sd; ini_BadCell F T, ?_⟩
    refine List.forall_mem_cons.mpr ⟨let ⟨_, F⟩ := fi_BadCube sd; ini_BadCube F T, ?_⟩
    refine List.forall_mem_cons.mpr ⟨let ⟨_, F⟩ := fi_BadOther sd; ini_BadOther F T, ?_⟩
    refine List.forall_mem_cons.mpr ⟨let ⟨_, F⟩ := fi_BadCubes sd; ini_BadCubes F T, ?_⟩
    refine List.forall_mem_cons.mpr ⟨let ⟨_, F⟩ := fi_BadLevers sd; ini_BadLevers F T, ?_⟩
    refine List.forall_mem_cons.mpr ⟨let ⟨_, F⟩ := fi_BadTable sd; ini_BadTable F T, ?_⟩
    refine List.forall_mem_cons.mpr ⟨let ⟨_, F⟩ := fi_BadBursts sd; ini_BadBursts F T, ?_⟩
    refine List.forall_mem_cons.mpr ⟨let ⟨_, F⟩ := fi_BadPanel sd; ini_BadPanel F T, ?_⟩
    refine List.forall_mem_cons.mpr ⟨let ⟨_, F⟩ := fi_BadIndex sd; ini_BadIndex F T, ?_⟩
    refine List.forall_mem_cons.mpr ⟨let ⟨_, F⟩ := fi_BadSign sd; ini_BadSign F T, ?_⟩
    refine List.forall_mem_cons.mpr ⟨let ⟨_, F⟩ := fi_BadOn sd; ini_BadOn F T, ?_⟩
    exact fun _ z => nomatch z
  have h3 : ∀ p ∈ cls3, IniOk P w K mg base p := by
    refine List.forall_mem_cons.mpr ⟨let ⟨_, F⟩ := fi_BadOff sd; ini_BadOff F T, ?_⟩
    refine List.forall_mem_cons.mpr ⟨let ⟨_, F⟩ := fi_BadClash sd; ini_BadClash F T, ?_⟩
    refine List.forall_mem_cons.mpr ⟨let ⟨_, F⟩ := fi_BadPanelText sd; ini_BadPanelText F T, ?_⟩
    refine List.forall_mem_cons.mpr ⟨let ⟨_, F⟩ := fi_BadPath sd; ini_BadPath F T, ?_⟩
    refine List.forall_mem_cons.mpr ⟨let ⟨_, F⟩ := fi_BadStep sd; ini_BadStep F T, ?_⟩
    refine List.forall_mem_cons.mpr ⟨let ⟨_, F⟩ := fi_BadSteps sd; ini_BadSteps F T, ?_⟩
    exact fun _ z => nomatch z
  exact (List.forall_mem_append.mpr ⟨(List.forall_mem_append.mpr ⟨(List.forall_mem_append.mpr ⟨h0, h1⟩), h2⟩), h3⟩)
theorem all_ok {fa : Addr} (X : K.In h) (G : h.Ns mainGlobals mg) (sd : ∀ p ∈ fl, He.SaysD p.1 p.2 K) (e : ex K = true) (hfa : mg "law" = some (.ref fa)) :
    ∃ fd : FuncData, (∀ (s : Shared) (u : Value), BindsTo s fd ⟨[u], []⟩ [("script", u)]) ∧ ∀ base : Heap, FnOk P w K mg base CX0 5 fa fd ["script"] (spLaw K) := by
  have T := tx X G sd e
  have ez := hfa.symm.trans (g_law X G sd)
  cases ez
  obtain ⟨fd, F⟩ := f_law sd
  obtain ⟨d1, F1⟩ := f_law_start sd
  obtain ⟨d2, F2⟩ := f_law_pick sd
  obtain ⟨d3, F3⟩ := f_law_object sd
  obtain ⟨d4, F4⟩ := f_law_made_at sd
  obtain ⟨d5, F5⟩ := f_law_kinds_of sd
  obtain ⟨d6, F6⟩ := f_law_is_other sd
  obtain ⟨d7, F7⟩ := f_law_very sd
  obtain ⟨d8, F8⟩ := f_law_others sd
  obtain ⟨d9, F9⟩ := f_law_between sd
  obtain ⟨da, Fa⟩ := f_law_same sd
  obtain ⟨db, Fb⟩ := f_law_made_first sd
  obtain ⟨dc, Fc⟩ := f_law_made_middle sd
  obtain ⟨dd, Fd⟩ := f_law_made_last sd
  refine ⟨fd, fun s u => F.bindsA (ps := ["script"]) (fun _ _ _ _ _ _ us hl => match us, hl with | [_], _ => rfl) s [u] rfl, fun base => ?_⟩
  have hI : ∀ p ∈ cls, IniOk P w K mg base p := inis T sd
  have GP : FnOk P w K mg base CX0 1 _ d2 ["state", "many"] spPick := ok_pick F2 (T.fr "abs" (by decide +kernel)) (T.fr "int" (by decide +kernel))
  exact ok_law F T F1 (g_law_start X G sd) (ok_start F1 T) F2 (g_law_pick X G sd) GP F3 (g_law_object X G sd) (ok_object F3 T F2 (g_law_pick X G sd) GP F9 (g_law_between X G sd))
    F4 (g_law_made_at X G sd) (ok_made_at F4 T Fb Fc Fd (g_law_made_first X G sd) (g_law_made_middle X G sd) (g_law_made_last X G sd) hI) F5 (g_law_kinds_of X G sd) (ok_kinds F5 T)
    F6 (g_law_is_other X G sd) (ok_is_other F6 T) F7 (g_law_very X G sd) (ok_very F7 T Fa (g_law_same X G sd)) F8 (g_law_others X G sd) (ok_others F8 T hI)

end
end K89
open PySem PySem.W PySem.Calls PyProof.Rows
set_option maxHeartbeats 0 in
theorem PySem.Challenge.cw_steadynets_k89_errors_of_nets_and_answer_holds : PySem.Challenge.rw_steadynets_k89_errors_of_nets_and_answer.Holds := by
  w_on; o_law
  refine HandSHeadRun.head_any (r := OpenLaw.row PySem.Challenge.rw_steadynets_k89_errors_of_nets_and_answer) (q := view (OpenLaw.row PySem.Challenge.rw_steadynets_k89_errors_of_nets_and_answer).prog [87]) (H := K89.hk) (ob := K89.ob) (M := 40000) (loose := K89.loose) (d := HandSHeadRun.topDef (OpenLaw.row PySem.Challenge.rw_steadynets_k89_errors_of_nets_and_answer).prog 87) (kwd := []) K89.ob_eq
    (by kernel_rfl) (fun s => by kernel_rfl) K89.run (by kernel_rfl) (by kernel_rfl) (by kernel_rfl) (by rfl) (by first | assumption | decide +kernel) (by decide +kernel) ⟨rfl, rfl, rfl, rfl, rfl, by decide +kernel⟩ ?hw ?hc
  case hw => w_witness2
  case hc =>
    refine L2.walk_ofE (l := PySem.Challenge.rw_steadynets_k89_errors_of_nets_and_answer) (n := 63) (k := 5) (x := "script") (CX := L2.CX0) rfl (by decide) (by kernel_rfl) ⟨rfl, by decide, by decide⟩ ?F (fun _ _ _ _ z => z)
    intro w mg fa h Y G hmg0
    obtain ⟨K, KX, sd, e⟩ := Y
    have hmg : mg ("law" : PySem.Str) = some (.ref fa) := by
      have e : (HandSHeadRun.topDef (OpenLaw.row PySem.Challenge.rw_steadynets_k89_errors_of_nets_and_answer).prog 87).name = ("law" : PySem.Str) := by kernel_rfl
      rw [← e]
      exact hmg0
    obtain ⟨fd, hb, hF⟩ := K89.all_ok (P := (PySem.Challenge.rw_steadynets_k89_errors_of_nets_and_answer).prog) (w := w) KX G sd e hmg
    exact ⟨K, fd, K89.spLaw K, KX, hb, fun H a ns hl _ hS => ⟨a, ns, rfl, hS, hl, fun _ => rfl⟩, fun base _ _ => hF base⟩
#print axioms PySem.Challenge.cw_steadynets_k89_errors_of_nets_and_answer_holds
